import PyProof.Rows.All
import Wide.All
import OpenK.AllK
import Wide.FinOn
import HandS.ForMost
import HandS.Defaults
import HandS.Flow
import HandS.HeadHook4
import HandS.IsInst
import HandS.StrMore
import HandS.New0
import HandS.Style
import HandS.HeadEnd
import HandS.Head2
import Wide.Txt
import KE.KStateDown
import HandS.Ends
import PySem.Challenge.RW_keepback_k01_lines
set_option Elab.async false
set_option linter.all false
set_option maxRecDepth 100000
set_option maxHeartbeats 0
/-! the value layer: data, heaps, states -/
namespace Vl
open PySem PySem.Spec PyProof.Rows L2

/-- signs that there are -/
def Chs (l : List Nat) : Prop := ∀ c ∈ l, c < 1114112
instance (l : List Nat) : Decidable (Chs l) := inferInstanceAs (Decidable (∀ c ∈ l, c < 1114112))
theorem Chs.append {a b : List Nat} (h : Chs a) (k : Chs b) : Chs (a ++ b) := fun c m => (List.mem_append.mp m).elim (h c) (k c)
theorem Chs.sub {a b : List Nat} (h : Chs a) (k : ∀ c ∈ b, c ∈ a) : Chs b := fun c m => h c (k c m)
/-- data -/
inductive Da where
  | non | bl (b : Bool) | int (i : Int) | str (l : List Nat) | lst (xs : List Da) | tup (xs : List Da) | ins (c : Str) (fs : List (Str × Da)) | ty (n : String) | glo (x : Str) | scr (ns : List Int)
  deriving Inhabited

mutual
/-- a value stands for data, over the objects that stay -/
inductive Rp (K : PySem.W.Frag) (G : Hp) : V → Da → Prop
  | non : Rp K G .non .non
  | bl (b : Bool) : Rp K G (.bl b) (.bl b)
  | int (i : Int) : Rp K G (.int i) (.int i)
  | str {l : List Nat} (h : Chs l) : Rp K G (.str ⟨l.toArray⟩) (.str l)
  | lst {a : Addr} {vs : List V} {ds : List Da} : G a = some (.lst vs) → RpA K G vs ds → Rp K G (.ref a) (.lst ds)
  | tup {a : Addr} {vs : List V} {ds : List Da} : SqT K G a vs → RpA K G vs ds → Rp K G (.ref a) (.tup ds)
  | ins {a dx : Addr} {c : Str} {fs : List (Str × V)} {gs : List (Str × Da)} : G a = some (.ins (He.ga K c) dx fs) → RpF K G fs gs → Rp K G (.ref a) (.ins c gs)
  | ty (n : String) : Rp K G (.ty n) (.ty n)
  | glo (x : Str) : Rp K G (.ref (He.ga K x)) (.glo x)
  | scr {a : Addr} {ns : List Int} (h : SqL K G a (ns.map V.int)) : Rp K G (.ref a) (.scr ns)
inductive RpA (K : PySem.W.Frag) (G : Hp) : List V → List Da → Prop
  | nil : RpA K G [] []
  | cons {v : V} {vs : List V} {d : Da} {ds : List Da} : Rp K G v d → RpA K G vs ds → RpA K G (v :: vs) (d :: ds)
inductive RpF (K : PySem.W.Frag) (G : Hp) : List (Str × V) → List (Str × Da) → Prop
  | nil : RpF K G [] []
  | cons {x : Str} {v : V} {d : Da} {fs : List (Str × V)} {gs : List (Str × Da)} : Rp K G v d → RpF K G fs gs → RpF K G ((x, v) :: fs) ((x, d) :: gs)
end
section
variable {K : PySem.W.Frag} {G G' H : Hp}
theorem same_t (e : Same G G') {a : Addr} {xs : List V} (h : SqT K G a xs) : SqT K G' a xs := by
  rcases h with (h | ⟨o, h⟩) | h
  · exact .inl (.inl (e _ _ h))
  · exact .inl (.inr ⟨o, e _ _ h⟩)
  · exact .inr h
mutual
theorem Rp.mono (e : Same G G') : ∀ {v : V} {d : Da}, Rp K G v d → Rp K G' v d
  | _, _, .non => .non
  | _, _, .bl b => .bl b
  | _, _, .int i => .int i
  | _, _, .str h => .str h
  | _, _, .lst h r => .lst (e _ _ h) (RpA.mono e r)
  | _, _, .tup h r => .tup (same_t e h) (RpA.mono e r)
  | _, _, .ins h r => .ins (e _ _ h) (RpF.mono e r)
  | _, _, .ty n => .ty n
  | _, _, .glo x => .glo x
  | _, _, .scr h => .scr (e.seq h)
theorem RpA.mono (e : Same G G') : ∀ {vs : List V} {ds : List Da}, RpA K G vs ds → RpA K G' vs ds
  | _, _, .nil => .nil
  | _, _, .cons h r => .cons (Rp.mono e h) (RpA.mono e r)
theorem RpF.mono (e : Same G G') : ∀ {fs : List (Str × V)} {gs : List (Str × Da)}, RpF K G fs gs → RpF K G' fs gs
  | _, _, .nil => .nil
  | _, _, .cons h r => .cons (Rp.mono e h) (RpF.mono e r)
end
theorem RpA.length : ∀ {vs : List V} {ds : List Da}, RpA K G vs ds → vs.length = ds.length
  | _, _, .nil => rfl
  | _, _, .cons _ r => congrArg Nat.succ (RpA.length r)
theorem RpA.append : ∀ {vs us : List V} {ds es : List Da}, RpA K G vs ds → RpA K G us es → RpA K G (vs ++ us) (ds ++ es)
  | _, _, _, _, .nil, s => s
  | _, _, _, _, .cons h r, s => .cons h (RpA.append r s)
theorem RpA.get : ∀ {vs : List V} {ds : List Da} {i : Nat} {v : V}, RpA K G vs ds → vs[i]? = some v → ∃ d, ds[i]? = some d ∧ Rp K G v d
  | _, _, _, _, .nil, e => by simp at e
  | _, _, 0, _, .cons h _, e => by simp at e; subst e; exact ⟨_, rfl, h⟩
  | _, _, i + 1, v, .cons _ r, e => by
    obtain ⟨d, h1, h2⟩ := RpA.get (i := i) (v := v) r (by simpa using e)
    exact ⟨d, by simpa using h1, h2⟩
theorem RpA.get' : ∀ {vs : List V} {ds : List Da} {i : Nat} {d : Da}, RpA K G vs ds → ds[i]? = some d → ∃ v, vs[i]? = some v ∧ Rp K G v d
  | _, _, _, _, .nil, e => by simp at e
  | _, _, 0, _, .cons h _, e => by simp at e; subst e; exact ⟨_, rfl, h⟩
  | _, _, i + 1, d, .cons _ r, e => by
    obtain ⟨v, h1, h2⟩ := RpA.get' (i := i) (d := d) r (by simpa using e)
    exact ⟨v, by simpa using h1, h2⟩
theorem RpA.set : ∀ {vs : List V} {ds : List Da} (i : Nat) {v : V} {d : Da}, RpA K G vs ds → Rp K G v d → RpA K G (vs.set i v) (ds.set i d)
  | _, _, _, _, _, .nil, _ => .nil
  | _, _, 0, _, _, .cons _ r, h => .cons h r
  | _, _, i + 1, _, _, .cons q r, h => .cons q (RpA.set i r h)
theorem RpA.take : ∀ {vs : List V} {ds : List Da} (n : Nat), RpA K G vs ds → RpA K G (vs.take n) (ds.take n)
  | _, _, 0, _ => .nil
  | _, _, _ + 1, .nil => .nil
  | _, _, n + 1, .cons h r => .cons h (RpA.take n r)
theorem RpA.drop : ∀ {vs : List V} {ds : List Da} (n : Nat), RpA K G vs ds → RpA K G (vs.drop n) (ds.drop n)
  | _, _, 0, r => r
  | _, _, _ + 1, .nil => .nil
  | _, _, n + 1, .cons _ r => RpA.drop n r
theorem RpF.look : ∀ {fs : List (Str × V)} {gs : List (Str × Da)} (f : Str), RpF K G fs gs → (fs.lookup f = none ∧ gs.lookup f = none) ∨ ∃ v d, fs.lookup f = some v ∧ gs.lookup f = some d ∧ Rp K G v d
  | _, _, _, .nil => .inl ⟨rfl, rfl⟩
  | (x, v) :: fs, (_, d) :: gs, f, .cons h r => by
    cases e : (f == x) with
    | true => exact .inr ⟨v, d, by simp [List.lookup, e], by simp [List.lookup, e], h⟩
    | false => simpa [List.lookup, e] using RpF.look f r
theorem RpF.length : ∀ {fs : List (Str × V)} {gs : List (Str × Da)}, RpF K G fs gs → fs.length = gs.length
  | _, _, .nil => rfl
  | _, _, .cons _ r => congrArg Nat.succ (RpF.length r)

/-! ### heaps: G0, H0 ahead (what stays, all), G, H now; M: what may change though it stood -/
structure Cg (M : Addr → Prop) (G0 H0 G H : Hp) : Prop where
  gg : Same G0 G
  gh : Same G H
  hh : ∀ b o, ¬ M b → H0 b = some o → H b = some o
  fr : ∀ b o, G b = some o → G0 b = some o ∨ H0 b = none
  mg : ∀ b, M b → G b = none ∧ ∃ o, H0 b = some o
  mh : ∀ b, M b → ∃ o, H b = some o
abbrev No : Addr → Prop := fun _ => False
abbrev Cn (G H G' H' : Hp) : Prop := Cg No G H G' H'
theorem Cn.same {G H G' H' : Hp} (c : Cn G H G' H') : Same H H' := fun b o h => c.hh b o (fun z => z) h
theorem Cn.refl (e : Same G H) : Cn G H G H := ⟨Same.refl _, e, fun _ _ _ h => h, fun _ _ h => .inl h, fun _ h => h.elim, fun _ h => h.elim⟩
theorem Cg.step {M : Addr → Prop} {G0 H0 G H G1 H1 : Hp} (c : Cg M G0 H0 G H) (s : Cn G H G1 H1) : Cg M G0 H0 G1 H1 where
  gg := c.gg.trans s.gg
  gh := s.gh
  hh := fun b o nm h => s.same b o (c.hh b o nm h)
  fr := fun b o h => by
    rcases s.fr b o h with h1 | h1
    · exact c.fr b o h1
    · refine .inr ?_
      cases e : H0 b with
      | none => rfl
      | some u =>
        by_cases m : M b
        · obtain ⟨u', hu⟩ := c.mh b m
          rw [h1] at hu
          cases hu
        · have := c.hh b u m e
          rw [h1] at this
          cases this
  mg := fun b m => by
    refine ⟨?_, (c.mg b m).2⟩
    cases e : G1 b with
    | none => rfl
    | some u =>
      rcases s.fr b u e with h1 | h1
      · rw [(c.mg b m).1] at h1
        cases h1
      · obtain ⟨u', hu⟩ := c.mh b m
        rw [h1] at hu
        cases hu
  mh := fun b m => by
    obtain ⟨o, h⟩ := c.mh b m
    exact ⟨o, s.same b o h⟩
theorem Cn.trans {G H G1 H1 G2 H2 : Hp} (a : Cn G H G1 H1) (b : Cn G1 H1 G2 H2) : Cn G H G2 H2 := a.step b
/-- a new object that stays -/
theorem Cn.new {G H : Hp} (e : Same G H) {p : Addr} (np : H p = none) (o : HO) : Cn G H (upd G p o) (upd H p o) where
  gg := fun b u h => by
    rw [upd_ne (ne_of_none (e _ _ h) np)]
    exact h
  gh := fun b u h => by
    by_cases hb : b = p
    · subst hb
      rw [upd_same] at h ⊢
      exact h
    · rw [upd_ne hb] at h ⊢
      exact e _ _ h
  hh := fun b u _ h => by
    rw [upd_ne (ne_of_none h np)]
    exact h
  fr := fun b u h => by
    by_cases hb : b = p
    · subst hb
      exact .inr np
    · rw [upd_ne hb] at h
      exact .inl h
  mg := fun _ h => h.elim
  mh := fun _ h => h.elim
/-- a new object that may change -/
theorem Cn.newM {G H : Hp} (e : Same G H) {p : Addr} (np : H p = none) (o : HO) : Cn G H G (upd H p o) where
  gg := Same.refl _
  gh := fun b u h => by
    rw [upd_ne (ne_of_none (e _ _ h) np)]
    exact e _ _ h
  hh := fun b u _ h => by
    rw [upd_ne (ne_of_none h np)]
    exact h
  fr := fun b u h => .inl h
  mg := fun _ h => h.elim
  mh := fun _ h => h.elim
/-- what stands alone is let stay -/
theorem Cn.freeze {G H : Hp} (e : Same G H) {p : Addr} {o : HO} (ng : G p = none) (hp : H p = some o) : Same G (upd G p o) ∧ Same (upd G p o) H := by
  refine ⟨fun b u h => ?_, fun b u h => ?_⟩
  · rw [upd_ne (ne_of_none h ng)]
    exact h
  · by_cases hb : b = p
    · subst hb
      rw [upd_same] at h
      rw [← h]
      exact hp
    · rw [upd_ne hb] at h
      exact e _ _ h
end

/-! ### what a slot holds -/
inductive Ce where
  | imm (d : Da) | lst (ds : List Da) | dic (kvs : List (Key × Da)) | obj (a : Option Nat) (c : Str) (fs : List (Str × Da)) | bls (n : Nat) (ds : List Da)
abbrev Env := List (Option Ce)
def Own (M : Addr → Option Nat) (H0 G H : Hp) (l : Addr) (o : HO) : Prop := G l = none ∧ (H0 l = none ∨ M l ≠ none) ∧ H l = some o
abbrev NoM : Addr → Option Nat := fun _ => none
inductive RpK (K : PySem.W.Frag) (G : Hp) : List (Key × V) → List (Key × Da) → Prop
  | nil : RpK K G [] []
  | cons {x : Key} {v : V} {d : Da} {fs : List (Key × V)} {gs : List (Key × Da)} : Rp K G v d → RpK K G fs gs → RpK K G ((x, v) :: fs) ((x, d) :: gs)
theorem RpK.mono {K : PySem.W.Frag} {G G' : Hp} (e : Same G G') : ∀ {fs : List (Key × V)} {gs : List (Key × Da)}, RpK K G fs gs → RpK K G' fs gs
  | _, _, .nil => .nil
  | _, _, .cons h r => .cons (Rp.mono e h) (RpK.mono e r)
def CeOk (K : PySem.W.Frag) (M : Addr → Option Nat) (H0 G H : Hp) (v : V) : Ce → Prop
  | .imm d => Rp K G v d
  | .lst ds => ∃ l vs, v = .ref l ∧ Own NoM H0 G H l (.lst vs) ∧ RpA K G vs ds
  | .dic kvs => ∃ l ks, v = .ref l ∧ Own M H0 G H l (.dK ks) ∧ RpK K G ks kvs
  | .obj a c gs => ∃ l dx fs, v = .ref l ∧ Own M H0 G H l (.ins (He.ga K c) dx fs) ∧ RpF K G fs gs ∧ ∀ n, a = some n → M l = some n
  | .bls n ds => ∃ p vs, v = .ref p ∧ Own M H0 G H p (.lst vs) ∧ RpA K G vs ds ∧ M p = some n
def isOwn : Ce → Bool
  | .imm _ => false
  | _ => true
theorem Own.any {M : Addr → Option Nat} {H0 G H : Hp} {l : Addr} {o : HO} (w : Own NoM H0 G H l o) : Own M H0 G H l o := ⟨w.1, .inl (w.2.1.elim id fun z => absurd rfl z), w.2.2⟩
theorem CeOk.own {K : PySem.W.Frag} {M : Addr → Option Nat} {H0 G H : Hp} {v : V} {c : Ce} (h : CeOk K M H0 G H v c) (o : isOwn c = true) : ∃ l u, v = .ref l ∧ Own M H0 G H l u := by
  cases c with
  | imm d => cases o
  | lst ds => obtain ⟨l, vs, e, w, _⟩ := h; exact ⟨l, _, e, w.any⟩
  | dic ds => obtain ⟨l, vs, e, w, _⟩ := h; exact ⟨l, _, e, w⟩
  | obj a c ds => obtain ⟨l, dx, vs, e, w, _⟩ := h; exact ⟨l, _, e, w⟩
  | bls n ds => obtain ⟨p, vs, e, w, _⟩ := h; exact ⟨p, _, e, w⟩

/-- what stood: M what may change though it stood, G0 what stays, H0 all; F: what else must not be touched -/
structure Bs where
  M : Addr → Option Nat
  G0 : Hp
  H0 : Hp
  F : Hp
/-- the state: names by slots, heaps -/
structure Stt (K : PySem.W.Frag) (B : Bs) (ρ : Env) (σ : L2.St) (G H : Hp) : Prop where
  cg : Cg (fun a => B.M a ≠ none) B.G0 B.H0 G H
  pf : ∀ b o, B.F b = some o → H b = some o ∧ G b = none
  sf : ∀ (i : Nat) (c : Ce) (l : Addr), ρ[i]? = some (some c) → isOwn c = true → σ[i]? = some (some (.ref l)) → B.F l = none
  len : σ.length = ρ.length
  sl : ∀ (i : Nat) (c : Ce), ρ[i]? = some (some c) → ∃ v, σ[i]? = some (some v) ∧ CeOk K B.M B.H0 G H v c
  sep : ∀ (i j : Nat) (c d : Ce) (v : V), i ≠ j → ρ[i]? = some (some c) → ρ[j]? = some (some d) → isOwn c = true → isOwn d = true → σ[i]? = some (some v) → σ[j]? = some (some v) → False
section
variable {K : PySem.W.Frag} {B : Bs} {M : Addr → Option Nat} {H0 G H G1 H1 : Hp} {ρ : Env} {σ : L2.St}
theorem Own.step {l : Addr} {o : HO} (w : Own M H0 G H l o) (s : Cn G H G1 H1) : Own M H0 G1 H1 l o := by
  obtain ⟨w1, w2, w3⟩ := w
  refine ⟨?_, w2, s.same _ _ w3⟩
  cases e : G1 l with
  | none => rfl
  | some u =>
    rcases s.fr l u e with h1 | h1
    · rw [w1] at h1
      cases h1
    · rw [w3] at h1
      cases h1
theorem CeOk.step {v : V} {c : Ce} (h : CeOk K M H0 G H v c) (s : Cn G H G1 H1) : CeOk K M H0 G1 H1 v c := by
  cases c with
  | imm d => exact Rp.mono s.gg h
  | lst ds => obtain ⟨l, vs, e, w, r⟩ := h; exact ⟨l, vs, e, w.step s, r.mono s.gg⟩
  | dic ds => obtain ⟨l, vs, e, w, r⟩ := h; exact ⟨l, vs, e, w.step s, r.mono s.gg⟩
  | obj a c ds => obtain ⟨l, dx, vs, e, w, r, ea⟩ := h; exact ⟨l, dx, vs, e, w.step s, r.mono s.gg, ea⟩
  | bls n ds => obtain ⟨p, vs, e, w, r, en⟩ := h; exact ⟨p, vs, e, w.step s, r.mono s.gg, en⟩
theorem Stt.step (t : Stt K B ρ σ G H) (s : Cn G H G1 H1) : Stt K B ρ σ G1 H1 where
  cg := t.cg.step s
  pf := fun b o q => by
    obtain ⟨h1, h2⟩ := t.pf b o q
    refine ⟨s.same _ _ h1, ?_⟩
    cases e : G1 b with
    | none => rfl
    | some u =>
      rcases s.fr b u e with z | z
      · rw [h2] at z
        cases z
      · rw [h1] at z
        cases z
  sf := t.sf
  len := t.len
  sl := fun i c h => let ⟨v, e, r⟩ := t.sl i c h; ⟨v, e, r.step s⟩
  sep := t.sep
theorem set_get {α : Type} {l : List α} {i j : Nat} {x y : α} (h : (l.set i x)[j]? = some y) : (i = j ∧ y = x) ∨ (i ≠ j ∧ l[j]? = some y) := by
  by_cases e : i = j
  · subst e
    rw [List.getElem?_set_self'] at h
    cases q : l[i]? with
    | none => rw [q] at h; cases h
    | some z => rw [q] at h; exact .inl ⟨rfl, (Option.some.inj h).symm⟩
  · rw [List.getElem?_set_ne e] at h
    exact .inr ⟨e, h⟩
theorem lt_of_get {α : Type} {l : List α} {i : Nat} {x : α} (h : l[i]? = some x) : i < l.length := (List.getElem?_eq_some_iff.mp h).1
/-- a slot takes a value -/
theorem Stt.set (t : Stt K B ρ σ G H) {i : Nat} {v : V} {c : Ce} (h : CeOk K B.M B.H0 G H v c)
    (hs : isOwn c = true → ∀ j d u, j ≠ i → ρ[j]? = some (some d) → isOwn d = true → σ[j]? = some (some u) → u ≠ v) (hf : isOwn c = true → ∀ l, v = .ref l → B.F l = none) : Stt K B (ρ.set i (some c)) (σ.set i (some v)) G H where
  cg := t.cg
  pf := t.pf
  sf := fun j d l h0 od es => by
    rcases set_get h0 with ⟨rfl, e⟩ | ⟨ne, e⟩
    · cases e
      rcases set_get es with ⟨_, q⟩ | ⟨q, _⟩
      · cases q
        exact hf od l rfl
      · exact absurd rfl q
    · rw [List.getElem?_set_ne ne] at es
      exact t.sf j d l e od es
  len := by rw [List.length_set, List.length_set]; exact t.len
  sl := fun j d h0 => by
    rcases set_get h0 with ⟨rfl, e⟩ | ⟨ne, e⟩
    · have hl := lt_of_get h0
      rw [List.length_set] at hl
      cases e
      exact ⟨v, by rw [List.getElem?_set_self (by rw [t.len]; exact hl)], h⟩
    · obtain ⟨u, e1, e2⟩ := t.sl j d e
      exact ⟨u, by rw [List.getElem?_set_ne ne]; exact e1, e2⟩
  sep := fun a b c' d' u hab ea eb oa ob sa sb => by
    rcases set_get ea with ⟨rfl, e1⟩ | ⟨n1, e1⟩
    · rcases set_get eb with ⟨e2, _⟩ | ⟨n2, e2⟩
      · exact hab e2
      · cases e1
        rcases set_get sa with ⟨_, q⟩ | ⟨q, _⟩
        · cases q
          rw [List.getElem?_set_ne n2] at sb
          exact hs oa b d' v (Ne.symm n2) e2 ob sb rfl
        · exact q rfl
    · rcases set_get eb with ⟨rfl, e2⟩ | ⟨n2, e2⟩
      · cases e2
        rcases set_get sb with ⟨_, q⟩ | ⟨q, _⟩
        · cases q
          rw [List.getElem?_set_ne n1] at sa
          exact hs ob a c' v (Ne.symm n1) e1 oa sa rfl
        · exact q rfl
      · rw [List.getElem?_set_ne n1] at sa
        rw [List.getElem?_set_ne n2] at sb
        exact t.sep a b c' d' u hab e1 e2 oa ob sa sb
theorem Stt.setI (t : Stt K B ρ σ G H) {i : Nat} {v : V} {d : Da} (h : Rp K G v d) : Stt K B (ρ.set i (some (.imm d))) (σ.set i (some v)) G H := t.set (c := .imm d) h (fun q => nomatch q) fun q => nomatch q
/-- a new list in a slot -/
theorem Stt.setNew (t : Stt K B ρ σ G H) {i : Nat} {p : Addr} {o : HO} {c : Ce} (np : H p = none) (h : CeOk K B.M B.H0 G (upd H p o) (.ref p) c) : Stt K B (ρ.set i (some c)) (σ.set i (some (.ref p))) G (upd H p o) := by
  have t1 := t.step (Cn.newM t.cg.gh np o)
  refine t1.set h (fun _ j d u _ e od es q => ?_) fun _ l el => by
    cases el
    cases q : B.F p with
    | none => rfl
    | some u =>
      rw [(t.pf p u q).1] at np
      cases np
  obtain ⟨u', e1, e2⟩ := t.sl j d e
  rw [es] at e1
  cases e1
  obtain ⟨l, o', e3, w⟩ := e2.own od
  rw [e3] at q
  cases q
  rw [w.2.2] at np
  cases np
/-- an own object changes -/
theorem Stt.write (t : Stt K B ρ σ G H) {i : Nat} {l : Addr} {o o' : HO} {c c' : Ce} (ei : ρ[i]? = some (some c)) (oc : isOwn c = true) (es : σ[i]? = some (some (.ref l))) (w : Own B.M B.H0 G H l o)
    (h : CeOk K B.M B.H0 G (upd H l o') (.ref l) c') : Stt K B (ρ.set i (some c')) σ G (upd H l o') where
  cg := {
    gg := t.cg.gg
    gh := fun b u q => by
      rw [upd_ne (ne_of_none q w.1)]
      exact t.cg.gh b u q
    hh := fun b u nm q => by
      have nb : b ≠ l := fun z => by
        subst z
        rcases w.2.1 with w2 | w2
        · rw [q] at w2
          cases w2
        · exact nm w2
      rw [upd_ne nb]
      exact t.cg.hh b u nm q
    fr := t.cg.fr
    mg := t.cg.mg
    mh := fun b m => by
      by_cases nb : b = l
      · subst nb
        exact ⟨o', upd_same⟩
      · rw [upd_ne nb]
        exact t.cg.mh b m }
  pf := fun b u q => by
    have nb : b ≠ l := fun z => by
      subst z
      rw [t.sf i c b ei oc es] at q
      cases q
    rw [upd_ne nb]
    exact t.pf b u q
  sf := fun j d l' h0 od es' => by
    rcases set_get h0 with ⟨rfl, e⟩ | ⟨ne, e⟩
    · rw [es] at es'
      cases es'
      exact t.sf _ c _ ei oc es
    · exact t.sf j d l' e od es'
  len := by rw [List.length_set]; exact t.len
  sl := fun j d h0 => by
    rcases set_get h0 with ⟨rfl, e⟩ | ⟨ne, e⟩
    · cases e
      exact ⟨_, es, h⟩
    · obtain ⟨u, e1, e2⟩ := t.sl j d e
      refine ⟨u, e1, ?_⟩
      have nu : isOwn d = true → u ≠ V.ref l := fun od q => t.sep i j c d (.ref l) ne ei e oc od es (q ▸ e1)
      cases d with
      | imm d => exact e2
      | lst ds =>
        obtain ⟨l', vs, e3, w', r⟩ := e2
        have nl : l' ≠ l := fun q => nu rfl (by rw [e3, q])
        exact ⟨l', vs, e3, ⟨w'.1, w'.2.1, by rw [upd_ne nl]; exact w'.2.2⟩, r⟩
      | dic ds =>
        obtain ⟨l', vs, e3, w', r⟩ := e2
        have nl : l' ≠ l := fun q => nu rfl (by rw [e3, q])
        exact ⟨l', vs, e3, ⟨w'.1, w'.2.1, by rw [upd_ne nl]; exact w'.2.2⟩, r⟩
      | obj a c ds =>
        obtain ⟨l', dx, vs, e3, w', r, ea⟩ := e2
        have nl : l' ≠ l := fun q => nu rfl (by rw [e3, q])
        exact ⟨l', dx, vs, e3, ⟨w'.1, w'.2.1, by rw [upd_ne nl]; exact w'.2.2⟩, r, ea⟩
      | bls n ds =>
        obtain ⟨p, vs, e3, w', r, en⟩ := e2
        have nl : p ≠ l := fun q => nu rfl (by rw [e3, q])
        exact ⟨p, vs, e3, ⟨w'.1, w'.2.1, by rw [upd_ne nl]; exact w'.2.2⟩, r, en⟩
  sep := fun a b c1 d1 u hab ea eb oa ob sa sb => by
    have old : ∀ {k : Nat} {z : Ce}, (ρ.set i (some c'))[k]? = some (some z) → isOwn z = true → ∃ z', ρ[k]? = some (some z') ∧ isOwn z' = true := fun {k z} e oz => by
      rcases set_get e with ⟨rfl, _⟩ | ⟨_, e⟩
      · exact ⟨c, ei, oc⟩
      · exact ⟨z, e, oz⟩
    obtain ⟨c2, ec, oc2⟩ := old ea oa
    obtain ⟨d2, ed, od2⟩ := old eb ob
    exact t.sep a b c2 d2 u hab ec ed oc2 od2 sa sb
/-- an own list, a dict stays from now on -/
theorem Stt.freeze (t : Stt K B ρ σ G H) {i : Nat} {ds : List Da} (ei : ρ[i]? = some (some (.lst ds))) :
    ∃ v G1, σ[i]? = some (some v) ∧ Stt K B (ρ.set i (some (.imm (.lst ds)))) σ G1 H ∧ Rp K G1 v (.lst ds) ∧ Same G G1 := by
  obtain ⟨v, es, l, vs, rfl, w, r⟩ := t.sl i _ ei
  obtain ⟨s1, s2⟩ := Cn.freeze t.cg.gh w.1 w.2.2
  have hl0 : B.H0 l = none := by
    rcases w.2.1 with z | z
    · exact z
    · exact absurd rfl z
  have rr : Rp K (upd G l (.lst vs)) (.ref l) (.lst ds) := .lst upd_same (r.mono s1)
  refine ⟨_, _, es, ⟨⟨t.cg.gg.trans s1, s2, t.cg.hh, fun b u q => ?_, fun b m => ?_, t.cg.mh⟩, fun b u q => ?_, fun j d l' h0 od es' => ?_, by rw [List.length_set]; exact t.len, fun j d h0 => ?_, fun a b c1 d1 u hab ea eb oa ob sa sb => ?_⟩, rr, s1⟩
  · by_cases hb : b = l
    · subst hb
      exact .inr hl0
    · rw [upd_ne hb] at q
      exact t.cg.fr b u q
  · refine ⟨?_, (t.cg.mg b m).2⟩
    have hb : b ≠ l := fun z => by
      obtain ⟨o, ho⟩ := (t.cg.mg b m).2
      rw [z, hl0] at ho
      cases ho
    rw [upd_ne hb]
    exact (t.cg.mg b m).1
  · obtain ⟨h1, h2⟩ := t.pf b u q
    have nb : b ≠ l := fun z => by
      subst z
      rw [t.sf i _ b ei rfl es] at q
      cases q
    rw [upd_ne nb]
    exact ⟨h1, h2⟩
  · rcases set_get h0 with ⟨rfl, e⟩ | ⟨ne, e⟩
    · cases e
      cases od
    · exact t.sf j d l' e od es'
  · rcases set_get h0 with ⟨rfl, e⟩ | ⟨ne, e⟩
    · cases e
      exact ⟨_, es, rr⟩
    · obtain ⟨u, e1, e2⟩ := t.sl j d e
      refine ⟨u, e1, ?_⟩
      have nu : isOwn d = true → u ≠ V.ref l := fun od q => t.sep i j _ d (.ref l) ne ei e rfl od es (q ▸ e1)
      cases d with
      | imm d => exact Rp.mono s1 e2
      | lst ds =>
        obtain ⟨l', vs', e3, w', r'⟩ := e2
        have nl : l' ≠ l := fun q => nu rfl (by rw [e3, q])
        exact ⟨l', vs', e3, ⟨by rw [upd_ne nl]; exact w'.1, w'.2⟩, r'.mono s1⟩
      | dic ds =>
        obtain ⟨l', vs', e3, w', r'⟩ := e2
        have nl : l' ≠ l := fun q => nu rfl (by rw [e3, q])
        exact ⟨l', vs', e3, ⟨by rw [upd_ne nl]; exact w'.1, w'.2⟩, r'.mono s1⟩
      | obj a c ds =>
        obtain ⟨l', dx, vs', e3, w', r', ea⟩ := e2
        have nl : l' ≠ l := fun q => nu rfl (by rw [e3, q])
        exact ⟨l', dx, vs', e3, ⟨by rw [upd_ne nl]; exact w'.1, w'.2⟩, r'.mono s1, ea⟩
      | bls n ds =>
        obtain ⟨p, vs', e3, w', r', en⟩ := e2
        have nl : p ≠ l := fun q => nu rfl (by rw [e3, q])
        exact ⟨p, vs', e3, ⟨by rw [upd_ne nl]; exact w'.1, w'.2⟩, r'.mono s1, en⟩
  · have old : ∀ {k : Nat} {z : Ce}, (ρ.set i (some (Ce.imm (.lst ds))))[k]? = some (some z) → isOwn z = true → ρ[k]? = some (some z) := fun {k z} h0 oz => by
      rcases set_get h0 with ⟨rfl, e⟩ | ⟨_, e⟩
      · cases e
        cases oz
      · exact e
    exact t.sep a b c1 d1 u hab (old ea oa) (old eb ob) oa ob sa sb
end
end Vl
/-! the value layer: outcomes, readings, judgements -/
namespace Vl
open PySem PySem.Spec PyProof.Rows L2

structure Exn where
  c : Str
  fs : Option (List (Str × Da))
/-- an outcome -/
inductive Out (α : Type) where
  | stuck | ok (a : α) (ρ : Env) | exn (e : Exn) (ρ : Env)
abbrev EM (α : Type) := Env → Out α
def mB {α β : Type} (x : EM α) (f : α → EM β) : EM β := fun ρ => match x ρ with
  | .ok a ρ' => f a ρ'
  | .exn e ρ' => .exn e ρ'
  | .stuck => .stuck
def mP {α : Type} (a : α) : EM α := fun ρ => .ok a ρ
def mO {α : Type} (o : Option α) : EM α := fun ρ => match o with
  | some a => .ok a ρ
  | none => .stuck
def Sat {α : Type} (o : Out α) (R : α → Env → Prop) (E : Exn → Env → Prop) : Prop := match o with
  | .ok a ρ => R a ρ
  | .exn e ρ => E e ρ
  | .stuck => False
theorem Sat.imp {α : Type} {o : Out α} {R R' : α → Env → Prop} {E E' : Exn → Env → Prop} (h : Sat o R E) (hR : ∀ a ρ, R a ρ → R' a ρ) (hE : ∀ e ρ, E e ρ → E' e ρ) : Sat o R' E' := by
  cases o with
  | ok a ρ => exact hR a ρ h
  | exn e ρ => exact hE e ρ h
  | stuck => exact h
theorem sat_bind {α β : Type} {x : EM α} {f : α → EM β} {ρ : Env} {R : β → Env → Prop} {E : Exn → Env → Prop} (h : Sat (mB x f ρ) R E) : Sat (x ρ) (fun a ρ' => Sat (f a ρ') R E) E := by
  unfold mB at h
  cases e : x ρ with
  | ok a ρ' => rw [e] at h; exact h
  | exn a ρ' => rw [e] at h; exact h
  | stuck => rw [e] at h; exact h
theorem sat_o {α : Type} {o : Option α} {ρ : Env} {R : α → Env → Prop} {E : Exn → Env → Prop} (h : Sat (mO o ρ) R E) : ∃ a, o = some a ∧ R a ρ := by
  cases o with
  | none => exact h.elim
  | some a => exact ⟨a, rfl, h⟩

section
variable (K : PySem.W.Frag) (W : WX)
def ExOk (H : Hp) (cls : Value) (dx : Option Addr) (e : Exn) : Prop := cls = .ref (He.ga K e.c) ∧ match e.fs with
  | none => dx = none
  | some fs => ∃ a gs, dx = some a ∧ H a = some (.xd gs) ∧ RpF K H gs fs
def exW (B : Bs) (σ : L2.St) : Exn → Env → Prop := fun e ρ' => ∀ G' H' cls dx, Stt K B ρ' σ G' H' → ExOk K H' cls dx e → W cls dx σ H'
/-- the reading of an expression by a function on data -/
def tV (f : EM Da) : TE := fun σ H Q => ∃ B ρ G, Stt K B ρ σ G H ∧ Sat (f ρ) (fun d ρ' => ∀ v G' H', Same G G' → Stt K B ρ' σ G' H' → Rp K G' v d → Q v H') (exW K W B σ)
def tVt (f : EM Bool) : TT := fun σ H Q => ∃ B ρ G, Stt K B ρ σ G H ∧ Sat (f ρ) (fun b ρ' => ∀ G' H', Same G G' → Stt K B ρ' σ G' H' → Q b H') (exW K W B σ)
def tVa (f : EM (List Da)) : TA := fun σ H Q => ∃ B ρ G, Stt K B ρ σ G H ∧ Sat (f ρ) (fun ds ρ' => ∀ vs G' H', Same G G' → Stt K B ρ' σ G' H' → RpA K G' vs ds → Q vs H') (exW K W B σ)
/-- a new list | a new thing of its own -/
def tVn (f : EM (List Da)) : TE := fun σ H Q => ∃ B ρ G, Stt K B ρ σ G H ∧ Sat (f ρ) (fun ds ρ' => ∀ p vs G' H', Same G G' → H' p = none → Stt K B ρ' σ G' H' → RpA K G' vs ds → vs.length ≤ sizeLine → Q (.ref p) (upd H' p (.lst vs))) (exW K W B σ)
inductive Pk where
  | d (x : Da) | s (i : Nat)
def PkOk (σ : L2.St) (G : Hp) (v : V) : Pk → Prop
  | .d x => Rp K G v x
  | .s i => σ[i]? = some (some v)
def tVp (f : EM Pk) : TE := fun σ H Q => ∃ B ρ G, Stt K B ρ σ G H ∧ Sat (f ρ) (fun p ρ' => ∀ v G' H', Same G G' → Stt K B ρ' σ G' H' → PkOk K σ G' v p → Q v H') (exW K W B σ)
/-- statements -/
inductive Fl where
  | nx | rt (d : Da) | bk | ct | rn (ds : List Da)
def FlOk (B : Bs) (D : Ends) (Gs : Hp) (fl : Fl) (ρ : Env) : Prop := match fl with
  | .nx => ∀ σ G H, Same Gs G → Stt K B ρ σ G H → D.nx σ H
  | .rt d => ∀ v σ G H, Same Gs G → Stt K B ρ σ G H → Rp K G v d → D.rt v H
  | .bk => ∀ σ G H, Same Gs G → Stt K B ρ σ G H → D.bk σ H
  | .ct => ∀ σ G H, Same Gs G → Stt K B ρ σ G H → D.ct σ H
  | .rn ds => ∀ p vs σ G H, Same Gs G → Stt K B ρ σ G H → Own NoM B.H0 G H p (.lst vs) → RpA K G vs ds → D.rt (.ref p) H
def exS (B : Bs) : Exn → Env → Prop := fun e ρ' => ∀ σ G' H' cls dx, Stt K B ρ' σ G' H' → ExOk K H' cls dx e → W cls dx σ H'
def tVs (f : EM Fl) : TS := fun D σ H => ∃ B ρ G, Stt K B ρ σ G H ∧ Sat (f ρ) (FlOk K B D G) (exS K W B)
theorem FlOk.mono {K : PySem.W.Frag} {B : Bs} {D : Ends} {G G' : Hp} {fl : Fl} {ρ : Env} (e : Same G G') (h : FlOk K B D G fl ρ) : FlOk K B D G' fl ρ := by
  cases fl with
  | nx => exact fun σ G2 H g t => h σ G2 H (e.trans g) t
  | rt d => exact fun v σ G2 H g t r => h v σ G2 H (e.trans g) t r
  | bk => exact fun σ G2 H g t => h σ G2 H (e.trans g) t
  | ct => exact fun σ G2 H g t => h σ G2 H (e.trans g) t
  | rn ds => exact fun p vs σ G2 H g t w r => h p vs σ G2 H (e.trans g) t w r
end
def look (ρ : Env) : Pk → Option Da
  | .d x => some x
  | .s i => match ρ[i]? with
    | some (some (.imm d)) => some d
    | some (some (.lst ds)) => some (.lst ds)
    | some (some (.bls _ ds)) => some (.lst ds)
    | _ => none
/-- what an operation may look at -/
def See (K : PySem.W.Frag) (G H : Hp) (v : V) : Da → Prop
  | .lst ds => ∃ a vs, v = .ref a ∧ H a = some (.lst vs) ∧ RpA K G vs ds
  | .tup ds => ∃ a vs, v = .ref a ∧ SqT K H a vs ∧ RpA K G vs ds
  | d => Rp K G v d
section
variable {K : PySem.W.Frag} {W : WX} {B : Bs} {G H : Hp} {ρ : Env} {σ : L2.St}
theorem See.of {v : V} {d : Da} (e : Same G H) (h : Rp K G v d) : See K G H v d := by
  cases h with
  | lst h r => exact ⟨_, _, rfl, e _ _ h, r⟩
  | tup h r => exact ⟨_, _, rfl, same_t e h, r⟩
  | non => exact .non
  | bl b => exact .bl b
  | int i => exact .int i
  | str h => exact .str h
  | ins h r => exact .ins h r
  | ty n => exact .ty n
  | glo x => exact .glo x
  | scr h => exact .scr h
theorem see_of (t : Stt K B ρ σ G H) {v : V} {p : Pk} {d : Da} (h : PkOk K σ G v p) (l : look ρ p = some d) : See K G H v d := by
  cases p with
  | d x => cases l; exact See.of t.cg.gh h
  | s i =>
    have hv : σ[i]? = some (some v) := h
    cases e2 : ρ[i]? with
    | none => simp [look, e2] at l
    | some o =>
      cases o with
      | none => simp [look, e2] at l
      | some c =>
        obtain ⟨u, e3, r⟩ := t.sl i _ e2
        rw [hv] at e3
        cases e3
        cases c with
        | imm d' =>
          simp only [look, e2, Option.some.injEq] at l
          subst l
          exact See.of t.cg.gh r
        | lst ds =>
          simp only [look, e2, Option.some.injEq] at l
          subst l
          obtain ⟨a, vs, e4, w, r⟩ := r
          exact ⟨a, vs, e4, w.2.2, r⟩
        | dic ds => simp [look, e2] at l
        | obj a c ds => simp [look, e2] at l
        | bls n ds =>
          simp only [look, e2, Option.some.injEq] at l
          subst l
          obtain ⟨p, vs, e4, w, r, _⟩ := r
          exact ⟨p, vs, e4, w.2.2, r⟩
theorem PkOk.mono {v : V} {p : Pk} {G' : Hp} (e : Same G G') (h : PkOk K σ G v p) : PkOk K σ G' v p := by
  cases p with
  | d x => exact Rp.mono e h
  | s i => exact h
end

theorem pe_mono {X : Cx} {e : Expr} {t t' : TE} (h : PE X e t) (k : ∀ σ H Q, t' σ H Q → t σ H Q) : PE X e t' := ⟨fun pins s σ H Q I q => h.run pins s σ H Q I (k σ H Q q)⟩
theorem pt_mono {X : Cx} {e : Expr} {t t' : TT} (h : PT X e t) (k : ∀ σ H Q, t' σ H Q → t σ H Q) : PT X e t' := ⟨fun pins s σ H Q I q => h.run pins s σ H Q I (k σ H Q q)⟩
theorem pa_mono {X : Cx} {es : List Expr} {t t' : TA} (h : PA X es t) (k : ∀ σ H Q, t' σ H Q → t σ H Q) : PA X es t' := ⟨fun pos pins s σ H Q I q => h.run pos pins s σ H Q I (k σ H Q q)⟩
theorem ps_mono {X : Cx} {e : Stmt} {t t' : TS} (h : PS X e t) (k : ∀ D σ H, t' D σ H → t D σ H) : PS X e t' := ⟨fun pins s σ H D I q => h.run pins s σ H D I (k D σ H q)⟩
theorem pss_mono {X : Cx} {e : List Stmt} {t t' : TS} (h : PSs X e t) (k : ∀ D σ H, t' D σ H → t D σ H) : PSs X e t' := ⟨fun pins s σ H D I q => h.run pins s σ H D I (k D σ H q)⟩

abbrev VE (X : Cx) (W : WX) (e : Expr) (f : EM Da) : Prop := PE X e (tV X.K W f)
abbrev VP (X : Cx) (W : WX) (e : Expr) (f : EM Pk) : Prop := PE X e (tVp X.K W f)
abbrev VN (X : Cx) (W : WX) (e : Expr) (f : EM (List Da)) : Prop := PE X e (tVn X.K W f)
abbrev VT (X : Cx) (W : WX) (e : Expr) (f : EM Bool) : Prop := PT X e (tVt X.K W f)
abbrev VA (X : Cx) (W : WX) (es : List Expr) (f : EM (List Da)) : Prop := PA X es (tVa X.K W f)
abbrev VS (X : Cx) (W : WX) (st : Stmt) (f : EM Fl) : Prop := PS X st (tVs X.K W f)
abbrev VSs (X : Cx) (W : WX) (st : List Stmt) (f : EM Fl) : Prop := PSs X st (tVs X.K W f)

section
variable {X : Cx} {W : WX}
/-! ### from one kind to another -/
def fD (f : EM Da) : EM Pk := mB f fun d => mP (.d d)
def fN (f : EM (List Da)) : EM Da := mB f fun ds => mP (.lst ds)
theorem vp_of {e : Expr} {f : EM Da} (h : VE X W e f) : VP X W e (fD f) := pe_mono h fun σ H Q ⟨B, ρ, G, t, s⟩ =>
  ⟨B, ρ, G, t, (sat_bind s).imp (fun d ρ' k v G' H' g t' r => k v G' H' g t' r) fun e ρ' k => k⟩
theorem ve_of_n {e : Expr} {f : EM (List Da)} (h : VN X W e f) : VE X W e (fN f) := pe_mono h fun σ H Q ⟨B, ρ, G, t, s⟩ =>
  ⟨B, ρ, G, t, (sat_bind s).imp (fun ds ρ' k p vs G' H' g np t' r hl => by
    have c := Cn.new t'.cg.gh np (.lst vs)
    exact k _ _ _ (g.trans c.gg) (t'.step c) (.lst upd_same (r.mono c.gg))) fun e ρ' k => k⟩

/-! ### names, constants -/
def fName (i : Nat) : EM Da := fun ρ => match ρ[i]? with
  | some (some (.imm d)) => .ok d ρ
  | some (some (.lst ds)) => .ok (.lst ds) (ρ.set i (some (.imm (.lst ds))))
  | _ => .stuck
def fPeek (i : Nat) : EM Pk := fun ρ => match ρ[i]? with
  | some (some _) => .ok (.s i) ρ
  | _ => .stuck
theorem ve_name (i : Nat) {x : Str} {pos : Pos} (hN : X.N[i]? = some x := by rfl) (hv : Vis X.env.scope x := by first | exact Or.inl rfl | exact Or.inr (Or.inl rfl) | exact Or.inr (Or.inr rfl)) (hd : (x == ("__debug__" : Str)) = false := by decide)
    (hcd : (x == ("__classdict__" : Str)) = false := by decide) : VE X W (.Name x pos) (fName i) := pe_mono (pe_var hN hv hd hcd) fun σ H Q ⟨B, ρ, G, t, s⟩ => by
  unfold fName at s
  split at s
  · rename_i d e
    obtain ⟨v, e1, r⟩ := t.sl i _ e
    exact ⟨v, e1, s v G H (Same.refl _) t r⟩
  · rename_i ds e
    obtain ⟨v, G1, e1, t1, r, g⟩ := t.freeze e
    exact ⟨v, e1, s v G1 H g t1 r⟩
  · exact s.elim
theorem vp_name (i : Nat) {x : Str} {pos : Pos} (hN : X.N[i]? = some x := by rfl) (hv : Vis X.env.scope x := by first | exact Or.inl rfl | exact Or.inr (Or.inl rfl) | exact Or.inr (Or.inr rfl)) (hd : (x == ("__debug__" : Str)) = false := by decide)
    (hcd : (x == ("__classdict__" : Str)) = false := by decide) : VP X W (.Name x pos) (fPeek i) := pe_mono (pe_var hN hv hd hcd) fun σ H Q ⟨B, ρ, G, t, s⟩ => by
  unfold fPeek at s
  split at s
  · rename_i c e
    obtain ⟨v, e1, r⟩ := t.sl i _ e
    exact ⟨v, e1, s v G H (Same.refl _) t e1⟩
  · exact s.elim
theorem ve_const {e : Expr} {v : V} {d : Da} (h : PE X e (tC v)) (r : ∀ G, Rp X.K G v d) : VE X W e (mP d) := pe_mono h fun σ H Q ⟨B, ρ, G, t, s⟩ => s v G H (Same.refl _) t (r G)
theorem ve_int {i : Int} {j : Nat} {pos : Pos} : VE X W (.Constant (.int i) j pos) (mP (.int i)) := ve_const pe_int fun _ => .int i
theorem ve_bl {b : Bool} {j : Nat} {pos : Pos} : VE X W (.Constant (.bool b) j pos) (mP (.bl b)) := ve_const pe_bl fun _ => .bl b
theorem ve_non {j : Nat} {pos : Pos} : VE X W (.Constant .none j pos) (mP .non) := ve_const pe_non fun _ => .non
theorem rp_lit {K : PySem.W.Frag} {G : Hp} {x : Str} {l : List Nat} (hl : x = ⟨l.toArray⟩) (hc : Chs l) : Rp K G (.str x) (.str l) := by
  subst hl
  exact .str hc
theorem ve_str (l : List Nat) {x : Str} {j : Nat} {pos : Pos} (hl : x = ⟨l.toArray⟩ := by decide +kernel) (hc : Chs l := by decide +kernel) : VE X W (.Constant (.str x) j pos) (mP (.str l)) := ve_const pe_str fun _ => rp_lit hl hc
/-- a text of the module -/
theorem ve_gstr (l : List Nat) {x z : Str} {pos : Pos} (hg : Gl X x) (hm : ∃ t, X.mg x = some (.str z t)) (hl : z = ⟨l.toArray⟩ := by decide +kernel) (hc : Chs l := by decide +kernel) (hd : (x == ("__debug__" : Str)) = false := by decide) : VE X W (.Name x pos) (mP (.str l)) := by
  obtain ⟨t, e⟩ := hm
  exact ve_const (v := .str z) (pe_glob hg e ⟨t, rfl⟩ hd) fun _ => rp_lit hl hc
theorem ve_gint (i : Int) {x : Str} {pos : Pos} (hg : Gl X x) (hm : ∃ t, X.mg x = some (.int i t)) (hd : (x == ("__debug__" : Str)) = false := by decide) : VE X W (.Name x pos) (mP (.int i)) := by
  obtain ⟨t, e⟩ := hm
  exact ve_const (v := .int i) (pe_glob hg e ⟨t, rfl⟩ hd) fun _ => .int i

/-! ### operations on values -/
/-- two things looked at, one told -/
def rD (K : PySem.W.Frag) (r : Da → Da → Option Da) : R2 := fun x y H Q => ∃ G dx dy d, Same G H ∧ See K G H x dx ∧ See K G H y dy ∧ r dx dy = some d ∧ ∀ G' H' z, Cn G H G' H' → Rp K G' z d → Q z H'
def OpD (X : Cx) (f : Value → Value → Sem Value) (r : Da → Da → Option Da) : Prop := OpR X f (rD X.K r)
theorem opD_of {f : Value → Value → Sem Value} {r : Da → Da → Option Da} (h : ∀ x y H Q, rD X.K r x y H Q → ∃ r0 : R2, OpR X f r0 ∧ r0 x y H Q) : OpD X f r := fun pins s σ H x y v u Q I rx ry q => by
  obtain ⟨r0, o, q0⟩ := h x y H Q q
  exact o pins s σ H x y v u Q I rx ry q0
def fBin (r : Da → Da → Option Da) (fa fb : EM Pk) : EM Da := mB fa fun p => mB fb fun q => fun ρ => mO (match look ρ p, look ρ q with
  | some a, some b => r a b
  | _, _ => none) ρ
theorem tV_bin {K : PySem.W.Frag} {r : Da → Da → Option Da} {fa fb : EM Pk} {σ : L2.St} {H : Hp} {Q : VK} (h : tV K W (fBin r fa fb) σ H Q) : tOp (rD K r) (tVp K W fa) (tVp K W fb) σ H Q := by
  obtain ⟨B, ρ, G, t, s⟩ := h
  refine ⟨B, ρ, G, t, (sat_bind s).imp (fun p ρ1 s1 x G1 H1 g1 t1 px => ⟨B, ρ1, G1, t1, (sat_bind s1).imp (fun q ρ2 s2 y G2 H2 g2 t2 py => ?_) fun e ρ' k => k⟩) fun e ρ' k => k⟩
  obtain ⟨d, e, k⟩ := sat_o s2
  cases l1 : look ρ2 p with
  | none => rw [l1] at e; cases e
  | some a =>
    cases l2 : look ρ2 q with
    | none => rw [l1, l2] at e; cases e
    | some b =>
      rw [l1, l2] at e
      exact ⟨G2, a, b, d, t2.cg.gh, see_of t2 (px.mono g2) l1, see_of t2 py l2, e, fun G' H' z c r => k z G' H' ((g1.trans g2).trans c.gg) (t2.step c) r⟩
theorem ve_bin {a b : Expr} {op : Operator} {pos : Pos} {r : Da → Da → Option Da} {fa fb : EM Pk} (ho : OpD X (binaryOp op) r) (ha : VP X W a fa) (hb : VP X W b fb) : VE X W (.BinOp a op b pos) (fBin r fa fb) :=
  pe_mono (pe_op ho ha hb) fun _ _ _ h => tV_bin h
theorem ve_cmp {a b : Expr} {op : CmpOp} {pos : Pos} {r : Da → Da → Option Da} {fa fb : EM Pk} (ho : OpD X (compareOp op) r) (ha : VP X W a fa) (hb : VP X W b fb) (hm : behindInMarks op b = false) : VE X W (.Compare a [op] [b] pos) (fBin r fa fb) :=
  pe_mono (pe_cmpR ho ha hb hm) fun _ _ _ h => tV_bin h
end
end Vl
/-! the value layer: operations -/
namespace Vl
open PySem PySem.Spec PyProof.Rows L2

section
variable {X : Cx}
theorem cn_refl {G H : Hp} (e : Same G H) : Cn G H G H := Cn.refl e
/-- how an operation of ints comes in -/
theorem see_int {K : PySem.W.Frag} {G H : Hp} {v : V} {i : Int} (h : See K G H v (.int i)) : v = .int i := by cases (show Rp K G v (.int i) from h); rfl
theorem see_bl {K : PySem.W.Frag} {G H : Hp} {v : V} {i : Bool} (h : See K G H v (.bl i)) : v = .bl i := by cases (show Rp K G v (.bl i) from h); rfl
theorem see_non {K : PySem.W.Frag} {G H : Hp} {v : V} (h : See K G H v .non) : v = .non := by cases (show Rp K G v .non from h); rfl
theorem see_str {K : PySem.W.Frag} {G H : Hp} {v : V} {l : List Nat} (h : See K G H v (.str l)) : v = .str ⟨l.toArray⟩ ∧ Chs l := by cases (show Rp K G v (.str l) from h); exact ⟨rfl, ‹_›⟩
theorem see_ty {K : PySem.W.Frag} {G H : Hp} {v : V} {n : String} (h : See K G H v (.ty n)) : v = .ty n := by cases (show Rp K G v (.ty n) from h); rfl

/-! ### + - * // % ** -/
def vAdd : Da → Da → Option Da
  | .int i, .int j => some (.int (i + j))
  | .str a, .str b => if a.length + b.length ≤ 16777216 then some (.str (a ++ b)) else none
  | .lst a, .lst b => if a.length + b.length ≤ 16777216 then some (.lst (a ++ b)) else none
  | _, _ => none
theorem S_append (a b : List Nat) : (⟨a.toArray⟩ : Str) ++ ⟨b.toArray⟩ = ⟨(a ++ b).toArray⟩ := by
  show Str.append _ _ = _
  simp [Str.append]
theorem S_length (a : List Nat) : (⟨a.toArray⟩ : Str).length = a.length := by simp [Str.length]
theorem opd_add : OpD X (binaryOp .Add) vAdd := opD_of fun x y H Q ⟨G, dx, dy, d, g, sx, sy, e, k⟩ => by
  unfold vAdd at e
  split at e
  · cases see_int sx
    cases see_int sy
    cases e
    exact ⟨_, op_add, _, _, rfl, rfl, k G H _ (cn_refl g) (.int _)⟩
  · obtain ⟨rfl, c1⟩ := see_str sx
    obtain ⟨rfl, c2⟩ := see_str sy
    split at e
    · rename_i hl
      cases e
      refine ⟨_, op_add_str, _, _, rfl, rfl, ?_, ?_⟩
      · rw [S_length, S_length, sizeLine_eq]
        exact hl
      · rw [S_append]
        exact k G H _ (cn_refl g) (.str (c1.append c2))
    · cases e
  · obtain ⟨p, vs, rfl, h1, r1⟩ := sx
    obtain ⟨q, us, rfl, h2, r2⟩ := sy
    split at e
    · rename_i hl
      cases e
      refine ⟨_, op_cat, p, q, vs, us, rfl, rfl, h1, h2, ?_, fun z hz => ?_⟩
      · rw [r1.length, r2.length, sizeLine_eq]
        exact hl
      · have c := Cn.new g hz (.lst (vs ++ us))
        exact k _ _ _ c (.lst upd_same ((r1.append r2).mono c.gg))
    · cases e
  · cases e
def vSub : Da → Da → Option Da
  | .int i, .int j => some (.int (i - j))
  | _, _ => none
theorem opd_sub : OpD X (binaryOp .Sub) vSub := opD_of fun x y H Q ⟨G, dx, dy, d, g, sx, sy, e, k⟩ => by
  unfold vSub at e
  split at e
  · cases see_int sx
    cases see_int sy
    cases e
    exact ⟨_, op_sub, _, _, rfl, rfl, k G H _ (cn_refl g) (.int _)⟩
  · cases e
def vMul : Da → Da → Option Da
  | .int i, .int j => if i.natAbs < 18446744073709551616 ∨ j.natAbs < 18446744073709551616 then some (.int (i * j)) else none
  | .str a, .int n => if n < 4294967296 ∧ -4294967296 < n ∧ a.length * n.toNat ≤ 16777216 then some (.str (List.replicate n.toNat a).flatten) else none
  | .lst a, .int n => if n < 4294967296 ∧ -4294967296 < n ∧ a.length * n.toNat ≤ 16777216 then some (.lst (List.replicate n.toNat a).flatten) else none
  | _, _ => none
theorem rep_flat (a : List Nat) : ∀ (n : Nat) (acc : Array Nat), (List.replicate n a.toArray).foldl (· ++ ·) acc = acc ++ ((List.replicate n a).flatten).toArray
  | 0, acc => by simp
  | n + 1, acc => by
    rw [List.replicate_succ, List.foldl_cons, rep_flat a n, List.replicate_succ, List.flatten_cons]
    simp
theorem chs_flat {ls : List (List Nat)} (h : ∀ l ∈ ls, Chs l) : Chs ls.flatten := fun c m => by
  obtain ⟨l, h1, h2⟩ := List.mem_flatten.mp m
  exact h l h1 c h2
theorem op_mul_str : OpR X (binaryOp .Mult) (fun x y H Q => ∃ (a : List Nat) (n : Int), x = .str ⟨a.toArray⟩ ∧ y = .int n ∧ (n < 4294967296 ∧ -4294967296 < n ∧ a.length * n.toNat ≤ 16777216) ∧ Q (.str ⟨((List.replicate n.toNat a).flatten).toArray⟩) H) := by
  intro pins s σ H x y v u Q I rx ry h
  obtain ⟨a, n, rfl, rfl, ⟨h1, h2, h3⟩, q⟩ := h
  obtain ⟨t, rfl⟩ := rx
  obtain ⟨t', rfl⟩ := ry
  refine PySem.P.mul_str ?_ (fun hn hz => ?_) (fun hn hz => ?_) ?_
  · have q1 : ¬ n < -(2 ^ 63 : Int) := by omega
    have q2 : ¬ n ≥ 2 ^ 63 := by omega
    rw [decide_eq_false q1, decide_eq_false q2]
    rfl
  · rw [S_length] at hz ⊢
    have hl : (a.length : Int) * n ≤ 16777216 := by
      have hn' : (n.toNat : Int) = n := by omega
      rw [← hn', ← Int.natCast_mul]
      exact Int.ofNat_le.mpr h3
    have h4 : (a.length : Int) ≤ ((2 : Int) ^ 63 - 1) / n := Int.le_ediv_of_mul_le (by omega) (Int.le_trans hl (by decide))
    exact Int.not_lt.mpr h4
  · rw [S_length]
    show decide (a.length * n.toNat > sizeLine) = false
    rw [sizeLine_eq]
    exact decide_eq_false (by omega)
  · rw [S_length]
    by_cases hn : n < 1
    · rw [if_pos hn]
      have : n.toNat = 0 := by omega
      rw [this] at q
      exact ⟨Nat.zero_le _, V.str _, H, I.tok _, ⟨_, rfl⟩, q⟩
    · rw [if_neg hn]
      by_cases hz : (n == 1 || a.length == 0) = true
      · rw [if_pos hz]
        refine ⟨.str ⟨a.toArray⟩, H, I, ⟨_, rfl⟩, ?_⟩
        have e : (List.replicate n.toNat a).flatten = a := by
          rcases Bool.or_eq_true_iff.mp hz with z | z
          · have : n = 1 := by simpa using z
            subst this
            simp
          · have : a = [] := by simpa using z
            subst this
            simp
        rw [e] at q
        exact q
      · rw [if_neg hz]
        have e : (⟨List.foldl (fun x1 x2 => x1 ++ x2) #[] (List.replicate n.toNat a.toArray)⟩ : Str) = ⟨((List.replicate n.toNat a).flatten).toArray⟩ := by
          rw [rep_flat a n.toNat #[]]
          simp
        refine ⟨?_, V.str _, H, I.tok _, ⟨_, rfl⟩, ?_⟩
        · show (⟨List.foldl (fun x1 x2 => x1 ++ x2) #[] (List.replicate n.toNat a.toArray)⟩ : Str).length ≤ sizeLine
          rw [e, S_length, List.length_flatten, sizeLine_eq]
          have e2 := Nat.mul_comm n.toNat a.length
          simp
          omega
        · show Q (V.str (⟨List.foldl (fun x1 x2 => x1 ++ x2) #[] (List.replicate n.toNat a.toArray)⟩ : Str)) H
          rw [e]
          exact q
theorem rep_list {α : Type} (xs : List α) (k : Nat) : (List.replicate k xs).flatten.length = xs.length * k := by
  rw [List.length_flatten]
  simp [Nat.mul_comm]
theorem RpA.rep {K : PySem.W.Frag} {G : Hp} {vs : List V} {ds : List Da} (r : RpA K G vs ds) : ∀ n : Nat, RpA K G (List.replicate n vs).flatten (List.replicate n ds).flatten
  | 0 => .nil
  | n + 1 => by
    rw [List.replicate_succ, List.replicate_succ, List.flatten_cons, List.flatten_cons]
    exact r.append (RpA.rep r n)
end
end Vl
/-! the value layer: more operations -/
namespace Vl
open PySem PySem.Spec PyProof.Rows L2

section
variable {X : Cx}
theorem opd_mul : OpD X (binaryOp .Mult) vMul := opD_of fun x y H Q ⟨G, dx, dy, d, g, sx, sy, e, k⟩ => by
  unfold vMul at e
  split at e
  · rename_i i j
    cases see_int sx
    cases see_int sy
    split at e
    · rename_i hc
      cases e
      refine ⟨_, op_mul, _, _, rfl, rfl, ?_, k G H _ (cn_refl g) (.int _)⟩
      show CMul i j
      unfold CMul
      have e : (2 : Int) ^ 64 = 18446744073709551616 := by decide
      rw [e]
      omega
    · cases e
  · obtain ⟨rfl, c1⟩ := see_str sx
    cases see_int sy
    split at e
    · rename_i hc
      cases e
      refine ⟨_, op_mul_str, _, _, rfl, rfl, hc, ?_⟩
      exact k G H _ (cn_refl g) (.str (chs_flat fun l hl => by rw [(List.mem_replicate.mp hl).2]; exact c1))
    · cases e
  · rename_i ds n
    obtain ⟨p, vs, rfl, h1, r1⟩ := sx
    cases see_int sy
    split at e
    · rename_i hc
      cases e
      refine ⟨_, op_rep, p, n, vs, rfl, rfl, h1, by omega, by omega, ?_, fun z hz => ?_⟩
      · rw [r1.length, sizeLine_eq]
        exact hc.2.2
      · have c := Cn.new g hz (.lst (List.replicate n.toNat vs).flatten)
        exact k _ _ _ c (.lst upd_same ((r1.rep n.toNat).mono c.gg))
    · cases e
  · cases e
def vFdiv : Da → Da → Option Da
  | .int i, .int j => if 0 < j ∧ j < 1073741824 then some (.int (i / j)) else none
  | _, _ => none
theorem opd_fdiv : OpD X (binaryOp .FloorDiv) vFdiv := opD_of fun x y H Q ⟨G, dx, dy, d, g, sx, sy, e, k⟩ => by
  unfold vFdiv at e
  split at e
  · cases see_int sx
    cases see_int sy
    split at e
    · rename_i hc
      cases e
      exact ⟨_, op_fdiv, _, _, rfl, rfl, hc, k G H _ (cn_refl g) (.int _)⟩
    · cases e
  · cases e
def vMod : Da → Da → Option Da
  | .int i, .int j => if 0 < j then some (.int (i % j)) else none
  | _, _ => none
theorem opd_mod : OpD X (binaryOp .Mod) vMod := opD_of fun x y H Q ⟨G, dx, dy, d, g, sx, sy, e, k⟩ => by
  unfold vMod at e
  split at e
  · cases see_int sx
    cases see_int sy
    split at e
    · rename_i hc
      cases e
      exact ⟨_, op_mod, _, _, rfl, rfl, hc, k G H _ (cn_refl g) (.int _)⟩
    · cases e
  · cases e
def vPow : Da → Da → Option Da
  | .int i, .int j => if 0 ≤ j ∧ j ≤ 1000 ∧ i.natAbs < 1000000 then some (.int (i ^ j.toNat)) else none
  | _, _ => none
theorem opd_pow : OpD X (binaryOp .Pow) vPow := opD_of fun x y H Q ⟨G, dx, dy, d, g, sx, sy, e, k⟩ => by
  unfold vPow at e
  split at e
  · rename_i i j
    cases see_int sx
    cases see_int sy
    split at e
    · rename_i hc
      cases e
      refine ⟨_, op_pow, _, _, rfl, rfl, ⟨hc.1, by omega, ?_⟩, k G H _ (cn_refl g) (.int _)⟩
      have e : (2 : Nat) ^ 64 = 18446744073709551616 := by decide
      show i.natAbs < 2 ^ 64
      omega
    · cases e
  · cases e

/-! ### comparisons of numbers -/
def vCmp (p : Int → Int → Bool) : Da → Da → Option Da
  | .int i, .int j => some (.bl (p i j))
  | _, _ => none
theorem opd_cmp {op : CmpOp} {p : Int → Int → Bool} (h : OpR X (compareOp op) (rI0 fun i j => .bl (p i j))) : OpD X (compareOp op) (vCmp p) := opD_of fun x y H Q ⟨G, dx, dy, d, g, sx, sy, e, k⟩ => by
  unfold vCmp at e
  split at e
  · cases see_int sx
    cases see_int sy
    cases e
    exact ⟨_, h, _, _, rfl, rfl, k G H _ (cn_refl g) (.bl _)⟩
  · cases e
abbrev vLt := vCmp fun i j => decide (i < j)
abbrev vLe := vCmp fun i j => decide (i ≤ j)
abbrev vGt := vCmp fun i j => decide (j < i)
abbrev vGe := vCmp fun i j => decide (j ≤ i)
theorem opd_lt : OpD X (compareOp .Lt) vLt := opd_cmp op_lt
theorem opd_le : OpD X (compareOp .LtE) vLe := opd_cmp op_le
theorem opd_gt : OpD X (compareOp .Gt) vGt := opd_cmp op_gt
theorem opd_ge : OpD X (compareOp .GtE) vGe := opd_cmp op_ge
def isNon : Da → Bool
  | .non => true
  | _ => false
theorem isNon_rp {K : PySem.W.Frag} {G : Hp} {v : V} {d : Da} (h : Rp K G v d) : decide (v = .non) = isNon d := by
  cases h <;> simp [isNon]
theorem See.non {K : PySem.W.Frag} {G H : Hp} {v : V} {d : Da} (h : See K G H v d) : decide (v = .non) = isNon d := by
  cases d with
  | lst ds => obtain ⟨a, vs, rfl, _⟩ := h; simp [isNon]
  | tup ds => obtain ⟨a, vs, rfl, _⟩ := h; simp [isNon]
  | _ => exact isNon_rp h
def vIs (neg : Bool) : Da → Da → Option Da
  | x, .non => some (.bl (if neg then !isNon x else isNon x))
  | _, _ => none
theorem opd_is : OpD X (compareOp .Is) (vIs false) := opD_of fun x y H Q ⟨G, dx, dy, d, g, sx, sy, e, k⟩ => by
  unfold vIs at e
  split at e
  · cases see_non sy
    cases e
    refine ⟨_, op_isN, rfl, ?_⟩
    rw [sx.non]
    exact k G H _ (cn_refl g) (.bl _)
  · cases e
theorem opd_isnot : OpD X (compareOp .IsNot) (vIs true) := opD_of fun x y H Q ⟨G, dx, dy, d, g, sx, sy, e, k⟩ => by
  unfold vIs at e
  split at e
  · cases see_non sy
    cases e
    refine ⟨_, op_notN, rfl, ?_⟩
    rw [sx.non]
    exact k G H _ (cn_refl g) (.bl _)
  · cases e

/-! ### == -/
mutual
def plainD : Da → Bool
  | .non | .bl _ | .int _ | .str _ => true
  | .lst xs | .tup xs => plainA xs
  | .ins _ _ | .ty _ | .glo _ | .scr _ => false
def plainA : List Da → Bool
  | [] => true
  | x :: xs => plainD x && plainA xs
end
mutual
def dep : Da → Nat
  | .lst xs | .tup xs => depA xs + 1
  | .non | .bl _ | .int _ | .str _ | .ins _ _ | .ty _ | .glo _ | .scr _ => 0
def depA : List Da → Nat
  | [] => 0
  | x :: xs => max (dep x) (depA xs)
end
mutual
def toPy : Da → PyData
  | .non => .none
  | .bl b => .bool b
  | .int i => .int i
  | .str l => .str ⟨l.toArray⟩
  | .lst xs => .list (toPyA xs)
  | .tup xs => .tuple (toPyA xs)
  | .ins _ _ | .ty _ | .glo _ | .scr _ => .none
def toPyA : List Da → List PyData
  | [] => []
  | x :: xs => toPy x :: toPyA xs
end
mutual
def dq : Da → Da → Bool
  | .non, .non => true
  | .bl a, .bl b => a == b
  | .bl a, .int j => (if a then 1 else 0) == j
  | .int i, .bl b => i == (if b then 1 else 0)
  | .int i, .int j => i == j
  | .str x, .str y => x == y
  | .lst xs, .lst ys => dqA xs ys
  | .tup xs, .tup ys => dqA xs ys
  | _, _ => false
def dqA : List Da → List Da → Bool
  | [], [] => true
  | x :: xs, y :: ys => dq x y && dqA xs ys
  | [], _ :: _ => false
  | _ :: _, [] => false
end
theorem S_beq (x y : List Nat) : ((⟨x.toArray⟩ : Str) == ⟨y.toArray⟩) = (x == y) := by
  rw [Bool.eq_iff_iff]
  simp
mutual
theorem eqv_dq : ∀ (a b : Da), plainD a = true → plainD b = true → PyData.eqv (toPy a) (toPy b) = dq a b
  | .lst xs, .lst ys, ha, hb => by
    simp only [toPy, PyData.eqv, dq]
    exact eqvA_dq xs ys (by simpa [plainD] using ha) (by simpa [plainD] using hb)
  | .tup xs, .tup ys, ha, hb => by
    simp only [toPy, PyData.eqv, dq]
    exact eqvA_dq xs ys (by simpa [plainD] using ha) (by simpa [plainD] using hb)
  | .str x, .str y, _, _ => by
    simp only [toPy, PyData.eqv, dq]
    exact S_beq x y
  | .ins _ _, _, ha, _ => by simp [plainD] at ha
  | .ty _, _, ha, _ => by simp [plainD] at ha
  | .glo _, _, ha, _ => by simp [plainD] at ha
  | .scr _, _, ha, _ => by simp [plainD] at ha
  | .non, b, _, hb => by cases b <;> simp [toPy, PyData.eqv, dq, plainD] at hb ⊢
  | .bl x, b, _, hb => by cases b <;> simp [toPy, PyData.eqv, dq, plainD] at hb ⊢
  | .int x, b, _, hb => by cases b <;> simp [toPy, PyData.eqv, dq, plainD] at hb ⊢
  | .str x, .non, _, hb | .str x, .bl _, _, hb | .str x, .int _, _, hb | .str x, .lst _, _, hb | .str x, .tup _, _, hb | .str x, .ins _ _, _, hb | .str x, .ty _, _, hb | .str x, .glo _, _, hb | .str x, .scr _, _, hb => by simp [toPy, PyData.eqv, dq, plainD] at hb ⊢
  | .lst x, .non, _, hb | .lst x, .bl _, _, hb | .lst x, .int _, _, hb | .lst x, .str _, _, hb | .lst x, .tup _, _, hb | .lst x, .ins _ _, _, hb | .lst x, .ty _, _, hb | .lst x, .glo _, _, hb | .lst x, .scr _, _, hb => by simp [toPy, PyData.eqv, dq, plainD] at hb ⊢
  | .tup x, .non, _, hb | .tup x, .bl _, _, hb | .tup x, .int _, _, hb | .tup x, .str _, _, hb | .tup x, .lst _, _, hb | .tup x, .ins _ _, _, hb | .tup x, .ty _, _, hb | .tup x, .glo _, _, hb | .tup x, .scr _, _, hb => by simp [toPy, PyData.eqv, dq, plainD] at hb ⊢
theorem eqvA_dq : ∀ (xs ys : List Da), plainA xs = true → plainA ys = true → PyData.eqvAll (toPyA xs) (toPyA ys) = dqA xs ys
  | [], [], _, _ => by simp [toPyA, PyData.eqvAll, dqA]
  | x :: xs, y :: ys, ha, hb => by
    simp only [plainA, Bool.and_eq_true] at ha hb
    simp only [toPyA, PyData.eqvAll, dqA]
    rw [eqv_dq x y ha.1 hb.1, eqvA_dq xs ys ha.2 hb.2]
  | [], _ :: _, _, _ => by simp [toPyA, PyData.eqvAll, dqA]
  | _ :: _, [], _, _ => by simp [toPyA, PyData.eqvAll, dqA]
end
mutual
theorem dep_py : ∀ a : Da, (toPy a).depth ≤ dep a
  | .lst xs | .tup xs => by
    simp only [toPy, PyData.depth, dep]
    exact Nat.succ_le_succ (depA_py xs)
  | .non | .bl _ | .int _ | .str _ | .ins _ _ | .ty _ | .glo _ | .scr _ => by simp [toPy, PyData.depth]
theorem depA_py : ∀ xs : List Da, PyData.depthAll (toPyA xs) ≤ depA xs
  | [] => by simp [toPyA, PyData.depthAll]
  | x :: xs => by
    simp only [toPyA, PyData.depthAll, depA]
    have h1 := dep_py x
    have h2 := depA_py xs
    omega
end
section
variable {K : PySem.W.Frag} {G : Hp}
mutual
theorem Rp.dp : ∀ {v : V} {d : Da}, Rp K G v d → plainD d = true → Dp K G v (toPy d) ∧ (toPy d).canLay0 = true
  | _, _, .non, _ => by simp only [toPy]; exact ⟨.non, rfl⟩
  | _, _, .bl b, _ => by simp only [toPy]; exact ⟨.bl b, rfl⟩
  | _, _, .int i, _ => by simp only [toPy]; exact ⟨.int i, rfl⟩
  | _, _, .str (l := l) h, _ => by
    simp only [toPy]
    refine ⟨.str _, ?_⟩
    show (⟨l.toArray⟩ : Str).cps.all (· < 0x110000) = true
    simpa using (show ∀ x ∈ l, x < 1114112 from h)
  | _, _, .lst h r, hp => by
    simp only [toPy]
    have q := RpA.dp r (by simpa [plainD] using hp)
    exact ⟨.lst (SqL.of h) q.1, q.2⟩
  | _, _, .tup h r, hp => by
    simp only [toPy]
    have q := RpA.dp r (by simpa [plainD] using hp)
    exact ⟨.tup h q.1, q.2⟩
  | _, _, .ins _ _, hp => by simp [plainD] at hp
  | _, _, .ty _, hp => by simp [plainD] at hp
  | _, _, .glo _, hp => by simp [plainD] at hp
  | _, _, .scr _, hp => by simp [plainD] at hp
theorem RpA.dp : ∀ {vs : List V} {ds : List Da}, RpA K G vs ds → plainA ds = true → DpAll K G vs (toPyA ds) ∧ PyData.canLayAll0 (toPyA ds) = true
  | _, _, .nil, _ => by simp only [toPyA]; exact ⟨.nil, rfl⟩
  | _, _, .cons h r, hp => by
    simp only [plainA, Bool.and_eq_true] at hp
    simp only [toPyA]
    obtain ⟨a1, a2⟩ := Rp.dp h hp.1
    obtain ⟨b1, b2⟩ := RpA.dp r hp.2
    refine ⟨.cons a1 b1, ?_⟩
    simp only [PyData.canLayAll0, a2, b2, Bool.and_self]
end
theorem See.dp {H : Hp} {v : V} {d : Da} (g : Same G H) (h : See K G H v d) (hp : plainD d = true) : Dp K H v (toPy d) ∧ (toPy d).canLay0 = true := by
  have rp : Rp K H v d := by
    cases d with
    | lst ds => obtain ⟨a, vs, rfl, h1, r⟩ := h; exact .lst h1 (r.mono g)
    | tup ds => obtain ⟨a, vs, rfl, h1, r⟩ := h; exact .tup h1 (r.mono g)
    | non => exact Rp.mono g h
    | bl _ => exact Rp.mono g h
    | int _ => exact Rp.mono g h
    | str _ => exact Rp.mono g h
    | ins _ _ => exact Rp.mono g h
    | ty _ => exact Rp.mono g h
    | glo _ => exact Rp.mono g h
    | scr _ => exact Rp.mono g h
  exact rp.dp hp
end
def vEq (neg : Bool) (a b : Da) : Option Da := if plainD a = true ∧ plainD b = true ∧ dep a ≤ 64 ∧ dep b ≤ 64 then some (.bl (if neg then !dq a b else dq a b)) else none
theorem shaped_py {d : Da} (h : (toPy d).canLay0 = true) (hd : dep d ≤ 64) : SeqAt.shaped (toPy d) = true := by
  unfold SeqAt.shaped
  rw [h, decide_eq_true (Nat.le_trans (dep_py d) hd)]
  rfl
theorem opd_eq (hu : X.A.units + 64 < cLine) : OpD X (compareOp .Eq) (vEq false) := opD_of fun x y H Q ⟨G, dx, dy, d, g, sx, sy, e, k⟩ => by
  unfold vEq at e
  split at e
  · rename_i hc
    obtain ⟨h1, h2, h3, h4⟩ := hc
    cases e
    obtain ⟨a1, a2⟩ := sx.dp g h1
    obtain ⟨b1, b2⟩ := sy.dp g h2
    refine ⟨_, op_eqD hu, _, _, a1, b1, shaped_py a2 h3, shaped_py b2 h4, ?_⟩
    rw [eqv_dq dx dy h1 h2]
    exact k G H _ (cn_refl g) (.bl _)
  · cases e
theorem opd_ne (hu : X.A.units + 64 < cLine) : OpD X (compareOp .NotEq) (vEq true) := opD_of fun x y H Q ⟨G, dx, dy, d, g, sx, sy, e, k⟩ => by
  unfold vEq at e
  split at e
  · rename_i hc
    obtain ⟨h1, h2, h3, h4⟩ := hc
    cases e
    obtain ⟨a1, a2⟩ := sx.dp g h1
    obtain ⟨b1, b2⟩ := sy.dp g h2
    refine ⟨_, op_neD hu, _, _, a1, b1, shaped_py a2 h3, shaped_py b2 h4, ?_⟩
    rw [eqv_dq dx dy h1 h2]
    exact k G H _ (cn_refl g) (.bl _)
  · cases e

/-! ### in -/
def subIn (a b : List Nat) : Bool := (List.range (b.length + 1)).any fun i => (b.drop i).take a.length == a
theorem found_sub (a b : List Nat) : (!(Builtin.Str.occurrences ⟨b.toArray⟩ ⟨a.toArray⟩ 0 (⟨b.toArray⟩ : Str).length 1).isEmpty) = subIn a b := by
  rw [Bool.eq_iff_iff, PySem.StrLaws.found_iff]
  unfold subIn
  rw [List.any_eq_true]
  simp only [S_length, PySem.StrLaws.subAt_eq]
  constructor
  · rintro ⟨i, h1, h2⟩
    exact ⟨i, List.mem_range.mpr (by omega), by simpa using h2⟩
  · rintro ⟨i, h1, h2⟩
    have h1 := List.mem_range.mp h1
    have h3 : (b.drop i).take a.length = a := by simpa using h2
    refine ⟨i, ?_, by simpa using h2⟩
    have h4 := congrArg List.length h3
    rw [List.length_take, List.length_drop] at h4
    omega
def flatD : Da → Bool
  | .non | .bl _ | .int _ | .str _ => true
  | _ => false
def inD (x : Da) (xs : List Da) : Bool := xs.any fun y => dq y x
def vIn (neg : Bool) : Da → Da → Option Da
  | .str a, .str b => some (.bl (if neg then !subIn a b else subIn a b))
  | x, .lst ys => if flatD x = true ∧ ys.all flatD = true then some (.bl (if neg then !inD x ys else inD x ys)) else none
  | x, .tup ys => if flatD x = true ∧ ys.all flatD = true then some (.bl (if neg then !inD x ys else inD x ys)) else none
  | _, _ => none
theorem flat_rp {K : PySem.W.Frag} {G : Hp} {v : V} {d : Da} (h : Rp K G v d) (f : flatD d = true) : flatV v = true := by
  cases h <;> first | rfl | cases f
theorem flat_see {K : PySem.W.Frag} {G H : Hp} {v : V} {d : Da} (h : See K G H v d) (f : flatD d = true) : Rp K G v d := by
  cases d <;> first | exact h | cases f
theorem eqV_dq {K : PySem.W.Frag} {G : Hp} {v u : V} {d e : Da} (h : Rp K G v d) (f : flatD d = true) (h' : Rp K G u e) (f' : flatD e = true) : eqV v u = dq d e := by
  cases h <;> (first | cases f | skip) <;> cases h' <;> (first | cases f' | skip) <;> simp [eqV, dq, S_beq]
theorem inV_inD {K : PySem.W.Frag} {G : Hp} {v : V} {d : Da} (h : Rp K G v d) (f : flatD d = true) : ∀ {vs : List V} {ds : List Da}, RpA K G vs ds → ds.all flatD = true → inV v vs = inD d ds ∧ vs.all flatV = true
  | _, _, .nil, _ => ⟨rfl, rfl⟩
  | _, _, .cons h1 r, fa => by
    rw [List.all_cons, Bool.and_eq_true] at fa
    obtain ⟨a, b⟩ := inV_inD h f r fa.2
    refine ⟨?_, ?_⟩
    · show ((eqV _ v) || inV v _) = (dq _ d || inD d _)
      rw [eqV_dq h1 fa.1 h f, a]
    · rw [List.all_cons, flat_rp h1 fa.1, b]
      rfl
theorem opd_in_gen {neg : Bool} {op : CmpOp} (h1 : OpR X (compareOp op) (rIn X.K neg)) (h2 : OpR X (compareOp op) (fun x y H Q => ∃ i j, x = .str i ∧ y = .str j ∧ Q (.bl (if neg then !(!(Builtin.Str.occurrences j i 0 j.length 1).isEmpty) else (!(Builtin.Str.occurrences j i 0 j.length 1).isEmpty))) H)) :
    OpD X (compareOp op) (vIn neg) := opD_of fun x y H Q ⟨G, dx, dy, d, g, sx, sy, e, k⟩ => by
  unfold vIn at e
  split at e
  · obtain ⟨rfl, c1⟩ := see_str sx
    obtain ⟨rfl, c2⟩ := see_str sy
    cases e
    refine ⟨_, h2, _, _, rfl, rfl, ?_⟩
    rw [found_sub]
    exact k G H _ (cn_refl g) (.bl _)
  · split at e
    · rename_i hc
      cases e
      obtain ⟨p, vs, rfl, hp, r⟩ := sy
      obtain ⟨q1, q2⟩ := inV_inD (flat_see sx hc.1) hc.1 r hc.2
      refine ⟨_, h1, p, vs, rfl, .inl (SqL.of hp), flat_rp (flat_see sx hc.1) hc.1, q2, ?_⟩
      rw [q1]
      exact k G H _ (cn_refl g) (.bl _)
    · cases e
  · split at e
    · rename_i hc
      cases e
      obtain ⟨p, vs, rfl, hp, r⟩ := sy
      obtain ⟨q1, q2⟩ := inV_inD (flat_see sx hc.1) hc.1 r hc.2
      refine ⟨_, h1, p, vs, rfl, .inr hp, flat_rp (flat_see sx hc.1) hc.1, q2, ?_⟩
      rw [q1]
      exact k G H _ (cn_refl g) (.bl _)
    · cases e
  · cases e
theorem opd_in : OpD X (compareOp .In) (vIn false) := opd_in_gen op_in_seq op_in_str
theorem opd_notin : OpD X (compareOp .NotIn) (vIn true) := opd_in_gen op_notIn_seq op_notin_str
end
end Vl
/-! the value layer: expressions -/
namespace Vl
open PySem PySem.Spec PyProof.Rows L2

section
variable {X : Cx} {W : WX}
/-! ### arguments -/
theorem va_nil : VA X W [] (mP []) := pa_mono pa_nil fun σ H Q ⟨B, ρ, G, t, s⟩ => s [] G H (Same.refl _) t .nil
def fCons {α : Type} (f : EM α) (g : EM (List α)) : EM (List α) := mB f fun d => mB g fun ds => mP (d :: ds)
theorem va_cons {e : Expr} {es : List Expr} {fe : EM Da} {fs : EM (List Da)} (h : VE X W e fe) (hs : VA X W es fs) (hx : starEach (e :: es) X.env = (false, eval e X.env) :: starEach es X.env := by rfl) : VA X W (e :: es) (fCons fe fs) :=
  pa_mono (pa_cons h hs hx) fun σ H Q ⟨B, ρ, G, t, s⟩ => ⟨B, ρ, G, t, (sat_bind s).imp (fun d ρ1 s1 x G1 H1 g1 t1 r1 => ⟨B, ρ1, G1, t1, (sat_bind s1).imp (fun ds ρ2 s2 xs G2 H2 g2 t2 r2 =>
    s2 (x :: xs) G2 H2 (g1.trans g2) t2 (.cons (r1.mono g2) r2)) fun e ρ' k => k⟩) fun e ρ' k => k⟩
/-- arguments that are looked at -/
def PksOk (K : PySem.W.Frag) (σ : L2.St) (G : Hp) : List V → List Pk → Prop
  | [], [] => True
  | v :: vs, p :: ps => PkOk K σ G v p ∧ PksOk K σ G vs ps
  | _, _ => False
theorem PksOk.mono {K : PySem.W.Frag} {σ : L2.St} {G G' : Hp} (e : Same G G') : ∀ {vs : List V} {ps : List Pk}, PksOk K σ G vs ps → PksOk K σ G' vs ps
  | [], [], _ => True.intro
  | _ :: _, _ :: _, h => ⟨h.1.mono e, PksOk.mono e h.2⟩
  | [], _ :: _, h => h
  | _ :: _, [], h => h
def tVpa (K : PySem.W.Frag) (W : WX) (f : EM (List Pk)) : TA := fun σ H Q => ∃ B ρ G, Stt K B ρ σ G H ∧ Sat (f ρ) (fun ps ρ' => ∀ vs G' H', Same G G' → Stt K B ρ' σ G' H' → PksOk K σ G' vs ps → Q vs H') (exW K W B σ)
abbrev VPA (X : Cx) (W : WX) (es : List Expr) (f : EM (List Pk)) : Prop := PA X es (tVpa X.K W f)
theorem vpa_nil : VPA X W [] (mP []) := pa_mono pa_nil fun σ H Q ⟨B, ρ, G, t, s⟩ => s [] G H (Same.refl _) t True.intro
theorem vpa_cons {e : Expr} {es : List Expr} {fe : EM Pk} {fs : EM (List Pk)} (h : VP X W e fe) (hs : VPA X W es fs) (hx : starEach (e :: es) X.env = (false, eval e X.env) :: starEach es X.env := by rfl) : VPA X W (e :: es) (fCons fe fs) :=
  pa_mono (pa_cons h hs hx) fun σ H Q ⟨B, ρ, G, t, s⟩ => ⟨B, ρ, G, t, (sat_bind s).imp (fun d ρ1 s1 x G1 H1 g1 t1 r1 => ⟨B, ρ1, G1, t1, (sat_bind s1).imp (fun ds ρ2 s2 xs G2 H2 g2 t2 r2 =>
    s2 (x :: xs) G2 H2 (g1.trans g2) t2 ⟨r1.mono g2, r2⟩) fun e ρ' k => k⟩) fun e ρ' k => k⟩
def lookA (ρ : Env) : List Pk → Option (List Da)
  | [] => some []
  | p :: ps => match look ρ p, lookA ρ ps with
    | some d, some ds => some (d :: ds)
    | _, _ => none
inductive SeeA (K : PySem.W.Frag) (G H : Hp) : List V → List Da → Prop
  | nil : SeeA K G H [] []
  | cons {v : V} {vs : List V} {d : Da} {ds : List Da} : See K G H v d → SeeA K G H vs ds → SeeA K G H (v :: vs) (d :: ds)
theorem seeA_of {K : PySem.W.Frag} {B : Bs} {G H : Hp} {ρ : Env} {σ : L2.St} (t : Stt K B ρ σ G H) : ∀ {vs : List V} {ps : List Pk} {ds : List Da}, PksOk K σ G vs ps → lookA ρ ps = some ds → SeeA K G H vs ds
  | [], [], ds, _, e => by cases e; exact .nil
  | v :: vs, p :: ps, ds, h, e => by
    unfold lookA at e
    cases h1 : look ρ p with
    | none => simp [h1] at e
    | some d =>
      cases h2 : lookA ρ ps with
      | none => simp [h1, h2] at e
      | some ds' =>
        simp only [h1, h2, Option.some.injEq] at e
        subst e
        exact .cons (see_of t h.1 h1) (seeA_of t h.2 h2)
  | [], _ :: _, _, h, _ => h.elim
  | _ :: _, [], _, h, _ => h.elim
/-- a built-in's call -/
def rDs (K : PySem.W.Frag) (r : List Da → Option Da) : List V → Hp → VK → Prop := fun vs H Q => ∃ G ds d, Same G H ∧ SeeA K G H vs ds ∧ r ds = some d ∧ ∀ G' H' z, Cn G H G' H' → Rp K G' z d → Q z H'
def rNs (K : PySem.W.Frag) (r : List Da → Option (List Da)) : List V → Hp → VK → Prop := fun vs H Q => ∃ G ds es, Same G H ∧ SeeA K G H vs ds ∧ r ds = some es ∧ ∀ p us, H p = none → RpA K G us es → us.length ≤ sizeLine → Q (.ref p) (upd H p (.lst us))
def CaD (X : Cx) (f : Value) (r : List Da → Option Da) : Prop := CallR X f (rDs X.K r)
def CaN (X : Cx) (f : Value) (r : List Da → Option (List Da)) : Prop := CallR X f (rNs X.K r)
theorem caD_of {f : Value} {r : List Da → Option Da} (h : ∀ vs H Q, rDs X.K r vs H Q → ∃ r0 : List V → Hp → VK → Prop, CallR X f r0 ∧ r0 vs H Q) : CaD X f r := fun pins s σ H xs us Q I rx q => by
  obtain ⟨r0, o, q0⟩ := h xs H Q q
  exact o pins s σ H xs us Q I rx q0
theorem caN_of {f : Value} {r : List Da → Option (List Da)} (h : ∀ vs H Q, rNs X.K r vs H Q → ∃ r0 : List V → Hp → VK → Prop, CallR X f r0 ∧ r0 vs H Q) : CaN X f r := fun pins s σ H xs us Q I rx q => by
  obtain ⟨r0, o, q0⟩ := h xs H Q q
  exact o pins s σ H xs us Q I rx q0
def fCall (r : List Da → Option Da) (fa : EM (List Pk)) : EM Da := mB fa fun ps => fun ρ => mO (match lookA ρ ps with
  | some ds => r ds
  | none => none) ρ
def fCallN (r : List Da → Option (List Da)) (fa : EM (List Pk)) : EM (List Da) := mB fa fun ps => fun ρ => mO (match lookA ρ ps with
  | some ds => r ds
  | none => none) ρ
theorem tV_call {K : PySem.W.Frag} {r : List Da → Option Da} {fa : EM (List Pk)} {σ : L2.St} {H : Hp} {Q : VK} (h : tV K W (fCall r fa) σ H Q) : tCB (rDs K r) (tVpa K W fa) σ H Q := by
  obtain ⟨B, ρ, G, t, s⟩ := h
  refine ⟨B, ρ, G, t, (sat_bind s).imp (fun ps ρ1 s1 vs G1 H1 g1 t1 px => ?_) fun e ρ' k => k⟩
  obtain ⟨d, e, k⟩ := sat_o s1
  cases l1 : lookA ρ1 ps with
  | none => rw [l1] at e; cases e
  | some ds =>
    rw [l1] at e
    exact ⟨G1, ds, d, t1.cg.gh, seeA_of t1 px l1, e, fun G' H' z c r => k z G' H' (g1.trans c.gg) (t1.step c) r⟩
theorem tVn_call {K : PySem.W.Frag} {r : List Da → Option (List Da)} {fa : EM (List Pk)} {σ : L2.St} {H : Hp} {Q : VK} (h : tVn K W (fCallN r fa) σ H Q) : tCB (rNs K r) (tVpa K W fa) σ H Q := by
  obtain ⟨B, ρ, G, t, s⟩ := h
  refine ⟨B, ρ, G, t, (sat_bind s).imp (fun ps ρ1 s1 vs G1 H1 g1 t1 px => ?_) fun e ρ' k => k⟩
  obtain ⟨d, e, k⟩ := sat_o s1
  cases l1 : lookA ρ1 ps with
  | none => rw [l1] at e; cases e
  | some ds =>
    rw [l1] at e
    exact ⟨G1, ds, d, t1.cg.gh, seeA_of t1 px l1, e, fun p us hp ra hl => k p us G1 H1 g1 hp t1 ra hl⟩
/-- a built-in function by its name; a built-in class -/
theorem ve_callB {id : String} {x : Str} {p pos : Pos} {e : Expr} {es : List Expr} {r : List Da → Option Da} {fa : EM (List Pk)} (hc : CaD X (.builtin id) r) (hm : X.mg x = none) (ha : VPA X W (e :: es) fa) (hg : Gl X x := by rfl) (hv : bootBuiltins x = some (.builtin id) := by decide +kernel)
    (hn : x ≠ "__name__" := by decide) (hdb : (x == ("__debug__" : Str)) = false := by decide) (he : starEach (e :: es) X.env = (false, eval e X.env) :: starEach es X.env := by rfl) (hpl : (backTo pos (starEach es X.env)).any (·.1) = false := by rfl) :
    VE X W (.Call (.Name x p) (e :: es) [] pos) (fCall r fa) := pe_mono (pe_callB hc hg hm hv ha hn hdb he hpl) fun _ _ _ h => tV_call h
theorem ve_callTy {id : String} {x : Str} {p pos : Pos} {e : Expr} {es : List Expr} {r : List Da → Option Da} {fa : EM (List Pk)} (hc : CaD X (.type id) r) (hm : X.mg x = none) (ha : VPA X W (e :: es) fa) (hg : Gl X x := by rfl) (hv : bootBuiltins x = some (.type id) := by decide +kernel)
    (hn : x ≠ "__name__" := by decide) (hdb : (x == ("__debug__" : Str)) = false := by decide) (he : starEach (e :: es) X.env = (false, eval e X.env) :: starEach es X.env := by rfl) (hpl : (backTo pos (starEach es X.env)).any (·.1) = false := by rfl) :
    VE X W (.Call (.Name x p) (e :: es) [] pos) (fCall r fa) := pe_mono (pe_callTy hc hg hm hv ha hn hdb he hpl) fun _ _ _ h => tV_call h
theorem vn_callB {id : String} {x : Str} {p pos : Pos} {e : Expr} {es : List Expr} {r : List Da → Option (List Da)} {fa : EM (List Pk)} (hc : CaN X (.builtin id) r) (hm : X.mg x = none) (ha : VPA X W (e :: es) fa) (hg : Gl X x := by rfl) (hv : bootBuiltins x = some (.builtin id) := by decide +kernel)
    (hn : x ≠ "__name__" := by decide) (hdb : (x == ("__debug__" : Str)) = false := by decide) (he : starEach (e :: es) X.env = (false, eval e X.env) :: starEach es X.env := by rfl) (hpl : (backTo pos (starEach es X.env)).any (·.1) = false := by rfl) :
    VN X W (.Call (.Name x p) (e :: es) [] pos) (fCallN r fa) := pe_mono (pe_callB hc hg hm hv ha hn hdb he hpl) fun _ _ _ h => tVn_call h
theorem vn_callTy {id : String} {x : Str} {p pos : Pos} {e : Expr} {es : List Expr} {r : List Da → Option (List Da)} {fa : EM (List Pk)} (hc : CaN X (.type id) r) (hm : X.mg x = none) (ha : VPA X W (e :: es) fa) (hg : Gl X x := by rfl) (hv : bootBuiltins x = some (.type id) := by decide +kernel)
    (hn : x ≠ "__name__" := by decide) (hdb : (x == ("__debug__" : Str)) = false := by decide) (he : starEach (e :: es) X.env = (false, eval e X.env) :: starEach es X.env := by rfl) (hpl : (backTo pos (starEach es X.env)).any (·.1) = false := by rfl) :
    VN X W (.Call (.Name x p) (e :: es) [] pos) (fCallN r fa) := pe_mono (pe_callTy hc hg hm hv ha hn hdb he hpl) fun _ _ _ h => tVn_call h
theorem ve_tyname {x : Str} {pos : Pos} {n : String} (hm : X.mg x = none) (hg : Gl X x := by rfl) (hv : bootBuiltins x = some (.type n) := by decide +kernel) (hn : x ≠ "__name__" := by decide) (hd : (x == ("__debug__" : Str)) = false := by decide) : VE X W (.Name x pos) (mP (.ty n)) :=
  ve_const (v := .ty n) (pe_bltn hg hm hv rfl hn hd) fun _ => .ty n

/-! ### len, abs, sum, isinstance, list, max, min, str -/
theorem See.list {K : PySem.W.Frag} {G H : Hp} {v : V} {ds : List Da} (h : See K G H v (.lst ds)) : ∃ a vs, v = .ref a ∧ H a = some (.lst vs) ∧ RpA K G vs ds := h
def vLen : List Da → Option Da
  | [.lst xs] => some (.int xs.length)
  | [.tup xs] => some (.int xs.length)
  | [.str l] => if l.length ≤ 16777216 then some (.int l.length) else none
  | _ => none
theorem cad_len : CaD X (.builtin "len") vLen := caD_of fun vs H Q ⟨G, ds, d, g, sa, e, k⟩ => by
  unfold vLen at e
  split at e
  · cases sa with
    | cons s1 sr =>
      cases sr
      obtain ⟨a, vs, rfl, h1, r⟩ := s1
      cases e
      refine ⟨_, call_len_seq, a, vs, rfl, .inl (SqL.of h1), ?_⟩
      rw [r.length]
      exact k G H _ (cn_refl g) (.int _)
  · cases sa with
    | cons s1 sr =>
      cases sr
      obtain ⟨a, vs, rfl, h1, r⟩ := s1
      cases e
      refine ⟨_, call_len_seq, a, vs, rfl, .inr h1, ?_⟩
      rw [r.length]
      exact k G H _ (cn_refl g) (.int _)
  · split at e
    · rename_i hl
      cases sa with
      | cons s1 sr =>
        cases sr
        obtain ⟨rfl, c⟩ := see_str s1
        cases e
        refine ⟨_, call_len_str, _, rfl, by rw [S_length, sizeLine_eq]; exact hl, ?_⟩
        rw [S_length]
        exact k G H _ (cn_refl g) (.int _)
    · cases e
  · cases e
def vAbs : List Da → Option Da
  | [.int i] => some (.int (if i < 0 then -i else i))
  | _ => none
theorem cad_abs : CaD X (.builtin "abs") vAbs := caD_of fun vs H Q ⟨G, ds, d, g, sa, e, k⟩ => by
  unfold vAbs at e
  split at e
  · cases sa with
    | cons s1 sr =>
      cases sr
      cases see_int s1
      cases e
      exact ⟨_, call_abs, _, rfl, k G H _ (cn_refl g) (.int _)⟩
  · cases e
def intsD : List Da → Option (List Int)
  | [] => some []
  | .int i :: r => match intsD r with
    | some l => some (i :: l)
    | none => none
  | _ => none
theorem intsD_map : ∀ l : List Int, intsD (l.map .int) = some l
  | [] => rfl
  | i :: l => by rw [List.map_cons]; unfold intsD; rw [intsD_map l]
theorem intsD_rp {K : PySem.W.Frag} {G : Hp} : ∀ {vs : List V} {ds : List Da} {l : List Int}, RpA K G vs ds → intsD ds = some l → vs = l.map V.int
  | _, _, _, .nil, e => by cases e; rfl
  | _, _, l, .cons (d := d) (ds := ds) h r, e => by
    cases d with
    | int i =>
      unfold intsD at e
      cases q : intsD ds with
      | none => simp [q] at e
      | some l' =>
        simp only [q, Option.some.injEq] at e
        subst e
        cases h
        rw [intsD_rp r q]
        rfl
    | _ => cases e
def vSum : List Da → Option Da
  | [.lst xs] => (intsD xs).map fun l => .int l.sum
  | _ => none
theorem cad_sum (hc : X.calm = true) : CaD X (.builtin "sum") vSum := caD_of fun vs H Q ⟨G, ds, d, g, sa, e, k⟩ => by
  unfold vSum at e
  split at e
  · cases sa with
    | cons s1 sr =>
      cases sr
      obtain ⟨a, vs, rfl, h1, r⟩ := s1
      obtain ⟨l, e1, e2⟩ := Option.map_eq_some_iff.mp e
      subst e2
      have := intsD_rp r e1
      subst this
      exact ⟨_, cr_sum hc, a, l, rfl, SqL.of h1, k G H _ (cn_refl g) (.int _)⟩
  · cases e
def vMax : List Da → Option Da
  | [.int i, .int j] => some (.int (if j > i then j else i))
  | _ => none
theorem cad_max (hc : X.calm = true) : CaD X (.builtin "max") vMax := caD_of fun vs H Q ⟨G, ds, d, g, sa, e, k⟩ => by
  unfold vMax at e
  split at e
  · cases sa with
    | cons s1 sr =>
      cases sr with
      | cons s2 sr =>
        cases sr
        cases see_int s1
        cases see_int s2
        cases e
        exact ⟨_, call_max2 hc, _, _, rfl, k G H _ (cn_refl g) (.int _)⟩
  · cases e
def vMin : List Da → Option Da
  | [.int i, .int j] => some (.int (if j < i then j else i))
  | _ => none
theorem cad_min (hc : X.calm = true) : CaD X (.builtin "min") vMin := caD_of fun vs H Q ⟨G, ds, d, g, sa, e, k⟩ => by
  unfold vMin at e
  split at e
  · cases sa with
    | cons s1 sr =>
      cases sr with
      | cons s2 sr =>
        cases sr
        cases see_int s1
        cases see_int s2
        cases e
        exact ⟨_, call_min2 hc, _, _, rfl, k G H _ (cn_refl g) (.int _)⟩
  · cases e
/-- isinstance -/
def isKind : Da → String → Option Bool
  | .non, "str" => some false | .non, "list" => some false | .non, "tuple" => some false | .non, "int" => some false | .non, "bool" => some false
  | .bl _, "str" => some false | .bl _, "list" => some false | .bl _, "tuple" => some false | .bl _, "int" => some true | .bl _, "bool" => some true
  | .int _, "str" => some false | .int _, "list" => some false | .int _, "tuple" => some false | .int _, "int" => some true | .int _, "bool" => some false
  | .str _, "str" => some true | .str _, "list" => some false | .str _, "tuple" => some false | .str _, "int" => some false | .str _, "bool" => some false
  | .lst _, "str" => some false | .lst _, "list" => some true | .lst _, "tuple" => some false | .lst _, "int" => some false | .lst _, "bool" => some false
  | .tup _, "str" => some false | .tup _, "list" => some false | .tup _, "tuple" => some true | .tup _, "int" => some false | .tup _, "bool" => some false
  | _, _ => none
def tyD : Da → String
  | .non => "NoneType" | .bl _ => "bool" | .int _ => "int" | .str _ => "str" | .lst _ => "list" | .tup _ => "tuple" | _ => ""
theorem isKind_kit {d : Da} {n : String} {b : Bool} (h : isKind d n = some b) : kitB (tyD d) n = some b := by
  unfold isKind at h
  split at h <;> first | (cases h; simp only [tyD]; decide +kernel) | cases h
theorem See.ty {K : PySem.W.Frag} {G H : Hp} {v : V} {d : Da} {n : String} {b : Bool} (h : See K G H v d) (hk : isKind d n = some b) : TyX K H v (.type (tyD d)) := by
  cases d with
  | non => cases see_non h; exact .base .non
  | bl _ => cases see_bl h; exact .base (.bl _)
  | int _ => cases see_int h; exact .base (.int _)
  | str _ => obtain ⟨rfl, _⟩ := see_str h; exact .base (.str _)
  | lst _ => obtain ⟨a, vs, rfl, h1, _⟩ := h; exact .base (.lst h1)
  | tup _ =>
    obtain ⟨a, vs, rfl, h1, _⟩ := h
    rcases h1 with (h1 | ⟨o, h1⟩) | ⟨o, its, m, h1, h2, _⟩
    · exact .base (.tup h1)
    · exact .fTuple h1
    · exact .kTuple h1 h2
  | ins _ _ => simp [isKind] at hk
  | ty _ => simp [isKind] at hk
  | glo _ => simp [isKind] at hk
  | scr _ => simp [isKind] at hk
def vIsi : List Da → Option Da
  | [d, .ty n] => (isKind d n).map .bl
  | _ => none
theorem cad_isi : CaD X (.builtin "isinstance") vIsi := caD_of fun vs H Q ⟨G, ds, d, g, sa, e, k⟩ => by
  unfold vIsi at e
  split at e
  · rename_i d0 n
    cases sa with
    | cons s1 sr =>
      cases sr with
      | cons s2 sr =>
        cases sr
        cases see_ty s2
        obtain ⟨b, e1, e2⟩ := Option.map_eq_some_iff.mp e
        subst e2
        exact ⟨_, call_isi, _, _, _, _, b, rfl, .ty n, s1.ty e1, kit_ty (isKind_kit e1), k G H _ (cn_refl g) (.bl _)⟩
  · cases e
/-- list(xs) -/
def vList : List Da → Option (List Da)
  | [.lst xs] => some xs
  | [.tup xs] => some xs
  | _ => none
theorem RpA.line {K : PySem.W.Frag} {G : Hp} {vs : List V} {ds : List Da} (r : RpA K G vs ds) (h : ds.length ≤ 16777216) : vs.length ≤ sizeLine := by
  rw [r.length, sizeLine_eq]
  exact h
def vListOf : List Da → Option (List Da)
  | [.lst xs] => if xs.length ≤ 16777216 then some xs else none
  | [.tup xs] => if xs.length ≤ 16777216 then some xs else none
  | _ => none
theorem can_list : CaN X (.type "list") vListOf := caN_of fun vs H Q ⟨G, ds, es, g, sa, e, k⟩ => by
  unfold vListOf at e
  split at e
  · split at e
    · rename_i hl
      cases sa with
      | cons s1 sr =>
        cases sr
        obtain ⟨a, vs, rfl, h1, r⟩ := s1
        cases e
        exact ⟨_, call_list_of, a, vs, rfl, .inl (SqL.of h1), fun l hl' => k l vs hl' r (r.line hl)⟩
    · cases e
  · split at e
    · rename_i hl
      cases sa with
      | cons s1 sr =>
        cases sr
        obtain ⟨a, vs, rfl, h1, r⟩ := s1
        cases e
        exact ⟨_, call_list_of, a, vs, rfl, .inr h1, fun l hl' => k l vs hl' r (r.line hl)⟩
    · cases e
  · cases e
/-- tuple(xs) of a list -/
def vTupOf : List Da → Option Da
  | [.lst xs] => if xs.length ≤ 16777216 then some (.tup xs) else none
  | _ => none
theorem cad_tup : CaD X (.type "tuple") vTupOf := caD_of fun vs H Q ⟨G, ds, d, g, sa, e, k⟩ => by
  unfold vTupOf at e
  split at e
  · split at e
    · rename_i hl
      cases sa with
      | cons s1 sr =>
        cases sr
        obtain ⟨a, vs, rfl, h1, r⟩ := s1
        cases e
        refine ⟨_, call_tuple_of, a, vs, rfl, .inl ⟨SqL.of h1, fun p hp => ?_⟩⟩
        have c := Cn.new g hp (.tup vs)
        exact k _ _ _ c (.tup (SqT.of upd_same) (r.mono c.gg))
    · cases e
  · cases e
/-- all, any of a list of truths -/
def blsD : List Da → Option (List Bool)
  | [] => some []
  | .bl i :: r => match blsD r with
    | some l => some (i :: l)
    | none => none
  | _ => none
theorem blsD_map : ∀ l : List Bool, blsD (l.map .bl) = some l
  | [] => rfl
  | i :: l => by rw [List.map_cons]; unfold blsD; rw [blsD_map l]
theorem blsD_rp {K : PySem.W.Frag} {G : Hp} : ∀ {vs : List V} {ds : List Da} {l : List Bool}, RpA K G vs ds → blsD ds = some l → vs = l.map V.bl
  | _, _, _, .nil, e => by cases e; rfl
  | _, _, l, .cons (d := d) (ds := ds) h r, e => by
    cases d with
    | bl i =>
      unfold blsD at e
      cases q : blsD ds with
      | none => simp [q] at e
      | some l' =>
        simp only [q, Option.some.injEq] at e
        subst e
        cases h
        rw [blsD_rp r q]
        rfl
    | _ => cases e
def vAll : List Da → Option Da
  | [.lst xs] => (blsD xs).map fun l => .bl (l.all id)
  | _ => none
def vAny : List Da → Option Da
  | [.lst xs] => (blsD xs).map fun l => .bl (l.any id)
  | _ => none
theorem cad_all (hc : X.calm = true) : CaD X (.builtin "all") vAll := caD_of fun vs H Q ⟨G, ds, d, g, sa, e, k⟩ => by
  unfold vAll at e
  split at e
  · cases sa with
    | cons s1 sr =>
      cases sr
      obtain ⟨a, vs, rfl, h1, r⟩ := s1
      obtain ⟨l, e1, e2⟩ := Option.map_eq_some_iff.mp e
      subst e2
      have := blsD_rp r e1
      subst this
      exact ⟨_, cr_all hc, a, l, rfl, SqL.of h1, k G H _ (cn_refl g) (.bl _)⟩
  · cases e
theorem cad_any (hc : X.calm = true) : CaD X (.builtin "any") vAny := caD_of fun vs H Q ⟨G, ds, d, g, sa, e, k⟩ => by
  unfold vAny at e
  split at e
  · cases sa with
    | cons s1 sr =>
      cases sr
      obtain ⟨a, vs, rfl, h1, r⟩ := s1
      obtain ⟨l, e1, e2⟩ := Option.map_eq_some_iff.mp e
      subst e2
      have := blsD_rp r e1
      subst this
      exact ⟨_, cr_any hc, a, l, rfl, SqL.of h1, k G H _ (cn_refl g) (.bl _)⟩
  · cases e

/-! ### subscripts -/
theorem atI_rp {K : PySem.W.Frag} {G : Hp} {vs : List V} {ds : List Da} {i : Int} {d : Da} (r : RpA K G vs ds) (e : atI ds i = some d) : ∃ v, atI vs i = some v ∧ Rp K G v d := by
  unfold atI at e ⊢
  rw [r.length]
  cases q : ixN ds.length i with
  | none => rw [q] at e; cases e
  | some j =>
    rw [q] at e
    exact r.get' e
def vIx : Da → Da → Option Da
  | .lst xs, .int i => atI xs i
  | .tup xs, .int i => atI xs i
  | .str l, .int i => if l.length ≤ 16777216 then (atI l i).map fun c => .str [c] else none
  | _, _ => none
theorem atI_mem {α : Type} {l : List α} {i : Int} {c : α} (h : atI l i = some c) : c ∈ l := by
  obtain ⟨j, _, h2, _⟩ := atI_get h
  exact List.mem_of_getElem? h2
theorem ixd : IxR X (rD X.K vIx) := fun value slice pins s σ H x y v u Q I rx ry ⟨G, dx, dy, d, g, sx, sy, e, k⟩ hs => by
  unfold vIx at e
  split at e
  · obtain ⟨a, vs, rfl, h1, r⟩ := sx
    cases see_int sy
    obtain ⟨w, e1, e2⟩ := atI_rp r e
    exact ix_list value slice pins s σ H _ _ v u Q I rx ry ⟨a, vs, _, w, rfl, rfl, SqL.of h1, e1, k G H _ (cn_refl g) e2⟩ hs
  · obtain ⟨a, vs, rfl, h1, r⟩ := sx
    cases see_int sy
    obtain ⟨w, e1, e2⟩ := atI_rp r e
    exact ix_tup value slice pins s σ H _ _ v u Q I rx ry ⟨a, vs, _, w, rfl, rfl, h1, e1, k G H _ (cn_refl g) e2⟩ hs
  · split at e
    · rename_i hl
      obtain ⟨rfl, c⟩ := see_str sx
      cases see_int sy
      obtain ⟨z, e1, e2⟩ := Option.map_eq_some_iff.mp e
      subst e2
      exact ix_str value slice pins s σ H _ _ v u Q I rx ry ⟨_, _, z, rfl, rfl, by rw [S_length, sizeLine_eq]; exact hl, e1, k G H _ (cn_refl g) (.str (fun c' hc' => by
        have : c' = z := by simpa using hc'
        subst this
        exact c _ (atI_mem e1)))⟩ hs
    · cases e
  · cases e
theorem ve_ix {a b : Expr} {pos : Pos} {fa fb : EM Pk} (ha : VP X W a fa) (hb : VP X W b fb) (hs : PlainIx b := by exact fun _ _ => rfl) : VE X W (.Subscript a b pos) (fBin vIx fa fb) := pe_mono (pe_ix ixd ha hb hs) fun _ _ _ h => tV_bin h

/-! ### slices -/
def tVo (K : PySem.W.Frag) (W : WX) (f : EM (Option Int)) : TO := fun σ H Q => ∃ B ρ G, Stt K B ρ σ G H ∧ Sat (f ρ) (fun o ρ' => ∀ G' H', Same G G' → Stt K B ρ' σ G' H' → Q o H') (exW K W B σ)
abbrev VO (X : Cx) (W : WX) (e : Option Expr) (f : EM (Option Int)) : Prop := PO X e (tVo X.K W f)
theorem po_mono {e : Option Expr} {t t' : TO} (h : PO X e t) (k : ∀ σ H Q, t' σ H Q → t σ H Q) : PO X e t' := ⟨fun pins s σ H Q I q => h.run pins s σ H Q I (k σ H Q q)⟩
theorem vo_none : VO X W none (mP none) := po_mono po_none fun σ H Q ⟨B, ρ, G, t, s⟩ => s G H (Same.refl _) t
def asInt : Da → Option Int
  | .int i => some i
  | _ => none
def fInt (f : EM Da) : EM (Option Int) := mB f fun d => mO ((asInt d).map some)
theorem vo_some {e : Expr} {f : EM Da} (h : VE X W e f) : VO X W (some e) (fInt f) := po_mono (po_some h) fun σ H Q ⟨B, ρ, G, t, s⟩ =>
  ⟨B, ρ, G, t, (sat_bind s).imp (fun d ρ1 s1 x G1 H1 g1 t1 r1 => by
    obtain ⟨o, e, k⟩ := sat_o s1
    cases d with
    | int i =>
      cases r1
      cases e
      exact ⟨i, rfl, k G1 H1 g1 t1⟩
    | _ => cases e) fun e ρ' k => k⟩
def cutD {α : Type} (xs : List α) (lo hi : Option Int) : List α := (xs.drop (HT.sIx xs.length 0 lo)).take (HT.sIx xs.length xs.length hi - HT.sIx xs.length 0 lo)
theorem RpA.cut {K : PySem.W.Frag} {G : Hp} {vs : List V} {ds : List Da} (r : RpA K G vs ds) (lo hi : Option Int) : RpA K G (cutV vs lo hi) (cutD ds lo hi) := by
  unfold cutV cutD
  rw [r.length]
  exact (r.drop _).take _
theorem cutD_sub {α : Type} {xs : List α} {lo hi : Option Int} {c : α} (h : c ∈ cutD xs lo hi) : c ∈ xs := List.mem_of_mem_drop (List.mem_of_mem_take h)
def fSl {α : Type} (r : Da → Option Int → Option Int → Option α) (fa : EM Pk) (fl fh : EM (Option Int)) : EM α := mB fa fun p => mB fl fun lo => mB fh fun hi => fun ρ => mO (match look ρ p with
  | some d => r d lo hi
  | none => none) ρ
def vSlS : Da → Option Int → Option Int → Option Da
  | .str l, lo, hi => if l.length ≤ 16777216 then some (.str (cutD l lo hi)) else none
  | _, _, _ => none
def vSlL : Da → Option Int → Option Int → Option (List Da)
  | .lst xs, lo, hi => if xs.length ≤ 16777216 then some (cutD xs lo hi) else none
  | .scr ns, lo, hi => if ns.length ≤ 16777216 then some (cutD (ns.map .int) lo hi) else none
  | _, _, _ => none
theorem rpA_ints {K : PySem.W.Frag} {G : Hp} : ∀ ns : List Int, RpA K G (ns.map V.int) (ns.map Da.int)
  | [] => .nil
  | n :: ns => .cons (.int n) (rpA_ints ns)
theorem ve_slS {e : Expr} {lo hi : Option Expr} {pos p2 : Pos} {fa : EM Pk} {fl fh : EM (Option Int)} (ha : VP X W e fa) (hl : VO X W lo fl) (hh : VO X W hi fh) : VE X W (.Subscript e (.Slice lo hi none p2) pos) (fSl vSlS fa fl fh) :=
  pe_mono (pe_slice sl_str ha hl hh) fun σ H Q ⟨B, ρ, G, t, s⟩ => ⟨B, ρ, G, t, (sat_bind s).imp (fun p ρ1 s1 x G1 H1 g1 t1 px => ⟨B, ρ1, G1, t1, (sat_bind s1).imp (fun lo ρ2 s2 G2 H2 g2 t2 =>
    ⟨B, ρ2, G2, t2, (sat_bind s2).imp (fun hi ρ3 s3 G3 H3 g3 t3 => by
      obtain ⟨o, e, k⟩ := sat_o s3
      cases l1 : look ρ3 p with
      | none => rw [l1] at e; cases e
      | some d =>
        rw [l1] at e
        have sx := see_of t3 ((px.mono g2).mono g3) l1
        cases d with
        | str l =>
          obtain ⟨rfl, c⟩ := see_str sx
          simp only [vSlS] at e
          split at e
          · rename_i hl
            cases e
            refine ⟨_, rfl, by rw [S_length, sizeLine_eq]; exact hl, ?_⟩
            have q : cutS ⟨l.toArray⟩ lo hi = ⟨(cutD l lo hi).toArray⟩ := by
              unfold cutS cutD
              rw [S_length] <;> rfl
            rw [q]
            exact k _ G3 H3 ((g1.trans g2).trans g3) t3 (.str (c.sub fun _ h => cutD_sub h))
          · cases e
        | _ => cases e) fun e ρ' k => k⟩) fun e ρ' k => k⟩) fun e ρ' k => k⟩
theorem vn_slL {e : Expr} {lo hi : Option Expr} {pos p2 : Pos} {fa : EM Pk} {fl fh : EM (Option Int)} (ha : VP X W e fa) (hl : VO X W lo fl) (hh : VO X W hi fh) : VN X W (.Subscript e (.Slice lo hi none p2) pos) (fSl vSlL fa fl fh) :=
  pe_mono (pe_slice sl_list ha hl hh) fun σ H Q ⟨B, ρ, G, t, s⟩ => ⟨B, ρ, G, t, (sat_bind s).imp (fun p ρ1 s1 x G1 H1 g1 t1 px => ⟨B, ρ1, G1, t1, (sat_bind s1).imp (fun lo ρ2 s2 G2 H2 g2 t2 =>
    ⟨B, ρ2, G2, t2, (sat_bind s2).imp (fun hi ρ3 s3 G3 H3 g3 t3 => by
      obtain ⟨o, e, k⟩ := sat_o s3
      cases l1 : look ρ3 p with
      | none => rw [l1] at e; cases e
      | some d =>
        rw [l1] at e
        have sx := see_of t3 ((px.mono g2).mono g3) l1
        cases d with
        | lst xs =>
          obtain ⟨a, vs, rfl, h1, r⟩ := sx
          simp only [vSlL] at e
          split at e
          · rename_i hl
            cases e
            refine ⟨a, vs, rfl, SqL.of h1, fun z hz => ?_⟩
            refine k z _ G3 H3 ((g1.trans g2).trans g3) hz t3 (r.cut lo hi) ?_
            have h2 := r.length
            refine Nat.le_trans (cutV_length vs lo hi) ?_
            rw [h2, sizeLine_eq]
            exact hl
          · cases e
        | scr ns =>
          simp only [vSlL] at e
          split at e
          · rename_i hl
            cases e
            cases sx with
            | scr h1 =>
            refine ⟨_, _, rfl, t3.cg.gh.seq h1, fun z hz => ?_⟩
            refine k z _ G3 H3 ((g1.trans g2).trans g3) hz t3 ((rpA_ints ns).cut lo hi) ?_
            refine Nat.le_trans (cutV_length _ lo hi) ?_
            rw [List.length_map, sizeLine_eq]
            exact hl
          · cases e
        | _ => cases e) fun e ρ' k => k⟩) fun e ρ' k => k⟩) fun e ρ' k => k⟩
end
end Vl
/-! the value layer: displays, tests, fields, calls of defs -/
namespace Vl
open PySem PySem.Spec PyProof.Rows L2

section
variable {X : Cx} {W : WX}
/-! ### displays -/
def fLst (fa : EM (List Da)) : EM (List Da) := mB fa fun ds => mO (if ds.length ≤ 16777216 then some ds else none)
theorem vn_lst {es : List Expr} {pos : Pos} {fa : EM (List Da)} (h : VA X W es fa) : VN X W (.List es pos) (fLst fa) := pe_mono (pe_lst h) fun σ H Q ⟨B, ρ, G, t, s⟩ =>
  ⟨B, ρ, G, t, (sat_bind s).imp (fun ds ρ1 s1 vs G1 H1 g1 t1 r1 => by
    obtain ⟨o, e, k⟩ := sat_o s1
    split at e
    · rename_i hl
      cases e
      exact ⟨r1.line hl, fun p hp => k p vs G1 H1 g1 hp t1 r1 (r1.line hl)⟩
    · cases e) fun e ρ' k => k⟩
def fTup (fa : EM (List Da)) : EM Da := mB fa fun ds => mO (if ds.length ≤ 16777216 then some (.tup ds) else none)
theorem ve_tup {es : List Expr} {x1 : Nat} {pos : Pos} {fa : EM (List Da)} (h : VA X W es fa) : VE X W (.Tuple es x1 pos) (fTup fa) := pe_mono (pe_tup h) fun σ H Q ⟨B, ρ, G, t, s⟩ =>
  ⟨B, ρ, G, t, (sat_bind s).imp (fun ds ρ1 s1 vs G1 H1 g1 t1 r1 => by
    obtain ⟨o, e, k⟩ := sat_o s1
    split at e
    · rename_i hl
      cases e
      refine ⟨r1.line hl, fun p hp => ?_⟩
      have c := Cn.new t1.cg.gh hp (.tup vs)
      exact k _ _ _ (g1.trans c.gg) (t1.step c) (.tup (SqT.of upd_same) (r1.mono c.gg))
    · cases e) fun e ρ' k => k⟩

/-! ### tests -/
def asBl : Da → Option Bool
  | .bl b => some b
  | _ => none
theorem tVt_val {K : PySem.W.Frag} {f : EM Da} {σ : L2.St} {H : Hp} {Q : Bool → Hp → Prop} (h : tVt K W (mB f fun d => mO (asBl d)) σ H Q) : tV K W f σ H fun x H' => ∃ c, x = .bl c ∧ Q c H' := by
  obtain ⟨B, ρ, G, t, s⟩ := h
  refine ⟨B, ρ, G, t, (sat_bind s).imp (fun d ρ1 s1 v G1 H1 g1 t1 r1 => ?_) fun e ρ' k => k⟩
  obtain ⟨b, e, k⟩ := sat_o s1
  cases d with
  | bl c =>
    cases r1
    cases e
    exact ⟨_, rfl, k G1 H1 g1 t1⟩
  | _ => cases e
def fBinT (r : Da → Da → Option Da) (fa fb : EM Pk) : EM Bool := mB (fBin r fa fb) fun d => mO (asBl d)
theorem vt_cmp {a b : Expr} {op : CmpOp} {pos : Pos} {r : Da → Da → Option Da} {fa fb : EM Pk} (ho : OpD X (compareOp op) r) (ha : VP X W a fa) (hb : VP X W b fb) (hm : behindInMarks op b = false) :
    VT X W (.Compare a [op] [b] pos) (fBinT r fa fb) := pt_mono (pt_cmpR ho ha hb hm) fun σ H Q h => tV_bin (tVt_val h)
def vTru : Da → Option Bool
  | .non => some false
  | .bl b => some b
  | .int i => some (i != 0)
  | .str l => if l.length ≤ 16777216 then some (!l.isEmpty) else none
  | .lst xs => some (!xs.isEmpty)
  | .tup xs => some (!xs.isEmpty)
  | _ => none
theorem RpA.isEmpty {K : PySem.W.Frag} {G : Hp} {vs : List V} {ds : List Da} (r : RpA K G vs ds) : vs.isEmpty = ds.isEmpty := by cases r <;> rfl
theorem See.tru {K : PySem.W.Frag} {G H : Hp} {v : V} {d : Da} {b : Bool} (h : See K G H v d) (e : vTru d = some b) : TruV K v H b := by
  cases d with
  | non => cases see_non h; cases e; exact rfl
  | bl _ => cases see_bl h; cases e; exact rfl
  | int _ => cases see_int h; cases e; exact rfl
  | str l =>
    obtain ⟨rfl, _⟩ := see_str h
    simp only [vTru] at e
    split at e
    · rename_i hl
      cases e
      refine ⟨by rw [S_length, sizeLine_eq]; exact hl, ?_⟩
      rw [S_length]
      cases l <;> simp
      omega
    · cases e
  | lst ds =>
    obtain ⟨a, vs, rfl, h1, r⟩ := h
    cases e
    exact .inl ⟨vs, SqL.of h1, by rw [r.isEmpty]⟩
  | tup ds =>
    obtain ⟨a, vs, rfl, h1, r⟩ := h
    cases e
    exact .inr (.inl ⟨vs, h1, by rw [r.isEmpty]⟩)
  | _ => cases e
def fTru (fa : EM Pk) : EM Bool := mB fa fun p => fun ρ => mO (match look ρ p with
  | some d => vTru d
  | none => none) ρ
theorem vt_tru {a : Expr} {fa : EM Pk} (ha : VP X W a fa) (he : ∀ whole, isTrue a X.env whole = (do let v ← whole; standAt a.pos; holding [v] (truthy v)) := by intro _; rfl) : VT X W a (fTru fa) :=
  pt_mono (pt_truth ha he) fun σ H Q ⟨B, ρ, G, t, s⟩ => ⟨B, ρ, G, t, (sat_bind s).imp (fun p ρ1 s1 v G1 H1 g1 t1 px => by
    obtain ⟨b, e, k⟩ := sat_o s1
    cases l1 : look ρ1 p with
    | none => rw [l1] at e; cases e
    | some d =>
      rw [l1] at e
      exact ⟨b, (see_of t1 px l1).tru e, k G1 H1 g1 t1⟩) fun e ρ' k => k⟩
structure VW (X : Cx) (W : WX) (e : Expr) (f : EM Bool) : Prop where
  pw : PW X e (tVt X.K W f)
theorem pw_mono {e : Expr} {t t' : TT} (h : PW X e t) (k : ∀ σ H Q, t' σ H Q → t σ H Q) : PW X e t' := ⟨fun wh pins s σ H Q I q => h.run wh pins s σ H Q I (k σ H Q q)⟩
theorem vt_w {e : Expr} {f : EM Bool} (h : VW X W e f) : VT X W e f := h.pw.pt
theorem vw_and1 {a : Expr} {pos : Pos} {fa : EM Bool} (h : VT X W a fa) : VW X W (.BoolOp .And [a] pos) fa := ⟨pw_and1 h⟩
theorem vw_or1 {a : Expr} {pos : Pos} {fa : EM Bool} (h : VT X W a fa) : VW X W (.BoolOp .Or [a] pos) fa := ⟨pw_or1 h⟩
def fAnd (fa fb : EM Bool) : EM Bool := mB fa fun b => if b = true then fb else mP false
def fOr (fa fb : EM Bool) : EM Bool := mB fa fun b => if b = true then mP true else fb
theorem vw_and {a b : Expr} {r : List Expr} {pos : Pos} {fa fb : EM Bool} (ha : VT X W a fa) (hb : VW X W (.BoolOp .And (b :: r) pos) fb) : VW X W (.BoolOp .And (a :: b :: r) pos) (fAnd fa fb) :=
  ⟨pw_mono (pw_and ha hb.pw) fun σ H Q ⟨B, ρ, G, t, s⟩ => ⟨B, ρ, G, t, (sat_bind s).imp (fun c ρ1 s1 G1 H1 g1 t1 => by
    cases c with
    | true => exact ⟨B, ρ1, G1, t1, s1.imp (fun b ρ2 k G2 H2 g2 t2 => k G2 H2 (g1.trans g2) t2) fun e ρ' k => k⟩
    | false => exact s1 G1 H1 g1 t1) fun e ρ' k => k⟩⟩
theorem vw_or {a b : Expr} {r : List Expr} {pos : Pos} {fa fb : EM Bool} (ha : VT X W a fa) (hb : VW X W (.BoolOp .Or (b :: r) pos) fb) : VW X W (.BoolOp .Or (a :: b :: r) pos) (fOr fa fb) :=
  ⟨pw_mono (pw_or ha hb.pw) fun σ H Q ⟨B, ρ, G, t, s⟩ => ⟨B, ρ, G, t, (sat_bind s).imp (fun c ρ1 s1 G1 H1 g1 t1 => by
    cases c with
    | false => exact ⟨B, ρ1, G1, t1, s1.imp (fun b ρ2 k G2 H2 g2 t2 => k G2 H2 (g1.trans g2) t2) fun e ρ' k => k⟩
    | true => exact s1 G1 H1 g1 t1) fun e ρ' k => k⟩⟩
def fNot (fa : EM Bool) : EM Bool := mB fa fun b => mP (!b)
theorem vt_not {a : Expr} {pos : Pos} {fa : EM Bool} (ha : VT X W a fa) : VT X W (.UnaryOp .Not a pos) (fNot fa) := pt_mono (pt_not ha) fun σ H Q ⟨B, ρ, G, t, s⟩ =>
  ⟨B, ρ, G, t, (sat_bind s).imp (fun c ρ1 s1 G1 H1 g1 t1 => s1 G1 H1 g1 t1) fun e ρ' k => k⟩
/-- and, or, not as values (truths) -/
def fAndV (fa fb : EM Da) : EM Da := mB fa fun d => match asBl d with
  | some true => fb
  | some false => mP (.bl false)
  | none => fun _ => .stuck
def fOrV (fa fb : EM Da) : EM Da := mB fa fun d => match asBl d with
  | some false => fb
  | some true => mP (.bl true)
  | none => fun _ => .stuck
theorem ve_one {op : BoolOp} {a : Expr} {pos : Pos} {fa : EM Da} (h : VE X W a fa) : VE X W (.BoolOp op [a] pos) fa := pe_one h
theorem ve_and {a b : Expr} {r : List Expr} {pos : Pos} {fa fb : EM Da} (ha : VE X W a fa) (hb : VE X W (.BoolOp .And (b :: r) pos) fb) : VE X W (.BoolOp .And (a :: b :: r) pos) (fAndV fa fb) :=
  pe_mono (pe_and ha hb) fun σ H Q ⟨B, ρ, G, t, s⟩ => ⟨B, ρ, G, t, (sat_bind s).imp (fun d ρ1 s1 v G1 H1 g1 t1 r1 => by
    cases d with
    | bl c =>
      cases r1
      cases c with
      | true => exact ⟨true, rfl, B, ρ1, G1, t1, Sat.imp (o := fb ρ1) s1 (fun b ρ2 k v2 G2 H2 g2 t2 r2 => k v2 G2 H2 (g1.trans g2) t2 r2) fun e ρ' k => k⟩
      | false => exact ⟨false, rfl, (show ∀ v G' H', Same G G' → _ → _ → Q v H' from s1) _ G1 H1 g1 t1 (.bl false)⟩
    | _ => exact False.elim s1) fun e ρ' k => k⟩
theorem ve_or {a b : Expr} {r : List Expr} {pos : Pos} {fa fb : EM Da} (ha : VE X W a fa) (hb : VE X W (.BoolOp .Or (b :: r) pos) fb) : VE X W (.BoolOp .Or (a :: b :: r) pos) (fOrV fa fb) :=
  pe_mono (pe_or ha hb) fun σ H Q ⟨B, ρ, G, t, s⟩ => ⟨B, ρ, G, t, (sat_bind s).imp (fun d ρ1 s1 v G1 H1 g1 t1 r1 => by
    cases d with
    | bl c =>
      cases r1
      cases c with
      | false => exact ⟨false, rfl, B, ρ1, G1, t1, Sat.imp (o := fb ρ1) s1 (fun b ρ2 k v2 G2 H2 g2 t2 r2 => k v2 G2 H2 (g1.trans g2) t2 r2) fun e ρ' k => k⟩
      | true => exact ⟨true, rfl, (show ∀ v G' H', Same G G' → _ → _ → Q v H' from s1) _ G1 H1 g1 t1 (.bl true)⟩
    | _ => exact False.elim s1) fun e ρ' k => k⟩
def fNotV (fa : EM Da) : EM Da := mB fa fun d => mO ((asBl d).map fun b => .bl (!b))
theorem ve_not {a : Expr} {pos : Pos} {fa : EM Da} (ha : VE X W a fa) : VE X W (.UnaryOp .Not a pos) (fNotV fa) := pe_mono (pe_not ha) fun σ H Q ⟨B, ρ, G, t, s⟩ =>
  ⟨B, ρ, G, t, (sat_bind s).imp (fun d ρ1 s1 v G1 H1 g1 t1 r1 => by
    obtain ⟨b, e, k⟩ := sat_o s1
    cases d with
    | bl c => cases r1; cases e; exact ⟨c, rfl, k _ G1 H1 g1 t1 (.bl _)⟩
    | _ => cases e) fun e ρ' k => k⟩
def fIf {α : Type} (ft : EM Bool) (fa fb : EM α) : EM α := mB ft fun b => if b = true then fa else fb
theorem ve_if {c a b : Expr} {pos : Pos} {ft : EM Bool} {fa fb : EM Da} (hc : VT X W c ft) (ha : VE X W a fa) (hb : VE X W b fb) : VE X W (.IfExp c a b pos) (fIf ft fa fb) :=
  pe_mono (pe_ifExp hc ha hb) fun σ H Q ⟨B, ρ, G, t, s⟩ => ⟨B, ρ, G, t, (sat_bind s).imp (fun c ρ1 s1 G1 H1 g1 t1 => by
    cases c with
    | true => exact ⟨B, ρ1, G1, t1, Sat.imp (o := fa ρ1) s1 (fun b ρ2 k v2 G2 H2 g2 t2 r2 => k v2 G2 H2 (g1.trans g2) t2 r2) fun e ρ' k => k⟩
    | false => exact ⟨B, ρ1, G1, t1, Sat.imp (o := fb ρ1) s1 (fun b ρ2 k v2 G2 H2 g2 t2 r2 => k v2 G2 H2 (g1.trans g2) t2 r2) fun e ρ' k => k⟩) fun e ρ' k => k⟩
def fNeg (fa : EM Da) : EM Da := mB fa fun d => mO ((asInt d).map fun i => .int (-i))
theorem ve_neg {a : Expr} {pos : Pos} {fa : EM Da} (ha : VE X W a fa) : VE X W (.UnaryOp .USub a pos) (fNeg fa) := pe_mono (pe_un un_neg ha) fun σ H Q ⟨B, ρ, G, t, s⟩ =>
  ⟨B, ρ, G, t, (sat_bind s).imp (fun d ρ1 s1 v G1 H1 g1 t1 r1 => by
    obtain ⟨b, e, k⟩ := sat_o s1
    cases d with
    | int c => cases r1; cases e; exact ⟨c, rfl, k _ G1 H1 g1 t1 (.int _)⟩
    | _ => cases e) fun e ρ' k => k⟩
/-- one rule or the other, by the data -/
def fAlt {α : Type} (f g : EM α) : EM α := fun ρ => match f ρ with
  | .stuck => g ρ
  | o => o
theorem ve_alt {e : Expr} {f g : EM Da} (h1 : VE X W e f) (h2 : VE X W e g) : VE X W e (fAlt f g) := ⟨fun pins s σ H Q I ⟨B, ρ, G, t, q⟩ => by
  unfold fAlt at q
  cases e1 : f ρ with
  | stuck => rw [e1] at q; exact h2.run pins s σ H Q I ⟨B, ρ, G, t, q⟩
  | ok d ρ' => rw [e1] at q; exact h1.run pins s σ H Q I ⟨B, ρ, G, t, by rw [e1]; exact q⟩
  | exn d ρ' => rw [e1] at q; exact h1.run pins s σ H Q I ⟨B, ρ, G, t, by rw [e1]; exact q⟩⟩

/-! ### fields -/
def fFld (c f : Str) (fe : EM Da) : EM Da := mB fe fun d => mO (match d with
  | .ins c' gs => if c' = c then gs.lookup f else none
  | _ => none)
theorem ve_fld {c : Str} {e : Expr} {f : Str} {pos : Pos} {fe : EM Da} (hc : Cls X.K (He.ga X.K c)) (hn : NoAttr X.K (He.ga X.K c) f) (he : VE X W e fe) (hb : attributeBase e f X.env (eval e X.env) = eval e X.env := by rfl) :
    VE X W (.Attribute e f pos) (fFld c f fe) := pe_mono (pe_fld he hb) fun σ H Q ⟨B, ρ, G, t, s⟩ => ⟨B, ρ, G, t, (sat_bind s).imp (fun d ρ1 s1 v G1 H1 g1 t1 r1 => by
    obtain ⟨z, e, k⟩ := sat_o s1
    cases d with
    | ins c' gs =>
      simp only at e
      split at e
      · rename_i hcc
        subst hcc
        cases r1 with
        | ins h1 r =>
          rcases r.look f with ⟨_, q⟩ | ⟨w, d, q1, q2, q3⟩
          · rw [q] at e; cases e
          · rw [q2] at e
            cases e
            exact ⟨_, _, _, _, w, rfl, t1.cg.gh _ _ h1, hc, hn, q1, k w G1 H1 g1 t1 q3⟩
      · cases e
    | _ => cases e) fun e ρ' k => k⟩

/-! ### defs -/
inductive Res where
  | stuck | ok (d : Da) | exn (e : Exn)
def spV (K : PySem.W.Frag) (F : List Da → Res) : Sp := fun vs H Q E => ∃ G ds, Same G H ∧ RpA K G vs ds ∧ match F ds with
  | .ok d => ∀ G' H' v, Cn G H G' H' → Rp K G' v d → Q v H'
  | .exn e => ∀ G' H' cls dx, Cn G H G' H' → ExOk K H' cls dx e → E cls dx H'
  | .stuck => False
/-- a def's contract: the def at f; df: the data of the defaults that a call leaves open -/
structure FoA (P : Program) (w : World) (K : PySem.W.Frag) (mg : Str → Option Value) (base : Heap) (k : Nat) (f : Addr) (ps : List Str) (df : List Da) (F : List Da → Res) : Prop where
  ok : ∃ (fd : FuncData) (dvs : List V) (ds : List Value), FnOk P w K mg base CX0 k f fd ps (spV K F) ∧ Binds K fd ps ds ∧ Vals dvs ds ∧ ∀ G, RpA K G dvs df
  kp : PySem.W.keepIn K (.ref f) = true
def fDef (F : List Da → Res) (df : List Da) (fa : EM (List Da)) : EM Da := mB fa fun ds => fun ρ => match F (ds ++ df) with
  | .ok d => .ok d ρ
  | _ => .stuck
theorem sp_use {K : PySem.W.Frag} {F : List Da → Res} {B : Bs} {G G1 H1 : Hp} {ρ1 : Env} {σ : L2.St} {vs : List V} {ds : List Da} {Q : VK} {E : XK} (g1 : Same G G1) (t1 : Stt K B ρ1 σ G1 H1) (r : RpA K G1 vs ds)
    (s : Sat (match F ds with | .ok d => Out.ok d ρ1 | _ => .stuck) (fun d ρ' => ∀ v G' H', Same G G' → Stt K B ρ' σ G' H' → Rp K G' v d → Q v H') (exW K W B σ)) : spV K F vs H1 Q E := by
  refine ⟨G1, ds, t1.cg.gh, r, ?_⟩
  cases e : F ds with
  | ok d =>
    rw [e] at s
    exact fun G' H' v c rv => s v G' H' (g1.trans c.gg) (t1.step c) rv
  | exn x => rw [e] at s; exact s.elim
  | stuck => rw [e] at s; exact s.elim
theorem ve_call {k : Nat} {x : Str} {f : Addr} {p pos : Pos} {e : Expr} {es : List Expr} {ps : List Str} {df : List Da} {F : List Da → Res} {fa : EM (List Da)} (h : FoA X.prog X.w X.K X.mg X.base k f ps df F) (hm : X.mg x = some (.ref f)) (hr : Room k X.A) (ha : VA X W (e :: es) fa)
    (hg : Gl X x := by rfl) (hdb : (x == ("__debug__" : Str)) = false := by decide) (he : starEach (e :: es) X.env = (false, eval e X.env) :: starEach es X.env := by rfl) (hpl : (backTo pos (starEach es X.env)).any (·.1) = false := by rfl) :
    VE X W (.Call (.Name x p) (e :: es) [] pos) (fDef F df fa) := by
  obtain ⟨fd, dvs, dus, F0, hb, hd, rd⟩ := h.ok
  refine pe_mono (pe_call F0 hr hg hm h.kp hb hd pass0 ha hdb he hpl) fun σ H Q ⟨B, ρ, G, t, s⟩ => ?_
  exact ⟨B, ρ, G, t, (sat_bind s).imp (fun ds ρ1 s1 vs G1 H1 g1 t1 r1 => sp_use g1 t1 (r1.append (rd G1)) s1) fun e ρ' k => k⟩
theorem ve_call0 {k : Nat} {x : Str} {f : Addr} {p pos : Pos} {ps : List Str} {df : List Da} {F : List Da → Res} (h : FoA X.prog X.w X.K X.mg X.base k f ps df F) (hm : X.mg x = some (.ref f)) (hr : Room k X.A)
    (hg : Gl X x := by rfl) (hdb : (x == ("__debug__" : Str)) = false := by decide) : VE X W (.Call (.Name x p) [] [] pos) (fDef F df (mP [])) := by
  obtain ⟨fd, dvs, dus, F0, hb, hd, rd⟩ := h.ok
  refine pe_mono (pe_call0 F0 hr hg hm h.kp hb hd pass0 hdb) fun σ H Q ⟨B, ρ, G, t, s⟩ => ?_
  exact sp_use (ds := df) (Same.refl _) t (rd G) s
/-- a method's call; the class is known -/
def fMeth (c m : Str) (F : List Da → Res) (df : List Da) (fe : EM Da) (fa : EM (List Da)) : EM Da := mB fe fun d => match d with
  | .ins c' gs => if c' = c ∧ gs.lookup m = none then mB fa fun ds => fun ρ => match F (d :: (ds ++ df)) with
    | .ok d => .ok d ρ
    | _ => .stuck
    else fun _ => .stuck
  | _ => fun _ => .stuck
theorem tV_meth {K : PySem.W.Frag} {c m : Str} {dvs : List V} {df : List Da} {F : List Da → Res} {fe : EM Da} {fa : EM (List Da)} (rd : ∀ G, RpA K G dvs df) {σ : L2.St} {H : Hp} {Q : VK} (h : tV K W (fMeth c m F df fe fa) σ H Q) :
    tMeth (He.ga K c) m (spV K F) dvs E0 (tV K W fe) (tVa K W fa) σ H Q := by
  obtain ⟨B, ρ, G, t, s⟩ := h
  refine ⟨B, ρ, G, t, (sat_bind s).imp (fun d ρ1 s1 v G1 H1 g1 t1 r1 => ?_) fun e ρ' k => k⟩
  cases d with
  | ins c' gs =>
    simp only at s1
    by_cases hc : c' = c ∧ gs.lookup m = none
    · rw [if_pos hc] at s1
      obtain ⟨rfl, hm⟩ := hc
      have r1' := r1
      cases r1 with
      | ins h1 r =>
        refine ⟨_, _, _, rfl, t1.cg.gh _ _ h1, ?_, B, ρ1, G1, t1, (sat_bind s1).imp (fun ds ρ2 s2 vs G2 H2 g2 t2 r2 => sp_use (g1.trans g2) t2 (.cons (r1'.mono g2) (r2.append (rd G2))) s2) fun e ρ' k => k⟩
        rcases r.look m with ⟨q, _⟩ | ⟨w, d, q1, q2, q3⟩
        · exact q
        · rw [hm] at q2; cases q2
    · rw [if_neg hc] at s1
      exact s1.elim
  | _ => exact False.elim s1
theorem ve_meth {pl : Sem Bool} {k : Nat} {c m : Str} {f : Addr} {apos pos : Pos} {o e : Expr} {es : List Expr} {ps : List Str} {df : List Da} {F : List Da → Res} {fe : EM Da} {fa : EM (List Da)} (hc : Cls X.K (He.ga X.K c)) (hm : Meth X.K (He.ga X.K c) m f)
    (h : FoA X.prog X.w X.K X.mg X.base k f ps df F) (hr : Room k X.A) (ho : VE X W o fe) (ha : VA X W (e :: es) fa)
    (hst : starEach (e :: es) X.env = (false, eval e X.env) :: starEach es X.env := by rfl) (hpl : (backTo pos (starEach es X.env)).any (·.1) = false := by rfl)
    (hev : eval (.Call (.Attribute o m apos) (e :: es) [] pos) X.env = (do
      let ov ← eval o X.env
      standAt apos.atName
      let (f, first) ← holding [ov] (getMethod ov m pl)
      callWith pos f first (backTo pos (starEach (e :: es) X.env)) (backToKw pos (keywordEach [] X.env))) := by rfl) :
    VE X W (.Call (.Attribute o m apos) (e :: es) [] pos) (fMeth c m F df fe fa) := by
  obtain ⟨fd, dvs, dus, F0, hb, hd, rd⟩ := h.ok
  exact pe_mono (pe_meth (pl := pl) ho hc hm F0 hr hb hd pass0 ha hst hpl hev) fun _ _ _ q => tV_meth rd q
theorem tV_meth0 {K : PySem.W.Frag} {c m : Str} {dvs : List V} {df : List Da} {F : List Da → Res} {fe : EM Da} (rd : ∀ G, RpA K G dvs df) {σ : L2.St} {H : Hp} {Q : VK} (h : tV K W (fMeth c m F df fe (mP [])) σ H Q) :
    tMeth (He.ga K c) m (spV K F) dvs E0 (tV K W fe) tNil σ H Q := by
  obtain ⟨B, ρ, G, t, s⟩ := h
  refine ⟨B, ρ, G, t, (sat_bind s).imp (fun d ρ1 s1 v G1 H1 g1 t1 r1 => ?_) fun e ρ' k => k⟩
  cases d with
  | ins c' gs =>
    simp only at s1
    by_cases hc : c' = c ∧ gs.lookup m = none
    · rw [if_pos hc] at s1
      obtain ⟨rfl, hm⟩ := hc
      have r1' := r1
      cases r1 with
      | ins h1 r =>
        refine ⟨_, _, _, rfl, t1.cg.gh _ _ h1, ?_, sp_use (vs := _ :: ([] ++ dvs)) g1 t1 (.cons r1' (rd G1)) s1⟩
        rcases r.look m with ⟨q, _⟩ | ⟨w, d, q1, q2, q3⟩
        · exact q
        · rw [hm] at q2; cases q2
    · rw [if_neg hc] at s1
      exact s1.elim
  | _ => exact False.elim s1
theorem ve_meth0 {pl : Sem Bool} {k : Nat} {c m : Str} {f : Addr} {apos pos : Pos} {o : Expr} {ps : List Str} {df : List Da} {F : List Da → Res} {fe : EM Da} (hc : Cls X.K (He.ga X.K c)) (hm : Meth X.K (He.ga X.K c) m f)
    (h : FoA X.prog X.w X.K X.mg X.base k f ps df F) (hr : Room k X.A) (ho : VE X W o fe)
    (hev : eval (.Call (.Attribute o m apos) [] [] pos) X.env = (do
      let ov ← eval o X.env
      standAt apos.atName
      let (f, first) ← holding [ov] (getMethod ov m pl)
      callWith pos f first (backTo pos (starEach [] X.env)) (backToKw pos (keywordEach [] X.env))) := by rfl) :
    VE X W (.Call (.Attribute o m apos) [] [] pos) (fMeth c m F df fe (mP [])) := by
  obtain ⟨fd, dvs, dus, F0, hb, hd, rd⟩ := h.ok
  exact pe_mono (pe_meth0 (pl := pl) ho hc hm F0 hr hb hd pass0 hev) fun _ _ _ q => tV_meth0 rd q

/-! ### C(..) -/
/-- __init__: the instance at p gets its fields -/
def spI (K : PySem.W.Frag) (c : Str) (F : List Da → Option (List (Str × Da))) : Sp := fun vs H Q _ => ∃ G p dx us ds, vs = .ref p :: us ∧ Same G H ∧ G p = none ∧ H p = some (.ins (He.ga K c) dx []) ∧ RpA K G us ds ∧ ∃ gs, F ds = some gs ∧
  ∀ G' H' dx' fs, Cg (fun b => b = p) G H G' H' → H' p = some (.ins (He.ga K c) dx' fs) → RpF K G' fs gs → Q .non H'
structure FoI (P : Program) (w : World) (K : PySem.W.Frag) (mg : Str → Option Value) (base : Heap) (k : Nat) (c : Str) (ps : List Str) (F : List Da → Option (List (Str × Da))) : Prop where
  ok : ∃ fd : FuncData, FnOk P w K mg base CX0 k (He.ma K (He.ga K c) "__init__") fd ps (spI K c F) ∧ Binds K fd ps []
  mkr : Mk K (He.ga K c) (He.ma K (He.ga K c) "__init__")
def fMake (c : Str) (F : List Da → Option (List (Str × Da))) (fa : EM (List Da)) : EM Da := mB fa fun ds => mO ((F ds).map (.ins c))
theorem same_make {H : Hp} {x dx : Addr} {o : HO} (hx : H x = none) (hd : H dx = none) : Same H (upd (upd H dx (.own x)) x o) := fun b u e => by
  rw [upd_ne (ne_of_none e hx), upd_ne (ne_of_none e hd)]
  exact e
theorem ve_make {k : Nat} {x : Str} {p pos : Pos} {e : Expr} {es : List Expr} {ps : List Str} {F : List Da → Option (List (Str × Da))} {fa : EM (List Da)} (h : FoI X.prog X.w X.K X.mg X.base k x ps F) (hm : X.mg x = some (.ref (He.ga X.K x))) (hr : Room (k + 1) X.A) (ha : VA X W (e :: es) fa)
    (hg : Gl X x := by rfl) (hdb : (x == ("__debug__" : Str)) = false := by decide) (he : starEach (e :: es) X.env = (false, eval e X.env) :: starEach es X.env := by rfl) (hpl : (backTo pos (starEach es X.env)).any (·.1) = false := by rfl) :
    VE X W (.Call (.Name x p) (e :: es) [] pos) (fMake x F fa) := by
  obtain ⟨fd, F0, hb⟩ := h.ok
  refine pe_mono (pe_make h.mkr F0 hr hg hm hb .nil pass0 ha hdb he hpl) fun σ H Q ⟨B, ρ, G, t, s⟩ => ?_
  refine ⟨B, ρ, G, t, (sat_bind s).imp (fun ds ρ1 s1 vs G1 H1 g1 t1 r1 => ?_) fun e ρ' k => k⟩
  obtain ⟨d, e1, k1⟩ := sat_o s1
  obtain ⟨gs, e2, e3⟩ := Option.map_eq_some_iff.mp e1
  subst e3
  intro y dx hy hdx nex
  have gn : G1 y = none := by
    cases q : G1 y with
    | none => rfl
    | some o => rw [t1.cg.gh _ _ q] at hy; cases hy
  refine ⟨G1, y, dx, vs, ds, by rw [List.append_nil], t1.cg.gh.trans (same_make hy hdx), gn, upd_same, r1, gs, e2, fun G' H' dx' fs c hp rf => ⟨rfl, ?_⟩⟩
  have gn' : G' y = none := (c.mg y rfl).1
  obtain ⟨f1, f2⟩ := Cn.freeze c.gh gn' hp
  have sH : Same H1 H' := fun b u q => by
    have nb : b ≠ y := ne_of_none q hy
    exact c.hh b u (fun z => nb z) (same_make hy hdx b u q)
  have cn : Cn G1 H1 (upd G' y (.ins (He.ga X.K x) dx' fs)) H' := ⟨c.gg.trans f1, f2, fun b u _ q => sH b u q, fun b u q => by
    by_cases nb : b = y
    · subst nb
      exact .inr hy
    · rw [upd_ne nb] at q
      rcases c.fr b u q with z | z
      · exact .inl z
      · rw [upd_ne nb] at z
        by_cases nd : b = dx
        · subst nd
          exact .inr hdx
        · rw [upd_ne nd] at z
          exact .inr z, fun _ z => z.elim, fun _ z => z.elim⟩
  exact k1 _ _ _ (g1.trans cn.gg) (t1.step cn) (.ins upd_same (rf.mono f1))
/-- C() of a class without __init__ -/
structure FoN (K : PySem.W.Frag) (c : Str) : Prop where
  makes : PySem.W.makesIn K (He.ga K c) = true
  init : PySem.W.findIn K (.ref (He.ga K c)) "__init__" = some (some (.builtin "object.__init__"))
  top : PySem.W.mroIn K (He.ga K c) (.type "object") = some true
  kp : PySem.W.keepIn K (.ref (He.ga K c)) = true
theorem ve_make0 {x : Str} {p pos : Pos} (h : FoN X.K x) (hm : X.mg x = some (.ref (He.ga X.K x))) (hg : Gl X x := by rfl) (hdb : (x == ("__debug__" : Str)) = false := by decide) : VE X W (.Call (.Name x p) [] [] pos) (mP (.ins x [])) := by
  refine ⟨fun pins s σ H Q I ⟨B, ρ, G, t, q⟩ => ?_⟩
  refine wpAny_Call_Name_kw (ld_glob I hg hm ?_ hdb)
  refine PySem.W.callWith_K0 I.kIn h.kp ?_
  have I2 := Inv.made (C := He.ga X.K x) I
  have hy : H (s.heap.objs.size + 1) = none := I.hok.fresh (Nat.le_succ _)
  have hdx : H s.heap.objs.size = none := I.hok.fresh (Nat.le_refl _)
  have e1 : (s.heap.push PySem.W.emptyDict).get? s.heap.objs.size = some PySem.W.emptyDict := Heap.get?_push_size s.heap rfl
  have ho : ((s.heap.push PySem.W.emptyDict).push (PySem.W.instObj (He.ga X.K x) s.heap.objs.size)).get? (s.heap.objs.size + 1) = some (PySem.W.instObj (He.ga X.K x) s.heap.objs.size) := by
    have := Heap.get?_push_size (s.heap.push PySem.W.emptyDict) (o := PySem.W.instObj (He.ga X.K x) s.heap.objs.size) rfl
    rwa [Heap.size_push] at this
  refine wpAny_call (make_map0 I.kIn h.makes h.init (fun self => PySem.W.Looks.of_pure (PySem.W.oi_bind self)) ?_)
  have t1 : PySem.W.Looks (model X.prog X.w) ((s.heap.push PySem.W.emptyDict).push (PySem.W.instObj (He.ga X.K x) s.heap.objs.size)) (typeOf (.ref (s.heap.objs.size + 1))) (.ref (He.ga X.K x)) := (PySem.W.Looks.ld ho).andThen .now
  have t2 : PySem.W.Looks (model X.prog X.w) ((s.heap.push PySem.W.emptyDict).push (PySem.W.instObj (He.ga X.K x) s.heap.objs.size)) (isInstance (.ref (s.heap.objs.size + 1)) (.type "object")) true := t1.andThen (PySem.W.looks_mroIn I2.kIn h.top)
  refine codeAny_call_builtin PySem.W.oi_plain PySem.W.entry_oi (@PySem.W.check_slot (model X.prog X.w) _ _ _ "object.__init__" "object" "__init__" (.ref (s.heap.objs.size + 1)) [] [] _ PySem.W.oi_kind PySem.W.oi_split t2 (NwA.oi_args_any (.ref (s.heap.objs.size + 1)) [] []) ?_)
  rw [PySem.W.oi_run]
  refine wpAny_pure (And.intro rfl ?_)
  have c : Cn G H (upd G (s.heap.objs.size + 1) (.ins (He.ga X.K x) s.heap.objs.size [])) (upd (upd H s.heap.objs.size (.own (s.heap.objs.size + 1))) (s.heap.objs.size + 1) (.ins (He.ga X.K x) s.heap.objs.size [])) := by
    have c1 := Cn.newM t.cg.gh hdx (.own (s.heap.objs.size + 1))
    exact c1.trans (Cn.new c1.gh (by rw [upd_ne (Ne.symm (Nat.ne_of_lt (Nat.lt_succ_self _)))]; exact hy) _)
  exact ⟨.ref (s.heap.objs.size + 1), _, I2, rfl, q _ _ _ c.gg (t.step c) (.ins upd_same .nil)⟩
end
end Vl
/-! the value layer: walked things, targets, statements, bodies of defs -/
namespace Vl
open PySem PySem.Spec PyProof.Rows L2

section
variable {X : Cx} {W : WX}
/-! ### what is walked -/
structure ItOk (K : PySem.W.Frag) (J : It) (G : Hp) (ds : List Da) : Prop where
  go : ∀ G2 H2 i, Same G G2 → Same G2 H2 → i < ds.length → J.go i H2
  stop : ∀ G2 H2, Same G G2 → Same G2 H2 → J.stop ds.length H2
  yld : ∀ G2 H2 i x H', i < ds.length → Same G G2 → Same G2 H2 → J.yld i H2 x H' → ∃ G' d, Cn G2 H2 G' H' ∧ ds[i]? = some d ∧ Rp K G' x d
def tVi (K : PySem.W.Frag) (W : WX) (f : EM (List Da)) : TI := fun σ H R => ∃ B ρ G, Stt K B ρ σ G H ∧ Sat (f ρ) (fun ds ρ' => ∀ J G' H', Same G G' → Stt K B ρ' σ G' H' → ItOk K J G' ds → R J H') (exW K W B σ)
abbrev VI (X : Cx) (W : WX) (tg e : Expr) (f : EM (List Da)) : Prop := PI X tg e (tVi X.K W f)
theorem pi_mono {tg e : Expr} {t t' : TI} (h : PI X tg e t) (k : ∀ σ H R, t' σ H R → t σ H R) : PI X tg e t' := ⟨fun pins s σ H R I q => h.run pins s σ H R I (k σ H R q)⟩
def itemsL : Da → Option (List Da)
  | .lst xs => some xs
  | _ => none
def itemsT : Da → Option (List Da)
  | .tup xs => some xs
  | _ => none
def itemsS : Da → Option (List Da)
  | .str l => some (l.map fun c => .str [c])
  | _ => none
theorem it_list {K : PySem.W.Frag} {G : Hp} {a : Addr} {vs : List V} {ds : List Da} (h : G a = some (.lst vs)) (r : RpA K G vs ds) : ItOk K (Itl K a) G ds where
  go := fun G2 H2 i g1 g2 hi => by
    have h1 : vs[i]? ≠ none := by
      rw [Ne, List.getElem?_eq_none_iff, r.length]
      omega
    obtain ⟨v, hv⟩ := Option.ne_none_iff_exists'.mp h1
    exact ⟨vs, v, SqL.of (g2 _ _ (g1 _ _ h)), hv⟩
  stop := fun G2 H2 g1 g2 => ⟨vs, SqL.of (g2 _ _ (g1 _ _ h)), Nat.le_of_eq r.length⟩
  yld := fun G2 H2 i x H' hi g1 g2 y => by
    obtain ⟨e, y⟩ := y
    subst e
    obtain ⟨d, e1, e2⟩ := r.get (y vs (SqL.of (g2 _ _ (g1 _ _ h))))
    exact ⟨G2, d, Cn.refl g2, e1, e2.mono g1⟩
theorem it_tup {K : PySem.W.Frag} {G : Hp} {a : Addr} {vs : List V} {ds : List Da} (h : SqT K G a vs) (r : RpA K G vs ds) : ItOk K (Itt K a) G ds where
  go := fun G2 H2 i g1 g2 hi => by
    have h1 : vs[i]? ≠ none := by
      rw [Ne, List.getElem?_eq_none_iff, r.length]
      omega
    obtain ⟨v, hv⟩ := Option.ne_none_iff_exists'.mp h1
    exact ⟨vs, v, same_t g2 (same_t g1 h), hv⟩
  stop := fun G2 H2 g1 g2 => ⟨vs, same_t g2 (same_t g1 h), Nat.le_of_eq r.length⟩
  yld := fun G2 H2 i x H' hi g1 g2 y => by
    obtain ⟨e, y⟩ := y
    subst e
    obtain ⟨d, e1, e2⟩ := r.get (y vs (same_t g2 (same_t g1 h)))
    exact ⟨G2, d, Cn.refl g2, e1, e2.mono g1⟩
def fIt (r : Da → Option (List Da)) (f : EM Da) : EM (List Da) := mB f fun d => mO (r d)
theorem vi_list {tg e : Expr} {f : EM Da} (h : VE X W e f) : VI X W tg e (fIt itemsL f) := pi_mono (pi_list h) fun σ H R ⟨B, ρ, G, t, s⟩ => ⟨B, ρ, G, t, (sat_bind s).imp (fun d ρ1 s1 v G1 H1 g1 t1 r1 => by
  obtain ⟨ds, e, k⟩ := sat_o s1
  cases r1 with
  | lst h1 r =>
    cases e
    exact ⟨_, rfl, ⟨_, SqL.of (t1.cg.gh _ _ h1)⟩, k _ G1 H1 g1 t1 (it_list h1 r)⟩
  | _ => cases e) fun e ρ' k => k⟩
theorem vi_tup {tg e : Expr} {f : EM Da} (h : VE X W e f) : VI X W tg e (fIt itemsT f) := pi_mono (pi_tup h) fun σ H R ⟨B, ρ, G, t, s⟩ => ⟨B, ρ, G, t, (sat_bind s).imp (fun d ρ1 s1 v G1 H1 g1 t1 r1 => by
  obtain ⟨ds, e, k⟩ := sat_o s1
  cases r1 with
  | tup h1 r =>
    cases e
    exact ⟨_, rfl, ⟨_, same_t t1.cg.gh h1⟩, k _ G1 H1 g1 t1 (it_tup h1 r)⟩
  | _ => cases e) fun e ρ' k => k⟩
theorem vi_str {tg e : Expr} {f : EM Da} (h : VE X W e f) : VI X W tg e (fIt itemsS f) := pi_mono (pi_str h) fun σ H R ⟨B, ρ, G, t, s⟩ => ⟨B, ρ, G, t, (sat_bind s).imp (fun d ρ1 s1 v G1 H1 g1 t1 r1 => by
  obtain ⟨ds, e, k⟩ := sat_o s1
  cases r1 with
  | @str l hc =>
    cases e
    refine ⟨_, rfl, k _ G1 H1 g1 t1 ⟨fun G2 H2 i _ _ hi => ?_, fun G2 H2 _ _ => ?_, fun G2 H2 i x H' hi g2 g3 y => ?_⟩⟩
    · show i < l.toArray.size
      simpa using hi
    · show l.toArray.size ≤ _
      simp
    · obtain ⟨e, c, hc1, hx⟩ := y
      subst e
      subst hx
      have hc2 : l[i]? = some c := by simpa using hc1
      refine ⟨G2, .str [c], Cn.refl g3, by rw [List.getElem?_map, hc2] <;> rfl, .str fun c' hc' => ?_⟩
      have : c' = c := by simpa using hc'
      subst this
      exact hc _ (List.mem_of_getElem? hc2)
  | _ => cases e) fun e ρ' k => k⟩
def rangeD (lo : Int) (n : Nat) : List Da := (List.range n).map fun (k : Nat) => .int (lo + (k : Int))
theorem it_range {K : PySem.W.Frag} {G : Hp} {lo : Int} {n : Nat} : ItOk K (Itr lo n) G (rangeD lo n) where
  go := fun G2 H2 i _ _ hi => by
    unfold rangeD at hi
    rw [List.length_map, List.length_range] at hi
    exact hi
  stop := fun G2 H2 _ _ => by
    unfold rangeD
    rw [List.length_map, List.length_range]
    exact Nat.le_refl n
  yld := fun G2 H2 i x H' hi g1 g2 y => by
    obtain ⟨e, y⟩ := y
    subst e
    subst y
    refine ⟨G2, .int (lo + (i : Int)), Cn.refl g2, ?_, .int _⟩
    unfold rangeD at hi ⊢
    rw [List.length_map, List.length_range] at hi
    rw [List.getElem?_map, List.getElem?_range hi] <;> rfl
def rng1 : List Da → Option (List Da)
  | [.int n] => if -4611686018427387904 ≤ n ∧ n < 4611686018427387904 then some (rangeD 0 n.toNat) else none
  | _ => none
def rng2 : List Da → Option (List Da)
  | [.int lo, .int n] => if -4611686018427387904 ≤ lo ∧ lo < 4611686018427387904 ∧ -4611686018427387904 ≤ n ∧ n < 4611686018427387904 then some (rangeD lo (n - lo).toNat) else none
  | _ => none
def fItA (r : List Da → Option (List Da)) (f : EM (List Da)) : EM (List Da) := mB f fun ds => mO (r ds)
theorem vi_range1 {tg a : Expr} {p pos : Pos} {fa : EM (List Da)} (hm : X.mg "range" = none) (ha : VA X W [a] fa) (hg : Gl X "range" := by rfl) (hs : starEach [a] X.env = [(false, eval a X.env)] := by rfl) : VI X W tg (.Call (.Name "range" p) [a] [] pos) (fItA rng1 fa) :=
  pi_mono (pi_range1 hg hm ha hs) fun σ H R ⟨B, ρ, G, t, s⟩ => ⟨B, ρ, G, t, (sat_bind s).imp (fun ds ρ1 s1 vs G1 H1 g1 t1 r1 => by
    obtain ⟨es, e, k⟩ := sat_o s1
    unfold rng1 at e
    split at e
    · rename_i n
      split at e
      · rename_i hc
        cases e
        cases r1 with
        | cons h r =>
          cases r
          cases h
          exact ⟨n, rfl, by omega, by omega, k _ G1 H1 g1 t1 it_range⟩
      · cases e
    · cases e) fun e ρ' k => k⟩
theorem vi_range2 {tg a b : Expr} {p pos : Pos} {fa : EM (List Da)} (hm : X.mg "range" = none) (ha : VA X W [a, b] fa) (hg : Gl X "range" := by rfl) (hs : starEach [a, b] X.env = [(false, eval a X.env), (false, eval b X.env)] := by rfl) (hs2 : starEach [b] X.env = [(false, eval b X.env)] := by rfl) :
    VI X W tg (.Call (.Name "range" p) [a, b] [] pos) (fItA rng2 fa) :=
  pi_mono (pi_range2 hg hm ha hs hs2) fun σ H R ⟨B, ρ, G, t, s⟩ => ⟨B, ρ, G, t, (sat_bind s).imp (fun ds ρ1 s1 vs G1 H1 g1 t1 r1 => by
    obtain ⟨es, e, k⟩ := sat_o s1
    unfold rng2 at e
    split at e
    · rename_i lo n
      split at e
      · rename_i hc
        cases e
        cases r1 with
        | cons h r =>
          cases r with
          | cons h2 r =>
            cases r
            cases h
            cases h2
            exact ⟨lo, n, rfl, by omega, k _ G1 H1 g1 t1 it_range⟩
      · cases e
    · cases e) fun e ρ' k => k⟩
/-- enumerate, zip -/
def enumD (i : Nat) : List Da → List Da
  | [] => []
  | d :: ds => .tup [.int i, d] :: enumD (i + 1) ds
theorem enumD_length : ∀ (ds : List Da) (i : Nat), (enumD i ds).length = ds.length
  | [], _ => rfl
  | d :: ds, i => by simp [enumD, enumD_length ds]
theorem enumD_get : ∀ (ds : List Da) (i j : Nat) (d : Da), ds[j]? = some d → (enumD i ds)[j]? = some (.tup [.int ((i + j : Nat) : Int), d])
  | [], _, _, _, h => by simp at h
  | d :: ds, i, 0, d', h => by
    have e : d = d' := by simpa using h
    subst e
    simp [enumD]
  | d :: ds, i, j + 1, d', h => by
    have h' : ds[j]? = some d' := by simpa using h
    have q := enumD_get ds (i + 1) j d' h'
    have e2 : i + 1 + j = i + (j + 1) := by omega
    rw [e2] at q
    show (enumD (i + 1) ds)[j]? = _
    exact q
def enumOf : List Da → Option (List Da)
  | [.lst xs] => some (enumD 0 xs)
  | _ => none
theorem vi_enum {e : Expr} {p pos tpos : Pos} {elts : List Expr} {kk : Nat} {fa : EM (List Da)} (hm : X.mg "enumerate" = none) (ha : VA X W [e] fa) (hg : Gl X "enumerate" := by rfl) (hs : starEach [e] X.env = [(false, eval e X.env)] := by rfl) :
    VI X W (.Tuple elts kk tpos) (.Call (.Name "enumerate" p) [e] [] pos) (fItA enumOf fa) :=
  pi_mono (pi_enum hg hm ha hs) fun σ H R ⟨B, ρ, G, t, s⟩ => ⟨B, ρ, G, t, (sat_bind s).imp (fun ds ρ1 s1 vs G1 H1 g1 t1 r1 => by
    obtain ⟨es, e, k⟩ := sat_o s1
    unfold enumOf at e
    split at e
    · rename_i xs
      cases e
      cases r1 with
      | cons h r =>
        cases r
        cases h with
        | @lst a us _ h1 r2 =>
          refine ⟨a, us, rfl, SqL.of (t1.cg.gh _ _ h1), k _ G1 H1 g1 t1 ⟨fun G2 H2 i g2 g3 hi => ?_, fun G2 H2 g2 g3 => ?_, fun G2 H2 i x H' hi g2 g3 y => ?_⟩⟩
          · have h2 := (it_list h1 r2).go G2 H2 i g2 g3 (by rw [enumD_length] at hi; exact hi)
            exact h2
          · have h2 := (it_list h1 r2).stop G2 H2 g2 g3
            rw [enumD_length]
            exact h2
          · obtain ⟨T, z, rfl, hT, rfl, hz⟩ := y
            obtain ⟨d, e1, e2⟩ := r2.get (hz us (SqL.of (g3 _ _ (g2 _ _ h1))))
            have c := Cn.new g3 hT (.tup [.int (i : Nat), z])
            refine ⟨_, .tup [.int (i : Nat), d], c, ?_, .tup (SqT.of upd_same) (.cons (.int _) (.cons (e2.mono (g2.trans c.gg)) .nil))⟩
            have q := enumD_get xs 0 i d e1
            rw [Nat.zero_add] at q
            exact q
    · cases e) fun e ρ' k => k⟩
def zipD : List Da → List Da → List Da
  | a :: as, b :: bs => .tup [a, b] :: zipD as bs
  | _, _ => []
theorem zipD_length : ∀ (as bs : List Da), (zipD as bs).length = min as.length bs.length
  | [], _ => by simp [zipD]
  | _ :: _, [] => by simp [zipD]
  | a :: as, b :: bs => by
    simp only [zipD, List.length_cons, zipD_length as bs]
    omega
theorem zipD_get : ∀ (as bs : List Da) (i : Nat) (a b : Da), as[i]? = some a → bs[i]? = some b → (zipD as bs)[i]? = some (.tup [a, b])
  | [], _, _, _, _, h, _ => by simp at h
  | _ :: _, [], _, _, _, _, h => by simp at h
  | a :: as, b :: bs, 0, a', b', h, h' => by
    have e : a = a' := by simpa using h
    have e' : b = b' := by simpa using h'
    subst e e'
    simp [zipD]
  | a :: as, b :: bs, i + 1, a', b', h, h' => by
    show (zipD as bs)[i]? = _
    exact zipD_get as bs i a' b' (by simpa using h) (by simpa using h')
def zipOf : List Da → Option (List Da)
  | [.lst xs, .lst ys] => some (zipD xs ys)
  | _ => none
theorem vi_zip {e e2 : Expr} {p pos tpos : Pos} {elts : List Expr} {kk : Nat} {fa : EM (List Da)} (hm : X.mg "zip" = none) (ha : VA X W [e, e2] fa) (hg : Gl X "zip" := by rfl)
    (hs : starEach [e, e2] X.env = (false, eval e X.env) :: starEach [e2] X.env := by rfl) (hs2 : (backTo pos (starEach [e2] X.env)).any (·.1) = false := by rfl) :
    VI X W (.Tuple elts kk tpos) (.Call (.Name "zip" p) [e, e2] [] pos) (fItA zipOf fa) :=
  pi_mono (pi_zip hg hm ha hs hs2) fun σ H R ⟨B, ρ, G, t, s⟩ => ⟨B, ρ, G, t, (sat_bind s).imp (fun ds ρ1 s1 vs G1 H1 g1 t1 r1 => by
    obtain ⟨es, e, k⟩ := sat_o s1
    unfold zipOf at e
    split at e
    · rename_i xs ys
      cases e
      cases r1 with
      | cons h r =>
        cases r with
        | cons h' r =>
        cases r
        cases h with
        | @lst a us _ h1 r2 =>
        cases h' with
        | @lst b ws _ h2 r3 =>
          have l2 := r2.length
          have l3 := r3.length
          refine ⟨a, b, us, ws, rfl, SqL.of (t1.cg.gh _ _ h1), SqL.of (t1.cg.gh _ _ h2), k _ G1 H1 g1 t1 ⟨fun G2 H2 i g2 g3 hi => ?_, fun G2 H2 g2 g3 => ?_, fun G2 H2 i x H' hi g2 g3 y => ?_⟩⟩
          · rw [zipD_length] at hi
            have q1 : us[i]? = some us[i] := List.getElem?_eq_getElem (by omega)
            have q2 : ws[i]? = some ws[i] := List.getElem?_eq_getElem (by omega)
            exact ⟨us, ws, _, _, SqL.of (g3 _ _ (g2 _ _ h1)), SqL.of (g3 _ _ (g2 _ _ h2)), q1, q2⟩
          · rw [zipD_length]
            exact ⟨us, ws, SqL.of (g3 _ _ (g2 _ _ h1)), SqL.of (g3 _ _ (g2 _ _ h2)), by omega⟩
          · obtain ⟨T, z, z', rfl, hT, rfl, hz, hz'⟩ := y
            obtain ⟨d, e1, e2⟩ := r2.get (hz us (SqL.of (g3 _ _ (g2 _ _ h1))))
            obtain ⟨d', e1', e2'⟩ := r3.get (hz' ws (SqL.of (g3 _ _ (g2 _ _ h2))))
            have c := Cn.new g3 hT (.tup [z, z'])
            exact ⟨_, .tup [d, d'], c, zipD_get xs ys i d d' e1 e1', .tup (SqT.of upd_same) (.cons (e2.mono (g2.trans c.gg)) (.cons (e2'.mono (g2.trans c.gg)) .nil))⟩
    · cases e) fun e ρ' k => k⟩

/-! ### targets -/
/-- st: the store; js: the slots that may change -/
def tVg (K : PySem.W.Frag) (js : List Nat) (st : Da → Env → Option Env) : TG := fun v σ H Q => ∃ B ρ G d ρ', Stt K B ρ σ G H ∧ Rp K G v d ∧ st d ρ = some ρ' ∧ ∀ σ', Stt K B ρ' σ' G H → σ'.length = σ.length → (∀ k, k ∉ js → σ'[k]? = σ[k]?) → Q σ' H
abbrev VG (X : Cx) (tg : Expr) (js : List Nat) (st : Da → Env → Option Env) : Prop := PG X tg (tVg X.K js st)
theorem pg_mono {tg : Expr} {t t' : TG} (h : PG X tg t) (k : ∀ v σ H Q, t' v σ H Q → t v σ H Q) : PG X tg t' := ⟨fun pins s σ H v u Q I r q => h.run pins s σ H v u Q I r (k v σ H Q q)⟩
def stN (i : Nat) : Da → Env → Option Env := fun d ρ => some (ρ.set i (some (.imm d)))
theorem vg_name (i : Nat) {x : Str} {pos : Pos} (hN : X.N.Nodup) (hi : X.N[i]? = some x := by rfl) (hx : Loc X.env.scope x := by first | exact Or.inl rfl | exact Or.inr rfl) (hf : X.fn x = true ∨ X.env.scope.names.lookup x = some .local := by first | exact .inl rfl | exact .inr rfl) : VG X (.Name x pos) [i] (stN i) :=
  pg_mono (pg_name hN hi hx hf) fun v σ H Q ⟨B, ρ, G, d, ρ', t, r, e, k⟩ => by
    cases e
    refine k _ (t.setI r) (by rw [List.length_set]) fun j hj => ?_
    rw [List.getElem?_set_ne (by simpa using fun z => hj (by simp [z]))]
def tVgs (K : PySem.W.Frag) (js : List Nat) (st : List Da → Env → Option Env) : TGs := fun vs σ H Q => ∃ B ρ G ds ρ', Stt K B ρ σ G H ∧ RpA K G vs ds ∧ st ds ρ = some ρ' ∧ ∀ σ', Stt K B ρ' σ' G H → σ'.length = σ.length → (∀ k, k ∉ js → σ'[k]? = σ[k]?) → Q σ' H
abbrev VGs (X : Cx) (ts : List Expr) (js : List Nat) (st : List Da → Env → Option Env) : Prop := PGs X ts (tVgs X.K js st)
theorem pgs_mono {ts : List Expr} {t t' : TGs} (h : PGs X ts t) (k : ∀ v σ H Q, t' v σ H Q → t v σ H Q) : PGs X ts t' := ⟨fun pins s σ H v u Q I r q => h.run pins s σ H v u Q I r (k v σ H Q q)⟩
def stNil : List Da → Env → Option Env
  | [], ρ => some ρ
  | _, _ => none
def stCons (s : Da → Env → Option Env) (r : List Da → Env → Option Env) : List Da → Env → Option Env
  | d :: ds, ρ => (s d ρ).bind fun ρ' => r ds ρ'
  | [], _ => none
theorem vgs_nil : VGs X [] [] stNil := pgs_mono pgs_nil fun vs σ H Q ⟨B, ρ, G, ds, ρ', t, r, e, k⟩ => by
  cases ds with
  | nil =>
    cases r
    cases e
    exact ⟨rfl, k _ t rfl fun _ _ => rfl⟩
  | cons d ds => cases e
theorem vgs_cons {e : Expr} {es : List Expr} {i j : List Nat} {s : Da → Env → Option Env} {r : List Da → Env → Option Env} (h1 : VG X e i s) (h2 : VGs X es j r) (hx : (assignEach (e :: es) X.env).map (·.2) = assign e X.env :: (assignEach es X.env).map (·.2) := by rfl) : VGs X (e :: es) (i ++ j) (stCons s r) :=
  pgs_mono (pgs_cons h1 h2 hx) fun vs σ H Q ⟨B, ρ, G, ds, ρ', t, ra, e, k⟩ => by
    cases ra with
    | nil => cases e
    | @cons v vs d ds r1 r2 =>
      obtain ⟨ρ1, e1, e2⟩ := Option.bind_eq_some_iff.mp e
      exact ⟨v, vs, rfl, B, ρ, G, d, ρ1, t, r1, e1, fun σ1 t1 l1 f1 => ⟨B, ρ1, G, ds, ρ', t1, r2, e2, fun σ2 t2 l2 f2 => k σ2 t2 (l2.trans l1) fun q hq => by
        rw [f2 q fun z => hq (List.mem_append_right _ z), f1 q fun z => hq (List.mem_append_left _ z)]⟩⟩
def stTup (n : Nat) (r : List Da → Env → Option Env) : Da → Env → Option Env
  | .tup ds, ρ => if ds.length = n then r ds ρ else none
  | _, _ => none
theorem vg_tup {es : List Expr} {k : Nat} {pos : Pos} {j : List Nat} {r : List Da → Env → Option Env} {n : Nat} (hc : X.calm = true) (h : VGs X es j r) (hn : (assignEach es X.env).length = n := by rfl) (hst : (assignEach es X.env).findIdx? (·.1) = none := by rfl) : VG X (.Tuple es k pos) j (stTup n r) :=
  pg_mono (pg_tup hc h hn hst) fun v σ H Q ⟨B, ρ, G, d, ρ', t, r1, e, k⟩ => by
    cases r1 with
    | @tup a vs ds h1 r2 =>
      simp only [stTup] at e
      split at e
      · rename_i hl
        exact ⟨a, vs, rfl, same_t t.cg.gh h1, by rw [r2.length]; exact hl, B, ρ, G, ds, ρ', t, r2, e, k⟩
      · cases e
    | _ => cases e
end
end Vl
/-! the value layer: statements, loops, comprehensions, bodies -/
namespace Vl
open PySem PySem.Spec PyProof.Rows L2

section
variable {X : Cx} {W : WX}
/-! ### cells to be stored -/
inductive Ext (K : PySem.W.Frag) (B : Bs) (ρ : Env) (σ : L2.St) (G H : Hp) : List V → List Ce → Prop
  | nil : Ext K B ρ σ G H [] []
  | cons {v : V} {c : Ce} {vs : List V} {cs : List Ce} : CeOk K B.M B.H0 G H v c → (isOwn c = true → ∀ l, v = .ref l → B.F l = none ∧ (∀ (i : Nat) (d : Ce), ρ[i]? = some (some d) → isOwn d = true → σ[i]? ≠ some (some v)) ∧ ∀ (j : Nat) (d : Ce), cs[j]? = some d → isOwn d = true → vs[j]? ≠ some v) →
      Ext K B ρ σ G H vs cs → Ext K B ρ σ G H (v :: vs) (c :: cs)
section
variable {K : PySem.W.Frag} {B : Bs} {ρ : Env} {σ : L2.St} {G H : Hp}
theorem Ext.length {vs : List V} {cs : List Ce} (x : Ext K B ρ σ G H vs cs) : vs.length = cs.length := by
  induction x with
  | nil => rfl
  | cons _ _ _ ih => exact congrArg Nat.succ ih
theorem own_ref {M : Addr → Option Nat} {H0 : Hp} {v : V} {c : Ce} (h : CeOk K M H0 G H v c) (o : isOwn c = true) : ∃ l, v = .ref l := let ⟨l, _, e, _⟩ := h.own o; ⟨l, e⟩
theorem Ext.put {i : Nat} {v : V} {c : Ce} : ∀ {vs : List V} {cs : List Ce}, Ext K B ρ σ G H vs cs → (isOwn c = true → ∀ (j : Nat) (d : Ce), cs[j]? = some d → isOwn d = true → vs[j]? ≠ some v) → Ext K B (ρ.set i (some c)) (σ.set i (some v)) G H vs cs
  | _, _, .nil, _ => .nil
  | _, _, .cons (v := u) (c := d) (vs := us) (cs := ds) h k r, hc => by
    refine .cons h (fun od l el => ?_) (r.put fun oc j d' e o => hc oc (j + 1) d' (by simpa using e) o)
    obtain ⟨k1, k2, k3⟩ := k od l el
    refine ⟨k1, fun j d' e o => ?_, k3⟩
    rcases set_get e with ⟨rfl, e'⟩ | ⟨ne, e'⟩
    · cases e'
      intro z
      rcases set_get z with ⟨_, q⟩ | ⟨q, _⟩
      · have q' : u = v := Option.some.inj q
        exact hc o 0 d rfl od (by rw [q'] <;> rfl)
      · exact q rfl
    · rw [List.getElem?_set_ne ne]
      exact k2 j d' e' o
theorem Stt.store {i : Nat} {v : V} {c : Ce} {vs : List V} {cs : List Ce} (t : Stt K B ρ σ G H) (x : Ext K B ρ σ G H (v :: vs) (c :: cs)) : Stt K B (ρ.set i (some c)) (σ.set i (some v)) G H ∧ Ext K B (ρ.set i (some c)) (σ.set i (some v)) G H vs cs := by
  cases x with
  | cons h k r =>
    refine ⟨t.set h (fun oc j d u _ e od es q => ?_) (fun oc l el => (k oc l el).1), r.put fun oc => ?_⟩
    · obtain ⟨l, el⟩ := own_ref h oc
      rw [q] at es
      exact (k oc l el).2.1 j d e od es
    · obtain ⟨l, el⟩ := own_ref h oc
      exact (k oc l el).2.2
end
def tVc (K : PySem.W.Frag) (W : WX) (f : EM (List Ce)) : TA := fun σ H Q => ∃ B ρ G, Stt K B ρ σ G H ∧ Sat (f ρ) (fun cs ρ' => ∀ vs G' H', Same G G' → Stt K B ρ' σ G' H' → Ext K B ρ' σ G' H' vs cs → Q vs H') (exW K W B σ)
abbrev VC (X : Cx) (W : WX) (es : List Expr) (f : EM (List Ce)) : Prop := PA X es (tVc X.K W f)
theorem vc_nil : VC X W [] (mP []) := pa_mono pa_nil fun σ H Q ⟨B, ρ, G, t, s⟩ => s [] G H (Same.refl _) t .nil
def fCv (f : EM Da) (g : EM (List Ce)) : EM (List Ce) := mB f fun d => mB g fun cs => mP (.imm d :: cs)
def fCn (f : EM (List Da)) (g : EM (List Ce)) : EM (List Ce) := mB f fun ds => mB g fun cs => mP (.lst ds :: cs)
/-- a value that stays, then more -/
theorem vc_v {e : Expr} {es : List Expr} {fe : EM Da} {fs : EM (List Ce)} (h : VE X W e fe) (hs : VC X W es fs) (hx : starEach (e :: es) X.env = (false, eval e X.env) :: starEach es X.env := by rfl) : VC X W (e :: es) (fCv fe fs) :=
  pa_mono (pa_cons h hs hx) fun σ H Q ⟨B, ρ, G, t, s⟩ => ⟨B, ρ, G, t, (sat_bind s).imp (fun d ρ1 s1 x G1 H1 g1 t1 r1 => ⟨B, ρ1, G1, t1, (sat_bind s1).imp (fun cs ρ2 s2 xs G2 H2 g2 t2 r2 =>
    s2 (x :: xs) G2 H2 (g1.trans g2) t2 (.cons (r1.mono g2) (fun o => nomatch o) r2)) fun e ρ' k => k⟩) fun e ρ' k => k⟩
theorem fresh0 {K : PySem.W.Frag} {B : Bs} {ρ : Env} {σ : L2.St} {G H : Hp} (t : Stt K B ρ σ G H) {p : Addr} (h : H p = none) : B.H0 p = none := by
  cases e : B.H0 p with
  | none => rfl
  | some u =>
    by_cases m : B.M p ≠ none
    · obtain ⟨o, ho⟩ := t.cg.mh p m
      rw [h] at ho
      cases ho
    · have := t.cg.hh p u m e
      rw [h] at this
      cases this
theorem gnone {G H : Hp} (e : Same G H) {p : Addr} (h : H p = none) : G p = none := by
  cases q : G p with
  | none => rfl
  | some o => rw [e _ _ q] at h; cases h
/-- a new object is kept aside -/
theorem Stt.aside {K : PySem.W.Frag} {B : Bs} {ρ : Env} {σ : L2.St} {G H : Hp} (t : Stt K B ρ σ G H) {p : Addr} (h : H p = none) (o : HO) : Stt K { B with F := upd B.F p o } ρ σ G (upd H p o) := by
  have t1 := t.step (Cn.newM t.cg.gh h o)
  refine ⟨t1.cg, fun b u q => ?_, fun i c l e oc es => ?_, t1.len, t1.sl, t1.sep⟩
  · by_cases hb : b = p
    · subst hb
      have q' : some o = some u := by rw [← q]; exact upd_same.symm
      cases q'
      exact ⟨upd_same, gnone t.cg.gh h⟩
    · have q' : B.F b = some u := by rw [← q]; exact (upd_ne hb).symm
      exact t1.pf b u q'
  · have nl : l ≠ p := fun z => by
      obtain ⟨v, e1, e2⟩ := t.sl i c e
      obtain ⟨l', u, e3, w⟩ := e2.own oc
      rw [es] at e1
      cases e1
      cases e3
      have w3 := w.2.2
      rw [z, h] at w3
      cases w3
    show upd B.F p o l = none
    rw [upd_ne nl]
    exact t1.sf i c l e oc es
theorem Stt.unaside {K : PySem.W.Frag} {B : Bs} {ρ : Env} {σ : L2.St} {G H : Hp} {p : Addr} {o : HO} (hF : B.F p = none) (t : Stt K { B with F := upd B.F p o } ρ σ G H) : Stt K B ρ σ G H := by
  refine ⟨t.cg, fun b u q => ?_, fun i c l e oc es => ?_, t.len, t.sl, t.sep⟩
  · have nb : b ≠ p := fun z => by rw [z, hF] at q; cases q
    exact t.pf b u (by show upd B.F p o b = _; rw [upd_ne nb]; exact q)
  · have q := t.sf i c l e oc es
    by_cases nl : l = p
    · rw [nl]; exact hF
    · have q' : upd B.F p o l = none := q
      rw [upd_ne nl] at q'
      exact q'
theorem Stt.asideAt {K : PySem.W.Frag} {B : Bs} {ρ : Env} {σ : L2.St} {G H : Hp} {p : Addr} {o : HO} (t : Stt K { B with F := upd B.F p o } ρ σ G H) : H p = some o ∧ G p = none := t.pf p o upd_same
theorem Ext.unaside {K : PySem.W.Frag} {B : Bs} {ρ : Env} {σ : L2.St} {G H : Hp} {p : Addr} {o : HO} (hF : B.F p = none) : ∀ {vs : List V} {cs : List Ce}, Ext K { B with F := upd B.F p o } ρ σ G H vs cs → Ext K B ρ σ G H vs cs ∧ ∀ (j : Nat) (d : Ce), cs[j]? = some d → isOwn d = true → vs[j]? ≠ some (.ref p)
  | _, _, .nil => ⟨.nil, fun j d e => by simp at e⟩
  | _, _, .cons (v := v) (c := c) h k r => by
    obtain ⟨r1, r2⟩ := Ext.unaside hF r
    have key : isOwn c = true → ∀ l, v = .ref l → B.F l = none ∧ l ≠ p := fun oc l el => by
      have q : upd B.F p o l = none := (k oc l el).1
      have nl : l ≠ p := fun z => by rw [z, upd_same] at q; cases q
      rw [upd_ne nl] at q
      exact ⟨q, nl⟩
    refine ⟨.cons h (fun oc l el => ⟨(key oc l el).1, (k oc l el).2⟩) r1, fun j d e od => ?_⟩
    cases j with
    | zero =>
      have e' : c = d := by simpa using e
      subst e'
      intro z
      have z' : v = .ref p := by simpa using z
      exact (key od p z').2 rfl
    | succ j => exact r2 j d (by simpa using e) od
/-- a new list of its own, then more -/
theorem vc_n {e : Expr} {es : List Expr} {fe : EM (List Da)} {fs : EM (List Ce)} (h : VN X W e fe) (hs : VC X W es fs) (hx : starEach (e :: es) X.env = (false, eval e X.env) :: starEach es X.env := by rfl) : VC X W (e :: es) (fCn fe fs) :=
  pa_mono (pa_cons h hs hx) fun σ H Q ⟨B, ρ, G, t, s⟩ => ⟨B, ρ, G, t, (sat_bind s).imp (fun ds ρ1 s1 p vs G1 H1 g1 np t1 r1 hl => by
    have hF : B.F p = none := by
      cases q : B.F p with
      | none => rfl
      | some u => rw [(t1.pf p u q).1] at np; cases np
    refine ⟨{ B with F := upd B.F p (.lst vs) }, ρ1, G1, t1.aside np _, (sat_bind s1).imp (fun cs ρ2 s2 xs G2 H2 g2 t2 r2 => ?_) fun e ρ' k => ?_⟩
    · obtain ⟨x1, x2⟩ := r2.unaside hF
      obtain ⟨a1, a2⟩ := t2.asideAt
      refine s2 (.ref p :: xs) G2 H2 (g1.trans g2) (t2.unaside hF) (.cons ⟨p, vs, rfl, ⟨a2, .inl (fresh0 t1 np), a1⟩, r1.mono g2⟩ (fun _ l el => ?_) x1)
      cases el
      refine ⟨hF, fun i d e od z => ?_, x2⟩
      have q := t2.sf i d p e od z
      have q' : upd B.F p (.lst vs) p = none := q
      rw [upd_same] at q'
      cases q'
    · intro G' H' cls dx t' ex
      exact k G' H' cls dx (t'.unaside hF) ex) fun e ρ' k => k⟩

/-! ### statements -/
def fSeq (f g : EM Fl) : EM Fl := fun ρ => match f ρ with
  | .ok .nx ρ' => g ρ'
  | o => o
theorem vss_nil : VSs X W [] (mP .nx) := pss_mono pss_nil fun D σ H ⟨B, ρ, G, t, s⟩ => s σ G H (Same.refl _) t
theorem vss_one {st : Stmt} {f : EM Fl} (h : VS X W st f) : VSs X W [st] f := pss_one h
theorem vss_cons {st : Stmt} {r : List Stmt} {f g : EM Fl} (h : VS X W st f) (hr : VSs X W r g) : VSs X W (st :: r) (fSeq f g) := pss_mono (pss_cons h hr) fun D σ H ⟨B, ρ, G, t, s⟩ => by
  refine ⟨B, ρ, G, t, ?_⟩
  unfold fSeq at s
  cases e : f ρ with
  | stuck => rw [e] at s; exact s
  | exn x ρ' => rw [e] at s; exact s
  | ok fl ρ' =>
    rw [e] at s
    cases fl with
    | nx => exact fun σ' G' H' g' t' => ⟨B, ρ', G', t', Sat.imp (o := g ρ') s (fun _ _ k => FlOk.mono g' k) fun _ _ k => k⟩
    | rt d => exact s
    | bk => exact s
    | ct => exact s
    | rn ds => exact s
def fStuck {α : Type} : EM α := fun _ => .stuck
theorem vs_never {st : Stmt} : VS X W st fStuck := ps_mono ps_never fun D σ H ⟨B, ρ, G, t, s⟩ => s
theorem vss_never {sts : List Stmt} : VSs X W sts fStuck := pss_mono pss_never fun D σ H ⟨B, ρ, G, t, s⟩ => s
theorem vs_pass {pos : Pos} : VS X W (.Pass pos) (mP .nx) := ps_mono ps_pass fun D σ H ⟨B, ρ, G, t, s⟩ => s σ G H (Same.refl _) t
theorem vs_break {pos : Pos} : VS X W (.Break pos) (mP .bk) := ps_mono ps_break fun D σ H ⟨B, ρ, G, t, s⟩ => s σ G H (Same.refl _) t
theorem vs_continue {pos : Pos} : VS X W (.Continue pos) (mP .ct) := ps_mono ps_continue fun D σ H ⟨B, ρ, G, t, s⟩ => s σ G H (Same.refl _) t
/-- behind an expression the exception's wish is the statement's -/
theorem exW_of {K : PySem.W.Frag} {B : Bs} {e : Exn} {ρ : Env} {σ : L2.St} (k : exS K W B e ρ) : exW K W B σ e ρ := fun G' H' cls dx t ex => k σ G' H' cls dx t ex
def fExpr {α : Type} (f : EM α) : EM Fl := mB f fun _ => mP .nx
theorem vs_expr {e : Expr} {pos : Pos} {f : EM Da} (h : VE X W e f) (hs : swapsWith e none pos.line X.env = pure false := by rfl) : VS X W (.Expr e pos) (fExpr f) := ps_mono (ps_expr h hs) fun D σ H ⟨B, ρ, G, t, s⟩ =>
  ⟨B, ρ, G, t, (sat_bind s).imp (fun d ρ1 s1 v G1 H1 g1 t1 r1 => s1 σ G1 H1 g1 t1) fun e ρ' k => exW_of k⟩
def fRet (f : EM Da) : EM Fl := mB f fun d => mP (.rt d)
theorem vs_ret {e : Expr} {pos : Pos} {f : EM Da} (h : VE X W e f) : VS X W (.Return (some e) pos) (fRet f) := ps_mono (ps_ret h) fun D σ H ⟨B, ρ, G, t, s⟩ =>
  ⟨B, ρ, G, t, (sat_bind s).imp (fun d ρ1 s1 v G1 H1 g1 t1 r1 => s1 v σ G1 H1 g1 t1 r1) fun e ρ' k => exW_of k⟩
/-- return xs, xs an own list that was made here -/
def fRetO (i : Nat) : EM Fl := fun ρ => match ρ[i]? with
  | some (some (.lst ds)) => .ok (.rn ds) ρ
  | _ => .stuck
theorem vs_retO (i : Nat) {x : Str} {p pos : Pos} (hN : X.N[i]? = some x := by rfl) (hv : Vis X.env.scope x := by first | exact Or.inl rfl | exact Or.inr (Or.inl rfl) | exact Or.inr (Or.inr rfl))
    (hd : (x == ("__debug__" : Str)) = false := by decide) (hcd : (x == ("__classdict__" : Str)) = false := by decide) : VS X W (.Return (some (.Name x p)) pos) (fRetO i) := ps_mono (ps_ret (pe_var hN hv hd hcd)) fun D σ H ⟨B, ρ, G, t, s⟩ => by
  unfold fRetO at s
  split at s
  · rename_i ds e
    obtain ⟨v, es, l, vs, rfl, w, r⟩ := t.sl i _ e
    exact ⟨_, es, s l vs σ G H (Same.refl _) t w r⟩
  · exact s.elim
theorem vs_retN {pos : Pos} : VS X W (.Return none pos) (mP (.rt .non)) := ps_mono ps_retN fun D σ H ⟨B, ρ, G, t, s⟩ => s .non σ G H (Same.refl _) t .non
theorem vs_if {c : Expr} {a b : List Stmt} {pos : Pos} {ft : EM Bool} {fa fb : EM Fl} (hc : VT X W c ft) (ha : VSs X W a fa) (hb : VSs X W b fb) : VS X W (.If c a b pos) (fIf ft fa fb) := ps_mono (ps_if hc ha hb) fun D σ H ⟨B, ρ, G, t, s⟩ =>
  ⟨B, ρ, G, t, (sat_bind s).imp (fun c ρ1 s1 G1 H1 g1 t1 => by
    cases c with
    | true => exact ⟨B, ρ1, G1, t1, Sat.imp (o := fa ρ1) s1 (fun _ _ k => FlOk.mono g1 k) fun _ _ k => k⟩
    | false => exact ⟨B, ρ1, G1, t1, Sat.imp (o := fb ρ1) s1 (fun _ _ k => FlOk.mono g1 k) fun _ _ k => k⟩) fun e ρ' k => exW_of k⟩
def fAsg (i : Nat) (f : EM Da) : EM Fl := mB f fun d => fun ρ => .ok .nx (ρ.set i (some (.imm d)))
theorem vs_set (i : Nat) {x : Str} {e : Expr} {pos pos' : Pos} {f : EM Da} (hN : X.N.Nodup) (h : VE X W e f) (hi : X.N[i]? = some x := by rfl) (hx : Loc X.env.scope x := by first | exact Or.inl rfl | exact Or.inr rfl)
    (hs : swapsWith e (some (.Name x pos')) pos.line X.env = pure false := by rfl) (hf : X.fn x = true ∨ X.env.scope.names.lookup x = some .local := by first | exact .inl rfl | exact .inr rfl) : VS X W (.Assign [.Name x pos'] e pos) (fAsg i f) :=
  ps_mono (ps_set hN hi hx h hs hf) fun D σ H ⟨B, ρ, G, t, s⟩ => ⟨B, ρ, G, t, (sat_bind s).imp (fun d ρ1 s1 v G1 H1 g1 t1 r1 => s1 _ G1 H1 g1 (t1.setI r1)) fun e ρ' k => exW_of k⟩
def fAsgN (i : Nat) (f : EM (List Da)) : EM Fl := mB f fun ds => fun ρ => .ok .nx (ρ.set i (some (.lst ds)))
theorem vs_setN (i : Nat) {x : Str} {e : Expr} {pos pos' : Pos} {f : EM (List Da)} (hN : X.N.Nodup) (h : VN X W e f) (hi : X.N[i]? = some x := by rfl) (hx : Loc X.env.scope x := by first | exact Or.inl rfl | exact Or.inr rfl)
    (hs : swapsWith e (some (.Name x pos')) pos.line X.env = pure false := by rfl) (hf : X.fn x = true ∨ X.env.scope.names.lookup x = some .local := by first | exact .inl rfl | exact .inr rfl) : VS X W (.Assign [.Name x pos'] e pos) (fAsgN i f) :=
  ps_mono (ps_set hN hi hx h hs hf) fun D σ H ⟨B, ρ, G, t, s⟩ => ⟨B, ρ, G, t, (sat_bind s).imp (fun ds ρ1 s1 p vs G1 H1 g1 np t1 r1 hl => s1 _ G1 _ g1 (t1.setNew np ⟨p, vs, rfl, ⟨gnone t1.cg.gh np, .inl (fresh0 t1 np), upd_same⟩, r1⟩)) fun e ρ' k => exW_of k⟩
def fTo (st : Da → Env → Option Env) (f : EM Da) : EM Fl := mB f fun d => fun ρ => match st d ρ with
  | some ρ' => .ok .nx ρ'
  | none => .stuck
theorem vs_asg {tg e : Expr} {pos : Pos} {js : List Nat} {st : Da → Env → Option Env} {f : EM Da} (h : VE X W e f) (hg : VG X tg js st) (hs : swapsWithSole [tg] e pos.line X.env = pure false := by rfl) (hw : swappedStores [tg] e X.env = pure none := by rfl) (h1 : (assignEach [tg] X.env).map (·.2) = [assign tg X.env] := by rfl) : VS X W (.Assign [tg] e pos) (fTo st f) :=
  ps_mono (ps_asg h hg hs hw h1) fun D σ H ⟨B, ρ, G, t, s⟩ => ⟨B, ρ, G, t, (sat_bind s).imp (fun d ρ1 s1 v G1 H1 g1 t1 r1 => by
    cases e : st d ρ1 with
    | none => simp only [e] at s1; exact s1.elim
    | some ρ2 =>
      simp only [e] at s1
      exact ⟨B, ρ1, G1, d, ρ2, t1, r1, e, fun σ' t' _ _ => s1 σ' G1 H1 g1 t'⟩) fun e ρ' k => exW_of k⟩
def fPar2 (i j : Nat) (f : EM (List Ce)) : EM Fl := mB f fun cs => fun ρ => match cs with
  | [c, d] => .ok .nx ((ρ.set i (some c)).set j (some d))
  | _ => .stuck
theorem vs_par2 (i j : Nat) {x y : Str} {a b : Expr} {f : EM (List Ce)} {px py pt pos : Pos} {kt k2 pt2} (hc : X.calm = true) (hN : X.N.Nodup) (ha : VC X W [a, b] f) (hi : X.N[i]? = some x := by rfl) (hj : X.N[j]? = some y := by rfl) (hij : i ≠ j := by decide)
    (hx : X.env.scope.names.lookup x = some .local := by rfl) (hy : X.env.scope.names.lookup y = some .local := by rfl)
    (hw : swappedStores [.Tuple [.Name x px, .Name y py] kt pt] (.Tuple [a, b] k2 pt2) X.env = pure (some [x, y]) := by rfl)
    (hs : swapsWithSole [.Tuple [.Name x px, .Name y py] kt pt] (.Tuple [a, b] k2 pt2) pos.line X.env = pure false := by rfl) : VS X W (.Assign [.Tuple [.Name x px, .Name y py] kt pt] (.Tuple [a, b] k2 pt2) pos) (fPar2 i j f) :=
  ps_mono (ps_par hc hN hi hj hij hx hy ha hw hs) fun D σ H ⟨B, ρ, G, t, s⟩ => ⟨B, ρ, G, t, (sat_bind s).imp (fun cs ρ1 s1 vs G1 H1 g1 t1 x1 => by
    match cs, vs, x1, s1 with
    | [c, d], [u, v], x1, s1 =>
      obtain ⟨t2, x2⟩ := t1.store (i := i) x1
      obtain ⟨t3, x3⟩ := t2.store (i := j) x2
      exact ⟨u, v, rfl, s1 _ G1 H1 g1 t3⟩
    | [], _, _, s1 => exact s1.elim
    | [_], _, _, s1 => exact s1.elim
    | _ :: _ :: _ :: _, _, _, s1 => exact s1.elim) fun e ρ' k => exW_of k⟩
def fPar3 (i j l : Nat) (f : EM (List Ce)) : EM Fl := mB f fun cs => fun ρ => match cs with
  | [c, d, e] => .ok .nx (((ρ.set i (some c)).set j (some d)).set l (some e))
  | _ => .stuck
theorem vs_par3 (i j l : Nat) {x y z : Str} {a b c : Expr} {f : EM (List Ce)} {px py pz pt pos : Pos} {kt k2 pt2} (hc : X.calm = true) (hN : X.N.Nodup) (ha : VC X W [a, b, c] f) (hi : X.N[i]? = some x := by rfl) (hj : X.N[j]? = some y := by rfl) (hl : X.N[l]? = some z := by rfl)
    (hij : i ≠ j := by decide) (hil : i ≠ l := by decide) (hjl : j ≠ l := by decide)
    (hx : X.env.scope.names.lookup x = some .local := by rfl) (hy : X.env.scope.names.lookup y = some .local := by rfl) (hz : X.env.scope.names.lookup z = some .local := by rfl)
    (hw : swappedStores [.Tuple [.Name x px, .Name y py, .Name z pz] kt pt] (.Tuple [a, b, c] k2 pt2) X.env = pure (some [x, y, z]) := by rfl)
    (hs : swapsWithSole [.Tuple [.Name x px, .Name y py, .Name z pz] kt pt] (.Tuple [a, b, c] k2 pt2) pos.line X.env = pure false := by rfl) : VS X W (.Assign [.Tuple [.Name x px, .Name y py, .Name z pz] kt pt] (.Tuple [a, b, c] k2 pt2) pos) (fPar3 i j l f) :=
  ps_mono (ps_par3 hc hN hi hj hl hij hil hjl hx hy hz ha hw hs) fun D σ H ⟨B, ρ, G, t, s⟩ => ⟨B, ρ, G, t, (sat_bind s).imp (fun cs ρ1 s1 vs G1 H1 g1 t1 x1 => by
    match cs, vs, x1, s1 with
    | [c, d, e], [u, v, w], x1, s1 =>
      obtain ⟨t2, x2⟩ := t1.store (i := i) x1
      obtain ⟨t3, x3⟩ := t2.store (i := j) x2
      obtain ⟨t4, x4⟩ := t3.store (i := l) x3
      exact ⟨u, v, w, rfl, s1 _ G1 H1 g1 t4⟩
    | [], _, _, s1 => exact s1.elim
    | [_], _, _, s1 => exact s1.elim
    | [_, _], _, _, s1 => exact s1.elim
    | _ :: _ :: _ :: _ :: _, _, _, s1 => exact s1.elim) fun e ρ' k => exW_of k⟩
/-- x += e -/
def PpD (X : Cx) (op : Operator) (r : Da → Da → Option Da) : Prop := PIp X op (rD X.K r)
def fAug (i : Nat) (r : Da → Da → Option Da) (f : EM Da) : EM Fl := fun ρ => match ρ[i]? with
  | some (some (.imm d0)) => mB f (fun d => fun ρ1 => match r d0 d with
    | some z => .ok .nx (ρ1.set i (some (.imm z)))
    | none => .stuck) ρ
  | _ => .stuck
theorem vs_aug (i : Nat) {x : Str} {e : Expr} {pos pos' : Pos} {op : Operator} {r : Da → Da → Option Da} {f : EM Da} (ho : PpD X op r) (hN : X.N.Nodup) (h : VE X W e f) (hi : X.N[i]? = some x := by rfl) (hx : Loc X.env.scope x := by first | exact Or.inl rfl | exact Or.inr rfl)
    (hf : X.fn x = true ∨ X.env.scope.names.lookup x = some .local := by first | exact .inl rfl | exact .inr rfl) : VS X W (.AugAssign (.Name x pos') op e pos) (fAug i r f) :=
  ps_mono (ps_aug hN hi hx h ho hf) fun D σ H ⟨B, ρ, G, t, s⟩ => by
    unfold fAug at s
    cases e1 : ρ[i]? with
    | none => simp only [e1] at s; exact s.elim
    | some o =>
      cases o with
      | none => simp only [e1] at s; exact s.elim
      | some c =>
        cases c with
        | imm d0 =>
          simp only [e1] at s
          obtain ⟨v, es, r0⟩ := t.sl i _ e1
          refine ⟨v, es, B, ρ, G, t, (sat_bind s).imp (fun d ρ1 s1 y G1 H1 g1 t1 r1 => ?_) fun e ρ' k => exW_of k⟩
          cases e2 : r d0 d with
          | none => simp only [e2] at s1; exact s1.elim
          | some z =>
            simp only [e2] at s1
            exact ⟨G1, d0, d, z, t1.cg.gh, See.of t1.cg.gh (Rp.mono g1 r0), See.of t1.cg.gh r1, e2, fun G' H' w c rw => s1 _ G' H' (g1.trans c.gg) ((t1.step c).setI rw)⟩
        | _ => simp only [e1] at s; exact s.elim
def vAugAdd : Da → Da → Option Da
  | .int i, .int j => some (.int (i + j))
  | .str a, .str b => if a.length + b.length ≤ 16777216 then some (.str (a ++ b)) else none
  | _, _ => none
theorem ppd_add : PpD X .Add vAugAdd := fun pins s σ H x y v u Q I rx ry ⟨G, dx, dy, d, g, sx, sy, e, k⟩ => by
  unfold vAugAdd at e
  split at e
  · cases see_int sx
    cases see_int sy
    cases e
    exact iop_add pins s σ H _ _ v u Q I rx ry ⟨_, _, rfl, rfl, k G H _ (cn_refl g) (.int _)⟩
  · obtain ⟨rfl, c1⟩ := see_str sx
    obtain ⟨rfl, c2⟩ := see_str sy
    split at e
    · rename_i hl
      cases e
      refine iop_add_str pins s σ H _ _ v u Q I rx ry ⟨_, _, rfl, rfl, ?_, ?_⟩
      · rw [S_length, S_length, sizeLine_eq]
        exact hl
      · rw [S_append]
        exact k G H _ (cn_refl g) (.str (c1.append c2))
    · cases e
  · cases e

/-! ### loops -/
def forL (st : Da → Env → Option Env) (body : EM Fl) : List Da → EM Fl
  | [] => mP .nx
  | d :: ds => fun ρ => match st d ρ with
    | none => .stuck
    | some ρ1 => match body ρ1 with
      | .ok .nx ρ2 => forL st body ds ρ2
      | .ok .ct ρ2 => forL st body ds ρ2
      | .ok .bk ρ2 => .ok .nx ρ2
      | .ok (.rt v) ρ2 => .ok (.rt v) ρ2
      | .ok (.rn v) ρ2 => .ok (.rn v) ρ2
      | .exn e ρ2 => .exn e ρ2
      | .stuck => .stuck
def fFor (fi : EM (List Da)) (st : Da → Env → Option Env) (body : EM Fl) : EM Fl := mB fi fun ds => forL st body ds
theorem vs_for {tg iter : Expr} {bd : List Stmt} {pos : Pos} {fi : EM (List Da)} {js : List Nat} {st : Da → Env → Option Env} {body : EM Fl} (hp : PassesOwn (model X.prog X.w) X.A X.env X.xe) (hc : X.calm = true) (hi : VI X W tg iter fi) (hg : VG X tg js st) (hb : VSs X W bd body)
    (hs : ∀ x, foldedSetIterable iter X.env x = pure x := by intro _; rfl) : VS X W (.For tg iter bd [] pos) (fFor fi st body) :=
  ps_mono (ps_for hp hc hi hg hb hs) fun D σ0 H0 ⟨B, ρ, G, t, s⟩ => ⟨B, ρ, G, t, (sat_bind s).imp (fun ds ρ1 s1 J G1 H1 g1 t1 it => by
    refine ⟨fun i m σ H => m = ds.length - i ∧ i ≤ ds.length ∧ ∃ ρ G, Same G1 G ∧ Stt X.K B ρ σ G H ∧ Sat (forL st body (ds.drop i) ρ) (FlOk X.K B D G1) (exS X.K W B), ⟨ds.length, by simp, Nat.zero_le _, ρ1, G1, Same.refl _, t1, Sat.imp (o := forL st body ds ρ1) s1 (fun _ _ k => FlOk.mono g1 k) fun _ _ k => k⟩, ?_⟩
    rintro i m σ H ⟨rfl, hi, ρ2, G2, g2, t2, s2⟩
    by_cases hlt : i < ds.length
    · refine .inr ⟨it.go G2 H i g2 t2.cg.gh hlt, fun σ' H' => ∃ ρ' G', Same G1 G' ∧ Stt X.K B ρ' σ' G' H' ∧ Sat (forL st body (ds.drop (i + 1)) ρ') (FlOk X.K B D G1) (exS X.K W B), fun σ' H' ⟨ρ', G', a1, a2, a3⟩ => ⟨_, by omega, rfl, hlt, ρ', G', a1, a2, a3⟩, fun x H' y => ?_⟩
      obtain ⟨G3, d, c, ed, rx⟩ := it.yld G2 H i x H' hlt g2 t2.cg.gh y
      have e0 : ds.drop i = d :: ds.drop (i + 1) := by
        rw [List.drop_eq_getElem_cons hlt]
        congr 1
        exact Option.some.inj ((List.getElem?_eq_getElem hlt).symm.trans ed)
      rw [e0] at s2
      unfold forL at s2
      cases e1 : st d ρ2 with
      | none => simp only [e1] at s2; exact s2.elim
      | some ρ3 =>
        simp only [e1] at s2
        refine ⟨B, ρ2, G3, d, ρ3, t2.step c, rx, e1, fun σ' t3 _ _ => ⟨B, ρ3, G3, t3, ?_⟩⟩
        have g3 : Same G1 G3 := g2.trans c.gg
        cases e2 : body ρ3 with
        | stuck => simp only [e2] at s2; exact s2.elim
        | exn x ρ4 => simp only [e2] at s2; exact s2
        | ok fl ρ4 =>
          simp only [e2] at s2
          cases fl with
          | nx => exact fun σ4 G4 H4 g4 t4 => ⟨ρ4, G4, g3.trans g4, t4, s2⟩
          | ct => exact fun σ4 G4 H4 g4 t4 => ⟨ρ4, G4, g3.trans g4, t4, s2⟩
          | bk => exact fun σ4 G4 H4 g4 t4 => s2 σ4 G4 H4 (g3.trans g4) t4
          | rt v => exact fun w σ4 G4 H4 g4 t4 r4 => s2 w σ4 G4 H4 (g3.trans g4) t4 r4
          | rn ds => exact fun p vs σ4 G4 H4 g4 t4 w4 r4 => s2 p vs σ4 G4 H4 (g3.trans g4) t4 w4 r4
    · have e : i = ds.length := by omega
      subst e
      rw [List.drop_length] at s2
      exact .inl ⟨it.stop G2 H g2 t2.cg.gh, s2 σ G2 H g2 t2⟩) fun e ρ' k => exW_of k⟩
def whileN (t : EM Bool) (body : EM Fl) : Nat → EM Fl
  | 0 => fStuck
  | n + 1 => mB t fun b => if b = true then (fun ρ => match body ρ with
      | .ok .nx ρ2 => whileN t body n ρ2
      | .ok .ct ρ2 => whileN t body n ρ2
      | .ok .bk ρ2 => .ok .nx ρ2
      | .ok (.rt v) ρ2 => .ok (.rt v) ρ2
      | .ok (.rn v) ρ2 => .ok (.rn v) ρ2
      | .exn e ρ2 => .exn e ρ2
      | .stuck => .stuck) else mP .nx
theorem vs_while (n : Nat) {c : Expr} {bd : List Stmt} {pos : Pos} {ft : EM Bool} {body : EM Fl} (hp : PassesOwn (model X.prog X.w) X.A X.env X.xe) (hc : VT X W c ft) (hb : VSs X W bd body) : VS X W (.While c bd [] pos) (whileN ft body n) :=
  ps_mono (ps_while hp hc hb) fun D σ0 H0 ⟨B, ρ, G, t, s⟩ => by
    refine ⟨fun m σ H => ∃ ρ G', Same G G' ∧ Stt X.K B ρ σ G' H ∧ Sat (whileN ft body m ρ) (FlOk X.K B D G) (exS X.K W B), ⟨n, ρ, G, Same.refl _, t, s⟩, ?_⟩
    rintro m σ H ⟨ρ1, G1, g1, t1, s1⟩
    cases m with
    | zero => exact s1.elim
    | succ m =>
      refine ⟨B, ρ1, G1, t1, (sat_bind (show Sat (mB ft (fun b => if b = true then (fun ρ => match body ρ with
        | .ok .nx ρ2 => whileN ft body m ρ2
        | .ok .ct ρ2 => whileN ft body m ρ2
        | .ok .bk ρ2 => .ok .nx ρ2
        | .ok (.rt v) ρ2 => .ok (.rt v) ρ2
        | .ok (.rn v) ρ2 => .ok (.rn v) ρ2
        | .exn e ρ2 => .exn e ρ2
        | .stuck => .stuck) else mP .nx) ρ1) _ _ from s1)).imp (fun b ρ2 s2 G2 H2 g2 t2 => ?_) fun e ρ' k => exW_of k⟩
      cases b with
      | false => exact s2 σ G2 H2 (g1.trans g2) t2
      | true =>
        simp only [if_true] at s2 ⊢
        refine ⟨fun σ' H' => ∃ ρ' G', Same G G' ∧ Stt X.K B ρ' σ' G' H' ∧ Sat (whileN ft body m ρ') (FlOk X.K B D G) (exS X.K W B), fun σ' H' q => ⟨m, Nat.lt_succ_self m, q⟩, B, ρ2, G2, t2, ?_⟩
        have g3 : Same G G2 := g1.trans g2
        cases e2 : body ρ2 with
        | stuck => simp only [e2] at s2; exact s2.elim
        | exn x ρ4 => simp only [e2] at s2; exact s2
        | ok fl ρ4 =>
          simp only [e2] at s2
          cases fl with
          | nx => exact fun σ4 G4 H4 g4 t4 => ⟨ρ4, G4, g3.trans g4, t4, s2⟩
          | ct => exact fun σ4 G4 H4 g4 t4 => ⟨ρ4, G4, g3.trans g4, t4, s2⟩
          | bk => exact fun σ4 G4 H4 g4 t4 => s2 σ4 G4 H4 (g3.trans g4) t4
          | rt v => exact fun w σ4 G4 H4 g4 t4 r4 => s2 w σ4 G4 H4 (g3.trans g4) t4 r4
          | rn ds => exact fun p vs σ4 G4 H4 g4 t4 w4 r4 => s2 p vs σ4 G4 H4 (g3.trans g4) t4 w4 r4
end
end Vl
/-! the value layer: comprehensions, methods of lists and texts, bodies -/
namespace Vl
open PySem PySem.Spec PyProof.Rows L2

section
variable {X : Cx} {W : WX}
/-! ### comprehensions -/
def wipeE (ρ : Env) : List Nat → Env
  | [] => ρ
  | v :: vs => (wipeE ρ vs).set v none
def compL (vs : List Nat) (st : Da → Env → Option Env) (t : EM Bool) (e : EM Da) : List Da → List Da → EM (List Da)
  | [], acc => fun ρ => .ok acc (wipeE ρ vs)
  | d :: ds, acc => fun ρ => match st d (wipeE ρ vs) with
    | none => .stuck
    | some ρ1 => match t ρ1 with
      | .ok false ρ2 => compL vs st t e ds acc ρ2
      | .ok true ρ2 => match e ρ2 with
        | .ok y ρ3 => if acc.length < 16777216 then compL vs st t e ds (acc ++ [y]) ρ3 else .stuck
        | _ => .stuck
      | _ => .stuck
def fComp (vs : List Nat) (fi : EM (List Da)) (st : Da → Env → Option Env) (t : EM Bool) (e : EM Da) : EM (List Da) := mB fi fun ds => compL vs st t e ds []
theorem get_set_none {α : Type} {l : List (Option α)} {i j : Nat} {c : α} (h : (l.set i none)[j]? = some (some c)) : i ≠ j ∧ l[j]? = some (some c) := by
  rcases set_get h with ⟨_, e⟩ | q
  · cases e
  · exact q
theorem Stt.wipe1 {K : PySem.W.Frag} {B : Bs} {ρ : Env} {σ σ' : L2.St} {G H : Hp} (t : Stt K B ρ σ G H) (i : Nat) (hl : σ'.length = σ.length) (h : ∀ k, k ≠ i → σ'[k]? = σ[k]?) : Stt K B (ρ.set i none) σ' G H where
  cg := t.cg
  pf := t.pf
  sf := fun j c l e oc es => by
    obtain ⟨ne, e'⟩ := get_set_none e
    rw [h j (Ne.symm ne)] at es
    exact t.sf j c l e' oc es
  len := by rw [List.length_set, hl]; exact t.len
  sl := fun j c e => by
    obtain ⟨ne, e'⟩ := get_set_none e
    rw [h j (Ne.symm ne)]
    exact t.sl j c e'
  sep := fun a b c d v hab ea eb oa ob sa sb => by
    obtain ⟨n1, e1⟩ := get_set_none ea
    obtain ⟨n2, e2⟩ := get_set_none eb
    rw [h a (Ne.symm n1)] at sa
    rw [h b (Ne.symm n2)] at sb
    exact t.sep a b c d v hab e1 e2 oa ob sa sb
theorem Stt.wipes {K : PySem.W.Frag} {B : Bs} {ρ : Env} {G H : Hp} : ∀ (vs : List Nat) {σ σ' : L2.St}, Stt K B ρ σ G H → σ'.length = σ.length → (∀ k, k ∉ vs → σ'[k]? = σ[k]?) → Stt K B (wipeE ρ vs) σ' G H
  | [], σ, σ', t, hl, h => by
    have e : σ' = σ := List.ext_getElem? fun k => h k (by simp)
    subst e
    exact t
  | v :: vs, σ, σ', t, hl, h => by
    have t1 : Stt K B (wipeE ρ vs) (σ'.set v ((σ[v]?).getD none)) G H := Stt.wipes vs t (by rw [List.length_set, hl]) fun k hk => by
      by_cases e : v = k
      · subst e
        by_cases hlt : v < σ'.length
        · rw [List.getElem?_set_self hlt]
          rw [hl] at hlt
          rw [List.getElem?_eq_getElem hlt] <;> rfl
        · rw [List.getElem?_eq_none_iff.mpr (by rw [List.length_set]; omega), List.getElem?_eq_none_iff.mpr (by omega)]
      · rw [List.getElem?_set_ne e]
        exact h k (by simp [hk, Ne.symm e])
    exact t1.wipe1 v (by rw [List.length_set]) fun k hk => by rw [List.getElem?_set_ne (Ne.symm hk)]
theorem wipe_get {σ : L2.St} : ∀ (vs : List Nat) (k : Nat), k ∉ vs → (L2.wipe σ vs)[k]? = σ[k]?
  | [], k, _ => rfl
  | v :: vs, k, h => by
    unfold L2.wipe
    rw [List.getElem?_set_ne (fun e => h (by simp [e]))]
    exact wipe_get vs k fun e => h (List.mem_cons_of_mem _ e)
theorem wipe_in {σ : L2.St} : ∀ (vs : List Nat) (k : Nat), k ∈ vs → k < σ.length → (L2.wipe σ vs)[k]? = some none
  | v :: vs, k, h, hl => by
    unfold L2.wipe
    by_cases e : v = k
    · subst e
      rw [List.getElem?_set_self (by rw [L2.wipe_length]; exact hl)]
    · rw [List.getElem?_set_ne e]
      exact wipe_in vs k (by rcases List.mem_cons.mp h with z | z; exact absurd z.symm e; exact z) hl
theorem wipe_same {σ σ' : L2.St} (vs : List Nat) (hl : σ'.length = σ.length) (h : ∀ k, k ∉ vs → σ'[k]? = (L2.wipe σ vs)[k]?) : L2.wipe σ' vs = L2.wipe σ vs := by
  refine List.ext_getElem? fun k => ?_
  by_cases hk : k ∈ vs
  · by_cases hlt : k < σ.length
    · rw [wipe_in vs k hk hlt, wipe_in vs k hk (by omega)]
    · rw [List.getElem?_eq_none_iff.mpr (by rw [L2.wipe_length]; omega), List.getElem?_eq_none_iff.mpr (by rw [L2.wipe_length]; omega)]
  · rw [wipe_get vs k hk, h k hk]
theorem Stt.ne0 {K : PySem.W.Frag} {B : Bs} {ρ : Env} {σ : L2.St} {G H : Hp} (t : Stt K B ρ σ G H) {D : Addr} (h0 : B.H0 D = none) : ∀ b, B.M b ≠ none → b ≠ D := fun b m z => by
  obtain ⟨o, ho⟩ := (t.cg.mg b m).2
  rw [z, h0] at ho
  cases ho
theorem CeOk.off {K : PySem.W.Frag} {M : Addr → Option Nat} {H0 G H H' : Hp} {v : V} {c : Ce} {D : Addr} (h : CeOk K M H0 G H v c) (nd : isOwn c = true → v ≠ .ref D) (k : ∀ b, b ≠ D → H' b = H b) : CeOk K M H0 G H' v c := by
  cases c with
  | imm d => exact h
  | lst ds =>
    obtain ⟨l, vs, e, w, r⟩ := h
    have nl : l ≠ D := fun q => nd rfl (by rw [e, q])
    exact ⟨l, vs, e, ⟨w.1, w.2.1, by rw [k l nl]; exact w.2.2⟩, r⟩
  | dic ds =>
    obtain ⟨l, vs, e, w, r⟩ := h
    have nl : l ≠ D := fun q => nd rfl (by rw [e, q])
    exact ⟨l, vs, e, ⟨w.1, w.2.1, by rw [k l nl]; exact w.2.2⟩, r⟩
  | obj a c ds =>
    obtain ⟨l, dx, vs, e, w, r, ea⟩ := h
    have nl : l ≠ D := fun q => nd rfl (by rw [e, q])
    exact ⟨l, dx, vs, e, ⟨w.1, w.2.1, by rw [k l nl]; exact w.2.2⟩, r, ea⟩
  | bls n ds =>
    obtain ⟨p, vs, e, w, r, en⟩ := h
    have nl : p ≠ D := fun q => nd rfl (by rw [e, q])
    exact ⟨p, vs, e, ⟨w.1, w.2.1, by rw [k p nl]; exact w.2.2⟩, r, en⟩
theorem Stt.aside_ne {K : PySem.W.Frag} {B : Bs} {ρ : Env} {σ : L2.St} {G H : Hp} {D : Addr} {o : HO} (t : Stt K { B with F := upd B.F D o } ρ σ G H) {i : Nat} {c : Ce} {v : V} (e : ρ[i]? = some (some c)) (es : σ[i]? = some (some v)) : isOwn c = true → v ≠ .ref D := fun oc q => by
  subst q
  have q := t.sf i c D e oc es
  have q' : upd B.F D o D = none := q
  rw [upd_same] at q'
  cases q'
/-- what stands aside is changed -/
theorem Stt.reside {K : PySem.W.Frag} {B : Bs} {ρ : Env} {σ : L2.St} {G H : Hp} {D : Addr} {o o' : HO} (t : Stt K { B with F := upd B.F D o } ρ σ G H) (h0 : B.H0 D = none) : Stt K { B with F := upd B.F D o' } ρ σ G (upd H D o') where
  cg := {
    gg := t.cg.gg
    gh := fun b u q => by
      have nb : b ≠ D := fun z => by
        subst z
        rw [t.asideAt.2] at q
        cases q
      rw [upd_ne nb]
      exact t.cg.gh b u q
    hh := fun b u nm q => by
      have nb : b ≠ D := fun z => by
        subst z
        have q' : B.H0 b = some u := q
        rw [h0] at q'
        cases q'
      rw [upd_ne nb]
      exact t.cg.hh b u nm q
    fr := t.cg.fr
    mg := t.cg.mg
    mh := fun b m => by
      rw [upd_ne (t.ne0 h0 b m)]
      exact t.cg.mh b m }
  pf := fun b u q => by
    by_cases nb : b = D
    · subst nb
      have q' : some o' = some u := by rw [← q]; exact upd_same.symm
      cases q'
      exact ⟨upd_same, t.asideAt.2⟩
    · have q' : B.F b = some u := by rw [← q]; exact (upd_ne nb).symm
      rw [upd_ne nb]
      exact t.pf b u (by show upd B.F D o b = _; rw [upd_ne nb]; exact q')
  sf := fun i c l e oc es => by
    have q := t.sf i c l e oc es
    have nl : l ≠ D := fun z => t.aside_ne e es oc (by rw [z])
    have q' : upd B.F D o l = none := q
    rw [upd_ne nl] at q'
    show upd B.F D o' l = none
    rw [upd_ne nl]
    exact q'
  len := t.len
  sl := fun i c e => by
    obtain ⟨v, es, r⟩ := t.sl i c e
    exact ⟨v, es, r.off (t.aside_ne e es) fun b nb => upd_ne nb⟩
  sep := t.sep
def del (H : Hp) (D : Addr) : Hp := fun b => if b = D then none else H b
theorem del_same {H : Hp} {D : Addr} : del H D D = none := if_pos rfl
theorem del_ne {H : Hp} {D b : Addr} (h : b ≠ D) : del H D b = H b := if_neg h
theorem upd_del {H : Hp} {D : Addr} {o : HO} (h : H D = some o) : upd (del H D) D o = H := by
  funext b
  by_cases e : b = D
  · subst e
    rw [upd_same, h]
  · rw [upd_ne e, del_ne e]
/-- what stands aside is taken away -/
theorem Stt.del {K : PySem.W.Frag} {B : Bs} {ρ : Env} {σ : L2.St} {G H : Hp} {D : Addr} {o : HO} (t : Stt K { B with F := upd B.F D o } ρ σ G H) (h0 : B.H0 D = none) (hF : B.F D = none) : Stt K B ρ σ G (del H D) where
  cg := {
    gg := t.cg.gg
    gh := fun b u q => by
      have nb : b ≠ D := fun z => by
        subst z
        rw [t.asideAt.2] at q
        cases q
      rw [del_ne nb]
      exact t.cg.gh b u q
    hh := fun b u nm q => by
      have nb : b ≠ D := fun z => by
        subst z
        rw [h0] at q
        cases q
      rw [del_ne nb]
      exact t.cg.hh b u nm q
    fr := t.cg.fr
    mg := t.cg.mg
    mh := fun b m => by
      rw [del_ne (t.ne0 h0 b m)]
      exact t.cg.mh b m }
  pf := fun b u q => by
    have nb : b ≠ D := fun z => by rw [z, hF] at q; cases q
    rw [del_ne nb]
    exact t.pf b u (by show upd B.F D o b = _; rw [upd_ne nb]; exact q)
  sf := fun i c l e oc es => by
    have q := t.sf i c l e oc es
    have nl : l ≠ D := fun z => t.aside_ne e es oc (by rw [z])
    have q' : upd B.F D o l = none := q
    rw [upd_ne nl] at q'
    exact q'
  len := t.len
  sl := fun i c e => by
    obtain ⟨v, es, r⟩ := t.sl i c e
    exact ⟨v, es, r.off (t.aside_ne e es) fun b nb => del_ne nb⟩
  sep := t.sep
def tVts (K : PySem.W.Frag) (W : WX) (f : EM Bool) : TT := tVt K W f
abbrev VTs (X : Cx) (W : WX) (ifs : List Expr) (f : EM Bool) : Prop := PTs X ifs (tVt X.K W f)
theorem vts_nil : VTs X W [] (mP true) := ⟨fun pins s σ H Q I ⟨B, ρ, G, t, q⟩ => pts_nil.run pins s σ H Q I (q G H (Same.refl _) t)⟩
theorem vts_one {c : Expr} {f : EM Bool} (h : VT X W c f) : VTs X W [c] f := pts_one h
theorem tVn_comp {K : PySem.W.Frag} {vs js : List Nat} {fi : EM (List Da)} {st : Da → Env → Option Env} {ft : EM Bool} {fe : EM Da} (hj : ∀ k ∈ js, k ∈ vs) {σ0 : L2.St} {H0 : Hp} {Q : VK} (h : tVn K W (fComp vs fi st ft fe) σ0 H0 Q) :
    tLc (tVi K W fi) (tVg K js st) (tVt K (fun _ _ _ _ => False) ft) (tV K (fun _ _ _ _ => False) fe) vs σ0 H0 Q := by
  obtain ⟨B, ρ, G, t, s⟩ := h
  refine ⟨B, ρ, G, t, (sat_bind s).imp (fun ds ρ1 s1 J G1 H1 g1 t1 it D hD => ?_) fun e ρ' k => k⟩
  have hF : B.F D = none := by
    cases q : B.F D with
    | none => rfl
    | some u => rw [(t1.pf D u q).1] at hD; cases hD
  have h0 : B.H0 D = none := fresh0 t1 hD
  refine ⟨fun i m H => m = ds.length - i ∧ i ≤ ds.length ∧ ∃ ρ' G' σ' acc avs, Same G1 G' ∧ Stt K { B with F := upd B.F D (.lst avs) } ρ' σ' G' H ∧ σ'.length = σ0.length ∧ (∀ k, k ∉ vs → σ'[k]? = σ0[k]?) ∧ RpA K G' avs acc ∧ avs.length ≤ sizeLine ∧
    Sat (compL vs st ft fe (ds.drop i) acc ρ') (fun es ρ2 => ∀ p us G2 H2, Same G1 G2 → H2 p = none → Stt K B ρ2 σ0 G2 H2 → RpA K G2 us es → us.length ≤ sizeLine → Q (.ref p) (upd H2 p (.lst us))) (exW K W B σ0), ⟨ds.length, by simp, Nat.zero_le _, ρ1, G1, σ0, [], [], Same.refl _, t1.aside hD _, rfl, fun _ _ => rfl, .nil, Nat.zero_le _,
      Sat.imp (o := compL vs st ft fe ds [] ρ1) s1 (fun es ρ2 k p us G2 H2 g2 np t2 r2 hl => k p us G2 H2 (g1.trans g2) np t2 r2 hl) fun _ _ k => k⟩, ?_⟩
  rintro i m H ⟨rfl, hi, ρ2, G2, σ2, acc, avs, g2, t2, l2, f2, ra, hz, s2⟩
  by_cases hlt : i < ds.length
  · refine .inr ⟨it.go G2 H i g2 t2.cg.gh hlt, fun H' => ∃ ρ' G' σ' acc avs, Same G1 G' ∧ Stt K { B with F := upd B.F D (.lst avs) } ρ' σ' G' H' ∧ σ'.length = σ0.length ∧ (∀ k, k ∉ vs → σ'[k]? = σ0[k]?) ∧ RpA K G' avs acc ∧ avs.length ≤ sizeLine ∧
      Sat (compL vs st ft fe (ds.drop (i + 1)) acc ρ') (fun es ρ2 => ∀ p us G2 H2, Same G1 G2 → H2 p = none → Stt K B ρ2 σ0 G2 H2 → RpA K G2 us es → us.length ≤ sizeLine → Q (.ref p) (upd H2 p (.lst us))) (exW K W B σ0), fun H' q => ⟨_, by omega, rfl, hlt, q⟩, fun x H' y => ?_⟩
    obtain ⟨G3, d, c, ed, rx⟩ := it.yld G2 H i x H' hlt g2 t2.cg.gh y
    have e0 : ds.drop i = d :: ds.drop (i + 1) := by
      rw [List.drop_eq_getElem_cons hlt]
      congr 1
      exact Option.some.inj ((List.getElem?_eq_getElem hlt).symm.trans ed)
    rw [e0] at s2
    unfold compL at s2
    have t3 : Stt K { B with F := upd B.F D (.lst avs) } (wipeE ρ2 vs) (L2.wipe σ0 vs) G3 H' := Stt.wipes vs (t2.step c) (by rw [L2.wipe_length, l2]) fun k hk => by rw [wipe_get vs k hk, f2 k hk]
    cases e1 : st d (wipeE ρ2 vs) with
    | none => simp only [e1] at s2; exact s2.elim
    | some ρ3 =>
      simp only [e1] at s2
      refine ⟨_, wipeE ρ2 vs, G3, d, ρ3, t3, rx, e1, fun σ3 t4 l4 f4 => ?_⟩
      rw [L2.wipe_length] at l4
      have f4' : ∀ k, k ∉ vs → σ3[k]? = (L2.wipe σ0 vs)[k]? := fun k hk => f4 k fun z => hk (hj k z)
      refine ⟨wipe_same vs l4 f4', _, ρ3, G3, t4, ?_⟩
      have f5 : ∀ k, k ∉ vs → σ3[k]? = σ0[k]? := fun k hk => by rw [f4' k hk, wipe_get vs k hk]
      have g3 : Same G1 G3 := g2.trans c.gg
      have ra3 := ra.mono c.gg
      cases e2 : ft ρ3 with
      | stuck => simp only [e2] at s2; exact s2.elim
      | exn x ρ4 => simp only [e2] at s2; exact s2.elim
      | ok b ρ4 =>
        cases b with
        | false =>
          simp only [e2] at s2
          exact fun G4 H4 g4 t5 => by
            show ∃ ρ' G' σ' acc avs, _
            exact ⟨ρ4, G4, σ3, acc, avs, g3.trans g4, t5, l4, f5, ra3.mono g4, hz, s2⟩
        | true =>
          simp only [e2] at s2
          exact fun G4 H4 g4 t5 => by
            show tV K (fun _ _ _ _ => False) fe σ3 H4 _
            refine ⟨_, ρ4, G4, t5, ?_⟩
            cases e3 : fe ρ4 with
            | stuck => simp only [e3] at s2; exact s2.elim
            | exn x ρ5 => simp only [e3] at s2; exact s2.elim
            | ok y5 ρ5 =>
              simp only [e3] at s2
              split at s2
              · rename_i hl
                refine fun v G5 H5 g5 t6 r6 => ⟨avs, t6.asideAt.1, ?_, ρ5, G5, σ3, acc ++ [y5], avs ++ [v], (g3.trans g4).trans g5, t6.reside h0, l4, f5, ((ra3.mono g4).mono g5).append (.cons r6 .nil), ?_, s2⟩
                · rw [ra.length, sizeLine_eq]
                  exact hl
                · rw [List.length_append, ra.length, sizeLine_eq]
                  exact hl
              · exact s2.elim
  · have e : i = ds.length := by omega
    subst e
    rw [List.drop_length] at s2
    refine .inl ⟨it.stop G2 H g2 t2.cg.gh, ?_⟩
    have t3 : Stt K { B with F := upd B.F D (.lst avs) } (wipeE ρ2 vs) σ0 G2 H := Stt.wipes vs t2 l2.symm fun k hk => (f2 k hk).symm
    have q := s2 D avs G2 (Vl.del H D) g2 del_same (t3.del h0 hF) ra hz
    rw [upd_del t2.asideAt.1] at q
    exact q
abbrev Wn : WX := fun _ _ _ _ => False
theorem vn_comp (own : List (Str × Nat)) {elt tg iter : Expr} {ifs : List Expr} {scope : Scope} {pos : Pos} {fi : EM (List Da)} {js : List Nat} {st : Da → Env → Option Env} {ft : EM Bool} {fe : EM Da} (hc : X.calm = true) (hN : X.N.Nodup) (hj : ∀ k ∈ js, k ∈ own.map (·.2)) (hi : VI X W tg iter fi)
    (hg : ∀ (s : Shared) (H : Hp) (C : Addr) (cl : List (Str × Addr)) (fp : List Addr), VG (X.blk s H scope (compEnvC scope cl C X.env) fp) tg js st) (ht : ∀ (s : Shared) (H : Hp) (C : Addr) (cl : List (Str × Addr)) (fp : List Addr), VTs (X.blk s H scope (compEnvC scope cl C X.env) fp) Wn ifs ft)
    (he : ∀ (s : Shared) (H : Hp) (C : Addr) (cl : List (Str × Addr)) (fp : List Addr), VE (X.blk s H scope (compEnvC scope cl C X.env) fp) Wn elt fe) (ok : BlkOk X.N X.env.scope scope own) (hs : ∀ x, foldedSetIterable iter X.env x = pure x := by intro _; rfl) :
    VN X W (.ListComp elt [⟨tg, iter, ifs, 0⟩] scope pos) (fComp (own.map (·.2)) fi st ft fe) := pe_mono (pe_lc hc hN hi ok hg ht he hs) fun σ H Q h => tVn_comp hj h
theorem vs_setC (i : Nat) (own : List (Str × Nat)) {y : Str} {py : Pos} {elt tg iter : Expr} {ifs : List Expr} {scope : Scope} {pos spos : Pos} {fi : EM (List Da)} {js : List Nat} {st : Da → Env → Option Env} {ft : EM Bool} {fe : EM Da} (hc : X.calm = true) (hN : X.N.Nodup) (hj : ∀ k ∈ js, k ∈ own.map (·.2)) (hi : VI X W tg iter fi)
    (hg : ∀ (s : Shared) (H : Hp) (C : Addr) (cl : List (Str × Addr)) (fp : List Addr), VG (X.blk s H scope (compEnvC scope cl C X.env) fp) tg js st) (ht : ∀ (s : Shared) (H : Hp) (C : Addr) (cl : List (Str × Addr)) (fp : List Addr), VTs (X.blk s H scope (compEnvC scope cl C X.env) fp) Wn ifs ft)
    (he : ∀ (s : Shared) (H : Hp) (C : Addr) (cl : List (Str × Addr)) (fp : List Addr), VE (X.blk s H scope (compEnvC scope cl C X.env) fp) Wn elt fe) (ok : BlkOk X.N X.env.scope scope own)
    (hsw : swapsWith (.ListComp elt [⟨tg, iter, ifs, 0⟩] scope pos) (some (.Name y py)) spos.line X.env = pure true) (hy : X.N[i]? = some y := by rfl) (hyl : X.env.scope.names.lookup y = some .local := by rfl) (hs : ∀ x, foldedSetIterable iter X.env x = pure x := by intro _; rfl) :
    VS X W (.Assign [.Name y py] (.ListComp elt [⟨tg, iter, ifs, 0⟩] scope pos) spos) (fAsgN i (fComp (own.map (·.2)) fi st ft fe)) :=
  ps_mono (ps_setLc hc hN hy hyl hsw hi ok hg ht he hs) fun D σ H ⟨B, ρ, G, t, s⟩ => tVn_comp (W := W) hj ⟨B, ρ, G, t, (sat_bind s).imp (fun ds ρ1 s1 p vs G1 H1 g1 np t1 r1 hl => s1 _ G1 _ g1 (t1.setNew np ⟨p, vs, rfl, ⟨gnone t1.cg.gh np, .inl (fresh0 t1 np), upd_same⟩, r1⟩)) fun e ρ' k => exW_of k⟩

/-! ### xs.append(e), xs.extend(e) of an own list -/
def fApp (i : Nat) (fe : EM Da) : EM Da := fun ρ => match ρ[i]? with
  | some (some (.lst _)) => mB fe (fun d => fun ρ1 => match ρ1[i]? with
    | some (some (.lst ds)) => if ds.length < 16777216 then .ok .non (ρ1.set i (some (.lst (ds ++ [d])))) else .stuck
    | _ => .stuck) ρ
  | _ => .stuck
theorem ve_app (i : Nat) {x : Str} {p apos pos : Pos} {e : Expr} {fe : EM Da} (h : VE X W e fe) (hN : X.N[i]? = some x := by rfl) (hv : Vis X.env.scope x := by first | exact Or.inl rfl | exact Or.inr (Or.inl rfl) | exact Or.inr (Or.inr rfl))
    (hbase : attributeBase (.Name x p) "append" X.env (eval (.Name x p) X.env) = eval (.Name x p) X.env := by rfl)
    (hfew : ((backTo pos (starEach [e] X.env)).all (fun x => !x.1) && (backToKw pos (keywordEach [] X.env)).all (fun x => x.1.isSome)
      && decide ([e].length + ([] : List Keyword).length + (if ([] : List Keyword).isEmpty then 0 else 1) < 30)) = true := by rfl)
    (hline : (apos.endLine == pos.line) = true := by rfl) (hs : starEach [e] X.env = (false, eval e X.env) :: starEach [] X.env := by rfl) (hplain : (backTo pos (starEach [] X.env)).any (·.1) = false := by rfl)
    (hd : (x == ("__debug__" : Str)) = false := by decide) (hcd : (x == ("__classdict__" : Str)) = false := by decide) : VE X W (.Call (.Attribute (.Name x p) "append" apos) [e] [] pos) (fApp i fe) :=
  pe_mono (pe_bm PySem.F.plainAttrs_list PySem.F.slot_list_append PySem.F.type_list_append mt_append (pe_var hN hv hd hcd) (pa_cons h pa_nil hs) hbase hfew hline hs hplain) fun σ H Q ⟨B, ρ, G, t, s⟩ => by
    unfold fApp at s
    cases e1 : ρ[i]? with
    | none => simp only [e1] at s; exact s.elim
    | some o =>
      match o, e1 with
      | none, e1 => simp only [e1] at s; exact s.elim
      | some (.imm d), e1 => simp only [e1] at s; exact s.elim
      | some (.dic d), e1 => simp only [e1] at s; exact s.elim
      | some (.obj a c d), e1 => simp only [e1] at s; exact s.elim
      | some (.bls p d), e1 => simp only [e1] at s; exact s.elim
      | some (.lst ds0), e1 =>
        simp only [e1] at s
        obtain ⟨v, es, l, vs, rfl, w, r⟩ := t.sl i _ e1
        refine ⟨_, es, .inl ⟨rfl, vs, SqL.of w.2.2⟩, B, ρ, G, t, (sat_bind s).imp (fun d ρ1 s1 y G1 H1 g1 t1 r1 => ?_) fun e ρ' k => k⟩
        cases e2 : ρ1[i]? with
        | none => simp only [e2] at s1; exact s1.elim
        | some o =>
          match o, e2 with
          | none, e2 => simp only [e2] at s1; exact s1.elim
          | some (.imm d), e2 => simp only [e2] at s1; exact s1.elim
          | some (.dic d), e2 => simp only [e2] at s1; exact s1.elim
          | some (.obj a c d), e2 => simp only [e2] at s1; exact s1.elim
          | some (.bls p d), e2 => simp only [e2] at s1; exact s1.elim
          | some (.lst ds), e2 =>
            simp only [e2] at s1
            split at s1
            · rename_i hl
              obtain ⟨v, es2, l2, us, rfl, w2, r2⟩ := t1.sl i _ e2
              rw [es] at es2
              cases es2
              have t2 := t1.write (o' := .lst (us ++ [y])) (c' := .lst (ds ++ [d])) e2 rfl es w2.any ⟨_, _, rfl, ⟨w2.1, w2.2.1, upd_same⟩, r2.append (.cons r1 .nil)⟩
              exact ⟨l, us, y, rfl, rfl, w2.2.2, by rw [r2.length, sizeLine_eq]; exact hl, s1 .non G1 _ g1 t2 .non⟩
            · exact s1.elim
def fExt (i : Nat) (fe : EM Da) : EM Da := fun ρ => match ρ[i]? with
  | some (some (.lst _)) => mB fe (fun d => fun ρ1 => match ρ1[i]?, d with
    | some (some (.lst ds)), .lst es => if ds.length + es.length ≤ 16777216 then .ok .non (ρ1.set i (some (.lst (ds ++ es)))) else .stuck
    | _, _ => .stuck) ρ
  | _ => .stuck
theorem ve_ext (i : Nat) {x : Str} {p apos pos : Pos} {e : Expr} {fe : EM Da} (h : VE X W e fe) (hN : X.N[i]? = some x := by rfl) (hv : Vis X.env.scope x := by first | exact Or.inl rfl | exact Or.inr (Or.inl rfl) | exact Or.inr (Or.inr rfl))
    (hbase : attributeBase (.Name x p) "extend" X.env (eval (.Name x p) X.env) = eval (.Name x p) X.env := by rfl)
    (hfew : ((backTo pos (starEach [e] X.env)).all (fun x => !x.1) && (backToKw pos (keywordEach [] X.env)).all (fun x => x.1.isSome)
      && decide ([e].length + ([] : List Keyword).length + (if ([] : List Keyword).isEmpty then 0 else 1) < 30)) = true := by rfl)
    (hline : (apos.endLine == pos.line) = true := by rfl) (hs : starEach [e] X.env = (false, eval e X.env) :: starEach [] X.env := by rfl) (hplain : (backTo pos (starEach [] X.env)).any (·.1) = false := by rfl)
    (hd : (x == ("__debug__" : Str)) = false := by decide) (hcd : (x == ("__classdict__" : Str)) = false := by decide) : VE X W (.Call (.Attribute (.Name x p) "extend" apos) [e] [] pos) (fExt i fe) :=
  pe_mono (pe_bm PySem.F.plainAttrs_list PySem.F.slot_list_extend PySem.F.type_list_extend mt_extend (pe_var hN hv hd hcd) (pa_cons h pa_nil hs) hbase hfew hline hs hplain) fun σ H Q ⟨B, ρ, G, t, s⟩ => by
    unfold fExt at s
    cases e1 : ρ[i]? with
    | none => simp only [e1] at s; exact s.elim
    | some o =>
      match o, e1 with
      | none, e1 => simp only [e1] at s; exact s.elim
      | some (.imm d), e1 => simp only [e1] at s; exact s.elim
      | some (.dic d), e1 => simp only [e1] at s; exact s.elim
      | some (.obj a c d), e1 => simp only [e1] at s; exact s.elim
      | some (.bls p d), e1 => simp only [e1] at s; exact s.elim
      | some (.lst ds0), e1 =>
        simp only [e1] at s
        obtain ⟨v, es, l, vs, rfl, w, r⟩ := t.sl i _ e1
        refine ⟨_, es, .inl ⟨rfl, vs, SqL.of w.2.2⟩, B, ρ, G, t, (sat_bind s).imp (fun d ρ1 s1 y G1 H1 g1 t1 r1 => ?_) fun e ρ' k => k⟩
        cases e2 : ρ1[i]? with
        | none => simp only [e2] at s1; exact s1.elim
        | some o =>
          match o, e2 with
          | none, e2 => simp only [e2] at s1; exact s1.elim
          | some (.imm d), e2 => simp only [e2] at s1; exact s1.elim
          | some (.dic d), e2 => simp only [e2] at s1; exact s1.elim
          | some (.obj a c d), e2 => simp only [e2] at s1; exact s1.elim
          | some (.bls p d), e2 => simp only [e2] at s1; exact s1.elim
          | some (.lst ds), e2 =>
            cases r1 with
            | @lst b zs es' h1 r3 =>
              simp only [e2] at s1
              split at s1
              · rename_i hl
                obtain ⟨v, es2, l2, us, rfl, w2, r2⟩ := t1.sl i _ e2
                rw [es] at es2
                cases es2
                have t2 := t1.write (o' := .lst (us ++ zs)) (c' := .lst (ds ++ es')) e2 rfl es w2.any ⟨_, _, rfl, ⟨w2.1, w2.2.1, upd_same⟩, r2.append r3⟩
                exact ⟨l, b, us, zs, rfl, rfl, w2.2.2, t1.cg.gh _ _ h1, by rw [r2.length, r3.length, sizeLine_eq]; exact hl, s1 .non G1 _ g1 t2 .non⟩
              · exact s1.elim
            | _ => simp only [e2] at s1; exact s1.elim
/-- xs[i] = e of an own list -/
def fSetIx (i : Nat) (fi fe : EM Da) : EM Fl := mB fe fun d => mB fi fun k => fun ρ => match ρ[i]?, k with
  | some (some (.lst ds)), .int j => (match ixN ds.length j with
    | some j => .ok .nx (ρ.set i (some (.lst (ds.set j d))))
    | none => .stuck)
  | _, _ => .stuck

/-! ### methods of texts -/
def rMs (K : PySem.W.Frag) (r : List Nat → List Da → Option Da) : V → List V → Hp → VK → Prop := fun x vs H Q => ∃ G l ds d, Same G H ∧ x = .str ⟨l.toArray⟩ ∧ Chs l ∧ SeeA K G H vs ds ∧ r l ds = some d ∧ ∀ G' H' z, Cn G H G' H' → Rp K G' z d → Q z H'
def rMn (K : PySem.W.Frag) (r : List Nat → List Da → Option (List Da)) : V → List V → Hp → VK → Prop := fun x vs H Q => ∃ G l ds es, Same G H ∧ x = .str ⟨l.toArray⟩ ∧ Chs l ∧ SeeA K G H vs ds ∧ r l ds = some es ∧ ∀ p us, H p = none → RpA K G us es → us.length ≤ sizeLine → Q (.ref p) (upd H p (.lst us))
def fMs (r : List Nat → List Da → Option Da) (fo : EM Da) (fa : EM (List Pk)) : EM Da := mB fo fun d => match d with
  | .str l => mB fa fun ps => fun ρ => mO (match lookA ρ ps with
    | some ds => r l ds
    | none => none) ρ
  | _ => fStuck
def fMn (r : List Nat → List Da → Option (List Da)) (fo : EM Da) (fa : EM (List Pk)) : EM (List Da) := mB fo fun d => match d with
  | .str l => mB fa fun ps => fun ρ => mO (match lookA ρ ps with
    | some ds => r l ds
    | none => none) ρ
  | _ => fStuck
theorem ve_ms {id : String} {name : Str} {apos pos : Pos} {o e : Expr} {es : List Expr} {r : List Nat → List Da → Option Da} {fo : EM Da} {fa : EM (List Pk)} (slot : Slot "str" name id) (hty : typeOf (.builtin id) = pure (.type "method_descriptor")) (hm : MtR X id (rMs X.K r)) (ho : VE X W o fo) (ha : VPA X W (e :: es) fa)
    (hbase : attributeBase o name X.env (eval o X.env) = eval o X.env := by rfl)
    (hfew : ((backTo pos (starEach (e :: es) X.env)).all (fun x => !x.1) && (backToKw pos (keywordEach [] X.env)).all (fun x => x.1.isSome)
      && decide ((e :: es).length + ([] : List Keyword).length + (if ([] : List Keyword).isEmpty then 0 else 1) < 30)) = true := by rfl)
    (hline : (apos.endLine == pos.line) = true := by rfl) (hs : starEach (e :: es) X.env = (false, eval e X.env) :: starEach es X.env := by rfl) (hplain : (backTo pos (starEach es X.env)).any (·.1) = false := by rfl) :
    VE X W (.Call (.Attribute o name apos) (e :: es) [] pos) (fMs r fo fa) :=
  pe_mono (pe_bm PySem.F.plainAttrs_str slot hty hm ho ha hbase hfew hline hs hplain) fun σ H Q ⟨B, ρ, G, t, s⟩ => ⟨B, ρ, G, t, (sat_bind s).imp (fun d ρ1 s1 v G1 H1 g1 t1 r1 => by
    cases d with
    | str l =>
      cases r1 with
      | str hc =>
      refine ⟨rfl, B, ρ1, G1, t1, (sat_bind s1).imp (fun ps ρ2 s2 vs G2 H2 g2 t2 p2 => ?_) fun e ρ' k => k⟩
      obtain ⟨d, e, k⟩ := sat_o s2
      cases l1 : lookA ρ2 ps with
      | none => rw [l1] at e; cases e
      | some ds =>
        rw [l1] at e
        exact ⟨G2, l, ds, d, t2.cg.gh, rfl, hc, seeA_of t2 p2 l1, e, fun G' H' z c rz => k z G' H' ((g1.trans g2).trans c.gg) (t2.step c) rz⟩
    | _ => exact False.elim s1) fun e ρ' k => k⟩
theorem vn_ms {id : String} {name : Str} {apos pos : Pos} {o e : Expr} {es : List Expr} {r : List Nat → List Da → Option (List Da)} {fo : EM Da} {fa : EM (List Pk)} (slot : Slot "str" name id) (hty : typeOf (.builtin id) = pure (.type "method_descriptor")) (hm : MtR X id (rMn X.K r)) (ho : VE X W o fo) (ha : VPA X W (e :: es) fa)
    (hbase : attributeBase o name X.env (eval o X.env) = eval o X.env := by rfl)
    (hfew : ((backTo pos (starEach (e :: es) X.env)).all (fun x => !x.1) && (backToKw pos (keywordEach [] X.env)).all (fun x => x.1.isSome)
      && decide ((e :: es).length + ([] : List Keyword).length + (if ([] : List Keyword).isEmpty then 0 else 1) < 30)) = true := by rfl)
    (hline : (apos.endLine == pos.line) = true := by rfl) (hs : starEach (e :: es) X.env = (false, eval e X.env) :: starEach es X.env := by rfl) (hplain : (backTo pos (starEach es X.env)).any (·.1) = false := by rfl) :
    VN X W (.Call (.Attribute o name apos) (e :: es) [] pos) (fMn r fo fa) :=
  pe_mono (pe_bm PySem.F.plainAttrs_str slot hty hm ho ha hbase hfew hline hs hplain) fun σ H Q ⟨B, ρ, G, t, s⟩ => ⟨B, ρ, G, t, (sat_bind s).imp (fun d ρ1 s1 v G1 H1 g1 t1 r1 => by
    cases d with
    | str l =>
      cases r1 with
      | str hc =>
      refine ⟨rfl, B, ρ1, G1, t1, (sat_bind s1).imp (fun ps ρ2 s2 vs G2 H2 g2 t2 p2 => ?_) fun e ρ' k => k⟩
      obtain ⟨d, e, k⟩ := sat_o s2
      cases l1 : lookA ρ2 ps with
      | none => rw [l1] at e; cases e
      | some ds =>
        rw [l1] at e
        exact ⟨G2, l, ds, d, t2.cg.gh, rfl, hc, seeA_of t2 p2 l1, e, fun p us hp ra hl => k p us G2 H2 (g1.trans g2) hp t2 ra hl⟩
    | _ => exact False.elim s1) fun e ρ' k => k⟩
theorem mtR_of {id : String} {r r0 : V → List V → Hp → VK → Prop} (h0 : MtR X id r0) (h : ∀ x vs H Q, r x vs H Q → r0 x vs H Q) : MtR X id r := fun pins s σ H x xs v us Q I rx rs q => h0 pins s σ H x xs v us Q I rx rs (h _ _ _ _ q)
def strsD : List Da → Option (List (List Nat))
  | [] => some []
  | .str l :: r => match strsD r with
    | some ls => some (l :: ls)
    | none => none
  | _ => none
theorem strsD_map : ∀ ls : List (List Nat), strsD (ls.map .str) = some ls
  | [] => rfl
  | l :: ls => by rw [List.map_cons]; unfold strsD; rw [strsD_map ls]
abbrev S (l : List Nat) : Str := ⟨l.toArray⟩
theorem strsD_rp {K : PySem.W.Frag} {G : Hp} : ∀ {vs : List V} {ds : List Da} {ls : List (List Nat)}, RpA K G vs ds → strsD ds = some ls → vs = (ls.map S).map V.str ∧ ∀ l ∈ ls, Chs l
  | _, _, _, .nil, e => by cases e; exact ⟨rfl, fun _ h => by cases h⟩
  | _, _, ls, .cons (d := d) (ds := ds) h r, e => by
    cases d with
    | str l =>
      unfold strsD at e
      cases q : strsD ds with
      | none => simp [q] at e
      | some ls' =>
        simp only [q, Option.some.injEq] at e
        subst e
        obtain ⟨e1, e2⟩ := strsD_rp r q
        cases h with
        | str hc =>
          rw [e1]
          refine ⟨rfl, fun l' hl' => ?_⟩
          rcases List.mem_cons.mp hl' with z | z
          · rw [z]; exact hc
          · exact e2 l' z
    | _ => cases e
/-- texts joined -/
def joinN (a : List Nat) : List (List Nat) → List Nat
  | [] => []
  | [p] => p
  | p :: q :: r => p ++ (a ++ joinN a (q :: r))
theorem joinN_eq (a : List Nat) : ∀ ls : List (List Nat), Txt.join (S a) (ls.map S) = S (joinN a ls) := fun ls => by
  have h := TL.tl_join (S a) (ls.map S)
  have e : ∀ (z : Str), TL.tl z = z.cps.toList := fun z => rfl
  rw [TL.join_eq]
  have h2 : ∀ ls : List (List Nat), TL.joinL (TL.tl (S a)) ((ls.map S).map TL.tl) = joinN a ls := by
    intro ls
    induction ls with
    | nil => rfl
    | cons p r ih =>
      cases r with
      | nil => simp [TL.joinL, joinN, e]
      | cons q r =>
        simp only [List.map_cons, TL.joinL, joinN] at ih ⊢
        rw [ih]
  rw [h2] at h
  have h3 : (Str.join (S a) (ls.map S)).cps.toList = joinN a ls := h
  show _ = (⟨(joinN a ls).toArray⟩ : Str)
  rw [← h3]
theorem chs_join {a : List Nat} (ha : Chs a) : ∀ {ls : List (List Nat)}, (∀ l ∈ ls, Chs l) → Chs (joinN a ls)
  | [], _ => fun _ h => by cases h
  | [p], h => h p (by simp)
  | p :: q :: r, h => (h p (by simp)).append (ha.append (chs_join ha fun l hl => h l (List.mem_cons_of_mem _ hl)))
def sJoin (a : List Nat) : List Da → Option Da
  | [.lst xs] => match strsD xs with
    | some ls => if (ls.map (·.length)).sum + ls.length * a.length ≤ 16777216 then some (.str (joinN a ls)) else none
    | none => none
  | _ => none
theorem ms_join : MtR X "str.join" (rMs X.K sJoin) := mtR_of mt_join fun x vs H Q ⟨G, l, ds, d, g, ex, hc, sa, e, k⟩ => by
  unfold sJoin at e
  split at e
  · rename_i xs
    cases sa with
    | cons s1 sr =>
      cases sr
      obtain ⟨p, us, rfl, h1, r⟩ := s1
      cases q : strsD xs with
      | none => simp [q] at e
      | some ls =>
        simp only [q] at e
        split at e
        · rename_i hl
          cases e
          obtain ⟨e1, e2⟩ := strsD_rp r q
          subst ex
          refine ⟨_, p, ls.map S, rfl, rfl, .inl (SqL.of (by rw [← e1]; exact h1)), ?_, ?_⟩
          · have e3 : (ls.map S).map (·.length) = ls.map (·.length) := by
              rw [List.map_map]
              exact List.map_congr_left fun l _ => S_length l
            rw [e3, List.length_map, S_length]
            exact hl
          · rw [show (⟨l.toArray⟩ : Str) = S l from rfl, joinN_eq]
            exact k G H _ (cn_refl g) (.str (chs_join hc e2))
        · cases e
  · cases e
def sStarts (a : List Nat) : List Da → Option Da
  | [.str b] => some (.bl (Txt.startswith (S a) (S b)))
  | _ => none
theorem ms_starts : MtR X "str.startswith" (rMs X.K sStarts) := mtR_of mt_startswith fun x vs H Q ⟨G, l, ds, d, g, ex, hc, sa, e, k⟩ => by
  unfold sStarts at e
  split at e
  · cases sa with
    | cons s1 sr =>
      cases sr
      obtain ⟨rfl, _⟩ := see_str s1
      cases e
      exact ⟨_, _, ex, rfl, k G H _ (cn_refl g) (.bl _)⟩
  · cases e
def sFind (a : List Nat) : List Da → Option Da
  | [.str b] => some (.int (Txt.find (S a) (S b)))
  | _ => none
theorem ms_find : MtR X "str.find" (rMs X.K sFind) := mtR_of mt_find fun x vs H Q ⟨G, l, ds, d, g, ex, hc, sa, e, k⟩ => by
  unfold sFind at e
  split at e
  · cases sa with
    | cons s1 sr =>
      cases sr
      obtain ⟨rfl, _⟩ := see_str s1
      cases e
      exact ⟨_, _, ex, rfl, k G H _ (cn_refl g) (.int _)⟩
  · cases e
def sIndex (a : List Nat) : List Da → Option Da
  | [.str b] => match Builtin.Str.occurrences (S a) (S b) 0 (S a).length 1 with
    | k :: _ => some (.int (k : Nat))
    | [] => none
  | _ => none
theorem mt_index_hit : MtR X "str.index" (fun x xs H Q => ∃ a b k rest, x = .str a ∧ xs = [.str b] ∧ Builtin.Str.occurrences a b 0 a.length 1 = k :: rest ∧ Q (.int (k : Nat)) H) := fun pins s σ H x xs v us Q I rx rs h => by
  obtain ⟨a, b, k, rest, rfl, rfl, q, w⟩ := h
  obtain ⟨t, rfl⟩ := rx
  cases rs with
  | cons r1 rs =>
    cases rs
    obtain ⟨u, rfl⟩ := r1
    exact PySem.SC.index q ⟨.int (k : Nat), H, I.tok _, ⟨_, rfl⟩, w⟩
theorem ms_index : MtR X "str.index" (rMs X.K sIndex) := mtR_of mt_index_hit fun x vs H Q ⟨G, l, ds, d, g, ex, hc, sa, e, k⟩ => by
  unfold sIndex at e
  split at e
  · rename_i b
    cases sa with
    | cons s1 sr =>
      cases sr
      obtain ⟨rfl, _⟩ := see_str s1
      split at e
      · rename_i i r q
        cases e
        exact ⟨_, _, i, r, ex, rfl, q, k G H _ (cn_refl g) (.int _)⟩
      · cases e
  · cases e
end
end Vl
/-! the value layer: bodies of defs -/
namespace Vl
open PySem PySem.Spec PyProof.Rows L2

def envOf (m : Nat) (ds : List Da) : Env := ds.map (fun d => some (Ce.imm d)) ++ List.replicate (m - ds.length) none
def resOf : Out Fl → Res
  | .ok (.rt d) _ => .ok d
  | .ok (.rn ds) _ => .ok (.lst ds)
  | .ok .nx _ => .ok .non
  | _ => .stuck
/-- n parameters, m slots -/
def fnRun (n m : Nat) (b : EM Fl) (ds : List Da) : Res := if ds.length = n then resOf (b (envOf m ds)) else .stuck
theorem no_cg {G H G' H' : Hp} (c : Cn G H G' H') : Cg (fun a => NoM a ≠ none) G H G' H' := ⟨c.gg, c.gh, fun b o _ h => c.same b o h, c.fr, fun _ m => absurd rfl m, fun _ m => absurd rfl m⟩
theorem cn_of {G H G' H' : Hp} (c : Cg (fun a => NoM a ≠ none) G H G' H') : Cn G H G' H' := ⟨c.gg, c.gh, fun b o _ h => c.hh b o (fun m => m rfl) h, c.fr, fun _ m => m.elim, fun _ m => m.elim⟩
section
variable {P : Program} {w : World} {K : PySem.W.Frag} {mg : Str → Option Value} {base : Heap}
theorem stt_start {N : List Str} {vs : List V} {ds : List Da} {G H : Hp} (g : Same G H) (r : RpA K G vs ds) : Stt K ⟨NoM, G, H, fun _ => none⟩ (envOf N.length ds) (L2.start N vs) G H where
  cg := no_cg (Cn.refl g)
  pf := fun b o h => by cases h
  sf := fun i c l e oc es => rfl
  len := by
    unfold envOf L2.start
    simp only [List.length_append, List.length_map, List.length_replicate, r.length]
  sl := fun i c e => by
    unfold envOf at e
    unfold L2.start
    by_cases hi : i < ds.length
    · rw [List.getElem?_append_left (by rw [List.length_map]; exact hi), List.getElem?_map] at e
      cases q : ds[i]? with
      | none => rw [q] at e; cases e
      | some d =>
        rw [q] at e
        have e' : Ce.imm d = c := by simpa using e
        subst e'
        obtain ⟨v, h1, h2⟩ := r.get' q
        refine ⟨v, ?_, h2⟩
        rw [List.getElem?_append_left (by rw [List.length_map, r.length]; exact hi), List.getElem?_map, h1] <;> rfl
    · rw [List.getElem?_append_right (by rw [List.length_map]; omega), List.getElem?_replicate] at e
      split at e <;> cases e
  sep := fun i j c d v hij ei ej oc od si sj => by
    have key : ∀ {k : Nat} {z : Ce}, (envOf N.length ds)[k]? = some (some z) → isOwn z = false := fun {k z} e => by
      unfold envOf at e
      by_cases hi : k < ds.length
      · rw [List.getElem?_append_left (by rw [List.length_map]; exact hi), List.getElem?_map] at e
        cases q : ds[k]? with
        | none => rw [q] at e; cases e
        | some d =>
          rw [q] at e
          have e' : Ce.imm d = z := by simpa using e
          subst e'
          rfl
      · rw [List.getElem?_append_right (by rw [List.length_map]; omega), List.getElem?_replicate] at e
        split at e <;> cases e
    rw [key ei] at oc
    cases oc
abbrev Cxd (P : Program) (w : World) (K : PySem.W.Frag) (mg : Str → Option Value) (base : Heap) (N : List Str) (qual : Str) (st : Stmt) (f : Addr) (cdv : Value) (A : Around) (outer : List PySem.Env) (s : Shared) (H : Hp) (E : XK) : Cx := (cxOf CX0 P w K mg base N qual (defScope st) f cdv A outer s H E).nox
/-- a def's body has its function -/
def Dv (P : Program) (w : World) (K : PySem.W.Frag) (mg : Str → Option Value) (base : Heap) (N : List Str) (qual : Str) (st : Stmt) (f : Addr) (k : Nat) (fb : EM Fl) : Prop :=
  ∀ (cdv : Value) (A : Around) (outer : List PySem.Env) (s : Shared) (H : Hp) (E : XK), Room k (A.deeper (envOfC qual (defScope st) s.heap.objs.size f cdv)) → VSs (Cxd P w K mg base N qual st f cdv A outer s H E) Wn (defBody st) fb
theorem fn_of {x qual : Str} {st : Stmt} {f : Addr} {fd : FuncData} {dvs : List V} {kws : List (Str × V)} {N ps : List Str} {k : Nat} {fb : EM Fl} (F : FunD K x qual (defArgs st) (defBody st) (defScope st) dvs kws f fd) (Sc : FnScope N ps (defScope st))
    (D : Dv P w K mg base N qual st f k fb) : FnOk P w K mg base CX0 (k + 1) f fd ps (spV K (fnRun ps.length N.length fb)) := by
  refine F.ok Sc (fun vs H Q E h => ?_) (fun cdv A outer s H vs Q E hr h => ?_)
  · obtain ⟨G, ds, g, r, h⟩ := h
    unfold fnRun at h
    split at h
    · rename_i e
      rw [r.length]
      split at e
      · assumption
      · cases e
    · rename_i e
      split at e <;> first | (rw [r.length]; assumption) | cases e
    · exact h.elim
  · obtain ⟨G, ds, g, r, h⟩ := h
    refine ⟨_, PSs.nox (D cdv A outer s H E hr), ⟨NoM, G, H, fun _ => none⟩, envOf N.length ds, G, stt_start g r, ?_⟩
    unfold fnRun at h
    by_cases hl : ds.length = ps.length
    · rw [if_pos hl] at h
      cases e : fb (envOf N.length ds) with
      | stuck => rw [e] at h; exact h
      | exn x ρ => rw [e] at h; exact h.elim
      | ok fl ρ =>
        rw [e] at h
        cases fl with
        | nx => exact fun σ G' H' g' t => h G' H' .non (cn_of t.cg) .non
        | rt d => exact fun v σ G' H' g' t rv => h G' H' v (cn_of t.cg) rv
        | bk => exact h.elim
        | ct => exact h.elim
        | rn ds' =>
          exact fun p vs σ G' H' g' t w r' => by
            obtain ⟨s1, s2⟩ := Cn.freeze t.cg.gh w.1 w.2.2
            have hp0 : H p = none := w.2.1.elim id fun z => absurd rfl z
            have c := cn_of t.cg
            exact h _ H' (.ref p) ⟨c.gg.trans s1, s2, c.hh, fun b u q => by
              by_cases hb : b = p
              · subst hb
                exact .inr hp0
              · rw [upd_ne hb] at q
                exact c.fr b u q, fun _ m => m.elim, fun _ m => m.elim⟩ (.lst upd_same (r'.mono s1))
    · rw [if_neg hl] at h
      exact h.elim
theorem fo_of {x qual : Str} {st : Stmt} {f : Addr} {fd : FuncData} {dvs : List V} {kws : List (Str × V)} {N ps : List Str} {k : Nat} {fb : EM Fl} (F : FunD K x qual (defArgs st) (defBody st) (defScope st) dvs kws f fd) (Sc : FnScope N ps (defScope st)) (hb : L2.Binds K fd ps [])
    (D : Dv P w K mg base N qual st f k fb) : FoA P w K mg base (k + 1) f ps [] (fnRun ps.length N.length fb) :=
  ⟨⟨fd, [], [], fn_of F Sc D, hb, .nil, fun _ => .nil⟩, F.kp⟩
/-- a def that hands back a new list of its own -/
def spN (K : PySem.W.Frag) (F : List Da → Option (List Da)) : Sp := fun vs H Q _ => ∃ G ds es, Same G H ∧ RpA K G vs ds ∧ F ds = some es ∧ ∀ G' H' p us, Cn G H G' H' → G' p = none → H p = none → H' p = some (.lst us) → RpA K G' us es → Q (.ref p) H'
structure FoL (P : Program) (w : World) (K : PySem.W.Frag) (mg : Str → Option Value) (base : Heap) (k : Nat) (f : Addr) (ps : List Str) (F : List Da → Option (List Da)) : Prop where
  ok : ∃ fd : FuncData, FnOk P w K mg base CX0 k f fd ps (spN K F) ∧ L2.Binds K fd ps []
  kp : PySem.W.keepIn K (.ref f) = true
def resL : Out Fl → Option (List Da)
  | .ok (.rn ds) _ => some ds
  | _ => none
def lsRun (n m : Nat) (b : EM Fl) (ds : List Da) : Option (List Da) := if ds.length = n then resL (b (envOf m ds)) else none
theorem fl_of {x qual : Str} {st : Stmt} {f : Addr} {fd : FuncData} {dvs : List V} {kws : List (Str × V)} {N ps : List Str} {k : Nat} {fb : EM Fl} (F : FunD K x qual (defArgs st) (defBody st) (defScope st) dvs kws f fd) (Sc : FnScope N ps (defScope st)) (hb : L2.Binds K fd ps [])
    (D : Dv P w K mg base N qual st f k fb) : FoL P w K mg base (k + 1) f ps (lsRun ps.length N.length fb) := by
  refine ⟨⟨fd, F.ok Sc (fun vs H Q E h => ?_) (fun cdv A outer s H vs Q E hr h => ?_), hb⟩, F.kp⟩
  · obtain ⟨G, ds, es, g, r, e, _⟩ := h
    unfold lsRun at e
    split at e
    · rw [r.length]
      assumption
    · cases e
  · obtain ⟨G, ds, es, g, r, e, h⟩ := h
    refine ⟨_, PSs.nox (D cdv A outer s H E hr), ⟨NoM, G, H, fun _ => none⟩, envOf N.length ds, G, stt_start g r, ?_⟩
    unfold lsRun at e
    split at e
    · cases e2 : fb (envOf N.length ds) with
      | stuck => rw [e2] at e; cases e
      | exn x ρ => rw [e2] at e; cases e
      | ok fl ρ =>
        rw [e2] at e
        cases fl with
        | rn ds' =>
          cases e
          exact fun p vs σ G' H' g' t w r' => h G' H' p vs (cn_of t.cg) w.1 (w.2.1.elim id fun z => absurd rfl z) w.2.2 r'
        | nx => cases e
        | rt d => cases e
        | bk => cases e
        | ct => cases e
    · cases e
end
end Vl
/-! the value layer: further rules -/
namespace Vl
open PySem PySem.Spec PyProof.Rows L2

section
variable {X : Cx} {W : WX}
/-! ### s[::-1] -/
theorem rev_places (n : Nat) : Builtin.Str.strSliceIndices none none (-1) n = (List.range n).map fun k => n - 1 - k := by
  unfold Builtin.Str.strSliceIndices
  simp only [show ¬ ((-1 : Int) > 0) from by decide, if_false]
  unfold sliceRange
  simp only [show ¬ ((-1 : Int) > 0) from by decide, if_false]
  by_cases hn : n = 0
  · subst hn
    rfl
  · have h : ((n : Int) - 1 > -1) := by omega
    simp only [h, if_true]
    have e : (((n : Int) - 1 - -1 - -1 - 1) / - -1).toNat = n := by
      have : ((n : Int) - 1 - -1 - -1 - 1) = n := by omega
      rw [this]
      simp
    rw [e]
    refine List.map_congr_left fun k hk => ?_
    have := List.mem_range.mp hk
    omega
theorem rev_pick (l : List Nat) : ((List.range l.length).map fun k => l.length - 1 - k).filterMap (l[·]?) = l.reverse := by
  have h : ∀ (m : Nat) (a : List Nat), m ≤ a.length → ((List.range m).map fun k => a.length - 1 - k).filterMap (a[·]?) = (a.drop (a.length - m)).reverse := by
    intro m
    induction m with
    | zero => intro a _; simp
    | succ m ih =>
      intro a hm
      rw [List.range_succ, List.map_append, List.filterMap_append, ih a (by omega)]
      have hlt : a.length - 1 - m < a.length := by omega
      have e1 : a.drop (a.length - (m + 1)) = a[a.length - 1 - m] :: a.drop (a.length - m) := by
        have e2 : a.length - (m + 1) = a.length - 1 - m := by omega
        rw [e2, List.drop_eq_getElem_cons hlt]
        congr 2
        omega
      rw [e1, List.reverse_cons]
      congr 1
      simp [List.getElem?_eq_getElem hlt]
  have := h l.length l (Nat.le_refl _)
  simpa using this
def tRevS (te : TE) : TE := fun σ H Q => te σ H fun x H1 => ∃ l : List Nat, x = .str ⟨l.toArray⟩ ∧ l.length ≤ 16777216 ∧ Q (.str ⟨l.reverse.toArray⟩) H1
theorem pe_revS {e : Expr} {te : TE} {k : Nat} {p1 p2 p3 pos : Pos} (he : PE X e te) : PE X (.Subscript e (.Slice none none (some (.UnaryOp .USub (.Constant (.int 1) k p1) p2)) p3) pos) (tRevS te) := by
  refine ⟨fun pins s σ H Q I h => ?_⟩
  refine Subscript_ (thn (he.run pins s σ H _ I h) fun v s1 ⟨x, H1, I1, r1, q1⟩ => ?_)
  obtain ⟨z, ex, hz, q⟩ := q1
  subst ex
  obtain ⟨t, rfl⟩ := r1
  have hst : PO X (some (.UnaryOp .USub (.Constant (.int 1) k p1) p2)) (tPart (tUn (rU fun i => .int (-i)) (tC (.int 1)))) := po_some (pe_un un_neg pe_int)
  refine wpAny_Slice (thn (po_none.run pins s1 σ H1 (fun o H2 => o = none ∧ H2 = H1) I1 ⟨rfl, rfl⟩) fun vl s2 ⟨l, H2, I2, pl, el, e2⟩ => ?_)
  subst el e2
  refine thn (po_none.run pins s2 σ H2 (fun o H3 => o = none ∧ H3 = H2) I2 ⟨rfl, rfl⟩) fun vu s3 ⟨u, H3, I3, pu, eu, e3⟩ => ?_
  subst eu e3
  refine thn (hst.run pins s3 σ H3 (fun o H4 => o = some (-1) ∧ H4 = H3) I3 ⟨1, rfl, -1, rfl, rfl, rfl⟩) fun vs s4 ⟨o, H4, I4, ps, eo, e4⟩ => ?_
  subst eo e4
  have I5 : Inv X pins σ H4 { s4 with heap := s4.heap.push { cls := .type "slice", data := .fields #[vl, vu, vs] } } := I4.kept (t' := s4.toks) fun b ob q => Heap.get?_push_of_some _ q
  show wpAny (model X.prog X.w) X.A (subscriptTail e (.Slice none none (some (.UnaryOp .USub (.Constant (.int 1) k p1) p2)) p3) (.str ⟨z.toArray⟩ t) (.ref s4.heap.objs.size)) (EP X pins σ Q) X.xe { s4 with heap := s4.heap.push { cls := .type "slice", data := .fields #[vl, vu, vs] } }
  refine tail_any (ops := [.str ⟨z.toArray⟩ t, .ref s4.heap.objs.size]) (typeIs_str _ _ _) (PySem.F.slot_str_getitem.lookup) ?_ (by with_unfolding_all rfl)
  obtain ⟨l, rfl, hl⟩ := IsPart.raw pl
  obtain ⟨u, rfl, hu⟩ := IsPart.raw pu
  obtain ⟨st, rfl, hs⟩ := IsPart.raw ps
  refine wpAny_getItem_str_slice (l := l) (u := u) (st := st) (Heap.IsSliceOf.new _ _ _ _) (by rw [hs]; rfl) ?_
  unfold sliceMade slicePicked
  rw [hl, hu, hs]
  show Made.post (if ((-1 : Int) == 1 && _) = true then Made.val (.str ⟨z.toArray⟩ t) else Made.str ⟨((Builtin.Str.strSliceIndices none none (-1) (⟨z.toArray⟩ : Str).length).filterMap ((⟨z.toArray⟩ : Str).cps[·]?)).toArray⟩) (EP X pins σ Q) _
  rw [if_neg (by simp)]
  have e : (Builtin.Str.strSliceIndices none none (-1) (⟨z.toArray⟩ : Str).length).filterMap ((⟨z.toArray⟩ : Str).cps[·]?) = z.reverse := by
    rw [S_length, rev_places, ← rev_pick z]
    refine congrArg (fun f => List.filterMap f _) (funext fun i => ?_)
    simp
  rw [e]
  refine ⟨by rw [S_length, List.length_reverse, sizeLine_eq]; exact hz, .str _, H4, I5.tok _, ⟨_, rfl⟩, q⟩
def fRev (fa : EM Pk) : EM Da := mB fa fun p => fun ρ => mO (match look ρ p with
  | some (.str l) => if l.length ≤ 16777216 then some (.str l.reverse) else none
  | _ => none) ρ
theorem ve_revS {e : Expr} {k : Nat} {p1 p2 p3 pos : Pos} {fa : EM Pk} (ha : VP X W e fa) : VE X W (.Subscript e (.Slice none none (some (.UnaryOp .USub (.Constant (.int 1) k p1) p2)) p3) pos) (fRev fa) :=
  pe_mono (pe_revS ha) fun σ H Q ⟨B, ρ, G, t, s⟩ => ⟨B, ρ, G, t, (sat_bind s).imp (fun p ρ1 s1 v G1 H1 g1 t1 px => by
    obtain ⟨d, e, k⟩ := sat_o s1
    cases l1 : look ρ1 p with
    | none => rw [l1] at e; cases e
    | some d =>
      rw [l1] at e
      cases d with
      | str l =>
        obtain ⟨rfl, hc⟩ := see_str (see_of t1 px l1)
        simp only at e
        split at e
        · rename_i hl
          cases e
          exact ⟨l, rfl, hl, k _ G1 H1 g1 t1 (.str (hc.sub fun c h => by simpa using h))⟩
        · cases e
      | _ => cases e) fun e ρ' k => k⟩

/-! ### a, b = x, y where a real tuple is made -/
theorem Ext.step {K : PySem.W.Frag} {B : Bs} {ρ : Env} {σ : L2.St} {G H G1 H1 : Hp} (s : Cn G H G1 H1) {vs : List V} {cs : List Ce} (x : Ext K B ρ σ G H vs cs) : Ext K B ρ σ G1 H1 vs cs := by
  induction x with
  | nil => exact .nil
  | cons h k r ih => exact .cons (h.step s) k ih
theorem vs_parT2 (i j : Nat) {x y : Str} {a b : Expr} {f : EM (List Ce)} {px py pt pos : Pos} {kt k2 pt2} (hc : X.calm = true) (hN : X.N.Nodup) (ha : VC X W [a, b] f)
    (g1 : PG X (.Name x px) (gName i)) (g2 : PG X (.Name y py) (gName j))
    (hw : swappedStores [.Tuple [.Name x px, .Name y py] kt pt] (.Tuple [a, b] k2 pt2) X.env = pure none := by rfl)
    (hs : swapsWithSole [.Tuple [.Name x px, .Name y py] kt pt] (.Tuple [a, b] k2 pt2) pos.line X.env = pure false := by rfl)
    (h1 : (assignEach [.Tuple [.Name x px, .Name y py] kt pt] X.env).map (·.2) = [assign (.Tuple [.Name x px, .Name y py] kt pt) X.env] := by rfl)
    (hn : (assignEach [.Name x px, .Name y py] X.env).length = 2 := by rfl) (hst : (assignEach [.Name x px, .Name y py] X.env).findIdx? (·.1) = none := by rfl)
    (hx1 : (assignEach [.Name x px, .Name y py] X.env).map (·.2) = assign (.Name x px) X.env :: (assignEach [.Name y py] X.env).map (·.2) := by rfl) (hx2 : (assignEach [.Name y py] X.env).map (·.2) = assign (.Name y py) X.env :: (assignEach [] X.env).map (·.2) := by rfl) :
    VS X W (.Assign [.Tuple [.Name x px, .Name y py] kt pt] (.Tuple [a, b] k2 pt2) pos) (fPar2 i j f) :=
  ps_mono (ps_asg (pe_tup ha) (pg_tup hc (pgs_cons g1 (pgs_cons g2 pgs_nil hx2) hx1) hn hst) hs hw h1) fun D σ H ⟨B, ρ, G, t, s⟩ => ⟨B, ρ, G, t, (sat_bind s).imp (fun cs ρ1 s1 vs G1 H1 g1 t1 x1 => by
    match cs, vs, x1, s1 with
    | [c, d], [u, v], x1, s1 =>
      refine ⟨by show 2 ≤ sizeLine; decide, fun p hp => ?_⟩
      have c := Cn.newM t1.cg.gh hp (.tup [u, v])
      obtain ⟨t2, x2⟩ := (t1.step c).store (i := i) (x1.step c)
      obtain ⟨t3, x3⟩ := t2.store (i := j) x2
      exact ⟨p, [u, v], rfl, SqT.of upd_same, rfl, u, [v], rfl, v, [], rfl, rfl, s1 _ G1 _ g1 t3⟩
    | [], _, _, s1 => exact s1.elim
    | [_], _, _, s1 => exact s1.elim
    | _ :: _ :: _ :: _, _, _, s1 => exact s1.elim) fun e ρ' k => exW_of k⟩
theorem vs_parT3 (i j l : Nat) {x y z : Str} {a b c : Expr} {f : EM (List Ce)} {px py pz pt pos : Pos} {kt k2 pt2} (hc : X.calm = true) (hN : X.N.Nodup) (ha : VC X W [a, b, c] f)
    (g1 : PG X (.Name x px) (gName i)) (g2 : PG X (.Name y py) (gName j)) (g3 : PG X (.Name z pz) (gName l))
    (hw : swappedStores [.Tuple [.Name x px, .Name y py, .Name z pz] kt pt] (.Tuple [a, b, c] k2 pt2) X.env = pure none := by rfl)
    (hs : swapsWithSole [.Tuple [.Name x px, .Name y py, .Name z pz] kt pt] (.Tuple [a, b, c] k2 pt2) pos.line X.env = pure false := by rfl)
    (h1 : (assignEach [.Tuple [.Name x px, .Name y py, .Name z pz] kt pt] X.env).map (·.2) = [assign (.Tuple [.Name x px, .Name y py, .Name z pz] kt pt) X.env] := by rfl)
    (hn : (assignEach [.Name x px, .Name y py, .Name z pz] X.env).length = 3 := by rfl) (hst : (assignEach [.Name x px, .Name y py, .Name z pz] X.env).findIdx? (·.1) = none := by rfl)
    (hx1 : (assignEach [.Name x px, .Name y py, .Name z pz] X.env).map (·.2) = assign (.Name x px) X.env :: (assignEach [.Name y py, .Name z pz] X.env).map (·.2) := by rfl)
    (hx2 : (assignEach [.Name y py, .Name z pz] X.env).map (·.2) = assign (.Name y py) X.env :: (assignEach [.Name z pz] X.env).map (·.2) := by rfl)
    (hx3 : (assignEach [.Name z pz] X.env).map (·.2) = assign (.Name z pz) X.env :: (assignEach [] X.env).map (·.2) := by rfl) :
    VS X W (.Assign [.Tuple [.Name x px, .Name y py, .Name z pz] kt pt] (.Tuple [a, b, c] k2 pt2) pos) (fPar3 i j l f) :=
  ps_mono (ps_asg (pe_tup ha) (pg_tup hc (pgs_cons g1 (pgs_cons g2 (pgs_cons g3 pgs_nil hx3) hx2) hx1) hn hst) hs hw h1) fun D σ H ⟨B, ρ, G, t, s⟩ => ⟨B, ρ, G, t, (sat_bind s).imp (fun cs ρ1 s1 vs G1 H1 g1 t1 x1 => by
    match cs, vs, x1, s1 with
    | [c, d, e], [u, v, w], x1, s1 =>
      refine ⟨by show 3 ≤ sizeLine; decide, fun p hp => ?_⟩
      have c := Cn.newM t1.cg.gh hp (.tup [u, v, w])
      obtain ⟨t2, x2⟩ := (t1.step c).store (i := i) (x1.step c)
      obtain ⟨t3, x3⟩ := t2.store (i := j) x2
      obtain ⟨t4, x4⟩ := t3.store (i := l) x3
      exact ⟨p, [u, v, w], rfl, SqT.of upd_same, rfl, u, [v, w], rfl, v, [w], rfl, w, [], rfl, rfl, s1 _ G1 _ g1 t4⟩
    | [], _, _, s1 => exact s1.elim
    | [_], _, _, s1 => exact s1.elim
    | [_, _], _, _, s1 => exact s1.elim
    | _ :: _ :: _ :: _ :: _, _, _, s1 => exact s1.elim) fun e ρ' k => exW_of k⟩
theorem pgn (i : Nat) {x : Str} {pos : Pos} (hN : X.N.Nodup) (hi : X.N[i]? = some x := by rfl) (hx : Loc X.env.scope x := by first | exact Or.inl rfl | exact Or.inr rfl) (hf : X.fn x = true ∨ X.env.scope.names.lookup x = some .local := by first | exact .inl rfl | exact .inr rfl) : PG X (.Name x pos) (gName i) := pg_name hN hi hx hf
/-! ### strip, split -/
def sStrip (a : List Nat) : List Da → Option Da
  | [.str b] => if a.length ≤ 16777216 then some (.str (Txt.stripChars (S a) (S b)).cps.toList) else none
  | _ => none
theorem S_toList (x : Str) : S x.cps.toList = x := by
  show (⟨x.cps.toList.toArray⟩ : Str) = x
  rw [Array.toArray_toList]
theorem chs_strip {a : List Nat} (h : Chs a) (b : Str) : Chs (Txt.stripChars (S a) b).cps.toList := by
  unfold Txt.stripChars Txt.stripBy
  split
  · exact h
  · unfold stripped Builtin.Str.strSub
    refine h.sub fun c hc => ?_
    have h1 := Array.mem_toList_iff.mp hc
    have h2 := Array.mem_toList_iff.mpr h1
    simp only [Array.toList_extract] at h2
    have h3 := List.mem_of_mem_take h2
    exact List.mem_of_mem_drop h3
theorem ms_strip : MtR X "str.strip" (rMs X.K sStrip) := mtR_of mt_stripChars fun x vs H Q ⟨G, l, ds, d, g, ex, hc, sa, e, k⟩ => by
  unfold sStrip at e
  split at e
  · cases sa with
    | cons s1 sr =>
      cases sr
      obtain ⟨rfl, _⟩ := see_str s1
      split at e
      · rename_i hl
        cases e
        refine ⟨_, _, ex, rfl, by rw [S_length, sizeLine_eq]; exact hl, ?_⟩
        have q := k G H (.str (S (Txt.stripChars (S l) (S _)).cps.toList)) (cn_refl g) (.str (chs_strip hc _))
        rw [S_toList] at q
        exact q
      · cases e
  · cases e
theorem spl_sub {S0 : List Nat} : ∀ (l acc : List Nat) (k : Nat) (p : List Nat), p ∈ TL.spl S0 k acc l → ∀ c ∈ p, c ∈ acc ∨ c ∈ l
  | [], acc, k, p, h => by
    rw [TL.spl_nil] at h
    have e : p = acc := by simpa using h
    subst e
    exact fun c hc => .inl hc
  | d :: r, acc, k + 1, p, h => fun c hc => by
    have h' : p ∈ TL.spl S0 k acc r := h
    rcases spl_sub r acc k p h' c hc with z | z
    · exact .inl z
    · exact .inr (List.mem_cons_of_mem _ z)
  | d :: r, acc, 0, p, h => fun c hc => by
    have h' : p ∈ (if TL.pre S0 (d :: r) = true then acc :: TL.spl S0 (S0.length - 1) [] r else TL.spl S0 0 (acc ++ [d]) r) := h
    split at h'
    · rcases List.mem_cons.mp h' with z | z
      · subst z
        exact .inl hc
      · rcases spl_sub r [] _ p z c hc with z | z
        · cases z
        · exact .inr (List.mem_cons_of_mem _ z)
    · rcases spl_sub r _ 0 p h' c hc with z | z
      · rcases List.mem_append.mp z with z | z
        · exact .inl z
        · have e : c = d := by simpa using z
          exact .inr (by rw [e]; exact List.mem_cons_self)
      · exact .inr (List.mem_cons_of_mem _ z)
theorem spl_len {S0 : List Nat} : ∀ (l acc : List Nat) (k : Nat), (TL.spl S0 k acc l).length ≤ l.length + 1
  | [], acc, k => by rw [TL.spl_nil]; simp
  | d :: r, acc, k + 1 => by
    show (TL.spl S0 k acc r).length ≤ _
    have := spl_len (S0 := S0) r acc k
    simp
    omega
  | d :: r, acc, 0 => by
    show (if TL.pre S0 (d :: r) = true then acc :: TL.spl S0 (S0.length - 1) [] r else TL.spl S0 0 (acc ++ [d]) r).length ≤ _
    split
    · have := spl_len (S0 := S0) r [] (S0.length - 1)
      simp
      omega
    · have := spl_len (S0 := S0) r (acc ++ [d]) 0
      simp
      omega
def sSplit (a : List Nat) : List Da → Option (List Da)
  | [.str b] => if b ≠ [] ∧ b.all (· < 256) = true ∧ a.length ≤ 16777000 then some ((TL.spl b 0 [] a).map .str) else none
  | _ => none
theorem rpA_strs {K : PySem.W.Frag} {G : Hp} : ∀ {ls : List (List Nat)}, (∀ l ∈ ls, Chs l) → RpA K G ((ls.map S).map V.str) (ls.map Da.str)
  | [], _ => .nil
  | l :: ls, h => .cons (.str (h l (by simp))) (rpA_strs fun l' hl' => h l' (List.mem_cons_of_mem _ hl'))
theorem ms_split : MtR X "str.split" (rMn X.K sSplit) := mtR_of mt_split fun x vs H Q ⟨G, l, ds, es, g, ex, hc, sa, e, k⟩ => by
  unfold sSplit at e
  split at e
  · rename_i b
    cases sa with
    | cons s1 sr =>
      cases sr
      obtain ⟨rfl, _⟩ := see_str s1
      split at e
      · rename_i hl
        obtain ⟨h1, h2, h3⟩ := hl
        cases e
        subst ex
        have hb : b.length ≠ 0 := fun z => h1 (List.length_eq_zero_iff.mp z)
        have es : (Txt.split (S l) (S b)).map TL.tl = TL.spl b 0 [] l := TL.split_spl (S l) (S b) h1 (TL.kind_ok (by simpa using h2))
        have ev : (Txt.split (S l) (S b)).map V.str = ((TL.spl b 0 [] l).map S).map V.str := by
          rw [← es, List.map_map, List.map_map]
          refine List.map_congr_left fun z _ => ?_
          show V.str z = V.str (S z.cps.toList)
          rw [S_toList]
        refine ⟨_, _, rfl, rfl, by rw [S_length]; simpa using hb, by rw [S_length, sizeLine_eq]; omega, fun p hp => ?_⟩
        rw [ev]
        refine k p _ hp (rpA_strs fun p hp => fun c hc' => ?_) ?_
        · rcases spl_sub l [] 0 p hp c hc' with z | z
          · cases z
          · exact hc c z
        · rw [List.length_map, List.length_map, sizeLine_eq]
          have := spl_len (S0 := b) l [] 0
          omega
      · cases e
  · cases e
end
end Vl
/-! the value layer: objects that change -/
namespace Vl
open PySem PySem.Spec PyProof.Rows L2

section
variable {K : PySem.W.Frag} {B : Bs} {ρ : Env} {σ : L2.St} {G H G' H' : Hp}
/-- an object was handed to a def that changed it -/
theorem Stt.io (t : Stt K B ρ σ G H) {i : Nat} {a : Option Nat} {c : Str} {gs gs' : List (Str × Da)} {p dx : Addr} {fs' : List (Str × V)} (ei : ρ[i]? = some (some (.obj a c gs))) (es : σ[i]? = some (some (.ref p)))
    (c1 : Cg (fun b => b = p) G H G' H') (hp : H' p = some (.ins (He.ga K c) dx fs')) (rf : RpF K G' fs' gs') : Stt K B (ρ.set i (some (.obj a c gs'))) σ G' H' := by
  obtain ⟨v, es', l, dx0, fs0, e0, w, _, ea⟩ := t.sl i _ ei
  rw [es] at es'
  cases es'
  cases e0
  have gfree : ∀ b, G b = none → H b ≠ none → G' b = none := fun b g h => by
    cases e : G' b with
    | none => rfl
    | some u =>
      rcases c1.fr b u e with z | z
      · rw [g] at z; cases z
      · exact absurd z h
  refine ⟨⟨t.cg.gg.trans c1.gg, c1.gh, fun b u nm q => ?_, fun b u q => ?_, fun b m => ⟨?_, (t.cg.mg b m).2⟩, fun b m => ?_⟩, fun b u q => ?_, fun j d l e od es' => ?_, by rw [List.length_set]; exact t.len, fun j d h0 => ?_, fun x y c1' d1 u hab ea' eb oa ob sa sb => ?_⟩
  · have nb : b ≠ p := fun z => by
      subst z
      rcases w.2.1 with z | z
      · rw [z] at q; cases q
      · exact nm z
    exact c1.hh b u nb (t.cg.hh b u nm q)
  · rcases c1.fr b u q with z | z
    · exact t.cg.fr b u z
    · refine .inr ?_
      cases e : B.H0 b with
      | none => rfl
      | some u' =>
        by_cases m : B.M b ≠ none
        · obtain ⟨o, ho⟩ := t.cg.mh b m
          rw [z] at ho; cases ho
        · have := t.cg.hh b u' m e
          rw [z] at this; cases this
  · refine gfree b (t.cg.mg b m).1 fun z => ?_
    obtain ⟨o, ho⟩ := t.cg.mh b m
    rw [z] at ho; cases ho
  · obtain ⟨o, ho⟩ := t.cg.mh b m
    by_cases nb : b = p
    · subst nb
      exact ⟨_, hp⟩
    · exact ⟨o, c1.hh b o nb ho⟩
  · obtain ⟨h1, h2⟩ := t.pf b u q
    have nb : b ≠ p := fun z => by
      subst z
      rw [t.sf i _ b ei rfl es] at q
      cases q
    exact ⟨c1.hh b u nb h1, gfree b h2 (by rw [h1]; exact fun z => nomatch z)⟩
  · rcases set_get e with ⟨rfl, e2⟩ | ⟨ne, e2⟩
    · cases e2
      rw [es] at es'
      cases es'
      exact t.sf _ _ p ei rfl es
    · exact t.sf j d l e2 od es'
  · rcases set_get h0 with ⟨rfl, e⟩ | ⟨ne, e⟩
    · cases e
      exact ⟨_, es, p, dx, fs', rfl, ⟨(c1.mg p rfl).1, w.2.1, hp⟩, rf, ea⟩
    · obtain ⟨u, e1, e2⟩ := t.sl j d e
      refine ⟨u, e1, ?_⟩
      have nu : isOwn d = true → u ≠ V.ref p := fun od q => t.sep i j _ d (.ref p) ne ei e rfl od es (q ▸ e1)
      have own : ∀ {M : Addr → Option Nat} {l' : Addr} {o : HO}, l' ≠ p → Own M B.H0 G H l' o → Own M B.H0 G' H' l' o := fun nl w' => ⟨gfree _ w'.1 (by rw [w'.2.2]; exact fun z => nomatch z), w'.2.1, c1.hh _ _ nl w'.2.2⟩
      cases d with
      | imm d => exact Rp.mono c1.gg e2
      | lst ds =>
        obtain ⟨l', vs, e3, w', r⟩ := e2
        exact ⟨l', vs, e3, own (fun q => nu rfl (by rw [e3, q])) w', r.mono c1.gg⟩
      | dic ds =>
        obtain ⟨l', vs, e3, w', r⟩ := e2
        exact ⟨l', vs, e3, own (fun q => nu rfl (by rw [e3, q])) w', r.mono c1.gg⟩
      | obj a' c' ds =>
        obtain ⟨l', dx', vs, e3, w', r, ea'⟩ := e2
        exact ⟨l', dx', vs, e3, own (fun q => nu rfl (by rw [e3, q])) w', r.mono c1.gg, ea'⟩
      | bls n ds =>
        obtain ⟨l', vs, e3, w', r, en⟩ := e2
        exact ⟨l', vs, e3, own (fun q => nu rfl (by rw [e3, q])) w', r.mono c1.gg, en⟩
  · have old : ∀ {k : Nat} {z : Ce}, (ρ.set i (some (Ce.obj a c gs')))[k]? = some (some z) → isOwn z = true → ∃ z', ρ[k]? = some (some z') ∧ isOwn z' = true := fun {k z} h0 oz => by
      rcases set_get h0 with ⟨rfl, _⟩ | ⟨_, e⟩
      · exact ⟨_, ei, rfl⟩
      · exact ⟨z, e, oz⟩
    obtain ⟨c2, ec, oc2⟩ := old ea' oa
    obtain ⟨d2, ed, od2⟩ := old eb ob
    exact t.sep x y c2 d2 u hab ec ed oc2 od2 sa sb
end
section
variable {X : Cx} {W : WX}
/-! ### fields of such an object -/
def fFldO (c f : Str) (i : Nat) : EM Da := fun ρ => match ρ[i]? with
  | some (some (.obj _ c' gs)) => if c' = c then mO (gs.lookup f) ρ else .stuck
  | _ => .stuck
theorem ve_fldO (i : Nat) {c : Str} {x : Str} {f : Str} {p pos : Pos} (hc : Cls X.K (He.ga X.K c)) (hn : NoAttr X.K (He.ga X.K c) f) (hN : X.N[i]? = some x := by rfl) (hv : Vis X.env.scope x := by first | exact Or.inl rfl | exact Or.inr (Or.inl rfl) | exact Or.inr (Or.inr rfl))
    (hb : attributeBase (.Name x p) f X.env (eval (.Name x p) X.env) = eval (.Name x p) X.env := by rfl) (hd : (x == ("__debug__" : Str)) = false := by decide) (hcd : (x == ("__classdict__" : Str)) = false := by decide) :
    VE X W (.Attribute (.Name x p) f pos) (fFldO c f i) := pe_mono (pe_fld (pe_var hN hv hd hcd) hb) fun σ H Q ⟨B, ρ, G, t, s⟩ => by
  unfold fFldO at s
  split at s
  · rename_i a c' gs e1
    split at s
    · rename_i hcc
      subst hcc
      obtain ⟨d, e2, k⟩ := sat_o s
      obtain ⟨v, es, l, dx, fs, rfl, w, r, _⟩ := t.sl i _ e1
      rcases r.look f with ⟨_, q⟩ | ⟨u, d', q1, q2, q3⟩
      · rw [q] at e2; cases e2
      · rw [q2] at e2
        cases e2
        exact ⟨_, es, l, _, dx, fs, u, rfl, w.2.2, hc, hn, q1, k u G H (Same.refl _) t q3⟩
    · exact s.elim
  · exact s.elim
def putG (f : Str) (d : Da) : List (Str × Da) → List (Str × Da)
  | [] => [(f, d)]
  | (g, x) :: r => if g = f then (g, d) :: r else (g, x) :: putG f d r
theorem RpF.put {K : PySem.W.Frag} {G : Hp} {f : Str} {v : V} {d : Da} (h : Rp K G v d) : ∀ {fs : List (Str × V)} {gs : List (Str × Da)}, RpF K G fs gs → RpF K G (putF f v fs) (putG f d gs)
  | _, _, .nil => .cons h .nil
  | (x, u) :: fs, _, .cons h1 r => by
    unfold putF putG
    split
    · exact .cons h r
    · exact .cons h1 (RpF.put h r)
def fFldSet (c f : Str) (i : Nat) (fe : EM Da) : EM Fl := mB fe fun d => fun ρ => match ρ[i]? with
  | some (some (.obj a c' gs)) => if c' = c ∧ gs.length < 1000 then .ok .nx (ρ.set i (some (.obj a c (putG f d gs)))) else .stuck
  | _ => .stuck
theorem vs_fldO (i : Nat) {c : Str} {x : Str} {f : Str} {p pos pos' : Pos} {e : Expr} {fe : EM Da} (hc : Cls X.K (He.ga X.K c)) (hn : NoAttr X.K (He.ga X.K c) f) (h : VE X W e fe) (hN : X.N[i]? = some x := by rfl) (hv : Vis X.env.scope x := by first | exact Or.inl rfl | exact Or.inr (Or.inl rfl) | exact Or.inr (Or.inr rfl))
    (hs : swapsWith e (some (.Attribute (.Name x p) f pos')) pos.line X.env = pure false := by rfl) (hd : (x == ("__debug__" : Str)) = false := by decide) (hcd : (x == ("__classdict__" : Str)) = false := by decide) :
    VS X W (.Assign [.Attribute (.Name x p) f pos'] e pos) (fFldSet c f i fe) := ps_mono (ps_fld (pe_var hN hv hd hcd) h hs) fun D σ H ⟨B, ρ, G, t, s⟩ => ⟨B, ρ, G, t, (sat_bind s).imp (fun d ρ1 s1 y G1 H1 g1 t1 r1 => by
    split at s1
    · rename_i a c' gs e1
      split at s1
      · rename_i hcc
        obtain ⟨rfl, hl⟩ := hcc
        obtain ⟨v, es, l, dx, fs, rfl, w, r, ea⟩ := t1.sl i _ e1
        refine ⟨_, es, l, _, dx, fs, rfl, w.2.2, hc, hn, by rw [r.length]; exact hl, ?_⟩
        exact s1 σ G1 _ g1 (t1.write (c' := .obj a c' (putG f d gs)) e1 rfl es w ⟨l, dx, _, rfl, ⟨w.1, w.2.1, upd_same⟩, r.put r1, ea⟩)
      · exact s1.elim
    · exact s1.elim) fun e ρ' k => exW_of k⟩
def fFldAug (c f : Str) (i : Nat) (fe : EM Da) : EM Fl := fun ρ => match ρ[i]? with
  | some (some (.obj _ c0 gs0)) => if c0 = c then (match gs0.lookup f with
    | some (.int n) => mB fe (fun d => fun ρ1 => match d, ρ1[i]? with
      | .int m, some (some (.obj a c' gs)) => if c' = c ∧ gs.length < 1000 then .ok .nx (ρ1.set i (some (.obj a c (putG f (.int (n + m)) gs)))) else .stuck
      | _, _ => .stuck) ρ
    | _ => .stuck) else .stuck
  | _ => .stuck
theorem vs_fldaugO (i : Nat) {c : Str} {x : Str} {f : Str} {p pos tpos : Pos} {e : Expr} {fe : EM Da} (hc : Cls X.K (He.ga X.K c)) (hn : NoAttr X.K (He.ga X.K c) f) (h : VE X W e fe) (hN : X.N[i]? = some x := by rfl) (hv : Vis X.env.scope x := by first | exact Or.inl rfl | exact Or.inr (Or.inl rfl) | exact Or.inr (Or.inr rfl))
    (hd : (x == ("__debug__" : Str)) = false := by decide) (hcd : (x == ("__classdict__" : Str)) = false := by decide) :
    VS X W (.AugAssign (.Attribute (.Name x p) f tpos) .Add e pos) (fFldAug c f i fe) := ps_mono (ps_fldaug (pe_var hN hv hd hcd) h in_add) fun D σ H ⟨B, ρ, G, t, s⟩ => by
  unfold fFldAug at s
  split at s
  · rename_i a0 c0 gs0 e0
    split at s
    · rename_i hc0
      subst hc0
      split at s
      · rename_i n en
        obtain ⟨v0, es0, l0, dx0, fs0, rfl, w0, r0, _⟩ := t.sl i _ e0
        rcases r0.look f with ⟨_, q⟩ | ⟨u, d', q1, q2, q3⟩
        · rw [q] at en; cases en
        · rw [q2] at en
          cases en
          cases q3
          refine ⟨_, es0, l0, _, dx0, fs0, _, rfl, w0.2.2, hc, hn, q1, B, ρ, G, t, (sat_bind s).imp (fun d ρ1 s1 y G1 H1 g1 t1 r1 => ?_) fun e ρ' k => exW_of k⟩
          split at s1
          · rename_i d1 d2 m a c' gs e1
            split at s1
            · rename_i hcc
              obtain ⟨rfl, hl⟩ := hcc
              cases r1
              obtain ⟨v, es, l, dx, fs, rfl, w, r, ea⟩ := t1.sl i _ e1
              rw [es0] at es
              cases es
              refine ⟨_, _, rfl, rfl, dx, fs, w.2.2, by rw [r.length]; exact hl, ?_⟩
              exact s1 σ G1 _ g1 (t1.write (c' := .obj a c' (putG f (.int (n + m)) gs)) e1 rfl es0 w ⟨l0, dx, _, rfl, ⟨w.1, w.2.1, upd_same⟩, r.put (.int _), ea⟩)
            · exact s1.elim
          · exact s1.elim
      · exact s.elim
    · exact s.elim
  · exact s.elim

/-! ### defs that change the object they are handed first -/
def spIO (K : PySem.W.Frag) (c : Str) (F : List (Str × Da) → List Da → Option (Da × List (Str × Da))) : Sp := fun vs H Q _ => ∃ G p dx fs us gs ds, vs = .ref p :: us ∧ Same G H ∧ G p = none ∧ H p = some (.ins (He.ga K c) dx fs) ∧ RpF K G fs gs ∧ RpA K G us ds ∧ ∃ d gs', F gs ds = some (d, gs') ∧
  ∀ G' H' v dx' fs', Cg (fun b => b = p) G H G' H' → H' p = some (.ins (He.ga K c) dx' fs') → RpF K G' fs' gs' → Rp K G' v d → Q v H'
structure FoIO (P : Program) (w : World) (K : PySem.W.Frag) (mg : Str → Option Value) (base : Heap) (k : Nat) (f : Addr) (ps : List Str) (c : Str) (F : List (Str × Da) → List Da → Option (Da × List (Str × Da))) : Prop where
  ok : ∃ fd : FuncData, FnOk P w K mg base CX0 k f fd ps (spIO K c F) ∧ Binds K fd ps []
  kp : PySem.W.keepIn K (.ref f) = true
def fIO (c : Str) (F : List (Str × Da) → List Da → Option (Da × List (Str × Da))) (i : Nat) (fa : EM (List Da)) : EM Da := fun ρ => match ρ[i]? with
  | some (some (.obj _ _ _)) => mB fa (fun ds => fun ρ1 => match ρ1[i]? with
    | some (some (.obj a c1 gs)) => if c1 = c then (match F gs ds with
      | some (d, gs') => .ok d (ρ1.set i (some (.obj a c gs')))
      | none => .stuck) else .stuck
    | _ => .stuck) ρ
  | _ => .stuck
theorem sp_io {K : PySem.W.Frag} {c : Str} {F : List (Str × Da) → List Da → Option (Da × List (Str × Da))} {B : Bs} {G G1 H1 : Hp} {ρ1 : Env} {σ : L2.St} {i : Nat} {v : V} {us : List V} {ds : List Da} {Q : VK} {E : XK} (g1 : Same G G1) (t1 : Stt K B ρ1 σ G1 H1) (es : σ[i]? = some (some v)) (r : RpA K G1 us ds)
    (s : Sat (match ρ1[i]? with
    | some (some (.obj a c1 gs)) => if c1 = c then (match F gs ds with
      | some (d, gs') => Out.ok d (ρ1.set i (some (.obj a c gs')))
      | none => .stuck) else .stuck
    | _ => .stuck) (fun d ρ' => ∀ v G' H', Same G G' → Stt K B ρ' σ G' H' → Rp K G' v d → Q v H') (exW K W B σ)) : spIO K c F (v :: us) H1 Q E := by
  split at s
  · rename_i a c1 gs e1
    split at s
    · rename_i hcc
      subst hcc
      obtain ⟨v', es', l, dx, fs, rfl, w, rf, ea⟩ := t1.sl i _ e1
      rw [es] at es'
      cases es'
      cases e : F gs ds with
      | none => simp only [e] at s; exact s.elim
      | some q =>
        obtain ⟨d, gs'⟩ := q
        simp only [e] at s
        exact ⟨G1, l, dx, fs, us, gs, ds, rfl, t1.cg.gh, w.1, w.2.2, rf, r, d, gs', e, fun G' H' v dx' fs' c1 hp rf' rv => s v G' H' (g1.trans c1.gg) (t1.io e1 es c1 hp rf') rv⟩
    · exact s.elim
  · exact s.elim
theorem ve_callIO (i : Nat) {k : Nat} {x y : Str} {f : Addr} {p py pos : Pos} {es : List Expr} {ps : List Str} {c : Str} {F : List (Str × Da) → List Da → Option (Da × List (Str × Da))} {fa : EM (List Da)} (h : FoIO X.prog X.w X.K X.mg X.base k f ps c F) (hm : X.mg x = some (.ref f)) (hr : Room k X.A) (ha : VA X W es fa)
    (hN : X.N[i]? = some y := by rfl) (hv : Vis X.env.scope y := by first | exact Or.inl rfl | exact Or.inr (Or.inl rfl) | exact Or.inr (Or.inr rfl)) (hdy : (y == ("__debug__" : Str)) = false := by decide) (hcd : (y == ("__classdict__" : Str)) = false := by decide)
    (hg : Gl X x := by rfl) (hdb : (x == ("__debug__" : Str)) = false := by decide) (he : starEach (.Name y py :: es) X.env = (false, eval (.Name y py) X.env) :: starEach es X.env := by rfl) (hpl : (backTo pos (starEach es X.env)).any (·.1) = false := by rfl) :
    VE X W (.Call (.Name x p) (.Name y py :: es) [] pos) (fIO c F i fa) := by
  obtain ⟨fd, F0, hb⟩ := h.ok
  refine pe_mono (pe_call F0 hr hg hm h.kp hb .nil pass0 (pa_cons (pe_var hN hv hdy hcd) ha he) hdb he hpl) fun σ H Q ⟨B, ρ, G, t, s⟩ => ?_
  unfold fIO at s
  split at s
  · rename_i a c0 gs0 e0
    obtain ⟨v, es0, _⟩ := t.sl i _ e0
    exact ⟨v, es0, B, ρ, G, t, (sat_bind s).imp (fun ds ρ1 s1 us G1 H1 g1 t1 r1 => by
      show spIO _ _ _ ((v :: us) ++ []) _ _ _
      rw [List.append_nil]
      exact sp_io g1 t1 es0 r1 s1) fun e ρ' k => k⟩
  · exact s.elim
def fMIO (c m : Str) (F : List (Str × Da) → List Da → Option (Da × List (Str × Da))) (i : Nat) (fa : EM (List Da)) : EM Da := fun ρ => match ρ[i]? with
  | some (some (.obj _ c' gs)) => if c' = c ∧ gs.lookup m = none then fIO c F i fa ρ else .stuck
  | _ => .stuck
theorem ve_methIO (i : Nat) {pl : Sem Bool} {k : Nat} {c m : Str} {f : Addr} {x : Str} {p apos pos : Pos} {e : Expr} {es : List Expr} {ps : List Str} {F : List (Str × Da) → List Da → Option (Da × List (Str × Da))} {fa : EM (List Da)} (hc : Cls X.K (He.ga X.K c)) (hm : Meth X.K (He.ga X.K c) m f)
    (h : FoIO X.prog X.w X.K X.mg X.base k f ps c F) (hr : Room k X.A) (ha : VA X W (e :: es) fa)
    (hN : X.N[i]? = some x := by rfl) (hv : Vis X.env.scope x := by first | exact Or.inl rfl | exact Or.inr (Or.inl rfl) | exact Or.inr (Or.inr rfl)) (hd : (x == ("__debug__" : Str)) = false := by decide) (hcd : (x == ("__classdict__" : Str)) = false := by decide)
    (hst : starEach (e :: es) X.env = (false, eval e X.env) :: starEach es X.env := by rfl) (hpl : (backTo pos (starEach es X.env)).any (·.1) = false := by rfl)
    (hev : eval (.Call (.Attribute (.Name x p) m apos) (e :: es) [] pos) X.env = (do
      let ov ← eval (.Name x p) X.env
      standAt apos.atName
      let (f, first) ← holding [ov] (getMethod ov m pl)
      callWith pos f first (backTo pos (starEach (e :: es) X.env)) (backToKw pos (keywordEach [] X.env))) := by rfl) :
    VE X W (.Call (.Attribute (.Name x p) m apos) (e :: es) [] pos) (fMIO c m F i fa) := by
  obtain ⟨fd, F0, hb⟩ := h.ok
  refine pe_mono (pe_meth (pl := pl) (pe_var hN hv hd hcd) hc hm F0 hr hb .nil pass0 ha hst hpl hev) fun σ H Q ⟨B, ρ, G, t, s⟩ => ?_
  unfold fMIO at s
  split at s
  · rename_i a c0 gs0 e0
    split at s
    · rename_i hcc
      obtain ⟨rfl, hl⟩ := hcc
      unfold fIO at s
      simp only [e0] at s
      obtain ⟨v, es0, l, dx, fs, rfl, w, r, _⟩ := t.sl i _ e0
      refine ⟨_, es0, l, dx, fs, rfl, w.2.2, ?_, B, ρ, G, t, (sat_bind s).imp (fun ds ρ1 s1 us G1 H1 g1 t1 r1 => by
        show spIO _ _ _ (V.ref l :: (us ++ [])) _ _ _
        rw [List.append_nil]
        exact sp_io g1 t1 es0 r1 s1) fun e ρ' k => k⟩
      rcases r.look m with ⟨q, _⟩ | ⟨u, d, q1, q2, q3⟩
      · exact q
      · rw [hl] at q2; cases q2
    · exact s.elim
  · exact s.elim
theorem ve_methIO0 (i : Nat) {pl : Sem Bool} {k : Nat} {c m : Str} {f : Addr} {x : Str} {p apos pos : Pos} {ps : List Str} {F : List (Str × Da) → List Da → Option (Da × List (Str × Da))} (hc : Cls X.K (He.ga X.K c)) (hm : Meth X.K (He.ga X.K c) m f)
    (h : FoIO X.prog X.w X.K X.mg X.base k f ps c F) (hr : Room k X.A)
    (hN : X.N[i]? = some x := by rfl) (hv : Vis X.env.scope x := by first | exact Or.inl rfl | exact Or.inr (Or.inl rfl) | exact Or.inr (Or.inr rfl)) (hd : (x == ("__debug__" : Str)) = false := by decide) (hcd : (x == ("__classdict__" : Str)) = false := by decide)
    (hev : eval (.Call (.Attribute (.Name x p) m apos) [] [] pos) X.env = (do
      let ov ← eval (.Name x p) X.env
      standAt apos.atName
      let (f, first) ← holding [ov] (getMethod ov m pl)
      callWith pos f first (backTo pos (starEach [] X.env)) (backToKw pos (keywordEach [] X.env))) := by rfl) :
    VE X W (.Call (.Attribute (.Name x p) m apos) [] [] pos) (fMIO c m F i (mP [])) := by
  obtain ⟨fd, F0, hb⟩ := h.ok
  refine pe_mono (pe_meth0 (pl := pl) (pe_var hN hv hd hcd) hc hm F0 hr hb .nil pass0 hev) fun σ H Q ⟨B, ρ, G, t, s⟩ => ?_
  unfold fMIO at s
  split at s
  · rename_i a c0 gs0 e0
    split at s
    · rename_i hcc
      obtain ⟨rfl, hl⟩ := hcc
      unfold fIO at s
      simp only [e0] at s
      obtain ⟨v, es0, l, dx, fs, rfl, w, r, _⟩ := t.sl i _ e0
      refine ⟨_, es0, l, dx, fs, rfl, w.2.2, ?_, ?_⟩
      · rcases r.look m with ⟨q, _⟩ | ⟨u, d, q1, q2, q3⟩
        · exact q
        · rw [hl] at q2; cases q2
      · exact sp_io (us := []) (E := E0) (Same.refl _) t es0 .nil s
    · exact s.elim
  · exact s.elim
/-! ### a new object of its own -/
def fMakeO (i : Nat) (c : Str) (F : List Da → Option (List (Str × Da))) (fa : EM (List Da)) : EM Fl := mB fa fun ds => fun ρ => match F ds with
  | some gs => .ok .nx (ρ.set i (some (.obj none c gs)))
  | none => .stuck
theorem vs_make (i : Nat) {k : Nat} {x y : Str} {p pos pos' cpos : Pos} {e : Expr} {es : List Expr} {ps : List Str} {F : List Da → Option (List (Str × Da))} {fa : EM (List Da)} (hN : X.N.Nodup) (h : FoI X.prog X.w X.K X.mg X.base k x ps F) (hm : X.mg x = some (.ref (He.ga X.K x))) (hr : Room (k + 1) X.A) (ha : VA X W (e :: es) fa)
    (hi : X.N[i]? = some y := by rfl) (hx : Loc X.env.scope y := by first | exact Or.inl rfl | exact Or.inr rfl) (hf : X.fn y = true ∨ X.env.scope.names.lookup y = some .local := by first | exact .inl rfl | exact .inr rfl)
    (hs : swapsWith (.Call (.Name x p) (e :: es) [] cpos) (some (.Name y pos')) pos.line X.env = pure false := by rfl)
    (hg : Gl X x := by rfl) (hdb : (x == ("__debug__" : Str)) = false := by decide) (he : starEach (e :: es) X.env = (false, eval e X.env) :: starEach es X.env := by rfl) (hpl : (backTo cpos (starEach es X.env)).any (·.1) = false := by rfl) :
    VS X W (.Assign [.Name y pos'] (.Call (.Name x p) (e :: es) [] cpos) pos) (fMakeO i x F fa) := by
  obtain ⟨fd, F0, hb⟩ := h.ok
  refine ps_mono (ps_set hN hi hx (pe_make h.mkr F0 hr hg hm hb .nil pass0 ha hdb he hpl) hs hf) fun D σ H ⟨B, ρ, G, t, s⟩ => ?_
  refine ⟨B, ρ, G, t, (sat_bind s).imp (fun ds ρ1 s1 vs G1 H1 g1 t1 r1 => ?_) fun e ρ' k => exW_of k⟩
  cases e2 : F ds with
  | none => simp only [e2] at s1; exact s1.elim
  | some gs =>
    simp only [e2] at s1
    intro z dx hz hdx nex
    have gn : G1 z = none := gnone t1.cg.gh hz
    refine ⟨G1, z, dx, vs, ds, by rw [List.append_nil], t1.cg.gh.trans (same_make hz hdx), gn, upd_same, r1, gs, e2, fun G' H' dx' fs c hp rf => ⟨rfl, ?_⟩⟩
    -- the object alone, as it were just made
    have gn' : G' z = none := (c.mg z rfl).1
    have sH : Same H1 H' := fun b u q => by
      have nb : b ≠ z := ne_of_none q hz
      exact c.hh b u (fun w => nb w) (same_make hz hdx b u q)
    have cn : Cn G1 H1 G' H' := ⟨c.gg, c.gh, fun b u _ q => sH b u q, fun b u q => by
      rcases c.fr b u q with w | w
      · exact .inl w
      · by_cases nb : b = z
        · subst nb
          exact .inr hz
        · rw [upd_ne nb] at w
          by_cases nd : b = dx
          · subst nd
            exact .inr hdx
          · rw [upd_ne nd] at w
            exact .inr w, fun _ w => w.elim, fun _ w => w.elim⟩
    have t2 := t1.step cn
    refine s1 _ G' H' (g1.trans cn.gg) (t2.set (c := .obj none x gs) ⟨z, dx', fs, rfl, ⟨gn', .inl (fresh0 t1 hz), hp⟩, rf, fun n q => nomatch q⟩ (fun _ j d u _ e od es q => ?_) fun _ l el => ?_)
    · obtain ⟨u', e3, e4⟩ := t1.sl j d e
      rw [es] at e3
      cases e3
      obtain ⟨l, o', e5, w⟩ := e4.own od
      rw [e5] at q
      cases q
      rw [w.2.2] at hz
      cases hz
    · cases el
      cases q : B.F z with
      | none => rfl
      | some u =>
        rw [(t1.pf z u q).1] at hz
        cases hz
end

/-! ### bodies of such defs -/
def tagOf (p : Addr) : Addr → Option Nat := fun a => if a = p then some 0 else none
theorem tag_ne {p b : Addr} (h : tagOf p b ≠ none) : b = p := by
  unfold tagOf at h
  split at h
  · assumption
  · exact absurd rfl h
theorem tag_at {p : Addr} : tagOf p p = some 0 := if_pos rfl
theorem tag_nn {p : Addr} : tagOf p p ≠ none := by rw [tag_at]; exact fun z => nomatch z
theorem tag_cg {p : Addr} {G H G' H' : Hp} (c : Cg (fun a => tagOf p a ≠ none) G H G' H') : Cg (fun b => b = p) G H G' H' :=
  ⟨c.gg, c.gh, fun b o nb h => c.hh b o (fun m => nb (tag_ne m)) h, c.fr, fun b e => c.mg b (by subst e; exact tag_nn), fun b e => c.mh b (by subst e; exact tag_nn)⟩
def envIO (m : Nat) (c : Str) (gs : List (Str × Da)) (ds : List Da) : Env := some (Ce.obj (some 0) c gs) :: envOf (m - 1) ds
def resIO (c : Str) : Out Fl → Option (Da × List (Str × Da))
  | .ok (.rt d) ρ => (match ρ[(0 : Nat)]? with
    | some (some (Ce.obj (some 0) c' gs)) => if c' = c then some (d, gs) else none
    | _ => none)
  | .ok .nx ρ => (match ρ[(0 : Nat)]? with
    | some (some (Ce.obj (some 0) c' gs)) => if c' = c then some (.non, gs) else none
    | _ => none)
  | _ => none
def ioRun (n m : Nat) (c : Str) (b : EM Fl) (gs : List (Str × Da)) (ds : List Da) : Option (Da × List (Str × Da)) := if ds.length + 1 = n then resIO c (b (envIO m c gs ds)) else none
section
variable {P : Program} {w : World} {K : PySem.W.Frag} {mg : Str → Option Value} {base : Heap}
theorem stt_startIO {m : Nat} {us : List V} {ds : List Da} {G H : Hp} {p dx : Addr} {c : Str} {fs : List (Str × V)} {gs : List (Str × Da)} (g : Same G H) (gp : G p = none) (hp : H p = some (.ins (He.ga K c) dx fs)) (rf : RpF K G fs gs) (r : RpA K G us ds) (σ : L2.St)
    (hl : σ.length = (envIO m c gs ds).length) (h0 : σ[0]? = some (some (.ref p))) (hs : ∀ (i : Nat) (v : V), us[i]? = some v → σ[i + 1]? = some (some v)) : Stt K ⟨tagOf p, G, H, fun _ => none⟩ (envIO m c gs ds) σ G H := by
  have key : ∀ {k : Nat} {z : Ce}, (envIO m c gs ds)[k]? = some (some z) → (k = 0 ∧ z = .obj (some 0) c gs) ∨ ∃ j d, k = j + 1 ∧ ds[j]? = some d ∧ z = .imm d := fun {k z} e => by
    cases k with
    | zero =>
      have e' : (some (Ce.obj (some 0) c gs) : Option Ce) = some z := by simpa [envIO] using e
      exact .inl ⟨rfl, (Option.some.inj e').symm⟩
    | succ j =>
      have e' : (envOf (m - 1) ds)[j]? = some (some z) := by simpa [envIO] using e
      unfold envOf at e'
      by_cases hi : j < ds.length
      · rw [List.getElem?_append_left (by rw [List.length_map]; exact hi), List.getElem?_map] at e'
        cases q : ds[j]? with
        | none => rw [q] at e'; cases e'
        | some d =>
          rw [q] at e'
          have e2 : Ce.imm d = z := by simpa using e'
          exact .inr ⟨j, d, rfl, q, e2.symm⟩
      · rw [List.getElem?_append_right (by rw [List.length_map]; omega), List.getElem?_replicate] at e'
        split at e' <;> cases e'
  refine ⟨⟨Same.refl _, g, fun _ _ _ h => h, fun _ _ h => .inl h, fun b m' => ?_, fun b m' => ?_⟩, fun b o h => (nomatch h), fun _ _ _ _ _ _ => rfl, hl, fun i z e => ?_, fun i j z z' v hij ei ej oc od si sj => ?_⟩
  · rw [tag_ne m']
    exact ⟨gp, _, hp⟩
  · rw [tag_ne m']
    exact ⟨_, hp⟩
  · rcases key e with ⟨rfl, rfl⟩ | ⟨j, d, rfl, q, rfl⟩
    · exact ⟨_, h0, p, dx, fs, rfl, ⟨gp, .inr tag_nn, hp⟩, rf, fun n q => by cases q; exact tag_at⟩
    · obtain ⟨v, h1, h2⟩ := r.get' q
      exact ⟨v, hs j v h1, h2⟩
  · rcases key ei with ⟨rfl, rfl⟩ | ⟨j', d, rfl, q, rfl⟩
    · rcases key ej with ⟨rfl, rfl⟩ | ⟨j', d, rfl, q, rfl⟩
      · exact hij rfl
      · cases od
    · cases oc
theorem start_cons {N : List Str} {v : V} {us : List V} : L2.start N (v :: us) = some v :: (us.map some ++ List.replicate (N.length - (us.length + 1)) none) := by
  unfold L2.start
  rw [List.map_cons, List.length_cons] <;> rfl
theorem resIO_rt {c : Str} {d d' : Da} {ρ : Env} {gs : List (Str × Da)} (h : resIO c (.ok (.rt d) ρ) = some (d', gs)) : d' = d ∧ ρ[0]? = some (some (.obj (some 0) c gs)) := by
  unfold resIO at h
  simp only at h
  split at h
  · rename_i c' gs' e
    split at h
    · rename_i hc
      subst hc
      cases h
      exact ⟨rfl, e⟩
    · cases h
  · cases h
theorem resIO_nx {c : Str} {d' : Da} {ρ : Env} {gs : List (Str × Da)} (h : resIO c (.ok .nx ρ) = some (d', gs)) : d' = .non ∧ ρ[0]? = some (some (.obj (some 0) c gs)) := by
  unfold resIO at h
  simp only at h
  split at h
  · rename_i c' gs' e
    split at h
    · rename_i hc
      subst hc
      cases h
      exact ⟨rfl, e⟩
    · cases h
  · cases h
theorem io_end {p : Addr} {c : Str} {gs : List (Str × Da)} {G H G' H' : Hp} {ρ : Env} {σ : L2.St} (t : Stt K ⟨tagOf p, G, H, fun _ => none⟩ ρ σ G' H') (e : ρ[0]? = some (some (.obj (some 0) c gs))) : ∃ dx fs, H' p = some (.ins (He.ga K c) dx fs) ∧ RpF K G' fs gs := by
  obtain ⟨v, _, l, dx, fs, _, w, r, ea⟩ := t.sl 0 _ e
  have q : tagOf p l = some 0 := ea 0 rfl
  have el : l = p := tag_ne (by rw [q]; exact fun z => nomatch z)
  subst el
  exact ⟨dx, fs, w.2.2, r⟩
theorem io_of {x qual : Str} {st : Stmt} {f : Addr} {fd : FuncData} {dvs : List V} {kws : List (Str × V)} {N ps : List Str} {k : Nat} {c : Str} {fb : EM Fl} (F : FunD K x qual (defArgs st) (defBody st) (defScope st) dvs kws f fd) (Sc : FnScope N ps (defScope st)) (hb : L2.Binds K fd ps []) (hN : 0 < N.length)
    (D : Dv P w K mg base N qual st f k fb) : FoIO P w K mg base (k + 1) f ps c (ioRun ps.length N.length c fb) := by
  refine ⟨⟨fd, F.ok Sc (fun vs H Q E h => ?_) (fun cdv A outer s H vs Q E hr h => ?_), hb⟩, F.kp⟩
  · obtain ⟨G, p, dx, fs, us, gs, ds, rfl, g, gp, hp, rf, r, d, gs', e, _⟩ := h
    unfold ioRun at e
    split at e
    · rename_i hl
      rw [List.length_cons, r.length]
      exact hl
    · cases e
  · obtain ⟨G, p, dx, fs, us, gs, ds, rfl, g, gp, hp, rf, r, d, gs', e, hQ⟩ := h
    have r' := r.length
    refine ⟨_, PSs.nox (D cdv A outer s H E hr), ⟨tagOf p, G, H, fun _ => none⟩, envIO N.length c gs ds, G, stt_startIO g gp hp rf r _ ?_ ?_ (fun i v hv => ?_), ?_⟩
    · rw [start_cons]
      unfold envIO envOf
      simp only [List.length_cons, List.length_append, List.length_map, List.length_replicate, r']
      omega
    · rw [start_cons] <;> rfl
    · rw [start_cons, List.getElem?_cons_succ, List.getElem?_append_left (by rw [List.length_map]; exact lt_of_get hv), List.getElem?_map, hv] <;> rfl
    · unfold ioRun at e
      split at e
      · cases e2 : fb (envIO N.length c gs ds) with
        | stuck => rw [e2] at e; cases e
        | exn x ρ => rw [e2] at e; cases e
        | ok fl ρ =>
          rw [e2] at e
          cases fl with
          | nx =>
            obtain ⟨rfl, e3⟩ := resIO_nx e
            exact fun σ G' H' g' t => by
              obtain ⟨dx', fs', h1, h2⟩ := io_end t e3
              exact hQ G' H' .non dx' fs' (tag_cg t.cg) h1 h2 .non
          | rt d2 =>
            obtain ⟨rfl, e3⟩ := resIO_rt e
            exact fun v σ G' H' g' t rv => by
              obtain ⟨dx', fs', h1, h2⟩ := io_end t e3
              exact hQ G' H' v dx' fs' (tag_cg t.cg) h1 h2 rv
          | bk => cases e
          | ct => cases e
          | rn ds => cases e
      · cases e
/-- __init__ -/
def inRun (n m : Nat) (c : Str) (b : EM Fl) (ds : List Da) : Option (List (Str × Da)) := match ioRun n m c b [] ds with
  | some (.non, gs) => some gs
  | _ => none
theorem in_of {qual : Str} {st : Stmt} {fd : FuncData} {dvs : List V} {kws : List (Str × V)} {N ps : List Str} {k : Nat} {c : Str} {fb : EM Fl} (F : FunD K "__init__" qual (defArgs st) (defBody st) (defScope st) dvs kws (He.ma K (He.ga K c) "__init__") fd) (Sc : FnScope N ps (defScope st)) (hb : L2.Binds K fd ps []) (hN : 0 < N.length) (hm : Mk K (He.ga K c) (He.ma K (He.ga K c) "__init__"))
    (D : Dv P w K mg base N qual st (He.ma K (He.ga K c) "__init__") k fb) : FoI P w K mg base (k + 1) c ps (inRun ps.length N.length c fb) := by
  obtain ⟨fd', F0, hb'⟩ := (io_of (c := c) F Sc hb hN D).ok
  refine ⟨⟨fd', F0.imp fun vs H Q E h => ?_, hb'⟩, hm⟩
  obtain ⟨G, p, dx, us, ds, rfl, g, gp, hp, r, gs, e, hQ⟩ := h
  unfold inRun at e
  split at e
  · rename_i gs' e2
    cases e
    exact ⟨G, p, dx, [], us, [], ds, rfl, g, gp, hp, .nil, r, .non, gs, e2, fun G' H' v dx' fs' c1 h1 h2 rv => by
      cases rv
      exact hQ G' H' dx' fs' c1 h1 h2⟩
  · cases e
end
end Vl
/-! the value layer: dicts with int and text keys, try that raises nothing, the law's end -/
namespace Vl
open PySem PySem.Spec PyProof.Rows L2

section
variable {X : Cx} {W : WX}
/-! ### dicts of one's own -/
def dKey : Da → Option Key
  | .int i => some (.inl i)
  | .str l => some (.inr ⟨l.toArray⟩)
  | _ => none
theorem dKey_rp {K : PySem.W.Frag} {G : Hp} {v : V} {d : Da} {k : Key} (h : Rp K G v d) (e : dKey d = some k) : v = kV k := by
  cases h <;> simp [dKey] at e <;> subst e <;> rfl
def valD (kvs : List (Key × Da)) (k : Key) : Option Da := (kvs.find? fun kv => decide (kv.1 = k)).map (·.2)
def putD (kvs : List (Key × Da)) (k : Key) (v : Da) : List (Key × Da) :=
  if (kvs.any fun kv => decide (kv.1 = k)) = true then kvs.map (fun kv => if kv.1 = k then (kv.1, v) else kv) else kvs ++ [(k, v)]
section
variable {K : PySem.W.Frag} {G : Hp}
theorem RpK.val : ∀ {ks : List (Key × V)} {kvs : List (Key × Da)} (k : Key), RpK K G ks kvs → (valV ks k = none ∧ valD kvs k = none) ∨ ∃ v d, valV ks k = some v ∧ valD kvs k = some d ∧ Rp K G v d
  | _, _, k, .nil => .inl ⟨rfl, rfl⟩
  | (x, v) :: ks, (_, d) :: kvs, k, .cons h r => by
    by_cases e : x = k
    · exact .inr ⟨v, d, by simp [valV, e], by simp [valD, e], h⟩
    · have := RpK.val k r
      simpa [valV, valD, e] using this
theorem RpK.any : ∀ {ks : List (Key × V)} {kvs : List (Key × Da)} (k : Key), RpK K G ks kvs → (ks.any fun kv => decide (kv.1 = k)) = kvs.any fun kv => decide (kv.1 = k)
  | _, _, k, .nil => rfl
  | (x, v) :: ks, (_, d) :: kvs, k, .cons h r => by simp only [List.any_cons, RpK.any k r]
theorem RpK.map : ∀ {ks : List (Key × V)} {kvs : List (Key × Da)} {k : Key} {v : V} {d : Da}, RpK K G ks kvs → Rp K G v d → RpK K G (ks.map fun kv => if kv.1 = k then (kv.1, v) else kv) (kvs.map fun kv => if kv.1 = k then (kv.1, d) else kv)
  | _, _, k, _, _, .nil, _ => .nil
  | (x, u) :: ks, (_, e) :: kvs, k, v, d, .cons h r, hv => by
    simp only [List.map_cons]
    by_cases ex : x = k
    · simp only [ex, if_true]
      exact .cons hv (r.map hv)
    · simp only [ex, if_false]
      exact .cons h (r.map hv)
theorem RpK.append : ∀ {ks ks' : List (Key × V)} {kvs kvs' : List (Key × Da)}, RpK K G ks kvs → RpK K G ks' kvs' → RpK K G (ks ++ ks') (kvs ++ kvs')
  | _, _, _, _, .nil, s => s
  | _, _, _, _, .cons h r, s => .cons h (r.append s)
theorem RpK.put {ks : List (Key × V)} {kvs : List (Key × Da)} {k : Key} {v : V} {d : Da} (r : RpK K G ks kvs) (h : Rp K G v d) : RpK K G (putK ks k v) (putD kvs k d) := by
  unfold putK putD
  rw [r.any k]
  split
  · exact r.map h
  · exact r.append (.cons h .nil)
theorem RpK.length : ∀ {ks : List (Key × V)} {kvs : List (Key × Da)}, RpK K G ks kvs → ks.length = kvs.length
  | _, _, .nil => rfl
  | _, _, .cons _ r => congrArg Nat.succ r.length
end
/-- {} kept aside, then more -/
def fCd (g : EM (List Ce)) : EM (List Ce) := mB g fun cs => mP (.dic [] :: cs)
theorem vc_d {pos : Pos} {es : List Expr} {fs : EM (List Ce)} (hs : VC X W es fs) (hx : starEach (.Dict [] [] pos :: es) X.env = (false, eval (.Dict [] [] pos) X.env) :: starEach es X.env := by rfl) : VC X W (.Dict [] [] pos :: es) (fCd fs) :=
  pa_mono (pa_cons pe_dnewK hs hx) fun σ H Q ⟨B, ρ, G, t, s⟩ => fun p np => by
    have hF : B.F p = none := by
      cases q : B.F p with
      | none => rfl
      | some u => rw [(t.pf p u q).1] at np; cases np
    refine ⟨{ B with F := upd B.F p (.dK []) }, ρ, G, t.aside np _, (sat_bind s).imp (fun cs ρ2 s2 xs G2 H2 g2 t2 r2 => ?_) fun e ρ' k => ?_⟩
    · obtain ⟨x1, x2⟩ := r2.unaside hF
      obtain ⟨a1, a2⟩ := t2.asideAt
      refine s2 (.ref p :: xs) G2 H2 g2 (t2.unaside hF) (.cons ⟨p, [], rfl, ⟨a2, .inl (fresh0 t np), a1⟩, .nil⟩ (fun _ l el => ?_) x1)
      cases el
      refine ⟨hF, fun i d e od z => ?_, x2⟩
      have q := t2.sf i d p e od z
      have q' : upd B.F p (.dK []) p = none := q
      rw [upd_same] at q'
      cases q'
    · intro G' H' cls dx t' ex
      exact k G' H' cls dx (t'.unaside hF) ex
def fAsgD (i : Nat) : EM Fl := fun ρ => .ok .nx (ρ.set i (some (.dic [])))
theorem vs_setD (i : Nat) {x : Str} {pos pos' p : Pos} (hN : X.N.Nodup) (hi : X.N[i]? = some x := by rfl) (hx : Loc X.env.scope x := by first | exact Or.inl rfl | exact Or.inr rfl)
    (hs : swapsWith (.Dict [] [] p) (some (.Name x pos')) pos.line X.env = pure false := by rfl) (hf : X.fn x = true ∨ X.env.scope.names.lookup x = some .local := by first | exact .inl rfl | exact .inr rfl) : VS X W (.Assign [.Name x pos'] (.Dict [] [] p) pos) (fAsgD i) :=
  ps_mono (ps_set hN hi hx pe_dnewK hs hf) fun D σ H ⟨B, ρ, G, t, s⟩ => fun q nq => s _ G _ (Same.refl _) (t.setNew nq ⟨q, [], rfl, ⟨gnone t.cg.gh nq, .inl (fresh0 t nq), upd_same⟩, .nil⟩)
def fInD (neg : Bool) (i : Nat) (fx : EM Da) : EM Da := mB fx fun d => fun ρ => match ρ[i]?, dKey d with
  | some (some (.dic kvs)), some k => .ok (.bl (if neg then !(valD kvs k).isSome else (valD kvs k).isSome)) ρ
  | _, _ => .stuck
theorem dic_get {K : PySem.W.Frag} {B : Bs} {ρ : Env} {σ : L2.St} {G H : Hp} (t : Stt K B ρ σ G H) {i : Nat} {kvs : List (Key × Da)} (e : ρ[i]? = some (some (.dic kvs))) : ∃ l ks, σ[i]? = some (some (.ref l)) ∧ H l = some (.dK ks) ∧ RpK K G ks kvs := by
  obtain ⟨v, es, l, ks, rfl, w, r⟩ := t.sl i _ e
  exact ⟨l, ks, es, w.2.2, r⟩
theorem RpK.some {K : PySem.W.Frag} {G : Hp} {ks : List (Key × V)} {kvs : List (Key × Da)} (r : RpK K G ks kvs) (k : Key) : (valV ks k).isSome = (valD kvs k).isSome := by
  rcases r.val k with ⟨a, b⟩ | ⟨v, d, a, b, _⟩ <;> rw [a, b] <;> rfl
theorem ve_inD (i : Nat) {x : Str} {e : Expr} {p pos : Pos} {fx : EM Da} (hu : X.A.units + 1 < cLine) (h : VE X W e fx) (hN : X.N[i]? = some x := by rfl) (hv : Vis X.env.scope x := by first | exact Or.inl rfl | exact Or.inr (Or.inl rfl) | exact Or.inr (Or.inr rfl))
    (hd : (x == ("__debug__" : Str)) = false := by decide) (hcd : (x == ("__classdict__" : Str)) = false := by decide) : VE X W (.Compare e [.In] [.Name x p] pos) (fInD false i fx) :=
  pe_mono (pe_cmp (pc_din hu h (pe_var hN hv hd hcd))) fun σ H Q ⟨B, ρ, G, t, s⟩ => ⟨B, ρ, G, t, (sat_bind s).imp (fun d ρ1 s1 y G1 H1 g1 t1 r1 => by
    split at s1
    · rename_i kvs k e1 e2
      obtain ⟨l, ks, es, hl, r⟩ := dic_get t1 e1
      refine ⟨_, es, l, valV ks k, rfl, ?_, ?_⟩
      · rw [dKey_rp r1 e2]
        exact DGet.k hl
      · rw [r.some k]
        exact s1 _ G1 H1 g1 t1 (.bl _)
    · exact s1.elim) fun e ρ' k => k⟩
theorem ve_notinD (i : Nat) {x : Str} {e : Expr} {p pos : Pos} {fx : EM Da} (hu : X.A.units + 1 < cLine) (h : VE X W e fx) (hN : X.N[i]? = some x := by rfl) (hv : Vis X.env.scope x := by first | exact Or.inl rfl | exact Or.inr (Or.inl rfl) | exact Or.inr (Or.inr rfl))
    (hd : (x == ("__debug__" : Str)) = false := by decide) (hcd : (x == ("__classdict__" : Str)) = false := by decide) : VE X W (.Compare e [.NotIn] [.Name x p] pos) (fInD true i fx) :=
  pe_mono (pe_cmp (pc_dnotin hu h (pe_var hN hv hd hcd))) fun σ H Q ⟨B, ρ, G, t, s⟩ => ⟨B, ρ, G, t, (sat_bind s).imp (fun d ρ1 s1 y G1 H1 g1 t1 r1 => by
    split at s1
    · rename_i kvs k e1 e2
      obtain ⟨l, ks, es, hl, r⟩ := dic_get t1 e1
      refine ⟨_, es, l, valV ks k, rfl, ?_, ?_⟩
      · rw [dKey_rp r1 e2]
        exact DGet.k hl
      · rw [r.some k]
        exact s1 _ G1 H1 g1 t1 (.bl _)
    · exact s1.elim) fun e ρ' k => k⟩
def fDput (i : Nat) (fk fv : EM Da) : EM Fl := mB fv fun d => fun ρ0 => match ρ0[i]? with
  | some (some (.dic _)) => mB fk (fun kd => fun ρ => match ρ[i]?, dKey kd with
    | some (some (.dic kvs)), some k => if kvs.length < 16777216 then .ok .nx (ρ.set i (some (.dic (putD kvs k d)))) else .stuck
    | _, _ => .stuck) ρ0
  | _ => .stuck
theorem vs_dput (i : Nat) {x : Str} {e ek : Expr} {p pos pos' : Pos} {fk fv : EM Da} (hu : X.A.units + 1 < cLine) (hk : VE X W ek fk) (hv0 : VE X W e fv) (hN : X.N[i]? = some x := by rfl) (hv : Vis X.env.scope x := by first | exact Or.inl rfl | exact Or.inr (Or.inl rfl) | exact Or.inr (Or.inr rfl))
    (hs : swapsWith e (some (.Subscript (.Name x p) ek pos')) pos.line X.env = pure false := by rfl) (hd : (x == ("__debug__" : Str)) = false := by decide) (hcd : (x == ("__classdict__" : Str)) = false := by decide) : VS X W (.Assign [.Subscript (.Name x p) ek pos'] e pos) (fDput i fk fv) :=
  ps_mono (ps_dput hu (pe_var hN hv hd hcd) hk hv0 hs) fun D σ H ⟨B, ρ, G, t, s⟩ => ⟨B, ρ, G, t, (sat_bind s).imp (fun d ρ1 s1 y G1 H1 g1 t1 r1 => by
    split at s1
    · rename_i kvs0 e0
      obtain ⟨l0, ks0, es0, _⟩ := dic_get t1 e0
      refine ⟨_, es0, B, ρ1, G1, t1, (sat_bind s1).imp (fun kd ρ2 s2 z G2 H2 g2 t2 r2 => ?_) fun e ρ' k => exW_of k⟩
      split at s2
      · rename_i kvs k e1 e2
        split at s2
        · rename_i hl
          obtain ⟨v, es, l, ks, rfl, w, r⟩ := t2.sl i _ e1
          rw [es0] at es
          cases es
          refine ⟨l0, upd H2 l0 (.dK (putK ks k y)), rfl, ?_, ?_⟩
          · rw [dKey_rp r2 e2]
            exact DPut.k w.2.2 (by rw [r.length, sizeLine_eq]; exact hl)
          · exact s2 σ G2 _ (g1.trans g2) (t2.write (c' := .dic (putD kvs k d)) e1 rfl es0 w ⟨l0, _, rfl, ⟨w.1, w.2.1, upd_same⟩, r.put (r1.mono g2)⟩)
        · exact s2.elim
      · exact s2.elim
    · exact s1.elim) fun e ρ' k => exW_of k⟩

/-! ### try: body except ..: .. else: orelse, where the body raises nothing -/
theorem vs_try {bd oe : List Stmt} {h0 : ExceptHandler} {hs : List ExceptHandler} {pos : Pos} {f g : EM Fl} (hb : VSs X.nox W bd f) (ho : VSs X W oe g) : VS X W (.Try bd (h0 :: hs) oe [] pos) (fSeq f g) := ps_mono (ps_try_thru hb ho) fun D σ H ⟨B, ρ, G, t, s⟩ => by
  refine ⟨B, ρ, G, t, ?_⟩
  unfold fSeq at s
  cases e : f ρ with
  | stuck => rw [e] at s; exact s
  | exn x ρ' => rw [e] at s; exact s
  | ok fl ρ' =>
    rw [e] at s
    cases fl with
    | nx => exact fun σ' G' H' g' t' => ⟨B, ρ', G', t', Sat.imp (o := g ρ') s (fun _ _ k => FlOk.mono g' k) fun _ _ k => k⟩
    | rt d => exact s
    | bk => exact s
    | ct => exact s
    | rn ds => exact s
/-! ### a call that hands back a new list -/
def fDefL (F : List Da → Option (List Da)) (fa : EM (List Da)) : EM (List Da) := mB fa fun ds => mO (F ds)
theorem same_del {G H : Hp} (e : Same G H) {p : Addr} (g : G p = none) : Same G (del H p) := fun b o h => by
  rw [del_ne (ne_of_none h g)]
  exact e b o h
theorem cn_del {G H G' H' : Hp} (c : Cn G H G' H') {p : Addr} (g : G' p = none) (h : H p = none) : Cn G H G' (del H' p) :=
  ⟨c.gg, same_del c.gh g, fun b o _ q => by rw [del_ne (ne_of_none q h)]; exact c.same _ _ q, c.fr, fun _ m => m.elim, fun _ m => m.elim⟩
theorem vn_call {k : Nat} {x : Str} {f : Addr} {p pos : Pos} {e : Expr} {es : List Expr} {ps : List Str} {F : List Da → Option (List Da)} {fa : EM (List Da)} (hz : ∀ ds r, F ds = some r → r.length ≤ 16777216) (h : FoL X.prog X.w X.K X.mg X.base k f ps F) (hm : X.mg x = some (.ref f)) (hr : Room k X.A) (ha : VA X W (e :: es) fa)
    (hg : Gl X x := by rfl) (hdb : (x == ("__debug__" : Str)) = false := by decide) (he : starEach (e :: es) X.env = (false, eval e X.env) :: starEach es X.env := by rfl) (hpl : (backTo pos (starEach es X.env)).any (·.1) = false := by rfl) :
    VN X W (.Call (.Name x p) (e :: es) [] pos) (fDefL F fa) := by
  obtain ⟨fd, F0, hb⟩ := h.ok
  refine pe_mono (pe_call F0 hr hg hm h.kp hb .nil pass0 ha hdb he hpl) fun σ H Q ⟨B, ρ, G, t, s⟩ => ?_
  exact ⟨B, ρ, G, t, (sat_bind s).imp (fun ds ρ1 s1 vs G1 H1 g1 t1 r1 => by
    obtain ⟨es, e1, k1⟩ := sat_o s1
    refine ⟨G1, ds, es, t1.cg.gh, by rw [List.append_nil]; exact r1, e1, fun G' H' q us c gq hq h' ru => ?_⟩
    have c2 := cn_del c gq hq
    have z := k1 q us G' (del H' q) (g1.trans c2.gg) del_same (t1.step c2) ru (by rw [ru.length, sizeLine_eq]; exact hz _ _ e1)
    rw [upd_del h'] at z
    exact z) fun e ρ' k => k⟩
end

/-! ### the law's end -/
theorem law_holds {P : Program} {w : World} {K : PySem.W.Frag} {mg : Str → Option Value} {base : Heap} {k : Nat} {f a : Addr} {ps : List Str} {F : List Da → Res} {ns : List Int} {H : Hp} (hS : SqL K H a (ns.map V.int)) (e : F [.scr ns] = .ok (.bl true)) :
    spV K F [.ref a] H (fun v _ => v = .bl true) fun _ _ _ => False := ⟨H, [.scr ns], Same.refl _, .cons (.scr hS) .nil, by
  rw [e]
  intro G' H' v c r
  cases r
  rfl⟩
theorem hu1 {a c : Nat} (h : a + 64 < c) : a + 1 < c := by omega
/-- a list handed back, not too long -/
def lsG (F : List Da → Option (List Da)) (ds : List Da) : Option (List Da) := match F ds with
  | some r => if r.length ≤ 16777216 then some r else none
  | none => none
theorem lsG_some {F : List Da → Option (List Da)} {ds r : List Da} (h : lsG F ds = some r) : F ds = some r ∧ r.length ≤ 16777216 := by
  unfold lsG at h
  split at h
  · rename_i r' e
    split at h
    · rename_i hl
      cases h
      exact ⟨e, hl⟩
    · cases h
  · cases h
theorem lsG_le (F : List Da → Option (List Da)) : ∀ ds r, lsG F ds = some r → r.length ≤ 16777216 := fun _ _ h => (lsG_some h).2
theorem lsG_fo {P : Program} {w : World} {K : PySem.W.Frag} {mg : Str → Option Value} {base : Heap} {k : Nat} {f : Addr} {ps : List Str} {F : List Da → Option (List Da)} (h : FoL P w K mg base k f ps F) : FoL P w K mg base k f ps (lsG F) := by
  obtain ⟨⟨fd, F0, hb⟩, kp⟩ := h
  exact ⟨⟨fd, F0.imp fun vs H Q E ⟨G, ds, es, g, r, e, q⟩ => ⟨G, ds, es, g, r, (lsG_some e).1, q⟩, hb⟩, kp⟩
end Vl
/-! the value layer: Line.__init__ -/
namespace Vl
open PySem PySem.Spec PyProof.Rows L2
def manyD : Da → Option Bool
  | .ins c gs => if gs.lookup ("many" : Str) = none then (if c = "Names" then some true else if c = "Marks" then some false else none) else none
  | _ => none
def squeeze : List Da → List Da → Option (List Da)
  | acc, [] => some acc
  | acc, d :: ds => match manyD d with
    | none => none
    | some false => if acc.length < 16777216 then squeeze (acc ++ [d]) ds else none
    | some true => match acc.getLast? with
      | none => none
      | some e => match manyD e with
        | none => none
        | some true => squeeze acc ds
        | some false => if acc.length < 16777216 then squeeze (acc ++ [d]) ds else none
def iLine : List Da → Option (List (Str × Da))
  | [lets, .lst (d :: ds), folders] => if ds.length < 16777216 then (squeeze [d] ds).map fun ps => [("lets", lets), ("pieces", .lst ps), ("folders", folders)] else none
  | _ => none
/-! a class without __init__, told by the head -/
def newB (c : Str) (K : PySem.W.Frag) : Bool := PySem.W.makesIn K (He.ga K c) && (decide (PySem.W.findIn K (.ref (He.ga K c)) "__init__" = some (some (.builtin "object.__init__"))) && (decide (PySem.W.mroIn K (He.ga K c) (.type "object") = some true) && PySem.W.keepIn K (.ref (He.ga K c))))
theorem newB_ok {c : Str} {K : PySem.W.Frag} (h : newB c K = true) : FoN K c := by
  unfold newB at h
  obtain ⟨h1, h2⟩ := He.ba h
  obtain ⟨h3, h4⟩ := He.ba h2
  obtain ⟨h5, h6⟩ := He.ba h4
  exact ⟨h1, of_decide_eq_true h3, of_decide_eq_true h5, h6⟩
end Vl
namespace Kb
open PySem PySem.Spec PyProof.Rows L2 Vl
def top (i : Nat) : Stmt := PySem.Challenge.pw_keepback_k01_lines.main.body.getD i (.Pass ⟨0, 0, 0, 0⟩)
abbrev s__law_draw : Stmt := top 25
def d__law_draw : He.DefD := ⟨("_law_draw", none), "_law_draw", "_law_draw", defArgs s__law_draw, defBody s__law_draw, defScope s__law_draw, [], []⟩
abbrev s__law_cell_at : Stmt := top 26
def d__law_cell_at : He.DefD := ⟨("_law_cell_at", none), "_law_cell_at", "_law_cell_at", defArgs s__law_cell_at, defBody s__law_cell_at, defScope s__law_cell_at, [], []⟩
abbrev s__law_digits : Stmt := top 27
def d__law_digits : He.DefD := ⟨("_law_digits", none), "_law_digits", "_law_digits", defArgs s__law_digits, defBody s__law_digits, defScope s__law_digits, [], []⟩
abbrev s__law_signs : Stmt := top 28
def d__law_signs : He.DefD := ⟨("_law_signs", none), "_law_signs", "_law_signs", defArgs s__law_signs, defBody s__law_signs, defScope s__law_signs, [], []⟩
abbrev s__law_pool : Stmt := top 29
def d__law_pool : He.DefD := ⟨("_law_pool", none), "_law_pool", "_law_pool", defArgs s__law_pool, defBody s__law_pool, defScope s__law_pool, [], []⟩
abbrev s__law_mark : Stmt := top 30
def d__law_mark : He.DefD := ⟨("_law_mark", none), "_law_mark", "_law_mark", defArgs s__law_mark, defBody s__law_mark, defScope s__law_mark, [], []⟩
abbrev s__law_line : Stmt := top 31
def d__law_line : He.DefD := ⟨("_law_line", none), "_law_line", "_law_line", defArgs s__law_line, defBody s__law_line, defScope s__law_line, [], []⟩
abbrev s__law_mark_plain : Stmt := top 32
def d__law_mark_plain : He.DefD := ⟨("_law_mark_plain", none), "_law_mark_plain", "_law_mark_plain", defArgs s__law_mark_plain, defBody s__law_mark_plain, defScope s__law_mark_plain, [], []⟩
abbrev s__law_piece_plain : Stmt := top 33
def d__law_piece_plain : He.DefD := ⟨("_law_piece_plain", none), "_law_piece_plain", "_law_piece_plain", defArgs s__law_piece_plain, defBody s__law_piece_plain, defScope s__law_piece_plain, [], []⟩
abbrev s__law_plain : Stmt := top 34
def d__law_plain : He.DefD := ⟨("_law_plain", none), "_law_plain", "_law_plain", defArgs s__law_plain, defBody s__law_plain, defScope s__law_plain, [], []⟩
abbrev s__law_mark_other : Stmt := top 35
def d__law_mark_other : He.DefD := ⟨("_law_mark_other", none), "_law_mark_other", "_law_mark_other", defArgs s__law_mark_other, defBody s__law_mark_other, defScope s__law_mark_other, [], []⟩
abbrev s__law_other : Stmt := top 36
def d__law_other : He.DefD := ⟨("_law_other", none), "_law_other", "_law_other", defArgs s__law_other, defBody s__law_other, defScope s__law_other, [], []⟩
abbrev s_told_mark : Stmt := top 12
def d_told_mark : He.DefD := ⟨("told_mark", none), "told_mark", "told_mark", defArgs s_told_mark, defBody s_told_mark, defScope s_told_mark, [], []⟩
abbrev s_Marks_told : Stmt := inClass (top 11) 6
def d_Marks_told : He.DefD := ⟨("Marks", some "told"), "told", "Marks.told", defArgs s_Marks_told, defBody s_Marks_told, defScope s_Marks_told, [], []⟩
abbrev s_Names_told : Stmt := inClass (top 9) 5
def d_Names_told : He.DefD := ⟨("Names", some "told"), "told", "Piece.told", defArgs s_Names_told, defBody s_Names_told, defScope s_Names_told, [], []⟩
abbrev s_Marks_many : Stmt := inClass (top 9) 0
def d_Marks_many : He.DefD := ⟨("Marks", some "many"), "many", "Piece.many", defArgs s_Marks_many, defBody s_Marks_many, defScope s_Marks_many, [], []⟩
abbrev s_Names_many : Stmt := inClass (top 10) 0
def d_Names_many : He.DefD := ⟨("Names", some "many"), "many", "Names.many", defArgs s_Names_many, defBody s_Names_many, defScope s_Names_many, [], []⟩
abbrev s_Line_plain_form : Stmt := inClass (top 13) 7
def d_Line_plain_form : He.DefD := ⟨("Line", some "plain_form"), "plain_form", "Line.plain_form", defArgs s_Line_plain_form, defBody s_Line_plain_form, defScope s_Line_plain_form, [], []⟩
abbrev s_Reader___init__ : Stmt := inClass (top 14) 0
def d_Reader___init__ : He.DefD := ⟨("Reader", some "__init__"), "__init__", "Reader.__init__", defArgs s_Reader___init__, defBody s_Reader___init__, defScope s_Reader___init__, [], []⟩
abbrev s_Reader_here : Stmt := inClass (top 14) 1
def d_Reader_here : He.DefD := ⟨("Reader", some "here"), "here", "Reader.here", defArgs s_Reader_here, defBody s_Reader_here, defScope s_Reader_here, [], []⟩
abbrev s_Reader_take : Stmt := inClass (top 14) 2
def d_Reader_take : He.DefD := ⟨("Reader", some "take"), "take", "Reader.take", defArgs s_Reader_take, defBody s_Reader_take, defScope s_Reader_take, [], []⟩
abbrev s_Reader_one_of : Stmt := inClass (top 14) 3
def d_Reader_one_of : He.DefD := ⟨("Reader", some "one_of"), "one_of", "Reader.one_of", defArgs s_Reader_one_of, defBody s_Reader_one_of, defScope s_Reader_one_of, [], []⟩
abbrev s_brackets_of : Stmt := top 15
def d_brackets_of : He.DefD := ⟨("brackets_of", none), "brackets_of", "brackets_of", defArgs s_brackets_of, defBody s_brackets_of, defScope s_brackets_of, [], []⟩
abbrev s_mark_of : Stmt := top 16
def d_mark_of : He.DefD := ⟨("mark_of", none), "mark_of", "mark_of", defArgs s_mark_of, defBody s_mark_of, defScope s_mark_of, [], []⟩
abbrev s_piece_of : Stmt := top 17
def d_piece_of : He.DefD := ⟨("piece_of", none), "piece_of", "piece_of", defArgs s_piece_of, defBody s_piece_of, defScope s_piece_of, [], []⟩
abbrev s_line_of : Stmt := top 18
def d_line_of : He.DefD := ⟨("line_of", none), "line_of", "line_of", defArgs s_line_of, defBody s_line_of, defScope s_line_of, [], []⟩
abbrev s_line_at : Stmt := top 19
def d_line_at : He.DefD := ⟨("line_at", none), "line_at", "line_at", defArgs s_line_at, defBody s_line_at, defScope s_line_at, [], []⟩
abbrev s_lines_of : Stmt := top 20
def d_lines_of : He.DefD := ⟨("lines_of", none), "lines_of", "lines_of", defArgs s_lines_of, defBody s_lines_of, defScope s_lines_of, [], []⟩
abbrev s_plain : Stmt := top 21
def d_plain : He.DefD := ⟨("plain", none), "plain", "plain", defArgs s_plain, defBody s_plain, defScope s_plain, [], []⟩
abbrev s_read : Stmt := top 22
def d_read : He.DefD := ⟨("read", none), "read", "read", defArgs s_read, defBody s_read, defScope s_read, [], []⟩
abbrev s_written : Stmt := top 23
def d_written : He.DefD := ⟨("written", none), "written", "written", defArgs s_written, defBody s_written, defScope s_written, [], []⟩
abbrev s_Marks___init__ : Stmt := inClass (top 11) 0
def d_Marks___init__ : He.DefD := ⟨("Marks", some "__init__"), "__init__", "Marks.__init__", defArgs s_Marks___init__, defBody s_Marks___init__, defScope s_Marks___init__, [], []⟩
abbrev s__law_texts_right : Stmt := top 37
def d__law_texts_right : He.DefD := ⟨("_law_texts_right", none), "_law_texts_right", "_law_texts_right", defArgs s__law_texts_right, defBody s__law_texts_right, defScope s__law_texts_right, [], []⟩
abbrev s_law : Stmt := top 38
def d_law : He.DefD := ⟨("law", none), "law", "law", defArgs s_law, defBody s_law, defScope s_law, [], []⟩
abbrev s_Line___init__ : Stmt := inClass (top 13) 0
def d_Line___init__ : He.DefD := ⟨("Line", some "__init__"), "__init__", "Line.__init__", defArgs s_Line___init__, defBody s_Line___init__, defScope s_Line___init__, [], []⟩
abbrev c_SIGNS : List Nat := [46, 97, 98, 99, 100, 101, 102, 103, 104, 105, 106, 107, 108, 109, 110, 111, 112, 113, 114, 115, 116, 117, 118, 119, 120, 121, 122]
abbrev c_STAR : List Nat := [42]
structure Tx (K : PySem.W.Frag) (mg : Str → Option Value) : Prop where
  d__law_draw : ∃ fd, FunD K "_law_draw" "_law_draw" (defArgs s__law_draw) (defBody s__law_draw) (defScope s__law_draw) [] [] (He.ga K "_law_draw") fd
  d__law_cell_at : ∃ fd, FunD K "_law_cell_at" "_law_cell_at" (defArgs s__law_cell_at) (defBody s__law_cell_at) (defScope s__law_cell_at) [] [] (He.ga K "_law_cell_at") fd
  d__law_digits : ∃ fd, FunD K "_law_digits" "_law_digits" (defArgs s__law_digits) (defBody s__law_digits) (defScope s__law_digits) [] [] (He.ga K "_law_digits") fd
  d__law_signs : ∃ fd, FunD K "_law_signs" "_law_signs" (defArgs s__law_signs) (defBody s__law_signs) (defScope s__law_signs) [] [] (He.ga K "_law_signs") fd
  d__law_pool : ∃ fd, FunD K "_law_pool" "_law_pool" (defArgs s__law_pool) (defBody s__law_pool) (defScope s__law_pool) [] [] (He.ga K "_law_pool") fd
  d__law_mark : ∃ fd, FunD K "_law_mark" "_law_mark" (defArgs s__law_mark) (defBody s__law_mark) (defScope s__law_mark) [] [] (He.ga K "_law_mark") fd
  d__law_line : ∃ fd, FunD K "_law_line" "_law_line" (defArgs s__law_line) (defBody s__law_line) (defScope s__law_line) [] [] (He.ga K "_law_line") fd
  d__law_mark_plain : ∃ fd, FunD K "_law_mark_plain" "_law_mark_plain" (defArgs s__law_mark_plain) (defBody s__law_mark_plain) (defScope s__law_mark_plain) [] [] (He.ga K "_law_mark_plain") fd
  d__law_piece_plain : ∃ fd, FunD K "_law_piece_plain" "_law_piece_plain" (defArgs s__law_piece_plain) (defBody s__law_piece_plain) (defScope s__law_piece_plain) [] [] (He.ga K "_law_piece_plain") fd
  d__law_plain : ∃ fd, FunD K "_law_plain" "_law_plain" (defArgs s__law_plain) (defBody s__law_plain) (defScope s__law_plain) [] [] (He.ga K "_law_plain") fd
  d__law_mark_other : ∃ fd, FunD K "_law_mark_other" "_law_mark_other" (defArgs s__law_mark_other) (defBody s__law_mark_other) (defScope s__law_mark_other) [] [] (He.ga K "_law_mark_other") fd
  d__law_other : ∃ fd, FunD K "_law_other" "_law_other" (defArgs s__law_other) (defBody s__law_other) (defScope s__law_other) [] [] (He.ga K "_law_other") fd
  d_told_mark : ∃ fd, FunD K "told_mark" "told_mark" (defArgs s_told_mark) (defBody s_told_mark) (defScope s_told_mark) [] [] (He.ga K "told_mark") fd
  d_Marks_told : ∃ fd, FunD K "told" "Marks.told" (defArgs s_Marks_told) (defBody s_Marks_told) (defScope s_Marks_told) [] [] (He.ma K (He.ga K "Marks") "told") fd
  d_Names_told : ∃ fd, FunD K "told" "Piece.told" (defArgs s_Names_told) (defBody s_Names_told) (defScope s_Names_told) [] [] (He.ma K (He.ga K "Names") "told") fd
  d_Marks_many : ∃ fd, FunD K "many" "Piece.many" (defArgs s_Marks_many) (defBody s_Marks_many) (defScope s_Marks_many) [] [] (He.ma K (He.ga K "Marks") "many") fd
  d_Names_many : ∃ fd, FunD K "many" "Names.many" (defArgs s_Names_many) (defBody s_Names_many) (defScope s_Names_many) [] [] (He.ma K (He.ga K "Names") "many") fd
  d_Line_plain_form : ∃ fd, FunD K "plain_form" "Line.plain_form" (defArgs s_Line_plain_form) (defBody s_Line_plain_form) (defScope s_Line_plain_form) [] [] (He.ma K (He.ga K "Line") "plain_form") fd
  d_Reader___init__ : ∃ fd, FunD K "__init__" "Reader.__init__" (defArgs s_Reader___init__) (defBody s_Reader___init__) (defScope s_Reader___init__) [] [] (He.ma K (He.ga K "Reader") "__init__") fd
  d_Reader_here : ∃ fd, FunD K "here" "Reader.here" (defArgs s_Reader_here) (defBody s_Reader_here) (defScope s_Reader_here) [] [] (He.ma K (He.ga K "Reader") "here") fd
  d_Reader_take : ∃ fd, FunD K "take" "Reader.take" (defArgs s_Reader_take) (defBody s_Reader_take) (defScope s_Reader_take) [] [] (He.ma K (He.ga K "Reader") "take") fd
  d_Reader_one_of : ∃ fd, FunD K "one_of" "Reader.one_of" (defArgs s_Reader_one_of) (defBody s_Reader_one_of) (defScope s_Reader_one_of) [] [] (He.ma K (He.ga K "Reader") "one_of") fd
  d_brackets_of : ∃ fd, FunD K "brackets_of" "brackets_of" (defArgs s_brackets_of) (defBody s_brackets_of) (defScope s_brackets_of) [] [] (He.ga K "brackets_of") fd
  d_mark_of : ∃ fd, FunD K "mark_of" "mark_of" (defArgs s_mark_of) (defBody s_mark_of) (defScope s_mark_of) [] [] (He.ga K "mark_of") fd
  d_piece_of : ∃ fd, FunD K "piece_of" "piece_of" (defArgs s_piece_of) (defBody s_piece_of) (defScope s_piece_of) [] [] (He.ga K "piece_of") fd
  d_line_of : ∃ fd, FunD K "line_of" "line_of" (defArgs s_line_of) (defBody s_line_of) (defScope s_line_of) [] [] (He.ga K "line_of") fd
  d_line_at : ∃ fd, FunD K "line_at" "line_at" (defArgs s_line_at) (defBody s_line_at) (defScope s_line_at) [] [] (He.ga K "line_at") fd
  d_lines_of : ∃ fd, FunD K "lines_of" "lines_of" (defArgs s_lines_of) (defBody s_lines_of) (defScope s_lines_of) [] [] (He.ga K "lines_of") fd
  d_plain : ∃ fd, FunD K "plain" "plain" (defArgs s_plain) (defBody s_plain) (defScope s_plain) [] [] (He.ga K "plain") fd
  d_read : ∃ fd, FunD K "read" "read" (defArgs s_read) (defBody s_read) (defScope s_read) [] [] (He.ga K "read") fd
  d_written : ∃ fd, FunD K "written" "written" (defArgs s_written) (defBody s_written) (defScope s_written) [] [] (He.ga K "written") fd
  d_Marks___init__ : ∃ fd, FunD K "__init__" "Marks.__init__" (defArgs s_Marks___init__) (defBody s_Marks___init__) (defScope s_Marks___init__) [] [] (He.ma K (He.ga K "Marks") "__init__") fd
  d__law_texts_right : ∃ fd, FunD K "_law_texts_right" "_law_texts_right" (defArgs s__law_texts_right) (defBody s__law_texts_right) (defScope s__law_texts_right) [] [] (He.ga K "_law_texts_right") fd
  d_law : ∃ fd, FunD K "law" "law" (defArgs s_law) (defBody s_law) (defScope s_law) [] [] (He.ga K "law") fd
  d_Line___init__ : ∃ fd, FunD K "__init__" "Line.__init__" (defArgs s_Line___init__) (defBody s_Line___init__) (defScope s_Line___init__) [] [] (He.ma K (He.ga K "Line") "__init__") fd
  cls_Line : Cls K (He.ga K "Line")
  cls_Marks : Cls K (He.ga K "Marks")
  cls_Names : Cls K (He.ga K "Names")
  cls_Reader : Cls K (He.ga K "Reader")
  free_abs : mg "abs" = none
  free_enumerate : mg "enumerate" = none
  free_isinstance : mg "isinstance" = none
  free_len : mg "len" = none
  free_list : mg "list" = none
  free_max : mg "max" = none
  free_min : mg "min" = none
  free_range : mg "range" = none
  free_str : mg "str" = none
  free_sum : mg "sum" = none
  free_zip : mg "zip" = none
  g_Line : mg "Line" = some (.ref (He.ga K "Line"))
  g_Marks : mg "Marks" = some (.ref (He.ga K "Marks"))
  g_Names : mg "Names" = some (.ref (He.ga K "Names"))
  g_Reader : mg "Reader" = some (.ref (He.ga K "Reader"))
  g__law_cell_at : mg "_law_cell_at" = some (.ref (He.ga K "_law_cell_at"))
  g__law_digits : mg "_law_digits" = some (.ref (He.ga K "_law_digits"))
  g__law_draw : mg "_law_draw" = some (.ref (He.ga K "_law_draw"))
  g__law_line : mg "_law_line" = some (.ref (He.ga K "_law_line"))
  g__law_mark : mg "_law_mark" = some (.ref (He.ga K "_law_mark"))
  g__law_mark_other : mg "_law_mark_other" = some (.ref (He.ga K "_law_mark_other"))
  g__law_mark_plain : mg "_law_mark_plain" = some (.ref (He.ga K "_law_mark_plain"))
  g__law_other : mg "_law_other" = some (.ref (He.ga K "_law_other"))
  g__law_piece_plain : mg "_law_piece_plain" = some (.ref (He.ga K "_law_piece_plain"))
  g__law_plain : mg "_law_plain" = some (.ref (He.ga K "_law_plain"))
  g__law_pool : mg "_law_pool" = some (.ref (He.ga K "_law_pool"))
  g__law_signs : mg "_law_signs" = some (.ref (He.ga K "_law_signs"))
  g__law_texts_right : mg "_law_texts_right" = some (.ref (He.ga K "_law_texts_right"))
  g_brackets_of : mg "brackets_of" = some (.ref (He.ga K "brackets_of"))
  g_line_at : mg "line_at" = some (.ref (He.ga K "line_at"))
  g_line_of : mg "line_of" = some (.ref (He.ga K "line_of"))
  g_lines_of : mg "lines_of" = some (.ref (He.ga K "lines_of"))
  g_mark_of : mg "mark_of" = some (.ref (He.ga K "mark_of"))
  g_piece_of : mg "piece_of" = some (.ref (He.ga K "piece_of"))
  g_plain : mg "plain" = some (.ref (He.ga K "plain"))
  g_read : mg "read" = some (.ref (He.ga K "read"))
  g_told_mark : mg "told_mark" = some (.ref (He.ga K "told_mark"))
  g_written : mg "written" = some (.ref (He.ga K "written"))
  mkr_Line : Mk K (He.ga K "Line") (He.ma K (He.ga K "Line") "__init__")
  mkr_Marks : Mk K (He.ga K "Marks") (He.ma K (He.ga K "Marks") "__init__")
  mkr_Reader : Mk K (He.ga K "Reader") (He.ma K (He.ga K "Reader") "__init__")
  mt_Line_plain_form : Meth K (He.ga K "Line") "plain_form" (He.ma K (He.ga K "Line") "plain_form")
  mt_Marks_many : Meth K (He.ga K "Marks") "many" (He.ma K (He.ga K "Marks") "many")
  mt_Marks_told : Meth K (He.ga K "Marks") "told" (He.ma K (He.ga K "Marks") "told")
  mt_Names_many : Meth K (He.ga K "Names") "many" (He.ma K (He.ga K "Names") "many")
  mt_Names_told : Meth K (He.ga K "Names") "told" (He.ma K (He.ga K "Names") "told")
  mt_Reader_here : Meth K (He.ga K "Reader") "here" (He.ma K (He.ga K "Reader") "here")
  mt_Reader_one_of : Meth K (He.ga K "Reader") "one_of" (He.ma K (He.ga K "Reader") "one_of")
  mt_Reader_take : Meth K (He.ga K "Reader") "take" (He.ma K (He.ga K "Reader") "take")
  na_Line_folders : NoAttr K (He.ga K "Line") "folders"
  na_Line_lets : NoAttr K (He.ga K "Line") "lets"
  na_Line_pieces : NoAttr K (He.ga K "Line") "pieces"
  na_Marks_marks : NoAttr K (He.ga K "Marks") "marks"
  na_Reader_place : NoAttr K (He.ga K "Reader") "place"
  na_Reader_whole : NoAttr K (He.ga K "Reader") "whole"
  new_Names : FoN K "Names"
  s_SIGNS : ∃ t, mg "SIGNS" = some (.str ".abcdefghijklmnopqrstuvwxyz" t)
  s_STAR : ∃ t, mg "STAR" = some (.str "*" t)
section
variable {P : Program} {w : World} {K : PySem.W.Frag} {mg : Str → Option Value} {base : Heap}
abbrev n__law_draw : List Str := ["_law_cell", "_law_k", "_law_many", "_law_primes"]
theorem sc__law_draw : FnScope n__law_draw ["_law_cell", "_law_k", "_law_many"] (defScope s__law_draw) := ⟨rfl, rfl, rfl, by decide +kernel, rfl, by decide +kernel, by decide +kernel⟩
def b__law_draw : EM Fl := (fSeq (fAsg 3 (fTup (fCons (mP (.int 1000003)) (fCons (mP (.int 1000033)) (fCons (mP (.int 1000037)) (fCons (mP (.int 1000039)) (fCons (mP (.int 1000081)) (fCons (mP (.int 1000099)) (fCons (mP (.int 1000117)) (fCons (mP (.int 1000121)) (fCons (mP (.int 1000133)) (fCons (mP (.int 1000151)) (fCons (mP (.int 1000159)) (fCons (mP (.int 1000171)) (fCons (mP (.int 1000183)) (fCons (mP (.int 1000187)) (fCons (mP (.int 1000193)) (fCons (mP (.int 1000199)) (mP [])))))))))))))))))))
  (fRet (fBin vMod (fD (fBin vMod (fD (fBin vAdd (fD (fBin vMul (fPeek 0) (fD (mP (.int 48271))))) (fD (fBin vMul (fPeek 1) (fD (mP (.int 69621))))))) (fD (fBin vIx (fPeek 3) (fD (fBin vMod (fPeek 1) (fD (mP (.int 16))))))))) (fPeek 2))))
def f__law_draw : List Da → Res := fnRun 3 4 b__law_draw
theorem dv__law_draw (T : Tx K mg) : Dv P w K mg base n__law_draw "_law_draw" s__law_draw (He.ga K "_law_draw") 0 b__law_draw := fun cdv A outer s H E hr =>
  have hN := (sc__law_draw).nd
  (vss_cons (vs_set 3 hN (ve_tup (va_cons ve_int (va_cons ve_int (va_cons ve_int (va_cons ve_int (va_cons ve_int (va_cons ve_int (va_cons ve_int (va_cons ve_int (va_cons ve_int (va_cons ve_int (va_cons ve_int (va_cons ve_int (va_cons ve_int (va_cons ve_int (va_cons ve_int (va_cons ve_int va_nil))))))))))))))))))
  (vss_one (vs_ret (ve_bin opd_mod (vp_of (ve_bin opd_mod (vp_of (ve_bin opd_add (vp_of (ve_bin opd_mul (vp_name 0) (vp_of ve_int))) (vp_of (ve_bin opd_mul (vp_name 1) (vp_of ve_int))))) (vp_of (ve_ix (vp_name 3) (vp_of (ve_bin opd_mod (vp_name 1) (vp_of ve_int))))))) (vp_name 2)))))
theorem fo__law_draw (T : Tx K mg) : FoA P w K mg base 1 (He.ga K "_law_draw") ["_law_cell", "_law_k", "_law_many"] [] f__law_draw := by
  obtain ⟨fd, F⟩ := T.d__law_draw
  exact fo_of F sc__law_draw (F.bindsN fun _ _ _ _ _ _ us hl => match us, hl with | [_, _, _], _ => rfl) (dv__law_draw T)
abbrev n__law_signs : List Str := []
theorem sc__law_signs : FnScope n__law_signs [] (defScope s__law_signs) := ⟨rfl, rfl, rfl, by decide +kernel, rfl, by decide +kernel, by decide +kernel⟩
def b__law_signs : EM Fl := (fRet (mP (.str [46, 97, 98, 99, 100, 101, 102, 103, 104, 105, 106, 107, 108, 109, 110, 111, 112, 113, 114, 115, 116, 117, 118, 119, 120, 121, 122])))
def f__law_signs : List Da → Res := fnRun 0 0 b__law_signs
theorem dv__law_signs (T : Tx K mg) : Dv P w K mg base n__law_signs "_law_signs" s__law_signs (He.ga K "_law_signs") 0 b__law_signs := fun cdv A outer s H E hr =>
  have hN := (sc__law_signs).nd
  (vss_one (vs_ret (ve_str [46, 97, 98, 99, 100, 101, 102, 103, 104, 105, 106, 107, 108, 109, 110, 111, 112, 113, 114, 115, 116, 117, 118, 119, 120, 121, 122])))
theorem fo__law_signs (T : Tx K mg) : FoA P w K mg base 1 (He.ga K "_law_signs") [] [] f__law_signs := by
  obtain ⟨fd, F⟩ := T.d__law_signs
  exact fo_of F sc__law_signs (F.bindsN fun _ _ _ _ _ _ us hl => match us, hl with | [], _ => rfl) (dv__law_signs T)
abbrev n_told_mark : List Str := ["signs", "found", "at", "last"]
theorem sc_told_mark : FnScope n_told_mark ["signs"] (defScope s_told_mark) := ⟨rfl, rfl, rfl, by decide +kernel, rfl, by decide +kernel, by decide +kernel⟩
def p1_told_mark : EM Bool := (fAnd (fBinT (vIn false) (fD (fSl vSlS (fPeek 0) (fInt (fName 2)) (fInt (fBin vAdd (fPeek 3) (fD (mP (.int 2))))))) (fD (mP (.str c_SIGNS)))) (fBinT vLt (fD (fBin vAdd (fPeek 3) (fD (mP (.int 1))))) (fD (fCall vLen (fCons (fPeek 0) (mP []))))))
def p2_told_mark : EM Fl := (fAug 3 vAugAdd (mP (.int 1)))
def p3_told_mark : EM Bool := (fBinT vLt (fPeek 2) (fD (fCall vLen (fCons (fPeek 0) (mP [])))))
def p4_told_mark : EM Fl := (fSeq (fAsg 3 (fName 2))
  (fSeq (whileN p1_told_mark
  p2_told_mark 1000000000)
  (fSeq (fAug 1 vAugAdd (fIf (fBinT vGt (fPeek 3) (fD (fBin vAdd (fPeek 2) (fD (mP (.int 1)))))) (fBin vAdd (fD (fBin vAdd (fD (fBin vIx (fPeek 0) (fPeek 2))) (fD (mP (.str [45]))))) (fD (fBin vIx (fPeek 0) (fPeek 3)))) (fSl vSlS (fPeek 0) (fInt (fName 2)) (fInt (fBin vAdd (fPeek 3) (fD (mP (.int 1))))))))
  (fAsg 2 (fBin vAdd (fPeek 3) (fD (mP (.int 1))))))))
def b_told_mark : EM Fl := (fSeq (fIf (fBinT (vEq false) (fPeek 0) (fD (mP (.str c_SIGNS))))
  (fRet (mP (.str [63])))
  (mP .nx))
  (fSeq (fIf (fBinT (vEq false) (fPeek 0) (fD (mP (.str []))))
  (fRet (mP (.str [91, 33, 46, 45, 122, 93])))
  (mP .nx))
  (fSeq (fIf (fOr (fBinT (vEq false) (fPeek 0) (fD (mP (.str c_STAR)))) (fBinT (vEq false) (fD (fCall vLen (fCons (fPeek 0) (mP [])))) (fD (mP (.int 1)))))
  (fRet (fName 0))
  (mP .nx))
  (fSeq (fTo (stTup 2 (stCons (stN 1) (stCons (stN 2) stNil))) (fTup (fCons (mP (.str [])) (fCons (mP (.int 0)) (mP [])))))
  (fSeq (whileN p3_told_mark
  p4_told_mark 1000000000)
  (fRet (fBin vAdd (fD (fBin vAdd (fD (mP (.str [91]))) (fPeek 1))) (fD (mP (.str [93]))))))))))
def f_told_mark : List Da → Res := fnRun 1 4 b_told_mark
theorem dv_told_mark (T : Tx K mg) : Dv P w K mg base n_told_mark "told_mark" s_told_mark (He.ga K "told_mark") 0 b_told_mark := fun cdv A outer s H E hr =>
  have hN := (sc_told_mark).nd
  (vss_cons (vs_if (vt_cmp (opd_eq hr.units) (vp_name 0) (vp_of (ve_gstr c_SIGNS rfl T.s_SIGNS)) (nomark _))
  (vss_one (vs_ret (ve_str [63])))
  vss_nil)
  (vss_cons (vs_if (vt_cmp (opd_eq hr.units) (vp_name 0) (vp_of (ve_str [])) (nomark _))
  (vss_one (vs_ret (ve_str [91, 33, 46, 45, 122, 93])))
  vss_nil)
  (vss_cons (vs_if (vt_w (vw_or (vt_cmp (opd_eq hr.units) (vp_name 0) (vp_of (ve_gstr c_STAR rfl T.s_STAR)) (nomark _)) (vw_or1 (vt_cmp (opd_eq hr.units) (vp_of (ve_callB cad_len T.free_len (vpa_cons (vp_name 0) vpa_nil))) (vp_of ve_int) (nomark _)))))
  (vss_one (vs_ret (ve_name 0)))
  vss_nil)
  (vss_cons (vs_asg (ve_tup (va_cons (ve_str []) (va_cons ve_int va_nil))) (vg_tup (n := 2) rfl (vgs_cons (vg_name 1 hN) (vgs_cons (vg_name 2 hN) vgs_nil))))
  (vss_cons (vs_while 1000000000 PassesOwn.never (vt_cmp opd_lt (vp_name 2) (vp_of (ve_callB cad_len T.free_len (vpa_cons (vp_name 0) vpa_nil))) (nomark _))
  (vss_cons (vs_set 3 hN (ve_name 2))
  (vss_cons (vs_while 1000000000 PassesOwn.never (vt_w (vw_and (vt_cmp opd_in (vp_of (ve_slS (vp_name 0) (vo_some (ve_name 2)) (vo_some (ve_bin opd_add (vp_name 3) (vp_of ve_int))))) (vp_of (ve_gstr c_SIGNS rfl T.s_SIGNS)) (by rfl)) (vw_and1 (vt_cmp opd_lt (vp_of (ve_bin opd_add (vp_name 3) (vp_of ve_int))) (vp_of (ve_callB cad_len T.free_len (vpa_cons (vp_name 0) vpa_nil))) (nomark _)))))
  (vss_one (vs_aug 3 ppd_add hN ve_int)))
  (vss_cons (vs_aug 1 ppd_add hN (ve_if (vt_cmp opd_gt (vp_name 3) (vp_of (ve_bin opd_add (vp_name 2) (vp_of ve_int))) (nomark _)) (ve_bin opd_add (vp_of (ve_bin opd_add (vp_of (ve_ix (vp_name 0) (vp_name 2))) (vp_of (ve_str [45])))) (vp_of (ve_ix (vp_name 0) (vp_name 3)))) (ve_slS (vp_name 0) (vo_some (ve_name 2)) (vo_some (ve_bin opd_add (vp_name 3) (vp_of ve_int))))))
  (vss_one (vs_set 2 hN (ve_bin opd_add (vp_name 3) (vp_of ve_int))))))))
  (vss_one (vs_ret (ve_bin opd_add (vp_of (ve_bin opd_add (vp_of (ve_str [91])) (vp_name 1))) (vp_of (ve_str [93]))))))))))
theorem fo_told_mark (T : Tx K mg) : FoA P w K mg base 1 (He.ga K "told_mark") ["signs"] [] f_told_mark := by
  obtain ⟨fd, F⟩ := T.d_told_mark
  exact fo_of F sc_told_mark (F.bindsN fun _ _ _ _ _ _ us hl => match us, hl with | [_], _ => rfl) (dv_told_mark T)
abbrev n_Names_told : List Str := ["self"]
theorem sc_Names_told : FnScope n_Names_told ["self"] (defScope s_Names_told) := ⟨rfl, rfl, rfl, by decide +kernel, rfl, by decide +kernel, by decide +kernel⟩
def b_Names_told : EM Fl := (fRet (mP (.str [42, 42])))
def f_Names_told : List Da → Res := fnRun 1 1 b_Names_told
theorem dv_Names_told (T : Tx K mg) : Dv P w K mg base n_Names_told "Piece.told" s_Names_told (He.ma K (He.ga K "Names") "told") 0 b_Names_told := fun cdv A outer s H E hr =>
  have hN := (sc_Names_told).nd
  (vss_one (vs_ret (ve_str [42, 42])))
theorem fo_Names_told (T : Tx K mg) : FoA P w K mg base 1 (He.ma K (He.ga K "Names") "told") ["self"] [] f_Names_told := by
  obtain ⟨fd, F⟩ := T.d_Names_told
  exact fo_of F sc_Names_told (F.bindsN fun _ _ _ _ _ _ us hl => match us, hl with | [_], _ => rfl) (dv_Names_told T)
abbrev n_Marks_many : List Str := ["self"]
theorem sc_Marks_many : FnScope n_Marks_many ["self"] (defScope s_Marks_many) := ⟨rfl, rfl, rfl, by decide +kernel, rfl, by decide +kernel, by decide +kernel⟩
def b_Marks_many : EM Fl := (fRet (mP (.bl false)))
def f_Marks_many : List Da → Res := fnRun 1 1 b_Marks_many
theorem dv_Marks_many (T : Tx K mg) : Dv P w K mg base n_Marks_many "Piece.many" s_Marks_many (He.ma K (He.ga K "Marks") "many") 0 b_Marks_many := fun cdv A outer s H E hr =>
  have hN := (sc_Marks_many).nd
  (vss_one (vs_ret ve_bl))
theorem fo_Marks_many (T : Tx K mg) : FoA P w K mg base 1 (He.ma K (He.ga K "Marks") "many") ["self"] [] f_Marks_many := by
  obtain ⟨fd, F⟩ := T.d_Marks_many
  exact fo_of F sc_Marks_many (F.bindsN fun _ _ _ _ _ _ us hl => match us, hl with | [_], _ => rfl) (dv_Marks_many T)
abbrev n_Names_many : List Str := ["self"]
theorem sc_Names_many : FnScope n_Names_many ["self"] (defScope s_Names_many) := ⟨rfl, rfl, rfl, by decide +kernel, rfl, by decide +kernel, by decide +kernel⟩
def b_Names_many : EM Fl := (fRet (mP (.bl true)))
def f_Names_many : List Da → Res := fnRun 1 1 b_Names_many
theorem dv_Names_many (T : Tx K mg) : Dv P w K mg base n_Names_many "Names.many" s_Names_many (He.ma K (He.ga K "Names") "many") 0 b_Names_many := fun cdv A outer s H E hr =>
  have hN := (sc_Names_many).nd
  (vss_one (vs_ret ve_bl))
theorem fo_Names_many (T : Tx K mg) : FoA P w K mg base 1 (He.ma K (He.ga K "Names") "many") ["self"] [] f_Names_many := by
  obtain ⟨fd, F⟩ := T.d_Names_many
  exact fo_of F sc_Names_many (F.bindsN fun _ _ _ _ _ _ us hl => match us, hl with | [_], _ => rfl) (dv_Names_many T)
abbrev n_Reader___init__ : List Str := ["self", "whole"]
theorem sc_Reader___init__ : FnScope n_Reader___init__ ["self", "whole"] (defScope s_Reader___init__) := ⟨rfl, rfl, rfl, by decide +kernel, rfl, by decide +kernel, by decide +kernel⟩
def b_Reader___init__ : EM Fl := (fSeq (fFldSet "Reader" "whole" 0 (fName 1))
  (fFldSet "Reader" "place" 0 (mP (.int 0))))
def i_Reader : List Da → Option (List (Str × Da)) := inRun 2 2 "Reader" b_Reader___init__
theorem dv_Reader___init__ (T : Tx K mg) : Dv P w K mg base n_Reader___init__ "Reader.__init__" s_Reader___init__ (He.ma K (He.ga K "Reader") "__init__") 0 b_Reader___init__ := fun cdv A outer s H E hr =>
  have hN := (sc_Reader___init__).nd
  (vss_cons (vs_fldO (c := "Reader") 0 T.cls_Reader T.na_Reader_whole (ve_name 1))
  (vss_one (vs_fldO (c := "Reader") 0 T.cls_Reader T.na_Reader_place ve_int)))
theorem fi_Reader (T : Tx K mg) : FoI P w K mg base 1 "Reader" ["self", "whole"] i_Reader := by
  obtain ⟨fd, F⟩ := T.d_Reader___init__
  exact in_of F sc_Reader___init__ (F.bindsN fun _ _ _ _ _ _ us hl => match us, hl with | [_, _], _ => rfl) (by decide) T.mkr_Reader (dv_Reader___init__ T)
abbrev n_Reader_here : List Str := ["self"]
theorem sc_Reader_here : FnScope n_Reader_here ["self"] (defScope s_Reader_here) := ⟨rfl, rfl, rfl, by decide +kernel, rfl, by decide +kernel, by decide +kernel⟩
def b_Reader_here : EM Fl := (fRet (fSl vSlS (fD (fFldO "Reader" "whole" 0)) (fInt (fFldO "Reader" "place" 0)) (fInt (fBin vAdd (fD (fFldO "Reader" "place" 0)) (fD (mP (.int 1)))))))
def f_Reader_here : List (Str × Da) → List Da → Option (Da × List (Str × Da)) := ioRun 1 1 "Reader" b_Reader_here
theorem dv_Reader_here (T : Tx K mg) : Dv P w K mg base n_Reader_here "Reader.here" s_Reader_here (He.ma K (He.ga K "Reader") "here") 0 b_Reader_here := fun cdv A outer s H E hr =>
  have hN := (sc_Reader_here).nd
  (vss_one (vs_ret (ve_slS (vp_of (ve_fldO (c := "Reader") 0 T.cls_Reader T.na_Reader_whole)) (vo_some (ve_fldO (c := "Reader") 0 T.cls_Reader T.na_Reader_place)) (vo_some (ve_bin opd_add (vp_of (ve_fldO (c := "Reader") 0 T.cls_Reader T.na_Reader_place)) (vp_of ve_int))))))
theorem fo_Reader_here (T : Tx K mg) : FoIO P w K mg base 1 (He.ma K (He.ga K "Reader") "here") ["self"] "Reader" f_Reader_here := by
  obtain ⟨fd, F⟩ := T.d_Reader_here
  exact io_of F sc_Reader_here (F.bindsN fun _ _ _ _ _ _ us hl => match us, hl with | [_], _ => rfl) (by decide) (dv_Reader_here T)
abbrev n_Marks___init__ : List Str := ["self", "marks"]
theorem sc_Marks___init__ : FnScope n_Marks___init__ ["self", "marks"] (defScope s_Marks___init__) := ⟨rfl, rfl, rfl, by decide +kernel, rfl, by decide +kernel, by decide +kernel⟩
def b_Marks___init__ : EM Fl := (fFldSet "Marks" "marks" 0 (fName 1))
def i_Marks : List Da → Option (List (Str × Da)) := inRun 2 2 "Marks" b_Marks___init__
theorem dv_Marks___init__ (T : Tx K mg) : Dv P w K mg base n_Marks___init__ "Marks.__init__" s_Marks___init__ (He.ma K (He.ga K "Marks") "__init__") 0 b_Marks___init__ := fun cdv A outer s H E hr =>
  have hN := (sc_Marks___init__).nd
  (vss_one (vs_fldO (c := "Marks") 0 T.cls_Marks T.na_Marks_marks (ve_name 1)))
theorem fi_Marks (T : Tx K mg) : FoI P w K mg base 1 "Marks" ["self", "marks"] i_Marks := by
  obtain ⟨fd, F⟩ := T.d_Marks___init__
  exact in_of F sc_Marks___init__ (F.bindsN fun _ _ _ _ _ _ us hl => match us, hl with | [_, _], _ => rfl) (by decide) T.mkr_Marks (dv_Marks___init__ T)
abbrev n__law_cell_at : List Str := ["_law_script", "_law_k"]
theorem sc__law_cell_at : FnScope n__law_cell_at ["_law_script", "_law_k"] (defScope s__law_cell_at) := ⟨rfl, rfl, rfl, by decide +kernel, rfl, by decide +kernel, by decide +kernel⟩
def b__law_cell_at : EM Fl := (fSeq (fIf (fBinT vLt (fPeek 1) (fD (fCall vLen (fCons (fPeek 0) (mP [])))))
  (fRet (fCall vAbs (fCons (fD (fBin vIx (fPeek 0) (fPeek 1))) (mP []))))
  (mP .nx))
  (fRet (fDef f__law_draw [] (fCons (fBin vAdd (fD (fCall vAbs (fCons (fD (fCall vSum (fCons (fPeek 0) (mP [])))) (mP [])))) (fD (fBin vMul (fD (mP (.int 7919))) (fPeek 1)))) (fCons (fName 1) (fCons (mP (.int 999983)) (mP [])))))))
def f__law_cell_at : List Da → Res := fnRun 2 2 b__law_cell_at
theorem dv__law_cell_at (T : Tx K mg) : Dv P w K mg base n__law_cell_at "_law_cell_at" s__law_cell_at (He.ga K "_law_cell_at") 1 b__law_cell_at := fun cdv A outer s H E hr =>
  have hN := (sc__law_cell_at).nd
  (vss_cons (vs_if (vt_cmp opd_lt (vp_name 1) (vp_of (ve_callB cad_len T.free_len (vpa_cons (vp_name 0) vpa_nil))) (nomark _))
  (vss_one (vs_ret (ve_callB cad_abs T.free_abs (vpa_cons (vp_of (ve_ix (vp_name 0) (vp_name 1))) vpa_nil))))
  vss_nil)
  (vss_one (vs_ret (ve_call (fo__law_draw T) T.g__law_draw (hr.mono (by decide)) (va_cons (ve_bin opd_add (vp_of (ve_callB cad_abs T.free_abs (vpa_cons (vp_of (ve_callB (cad_sum rfl) T.free_sum (vpa_cons (vp_name 0) vpa_nil))) vpa_nil))) (vp_of (ve_bin opd_mul (vp_of ve_int) (vp_name 1)))) (va_cons (ve_name 1) (va_cons ve_int va_nil)))))))
theorem fo__law_cell_at (T : Tx K mg) : FoA P w K mg base 2 (He.ga K "_law_cell_at") ["_law_script", "_law_k"] [] f__law_cell_at := by
  obtain ⟨fd, F⟩ := T.d__law_cell_at
  exact fo_of F sc__law_cell_at (F.bindsN fun _ _ _ _ _ _ us hl => match us, hl with | [_, _], _ => rfl) (dv__law_cell_at T)
abbrev n__law_mark : List Str := ["_law_number", "_law_pool_here", "_law_starred", "_law_kind", "_law_rest", "_law_some", "_law_due", "_law_sign"]
theorem sc__law_mark : FnScope n__law_mark ["_law_number", "_law_pool_here", "_law_starred"] (defScope s__law_mark) := ⟨rfl, rfl, rfl, by decide +kernel, rfl, by decide +kernel, by decide +kernel⟩
def p1__law_mark : EM Bool := (fBinT (vEq false) (fD (fBin (vIn false) (fPeek 7) (fPeek 5))) (fPeek 6))
def p2__law_mark : EM Da := (fName 7)
def b__law_mark : EM Fl := (fSeq (fPar2 3 4 (fCv (fBin vMod (fPeek 0) (fD (mP (.int 6)))) (fCv (fBin vFdiv (fPeek 0) (fD (mP (.int 6)))) (mP []))))
  (fSeq (fIf (fAnd (fBinT (vEq false) (fPeek 3) (fD (mP (.int 0)))) (fNot (fTru (fPeek 2))))
  (fRet (mP (.str [42])))
  (mP .nx))
  (fSeq (fIf (fBinT (vEq false) (fPeek 3) (fD (mP (.int 1))))
  (fRet (fDef f__law_signs [] (mP [])))
  (mP .nx))
  (fSeq (fIf (fOr (fBinT vGt (fPeek 3) (fD (mP (.int 3)))) (fBinT (vEq false) (fPeek 3) (fD (mP (.int 0)))))
  (fRet (fBin vIx (fPeek 1) (fD (fBin vMod (fPeek 4) (fD (mP (.int 4)))))))
  (mP .nx))
  (fSeq (fIf (fBinT (vEq false) (fD (fBin vMod (fPeek 4) (fD (mP (.int 9))))) (fD (mP (.int 4))))
  (fRet (mP (.str [])))
  (mP .nx))
  (fSeq (fAsg 5 (fBin vAdd (fD (fBin vIx (fPeek 1) (fD (fBin vMod (fPeek 4) (fD (mP (.int 4))))))) (fD (fBin vIx (fPeek 1) (fD (fBin vMod (fD (fBin vFdiv (fPeek 4) (fD (mP (.int 4))))) (fD (mP (.int 4)))))))))
  (fSeq (fAug 5 vAugAdd (fBin vIx (fPeek 1) (fD (fBin vMod (fD (fBin vFdiv (fPeek 4) (fD (mP (.int 16))))) (fD (mP (.int 4)))))))
  (fSeq (fAsg 6 (fBin (vEq false) (fPeek 3) (fD (mP (.int 2)))))
  (fRet (fMs sJoin (mP (.str [])) (fCons (fD (fN (fComp [7] (fIt itemsS (fDef f__law_signs [] (mP []))) (stN 7) p1__law_mark p2__law_mark))) (mP []))))))))))))
def f__law_mark : List Da → Res := fnRun 3 8 b__law_mark
theorem dv__law_mark (T : Tx K mg) : Dv P w K mg base n__law_mark "_law_mark" s__law_mark (He.ga K "_law_mark") 1 b__law_mark := fun cdv A outer s H E hr =>
  have hN := (sc__law_mark).nd
  (vss_cons (vs_par2 3 4 rfl hN (vc_v (ve_bin opd_mod (vp_name 0) (vp_of ve_int)) (vc_v (ve_bin opd_fdiv (vp_name 0) (vp_of ve_int)) vc_nil)))
  (vss_cons (vs_if (vt_w (vw_and (vt_cmp (opd_eq hr.units) (vp_name 3) (vp_of ve_int) (nomark _)) (vw_and1 (vt_not (vt_tru (vp_name 2))))))
  (vss_one (vs_ret (ve_str [42])))
  vss_nil)
  (vss_cons (vs_if (vt_cmp (opd_eq hr.units) (vp_name 3) (vp_of ve_int) (nomark _))
  (vss_one (vs_ret (ve_call0 (fo__law_signs T) T.g__law_signs (hr.mono (by decide)))))
  vss_nil)
  (vss_cons (vs_if (vt_w (vw_or (vt_cmp opd_gt (vp_name 3) (vp_of ve_int) (nomark _)) (vw_or1 (vt_cmp (opd_eq hr.units) (vp_name 3) (vp_of ve_int) (nomark _)))))
  (vss_one (vs_ret (ve_ix (vp_name 1) (vp_of (ve_bin opd_mod (vp_name 4) (vp_of ve_int))))))
  vss_nil)
  (vss_cons (vs_if (vt_cmp (opd_eq hr.units) (vp_of (ve_bin opd_mod (vp_name 4) (vp_of ve_int))) (vp_of ve_int) (nomark _))
  (vss_one (vs_ret (ve_str [])))
  vss_nil)
  (vss_cons (vs_set 5 hN (ve_bin opd_add (vp_of (ve_ix (vp_name 1) (vp_of (ve_bin opd_mod (vp_name 4) (vp_of ve_int))))) (vp_of (ve_ix (vp_name 1) (vp_of (ve_bin opd_mod (vp_of (ve_bin opd_fdiv (vp_name 4) (vp_of ve_int))) (vp_of ve_int)))))))
  (vss_cons (vs_aug 5 ppd_add hN (ve_ix (vp_name 1) (vp_of (ve_bin opd_mod (vp_of (ve_bin opd_fdiv (vp_name 4) (vp_of ve_int))) (vp_of ve_int)))))
  (vss_cons (vs_set 6 hN (ve_cmp (opd_eq hr.units) (vp_name 3) (vp_of ve_int) (nomark _)))
  (vss_one (vs_ret (ve_ms PySem.F.slot_str_join PySem.F.type_str_join ms_join (ve_str []) (vpa_cons (vp_of (ve_of_n (vn_comp [("_law_sign", 7)] rfl hN (by decide) (vi_str (ve_call0 (fo__law_signs T) T.g__law_signs (hr.mono (by decide)))) (fun _ _ _ _ _ => (vg_name 7 hN)) (fun _ _ _ _ _ => (vts_one (vt_cmp (opd_eq hr.units) (vp_of (ve_cmp opd_in (vp_name 7) (vp_name 5) (by rfl))) (vp_name 6) (nomark _)))) (fun _ _ _ _ _ => (ve_name 7)) (blkOk_by (N := n__law_mark) (sc := defScope s__law_mark) (by decide +kernel))))) vpa_nil))))))))))))
theorem fo__law_mark (T : Tx K mg) : FoA P w K mg base 2 (He.ga K "_law_mark") ["_law_number", "_law_pool_here", "_law_starred"] [] f__law_mark := by
  obtain ⟨fd, F⟩ := T.d__law_mark
  exact fo_of F sc__law_mark (F.bindsN fun _ _ _ _ _ _ us hl => match us, hl with | [_, _, _], _ => rfl) (dv__law_mark T)
abbrev n__law_mark_plain : List Str := ["_law_signs_here", "_law_found", "_law_run", "_law_sign"]
theorem sc__law_mark_plain : FnScope n__law_mark_plain ["_law_signs_here"] (defScope s__law_mark_plain) := ⟨rfl, rfl, rfl, by decide +kernel, rfl, by decide +kernel, by decide +kernel⟩
def p1__law_mark_plain : EM Fl := (fIf (fAnd (fBinT (vEq true) (fPeek 3) (fD (mP (.str [33])))) (fBinT (vIn false) (fPeek 3) (fPeek 0)))
  (fAug 2 vAugAdd (fName 3))
  (fSeq (fAug 1 vAugAdd (fIf (fBinT vLt (fD (fCall vLen (fCons (fPeek 2) (mP [])))) (fD (mP (.int 3)))) (fName 2) (fBin vAdd (fD (fBin vAdd (fD (fBin vIx (fPeek 2) (fD (mP (.int 0))))) (fD (mP (.str [45]))))) (fD (fBin vIx (fPeek 2) (fD (fNeg (mP (.int 1)))))))))
  (fAsg 2 (mP (.str [])))))
def b__law_mark_plain : EM Fl := (fSeq (fIf (fOr (fBinT (vEq false) (fPeek 0) (fD (mP (.str [42])))) (fBinT (vEq false) (fD (fCall vLen (fCons (fPeek 0) (mP [])))) (fD (mP (.int 1)))))
  (fRet (fName 0))
  (mP .nx))
  (fSeq (fIf (fBinT (vEq false) (fPeek 0) (fD (fDef f__law_signs [] (mP []))))
  (fRet (mP (.str [63])))
  (mP .nx))
  (fSeq (fIf (fBinT (vEq false) (fPeek 0) (fD (mP (.str []))))
  (fRet (mP (.str [91, 33, 46, 45, 122, 93])))
  (mP .nx))
  (fSeq (fTo (stTup 2 (stCons (stN 1) (stCons (stN 2) stNil))) (fTup (fCons (mP (.str [])) (fCons (mP (.str [])) (mP [])))))
  (fSeq (fFor (fIt itemsS (fBin vAdd (fD (fDef f__law_signs [] (mP []))) (fD (mP (.str [33]))))) (stN 3)
  p1__law_mark_plain)
  (fRet (fBin vAdd (fD (fBin vAdd (fD (mP (.str [91]))) (fPeek 1))) (fD (mP (.str [93]))))))))))
def f__law_mark_plain : List Da → Res := fnRun 1 4 b__law_mark_plain
theorem dv__law_mark_plain (T : Tx K mg) : Dv P w K mg base n__law_mark_plain "_law_mark_plain" s__law_mark_plain (He.ga K "_law_mark_plain") 1 b__law_mark_plain := fun cdv A outer s H E hr =>
  have hN := (sc__law_mark_plain).nd
  (vss_cons (vs_if (vt_w (vw_or (vt_cmp (opd_eq hr.units) (vp_name 0) (vp_of (ve_str [42])) (nomark _)) (vw_or1 (vt_cmp (opd_eq hr.units) (vp_of (ve_callB cad_len T.free_len (vpa_cons (vp_name 0) vpa_nil))) (vp_of ve_int) (nomark _)))))
  (vss_one (vs_ret (ve_name 0)))
  vss_nil)
  (vss_cons (vs_if (vt_cmp (opd_eq hr.units) (vp_name 0) (vp_of (ve_call0 (fo__law_signs T) T.g__law_signs (hr.mono (by decide)))) (nomark _))
  (vss_one (vs_ret (ve_str [63])))
  vss_nil)
  (vss_cons (vs_if (vt_cmp (opd_eq hr.units) (vp_name 0) (vp_of (ve_str [])) (nomark _))
  (vss_one (vs_ret (ve_str [91, 33, 46, 45, 122, 93])))
  vss_nil)
  (vss_cons (vs_asg (ve_tup (va_cons (ve_str []) (va_cons (ve_str []) va_nil))) (vg_tup (n := 2) rfl (vgs_cons (vg_name 1 hN) (vgs_cons (vg_name 2 hN) vgs_nil))))
  (vss_cons (vs_for PassesOwn.never rfl (vi_str (ve_bin opd_add (vp_of (ve_call0 (fo__law_signs T) T.g__law_signs (hr.mono (by decide)))) (vp_of (ve_str [33])))) (vg_name 3 hN)
  (vss_one (vs_if (vt_w (vw_and (vt_cmp (opd_ne hr.units) (vp_name 3) (vp_of (ve_str [33])) (nomark _)) (vw_and1 (vt_cmp opd_in (vp_name 3) (vp_name 0) (by rfl)))))
  (vss_one (vs_aug 2 ppd_add hN (ve_name 3)))
  (vss_cons (vs_aug 1 ppd_add hN (ve_if (vt_cmp opd_lt (vp_of (ve_callB cad_len T.free_len (vpa_cons (vp_name 2) vpa_nil))) (vp_of ve_int) (nomark _)) (ve_name 2) (ve_bin opd_add (vp_of (ve_bin opd_add (vp_of (ve_ix (vp_name 2) (vp_of ve_int))) (vp_of (ve_str [45])))) (vp_of (ve_ix (vp_name 2) (vp_of (ve_neg ve_int)))))))
  (vss_one (vs_set 2 hN (ve_str [])))))))
  (vss_one (vs_ret (ve_bin opd_add (vp_of (ve_bin opd_add (vp_of (ve_str [91])) (vp_name 1))) (vp_of (ve_str [93]))))))))))
theorem fo__law_mark_plain (T : Tx K mg) : FoA P w K mg base 2 (He.ga K "_law_mark_plain") ["_law_signs_here"] [] f__law_mark_plain := by
  obtain ⟨fd, F⟩ := T.d__law_mark_plain
  exact fo_of F sc__law_mark_plain (F.bindsN fun _ _ _ _ _ _ us hl => match us, hl with | [_], _ => rfl) (dv__law_mark_plain T)
abbrev n_Marks_told : List Str := ["self", "mark"]
theorem sc_Marks_told : FnScope n_Marks_told ["self"] (defScope s_Marks_told) := ⟨rfl, rfl, rfl, by decide +kernel, rfl, by decide +kernel, by decide +kernel⟩
def p1_Marks_told : EM Da := (fDef f_told_mark [] (fCons (fName 1) (mP [])))
def b_Marks_told : EM Fl := (fRet (fMs sJoin (mP (.str [])) (fCons (fD (fN (fComp [1] (fIt itemsL (fFld "Marks" "marks" (fName 0))) (stN 1) (mP true) p1_Marks_told))) (mP []))))
def f_Marks_told : List Da → Res := fnRun 1 2 b_Marks_told
theorem dv_Marks_told (T : Tx K mg) : Dv P w K mg base n_Marks_told "Marks.told" s_Marks_told (He.ma K (He.ga K "Marks") "told") 1 b_Marks_told := fun cdv A outer s H E hr =>
  have hN := (sc_Marks_told).nd
  (vss_one (vs_ret (ve_ms PySem.F.slot_str_join PySem.F.type_str_join ms_join (ve_str []) (vpa_cons (vp_of (ve_of_n (vn_comp [("mark", 1)] rfl hN (by decide) (vi_list (ve_fld (c := "Marks") T.cls_Marks T.na_Marks_marks (ve_name 0))) (fun _ _ _ _ _ => (vg_name 1 hN)) (fun _ _ _ _ _ => vts_nil) (fun _ _ _ _ _ => (ve_call (fo_told_mark T) T.g_told_mark (hr.mono (by decide)) (va_cons (ve_name 1) va_nil))) (blkOk_by (N := n_Marks_told) (sc := defScope s_Marks_told) (by decide +kernel))))) vpa_nil))))
theorem fo_Marks_told (T : Tx K mg) : FoA P w K mg base 2 (He.ma K (He.ga K "Marks") "told") ["self"] [] f_Marks_told := by
  obtain ⟨fd, F⟩ := T.d_Marks_told
  exact fo_of F sc_Marks_told (F.bindsN fun _ _ _ _ _ _ us hl => match us, hl with | [_], _ => rfl) (dv_Marks_told T)
abbrev n_Reader_take : List Str := ["self", "sign"]
theorem sc_Reader_take : FnScope n_Reader_take ["self", "sign"] (defScope s_Reader_take) := ⟨rfl, rfl, rfl, by decide +kernel, rfl, by decide +kernel, by decide +kernel⟩
def b_Reader_take : EM Fl := (fSeq (fIf (fBinT (vEq true) (fD (fMIO "Reader" "here" f_Reader_here 0 (mP []))) (fPeek 1))
  (fRet (mP (.bl false)))
  (mP .nx))
  (fSeq (fFldAug "Reader" "place" 0 (mP (.int 1)))
  (fRet (mP (.bl true)))))
def f_Reader_take : List (Str × Da) → List Da → Option (Da × List (Str × Da)) := ioRun 2 2 "Reader" b_Reader_take
theorem dv_Reader_take (T : Tx K mg) : Dv P w K mg base n_Reader_take "Reader.take" s_Reader_take (He.ma K (He.ga K "Reader") "take") 1 b_Reader_take := fun cdv A outer s H E hr =>
  have hN := (sc_Reader_take).nd
  (vss_cons (vs_if (vt_cmp (opd_ne hr.units) (vp_of (ve_methIO0 0 T.cls_Reader T.mt_Reader_here (fo_Reader_here T) (hr.mono (by decide)))) (vp_name 1) (nomark _))
  (vss_one (vs_ret ve_bl))
  vss_nil)
  (vss_cons (vs_fldaugO (c := "Reader") 0 T.cls_Reader T.na_Reader_place ve_int)
  (vss_one (vs_ret ve_bl))))
theorem fo_Reader_take (T : Tx K mg) : FoIO P w K mg base 2 (He.ma K (He.ga K "Reader") "take") ["self", "sign"] "Reader" f_Reader_take := by
  obtain ⟨fd, F⟩ := T.d_Reader_take
  exact io_of F sc_Reader_take (F.bindsN fun _ _ _ _ _ _ us hl => match us, hl with | [_, _], _ => rfl) (by decide) (dv_Reader_take T)
abbrev n_Reader_one_of : List Str := ["self", "signs", "sign"]
theorem sc_Reader_one_of : FnScope n_Reader_one_of ["self", "signs"] (defScope s_Reader_one_of) := ⟨rfl, rfl, rfl, by decide +kernel, rfl, by decide +kernel, by decide +kernel⟩
def b_Reader_one_of : EM Fl := (fSeq (fAsg 2 (fMIO "Reader" "here" f_Reader_here 0 (mP [])))
  (fSeq (fIf (fOr (fBinT (vEq false) (fPeek 2) (fD (mP (.str [])))) (fBinT (vIn true) (fPeek 2) (fPeek 1)))
  fStuck
  (mP .nx))
  (fSeq (fFldAug "Reader" "place" 0 (mP (.int 1)))
  (fRet (fName 2)))))
def f_Reader_one_of : List (Str × Da) → List Da → Option (Da × List (Str × Da)) := ioRun 2 3 "Reader" b_Reader_one_of
theorem dv_Reader_one_of (T : Tx K mg) : Dv P w K mg base n_Reader_one_of "Reader.one_of" s_Reader_one_of (He.ma K (He.ga K "Reader") "one_of") 1 b_Reader_one_of := fun cdv A outer s H E hr =>
  have hN := (sc_Reader_one_of).nd
  (vss_cons (vs_set 2 hN (ve_methIO0 0 T.cls_Reader T.mt_Reader_here (fo_Reader_here T) (hr.mono (by decide))))
  (vss_cons (vs_if (vt_w (vw_or (vt_cmp (opd_eq hr.units) (vp_name 2) (vp_of (ve_str [])) (nomark _)) (vw_or1 (vt_cmp opd_notin (vp_name 2) (vp_name 1) (by rfl)))))
  (vss_one vs_never)
  vss_nil)
  (vss_cons (vs_fldaugO (c := "Reader") 0 T.cls_Reader T.na_Reader_place ve_int)
  (vss_one (vs_ret (ve_name 2))))))
theorem fo_Reader_one_of (T : Tx K mg) : FoIO P w K mg base 2 (He.ma K (He.ga K "Reader") "one_of") ["self", "signs"] "Reader" f_Reader_one_of := by
  obtain ⟨fd, F⟩ := T.d_Reader_one_of
  exact io_of F sc_Reader_one_of (F.bindsN fun _ _ _ _ _ _ us hl => match us, hl with | [_, _], _ => rfl) (by decide) (dv_Reader_one_of T)
abbrev n_LI : List Str := ["self", "lets", "pieces", "folders", "piece"]
theorem sc_LI : FnScope n_LI ["self", "lets", "pieces", "folders"] (defScope s_Line___init__) := ⟨rfl, rfl, rfl, by decide +kernel, rfl, by decide +kernel, by decide +kernel⟩
def p_many (fe : EM Da) : EM Da := fAlt (fMeth "Names" "many" f_Names_many [] fe (mP [])) (fMeth "Marks" "many" f_Marks_many [] fe (mP []))
def v_LI : EM (List Da) := fLst (fCons (fBin vIx (fPeek 2) (fD (mP (.int 0)))) (mP []))
def i_LI : EM (List Da) := fIt itemsL (fN (fSl vSlL (fPeek 2) (fInt (mP (.int 1))) (mP none)))
def t_LI : EM Bool := fOr (fNot (fTru (fD (p_many (fName 4))))) (fNot (fTru (fD (p_many (fBin vIx (fD (fFld "Line" "pieces" (fName 0))) (fD (fNeg (mP (.int 1)))))))))
def T_LI (K : PySem.W.Frag) : TS := tSeq (sFld K (tVar 0) (tVar 1) "lets") (tSeq (sFld K (tVar 0) (tVn K Wn v_LI) "pieces") (tSeq (sFld K (tVar 0) (tVar 3) "folders")
  (tFor (tVi K Wn i_LI) (tVg K [4] (stN 4)) (tIfS (tVt K Wn t_LI) (tDrop (tBM K "list" rAppend (tFld K (tVar 0) "pieces") (tCons (tVar 4) tNil))) tNext))))
theorem dv_LI (T : Tx K mg) (cdv : Value) (A : Around) (outer : List PySem.Env) (s : Shared) (H : Hp) (E : XK) (hr : Room 1 (A.deeper (envOfC "Line.__init__" (defScope s_Line___init__) s.heap.objs.size (He.ma K (He.ga K "Line") "__init__") cdv))) :
    PSs (Cxd P w K mg base n_LI "Line.__init__" s_Line___init__ (He.ma K (He.ga K "Line") "__init__") cdv A outer s H E) (defBody s_Line___init__) (T_LI K) :=
  have hN := (sc_LI).nd
  pss_cons (ps_fld (pe_var rfl (Or.inl rfl)) (pe_var rfl (Or.inl rfl)) rfl)
  (pss_cons (ps_fld (pe_var rfl (Or.inl rfl)) (vn_lst (va_cons (ve_ix (vp_name 2) (vp_of ve_int)) va_nil)) rfl)
  (pss_cons (ps_fld (pe_var rfl (Or.inl rfl)) (pe_var rfl (Or.inl rfl)) rfl)
  (pss_one (ps_for PassesOwn.never rfl (vi_list (ve_of_n (vn_slL (vp_name 2) (vo_some ve_int) vo_none))) (vg_name 4 hN)
    (pss_one (ps_if (vt_w (vw_or (vt_not (vt_tru (vp_of (ve_alt (ve_meth0 T.cls_Names T.mt_Names_many (fo_Names_many T) (hr.mono (by decide)) (ve_name 4)) (ve_meth0 T.cls_Marks T.mt_Marks_many (fo_Marks_many T) (hr.mono (by decide)) (ve_name 4)))))) (vw_or1 (vt_not (vt_tru (vp_of (ve_alt (ve_meth0 T.cls_Names T.mt_Names_many (fo_Names_many T) (hr.mono (by decide)) (ve_ix (vp_of (ve_fld (c := "Line") T.cls_Line T.na_Line_pieces (ve_name 0))) (vp_of (ve_neg ve_int)))) (ve_meth0 T.cls_Marks T.mt_Marks_many (fo_Marks_many T) (hr.mono (by decide)) (ve_ix (vp_of (ve_fld (c := "Line") T.cls_Line T.na_Line_pieces (ve_name 0))) (vp_of (ve_neg ve_int)))))))))))
      (pss_one (ps_expr (pe_bm PySem.F.plainAttrs_list PySem.F.slot_list_append PySem.F.type_list_append mt_append (pe_fld (pe_var rfl (Or.inl rfl)) rfl) (pa_cons (pe_var rfl (Or.inl rfl)) pa_nil rfl)))) pss_nil))))))
/-! what the test tells -/
theorem many_of {fe : EM Da} {ρ ρ' : Vl.Env} {d : Da} {b : Bool} (h : fe ρ = .ok d ρ') (hm : manyD d = some b) : p_many fe ρ = .ok (.bl b) ρ' := by
  cases d with
  | ins c gs =>
    unfold manyD at hm
    simp only at hm
    split at hm
    · rename_i hl
      split at hm
      · rename_i hc
        cases hm
        subst hc
        unfold p_many fAlt fMeth
        simp only [mB, h, hl, and_self, if_true, mP]
        rfl
      · split at hm
        · rename_i h1 hc
          cases hm
          subst hc
          unfold p_many fAlt fMeth
          have e1 : ¬ (("Marks" : Str) = "Names") := by decide
          simp only [mB, h, hl, and_true, if_true, if_false, e1, mP]
          rfl
        · cases hm
    · cases hm
  | _ => cases hm
theorem neg1 (ρ : Vl.Env) : fD (fNeg (mP (.int 1))) ρ = .ok (.d (.int (-1))) ρ := id rfl
theorem vIx_last {acc : List Da} {e : Da} (h : acc.getLast? = some e) : vIx (.lst acc) (.int (-1)) = some e := by
  show atI acc (-1) = some e
  rw [List.getLast?_eq_getElem?] at h
  have hl : 0 < acc.length := by
    cases acc with
    | nil => cases h
    | cons x xs => simp
  have hi : ixN acc.length (-1) = some (acc.length - 1) := by
    unfold ixN
    have : ¬ ((0 : Int) ≤ -1) := by decide
    simp only [this, if_false]
    have h1 : -1 + (acc.length : Int) = ((acc.length - 1 : Nat) : Int) := by omega
    have h2 : (acc.length : Int) + -1 = ((acc.length - 1 : Nat) : Int) := by omega
    simp [h1, h2]
    omega
  unfold atI
  rw [hi]
  exact h
theorem not_of {f : EM Da} {ρ ρ' : Vl.Env} {b : Bool} (h : f ρ = .ok (.bl b) ρ') : fNot (fTru (fD f)) ρ = .ok (!b) ρ' := by
  simp only [fNot, fTru, fD, mB, h, mP, mO, look, vTru]
theorem t_LI_ff {ρ : Vl.Env} {d : Da} (h4 : ρ[4]? = some (some (.imm d))) (hm : manyD d = some false) : t_LI ρ = .ok true ρ := by
  have e4 : fName 4 ρ = .ok d ρ := by simp only [fName, h4]
  unfold t_LI
  rw [fOr]
  simp only [mB, not_of (many_of e4 hm), Bool.not_false, if_true, mP]
theorem t_LI_t {ρ : Vl.Env} {d e : Da} {gs : List (Str × Da)} {acc : List Da} {b : Bool} (h4 : ρ[4]? = some (some (.imm d))) (hm : manyD d = some true) (h0 : ρ[0]? = some (some (.imm (.ins "Line" gs)))) (hg : gs.lookup ("pieces" : Str) = some (.lst acc)) (hl : acc.getLast? = some e) (he : manyD e = some b) : t_LI ρ = .ok (!b) ρ := by
  have e4 : fName 4 ρ = .ok d ρ := by simp only [fName, h4]
  have e0 : fName 0 ρ = .ok (.ins "Line" gs) ρ := by simp only [fName, h0]
  have e1 : fFld "Line" "pieces" (fName 0) ρ = .ok (.lst acc) ρ := by simp only [fFld, mB, e0, hg, if_true, mO]
  have e2 : fBin vIx (fD (fFld "Line" "pieces" (fName 0))) (fD (fNeg (mP (.int 1)))) ρ = .ok e ρ := by
    have e3 : fD (fFld "Line" "pieces" (fName 0)) ρ = .ok (.d (.lst acc)) ρ := by simp only [fD, mB, e1, mP]
    simp only [fBin, mB, e3, neg1, look, vIx_last hl, mO]
  unfold t_LI
  rw [fOr]
  simp only [mB, not_of (many_of e4 hm), Bool.not_true, Bool.false_eq_true, if_false, not_of (many_of e2 he)]
/-! heaps -/
theorem cg_write {M : Addr → Prop} {G0 H0 G H : Hp} {l : Addr} {o' : HO} (c : Cg M G0 H0 G H) (hl : M l ∨ H0 l = none) (gl : G l = none) : Cg M G0 H0 G (upd H l o') where
  gg := c.gg
  gh := fun b u q => by
    rw [upd_ne (ne_of_none q gl)]
    exact c.gh b u q
  hh := fun b u nm q => by
    have nb : b ≠ l := fun z => by
      subst z
      rcases hl with h | h
      · exact nm h
      · rw [q] at h; cases h
    rw [upd_ne nb]
    exact c.hh b u nm q
  fr := c.fr
  mg := c.mg
  mh := fun b m => by
    by_cases nb : b = l
    · subst nb
      exact ⟨o', upd_same⟩
    · rw [upd_ne nb]
      exact c.mh b m
theorem cn_gone {G H G1 H1 : Hp} {l : Addr} (c : Cn G H G1 H1) (hl : G l = none) (hh : H l ≠ none) : G1 l = none := by
  cases e : G1 l with
  | none => rfl
  | some u =>
    rcases c.fr l u e with z | z
    · rw [hl] at z; cases z
    · exact absurd z hh
/-- a state of slots that only stand for values -/
theorem stt_imm {G H : Hp} {ρ : Vl.Env} {σ : L2.St} (g : Same G H) (hl : σ.length = ρ.length) (h : ∀ (i : Nat) (c : Ce), ρ[i]? = some (some c) → ∃ v d, σ[i]? = some (some v) ∧ c = .imm d ∧ Rp K G v d) : Stt K ⟨NoM, G, H, fun _ => none⟩ ρ σ G H :=
  ⟨⟨Same.refl _, g, fun _ _ _ h => h, fun _ _ h => .inl h, fun b m => absurd rfl m, fun b m => absurd rfl m⟩, fun b o h => (nomatch h), fun _ _ _ _ _ _ => rfl, hl, fun i c e => by
    obtain ⟨v, d, h1, h2, h3⟩ := h i c e
    subst h2
    exact ⟨v, h1, h3⟩, fun i j c d v hij ei ej oc od si sj => by
    obtain ⟨v, d, h1, h2, h3⟩ := h i c ei
    subst h2
    cases oc⟩

theorem cutD_1 {α : Type} (d : α) (ds : List α) : Vl.cutD (d :: ds) (some 1) none = ds := by
  unfold Vl.cutD
  rw [HT.sIx_none]
  have e : HT.sIx (d :: ds).length 0 (some 1) = min 1 (d :: ds).length := HT.sIx_nat (d :: ds).length 0 1
  rw [e, List.length_cons, Nat.min_eq_left (by omega)]
  simp
def IvLI (K : PySem.W.Frag) (G H G5 : Hp) (p dx l : Addr) (v1 v3 : V) (gs : List Da) (ds : List Da) (i : Nat) (σ : L2.St) (Hc : Hp) : Prop :=
  ∃ Gc vs acc, Same G5 Gc ∧ Cg (fun b => b = p) G H Gc Hc ∧ Gc l = none ∧ Hc p = some (.ins (He.ga K "Line") dx [("lets", v1), ("pieces", .ref l), ("folders", v3)]) ∧ Hc l = some (.lst vs) ∧ RpA K Gc vs acc ∧ squeeze acc (ds.drop i) = some gs ∧ σ.length = 5 ∧ σ[0]? = some (some (.ref p))
theorem iv_loop (T : Tx K mg) {G H G5 : Hp} {p dx l : Addr} {v1 v3 : V} {lets folders : Da} {gs ds : List Da} (hpl : p ≠ l) (hl0 : H l = none) (g5 : Same G G5) (r1 : Rp K G v1 lets) (r3 : Rp K G v3 folders) {i : Nat} (hlt : i < ds.length)
    {Gc G3 Hc H' : Hp} {x : V} {d : Da} {vs : List V} {acc : List Da} {σ : L2.St} {D : Ends} (gc : Same G5 Gc) (cc : Cg (fun b => b = p) G H Gc Hc) (gl : Gc l = none) (hp : Hc p = some (.ins (He.ga K "Line") dx [("lets", v1), ("pieces", .ref l), ("folders", v3)])) (hl : Hc l = some (.lst vs)) (ra : RpA K Gc vs acc) (sq : squeeze acc (ds.drop i) = some gs) (sl : σ.length = 5) (s0 : σ[0]? = some (some (.ref p)))
    (cn : Cn Gc Hc G3 H') (ed : ds[i]? = some d) (rx : Rp K G3 x d) (hD : ∀ σ H, IvLI K G H' G5 p dx l v1 v3 gs ds (i + 1) σ H → True) (hN : ∀ σ' H'', IvLI K G H G5 p dx l v1 v3 gs ds (i + 1) σ' H'' → D.nx σ' H'') :
    tVg K [4] (stN 4) x σ H' (fun σ2 H2 => tIfS (tVt K Wn t_LI) (tDrop (tBM K "list" rAppend (tFld K (tVar 0) "pieces") (tCons (tVar 4) tNil))) tNext D σ2 H2) := by
  have c3 := cc.step cn
  have gl3 : G3 l = none := cn_gone cn gl (by rw [hl]; exact fun z => nomatch z)
  have gp3 : G3 p = none := (c3.mg p rfl).1
  have hp3 := cn.same _ _ hp
  have hl3 := cn.same _ _ hl
  have e0 : ds.drop i = d :: ds.drop (i + 1) := by
    rw [List.drop_eq_getElem_cons hlt]
    congr 1
    exact Option.some.inj ((List.getElem?_eq_getElem hlt).symm.trans ed)
  rw [e0] at sq
  unfold squeeze at sq
  refine ⟨⟨NoM, G3, H', fun _ => none⟩, [none, none, none, none, none], G3, d, [none, none, none, none, some (.imm d)], stt_imm c3.gh sl (fun j c e => ?_), rx, rfl, fun σ2 t2 hl2 hk2 => ?_⟩
  · match j, e with
    | 0, e => cases e
    | 1, e => cases e
    | 2, e => cases e
    | 3, e => cases e
    | 4, e => cases e
    | j + 5, e => cases e
  · have s0' : σ2[0]? = some (some (.ref p)) := by rw [hk2 0 (by decide)]; exact s0
    obtain ⟨v, s4, r4⟩ := t2.sl 4 (.imm d) rfl
    have r4 : Rp K G3 v d := r4
    -- all is let stay for the test
    obtain ⟨fa, fb⟩ := Cn.freeze c3.gh gl3 hl3
    have gp4 : upd G3 l (.lst vs) p = none := by rw [upd_ne hpl]; exact gp3
    obtain ⟨fc, fd⟩ := Cn.freeze fb gp4 hp3
    have sG := fa.trans fc
    have hlG : upd (upd G3 l (.lst vs)) p (.ins (He.ga K "Line") dx [("lets", v1), ("pieces", .ref l), ("folders", v3)]) l = some (.lst vs) := by
      rw [upd_ne (Ne.symm hpl)]
      exact upd_same
    have gG := (g5.trans gc).trans (cn.gg.trans sG)
    have rI : Rp K (upd (upd G3 l (.lst vs)) p (.ins (He.ga K "Line") dx [("lets", v1), ("pieces", .ref l), ("folders", v3)])) (.ref p) (.ins "Line" [("lets", lets), ("pieces", .lst acc), ("folders", folders)]) :=
      .ins upd_same (.cons (r1.mono gG) (.cons (.lst hlG (ra.mono (cn.gg.trans sG))) (.cons (r3.mono gG) .nil)))
    have tt := stt_imm (K := K) (ρ := [some (.imm (.ins "Line" [("lets", lets), ("pieces", .lst acc), ("folders", folders)])), none, none, none, some (.imm d)]) (σ := σ2) fd (by rw [hl2]; exact sl) (fun j c e => by
      match j, e with
      | 0, e => cases e; exact ⟨_, _, s0', rfl, rI⟩
      | 1, e => cases e
      | 2, e => cases e
      | 3, e => cases e
      | 4, e => cases e; exact ⟨_, _, s4, rfl, r4.mono sG⟩
      | j + 5, e => cases e)
    have fin : ∀ b, t_LI [some (.imm (.ins "Line" [("lets", lets), ("pieces", .lst acc), ("folders", folders)])), none, none, none, some (.imm d)] = .ok b [some (.imm (.ins "Line" [("lets", lets), ("pieces", .lst acc), ("folders", folders)])), none, none, none, some (.imm d)] →
        (if b = true then acc.length < 16777216 ∧ squeeze (acc ++ [d]) (ds.drop (i + 1)) = some gs else squeeze acc (ds.drop (i + 1)) = some gs) →
        tIfS (tVt K Wn t_LI) (tDrop (tBM K "list" rAppend (tFld K (tVar 0) "pieces") (tCons (tVar 4) tNil))) tNext D σ2 H' := by
      intro b eb hb
      refine ⟨_, _, _, tt, ?_⟩
      rw [eb]
      intro G4 H4 g4 t4
      have sH : Same H' H4 := (cn_of t4.cg).same
      have cn4 : Cn G3 H' G3 H4 := ⟨Same.refl _, c3.gh.trans sH, fun b o _ h => sH _ _ h, fun _ _ h => .inl h, fun _ m => m.elim, fun _ m => m.elim⟩
      have c4 := c3.step cn4
      have hp4 := sH _ _ hp3
      have hl4 := sH _ _ hl3
      have sl2 : σ2.length = 5 := by rw [hl2]; exact sl
      cases b with
      | false => exact hN σ2 H4 ⟨G3, vs, acc, gc.trans cn.gg, c4, gl3, hp4, hl4, ra.mono cn.gg, hb, sl2, s0'⟩
      | true =>
        obtain ⟨hz, hb⟩ := hb
        refine ⟨_, s0', p, _, dx, _, .ref l, rfl, hp4, T.cls_Line, T.na_Line_pieces, rfl, .inl ⟨rfl, vs, SqL.of hl4⟩, v, s4, l, vs, v, rfl, rfl, hl4, ?_, ?_⟩
        · rw [ra.length, sizeLine_eq]; exact hz
        · refine hN σ2 _ ⟨G3, vs ++ [v], acc ++ [d], gc.trans cn.gg, cg_write c4 (.inr hl0) gl3, gl3, ?_, upd_same, (ra.mono cn.gg).append (.cons r4 .nil), hb, sl2, s0'⟩
          rw [upd_ne hpl]
          exact hp4
    cases em : manyD d with
    | none => rw [em] at sq; cases sq
    | some q =>
      cases q with
      | false =>
        rw [em] at sq
        simp only at sq
        split at sq
        · rename_i hz
          exact fin true (t_LI_ff rfl em) ⟨hz, sq⟩
        · cases sq
      | true =>
        rw [em] at sq
        simp only at sq
        cases el : acc.getLast? with
        | none => rw [el] at sq; cases sq
        | some e =>
          rw [el] at sq
          simp only at sq
          cases ee : manyD e with
          | none => rw [ee] at sq; cases sq
          | some q =>
            have te := t_LI_t (ρ := [some (.imm (.ins "Line" [("lets", lets), ("pieces", .lst acc), ("folders", folders)])), none, none, none, some (.imm d)]) rfl em rfl rfl el ee
            rw [ee] at sq
            cases q with
            | true => exact fin false te sq
            | false =>
              simp only at sq
              split at sq
              · rename_i hz
                exact fin true te ⟨hz, sq⟩
              · cases sq
theorem fi_LI (T : Tx K mg) : FoI P w K mg base 2 "Line" ["self", "lets", "pieces", "folders"] iLine := by
  obtain ⟨fd, F⟩ := T.d_Line___init__
  refine ⟨⟨fd, F.ok sc_LI (fun vs H Q E h => ?_) (fun cdv A outer s H vs Q E hr h => ⟨_, PSs.nox (dv_LI T cdv A outer s H E hr), ?_⟩), F.bindsN fun _ _ _ _ _ _ us hl => match us, hl with | [_, _, _, _], _ => rfl⟩, T.mkr_Line⟩
  · obtain ⟨G, p, dx, us, ds, rfl, g, gp, hp, r, gs, e, _⟩ := h
    unfold iLine at e
    split at e
    · rw [List.length_cons, r.length]; rfl
    · cases e
  · obtain ⟨G, p, dx, us, ds, rfl, g, gp, hp, r, gs, e, hQ⟩ := h
    unfold iLine at e
    split at e
    · rename_i lets d0 ds folders
      split at e
      · rename_i hz
        obtain ⟨ps, e2, e3⟩ := Option.map_eq_some_iff.mp e
        subst e3
        clear e
        match r with
        | .cons (v := v1) r1 (.cons (v := v2) r2 (.cons (v := v3) r3 .nil)) =>
        have c0 : Cg (fun b => b = p) G H G H := ⟨Same.refl _, g, fun _ _ _ h => h, fun _ _ h => .inl h, fun b m => by subst m; exact ⟨gp, _, hp⟩, fun b m => by subst m; exact ⟨_, hp⟩⟩
        refine ⟨v1, rfl, _, rfl, p, _, dx, [], rfl, hp, T.cls_Line, T.na_Line_lets, by decide, ?_⟩
        have c1 := cg_write (o' := .ins (He.ga K "Line") dx (putF "lets" v1 [])) c0 (.inl rfl) gp
        have tt := stt_imm (K := K) (ρ := [none, some (.imm lets), some (.imm (.lst (d0 :: ds))), some (.imm folders), none]) (σ := L2.start n_LI [.ref p, v1, v2, v3]) c1.gh rfl (fun j c e => by
          match j, e with
          | 0, e => cases e
          | 1, e => cases e; exact ⟨_, _, rfl, rfl, r1⟩
          | 2, e => cases e; exact ⟨_, _, rfl, rfl, r2⟩
          | 3, e => cases e; exact ⟨_, _, rfl, rfl, r3⟩
          | 4, e => cases e
          | j + 5, e => cases e)
        refine ⟨_, _, _, tt, ?_⟩
        have ev : v_LI [none, some (.imm lets), some (.imm (.lst (d0 :: ds))), some (.imm folders), none] = .ok [d0] [none, some (.imm lets), some (.imm (.lst (d0 :: ds))), some (.imm folders), none] := by
          have e1 : vIx (.lst (d0 :: ds)) (.int 0) = some d0 := by
            show atI (d0 :: ds) 0 = some d0
            unfold atI
            have : ixN (d0 :: ds).length 0 = some 0 := by
              unfold ixN
              simp
            rw [this]
            rfl
          have e2 : ([] : List Da).length + 1 ≤ 16777216 := by decide
          simp only [v_LI, fLst, fCons, fBin, fPeek, fD, mB, mP, mO, look, List.getElem?_cons_succ, List.getElem?_cons_zero, e1, List.length_cons, e2, if_true]
        rw [ev]
        intro l vs1 G1 H1 g1 nl t1 ra z1
        have cn1 := cn_of t1.cg
        have c2 := c1.step cn1
        have hp1 : H1 p = some (.ins (He.ga K "Line") dx (putF "lets" v1 [])) := cn1.same _ _ upd_same
        have hpl : p ≠ l := fun z => by subst z; rw [nl] at hp1; cases hp1
        have hl0 : H l = none := by
          cases q : H l with
          | none => rfl
          | some u =>
            have := c2.hh l u (fun z => hpl z.symm) q
            rw [nl] at this
            cases this
        have c3 := c2.step (Cn.newM cn1.gh nl (.lst vs1))
        have gp1 : G1 p = none := (c2.mg p rfl).1
        have gl1 : G1 l = none := gnone cn1.gh nl
        refine ⟨_, rfl, p, _, dx, _, rfl, by rw [upd_ne hpl]; exact hp1, T.cls_Line, T.na_Line_pieces, by simp [putF], ?_⟩
        have c4 := cg_write (o' := .ins (He.ga K "Line") dx (putF "pieces" (.ref l) (putF "lets" v1 []))) c3 (.inl rfl) gp1
        have n1 : ¬ (("lets" : Str) = "pieces") := by decide
        have n2 : ¬ (("lets" : Str) = "folders") := by decide
        have n3 : ¬ (("pieces" : Str) = "folders") := by decide
        refine ⟨v3, rfl, _, rfl, p, _, dx, _, rfl, upd_same, T.cls_Line, T.na_Line_folders, by simp only [putF, n1, if_false, List.length_cons, List.length_nil]; decide, ?_⟩
        have c5 := cg_write (o' := .ins (He.ga K "Line") dx (putF "folders" v3 (putF "pieces" (.ref l) (putF "lets" v1 [])))) c4 (.inl rfl) gp1
        have ef : putF "folders" v3 (putF "pieces" (.ref l) (putF "lets" v1 [])) = ([("lets", v1), ("pieces", .ref l), ("folders", v3)] : List (Str × V)) := by
          simp only [putF, n1, n2, n3, if_false]
        rw [ef] at c5 ⊢
        generalize hH : upd (upd (upd H1 l (.lst vs1)) p (.ins (He.ga K "Line") dx (putF "pieces" (.ref l) (putF "lets" v1 [])))) p (.ins (He.ga K "Line") dx [("lets", v1), ("pieces", .ref l), ("folders", v3)]) = H4 at c5 ⊢
        have hp4 : H4 p = some (.ins (He.ga K "Line") dx [("lets", v1), ("pieces", .ref l), ("folders", v3)]) := by rw [← hH]; exact upd_same
        have hl4 : H4 l = some (.lst vs1) := by
          rw [← hH, upd_ne (Ne.symm hpl), upd_ne (Ne.symm hpl)]
          exact upd_same
        clear hH
        have tt4 := stt_imm (K := K) (ρ := [none, some (.imm lets), some (.imm (.lst (d0 :: ds))), some (.imm folders), none]) (σ := L2.start n_LI [.ref p, v1, v2, v3]) c5.gh rfl (fun j c e => by
          match j, e with
          | 0, e => cases e
          | 1, e => cases e; exact ⟨_, _, rfl, rfl, r1.mono c5.gg⟩
          | 2, e => cases e; exact ⟨_, _, rfl, rfl, r2.mono c5.gg⟩
          | 3, e => cases e; exact ⟨_, _, rfl, rfl, r3.mono c5.gg⟩
          | 4, e => cases e
          | j + 5, e => cases e)
        refine ⟨_, _, _, tt4, ?_⟩
        have ei : i_LI [none, some (.imm lets), some (.imm (.lst (d0 :: ds))), some (.imm folders), none] = .ok ds [none, some (.imm lets), some (.imm (.lst (d0 :: ds))), some (.imm folders), none] := by
          have h1 : (d0 :: ds).length ≤ 16777216 := by rw [List.length_cons]; omega
          simp only [i_LI, fIt, fN, fSl, fPeek, fInt, asInt, mB, mP, mO, look, List.getElem?_cons_succ, List.getElem?_cons_zero, vSlL, h1, if_true, cutD_1, itemsL, Option.map_some]
        rw [ei]
        intro J G5 H5 g5 t5 it
        have cn5 : Cn G1 H4 G5 H5 := cn_of t5.cg
        have c6 := c5.step cn5
        have gl5 : G5 l = none := cn_gone cn5 gl1 (by rw [hl4]; exact fun z => nomatch z)
        have hl5 := cn5.same _ _ hl4
        have hp5 := cn5.same _ _ hp4
        refine ⟨fun i m σ Hc => m = ds.length - i ∧ i ≤ ds.length ∧ IvLI K G H G5 p dx l v1 v3 ps ds i σ Hc, ⟨ds.length, by simp, Nat.zero_le _, G5, vs1, [d0], Same.refl _, c6, gl5, hp5, hl5, ra.mono cn5.gg, e2, rfl, rfl⟩, ?_⟩
        rintro i m σ Hc ⟨rfl, hi, Gc, vs, acc, gc, cc, gl, hpc, hlc, rac, sq, sl, s0⟩
        by_cases hlt : i < ds.length
        · refine .inr ⟨it.go Gc Hc i gc cc.gh hlt, fun σ' H' => IvLI K G H G5 p dx l v1 v3 ps ds (i + 1) σ' H', fun σ' H' q => ⟨_, by omega, rfl, hlt, q⟩, fun x H' y => ?_⟩
          obtain ⟨G3, d, cn, ed, rx⟩ := it.yld Gc Hc i x H' hlt gc cc.gh y
          exact iv_loop T hpl hl0 (c5.gg.trans g5) r1 r3 hlt gc cc gl hpc hlc rac sq sl s0 cn ed rx (fun _ _ _ => trivial) (fun σ' H'' q => q)
        · have e : i = ds.length := by omega
          subst e
          rw [List.drop_length] at sq
          cases sq
          refine .inl ⟨it.stop Gc Hc gc cc.gh, ?_⟩
          obtain ⟨fa, fb⟩ := Cn.freeze cc.gh gl hlc
          have cE : Cg (fun b => b = p) G H (upd Gc l (.lst vs)) Hc := ⟨cc.gg.trans fa, fb, cc.hh, fun b o q => by
            by_cases hb : b = l
            · subst hb
              exact .inr hl0
            · rw [upd_ne hb] at q
              exact cc.fr b o q, fun b m => ⟨by subst m; rw [upd_ne hpl]; exact (cc.mg _ rfl).1, (cc.mg b m).2⟩, cc.mh⟩
          have sG := cc.gg.trans fa
          exact hQ _ Hc dx _ cE hpc (.cons (r1.mono sG) (.cons (.lst upd_same (rac.mono fa)) (.cons (r3.mono sG) .nil)))
      · cases e
    · cases e

def i_Line : List Da → Option (List (Str × Da)) := iLine
theorem fi_Line (T : Tx K mg) : FoI P w K mg base 2 "Line" ["self", "lets", "pieces", "folders"] i_Line := fi_LI T
abbrev n__law_digits : List Str := ["_law_script", "_law_at", "_law_many", "_law_base", "_law_cell", "_law_found", "_law_left", "_law_turn", "_law_blend", "_law_more"]
theorem sc__law_digits : FnScope n__law_digits ["_law_script", "_law_at", "_law_many", "_law_base"] (defScope s__law_digits) := ⟨rfl, rfl, rfl, by decide +kernel, rfl, by decide +kernel, by decide +kernel⟩
def p1__law_digits : EM Fl := (fIf (fBinT vGe (fPeek 4) (fD (fBin vPow (fD (mP (.int 10))) (fD (mP (.int 18))))))
  (fSeq (fExpr (fApp 5 (fBin vMod (fPeek 6) (fPeek 3))))
  (fAsg 6 (fBin vFdiv (fPeek 6) (fPeek 3))))
  (fSeq (fAsg 8 (fDef f__law_draw [] (fCons (fBin vMul (fD (fBin vAdd (fPeek 4) (fD (fBin vMul (fD (mP (.int 977))) (fPeek 7))))) (fD (fBin vAdd (fD (fBin vAdd (fPeek 4) (fD (fBin vMul (fD (mP (.int 31))) (fPeek 7))))) (fD (mP (.int 5)))))) (fCons (fBin vAdd (fD (fBin vMod (fPeek 7) (fD (mP (.int 9))))) (fD (mP (.int 1)))) (fCons (mP (.int 999983)) (mP []))))))
  (fSeq (fAsg 9 (fDef f__law_draw [] (fCons (fBin vAdd (fD (fBin vMul (fD (fBin vAdd (fPeek 4) (fD (fBin vMul (fD (mP (.int 31))) (fPeek 7))))) (fD (fBin vAdd (fPeek 4) (fD (mP (.int 7))))))) (fD (fBin vMul (fD (mP (.int 977))) (fPeek 7)))) (fCons (fBin vAdd (fD (fBin vMod (fPeek 7) (fD (mP (.int 7))))) (fD (mP (.int 2)))) (fCons (mP (.int 1000003)) (mP []))))))
  (fExpr (fApp 5 (fBin vMod (fD (fBin vAdd (fD (fBin vMul (fPeek 8) (fD (mP (.int 1000003))))) (fPeek 9))) (fPeek 3)))))))
def b__law_digits : EM Fl := (fSeq (fPar2 4 5 (fCv (fDef f__law_cell_at [] (fCons (fName 0) (fCons (fName 1) (mP [])))) (fCn (fLst (mP [])) (mP []))))
  (fSeq (fAsg 6 (fBin vSub (fPeek 4) (fD (fBin vPow (fD (mP (.int 10))) (fD (mP (.int 18)))))))
  (fSeq (fFor (fItA rng1 (fCons (fName 2) (mP []))) (stN 7)
  p1__law_digits)
  (fRet (fName 5)))))
def f__law_digits : List Da → Res := fnRun 4 10 b__law_digits
theorem dv__law_digits (T : Tx K mg) : Dv P w K mg base n__law_digits "_law_digits" s__law_digits (He.ga K "_law_digits") 2 b__law_digits := fun cdv A outer s H E hr =>
  have hN := (sc__law_digits).nd
  (vss_cons (vs_par2 4 5 rfl hN (vc_v (ve_call (fo__law_cell_at T) T.g__law_cell_at (hr.mono (by decide)) (va_cons (ve_name 0) (va_cons (ve_name 1) va_nil))) (vc_n (vn_lst va_nil) vc_nil)))
  (vss_cons (vs_set 6 hN (ve_bin opd_sub (vp_name 4) (vp_of (ve_bin opd_pow (vp_of ve_int) (vp_of ve_int)))))
  (vss_cons (vs_for PassesOwn.never rfl (vi_range1 T.free_range (va_cons (ve_name 2) va_nil)) (vg_name 7 hN)
  (vss_one (vs_if (vt_cmp opd_ge (vp_name 4) (vp_of (ve_bin opd_pow (vp_of ve_int) (vp_of ve_int))) (nomark _))
  (vss_cons (vs_expr (ve_app 5 (ve_bin opd_mod (vp_name 6) (vp_name 3))))
  (vss_one (vs_set 6 hN (ve_bin opd_fdiv (vp_name 6) (vp_name 3)))))
  (vss_cons (vs_set 8 hN (ve_call (fo__law_draw T) T.g__law_draw (hr.mono (by decide)) (va_cons (ve_bin opd_mul (vp_of (ve_bin opd_add (vp_name 4) (vp_of (ve_bin opd_mul (vp_of ve_int) (vp_name 7))))) (vp_of (ve_bin opd_add (vp_of (ve_bin opd_add (vp_name 4) (vp_of (ve_bin opd_mul (vp_of ve_int) (vp_name 7))))) (vp_of ve_int)))) (va_cons (ve_bin opd_add (vp_of (ve_bin opd_mod (vp_name 7) (vp_of ve_int))) (vp_of ve_int)) (va_cons ve_int va_nil)))))
  (vss_cons (vs_set 9 hN (ve_call (fo__law_draw T) T.g__law_draw (hr.mono (by decide)) (va_cons (ve_bin opd_add (vp_of (ve_bin opd_mul (vp_of (ve_bin opd_add (vp_name 4) (vp_of (ve_bin opd_mul (vp_of ve_int) (vp_name 7))))) (vp_of (ve_bin opd_add (vp_name 4) (vp_of ve_int))))) (vp_of (ve_bin opd_mul (vp_of ve_int) (vp_name 7)))) (va_cons (ve_bin opd_add (vp_of (ve_bin opd_mod (vp_name 7) (vp_of ve_int))) (vp_of ve_int)) (va_cons ve_int va_nil)))))
  (vss_one (vs_expr (ve_app 5 (ve_bin opd_mod (vp_of (ve_bin opd_add (vp_of (ve_bin opd_mul (vp_name 8) (vp_of ve_int))) (vp_name 9))) (vp_name 3))))))))))
  (vss_one (vs_ret (ve_name 5))))))
theorem fo__law_digits (T : Tx K mg) : FoA P w K mg base 3 (He.ga K "_law_digits") ["_law_script", "_law_at", "_law_many", "_law_base"] [] f__law_digits := by
  obtain ⟨fd, F⟩ := T.d__law_digits
  exact fo_of F sc__law_digits (F.bindsN fun _ _ _ _ _ _ us hl => match us, hl with | [_, _, _, _], _ => rfl) (dv__law_digits T)
abbrev n__law_piece_plain : List Str := ["_law_piece", "_law_mark_here"]
theorem sc__law_piece_plain : FnScope n__law_piece_plain ["_law_piece"] (defScope s__law_piece_plain) := ⟨rfl, rfl, rfl, by decide +kernel, rfl, by decide +kernel, by decide +kernel⟩
def p1__law_piece_plain : EM Da := (fDef f__law_mark_plain [] (fCons (fName 1) (mP [])))
def b__law_piece_plain : EM Fl := (fRet (fIf (fBinT (vIs false) (fPeek 0) (fD (mP .non))) (mP (.str [42, 42])) (fMs sJoin (mP (.str [])) (fCons (fD (fN (fComp [1] (fIt itemsL (fName 0)) (stN 1) (mP true) p1__law_piece_plain))) (mP [])))))
def f__law_piece_plain : List Da → Res := fnRun 1 2 b__law_piece_plain
theorem dv__law_piece_plain (T : Tx K mg) : Dv P w K mg base n__law_piece_plain "_law_piece_plain" s__law_piece_plain (He.ga K "_law_piece_plain") 2 b__law_piece_plain := fun cdv A outer s H E hr =>
  have hN := (sc__law_piece_plain).nd
  (vss_one (vs_ret (ve_if (vt_cmp opd_is (vp_name 0) (vp_of ve_non) (nomark _)) (ve_str [42, 42]) (ve_ms PySem.F.slot_str_join PySem.F.type_str_join ms_join (ve_str []) (vpa_cons (vp_of (ve_of_n (vn_comp [("_law_mark_here", 1)] rfl hN (by decide) (vi_list (ve_name 0)) (fun _ _ _ _ _ => (vg_name 1 hN)) (fun _ _ _ _ _ => vts_nil) (fun _ _ _ _ _ => (ve_call (fo__law_mark_plain T) T.g__law_mark_plain (hr.mono (by decide)) (va_cons (ve_name 1) va_nil))) (blkOk_by (N := n__law_piece_plain) (sc := defScope s__law_piece_plain) (by decide +kernel))))) vpa_nil)))))
theorem fo__law_piece_plain (T : Tx K mg) : FoA P w K mg base 3 (He.ga K "_law_piece_plain") ["_law_piece"] [] f__law_piece_plain := by
  obtain ⟨fd, F⟩ := T.d__law_piece_plain
  exact fo_of F sc__law_piece_plain (F.bindsN fun _ _ _ _ _ _ us hl => match us, hl with | [_], _ => rfl) (dv__law_piece_plain T)
abbrev n__law_mark_other : List Str := ["_law_signs_here", "_law_number", "_law_less", "_law_sign"]
theorem sc__law_mark_other : FnScope n__law_mark_other ["_law_signs_here", "_law_number"] (defScope s__law_mark_other) := ⟨rfl, rfl, rfl, by decide +kernel, rfl, by decide +kernel, by decide +kernel⟩
def p1__law_mark_other : EM Bool := (fBinT (vIn true) (fPeek 3) (fPeek 0))
def p2__law_mark_other : EM Da := (fName 3)
def p3__law_mark_other : EM Da := (fBin vAdd (fD (fBin vAdd (fPeek 3) (fD (mP (.str [45]))))) (fPeek 3))
def b__law_mark_other : EM Fl := (fSeq (fAsg 2 (fMs sJoin (mP (.str [])) (fCons (fD (fN (fComp [3] (fIt itemsS (fDef f__law_signs [] (mP []))) (stN 3) p1__law_mark_other p2__law_mark_other))) (mP []))))
  (fSeq (fIf (fOr (fBinT (vEq false) (fPeek 0) (fD (mP (.str [42])))) (fBinT (vEq false) (fPeek 0) (fD (mP (.str [])))))
  (fRet (fIf (fBinT (vEq false) (fPeek 0) (fD (mP (.str [42])))) (mP (.str [42])) (fBin vIx (fD (fTup (fCons (mP (.str [91, 33, 46, 45, 122, 93])) (fCons (mP (.str [91, 33, 122, 45, 122, 97, 45, 121, 46, 93])) (fCons (mP (.str [91, 33, 46, 97, 45, 122, 93])) (mP [])))))) (fD (fBin vMod (fPeek 1) (fD (mP (.int 3))))))))
  (mP .nx))
  (fSeq (fIf (fBinT (vEq false) (fD (fBin vMod (fPeek 1) (fD (mP (.int 4))))) (fD (mP (.int 0))))
  (fRet (fBin vAdd (fD (fBin vAdd (fD (fBin vAdd (fD (mP (.str [91]))) (fD (fRev (fPeek 0))))) (fD (fSl vSlS (fPeek 0) (mP none) (fInt (mP (.int 1))))))) (fD (mP (.str [93])))))
  (mP .nx))
  (fSeq (fIf (fBinT (vEq false) (fD (fBin vMod (fPeek 1) (fD (mP (.int 4))))) (fD (mP (.int 1))))
  (fRet (fIf (fBinT (vEq true) (fPeek 2) (fD (mP (.str [])))) (fBin vAdd (fD (fBin vAdd (fD (mP (.str [91, 33]))) (fPeek 2))) (fD (mP (.str [93])))) (mP (.str [91, 46, 45, 122, 93]))))
  (mP .nx))
  (fSeq (fIf (fBinT (vEq false) (fD (fBin vMod (fPeek 1) (fD (mP (.int 4))))) (fD (mP (.int 2))))
  (fRet (fBin vAdd (fD (fBin vAdd (fD (mP (.str [91]))) (fD (fMs sJoin (mP (.str [])) (fCons (fD (fN (fComp [3] (fIt itemsS (fName 0)) (stN 3) (mP true) p3__law_mark_other))) (mP [])))))) (fD (mP (.str [93])))))
  (mP .nx))
  (fRet (fDef f__law_mark_plain [] (fCons (fName 0) (mP [])))))))))
def f__law_mark_other : List Da → Res := fnRun 2 4 b__law_mark_other
theorem dv__law_mark_other (T : Tx K mg) : Dv P w K mg base n__law_mark_other "_law_mark_other" s__law_mark_other (He.ga K "_law_mark_other") 2 b__law_mark_other := fun cdv A outer s H E hr =>
  have hN := (sc__law_mark_other).nd
  (vss_cons (vs_set 2 hN (ve_ms PySem.F.slot_str_join PySem.F.type_str_join ms_join (ve_str []) (vpa_cons (vp_of (ve_of_n (vn_comp [("_law_sign", 3)] rfl hN (by decide) (vi_str (ve_call0 (fo__law_signs T) T.g__law_signs (hr.mono (by decide)))) (fun _ _ _ _ _ => (vg_name 3 hN)) (fun _ _ _ _ _ => (vts_one (vt_cmp opd_notin (vp_name 3) (vp_name 0) (by rfl)))) (fun _ _ _ _ _ => (ve_name 3)) (blkOk_by (N := n__law_mark_other) (sc := defScope s__law_mark_other) (by decide +kernel))))) vpa_nil)))
  (vss_cons (vs_if (vt_w (vw_or (vt_cmp (opd_eq hr.units) (vp_name 0) (vp_of (ve_str [42])) (nomark _)) (vw_or1 (vt_cmp (opd_eq hr.units) (vp_name 0) (vp_of (ve_str [])) (nomark _)))))
  (vss_one (vs_ret (ve_if (vt_cmp (opd_eq hr.units) (vp_name 0) (vp_of (ve_str [42])) (nomark _)) (ve_str [42]) (ve_ix (vp_of (ve_tup (va_cons (ve_str [91, 33, 46, 45, 122, 93]) (va_cons (ve_str [91, 33, 122, 45, 122, 97, 45, 121, 46, 93]) (va_cons (ve_str [91, 33, 46, 97, 45, 122, 93]) va_nil))))) (vp_of (ve_bin opd_mod (vp_name 1) (vp_of ve_int)))))))
  vss_nil)
  (vss_cons (vs_if (vt_cmp (opd_eq hr.units) (vp_of (ve_bin opd_mod (vp_name 1) (vp_of ve_int))) (vp_of ve_int) (nomark _))
  (vss_one (vs_ret (ve_bin opd_add (vp_of (ve_bin opd_add (vp_of (ve_bin opd_add (vp_of (ve_str [91])) (vp_of (ve_revS (vp_name 0))))) (vp_of (ve_slS (vp_name 0) vo_none (vo_some ve_int))))) (vp_of (ve_str [93])))))
  vss_nil)
  (vss_cons (vs_if (vt_cmp (opd_eq hr.units) (vp_of (ve_bin opd_mod (vp_name 1) (vp_of ve_int))) (vp_of ve_int) (nomark _))
  (vss_one (vs_ret (ve_if (vt_cmp (opd_ne hr.units) (vp_name 2) (vp_of (ve_str [])) (nomark _)) (ve_bin opd_add (vp_of (ve_bin opd_add (vp_of (ve_str [91, 33])) (vp_name 2))) (vp_of (ve_str [93]))) (ve_str [91, 46, 45, 122, 93]))))
  vss_nil)
  (vss_cons (vs_if (vt_cmp (opd_eq hr.units) (vp_of (ve_bin opd_mod (vp_name 1) (vp_of ve_int))) (vp_of ve_int) (nomark _))
  (vss_one (vs_ret (ve_bin opd_add (vp_of (ve_bin opd_add (vp_of (ve_str [91])) (vp_of (ve_ms PySem.F.slot_str_join PySem.F.type_str_join ms_join (ve_str []) (vpa_cons (vp_of (ve_of_n (vn_comp [("_law_sign", 3)] rfl hN (by decide) (vi_str (ve_name 0)) (fun _ _ _ _ _ => (vg_name 3 hN)) (fun _ _ _ _ _ => vts_nil) (fun _ _ _ _ _ => (ve_bin opd_add (vp_of (ve_bin opd_add (vp_name 3) (vp_of (ve_str [45])))) (vp_name 3))) (blkOk_by (N := n__law_mark_other) (sc := defScope s__law_mark_other) (by decide +kernel))))) vpa_nil))))) (vp_of (ve_str [93])))))
  vss_nil)
  (vss_one (vs_ret (ve_call (fo__law_mark_plain T) T.g__law_mark_plain (hr.mono (by decide)) (va_cons (ve_name 0) va_nil)))))))))
theorem fo__law_mark_other (T : Tx K mg) : FoA P w K mg base 3 (He.ga K "_law_mark_other") ["_law_signs_here", "_law_number"] [] f__law_mark_other := by
  obtain ⟨fd, F⟩ := T.d__law_mark_other
  exact fo_of F sc__law_mark_other (F.bindsN fun _ _ _ _ _ _ us hl => match us, hl with | [_, _], _ => rfl) (dv__law_mark_other T)
abbrev n_Line_plain_form : List Str := ["self", "told", "piece", "ahead"]
theorem sc_Line_plain_form : FnScope n_Line_plain_form ["self"] (defScope s_Line_plain_form) := ⟨rfl, rfl, rfl, by decide +kernel, rfl, by decide +kernel, by decide +kernel⟩
def p1_Line_plain_form : EM Da := (fAlt (fMeth "Names" "told" f_Names_told [] (fName 2) (mP [])) (fMeth "Marks" "told" f_Marks_told [] (fName 2) (mP [])))
def b_Line_plain_form : EM Fl := (fSeq (fAsg 1 (fMs sJoin (mP (.str [47])) (fCons (fD (fN (fComp [2] (fIt itemsL (fFld "Line" "pieces" (fName 0))) (stN 2) (mP true) p1_Line_plain_form))) (mP []))))
  (fSeq (fAsg 3 (fBin vAdd (fD (fIf (fTru (fD (fFld "Line" "lets" (fName 0)))) (mP (.str [33])) (mP (.str [])))) (fD (fIf (fBinT (vEq false) (fD (fCall vLen (fCons (fD (fFld "Line" "pieces" (fName 0))) (mP [])))) (fD (mP (.int 1)))) (mP (.str [47])) (mP (.str []))))))
  (fRet (fBin vAdd (fD (fBin vAdd (fPeek 3) (fPeek 1))) (fD (fIf (fTru (fD (fFld "Line" "folders" (fName 0)))) (mP (.str [47])) (mP (.str []))))))))
def f_Line_plain_form : List Da → Res := fnRun 1 4 b_Line_plain_form
theorem dv_Line_plain_form (T : Tx K mg) : Dv P w K mg base n_Line_plain_form "Line.plain_form" s_Line_plain_form (He.ma K (He.ga K "Line") "plain_form") 2 b_Line_plain_form := fun cdv A outer s H E hr =>
  have hN := (sc_Line_plain_form).nd
  (vss_cons (vs_set 1 hN (ve_ms PySem.F.slot_str_join PySem.F.type_str_join ms_join (ve_str [47]) (vpa_cons (vp_of (ve_of_n (vn_comp [("piece", 2)] rfl hN (by decide) (vi_list (ve_fld (c := "Line") T.cls_Line T.na_Line_pieces (ve_name 0))) (fun _ _ _ _ _ => (vg_name 2 hN)) (fun _ _ _ _ _ => vts_nil) (fun _ _ _ _ _ => (ve_alt (ve_meth0 T.cls_Names T.mt_Names_told (fo_Names_told T) (hr.mono (by decide)) (ve_name 2)) (ve_meth0 T.cls_Marks T.mt_Marks_told (fo_Marks_told T) (hr.mono (by decide)) (ve_name 2)))) (blkOk_by (N := n_Line_plain_form) (sc := defScope s_Line_plain_form) (by decide +kernel))))) vpa_nil)))
  (vss_cons (vs_set 3 hN (ve_bin opd_add (vp_of (ve_if (vt_tru (vp_of (ve_fld (c := "Line") T.cls_Line T.na_Line_lets (ve_name 0)))) (ve_str [33]) (ve_str []))) (vp_of (ve_if (vt_cmp (opd_eq hr.units) (vp_of (ve_callB cad_len T.free_len (vpa_cons (vp_of (ve_fld (c := "Line") T.cls_Line T.na_Line_pieces (ve_name 0))) vpa_nil))) (vp_of ve_int) (nomark _)) (ve_str [47]) (ve_str [])))))
  (vss_one (vs_ret (ve_bin opd_add (vp_of (ve_bin opd_add (vp_name 3) (vp_name 1))) (vp_of (ve_if (vt_tru (vp_of (ve_fld (c := "Line") T.cls_Line T.na_Line_folders (ve_name 0)))) (ve_str [47]) (ve_str []))))))))
theorem fo_Line_plain_form (T : Tx K mg) : FoA P w K mg base 3 (He.ma K (He.ga K "Line") "plain_form") ["self"] [] f_Line_plain_form := by
  obtain ⟨fd, F⟩ := T.d_Line_plain_form
  exact fo_of F sc_Line_plain_form (F.bindsN fun _ _ _ _ _ _ us hl => match us, hl with | [_], _ => rfl) (dv_Line_plain_form T)
abbrev n_brackets_of : List Str := ["reader", "less", "known", "begun", "one", "at", "last", "sign"]
theorem sc_brackets_of : FnScope n_brackets_of ["reader"] (defScope s_brackets_of) := ⟨rfl, rfl, rfl, by decide +kernel, rfl, by decide +kernel, by decide +kernel⟩
def p1_brackets_of : EM Fl := (fDput 2 (fName 7) (mP (.bl true)))
def p2_brackets_of : EM Bool := (fOr (fNot (fTru (fPeek 3))) (fNot (fTru (fD (fMIO "Reader" "take" f_Reader_take 0 (fCons (mP (.str [93])) (mP [])))))))
def p3_brackets_of : EM Fl := (fSeq (fAsg 3 (mP (.bl true)))
  (fSeq (fAsg 4 (fMIO "Reader" "one_of" f_Reader_one_of 0 (fCons (mP (.str c_SIGNS)) (mP []))))
  (fSeq (fAsg 5 (fMs sIndex (mP (.str c_SIGNS)) (fCons (fPeek 4) (mP []))))
  (fSeq (fAsg 6 (fIf (fTru (fD (fMIO "Reader" "take" f_Reader_take 0 (fCons (mP (.str [45])) (mP []))))) (fMs sIndex (mP (.str c_SIGNS)) (fCons (fD (fMIO "Reader" "one_of" f_Reader_one_of 0 (fCons (fSl vSlS (fD (mP (.str c_SIGNS))) (fInt (fName 5)) (mP none)) (mP [])))) (mP []))) (fName 5)))
  (fFor (fIt itemsS (fSl vSlS (fD (mP (.str c_SIGNS))) (fInt (fName 5)) (fInt (fBin vAdd (fPeek 6) (fD (mP (.int 1))))))) (stN 7)
  p1_brackets_of)))))
def p4_brackets_of : EM Bool := (fBinT (vEq true) (fD (fInD false 2 (fName 7))) (fPeek 1))
def p5_brackets_of : EM Da := (fName 7)
def b_brackets_of : EM Fl := (fSeq (fPar2 1 2 (fCv (fMIO "Reader" "take" f_Reader_take 0 (fCons (mP (.str [33])) (mP []))) (fCd (mP []))))
  (fSeq (fAsg 3 (mP (.bl false)))
  (fSeq (whileN p2_brackets_of
  p3_brackets_of 1000000000)
  (fRet (fMs sJoin (mP (.str [])) (fCons (fD (fN (fComp [7] (fIt itemsS (mP (.str c_SIGNS))) (stN 7) p4_brackets_of p5_brackets_of))) (mP [])))))))
def f_brackets_of : List (Str × Da) → List Da → Option (Da × List (Str × Da)) := ioRun 1 8 "Reader" b_brackets_of
theorem dv_brackets_of (T : Tx K mg) : Dv P w K mg base n_brackets_of "brackets_of" s_brackets_of (He.ga K "brackets_of") 2 b_brackets_of := fun cdv A outer s H E hr =>
  have hN := (sc_brackets_of).nd
  (vss_cons (vs_parT2 1 2 rfl hN (vc_v (ve_methIO 0 T.cls_Reader T.mt_Reader_take (fo_Reader_take T) (hr.mono (by decide)) (va_cons (ve_str [33]) va_nil)) (vc_d vc_nil)) (pgn 1 hN) (pgn 2 hN))
  (vss_cons (vs_set 3 hN ve_bl)
  (vss_cons (vs_while 1000000000 PassesOwn.never (vt_w (vw_or (vt_not (vt_tru (vp_name 3))) (vw_or1 (vt_not (vt_tru (vp_of (ve_methIO 0 T.cls_Reader T.mt_Reader_take (fo_Reader_take T) (hr.mono (by decide)) (va_cons (ve_str [93]) va_nil))))))))
  (vss_cons (vs_set 3 hN ve_bl)
  (vss_cons (vs_set 4 hN (ve_methIO 0 T.cls_Reader T.mt_Reader_one_of (fo_Reader_one_of T) (hr.mono (by decide)) (va_cons (ve_gstr c_SIGNS rfl T.s_SIGNS) va_nil)))
  (vss_cons (vs_set 5 hN (ve_ms PySem.F.slot_str_index PySem.F.type_str_index ms_index (ve_gstr c_SIGNS rfl T.s_SIGNS) (vpa_cons (vp_name 4) vpa_nil)))
  (vss_cons (vs_set 6 hN (ve_if (vt_tru (vp_of (ve_methIO 0 T.cls_Reader T.mt_Reader_take (fo_Reader_take T) (hr.mono (by decide)) (va_cons (ve_str [45]) va_nil)))) (ve_ms PySem.F.slot_str_index PySem.F.type_str_index ms_index (ve_gstr c_SIGNS rfl T.s_SIGNS) (vpa_cons (vp_of (ve_methIO 0 T.cls_Reader T.mt_Reader_one_of (fo_Reader_one_of T) (hr.mono (by decide)) (va_cons (ve_slS (vp_of (ve_gstr c_SIGNS rfl T.s_SIGNS)) (vo_some (ve_name 5)) vo_none) va_nil))) vpa_nil)) (ve_name 5)))
  (vss_one (vs_for PassesOwn.never rfl (vi_str (ve_slS (vp_of (ve_gstr c_SIGNS rfl T.s_SIGNS)) (vo_some (ve_name 5)) (vo_some (ve_bin opd_add (vp_name 6) (vp_of ve_int))))) (vg_name 7 hN)
  (vss_one (vs_dput 2 (hu1 hr.units) (ve_name 7) ve_bl)))))))))
  (vss_one (vs_ret (ve_ms PySem.F.slot_str_join PySem.F.type_str_join ms_join (ve_str []) (vpa_cons (vp_of (ve_of_n (vn_comp [("sign", 7)] rfl hN (by decide) (vi_str (ve_gstr c_SIGNS rfl T.s_SIGNS)) (fun _ _ _ _ _ => (vg_name 7 hN)) (fun _ _ _ _ _ => (vts_one (vt_cmp (opd_ne hr.units) (vp_of (ve_inD 2 (hu1 hr.units) (ve_name 7))) (vp_name 1) (nomark _)))) (fun _ _ _ _ _ => (ve_name 7)) (blkOk_by (N := n_brackets_of) (sc := defScope s_brackets_of) (by decide +kernel))))) vpa_nil)))))))
theorem fo_brackets_of (T : Tx K mg) : FoIO P w K mg base 3 (He.ga K "brackets_of") ["reader"] "Reader" f_brackets_of := by
  obtain ⟨fd, F⟩ := T.d_brackets_of
  exact io_of F sc_brackets_of (F.bindsN fun _ _ _ _ _ _ us hl => match us, hl with | [_], _ => rfl) (by decide) (dv_brackets_of T)
abbrev n__law_pool : List Str := ["_law_script", "_law_at", "_law_one"]
theorem sc__law_pool : FnScope n__law_pool ["_law_script", "_law_at"] (defScope s__law_pool) := ⟨rfl, rfl, rfl, by decide +kernel, rfl, by decide +kernel, by decide +kernel⟩
def p1__law_pool : EM Da := (fBin vIx (fD (fDef f__law_signs [] (mP []))) (fPeek 2))
def b__law_pool : EM Fl := (fRet (fMs sJoin (mP (.str [])) (fCons (fD (fN (fComp [2] (fIt itemsL (fDef f__law_digits [] (fCons (fName 0) (fCons (fName 1) (fCons (mP (.int 4)) (fCons (mP (.int 27)) (mP []))))))) (stN 2) (mP true) p1__law_pool))) (mP []))))
def f__law_pool : List Da → Res := fnRun 2 3 b__law_pool
theorem dv__law_pool (T : Tx K mg) : Dv P w K mg base n__law_pool "_law_pool" s__law_pool (He.ga K "_law_pool") 3 b__law_pool := fun cdv A outer s H E hr =>
  have hN := (sc__law_pool).nd
  (vss_one (vs_ret (ve_ms PySem.F.slot_str_join PySem.F.type_str_join ms_join (ve_str []) (vpa_cons (vp_of (ve_of_n (vn_comp [("_law_one", 2)] rfl hN (by decide) (vi_list (ve_call (fo__law_digits T) T.g__law_digits (hr.mono (by decide)) (va_cons (ve_name 0) (va_cons (ve_name 1) (va_cons ve_int (va_cons ve_int va_nil)))))) (fun _ _ _ _ _ => (vg_name 2 hN)) (fun _ _ _ _ _ => vts_nil) (fun _ _ _ _ _ => (ve_ix (vp_of (ve_call0 (fo__law_signs T) T.g__law_signs (hr.mono (by decide)))) (vp_name 2))) (blkOk_by (N := n__law_pool) (sc := defScope s__law_pool) (by decide +kernel))))) vpa_nil))))
theorem fo__law_pool (T : Tx K mg) : FoA P w K mg base 4 (He.ga K "_law_pool") ["_law_script", "_law_at"] [] f__law_pool := by
  obtain ⟨fd, F⟩ := T.d__law_pool
  exact fo_of F sc__law_pool (F.bindsN fun _ _ _ _ _ _ us hl => match us, hl with | [_, _], _ => rfl) (dv__law_pool T)
abbrev n__law_line : List Str := ["_law_script", "_law_at", "_law_pool_here", "_law_draws", "_law_pieces", "_law_turn", "_law_number", "_law_marks", "_law_more"]
theorem sc__law_line : FnScope n__law_line ["_law_script", "_law_at", "_law_pool_here"] (defScope s__law_line) := ⟨rfl, rfl, rfl, by decide +kernel, rfl, by decide +kernel, by decide +kernel⟩
def p1__law_line : EM Fl := (fExpr (fApp 7 (fDef f__law_mark [] (fCons (fBin vIx (fPeek 3) (fD (fBin vAdd (fD (fBin vAdd (fD (mP (.int 4))) (fD (fBin vMul (fD (mP (.int 2))) (fPeek 5))))) (fPeek 8)))) (fCons (fName 2) (fCons (fBin (vEq false) (fD (fN (fSl vSlL (fPeek 7) (fInt (fNeg (mP (.int 1)))) (mP none)))) (fD (fN (fLst (fCons (mP (.str [42])) (mP [])))))) (mP [])))))))
def p2__law_line : EM Fl := (fSeq (fAsg 6 (fBin vIx (fPeek 3) (fD (fBin vAdd (fD (mP (.int 1))) (fPeek 5)))))
  (fIf (fBinT (vEq false) (fD (fBin vMod (fPeek 6) (fD (mP (.int 5))))) (fD (mP (.int 0))))
  (fIf (fBinT (vEq true) (fD (fN (fSl vSlL (fPeek 4) (fInt (fNeg (mP (.int 1)))) (mP none)))) (fD (fN (fLst (fCons (mP .non) (mP []))))))
  (fExpr (fApp 4 (mP .non)))
  (mP .nx))
  (fSeq (fAsgN 7 (fLst (mP [])))
  (fSeq (fFor (fItA rng1 (fCons (fBin vAdd (fD (mP (.int 1))) (fD (fBin vMod (fD (fBin vFdiv (fPeek 6) (fD (mP (.int 5))))) (fD (mP (.int 3)))))) (mP []))) (stN 8)
  p1__law_line)
  (fExpr (fApp 4 (fName 7)))))))
def b__law_line : EM Fl := (fSeq (fAsg 3 (fDef f__law_digits [] (fCons (fName 0) (fCons (fName 1) (fCons (mP (.int 12)) (fCons (mP (.int 600)) (mP [])))))))
  (fSeq (fAsgN 4 (fLst (mP [])))
  (fSeq (fFor (fItA rng1 (fCons (fBin vAdd (fD (mP (.int 1))) (fD (fBin vMod (fD (fBin vFdiv (fD (fBin vIx (fPeek 3) (fD (mP (.int 0))))) (fD (mP (.int 9))))) (fD (mP (.int 3)))))) (mP []))) (stN 5)
  p2__law_line)
  (fRet (fTup (fCons (fBin (vEq false) (fD (fBin vMod (fD (fBin vIx (fPeek 3) (fD (mP (.int 0))))) (fD (mP (.int 3))))) (fD (mP (.int 0)))) (fCons (fName 4) (fCons (fBin (vEq false) (fD (fBin vMod (fD (fBin vFdiv (fD (fBin vIx (fPeek 3) (fD (mP (.int 0))))) (fD (mP (.int 3))))) (fD (mP (.int 3))))) (fD (mP (.int 0)))) (mP [])))))))))
def f__law_line : List Da → Res := fnRun 3 9 b__law_line
theorem dv__law_line (T : Tx K mg) : Dv P w K mg base n__law_line "_law_line" s__law_line (He.ga K "_law_line") 3 b__law_line := fun cdv A outer s H E hr =>
  have hN := (sc__law_line).nd
  (vss_cons (vs_set 3 hN (ve_call (fo__law_digits T) T.g__law_digits (hr.mono (by decide)) (va_cons (ve_name 0) (va_cons (ve_name 1) (va_cons ve_int (va_cons ve_int va_nil))))))
  (vss_cons (vs_setN 4 hN (vn_lst va_nil))
  (vss_cons (vs_for PassesOwn.never rfl (vi_range1 T.free_range (va_cons (ve_bin opd_add (vp_of ve_int) (vp_of (ve_bin opd_mod (vp_of (ve_bin opd_fdiv (vp_of (ve_ix (vp_name 3) (vp_of ve_int))) (vp_of ve_int))) (vp_of ve_int)))) va_nil)) (vg_name 5 hN)
  (vss_cons (vs_set 6 hN (ve_ix (vp_name 3) (vp_of (ve_bin opd_add (vp_of ve_int) (vp_name 5)))))
  (vss_one (vs_if (vt_cmp (opd_eq hr.units) (vp_of (ve_bin opd_mod (vp_name 6) (vp_of ve_int))) (vp_of ve_int) (nomark _))
  (vss_one (vs_if (vt_cmp (opd_ne hr.units) (vp_of (ve_of_n (vn_slL (vp_name 4) (vo_some (ve_neg ve_int)) vo_none))) (vp_of (ve_of_n (vn_lst (va_cons ve_non va_nil)))) (nomark _))
  (vss_one (vs_expr (ve_app 4 ve_non)))
  vss_nil))
  (vss_cons (vs_setN 7 hN (vn_lst va_nil))
  (vss_cons (vs_for PassesOwn.never rfl (vi_range1 T.free_range (va_cons (ve_bin opd_add (vp_of ve_int) (vp_of (ve_bin opd_mod (vp_of (ve_bin opd_fdiv (vp_name 6) (vp_of ve_int))) (vp_of ve_int)))) va_nil)) (vg_name 8 hN)
  (vss_one (vs_expr (ve_app 7 (ve_call (fo__law_mark T) T.g__law_mark (hr.mono (by decide)) (va_cons (ve_ix (vp_name 3) (vp_of (ve_bin opd_add (vp_of (ve_bin opd_add (vp_of ve_int) (vp_of (ve_bin opd_mul (vp_of ve_int) (vp_name 5))))) (vp_name 8)))) (va_cons (ve_name 2) (va_cons (ve_cmp (opd_eq hr.units) (vp_of (ve_of_n (vn_slL (vp_name 7) (vo_some (ve_neg ve_int)) vo_none))) (vp_of (ve_of_n (vn_lst (va_cons (ve_str [42]) va_nil)))) (nomark _)) va_nil))))))))
  (vss_one (vs_expr (ve_app 4 (ve_name 7))))))))))
  (vss_one (vs_ret (ve_tup (va_cons (ve_cmp (opd_eq hr.units) (vp_of (ve_bin opd_mod (vp_of (ve_ix (vp_name 3) (vp_of ve_int))) (vp_of ve_int))) (vp_of ve_int) (nomark _)) (va_cons (ve_name 4) (va_cons (ve_cmp (opd_eq hr.units) (vp_of (ve_bin opd_mod (vp_of (ve_bin opd_fdiv (vp_of (ve_ix (vp_name 3) (vp_of ve_int))) (vp_of ve_int))) (vp_of ve_int))) (vp_of ve_int) (nomark _)) va_nil)))))))))
theorem fo__law_line (T : Tx K mg) : FoA P w K mg base 4 (He.ga K "_law_line") ["_law_script", "_law_at", "_law_pool_here"] [] f__law_line := by
  obtain ⟨fd, F⟩ := T.d__law_line
  exact fo_of F sc__law_line (F.bindsN fun _ _ _ _ _ _ us hl => match us, hl with | [_, _, _], _ => rfl) (dv__law_line T)
abbrev n__law_plain : List Str := ["_law_line_here", "_law_lets", "_law_pieces", "_law_folders", "_law_told", "_law_piece", "_law_ahead"]
theorem sc__law_plain : FnScope n__law_plain ["_law_line_here"] (defScope s__law_plain) := ⟨rfl, rfl, rfl, by decide +kernel, rfl, by decide +kernel, by decide +kernel⟩
def p1__law_plain : EM Da := (fDef f__law_piece_plain [] (fCons (fName 5) (mP [])))
def b__law_plain : EM Fl := (fSeq (fTo (stTup 3 (stCons (stN 1) (stCons (stN 2) (stCons (stN 3) stNil)))) (fName 0))
  (fSeq (fAsg 4 (fMs sJoin (mP (.str [47])) (fCons (fD (fN (fComp [5] (fIt itemsL (fName 2)) (stN 5) (mP true) p1__law_plain))) (mP []))))
  (fSeq (fAsg 6 (fBin vAdd (fD (fIf (fTru (fPeek 1)) (mP (.str [33])) (mP (.str [])))) (fD (fIf (fBinT (vEq false) (fD (fCall vLen (fCons (fPeek 2) (mP [])))) (fD (mP (.int 1)))) (mP (.str [47])) (mP (.str []))))))
  (fRet (fBin vAdd (fD (fBin vAdd (fPeek 6) (fPeek 4))) (fD (fIf (fTru (fPeek 3)) (mP (.str [47])) (mP (.str [])))))))))
def f__law_plain : List Da → Res := fnRun 1 7 b__law_plain
theorem dv__law_plain (T : Tx K mg) : Dv P w K mg base n__law_plain "_law_plain" s__law_plain (He.ga K "_law_plain") 3 b__law_plain := fun cdv A outer s H E hr =>
  have hN := (sc__law_plain).nd
  (vss_cons (vs_asg (ve_name 0) (vg_tup (n := 3) rfl (vgs_cons (vg_name 1 hN) (vgs_cons (vg_name 2 hN) (vgs_cons (vg_name 3 hN) vgs_nil)))))
  (vss_cons (vs_set 4 hN (ve_ms PySem.F.slot_str_join PySem.F.type_str_join ms_join (ve_str [47]) (vpa_cons (vp_of (ve_of_n (vn_comp [("_law_piece", 5)] rfl hN (by decide) (vi_list (ve_name 2)) (fun _ _ _ _ _ => (vg_name 5 hN)) (fun _ _ _ _ _ => vts_nil) (fun _ _ _ _ _ => (ve_call (fo__law_piece_plain T) T.g__law_piece_plain (hr.mono (by decide)) (va_cons (ve_name 5) va_nil))) (blkOk_by (N := n__law_plain) (sc := defScope s__law_plain) (by decide +kernel))))) vpa_nil)))
  (vss_cons (vs_set 6 hN (ve_bin opd_add (vp_of (ve_if (vt_tru (vp_name 1)) (ve_str [33]) (ve_str []))) (vp_of (ve_if (vt_cmp (opd_eq hr.units) (vp_of (ve_callB cad_len T.free_len (vpa_cons (vp_name 2) vpa_nil))) (vp_of ve_int) (nomark _)) (ve_str [47]) (ve_str [])))))
  (vss_one (vs_ret (ve_bin opd_add (vp_of (ve_bin opd_add (vp_name 6) (vp_name 4))) (vp_of (ve_if (vt_tru (vp_name 3)) (ve_str [47]) (ve_str [])))))))))
theorem fo__law_plain (T : Tx K mg) : FoA P w K mg base 4 (He.ga K "_law_plain") ["_law_line_here"] [] f__law_plain := by
  obtain ⟨fd, F⟩ := T.d__law_plain
  exact fo_of F sc__law_plain (F.bindsN fun _ _ _ _ _ _ us hl => match us, hl with | [_], _ => rfl) (dv__law_plain T)
abbrev n__law_other : List Str := ["_law_line_here", "_law_number", "_law_lets", "_law_pieces", "_law_folders", "_law_told", "_law_turn", "_law_piece", "_law_marks", "_law_at", "_law_mark_here", "_law_text"]
theorem sc__law_other : FnScope n__law_other ["_law_line_here", "_law_number"] (defScope s__law_other) := ⟨rfl, rfl, rfl, by decide +kernel, rfl, by decide +kernel, by decide +kernel⟩
def p1__law_other : EM Da := (fDef f__law_mark_other [] (fCons (fName 10) (fCons (fBin vAdd (fD (fBin vFdiv (fPeek 6) (fD (mP (.int 7))))) (fPeek 9)) (mP []))))
def p2__law_other : EM Fl := (fSeq (fAsg 6 (fBin vAdd (fD (fBin vMul (fPeek 6) (fD (mP (.int 5))))) (fD (mP (.int 1)))))
  (fIf (fBinT (vIs false) (fPeek 7) (fD (mP .non)))
  (fExpr (fExt 5 (fBin vMul (fD (fN (fLst (fCons (mP (.str [42, 42])) (mP []))))) (fD (fBin vAdd (fD (mP (.int 1))) (fD (fBin vMod (fD (fBin vFdiv (fPeek 6) (fD (mP (.int 3))))) (fD (mP (.int 2))))))))))
  (fSeq (fAsgN 8 (fComp [9, 10] (fItA enumOf (fCons (fName 7) (mP []))) (stTup 2 (stCons (stN 9) (stCons (stN 10) stNil))) (mP true) p1__law_other))
  (fExpr (fApp 5 (fMs sJoin (mP (.str [])) (fCons (fPeek 8) (mP []))))))))
def b__law_other : EM Fl := (fSeq (fTo (stTup 3 (stCons (stN 2) (stCons (stN 3) (stCons (stN 4) stNil)))) (fName 0))
  (fSeq (fPar2 5 6 (fCn (fLst (mP [])) (fCv (fName 1) (mP []))))
  (fSeq (fFor (fIt itemsL (fName 3)) (stN 7)
  p2__law_other)
  (fSeq (fIf (fAnd (fBinT (vEq false) (fD (fBin vMod (fPeek 1) (fD (mP (.int 3))))) (fD (mP (.int 0)))) (fAnd (fBinT (vIs false) (fD (fBin vIx (fPeek 3) (fD (mP (.int 0))))) (fD (mP .non))) (fBinT vLt (fD (fCall vLen (fCons (fPeek 3) (mP [])))) (fD (mP (.int 3))))))
  (fAsg 11 (fBin vIx (fPeek 5) (fD (fNeg (mP (.int 1))))))
  (fAsg 11 (fBin vAdd (fD (fIf (fOr (fBinT (vEq false) (fD (fCall vLen (fCons (fPeek 5) (mP [])))) (fD (mP (.int 1)))) (fBinT (vEq false) (fD (fBin vMod (fD (fBin vFdiv (fPeek 1) (fD (mP (.int 3))))) (fD (mP (.int 2))))) (fD (mP (.int 1))))) (mP (.str [47])) (mP (.str [])))) (fD (fMs sJoin (mP (.str [47])) (fCons (fPeek 5) (mP [])))))))
  (fRet (fBin vAdd (fD (fBin vAdd (fD (fIf (fTru (fPeek 2)) (mP (.str [33])) (mP (.str [])))) (fPeek 11))) (fD (fIf (fTru (fPeek 4)) (mP (.str [47])) (mP (.str []))))))))))
def f__law_other : List Da → Res := fnRun 2 12 b__law_other
theorem dv__law_other (T : Tx K mg) : Dv P w K mg base n__law_other "_law_other" s__law_other (He.ga K "_law_other") 3 b__law_other := fun cdv A outer s H E hr =>
  have hN := (sc__law_other).nd
  (vss_cons (vs_asg (ve_name 0) (vg_tup (n := 3) rfl (vgs_cons (vg_name 2 hN) (vgs_cons (vg_name 3 hN) (vgs_cons (vg_name 4 hN) vgs_nil)))))
  (vss_cons (vs_parT2 5 6 rfl hN (vc_n (vn_lst va_nil) (vc_v (ve_name 1) vc_nil)) (pgn 5 hN) (pgn 6 hN))
  (vss_cons (vs_for PassesOwn.never rfl (vi_list (ve_name 3)) (vg_name 7 hN)
  (vss_cons (vs_set 6 hN (ve_bin opd_add (vp_of (ve_bin opd_mul (vp_name 6) (vp_of ve_int))) (vp_of ve_int)))
  (vss_one (vs_if (vt_cmp opd_is (vp_name 7) (vp_of ve_non) (nomark _))
  (vss_one (vs_expr (ve_ext 5 (ve_bin opd_mul (vp_of (ve_of_n (vn_lst (va_cons (ve_str [42, 42]) va_nil)))) (vp_of (ve_bin opd_add (vp_of ve_int) (vp_of (ve_bin opd_mod (vp_of (ve_bin opd_fdiv (vp_name 6) (vp_of ve_int))) (vp_of ve_int)))))))))
  (vss_cons (vs_setC 8 [("_law_at", 9), ("_law_mark_here", 10)] rfl hN (by decide) (vi_enum T.free_enumerate (va_cons (ve_name 7) va_nil)) (fun _ _ _ _ _ => (vg_tup (n := 2) rfl (vgs_cons (vg_name 9 hN) (vgs_cons (vg_name 10 hN) vgs_nil)))) (fun _ _ _ _ _ => vts_nil) (fun _ _ _ _ _ => (ve_call (fo__law_mark_other T) T.g__law_mark_other (hr.mono (by decide)) (va_cons (ve_name 10) (va_cons (ve_bin opd_add (vp_of (ve_bin opd_fdiv (vp_name 6) (vp_of ve_int))) (vp_name 9)) va_nil)))) (blkOk_by (N := n__law_other) (sc := defScope s__law_other) (by decide +kernel)) (sw_true rfl rfl rfl (by decide +kernel)))
  (vss_one (vs_expr (ve_app 5 (ve_ms PySem.F.slot_str_join PySem.F.type_str_join ms_join (ve_str []) (vpa_cons (vp_name 8) vpa_nil))))))))))
  (vss_cons (vs_if (vt_w (vw_and (vt_cmp (opd_eq hr.units) (vp_of (ve_bin opd_mod (vp_name 1) (vp_of ve_int))) (vp_of ve_int) (nomark _)) (vw_and (vt_cmp opd_is (vp_of (ve_ix (vp_name 3) (vp_of ve_int))) (vp_of ve_non) (nomark _)) (vw_and1 (vt_cmp opd_lt (vp_of (ve_callB cad_len T.free_len (vpa_cons (vp_name 3) vpa_nil))) (vp_of ve_int) (nomark _))))))
  (vss_one (vs_set 11 hN (ve_ix (vp_name 5) (vp_of (ve_neg ve_int)))))
  (vss_one (vs_set 11 hN (ve_bin opd_add (vp_of (ve_if (vt_w (vw_or (vt_cmp (opd_eq hr.units) (vp_of (ve_callB cad_len T.free_len (vpa_cons (vp_name 5) vpa_nil))) (vp_of ve_int) (nomark _)) (vw_or1 (vt_cmp (opd_eq hr.units) (vp_of (ve_bin opd_mod (vp_of (ve_bin opd_fdiv (vp_name 1) (vp_of ve_int))) (vp_of ve_int))) (vp_of ve_int) (nomark _))))) (ve_str [47]) (ve_str []))) (vp_of (ve_ms PySem.F.slot_str_join PySem.F.type_str_join ms_join (ve_str [47]) (vpa_cons (vp_name 5) vpa_nil)))))))
  (vss_one (vs_ret (ve_bin opd_add (vp_of (ve_bin opd_add (vp_of (ve_if (vt_tru (vp_name 2)) (ve_str [33]) (ve_str []))) (vp_name 11))) (vp_of (ve_if (vt_tru (vp_name 4)) (ve_str [47]) (ve_str []))))))))))
theorem fo__law_other (T : Tx K mg) : FoA P w K mg base 4 (He.ga K "_law_other") ["_law_line_here", "_law_number"] [] f__law_other := by
  obtain ⟨fd, F⟩ := T.d__law_other
  exact fo_of F sc__law_other (F.bindsN fun _ _ _ _ _ _ us hl => match us, hl with | [_, _], _ => rfl) (dv__law_other T)
abbrev n_mark_of : List Str := ["reader", "starred"]
theorem sc_mark_of : FnScope n_mark_of ["reader", "starred"] (defScope s_mark_of) := ⟨rfl, rfl, rfl, by decide +kernel, rfl, by decide +kernel, by decide +kernel⟩
def b_mark_of : EM Fl := (fSeq (fIf (fAnd (fNot (fTru (fPeek 1))) (fTru (fD (fMIO "Reader" "take" f_Reader_take 0 (fCons (mP (.str c_STAR)) (mP []))))))
  (fRet (mP (.str c_STAR)))
  (mP .nx))
  (fSeq (fIf (fTru (fD (fMIO "Reader" "take" f_Reader_take 0 (fCons (mP (.str [63])) (mP [])))))
  (fRet (mP (.str c_SIGNS)))
  (mP .nx))
  (fSeq (fIf (fTru (fD (fMIO "Reader" "take" f_Reader_take 0 (fCons (mP (.str [91])) (mP [])))))
  (fRet (fIO "Reader" f_brackets_of 0 (mP [])))
  (mP .nx))
  (fRet (fMIO "Reader" "one_of" f_Reader_one_of 0 (fCons (mP (.str c_SIGNS)) (mP [])))))))
def f_mark_of : List (Str × Da) → List Da → Option (Da × List (Str × Da)) := ioRun 2 2 "Reader" b_mark_of
theorem dv_mark_of (T : Tx K mg) : Dv P w K mg base n_mark_of "mark_of" s_mark_of (He.ga K "mark_of") 3 b_mark_of := fun cdv A outer s H E hr =>
  have hN := (sc_mark_of).nd
  (vss_cons (vs_if (vt_w (vw_and (vt_not (vt_tru (vp_name 1))) (vw_and1 (vt_tru (vp_of (ve_methIO 0 T.cls_Reader T.mt_Reader_take (fo_Reader_take T) (hr.mono (by decide)) (va_cons (ve_gstr c_STAR rfl T.s_STAR) va_nil)))))))
  (vss_one (vs_ret (ve_gstr c_STAR rfl T.s_STAR)))
  vss_nil)
  (vss_cons (vs_if (vt_tru (vp_of (ve_methIO 0 T.cls_Reader T.mt_Reader_take (fo_Reader_take T) (hr.mono (by decide)) (va_cons (ve_str [63]) va_nil))))
  (vss_one (vs_ret (ve_gstr c_SIGNS rfl T.s_SIGNS)))
  vss_nil)
  (vss_cons (vs_if (vt_tru (vp_of (ve_methIO 0 T.cls_Reader T.mt_Reader_take (fo_Reader_take T) (hr.mono (by decide)) (va_cons (ve_str [91]) va_nil))))
  (vss_one (vs_ret (ve_callIO 0 (fo_brackets_of T) T.g_brackets_of (hr.mono (by decide)) va_nil)))
  vss_nil)
  (vss_one (vs_ret (ve_methIO 0 T.cls_Reader T.mt_Reader_one_of (fo_Reader_one_of T) (hr.mono (by decide)) (va_cons (ve_gstr c_SIGNS rfl T.s_SIGNS) va_nil)))))))
theorem fo_mark_of (T : Tx K mg) : FoIO P w K mg base 4 (He.ga K "mark_of") ["reader", "starred"] "Reader" f_mark_of := by
  obtain ⟨fd, F⟩ := T.d_mark_of
  exact io_of F sc_mark_of (F.bindsN fun _ _ _ _ _ _ us hl => match us, hl with | [_, _], _ => rfl) (by decide) (dv_mark_of T)
abbrev n_piece_of : List Str := ["reader", "marks"]
theorem sc_piece_of : FnScope n_piece_of ["reader"] (defScope s_piece_of) := ⟨rfl, rfl, rfl, by decide +kernel, rfl, by decide +kernel, by decide +kernel⟩
def p1_piece_of : EM Bool := (fBinT (vIn true) (fD (fMIO "Reader" "here" f_Reader_here 0 (mP []))) (fD (fTup (fCons (mP (.str [])) (fCons (mP (.str [47])) (mP []))))))
def p2_piece_of : EM Fl := (fExpr (fApp 1 (fIO "Reader" f_mark_of 0 (fCons (fBin (vEq false) (fD (fN (fSl vSlL (fPeek 1) (fInt (fNeg (mP (.int 1)))) (mP none)))) (fD (fN (fLst (fCons (mP (.str c_STAR)) (mP [])))))) (mP [])))))
def b_piece_of : EM Fl := (fSeq (fIf (fBinT (vEq false) (fD (fSl vSlS (fD (fFldO "Reader" "whole" 0)) (fInt (fFldO "Reader" "place" 0)) (fInt (fBin vAdd (fD (fFldO "Reader" "place" 0)) (fD (mP (.int 2))))))) (fD (mP (.str [42, 42]))))
  (fSeq (fFldAug "Reader" "place" 0 (mP (.int 2)))
  (fSeq (fIf (fBinT (vIn true) (fD (fMIO "Reader" "here" f_Reader_here 0 (mP []))) (fD (fTup (fCons (mP (.str [])) (fCons (mP (.str [47])) (mP []))))))
  fStuck
  (mP .nx))
  (fRet (mP (.ins "Names" [])))))
  (mP .nx))
  (fSeq (fAsgN 1 (fLst (mP [])))
  (fSeq (whileN p1_piece_of
  p2_piece_of 1000000000)
  (fSeq (fIf (fBinT (vEq false) (fPeek 1) (fD (fN (fLst (mP [])))))
  fStuck
  (mP .nx))
  (fRet (fMake "Marks" i_Marks (fCons (fName 1) (mP []))))))))
def f_piece_of : List (Str × Da) → List Da → Option (Da × List (Str × Da)) := ioRun 1 2 "Reader" b_piece_of
theorem dv_piece_of (T : Tx K mg) : Dv P w K mg base n_piece_of "piece_of" s_piece_of (He.ga K "piece_of") 4 b_piece_of := fun cdv A outer s H E hr =>
  have hN := (sc_piece_of).nd
  (vss_cons (vs_if (vt_cmp (opd_eq hr.units) (vp_of (ve_slS (vp_of (ve_fldO (c := "Reader") 0 T.cls_Reader T.na_Reader_whole)) (vo_some (ve_fldO (c := "Reader") 0 T.cls_Reader T.na_Reader_place)) (vo_some (ve_bin opd_add (vp_of (ve_fldO (c := "Reader") 0 T.cls_Reader T.na_Reader_place)) (vp_of ve_int))))) (vp_of (ve_str [42, 42])) (nomark _))
  (vss_cons (vs_fldaugO (c := "Reader") 0 T.cls_Reader T.na_Reader_place ve_int)
  (vss_cons (vs_if (vt_cmp opd_notin (vp_of (ve_methIO0 0 T.cls_Reader T.mt_Reader_here (fo_Reader_here T) (hr.mono (by decide)))) (vp_of (ve_tup (va_cons (ve_str []) (va_cons (ve_str [47]) va_nil)))) (by rfl))
  (vss_one vs_never)
  vss_nil)
  (vss_one (vs_ret (ve_make0 T.new_Names T.g_Names)))))
  vss_nil)
  (vss_cons (vs_setN 1 hN (vn_lst va_nil))
  (vss_cons (vs_while 1000000000 PassesOwn.never (vt_cmp opd_notin (vp_of (ve_methIO0 0 T.cls_Reader T.mt_Reader_here (fo_Reader_here T) (hr.mono (by decide)))) (vp_of (ve_tup (va_cons (ve_str []) (va_cons (ve_str [47]) va_nil)))) (by rfl))
  (vss_one (vs_expr (ve_app 1 (ve_callIO 0 (fo_mark_of T) T.g_mark_of (hr.mono (by decide)) (va_cons (ve_cmp (opd_eq hr.units) (vp_of (ve_of_n (vn_slL (vp_name 1) (vo_some (ve_neg ve_int)) vo_none))) (vp_of (ve_of_n (vn_lst (va_cons (ve_gstr c_STAR rfl T.s_STAR) va_nil)))) (nomark _)) va_nil))))))
  (vss_cons (vs_if (vt_cmp (opd_eq hr.units) (vp_name 1) (vp_of (ve_of_n (vn_lst va_nil))) (nomark _))
  (vss_one vs_never)
  vss_nil)
  (vss_one (vs_ret (ve_make (fi_Marks T) T.g_Marks (hr.mono (by decide)) (va_cons (ve_name 1) va_nil))))))))
theorem fo_piece_of (T : Tx K mg) : FoIO P w K mg base 5 (He.ga K "piece_of") ["reader"] "Reader" f_piece_of := by
  obtain ⟨fd, F⟩ := T.d_piece_of
  exact io_of F sc_piece_of (F.bindsN fun _ _ _ _ _ _ us hl => match us, hl with | [_], _ => rfl) (by decide) (dv_piece_of T)
abbrev n_line_of : List Str := ["text", "reader", "lets", "fixed", "pieces", "folders"]
theorem sc_line_of : FnScope n_line_of ["text"] (defScope s_line_of) := ⟨rfl, rfl, rfl, by decide +kernel, rfl, by decide +kernel, by decide +kernel⟩
def p1_line_of : EM Bool := (fTru (fD (fMIO "Reader" "take" f_Reader_take 1 (fCons (mP (.str [47])) (mP [])))))
def p2_line_of : EM Fl := (fIf (fBinT (vEq false) (fD (fMIO "Reader" "here" f_Reader_here 1 (mP []))) (fD (mP (.str []))))
  (fAsg 5 (mP (.bl true)))
  (fExpr (fApp 4 (fIO "Reader" f_piece_of 1 (mP [])))))
def b_line_of : EM Fl := (fSeq (fIf (fNot (fTru (fD (fCall vIsi (fCons (fPeek 0) (fCons (fD (mP (.ty "str"))) (mP [])))))))
  fStuck
  (mP .nx))
  (fSeq (fMakeO 1 "Reader" i_Reader (fCons (fName 0) (mP [])))
  (fSeq (fPar2 2 3 (fCv (fMIO "Reader" "take" f_Reader_take 1 (fCons (mP (.str [33])) (mP []))) (fCv (fMIO "Reader" "take" f_Reader_take 1 (fCons (mP (.str [47])) (mP []))) (mP []))))
  (fSeq (fPar2 4 5 (fCn (fLst (fCons (fIO "Reader" f_piece_of 1 (mP [])) (mP []))) (fCv (mP (.bl false)) (mP []))))
  (fSeq (whileN p1_line_of
  p2_line_of 1000000000)
  (fSeq (fIf (fAnd (fNot (fTru (fPeek 3))) (fBinT (vEq false) (fD (fCall vLen (fCons (fPeek 4) (mP [])))) (fD (mP (.int 1)))))
  (fAsg 4 (fBin vAdd (fD (fN (fLst (fCons (mP (.ins "Names" [])) (mP []))))) (fPeek 4)))
  (mP .nx))
  (fRet (fMake "Line" i_Line (fCons (fName 2) (fCons (fName 4) (fCons (fName 5) (mP []))))))))))))
def f_line_of : List Da → Res := fnRun 1 6 b_line_of
theorem dv_line_of (T : Tx K mg) : Dv P w K mg base n_line_of "line_of" s_line_of (He.ga K "line_of") 5 b_line_of := fun cdv A outer s H E hr =>
  have hN := (sc_line_of).nd
  (vss_cons (vs_if (vt_not (vt_tru (vp_of (ve_callB cad_isi T.free_isinstance (vpa_cons (vp_name 0) (vpa_cons (vp_of (ve_tyname T.free_str)) vpa_nil))))))
  (vss_one vs_never)
  vss_nil)
  (vss_cons (vs_make 1 hN (fi_Reader T) T.g_Reader (hr.mono (by decide)) (va_cons (ve_name 0) va_nil))
  (vss_cons (vs_par2 2 3 rfl hN (vc_v (ve_methIO 1 T.cls_Reader T.mt_Reader_take (fo_Reader_take T) (hr.mono (by decide)) (va_cons (ve_str [33]) va_nil)) (vc_v (ve_methIO 1 T.cls_Reader T.mt_Reader_take (fo_Reader_take T) (hr.mono (by decide)) (va_cons (ve_str [47]) va_nil)) vc_nil)))
  (vss_cons (vs_par2 4 5 rfl hN (vc_n (vn_lst (va_cons (ve_callIO 1 (fo_piece_of T) T.g_piece_of (hr.mono (by decide)) va_nil) va_nil)) (vc_v ve_bl vc_nil)))
  (vss_cons (vs_while 1000000000 PassesOwn.never (vt_tru (vp_of (ve_methIO 1 T.cls_Reader T.mt_Reader_take (fo_Reader_take T) (hr.mono (by decide)) (va_cons (ve_str [47]) va_nil))))
  (vss_one (vs_if (vt_cmp (opd_eq hr.units) (vp_of (ve_methIO0 1 T.cls_Reader T.mt_Reader_here (fo_Reader_here T) (hr.mono (by decide)))) (vp_of (ve_str [])) (nomark _))
  (vss_one (vs_set 5 hN ve_bl))
  (vss_one (vs_expr (ve_app 4 (ve_callIO 1 (fo_piece_of T) T.g_piece_of (hr.mono (by decide)) va_nil)))))))
  (vss_cons (vs_if (vt_w (vw_and (vt_not (vt_tru (vp_name 3))) (vw_and1 (vt_cmp (opd_eq hr.units) (vp_of (ve_callB cad_len T.free_len (vpa_cons (vp_name 4) vpa_nil))) (vp_of ve_int) (nomark _)))))
  (vss_one (vs_set 4 hN (ve_bin opd_add (vp_of (ve_of_n (vn_lst (va_cons (ve_make0 T.new_Names T.g_Names) va_nil)))) (vp_name 4))))
  vss_nil)
  (vss_one (vs_ret (ve_make (fi_Line T) T.g_Line (hr.mono (by decide)) (va_cons (ve_name 2) (va_cons (ve_name 4) (va_cons (ve_name 5) va_nil))))))))))))
theorem fo_line_of (T : Tx K mg) : FoA P w K mg base 6 (He.ga K "line_of") ["text"] [] f_line_of := by
  obtain ⟨fd, F⟩ := T.d_line_of
  exact fo_of F sc_line_of (F.bindsN fun _ _ _ _ _ _ us hl => match us, hl with | [_], _ => rfl) (dv_line_of T)
abbrev n_line_at : List Str := ["row", "text", "line"]
theorem sc_line_at : FnScope n_line_at ["row", "text"] (defScope s_line_at) := ⟨rfl, rfl, rfl, by decide +kernel, rfl, by decide +kernel, by decide +kernel⟩
def b_line_at : EM Fl := (fSeq (fAsg 2 (fDef f_line_of [] (fCons (fName 1) (mP []))))
  (fRet (fName 2)))
def f_line_at : List Da → Res := fnRun 2 3 b_line_at
theorem dv_line_at (T : Tx K mg) : Dv P w K mg base n_line_at "line_at" s_line_at (He.ga K "line_at") 6 b_line_at := fun cdv A outer s H E hr =>
  have hN := (sc_line_at).nd
  (vss_one (vs_try (vss_one (vs_set 2 hN (ve_call (fo_line_of T) T.g_line_of (hr.mono (by decide)) (va_cons (ve_name 1) va_nil))))
  (vss_one (vs_ret (ve_name 2)))))
theorem fo_line_at (T : Tx K mg) : FoA P w K mg base 7 (He.ga K "line_at") ["row", "text"] [] f_line_at := by
  obtain ⟨fd, F⟩ := T.d_line_at
  exact fo_of F sc_line_at (F.bindsN fun _ _ _ _ _ _ us hl => match us, hl with | [_, _], _ => rfl) (dv_line_at T)
abbrev n_plain : List Str := ["line"]
theorem sc_plain : FnScope n_plain ["line"] (defScope s_plain) := ⟨rfl, rfl, rfl, by decide +kernel, rfl, by decide +kernel, by decide +kernel⟩
def b_plain : EM Fl := (fRet (fMeth "Line" "plain_form" f_Line_plain_form [] (fDef f_line_of [] (fCons (fName 0) (mP []))) (mP [])))
def f_plain : List Da → Res := fnRun 1 1 b_plain
theorem dv_plain (T : Tx K mg) : Dv P w K mg base n_plain "plain" s_plain (He.ga K "plain") 6 b_plain := fun cdv A outer s H E hr =>
  have hN := (sc_plain).nd
  (vss_one (vs_ret (ve_meth0 T.cls_Line T.mt_Line_plain_form (fo_Line_plain_form T) (hr.mono (by decide)) (ve_call (fo_line_of T) T.g_line_of (hr.mono (by decide)) (va_cons (ve_name 0) va_nil)))))
theorem fo_plain (T : Tx K mg) : FoA P w K mg base 7 (He.ga K "plain") ["line"] [] f_plain := by
  obtain ⟨fd, F⟩ := T.d_plain
  exact fo_of F sc_plain (F.bindsN fun _ _ _ _ _ _ us hl => match us, hl with | [_], _ => rfl) (dv_plain T)
abbrev n_lines_of : List Str := ["lines", "row", "text"]
theorem sc_lines_of : FnScope n_lines_of ["lines"] (defScope s_lines_of) := ⟨rfl, rfl, rfl, by decide +kernel, rfl, by decide +kernel, by decide +kernel⟩
def p1_lines_of : EM Da := (fDef f_line_at [] (fCons (fName 1) (fCons (fName 2) (mP []))))
def b_lines_of : EM Fl := (fSeq (fIf (fNot (fTru (fD (fCall vIsi (fCons (fPeek 0) (fCons (fD (mP (.ty "list"))) (mP [])))))))
  fStuck
  (mP .nx))
  (fRet (fN (fComp [1, 2] (fItA enumOf (fCons (fName 0) (mP []))) (stTup 2 (stCons (stN 1) (stCons (stN 2) stNil))) (mP true) p1_lines_of))))
def f_lines_of : List Da → Res := fnRun 1 3 b_lines_of
theorem dv_lines_of (T : Tx K mg) : Dv P w K mg base n_lines_of "lines_of" s_lines_of (He.ga K "lines_of") 7 b_lines_of := fun cdv A outer s H E hr =>
  have hN := (sc_lines_of).nd
  (vss_cons (vs_if (vt_not (vt_tru (vp_of (ve_callB cad_isi T.free_isinstance (vpa_cons (vp_name 0) (vpa_cons (vp_of (ve_tyname T.free_list)) vpa_nil))))))
  (vss_one vs_never)
  vss_nil)
  (vss_one (vs_ret (ve_of_n (vn_comp [("row", 1), ("text", 2)] rfl hN (by decide) (vi_enum T.free_enumerate (va_cons (ve_name 0) va_nil)) (fun _ _ _ _ _ => (vg_tup (n := 2) rfl (vgs_cons (vg_name 1 hN) (vgs_cons (vg_name 2 hN) vgs_nil)))) (fun _ _ _ _ _ => vts_nil) (fun _ _ _ _ _ => (ve_call (fo_line_at T) T.g_line_at (hr.mono (by decide)) (va_cons (ve_name 1) (va_cons (ve_name 2) va_nil)))) (blkOk_by (N := n_lines_of) (sc := defScope s_lines_of) (by decide +kernel)))))))
theorem fo_lines_of (T : Tx K mg) : FoA P w K mg base 8 (He.ga K "lines_of") ["lines"] [] f_lines_of := by
  obtain ⟨fd, F⟩ := T.d_lines_of
  exact fo_of F sc_lines_of (F.bindsN fun _ _ _ _ _ _ us hl => match us, hl with | [_], _ => rfl) (dv_lines_of T)
abbrev n_read : List Str := ["text", "found", "row", "told", "bare"]
theorem sc_read : FnScope n_read ["text"] (defScope s_read) := ⟨rfl, rfl, rfl, by decide +kernel, rfl, by decide +kernel, by decide +kernel⟩
def p1_read : EM Fl := (fSeq (fAsg 4 (fMs sStrip (fName 3) (fCons (fD (mP (.str [32]))) (mP []))))
  (fIf (fAnd (fBinT (vEq true) (fPeek 4) (fD (mP (.str [])))) (fNot (fTru (fD (fMs sStarts (fName 4) (fCons (fD (mP (.str [35]))) (mP [])))))))
  (fExpr (fApp 1 (fMeth "Line" "plain_form" f_Line_plain_form [] (fDef f_line_at [] (fCons (fName 2) (fCons (fName 4) (mP [])))) (mP []))))
  (mP .nx)))
def b_read : EM Fl := (fSeq (fIf (fNot (fTru (fD (fCall vIsi (fCons (fPeek 0) (fCons (fD (mP (.ty "str"))) (mP [])))))))
  fStuck
  (mP .nx))
  (fSeq (fAsgN 1 (fLst (mP [])))
  (fSeq (fFor (fItA enumOf (fCons (fN (fMn sSplit (fName 0) (fCons (fD (mP (.str [10]))) (mP [])))) (mP []))) (stTup 2 (stCons (stN 2) (stCons (stN 3) stNil)))
  p1_read)
  (fRetO 1))))
def f_read : List Da → Res := fnRun 1 5 b_read
def l_read : List Da → Option (List Da) := lsG (lsRun 1 5 b_read)
theorem dv_read (T : Tx K mg) : Dv P w K mg base n_read "read" s_read (He.ga K "read") 7 b_read := fun cdv A outer s H E hr =>
  have hN := (sc_read).nd
  (vss_cons (vs_if (vt_not (vt_tru (vp_of (ve_callB cad_isi T.free_isinstance (vpa_cons (vp_name 0) (vpa_cons (vp_of (ve_tyname T.free_str)) vpa_nil))))))
  (vss_one vs_never)
  vss_nil)
  (vss_cons (vs_setN 1 hN (vn_lst va_nil))
  (vss_cons (vs_for PassesOwn.never rfl (vi_enum T.free_enumerate (va_cons (ve_of_n (vn_ms PySem.F.slot_str_split PySem.F.type_str_split ms_split (ve_name 0) (vpa_cons (vp_of (ve_str [10])) vpa_nil))) va_nil)) (vg_tup (n := 2) rfl (vgs_cons (vg_name 2 hN) (vgs_cons (vg_name 3 hN) vgs_nil)))
  (vss_cons (vs_set 4 hN (ve_ms PySem.F.slot_str_strip PySem.F.type_str_strip ms_strip (ve_name 3) (vpa_cons (vp_of (ve_str [32])) vpa_nil)))
  (vss_one (vs_if (vt_w (vw_and (vt_cmp (opd_ne hr.units) (vp_name 4) (vp_of (ve_str [])) (nomark _)) (vw_and1 (vt_not (vt_tru (vp_of (ve_ms PySem.F.slot_str_startswith PySem.F.type_str_startswith ms_starts (ve_name 4) (vpa_cons (vp_of (ve_str [35])) vpa_nil))))))))
  (vss_one (vs_expr (ve_app 1 (ve_meth0 T.cls_Line T.mt_Line_plain_form (fo_Line_plain_form T) (hr.mono (by decide)) (ve_call (fo_line_at T) T.g_line_at (hr.mono (by decide)) (va_cons (ve_name 2) (va_cons (ve_name 4) va_nil)))))))
  vss_nil))))
  (vss_one (vs_retO 1)))))
theorem fl_read (T : Tx K mg) : FoL P w K mg base 8 (He.ga K "read") ["text"] l_read := by
  obtain ⟨fd, F⟩ := T.d_read
  exact lsG_fo (fl_of F sc_read (F.bindsN fun _ _ _ _ _ _ us hl => match us, hl with | [_], _ => rfl) (dv_read T))
theorem fo_read (T : Tx K mg) : FoA P w K mg base 8 (He.ga K "read") ["text"] [] f_read := by
  obtain ⟨fd, F⟩ := T.d_read
  exact fo_of F sc_read (F.bindsN fun _ _ _ _ _ _ us hl => match us, hl with | [_], _ => rfl) (dv_read T)
abbrev n_written : List Str := ["lines", "line"]
theorem sc_written : FnScope n_written ["lines"] (defScope s_written) := ⟨rfl, rfl, rfl, by decide +kernel, rfl, by decide +kernel, by decide +kernel⟩
def p1_written : EM Da := (fBin vAdd (fD (fMeth "Line" "plain_form" f_Line_plain_form [] (fName 1) (mP []))) (fD (mP (.str [10]))))
def b_written : EM Fl := (fRet (fMs sJoin (mP (.str [])) (fCons (fD (fN (fComp [1] (fIt itemsL (fDef f_lines_of [] (fCons (fName 0) (mP [])))) (stN 1) (mP true) p1_written))) (mP []))))
def f_written : List Da → Res := fnRun 1 2 b_written
theorem dv_written (T : Tx K mg) : Dv P w K mg base n_written "written" s_written (He.ga K "written") 8 b_written := fun cdv A outer s H E hr =>
  have hN := (sc_written).nd
  (vss_one (vs_ret (ve_ms PySem.F.slot_str_join PySem.F.type_str_join ms_join (ve_str []) (vpa_cons (vp_of (ve_of_n (vn_comp [("line", 1)] rfl hN (by decide) (vi_list (ve_call (fo_lines_of T) T.g_lines_of (hr.mono (by decide)) (va_cons (ve_name 0) va_nil))) (fun _ _ _ _ _ => (vg_name 1 hN)) (fun _ _ _ _ _ => vts_nil) (fun _ _ _ _ _ => (ve_bin opd_add (vp_of (ve_meth0 T.cls_Line T.mt_Line_plain_form (fo_Line_plain_form T) (hr.mono (by decide)) (ve_name 1))) (vp_of (ve_str [10])))) (blkOk_by (N := n_written) (sc := defScope s_written) (by decide +kernel))))) vpa_nil))))
theorem fo_written (T : Tx K mg) : FoA P w K mg base 9 (He.ga K "written") ["lines"] [] f_written := by
  obtain ⟨fd, F⟩ := T.d_written
  exact fo_of F sc_written (F.bindsN fun _ _ _ _ _ _ us hl => match us, hl with | [_], _ => rfl) (dv_written T)
abbrev n__law_texts_right : List Str := ["_law_texts", "_law_plains", "_law_draws", "_law_handed", "_law_one", "_law_rows", "_law_text", "_law_number", "_law_told"]
theorem sc__law_texts_right : FnScope n__law_texts_right ["_law_texts", "_law_plains", "_law_draws"] (defScope s__law_texts_right) := ⟨rfl, rfl, rfl, by decide +kernel, rfl, by decide +kernel, by decide +kernel⟩
def p1__law_texts_right : EM Da := (fBin vAdd (fPeek 4) (fD (mP (.str [10]))))
def p2__law_texts_right : EM Fl := (fSeq (fExpr (fExt 5 (fBin vMul (fD (fN (fLst (fCons (fBin vIx (fD (fN (fLst (fCons (mP (.str [])) (fCons (mP (.str [32, 32, 32])) (fCons (fBin vAdd (fD (mP (.str [35]))) (fPeek 6)) (fCons (fBin vAdd (fD (mP (.str [32, 32, 35, 32]))) (fPeek 6)) (fCons (mP (.str [35])) (mP []))))))))) (fD (fBin vMod (fPeek 7) (fD (mP (.int 5)))))) (mP []))))) (fD (fBin vMod (fD (fBin vFdiv (fPeek 7) (fD (mP (.int 5))))) (fD (mP (.int 2))))))))
  (fExpr (fApp 5 (fBin vAdd (fD (fBin vAdd (fD (fBin vMul (fD (mP (.str [32]))) (fD (fBin vMod (fD (fBin vFdiv (fPeek 7) (fD (mP (.int 10))))) (fD (mP (.int 3))))))) (fPeek 6))) (fD (fBin vMul (fD (mP (.str [32]))) (fD (fBin vMod (fD (fBin vFdiv (fPeek 7) (fD (mP (.int 30))))) (fD (mP (.int 3)))))))))))
def b__law_texts_right : EM Fl := (fSeq (fAsg 3 (fN (fCallN vListOf (fCons (fPeek 0) (mP [])))))
  (fSeq (fIf (fOr (fBinT (vEq true) (fD (fDef f_written [] (fCons (fName 3) (mP [])))) (fD (fMs sJoin (mP (.str [])) (fCons (fD (fN (fComp [4] (fIt itemsL (fName 1)) (stN 4) (mP true) p1__law_texts_right))) (mP []))))) (fBinT (vEq true) (fPeek 3) (fPeek 0)))
  (fRet (mP (.bl false)))
  (mP .nx))
  (fSeq (fAsgN 5 (fLst (mP [])))
  (fSeq (fFor (fItA zipOf (fCons (fName 0) (fCons (fName 2) (mP [])))) (stTup 2 (stCons (stN 6) (stCons (stN 7) stNil)))
  p2__law_texts_right)
  (fSeq (fAsgN 8 (fDefL l_read (fCons (fBin vAdd (fD (fMs sJoin (mP (.str [10])) (fCons (fPeek 5) (mP [])))) (fD (fBin vIx (fD (fTup (fCons (mP (.str [])) (fCons (mP (.str [10])) (fCons (mP (.str [10, 10, 32, 32])) (fCons (mP (.str [10, 35])) (mP []))))))) (fD (fBin vMod (fD (fBin vIx (fPeek 2) (fD (mP (.int 0))))) (fD (mP (.int 4)))))))) (mP []))))
  (fSeq (fIf (fOr (fNot (fTru (fD (fCall vIsi (fCons (fPeek 8) (fCons (fD (mP (.ty "list"))) (mP []))))))) (fOr (fBinT (vEq true) (fPeek 8) (fPeek 1)) (fBinT (vEq true) (fD (fDef f_read [] (fCons (fDef f_written [] (fCons (fName 0) (mP []))) (mP [])))) (fPeek 1))))
  (fRet (mP (.bl false)))
  (mP .nx))
  (fSeq (fExpr (fApp 8 (mP (.str []))))
  (fRet (fBin (vEq false) (fD (fDef f_read [] (fCons (fMs sJoin (mP (.str [10])) (fCons (fPeek 5) (mP []))) (mP [])))) (fPeek 1))))))))))
def f__law_texts_right : List Da → Res := fnRun 3 9 b__law_texts_right
theorem dv__law_texts_right (T : Tx K mg) : Dv P w K mg base n__law_texts_right "_law_texts_right" s__law_texts_right (He.ga K "_law_texts_right") 9 b__law_texts_right := fun cdv A outer s H E hr =>
  have hN := (sc__law_texts_right).nd
  (vss_cons (vs_set 3 hN (ve_of_n (vn_callTy can_list T.free_list (vpa_cons (vp_name 0) vpa_nil))))
  (vss_cons (vs_if (vt_w (vw_or (vt_cmp (opd_ne hr.units) (vp_of (ve_call (fo_written T) T.g_written (hr.mono (by decide)) (va_cons (ve_name 3) va_nil))) (vp_of (ve_ms PySem.F.slot_str_join PySem.F.type_str_join ms_join (ve_str []) (vpa_cons (vp_of (ve_of_n (vn_comp [("_law_one", 4)] rfl hN (by decide) (vi_list (ve_name 1)) (fun _ _ _ _ _ => (vg_name 4 hN)) (fun _ _ _ _ _ => vts_nil) (fun _ _ _ _ _ => (ve_bin opd_add (vp_name 4) (vp_of (ve_str [10])))) (blkOk_by (N := n__law_texts_right) (sc := defScope s__law_texts_right) (by decide +kernel))))) vpa_nil))) (nomark _)) (vw_or1 (vt_cmp (opd_ne hr.units) (vp_name 3) (vp_name 0) (nomark _)))))
  (vss_one (vs_ret ve_bl))
  vss_nil)
  (vss_cons (vs_setN 5 hN (vn_lst va_nil))
  (vss_cons (vs_for PassesOwn.never rfl (vi_zip T.free_zip (va_cons (ve_name 0) (va_cons (ve_name 2) va_nil))) (vg_tup (n := 2) rfl (vgs_cons (vg_name 6 hN) (vgs_cons (vg_name 7 hN) vgs_nil)))
  (vss_cons (vs_expr (ve_ext 5 (ve_bin opd_mul (vp_of (ve_of_n (vn_lst (va_cons (ve_ix (vp_of (ve_of_n (vn_lst (va_cons (ve_str []) (va_cons (ve_str [32, 32, 32]) (va_cons (ve_bin opd_add (vp_of (ve_str [35])) (vp_name 6)) (va_cons (ve_bin opd_add (vp_of (ve_str [32, 32, 35, 32])) (vp_name 6)) (va_cons (ve_str [35]) va_nil)))))))) (vp_of (ve_bin opd_mod (vp_name 7) (vp_of ve_int)))) va_nil)))) (vp_of (ve_bin opd_mod (vp_of (ve_bin opd_fdiv (vp_name 7) (vp_of ve_int))) (vp_of ve_int))))))
  (vss_one (vs_expr (ve_app 5 (ve_bin opd_add (vp_of (ve_bin opd_add (vp_of (ve_bin opd_mul (vp_of (ve_str [32])) (vp_of (ve_bin opd_mod (vp_of (ve_bin opd_fdiv (vp_name 7) (vp_of ve_int))) (vp_of ve_int))))) (vp_name 6))) (vp_of (ve_bin opd_mul (vp_of (ve_str [32])) (vp_of (ve_bin opd_mod (vp_of (ve_bin opd_fdiv (vp_name 7) (vp_of ve_int))) (vp_of ve_int)))))))))))
  (vss_cons (vs_setN 8 hN (vn_call (lsG_le _) (fl_read T) T.g_read (hr.mono (by decide)) (va_cons (ve_bin opd_add (vp_of (ve_ms PySem.F.slot_str_join PySem.F.type_str_join ms_join (ve_str [10]) (vpa_cons (vp_name 5) vpa_nil))) (vp_of (ve_ix (vp_of (ve_tup (va_cons (ve_str []) (va_cons (ve_str [10]) (va_cons (ve_str [10, 10, 32, 32]) (va_cons (ve_str [10, 35]) va_nil)))))) (vp_of (ve_bin opd_mod (vp_of (ve_ix (vp_name 2) (vp_of ve_int))) (vp_of ve_int)))))) va_nil)))
  (vss_cons (vs_if (vt_w (vw_or (vt_not (vt_tru (vp_of (ve_callB cad_isi T.free_isinstance (vpa_cons (vp_name 8) (vpa_cons (vp_of (ve_tyname T.free_list)) vpa_nil)))))) (vw_or (vt_cmp (opd_ne hr.units) (vp_name 8) (vp_name 1) (nomark _)) (vw_or1 (vt_cmp (opd_ne hr.units) (vp_of (ve_call (fo_read T) T.g_read (hr.mono (by decide)) (va_cons (ve_call (fo_written T) T.g_written (hr.mono (by decide)) (va_cons (ve_name 0) va_nil)) va_nil))) (vp_name 1) (nomark _))))))
  (vss_one (vs_ret ve_bl))
  vss_nil)
  (vss_cons (vs_expr (ve_app 8 (ve_str [])))
  (vss_one (vs_ret (ve_cmp (opd_eq hr.units) (vp_of (ve_call (fo_read T) T.g_read (hr.mono (by decide)) (va_cons (ve_ms PySem.F.slot_str_join PySem.F.type_str_join ms_join (ve_str [10]) (vpa_cons (vp_name 5) vpa_nil)) va_nil))) (vp_name 1) (nomark _)))))))))))
theorem fo__law_texts_right (T : Tx K mg) : FoA P w K mg base 10 (He.ga K "_law_texts_right") ["_law_texts", "_law_plains", "_law_draws"] [] f__law_texts_right := by
  obtain ⟨fd, F⟩ := T.d__law_texts_right
  exact fo_of F sc__law_texts_right (F.bindsN fun _ _ _ _ _ _ us hl => match us, hl with | [_, _, _], _ => rfl) (dv__law_texts_right T)
abbrev n_law : List Str := ["_law_script", "_law_pool_here", "_law_texts", "_law_plains", "_law_at", "_law_line_here", "_law_due", "_law_number", "_law_text", "_law_found"]
theorem sc_law : FnScope n_law ["_law_script"] (defScope s_law) := ⟨rfl, rfl, rfl, by decide +kernel, rfl, by decide +kernel, by decide +kernel⟩
def p1_law : EM Fl := (fSeq (fAsg 8 (fDef f__law_other [] (fCons (fName 5) (fCons (fName 7) (mP [])))))
  (fSeq (fAsg 9 (fDef f_plain [] (fCons (fName 8) (mP []))))
  (fSeq (fIf (fOr (fNot (fTru (fD (fCall vIsi (fCons (fPeek 9) (fCons (fD (mP (.ty "str"))) (mP []))))))) (fOr (fBinT (vEq true) (fPeek 9) (fPeek 6)) (fBinT (vEq true) (fD (fDef f_plain [] (fCons (fName 6) (mP [])))) (fPeek 6))))
  (fRet (mP (.bl false)))
  (mP .nx))
  (fSeq (fExpr (fApp 2 (fName 8)))
  (fExpr (fApp 3 (fName 6)))))))
def p2_law : EM Fl := (fSeq (fAsg 5 (fDef f__law_line [] (fCons (fName 0) (fCons (fName 4) (fCons (fName 1) (mP []))))))
  (fSeq (fAsg 6 (fDef f__law_plain [] (fCons (fName 5) (mP []))))
  (fFor (fIt itemsL (fDef f__law_digits [] (fCons (fName 0) (fCons (fBin vAdd (fPeek 4) (fD (mP (.int 1)))) (fCons (mP (.int 2)) (fCons (mP (.int 100000)) (mP []))))))) (stN 7)
  p1_law)))
def b_law : EM Fl := (fSeq (fAsg 0 (fN (fSl vSlL (fPeek 0) (mP none) (fInt (mP (.int 63))))))
  (fSeq (fPar3 1 2 3 (fCv (fDef f__law_pool [] (fCons (fName 0) (fCons (mP (.int 0)) (mP [])))) (fCn (fLst (mP [])) (fCn (fLst (mP [])) (mP [])))))
  (fSeq (fFor (fItA rng2 (fCons (mP (.int 1)) (fCons (fCall vMax (fCons (fD (mP (.int 2))) (fCons (fD (fCall vMin (fCons (fD (mP (.int 9))) (fCons (fD (fCall vLen (fCons (fPeek 0) (mP [])))) (mP []))))) (mP [])))) (mP [])))) (stN 4)
  p2_law)
  (fSeq (fIf (fNot (fTru (fD (fDef f__law_texts_right [] (fCons (fName 2) (fCons (fName 3) (fCons (fDef f__law_digits [] (fCons (fName 0) (fCons (mP (.int 3)) (fCons (fCall vLen (fCons (fPeek 2) (mP []))) (fCons (mP (.int 90)) (mP [])))))) (mP []))))))))
  (fRet (mP (.bl false)))
  (mP .nx))
  (fRet (fAndV (fBin (vEq false) (fD (fDef f_written [] (fCons (fN (fLst (mP []))) (mP [])))) (fD (mP (.str [])))) (fAndV (fBin (vEq false) (fD (fDef f_read [] (fCons (mP (.str [])) (mP [])))) (fD (fN (fLst (mP []))))) (fAndV (fBin (vEq false) (fD (fDef f_read [] (fCons (mP (.str [35, 97, 10, 32, 10])) (mP [])))) (fD (fN (fLst (mP []))))) (fBin (vEq false) (fD (fDef f_read [] (fCons (mP (.str [32, 97])) (mP [])))) (fD (fN (fLst (fCons (mP (.str [42, 42, 47, 97])) (mP []))))))))))))))
def f_law : List Da → Res := fnRun 1 10 b_law
theorem dv_law (T : Tx K mg) : Dv P w K mg base n_law "law" s_law (He.ga K "law") 10 b_law := fun cdv A outer s H E hr =>
  have hN := (sc_law).nd
  (vss_cons (vs_set 0 hN (ve_of_n (vn_slL (vp_name 0) vo_none (vo_some ve_int))))
  (vss_cons (vs_par3 1 2 3 rfl hN (vc_v (ve_call (fo__law_pool T) T.g__law_pool (hr.mono (by decide)) (va_cons (ve_name 0) (va_cons ve_int va_nil))) (vc_n (vn_lst va_nil) (vc_n (vn_lst va_nil) vc_nil))))
  (vss_cons (vs_for PassesOwn.never rfl (vi_range2 T.free_range (va_cons ve_int (va_cons (ve_callB (cad_max rfl) T.free_max (vpa_cons (vp_of ve_int) (vpa_cons (vp_of (ve_callB (cad_min rfl) T.free_min (vpa_cons (vp_of ve_int) (vpa_cons (vp_of (ve_callB cad_len T.free_len (vpa_cons (vp_name 0) vpa_nil))) vpa_nil)))) vpa_nil))) va_nil))) (vg_name 4 hN)
  (vss_cons (vs_set 5 hN (ve_call (fo__law_line T) T.g__law_line (hr.mono (by decide)) (va_cons (ve_name 0) (va_cons (ve_name 4) (va_cons (ve_name 1) va_nil)))))
  (vss_cons (vs_set 6 hN (ve_call (fo__law_plain T) T.g__law_plain (hr.mono (by decide)) (va_cons (ve_name 5) va_nil)))
  (vss_one (vs_for PassesOwn.never rfl (vi_list (ve_call (fo__law_digits T) T.g__law_digits (hr.mono (by decide)) (va_cons (ve_name 0) (va_cons (ve_bin opd_add (vp_name 4) (vp_of ve_int)) (va_cons ve_int (va_cons ve_int va_nil)))))) (vg_name 7 hN)
  (vss_cons (vs_set 8 hN (ve_call (fo__law_other T) T.g__law_other (hr.mono (by decide)) (va_cons (ve_name 5) (va_cons (ve_name 7) va_nil))))
  (vss_cons (vs_set 9 hN (ve_call (fo_plain T) T.g_plain (hr.mono (by decide)) (va_cons (ve_name 8) va_nil)))
  (vss_cons (vs_if (vt_w (vw_or (vt_not (vt_tru (vp_of (ve_callB cad_isi T.free_isinstance (vpa_cons (vp_name 9) (vpa_cons (vp_of (ve_tyname T.free_str)) vpa_nil)))))) (vw_or (vt_cmp (opd_ne hr.units) (vp_name 9) (vp_name 6) (nomark _)) (vw_or1 (vt_cmp (opd_ne hr.units) (vp_of (ve_call (fo_plain T) T.g_plain (hr.mono (by decide)) (va_cons (ve_name 6) va_nil))) (vp_name 6) (nomark _))))))
  (vss_one (vs_ret ve_bl))
  vss_nil)
  (vss_cons (vs_expr (ve_app 2 (ve_name 8)))
  (vss_one (vs_expr (ve_app 3 (ve_name 6)))))))))))))
  (vss_cons (vs_if (vt_not (vt_tru (vp_of (ve_call (fo__law_texts_right T) T.g__law_texts_right (hr.mono (by decide)) (va_cons (ve_name 2) (va_cons (ve_name 3) (va_cons (ve_call (fo__law_digits T) T.g__law_digits (hr.mono (by decide)) (va_cons (ve_name 0) (va_cons ve_int (va_cons (ve_callB cad_len T.free_len (vpa_cons (vp_name 2) vpa_nil)) (va_cons ve_int va_nil))))) va_nil)))))))
  (vss_one (vs_ret ve_bl))
  vss_nil)
  (vss_one (vs_ret (ve_and (ve_cmp (opd_eq hr.units) (vp_of (ve_call (fo_written T) T.g_written (hr.mono (by decide)) (va_cons (ve_of_n (vn_lst va_nil)) va_nil))) (vp_of (ve_str [])) (nomark _)) (ve_and (ve_cmp (opd_eq hr.units) (vp_of (ve_call (fo_read T) T.g_read (hr.mono (by decide)) (va_cons (ve_str []) va_nil))) (vp_of (ve_of_n (vn_lst va_nil))) (nomark _)) (ve_and (ve_cmp (opd_eq hr.units) (vp_of (ve_call (fo_read T) T.g_read (hr.mono (by decide)) (va_cons (ve_str [35, 97, 10, 32, 10]) va_nil))) (vp_of (ve_of_n (vn_lst va_nil))) (nomark _)) (ve_one (ve_cmp (opd_eq hr.units) (vp_of (ve_call (fo_read T) T.g_read (hr.mono (by decide)) (va_cons (ve_str [32, 97]) va_nil))) (vp_of (ve_of_n (vn_lst (va_cons (ve_str [42, 42, 47, 97]) va_nil)))) (nomark _))))))))))))
theorem fo_law (T : Tx K mg) : FoA P w K mg base 11 (He.ga K "law") ["_law_script"] [] f_law := by
  obtain ⟨fd, F⟩ := T.d_law
  exact fo_of F sc_law (F.bindsN fun _ _ _ _ _ _ us hl => match us, hl with | [_], _ => rfl) (dv_law T)
end
end Kb
namespace Kb.Hd
open PySem PySem.Spec PyProof.Rows L2 Vl
abbrev lawAt : Nat := 38
def fn : List He.DefD := [d__law_draw, d__law_cell_at, d__law_digits, d__law_signs, d__law_pool, d__law_mark, d__law_line, d__law_mark_plain, d__law_piece_plain, d__law_plain, d__law_mark_other, d__law_other, d_told_mark, d_Marks_told, d_Names_told, d_Marks_many, d_Names_many, d_Line_plain_form, d_Reader___init__, d_Reader_here, d_Reader_take, d_Reader_one_of, d_brackets_of, d_mark_of, d_piece_of, d_line_of, d_line_at, d_lines_of, d_plain, d_read, d_written, d_Marks___init__, d__law_texts_right, d_law, d_Line___init__]
def fa : List He.Fa := [.cls "Line", .cls "Marks", .cls "Names", .cls "Reader", .free "abs", .free "enumerate", .free "isinstance", .free "len", .free "list", .free "max", .free "min", .free "range", .free "str", .free "sum", .free "zip", .glo "Line", .glo "Marks", .glo "Names", .glo "Reader", .glo "_law_cell_at", .glo "_law_digits", .glo "_law_draw", .glo "_law_line", .glo "_law_mark", .glo "_law_mark_other", .glo "_law_mark_plain", .glo "_law_other", .glo "_law_piece_plain", .glo "_law_plain", .glo "_law_pool", .glo "_law_signs", .glo "_law_texts_right", .glo "brackets_of", .glo "line_at", .glo "line_of", .glo "lines_of", .glo "mark_of", .glo "piece_of", .glo "plain", .glo "read", .glo "told_mark", .glo "written", .mkr "Line", .mkr "Marks", .mkr "Reader", .meth "Line" "plain_form", .meth "Marks" "many", .meth "Marks" "told", .meth "Names" "many", .meth "Names" "told", .meth "Reader" "here", .meth "Reader" "one_of", .meth "Reader" "take", .noat "Line" "folders", .noat "Line" "lets", .noat "Line" "pieces", .noat "Marks" "marks", .noat "Reader" "place", .noat "Reader" "whole", .str "SIGNS" ".abcdefghijklmnopqrstuvwxyz", .str "STAR" "*", .glo "law"]
def exs : List (PySem.W.Frag → Bool) := [newB "Names"]
def ex (K : PySem.W.Frag) : Bool := exs.all (· K)
abbrev R : PySem.W.OpenRow := PySem.W.OpenLaw.row PySem.Challenge.rw_keepback_k01_lines
abbrev hk : PySem.W.Hook := He.hookX 6 fa fn [] [] ex
def ob (s : PySem.W.SharedT) : He.AlX := He.obsX 6 fa fn [] [] ex (HandSHeadRun.getT s)
theorem ob_eq (s : PySem.W.SharedT) : ob s = hk.obs s.abs := He.obsX_eq (HandSHeadRun.getT_eq s)
def loose : List Str := (["_wall", "KeepError", "BadLine", "BadList", "BadText", "SIGNS", "STAR", "Piece", "Names", "Marks", "told_mark", "Line"] : List Str) ++ (["Reader", "brackets_of", "mark_of", "piece_of", "line_of", "line_at", "lines_of", "plain", "read", "written", "_law_draw", "_law_cell_at"] : List Str) ++ (["_law_digits", "_law_signs", "_law_pool", "_law_mark", "_law_line", "_law_mark_plain", "_law_piece_plain", "_law_plain", "_law_mark_other", "_law_other", "_law_texts_right"] : List Str)
theorem run (w : World) : HandSHeadRun.RunEq R (PySem.W.view R.prog [lawAt]) hk ob 4000 loose w := by
  intro os
  kernel_rfl
theorem exAll {w : World} {h : Heap} {K : PySem.W.Frag} (c : He.SaysX fa fn [] [] ex w h K) (b : PySem.W.Frag → Bool) (i : Nat) (e : exs[i]? = some b) : b K = true := List.all_eq_true.mp c.more b (List.mem_of_getElem? e)
theorem tx_of {w : World} {h : Heap} {K : PySem.W.Frag} {mg : Str → Option Value} (X : K.In h) (G : h.Ns mainGlobals mg) (c : He.SaysX fa fn [] [] ex w h K) : Tx K mg where
  d__law_draw := c.t.d.def_ 0 (d := d__law_draw) rfl
  d__law_cell_at := c.t.d.def_ 1 (d := d__law_cell_at) rfl
  d__law_digits := c.t.d.def_ 2 (d := d__law_digits) rfl
  d__law_signs := c.t.d.def_ 3 (d := d__law_signs) rfl
  d__law_pool := c.t.d.def_ 4 (d := d__law_pool) rfl
  d__law_mark := c.t.d.def_ 5 (d := d__law_mark) rfl
  d__law_line := c.t.d.def_ 6 (d := d__law_line) rfl
  d__law_mark_plain := c.t.d.def_ 7 (d := d__law_mark_plain) rfl
  d__law_piece_plain := c.t.d.def_ 8 (d := d__law_piece_plain) rfl
  d__law_plain := c.t.d.def_ 9 (d := d__law_plain) rfl
  d__law_mark_other := c.t.d.def_ 10 (d := d__law_mark_other) rfl
  d__law_other := c.t.d.def_ 11 (d := d__law_other) rfl
  d_told_mark := c.t.d.def_ 12 (d := d_told_mark) rfl
  d_Marks_told := c.t.d.def_ 13 (d := d_Marks_told) rfl
  d_Names_told := c.t.d.def_ 14 (d := d_Names_told) rfl
  d_Marks_many := c.t.d.def_ 15 (d := d_Marks_many) rfl
  d_Names_many := c.t.d.def_ 16 (d := d_Names_many) rfl
  d_Line_plain_form := c.t.d.def_ 17 (d := d_Line_plain_form) rfl
  d_Reader___init__ := c.t.d.def_ 18 (d := d_Reader___init__) rfl
  d_Reader_here := c.t.d.def_ 19 (d := d_Reader_here) rfl
  d_Reader_take := c.t.d.def_ 20 (d := d_Reader_take) rfl
  d_Reader_one_of := c.t.d.def_ 21 (d := d_Reader_one_of) rfl
  d_brackets_of := c.t.d.def_ 22 (d := d_brackets_of) rfl
  d_mark_of := c.t.d.def_ 23 (d := d_mark_of) rfl
  d_piece_of := c.t.d.def_ 24 (d := d_piece_of) rfl
  d_line_of := c.t.d.def_ 25 (d := d_line_of) rfl
  d_line_at := c.t.d.def_ 26 (d := d_line_at) rfl
  d_lines_of := c.t.d.def_ 27 (d := d_lines_of) rfl
  d_plain := c.t.d.def_ 28 (d := d_plain) rfl
  d_read := c.t.d.def_ 29 (d := d_read) rfl
  d_written := c.t.d.def_ 30 (d := d_written) rfl
  d_Marks___init__ := c.t.d.def_ 31 (d := d_Marks___init__) rfl
  d__law_texts_right := c.t.d.def_ 32 (d := d__law_texts_right) rfl
  d_law := c.t.d.def_ 33 (d := d_law) rfl
  d_Line___init__ := c.t.d.def_ 34 (d := d_Line___init__) rfl
  cls_Line := He.cls_ok (c.t.d.fact 0 rfl)
  cls_Marks := He.cls_ok (c.t.d.fact 1 rfl)
  cls_Names := He.cls_ok (c.t.d.fact 2 rfl)
  cls_Reader := He.cls_ok (c.t.d.fact 3 rfl)
  free_abs := He.free_ok X G (c.t.d.fact 4 rfl)
  free_enumerate := He.free_ok X G (c.t.d.fact 5 rfl)
  free_isinstance := He.free_ok X G (c.t.d.fact 6 rfl)
  free_len := He.free_ok X G (c.t.d.fact 7 rfl)
  free_list := He.free_ok X G (c.t.d.fact 8 rfl)
  free_max := He.free_ok X G (c.t.d.fact 9 rfl)
  free_min := He.free_ok X G (c.t.d.fact 10 rfl)
  free_range := He.free_ok X G (c.t.d.fact 11 rfl)
  free_str := He.free_ok X G (c.t.d.fact 12 rfl)
  free_sum := He.free_ok X G (c.t.d.fact 13 rfl)
  free_zip := He.free_ok X G (c.t.d.fact 14 rfl)
  g_Line := He.glo_ok X G (c.t.d.fact 15 rfl)
  g_Marks := He.glo_ok X G (c.t.d.fact 16 rfl)
  g_Names := He.glo_ok X G (c.t.d.fact 17 rfl)
  g_Reader := He.glo_ok X G (c.t.d.fact 18 rfl)
  g__law_cell_at := He.glo_ok X G (c.t.d.fact 19 rfl)
  g__law_digits := He.glo_ok X G (c.t.d.fact 20 rfl)
  g__law_draw := He.glo_ok X G (c.t.d.fact 21 rfl)
  g__law_line := He.glo_ok X G (c.t.d.fact 22 rfl)
  g__law_mark := He.glo_ok X G (c.t.d.fact 23 rfl)
  g__law_mark_other := He.glo_ok X G (c.t.d.fact 24 rfl)
  g__law_mark_plain := He.glo_ok X G (c.t.d.fact 25 rfl)
  g__law_other := He.glo_ok X G (c.t.d.fact 26 rfl)
  g__law_piece_plain := He.glo_ok X G (c.t.d.fact 27 rfl)
  g__law_plain := He.glo_ok X G (c.t.d.fact 28 rfl)
  g__law_pool := He.glo_ok X G (c.t.d.fact 29 rfl)
  g__law_signs := He.glo_ok X G (c.t.d.fact 30 rfl)
  g__law_texts_right := He.glo_ok X G (c.t.d.fact 31 rfl)
  g_brackets_of := He.glo_ok X G (c.t.d.fact 32 rfl)
  g_line_at := He.glo_ok X G (c.t.d.fact 33 rfl)
  g_line_of := He.glo_ok X G (c.t.d.fact 34 rfl)
  g_lines_of := He.glo_ok X G (c.t.d.fact 35 rfl)
  g_mark_of := He.glo_ok X G (c.t.d.fact 36 rfl)
  g_piece_of := He.glo_ok X G (c.t.d.fact 37 rfl)
  g_plain := He.glo_ok X G (c.t.d.fact 38 rfl)
  g_read := He.glo_ok X G (c.t.d.fact 39 rfl)
  g_told_mark := He.glo_ok X G (c.t.d.fact 40 rfl)
  g_written := He.glo_ok X G (c.t.d.fact 41 rfl)
  mkr_Line := He.mkr_ok (c.t.d.fact 42 rfl)
  mkr_Marks := He.mkr_ok (c.t.d.fact 43 rfl)
  mkr_Reader := He.mkr_ok (c.t.d.fact 44 rfl)
  mt_Line_plain_form := He.meth_ok (c.t.d.fact 45 rfl)
  mt_Marks_many := He.meth_ok (c.t.d.fact 46 rfl)
  mt_Marks_told := He.meth_ok (c.t.d.fact 47 rfl)
  mt_Names_many := He.meth_ok (c.t.d.fact 48 rfl)
  mt_Names_told := He.meth_ok (c.t.d.fact 49 rfl)
  mt_Reader_here := He.meth_ok (c.t.d.fact 50 rfl)
  mt_Reader_one_of := He.meth_ok (c.t.d.fact 51 rfl)
  mt_Reader_take := He.meth_ok (c.t.d.fact 52 rfl)
  na_Line_folders := He.noat_ok (c.t.d.fact 53 rfl)
  na_Line_lets := He.noat_ok (c.t.d.fact 54 rfl)
  na_Line_pieces := He.noat_ok (c.t.d.fact 55 rfl)
  na_Marks_marks := He.noat_ok (c.t.d.fact 56 rfl)
  na_Reader_place := He.noat_ok (c.t.d.fact 57 rfl)
  na_Reader_whole := He.noat_ok (c.t.d.fact 58 rfl)
  new_Names := newB_ok (exAll c (newB "Names") 0 rfl)
  s_SIGNS := He.str_ok X G (c.t.d.fact 59 rfl)
  s_STAR := He.str_ok X G (c.t.d.fact 60 rfl)
theorem law_end {P : Program} {w : World} {h : Heap} {K : PySem.W.Frag} {mg : Str → Option Value} {f : Addr} (X : K.In h) (G : h.Ns mainGlobals mg) (hfa : mg ("law" : Str) = some (.ref f)) (c : He.SaysX fa fn [] [] ex w h K) :
    ∃ fd : FuncData, (∀ (s : Shared) (v : Value), BindsTo s fd ⟨[v], []⟩ [("_law_script", v)]) ∧ ∀ base : Heap, K.In base → base.Ns mainGlobals mg → FnOk P w K mg base CX0 11 f fd ["_law_script"] (spV K f_law) := by
  have T := tx_of X G c
  have e := hfa.symm.trans (He.glo_ok X G (c.t.d.fact 61 (f := .glo "law") rfl))
  cases e
  obtain ⟨fd, F⟩ := T.d_law
  have b := FunD.bindsA (ps := ["_law_script"]) F fun _ _ _ _ _ _ us hl => match us, hl with | [_], _ => rfl
  refine ⟨fd, fun s v => b s [v] rfl, fun base _ _ => ?_⟩
  exact fn_of F sc_law (dv_law T)
end Kb.Hd
namespace Kb
open Vl
open L2 (ixN atI)
theorem ixN_nat {n : Nat} {i : Int} (h0 : 0 ≤ i) (h : i < n) : ixN n i = some i.toNat := by
  unfold ixN; rw [if_pos h0, if_pos h]
theorem atI_eq {α : Type} {xs : List α} {i : Int} (h0 : 0 ≤ i) (h : i.toNat < xs.length) : atI xs i = some xs[i.toNat] := by
  unfold atI
  rw [ixN_nat h0 (by omega)]
  simp [List.getElem?_eq_getElem h]
theorem atI_ok {α : Type} {xs : List α} {i : Int} (h0 : 0 ≤ i) (h : i < xs.length) : ∃ x, atI xs i = some x ∧ x ∈ xs :=
  ⟨_, atI_eq h0 (by omega), List.getElem_mem _⟩
def primes : List Int := [1000003, 1000033, 1000037, 1000039, 1000081, 1000099, 1000117, 1000121, 1000133, 1000151, 1000159, 1000171, 1000183, 1000187, 1000193, 1000199]
def drawP (c k m : Int) : Int := (c * 48271 + k * 69621) % (primes[(k % 16).toNat]?.getD 1) % m
theorem drawP_nn (c k : Int) {m : Int} (hm : 0 < m) : 0 ≤ drawP c k m := Int.emod_nonneg _ (by omega)
theorem drawP_lt (c k : Int) {m : Int} (hm : 0 < m) : drawP c k m < m := Int.emod_lt_of_pos _ hm
theorem draw_eq (c k m : Int) (hm : 0 < m) : f__law_draw [.int c, .int k, .int m] = .ok (.int (drawP c k m)) := by
  have h16 : 0 ≤ k % 16 := Int.emod_nonneg _ (by decide)
  have h16' : k % 16 < 16 := Int.emod_lt_of_pos _ (by decide)
  have hl : (k % 16).toNat < (primes.map Da.int).length := by simp [primes]; omega
  have hl' : (k % 16).toNat < primes.length := by simp [primes]; omega
  have e := atI_eq h16 hl
  rw [List.getElem_map] at e
  have pp : 0 < primes[(k % 16).toNat] := by
    have := List.getElem_mem hl'
    generalize primes[(k % 16).toNat] = p at this
    simp only [primes, List.mem_cons, List.mem_nil_iff, or_false] at this
    omega
  have ep : primes[(k % 16).toNat]?.getD 1 = primes[(k % 16).toNat] := by rw [List.getElem?_eq_getElem hl']; rfl
  unfold drawP
  rw [ep]
  generalize primes[(k % 16).toNat] = p at e pp
  simp only [primes, List.map_cons, List.map_nil] at e
  simp only [f__law_draw, fnRun, b__law_draw, envOf, List.map_cons, List.map_nil, List.replicate, Nat.reduceSub, fSeq, fAsg, fAsgN, fRet, fRetO, fExpr, fTo, fPar2, fPar3, fAug, fIf, fBin, fBinT, fTru, fAnd, fOr, fNot, fAndV, fOrV, fNotV, fNeg, fName, fPeek, fD, fN, fLst, fTup, fCons, fCall, fCallN, fDef, fFld, fInt, fSl, fIt, fItA, fStuck, fCv, fCn, fCd, stN, stCons, stNil, stTup, mB, mP, mO, look, lookA, asBl, asInt, vAdd, vSub, vMul, vFdiv, vMod, vCmp, vIs, isNon, vAugAdd, fApp, fExt, fMs, fMn, List.getElem?_cons_zero, List.getElem?_cons_succ, List.getElem?_nil, List.set_cons_zero, List.set_cons_succ, List.length_cons, List.length_nil, Option.bind_some, Option.map_some, if_true, if_false, reduceIte, List.nil_append, List.cons_append, List.append_nil, resOf, Nat.reduceAdd, Nat.reduceEqDiff, Nat.reduceLT, Nat.reduceLeDiff, Int.reduceLT, Int.reduceLE, Int.reduceNeg, and_self, true_and, and_true, decide_true, decide_false, Bool.false_eq_true, Bool.not_true, Bool.not_false, Int.reduceAbs, Int.natAbs_neg, or_true, true_or, vIx, vLen, vAbs, vSum, vMax, vMin, decide_eq_true_eq, Bool.not_eq_true, if_pos pp, if_pos hm, e]
def absP (n : Int) : Int := if n < 0 then -n else n
theorem absP_nn (n : Int) : 0 ≤ absP n := by unfold absP; split <;> omega
theorem intsD_map (ns : List Int) : intsD (ns.map .int) = some ns := by
  induction ns with
  | nil => rfl
  | cons n ns ih => rw [List.map_cons]; unfold intsD; rw [ih]
def cellP (ns : List Int) (k : Int) : Int := if k < ns.length then absP (ns[k.toNat]?.getD 0) else drawP (absP ns.sum + 7919 * k) k 999983
theorem cellP_nn (ns : List Int) (k : Int) : 0 ≤ cellP ns k := by
  unfold cellP
  split
  · exact absP_nn _
  · exact drawP_nn _ _ (by decide)
theorem cell_eq (ns : List Int) (k : Int) (hk : 0 ≤ k) : f__law_cell_at [.lst (ns.map .int), .int k] = .ok (.int (cellP ns k)) := by
  unfold cellP
  by_cases h : k < ns.length
  · have hl : k.toNat < (ns.map Da.int).length := by rw [List.length_map]; omega
    have hl' : k.toNat < ns.length := by omega
    have e := atI_eq hk hl
    rw [List.getElem_map] at e
    simp only [f__law_cell_at, fnRun, b__law_cell_at, envOf, List.map_cons, List.map_nil, List.replicate, Nat.reduceSub, fSeq, fAsg, fAsgN, fRet, fRetO, fExpr, fTo, fPar2, fPar3, fAug, fIf, fBin, fBinT, fTru, fAnd, fOr, fNot, fAndV, fOrV, fNotV, fNeg, fName, fPeek, fD, fN, fLst, fTup, fCons, fCall, fCallN, fDef, fFld, fInt, fSl, fIt, fItA, fStuck, fCv, fCn, fCd, stN, stCons, stNil, stTup, mB, mP, mO, look, lookA, asBl, asInt, vAdd, vSub, vMul, vFdiv, vMod, vCmp, vIs, isNon, vAugAdd, fApp, fExt, fMs, fMn, List.getElem?_cons_zero, List.getElem?_cons_succ, List.getElem?_nil, List.set_cons_zero, List.set_cons_succ, List.length_cons, List.length_nil, Option.bind_some, Option.map_some, if_true, if_false, reduceIte, List.nil_append, List.cons_append, List.append_nil, resOf, Nat.reduceAdd, Nat.reduceEqDiff, Nat.reduceLT, Nat.reduceLeDiff, Int.reduceLT, Int.reduceLE, Int.reduceNeg, and_self, true_and, and_true, decide_true, decide_false, Bool.false_eq_true, Bool.not_true, Bool.not_false, Int.reduceAbs, Int.natAbs_neg, or_true, true_or, vIx, vLen, vAbs, vSum, vMax, vMin, decide_eq_true_eq, Bool.not_eq_true, List.length_map, h, e, List.getElem?_eq_getElem hl', Option.getD_some, absP]
  · have ed := draw_eq (absP ns.sum + 7919 * k) k 999983 (by decide)
    simp only [absP] at ed
    simp only [f__law_cell_at, fnRun, b__law_cell_at, envOf, List.map_cons, List.map_nil, List.replicate, Nat.reduceSub, fSeq, fAsg, fAsgN, fRet, fRetO, fExpr, fTo, fPar2, fPar3, fAug, fIf, fBin, fBinT, fTru, fAnd, fOr, fNot, fAndV, fOrV, fNotV, fNeg, fName, fPeek, fD, fN, fLst, fTup, fCons, fCall, fCallN, fDef, fFld, fInt, fSl, fIt, fItA, fStuck, fCv, fCn, fCd, stN, stCons, stNil, stTup, mB, mP, mO, look, lookA, asBl, asInt, vAdd, vSub, vMul, vFdiv, vMod, vCmp, vIs, isNon, vAugAdd, fApp, fExt, fMs, fMn, List.getElem?_cons_zero, List.getElem?_cons_succ, List.getElem?_nil, List.set_cons_zero, List.set_cons_succ, List.length_cons, List.length_nil, Option.bind_some, Option.map_some, if_true, if_false, reduceIte, List.nil_append, List.cons_append, List.append_nil, resOf, Nat.reduceAdd, Nat.reduceEqDiff, Nat.reduceLT, Nat.reduceLeDiff, Int.reduceLT, Int.reduceLE, Int.reduceNeg, and_self, true_and, and_true, decide_true, decide_false, Bool.false_eq_true, Bool.not_true, Bool.not_false, Int.reduceAbs, Int.natAbs_neg, or_true, true_or, vIx, vLen, vAbs, vSum, vMax, vMin, decide_eq_true_eq, Bool.not_eq_true, List.length_map, h, intsD_map, ed, absP]
def digB (cell base : Int) (t : Int) : Int := (drawP ((cell + 977 * t) * (cell + 31 * t + 5)) (t % 9 + 1) 999983 * 1000003 + drawP ((cell + 31 * t) * (cell + 7) + 977 * t) (t % 7 + 2) 1000003) % base
def digGo (cell base : Int) : Nat → Int → Int → List Int
  | 0, _, _ => []
  | n + 1, left, t => if cell ≥ 1000000000000000000 then (left % base) :: digGo cell base n (left / base) (t + 1) else digB cell base t :: digGo cell base n left (t + 1)
theorem digGo_len (cell base : Int) : ∀ n left t, (digGo cell base n left t).length = n
  | 0, _, _ => rfl
  | n + 1, left, t => by
    unfold digGo
    split <;> simp [digGo_len cell base n]
theorem digGo_in (cell : Int) {base : Int} (hb : 0 < base) : ∀ n left t, ∀ d ∈ digGo cell base n left t, 0 ≤ d ∧ d < base
  | 0, _, _, d, h => by cases h
  | n + 1, left, t, d, h => by
    unfold digGo at h
    split at h
    · rcases List.mem_cons.mp h with rfl | h
      · exact ⟨Int.emod_nonneg _ (by omega), Int.emod_lt_of_pos _ hb⟩
      · exact digGo_in cell hb n _ _ d h
    · rcases List.mem_cons.mp h with rfl | h
      · exact ⟨Int.emod_nonneg _ (by omega), Int.emod_lt_of_pos _ hb⟩
      · exact digGo_in cell hb n _ _ d h
theorem rangeD_succ (lo : Int) (n : Nat) : rangeD lo (n + 1) = .int lo :: rangeD (lo + 1) n := by
  unfold rangeD
  rw [List.range_succ_eq_map, List.map_cons, List.map_map]
  congr 1
  · simp
  · apply List.map_congr_left
    intro k _
    simp only [Function.comp, Da.int.injEq]
    omega
theorem rangeD_zero (lo : Int) : rangeD lo 0 = [] := rfl
def digP (ns : List Int) (a n base : Int) : List Int := digGo (cellP ns a) base n.toNat (cellP ns a - 1000000000000000000) 0
theorem forL_cons {st : Da → Env → Option Env} {body : EM Fl} {d : Da} {ds : List Da} {ρ ρ1 ρ2 : Env} (e : st d ρ = some ρ1) (e2 : body ρ1 = .ok .nx ρ2) : forL st body (d :: ds) ρ = forL st body ds ρ2 := by
  simp only [forL, e, e2]
abbrev digE (ns : List Int) (a m base c : Int) (acc : List Int) (left : Int) (x y z : Option Ce) : Env := [some (.imm (.lst (ns.map .int))), some (.imm (.int a)), some (.imm (.int m)), some (.imm (.int base)), some (.imm (.int c)), some (.lst (acc.map .int)), some (.imm (.int left)), x, y, z]
theorem dig_s1 (ns : List Int) (a m base c : Int) (acc : List Int) (left t : Int) (y z : Option Ce) (hb : 0 < base) (hb' : base < 1073741824) (hl : acc.length < 16777216) (h : c ≥ 1000000000000000000) :
    p1__law_digits (digE ns a m base c acc left (some (.imm (.int t))) y z) = .ok .nx (digE ns a m base c (acc ++ [left % base]) (left / base) (some (.imm (.int t))) y z) := by
  simp only [p1__law_digits, digE, fSeq, fAsg, fAsgN, fRet, fRetO, fExpr, fTo, fPar2, fPar3, fAug, fIf, fBin, fBinT, fTru, fAnd, fOr, fNot, fAndV, fOrV, fNotV, fNeg, fName, fPeek, fD, fN, fLst, fTup, fCons, fCall, fCallN, fDef, fFld, fInt, fSl, fIt, fItA, fStuck, fCv, fCn, fCd, stN, stCons, stNil, stTup, mB, mP, mO, look, lookA, asBl, asInt, vAdd, vSub, vMul, vFdiv, vMod, vCmp, vIs, isNon, vAugAdd, fApp, fExt, fMs, fMn, List.getElem?_cons_zero, List.getElem?_cons_succ, List.getElem?_nil, List.set_cons_zero, List.set_cons_succ, List.length_cons, List.length_nil, Option.bind_some, Option.map_some, if_true, if_false, reduceIte, List.nil_append, List.cons_append, List.append_nil, resOf, Nat.reduceAdd, Nat.reduceEqDiff, Nat.reduceLT, Nat.reduceLeDiff, Int.reduceLT, Int.reduceLE, Int.reduceNeg, and_self, true_and, and_true, decide_true, decide_false, Bool.false_eq_true, Bool.not_true, Bool.not_false, Int.reduceAbs, Int.natAbs_neg, or_true, true_or, vIx, vLen, vAbs, vSum, vMax, vMin, decide_eq_true_eq, Bool.not_eq_true, vPow, Int.reducePow, Int.reduceToNat, h, hb, hb', List.length_map, hl, List.map_append, List.map_cons, List.map_nil]
theorem dig_s2 (ns : List Int) (a m base c : Int) (acc : List Int) (left t : Int) (y z : Option Ce) (hb : 0 < base) (hl : acc.length < 16777216) (h : ¬ c ≥ 1000000000000000000) (h1 : (c + 977 * t).natAbs < 18446744073709551616) (h2 : (c + 31 * t).natAbs < 18446744073709551616) :
    p1__law_digits (digE ns a m base c acc left (some (.imm (.int t))) y z) = .ok .nx (digE ns a m base c (acc ++ [digB c base t]) left (some (.imm (.int t))) (some (.imm (.int (drawP ((c + 977 * t) * (c + 31 * t + 5)) (t % 9 + 1) 999983)))) (some (.imm (.int (drawP ((c + 31 * t) * (c + 7) + 977 * t) (t % 7 + 2) 1000003))))) := by
  have e1 := draw_eq ((c + 977 * t) * (c + 31 * t + 5)) (t % 9 + 1) 999983 (by decide)
  have e2 := draw_eq ((c + 31 * t) * (c + 7) + 977 * t) (t % 7 + 2) 1000003 (by decide)
  simp only [p1__law_digits, digE, fSeq, fAsg, fAsgN, fRet, fRetO, fExpr, fTo, fPar2, fPar3, fAug, fIf, fBin, fBinT, fTru, fAnd, fOr, fNot, fAndV, fOrV, fNotV, fNeg, fName, fPeek, fD, fN, fLst, fTup, fCons, fCall, fCallN, fDef, fFld, fInt, fSl, fIt, fItA, fStuck, fCv, fCn, fCd, stN, stCons, stNil, stTup, mB, mP, mO, look, lookA, asBl, asInt, vAdd, vSub, vMul, vFdiv, vMod, vCmp, vIs, isNon, vAugAdd, fApp, fExt, fMs, fMn, List.getElem?_cons_zero, List.getElem?_cons_succ, List.getElem?_nil, List.set_cons_zero, List.set_cons_succ, List.length_cons, List.length_nil, Option.bind_some, Option.map_some, if_true, if_false, reduceIte, List.nil_append, List.cons_append, List.append_nil, resOf, Nat.reduceAdd, Nat.reduceEqDiff, Nat.reduceLT, Nat.reduceLeDiff, Int.reduceLT, Int.reduceLE, Int.reduceNeg, and_self, true_and, and_true, decide_true, decide_false, Bool.false_eq_true, Bool.not_true, Bool.not_false, Int.reduceAbs, Int.natAbs_neg, or_true, true_or, vIx, vLen, vAbs, vSum, vMax, vMin, decide_eq_true_eq, Bool.not_eq_true, vPow, Int.reducePow, Int.reduceToNat, h, hb, h1, h2, e1, e2, List.length_map, hl, List.map_append, List.map_cons, List.map_nil, digB]
theorem dig_loop (ns : List Int) (a m base c : Int) (hb : 0 < base) (hb' : base < 1073741824) (c0 : 0 ≤ c) : ∀ (k : Nat) (acc : List Int) (left t : Int) (x y z : Option Ce), acc.length + k ≤ 1000000 → 0 ≤ t → t + k ≤ 1000000 → ∃ left' x' y' z',
    forL (stN 7) p1__law_digits (rangeD t k) (digE ns a m base c acc left x y z) = .ok .nx (digE ns a m base c (acc ++ digGo c base k left t) left' x' y' z') := by
  intro k
  induction k with
  | zero =>
    intro acc left t x y z _ _ _
    exact ⟨left, x, y, z, by simp only [rangeD_zero, forL, mP, digGo, List.append_nil]⟩
  | succ k ih =>
    intro acc left t x y z hk ht hk2
    have hl : acc.length < 16777216 := by omega
    have hk3 : ∀ d : Int, (acc ++ [d]).length + k ≤ 1000000 := fun d => by rw [List.length_append, List.length_singleton]; omega
    rw [rangeD_succ]
    by_cases h : c ≥ 1000000000000000000
    · obtain ⟨l', x', y', z', e⟩ := ih (acc ++ [left % base]) (left / base) (t + 1) (some (.imm (.int t))) y z (hk3 _) (by omega) (by omega)
      refine ⟨l', x', y', z', ?_⟩
      rw [forL_cons (ρ1 := digE ns a m base c acc left (some (.imm (.int t))) y z) rfl (dig_s1 ns a m base c acc left t y z hb hb' hl h), e]
      simp only [digGo, if_pos h, List.append_assoc, List.cons_append, List.nil_append]
    · have h1 : (c + 977 * t).natAbs < 18446744073709551616 := by omega
      have h2 : (c + 31 * t).natAbs < 18446744073709551616 := by omega
      obtain ⟨l', x', y', z', e⟩ := ih (acc ++ [digB c base t]) left (t + 1) (some (.imm (.int t))) (some (.imm (.int (drawP ((c + 977 * t) * (c + 31 * t + 5)) (t % 9 + 1) 999983)))) (some (.imm (.int (drawP ((c + 31 * t) * (c + 7) + 977 * t) (t % 7 + 2) 1000003)))) (hk3 _) (by omega) (by omega)
      refine ⟨l', x', y', z', ?_⟩
      rw [forL_cons (ρ1 := digE ns a m base c acc left (some (.imm (.int t))) y z) rfl (dig_s2 ns a m base c acc left t y z hb hl h h1 h2), e]
      simp only [digGo, if_neg h, List.append_assoc, List.cons_append, List.nil_append]
theorem digs_eq (ns : List Int) (a n base : Int) (ha : 0 ≤ a) (hn : 0 ≤ n) (hn' : n ≤ 1000000) (hb : 0 < base) (hb' : base < 1073741824) :
    f__law_digits [.lst (ns.map .int), .int a, .int n, .int base] = .ok (.lst ((digP ns a n base).map .int)) := by
  have ec := cell_eq ns a ha
  obtain ⟨l', x', y', z', e⟩ := dig_loop ns a n base (cellP ns a) hb hb' (cellP_nn ns a) n.toNat [] (cellP ns a - 1000000000000000000) 0 none none none (by simp; omega) (by omega) (by omega)
  have r1 : (-4611686018427387904 : Int) ≤ n ∧ n < 4611686018427387904 := by omega
  simp only [digE, List.map_nil, List.nil_append] at e
  simp only [f__law_digits, fnRun, b__law_digits, envOf, List.map_cons, List.map_nil, List.replicate, Nat.reduceSub, fSeq, fAsg, fAsgN, fRet, fRetO, fExpr, fTo, fPar2, fPar3, fAug, fIf, fBin, fBinT, fTru, fAnd, fOr, fNot, fAndV, fOrV, fNotV, fNeg, fName, fPeek, fD, fN, fLst, fTup, fCons, fCall, fCallN, fDef, fFld, fInt, fSl, fIt, fItA, fStuck, fCv, fCn, fCd, stN, stCons, stNil, stTup, mB, mP, mO, look, lookA, asBl, asInt, vAdd, vSub, vMul, vFdiv, vMod, vCmp, vIs, isNon, vAugAdd, fApp, fExt, fMs, fMn, List.getElem?_cons_zero, List.getElem?_cons_succ, List.getElem?_nil, List.set_cons_zero, List.set_cons_succ, List.length_cons, List.length_nil, Option.bind_some, Option.map_some, if_true, if_false, reduceIte, List.nil_append, List.cons_append, List.append_nil, resOf, Nat.reduceAdd, Nat.reduceEqDiff, Nat.reduceLT, Nat.reduceLeDiff, Int.reduceLT, Int.reduceLE, Int.reduceNeg, and_self, true_and, and_true, decide_true, decide_false, Bool.false_eq_true, Bool.not_true, Bool.not_false, Int.reduceAbs, Int.natAbs_neg, or_true, true_or, vIx, vLen, vAbs, vSum, vMax, vMin, decide_eq_true_eq, Bool.not_eq_true, vPow, Int.reducePow, Int.reduceToNat, ec, fFor, rng1, r1, e]
  rfl
end Kb
namespace Kb
/-! signs, runs, the plain form of a mark: plain lists -/
def sg : List Nat := [46, 97, 98, 99, 100, 101, 102, 103, 104, 105, 106, 107, 108, 109, 110, 111, 112, 113, 114, 115, 116, 117, 118, 119, 120, 121, 122]
def idx (c : Nat) : Nat := if c = 46 then 0 else c - 96
def nx (c : Nat) : Nat := if c = 46 then 97 else c + 1
theorem sg_len : sg.length = 27 := rfl
theorem sg_mem {c : Nat} : c ∈ sg ↔ c = 46 ∨ (97 ≤ c ∧ c ≤ 122) := by
  simp only [sg, List.mem_cons, List.mem_nil_iff, or_false]
  omega
theorem idx_lt {c : Nat} (h : c ∈ sg) : idx c < 27 := by
  rw [sg_mem] at h
  unfold idx
  split <;> omega
theorem sg_all : ∀ c ∈ sg, sg[idx c]? = some c := by decide
theorem sg_idx {c : Nat} (h : c ∈ sg) : sg[idx c]? = some c := sg_all c h
theorem idx_all : ∀ i, i < 27 → ∀ c, sg[i]? = some c → idx c = i := by
  intro i hi c h
  have key : ∀ i ∈ List.range 27, (sg[i]?).map idx = some i := by decide
  have := key i (List.mem_range.mpr hi)
  rw [h] at this
  simpa using this
theorem idx_inj {c d : Nat} (hc : c ∈ sg) (hd : d ∈ sg) (h : idx c = idx d) : c = d := by
  have a := sg_idx hc
  have b := sg_idx hd
  rw [h, b] at a
  exact (Option.some.inj a).symm
theorem nx_idx {c d : Nat} (hc : c ∈ sg) (hd : d ∈ sg) : d = nx c ↔ idx d = idx c + 1 := by
  rw [sg_mem] at hc hd
  unfold nx idx
  split <;> split <;> omega
/-- neighbours -/
def Chn : List Nat → Prop
  | x :: y :: r => y = nx x ∧ Chn (y :: r)
  | _ => True
theorem Chn.tail {x : Nat} {r : List Nat} (h : Chn (x :: r)) : Chn r := by
  cases r with
  | nil => trivial
  | cons y r => exact h.2
theorem chn_append {a : List Nat} {x y : Nat} {b : List Nat} : Chn (a ++ [x]) → y = nx x → Chn (y :: b) → Chn (a ++ [x] ++ y :: b) := by
  induction a with
  | nil => exact fun _ e h => ⟨e, h⟩
  | cons z a ih =>
    intro h e hb
    cases a with
    | nil => exact ⟨h.1, ih trivial e hb⟩
    | cons w a => exact ⟨h.1, ih h.2 e hb⟩
theorem Chn.left {a b : List Nat} (h : Chn (a ++ b)) : Chn a := by
  induction a with
  | nil => trivial
  | cons x a ih =>
    cases a with
    | nil => trivial
    | cons y a => exact ⟨h.1, ih h.2⟩
theorem Chn.right {a b : List Nat} (h : Chn (a ++ b)) : Chn b := by
  induction a with
  | nil => exact h
  | cons x a ih => exact ih h.tail
/-- a chain of signs is a stretch of the signs -/
theorem chn_take : ∀ (l : List Nat) (c : Nat), (∀ x ∈ c :: l, x ∈ sg) → Chn (c :: l) → (sg.drop (idx c)).take (l.length + 1) = c :: l := by
  intro l
  induction l with
  | nil =>
    intro c hm _
    have hc := hm c (List.mem_cons_self ..)
    have hl : idx c < sg.length := idx_lt hc
    have := sg_idx hc
    rw [List.getElem?_eq_getElem hl] at this
    rw [List.drop_eq_getElem_cons hl]
    simp only [Option.some.injEq] at this
    rw [this]
    rfl
  | cons d l ih =>
    intro c hm h
    have hc := hm c (List.mem_cons_self ..)
    have hd := hm d (List.mem_cons_of_mem _ (List.mem_cons_self ..))
    have hl : idx c < sg.length := idx_lt hc
    have e := sg_idx hc
    rw [List.getElem?_eq_getElem hl] at e
    simp only [Option.some.injEq] at e
    rw [List.drop_eq_getElem_cons hl, e, List.length_cons, List.take_succ_cons, ← (nx_idx hc hd).mp h.1, ih d (fun x hx => hm x (List.mem_cons_of_mem _ hx)) h.2]
/-- a stretch of the signs is a chain -/
theorem chn_sub : Chn sg := by
  unfold sg
  simp [Chn, nx]
theorem chn_of_take (i n : Nat) : Chn ((sg.drop i).take n) := by
  have h : Chn (sg.take i ++ sg.drop i) := by rw [List.take_append_drop]; exact chn_sub
  have h2 : Chn ((sg.drop i).take n ++ (sg.drop i).drop n) := by rw [List.take_append_drop]; exact h.right
  exact h2.left
/-- what a filter of the signs is: climbing -/
def Clm : List Nat → Prop
  | x :: y :: r => idx x < idx y ∧ Clm (y :: r)
  | _ => True
theorem Clm.tail {x : Nat} {r : List Nat} (h : Clm (x :: r)) : Clm r := by
  cases r with
  | nil => trivial
  | cons y r => exact h.2
theorem clm_right {a b : List Nat} (h : Clm (a ++ b)) : Clm b := by
  induction a with
  | nil => exact h
  | cons x a ih => exact ih h.tail
theorem clm_cons {x : Nat} {r : List Nat} (h : Clm r) (h2 : ∀ y, r.head? = some y → idx x < idx y) : Clm (x :: r) := by
  cases r with
  | nil => trivial
  | cons y r => exact ⟨h2 y rfl, h⟩
theorem Clm.lt {x : Nat} {r : List Nat} (h : Clm (x :: r)) : ∀ y ∈ r, idx x < idx y := by
  induction r generalizing x with
  | nil => intro y hy; cases hy
  | cons z r ih =>
    intro y hy
    rcases List.mem_cons.mp hy with rfl | hy
    · exact h.1
    · exact Nat.lt_trans h.1 (ih h.2 y hy)
theorem clm_filter (p : Nat → Bool) {l : List Nat} (h : Clm l) : Clm (l.filter p) := by
  induction l with
  | nil => trivial
  | cons x l ih =>
    rw [List.filter_cons]
    split
    · refine clm_cons (ih h.tail) fun y hy => h.lt y ?_
      have := List.mem_of_mem_head? (by rw [hy]; rfl : y ∈ (l.filter p).head?)
      exact (List.mem_filter.mp this).1
    · exact ih h.tail
theorem clm_sg : Clm sg := by
  unfold sg
  simp [Clm, idx]
/-- runs -/
def runs : List Nat → List (List Nat)
  | [] => []
  | x :: xs => match runs xs with
    | [] => [[x]]
    | r :: rs => if r.head? = some (nx x) then (x :: r) :: rs else [x] :: r :: rs
def rend (r : List Nat) : List Nat := match r with
  | [] => []
  | [a] => [a]
  | [a, b] => [a, b]
  | a :: b :: c :: l => [a, 45, (a :: b :: c :: l).getLastD 0]
theorem runs_head : ∀ (x : Nat) (xs : List Nat), ∃ r rs, runs (x :: xs) = (x :: r) :: rs := by
  intro x xs
  unfold runs
  split
  · exact ⟨_, _, rfl⟩
  · split <;> exact ⟨_, _, rfl⟩
theorem runs_cons (x : Nat) (xs : List Nat) : runs (x :: xs) = match runs xs with
    | [] => [[x]]
    | r :: rs => if r.head? = some (nx x) then (x :: r) :: rs else [x] :: r :: rs := rfl
/-- a run goes on through a chain -/
theorem runs_chn : ∀ (r : List Nat) (x : Nat) (t : List Nat), Chn (x :: r) → (∀ y, t.head? = some y → y ≠ nx ((x :: r).getLastD 0)) → runs (x :: r ++ t) = (x :: r) :: runs t := by
  intro r
  induction r with
  | nil =>
    intro x t _ ht
    show runs (x :: t) = [x] :: runs t
    cases t with
    | nil => rfl
    | cons y t =>
      obtain ⟨r, rs, e⟩ := runs_head y t
      have hne : ¬ y = nx x := ht y rfl
      rw [runs_cons, e]
      simp only [List.head?_cons, Option.some.injEq, if_neg hne]
  | cons z r ih =>
    intro x t h ht
    show runs (x :: (z :: r ++ t)) = _
    rw [runs_cons, ih z t h.2 (by simpa using ht)]
    simp only [List.head?_cons, h.1, if_true]
/-- the plain form of a mark -/
def plainM (m : List Nat) : List Nat :=
  if m = [42] ∨ m.length = 1 then m else if m = sg then [63] else if m = [] then [91, 33, 46, 45, 122, 93] else [91] ++ (runs m).flatMap rend ++ [93]
def IsM (m : List Nat) : Prop := m = [42] ∨ ∃ p : Nat → Bool, m = sg.filter p
end Kb
namespace Kb
open Vl
open L2 (ixN atI)
/-! operations on what the marks are made of -/
theorem vEq_str (a b : List Nat) : vEq false (.str a) (.str b) = some (.bl (decide (a = b))) := by
  by_cases h : a = b <;> simp [vEq, plainD, dep, dq, h]
theorem vNe_str (a b : List Nat) : vEq true (.str a) (.str b) = some (.bl (!decide (a = b))) := by
  by_cases h : a = b <;> simp [vEq, plainD, dep, dq, h]
theorem vEq_int (a b : Int) : vEq false (.int a) (.int b) = some (.bl (decide (a = b))) := by
  by_cases h : a = b <;> simp [vEq, plainD, dep, dq, h]
theorem vEq_bl (a b : Bool) : vEq false (.bl a) (.bl b) = some (.bl (decide (a = b))) := by
  cases a <;> cases b <;> simp [vEq, plainD, dep, dq]
theorem vNe_bl (a b : Bool) : vEq true (.bl a) (.bl b) = some (.bl (!decide (a = b))) := by
  cases a <;> cases b <;> simp [vEq, plainD, dep, dq]
theorem plainA_str (ls : List (List Nat)) : plainA (ls.map .str) = true := by
  induction ls with
  | nil => rfl
  | cons l ls ih => simp [plainA, plainD, ih]
theorem depA_str (ls : List (List Nat)) : depA (ls.map .str) = 0 := by
  induction ls with
  | nil => rfl
  | cons l ls ih => simp [depA, dep, ih]
theorem dqA_str : ∀ (ls ms : List (List Nat)), dqA (ls.map .str) (ms.map .str) = decide (ls = ms)
  | [], [] => by simp [dqA]
  | [], _ :: _ => by simp [dqA]
  | _ :: _, [] => by simp [dqA]
  | l :: ls, m :: ms => by
    simp only [List.map_cons, dqA, dq, dqA_str ls ms]
    by_cases h : l = m <;> by_cases h2 : ls = ms <;> simp [h, h2]
theorem vEq_strs (ls ms : List (List Nat)) : vEq false (.lst (ls.map .str)) (.lst (ms.map .str)) = some (.bl (decide (ls = ms))) := by
  unfold vEq
  rw [if_pos (by simp [plainD, plainA_str, dep, depA_str])]
  simp [dq, dqA_str]
theorem vNe_strs (ls ms : List (List Nat)) : vEq true (.lst (ls.map .str)) (.lst (ms.map .str)) = some (.bl (!decide (ls = ms))) := by
  unfold vEq
  rw [if_pos (by simp [plainD, plainA_str, dep, depA_str])]
  simp [dq, dqA_str]
theorem subIn_iff {a b : List Nat} : subIn a b = true ↔ ∃ i, (b.drop i).take a.length = a := by
  unfold subIn
  rw [List.any_eq_true]
  constructor
  · rintro ⟨i, _, h⟩
    exact ⟨i, by simpa using h⟩
  · rintro ⟨i, h⟩
    by_cases hi : i < b.length + 1
    · exact ⟨i, List.mem_range.mpr hi, by simpa using h⟩
    · refine ⟨b.length, List.mem_range.mpr (by omega), ?_⟩
      rw [List.drop_of_length_le (by omega)] at h
      rw [List.drop_length]
      simpa using h
theorem subIn_one (c : Nat) (b : List Nat) : subIn [c] b = decide (c ∈ b) := by
  rw [Bool.eq_iff_iff, subIn_iff, decide_eq_true_eq]
  constructor
  · rintro ⟨i, h⟩
    have : c ∈ (b.drop i).take 1 := by
      have h' : (b.drop i).take 1 = [c] := h
      rw [h']
      exact List.mem_singleton_self c
    exact List.mem_of_mem_drop (List.mem_of_mem_take this)
  · intro h
    obtain ⟨i, hi, e⟩ := List.mem_iff_getElem.mp h
    refine ⟨i, ?_⟩
    rw [List.drop_eq_getElem_cons hi, e]
    rfl
theorem vIn_one (c : Nat) (b : List Nat) : vIn false (.str [c]) (.str b) = some (.bl (decide (c ∈ b))) := by
  simp [vIn, subIn_one]
theorem vNotin_one (c : Nat) (b : List Nat) : vIn true (.str [c]) (.str b) = some (.bl (!decide (c ∈ b))) := by
  simp [vIn, subIn_one]
theorem strsD_map (ls : List (List Nat)) : strsD (ls.map .str) = some ls := by
  induction ls with
  | nil => rfl
  | cons l ls ih => rw [List.map_cons]; unfold strsD; rw [ih]
theorem sJoin_map (a : List Nat) (ls : List (List Nat)) (h : (ls.map (·.length)).sum + ls.length * a.length ≤ 16777216) : sJoin a [.lst (ls.map .str)] = some (.str (joinN a ls)) := by
  simp only [sJoin, strsD_map, if_pos h]
theorem joinN_nil (ls : List (List Nat)) : joinN [] ls = ls.flatten := by
  induction ls with
  | nil => rfl
  | cons l ls ih =>
    cases ls with
    | nil => simp [joinN]
    | cons m ms => rw [joinN, ih]; simp
theorem flat_one (l : List Nat) : (l.map fun c => [c]).flatten = l := by
  induction l with
  | nil => rfl
  | cons c l ih => simp [ih]
theorem sum_one (l : List Nat) : ((l.map fun c => [c]).map (·.length)).sum = l.length := by
  induction l with
  | nil => rfl
  | cons c l ih =>
    simp only [List.map_cons, List.length_singleton, List.sum_cons, ih, List.length_cons, List.length_nil]
    omega
theorem sJoin_one (l : List Nat) (h : l.length ≤ 16777216) : sJoin [] [.lst (l.map fun c => .str [c])] = some (.str l) := by
  have e : (l.map fun c => Da.str [c]) = (l.map fun c => [c]).map .str := by simp
  rw [e, sJoin_map _ _ (by simp only [sum_one]; simpa using h), joinN_nil, flat_one]
/-- a comprehension that looks and does not touch -/
theorem compL_pure {α : Type} {vs : List Nat} {st : Da → Env → Option Env} {t : EM Bool} {e : EM Da} {ρw : Env} {g : α → Da} {b : α → Bool} {y : α → Da} : ∀ (xs : List α) (acc : List Da) (ρ : Env),
    wipeE ρ vs = ρw → (∀ x ∈ xs, ∃ ρd, st (g x) ρw = some ρd ∧ t ρd = .ok (b x) ρd ∧ (b x = true → e ρd = .ok (y x) ρd) ∧ wipeE ρd vs = ρw) → acc.length + xs.length ≤ 16777216 →
    compL vs st t e (xs.map g) acc ρ = .ok (acc ++ (xs.filter b).map y) ρw
  | [], acc, ρ, hw, _, _ => by simp [compL, hw]
  | x :: xs, acc, ρ, hw, h, hl => by
    obtain ⟨ρd, h1, h2, h3, h4⟩ := h x (List.mem_cons_self ..)
    rw [List.length_cons] at hl
    have hl2 : acc.length < 16777216 := by omega
    rw [List.map_cons]
    unfold compL
    cases hb : b x with
    | false =>
      rw [hb] at h2
      simp only [hw, h1, h2]
      rw [compL_pure xs acc ρd h4 (fun z hz => h z (List.mem_cons_of_mem _ hz)) (by omega), List.filter_cons, hb]
      simp
    | true =>
      rw [hb] at h2
      simp only [hw, h1, h2, h3 hb, if_pos hl2]
      rw [compL_pure xs (acc ++ [y x]) ρd h4 (fun z hz => h z (List.mem_cons_of_mem _ hz)) (by simp; omega), List.filter_cons, hb]
      simp
/-! runs at work -/
theorem rend_eq (r : List Nat) : rend r = if r.length < 3 then r else [r.headD 0, 45, r.getLastD 0] := by
  match r with
  | [] => rfl
  | [a] => rfl
  | [a, b] => rfl
  | a :: b :: c :: l => rw [if_neg (by simp only [List.length_cons]; omega)]; rfl
theorem rend_len (r : List Nat) : (rend r).length ≤ r.length := by
  rw [rend_eq]
  split
  · exact Nat.le_refl _
  · simp only [List.length_cons, List.length_nil]; omega
theorem atI_zero {α : Type} (x : α) (xs : List α) : atI (x :: xs) 0 = some x := by
  unfold atI
  rw [ixN_nat (by decide) (by simp only [List.length_cons]; omega)]
  rfl
theorem atI_last {α : Type} (xs : List α) (h : xs ≠ []) (d : α) : atI xs (-1) = some (xs.getLastD d) := by
  have hl : 0 < xs.length := List.length_pos_iff.mpr h
  unfold atI ixN
  rw [if_neg (by decide), if_pos (by omega)]
  have e : ((-1 : Int) + (xs.length : Int)).toNat = xs.length - 1 := by omega
  simp only [Option.bind_some, e]
  rw [← List.getLast?_eq_getElem?, List.getLast?_eq_some_getLast h, List.getLastD_eq_getLast?, List.getLast?_eq_some_getLast h]
  rfl
theorem signs_eq : f__law_signs [] = .ok (.str sg) := id rfl
abbrev mpE (m found run : List Nat) (x : Option Ce) : Env := [some (.imm (.str m)), some (.imm (.str found)), some (.imm (.str run)), x]
theorem mp_s1 {m found run : List Nat} {c : Nat} (hc : c ≠ 33) (h : c ∈ m) (hl : run.length + 1 ≤ 16777216) :
    p1__law_mark_plain (mpE m found run (some (.imm (.str [c])))) = .ok .nx (mpE m found (run ++ [c]) (some (.imm (.str [c])))) := by
  have h1 : ¬ [c] = [33] := by simpa using hc
  simp only [p1__law_mark_plain, mpE, fSeq, fAsg, fAsgN, fRet, fRetO, fExpr, fTo, fPar2, fPar3, fAug, fIf, fBin, fBinT, fTru, fAnd, fOr, fNot, fAndV, fOrV, fNotV, fNeg, fName, fPeek, fD, fN, fLst, fTup, fCons, fCall, fCallN, fDef, fFld, fInt, fSl, fIt, fItA, fStuck, fCv, fCn, fCd, stN, stCons, stNil, stTup, mB, mP, mO, look, lookA, asBl, asInt, vAdd, vSub, vMul, vFdiv, vMod, vCmp, vIs, isNon, vAugAdd, fApp, fExt, fMs, fMn, List.getElem?_cons_zero, List.getElem?_cons_succ, List.getElem?_nil, List.set_cons_zero, List.set_cons_succ, List.length_cons, List.length_nil, Option.bind_some, Option.map_some, if_true, if_false, reduceIte, List.nil_append, List.cons_append, List.append_nil, resOf, Nat.reduceAdd, Nat.reduceEqDiff, Nat.reduceLT, Nat.reduceLeDiff, Int.reduceLT, Int.reduceLE, Int.reduceNeg, and_self, true_and, and_true, decide_true, decide_false, Bool.false_eq_true, Bool.not_true, Bool.not_false, Int.reduceAbs, Int.natAbs_neg, or_true, true_or, vIx, vLen, vAbs, vSum, vMax, vMin, decide_eq_true_eq, Bool.not_eq_true, vNe_str, h1, vIn_one, h, hl]
theorem fIf_t {α : Type} {t : EM Bool} {a b : EM α} {ρ ρ' : Env} (h : t ρ = .ok true ρ') : fIf t a b ρ = a ρ' := by
  simp only [fIf, mB, h, if_true]
theorem fIf_f {α : Type} {t : EM Bool} {a b : EM α} {ρ ρ' : Env} (h : t ρ = .ok false ρ') : fIf t a b ρ = b ρ' := by
  simp only [fIf, mB, h, Bool.false_eq_true, if_false]
theorem fSeq_nx {f g : EM Fl} {ρ ρ' : Env} (h : f ρ = .ok .nx ρ') : fSeq f g ρ = g ρ' := by
  simp only [fSeq, h]
theorem fSeq_rt {f g : EM Fl} {ρ ρ' : Env} {d : Da} (h : f ρ = .ok (.rt d) ρ') : fSeq f g ρ = .ok (.rt d) ρ' := by
  simp only [fSeq, h]
theorem rend_long {r : List Nat} (h : ¬ r.length < 3) : rend r = [r.headD 0, 45, r.getLastD 0] := by rw [rend_eq, if_neg h]
theorem rend_short {r : List Nat} (h : r.length < 3) : rend r = r := by rw [rend_eq, if_pos h]
theorem mp_key {m found run : List Nat} {x : Option Ce} (hl : found.length + run.length ≤ 1000) : (fAug 1 vAugAdd (fIf (fBinT vLt (fD (fCall vLen (fCons (fPeek 2) (mP [])))) (fD (mP (.int 3)))) (fName 2) (fBin vAdd (fD (fBin vAdd (fD (fBin vIx (fPeek 2) (fD (mP (.int 0))))) (fD (mP (.str [45]))))) (fD (fBin vIx (fPeek 2) (fD (fNeg (mP (.int 1))))))))) (mpE m found run x)
      = .ok .nx (mpE m (found ++ rend run) run x) := by
  have hl1 : run.length ≤ 16777216 := by omega
  have hl2 : found.length + run.length ≤ 16777216 := by omega
  by_cases h3 : run.length < 3
  · have h3' : (run.length : Int) < 3 := by omega
    simp only [mpE, fSeq, fAsg, fAsgN, fRet, fRetO, fExpr, fTo, fPar2, fPar3, fAug, fIf, fBin, fBinT, fTru, fAnd, fOr, fNot, fAndV, fOrV, fNotV, fNeg, fName, fPeek, fD, fN, fLst, fTup, fCons, fCall, fCallN, fDef, fFld, fInt, fSl, fIt, fItA, fStuck, fCv, fCn, fCd, stN, stCons, stNil, stTup, mB, mP, mO, look, lookA, asBl, asInt, vAdd, vSub, vMul, vFdiv, vMod, vCmp, vIs, isNon, vAugAdd, fApp, fExt, fMs, fMn, List.getElem?_cons_zero, List.getElem?_cons_succ, List.getElem?_nil, List.set_cons_zero, List.set_cons_succ, List.length_cons, List.length_nil, Option.bind_some, Option.map_some, if_true, if_false, reduceIte, List.nil_append, List.cons_append, List.append_nil, resOf, Nat.reduceAdd, Nat.reduceEqDiff, Nat.reduceLT, Nat.reduceLeDiff, Int.reduceLT, Int.reduceLE, Int.reduceNeg, and_self, true_and, and_true, decide_true, decide_false, Bool.false_eq_true, Bool.not_true, Bool.not_false, Int.reduceAbs, Int.natAbs_neg, or_true, true_or, vIx, vLen, vAbs, vSum, vMax, vMin, decide_eq_true_eq, Bool.not_eq_true, hl1, hl2, h3', rend_short h3]
  · have h3' : ¬ (run.length : Int) < 3 := by omega
    have hne : run ≠ [] := by intro e; rw [e] at h3; exact h3 (by decide)
    have er := rend_long h3
    obtain ⟨a, r, rfl⟩ := List.exists_cons_of_ne_nil hne
    have e1 : atI (a :: r) 0 = some a := atI_zero a r
    have e2 := atI_last (a :: r) hne 0
    have hl4 : found.length + 3 ≤ 16777216 := by rw [List.length_cons] at h3 hl; omega
    rw [List.length_cons] at hl1 h3'
    rw [er]
    simp only [mpE, fSeq, fAsg, fAsgN, fRet, fRetO, fExpr, fTo, fPar2, fPar3, fAug, fIf, fBin, fBinT, fTru, fAnd, fOr, fNot, fAndV, fOrV, fNotV, fNeg, fName, fPeek, fD, fN, fLst, fTup, fCons, fCall, fCallN, fDef, fFld, fInt, fSl, fIt, fItA, fStuck, fCv, fCn, fCd, stN, stCons, stNil, stTup, mB, mP, mO, look, lookA, asBl, asInt, vAdd, vSub, vMul, vFdiv, vMod, vCmp, vIs, isNon, vAugAdd, fApp, fExt, fMs, fMn, List.getElem?_cons_zero, List.getElem?_cons_succ, List.getElem?_nil, List.set_cons_zero, List.set_cons_succ, List.length_cons, List.length_nil, Option.bind_some, Option.map_some, if_true, if_false, reduceIte, List.nil_append, List.cons_append, List.append_nil, resOf, Nat.reduceAdd, Nat.reduceEqDiff, Nat.reduceLT, Nat.reduceLeDiff, Int.reduceLT, Int.reduceLE, Int.reduceNeg, and_self, true_and, and_true, decide_true, decide_false, Bool.false_eq_true, Bool.not_true, Bool.not_false, Int.reduceAbs, Int.natAbs_neg, or_true, true_or, vIx, vLen, vAbs, vSum, vMax, vMin, decide_eq_true_eq, Bool.not_eq_true, hl1, h3', e1, e2, hl4, List.headD_cons, Nat.reduceLeDiff]
theorem mp_s2 {m found run : List Nat} {c : Nat} (h : c = 33 ∨ c ∉ m) (hl : found.length + run.length ≤ 1000) :
    p1__law_mark_plain (mpE m found run (some (.imm (.str [c])))) = .ok .nx (mpE m (found ++ rend run) [] (some (.imm (.str [c])))) := by
  unfold p1__law_mark_plain
  rw [fIf_f (ρ' := mpE m found run (some (.imm (.str [c])))) ?_, fSeq_nx (mp_key hl)]
  · simp only [mpE, fSeq, fAsg, fAsgN, fRet, fRetO, fExpr, fTo, fPar2, fPar3, fAug, fIf, fBin, fBinT, fTru, fAnd, fOr, fNot, fAndV, fOrV, fNotV, fNeg, fName, fPeek, fD, fN, fLst, fTup, fCons, fCall, fCallN, fDef, fFld, fInt, fSl, fIt, fItA, fStuck, fCv, fCn, fCd, stN, stCons, stNil, stTup, mB, mP, mO, look, lookA, asBl, asInt, vAdd, vSub, vMul, vFdiv, vMod, vCmp, vIs, isNon, vAugAdd, fApp, fExt, fMs, fMn, List.getElem?_cons_zero, List.getElem?_cons_succ, List.getElem?_nil, List.set_cons_zero, List.set_cons_succ, List.length_cons, List.length_nil, Option.bind_some, Option.map_some, if_true, if_false, reduceIte, List.nil_append, List.cons_append, List.append_nil, resOf, Nat.reduceAdd, Nat.reduceEqDiff, Nat.reduceLT, Nat.reduceLeDiff, Int.reduceLT, Int.reduceLE, Int.reduceNeg, and_self, true_and, and_true, decide_true, decide_false, Bool.false_eq_true, Bool.not_true, Bool.not_false, Int.reduceAbs, Int.natAbs_neg, or_true, true_or, vIx, vLen, vAbs, vSum, vMax, vMin, decide_eq_true_eq, Bool.not_eq_true]
  · by_cases h1 : c = 33
    · have h1' : [c] = [33] := by rw [h1]
      simp only [mpE, fSeq, fAsg, fAsgN, fRet, fRetO, fExpr, fTo, fPar2, fPar3, fAug, fIf, fBin, fBinT, fTru, fAnd, fOr, fNot, fAndV, fOrV, fNotV, fNeg, fName, fPeek, fD, fN, fLst, fTup, fCons, fCall, fCallN, fDef, fFld, fInt, fSl, fIt, fItA, fStuck, fCv, fCn, fCd, stN, stCons, stNil, stTup, mB, mP, mO, look, lookA, asBl, asInt, vAdd, vSub, vMul, vFdiv, vMod, vCmp, vIs, isNon, vAugAdd, fApp, fExt, fMs, fMn, List.getElem?_cons_zero, List.getElem?_cons_succ, List.getElem?_nil, List.set_cons_zero, List.set_cons_succ, List.length_cons, List.length_nil, Option.bind_some, Option.map_some, if_true, if_false, reduceIte, List.nil_append, List.cons_append, List.append_nil, resOf, Nat.reduceAdd, Nat.reduceEqDiff, Nat.reduceLT, Nat.reduceLeDiff, Int.reduceLT, Int.reduceLE, Int.reduceNeg, and_self, true_and, and_true, decide_true, decide_false, Bool.false_eq_true, Bool.not_true, Bool.not_false, Int.reduceAbs, Int.natAbs_neg, or_true, true_or, vIx, vLen, vAbs, vSum, vMax, vMin, decide_eq_true_eq, Bool.not_eq_true, vNe_str, h1']
    · have h1' : ¬ [c] = [33] := by simpa using h1
      have h2 : c ∉ m := h.resolve_left h1
      simp only [mpE, fSeq, fAsg, fAsgN, fRet, fRetO, fExpr, fTo, fPar2, fPar3, fAug, fIf, fBin, fBinT, fTru, fAnd, fOr, fNot, fAndV, fOrV, fNotV, fNeg, fName, fPeek, fD, fN, fLst, fTup, fCons, fCall, fCallN, fDef, fFld, fInt, fSl, fIt, fItA, fStuck, fCv, fCn, fCd, stN, stCons, stNil, stTup, mB, mP, mO, look, lookA, asBl, asInt, vAdd, vSub, vMul, vFdiv, vMod, vCmp, vIs, isNon, vAugAdd, fApp, fExt, fMs, fMn, List.getElem?_cons_zero, List.getElem?_cons_succ, List.getElem?_nil, List.set_cons_zero, List.set_cons_succ, List.length_cons, List.length_nil, Option.bind_some, Option.map_some, if_true, if_false, reduceIte, List.nil_append, List.cons_append, List.append_nil, resOf, Nat.reduceAdd, Nat.reduceEqDiff, Nat.reduceLT, Nat.reduceLeDiff, Int.reduceLT, Int.reduceLE, Int.reduceNeg, and_self, true_and, and_true, decide_true, decide_false, Bool.false_eq_true, Bool.not_true, Bool.not_false, Int.reduceAbs, Int.natAbs_neg, or_true, true_or, vIx, vLen, vAbs, vSum, vMax, vMin, decide_eq_true_eq, Bool.not_eq_true, vNe_str, vIn_one, h2, h1']
theorem getLastD_append (a : List Nat) (x d : Nat) : (a ++ [x]).getLastD d = x := by
  rw [List.getLastD_eq_getLast?, List.getLast?_append]
  rfl
/-- the walk of the signs -/
theorem mp_loop (m : List Nat) : ∀ (ss found run : List Nat) (x : Option Ce), Chn (run ++ ss) → Clm (run ++ ss) → (∀ c ∈ run ++ ss, c ∈ sg) → found.length + run.length + ss.length ≤ 1000 →
    ∃ x', forL (stN 3) p1__law_mark_plain ((ss ++ [33]).map fun c => .str [c]) (mpE m found run x) = .ok .nx (mpE m (found ++ (runs (run ++ ss.filter (· ∈ m))).flatMap rend) [] x') := by
  intro ss
  induction ss with
  | nil =>
    intro found run x h1 h2 h3 hl
    rw [List.append_nil] at h1
    refine ⟨some (.imm (.str [33])), ?_⟩
    simp only [List.nil_append, List.map_cons, List.map_nil, List.filter_nil, List.append_nil]
    rw [forL_cons (ρ1 := mpE m found run (some (.imm (.str [33])))) rfl (mp_s2 (.inl rfl) (by simp at hl; omega))]
    cases run with
    | nil => simp only [forL, mP, runs, rend, List.flatMap_nil, List.append_nil]
    | cons a r =>
      have e := runs_chn r a [] h1 (by intro y hy; cases hy)
      rw [List.append_nil] at e
      rw [e]
      simp only [forL, mP, runs, List.flatMap_cons, List.flatMap_nil, List.append_nil]
  | cons s ss ih =>
    intro found run x h1 h2 h3 hl
    rw [List.length_cons] at hl
    have hs : s ∈ sg := h3 s (by simp)
    have hs33 : s ≠ 33 := by
      intro e
      rw [e, sg_mem] at hs
      omega
    by_cases hm : s ∈ m
    · obtain ⟨x', e⟩ := ih found (run ++ [s]) (some (.imm (.str [s]))) (by rw [List.append_assoc]; exact h1) (by rw [List.append_assoc]; exact h2) (by rw [List.append_assoc]; exact h3) (by simp; omega)
      refine ⟨x', ?_⟩
      rw [List.cons_append, List.map_cons, forL_cons (ρ1 := mpE m found run (some (.imm (.str [s])))) rfl (mp_s1 hs33 hm (by omega)), e, List.filter_cons, if_pos (by simpa using hm), List.append_assoc]
      rfl
    · obtain ⟨x', e⟩ := ih (found ++ rend run) [] (some (.imm (.str [s]))) h1.right.tail (clm_right h2).tail (fun c hc => h3 c (by simp at hc ⊢; exact .inr (.inr hc))) (by have := rend_len run; simp; omega)
      refine ⟨x', ?_⟩
      rw [List.cons_append, List.map_cons, forL_cons (ρ1 := mpE m found run (some (.imm (.str [s])))) rfl (mp_s2 (.inr hm) (by omega)), e, List.filter_cons, if_neg (by simpa using hm), List.nil_append]
      have key : rend run ++ (runs (ss.filter (· ∈ m))).flatMap rend = (runs (run ++ ss.filter (· ∈ m))).flatMap rend := by
       cases run with
       | nil => simp [rend]
       | cons a r =>
        rw [runs_chn r a _ h1.left ?_, List.flatMap_cons]
        intro y hy
        have hy' : y ∈ ss := (List.mem_filter.mp (List.mem_of_mem_head? hy)).1
        have hlt := (clm_right h2).lt y hy'
        have h4 : s = nx ((a :: r).getLastD 0) := by
          obtain ⟨q, z, e⟩ : ∃ q z, a :: r = q ++ [z] := ⟨(a :: r).dropLast, (a :: r).getLast (by simp), (List.dropLast_concat_getLast (by simp)).symm⟩
          rw [e] at h1 ⊢
          rw [getLastD_append]
          rw [List.append_assoc] at h1
          exact h1.right.1
        rw [← h4]
        intro e5
        rw [e5] at hlt
        omega
      rw [List.append_assoc, key]
theorem IsM.sub {m : List Nat} (h : IsM m) (hs : m ≠ [42]) : Clm m ∧ (∀ c ∈ m, c ∈ sg) ∧ sg.filter (· ∈ m) = m ∧ m.length ≤ 27 := by
  rcases h with h | ⟨p, rfl⟩
  · exact absurd h hs
  · refine ⟨clm_filter p clm_sg, fun c hc => (List.mem_filter.mp hc).1, List.filter_congr fun c hc => ?_, List.length_filter_le p sg⟩
    rw [Bool.eq_iff_iff, decide_eq_true_eq, List.mem_filter]
    exact ⟨fun h => h.2, fun h => ⟨hc, h⟩⟩
theorem runs_len : ∀ m : List Nat, ((runs m).flatMap rend).length ≤ m.length
  | [] => Nat.le_refl _
  | x :: xs => by
    have h := runs_len xs
    rw [runs_cons]
    split
    · simp [rend]
    · rename_i r rs e
      rw [e, List.flatMap_cons, List.length_append] at h
      split
      · rename_i hh
        have hr := rend_len (x :: r)
        have : (rend (x :: r)).length ≤ (rend r).length + 1 := by
          by_cases h1 : r.length < 2
          · rw [rend_short (by simp only [List.length_cons]; omega), rend_short (by omega)]
            exact Nat.le_refl _
          · rw [rend_long (by simp only [List.length_cons]; omega)]
            by_cases h2 : r.length < 3
            · rw [rend_short h2]
              simp only [List.length_cons, List.length_nil]
              omega
            · rw [rend_long h2]
              simp
        rw [List.flatMap_cons, List.length_append, List.length_cons]
        omega
      · rw [List.flatMap_cons, List.flatMap_cons, List.length_append, List.length_append]
        have e1 : (rend [x]).length = 1 := rfl
        rw [e1, List.length_cons]
        omega
theorem plainM_len (m : List Nat) : (plainM m).length ≤ m.length + 6 := by
  have := runs_len m
  unfold plainM
  split
  · omega
  · split
    · simp
    · split
      · simp
      · simp only [List.length_append, List.length_cons, List.length_nil]
        omega
theorem mark_plain_eq {m : List Nat} (h : IsM m) : f__law_mark_plain [.str m] = .ok (.str (plainM m)) := by
  by_cases h1 : m = [42]
  · subst h1
    rfl
  · obtain ⟨hc, hs, hf, hl⟩ := h.sub h1
    have hl' : m.length ≤ 16777216 := by omega
    unfold plainM
    by_cases h2 : m.length = 1
    · have h2' : (m.length : Int) = 1 := by omega
      simp only [f__law_mark_plain, fnRun, b__law_mark_plain, envOf, List.map_cons, List.map_nil, List.replicate, Nat.reduceSub, fSeq, fAsg, fAsgN, fRet, fRetO, fExpr, fTo, fPar2, fPar3, fAug, fIf, fBin, fBinT, fTru, fAnd, fOr, fNot, fAndV, fOrV, fNotV, fNeg, fName, fPeek, fD, fN, fLst, fTup, fCons, fCall, fCallN, fDef, fFld, fInt, fSl, fIt, fItA, fStuck, fCv, fCn, fCd, stN, stCons, stNil, stTup, mB, mP, mO, look, lookA, asBl, asInt, vAdd, vSub, vMul, vFdiv, vMod, vCmp, vIs, isNon, vAugAdd, fApp, fExt, fMs, fMn, List.getElem?_cons_zero, List.getElem?_cons_succ, List.getElem?_nil, List.set_cons_zero, List.set_cons_succ, List.length_cons, List.length_nil, Option.bind_some, Option.map_some, if_true, if_false, reduceIte, List.nil_append, List.cons_append, List.append_nil, resOf, Nat.reduceAdd, Nat.reduceEqDiff, Nat.reduceLT, Nat.reduceLeDiff, Int.reduceLT, Int.reduceLE, Int.reduceNeg, and_self, true_and, and_true, decide_true, decide_false, Bool.false_eq_true, Bool.not_true, Bool.not_false, Int.reduceAbs, Int.natAbs_neg, or_true, true_or, vIx, vLen, vAbs, vSum, vMax, vMin, decide_eq_true_eq, Bool.not_eq_true, vEq_str, vEq_int, h1, h2, hl', h2', or_true, Int.cast_ofNat_Int]
    · have h2' : ¬ (m.length : Int) = 1 := by omega
      by_cases h3 : m = sg
      · subst h3
        rfl
      · by_cases h4 : m = []
        · subst h4
          rfl
        · obtain ⟨x', e⟩ := mp_loop m sg [] [] none chn_sub clm_sg (fun c hc => hc) (by simp [sg_len])
          have hr := runs_len m
          rw [List.nil_append, List.nil_append, hf] at e
          have ha : sg.length + 1 ≤ 16777216 := by rw [sg_len]; decide
          have hb : 1 + ((runs m).flatMap rend).length ≤ 16777216 := by omega
          have hb2 : ((runs m).flatMap rend).length + 1 + 1 ≤ 16777216 := by omega
          simp only [mpE] at e
          simp only [f__law_mark_plain, fnRun, b__law_mark_plain, envOf, List.map_cons, List.map_nil, List.replicate, Nat.reduceSub, fSeq, fAsg, fAsgN, fRet, fRetO, fExpr, fTo, fPar2, fPar3, fAug, fIf, fBin, fBinT, fTru, fAnd, fOr, fNot, fAndV, fOrV, fNotV, fNeg, fName, fPeek, fD, fN, fLst, fTup, fCons, fCall, fCallN, fDef, fFld, fInt, fSl, fIt, fItA, fStuck, fCv, fCn, fCd, stN, stCons, stNil, stTup, mB, mP, mO, look, lookA, asBl, asInt, vAdd, vSub, vMul, vFdiv, vMod, vCmp, vIs, isNon, vAugAdd, fApp, fExt, fMs, fMn, List.getElem?_cons_zero, List.getElem?_cons_succ, List.getElem?_nil, List.set_cons_zero, List.set_cons_succ, List.length_cons, List.length_nil, Option.bind_some, Option.map_some, if_true, if_false, reduceIte, List.nil_append, List.cons_append, List.append_nil, resOf, Nat.reduceAdd, Nat.reduceEqDiff, Nat.reduceLT, Nat.reduceLeDiff, Int.reduceLT, Int.reduceLE, Int.reduceNeg, and_self, true_and, and_true, decide_true, decide_false, Bool.false_eq_true, Bool.not_true, Bool.not_false, Int.reduceAbs, Int.natAbs_neg, or_true, true_or, vIx, vLen, vAbs, vSum, vMax, vMin, decide_eq_true_eq, Bool.not_eq_true, vEq_str, vEq_int, h1, h2, h3, h4, hl', h2', or_false, signs_eq, fFor, itemsS, ha, e, hb, hb2]
end Kb
namespace Kb
open Vl
open L2 (ixN atI)
theorem cutD_nat {α : Type} (xs : List α) (a b : Nat) : cutD xs (some (a : Int)) (some (b : Int)) = (xs.drop a).take (b - a) := by
  unfold cutD
  rw [HT.sIx_nat, HT.sIx_nat]
  by_cases h : a < xs.length
  · rw [Nat.min_eq_left (Nat.le_of_lt h)]
    by_cases h2 : b ≤ xs.length
    · rw [Nat.min_eq_left h2]
    · rw [Nat.min_eq_right (by omega), List.take_of_length_le (by rw [List.length_drop]; omega), List.take_of_length_le (by rw [List.length_drop]; omega)]
  · rw [Nat.min_eq_right (by omega : xs.length ≤ a), List.drop_length, List.drop_of_length_le (by omega : xs.length ≤ a), List.take_nil, List.take_nil]
theorem cutD_int {α : Type} (xs : List α) {a b : Int} (ha : 0 ≤ a) (hb : 0 ≤ b) : cutD xs (some a) (some b) = (xs.drop a.toNat).take (b.toNat - a.toNat) := by
  obtain ⟨k, rfl⟩ := Int.eq_ofNat_of_zero_le ha
  obtain ⟨l, rfl⟩ := Int.eq_ofNat_of_zero_le hb
  exact cutD_nat xs k l
theorem whileN_stop {t : EM Bool} {b : EM Fl} {n : Nat} {ρ ρ' : Env} (hn : 0 < n) (h : t ρ = .ok false ρ') : whileN t b n ρ = .ok .nx ρ' := by
  cases n with
  | zero => omega
  | succ n => simp only [whileN, mB, mP, h, Bool.false_eq_true, if_false]
theorem whileN_step {t : EM Bool} {b : EM Fl} {n : Nat} {ρ ρ' ρ2 : Env} (h : t ρ = .ok true ρ') (h2 : b ρ' = .ok .nx ρ2) : whileN t b (n + 1) ρ = whileN t b n ρ2 := by
  simp only [whileN, mB, h, if_true, h2]
theorem run_first : ∀ (a : Nat) (l : List Nat), ∃ r t, a :: l = (a :: r) ++ t ∧ Chn (a :: r) ∧ ∀ y, t.head? = some y → y ≠ nx ((a :: r).getLastD 0)
  | a, [] => ⟨[], [], rfl, trivial, fun y h => by cases h⟩
  | a, b :: l => by
    by_cases h : b = nx a
    · obtain ⟨r, t, e, hc, ht⟩ := run_first b l
      exact ⟨b :: r, t, by rw [e]; rfl, ⟨h, hc⟩, by simpa using ht⟩
    · exact ⟨[], b :: l, rfl, trivial, fun y hy => by
        simp only [List.head?_cons, Option.some.injEq] at hy
        subst hy
        exact h⟩
theorem subIn_chn {r : List Nat} (h : Chn r) (hs : ∀ c ∈ r, c ∈ sg) : subIn r sg = true := by
  cases r with
  | nil => rfl
  | cons a r => exact subIn_iff.mpr ⟨idx a, chn_take r a hs h⟩
theorem subIn_no {r : List Nat} (h : ¬ Chn r) : subIn r sg = false := by
  rw [Bool.eq_false_iff]
  intro e
  obtain ⟨i, e⟩ := subIn_iff.mp e
  exact h (e ▸ chn_of_take i r.length)
theorem not_chn {r : List Nat} {a y : Nat} (h : y ≠ nx ((a :: r).getLastD 0)) : ¬ Chn (a :: r ++ [y]) := by
  obtain ⟨q, z, e⟩ : ∃ q z, a :: r = q ++ [z] := ⟨(a :: r).dropLast, (a :: r).getLast (by simp), (List.dropLast_concat_getLast (by simp)).symm⟩
  rw [e, getLastD_append] at h
  rw [e, List.append_assoc]
  intro hc
  exact h hc.right.1
abbrev tmE (m found : List Nat) (k : Nat) (x : Option Ce) : Env := [some (.imm (.str m)), some (.imm (.str found)), some (.imm (.int k)), x]
/-- the stretch goes on -/
theorem tm_inner {m r t : List Nat} {a k : Nat} (hm : m.drop k = a :: r ++ t) (hc : Chn (a :: r)) (ht : ∀ y, t.head? = some y → y ≠ nx ((a :: r).getLastD 0)) (hs : ∀ c ∈ m, c ∈ sg) (hl : m.length ≤ 1000) (found : List Nat) :
    ∀ (d j n : Nat), j + d = r.length → n > d → whileN p1_told_mark p2_told_mark n (tmE m found k (some (.imm (.int (k + j : Nat))))) = .ok .nx (tmE m found k (some (.imm (.int (k + r.length : Nat))))) := by
  have hlen : k + (a :: r ++ t).length = m.length := by
    have := congrArg List.length hm
    rw [List.length_drop] at this
    simp only [List.cons_append, List.length_cons] at this ⊢
    omega
  have hl' : m.length ≤ 16777216 := by omega
  have hcut : ∀ j : Nat, cutD m (some ((k : Nat) : Int)) (some (((k + j : Nat) : Int) + 2)) = (a :: r ++ t).take (j + 2) := fun j => by
    have e : (((k + j : Nat) : Int) + 2) = ((k + j + 2 : Nat) : Int) := by omega
    rw [e, cutD_nat, hm]
    congr 1
    omega
  have hsr : ∀ c ∈ a :: r ++ t, c ∈ sg := fun c h => hs c (List.mem_of_mem_drop (hm ▸ h))
  intro d
  induction d with
  | zero =>
    intro j n hj hn
    have hj' : j = r.length := by omega
    subst hj'
    refine whileN_stop hn ?_
    cases t with
    | nil =>
      have h1 : ¬ ((k + r.length : Nat) : Int) + 1 < m.length := by
        simp only [List.append_nil, List.length_cons] at hlen
        omega
      cases hb : subIn (cutD m (some ((k : Nat) : Int)) (some (((k + r.length : Nat) : Int) + 2))) sg with
      | true => simp only [p1_told_mark, tmE, fSeq, fAsg, fAsgN, fRet, fRetO, fExpr, fTo, fPar2, fPar3, fAug, fIf, fBin, fBinT, fTru, fAnd, fOr, fNot, fAndV, fOrV, fNotV, fNeg, fName, fPeek, fD, fN, fLst, fTup, fCons, fCall, fCallN, fDef, fFld, fInt, fSl, fIt, fItA, fStuck, fCv, fCn, fCd, stN, stCons, stNil, stTup, mB, mP, mO, look, lookA, asBl, asInt, vAdd, vSub, vMul, vFdiv, vMod, vCmp, vIs, isNon, vAugAdd, fApp, fExt, fMs, fMn, List.getElem?_cons_zero, List.getElem?_cons_succ, List.getElem?_nil, List.set_cons_zero, List.set_cons_succ, List.length_cons, List.length_nil, Option.bind_some, Option.map_some, if_true, if_false, reduceIte, List.nil_append, List.cons_append, List.append_nil, resOf, Nat.reduceAdd, Nat.reduceEqDiff, Nat.reduceLT, Nat.reduceLeDiff, Int.reduceLT, Int.reduceLE, Int.reduceNeg, and_self, true_and, and_true, decide_true, decide_false, Bool.false_eq_true, Bool.not_true, Bool.not_false, Int.reduceAbs, Int.natAbs_neg, or_true, true_or, vIx, vLen, vAbs, vSum, vMax, vMin, decide_eq_true_eq, Bool.not_eq_true, vSlS, hl', vIn, hb, show (c_SIGNS : List Nat) = sg from rfl, h1]
      | false => simp only [p1_told_mark, tmE, fSeq, fAsg, fAsgN, fRet, fRetO, fExpr, fTo, fPar2, fPar3, fAug, fIf, fBin, fBinT, fTru, fAnd, fOr, fNot, fAndV, fOrV, fNotV, fNeg, fName, fPeek, fD, fN, fLst, fTup, fCons, fCall, fCallN, fDef, fFld, fInt, fSl, fIt, fItA, fStuck, fCv, fCn, fCd, stN, stCons, stNil, stTup, mB, mP, mO, look, lookA, asBl, asInt, vAdd, vSub, vMul, vFdiv, vMod, vCmp, vIs, isNon, vAugAdd, fApp, fExt, fMs, fMn, List.getElem?_cons_zero, List.getElem?_cons_succ, List.getElem?_nil, List.set_cons_zero, List.set_cons_succ, List.length_cons, List.length_nil, Option.bind_some, Option.map_some, if_true, if_false, reduceIte, List.nil_append, List.cons_append, List.append_nil, resOf, Nat.reduceAdd, Nat.reduceEqDiff, Nat.reduceLT, Nat.reduceLeDiff, Int.reduceLT, Int.reduceLE, Int.reduceNeg, and_self, true_and, and_true, decide_true, decide_false, Bool.false_eq_true, Bool.not_true, Bool.not_false, Int.reduceAbs, Int.natAbs_neg, or_true, true_or, vIx, vLen, vAbs, vSum, vMax, vMin, decide_eq_true_eq, Bool.not_eq_true, vSlS, hl', vIn, hb, show (c_SIGNS : List Nat) = sg from rfl]
    | cons y t =>
      have hb : subIn (cutD m (some ((k : Nat) : Int)) (some (((k + r.length : Nat) : Int) + 2))) sg = false := by
        rw [hcut]
        have e : (a :: r ++ y :: t).take (r.length + 2) = a :: r ++ [y] := by
          rw [List.take_append, List.take_of_length_le (by simp only [List.length_cons]; omega)]
          have : r.length + 2 - (a :: r).length = 1 := by simp only [List.length_cons]; omega
          rw [this]
          rfl
        rw [e]
        exact subIn_no (not_chn (ht y rfl))
      simp only [p1_told_mark, tmE, fSeq, fAsg, fAsgN, fRet, fRetO, fExpr, fTo, fPar2, fPar3, fAug, fIf, fBin, fBinT, fTru, fAnd, fOr, fNot, fAndV, fOrV, fNotV, fNeg, fName, fPeek, fD, fN, fLst, fTup, fCons, fCall, fCallN, fDef, fFld, fInt, fSl, fIt, fItA, fStuck, fCv, fCn, fCd, stN, stCons, stNil, stTup, mB, mP, mO, look, lookA, asBl, asInt, vAdd, vSub, vMul, vFdiv, vMod, vCmp, vIs, isNon, vAugAdd, fApp, fExt, fMs, fMn, List.getElem?_cons_zero, List.getElem?_cons_succ, List.getElem?_nil, List.set_cons_zero, List.set_cons_succ, List.length_cons, List.length_nil, Option.bind_some, Option.map_some, if_true, if_false, reduceIte, List.nil_append, List.cons_append, List.append_nil, resOf, Nat.reduceAdd, Nat.reduceEqDiff, Nat.reduceLT, Nat.reduceLeDiff, Int.reduceLT, Int.reduceLE, Int.reduceNeg, and_self, true_and, and_true, decide_true, decide_false, Bool.false_eq_true, Bool.not_true, Bool.not_false, Int.reduceAbs, Int.natAbs_neg, or_true, true_or, vIx, vLen, vAbs, vSum, vMax, vMin, decide_eq_true_eq, Bool.not_eq_true, vSlS, hl', vIn, hb, show (c_SIGNS : List Nat) = sg from rfl]
  | succ d ih =>
    intro j n hj hn
    cases n with
    | zero => omega
    | succ n =>
      have hb : subIn (cutD m (some ((k : Nat) : Int)) (some (((k + j : Nat) : Int) + 2))) sg = true := by
        rw [hcut]
        have e : (a :: r ++ t).take (j + 2) = (a :: r).take (j + 2) := List.take_append_of_le_length (by simp only [List.length_cons]; omega)
        rw [e]
        have hc2 : Chn ((a :: r).take (j + 2) ++ (a :: r).drop (j + 2)) := by rw [List.take_append_drop]; exact hc
        exact subIn_chn hc2.left fun c h => hsr c (List.mem_append_left _ (List.mem_of_mem_take h))
      have h1 : ((k + j : Nat) : Int) + 1 < m.length := by
        simp only [List.cons_append, List.length_cons, List.length_append] at hlen
        omega
      rw [whileN_step (ρ' := tmE m found k (some (.imm (.int (k + j : Nat))))) (ρ2 := tmE m found k (some (.imm (.int (k + (j + 1) : Nat))))) ?_ ?_]
      · exact ih (j + 1) n (by omega) (by omega)
      · simp only [p1_told_mark, tmE, fSeq, fAsg, fAsgN, fRet, fRetO, fExpr, fTo, fPar2, fPar3, fAug, fIf, fBin, fBinT, fTru, fAnd, fOr, fNot, fAndV, fOrV, fNotV, fNeg, fName, fPeek, fD, fN, fLst, fTup, fCons, fCall, fCallN, fDef, fFld, fInt, fSl, fIt, fItA, fStuck, fCv, fCn, fCd, stN, stCons, stNil, stTup, mB, mP, mO, look, lookA, asBl, asInt, vAdd, vSub, vMul, vFdiv, vMod, vCmp, vIs, isNon, vAugAdd, fApp, fExt, fMs, fMn, List.getElem?_cons_zero, List.getElem?_cons_succ, List.getElem?_nil, List.set_cons_zero, List.set_cons_succ, List.length_cons, List.length_nil, Option.bind_some, Option.map_some, if_true, if_false, reduceIte, List.nil_append, List.cons_append, List.append_nil, resOf, Nat.reduceAdd, Nat.reduceEqDiff, Nat.reduceLT, Nat.reduceLeDiff, Int.reduceLT, Int.reduceLE, Int.reduceNeg, and_self, true_and, and_true, decide_true, decide_false, Bool.false_eq_true, Bool.not_true, Bool.not_false, Int.reduceAbs, Int.natAbs_neg, or_true, true_or, vIx, vLen, vAbs, vSum, vMax, vMin, decide_eq_true_eq, Bool.not_eq_true, vSlS, hl', vIn, hb, show (c_SIGNS : List Nat) = sg from rfl, h1]
      · have e : ((k + j : Nat) : Int) + 1 = ((k + (j + 1) : Nat) : Int) := by omega
        simp only [p2_told_mark, tmE, fSeq, fAsg, fAsgN, fRet, fRetO, fExpr, fTo, fPar2, fPar3, fAug, fIf, fBin, fBinT, fTru, fAnd, fOr, fNot, fAndV, fOrV, fNotV, fNeg, fName, fPeek, fD, fN, fLst, fTup, fCons, fCall, fCallN, fDef, fFld, fInt, fSl, fIt, fItA, fStuck, fCv, fCn, fCd, stN, stCons, stNil, stTup, mB, mP, mO, look, lookA, asBl, asInt, vAdd, vSub, vMul, vFdiv, vMod, vCmp, vIs, isNon, vAugAdd, fApp, fExt, fMs, fMn, List.getElem?_cons_zero, List.getElem?_cons_succ, List.getElem?_nil, List.set_cons_zero, List.set_cons_succ, List.length_cons, List.length_nil, Option.bind_some, Option.map_some, if_true, if_false, reduceIte, List.nil_append, List.cons_append, List.append_nil, resOf, Nat.reduceAdd, Nat.reduceEqDiff, Nat.reduceLT, Nat.reduceLeDiff, Int.reduceLT, Int.reduceLE, Int.reduceNeg, and_self, true_and, and_true, decide_true, decide_false, Bool.false_eq_true, Bool.not_true, Bool.not_false, Int.reduceAbs, Int.natAbs_neg, or_true, true_or, vIx, vLen, vAbs, vSum, vMax, vMin, decide_eq_true_eq, Bool.not_eq_true, e]
theorem tm_round {m r t found : List Nat} {a k : Nat} {x : Option Ce} (hm : m.drop k = a :: r ++ t) (hc : Chn (a :: r)) (ht : ∀ y, t.head? = some y → y ≠ nx ((a :: r).getLastD 0)) (hs : ∀ c ∈ m, c ∈ sg) (hl : m.length ≤ 1000) (hf : found.length ≤ 1000) :
    p4_told_mark (tmE m found k x) = .ok .nx (tmE m (found ++ rend (a :: r)) (k + (r.length + 1)) (some (.imm (.int (k + r.length : Nat))))) := by
  have hlen : k + (a :: r ++ t).length = m.length := by
    have := congrArg List.length hm
    rw [List.length_drop] at this
    simp only [List.cons_append, List.length_cons] at this ⊢
    omega
  have hl' : m.length ≤ 16777216 := by omega
  have e0 := tm_inner hm hc ht hs hl found r.length 0 1000000000 (by omega) (by simp only [List.cons_append, List.length_cons, List.length_append] at hlen; omega)
  rw [Nat.add_zero] at e0
  unfold p4_told_mark
  rw [fSeq_nx (ρ' := tmE m found k (some (.imm (.int k)))) (by simp only [tmE, fSeq, fAsg, fAsgN, fRet, fRetO, fExpr, fTo, fPar2, fPar3, fAug, fIf, fBin, fBinT, fTru, fAnd, fOr, fNot, fAndV, fOrV, fNotV, fNeg, fName, fPeek, fD, fN, fLst, fTup, fCons, fCall, fCallN, fDef, fFld, fInt, fSl, fIt, fItA, fStuck, fCv, fCn, fCd, stN, stCons, stNil, stTup, mB, mP, mO, look, lookA, asBl, asInt, vAdd, vSub, vMul, vFdiv, vMod, vCmp, vIs, isNon, vAugAdd, fApp, fExt, fMs, fMn, List.getElem?_cons_zero, List.getElem?_cons_succ, List.getElem?_nil, List.set_cons_zero, List.set_cons_succ, List.length_cons, List.length_nil, Option.bind_some, Option.map_some, if_true, if_false, reduceIte, List.nil_append, List.cons_append, List.append_nil, resOf, Nat.reduceAdd, Nat.reduceEqDiff, Nat.reduceLT, Nat.reduceLeDiff, Int.reduceLT, Int.reduceLE, Int.reduceNeg, and_self, true_and, and_true, decide_true, decide_false, Bool.false_eq_true, Bool.not_true, Bool.not_false, Int.reduceAbs, Int.natAbs_neg, or_true, true_or, vIx, vLen, vAbs, vSum, vMax, vMin, decide_eq_true_eq, Bool.not_eq_true]), fSeq_nx e0]
  have hrl := rend_len (a :: r)
  have h10 : (a :: r ++ t).length ≤ 1000 := by omega
  rw [List.length_append] at h10
  have hfl : found.length + (rend (a :: r)).length ≤ 16777216 := by omega
  have e9 : ((k + r.length : Nat) : Int) + 1 = ((k + (r.length + 1) : Nat) : Int) := by omega
  rw [fSeq_nx (ρ' := tmE m (found ++ rend (a :: r)) k (some (.imm (.int (k + r.length : Nat)))))]
  · simp only [tmE, fSeq, fAsg, fAsgN, fRet, fRetO, fExpr, fTo, fPar2, fPar3, fAug, fIf, fBin, fBinT, fTru, fAnd, fOr, fNot, fAndV, fOrV, fNotV, fNeg, fName, fPeek, fD, fN, fLst, fTup, fCons, fCall, fCallN, fDef, fFld, fInt, fSl, fIt, fItA, fStuck, fCv, fCn, fCd, stN, stCons, stNil, stTup, mB, mP, mO, look, lookA, asBl, asInt, vAdd, vSub, vMul, vFdiv, vMod, vCmp, vIs, isNon, vAugAdd, fApp, fExt, fMs, fMn, List.getElem?_cons_zero, List.getElem?_cons_succ, List.getElem?_nil, List.set_cons_zero, List.set_cons_succ, List.length_cons, List.length_nil, Option.bind_some, Option.map_some, if_true, if_false, reduceIte, List.nil_append, List.cons_append, List.append_nil, resOf, Nat.reduceAdd, Nat.reduceEqDiff, Nat.reduceLT, Nat.reduceLeDiff, Int.reduceLT, Int.reduceLE, Int.reduceNeg, and_self, true_and, and_true, decide_true, decide_false, Bool.false_eq_true, Bool.not_true, Bool.not_false, Int.reduceAbs, Int.natAbs_neg, or_true, true_or, vIx, vLen, vAbs, vSum, vMax, vMin, decide_eq_true_eq, Bool.not_eq_true, e9]
  · by_cases h3 : (a :: r).length < 3
    · have h3' : ¬ ((k + r.length : Nat) : Int) > (k : Int) + 1 := by simp only [List.length_cons] at h3; omega
      have h3'' : ¬ (k : Int) + 1 < ((k + r.length : Nat) : Int) := h3'
      have ec : cutD m (some ((k : Nat) : Int)) (some (((k + r.length : Nat) : Int) + 1)) = a :: r := by
        rw [e9, cutD_nat, hm]
        have : k + (r.length + 1) - k = (a :: r).length := by simp only [List.length_cons]; omega
        rw [this, List.take_left]
      rw [rend_short h3] at hfl ⊢
      rw [List.length_cons] at hfl
      simp only [tmE, fSeq, fAsg, fAsgN, fRet, fRetO, fExpr, fTo, fPar2, fPar3, fAug, fIf, fBin, fBinT, fTru, fAnd, fOr, fNot, fAndV, fOrV, fNotV, fNeg, fName, fPeek, fD, fN, fLst, fTup, fCons, fCall, fCallN, fDef, fFld, fInt, fSl, fIt, fItA, fStuck, fCv, fCn, fCd, stN, stCons, stNil, stTup, mB, mP, mO, look, lookA, asBl, asInt, vAdd, vSub, vMul, vFdiv, vMod, vCmp, vIs, isNon, vAugAdd, fApp, fExt, fMs, fMn, List.getElem?_cons_zero, List.getElem?_cons_succ, List.getElem?_nil, List.set_cons_zero, List.set_cons_succ, List.length_cons, List.length_nil, Option.bind_some, Option.map_some, if_true, if_false, reduceIte, List.nil_append, List.cons_append, List.append_nil, resOf, Nat.reduceAdd, Nat.reduceEqDiff, Nat.reduceLT, Nat.reduceLeDiff, Int.reduceLT, Int.reduceLE, Int.reduceNeg, and_self, true_and, and_true, decide_true, decide_false, Bool.false_eq_true, Bool.not_true, Bool.not_false, Int.reduceAbs, Int.natAbs_neg, or_true, true_or, vIx, vLen, vAbs, vSum, vMax, vMin, decide_eq_true_eq, Bool.not_eq_true, h3'', vSlS, hl', ec, hfl]
    · have h3' : (k : Int) + 1 < ((k + r.length : Nat) : Int) := by simp only [List.length_cons] at h3; omega
      rw [rend_long h3] at hfl ⊢
      have e1 : atI m ((k : Nat) : Int) = some a := by
        have hk : k < m.length := by simp only [List.cons_append, List.length_cons] at hlen; omega
        rw [atI_eq (by omega) (by rw [Int.toNat_natCast]; exact hk)]
        simp only [Int.toNat_natCast]
        have := List.drop_eq_getElem_cons hk
        rw [hm] at this
        simp only [List.cons_append, List.cons.injEq] at this
        rw [this.1]
      have e2 : atI m ((k + r.length : Nat) : Int) = some ((a :: r).getLastD 0) := by
        have hk : k + r.length < m.length := by simp only [List.cons_append, List.length_cons, List.length_append] at hlen; omega
        rw [atI_eq (by omega) (by rw [Int.toNat_natCast]; exact hk)]
        simp only [Int.toNat_natCast]
        have e3 : m[k + r.length]? = (m.drop k)[r.length]? := by rw [List.getElem?_drop]
        rw [List.getElem?_eq_getElem hk, hm, List.getElem?_append_left (by simp only [List.length_cons]; omega)] at e3
        rw [e3, List.getLastD_eq_getLast?, List.getLast?_eq_getElem?]
        simp
      simp only [List.length_cons, List.length_nil, Nat.zero_add, Nat.reduceAdd] at hfl
      simp only [tmE, fSeq, fAsg, fAsgN, fRet, fRetO, fExpr, fTo, fPar2, fPar3, fAug, fIf, fBin, fBinT, fTru, fAnd, fOr, fNot, fAndV, fOrV, fNotV, fNeg, fName, fPeek, fD, fN, fLst, fTup, fCons, fCall, fCallN, fDef, fFld, fInt, fSl, fIt, fItA, fStuck, fCv, fCn, fCd, stN, stCons, stNil, stTup, mB, mP, mO, look, lookA, asBl, asInt, vAdd, vSub, vMul, vFdiv, vMod, vCmp, vIs, isNon, vAugAdd, fApp, fExt, fMs, fMn, List.getElem?_cons_zero, List.getElem?_cons_succ, List.getElem?_nil, List.set_cons_zero, List.set_cons_succ, List.length_cons, List.length_nil, Option.bind_some, Option.map_some, if_true, if_false, reduceIte, List.nil_append, List.cons_append, List.append_nil, resOf, Nat.reduceAdd, Nat.reduceEqDiff, Nat.reduceLT, Nat.reduceLeDiff, Int.reduceLT, Int.reduceLE, Int.reduceNeg, and_self, true_and, and_true, decide_true, decide_false, Bool.false_eq_true, Bool.not_true, Bool.not_false, Int.reduceAbs, Int.natAbs_neg, or_true, true_or, vIx, vLen, vAbs, vSum, vMax, vMin, decide_eq_true_eq, Bool.not_eq_true, h3', hl', e1, e2, hfl, List.headD_cons, Nat.reduceLeDiff]
theorem tm_loop (m : List Nat) (hs : ∀ c ∈ m, c ∈ sg) (hl : m.length ≤ 1000) : ∀ (q k n : Nat) (found : List Nat) (x : Option Ce), k + q = m.length → q < n → found.length ≤ k → ∃ x' k', whileN p3_told_mark p4_told_mark n (tmE m found k x) = .ok .nx (tmE m (found ++ (runs (m.drop k)).flatMap rend) k' x') := by
  intro q
  induction q using Nat.strongRecOn with
  | _ q ih =>
    intro k n found x hk hn hf
    have hl' : m.length ≤ 16777216 := by omega
    by_cases h0 : q = 0
    · have h1 : ¬ (k : Int) < m.length := by omega
      refine ⟨x, k, ?_⟩
      rw [List.drop_of_length_le (by omega), whileN_stop (ρ' := tmE m found k x) (by omega) (by simp only [p3_told_mark, tmE, fSeq, fAsg, fAsgN, fRet, fRetO, fExpr, fTo, fPar2, fPar3, fAug, fIf, fBin, fBinT, fTru, fAnd, fOr, fNot, fAndV, fOrV, fNotV, fNeg, fName, fPeek, fD, fN, fLst, fTup, fCons, fCall, fCallN, fDef, fFld, fInt, fSl, fIt, fItA, fStuck, fCv, fCn, fCd, stN, stCons, stNil, stTup, mB, mP, mO, look, lookA, asBl, asInt, vAdd, vSub, vMul, vFdiv, vMod, vCmp, vIs, isNon, vAugAdd, fApp, fExt, fMs, fMn, List.getElem?_cons_zero, List.getElem?_cons_succ, List.getElem?_nil, List.set_cons_zero, List.set_cons_succ, List.length_cons, List.length_nil, Option.bind_some, Option.map_some, if_true, if_false, reduceIte, List.nil_append, List.cons_append, List.append_nil, resOf, Nat.reduceAdd, Nat.reduceEqDiff, Nat.reduceLT, Nat.reduceLeDiff, Int.reduceLT, Int.reduceLE, Int.reduceNeg, and_self, true_and, and_true, decide_true, decide_false, Bool.false_eq_true, Bool.not_true, Bool.not_false, Int.reduceAbs, Int.natAbs_neg, or_true, true_or, vIx, vLen, vAbs, vSum, vMax, vMin, decide_eq_true_eq, Bool.not_eq_true, hl', h1])]
      simp only [runs, List.flatMap_nil, List.append_nil]
    · have h1 : (k : Int) < m.length := by omega
      cases n with
      | zero => omega
      | succ n =>
        have hk' : k < m.length := by omega
        obtain ⟨r, t, e, hc, ht⟩ := run_first m[k] (m.drop (k + 1))
        rw [← List.drop_eq_getElem_cons hk'] at e
        have hlen := congrArg List.length e
        rw [List.length_drop, List.length_append, List.length_cons] at hlen
        have et : m.drop (k + (r.length + 1)) = t := by
          rw [← List.drop_drop, e]
          exact List.drop_left
        have hrl := rend_len (m[k] :: r)
        rw [List.length_cons] at hrl
        obtain ⟨x', k', e2⟩ := ih (q - (r.length + 1)) (by omega) (k + (r.length + 1)) n (found ++ rend (m[k] :: r)) (some (.imm (.int (k + r.length : Nat)))) (by omega) (by omega) (by rw [List.length_append]; omega)
        refine ⟨x', k', ?_⟩
        rw [whileN_step (ρ' := tmE m found k x) (by simp only [p3_told_mark, tmE, fSeq, fAsg, fAsgN, fRet, fRetO, fExpr, fTo, fPar2, fPar3, fAug, fIf, fBin, fBinT, fTru, fAnd, fOr, fNot, fAndV, fOrV, fNotV, fNeg, fName, fPeek, fD, fN, fLst, fTup, fCons, fCall, fCallN, fDef, fFld, fInt, fSl, fIt, fItA, fStuck, fCv, fCn, fCd, stN, stCons, stNil, stTup, mB, mP, mO, look, lookA, asBl, asInt, vAdd, vSub, vMul, vFdiv, vMod, vCmp, vIs, isNon, vAugAdd, fApp, fExt, fMs, fMn, List.getElem?_cons_zero, List.getElem?_cons_succ, List.getElem?_nil, List.set_cons_zero, List.set_cons_succ, List.length_cons, List.length_nil, Option.bind_some, Option.map_some, if_true, if_false, reduceIte, List.nil_append, List.cons_append, List.append_nil, resOf, Nat.reduceAdd, Nat.reduceEqDiff, Nat.reduceLT, Nat.reduceLeDiff, Int.reduceLT, Int.reduceLE, Int.reduceNeg, and_self, true_and, and_true, decide_true, decide_false, Bool.false_eq_true, Bool.not_true, Bool.not_false, Int.reduceAbs, Int.natAbs_neg, or_true, true_or, vIx, vLen, vAbs, vSum, vMax, vMin, decide_eq_true_eq, Bool.not_eq_true, hl', h1]) (tm_round e hc ht hs hl (by omega)), e2, et, e, runs_chn r _ t hc ht, List.flatMap_cons, List.append_assoc]
theorem told_mark_eq {m : List Nat} (h : IsM m) : f_told_mark [.str m] = .ok (.str (plainM m)) := by
  by_cases h1 : m = [42]
  · subst h1
    rfl
  · obtain ⟨hc, hs, hf, hl⟩ := h.sub h1
    have hl' : m.length ≤ 16777216 := by omega
    by_cases h3 : m = sg
    · subst h3
      rfl
    · by_cases h4 : m = []
      · subst h4
        rfl
      · unfold plainM
        by_cases h2 : m.length = 1
        · have h2' : (m.length : Int) = 1 := by omega
          simp only [f_told_mark, fnRun, b_told_mark, envOf, List.map_cons, List.map_nil, List.replicate, Nat.reduceSub, fSeq, fAsg, fAsgN, fRet, fRetO, fExpr, fTo, fPar2, fPar3, fAug, fIf, fBin, fBinT, fTru, fAnd, fOr, fNot, fAndV, fOrV, fNotV, fNeg, fName, fPeek, fD, fN, fLst, fTup, fCons, fCall, fCallN, fDef, fFld, fInt, fSl, fIt, fItA, fStuck, fCv, fCn, fCd, stN, stCons, stNil, stTup, mB, mP, mO, look, lookA, asBl, asInt, vAdd, vSub, vMul, vFdiv, vMod, vCmp, vIs, isNon, vAugAdd, fApp, fExt, fMs, fMn, List.getElem?_cons_zero, List.getElem?_cons_succ, List.getElem?_nil, List.set_cons_zero, List.set_cons_succ, List.length_cons, List.length_nil, Option.bind_some, Option.map_some, if_true, if_false, reduceIte, List.nil_append, List.cons_append, List.append_nil, resOf, Nat.reduceAdd, Nat.reduceEqDiff, Nat.reduceLT, Nat.reduceLeDiff, Int.reduceLT, Int.reduceLE, Int.reduceNeg, and_self, true_and, and_true, decide_true, decide_false, Bool.false_eq_true, Bool.not_true, Bool.not_false, Int.reduceAbs, Int.natAbs_neg, or_true, true_or, vIx, vLen, vAbs, vSum, vMax, vMin, decide_eq_true_eq, Bool.not_eq_true, vEq_str, vEq_int, h1, h2, h3, h4, hl', h2', or_true, Int.cast_ofNat_Int, show (c_SIGNS : List Nat) = sg from rfl, show (c_STAR : List Nat) = [42] from rfl]
        · have h2' : ¬ (m.length : Int) = 1 := by omega
          obtain ⟨x', k', e⟩ := tm_loop m hs (by omega) m.length 0 1000000000 [] none (by omega) (by omega) (by simp)
          have hr := runs_len m
          rw [List.drop_zero, List.nil_append] at e
          have hb : 1 + ((runs m).flatMap rend).length ≤ 16777216 := by omega
          have hb2 : ((runs m).flatMap rend).length + 1 + 1 ≤ 16777216 := by omega
          simp only [tmE, Int.natCast_zero] at e
          simp only [f_told_mark, fnRun, b_told_mark, envOf, List.map_cons, List.map_nil, List.replicate, Nat.reduceSub, fSeq, fAsg, fAsgN, fRet, fRetO, fExpr, fTo, fPar2, fPar3, fAug, fIf, fBin, fBinT, fTru, fAnd, fOr, fNot, fAndV, fOrV, fNotV, fNeg, fName, fPeek, fD, fN, fLst, fTup, fCons, fCall, fCallN, fDef, fFld, fInt, fSl, fIt, fItA, fStuck, fCv, fCn, fCd, stN, stCons, stNil, stTup, mB, mP, mO, look, lookA, asBl, asInt, vAdd, vSub, vMul, vFdiv, vMod, vCmp, vIs, isNon, vAugAdd, fApp, fExt, fMs, fMn, List.getElem?_cons_zero, List.getElem?_cons_succ, List.getElem?_nil, List.set_cons_zero, List.set_cons_succ, List.length_cons, List.length_nil, Option.bind_some, Option.map_some, if_true, if_false, reduceIte, List.nil_append, List.cons_append, List.append_nil, resOf, Nat.reduceAdd, Nat.reduceEqDiff, Nat.reduceLT, Nat.reduceLeDiff, Int.reduceLT, Int.reduceLE, Int.reduceNeg, and_self, true_and, and_true, decide_true, decide_false, Bool.false_eq_true, Bool.not_true, Bool.not_false, Int.reduceAbs, Int.natAbs_neg, or_true, true_or, vIx, vLen, vAbs, vSum, vMax, vMin, decide_eq_true_eq, Bool.not_eq_true, vEq_str, vEq_int, h1, h2, h3, h4, hl', h2', or_false, show (c_SIGNS : List Nat) = sg from rfl, show (c_STAR : List Nat) = [42] from rfl, e, hb, hb2]
end Kb
namespace Kb
open Vl
open L2 (ixN atI)
theorem compL_all {α : Type} {vs : List Nat} {st : Da → Env → Option Env} {e : EM Da} {ρw : Env} {g : α → Da} {y : α → Da} (xs : List α) (ρ : Env)
    (hw : wipeE ρ vs = ρw) (h : ∀ x ∈ xs, ∃ ρd, st (g x) ρw = some ρd ∧ e ρd = .ok (y x) ρd ∧ wipeE ρd vs = ρw) (hl : xs.length ≤ 16777216) :
    compL vs st (mP true) e (xs.map g) [] ρ = .ok (xs.map y) ρw := by
  have := compL_pure (t := mP true) (b := fun _ => true) xs [] ρ hw (fun x hx => by
    obtain ⟨ρd, h1, h2, h3⟩ := h x hx
    exact ⟨ρd, h1, rfl, fun _ => h2, h3⟩) (by simpa using hl)
  rw [this, List.nil_append, List.filter_eq_self.mpr (fun _ _ => rfl)]
def poolP (ns : List Int) (a : Int) : List Nat := (digP ns a 4 27).map fun d => sg[d.toNat]?.getD 0
theorem digP_len (ns : List Int) (a n b : Int) : (digP ns a n b).length = n.toNat := digGo_len _ _ _ _ _
theorem digP_in (ns : List Int) (a n : Int) {b : Int} (hb : 0 < b) : ∀ d ∈ digP ns a n b, 0 ≤ d ∧ d < b := digGo_in _ hb _ _ _
theorem poolP_len (ns : List Int) (a : Int) : (poolP ns a).length = 4 := by
  unfold poolP
  rw [List.length_map, digP_len]
  rfl
theorem poolP_sg (ns : List Int) (a : Int) : ∀ c ∈ poolP ns a, c ∈ sg := by
  intro c hc
  obtain ⟨d, hd, rfl⟩ := List.mem_map.mp hc
  have h := digP_in ns a 4 (b := 27) (by decide) d hd
  have hl : d.toNat < sg.length := by rw [sg_len]; omega
  rw [List.getElem?_eq_getElem hl]
  exact List.getElem_mem hl
theorem sg_atI {d : Int} (h0 : 0 ≤ d) (h : d < 27) : atI sg d = some (sg[d.toNat]?.getD 0) := by
  have hl : d.toNat < sg.length := by rw [sg_len]; omega
  rw [atI_eq h0 hl, List.getElem?_eq_getElem hl]
  rfl
theorem pool_eq (ns : List Int) (a : Int) (ha : 0 ≤ a) : f__law_pool [.lst (ns.map .int), .int a] = .ok (.str (poolP ns a)) := by
  have ed := digs_eq ns a 4 27 ha (by decide) (by decide) (by decide) (by decide)
  have ec := compL_all (vs := [2]) (st := stN 2) (e := p1__law_pool) (g := Da.int) (y := fun d => .str [sg[d.toNat]?.getD 0]) (digP ns a 4 27)
    [some (.imm (.lst (ns.map .int))), some (.imm (.int a)), none] (ρw := [some (.imm (.lst (ns.map .int))), some (.imm (.int a)), none]) rfl (fun d hd => by
      have h := digP_in ns a 4 (b := 27) (by decide) d hd
      have hl : sg.length ≤ 16777216 := by decide
      refine ⟨_, rfl, ?_, rfl⟩
      simp only [p1__law_pool, fSeq, fAsg, fAsgN, fRet, fRetO, fExpr, fTo, fPar2, fPar3, fAug, fIf, fBin, fBinT, fTru, fAnd, fOr, fNot, fAndV, fOrV, fNotV, fNeg, fName, fPeek, fD, fN, fLst, fTup, fCons, fCall, fCallN, fDef, fFld, fInt, fSl, fIt, fItA, fStuck, fCv, fCn, fCd, stN, stCons, stNil, stTup, mB, mP, mO, look, lookA, asBl, asInt, vAdd, vSub, vMul, vFdiv, vMod, vCmp, vIs, isNon, vAugAdd, fApp, fExt, fMs, fMn, List.getElem?_cons_zero, List.getElem?_cons_succ, List.getElem?_nil, List.set_cons_zero, List.set_cons_succ, List.length_cons, List.length_nil, Option.bind_some, Option.map_some, if_true, if_false, reduceIte, List.nil_append, List.cons_append, List.append_nil, resOf, Nat.reduceAdd, Nat.reduceEqDiff, Nat.reduceLT, Nat.reduceLeDiff, Int.reduceLT, Int.reduceLE, Int.reduceNeg, and_self, true_and, and_true, decide_true, decide_false, Bool.false_eq_true, Bool.not_true, Bool.not_false, Int.reduceAbs, Int.natAbs_neg, or_true, true_or, vIx, vLen, vAbs, vSum, vMax, vMin, decide_eq_true_eq, Bool.not_eq_true, signs_eq, hl, sg_atI h.1 h.2]) (by rw [digP_len]; decide)
  have ej := sJoin_one (poolP ns a) (by rw [poolP_len]; decide)
  unfold poolP at ej ⊢
  rw [List.map_map] at ej
  simp only [Function.comp_def] at ej
  simp only [f__law_pool, fnRun, b__law_pool, envOf, List.map_cons, List.map_nil, List.replicate, Nat.reduceSub, fSeq, fAsg, fAsgN, fRet, fRetO, fExpr, fTo, fPar2, fPar3, fAug, fIf, fBin, fBinT, fTru, fAnd, fOr, fNot, fAndV, fOrV, fNotV, fNeg, fName, fPeek, fD, fN, fLst, fTup, fCons, fCall, fCallN, fDef, fFld, fInt, fSl, fIt, fItA, fStuck, fCv, fCn, fCd, stN, stCons, stNil, stTup, mB, mP, mO, look, lookA, asBl, asInt, vAdd, vSub, vMul, vFdiv, vMod, vCmp, vIs, isNon, vAugAdd, fApp, fExt, fMs, fMn, List.getElem?_cons_zero, List.getElem?_cons_succ, List.getElem?_nil, List.set_cons_zero, List.set_cons_succ, List.length_cons, List.length_nil, Option.bind_some, Option.map_some, if_true, if_false, reduceIte, List.nil_append, List.cons_append, List.append_nil, resOf, Nat.reduceAdd, Nat.reduceEqDiff, Nat.reduceLT, Nat.reduceLeDiff, Int.reduceLT, Int.reduceLE, Int.reduceNeg, and_self, true_and, and_true, decide_true, decide_false, Bool.false_eq_true, Bool.not_true, Bool.not_false, Int.reduceAbs, Int.natAbs_neg, or_true, true_or, vIx, vLen, vAbs, vSum, vMax, vMin, decide_eq_true_eq, Bool.not_eq_true, fComp, itemsL, ed, ec, ej]
theorem one_all : ∀ c ∈ sg, sg.filter (· == c) = [c] := by decide
theorem IsM_one {c : Nat} (h : c ∈ sg) : IsM [c] := .inr ⟨(· == c), (one_all c h).symm⟩
theorem IsM_sg : IsM sg := .inr ⟨fun _ => true, (List.filter_eq_self.mpr fun _ _ => rfl).symm⟩
theorem IsM_nil : IsM [] := .inr ⟨fun _ => false, (List.filter_eq_nil_iff.mpr fun _ _ => by simp).symm⟩
theorem star_sg : (42 : Nat) ∉ sg := by decide
theorem IsM_ne {m : List Nat} (h : ∀ c ∈ m, c ∈ sg) : m ≠ [42] := by
  intro e
  subst e
  exact star_sg (h 42 (by simp))
theorem pool_at {pool : List Nat} (hl : pool.length = 4) (hs : ∀ c ∈ pool, c ∈ sg) (n : Int) : ∃ c, atI pool (n % 4) = some c ∧ c ∈ sg := by
  have h0 : 0 ≤ n % 4 := Int.emod_nonneg _ (by decide)
  have h1 : n % 4 < 4 := Int.emod_lt_of_pos _ (by decide)
  obtain ⟨c, e, hc⟩ := atI_ok (xs := pool) h0 (by omega)
  exact ⟨c, e, hs c hc⟩
theorem mark_ok (n : Int) {pool : List Nat} (hl : pool.length = 4) (hs : ∀ c ∈ pool, c ∈ sg) (st : Bool) : ∃ m, f__law_mark [.int n, .str pool, .bl st] = .ok (.str m) ∧ IsM m ∧ (st = true → m ≠ [42]) := by
  have h0 : 0 ≤ n % 6 := Int.emod_nonneg _ (by decide)
  have h1 : n % 6 < 6 := Int.emod_lt_of_pos _ (by decide)
  have hp : pool.length ≤ 16777216 := by omega
  obtain ⟨c1, e1, m1⟩ := pool_at hl hs (n / 6)
  obtain ⟨c2, e2, m2⟩ := pool_at hl hs (n / 6 / 4)
  obtain ⟨c3, e3, m3⟩ := pool_at hl hs (n / 6 / 16)
  have one : ∀ c ∈ sg, IsM [c] ∧ (st = true → [c] ≠ [42]) := fun c h => ⟨IsM_one h, fun _ => IsM_ne fun d hd => by rw [List.mem_singleton.mp hd]; exact h⟩
  have hk : n % 6 = 0 ∨ n % 6 = 1 ∨ n % 6 = 2 ∨ n % 6 = 3 ∨ n % 6 = 4 ∨ n % 6 = 5 := by omega
  have start : f__law_mark [.int n, .str pool, .bl st] = resOf (b__law_mark [some (.imm (.int n)), some (.imm (.str pool)), some (.imm (.bl st)), none, none, none, none, none]) := rfl
  rw [start]
  have more : ∀ due : Bool, (n % 6 = 2 ∨ n % 6 = 3) → decide (n % 6 = 2) = due → ∃ m, resOf (b__law_mark [some (.imm (.int n)), some (.imm (.str pool)), some (.imm (.bl st)), none, none, none, none, none]) = .ok (.str m) ∧ IsM m ∧ (st = true → m ≠ [42]) := by
    intro due hd hdd
    have a0 : ¬ n % 6 = 0 := by omega
    have a1 : ¬ n % 6 = 1 := by omega
    have a3 : ¬ 3 < n % 6 := by omega
    by_cases h9 : n / 6 % 9 = 4
    · exact ⟨[], by simp only [b__law_mark, fSeq, fAsg, fAsgN, fRet, fRetO, fExpr, fTo, fPar2, fPar3, fAug, fIf, fBin, fBinT, fTru, fAnd, fOr, fNot, fAndV, fOrV, fNotV, fNeg, fName, fPeek, fD, fN, fLst, fTup, fCons, fCall, fCallN, fDef, fFld, fInt, fSl, fIt, fItA, fStuck, fCv, fCn, fCd, stN, stCons, stNil, stTup, mB, mP, mO, look, lookA, asBl, asInt, vAdd, vSub, vMul, vFdiv, vMod, vCmp, vIs, isNon, vAugAdd, fApp, fExt, fMs, fMn, List.getElem?_cons_zero, List.getElem?_cons_succ, List.getElem?_nil, List.set_cons_zero, List.set_cons_succ, List.length_cons, List.length_nil, Option.bind_some, Option.map_some, if_true, if_false, reduceIte, List.nil_append, List.cons_append, List.append_nil, resOf, Nat.reduceAdd, Nat.reduceEqDiff, Nat.reduceLT, Nat.reduceLeDiff, Int.reduceLT, Int.reduceLE, Int.reduceNeg, and_self, true_and, and_true, decide_true, decide_false, Bool.false_eq_true, Bool.not_true, Bool.not_false, Int.reduceAbs, Int.natAbs_neg, or_true, true_or, vIx, vLen, vAbs, vSum, vMax, vMin, decide_eq_true_eq, Bool.not_eq_true, vEq_int, a0, a1, a3, h9, vTru], IsM_nil, by simp⟩
    · have ec := compL_pure (vs := [7]) (st := stN 7) (t := p1__law_mark) (e := p2__law_mark) (g := fun c : Nat => Da.str [c]) (b := fun c => decide (c ∈ [c1, c2, c3]) == due) (y := fun c => Da.str [c]) sg []
        [some (.imm (.int n)), some (.imm (.str pool)), some (.imm (.bl st)), some (.imm (.int (n % 6))), some (.imm (.int (n / 6))), some (.imm (.str [c1, c2, c3])), some (.imm (.bl due)), none]
        (ρw := [some (.imm (.int n)), some (.imm (.str pool)), some (.imm (.bl st)), some (.imm (.int (n % 6))), some (.imm (.int (n / 6))), some (.imm (.str [c1, c2, c3])), some (.imm (.bl due)), none]) rfl (fun c _ => by
          refine ⟨_, rfl, ?_, fun _ => ?_, rfl⟩
          · simp only [p1__law_mark, fSeq, fAsg, fAsgN, fRet, fRetO, fExpr, fTo, fPar2, fPar3, fAug, fIf, fBin, fBinT, fTru, fAnd, fOr, fNot, fAndV, fOrV, fNotV, fNeg, fName, fPeek, fD, fN, fLst, fTup, fCons, fCall, fCallN, fDef, fFld, fInt, fSl, fIt, fItA, fStuck, fCv, fCn, fCd, stN, stCons, stNil, stTup, mB, mP, mO, look, lookA, asBl, asInt, vAdd, vSub, vMul, vFdiv, vMod, vCmp, vIs, isNon, vAugAdd, fApp, fExt, fMs, fMn, List.getElem?_cons_zero, List.getElem?_cons_succ, List.getElem?_nil, List.set_cons_zero, List.set_cons_succ, List.length_cons, List.length_nil, Option.bind_some, Option.map_some, if_true, if_false, reduceIte, List.nil_append, List.cons_append, List.append_nil, resOf, Nat.reduceAdd, Nat.reduceEqDiff, Nat.reduceLT, Nat.reduceLeDiff, Int.reduceLT, Int.reduceLE, Int.reduceNeg, and_self, true_and, and_true, decide_true, decide_false, Bool.false_eq_true, Bool.not_true, Bool.not_false, Int.reduceAbs, Int.natAbs_neg, or_true, true_or, vIx, vLen, vAbs, vSum, vMax, vMin, decide_eq_true_eq, Bool.not_eq_true, vIn_one, vEq_bl]
            cases decide (c ∈ [c1, c2, c3]) <;> cases due <;> rfl
          · simp only [p2__law_mark, fSeq, fAsg, fAsgN, fRet, fRetO, fExpr, fTo, fPar2, fPar3, fAug, fIf, fBin, fBinT, fTru, fAnd, fOr, fNot, fAndV, fOrV, fNotV, fNeg, fName, fPeek, fD, fN, fLst, fTup, fCons, fCall, fCallN, fDef, fFld, fInt, fSl, fIt, fItA, fStuck, fCv, fCn, fCd, stN, stCons, stNil, stTup, mB, mP, mO, look, lookA, asBl, asInt, vAdd, vSub, vMul, vFdiv, vMod, vCmp, vIs, isNon, vAugAdd, fApp, fExt, fMs, fMn, List.getElem?_cons_zero, List.getElem?_cons_succ, List.getElem?_nil, List.set_cons_zero, List.set_cons_succ, List.length_cons, List.length_nil, Option.bind_some, Option.map_some, if_true, if_false, reduceIte, List.nil_append, List.cons_append, List.append_nil, resOf, Nat.reduceAdd, Nat.reduceEqDiff, Nat.reduceLT, Nat.reduceLeDiff, Int.reduceLT, Int.reduceLE, Int.reduceNeg, and_self, true_and, and_true, decide_true, decide_false, Bool.false_eq_true, Bool.not_true, Bool.not_false, Int.reduceAbs, Int.natAbs_neg, or_true, true_or, vIx, vLen, vAbs, vSum, vMax, vMin, decide_eq_true_eq, Bool.not_eq_true]) (by decide)
      have hlen : (sg.filter (fun c => decide (c ∈ [c1, c2, c3]) == due)).length ≤ 16777216 := Nat.le_trans (List.length_filter_le _ _) (by decide)
      have ej := sJoin_one _ hlen
      rw [List.nil_append] at ec
      have hsl : sg.length ≤ 16777216 := by decide
      have im : IsM (sg.filter (fun c => decide (c ∈ [c1, c2, c3]) == due)) := .inr ⟨fun c => decide (c ∈ [c1, c2, c3]) == due, rfl⟩
      have ne : sg.filter (fun c => decide (c ∈ [c1, c2, c3]) == due) ≠ [42] := IsM_ne fun c hc => (List.mem_filter.mp hc).1
      generalize sg.filter (fun c => decide (c ∈ [c1, c2, c3]) == due) = m at ec ej im ne
      refine ⟨m, ?_, im, fun _ => ne⟩
      have z1 : [c1].length + [c2].length ≤ 16777216 := by simp
      have z2 : ([c1] ++ [c2]).length + [c3].length ≤ 16777216 := by simp
      unfold b__law_mark
      rw [fSeq_nx (ρ' := [some (.imm (.int n)), some (.imm (.str pool)), some (.imm (.bl st)), some (.imm (.int (n % 6))), some (.imm (.int (n / 6))), none, none, none]) (by simp only [fSeq, fAsg, fAsgN, fRet, fRetO, fExpr, fTo, fPar2, fPar3, fAug, fIf, fBin, fBinT, fTru, fAnd, fOr, fNot, fAndV, fOrV, fNotV, fNeg, fName, fPeek, fD, fN, fLst, fTup, fCons, fCall, fCallN, fDef, fFld, fInt, fSl, fIt, fItA, fStuck, fCv, fCn, fCd, stN, stCons, stNil, stTup, mB, mP, mO, look, lookA, asBl, asInt, vAdd, vSub, vMul, vFdiv, vMod, vCmp, vIs, isNon, vAugAdd, fApp, fExt, fMs, fMn, List.getElem?_cons_zero, List.getElem?_cons_succ, List.getElem?_nil, List.set_cons_zero, List.set_cons_succ, List.length_cons, List.length_nil, Option.bind_some, Option.map_some, if_true, if_false, reduceIte, List.nil_append, List.cons_append, List.append_nil, resOf, Nat.reduceAdd, Nat.reduceEqDiff, Nat.reduceLT, Nat.reduceLeDiff, Int.reduceLT, Int.reduceLE, Int.reduceNeg, and_self, true_and, and_true, decide_true, decide_false, Bool.false_eq_true, Bool.not_true, Bool.not_false, Int.reduceAbs, Int.natAbs_neg, or_true, true_or, vIx, vLen, vAbs, vSum, vMax, vMin, decide_eq_true_eq, Bool.not_eq_true]),
        fSeq_nx (ρ' := [some (.imm (.int n)), some (.imm (.str pool)), some (.imm (.bl st)), some (.imm (.int (n % 6))), some (.imm (.int (n / 6))), none, none, none]) (by simp only [fSeq, fAsg, fAsgN, fRet, fRetO, fExpr, fTo, fPar2, fPar3, fAug, fIf, fBin, fBinT, fTru, fAnd, fOr, fNot, fAndV, fOrV, fNotV, fNeg, fName, fPeek, fD, fN, fLst, fTup, fCons, fCall, fCallN, fDef, fFld, fInt, fSl, fIt, fItA, fStuck, fCv, fCn, fCd, stN, stCons, stNil, stTup, mB, mP, mO, look, lookA, asBl, asInt, vAdd, vSub, vMul, vFdiv, vMod, vCmp, vIs, isNon, vAugAdd, fApp, fExt, fMs, fMn, List.getElem?_cons_zero, List.getElem?_cons_succ, List.getElem?_nil, List.set_cons_zero, List.set_cons_succ, List.length_cons, List.length_nil, Option.bind_some, Option.map_some, if_true, if_false, reduceIte, List.nil_append, List.cons_append, List.append_nil, resOf, Nat.reduceAdd, Nat.reduceEqDiff, Nat.reduceLT, Nat.reduceLeDiff, Int.reduceLT, Int.reduceLE, Int.reduceNeg, and_self, true_and, and_true, decide_true, decide_false, Bool.false_eq_true, Bool.not_true, Bool.not_false, Int.reduceAbs, Int.natAbs_neg, or_true, true_or, vIx, vLen, vAbs, vSum, vMax, vMin, decide_eq_true_eq, Bool.not_eq_true, vEq_int, a0]),
        fSeq_nx (ρ' := [some (.imm (.int n)), some (.imm (.str pool)), some (.imm (.bl st)), some (.imm (.int (n % 6))), some (.imm (.int (n / 6))), none, none, none]) (by simp only [fSeq, fAsg, fAsgN, fRet, fRetO, fExpr, fTo, fPar2, fPar3, fAug, fIf, fBin, fBinT, fTru, fAnd, fOr, fNot, fAndV, fOrV, fNotV, fNeg, fName, fPeek, fD, fN, fLst, fTup, fCons, fCall, fCallN, fDef, fFld, fInt, fSl, fIt, fItA, fStuck, fCv, fCn, fCd, stN, stCons, stNil, stTup, mB, mP, mO, look, lookA, asBl, asInt, vAdd, vSub, vMul, vFdiv, vMod, vCmp, vIs, isNon, vAugAdd, fApp, fExt, fMs, fMn, List.getElem?_cons_zero, List.getElem?_cons_succ, List.getElem?_nil, List.set_cons_zero, List.set_cons_succ, List.length_cons, List.length_nil, Option.bind_some, Option.map_some, if_true, if_false, reduceIte, List.nil_append, List.cons_append, List.append_nil, resOf, Nat.reduceAdd, Nat.reduceEqDiff, Nat.reduceLT, Nat.reduceLeDiff, Int.reduceLT, Int.reduceLE, Int.reduceNeg, and_self, true_and, and_true, decide_true, decide_false, Bool.false_eq_true, Bool.not_true, Bool.not_false, Int.reduceAbs, Int.natAbs_neg, or_true, true_or, vIx, vLen, vAbs, vSum, vMax, vMin, decide_eq_true_eq, Bool.not_eq_true, vEq_int, a1]),
        fSeq_nx (ρ' := [some (.imm (.int n)), some (.imm (.str pool)), some (.imm (.bl st)), some (.imm (.int (n % 6))), some (.imm (.int (n / 6))), none, none, none]) (by simp only [fSeq, fAsg, fAsgN, fRet, fRetO, fExpr, fTo, fPar2, fPar3, fAug, fIf, fBin, fBinT, fTru, fAnd, fOr, fNot, fAndV, fOrV, fNotV, fNeg, fName, fPeek, fD, fN, fLst, fTup, fCons, fCall, fCallN, fDef, fFld, fInt, fSl, fIt, fItA, fStuck, fCv, fCn, fCd, stN, stCons, stNil, stTup, mB, mP, mO, look, lookA, asBl, asInt, vAdd, vSub, vMul, vFdiv, vMod, vCmp, vIs, isNon, vAugAdd, fApp, fExt, fMs, fMn, List.getElem?_cons_zero, List.getElem?_cons_succ, List.getElem?_nil, List.set_cons_zero, List.set_cons_succ, List.length_cons, List.length_nil, Option.bind_some, Option.map_some, if_true, if_false, reduceIte, List.nil_append, List.cons_append, List.append_nil, resOf, Nat.reduceAdd, Nat.reduceEqDiff, Nat.reduceLT, Nat.reduceLeDiff, Int.reduceLT, Int.reduceLE, Int.reduceNeg, and_self, true_and, and_true, decide_true, decide_false, Bool.false_eq_true, Bool.not_true, Bool.not_false, Int.reduceAbs, Int.natAbs_neg, or_true, true_or, vIx, vLen, vAbs, vSum, vMax, vMin, decide_eq_true_eq, Bool.not_eq_true, vEq_int, a0, a3]),
        fSeq_nx (ρ' := [some (.imm (.int n)), some (.imm (.str pool)), some (.imm (.bl st)), some (.imm (.int (n % 6))), some (.imm (.int (n / 6))), none, none, none]) (by simp only [fSeq, fAsg, fAsgN, fRet, fRetO, fExpr, fTo, fPar2, fPar3, fAug, fIf, fBin, fBinT, fTru, fAnd, fOr, fNot, fAndV, fOrV, fNotV, fNeg, fName, fPeek, fD, fN, fLst, fTup, fCons, fCall, fCallN, fDef, fFld, fInt, fSl, fIt, fItA, fStuck, fCv, fCn, fCd, stN, stCons, stNil, stTup, mB, mP, mO, look, lookA, asBl, asInt, vAdd, vSub, vMul, vFdiv, vMod, vCmp, vIs, isNon, vAugAdd, fApp, fExt, fMs, fMn, List.getElem?_cons_zero, List.getElem?_cons_succ, List.getElem?_nil, List.set_cons_zero, List.set_cons_succ, List.length_cons, List.length_nil, Option.bind_some, Option.map_some, if_true, if_false, reduceIte, List.nil_append, List.cons_append, List.append_nil, resOf, Nat.reduceAdd, Nat.reduceEqDiff, Nat.reduceLT, Nat.reduceLeDiff, Int.reduceLT, Int.reduceLE, Int.reduceNeg, and_self, true_and, and_true, decide_true, decide_false, Bool.false_eq_true, Bool.not_true, Bool.not_false, Int.reduceAbs, Int.natAbs_neg, or_true, true_or, vIx, vLen, vAbs, vSum, vMax, vMin, decide_eq_true_eq, Bool.not_eq_true, vEq_int, h9]),
        fSeq_nx (ρ' := [some (.imm (.int n)), some (.imm (.str pool)), some (.imm (.bl st)), some (.imm (.int (n % 6))), some (.imm (.int (n / 6))), some (.imm (.str [c1, c2])), none, none]) (by simp only [fSeq, fAsg, fAsgN, fRet, fRetO, fExpr, fTo, fPar2, fPar3, fAug, fIf, fBin, fBinT, fTru, fAnd, fOr, fNot, fAndV, fOrV, fNotV, fNeg, fName, fPeek, fD, fN, fLst, fTup, fCons, fCall, fCallN, fDef, fFld, fInt, fSl, fIt, fItA, fStuck, fCv, fCn, fCd, stN, stCons, stNil, stTup, mB, mP, mO, look, lookA, asBl, asInt, vAdd, vSub, vMul, vFdiv, vMod, vCmp, vIs, isNon, vAugAdd, fApp, fExt, fMs, fMn, List.getElem?_cons_zero, List.getElem?_cons_succ, List.getElem?_nil, List.set_cons_zero, List.set_cons_succ, List.length_cons, List.length_nil, Option.bind_some, Option.map_some, if_true, if_false, reduceIte, List.nil_append, List.cons_append, List.append_nil, resOf, Nat.reduceAdd, Nat.reduceEqDiff, Nat.reduceLT, Nat.reduceLeDiff, Int.reduceLT, Int.reduceLE, Int.reduceNeg, and_self, true_and, and_true, decide_true, decide_false, Bool.false_eq_true, Bool.not_true, Bool.not_false, Int.reduceAbs, Int.natAbs_neg, or_true, true_or, vIx, vLen, vAbs, vSum, vMax, vMin, decide_eq_true_eq, Bool.not_eq_true, hp, e1, e2, Nat.reduceLeDiff]),
        fSeq_nx (ρ' := [some (.imm (.int n)), some (.imm (.str pool)), some (.imm (.bl st)), some (.imm (.int (n % 6))), some (.imm (.int (n / 6))), some (.imm (.str [c1, c2, c3])), none, none]) (by simp only [fSeq, fAsg, fAsgN, fRet, fRetO, fExpr, fTo, fPar2, fPar3, fAug, fIf, fBin, fBinT, fTru, fAnd, fOr, fNot, fAndV, fOrV, fNotV, fNeg, fName, fPeek, fD, fN, fLst, fTup, fCons, fCall, fCallN, fDef, fFld, fInt, fSl, fIt, fItA, fStuck, fCv, fCn, fCd, stN, stCons, stNil, stTup, mB, mP, mO, look, lookA, asBl, asInt, vAdd, vSub, vMul, vFdiv, vMod, vCmp, vIs, isNon, vAugAdd, fApp, fExt, fMs, fMn, List.getElem?_cons_zero, List.getElem?_cons_succ, List.getElem?_nil, List.set_cons_zero, List.set_cons_succ, List.length_cons, List.length_nil, Option.bind_some, Option.map_some, if_true, if_false, reduceIte, List.nil_append, List.cons_append, List.append_nil, resOf, Nat.reduceAdd, Nat.reduceEqDiff, Nat.reduceLT, Nat.reduceLeDiff, Int.reduceLT, Int.reduceLE, Int.reduceNeg, and_self, true_and, and_true, decide_true, decide_false, Bool.false_eq_true, Bool.not_true, Bool.not_false, Int.reduceAbs, Int.natAbs_neg, or_true, true_or, vIx, vLen, vAbs, vSum, vMax, vMin, decide_eq_true_eq, Bool.not_eq_true, hp, e3, Nat.reduceLeDiff]),
        fSeq_nx (ρ' := [some (.imm (.int n)), some (.imm (.str pool)), some (.imm (.bl st)), some (.imm (.int (n % 6))), some (.imm (.int (n / 6))), some (.imm (.str [c1, c2, c3])), some (.imm (.bl due)), none]) (by simp only [fSeq, fAsg, fAsgN, fRet, fRetO, fExpr, fTo, fPar2, fPar3, fAug, fIf, fBin, fBinT, fTru, fAnd, fOr, fNot, fAndV, fOrV, fNotV, fNeg, fName, fPeek, fD, fN, fLst, fTup, fCons, fCall, fCallN, fDef, fFld, fInt, fSl, fIt, fItA, fStuck, fCv, fCn, fCd, stN, stCons, stNil, stTup, mB, mP, mO, look, lookA, asBl, asInt, vAdd, vSub, vMul, vFdiv, vMod, vCmp, vIs, isNon, vAugAdd, fApp, fExt, fMs, fMn, List.getElem?_cons_zero, List.getElem?_cons_succ, List.getElem?_nil, List.set_cons_zero, List.set_cons_succ, List.length_cons, List.length_nil, Option.bind_some, Option.map_some, if_true, if_false, reduceIte, List.nil_append, List.cons_append, List.append_nil, resOf, Nat.reduceAdd, Nat.reduceEqDiff, Nat.reduceLT, Nat.reduceLeDiff, Int.reduceLT, Int.reduceLE, Int.reduceNeg, and_self, true_and, and_true, decide_true, decide_false, Bool.false_eq_true, Bool.not_true, Bool.not_false, Int.reduceAbs, Int.natAbs_neg, or_true, true_or, vIx, vLen, vAbs, vSum, vMax, vMin, decide_eq_true_eq, Bool.not_eq_true, vEq_int, hdd])]
      simp only [fSeq, fAsg, fAsgN, fRet, fRetO, fExpr, fTo, fPar2, fPar3, fAug, fIf, fBin, fBinT, fTru, fAnd, fOr, fNot, fAndV, fOrV, fNotV, fNeg, fName, fPeek, fD, fN, fLst, fTup, fCons, fCall, fCallN, fDef, fFld, fInt, fSl, fIt, fItA, fStuck, fCv, fCn, fCd, stN, stCons, stNil, stTup, mB, mP, mO, look, lookA, asBl, asInt, vAdd, vSub, vMul, vFdiv, vMod, vCmp, vIs, isNon, vAugAdd, fApp, fExt, fMs, fMn, List.getElem?_cons_zero, List.getElem?_cons_succ, List.getElem?_nil, List.set_cons_zero, List.set_cons_succ, List.length_cons, List.length_nil, Option.bind_some, Option.map_some, if_true, if_false, reduceIte, List.nil_append, List.cons_append, List.append_nil, resOf, Nat.reduceAdd, Nat.reduceEqDiff, Nat.reduceLT, Nat.reduceLeDiff, Int.reduceLT, Int.reduceLE, Int.reduceNeg, and_self, true_and, and_true, decide_true, decide_false, Bool.false_eq_true, Bool.not_true, Bool.not_false, Int.reduceAbs, Int.natAbs_neg, or_true, true_or, vIx, vLen, vAbs, vSum, vMax, vMin, decide_eq_true_eq, Bool.not_eq_true, signs_eq, fComp, itemsS, ec, ej]
  rcases hk with h | h | h | h | h | h
  · cases st with
    | false => exact ⟨[42], by simp only [b__law_mark, fSeq, fAsg, fAsgN, fRet, fRetO, fExpr, fTo, fPar2, fPar3, fAug, fIf, fBin, fBinT, fTru, fAnd, fOr, fNot, fAndV, fOrV, fNotV, fNeg, fName, fPeek, fD, fN, fLst, fTup, fCons, fCall, fCallN, fDef, fFld, fInt, fSl, fIt, fItA, fStuck, fCv, fCn, fCd, stN, stCons, stNil, stTup, mB, mP, mO, look, lookA, asBl, asInt, vAdd, vSub, vMul, vFdiv, vMod, vCmp, vIs, isNon, vAugAdd, fApp, fExt, fMs, fMn, List.getElem?_cons_zero, List.getElem?_cons_succ, List.getElem?_nil, List.set_cons_zero, List.set_cons_succ, List.length_cons, List.length_nil, Option.bind_some, Option.map_some, if_true, if_false, reduceIte, List.nil_append, List.cons_append, List.append_nil, resOf, Nat.reduceAdd, Nat.reduceEqDiff, Nat.reduceLT, Nat.reduceLeDiff, Int.reduceLT, Int.reduceLE, Int.reduceNeg, and_self, true_and, and_true, decide_true, decide_false, Bool.false_eq_true, Bool.not_true, Bool.not_false, Int.reduceAbs, Int.natAbs_neg, or_true, true_or, vIx, vLen, vAbs, vSum, vMax, vMin, decide_eq_true_eq, Bool.not_eq_true, vEq_int, h, vTru], .inl rfl, by simp⟩
    | true => exact ⟨[c1], by simp only [b__law_mark, fSeq, fAsg, fAsgN, fRet, fRetO, fExpr, fTo, fPar2, fPar3, fAug, fIf, fBin, fBinT, fTru, fAnd, fOr, fNot, fAndV, fOrV, fNotV, fNeg, fName, fPeek, fD, fN, fLst, fTup, fCons, fCall, fCallN, fDef, fFld, fInt, fSl, fIt, fItA, fStuck, fCv, fCn, fCd, stN, stCons, stNil, stTup, mB, mP, mO, look, lookA, asBl, asInt, vAdd, vSub, vMul, vFdiv, vMod, vCmp, vIs, isNon, vAugAdd, fApp, fExt, fMs, fMn, List.getElem?_cons_zero, List.getElem?_cons_succ, List.getElem?_nil, List.set_cons_zero, List.set_cons_succ, List.length_cons, List.length_nil, Option.bind_some, Option.map_some, if_true, if_false, reduceIte, List.nil_append, List.cons_append, List.append_nil, resOf, Nat.reduceAdd, Nat.reduceEqDiff, Nat.reduceLT, Nat.reduceLeDiff, Int.reduceLT, Int.reduceLE, Int.reduceNeg, and_self, true_and, and_true, decide_true, decide_false, Bool.false_eq_true, Bool.not_true, Bool.not_false, Int.reduceAbs, Int.natAbs_neg, or_true, true_or, vIx, vLen, vAbs, vSum, vMax, vMin, decide_eq_true_eq, Bool.not_eq_true, vEq_int, h, vTru, e1, hp, Int.reduceEq], one c1 m1⟩
  · exact ⟨sg, by simp only [b__law_mark, fSeq, fAsg, fAsgN, fRet, fRetO, fExpr, fTo, fPar2, fPar3, fAug, fIf, fBin, fBinT, fTru, fAnd, fOr, fNot, fAndV, fOrV, fNotV, fNeg, fName, fPeek, fD, fN, fLst, fTup, fCons, fCall, fCallN, fDef, fFld, fInt, fSl, fIt, fItA, fStuck, fCv, fCn, fCd, stN, stCons, stNil, stTup, mB, mP, mO, look, lookA, asBl, asInt, vAdd, vSub, vMul, vFdiv, vMod, vCmp, vIs, isNon, vAugAdd, fApp, fExt, fMs, fMn, List.getElem?_cons_zero, List.getElem?_cons_succ, List.getElem?_nil, List.set_cons_zero, List.set_cons_succ, List.length_cons, List.length_nil, Option.bind_some, Option.map_some, if_true, if_false, reduceIte, List.nil_append, List.cons_append, List.append_nil, resOf, Nat.reduceAdd, Nat.reduceEqDiff, Nat.reduceLT, Nat.reduceLeDiff, Int.reduceLT, Int.reduceLE, Int.reduceNeg, and_self, true_and, and_true, decide_true, decide_false, Bool.false_eq_true, Bool.not_true, Bool.not_false, Int.reduceAbs, Int.natAbs_neg, or_true, true_or, vIx, vLen, vAbs, vSum, vMax, vMin, decide_eq_true_eq, Bool.not_eq_true, vEq_int, h, vTru, Int.reduceEq, signs_eq], IsM_sg, fun _ => IsM_ne fun _ h => h⟩
  · exact more true (.inl h) (by simp [h])
  · exact more false (.inr h) (by simp [h])
  · exact ⟨[c1], by simp only [b__law_mark, fSeq, fAsg, fAsgN, fRet, fRetO, fExpr, fTo, fPar2, fPar3, fAug, fIf, fBin, fBinT, fTru, fAnd, fOr, fNot, fAndV, fOrV, fNotV, fNeg, fName, fPeek, fD, fN, fLst, fTup, fCons, fCall, fCallN, fDef, fFld, fInt, fSl, fIt, fItA, fStuck, fCv, fCn, fCd, stN, stCons, stNil, stTup, mB, mP, mO, look, lookA, asBl, asInt, vAdd, vSub, vMul, vFdiv, vMod, vCmp, vIs, isNon, vAugAdd, fApp, fExt, fMs, fMn, List.getElem?_cons_zero, List.getElem?_cons_succ, List.getElem?_nil, List.set_cons_zero, List.set_cons_succ, List.length_cons, List.length_nil, Option.bind_some, Option.map_some, if_true, if_false, reduceIte, List.nil_append, List.cons_append, List.append_nil, resOf, Nat.reduceAdd, Nat.reduceEqDiff, Nat.reduceLT, Nat.reduceLeDiff, Int.reduceLT, Int.reduceLE, Int.reduceNeg, and_self, true_and, and_true, decide_true, decide_false, Bool.false_eq_true, Bool.not_true, Bool.not_false, Int.reduceAbs, Int.natAbs_neg, or_true, true_or, vIx, vLen, vAbs, vSum, vMax, vMin, decide_eq_true_eq, Bool.not_eq_true, vEq_int, h, vTru, e1, hp, Int.reduceEq], one c1 m1⟩
  · exact ⟨[c1], by simp only [b__law_mark, fSeq, fAsg, fAsgN, fRet, fRetO, fExpr, fTo, fPar2, fPar3, fAug, fIf, fBin, fBinT, fTru, fAnd, fOr, fNot, fAndV, fOrV, fNotV, fNeg, fName, fPeek, fD, fN, fLst, fTup, fCons, fCall, fCallN, fDef, fFld, fInt, fSl, fIt, fItA, fStuck, fCv, fCn, fCd, stN, stCons, stNil, stTup, mB, mP, mO, look, lookA, asBl, asInt, vAdd, vSub, vMul, vFdiv, vMod, vCmp, vIs, isNon, vAugAdd, fApp, fExt, fMs, fMn, List.getElem?_cons_zero, List.getElem?_cons_succ, List.getElem?_nil, List.set_cons_zero, List.set_cons_succ, List.length_cons, List.length_nil, Option.bind_some, Option.map_some, if_true, if_false, reduceIte, List.nil_append, List.cons_append, List.append_nil, resOf, Nat.reduceAdd, Nat.reduceEqDiff, Nat.reduceLT, Nat.reduceLeDiff, Int.reduceLT, Int.reduceLE, Int.reduceNeg, and_self, true_and, and_true, decide_true, decide_false, Bool.false_eq_true, Bool.not_true, Bool.not_false, Int.reduceAbs, Int.natAbs_neg, or_true, true_or, vIx, vLen, vAbs, vSum, vMax, vMin, decide_eq_true_eq, Bool.not_eq_true, vEq_int, h, vTru, e1, hp, Int.reduceEq], one c1 m1⟩

/-! the pieces of a line -/
inductive LP where
  | many | marks (ms : List (List Nat))
/-- no two stars side by side -/
def NoSS : List (List Nat) → Prop
  | a :: b :: r => ¬ (a = [42] ∧ b = [42]) ∧ NoSS (b :: r)
  | _ => True
def OkMs (ms : List (List Nat)) : Prop := ms ≠ [] ∧ (∀ m ∈ ms, IsM m) ∧ NoSS ms ∧ ms.length ≤ 100
def OkLP : LP → Prop
  | .many => True
  | .marks ms => OkMs ms
def isMany : LP → Bool
  | .many => true
  | _ => false
def NoMM : List LP → Prop
  | a :: b :: r => ¬ (isMany a = true ∧ isMany b = true) ∧ NoMM (b :: r)
  | _ => True
def OkPs (ps : List LP) : Prop := ps ≠ [] ∧ (∀ p ∈ ps, OkLP p) ∧ NoMM ps ∧ ps.length ≤ 100
def daP : LP → Da
  | .many => .non
  | .marks ms => .lst (ms.map .str)
theorem noSS_snoc : ∀ {ms : List (List Nat)} {m : List Nat}, NoSS ms → (ms.getLast? = some [42] → m ≠ [42]) → NoSS (ms ++ [m])
  | [], m, _, _ => trivial
  | [a], m, _, h => ⟨fun e => h (by simp [e.1]) e.2, trivial⟩
  | a :: b :: r, m, hn, h => ⟨hn.1, noSS_snoc (ms := b :: r) hn.2 (by simpa using h)⟩
theorem noMM_snoc : ∀ {ms : List LP} {m : LP}, NoMM ms → (∀ l, ms.getLast? = some l → isMany l = true → isMany m = false) → NoMM (ms ++ [m])
  | [], m, _, _ => trivial
  | [a], m, _, h => ⟨fun e => (by have := h a rfl e.1; rw [e.2] at this; cases this), trivial⟩
  | a :: b :: r, m, hn, h => ⟨hn.1, noMM_snoc (ms := b :: r) hn.2 (fun l hl => h l (by simpa using hl))⟩
theorem cutD_last {α : Type} (xs : List α) : cutD xs (some (-1)) none = xs.drop (xs.length - 1) := by
  unfold cutD
  rw [HT.sIx_none]
  have e : HT.sIx xs.length 0 (some (-1)) = xs.length - 1 := by
    unfold HT.sIx
    simp only
    rw [if_pos (by decide)]
    omega
  rw [e, List.take_of_length_le]
  rw [List.length_drop]
  omega
theorem drop_last {α : Type} (xs : List α) : xs.drop (xs.length - 1) = match xs.getLast? with
    | some x => [x]
    | none => [] := by
  cases h : xs.getLast? with
  | none =>
    rw [List.getLast?_eq_none_iff] at h
    subst h
    rfl
  | some x =>
    obtain ⟨ys, rfl⟩ := List.getLast?_eq_some_iff.mp h
    rw [List.length_append, List.length_singleton, Nat.add_sub_cancel, List.drop_left]
abbrev llE (s : Da) (a : Int) (pool : List Nat) (dr : List Int) (ps : List LP) (t : Option Ce) (n : Option Ce) (ms : Option Ce) (x : Option Ce) : Env :=
  [some (.imm s), some (.imm (.int a)), some (.imm (.str pool)), some (.imm (.lst (dr.map .int))), some (.lst (ps.map daP)), t, n, ms, x]
theorem dr_at {dr : List Int} (i : Int) (h0 : 0 ≤ i) (h : i < dr.length) : ∃ d, d ∈ dr ∧ atI (dr.map Da.int) i = some (.int d) := by
  obtain ⟨x, e, hx⟩ := atI_ok (xs := dr.map Da.int) h0 (by rw [List.length_map]; exact h)
  obtain ⟨d, hd, rfl⟩ := List.mem_map.mp hx
  exact ⟨d, hd, e⟩
/-- one more mark -/
theorem ll_mark (s : Da) (a : Int) {pool : List Nat} (hl : pool.length = 4) (hs : ∀ c ∈ pool, c ∈ sg) {dr : List Int} (hd : dr.length = 12) (ps : List LP) {t : Int} (ht : 0 ≤ t) (ht2 : t < 3) (n : Int) {ms : List (List Nat)} (hms : NoSS ms) (hms2 : ∀ m ∈ ms, IsM m) (hm3 : ms.length ≤ 50) {k : Int} (hk : 0 ≤ k) (hk2 : k < 3) :
    ∃ m, IsM m ∧ NoSS (ms ++ [m]) ∧ p1__law_line (llE s a pool dr ps (some (.imm (.int t))) (some (.imm (.int n))) (some (.lst (ms.map .str))) (some (.imm (.int k)))) = .ok .nx (llE s a pool dr ps (some (.imm (.int t))) (some (.imm (.int n))) (some (.lst ((ms ++ [m]).map .str))) (some (.imm (.int k)))) := by
  obtain ⟨d, _, ed⟩ := dr_at (dr := dr) (4 + 2 * t + k) (by omega) (by omega)
  obtain ⟨m, em, h1, h2⟩ := mark_ok d hl hs (decide (cutD ms (some (-1)) none = [[42]]))
  refine ⟨m, h1, noSS_snoc hms fun e => h2 ?_, ?_⟩
  · rw [cutD_last, drop_last, e]
    rfl
  · have ec : cutD (ms.map Da.str) (some (-1)) none = (cutD ms (some (-1)) none).map .str := by
      rw [cutD_last, cutD_last, List.length_map, List.map_drop]
    have e42 : [Da.str [42]] = [[42]].map Da.str := rfl
    have hl1 : ms.length ≤ 16777216 := by omega
    have hl2 : ms.length < 16777216 := by omega
    have hv := vEq_strs (cutD ms (some (-1)) none) [[42]]
    rw [← ec, ← e42] at hv
    simp only [p1__law_line, llE, fSeq, fAsg, fAsgN, fRet, fRetO, fExpr, fTo, fPar2, fPar3, fAug, fIf, fBin, fBinT, fTru, fAnd, fOr, fNot, fAndV, fOrV, fNotV, fNeg, fName, fPeek, fD, fN, fLst, fTup, fCons, fCall, fCallN, fDef, fFld, fInt, fSl, fIt, fItA, fStuck, fCv, fCn, fCd, stN, stCons, stNil, stTup, mB, mP, mO, look, lookA, asBl, asInt, vAdd, vSub, vMul, vFdiv, vMod, vCmp, vIs, isNon, vAugAdd, fApp, fExt, fMs, fMn, List.getElem?_cons_zero, List.getElem?_cons_succ, List.getElem?_nil, List.set_cons_zero, List.set_cons_succ, List.length_cons, List.length_nil, Option.bind_some, Option.map_some, if_true, if_false, reduceIte, List.nil_append, List.cons_append, List.append_nil, resOf, Nat.reduceAdd, Nat.reduceEqDiff, Nat.reduceLT, Nat.reduceLeDiff, Int.reduceLT, Int.reduceLE, Int.reduceNeg, and_self, true_and, and_true, decide_true, decide_false, Bool.false_eq_true, Bool.not_true, Bool.not_false, Int.reduceAbs, Int.natAbs_neg, or_true, true_or, vIx, vLen, vAbs, vSum, vMax, vMin, decide_eq_true_eq, Bool.not_eq_true, ed, vSlL, List.length_map, hl1, hl2, hv, em, Nat.reduceLeDiff, List.map_append, List.map_cons, List.map_nil, Int.reduceNeg]
theorem ll_marks (s : Da) (a : Int) {pool : List Nat} (hl : pool.length = 4) (hs : ∀ c ∈ pool, c ∈ sg) {dr : List Int} (hd : dr.length = 12) (ps : List LP) {t : Int} (ht : 0 ≤ t) (ht2 : t < 3) (n : Int) :
    ∀ (cnt : Nat) (k : Int) (ms : List (List Nat)) (x : Option Ce), 0 ≤ k → k + cnt ≤ 3 → NoSS ms → (∀ m ∈ ms, IsM m) → ms.length ≤ k.toNat →
    ∃ ms' x', NoSS ms' ∧ (∀ m ∈ ms', IsM m) ∧ ms'.length = ms.length + cnt ∧ forL (stN 8) p1__law_line (rangeD k cnt) (llE s a pool dr ps (some (.imm (.int t))) (some (.imm (.int n))) (some (.lst (ms.map .str))) x) = .ok .nx (llE s a pool dr ps (some (.imm (.int t))) (some (.imm (.int n))) (some (.lst (ms'.map .str))) x')
  | 0, k, ms, x, _, _, h1, h2, h3 => ⟨ms, x, h1, h2, rfl, by rw [rangeD_zero]; rfl⟩
  | cnt + 1, k, ms, x, hk, hk2, h1, h2, h3 => by
    obtain ⟨m, i1, i2, e⟩ := ll_mark s a hl hs hd ps ht ht2 n h1 h2 (by omega) hk (by omega)
    have hm' : ∀ z ∈ ms ++ [m], IsM z := fun z hz => (List.mem_append.mp hz).elim (h2 z) fun q => by rw [List.mem_singleton.mp q]; exact i1
    rw [rangeD_succ, forL_cons (ρ1 := llE s a pool dr ps (some (.imm (.int t))) (some (.imm (.int n))) (some (.lst (ms.map .str))) (some (.imm (.int k)))) rfl e]
    have hlm : (ms ++ [m]).length = ms.length + 1 := by rw [List.length_append, List.length_singleton]
    obtain ⟨ms', x', j1, j2, j3, j4⟩ := ll_marks s a hl hs hd ps ht ht2 n cnt (k + 1) (ms ++ [m]) (some (.imm (.int k))) (by omega) (by omega) i2 hm' (by rw [hlm]; omega)
    exact ⟨ms', x', j1, j2, by rw [j3, hlm]; omega, j4⟩
def lastMany (ps : List LP) : Bool := match ps.getLast? with
  | some .many => true
  | _ => false
theorem vNe_last (ps : List LP) : vEq true (.lst (cutD (ps.map daP) (some (-1)) none)) (.lst [.non]) = some (.bl (!lastMany ps)) := by
  rw [cutD_last, List.length_map, ← List.map_drop, drop_last]
  unfold lastMany
  cases ps.getLast? with
  | none => rfl
  | some p =>
    cases p with
    | many => rfl
    | marks ms =>
      unfold vEq
      rw [if_pos (by simp [daP, plainD, plainA, dep, depA, plainA_str, depA_str])]
      simp [daP, dq, dqA]
theorem ll_piece (s : Da) (a : Int) {pool : List Nat} (hl : pool.length = 4) (hs : ∀ c ∈ pool, c ∈ sg) {dr : List Int} (hd : dr.length = 12) {ps : List LP} {t : Int} (ht : 0 ≤ t) (ht2 : t < 3) (h1 : ∀ p ∈ ps, OkLP p) (h2 : NoMM ps) (h3 : ps.length ≤ t.toNat) (y z x : Option Ce) :
    ∃ ps' y' z' x', (∀ p ∈ ps', OkLP p) ∧ NoMM ps' ∧ ps' ≠ [] ∧ ps'.length ≤ t.toNat + 1 ∧ p2__law_line (llE s a pool dr ps (some (.imm (.int t))) y z x) = .ok .nx (llE s a pool dr ps' (some (.imm (.int t))) y' z' x') := by
  obtain ⟨n, _, en⟩ := dr_at (dr := dr) (1 + t) (by omega) (by omega)
  have hp1 : ps.length ≤ 16777216 := by omega
  have hp2 : ps.length < 16777216 := by omega
  unfold p2__law_line
  rw [fSeq_nx (ρ' := llE s a pool dr ps (some (.imm (.int t))) (some (.imm (.int n))) z x) (by simp only [llE, fSeq, fAsg, fAsgN, fRet, fRetO, fExpr, fTo, fPar2, fPar3, fAug, fIf, fBin, fBinT, fTru, fAnd, fOr, fNot, fAndV, fOrV, fNotV, fNeg, fName, fPeek, fD, fN, fLst, fTup, fCons, fCall, fCallN, fDef, fFld, fInt, fSl, fIt, fItA, fStuck, fCv, fCn, fCd, stN, stCons, stNil, stTup, mB, mP, mO, look, lookA, asBl, asInt, vAdd, vSub, vMul, vFdiv, vMod, vCmp, vIs, isNon, vAugAdd, fApp, fExt, fMs, fMn, List.getElem?_cons_zero, List.getElem?_cons_succ, List.getElem?_nil, List.set_cons_zero, List.set_cons_succ, List.length_cons, List.length_nil, Option.bind_some, Option.map_some, if_true, if_false, reduceIte, List.nil_append, List.cons_append, List.append_nil, resOf, Nat.reduceAdd, Nat.reduceEqDiff, Nat.reduceLT, Nat.reduceLeDiff, Int.reduceLT, Int.reduceLE, Int.reduceNeg, and_self, true_and, and_true, decide_true, decide_false, Bool.false_eq_true, Bool.not_true, Bool.not_false, Int.reduceAbs, Int.natAbs_neg, or_true, true_or, vIx, vLen, vAbs, vSum, vMax, vMin, decide_eq_true_eq, Bool.not_eq_true, en])]
  by_cases h5 : n % 5 = 0
  · rw [fIf_t (ρ' := llE s a pool dr ps (some (.imm (.int t))) (some (.imm (.int n))) z x) (by simp only [llE, fSeq, fAsg, fAsgN, fRet, fRetO, fExpr, fTo, fPar2, fPar3, fAug, fIf, fBin, fBinT, fTru, fAnd, fOr, fNot, fAndV, fOrV, fNotV, fNeg, fName, fPeek, fD, fN, fLst, fTup, fCons, fCall, fCallN, fDef, fFld, fInt, fSl, fIt, fItA, fStuck, fCv, fCn, fCd, stN, stCons, stNil, stTup, mB, mP, mO, look, lookA, asBl, asInt, vAdd, vSub, vMul, vFdiv, vMod, vCmp, vIs, isNon, vAugAdd, fApp, fExt, fMs, fMn, List.getElem?_cons_zero, List.getElem?_cons_succ, List.getElem?_nil, List.set_cons_zero, List.set_cons_succ, List.length_cons, List.length_nil, Option.bind_some, Option.map_some, if_true, if_false, reduceIte, List.nil_append, List.cons_append, List.append_nil, resOf, Nat.reduceAdd, Nat.reduceEqDiff, Nat.reduceLT, Nat.reduceLeDiff, Int.reduceLT, Int.reduceLE, Int.reduceNeg, and_self, true_and, and_true, decide_true, decide_false, Bool.false_eq_true, Bool.not_true, Bool.not_false, Int.reduceAbs, Int.natAbs_neg, or_true, true_or, vIx, vLen, vAbs, vSum, vMax, vMin, decide_eq_true_eq, Bool.not_eq_true, vEq_int, h5])]
    cases hm : lastMany ps with
    | true =>
      have hv := vNe_last ps
      rw [hm] at hv
      refine ⟨ps, _, _, _, h1, h2, ?_, by omega, by simp only [llE, fSeq, fAsg, fAsgN, fRet, fRetO, fExpr, fTo, fPar2, fPar3, fAug, fIf, fBin, fBinT, fTru, fAnd, fOr, fNot, fAndV, fOrV, fNotV, fNeg, fName, fPeek, fD, fN, fLst, fTup, fCons, fCall, fCallN, fDef, fFld, fInt, fSl, fIt, fItA, fStuck, fCv, fCn, fCd, stN, stCons, stNil, stTup, mB, mP, mO, look, lookA, asBl, asInt, vAdd, vSub, vMul, vFdiv, vMod, vCmp, vIs, isNon, vAugAdd, fApp, fExt, fMs, fMn, List.getElem?_cons_zero, List.getElem?_cons_succ, List.getElem?_nil, List.set_cons_zero, List.set_cons_succ, List.length_cons, List.length_nil, Option.bind_some, Option.map_some, if_true, if_false, reduceIte, List.nil_append, List.cons_append, List.append_nil, resOf, Nat.reduceAdd, Nat.reduceEqDiff, Nat.reduceLT, Nat.reduceLeDiff, Int.reduceLT, Int.reduceLE, Int.reduceNeg, and_self, true_and, and_true, decide_true, decide_false, Bool.false_eq_true, Bool.not_true, Bool.not_false, Int.reduceAbs, Int.natAbs_neg, or_true, true_or, vIx, vLen, vAbs, vSum, vMax, vMin, decide_eq_true_eq, Bool.not_eq_true, vSlL, List.length_map, hp1, hv, Int.reduceNeg, Nat.reduceLeDiff]; rfl⟩
      intro e
      subst e
      cases hm
    | false =>
      have hv := vNe_last ps
      rw [hm] at hv
      refine ⟨ps ++ [.many], _, _, _, ?_, noMM_snoc h2 ?_, by simp, by simp; omega, by simp only [llE, fSeq, fAsg, fAsgN, fRet, fRetO, fExpr, fTo, fPar2, fPar3, fAug, fIf, fBin, fBinT, fTru, fAnd, fOr, fNot, fAndV, fOrV, fNotV, fNeg, fName, fPeek, fD, fN, fLst, fTup, fCons, fCall, fCallN, fDef, fFld, fInt, fSl, fIt, fItA, fStuck, fCv, fCn, fCd, stN, stCons, stNil, stTup, mB, mP, mO, look, lookA, asBl, asInt, vAdd, vSub, vMul, vFdiv, vMod, vCmp, vIs, isNon, vAugAdd, fApp, fExt, fMs, fMn, List.getElem?_cons_zero, List.getElem?_cons_succ, List.getElem?_nil, List.set_cons_zero, List.set_cons_succ, List.length_cons, List.length_nil, Option.bind_some, Option.map_some, if_true, if_false, reduceIte, List.nil_append, List.cons_append, List.append_nil, resOf, Nat.reduceAdd, Nat.reduceEqDiff, Nat.reduceLT, Nat.reduceLeDiff, Int.reduceLT, Int.reduceLE, Int.reduceNeg, and_self, true_and, and_true, decide_true, decide_false, Bool.false_eq_true, Bool.not_true, Bool.not_false, Int.reduceAbs, Int.natAbs_neg, or_true, true_or, vIx, vLen, vAbs, vSum, vMax, vMin, decide_eq_true_eq, Bool.not_eq_true, vSlL, List.length_map, hp1, hp2, hv, Int.reduceNeg, Nat.reduceLeDiff, List.map_append, List.map_cons, List.map_nil, daP]; rfl⟩
      · intro p hp
        rcases List.mem_append.mp hp with h | h
        · exact h1 p h
        · rw [List.mem_singleton.mp h]
          trivial
      · intro l el il
        unfold lastMany at hm
        rw [el] at hm
        cases l with
        | many => cases hm
        | marks ms => cases il
  · rw [fIf_f (ρ' := llE s a pool dr ps (some (.imm (.int t))) (some (.imm (.int n))) z x) (by simp only [llE, fSeq, fAsg, fAsgN, fRet, fRetO, fExpr, fTo, fPar2, fPar3, fAug, fIf, fBin, fBinT, fTru, fAnd, fOr, fNot, fAndV, fOrV, fNotV, fNeg, fName, fPeek, fD, fN, fLst, fTup, fCons, fCall, fCallN, fDef, fFld, fInt, fSl, fIt, fItA, fStuck, fCv, fCn, fCd, stN, stCons, stNil, stTup, mB, mP, mO, look, lookA, asBl, asInt, vAdd, vSub, vMul, vFdiv, vMod, vCmp, vIs, isNon, vAugAdd, fApp, fExt, fMs, fMn, List.getElem?_cons_zero, List.getElem?_cons_succ, List.getElem?_nil, List.set_cons_zero, List.set_cons_succ, List.length_cons, List.length_nil, Option.bind_some, Option.map_some, if_true, if_false, reduceIte, List.nil_append, List.cons_append, List.append_nil, resOf, Nat.reduceAdd, Nat.reduceEqDiff, Nat.reduceLT, Nat.reduceLeDiff, Int.reduceLT, Int.reduceLE, Int.reduceNeg, and_self, true_and, and_true, decide_true, decide_false, Bool.false_eq_true, Bool.not_true, Bool.not_false, Int.reduceAbs, Int.natAbs_neg, or_true, true_or, vIx, vLen, vAbs, vSum, vMax, vMin, decide_eq_true_eq, Bool.not_eq_true, vEq_int, h5])]
    rw [fSeq_nx (ρ' := llE s a pool dr ps (some (.imm (.int t))) (some (.imm (.int n))) (some (.lst (([] : List (List Nat)).map .str))) x) (by simp only [llE, fSeq, fAsg, fAsgN, fRet, fRetO, fExpr, fTo, fPar2, fPar3, fAug, fIf, fBin, fBinT, fTru, fAnd, fOr, fNot, fAndV, fOrV, fNotV, fNeg, fName, fPeek, fD, fN, fLst, fTup, fCons, fCall, fCallN, fDef, fFld, fInt, fSl, fIt, fItA, fStuck, fCv, fCn, fCd, stN, stCons, stNil, stTup, mB, mP, mO, look, lookA, asBl, asInt, vAdd, vSub, vMul, vFdiv, vMod, vCmp, vIs, isNon, vAugAdd, fApp, fExt, fMs, fMn, List.getElem?_cons_zero, List.getElem?_cons_succ, List.getElem?_nil, List.set_cons_zero, List.set_cons_succ, List.length_cons, List.length_nil, Option.bind_some, Option.map_some, if_true, if_false, reduceIte, List.nil_append, List.cons_append, List.append_nil, resOf, Nat.reduceAdd, Nat.reduceEqDiff, Nat.reduceLT, Nat.reduceLeDiff, Int.reduceLT, Int.reduceLE, Int.reduceNeg, and_self, true_and, and_true, decide_true, decide_false, Bool.false_eq_true, Bool.not_true, Bool.not_false, Int.reduceAbs, Int.natAbs_neg, or_true, true_or, vIx, vLen, vAbs, vSum, vMax, vMin, decide_eq_true_eq, Bool.not_eq_true, Nat.reduceLeDiff]; rfl)]
    have k0 : 0 ≤ n / 5 % 3 := Int.emod_nonneg _ (by decide)
    have k1 : n / 5 % 3 < 3 := Int.emod_lt_of_pos _ (by decide)
    obtain ⟨ms', x', j1, j2, j3, j4⟩ := ll_marks s a hl hs hd ps ht ht2 n (1 + n / 5 % 3).toNat 0 [] x (by omega) (by omega) trivial (by simp) (by simp)
    have r1 : (-4611686018427387904 : Int) ≤ 1 + n / 5 % 3 ∧ 1 + n / 5 % 3 < 4611686018427387904 := by omega
    rw [fSeq_nx (ρ' := llE s a pool dr ps (some (.imm (.int t))) (some (.imm (.int n))) (some (.lst (ms'.map .str))) x') (by
      rw [← j4]
      simp only [llE, fFor, fSeq, fAsg, fAsgN, fRet, fRetO, fExpr, fTo, fPar2, fPar3, fAug, fIf, fBin, fBinT, fTru, fAnd, fOr, fNot, fAndV, fOrV, fNotV, fNeg, fName, fPeek, fD, fN, fLst, fTup, fCons, fCall, fCallN, fDef, fFld, fInt, fSl, fIt, fItA, fStuck, fCv, fCn, fCd, stN, stCons, stNil, stTup, mB, mP, mO, look, lookA, asBl, asInt, vAdd, vSub, vMul, vFdiv, vMod, vCmp, vIs, isNon, vAugAdd, fApp, fExt, fMs, fMn, List.getElem?_cons_zero, List.getElem?_cons_succ, List.getElem?_nil, List.set_cons_zero, List.set_cons_succ, List.length_cons, List.length_nil, Option.bind_some, Option.map_some, if_true, if_false, reduceIte, List.nil_append, List.cons_append, List.append_nil, resOf, Nat.reduceAdd, Nat.reduceEqDiff, Nat.reduceLT, Nat.reduceLeDiff, Int.reduceLT, Int.reduceLE, Int.reduceNeg, and_self, true_and, and_true, decide_true, decide_false, Bool.false_eq_true, Bool.not_true, Bool.not_false, Int.reduceAbs, Int.natAbs_neg, or_true, true_or, vIx, vLen, vAbs, vSum, vMax, vMin, decide_eq_true_eq, Bool.not_eq_true, rng1, r1])]
    rw [List.length_nil, Nat.zero_add] at j3
    refine ⟨ps ++ [.marks ms'], _, _, _, ?_, noMM_snoc h2 fun l _ _ => rfl, by simp, by simp; omega, by simp only [llE, fSeq, fAsg, fAsgN, fRet, fRetO, fExpr, fTo, fPar2, fPar3, fAug, fIf, fBin, fBinT, fTru, fAnd, fOr, fNot, fAndV, fOrV, fNotV, fNeg, fName, fPeek, fD, fN, fLst, fTup, fCons, fCall, fCallN, fDef, fFld, fInt, fSl, fIt, fItA, fStuck, fCv, fCn, fCd, stN, stCons, stNil, stTup, mB, mP, mO, look, lookA, asBl, asInt, vAdd, vSub, vMul, vFdiv, vMod, vCmp, vIs, isNon, vAugAdd, fApp, fExt, fMs, fMn, List.getElem?_cons_zero, List.getElem?_cons_succ, List.getElem?_nil, List.set_cons_zero, List.set_cons_succ, List.length_cons, List.length_nil, Option.bind_some, Option.map_some, if_true, if_false, reduceIte, List.nil_append, List.cons_append, List.append_nil, resOf, Nat.reduceAdd, Nat.reduceEqDiff, Nat.reduceLT, Nat.reduceLeDiff, Int.reduceLT, Int.reduceLE, Int.reduceNeg, and_self, true_and, and_true, decide_true, decide_false, Bool.false_eq_true, Bool.not_true, Bool.not_false, Int.reduceAbs, Int.natAbs_neg, or_true, true_or, vIx, vLen, vAbs, vSum, vMax, vMin, decide_eq_true_eq, Bool.not_eq_true, List.length_map, hp2, List.map_append, List.map_cons, List.map_nil, daP]; rfl⟩
    intro p hp
    rcases List.mem_append.mp hp with h | h
    · exact h1 p h
    · rw [List.mem_singleton.mp h]
      exact ⟨by intro e; rw [e] at j3; simp at j3; omega, j2, j1, by omega⟩
theorem ll_pieces (s : Da) (a : Int) {pool : List Nat} (hl : pool.length = 4) (hs : ∀ c ∈ pool, c ∈ sg) {dr : List Int} (hd : dr.length = 12) :
    ∀ (cnt : Nat) (t : Int) (ps : List LP) (w y z x : Option Ce), 0 ≤ t → t + cnt ≤ 3 → (∀ p ∈ ps, OkLP p) → NoMM ps → ps.length ≤ t.toNat → (cnt = 0 → ps ≠ []) →
    ∃ ps' w' y' z' x', (∀ p ∈ ps', OkLP p) ∧ NoMM ps' ∧ ps' ≠ [] ∧ ps'.length ≤ 3 ∧ forL (stN 5) p2__law_line (rangeD t cnt) (llE s a pool dr ps w y z x) = .ok .nx (llE s a pool dr ps' w' y' z' x')
  | 0, t, ps, w, y, z, x, h0, h1, h2, h3, h4, h5 => ⟨ps, w, y, z, x, h2, h3, h5 rfl, by omega, by rw [rangeD_zero]; rfl⟩
  | cnt + 1, t, ps, w, y, z, x, h0, h1, h2, h3, h4, h5 => by
    obtain ⟨ps1, y1, z1, x1, g1, g2, g3, g4, e⟩ := ll_piece s a hl hs hd h0 (by omega) h2 h3 h4 y z x
    obtain ⟨ps', w', y', z', x', k1, k2, k3, k4, e2⟩ := ll_pieces s a hl hs hd cnt (t + 1) ps1 (some (.imm (.int t))) y1 z1 x1 (by omega) (by omega) g1 g2 (by omega) (fun _ => g3)
    refine ⟨ps', w', y', z', x', k1, k2, k3, k4, ?_⟩
    rw [rangeD_succ, forL_cons (ρ1 := llE s a pool dr ps (some (.imm (.int t))) y z x) rfl e, e2]
def daL (l : Bool) (ps : List LP) (f : Bool) : Da := .tup [.bl l, .lst (ps.map daP), .bl f]
theorem line_ok (ns : List Int) {a : Int} (ha : 0 ≤ a) {pool : List Nat} (hl : pool.length = 4) (hs : ∀ c ∈ pool, c ∈ sg) :
    ∃ l ps f, f__law_line [.lst (ns.map .int), .int a, .str pool] = .ok (daL l ps f) ∧ OkPs ps ∧ ps.length ≤ 3 := by
  have ed := digs_eq ns a 12 600 ha (by decide) (by decide) (by decide) (by decide)
  have hd : (digP ns a 12 600).length = 12 := digP_len _ _ _ _
  generalize digP ns a 12 600 = dr at ed hd
  obtain ⟨d, _, e0⟩ := dr_at (dr := dr) 0 (by decide) (by omega)
  have k0 : 0 ≤ d / 9 % 3 := Int.emod_nonneg _ (by decide)
  have k1 : d / 9 % 3 < 3 := Int.emod_lt_of_pos _ (by decide)
  obtain ⟨ps, w, y, z, x, h1, h2, h3, h4, e⟩ := ll_pieces (.lst (ns.map .int)) a hl hs hd (1 + d / 9 % 3).toNat 0 [] none none none none (by decide) (by omega) (by simp) trivial (by simp) (by omega)
  have r1 : (-4611686018427387904 : Int) ≤ 1 + d / 9 % 3 ∧ 1 + d / 9 % 3 < 4611686018427387904 := by omega
  refine ⟨decide (d % 3 = 0), ps, decide (d / 3 % 3 = 0), ?_, ⟨h3, h1, h2, by omega⟩, h4⟩
  have start : f__law_line [.lst (ns.map .int), .int a, .str pool] = resOf (b__law_line [some (.imm (.lst (ns.map .int))), some (.imm (.int a)), some (.imm (.str pool)), none, none, none, none, none, none]) := rfl
  rw [start]
  unfold b__law_line
  rw [fSeq_nx (ρ' := [some (.imm (.lst (ns.map .int))), some (.imm (.int a)), some (.imm (.str pool)), some (.imm (.lst (dr.map .int))), none, none, none, none, none]) (by simp only [fSeq, fAsg, fAsgN, fRet, fRetO, fExpr, fTo, fPar2, fPar3, fAug, fIf, fBin, fBinT, fTru, fAnd, fOr, fNot, fAndV, fOrV, fNotV, fNeg, fName, fPeek, fD, fN, fLst, fTup, fCons, fCall, fCallN, fDef, fFld, fInt, fSl, fIt, fItA, fStuck, fCv, fCn, fCd, stN, stCons, stNil, stTup, mB, mP, mO, look, lookA, asBl, asInt, vAdd, vSub, vMul, vFdiv, vMod, vCmp, vIs, isNon, vAugAdd, fApp, fExt, fMs, fMn, List.getElem?_cons_zero, List.getElem?_cons_succ, List.getElem?_nil, List.set_cons_zero, List.set_cons_succ, List.length_cons, List.length_nil, Option.bind_some, Option.map_some, if_true, if_false, reduceIte, List.nil_append, List.cons_append, List.append_nil, resOf, Nat.reduceAdd, Nat.reduceEqDiff, Nat.reduceLT, Nat.reduceLeDiff, Int.reduceLT, Int.reduceLE, Int.reduceNeg, and_self, true_and, and_true, decide_true, decide_false, Bool.false_eq_true, Bool.not_true, Bool.not_false, Int.reduceAbs, Int.natAbs_neg, or_true, true_or, vIx, vLen, vAbs, vSum, vMax, vMin, decide_eq_true_eq, Bool.not_eq_true, ed]),
    fSeq_nx (ρ' := llE (.lst (ns.map .int)) a pool dr [] none none none none) (by simp only [fSeq, fAsg, fAsgN, fRet, fRetO, fExpr, fTo, fPar2, fPar3, fAug, fIf, fBin, fBinT, fTru, fAnd, fOr, fNot, fAndV, fOrV, fNotV, fNeg, fName, fPeek, fD, fN, fLst, fTup, fCons, fCall, fCallN, fDef, fFld, fInt, fSl, fIt, fItA, fStuck, fCv, fCn, fCd, stN, stCons, stNil, stTup, mB, mP, mO, look, lookA, asBl, asInt, vAdd, vSub, vMul, vFdiv, vMod, vCmp, vIs, isNon, vAugAdd, fApp, fExt, fMs, fMn, List.getElem?_cons_zero, List.getElem?_cons_succ, List.getElem?_nil, List.set_cons_zero, List.set_cons_succ, List.length_cons, List.length_nil, Option.bind_some, Option.map_some, if_true, if_false, reduceIte, List.nil_append, List.cons_append, List.append_nil, resOf, Nat.reduceAdd, Nat.reduceEqDiff, Nat.reduceLT, Nat.reduceLeDiff, Int.reduceLT, Int.reduceLE, Int.reduceNeg, and_self, true_and, and_true, decide_true, decide_false, Bool.false_eq_true, Bool.not_true, Bool.not_false, Int.reduceAbs, Int.natAbs_neg, or_true, true_or, vIx, vLen, vAbs, vSum, vMax, vMin, decide_eq_true_eq, Bool.not_eq_true, llE, List.map_nil, Nat.reduceLeDiff]),
    fSeq_nx (ρ' := llE (.lst (ns.map .int)) a pool dr ps w y z x) (by
      rw [← e]
      simp only [llE, fFor, fSeq, fAsg, fAsgN, fRet, fRetO, fExpr, fTo, fPar2, fPar3, fAug, fIf, fBin, fBinT, fTru, fAnd, fOr, fNot, fAndV, fOrV, fNotV, fNeg, fName, fPeek, fD, fN, fLst, fTup, fCons, fCall, fCallN, fDef, fFld, fInt, fSl, fIt, fItA, fStuck, fCv, fCn, fCd, stN, stCons, stNil, stTup, mB, mP, mO, look, lookA, asBl, asInt, vAdd, vSub, vMul, vFdiv, vMod, vCmp, vIs, isNon, vAugAdd, fApp, fExt, fMs, fMn, List.getElem?_cons_zero, List.getElem?_cons_succ, List.getElem?_nil, List.set_cons_zero, List.set_cons_succ, List.length_cons, List.length_nil, Option.bind_some, Option.map_some, if_true, if_false, reduceIte, List.nil_append, List.cons_append, List.append_nil, resOf, Nat.reduceAdd, Nat.reduceEqDiff, Nat.reduceLT, Nat.reduceLeDiff, Int.reduceLT, Int.reduceLE, Int.reduceNeg, and_self, true_and, and_true, decide_true, decide_false, Bool.false_eq_true, Bool.not_true, Bool.not_false, Int.reduceAbs, Int.natAbs_neg, or_true, true_or, vIx, vLen, vAbs, vSum, vMax, vMin, decide_eq_true_eq, Bool.not_eq_true, rng1, e0, r1])]
  simp only [llE, fSeq, fAsg, fAsgN, fRet, fRetO, fExpr, fTo, fPar2, fPar3, fAug, fIf, fBin, fBinT, fTru, fAnd, fOr, fNot, fAndV, fOrV, fNotV, fNeg, fName, fPeek, fD, fN, fLst, fTup, fCons, fCall, fCallN, fDef, fFld, fInt, fSl, fIt, fItA, fStuck, fCv, fCn, fCd, stN, stCons, stNil, stTup, mB, mP, mO, look, lookA, asBl, asInt, vAdd, vSub, vMul, vFdiv, vMod, vCmp, vIs, isNon, vAugAdd, fApp, fExt, fMs, fMn, List.getElem?_cons_zero, List.getElem?_cons_succ, List.getElem?_nil, List.set_cons_zero, List.set_cons_succ, List.length_cons, List.length_nil, Option.bind_some, Option.map_some, if_true, if_false, reduceIte, List.nil_append, List.cons_append, List.append_nil, resOf, Nat.reduceAdd, Nat.reduceEqDiff, Nat.reduceLT, Nat.reduceLeDiff, Int.reduceLT, Int.reduceLE, Int.reduceNeg, and_self, true_and, and_true, decide_true, decide_false, Bool.false_eq_true, Bool.not_true, Bool.not_false, Int.reduceAbs, Int.natAbs_neg, or_true, true_or, vIx, vLen, vAbs, vSum, vMax, vMin, decide_eq_true_eq, Bool.not_eq_true, e0, vEq_int, Nat.reduceLeDiff, daL]
end Kb
namespace Kb
/-! the written forms of a mark -/
inductive Itm where
  | one (c : Nat) | two (c d : Nat)
def itmT : Itm → List Nat
  | .one c => [c]
  | .two c d => [c, 45, d]
def itmIn : Itm → Nat → Bool
  | .one c, s => decide (s = c)
  | .two c d, s => decide (idx c ≤ idx s ∧ idx s ≤ idx d)
def OkItm : Itm → Prop
  | .one c => c ∈ sg
  | .two c d => c ∈ sg ∧ d ∈ sg ∧ idx c ≤ idx d
inductive Form where
  | star | any | sgn (c : Nat) | br (less : Bool) (its : List Itm)
def formT : Form → List Nat
  | .star => [42]
  | .any => [63]
  | .sgn c => [c]
  | .br less its => [91] ++ ((if less then [33] else []) ++ (its.flatMap itmT ++ [93]))
def formD : Form → List Nat
  | .star => [42]
  | .any => sg
  | .sgn c => [c]
  | .br less its => sg.filter fun s => (its.any (itmIn · s)) != less
def OkForm : Form → Prop
  | .sgn c => c ∈ sg
  | .br _ its => its ≠ [] ∧ ∀ i ∈ its, OkItm i
  | _ => True
def MF (m t : List Nat) : Prop := ∃ F, OkForm F ∧ formT F = t ∧ formD F = m ∧ t.length ≤ 100
theorem chn_mem : ∀ (r : List Nat) (a : Nat), Chn (a :: r) → (∀ c ∈ a :: r, c ∈ sg) → ∀ s ∈ sg, s ∈ a :: r ↔ idx a ≤ idx s ∧ idx s ≤ idx ((a :: r).getLastD 0)
  | [], a, _, h, s, hs => by
    rw [List.mem_singleton]
    constructor
    · rintro rfl
      exact ⟨Nat.le_refl _, Nat.le_refl _⟩
    · rintro ⟨h1, h2⟩
      exact idx_inj hs (h a (by simp)) (Nat.le_antisymm h2 h1)
  | b :: r, a, hc, h, s, hs => by
    have hb : b ∈ sg := h b (by simp)
    have ha : a ∈ sg := h a (by simp)
    have ih := chn_mem r b hc.2 (fun c hc => h c (List.mem_cons_of_mem _ hc)) s hs
    have e := (nx_idx ha hb).mp hc.1
    have hl : (a :: b :: r).getLastD 0 = (b :: r).getLastD 0 := by simp
    have hge : idx b ≤ idx ((b :: r).getLastD 0) := by
      have hm : (b :: r).getLastD 0 ∈ b :: r := by
        rw [List.getLastD_eq_getLast?, List.getLast?_eq_some_getLast (by simp : b :: r ≠ [])]
        exact List.getLast_mem _
      exact ((chn_mem r b hc.2 (fun c hc => h c (List.mem_cons_of_mem _ hc)) _ (h _ (List.mem_cons_of_mem _ hm))).mp hm).1
    rw [List.mem_cons, ih, hl]
    constructor
    · rintro (rfl | h2)
      · exact ⟨Nat.le_refl _, by omega⟩
      · omega
    · intro h2
      by_cases h3 : idx s = idx a
      · exact .inl (idx_inj hs ha h3)
      · exact .inr (by omega)
def rendI (r : List Nat) : List Itm := match r with
  | [] => []
  | [a] => [.one a]
  | [a, b] => [.one a, .one b]
  | a :: b :: c :: l => [.two a ((a :: b :: c :: l).getLastD 0)]
theorem rendI_T (r : List Nat) : (rendI r).flatMap itmT = rend r := by
  match r with
  | [] => rfl
  | [a] => rfl
  | [a, b] => rfl
  | a :: b :: c :: l => rfl
theorem last_mem {a : Nat} {r : List Nat} : (a :: r).getLastD 0 ∈ a :: r := by
  rw [List.getLastD_eq_getLast?, List.getLast?_eq_some_getLast (by simp : a :: r ≠ [])]
  exact List.getLast_mem _
theorem rendI_in {r : List Nat} (hc : Chn r) (h : ∀ c ∈ r, c ∈ sg) {s : Nat} (hs : s ∈ sg) : (rendI r).any (itmIn · s) = decide (s ∈ r) := by
  match r, hc, h with
  | [], _, _ => simp [rendI]
  | [a], _, _ => simp [rendI, itmIn]
  | [a, b], _, _ => simp [rendI, itmIn]
  | a :: b :: c :: l, hc, h =>
    have := chn_mem (b :: c :: l) a hc h s hs
    simp only [rendI, List.any_cons, List.any_nil, Bool.or_false, itmIn]
    exact (decide_eq_decide.mpr this).symm
theorem rendI_ok {r : List Nat} (hc : Chn r) (h : ∀ c ∈ r, c ∈ sg) : ∀ i ∈ rendI r, OkItm i := by
  match r, hc, h with
  | [], _, _ => intro i hi; cases hi
  | [a], _, h =>
    intro i hi
    simp only [rendI, List.mem_singleton] at hi
    subst hi
    exact h a (by simp)
  | [a, b], _, h =>
    intro i hi
    simp only [rendI, List.mem_cons, List.mem_nil_iff, or_false] at hi
    rcases hi with rfl | rfl
    · exact h a (by simp)
    · exact h b (by simp)
  | a :: b :: c :: l, hc, h =>
    intro i hi
    simp only [rendI, List.mem_singleton] at hi
    subst hi
    have hm := last_mem (a := a) (r := b :: c :: l)
    exact ⟨h a (by simp), h _ hm, ((chn_mem (b :: c :: l) a hc h _ (h _ hm)).mp hm).1⟩
/-- the runs make up the mark -/
theorem runs_all : ∀ (m : List Nat), (runs m).flatten = m ∧ (∀ r ∈ runs m, Chn r ∧ r ≠ [])
  | [] => ⟨rfl, fun r h => by cases h⟩
  | x :: xs => by
    obtain ⟨e, h⟩ := runs_all xs
    rw [runs_cons]
    split
    · rename_i e2
      rw [e2] at e
      have : xs = [] := e.symm
      subst this
      exact ⟨rfl, fun r hr => by
        rw [List.mem_singleton.mp hr]
        exact ⟨trivial, by simp⟩⟩
    · rename_i r rs e2
      rw [e2] at e h
      have hr := h r (by simp)
      split
      · rename_i hh
        refine ⟨by rw [← e]; rfl, fun q hq => ?_⟩
        rcases List.mem_cons.mp hq with rfl | hq
        · refine ⟨?_, by simp⟩
          cases r with
          | nil => exact absurd rfl hr.2
          | cons y r =>
            simp only [List.head?_cons, Option.some.injEq] at hh
            exact ⟨hh, hr.1⟩
        · exact h q (List.mem_cons_of_mem _ hq)
      · refine ⟨by rw [← e]; rfl, fun q hq => ?_⟩
        rcases List.mem_cons.mp hq with rfl | hq
        · exact ⟨trivial, by simp⟩
        · exact h q hq
theorem runs_in {m : List Nat} (h : ∀ c ∈ m, c ∈ sg) {s : Nat} (hs : s ∈ sg) : ((runs m).flatMap rendI).any (itmIn · s) = decide (s ∈ m) := by
  obtain ⟨e, hr⟩ := runs_all m
  have hsub : ∀ r ∈ runs m, ∀ c ∈ r, c ∈ sg := fun r h1 c h2 => h c (by rw [← e]; exact List.mem_flatten.mpr ⟨r, h1, h2⟩)
  rw [Bool.eq_iff_iff, decide_eq_true_eq]
  constructor
  · intro hh
    obtain ⟨i, hi, h2⟩ := List.any_eq_true.mp hh
    obtain ⟨r, h3, h4⟩ := List.mem_flatMap.mp hi
    have := rendI_in (hr r h3).1 (hsub r h3) hs
    have h5 : (rendI r).any (itmIn · s) = true := List.any_eq_true.mpr ⟨i, h4, h2⟩
    rw [this, decide_eq_true_eq] at h5
    rw [← e]
    exact List.mem_flatten.mpr ⟨r, h3, h5⟩
  · intro hm
    rw [← e] at hm
    obtain ⟨r, h3, h5⟩ := List.mem_flatten.mp hm
    have := rendI_in (hr r h3).1 (hsub r h3) hs
    rw [decide_eq_true h5] at this
    obtain ⟨i, h4, h2⟩ := List.any_eq_true.mp this
    exact List.any_eq_true.mpr ⟨i, List.mem_flatMap.mpr ⟨r, h3, h4⟩, h2⟩
theorem runs_T (m : List Nat) : ((runs m).flatMap rendI).flatMap itmT = (runs m).flatMap rend := by
  rw [List.flatMap_assoc]
  congr 1
  funext r
  exact rendI_T r
/-- what brackets of signs as they stand mean -/
theorem br_mem {its : List Itm} {m : List Nat} {less : Bool} (h : ∀ s ∈ sg, its.any (itmIn · s) = (decide (s ∈ m) != less)) (hf : sg.filter (· ∈ m) = m) : formD (.br less its) = m := by
  simp only [formD]
  conv => rhs; rw [← hf]
  apply List.filter_congr
  intro s hs
  rw [h s hs]
  cases decide (s ∈ m) <;> cases less <;> rfl
theorem ones_in (l : List Nat) (s : Nat) : (l.map Itm.one).any (itmIn · s) = decide (s ∈ l) := by
  rw [Bool.eq_iff_iff, decide_eq_true_eq, List.any_eq_true]
  constructor
  · rintro ⟨i, hi, h⟩
    obtain ⟨c, hc, rfl⟩ := List.mem_map.mp hi
    simp only [itmIn, decide_eq_true_eq] at h
    rw [h]
    exact hc
  · intro h
    exact ⟨.one s, List.mem_map.mpr ⟨s, h, rfl⟩, by simp [itmIn]⟩
theorem ones_T (l : List Nat) : (l.map Itm.one).flatMap itmT = l := by
  induction l with
  | nil => rfl
  | cons c l ih => rw [List.map_cons, List.flatMap_cons, ih]; rfl
theorem twos_in {l : List Nat} (hl : ∀ c ∈ l, c ∈ sg) {s : Nat} (hs : s ∈ sg) : (l.map fun c => Itm.two c c).any (itmIn · s) = decide (s ∈ l) := by
  rw [Bool.eq_iff_iff, decide_eq_true_eq, List.any_eq_true]
  constructor
  · rintro ⟨i, hi, h⟩
    obtain ⟨c, hc, rfl⟩ := List.mem_map.mp hi
    simp only [itmIn, decide_eq_true_eq] at h
    rw [idx_inj hs (hl c hc) (Nat.le_antisymm h.2 h.1)]
    exact hc
  · intro h
    exact ⟨.two s s, List.mem_map.mpr ⟨s, h, rfl⟩, by simp [itmIn]⟩
theorem twos_T (l : List Nat) : (l.map fun c => Itm.two c c).flatMap itmT = (l.map fun c => [c, 45, c]).flatten := by
  induction l with
  | nil => rfl
  | cons c l ih => rw [List.map_cons, List.flatMap_cons, ih]; rfl
end Kb
namespace Kb
open Vl
open L2 (ixN atI)
theorem MF_plain {m : List Nat} (h : IsM m) : MF m (plainM m) := by
  by_cases h1 : m = [42]
  · subst h1
    exact ⟨.star, trivial, rfl, rfl, by decide⟩
  · obtain ⟨hc, hs, hf, hl⟩ := h.sub h1
    have hpl := plainM_len m
    unfold plainM at hpl ⊢
    by_cases h2 : m.length = 1
    · rw [if_pos (.inr h2)] at hpl ⊢
      obtain ⟨c, rfl⟩ := List.length_eq_one_iff.mp h2
      exact ⟨.sgn c, hs c (by simp), rfl, rfl, by simp⟩
    · rw [if_neg (by simp [h1, h2])] at hpl ⊢
      by_cases h3 : m = sg
      · rw [if_pos h3]
        exact ⟨.any, trivial, rfl, h3.symm, by decide⟩
      · rw [if_neg h3] at hpl ⊢
        by_cases h4 : m = []
        · rw [if_pos h4]
          subst h4
          exact ⟨.br true [.two 46 122], ⟨by simp, fun i hi => by rw [List.mem_singleton.mp hi]; exact ⟨by decide, by decide, by decide⟩⟩, rfl, by decide, by decide⟩
        · rw [if_neg h4] at hpl ⊢
          obtain ⟨e, hr⟩ := runs_all m
          refine ⟨.br false ((runs m).flatMap rendI), ⟨?_, ?_⟩, ?_, br_mem (fun s hs' => by rw [runs_in hs hs', Bool.bne_false]) hf, by omega⟩
          · intro e2
            obtain ⟨a, m', rfl⟩ := List.exists_cons_of_ne_nil h4
            have := runs_in hs (hs a (by simp))
            rw [e2] at this
            simp at this
          · intro i hi
            obtain ⟨r, h5, h6⟩ := List.mem_flatMap.mp hi
            exact rendI_ok (hr r h5).1 (fun c hc => hs c (by rw [← e]; exact List.mem_flatten.mpr ⟨r, h5, hc⟩)) i h6
          · simp only [formT, runs_T, Bool.false_eq_true, if_false, List.nil_append, List.append_assoc]
theorem flat3_len (l : List Nat) : (l.map fun c => [c, 45, c]).flatten.length = 3 * l.length := by
  induction l with
  | nil => rfl
  | cons c l ih =>
    rw [List.map_cons, List.flatten_cons, List.length_append, ih]
    simp only [List.length_cons, List.length_nil]
    omega
theorem sum3_len (l : List Nat) : ((l.map fun c => [c, 45, c]).map (·.length)).sum = 3 * l.length := by
  induction l with
  | nil => rfl
  | cons c l ih =>
    simp only [List.map_cons, List.sum_cons, ih, List.length_cons, List.length_nil]
    omega
theorem cutD_first (m : List Nat) : cutD m none (some 1) = m.take 1 := by
  unfold cutD
  rw [HT.sIx_none]
  have : HT.sIx m.length m.length (some 1) = min 1 m.length := HT.sIx_nat m.length m.length 1
  rw [this, List.drop_zero, Nat.sub_zero]
  cases m with
  | nil => rfl
  | cons a m => rw [Nat.min_eq_left (by simp)]
theorem other_ok {m : List Nat} (h : IsM m) (n : Int) : ∃ t, f__law_mark_other [.str m, .int n] = .ok (.str t) ∧ MF m t := by
  have e0 : f__law_mark_other [.str m, .int n] = resOf (b__law_mark_other [some (.imm (.str m)), some (.imm (.int n)), none, none]) := rfl
  rw [e0]
  unfold b__law_mark_other
  have hlen : (sg.filter (fun c => !decide (c ∈ m))).length ≤ 27 := List.length_filter_le _ _
  have hless : ∀ c ∈ sg.filter (fun c => !decide (c ∈ m)), c ∈ sg := fun c hc => (List.mem_filter.mp hc).1
  have hlm : ∀ s ∈ sg, decide (s ∈ sg.filter (fun c => !decide (c ∈ m))) = !decide (s ∈ m) := fun s hs => by
    rw [Bool.eq_iff_iff, decide_eq_true_eq, List.mem_filter]
    exact ⟨fun h => h.2, fun h => ⟨hs, h⟩⟩
  have hle : sg.filter (fun c => !decide (c ∈ m)) = [] → ∀ s ∈ sg, s ∈ m := fun e s hs => by
    have := hlm s hs
    rw [e] at this
    simpa using this
  have ec := compL_pure (vs := [3]) (st := stN 3) (t := p1__law_mark_other) (e := p2__law_mark_other) (g := fun c : Nat => Da.str [c]) (b := fun c => !decide (c ∈ m)) (y := fun c => Da.str [c]) sg []
    [some (.imm (.str m)), some (.imm (.int n)), none, none] (ρw := [some (.imm (.str m)), some (.imm (.int n)), none, none]) rfl (fun c _ => by
      refine ⟨_, rfl, ?_, fun _ => ?_, rfl⟩
      · simp only [p1__law_mark_other, fSeq, fAsg, fAsgN, fRet, fRetO, fExpr, fTo, fPar2, fPar3, fAug, fIf, fBin, fBinT, fTru, fAnd, fOr, fNot, fAndV, fOrV, fNotV, fNeg, fName, fPeek, fD, fN, fLst, fTup, fCons, fCall, fCallN, fDef, fFld, fInt, fSl, fIt, fItA, fStuck, fCv, fCn, fCd, stN, stCons, stNil, stTup, mB, mP, mO, look, lookA, asBl, asInt, vAdd, vSub, vMul, vFdiv, vMod, vCmp, vIs, isNon, vAugAdd, fApp, fExt, fMs, fMn, List.getElem?_cons_zero, List.getElem?_cons_succ, List.getElem?_nil, List.set_cons_zero, List.set_cons_succ, List.length_cons, List.length_nil, Option.bind_some, Option.map_some, if_true, if_false, reduceIte, List.nil_append, List.cons_append, List.append_nil, resOf, Nat.reduceAdd, Nat.reduceEqDiff, Nat.reduceLT, Nat.reduceLeDiff, Int.reduceLT, Int.reduceLE, Int.reduceNeg, and_self, true_and, and_true, decide_true, decide_false, Bool.false_eq_true, Bool.not_true, Bool.not_false, Int.reduceAbs, Int.natAbs_neg, or_true, true_or, vIx, vLen, vAbs, vSum, vMax, vMin, decide_eq_true_eq, Bool.not_eq_true, vNotin_one]
      · simp only [p2__law_mark_other, fSeq, fAsg, fAsgN, fRet, fRetO, fExpr, fTo, fPar2, fPar3, fAug, fIf, fBin, fBinT, fTru, fAnd, fOr, fNot, fAndV, fOrV, fNotV, fNeg, fName, fPeek, fD, fN, fLst, fTup, fCons, fCall, fCallN, fDef, fFld, fInt, fSl, fIt, fItA, fStuck, fCv, fCn, fCd, stN, stCons, stNil, stTup, mB, mP, mO, look, lookA, asBl, asInt, vAdd, vSub, vMul, vFdiv, vMod, vCmp, vIs, isNon, vAugAdd, fApp, fExt, fMs, fMn, List.getElem?_cons_zero, List.getElem?_cons_succ, List.getElem?_nil, List.set_cons_zero, List.set_cons_succ, List.length_cons, List.length_nil, Option.bind_some, Option.map_some, if_true, if_false, reduceIte, List.nil_append, List.cons_append, List.append_nil, resOf, Nat.reduceAdd, Nat.reduceEqDiff, Nat.reduceLT, Nat.reduceLeDiff, Int.reduceLT, Int.reduceLE, Int.reduceNeg, and_self, true_and, and_true, decide_true, decide_false, Bool.false_eq_true, Bool.not_true, Bool.not_false, Int.reduceAbs, Int.natAbs_neg, or_true, true_or, vIx, vLen, vAbs, vSum, vMax, vMin, decide_eq_true_eq, Bool.not_eq_true]) (by decide)
  rw [List.nil_append] at ec
  generalize sg.filter (fun c => !decide (c ∈ m)) = ls at ec hlen hless hlm hle
  have ej := sJoin_one ls (by omega)
  rw [fSeq_nx (ρ' := [some (.imm (.str m)), some (.imm (.int n)), some (.imm (.str ls)), none]) (by simp only [fSeq, fAsg, fAsgN, fRet, fRetO, fExpr, fTo, fPar2, fPar3, fAug, fIf, fBin, fBinT, fTru, fAnd, fOr, fNot, fAndV, fOrV, fNotV, fNeg, fName, fPeek, fD, fN, fLst, fTup, fCons, fCall, fCallN, fDef, fFld, fInt, fSl, fIt, fItA, fStuck, fCv, fCn, fCd, stN, stCons, stNil, stTup, mB, mP, mO, look, lookA, asBl, asInt, vAdd, vSub, vMul, vFdiv, vMod, vCmp, vIs, isNon, vAugAdd, fApp, fExt, fMs, fMn, List.getElem?_cons_zero, List.getElem?_cons_succ, List.getElem?_nil, List.set_cons_zero, List.set_cons_succ, List.length_cons, List.length_nil, Option.bind_some, Option.map_some, if_true, if_false, reduceIte, List.nil_append, List.cons_append, List.append_nil, resOf, Nat.reduceAdd, Nat.reduceEqDiff, Nat.reduceLT, Nat.reduceLeDiff, Int.reduceLT, Int.reduceLE, Int.reduceNeg, and_self, true_and, and_true, decide_true, decide_false, Bool.false_eq_true, Bool.not_true, Bool.not_false, Int.reduceAbs, Int.natAbs_neg, or_true, true_or, vIx, vLen, vAbs, vSum, vMax, vMin, decide_eq_true_eq, Bool.not_eq_true, signs_eq, fComp, itemsS, ec, ej])]
  by_cases h1 : m = [42]
  · refine ⟨[42], ?_, ?_⟩
    · rw [fSeq_rt (d := .str [42]) (ρ' := [some (.imm (.str m)), some (.imm (.int n)), some (.imm (.str ls)), none]) (by simp only [fSeq, fAsg, fAsgN, fRet, fRetO, fExpr, fTo, fPar2, fPar3, fAug, fIf, fBin, fBinT, fTru, fAnd, fOr, fNot, fAndV, fOrV, fNotV, fNeg, fName, fPeek, fD, fN, fLst, fTup, fCons, fCall, fCallN, fDef, fFld, fInt, fSl, fIt, fItA, fStuck, fCv, fCn, fCd, stN, stCons, stNil, stTup, mB, mP, mO, look, lookA, asBl, asInt, vAdd, vSub, vMul, vFdiv, vMod, vCmp, vIs, isNon, vAugAdd, fApp, fExt, fMs, fMn, List.getElem?_cons_zero, List.getElem?_cons_succ, List.getElem?_nil, List.set_cons_zero, List.set_cons_succ, List.length_cons, List.length_nil, Option.bind_some, Option.map_some, if_true, if_false, reduceIte, List.nil_append, List.cons_append, List.append_nil, resOf, Nat.reduceAdd, Nat.reduceEqDiff, Nat.reduceLT, Nat.reduceLeDiff, Int.reduceLT, Int.reduceLE, Int.reduceNeg, and_self, true_and, and_true, decide_true, decide_false, Bool.false_eq_true, Bool.not_true, Bool.not_false, Int.reduceAbs, Int.natAbs_neg, or_true, true_or, vIx, vLen, vAbs, vSum, vMax, vMin, decide_eq_true_eq, Bool.not_eq_true, vEq_str, h1])]
      rfl
    · subst h1
      exact ⟨.star, trivial, rfl, rfl, by decide⟩
  obtain ⟨hc, hs, hf, hl⟩ := h.sub h1
  by_cases h2 : m = []
  · have k0 : 0 ≤ n % 3 := Int.emod_nonneg _ (by decide)
    have k1 : n % 3 < 3 := Int.emod_lt_of_pos _ (by decide)
    have k : n % 3 = 0 ∨ n % 3 = 1 ∨ n % 3 = 2 := by omega
    have key : ∀ (g : EM Fl) t, atI [Da.str [91, 33, 46, 45, 122, 93], .str [91, 33, 122, 45, 122, 97, 45, 121, 46, 93], .str [91, 33, 46, 97, 45, 122, 93]] (n % 3) = some (.str t) → MF [] t → ∃ t, resOf (fSeq (fIf (fOr (fBinT (vEq false) (fPeek 0) (fD (mP (.str [42])))) (fBinT (vEq false) (fPeek 0) (fD (mP (.str [])))))
        (fRet (fIf (fBinT (vEq false) (fPeek 0) (fD (mP (.str [42])))) (mP (.str [42])) (fBin vIx (fD (fTup (fCons (mP (.str [91, 33, 46, 45, 122, 93])) (fCons (mP (.str [91, 33, 122, 45, 122, 97, 45, 121, 46, 93])) (fCons (mP (.str [91, 33, 46, 97, 45, 122, 93])) (mP [])))))) (fD (fBin vMod (fPeek 1) (fD (mP (.int 3))))))))
        (mP .nx)) g [some (.imm (.str m)), some (.imm (.int n)), some (.imm (.str ls)), none]) = .ok (.str t) ∧ MF m t := fun g t e hm => by
      refine ⟨t, ?_, by rw [h2]; exact hm⟩
      rw [fSeq_rt (d := .str t) (ρ' := [some (.imm (.str m)), some (.imm (.int n)), some (.imm (.str ls)), none]) (by
        have n42 : ¬ ([] : List Nat) = [42] := by decide
        simp only [fSeq, fAsg, fAsgN, fRet, fRetO, fExpr, fTo, fPar2, fPar3, fAug, fIf, fBin, fBinT, fTru, fAnd, fOr, fNot, fAndV, fOrV, fNotV, fNeg, fName, fPeek, fD, fN, fLst, fTup, fCons, fCall, fCallN, fDef, fFld, fInt, fSl, fIt, fItA, fStuck, fCv, fCn, fCd, stN, stCons, stNil, stTup, mB, mP, mO, look, lookA, asBl, asInt, vAdd, vSub, vMul, vFdiv, vMod, vCmp, vIs, isNon, vAugAdd, fApp, fExt, fMs, fMn, List.getElem?_cons_zero, List.getElem?_cons_succ, List.getElem?_nil, List.set_cons_zero, List.set_cons_succ, List.length_cons, List.length_nil, Option.bind_some, Option.map_some, if_true, if_false, reduceIte, List.nil_append, List.cons_append, List.append_nil, resOf, Nat.reduceAdd, Nat.reduceEqDiff, Nat.reduceLT, Nat.reduceLeDiff, Int.reduceLT, Int.reduceLE, Int.reduceNeg, and_self, true_and, and_true, decide_true, decide_false, Bool.false_eq_true, Bool.not_true, Bool.not_false, Int.reduceAbs, Int.natAbs_neg, or_true, true_or, vIx, vLen, vAbs, vSum, vMax, vMin, decide_eq_true_eq, Bool.not_eq_true, vEq_str, h2, n42, e, Nat.reduceLeDiff])]
      rfl
    rcases k with k | k | k
    · exact key _ _ (by rw [k]; rfl) ⟨.br true [.two 46 122], ⟨by simp, fun i hi => by rw [List.mem_singleton.mp hi]; exact ⟨by decide, by decide, by decide⟩⟩, rfl, by decide, by decide⟩
    · exact key _ _ (by rw [k]; rfl) ⟨.br true [.two 122 122, .two 97 121, .one 46], ⟨by simp, fun i hi => by
        simp only [List.mem_cons, List.mem_nil_iff, or_false] at hi
        rcases hi with rfl | rfl | rfl
        · exact ⟨by decide, by decide, by decide⟩
        · exact ⟨by decide, by decide, by decide⟩
        · show (46 : Nat) ∈ sg
          decide⟩, rfl, by decide, by decide⟩
    · exact key _ _ (by rw [k]; rfl) ⟨.br true [.one 46, .two 97 122], ⟨by simp, fun i hi => by
        simp only [List.mem_cons, List.mem_nil_iff, or_false] at hi
        rcases hi with rfl | rfl
        · show (46 : Nat) ∈ sg
          decide
        · exact ⟨by decide, by decide, by decide⟩⟩, rfl, by decide, by decide⟩
  rw [fSeq_nx (ρ' := [some (.imm (.str m)), some (.imm (.int n)), some (.imm (.str ls)), none]) (by simp only [fSeq, fAsg, fAsgN, fRet, fRetO, fExpr, fTo, fPar2, fPar3, fAug, fIf, fBin, fBinT, fTru, fAnd, fOr, fNot, fAndV, fOrV, fNotV, fNeg, fName, fPeek, fD, fN, fLst, fTup, fCons, fCall, fCallN, fDef, fFld, fInt, fSl, fIt, fItA, fStuck, fCv, fCn, fCd, stN, stCons, stNil, stTup, mB, mP, mO, look, lookA, asBl, asInt, vAdd, vSub, vMul, vFdiv, vMod, vCmp, vIs, isNon, vAugAdd, fApp, fExt, fMs, fMn, List.getElem?_cons_zero, List.getElem?_cons_succ, List.getElem?_nil, List.set_cons_zero, List.set_cons_succ, List.length_cons, List.length_nil, Option.bind_some, Option.map_some, if_true, if_false, reduceIte, List.nil_append, List.cons_append, List.append_nil, resOf, Nat.reduceAdd, Nat.reduceEqDiff, Nat.reduceLT, Nat.reduceLeDiff, Int.reduceLT, Int.reduceLE, Int.reduceNeg, and_self, true_and, and_true, decide_true, decide_false, Bool.false_eq_true, Bool.not_true, Bool.not_false, Int.reduceAbs, Int.natAbs_neg, or_true, true_or, vIx, vLen, vAbs, vSum, vMax, vMin, decide_eq_true_eq, Bool.not_eq_true, vEq_str, h1, h2])]
  have hl' : m.length ≤ 16777216 := by omega
  have hrl : m.reverse.length = m.length := List.length_reverse
  have ht1 : (m.take 1).length ≤ 1 := by rw [List.length_take]; omega
  by_cases a0 : n % 4 = 0
  · have z1 : 0 + 1 + m.reverse.length ≤ 16777216 := by omega
    have z2 : ([91] ++ m.reverse).length + (m.take 1).length ≤ 16777216 := by simp only [List.length_append, List.length_cons, List.length_nil]; omega
    have z3 : ([91] ++ m.reverse ++ m.take 1).length + (0 + 1) ≤ 16777216 := by simp only [List.length_append, List.length_cons, List.length_nil]; omega
    refine ⟨[91] ++ m.reverse ++ m.take 1 ++ [93], ?_, ?_⟩
    · rw [fSeq_rt (d := .str ([91] ++ m.reverse ++ m.take 1 ++ [93])) (ρ' := [some (.imm (.str m)), some (.imm (.int n)), some (.imm (.str ls)), none]) (by
        have y1 : vAdd (.str [91]) (.str m.reverse) = some (.str ([91] ++ m.reverse)) := if_pos z1
        have y2 : vAdd (.str ([91] ++ m.reverse)) (.str (m.take 1)) = some (.str ([91] ++ m.reverse ++ m.take 1)) := if_pos z2
        have y3 : vAdd (.str ([91] ++ m.reverse ++ m.take 1)) (.str [93]) = some (.str ([91] ++ m.reverse ++ m.take 1 ++ [93])) := if_pos z3
        simp only [fIf, fBinT, fBin, fD, fRet, fPeek, fSl, fRev, fInt, mB, mP, mO, look, asBl, asInt, vMod, Int.reduceLT, if_true, List.getElem?_cons_zero, List.getElem?_cons_succ, vEq_int, a0, decide_true, vSlS, hl', cutD_first, y1, y2, y3, Option.map_some])]
      rfl
    · refine ⟨.br false ((m.reverse ++ m.take 1).map .one), ⟨?_, ?_⟩, ?_, br_mem (fun s hs' => ?_) hf, ?_⟩
      · intro e
        have := List.map_eq_nil_iff.mp e
        rw [List.append_eq_nil_iff, List.reverse_eq_nil_iff] at this
        exact h2 this.1
      · intro i hi
        obtain ⟨c, hc', rfl⟩ := List.mem_map.mp hi
        rcases List.mem_append.mp hc' with h | h
        · exact hs c (List.mem_reverse.mp h)
        · exact hs c (List.mem_of_mem_take h)
      · simp only [formT, ones_T, Bool.false_eq_true, if_false, List.nil_append, List.append_assoc]
      · rw [ones_in, Bool.bne_false, Bool.eq_iff_iff, decide_eq_true_eq, decide_eq_true_eq, List.mem_append, List.mem_reverse]
        exact ⟨fun h => h.elim id List.mem_of_mem_take, .inl⟩
      · simp only [List.length_append, List.length_cons, List.length_nil]; omega
  rw [fSeq_nx (ρ' := [some (.imm (.str m)), some (.imm (.int n)), some (.imm (.str ls)), none]) (by simp only [fSeq, fAsg, fAsgN, fRet, fRetO, fExpr, fTo, fPar2, fPar3, fAug, fIf, fBin, fBinT, fTru, fAnd, fOr, fNot, fAndV, fOrV, fNotV, fNeg, fName, fPeek, fD, fN, fLst, fTup, fCons, fCall, fCallN, fDef, fFld, fInt, fSl, fIt, fItA, fStuck, fCv, fCn, fCd, stN, stCons, stNil, stTup, mB, mP, mO, look, lookA, asBl, asInt, vAdd, vSub, vMul, vFdiv, vMod, vCmp, vIs, isNon, vAugAdd, fApp, fExt, fMs, fMn, List.getElem?_cons_zero, List.getElem?_cons_succ, List.getElem?_nil, List.set_cons_zero, List.set_cons_succ, List.length_cons, List.length_nil, Option.bind_some, Option.map_some, if_true, if_false, reduceIte, List.nil_append, List.cons_append, List.append_nil, resOf, Nat.reduceAdd, Nat.reduceEqDiff, Nat.reduceLT, Nat.reduceLeDiff, Int.reduceLT, Int.reduceLE, Int.reduceNeg, and_self, true_and, and_true, decide_true, decide_false, Bool.false_eq_true, Bool.not_true, Bool.not_false, Int.reduceAbs, Int.natAbs_neg, or_true, true_or, vIx, vLen, vAbs, vSum, vMax, vMin, decide_eq_true_eq, Bool.not_eq_true, vEq_int, a0])]
  by_cases a1 : n % 4 = 1
  · by_cases hl0 : ls = []
    · refine ⟨[91, 46, 45, 122, 93], ?_, ?_⟩
      · rw [fSeq_rt (d := .str [91, 46, 45, 122, 93]) (ρ' := [some (.imm (.str m)), some (.imm (.int n)), some (.imm (.str ls)), none]) (by simp only [fSeq, fAsg, fAsgN, fRet, fRetO, fExpr, fTo, fPar2, fPar3, fAug, fIf, fBin, fBinT, fTru, fAnd, fOr, fNot, fAndV, fOrV, fNotV, fNeg, fName, fPeek, fD, fN, fLst, fTup, fCons, fCall, fCallN, fDef, fFld, fInt, fSl, fIt, fItA, fStuck, fCv, fCn, fCd, stN, stCons, stNil, stTup, mB, mP, mO, look, lookA, asBl, asInt, vAdd, vSub, vMul, vFdiv, vMod, vCmp, vIs, isNon, vAugAdd, fApp, fExt, fMs, fMn, List.getElem?_cons_zero, List.getElem?_cons_succ, List.getElem?_nil, List.set_cons_zero, List.set_cons_succ, List.length_cons, List.length_nil, Option.bind_some, Option.map_some, if_true, if_false, reduceIte, List.nil_append, List.cons_append, List.append_nil, resOf, Nat.reduceAdd, Nat.reduceEqDiff, Nat.reduceLT, Nat.reduceLeDiff, Int.reduceLT, Int.reduceLE, Int.reduceNeg, and_self, true_and, and_true, decide_true, decide_false, Bool.false_eq_true, Bool.not_true, Bool.not_false, Int.reduceAbs, Int.natAbs_neg, or_true, true_or, vIx, vLen, vAbs, vSum, vMax, vMin, decide_eq_true_eq, Bool.not_eq_true, vEq_int, vNe_str, a1, hl0])]
        rfl
      · refine ⟨.br false [.two 46 122], ⟨by simp, fun i hi => by rw [List.mem_singleton.mp hi]; exact ⟨by decide, by decide, by decide⟩⟩, rfl, ?_, by decide⟩
        have hm : m = sg := by rw [← hf]; exact List.filter_eq_self.mpr fun s hs' => by simpa using hle hl0 s hs'
        rw [hm]
        decide
    · have z1 : 0 + 1 + 1 + ls.length ≤ 16777216 := by omega
      have z3 : ([91, 33] ++ ls).length + (0 + 1) ≤ 16777216 := by simp only [List.length_append, List.length_cons, List.length_nil]; omega
      have y1 : vAdd (.str [91, 33]) (.str ls) = some (.str ([91, 33] ++ ls)) := if_pos z1
      have y3 : vAdd (.str ([91, 33] ++ ls)) (.str [93]) = some (.str ([91, 33] ++ ls ++ [93])) := if_pos z3
      refine ⟨[91, 33] ++ ls ++ [93], ?_, ?_⟩
      · rw [fSeq_rt (d := .str ([91, 33] ++ ls ++ [93])) (ρ' := [some (.imm (.str m)), some (.imm (.int n)), some (.imm (.str ls)), none]) (by
          simp only [fIf, fBinT, fBin, fD, fRet, fPeek, mB, mP, mO, look, asBl, asInt, vMod, Int.reduceLT, if_true, List.getElem?_cons_zero, List.getElem?_cons_succ, vEq_int, vNe_str, a1, hl0, decide_true, decide_false, Bool.not_false, hl', y1, y3])]
        rfl
      · refine ⟨.br true (ls.map .one), ⟨by simpa using hl0, fun i hi => ?_⟩, ?_, br_mem (fun s hs' => ?_) hf, ?_⟩
        · obtain ⟨c, hc', rfl⟩ := List.mem_map.mp hi
          exact hless c hc'
        · simp only [formT, ones_T, if_true, List.append_assoc, List.cons_append, List.nil_append]
        · rw [ones_in, hlm s hs', Bool.bne_true]
        · simp only [List.length_append, List.length_cons, List.length_nil]; omega
  rw [fSeq_nx (ρ' := [some (.imm (.str m)), some (.imm (.int n)), some (.imm (.str ls)), none]) (by simp only [fSeq, fAsg, fAsgN, fRet, fRetO, fExpr, fTo, fPar2, fPar3, fAug, fIf, fBin, fBinT, fTru, fAnd, fOr, fNot, fAndV, fOrV, fNotV, fNeg, fName, fPeek, fD, fN, fLst, fTup, fCons, fCall, fCallN, fDef, fFld, fInt, fSl, fIt, fItA, fStuck, fCv, fCn, fCd, stN, stCons, stNil, stTup, mB, mP, mO, look, lookA, asBl, asInt, vAdd, vSub, vMul, vFdiv, vMod, vCmp, vIs, isNon, vAugAdd, fApp, fExt, fMs, fMn, List.getElem?_cons_zero, List.getElem?_cons_succ, List.getElem?_nil, List.set_cons_zero, List.set_cons_succ, List.length_cons, List.length_nil, Option.bind_some, Option.map_some, if_true, if_false, reduceIte, List.nil_append, List.cons_append, List.append_nil, resOf, Nat.reduceAdd, Nat.reduceEqDiff, Nat.reduceLT, Nat.reduceLeDiff, Int.reduceLT, Int.reduceLE, Int.reduceNeg, and_self, true_and, and_true, decide_true, decide_false, Bool.false_eq_true, Bool.not_true, Bool.not_false, Int.reduceAbs, Int.natAbs_neg, or_true, true_or, vIx, vLen, vAbs, vSum, vMax, vMin, decide_eq_true_eq, Bool.not_eq_true, vEq_int, a1])]
  by_cases a2 : n % 4 = 2
  · have hmm : ∀ c : Nat, ([c] ++ [45] ++ [c]) = [c, 45, c] := fun c => rfl
    have ec2 := compL_all (vs := [3]) (st := stN 3) (e := p3__law_mark_other) (g := fun c : Nat => Da.str [c]) (y := fun c => Da.str [c, 45, c]) m
      [some (.imm (.str m)), some (.imm (.int n)), some (.imm (.str ls)), none] (ρw := [some (.imm (.str m)), some (.imm (.int n)), some (.imm (.str ls)), none]) rfl (fun c _ => by
        refine ⟨_, rfl, ?_, rfl⟩
        simp only [p3__law_mark_other, fSeq, fAsg, fAsgN, fRet, fRetO, fExpr, fTo, fPar2, fPar3, fAug, fIf, fBin, fBinT, fTru, fAnd, fOr, fNot, fAndV, fOrV, fNotV, fNeg, fName, fPeek, fD, fN, fLst, fTup, fCons, fCall, fCallN, fDef, fFld, fInt, fSl, fIt, fItA, fStuck, fCv, fCn, fCd, stN, stCons, stNil, stTup, mB, mP, mO, look, lookA, asBl, asInt, vAdd, vSub, vMul, vFdiv, vMod, vCmp, vIs, isNon, vAugAdd, fApp, fExt, fMs, fMn, List.getElem?_cons_zero, List.getElem?_cons_succ, List.getElem?_nil, List.set_cons_zero, List.set_cons_succ, List.length_cons, List.length_nil, Option.bind_some, Option.map_some, if_true, if_false, reduceIte, List.nil_append, List.cons_append, List.append_nil, resOf, Nat.reduceAdd, Nat.reduceEqDiff, Nat.reduceLT, Nat.reduceLeDiff, Int.reduceLT, Int.reduceLE, Int.reduceNeg, and_self, true_and, and_true, decide_true, decide_false, Bool.false_eq_true, Bool.not_true, Bool.not_false, Int.reduceAbs, Int.natAbs_neg, or_true, true_or, vIx, vLen, vAbs, vSum, vMax, vMin, decide_eq_true_eq, Bool.not_eq_true, Nat.reduceLeDiff]) hl'
    have ej2 := sJoin_map [] (m.map fun c => [c, 45, c]) (by rw [sum3_len, List.length_map]; simp; omega)
    rw [joinN_nil, List.map_map] at ej2
    have eq3 : (m.map (Da.str ∘ fun c => [c, 45, c])) = m.map fun c => Da.str [c, 45, c] := rfl
    rw [eq3] at ej2
    have hl3 := flat3_len m
    have z1 : 0 + 1 + (m.map fun c => [c, 45, c]).flatten.length ≤ 16777216 := by omega
    have z3 : ([91] ++ (m.map fun c => [c, 45, c]).flatten).length + (0 + 1) ≤ 16777216 := by simp only [List.length_append, List.length_cons, List.length_nil]; omega
    have y1 : vAdd (.str [91]) (.str (m.map fun c => [c, 45, c]).flatten) = some (.str ([91] ++ (m.map fun c => [c, 45, c]).flatten)) := if_pos z1
    have y3 : vAdd (.str ([91] ++ (m.map fun c => [c, 45, c]).flatten)) (.str [93]) = some (.str ([91] ++ (m.map fun c => [c, 45, c]).flatten ++ [93])) := if_pos z3
    refine ⟨[91] ++ (m.map fun c => [c, 45, c]).flatten ++ [93], ?_, ?_⟩
    · rw [fSeq_rt (d := .str ([91] ++ (m.map fun c => [c, 45, c]).flatten ++ [93])) (ρ' := [some (.imm (.str m)), some (.imm (.int n)), some (.imm (.str ls)), none]) (by
        simp only [fIf, fBinT, fBin, fD, fN, fRet, fPeek, fName, fMs, fCons, fComp, fIt, itemsS, lookA, mB, mO, look, asBl, asInt, vMod, Int.reduceLT, if_true, List.getElem?_cons_zero, List.getElem?_cons_succ, vEq_int, a2, decide_true, hl', mP, ec2, ej2, y1, y3])]
      rfl
    · refine ⟨.br false (m.map fun c => .two c c), ⟨by simpa using h2, fun i hi => ?_⟩, ?_, br_mem (fun s hs' => ?_) hf, ?_⟩
      · obtain ⟨c, hc', rfl⟩ := List.mem_map.mp hi
        exact ⟨hs c hc', hs c hc', Nat.le_refl _⟩
      · simp only [formT, twos_T, Bool.false_eq_true, if_false, List.nil_append, List.append_assoc]
      · rw [twos_in hs hs', Bool.bne_false]
      · simp only [List.length_append, List.length_cons, List.length_nil]; omega
  rw [fSeq_nx (ρ' := [some (.imm (.str m)), some (.imm (.int n)), some (.imm (.str ls)), none]) (by simp only [fSeq, fAsg, fAsgN, fRet, fRetO, fExpr, fTo, fPar2, fPar3, fAug, fIf, fBin, fBinT, fTru, fAnd, fOr, fNot, fAndV, fOrV, fNotV, fNeg, fName, fPeek, fD, fN, fLst, fTup, fCons, fCall, fCallN, fDef, fFld, fInt, fSl, fIt, fItA, fStuck, fCv, fCn, fCd, stN, stCons, stNil, stTup, mB, mP, mO, look, lookA, asBl, asInt, vAdd, vSub, vMul, vFdiv, vMod, vCmp, vIs, isNon, vAugAdd, fApp, fExt, fMs, fMn, List.getElem?_cons_zero, List.getElem?_cons_succ, List.getElem?_nil, List.set_cons_zero, List.set_cons_succ, List.length_cons, List.length_nil, Option.bind_some, Option.map_some, if_true, if_false, reduceIte, List.nil_append, List.cons_append, List.append_nil, resOf, Nat.reduceAdd, Nat.reduceEqDiff, Nat.reduceLT, Nat.reduceLeDiff, Int.reduceLT, Int.reduceLE, Int.reduceNeg, and_self, true_and, and_true, decide_true, decide_false, Bool.false_eq_true, Bool.not_true, Bool.not_false, Int.reduceAbs, Int.natAbs_neg, or_true, true_or, vIx, vLen, vAbs, vSum, vMax, vMin, decide_eq_true_eq, Bool.not_eq_true, vEq_int, a2])]
  refine ⟨plainM m, ?_, MF_plain h⟩
  have := mark_plain_eq h
  simp only [fSeq, fAsg, fAsgN, fRet, fRetO, fExpr, fTo, fPar2, fPar3, fAug, fIf, fBin, fBinT, fTru, fAnd, fOr, fNot, fAndV, fOrV, fNotV, fNeg, fName, fPeek, fD, fN, fLst, fTup, fCons, fCall, fCallN, fDef, fFld, fInt, fSl, fIt, fItA, fStuck, fCv, fCn, fCd, stN, stCons, stNil, stTup, mB, mP, mO, look, lookA, asBl, asInt, vAdd, vSub, vMul, vFdiv, vMod, vCmp, vIs, isNon, vAugAdd, fApp, fExt, fMs, fMn, List.getElem?_cons_zero, List.getElem?_cons_succ, List.getElem?_nil, List.set_cons_zero, List.set_cons_succ, List.length_cons, List.length_nil, Option.bind_some, Option.map_some, if_true, if_false, reduceIte, List.nil_append, List.cons_append, List.append_nil, resOf, Nat.reduceAdd, Nat.reduceEqDiff, Nat.reduceLT, Nat.reduceLeDiff, Int.reduceLT, Int.reduceLE, Int.reduceNeg, and_self, true_and, and_true, decide_true, decide_false, Bool.false_eq_true, Bool.not_true, Bool.not_false, Int.reduceAbs, Int.natAbs_neg, or_true, true_or, vIx, vLen, vAbs, vSum, vMax, vMin, decide_eq_true_eq, Bool.not_eq_true, this]
end Kb
namespace Kb
open Vl
open L2 (ixN atI)
def plainP : LP → List Nat
  | .many => [42, 42]
  | .marks ms => (ms.map plainM).flatten
theorem sumlen_le {α : Type} (f : α → List Nat) (b : Nat) : ∀ (l : List α), (∀ x ∈ l, (f x).length ≤ b) → ((l.map f).map (·.length)).sum ≤ l.length * b
  | [], _ => by simp
  | x :: l, h => by
    have := sumlen_le f b l fun y hy => h y (List.mem_cons_of_mem _ hy)
    have h0 := h x (List.mem_cons_self ..)
    simp only [List.map_cons, List.sum_cons, List.length_cons]
    rw [Nat.add_mul]
    omega
theorem flat_len (l : List (List Nat)) : l.flatten.length = (l.map (·.length)).sum := List.length_flatten
theorem IsM_len {m : List Nat} (h : IsM m) : m.length ≤ 27 := by
  by_cases h1 : m = [42]
  · subst h1
    decide
  · exact (h.sub h1).2.2.2
theorem plainP_len {p : LP} (h : OkLP p) : (plainP p).length ≤ 3300 := by
  cases p with
  | many => decide
  | marks ms =>
    have := sumlen_le plainM 33 ms fun m hm => by
      have := plainM_len m
      have := IsM_len (h.2.1 m hm)
      omega
    have h4 := h.2.2.2
    show (ms.map plainM).flatten.length ≤ _
    rw [flat_len]
    have : ms.length * 33 ≤ 100 * 33 := Nat.mul_le_mul_right 33 h4
    omega
theorem compL_strs {α : Type} {vs : List Nat} {st : Da → Env → Option Env} {e : EM Da} {ρw : Env} {g : α → Da} {y : α → List Nat} (xs : List α) (ρ : Env)
    (hw : wipeE ρ vs = ρw) (h : ∀ x ∈ xs, ∃ ρd, st (g x) ρw = some ρd ∧ e ρd = .ok (.str (y x)) ρd ∧ wipeE ρd vs = ρw) (hl : xs.length ≤ 16777216) :
    compL vs st (mP true) e (xs.map g) [] ρ = .ok ((xs.map y).map .str) ρw := by
  rw [compL_all (y := fun x => .str (y x)) xs ρ hw h hl, List.map_map]
  rfl
theorem piece_plain_eq {p : LP} (h : OkLP p) : f__law_piece_plain [daP p] = .ok (.str (plainP p)) := by
  cases p with
  | many => rfl
  | marks ms =>
    have hl := h.2.2.2
    have ec := compL_strs (vs := [1]) (st := stN 1) (e := p1__law_piece_plain) (g := Da.str) (y := plainM) ms [some (.imm (.lst (ms.map .str))), none] (ρw := [some (.imm (.lst (ms.map .str))), none]) rfl (fun m hm => by
      have := mark_plain_eq (h.2.1 m hm)
      refine ⟨_, rfl, ?_, rfl⟩
      simp only [p1__law_piece_plain, fSeq, fAsg, fAsgN, fRet, fRetO, fExpr, fTo, fPar2, fPar3, fAug, fIf, fBin, fBinT, fTru, fAnd, fOr, fNot, fAndV, fOrV, fNotV, fNeg, fName, fPeek, fD, fN, fLst, fTup, fCons, fCall, fCallN, fDef, fFld, fInt, fSl, fIt, fItA, fStuck, fCv, fCn, fCd, stN, stCons, stNil, stTup, mB, mP, mO, look, lookA, asBl, asInt, vAdd, vSub, vMul, vFdiv, vMod, vCmp, vIs, isNon, vAugAdd, fApp, fExt, fMs, fMn, List.getElem?_cons_zero, List.getElem?_cons_succ, List.getElem?_nil, List.set_cons_zero, List.set_cons_succ, List.length_cons, List.length_nil, Option.bind_some, Option.map_some, if_true, if_false, reduceIte, List.nil_append, List.cons_append, List.append_nil, resOf, Nat.reduceAdd, Nat.reduceEqDiff, Nat.reduceLT, Nat.reduceLeDiff, Int.reduceLT, Int.reduceLE, Int.reduceNeg, and_self, true_and, and_true, decide_true, decide_false, Bool.false_eq_true, Bool.not_true, Bool.not_false, Int.reduceAbs, Int.natAbs_neg, or_true, true_or, vIx, vLen, vAbs, vSum, vMax, vMin, decide_eq_true_eq, Bool.not_eq_true, this]) (by omega)
    have hb := plainP_len h
    have hb' : (ms.map plainM).flatten.length ≤ 3300 := hb
    rw [flat_len] at hb'
    have ej := sJoin_map [] (ms.map plainM) (by simp only [List.length_nil, Nat.mul_zero]; omega)
    rw [joinN_nil] at ej
    have e0 : f__law_piece_plain [daP (.marks ms)] = resOf (b__law_piece_plain [some (.imm (.lst (ms.map .str))), none]) := rfl
    rw [e0]
    simp only [b__law_piece_plain, fSeq, fAsg, fAsgN, fRet, fRetO, fExpr, fTo, fPar2, fPar3, fAug, fIf, fBin, fBinT, fTru, fAnd, fOr, fNot, fAndV, fOrV, fNotV, fNeg, fName, fPeek, fD, fN, fLst, fTup, fCons, fCall, fCallN, fDef, fFld, fInt, fSl, fIt, fItA, fStuck, fCv, fCn, fCd, stN, stCons, stNil, stTup, mB, mP, mO, look, lookA, asBl, asInt, vAdd, vSub, vMul, vFdiv, vMod, vCmp, vIs, isNon, vAugAdd, fApp, fExt, fMs, fMn, List.getElem?_cons_zero, List.getElem?_cons_succ, List.getElem?_nil, List.set_cons_zero, List.set_cons_succ, List.length_cons, List.length_nil, Option.bind_some, Option.map_some, if_true, if_false, reduceIte, List.nil_append, List.cons_append, List.append_nil, resOf, Nat.reduceAdd, Nat.reduceEqDiff, Nat.reduceLT, Nat.reduceLeDiff, Int.reduceLT, Int.reduceLE, Int.reduceNeg, and_self, true_and, and_true, decide_true, decide_false, Bool.false_eq_true, Bool.not_true, Bool.not_false, Int.reduceAbs, Int.natAbs_neg, or_true, true_or, vIx, vLen, vAbs, vSum, vMax, vMin, decide_eq_true_eq, Bool.not_eq_true, fComp, itemsL, ec, ej, plainP]
def plainL (l : Bool) (ps : List LP) (f : Bool) : List Nat :=
  ((if l then [33] else []) ++ (if ps.length = 1 then [47] else [])) ++ joinN [47] (ps.map plainP) ++ (if f then [47] else [])
theorem joinN_len (a : List Nat) : ∀ ls : List (List Nat), (joinN a ls).length ≤ (ls.map (·.length)).sum + ls.length * a.length
  | [] => by simp [joinN]
  | [p] => by simp [joinN]
  | p :: q :: r => by
    have := joinN_len a (q :: r)
    simp only [joinN, List.length_append, List.map_cons, List.sum_cons, List.length_cons, Nat.add_mul] at *
    omega
theorem join_plain_len {ps : List LP} (h : ∀ p ∈ ps, OkLP p) (hl : ps.length ≤ 100) : ((ps.map plainP).map (·.length)).sum ≤ 330000 := by
  have := sumlen_le plainP 3300 ps fun p hp => plainP_len (h p hp)
  have h2 : ps.length * 3300 ≤ 100 * 3300 := Nat.mul_le_mul_right 3300 hl
  omega
theorem law_plain_eq (l : Bool) {ps : List LP} (f : Bool) (h : ∀ p ∈ ps, OkLP p) (hl : ps.length ≤ 100) : f__law_plain [daL l ps f] = .ok (.str (plainL l ps f)) := by
  have e0 : f__law_plain [daL l ps f] = resOf (b__law_plain [some (.imm (daL l ps f)), none, none, none, none, none, none]) := rfl
  rw [e0]
  have ec := compL_strs (vs := [5]) (st := stN 5) (e := p1__law_plain) (g := daP) (y := plainP) ps [some (.imm (daL l ps f)), some (.imm (.bl l)), some (.imm (.lst (ps.map daP))), some (.imm (.bl f)), none, none, none] (ρw := [some (.imm (daL l ps f)), some (.imm (.bl l)), some (.imm (.lst (ps.map daP))), some (.imm (.bl f)), none, none, none]) rfl (fun p hp => by
    have := piece_plain_eq (h p hp)
    refine ⟨_, rfl, ?_, rfl⟩
    simp only [p1__law_plain, fSeq, fAsg, fAsgN, fRet, fRetO, fExpr, fTo, fPar2, fPar3, fAug, fIf, fBin, fBinT, fTru, fAnd, fOr, fNot, fAndV, fOrV, fNotV, fNeg, fName, fPeek, fD, fN, fLst, fTup, fCons, fCall, fCallN, fDef, fFld, fInt, fSl, fIt, fItA, fStuck, fCv, fCn, fCd, stN, stCons, stNil, stTup, mB, mP, mO, look, lookA, asBl, asInt, vAdd, vSub, vMul, vFdiv, vMod, vCmp, vIs, isNon, vAugAdd, fApp, fExt, fMs, fMn, List.getElem?_cons_zero, List.getElem?_cons_succ, List.getElem?_nil, List.set_cons_zero, List.set_cons_succ, List.length_cons, List.length_nil, Option.bind_some, Option.map_some, if_true, if_false, reduceIte, List.nil_append, List.cons_append, List.append_nil, resOf, Nat.reduceAdd, Nat.reduceEqDiff, Nat.reduceLT, Nat.reduceLeDiff, Int.reduceLT, Int.reduceLE, Int.reduceNeg, and_self, true_and, and_true, decide_true, decide_false, Bool.false_eq_true, Bool.not_true, Bool.not_false, Int.reduceAbs, Int.natAbs_neg, or_true, true_or, vIx, vLen, vAbs, vSum, vMax, vMin, decide_eq_true_eq, Bool.not_eq_true, this]) (by omega)
  have hsum := join_plain_len h hl
  have ej := sJoin_map [47] (ps.map plainP) (by rw [List.length_map]; simp only [List.length_cons, List.length_nil]; omega)
  have hjl := joinN_len [47] (ps.map plainP)
  rw [List.length_map] at hjl
  simp only [List.length_cons, List.length_nil] at hjl
  unfold b__law_plain
  rw [fSeq_nx (ρ' := [some (.imm (daL l ps f)), some (.imm (.bl l)), some (.imm (.lst (ps.map daP))), some (.imm (.bl f)), none, none, none]) (by simp only [fSeq, fAsg, fAsgN, fRet, fRetO, fExpr, fTo, fPar2, fPar3, fAug, fIf, fBin, fBinT, fTru, fAnd, fOr, fNot, fAndV, fOrV, fNotV, fNeg, fName, fPeek, fD, fN, fLst, fTup, fCons, fCall, fCallN, fDef, fFld, fInt, fSl, fIt, fItA, fStuck, fCv, fCn, fCd, stN, stCons, stNil, stTup, mB, mP, mO, look, lookA, asBl, asInt, vAdd, vSub, vMul, vFdiv, vMod, vCmp, vIs, isNon, vAugAdd, fApp, fExt, fMs, fMn, List.getElem?_cons_zero, List.getElem?_cons_succ, List.getElem?_nil, List.set_cons_zero, List.set_cons_succ, List.length_cons, List.length_nil, Option.bind_some, Option.map_some, if_true, if_false, reduceIte, List.nil_append, List.cons_append, List.append_nil, resOf, Nat.reduceAdd, Nat.reduceEqDiff, Nat.reduceLT, Nat.reduceLeDiff, Int.reduceLT, Int.reduceLE, Int.reduceNeg, and_self, true_and, and_true, decide_true, decide_false, Bool.false_eq_true, Bool.not_true, Bool.not_false, Int.reduceAbs, Int.natAbs_neg, or_true, true_or, vIx, vLen, vAbs, vSum, vMax, vMin, decide_eq_true_eq, Bool.not_eq_true, daL]),
    fSeq_nx (ρ' := [some (.imm (daL l ps f)), some (.imm (.bl l)), some (.imm (.lst (ps.map daP))), some (.imm (.bl f)), some (.imm (.str (joinN [47] (ps.map plainP)))), none, none]) (by simp only [fSeq, fAsg, fAsgN, fRet, fRetO, fExpr, fTo, fPar2, fPar3, fAug, fIf, fBin, fBinT, fTru, fAnd, fOr, fNot, fAndV, fOrV, fNotV, fNeg, fName, fPeek, fD, fN, fLst, fTup, fCons, fCall, fCallN, fDef, fFld, fInt, fSl, fIt, fItA, fStuck, fCv, fCn, fCd, stN, stCons, stNil, stTup, mB, mP, mO, look, lookA, asBl, asInt, vAdd, vSub, vMul, vFdiv, vMod, vCmp, vIs, isNon, vAugAdd, fApp, fExt, fMs, fMn, List.getElem?_cons_zero, List.getElem?_cons_succ, List.getElem?_nil, List.set_cons_zero, List.set_cons_succ, List.length_cons, List.length_nil, Option.bind_some, Option.map_some, if_true, if_false, reduceIte, List.nil_append, List.cons_append, List.append_nil, resOf, Nat.reduceAdd, Nat.reduceEqDiff, Nat.reduceLT, Nat.reduceLeDiff, Int.reduceLT, Int.reduceLE, Int.reduceNeg, and_self, true_and, and_true, decide_true, decide_false, Bool.false_eq_true, Bool.not_true, Bool.not_false, Int.reduceAbs, Int.natAbs_neg, or_true, true_or, vIx, vLen, vAbs, vSum, vMax, vMin, decide_eq_true_eq, Bool.not_eq_true, fComp, itemsL, ec, ej])]
  have ha : ((if l then [33] else []) ++ (if ps.length = 1 then [47] else []) : List Nat).length ≤ 2 := by
    cases l <;> by_cases h1 : ps.length = 1 <;> simp [h1]
  rw [fSeq_nx (ρ' := [some (.imm (daL l ps f)), some (.imm (.bl l)), some (.imm (.lst (ps.map daP))), some (.imm (.bl f)), some (.imm (.str (joinN [47] (ps.map plainP)))), none, some (.imm (.str ((if l then [33] else []) ++ (if ps.length = 1 then [47] else []))))]) (by
    by_cases h1 : ps.length = 1
    · have h1' : (ps.length : Int) = 1 := by omega
      cases l <;> simp only [fSeq, fAsg, fAsgN, fRet, fRetO, fExpr, fTo, fPar2, fPar3, fAug, fIf, fBin, fBinT, fTru, fAnd, fOr, fNot, fAndV, fOrV, fNotV, fNeg, fName, fPeek, fD, fN, fLst, fTup, fCons, fCall, fCallN, fDef, fFld, fInt, fSl, fIt, fItA, fStuck, fCv, fCn, fCd, stN, stCons, stNil, stTup, mB, mP, mO, look, lookA, asBl, asInt, vAdd, vSub, vMul, vFdiv, vMod, vCmp, vIs, isNon, vAugAdd, fApp, fExt, fMs, fMn, List.getElem?_cons_zero, List.getElem?_cons_succ, List.getElem?_nil, List.set_cons_zero, List.set_cons_succ, List.length_cons, List.length_nil, Option.bind_some, Option.map_some, if_true, if_false, reduceIte, List.nil_append, List.cons_append, List.append_nil, resOf, Nat.reduceAdd, Nat.reduceEqDiff, Nat.reduceLT, Nat.reduceLeDiff, Int.reduceLT, Int.reduceLE, Int.reduceNeg, and_self, true_and, and_true, decide_true, decide_false, Bool.false_eq_true, Bool.not_true, Bool.not_false, Int.reduceAbs, Int.natAbs_neg, or_true, true_or, vIx, vLen, vAbs, vSum, vMax, vMin, decide_eq_true_eq, Bool.not_eq_true, vTru, List.length_map, h1', vEq_int, h1, Int.cast_ofNat_Int, Nat.reduceLeDiff]
    · have h1' : ¬ (ps.length : Int) = 1 := by omega
      cases l <;> simp only [fSeq, fAsg, fAsgN, fRet, fRetO, fExpr, fTo, fPar2, fPar3, fAug, fIf, fBin, fBinT, fTru, fAnd, fOr, fNot, fAndV, fOrV, fNotV, fNeg, fName, fPeek, fD, fN, fLst, fTup, fCons, fCall, fCallN, fDef, fFld, fInt, fSl, fIt, fItA, fStuck, fCv, fCn, fCd, stN, stCons, stNil, stTup, mB, mP, mO, look, lookA, asBl, asInt, vAdd, vSub, vMul, vFdiv, vMod, vCmp, vIs, isNon, vAugAdd, fApp, fExt, fMs, fMn, List.getElem?_cons_zero, List.getElem?_cons_succ, List.getElem?_nil, List.set_cons_zero, List.set_cons_succ, List.length_cons, List.length_nil, Option.bind_some, Option.map_some, if_true, if_false, reduceIte, List.nil_append, List.cons_append, List.append_nil, resOf, Nat.reduceAdd, Nat.reduceEqDiff, Nat.reduceLT, Nat.reduceLeDiff, Int.reduceLT, Int.reduceLE, Int.reduceNeg, and_self, true_and, and_true, decide_true, decide_false, Bool.false_eq_true, Bool.not_true, Bool.not_false, Int.reduceAbs, Int.natAbs_neg, or_true, true_or, vIx, vLen, vAbs, vSum, vMax, vMin, decide_eq_true_eq, Bool.not_eq_true, vTru, List.length_map, h1', vEq_int, h1, Nat.reduceLeDiff])]
  unfold plainL
  generalize ((if l then [33] else []) ++ (if ps.length = 1 then [47] else []) : List Nat) = ah at ha
  generalize joinN [47] (ps.map plainP) = jn at hjl
  have y1 : vAdd (.str ah) (.str jn) = some (.str (ah ++ jn)) := if_pos (by omega)
  have y2 : ∀ z : List Nat, z.length ≤ 1 → vAdd (.str (ah ++ jn)) (.str z) = some (.str (ah ++ jn ++ z)) := fun z hz => if_pos (by rw [List.length_append]; omega)
  have y3 := y2 [47] (by decide)
  have y4 := y2 [] (by decide)
  cases f <;> simp only [fIf, fTru, fBin, fD, fRet, fPeek, mB, mP, mO, look, if_true, if_false, Bool.false_eq_true, List.getElem?_cons_zero, List.getElem?_cons_succ, vTru, y1, y3, y4, resOf]
end Kb
namespace Kb
open Vl
open L2 (ixN atI)
inductive All2 {α β : Type} (R : α → β → Prop) : List α → List β → Prop
  | nil : All2 R [] []
  | cons {a : α} {b : β} {as : List α} {bs : List β} : R a b → All2 R as bs → All2 R (a :: as) (b :: bs)
theorem All2.length {α β : Type} {R : α → β → Prop} : ∀ {as : List α} {bs : List β}, All2 R as bs → as.length = bs.length
  | _, _, .nil => rfl
  | _, _, .cons _ r => congrArg Nat.succ r.length
def otherP (m : List Nat) (n : Int) : List Nat := match f__law_mark_other [.str m, .int n] with
  | .ok (.str t) => t
  | _ => []
theorem other_eq {m : List Nat} (h : IsM m) (n : Int) : f__law_mark_other [.str m, .int n] = .ok (.str (otherP m n)) ∧ MF m (otherP m n) := by
  obtain ⟨t, e, hm⟩ := other_ok h n
  have : otherP m n = t := by unfold otherP; rw [e]
  rw [this]
  exact ⟨e, hm⟩
def PT : LP → List Nat → Prop
  | .many, t => t = [42, 42]
  | .marks ms, t => ∃ ts, All2 MF ms ts ∧ t = ts.flatten
inductive Xp : List LP → List LP → List (List Nat) → Prop
  | nil : Xp [] [] []
  | many1 {ps qs ts} : Xp ps qs ts → Xp (.many :: ps) (.many :: qs) ([42, 42] :: ts)
  | many2 {ps qs ts} : Xp ps qs ts → Xp (.many :: ps) (.many :: .many :: qs) ([42, 42] :: [42, 42] :: ts)
  | marks {ps qs ts ms t} : PT (.marks ms) t → Xp ps qs ts → Xp (.marks ms :: ps) (.marks ms :: qs) (t :: ts)
theorem Xp.all {ps qs : List LP} {ts : List (List Nat)} (h : Xp ps qs ts) : All2 PT qs ts := by
  induction h with
  | nil => exact .nil
  | many1 _ ih => exact .cons rfl ih
  | many2 _ ih => exact .cons rfl (.cons rfl ih)
  | marks h _ ih => exact .cons h ih
theorem Xp.ok {ps qs : List LP} {ts : List (List Nat)} (h : Xp ps qs ts) (ho : ∀ p ∈ ps, OkLP p) : ∀ q ∈ qs, OkLP q := by
  induction h with
  | nil => exact fun q hq => nomatch hq
  | many1 _ ih =>
    intro q hq
    rcases List.mem_cons.mp hq with rfl | hq
    · trivial
    · exact ih (fun p hp => ho p (List.mem_cons_of_mem _ hp)) q hq
  | many2 _ ih =>
    intro q hq
    rcases List.mem_cons.mp hq with rfl | hq
    · trivial
    · rcases List.mem_cons.mp hq with rfl | hq
      · trivial
      · exact ih (fun p hp => ho p (List.mem_cons_of_mem _ hp)) q hq
  | marks h _ ih =>
    intro q hq
    rcases List.mem_cons.mp hq with rfl | hq
    · exact ho _ (List.mem_cons_self ..)
    · exact ih (fun p hp => ho p (List.mem_cons_of_mem _ hp)) q hq
theorem Xp.len {ps qs : List LP} {ts : List (List Nat)} (h : Xp ps qs ts) : ts.length ≤ 2 * ps.length ∧ (ps ≠ [] → ts ≠ []) ∧ qs.length = ts.length := by
  induction h with
  | nil => simp
  | many1 _ ih => simp only [List.length_cons]; exact ⟨by omega, fun _ => by simp, by omega⟩
  | many2 _ ih => simp only [List.length_cons]; exact ⟨by omega, fun _ => by simp, by omega⟩
  | marks h _ ih => simp only [List.length_cons]; exact ⟨by omega, fun _ => by simp, by omega⟩
def sqz : List LP → List LP → List LP
  | acc, [] => acc
  | acc, q :: qs => if isMany q = true ∧ lastMany acc = true then sqz acc qs else sqz (acc ++ [q]) qs
theorem last_snoc (acc : List LP) (q : LP) : lastMany (acc ++ [q]) = isMany q := by
  unfold lastMany
  rw [List.getLast?_append]
  cases q <;> rfl
theorem noMM_last : ∀ {acc : List LP} {q : LP} {r : List LP}, NoMM (acc ++ q :: r) → isMany q = true → lastMany acc = false
  | [], q, r, _, _ => rfl
  | [a], q, r, h, hq => by
    have := h.1
    unfold lastMany
    cases a with
    | many => exact absurd ⟨rfl, hq⟩ this
    | marks ms => rfl
  | a :: b :: acc, q, r, h, hq => by
    have := noMM_last (acc := b :: acc) h.2 hq
    unfold lastMany at this ⊢
    simpa using this
theorem Xp.sq {ps qs : List LP} {ts : List (List Nat)} (h : Xp ps qs ts) : ∀ acc, NoMM (acc ++ ps) → sqz acc qs = acc ++ ps := by
  induction h with
  | nil => intro acc _; simp [sqz]
  | many1 _ ih =>
    intro acc hn
    have hl := noMM_last hn rfl
    rw [sqz, if_neg (by rw [hl]; simp), ih (acc ++ [LP.many]) (by rw [List.append_assoc]; exact hn), List.append_assoc]
    rfl
  | many2 _ ih =>
    intro acc hn
    have hl := noMM_last hn rfl
    rw [sqz, if_neg (by rw [hl]; simp), sqz, if_pos ⟨rfl, last_snoc _ _⟩, ih (acc ++ [LP.many]) (by rw [List.append_assoc]; exact hn), List.append_assoc]
    rfl
  | marks h _ ih =>
    intro acc hn
    rw [sqz, if_neg (by simp [isMany]), ih (acc ++ [_]) (by rw [List.append_assoc]; exact hn), List.append_assoc]
    rfl
def enumP (i : Nat) : List (List Nat) → List (Nat × List Nat)
  | [] => []
  | m :: ms => (i, m) :: enumP (i + 1) ms
theorem enumD_map : ∀ (ms : List (List Nat)) (i : Nat), enumD i (ms.map .str) = (enumP i ms).map fun x => .tup [.int x.1, .str x.2]
  | [], _ => rfl
  | m :: ms, i => by rw [List.map_cons]; unfold enumD enumP; rw [enumD_map ms (i + 1), List.map_cons]
theorem enumP_len : ∀ (ms : List (List Nat)) (i : Nat), (enumP i ms).length = ms.length
  | [], _ => rfl
  | m :: ms, i => by unfold enumP; rw [List.length_cons, List.length_cons, enumP_len ms]
theorem enumP_in : ∀ (ms : List (List Nat)) (i : Nat) (x : Nat × List Nat), x ∈ enumP i ms → x.2 ∈ ms
  | [], _, x, h => nomatch h
  | m :: ms, i, x, h => by
    unfold enumP at h
    rcases List.mem_cons.mp h with rfl | h
    · exact List.mem_cons_self ..
    · exact List.mem_cons_of_mem _ (enumP_in ms (i + 1) x h)
theorem enumP_all {R : List Nat → List Nat → Prop} {y : Nat × List Nat → List Nat} : ∀ (ms : List (List Nat)) (i : Nat), (∀ m ∈ ms, ∀ j, R m (y (j, m))) → All2 R ms ((enumP i ms).map y)
  | [], _, _ => .nil
  | m :: ms, i, h => .cons (h m (List.mem_cons_self ..) i) (enumP_all ms (i + 1) fun z hz => h z (List.mem_cons_of_mem _ hz))
theorem all2_sum {ms ts : List (List Nat)} (h : All2 MF ms ts) : (ts.map (·.length)).sum ≤ ms.length * 100 := by
  induction h with
  | nil => simp
  | cons h _ ih =>
    obtain ⟨F, _, _, _, hl⟩ := h
    simp only [List.map_cons, List.sum_cons, List.length_cons]
    omega
theorem PT_len {p : LP} {t : List Nat} (h : PT p t) (ho : OkLP p) : t.length ≤ 10000 := by
  cases p with
  | many => rw [show t = [42, 42] from h]; decide
  | marks ms =>
    obtain ⟨ts, h1, rfl⟩ := h
    have := all2_sum h1
    have h4 : ms.length ≤ 100 := ho.2.2.2
    rw [flat_len]
    omega
abbrev loE (l : Bool) (ps : List LP) (f : Bool) (n : Int) (told : List (List Nat)) (turn : Int) (a b c d e : Option Ce) : Env :=
  [some (.imm (daL l ps f)), some (.imm (.int n)), some (.imm (.bl l)), some (.imm (.lst (ps.map daP))), some (.imm (.bl f)), some (.lst (told.map .str)), some (.imm (.int turn)), a, b, c, d, e]
theorem lo_piece (l : Bool) (ps : List LP) (f : Bool) (n : Int) (told : List (List Nat)) (turn : Int) {p : LP} (b c d e : Option Ce) (ho : OkLP p) (hl : told.length ≤ 1000) :
    ∃ turn' b' c' d' e' qs ts, p2__law_other (loE l ps f n told turn (some (.imm (daP p))) b c d e) = .ok .nx (loE l ps f n (told ++ ts) turn' (some (.imm (daP p))) b' c' d' e') ∧ (∀ ps qs' ts', Xp ps qs' ts' → Xp (p :: ps) (qs ++ qs') (ts ++ ts')) ∧ ts.length ≤ 2 := by
  unfold p2__law_other
  rw [fSeq_nx (ρ' := loE l ps f n told (turn * 5 + 1) (some (.imm (daP p))) b c d e) (by simp only [loE, fSeq, fAsg, fAsgN, fRet, fRetO, fExpr, fTo, fPar2, fPar3, fAug, fIf, fBin, fBinT, fTru, fAnd, fOr, fNot, fAndV, fOrV, fNotV, fNeg, fName, fPeek, fD, fN, fLst, fTup, fCons, fCall, fCallN, fDef, fFld, fInt, fSl, fIt, fItA, fStuck, fCv, fCn, fCd, stN, stCons, stNil, stTup, mB, mP, mO, look, lookA, asBl, asInt, vAdd, vSub, vMul, vFdiv, vMod, vCmp, vIs, isNon, vAugAdd, fApp, fExt, fMs, fMn, List.getElem?_cons_zero, List.getElem?_cons_succ, List.getElem?_nil, List.set_cons_zero, List.set_cons_succ, List.length_cons, List.length_nil, Option.bind_some, Option.map_some, if_true, if_false, reduceIte, List.nil_append, List.cons_append, List.append_nil, resOf, Nat.reduceAdd, Nat.reduceEqDiff, Nat.reduceLT, Nat.reduceLeDiff, Int.reduceLT, Int.reduceLE, Int.reduceNeg, and_self, true_and, and_true, decide_true, decide_false, Bool.false_eq_true, Bool.not_true, Bool.not_false, Int.reduceAbs, Int.natAbs_neg, or_true, true_or, vIx, vLen, vAbs, vSum, vMax, vMin, decide_eq_true_eq, Bool.not_eq_true])]
  generalize turn * 5 + 1 = u
  cases p with
  | many =>
    rw [fIf_t (ρ' := loE l ps f n told u (some (.imm (daP .many))) b c d e) (by simp only [loE, fSeq, fAsg, fAsgN, fRet, fRetO, fExpr, fTo, fPar2, fPar3, fAug, fIf, fBin, fBinT, fTru, fAnd, fOr, fNot, fAndV, fOrV, fNotV, fNeg, fName, fPeek, fD, fN, fLst, fTup, fCons, fCall, fCallN, fDef, fFld, fInt, fSl, fIt, fItA, fStuck, fCv, fCn, fCd, stN, stCons, stNil, stTup, mB, mP, mO, look, lookA, asBl, asInt, vAdd, vSub, vMul, vFdiv, vMod, vCmp, vIs, isNon, vAugAdd, fApp, fExt, fMs, fMn, List.getElem?_cons_zero, List.getElem?_cons_succ, List.getElem?_nil, List.set_cons_zero, List.set_cons_succ, List.length_cons, List.length_nil, Option.bind_some, Option.map_some, if_true, if_false, reduceIte, List.nil_append, List.cons_append, List.append_nil, resOf, Nat.reduceAdd, Nat.reduceEqDiff, Nat.reduceLT, Nat.reduceLeDiff, Int.reduceLT, Int.reduceLE, Int.reduceNeg, and_self, true_and, and_true, decide_true, decide_false, Bool.false_eq_true, Bool.not_true, Bool.not_false, Int.reduceAbs, Int.natAbs_neg, or_true, true_or, vIx, vLen, vAbs, vSum, vMax, vMin, decide_eq_true_eq, Bool.not_eq_true, daP, isNon])]
    have k0 : 0 ≤ u / 3 % 2 := Int.emod_nonneg _ (by decide)
    have k1 : u / 3 % 2 < 2 := Int.emod_lt_of_pos _ (by decide)
    have k : u / 3 % 2 = 0 ∨ u / 3 % 2 = 1 := by omega
    rcases k with k | k
    · have hv : vMul (.lst [.str [42, 42]]) (.int (1 + 0)) = some (.lst [.str [42, 42]]) := rfl
      have hl2 : told.length + 1 ≤ 16777216 := by omega
      refine ⟨u, b, c, d, e, [.many], [[42, 42]], ?_, fun _ _ _ h => .many1 h, by simp⟩
      simp only [loE, fExpr, fExt, fBin, fD, fN, fLst, fCons, fPeek, mB, mP, mO, look, List.getElem?_cons_zero, List.getElem?_cons_succ, List.length_cons, List.length_nil, Nat.zero_add, Nat.reduceLeDiff, if_true, vAdd, vFdiv, vMod, Int.reduceLT, and_self, k, hv, List.length_map, hl2, List.set_cons_zero, List.set_cons_succ, List.map_append, List.map_cons, List.map_nil]
    · have hv : vMul (.lst [.str [42, 42]]) (.int (1 + 1)) = some (.lst [.str [42, 42], .str [42, 42]]) := rfl
      have hl2 : told.length + (1 + 1) ≤ 16777216 := by omega
      refine ⟨u, b, c, d, e, [.many, .many], [[42, 42], [42, 42]], ?_, fun _ _ _ h => .many2 h, by simp⟩
      simp only [loE, fExpr, fExt, fBin, fD, fN, fLst, fCons, fPeek, mB, mP, mO, look, List.getElem?_cons_zero, List.getElem?_cons_succ, List.length_cons, List.length_nil, Nat.zero_add, Nat.reduceLeDiff, if_true, vAdd, vFdiv, vMod, Int.reduceLT, and_self, k, hv, List.length_map, hl2, List.set_cons_zero, List.set_cons_succ, List.map_append, List.map_cons, List.map_nil]
  | marks ms =>
    rw [fIf_f (ρ' := loE l ps f n told u (some (.imm (daP (.marks ms)))) b c d e) (by simp only [loE, fSeq, fAsg, fAsgN, fRet, fRetO, fExpr, fTo, fPar2, fPar3, fAug, fIf, fBin, fBinT, fTru, fAnd, fOr, fNot, fAndV, fOrV, fNotV, fNeg, fName, fPeek, fD, fN, fLst, fTup, fCons, fCall, fCallN, fDef, fFld, fInt, fSl, fIt, fItA, fStuck, fCv, fCn, fCd, stN, stCons, stNil, stTup, mB, mP, mO, look, lookA, asBl, asInt, vAdd, vSub, vMul, vFdiv, vMod, vCmp, vIs, isNon, vAugAdd, fApp, fExt, fMs, fMn, List.getElem?_cons_zero, List.getElem?_cons_succ, List.getElem?_nil, List.set_cons_zero, List.set_cons_succ, List.length_cons, List.length_nil, Option.bind_some, Option.map_some, if_true, if_false, reduceIte, List.nil_append, List.cons_append, List.append_nil, resOf, Nat.reduceAdd, Nat.reduceEqDiff, Nat.reduceLT, Nat.reduceLeDiff, Int.reduceLT, Int.reduceLE, Int.reduceNeg, and_self, true_and, and_true, decide_true, decide_false, Bool.false_eq_true, Bool.not_true, Bool.not_false, Int.reduceAbs, Int.natAbs_neg, or_true, true_or, vIx, vLen, vAbs, vSum, vMax, vMin, decide_eq_true_eq, Bool.not_eq_true, daP, isNon])]
    have h4 : ms.length ≤ 100 := ho.2.2.2
    have ec := compL_strs (vs := [9, 10]) (st := stTup 2 (stCons (stN 9) (stCons (stN 10) stNil))) (e := p1__law_other) (g := fun x : Nat × List Nat => Da.tup [.int x.1, .str x.2]) (y := fun x => otherP x.2 (u / 7 + x.1)) (enumP 0 ms)
      (loE l ps f n told u (some (.imm (daP (.marks ms)))) b c d e) (ρw := loE l ps f n told u (some (.imm (daP (.marks ms)))) b none none e) rfl (fun x hx => by
        have := (other_eq (ho.2.1 x.2 (enumP_in ms 0 x hx)) (u / 7 + x.1)).1
        refine ⟨_, rfl, ?_, rfl⟩
        simp only [p1__law_other, loE, fSeq, fAsg, fAsgN, fRet, fRetO, fExpr, fTo, fPar2, fPar3, fAug, fIf, fBin, fBinT, fTru, fAnd, fOr, fNot, fAndV, fOrV, fNotV, fNeg, fName, fPeek, fD, fN, fLst, fTup, fCons, fCall, fCallN, fDef, fFld, fInt, fSl, fIt, fItA, fStuck, fCv, fCn, fCd, stN, stCons, stNil, stTup, mB, mP, mO, look, lookA, asBl, asInt, vAdd, vSub, vMul, vFdiv, vMod, vCmp, vIs, isNon, vAugAdd, fApp, fExt, fMs, fMn, List.getElem?_cons_zero, List.getElem?_cons_succ, List.getElem?_nil, List.set_cons_zero, List.set_cons_succ, List.length_cons, List.length_nil, Option.bind_some, Option.map_some, if_true, if_false, reduceIte, List.nil_append, List.cons_append, List.append_nil, resOf, Nat.reduceAdd, Nat.reduceEqDiff, Nat.reduceLT, Nat.reduceLeDiff, Int.reduceLT, Int.reduceLE, Int.reduceNeg, and_self, true_and, and_true, decide_true, decide_false, Bool.false_eq_true, Bool.not_true, Bool.not_false, Int.reduceAbs, Int.natAbs_neg, or_true, true_or, vIx, vLen, vAbs, vSum, vMax, vMin, decide_eq_true_eq, Bool.not_eq_true, this]) (by rw [enumP_len]; omega)
    have ha : All2 MF ms ((enumP 0 ms).map fun x => otherP x.2 (u / 7 + x.1)) := enumP_all ms 0 fun m hm j => (other_eq (ho.2.1 m hm) _).2
    generalize ((enumP 0 ms).map fun x => otherP x.2 (u / 7 + x.1)) = ts at ec ha
    have hsum := all2_sum ha
    have ej := sJoin_map [] ts (by simp only [List.length_nil, Nat.mul_zero]; omega)
    rw [joinN_nil] at ej
    have hl2 : told.length < 16777216 := by omega
    rw [fSeq_nx (ρ' := loE l ps f n told u (some (.imm (daP (.marks ms)))) (some (.lst (ts.map .str))) none none e) (by
      simp only [loE] at ec
      simp only [loE, daP] at ec ⊢
      simp only [fAsgN, fComp, fItA, fCons, fName, mB, mP, mO, List.getElem?_cons_zero, List.getElem?_cons_succ, enumOf, enumD_map, ec, List.set_cons_zero, List.set_cons_succ])]
    refine ⟨u, some (.lst (ts.map .str)), none, none, e, [.marks ms], [ts.flatten], ?_, fun _ _ _ h => .marks ⟨ts, ha, rfl⟩ h, by simp⟩
    simp only [loE, fSeq, fAsg, fAsgN, fRet, fRetO, fExpr, fTo, fPar2, fPar3, fAug, fIf, fBin, fBinT, fTru, fAnd, fOr, fNot, fAndV, fOrV, fNotV, fNeg, fName, fPeek, fD, fN, fLst, fTup, fCons, fCall, fCallN, fDef, fFld, fInt, fSl, fIt, fItA, fStuck, fCv, fCn, fCd, stN, stCons, stNil, stTup, mB, mP, mO, look, lookA, asBl, asInt, vAdd, vSub, vMul, vFdiv, vMod, vCmp, vIs, isNon, vAugAdd, fApp, fExt, fMs, fMn, List.getElem?_cons_zero, List.getElem?_cons_succ, List.getElem?_nil, List.set_cons_zero, List.set_cons_succ, List.length_cons, List.length_nil, Option.bind_some, Option.map_some, if_true, if_false, reduceIte, List.nil_append, List.cons_append, List.append_nil, resOf, Nat.reduceAdd, Nat.reduceEqDiff, Nat.reduceLT, Nat.reduceLeDiff, Int.reduceLT, Int.reduceLE, Int.reduceNeg, and_self, true_and, and_true, decide_true, decide_false, Bool.false_eq_true, Bool.not_true, Bool.not_false, Int.reduceAbs, Int.natAbs_neg, or_true, true_or, vIx, vLen, vAbs, vSum, vMax, vMin, decide_eq_true_eq, Bool.not_eq_true, ej, List.length_map, hl2, List.map_append, List.map_cons, List.map_nil]
theorem lo_loop (l : Bool) (ps0 : List LP) (f : Bool) (n : Int) : ∀ (ps : List LP) (told : List (List Nat)) (turn : Int) (a b c d e : Option Ce), (∀ p ∈ ps, OkLP p) → told.length + 2 * ps.length ≤ 1000 →
    ∃ turn' a' b' c' d' e' qs ts, forL (stN 7) p2__law_other (ps.map daP) (loE l ps0 f n told turn a b c d e) = .ok .nx (loE l ps0 f n (told ++ ts) turn' a' b' c' d' e') ∧ Xp ps qs ts
  | [], told, turn, a, b, c, d, e, _, _ => ⟨turn, a, b, c, d, e, [], [], by rw [List.append_nil]; rfl, .nil⟩
  | p :: ps, told, turn, a, b, c, d, e, ho, hl => by
    rw [List.length_cons] at hl
    obtain ⟨t1, b1, c1, d1, e1, q1, s1, h1, h2, h3⟩ := lo_piece l ps0 f n told turn b c d e (ho p (List.mem_cons_self ..)) (by omega)
    obtain ⟨t2, a2, b2, c2, d2, e2, q2, s2, h4, h5⟩ := lo_loop l ps0 f n ps (told ++ s1) t1 (some (.imm (daP p))) b1 c1 d1 e1 (fun q hq => ho q (List.mem_cons_of_mem _ hq)) (by rw [List.length_append]; omega)
    refine ⟨t2, a2, b2, c2, d2, e2, q1 ++ q2, s1 ++ s2, ?_, h2 _ _ _ h5⟩
    rw [List.map_cons, forL_cons (ρ1 := loE l ps0 f n told turn (some (.imm (daP p))) b c d e) rfl h1, h4, List.append_assoc]
end Kb
namespace Kb
open Vl
open L2 (ixN atI)
def textL (l lead : Bool) (ts : List (List Nat)) (f : Bool) : List Nat :=
  (if l then [33] else []) ++ ((if lead then [47] else []) ++ joinN [47] ts) ++ (if f then [47] else [])
theorem all2_len {qs : List LP} {ts : List (List Nat)} (h : All2 PT qs ts) (ho : ∀ q ∈ qs, OkLP q) : (ts.map (·.length)).sum ≤ qs.length * 10000 := by
  induction h with
  | nil => simp
  | cons h _ ih =>
    have h1 := PT_len h (ho _ (List.mem_cons_self ..))
    have h2 := ih fun q hq => ho q (List.mem_cons_of_mem _ hq)
    simp only [List.map_cons, List.sum_cons, List.length_cons]
    omega
theorem Xp.last {ps qs : List LP} {ts : List (List Nat)} (h : Xp ps qs ts) (p : LP) : ps = [p] → ∃ t, ts.getLast? = some t ∧ PT p t := by
  induction h with
  | nil => exact fun e => by cases e
  | many1 h _ => intro e; cases e; cases h; exact ⟨_, rfl, rfl⟩
  | many2 h _ => intro e; cases e; cases h; exact ⟨_, rfl, rfl⟩
  | marks hp h _ => intro e; cases e; cases h; exact ⟨_, rfl, hp⟩
theorem Xp.last2 {ps qs : List LP} {ts : List (List Nat)} (h : Xp ps qs ts) (p q : LP) (e : ps = [p, q]) : ∃ t, ts.getLast? = some t ∧ PT q t := by
  cases h with
  | nil => cases e
  | many1 h =>
    cases e
    obtain ⟨t, e1, e2⟩ := h.last q rfl
    exact ⟨t, by rw [List.getLast?_cons, e1]; rfl, e2⟩
  | many2 h =>
    cases e
    obtain ⟨t, e1, e2⟩ := h.last q rfl
    exact ⟨t, by rw [List.getLast?_cons, List.getLast?_cons, e1]; rfl, e2⟩
  | marks hp h =>
    cases e
    obtain ⟨t, e1, e2⟩ := h.last q rfl
    exact ⟨t, by rw [List.getLast?_cons, e1]; rfl, e2⟩
theorem lo_end (l : Bool) (ps : List LP) (f : Bool) (n : Int) (told : List (List Nat)) (turn : Int) (a b c d : Option Ce) (body : List Nat) (hb : body.length ≤ 10000000) :
    resOf (fRet (fBin vAdd (fD (fBin vAdd (fD (fIf (fTru (fPeek 2)) (mP (.str [33])) (mP (.str [])))) (fPeek 11))) (fD (fIf (fTru (fPeek 4)) (mP (.str [47])) (mP (.str []))))) (loE l ps f n told turn a b c d (some (.imm (.str body))))) = .ok (.str ((if l then [33] else []) ++ body ++ (if f then [47] else []))) := by
  have y1 : ∀ z : List Nat, z.length ≤ 1 → vAdd (.str z) (.str body) = some (.str (z ++ body)) := fun z hz => if_pos (by omega)
  have y2 : ∀ z w : List Nat, z.length ≤ 1 → w.length ≤ 1 → vAdd (.str (z ++ body)) (.str w) = some (.str (z ++ body ++ w)) := fun z w hz hw => if_pos (by rw [List.length_append]; omega)
  have a1 := y1 [33] (by decide)
  have a2 := y1 [] (by decide)
  have b1 := y2 [33] [47] (by decide) (by decide)
  have b2 := y2 [33] [] (by decide) (by decide)
  have b3 := y2 [] [47] (by decide) (by decide)
  have b4 := y2 [] [] (by decide) (by decide)
  cases l <;> cases f <;> simp only [loE, fIf, fTru, fBin, fD, fRet, fPeek, mB, mP, mO, look, if_true, if_false, Bool.false_eq_true, List.getElem?_cons_zero, List.getElem?_cons_succ, vTru, a1, a2, b1, b2, b3, b4, resOf]
theorem other_line_ok (l : Bool) {ps : List LP} (f : Bool) (h : OkPs ps) (n : Int) : ∃ lead qs ts, f__law_other [daL l ps f, .int n] = .ok (.str (textL l lead ts f)) ∧ All2 PT qs ts ∧ qs ≠ [] ∧ (∀ q ∈ qs, OkLP q) ∧ qs.length ≤ 2 * ps.length ∧
    sqz [] (if lead = false ∧ qs.length = 1 then .many :: qs else qs) = ps := by
  obtain ⟨hne, ho, hm, hl⟩ := h
  obtain ⟨turn, a, b, c, d, e, qs, ts, e1, x⟩ := lo_loop l ps f n ps [] n none none none none none ho (by simp; omega)
  have hx := x.len
  have hsq := x.sq [] hm
  have hts : ts ≠ [] := hx.2.1 hne
  have hqs : qs ≠ [] := by
    intro e
    rw [e] at hx
    exact hts (List.length_eq_zero_iff.mp hx.2.2.symm)
  have hall := x.all
  have hqo := x.ok ho
  have hsum := all2_len hall hqo
  have hq2 : qs.length * 10000 ≤ 200 * 10000 := Nat.mul_le_mul_right 10000 (by omega)
  have e0 : f__law_other [daL l ps f, .int n] = resOf (b__law_other [some (.imm (daL l ps f)), some (.imm (.int n)), none, none, none, none, none, none, none, none, none, none]) := rfl
  rw [e0]
  unfold b__law_other
  rw [fSeq_nx (ρ' := [some (.imm (daL l ps f)), some (.imm (.int n)), some (.imm (.bl l)), some (.imm (.lst (ps.map daP))), some (.imm (.bl f)), none, none, none, none, none, none, none]) (by simp only [fSeq, fAsg, fAsgN, fRet, fRetO, fExpr, fTo, fPar2, fPar3, fAug, fIf, fBin, fBinT, fTru, fAnd, fOr, fNot, fAndV, fOrV, fNotV, fNeg, fName, fPeek, fD, fN, fLst, fTup, fCons, fCall, fCallN, fDef, fFld, fInt, fSl, fIt, fItA, fStuck, fCv, fCn, fCd, stN, stCons, stNil, stTup, mB, mP, mO, look, lookA, asBl, asInt, vAdd, vSub, vMul, vFdiv, vMod, vCmp, vIs, isNon, vAugAdd, fApp, fExt, fMs, fMn, List.getElem?_cons_zero, List.getElem?_cons_succ, List.getElem?_nil, List.set_cons_zero, List.set_cons_succ, List.length_cons, List.length_nil, Option.bind_some, Option.map_some, if_true, if_false, reduceIte, List.nil_append, List.cons_append, List.append_nil, resOf, Nat.reduceAdd, Nat.reduceEqDiff, Nat.reduceLT, Nat.reduceLeDiff, Int.reduceLT, Int.reduceLE, Int.reduceNeg, and_self, true_and, and_true, decide_true, decide_false, Bool.false_eq_true, Bool.not_true, Bool.not_false, Int.reduceAbs, Int.natAbs_neg, or_true, true_or, vIx, vLen, vAbs, vSum, vMax, vMin, decide_eq_true_eq, Bool.not_eq_true, daL]),
    fSeq_nx (ρ' := loE l ps f n [] n none none none none none) (by simp only [fSeq, fAsg, fAsgN, fRet, fRetO, fExpr, fTo, fPar2, fPar3, fAug, fIf, fBin, fBinT, fTru, fAnd, fOr, fNot, fAndV, fOrV, fNotV, fNeg, fName, fPeek, fD, fN, fLst, fTup, fCons, fCall, fCallN, fDef, fFld, fInt, fSl, fIt, fItA, fStuck, fCv, fCn, fCd, stN, stCons, stNil, stTup, mB, mP, mO, look, lookA, asBl, asInt, vAdd, vSub, vMul, vFdiv, vMod, vCmp, vIs, isNon, vAugAdd, fApp, fExt, fMs, fMn, List.getElem?_cons_zero, List.getElem?_cons_succ, List.getElem?_nil, List.set_cons_zero, List.set_cons_succ, List.length_cons, List.length_nil, Option.bind_some, Option.map_some, if_true, if_false, reduceIte, List.nil_append, List.cons_append, List.append_nil, resOf, Nat.reduceAdd, Nat.reduceEqDiff, Nat.reduceLT, Nat.reduceLeDiff, Int.reduceLT, Int.reduceLE, Int.reduceNeg, and_self, true_and, and_true, decide_true, decide_false, Bool.false_eq_true, Bool.not_true, Bool.not_false, Int.reduceAbs, Int.natAbs_neg, or_true, true_or, vIx, vLen, vAbs, vSum, vMax, vMin, decide_eq_true_eq, Bool.not_eq_true, loE, Nat.reduceLeDiff, List.map_nil]),
    fSeq_nx (ρ' := loE l ps f n ts turn a b c d e) (by
      rw [List.nil_append] at e1
      rw [← e1]
      simp only [loE, fFor, fIt, fName, mB, mO, itemsL, List.getElem?_cons_zero, List.getElem?_cons_succ])]
  have hz0 : atI (ps.map daP) 0 = some (daP (ps.head hne)) := by
    obtain ⟨p, r, rfl⟩ := List.exists_cons_of_ne_nil hne
    exact atI_zero _ _
  by_cases hc : n % 3 = 0 ∧ isMany (ps.head hne) = true ∧ ps.length < 3
  · obtain ⟨c1, c2, c3⟩ := hc
    have c3' : (ps.length : Int) < 3 := by omega
    have hnon : daP (ps.head hne) = .non := by
      cases hh : ps.head hne with
      | many => rfl
      | marks ms => rw [hh] at c2; cases c2
    obtain ⟨q, t, hlast, hpt, hps⟩ : ∃ q t, ts.getLast? = some t ∧ PT q t ∧ (ps = [q] ∧ q = .many ∨ ps = [.many, q]) := by
      match ps, hne, c2, c3, x with
      | [p], _, c2, _, x =>
        obtain ⟨t, k1, k2⟩ := x.last p rfl
        refine ⟨p, t, k1, k2, .inl ⟨rfl, ?_⟩⟩
        cases p with
        | many => rfl
        | marks ms => cases c2
      | [p, q], _, c2, _, x =>
        obtain ⟨t, k1, k2⟩ := x.last2 p q rfl
        refine ⟨q, t, k1, k2, .inr ?_⟩
        cases p with
        | many => rfl
        | marks ms => cases c2
      | _ :: _ :: _ :: r, _, _, c3, _ => simp only [List.length_cons] at c3; omega
    have hqok : OkLP q := by
      rcases hps with ⟨k, _⟩ | k <;> exact ho q (by rw [k]; simp)
    have htl := PT_len hpt hqok
    have e2 : atI (ts.map Da.str) (-1) = some (.str t) := by
      rw [atI_last _ (by simpa using hts) .non, List.getLastD_eq_getLast?, List.getLast?_map, hlast]
      rfl
    rw [fSeq_nx (ρ' := loE l ps f n ts turn a b c d (some (.imm (.str t)))) (by
      rw [fIf_t (ρ' := loE l ps f n ts turn a b c d e) (by simp only [loE, fSeq, fAsg, fAsgN, fRet, fRetO, fExpr, fTo, fPar2, fPar3, fAug, fIf, fBin, fBinT, fTru, fAnd, fOr, fNot, fAndV, fOrV, fNotV, fNeg, fName, fPeek, fD, fN, fLst, fTup, fCons, fCall, fCallN, fDef, fFld, fInt, fSl, fIt, fItA, fStuck, fCv, fCn, fCd, stN, stCons, stNil, stTup, mB, mP, mO, look, lookA, asBl, asInt, vAdd, vSub, vMul, vFdiv, vMod, vCmp, vIs, isNon, vAugAdd, fApp, fExt, fMs, fMn, List.getElem?_cons_zero, List.getElem?_cons_succ, List.getElem?_nil, List.set_cons_zero, List.set_cons_succ, List.length_cons, List.length_nil, Option.bind_some, Option.map_some, if_true, if_false, reduceIte, List.nil_append, List.cons_append, List.append_nil, resOf, Nat.reduceAdd, Nat.reduceEqDiff, Nat.reduceLT, Nat.reduceLeDiff, Int.reduceLT, Int.reduceLE, Int.reduceNeg, and_self, true_and, and_true, decide_true, decide_false, Bool.false_eq_true, Bool.not_true, Bool.not_false, Int.reduceAbs, Int.natAbs_neg, or_true, true_or, vIx, vLen, vAbs, vSum, vMax, vMin, decide_eq_true_eq, Bool.not_eq_true, vEq_int, c1, hz0, hnon, List.length_map, c3'])]
      simp only [loE, fSeq, fAsg, fAsgN, fRet, fRetO, fExpr, fTo, fPar2, fPar3, fAug, fIf, fBin, fBinT, fTru, fAnd, fOr, fNot, fAndV, fOrV, fNotV, fNeg, fName, fPeek, fD, fN, fLst, fTup, fCons, fCall, fCallN, fDef, fFld, fInt, fSl, fIt, fItA, fStuck, fCv, fCn, fCd, stN, stCons, stNil, stTup, mB, mP, mO, look, lookA, asBl, asInt, vAdd, vSub, vMul, vFdiv, vMod, vCmp, vIs, isNon, vAugAdd, fApp, fExt, fMs, fMn, List.getElem?_cons_zero, List.getElem?_cons_succ, List.getElem?_nil, List.set_cons_zero, List.set_cons_succ, List.length_cons, List.length_nil, Option.bind_some, Option.map_some, if_true, if_false, reduceIte, List.nil_append, List.cons_append, List.append_nil, resOf, Nat.reduceAdd, Nat.reduceEqDiff, Nat.reduceLT, Nat.reduceLeDiff, Int.reduceLT, Int.reduceLE, Int.reduceNeg, and_self, true_and, and_true, decide_true, decide_false, Bool.false_eq_true, Bool.not_true, Bool.not_false, Int.reduceAbs, Int.natAbs_neg, or_true, true_or, vIx, vLen, vAbs, vSum, vMax, vMin, decide_eq_true_eq, Bool.not_eq_true, e2, Int.reduceNeg])]
    refine ⟨false, [q], [t], ?_, .cons hpt .nil, by simp, fun z hz => by rw [List.mem_singleton.mp hz]; exact hqok, by have := List.length_pos_iff.mpr hne; simp only [List.length_cons, List.length_nil]; omega, ?_⟩
    · rw [lo_end l ps f n ts turn a b c d t (by omega)]
      rfl
    · rw [if_pos ⟨rfl, rfl⟩]
      rcases hps with ⟨k, rfl⟩ | k
      · rw [k]
        rfl
      · rw [k]
        rw [k] at hm
        cases q with
        | many => exact absurd ⟨rfl, rfl⟩ hm.1
        | marks ms => rfl
  · have hcond : fAnd (fBinT (vEq false) (fD (fBin vMod (fPeek 1) (fD (mP (.int 3))))) (fD (mP (.int 0)))) (fAnd (fBinT (vIs false) (fD (fBin vIx (fPeek 3) (fD (mP (.int 0))))) (fD (mP .non))) (fBinT vLt (fD (fCall vLen (fCons (fPeek 3) (mP [])))) (fD (mP (.int 3))))) (loE l ps f n ts turn a b c d e) = .ok false (loE l ps f n ts turn a b c d e) := by
      by_cases c1 : n % 3 = 0
      · cases c2 : isMany (ps.head hne) with
        | false =>
          obtain ⟨ds, hnon⟩ : ∃ ds, daP (ps.head hne) = .lst ds := by
            cases hh : ps.head hne with
            | many => rw [hh] at c2; cases c2
            | marks ms => exact ⟨_, rfl⟩
          simp only [loE, fSeq, fAsg, fAsgN, fRet, fRetO, fExpr, fTo, fPar2, fPar3, fAug, fIf, fBin, fBinT, fTru, fAnd, fOr, fNot, fAndV, fOrV, fNotV, fNeg, fName, fPeek, fD, fN, fLst, fTup, fCons, fCall, fCallN, fDef, fFld, fInt, fSl, fIt, fItA, fStuck, fCv, fCn, fCd, stN, stCons, stNil, stTup, mB, mP, mO, look, lookA, asBl, asInt, vAdd, vSub, vMul, vFdiv, vMod, vCmp, vIs, isNon, vAugAdd, fApp, fExt, fMs, fMn, List.getElem?_cons_zero, List.getElem?_cons_succ, List.getElem?_nil, List.set_cons_zero, List.set_cons_succ, List.length_cons, List.length_nil, Option.bind_some, Option.map_some, if_true, if_false, reduceIte, List.nil_append, List.cons_append, List.append_nil, resOf, Nat.reduceAdd, Nat.reduceEqDiff, Nat.reduceLT, Nat.reduceLeDiff, Int.reduceLT, Int.reduceLE, Int.reduceNeg, and_self, true_and, and_true, decide_true, decide_false, Bool.false_eq_true, Bool.not_true, Bool.not_false, Int.reduceAbs, Int.natAbs_neg, or_true, true_or, vIx, vLen, vAbs, vSum, vMax, vMin, decide_eq_true_eq, Bool.not_eq_true, vEq_int, c1, hz0, hnon]
        | true =>
          have hnon : daP (ps.head hne) = .non := by
            cases hh : ps.head hne with
            | many => rfl
            | marks ms => rw [hh] at c2; cases c2
          have c3' : ¬ (ps.length : Int) < 3 := fun h => hc ⟨c1, c2, by omega⟩
          simp only [loE, fSeq, fAsg, fAsgN, fRet, fRetO, fExpr, fTo, fPar2, fPar3, fAug, fIf, fBin, fBinT, fTru, fAnd, fOr, fNot, fAndV, fOrV, fNotV, fNeg, fName, fPeek, fD, fN, fLst, fTup, fCons, fCall, fCallN, fDef, fFld, fInt, fSl, fIt, fItA, fStuck, fCv, fCn, fCd, stN, stCons, stNil, stTup, mB, mP, mO, look, lookA, asBl, asInt, vAdd, vSub, vMul, vFdiv, vMod, vCmp, vIs, isNon, vAugAdd, fApp, fExt, fMs, fMn, List.getElem?_cons_zero, List.getElem?_cons_succ, List.getElem?_nil, List.set_cons_zero, List.set_cons_succ, List.length_cons, List.length_nil, Option.bind_some, Option.map_some, if_true, if_false, reduceIte, List.nil_append, List.cons_append, List.append_nil, resOf, Nat.reduceAdd, Nat.reduceEqDiff, Nat.reduceLT, Nat.reduceLeDiff, Int.reduceLT, Int.reduceLE, Int.reduceNeg, and_self, true_and, and_true, decide_true, decide_false, Bool.false_eq_true, Bool.not_true, Bool.not_false, Int.reduceAbs, Int.natAbs_neg, or_true, true_or, vIx, vLen, vAbs, vSum, vMax, vMin, decide_eq_true_eq, Bool.not_eq_true, vEq_int, c1, hz0, hnon, List.length_map, c3']
      · simp only [loE, fSeq, fAsg, fAsgN, fRet, fRetO, fExpr, fTo, fPar2, fPar3, fAug, fIf, fBin, fBinT, fTru, fAnd, fOr, fNot, fAndV, fOrV, fNotV, fNeg, fName, fPeek, fD, fN, fLst, fTup, fCons, fCall, fCallN, fDef, fFld, fInt, fSl, fIt, fItA, fStuck, fCv, fCn, fCd, stN, stCons, stNil, stTup, mB, mP, mO, look, lookA, asBl, asInt, vAdd, vSub, vMul, vFdiv, vMod, vCmp, vIs, isNon, vAugAdd, fApp, fExt, fMs, fMn, List.getElem?_cons_zero, List.getElem?_cons_succ, List.getElem?_nil, List.set_cons_zero, List.set_cons_succ, List.length_cons, List.length_nil, Option.bind_some, Option.map_some, if_true, if_false, reduceIte, List.nil_append, List.cons_append, List.append_nil, resOf, Nat.reduceAdd, Nat.reduceEqDiff, Nat.reduceLT, Nat.reduceLeDiff, Int.reduceLT, Int.reduceLE, Int.reduceNeg, and_self, true_and, and_true, decide_true, decide_false, Bool.false_eq_true, Bool.not_true, Bool.not_false, Int.reduceAbs, Int.natAbs_neg, or_true, true_or, vIx, vLen, vAbs, vSum, vMax, vMin, decide_eq_true_eq, Bool.not_eq_true, vEq_int, c1]
    have hts1 : ts.length * 1 = ts.length := Nat.mul_one _
    have ej := sJoin_map [47] ts (by simp only [List.length_cons, List.length_nil, Nat.zero_add, Nat.mul_one]; omega)
    have hjl := joinN_len [47] ts
    simp only [List.length_cons, List.length_nil, Nat.zero_add, Nat.mul_one] at hjl
    let lead : Bool := decide (ts.length = 1) || decide (n / 3 % 2 = 1)
    have y1 : vAdd (.str [47]) (.str (joinN [47] ts)) = some (.str ([47] ++ joinN [47] ts)) := if_pos (by simp only [List.length_cons, List.length_nil]; omega)
    have y2 : vAdd (.str []) (.str (joinN [47] ts)) = some (.str ([] ++ joinN [47] ts)) := if_pos (by simp only [List.length_nil]; omega)
    have hbody : (fAsg 11 (fBin vAdd (fD (fIf (fOr (fBinT (vEq false) (fD (fCall vLen (fCons (fPeek 5) (mP [])))) (fD (mP (.int 1)))) (fBinT (vEq false) (fD (fBin vMod (fD (fBin vFdiv (fPeek 1) (fD (mP (.int 3))))) (fD (mP (.int 2))))) (fD (mP (.int 1))))) (mP (.str [47])) (mP (.str [])))) (fD (fMs sJoin (mP (.str [47])) (fCons (fPeek 5) (mP [])))))) (loE l ps f n ts turn a b c d e)
        = .ok .nx (loE l ps f n ts turn a b c d (some (.imm (.str ((if lead then [47] else []) ++ joinN [47] ts))))) := by
      by_cases k1 : ts.length = 1
      · have k1' : (ts.length : Int) = 1 := by omega
        simp only [loE, lead, fAsg, fBin, fD, fIf, fOr, fBinT, fCall, fCons, fPeek, fMs, mB, mP, mO, look, lookA, vLen, List.getElem?_cons_zero, List.getElem?_cons_succ, List.length_map, vEq_int, k1, k1', decide_true, asBl, if_true, Bool.true_or, ej, y1, List.set_cons_zero, List.set_cons_succ, Int.cast_ofNat_Int]
      · have k1' : ¬ (ts.length : Int) = 1 := by omega
        by_cases k2 : n / 3 % 2 = 1
        · simp only [loE, lead, fAsg, fBin, fD, fIf, fOr, fBinT, fCall, fCons, fPeek, fMs, mB, mP, mO, look, lookA, vLen, vFdiv, vMod, Int.reduceLT, and_self, List.getElem?_cons_zero, List.getElem?_cons_succ, List.length_map, vEq_int, k1, k1', k2, decide_true, decide_false, asBl, if_true, if_false, Bool.false_eq_true, Bool.or_true, ej, y1, List.set_cons_zero, List.set_cons_succ]
        · simp only [loE, lead, fAsg, fBin, fD, fIf, fOr, fBinT, fCall, fCons, fPeek, fMs, mB, mP, mO, look, lookA, vLen, vFdiv, vMod, Int.reduceLT, and_self, List.getElem?_cons_zero, List.getElem?_cons_succ, List.length_map, vEq_int, k1, k1', k2, decide_true, decide_false, asBl, if_true, if_false, Bool.false_eq_true, Bool.or_false, ej, y2, List.set_cons_zero, List.set_cons_succ]
    rw [fSeq_nx (ρ' := loE l ps f n ts turn a b c d (some (.imm (.str ((if lead then [47] else []) ++ joinN [47] ts))))) (by rw [fIf_f hcond]; exact hbody)]
    refine ⟨lead, qs, ts, ?_, hall, hqs, hqo, by omega, ?_⟩
    · rw [lo_end l ps f n ts turn a b c d _ (by rw [List.length_append]; cases lead <;> simp only [List.length_cons, List.length_nil, if_true, if_false, Bool.false_eq_true] <;> omega)]
      rfl
    · rw [if_neg, hsq]
      · rfl
      · rintro ⟨k1, k2⟩
        have : decide (ts.length = 1) = true := by rw [decide_eq_true_eq, ← hx.2.2]; exact k2
        simp only [lead, this, Bool.true_or] at k1
        cases k1
end Kb
namespace Kb
open Vl
open L2 (ixN atI)
abbrev rdF (w : List Nat) (k : Nat) : List (PySem.Str × Da) := [("whole", .str w), ("place", .int k)]
theorem rd_whole (w : List Nat) (k : Nat) : List.lookup ("whole" : PySem.Str) (rdF w k) = some (.str w) := rfl
theorem rd_place (w : List Nat) (k : Nat) : List.lookup ("place" : PySem.Str) (rdF w k) = some (.int k) := rfl
theorem rd_put (w : List Nat) (k k' : Nat) : putG "place" (.int k') (rdF w k) = rdF w k' := rfl
theorem rd_no (w : List Nat) (k : Nat) : List.lookup ("here" : PySem.Str) (rdF w k) = none ∧ List.lookup ("take" : PySem.Str) (rdF w k) = none ∧ List.lookup ("one_of" : PySem.Str) (rdF w k) = none := ⟨rfl, rfl, rfl⟩
theorem fldO_eq {c f : PySem.Str} {i : Nat} {ρ : Env} {a : Option Nat} {gs : List (PySem.Str × Da)} {d : Da} (h : ρ[i]? = some (some (.obj a c gs))) (hl : gs.lookup f = some d) : fFldO c f i ρ = .ok d ρ := by
  unfold fFldO
  rw [h]
  simp only [if_true, hl, mO]
theorem io_eq {c : PySem.Str} {F : List (PySem.Str × Da) → List Da → Option (Da × List (PySem.Str × Da))} {i : Nat} {fa : EM (List Da)} {ρ : Env} {a : Option Nat} {gs gs' : List (PySem.Str × Da)} {ds : List Da} {d : Da} (h : ρ[i]? = some (some (.obj a c gs))) (ha : fa ρ = .ok ds ρ) (hF : F gs ds = some (d, gs')) :
    fIO c F i fa ρ = .ok d (ρ.set i (some (.obj a c gs'))) := by
  unfold fIO
  rw [h]
  simp only [mB, ha, h, if_true, hF]
theorem mio_eq {c m : PySem.Str} {F : List (PySem.Str × Da) → List Da → Option (Da × List (PySem.Str × Da))} {i : Nat} {fa : EM (List Da)} {ρ : Env} {a : Option Nat} {gs gs' : List (PySem.Str × Da)} {ds : List Da} {d : Da} (h : ρ[i]? = some (some (.obj a c gs))) (hm : gs.lookup m = none) (ha : fa ρ = .ok ds ρ) (hF : F gs ds = some (d, gs')) :
    fMIO c m F i fa ρ = .ok d (ρ.set i (some (.obj a c gs'))) := by
  unfold fMIO
  rw [h]
  simp only [hm, and_self, if_true]
  exact io_eq h ha hF
theorem fldAug_eq {c f : PySem.Str} {i : Nat} {fe : EM Da} {ρ : Env} {a : Option Nat} {gs : List (PySem.Str × Da)} {n m : Int} (h : ρ[i]? = some (some (.obj a c gs))) (hl : gs.lookup f = some (.int n)) (he : fe ρ = .ok (.int m) ρ) (hg : gs.length < 1000) :
    fFldAug c f i fe ρ = .ok .nx (ρ.set i (some (.obj a c (putG f (.int (n + m)) gs)))) := by
  unfold fFldAug
  rw [h]
  simp only [if_true, hl, mB, he, h, hg, and_self]
abbrev rdC (a : Option Nat) (w : List Nat) (k : Nat) : Option Ce := some (.obj a "Reader" (rdF w k))
theorem aug1_eq {i : Nat} {a : Option Nat} {w : List Nat} {k : Nat} {ρ : Env} (h : ρ[i]? = some (rdC a w k)) : fFldAug "Reader" "place" i (mP (.int 1)) ρ = .ok .nx (ρ.set i (rdC a w (k + 1))) :=
  fldAug_eq h (rd_place w k) rfl (show (2 : Nat) < 1000 by decide)
theorem aug2_eq {i : Nat} {a : Option Nat} {w : List Nat} {k : Nat} {ρ : Env} (h : ρ[i]? = some (rdC a w k)) : fFldAug "Reader" "place" i (mP (.int 2)) ρ = .ok .nx (ρ.set i (rdC a w (k + 2))) :=
  fldAug_eq h (rd_place w k) rfl (show (2 : Nat) < 1000 by decide)
theorem here_eq {w : List Nat} (hw : w.length ≤ 16777216) (k : Nat) : f_Reader_here (rdF w k) [] = some (.str ((w.drop k).take 1), rdF w k) := by
  have e : f_Reader_here (rdF w k) [] = resIO "Reader" (b_Reader_here [rdC (some 0) w k]) := rfl
  have h0 : ([rdC (some 0) w k] : Env)[0]? = some (rdC (some 0) w k) := rfl
  have e1 := fldO_eq h0 (rd_whole w k)
  have e2 := fldO_eq h0 (rd_place w k)
  have ec : cutD w (some ((k : Nat) : Int)) (some ((k : Int) + 1)) = (w.drop k).take 1 := by
    have : (k : Int) + 1 = ((k + 1 : Nat) : Int) := by omega
    rw [this, cutD_nat]
    congr 1
    omega
  have eb : b_Reader_here [rdC (some 0) w k] = .ok (.rt (.str ((w.drop k).take 1))) [rdC (some 0) w k] := by
    simp only [b_Reader_here, fRet, fSl, fD, fInt, fBin, mB, mP, mO, e1, e2, look, asInt, Option.map_some, vAdd, vSlS, hw, if_true, ec]
  rw [e, eb]
  rfl
theorem take_yes {w r : List Nat} {k c : Nat} (hw : w.length ≤ 16777216) (h : w.drop k = c :: r) : f_Reader_take (rdF w k) [.str [c]] = some (.bl true, rdF w (k + 1)) := by
  have e : f_Reader_take (rdF w k) [.str [c]] = resIO "Reader" (b_Reader_take [rdC (some 0) w k, some (.imm (.str [c]))]) := rfl
  have h0 : ([rdC (some 0) w k, some (.imm (.str [c]))] : Env)[0]? = some (rdC (some 0) w k) := rfl
  have e1 := mio_eq (fa := mP []) h0 (rd_no w k).1 rfl (here_eq hw k)
  rw [h] at e1
  have e2 := aug1_eq h0
  have eb : b_Reader_take [rdC (some 0) w k, some (.imm (.str [c]))] = .ok (.rt (.bl true)) [rdC (some 0) w (k + 1), some (.imm (.str [c]))] := by
    unfold b_Reader_take
    rw [fSeq_nx (ρ' := [rdC (some 0) w k, some (.imm (.str [c]))]) ?_, fSeq_nx e2]
    · rfl
    · rw [fIf_f (ρ' := [rdC (some 0) w k, some (.imm (.str [c]))])]
      · rfl
      · simp only [fBinT, fBin, fD, fPeek, mB, mP, mO, e1, List.set_cons_zero, List.getElem?_cons_zero, List.getElem?_cons_succ, look, List.take_succ_cons, List.take_zero, vNe_str, decide_true, Bool.not_true, asBl]
  rw [e, eb]
  rfl
theorem take_no {w : List Nat} {k c : Nat} (hw : w.length ≤ 16777216) (h : (w.drop k).head? ≠ some c) : f_Reader_take (rdF w k) [.str [c]] = some (.bl false, rdF w k) := by
  have e : f_Reader_take (rdF w k) [.str [c]] = resIO "Reader" (b_Reader_take [rdC (some 0) w k, some (.imm (.str [c]))]) := rfl
  have h0 : ([rdC (some 0) w k, some (.imm (.str [c]))] : Env)[0]? = some (rdC (some 0) w k) := rfl
  have e1 := mio_eq (fa := mP []) h0 (rd_no w k).1 rfl (here_eq hw k)
  have hne : ¬ (w.drop k).take 1 = [c] := by
    intro h2
    apply h
    cases hd : w.drop k with
    | nil => rw [hd] at h2; cases h2
    | cons x r =>
      rw [hd] at h2
      cases h2
      rfl
  have eb : b_Reader_take [rdC (some 0) w k, some (.imm (.str [c]))] = .ok (.rt (.bl false)) [rdC (some 0) w k, some (.imm (.str [c]))] := by
    unfold b_Reader_take
    rw [fSeq_rt (ρ' := [rdC (some 0) w k, some (.imm (.str [c]))]) (d := .bl false)]
    rw [fIf_t (ρ' := [rdC (some 0) w k, some (.imm (.str [c]))])]
    · rfl
    · simp only [fBinT, fBin, fD, fPeek, mB, mP, mO, e1, List.set_cons_zero, List.getElem?_cons_zero, List.getElem?_cons_succ, look, vNe_str, hne, decide_false, Bool.not_false, asBl]
  rw [e, eb]
  rfl
theorem one_eq {w r ss : List Nat} {k c : Nat} (hw : w.length ≤ 16777216) (h : w.drop k = c :: r) (hc : c ∈ ss) : f_Reader_one_of (rdF w k) [.str ss] = some (.str [c], rdF w (k + 1)) := by
  have e : f_Reader_one_of (rdF w k) [.str ss] = resIO "Reader" (b_Reader_one_of [rdC (some 0) w k, some (.imm (.str ss)), none]) := rfl
  have h0 : ([rdC (some 0) w k, some (.imm (.str ss)), none] : Env)[0]? = some (rdC (some 0) w k) := rfl
  have e1 := mio_eq (fa := mP []) h0 (rd_no w k).1 rfl (here_eq hw k)
  rw [h] at e1
  have h1 : ([rdC (some 0) w k, some (.imm (.str ss)), some (.imm (.str [c]))] : Env)[0]? = some (rdC (some 0) w k) := rfl
  have e2 := aug1_eq h1
  have eb : b_Reader_one_of [rdC (some 0) w k, some (.imm (.str ss)), none] = .ok (.rt (.str [c])) [rdC (some 0) w (k + 1), some (.imm (.str ss)), some (.imm (.str [c]))] := by
    unfold b_Reader_one_of
    rw [fSeq_nx (ρ' := [rdC (some 0) w k, some (.imm (.str ss)), some (.imm (.str [c]))]) (by
        simp only [fAsg, mB, e1, List.take_succ_cons, List.take_zero]
        rfl),
      fSeq_nx (ρ' := [rdC (some 0) w k, some (.imm (.str ss)), some (.imm (.str [c]))]) (by
        have hne : ¬ [c] = [] := by simp
        rw [fIf_f (ρ' := [rdC (some 0) w k, some (.imm (.str ss)), some (.imm (.str [c]))])]
        · rfl
        · simp only [fOr, fBinT, fBin, fD, fPeek, mB, mP, mO, List.getElem?_cons_zero, List.getElem?_cons_succ, look, vEq_str, hne, decide_false, asBl, Bool.false_eq_true, if_false, vNotin_one, hc, decide_true, Bool.not_true]),
      fSeq_nx e2]
    rfl
  rw [e, eb]
  rfl
end Kb
namespace Kb
open Vl
open L2 (ixN atI)
theorem index_all : ∀ c ∈ sg, PySem.Builtin.Str.occurrences (S sg) (S [c]) 0 (S sg).length 1 = [idx c] := by decide +kernel
theorem index_eq {c : Nat} (h : c ∈ sg) : sIndex sg [.str [c]] = some (.int (idx c)) := by
  have := index_all c h
  simp only [sIndex, this]
theorem cutD_from (m : List Nat) (k : Nat) : cutD m (some (k : Int)) none = m.drop k := by
  unfold cutD
  rw [HT.sIx_none, HT.sIx_nat]
  by_cases h : k ≤ m.length
  · rw [Nat.min_eq_left h, List.take_of_length_le (by rw [List.length_drop]; omega)]
  · rw [Nat.min_eq_right (by omega), List.drop_length, List.drop_of_length_le (by omega)]
    simp
def kS (c : Nat) : L2.Key := .inr (S [c])
theorem kS_inj {c d : Nat} : kS c = kS d ↔ c = d := by
  constructor
  · intro h
    have h1 : S [c] = S [d] := Sum.inr.inj h
    have h2 : ([c] : List Nat).toArray = [d].toArray := congrArg PySem.Str.cps h1
    have := congrArg Array.toList h2
    simpa using this
  · rintro rfl
    rfl
def hk (kvs : List (L2.Key × Da)) (k : L2.Key) : Bool := kvs.any fun kv => decide (kv.1 = k)
theorem valD_hk (kvs : List (L2.Key × Da)) (k : L2.Key) : (valD kvs k).isSome = hk kvs k := by
  unfold valD hk
  rw [Option.isSome_map]
  induction kvs with
  | nil => rfl
  | cons x kvs ih =>
    rw [List.find?_cons, List.any_cons]
    cases decide (x.1 = k) with
    | true => rfl
    | false => simpa using ih
theorem hk_put (kvs : List (L2.Key × Da)) (k k' : L2.Key) (v : Da) : hk (putD kvs k v) k' = (decide (k = k') || hk kvs k') := by
  unfold putD
  split
  · rename_i h
    have e : hk (kvs.map fun kv => if kv.1 = k then (kv.1, v) else kv) k' = hk kvs k' := by
      unfold hk
      rw [List.any_map]
      congr 1
      funext kv
      simp only [Function.comp]
      split <;> rfl
    rw [e]
    by_cases hk' : k = k'
    · subst hk'
      have h' : hk kvs k = true := h
      rw [h']
      simp
    · simp [hk']
  · unfold hk
    rw [List.any_append, Bool.or_comm]
    simp
theorem len_put (kvs : List (L2.Key × Da)) (k : L2.Key) (v : Da) : (putD kvs k v).length ≤ kvs.length + 1 := by
  unfold putD
  split <;> simp
abbrev bkE (w : List Nat) (k : Nat) (less : Bool) (kvs : List (L2.Key × Da)) (a b c d e : Option Ce) : Env := [rdC (some 0) w k, some (.imm (.bl less)), some (.dic kvs), a, b, c, d, e]
theorem put_loop (w : List Nat) (k : Nat) (less : Bool) (a b c d : Option Ce) : ∀ (l : List Nat) (kvs : List (L2.Key × Da)) (e : Option Ce), kvs.length + l.length ≤ 10000000 → ∃ kvs' e', forL (stN 7) p1_brackets_of (l.map fun c => .str [c]) (bkE w k less kvs a b c d e) = .ok .nx (bkE w k less kvs' a b c d e') ∧ kvs'.length ≤ kvs.length + l.length ∧ ∀ s, hk kvs' (kS s) = (decide (s ∈ l) || hk kvs (kS s))
  | [], kvs, e, _ => ⟨kvs, e, rfl, by simp, fun s => by simp⟩
  | x :: l, kvs, e, hl => by
    rw [List.length_cons] at hl
    have h0 : kvs.length < 16777216 := by omega
    have h1 := len_put kvs (kS x) (.bl true)
    obtain ⟨kvs', e', h2, h3, h4⟩ := put_loop w k less a b c d l (putD kvs (kS x) (.bl true)) (some (.imm (.str [x]))) (by omega)
    refine ⟨kvs', e', ?_, by rw [List.length_cons]; omega, fun s => ?_⟩
    · rw [List.map_cons, forL_cons (ρ1 := bkE w k less kvs a b c d (some (.imm (.str [x])))) (ρ2 := bkE w k less (putD kvs (kS x) (.bl true)) a b c d (some (.imm (.str [x])))) rfl ?_, h2]
      simp only [p1_brackets_of, bkE, fDput, fName, mB, mP, List.getElem?_cons_zero, List.getElem?_cons_succ, dKey, h0, if_true, List.set_cons_zero, List.set_cons_succ]
      rfl
    · rw [h4, hk_put]
      simp only [List.mem_cons]
      have : decide (kS x = kS s) = decide (s = x) := decide_eq_decide.mpr ⟨fun h => (kS_inj.mp h).symm, fun h => kS_inj.mpr h.symm⟩
      rw [this]
      by_cases h5 : s = x <;> by_cases h6 : s ∈ l <;> simp [h5, h6]
theorem drop_mem {c d : Nat} (hd : d ∈ sg) (h : idx c ≤ idx d) : d ∈ sg.drop (idx c) := by
  have hl : idx d < sg.length := idx_lt hd
  have e := sg_idx hd
  rw [List.getElem?_eq_getElem hl] at e
  simp only [Option.some.injEq] at e
  rw [List.mem_drop_iff_getElem]
  exact ⟨idx d - idx c, by omega, by
    have : idx c + (idx d - idx c) = idx d := by omega
    simp only [this]
    exact e⟩
theorem slice_mem {i j s : Nat} (hs : s ∈ sg) : s ∈ (sg.drop i).take (j + 1 - i) ↔ i ≤ idx s ∧ idx s ≤ j := by
  constructor
  · intro h
    obtain ⟨n, hn, e⟩ := List.mem_iff_getElem.mp h
    rw [List.length_take, List.length_drop] at hn
    rw [List.getElem_take, List.getElem_drop] at e
    have hl : i + n < 27 := by rw [sg_len] at hn; omega
    have := idx_all (i + n) hl s (by rw [List.getElem?_eq_getElem (by rw [sg_len]; omega), e])
    omega
  · rintro ⟨h1, h2⟩
    have hl : idx s < sg.length := idx_lt hs
    have e := sg_idx hs
    rw [List.getElem?_eq_getElem hl] at e
    simp only [Option.some.injEq] at e
    rw [List.mem_iff_getElem]
    refine ⟨idx s - i, by rw [List.length_take, List.length_drop]; omega, ?_⟩
    rw [List.getElem_take, List.getElem_drop]
    have : i + (idx s - i) = idx s := by omega
    simp only [this]
    exact e
theorem drop_next {w r : List Nat} {k c : Nat} (h : w.drop k = c :: r) : w.drop (k + 1) = r := by
  rw [← List.drop_drop, h]
  rfl
/-- the first sign behind an item -/
def nd45 (r : List Nat) : Prop := r.head? ≠ some 45
/-- one item within brackets -/
theorem bk_item {w r : List Nat} {k : Nat} {less : Bool} {kvs : List (L2.Key × Da)} {i : Itm} (b c d e : Option Ce) (begun : Bool) (hw : w.length ≤ 16777216) (h : w.drop k = itmT i ++ r) (hi : OkItm i) (hr : nd45 r) (hl : kvs.length ≤ 1000000) :
    ∃ kvs' b' c' d' e', p3_brackets_of (bkE w k less kvs (some (.imm (.bl begun))) b c d e) = .ok .nx (bkE w (k + (itmT i).length) less kvs' (some (.imm (.bl true))) b' c' d' e') ∧ kvs'.length ≤ kvs.length + 27 ∧ ∀ s ∈ sg, hk kvs' (kS s) = (itmIn i s || hk kvs (kS s)) := by
  have fin : ∀ (k' : Nat) (c0 d0 : Nat) (b c d e : Option Ce), (∀ s ∈ sg, itmIn i s = decide (idx c0 ≤ idx s ∧ idx s ≤ idx d0)) → ∃ kvs' e', fFor (fIt itemsS (fSl vSlS (fD (mP (.str c_SIGNS))) (fInt (fName 5)) (fInt (fBin vAdd (fPeek 6) (fD (mP (.int 1))))))) (stN 7) p1_brackets_of (bkE w k' less kvs (some (.imm (.bl true))) b (some (.imm (.int (idx c0)))) (some (.imm (.int (idx d0)))) e)
      = .ok .nx (bkE w k' less kvs' (some (.imm (.bl true))) b (some (.imm (.int (idx c0)))) (some (.imm (.int (idx d0)))) e') ∧ kvs'.length ≤ kvs.length + 27 ∧ ∀ s ∈ sg, hk kvs' (kS s) = (itmIn i s || hk kvs (kS s)) := by
    intro k' c0 d0 b c d e hh
    have ec : cutD sg (some ((idx c0 : Nat) : Int)) (some (((idx d0 : Nat) : Int) + 1)) = (sg.drop (idx c0)).take (idx d0 + 1 - idx c0) := by
      have : ((idx d0 : Nat) : Int) + 1 = ((idx d0 + 1 : Nat) : Int) := by omega
      rw [this, cutD_nat]
    have hlen : ((sg.drop (idx c0)).take (idx d0 + 1 - idx c0)).length ≤ 27 := by
      rw [List.length_take, List.length_drop, sg_len]
      omega
    obtain ⟨kvs', e', h1, h2, h3⟩ := put_loop w k' less (some (.imm (.bl true))) b (some (.imm (.int (idx c0)))) (some (.imm (.int (idx d0)))) ((sg.drop (idx c0)).take (idx d0 + 1 - idx c0)) kvs e (by omega)
    refine ⟨kvs', e', ?_, by omega, fun s hs => ?_⟩
    · rw [← h1]
      have hsl : sg.length ≤ 16777216 := by rw [sg_len]; decide
      simp only [bkE, fFor, fIt, fSl, fD, fInt, fBin, fName, fPeek, mB, mP, mO, look, asInt, Option.map_some, vAdd, List.getElem?_cons_zero, List.getElem?_cons_succ, vSlS, show (c_SIGNS : List Nat) = sg from rfl, hsl, if_true, ec, itemsS]
    · rw [h3 s, hh s hs]
      congr 1
      exact decide_eq_decide.mpr (slice_mem hs)
  have h0 : ∀ (kvs : List (L2.Key × Da)) (k : Nat) (a b c d e : Option Ce), (bkE w k less kvs a b c d e)[0]? = some (rdC (some 0) w k) := fun _ _ _ _ _ _ _ => rfl
  unfold p3_brackets_of
  rw [fSeq_nx (ρ' := bkE w k less kvs (some (.imm (.bl true))) b c d e) (by simp only [bkE, fAsg, mB, mP, List.set_cons_zero, List.set_cons_succ])]
  cases i with
  | one x =>
    have hx : x ∈ sg := hi
    have h1 : w.drop k = x :: r := h
    have h2 := drop_next h1
    rw [fSeq_nx (ρ' := bkE w (k + 1) less kvs (some (.imm (.bl true))) (some (.imm (.str [x]))) c d e) (by
        have := mio_eq (fa := fCons (mP (.str c_SIGNS)) (mP [])) (h0 kvs k (some (.imm (.bl true))) b c d e) (rd_no w k).2.2 rfl (one_eq hw h1 (show x ∈ c_SIGNS from hx))
        simp only [fAsg, mB, this]
        rfl),
      fSeq_nx (ρ' := bkE w (k + 1) less kvs (some (.imm (.bl true))) (some (.imm (.str [x]))) (some (.imm (.int (idx x)))) d e) (by
        have := index_eq hx
        simp only [bkE, fAsg, fMs, fCons, fPeek, mB, mP, mO, lookA, look, List.getElem?_cons_zero, List.getElem?_cons_succ, show (c_SIGNS : List Nat) = sg from rfl, this, List.set_cons_zero, List.set_cons_succ]),
      fSeq_nx (ρ' := bkE w (k + 1) less kvs (some (.imm (.bl true))) (some (.imm (.str [x]))) (some (.imm (.int (idx x)))) (some (.imm (.int (idx x)))) e) (by
        have := mio_eq (fa := fCons (mP (.str [45])) (mP [])) (h0 kvs (k + 1) (some (.imm (.bl true))) (some (.imm (.str [x]))) (some (.imm (.int (idx x)))) d e) (rd_no w (k + 1)).2.1 rfl (take_no hw (by rw [h2]; exact hr))
        have hf : fIf (fTru (fD (fMIO "Reader" "take" f_Reader_take 0 (fCons (mP (.str [45])) (mP []))))) (fMs sIndex (mP (.str c_SIGNS)) (fCons (fD (fMIO "Reader" "one_of" f_Reader_one_of 0 (fCons (fSl vSlS (fD (mP (.str c_SIGNS))) (fInt (fName 5)) (mP none)) (mP [])))) (mP []))) (fName 5) (bkE w (k + 1) less kvs (some (.imm (.bl true))) (some (.imm (.str [x]))) (some (.imm (.int (idx x)))) d e)
          = .ok (.int (idx x)) (bkE w (k + 1) less kvs (some (.imm (.bl true))) (some (.imm (.str [x]))) (some (.imm (.int (idx x)))) d e) := by
          rw [fIf_f (ρ' := bkE w (k + 1) less kvs (some (.imm (.bl true))) (some (.imm (.str [x]))) (some (.imm (.int (idx x)))) d e)]
          · rfl
          · simp only [fTru, fD, mB, this, mP, mO, look, vTru]
            rfl
        simp only [fAsg, mB, hf]
        rfl)]
    obtain ⟨kvs', e', f1, f2, f3⟩ := fin (k + 1) x x (some (.imm (.str [x]))) none none e (fun s hs => by
      show decide (s = x) = _
      exact decide_eq_decide.mpr ⟨fun h => by rw [h]; exact ⟨Nat.le_refl _, Nat.le_refl _⟩, fun h => idx_inj hs hx (Nat.le_antisymm h.2 h.1)⟩)
    exact ⟨kvs', _, _, _, e', f1, f2, f3⟩
  | two x y =>
    obtain ⟨hx, hy, hxy⟩ := hi
    have h1 : w.drop k = x :: 45 :: y :: r := h
    have h2 := drop_next h1
    have h3 := drop_next h2
    rw [fSeq_nx (ρ' := bkE w (k + 1) less kvs (some (.imm (.bl true))) (some (.imm (.str [x]))) c d e) (by
        have := mio_eq (fa := fCons (mP (.str c_SIGNS)) (mP [])) (h0 kvs k (some (.imm (.bl true))) b c d e) (rd_no w k).2.2 rfl (one_eq hw h1 (show x ∈ c_SIGNS from hx))
        simp only [fAsg, mB, this]
        rfl),
      fSeq_nx (ρ' := bkE w (k + 1) less kvs (some (.imm (.bl true))) (some (.imm (.str [x]))) (some (.imm (.int (idx x)))) d e) (by
        have := index_eq hx
        simp only [bkE, fAsg, fMs, fCons, fPeek, mB, mP, mO, lookA, look, List.getElem?_cons_zero, List.getElem?_cons_succ, show (c_SIGNS : List Nat) = sg from rfl, this, List.set_cons_zero, List.set_cons_succ]),
      fSeq_nx (ρ' := bkE w (k + 1 + 1 + 1) less kvs (some (.imm (.bl true))) (some (.imm (.str [x]))) (some (.imm (.int (idx x)))) (some (.imm (.int (idx y)))) e) (by
        have := mio_eq (fa := fCons (mP (.str [45])) (mP [])) (h0 kvs (k + 1) (some (.imm (.bl true))) (some (.imm (.str [x]))) (some (.imm (.int (idx x)))) d e) (rd_no w (k + 1)).2.1 rfl (take_yes hw h2)
        have hsl : sg.length ≤ 16777216 := by rw [sg_len]; decide
        have this2 := mio_eq (fa := fCons (fSl vSlS (fD (mP (.str c_SIGNS))) (fInt (fName 5)) (mP none)) (mP [])) (h0 kvs (k + 1 + 1) (some (.imm (.bl true))) (some (.imm (.str [x]))) (some (.imm (.int (idx x)))) d e) (rd_no w (k + 1 + 1)).2.2 (ds := [.str (sg.drop (idx x))]) (by
          simp only [bkE, fCons, fSl, fD, fInt, fName, mB, mP, mO, look, asInt, Option.map_some, List.getElem?_cons_zero, List.getElem?_cons_succ, vSlS, show (c_SIGNS : List Nat) = sg from rfl, hsl, if_true, cutD_from]) (one_eq hw h3 (drop_mem hy hxy))
        have hi := index_eq hy
        have hf : fIf (fTru (fD (fMIO "Reader" "take" f_Reader_take 0 (fCons (mP (.str [45])) (mP []))))) (fMs sIndex (mP (.str c_SIGNS)) (fCons (fD (fMIO "Reader" "one_of" f_Reader_one_of 0 (fCons (fSl vSlS (fD (mP (.str c_SIGNS))) (fInt (fName 5)) (mP none)) (mP [])))) (mP []))) (fName 5) (bkE w (k + 1) less kvs (some (.imm (.bl true))) (some (.imm (.str [x]))) (some (.imm (.int (idx x)))) d e)
          = .ok (.int (idx y)) (bkE w (k + 1 + 1 + 1) less kvs (some (.imm (.bl true))) (some (.imm (.str [x]))) (some (.imm (.int (idx x)))) d e) := by
          rw [fIf_t (ρ' := bkE w (k + 1 + 1) less kvs (some (.imm (.bl true))) (some (.imm (.str [x]))) (some (.imm (.int (idx x)))) d e)]
          · generalize hgen : fMIO "Reader" "one_of" f_Reader_one_of 0 (fCons (fSl vSlS (fD (mP (.str c_SIGNS))) (fInt (fName 5)) (mP none)) (mP [])) = G at this2
            simp only [fMs, fCons, fD, mB, mP, mO, this2, lookA, look, show (c_SIGNS : List Nat) = sg from rfl, hi]
            rfl
          · simp only [fTru, fD, mB, this, mP, mO, look, vTru]
            rfl
        simp only [fAsg, mB, hf]
        rfl)]
    obtain ⟨kvs', e', f1, f2, f3⟩ := fin (k + 1 + 1 + 1) x y (some (.imm (.str [x]))) none none e (fun s hs => rfl)
    exact ⟨kvs', _, _, _, e', f1, f2, f3⟩
end Kb
namespace Kb
open Vl
open L2 (ixN atI)
theorem itm_head {i : Itm} (h : OkItm i) : ∃ c t, itmT i = c :: t ∧ c ∈ sg := by
  cases i with
  | one c => exact ⟨c, [], rfl, h⟩
  | two c d => exact ⟨c, [45, d], rfl, h.1⟩
theorem sg_ne {c d : Nat} (h : c ∈ sg) (hd : d ∉ sg) : c ≠ d := fun e => hd (e ▸ h)
theorem n93 : (93 : Nat) ∉ sg := by decide
theorem n45 : (45 : Nat) ∉ sg := by decide
theorem n33 : (33 : Nat) ∉ sg := by decide
theorem n47 : (47 : Nat) ∉ sg := by decide
theorem n63 : (63 : Nat) ∉ sg := by decide
theorem n91 : (91 : Nat) ∉ sg := by decide
theorem bk_loop {w r : List Nat} {less : Bool} (hw : w.length ≤ 16777216) : ∀ (its : List Itm) (k : Nat) (kvs : List (L2.Key × Da)) (begun : Bool) (b c d e : Option Ce) (n : Nat), w.drop k = its.flatMap itmT ++ 93 :: r → (∀ i ∈ its, OkItm i) → (begun = false → its ≠ []) → its.length < n → kvs.length + 27 * its.length ≤ 1000000 →
    ∃ k' kvs' b' c' d' e', whileN p2_brackets_of p3_brackets_of n (bkE w k less kvs (some (.imm (.bl begun))) b c d e) = .ok .nx (bkE w k' less kvs' (some (.imm (.bl true))) b' c' d' e') ∧ w.drop k' = r ∧ ∀ s ∈ sg, hk kvs' (kS s) = (its.any (itmIn · s) || hk kvs (kS s))
  | [], k, kvs, begun, b, c, d, e, n, h, ho, hb, hn, hl => by
    have hb' : begun = true := by
      cases begun with
      | true => rfl
      | false => exact absurd rfl (hb rfl)
    subst hb'
    have h' : w.drop k = 93 :: r := h
    have h0 : (bkE w k less kvs (some (.imm (.bl true))) b c d e)[0]? = some (rdC (some 0) w k) := rfl
    have e1 := mio_eq (fa := fCons (mP (.str [93])) (mP [])) h0 (rd_no w k).2.1 rfl (take_yes hw h')
    refine ⟨k + 1, kvs, b, c, d, e, whileN_stop (by omega) ?_, drop_next h', fun s _ => by simp⟩
    simp only [p2_brackets_of, fOr, fNot, fTru, fD, fPeek, mB, mP, mO, look, bkE, List.getElem?_cons_zero, List.getElem?_cons_succ, vTru, Bool.not_true, Bool.false_eq_true, if_false] at e1 ⊢
    simp only [e1, mB, mP, mO, look, vTru, Bool.not_true, List.set_cons_zero]
  | i :: its, k, kvs, begun, b, c, d, e, n, h, ho, hb, hn, hl => by
    rw [List.length_cons] at hn hl
    rw [List.flatMap_cons, List.append_assoc] at h
    have hi := ho i (List.mem_cons_self ..)
    have hr : nd45 (its.flatMap itmT ++ 93 :: r) := by
      cases its with
      | nil => simp [nd45]
      | cons j its =>
        obtain ⟨x, t, ex, hx⟩ := itm_head (ho j (by simp))
        rw [List.flatMap_cons, ex]
        unfold nd45
        simp only [List.cons_append, List.head?_cons, ne_eq, Option.some.injEq]
        exact sg_ne hx n45
    obtain ⟨kvs1, b1, c1, d1, e1, f1, f2, f3⟩ := bk_item (less := less) (kvs := kvs) b c d e begun hw h hi hr (by omega)
    have hd2 : w.drop (k + (itmT i).length) = its.flatMap itmT ++ 93 :: r := by
      rw [← List.drop_drop, h, List.drop_left]
    cases n with
    | zero => omega
    | succ n =>
      obtain ⟨k', kvs', b', c', d', e', g1, g2, g3⟩ := bk_loop hw its (k + (itmT i).length) kvs1 true b1 c1 d1 e1 n hd2 (fun j hj => ho j (List.mem_cons_of_mem _ hj)) (by simp) (by omega) (by omega)
      refine ⟨k', kvs', b', c', d', e', ?_, g2, fun s hs => ?_⟩
      · rw [whileN_step (ρ' := bkE w k less kvs (some (.imm (.bl begun))) b c d e) ?_ f1, g1]
        cases begun with
        | false => simp only [p2_brackets_of, fOr, fNot, fTru, fD, fPeek, mB, mP, mO, look, bkE, List.getElem?_cons_zero, List.getElem?_cons_succ, vTru, Bool.not_false, if_true]
        | true =>
          obtain ⟨x, t, ex, hx⟩ := itm_head hi
          have h0 : (bkE w k less kvs (some (.imm (.bl true))) b c d e)[0]? = some (rdC (some 0) w k) := rfl
          have e1 := mio_eq (fa := fCons (mP (.str [93])) (mP [])) h0 (rd_no w k).2.1 rfl (take_no hw (by
            rw [h, ex]
            simp only [List.cons_append, List.head?_cons, ne_eq, Option.some.injEq]
            exact sg_ne hx n93))
          simp only [p2_brackets_of, fOr, fNot, fTru, fD, fPeek, mB, mP, mO, look, bkE, List.getElem?_cons_zero, List.getElem?_cons_succ, vTru, Bool.not_true, Bool.false_eq_true, if_false] at e1 ⊢
          simp only [e1, mB, mP, mO, look, vTru, Bool.not_false, List.set_cons_zero]
      · rw [g3 s hs, f3 s hs, List.any_cons]
        cases itmIn i s <;> cases its.any (itmIn · s) <;> cases hk kvs (kS s) <;> rfl
theorem brackets_eq {w r : List Nat} {k : Nat} {less : Bool} {its : List Itm} (hw : w.length ≤ 16777216) (h : w.drop k = (if less then [33] else []) ++ (its.flatMap itmT ++ 93 :: r)) (hne : its ≠ []) (ho : ∀ i ∈ its, OkItm i) (hl : its.length ≤ 1000) :
    ∃ k', f_brackets_of (rdF w k) [] = some (.str (formD (.br less its)), rdF w k') ∧ w.drop k' = r := by
  have e : f_brackets_of (rdF w k) [] = resIO "Reader" (b_brackets_of [rdC (some 0) w k, none, none, none, none, none, none, none]) := rfl
  have h0 : ([rdC (some 0) w k, none, none, none, none, none, none, none] : Env)[0]? = some (rdC (some 0) w k) := rfl
  obtain ⟨i, its', rfl⟩ := List.exists_cons_of_ne_nil hne
  obtain ⟨x, t, ex, hx⟩ := itm_head (ho i (by simp))
  obtain ⟨k1, hd, et⟩ : ∃ k1, w.drop k1 = (i :: its').flatMap itmT ++ 93 :: r ∧ f_Reader_take (rdF w k) [.str [33]] = some (.bl less, rdF w k1) := by
    cases less with
    | true => exact ⟨k + 1, drop_next h, take_yes hw h⟩
    | false =>
      refine ⟨k, h, take_no hw ?_⟩
      rw [h]
      simp only [Bool.false_eq_true, if_false, List.nil_append, List.flatMap_cons, ex, List.cons_append, List.head?_cons, ne_eq, Option.some.injEq]
      exact sg_ne hx n33
  have e1 := mio_eq (fa := fCons (mP (.str [33])) (mP [])) h0 (rd_no w k).2.1 rfl et
  obtain ⟨k', kvs', b', c', d', e', g1, g2, g3⟩ := bk_loop (less := less) hw (i :: its') k1 [] false none none none none 1000000000 hd ho (by simp) (by omega) (by simp only [List.length_cons, List.length_nil] at hl ⊢; omega)
  refine ⟨k', ?_, g2⟩
  have hs27 : (sg.filter fun s => (i :: its').any (itmIn · s) != less).length ≤ 27 := List.length_filter_le _ _
  have ec := compL_pure (vs := [7]) (st := stN 7) (t := p4_brackets_of) (e := p5_brackets_of) (g := fun c : Nat => Da.str [c]) (b := fun s => (i :: its').any (itmIn · s) != less) (y := fun c => Da.str [c]) sg []
    (bkE w k' less kvs' (some (.imm (.bl true))) b' c' d' e') (ρw := bkE w k' less kvs' (some (.imm (.bl true))) b' c' d' none) rfl (fun s hs => by
      refine ⟨_, rfl, ?_, fun _ => rfl, rfl⟩
      have := g3 s hs
      have h00 : hk [] (kS s) = false := rfl
      rw [h00, Bool.or_false] at this
      have hv : (valD kvs' (.inr ⟨([s] : List Nat).toArray⟩)).isSome = (i :: its').any (itmIn · s) := by rw [← this]; exact valD_hk kvs' (kS s)
      simp only [p4_brackets_of, bkE, fBinT, fBin, fD, fInD, fName, fPeek, mB, mP, mO, look, List.getElem?_cons_zero, List.getElem?_cons_succ, List.set_cons_zero, List.set_cons_succ, dKey, hv, Bool.false_eq_true, if_false, vNe_bl, asBl]
      generalize (i :: its').any (itmIn · s) = z
      cases z <;> cases less <;> rfl) (by rw [sg_len]; decide)
  rw [List.nil_append] at ec
  have ed : formD (.br less (i :: its')) = sg.filter fun s => (i :: its').any (itmIn · s) != less := rfl
  rw [e, ed]
  generalize (sg.filter fun s => (i :: its').any (itmIn · s) != less) = m at ec hs27
  have ej := sJoin_one m (by omega)
  have eb : b_brackets_of [rdC (some 0) w k, none, none, none, none, none, none, none] = .ok (.rt (.str m)) (bkE w k' less kvs' (some (.imm (.bl true))) b' c' d' none) := by
    unfold b_brackets_of
    rw [fSeq_nx (ρ' := bkE w k1 less [] none none none none none) (by
        simp only [fPar2, fCv, fCd, mB, e1, mP]
        rfl),
      fSeq_nx (ρ' := bkE w k1 less [] (some (.imm (.bl false))) none none none none) (by rfl), fSeq_nx g1]
    simp only [fRet, fMs, fCons, fD, fN, fComp, fIt, itemsS, mB, mP, mO, show (c_SIGNS : List Nat) = sg from rfl, ec, lookA, look, ej]
  rw [eb]
  rfl
/-- one mark -/
theorem mark_of_eq {w r : List Nat} {k : Nat} {F : Form} {st : Bool} (hw : w.length ≤ 16777216) (h : w.drop k = formT F ++ r) (ho : OkForm F) (hst : F = .star → st = false) (hl : (formT F).length ≤ 100) :
    ∃ k', f_mark_of (rdF w k) [.bl st] = some (.str (formD F), rdF w k') ∧ w.drop k' = r := by
  have e : f_mark_of (rdF w k) [.bl st] = resIO "Reader" (b_mark_of [rdC (some 0) w k, some (.imm (.bl st))]) := rfl
  have h0 : ([rdC (some 0) w k, some (.imm (.bl st))] : Env)[0]? = some (rdC (some 0) w k) := rfl
  rw [e]
  by_cases hs : F = .star
  · subst hs
    have h' : w.drop k = 42 :: r := h
    have hst' := hst rfl
    subst hst'
    have e1 := mio_eq (fa := fCons (mP (.str c_STAR)) (mP [])) h0 (rd_no w k).2.1 rfl (take_yes hw h')
    refine ⟨k + 1, ?_, drop_next h'⟩
    have eb : b_mark_of [rdC (some 0) w k, some (.imm (.bl false))] = .ok (.rt (.str [42])) [rdC (some 0) w (k + 1), some (.imm (.bl false))] := by
      unfold b_mark_of
      rw [fSeq_rt (d := .str [42]) (ρ' := [rdC (some 0) w (k + 1), some (.imm (.bl false))])]
      rw [fIf_t (ρ' := [rdC (some 0) w (k + 1), some (.imm (.bl false))])]
      · rfl
      · simp only [fAnd, fNot, fTru, fD, fPeek, mB, mP, mO, look, List.getElem?_cons_zero, List.getElem?_cons_succ, vTru, Bool.not_false, if_true] at e1 ⊢
        simp only [e1, look, vTru]
        rfl
    rw [eb]
    rfl
  · obtain ⟨x, t, ex, hx42⟩ : ∃ x t, formT F = x :: t ∧ x ≠ 42 := by
      cases F with
      | star => exact absurd rfl hs
      | any => exact ⟨63, [], rfl, by decide⟩
      | sgn c => exact ⟨c, [], rfl, sg_ne ho star_sg⟩
      | br less its => exact ⟨91, _, rfl, by decide⟩
    have n1 : (w.drop k).head? ≠ some 42 := by
      rw [h, ex]
      simp only [List.cons_append, List.head?_cons, ne_eq, Option.some.injEq]
      exact hx42
    have e1 := mio_eq (fa := fCons (mP (.str c_STAR)) (mP [])) h0 (rd_no w k).2.1 rfl (take_no hw n1)
    have s1 : fIf (fAnd (fNot (fTru (fPeek 1))) (fTru (fD (fMIO "Reader" "take" f_Reader_take 0 (fCons (mP (.str c_STAR)) (mP [])))))) (fRet (mP (.str c_STAR))) (mP .nx) [rdC (some 0) w k, some (.imm (.bl st))] = .ok .nx [rdC (some 0) w k, some (.imm (.bl st))] := by
      rw [fIf_f (ρ' := [rdC (some 0) w k, some (.imm (.bl st))])]
      · rfl
      · cases st with
        | true => simp only [fAnd, fNot, fTru, fD, fPeek, mB, mP, mO, look, List.getElem?_cons_zero, List.getElem?_cons_succ, vTru, Bool.not_true, Bool.false_eq_true, if_false]
        | false =>
          simp only [fAnd, fNot, fTru, fD, fPeek, mB, mP, mO, look, List.getElem?_cons_zero, List.getElem?_cons_succ, vTru, Bool.not_false, if_true] at e1 ⊢
          simp only [e1, look, vTru]
          rfl
    unfold b_mark_of
    rw [fSeq_nx s1]
    cases F with
    | star => exact absurd rfl hs
    | any =>
      have h' : w.drop k = 63 :: r := h
      have e2 := mio_eq (fa := fCons (mP (.str [63])) (mP [])) h0 (rd_no w k).2.1 rfl (take_yes hw h')
      refine ⟨k + 1, ?_, drop_next h'⟩
      rw [fSeq_rt (d := .str sg) (ρ' := [rdC (some 0) w (k + 1), some (.imm (.bl st))])]
      · rfl
      · rw [fIf_t (ρ' := [rdC (some 0) w (k + 1), some (.imm (.bl st))])]
        · rfl
        · simp only [fTru, fD, mB, e2, mP, mO, look, vTru]
          rfl
    | sgn c =>
      have h' : w.drop k = c :: r := h
      have hc : c ∈ sg := ho
      have e2 := mio_eq (fa := fCons (mP (.str [63])) (mP [])) h0 (rd_no w k).2.1 rfl (take_no hw (by rw [h']; simp only [List.head?_cons, ne_eq, Option.some.injEq]; exact sg_ne hc n63))
      have e3 := mio_eq (fa := fCons (mP (.str [91])) (mP [])) h0 (rd_no w k).2.1 rfl (take_no hw (by rw [h']; simp only [List.head?_cons, ne_eq, Option.some.injEq]; exact sg_ne hc n91))
      have e4 := mio_eq (fa := fCons (mP (.str c_SIGNS)) (mP [])) h0 (rd_no w k).2.2 rfl (one_eq hw h' (show c ∈ c_SIGNS from hc))
      refine ⟨k + 1, ?_, drop_next h'⟩
      rw [fSeq_nx (ρ' := [rdC (some 0) w k, some (.imm (.bl st))]), fSeq_nx (ρ' := [rdC (some 0) w k, some (.imm (.bl st))])]
      · simp only [fRet, mB, e4]
        rfl
      · rw [fIf_f (ρ' := [rdC (some 0) w k, some (.imm (.bl st))])]
        · rfl
        · simp only [fTru, fD, mB, e3, mP, mO, look, vTru]
          rfl
      · rw [fIf_f (ρ' := [rdC (some 0) w k, some (.imm (.bl st))])]
        · rfl
        · simp only [fTru, fD, mB, e2, mP, mO, look, vTru]
          rfl
    | br less its =>
      have h' : w.drop k = 91 :: ((if less then [33] else []) ++ (its.flatMap itmT ++ 93 :: r)) := by
        rw [h]
        simp only [formT, List.append_assoc, List.cons_append, List.nil_append]
      have hil : its.length ≤ 1000 := by
        have h3 : its.length ≤ (its.flatMap itmT).length := by
          clear h h' hl ho hst hs ex e1 s1 n1
          induction its with
          | nil => simp
          | cons i its ih =>
            rw [List.flatMap_cons, List.length_append, List.length_cons]
            have : 1 ≤ (itmT i).length := by cases i <;> simp [itmT]
            omega
        simp only [formT, List.length_append, List.length_cons, List.length_nil] at hl
        omega
      have e2 := mio_eq (fa := fCons (mP (.str [63])) (mP [])) h0 (rd_no w k).2.1 rfl (take_no hw (by rw [h']; simp))
      have e3 := mio_eq (fa := fCons (mP (.str [91])) (mP [])) h0 (rd_no w k).2.1 rfl (take_yes hw h')
      obtain ⟨k', e4, hd⟩ := brackets_eq hw (drop_next h') ho.1 ho.2 hil
      have h1 : ([rdC (some 0) w (k + 1), some (.imm (.bl st))] : Env)[0]? = some (rdC (some 0) w (k + 1)) := rfl
      have e5 := io_eq (fa := mP []) h1 rfl e4
      refine ⟨k', ?_, hd⟩
      rw [fSeq_nx (ρ' := [rdC (some 0) w k, some (.imm (.bl st))]), fSeq_rt (d := .str (formD (.br less its))) (ρ' := [rdC (some 0) w k', some (.imm (.bl st))])]
      · rfl
      · rw [fIf_t (ρ' := [rdC (some 0) w (k + 1), some (.imm (.bl st))])]
        · simp only [fRet, mB, e5]
          rfl
        · simp only [fTru, fD, mB, e3, mP, mO, look, vTru]
          rfl
      · rw [fIf_f (ρ' := [rdC (some 0) w k, some (.imm (.bl st))])]
        · rfl
        · simp only [fTru, fD, mB, e2, mP, mO, look, vTru]
          rfl
end Kb
namespace Kb
open Vl
open L2 (ixN atI)
def daR : LP → Da
  | .many => .ins "Names" []
  | .marks ms => .ins "Marks" [("marks", .lst (ms.map .str))]
theorem form_head {F : Form} (ho : OkForm F) : ∃ x t, formT F = x :: t ∧ x ≠ 33 ∧ x ≠ 47 ∧ (F ≠ .star → x ≠ 42) := by
  cases F with
  | star => exact ⟨42, [], rfl, by decide, by decide, fun h => absurd rfl h⟩
  | any => exact ⟨63, [], rfl, by decide, by decide, fun _ => by decide⟩
  | sgn c => exact ⟨c, [], rfl, sg_ne ho n33, sg_ne ho n47, fun _ => sg_ne ho star_sg⟩
  | br less its => exact ⟨91, _, rfl, by decide, by decide, fun _ => by decide⟩
def endR (r : List Nat) : Prop := r = [] ∨ ∃ r', r = 47 :: r'
theorem vIn_end (a : List Nat) : vIn true (.str a) (.tup [.str [], .str [47]]) = some (.bl (!decide (a = [] ∨ a = [47]))) := by
  have e : vIn true (.str a) (.tup [.str [], .str [47]]) = some (.bl (!inD (.str a) [.str [], .str [47]])) := rfl
  rw [e]
  congr 3
  simp only [inD, List.any_cons, List.any_nil, Bool.or_false, dq]
  by_cases h1 : a = []
  · subst h1
    rfl
  · by_cases h2 : a = [47]
    · subst h2
      rfl
    · have h3 : ¬ ([] : List Nat) = a := fun h => h1 h.symm
      have h4 : ¬ ([47] : List Nat) = a := fun h => h2 h.symm
      simp [h1, h2, h3, h4]
theorem noSS_mid : ∀ {acc : List (List Nat)} {m : List Nat} {r : List (List Nat)}, NoSS (acc ++ m :: r) → m = [42] → acc.getLast? ≠ some [42]
  | [], m, r, _, _ => by simp
  | [a], m, r, h, hm => by
    intro e
    simp only [List.getLast?_singleton, Option.some.injEq] at e
    exact h.1 ⟨e, hm⟩
  | a :: b :: acc, m, r, h, hm => by
    have := noSS_mid (acc := b :: acc) h.2 hm
    simpa using this
abbrev pcE (w : List Nat) (k : Nat) (acc : List (List Nat)) : Env := [rdC (some 0) w k, some (.lst (acc.map .str))]
theorem pc_test {w : List Nat} (hw : w.length ≤ 16777216) (k : Nat) (c : Option Ce) : p1_piece_of [rdC (some 0) w k, c] = .ok (!decide ((w.drop k).take 1 = [] ∨ (w.drop k).take 1 = [47])) [rdC (some 0) w k, c] := by
  have h0 : ([rdC (some 0) w k, c] : Env)[0]? = some (rdC (some 0) w k) := rfl
  have e1 := mio_eq (fa := mP []) h0 (rd_no w k).1 rfl (here_eq hw k)
  have hz : (2 : Nat) ≤ 16777216 := by decide
  unfold p1_piece_of
  simp only [fBinT, fBin, fD, fTup, fCons, mB, e1, mP, mO, look, List.length_cons, List.length_nil, Nat.zero_add, Nat.reduceAdd, hz, if_true, vIn_end, asBl]
  rfl
theorem pc_loop {w r : List Nat} (hw : w.length ≤ 16777216) (hr : endR r) : ∀ (ms ts acc : List (List Nat)) (k n : Nat), All2 MF ms ts → w.drop k = ts.flatten ++ r → NoSS (acc ++ ms) → ms.length < n → acc.length + ms.length ≤ 1000 →
    ∃ k', whileN p1_piece_of p2_piece_of n (pcE w k acc) = .ok .nx (pcE w k' (acc ++ ms)) ∧ w.drop k' = r
  | _, _, acc, k, n, .nil, h, hs, hn, hl => by
    have h' : w.drop k = r := h
    refine ⟨k, ?_, h'⟩
    rw [whileN_stop (ρ' := pcE w k acc) (by omega), List.append_nil]
    rw [pc_test hw]
    have : (w.drop k).take 1 = [] ∨ (w.drop k).take 1 = [47] := by
      rw [h']
      rcases hr with rfl | ⟨r', rfl⟩
      · exact .inl rfl
      · exact .inr rfl
    rw [decide_eq_true this]
    rfl
  | m :: ms, t :: ts, acc, k, n, .cons hm ha, h, hs, hn, hl => by
    rw [List.length_cons] at hn hl
    obtain ⟨F, ho, rfl, rfl, htl⟩ := hm
    rw [List.flatten_cons, List.append_assoc] at h
    obtain ⟨x, t', ex, x1, x2, x3⟩ := form_head ho
    cases n with
    | zero => omega
    | succ n =>
      have hl1 : acc.length ≤ 16777216 := by omega
      have hl2 : acc.length < 16777216 := by omega
      have ec : cutD (acc.map Da.str) (some (-1)) none = (cutD acc (some (-1)) none).map .str := by
        rw [cutD_last, cutD_last, List.length_map, List.map_drop]
      have hv := vEq_strs (cutD acc (some (-1)) none) [[42]]
      have e42 : [[42]].map Da.str = [Da.str [42]] := rfl
      rw [← ec, e42] at hv
      obtain ⟨k1, em, hd⟩ := mark_of_eq (F := F) (st := decide (cutD acc (some (-1)) none = [[42]])) hw h ho (fun hF => by
        subst hF
        have := noSS_mid hs rfl
        rw [decide_eq_false_iff_not, cutD_last, drop_last]
        intro e
        cases hg : acc.getLast? with
        | none => rw [hg] at e; cases e
        | some z =>
          rw [hg] at e
          simp only [List.cons.injEq, and_true] at e
          rw [hg, e] at this
          exact this rfl) htl
      obtain ⟨k', g1, g2⟩ := pc_loop hw hr ms ts (acc ++ [formD F]) k1 n ha hd (by rw [List.append_assoc]; exact hs) (by omega) (by rw [List.length_append, List.length_singleton]; omega)
      refine ⟨k', ?_, g2⟩
      rw [whileN_step (ρ' := pcE w k acc) (ρ2 := pcE w k1 (acc ++ [formD F])) ?_ ?_, g1, List.append_assoc]
      · rfl
      · rw [pc_test hw]
        have : ¬ ((w.drop k).take 1 = [] ∨ (w.drop k).take 1 = [47]) := by
          rw [h, ex]
          simp [x2]
        rw [decide_eq_false this]
        rfl
      · have h0 : (pcE w k acc)[0]? = some (rdC (some 0) w k) := rfl
        have hz : (1 : Nat) ≤ 16777216 := by decide
        have e5 := io_eq (F := f_mark_of) (fa := fCons (fBin (vEq false) (fD (fN (fSl vSlL (fPeek 1) (fInt (fNeg (mP (.int 1)))) (mP none)))) (fD (fN (fLst (fCons (mP (.str c_STAR)) (mP [])))))) (mP [])) h0 (by
          simp only [pcE, fCons, fBin, fD, fN, fSl, fLst, fInt, fNeg, fPeek, mB, mP, mO, look, asInt, Option.map_some, Int.reduceNeg, List.getElem?_cons_zero, List.getElem?_cons_succ, vSlL, List.length_map, hl1, if_true, List.length_cons, List.length_nil, Nat.zero_add, hz, show (c_STAR : List Nat) = [42] from rfl, hv]) em
        unfold p2_piece_of
        have hlm : (acc.map Da.str).length < 16777216 := by rw [List.length_map]; exact hl2
        simp only [fExpr, mB]
        have ea : fApp 1 (fIO "Reader" f_mark_of 0 (fCons (fBin (vEq false) (fD (fN (fSl vSlL (fPeek 1) (fInt (fNeg (mP (.int 1)))) (mP none)))) (fD (fN (fLst (fCons (mP (.str c_STAR)) (mP [])))))) (mP []))) (pcE w k acc) = .ok .non (pcE w k1 (acc ++ [formD F])) := by
          generalize fIO "Reader" f_mark_of 0 (fCons (fBin (vEq false) (fD (fN (fSl vSlL (fPeek 1) (fInt (fNeg (mP (.int 1)))) (mP none)))) (fD (fN (fLst (fCons (mP (.str c_STAR)) (mP [])))))) (mP [])) = G at e5
          simp only [pcE] at e5
          simp only [pcE, fApp, mB, List.getElem?_cons_zero, List.getElem?_cons_succ, e5, List.set_cons_zero, hlm, if_true, List.set_cons_succ, List.map_append, List.map_cons, List.map_nil]
        rw [ea]
        rfl
theorem piece_of_eq {w r t : List Nat} {k : Nat} {q : LP} (hw : w.length ≤ 16777216) (h : w.drop k = t ++ r) (hp : PT q t) (ho : OkLP q) (hr : endR r) : ∃ k', f_piece_of (rdF w k) [] = some (daR q, rdF w k') ∧ w.drop k' = r := by
  have e : f_piece_of (rdF w k) [] = resIO "Reader" (b_piece_of [rdC (some 0) w k, none]) := rfl
  have h0 : ([rdC (some 0) w k, none] : Env)[0]? = some (rdC (some 0) w k) := rfl
  have e1 := fldO_eq h0 (rd_whole w k)
  have e2 := fldO_eq h0 (rd_place w k)
  have ec : cutD w (some ((k : Nat) : Int)) (some ((k : Int) + 2)) = (w.drop k).take 2 := by
    have : (k : Int) + 2 = ((k + 2 : Nat) : Int) := by omega
    rw [this, cutD_nat]
    congr 1
    omega
  have et : fBinT (vEq false) (fD (fSl vSlS (fD (fFldO "Reader" "whole" 0)) (fInt (fFldO "Reader" "place" 0)) (fInt (fBin vAdd (fD (fFldO "Reader" "place" 0)) (fD (mP (.int 2))))))) (fD (mP (.str [42, 42]))) [rdC (some 0) w k, none] = .ok (decide ((w.drop k).take 2 = [42, 42])) [rdC (some 0) w k, none] := by
    simp only [fBinT, fSl, fD, fInt, fBin, mB, mP, mO, e1, e2, look, asInt, Option.map_some, vAdd, vSlS, hw, if_true, ec, vEq_str, asBl]
  rw [e]
  unfold b_piece_of
  cases q with
  | many =>
    have ht : t = [42, 42] := hp
    subst ht
    have hd : w.drop (k + 2) = r := by rw [← List.drop_drop, h]; rfl
    refine ⟨k + 2, ?_, hd⟩
    have h2 : (w.drop k).take 2 = [42, 42] := by rw [h]; rfl
    rw [decide_eq_true h2] at et
    rw [fSeq_rt (d := .ins "Names" []) (ρ' := [rdC (some 0) w (k + 2), none])]
    · rfl
    · rw [fIf_t et, fSeq_nx (aug2_eq h0), fSeq_nx (ρ' := [rdC (some 0) w (k + 2), none])]
      · rfl
      · have := pc_test hw (k + 2) none
        have h3 : (w.drop (k + 2)).take 1 = [] ∨ (w.drop (k + 2)).take 1 = [47] := by
          rw [hd]
          rcases hr with rfl | ⟨r', rfl⟩
          · exact .inl rfl
          · exact .inr rfl
        rw [decide_eq_true h3] at this
        exact fIf_f this
  | marks ms =>
    obtain ⟨ts, ha, rfl⟩ := hp
    obtain ⟨hne, him, hss, hml⟩ := ho
    have h2 : ¬ (w.drop k).take 2 = [42, 42] := by
      rw [h]
      cases ha with
      | nil => exact absurd rfl hne
      | cons hm ha' =>
        obtain ⟨F, hF, rfl, rfl, _⟩ := hm
        obtain ⟨x, t', ex, x1, x2, x3⟩ := form_head hF
        rw [List.flatten_cons, ex]
        by_cases hs : F = .star
        · subst hs
          cases ex
          cases ha' with
          | nil =>
            rcases hr with rfl | ⟨r', rfl⟩ <;> simp
          | cons hm2 ha2 =>
            obtain ⟨F2, hF2, rfl, rfl, _⟩ := hm2
            obtain ⟨y, t2, ey, y1, y2, y3⟩ := form_head hF2
            have h2s : F2 ≠ .star := by
              rintro rfl
              exact hss.1 ⟨rfl, rfl⟩
            rw [List.flatten_cons, ey]
            simp [y3 h2s]
        · intro h5
          simp only [List.cons_append, List.take_succ_cons, List.cons.injEq] at h5
          exact x3 hs h5.1
    rw [decide_eq_false h2] at et
    obtain ⟨k', g1, g2⟩ := pc_loop hw hr ms ts [] k 1000000000 ha h hss (by omega) (by simp; omega)
    refine ⟨k', ?_, g2⟩
    have hni : ¬ ms = [] := hne
    have hv := vEq_strs ms []
    rw [List.map_nil, decide_eq_false hni] at hv
    rw [fSeq_nx (ρ' := [rdC (some 0) w k, none]) (by rw [fIf_f et]; rfl), fSeq_nx (ρ' := pcE w k []) (by rfl), fSeq_nx g1, List.nil_append,
      fSeq_nx (ρ' := pcE w k' ms)]
    · rfl
    · rw [fIf_f (ρ' := pcE w k' ms)]
      · rfl
      · have hz : (0 : Nat) ≤ 16777216 := by decide
        simp only [pcE, fBinT, fBin, fD, fN, fLst, fPeek, mB, mP, mO, look, List.getElem?_cons_zero, List.getElem?_cons_succ, List.length_nil, hz, if_true, hv, asBl]
end Kb
namespace Kb
open Vl
open L2 (ixN atI)
def lnD (l : Bool) (ps : List LP) (f : Bool) : Da := .ins "Line" [("lets", .bl l), ("pieces", .lst (ps.map daR)), ("folders", .bl f)]
theorem manyD_R (q : LP) : manyD (daR q) = some (isMany q) := by
  cases q <;> rfl
theorem squeeze_R : ∀ (qs acc : List LP), acc ≠ [] → acc.length + qs.length ≤ 16777216 → squeeze (acc.map daR) (qs.map daR) = some ((sqz acc qs).map daR)
  | [], acc, _, _ => rfl
  | q :: qs, acc, ha, hl => by
    rw [List.length_cons] at hl
    have h1 : (acc.map daR).length < 16777216 := by rw [List.length_map]; omega
    have hs : ∀ b : List LP, squeeze (acc.map daR ++ [daR q]) (qs.map daR) = squeeze ((acc ++ [q]).map daR) (qs.map daR) := fun _ => by rw [List.map_append]; rfl
    have hn : squeeze ((acc ++ [q]).map daR) (qs.map daR) = some ((sqz (acc ++ [q]) qs).map daR) := squeeze_R qs (acc ++ [q]) (by simp) (by rw [List.length_append, List.length_singleton]; omega)
    rw [List.map_cons]
    unfold squeeze sqz
    rw [manyD_R]
    cases hq : isMany q with
    | false =>
      simp only [h1, if_true, Bool.false_eq_true, false_and, if_false]
      rw [hs acc, hn]
    | true =>
      obtain ⟨a, x, rfl⟩ : ∃ a x, acc = a ++ [x] := ⟨acc.dropLast, acc.getLast ha, (List.dropLast_concat_getLast ha).symm⟩
      have hg : ((a ++ [x]).map daR).getLast? = some (daR x) := by rw [List.map_append]; simp
      have hlm := last_snoc a x
      simp only [hg, manyD_R, hlm, true_and]
      cases hx : isMany x with
      | true =>
        simp only [if_true]
        exact squeeze_R qs (a ++ [x]) (by simp) (by omega)
      | false =>
        simp only [h1, if_true, Bool.false_eq_true, if_false]
        rw [hs (a ++ [x]), hn]
theorem iLine_R (l : Bool) {qs : List LP} (f : Bool) (h : qs ≠ []) (hl : qs.length ≤ 1000) : i_Line [.bl l, .lst (qs.map daR), .bl f] = some ([("lets", .bl l), ("pieces", .lst ((sqz [] qs).map daR)), ("folders", .bl f)] : List (PySem.Str × Da)) := by
  obtain ⟨q, qs, rfl⟩ := List.exists_cons_of_ne_nil h
  have e := squeeze_R qs [q] (by simp) (by simp at hl ⊢; omega)
  have e2 : sqz [] (q :: qs) = sqz [q] qs := by
    rw [sqz, if_neg (by rintro ⟨_, h⟩; cases h)]
    rfl
  show iLine _ = _
  rw [e2, List.map_cons]
  unfold iLine
  have e' : squeeze [daR q] (qs.map daR) = some ((sqz [q] qs).map daR) := e
  have hlt : (qs.map daR).length < 16777216 := by rw [List.length_map]; rw [List.length_cons] at hl; omega
  simp only [e', hlt, if_true, Option.map_some]
theorem PT_head {q : LP} {t : List Nat} (hp : PT q t) (ho : OkLP q) : ∃ x t', t = x :: t' ∧ x ≠ 33 ∧ x ≠ 47 := by
  cases q with
  | many => exact ⟨42, [42], hp, by decide, by decide⟩
  | marks ms =>
    obtain ⟨ts, ha, rfl⟩ := hp
    cases ha with
    | nil => exact absurd rfl ho.1
    | cons hm ha' =>
      obtain ⟨F, hF, rfl, rfl, _⟩ := hm
      obtain ⟨x, t', ex, x1, x2, _⟩ := form_head hF
      exact ⟨x, t' ++ _, by rw [List.flatten_cons, ex]; rfl, x1, x2⟩
def tailL (ts : List (List Nat)) (f : Bool) : List Nat := ts.flatMap (fun t => 47 :: t) ++ (if f then [47] else [])
theorem tail_end (ts : List (List Nat)) (f : Bool) : endR (tailL ts f) := by
  cases ts with
  | nil => cases f with
    | false => exact .inl rfl
    | true => exact .inr ⟨[], rfl⟩
  | cons t ts => exact .inr ⟨_, rfl⟩
theorem join_tail (t : List Nat) : ∀ ts : List (List Nat), joinN [47] (t :: ts) = t ++ ts.flatMap fun t => 47 :: t
  | [] => by simp [joinN]
  | s :: ts => by
    rw [joinN, join_tail s ts, List.flatMap_cons]
    rfl
abbrev lnE (w : List Nat) (k : Nat) (l fx : Bool) (qs : List LP) (f : Bool) : Env := [some (.imm (.str w)), rdC none w k, some (.imm (.bl l)), some (.imm (.bl fx)), some (.lst (qs.map daR)), some (.imm (.bl f))]
theorem ln_test_no {w : List Nat} (hw : w.length ≤ 16777216) {k : Nat} {l fx f : Bool} {qs : List LP} (h : (w.drop k).head? ≠ some 47) : p1_line_of (lnE w k l fx qs f) = .ok false (lnE w k l fx qs f) := by
  have h0 : (lnE w k l fx qs f)[1]? = some (rdC none w k) := rfl
  have e1 := mio_eq (fa := fCons (mP (.str [47])) (mP [])) h0 (rd_no w k).2.1 rfl (take_no hw h)
  simp only [p1_line_of, fTru, fD, mB, e1, mP, mO, look, vTru]
  rfl
theorem ln_test_yes {w r : List Nat} (hw : w.length ≤ 16777216) {k : Nat} {l fx f : Bool} {qs : List LP} (h : w.drop k = 47 :: r) : p1_line_of (lnE w k l fx qs f) = .ok true (lnE w (k + 1) l fx qs f) := by
  have h0 : (lnE w k l fx qs f)[1]? = some (rdC none w k) := rfl
  have e1 := mio_eq (fa := fCons (mP (.str [47])) (mP [])) h0 (rd_no w k).2.1 rfl (take_yes hw h)
  simp only [p1_line_of, fTru, fD, mB, e1, mP, mO, look, vTru]
  rfl
theorem ln_here {w : List Nat} (hw : w.length ≤ 16777216) {k : Nat} {l fx f : Bool} {qs : List LP} : fBinT (vEq false) (fD (fMIO "Reader" "here" f_Reader_here 1 (mP []))) (fD (mP (.str []))) (lnE w k l fx qs f) = .ok (decide ((w.drop k).take 1 = [])) (lnE w k l fx qs f) := by
  have h0 : (lnE w k l fx qs f)[1]? = some (rdC none w k) := rfl
  have e1 := mio_eq (fa := mP []) h0 (rd_no w k).1 rfl (here_eq hw k)
  simp only [fBinT, fBin, fD, mB, e1, mP, mO, look, vEq_str, asBl]
  rfl
theorem ln_loop {w : List Nat} (hw : w.length ≤ 16777216) {l fx f : Bool} : ∀ (qs : List LP) (ts : List (List Nat)) (acc : List LP) (k n : Nat), All2 PT qs ts → (∀ q ∈ qs, OkLP q) → w.drop k = tailL ts f → qs.length + 2 ≤ n → acc.length + qs.length ≤ 1000 →
    ∃ k', whileN p1_line_of p2_line_of n (lnE w k l fx acc false) = .ok .nx (lnE w k' l fx (acc ++ qs) f)
  | _, _, acc, k, n, .nil, _, h, hn, hl => by
    rw [List.append_nil]
    cases f with
    | false =>
      exact ⟨k, whileN_stop (by omega) (ln_test_no hw (by rw [h]; simp [tailL]))⟩
    | true =>
      have h' : w.drop k = [47] := h
      obtain ⟨n, rfl⟩ : ∃ m, n = m + 1 := ⟨n - 1, by omega⟩
      have hd := drop_next h'
      refine ⟨k + 1, ?_⟩
      rw [whileN_step (ln_test_yes hw h') (ρ2 := lnE w (k + 1) l fx acc true), whileN_stop (by simp at hn; omega) (ln_test_no hw (by rw [hd]; simp))]
      unfold p2_line_of
      have := ln_here hw (k := k + 1) (l := l) (fx := fx) (f := false) (qs := acc)
      rw [hd] at this
      rw [fIf_t (this.trans (by rfl))]
      rfl
  | q :: qs, t :: ts, acc, k, n, .cons hp ha, ho, h, hn, hl => by
    rw [List.length_cons] at hn hl
    obtain ⟨n, rfl⟩ : ∃ m, n = m + 1 := ⟨n - 1, by omega⟩
    have h' : w.drop k = 47 :: (t ++ tailL ts f) := by
      rw [h]
      simp only [tailL, List.flatMap_cons, List.append_assoc, List.cons_append]
    have hd := drop_next h'
    have hq := ho q (List.mem_cons_self ..)
    obtain ⟨k1, e1, e2⟩ := piece_of_eq hw hd hp hq (tail_end ts f)
    obtain ⟨k', g⟩ := ln_loop hw (l := l) (fx := fx) qs ts (acc ++ [q]) k1 n ha (fun z hz => ho z (List.mem_cons_of_mem _ hz)) e2 (by omega) (by rw [List.length_append, List.length_singleton]; omega)
    refine ⟨k', ?_⟩
    rw [whileN_step (ln_test_yes hw h') (ρ2 := lnE w k1 l fx (acc ++ [q]) false), g, List.append_assoc]
    · rfl
    · unfold p2_line_of
      obtain ⟨x, t', ex, _, _⟩ := PT_head hp hq
      have := ln_here hw (k := k + 1) (l := l) (fx := fx) (f := false) (qs := acc)
      have hne : ¬ (w.drop (k + 1)).take 1 = [] := by
        rw [hd, ex]
        simp
      rw [decide_eq_false hne] at this
      rw [fIf_f this]
      have h0 : (lnE w (k + 1) l fx acc false)[1]? = some (rdC none w (k + 1)) := rfl
      have e5 := io_eq (F := f_piece_of) (fa := mP []) h0 rfl e1
      have hlm : (acc.map daR).length < 16777216 := by rw [List.length_map]; omega
      simp only [lnE] at e5
      simp only [lnE, fExpr, fApp, mB, List.getElem?_cons_zero, List.getElem?_cons_succ, e5, List.set_cons_zero, List.set_cons_succ, hlm, if_true, mP, List.map_append, List.map_cons, List.map_nil]
/-- a text read as a line -/
theorem line_of_eq {l lead f : Bool} {qs : List LP} {ts : List (List Nat)} (ha : All2 PT qs ts) (hne : qs ≠ []) (ho : ∀ q ∈ qs, OkLP q) (hl : qs.length ≤ 300) (hw : (textL l lead ts f).length ≤ 16777216) :
    f_line_of [.str (textL l lead ts f)] = .ok (lnD l (sqz [] (if lead = false ∧ qs.length = 1 then .many :: qs else qs)) f) := by
  cases ha with
  | nil => exact absurd rfl hne
  | @cons q t qs ts hp ha' =>
    have hq := ho q (List.mem_cons_self ..)
    obtain ⟨x, t', ex, x33, x47⟩ := PT_head hp hq
    have ew : textL l lead (t :: ts) f = (if l then [33] else []) ++ ((if lead then [47] else []) ++ (t ++ tailL ts f)) := by
      unfold textL tailL
      rw [join_tail]
      simp only [List.append_assoc]
    generalize textL l lead (t :: ts) f = w at ew hw
    have e : f_line_of [.str w] = resOf (b_line_of [some (.imm (.str w)), none, none, none, none, none]) := rfl
    rw [e]
    unfold b_line_of
    rw [fSeq_nx (ρ' := [some (.imm (.str w)), none, none, none, none, none]) (by rfl),
      fSeq_nx (ρ' := [some (.imm (.str w)), rdC none w 0, none, none, none, none]) (by rfl)]
    obtain ⟨k1, h1, t1⟩ : ∃ k1, w.drop k1 = (if lead then [47] else []) ++ (t ++ tailL ts f) ∧ f_Reader_take (rdF w 0) [.str [33]] = some (.bl l, rdF w k1) := by
      cases l with
      | true => exact ⟨1, by rw [ew]; rfl, take_yes hw (show w.drop 0 = 33 :: _ from ew)⟩
      | false =>
        refine ⟨0, ew, take_no hw ?_⟩
        rw [List.drop_zero, ew, ex]
        cases lead <;> simp [x33]
    obtain ⟨k2, h2, t2⟩ : ∃ k2, w.drop k2 = t ++ tailL ts f ∧ f_Reader_take (rdF w k1) [.str [47]] = some (.bl lead, rdF w k2) := by
      cases lead with
      | true => exact ⟨k1 + 1, drop_next h1, take_yes hw h1⟩
      | false =>
        refine ⟨k1, h1, take_no hw ?_⟩
        rw [h1, ex]
        simp [x47]
    have h00 : ([some (.imm (.str w)), rdC none w 0, none, none, none, none] : Env)[1]? = some (rdC none w 0) := rfl
    have e1 := mio_eq (fa := fCons (mP (.str [33])) (mP [])) h00 (rd_no w 0).2.1 rfl t1
    have h01 : ([some (.imm (.str w)), rdC none w k1, none, none, none, none] : Env)[1]? = some (rdC none w k1) := rfl
    have e2 := mio_eq (fa := fCons (mP (.str [47])) (mP [])) h01 (rd_no w k1).2.1 rfl t2
    rw [fSeq_nx (ρ' := [some (.imm (.str w)), rdC none w k2, some (.imm (.bl l)), some (.imm (.bl lead)), none, none]) (by
      simp only [fPar2, fCv, mB, e1, List.set_cons_zero, List.set_cons_succ, e2, mP])]
    obtain ⟨k3, e3, h3⟩ := piece_of_eq hw h2 hp hq (tail_end ts f)
    have h02 : ([some (.imm (.str w)), rdC none w k2, some (.imm (.bl l)), some (.imm (.bl lead)), none, none] : Env)[1]? = some (rdC none w k2) := rfl
    have e4 := io_eq (F := f_piece_of) (fa := mP []) h02 rfl e3
    rw [fSeq_nx (ρ' := lnE w k3 l lead [q] false) (by
      have hz : (1 : Nat) ≤ 16777216 := by decide
      simp only [fPar2, fCn, fLst, fCons, fCv, mB, e4, mP, mO, List.length_cons, List.length_nil, Nat.zero_add, hz, if_true]
      rfl)]
    rw [List.length_cons] at hl
    obtain ⟨k', g⟩ := ln_loop hw (l := l) (fx := lead) (f := f) qs ts [q] k3 1000000000 ha' (fun z hz => ho z (List.mem_cons_of_mem _ hz)) h3 (by omega) (by simp; omega)
    rw [fSeq_nx g]
    have hlen : (([q] ++ qs).map daR).length = qs.length + 1 := by simp
    have fin : ∀ (qq : List LP) (c : Ce), qq ≠ [] → qq.length ≤ 1000 → (c = .lst (qq.map daR) ∨ c = .imm (.lst (qq.map daR))) → resOf (fRet (fMake "Line" i_Line (fCons (fName 2) (fCons (fName 4) (fCons (fName 5) (mP []))))) [some (.imm (.str w)), rdC none w k', some (.imm (.bl l)), some (.imm (.bl lead)), some c, some (.imm (.bl f))]) = .ok (lnD l (sqz [] qq) f) := by
      intro qq c h1 h2 hc
      have := iLine_R l f h1 h2
      rcases hc with rfl | rfl
      · simp only [fRet, fMake, fCons, fName, mB, mP, mO, List.getElem?_cons_zero, List.getElem?_cons_succ, List.set_cons_zero, List.set_cons_succ, this, Option.map_some, resOf, lnD]
      · simp only [fRet, fMake, fCons, fName, mB, mP, mO, List.getElem?_cons_zero, List.getElem?_cons_succ, List.set_cons_zero, List.set_cons_succ, this, Option.map_some, resOf, lnD]
    by_cases hc : lead = false ∧ (q :: qs).length = 1
    · rw [if_pos hc]
      obtain ⟨c1, c2⟩ := hc
      subst c1
      have c3 : qs = [] := by simpa using c2
      subst c3
      have hz : (1 : Nat) ≤ 16777216 := by decide
      have hz2 : (1 + 1 : Nat) ≤ 16777216 := by decide
      rw [fSeq_nx (ρ' := [some (.imm (.str w)), rdC none w k', some (.imm (.bl l)), some (.imm (.bl false)), some (.imm (.lst ([LP.many, q].map daR))), some (.imm (.bl f))]) (by
        simp only [lnE, List.append_nil, List.map_cons, List.map_nil, fIf, fAnd, fNot, fTru, fBinT, fBin, fCall, fCons, fD, fN, fLst, fPeek, fAsg, mB, mP, mO, look, lookA, vTru, vLen, List.getElem?_cons_zero, List.getElem?_cons_succ, Bool.not_false, if_true, List.length_cons, List.length_nil, Nat.zero_add, Int.cast_ofNat_Int, vEq_int, decide_true, asBl, hz, hz2, vAdd, List.cons_append, List.nil_append, List.set_cons_zero, List.set_cons_succ]
        rfl)]
      exact fin [LP.many, q] _ (by simp) (by simp) (.inr rfl)
    · rw [if_neg hc]
      rw [fSeq_nx (ρ' := lnE w k' l lead ([q] ++ qs) f)]
      · exact fin ([q] ++ qs) _ (by simp) (by simp; omega) (.inl rfl)
      · rw [fIf_f (ρ' := lnE w k' l lead ([q] ++ qs) f)]
        · rfl
        · cases hld : lead with
          | true => simp only [lnE, fAnd, fNot, fTru, fPeek, mB, mP, mO, look, vTru, List.getElem?_cons_zero, List.getElem?_cons_succ, Bool.not_true, Bool.false_eq_true, if_false]
          | false =>
            have c2 : ¬ ((qs.length + 1 : Nat) : Int) = 1 := by
              intro h
              exact hc ⟨hld, by rw [List.length_cons]; omega⟩
            simp only [lnE, fAnd, fNot, fTru, fBinT, fBin, fCall, fCons, fD, fPeek, mB, mP, mO, look, lookA, vTru, vLen, List.getElem?_cons_zero, List.getElem?_cons_succ, Bool.not_false, if_true, hlen, vEq_int, c2, decide_false, asBl]
end Kb
namespace Kb
open Vl
open L2 (ixN atI)
theorem marks_told_eq {ms : List (List Nat)} (h : OkMs ms) : f_Marks_told [daR (.marks ms)] = .ok (.str (plainP (.marks ms))) := by
  have hl := h.2.2.2
  have ec := compL_strs (vs := [1]) (st := stN 1) (e := p1_Marks_told) (g := Da.str) (y := plainM) ms [some (.imm (daR (.marks ms))), none] (ρw := [some (.imm (daR (.marks ms))), none]) rfl (fun m hm => by
    have := told_mark_eq (h.2.1 m hm)
    refine ⟨_, rfl, ?_, rfl⟩
    simp only [p1_Marks_told, fSeq, fAsg, fAsgN, fRet, fRetO, fExpr, fTo, fPar2, fPar3, fAug, fIf, fBin, fBinT, fTru, fAnd, fOr, fNot, fAndV, fOrV, fNotV, fNeg, fName, fPeek, fD, fN, fLst, fTup, fCons, fCall, fCallN, fDef, fFld, fInt, fSl, fIt, fItA, fStuck, fCv, fCn, fCd, stN, stCons, stNil, stTup, mB, mP, mO, look, lookA, asBl, asInt, vAdd, vSub, vMul, vFdiv, vMod, vCmp, vIs, isNon, vAugAdd, fApp, fExt, fMs, fMn, List.getElem?_cons_zero, List.getElem?_cons_succ, List.getElem?_nil, List.set_cons_zero, List.set_cons_succ, List.length_cons, List.length_nil, Option.bind_some, Option.map_some, if_true, if_false, reduceIte, List.nil_append, List.cons_append, List.append_nil, resOf, Nat.reduceAdd, Nat.reduceEqDiff, Nat.reduceLT, Nat.reduceLeDiff, Int.reduceLT, Int.reduceLE, Int.reduceNeg, and_self, true_and, and_true, decide_true, decide_false, Bool.false_eq_true, Bool.not_true, Bool.not_false, Int.reduceAbs, Int.natAbs_neg, or_true, true_or, vIx, vLen, vAbs, vSum, vMax, vMin, decide_eq_true_eq, Bool.not_eq_true, this]) (by omega)
  have hb : (plainP (.marks ms)).length ≤ 3300 := plainP_len (p := .marks ms) h
  have hb' : (ms.map plainM).flatten.length ≤ 3300 := hb
  rw [flat_len] at hb'
  have ej := sJoin_map [] (ms.map plainM) (by simp only [List.length_nil, Nat.mul_zero]; omega)
  rw [joinN_nil] at ej
  have e0 : f_Marks_told [daR (.marks ms)] = resOf (b_Marks_told [some (.imm (daR (.marks ms))), none]) := rfl
  have hf : fFld "Marks" "marks" (fName 0) [some (.imm (daR (.marks ms))), none] = .ok (.lst (ms.map .str)) [some (.imm (daR (.marks ms))), none] := rfl
  rw [e0]
  simp only [b_Marks_told, fRet, fMs, fCons, fD, fN, fComp, fIt, mB, hf, mP, mO, itemsL, ec, lookA, look, ej, resOf, plainP]
theorem meth_eq {c m : PySem.Str} {F : List Da → Res} {fe : EM Da} {ρ ρ' : Env} {gs : List (PySem.Str × Da)} {d : Da} (h : fe ρ = .ok (.ins c gs) ρ') (hm : gs.lookup m = none) (hF : F [.ins c gs] = .ok d) : fMeth c m F [] fe (mP []) ρ = .ok d ρ' := by
  simp only [fMeth, mB, h, hm, and_self, if_true, mP, List.append_nil, hF]
theorem told_eq {p : LP} (h : OkLP p) {fe : EM Da} {ρ ρ' : Env} (he : fe ρ = .ok (daR p) ρ') : fAlt (fMeth "Names" "told" f_Names_told [] fe (mP [])) (fMeth "Marks" "told" f_Marks_told [] fe (mP [])) ρ = .ok (.str (plainP p)) ρ' := by
  cases p with
  | many =>
    have := meth_eq (m := "told") (F := f_Names_told) (d := .str [42, 42]) he rfl rfl
    unfold fAlt
    rw [this]
    rfl
  | marks ms =>
    have h1 := meth_eq (m := "told") (F := f_Marks_told) he rfl (marks_told_eq h)
    have h0 : fMeth "Names" "told" f_Names_told [] fe (mP []) ρ = .stuck := by
      simp only [fMeth, mB, he, daR]
      rw [if_neg (by intro hh; exact absurd hh.1 (by decide))]
    unfold fAlt
    rw [h0]
    exact h1
theorem plain_form_eq (l : Bool) {ps : List LP} (f : Bool) (h : ∀ p ∈ ps, OkLP p) (hl : ps.length ≤ 100) : f_Line_plain_form [lnD l ps f] = .ok (.str (plainL l ps f)) := by
  have e0 : f_Line_plain_form [lnD l ps f] = resOf (b_Line_plain_form [some (.imm (lnD l ps f)), none, none, none]) := rfl
  rw [e0]
  have ec := compL_strs (vs := [2]) (st := stN 2) (e := p1_Line_plain_form) (g := daR) (y := plainP) ps [some (.imm (lnD l ps f)), none, none, none] (ρw := [some (.imm (lnD l ps f)), none, none, none]) rfl (fun p hp => by
    refine ⟨_, rfl, ?_, rfl⟩
    exact told_eq (h p hp) rfl) (by omega)
  have hsum := join_plain_len h hl
  have ej := sJoin_map [47] (ps.map plainP) (by rw [List.length_map]; simp only [List.length_cons, List.length_nil]; omega)
  have hjl := joinN_len [47] (ps.map plainP)
  rw [List.length_map] at hjl
  simp only [List.length_cons, List.length_nil] at hjl
  have f1 : ∀ a b c : Option Ce, fFld "Line" "pieces" (fName 0) [some (.imm (lnD l ps f)), a, b, c] = .ok (.lst (ps.map daR)) [some (.imm (lnD l ps f)), a, b, c] := fun _ _ _ => rfl
  have f2 : ∀ a b c : Option Ce, fFld "Line" "lets" (fName 0) [some (.imm (lnD l ps f)), a, b, c] = .ok (.bl l) [some (.imm (lnD l ps f)), a, b, c] := fun _ _ _ => rfl
  have f3 : ∀ a b c : Option Ce, fFld "Line" "folders" (fName 0) [some (.imm (lnD l ps f)), a, b, c] = .ok (.bl f) [some (.imm (lnD l ps f)), a, b, c] := fun _ _ _ => rfl
  unfold b_Line_plain_form
  rw [fSeq_nx (ρ' := [some (.imm (lnD l ps f)), some (.imm (.str (joinN [47] (ps.map plainP)))), none, none]) (by
    simp only [fAsg, fMs, fCons, fD, fN, fComp, fIt, mB, f1, mP, mO, itemsL, ec, lookA, look, ej, List.set_cons_zero, List.set_cons_succ])]
  have ha : ((if l then [33] else []) ++ (if ps.length = 1 then [47] else []) : List Nat).length ≤ 2 := by
    cases l <;> by_cases h1 : ps.length = 1 <;> simp [h1]
  rw [fSeq_nx (ρ' := [some (.imm (lnD l ps f)), some (.imm (.str (joinN [47] (ps.map plainP)))), none, some (.imm (.str ((if l then [33] else []) ++ (if ps.length = 1 then [47] else []))))]) (by
    have z1 : (1 + 1 : Nat) ≤ 16777216 := by decide
    have z2 : (1 + 0 : Nat) ≤ 16777216 := by decide
    have z3 : (0 + 1 : Nat) ≤ 16777216 := by decide
    have z4 : (0 : Nat) ≤ 16777216 := by decide
    have z5 : (1 : Nat) ≤ 16777216 := by decide
    have z6 : (2 : Nat) ≤ 16777216 := by decide
    by_cases h1 : ps.length = 1
    · have h1' : (ps.length : Int) = 1 := by omega
      cases l <;> simp only [fAsg, fBin, fD, fIf, fTru, fBinT, fCall, fCons, mB, f1, f2, mP, mO, look, lookA, vTru, vLen, List.length_map, h1', vEq_int, h1, decide_true, asBl, Bool.false_eq_true, if_true, if_false, vAdd, List.length_cons, List.length_nil, Nat.zero_add, Nat.add_zero, Nat.reduceAdd, z4, z5, z6, List.set_cons_zero, List.set_cons_succ, Int.cast_ofNat_Int, List.nil_append, List.append_nil]
    · have h1' : ¬ (ps.length : Int) = 1 := by omega
      cases l <;> simp only [fAsg, fBin, fD, fIf, fTru, fBinT, fCall, fCons, mB, f1, f2, mP, mO, look, lookA, vTru, vLen, List.length_map, h1', vEq_int, h1, decide_false, asBl, Bool.false_eq_true, if_true, if_false, vAdd, List.length_cons, List.length_nil, Nat.zero_add, Nat.add_zero, Nat.reduceAdd, z4, z5, z6, List.set_cons_zero, List.set_cons_succ, List.nil_append, List.append_nil])]
  unfold plainL
  generalize ((if l then [33] else []) ++ (if ps.length = 1 then [47] else []) : List Nat) = ah at ha
  generalize joinN [47] (ps.map plainP) = jn at hjl
  have y1 : vAdd (.str ah) (.str jn) = some (.str (ah ++ jn)) := if_pos (by omega)
  have y2 : ∀ z : List Nat, z.length ≤ 1 → vAdd (.str (ah ++ jn)) (.str z) = some (.str (ah ++ jn ++ z)) := fun z hz => if_pos (by rw [List.length_append]; omega)
  have y3 := y2 [47] (by decide)
  have y4 := y2 [] (by decide)
  cases f <;> simp only [fIf, fTru, fBin, fD, fRet, fPeek, mB, mP, mO, look, f3, if_true, if_false, Bool.false_eq_true, List.getElem?_cons_zero, List.getElem?_cons_succ, vTru, y1, y3, y4, resOf]
/-- a text of a line -/
def TX (w : List Nat) (l : Bool) (ps : List LP) (f : Bool) : Prop := ∃ lead qs ts, w = textL l lead ts f ∧ All2 PT qs ts ∧ qs ≠ [] ∧ (∀ q ∈ qs, OkLP q) ∧ qs.length ≤ 2 * ps.length ∧ sqz [] (if lead = false ∧ qs.length = 1 then .many :: qs else qs) = ps
theorem textL_len (l lead : Bool) {qs : List LP} {ts : List (List Nat)} (f : Bool) (h : All2 PT qs ts) (ho : ∀ q ∈ qs, OkLP q) : (textL l lead ts f).length ≤ qs.length * 10001 + 3 := by
  have h1 := all2_len h ho
  have h2 := joinN_len [47] ts
  have h3 := h.length
  simp only [List.length_cons, List.length_nil] at h2
  unfold textL
  simp only [List.length_append]
  have a1 : (if l then [33] else [] : List Nat).length ≤ 1 := by cases l <;> simp
  have a2 : (if lead then [47] else [] : List Nat).length ≤ 1 := by cases lead <;> simp
  have a3 : (if f then [47] else [] : List Nat).length ≤ 1 := by cases f <;> simp
  omega
theorem TX.len {w : List Nat} {l : Bool} {ps : List LP} {f : Bool} (h : TX w l ps f) (hp : ps.length ≤ 3) : w.length ≤ 100000 := by
  obtain ⟨lead, qs, ts, rfl, h1, h2, h3, h4, h5⟩ := h
  have := textL_len l lead f h1 h3
  have : qs.length * 10001 ≤ 6 * 10001 := Nat.mul_le_mul_right 10001 (by omega)
  omega
theorem line_TX {w : List Nat} {l : Bool} {ps : List LP} {f : Bool} (h : TX w l ps f) (hp : ps.length ≤ 3) : f_line_of [.str w] = .ok (lnD l ps f) := by
  have hw := h.len hp
  obtain ⟨lead, qs, ts, rfl, h1, h2, h3, h4, h5⟩ := h
  rw [line_of_eq h1 h2 h3 (by omega) (by omega), h5]
theorem plain_TX {w : List Nat} {l : Bool} {ps : List LP} {f : Bool} (h : TX w l ps f) (ho : ∀ p ∈ ps, OkLP p) (hp : ps.length ≤ 3) : f_plain [.str w] = .ok (.str (plainL l ps f)) := by
  have e1 := line_TX h hp
  have e0 : f_plain [.str w] = resOf (b_plain [some (.imm (.str w))]) := rfl
  have e2 : fDef f_line_of [] (fCons (fName 0) (mP [])) [some (.imm (.str w))] = .ok (lnD l ps f) [some (.imm (.str w))] := by
    simp only [fDef, fCons, fName, mB, mP, List.getElem?_cons_zero, List.append_nil, e1]
  have e3 := meth_eq (m := "plain_form") (F := f_Line_plain_form) e2 rfl (plain_form_eq l f ho (by omega))
  rw [e0]
  simp only [b_plain, fRet, mB, e3, mP, resOf]
theorem sqz_self : ∀ (ps acc : List LP), NoMM (acc ++ ps) → sqz acc ps = acc ++ ps
  | [], acc, _ => by simp [sqz]
  | p :: ps, acc, h => by
    have : ¬ (isMany p = true ∧ lastMany acc = true) := by
      rintro ⟨h1, h2⟩
      rw [noMM_last h h1] at h2
      cases h2
    rw [sqz, if_neg this, sqz_self ps (acc ++ [p]) (by rw [List.append_assoc]; exact h), List.append_assoc]
    rfl
theorem all2_map {α β : Type} {R : α → β → Prop} {g : α → β} : ∀ (l : List α), (∀ x ∈ l, R x (g x)) → All2 R l (l.map g)
  | [], _ => .nil
  | x :: l, h => .cons (h x (List.mem_cons_self ..)) (all2_map l fun y hy => h y (List.mem_cons_of_mem _ hy))
theorem TX_plain (l : Bool) {ps : List LP} (f : Bool) (h : OkPs ps) : TX (plainL l ps f) l ps f := by
  obtain ⟨hne, ho, hm, hl⟩ := h
  refine ⟨decide (ps.length = 1), ps, ps.map plainP, ?_, all2_map ps fun p hp => ?_, hne, ho, by omega, ?_⟩
  · unfold plainL textL
    by_cases h1 : ps.length = 1 <;> simp [h1]
  · cases p with
    | many => rfl
    | marks ms => exact ⟨ms.map plainM, all2_map ms fun m hm' => MF_plain ((ho _ hp).2.1 m hm'), rfl⟩
  · rw [if_neg]
    · exact sqz_self ps [] hm
    · rintro ⟨h1, h2⟩
      rw [decide_eq_true h2] at h1
      cases h1
end Kb
namespace Kb
open Vl
open L2 (ixN atI)
def okc (c : Nat) : Prop := c ≠ 10 ∧ c ≠ 32 ∧ c ≠ 35
theorem sg_okc {c : Nat} (h : c ∈ sg) : okc c := ⟨sg_ne h (by decide), sg_ne h (by decide), sg_ne h (by decide)⟩
theorem okc_of {c : Nat} {l : List Nat} (hl : ∀ c ∈ l, okc c) (h : c ∈ l) : okc c := hl c h
theorem itm_okc {i : Itm} (h : OkItm i) : ∀ c ∈ itmT i, okc c := by
  intro c hc
  cases i with
  | one x =>
    rw [List.mem_singleton.mp hc]
    exact sg_okc h
  | two x y =>
    simp only [itmT, List.mem_cons, List.mem_nil_iff, or_false] at hc
    rcases hc with rfl | rfl | rfl
    · exact sg_okc h.1
    · exact ⟨by decide, by decide, by decide⟩
    · exact sg_okc h.2.1
theorem form_okc {F : Form} (h : OkForm F) : ∀ c ∈ formT F, okc c := by
  intro c hc
  cases F with
  | star => rw [List.mem_singleton.mp hc]; exact ⟨by decide, by decide, by decide⟩
  | any => rw [List.mem_singleton.mp hc]; exact ⟨by decide, by decide, by decide⟩
  | sgn x => rw [List.mem_singleton.mp hc]; exact sg_okc h
  | br less its =>
    simp only [formT, List.mem_append, List.mem_singleton] at hc
    rcases hc with rfl | hc | hc | rfl
    · exact ⟨by decide, by decide, by decide⟩
    · cases less with
      | false => cases hc
      | true =>
        rw [List.mem_singleton.mp hc]
        exact ⟨by decide, by decide, by decide⟩
    · obtain ⟨i, hi, h2⟩ := List.mem_flatMap.mp hc
      exact itm_okc (h.2 i hi) c h2
    · exact ⟨by decide, by decide, by decide⟩
theorem PT_okc {q : LP} {t : List Nat} (h : PT q t) : ∀ c ∈ t, okc c := by
  cases q with
  | many =>
    have : t = [42, 42] := h
    subst this
    intro c hc
    simp only [List.mem_cons, List.mem_nil_iff, or_false, or_self] at hc
    rw [hc]
    exact ⟨by decide, by decide, by decide⟩
  | marks ms =>
    obtain ⟨ts, ha, rfl⟩ := h
    intro c hc
    obtain ⟨s, hs, h2⟩ := List.mem_flatten.mp hc
    clear hc
    induction ha with
    | nil => cases hs
    | cons hm _ ih =>
      rcases List.mem_cons.mp hs with rfl | hs
      · obtain ⟨F, hF, rfl, _, _⟩ := hm
        exact form_okc hF c h2
      · exact ih hs
theorem join_okc {qs : List LP} {ts : List (List Nat)} (h : All2 PT qs ts) : ∀ c ∈ joinN [47] ts, okc c := by
  induction h with
  | nil => intro c hc; cases hc
  | @cons q t qs ts hp ha ih =>
    intro c hc
    cases ha with
    | nil => exact PT_okc hp c hc
    | cons hp2 ha2 =>
      simp only [joinN, List.mem_append, List.mem_singleton] at hc
      rcases hc with hc | rfl | hc
      · exact PT_okc hp c hc
      · exact ⟨by decide, by decide, by decide⟩
      · exact ih c hc
theorem TX.okc {w : List Nat} {l : Bool} {ps : List LP} {f : Bool} (h : TX w l ps f) : (∀ c ∈ w, okc c) ∧ w ≠ [] := by
  obtain ⟨lead, qs, ts, rfl, h1, h2, h3, h4, h5⟩ := h
  constructor
  · intro c hc
    simp only [textL, List.mem_append] at hc
    rcases hc with (hc | hc | hc) | hc
    · cases l with
      | false => cases hc
      | true => rw [List.mem_singleton.mp hc]; exact ⟨by decide, by decide, by decide⟩
    · cases lead with
      | false => cases hc
      | true => rw [List.mem_singleton.mp hc]; exact ⟨by decide, by decide, by decide⟩
    · exact join_okc h1 c hc
    · cases f with
      | false => cases hc
      | true => rw [List.mem_singleton.mp hc]; exact ⟨by decide, by decide, by decide⟩
  · cases h1 with
    | nil => exact absurd rfl h2
    | @cons q t qs ts hp ha =>
      obtain ⟨x, t', rfl, _⟩ := PT_head hp (h3 q (List.mem_cons_self ..))
      unfold textL
      rw [join_tail]
      simp
/-! strip, startswith -/
def stripL (l : List Nat) : List Nat := ((l.dropWhile (· == 32)).reverse.dropWhile (· == 32)).reverse
theorem takeWhile_len_drop (p : Nat → Bool) (l : List Nat) : l.drop (l.takeWhile p).length = l.dropWhile p := by
  induction l with
  | nil => rfl
  | cons x l ih =>
    rw [List.takeWhile_cons, List.dropWhile_cons]
    split
    · exact ih
    · rfl
theorem beq_eq_decide (a b : Nat) : (a == b) = decide (a = b) := by
  by_cases h : a = b <;> simp [h]
theorem strip_eq {a : List Nat} (h : a.length ≤ 16777216) : sStrip a [.str [32]] = some (.str (stripL a)) := by
  have e : (PySem.Txt.stripChars (S a) (S [32])).cps.toList = stripL a := by
    unfold PySem.Txt.stripChars
    rw [PySem.W.stripBy_eq]
    have hg : (S [32]).cps.contains = fun c => c == 32 := by
      funext c
      simp [S, Bool.beq_comm]
      exact (beq_eq_decide c 32).symm
    rw [hg]
    unfold PySem.W.stripped
    rw [PySem.StrLaws.strSub_toList]
    simp only [if_true]
    have hS : (S a).cps.toList = a := rfl
    have hl : (S a).length = a.length := rfl
    rw [hl, takeWhile_len_drop]
    unfold stripL
    generalize hd : a.dropWhile (fun c => c == 32) = d
    have hdl : a.length - (a.takeWhile fun c => c == 32).length = d.length := by
      rw [← hd, ← takeWhile_len_drop, List.length_drop]
    have e1 := takeWhile_len_drop (fun c => c == 32) d.reverse
    rw [← e1, List.drop_reverse, List.reverse_reverse]
    congr 1
    omega
  simp only [sStrip, h, if_true, e]
theorem starts_eq (a : List Nat) : sStarts a [.str [35]] = some (.bl (decide (a.head? = some 35))) := by
  have e : PySem.Txt.startswith (S a) (S [35]) = decide (a.head? = some 35) := by
    unfold PySem.Txt.startswith PySem.Builtin.Str.subAt
    cases a with
    | nil => rfl
    | cons c r =>
      have h1 : (S [35]).length = 1 := rfl
      have h2 : (S (c :: r)).length = r.length + 1 := rfl
      rw [h1, h2]
      have h3 : ((S (c :: r)).cps.extract 0 (0 + 1) == (S [35]).cps) = decide (c = 35) := by
        have : (S (c :: r)).cps.extract 0 (0 + 1) = #[c] := by
          apply Array.toList_inj.mp
          simp [S]
        rw [this]
        simp [S]
        exact beq_eq_decide c 35
      rw [h3]
      simp
  simp only [sStarts, e]
end Kb
namespace Kb
open Vl
open L2 (ixN atI)
theorem dw_rep (a : Nat) (l : List Nat) : (List.replicate a 32 ++ l).dropWhile (· == 32) = l.dropWhile (· == 32) := by
  induction a with
  | zero => rfl
  | succ a ih => rw [List.replicate_succ, List.cons_append, List.dropWhile_cons]; simpa using ih
theorem dw_stop {c : Nat} {l : List Nat} (h : c ≠ 32) : (c :: l).dropWhile (· == 32) = c :: l := by
  rw [List.dropWhile_cons]
  simp [h]
theorem strip_core {core : List Nat} (a b : Nat) {c d : Nat} (h1 : core.head? = some c) (hc : c ≠ 32) (h2 : core.getLast? = some d) (hd : d ≠ 32) : stripL (List.replicate a 32 ++ core ++ List.replicate b 32) = core := by
  unfold stripL
  rw [List.append_assoc, dw_rep]
  obtain ⟨l, rfl⟩ : ∃ l, core = c :: l := by
    cases core with
    | nil => cases h1
    | cons x l =>
      simp only [List.head?_cons, Option.some.injEq] at h1
      exact ⟨l, by rw [h1]⟩
  rw [List.cons_append, dw_stop hc, ← List.cons_append, List.reverse_append, List.reverse_replicate, dw_rep]
  obtain ⟨q, e⟩ := List.getLast?_eq_some_iff.mp h2
  rw [e, List.reverse_append, List.reverse_singleton, List.singleton_append, dw_stop hd, ← List.singleton_append, ← List.reverse_singleton, ← List.reverse_append, List.reverse_reverse]
  rfl
theorem strip_rep (a : Nat) : stripL (List.replicate a 32) = [] := by
  unfold stripL
  have := dw_rep a []
  rw [List.append_nil] at this
  rw [this]
  rfl
def enumG {α : Type} (i : Nat) : List α → List (Nat × α)
  | [] => []
  | m :: ms => (i, m) :: enumG (i + 1) ms
theorem enumG_map {α : Type} (g : α → Da) : ∀ (ms : List α) (i : Nat), enumD i (ms.map g) = (enumG i ms).map fun x => .tup [.int x.1, g x.2]
  | [], _ => rfl
  | m :: ms, i => by rw [List.map_cons]; unfold enumD enumG; rw [enumG_map g ms (i + 1), List.map_cons]
theorem enumG_len {α : Type} : ∀ (ms : List α) (i : Nat), (enumG i ms).length = ms.length
  | [], _ => rfl
  | m :: ms, i => by unfold enumG; rw [List.length_cons, List.length_cons, enumG_len ms]
theorem enumG_in {α : Type} : ∀ (ms : List α) (i : Nat) (x : Nat × α), x ∈ enumG i ms → x.2 ∈ ms
  | [], _, x, h => nomatch h
  | m :: ms, i, x, h => by
    unfold enumG at h
    rcases List.mem_cons.mp h with rfl | h
    · exact List.mem_cons_self ..
    · exact List.mem_cons_of_mem _ (enumG_in ms (i + 1) x h)
theorem enumG_snd {α β : Type} (y : α → β) : ∀ (ms : List α) (i : Nat), (enumG i ms).map (fun x => y x.2) = ms.map y
  | [], _ => rfl
  | m :: ms, i => by unfold enumG; rw [List.map_cons, List.map_cons, enumG_snd y ms]
/-- a text with what it says -/
structure T4 where
  w : List Nat
  l : Bool
  ps : List LP
  f : Bool
def Good (x : T4) : Prop := TX x.w x.l x.ps x.f ∧ OkPs x.ps ∧ x.ps.length ≤ 3
def lnT (x : T4) : Da := lnD x.l x.ps x.f
def plT (x : T4) : List Nat := plainL x.l x.ps x.f
theorem line_at_eq (n : Int) {x : T4} (h : Good x) : f_line_at [.int n, .str x.w] = .ok (lnT x) := by
  have e := line_TX h.1 h.2.2
  have e0 : f_line_at [.int n, .str x.w] = resOf (b_line_at [some (.imm (.int n)), some (.imm (.str x.w)), none]) := rfl
  rw [e0]
  unfold b_line_at
  rw [fSeq_nx (ρ' := [some (.imm (.int n)), some (.imm (.str x.w)), some (.imm (lnT x))]) (by simp only [fAsg, fDef, fCons, fName, mB, mP, List.getElem?_cons_zero, List.getElem?_cons_succ, List.append_nil, e, List.set_cons_zero, List.set_cons_succ, lnT])]
  rfl
theorem plT_len {x : T4} (h : Good x) : (plT x).length ≤ 100000 := (TX_plain x.l x.f h.2.1).len h.2.2
theorem lines_of_eq {xs : List T4} (h : ∀ x ∈ xs, Good x) (hl : xs.length ≤ 100) : f_lines_of [.lst (xs.map fun x => .str x.w)] = .ok (.lst (xs.map lnT)) := by
  have e0 : f_lines_of [.lst (xs.map fun x => .str x.w)] = resOf (b_lines_of [some (.imm (.lst (xs.map fun x => .str x.w))), none, none]) := rfl
  rw [e0]
  have ec := compL_all (vs := [1, 2]) (st := stTup 2 (stCons (stN 1) (stCons (stN 2) stNil))) (e := p1_lines_of) (g := fun x : Nat × T4 => Da.tup [.int x.1, .str x.2.w]) (y := fun x => lnT x.2) (enumG 0 xs)
    [some (.imm (.lst (xs.map fun x => .str x.w))), none, none] (ρw := [some (.imm (.lst (xs.map fun x => .str x.w))), none, none]) rfl (fun x hx => by
      have := line_at_eq x.1 (h x.2 (enumG_in xs 0 x hx))
      refine ⟨_, rfl, ?_, rfl⟩
      simp only [p1_lines_of, fSeq, fAsg, fAsgN, fRet, fRetO, fExpr, fTo, fPar2, fPar3, fAug, fIf, fBin, fBinT, fTru, fAnd, fOr, fNot, fAndV, fOrV, fNotV, fNeg, fName, fPeek, fD, fN, fLst, fTup, fCons, fCall, fCallN, fDef, fFld, fInt, fSl, fIt, fItA, fStuck, fCv, fCn, fCd, stN, stCons, stNil, stTup, mB, mP, mO, look, lookA, asBl, asInt, vAdd, vSub, vMul, vFdiv, vMod, vCmp, vIs, isNon, vAugAdd, fApp, fExt, fMs, fMn, List.getElem?_cons_zero, List.getElem?_cons_succ, List.getElem?_nil, List.set_cons_zero, List.set_cons_succ, List.length_cons, List.length_nil, Option.bind_some, Option.map_some, if_true, if_false, reduceIte, List.nil_append, List.cons_append, List.append_nil, resOf, Nat.reduceAdd, Nat.reduceEqDiff, Nat.reduceLT, Nat.reduceLeDiff, Int.reduceLT, Int.reduceLE, Int.reduceNeg, and_self, true_and, and_true, decide_true, decide_false, Bool.false_eq_true, Bool.not_true, Bool.not_false, Int.reduceAbs, Int.natAbs_neg, or_true, true_or, vIx, vLen, vAbs, vSum, vMax, vMin, decide_eq_true_eq, Bool.not_eq_true, this]) (by rw [enumG_len]; omega)
  rw [enumG_snd lnT] at ec
  have em := enumG_map (fun x : T4 => Da.str x.w) xs 0
  unfold b_lines_of
  rw [fSeq_nx (ρ' := [some (.imm (.lst (xs.map fun x => .str x.w))), none, none]) (by rfl)]
  simp only [fRet, fN, fComp, fItA, fCons, fName, mB, mP, mO, List.getElem?_cons_zero, enumOf, em, ec, resOf]
theorem sum_le {α : Type} (f : α → Nat) (b : Nat) : ∀ (l : List α), (∀ x ∈ l, f x ≤ b) → (l.map f).sum ≤ l.length * b
  | [], _ => by simp
  | x :: l, h => by
    have := sum_le f b l fun y hy => h y (List.mem_cons_of_mem _ hy)
    have h0 := h x (List.mem_cons_self ..)
    simp only [List.map_cons, List.sum_cons, List.length_cons]
    rw [Nat.add_mul]
    omega
theorem written_eq {xs : List T4} (h : ∀ x ∈ xs, Good x) (hl : xs.length ≤ 100) : f_written [.lst (xs.map fun x => .str x.w)] = .ok (.str (xs.map fun x => plT x ++ [10]).flatten) := by
  have e0 : f_written [.lst (xs.map fun x => .str x.w)] = resOf (b_written [some (.imm (.lst (xs.map fun x => .str x.w))), none]) := rfl
  rw [e0]
  have e1 := lines_of_eq h hl
  have ec := compL_strs (vs := [1]) (st := stN 1) (e := p1_written) (g := lnT) (y := fun x => plT x ++ [10]) xs
    [some (.imm (.lst (xs.map fun x => .str x.w))), none] (ρw := [some (.imm (.lst (xs.map fun x => .str x.w))), none]) rfl (fun x hx => by
      have hg := h x hx
      have e3 := meth_eq (m := "plain_form") (F := f_Line_plain_form) (fe := fName 1) (ρ := [some (.imm (.lst (xs.map fun x => .str x.w))), some (.imm (lnT x))]) rfl rfl (plain_form_eq x.l x.f hg.2.1.2.1 (by have := hg.2.2; omega))
      have hlen := plT_len hg
      have y1 : vAdd (.str (plT x)) (.str [10]) = some (.str (plT x ++ [10])) := if_pos (by simp only [List.length_cons, List.length_nil]; omega)
      refine ⟨_, rfl, ?_, rfl⟩
      show p1_written [some (.imm (.lst (xs.map fun x => .str x.w))), some (.imm (lnT x))] = _
      have e4 : fMeth "Line" "plain_form" f_Line_plain_form [] (fName 1) (mP []) [some (.imm (.lst (xs.map fun x => .str x.w))), some (.imm (lnT x))] = .ok (.str (plT x)) [some (.imm (.lst (xs.map fun x => .str x.w))), some (.imm (lnT x))] := e3
      simp only [p1_written, fBin, fD, mB, e4, mP, mO, look, y1]
      rfl) (by omega)
  have hs := sum_le (fun x : T4 => (plT x ++ [10]).length) 100001 xs fun x hx => by
    have := plT_len (h x hx)
    simp only [List.length_append, List.length_cons, List.length_nil]
    omega
  have hs2 : xs.length * 100001 ≤ 100 * 100001 := Nat.mul_le_mul_right 100001 hl
  have ej := sJoin_map [] (xs.map fun x => plT x ++ [10]) (by rw [List.map_map]; simp only [List.length_nil, Nat.mul_zero, Nat.add_zero, Function.comp_def]; omega)
  rw [joinN_nil] at ej
  have ed : fDef f_lines_of [] (fCons (fName 0) (mP [])) [some (.imm (.lst (xs.map fun x => .str x.w))), none] = .ok (.lst (xs.map lnT)) [some (.imm (.lst (xs.map fun x => .str x.w))), none] := by
    simp only [fDef, fCons, fName, mB, mP, List.getElem?_cons_zero, List.append_nil, e1]
  unfold b_written
  generalize fDef f_lines_of [] (fCons (fName 0) (mP [])) = G at ed ⊢
  simp only [fRet, fMs, fCons, fD, fN, fComp, fIt, mB, ed, mP, mO, itemsL, ec, lookA, look, ej, resOf]
/-! reading -/
def RowOk : List Nat → Option T4 → Prop
  | r, none => stripL r = [] ∨ (stripL r).head? = some 35
  | r, some x => stripL r = x.w ∧ Good x
abbrev rdE (T : List Nat) (found : List (List Nat)) (a b c : Option Ce) : Env := [some (.imm (.str T)), some (.lst (found.map .str)), a, b, c]
theorem read_row (T : List Nat) (found : List (List Nat)) (n : Nat) {r : List Nat} {o : Option T4} (c : Option Ce) (h : RowOk r o) (hr : r.length ≤ 16777216) (hl : found.length ≤ 1000) :
    p1_read (rdE T found (some (.imm (.int n))) (some (.imm (.str r))) c) = .ok .nx (rdE T (found ++ (o.map plT).toList) (some (.imm (.int n))) (some (.imm (.str r))) (some (.imm (.str (stripL r))))) := by
  have es := strip_eq hr
  unfold p1_read
  rw [fSeq_nx (ρ' := rdE T found (some (.imm (.int n))) (some (.imm (.str r))) (some (.imm (.str (stripL r))))) (by simp only [rdE, fAsg, fMs, fName, fCons, fD, mB, mP, mO, lookA, look, List.getElem?_cons_zero, List.getElem?_cons_succ, es, List.set_cons_zero, List.set_cons_succ])]
  cases o with
  | none =>
    rw [fIf_f (ρ' := rdE T found (some (.imm (.int n))) (some (.imm (.str r))) (some (.imm (.str (stripL r)))))]
    · simp only [Option.map_none, Option.toList_none, List.append_nil]
      rfl
    · have h' : stripL r = [] ∨ (stripL r).head? = some 35 := h
      generalize stripL r = z at h'
      by_cases hz : z = []
      · simp only [rdE, fAnd, fBinT, fBin, fD, fPeek, mB, mP, mO, look, List.getElem?_cons_zero, List.getElem?_cons_succ, vNe_str, hz, decide_true, Bool.not_true, asBl, Bool.false_eq_true, if_false]
      · have hh := h'.resolve_left hz
        have ha := starts_eq z
        rw [decide_eq_true hh] at ha
        simp only [rdE, fAnd, fNot, fTru, fBinT, fBin, fMs, fName, fCons, fD, fPeek, mB, mP, mO, look, lookA, List.getElem?_cons_zero, List.getElem?_cons_succ, vNe_str, hz, decide_false, Bool.not_false, asBl, if_true, ha, vTru, Bool.not_true]
  | some x =>
    obtain ⟨hx, hg⟩ := h
    rw [hx]
    obtain ⟨hok, hne⟩ := hg.1.okc
    rw [fIf_t (ρ' := rdE T found (some (.imm (.int n))) (some (.imm (.str r))) (some (.imm (.str x.w))))]
    · have el := line_at_eq n hg
      have ed : fDef f_line_at [] (fCons (fName 2) (fCons (fName 4) (mP []))) (rdE T found (some (.imm (.int n))) (some (.imm (.str r))) (some (.imm (.str x.w)))) = .ok (lnT x) (rdE T found (some (.imm (.int n))) (some (.imm (.str r))) (some (.imm (.str x.w)))) := by
        simp only [rdE, fDef, fCons, fName, mB, mP, List.getElem?_cons_zero, List.getElem?_cons_succ, List.append_nil, el]
      have em := meth_eq (m := "plain_form") (F := f_Line_plain_form) ed rfl (plain_form_eq x.l x.f hg.2.1.2.1 (by have := hg.2.2; omega))
      have em' : fMeth "Line" "plain_form" f_Line_plain_form [] (fDef f_line_at [] (fCons (fName 2) (fCons (fName 4) (mP [])))) (mP []) (rdE T found (some (.imm (.int n))) (some (.imm (.str r))) (some (.imm (.str x.w)))) = .ok (.str (plT x)) (rdE T found (some (.imm (.int n))) (some (.imm (.str r))) (some (.imm (.str x.w)))) := em
      generalize fMeth "Line" "plain_form" f_Line_plain_form [] (fDef f_line_at [] (fCons (fName 2) (fCons (fName 4) (mP [])))) (mP []) = G at em'
      have hlm : (found.map Da.str).length < 16777216 := by rw [List.length_map]; omega
      simp only [rdE] at em'
      simp only [rdE, fExpr, fApp, mB, List.getElem?_cons_zero, List.getElem?_cons_succ, em', hlm, if_true, mP, List.set_cons_zero, List.set_cons_succ, Option.map_some, Option.toList_some, List.map_append, List.map_cons, List.map_nil]
    · have hh : ¬ x.w.head? = some 35 := by
        intro e
        have := hok 35 (List.mem_of_mem_head? e)
        exact this.2.2 rfl
      have ha := starts_eq x.w
      rw [decide_eq_false hh] at ha
      simp only [rdE, fAnd, fNot, fTru, fBinT, fBin, fMs, fName, fCons, fD, fPeek, mB, mP, mO, look, lookA, List.getElem?_cons_zero, List.getElem?_cons_succ, vNe_str, hne, decide_false, Bool.not_false, asBl, if_true, ha, vTru]
theorem read_rows (T : List Nat) : ∀ (rows : List (List Nat)) (outs : List (Option T4)) (found : List (List Nat)) (i : Nat) (a b c : Option Ce), All2 RowOk rows outs → (∀ r ∈ rows, r.length ≤ 16777216) → found.length + rows.length ≤ 1000 →
    ∃ a' b' c', forL (stTup 2 (stCons (stN 2) (stCons (stN 3) stNil))) p1_read (enumD i (rows.map .str)) (rdE T found a b c) = .ok .nx (rdE T (found ++ (outs.filterMap id).map plT) a' b' c')
  | _, _, found, i, a, b, c, .nil, _, _ => ⟨a, b, c, by simp only [List.filterMap_nil, List.map_nil, List.append_nil]; rfl⟩
  | r :: rows, o :: outs, found, i, a, b, c, .cons h ha, hr, hl => by
    rw [List.length_cons] at hl
    have hlo : ((o.map plT).toList).length ≤ 1 := by cases o <;> simp
    obtain ⟨a', b', c', e⟩ := read_rows T rows outs (found ++ (o.map plT).toList) (i + 1) (some (.imm (.int i))) (some (.imm (.str r))) (some (.imm (.str (stripL r)))) ha (fun z hz => hr z (List.mem_cons_of_mem _ hz)) (by rw [List.length_append]; omega)
    refine ⟨a', b', c', ?_⟩
    rw [List.map_cons]
    unfold enumD
    rw [forL_cons (ρ1 := rdE T found (some (.imm (.int i))) (some (.imm (.str r))) c) rfl (read_row T found i c h (hr r (List.mem_cons_self ..)) (by omega)), e, List.append_assoc]
    cases o <;> simp
theorem read_body {T : List Nat} {rows : List (List Nat)} {outs : List (Option T4)} (hs : TL.spl [10] 0 [] T = rows) (h : All2 RowOk rows outs) (hT : T.length ≤ 16000000) (hr : ∀ r ∈ rows, r.length ≤ 16777216) (hl : rows.length ≤ 1000) :
    ∃ ρ, b_read [some (.imm (.str T)), none, none, none, none] = .ok (.rn (((outs.filterMap id).map plT).map .str)) ρ := by
  obtain ⟨a', b', c', e⟩ := read_rows T rows outs [] 0 none none none h hr (by simpa using hl)
  rw [List.nil_append] at e
  refine ⟨rdE T ((outs.filterMap id).map plT) a' b' c', ?_⟩
  unfold b_read
  have hT' : T.length ≤ 16777000 := by omega
  rw [fSeq_nx (ρ' := [some (.imm (.str T)), none, none, none, none]) (by rfl), fSeq_nx (ρ' := rdE T [] none none none) (by rfl), fSeq_nx (ρ' := rdE T ((outs.filterMap id).map plT) a' b' c') (by
    rw [← e]
    have hsp : sSplit T [.str [10]] = some (rows.map .str) := by
      simp only [sSplit, hs]
      rw [if_pos ⟨by simp, by decide, hT'⟩]
    simp only [rdE, fFor, fItA, fCons, fN, fMn, fName, fD, mB, mP, mO, lookA, look, List.getElem?_cons_zero, List.getElem?_cons_succ, hsp, enumOf])]
  rfl
theorem read_eq {T : List Nat} {rows : List (List Nat)} {outs : List (Option T4)} (hs : TL.spl [10] 0 [] T = rows) (h : All2 RowOk rows outs) (hT : T.length ≤ 16000000) (hr : ∀ r ∈ rows, r.length ≤ 16777216) (hl : rows.length ≤ 1000) :
    f_read [.str T] = .ok (.lst (((outs.filterMap id).map plT).map .str)) := by
  obtain ⟨ρ, e⟩ := read_body hs h hT hr hl
  have e0 : f_read [.str T] = resOf (b_read [some (.imm (.str T)), none, none, none, none]) := rfl
  rw [e0, e]
  rfl
theorem filterMap_len {α : Type} : ∀ l : List (Option α), (l.filterMap id).length ≤ l.length := fun l => List.length_filterMap_le _ _
theorem readL_eq {T : List Nat} {rows : List (List Nat)} {outs : List (Option T4)} (hs : TL.spl [10] 0 [] T = rows) (h : All2 RowOk rows outs) (hT : T.length ≤ 16000000) (hr : ∀ r ∈ rows, r.length ≤ 16777216) (hl : rows.length ≤ 1000) :
    l_read [.str T] = some (((outs.filterMap id).map plT).map .str) := by
  obtain ⟨ρ, e⟩ := read_body hs h hT hr hl
  have e0 : lsRun 1 5 b_read [.str T] = resL (b_read [some (.imm (.str T)), none, none, none, none]) := rfl
  have h1 := filterMap_len outs
  have h2 := h.length
  unfold l_read lsG
  rw [e0, e]
  simp only [resL, List.length_map]
  rw [if_pos (by omega)]
end Kb
namespace Kb
open Vl
open L2 (ixN atI)
theorem fBinT_of {r : Da → Da → Option Da} {fa fb : EM Pk} {ρ ρ1 ρ2 : Env} {p q : Pk} {a b : Da} {v : Bool} (h1 : fa ρ = .ok p ρ1) (h2 : fb ρ1 = .ok q ρ2) (l1 : look ρ2 p = some a) (l2 : look ρ2 q = some b) (hr : r a b = some (.bl v)) : fBinT r fa fb ρ = .ok v ρ2 := by
  simp only [fBinT, fBin, mB, h1, h2, l1, l2, hr, mO, asBl]
theorem fD_of {f : EM Da} {ρ ρ' : Env} {d : Da} (h : f ρ = .ok d ρ') : fD f ρ = .ok (.d d) ρ' := by
  simp only [fD, mB, h, mP]
theorem fPeek_of {i : Nat} {ρ : Env} {c : Ce} (h : ρ[i]? = some (some c)) : fPeek i ρ = .ok (.s i) ρ := by
  simp only [fPeek, h]
theorem fDef_of {F : List Da → Res} {fa : EM (List Da)} {ρ ρ' : Env} {ds : List Da} {d : Da} (h : fa ρ = .ok ds ρ') (hF : F ds = .ok d) : fDef F [] fa ρ = .ok d ρ' := by
  simp only [fDef, mB, h, List.append_nil, hF]
theorem fOr_f {a b : EM Bool} {ρ ρ' : Env} (h : a ρ = .ok false ρ') : fOr a b ρ = b ρ' := by
  simp only [fOr, mB, h, Bool.false_eq_true, if_false]
theorem joinN_L (ls : List (List Nat)) : joinN [10] ls = TL.joinL [10] ls := by
  induction ls with
  | nil => rfl
  | cons p ls ih =>
    cases ls with
    | nil => rfl
    | cons q r => rw [joinN, ih]; rfl
theorem spl_rows {rows : List (List Nat)} (hne : rows ≠ []) (h : ∀ r ∈ rows, 10 ∉ r) : TL.spl [10] 0 [] (joinN [10] rows) = rows := by
  rw [joinN_L]
  exact TL.spl_join hne h
theorem join_snoc (r : List Nat) : ∀ rows : List (List Nat), rows ≠ [] → joinN [10] (rows ++ [r]) = joinN [10] rows ++ 10 :: r
  | [], h => absurd rfl h
  | [p], _ => by simp [joinN]
  | p :: q :: rs, _ => by
    have := join_snoc r (q :: rs) (by simp)
    rw [List.cons_append, List.cons_append, joinN, joinN, ← List.cons_append, this]
    simp
theorem all2_append {α β : Type} {R : α → β → Prop} : ∀ {as : List α} {bs : List β} {cs : List α} {ds : List β}, All2 R as bs → All2 R cs ds → All2 R (as ++ cs) (bs ++ ds)
  | _, _, _, _, .nil, h => h
  | _, _, _, _, .cons a b, h => .cons a (all2_append b h)
structure RowsOk (rows : List (List Nat)) (xs : List T4) where
  outs : List (Option T4)
  all : All2 RowOk rows outs
  out : outs.filterMap id = xs
  len : ∀ r ∈ rows, r.length ≤ 200000
  nl : ∀ r ∈ rows, 10 ∉ r
theorem Good.core {x : T4} (h : Good x) : ∃ c d, x.w.head? = some c ∧ c ≠ 32 ∧ x.w.getLast? = some d ∧ d ≠ 32 := by
  obtain ⟨hok, hne⟩ := h.1.okc
  exact ⟨x.w.head hne, x.w.getLast hne, List.head?_eq_some_head hne, (hok _ (List.head_mem hne)).2.1, List.getLast?_eq_some_getLast hne, (hok _ (List.getLast_mem hne)).2.1⟩
theorem row_text {x : T4} (h : Good x) (a b : Nat) : RowOk (List.replicate a 32 ++ x.w ++ List.replicate b 32) (some x) := by
  obtain ⟨c, d, h1, h2, h3, h4⟩ := h.core
  exact ⟨strip_core a b h1 h2 h3 h4, h⟩
theorem row_rem {x : T4} (h : Good x) (a : Nat) (mid : List Nat) : RowOk (List.replicate a 32 ++ (35 :: mid ++ x.w)) none := by
  obtain ⟨c, d, h1, h2, h3, h4⟩ := h.core
  have hl : (35 :: mid ++ x.w).getLast? = some d := by
    rw [List.getLast?_append, h3]
    rfl
  have := strip_core (core := 35 :: mid ++ x.w) a 0 (c := 35) rfl (by decide) hl h4
  rw [List.replicate_zero, List.append_nil] at this
  refine .inr ?_
  rw [this]
  rfl
theorem row_sp (a : Nat) : RowOk (List.replicate a 32) none := .inl (strip_rep a)
theorem row_hash : RowOk [35] none := .inr rfl
theorem Good.n10 {x : T4} (h : Good x) : 10 ∉ x.w := fun hm => (h.1.okc.1 10 hm).1 rfl
/-- the plain text of a line, as a text of it -/
def reT (x : T4) : T4 := ⟨plT x, x.l, x.ps, x.f⟩
theorem Good.re {x : T4} (h : Good x) : Good (reT x) := ⟨TX_plain x.l x.f h.2.1, h.2⟩
abbrev trE (xs : List T4) (dr : List Int) (rows : List (List Nat)) (a b c : Option Ce) : Env := [some (.imm (.lst (xs.map fun x => .str x.w))), some (.imm (.lst (xs.map fun x => .str (plT x)))), some (.imm (.lst (dr.map .int))), some (.imm (.lst (xs.map fun x => .str x.w))), none, some (.lst (rows.map .str)), a, b, c]
theorem five {x : T4} (h : Good x) (n : Int) : ∃ e, atI [Da.str [], .str [32, 32, 32], .str ([35] ++ x.w), .str ([32, 32, 35, 32] ++ x.w), .str [35]] (n % 5) = some (.str e) ∧ RowOk e none ∧ e.length ≤ 150000 ∧ 10 ∉ e := by
  have k0 : 0 ≤ n % 5 := Int.emod_nonneg _ (by decide)
  have k1 : n % 5 < 5 := Int.emod_lt_of_pos _ (by decide)
  have hl := h.1.len h.2.2
  have hn := h.n10
  have k : n % 5 = 0 ∨ n % 5 = 1 ∨ n % 5 = 2 ∨ n % 5 = 3 ∨ n % 5 = 4 := by omega
  rcases k with k | k | k | k | k
  · exact ⟨[], by rw [k]; rfl, row_sp 0, by simp, by simp⟩
  · exact ⟨[32, 32, 32], by rw [k]; rfl, row_sp 3, by simp, by simp⟩
  · exact ⟨[35] ++ x.w, by rw [k]; rfl, row_rem h 0 [], by simp; omega, by simp [hn]⟩
  · exact ⟨[32, 32, 35, 32] ++ x.w, by rw [k]; rfl, row_rem h 2 [32], by simp; omega, by simp [hn]⟩
  · exact ⟨[35], by rw [k]; rfl, row_hash, by simp, by simp⟩
theorem rep_flat (a : Nat) : (List.replicate a [32]).flatten = List.replicate a 32 := by
  induction a with
  | zero => rfl
  | succ a ih => rw [List.replicate_succ, List.flatten_cons, ih]; rfl
theorem vMul_sp {k : Int} (h0 : 0 ≤ k) (h1 : k < 3) : vMul (.str [32]) (.int k) = some (.str (List.replicate k.toNat 32)) := by
  have : k < 4294967296 ∧ -4294967296 < k ∧ ([32] : List Nat).length * k.toNat ≤ 16777216 := by
    refine ⟨by omega, by omega, ?_⟩
    simp only [List.length_cons, List.length_nil]
    omega
  simp only [vMul, if_pos this, rep_flat]
theorem tr_row (xs : List T4) (dr : List Int) (rows : List (List Nat)) {x : T4} (n : Int) (c : Option Ce) (h : Good x) (hl : rows.length ≤ 1000) :
    ∃ more, p2__law_texts_right (trE xs dr rows (some (.imm (.str x.w))) (some (.imm (.int n))) c) = .ok .nx (trE xs dr (rows ++ more) (some (.imm (.str x.w))) (some (.imm (.int n))) c) ∧ Nonempty (RowsOk more [x]) ∧ more.length ≤ 2 ∧ more ≠ [] := by
  have hw := h.1.len h.2.2
  obtain ⟨e, e1, e2, e3, e4⟩ := five h n
  have a0 : 0 ≤ n / 10 % 3 := Int.emod_nonneg _ (by decide)
  have a1 : n / 10 % 3 < 3 := Int.emod_lt_of_pos _ (by decide)
  have b0 : 0 ≤ n / 30 % 3 := Int.emod_nonneg _ (by decide)
  have b1 : n / 30 % 3 < 3 := Int.emod_lt_of_pos _ (by decide)
  have va := vMul_sp a0 a1
  have vb := vMul_sp b0 b1
  have ha2 : (n / 10 % 3).toNat ≤ 2 := by omega
  have hb2 : (n / 30 % 3).toNat ≤ 2 := by omega
  generalize (n / 10 % 3).toNat = p at va ha2
  generalize (n / 30 % 3).toNat = q at vb hb2
  have w1 : vAdd (.str [35]) (.str x.w) = some (.str ([35] ++ x.w)) := if_pos (by simp only [List.length_cons, List.length_nil]; omega)
  have w2 : vAdd (.str [32, 32, 35, 32]) (.str x.w) = some (.str ([32, 32, 35, 32] ++ x.w)) := if_pos (by simp only [List.length_cons, List.length_nil]; omega)
  have w3 : vAdd (.str (List.replicate p 32)) (.str x.w) = some (.str (List.replicate p 32 ++ x.w)) := if_pos (by rw [List.length_replicate]; omega)
  have w4 : vAdd (.str (List.replicate p 32 ++ x.w)) (.str (List.replicate q 32)) = some (.str (List.replicate p 32 ++ x.w ++ List.replicate q 32)) := if_pos (by rw [List.length_append, List.length_replicate, List.length_replicate]; omega)
  have txt := row_text h p q
  have tlen : (List.replicate p 32 ++ x.w ++ List.replicate q 32).length ≤ 200000 := by
    simp only [List.length_append, List.length_replicate]
    omega
  have t10 : 10 ∉ List.replicate p 32 ++ x.w ++ List.replicate q 32 := by
    simp only [List.mem_append, List.mem_replicate, not_or]
    exact ⟨⟨by simp, h.n10⟩, by simp⟩
  generalize hrow : List.replicate p 32 ++ x.w ++ List.replicate q 32 = row at w4 txt tlen t10
  have z5 : (5 : Nat) ≤ 16777216 := by decide
  have z1 : (1 : Nat) ≤ 16777216 := by decide
  have part2 : ∀ rows : List (List Nat), rows.length < 16777216 → fExpr (fApp 5 (fBin vAdd (fD (fBin vAdd (fD (fBin vMul (fD (mP (.str [32]))) (fD (fBin vMod (fD (fBin vFdiv (fPeek 7) (fD (mP (.int 10))))) (fD (mP (.int 3))))))) (fPeek 6))) (fD (fBin vMul (fD (mP (.str [32]))) (fD (fBin vMod (fD (fBin vFdiv (fPeek 7) (fD (mP (.int 30))))) (fD (mP (.int 3))))))))) (trE xs dr rows (some (.imm (.str x.w))) (some (.imm (.int n))) c)
      = .ok .nx (trE xs dr (rows ++ [row]) (some (.imm (.str x.w))) (some (.imm (.int n))) c) := by
    intro rows hr
    have hlm : (rows.map Da.str).length < 16777216 := by rw [List.length_map]; exact hr
    simp only [trE, fExpr, fApp, fBin, fD, fPeek, mB, mP, mO, look, List.getElem?_cons_zero, List.getElem?_cons_succ, vFdiv, vMod, Int.reduceLT, and_self, if_true, va, vb, w3, w4, hlm, List.set_cons_zero, List.set_cons_succ, List.map_append, List.map_cons, List.map_nil]
  have k0 : 0 ≤ n / 5 % 2 := Int.emod_nonneg _ (by decide)
  have k1 : n / 5 % 2 < 2 := Int.emod_lt_of_pos _ (by decide)
  have k : n / 5 % 2 = 0 ∨ n / 5 % 2 = 1 := by omega
  unfold p2__law_texts_right
  rcases k with k | k
  · have hv : vMul (.lst [.str e]) (.int 0) = some (.lst []) := rfl
    have hlm : (rows.map Da.str).length + 0 ≤ 16777216 := by rw [List.length_map]; omega
    refine ⟨[row], ?_, ⟨⟨[some x], .cons txt .nil, rfl, by simpa using tlen, by simpa using t10⟩⟩, by simp, by simp⟩
    rw [fSeq_nx (ρ' := trE xs dr rows (some (.imm (.str x.w))) (some (.imm (.int n))) c) (by
      simp only [trE, fExpr, fExt, fBin, fD, fN, fLst, fCons, fPeek, mB, mP, mO, look, List.getElem?_cons_zero, List.getElem?_cons_succ, vIx, vFdiv, vMod, Int.reduceLT, and_self, if_true, w1, w2, List.length_cons, List.length_nil, Nat.zero_add, Nat.reduceAdd, z5, z1, e1, k, hv, hlm, List.append_nil, List.set_cons_zero, List.set_cons_succ])]
    exact part2 rows (by omega)
  · have hv : vMul (.lst [.str e]) (.int 1) = some (.lst [.str e]) := rfl
    have hlm : (rows.map Da.str).length + 1 ≤ 16777216 := by rw [List.length_map]; omega
    refine ⟨[e, row], ?_, ⟨⟨[none, some x], .cons e2 (.cons txt .nil), rfl, by
      intro r hr
      simp only [List.mem_cons, List.mem_nil_iff, or_false] at hr
      rcases hr with rfl | rfl
      · omega
      · exact tlen, by
      intro r hr
      simp only [List.mem_cons, List.mem_nil_iff, or_false] at hr
      rcases hr with rfl | rfl
      · exact e4
      · exact t10⟩⟩, by simp, by simp⟩
    rw [fSeq_nx (ρ' := trE xs dr (rows ++ [e]) (some (.imm (.str x.w))) (some (.imm (.int n))) c) (by
      simp only [trE, fExpr, fExt, fBin, fD, fN, fLst, fCons, fPeek, mB, mP, mO, look, List.getElem?_cons_zero, List.getElem?_cons_succ, vIx, vFdiv, vMod, Int.reduceLT, and_self, if_true, w1, w2, List.length_cons, List.length_nil, Nat.zero_add, Nat.reduceAdd, z5, z1, e1, k, hv, hlm, List.set_cons_zero, List.set_cons_succ, List.map_append, List.map_cons, List.map_nil])]
    rw [part2 (rows ++ [e]) (by simp; omega), List.append_assoc]
    rfl
theorem tr_rows (xs : List T4) (dr : List Int) (c : Option Ce) : ∀ (ys : List T4) (ds : List Int) (rows : List (List Nat)) (a b : Option Ce), ys.length = ds.length → (∀ x ∈ ys, Good x) → rows.length + 2 * ys.length ≤ 1000 →
    ∃ more a' b', forL (stTup 2 (stCons (stN 6) (stCons (stN 7) stNil))) p2__law_texts_right (zipD (ys.map fun x => .str x.w) (ds.map .int)) (trE xs dr rows a b c) = .ok .nx (trE xs dr (rows ++ more) a' b' c) ∧ Nonempty (RowsOk more ys) ∧ more.length ≤ 2 * ys.length ∧ (ys ≠ [] → more ≠ [])
  | [], ds, rows, a, b, _, _, _ => ⟨[], a, b, by rw [List.append_nil]; cases ds <;> rfl, ⟨⟨[], .nil, rfl, by simp, by simp⟩⟩, by simp, fun h => absurd rfl h⟩
  | y :: ys, d :: ds, rows, a, b, he, hg, hl => by
    rw [List.length_cons] at hl
    obtain ⟨m1, e1, ⟨r1⟩, l1, n1⟩ := tr_row xs dr rows (x := y) d c (hg y (List.mem_cons_self ..)) (by omega)
    obtain ⟨m2, a', b', e2, ⟨r2⟩, l2, n2⟩ := tr_rows xs dr c ys ds (rows ++ m1) (some (.imm (.str y.w))) (some (.imm (.int d))) (by simpa using he) (fun z hz => hg z (List.mem_cons_of_mem _ hz)) (by rw [List.length_append]; omega)
    refine ⟨m1 ++ m2, a', b', ?_, ⟨⟨r1.outs ++ r2.outs, all2_append r1.all r2.all, by rw [List.filterMap_append, r1.out, r2.out]; rfl, fun r hr => (List.mem_append.mp hr).elim (r1.len r) (r2.len r), fun r hr => (List.mem_append.mp hr).elim (r1.nl r) (r2.nl r)⟩⟩, by rw [List.length_append, List.length_cons]; omega, fun _ => by simp [n1]⟩
    rw [List.map_cons, List.map_cons]
    unfold zipD
    rw [forL_cons (ρ1 := trE xs dr rows (some (.imm (.str y.w))) (some (.imm (.int d))) c) rfl e1, e2, List.append_assoc]
  | y :: ys, [], rows, a, b, he, _, _ => by simp at he
end Kb
namespace Kb
open Vl
open L2 (ixN atI)
theorem fMs_of {r : List Nat → List Da → Option Da} {fo : EM Da} {fa : EM (List Pk)} {ρ ρ1 ρ2 : Env} {l : List Nat} {ps : List Pk} {ds : List Da} {d : Da} (h1 : fo ρ = .ok (.str l) ρ1) (h2 : fa ρ1 = .ok ps ρ2) (h3 : lookA ρ2 ps = some ds) (h4 : r l ds = some d) : fMs r fo fa ρ = .ok d ρ2 := by
  simp only [fMs, mB, h1, h2, h3, h4, mO]
theorem fCons1_of {α : Type} {f : EM α} {ρ ρ' : Env} {d : α} (h : f ρ = .ok d ρ') : fCons f (mP []) ρ = .ok [d] ρ' := by
  simp only [fCons, mB, h, mP]
theorem sp_good {rows : List (List Nat)} {xs : List T4} (r : RowsOk rows xs) (hne : rows ≠ []) (hl : rows.length ≤ 60) :
    (joinN [10] rows).length ≤ 15000000 ∧ f_read [.str (joinN [10] rows)] = .ok (.lst ((xs.map plT).map .str)) ∧ l_read [.str (joinN [10] rows)] = some ((xs.map plT).map .str) := by
  have h1 := joinN_len [10] rows
  have h2 := sum_le (fun r : List Nat => r.length) 200000 rows r.len
  have h3 : rows.length * 200000 ≤ 60 * 200000 := Nat.mul_le_mul_right 200000 hl
  simp only [List.length_cons, List.length_nil] at h1
  have hs := spl_rows hne r.nl
  have hr : ∀ z ∈ rows, z.length ≤ 16777216 := fun z hz => by have := r.len z hz; omega
  have e1 := read_eq hs r.all (by omega) hr (by omega)
  have e2 := readL_eq hs r.all (by omega) hr (by omega)
  rw [r.out] at e1 e2
  exact ⟨by omega, e1, e2⟩
theorem plT_re (x : T4) : plT (reT x) = plT x := rfl
theorem plain_rows : ∀ (xs : List T4), (∀ x ∈ xs, Good x) → Nonempty (RowsOk (xs.map plT ++ [[]]) (xs.map reT))
  | [], _ => ⟨⟨[none], .cons (row_sp 0) .nil, rfl, by simp, by simp⟩⟩
  | x :: xs, h => by
    obtain ⟨r⟩ := plain_rows xs fun z hz => h z (List.mem_cons_of_mem _ hz)
    have hx := (h x (List.mem_cons_self ..)).re
    have hrow := row_text hx 0 0
    rw [List.replicate_zero, List.nil_append, List.append_nil] at hrow
    refine ⟨⟨some (reT x) :: r.outs, .cons hrow r.all, by rw [List.filterMap_cons, r.out]; rfl, ?_, ?_⟩⟩
    · intro z hz
      rcases List.mem_cons.mp hz with rfl | hz
      · have := plT_len (h x (List.mem_cons_self ..))
        omega
      · exact r.len z hz
    · intro z hz
      rcases List.mem_cons.mp hz with rfl | hz
      · exact hx.n10
      · exact r.nl z hz
theorem flat_join : ∀ ls : List (List Nat), (ls.map fun l => l ++ [10]).flatten = joinN [10] (ls ++ [[]])
  | [] => rfl
  | [a] => by simp [joinN]
  | a :: b :: ls => by
    have := flat_join (b :: ls)
    rw [List.map_cons, List.flatten_cons, this]
    show a ++ [10] ++ joinN [10] (b :: (ls ++ [[]])) = joinN [10] (a :: b :: (ls ++ [[]]))
    rw [joinN]
    simp
theorem suffix_ok {rows : List (List Nat)} {xs : List T4} (r : RowsOk rows xs) (hne : rows ≠ []) (n : Int) : ∃ (suf : List Nat) (extra : List (List Nat)), atI [Da.str [], .str [10], .str [10, 10, 32, 32], .str [10, 35]] (n % 4) = some (.str suf) ∧ suf.length ≤ 4 ∧ joinN [10] rows ++ suf = joinN [10] (rows ++ extra) ∧ Nonempty (RowsOk (rows ++ extra) xs) ∧ extra.length ≤ 2 := by
  have k0 : 0 ≤ n % 4 := Int.emod_nonneg _ (by decide)
  have k1 : n % 4 < 4 := Int.emod_lt_of_pos _ (by decide)
  have k : n % 4 = 0 ∨ n % 4 = 1 ∨ n % 4 = 2 ∨ n % 4 = 3 := by omega
  have mk : ∀ (extra : List (List Nat)) (os : List (Option T4)), All2 RowOk extra os → os.filterMap id = [] → (∀ z ∈ extra, z.length ≤ 10) → (∀ z ∈ extra, 10 ∉ z) → Nonempty (RowsOk (rows ++ extra) xs) := fun extra os h1 h2 h3 h4 =>
    ⟨⟨r.outs ++ os, all2_append r.all h1, by rw [List.filterMap_append, r.out, h2, List.append_nil], fun z hz => (List.mem_append.mp hz).elim (r.len z) fun q => by have := h3 z q; omega, fun z hz => (List.mem_append.mp hz).elim (r.nl z) (h4 z)⟩⟩
  rcases k with k | k | k | k
  · exact ⟨[], [], by rw [k]; rfl, by simp, by simp, mk [] [] .nil rfl (by simp) (by simp), by simp⟩
  · exact ⟨[10], [[]], by rw [k]; rfl, by simp, by rw [join_snoc _ rows hne], mk [[]] [none] (.cons (row_sp 0) .nil) rfl (by simp) (by simp), by simp⟩
  · refine ⟨[10, 10, 32, 32], [[], [32, 32]], by rw [k]; rfl, by simp, ?_, mk [[], [32, 32]] [none, none] (.cons (row_sp 0) (.cons (row_sp 2) .nil)) rfl (by simp) (by simp), by simp⟩
    have e : rows ++ [[], [32, 32]] = (rows ++ [[]]) ++ [[32, 32]] := by simp
    rw [e, join_snoc _ _ (by simp), join_snoc _ rows hne]
    simp
  · exact ⟨[10, 35], [[35]], by rw [k]; rfl, by simp, by rw [join_snoc _ rows hne], mk [[35]] [none] (.cons row_hash .nil) rfl (by simp) (by simp), by simp⟩
theorem texts_right_eq {xs : List T4} (hg : ∀ x ∈ xs, Good x) (hne : xs ≠ []) (hl : xs.length ≤ 16) {dr : List Int} (hd : xs.length = dr.length) :
    f__law_texts_right [.lst (xs.map fun x => .str x.w), .lst (xs.map fun x => .str (plT x)), .lst (dr.map .int)] = .ok (.bl true) := by
  obtain ⟨rows, a, b, e, ⟨r⟩, hrl, hrn⟩ := tr_rows xs dr none xs dr [] none none hd hg (by simp; omega)
  rw [List.nil_append] at e
  have hrows : rows ≠ [] := hrn hne
  have hd0 : 0 < dr.length := by rw [← hd]; exact List.length_pos_iff.mpr hne
  obtain ⟨d0, _, ed0⟩ := dr_at (dr := dr) 0 (by decide) (by omega)
  obtain ⟨suf, extra, s1, s2, s3, ⟨r2⟩, s4⟩ := suffix_ok r hrows d0
  obtain ⟨j1, j2, j3⟩ := sp_good r hrows (by omega)
  obtain ⟨g1, g2, g3⟩ := sp_good r2 (by simp [hrows]) (by rw [List.length_append]; omega)
  obtain ⟨r3⟩ := plain_rows xs hg
  obtain ⟨w1, w2, w3⟩ := sp_good r3 (by simp) (by rw [List.length_append, List.length_map]; simp; omega)
  have hre : (xs.map reT).map plT = xs.map plT := by rw [List.map_map]; rfl
  rw [hre] at w2
  have ew := written_eq hg (by omega)
  have efl : (xs.map fun x => plT x ++ [10]).flatten = joinN [10] (xs.map plT ++ [[]]) := by
    rw [← flat_join, List.map_map]
    rfl
  rw [efl] at ew
  have epl : (xs.map fun x => Da.str (plT x)) = (xs.map plT).map .str := by rw [List.map_map]; rfl
  have ewl : (xs.map fun x => Da.str x.w) = (xs.map (·.w)).map .str := by rw [List.map_map]; rfl
  have hxl : xs.length ≤ 16777216 := by omega
  have e0 : f__law_texts_right [.lst (xs.map fun x => .str x.w), .lst (xs.map fun x => .str (plT x)), .lst (dr.map .int)] = resOf (b__law_texts_right [some (.imm (.lst (xs.map fun x => .str x.w))), some (.imm (.lst (xs.map fun x => .str (plT x)))), some (.imm (.lst (dr.map .int))), none, none, none, none, none, none]) := rfl
  rw [e0]
  unfold b__law_texts_right
  let E3 : Env := [some (.imm (.lst (xs.map fun x => .str x.w))), some (.imm (.lst (xs.map fun x => .str (plT x)))), some (.imm (.lst (dr.map .int))), some (.imm (.lst (xs.map fun x => .str x.w))), none, none, none, none, none]
  rw [fSeq_nx (ρ' := E3) (by
    simp only [fAsg, fN, fCallN, fCons, fPeek, mB, mP, mO, lookA, look, List.getElem?_cons_zero, vListOf, List.length_map, hxl, if_true, List.set_cons_zero, List.set_cons_succ]
    rfl)]
  have hsum := sum_le (fun x : T4 => (plT x ++ [10]).length) 100001 xs fun x hx => by
    have := plT_len (hg x hx)
    simp only [List.length_append, List.length_cons, List.length_nil]
    omega
  have hs2 : xs.length * 100001 ≤ 16 * 100001 := Nat.mul_le_mul_right 100001 hl
  have ec := compL_strs (vs := [4]) (st := stN 4) (e := p1__law_texts_right) (g := fun x : T4 => Da.str (plT x)) (y := fun x => plT x ++ [10]) xs E3 (ρw := E3) rfl (fun x hx => by
    have := plT_len (hg x hx)
    have y1 : vAdd (.str (plT x)) (.str [10]) = some (.str (plT x ++ [10])) := if_pos (by simp only [List.length_cons, List.length_nil]; omega)
    refine ⟨_, rfl, ?_, rfl⟩
    simp only [E3, p1__law_texts_right, fBin, fD, fPeek, mB, mP, mO, look, List.getElem?_cons_zero, List.getElem?_cons_succ, List.set_cons_zero, List.set_cons_succ, y1]) hxl
  have ej := sJoin_map [] (xs.map fun x => plT x ++ [10]) (by rw [List.map_map]; simp only [List.length_nil, Nat.mul_zero, Nat.add_zero, Function.comp_def]; omega)
  rw [joinN_nil, efl] at ej
  have hz : (0 : Nat) ≤ 16777216 := by decide
  rw [fSeq_nx (ρ' := E3) (by
    rw [fIf_f (ρ' := E3)]
    · rfl
    · rw [fOr_f (ρ' := E3)]
      · exact fBinT_of (fPeek_of (c := .imm (.lst (xs.map fun x => .str x.w))) rfl) (fPeek_of (c := .imm (.lst (xs.map fun x => .str x.w))) rfl) rfl rfl (by rw [ewl, vNe_strs]; simp)
      · exact fBinT_of (fD_of (fDef_of (fCons1_of (show fName 3 E3 = .ok (.lst (xs.map fun x => .str x.w)) E3 from rfl)) ew)) (fD_of (fMs_of (l := []) (ρ1 := E3) rfl (fCons1_of (fD_of (show fN (fComp [4] (fIt itemsL (fName 1)) (stN 4) (mP true) p1__law_texts_right) E3 = .ok (.lst ((xs.map fun x => plT x ++ [10]).map .str)) E3 from by
            have hit : fIt itemsL (fName 1) E3 = .ok (xs.map fun x => .str (plT x)) E3 := rfl
            simp only [fN, fComp, mB, hit, ec, mP]))) rfl ej)) rfl rfl (by rw [vNe_str]; simp))]
  rw [fSeq_nx (ρ' := trE xs dr [] none none none) (by rfl)]
  rw [fSeq_nx (ρ' := trE xs dr rows a b none) (by
    rw [← e]
    simp only [trE, fFor, fItA, fCons, fName, mB, mP, mO, List.getElem?_cons_zero, List.getElem?_cons_succ, zipOf])]
  have jr := sJoin_map [10] rows (by
    have h1 := sum_le (fun r : List Nat => r.length) 200000 rows r.len
    have h3 : rows.length * 200000 ≤ 60 * 200000 := Nat.mul_le_mul_right 200000 (by omega)
    simp only [List.length_cons, List.length_nil]
    omega)
  have ya : vAdd (.str (joinN [10] rows)) (.str suf) = some (.str (joinN [10] (rows ++ extra))) := by
    rw [← s3]
    exact if_pos (by omega)
  have z4 : (4 : Nat) ≤ 16777216 := by decide
  let told : Option Ce := some (.lst ((xs.map plT).map .str))
  rw [fSeq_nx (ρ' := trE xs dr rows a b told) (by
    simp only [trE, told, fAsgN, fDefL, fCons, fBin, fD, fMs, fPeek, fTup, mB, mP, mO, look, lookA, List.getElem?_cons_zero, List.getElem?_cons_succ, jr, vIx, ed0, vMod, Int.reduceLT, if_true, List.length_cons, List.length_nil, Nat.zero_add, Nat.reduceAdd, z4, s1, ya, g3, List.set_cons_zero, List.set_cons_succ])]
  have hpe : ∀ c : Option Ce, (trE xs dr rows a b c)[1]? = some (some (.imm (.lst (xs.map fun x => .str (plT x))))) := fun _ => rfl
  have cmp : vEq true (.lst ((xs.map plT).map .str)) (.lst (xs.map fun x => .str (plT x))) = some (.bl false) := by rw [epl, vNe_strs]; simp
  have cmp2 : vEq false (.lst ((xs.map plT).map .str)) (.lst (xs.map fun x => .str (plT x))) = some (.bl true) := by rw [epl, vEq_strs]; simp
  rw [fSeq_nx (ρ' := trE xs dr rows a b told) (by
    rw [fIf_f (ρ' := trE xs dr rows a b told)]
    · rfl
    · rw [fOr_f (ρ' := trE xs dr rows a b told) (by rfl), fOr_f (ρ' := trE xs dr rows a b told)]
      · exact fBinT_of (fD_of (fDef_of (fCons1_of (fDef_of (fCons1_of (show fName 0 (trE xs dr rows a b told) = .ok (.lst (xs.map fun x => .str x.w)) (trE xs dr rows a b told) from rfl)) ew)) w2)) (fPeek_of (hpe told)) rfl rfl cmp
      · exact fBinT_of (fPeek_of (c := .lst ((xs.map plT).map .str)) rfl) (fPeek_of (hpe told)) rfl rfl cmp)]
  have hlm : ((xs.map plT).map Da.str).length < 16777216 := by rw [List.length_map, List.length_map]; omega
  rw [fSeq_nx (ρ' := trE xs dr rows a b (some (.lst ((xs.map plT).map .str ++ [.str []])))) (by
    simp only [trE, told, fExpr, fApp, mB, mP, List.getElem?_cons_zero, List.getElem?_cons_succ, hlm, if_true, List.set_cons_zero, List.set_cons_succ])]
  have er : fDef f_read [] (fCons (fMs sJoin (mP (.str [10])) (fCons (fPeek 5) (mP []))) (mP [])) (trE xs dr rows a b (some (.lst ((xs.map plT).map .str ++ [.str []])))) = .ok (.lst ((xs.map plT).map .str)) (trE xs dr rows a b (some (.lst ((xs.map plT).map .str ++ [.str []])))) :=
    fDef_of (fCons1_of (fMs_of (l := [10]) (ρ1 := trE xs dr rows a b (some (.lst ((xs.map plT).map .str ++ [.str []])))) rfl (fCons1_of (fPeek_of (c := .lst (rows.map .str)) rfl)) rfl jr)) j2
  generalize fDef f_read [] (fCons (fMs sJoin (mP (.str [10])) (fCons (fPeek 5) (mP []))) (mP [])) = G at er ⊢
  simp only [trE] at er
  simp only [trE, fRet, fBin, fD, fPeek, mB, er, mP, mO, look, List.getElem?_cons_zero, List.getElem?_cons_succ, cmp2, resOf]
end Kb
namespace Kb
open Vl
open L2 (ixN atI)
abbrev lwE (ms : List Int) (pool : List Nat) (xs : List T4) (a b c d e f : Option Ce) : Env := [some (.imm (.lst (ms.map .int))), some (.imm (.str pool)), some (.lst (xs.map fun x => .str x.w)), some (.lst (xs.map fun x => .str (plT x))), a, b, c, d, e, f]
theorem lw_text (ms : List Int) (pool : List Nat) (xs : List T4) (a : Option Ce) {l : Bool} {ps : List LP} {f : Bool} (n : Int) (y z : Option Ce) (ho : OkPs ps) (hp : ps.length ≤ 3) (hl : xs.length ≤ 1000) :
    ∃ x y' z', Good x ∧ p1_law (lwE ms pool xs a (some (.imm (daL l ps f))) (some (.imm (.str (plainL l ps f)))) (some (.imm (.int n))) y z) = .ok .nx (lwE ms pool (xs ++ [x]) a (some (.imm (daL l ps f))) (some (.imm (.str (plainL l ps f)))) (some (.imm (.int n))) y' z') := by
  obtain ⟨lead, qs, ts, e, h1, h2, h3, h4, h5⟩ := other_line_ok l f ho n
  have tx : TX (textL l lead ts f) l ps f := ⟨lead, qs, ts, rfl, h1, h2, h3, h4, h5⟩
  generalize textL l lead ts f = w at e tx
  have e2 := plain_TX tx ho.2.1 hp
  have e3 := plain_TX (TX_plain l f ho) ho.2.1 hp
  refine ⟨⟨w, l, ps, f⟩, some (.imm (.str w)), some (.imm (.str (plainL l ps f))), ⟨tx, ho, hp⟩, ?_⟩
  unfold p1_law
  let R : Env := lwE ms pool xs a (some (.imm (daL l ps f))) (some (.imm (.str (plainL l ps f)))) (some (.imm (.int n))) (some (.imm (.str w))) (some (.imm (.str (plainL l ps f))))
  rw [fSeq_nx (ρ' := lwE ms pool xs a (some (.imm (daL l ps f))) (some (.imm (.str (plainL l ps f)))) (some (.imm (.int n))) (some (.imm (.str w))) z) (by
      simp only [lwE, fAsg, fDef, fCons, fName, mB, mP, List.getElem?_cons_zero, List.getElem?_cons_succ, List.append_nil, e, List.set_cons_zero, List.set_cons_succ]),
    fSeq_nx (ρ' := R) (by
      simp only [lwE, R, fAsg, fDef, fCons, fName, mB, mP, List.getElem?_cons_zero, List.getElem?_cons_succ, List.append_nil, e2, List.set_cons_zero, List.set_cons_succ]),
    fSeq_nx (ρ' := R) (by
      rw [fIf_f (ρ' := R)]
      · rfl
      · rw [fOr_f (ρ' := R) (by rfl), fOr_f (ρ' := R)]
        · exact fBinT_of (fD_of (fDef_of (fCons1_of (show fName 6 R = .ok (.str (plainL l ps f)) R from rfl)) e3)) (fPeek_of (c := .imm (.str (plainL l ps f))) rfl) rfl rfl (by rw [vNe_str]; simp)
        · exact fBinT_of (fPeek_of (c := .imm (.str (plainL l ps f))) rfl) (fPeek_of (c := .imm (.str (plainL l ps f))) rfl) rfl rfl (by rw [vNe_str]; simp))]
  have hl1 : (xs.map fun x => Da.str x.w).length < 16777216 := by rw [List.length_map]; omega
  have hl2 : (xs.map fun x => Da.str (plT x)).length < 16777216 := by rw [List.length_map]; omega
  simp only [lwE, R, fSeq, fExpr, fApp, fName, mB, mP, List.getElem?_cons_zero, List.getElem?_cons_succ, hl1, hl2, if_true, List.set_cons_zero, List.set_cons_succ, List.map_append, List.map_cons, List.map_nil]
  rfl
theorem lw_texts (ms : List Int) (pool : List Nat) (a : Option Ce) {l : Bool} {ps : List LP} {f : Bool} (ho : OkPs ps) (hp : ps.length ≤ 3) : ∀ (ds : List Int) (xs : List T4) (n y z : Option Ce), xs.length + ds.length ≤ 1000 → (∀ x ∈ xs, Good x) →
    ∃ more n' y' z', (∀ x ∈ xs ++ more, Good x) ∧ more.length = ds.length ∧ forL (stN 7) p1_law (ds.map .int) (lwE ms pool xs a (some (.imm (daL l ps f))) (some (.imm (.str (plainL l ps f)))) n y z) = .ok .nx (lwE ms pool (xs ++ more) a (some (.imm (daL l ps f))) (some (.imm (.str (plainL l ps f)))) n' y' z')
  | [], xs, n, y, z, _, hg => ⟨[], n, y, z, by rw [List.append_nil]; exact hg, rfl, by rw [List.append_nil]; rfl⟩
  | d :: ds, xs, n, y, z, hl, hg => by
    rw [List.length_cons] at hl
    obtain ⟨x, y1, z1, gx, e1⟩ := lw_text ms pool xs a d y z (l := l) (f := f) ho hp (by omega)
    obtain ⟨more, n', y', z', g2, l2, e2⟩ := lw_texts ms pool a (l := l) (f := f) ho hp ds (xs ++ [x]) (some (.imm (.int d))) y1 z1 (by rw [List.length_append, List.length_singleton]; omega) (fun q hq => (List.mem_append.mp hq).elim (hg q) fun h => by rw [List.mem_singleton.mp h]; exact gx)
    rw [List.append_assoc] at g2 e2
    refine ⟨[x] ++ more, n', y', z', g2, by simp [l2], ?_⟩
    rw [List.map_cons, forL_cons (ρ1 := lwE ms pool xs a (some (.imm (daL l ps f))) (some (.imm (.str (plainL l ps f)))) (some (.imm (.int d))) y z) rfl e1, e2]
theorem lw_line (ms : List Int) {pool : List Nat} (hl : pool.length = 4) (hs : ∀ c ∈ pool, c ∈ sg) (xs : List T4) {t : Int} (ht : 0 ≤ t) (b c d e f : Option Ce) (hx : xs.length ≤ 100) (hg : ∀ x ∈ xs, Good x) :
    ∃ more b' c' d' e' f', (∀ x ∈ xs ++ more, Good x) ∧ more.length = 2 ∧ p2_law (lwE ms pool xs (some (.imm (.int t))) b c d e f) = .ok .nx (lwE ms pool (xs ++ more) (some (.imm (.int t))) b' c' d' e' f') := by
  obtain ⟨l, ps, fo, e1, h1, h2⟩ := line_ok ms ht hl hs
  have e2 := law_plain_eq l fo h1.2.1 (by omega)
  have e3 := digs_eq ms (t + 1) 2 100000 (by omega) (by decide) (by decide) (by decide) (by decide)
  obtain ⟨more, n', y', z', g, gl, e4⟩ := lw_texts ms pool (some (.imm (.int t))) (l := l) (f := fo) h1 h2 (digP ms (t + 1) 2 100000) xs d e f (by rw [digP_len]; simp; omega) hg
  refine ⟨more, some (.imm (daL l ps fo)), some (.imm (.str (plainL l ps fo))), n', y', z', g, by rw [gl, digP_len]; rfl, ?_⟩
  unfold p2_law
  rw [fSeq_nx (ρ' := lwE ms pool xs (some (.imm (.int t))) (some (.imm (daL l ps fo))) c d e f) (by
      simp only [lwE, fAsg, fDef, fCons, fName, mB, mP, List.getElem?_cons_zero, List.getElem?_cons_succ, List.append_nil, e1, List.set_cons_zero, List.set_cons_succ]),
    fSeq_nx (ρ' := lwE ms pool xs (some (.imm (.int t))) (some (.imm (daL l ps fo))) (some (.imm (.str (plainL l ps fo)))) d e f) (by
      simp only [lwE, fAsg, fDef, fCons, fName, mB, mP, List.getElem?_cons_zero, List.getElem?_cons_succ, List.append_nil, e2, List.set_cons_zero, List.set_cons_succ])]
  rw [← e4]
  simp only [lwE, fFor, fIt, fDef, fCons, fName, fBin, fD, fPeek, mB, mP, mO, look, List.getElem?_cons_zero, List.getElem?_cons_succ, vAdd, List.append_nil, e3, itemsL]
end Kb
namespace Kb
open Vl
open L2 (ixN atI)
theorem lw_loop (ms : List Int) {pool : List Nat} (hl : pool.length = 4) (hs : ∀ c ∈ pool, c ∈ sg) : ∀ (cnt : Nat) (t : Int) (xs : List T4) (a b c d e f : Option Ce), 0 ≤ t → xs.length + 2 * cnt ≤ 16 → (∀ x ∈ xs, Good x) →
    ∃ more a' b' c' d' e' f', (∀ x ∈ xs ++ more, Good x) ∧ more.length = 2 * cnt ∧ forL (stN 4) p2_law (rangeD t cnt) (lwE ms pool xs a b c d e f) = .ok .nx (lwE ms pool (xs ++ more) a' b' c' d' e' f')
  | 0, t, xs, a, b, c, d, e, f, _, _, hg => ⟨[], a, b, c, d, e, f, by rw [List.append_nil]; exact hg, rfl, by rw [List.append_nil, rangeD_zero]; rfl⟩
  | cnt + 1, t, xs, a, b, c, d, e, f, ht, hx, hg => by
    obtain ⟨m1, b1, c1, d1, e1, f1, g1, l1, q1⟩ := lw_line ms hl hs xs ht b c d e f (by omega) hg
    obtain ⟨m2, a', b', c', d', e', f', g2, l2, q2⟩ := lw_loop ms hl hs cnt (t + 1) (xs ++ m1) (some (.imm (.int t))) b1 c1 d1 e1 f1 (by omega) (by rw [List.length_append]; omega) g1
    rw [List.append_assoc] at g2 q2
    refine ⟨m1 ++ m2, a', b', c', d', e', f', g2, by rw [List.length_append]; omega, ?_⟩
    rw [rangeD_succ, forL_cons (ρ1 := lwE ms pool xs (some (.imm (.int t))) b c d e f) rfl q1, q2]
theorem end1 : f_written [.lst []] = .ok (.str []) := written_eq (xs := []) (by simp) (by simp)
theorem end2 : f_read [.str []] = .ok (.lst []) := read_eq (rows := [[]]) (outs := [none]) rfl (.cons (row_sp 0) .nil) (by simp) (by simp) (by simp)
theorem end3 : f_read [.str [35, 97, 10, 32, 10]] = .ok (.lst []) := read_eq (rows := [[35, 97], [32], []]) (outs := [none, none, none]) rfl (.cons (.inr rfl) (.cons (row_sp 1) (.cons (row_sp 0) .nil))) (by simp) (by simp) (by simp)
theorem sgA : MF [97] [97] := ⟨.sgn 97, by show (97 : Nat) ∈ sg; decide, rfl, rfl, by simp⟩
theorem okA : OkPs [.many, .marks [[97]]] := ⟨by simp, fun p hp => by
    simp only [List.mem_cons, List.mem_nil_iff, or_false] at hp
    rcases hp with rfl | rfl
    · trivial
    · exact ⟨by simp, fun m hm => by rw [List.mem_singleton.mp hm]; exact IsM_one (by decide), trivial, by simp⟩, ⟨by simp [isMany], trivial⟩, by simp⟩
theorem gdA : Good ⟨[97], false, [.many, .marks [[97]]], false⟩ := ⟨⟨false, [.marks [[97]]], [[97]], rfl, .cons ⟨[[97]], .cons sgA .nil, rfl⟩ .nil, by simp, fun q hq => by rw [List.mem_singleton.mp hq]; exact okA.2.1 _ (by simp), by simp, rfl⟩, okA, by simp⟩
theorem end4 : f_read [.str [32, 97]] = .ok (.lst [.str [42, 42, 47, 97]]) := read_eq (rows := [[32, 97]]) (outs := [some ⟨[97], false, [.many, .marks [[97]]], false⟩]) rfl (.cons (row_text gdA 1 0) .nil) (by simp) (by simp) (by simp)
end Kb
namespace Kb
open Vl
open L2 (ixN atI)
theorem cutD_to {α : Type} (m : List α) : cutD m none (some 63) = m.take 63 := by
  unfold cutD
  rw [HT.sIx_none]
  have : HT.sIx m.length m.length (some 63) = min 63 m.length := HT.sIx_nat m.length m.length 63
  rw [this, List.drop_zero, Nat.sub_zero]
  by_cases h : 63 ≤ m.length
  · rw [Nat.min_eq_left h]
  · rw [Nat.min_eq_right (by omega), List.take_length, List.take_of_length_le (by omega)]
theorem fCons_of {α : Type} {f : EM α} {g : EM (List α)} {ρ ρ1 ρ2 : Env} {d : α} {ds : List α} (h1 : f ρ = .ok d ρ1) (h2 : g ρ1 = .ok ds ρ2) : fCons f g ρ = .ok (d :: ds) ρ2 := by
  simp only [fCons, mB, h1, h2, mP]
theorem fCall_of {r : List Da → Option Da} {fa : EM (List Pk)} {ρ ρ1 : Env} {ps : List Pk} {ds : List Da} {d : Da} (h : fa ρ = .ok ps ρ1) (l : lookA ρ1 ps = some ds) (hr : r ds = some d) : fCall r fa ρ = .ok d ρ1 := by
  simp only [fCall, mB, h, l, hr, mO]
theorem fItA_of {r : List Da → Option (List Da)} {f : EM (List Da)} {ρ ρ1 : Env} {ds l : List Da} (h : f ρ = .ok ds ρ1) (hr : r ds = some l) : fItA r f ρ = .ok l ρ1 := by
  simp only [fItA, mB, h, hr, mO]
theorem rng2_ok (k : Int) (h2 : 2 ≤ k) (h9 : k ≤ 9) : rng2 [.int 1, .int k] = some (rangeD 1 (k - 1).toNat) := by
  unfold rng2
  exact if_pos ⟨by omega, by omega, by omega, by omega⟩
theorem vMin_eq (a b : Int) : vMin [.int a, .int b] = some (.int (if b < a then b else a)) := id rfl
theorem vMax_eq (a b : Int) : vMax [.int a, .int b] = some (.int (if b > a then b else a)) := id rfl
theorem vLen_L (xs : List Da) : vLen [.lst xs] = some (.int xs.length) := id rfl
theorem rng_at {ρ : Env} {xs : List Da} (h : ρ[0]? = some (some (.imm (.lst xs)))) : ∃ m : Int, (fItA rng2 (fCons (mP (.int 1)) (fCons (fCall vMax (fCons (fD (mP (.int 2))) (fCons (fD (fCall vMin (fCons (fD (mP (.int 9))) (fCons (fD (fCall vLen (fCons (fPeek 0) (mP [])))) (mP []))))) (mP [])))) (mP [])))) ρ = .ok (rangeD 1 (m - 1).toNat) ρ ∧ 2 ≤ m ∧ m ≤ 9 := by
  have e1 : fCall vLen (fCons (fPeek 0) (mP [])) ρ = .ok (.int xs.length) ρ :=
    fCall_of (fCons_of (fPeek_of h) rfl) (show lookA ρ [.s 0] = some [.lst xs] by simp only [lookA, look, h]) (vLen_L xs)
  have e2 := fCall_of (fCons_of (fD_of (show mP (Da.int 9) ρ = .ok (.int 9) ρ from rfl)) (fCons_of (fD_of e1) rfl)) (show lookA ρ [.d (.int 9), .d (.int xs.length)] = some [.int 9, .int xs.length] from rfl) (vMin_eq 9 xs.length)
  generalize hq : (if (xs.length : Int) < 9 then (xs.length : Int) else 9) = q at e2
  have q9 : q ≤ 9 := by split at hq <;> omega
  have e3 := fCall_of (fCons_of (fD_of (show mP (Da.int 2) ρ = .ok (.int 2) ρ from rfl)) (fCons_of (fD_of e2) rfl)) (show lookA ρ [.d (.int 2), .d (.int q)] = some [.int 2, .int q] from rfl) (vMax_eq 2 q)
  generalize hr : (if q > 2 then q else 2) = r at e3
  have r2 : 2 ≤ r := by split at hr <;> omega
  have r9 : r ≤ 9 := by split at hr <;> omega
  exact ⟨r, fItA_of (fCons_of (show mP (Da.int 1) ρ = .ok (.int 1) ρ from rfl) (fCons_of e3 rfl)) (rng2_ok r r2 r9), r2, r9⟩
theorem law_eq (ns : List Int) (hn : ns.length ≤ 63) : f_law [.scr ns] = .ok (.bl true) := by
  have e0 : f_law [.scr ns] = resOf (b_law [some (.imm (.scr ns)), none, none, none, none, none, none, none, none, none]) := rfl
  have hn2 : ns.length ≤ 16777216 := by omega
  rw [e0]
  unfold b_law
  have ec : cutD (ns.map Da.int) none (some 63) = (ns.take 63).map .int := by rw [cutD_to, List.map_take]
  rw [fSeq_nx (ρ' := [some (.imm (.lst ((ns.take 63).map .int))), none, none, none, none, none, none, none, none, none]) (by
    simp only [fAsg, fN, fSl, fPeek, fInt, mB, mP, mO, look, asInt, Option.map_some, List.getElem?_cons_zero, vSlL, hn2, if_true, ec, List.set_cons_zero])]
  generalize ns.take 63 = ms
  have ep := pool_eq ms 0 (by decide)
  have hl := poolP_len ms 0
  have hs := poolP_sg ms 0
  generalize poolP ms 0 = pool at ep hl hs
  rw [fSeq_nx (ρ' := lwE ms pool [] none none none none none none) (by
    have z : (0 : Nat) ≤ 16777216 := by decide
    simp only [lwE, fPar3, fCv, fCn, fDef, fCons, fName, fLst, mB, mP, mO, List.getElem?_cons_zero, List.append_nil, ep, List.length_nil, z, if_true, List.set_cons_zero, List.set_cons_succ, List.map_nil])]
  obtain ⟨m, em, m1, m2⟩ := rng_at (ρ := lwE ms pool [] none none none none none none) (xs := ms.map .int) rfl
  obtain ⟨xs, a, b, c, d, e, f, hg, hx, el⟩ := lw_loop ms hl hs (m - 1).toNat 1 [] none none none none none none (by decide) (by simp; omega) (by simp)
  rw [List.nil_append] at hg el
  rw [fSeq_nx (ρ' := lwE ms pool xs a b c d e f) (by simp only [fFor, mB, em, el])]
  have hxl : xs.length ≤ 16 := by omega
  have hxn : xs ≠ [] := by intro q; rw [q] at hx; simp at hx; omega
  have ed := digs_eq ms 3 xs.length 90 (by decide) (by omega) (by omega) (by decide) (by decide)
  have et := texts_right_eq hg hxn hxl (dr := digP ms 3 xs.length 90) (by rw [digP_len]; omega)
  generalize digP ms 3 xs.length 90 = dr at ed et
  let E : Env := [some (.imm (.lst (ms.map .int))), some (.imm (.str pool)), some (.imm (.lst (xs.map fun x => .str x.w))), some (.imm (.lst (xs.map fun x => .str (plT x)))), a, b, c, d, e, f]
  rw [fSeq_nx (ρ' := E) (by
    rw [fIf_f (ρ' := E)]
    · rfl
    · simp only [E, lwE, fNot, fTru, fD, fDef, fCons, fName, fCall, fPeek, mB, mP, mO, look, lookA, List.getElem?_cons_zero, List.getElem?_cons_succ, List.set_cons_zero, List.set_cons_succ, vLen, List.length_map, List.append_nil, ed, et, vTru, Bool.not_true])]
  have v1 : vEq false (.str []) (.str []) = some (.bl true) := rfl
  have v2 : vEq false (.lst []) (.lst []) = some (.bl true) := rfl
  have v3 : vEq false (.lst [.str [42, 42, 47, 97]]) (.lst [.str [42, 42, 47, 97]]) = some (.bl true) := rfl
  have z : (0 : Nat) ≤ 16777216 := by decide
  have z1 : (1 : Nat) ≤ 16777216 := by decide
  simp only [fRet, fAndV, fBin, fD, fN, fLst, fCons, fDef, mB, mP, mO, look, List.length_nil, List.length_cons, Nat.zero_add, z, z1, if_true, List.append_nil, end1, end2, end3, end4, v1, v2, v3, asBl, resOf]
end Kb
open PySem PySem.W PySem.Calls PyProof.Rows
theorem PySem.Challenge.cw_keepback_k01_lines_holds : PySem.Challenge.rw_keepback_k01_lines.Holds := by
  w_on; o_law
  refine HandSHeadRun.head_any (r := OpenLaw.row PySem.Challenge.rw_keepback_k01_lines) (q := view (OpenLaw.row PySem.Challenge.rw_keepback_k01_lines).prog [Kb.Hd.lawAt]) (H := Kb.Hd.hk) (ob := Kb.Hd.ob) (M := 4000) (loose := Kb.Hd.loose) (d := HandSHeadRun.topDef (OpenLaw.row PySem.Challenge.rw_keepback_k01_lines).prog Kb.Hd.lawAt) (kwd := []) Kb.Hd.ob_eq
    (by kernel_rfl) (fun s => by kernel_rfl) Kb.Hd.run (by kernel_rfl) (by kernel_rfl) (by kernel_rfl) (by rfl) (by first | assumption | decide +kernel) (by decide +kernel) ⟨rfl, rfl, rfl, rfl, rfl, by decide +kernel⟩ ?hw ?hc
  case hw => w_witness2
  case hc =>
    refine L2.walk_ofE (l := PySem.Challenge.rw_keepback_k01_lines) (n := 63) (k := 11) (x := "_law_script") (CX := L2.CX0) rfl (by decide) (by kernel_rfl) ⟨rfl, by decide, by decide⟩ ?F (fun _ _ _ _ z => z)
    intro w mg fa h Y G hmg0
    obtain ⟨K, KX, c⟩ := Y
    have hmg : mg ("law" : PySem.Str) = some (.ref fa) := by
      have e : (HandSHeadRun.topDef (OpenLaw.row PySem.Challenge.rw_keepback_k01_lines).prog Kb.Hd.lawAt).name = ("law" : PySem.Str) := by kernel_rfl
      rw [← e]
      exact hmg0
    obtain ⟨fd, hb, hF⟩ := Kb.Hd.law_end (P := (PySem.Challenge.rw_keepback_k01_lines).prog) (w := w) KX G hmg c
    exact ⟨K, fd, Vl.spV K Kb.f_law, KX, hb, fun H a ns hl _ hS => Vl.law_holds (P := (PySem.Challenge.rw_keepback_k01_lines).prog) (w := w) (mg := mg) (base := h) (k := 11) (f := fa) (ps := []) hS (Kb.law_eq ns hl), hF⟩
