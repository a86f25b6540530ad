import PyProof.Rows.All
import Wide.All
import OpenK.AllK
import Wide.FinOn
import HandS.ForMost
import HandS.Defaults
import HandS.Flow
import HandS.HeadHook4
import HandS.Lambda
import HandS.IsInst
import HandS.StrMore
import HandS.New0
import HandS.Style
import HandS.HeadEnd
import HandS.IterVal
import HandS.TupSets
import HandS.TupLe
import HandS.Head2
import Wide.Txt
import KE.KStateDown
import HandS.Ends
import HandS.HeadWalk
import PySem.Challenge.RW_keepback_k05_whole_judged
set_option Elab.async false
set_option linter.all false
set_option maxRecDepth 100000
set_option maxHeartbeats 0
/-! the value layer: data, heaps, states -/
namespace Vl
open PySem PySem.Spec PyProof.Rows L2
/-! ### lambdas: the tables of their makers (T), what they are (L) -/
structure LamD where
  q : Str
  params : Arguments
  body : Expr
  scope : Scope
class LamT where
  T : List (Addr × Str)
  L : Nat → Option LamD
variable [LamT]
/-- a lambda's function object -/
def LamO (f : Addr) (D : LamD) (c' : Addr) (pm ctv : Value) : HO := .ext fun h => h.get? f = some (PySem.W.kla_obj "<lambda>" D.q D.params D.body D.scope [] pm c' ctv)
/-- no table -/
abbrev NT (o : HO) : Prop := ∀ ps, o ≠ .tbl ps
/-- what may be written -/
def WO : HO → Prop
  | .lst _ => True
  | .dK _ => True
  | .dT _ => True
  | .ins _ _ _ => True
  | _ => False
theorem WO.nt {o : HO} (h : WO o) : NT o := fun ps z => by subst z; exact h
theorem WO.nc {o : HO} (h : WO o) (c : Addr) (q : Str) : o ≠ LamX.CodeO c q := fun z => by
  unfold LamX.CodeO at z
  subst z
  exact h
/-- the tables, none of them among what stays, all that they tell is -/
def TbT (G H : Hp) : Prop := ∀ p ∈ LamT.T, G p.1 = none ∧ ∃ ps : Array Value, H p.1 = some (.tbl ps) ∧ TriplesOk ps.toList ∧ ∀ (pos : Pos) (cv : Value), codeAmong pos ps.toList = some cv → ∃ c, cv = .ref c ∧ G c = some (LamX.CodeO c p.2)
theorem TbT.ext {G H H' : Hp} (t : TbT G H) (e : Same H H') : TbT G H' := fun p hp => by
  obtain ⟨h0, ps, h1, h2, h3⟩ := t p hp
  exact ⟨h0, ps, e _ _ h1, h2, h3⟩
theorem TbT.put {G H : Hp} (t : TbT G H) {p : Addr} {o : HO} (ng : G p = none) (nt : ∀ ps, H p ≠ some (.tbl ps)) : TbT (upd G p o) H := fun q hq => by
  obtain ⟨h0, ps, h1, h2, h3⟩ := t q hq
  have n : q.1 ≠ p := fun z => nt ps (by rw [← z]; exact h1)
  refine ⟨by rw [upd_ne n]; exact h0, ps, h1, h2, fun pos cv hc => ?_⟩
  obtain ⟨c, e1, e2⟩ := h3 pos cv hc
  exact ⟨c, e1, by rw [upd_ne (ne_of_none e2 ng)]; exact e2⟩
theorem TbT.write {G H : Hp} (t : TbT G H) {l : Addr} {o o' : HO} (hl : H l = some o) (wo : WO o) : TbT G (upd H l o') := fun p hp => by
  obtain ⟨h0, ps, h1, h2, h3⟩ := t p hp
  have n1 : p.1 ≠ l := fun z => by
    rw [z, hl] at h1
    exact wo.nt ps (Option.some.inj h1)
  exact ⟨h0, ps, by rw [upd_ne n1]; exact h1, h2, h3⟩

/-- signs that there are -/
def Chs (l : List Nat) : Prop := ∀ c ∈ l, c < 1114112
instance (l : List Nat) : Decidable (Chs l) := inferInstanceAs (Decidable (∀ c ∈ l, c < 1114112))
theorem Chs.append {a b : List Nat} (h : Chs a) (k : Chs b) : Chs (a ++ b) := fun c m => (List.mem_append.mp m).elim (h c) (k c)
theorem Chs.sub {a b : List Nat} (h : Chs a) (k : ∀ c ∈ b, c ∈ a) : Chs b := fun c m => h c (k c m)
/-- data -/
inductive Da where
  | non | bl (b : Bool) | int (i : Int) | str (l : List Nat) | lst (xs : List Da) | tup (xs : List Da) | ins (c : Str) (fs : List (Str × Da)) | ty (n : String) | glo (x : Str) | scr (ns : List Int) | lam (n : Nat)
  deriving Inhabited

mutual
/-- a value stands for data, over the objects that stay -/
inductive Rp (K : PySem.W.Frag) (G : Hp) : V → Da → Prop
  | non : Rp K G .non .non
  | bl (b : Bool) : Rp K G (.bl b) (.bl b)
  | int (i : Int) : Rp K G (.int i) (.int i)
  | str {l : List Nat} (h : Chs l) : Rp K G (.str ⟨l.toArray⟩) (.str l)
  | lst {a : Addr} {vs : List V} {ds : List Da} : G a = some (.lst vs) → RpA K G vs ds → Rp K G (.ref a) (.lst ds)
  | tup {a : Addr} {vs : List V} {ds : List Da} : SqT K G a vs → RpA K G vs ds → Rp K G (.ref a) (.tup ds)
  | ins {a dx : Addr} {c : Str} {fs : List (Str × V)} {gs : List (Str × Da)} : G a = some (.ins (He.ga K c) dx fs) → RpF K G fs gs → Rp K G (.ref a) (.ins c gs)
  | ty (n : String) : Rp K G (.ty n) (.ty n)
  | glo (x : Str) : Rp K G (.ref (He.ga K x)) (.glo x)
  | scr {a : Addr} {ns : List Int} (h : SqL K G a (ns.map V.int)) : Rp K G (.ref a) (.scr ns)
  | lam {f c' : Addr} {n : Nat} {D : LamD} {pm ctv : Value} : LamT.L n = some D → G f = some (LamO f D c' pm ctv) → G c' = some (LamX.CodeO c' D.q) → Rp K G (.ref f) (.lam n)
inductive RpA (K : PySem.W.Frag) (G : Hp) : List V → List Da → Prop
  | nil : RpA K G [] []
  | cons {v : V} {vs : List V} {d : Da} {ds : List Da} : Rp K G v d → RpA K G vs ds → RpA K G (v :: vs) (d :: ds)
inductive RpF (K : PySem.W.Frag) (G : Hp) : List (Str × V) → List (Str × Da) → Prop
  | nil : RpF K G [] []
  | cons {x : Str} {v : V} {d : Da} {fs : List (Str × V)} {gs : List (Str × Da)} : Rp K G v d → RpF K G fs gs → RpF K G ((x, v) :: fs) ((x, d) :: gs)
end
section
variable {K : PySem.W.Frag} {G G' H : Hp}
theorem same_t (e : Same G G') {a : Addr} {xs : List V} (h : SqT K G a xs) : SqT K G' a xs := by
  rcases h with (h | ⟨o, h⟩) | h
  · exact .inl (.inl (e _ _ h))
  · exact .inl (.inr ⟨o, e _ _ h⟩)
  · exact .inr h
mutual
theorem Rp.mono (e : Same G G') : ∀ {v : V} {d : Da}, Rp K G v d → Rp K G' v d
  | _, _, .non => .non
  | _, _, .bl b => .bl b
  | _, _, .int i => .int i
  | _, _, .str h => .str h
  | _, _, .lst h r => .lst (e _ _ h) (RpA.mono e r)
  | _, _, .tup h r => .tup (same_t e h) (RpA.mono e r)
  | _, _, .ins h r => .ins (e _ _ h) (RpF.mono e r)
  | _, _, .ty n => .ty n
  | _, _, .glo x => .glo x
  | _, _, .scr h => .scr (e.seq h)
  | _, _, .lam h1 h2 h3 => .lam h1 (e _ _ h2) (e _ _ h3)
theorem RpA.mono (e : Same G G') : ∀ {vs : List V} {ds : List Da}, RpA K G vs ds → RpA K G' vs ds
  | _, _, .nil => .nil
  | _, _, .cons h r => .cons (Rp.mono e h) (RpA.mono e r)
theorem RpF.mono (e : Same G G') : ∀ {fs : List (Str × V)} {gs : List (Str × Da)}, RpF K G fs gs → RpF K G' fs gs
  | _, _, .nil => .nil
  | _, _, .cons h r => .cons (Rp.mono e h) (RpF.mono e r)
end
theorem RpA.length : ∀ {vs : List V} {ds : List Da}, RpA K G vs ds → vs.length = ds.length
  | _, _, .nil => rfl
  | _, _, .cons _ r => congrArg Nat.succ (RpA.length r)
theorem RpA.append : ∀ {vs us : List V} {ds es : List Da}, RpA K G vs ds → RpA K G us es → RpA K G (vs ++ us) (ds ++ es)
  | _, _, _, _, .nil, s => s
  | _, _, _, _, .cons h r, s => .cons h (RpA.append r s)
theorem RpA.get : ∀ {vs : List V} {ds : List Da} {i : Nat} {v : V}, RpA K G vs ds → vs[i]? = some v → ∃ d, ds[i]? = some d ∧ Rp K G v d
  | _, _, _, _, .nil, e => by simp at e
  | _, _, 0, _, .cons h _, e => by simp at e; subst e; exact ⟨_, rfl, h⟩
  | _, _, i + 1, v, .cons _ r, e => by
    obtain ⟨d, h1, h2⟩ := RpA.get (i := i) (v := v) r (by simpa using e)
    exact ⟨d, by simpa using h1, h2⟩
theorem RpA.get' : ∀ {vs : List V} {ds : List Da} {i : Nat} {d : Da}, RpA K G vs ds → ds[i]? = some d → ∃ v, vs[i]? = some v ∧ Rp K G v d
  | _, _, _, _, .nil, e => by simp at e
  | _, _, 0, _, .cons h _, e => by simp at e; subst e; exact ⟨_, rfl, h⟩
  | _, _, i + 1, d, .cons _ r, e => by
    obtain ⟨v, h1, h2⟩ := RpA.get' (i := i) (d := d) r (by simpa using e)
    exact ⟨v, by simpa using h1, h2⟩
theorem RpA.set : ∀ {vs : List V} {ds : List Da} (i : Nat) {v : V} {d : Da}, RpA K G vs ds → Rp K G v d → RpA K G (vs.set i v) (ds.set i d)
  | _, _, _, _, _, .nil, _ => .nil
  | _, _, 0, _, _, .cons _ r, h => .cons h r
  | _, _, i + 1, _, _, .cons q r, h => .cons q (RpA.set i r h)
theorem RpA.take : ∀ {vs : List V} {ds : List Da} (n : Nat), RpA K G vs ds → RpA K G (vs.take n) (ds.take n)
  | _, _, 0, _ => .nil
  | _, _, _ + 1, .nil => .nil
  | _, _, n + 1, .cons h r => .cons h (RpA.take n r)
theorem RpA.drop : ∀ {vs : List V} {ds : List Da} (n : Nat), RpA K G vs ds → RpA K G (vs.drop n) (ds.drop n)
  | _, _, 0, r => r
  | _, _, _ + 1, .nil => .nil
  | _, _, n + 1, .cons _ r => RpA.drop n r
theorem RpF.look : ∀ {fs : List (Str × V)} {gs : List (Str × Da)} (f : Str), RpF K G fs gs → (fs.lookup f = none ∧ gs.lookup f = none) ∨ ∃ v d, fs.lookup f = some v ∧ gs.lookup f = some d ∧ Rp K G v d
  | _, _, _, .nil => .inl ⟨rfl, rfl⟩
  | (x, v) :: fs, (_, d) :: gs, f, .cons h r => by
    cases e : (f == x) with
    | true => exact .inr ⟨v, d, by simp [List.lookup, e], by simp [List.lookup, e], h⟩
    | false => simpa [List.lookup, e] using RpF.look f r
theorem RpF.length : ∀ {fs : List (Str × V)} {gs : List (Str × Da)}, RpF K G fs gs → fs.length = gs.length
  | _, _, .nil => rfl
  | _, _, .cons _ r => congrArg Nat.succ (RpF.length r)

/-! ### heaps: G0, H0 ahead (what stays, all), G, H now; M: what may change though it stood -/
structure Cg (M : Addr → Prop) (G0 H0 G H : Hp) : Prop where
  gg : Same G0 G
  gh : Same G H
  hh : ∀ b o, ¬ M b → H0 b = some o → (nt : NT o := by intro _ z; cases z) → H b = some o
  fr : ∀ b o, G b = some o → G0 b = some o ∨ H0 b = none
  mg : ∀ b, M b → G b = none ∧ ∃ o, H0 b = some o
  nn : ∀ b o, H0 b = some o → ∃ o', H b = some o'
  tb : TbT G0 H0 → TbT G H
theorem Cg.mh {M : Addr → Prop} {G0 H0 G H : Hp} (c : Cg M G0 H0 G H) (b : Addr) (m : M b) : ∃ o, H b = some o := by
  obtain ⟨o, h⟩ := (c.mg b m).2
  exact c.nn b o h
abbrev No : Addr → Prop := fun _ => False
abbrev Cn (G H G' H' : Hp) : Prop := Cg No G H G' H'
theorem Cn.same {G H G' H' : Hp} (c : Cn G H G' H') (b : Addr) (o : HO) (h : H b = some o) (nt : NT o := by intro _ z; cases z) : H' b = some o := c.hh b o (fun z => z) h nt
theorem Cg.gone {M : Addr → Prop} {G0 H0 G H : Hp} (c : Cg M G0 H0 G H) {b : Addr} (h : H b = none) : H0 b = none := by
  cases e : H0 b with
  | none => rfl
  | some u =>
    obtain ⟨o, q⟩ := c.nn b u e
    rw [h] at q
    cases q
theorem Cn.refl (e : Same G H) : Cn G H G H := ⟨Same.refl _, e, fun _ _ _ h _ => h, fun _ _ h => .inl h, fun _ h => h.elim, fun _ o h => ⟨o, h⟩, id⟩
theorem Cg.step {M : Addr → Prop} {G0 H0 G H G1 H1 : Hp} (c : Cg M G0 H0 G H) (s : Cn G H G1 H1) : Cg M G0 H0 G1 H1 where
  gg := c.gg.trans s.gg
  gh := s.gh
  hh := fun b o nm h nt => s.same b o (c.hh b o nm h nt) nt
  fr := fun b o h => by
    rcases s.fr b o h with h1 | h1
    · exact c.fr b o h1
    · exact .inr (c.gone h1)
  mg := fun b m => by
    refine ⟨?_, (c.mg b m).2⟩
    cases e : G1 b with
    | none => rfl
    | some u =>
      rcases s.fr b u e with h1 | h1
      · rw [(c.mg b m).1] at h1
        cases h1
      · obtain ⟨u', hu⟩ := c.mh b m
        rw [h1] at hu
        cases hu
  nn := fun b o h => by
    obtain ⟨o', h'⟩ := c.nn b o h
    exact s.nn b o' h'
  tb := fun t => s.tb (c.tb t)
theorem Cn.trans {G H G1 H1 G2 H2 : Hp} (a : Cn G H G1 H1) (b : Cn G1 H1 G2 H2) : Cn G H G2 H2 := a.step b
/-- a new object that stays -/
theorem Cn.new {G H : Hp} (e : Same G H) {p : Addr} (np : H p = none) (o : HO) : Cn G H (upd G p o) (upd H p o) where
  gg := fun b u h => by
    rw [upd_ne (ne_of_none (e _ _ h) np)]
    exact h
  gh := fun b u h => by
    by_cases hb : b = p
    · subst hb
      rw [upd_same] at h ⊢
      exact h
    · rw [upd_ne hb] at h ⊢
      exact e _ _ h
  hh := fun b u _ h _ => by
    rw [upd_ne (ne_of_none h np)]
    exact h
  fr := fun b u h => by
    by_cases hb : b = p
    · subst hb
      exact .inr np
    · rw [upd_ne hb] at h
      exact .inl h
  mg := fun _ h => h.elim
  nn := fun b u h => ⟨u, by rw [upd_ne (ne_of_none h np)]; exact h⟩
  tb := fun t => (t.put (by cases q : G p with | none => rfl | some o => rw [e _ _ q] at np; cases np) (fun ps z => by rw [np] at z; cases z)).ext fun b u h => by
    rw [upd_ne (ne_of_none h np)]
    exact h
/-- a new object that may change -/
theorem Cn.newM {G H : Hp} (e : Same G H) {p : Addr} (np : H p = none) (o : HO) : Cn G H G (upd H p o) where
  gg := Same.refl _
  gh := fun b u h => by
    rw [upd_ne (ne_of_none (e _ _ h) np)]
    exact e _ _ h
  hh := fun b u _ h _ => by
    rw [upd_ne (ne_of_none h np)]
    exact h
  fr := fun b u h => .inl h
  mg := fun _ h => h.elim
  nn := fun b u h => ⟨u, by rw [upd_ne (ne_of_none h np)]; exact h⟩
  tb := fun t => t.ext fun b u h => by
    rw [upd_ne (ne_of_none h np)]
    exact h
/-- what stands alone is let stay -/
theorem Cn.freeze {G H : Hp} (e : Same G H) {p : Addr} {o : HO} (ng : G p = none) (hp : H p = some o) : Same G (upd G p o) ∧ Same (upd G p o) H := by
  refine ⟨fun b u h => ?_, fun b u h => ?_⟩
  · rw [upd_ne (ne_of_none h ng)]
    exact h
  · by_cases hb : b = p
    · subst hb
      rw [upd_same] at h
      rw [← h]
      exact hp
    · rw [upd_ne hb] at h
      exact e _ _ h
end

/-! ### what a slot holds -/
inductive Ce where
  | imm (d : Da) | lst (ds : List Da) | dic (kvs : List (Key × Da)) | obj (a : Option Nat) (c : Str) (fs : List (Str × Da)) | bls (n : Nat) (ds : List Da)
abbrev Env := List (Option Ce)
def Own (M : Addr → Option Nat) (H0 G H : Hp) (l : Addr) (o : HO) : Prop := G l = none ∧ (H0 l = none ∨ M l ≠ none) ∧ H l = some o
abbrev NoM : Addr → Option Nat := fun _ => none
inductive RpK (K : PySem.W.Frag) (G : Hp) : List (Key × V) → List (Key × Da) → Prop
  | nil : RpK K G [] []
  | cons {x : Key} {v : V} {d : Da} {fs : List (Key × V)} {gs : List (Key × Da)} : Rp K G v d → RpK K G fs gs → RpK K G ((x, v) :: fs) ((x, d) :: gs)
theorem RpK.mono {K : PySem.W.Frag} {G G' : Hp} (e : Same G G') : ∀ {fs : List (Key × V)} {gs : List (Key × Da)}, RpK K G fs gs → RpK K G' fs gs
  | _, _, .nil => .nil
  | _, _, .cons h r => .cons (Rp.mono e h) (RpK.mono e r)
def CeOk (K : PySem.W.Frag) (M : Addr → Option Nat) (H0 G H : Hp) (v : V) : Ce → Prop
  | .imm d => Rp K G v d
  | .lst ds => ∃ l vs, v = .ref l ∧ Own NoM H0 G H l (.lst vs) ∧ RpA K G vs ds
  | .dic kvs => ∃ l ks, v = .ref l ∧ Own M H0 G H l (.dK ks) ∧ RpK K G ks kvs
  | .obj a c gs => ∃ l dx fs, v = .ref l ∧ Own M H0 G H l (.ins (He.ga K c) dx fs) ∧ RpF K G fs gs ∧ ∀ n, a = some n → M l = some n
  | .bls n ds => ∃ p vs, v = .ref p ∧ Own M H0 G H p (.lst vs) ∧ RpA K G vs ds ∧ M p = some n
def isOwn : Ce → Bool
  | .imm _ => false
  | _ => true
theorem Own.any {M : Addr → Option Nat} {H0 G H : Hp} {l : Addr} {o : HO} (w : Own NoM H0 G H l o) : Own M H0 G H l o := ⟨w.1, .inl (w.2.1.elim id fun z => absurd rfl z), w.2.2⟩
theorem CeOk.own {K : PySem.W.Frag} {M : Addr → Option Nat} {H0 G H : Hp} {v : V} {c : Ce} (h : CeOk K M H0 G H v c) (o : isOwn c = true) : ∃ l u, v = .ref l ∧ Own M H0 G H l u := by
  cases c with
  | imm d => cases o
  | lst ds => obtain ⟨l, vs, e, w, _⟩ := h; exact ⟨l, _, e, w.any⟩
  | dic ds => obtain ⟨l, vs, e, w, _⟩ := h; exact ⟨l, _, e, w⟩
  | obj a c ds => obtain ⟨l, dx, vs, e, w, _⟩ := h; exact ⟨l, _, e, w⟩
  | bls n ds => obtain ⟨p, vs, e, w, _⟩ := h; exact ⟨p, _, e, w⟩

/-- what stood: M what may change though it stood, G0 what stays, H0 all; F: what else must not be touched -/
structure Bs where
  M : Addr → Option Nat
  G0 : Hp
  H0 : Hp
  F : Hp
/-- the state: names by slots, heaps -/
structure Stt (K : PySem.W.Frag) (B : Bs) (ρ : Env) (σ : L2.St) (G H : Hp) : Prop where
  cg : Cg (fun a => B.M a ≠ none) B.G0 B.H0 G H
  tg : TbT G H
  pf : ∀ b o, B.F b = some o → (H b = some o ∧ NT o) ∧ G b = none
  sf : ∀ (i : Nat) (c : Ce) (l : Addr), ρ[i]? = some (some c) → isOwn c = true → σ[i]? = some (some (.ref l)) → B.F l = none
  len : σ.length = ρ.length
  sl : ∀ (i : Nat) (c : Ce), ρ[i]? = some (some c) → ∃ v, σ[i]? = some (some v) ∧ CeOk K B.M B.H0 G H v c
  sep : ∀ (i j : Nat) (c d : Ce) (v : V), i ≠ j → ρ[i]? = some (some c) → ρ[j]? = some (some d) → isOwn c = true → isOwn d = true → σ[i]? = some (some v) → σ[j]? = some (some v) → False
section
variable {K : PySem.W.Frag} {B : Bs} {M : Addr → Option Nat} {H0 G H G1 H1 : Hp} {ρ : Env} {σ : L2.St}
theorem Own.step {l : Addr} {o : HO} (w : Own M H0 G H l o) (s : Cn G H G1 H1) (nt : NT o := by intro _ z; cases z) : Own M H0 G1 H1 l o := by
  obtain ⟨w1, w2, w3⟩ := w
  refine ⟨?_, w2, s.same _ _ w3 nt⟩
  cases e : G1 l with
  | none => rfl
  | some u =>
    rcases s.fr l u e with h1 | h1
    · rw [w1] at h1
      cases h1
    · rw [w3] at h1
      cases h1
theorem CeOk.step {v : V} {c : Ce} (h : CeOk K M H0 G H v c) (s : Cn G H G1 H1) : CeOk K M H0 G1 H1 v c := by
  cases c with
  | imm d => exact Rp.mono s.gg h
  | lst ds => obtain ⟨l, vs, e, w, r⟩ := h; exact ⟨l, vs, e, w.step s, r.mono s.gg⟩
  | dic ds => obtain ⟨l, vs, e, w, r⟩ := h; exact ⟨l, vs, e, w.step s, r.mono s.gg⟩
  | obj a c ds => obtain ⟨l, dx, vs, e, w, r, ea⟩ := h; exact ⟨l, dx, vs, e, w.step s, r.mono s.gg, ea⟩
  | bls n ds => obtain ⟨p, vs, e, w, r, en⟩ := h; exact ⟨p, vs, e, w.step s, r.mono s.gg, en⟩
theorem Stt.step (t : Stt K B ρ σ G H) (s : Cn G H G1 H1) : Stt K B ρ σ G1 H1 where
  cg := t.cg.step s
  tg := s.tb t.tg
  pf := fun b o q => by
    obtain ⟨⟨h1, nt⟩, h2⟩ := t.pf b o q
    refine ⟨⟨s.same _ _ h1 nt, nt⟩, ?_⟩
    cases e : G1 b with
    | none => rfl
    | some u =>
      rcases s.fr b u e with z | z
      · rw [h2] at z
        cases z
      · rw [h1] at z
        cases z
  sf := t.sf
  len := t.len
  sl := fun i c h => let ⟨v, e, r⟩ := t.sl i c h; ⟨v, e, r.step s⟩
  sep := t.sep
theorem set_get {α : Type} {l : List α} {i j : Nat} {x y : α} (h : (l.set i x)[j]? = some y) : (i = j ∧ y = x) ∨ (i ≠ j ∧ l[j]? = some y) := by
  by_cases e : i = j
  · subst e
    rw [List.getElem?_set_self'] at h
    cases q : l[i]? with
    | none => rw [q] at h; cases h
    | some z => rw [q] at h; exact .inl ⟨rfl, (Option.some.inj h).symm⟩
  · rw [List.getElem?_set_ne e] at h
    exact .inr ⟨e, h⟩
theorem lt_of_get {α : Type} {l : List α} {i : Nat} {x : α} (h : l[i]? = some x) : i < l.length := (List.getElem?_eq_some_iff.mp h).1
/-- a slot takes a value -/
theorem Stt.set (t : Stt K B ρ σ G H) {i : Nat} {v : V} {c : Ce} (h : CeOk K B.M B.H0 G H v c)
    (hs : isOwn c = true → ∀ j d u, j ≠ i → ρ[j]? = some (some d) → isOwn d = true → σ[j]? = some (some u) → u ≠ v) (hf : isOwn c = true → ∀ l, v = .ref l → B.F l = none) : Stt K B (ρ.set i (some c)) (σ.set i (some v)) G H where
  cg := t.cg
  tg := t.tg
  pf := t.pf
  sf := fun j d l h0 od es => by
    rcases set_get h0 with ⟨rfl, e⟩ | ⟨ne, e⟩
    · cases e
      rcases set_get es with ⟨_, q⟩ | ⟨q, _⟩
      · cases q
        exact hf od l rfl
      · exact absurd rfl q
    · rw [List.getElem?_set_ne ne] at es
      exact t.sf j d l e od es
  len := by rw [List.length_set, List.length_set]; exact t.len
  sl := fun j d h0 => by
    rcases set_get h0 with ⟨rfl, e⟩ | ⟨ne, e⟩
    · have hl := lt_of_get h0
      rw [List.length_set] at hl
      cases e
      exact ⟨v, by rw [List.getElem?_set_self (by rw [t.len]; exact hl)], h⟩
    · obtain ⟨u, e1, e2⟩ := t.sl j d e
      exact ⟨u, by rw [List.getElem?_set_ne ne]; exact e1, e2⟩
  sep := fun a b c' d' u hab ea eb oa ob sa sb => by
    rcases set_get ea with ⟨rfl, e1⟩ | ⟨n1, e1⟩
    · rcases set_get eb with ⟨e2, _⟩ | ⟨n2, e2⟩
      · exact hab e2
      · cases e1
        rcases set_get sa with ⟨_, q⟩ | ⟨q, _⟩
        · cases q
          rw [List.getElem?_set_ne n2] at sb
          exact hs oa b d' v (Ne.symm n2) e2 ob sb rfl
        · exact q rfl
    · rcases set_get eb with ⟨rfl, e2⟩ | ⟨n2, e2⟩
      · cases e2
        rcases set_get sb with ⟨_, q⟩ | ⟨q, _⟩
        · cases q
          rw [List.getElem?_set_ne n1] at sa
          exact hs ob a c' v (Ne.symm n1) e1 oa sa rfl
        · exact q rfl
      · rw [List.getElem?_set_ne n1] at sa
        rw [List.getElem?_set_ne n2] at sb
        exact t.sep a b c' d' u hab e1 e2 oa ob sa sb
theorem Stt.setI (t : Stt K B ρ σ G H) {i : Nat} {v : V} {d : Da} (h : Rp K G v d) : Stt K B (ρ.set i (some (.imm d))) (σ.set i (some v)) G H := t.set (c := .imm d) h (fun q => nomatch q) fun q => nomatch q
/-- a new list in a slot -/
theorem Stt.setNew (t : Stt K B ρ σ G H) {i : Nat} {p : Addr} {o : HO} {c : Ce} (np : H p = none) (h : CeOk K B.M B.H0 G (upd H p o) (.ref p) c) : Stt K B (ρ.set i (some c)) (σ.set i (some (.ref p))) G (upd H p o) := by
  have t1 := t.step (Cn.newM t.cg.gh np o)
  refine t1.set h (fun _ j d u _ e od es q => ?_) fun _ l el => by
    cases el
    cases q : B.F p with
    | none => rfl
    | some u =>
      rw [(t.pf p u q).1.1] at np
      cases np
  obtain ⟨u', e1, e2⟩ := t.sl j d e
  rw [es] at e1
  cases e1
  obtain ⟨l, o', e3, w⟩ := e2.own od
  rw [e3] at q
  cases q
  rw [w.2.2] at np
  cases np
/-- an own object changes -/
theorem Stt.write (t : Stt K B ρ σ G H) {i : Nat} {l : Addr} {o o' : HO} {c c' : Ce} (ei : ρ[i]? = some (some c)) (oc : isOwn c = true) (es : σ[i]? = some (some (.ref l))) (w : Own B.M B.H0 G H l o)
    (h : CeOk K B.M B.H0 G (upd H l o') (.ref l) c') (wo : WO o := by trivial) : Stt K B (ρ.set i (some c')) σ G (upd H l o') where
  cg := {
    gg := t.cg.gg
    gh := fun b u q => by
      rw [upd_ne (ne_of_none q w.1)]
      exact t.cg.gh b u q
    hh := fun b u nm q nt => by
      have nb : b ≠ l := fun z => by
        subst z
        rcases w.2.1 with w2 | w2
        · rw [q] at w2
          cases w2
        · exact nm w2
      rw [upd_ne nb]
      exact t.cg.hh b u nm q nt
    fr := t.cg.fr
    mg := t.cg.mg
    nn := fun b u q => by
      by_cases nb : b = l
      · subst nb
        exact ⟨o', upd_same⟩
      · rw [upd_ne nb]
        exact t.cg.nn b u q
    tb := fun q => (t.cg.tb q).write w.2.2 wo }
  tg := t.tg.write w.2.2 wo
  pf := fun b u q => by
    have nb : b ≠ l := fun z => by
      subst z
      rw [t.sf i c b ei oc es] at q
      cases q
    rw [upd_ne nb]
    exact t.pf b u q
  sf := fun j d l' h0 od es' => by
    rcases set_get h0 with ⟨rfl, e⟩ | ⟨ne, e⟩
    · rw [es] at es'
      cases es'
      exact t.sf _ c _ ei oc es
    · exact t.sf j d l' e od es'
  len := by rw [List.length_set]; exact t.len
  sl := fun j d h0 => by
    rcases set_get h0 with ⟨rfl, e⟩ | ⟨ne, e⟩
    · cases e
      exact ⟨_, es, h⟩
    · obtain ⟨u, e1, e2⟩ := t.sl j d e
      refine ⟨u, e1, ?_⟩
      have nu : isOwn d = true → u ≠ V.ref l := fun od q => t.sep i j c d (.ref l) ne ei e oc od es (q ▸ e1)
      cases d with
      | imm d => exact e2
      | lst ds =>
        obtain ⟨l', vs, e3, w', r⟩ := e2
        have nl : l' ≠ l := fun q => nu rfl (by rw [e3, q])
        exact ⟨l', vs, e3, ⟨w'.1, w'.2.1, by rw [upd_ne nl]; exact w'.2.2⟩, r⟩
      | dic ds =>
        obtain ⟨l', vs, e3, w', r⟩ := e2
        have nl : l' ≠ l := fun q => nu rfl (by rw [e3, q])
        exact ⟨l', vs, e3, ⟨w'.1, w'.2.1, by rw [upd_ne nl]; exact w'.2.2⟩, r⟩
      | obj a c ds =>
        obtain ⟨l', dx, vs, e3, w', r, ea⟩ := e2
        have nl : l' ≠ l := fun q => nu rfl (by rw [e3, q])
        exact ⟨l', dx, vs, e3, ⟨w'.1, w'.2.1, by rw [upd_ne nl]; exact w'.2.2⟩, r, ea⟩
      | bls n ds =>
        obtain ⟨p, vs, e3, w', r, en⟩ := e2
        have nl : p ≠ l := fun q => nu rfl (by rw [e3, q])
        exact ⟨p, vs, e3, ⟨w'.1, w'.2.1, by rw [upd_ne nl]; exact w'.2.2⟩, r, en⟩
  sep := fun a b c1 d1 u hab ea eb oa ob sa sb => by
    have old : ∀ {k : Nat} {z : Ce}, (ρ.set i (some c'))[k]? = some (some z) → isOwn z = true → ∃ z', ρ[k]? = some (some z') ∧ isOwn z' = true := fun {k z} e oz => by
      rcases set_get e with ⟨rfl, _⟩ | ⟨_, e⟩
      · exact ⟨c, ei, oc⟩
      · exact ⟨z, e, oz⟩
    obtain ⟨c2, ec, oc2⟩ := old ea oa
    obtain ⟨d2, ed, od2⟩ := old eb ob
    exact t.sep a b c2 d2 u hab ec ed oc2 od2 sa sb
/-- an own list, a dict stays from now on -/
theorem Stt.freeze (t : Stt K B ρ σ G H) {i : Nat} {ds : List Da} (ei : ρ[i]? = some (some (.lst ds))) :
    ∃ v G1, σ[i]? = some (some v) ∧ Stt K B (ρ.set i (some (.imm (.lst ds)))) σ G1 H ∧ Rp K G1 v (.lst ds) ∧ Same G G1 := by
  obtain ⟨v, es, l, vs, rfl, w, r⟩ := t.sl i _ ei
  obtain ⟨s1, s2⟩ := Cn.freeze t.cg.gh w.1 w.2.2
  have hl0 : B.H0 l = none := by
    rcases w.2.1 with z | z
    · exact z
    · exact absurd rfl z
  have rr : Rp K (upd G l (.lst vs)) (.ref l) (.lst ds) := .lst upd_same (r.mono s1)
  refine ⟨_, _, es, ⟨⟨t.cg.gg.trans s1, s2, fun b o m q nt => t.cg.hh b o m q nt, fun b u q => ?_, fun b m => ?_, t.cg.nn, fun q => (t.cg.tb q).put w.1 (fun ps z => by rw [w.2.2] at z; cases z)⟩, t.tg.put w.1 (fun ps z => by rw [w.2.2] at z; cases z), fun b u q => ?_, fun j d l' h0 od es' => ?_, by rw [List.length_set]; exact t.len, fun j d h0 => ?_, fun a b c1 d1 u hab ea eb oa ob sa sb => ?_⟩, rr, s1⟩
  · by_cases hb : b = l
    · subst hb
      exact .inr hl0
    · rw [upd_ne hb] at q
      exact t.cg.fr b u q
  · refine ⟨?_, (t.cg.mg b m).2⟩
    have hb : b ≠ l := fun z => by
      obtain ⟨o, ho⟩ := (t.cg.mg b m).2
      rw [z, hl0] at ho
      cases ho
    rw [upd_ne hb]
    exact (t.cg.mg b m).1
  · obtain ⟨h1, h2⟩ := t.pf b u q
    have nb : b ≠ l := fun z => by
      subst z
      rw [t.sf i _ b ei rfl es] at q
      cases q
    rw [upd_ne nb]
    exact ⟨h1, h2⟩
  · rcases set_get h0 with ⟨rfl, e⟩ | ⟨ne, e⟩
    · cases e
      cases od
    · exact t.sf j d l' e od es'
  · rcases set_get h0 with ⟨rfl, e⟩ | ⟨ne, e⟩
    · cases e
      exact ⟨_, es, rr⟩
    · obtain ⟨u, e1, e2⟩ := t.sl j d e
      refine ⟨u, e1, ?_⟩
      have nu : isOwn d = true → u ≠ V.ref l := fun od q => t.sep i j _ d (.ref l) ne ei e rfl od es (q ▸ e1)
      cases d with
      | imm d => exact Rp.mono s1 e2
      | lst ds =>
        obtain ⟨l', vs', e3, w', r'⟩ := e2
        have nl : l' ≠ l := fun q => nu rfl (by rw [e3, q])
        exact ⟨l', vs', e3, ⟨by rw [upd_ne nl]; exact w'.1, w'.2⟩, r'.mono s1⟩
      | dic ds =>
        obtain ⟨l', vs', e3, w', r'⟩ := e2
        have nl : l' ≠ l := fun q => nu rfl (by rw [e3, q])
        exact ⟨l', vs', e3, ⟨by rw [upd_ne nl]; exact w'.1, w'.2⟩, r'.mono s1⟩
      | obj a c ds =>
        obtain ⟨l', dx, vs', e3, w', r', ea⟩ := e2
        have nl : l' ≠ l := fun q => nu rfl (by rw [e3, q])
        exact ⟨l', dx, vs', e3, ⟨by rw [upd_ne nl]; exact w'.1, w'.2⟩, r'.mono s1, ea⟩
      | bls n ds =>
        obtain ⟨p, vs', e3, w', r', en⟩ := e2
        have nl : p ≠ l := fun q => nu rfl (by rw [e3, q])
        exact ⟨p, vs', e3, ⟨by rw [upd_ne nl]; exact w'.1, w'.2⟩, r'.mono s1, en⟩
  · have old : ∀ {k : Nat} {z : Ce}, (ρ.set i (some (Ce.imm (.lst ds))))[k]? = some (some z) → isOwn z = true → ρ[k]? = some (some z) := fun {k z} h0 oz => by
      rcases set_get h0 with ⟨rfl, e⟩ | ⟨_, e⟩
      · cases e
        cases oz
      · exact e
    exact t.sep a b c1 d1 u hab (old ea oa) (old eb ob) oa ob sa sb
end
structure Gd (G H : Hp) : Prop where
  s : Same G H
  t : TbT G H
theorem Stt.gd {K : PySem.W.Frag} {B : Bs} {ρ : Env} {σ : L2.St} {G H : Hp} (t : Stt K B ρ σ G H) : Gd G H := ⟨t.cg.gh, t.tg⟩
end Vl
/-! the value layer: outcomes, readings, judgements -/
namespace Vl
variable [LamT]
open PySem PySem.Spec PyProof.Rows L2

structure Exn where
  c : Str
  fs : Option (List (Str × Da))
/-- an outcome -/
inductive Out (α : Type) where
  | stuck | ok (a : α) (ρ : Env) | exn (e : Exn) (ρ : Env)
abbrev EM (α : Type) := Env → Out α
def mB {α β : Type} (x : EM α) (f : α → EM β) : EM β := fun ρ => match x ρ with
  | .ok a ρ' => f a ρ'
  | .exn e ρ' => .exn e ρ'
  | .stuck => .stuck
def mP {α : Type} (a : α) : EM α := fun ρ => .ok a ρ
def mO {α : Type} (o : Option α) : EM α := fun ρ => match o with
  | some a => .ok a ρ
  | none => .stuck
def Sat {α : Type} (o : Out α) (R : α → Env → Prop) (E : Exn → Env → Prop) : Prop := match o with
  | .ok a ρ => R a ρ
  | .exn e ρ => E e ρ
  | .stuck => False
theorem Sat.imp {α : Type} {o : Out α} {R R' : α → Env → Prop} {E E' : Exn → Env → Prop} (h : Sat o R E) (hR : ∀ a ρ, R a ρ → R' a ρ) (hE : ∀ e ρ, E e ρ → E' e ρ) : Sat o R' E' := by
  cases o with
  | ok a ρ => exact hR a ρ h
  | exn e ρ => exact hE e ρ h
  | stuck => exact h
theorem sat_bind {α β : Type} {x : EM α} {f : α → EM β} {ρ : Env} {R : β → Env → Prop} {E : Exn → Env → Prop} (h : Sat (mB x f ρ) R E) : Sat (x ρ) (fun a ρ' => Sat (f a ρ') R E) E := by
  unfold mB at h
  cases e : x ρ with
  | ok a ρ' => rw [e] at h; exact h
  | exn a ρ' => rw [e] at h; exact h
  | stuck => rw [e] at h; exact h
theorem sat_o {α : Type} {o : Option α} {ρ : Env} {R : α → Env → Prop} {E : Exn → Env → Prop} (h : Sat (mO o ρ) R E) : ∃ a, o = some a ∧ R a ρ := by
  cases o with
  | none => exact h.elim
  | some a => exact ⟨a, rfl, h⟩

section
variable (K : PySem.W.Frag) (W : WX)
def ExOk (H : Hp) (cls : Value) (dx : Option Addr) (e : Exn) : Prop := cls = .ref (He.ga K e.c) ∧ match e.fs with
  | none => dx = none
  | some fs => ∃ a gs, dx = some a ∧ H a = some (.xd gs) ∧ RpF K H gs fs
def exW (B : Bs) (σ : L2.St) : Exn → Env → Prop := fun e ρ' => ∀ G' H' cls dx, Stt K B ρ' σ G' H' → ExOk K H' cls dx e → W cls dx σ H'
/-- the reading of an expression by a function on data -/
def tV (f : EM Da) : TE := fun σ H Q => ∃ B ρ G, Stt K B ρ σ G H ∧ Sat (f ρ) (fun d ρ' => ∀ v G' H', Same G G' → Stt K B ρ' σ G' H' → Rp K G' v d → Q v H') (exW K W B σ)
def tVt (f : EM Bool) : TT := fun σ H Q => ∃ B ρ G, Stt K B ρ σ G H ∧ Sat (f ρ) (fun b ρ' => ∀ G' H', Same G G' → Stt K B ρ' σ G' H' → Q b H') (exW K W B σ)
def tVa (f : EM (List Da)) : TA := fun σ H Q => ∃ B ρ G, Stt K B ρ σ G H ∧ Sat (f ρ) (fun ds ρ' => ∀ vs G' H', Same G G' → Stt K B ρ' σ G' H' → RpA K G' vs ds → Q vs H') (exW K W B σ)
/-- a new list | a new thing of its own -/
def tVn (f : EM (List Da)) : TE := fun σ H Q => ∃ B ρ G, Stt K B ρ σ G H ∧ Sat (f ρ) (fun ds ρ' => ∀ p vs G' H', Same G G' → H' p = none → Stt K B ρ' σ G' H' → RpA K G' vs ds → vs.length ≤ sizeLine → Q (.ref p) (upd H' p (.lst vs))) (exW K W B σ)
inductive Pk where
  | d (x : Da) | s (i : Nat)
def PkOk (σ : L2.St) (G : Hp) (v : V) : Pk → Prop
  | .d x => Rp K G v x
  | .s i => σ[i]? = some (some v)
def tVp (f : EM Pk) : TE := fun σ H Q => ∃ B ρ G, Stt K B ρ σ G H ∧ Sat (f ρ) (fun p ρ' => ∀ v G' H', Same G G' → Stt K B ρ' σ G' H' → PkOk K σ G' v p → Q v H') (exW K W B σ)
/-- statements -/
inductive Fl where
  | nx | rt (d : Da) | bk | ct | rn (ds : List Da)
def FlOk (B : Bs) (D : Ends) (Gs : Hp) (fl : Fl) (ρ : Env) : Prop := match fl with
  | .nx => ∀ σ G H, Same Gs G → Stt K B ρ σ G H → D.nx σ H
  | .rt d => ∀ v σ G H, Same Gs G → Stt K B ρ σ G H → Rp K G v d → D.rt v H
  | .bk => ∀ σ G H, Same Gs G → Stt K B ρ σ G H → D.bk σ H
  | .ct => ∀ σ G H, Same Gs G → Stt K B ρ σ G H → D.ct σ H
  | .rn ds => ∀ p vs σ G H, Same Gs G → Stt K B ρ σ G H → Own NoM B.H0 G H p (.lst vs) → RpA K G vs ds → D.rt (.ref p) H
def exS (B : Bs) : Exn → Env → Prop := fun e ρ' => ∀ σ G' H' cls dx, Stt K B ρ' σ G' H' → ExOk K H' cls dx e → W cls dx σ H'
def tVs (f : EM Fl) : TS := fun D σ H => ∃ B ρ G, Stt K B ρ σ G H ∧ Sat (f ρ) (FlOk K B D G) (exS K W B)
theorem FlOk.mono {K : PySem.W.Frag} {B : Bs} {D : Ends} {G G' : Hp} {fl : Fl} {ρ : Env} (e : Same G G') (h : FlOk K B D G fl ρ) : FlOk K B D G' fl ρ := by
  cases fl with
  | nx => exact fun σ G2 H g t => h σ G2 H (e.trans g) t
  | rt d => exact fun v σ G2 H g t r => h v σ G2 H (e.trans g) t r
  | bk => exact fun σ G2 H g t => h σ G2 H (e.trans g) t
  | ct => exact fun σ G2 H g t => h σ G2 H (e.trans g) t
  | rn ds => exact fun p vs σ G2 H g t w r => h p vs σ G2 H (e.trans g) t w r
end
def look (ρ : Env) : Pk → Option Da
  | .d x => some x
  | .s i => match ρ[i]? with
    | some (some (.imm d)) => some d
    | some (some (.lst ds)) => some (.lst ds)
    | some (some (.bls _ ds)) => some (.lst ds)
    | _ => none
/-- what an operation may look at -/
def See (K : PySem.W.Frag) (G H : Hp) (v : V) : Da → Prop
  | .lst ds => ∃ a vs, v = .ref a ∧ H a = some (.lst vs) ∧ RpA K G vs ds
  | .tup ds => ∃ a vs, v = .ref a ∧ SqT K H a vs ∧ RpA K G vs ds
  | d => Rp K G v d
section
variable {K : PySem.W.Frag} {W : WX} {B : Bs} {G H : Hp} {ρ : Env} {σ : L2.St}
theorem See.of {v : V} {d : Da} (e : Same G H) (h : Rp K G v d) : See K G H v d := by
  cases h with
  | lst h r => exact ⟨_, _, rfl, e _ _ h, r⟩
  | tup h r => exact ⟨_, _, rfl, same_t e h, r⟩
  | non => exact .non
  | bl b => exact .bl b
  | int i => exact .int i
  | str h => exact .str h
  | ins h r => exact .ins h r
  | ty n => exact .ty n
  | glo x => exact .glo x
  | scr h => exact .scr h
  | lam h1 h2 h3 => exact .lam h1 h2 h3
theorem see_of (t : Stt K B ρ σ G H) {v : V} {p : Pk} {d : Da} (h : PkOk K σ G v p) (l : look ρ p = some d) : See K G H v d := by
  cases p with
  | d x => cases l; exact See.of t.cg.gh h
  | s i =>
    have hv : σ[i]? = some (some v) := h
    cases e2 : ρ[i]? with
    | none => simp [look, e2] at l
    | some o =>
      cases o with
      | none => simp [look, e2] at l
      | some c =>
        obtain ⟨u, e3, r⟩ := t.sl i _ e2
        rw [hv] at e3
        cases e3
        cases c with
        | imm d' =>
          simp only [look, e2, Option.some.injEq] at l
          subst l
          exact See.of t.cg.gh r
        | lst ds =>
          simp only [look, e2, Option.some.injEq] at l
          subst l
          obtain ⟨a, vs, e4, w, r⟩ := r
          exact ⟨a, vs, e4, w.2.2, r⟩
        | dic ds => simp [look, e2] at l
        | obj a c ds => simp [look, e2] at l
        | bls n ds =>
          simp only [look, e2, Option.some.injEq] at l
          subst l
          obtain ⟨p, vs, e4, w, r, _⟩ := r
          exact ⟨p, vs, e4, w.2.2, r⟩
theorem PkOk.mono {v : V} {p : Pk} {G' : Hp} (e : Same G G') (h : PkOk K σ G v p) : PkOk K σ G' v p := by
  cases p with
  | d x => exact Rp.mono e h
  | s i => exact h
end

theorem pe_mono {X : Cx} {e : Expr} {t t' : TE} (h : PE X e t) (k : ∀ σ H Q, t' σ H Q → t σ H Q) : PE X e t' := ⟨fun pins s σ H Q I q => h.run pins s σ H Q I (k σ H Q q)⟩
theorem pt_mono {X : Cx} {e : Expr} {t t' : TT} (h : PT X e t) (k : ∀ σ H Q, t' σ H Q → t σ H Q) : PT X e t' := ⟨fun pins s σ H Q I q => h.run pins s σ H Q I (k σ H Q q)⟩
theorem pa_mono {X : Cx} {es : List Expr} {t t' : TA} (h : PA X es t) (k : ∀ σ H Q, t' σ H Q → t σ H Q) : PA X es t' := ⟨fun pos pins s σ H Q I q => h.run pos pins s σ H Q I (k σ H Q q)⟩
theorem ps_mono {X : Cx} {e : Stmt} {t t' : TS} (h : PS X e t) (k : ∀ D σ H, t' D σ H → t D σ H) : PS X e t' := ⟨fun pins s σ H D I q => h.run pins s σ H D I (k D σ H q)⟩
theorem pss_mono {X : Cx} {e : List Stmt} {t t' : TS} (h : PSs X e t) (k : ∀ D σ H, t' D σ H → t D σ H) : PSs X e t' := ⟨fun pins s σ H D I q => h.run pins s σ H D I (k D σ H q)⟩

abbrev VE (X : Cx) (W : WX) (e : Expr) (f : EM Da) : Prop := PE X e (tV X.K W f)
abbrev VP (X : Cx) (W : WX) (e : Expr) (f : EM Pk) : Prop := PE X e (tVp X.K W f)
abbrev VN (X : Cx) (W : WX) (e : Expr) (f : EM (List Da)) : Prop := PE X e (tVn X.K W f)
abbrev VT (X : Cx) (W : WX) (e : Expr) (f : EM Bool) : Prop := PT X e (tVt X.K W f)
abbrev VA (X : Cx) (W : WX) (es : List Expr) (f : EM (List Da)) : Prop := PA X es (tVa X.K W f)
abbrev VS (X : Cx) (W : WX) (st : Stmt) (f : EM Fl) : Prop := PS X st (tVs X.K W f)
abbrev VSs (X : Cx) (W : WX) (st : List Stmt) (f : EM Fl) : Prop := PSs X st (tVs X.K W f)

section
variable {X : Cx} {W : WX}
/-! ### from one kind to another -/
def fD (f : EM Da) : EM Pk := mB f fun d => mP (.d d)
def fN (f : EM (List Da)) : EM Da := mB f fun ds => mP (.lst ds)
theorem vp_of {e : Expr} {f : EM Da} (h : VE X W e f) : VP X W e (fD f) := pe_mono h fun σ H Q ⟨B, ρ, G, t, s⟩ =>
  ⟨B, ρ, G, t, (sat_bind s).imp (fun d ρ' k v G' H' g t' r => k v G' H' g t' r) fun e ρ' k => k⟩
theorem ve_of_n {e : Expr} {f : EM (List Da)} (h : VN X W e f) : VE X W e (fN f) := pe_mono h fun σ H Q ⟨B, ρ, G, t, s⟩ =>
  ⟨B, ρ, G, t, (sat_bind s).imp (fun ds ρ' k p vs G' H' g np t' r hl => by
    have c := Cn.new t'.cg.gh np (.lst vs)
    exact k _ _ _ (g.trans c.gg) (t'.step c) (.lst upd_same (r.mono c.gg))) fun e ρ' k => k⟩

/-! ### names, constants -/
def fName (i : Nat) : EM Da := fun ρ => match ρ[i]? with
  | some (some (.imm d)) => .ok d ρ
  | some (some (.lst ds)) => .ok (.lst ds) (ρ.set i (some (.imm (.lst ds))))
  | _ => .stuck
def fPeek (i : Nat) : EM Pk := fun ρ => match ρ[i]? with
  | some (some _) => .ok (.s i) ρ
  | _ => .stuck
theorem ve_name (i : Nat) {x : Str} {pos : Pos} (hN : X.N[i]? = some x := by rfl) (hv : Vis X.env.scope x := by first | exact Or.inl rfl | exact Or.inr (Or.inl rfl) | exact Or.inr (Or.inr rfl)) (hd : (x == ("__debug__" : Str)) = false := by decide)
    (hcd : (x == ("__classdict__" : Str)) = false := by decide) : VE X W (.Name x pos) (fName i) := pe_mono (pe_var hN hv hd hcd) fun σ H Q ⟨B, ρ, G, t, s⟩ => by
  unfold fName at s
  split at s
  · rename_i d e
    obtain ⟨v, e1, r⟩ := t.sl i _ e
    exact ⟨v, e1, s v G H (Same.refl _) t r⟩
  · rename_i ds e
    obtain ⟨v, G1, e1, t1, r, g⟩ := t.freeze e
    exact ⟨v, e1, s v G1 H g t1 r⟩
  · exact s.elim
theorem vp_name (i : Nat) {x : Str} {pos : Pos} (hN : X.N[i]? = some x := by rfl) (hv : Vis X.env.scope x := by first | exact Or.inl rfl | exact Or.inr (Or.inl rfl) | exact Or.inr (Or.inr rfl)) (hd : (x == ("__debug__" : Str)) = false := by decide)
    (hcd : (x == ("__classdict__" : Str)) = false := by decide) : VP X W (.Name x pos) (fPeek i) := pe_mono (pe_var hN hv hd hcd) fun σ H Q ⟨B, ρ, G, t, s⟩ => by
  unfold fPeek at s
  split at s
  · rename_i c e
    obtain ⟨v, e1, r⟩ := t.sl i _ e
    exact ⟨v, e1, s v G H (Same.refl _) t e1⟩
  · exact s.elim
theorem ve_const {e : Expr} {v : V} {d : Da} (h : PE X e (tC v)) (r : ∀ G, Rp X.K G v d) : VE X W e (mP d) := pe_mono h fun σ H Q ⟨B, ρ, G, t, s⟩ => s v G H (Same.refl _) t (r G)
theorem ve_int {i : Int} {j : Nat} {pos : Pos} : VE X W (.Constant (.int i) j pos) (mP (.int i)) := ve_const pe_int fun _ => .int i
theorem ve_bl {b : Bool} {j : Nat} {pos : Pos} : VE X W (.Constant (.bool b) j pos) (mP (.bl b)) := ve_const pe_bl fun _ => .bl b
theorem ve_non {j : Nat} {pos : Pos} : VE X W (.Constant .none j pos) (mP .non) := ve_const pe_non fun _ => .non
theorem rp_lit {K : PySem.W.Frag} {G : Hp} {x : Str} {l : List Nat} (hl : x = ⟨l.toArray⟩) (hc : Chs l) : Rp K G (.str x) (.str l) := by
  subst hl
  exact .str hc
theorem ve_str (l : List Nat) {x : Str} {j : Nat} {pos : Pos} (hl : x = ⟨l.toArray⟩ := by decide +kernel) (hc : Chs l := by decide +kernel) : VE X W (.Constant (.str x) j pos) (mP (.str l)) := ve_const pe_str fun _ => rp_lit hl hc
/-- a text of the module -/
theorem ve_gstr (l : List Nat) {x z : Str} {pos : Pos} (hg : Gl X x) (hm : ∃ t, X.mg x = some (.str z t)) (hl : z = ⟨l.toArray⟩ := by decide +kernel) (hc : Chs l := by decide +kernel) (hd : (x == ("__debug__" : Str)) = false := by decide) : VE X W (.Name x pos) (mP (.str l)) := by
  obtain ⟨t, e⟩ := hm
  exact ve_const (v := .str z) (pe_glob hg e ⟨t, rfl⟩ hd) fun _ => rp_lit hl hc
theorem ve_gint (i : Int) {x : Str} {pos : Pos} (hg : Gl X x) (hm : ∃ t, X.mg x = some (.int i t)) (hd : (x == ("__debug__" : Str)) = false := by decide) : VE X W (.Name x pos) (mP (.int i)) := by
  obtain ⟨t, e⟩ := hm
  exact ve_const (v := .int i) (pe_glob hg e ⟨t, rfl⟩ hd) fun _ => .int i

/-! ### operations on values -/
/-- two things looked at, one told -/
def rD (K : PySem.W.Frag) (r : Da → Da → Option Da) : R2 := fun x y H Q => ∃ G dx dy d, Same G H ∧ See K G H x dx ∧ See K G H y dy ∧ r dx dy = some d ∧ ∀ G' H' z, Cn G H G' H' → Rp K G' z d → Q z H'
def OpD (X : Cx) (f : Value → Value → Sem Value) (r : Da → Da → Option Da) : Prop := OpR X f (rD X.K r)
theorem opD_of {f : Value → Value → Sem Value} {r : Da → Da → Option Da} (h : ∀ x y H Q, rD X.K r x y H Q → ∃ r0 : R2, OpR X f r0 ∧ r0 x y H Q) : OpD X f r := fun pins s σ H x y v u Q I rx ry q => by
  obtain ⟨r0, o, q0⟩ := h x y H Q q
  exact o pins s σ H x y v u Q I rx ry q0
def fBin (r : Da → Da → Option Da) (fa fb : EM Pk) : EM Da := mB fa fun p => mB fb fun q => fun ρ => mO (match look ρ p, look ρ q with
  | some a, some b => r a b
  | _, _ => none) ρ
theorem tV_bin {K : PySem.W.Frag} {r : Da → Da → Option Da} {fa fb : EM Pk} {σ : L2.St} {H : Hp} {Q : VK} (h : tV K W (fBin r fa fb) σ H Q) : tOp (rD K r) (tVp K W fa) (tVp K W fb) σ H Q := by
  obtain ⟨B, ρ, G, t, s⟩ := h
  refine ⟨B, ρ, G, t, (sat_bind s).imp (fun p ρ1 s1 x G1 H1 g1 t1 px => ⟨B, ρ1, G1, t1, (sat_bind s1).imp (fun q ρ2 s2 y G2 H2 g2 t2 py => ?_) fun e ρ' k => k⟩) fun e ρ' k => k⟩
  obtain ⟨d, e, k⟩ := sat_o s2
  cases l1 : look ρ2 p with
  | none => rw [l1] at e; cases e
  | some a =>
    cases l2 : look ρ2 q with
    | none => rw [l1, l2] at e; cases e
    | some b =>
      rw [l1, l2] at e
      exact ⟨G2, a, b, d, t2.cg.gh, see_of t2 (px.mono g2) l1, see_of t2 py l2, e, fun G' H' z c r => k z G' H' ((g1.trans g2).trans c.gg) (t2.step c) r⟩
theorem ve_bin {a b : Expr} {op : Operator} {pos : Pos} {r : Da → Da → Option Da} {fa fb : EM Pk} (ho : OpD X (binaryOp op) r) (ha : VP X W a fa) (hb : VP X W b fb) : VE X W (.BinOp a op b pos) (fBin r fa fb) :=
  pe_mono (pe_op ho ha hb) fun _ _ _ h => tV_bin h
theorem ve_cmp {a b : Expr} {op : CmpOp} {pos : Pos} {r : Da → Da → Option Da} {fa fb : EM Pk} (ho : OpD X (compareOp op) r) (ha : VP X W a fa) (hb : VP X W b fb) (hm : behindInMarks op b = false) : VE X W (.Compare a [op] [b] pos) (fBin r fa fb) :=
  pe_mono (pe_cmpR ho ha hb hm) fun _ _ _ h => tV_bin h
end
end Vl
/-! the value layer: operations -/
namespace Vl
variable [LamT]
open PySem PySem.Spec PyProof.Rows L2

section
variable {X : Cx}
theorem cn_refl {G H : Hp} (e : Same G H) : Cn G H G H := Cn.refl e
/-- how an operation of ints comes in -/
theorem see_int {K : PySem.W.Frag} {G H : Hp} {v : V} {i : Int} (h : See K G H v (.int i)) : v = .int i := by cases (show Rp K G v (.int i) from h); rfl
theorem see_bl {K : PySem.W.Frag} {G H : Hp} {v : V} {i : Bool} (h : See K G H v (.bl i)) : v = .bl i := by cases (show Rp K G v (.bl i) from h); rfl
theorem see_non {K : PySem.W.Frag} {G H : Hp} {v : V} (h : See K G H v .non) : v = .non := by cases (show Rp K G v .non from h); rfl
theorem see_str {K : PySem.W.Frag} {G H : Hp} {v : V} {l : List Nat} (h : See K G H v (.str l)) : v = .str ⟨l.toArray⟩ ∧ Chs l := by cases (show Rp K G v (.str l) from h); exact ⟨rfl, ‹_›⟩
theorem see_ty {K : PySem.W.Frag} {G H : Hp} {v : V} {n : String} (h : See K G H v (.ty n)) : v = .ty n := by cases (show Rp K G v (.ty n) from h); rfl

/-! ### + - * // % ** -/
def vAdd : Da → Da → Option Da
  | .int i, .int j => some (.int (i + j))
  | .str a, .str b => if a.length + b.length ≤ 16777216 then some (.str (a ++ b)) else none
  | .lst a, .lst b => if a.length + b.length ≤ 16777216 then some (.lst (a ++ b)) else none
  | _, _ => none
theorem S_append (a b : List Nat) : (⟨a.toArray⟩ : Str) ++ ⟨b.toArray⟩ = ⟨(a ++ b).toArray⟩ := by
  show Str.append _ _ = _
  simp [Str.append]
theorem S_length (a : List Nat) : (⟨a.toArray⟩ : Str).length = a.length := by simp [Str.length]
theorem opd_add : OpD X (binaryOp .Add) vAdd := opD_of fun x y H Q ⟨G, dx, dy, d, g, sx, sy, e, k⟩ => by
  unfold vAdd at e
  split at e
  · cases see_int sx
    cases see_int sy
    cases e
    exact ⟨_, op_add, _, _, rfl, rfl, k G H _ (cn_refl g) (.int _)⟩
  · obtain ⟨rfl, c1⟩ := see_str sx
    obtain ⟨rfl, c2⟩ := see_str sy
    split at e
    · rename_i hl
      cases e
      refine ⟨_, op_add_str, _, _, rfl, rfl, ?_, ?_⟩
      · rw [S_length, S_length, sizeLine_eq]
        exact hl
      · rw [S_append]
        exact k G H _ (cn_refl g) (.str (c1.append c2))
    · cases e
  · obtain ⟨p, vs, rfl, h1, r1⟩ := sx
    obtain ⟨q, us, rfl, h2, r2⟩ := sy
    split at e
    · rename_i hl
      cases e
      refine ⟨_, op_cat, p, q, vs, us, rfl, rfl, h1, h2, ?_, fun z hz => ?_⟩
      · rw [r1.length, r2.length, sizeLine_eq]
        exact hl
      · have c := Cn.new g hz (.lst (vs ++ us))
        exact k _ _ _ c (.lst upd_same ((r1.append r2).mono c.gg))
    · cases e
  · cases e
def vSub : Da → Da → Option Da
  | .int i, .int j => some (.int (i - j))
  | _, _ => none
theorem opd_sub : OpD X (binaryOp .Sub) vSub := opD_of fun x y H Q ⟨G, dx, dy, d, g, sx, sy, e, k⟩ => by
  unfold vSub at e
  split at e
  · cases see_int sx
    cases see_int sy
    cases e
    exact ⟨_, op_sub, _, _, rfl, rfl, k G H _ (cn_refl g) (.int _)⟩
  · cases e
def vMul : Da → Da → Option Da
  | .int i, .int j => if i.natAbs < 18446744073709551616 ∨ j.natAbs < 18446744073709551616 then some (.int (i * j)) else none
  | .str a, .int n => if n < 4294967296 ∧ -4294967296 < n ∧ a.length * n.toNat ≤ 16777216 then some (.str (List.replicate n.toNat a).flatten) else none
  | .lst a, .int n => if n < 4294967296 ∧ -4294967296 < n ∧ a.length * n.toNat ≤ 16777216 then some (.lst (List.replicate n.toNat a).flatten) else none
  | _, _ => none
theorem rep_flat (a : List Nat) : ∀ (n : Nat) (acc : Array Nat), (List.replicate n a.toArray).foldl (· ++ ·) acc = acc ++ ((List.replicate n a).flatten).toArray
  | 0, acc => by simp
  | n + 1, acc => by
    rw [List.replicate_succ, List.foldl_cons, rep_flat a n, List.replicate_succ, List.flatten_cons]
    simp
theorem chs_flat {ls : List (List Nat)} (h : ∀ l ∈ ls, Chs l) : Chs ls.flatten := fun c m => by
  obtain ⟨l, h1, h2⟩ := List.mem_flatten.mp m
  exact h l h1 c h2
theorem op_mul_str : OpR X (binaryOp .Mult) (fun x y H Q => ∃ (a : List Nat) (n : Int), x = .str ⟨a.toArray⟩ ∧ y = .int n ∧ (n < 4294967296 ∧ -4294967296 < n ∧ a.length * n.toNat ≤ 16777216) ∧ Q (.str ⟨((List.replicate n.toNat a).flatten).toArray⟩) H) := by
  intro pins s σ H x y v u Q I rx ry h
  obtain ⟨a, n, rfl, rfl, ⟨h1, h2, h3⟩, q⟩ := h
  obtain ⟨t, rfl⟩ := rx
  obtain ⟨t', rfl⟩ := ry
  refine PySem.P.mul_str ?_ (fun hn hz => ?_) (fun hn hz => ?_) ?_
  · have q1 : ¬ n < -(2 ^ 63 : Int) := by omega
    have q2 : ¬ n ≥ 2 ^ 63 := by omega
    rw [decide_eq_false q1, decide_eq_false q2]
    rfl
  · rw [S_length] at hz ⊢
    have hl : (a.length : Int) * n ≤ 16777216 := by
      have hn' : (n.toNat : Int) = n := by omega
      rw [← hn', ← Int.natCast_mul]
      exact Int.ofNat_le.mpr h3
    have h4 : (a.length : Int) ≤ ((2 : Int) ^ 63 - 1) / n := Int.le_ediv_of_mul_le (by omega) (Int.le_trans hl (by decide))
    exact Int.not_lt.mpr h4
  · rw [S_length]
    show decide (a.length * n.toNat > sizeLine) = false
    rw [sizeLine_eq]
    exact decide_eq_false (by omega)
  · rw [S_length]
    by_cases hn : n < 1
    · rw [if_pos hn]
      have : n.toNat = 0 := by omega
      rw [this] at q
      exact ⟨Nat.zero_le _, V.str _, H, I.tok _, ⟨_, rfl⟩, q⟩
    · rw [if_neg hn]
      by_cases hz : (n == 1 || a.length == 0) = true
      · rw [if_pos hz]
        refine ⟨.str ⟨a.toArray⟩, H, I, ⟨_, rfl⟩, ?_⟩
        have e : (List.replicate n.toNat a).flatten = a := by
          rcases Bool.or_eq_true_iff.mp hz with z | z
          · have : n = 1 := by simpa using z
            subst this
            simp
          · have : a = [] := by simpa using z
            subst this
            simp
        rw [e] at q
        exact q
      · rw [if_neg hz]
        have e : (⟨List.foldl (fun x1 x2 => x1 ++ x2) #[] (List.replicate n.toNat a.toArray)⟩ : Str) = ⟨((List.replicate n.toNat a).flatten).toArray⟩ := by
          rw [rep_flat a n.toNat #[]]
          simp
        refine ⟨?_, V.str _, H, I.tok _, ⟨_, rfl⟩, ?_⟩
        · show (⟨List.foldl (fun x1 x2 => x1 ++ x2) #[] (List.replicate n.toNat a.toArray)⟩ : Str).length ≤ sizeLine
          rw [e, S_length, List.length_flatten, sizeLine_eq]
          have e2 := Nat.mul_comm n.toNat a.length
          simp
          omega
        · show Q (V.str (⟨List.foldl (fun x1 x2 => x1 ++ x2) #[] (List.replicate n.toNat a.toArray)⟩ : Str)) H
          rw [e]
          exact q
theorem rep_list {α : Type} (xs : List α) (k : Nat) : (List.replicate k xs).flatten.length = xs.length * k := by
  rw [List.length_flatten]
  simp [Nat.mul_comm]
theorem RpA.rep {K : PySem.W.Frag} {G : Hp} {vs : List V} {ds : List Da} (r : RpA K G vs ds) : ∀ n : Nat, RpA K G (List.replicate n vs).flatten (List.replicate n ds).flatten
  | 0 => .nil
  | n + 1 => by
    rw [List.replicate_succ, List.replicate_succ, List.flatten_cons, List.flatten_cons]
    exact r.append (RpA.rep r n)
end
end Vl
/-! the value layer: more operations -/
namespace Vl
variable [LamT]
open PySem PySem.Spec PyProof.Rows L2

section
variable {X : Cx}
theorem opd_mul : OpD X (binaryOp .Mult) vMul := opD_of fun x y H Q ⟨G, dx, dy, d, g, sx, sy, e, k⟩ => by
  unfold vMul at e
  split at e
  · rename_i i j
    cases see_int sx
    cases see_int sy
    split at e
    · rename_i hc
      cases e
      refine ⟨_, op_mul, _, _, rfl, rfl, ?_, k G H _ (cn_refl g) (.int _)⟩
      show CMul i j
      unfold CMul
      have e : (2 : Int) ^ 64 = 18446744073709551616 := by decide
      rw [e]
      omega
    · cases e
  · obtain ⟨rfl, c1⟩ := see_str sx
    cases see_int sy
    split at e
    · rename_i hc
      cases e
      refine ⟨_, op_mul_str, _, _, rfl, rfl, hc, ?_⟩
      exact k G H _ (cn_refl g) (.str (chs_flat fun l hl => by rw [(List.mem_replicate.mp hl).2]; exact c1))
    · cases e
  · rename_i ds n
    obtain ⟨p, vs, rfl, h1, r1⟩ := sx
    cases see_int sy
    split at e
    · rename_i hc
      cases e
      refine ⟨_, op_rep, p, n, vs, rfl, rfl, h1, by omega, by omega, ?_, fun z hz => ?_⟩
      · rw [r1.length, sizeLine_eq]
        exact hc.2.2
      · have c := Cn.new g hz (.lst (List.replicate n.toNat vs).flatten)
        exact k _ _ _ c (.lst upd_same ((r1.rep n.toNat).mono c.gg))
    · cases e
  · cases e
def vFdiv : Da → Da → Option Da
  | .int i, .int j => if 0 < j ∧ j < 1073741824 then some (.int (i / j)) else none
  | _, _ => none
theorem opd_fdiv : OpD X (binaryOp .FloorDiv) vFdiv := opD_of fun x y H Q ⟨G, dx, dy, d, g, sx, sy, e, k⟩ => by
  unfold vFdiv at e
  split at e
  · cases see_int sx
    cases see_int sy
    split at e
    · rename_i hc
      cases e
      exact ⟨_, op_fdiv, _, _, rfl, rfl, hc, k G H _ (cn_refl g) (.int _)⟩
    · cases e
  · cases e
def vMod : Da → Da → Option Da
  | .int i, .int j => if 0 < j then some (.int (i % j)) else none
  | _, _ => none
theorem opd_mod : OpD X (binaryOp .Mod) vMod := opD_of fun x y H Q ⟨G, dx, dy, d, g, sx, sy, e, k⟩ => by
  unfold vMod at e
  split at e
  · cases see_int sx
    cases see_int sy
    split at e
    · rename_i hc
      cases e
      exact ⟨_, op_mod, _, _, rfl, rfl, hc, k G H _ (cn_refl g) (.int _)⟩
    · cases e
  · cases e
def vPow : Da → Da → Option Da
  | .int i, .int j => if 0 ≤ j ∧ j ≤ 1000 ∧ i.natAbs < 1000000 then some (.int (i ^ j.toNat)) else none
  | _, _ => none
theorem opd_pow : OpD X (binaryOp .Pow) vPow := opD_of fun x y H Q ⟨G, dx, dy, d, g, sx, sy, e, k⟩ => by
  unfold vPow at e
  split at e
  · rename_i i j
    cases see_int sx
    cases see_int sy
    split at e
    · rename_i hc
      cases e
      refine ⟨_, op_pow, _, _, rfl, rfl, ⟨hc.1, by omega, ?_⟩, k G H _ (cn_refl g) (.int _)⟩
      have e : (2 : Nat) ^ 64 = 18446744073709551616 := by decide
      show i.natAbs < 2 ^ 64
      omega
    · cases e
  · cases e

/-! ### comparisons of numbers -/
def vCmp (p : Int → Int → Bool) : Da → Da → Option Da
  | .int i, .int j => some (.bl (p i j))
  | _, _ => none
theorem opd_cmp {op : CmpOp} {p : Int → Int → Bool} (h : OpR X (compareOp op) (rI0 fun i j => .bl (p i j))) : OpD X (compareOp op) (vCmp p) := opD_of fun x y H Q ⟨G, dx, dy, d, g, sx, sy, e, k⟩ => by
  unfold vCmp at e
  split at e
  · cases see_int sx
    cases see_int sy
    cases e
    exact ⟨_, h, _, _, rfl, rfl, k G H _ (cn_refl g) (.bl _)⟩
  · cases e
abbrev vLt := vCmp fun i j => decide (i < j)
abbrev vLe := vCmp fun i j => decide (i ≤ j)
abbrev vGt := vCmp fun i j => decide (j < i)
abbrev vGe := vCmp fun i j => decide (j ≤ i)
theorem opd_lt : OpD X (compareOp .Lt) vLt := opd_cmp op_lt
theorem opd_le : OpD X (compareOp .LtE) vLe := opd_cmp op_le
theorem opd_gt : OpD X (compareOp .Gt) vGt := opd_cmp op_gt
theorem opd_ge : OpD X (compareOp .GtE) vGe := opd_cmp op_ge
def isNon : Da → Bool
  | .non => true
  | _ => false
theorem isNon_rp {K : PySem.W.Frag} {G : Hp} {v : V} {d : Da} (h : Rp K G v d) : decide (v = .non) = isNon d := by
  cases h <;> simp [isNon]
theorem See.non {K : PySem.W.Frag} {G H : Hp} {v : V} {d : Da} (h : See K G H v d) : decide (v = .non) = isNon d := by
  cases d with
  | lst ds => obtain ⟨a, vs, rfl, _⟩ := h; simp [isNon]
  | tup ds => obtain ⟨a, vs, rfl, _⟩ := h; simp [isNon]
  | _ => exact isNon_rp h
def vIs (neg : Bool) : Da → Da → Option Da
  | x, .non => some (.bl (if neg then !isNon x else isNon x))
  | _, _ => none
theorem opd_is : OpD X (compareOp .Is) (vIs false) := opD_of fun x y H Q ⟨G, dx, dy, d, g, sx, sy, e, k⟩ => by
  unfold vIs at e
  split at e
  · cases see_non sy
    cases e
    refine ⟨_, op_isN, rfl, ?_⟩
    rw [sx.non]
    exact k G H _ (cn_refl g) (.bl _)
  · cases e
theorem opd_isnot : OpD X (compareOp .IsNot) (vIs true) := opD_of fun x y H Q ⟨G, dx, dy, d, g, sx, sy, e, k⟩ => by
  unfold vIs at e
  split at e
  · cases see_non sy
    cases e
    refine ⟨_, op_notN, rfl, ?_⟩
    rw [sx.non]
    exact k G H _ (cn_refl g) (.bl _)
  · cases e

/-! ### == -/
mutual
def plainD : Da → Bool
  | .non | .bl _ | .int _ | .str _ => true
  | .lst xs | .tup xs => plainA xs
  | .ins _ _ | .ty _ | .glo _ | .scr _ | .lam _ => false
def plainA : List Da → Bool
  | [] => true
  | x :: xs => plainD x && plainA xs
end
mutual
def dep : Da → Nat
  | .lst xs | .tup xs => depA xs + 1
  | .non | .bl _ | .int _ | .str _ | .ins _ _ | .ty _ | .glo _ | .scr _ | .lam _ => 0
def depA : List Da → Nat
  | [] => 0
  | x :: xs => max (dep x) (depA xs)
end
mutual
def toPy : Da → PyData
  | .non => .none
  | .bl b => .bool b
  | .int i => .int i
  | .str l => .str ⟨l.toArray⟩
  | .lst xs => .list (toPyA xs)
  | .tup xs => .tuple (toPyA xs)
  | .ins _ _ | .ty _ | .glo _ | .scr _ | .lam _ => .none
def toPyA : List Da → List PyData
  | [] => []
  | x :: xs => toPy x :: toPyA xs
end
mutual
def dq : Da → Da → Bool
  | .non, .non => true
  | .bl a, .bl b => a == b
  | .bl a, .int j => (if a then 1 else 0) == j
  | .int i, .bl b => i == (if b then 1 else 0)
  | .int i, .int j => i == j
  | .str x, .str y => x == y
  | .lst xs, .lst ys => dqA xs ys
  | .tup xs, .tup ys => dqA xs ys
  | _, _ => false
def dqA : List Da → List Da → Bool
  | [], [] => true
  | x :: xs, y :: ys => dq x y && dqA xs ys
  | [], _ :: _ => false
  | _ :: _, [] => false
end
theorem S_beq (x y : List Nat) : ((⟨x.toArray⟩ : Str) == ⟨y.toArray⟩) = (x == y) := by
  rw [Bool.eq_iff_iff]
  simp
mutual
theorem eqv_dq : ∀ (a b : Da), plainD a = true → plainD b = true → PyData.eqv (toPy a) (toPy b) = dq a b
  | .lst xs, .lst ys, ha, hb => by
    simp only [toPy, PyData.eqv, dq]
    exact eqvA_dq xs ys (by simpa [plainD] using ha) (by simpa [plainD] using hb)
  | .tup xs, .tup ys, ha, hb => by
    simp only [toPy, PyData.eqv, dq]
    exact eqvA_dq xs ys (by simpa [plainD] using ha) (by simpa [plainD] using hb)
  | .str x, .str y, _, _ => by
    simp only [toPy, PyData.eqv, dq]
    exact S_beq x y
  | .ins _ _, _, ha, _ => by simp [plainD] at ha
  | .ty _, _, ha, _ => by simp [plainD] at ha
  | .glo _, _, ha, _ => by simp [plainD] at ha
  | .scr _, _, ha, _ | .lam _, _, ha, _ => by simp [plainD] at ha
  | .non, b, _, hb => by cases b <;> simp [toPy, PyData.eqv, dq, plainD] at hb ⊢
  | .bl x, b, _, hb => by cases b <;> simp [toPy, PyData.eqv, dq, plainD] at hb ⊢
  | .int x, b, _, hb => by cases b <;> simp [toPy, PyData.eqv, dq, plainD] at hb ⊢
  | .str x, .non, _, hb | .str x, .bl _, _, hb | .str x, .int _, _, hb | .str x, .lst _, _, hb | .str x, .tup _, _, hb | .str x, .ins _ _, _, hb | .str x, .ty _, _, hb | .str x, .glo _, _, hb | .str x, .scr _, _, hb | .str x, .lam _, _, hb => by simp [toPy, PyData.eqv, dq, plainD] at hb ⊢
  | .lst x, .non, _, hb | .lst x, .bl _, _, hb | .lst x, .int _, _, hb | .lst x, .str _, _, hb | .lst x, .tup _, _, hb | .lst x, .ins _ _, _, hb | .lst x, .ty _, _, hb | .lst x, .glo _, _, hb | .lst x, .scr _, _, hb | .lst x, .lam _, _, hb => by simp [toPy, PyData.eqv, dq, plainD] at hb ⊢
  | .tup x, .non, _, hb | .tup x, .bl _, _, hb | .tup x, .int _, _, hb | .tup x, .str _, _, hb | .tup x, .lst _, _, hb | .tup x, .ins _ _, _, hb | .tup x, .ty _, _, hb | .tup x, .glo _, _, hb | .tup x, .scr _, _, hb | .tup x, .lam _, _, hb => by simp [toPy, PyData.eqv, dq, plainD] at hb ⊢
theorem eqvA_dq : ∀ (xs ys : List Da), plainA xs = true → plainA ys = true → PyData.eqvAll (toPyA xs) (toPyA ys) = dqA xs ys
  | [], [], _, _ => by simp [toPyA, PyData.eqvAll, dqA]
  | x :: xs, y :: ys, ha, hb => by
    simp only [plainA, Bool.and_eq_true] at ha hb
    simp only [toPyA, PyData.eqvAll, dqA]
    rw [eqv_dq x y ha.1 hb.1, eqvA_dq xs ys ha.2 hb.2]
  | [], _ :: _, _, _ => by simp [toPyA, PyData.eqvAll, dqA]
  | _ :: _, [], _, _ => by simp [toPyA, PyData.eqvAll, dqA]
end
mutual
theorem dep_py : ∀ a : Da, (toPy a).depth ≤ dep a
  | .lst xs | .tup xs => by
    simp only [toPy, PyData.depth, dep]
    exact Nat.succ_le_succ (depA_py xs)
  | .non | .bl _ | .int _ | .str _ | .ins _ _ | .ty _ | .glo _ | .scr _ | .lam _ => by simp [toPy, PyData.depth]
theorem depA_py : ∀ xs : List Da, PyData.depthAll (toPyA xs) ≤ depA xs
  | [] => by simp [toPyA, PyData.depthAll]
  | x :: xs => by
    simp only [toPyA, PyData.depthAll, depA]
    have h1 := dep_py x
    have h2 := depA_py xs
    omega
end
section
variable {K : PySem.W.Frag} {G : Hp}
mutual
theorem Rp.dp : ∀ {v : V} {d : Da}, Rp K G v d → plainD d = true → Dp K G v (toPy d) ∧ (toPy d).canLay0 = true
  | _, _, .non, _ => by simp only [toPy]; exact ⟨.non, rfl⟩
  | _, _, .bl b, _ => by simp only [toPy]; exact ⟨.bl b, rfl⟩
  | _, _, .int i, _ => by simp only [toPy]; exact ⟨.int i, rfl⟩
  | _, _, .str (l := l) h, _ => by
    simp only [toPy]
    refine ⟨.str _, ?_⟩
    show (⟨l.toArray⟩ : Str).cps.all (· < 0x110000) = true
    simpa using (show ∀ x ∈ l, x < 1114112 from h)
  | _, _, .lst h r, hp => by
    simp only [toPy]
    have q := RpA.dp r (by simpa [plainD] using hp)
    exact ⟨.lst (SqL.of h) q.1, q.2⟩
  | _, _, .tup h r, hp => by
    simp only [toPy]
    have q := RpA.dp r (by simpa [plainD] using hp)
    exact ⟨.tup h q.1, q.2⟩
  | _, _, .ins _ _, hp => by simp [plainD] at hp
  | _, _, .ty _, hp => by simp [plainD] at hp
  | _, _, .glo _, hp => by simp [plainD] at hp
  | _, _, .scr _, hp | _, _, .lam _ _ _, hp => by simp [plainD] at hp
theorem RpA.dp : ∀ {vs : List V} {ds : List Da}, RpA K G vs ds → plainA ds = true → DpAll K G vs (toPyA ds) ∧ PyData.canLayAll0 (toPyA ds) = true
  | _, _, .nil, _ => by simp only [toPyA]; exact ⟨.nil, rfl⟩
  | _, _, .cons h r, hp => by
    simp only [plainA, Bool.and_eq_true] at hp
    simp only [toPyA]
    obtain ⟨a1, a2⟩ := Rp.dp h hp.1
    obtain ⟨b1, b2⟩ := RpA.dp r hp.2
    refine ⟨.cons a1 b1, ?_⟩
    simp only [PyData.canLayAll0, a2, b2, Bool.and_self]
end
theorem See.dp {H : Hp} {v : V} {d : Da} (g : Same G H) (h : See K G H v d) (hp : plainD d = true) : Dp K H v (toPy d) ∧ (toPy d).canLay0 = true := by
  have rp : Rp K H v d := by
    cases d with
    | lst ds => obtain ⟨a, vs, rfl, h1, r⟩ := h; exact .lst h1 (r.mono g)
    | tup ds => obtain ⟨a, vs, rfl, h1, r⟩ := h; exact .tup h1 (r.mono g)
    | non => exact Rp.mono g h
    | bl _ => exact Rp.mono g h
    | int _ => exact Rp.mono g h
    | str _ => exact Rp.mono g h
    | ins _ _ => exact Rp.mono g h
    | ty _ => exact Rp.mono g h
    | glo _ => exact Rp.mono g h
    | scr _ => exact Rp.mono g h
    | lam _ => exact Rp.mono g h
  exact rp.dp hp
end
def vEq (neg : Bool) (a b : Da) : Option Da := if plainD a = true ∧ plainD b = true ∧ dep a ≤ 64 ∧ dep b ≤ 64 then some (.bl (if neg then !dq a b else dq a b)) else none
theorem shaped_py {d : Da} (h : (toPy d).canLay0 = true) (hd : dep d ≤ 64) : SeqAt.shaped (toPy d) = true := by
  unfold SeqAt.shaped
  rw [h, decide_eq_true (Nat.le_trans (dep_py d) hd)]
  rfl
theorem opd_eq (hu : X.A.units + 64 < cLine) : OpD X (compareOp .Eq) (vEq false) := opD_of fun x y H Q ⟨G, dx, dy, d, g, sx, sy, e, k⟩ => by
  unfold vEq at e
  split at e
  · rename_i hc
    obtain ⟨h1, h2, h3, h4⟩ := hc
    cases e
    obtain ⟨a1, a2⟩ := sx.dp g h1
    obtain ⟨b1, b2⟩ := sy.dp g h2
    refine ⟨_, op_eqD hu, _, _, a1, b1, shaped_py a2 h3, shaped_py b2 h4, ?_⟩
    rw [eqv_dq dx dy h1 h2]
    exact k G H _ (cn_refl g) (.bl _)
  · cases e
theorem opd_ne (hu : X.A.units + 64 < cLine) : OpD X (compareOp .NotEq) (vEq true) := opD_of fun x y H Q ⟨G, dx, dy, d, g, sx, sy, e, k⟩ => by
  unfold vEq at e
  split at e
  · rename_i hc
    obtain ⟨h1, h2, h3, h4⟩ := hc
    cases e
    obtain ⟨a1, a2⟩ := sx.dp g h1
    obtain ⟨b1, b2⟩ := sy.dp g h2
    refine ⟨_, op_neD hu, _, _, a1, b1, shaped_py a2 h3, shaped_py b2 h4, ?_⟩
    rw [eqv_dq dx dy h1 h2]
    exact k G H _ (cn_refl g) (.bl _)
  · cases e

/-! ### in -/
def subIn (a b : List Nat) : Bool := (List.range (b.length + 1)).any fun i => (b.drop i).take a.length == a
theorem found_sub (a b : List Nat) : (!(Builtin.Str.occurrences ⟨b.toArray⟩ ⟨a.toArray⟩ 0 (⟨b.toArray⟩ : Str).length 1).isEmpty) = subIn a b := by
  rw [Bool.eq_iff_iff, PySem.StrLaws.found_iff]
  unfold subIn
  rw [List.any_eq_true]
  simp only [S_length, PySem.StrLaws.subAt_eq]
  constructor
  · rintro ⟨i, h1, h2⟩
    exact ⟨i, List.mem_range.mpr (by omega), by simpa using h2⟩
  · rintro ⟨i, h1, h2⟩
    have h1 := List.mem_range.mp h1
    have h3 : (b.drop i).take a.length = a := by simpa using h2
    refine ⟨i, ?_, by simpa using h2⟩
    have h4 := congrArg List.length h3
    rw [List.length_take, List.length_drop] at h4
    omega
def flatD : Da → Bool
  | .non | .bl _ | .int _ | .str _ => true
  | _ => false
def inD (x : Da) (xs : List Da) : Bool := xs.any fun y => dq y x
def vIn (neg : Bool) : Da → Da → Option Da
  | .str a, .str b => some (.bl (if neg then !subIn a b else subIn a b))
  | x, .lst ys => if flatD x = true ∧ ys.all flatD = true then some (.bl (if neg then !inD x ys else inD x ys)) else none
  | x, .tup ys => if flatD x = true ∧ ys.all flatD = true then some (.bl (if neg then !inD x ys else inD x ys)) else none
  | _, _ => none
theorem flat_rp {K : PySem.W.Frag} {G : Hp} {v : V} {d : Da} (h : Rp K G v d) (f : flatD d = true) : flatV v = true := by
  cases h <;> first | rfl | cases f
theorem flat_see {K : PySem.W.Frag} {G H : Hp} {v : V} {d : Da} (h : See K G H v d) (f : flatD d = true) : Rp K G v d := by
  cases d <;> first | exact h | cases f
theorem eqV_dq {K : PySem.W.Frag} {G : Hp} {v u : V} {d e : Da} (h : Rp K G v d) (f : flatD d = true) (h' : Rp K G u e) (f' : flatD e = true) : eqV v u = dq d e := by
  cases h <;> (first | cases f | skip) <;> cases h' <;> (first | cases f' | skip) <;> simp [eqV, dq, S_beq]
theorem inV_inD {K : PySem.W.Frag} {G : Hp} {v : V} {d : Da} (h : Rp K G v d) (f : flatD d = true) : ∀ {vs : List V} {ds : List Da}, RpA K G vs ds → ds.all flatD = true → inV v vs = inD d ds ∧ vs.all flatV = true
  | _, _, .nil, _ => ⟨rfl, rfl⟩
  | _, _, .cons h1 r, fa => by
    rw [List.all_cons, Bool.and_eq_true] at fa
    obtain ⟨a, b⟩ := inV_inD h f r fa.2
    refine ⟨?_, ?_⟩
    · show ((eqV _ v) || inV v _) = (dq _ d || inD d _)
      rw [eqV_dq h1 fa.1 h f, a]
    · rw [List.all_cons, flat_rp h1 fa.1, b]
      rfl
theorem opd_in_gen {neg : Bool} {op : CmpOp} (h1 : OpR X (compareOp op) (rIn X.K neg)) (h2 : OpR X (compareOp op) (fun x y H Q => ∃ i j, x = .str i ∧ y = .str j ∧ Q (.bl (if neg then !(!(Builtin.Str.occurrences j i 0 j.length 1).isEmpty) else (!(Builtin.Str.occurrences j i 0 j.length 1).isEmpty))) H)) :
    OpD X (compareOp op) (vIn neg) := opD_of fun x y H Q ⟨G, dx, dy, d, g, sx, sy, e, k⟩ => by
  unfold vIn at e
  split at e
  · obtain ⟨rfl, c1⟩ := see_str sx
    obtain ⟨rfl, c2⟩ := see_str sy
    cases e
    refine ⟨_, h2, _, _, rfl, rfl, ?_⟩
    rw [found_sub]
    exact k G H _ (cn_refl g) (.bl _)
  · split at e
    · rename_i hc
      cases e
      obtain ⟨p, vs, rfl, hp, r⟩ := sy
      obtain ⟨q1, q2⟩ := inV_inD (flat_see sx hc.1) hc.1 r hc.2
      refine ⟨_, h1, p, vs, rfl, .inl (SqL.of hp), flat_rp (flat_see sx hc.1) hc.1, q2, ?_⟩
      rw [q1]
      exact k G H _ (cn_refl g) (.bl _)
    · cases e
  · split at e
    · rename_i hc
      cases e
      obtain ⟨p, vs, rfl, hp, r⟩ := sy
      obtain ⟨q1, q2⟩ := inV_inD (flat_see sx hc.1) hc.1 r hc.2
      refine ⟨_, h1, p, vs, rfl, .inr hp, flat_rp (flat_see sx hc.1) hc.1, q2, ?_⟩
      rw [q1]
      exact k G H _ (cn_refl g) (.bl _)
    · cases e
  · cases e
theorem opd_in : OpD X (compareOp .In) (vIn false) := opd_in_gen op_in_seq op_in_str
theorem opd_notin : OpD X (compareOp .NotIn) (vIn true) := opd_in_gen op_notIn_seq op_notin_str
end
end Vl
/-! the value layer: expressions -/
namespace Vl
variable [LamT]
open PySem PySem.Spec PyProof.Rows L2

section
variable {X : Cx} {W : WX}
/-! ### arguments -/
theorem va_nil : VA X W [] (mP []) := pa_mono pa_nil fun σ H Q ⟨B, ρ, G, t, s⟩ => s [] G H (Same.refl _) t .nil
def fCons {α : Type} (f : EM α) (g : EM (List α)) : EM (List α) := mB f fun d => mB g fun ds => mP (d :: ds)
theorem va_cons {e : Expr} {es : List Expr} {fe : EM Da} {fs : EM (List Da)} (h : VE X W e fe) (hs : VA X W es fs) (hx : starEach (e :: es) X.env = (false, eval e X.env) :: starEach es X.env := by rfl) : VA X W (e :: es) (fCons fe fs) :=
  pa_mono (pa_cons h hs hx) fun σ H Q ⟨B, ρ, G, t, s⟩ => ⟨B, ρ, G, t, (sat_bind s).imp (fun d ρ1 s1 x G1 H1 g1 t1 r1 => ⟨B, ρ1, G1, t1, (sat_bind s1).imp (fun ds ρ2 s2 xs G2 H2 g2 t2 r2 =>
    s2 (x :: xs) G2 H2 (g1.trans g2) t2 (.cons (r1.mono g2) r2)) fun e ρ' k => k⟩) fun e ρ' k => k⟩
/-- arguments that are looked at -/
def PksOk (K : PySem.W.Frag) (σ : L2.St) (G : Hp) : List V → List Pk → Prop
  | [], [] => True
  | v :: vs, p :: ps => PkOk K σ G v p ∧ PksOk K σ G vs ps
  | _, _ => False
theorem PksOk.mono {K : PySem.W.Frag} {σ : L2.St} {G G' : Hp} (e : Same G G') : ∀ {vs : List V} {ps : List Pk}, PksOk K σ G vs ps → PksOk K σ G' vs ps
  | [], [], _ => True.intro
  | _ :: _, _ :: _, h => ⟨h.1.mono e, PksOk.mono e h.2⟩
  | [], _ :: _, h => h
  | _ :: _, [], h => h
def tVpa (K : PySem.W.Frag) (W : WX) (f : EM (List Pk)) : TA := fun σ H Q => ∃ B ρ G, Stt K B ρ σ G H ∧ Sat (f ρ) (fun ps ρ' => ∀ vs G' H', Same G G' → Stt K B ρ' σ G' H' → PksOk K σ G' vs ps → Q vs H') (exW K W B σ)
abbrev VPA (X : Cx) (W : WX) (es : List Expr) (f : EM (List Pk)) : Prop := PA X es (tVpa X.K W f)
theorem vpa_nil : VPA X W [] (mP []) := pa_mono pa_nil fun σ H Q ⟨B, ρ, G, t, s⟩ => s [] G H (Same.refl _) t True.intro
theorem vpa_cons {e : Expr} {es : List Expr} {fe : EM Pk} {fs : EM (List Pk)} (h : VP X W e fe) (hs : VPA X W es fs) (hx : starEach (e :: es) X.env = (false, eval e X.env) :: starEach es X.env := by rfl) : VPA X W (e :: es) (fCons fe fs) :=
  pa_mono (pa_cons h hs hx) fun σ H Q ⟨B, ρ, G, t, s⟩ => ⟨B, ρ, G, t, (sat_bind s).imp (fun d ρ1 s1 x G1 H1 g1 t1 r1 => ⟨B, ρ1, G1, t1, (sat_bind s1).imp (fun ds ρ2 s2 xs G2 H2 g2 t2 r2 =>
    s2 (x :: xs) G2 H2 (g1.trans g2) t2 ⟨r1.mono g2, r2⟩) fun e ρ' k => k⟩) fun e ρ' k => k⟩
def lookA (ρ : Env) : List Pk → Option (List Da)
  | [] => some []
  | p :: ps => match look ρ p, lookA ρ ps with
    | some d, some ds => some (d :: ds)
    | _, _ => none
inductive SeeA (K : PySem.W.Frag) (G H : Hp) : List V → List Da → Prop
  | nil : SeeA K G H [] []
  | cons {v : V} {vs : List V} {d : Da} {ds : List Da} : See K G H v d → SeeA K G H vs ds → SeeA K G H (v :: vs) (d :: ds)
theorem seeA_of {K : PySem.W.Frag} {B : Bs} {G H : Hp} {ρ : Env} {σ : L2.St} (t : Stt K B ρ σ G H) : ∀ {vs : List V} {ps : List Pk} {ds : List Da}, PksOk K σ G vs ps → lookA ρ ps = some ds → SeeA K G H vs ds
  | [], [], ds, _, e => by cases e; exact .nil
  | v :: vs, p :: ps, ds, h, e => by
    unfold lookA at e
    cases h1 : look ρ p with
    | none => simp [h1] at e
    | some d =>
      cases h2 : lookA ρ ps with
      | none => simp [h1, h2] at e
      | some ds' =>
        simp only [h1, h2, Option.some.injEq] at e
        subst e
        exact .cons (see_of t h.1 h1) (seeA_of t h.2 h2)
  | [], _ :: _, _, h, _ => h.elim
  | _ :: _, [], _, h, _ => h.elim
/-- a built-in's call -/
def rDs (K : PySem.W.Frag) (r : List Da → Option Da) : List V → Hp → VK → Prop := fun vs H Q => ∃ G ds d, Same G H ∧ SeeA K G H vs ds ∧ r ds = some d ∧ ∀ G' H' z, Cn G H G' H' → Rp K G' z d → Q z H'
def rNs (K : PySem.W.Frag) (r : List Da → Option (List Da)) : List V → Hp → VK → Prop := fun vs H Q => ∃ G ds es, Same G H ∧ SeeA K G H vs ds ∧ r ds = some es ∧ ∀ p us, H p = none → RpA K G us es → us.length ≤ sizeLine → Q (.ref p) (upd H p (.lst us))
def CaD (X : Cx) (f : Value) (r : List Da → Option Da) : Prop := CallR X f (rDs X.K r)
def CaN (X : Cx) (f : Value) (r : List Da → Option (List Da)) : Prop := CallR X f (rNs X.K r)
theorem caD_of {f : Value} {r : List Da → Option Da} (h : ∀ vs H Q, rDs X.K r vs H Q → ∃ r0 : List V → Hp → VK → Prop, CallR X f r0 ∧ r0 vs H Q) : CaD X f r := fun pins s σ H xs us Q I rx q => by
  obtain ⟨r0, o, q0⟩ := h xs H Q q
  exact o pins s σ H xs us Q I rx q0
theorem caN_of {f : Value} {r : List Da → Option (List Da)} (h : ∀ vs H Q, rNs X.K r vs H Q → ∃ r0 : List V → Hp → VK → Prop, CallR X f r0 ∧ r0 vs H Q) : CaN X f r := fun pins s σ H xs us Q I rx q => by
  obtain ⟨r0, o, q0⟩ := h xs H Q q
  exact o pins s σ H xs us Q I rx q0
def fCall (r : List Da → Option Da) (fa : EM (List Pk)) : EM Da := mB fa fun ps => fun ρ => mO (match lookA ρ ps with
  | some ds => r ds
  | none => none) ρ
def fCallN (r : List Da → Option (List Da)) (fa : EM (List Pk)) : EM (List Da) := mB fa fun ps => fun ρ => mO (match lookA ρ ps with
  | some ds => r ds
  | none => none) ρ
theorem tV_call {K : PySem.W.Frag} {r : List Da → Option Da} {fa : EM (List Pk)} {σ : L2.St} {H : Hp} {Q : VK} (h : tV K W (fCall r fa) σ H Q) : tCB (rDs K r) (tVpa K W fa) σ H Q := by
  obtain ⟨B, ρ, G, t, s⟩ := h
  refine ⟨B, ρ, G, t, (sat_bind s).imp (fun ps ρ1 s1 vs G1 H1 g1 t1 px => ?_) fun e ρ' k => k⟩
  obtain ⟨d, e, k⟩ := sat_o s1
  cases l1 : lookA ρ1 ps with
  | none => rw [l1] at e; cases e
  | some ds =>
    rw [l1] at e
    exact ⟨G1, ds, d, t1.cg.gh, seeA_of t1 px l1, e, fun G' H' z c r => k z G' H' (g1.trans c.gg) (t1.step c) r⟩
theorem tVn_call {K : PySem.W.Frag} {r : List Da → Option (List Da)} {fa : EM (List Pk)} {σ : L2.St} {H : Hp} {Q : VK} (h : tVn K W (fCallN r fa) σ H Q) : tCB (rNs K r) (tVpa K W fa) σ H Q := by
  obtain ⟨B, ρ, G, t, s⟩ := h
  refine ⟨B, ρ, G, t, (sat_bind s).imp (fun ps ρ1 s1 vs G1 H1 g1 t1 px => ?_) fun e ρ' k => k⟩
  obtain ⟨d, e, k⟩ := sat_o s1
  cases l1 : lookA ρ1 ps with
  | none => rw [l1] at e; cases e
  | some ds =>
    rw [l1] at e
    exact ⟨G1, ds, d, t1.cg.gh, seeA_of t1 px l1, e, fun p us hp ra hl => k p us G1 H1 g1 hp t1 ra hl⟩
/-- a built-in function by its name; a built-in class -/
theorem ve_callB {id : String} {x : Str} {p pos : Pos} {e : Expr} {es : List Expr} {r : List Da → Option Da} {fa : EM (List Pk)} (hc : CaD X (.builtin id) r) (hm : X.mg x = none) (ha : VPA X W (e :: es) fa) (hg : Gl X x := by rfl) (hv : bootBuiltins x = some (.builtin id) := by decide +kernel)
    (hn : x ≠ "__name__" := by decide) (hdb : (x == ("__debug__" : Str)) = false := by decide) (he : starEach (e :: es) X.env = (false, eval e X.env) :: starEach es X.env := by rfl) (hpl : (backTo pos (starEach es X.env)).any (·.1) = false := by rfl) :
    VE X W (.Call (.Name x p) (e :: es) [] pos) (fCall r fa) := pe_mono (pe_callB hc hg hm hv ha hn hdb he hpl) fun _ _ _ h => tV_call h
theorem ve_callTy {id : String} {x : Str} {p pos : Pos} {e : Expr} {es : List Expr} {r : List Da → Option Da} {fa : EM (List Pk)} (hc : CaD X (.type id) r) (hm : X.mg x = none) (ha : VPA X W (e :: es) fa) (hg : Gl X x := by rfl) (hv : bootBuiltins x = some (.type id) := by decide +kernel)
    (hn : x ≠ "__name__" := by decide) (hdb : (x == ("__debug__" : Str)) = false := by decide) (he : starEach (e :: es) X.env = (false, eval e X.env) :: starEach es X.env := by rfl) (hpl : (backTo pos (starEach es X.env)).any (·.1) = false := by rfl) :
    VE X W (.Call (.Name x p) (e :: es) [] pos) (fCall r fa) := pe_mono (pe_callTy hc hg hm hv ha hn hdb he hpl) fun _ _ _ h => tV_call h
theorem vn_callB {id : String} {x : Str} {p pos : Pos} {e : Expr} {es : List Expr} {r : List Da → Option (List Da)} {fa : EM (List Pk)} (hc : CaN X (.builtin id) r) (hm : X.mg x = none) (ha : VPA X W (e :: es) fa) (hg : Gl X x := by rfl) (hv : bootBuiltins x = some (.builtin id) := by decide +kernel)
    (hn : x ≠ "__name__" := by decide) (hdb : (x == ("__debug__" : Str)) = false := by decide) (he : starEach (e :: es) X.env = (false, eval e X.env) :: starEach es X.env := by rfl) (hpl : (backTo pos (starEach es X.env)).any (·.1) = false := by rfl) :
    VN X W (.Call (.Name x p) (e :: es) [] pos) (fCallN r fa) := pe_mono (pe_callB hc hg hm hv ha hn hdb he hpl) fun _ _ _ h => tVn_call h
theorem vn_callTy {id : String} {x : Str} {p pos : Pos} {e : Expr} {es : List Expr} {r : List Da → Option (List Da)} {fa : EM (List Pk)} (hc : CaN X (.type id) r) (hm : X.mg x = none) (ha : VPA X W (e :: es) fa) (hg : Gl X x := by rfl) (hv : bootBuiltins x = some (.type id) := by decide +kernel)
    (hn : x ≠ "__name__" := by decide) (hdb : (x == ("__debug__" : Str)) = false := by decide) (he : starEach (e :: es) X.env = (false, eval e X.env) :: starEach es X.env := by rfl) (hpl : (backTo pos (starEach es X.env)).any (·.1) = false := by rfl) :
    VN X W (.Call (.Name x p) (e :: es) [] pos) (fCallN r fa) := pe_mono (pe_callTy hc hg hm hv ha hn hdb he hpl) fun _ _ _ h => tVn_call h
theorem ve_tyname {x : Str} {pos : Pos} {n : String} (hm : X.mg x = none) (hg : Gl X x := by rfl) (hv : bootBuiltins x = some (.type n) := by decide +kernel) (hn : x ≠ "__name__" := by decide) (hd : (x == ("__debug__" : Str)) = false := by decide) : VE X W (.Name x pos) (mP (.ty n)) :=
  ve_const (v := .ty n) (pe_bltn hg hm hv rfl hn hd) fun _ => .ty n

/-! ### len, abs, sum, isinstance, list, max, min, str -/
theorem See.list {K : PySem.W.Frag} {G H : Hp} {v : V} {ds : List Da} (h : See K G H v (.lst ds)) : ∃ a vs, v = .ref a ∧ H a = some (.lst vs) ∧ RpA K G vs ds := h
def vLen : List Da → Option Da
  | [.lst xs] => some (.int xs.length)
  | [.tup xs] => some (.int xs.length)
  | [.str l] => if l.length ≤ 16777216 then some (.int l.length) else none
  | _ => none
theorem cad_len : CaD X (.builtin "len") vLen := caD_of fun vs H Q ⟨G, ds, d, g, sa, e, k⟩ => by
  unfold vLen at e
  split at e
  · cases sa with
    | cons s1 sr =>
      cases sr
      obtain ⟨a, vs, rfl, h1, r⟩ := s1
      cases e
      refine ⟨_, call_len_seq, a, vs, rfl, .inl (SqL.of h1), ?_⟩
      rw [r.length]
      exact k G H _ (cn_refl g) (.int _)
  · cases sa with
    | cons s1 sr =>
      cases sr
      obtain ⟨a, vs, rfl, h1, r⟩ := s1
      cases e
      refine ⟨_, call_len_seq, a, vs, rfl, .inr h1, ?_⟩
      rw [r.length]
      exact k G H _ (cn_refl g) (.int _)
  · split at e
    · rename_i hl
      cases sa with
      | cons s1 sr =>
        cases sr
        obtain ⟨rfl, c⟩ := see_str s1
        cases e
        refine ⟨_, call_len_str, _, rfl, by rw [S_length, sizeLine_eq]; exact hl, ?_⟩
        rw [S_length]
        exact k G H _ (cn_refl g) (.int _)
    · cases e
  · cases e
def vAbs : List Da → Option Da
  | [.int i] => some (.int (if i < 0 then -i else i))
  | _ => none
theorem cad_abs : CaD X (.builtin "abs") vAbs := caD_of fun vs H Q ⟨G, ds, d, g, sa, e, k⟩ => by
  unfold vAbs at e
  split at e
  · cases sa with
    | cons s1 sr =>
      cases sr
      cases see_int s1
      cases e
      exact ⟨_, call_abs, _, rfl, k G H _ (cn_refl g) (.int _)⟩
  · cases e
def intsD : List Da → Option (List Int)
  | [] => some []
  | .int i :: r => match intsD r with
    | some l => some (i :: l)
    | none => none
  | _ => none
theorem intsD_map : ∀ l : List Int, intsD (l.map .int) = some l
  | [] => rfl
  | i :: l => by rw [List.map_cons]; unfold intsD; rw [intsD_map l]
theorem intsD_rp {K : PySem.W.Frag} {G : Hp} : ∀ {vs : List V} {ds : List Da} {l : List Int}, RpA K G vs ds → intsD ds = some l → vs = l.map V.int
  | _, _, _, .nil, e => by cases e; rfl
  | _, _, l, .cons (d := d) (ds := ds) h r, e => by
    cases d with
    | int i =>
      unfold intsD at e
      cases q : intsD ds with
      | none => simp [q] at e
      | some l' =>
        simp only [q, Option.some.injEq] at e
        subst e
        cases h
        rw [intsD_rp r q]
        rfl
    | _ => cases e
def vSum : List Da → Option Da
  | [.lst xs] => (intsD xs).map fun l => .int l.sum
  | _ => none
theorem cad_sum (hc : X.calm = true) : CaD X (.builtin "sum") vSum := caD_of fun vs H Q ⟨G, ds, d, g, sa, e, k⟩ => by
  unfold vSum at e
  split at e
  · cases sa with
    | cons s1 sr =>
      cases sr
      obtain ⟨a, vs, rfl, h1, r⟩ := s1
      obtain ⟨l, e1, e2⟩ := Option.map_eq_some_iff.mp e
      subst e2
      have := intsD_rp r e1
      subst this
      exact ⟨_, cr_sum hc, a, l, rfl, SqL.of h1, k G H _ (cn_refl g) (.int _)⟩
  · cases e
def vMax : List Da → Option Da
  | [.int i, .int j] => some (.int (if j > i then j else i))
  | _ => none
theorem cad_max (hc : X.calm = true) : CaD X (.builtin "max") vMax := caD_of fun vs H Q ⟨G, ds, d, g, sa, e, k⟩ => by
  unfold vMax at e
  split at e
  · cases sa with
    | cons s1 sr =>
      cases sr with
      | cons s2 sr =>
        cases sr
        cases see_int s1
        cases see_int s2
        cases e
        exact ⟨_, call_max2 hc, _, _, rfl, k G H _ (cn_refl g) (.int _)⟩
  · cases e
def vMin : List Da → Option Da
  | [.int i, .int j] => some (.int (if j < i then j else i))
  | _ => none
theorem cad_min (hc : X.calm = true) : CaD X (.builtin "min") vMin := caD_of fun vs H Q ⟨G, ds, d, g, sa, e, k⟩ => by
  unfold vMin at e
  split at e
  · cases sa with
    | cons s1 sr =>
      cases sr with
      | cons s2 sr =>
        cases sr
        cases see_int s1
        cases see_int s2
        cases e
        exact ⟨_, call_min2 hc, _, _, rfl, k G H _ (cn_refl g) (.int _)⟩
  · cases e
/-- isinstance -/
def isKind : Da → String → Option Bool
  | .non, "str" => some false | .non, "list" => some false | .non, "tuple" => some false | .non, "int" => some false | .non, "bool" => some false
  | .bl _, "str" => some false | .bl _, "list" => some false | .bl _, "tuple" => some false | .bl _, "int" => some true | .bl _, "bool" => some true
  | .int _, "str" => some false | .int _, "list" => some false | .int _, "tuple" => some false | .int _, "int" => some true | .int _, "bool" => some false
  | .str _, "str" => some true | .str _, "list" => some false | .str _, "tuple" => some false | .str _, "int" => some false | .str _, "bool" => some false
  | .lst _, "str" => some false | .lst _, "list" => some true | .lst _, "tuple" => some false | .lst _, "int" => some false | .lst _, "bool" => some false
  | .tup _, "str" => some false | .tup _, "list" => some false | .tup _, "tuple" => some true | .tup _, "int" => some false | .tup _, "bool" => some false
  | _, _ => none
def tyD : Da → String
  | .non => "NoneType" | .bl _ => "bool" | .int _ => "int" | .str _ => "str" | .lst _ => "list" | .tup _ => "tuple" | _ => ""
theorem isKind_kit {d : Da} {n : String} {b : Bool} (h : isKind d n = some b) : kitB (tyD d) n = some b := by
  unfold isKind at h
  split at h <;> first | (cases h; simp only [tyD]; decide +kernel) | cases h
theorem See.ty {K : PySem.W.Frag} {G H : Hp} {v : V} {d : Da} {n : String} {b : Bool} (h : See K G H v d) (hk : isKind d n = some b) : TyX K H v (.type (tyD d)) := by
  cases d with
  | non => cases see_non h; exact .base .non
  | bl _ => cases see_bl h; exact .base (.bl _)
  | int _ => cases see_int h; exact .base (.int _)
  | str _ => obtain ⟨rfl, _⟩ := see_str h; exact .base (.str _)
  | lst _ => obtain ⟨a, vs, rfl, h1, _⟩ := h; exact .base (.lst h1)
  | tup _ =>
    obtain ⟨a, vs, rfl, h1, _⟩ := h
    rcases h1 with (h1 | ⟨o, h1⟩) | ⟨o, its, m, h1, h2, _⟩
    · exact .base (.tup h1)
    · exact .fTuple h1
    · exact .kTuple h1 h2
  | ins _ _ => simp [isKind] at hk
  | ty _ => simp [isKind] at hk
  | glo _ => simp [isKind] at hk
  | scr _ => simp [isKind] at hk
  | lam _ => simp [isKind] at hk
def vIsi : List Da → Option Da
  | [d, .ty n] => (isKind d n).map .bl
  | _ => none
theorem cad_isi : CaD X (.builtin "isinstance") vIsi := caD_of fun vs H Q ⟨G, ds, d, g, sa, e, k⟩ => by
  unfold vIsi at e
  split at e
  · rename_i d0 n
    cases sa with
    | cons s1 sr =>
      cases sr with
      | cons s2 sr =>
        cases sr
        cases see_ty s2
        obtain ⟨b, e1, e2⟩ := Option.map_eq_some_iff.mp e
        subst e2
        exact ⟨_, call_isi, _, _, _, _, b, rfl, .ty n, s1.ty e1, kit_ty (isKind_kit e1), k G H _ (cn_refl g) (.bl _)⟩
  · cases e
/-- list(xs) -/
def vList : List Da → Option (List Da)
  | [.lst xs] => some xs
  | [.tup xs] => some xs
  | _ => none
theorem RpA.line {K : PySem.W.Frag} {G : Hp} {vs : List V} {ds : List Da} (r : RpA K G vs ds) (h : ds.length ≤ 16777216) : vs.length ≤ sizeLine := by
  rw [r.length, sizeLine_eq]
  exact h
def vListOf : List Da → Option (List Da)
  | [.lst xs] => if xs.length ≤ 16777216 then some xs else none
  | [.tup xs] => if xs.length ≤ 16777216 then some xs else none
  | _ => none
theorem can_list : CaN X (.type "list") vListOf := caN_of fun vs H Q ⟨G, ds, es, g, sa, e, k⟩ => by
  unfold vListOf at e
  split at e
  · split at e
    · rename_i hl
      cases sa with
      | cons s1 sr =>
        cases sr
        obtain ⟨a, vs, rfl, h1, r⟩ := s1
        cases e
        exact ⟨_, call_list_of, a, vs, rfl, .inl (SqL.of h1), fun l hl' => k l vs hl' r (r.line hl)⟩
    · cases e
  · split at e
    · rename_i hl
      cases sa with
      | cons s1 sr =>
        cases sr
        obtain ⟨a, vs, rfl, h1, r⟩ := s1
        cases e
        exact ⟨_, call_list_of, a, vs, rfl, .inr h1, fun l hl' => k l vs hl' r (r.line hl)⟩
    · cases e
  · cases e
/-- tuple(xs) of a list -/
def vTupOf : List Da → Option Da
  | [.lst xs] => if xs.length ≤ 16777216 then some (.tup xs) else none
  | _ => none
theorem cad_tup : CaD X (.type "tuple") vTupOf := caD_of fun vs H Q ⟨G, ds, d, g, sa, e, k⟩ => by
  unfold vTupOf at e
  split at e
  · split at e
    · rename_i hl
      cases sa with
      | cons s1 sr =>
        cases sr
        obtain ⟨a, vs, rfl, h1, r⟩ := s1
        cases e
        refine ⟨_, call_tuple_of, a, vs, rfl, .inl ⟨SqL.of h1, fun p hp => ?_⟩⟩
        have c := Cn.new g hp (.tup vs)
        exact k _ _ _ c (.tup (SqT.of upd_same) (r.mono c.gg))
    · cases e
  · cases e
/-- all, any of a list of truths -/
def blsD : List Da → Option (List Bool)
  | [] => some []
  | .bl i :: r => match blsD r with
    | some l => some (i :: l)
    | none => none
  | _ => none
theorem blsD_map : ∀ l : List Bool, blsD (l.map .bl) = some l
  | [] => rfl
  | i :: l => by rw [List.map_cons]; unfold blsD; rw [blsD_map l]
theorem blsD_rp {K : PySem.W.Frag} {G : Hp} : ∀ {vs : List V} {ds : List Da} {l : List Bool}, RpA K G vs ds → blsD ds = some l → vs = l.map V.bl
  | _, _, _, .nil, e => by cases e; rfl
  | _, _, l, .cons (d := d) (ds := ds) h r, e => by
    cases d with
    | bl i =>
      unfold blsD at e
      cases q : blsD ds with
      | none => simp [q] at e
      | some l' =>
        simp only [q, Option.some.injEq] at e
        subst e
        cases h
        rw [blsD_rp r q]
        rfl
    | _ => cases e
def vAll : List Da → Option Da
  | [.lst xs] => (blsD xs).map fun l => .bl (l.all id)
  | _ => none
def vAny : List Da → Option Da
  | [.lst xs] => (blsD xs).map fun l => .bl (l.any id)
  | _ => none
theorem cad_all (hc : X.calm = true) : CaD X (.builtin "all") vAll := caD_of fun vs H Q ⟨G, ds, d, g, sa, e, k⟩ => by
  unfold vAll at e
  split at e
  · cases sa with
    | cons s1 sr =>
      cases sr
      obtain ⟨a, vs, rfl, h1, r⟩ := s1
      obtain ⟨l, e1, e2⟩ := Option.map_eq_some_iff.mp e
      subst e2
      have := blsD_rp r e1
      subst this
      exact ⟨_, cr_all hc, a, l, rfl, SqL.of h1, k G H _ (cn_refl g) (.bl _)⟩
  · cases e
theorem cad_any (hc : X.calm = true) : CaD X (.builtin "any") vAny := caD_of fun vs H Q ⟨G, ds, d, g, sa, e, k⟩ => by
  unfold vAny at e
  split at e
  · cases sa with
    | cons s1 sr =>
      cases sr
      obtain ⟨a, vs, rfl, h1, r⟩ := s1
      obtain ⟨l, e1, e2⟩ := Option.map_eq_some_iff.mp e
      subst e2
      have := blsD_rp r e1
      subst this
      exact ⟨_, cr_any hc, a, l, rfl, SqL.of h1, k G H _ (cn_refl g) (.bl _)⟩
  · cases e

/-! ### subscripts -/
theorem atI_rp {K : PySem.W.Frag} {G : Hp} {vs : List V} {ds : List Da} {i : Int} {d : Da} (r : RpA K G vs ds) (e : atI ds i = some d) : ∃ v, atI vs i = some v ∧ Rp K G v d := by
  unfold atI at e ⊢
  rw [r.length]
  cases q : ixN ds.length i with
  | none => rw [q] at e; cases e
  | some j =>
    rw [q] at e
    exact r.get' e
def vIx : Da → Da → Option Da
  | .lst xs, .int i => atI xs i
  | .tup xs, .int i => atI xs i
  | .str l, .int i => if l.length ≤ 16777216 then (atI l i).map fun c => .str [c] else none
  | _, _ => none
theorem atI_mem {α : Type} {l : List α} {i : Int} {c : α} (h : atI l i = some c) : c ∈ l := by
  obtain ⟨j, _, h2, _⟩ := atI_get h
  exact List.mem_of_getElem? h2
theorem ixd : IxR X (rD X.K vIx) := fun value slice pins s σ H x y v u Q I rx ry ⟨G, dx, dy, d, g, sx, sy, e, k⟩ hs => by
  unfold vIx at e
  split at e
  · obtain ⟨a, vs, rfl, h1, r⟩ := sx
    cases see_int sy
    obtain ⟨w, e1, e2⟩ := atI_rp r e
    exact ix_list value slice pins s σ H _ _ v u Q I rx ry ⟨a, vs, _, w, rfl, rfl, SqL.of h1, e1, k G H _ (cn_refl g) e2⟩ hs
  · obtain ⟨a, vs, rfl, h1, r⟩ := sx
    cases see_int sy
    obtain ⟨w, e1, e2⟩ := atI_rp r e
    exact ix_tup value slice pins s σ H _ _ v u Q I rx ry ⟨a, vs, _, w, rfl, rfl, h1, e1, k G H _ (cn_refl g) e2⟩ hs
  · split at e
    · rename_i hl
      obtain ⟨rfl, c⟩ := see_str sx
      cases see_int sy
      obtain ⟨z, e1, e2⟩ := Option.map_eq_some_iff.mp e
      subst e2
      exact ix_str value slice pins s σ H _ _ v u Q I rx ry ⟨_, _, z, rfl, rfl, by rw [S_length, sizeLine_eq]; exact hl, e1, k G H _ (cn_refl g) (.str (fun c' hc' => by
        have : c' = z := by simpa using hc'
        subst this
        exact c _ (atI_mem e1)))⟩ hs
    · cases e
  · cases e
theorem ve_ix {a b : Expr} {pos : Pos} {fa fb : EM Pk} (ha : VP X W a fa) (hb : VP X W b fb) (hs : PlainIx b := by exact fun _ _ => rfl) : VE X W (.Subscript a b pos) (fBin vIx fa fb) := pe_mono (pe_ix ixd ha hb hs) fun _ _ _ h => tV_bin h

/-! ### slices -/
def tVo (K : PySem.W.Frag) (W : WX) (f : EM (Option Int)) : TO := fun σ H Q => ∃ B ρ G, Stt K B ρ σ G H ∧ Sat (f ρ) (fun o ρ' => ∀ G' H', Same G G' → Stt K B ρ' σ G' H' → Q o H') (exW K W B σ)
abbrev VO (X : Cx) (W : WX) (e : Option Expr) (f : EM (Option Int)) : Prop := PO X e (tVo X.K W f)
theorem po_mono {e : Option Expr} {t t' : TO} (h : PO X e t) (k : ∀ σ H Q, t' σ H Q → t σ H Q) : PO X e t' := ⟨fun pins s σ H Q I q => h.run pins s σ H Q I (k σ H Q q)⟩
theorem vo_none : VO X W none (mP none) := po_mono po_none fun σ H Q ⟨B, ρ, G, t, s⟩ => s G H (Same.refl _) t
def asInt : Da → Option Int
  | .int i => some i
  | _ => none
def fInt (f : EM Da) : EM (Option Int) := mB f fun d => mO ((asInt d).map some)
theorem vo_some {e : Expr} {f : EM Da} (h : VE X W e f) : VO X W (some e) (fInt f) := po_mono (po_some h) fun σ H Q ⟨B, ρ, G, t, s⟩ =>
  ⟨B, ρ, G, t, (sat_bind s).imp (fun d ρ1 s1 x G1 H1 g1 t1 r1 => by
    obtain ⟨o, e, k⟩ := sat_o s1
    cases d with
    | int i =>
      cases r1
      cases e
      exact ⟨i, rfl, k G1 H1 g1 t1⟩
    | _ => cases e) fun e ρ' k => k⟩
def cutD {α : Type} (xs : List α) (lo hi : Option Int) : List α := (xs.drop (HT.sIx xs.length 0 lo)).take (HT.sIx xs.length xs.length hi - HT.sIx xs.length 0 lo)
theorem RpA.cut {K : PySem.W.Frag} {G : Hp} {vs : List V} {ds : List Da} (r : RpA K G vs ds) (lo hi : Option Int) : RpA K G (cutV vs lo hi) (cutD ds lo hi) := by
  unfold cutV cutD
  rw [r.length]
  exact (r.drop _).take _
theorem cutD_sub {α : Type} {xs : List α} {lo hi : Option Int} {c : α} (h : c ∈ cutD xs lo hi) : c ∈ xs := List.mem_of_mem_drop (List.mem_of_mem_take h)
def fSl {α : Type} (r : Da → Option Int → Option Int → Option α) (fa : EM Pk) (fl fh : EM (Option Int)) : EM α := mB fa fun p => mB fl fun lo => mB fh fun hi => fun ρ => mO (match look ρ p with
  | some d => r d lo hi
  | none => none) ρ
def vSlS : Da → Option Int → Option Int → Option Da
  | .str l, lo, hi => if l.length ≤ 16777216 then some (.str (cutD l lo hi)) else none
  | _, _, _ => none
def vSlL : Da → Option Int → Option Int → Option (List Da)
  | .lst xs, lo, hi => if xs.length ≤ 16777216 then some (cutD xs lo hi) else none
  | .scr ns, lo, hi => if ns.length ≤ 16777216 then some (cutD (ns.map .int) lo hi) else none
  | _, _, _ => none
theorem rpA_ints {K : PySem.W.Frag} {G : Hp} : ∀ ns : List Int, RpA K G (ns.map V.int) (ns.map Da.int)
  | [] => .nil
  | n :: ns => .cons (.int n) (rpA_ints ns)
theorem ve_slS {e : Expr} {lo hi : Option Expr} {pos p2 : Pos} {fa : EM Pk} {fl fh : EM (Option Int)} (ha : VP X W e fa) (hl : VO X W lo fl) (hh : VO X W hi fh) : VE X W (.Subscript e (.Slice lo hi none p2) pos) (fSl vSlS fa fl fh) :=
  pe_mono (pe_slice sl_str ha hl hh) fun σ H Q ⟨B, ρ, G, t, s⟩ => ⟨B, ρ, G, t, (sat_bind s).imp (fun p ρ1 s1 x G1 H1 g1 t1 px => ⟨B, ρ1, G1, t1, (sat_bind s1).imp (fun lo ρ2 s2 G2 H2 g2 t2 =>
    ⟨B, ρ2, G2, t2, (sat_bind s2).imp (fun hi ρ3 s3 G3 H3 g3 t3 => by
      obtain ⟨o, e, k⟩ := sat_o s3
      cases l1 : look ρ3 p with
      | none => rw [l1] at e; cases e
      | some d =>
        rw [l1] at e
        have sx := see_of t3 ((px.mono g2).mono g3) l1
        cases d with
        | str l =>
          obtain ⟨rfl, c⟩ := see_str sx
          simp only [vSlS] at e
          split at e
          · rename_i hl
            cases e
            refine ⟨_, rfl, by rw [S_length, sizeLine_eq]; exact hl, ?_⟩
            have q : cutS ⟨l.toArray⟩ lo hi = ⟨(cutD l lo hi).toArray⟩ := by
              unfold cutS cutD
              rw [S_length] <;> rfl
            rw [q]
            exact k _ G3 H3 ((g1.trans g2).trans g3) t3 (.str (c.sub fun _ h => cutD_sub h))
          · cases e
        | _ => cases e) fun e ρ' k => k⟩) fun e ρ' k => k⟩) fun e ρ' k => k⟩
theorem vn_slL {e : Expr} {lo hi : Option Expr} {pos p2 : Pos} {fa : EM Pk} {fl fh : EM (Option Int)} (ha : VP X W e fa) (hl : VO X W lo fl) (hh : VO X W hi fh) : VN X W (.Subscript e (.Slice lo hi none p2) pos) (fSl vSlL fa fl fh) :=
  pe_mono (pe_slice sl_list ha hl hh) fun σ H Q ⟨B, ρ, G, t, s⟩ => ⟨B, ρ, G, t, (sat_bind s).imp (fun p ρ1 s1 x G1 H1 g1 t1 px => ⟨B, ρ1, G1, t1, (sat_bind s1).imp (fun lo ρ2 s2 G2 H2 g2 t2 =>
    ⟨B, ρ2, G2, t2, (sat_bind s2).imp (fun hi ρ3 s3 G3 H3 g3 t3 => by
      obtain ⟨o, e, k⟩ := sat_o s3
      cases l1 : look ρ3 p with
      | none => rw [l1] at e; cases e
      | some d =>
        rw [l1] at e
        have sx := see_of t3 ((px.mono g2).mono g3) l1
        cases d with
        | lst xs =>
          obtain ⟨a, vs, rfl, h1, r⟩ := sx
          simp only [vSlL] at e
          split at e
          · rename_i hl
            cases e
            refine ⟨a, vs, rfl, SqL.of h1, fun z hz => ?_⟩
            refine k z _ G3 H3 ((g1.trans g2).trans g3) hz t3 (r.cut lo hi) ?_
            have h2 := r.length
            refine Nat.le_trans (cutV_length vs lo hi) ?_
            rw [h2, sizeLine_eq]
            exact hl
          · cases e
        | scr ns =>
          simp only [vSlL] at e
          split at e
          · rename_i hl
            cases e
            cases sx with
            | scr h1 =>
            refine ⟨_, _, rfl, t3.cg.gh.seq h1, fun z hz => ?_⟩
            refine k z _ G3 H3 ((g1.trans g2).trans g3) hz t3 ((rpA_ints ns).cut lo hi) ?_
            refine Nat.le_trans (cutV_length _ lo hi) ?_
            rw [List.length_map, sizeLine_eq]
            exact hl
          · cases e
        | _ => cases e) fun e ρ' k => k⟩) fun e ρ' k => k⟩) fun e ρ' k => k⟩
end
end Vl
/-! the value layer: displays, tests, fields, calls of defs -/
namespace Vl
variable [LamT]
open PySem PySem.Spec PyProof.Rows L2

section
variable {X : Cx} {W : WX}
/-! ### displays -/
def fLst (fa : EM (List Da)) : EM (List Da) := mB fa fun ds => mO (if ds.length ≤ 16777216 then some ds else none)
theorem vn_lst {es : List Expr} {pos : Pos} {fa : EM (List Da)} (h : VA X W es fa) : VN X W (.List es pos) (fLst fa) := pe_mono (pe_lst h) fun σ H Q ⟨B, ρ, G, t, s⟩ =>
  ⟨B, ρ, G, t, (sat_bind s).imp (fun ds ρ1 s1 vs G1 H1 g1 t1 r1 => by
    obtain ⟨o, e, k⟩ := sat_o s1
    split at e
    · rename_i hl
      cases e
      exact ⟨r1.line hl, fun p hp => k p vs G1 H1 g1 hp t1 r1 (r1.line hl)⟩
    · cases e) fun e ρ' k => k⟩
def fTup (fa : EM (List Da)) : EM Da := mB fa fun ds => mO (if ds.length ≤ 16777216 then some (.tup ds) else none)
theorem ve_tup {es : List Expr} {x1 : Nat} {pos : Pos} {fa : EM (List Da)} (h : VA X W es fa) : VE X W (.Tuple es x1 pos) (fTup fa) := pe_mono (pe_tup h) fun σ H Q ⟨B, ρ, G, t, s⟩ =>
  ⟨B, ρ, G, t, (sat_bind s).imp (fun ds ρ1 s1 vs G1 H1 g1 t1 r1 => by
    obtain ⟨o, e, k⟩ := sat_o s1
    split at e
    · rename_i hl
      cases e
      refine ⟨r1.line hl, fun p hp => ?_⟩
      have c := Cn.new t1.cg.gh hp (.tup vs)
      exact k _ _ _ (g1.trans c.gg) (t1.step c) (.tup (SqT.of upd_same) (r1.mono c.gg))
    · cases e) fun e ρ' k => k⟩

/-! ### tests -/
def asBl : Da → Option Bool
  | .bl b => some b
  | _ => none
theorem tVt_val {K : PySem.W.Frag} {f : EM Da} {σ : L2.St} {H : Hp} {Q : Bool → Hp → Prop} (h : tVt K W (mB f fun d => mO (asBl d)) σ H Q) : tV K W f σ H fun x H' => ∃ c, x = .bl c ∧ Q c H' := by
  obtain ⟨B, ρ, G, t, s⟩ := h
  refine ⟨B, ρ, G, t, (sat_bind s).imp (fun d ρ1 s1 v G1 H1 g1 t1 r1 => ?_) fun e ρ' k => k⟩
  obtain ⟨b, e, k⟩ := sat_o s1
  cases d with
  | bl c =>
    cases r1
    cases e
    exact ⟨_, rfl, k G1 H1 g1 t1⟩
  | _ => cases e
def fBinT (r : Da → Da → Option Da) (fa fb : EM Pk) : EM Bool := mB (fBin r fa fb) fun d => mO (asBl d)
theorem vt_cmp {a b : Expr} {op : CmpOp} {pos : Pos} {r : Da → Da → Option Da} {fa fb : EM Pk} (ho : OpD X (compareOp op) r) (ha : VP X W a fa) (hb : VP X W b fb) (hm : behindInMarks op b = false) :
    VT X W (.Compare a [op] [b] pos) (fBinT r fa fb) := pt_mono (pt_cmpR ho ha hb hm) fun σ H Q h => tV_bin (tVt_val h)
def vTru : Da → Option Bool
  | .non => some false
  | .bl b => some b
  | .int i => some (i != 0)
  | .str l => if l.length ≤ 16777216 then some (!l.isEmpty) else none
  | .lst xs => some (!xs.isEmpty)
  | .tup xs => some (!xs.isEmpty)
  | _ => none
theorem RpA.isEmpty {K : PySem.W.Frag} {G : Hp} {vs : List V} {ds : List Da} (r : RpA K G vs ds) : vs.isEmpty = ds.isEmpty := by cases r <;> rfl
theorem See.tru {K : PySem.W.Frag} {G H : Hp} {v : V} {d : Da} {b : Bool} (h : See K G H v d) (e : vTru d = some b) : TruV K v H b := by
  cases d with
  | non => cases see_non h; cases e; exact rfl
  | bl _ => cases see_bl h; cases e; exact rfl
  | int _ => cases see_int h; cases e; exact rfl
  | str l =>
    obtain ⟨rfl, _⟩ := see_str h
    simp only [vTru] at e
    split at e
    · rename_i hl
      cases e
      refine ⟨by rw [S_length, sizeLine_eq]; exact hl, ?_⟩
      rw [S_length]
      cases l <;> simp
      omega
    · cases e
  | lst ds =>
    obtain ⟨a, vs, rfl, h1, r⟩ := h
    cases e
    exact .inl ⟨vs, SqL.of h1, by rw [r.isEmpty]⟩
  | tup ds =>
    obtain ⟨a, vs, rfl, h1, r⟩ := h
    cases e
    exact .inr (.inl ⟨vs, h1, by rw [r.isEmpty]⟩)
  | _ => cases e
def fTru (fa : EM Pk) : EM Bool := mB fa fun p => fun ρ => mO (match look ρ p with
  | some d => vTru d
  | none => none) ρ
theorem vt_tru {a : Expr} {fa : EM Pk} (ha : VP X W a fa) (he : ∀ whole, isTrue a X.env whole = (do let v ← whole; standAt a.pos; holding [v] (truthy v)) := by intro _; rfl) : VT X W a (fTru fa) :=
  pt_mono (pt_truth ha he) fun σ H Q ⟨B, ρ, G, t, s⟩ => ⟨B, ρ, G, t, (sat_bind s).imp (fun p ρ1 s1 v G1 H1 g1 t1 px => by
    obtain ⟨b, e, k⟩ := sat_o s1
    cases l1 : look ρ1 p with
    | none => rw [l1] at e; cases e
    | some d =>
      rw [l1] at e
      exact ⟨b, (see_of t1 px l1).tru e, k G1 H1 g1 t1⟩) fun e ρ' k => k⟩
structure VW (X : Cx) (W : WX) (e : Expr) (f : EM Bool) : Prop where
  pw : PW X e (tVt X.K W f)
theorem pw_mono {e : Expr} {t t' : TT} (h : PW X e t) (k : ∀ σ H Q, t' σ H Q → t σ H Q) : PW X e t' := ⟨fun wh pins s σ H Q I q => h.run wh pins s σ H Q I (k σ H Q q)⟩
theorem vt_w {e : Expr} {f : EM Bool} (h : VW X W e f) : VT X W e f := h.pw.pt
theorem vw_and1 {a : Expr} {pos : Pos} {fa : EM Bool} (h : VT X W a fa) : VW X W (.BoolOp .And [a] pos) fa := ⟨pw_and1 h⟩
theorem vw_or1 {a : Expr} {pos : Pos} {fa : EM Bool} (h : VT X W a fa) : VW X W (.BoolOp .Or [a] pos) fa := ⟨pw_or1 h⟩
def fAnd (fa fb : EM Bool) : EM Bool := mB fa fun b => if b = true then fb else mP false
def fOr (fa fb : EM Bool) : EM Bool := mB fa fun b => if b = true then mP true else fb
theorem vw_and {a b : Expr} {r : List Expr} {pos : Pos} {fa fb : EM Bool} (ha : VT X W a fa) (hb : VW X W (.BoolOp .And (b :: r) pos) fb) : VW X W (.BoolOp .And (a :: b :: r) pos) (fAnd fa fb) :=
  ⟨pw_mono (pw_and ha hb.pw) fun σ H Q ⟨B, ρ, G, t, s⟩ => ⟨B, ρ, G, t, (sat_bind s).imp (fun c ρ1 s1 G1 H1 g1 t1 => by
    cases c with
    | true => exact ⟨B, ρ1, G1, t1, s1.imp (fun b ρ2 k G2 H2 g2 t2 => k G2 H2 (g1.trans g2) t2) fun e ρ' k => k⟩
    | false => exact s1 G1 H1 g1 t1) fun e ρ' k => k⟩⟩
theorem vw_or {a b : Expr} {r : List Expr} {pos : Pos} {fa fb : EM Bool} (ha : VT X W a fa) (hb : VW X W (.BoolOp .Or (b :: r) pos) fb) : VW X W (.BoolOp .Or (a :: b :: r) pos) (fOr fa fb) :=
  ⟨pw_mono (pw_or ha hb.pw) fun σ H Q ⟨B, ρ, G, t, s⟩ => ⟨B, ρ, G, t, (sat_bind s).imp (fun c ρ1 s1 G1 H1 g1 t1 => by
    cases c with
    | false => exact ⟨B, ρ1, G1, t1, s1.imp (fun b ρ2 k G2 H2 g2 t2 => k G2 H2 (g1.trans g2) t2) fun e ρ' k => k⟩
    | true => exact s1 G1 H1 g1 t1) fun e ρ' k => k⟩⟩
def fNot (fa : EM Bool) : EM Bool := mB fa fun b => mP (!b)
theorem vt_not {a : Expr} {pos : Pos} {fa : EM Bool} (ha : VT X W a fa) : VT X W (.UnaryOp .Not a pos) (fNot fa) := pt_mono (pt_not ha) fun σ H Q ⟨B, ρ, G, t, s⟩ =>
  ⟨B, ρ, G, t, (sat_bind s).imp (fun c ρ1 s1 G1 H1 g1 t1 => s1 G1 H1 g1 t1) fun e ρ' k => k⟩
/-- and, or, not as values (truths) -/
def fAndV (fa fb : EM Da) : EM Da := mB fa fun d => match asBl d with
  | some true => fb
  | some false => mP (.bl false)
  | none => fun _ => .stuck
def fOrV (fa fb : EM Da) : EM Da := mB fa fun d => match asBl d with
  | some false => fb
  | some true => mP (.bl true)
  | none => fun _ => .stuck
theorem ve_one {op : BoolOp} {a : Expr} {pos : Pos} {fa : EM Da} (h : VE X W a fa) : VE X W (.BoolOp op [a] pos) fa := pe_one h
theorem ve_and {a b : Expr} {r : List Expr} {pos : Pos} {fa fb : EM Da} (ha : VE X W a fa) (hb : VE X W (.BoolOp .And (b :: r) pos) fb) : VE X W (.BoolOp .And (a :: b :: r) pos) (fAndV fa fb) :=
  pe_mono (pe_and ha hb) fun σ H Q ⟨B, ρ, G, t, s⟩ => ⟨B, ρ, G, t, (sat_bind s).imp (fun d ρ1 s1 v G1 H1 g1 t1 r1 => by
    cases d with
    | bl c =>
      cases r1
      cases c with
      | true => exact ⟨true, rfl, B, ρ1, G1, t1, Sat.imp (o := fb ρ1) s1 (fun b ρ2 k v2 G2 H2 g2 t2 r2 => k v2 G2 H2 (g1.trans g2) t2 r2) fun e ρ' k => k⟩
      | false => exact ⟨false, rfl, (show ∀ v G' H', Same G G' → _ → _ → Q v H' from s1) _ G1 H1 g1 t1 (.bl false)⟩
    | _ => exact False.elim s1) fun e ρ' k => k⟩
theorem ve_or {a b : Expr} {r : List Expr} {pos : Pos} {fa fb : EM Da} (ha : VE X W a fa) (hb : VE X W (.BoolOp .Or (b :: r) pos) fb) : VE X W (.BoolOp .Or (a :: b :: r) pos) (fOrV fa fb) :=
  pe_mono (pe_or ha hb) fun σ H Q ⟨B, ρ, G, t, s⟩ => ⟨B, ρ, G, t, (sat_bind s).imp (fun d ρ1 s1 v G1 H1 g1 t1 r1 => by
    cases d with
    | bl c =>
      cases r1
      cases c with
      | false => exact ⟨false, rfl, B, ρ1, G1, t1, Sat.imp (o := fb ρ1) s1 (fun b ρ2 k v2 G2 H2 g2 t2 r2 => k v2 G2 H2 (g1.trans g2) t2 r2) fun e ρ' k => k⟩
      | true => exact ⟨true, rfl, (show ∀ v G' H', Same G G' → _ → _ → Q v H' from s1) _ G1 H1 g1 t1 (.bl true)⟩
    | _ => exact False.elim s1) fun e ρ' k => k⟩
def fNotV (fa : EM Da) : EM Da := mB fa fun d => mO ((asBl d).map fun b => .bl (!b))
theorem ve_not {a : Expr} {pos : Pos} {fa : EM Da} (ha : VE X W a fa) : VE X W (.UnaryOp .Not a pos) (fNotV fa) := pe_mono (pe_not ha) fun σ H Q ⟨B, ρ, G, t, s⟩ =>
  ⟨B, ρ, G, t, (sat_bind s).imp (fun d ρ1 s1 v G1 H1 g1 t1 r1 => by
    obtain ⟨b, e, k⟩ := sat_o s1
    cases d with
    | bl c => cases r1; cases e; exact ⟨c, rfl, k _ G1 H1 g1 t1 (.bl _)⟩
    | _ => cases e) fun e ρ' k => k⟩
def fIf {α : Type} (ft : EM Bool) (fa fb : EM α) : EM α := mB ft fun b => if b = true then fa else fb
theorem ve_if {c a b : Expr} {pos : Pos} {ft : EM Bool} {fa fb : EM Da} (hc : VT X W c ft) (ha : VE X W a fa) (hb : VE X W b fb) : VE X W (.IfExp c a b pos) (fIf ft fa fb) :=
  pe_mono (pe_ifExp hc ha hb) fun σ H Q ⟨B, ρ, G, t, s⟩ => ⟨B, ρ, G, t, (sat_bind s).imp (fun c ρ1 s1 G1 H1 g1 t1 => by
    cases c with
    | true => exact ⟨B, ρ1, G1, t1, Sat.imp (o := fa ρ1) s1 (fun b ρ2 k v2 G2 H2 g2 t2 r2 => k v2 G2 H2 (g1.trans g2) t2 r2) fun e ρ' k => k⟩
    | false => exact ⟨B, ρ1, G1, t1, Sat.imp (o := fb ρ1) s1 (fun b ρ2 k v2 G2 H2 g2 t2 r2 => k v2 G2 H2 (g1.trans g2) t2 r2) fun e ρ' k => k⟩) fun e ρ' k => k⟩
def fNeg (fa : EM Da) : EM Da := mB fa fun d => mO ((asInt d).map fun i => .int (-i))
theorem ve_neg {a : Expr} {pos : Pos} {fa : EM Da} (ha : VE X W a fa) : VE X W (.UnaryOp .USub a pos) (fNeg fa) := pe_mono (pe_un un_neg ha) fun σ H Q ⟨B, ρ, G, t, s⟩ =>
  ⟨B, ρ, G, t, (sat_bind s).imp (fun d ρ1 s1 v G1 H1 g1 t1 r1 => by
    obtain ⟨b, e, k⟩ := sat_o s1
    cases d with
    | int c => cases r1; cases e; exact ⟨c, rfl, k _ G1 H1 g1 t1 (.int _)⟩
    | _ => cases e) fun e ρ' k => k⟩
/-- one rule or the other, by the data -/
def fAlt {α : Type} (f g : EM α) : EM α := fun ρ => match f ρ with
  | .stuck => g ρ
  | o => o
theorem ve_alt {e : Expr} {f g : EM Da} (h1 : VE X W e f) (h2 : VE X W e g) : VE X W e (fAlt f g) := ⟨fun pins s σ H Q I ⟨B, ρ, G, t, q⟩ => by
  unfold fAlt at q
  cases e1 : f ρ with
  | stuck => rw [e1] at q; exact h2.run pins s σ H Q I ⟨B, ρ, G, t, q⟩
  | ok d ρ' => rw [e1] at q; exact h1.run pins s σ H Q I ⟨B, ρ, G, t, by rw [e1]; exact q⟩
  | exn d ρ' => rw [e1] at q; exact h1.run pins s σ H Q I ⟨B, ρ, G, t, by rw [e1]; exact q⟩⟩

/-! ### fields -/
def fFld (c f : Str) (fe : EM Da) : EM Da := mB fe fun d => mO (match d with
  | .ins c' gs => if c' = c then gs.lookup f else none
  | _ => none)
theorem ve_fld {c : Str} {e : Expr} {f : Str} {pos : Pos} {fe : EM Da} (hc : Cls X.K (He.ga X.K c)) (hn : NoAttr X.K (He.ga X.K c) f) (he : VE X W e fe) (hb : attributeBase e f X.env (eval e X.env) = eval e X.env := by rfl) :
    VE X W (.Attribute e f pos) (fFld c f fe) := pe_mono (pe_fld he hb) fun σ H Q ⟨B, ρ, G, t, s⟩ => ⟨B, ρ, G, t, (sat_bind s).imp (fun d ρ1 s1 v G1 H1 g1 t1 r1 => by
    obtain ⟨z, e, k⟩ := sat_o s1
    cases d with
    | ins c' gs =>
      simp only at e
      split at e
      · rename_i hcc
        subst hcc
        cases r1 with
        | ins h1 r =>
          rcases r.look f with ⟨_, q⟩ | ⟨w, d, q1, q2, q3⟩
          · rw [q] at e; cases e
          · rw [q2] at e
            cases e
            exact ⟨_, _, _, _, w, rfl, t1.cg.gh _ _ h1, hc, hn, q1, k w G1 H1 g1 t1 q3⟩
      · cases e
    | _ => cases e) fun e ρ' k => k⟩

/-! ### defs -/
inductive Res where
  | stuck | ok (d : Da) | exn (e : Exn)
def spV (K : PySem.W.Frag) (F : List Da → Res) : Sp := fun vs H Q E => ∃ G ds, Gd G H ∧ RpA K G vs ds ∧ match F ds with
  | .ok d => ∀ G' H' v, Cn G H G' H' → Rp K G' v d → Q v H'
  | .exn e => ∀ G' H' cls dx, Cn G H G' H' → ExOk K H' cls dx e → E cls dx H'
  | .stuck => False
/-- a def's contract: the def at f; df: the data of the defaults that a call leaves open -/
structure FoA (P : Program) (w : World) (K : PySem.W.Frag) (mg : Str → Option Value) (base : Heap) (k : Nat) (f : Addr) (ps : List Str) (df : List Da) (F : List Da → Res) : Prop where
  ok : ∃ (fd : FuncData) (dvs : List V) (ds : List Value), FnOk P w K mg base CX0 k f fd ps (spV K F) ∧ Binds K fd ps ds ∧ Vals dvs ds ∧ ∀ G, RpA K G dvs df
  kp : PySem.W.keepIn K (.ref f) = true
def fDef (F : List Da → Res) (df : List Da) (fa : EM (List Da)) : EM Da := mB fa fun ds => fun ρ => match F (ds ++ df) with
  | .ok d => .ok d ρ
  | _ => .stuck
theorem sp_use {K : PySem.W.Frag} {F : List Da → Res} {B : Bs} {G G1 H1 : Hp} {ρ1 : Env} {σ : L2.St} {vs : List V} {ds : List Da} {Q : VK} {E : XK} (g1 : Same G G1) (t1 : Stt K B ρ1 σ G1 H1) (r : RpA K G1 vs ds)
    (s : Sat (match F ds with | .ok d => Out.ok d ρ1 | _ => .stuck) (fun d ρ' => ∀ v G' H', Same G G' → Stt K B ρ' σ G' H' → Rp K G' v d → Q v H') (exW K W B σ)) : spV K F vs H1 Q E := by
  refine ⟨G1, ds, t1.gd, r, ?_⟩
  cases e : F ds with
  | ok d =>
    rw [e] at s
    exact fun G' H' v c rv => s v G' H' (g1.trans c.gg) (t1.step c) rv
  | exn x => rw [e] at s; exact s.elim
  | stuck => rw [e] at s; exact s.elim
theorem ve_call {k : Nat} {x : Str} {f : Addr} {p pos : Pos} {e : Expr} {es : List Expr} {ps : List Str} {df : List Da} {F : List Da → Res} {fa : EM (List Da)} (h : FoA X.prog X.w X.K X.mg X.base k f ps df F) (hm : X.mg x = some (.ref f)) (hr : Room k X.A) (ha : VA X W (e :: es) fa)
    (hg : Gl X x := by rfl) (hdb : (x == ("__debug__" : Str)) = false := by decide) (he : starEach (e :: es) X.env = (false, eval e X.env) :: starEach es X.env := by rfl) (hpl : (backTo pos (starEach es X.env)).any (·.1) = false := by rfl) :
    VE X W (.Call (.Name x p) (e :: es) [] pos) (fDef F df fa) := by
  obtain ⟨fd, dvs, dus, F0, hb, hd, rd⟩ := h.ok
  refine pe_mono (pe_call F0 hr hg hm h.kp hb hd pass0 ha hdb he hpl) fun σ H Q ⟨B, ρ, G, t, s⟩ => ?_
  exact ⟨B, ρ, G, t, (sat_bind s).imp (fun ds ρ1 s1 vs G1 H1 g1 t1 r1 => sp_use g1 t1 (r1.append (rd G1)) s1) fun e ρ' k => k⟩
theorem ve_call0 {k : Nat} {x : Str} {f : Addr} {p pos : Pos} {ps : List Str} {df : List Da} {F : List Da → Res} (h : FoA X.prog X.w X.K X.mg X.base k f ps df F) (hm : X.mg x = some (.ref f)) (hr : Room k X.A)
    (hg : Gl X x := by rfl) (hdb : (x == ("__debug__" : Str)) = false := by decide) : VE X W (.Call (.Name x p) [] [] pos) (fDef F df (mP [])) := by
  obtain ⟨fd, dvs, dus, F0, hb, hd, rd⟩ := h.ok
  refine pe_mono (pe_call0 F0 hr hg hm h.kp hb hd pass0 hdb) fun σ H Q ⟨B, ρ, G, t, s⟩ => ?_
  exact sp_use (ds := df) (Same.refl _) t (rd G) s
/-- a method's call; the class is known -/
def fMeth (c m : Str) (F : List Da → Res) (df : List Da) (fe : EM Da) (fa : EM (List Da)) : EM Da := mB fe fun d => match d with
  | .ins c' gs => if c' = c ∧ gs.lookup m = none then mB fa fun ds => fun ρ => match F (d :: (ds ++ df)) with
    | .ok d => .ok d ρ
    | _ => .stuck
    else fun _ => .stuck
  | _ => fun _ => .stuck
theorem tV_meth {K : PySem.W.Frag} {c m : Str} {dvs : List V} {df : List Da} {F : List Da → Res} {fe : EM Da} {fa : EM (List Da)} (rd : ∀ G, RpA K G dvs df) {σ : L2.St} {H : Hp} {Q : VK} (h : tV K W (fMeth c m F df fe fa) σ H Q) :
    tMeth (He.ga K c) m (spV K F) dvs E0 (tV K W fe) (tVa K W fa) σ H Q := by
  obtain ⟨B, ρ, G, t, s⟩ := h
  refine ⟨B, ρ, G, t, (sat_bind s).imp (fun d ρ1 s1 v G1 H1 g1 t1 r1 => ?_) fun e ρ' k => k⟩
  cases d with
  | ins c' gs =>
    simp only at s1
    by_cases hc : c' = c ∧ gs.lookup m = none
    · rw [if_pos hc] at s1
      obtain ⟨rfl, hm⟩ := hc
      have r1' := r1
      cases r1 with
      | ins h1 r =>
        refine ⟨_, _, _, rfl, t1.cg.gh _ _ h1, ?_, B, ρ1, G1, t1, (sat_bind s1).imp (fun ds ρ2 s2 vs G2 H2 g2 t2 r2 => sp_use (g1.trans g2) t2 (.cons (r1'.mono g2) (r2.append (rd G2))) s2) fun e ρ' k => k⟩
        rcases r.look m with ⟨q, _⟩ | ⟨w, d, q1, q2, q3⟩
        · exact q
        · rw [hm] at q2; cases q2
    · rw [if_neg hc] at s1
      exact s1.elim
  | _ => exact False.elim s1
theorem ve_meth {pl : Sem Bool} {k : Nat} {c m : Str} {f : Addr} {apos pos : Pos} {o e : Expr} {es : List Expr} {ps : List Str} {df : List Da} {F : List Da → Res} {fe : EM Da} {fa : EM (List Da)} (hc : Cls X.K (He.ga X.K c)) (hm : Meth X.K (He.ga X.K c) m f)
    (h : FoA X.prog X.w X.K X.mg X.base k f ps df F) (hr : Room k X.A) (ho : VE X W o fe) (ha : VA X W (e :: es) fa)
    (hst : starEach (e :: es) X.env = (false, eval e X.env) :: starEach es X.env := by rfl) (hpl : (backTo pos (starEach es X.env)).any (·.1) = false := by rfl)
    (hev : eval (.Call (.Attribute o m apos) (e :: es) [] pos) X.env = (do
      let ov ← eval o X.env
      standAt apos.atName
      let (f, first) ← holding [ov] (getMethod ov m pl)
      callWith pos f first (backTo pos (starEach (e :: es) X.env)) (backToKw pos (keywordEach [] X.env))) := by rfl) :
    VE X W (.Call (.Attribute o m apos) (e :: es) [] pos) (fMeth c m F df fe fa) := by
  obtain ⟨fd, dvs, dus, F0, hb, hd, rd⟩ := h.ok
  exact pe_mono (pe_meth (pl := pl) ho hc hm F0 hr hb hd pass0 ha hst hpl hev) fun _ _ _ q => tV_meth rd q
theorem tV_meth0 {K : PySem.W.Frag} {c m : Str} {dvs : List V} {df : List Da} {F : List Da → Res} {fe : EM Da} (rd : ∀ G, RpA K G dvs df) {σ : L2.St} {H : Hp} {Q : VK} (h : tV K W (fMeth c m F df fe (mP [])) σ H Q) :
    tMeth (He.ga K c) m (spV K F) dvs E0 (tV K W fe) tNil σ H Q := by
  obtain ⟨B, ρ, G, t, s⟩ := h
  refine ⟨B, ρ, G, t, (sat_bind s).imp (fun d ρ1 s1 v G1 H1 g1 t1 r1 => ?_) fun e ρ' k => k⟩
  cases d with
  | ins c' gs =>
    simp only at s1
    by_cases hc : c' = c ∧ gs.lookup m = none
    · rw [if_pos hc] at s1
      obtain ⟨rfl, hm⟩ := hc
      have r1' := r1
      cases r1 with
      | ins h1 r =>
        refine ⟨_, _, _, rfl, t1.cg.gh _ _ h1, ?_, sp_use (vs := _ :: ([] ++ dvs)) g1 t1 (.cons r1' (rd G1)) s1⟩
        rcases r.look m with ⟨q, _⟩ | ⟨w, d, q1, q2, q3⟩
        · exact q
        · rw [hm] at q2; cases q2
    · rw [if_neg hc] at s1
      exact s1.elim
  | _ => exact False.elim s1
theorem ve_meth0 {pl : Sem Bool} {k : Nat} {c m : Str} {f : Addr} {apos pos : Pos} {o : Expr} {ps : List Str} {df : List Da} {F : List Da → Res} {fe : EM Da} (hc : Cls X.K (He.ga X.K c)) (hm : Meth X.K (He.ga X.K c) m f)
    (h : FoA X.prog X.w X.K X.mg X.base k f ps df F) (hr : Room k X.A) (ho : VE X W o fe)
    (hev : eval (.Call (.Attribute o m apos) [] [] pos) X.env = (do
      let ov ← eval o X.env
      standAt apos.atName
      let (f, first) ← holding [ov] (getMethod ov m pl)
      callWith pos f first (backTo pos (starEach [] X.env)) (backToKw pos (keywordEach [] X.env))) := by rfl) :
    VE X W (.Call (.Attribute o m apos) [] [] pos) (fMeth c m F df fe (mP [])) := by
  obtain ⟨fd, dvs, dus, F0, hb, hd, rd⟩ := h.ok
  exact pe_mono (pe_meth0 (pl := pl) ho hc hm F0 hr hb hd pass0 hev) fun _ _ _ q => tV_meth0 rd q

/-! ### C(..) -/
/-- __init__: the instance at p gets its fields -/
def spI (K : PySem.W.Frag) (c : Str) (F : List Da → Option (List (Str × Da))) : Sp := fun vs H Q _ => ∃ G p dx us ds, vs = .ref p :: us ∧ Gd G H ∧ G p = none ∧ H p = some (.ins (He.ga K c) dx []) ∧ RpA K G us ds ∧ ∃ gs, F ds = some gs ∧
  ∀ G' H' dx' fs, Cg (fun b => b = p) G H G' H' → H' p = some (.ins (He.ga K c) dx' fs) → RpF K G' fs gs → Q .non H'
structure FoI (P : Program) (w : World) (K : PySem.W.Frag) (mg : Str → Option Value) (base : Heap) (k : Nat) (c : Str) (ps : List Str) (F : List Da → Option (List (Str × Da))) : Prop where
  ok : ∃ fd : FuncData, FnOk P w K mg base CX0 k (He.ma K (He.ga K c) "__init__") fd ps (spI K c F) ∧ Binds K fd ps []
  mkr : Mk K (He.ga K c) (He.ma K (He.ga K c) "__init__")
def fMake (c : Str) (F : List Da → Option (List (Str × Da))) (fa : EM (List Da)) : EM Da := mB fa fun ds => mO ((F ds).map (.ins c))
theorem same_make {H : Hp} {x dx : Addr} {o : HO} (hx : H x = none) (hd : H dx = none) : Same H (upd (upd H dx (.own x)) x o) := fun b u e => by
  rw [upd_ne (ne_of_none e hx), upd_ne (ne_of_none e hd)]
  exact e
theorem ve_make {k : Nat} {x : Str} {p pos : Pos} {e : Expr} {es : List Expr} {ps : List Str} {F : List Da → Option (List (Str × Da))} {fa : EM (List Da)} (h : FoI X.prog X.w X.K X.mg X.base k x ps F) (hm : X.mg x = some (.ref (He.ga X.K x))) (hr : Room (k + 1) X.A) (ha : VA X W (e :: es) fa)
    (hg : Gl X x := by rfl) (hdb : (x == ("__debug__" : Str)) = false := by decide) (he : starEach (e :: es) X.env = (false, eval e X.env) :: starEach es X.env := by rfl) (hpl : (backTo pos (starEach es X.env)).any (·.1) = false := by rfl) :
    VE X W (.Call (.Name x p) (e :: es) [] pos) (fMake x F fa) := by
  obtain ⟨fd, F0, hb⟩ := h.ok
  refine pe_mono (pe_make h.mkr F0 hr hg hm hb .nil pass0 ha hdb he hpl) fun σ H Q ⟨B, ρ, G, t, s⟩ => ?_
  refine ⟨B, ρ, G, t, (sat_bind s).imp (fun ds ρ1 s1 vs G1 H1 g1 t1 r1 => ?_) fun e ρ' k => k⟩
  obtain ⟨d, e1, k1⟩ := sat_o s1
  obtain ⟨gs, e2, e3⟩ := Option.map_eq_some_iff.mp e1
  subst e3
  intro y dx hy hdx nex
  have gn : G1 y = none := by
    cases q : G1 y with
    | none => rfl
    | some o => rw [t1.cg.gh _ _ q] at hy; cases hy
  refine ⟨G1, y, dx, vs, ds, by rw [List.append_nil], ⟨t1.cg.gh.trans (same_make hy hdx), t1.tg.ext (same_make hy hdx)⟩, gn, upd_same, r1, gs, e2, fun G' H' dx' fs c hp rf => ⟨rfl, ?_⟩⟩
  have gn' : G' y = none := (c.mg y rfl).1
  obtain ⟨f1, f2⟩ := Cn.freeze c.gh gn' hp
  have sH : ∀ b u, H1 b = some u → NT u → H' b = some u := fun b u q nt => by
    have nb : b ≠ y := ne_of_none q hy
    exact c.hh b u (fun z => nb z) (same_make hy hdx b u q) nt
  have cn : Cn G1 H1 (upd G' y (.ins (He.ga X.K x) dx' fs)) H' := ⟨c.gg.trans f1, f2, fun b u _ q nt => sH b u q nt, fun b u q => by
    by_cases nb : b = y
    · subst nb
      exact .inr hy
    · rw [upd_ne nb] at q
      rcases c.fr b u q with z | z
      · exact .inl z
      · rw [upd_ne nb] at z
        by_cases nd : b = dx
        · subst nd
          exact .inr hdx
        · rw [upd_ne nd] at z
          exact .inr z, fun _ z => z.elim, fun b u q => c.nn b u (same_make hy hdx b u q), fun q => (c.tb (q.ext (same_make hy hdx))).put gn' fun ps z => by rw [hp] at z; cases z⟩
  exact k1 _ _ _ (g1.trans cn.gg) (t1.step cn) (.ins upd_same (rf.mono f1))
/-- C() of a class without __init__ -/
structure FoN (K : PySem.W.Frag) (c : Str) : Prop where
  makes : PySem.W.makesIn K (He.ga K c) = true
  init : PySem.W.findIn K (.ref (He.ga K c)) "__init__" = some (some (.builtin "object.__init__"))
  top : PySem.W.mroIn K (He.ga K c) (.type "object") = some true
  kp : PySem.W.keepIn K (.ref (He.ga K c)) = true
theorem ve_make0 {x : Str} {p pos : Pos} (h : FoN X.K x) (hm : X.mg x = some (.ref (He.ga X.K x))) (hg : Gl X x := by rfl) (hdb : (x == ("__debug__" : Str)) = false := by decide) : VE X W (.Call (.Name x p) [] [] pos) (mP (.ins x [])) := by
  refine ⟨fun pins s σ H Q I ⟨B, ρ, G, t, q⟩ => ?_⟩
  refine wpAny_Call_Name_kw (ld_glob I hg hm ?_ hdb)
  refine PySem.W.callWith_K0 I.kIn h.kp ?_
  have I2 := Inv.made (C := He.ga X.K x) I
  have hy : H (s.heap.objs.size + 1) = none := I.hok.fresh (Nat.le_succ _)
  have hdx : H s.heap.objs.size = none := I.hok.fresh (Nat.le_refl _)
  have e1 : (s.heap.push PySem.W.emptyDict).get? s.heap.objs.size = some PySem.W.emptyDict := Heap.get?_push_size s.heap rfl
  have ho : ((s.heap.push PySem.W.emptyDict).push (PySem.W.instObj (He.ga X.K x) s.heap.objs.size)).get? (s.heap.objs.size + 1) = some (PySem.W.instObj (He.ga X.K x) s.heap.objs.size) := by
    have := Heap.get?_push_size (s.heap.push PySem.W.emptyDict) (o := PySem.W.instObj (He.ga X.K x) s.heap.objs.size) rfl
    rwa [Heap.size_push] at this
  refine wpAny_call (make_map0 I.kIn h.makes h.init (fun self => PySem.W.Looks.of_pure (PySem.W.oi_bind self)) ?_)
  have t1 : PySem.W.Looks (model X.prog X.w) ((s.heap.push PySem.W.emptyDict).push (PySem.W.instObj (He.ga X.K x) s.heap.objs.size)) (typeOf (.ref (s.heap.objs.size + 1))) (.ref (He.ga X.K x)) := (PySem.W.Looks.ld ho).andThen .now
  have t2 : PySem.W.Looks (model X.prog X.w) ((s.heap.push PySem.W.emptyDict).push (PySem.W.instObj (He.ga X.K x) s.heap.objs.size)) (isInstance (.ref (s.heap.objs.size + 1)) (.type "object")) true := t1.andThen (PySem.W.looks_mroIn I2.kIn h.top)
  refine codeAny_call_builtin PySem.W.oi_plain PySem.W.entry_oi (@PySem.W.check_slot (model X.prog X.w) _ _ _ "object.__init__" "object" "__init__" (.ref (s.heap.objs.size + 1)) [] [] _ PySem.W.oi_kind PySem.W.oi_split t2 (NwA.oi_args_any (.ref (s.heap.objs.size + 1)) [] []) ?_)
  rw [PySem.W.oi_run]
  refine wpAny_pure (And.intro rfl ?_)
  have c : Cn G H (upd G (s.heap.objs.size + 1) (.ins (He.ga X.K x) s.heap.objs.size [])) (upd (upd H s.heap.objs.size (.own (s.heap.objs.size + 1))) (s.heap.objs.size + 1) (.ins (He.ga X.K x) s.heap.objs.size [])) := by
    have c1 := Cn.newM t.cg.gh hdx (.own (s.heap.objs.size + 1))
    exact c1.trans (Cn.new c1.gh (by rw [upd_ne (Ne.symm (Nat.ne_of_lt (Nat.lt_succ_self _)))]; exact hy) _)
  exact ⟨.ref (s.heap.objs.size + 1), _, I2, rfl, q _ _ _ c.gg (t.step c) (.ins upd_same .nil)⟩
end
end Vl
/-! the value layer: walked things, targets, statements, bodies of defs -/
namespace Vl
variable [LamT]
open PySem PySem.Spec PyProof.Rows L2

section
variable {X : Cx} {W : WX}
/-! ### what is walked -/
structure ItOk (K : PySem.W.Frag) (J : It) (G : Hp) (ds : List Da) : Prop where
  go : ∀ G2 H2 i, Same G G2 → Same G2 H2 → i < ds.length → J.go i H2
  stop : ∀ G2 H2, Same G G2 → Same G2 H2 → J.stop ds.length H2
  yld : ∀ G2 H2 i x H', i < ds.length → Same G G2 → Same G2 H2 → J.yld i H2 x H' → ∃ G' d, Cn G2 H2 G' H' ∧ ds[i]? = some d ∧ Rp K G' x d
def tVi (K : PySem.W.Frag) (W : WX) (f : EM (List Da)) : TI := fun σ H R => ∃ B ρ G, Stt K B ρ σ G H ∧ Sat (f ρ) (fun ds ρ' => ∀ J G' H', Same G G' → Stt K B ρ' σ G' H' → ItOk K J G' ds → R J H') (exW K W B σ)
abbrev VI (X : Cx) (W : WX) (tg e : Expr) (f : EM (List Da)) : Prop := PI X tg e (tVi X.K W f)
theorem pi_mono {tg e : Expr} {t t' : TI} (h : PI X tg e t) (k : ∀ σ H R, t' σ H R → t σ H R) : PI X tg e t' := ⟨fun pins s σ H R I q => h.run pins s σ H R I (k σ H R q)⟩
def itemsL : Da → Option (List Da)
  | .lst xs => some xs
  | _ => none
def itemsT : Da → Option (List Da)
  | .tup xs => some xs
  | _ => none
def itemsS : Da → Option (List Da)
  | .str l => some (l.map fun c => .str [c])
  | _ => none
theorem it_list {K : PySem.W.Frag} {G : Hp} {a : Addr} {vs : List V} {ds : List Da} (h : G a = some (.lst vs)) (r : RpA K G vs ds) : ItOk K (Itl K a) G ds where
  go := fun G2 H2 i g1 g2 hi => by
    have h1 : vs[i]? ≠ none := by
      rw [Ne, List.getElem?_eq_none_iff, r.length]
      omega
    obtain ⟨v, hv⟩ := Option.ne_none_iff_exists'.mp h1
    exact ⟨vs, v, SqL.of (g2 _ _ (g1 _ _ h)), hv⟩
  stop := fun G2 H2 g1 g2 => ⟨vs, SqL.of (g2 _ _ (g1 _ _ h)), Nat.le_of_eq r.length⟩
  yld := fun G2 H2 i x H' hi g1 g2 y => by
    obtain ⟨e, y⟩ := y
    subst e
    obtain ⟨d, e1, e2⟩ := r.get (y vs (SqL.of (g2 _ _ (g1 _ _ h))))
    exact ⟨G2, d, Cn.refl g2, e1, e2.mono g1⟩
theorem it_tup {K : PySem.W.Frag} {G : Hp} {a : Addr} {vs : List V} {ds : List Da} (h : SqT K G a vs) (r : RpA K G vs ds) : ItOk K (Itt K a) G ds where
  go := fun G2 H2 i g1 g2 hi => by
    have h1 : vs[i]? ≠ none := by
      rw [Ne, List.getElem?_eq_none_iff, r.length]
      omega
    obtain ⟨v, hv⟩ := Option.ne_none_iff_exists'.mp h1
    exact ⟨vs, v, same_t g2 (same_t g1 h), hv⟩
  stop := fun G2 H2 g1 g2 => ⟨vs, same_t g2 (same_t g1 h), Nat.le_of_eq r.length⟩
  yld := fun G2 H2 i x H' hi g1 g2 y => by
    obtain ⟨e, y⟩ := y
    subst e
    obtain ⟨d, e1, e2⟩ := r.get (y vs (same_t g2 (same_t g1 h)))
    exact ⟨G2, d, Cn.refl g2, e1, e2.mono g1⟩
def fIt (r : Da → Option (List Da)) (f : EM Da) : EM (List Da) := mB f fun d => mO (r d)
theorem vi_list {tg e : Expr} {f : EM Da} (h : VE X W e f) : VI X W tg e (fIt itemsL f) := pi_mono (pi_list h) fun σ H R ⟨B, ρ, G, t, s⟩ => ⟨B, ρ, G, t, (sat_bind s).imp (fun d ρ1 s1 v G1 H1 g1 t1 r1 => by
  obtain ⟨ds, e, k⟩ := sat_o s1
  cases r1 with
  | lst h1 r =>
    cases e
    exact ⟨_, rfl, ⟨_, SqL.of (t1.cg.gh _ _ h1)⟩, k _ G1 H1 g1 t1 (it_list h1 r)⟩
  | _ => cases e) fun e ρ' k => k⟩
theorem vi_tup {tg e : Expr} {f : EM Da} (h : VE X W e f) : VI X W tg e (fIt itemsT f) := pi_mono (pi_tup h) fun σ H R ⟨B, ρ, G, t, s⟩ => ⟨B, ρ, G, t, (sat_bind s).imp (fun d ρ1 s1 v G1 H1 g1 t1 r1 => by
  obtain ⟨ds, e, k⟩ := sat_o s1
  cases r1 with
  | tup h1 r =>
    cases e
    exact ⟨_, rfl, ⟨_, same_t t1.cg.gh h1⟩, k _ G1 H1 g1 t1 (it_tup h1 r)⟩
  | _ => cases e) fun e ρ' k => k⟩
theorem vi_str {tg e : Expr} {f : EM Da} (h : VE X W e f) : VI X W tg e (fIt itemsS f) := pi_mono (pi_str h) fun σ H R ⟨B, ρ, G, t, s⟩ => ⟨B, ρ, G, t, (sat_bind s).imp (fun d ρ1 s1 v G1 H1 g1 t1 r1 => by
  obtain ⟨ds, e, k⟩ := sat_o s1
  cases r1 with
  | @str l hc =>
    cases e
    refine ⟨_, rfl, k _ G1 H1 g1 t1 ⟨fun G2 H2 i _ _ hi => ?_, fun G2 H2 _ _ => ?_, fun G2 H2 i x H' hi g2 g3 y => ?_⟩⟩
    · show i < l.toArray.size
      simpa using hi
    · show l.toArray.size ≤ _
      simp
    · obtain ⟨e, c, hc1, hx⟩ := y
      subst e
      subst hx
      have hc2 : l[i]? = some c := by simpa using hc1
      refine ⟨G2, .str [c], Cn.refl g3, by rw [List.getElem?_map, hc2] <;> rfl, .str fun c' hc' => ?_⟩
      have : c' = c := by simpa using hc'
      subst this
      exact hc _ (List.mem_of_getElem? hc2)
  | _ => cases e) fun e ρ' k => k⟩
def rangeD (lo : Int) (n : Nat) : List Da := (List.range n).map fun (k : Nat) => .int (lo + (k : Int))
theorem it_range {K : PySem.W.Frag} {G : Hp} {lo : Int} {n : Nat} : ItOk K (Itr lo n) G (rangeD lo n) where
  go := fun G2 H2 i _ _ hi => by
    unfold rangeD at hi
    rw [List.length_map, List.length_range] at hi
    exact hi
  stop := fun G2 H2 _ _ => by
    unfold rangeD
    rw [List.length_map, List.length_range]
    exact Nat.le_refl n
  yld := fun G2 H2 i x H' hi g1 g2 y => by
    obtain ⟨e, y⟩ := y
    subst e
    subst y
    refine ⟨G2, .int (lo + (i : Int)), Cn.refl g2, ?_, .int _⟩
    unfold rangeD at hi ⊢
    rw [List.length_map, List.length_range] at hi
    rw [List.getElem?_map, List.getElem?_range hi] <;> rfl
def rng1 : List Da → Option (List Da)
  | [.int n] => if -4611686018427387904 ≤ n ∧ n < 4611686018427387904 then some (rangeD 0 n.toNat) else none
  | _ => none
def rng2 : List Da → Option (List Da)
  | [.int lo, .int n] => if -4611686018427387904 ≤ lo ∧ lo < 4611686018427387904 ∧ -4611686018427387904 ≤ n ∧ n < 4611686018427387904 then some (rangeD lo (n - lo).toNat) else none
  | _ => none
def fItA (r : List Da → Option (List Da)) (f : EM (List Da)) : EM (List Da) := mB f fun ds => mO (r ds)
theorem vi_range1 {tg a : Expr} {p pos : Pos} {fa : EM (List Da)} (hm : X.mg "range" = none) (ha : VA X W [a] fa) (hg : Gl X "range" := by rfl) (hs : starEach [a] X.env = [(false, eval a X.env)] := by rfl) : VI X W tg (.Call (.Name "range" p) [a] [] pos) (fItA rng1 fa) :=
  pi_mono (pi_range1 hg hm ha hs) fun σ H R ⟨B, ρ, G, t, s⟩ => ⟨B, ρ, G, t, (sat_bind s).imp (fun ds ρ1 s1 vs G1 H1 g1 t1 r1 => by
    obtain ⟨es, e, k⟩ := sat_o s1
    unfold rng1 at e
    split at e
    · rename_i n
      split at e
      · rename_i hc
        cases e
        cases r1 with
        | cons h r =>
          cases r
          cases h
          exact ⟨n, rfl, by omega, by omega, k _ G1 H1 g1 t1 it_range⟩
      · cases e
    · cases e) fun e ρ' k => k⟩
theorem vi_range2 {tg a b : Expr} {p pos : Pos} {fa : EM (List Da)} (hm : X.mg "range" = none) (ha : VA X W [a, b] fa) (hg : Gl X "range" := by rfl) (hs : starEach [a, b] X.env = [(false, eval a X.env), (false, eval b X.env)] := by rfl) (hs2 : starEach [b] X.env = [(false, eval b X.env)] := by rfl) :
    VI X W tg (.Call (.Name "range" p) [a, b] [] pos) (fItA rng2 fa) :=
  pi_mono (pi_range2 hg hm ha hs hs2) fun σ H R ⟨B, ρ, G, t, s⟩ => ⟨B, ρ, G, t, (sat_bind s).imp (fun ds ρ1 s1 vs G1 H1 g1 t1 r1 => by
    obtain ⟨es, e, k⟩ := sat_o s1
    unfold rng2 at e
    split at e
    · rename_i lo n
      split at e
      · rename_i hc
        cases e
        cases r1 with
        | cons h r =>
          cases r with
          | cons h2 r =>
            cases r
            cases h
            cases h2
            exact ⟨lo, n, rfl, by omega, k _ G1 H1 g1 t1 it_range⟩
      · cases e
    · cases e) fun e ρ' k => k⟩
/-- enumerate, zip -/
def enumD (i : Nat) : List Da → List Da
  | [] => []
  | d :: ds => .tup [.int i, d] :: enumD (i + 1) ds
theorem enumD_length : ∀ (ds : List Da) (i : Nat), (enumD i ds).length = ds.length
  | [], _ => rfl
  | d :: ds, i => by simp [enumD, enumD_length ds]
theorem enumD_get : ∀ (ds : List Da) (i j : Nat) (d : Da), ds[j]? = some d → (enumD i ds)[j]? = some (.tup [.int ((i + j : Nat) : Int), d])
  | [], _, _, _, h => by simp at h
  | d :: ds, i, 0, d', h => by
    have e : d = d' := by simpa using h
    subst e
    simp [enumD]
  | d :: ds, i, j + 1, d', h => by
    have h' : ds[j]? = some d' := by simpa using h
    have q := enumD_get ds (i + 1) j d' h'
    have e2 : i + 1 + j = i + (j + 1) := by omega
    rw [e2] at q
    show (enumD (i + 1) ds)[j]? = _
    exact q
def enumOf : List Da → Option (List Da)
  | [.lst xs] => some (enumD 0 xs)
  | _ => none
theorem vi_enum {e : Expr} {p pos tpos : Pos} {elts : List Expr} {kk : Nat} {fa : EM (List Da)} (hm : X.mg "enumerate" = none) (ha : VA X W [e] fa) (hg : Gl X "enumerate" := by rfl) (hs : starEach [e] X.env = [(false, eval e X.env)] := by rfl) :
    VI X W (.Tuple elts kk tpos) (.Call (.Name "enumerate" p) [e] [] pos) (fItA enumOf fa) :=
  pi_mono (pi_enum hg hm ha hs) fun σ H R ⟨B, ρ, G, t, s⟩ => ⟨B, ρ, G, t, (sat_bind s).imp (fun ds ρ1 s1 vs G1 H1 g1 t1 r1 => by
    obtain ⟨es, e, k⟩ := sat_o s1
    unfold enumOf at e
    split at e
    · rename_i xs
      cases e
      cases r1 with
      | cons h r =>
        cases r
        cases h with
        | @lst a us _ h1 r2 =>
          refine ⟨a, us, rfl, SqL.of (t1.cg.gh _ _ h1), k _ G1 H1 g1 t1 ⟨fun G2 H2 i g2 g3 hi => ?_, fun G2 H2 g2 g3 => ?_, fun G2 H2 i x H' hi g2 g3 y => ?_⟩⟩
          · have h2 := (it_list h1 r2).go G2 H2 i g2 g3 (by rw [enumD_length] at hi; exact hi)
            exact h2
          · have h2 := (it_list h1 r2).stop G2 H2 g2 g3
            rw [enumD_length]
            exact h2
          · obtain ⟨T, z, rfl, hT, rfl, hz⟩ := y
            obtain ⟨d, e1, e2⟩ := r2.get (hz us (SqL.of (g3 _ _ (g2 _ _ h1))))
            have c := Cn.new g3 hT (.tup [.int (i : Nat), z])
            refine ⟨_, .tup [.int (i : Nat), d], c, ?_, .tup (SqT.of upd_same) (.cons (.int _) (.cons (e2.mono (g2.trans c.gg)) .nil))⟩
            have q := enumD_get xs 0 i d e1
            rw [Nat.zero_add] at q
            exact q
    · cases e) fun e ρ' k => k⟩
def zipD : List Da → List Da → List Da
  | a :: as, b :: bs => .tup [a, b] :: zipD as bs
  | _, _ => []
theorem zipD_length : ∀ (as bs : List Da), (zipD as bs).length = min as.length bs.length
  | [], _ => by simp [zipD]
  | _ :: _, [] => by simp [zipD]
  | a :: as, b :: bs => by
    simp only [zipD, List.length_cons, zipD_length as bs]
    omega
theorem zipD_get : ∀ (as bs : List Da) (i : Nat) (a b : Da), as[i]? = some a → bs[i]? = some b → (zipD as bs)[i]? = some (.tup [a, b])
  | [], _, _, _, _, h, _ => by simp at h
  | _ :: _, [], _, _, _, _, h => by simp at h
  | a :: as, b :: bs, 0, a', b', h, h' => by
    have e : a = a' := by simpa using h
    have e' : b = b' := by simpa using h'
    subst e e'
    simp [zipD]
  | a :: as, b :: bs, i + 1, a', b', h, h' => by
    show (zipD as bs)[i]? = _
    exact zipD_get as bs i a' b' (by simpa using h) (by simpa using h')
def zipOf : List Da → Option (List Da)
  | [.lst xs, .lst ys] => some (zipD xs ys)
  | _ => none
theorem vi_zip {e e2 : Expr} {p pos tpos : Pos} {elts : List Expr} {kk : Nat} {fa : EM (List Da)} (hm : X.mg "zip" = none) (ha : VA X W [e, e2] fa) (hg : Gl X "zip" := by rfl)
    (hs : starEach [e, e2] X.env = (false, eval e X.env) :: starEach [e2] X.env := by rfl) (hs2 : (backTo pos (starEach [e2] X.env)).any (·.1) = false := by rfl) :
    VI X W (.Tuple elts kk tpos) (.Call (.Name "zip" p) [e, e2] [] pos) (fItA zipOf fa) :=
  pi_mono (pi_zip hg hm ha hs hs2) fun σ H R ⟨B, ρ, G, t, s⟩ => ⟨B, ρ, G, t, (sat_bind s).imp (fun ds ρ1 s1 vs G1 H1 g1 t1 r1 => by
    obtain ⟨es, e, k⟩ := sat_o s1
    unfold zipOf at e
    split at e
    · rename_i xs ys
      cases e
      cases r1 with
      | cons h r =>
        cases r with
        | cons h' r =>
        cases r
        cases h with
        | @lst a us _ h1 r2 =>
        cases h' with
        | @lst b ws _ h2 r3 =>
          have l2 := r2.length
          have l3 := r3.length
          refine ⟨a, b, us, ws, rfl, SqL.of (t1.cg.gh _ _ h1), SqL.of (t1.cg.gh _ _ h2), k _ G1 H1 g1 t1 ⟨fun G2 H2 i g2 g3 hi => ?_, fun G2 H2 g2 g3 => ?_, fun G2 H2 i x H' hi g2 g3 y => ?_⟩⟩
          · rw [zipD_length] at hi
            have q1 : us[i]? = some us[i] := List.getElem?_eq_getElem (by omega)
            have q2 : ws[i]? = some ws[i] := List.getElem?_eq_getElem (by omega)
            exact ⟨us, ws, _, _, SqL.of (g3 _ _ (g2 _ _ h1)), SqL.of (g3 _ _ (g2 _ _ h2)), q1, q2⟩
          · rw [zipD_length]
            exact ⟨us, ws, SqL.of (g3 _ _ (g2 _ _ h1)), SqL.of (g3 _ _ (g2 _ _ h2)), by omega⟩
          · obtain ⟨T, z, z', rfl, hT, rfl, hz, hz'⟩ := y
            obtain ⟨d, e1, e2⟩ := r2.get (hz us (SqL.of (g3 _ _ (g2 _ _ h1))))
            obtain ⟨d', e1', e2'⟩ := r3.get (hz' ws (SqL.of (g3 _ _ (g2 _ _ h2))))
            have c := Cn.new g3 hT (.tup [z, z'])
            exact ⟨_, .tup [d, d'], c, zipD_get xs ys i d d' e1 e1', .tup (SqT.of upd_same) (.cons (e2.mono (g2.trans c.gg)) (.cons (e2'.mono (g2.trans c.gg)) .nil))⟩
    · cases e) fun e ρ' k => k⟩

/-! ### targets -/
/-- st: the store; js: the slots that may change -/
def tVg (K : PySem.W.Frag) (js : List Nat) (st : Da → Env → Option Env) : TG := fun v σ H Q => ∃ B ρ G d ρ', Stt K B ρ σ G H ∧ Rp K G v d ∧ st d ρ = some ρ' ∧ ∀ σ', Stt K B ρ' σ' G H → σ'.length = σ.length → (∀ k, k ∉ js → σ'[k]? = σ[k]?) → Q σ' H
abbrev VG (X : Cx) (tg : Expr) (js : List Nat) (st : Da → Env → Option Env) : Prop := PG X tg (tVg X.K js st)
theorem pg_mono {tg : Expr} {t t' : TG} (h : PG X tg t) (k : ∀ v σ H Q, t' v σ H Q → t v σ H Q) : PG X tg t' := ⟨fun pins s σ H v u Q I r q => h.run pins s σ H v u Q I r (k v σ H Q q)⟩
def stN (i : Nat) : Da → Env → Option Env := fun d ρ => some (ρ.set i (some (.imm d)))
theorem vg_name (i : Nat) {x : Str} {pos : Pos} (hN : X.N.Nodup) (hi : X.N[i]? = some x := by rfl) (hx : Loc X.env.scope x := by first | exact Or.inl rfl | exact Or.inr rfl) (hf : X.fn x = true ∨ X.env.scope.names.lookup x = some .local := by first | exact .inl rfl | exact .inr rfl) : VG X (.Name x pos) [i] (stN i) :=
  pg_mono (pg_name hN hi hx hf) fun v σ H Q ⟨B, ρ, G, d, ρ', t, r, e, k⟩ => by
    cases e
    refine k _ (t.setI r) (by rw [List.length_set]) fun j hj => ?_
    rw [List.getElem?_set_ne (by simpa using fun z => hj (by simp [z]))]
def tVgs (K : PySem.W.Frag) (js : List Nat) (st : List Da → Env → Option Env) : TGs := fun vs σ H Q => ∃ B ρ G ds ρ', Stt K B ρ σ G H ∧ RpA K G vs ds ∧ st ds ρ = some ρ' ∧ ∀ σ', Stt K B ρ' σ' G H → σ'.length = σ.length → (∀ k, k ∉ js → σ'[k]? = σ[k]?) → Q σ' H
abbrev VGs (X : Cx) (ts : List Expr) (js : List Nat) (st : List Da → Env → Option Env) : Prop := PGs X ts (tVgs X.K js st)
theorem pgs_mono {ts : List Expr} {t t' : TGs} (h : PGs X ts t) (k : ∀ v σ H Q, t' v σ H Q → t v σ H Q) : PGs X ts t' := ⟨fun pins s σ H v u Q I r q => h.run pins s σ H v u Q I r (k v σ H Q q)⟩
def stNil : List Da → Env → Option Env
  | [], ρ => some ρ
  | _, _ => none
def stCons (s : Da → Env → Option Env) (r : List Da → Env → Option Env) : List Da → Env → Option Env
  | d :: ds, ρ => (s d ρ).bind fun ρ' => r ds ρ'
  | [], _ => none
theorem vgs_nil : VGs X [] [] stNil := pgs_mono pgs_nil fun vs σ H Q ⟨B, ρ, G, ds, ρ', t, r, e, k⟩ => by
  cases ds with
  | nil =>
    cases r
    cases e
    exact ⟨rfl, k _ t rfl fun _ _ => rfl⟩
  | cons d ds => cases e
theorem vgs_cons {e : Expr} {es : List Expr} {i j : List Nat} {s : Da → Env → Option Env} {r : List Da → Env → Option Env} (h1 : VG X e i s) (h2 : VGs X es j r) (hx : (assignEach (e :: es) X.env).map (·.2) = assign e X.env :: (assignEach es X.env).map (·.2) := by rfl) : VGs X (e :: es) (i ++ j) (stCons s r) :=
  pgs_mono (pgs_cons h1 h2 hx) fun vs σ H Q ⟨B, ρ, G, ds, ρ', t, ra, e, k⟩ => by
    cases ra with
    | nil => cases e
    | @cons v vs d ds r1 r2 =>
      obtain ⟨ρ1, e1, e2⟩ := Option.bind_eq_some_iff.mp e
      exact ⟨v, vs, rfl, B, ρ, G, d, ρ1, t, r1, e1, fun σ1 t1 l1 f1 => ⟨B, ρ1, G, ds, ρ', t1, r2, e2, fun σ2 t2 l2 f2 => k σ2 t2 (l2.trans l1) fun q hq => by
        rw [f2 q fun z => hq (List.mem_append_right _ z), f1 q fun z => hq (List.mem_append_left _ z)]⟩⟩
def stTup (n : Nat) (r : List Da → Env → Option Env) : Da → Env → Option Env
  | .tup ds, ρ => if ds.length = n then r ds ρ else none
  | _, _ => none
theorem vg_tup {es : List Expr} {k : Nat} {pos : Pos} {j : List Nat} {r : List Da → Env → Option Env} {n : Nat} (hc : X.calm = true) (h : VGs X es j r) (hn : (assignEach es X.env).length = n := by rfl) (hst : (assignEach es X.env).findIdx? (·.1) = none := by rfl) : VG X (.Tuple es k pos) j (stTup n r) :=
  pg_mono (pg_tup hc h hn hst) fun v σ H Q ⟨B, ρ, G, d, ρ', t, r1, e, k⟩ => by
    cases r1 with
    | @tup a vs ds h1 r2 =>
      simp only [stTup] at e
      split at e
      · rename_i hl
        exact ⟨a, vs, rfl, same_t t.cg.gh h1, by rw [r2.length]; exact hl, B, ρ, G, ds, ρ', t, r2, e, k⟩
      · cases e
    | _ => cases e
end
end Vl
/-! the value layer: statements, loops, comprehensions, bodies -/
namespace Vl
variable [LamT]
open PySem PySem.Spec PyProof.Rows L2

section
variable {X : Cx} {W : WX}
/-! ### cells to be stored -/
inductive Ext (K : PySem.W.Frag) (B : Bs) (ρ : Env) (σ : L2.St) (G H : Hp) : List V → List Ce → Prop
  | nil : Ext K B ρ σ G H [] []
  | cons {v : V} {c : Ce} {vs : List V} {cs : List Ce} : CeOk K B.M B.H0 G H v c → (isOwn c = true → ∀ l, v = .ref l → B.F l = none ∧ (∀ (i : Nat) (d : Ce), ρ[i]? = some (some d) → isOwn d = true → σ[i]? ≠ some (some v)) ∧ ∀ (j : Nat) (d : Ce), cs[j]? = some d → isOwn d = true → vs[j]? ≠ some v) →
      Ext K B ρ σ G H vs cs → Ext K B ρ σ G H (v :: vs) (c :: cs)
section
variable {K : PySem.W.Frag} {B : Bs} {ρ : Env} {σ : L2.St} {G H : Hp}
theorem Ext.length {vs : List V} {cs : List Ce} (x : Ext K B ρ σ G H vs cs) : vs.length = cs.length := by
  induction x with
  | nil => rfl
  | cons _ _ _ ih => exact congrArg Nat.succ ih
theorem own_ref {M : Addr → Option Nat} {H0 : Hp} {v : V} {c : Ce} (h : CeOk K M H0 G H v c) (o : isOwn c = true) : ∃ l, v = .ref l := let ⟨l, _, e, _⟩ := h.own o; ⟨l, e⟩
theorem Ext.put {i : Nat} {v : V} {c : Ce} : ∀ {vs : List V} {cs : List Ce}, Ext K B ρ σ G H vs cs → (isOwn c = true → ∀ (j : Nat) (d : Ce), cs[j]? = some d → isOwn d = true → vs[j]? ≠ some v) → Ext K B (ρ.set i (some c)) (σ.set i (some v)) G H vs cs
  | _, _, .nil, _ => .nil
  | _, _, .cons (v := u) (c := d) (vs := us) (cs := ds) h k r, hc => by
    refine .cons h (fun od l el => ?_) (r.put fun oc j d' e o => hc oc (j + 1) d' (by simpa using e) o)
    obtain ⟨k1, k2, k3⟩ := k od l el
    refine ⟨k1, fun j d' e o => ?_, k3⟩
    rcases set_get e with ⟨rfl, e'⟩ | ⟨ne, e'⟩
    · cases e'
      intro z
      rcases set_get z with ⟨_, q⟩ | ⟨q, _⟩
      · have q' : u = v := Option.some.inj q
        exact hc o 0 d rfl od (by rw [q'] <;> rfl)
      · exact q rfl
    · rw [List.getElem?_set_ne ne]
      exact k2 j d' e' o
theorem Stt.store {i : Nat} {v : V} {c : Ce} {vs : List V} {cs : List Ce} (t : Stt K B ρ σ G H) (x : Ext K B ρ σ G H (v :: vs) (c :: cs)) : Stt K B (ρ.set i (some c)) (σ.set i (some v)) G H ∧ Ext K B (ρ.set i (some c)) (σ.set i (some v)) G H vs cs := by
  cases x with
  | cons h k r =>
    refine ⟨t.set h (fun oc j d u _ e od es q => ?_) (fun oc l el => (k oc l el).1), r.put fun oc => ?_⟩
    · obtain ⟨l, el⟩ := own_ref h oc
      rw [q] at es
      exact (k oc l el).2.1 j d e od es
    · obtain ⟨l, el⟩ := own_ref h oc
      exact (k oc l el).2.2
end
def tVc (K : PySem.W.Frag) (W : WX) (f : EM (List Ce)) : TA := fun σ H Q => ∃ B ρ G, Stt K B ρ σ G H ∧ Sat (f ρ) (fun cs ρ' => ∀ vs G' H', Same G G' → Stt K B ρ' σ G' H' → Ext K B ρ' σ G' H' vs cs → Q vs H') (exW K W B σ)
abbrev VC (X : Cx) (W : WX) (es : List Expr) (f : EM (List Ce)) : Prop := PA X es (tVc X.K W f)
theorem vc_nil : VC X W [] (mP []) := pa_mono pa_nil fun σ H Q ⟨B, ρ, G, t, s⟩ => s [] G H (Same.refl _) t .nil
def fCv (f : EM Da) (g : EM (List Ce)) : EM (List Ce) := mB f fun d => mB g fun cs => mP (.imm d :: cs)
def fCn (f : EM (List Da)) (g : EM (List Ce)) : EM (List Ce) := mB f fun ds => mB g fun cs => mP (.lst ds :: cs)
/-- a value that stays, then more -/
theorem vc_v {e : Expr} {es : List Expr} {fe : EM Da} {fs : EM (List Ce)} (h : VE X W e fe) (hs : VC X W es fs) (hx : starEach (e :: es) X.env = (false, eval e X.env) :: starEach es X.env := by rfl) : VC X W (e :: es) (fCv fe fs) :=
  pa_mono (pa_cons h hs hx) fun σ H Q ⟨B, ρ, G, t, s⟩ => ⟨B, ρ, G, t, (sat_bind s).imp (fun d ρ1 s1 x G1 H1 g1 t1 r1 => ⟨B, ρ1, G1, t1, (sat_bind s1).imp (fun cs ρ2 s2 xs G2 H2 g2 t2 r2 =>
    s2 (x :: xs) G2 H2 (g1.trans g2) t2 (.cons (r1.mono g2) (fun o => nomatch o) r2)) fun e ρ' k => k⟩) fun e ρ' k => k⟩
theorem fresh0 {K : PySem.W.Frag} {B : Bs} {ρ : Env} {σ : L2.St} {G H : Hp} (t : Stt K B ρ σ G H) {p : Addr} (h : H p = none) : B.H0 p = none := t.cg.gone h
theorem gnone {G H : Hp} (e : Same G H) {p : Addr} (h : H p = none) : G p = none := by
  cases q : G p with
  | none => rfl
  | some o => rw [e _ _ q] at h; cases h
/-- a new object is kept aside -/
theorem Stt.aside {K : PySem.W.Frag} {B : Bs} {ρ : Env} {σ : L2.St} {G H : Hp} (t : Stt K B ρ σ G H) {p : Addr} (h : H p = none) (o : HO) (nt : NT o := by intro _ z; cases z) : Stt K { B with F := upd B.F p o } ρ σ G (upd H p o) := by
  have t1 := t.step (Cn.newM t.cg.gh h o)
  refine ⟨t1.cg, t1.tg, fun b u q => ?_, fun i c l e oc es => ?_, t1.len, t1.sl, t1.sep⟩
  · by_cases hb : b = p
    · subst hb
      have q' : some o = some u := by rw [← q]; exact upd_same.symm
      cases q'
      exact ⟨⟨upd_same, nt⟩, gnone t.cg.gh h⟩
    · have q' : B.F b = some u := by rw [← q]; exact (upd_ne hb).symm
      exact t1.pf b u q'
  · have nl : l ≠ p := fun z => by
      obtain ⟨v, e1, e2⟩ := t.sl i c e
      obtain ⟨l', u, e3, w⟩ := e2.own oc
      rw [es] at e1
      cases e1
      cases e3
      have w3 := w.2.2
      rw [z, h] at w3
      cases w3
    show upd B.F p o l = none
    rw [upd_ne nl]
    exact t1.sf i c l e oc es
theorem Stt.unaside {K : PySem.W.Frag} {B : Bs} {ρ : Env} {σ : L2.St} {G H : Hp} {p : Addr} {o : HO} (hF : B.F p = none) (t : Stt K { B with F := upd B.F p o } ρ σ G H) : Stt K B ρ σ G H := by
  refine ⟨t.cg, t.tg, fun b u q => ?_, fun i c l e oc es => ?_, t.len, t.sl, t.sep⟩
  · have nb : b ≠ p := fun z => by rw [z, hF] at q; cases q
    exact t.pf b u (by show upd B.F p o b = _; rw [upd_ne nb]; exact q)
  · have q := t.sf i c l e oc es
    by_cases nl : l = p
    · rw [nl]; exact hF
    · have q' : upd B.F p o l = none := q
      rw [upd_ne nl] at q'
      exact q'
theorem Stt.asideAt {K : PySem.W.Frag} {B : Bs} {ρ : Env} {σ : L2.St} {G H : Hp} {p : Addr} {o : HO} (t : Stt K { B with F := upd B.F p o } ρ σ G H) : H p = some o ∧ G p = none := ⟨(t.pf p o upd_same).1.1, (t.pf p o upd_same).2⟩
theorem Ext.unaside {K : PySem.W.Frag} {B : Bs} {ρ : Env} {σ : L2.St} {G H : Hp} {p : Addr} {o : HO} (hF : B.F p = none) : ∀ {vs : List V} {cs : List Ce}, Ext K { B with F := upd B.F p o } ρ σ G H vs cs → Ext K B ρ σ G H vs cs ∧ ∀ (j : Nat) (d : Ce), cs[j]? = some d → isOwn d = true → vs[j]? ≠ some (.ref p)
  | _, _, .nil => ⟨.nil, fun j d e => by simp at e⟩
  | _, _, .cons (v := v) (c := c) h k r => by
    obtain ⟨r1, r2⟩ := Ext.unaside hF r
    have key : isOwn c = true → ∀ l, v = .ref l → B.F l = none ∧ l ≠ p := fun oc l el => by
      have q : upd B.F p o l = none := (k oc l el).1
      have nl : l ≠ p := fun z => by rw [z, upd_same] at q; cases q
      rw [upd_ne nl] at q
      exact ⟨q, nl⟩
    refine ⟨.cons h (fun oc l el => ⟨(key oc l el).1, (k oc l el).2⟩) r1, fun j d e od => ?_⟩
    cases j with
    | zero =>
      have e' : c = d := by simpa using e
      subst e'
      intro z
      have z' : v = .ref p := by simpa using z
      exact (key od p z').2 rfl
    | succ j => exact r2 j d (by simpa using e) od
/-- a new list of its own, then more -/
theorem vc_n {e : Expr} {es : List Expr} {fe : EM (List Da)} {fs : EM (List Ce)} (h : VN X W e fe) (hs : VC X W es fs) (hx : starEach (e :: es) X.env = (false, eval e X.env) :: starEach es X.env := by rfl) : VC X W (e :: es) (fCn fe fs) :=
  pa_mono (pa_cons h hs hx) fun σ H Q ⟨B, ρ, G, t, s⟩ => ⟨B, ρ, G, t, (sat_bind s).imp (fun ds ρ1 s1 p vs G1 H1 g1 np t1 r1 hl => by
    have hF : B.F p = none := by
      cases q : B.F p with
      | none => rfl
      | some u => rw [(t1.pf p u q).1.1] at np; cases np
    refine ⟨{ B with F := upd B.F p (.lst vs) }, ρ1, G1, t1.aside np _, (sat_bind s1).imp (fun cs ρ2 s2 xs G2 H2 g2 t2 r2 => ?_) fun e ρ' k => ?_⟩
    · obtain ⟨x1, x2⟩ := r2.unaside hF
      obtain ⟨a1, a2⟩ := t2.asideAt
      refine s2 (.ref p :: xs) G2 H2 (g1.trans g2) (t2.unaside hF) (.cons ⟨p, vs, rfl, ⟨a2, .inl (fresh0 t1 np), a1⟩, r1.mono g2⟩ (fun _ l el => ?_) x1)
      cases el
      refine ⟨hF, fun i d e od z => ?_, x2⟩
      have q := t2.sf i d p e od z
      have q' : upd B.F p (.lst vs) p = none := q
      rw [upd_same] at q'
      cases q'
    · intro G' H' cls dx t' ex
      exact k G' H' cls dx (t'.unaside hF) ex) fun e ρ' k => k⟩

/-! ### statements -/
def fSeq (f g : EM Fl) : EM Fl := fun ρ => match f ρ with
  | .ok .nx ρ' => g ρ'
  | o => o
theorem vss_nil : VSs X W [] (mP .nx) := pss_mono pss_nil fun D σ H ⟨B, ρ, G, t, s⟩ => s σ G H (Same.refl _) t
theorem vss_one {st : Stmt} {f : EM Fl} (h : VS X W st f) : VSs X W [st] f := pss_one h
theorem vss_cons {st : Stmt} {r : List Stmt} {f g : EM Fl} (h : VS X W st f) (hr : VSs X W r g) : VSs X W (st :: r) (fSeq f g) := pss_mono (pss_cons h hr) fun D σ H ⟨B, ρ, G, t, s⟩ => by
  refine ⟨B, ρ, G, t, ?_⟩
  unfold fSeq at s
  cases e : f ρ with
  | stuck => rw [e] at s; exact s
  | exn x ρ' => rw [e] at s; exact s
  | ok fl ρ' =>
    rw [e] at s
    cases fl with
    | nx => exact fun σ' G' H' g' t' => ⟨B, ρ', G', t', Sat.imp (o := g ρ') s (fun _ _ k => FlOk.mono g' k) fun _ _ k => k⟩
    | rt d => exact s
    | bk => exact s
    | ct => exact s
    | rn ds => exact s
def fStuck {α : Type} : EM α := fun _ => .stuck
theorem vs_never {st : Stmt} : VS X W st fStuck := ps_mono ps_never fun D σ H ⟨B, ρ, G, t, s⟩ => s
theorem vss_never {sts : List Stmt} : VSs X W sts fStuck := pss_mono pss_never fun D σ H ⟨B, ρ, G, t, s⟩ => s
theorem vs_pass {pos : Pos} : VS X W (.Pass pos) (mP .nx) := ps_mono ps_pass fun D σ H ⟨B, ρ, G, t, s⟩ => s σ G H (Same.refl _) t
theorem vs_break {pos : Pos} : VS X W (.Break pos) (mP .bk) := ps_mono ps_break fun D σ H ⟨B, ρ, G, t, s⟩ => s σ G H (Same.refl _) t
theorem vs_continue {pos : Pos} : VS X W (.Continue pos) (mP .ct) := ps_mono ps_continue fun D σ H ⟨B, ρ, G, t, s⟩ => s σ G H (Same.refl _) t
/-- behind an expression the exception's wish is the statement's -/
theorem exW_of {K : PySem.W.Frag} {B : Bs} {e : Exn} {ρ : Env} {σ : L2.St} (k : exS K W B e ρ) : exW K W B σ e ρ := fun G' H' cls dx t ex => k σ G' H' cls dx t ex
def fExpr {α : Type} (f : EM α) : EM Fl := mB f fun _ => mP .nx
theorem vs_expr {e : Expr} {pos : Pos} {f : EM Da} (h : VE X W e f) (hs : swapsWith e none pos.line X.env = pure false := by rfl) : VS X W (.Expr e pos) (fExpr f) := ps_mono (ps_expr h hs) fun D σ H ⟨B, ρ, G, t, s⟩ =>
  ⟨B, ρ, G, t, (sat_bind s).imp (fun d ρ1 s1 v G1 H1 g1 t1 r1 => s1 σ G1 H1 g1 t1) fun e ρ' k => exW_of k⟩
def fRet (f : EM Da) : EM Fl := mB f fun d => mP (.rt d)
theorem vs_ret {e : Expr} {pos : Pos} {f : EM Da} (h : VE X W e f) : VS X W (.Return (some e) pos) (fRet f) := ps_mono (ps_ret h) fun D σ H ⟨B, ρ, G, t, s⟩ =>
  ⟨B, ρ, G, t, (sat_bind s).imp (fun d ρ1 s1 v G1 H1 g1 t1 r1 => s1 v σ G1 H1 g1 t1 r1) fun e ρ' k => exW_of k⟩
/-- return xs, xs an own list that was made here -/
def fRetO (i : Nat) : EM Fl := fun ρ => match ρ[i]? with
  | some (some (.lst ds)) => .ok (.rn ds) ρ
  | _ => .stuck
theorem vs_retO (i : Nat) {x : Str} {p pos : Pos} (hN : X.N[i]? = some x := by rfl) (hv : Vis X.env.scope x := by first | exact Or.inl rfl | exact Or.inr (Or.inl rfl) | exact Or.inr (Or.inr rfl))
    (hd : (x == ("__debug__" : Str)) = false := by decide) (hcd : (x == ("__classdict__" : Str)) = false := by decide) : VS X W (.Return (some (.Name x p)) pos) (fRetO i) := ps_mono (ps_ret (pe_var hN hv hd hcd)) fun D σ H ⟨B, ρ, G, t, s⟩ => by
  unfold fRetO at s
  split at s
  · rename_i ds e
    obtain ⟨v, es, l, vs, rfl, w, r⟩ := t.sl i _ e
    exact ⟨_, es, s l vs σ G H (Same.refl _) t w r⟩
  · exact s.elim
theorem vs_retN {pos : Pos} : VS X W (.Return none pos) (mP (.rt .non)) := ps_mono ps_retN fun D σ H ⟨B, ρ, G, t, s⟩ => s .non σ G H (Same.refl _) t .non
theorem vs_if {c : Expr} {a b : List Stmt} {pos : Pos} {ft : EM Bool} {fa fb : EM Fl} (hc : VT X W c ft) (ha : VSs X W a fa) (hb : VSs X W b fb) : VS X W (.If c a b pos) (fIf ft fa fb) := ps_mono (ps_if hc ha hb) fun D σ H ⟨B, ρ, G, t, s⟩ =>
  ⟨B, ρ, G, t, (sat_bind s).imp (fun c ρ1 s1 G1 H1 g1 t1 => by
    cases c with
    | true => exact ⟨B, ρ1, G1, t1, Sat.imp (o := fa ρ1) s1 (fun _ _ k => FlOk.mono g1 k) fun _ _ k => k⟩
    | false => exact ⟨B, ρ1, G1, t1, Sat.imp (o := fb ρ1) s1 (fun _ _ k => FlOk.mono g1 k) fun _ _ k => k⟩) fun e ρ' k => exW_of k⟩
def fAsg (i : Nat) (f : EM Da) : EM Fl := mB f fun d => fun ρ => .ok .nx (ρ.set i (some (.imm d)))
theorem vs_set (i : Nat) {x : Str} {e : Expr} {pos pos' : Pos} {f : EM Da} (hN : X.N.Nodup) (h : VE X W e f) (hi : X.N[i]? = some x := by rfl) (hx : Loc X.env.scope x := by first | exact Or.inl rfl | exact Or.inr rfl)
    (hs : swapsWith e (some (.Name x pos')) pos.line X.env = pure false := by rfl) (hf : X.fn x = true ∨ X.env.scope.names.lookup x = some .local := by first | exact .inl rfl | exact .inr rfl) : VS X W (.Assign [.Name x pos'] e pos) (fAsg i f) :=
  ps_mono (ps_set hN hi hx h hs hf) fun D σ H ⟨B, ρ, G, t, s⟩ => ⟨B, ρ, G, t, (sat_bind s).imp (fun d ρ1 s1 v G1 H1 g1 t1 r1 => s1 _ G1 H1 g1 (t1.setI r1)) fun e ρ' k => exW_of k⟩
def fAsgN (i : Nat) (f : EM (List Da)) : EM Fl := mB f fun ds => fun ρ => .ok .nx (ρ.set i (some (.lst ds)))
theorem vs_setN (i : Nat) {x : Str} {e : Expr} {pos pos' : Pos} {f : EM (List Da)} (hN : X.N.Nodup) (h : VN X W e f) (hi : X.N[i]? = some x := by rfl) (hx : Loc X.env.scope x := by first | exact Or.inl rfl | exact Or.inr rfl)
    (hs : swapsWith e (some (.Name x pos')) pos.line X.env = pure false := by rfl) (hf : X.fn x = true ∨ X.env.scope.names.lookup x = some .local := by first | exact .inl rfl | exact .inr rfl) : VS X W (.Assign [.Name x pos'] e pos) (fAsgN i f) :=
  ps_mono (ps_set hN hi hx h hs hf) fun D σ H ⟨B, ρ, G, t, s⟩ => ⟨B, ρ, G, t, (sat_bind s).imp (fun ds ρ1 s1 p vs G1 H1 g1 np t1 r1 hl => s1 _ G1 _ g1 (t1.setNew np ⟨p, vs, rfl, ⟨gnone t1.cg.gh np, .inl (fresh0 t1 np), upd_same⟩, r1⟩)) fun e ρ' k => exW_of k⟩
def fTo (st : Da → Env → Option Env) (f : EM Da) : EM Fl := mB f fun d => fun ρ => match st d ρ with
  | some ρ' => .ok .nx ρ'
  | none => .stuck
theorem vs_asg {tg e : Expr} {pos : Pos} {js : List Nat} {st : Da → Env → Option Env} {f : EM Da} (h : VE X W e f) (hg : VG X tg js st) (hs : swapsWithSole [tg] e pos.line X.env = pure false := by rfl) (hw : swappedStores [tg] e X.env = pure none := by rfl) (h1 : (assignEach [tg] X.env).map (·.2) = [assign tg X.env] := by rfl) : VS X W (.Assign [tg] e pos) (fTo st f) :=
  ps_mono (ps_asg h hg hs hw h1) fun D σ H ⟨B, ρ, G, t, s⟩ => ⟨B, ρ, G, t, (sat_bind s).imp (fun d ρ1 s1 v G1 H1 g1 t1 r1 => by
    cases e : st d ρ1 with
    | none => simp only [e] at s1; exact s1.elim
    | some ρ2 =>
      simp only [e] at s1
      exact ⟨B, ρ1, G1, d, ρ2, t1, r1, e, fun σ' t' _ _ => s1 σ' G1 H1 g1 t'⟩) fun e ρ' k => exW_of k⟩
def fPar2 (i j : Nat) (f : EM (List Ce)) : EM Fl := mB f fun cs => fun ρ => match cs with
  | [c, d] => .ok .nx ((ρ.set i (some c)).set j (some d))
  | _ => .stuck
theorem vs_par2 (i j : Nat) {x y : Str} {a b : Expr} {f : EM (List Ce)} {px py pt pos : Pos} {kt k2 pt2} (hc : X.calm = true) (hN : X.N.Nodup) (ha : VC X W [a, b] f) (hi : X.N[i]? = some x := by rfl) (hj : X.N[j]? = some y := by rfl) (hij : i ≠ j := by decide)
    (hx : X.env.scope.names.lookup x = some .local := by rfl) (hy : X.env.scope.names.lookup y = some .local := by rfl)
    (hw : swappedStores [.Tuple [.Name x px, .Name y py] kt pt] (.Tuple [a, b] k2 pt2) X.env = pure (some [x, y]) := by rfl)
    (hs : swapsWithSole [.Tuple [.Name x px, .Name y py] kt pt] (.Tuple [a, b] k2 pt2) pos.line X.env = pure false := by rfl) : VS X W (.Assign [.Tuple [.Name x px, .Name y py] kt pt] (.Tuple [a, b] k2 pt2) pos) (fPar2 i j f) :=
  ps_mono (ps_par hc hN hi hj hij hx hy ha hw hs) fun D σ H ⟨B, ρ, G, t, s⟩ => ⟨B, ρ, G, t, (sat_bind s).imp (fun cs ρ1 s1 vs G1 H1 g1 t1 x1 => by
    match cs, vs, x1, s1 with
    | [c, d], [u, v], x1, s1 =>
      obtain ⟨t2, x2⟩ := t1.store (i := i) x1
      obtain ⟨t3, x3⟩ := t2.store (i := j) x2
      exact ⟨u, v, rfl, s1 _ G1 H1 g1 t3⟩
    | [], _, _, s1 => exact s1.elim
    | [_], _, _, s1 => exact s1.elim
    | _ :: _ :: _ :: _, _, _, s1 => exact s1.elim) fun e ρ' k => exW_of k⟩
def fPar3 (i j l : Nat) (f : EM (List Ce)) : EM Fl := mB f fun cs => fun ρ => match cs with
  | [c, d, e] => .ok .nx (((ρ.set i (some c)).set j (some d)).set l (some e))
  | _ => .stuck
theorem vs_par3 (i j l : Nat) {x y z : Str} {a b c : Expr} {f : EM (List Ce)} {px py pz pt pos : Pos} {kt k2 pt2} (hc : X.calm = true) (hN : X.N.Nodup) (ha : VC X W [a, b, c] f) (hi : X.N[i]? = some x := by rfl) (hj : X.N[j]? = some y := by rfl) (hl : X.N[l]? = some z := by rfl)
    (hij : i ≠ j := by decide) (hil : i ≠ l := by decide) (hjl : j ≠ l := by decide)
    (hx : X.env.scope.names.lookup x = some .local := by rfl) (hy : X.env.scope.names.lookup y = some .local := by rfl) (hz : X.env.scope.names.lookup z = some .local := by rfl)
    (hw : swappedStores [.Tuple [.Name x px, .Name y py, .Name z pz] kt pt] (.Tuple [a, b, c] k2 pt2) X.env = pure (some [x, y, z]) := by rfl)
    (hs : swapsWithSole [.Tuple [.Name x px, .Name y py, .Name z pz] kt pt] (.Tuple [a, b, c] k2 pt2) pos.line X.env = pure false := by rfl) : VS X W (.Assign [.Tuple [.Name x px, .Name y py, .Name z pz] kt pt] (.Tuple [a, b, c] k2 pt2) pos) (fPar3 i j l f) :=
  ps_mono (ps_par3 hc hN hi hj hl hij hil hjl hx hy hz ha hw hs) fun D σ H ⟨B, ρ, G, t, s⟩ => ⟨B, ρ, G, t, (sat_bind s).imp (fun cs ρ1 s1 vs G1 H1 g1 t1 x1 => by
    match cs, vs, x1, s1 with
    | [c, d, e], [u, v, w], x1, s1 =>
      obtain ⟨t2, x2⟩ := t1.store (i := i) x1
      obtain ⟨t3, x3⟩ := t2.store (i := j) x2
      obtain ⟨t4, x4⟩ := t3.store (i := l) x3
      exact ⟨u, v, w, rfl, s1 _ G1 H1 g1 t4⟩
    | [], _, _, s1 => exact s1.elim
    | [_], _, _, s1 => exact s1.elim
    | [_, _], _, _, s1 => exact s1.elim
    | _ :: _ :: _ :: _ :: _, _, _, s1 => exact s1.elim) fun e ρ' k => exW_of k⟩
/-- x += e -/
def PpD (X : Cx) (op : Operator) (r : Da → Da → Option Da) : Prop := PIp X op (rD X.K r)
def fAug (i : Nat) (r : Da → Da → Option Da) (f : EM Da) : EM Fl := fun ρ => match ρ[i]? with
  | some (some (.imm d0)) => mB f (fun d => fun ρ1 => match r d0 d with
    | some z => .ok .nx (ρ1.set i (some (.imm z)))
    | none => .stuck) ρ
  | _ => .stuck
theorem vs_aug (i : Nat) {x : Str} {e : Expr} {pos pos' : Pos} {op : Operator} {r : Da → Da → Option Da} {f : EM Da} (ho : PpD X op r) (hN : X.N.Nodup) (h : VE X W e f) (hi : X.N[i]? = some x := by rfl) (hx : Loc X.env.scope x := by first | exact Or.inl rfl | exact Or.inr rfl)
    (hf : X.fn x = true ∨ X.env.scope.names.lookup x = some .local := by first | exact .inl rfl | exact .inr rfl) : VS X W (.AugAssign (.Name x pos') op e pos) (fAug i r f) :=
  ps_mono (ps_aug hN hi hx h ho hf) fun D σ H ⟨B, ρ, G, t, s⟩ => by
    unfold fAug at s
    cases e1 : ρ[i]? with
    | none => simp only [e1] at s; exact s.elim
    | some o =>
      cases o with
      | none => simp only [e1] at s; exact s.elim
      | some c =>
        cases c with
        | imm d0 =>
          simp only [e1] at s
          obtain ⟨v, es, r0⟩ := t.sl i _ e1
          refine ⟨v, es, B, ρ, G, t, (sat_bind s).imp (fun d ρ1 s1 y G1 H1 g1 t1 r1 => ?_) fun e ρ' k => exW_of k⟩
          cases e2 : r d0 d with
          | none => simp only [e2] at s1; exact s1.elim
          | some z =>
            simp only [e2] at s1
            exact ⟨G1, d0, d, z, t1.cg.gh, See.of t1.cg.gh (Rp.mono g1 r0), See.of t1.cg.gh r1, e2, fun G' H' w c rw => s1 _ G' H' (g1.trans c.gg) ((t1.step c).setI rw)⟩
        | _ => simp only [e1] at s; exact s.elim
def vAugAdd : Da → Da → Option Da
  | .int i, .int j => some (.int (i + j))
  | .str a, .str b => if a.length + b.length ≤ 16777216 then some (.str (a ++ b)) else none
  | _, _ => none
theorem ppd_add : PpD X .Add vAugAdd := fun pins s σ H x y v u Q I rx ry ⟨G, dx, dy, d, g, sx, sy, e, k⟩ => by
  unfold vAugAdd at e
  split at e
  · cases see_int sx
    cases see_int sy
    cases e
    exact iop_add pins s σ H _ _ v u Q I rx ry ⟨_, _, rfl, rfl, k G H _ (cn_refl g) (.int _)⟩
  · obtain ⟨rfl, c1⟩ := see_str sx
    obtain ⟨rfl, c2⟩ := see_str sy
    split at e
    · rename_i hl
      cases e
      refine iop_add_str pins s σ H _ _ v u Q I rx ry ⟨_, _, rfl, rfl, ?_, ?_⟩
      · rw [S_length, S_length, sizeLine_eq]
        exact hl
      · rw [S_append]
        exact k G H _ (cn_refl g) (.str (c1.append c2))
    · cases e
  · cases e

/-! ### loops -/
def forL (st : Da → Env → Option Env) (body : EM Fl) : List Da → EM Fl
  | [] => mP .nx
  | d :: ds => fun ρ => match st d ρ with
    | none => .stuck
    | some ρ1 => match body ρ1 with
      | .ok .nx ρ2 => forL st body ds ρ2
      | .ok .ct ρ2 => forL st body ds ρ2
      | .ok .bk ρ2 => .ok .nx ρ2
      | .ok (.rt v) ρ2 => .ok (.rt v) ρ2
      | .ok (.rn v) ρ2 => .ok (.rn v) ρ2
      | .exn e ρ2 => .exn e ρ2
      | .stuck => .stuck
def fFor (fi : EM (List Da)) (st : Da → Env → Option Env) (body : EM Fl) : EM Fl := mB fi fun ds => forL st body ds
theorem vs_for {tg iter : Expr} {bd : List Stmt} {pos : Pos} {fi : EM (List Da)} {js : List Nat} {st : Da → Env → Option Env} {body : EM Fl} (hp : PassesOwn (model X.prog X.w) X.A X.env X.xe) (hc : X.calm = true) (hi : VI X W tg iter fi) (hg : VG X tg js st) (hb : VSs X W bd body)
    (hs : ∀ x, foldedSetIterable iter X.env x = pure x := by intro _; rfl) : VS X W (.For tg iter bd [] pos) (fFor fi st body) :=
  ps_mono (ps_for hp hc hi hg hb hs) fun D σ0 H0 ⟨B, ρ, G, t, s⟩ => ⟨B, ρ, G, t, (sat_bind s).imp (fun ds ρ1 s1 J G1 H1 g1 t1 it => by
    refine ⟨fun i m σ H => m = ds.length - i ∧ i ≤ ds.length ∧ ∃ ρ G, Same G1 G ∧ Stt X.K B ρ σ G H ∧ Sat (forL st body (ds.drop i) ρ) (FlOk X.K B D G1) (exS X.K W B), ⟨ds.length, by simp, Nat.zero_le _, ρ1, G1, Same.refl _, t1, Sat.imp (o := forL st body ds ρ1) s1 (fun _ _ k => FlOk.mono g1 k) fun _ _ k => k⟩, ?_⟩
    rintro i m σ H ⟨rfl, hi, ρ2, G2, g2, t2, s2⟩
    by_cases hlt : i < ds.length
    · refine .inr ⟨it.go G2 H i g2 t2.cg.gh hlt, fun σ' H' => ∃ ρ' G', Same G1 G' ∧ Stt X.K B ρ' σ' G' H' ∧ Sat (forL st body (ds.drop (i + 1)) ρ') (FlOk X.K B D G1) (exS X.K W B), fun σ' H' ⟨ρ', G', a1, a2, a3⟩ => ⟨_, by omega, rfl, hlt, ρ', G', a1, a2, a3⟩, fun x H' y => ?_⟩
      obtain ⟨G3, d, c, ed, rx⟩ := it.yld G2 H i x H' hlt g2 t2.cg.gh y
      have e0 : ds.drop i = d :: ds.drop (i + 1) := by
        rw [List.drop_eq_getElem_cons hlt]
        congr 1
        exact Option.some.inj ((List.getElem?_eq_getElem hlt).symm.trans ed)
      rw [e0] at s2
      unfold forL at s2
      cases e1 : st d ρ2 with
      | none => simp only [e1] at s2; exact s2.elim
      | some ρ3 =>
        simp only [e1] at s2
        refine ⟨B, ρ2, G3, d, ρ3, t2.step c, rx, e1, fun σ' t3 _ _ => ⟨B, ρ3, G3, t3, ?_⟩⟩
        have g3 : Same G1 G3 := g2.trans c.gg
        cases e2 : body ρ3 with
        | stuck => simp only [e2] at s2; exact s2.elim
        | exn x ρ4 => simp only [e2] at s2; exact s2
        | ok fl ρ4 =>
          simp only [e2] at s2
          cases fl with
          | nx => exact fun σ4 G4 H4 g4 t4 => ⟨ρ4, G4, g3.trans g4, t4, s2⟩
          | ct => exact fun σ4 G4 H4 g4 t4 => ⟨ρ4, G4, g3.trans g4, t4, s2⟩
          | bk => exact fun σ4 G4 H4 g4 t4 => s2 σ4 G4 H4 (g3.trans g4) t4
          | rt v => exact fun w σ4 G4 H4 g4 t4 r4 => s2 w σ4 G4 H4 (g3.trans g4) t4 r4
          | rn ds => exact fun p vs σ4 G4 H4 g4 t4 w4 r4 => s2 p vs σ4 G4 H4 (g3.trans g4) t4 w4 r4
    · have e : i = ds.length := by omega
      subst e
      rw [List.drop_length] at s2
      exact .inl ⟨it.stop G2 H g2 t2.cg.gh, s2 σ G2 H g2 t2⟩) fun e ρ' k => exW_of k⟩
def whileN (t : EM Bool) (body : EM Fl) : Nat → EM Fl
  | 0 => fStuck
  | n + 1 => mB t fun b => if b = true then (fun ρ => match body ρ with
      | .ok .nx ρ2 => whileN t body n ρ2
      | .ok .ct ρ2 => whileN t body n ρ2
      | .ok .bk ρ2 => .ok .nx ρ2
      | .ok (.rt v) ρ2 => .ok (.rt v) ρ2
      | .ok (.rn v) ρ2 => .ok (.rn v) ρ2
      | .exn e ρ2 => .exn e ρ2
      | .stuck => .stuck) else mP .nx
theorem vs_while (n : Nat) {c : Expr} {bd : List Stmt} {pos : Pos} {ft : EM Bool} {body : EM Fl} (hp : PassesOwn (model X.prog X.w) X.A X.env X.xe) (hc : VT X W c ft) (hb : VSs X W bd body) : VS X W (.While c bd [] pos) (whileN ft body n) :=
  ps_mono (ps_while hp hc hb) fun D σ0 H0 ⟨B, ρ, G, t, s⟩ => by
    refine ⟨fun m σ H => ∃ ρ G', Same G G' ∧ Stt X.K B ρ σ G' H ∧ Sat (whileN ft body m ρ) (FlOk X.K B D G) (exS X.K W B), ⟨n, ρ, G, Same.refl _, t, s⟩, ?_⟩
    rintro m σ H ⟨ρ1, G1, g1, t1, s1⟩
    cases m with
    | zero => exact s1.elim
    | succ m =>
      refine ⟨B, ρ1, G1, t1, (sat_bind (show Sat (mB ft (fun b => if b = true then (fun ρ => match body ρ with
        | .ok .nx ρ2 => whileN ft body m ρ2
        | .ok .ct ρ2 => whileN ft body m ρ2
        | .ok .bk ρ2 => .ok .nx ρ2
        | .ok (.rt v) ρ2 => .ok (.rt v) ρ2
        | .ok (.rn v) ρ2 => .ok (.rn v) ρ2
        | .exn e ρ2 => .exn e ρ2
        | .stuck => .stuck) else mP .nx) ρ1) _ _ from s1)).imp (fun b ρ2 s2 G2 H2 g2 t2 => ?_) fun e ρ' k => exW_of k⟩
      cases b with
      | false => exact s2 σ G2 H2 (g1.trans g2) t2
      | true =>
        simp only [if_true] at s2 ⊢
        refine ⟨fun σ' H' => ∃ ρ' G', Same G G' ∧ Stt X.K B ρ' σ' G' H' ∧ Sat (whileN ft body m ρ') (FlOk X.K B D G) (exS X.K W B), fun σ' H' q => ⟨m, Nat.lt_succ_self m, q⟩, B, ρ2, G2, t2, ?_⟩
        have g3 : Same G G2 := g1.trans g2
        cases e2 : body ρ2 with
        | stuck => simp only [e2] at s2; exact s2.elim
        | exn x ρ4 => simp only [e2] at s2; exact s2
        | ok fl ρ4 =>
          simp only [e2] at s2
          cases fl with
          | nx => exact fun σ4 G4 H4 g4 t4 => ⟨ρ4, G4, g3.trans g4, t4, s2⟩
          | ct => exact fun σ4 G4 H4 g4 t4 => ⟨ρ4, G4, g3.trans g4, t4, s2⟩
          | bk => exact fun σ4 G4 H4 g4 t4 => s2 σ4 G4 H4 (g3.trans g4) t4
          | rt v => exact fun w σ4 G4 H4 g4 t4 r4 => s2 w σ4 G4 H4 (g3.trans g4) t4 r4
          | rn ds => exact fun p vs σ4 G4 H4 g4 t4 w4 r4 => s2 p vs σ4 G4 H4 (g3.trans g4) t4 w4 r4
end
end Vl
/-! the value layer: comprehensions, methods of lists and texts, bodies -/
namespace Vl
variable [LamT]
open PySem PySem.Spec PyProof.Rows L2

section
variable {X : Cx} {W : WX}
/-! ### comprehensions -/
def wipeE (ρ : Env) : List Nat → Env
  | [] => ρ
  | v :: vs => (wipeE ρ vs).set v none
def compL (vs : List Nat) (st : Da → Env → Option Env) (t : EM Bool) (e : EM Da) : List Da → List Da → EM (List Da)
  | [], acc => fun ρ => .ok acc (wipeE ρ vs)
  | d :: ds, acc => fun ρ => match st d (wipeE ρ vs) with
    | none => .stuck
    | some ρ1 => match t ρ1 with
      | .ok false ρ2 => compL vs st t e ds acc ρ2
      | .ok true ρ2 => match e ρ2 with
        | .ok y ρ3 => if acc.length < 16777216 then compL vs st t e ds (acc ++ [y]) ρ3 else .stuck
        | _ => .stuck
      | _ => .stuck
def fComp (vs : List Nat) (fi : EM (List Da)) (st : Da → Env → Option Env) (t : EM Bool) (e : EM Da) : EM (List Da) := mB fi fun ds => compL vs st t e ds []
theorem get_set_none {α : Type} {l : List (Option α)} {i j : Nat} {c : α} (h : (l.set i none)[j]? = some (some c)) : i ≠ j ∧ l[j]? = some (some c) := by
  rcases set_get h with ⟨_, e⟩ | q
  · cases e
  · exact q
theorem Stt.wipe1 {K : PySem.W.Frag} {B : Bs} {ρ : Env} {σ σ' : L2.St} {G H : Hp} (t : Stt K B ρ σ G H) (i : Nat) (hl : σ'.length = σ.length) (h : ∀ k, k ≠ i → σ'[k]? = σ[k]?) : Stt K B (ρ.set i none) σ' G H where
  cg := t.cg
  tg := t.tg
  pf := t.pf
  sf := fun j c l e oc es => by
    obtain ⟨ne, e'⟩ := get_set_none e
    rw [h j (Ne.symm ne)] at es
    exact t.sf j c l e' oc es
  len := by rw [List.length_set, hl]; exact t.len
  sl := fun j c e => by
    obtain ⟨ne, e'⟩ := get_set_none e
    rw [h j (Ne.symm ne)]
    exact t.sl j c e'
  sep := fun a b c d v hab ea eb oa ob sa sb => by
    obtain ⟨n1, e1⟩ := get_set_none ea
    obtain ⟨n2, e2⟩ := get_set_none eb
    rw [h a (Ne.symm n1)] at sa
    rw [h b (Ne.symm n2)] at sb
    exact t.sep a b c d v hab e1 e2 oa ob sa sb
theorem Stt.wipes {K : PySem.W.Frag} {B : Bs} {ρ : Env} {G H : Hp} : ∀ (vs : List Nat) {σ σ' : L2.St}, Stt K B ρ σ G H → σ'.length = σ.length → (∀ k, k ∉ vs → σ'[k]? = σ[k]?) → Stt K B (wipeE ρ vs) σ' G H
  | [], σ, σ', t, hl, h => by
    have e : σ' = σ := List.ext_getElem? fun k => h k (by simp)
    subst e
    exact t
  | v :: vs, σ, σ', t, hl, h => by
    have t1 : Stt K B (wipeE ρ vs) (σ'.set v ((σ[v]?).getD none)) G H := Stt.wipes vs t (by rw [List.length_set, hl]) fun k hk => by
      by_cases e : v = k
      · subst e
        by_cases hlt : v < σ'.length
        · rw [List.getElem?_set_self hlt]
          rw [hl] at hlt
          rw [List.getElem?_eq_getElem hlt] <;> rfl
        · rw [List.getElem?_eq_none_iff.mpr (by rw [List.length_set]; omega), List.getElem?_eq_none_iff.mpr (by omega)]
      · rw [List.getElem?_set_ne e]
        exact h k (by simp [hk, Ne.symm e])
    exact t1.wipe1 v (by rw [List.length_set]) fun k hk => by rw [List.getElem?_set_ne (Ne.symm hk)]
theorem wipe_get {σ : L2.St} : ∀ (vs : List Nat) (k : Nat), k ∉ vs → (L2.wipe σ vs)[k]? = σ[k]?
  | [], k, _ => rfl
  | v :: vs, k, h => by
    unfold L2.wipe
    rw [List.getElem?_set_ne (fun e => h (by simp [e]))]
    exact wipe_get vs k fun e => h (List.mem_cons_of_mem _ e)
theorem wipe_in {σ : L2.St} : ∀ (vs : List Nat) (k : Nat), k ∈ vs → k < σ.length → (L2.wipe σ vs)[k]? = some none
  | v :: vs, k, h, hl => by
    unfold L2.wipe
    by_cases e : v = k
    · subst e
      rw [List.getElem?_set_self (by rw [L2.wipe_length]; exact hl)]
    · rw [List.getElem?_set_ne e]
      exact wipe_in vs k (by rcases List.mem_cons.mp h with z | z; exact absurd z.symm e; exact z) hl
theorem wipe_same {σ σ' : L2.St} (vs : List Nat) (hl : σ'.length = σ.length) (h : ∀ k, k ∉ vs → σ'[k]? = (L2.wipe σ vs)[k]?) : L2.wipe σ' vs = L2.wipe σ vs := by
  refine List.ext_getElem? fun k => ?_
  by_cases hk : k ∈ vs
  · by_cases hlt : k < σ.length
    · rw [wipe_in vs k hk hlt, wipe_in vs k hk (by omega)]
    · rw [List.getElem?_eq_none_iff.mpr (by rw [L2.wipe_length]; omega), List.getElem?_eq_none_iff.mpr (by rw [L2.wipe_length]; omega)]
  · rw [wipe_get vs k hk, h k hk]
theorem Stt.ne0 {K : PySem.W.Frag} {B : Bs} {ρ : Env} {σ : L2.St} {G H : Hp} (t : Stt K B ρ σ G H) {D : Addr} (h0 : B.H0 D = none) : ∀ b, B.M b ≠ none → b ≠ D := fun b m z => by
  obtain ⟨o, ho⟩ := (t.cg.mg b m).2
  rw [z, h0] at ho
  cases ho
theorem CeOk.off {K : PySem.W.Frag} {M : Addr → Option Nat} {H0 G H H' : Hp} {v : V} {c : Ce} {D : Addr} (h : CeOk K M H0 G H v c) (nd : isOwn c = true → v ≠ .ref D) (k : ∀ b, b ≠ D → H' b = H b) : CeOk K M H0 G H' v c := by
  cases c with
  | imm d => exact h
  | lst ds =>
    obtain ⟨l, vs, e, w, r⟩ := h
    have nl : l ≠ D := fun q => nd rfl (by rw [e, q])
    exact ⟨l, vs, e, ⟨w.1, w.2.1, by rw [k l nl]; exact w.2.2⟩, r⟩
  | dic ds =>
    obtain ⟨l, vs, e, w, r⟩ := h
    have nl : l ≠ D := fun q => nd rfl (by rw [e, q])
    exact ⟨l, vs, e, ⟨w.1, w.2.1, by rw [k l nl]; exact w.2.2⟩, r⟩
  | obj a c ds =>
    obtain ⟨l, dx, vs, e, w, r, ea⟩ := h
    have nl : l ≠ D := fun q => nd rfl (by rw [e, q])
    exact ⟨l, dx, vs, e, ⟨w.1, w.2.1, by rw [k l nl]; exact w.2.2⟩, r, ea⟩
  | bls n ds =>
    obtain ⟨p, vs, e, w, r, en⟩ := h
    have nl : p ≠ D := fun q => nd rfl (by rw [e, q])
    exact ⟨p, vs, e, ⟨w.1, w.2.1, by rw [k p nl]; exact w.2.2⟩, r, en⟩
theorem Stt.aside_ne {K : PySem.W.Frag} {B : Bs} {ρ : Env} {σ : L2.St} {G H : Hp} {D : Addr} {o : HO} (t : Stt K { B with F := upd B.F D o } ρ σ G H) {i : Nat} {c : Ce} {v : V} (e : ρ[i]? = some (some c)) (es : σ[i]? = some (some v)) : isOwn c = true → v ≠ .ref D := fun oc q => by
  subst q
  have q := t.sf i c D e oc es
  have q' : upd B.F D o D = none := q
  rw [upd_same] at q'
  cases q'
/-- what stands aside is changed -/
theorem Stt.reside {K : PySem.W.Frag} {B : Bs} {ρ : Env} {σ : L2.St} {G H : Hp} {D : Addr} {o o' : HO} (t : Stt K { B with F := upd B.F D o } ρ σ G H) (h0 : B.H0 D = none) (wo : WO o := by trivial) (wo' : WO o' := by trivial) : Stt K { B with F := upd B.F D o' } ρ σ G (upd H D o') where
  cg := {
    gg := t.cg.gg
    gh := fun b u q => by
      have nb : b ≠ D := fun z => by
        subst z
        rw [t.asideAt.2] at q
        cases q
      rw [upd_ne nb]
      exact t.cg.gh b u q
    hh := fun b u nm q nt => by
      have nb : b ≠ D := fun z => by
        subst z
        have q' : B.H0 b = some u := q
        rw [h0] at q'
        cases q'
      rw [upd_ne nb]
      exact t.cg.hh b u nm q nt
    fr := t.cg.fr
    mg := t.cg.mg
    nn := fun b u q => by
      by_cases nb : b = D
      · subst nb
        exact ⟨o', upd_same⟩
      · rw [upd_ne nb]
        exact t.cg.nn b u q
    tb := fun q => (t.cg.tb q).write t.asideAt.1 wo }
  tg := t.tg.write t.asideAt.1 wo
  pf := fun b u q => by
    by_cases nb : b = D
    · subst nb
      have q' : some o' = some u := by rw [← q]; exact upd_same.symm
      cases q'
      exact ⟨⟨upd_same, wo'.nt⟩, t.asideAt.2⟩
    · have q' : B.F b = some u := by rw [← q]; exact (upd_ne nb).symm
      rw [upd_ne nb]
      exact t.pf b u (by show upd B.F D o b = _; rw [upd_ne nb]; exact q')
  sf := fun i c l e oc es => by
    have q := t.sf i c l e oc es
    have nl : l ≠ D := fun z => t.aside_ne e es oc (by rw [z])
    have q' : upd B.F D o l = none := q
    rw [upd_ne nl] at q'
    show upd B.F D o' l = none
    rw [upd_ne nl]
    exact q'
  len := t.len
  sl := fun i c e => by
    obtain ⟨v, es, r⟩ := t.sl i c e
    exact ⟨v, es, r.off (t.aside_ne e es) fun b nb => upd_ne nb⟩
  sep := t.sep
def del (H : Hp) (D : Addr) : Hp := fun b => if b = D then none else H b
theorem del_same {H : Hp} {D : Addr} : del H D D = none := if_pos rfl
theorem del_ne {H : Hp} {D b : Addr} (h : b ≠ D) : del H D b = H b := if_neg h
theorem upd_del {H : Hp} {D : Addr} {o : HO} (h : H D = some o) : upd (del H D) D o = H := by
  funext b
  by_cases e : b = D
  · subst e
    rw [upd_same, h]
  · rw [upd_ne e, del_ne e]
theorem TbT.del {G H : Hp} (t : TbT G H) {l : Addr} {o : HO} (hl : H l = some o) (wo : WO o) : TbT G (Vl.del H l) := fun p hp => by
  obtain ⟨h0, ps, h1, h2, h3⟩ := t p hp
  have n1 : p.1 ≠ l := fun z => by
    rw [z, hl] at h1
    exact wo.nt ps (Option.some.inj h1)
  exact ⟨h0, ps, by rw [del_ne n1]; exact h1, h2, h3⟩
/-- what stands aside is taken away -/
theorem Stt.del {K : PySem.W.Frag} {B : Bs} {ρ : Env} {σ : L2.St} {G H : Hp} {D : Addr} {o : HO} (t : Stt K { B with F := upd B.F D o } ρ σ G H) (h0 : B.H0 D = none) (hF : B.F D = none) (wo : WO o := by trivial) : Stt K B ρ σ G (del H D) where
  cg := {
    gg := t.cg.gg
    gh := fun b u q => by
      have nb : b ≠ D := fun z => by
        subst z
        rw [t.asideAt.2] at q
        cases q
      rw [del_ne nb]
      exact t.cg.gh b u q
    hh := fun b u nm q nt => by
      have nb : b ≠ D := fun z => by
        subst z
        rw [h0] at q
        cases q
      rw [del_ne nb]
      exact t.cg.hh b u nm q nt
    fr := t.cg.fr
    mg := t.cg.mg
    nn := fun b u q => by
      have nb : b ≠ D := fun z => by
        subst z
        rw [h0] at q
        cases q
      rw [del_ne nb]
      exact t.cg.nn b u q
    tb := fun q => (t.cg.tb q).del t.asideAt.1 wo }
  tg := t.tg.del t.asideAt.1 wo
  pf := fun b u q => by
    have nb : b ≠ D := fun z => by rw [z, hF] at q; cases q
    rw [del_ne nb]
    exact t.pf b u (by show upd B.F D o b = _; rw [upd_ne nb]; exact q)
  sf := fun i c l e oc es => by
    have q := t.sf i c l e oc es
    have nl : l ≠ D := fun z => t.aside_ne e es oc (by rw [z])
    have q' : upd B.F D o l = none := q
    rw [upd_ne nl] at q'
    exact q'
  len := t.len
  sl := fun i c e => by
    obtain ⟨v, es, r⟩ := t.sl i c e
    exact ⟨v, es, r.off (t.aside_ne e es) fun b nb => del_ne nb⟩
  sep := t.sep
def tVts (K : PySem.W.Frag) (W : WX) (f : EM Bool) : TT := tVt K W f
abbrev VTs (X : Cx) (W : WX) (ifs : List Expr) (f : EM Bool) : Prop := PTs X ifs (tVt X.K W f)
theorem vts_nil : VTs X W [] (mP true) := ⟨fun pins s σ H Q I ⟨B, ρ, G, t, q⟩ => pts_nil.run pins s σ H Q I (q G H (Same.refl _) t)⟩
theorem vts_one {c : Expr} {f : EM Bool} (h : VT X W c f) : VTs X W [c] f := pts_one h
theorem tVn_comp {K : PySem.W.Frag} {vs js : List Nat} {fi : EM (List Da)} {st : Da → Env → Option Env} {ft : EM Bool} {fe : EM Da} (hj : ∀ k ∈ js, k ∈ vs) {σ0 : L2.St} {H0 : Hp} {Q : VK} (h : tVn K W (fComp vs fi st ft fe) σ0 H0 Q) :
    tLc (tVi K W fi) (tVg K js st) (tVt K (fun _ _ _ _ => False) ft) (tV K (fun _ _ _ _ => False) fe) vs σ0 H0 Q := by
  obtain ⟨B, ρ, G, t, s⟩ := h
  refine ⟨B, ρ, G, t, (sat_bind s).imp (fun ds ρ1 s1 J G1 H1 g1 t1 it D hD => ?_) fun e ρ' k => k⟩
  have hF : B.F D = none := by
    cases q : B.F D with
    | none => rfl
    | some u => rw [(t1.pf D u q).1.1] at hD; cases hD
  have h0 : B.H0 D = none := fresh0 t1 hD
  refine ⟨fun i m H => m = ds.length - i ∧ i ≤ ds.length ∧ ∃ ρ' G' σ' acc avs, Same G1 G' ∧ Stt K { B with F := upd B.F D (.lst avs) } ρ' σ' G' H ∧ σ'.length = σ0.length ∧ (∀ k, k ∉ vs → σ'[k]? = σ0[k]?) ∧ RpA K G' avs acc ∧ avs.length ≤ sizeLine ∧
    Sat (compL vs st ft fe (ds.drop i) acc ρ') (fun es ρ2 => ∀ p us G2 H2, Same G1 G2 → H2 p = none → Stt K B ρ2 σ0 G2 H2 → RpA K G2 us es → us.length ≤ sizeLine → Q (.ref p) (upd H2 p (.lst us))) (exW K W B σ0), ⟨ds.length, by simp, Nat.zero_le _, ρ1, G1, σ0, [], [], Same.refl _, t1.aside hD _, rfl, fun _ _ => rfl, .nil, Nat.zero_le _,
      Sat.imp (o := compL vs st ft fe ds [] ρ1) s1 (fun es ρ2 k p us G2 H2 g2 np t2 r2 hl => k p us G2 H2 (g1.trans g2) np t2 r2 hl) fun _ _ k => k⟩, ?_⟩
  rintro i m H ⟨rfl, hi, ρ2, G2, σ2, acc, avs, g2, t2, l2, f2, ra, hz, s2⟩
  by_cases hlt : i < ds.length
  · refine .inr ⟨it.go G2 H i g2 t2.cg.gh hlt, fun H' => ∃ ρ' G' σ' acc avs, Same G1 G' ∧ Stt K { B with F := upd B.F D (.lst avs) } ρ' σ' G' H' ∧ σ'.length = σ0.length ∧ (∀ k, k ∉ vs → σ'[k]? = σ0[k]?) ∧ RpA K G' avs acc ∧ avs.length ≤ sizeLine ∧
      Sat (compL vs st ft fe (ds.drop (i + 1)) acc ρ') (fun es ρ2 => ∀ p us G2 H2, Same G1 G2 → H2 p = none → Stt K B ρ2 σ0 G2 H2 → RpA K G2 us es → us.length ≤ sizeLine → Q (.ref p) (upd H2 p (.lst us))) (exW K W B σ0), fun H' q => ⟨_, by omega, rfl, hlt, q⟩, fun x H' y => ?_⟩
    obtain ⟨G3, d, c, ed, rx⟩ := it.yld G2 H i x H' hlt g2 t2.cg.gh y
    have e0 : ds.drop i = d :: ds.drop (i + 1) := by
      rw [List.drop_eq_getElem_cons hlt]
      congr 1
      exact Option.some.inj ((List.getElem?_eq_getElem hlt).symm.trans ed)
    rw [e0] at s2
    unfold compL at s2
    have t3 : Stt K { B with F := upd B.F D (.lst avs) } (wipeE ρ2 vs) (L2.wipe σ0 vs) G3 H' := Stt.wipes vs (t2.step c) (by rw [L2.wipe_length, l2]) fun k hk => by rw [wipe_get vs k hk, f2 k hk]
    cases e1 : st d (wipeE ρ2 vs) with
    | none => simp only [e1] at s2; exact s2.elim
    | some ρ3 =>
      simp only [e1] at s2
      refine ⟨_, wipeE ρ2 vs, G3, d, ρ3, t3, rx, e1, fun σ3 t4 l4 f4 => ?_⟩
      rw [L2.wipe_length] at l4
      have f4' : ∀ k, k ∉ vs → σ3[k]? = (L2.wipe σ0 vs)[k]? := fun k hk => f4 k fun z => hk (hj k z)
      refine ⟨wipe_same vs l4 f4', _, ρ3, G3, t4, ?_⟩
      have f5 : ∀ k, k ∉ vs → σ3[k]? = σ0[k]? := fun k hk => by rw [f4' k hk, wipe_get vs k hk]
      have g3 : Same G1 G3 := g2.trans c.gg
      have ra3 := ra.mono c.gg
      cases e2 : ft ρ3 with
      | stuck => simp only [e2] at s2; exact s2.elim
      | exn x ρ4 => simp only [e2] at s2; exact s2.elim
      | ok b ρ4 =>
        cases b with
        | false =>
          simp only [e2] at s2
          exact fun G4 H4 g4 t5 => by
            show ∃ ρ' G' σ' acc avs, _
            exact ⟨ρ4, G4, σ3, acc, avs, g3.trans g4, t5, l4, f5, ra3.mono g4, hz, s2⟩
        | true =>
          simp only [e2] at s2
          exact fun G4 H4 g4 t5 => by
            show tV K (fun _ _ _ _ => False) fe σ3 H4 _
            refine ⟨_, ρ4, G4, t5, ?_⟩
            cases e3 : fe ρ4 with
            | stuck => simp only [e3] at s2; exact s2.elim
            | exn x ρ5 => simp only [e3] at s2; exact s2.elim
            | ok y5 ρ5 =>
              simp only [e3] at s2
              split at s2
              · rename_i hl
                refine fun v G5 H5 g5 t6 r6 => ⟨avs, t6.asideAt.1, ?_, ρ5, G5, σ3, acc ++ [y5], avs ++ [v], (g3.trans g4).trans g5, t6.reside h0, l4, f5, ((ra3.mono g4).mono g5).append (.cons r6 .nil), ?_, s2⟩
                · rw [ra.length, sizeLine_eq]
                  exact hl
                · rw [List.length_append, ra.length, sizeLine_eq]
                  exact hl
              · exact s2.elim
  · have e : i = ds.length := by omega
    subst e
    rw [List.drop_length] at s2
    refine .inl ⟨it.stop G2 H g2 t2.cg.gh, ?_⟩
    have t3 : Stt K { B with F := upd B.F D (.lst avs) } (wipeE ρ2 vs) σ0 G2 H := Stt.wipes vs t2 l2.symm fun k hk => (f2 k hk).symm
    have q := s2 D avs G2 (Vl.del H D) g2 del_same (t3.del h0 hF) ra hz
    rw [upd_del t2.asideAt.1] at q
    exact q
abbrev Wn : WX := fun _ _ _ _ => False
theorem vn_comp (own : List (Str × Nat)) {elt tg iter : Expr} {ifs : List Expr} {scope : Scope} {pos : Pos} {fi : EM (List Da)} {js : List Nat} {st : Da → Env → Option Env} {ft : EM Bool} {fe : EM Da} (hc : X.calm = true) (hN : X.N.Nodup) (hj : ∀ k ∈ js, k ∈ own.map (·.2)) (hi : VI X W tg iter fi)
    (hg : ∀ (s : Shared) (H : Hp) (C : Addr) (cl : List (Str × Addr)) (fp : List Addr), VG (X.blk s H scope (compEnvC scope cl C X.env) fp) tg js st) (ht : ∀ (s : Shared) (H : Hp) (C : Addr) (cl : List (Str × Addr)) (fp : List Addr), VTs (X.blk s H scope (compEnvC scope cl C X.env) fp) Wn ifs ft)
    (he : ∀ (s : Shared) (H : Hp) (C : Addr) (cl : List (Str × Addr)) (fp : List Addr), VE (X.blk s H scope (compEnvC scope cl C X.env) fp) Wn elt fe) (ok : BlkOk X.N X.env.scope scope own) (hs : ∀ x, foldedSetIterable iter X.env x = pure x := by intro _; rfl) :
    VN X W (.ListComp elt [⟨tg, iter, ifs, 0⟩] scope pos) (fComp (own.map (·.2)) fi st ft fe) := pe_mono (pe_lc hc hN hi ok hg ht he hs) fun σ H Q h => tVn_comp hj h
theorem vs_setC (i : Nat) (own : List (Str × Nat)) {y : Str} {py : Pos} {elt tg iter : Expr} {ifs : List Expr} {scope : Scope} {pos spos : Pos} {fi : EM (List Da)} {js : List Nat} {st : Da → Env → Option Env} {ft : EM Bool} {fe : EM Da} (hc : X.calm = true) (hN : X.N.Nodup) (hj : ∀ k ∈ js, k ∈ own.map (·.2)) (hi : VI X W tg iter fi)
    (hg : ∀ (s : Shared) (H : Hp) (C : Addr) (cl : List (Str × Addr)) (fp : List Addr), VG (X.blk s H scope (compEnvC scope cl C X.env) fp) tg js st) (ht : ∀ (s : Shared) (H : Hp) (C : Addr) (cl : List (Str × Addr)) (fp : List Addr), VTs (X.blk s H scope (compEnvC scope cl C X.env) fp) Wn ifs ft)
    (he : ∀ (s : Shared) (H : Hp) (C : Addr) (cl : List (Str × Addr)) (fp : List Addr), VE (X.blk s H scope (compEnvC scope cl C X.env) fp) Wn elt fe) (ok : BlkOk X.N X.env.scope scope own)
    (hsw : swapsWith (.ListComp elt [⟨tg, iter, ifs, 0⟩] scope pos) (some (.Name y py)) spos.line X.env = pure true) (hy : X.N[i]? = some y := by rfl) (hyl : X.env.scope.names.lookup y = some .local := by rfl) (hs : ∀ x, foldedSetIterable iter X.env x = pure x := by intro _; rfl) :
    VS X W (.Assign [.Name y py] (.ListComp elt [⟨tg, iter, ifs, 0⟩] scope pos) spos) (fAsgN i (fComp (own.map (·.2)) fi st ft fe)) :=
  ps_mono (ps_setLc hc hN hy hyl hsw hi ok hg ht he hs) fun D σ H ⟨B, ρ, G, t, s⟩ => tVn_comp (W := W) hj ⟨B, ρ, G, t, (sat_bind s).imp (fun ds ρ1 s1 p vs G1 H1 g1 np t1 r1 hl => s1 _ G1 _ g1 (t1.setNew np ⟨p, vs, rfl, ⟨gnone t1.cg.gh np, .inl (fresh0 t1 np), upd_same⟩, r1⟩)) fun e ρ' k => exW_of k⟩

/-! ### xs.append(e), xs.extend(e) of an own list -/
def fApp (i : Nat) (fe : EM Da) : EM Da := fun ρ => match ρ[i]? with
  | some (some (.lst _)) => mB fe (fun d => fun ρ1 => match ρ1[i]? with
    | some (some (.lst ds)) => if ds.length < 16777216 then .ok .non (ρ1.set i (some (.lst (ds ++ [d])))) else .stuck
    | _ => .stuck) ρ
  | _ => .stuck
theorem ve_app (i : Nat) {x : Str} {p apos pos : Pos} {e : Expr} {fe : EM Da} (h : VE X W e fe) (hN : X.N[i]? = some x := by rfl) (hv : Vis X.env.scope x := by first | exact Or.inl rfl | exact Or.inr (Or.inl rfl) | exact Or.inr (Or.inr rfl))
    (hbase : attributeBase (.Name x p) "append" X.env (eval (.Name x p) X.env) = eval (.Name x p) X.env := by rfl)
    (hfew : ((backTo pos (starEach [e] X.env)).all (fun x => !x.1) && (backToKw pos (keywordEach [] X.env)).all (fun x => x.1.isSome)
      && decide ([e].length + ([] : List Keyword).length + (if ([] : List Keyword).isEmpty then 0 else 1) < 30)) = true := by rfl)
    (hline : (apos.endLine == pos.line) = true := by rfl) (hs : starEach [e] X.env = (false, eval e X.env) :: starEach [] X.env := by rfl) (hplain : (backTo pos (starEach [] X.env)).any (·.1) = false := by rfl)
    (hd : (x == ("__debug__" : Str)) = false := by decide) (hcd : (x == ("__classdict__" : Str)) = false := by decide) : VE X W (.Call (.Attribute (.Name x p) "append" apos) [e] [] pos) (fApp i fe) :=
  pe_mono (pe_bm PySem.F.plainAttrs_list PySem.F.slot_list_append PySem.F.type_list_append mt_append (pe_var hN hv hd hcd) (pa_cons h pa_nil hs) hbase hfew hline hs hplain) fun σ H Q ⟨B, ρ, G, t, s⟩ => by
    unfold fApp at s
    cases e1 : ρ[i]? with
    | none => simp only [e1] at s; exact s.elim
    | some o =>
      match o, e1 with
      | none, e1 => simp only [e1] at s; exact s.elim
      | some (.imm d), e1 => simp only [e1] at s; exact s.elim
      | some (.dic d), e1 => simp only [e1] at s; exact s.elim
      | some (.obj a c d), e1 => simp only [e1] at s; exact s.elim
      | some (.bls p d), e1 => simp only [e1] at s; exact s.elim
      | some (.lst ds0), e1 =>
        simp only [e1] at s
        obtain ⟨v, es, l, vs, rfl, w, r⟩ := t.sl i _ e1
        refine ⟨_, es, .inl ⟨rfl, vs, SqL.of w.2.2⟩, B, ρ, G, t, (sat_bind s).imp (fun d ρ1 s1 y G1 H1 g1 t1 r1 => ?_) fun e ρ' k => k⟩
        cases e2 : ρ1[i]? with
        | none => simp only [e2] at s1; exact s1.elim
        | some o =>
          match o, e2 with
          | none, e2 => simp only [e2] at s1; exact s1.elim
          | some (.imm d), e2 => simp only [e2] at s1; exact s1.elim
          | some (.dic d), e2 => simp only [e2] at s1; exact s1.elim
          | some (.obj a c d), e2 => simp only [e2] at s1; exact s1.elim
          | some (.bls p d), e2 => simp only [e2] at s1; exact s1.elim
          | some (.lst ds), e2 =>
            simp only [e2] at s1
            split at s1
            · rename_i hl
              obtain ⟨v, es2, l2, us, rfl, w2, r2⟩ := t1.sl i _ e2
              rw [es] at es2
              cases es2
              have t2 := t1.write (o' := .lst (us ++ [y])) (c' := .lst (ds ++ [d])) e2 rfl es w2.any ⟨_, _, rfl, ⟨w2.1, w2.2.1, upd_same⟩, r2.append (.cons r1 .nil)⟩
              exact ⟨l, us, y, rfl, rfl, w2.2.2, by rw [r2.length, sizeLine_eq]; exact hl, s1 .non G1 _ g1 t2 .non⟩
            · exact s1.elim
def fExt (i : Nat) (fe : EM Da) : EM Da := fun ρ => match ρ[i]? with
  | some (some (.lst _)) => mB fe (fun d => fun ρ1 => match ρ1[i]?, d with
    | some (some (.lst ds)), .lst es => if ds.length + es.length ≤ 16777216 then .ok .non (ρ1.set i (some (.lst (ds ++ es)))) else .stuck
    | _, _ => .stuck) ρ
  | _ => .stuck
theorem ve_ext (i : Nat) {x : Str} {p apos pos : Pos} {e : Expr} {fe : EM Da} (h : VE X W e fe) (hN : X.N[i]? = some x := by rfl) (hv : Vis X.env.scope x := by first | exact Or.inl rfl | exact Or.inr (Or.inl rfl) | exact Or.inr (Or.inr rfl))
    (hbase : attributeBase (.Name x p) "extend" X.env (eval (.Name x p) X.env) = eval (.Name x p) X.env := by rfl)
    (hfew : ((backTo pos (starEach [e] X.env)).all (fun x => !x.1) && (backToKw pos (keywordEach [] X.env)).all (fun x => x.1.isSome)
      && decide ([e].length + ([] : List Keyword).length + (if ([] : List Keyword).isEmpty then 0 else 1) < 30)) = true := by rfl)
    (hline : (apos.endLine == pos.line) = true := by rfl) (hs : starEach [e] X.env = (false, eval e X.env) :: starEach [] X.env := by rfl) (hplain : (backTo pos (starEach [] X.env)).any (·.1) = false := by rfl)
    (hd : (x == ("__debug__" : Str)) = false := by decide) (hcd : (x == ("__classdict__" : Str)) = false := by decide) : VE X W (.Call (.Attribute (.Name x p) "extend" apos) [e] [] pos) (fExt i fe) :=
  pe_mono (pe_bm PySem.F.plainAttrs_list PySem.F.slot_list_extend PySem.F.type_list_extend mt_extend (pe_var hN hv hd hcd) (pa_cons h pa_nil hs) hbase hfew hline hs hplain) fun σ H Q ⟨B, ρ, G, t, s⟩ => by
    unfold fExt at s
    cases e1 : ρ[i]? with
    | none => simp only [e1] at s; exact s.elim
    | some o =>
      match o, e1 with
      | none, e1 => simp only [e1] at s; exact s.elim
      | some (.imm d), e1 => simp only [e1] at s; exact s.elim
      | some (.dic d), e1 => simp only [e1] at s; exact s.elim
      | some (.obj a c d), e1 => simp only [e1] at s; exact s.elim
      | some (.bls p d), e1 => simp only [e1] at s; exact s.elim
      | some (.lst ds0), e1 =>
        simp only [e1] at s
        obtain ⟨v, es, l, vs, rfl, w, r⟩ := t.sl i _ e1
        refine ⟨_, es, .inl ⟨rfl, vs, SqL.of w.2.2⟩, B, ρ, G, t, (sat_bind s).imp (fun d ρ1 s1 y G1 H1 g1 t1 r1 => ?_) fun e ρ' k => k⟩
        cases e2 : ρ1[i]? with
        | none => simp only [e2] at s1; exact s1.elim
        | some o =>
          match o, e2 with
          | none, e2 => simp only [e2] at s1; exact s1.elim
          | some (.imm d), e2 => simp only [e2] at s1; exact s1.elim
          | some (.dic d), e2 => simp only [e2] at s1; exact s1.elim
          | some (.obj a c d), e2 => simp only [e2] at s1; exact s1.elim
          | some (.bls p d), e2 => simp only [e2] at s1; exact s1.elim
          | some (.lst ds), e2 =>
            cases r1 with
            | @lst b zs es' h1 r3 =>
              simp only [e2] at s1
              split at s1
              · rename_i hl
                obtain ⟨v, es2, l2, us, rfl, w2, r2⟩ := t1.sl i _ e2
                rw [es] at es2
                cases es2
                have t2 := t1.write (o' := .lst (us ++ zs)) (c' := .lst (ds ++ es')) e2 rfl es w2.any ⟨_, _, rfl, ⟨w2.1, w2.2.1, upd_same⟩, r2.append r3⟩
                exact ⟨l, b, us, zs, rfl, rfl, w2.2.2, t1.cg.gh _ _ h1, by rw [r2.length, r3.length, sizeLine_eq]; exact hl, s1 .non G1 _ g1 t2 .non⟩
              · exact s1.elim
            | _ => simp only [e2] at s1; exact s1.elim
/-- xs[i] = e of an own list -/
def fSetIx (i : Nat) (fi fe : EM Da) : EM Fl := mB fe fun d => mB fi fun k => fun ρ => match ρ[i]?, k with
  | some (some (.lst ds)), .int j => (match ixN ds.length j with
    | some j => .ok .nx (ρ.set i (some (.lst (ds.set j d))))
    | none => .stuck)
  | _, _ => .stuck

/-! ### methods of texts -/
def rMs (K : PySem.W.Frag) (r : List Nat → List Da → Option Da) : V → List V → Hp → VK → Prop := fun x vs H Q => ∃ G l ds d, Same G H ∧ x = .str ⟨l.toArray⟩ ∧ Chs l ∧ SeeA K G H vs ds ∧ r l ds = some d ∧ ∀ G' H' z, Cn G H G' H' → Rp K G' z d → Q z H'
def rMn (K : PySem.W.Frag) (r : List Nat → List Da → Option (List Da)) : V → List V → Hp → VK → Prop := fun x vs H Q => ∃ G l ds es, Same G H ∧ x = .str ⟨l.toArray⟩ ∧ Chs l ∧ SeeA K G H vs ds ∧ r l ds = some es ∧ ∀ p us, H p = none → RpA K G us es → us.length ≤ sizeLine → Q (.ref p) (upd H p (.lst us))
def fMs (r : List Nat → List Da → Option Da) (fo : EM Da) (fa : EM (List Pk)) : EM Da := mB fo fun d => match d with
  | .str l => mB fa fun ps => fun ρ => mO (match lookA ρ ps with
    | some ds => r l ds
    | none => none) ρ
  | _ => fStuck
def fMn (r : List Nat → List Da → Option (List Da)) (fo : EM Da) (fa : EM (List Pk)) : EM (List Da) := mB fo fun d => match d with
  | .str l => mB fa fun ps => fun ρ => mO (match lookA ρ ps with
    | some ds => r l ds
    | none => none) ρ
  | _ => fStuck
theorem ve_ms {id : String} {name : Str} {apos pos : Pos} {o e : Expr} {es : List Expr} {r : List Nat → List Da → Option Da} {fo : EM Da} {fa : EM (List Pk)} (slot : Slot "str" name id) (hty : typeOf (.builtin id) = pure (.type "method_descriptor")) (hm : MtR X id (rMs X.K r)) (ho : VE X W o fo) (ha : VPA X W (e :: es) fa)
    (hbase : attributeBase o name X.env (eval o X.env) = eval o X.env := by rfl)
    (hfew : ((backTo pos (starEach (e :: es) X.env)).all (fun x => !x.1) && (backToKw pos (keywordEach [] X.env)).all (fun x => x.1.isSome)
      && decide ((e :: es).length + ([] : List Keyword).length + (if ([] : List Keyword).isEmpty then 0 else 1) < 30)) = true := by rfl)
    (hline : (apos.endLine == pos.line) = true := by rfl) (hs : starEach (e :: es) X.env = (false, eval e X.env) :: starEach es X.env := by rfl) (hplain : (backTo pos (starEach es X.env)).any (·.1) = false := by rfl) :
    VE X W (.Call (.Attribute o name apos) (e :: es) [] pos) (fMs r fo fa) :=
  pe_mono (pe_bm PySem.F.plainAttrs_str slot hty hm ho ha hbase hfew hline hs hplain) fun σ H Q ⟨B, ρ, G, t, s⟩ => ⟨B, ρ, G, t, (sat_bind s).imp (fun d ρ1 s1 v G1 H1 g1 t1 r1 => by
    cases d with
    | str l =>
      cases r1 with
      | str hc =>
      refine ⟨rfl, B, ρ1, G1, t1, (sat_bind s1).imp (fun ps ρ2 s2 vs G2 H2 g2 t2 p2 => ?_) fun e ρ' k => k⟩
      obtain ⟨d, e, k⟩ := sat_o s2
      cases l1 : lookA ρ2 ps with
      | none => rw [l1] at e; cases e
      | some ds =>
        rw [l1] at e
        exact ⟨G2, l, ds, d, t2.cg.gh, rfl, hc, seeA_of t2 p2 l1, e, fun G' H' z c rz => k z G' H' ((g1.trans g2).trans c.gg) (t2.step c) rz⟩
    | _ => exact False.elim s1) fun e ρ' k => k⟩
theorem vn_ms {id : String} {name : Str} {apos pos : Pos} {o e : Expr} {es : List Expr} {r : List Nat → List Da → Option (List Da)} {fo : EM Da} {fa : EM (List Pk)} (slot : Slot "str" name id) (hty : typeOf (.builtin id) = pure (.type "method_descriptor")) (hm : MtR X id (rMn X.K r)) (ho : VE X W o fo) (ha : VPA X W (e :: es) fa)
    (hbase : attributeBase o name X.env (eval o X.env) = eval o X.env := by rfl)
    (hfew : ((backTo pos (starEach (e :: es) X.env)).all (fun x => !x.1) && (backToKw pos (keywordEach [] X.env)).all (fun x => x.1.isSome)
      && decide ((e :: es).length + ([] : List Keyword).length + (if ([] : List Keyword).isEmpty then 0 else 1) < 30)) = true := by rfl)
    (hline : (apos.endLine == pos.line) = true := by rfl) (hs : starEach (e :: es) X.env = (false, eval e X.env) :: starEach es X.env := by rfl) (hplain : (backTo pos (starEach es X.env)).any (·.1) = false := by rfl) :
    VN X W (.Call (.Attribute o name apos) (e :: es) [] pos) (fMn r fo fa) :=
  pe_mono (pe_bm PySem.F.plainAttrs_str slot hty hm ho ha hbase hfew hline hs hplain) fun σ H Q ⟨B, ρ, G, t, s⟩ => ⟨B, ρ, G, t, (sat_bind s).imp (fun d ρ1 s1 v G1 H1 g1 t1 r1 => by
    cases d with
    | str l =>
      cases r1 with
      | str hc =>
      refine ⟨rfl, B, ρ1, G1, t1, (sat_bind s1).imp (fun ps ρ2 s2 vs G2 H2 g2 t2 p2 => ?_) fun e ρ' k => k⟩
      obtain ⟨d, e, k⟩ := sat_o s2
      cases l1 : lookA ρ2 ps with
      | none => rw [l1] at e; cases e
      | some ds =>
        rw [l1] at e
        exact ⟨G2, l, ds, d, t2.cg.gh, rfl, hc, seeA_of t2 p2 l1, e, fun p us hp ra hl => k p us G2 H2 (g1.trans g2) hp t2 ra hl⟩
    | _ => exact False.elim s1) fun e ρ' k => k⟩
theorem mtR_of {id : String} {r r0 : V → List V → Hp → VK → Prop} (h0 : MtR X id r0) (h : ∀ x vs H Q, r x vs H Q → r0 x vs H Q) : MtR X id r := fun pins s σ H x xs v us Q I rx rs q => h0 pins s σ H x xs v us Q I rx rs (h _ _ _ _ q)
def strsD : List Da → Option (List (List Nat))
  | [] => some []
  | .str l :: r => match strsD r with
    | some ls => some (l :: ls)
    | none => none
  | _ => none
theorem strsD_map : ∀ ls : List (List Nat), strsD (ls.map .str) = some ls
  | [] => rfl
  | l :: ls => by rw [List.map_cons]; unfold strsD; rw [strsD_map ls]
abbrev S (l : List Nat) : Str := ⟨l.toArray⟩
theorem strsD_rp {K : PySem.W.Frag} {G : Hp} : ∀ {vs : List V} {ds : List Da} {ls : List (List Nat)}, RpA K G vs ds → strsD ds = some ls → vs = (ls.map S).map V.str ∧ ∀ l ∈ ls, Chs l
  | _, _, _, .nil, e => by cases e; exact ⟨rfl, fun _ h => by cases h⟩
  | _, _, ls, .cons (d := d) (ds := ds) h r, e => by
    cases d with
    | str l =>
      unfold strsD at e
      cases q : strsD ds with
      | none => simp [q] at e
      | some ls' =>
        simp only [q, Option.some.injEq] at e
        subst e
        obtain ⟨e1, e2⟩ := strsD_rp r q
        cases h with
        | str hc =>
          rw [e1]
          refine ⟨rfl, fun l' hl' => ?_⟩
          rcases List.mem_cons.mp hl' with z | z
          · rw [z]; exact hc
          · exact e2 l' z
    | _ => cases e
/-- texts joined -/
def joinN (a : List Nat) : List (List Nat) → List Nat
  | [] => []
  | [p] => p
  | p :: q :: r => p ++ (a ++ joinN a (q :: r))
theorem joinN_eq (a : List Nat) : ∀ ls : List (List Nat), Txt.join (S a) (ls.map S) = S (joinN a ls) := fun ls => by
  have h := TL.tl_join (S a) (ls.map S)
  have e : ∀ (z : Str), TL.tl z = z.cps.toList := fun z => rfl
  rw [TL.join_eq]
  have h2 : ∀ ls : List (List Nat), TL.joinL (TL.tl (S a)) ((ls.map S).map TL.tl) = joinN a ls := by
    intro ls
    induction ls with
    | nil => rfl
    | cons p r ih =>
      cases r with
      | nil => simp [TL.joinL, joinN, e]
      | cons q r =>
        simp only [List.map_cons, TL.joinL, joinN] at ih ⊢
        rw [ih]
  rw [h2] at h
  have h3 : (Str.join (S a) (ls.map S)).cps.toList = joinN a ls := h
  show _ = (⟨(joinN a ls).toArray⟩ : Str)
  rw [← h3]
theorem chs_join {a : List Nat} (ha : Chs a) : ∀ {ls : List (List Nat)}, (∀ l ∈ ls, Chs l) → Chs (joinN a ls)
  | [], _ => fun _ h => by cases h
  | [p], h => h p (by simp)
  | p :: q :: r, h => (h p (by simp)).append (ha.append (chs_join ha fun l hl => h l (List.mem_cons_of_mem _ hl)))
def sJoin (a : List Nat) : List Da → Option Da
  | [.lst xs] => match strsD xs with
    | some ls => if (ls.map (·.length)).sum + ls.length * a.length ≤ 16777216 then some (.str (joinN a ls)) else none
    | none => none
  | _ => none
theorem ms_join : MtR X "str.join" (rMs X.K sJoin) := mtR_of mt_join fun x vs H Q ⟨G, l, ds, d, g, ex, hc, sa, e, k⟩ => by
  unfold sJoin at e
  split at e
  · rename_i xs
    cases sa with
    | cons s1 sr =>
      cases sr
      obtain ⟨p, us, rfl, h1, r⟩ := s1
      cases q : strsD xs with
      | none => simp [q] at e
      | some ls =>
        simp only [q] at e
        split at e
        · rename_i hl
          cases e
          obtain ⟨e1, e2⟩ := strsD_rp r q
          subst ex
          refine ⟨_, p, ls.map S, rfl, rfl, .inl (SqL.of (by rw [← e1]; exact h1)), ?_, ?_⟩
          · have e3 : (ls.map S).map (·.length) = ls.map (·.length) := by
              rw [List.map_map]
              exact List.map_congr_left fun l _ => S_length l
            rw [e3, List.length_map, S_length]
            exact hl
          · rw [show (⟨l.toArray⟩ : Str) = S l from rfl, joinN_eq]
            exact k G H _ (cn_refl g) (.str (chs_join hc e2))
        · cases e
  · cases e
def sStarts (a : List Nat) : List Da → Option Da
  | [.str b] => some (.bl (Txt.startswith (S a) (S b)))
  | _ => none
theorem ms_starts : MtR X "str.startswith" (rMs X.K sStarts) := mtR_of mt_startswith fun x vs H Q ⟨G, l, ds, d, g, ex, hc, sa, e, k⟩ => by
  unfold sStarts at e
  split at e
  · cases sa with
    | cons s1 sr =>
      cases sr
      obtain ⟨rfl, _⟩ := see_str s1
      cases e
      exact ⟨_, _, ex, rfl, k G H _ (cn_refl g) (.bl _)⟩
  · cases e
def sFind (a : List Nat) : List Da → Option Da
  | [.str b] => some (.int (Txt.find (S a) (S b)))
  | _ => none
theorem ms_find : MtR X "str.find" (rMs X.K sFind) := mtR_of mt_find fun x vs H Q ⟨G, l, ds, d, g, ex, hc, sa, e, k⟩ => by
  unfold sFind at e
  split at e
  · cases sa with
    | cons s1 sr =>
      cases sr
      obtain ⟨rfl, _⟩ := see_str s1
      cases e
      exact ⟨_, _, ex, rfl, k G H _ (cn_refl g) (.int _)⟩
  · cases e
def sIndex (a : List Nat) : List Da → Option Da
  | [.str b] => match Builtin.Str.occurrences (S a) (S b) 0 (S a).length 1 with
    | k :: _ => some (.int (k : Nat))
    | [] => none
  | _ => none
theorem mt_index_hit : MtR X "str.index" (fun x xs H Q => ∃ a b k rest, x = .str a ∧ xs = [.str b] ∧ Builtin.Str.occurrences a b 0 a.length 1 = k :: rest ∧ Q (.int (k : Nat)) H) := fun pins s σ H x xs v us Q I rx rs h => by
  obtain ⟨a, b, k, rest, rfl, rfl, q, w⟩ := h
  obtain ⟨t, rfl⟩ := rx
  cases rs with
  | cons r1 rs =>
    cases rs
    obtain ⟨u, rfl⟩ := r1
    exact PySem.SC.index q ⟨.int (k : Nat), H, I.tok _, ⟨_, rfl⟩, w⟩
theorem ms_index : MtR X "str.index" (rMs X.K sIndex) := mtR_of mt_index_hit fun x vs H Q ⟨G, l, ds, d, g, ex, hc, sa, e, k⟩ => by
  unfold sIndex at e
  split at e
  · rename_i b
    cases sa with
    | cons s1 sr =>
      cases sr
      obtain ⟨rfl, _⟩ := see_str s1
      split at e
      · rename_i i r q
        cases e
        exact ⟨_, _, i, r, ex, rfl, q, k G H _ (cn_refl g) (.int _)⟩
      · cases e
  · cases e
end
end Vl
/-! the value layer: bodies of defs -/
namespace Vl
variable [LamT]
open PySem PySem.Spec PyProof.Rows L2

def envOf (m : Nat) (ds : List Da) : Env := ds.map (fun d => some (Ce.imm d)) ++ List.replicate (m - ds.length) none
def resOf : Out Fl → Res
  | .ok (.rt d) _ => .ok d
  | .ok (.rn ds) _ => .ok (.lst ds)
  | .ok .nx _ => .ok .non
  | _ => .stuck
/-- n parameters, m slots -/
def fnRun (n m : Nat) (b : EM Fl) (ds : List Da) : Res := if ds.length = n then resOf (b (envOf m ds)) else .stuck
theorem no_cg {G H G' H' : Hp} (c : Cn G H G' H') : Cg (fun a => NoM a ≠ none) G H G' H' := ⟨c.gg, c.gh, fun b o _ h nt => c.same b o h nt, c.fr, fun _ m => absurd rfl m, c.nn, c.tb⟩
theorem cn_of {G H G' H' : Hp} (c : Cg (fun a => NoM a ≠ none) G H G' H') : Cn G H G' H' := ⟨c.gg, c.gh, fun b o _ h nt => c.hh b o (fun m => m rfl) h nt, c.fr, fun _ m => m.elim, c.nn, c.tb⟩
section
variable {P : Program} {w : World} {K : PySem.W.Frag} {mg : Str → Option Value} {base : Heap}
theorem stt_start {N : List Str} {vs : List V} {ds : List Da} {G H : Hp} (g : Gd G H) (r : RpA K G vs ds) : Stt K ⟨NoM, G, H, fun _ => none⟩ (envOf N.length ds) (L2.start N vs) G H where
  cg := no_cg (Cn.refl g.s)
  tg := g.t
  pf := fun b o h => by cases h
  sf := fun i c l e oc es => rfl
  len := by
    unfold envOf L2.start
    simp only [List.length_append, List.length_map, List.length_replicate, r.length]
  sl := fun i c e => by
    unfold envOf at e
    unfold L2.start
    by_cases hi : i < ds.length
    · rw [List.getElem?_append_left (by rw [List.length_map]; exact hi), List.getElem?_map] at e
      cases q : ds[i]? with
      | none => rw [q] at e; cases e
      | some d =>
        rw [q] at e
        have e' : Ce.imm d = c := by simpa using e
        subst e'
        obtain ⟨v, h1, h2⟩ := r.get' q
        refine ⟨v, ?_, h2⟩
        rw [List.getElem?_append_left (by rw [List.length_map, r.length]; exact hi), List.getElem?_map, h1] <;> rfl
    · rw [List.getElem?_append_right (by rw [List.length_map]; omega), List.getElem?_replicate] at e
      split at e <;> cases e
  sep := fun i j c d v hij ei ej oc od si sj => by
    have key : ∀ {k : Nat} {z : Ce}, (envOf N.length ds)[k]? = some (some z) → isOwn z = false := fun {k z} e => by
      unfold envOf at e
      by_cases hi : k < ds.length
      · rw [List.getElem?_append_left (by rw [List.length_map]; exact hi), List.getElem?_map] at e
        cases q : ds[k]? with
        | none => rw [q] at e; cases e
        | some d =>
          rw [q] at e
          have e' : Ce.imm d = z := by simpa using e
          subst e'
          rfl
      · rw [List.getElem?_append_right (by rw [List.length_map]; omega), List.getElem?_replicate] at e
        split at e <;> cases e
    rw [key ei] at oc
    cases oc
abbrev Cxd (P : Program) (w : World) (K : PySem.W.Frag) (mg : Str → Option Value) (base : Heap) (N : List Str) (qual : Str) (st : Stmt) (f : Addr) (cdv : Value) (A : Around) (outer : List PySem.Env) (s : Shared) (H : Hp) (E : XK) : Cx := (cxOf CX0 P w K mg base N qual (defScope st) f cdv A outer s H E).nox
/-- a def's body has its function -/
def Dv (P : Program) (w : World) (K : PySem.W.Frag) (mg : Str → Option Value) (base : Heap) (N : List Str) (qual : Str) (st : Stmt) (f : Addr) (k : Nat) (fb : EM Fl) : Prop :=
  ∀ (cdv : Value) (A : Around) (outer : List PySem.Env) (s : Shared) (H : Hp) (E : XK), Room k (A.deeper (envOfC qual (defScope st) s.heap.objs.size f cdv)) → VSs (Cxd P w K mg base N qual st f cdv A outer s H E) Wn (defBody st) fb
theorem fn_of {x qual : Str} {st : Stmt} {f : Addr} {fd : FuncData} {dvs : List V} {kws : List (Str × V)} {N ps : List Str} {k : Nat} {fb : EM Fl} (F : FunD K x qual (defArgs st) (defBody st) (defScope st) dvs kws f fd) (Sc : FnScope N ps (defScope st))
    (D : Dv P w K mg base N qual st f k fb) : FnOk P w K mg base CX0 (k + 1) f fd ps (spV K (fnRun ps.length N.length fb)) := by
  refine F.ok Sc (fun vs H Q E h => ?_) (fun cdv A outer s H vs Q E hr h => ?_)
  · obtain ⟨G, ds, g, r, h⟩ := h
    unfold fnRun at h
    split at h
    · rename_i e
      rw [r.length]
      split at e
      · assumption
      · cases e
    · rename_i e
      split at e <;> first | (rw [r.length]; assumption) | cases e
    · exact h.elim
  · obtain ⟨G, ds, g, r, h⟩ := h
    refine ⟨_, PSs.nox (D cdv A outer s H E hr), ⟨NoM, G, H, fun _ => none⟩, envOf N.length ds, G, stt_start g r, ?_⟩
    unfold fnRun at h
    by_cases hl : ds.length = ps.length
    · rw [if_pos hl] at h
      cases e : fb (envOf N.length ds) with
      | stuck => rw [e] at h; exact h
      | exn x ρ => rw [e] at h; exact h.elim
      | ok fl ρ =>
        rw [e] at h
        cases fl with
        | nx => exact fun σ G' H' g' t => h G' H' .non (cn_of t.cg) .non
        | rt d => exact fun v σ G' H' g' t rv => h G' H' v (cn_of t.cg) rv
        | bk => exact h.elim
        | ct => exact h.elim
        | rn ds' =>
          exact fun p vs σ G' H' g' t w r' => by
            obtain ⟨s1, s2⟩ := Cn.freeze t.cg.gh w.1 w.2.2
            have hp0 : H p = none := w.2.1.elim id fun z => absurd rfl z
            have c := cn_of t.cg
            exact h _ H' (.ref p) ⟨c.gg.trans s1, s2, fun b o m q nt => c.hh b o m q nt, fun b u q => by
              by_cases hb : b = p
              · subst hb
                exact .inr hp0
              · rw [upd_ne hb] at q
                exact c.fr b u q, fun _ m => m.elim, c.nn, fun q => (c.tb q).put w.1 fun ps z => by rw [w.2.2] at z; cases z⟩ (.lst upd_same (r'.mono s1))
    · rw [if_neg hl] at h
      exact h.elim
theorem fo_of {x qual : Str} {st : Stmt} {f : Addr} {fd : FuncData} {dvs : List V} {kws : List (Str × V)} {N ps : List Str} {k : Nat} {fb : EM Fl} (F : FunD K x qual (defArgs st) (defBody st) (defScope st) dvs kws f fd) (Sc : FnScope N ps (defScope st)) (hb : L2.Binds K fd ps [])
    (D : Dv P w K mg base N qual st f k fb) : FoA P w K mg base (k + 1) f ps [] (fnRun ps.length N.length fb) :=
  ⟨⟨fd, [], [], fn_of F Sc D, hb, .nil, fun _ => .nil⟩, F.kp⟩
/-- a def that hands back a new list of its own -/
def spN (K : PySem.W.Frag) (F : List Da → Option (List Da)) : Sp := fun vs H Q _ => ∃ G ds es, Gd G H ∧ RpA K G vs ds ∧ F ds = some es ∧ ∀ G' H' p us, Cn G H G' H' → G' p = none → H p = none → H' p = some (.lst us) → RpA K G' us es → Q (.ref p) H'
structure FoL (P : Program) (w : World) (K : PySem.W.Frag) (mg : Str → Option Value) (base : Heap) (k : Nat) (f : Addr) (ps : List Str) (F : List Da → Option (List Da)) : Prop where
  ok : ∃ fd : FuncData, FnOk P w K mg base CX0 k f fd ps (spN K F) ∧ L2.Binds K fd ps []
  kp : PySem.W.keepIn K (.ref f) = true
def resL : Out Fl → Option (List Da)
  | .ok (.rn ds) _ => some ds
  | _ => none
def lsRun (n m : Nat) (b : EM Fl) (ds : List Da) : Option (List Da) := if ds.length = n then resL (b (envOf m ds)) else none
theorem fl_of {x qual : Str} {st : Stmt} {f : Addr} {fd : FuncData} {dvs : List V} {kws : List (Str × V)} {N ps : List Str} {k : Nat} {fb : EM Fl} (F : FunD K x qual (defArgs st) (defBody st) (defScope st) dvs kws f fd) (Sc : FnScope N ps (defScope st)) (hb : L2.Binds K fd ps [])
    (D : Dv P w K mg base N qual st f k fb) : FoL P w K mg base (k + 1) f ps (lsRun ps.length N.length fb) := by
  refine ⟨⟨fd, F.ok Sc (fun vs H Q E h => ?_) (fun cdv A outer s H vs Q E hr h => ?_), hb⟩, F.kp⟩
  · obtain ⟨G, ds, es, g, r, e, _⟩ := h
    unfold lsRun at e
    split at e
    · rw [r.length]
      assumption
    · cases e
  · obtain ⟨G, ds, es, g, r, e, h⟩ := h
    refine ⟨_, PSs.nox (D cdv A outer s H E hr), ⟨NoM, G, H, fun _ => none⟩, envOf N.length ds, G, stt_start g r, ?_⟩
    unfold lsRun at e
    split at e
    · cases e2 : fb (envOf N.length ds) with
      | stuck => rw [e2] at e; cases e
      | exn x ρ => rw [e2] at e; cases e
      | ok fl ρ =>
        rw [e2] at e
        cases fl with
        | rn ds' =>
          cases e
          exact fun p vs σ G' H' g' t w r' => h G' H' p vs (cn_of t.cg) w.1 (w.2.1.elim id fun z => absurd rfl z) w.2.2 r'
        | nx => cases e
        | rt d => cases e
        | bk => cases e
        | ct => cases e
    · cases e
end
end Vl
/-! the value layer: further rules -/
namespace Vl
variable [LamT]
open PySem PySem.Spec PyProof.Rows L2

section
variable {X : Cx} {W : WX}
/-! ### s[::-1] -/
theorem rev_places (n : Nat) : Builtin.Str.strSliceIndices none none (-1) n = (List.range n).map fun k => n - 1 - k := by
  unfold Builtin.Str.strSliceIndices
  simp only [show ¬ ((-1 : Int) > 0) from by decide, if_false]
  unfold sliceRange
  simp only [show ¬ ((-1 : Int) > 0) from by decide, if_false]
  by_cases hn : n = 0
  · subst hn
    rfl
  · have h : ((n : Int) - 1 > -1) := by omega
    simp only [h, if_true]
    have e : (((n : Int) - 1 - -1 - -1 - 1) / - -1).toNat = n := by
      have : ((n : Int) - 1 - -1 - -1 - 1) = n := by omega
      rw [this]
      simp
    rw [e]
    refine List.map_congr_left fun k hk => ?_
    have := List.mem_range.mp hk
    omega
theorem rev_pick (l : List Nat) : ((List.range l.length).map fun k => l.length - 1 - k).filterMap (l[·]?) = l.reverse := by
  have h : ∀ (m : Nat) (a : List Nat), m ≤ a.length → ((List.range m).map fun k => a.length - 1 - k).filterMap (a[·]?) = (a.drop (a.length - m)).reverse := by
    intro m
    induction m with
    | zero => intro a _; simp
    | succ m ih =>
      intro a hm
      rw [List.range_succ, List.map_append, List.filterMap_append, ih a (by omega)]
      have hlt : a.length - 1 - m < a.length := by omega
      have e1 : a.drop (a.length - (m + 1)) = a[a.length - 1 - m] :: a.drop (a.length - m) := by
        have e2 : a.length - (m + 1) = a.length - 1 - m := by omega
        rw [e2, List.drop_eq_getElem_cons hlt]
        congr 2
        omega
      rw [e1, List.reverse_cons]
      congr 1
      simp [List.getElem?_eq_getElem hlt]
  have := h l.length l (Nat.le_refl _)
  simpa using this
def tRevS (te : TE) : TE := fun σ H Q => te σ H fun x H1 => ∃ l : List Nat, x = .str ⟨l.toArray⟩ ∧ l.length ≤ 16777216 ∧ Q (.str ⟨l.reverse.toArray⟩) H1
theorem pe_revS {e : Expr} {te : TE} {k : Nat} {p1 p2 p3 pos : Pos} (he : PE X e te) : PE X (.Subscript e (.Slice none none (some (.UnaryOp .USub (.Constant (.int 1) k p1) p2)) p3) pos) (tRevS te) := by
  refine ⟨fun pins s σ H Q I h => ?_⟩
  refine Subscript_ (thn (he.run pins s σ H _ I h) fun v s1 ⟨x, H1, I1, r1, q1⟩ => ?_)
  obtain ⟨z, ex, hz, q⟩ := q1
  subst ex
  obtain ⟨t, rfl⟩ := r1
  have hst : PO X (some (.UnaryOp .USub (.Constant (.int 1) k p1) p2)) (tPart (tUn (rU fun i => .int (-i)) (tC (.int 1)))) := po_some (pe_un un_neg pe_int)
  refine wpAny_Slice (thn (po_none.run pins s1 σ H1 (fun o H2 => o = none ∧ H2 = H1) I1 ⟨rfl, rfl⟩) fun vl s2 ⟨l, H2, I2, pl, el, e2⟩ => ?_)
  subst el e2
  refine thn (po_none.run pins s2 σ H2 (fun o H3 => o = none ∧ H3 = H2) I2 ⟨rfl, rfl⟩) fun vu s3 ⟨u, H3, I3, pu, eu, e3⟩ => ?_
  subst eu e3
  refine thn (hst.run pins s3 σ H3 (fun o H4 => o = some (-1) ∧ H4 = H3) I3 ⟨1, rfl, -1, rfl, rfl, rfl⟩) fun vs s4 ⟨o, H4, I4, ps, eo, e4⟩ => ?_
  subst eo e4
  have I5 : Inv X pins σ H4 { s4 with heap := s4.heap.push { cls := .type "slice", data := .fields #[vl, vu, vs] } } := I4.kept (t' := s4.toks) fun b ob q => Heap.get?_push_of_some _ q
  show wpAny (model X.prog X.w) X.A (subscriptTail e (.Slice none none (some (.UnaryOp .USub (.Constant (.int 1) k p1) p2)) p3) (.str ⟨z.toArray⟩ t) (.ref s4.heap.objs.size)) (EP X pins σ Q) X.xe { s4 with heap := s4.heap.push { cls := .type "slice", data := .fields #[vl, vu, vs] } }
  refine tail_any (ops := [.str ⟨z.toArray⟩ t, .ref s4.heap.objs.size]) (typeIs_str _ _ _) (PySem.F.slot_str_getitem.lookup) ?_ (by with_unfolding_all rfl)
  obtain ⟨l, rfl, hl⟩ := IsPart.raw pl
  obtain ⟨u, rfl, hu⟩ := IsPart.raw pu
  obtain ⟨st, rfl, hs⟩ := IsPart.raw ps
  refine wpAny_getItem_str_slice (l := l) (u := u) (st := st) (Heap.IsSliceOf.new _ _ _ _) (by rw [hs]; rfl) ?_
  unfold sliceMade slicePicked
  rw [hl, hu, hs]
  show Made.post (if ((-1 : Int) == 1 && _) = true then Made.val (.str ⟨z.toArray⟩ t) else Made.str ⟨((Builtin.Str.strSliceIndices none none (-1) (⟨z.toArray⟩ : Str).length).filterMap ((⟨z.toArray⟩ : Str).cps[·]?)).toArray⟩) (EP X pins σ Q) _
  rw [if_neg (by simp)]
  have e : (Builtin.Str.strSliceIndices none none (-1) (⟨z.toArray⟩ : Str).length).filterMap ((⟨z.toArray⟩ : Str).cps[·]?) = z.reverse := by
    rw [S_length, rev_places, ← rev_pick z]
    refine congrArg (fun f => List.filterMap f _) (funext fun i => ?_)
    simp
  rw [e]
  refine ⟨by rw [S_length, List.length_reverse, sizeLine_eq]; exact hz, .str _, H4, I5.tok _, ⟨_, rfl⟩, q⟩
def fRev (fa : EM Pk) : EM Da := mB fa fun p => fun ρ => mO (match look ρ p with
  | some (.str l) => if l.length ≤ 16777216 then some (.str l.reverse) else none
  | _ => none) ρ
theorem ve_revS {e : Expr} {k : Nat} {p1 p2 p3 pos : Pos} {fa : EM Pk} (ha : VP X W e fa) : VE X W (.Subscript e (.Slice none none (some (.UnaryOp .USub (.Constant (.int 1) k p1) p2)) p3) pos) (fRev fa) :=
  pe_mono (pe_revS ha) fun σ H Q ⟨B, ρ, G, t, s⟩ => ⟨B, ρ, G, t, (sat_bind s).imp (fun p ρ1 s1 v G1 H1 g1 t1 px => by
    obtain ⟨d, e, k⟩ := sat_o s1
    cases l1 : look ρ1 p with
    | none => rw [l1] at e; cases e
    | some d =>
      rw [l1] at e
      cases d with
      | str l =>
        obtain ⟨rfl, hc⟩ := see_str (see_of t1 px l1)
        simp only at e
        split at e
        · rename_i hl
          cases e
          exact ⟨l, rfl, hl, k _ G1 H1 g1 t1 (.str (hc.sub fun c h => by simpa using h))⟩
        · cases e
      | _ => cases e) fun e ρ' k => k⟩

/-! ### a, b = x, y where a real tuple is made -/
theorem Ext.step {K : PySem.W.Frag} {B : Bs} {ρ : Env} {σ : L2.St} {G H G1 H1 : Hp} (s : Cn G H G1 H1) {vs : List V} {cs : List Ce} (x : Ext K B ρ σ G H vs cs) : Ext K B ρ σ G1 H1 vs cs := by
  induction x with
  | nil => exact .nil
  | cons h k r ih => exact .cons (h.step s) k ih
theorem vs_parT2 (i j : Nat) {x y : Str} {a b : Expr} {f : EM (List Ce)} {px py pt pos : Pos} {kt k2 pt2} (hc : X.calm = true) (hN : X.N.Nodup) (ha : VC X W [a, b] f)
    (g1 : PG X (.Name x px) (gName i)) (g2 : PG X (.Name y py) (gName j))
    (hw : swappedStores [.Tuple [.Name x px, .Name y py] kt pt] (.Tuple [a, b] k2 pt2) X.env = pure none := by rfl)
    (hs : swapsWithSole [.Tuple [.Name x px, .Name y py] kt pt] (.Tuple [a, b] k2 pt2) pos.line X.env = pure false := by rfl)
    (h1 : (assignEach [.Tuple [.Name x px, .Name y py] kt pt] X.env).map (·.2) = [assign (.Tuple [.Name x px, .Name y py] kt pt) X.env] := by rfl)
    (hn : (assignEach [.Name x px, .Name y py] X.env).length = 2 := by rfl) (hst : (assignEach [.Name x px, .Name y py] X.env).findIdx? (·.1) = none := by rfl)
    (hx1 : (assignEach [.Name x px, .Name y py] X.env).map (·.2) = assign (.Name x px) X.env :: (assignEach [.Name y py] X.env).map (·.2) := by rfl) (hx2 : (assignEach [.Name y py] X.env).map (·.2) = assign (.Name y py) X.env :: (assignEach [] X.env).map (·.2) := by rfl) :
    VS X W (.Assign [.Tuple [.Name x px, .Name y py] kt pt] (.Tuple [a, b] k2 pt2) pos) (fPar2 i j f) :=
  ps_mono (ps_asg (pe_tup ha) (pg_tup hc (pgs_cons g1 (pgs_cons g2 pgs_nil hx2) hx1) hn hst) hs hw h1) fun D σ H ⟨B, ρ, G, t, s⟩ => ⟨B, ρ, G, t, (sat_bind s).imp (fun cs ρ1 s1 vs G1 H1 g1 t1 x1 => by
    match cs, vs, x1, s1 with
    | [c, d], [u, v], x1, s1 =>
      refine ⟨by show 2 ≤ sizeLine; decide, fun p hp => ?_⟩
      have c := Cn.newM t1.cg.gh hp (.tup [u, v])
      obtain ⟨t2, x2⟩ := (t1.step c).store (i := i) (x1.step c)
      obtain ⟨t3, x3⟩ := t2.store (i := j) x2
      exact ⟨p, [u, v], rfl, SqT.of upd_same, rfl, u, [v], rfl, v, [], rfl, rfl, s1 _ G1 _ g1 t3⟩
    | [], _, _, s1 => exact s1.elim
    | [_], _, _, s1 => exact s1.elim
    | _ :: _ :: _ :: _, _, _, s1 => exact s1.elim) fun e ρ' k => exW_of k⟩
theorem vs_parT3 (i j l : Nat) {x y z : Str} {a b c : Expr} {f : EM (List Ce)} {px py pz pt pos : Pos} {kt k2 pt2} (hc : X.calm = true) (hN : X.N.Nodup) (ha : VC X W [a, b, c] f)
    (g1 : PG X (.Name x px) (gName i)) (g2 : PG X (.Name y py) (gName j)) (g3 : PG X (.Name z pz) (gName l))
    (hw : swappedStores [.Tuple [.Name x px, .Name y py, .Name z pz] kt pt] (.Tuple [a, b, c] k2 pt2) X.env = pure none := by rfl)
    (hs : swapsWithSole [.Tuple [.Name x px, .Name y py, .Name z pz] kt pt] (.Tuple [a, b, c] k2 pt2) pos.line X.env = pure false := by rfl)
    (h1 : (assignEach [.Tuple [.Name x px, .Name y py, .Name z pz] kt pt] X.env).map (·.2) = [assign (.Tuple [.Name x px, .Name y py, .Name z pz] kt pt) X.env] := by rfl)
    (hn : (assignEach [.Name x px, .Name y py, .Name z pz] X.env).length = 3 := by rfl) (hst : (assignEach [.Name x px, .Name y py, .Name z pz] X.env).findIdx? (·.1) = none := by rfl)
    (hx1 : (assignEach [.Name x px, .Name y py, .Name z pz] X.env).map (·.2) = assign (.Name x px) X.env :: (assignEach [.Name y py, .Name z pz] X.env).map (·.2) := by rfl)
    (hx2 : (assignEach [.Name y py, .Name z pz] X.env).map (·.2) = assign (.Name y py) X.env :: (assignEach [.Name z pz] X.env).map (·.2) := by rfl)
    (hx3 : (assignEach [.Name z pz] X.env).map (·.2) = assign (.Name z pz) X.env :: (assignEach [] X.env).map (·.2) := by rfl) :
    VS X W (.Assign [.Tuple [.Name x px, .Name y py, .Name z pz] kt pt] (.Tuple [a, b, c] k2 pt2) pos) (fPar3 i j l f) :=
  ps_mono (ps_asg (pe_tup ha) (pg_tup hc (pgs_cons g1 (pgs_cons g2 (pgs_cons g3 pgs_nil hx3) hx2) hx1) hn hst) hs hw h1) fun D σ H ⟨B, ρ, G, t, s⟩ => ⟨B, ρ, G, t, (sat_bind s).imp (fun cs ρ1 s1 vs G1 H1 g1 t1 x1 => by
    match cs, vs, x1, s1 with
    | [c, d, e], [u, v, w], x1, s1 =>
      refine ⟨by show 3 ≤ sizeLine; decide, fun p hp => ?_⟩
      have c := Cn.newM t1.cg.gh hp (.tup [u, v, w])
      obtain ⟨t2, x2⟩ := (t1.step c).store (i := i) (x1.step c)
      obtain ⟨t3, x3⟩ := t2.store (i := j) x2
      obtain ⟨t4, x4⟩ := t3.store (i := l) x3
      exact ⟨p, [u, v, w], rfl, SqT.of upd_same, rfl, u, [v, w], rfl, v, [w], rfl, w, [], rfl, rfl, s1 _ G1 _ g1 t4⟩
    | [], _, _, s1 => exact s1.elim
    | [_], _, _, s1 => exact s1.elim
    | [_, _], _, _, s1 => exact s1.elim
    | _ :: _ :: _ :: _ :: _, _, _, s1 => exact s1.elim) fun e ρ' k => exW_of k⟩
theorem pgn (i : Nat) {x : Str} {pos : Pos} (hN : X.N.Nodup) (hi : X.N[i]? = some x := by rfl) (hx : Loc X.env.scope x := by first | exact Or.inl rfl | exact Or.inr rfl) (hf : X.fn x = true ∨ X.env.scope.names.lookup x = some .local := by first | exact .inl rfl | exact .inr rfl) : PG X (.Name x pos) (gName i) := pg_name hN hi hx hf
/-! ### strip, split -/
def sStrip (a : List Nat) : List Da → Option Da
  | [.str b] => if a.length ≤ 16777216 then some (.str (Txt.stripChars (S a) (S b)).cps.toList) else none
  | _ => none
theorem S_toList (x : Str) : S x.cps.toList = x := by
  show (⟨x.cps.toList.toArray⟩ : Str) = x
  rw [Array.toArray_toList]
theorem chs_strip {a : List Nat} (h : Chs a) (b : Str) : Chs (Txt.stripChars (S a) b).cps.toList := by
  unfold Txt.stripChars Txt.stripBy
  split
  · exact h
  · unfold stripped Builtin.Str.strSub
    refine h.sub fun c hc => ?_
    have h1 := Array.mem_toList_iff.mp hc
    have h2 := Array.mem_toList_iff.mpr h1
    simp only [Array.toList_extract] at h2
    have h3 := List.mem_of_mem_take h2
    exact List.mem_of_mem_drop h3
theorem ms_strip : MtR X "str.strip" (rMs X.K sStrip) := mtR_of mt_stripChars fun x vs H Q ⟨G, l, ds, d, g, ex, hc, sa, e, k⟩ => by
  unfold sStrip at e
  split at e
  · cases sa with
    | cons s1 sr =>
      cases sr
      obtain ⟨rfl, _⟩ := see_str s1
      split at e
      · rename_i hl
        cases e
        refine ⟨_, _, ex, rfl, by rw [S_length, sizeLine_eq]; exact hl, ?_⟩
        have q := k G H (.str (S (Txt.stripChars (S l) (S _)).cps.toList)) (cn_refl g) (.str (chs_strip hc _))
        rw [S_toList] at q
        exact q
      · cases e
  · cases e
theorem spl_sub {S0 : List Nat} : ∀ (l acc : List Nat) (k : Nat) (p : List Nat), p ∈ TL.spl S0 k acc l → ∀ c ∈ p, c ∈ acc ∨ c ∈ l
  | [], acc, k, p, h => by
    rw [TL.spl_nil] at h
    have e : p = acc := by simpa using h
    subst e
    exact fun c hc => .inl hc
  | d :: r, acc, k + 1, p, h => fun c hc => by
    have h' : p ∈ TL.spl S0 k acc r := h
    rcases spl_sub r acc k p h' c hc with z | z
    · exact .inl z
    · exact .inr (List.mem_cons_of_mem _ z)
  | d :: r, acc, 0, p, h => fun c hc => by
    have h' : p ∈ (if TL.pre S0 (d :: r) = true then acc :: TL.spl S0 (S0.length - 1) [] r else TL.spl S0 0 (acc ++ [d]) r) := h
    split at h'
    · rcases List.mem_cons.mp h' with z | z
      · subst z
        exact .inl hc
      · rcases spl_sub r [] _ p z c hc with z | z
        · cases z
        · exact .inr (List.mem_cons_of_mem _ z)
    · rcases spl_sub r _ 0 p h' c hc with z | z
      · rcases List.mem_append.mp z with z | z
        · exact .inl z
        · have e : c = d := by simpa using z
          exact .inr (by rw [e]; exact List.mem_cons_self)
      · exact .inr (List.mem_cons_of_mem _ z)
theorem spl_len {S0 : List Nat} : ∀ (l acc : List Nat) (k : Nat), (TL.spl S0 k acc l).length ≤ l.length + 1
  | [], acc, k => by rw [TL.spl_nil]; simp
  | d :: r, acc, k + 1 => by
    show (TL.spl S0 k acc r).length ≤ _
    have := spl_len (S0 := S0) r acc k
    simp
    omega
  | d :: r, acc, 0 => by
    show (if TL.pre S0 (d :: r) = true then acc :: TL.spl S0 (S0.length - 1) [] r else TL.spl S0 0 (acc ++ [d]) r).length ≤ _
    split
    · have := spl_len (S0 := S0) r [] (S0.length - 1)
      simp
      omega
    · have := spl_len (S0 := S0) r (acc ++ [d]) 0
      simp
      omega
def sSplit (a : List Nat) : List Da → Option (List Da)
  | [.str b] => if b ≠ [] ∧ b.all (· < 256) = true ∧ a.length ≤ 16777000 then some ((TL.spl b 0 [] a).map .str) else none
  | _ => none
theorem rpA_strs {K : PySem.W.Frag} {G : Hp} : ∀ {ls : List (List Nat)}, (∀ l ∈ ls, Chs l) → RpA K G ((ls.map S).map V.str) (ls.map Da.str)
  | [], _ => .nil
  | l :: ls, h => .cons (.str (h l (by simp))) (rpA_strs fun l' hl' => h l' (List.mem_cons_of_mem _ hl'))
theorem ms_split : MtR X "str.split" (rMn X.K sSplit) := mtR_of mt_split fun x vs H Q ⟨G, l, ds, es, g, ex, hc, sa, e, k⟩ => by
  unfold sSplit at e
  split at e
  · rename_i b
    cases sa with
    | cons s1 sr =>
      cases sr
      obtain ⟨rfl, _⟩ := see_str s1
      split at e
      · rename_i hl
        obtain ⟨h1, h2, h3⟩ := hl
        cases e
        subst ex
        have hb : b.length ≠ 0 := fun z => h1 (List.length_eq_zero_iff.mp z)
        have es : (Txt.split (S l) (S b)).map TL.tl = TL.spl b 0 [] l := TL.split_spl (S l) (S b) h1 (TL.kind_ok (by simpa using h2))
        have ev : (Txt.split (S l) (S b)).map V.str = ((TL.spl b 0 [] l).map S).map V.str := by
          rw [← es, List.map_map, List.map_map]
          refine List.map_congr_left fun z _ => ?_
          show V.str z = V.str (S z.cps.toList)
          rw [S_toList]
        refine ⟨_, _, rfl, rfl, by rw [S_length]; simpa using hb, by rw [S_length, sizeLine_eq]; omega, fun p hp => ?_⟩
        rw [ev]
        refine k p _ hp (rpA_strs fun p hp => fun c hc' => ?_) ?_
        · rcases spl_sub l [] 0 p hp c hc' with z | z
          · cases z
          · exact hc c z
        · rw [List.length_map, List.length_map, sizeLine_eq]
          have := spl_len (S0 := b) l [] 0
          omega
      · cases e
  · cases e
end
end Vl
/-! the value layer: objects that change -/
namespace Vl
variable [LamT]
open PySem PySem.Spec PyProof.Rows L2

section
variable {K : PySem.W.Frag} {B : Bs} {ρ : Env} {σ : L2.St} {G H G' H' : Hp}
/-- an object was handed to a def that changed it -/
theorem Stt.io (t : Stt K B ρ σ G H) {i : Nat} {a : Option Nat} {c : Str} {gs gs' : List (Str × Da)} {p dx : Addr} {fs' : List (Str × V)} (ei : ρ[i]? = some (some (.obj a c gs))) (es : σ[i]? = some (some (.ref p)))
    (c1 : Cg (fun b => b = p) G H G' H') (hp : H' p = some (.ins (He.ga K c) dx fs')) (rf : RpF K G' fs' gs') : Stt K B (ρ.set i (some (.obj a c gs'))) σ G' H' := by
  obtain ⟨v, es', l, dx0, fs0, e0, w, _, ea⟩ := t.sl i _ ei
  rw [es] at es'
  cases es'
  cases e0
  have gfree : ∀ b, G b = none → H b ≠ none → G' b = none := fun b g h => by
    cases e : G' b with
    | none => rfl
    | some u =>
      rcases c1.fr b u e with z | z
      · rw [g] at z; cases z
      · exact absurd z h
  refine ⟨⟨t.cg.gg.trans c1.gg, c1.gh, fun b u nm q nt => ?_, fun b u q => ?_, fun b m => ⟨?_, (t.cg.mg b m).2⟩, fun b u q => ?_, fun q => c1.tb (t.cg.tb q)⟩, c1.tb t.tg, fun b u q => ?_, fun j d l e od es' => ?_, by rw [List.length_set]; exact t.len, fun j d h0 => ?_, fun x y c1' d1 u hab ea' eb oa ob sa sb => ?_⟩
  · have nb : b ≠ p := fun z => by
      subst z
      rcases w.2.1 with z | z
      · rw [z] at q; cases q
      · exact nm z
    exact c1.hh b u nb (t.cg.hh b u nm q nt) nt
  · rcases c1.fr b u q with z | z
    · exact t.cg.fr b u z
    · exact .inr (t.cg.gone z)
  · refine gfree b (t.cg.mg b m).1 fun z => ?_
    obtain ⟨o, ho⟩ := t.cg.mh b m
    rw [z] at ho; cases ho
  · obtain ⟨o, ho⟩ := t.cg.nn b u q
    exact c1.nn b o ho
  · obtain ⟨⟨h1, nt⟩, h2⟩ := t.pf b u q
    have nb : b ≠ p := fun z => by
      subst z
      rw [t.sf i _ b ei rfl es] at q
      cases q
    exact ⟨⟨c1.hh b u nb h1 nt, nt⟩, gfree b h2 (by rw [h1]; exact fun z => nomatch z)⟩
  · rcases set_get e with ⟨rfl, e2⟩ | ⟨ne, e2⟩
    · cases e2
      rw [es] at es'
      cases es'
      exact t.sf _ _ p ei rfl es
    · exact t.sf j d l e2 od es'
  · rcases set_get h0 with ⟨rfl, e⟩ | ⟨ne, e⟩
    · cases e
      exact ⟨_, es, p, dx, fs', rfl, ⟨(c1.mg p rfl).1, w.2.1, hp⟩, rf, ea⟩
    · obtain ⟨u, e1, e2⟩ := t.sl j d e
      refine ⟨u, e1, ?_⟩
      have nu : isOwn d = true → u ≠ V.ref p := fun od q => t.sep i j _ d (.ref p) ne ei e rfl od es (q ▸ e1)
      have own : ∀ {M : Addr → Option Nat} {l' : Addr} {o : HO}, l' ≠ p → Own M B.H0 G H l' o → (wo : WO o := by trivial) → Own M B.H0 G' H' l' o := fun nl w' wo => ⟨gfree _ w'.1 (by rw [w'.2.2]; exact fun z => nomatch z), w'.2.1, c1.hh _ _ nl w'.2.2 wo.nt⟩
      cases d with
      | imm d => exact Rp.mono c1.gg e2
      | lst ds =>
        obtain ⟨l', vs, e3, w', r⟩ := e2
        exact ⟨l', vs, e3, own (fun q => nu rfl (by rw [e3, q])) w', r.mono c1.gg⟩
      | dic ds =>
        obtain ⟨l', vs, e3, w', r⟩ := e2
        exact ⟨l', vs, e3, own (fun q => nu rfl (by rw [e3, q])) w', r.mono c1.gg⟩
      | obj a' c' ds =>
        obtain ⟨l', dx', vs, e3, w', r, ea'⟩ := e2
        exact ⟨l', dx', vs, e3, own (fun q => nu rfl (by rw [e3, q])) w', r.mono c1.gg, ea'⟩
      | bls n ds =>
        obtain ⟨l', vs, e3, w', r, en⟩ := e2
        exact ⟨l', vs, e3, own (fun q => nu rfl (by rw [e3, q])) w', r.mono c1.gg, en⟩
  · have old : ∀ {k : Nat} {z : Ce}, (ρ.set i (some (Ce.obj a c gs')))[k]? = some (some z) → isOwn z = true → ∃ z', ρ[k]? = some (some z') ∧ isOwn z' = true := fun {k z} h0 oz => by
      rcases set_get h0 with ⟨rfl, _⟩ | ⟨_, e⟩
      · exact ⟨_, ei, rfl⟩
      · exact ⟨z, e, oz⟩
    obtain ⟨c2, ec, oc2⟩ := old ea' oa
    obtain ⟨d2, ed, od2⟩ := old eb ob
    exact t.sep x y c2 d2 u hab ec ed oc2 od2 sa sb
end
section
variable {X : Cx} {W : WX}
/-! ### fields of such an object -/
def fFldO (c f : Str) (i : Nat) : EM Da := fun ρ => match ρ[i]? with
  | some (some (.obj _ c' gs)) => if c' = c then mO (gs.lookup f) ρ else .stuck
  | _ => .stuck
theorem ve_fldO (i : Nat) {c : Str} {x : Str} {f : Str} {p pos : Pos} (hc : Cls X.K (He.ga X.K c)) (hn : NoAttr X.K (He.ga X.K c) f) (hN : X.N[i]? = some x := by rfl) (hv : Vis X.env.scope x := by first | exact Or.inl rfl | exact Or.inr (Or.inl rfl) | exact Or.inr (Or.inr rfl))
    (hb : attributeBase (.Name x p) f X.env (eval (.Name x p) X.env) = eval (.Name x p) X.env := by rfl) (hd : (x == ("__debug__" : Str)) = false := by decide) (hcd : (x == ("__classdict__" : Str)) = false := by decide) :
    VE X W (.Attribute (.Name x p) f pos) (fFldO c f i) := pe_mono (pe_fld (pe_var hN hv hd hcd) hb) fun σ H Q ⟨B, ρ, G, t, s⟩ => by
  unfold fFldO at s
  split at s
  · rename_i a c' gs e1
    split at s
    · rename_i hcc
      subst hcc
      obtain ⟨d, e2, k⟩ := sat_o s
      obtain ⟨v, es, l, dx, fs, rfl, w, r, _⟩ := t.sl i _ e1
      rcases r.look f with ⟨_, q⟩ | ⟨u, d', q1, q2, q3⟩
      · rw [q] at e2; cases e2
      · rw [q2] at e2
        cases e2
        exact ⟨_, es, l, _, dx, fs, u, rfl, w.2.2, hc, hn, q1, k u G H (Same.refl _) t q3⟩
    · exact s.elim
  · exact s.elim
def putG (f : Str) (d : Da) : List (Str × Da) → List (Str × Da)
  | [] => [(f, d)]
  | (g, x) :: r => if g = f then (g, d) :: r else (g, x) :: putG f d r
theorem RpF.put {K : PySem.W.Frag} {G : Hp} {f : Str} {v : V} {d : Da} (h : Rp K G v d) : ∀ {fs : List (Str × V)} {gs : List (Str × Da)}, RpF K G fs gs → RpF K G (putF f v fs) (putG f d gs)
  | _, _, .nil => .cons h .nil
  | (x, u) :: fs, _, .cons h1 r => by
    unfold putF putG
    split
    · exact .cons h r
    · exact .cons h1 (RpF.put h r)
def fFldSet (c f : Str) (i : Nat) (fe : EM Da) : EM Fl := mB fe fun d => fun ρ => match ρ[i]? with
  | some (some (.obj a c' gs)) => if c' = c ∧ gs.length < 1000 then .ok .nx (ρ.set i (some (.obj a c (putG f d gs)))) else .stuck
  | _ => .stuck
theorem vs_fldO (i : Nat) {c : Str} {x : Str} {f : Str} {p pos pos' : Pos} {e : Expr} {fe : EM Da} (hc : Cls X.K (He.ga X.K c)) (hn : NoAttr X.K (He.ga X.K c) f) (h : VE X W e fe) (hN : X.N[i]? = some x := by rfl) (hv : Vis X.env.scope x := by first | exact Or.inl rfl | exact Or.inr (Or.inl rfl) | exact Or.inr (Or.inr rfl))
    (hs : swapsWith e (some (.Attribute (.Name x p) f pos')) pos.line X.env = pure false := by rfl) (hd : (x == ("__debug__" : Str)) = false := by decide) (hcd : (x == ("__classdict__" : Str)) = false := by decide) :
    VS X W (.Assign [.Attribute (.Name x p) f pos'] e pos) (fFldSet c f i fe) := ps_mono (ps_fld (pe_var hN hv hd hcd) h hs) fun D σ H ⟨B, ρ, G, t, s⟩ => ⟨B, ρ, G, t, (sat_bind s).imp (fun d ρ1 s1 y G1 H1 g1 t1 r1 => by
    split at s1
    · rename_i a c' gs e1
      split at s1
      · rename_i hcc
        obtain ⟨rfl, hl⟩ := hcc
        obtain ⟨v, es, l, dx, fs, rfl, w, r, ea⟩ := t1.sl i _ e1
        refine ⟨_, es, l, _, dx, fs, rfl, w.2.2, hc, hn, by rw [r.length]; exact hl, ?_⟩
        exact s1 σ G1 _ g1 (t1.write (c' := .obj a c' (putG f d gs)) e1 rfl es w ⟨l, dx, _, rfl, ⟨w.1, w.2.1, upd_same⟩, r.put r1, ea⟩)
      · exact s1.elim
    · exact s1.elim) fun e ρ' k => exW_of k⟩
def fFldAug (c f : Str) (i : Nat) (fe : EM Da) : EM Fl := fun ρ => match ρ[i]? with
  | some (some (.obj _ c0 gs0)) => if c0 = c then (match gs0.lookup f with
    | some (.int n) => mB fe (fun d => fun ρ1 => match d, ρ1[i]? with
      | .int m, some (some (.obj a c' gs)) => if c' = c ∧ gs.length < 1000 then .ok .nx (ρ1.set i (some (.obj a c (putG f (.int (n + m)) gs)))) else .stuck
      | _, _ => .stuck) ρ
    | _ => .stuck) else .stuck
  | _ => .stuck
theorem vs_fldaugO (i : Nat) {c : Str} {x : Str} {f : Str} {p pos tpos : Pos} {e : Expr} {fe : EM Da} (hc : Cls X.K (He.ga X.K c)) (hn : NoAttr X.K (He.ga X.K c) f) (h : VE X W e fe) (hN : X.N[i]? = some x := by rfl) (hv : Vis X.env.scope x := by first | exact Or.inl rfl | exact Or.inr (Or.inl rfl) | exact Or.inr (Or.inr rfl))
    (hd : (x == ("__debug__" : Str)) = false := by decide) (hcd : (x == ("__classdict__" : Str)) = false := by decide) :
    VS X W (.AugAssign (.Attribute (.Name x p) f tpos) .Add e pos) (fFldAug c f i fe) := ps_mono (ps_fldaug (pe_var hN hv hd hcd) h in_add) fun D σ H ⟨B, ρ, G, t, s⟩ => by
  unfold fFldAug at s
  split at s
  · rename_i a0 c0 gs0 e0
    split at s
    · rename_i hc0
      subst hc0
      split at s
      · rename_i n en
        obtain ⟨v0, es0, l0, dx0, fs0, rfl, w0, r0, _⟩ := t.sl i _ e0
        rcases r0.look f with ⟨_, q⟩ | ⟨u, d', q1, q2, q3⟩
        · rw [q] at en; cases en
        · rw [q2] at en
          cases en
          cases q3
          refine ⟨_, es0, l0, _, dx0, fs0, _, rfl, w0.2.2, hc, hn, q1, B, ρ, G, t, (sat_bind s).imp (fun d ρ1 s1 y G1 H1 g1 t1 r1 => ?_) fun e ρ' k => exW_of k⟩
          split at s1
          · rename_i d1 d2 m a c' gs e1
            split at s1
            · rename_i hcc
              obtain ⟨rfl, hl⟩ := hcc
              cases r1
              obtain ⟨v, es, l, dx, fs, rfl, w, r, ea⟩ := t1.sl i _ e1
              rw [es0] at es
              cases es
              refine ⟨_, _, rfl, rfl, dx, fs, w.2.2, by rw [r.length]; exact hl, ?_⟩
              exact s1 σ G1 _ g1 (t1.write (c' := .obj a c' (putG f (.int (n + m)) gs)) e1 rfl es0 w ⟨l0, dx, _, rfl, ⟨w.1, w.2.1, upd_same⟩, r.put (.int _), ea⟩)
            · exact s1.elim
          · exact s1.elim
      · exact s.elim
    · exact s.elim
  · exact s.elim

/-! ### defs that change the object they are handed first -/
def spIO (K : PySem.W.Frag) (c : Str) (F : List (Str × Da) → List Da → Option (Da × List (Str × Da))) : Sp := fun vs H Q _ => ∃ G p dx fs us gs ds, vs = .ref p :: us ∧ Gd G H ∧ G p = none ∧ H p = some (.ins (He.ga K c) dx fs) ∧ RpF K G fs gs ∧ RpA K G us ds ∧ ∃ d gs', F gs ds = some (d, gs') ∧
  ∀ G' H' v dx' fs', Cg (fun b => b = p) G H G' H' → H' p = some (.ins (He.ga K c) dx' fs') → RpF K G' fs' gs' → Rp K G' v d → Q v H'
structure FoIO (P : Program) (w : World) (K : PySem.W.Frag) (mg : Str → Option Value) (base : Heap) (k : Nat) (f : Addr) (ps : List Str) (c : Str) (F : List (Str × Da) → List Da → Option (Da × List (Str × Da))) : Prop where
  ok : ∃ fd : FuncData, FnOk P w K mg base CX0 k f fd ps (spIO K c F) ∧ Binds K fd ps []
  kp : PySem.W.keepIn K (.ref f) = true
def fIO (c : Str) (F : List (Str × Da) → List Da → Option (Da × List (Str × Da))) (i : Nat) (fa : EM (List Da)) : EM Da := fun ρ => match ρ[i]? with
  | some (some (.obj _ _ _)) => mB fa (fun ds => fun ρ1 => match ρ1[i]? with
    | some (some (.obj a c1 gs)) => if c1 = c then (match F gs ds with
      | some (d, gs') => .ok d (ρ1.set i (some (.obj a c gs')))
      | none => .stuck) else .stuck
    | _ => .stuck) ρ
  | _ => .stuck
theorem sp_io {K : PySem.W.Frag} {c : Str} {F : List (Str × Da) → List Da → Option (Da × List (Str × Da))} {B : Bs} {G G1 H1 : Hp} {ρ1 : Env} {σ : L2.St} {i : Nat} {v : V} {us : List V} {ds : List Da} {Q : VK} {E : XK} (g1 : Same G G1) (t1 : Stt K B ρ1 σ G1 H1) (es : σ[i]? = some (some v)) (r : RpA K G1 us ds)
    (s : Sat (match ρ1[i]? with
    | some (some (.obj a c1 gs)) => if c1 = c then (match F gs ds with
      | some (d, gs') => Out.ok d (ρ1.set i (some (.obj a c gs')))
      | none => .stuck) else .stuck
    | _ => .stuck) (fun d ρ' => ∀ v G' H', Same G G' → Stt K B ρ' σ G' H' → Rp K G' v d → Q v H') (exW K W B σ)) : spIO K c F (v :: us) H1 Q E := by
  split at s
  · rename_i a c1 gs e1
    split at s
    · rename_i hcc
      subst hcc
      obtain ⟨v', es', l, dx, fs, rfl, w, rf, ea⟩ := t1.sl i _ e1
      rw [es] at es'
      cases es'
      cases e : F gs ds with
      | none => simp only [e] at s; exact s.elim
      | some q =>
        obtain ⟨d, gs'⟩ := q
        simp only [e] at s
        exact ⟨G1, l, dx, fs, us, gs, ds, rfl, t1.gd, w.1, w.2.2, rf, r, d, gs', e, fun G' H' v dx' fs' c1 hp rf' rv => s v G' H' (g1.trans c1.gg) (t1.io e1 es c1 hp rf') rv⟩
    · exact s.elim
  · exact s.elim
theorem ve_callIO (i : Nat) {k : Nat} {x y : Str} {f : Addr} {p py pos : Pos} {es : List Expr} {ps : List Str} {c : Str} {F : List (Str × Da) → List Da → Option (Da × List (Str × Da))} {fa : EM (List Da)} (h : FoIO X.prog X.w X.K X.mg X.base k f ps c F) (hm : X.mg x = some (.ref f)) (hr : Room k X.A) (ha : VA X W es fa)
    (hN : X.N[i]? = some y := by rfl) (hv : Vis X.env.scope y := by first | exact Or.inl rfl | exact Or.inr (Or.inl rfl) | exact Or.inr (Or.inr rfl)) (hdy : (y == ("__debug__" : Str)) = false := by decide) (hcd : (y == ("__classdict__" : Str)) = false := by decide)
    (hg : Gl X x := by rfl) (hdb : (x == ("__debug__" : Str)) = false := by decide) (he : starEach (.Name y py :: es) X.env = (false, eval (.Name y py) X.env) :: starEach es X.env := by rfl) (hpl : (backTo pos (starEach es X.env)).any (·.1) = false := by rfl) :
    VE X W (.Call (.Name x p) (.Name y py :: es) [] pos) (fIO c F i fa) := by
  obtain ⟨fd, F0, hb⟩ := h.ok
  refine pe_mono (pe_call F0 hr hg hm h.kp hb .nil pass0 (pa_cons (pe_var hN hv hdy hcd) ha he) hdb he hpl) fun σ H Q ⟨B, ρ, G, t, s⟩ => ?_
  unfold fIO at s
  split at s
  · rename_i a c0 gs0 e0
    obtain ⟨v, es0, _⟩ := t.sl i _ e0
    exact ⟨v, es0, B, ρ, G, t, (sat_bind s).imp (fun ds ρ1 s1 us G1 H1 g1 t1 r1 => by
      show spIO _ _ _ ((v :: us) ++ []) _ _ _
      rw [List.append_nil]
      exact sp_io g1 t1 es0 r1 s1) fun e ρ' k => k⟩
  · exact s.elim
def fMIO (c m : Str) (F : List (Str × Da) → List Da → Option (Da × List (Str × Da))) (i : Nat) (fa : EM (List Da)) : EM Da := fun ρ => match ρ[i]? with
  | some (some (.obj _ c' gs)) => if c' = c ∧ gs.lookup m = none then fIO c F i fa ρ else .stuck
  | _ => .stuck
theorem ve_methIO (i : Nat) {pl : Sem Bool} {k : Nat} {c m : Str} {f : Addr} {x : Str} {p apos pos : Pos} {e : Expr} {es : List Expr} {ps : List Str} {F : List (Str × Da) → List Da → Option (Da × List (Str × Da))} {fa : EM (List Da)} (hc : Cls X.K (He.ga X.K c)) (hm : Meth X.K (He.ga X.K c) m f)
    (h : FoIO X.prog X.w X.K X.mg X.base k f ps c F) (hr : Room k X.A) (ha : VA X W (e :: es) fa)
    (hN : X.N[i]? = some x := by rfl) (hv : Vis X.env.scope x := by first | exact Or.inl rfl | exact Or.inr (Or.inl rfl) | exact Or.inr (Or.inr rfl)) (hd : (x == ("__debug__" : Str)) = false := by decide) (hcd : (x == ("__classdict__" : Str)) = false := by decide)
    (hst : starEach (e :: es) X.env = (false, eval e X.env) :: starEach es X.env := by rfl) (hpl : (backTo pos (starEach es X.env)).any (·.1) = false := by rfl)
    (hev : eval (.Call (.Attribute (.Name x p) m apos) (e :: es) [] pos) X.env = (do
      let ov ← eval (.Name x p) X.env
      standAt apos.atName
      let (f, first) ← holding [ov] (getMethod ov m pl)
      callWith pos f first (backTo pos (starEach (e :: es) X.env)) (backToKw pos (keywordEach [] X.env))) := by rfl) :
    VE X W (.Call (.Attribute (.Name x p) m apos) (e :: es) [] pos) (fMIO c m F i fa) := by
  obtain ⟨fd, F0, hb⟩ := h.ok
  refine pe_mono (pe_meth (pl := pl) (pe_var hN hv hd hcd) hc hm F0 hr hb .nil pass0 ha hst hpl hev) fun σ H Q ⟨B, ρ, G, t, s⟩ => ?_
  unfold fMIO at s
  split at s
  · rename_i a c0 gs0 e0
    split at s
    · rename_i hcc
      obtain ⟨rfl, hl⟩ := hcc
      unfold fIO at s
      simp only [e0] at s
      obtain ⟨v, es0, l, dx, fs, rfl, w, r, _⟩ := t.sl i _ e0
      refine ⟨_, es0, l, dx, fs, rfl, w.2.2, ?_, B, ρ, G, t, (sat_bind s).imp (fun ds ρ1 s1 us G1 H1 g1 t1 r1 => by
        show spIO _ _ _ (V.ref l :: (us ++ [])) _ _ _
        rw [List.append_nil]
        exact sp_io g1 t1 es0 r1 s1) fun e ρ' k => k⟩
      rcases r.look m with ⟨q, _⟩ | ⟨u, d, q1, q2, q3⟩
      · exact q
      · rw [hl] at q2; cases q2
    · exact s.elim
  · exact s.elim
theorem ve_methIO0 (i : Nat) {pl : Sem Bool} {k : Nat} {c m : Str} {f : Addr} {x : Str} {p apos pos : Pos} {ps : List Str} {F : List (Str × Da) → List Da → Option (Da × List (Str × Da))} (hc : Cls X.K (He.ga X.K c)) (hm : Meth X.K (He.ga X.K c) m f)
    (h : FoIO X.prog X.w X.K X.mg X.base k f ps c F) (hr : Room k X.A)
    (hN : X.N[i]? = some x := by rfl) (hv : Vis X.env.scope x := by first | exact Or.inl rfl | exact Or.inr (Or.inl rfl) | exact Or.inr (Or.inr rfl)) (hd : (x == ("__debug__" : Str)) = false := by decide) (hcd : (x == ("__classdict__" : Str)) = false := by decide)
    (hev : eval (.Call (.Attribute (.Name x p) m apos) [] [] pos) X.env = (do
      let ov ← eval (.Name x p) X.env
      standAt apos.atName
      let (f, first) ← holding [ov] (getMethod ov m pl)
      callWith pos f first (backTo pos (starEach [] X.env)) (backToKw pos (keywordEach [] X.env))) := by rfl) :
    VE X W (.Call (.Attribute (.Name x p) m apos) [] [] pos) (fMIO c m F i (mP [])) := by
  obtain ⟨fd, F0, hb⟩ := h.ok
  refine pe_mono (pe_meth0 (pl := pl) (pe_var hN hv hd hcd) hc hm F0 hr hb .nil pass0 hev) fun σ H Q ⟨B, ρ, G, t, s⟩ => ?_
  unfold fMIO at s
  split at s
  · rename_i a c0 gs0 e0
    split at s
    · rename_i hcc
      obtain ⟨rfl, hl⟩ := hcc
      unfold fIO at s
      simp only [e0] at s
      obtain ⟨v, es0, l, dx, fs, rfl, w, r, _⟩ := t.sl i _ e0
      refine ⟨_, es0, l, dx, fs, rfl, w.2.2, ?_, ?_⟩
      · rcases r.look m with ⟨q, _⟩ | ⟨u, d, q1, q2, q3⟩
        · exact q
        · rw [hl] at q2; cases q2
      · exact sp_io (us := []) (E := E0) (Same.refl _) t es0 .nil s
    · exact s.elim
  · exact s.elim
/-! ### a new object of its own -/
def fMakeO (i : Nat) (c : Str) (F : List Da → Option (List (Str × Da))) (fa : EM (List Da)) : EM Fl := mB fa fun ds => fun ρ => match F ds with
  | some gs => .ok .nx (ρ.set i (some (.obj none c gs)))
  | none => .stuck
theorem vs_make (i : Nat) {k : Nat} {x y : Str} {p pos pos' cpos : Pos} {e : Expr} {es : List Expr} {ps : List Str} {F : List Da → Option (List (Str × Da))} {fa : EM (List Da)} (hN : X.N.Nodup) (h : FoI X.prog X.w X.K X.mg X.base k x ps F) (hm : X.mg x = some (.ref (He.ga X.K x))) (hr : Room (k + 1) X.A) (ha : VA X W (e :: es) fa)
    (hi : X.N[i]? = some y := by rfl) (hx : Loc X.env.scope y := by first | exact Or.inl rfl | exact Or.inr rfl) (hf : X.fn y = true ∨ X.env.scope.names.lookup y = some .local := by first | exact .inl rfl | exact .inr rfl)
    (hs : swapsWith (.Call (.Name x p) (e :: es) [] cpos) (some (.Name y pos')) pos.line X.env = pure false := by rfl)
    (hg : Gl X x := by rfl) (hdb : (x == ("__debug__" : Str)) = false := by decide) (he : starEach (e :: es) X.env = (false, eval e X.env) :: starEach es X.env := by rfl) (hpl : (backTo cpos (starEach es X.env)).any (·.1) = false := by rfl) :
    VS X W (.Assign [.Name y pos'] (.Call (.Name x p) (e :: es) [] cpos) pos) (fMakeO i x F fa) := by
  obtain ⟨fd, F0, hb⟩ := h.ok
  refine ps_mono (ps_set hN hi hx (pe_make h.mkr F0 hr hg hm hb .nil pass0 ha hdb he hpl) hs hf) fun D σ H ⟨B, ρ, G, t, s⟩ => ?_
  refine ⟨B, ρ, G, t, (sat_bind s).imp (fun ds ρ1 s1 vs G1 H1 g1 t1 r1 => ?_) fun e ρ' k => exW_of k⟩
  cases e2 : F ds with
  | none => simp only [e2] at s1; exact s1.elim
  | some gs =>
    simp only [e2] at s1
    intro z dx hz hdx nex
    have gn : G1 z = none := gnone t1.cg.gh hz
    refine ⟨G1, z, dx, vs, ds, by rw [List.append_nil], ⟨t1.cg.gh.trans (same_make hz hdx), t1.tg.ext (same_make hz hdx)⟩, gn, upd_same, r1, gs, e2, fun G' H' dx' fs c hp rf => ⟨rfl, ?_⟩⟩
    -- the object alone, as it were just made
    have gn' : G' z = none := (c.mg z rfl).1
    have sH : ∀ b u, H1 b = some u → NT u → H' b = some u := fun b u q nt => by
      have nb : b ≠ z := ne_of_none q hz
      exact c.hh b u (fun w => nb w) (same_make hz hdx b u q) nt
    have cn : Cn G1 H1 G' H' := ⟨c.gg, c.gh, fun b u _ q nt => sH b u q nt, fun b u q => by
      rcases c.fr b u q with w | w
      · exact .inl w
      · by_cases nb : b = z
        · subst nb
          exact .inr hz
        · rw [upd_ne nb] at w
          by_cases nd : b = dx
          · subst nd
            exact .inr hdx
          · rw [upd_ne nd] at w
            exact .inr w, fun _ w => w.elim, fun b u q => c.nn b u (same_make hz hdx b u q), fun q => c.tb (q.ext (same_make hz hdx))⟩
    have t2 := t1.step cn
    refine s1 _ G' H' (g1.trans cn.gg) (t2.set (c := .obj none x gs) ⟨z, dx', fs, rfl, ⟨gn', .inl (fresh0 t1 hz), hp⟩, rf, fun n q => nomatch q⟩ (fun _ j d u _ e od es q => ?_) fun _ l el => ?_)
    · obtain ⟨u', e3, e4⟩ := t1.sl j d e
      rw [es] at e3
      cases e3
      obtain ⟨l, o', e5, w⟩ := e4.own od
      rw [e5] at q
      cases q
      rw [w.2.2] at hz
      cases hz
    · cases el
      cases q : B.F z with
      | none => rfl
      | some u =>
        rw [(t1.pf z u q).1.1] at hz
        cases hz
end

/-! ### bodies of such defs -/
def tagOf (p : Addr) : Addr → Option Nat := fun a => if a = p then some 0 else none
theorem tag_ne {p b : Addr} (h : tagOf p b ≠ none) : b = p := by
  unfold tagOf at h
  split at h
  · assumption
  · exact absurd rfl h
theorem tag_at {p : Addr} : tagOf p p = some 0 := if_pos rfl
theorem tag_nn {p : Addr} : tagOf p p ≠ none := by rw [tag_at]; exact fun z => nomatch z
theorem tag_cg {p : Addr} {G H G' H' : Hp} (c : Cg (fun a => tagOf p a ≠ none) G H G' H') : Cg (fun b => b = p) G H G' H' :=
  ⟨c.gg, c.gh, fun b o nb h nt => c.hh b o (fun m => nb (tag_ne m)) h nt, c.fr, fun b e => c.mg b (by subst e; exact tag_nn), c.nn, c.tb⟩
def envIO (m : Nat) (c : Str) (gs : List (Str × Da)) (ds : List Da) : Env := some (Ce.obj (some 0) c gs) :: envOf (m - 1) ds
def resIO (c : Str) : Out Fl → Option (Da × List (Str × Da))
  | .ok (.rt d) ρ => (match ρ[(0 : Nat)]? with
    | some (some (Ce.obj (some 0) c' gs)) => if c' = c then some (d, gs) else none
    | _ => none)
  | .ok .nx ρ => (match ρ[(0 : Nat)]? with
    | some (some (Ce.obj (some 0) c' gs)) => if c' = c then some (.non, gs) else none
    | _ => none)
  | _ => none
def ioRun (n m : Nat) (c : Str) (b : EM Fl) (gs : List (Str × Da)) (ds : List Da) : Option (Da × List (Str × Da)) := if ds.length + 1 = n then resIO c (b (envIO m c gs ds)) else none
section
variable {P : Program} {w : World} {K : PySem.W.Frag} {mg : Str → Option Value} {base : Heap}
theorem stt_startIO {m : Nat} {us : List V} {ds : List Da} {G H : Hp} {p dx : Addr} {c : Str} {fs : List (Str × V)} {gs : List (Str × Da)} (g : Gd G H) (gp : G p = none) (hp : H p = some (.ins (He.ga K c) dx fs)) (rf : RpF K G fs gs) (r : RpA K G us ds) (σ : L2.St)
    (hl : σ.length = (envIO m c gs ds).length) (h0 : σ[0]? = some (some (.ref p))) (hs : ∀ (i : Nat) (v : V), us[i]? = some v → σ[i + 1]? = some (some v)) : Stt K ⟨tagOf p, G, H, fun _ => none⟩ (envIO m c gs ds) σ G H := by
  have key : ∀ {k : Nat} {z : Ce}, (envIO m c gs ds)[k]? = some (some z) → (k = 0 ∧ z = .obj (some 0) c gs) ∨ ∃ j d, k = j + 1 ∧ ds[j]? = some d ∧ z = .imm d := fun {k z} e => by
    cases k with
    | zero =>
      have e' : (some (Ce.obj (some 0) c gs) : Option Ce) = some z := by simpa [envIO] using e
      exact .inl ⟨rfl, (Option.some.inj e').symm⟩
    | succ j =>
      have e' : (envOf (m - 1) ds)[j]? = some (some z) := by simpa [envIO] using e
      unfold envOf at e'
      by_cases hi : j < ds.length
      · rw [List.getElem?_append_left (by rw [List.length_map]; exact hi), List.getElem?_map] at e'
        cases q : ds[j]? with
        | none => rw [q] at e'; cases e'
        | some d =>
          rw [q] at e'
          have e2 : Ce.imm d = z := by simpa using e'
          exact .inr ⟨j, d, rfl, q, e2.symm⟩
      · rw [List.getElem?_append_right (by rw [List.length_map]; omega), List.getElem?_replicate] at e'
        split at e' <;> cases e'
  refine ⟨⟨Same.refl _, g.s, fun _ _ _ h _ => h, fun _ _ h => .inl h, fun b m' => ?_, fun _ o h => ⟨o, h⟩, id⟩, g.t, fun b o h => (nomatch h), fun _ _ _ _ _ _ => rfl, hl, fun i z e => ?_, fun i j z z' v hij ei ej oc od si sj => ?_⟩
  · rw [tag_ne m']
    exact ⟨gp, _, hp⟩
  · rcases key e with ⟨rfl, rfl⟩ | ⟨j, d, rfl, q, rfl⟩
    · exact ⟨_, h0, p, dx, fs, rfl, ⟨gp, .inr tag_nn, hp⟩, rf, fun n q => by cases q; exact tag_at⟩
    · obtain ⟨v, h1, h2⟩ := r.get' q
      exact ⟨v, hs j v h1, h2⟩
  · rcases key ei with ⟨rfl, rfl⟩ | ⟨j', d, rfl, q, rfl⟩
    · rcases key ej with ⟨rfl, rfl⟩ | ⟨j', d, rfl, q, rfl⟩
      · exact hij rfl
      · cases od
    · cases oc
theorem start_cons {N : List Str} {v : V} {us : List V} : L2.start N (v :: us) = some v :: (us.map some ++ List.replicate (N.length - (us.length + 1)) none) := by
  unfold L2.start
  rw [List.map_cons, List.length_cons] <;> rfl
theorem resIO_rt {c : Str} {d d' : Da} {ρ : Env} {gs : List (Str × Da)} (h : resIO c (.ok (.rt d) ρ) = some (d', gs)) : d' = d ∧ ρ[0]? = some (some (.obj (some 0) c gs)) := by
  unfold resIO at h
  simp only at h
  split at h
  · rename_i c' gs' e
    split at h
    · rename_i hc
      subst hc
      cases h
      exact ⟨rfl, e⟩
    · cases h
  · cases h
theorem resIO_nx {c : Str} {d' : Da} {ρ : Env} {gs : List (Str × Da)} (h : resIO c (.ok .nx ρ) = some (d', gs)) : d' = .non ∧ ρ[0]? = some (some (.obj (some 0) c gs)) := by
  unfold resIO at h
  simp only at h
  split at h
  · rename_i c' gs' e
    split at h
    · rename_i hc
      subst hc
      cases h
      exact ⟨rfl, e⟩
    · cases h
  · cases h
theorem io_end {p : Addr} {c : Str} {gs : List (Str × Da)} {G H G' H' : Hp} {ρ : Env} {σ : L2.St} (t : Stt K ⟨tagOf p, G, H, fun _ => none⟩ ρ σ G' H') (e : ρ[0]? = some (some (.obj (some 0) c gs))) : ∃ dx fs, H' p = some (.ins (He.ga K c) dx fs) ∧ RpF K G' fs gs := by
  obtain ⟨v, _, l, dx, fs, _, w, r, ea⟩ := t.sl 0 _ e
  have q : tagOf p l = some 0 := ea 0 rfl
  have el : l = p := tag_ne (by rw [q]; exact fun z => nomatch z)
  subst el
  exact ⟨dx, fs, w.2.2, r⟩
theorem io_of {x qual : Str} {st : Stmt} {f : Addr} {fd : FuncData} {dvs : List V} {kws : List (Str × V)} {N ps : List Str} {k : Nat} {c : Str} {fb : EM Fl} (F : FunD K x qual (defArgs st) (defBody st) (defScope st) dvs kws f fd) (Sc : FnScope N ps (defScope st)) (hb : L2.Binds K fd ps []) (hN : 0 < N.length)
    (D : Dv P w K mg base N qual st f k fb) : FoIO P w K mg base (k + 1) f ps c (ioRun ps.length N.length c fb) := by
  refine ⟨⟨fd, F.ok Sc (fun vs H Q E h => ?_) (fun cdv A outer s H vs Q E hr h => ?_), hb⟩, F.kp⟩
  · obtain ⟨G, p, dx, fs, us, gs, ds, rfl, g, gp, hp, rf, r, d, gs', e, _⟩ := h
    unfold ioRun at e
    split at e
    · rename_i hl
      rw [List.length_cons, r.length]
      exact hl
    · cases e
  · obtain ⟨G, p, dx, fs, us, gs, ds, rfl, g, gp, hp, rf, r, d, gs', e, hQ⟩ := h
    have r' := r.length
    refine ⟨_, PSs.nox (D cdv A outer s H E hr), ⟨tagOf p, G, H, fun _ => none⟩, envIO N.length c gs ds, G, stt_startIO g gp hp rf r _ ?_ ?_ (fun i v hv => ?_), ?_⟩
    · rw [start_cons]
      unfold envIO envOf
      simp only [List.length_cons, List.length_append, List.length_map, List.length_replicate, r']
      omega
    · rw [start_cons] <;> rfl
    · rw [start_cons, List.getElem?_cons_succ, List.getElem?_append_left (by rw [List.length_map]; exact lt_of_get hv), List.getElem?_map, hv] <;> rfl
    · unfold ioRun at e
      split at e
      · cases e2 : fb (envIO N.length c gs ds) with
        | stuck => rw [e2] at e; cases e
        | exn x ρ => rw [e2] at e; cases e
        | ok fl ρ =>
          rw [e2] at e
          cases fl with
          | nx =>
            obtain ⟨rfl, e3⟩ := resIO_nx e
            exact fun σ G' H' g' t => by
              obtain ⟨dx', fs', h1, h2⟩ := io_end t e3
              exact hQ G' H' .non dx' fs' (tag_cg t.cg) h1 h2 .non
          | rt d2 =>
            obtain ⟨rfl, e3⟩ := resIO_rt e
            exact fun v σ G' H' g' t rv => by
              obtain ⟨dx', fs', h1, h2⟩ := io_end t e3
              exact hQ G' H' v dx' fs' (tag_cg t.cg) h1 h2 rv
          | bk => cases e
          | ct => cases e
          | rn ds => cases e
      · cases e
/-- __init__ -/
def inRun (n m : Nat) (c : Str) (b : EM Fl) (ds : List Da) : Option (List (Str × Da)) := match ioRun n m c b [] ds with
  | some (.non, gs) => some gs
  | _ => none
theorem in_of {qual : Str} {st : Stmt} {fd : FuncData} {dvs : List V} {kws : List (Str × V)} {N ps : List Str} {k : Nat} {c : Str} {fb : EM Fl} (F : FunD K "__init__" qual (defArgs st) (defBody st) (defScope st) dvs kws (He.ma K (He.ga K c) "__init__") fd) (Sc : FnScope N ps (defScope st)) (hb : L2.Binds K fd ps []) (hN : 0 < N.length) (hm : Mk K (He.ga K c) (He.ma K (He.ga K c) "__init__"))
    (D : Dv P w K mg base N qual st (He.ma K (He.ga K c) "__init__") k fb) : FoI P w K mg base (k + 1) c ps (inRun ps.length N.length c fb) := by
  obtain ⟨fd', F0, hb'⟩ := (io_of (c := c) F Sc hb hN D).ok
  refine ⟨⟨fd', F0.imp fun vs H Q E h => ?_, hb'⟩, hm⟩
  obtain ⟨G, p, dx, us, ds, rfl, g, gp, hp, r, gs, e, hQ⟩ := h
  unfold inRun at e
  split at e
  · rename_i gs' e2
    cases e
    exact ⟨G, p, dx, [], us, [], ds, rfl, g, gp, hp, .nil, r, .non, gs, e2, fun G' H' v dx' fs' c1 h1 h2 rv => by
      cases rv
      exact hQ G' H' dx' fs' c1 h1 h2⟩
  · cases e
end
end Vl
/-! the value layer: dicts with int and text keys, try that raises nothing, the law's end -/
namespace Vl
variable [LamT]
open PySem PySem.Spec PyProof.Rows L2

section
variable {X : Cx} {W : WX}
/-! ### dicts of one's own -/
def dKey : Da → Option Key
  | .int i => some (.inl i)
  | .str l => some (.inr ⟨l.toArray⟩)
  | _ => none
theorem dKey_rp {K : PySem.W.Frag} {G : Hp} {v : V} {d : Da} {k : Key} (h : Rp K G v d) (e : dKey d = some k) : v = kV k := by
  cases h <;> simp [dKey] at e <;> subst e <;> rfl
def valD (kvs : List (Key × Da)) (k : Key) : Option Da := (kvs.find? fun kv => decide (kv.1 = k)).map (·.2)
def putD (kvs : List (Key × Da)) (k : Key) (v : Da) : List (Key × Da) :=
  if (kvs.any fun kv => decide (kv.1 = k)) = true then kvs.map (fun kv => if kv.1 = k then (kv.1, v) else kv) else kvs ++ [(k, v)]
section
variable {K : PySem.W.Frag} {G : Hp}
theorem RpK.val : ∀ {ks : List (Key × V)} {kvs : List (Key × Da)} (k : Key), RpK K G ks kvs → (valV ks k = none ∧ valD kvs k = none) ∨ ∃ v d, valV ks k = some v ∧ valD kvs k = some d ∧ Rp K G v d
  | _, _, k, .nil => .inl ⟨rfl, rfl⟩
  | (x, v) :: ks, (_, d) :: kvs, k, .cons h r => by
    by_cases e : x = k
    · exact .inr ⟨v, d, by simp [valV, e], by simp [valD, e], h⟩
    · have := RpK.val k r
      simpa [valV, valD, e] using this
theorem RpK.any : ∀ {ks : List (Key × V)} {kvs : List (Key × Da)} (k : Key), RpK K G ks kvs → (ks.any fun kv => decide (kv.1 = k)) = kvs.any fun kv => decide (kv.1 = k)
  | _, _, k, .nil => rfl
  | (x, v) :: ks, (_, d) :: kvs, k, .cons h r => by simp only [List.any_cons, RpK.any k r]
theorem RpK.map : ∀ {ks : List (Key × V)} {kvs : List (Key × Da)} {k : Key} {v : V} {d : Da}, RpK K G ks kvs → Rp K G v d → RpK K G (ks.map fun kv => if kv.1 = k then (kv.1, v) else kv) (kvs.map fun kv => if kv.1 = k then (kv.1, d) else kv)
  | _, _, k, _, _, .nil, _ => .nil
  | (x, u) :: ks, (_, e) :: kvs, k, v, d, .cons h r, hv => by
    simp only [List.map_cons]
    by_cases ex : x = k
    · simp only [ex, if_true]
      exact .cons hv (r.map hv)
    · simp only [ex, if_false]
      exact .cons h (r.map hv)
theorem RpK.append : ∀ {ks ks' : List (Key × V)} {kvs kvs' : List (Key × Da)}, RpK K G ks kvs → RpK K G ks' kvs' → RpK K G (ks ++ ks') (kvs ++ kvs')
  | _, _, _, _, .nil, s => s
  | _, _, _, _, .cons h r, s => .cons h (r.append s)
theorem RpK.put {ks : List (Key × V)} {kvs : List (Key × Da)} {k : Key} {v : V} {d : Da} (r : RpK K G ks kvs) (h : Rp K G v d) : RpK K G (putK ks k v) (putD kvs k d) := by
  unfold putK putD
  rw [r.any k]
  split
  · exact r.map h
  · exact r.append (.cons h .nil)
theorem RpK.length : ∀ {ks : List (Key × V)} {kvs : List (Key × Da)}, RpK K G ks kvs → ks.length = kvs.length
  | _, _, .nil => rfl
  | _, _, .cons _ r => congrArg Nat.succ r.length
end
/-- {} kept aside, then more -/
def fCd (g : EM (List Ce)) : EM (List Ce) := mB g fun cs => mP (.dic [] :: cs)
theorem vc_d {pos : Pos} {es : List Expr} {fs : EM (List Ce)} (hs : VC X W es fs) (hx : starEach (.Dict [] [] pos :: es) X.env = (false, eval (.Dict [] [] pos) X.env) :: starEach es X.env := by rfl) : VC X W (.Dict [] [] pos :: es) (fCd fs) :=
  pa_mono (pa_cons pe_dnewK hs hx) fun σ H Q ⟨B, ρ, G, t, s⟩ => fun p np => by
    have hF : B.F p = none := by
      cases q : B.F p with
      | none => rfl
      | some u => rw [(t.pf p u q).1.1] at np; cases np
    refine ⟨{ B with F := upd B.F p (.dK []) }, ρ, G, t.aside np _, (sat_bind s).imp (fun cs ρ2 s2 xs G2 H2 g2 t2 r2 => ?_) fun e ρ' k => ?_⟩
    · obtain ⟨x1, x2⟩ := r2.unaside hF
      obtain ⟨a1, a2⟩ := t2.asideAt
      refine s2 (.ref p :: xs) G2 H2 g2 (t2.unaside hF) (.cons ⟨p, [], rfl, ⟨a2, .inl (fresh0 t np), a1⟩, .nil⟩ (fun _ l el => ?_) x1)
      cases el
      refine ⟨hF, fun i d e od z => ?_, x2⟩
      have q := t2.sf i d p e od z
      have q' : upd B.F p (.dK []) p = none := q
      rw [upd_same] at q'
      cases q'
    · intro G' H' cls dx t' ex
      exact k G' H' cls dx (t'.unaside hF) ex
def fAsgD (i : Nat) : EM Fl := fun ρ => .ok .nx (ρ.set i (some (.dic [])))
theorem vs_setD (i : Nat) {x : Str} {pos pos' p : Pos} (hN : X.N.Nodup) (hi : X.N[i]? = some x := by rfl) (hx : Loc X.env.scope x := by first | exact Or.inl rfl | exact Or.inr rfl)
    (hs : swapsWith (.Dict [] [] p) (some (.Name x pos')) pos.line X.env = pure false := by rfl) (hf : X.fn x = true ∨ X.env.scope.names.lookup x = some .local := by first | exact .inl rfl | exact .inr rfl) : VS X W (.Assign [.Name x pos'] (.Dict [] [] p) pos) (fAsgD i) :=
  ps_mono (ps_set hN hi hx pe_dnewK hs hf) fun D σ H ⟨B, ρ, G, t, s⟩ => fun q nq => s _ G _ (Same.refl _) (t.setNew nq ⟨q, [], rfl, ⟨gnone t.cg.gh nq, .inl (fresh0 t nq), upd_same⟩, .nil⟩)
def fInD (neg : Bool) (i : Nat) (fx : EM Da) : EM Da := mB fx fun d => fun ρ => match ρ[i]?, dKey d with
  | some (some (.dic kvs)), some k => .ok (.bl (if neg then !(valD kvs k).isSome else (valD kvs k).isSome)) ρ
  | _, _ => .stuck
theorem dic_get {K : PySem.W.Frag} {B : Bs} {ρ : Env} {σ : L2.St} {G H : Hp} (t : Stt K B ρ σ G H) {i : Nat} {kvs : List (Key × Da)} (e : ρ[i]? = some (some (.dic kvs))) : ∃ l ks, σ[i]? = some (some (.ref l)) ∧ H l = some (.dK ks) ∧ RpK K G ks kvs := by
  obtain ⟨v, es, l, ks, rfl, w, r⟩ := t.sl i _ e
  exact ⟨l, ks, es, w.2.2, r⟩
theorem RpK.some {K : PySem.W.Frag} {G : Hp} {ks : List (Key × V)} {kvs : List (Key × Da)} (r : RpK K G ks kvs) (k : Key) : (valV ks k).isSome = (valD kvs k).isSome := by
  rcases r.val k with ⟨a, b⟩ | ⟨v, d, a, b, _⟩ <;> rw [a, b] <;> rfl
theorem ve_inD (i : Nat) {x : Str} {e : Expr} {p pos : Pos} {fx : EM Da} (hu : X.A.units + 1 < cLine) (h : VE X W e fx) (hN : X.N[i]? = some x := by rfl) (hv : Vis X.env.scope x := by first | exact Or.inl rfl | exact Or.inr (Or.inl rfl) | exact Or.inr (Or.inr rfl))
    (hd : (x == ("__debug__" : Str)) = false := by decide) (hcd : (x == ("__classdict__" : Str)) = false := by decide) : VE X W (.Compare e [.In] [.Name x p] pos) (fInD false i fx) :=
  pe_mono (pe_cmp (pc_din hu h (pe_var hN hv hd hcd))) fun σ H Q ⟨B, ρ, G, t, s⟩ => ⟨B, ρ, G, t, (sat_bind s).imp (fun d ρ1 s1 y G1 H1 g1 t1 r1 => by
    split at s1
    · rename_i kvs k e1 e2
      obtain ⟨l, ks, es, hl, r⟩ := dic_get t1 e1
      refine ⟨_, es, l, valV ks k, rfl, ?_, ?_⟩
      · rw [dKey_rp r1 e2]
        exact DGet.k hl
      · rw [r.some k]
        exact s1 _ G1 H1 g1 t1 (.bl _)
    · exact s1.elim) fun e ρ' k => k⟩
theorem ve_notinD (i : Nat) {x : Str} {e : Expr} {p pos : Pos} {fx : EM Da} (hu : X.A.units + 1 < cLine) (h : VE X W e fx) (hN : X.N[i]? = some x := by rfl) (hv : Vis X.env.scope x := by first | exact Or.inl rfl | exact Or.inr (Or.inl rfl) | exact Or.inr (Or.inr rfl))
    (hd : (x == ("__debug__" : Str)) = false := by decide) (hcd : (x == ("__classdict__" : Str)) = false := by decide) : VE X W (.Compare e [.NotIn] [.Name x p] pos) (fInD true i fx) :=
  pe_mono (pe_cmp (pc_dnotin hu h (pe_var hN hv hd hcd))) fun σ H Q ⟨B, ρ, G, t, s⟩ => ⟨B, ρ, G, t, (sat_bind s).imp (fun d ρ1 s1 y G1 H1 g1 t1 r1 => by
    split at s1
    · rename_i kvs k e1 e2
      obtain ⟨l, ks, es, hl, r⟩ := dic_get t1 e1
      refine ⟨_, es, l, valV ks k, rfl, ?_, ?_⟩
      · rw [dKey_rp r1 e2]
        exact DGet.k hl
      · rw [r.some k]
        exact s1 _ G1 H1 g1 t1 (.bl _)
    · exact s1.elim) fun e ρ' k => k⟩
def fDput (i : Nat) (fk fv : EM Da) : EM Fl := mB fv fun d => fun ρ0 => match ρ0[i]? with
  | some (some (.dic _)) => mB fk (fun kd => fun ρ => match ρ[i]?, dKey kd with
    | some (some (.dic kvs)), some k => if kvs.length < 16777216 then .ok .nx (ρ.set i (some (.dic (putD kvs k d)))) else .stuck
    | _, _ => .stuck) ρ0
  | _ => .stuck
theorem vs_dput (i : Nat) {x : Str} {e ek : Expr} {p pos pos' : Pos} {fk fv : EM Da} (hu : X.A.units + 1 < cLine) (hk : VE X W ek fk) (hv0 : VE X W e fv) (hN : X.N[i]? = some x := by rfl) (hv : Vis X.env.scope x := by first | exact Or.inl rfl | exact Or.inr (Or.inl rfl) | exact Or.inr (Or.inr rfl))
    (hs : swapsWith e (some (.Subscript (.Name x p) ek pos')) pos.line X.env = pure false := by rfl) (hd : (x == ("__debug__" : Str)) = false := by decide) (hcd : (x == ("__classdict__" : Str)) = false := by decide) : VS X W (.Assign [.Subscript (.Name x p) ek pos'] e pos) (fDput i fk fv) :=
  ps_mono (ps_dput hu (pe_var hN hv hd hcd) hk hv0 hs) fun D σ H ⟨B, ρ, G, t, s⟩ => ⟨B, ρ, G, t, (sat_bind s).imp (fun d ρ1 s1 y G1 H1 g1 t1 r1 => by
    split at s1
    · rename_i kvs0 e0
      obtain ⟨l0, ks0, es0, _⟩ := dic_get t1 e0
      refine ⟨_, es0, B, ρ1, G1, t1, (sat_bind s1).imp (fun kd ρ2 s2 z G2 H2 g2 t2 r2 => ?_) fun e ρ' k => exW_of k⟩
      split at s2
      · rename_i kvs k e1 e2
        split at s2
        · rename_i hl
          obtain ⟨v, es, l, ks, rfl, w, r⟩ := t2.sl i _ e1
          rw [es0] at es
          cases es
          refine ⟨l0, upd H2 l0 (.dK (putK ks k y)), rfl, ?_, ?_⟩
          · rw [dKey_rp r2 e2]
            exact DPut.k w.2.2 (by rw [r.length, sizeLine_eq]; exact hl)
          · exact s2 σ G2 _ (g1.trans g2) (t2.write (c' := .dic (putD kvs k d)) e1 rfl es0 w ⟨l0, _, rfl, ⟨w.1, w.2.1, upd_same⟩, r.put (r1.mono g2)⟩)
        · exact s2.elim
      · exact s2.elim
    · exact s1.elim) fun e ρ' k => exW_of k⟩

/-! ### try: body except ..: .. else: orelse, where the body raises nothing -/
theorem vs_try {bd oe : List Stmt} {h0 : ExceptHandler} {hs : List ExceptHandler} {pos : Pos} {f g : EM Fl} (hb : VSs X.nox W bd f) (ho : VSs X W oe g) : VS X W (.Try bd (h0 :: hs) oe [] pos) (fSeq f g) := ps_mono (ps_try_thru hb ho) fun D σ H ⟨B, ρ, G, t, s⟩ => by
  refine ⟨B, ρ, G, t, ?_⟩
  unfold fSeq at s
  cases e : f ρ with
  | stuck => rw [e] at s; exact s
  | exn x ρ' => rw [e] at s; exact s
  | ok fl ρ' =>
    rw [e] at s
    cases fl with
    | nx => exact fun σ' G' H' g' t' => ⟨B, ρ', G', t', Sat.imp (o := g ρ') s (fun _ _ k => FlOk.mono g' k) fun _ _ k => k⟩
    | rt d => exact s
    | bk => exact s
    | ct => exact s
    | rn ds => exact s
/-! ### a call that hands back a new list -/
def fDefL (F : List Da → Option (List Da)) (fa : EM (List Da)) : EM (List Da) := mB fa fun ds => mO (F ds)
theorem same_del {G H : Hp} (e : Same G H) {p : Addr} (g : G p = none) : Same G (del H p) := fun b o h => by
  rw [del_ne (ne_of_none h g)]
  exact e b o h
theorem cn_del {G H G' H' : Hp} (c : Cn G H G' H') {p : Addr} {o' : HO} (g : G' p = none) (h : H p = none) (h' : H' p = some o') (wo : WO o' := by trivial) : Cn G H G' (del H' p) :=
  ⟨c.gg, same_del c.gh g, fun b o _ q nt => by rw [del_ne (ne_of_none q h)]; exact c.same _ _ q nt, c.fr, fun _ m => m.elim, fun b o q => by rw [del_ne (ne_of_none q h)]; exact c.nn b o q, fun q => (c.tb q).del h' wo⟩
theorem vn_call {k : Nat} {x : Str} {f : Addr} {p pos : Pos} {e : Expr} {es : List Expr} {ps : List Str} {F : List Da → Option (List Da)} {fa : EM (List Da)} (hz : ∀ ds r, F ds = some r → r.length ≤ 16777216) (h : FoL X.prog X.w X.K X.mg X.base k f ps F) (hm : X.mg x = some (.ref f)) (hr : Room k X.A) (ha : VA X W (e :: es) fa)
    (hg : Gl X x := by rfl) (hdb : (x == ("__debug__" : Str)) = false := by decide) (he : starEach (e :: es) X.env = (false, eval e X.env) :: starEach es X.env := by rfl) (hpl : (backTo pos (starEach es X.env)).any (·.1) = false := by rfl) :
    VN X W (.Call (.Name x p) (e :: es) [] pos) (fDefL F fa) := by
  obtain ⟨fd, F0, hb⟩ := h.ok
  refine pe_mono (pe_call F0 hr hg hm h.kp hb .nil pass0 ha hdb he hpl) fun σ H Q ⟨B, ρ, G, t, s⟩ => ?_
  exact ⟨B, ρ, G, t, (sat_bind s).imp (fun ds ρ1 s1 vs G1 H1 g1 t1 r1 => by
    obtain ⟨es, e1, k1⟩ := sat_o s1
    refine ⟨G1, ds, es, t1.gd, by rw [List.append_nil]; exact r1, e1, fun G' H' q us c gq hq h' ru => ?_⟩
    have c2 := cn_del c gq hq h'
    have z := k1 q us G' (del H' q) (g1.trans c2.gg) del_same (t1.step c2) ru (by rw [ru.length, sizeLine_eq]; exact hz _ _ e1)
    rw [upd_del h'] at z
    exact z) fun e ρ' k => k⟩
end

/-! ### the law's end -/
/-- all but the tables -/
def noT (H : Hp) : Hp := fun b => match H b with
  | some (.tbl _) => none
  | o => o
theorem noT_same (H : Hp) : Same (noT H) H := fun b o h => by
  unfold noT at h
  split at h
  · cases h
  · exact h
theorem noT_at {H : Hp} {b : Addr} {o : HO} (h : H b = some o) (nt : NT o) : noT H b = some o := by
  unfold noT
  rw [h]
  split
  · rename_i ps e
    exact absurd (Option.some.inj e) (nt ps)
  · rfl
theorem sql_noT {K : PySem.W.Frag} {H : Hp} {a : Addr} {xs : List V} (h : SqL K H a xs) : SqL K (noT H) a xs := by
  rcases h with (h | ⟨o, h⟩) | h
  · exact .inl (.inl (noT_at h fun ps z => nomatch z))
  · exact .inl (.inr ⟨o, noT_at h fun ps z => nomatch z⟩)
  · exact .inr h
theorem law_holds {K : PySem.W.Frag} {a : Addr} {F : List Da → Res} {ns : List Int} {H : Hp} (hT : ∀ p ∈ LamT.T, H p.1 = some (.tbl #[])) (hS : SqL K H a (ns.map V.int)) (e : F [.scr ns] = .ok (.bl true)) :
    spV K F [.ref a] H (fun v _ => v = .bl true) fun _ _ _ => False := ⟨noT H, [.scr ns], ⟨noT_same H, fun p hp => ⟨by unfold noT; rw [hT p hp], #[], hT p hp, True.intro, fun pos cv hc => by
  have z : codeAmong pos [] = some cv := hc
  simp [codeAmong] at z⟩⟩, .cons (.scr (sql_noT hS)) .nil, by
  rw [e]
  intro G' H' v c r
  cases r
  rfl⟩
theorem hu1 {a c : Nat} (h : a + 64 < c) : a + 1 < c := by omega
/-- a list handed back, not too long -/
def lsG (F : List Da → Option (List Da)) (ds : List Da) : Option (List Da) := match F ds with
  | some r => if r.length ≤ 16777216 then some r else none
  | none => none
theorem lsG_some {F : List Da → Option (List Da)} {ds r : List Da} (h : lsG F ds = some r) : F ds = some r ∧ r.length ≤ 16777216 := by
  unfold lsG at h
  split at h
  · rename_i r' e
    split at h
    · rename_i hl
      cases h
      exact ⟨e, hl⟩
    · cases h
  · cases h
theorem lsG_le (F : List Da → Option (List Da)) : ∀ ds r, lsG F ds = some r → r.length ≤ 16777216 := fun _ _ h => (lsG_some h).2
theorem lsG_fo {P : Program} {w : World} {K : PySem.W.Frag} {mg : Str → Option Value} {base : Heap} {k : Nat} {f : Addr} {ps : List Str} {F : List Da → Option (List Da)} (h : FoL P w K mg base k f ps F) : FoL P w K mg base k f ps (lsG F) := by
  obtain ⟨⟨fd, F0, hb⟩, kp⟩ := h
  exact ⟨⟨fd, F0.imp fun vs H Q E ⟨G, ds, es, g, r, e, q⟩ => ⟨G, ds, es, g, r, (lsG_some e).1, q⟩, hb⟩, kp⟩
end Vl
/-! the value layer: Line.__init__ -/
namespace Vl
variable [LamT]
open PySem PySem.Spec PyProof.Rows L2
def manyD : Da → Option Bool
  | .ins c gs => if gs.lookup ("many" : Str) = none then (if c = "Names" then some true else if c = "Marks" then some false else none) else none
  | _ => none
def squeeze : List Da → List Da → Option (List Da)
  | acc, [] => some acc
  | acc, d :: ds => match manyD d with
    | none => none
    | some false => if acc.length < 16777216 then squeeze (acc ++ [d]) ds else none
    | some true => match acc.getLast? with
      | none => none
      | some e => match manyD e with
        | none => none
        | some true => squeeze acc ds
        | some false => if acc.length < 16777216 then squeeze (acc ++ [d]) ds else none
def iLine : List Da → Option (List (Str × Da))
  | [lets, .lst (d :: ds), folders] => if ds.length < 16777216 then (squeeze [d] ds).map fun ps => [("lets", lets), ("pieces", .lst ps), ("folders", folders)] else none
  | _ => none
/-! a class without __init__, told by the head -/
def newB (c : Str) (K : PySem.W.Frag) : Bool := PySem.W.makesIn K (He.ga K c) && (decide (PySem.W.findIn K (.ref (He.ga K c)) "__init__" = some (some (.builtin "object.__init__"))) && (decide (PySem.W.mroIn K (He.ga K c) (.type "object") = some true) && PySem.W.keepIn K (.ref (He.ga K c))))
theorem newB_ok {c : Str} {K : PySem.W.Frag} (h : newB c K = true) : FoN K c := by
  unfold newB at h
  obtain ⟨h1, h2⟩ := He.ba h
  obtain ⟨h3, h4⟩ := He.ba h2
  obtain ⟨h5, h6⟩ := He.ba h4
  exact ⟨h1, of_decide_eq_true h3, of_decide_eq_true h5, h6⟩
end Vl
/-! the value layer: lambdas made, called -/
namespace Vl
variable [LamT]
open PySem PySem.Spec PyProof.Rows L2
section
variable {X : Cx} {W : WX}
theorem lamO_new {P : Program} {w : World} {H : Hp} {h : Heap} {f : Addr} {D : LamD} {c' : Addr} {pm ctv : Value} (e : h.get? f = some (PySem.W.kla_obj "<lambda>" D.q D.params D.body D.scope [] pm c' ctv)) : ObjOk P w H h f (LamO f D c' pm ctv) :=
  ⟨e, ⟨_, e⟩, fun h1 h2 a st => st _ a⟩
theorem cn_lam {G H : Hp} {P c' f : Addr} {q : Str} {ps : Array Value} {pos : Pos} {o : HO} (g : Same G H) (gP : G P = none) (hP : H P = some (.tbl ps)) (ht : TriplesOk ps.toList) (nC : H c' = none) (nf : H f = none) (ne : c' ≠ f) (hu : ∀ p ∈ LamT.T, p.1 = P → p.2 = q) :
    Cn G H (upd (upd G c' (LamX.CodeO c' q)) f o) (upd (upd (upd H P (.tbl (ps ++ #[rawInt pos.line, rawInt pos.col, .ref c']))) c' (LamX.CodeO c' q)) f o) := by
  have nPc : P ≠ c' := ne_of_none hP nC
  have nPf : P ≠ f := ne_of_none hP nf
  have gC : G c' = none := gnone g nC
  have gf : G f = none := gnone g nf
  refine ⟨fun b u h => ?_, fun b u h => ?_, fun b u _ h nt => ?_, fun b u h => ?_, fun _ m => m.elim, fun b u h => ?_, fun t p hp => ?_⟩
  · rw [upd_ne (ne_of_none h gf), upd_ne (ne_of_none h gC)]
    exact h
  · by_cases h1 : b = f
    · subst h1
      rw [upd_same] at h ⊢
      exact h
    · rw [upd_ne h1] at h ⊢
      by_cases h2 : b = c'
      · subst h2
        rw [upd_same] at h ⊢
        exact h
      · rw [upd_ne h2] at h ⊢
        rw [upd_ne (ne_of_none h gP)]
        exact g _ _ h
  · have nP : b ≠ P := fun z => by
      subst z
      rw [hP] at h
      exact nt ps (Option.some.inj h).symm
    rw [upd_ne (ne_of_none h nf), upd_ne (ne_of_none h nC), upd_ne nP]
    exact h
  · by_cases h1 : b = f
    · subst h1
      exact .inr nf
    · rw [upd_ne h1] at h
      by_cases h2 : b = c'
      · subst h2
        exact .inr nC
      · rw [upd_ne h2] at h
        exact .inl h
  · rw [upd_ne (ne_of_none h nf), upd_ne (ne_of_none h nC)]
    by_cases nP : b = P
    · subst nP
      exact ⟨_, upd_same⟩
    · exact ⟨u, by rw [upd_ne nP]; exact h⟩
  · obtain ⟨g0, ps', h1, h2, h3⟩ := t p hp
    have n1 : p.1 ≠ f := ne_of_none h1 nf
    have n2 : p.1 ≠ c' := ne_of_none h1 nC
    have old : ∀ {c : Addr} {z : HO}, G c = some z → upd (upd G c' (LamX.CodeO c' q)) f o c = some z := fun {c z} e => by
      rw [upd_ne (ne_of_none e gf), upd_ne (ne_of_none e gC)]
      exact e
    refine ⟨by rw [upd_ne n1, upd_ne n2]; exact g0, ?_⟩
    by_cases hb : p.1 = P
    · have eq : ps' = ps := by
        rw [hb, hP] at h1
        injection h1 with h1
        injection h1 with h1
        exact h1.symm
      subst eq
      have e2 := hu p hp hb
      have eL : (ps' ++ #[rawInt pos.line, rawInt pos.col, .ref c']).toList = ps'.toList ++ [rawInt pos.line, rawInt pos.col, .ref c'] := by simp
      refine ⟨_, by rw [upd_ne n1, upd_ne n2, hb, upd_same], by rw [eL]; exact PySem.TriplesOk_snoc _ _ _ _ ht, fun p' cv hcv => ?_⟩
      rw [eL] at hcv
      rcases LamX.among_app _ ht hcv with z | z
      · obtain ⟨c0, e1, e3⟩ := h3 p' cv z
        exact ⟨c0, e1, old e3⟩
      · exact ⟨c', z, by rw [upd_ne ne, upd_same, e2]⟩
    · refine ⟨ps', by rw [upd_ne n1, upd_ne n2, upd_ne hb]; exact h1, h2, fun p' cv hcv => ?_⟩
      obtain ⟨c0, e1, e3⟩ := h3 p' cv hcv
      exact ⟨c0, e1, old e3⟩
theorem ve_lam (n : Nat) {c P : Addr} {params : Arguments} {body : Expr} {scope : Scope} {pos : Pos} (TB : LamX.TabB X.base X.mg c P) (hcode : X.env.code = .ref c) (hm : (P, X.env.qual ++ "<lambda>") ∈ LamT.T) (hu : ∀ p ∈ LamT.T, p.1 = P → p.2 = X.env.qual ++ "<lambda>")
    (hL : LamT.L n = some ⟨X.env.qual ++ "<lambda>", params, body, scope⟩) (hdef : defaultsOf params X.env = ([], []) := by rfl) (hfree : ∀ y ∈ scope.names, y.2 ≠ .free := by decide) (hcl : cloFrom X.env.cells scope.names [] = [] := by rfl) :
    VE X W (.Lambda params body scope pos) (mP (.lam n)) := ⟨fun pins s σ H Q I ⟨B, ρ, G, t, k⟩ => by
  obtain ⟨gP, ps, hP, ht, ha⟩ := t.tg _ hm
  refine PySem.W.kla_eval hdef ?_
  have bP : s.heap.BuiltinsAt X.mg P := TB.bm.keeps I.bk
  have hP' : s.heap.get? P = some { cls := .none, data := .fields ps } := I.hok P _ hP
  have hf : ∀ y ∈ scope.names, y.2 = .free → ∃ c, X.env.cells.lookup y.1 = some c := fun y hy e => absurd e (hfree y hy)
  have hclos : closureFor scope X.env = pure [] := by rw [closure_ok hf, hcl]
  cases hc : codeAmong pos ps.toList with
  | none =>
    refine PySem.W.kla_makeFunction (mg := X.mg) (c := c) (P := P) (ps := ps) hclos I.ok.glob (I.mod.glob.keeps I.bk) hcode (TB.code.keeps I.bk) hP' ht hc TB.gP bP fun c' ctv h' tk hx hge hlt hrec htb => ?_
    obtain ⟨c2, oc, vs, tt, e2, hoc, hd, hv⟩ := hrec
    cases e2
    have hsz : s.heap.objs.size ≤ h'.objs.size := Nat.le_trans hge (Nat.le_of_lt hlt)
    have nC : H c' = none := I.hok.fresh hge
    have nf : H h'.objs.size = none := I.hok.fresh hsz
    have ne : c' ≠ h'.objs.size := Nat.ne_of_lt hlt
    have I1 := LamX.inv_table (t' := tk) (more := #[rawInt pos.line, rawInt pos.col, .ref c']) (q := X.env.qual ++ "<lambda>") (h' := h') I hP (fun b o hb e => hx b o hb e) htb hge ⟨oc, vs, tt, hoc, hd, hv⟩
    have I2 := I1.laid (t' := tk) (a := h'.objs.size) (o := LamO h'.objs.size ⟨X.env.qual ++ "<lambda>", params, body, scope⟩ c' ((X.mg "__name__").getD .none) ctv) (h' := h'.push (PySem.W.kla_obj "<lambda>" (X.env.qual ++ "<lambda>") params body scope [] ((X.mg "__name__").getD .none) c' ctv))
      (fun b o e => Heap.get?_push_of_some _ e) (Nat.le_refl _) (lamO_new (Heap.get?_push_size _ rfl))
    have cn := cn_lam (o := LamO h'.objs.size ⟨X.env.qual ++ "<lambda>", params, body, scope⟩ c' ((X.mg "__name__").getD .none) ctv) (pos := pos) t.cg.gh gP hP ht nC nf ne hu
    exact ⟨.ref h'.objs.size, _, I2, rfl, k _ _ _ cn.gg (t.step cn) (.lam hL upd_same (by rw [upd_ne ne, upd_same]))⟩
  | some cv =>
    obtain ⟨c', e, hco⟩ := ha pos cv hc
    subst e
    refine PySem.W.kla_makeFunctionHit (mg := X.mg) (c := c) (P := P) (ps := ps) hclos I.ok.glob (I.mod.glob.keeps I.bk) hcode (TB.code.keeps I.bk) hP' ht hc bP fun ctv h' tk hx hsz => ?_
    have nf : H h'.objs.size = none := I.hok.fresh hsz
    have I2 := I.laid (t' := tk) (a := h'.objs.size) (o := LamO h'.objs.size ⟨X.env.qual ++ "<lambda>", params, body, scope⟩ c' ((X.mg "__name__").getD .none) ctv) (h' := h'.push (PySem.W.kla_obj "<lambda>" (X.env.qual ++ "<lambda>") params body scope [] ((X.mg "__name__").getD .none) c' ctv))
      (fun b o e => Heap.get?_push_of_some _ (hx b o e)) hsz (lamO_new (Heap.get?_push_size _ rfl))
    have cn := Cn.new t.cg.gh nf (LamO h'.objs.size ⟨X.env.qual ++ "<lambda>", params, body, scope⟩ c' ((X.mg "__name__").getD .none) ctv)
    exact ⟨.ref h'.objs.size, _, I2, rfl, k _ _ _ cn.gg (t.step cn) (.lam hL upd_same (by rw [upd_ne (ne_of_none hco (gnone t.cg.gh nf))]; exact hco))⟩⟩
end
/-! ### its call -/
/-- a lambda's contract -/
structure FoLam (P : Program) (w : World) (K : PySem.W.Frag) (mg : Str → Option Value) (base : Heap) (k : Nat) (D : LamD) (F : List Da → Res) : Prop where
  run : ∀ (f c' : Addr) (pm ctv : Value) (A : Around) (outer : List PySem.Env) (s : Shared) (H G : Hp) (us : List Value) (vs : List V) (ds : List Da) (d : Da) (Q : VK), Room k A → Env0 P w K mg base A outer s H →
    H f = some (LamO f D c' pm ctv) → H c' = some (LamX.CodeO c' D.q) → Vals vs us → Gd G H → RpA K G vs ds → F ds = .ok d → (∀ G' H' v, Cn G H G' H' → Rp K G' v d → Q v H') → codeAny (model P w) A (.call (.ref f) ⟨us, []⟩) (CR CX0 outer P w H s Q fun _ _ _ => False) s
def lamRun (n m : Nat) (fe : EM Da) (ds : List Da) : Res := if ds.length = n then (match fe (envOf m ds) with
  | .ok d _ => .ok d
  | _ => .stuck) else .stuck
section
variable {P : Program} {w : World} {K : PySem.W.Frag} {mg : Str → Option Value} {base : Heap}
theorem lam_of {D : LamD} {N ps : List Str} {k : Nat} {fe : EM Da} (Sc : FnScope N ps D.scope) (hbind : ∀ (pm cv ctv : Value) (us : List Value), us.length = ps.length → bindArgs (PySem.W.kla_fn "<lambda>" D.q D.params D.body D.scope [] pm cv ctv) ⟨us, []⟩ = pure (ps.zip us))
    (hd : ∀ (cdv : Value) (f : Addr) (A : Around) (outer : List PySem.Env) (s : Shared) (H : Hp) (E : XK), Room k (A.deeper (envOfC D.q D.scope s.heap.objs.size f cdv)) → VE (L2.cxOf CX0 P w K mg base N D.q D.scope f cdv A outer s H E) Wn D.body fe) :
    FoLam P w K mg base (k + 1) D (lamRun ps.length N.length fe) := by
  refine ⟨fun f c' pm ctv A outer s H G us vs ds d Q hr e0 hf hc r gd ra e hQ => ?_⟩
  have of1 : s.heap.get? f = some (PySem.W.kla_obj "<lambda>" D.q D.params D.body D.scope [] pm c' ctv) := (e0.hok f _ hf).1
  obtain ⟨⟨oc, vs', t, hoc, hdc, hvc⟩, _, _⟩ := e0.hok c' _ hc
  have lim : s.heap.NoLimit := e0.mod.nolimit.keeps fun b o e => (e0.bs b o e).1
  unfold lamRun at e
  split at e
  · rename_i hl
    have hlv : vs.length = ps.length := by rw [ra.length]; exact hl
    have hkind : ∀ y ∈ ps.zip us, D.scope.names.lookup y.1 = some .local ∨ (D.scope.names.lookup y.1 = some .cell ∧ ((cellsFrom (s.heap.objs.size + 1) D.scope.names []).lookup y.1).isSome = true) := fun ⟨n, v⟩ hy => by
      rcases Sc.par n (List.of_mem_zip hy).1 with q | q
      · exact .inl q
      · exact .inr ⟨q, PySem.W.cellsFrom_some _ _ _ (.inl q)⟩
    refine PySem.W.kla_callFunE hr.depth of1 rfl Sc.co Sc.gen rfl ⟨c', oc, vs', t, rfl, hoc, hdc, hvc⟩ ?_
    rw [hbind _ _ _ us (by rw [← r.length]; exact hlv)]
    refine wpAny_pure (wpAny_newFunctionEnv_cells Sc.kind hkind fun env he s1 x => ?_)
    subst he
    refine ⟨lim.keeps x.toInCall.keep, ?_⟩
    show codeAny _ _ (.expr D.body (envOfC D.q D.scope s.heap.objs.size f (.ref c'))) _ _
    have I : Inv (cxOf CX0 P w K mg base N D.q D.scope f (.ref c') A outer s H fun _ _ _ => False) [] (L2.start N vs) H s1 := inv_start Sc hr.hd e0 hlv r x
    cases e2 : fe (envOf N.length ds) with
    | stuck => rw [e2] at e; cases e
    | exn x ρ => rw [e2] at e; cases e
    | ok d' ρ =>
      rw [e2] at e
      cases e
      refine PySem.W.kla_codeExpr (wpAny_mono ((hd (.ref c') f A outer s H (fun _ _ _ => False) (hr.deeper _)).run [] s1 (L2.start N vs) H (fun v H' => Q v H') I ⟨⟨NoM, G, H, fun _ => none⟩, envOf N.length ds, G, stt_start gd ra, ?_⟩) (fun v s' hq => ?_) fun e s' hq => hq)
      · rw [e2]
        exact fun v G' H' g' t' rv => hQ G' H' v (cn_of t'.cg) rv
      · obtain ⟨w', H', J, rv, q⟩ := hq
        exact ⟨w', H', J.os, J.bare, J.base, J.hok, rv, q⟩
  · cases e
end
section
variable {X : Cx} {W : WX}
/-- f(..), f a name of one's own that holds a lambda | a def -/
def fCallV (p : Da → Bool) (i : Nat) (F : List Da → Res) (fa : EM (List Da)) : EM Da := fun ρ => match ρ[i]? with
  | some (some (.imm d)) => if p d = true then mB fa (fun ds => fun ρ => match F ds with
    | .ok d => .ok d ρ
    | _ => .stuck) ρ else .stuck
  | _ => .stuck
def isLam (n : Nat) : Da → Bool
  | .lam m => m == n
  | _ => false
def isGlo (x : Str) : Da → Bool
  | .glo y => decide (y = x)
  | _ => false
theorem fnAt_lam {f : Addr} {D : LamD} {c' : Addr} {pm ctv : Value} {h : Heap} (e : h.get? f = some (PySem.W.kla_obj "<lambda>" D.q D.params D.body D.scope [] pm c' ctv)) : PySem.W.FnAt f h := ⟨_, _, _, _, e⟩
theorem ve_callLam (i n : Nat) {k : Nat} {x : Str} {D : LamD} {p pos : Pos} {e : Expr} {es : List Expr} {F : List Da → Res} {fa : EM (List Da)} (hL : LamT.L n = some D) (h : FoLam X.prog X.w X.K X.mg X.base k D F) (hr : Room k X.A) (ha : VA X W (e :: es) fa)
    (hN : X.N[i]? = some x := by rfl) (hv : Vis X.env.scope x := by first | exact Or.inl rfl | exact Or.inr (Or.inl rfl) | exact Or.inr (Or.inr rfl)) (hd : (x == ("__debug__" : Str)) = false := by decide) (hcd : (x == ("__classdict__" : Str)) = false := by decide)
    (he : starEach (e :: es) X.env = (false, eval e X.env) :: starEach es X.env := by rfl) (hpl : (backTo pos (starEach es X.env)).any (·.1) = false := by rfl) :
    VE X W (.Call (.Name x p) (e :: es) [] pos) (fCallV (isLam n) i F fa) := ⟨fun pins s σ H Q I ⟨B, ρ, G, t, k0⟩ => by
  unfold fCallV at k0
  split at k0
  · rename_i d0 e1
    split at k0
    · rename_i hp
      obtain ⟨v, es', r⟩ := t.sl i _ e1
      have r' : Rp X.K G v d0 := r
      cases r' with
      | lam hL' h1 h2 =>
        rename_i f c' m D' pm ctv
        have em : m = n := by simpa [isLam] using hp
        subst em
        rw [hL] at hL'
        cases hL'
        refine wpAny_Call_Name_kw (thn ((pe_var (pos := p) (i := i) hN hv hd hcd).run pins s σ H (fun v H1 => v = .ref f ∧ H1 = H) I ⟨.ref f, es', rfl, rfl⟩) fun u s1 ⟨v, H1, I1, r1, ev, eH⟩ => ?_)
        subst ev
        rw [eH] at I1
        cases r1
        refine PySem.W.callWith_F (first := []) (fnAt_lam (I1.hok f _ (t.cg.gh _ _ h1)).1) (thn (ha.run pos pins s1 σ H (fun vs H2 => ∃ ds d, (∃ ρ2 G2, Same G G2 ∧ Stt X.K B ρ2 σ G2 H2 ∧ RpA X.K G2 vs ds ∧ F ds = .ok d ∧ ∀ v G' H', Same G G' → Stt X.K B ρ2 σ G' H' → Rp X.K G' v d → Q v H')) I1 ⟨B, ρ, G, t, (sat_bind k0).imp (fun ds ρ2 s2 vs G2 H2 g2 t2 r2 => ?_) fun e ρ' k => k⟩) fun us s2 ⟨vs, H2, I2, r, ds, d, ρ2, G2, g2, t2, r2, eF, hQ⟩ => ?_) he hpl
        · cases eF : F ds with
          | ok d => rw [eF] at s2; exact ⟨ds, d, ρ2, G2, g2, t2, r2, eF, s2⟩
          | exn _ => rw [eF] at s2; exact s2.elim
          | stuck => rw [eF] at s2; exact s2.elim
        · have f1 := t2.cg.gh _ _ (g2 _ _ h1)
          have f2 := t2.cg.gh _ _ (g2 _ _ h2)
          refine ⟨fnAt_lam (I2.hok f _ f1).1, ?_⟩
          refine wpAny_call (codeAny_mono (h.run f c' pm ctv X.A X.stack s2 H2 G2 us vs ds d Q hr I2.env0 f1 f2 r t2.gd r2 eF fun G' H' v c rv => hQ v G' H' (g2.trans c.gg) (t2.step c) rv) fun rr s' hq => ?_)
          cases rr with
          | error e => exact (show False from hq).elim
          | ok fl =>
            cases fl with
            | ret u => exact I2.after hq
            | next => exact False.elim hq
            | brk => exact False.elim hq
            | cont => exact False.elim hq
      | _ => simp [isLam] at hp
    · exact k0.elim
  · exact k0.elim⟩
theorem ve_callG (i : Nat) {k : Nat} {x y : Str} {p pos : Pos} {e : Expr} {es : List Expr} {ps : List Str} {F : List Da → Res} {fa : EM (List Da)} (h : FoA X.prog X.w X.K X.mg X.base k (He.ga X.K y) ps [] F) (hr : Room k X.A) (ha : VA X W (e :: es) fa)
    (hN : X.N[i]? = some x := by rfl) (hv : Vis X.env.scope x := by first | exact Or.inl rfl | exact Or.inr (Or.inl rfl) | exact Or.inr (Or.inr rfl)) (hd : (x == ("__debug__" : Str)) = false := by decide) (hcd : (x == ("__classdict__" : Str)) = false := by decide)
    (he : starEach (e :: es) X.env = (false, eval e X.env) :: starEach es X.env := by rfl) (hpl : (backTo pos (starEach es X.env)).any (·.1) = false := by rfl) :
    VE X W (.Call (.Name x p) (e :: es) [] pos) (fCallV (isGlo y) i F fa) := by
  obtain ⟨fd, dvs, dus, F0, hb, hd', rd⟩ := h.ok
  refine pe_mono (ItX.pe_callV (F0.raw hb hd') hr h.kp pass0 hN hv ha hd hcd he hpl) fun σ H Q ⟨B, ρ, G, t, s⟩ => ?_
  unfold fCallV at s
  split at s
  · rename_i d0 e1
    split at s
    · rename_i hp
      obtain ⟨v, es', r⟩ := t.sl i _ e1
      have r' : Rp X.K G v d0 := r
      cases r' with
      | glo y' =>
        have ey : y' = y := by simpa [isGlo] using hp
        subst ey
        exact ⟨es', B, ρ, G, t, (sat_bind s).imp (fun ds ρ1 s1 vs G1 H1 g1 t1 r1 => by
          have q := sp_use (E := fun _ _ _ => False) g1 t1 (r1.append (rd G1)) (by rw [List.append_nil]; exact s1)
          exact q) fun e ρ' k => k⟩
      | _ => simp [isGlo] at hp
    · exact s.elim
  · exact s.elim
/-- a def as a value -/
theorem ve_glo {x : Str} {pos : Pos} (hm : X.mg x = some (.ref (He.ga X.K x))) (hg : Gl X x := by rfl) (hd : (x == ("__debug__" : Str)) = false := by decide) : VE X W (.Name x pos) (mP (.glo x)) := ve_const (v := .ref (He.ga X.K x)) (pe_glob hg hm rfl hd) fun _ => .glo x
end
end Vl
/-! the value layer: sorted(set(pairs)), xs[i] = e, new lists by * -/
namespace Vl
open PySem PySem.Spec PyProof.Rows L2
/-! ### pairs, sorted, each once -/
abbrev Pr := Int × Int
def prD (p : Pr) : Da := .tup [.int p.1, .int p.2]
def prL (p : Pr) : List Int := [p.1, p.2]
def pairD : Da → Option Pr
  | .tup [.int i, .int j] => if 0 ≤ i ∧ i < 4096 ∧ 0 ≤ j ∧ j < 4096 then some (i, j) else none
  | _ => none
def pairsD : List Da → Option (List Pr)
  | [] => some []
  | d :: ds => match pairD d, pairsD ds with
    | some p, some ps => some (p :: ps)
    | _, _ => none
def cdP (p : Pr) : Int := p.1 * 4096 + p.2
def insP (p : Pr) : List Pr → List Pr
  | [] => [p]
  | q :: qs => if cdP p < cdP q then p :: q :: qs else if cdP p = cdP q then q :: qs else q :: insP p qs
def srtP : List Pr → List Pr
  | [] => []
  | p :: ps => insP p (srtP ps)
def OkP (p : Pr) : Prop := 0 ≤ p.1 ∧ p.1 < 4096 ∧ 0 ≤ p.2 ∧ p.2 < 4096
theorem cdP_inj {p q : Pr} (hp : OkP p) (hq : OkP q) (h : cdP p = cdP q) : p = q := by
  obtain ⟨a, b⟩ := p
  obtain ⟨c, d⟩ := q
  unfold OkP at hp hq
  unfold cdP at h
  simp only at *
  have e1 : a = c := by omega
  have e2 : b = d := by omega
  rw [e1, e2]
theorem pairD_some {d : Da} {p : Pr} (h : pairD d = some p) : d = prD p ∧ OkP p := by
  unfold pairD at h
  split at h
  · split at h
    · rename_i hc
      cases h
      exact ⟨rfl, hc⟩
    · cases h
  · cases h
theorem pairsD_cons {d : Da} {ds : List Da} {ps : List Pr} (h : pairsD (d :: ds) = some ps) : ∃ p qs, ps = p :: qs ∧ d = prD p ∧ OkP p ∧ pairsD ds = some qs := by
  unfold pairsD at h
  cases e1 : pairD d with
  | none => rw [e1] at h; cases h
  | some p =>
    cases e2 : pairsD ds with
    | none => rw [e1, e2] at h; cases h
    | some qs =>
      rw [e1, e2] at h
      cases h
      obtain ⟨h1, h2⟩ := pairD_some e1
      exact ⟨p, qs, rfl, h1, h2, rfl⟩
theorem pairsD_eq : ∀ {ds : List Da} {ps : List Pr}, pairsD ds = some ps → ds = ps.map prD ∧ ∀ p ∈ ps, OkP p
  | [], ps, h => by cases h; exact ⟨rfl, fun p hp => by cases hp⟩
  | d :: ds, ps, h => by
    obtain ⟨p, qs, rfl, rfl, h2, h3⟩ := pairsD_cons h
    obtain ⟨e, k⟩ := pairsD_eq h3
    refine ⟨by rw [e, List.map_cons], fun q hq => ?_⟩
    rcases List.mem_cons.mp hq with rfl | hq
    · exact h2
    · exact k q hq
theorem pairD_prD {p : Pr} (h : OkP p) : pairD (prD p) = some p := by
  show (if 0 ≤ p.1 ∧ p.1 < 4096 ∧ 0 ≤ p.2 ∧ p.2 < 4096 then some (p.1, p.2) else none) = some p
  exact if_pos h
theorem pairsD_map : ∀ {ps : List Pr}, (∀ p ∈ ps, OkP p) → pairsD (ps.map prD) = some ps
  | [], _ => rfl
  | p :: ps, h => by
    rw [List.map_cons]
    unfold pairsD
    rw [pairD_prD (h p (by simp)), pairsD_map fun q hq => h q (by simp [hq])]
theorem mem_insP {p : Pr} : ∀ {qs : List Pr} (hp : OkP p) (hq : ∀ q ∈ qs, OkP q) (x : Pr), x ∈ insP p qs ↔ x = p ∨ x ∈ qs
  | [], _, _, x => by simp [insP]
  | q :: qs, hp, hq, x => by
    unfold insP
    split
    · simp
    · split
      · rename_i h1 h2
        have e := cdP_inj hp (hq q (by simp)) h2
        subst e
        simp
      · rw [List.mem_cons, mem_insP hp (fun r hr => hq r (by simp [hr])) x, List.mem_cons]
        constructor
        · rintro (h | h | h)
          · exact .inr (.inl h)
          · exact .inl h
          · exact .inr (.inr h)
        · rintro (h | h | h)
          · exact .inr (.inl h)
          · exact .inl h
          · exact .inr (.inr h)
theorem mem_srtP : ∀ {ps : List Pr} (h : ∀ p ∈ ps, OkP p) (x : Pr), x ∈ srtP ps ↔ x ∈ ps
  | [], _, x => by simp [srtP]
  | p :: ps, h, x => by
    have h2 : ∀ q ∈ ps, OkP q := fun q hq => h q (by simp [hq])
    unfold srtP
    rw [mem_insP (h p (by simp)) (fun q hq => h2 q ((mem_srtP h2 q).mp hq)) x, mem_srtP h2 x, List.mem_cons]
theorem lt_insP {p : Pr} {c : Int} (hc : c < cdP p) : ∀ {qs : List Pr}, (∀ q ∈ qs, c < cdP q) → ∀ q ∈ insP p qs, c < cdP q
  | [], _, q, hq => by
    rw [insP, List.mem_singleton] at hq
    rw [hq]
    exact hc
  | r :: qs, h, q, hq => by
    unfold insP at hq
    split at hq
    · rcases List.mem_cons.mp hq with rfl | hq
      · exact hc
      · exact h q hq
    · split at hq
      · exact h q hq
      · rcases List.mem_cons.mp hq with rfl | hq
        · exact h _ (by simp)
        · exact lt_insP hc (fun q hq => h q (by simp [hq])) q hq
theorem pw_insP {p : Pr} : ∀ {qs : List Pr}, qs.Pairwise (fun a b => cdP a < cdP b) → (insP p qs).Pairwise fun a b => cdP a < cdP b
  | [], _ => by simp [insP]
  | q :: qs, h => by
    obtain ⟨h1, h2⟩ := List.pairwise_cons.mp h
    unfold insP
    split
    · rename_i hlt
      refine List.pairwise_cons.mpr ⟨fun x hx => ?_, h⟩
      rcases List.mem_cons.mp hx with rfl | hx
      · exact hlt
      · exact Int.lt_trans hlt (h1 x hx)
    · split
      · exact h
      · rename_i a b
        exact List.pairwise_cons.mpr ⟨lt_insP (by omega) h1, pw_insP h2⟩
theorem pw_srtP : ∀ (ps : List Pr), (srtP ps).Pairwise fun a b => cdP a < cdP b
  | [] => List.Pairwise.nil
  | p :: ps => pw_insP (pw_srtP ps)
theorem len_insP (p : Pr) : ∀ (qs : List Pr), (insP p qs).length ≤ qs.length + 1
  | [] => by simp [insP]
  | q :: qs => by
    unfold insP
    split
    · simp
    · split
      · simp
      · have := len_insP p qs
        simp
        omega
theorem len_srtP : ∀ (ps : List Pr), (srtP ps).length ≤ ps.length
  | [] => by simp [srtP]
  | p :: ps => by
    have h1 := len_insP p (srtP ps)
    have h2 := len_srtP ps
    unfold srtP
    rw [List.length_cons]
    omega
theorem code_prL (p : Pr) : TS.code 4096 (prL p) = cdP p := by
  simp [TS.code, prL, cdP]
def vSrtSet : Da → Option (List Da)
  | .lst ds => match pairsD ds with
    | some ps => if ps.length < 64 then some ((srtP ps).map prD) else none
    | none => none
  | _ => none
variable [LamT]
theorem pairs_ks {K : PySem.W.Frag} {G : Hp} : ∀ {vs : List V} {ps : List Pr}, RpA K G vs (ps.map prD) → ∃ ks : List (Addr × List Int), vs = ks.map (fun p => V.ref p.1) ∧ (∀ p ∈ ks, SqT K G p.1 (p.2.map V.int)) ∧ ks.map (·.2) = ps.map prL
  | _, [], r => by cases r; exact ⟨[], rfl, fun p hp => (by cases hp), rfl⟩
  | _, p :: ps, r => by
    rw [List.map_cons] at r
    cases r with
    | cons h r =>
      obtain ⟨ks, rfl, h2, h3⟩ := pairs_ks r
      unfold prD at h
      cases h with
      | tup hs ra =>
        rename_i a vs'
        cases ra with
        | cons x1 ra =>
          cases ra with
          | cons x2 ra =>
            cases ra
            cases x1
            cases x2
            refine ⟨(a, prL p) :: ks, rfl, fun q hq => ?_, by rw [List.map_cons, List.map_cons, h3]⟩
            rcases List.mem_cons.mp hq with rfl | hq
            · exact hs
            · exact h2 q hq
theorem ks_pairs {K : PySem.W.Frag} {G : Hp} : ∀ {ks : List (Addr × List Int)} {ps : List Pr}, (∀ p ∈ ks, SqT K G p.1 (p.2.map V.int)) → ks.map (·.2) = ps.map prL → RpA K G (ks.map fun p => V.ref p.1) (ps.map prD)
  | [], [], _, _ => .nil
  | [], p :: ps, _, h => by simp at h
  | k :: ks, [], _, h => by simp at h
  | k :: ks, p :: ps, h, e => by
    rw [List.map_cons, List.map_cons] at e
    injection e with e1 e2
    have hk := h k (by simp)
    rw [e1] at hk
    exact .cons (.tup hk (.cons (.int _) (.cons (.int _) .nil))) (ks_pairs (fun q hq => h q (by simp [hq])) e2)
theorem srt_uniq {ls : List (List Int)} {ps : List Pr} (hp : ∀ p ∈ ps, OkP p) (nd : ls.Nodup) (pw : ls.Pairwise fun a b => TS.code 4096 a ≤ TS.code 4096 b) (hm : ∀ l, l ∈ ls ↔ l ∈ ps.map prL) : ls = (srtP ps).map prL := by
  have hs : ∀ p ∈ srtP ps, OkP p := fun p h => hp p ((mem_srtP hp p).mp h)
  have nd2 : ((srtP ps).map prL).Nodup := by
    refine List.Pairwise.map prL ?_ (pw_srtP ps)
    intro a b h e
    have e1 : a.1 = b.1 := by injection e
    have e2 : a.2 = b.2 := by injection e with _ e; injection e
    unfold cdP at h
    rw [e1, e2] at h
    exact Int.lt_irrefl _ h
  have mm : ∀ l, l ∈ ls ↔ l ∈ (srtP ps).map prL := fun l => by
    rw [hm, List.mem_map, List.mem_map]
    constructor
    · rintro ⟨p, h, e⟩
      exact ⟨p, (mem_srtP hp p).mpr h, e⟩
    · rintro ⟨p, h, e⟩
      exact ⟨p, (mem_srtP hp p).mp h, e⟩
  refine List.Perm.eq_of_pairwise (le := fun a b => TS.code 4096 a ≤ TS.code 4096 b) (fun a b ha hb h1 h2 => ?_) pw ?_ ((List.perm_ext_iff_of_nodup nd nd2).mpr mm)
  · obtain ⟨p, p1, rfl⟩ := List.mem_map.mp ((mm a).mp ha)
    obtain ⟨q, q1, rfl⟩ := List.mem_map.mp hb
    rw [code_prL, code_prL] at h1 h2
    rw [cdP_inj (hs p p1) (hs q q1) (Int.le_antisymm h1 h2)]
  · refine List.Pairwise.map prL ?_ (pw_srtP ps)
    intro a b h
    rw [code_prL, code_prL]
    exact Int.le_of_lt h
section
variable {X : Cx} {W : WX}
def fSrt (f : EM Pk) : EM (List Da) := mB f fun p => fun ρ => mO (match look ρ p with
  | some d => vSrtSet d
  | none => none) ρ
theorem vn_sortSet {e : Expr} {f : EM Pk} {p1 p2 p3 p4 : Pos} (hc : X.calm = true) (hu : X.A.units + 64 < cLine) (hm1 : X.mg "sorted" = none) (hm2 : X.mg "set" = none) (h : VP X W e f) (hg1 : Gl X "sorted" := by rfl) (hg2 : Gl X "set" := by rfl)
    (he : starEach [e] X.env = (false, eval e X.env) :: starEach [] X.env := by rfl) (he2 : starEach [.Call (.Name "set" p2) [e] [] p3] X.env = (false, eval (.Call (.Name "set" p2) [e] [] p3) X.env) :: starEach [] X.env := by rfl) :
    VN X W (.Call (.Name "sorted" p1) [.Call (.Name "set" p2) [e] [] p3] [] p4) (fSrt f) := by
  refine pe_mono (pe_callB (cr_sortedT hc) hg1 hm1 (by decide +kernel) (pa_cons (pe_callTy (cr_setOfT hc hu) hg2 hm2 (by decide +kernel) (pa_cons h pa_nil he) (he := he)) pa_nil he2) (he := he2)) fun σ H Q ⟨B, ρ, G, t, s⟩ => ?_
  refine ⟨B, ρ, G, t, (sat_bind s).imp (fun pk ρ1 s1 v G1 H1 g1 t1 px => ?_) fun e ρ' k => k⟩
  obtain ⟨es, e1, k⟩ := sat_o s1
  cases l1 : look ρ1 pk with
  | none => rw [l1] at e1; cases e1
  | some d =>
    rw [l1] at e1
    have sd := see_of t1 px l1
    unfold vSrtSet at e1
    simp only at e1
    split at e1
    · rename_i ds
      split at e1
      · rename_i ps e2
        split at e1
        · rename_i hlt
          cases e1
          obtain ⟨rfl, hp⟩ := pairsD_eq e2
          obtain ⟨l, vs, rfl, hl, r⟩ := sd
          obtain ⟨ks, rfl, hk, ek⟩ := pairs_ks r
          have lk : ks.length = ps.length := by have := congrArg List.length ek; simpa using this
          refine ⟨l, ks, rfl, SqL.of hl, fun p hp => same_t t1.cg.gh (hk p hp), by omega, fun a L ha hL hL2 => ?_⟩
          have c1 := Cn.newM t1.cg.gh ha (SetTO X.prog X.w a L)
          have t2 := t1.step c1
          have hkL : ∀ p ∈ L, SqT X.K G1 p.1 (p.2.map V.int) := fun p hp => hk p (hL p hp)
          have mL : ∀ x, x ∈ L.map (·.2) ↔ x ∈ ps.map prL := fun x => by
            rw [← ek]
            constructor
            · intro hx
              obtain ⟨p, p1, rfl⟩ := List.mem_map.mp hx
              exact List.mem_map.mpr ⟨p, hL p p1, rfl⟩
            · intro hx
              obtain ⟨p, p1, rfl⟩ := List.mem_map.mp hx
              exact hL2 p p1
          refine ⟨a, L, 2, 4096, rfl, upd_same, fun p hp => same_t t2.cg.gh (hkL p hp), by decide, fun p hp => ?_, fun L' q hpm nd _ pw hq => ?_⟩
          · have : p.2 ∈ ps.map prL := (mL p.2).mp (List.mem_map.mpr ⟨p, hp, rfl⟩)
            obtain ⟨r, r1, r2⟩ := List.mem_map.mp this
            have ok := hp
            rw [← r2]
            refine ⟨rfl, fun m hm => ?_⟩
            obtain ⟨o1, o2, o3, o4⟩ := (by assumption : ∀ p ∈ ps, OkP p) r r1
            unfold prL at hm
            rcases List.mem_cons.mp hm with rfl | hm
            · exact ⟨o1, o2⟩
            · rw [List.mem_singleton.mp hm]
              exact ⟨o3, o4⟩
          · have eL : L'.map (·.2) = (srtP ps).map prL := srt_uniq hp nd (List.pairwise_map.mpr pw) fun x => by
              rw [← mL x]
              exact (hpm.map (·.2)).mem_iff
            have rr := ks_pairs (K := X.K) (G := G1) (ks := L') (ps := srtP ps) (fun p hp => hkL p (hpm.mem_iff.mp hp)) eL
            refine k q _ G1 _ g1 hq t2 rr ?_
            rw [rr.length, List.length_map, sizeLine_eq]
            have := len_srtP ps
            omega
        · cases e1
      · cases e1
    · cases e1
/-! ### a new list of its own: xs * n, xs + ys -/
def vMulL : Da → Da → Option (List Da)
  | .lst a, .int n => if n < 4294967296 ∧ -4294967296 < n ∧ a.length * n.toNat ≤ 16777216 then some (List.replicate n.toNat a).flatten else none
  | _, _ => none
def fBinN (r : Da → Da → Option (List Da)) (fa fb : EM Pk) : EM (List Da) := mB fa fun p => mB fb fun q => fun ρ => mO (match look ρ p, look ρ q with
  | some a, some b => r a b
  | _, _ => none) ρ
theorem vn_mul {a b : Expr} {pos : Pos} {fa fb : EM Pk} (ha : VP X W a fa) (hb : VP X W b fb) : VN X W (.BinOp a .Mult b pos) (fBinN vMulL fa fb) := by
  refine pe_mono (pe_op op_rep ha hb) fun σ H Q ⟨B, ρ, G, t, s⟩ => ?_
  refine ⟨B, ρ, G, t, (sat_bind s).imp (fun p ρ1 s1 x G1 H1 g1 t1 px => ⟨B, ρ1, G1, t1, (sat_bind s1).imp (fun q ρ2 s2 y G2 H2 g2 t2 py => ?_) fun e ρ' k => k⟩) fun e ρ' k => k⟩
  obtain ⟨ds, e, k⟩ := sat_o s2
  cases l1 : look ρ2 p with
  | none => rw [l1] at e; cases e
  | some a =>
    cases l2 : look ρ2 q with
    | none => rw [l1, l2] at e; cases e
    | some b =>
      rw [l1, l2] at e
      have sx := see_of t2 (px.mono g2) l1
      have sy := see_of t2 py l2
      unfold vMulL at e
      simp only at e
      split at e
      · rename_i as n
        split at e
        · rename_i hc
          cases e
          obtain ⟨l, vs, rfl, h1, r1⟩ := sx
          cases see_int sy
          refine ⟨l, n, vs, rfl, rfl, h1, by omega, by omega, ?_, fun z hz => ?_⟩
          · rw [r1.length, sizeLine_eq]
            exact hc.2.2
          · refine k z _ G2 H2 (g1.trans g2) hz t2 (r1.rep n.toNat) ?_
            rw [(r1.rep n.toNat).length, sizeLine_eq, List.length_flatten, List.map_replicate, List.sum_replicate_nat]
            rw [Nat.mul_comm]
            exact hc.2.2
        · cases e
      · cases e
/-! ### xs[i] = e of an own list -/
def fLput (i : Nat) (fk fv : EM Da) : EM Fl := mB fv fun d => fun ρ => match ρ[i]? with
  | some (some (.lst _)) => mB fk (fun kd => fun ρ' => match ρ'[i]?, kd with
    | some (some (.lst ds)), .int k => (match ixN ds.length k with
      | some j => .ok .nx (ρ'.set i (some (.lst (ds.set j d))))
      | none => .stuck)
    | _, _ => .stuck) ρ
  | _ => .stuck
theorem vs_lput (i : Nat) {x : Str} {e ek : Expr} {p pos pos' : Pos} {fk fv : EM Da} (hk : VE X W ek fk) (hv0 : VE X W e fv) (hN : X.N[i]? = some x := by rfl) (hv : Vis X.env.scope x := by first | exact Or.inl rfl | exact Or.inr (Or.inl rfl) | exact Or.inr (Or.inr rfl))
    (hs : swapsWithSole [.Subscript (.Name x p) ek pos'] e pos.line X.env = pure false := by rfl) (hw : swappedStores [.Subscript (.Name x p) ek pos'] e X.env = pure none := by rfl)
    (hsub : ∀ v, assign (.Subscript (.Name x p) ek pos') X.env v = (do
      let ov ← holding [v] (eval (.Name x p) X.env)
      let iv ← holding [v, ov] (eval ek X.env)
      standAt pos'
      holding [v, ov, iv] (setItem ov iv v)
      release [v, ov, iv] []) := by intro _; rfl)
    (hd : (x == ("__debug__" : Str)) = false := by decide) (hcd : (x == ("__classdict__" : Str)) = false := by decide) : VS X W (.Assign [.Subscript (.Name x p) ek pos'] e pos) (fLput i fk fv) :=
  ps_mono (ps_asg hv0 (pg_sub (pe_var hN hv hd hcd) hk set_list hsub) hs hw) fun D σ H ⟨B, ρ, G, t, s⟩ => ⟨B, ρ, G, t, (sat_bind s).imp (fun d ρ1 s1 y G1 H1 g1 t1 r1 => by
    split at s1
    · rename_i ds0 e0
      obtain ⟨v0, es0, l0, vs0, rfl, _, _⟩ := t1.sl i _ e0
      refine ⟨_, es0, B, ρ1, G1, t1, (sat_bind s1).imp (fun kd ρ2 s2 z G2 H2 g2 t2 r2 => ?_) fun e ρ' k => exW_of k⟩
      split at s2
      · rename_i ds k e1
        obtain ⟨v, es, l, vs, rfl, w, r⟩ := t2.sl i _ e1
        rw [es0] at es
        cases es
        cases ej : ixN ds.length k with
        | none => rw [ej] at s2; exact s2.elim
        | some j =>
          rw [ej] at s2
          cases r2
          refine ⟨l0, vs, k, j, rfl, rfl, w.2.2, by rw [r.length]; exact ej, ?_⟩
          exact s2 σ G2 _ (g1.trans g2) (t2.write (c' := .lst (ds.set j d)) e1 rfl es0 w.any ⟨l0, _, rfl, ⟨w.1, w.2.1, upd_same⟩, r.set j (r1.mono g2)⟩)
      · exact s2.elim
    · exact s1.elim) fun e ρ' k => exW_of k⟩
end
end Vl
/-! the value layer: defs with defaults, defs that make lambdas -/
namespace Vl
variable [LamT]
open PySem PySem.Spec PyProof.Rows L2
section
variable {P : Program} {w : World} {K : PySem.W.Frag} {mg : Str → Option Value} {base : Heap}
theorem run_body {qual : Str} {st : Stmt} {f : Addr} {N ps : List Str} {fb : EM Fl} {cdv : Value} {A : Around} {outer : List PySem.Env} {s : Shared} {H : Hp} {E : XK} {vs : List V} {Q : VK} (D : VSs (Cxd P w K mg base N qual st f cdv A outer s H E) Wn (defBody st) fb) (h : spV K (fnRun ps.length N.length fb) vs H Q E) :
    ∃ t, PSs (L2.cxOf CX0 P w K mg base N qual (defScope st) f cdv A outer s H E) (defBody st) t ∧ t { nx := fun _ H' => Q .non H', rt := Q } (L2.start N vs) H := by
  obtain ⟨G, ds, g, r, h⟩ := h
  refine ⟨_, PSs.nox D, ⟨NoM, G, H, fun _ => none⟩, envOf N.length ds, G, stt_start g r, ?_⟩
  unfold fnRun at h
  by_cases hl : ds.length = ps.length
  · rw [if_pos hl] at h
    cases e : fb (envOf N.length ds) with
    | stuck => rw [e] at h; exact h
    | exn x ρ => rw [e] at h; exact h.elim
    | ok fl ρ =>
      rw [e] at h
      cases fl with
      | nx => exact fun σ G' H' g' t => h G' H' .non (cn_of t.cg) .non
      | rt d => exact fun v σ G' H' g' t rv => h G' H' v (cn_of t.cg) rv
      | bk => exact h.elim
      | ct => exact h.elim
      | rn ds' =>
        exact fun p vs σ G' H' g' t w r' => by
          obtain ⟨s1, s2⟩ := Cn.freeze t.cg.gh w.1 w.2.2
          have hp0 : H p = none := w.2.1.elim id fun z => absurd rfl z
          have c := cn_of t.cg
          exact h _ H' (.ref p) ⟨c.gg.trans s1, s2, fun b o m q nt => c.hh b o m q nt, fun b u q => by
            by_cases hb : b = p
            · subst hb
              exact .inr hp0
            · rw [upd_ne hb] at q
              exact c.fr b u q, fun _ m => m.elim, c.nn, fun q => (c.tb q).put w.1 fun ps z => by rw [w.2.2] at z; cases z⟩ (.lst upd_same (r'.mono s1))
  · rw [if_neg hl] at h
    exact h.elim
theorem spV_len {N ps : List Str} {fb : EM Fl} {vs : List V} {H : Hp} {Q : VK} {E : XK} (h : spV K (fnRun ps.length N.length fb) vs H Q E) : vs.length = ps.length := by
  obtain ⟨G, ds, g, r, h⟩ := h
  unfold fnRun at h
  split at h
  · rename_i e
    rw [r.length]
    split at e
    · assumption
    · cases e
  · rename_i e
    split at e <;> first | (rw [r.length]; assumption) | cases e
  · exact h.elim
theorem fo_ofD {x qual : Str} {st : Stmt} {f : Addr} {fd : FuncData} {dvs dv : List V} {kws : List (Str × V)} {N ps : List Str} {k : Nat} {fb : EM Fl} {df : List Da} (F : FunD K x qual (defArgs st) (defBody st) (defScope st) dvs kws f fd) (Sc : FnScope N ps (defScope st)) (hb : ∃ ds, Vals dv ds ∧ L2.Binds K fd ps ds) (rd : ∀ G, RpA K G dv df)
    (D : Dv P w K mg base N qual st f k fb) : FoA P w K mg base (k + 1) f ps df (fnRun ps.length N.length fb) :=
  let ⟨ds, r, b⟩ := hb
  ⟨⟨fd, dv, ds, fn_of F Sc D, b, r, rd⟩, F.kp⟩
theorem fo_ofC {x qual : Str} {st : Stmt} {f : Addr} {fd : FuncData} {dvs : List V} {kws : List (Str × V)} {N ps : List Str} {k : Nat} {fb : EM Fl} (F : FunD K x qual (defArgs st) (defBody st) (defScope st) dvs kws f fd) (Sc : FnScope N ps (defScope st)) (hb : L2.Binds K fd ps []) (p : He.Defn) (hf : f = He.fAd K p)
    (D : ∀ (A : Around) (outer : List PySem.Env) (s : Shared) (H : Hp) (E : XK), Room k (A.deeper (envOfC qual (defScope st) s.heap.objs.size f (.ref (He.codeOf K p)))) → VSs (Cxd P w K mg base N qual st f (.ref (He.codeOf K p)) A outer s H E) Wn (defBody st) fb) : FoA P w K mg base (k + 1) f ps [] (fnRun ps.length N.length fb) := by
  have kp := F.kp
  obtain ⟨oc, od, dV, kV, doc, pm, an, cdv, ct, osl, rfl, lk, hcd, hD, hK⟩ := F.ex
  obtain ⟨c, rfl⟩ := He.codeIn_ref hcd
  have ec : He.codeOf K p = c := He.codeOf_eq (by rw [← hf]; exact lk) rfl
  rw [ec] at D
  exact ⟨⟨_, [], [], ⟨fun vs H Q E h => spV_len h, fun A outer s H args us vs Q E hr e0 hb' r hs => LamX.run_ofS lk hcd Sc hr e0 hb' r (spV_len hs) fun hr' => run_body (D A outer s H E hr') hs⟩, hb, .nil, fun _ => .nil⟩, kp⟩
end
/-! x is True, x is False -/
def vIsB (neg : Bool) : Da → Da → Option Da
  | .bl a, .bl b => some (.bl (if neg then !decide (a = b) else decide (a = b)))
  | _, _ => none
theorem opd_isB {X : Cx} : OpD X (compareOp .Is) (vIsB false) := opD_of fun x y H Q ⟨G, dx, dy, d, g, sx, sy, e, k⟩ => by
  unfold vIsB at e
  split at e
  · cases see_bl sx
    cases see_bl sy
    cases e
    exact ⟨_, L2.op_is_bl, _, _, rfl, rfl, k G H _ (cn_refl g) (.bl _)⟩
  · cases e
theorem opd_isnotB {X : Cx} : OpD X (compareOp .IsNot) (vIsB true) := opD_of fun x y H Q ⟨G, dx, dy, d, g, sx, sy, e, k⟩ => by
  unfold vIsB at e
  split at e
  · cases see_bl sx
    cases see_bl sy
    cases e
    exact ⟨_, L2.op_isnot_bl, _, _, rfl, rfl, k G H _ (cn_refl g) (.bl _)⟩
  · cases e
end Vl
/-! the value layer: slices of tuples -/
namespace Vl
variable [LamT]
open PySem PySem.Spec PyProof.Rows L2
section
variable {X : Cx} {W : WX}
def vSlT : Da → Option Int → Option Int → Option Da
  | .tup xs, lo, hi => if ¬ (HT.sIx xs.length 0 lo = 0 ∧ HT.sIx xs.length xs.length hi = xs.length) then some (.tup (cutD xs lo hi)) else none
  | _, _, _ => none
theorem ve_slT {e : Expr} {lo hi : Option Expr} {pos p2 : Pos} {fa : EM Pk} {fl fh : EM (Option Int)} (ha : VP X W e fa) (hl : VO X W lo fl) (hh : VO X W hi fh) : VE X W (.Subscript e (.Slice lo hi none p2) pos) (fSl vSlT fa fl fh) :=
  pe_mono (pe_slice sl_tup ha hl hh) fun σ H Q ⟨B, ρ, G, t, s⟩ => ⟨B, ρ, G, t, (sat_bind s).imp (fun p ρ1 s1 x G1 H1 g1 t1 px => ⟨B, ρ1, G1, t1, (sat_bind s1).imp (fun lo ρ2 s2 G2 H2 g2 t2 =>
    ⟨B, ρ2, G2, t2, (sat_bind s2).imp (fun hi ρ3 s3 G3 H3 g3 t3 => by
      obtain ⟨o, e, k⟩ := sat_o s3
      cases l1 : look ρ3 p with
      | none => rw [l1] at e; cases e
      | some d =>
        rw [l1] at e
        have sx := see_of t3 ((px.mono g2).mono g3) l1
        cases d with
        | tup xs =>
          obtain ⟨a, vs, rfl, h1, r⟩ := sx
          simp only [vSlT] at e
          split at e
          · rename_i hc
            cases e
            refine ⟨a, vs, rfl, h1, by rw [r.length]; exact hc, fun z hz => ?_⟩
            have c := Cn.new t3.cg.gh hz (.tup (cutV vs lo hi))
            exact k _ _ _ (((g1.trans g2).trans g3).trans c.gg) (t3.step c) (.tup (SqT.of upd_same) ((r.cut lo hi).mono c.gg))
          · cases e
        | _ => cases e) fun e ρ' k => k⟩) fun e ρ' k => k⟩) fun e ρ' k => k⟩
end
end Vl
namespace Kb

open PySem PySem.Spec PyProof.Rows L2 Vl
variable [LamT]
def top (i : Nat) : Stmt := PySem.Challenge.pw_keepback_k05_whole_judged.main.body.getD i (.Pass ⟨0, 0, 0, 0⟩)
abbrev s__law_draw : Stmt := top 30
def d__law_draw : He.DefD := ⟨("_law_draw", none), "_law_draw", "_law_draw", defArgs s__law_draw, defBody s__law_draw, defScope s__law_draw, [], []⟩
abbrev s__law_cell_at : Stmt := top 31
def d__law_cell_at : He.DefD := ⟨("_law_cell_at", none), "_law_cell_at", "_law_cell_at", defArgs s__law_cell_at, defBody s__law_cell_at, defScope s__law_cell_at, [], []⟩
abbrev s__law_digits : Stmt := top 32
def d__law_digits : He.DefD := ⟨("_law_digits", none), "_law_digits", "_law_digits", defArgs s__law_digits, defBody s__law_digits, defScope s__law_digits, [], []⟩
abbrev s__law_signs : Stmt := top 33
def d__law_signs : He.DefD := ⟨("_law_signs", none), "_law_signs", "_law_signs", defArgs s__law_signs, defBody s__law_signs, defScope s__law_signs, [], []⟩
abbrev s__law_pool : Stmt := top 34
def d__law_pool : He.DefD := ⟨("_law_pool", none), "_law_pool", "_law_pool", defArgs s__law_pool, defBody s__law_pool, defScope s__law_pool, [], []⟩
abbrev s__law_mark : Stmt := top 35
def d__law_mark : He.DefD := ⟨("_law_mark", none), "_law_mark", "_law_mark", defArgs s__law_mark, defBody s__law_mark, defScope s__law_mark, [], []⟩
abbrev s__law_line : Stmt := top 36
def d__law_line : He.DefD := ⟨("_law_line", none), "_law_line", "_law_line", defArgs s__law_line, defBody s__law_line, defScope s__law_line, [], []⟩
abbrev s__law_mark_plain : Stmt := top 38
def d__law_mark_plain : He.DefD := ⟨("_law_mark_plain", none), "_law_mark_plain", "_law_mark_plain", defArgs s__law_mark_plain, defBody s__law_mark_plain, defScope s__law_mark_plain, [], []⟩
abbrev s__law_mark_other : Stmt := top 39
def d__law_mark_other : He.DefD := ⟨("_law_mark_other", none), "_law_mark_other", "_law_mark_other", defArgs s__law_mark_other, defBody s__law_mark_other, defScope s__law_mark_other, [], []⟩
abbrev s__law_other : Stmt := top 40
def d__law_other : He.DefD := ⟨("_law_other", none), "_law_other", "_law_other", defArgs s__law_other, defBody s__law_other, defScope s__law_other, [], []⟩
abbrev s_Reader___init__ : Stmt := inClass (top 14) 0
def d_Reader___init__ : He.DefD := ⟨("Reader", some "__init__"), "__init__", "Reader.__init__", defArgs s_Reader___init__, defBody s_Reader___init__, defScope s_Reader___init__, [], []⟩
abbrev s_Reader_here : Stmt := inClass (top 14) 1
def d_Reader_here : He.DefD := ⟨("Reader", some "here"), "here", "Reader.here", defArgs s_Reader_here, defBody s_Reader_here, defScope s_Reader_here, [], []⟩
abbrev s_Reader_take : Stmt := inClass (top 14) 2
def d_Reader_take : He.DefD := ⟨("Reader", some "take"), "take", "Reader.take", defArgs s_Reader_take, defBody s_Reader_take, defScope s_Reader_take, [], []⟩
abbrev s_Reader_one_of : Stmt := inClass (top 14) 3
def d_Reader_one_of : He.DefD := ⟨("Reader", some "one_of"), "one_of", "Reader.one_of", defArgs s_Reader_one_of, defBody s_Reader_one_of, defScope s_Reader_one_of, [], []⟩
abbrev s_brackets_of : Stmt := top 15
def d_brackets_of : He.DefD := ⟨("brackets_of", none), "brackets_of", "brackets_of", defArgs s_brackets_of, defBody s_brackets_of, defScope s_brackets_of, [], []⟩
abbrev s_mark_of : Stmt := top 16
def d_mark_of : He.DefD := ⟨("mark_of", none), "mark_of", "mark_of", defArgs s_mark_of, defBody s_mark_of, defScope s_mark_of, [], []⟩
abbrev s_piece_of : Stmt := top 17
def d_piece_of : He.DefD := ⟨("piece_of", none), "piece_of", "piece_of", defArgs s_piece_of, defBody s_piece_of, defScope s_piece_of, [], []⟩
abbrev s_line_of : Stmt := top 18
def d_line_of : He.DefD := ⟨("line_of", none), "line_of", "line_of", defArgs s_line_of, defBody s_line_of, defScope s_line_of, [], []⟩
abbrev s_Marks___init__ : Stmt := inClass (top 11) 0
def d_Marks___init__ : He.DefD := ⟨("Marks", some "__init__"), "__init__", "Marks.__init__", defArgs s_Marks___init__, defBody s_Marks___init__, defScope s_Marks___init__, [], []⟩
abbrev s_Names_many : Stmt := inClass (top 10) 0
def d_Names_many : He.DefD := ⟨("Names", some "many"), "many", "Names.many", defArgs s_Names_many, defBody s_Names_many, defScope s_Names_many, [], []⟩
abbrev s_Marks_many : Stmt := inClass (top 9) 0
def d_Marks_many : He.DefD := ⟨("Marks", some "many"), "many", "Piece.many", defArgs s_Marks_many, defBody s_Marks_many, defScope s_Marks_many, [], []⟩
abbrev s_Names_begins : Stmt := inClass (top 9) 1
def d_Names_begins : He.DefD := ⟨("Names", some "begins"), "begins", "Piece.begins", defArgs s_Names_begins, defBody s_Names_begins, defScope s_Names_begins, [], []⟩
abbrev s_Marks_begins : Stmt := inClass (top 11) 2
def d_Marks_begins : He.DefD := ⟨("Marks", some "begins"), "begins", "Marks.begins", defArgs s_Marks_begins, defBody s_Marks_begins, defScope s_Marks_begins, [], []⟩
abbrev s_Names_moves : Stmt := inClass (top 9) 2
def d_Names_moves : He.DefD := ⟨("Names", some "moves"), "moves", "Piece.moves", defArgs s_Names_moves, defBody s_Names_moves, defScope s_Names_moves, [], []⟩
abbrev s_Marks_moves : Stmt := inClass (top 11) 3
def d_Marks_moves : He.DefD := ⟨("Marks", some "moves"), "moves", "Marks.moves", defArgs s_Marks_moves, defBody s_Marks_moves, defScope s_Marks_moves, [], []⟩
abbrev s_Names_ends : Stmt := inClass (top 9) 3
def d_Names_ends : He.DefD := ⟨("Names", some "ends"), "ends", "Piece.ends", defArgs s_Names_ends, defBody s_Names_ends, defScope s_Names_ends, [], []⟩
abbrev s_Marks_ends : Stmt := inClass (top 11) 4
def d_Marks_ends : He.DefD := ⟨("Marks", some "ends"), "ends", "Marks.ends", defArgs s_Marks_ends, defBody s_Marks_ends, defScope s_Marks_ends, [], []⟩
abbrev s_Marks_passed : Stmt := inClass (top 11) 1
def d_Marks_passed : He.DefD := ⟨("Marks", some "passed"), "passed", "Marks.passed", defArgs s_Marks_passed, defBody s_Marks_passed, defScope s_Marks_passed, [], []⟩
abbrev s_Line_closed : Stmt := inClass (top 13) 1
def d_Line_closed : He.DefD := ⟨("Line", some "closed"), "closed", "Line.closed", defArgs s_Line_closed, defBody s_Line_closed, defScope s_Line_closed, [], []⟩
abbrev s_Line_begin : Stmt := inClass (top 13) 2
def d_Line_begin : He.DefD := ⟨("Line", some "begin"), "begin", "Line.begin", defArgs s_Line_begin, defBody s_Line_begin, defScope s_Line_begin, [], []⟩
abbrev s_Line_step : Stmt := inClass (top 13) 3
def d_Line_step : He.DefD := ⟨("Line", some "step"), "step", "Line.step", defArgs s_Line_step, defBody s_Line_step, defScope s_Line_step, [], []⟩
abbrev s_Line_leave : Stmt := inClass (top 13) 4
def d_Line_leave : He.DefD := ⟨("Line", some "leave"), "leave", "Line.leave", defArgs s_Line_leave, defBody s_Line_leave, defScope s_Line_leave, [], []⟩
abbrev s_Line_full : Stmt := inClass (top 13) 5
def d_Line_full : He.DefD := ⟨("Line", some "full"), "full", "Line.full", defArgs s_Line_full, defBody s_Line_full, defScope s_Line_full, [], []⟩
abbrev s_Line_stages : Stmt := inClass (top 13) 6
def d_Line_stages : He.DefD := ⟨("Line", some "stages"), "stages", "Line.stages", defArgs s_Line_stages, defBody s_Line_stages, defScope s_Line_stages, [], []⟩
abbrev s_is_name : Stmt := top 23
def d_is_name : He.DefD := ⟨("is_name", none), "is_name", "is_name", defArgs s_is_name, defBody s_is_name, defScope s_is_name, [], []⟩
abbrev s_names_of : Stmt := top 24
def d_names_of : He.DefD := ⟨("names_of", none), "names_of", "names_of", defArgs s_names_of, defBody s_names_of, defScope s_names_of, [], []⟩
abbrev s_deciding : Stmt := top 25
def d_deciding : He.DefD := ⟨("deciding", none), "deciding", "deciding", defArgs s_deciding, defBody s_deciding, defScope s_deciding, [], []⟩
abbrev s_line_at : Stmt := top 19
def d_line_at : He.DefD := ⟨("line_at", none), "line_at", "line_at", defArgs s_line_at, defBody s_line_at, defScope s_line_at, [], []⟩
abbrev s_lines_of : Stmt := top 20
def d_lines_of : He.DefD := ⟨("lines_of", none), "lines_of", "lines_of", defArgs s_lines_of, defBody s_lines_of, defScope s_lines_of, [], []⟩
abbrev s_shut_at : Stmt := top 26
def d_shut_at : He.DefD := ⟨("shut_at", none), "shut_at", "shut_at", defArgs s_shut_at, defBody s_shut_at, defScope s_shut_at, [], []⟩
abbrev s_judged_of : Stmt := top 27
def d_judged_of : He.DefD := ⟨("judged_of", none), "judged_of", "judged_of", defArgs s_judged_of, defBody s_judged_of, defScope s_judged_of, [], []⟩
abbrev s_judged : Stmt := top 28
def d_judged : He.DefD := ⟨("judged", none), "judged", "judged", defArgs s_judged, defBody s_judged, defScope s_judged, [], []⟩
abbrev s__law_path : Stmt := top 37
def d__law_path : He.DefD := ⟨("_law_path", none), "_law_path", "_law_path", defArgs s__law_path, defBody s__law_path, defScope s__law_path, [], []⟩
abbrev s__law_some : Stmt := top 41
def d__law_some : He.DefD := ⟨("_law_some", none), "_law_some", "_law_some", defArgs s__law_some, defBody s__law_some, defScope s__law_some, [], []⟩
abbrev s__law_parted : Stmt := top 42
def d__law_parted : He.DefD := ⟨("_law_parted", none), "_law_parted", "_law_parted", defArgs s__law_parted, defBody s__law_parted, defScope s__law_parted, [], []⟩
abbrev s__law_name_fits : Stmt := top 43
def d__law_name_fits : He.DefD := ⟨("_law_name_fits", none), "_law_name_fits", "_law_name_fits", defArgs s__law_name_fits, defBody s__law_name_fits, defScope s__law_name_fits, [], []⟩
abbrev s__law_judged : Stmt := top 44
def d__law_judged : He.DefD := ⟨("_law_judged", none), "_law_judged", "_law_judged", defArgs s__law_judged, defBody s__law_judged, defScope s__law_judged, [], []⟩
abbrev s__law_made : Stmt := top 45
def d__law_made : He.DefD := ⟨("_law_made", none), "_law_made", "_law_made", defArgs s__law_made, defBody s__law_made, defScope s__law_made, [], []⟩
abbrev s__law_said_right : Stmt := top 46
def d__law_said_right : He.DefD := ⟨("_law_said_right", none), "_law_said_right", "_law_said_right", defArgs s__law_said_right, defBody s__law_said_right, defScope s__law_said_right, [], []⟩
abbrev s_law : Stmt := top 47
def d_law : He.DefD := ⟨("law", none), "law", "law", defArgs s_law, defBody s_law, defScope s_law, [], []⟩
abbrev s_Line___init__ : Stmt := inClass (top 13) 0
def d_Line___init__ : He.DefD := ⟨("Line", some "__init__"), "__init__", "Line.__init__", defArgs s_Line___init__, defBody s_Line___init__, defScope s_Line___init__, [], []⟩
def q_lam0 : Str := ("_law_name_fits" : Str) ++ ".<locals>." ++ "<lambda>"
def lamOf (q : Str) : List Stmt → LamD
  | [.Return (some (.Subscript (.Call _ [_, _, .Lambda p b s _] _ _) _ _)) _] => ⟨q, p, b, s⟩
  | _ => ⟨q, default, default, default⟩
def D_lam0 : LamD := lamOf q_lam0 (defBody s__law_name_fits)
abbrev c_SIGNS : List Nat := [46, 97, 98, 99, 100, 101, 102, 103, 104, 105, 106, 107, 108, 109, 110, 111, 112, 113, 114, 115, 116, 117, 118, 119, 120, 121, 122]
abbrev c_STAR : List Nat := [42]
structure Tx (K : PySem.W.Frag) (mg : Str → Option Value) (base : Heap) : Prop where
  lamB0 : LamX.TabB base mg (He.cT K ("_law_name_fits", none)).1 (He.cT K ("_law_name_fits", none)).2
  lamT0 : ((He.cT K ("_law_name_fits", none)).2, q_lam0) ∈ LamT.T
  lamU0 : ∀ p ∈ LamT.T, p.1 = (He.cT K ("_law_name_fits", none)).2 → p.2 = q_lam0
  lamL0 : LamT.L 0 = some D_lam0
  d__law_draw : ∃ fd, FunD K "_law_draw" "_law_draw" (defArgs s__law_draw) (defBody s__law_draw) (defScope s__law_draw) [] [] (He.ga K "_law_draw") fd
  d__law_cell_at : ∃ fd, FunD K "_law_cell_at" "_law_cell_at" (defArgs s__law_cell_at) (defBody s__law_cell_at) (defScope s__law_cell_at) [] [] (He.ga K "_law_cell_at") fd
  d__law_digits : ∃ fd, FunD K "_law_digits" "_law_digits" (defArgs s__law_digits) (defBody s__law_digits) (defScope s__law_digits) [] [] (He.ga K "_law_digits") fd
  d__law_signs : ∃ fd, FunD K "_law_signs" "_law_signs" (defArgs s__law_signs) (defBody s__law_signs) (defScope s__law_signs) [] [] (He.ga K "_law_signs") fd
  d__law_pool : ∃ fd, FunD K "_law_pool" "_law_pool" (defArgs s__law_pool) (defBody s__law_pool) (defScope s__law_pool) [] [] (He.ga K "_law_pool") fd
  d__law_mark : ∃ fd, FunD K "_law_mark" "_law_mark" (defArgs s__law_mark) (defBody s__law_mark) (defScope s__law_mark) [] [] (He.ga K "_law_mark") fd
  d__law_line : ∃ fd, FunD K "_law_line" "_law_line" (defArgs s__law_line) (defBody s__law_line) (defScope s__law_line) [] [] (He.ga K "_law_line") fd
  d__law_mark_plain : ∃ fd, FunD K "_law_mark_plain" "_law_mark_plain" (defArgs s__law_mark_plain) (defBody s__law_mark_plain) (defScope s__law_mark_plain) [] [] (He.ga K "_law_mark_plain") fd
  d__law_mark_other : ∃ fd, FunD K "_law_mark_other" "_law_mark_other" (defArgs s__law_mark_other) (defBody s__law_mark_other) (defScope s__law_mark_other) [] [] (He.ga K "_law_mark_other") fd
  d__law_other : ∃ fd, FunD K "_law_other" "_law_other" (defArgs s__law_other) (defBody s__law_other) (defScope s__law_other) [] [] (He.ga K "_law_other") fd
  d_Reader___init__ : ∃ fd, FunD K "__init__" "Reader.__init__" (defArgs s_Reader___init__) (defBody s_Reader___init__) (defScope s_Reader___init__) [] [] (He.ma K (He.ga K "Reader") "__init__") fd
  d_Reader_here : ∃ fd, FunD K "here" "Reader.here" (defArgs s_Reader_here) (defBody s_Reader_here) (defScope s_Reader_here) [] [] (He.ma K (He.ga K "Reader") "here") fd
  d_Reader_take : ∃ fd, FunD K "take" "Reader.take" (defArgs s_Reader_take) (defBody s_Reader_take) (defScope s_Reader_take) [] [] (He.ma K (He.ga K "Reader") "take") fd
  d_Reader_one_of : ∃ fd, FunD K "one_of" "Reader.one_of" (defArgs s_Reader_one_of) (defBody s_Reader_one_of) (defScope s_Reader_one_of) [] [] (He.ma K (He.ga K "Reader") "one_of") fd
  d_brackets_of : ∃ fd, FunD K "brackets_of" "brackets_of" (defArgs s_brackets_of) (defBody s_brackets_of) (defScope s_brackets_of) [] [] (He.ga K "brackets_of") fd
  d_mark_of : ∃ fd, FunD K "mark_of" "mark_of" (defArgs s_mark_of) (defBody s_mark_of) (defScope s_mark_of) [] [] (He.ga K "mark_of") fd
  d_piece_of : ∃ fd, FunD K "piece_of" "piece_of" (defArgs s_piece_of) (defBody s_piece_of) (defScope s_piece_of) [] [] (He.ga K "piece_of") fd
  d_line_of : ∃ fd, FunD K "line_of" "line_of" (defArgs s_line_of) (defBody s_line_of) (defScope s_line_of) [] [] (He.ga K "line_of") fd
  d_Marks___init__ : ∃ fd, FunD K "__init__" "Marks.__init__" (defArgs s_Marks___init__) (defBody s_Marks___init__) (defScope s_Marks___init__) [] [] (He.ma K (He.ga K "Marks") "__init__") fd
  d_Names_many : ∃ fd, FunD K "many" "Names.many" (defArgs s_Names_many) (defBody s_Names_many) (defScope s_Names_many) [] [] (He.ma K (He.ga K "Names") "many") fd
  d_Marks_many : ∃ fd, FunD K "many" "Piece.many" (defArgs s_Marks_many) (defBody s_Marks_many) (defScope s_Marks_many) [] [] (He.ma K (He.ga K "Marks") "many") fd
  d_Names_begins : ∃ fd, FunD K "begins" "Piece.begins" (defArgs s_Names_begins) (defBody s_Names_begins) (defScope s_Names_begins) [] [] (He.ma K (He.ga K "Names") "begins") fd
  d_Marks_begins : ∃ fd, FunD K "begins" "Marks.begins" (defArgs s_Marks_begins) (defBody s_Marks_begins) (defScope s_Marks_begins) [] [] (He.ma K (He.ga K "Marks") "begins") fd
  d_Names_moves : ∃ fd, FunD K "moves" "Piece.moves" (defArgs s_Names_moves) (defBody s_Names_moves) (defScope s_Names_moves) [] [] (He.ma K (He.ga K "Names") "moves") fd
  d_Marks_moves : ∃ fd, FunD K "moves" "Marks.moves" (defArgs s_Marks_moves) (defBody s_Marks_moves) (defScope s_Marks_moves) [] [] (He.ma K (He.ga K "Marks") "moves") fd
  d_Names_ends : ∃ fd, FunD K "ends" "Piece.ends" (defArgs s_Names_ends) (defBody s_Names_ends) (defScope s_Names_ends) [] [] (He.ma K (He.ga K "Names") "ends") fd
  d_Marks_ends : ∃ fd, FunD K "ends" "Marks.ends" (defArgs s_Marks_ends) (defBody s_Marks_ends) (defScope s_Marks_ends) [] [] (He.ma K (He.ga K "Marks") "ends") fd
  d_Marks_passed : ∃ fd, FunD K "passed" "Marks.passed" (defArgs s_Marks_passed) (defBody s_Marks_passed) (defScope s_Marks_passed) [] [] (He.ma K (He.ga K "Marks") "passed") fd
  d_Line_closed : ∃ fd, FunD K "closed" "Line.closed" (defArgs s_Line_closed) (defBody s_Line_closed) (defScope s_Line_closed) [] [] (He.ma K (He.ga K "Line") "closed") fd
  d_Line_begin : ∃ fd, FunD K "begin" "Line.begin" (defArgs s_Line_begin) (defBody s_Line_begin) (defScope s_Line_begin) [] [] (He.ma K (He.ga K "Line") "begin") fd
  d_Line_step : ∃ fd, FunD K "step" "Line.step" (defArgs s_Line_step) (defBody s_Line_step) (defScope s_Line_step) [] [] (He.ma K (He.ga K "Line") "step") fd
  d_Line_leave : ∃ fd, FunD K "leave" "Line.leave" (defArgs s_Line_leave) (defBody s_Line_leave) (defScope s_Line_leave) [] [] (He.ma K (He.ga K "Line") "leave") fd
  d_Line_full : ∃ fd, FunD K "full" "Line.full" (defArgs s_Line_full) (defBody s_Line_full) (defScope s_Line_full) [] [] (He.ma K (He.ga K "Line") "full") fd
  d_Line_stages : ∃ fd, FunD K "stages" "Line.stages" (defArgs s_Line_stages) (defBody s_Line_stages) (defScope s_Line_stages) [] [] (He.ma K (He.ga K "Line") "stages") fd
  d_is_name : ∃ fd, FunD K "is_name" "is_name" (defArgs s_is_name) (defBody s_is_name) (defScope s_is_name) [] [] (He.ga K "is_name") fd
  d_names_of : ∃ fd, FunD K "names_of" "names_of" (defArgs s_names_of) (defBody s_names_of) (defScope s_names_of) [] [] (He.ga K "names_of") fd
  d_deciding : ∃ fd, FunD K "deciding" "deciding" (defArgs s_deciding) (defBody s_deciding) (defScope s_deciding) [] [] (He.ga K "deciding") fd
  d_line_at : ∃ fd, FunD K "line_at" "line_at" (defArgs s_line_at) (defBody s_line_at) (defScope s_line_at) [] [] (He.ga K "line_at") fd
  d_lines_of : ∃ fd, FunD K "lines_of" "lines_of" (defArgs s_lines_of) (defBody s_lines_of) (defScope s_lines_of) [] [] (He.ga K "lines_of") fd
  d_shut_at : ∃ fd, FunD K "shut_at" "shut_at" (defArgs s_shut_at) (defBody s_shut_at) (defScope s_shut_at) [] [] (He.ga K "shut_at") fd
  d_judged_of : ∃ fd, FunD K "judged_of" "judged_of" (defArgs s_judged_of) (defBody s_judged_of) (defScope s_judged_of) [] [] (He.ga K "judged_of") fd
  d_judged : ∃ fd, FunD K "judged" "judged" (defArgs s_judged) (defBody s_judged) (defScope s_judged) [] [] (He.ga K "judged") fd
  d__law_path : ∃ fd, FunD K "_law_path" "_law_path" (defArgs s__law_path) (defBody s__law_path) (defScope s__law_path) [] [] (He.ga K "_law_path") fd
  d__law_some : ∃ fd, FunD K "_law_some" "_law_some" (defArgs s__law_some) (defBody s__law_some) (defScope s__law_some) [] [] (He.ga K "_law_some") fd
  d__law_parted : ∃ fd, FunD K "_law_parted" "_law_parted" (defArgs s__law_parted) (defBody s__law_parted) (defScope s__law_parted) [] [] (He.ga K "_law_parted") fd
  d__law_name_fits : ∃ fd, FunD K "_law_name_fits" "_law_name_fits" (defArgs s__law_name_fits) (defBody s__law_name_fits) (defScope s__law_name_fits) [] [] (He.ga K "_law_name_fits") fd
  d__law_judged : ∃ fd, FunD K "_law_judged" "_law_judged" (defArgs s__law_judged) (defBody s__law_judged) (defScope s__law_judged) [] [] (He.ga K "_law_judged") fd
  d__law_made : ∃ fd, FunD K "_law_made" "_law_made" (defArgs s__law_made) (defBody s__law_made) (defScope s__law_made) [] [] (He.ga K "_law_made") fd
  d__law_said_right : ∃ fd, FunD K "_law_said_right" "_law_said_right" (defArgs s__law_said_right) (defBody s__law_said_right) (defScope s__law_said_right) [] [] (He.ga K "_law_said_right") fd
  d_law : ∃ fd, FunD K "law" "law" (defArgs s_law) (defBody s_law) (defScope s_law) [] [] (He.ga K "law") fd
  d_Line___init__ : ∃ fd, FunD K "__init__" "Line.__init__" (defArgs s_Line___init__) (defBody s_Line___init__) (defScope s_Line___init__) [] [] (He.ma K (He.ga K "Line") "__init__") fd
  cls_Line : Cls K (He.ga K "Line")
  cls_Marks : Cls K (He.ga K "Marks")
  cls_Names : Cls K (He.ga K "Names")
  cls_Reader : Cls K (He.ga K "Reader")
  free_abs : mg "abs" = none
  free_all : mg "all" = none
  free_any : mg "any" = none
  free_bool : mg "bool" = none
  free_enumerate : mg "enumerate" = none
  free_int : mg "int" = none
  free_isinstance : mg "isinstance" = none
  free_len : mg "len" = none
  free_list : mg "list" = none
  free_max : mg "max" = none
  free_min : mg "min" = none
  free_range : mg "range" = none
  free_set : mg "set" = none
  free_sorted : mg "sorted" = none
  free_str : mg "str" = none
  free_sum : mg "sum" = none
  free_tuple : mg "tuple" = none
  g_Line : mg "Line" = some (.ref (He.ga K "Line"))
  g_Marks : mg "Marks" = some (.ref (He.ga K "Marks"))
  g_Names : mg "Names" = some (.ref (He.ga K "Names"))
  g_Reader : mg "Reader" = some (.ref (He.ga K "Reader"))
  g__law_cell_at : mg "_law_cell_at" = some (.ref (He.ga K "_law_cell_at"))
  g__law_digits : mg "_law_digits" = some (.ref (He.ga K "_law_digits"))
  g__law_draw : mg "_law_draw" = some (.ref (He.ga K "_law_draw"))
  g__law_judged : mg "_law_judged" = some (.ref (He.ga K "_law_judged"))
  g__law_line : mg "_law_line" = some (.ref (He.ga K "_law_line"))
  g__law_made : mg "_law_made" = some (.ref (He.ga K "_law_made"))
  g__law_mark : mg "_law_mark" = some (.ref (He.ga K "_law_mark"))
  g__law_mark_other : mg "_law_mark_other" = some (.ref (He.ga K "_law_mark_other"))
  g__law_mark_plain : mg "_law_mark_plain" = some (.ref (He.ga K "_law_mark_plain"))
  g__law_name_fits : mg "_law_name_fits" = some (.ref (He.ga K "_law_name_fits"))
  g__law_other : mg "_law_other" = some (.ref (He.ga K "_law_other"))
  g__law_parted : mg "_law_parted" = some (.ref (He.ga K "_law_parted"))
  g__law_path : mg "_law_path" = some (.ref (He.ga K "_law_path"))
  g__law_pool : mg "_law_pool" = some (.ref (He.ga K "_law_pool"))
  g__law_said_right : mg "_law_said_right" = some (.ref (He.ga K "_law_said_right"))
  g__law_signs : mg "_law_signs" = some (.ref (He.ga K "_law_signs"))
  g__law_some : mg "_law_some" = some (.ref (He.ga K "_law_some"))
  g_brackets_of : mg "brackets_of" = some (.ref (He.ga K "brackets_of"))
  g_deciding : mg "deciding" = some (.ref (He.ga K "deciding"))
  g_is_name : mg "is_name" = some (.ref (He.ga K "is_name"))
  g_judged : mg "judged" = some (.ref (He.ga K "judged"))
  g_judged_of : mg "judged_of" = some (.ref (He.ga K "judged_of"))
  g_line_at : mg "line_at" = some (.ref (He.ga K "line_at"))
  g_line_of : mg "line_of" = some (.ref (He.ga K "line_of"))
  g_lines_of : mg "lines_of" = some (.ref (He.ga K "lines_of"))
  g_mark_of : mg "mark_of" = some (.ref (He.ga K "mark_of"))
  g_names_of : mg "names_of" = some (.ref (He.ga K "names_of"))
  g_piece_of : mg "piece_of" = some (.ref (He.ga K "piece_of"))
  g_shut_at : mg "shut_at" = some (.ref (He.ga K "shut_at"))
  i_LONGEST : ∃ t, mg "LONGEST" = some (.int 400 t)
  mkr_Line : Mk K (He.ga K "Line") (He.ma K (He.ga K "Line") "__init__")
  mkr_Marks : Mk K (He.ga K "Marks") (He.ma K (He.ga K "Marks") "__init__")
  mkr_Reader : Mk K (He.ga K "Reader") (He.ma K (He.ga K "Reader") "__init__")
  mt_Line_begin : Meth K (He.ga K "Line") "begin" (He.ma K (He.ga K "Line") "begin")
  mt_Line_closed : Meth K (He.ga K "Line") "closed" (He.ma K (He.ga K "Line") "closed")
  mt_Line_full : Meth K (He.ga K "Line") "full" (He.ma K (He.ga K "Line") "full")
  mt_Line_leave : Meth K (He.ga K "Line") "leave" (He.ma K (He.ga K "Line") "leave")
  mt_Line_stages : Meth K (He.ga K "Line") "stages" (He.ma K (He.ga K "Line") "stages")
  mt_Line_step : Meth K (He.ga K "Line") "step" (He.ma K (He.ga K "Line") "step")
  mt_Marks_begins : Meth K (He.ga K "Marks") "begins" (He.ma K (He.ga K "Marks") "begins")
  mt_Marks_ends : Meth K (He.ga K "Marks") "ends" (He.ma K (He.ga K "Marks") "ends")
  mt_Marks_many : Meth K (He.ga K "Marks") "many" (He.ma K (He.ga K "Marks") "many")
  mt_Marks_moves : Meth K (He.ga K "Marks") "moves" (He.ma K (He.ga K "Marks") "moves")
  mt_Marks_passed : Meth K (He.ga K "Marks") "passed" (He.ma K (He.ga K "Marks") "passed")
  mt_Names_begins : Meth K (He.ga K "Names") "begins" (He.ma K (He.ga K "Names") "begins")
  mt_Names_ends : Meth K (He.ga K "Names") "ends" (He.ma K (He.ga K "Names") "ends")
  mt_Names_many : Meth K (He.ga K "Names") "many" (He.ma K (He.ga K "Names") "many")
  mt_Names_moves : Meth K (He.ga K "Names") "moves" (He.ma K (He.ga K "Names") "moves")
  mt_Reader_here : Meth K (He.ga K "Reader") "here" (He.ma K (He.ga K "Reader") "here")
  mt_Reader_one_of : Meth K (He.ga K "Reader") "one_of" (He.ma K (He.ga K "Reader") "one_of")
  mt_Reader_take : Meth K (He.ga K "Reader") "take" (He.ma K (He.ga K "Reader") "take")
  na_Line_folders : NoAttr K (He.ga K "Line") "folders"
  na_Line_lets : NoAttr K (He.ga K "Line") "lets"
  na_Line_pieces : NoAttr K (He.ga K "Line") "pieces"
  na_Marks_marks : NoAttr K (He.ga K "Marks") "marks"
  na_Reader_place : NoAttr K (He.ga K "Reader") "place"
  na_Reader_whole : NoAttr K (He.ga K "Reader") "whole"
  new_Names : FoN K "Names"
  s_SIGNS : ∃ t, mg "SIGNS" = some (.str ".abcdefghijklmnopqrstuvwxyz" t)
  s_STAR : ∃ t, mg "STAR" = some (.str "*" t)
section
variable {P : Program} {w : World} {K : PySem.W.Frag} {mg : Str → Option Value} {base : Heap}
theorem sc_lam0 : FnScope ["_law_mark_here", "_law_sign"] ["_law_mark_here", "_law_sign"] D_lam0.scope := ⟨rfl, rfl, rfl, by decide +kernel, rfl, by decide +kernel, by decide +kernel⟩
def e_lam0 : EM Da := (fBin (vIn false) (fPeek 1) (fPeek 0))
def f_lam0 : List Da → Res := lamRun 2 2 e_lam0
theorem fo_lam0 (T : Tx K mg base) : FoLam P w K mg base 1 D_lam0 f_lam0 := lam_of sc_lam0 (fun _ _ _ us hl => match us, hl with | [_, _], _ => rfl) fun cdv f A outer s H E hr =>
  have hN := (sc_lam0).nd
  (ve_cmp opd_in (vp_name 1) (vp_name 0) (by rfl))
abbrev n__law_draw : List Str := ["_law_cell", "_law_k", "_law_many", "_law_primes"]
theorem sc__law_draw : FnScope n__law_draw ["_law_cell", "_law_k", "_law_many"] (defScope s__law_draw) := ⟨rfl, rfl, rfl, by decide +kernel, rfl, by decide +kernel, by decide +kernel⟩
def b__law_draw : EM Fl := (fSeq (fAsg 3 (fTup (fCons (mP (.int 1000003)) (fCons (mP (.int 1000033)) (fCons (mP (.int 1000037)) (fCons (mP (.int 1000039)) (fCons (mP (.int 1000081)) (fCons (mP (.int 1000099)) (fCons (mP (.int 1000117)) (fCons (mP (.int 1000121)) (fCons (mP (.int 1000133)) (fCons (mP (.int 1000151)) (fCons (mP (.int 1000159)) (fCons (mP (.int 1000171)) (fCons (mP (.int 1000183)) (fCons (mP (.int 1000187)) (fCons (mP (.int 1000193)) (fCons (mP (.int 1000199)) (mP [])))))))))))))))))))
  (fRet (fBin vMod (fD (fBin vMod (fD (fBin vAdd (fD (fBin vMul (fPeek 0) (fD (mP (.int 48271))))) (fD (fBin vMul (fPeek 1) (fD (mP (.int 69621))))))) (fD (fBin vIx (fPeek 3) (fD (fBin vMod (fPeek 1) (fD (mP (.int 16))))))))) (fPeek 2))))
def f__law_draw : List Da → Res := fnRun 3 4 b__law_draw
theorem dv__law_draw (T : Tx K mg base) : Dv P w K mg base n__law_draw "_law_draw" s__law_draw (He.ga K "_law_draw") 0 b__law_draw := fun cdv A outer s H E hr =>
  have hN := (sc__law_draw).nd
  (vss_cons (vs_set 3 hN (ve_tup (va_cons ve_int (va_cons ve_int (va_cons ve_int (va_cons ve_int (va_cons ve_int (va_cons ve_int (va_cons ve_int (va_cons ve_int (va_cons ve_int (va_cons ve_int (va_cons ve_int (va_cons ve_int (va_cons ve_int (va_cons ve_int (va_cons ve_int (va_cons ve_int va_nil))))))))))))))))))
  (vss_one (vs_ret (ve_bin opd_mod (vp_of (ve_bin opd_mod (vp_of (ve_bin opd_add (vp_of (ve_bin opd_mul (vp_name 0) (vp_of ve_int))) (vp_of (ve_bin opd_mul (vp_name 1) (vp_of ve_int))))) (vp_of (ve_ix (vp_name 3) (vp_of (ve_bin opd_mod (vp_name 1) (vp_of ve_int))))))) (vp_name 2)))))
theorem fo__law_draw (T : Tx K mg base) : FoA P w K mg base 1 (He.ga K "_law_draw") ["_law_cell", "_law_k", "_law_many"] [] f__law_draw := by
  obtain ⟨fd, F⟩ := T.d__law_draw
  exact fo_of F sc__law_draw (F.bindsN fun _ _ _ _ _ _ us hl => match us, hl with | [_, _, _], _ => rfl) (dv__law_draw T)
abbrev n__law_signs : List Str := []
theorem sc__law_signs : FnScope n__law_signs [] (defScope s__law_signs) := ⟨rfl, rfl, rfl, by decide +kernel, rfl, by decide +kernel, by decide +kernel⟩
def b__law_signs : EM Fl := (fRet (mP (.str [46, 97, 98, 99, 100, 101, 102, 103, 104, 105, 106, 107, 108, 109, 110, 111, 112, 113, 114, 115, 116, 117, 118, 119, 120, 121, 122])))
def f__law_signs : List Da → Res := fnRun 0 0 b__law_signs
theorem dv__law_signs (T : Tx K mg base) : Dv P w K mg base n__law_signs "_law_signs" s__law_signs (He.ga K "_law_signs") 0 b__law_signs := fun cdv A outer s H E hr =>
  have hN := (sc__law_signs).nd
  (vss_one (vs_ret (ve_str [46, 97, 98, 99, 100, 101, 102, 103, 104, 105, 106, 107, 108, 109, 110, 111, 112, 113, 114, 115, 116, 117, 118, 119, 120, 121, 122])))
theorem fo__law_signs (T : Tx K mg base) : FoA P w K mg base 1 (He.ga K "_law_signs") [] [] f__law_signs := by
  obtain ⟨fd, F⟩ := T.d__law_signs
  exact fo_of F sc__law_signs (F.bindsN fun _ _ _ _ _ _ us hl => match us, hl with | [], _ => rfl) (dv__law_signs T)
abbrev n_Reader___init__ : List Str := ["self", "whole"]
theorem sc_Reader___init__ : FnScope n_Reader___init__ ["self", "whole"] (defScope s_Reader___init__) := ⟨rfl, rfl, rfl, by decide +kernel, rfl, by decide +kernel, by decide +kernel⟩
def b_Reader___init__ : EM Fl := (fSeq (fFldSet "Reader" "whole" 0 (fName 1))
  (fFldSet "Reader" "place" 0 (mP (.int 0))))
def i_Reader : List Da → Option (List (Str × Da)) := inRun 2 2 "Reader" b_Reader___init__
theorem dv_Reader___init__ (T : Tx K mg base) : Dv P w K mg base n_Reader___init__ "Reader.__init__" s_Reader___init__ (He.ma K (He.ga K "Reader") "__init__") 0 b_Reader___init__ := fun cdv A outer s H E hr =>
  have hN := (sc_Reader___init__).nd
  (vss_cons (vs_fldO (c := "Reader") 0 T.cls_Reader T.na_Reader_whole (ve_name 1))
  (vss_one (vs_fldO (c := "Reader") 0 T.cls_Reader T.na_Reader_place ve_int)))
theorem fi_Reader (T : Tx K mg base) : FoI P w K mg base 1 "Reader" ["self", "whole"] i_Reader := by
  obtain ⟨fd, F⟩ := T.d_Reader___init__
  exact in_of F sc_Reader___init__ (F.bindsN fun _ _ _ _ _ _ us hl => match us, hl with | [_, _], _ => rfl) (by decide) T.mkr_Reader (dv_Reader___init__ T)
abbrev n_Reader_here : List Str := ["self"]
theorem sc_Reader_here : FnScope n_Reader_here ["self"] (defScope s_Reader_here) := ⟨rfl, rfl, rfl, by decide +kernel, rfl, by decide +kernel, by decide +kernel⟩
def b_Reader_here : EM Fl := (fRet (fSl vSlS (fD (fFldO "Reader" "whole" 0)) (fInt (fFldO "Reader" "place" 0)) (fInt (fBin vAdd (fD (fFldO "Reader" "place" 0)) (fD (mP (.int 1)))))))
def f_Reader_here : List (Str × Da) → List Da → Option (Da × List (Str × Da)) := ioRun 1 1 "Reader" b_Reader_here
theorem dv_Reader_here (T : Tx K mg base) : Dv P w K mg base n_Reader_here "Reader.here" s_Reader_here (He.ma K (He.ga K "Reader") "here") 0 b_Reader_here := fun cdv A outer s H E hr =>
  have hN := (sc_Reader_here).nd
  (vss_one (vs_ret (ve_slS (vp_of (ve_fldO (c := "Reader") 0 T.cls_Reader T.na_Reader_whole)) (vo_some (ve_fldO (c := "Reader") 0 T.cls_Reader T.na_Reader_place)) (vo_some (ve_bin opd_add (vp_of (ve_fldO (c := "Reader") 0 T.cls_Reader T.na_Reader_place)) (vp_of ve_int))))))
theorem fo_Reader_here (T : Tx K mg base) : FoIO P w K mg base 1 (He.ma K (He.ga K "Reader") "here") ["self"] "Reader" f_Reader_here := by
  obtain ⟨fd, F⟩ := T.d_Reader_here
  exact io_of F sc_Reader_here (F.bindsN fun _ _ _ _ _ _ us hl => match us, hl with | [_], _ => rfl) (by decide) (dv_Reader_here T)
abbrev n_Marks___init__ : List Str := ["self", "marks"]
theorem sc_Marks___init__ : FnScope n_Marks___init__ ["self", "marks"] (defScope s_Marks___init__) := ⟨rfl, rfl, rfl, by decide +kernel, rfl, by decide +kernel, by decide +kernel⟩
def b_Marks___init__ : EM Fl := (fFldSet "Marks" "marks" 0 (fName 1))
def i_Marks : List Da → Option (List (Str × Da)) := inRun 2 2 "Marks" b_Marks___init__
theorem dv_Marks___init__ (T : Tx K mg base) : Dv P w K mg base n_Marks___init__ "Marks.__init__" s_Marks___init__ (He.ma K (He.ga K "Marks") "__init__") 0 b_Marks___init__ := fun cdv A outer s H E hr =>
  have hN := (sc_Marks___init__).nd
  (vss_one (vs_fldO (c := "Marks") 0 T.cls_Marks T.na_Marks_marks (ve_name 1)))
theorem fi_Marks (T : Tx K mg base) : FoI P w K mg base 1 "Marks" ["self", "marks"] i_Marks := by
  obtain ⟨fd, F⟩ := T.d_Marks___init__
  exact in_of F sc_Marks___init__ (F.bindsN fun _ _ _ _ _ _ us hl => match us, hl with | [_, _], _ => rfl) (by decide) T.mkr_Marks (dv_Marks___init__ T)
abbrev n_Names_many : List Str := ["self"]
theorem sc_Names_many : FnScope n_Names_many ["self"] (defScope s_Names_many) := ⟨rfl, rfl, rfl, by decide +kernel, rfl, by decide +kernel, by decide +kernel⟩
def b_Names_many : EM Fl := (fRet (mP (.bl true)))
def f_Names_many : List Da → Res := fnRun 1 1 b_Names_many
theorem dv_Names_many (T : Tx K mg base) : Dv P w K mg base n_Names_many "Names.many" s_Names_many (He.ma K (He.ga K "Names") "many") 0 b_Names_many := fun cdv A outer s H E hr =>
  have hN := (sc_Names_many).nd
  (vss_one (vs_ret ve_bl))
theorem fo_Names_many (T : Tx K mg base) : FoA P w K mg base 1 (He.ma K (He.ga K "Names") "many") ["self"] [] f_Names_many := by
  obtain ⟨fd, F⟩ := T.d_Names_many
  exact fo_of F sc_Names_many (F.bindsN fun _ _ _ _ _ _ us hl => match us, hl with | [_], _ => rfl) (dv_Names_many T)
abbrev n_Marks_many : List Str := ["self"]
theorem sc_Marks_many : FnScope n_Marks_many ["self"] (defScope s_Marks_many) := ⟨rfl, rfl, rfl, by decide +kernel, rfl, by decide +kernel, by decide +kernel⟩
def b_Marks_many : EM Fl := (fRet (mP (.bl false)))
def f_Marks_many : List Da → Res := fnRun 1 1 b_Marks_many
theorem dv_Marks_many (T : Tx K mg base) : Dv P w K mg base n_Marks_many "Piece.many" s_Marks_many (He.ma K (He.ga K "Marks") "many") 0 b_Marks_many := fun cdv A outer s H E hr =>
  have hN := (sc_Marks_many).nd
  (vss_one (vs_ret ve_bl))
theorem fo_Marks_many (T : Tx K mg base) : FoA P w K mg base 1 (He.ma K (He.ga K "Marks") "many") ["self"] [] f_Marks_many := by
  obtain ⟨fd, F⟩ := T.d_Marks_many
  exact fo_of F sc_Marks_many (F.bindsN fun _ _ _ _ _ _ us hl => match us, hl with | [_], _ => rfl) (dv_Marks_many T)
abbrev n_Names_begins : List Str := ["self"]
theorem sc_Names_begins : FnScope n_Names_begins ["self"] (defScope s_Names_begins) := ⟨rfl, rfl, rfl, by decide +kernel, rfl, by decide +kernel, by decide +kernel⟩
def b_Names_begins : EM Fl := (fRet (fN (fLst (fCons (mP (.int 0)) (mP [])))))
def f_Names_begins : List Da → Res := fnRun 1 1 b_Names_begins
theorem dv_Names_begins (T : Tx K mg base) : Dv P w K mg base n_Names_begins "Piece.begins" s_Names_begins (He.ma K (He.ga K "Names") "begins") 0 b_Names_begins := fun cdv A outer s H E hr =>
  have hN := (sc_Names_begins).nd
  (vss_one (vs_ret (ve_of_n (vn_lst (va_cons ve_int va_nil)))))
theorem fo_Names_begins (T : Tx K mg base) : FoA P w K mg base 1 (He.ma K (He.ga K "Names") "begins") ["self"] [] f_Names_begins := by
  obtain ⟨fd, F⟩ := T.d_Names_begins
  exact fo_of F sc_Names_begins (F.bindsN fun _ _ _ _ _ _ us hl => match us, hl with | [_], _ => rfl) (dv_Names_begins T)
abbrev n_Names_moves : List Str := ["self", "spot", "sign"]
theorem sc_Names_moves : FnScope n_Names_moves ["self", "spot", "sign"] (defScope s_Names_moves) := ⟨rfl, rfl, rfl, by decide +kernel, rfl, by decide +kernel, by decide +kernel⟩
def b_Names_moves : EM Fl := (fRet (fN (fLst (fCons (mP (.int 0)) (mP [])))))
def f_Names_moves : List Da → Res := fnRun 3 3 b_Names_moves
theorem dv_Names_moves (T : Tx K mg base) : Dv P w K mg base n_Names_moves "Piece.moves" s_Names_moves (He.ma K (He.ga K "Names") "moves") 0 b_Names_moves := fun cdv A outer s H E hr =>
  have hN := (sc_Names_moves).nd
  (vss_one (vs_ret (ve_of_n (vn_lst (va_cons ve_int va_nil)))))
theorem fo_Names_moves (T : Tx K mg base) : FoA P w K mg base 1 (He.ma K (He.ga K "Names") "moves") ["self", "spot", "sign"] [] f_Names_moves := by
  obtain ⟨fd, F⟩ := T.d_Names_moves
  exact fo_of F sc_Names_moves (F.bindsN fun _ _ _ _ _ _ us hl => match us, hl with | [_, _, _], _ => rfl) (dv_Names_moves T)
abbrev n_Names_ends : List Str := ["self", "spot"]
theorem sc_Names_ends : FnScope n_Names_ends ["self", "spot"] (defScope s_Names_ends) := ⟨rfl, rfl, rfl, by decide +kernel, rfl, by decide +kernel, by decide +kernel⟩
def b_Names_ends : EM Fl := (fRet (mP (.bl true)))
def f_Names_ends : List Da → Res := fnRun 2 2 b_Names_ends
theorem dv_Names_ends (T : Tx K mg base) : Dv P w K mg base n_Names_ends "Piece.ends" s_Names_ends (He.ma K (He.ga K "Names") "ends") 0 b_Names_ends := fun cdv A outer s H E hr =>
  have hN := (sc_Names_ends).nd
  (vss_one (vs_ret ve_bl))
theorem fo_Names_ends (T : Tx K mg base) : FoA P w K mg base 1 (He.ma K (He.ga K "Names") "ends") ["self", "spot"] [] f_Names_ends := by
  obtain ⟨fd, F⟩ := T.d_Names_ends
  exact fo_of F sc_Names_ends (F.bindsN fun _ _ _ _ _ _ us hl => match us, hl with | [_, _], _ => rfl) (dv_Names_ends T)
abbrev n_Marks_ends : List Str := ["self", "spot"]
theorem sc_Marks_ends : FnScope n_Marks_ends ["self", "spot"] (defScope s_Marks_ends) := ⟨rfl, rfl, rfl, by decide +kernel, rfl, by decide +kernel, by decide +kernel⟩
def b_Marks_ends : EM Fl := (fRet (fBin (vEq false) (fPeek 1) (fD (fCall vLen (fCons (fD (fFld "Marks" "marks" (fName 0))) (mP []))))))
def f_Marks_ends : List Da → Res := fnRun 2 2 b_Marks_ends
theorem dv_Marks_ends (T : Tx K mg base) : Dv P w K mg base n_Marks_ends "Marks.ends" s_Marks_ends (He.ma K (He.ga K "Marks") "ends") 0 b_Marks_ends := fun cdv A outer s H E hr =>
  have hN := (sc_Marks_ends).nd
  (vss_one (vs_ret (ve_cmp (opd_eq hr.units) (vp_name 1) (vp_of (ve_callB cad_len T.free_len (vpa_cons (vp_of (ve_fld (c := "Marks") T.cls_Marks T.na_Marks_marks (ve_name 0))) vpa_nil))) (nomark _))))
theorem fo_Marks_ends (T : Tx K mg base) : FoA P w K mg base 1 (He.ma K (He.ga K "Marks") "ends") ["self", "spot"] [] f_Marks_ends := by
  obtain ⟨fd, F⟩ := T.d_Marks_ends
  exact fo_of F sc_Marks_ends (F.bindsN fun _ _ _ _ _ _ us hl => match us, hl with | [_, _], _ => rfl) (dv_Marks_ends T)
abbrev n_Marks_passed : List Str := ["self", "spot"]
theorem sc_Marks_passed : FnScope n_Marks_passed ["self", "spot"] (defScope s_Marks_passed) := ⟨rfl, rfl, rfl, by decide +kernel, rfl, by decide +kernel, by decide +kernel⟩
def b_Marks_passed : EM Fl := (fSeq (fIf (fAnd (fBinT vLt (fPeek 1) (fD (fCall vLen (fCons (fD (fFld "Marks" "marks" (fName 0))) (mP []))))) (fBinT (vEq false) (fD (fBin vIx (fD (fFld "Marks" "marks" (fName 0))) (fPeek 1))) (fD (mP (.str c_STAR)))))
  (fRet (fN (fLst (fCons (fName 1) (fCons (fBin vAdd (fPeek 1) (fD (mP (.int 1)))) (mP []))))))
  (mP .nx))
  (fRet (fN (fLst (fCons (fName 1) (mP []))))))
def f_Marks_passed : List Da → Res := fnRun 2 2 b_Marks_passed
theorem dv_Marks_passed (T : Tx K mg base) : Dv P w K mg base n_Marks_passed "Marks.passed" s_Marks_passed (He.ma K (He.ga K "Marks") "passed") 0 b_Marks_passed := fun cdv A outer s H E hr =>
  have hN := (sc_Marks_passed).nd
  (vss_cons (vs_if (vt_w (vw_and (vt_cmp opd_lt (vp_name 1) (vp_of (ve_callB cad_len T.free_len (vpa_cons (vp_of (ve_fld (c := "Marks") T.cls_Marks T.na_Marks_marks (ve_name 0))) vpa_nil))) (nomark _)) (vw_and1 (vt_cmp (opd_eq hr.units) (vp_of (ve_ix (vp_of (ve_fld (c := "Marks") T.cls_Marks T.na_Marks_marks (ve_name 0))) (vp_name 1))) (vp_of (ve_gstr c_STAR rfl T.s_STAR)) (nomark _)))))
  (vss_one (vs_ret (ve_of_n (vn_lst (va_cons (ve_name 1) (va_cons (ve_bin opd_add (vp_name 1) (vp_of ve_int)) va_nil))))))
  vss_nil)
  (vss_one (vs_ret (ve_of_n (vn_lst (va_cons (ve_name 1) va_nil))))))
theorem fo_Marks_passed (T : Tx K mg base) : FoA P w K mg base 1 (He.ma K (He.ga K "Marks") "passed") ["self", "spot"] [] f_Marks_passed := by
  obtain ⟨fd, F⟩ := T.d_Marks_passed
  exact fo_of F sc_Marks_passed (F.bindsN fun _ _ _ _ _ _ us hl => match us, hl with | [_, _], _ => rfl) (dv_Marks_passed T)
abbrev n_Line_full : List Str := ["self", "numbers"]
theorem sc_Line_full : FnScope n_Line_full ["self", "numbers"] (defScope s_Line_full) := ⟨rfl, rfl, rfl, by decide +kernel, rfl, by decide +kernel, by decide +kernel⟩
def b_Line_full : EM Fl := (fRet (fBin (vIn false) (fD (fCall vLen (fCons (fD (fFld "Line" "pieces" (fName 0))) (mP [])))) (fPeek 1)))
def f_Line_full : List Da → Res := fnRun 2 2 b_Line_full
theorem dv_Line_full (T : Tx K mg base) : Dv P w K mg base n_Line_full "Line.full" s_Line_full (He.ma K (He.ga K "Line") "full") 0 b_Line_full := fun cdv A outer s H E hr =>
  have hN := (sc_Line_full).nd
  (vss_one (vs_ret (ve_cmp opd_in (vp_of (ve_callB cad_len T.free_len (vpa_cons (vp_of (ve_fld (c := "Line") T.cls_Line T.na_Line_pieces (ve_name 0))) vpa_nil))) (vp_name 1) (by rfl))))
theorem fo_Line_full (T : Tx K mg base) : FoA P w K mg base 1 (He.ma K (He.ga K "Line") "full") ["self", "numbers"] [] f_Line_full := by
  obtain ⟨fd, F⟩ := T.d_Line_full
  exact fo_of F sc_Line_full (F.bindsN fun _ _ _ _ _ _ us hl => match us, hl with | [_, _], _ => rfl) (dv_Line_full T)
abbrev n_is_name : List Str := ["thing", "sign"]
theorem sc_is_name : FnScope n_is_name ["thing"] (defScope s_is_name) := ⟨rfl, rfl, rfl, by decide +kernel, rfl, by decide +kernel, by decide +kernel⟩
def p1_is_name : EM Da := (fBin (vIn false) (fPeek 1) (fD (mP (.str c_SIGNS))))
def b_is_name : EM Fl := (fRet (fAndV (fCall vIsi (fCons (fPeek 0) (fCons (fD (mP (.ty "str"))) (mP [])))) (fAndV (fBin (vEq true) (fPeek 0) (fD (mP (.str [])))) (fCall vAll (fCons (fD (fN (fComp [1] (fIt itemsS (fName 0)) (stN 1) (mP true) p1_is_name))) (mP []))))))
def f_is_name : List Da → Res := fnRun 1 2 b_is_name
theorem dv_is_name (T : Tx K mg base) : Dv P w K mg base n_is_name "is_name" s_is_name (He.ga K "is_name") 0 b_is_name := fun cdv A outer s H E hr =>
  have hN := (sc_is_name).nd
  (vss_one (vs_ret (ve_and (ve_callB cad_isi T.free_isinstance (vpa_cons (vp_name 0) (vpa_cons (vp_of (ve_tyname T.free_str)) vpa_nil))) (ve_and (ve_cmp (opd_ne hr.units) (vp_name 0) (vp_of (ve_str [])) (nomark _)) (ve_one (ve_callB (cad_all rfl) T.free_all (vpa_cons (vp_of (ve_of_n (vn_comp [("sign", 1)] rfl hN (by decide) (vi_str (ve_name 0)) (fun _ _ _ _ _ => (vg_name 1 hN)) (fun _ _ _ _ _ => vts_nil) (fun _ _ _ _ _ => (ve_cmp opd_in (vp_name 1) (vp_of (ve_gstr c_SIGNS rfl T.s_SIGNS)) (by rfl))) (blkOk_by (N := n_is_name) (sc := defScope s_is_name) (by decide +kernel))))) vpa_nil)))))))
theorem fo_is_name (T : Tx K mg base) : FoA P w K mg base 1 (He.ga K "is_name") ["thing"] [] f_is_name := by
  obtain ⟨fd, F⟩ := T.d_is_name
  exact fo_of F sc_is_name (F.bindsN fun _ _ _ _ _ _ us hl => match us, hl with | [_], _ => rfl) (dv_is_name T)
abbrev n_shut_at : List Str := ["lines", "told", "at", "number"]
theorem sc_shut_at : FnScope n_shut_at ["lines", "told"] (defScope s_shut_at) := ⟨rfl, rfl, rfl, by decide +kernel, rfl, by decide +kernel, by decide +kernel⟩
def p1_shut_at : EM Fl := (fIf (fAnd (fBinT (vIs true) (fPeek 3) (fD (mP .non))) (fNot (fTru (fD (fFld "Line" "lets" (fBin vIx (fPeek 0) (fPeek 3)))))))
  (fRet (fName 2))
  (mP .nx))
def b_shut_at : EM Fl := (fSeq (fFor (fItA enumOf (fCons (fName 1) (mP []))) (stTup 2 (stCons (stN 2) (stCons (stN 3) stNil)))
  p1_shut_at)
  (fRet (mP .non)))
def f_shut_at : List Da → Res := fnRun 2 4 b_shut_at
theorem dv_shut_at (T : Tx K mg base) : Dv P w K mg base n_shut_at "shut_at" s_shut_at (He.ga K "shut_at") 0 b_shut_at := fun cdv A outer s H E hr =>
  have hN := (sc_shut_at).nd
  (vss_cons (vs_for PassesOwn.never rfl (vi_enum T.free_enumerate (va_cons (ve_name 1) va_nil)) (vg_tup (n := 2) rfl (vgs_cons (vg_name 2 hN) (vgs_cons (vg_name 3 hN) vgs_nil)))
  (vss_one (vs_if (vt_w (vw_and (vt_cmp opd_isnot (vp_name 3) (vp_of ve_non) (nomark _)) (vw_and1 (vt_not (vt_tru (vp_of (ve_fld (c := "Line") T.cls_Line T.na_Line_lets (ve_ix (vp_name 0) (vp_name 3)))))))))
  (vss_one (vs_ret (ve_name 2)))
  vss_nil)))
  (vss_one (vs_ret ve_non)))
theorem fo_shut_at (T : Tx K mg base) : FoA P w K mg base 1 (He.ga K "shut_at") ["lines", "told"] [] f_shut_at := by
  obtain ⟨fd, F⟩ := T.d_shut_at
  exact fo_of F sc_shut_at (F.bindsN fun _ _ _ _ _ _ us hl => match us, hl with | [_, _], _ => rfl) (dv_shut_at T)
abbrev n__law_made : List Str := ["_law_line_here", "_law_pool_here", "_law_number", "_law_names", "_law_piece", "_law_name", "_law_mark_here"]
theorem sc__law_made : FnScope n__law_made ["_law_line_here", "_law_pool_here", "_law_number"] (defScope s__law_made) := ⟨rfl, rfl, rfl, by decide +kernel, rfl, by decide +kernel, by decide +kernel⟩
def p1__law_made : EM Bool := (fAnd (fBinT (vEq true) (fPeek 6) (fD (mP (.str [42])))) (fBinT (vEq true) (fPeek 6) (fD (mP (.str [])))))
def p2__law_made : EM Da := (fBin vIx (fPeek 6) (fD (fBin vMod (fD (fBin vFdiv (fPeek 2) (fD (mP (.int 5))))) (fD (fCall vLen (fCons (fPeek 6) (mP [])))))))
def p3__law_made : EM Fl := (fIf (fBinT (vIs false) (fPeek 4) (fD (mP .non)))
  (fExpr (fExt 3 (fBin vMul (fD (fN (fLst (fCons (fBin vIx (fPeek 1) (fD (mP (.int 1)))) (mP []))))) (fD (fBin vMod (fPeek 2) (fD (mP (.int 3))))))))
  (fSeq (fAsg 5 (fMs sJoin (mP (.str [])) (fCons (fD (fN (fComp [6] (fIt itemsL (fName 4)) (stN 6) p1__law_made p2__law_made))) (mP []))))
  (fExpr (fApp 3 (fIf (fBinT (vEq true) (fPeek 5) (fD (mP (.str [])))) (fName 5) (fBin vIx (fPeek 1) (fD (mP (.int 0)))))))))
def b__law_made : EM Fl := (fSeq (fAsgN 3 (fLst (mP [])))
  (fSeq (fFor (fIt itemsL (fBin vIx (fPeek 0) (fD (mP (.int 1))))) (stN 4)
  p3__law_made)
  (fRet (fIf (fBinT (vEq true) (fPeek 3) (fD (fN (fLst (mP []))))) (fMs sJoin (mP (.str [47])) (fCons (fPeek 3) (mP []))) (fBin vIx (fPeek 1) (fD (mP (.int 2))))))))
def f__law_made : List Da → Res := fnRun 3 7 b__law_made
theorem dv__law_made (T : Tx K mg base) : Dv P w K mg base n__law_made "_law_made" s__law_made (He.ga K "_law_made") 0 b__law_made := fun cdv A outer s H E hr =>
  have hN := (sc__law_made).nd
  (vss_cons (vs_setN 3 hN (vn_lst va_nil))
  (vss_cons (vs_for PassesOwn.never rfl (vi_list (ve_ix (vp_name 0) (vp_of ve_int))) (vg_name 4 hN)
  (vss_one (vs_if (vt_cmp opd_is (vp_name 4) (vp_of ve_non) (nomark _))
  (vss_one (vs_expr (ve_ext 3 (ve_bin opd_mul (vp_of (ve_of_n (vn_lst (va_cons (ve_ix (vp_name 1) (vp_of ve_int)) va_nil)))) (vp_of (ve_bin opd_mod (vp_name 2) (vp_of ve_int)))))))
  (vss_cons (vs_set 5 hN (ve_ms PySem.F.slot_str_join PySem.F.type_str_join ms_join (ve_str []) (vpa_cons (vp_of (ve_of_n (vn_comp [("_law_mark_here", 6)] rfl hN (by decide) (vi_list (ve_name 4)) (fun _ _ _ _ _ => (vg_name 6 hN)) (fun _ _ _ _ _ => (vts_one (vt_w (vw_and (vt_cmp (opd_ne hr.units) (vp_name 6) (vp_of (ve_str [42])) (nomark _)) (vw_and1 (vt_cmp (opd_ne hr.units) (vp_name 6) (vp_of (ve_str [])) (nomark _))))))) (fun _ _ _ _ _ => (ve_ix (vp_name 6) (vp_of (ve_bin opd_mod (vp_of (ve_bin opd_fdiv (vp_name 2) (vp_of ve_int))) (vp_of (ve_callB cad_len T.free_len (vpa_cons (vp_name 6) vpa_nil))))))) (blkOk_by (N := n__law_made) (sc := defScope s__law_made) (by decide +kernel))))) vpa_nil)))
  (vss_one (vs_expr (ve_app 3 (ve_if (vt_cmp (opd_ne hr.units) (vp_name 5) (vp_of (ve_str [])) (nomark _)) (ve_name 5) (ve_ix (vp_name 1) (vp_of ve_int))))))))))
  (vss_one (vs_ret (ve_if (vt_cmp (opd_ne hr.units) (vp_name 3) (vp_of (ve_of_n (vn_lst va_nil))) (nomark _)) (ve_ms PySem.F.slot_str_join PySem.F.type_str_join ms_join (ve_str [47]) (vpa_cons (vp_name 3) vpa_nil)) (ve_ix (vp_name 1) (vp_of ve_int)))))))
theorem fo__law_made (T : Tx K mg base) : FoA P w K mg base 1 (He.ga K "_law_made") ["_law_line_here", "_law_pool_here", "_law_number"] [] f__law_made := by
  obtain ⟨fd, F⟩ := T.d__law_made
  exact fo_of F sc__law_made (F.bindsN fun _ _ _ _ _ _ us hl => match us, hl with | [_, _, _], _ => rfl) (dv__law_made T)
abbrev n__law_cell_at : List Str := ["_law_script", "_law_k"]
theorem sc__law_cell_at : FnScope n__law_cell_at ["_law_script", "_law_k"] (defScope s__law_cell_at) := ⟨rfl, rfl, rfl, by decide +kernel, rfl, by decide +kernel, by decide +kernel⟩
def b__law_cell_at : EM Fl := (fSeq (fIf (fBinT vLt (fPeek 1) (fD (fCall vLen (fCons (fPeek 0) (mP [])))))
  (fRet (fCall vAbs (fCons (fD (fBin vIx (fPeek 0) (fPeek 1))) (mP []))))
  (mP .nx))
  (fRet (fDef f__law_draw [] (fCons (fBin vAdd (fD (fCall vAbs (fCons (fD (fCall vSum (fCons (fPeek 0) (mP [])))) (mP [])))) (fD (fBin vMul (fD (mP (.int 7919))) (fPeek 1)))) (fCons (fName 1) (fCons (mP (.int 999983)) (mP [])))))))
def f__law_cell_at : List Da → Res := fnRun 2 2 b__law_cell_at
theorem dv__law_cell_at (T : Tx K mg base) : Dv P w K mg base n__law_cell_at "_law_cell_at" s__law_cell_at (He.ga K "_law_cell_at") 1 b__law_cell_at := fun cdv A outer s H E hr =>
  have hN := (sc__law_cell_at).nd
  (vss_cons (vs_if (vt_cmp opd_lt (vp_name 1) (vp_of (ve_callB cad_len T.free_len (vpa_cons (vp_name 0) vpa_nil))) (nomark _))
  (vss_one (vs_ret (ve_callB cad_abs T.free_abs (vpa_cons (vp_of (ve_ix (vp_name 0) (vp_name 1))) vpa_nil))))
  vss_nil)
  (vss_one (vs_ret (ve_call (fo__law_draw T) T.g__law_draw (hr.mono (by decide)) (va_cons (ve_bin opd_add (vp_of (ve_callB cad_abs T.free_abs (vpa_cons (vp_of (ve_callB (cad_sum rfl) T.free_sum (vpa_cons (vp_name 0) vpa_nil))) vpa_nil))) (vp_of (ve_bin opd_mul (vp_of ve_int) (vp_name 1)))) (va_cons (ve_name 1) (va_cons ve_int va_nil)))))))
theorem fo__law_cell_at (T : Tx K mg base) : FoA P w K mg base 2 (He.ga K "_law_cell_at") ["_law_script", "_law_k"] [] f__law_cell_at := by
  obtain ⟨fd, F⟩ := T.d__law_cell_at
  exact fo_of F sc__law_cell_at (F.bindsN fun _ _ _ _ _ _ us hl => match us, hl with | [_, _], _ => rfl) (dv__law_cell_at T)
abbrev n__law_mark : List Str := ["_law_number", "_law_pool_here", "_law_starred", "_law_kind", "_law_rest", "_law_some_here", "_law_due", "_law_sign"]
theorem sc__law_mark : FnScope n__law_mark ["_law_number", "_law_pool_here", "_law_starred"] (defScope s__law_mark) := ⟨rfl, rfl, rfl, by decide +kernel, rfl, by decide +kernel, by decide +kernel⟩
def p1__law_mark : EM Bool := (fBinT (vEq false) (fD (fBin (vIn false) (fPeek 7) (fPeek 5))) (fPeek 6))
def p2__law_mark : EM Da := (fName 7)
def b__law_mark : EM Fl := (fSeq (fPar2 3 4 (fCv (fBin vMod (fPeek 0) (fD (mP (.int 6)))) (fCv (fBin vFdiv (fPeek 0) (fD (mP (.int 6)))) (mP []))))
  (fSeq (fIf (fAnd (fBinT (vEq false) (fPeek 3) (fD (mP (.int 0)))) (fNot (fTru (fPeek 2))))
  (fRet (mP (.str [42])))
  (mP .nx))
  (fSeq (fIf (fBinT (vEq false) (fPeek 3) (fD (mP (.int 1))))
  (fRet (fDef f__law_signs [] (mP [])))
  (mP .nx))
  (fSeq (fIf (fOr (fBinT vGt (fPeek 3) (fD (mP (.int 3)))) (fBinT (vEq false) (fPeek 3) (fD (mP (.int 0)))))
  (fRet (fBin vIx (fPeek 1) (fD (fBin vMod (fPeek 4) (fD (mP (.int 4)))))))
  (mP .nx))
  (fSeq (fIf (fBinT (vEq false) (fD (fBin vMod (fPeek 4) (fD (mP (.int 9))))) (fD (mP (.int 4))))
  (fRet (mP (.str [])))
  (mP .nx))
  (fSeq (fAsg 5 (fBin vAdd (fD (fBin vIx (fPeek 1) (fD (fBin vMod (fPeek 4) (fD (mP (.int 4))))))) (fD (fBin vIx (fPeek 1) (fD (fBin vMod (fD (fBin vFdiv (fPeek 4) (fD (mP (.int 4))))) (fD (mP (.int 4)))))))))
  (fSeq (fAug 5 vAugAdd (fBin vIx (fPeek 1) (fD (fBin vMod (fD (fBin vFdiv (fPeek 4) (fD (mP (.int 16))))) (fD (mP (.int 4)))))))
  (fSeq (fAsg 6 (fBin (vEq false) (fPeek 3) (fD (mP (.int 2)))))
  (fRet (fMs sJoin (mP (.str [])) (fCons (fD (fN (fComp [7] (fIt itemsS (fDef f__law_signs [] (mP []))) (stN 7) p1__law_mark p2__law_mark))) (mP []))))))))))))
def f__law_mark : List Da → Res := fnRun 3 8 b__law_mark
theorem dv__law_mark (T : Tx K mg base) : Dv P w K mg base n__law_mark "_law_mark" s__law_mark (He.ga K "_law_mark") 1 b__law_mark := fun cdv A outer s H E hr =>
  have hN := (sc__law_mark).nd
  (vss_cons (vs_par2 3 4 rfl hN (vc_v (ve_bin opd_mod (vp_name 0) (vp_of ve_int)) (vc_v (ve_bin opd_fdiv (vp_name 0) (vp_of ve_int)) vc_nil)))
  (vss_cons (vs_if (vt_w (vw_and (vt_cmp (opd_eq hr.units) (vp_name 3) (vp_of ve_int) (nomark _)) (vw_and1 (vt_not (vt_tru (vp_name 2))))))
  (vss_one (vs_ret (ve_str [42])))
  vss_nil)
  (vss_cons (vs_if (vt_cmp (opd_eq hr.units) (vp_name 3) (vp_of ve_int) (nomark _))
  (vss_one (vs_ret (ve_call0 (fo__law_signs T) T.g__law_signs (hr.mono (by decide)))))
  vss_nil)
  (vss_cons (vs_if (vt_w (vw_or (vt_cmp opd_gt (vp_name 3) (vp_of ve_int) (nomark _)) (vw_or1 (vt_cmp (opd_eq hr.units) (vp_name 3) (vp_of ve_int) (nomark _)))))
  (vss_one (vs_ret (ve_ix (vp_name 1) (vp_of (ve_bin opd_mod (vp_name 4) (vp_of ve_int))))))
  vss_nil)
  (vss_cons (vs_if (vt_cmp (opd_eq hr.units) (vp_of (ve_bin opd_mod (vp_name 4) (vp_of ve_int))) (vp_of ve_int) (nomark _))
  (vss_one (vs_ret (ve_str [])))
  vss_nil)
  (vss_cons (vs_set 5 hN (ve_bin opd_add (vp_of (ve_ix (vp_name 1) (vp_of (ve_bin opd_mod (vp_name 4) (vp_of ve_int))))) (vp_of (ve_ix (vp_name 1) (vp_of (ve_bin opd_mod (vp_of (ve_bin opd_fdiv (vp_name 4) (vp_of ve_int))) (vp_of ve_int)))))))
  (vss_cons (vs_aug 5 ppd_add hN (ve_ix (vp_name 1) (vp_of (ve_bin opd_mod (vp_of (ve_bin opd_fdiv (vp_name 4) (vp_of ve_int))) (vp_of ve_int)))))
  (vss_cons (vs_set 6 hN (ve_cmp (opd_eq hr.units) (vp_name 3) (vp_of ve_int) (nomark _)))
  (vss_one (vs_ret (ve_ms PySem.F.slot_str_join PySem.F.type_str_join ms_join (ve_str []) (vpa_cons (vp_of (ve_of_n (vn_comp [("_law_sign", 7)] rfl hN (by decide) (vi_str (ve_call0 (fo__law_signs T) T.g__law_signs (hr.mono (by decide)))) (fun _ _ _ _ _ => (vg_name 7 hN)) (fun _ _ _ _ _ => (vts_one (vt_cmp (opd_eq hr.units) (vp_of (ve_cmp opd_in (vp_name 7) (vp_name 5) (by rfl))) (vp_name 6) (nomark _)))) (fun _ _ _ _ _ => (ve_name 7)) (blkOk_by (N := n__law_mark) (sc := defScope s__law_mark) (by decide +kernel))))) vpa_nil))))))))))))
theorem fo__law_mark (T : Tx K mg base) : FoA P w K mg base 2 (He.ga K "_law_mark") ["_law_number", "_law_pool_here", "_law_starred"] [] f__law_mark := by
  obtain ⟨fd, F⟩ := T.d__law_mark
  exact fo_of F sc__law_mark (F.bindsN fun _ _ _ _ _ _ us hl => match us, hl with | [_, _, _], _ => rfl) (dv__law_mark T)
abbrev n__law_mark_plain : List Str := ["_law_signs_here", "_law_found", "_law_run", "_law_sign"]
theorem sc__law_mark_plain : FnScope n__law_mark_plain ["_law_signs_here"] (defScope s__law_mark_plain) := ⟨rfl, rfl, rfl, by decide +kernel, rfl, by decide +kernel, by decide +kernel⟩
def p1__law_mark_plain : EM Fl := (fIf (fAnd (fBinT (vEq true) (fPeek 3) (fD (mP (.str [33])))) (fBinT (vIn false) (fPeek 3) (fPeek 0)))
  (fAug 2 vAugAdd (fName 3))
  (fSeq (fAug 1 vAugAdd (fIf (fBinT vLt (fD (fCall vLen (fCons (fPeek 2) (mP [])))) (fD (mP (.int 3)))) (fName 2) (fBin vAdd (fD (fBin vAdd (fD (fBin vIx (fPeek 2) (fD (mP (.int 0))))) (fD (mP (.str [45]))))) (fD (fBin vIx (fPeek 2) (fD (fNeg (mP (.int 1)))))))))
  (fAsg 2 (mP (.str [])))))
def b__law_mark_plain : EM Fl := (fSeq (fIf (fOr (fBinT (vEq false) (fPeek 0) (fD (mP (.str [42])))) (fBinT (vEq false) (fD (fCall vLen (fCons (fPeek 0) (mP [])))) (fD (mP (.int 1)))))
  (fRet (fName 0))
  (mP .nx))
  (fSeq (fIf (fBinT (vEq false) (fPeek 0) (fD (fDef f__law_signs [] (mP []))))
  (fRet (mP (.str [63])))
  (mP .nx))
  (fSeq (fIf (fBinT (vEq false) (fPeek 0) (fD (mP (.str []))))
  (fRet (mP (.str [91, 33, 46, 45, 122, 93])))
  (mP .nx))
  (fSeq (fTo (stTup 2 (stCons (stN 1) (stCons (stN 2) stNil))) (fTup (fCons (mP (.str [])) (fCons (mP (.str [])) (mP [])))))
  (fSeq (fFor (fIt itemsS (fBin vAdd (fD (fDef f__law_signs [] (mP []))) (fD (mP (.str [33]))))) (stN 3)
  p1__law_mark_plain)
  (fRet (fBin vAdd (fD (fBin vAdd (fD (mP (.str [91]))) (fPeek 1))) (fD (mP (.str [93]))))))))))
def f__law_mark_plain : List Da → Res := fnRun 1 4 b__law_mark_plain
theorem dv__law_mark_plain (T : Tx K mg base) : Dv P w K mg base n__law_mark_plain "_law_mark_plain" s__law_mark_plain (He.ga K "_law_mark_plain") 1 b__law_mark_plain := fun cdv A outer s H E hr =>
  have hN := (sc__law_mark_plain).nd
  (vss_cons (vs_if (vt_w (vw_or (vt_cmp (opd_eq hr.units) (vp_name 0) (vp_of (ve_str [42])) (nomark _)) (vw_or1 (vt_cmp (opd_eq hr.units) (vp_of (ve_callB cad_len T.free_len (vpa_cons (vp_name 0) vpa_nil))) (vp_of ve_int) (nomark _)))))
  (vss_one (vs_ret (ve_name 0)))
  vss_nil)
  (vss_cons (vs_if (vt_cmp (opd_eq hr.units) (vp_name 0) (vp_of (ve_call0 (fo__law_signs T) T.g__law_signs (hr.mono (by decide)))) (nomark _))
  (vss_one (vs_ret (ve_str [63])))
  vss_nil)
  (vss_cons (vs_if (vt_cmp (opd_eq hr.units) (vp_name 0) (vp_of (ve_str [])) (nomark _))
  (vss_one (vs_ret (ve_str [91, 33, 46, 45, 122, 93])))
  vss_nil)
  (vss_cons (vs_asg (ve_tup (va_cons (ve_str []) (va_cons (ve_str []) va_nil))) (vg_tup (n := 2) rfl (vgs_cons (vg_name 1 hN) (vgs_cons (vg_name 2 hN) vgs_nil))))
  (vss_cons (vs_for PassesOwn.never rfl (vi_str (ve_bin opd_add (vp_of (ve_call0 (fo__law_signs T) T.g__law_signs (hr.mono (by decide)))) (vp_of (ve_str [33])))) (vg_name 3 hN)
  (vss_one (vs_if (vt_w (vw_and (vt_cmp (opd_ne hr.units) (vp_name 3) (vp_of (ve_str [33])) (nomark _)) (vw_and1 (vt_cmp opd_in (vp_name 3) (vp_name 0) (by rfl)))))
  (vss_one (vs_aug 2 ppd_add hN (ve_name 3)))
  (vss_cons (vs_aug 1 ppd_add hN (ve_if (vt_cmp opd_lt (vp_of (ve_callB cad_len T.free_len (vpa_cons (vp_name 2) vpa_nil))) (vp_of ve_int) (nomark _)) (ve_name 2) (ve_bin opd_add (vp_of (ve_bin opd_add (vp_of (ve_ix (vp_name 2) (vp_of ve_int))) (vp_of (ve_str [45])))) (vp_of (ve_ix (vp_name 2) (vp_of (ve_neg ve_int)))))))
  (vss_one (vs_set 2 hN (ve_str [])))))))
  (vss_one (vs_ret (ve_bin opd_add (vp_of (ve_bin opd_add (vp_of (ve_str [91])) (vp_name 1))) (vp_of (ve_str [93]))))))))))
theorem fo__law_mark_plain (T : Tx K mg base) : FoA P w K mg base 2 (He.ga K "_law_mark_plain") ["_law_signs_here"] [] f__law_mark_plain := by
  obtain ⟨fd, F⟩ := T.d__law_mark_plain
  exact fo_of F sc__law_mark_plain (F.bindsN fun _ _ _ _ _ _ us hl => match us, hl with | [_], _ => rfl) (dv__law_mark_plain T)
abbrev n_Reader_take : List Str := ["self", "sign"]
theorem sc_Reader_take : FnScope n_Reader_take ["self", "sign"] (defScope s_Reader_take) := ⟨rfl, rfl, rfl, by decide +kernel, rfl, by decide +kernel, by decide +kernel⟩
def b_Reader_take : EM Fl := (fSeq (fIf (fBinT (vEq true) (fD (fMIO "Reader" "here" f_Reader_here 0 (mP []))) (fPeek 1))
  (fRet (mP (.bl false)))
  (mP .nx))
  (fSeq (fFldAug "Reader" "place" 0 (mP (.int 1)))
  (fRet (mP (.bl true)))))
def f_Reader_take : List (Str × Da) → List Da → Option (Da × List (Str × Da)) := ioRun 2 2 "Reader" b_Reader_take
theorem dv_Reader_take (T : Tx K mg base) : Dv P w K mg base n_Reader_take "Reader.take" s_Reader_take (He.ma K (He.ga K "Reader") "take") 1 b_Reader_take := fun cdv A outer s H E hr =>
  have hN := (sc_Reader_take).nd
  (vss_cons (vs_if (vt_cmp (opd_ne hr.units) (vp_of (ve_methIO0 0 T.cls_Reader T.mt_Reader_here (fo_Reader_here T) (hr.mono (by decide)))) (vp_name 1) (nomark _))
  (vss_one (vs_ret ve_bl))
  vss_nil)
  (vss_cons (vs_fldaugO (c := "Reader") 0 T.cls_Reader T.na_Reader_place ve_int)
  (vss_one (vs_ret ve_bl))))
theorem fo_Reader_take (T : Tx K mg base) : FoIO P w K mg base 2 (He.ma K (He.ga K "Reader") "take") ["self", "sign"] "Reader" f_Reader_take := by
  obtain ⟨fd, F⟩ := T.d_Reader_take
  exact io_of F sc_Reader_take (F.bindsN fun _ _ _ _ _ _ us hl => match us, hl with | [_, _], _ => rfl) (by decide) (dv_Reader_take T)
abbrev n_Reader_one_of : List Str := ["self", "signs", "sign"]
theorem sc_Reader_one_of : FnScope n_Reader_one_of ["self", "signs"] (defScope s_Reader_one_of) := ⟨rfl, rfl, rfl, by decide +kernel, rfl, by decide +kernel, by decide +kernel⟩
def b_Reader_one_of : EM Fl := (fSeq (fAsg 2 (fMIO "Reader" "here" f_Reader_here 0 (mP [])))
  (fSeq (fIf (fOr (fBinT (vEq false) (fPeek 2) (fD (mP (.str [])))) (fBinT (vIn true) (fPeek 2) (fPeek 1)))
  fStuck
  (mP .nx))
  (fSeq (fFldAug "Reader" "place" 0 (mP (.int 1)))
  (fRet (fName 2)))))
def f_Reader_one_of : List (Str × Da) → List Da → Option (Da × List (Str × Da)) := ioRun 2 3 "Reader" b_Reader_one_of
theorem dv_Reader_one_of (T : Tx K mg base) : Dv P w K mg base n_Reader_one_of "Reader.one_of" s_Reader_one_of (He.ma K (He.ga K "Reader") "one_of") 1 b_Reader_one_of := fun cdv A outer s H E hr =>
  have hN := (sc_Reader_one_of).nd
  (vss_cons (vs_set 2 hN (ve_methIO0 0 T.cls_Reader T.mt_Reader_here (fo_Reader_here T) (hr.mono (by decide))))
  (vss_cons (vs_if (vt_w (vw_or (vt_cmp (opd_eq hr.units) (vp_name 2) (vp_of (ve_str [])) (nomark _)) (vw_or1 (vt_cmp opd_notin (vp_name 2) (vp_name 1) (by rfl)))))
  (vss_one vs_never)
  vss_nil)
  (vss_cons (vs_fldaugO (c := "Reader") 0 T.cls_Reader T.na_Reader_place ve_int)
  (vss_one (vs_ret (ve_name 2))))))
theorem fo_Reader_one_of (T : Tx K mg base) : FoIO P w K mg base 2 (He.ma K (He.ga K "Reader") "one_of") ["self", "signs"] "Reader" f_Reader_one_of := by
  obtain ⟨fd, F⟩ := T.d_Reader_one_of
  exact io_of F sc_Reader_one_of (F.bindsN fun _ _ _ _ _ _ us hl => match us, hl with | [_, _], _ => rfl) (by decide) (dv_Reader_one_of T)
abbrev n_Marks_begins : List Str := ["self"]
theorem sc_Marks_begins : FnScope n_Marks_begins ["self"] (defScope s_Marks_begins) := ⟨rfl, rfl, rfl, by decide +kernel, rfl, by decide +kernel, by decide +kernel⟩
def b_Marks_begins : EM Fl := (fRet (fMeth "Marks" "passed" f_Marks_passed [] (fName 0) (fCons (mP (.int 0)) (mP []))))
def f_Marks_begins : List Da → Res := fnRun 1 1 b_Marks_begins
theorem dv_Marks_begins (T : Tx K mg base) : Dv P w K mg base n_Marks_begins "Marks.begins" s_Marks_begins (He.ma K (He.ga K "Marks") "begins") 1 b_Marks_begins := fun cdv A outer s H E hr =>
  have hN := (sc_Marks_begins).nd
  (vss_one (vs_ret (ve_meth T.cls_Marks T.mt_Marks_passed (fo_Marks_passed T) (hr.mono (by decide)) (ve_name 0) (va_cons ve_int va_nil))))
theorem fo_Marks_begins (T : Tx K mg base) : FoA P w K mg base 2 (He.ma K (He.ga K "Marks") "begins") ["self"] [] f_Marks_begins := by
  obtain ⟨fd, F⟩ := T.d_Marks_begins
  exact fo_of F sc_Marks_begins (F.bindsN fun _ _ _ _ _ _ us hl => match us, hl with | [_], _ => rfl) (dv_Marks_begins T)
abbrev n_Marks_moves : List Str := ["self", "spot", "sign"]
theorem sc_Marks_moves : FnScope n_Marks_moves ["self", "spot", "sign"] (defScope s_Marks_moves) := ⟨rfl, rfl, rfl, by decide +kernel, rfl, by decide +kernel, by decide +kernel⟩
def b_Marks_moves : EM Fl := (fSeq (fIf (fBinT (vEq false) (fPeek 1) (fD (fCall vLen (fCons (fD (fFld "Marks" "marks" (fName 0))) (mP [])))))
  (fRet (fN (fLst (mP []))))
  (mP .nx))
  (fSeq (fIf (fBinT (vEq false) (fD (fBin vIx (fD (fFld "Marks" "marks" (fName 0))) (fPeek 1))) (fD (mP (.str c_STAR))))
  (fRet (fMeth "Marks" "passed" f_Marks_passed [] (fName 0) (fCons (fName 1) (mP []))))
  (mP .nx))
  (fRet (fIf (fBinT (vIn false) (fPeek 2) (fD (fBin vIx (fD (fFld "Marks" "marks" (fName 0))) (fPeek 1)))) (fMeth "Marks" "passed" f_Marks_passed [] (fName 0) (fCons (fBin vAdd (fPeek 1) (fD (mP (.int 1)))) (mP []))) (fN (fLst (mP [])))))))
def f_Marks_moves : List Da → Res := fnRun 3 3 b_Marks_moves
theorem dv_Marks_moves (T : Tx K mg base) : Dv P w K mg base n_Marks_moves "Marks.moves" s_Marks_moves (He.ma K (He.ga K "Marks") "moves") 1 b_Marks_moves := fun cdv A outer s H E hr =>
  have hN := (sc_Marks_moves).nd
  (vss_cons (vs_if (vt_cmp (opd_eq hr.units) (vp_name 1) (vp_of (ve_callB cad_len T.free_len (vpa_cons (vp_of (ve_fld (c := "Marks") T.cls_Marks T.na_Marks_marks (ve_name 0))) vpa_nil))) (nomark _))
  (vss_one (vs_ret (ve_of_n (vn_lst va_nil))))
  vss_nil)
  (vss_cons (vs_if (vt_cmp (opd_eq hr.units) (vp_of (ve_ix (vp_of (ve_fld (c := "Marks") T.cls_Marks T.na_Marks_marks (ve_name 0))) (vp_name 1))) (vp_of (ve_gstr c_STAR rfl T.s_STAR)) (nomark _))
  (vss_one (vs_ret (ve_meth T.cls_Marks T.mt_Marks_passed (fo_Marks_passed T) (hr.mono (by decide)) (ve_name 0) (va_cons (ve_name 1) va_nil))))
  vss_nil)
  (vss_one (vs_ret (ve_if (vt_cmp opd_in (vp_name 2) (vp_of (ve_ix (vp_of (ve_fld (c := "Marks") T.cls_Marks T.na_Marks_marks (ve_name 0))) (vp_name 1))) (by rfl)) (ve_meth T.cls_Marks T.mt_Marks_passed (fo_Marks_passed T) (hr.mono (by decide)) (ve_name 0) (va_cons (ve_bin opd_add (vp_name 1) (vp_of ve_int)) va_nil)) (ve_of_n (vn_lst va_nil)))))))
theorem fo_Marks_moves (T : Tx K mg base) : FoA P w K mg base 2 (He.ma K (He.ga K "Marks") "moves") ["self", "spot", "sign"] [] f_Marks_moves := by
  obtain ⟨fd, F⟩ := T.d_Marks_moves
  exact fo_of F sc_Marks_moves (F.bindsN fun _ _ _ _ _ _ us hl => match us, hl with | [_, _, _], _ => rfl) (dv_Marks_moves T)
abbrev n_Line_closed : List Str := ["self", "numbers", "found", "number"]
theorem sc_Line_closed : FnScope n_Line_closed ["self", "numbers"] (defScope s_Line_closed) := ⟨rfl, rfl, rfl, by decide +kernel, rfl, by decide +kernel, by decide +kernel⟩
def p1_Line_closed : EM Fl := (fIf (fOr (fBinT (vIn false) (fPeek 3) (fPeek 1)) (fAnd (fBinT (vIn false) (fD (fBin vSub (fPeek 3) (fD (mP (.int 1))))) (fPeek 2)) (fTru (fD (fAlt (fMeth "Names" "many" f_Names_many [] (fBin vIx (fD (fFld "Line" "pieces" (fName 0))) (fD (fBin vSub (fPeek 3) (fD (mP (.int 1)))))) (mP [])) (fMeth "Marks" "many" f_Marks_many [] (fBin vIx (fD (fFld "Line" "pieces" (fName 0))) (fD (fBin vSub (fPeek 3) (fD (mP (.int 1)))))) (mP [])))))))
  (fExpr (fApp 2 (fName 3)))
  (mP .nx))
def b_Line_closed : EM Fl := (fSeq (fAsgN 2 (fLst (mP [])))
  (fSeq (fFor (fItA rng1 (fCons (fBin vAdd (fD (fCall vLen (fCons (fD (fFld "Line" "pieces" (fName 0))) (mP [])))) (fD (mP (.int 1)))) (mP []))) (stN 3)
  p1_Line_closed)
  (fRet (fName 2))))
def f_Line_closed : List Da → Res := fnRun 2 4 b_Line_closed
theorem dv_Line_closed (T : Tx K mg base) : Dv P w K mg base n_Line_closed "Line.closed" s_Line_closed (He.ma K (He.ga K "Line") "closed") 1 b_Line_closed := fun cdv A outer s H E hr =>
  have hN := (sc_Line_closed).nd
  (vss_cons (vs_setN 2 hN (vn_lst va_nil))
  (vss_cons (vs_for PassesOwn.never rfl (vi_range1 T.free_range (va_cons (ve_bin opd_add (vp_of (ve_callB cad_len T.free_len (vpa_cons (vp_of (ve_fld (c := "Line") T.cls_Line T.na_Line_pieces (ve_name 0))) vpa_nil))) (vp_of ve_int)) va_nil)) (vg_name 3 hN)
  (vss_one (vs_if (vt_w (vw_or (vt_cmp opd_in (vp_name 3) (vp_name 1) (by rfl)) (vw_or1 (vt_w (vw_and (vt_cmp opd_in (vp_of (ve_bin opd_sub (vp_name 3) (vp_of ve_int))) (vp_name 2) (by rfl)) (vw_and1 (vt_tru (vp_of (ve_alt (ve_meth0 T.cls_Names T.mt_Names_many (fo_Names_many T) (hr.mono (by decide)) (ve_ix (vp_of (ve_fld (c := "Line") T.cls_Line T.na_Line_pieces (ve_name 0))) (vp_of (ve_bin opd_sub (vp_name 3) (vp_of ve_int))))) (ve_meth0 T.cls_Marks T.mt_Marks_many (fo_Marks_many T) (hr.mono (by decide)) (ve_ix (vp_of (ve_fld (c := "Line") T.cls_Line T.na_Line_pieces (ve_name 0))) (vp_of (ve_bin opd_sub (vp_name 3) (vp_of ve_int))))))))))))))
  (vss_one (vs_expr (ve_app 2 (ve_name 3))))
  vss_nil)))
  (vss_one (vs_ret (ve_name 2)))))
theorem fo_Line_closed (T : Tx K mg base) : FoA P w K mg base 2 (He.ma K (He.ga K "Line") "closed") ["self", "numbers"] [] f_Line_closed := by
  obtain ⟨fd, F⟩ := T.d_Line_closed
  exact fo_of F sc_Line_closed (F.bindsN fun _ _ _ _ _ _ us hl => match us, hl with | [_, _], _ => rfl) (dv_Line_closed T)
abbrev n_names_of : List Str := ["path", "names", "name"]
theorem sc_names_of : FnScope n_names_of ["path"] (defScope s_names_of) := ⟨rfl, rfl, rfl, by decide +kernel, rfl, by decide +kernel, by decide +kernel⟩
def p1_names_of : EM Da := (fDef f_is_name [] (fCons (fName 2) (mP [])))
def b_names_of : EM Fl := (fSeq (fIf (fOr (fNot (fTru (fD (fCall vIsi (fCons (fPeek 0) (fCons (fD (mP (.ty "str"))) (mP []))))))) (fBinT vGt (fD (fCall vLen (fCons (fPeek 0) (mP [])))) (fD (mP (.int 400)))))
  fStuck
  (mP .nx))
  (fSeq (fAsg 1 (fN (fMn sSplit (fName 0) (fCons (fD (mP (.str [47]))) (mP [])))))
  (fSeq (fIf (fNot (fTru (fD (fCall vAll (fCons (fD (fN (fComp [2] (fIt itemsL (fName 1)) (stN 2) (mP true) p1_names_of))) (mP []))))))
  fStuck
  (mP .nx))
  (fRet (fName 1)))))
def f_names_of : List Da → Res := fnRun 1 3 b_names_of
theorem dv_names_of (T : Tx K mg base) : Dv P w K mg base n_names_of "names_of" s_names_of (He.ga K "names_of") 1 b_names_of := fun cdv A outer s H E hr =>
  have hN := (sc_names_of).nd
  (vss_cons (vs_if (vt_w (vw_or (vt_not (vt_tru (vp_of (ve_callB cad_isi T.free_isinstance (vpa_cons (vp_name 0) (vpa_cons (vp_of (ve_tyname T.free_str)) vpa_nil)))))) (vw_or1 (vt_cmp opd_gt (vp_of (ve_callB cad_len T.free_len (vpa_cons (vp_name 0) vpa_nil))) (vp_of (ve_gint 400 rfl T.i_LONGEST)) (nomark _)))))
  (vss_one vs_never)
  vss_nil)
  (vss_cons (vs_set 1 hN (ve_of_n (vn_ms PySem.F.slot_str_split PySem.F.type_str_split ms_split (ve_name 0) (vpa_cons (vp_of (ve_str [47])) vpa_nil))))
  (vss_cons (vs_if (vt_not (vt_tru (vp_of (ve_callB (cad_all rfl) T.free_all (vpa_cons (vp_of (ve_of_n (vn_comp [("name", 2)] rfl hN (by decide) (vi_list (ve_name 1)) (fun _ _ _ _ _ => (vg_name 2 hN)) (fun _ _ _ _ _ => vts_nil) (fun _ _ _ _ _ => (ve_call (fo_is_name T) T.g_is_name (hr.mono (by decide)) (va_cons (ve_name 2) va_nil))) (blkOk_by (N := n_names_of) (sc := defScope s_names_of) (by decide +kernel))))) vpa_nil)))))
  (vss_one vs_never)
  vss_nil)
  (vss_one (vs_ret (ve_name 1))))))
theorem fo_names_of (T : Tx K mg base) : FoA P w K mg base 2 (He.ga K "names_of") ["path"] [] f_names_of := by
  obtain ⟨fd, F⟩ := T.d_names_of
  exact fo_of F sc_names_of (F.bindsN fun _ _ _ _ _ _ us hl => match us, hl with | [_], _ => rfl) (dv_names_of T)
abbrev n__law_parted1 : List Str := ["_law_signs_here", "_law_marks", "_law_fit", "_law_ends", "_law_mark_here", "_law_fresh", "_law_at"]
theorem sc__law_parted1 : FnScope n__law_parted1 ["_law_signs_here", "_law_marks", "_law_fit"] (defScope s__law_parted) := ⟨rfl, rfl, rfl, by decide +kernel, rfl, by decide +kernel, by decide +kernel⟩
def p1__law_parted1 : EM Fl := (fIf (fOr (fBinT (vIs false) (fPeek 4) (fD (mP .non))) (fBinT (vEq false) (fPeek 4) (fD (mP (.str [42])))))
  (fExpr (fApp 5 (fCall vAny (fCons (fD (fN (fSl vSlL (fPeek 3) (mP none) (fInt (fBin vAdd (fPeek 6) (fD (mP (.int 1)))))))) (mP [])))))
  (fExpr (fApp 5 (fAndV (fBin vGt (fPeek 6) (fD (mP (.int 0)))) (fAndV (fBin vIx (fPeek 3) (fD (fBin vSub (fPeek 6) (fD (mP (.int 1)))))) (fCallV (isLam 0) 2 f_lam0 (fCons (fName 4) (fCons (fBin vIx (fPeek 0) (fD (fBin vSub (fPeek 6) (fD (mP (.int 1)))))) (mP [])))))))))
def p2__law_parted1 : EM Fl := (fSeq (fAsgN 5 (fLst (mP [])))
  (fSeq (fFor (fItA rng1 (fCons (fBin vAdd (fD (fCall vLen (fCons (fPeek 0) (mP [])))) (fD (mP (.int 1)))) (mP []))) (stN 6)
  p1__law_parted1)
  (fAsg 3 (fName 5))))
def b__law_parted1 : EM Fl := (fSeq (fAsg 3 (fBin vAdd (fD (fN (fLst (fCons (mP (.bl true)) (mP []))))) (fD (fBin vMul (fD (fN (fLst (fCons (mP (.bl false)) (mP []))))) (fD (fCall vLen (fCons (fPeek 0) (mP []))))))))
  (fSeq (fFor (fIt itemsL (fName 1)) (stN 4)
  p2__law_parted1)
  (fRet (fName 3))))
def f__law_parted1 : List Da → Res := fnRun 3 7 b__law_parted1
theorem dv__law_parted1 (T : Tx K mg base) : Dv P w K mg base n__law_parted1 "_law_parted" s__law_parted (He.ga K "_law_parted") 1 b__law_parted1 := fun cdv A outer s H E hr =>
  have hN := (sc__law_parted1).nd
  (vss_cons (vs_set 3 hN (ve_bin opd_add (vp_of (ve_of_n (vn_lst (va_cons ve_bl va_nil)))) (vp_of (ve_bin opd_mul (vp_of (ve_of_n (vn_lst (va_cons ve_bl va_nil)))) (vp_of (ve_callB cad_len T.free_len (vpa_cons (vp_name 0) vpa_nil)))))))
  (vss_cons (vs_for PassesOwn.never rfl (vi_list (ve_name 1)) (vg_name 4 hN)
  (vss_cons (vs_setN 5 hN (vn_lst va_nil))
  (vss_cons (vs_for PassesOwn.never rfl (vi_range1 T.free_range (va_cons (ve_bin opd_add (vp_of (ve_callB cad_len T.free_len (vpa_cons (vp_name 0) vpa_nil))) (vp_of ve_int)) va_nil)) (vg_name 6 hN)
  (vss_one (vs_if (vt_w (vw_or (vt_cmp opd_is (vp_name 4) (vp_of ve_non) (nomark _)) (vw_or1 (vt_cmp (opd_eq hr.units) (vp_name 4) (vp_of (ve_str [42])) (nomark _)))))
  (vss_one (vs_expr (ve_app 5 (ve_callB (cad_any rfl) T.free_any (vpa_cons (vp_of (ve_of_n (vn_slL (vp_name 3) vo_none (vo_some (ve_bin opd_add (vp_name 6) (vp_of ve_int)))))) vpa_nil)))))
  (vss_one (vs_expr (ve_app 5 (ve_and (ve_cmp opd_gt (vp_name 6) (vp_of ve_int) (nomark _)) (ve_and (ve_ix (vp_name 3) (vp_of (ve_bin opd_sub (vp_name 6) (vp_of ve_int)))) (ve_one (ve_callLam 2 0 T.lamL0 (fo_lam0 T) (hr.mono (by decide)) (va_cons (ve_name 4) (va_cons (ve_ix (vp_name 0) (vp_of (ve_bin opd_sub (vp_name 6) (vp_of ve_int)))) va_nil))))))))))))
  (vss_one (vs_set 3 hN (ve_name 5))))))
  (vss_one (vs_ret (ve_name 3)))))
theorem fo__law_parted1 (T : Tx K mg base) : FoA P w K mg base 2 (He.ga K "_law_parted") ["_law_signs_here", "_law_marks", "_law_fit"] [] f__law_parted1 := by
  obtain ⟨fd, F⟩ := T.d__law_parted
  exact fo_of F sc__law_parted1 (F.bindsN fun _ _ _ _ _ _ us hl => match us, hl with | [_, _, _], _ => rfl) (dv__law_parted1 T)
abbrev n_LI : List Str := ["self", "lets", "pieces", "folders", "piece"]
theorem sc_LI : FnScope n_LI ["self", "lets", "pieces", "folders"] (defScope s_Line___init__) := ⟨rfl, rfl, rfl, by decide +kernel, rfl, by decide +kernel, by decide +kernel⟩
def p_many (fe : EM Da) : EM Da := fAlt (fMeth "Names" "many" f_Names_many [] fe (mP [])) (fMeth "Marks" "many" f_Marks_many [] fe (mP []))
def v_LI : EM (List Da) := fLst (fCons (fBin vIx (fPeek 2) (fD (mP (.int 0)))) (mP []))
def i_LI : EM (List Da) := fIt itemsL (fN (fSl vSlL (fPeek 2) (fInt (mP (.int 1))) (mP none)))
def t_LI : EM Bool := fOr (fNot (fTru (fD (p_many (fName 4))))) (fNot (fTru (fD (p_many (fBin vIx (fD (fFld "Line" "pieces" (fName 0))) (fD (fNeg (mP (.int 1)))))))))
def T_LI (K : PySem.W.Frag) : TS := tSeq (sFld K (tVar 0) (tVar 1) "lets") (tSeq (sFld K (tVar 0) (tVn K Wn v_LI) "pieces") (tSeq (sFld K (tVar 0) (tVar 3) "folders")
  (tFor (tVi K Wn i_LI) (tVg K [4] (stN 4)) (tIfS (tVt K Wn t_LI) (tDrop (tBM K "list" rAppend (tFld K (tVar 0) "pieces") (tCons (tVar 4) tNil))) tNext))))
theorem dv_LI (T : Tx K mg base) (cdv : Value) (A : Around) (outer : List PySem.Env) (s : Shared) (H : Hp) (E : XK) (hr : Room 1 (A.deeper (envOfC "Line.__init__" (defScope s_Line___init__) s.heap.objs.size (He.ma K (He.ga K "Line") "__init__") cdv))) :
    PSs (Cxd P w K mg base n_LI "Line.__init__" s_Line___init__ (He.ma K (He.ga K "Line") "__init__") cdv A outer s H E) (defBody s_Line___init__) (T_LI K) :=
  have hN := (sc_LI).nd
  pss_cons (ps_fld (pe_var rfl (Or.inl rfl)) (pe_var rfl (Or.inl rfl)) rfl)
  (pss_cons (ps_fld (pe_var rfl (Or.inl rfl)) (vn_lst (va_cons (ve_ix (vp_name 2) (vp_of ve_int)) va_nil)) rfl)
  (pss_cons (ps_fld (pe_var rfl (Or.inl rfl)) (pe_var rfl (Or.inl rfl)) rfl)
  (pss_one (ps_for PassesOwn.never rfl (vi_list (ve_of_n (vn_slL (vp_name 2) (vo_some ve_int) vo_none))) (vg_name 4 hN)
    (pss_one (ps_if (vt_w (vw_or (vt_not (vt_tru (vp_of (ve_alt (ve_meth0 T.cls_Names T.mt_Names_many (fo_Names_many T) (hr.mono (by decide)) (ve_name 4)) (ve_meth0 T.cls_Marks T.mt_Marks_many (fo_Marks_many T) (hr.mono (by decide)) (ve_name 4)))))) (vw_or1 (vt_not (vt_tru (vp_of (ve_alt (ve_meth0 T.cls_Names T.mt_Names_many (fo_Names_many T) (hr.mono (by decide)) (ve_ix (vp_of (ve_fld (c := "Line") T.cls_Line T.na_Line_pieces (ve_name 0))) (vp_of (ve_neg ve_int)))) (ve_meth0 T.cls_Marks T.mt_Marks_many (fo_Marks_many T) (hr.mono (by decide)) (ve_ix (vp_of (ve_fld (c := "Line") T.cls_Line T.na_Line_pieces (ve_name 0))) (vp_of (ve_neg ve_int)))))))))))
      (pss_one (ps_expr (pe_bm PySem.F.plainAttrs_list PySem.F.slot_list_append PySem.F.type_list_append mt_append (pe_fld (pe_var rfl (Or.inl rfl)) rfl) (pa_cons (pe_var rfl (Or.inl rfl)) pa_nil rfl)))) pss_nil))))))
/-! what the test tells -/
theorem many_of {fe : EM Da} {ρ ρ' : Vl.Env} {d : Da} {b : Bool} (h : fe ρ = .ok d ρ') (hm : manyD d = some b) : p_many fe ρ = .ok (.bl b) ρ' := by
  cases d with
  | ins c gs =>
    unfold manyD at hm
    simp only at hm
    split at hm
    · rename_i hl
      split at hm
      · rename_i hc
        cases hm
        subst hc
        unfold p_many fAlt fMeth
        simp only [mB, h, hl, and_self, if_true, mP]
        rfl
      · split at hm
        · rename_i h1 hc
          cases hm
          subst hc
          unfold p_many fAlt fMeth
          have e1 : ¬ (("Marks" : Str) = "Names") := by decide
          simp only [mB, h, hl, and_true, if_true, if_false, e1, mP]
          rfl
        · cases hm
    · cases hm
  | _ => cases hm
theorem neg1 (ρ : Vl.Env) : fD (fNeg (mP (.int 1))) ρ = .ok (.d (.int (-1))) ρ := id rfl
theorem vIx_last {acc : List Da} {e : Da} (h : acc.getLast? = some e) : vIx (.lst acc) (.int (-1)) = some e := by
  show atI acc (-1) = some e
  rw [List.getLast?_eq_getElem?] at h
  have hl : 0 < acc.length := by
    cases acc with
    | nil => cases h
    | cons x xs => simp
  have hi : ixN acc.length (-1) = some (acc.length - 1) := by
    unfold ixN
    have : ¬ ((0 : Int) ≤ -1) := by decide
    simp only [this, if_false]
    have h1 : -1 + (acc.length : Int) = ((acc.length - 1 : Nat) : Int) := by omega
    have h2 : (acc.length : Int) + -1 = ((acc.length - 1 : Nat) : Int) := by omega
    simp [h1, h2]
    omega
  unfold atI
  rw [hi]
  exact h
theorem not_of {f : EM Da} {ρ ρ' : Vl.Env} {b : Bool} (h : f ρ = .ok (.bl b) ρ') : fNot (fTru (fD f)) ρ = .ok (!b) ρ' := by
  simp only [fNot, fTru, fD, mB, h, mP, mO, look, vTru]
theorem t_LI_ff {ρ : Vl.Env} {d : Da} (h4 : ρ[4]? = some (some (.imm d))) (hm : manyD d = some false) : t_LI ρ = .ok true ρ := by
  have e4 : fName 4 ρ = .ok d ρ := by simp only [fName, h4]
  unfold t_LI
  rw [fOr]
  simp only [mB, not_of (many_of e4 hm), Bool.not_false, if_true, mP]
theorem t_LI_t {ρ : Vl.Env} {d e : Da} {gs : List (Str × Da)} {acc : List Da} {b : Bool} (h4 : ρ[4]? = some (some (.imm d))) (hm : manyD d = some true) (h0 : ρ[0]? = some (some (.imm (.ins "Line" gs)))) (hg : gs.lookup ("pieces" : Str) = some (.lst acc)) (hl : acc.getLast? = some e) (he : manyD e = some b) : t_LI ρ = .ok (!b) ρ := by
  have e4 : fName 4 ρ = .ok d ρ := by simp only [fName, h4]
  have e0 : fName 0 ρ = .ok (.ins "Line" gs) ρ := by simp only [fName, h0]
  have e1 : fFld "Line" "pieces" (fName 0) ρ = .ok (.lst acc) ρ := by simp only [fFld, mB, e0, hg, if_true, mO]
  have e2 : fBin vIx (fD (fFld "Line" "pieces" (fName 0))) (fD (fNeg (mP (.int 1)))) ρ = .ok e ρ := by
    have e3 : fD (fFld "Line" "pieces" (fName 0)) ρ = .ok (.d (.lst acc)) ρ := by simp only [fD, mB, e1, mP]
    simp only [fBin, mB, e3, neg1, look, vIx_last hl, mO]
  unfold t_LI
  rw [fOr]
  simp only [mB, not_of (many_of e4 hm), Bool.not_true, Bool.false_eq_true, if_false, not_of (many_of e2 he)]
/-! heaps -/
theorem cg_write {M : Addr → Prop} {G0 H0 G H : Hp} {l : Addr} {o o' : HO} (c : Cg M G0 H0 G H) (hl : M l ∨ H0 l = none) (gl : G l = none) (ho : H l = some o) (wo : WO o := by trivial) : Cg M G0 H0 G (upd H l o') where
  gg := c.gg
  gh := fun b u q => by
    rw [upd_ne (ne_of_none q gl)]
    exact c.gh b u q
  hh := fun b u nm q nt => by
    have nb : b ≠ l := fun z => by
      subst z
      rcases hl with h | h
      · exact nm h
      · rw [q] at h; cases h
    rw [upd_ne nb]
    exact c.hh b u nm q nt
  fr := c.fr
  mg := c.mg
  nn := fun b u q => by
    by_cases nb : b = l
    · subst nb
      exact ⟨o', upd_same⟩
    · rw [upd_ne nb]
      exact c.nn b u q
  tb := fun q => (c.tb q).write ho wo
theorem cn_gone {G H G1 H1 : Hp} {l : Addr} (c : Cn G H G1 H1) (hl : G l = none) (hh : H l ≠ none) : G1 l = none := by
  cases e : G1 l with
  | none => rfl
  | some u =>
    rcases c.fr l u e with z | z
    · rw [hl] at z; cases z
    · exact absurd z hh
/-- a state of slots that only stand for values -/
theorem stt_imm {G H : Hp} {ρ : Vl.Env} {σ : L2.St} (g : Gd G H) (hl : σ.length = ρ.length) (h : ∀ (i : Nat) (c : Ce), ρ[i]? = some (some c) → ∃ v d, σ[i]? = some (some v) ∧ c = .imm d ∧ Rp K G v d) : Stt K ⟨NoM, G, H, fun _ => none⟩ ρ σ G H :=
  ⟨no_cg (Cn.refl g.s), g.t, fun b o h => (nomatch h), fun _ _ _ _ _ _ => rfl, hl, fun i c e => by
    obtain ⟨v, d, h1, h2, h3⟩ := h i c e
    subst h2
    exact ⟨v, h1, h3⟩, fun i j c d v hij ei ej oc od si sj => by
    obtain ⟨v, d, h1, h2, h3⟩ := h i c ei
    subst h2
    cases oc⟩
/-- what was let stay for a while is no more -/
theorem cn_back {G H G1 H1 : Hp} {p l : Addr} {o u : HO} (gp : G p = none) (gl : G l = none) (hpl : p ≠ l) (wo : WO o) (wu : WO u) (c : Cn (upd (upd G l u) p o) H G1 H1) (t : TbT G1 H1) : Cn G H (Vl.del (Vl.del G1 p) l) H1 := by
  have at_ : ∀ {b : Addr} {x : HO}, Vl.del (Vl.del G1 p) l b = some x → b ≠ p ∧ b ≠ l ∧ G1 b = some x := fun {b x} h => by
    have h1 : b ≠ l := fun z => by rw [z, del_same] at h; cases h
    rw [del_ne h1] at h
    have h2 : b ≠ p := fun z => by rw [z, del_same] at h; cases h
    rw [del_ne h2] at h
    exact ⟨h2, h1, h⟩
  have up : ∀ {b : Addr} {x : HO}, b ≠ p → b ≠ l → G1 b = some x → Vl.del (Vl.del G1 p) l b = some x := fun {b x} h1 h2 h => by
    rw [del_ne h2, del_ne h1]
    exact h
  refine ⟨fun b x h => ?_, fun b x h => ?_, fun b o m q nt => c.hh b o m q nt, fun b x h => ?_, fun _ m => m.elim, c.nn, fun _ q hq => ?_⟩
  · have n1 := ne_of_none h gp
    have n2 := ne_of_none h gl
    exact up n1 n2 (c.gg b x (by rw [upd_ne n1, upd_ne n2]; exact h))
  · exact c.gh b x (at_ h).2.2
  · obtain ⟨n1, n2, h1⟩ := at_ h
    rcases c.fr b x h1 with z | z
    · rw [upd_ne n1, upd_ne n2] at z
      exact .inl z
    · exact .inr z
  · obtain ⟨g0, ps, h1, h2, h3⟩ := t q hq
    refine ⟨?_, ps, h1, h2, fun pos cv hc => ?_⟩
    · cases e : Vl.del (Vl.del G1 p) l q.1 with
      | none => rfl
      | some x => rw [(at_ e).2.2] at g0; cases g0
    · obtain ⟨cc, e1, e2⟩ := h3 pos cv hc
      have n1 : cc ≠ p := fun z => by
        have := c.gg p o upd_same
        rw [z, this] at e2
        exact wo.nc _ _ (Option.some.inj e2)
      have n2 : cc ≠ l := fun z => by
        have := c.gg l u (by rw [upd_ne (Ne.symm hpl), upd_same])
        rw [z, this] at e2
        exact wu.nc _ _ (Option.some.inj e2)
      exact ⟨cc, e1, up n1 n2 e2⟩
theorem cutD_1 {α : Type} (d : α) (ds : List α) : Vl.cutD (d :: ds) (some 1) none = ds := by
  unfold Vl.cutD
  rw [HT.sIx_none]
  have e : HT.sIx (d :: ds).length 0 (some 1) = min 1 (d :: ds).length := HT.sIx_nat (d :: ds).length 0 1
  rw [e, List.length_cons, Nat.min_eq_left (by omega)]
  simp
def IvLI (K : PySem.W.Frag) (G H G5 : Hp) (p dx l : Addr) (v1 v3 : V) (gs : List Da) (ds : List Da) (i : Nat) (σ : L2.St) (Hc : Hp) : Prop :=
  ∃ Gc vs acc, Same G5 Gc ∧ Cg (fun b => b = p) G H Gc Hc ∧ Gc l = none ∧ Hc p = some (.ins (He.ga K "Line") dx [("lets", v1), ("pieces", .ref l), ("folders", v3)]) ∧ Hc l = some (.lst vs) ∧ RpA K Gc vs acc ∧ squeeze acc (ds.drop i) = some gs ∧ σ.length = 5 ∧ σ[0]? = some (some (.ref p))
theorem iv_loop (T : Tx K mg base) {G H G5 : Hp} {p dx l : Addr} {v1 v3 : V} {lets folders : Da} {gs ds : List Da} (tg : TbT G H) (hpl : p ≠ l) (hl0 : H l = none) (g5 : Same G G5) (r1 : Rp K G v1 lets) (r3 : Rp K G v3 folders) {i : Nat} (hlt : i < ds.length)
    {Gc G3 Hc H' : Hp} {x : V} {d : Da} {vs : List V} {acc : List Da} {σ : L2.St} {D : Ends} (gc : Same G5 Gc) (cc : Cg (fun b => b = p) G H Gc Hc) (gl : Gc l = none) (hp : Hc p = some (.ins (He.ga K "Line") dx [("lets", v1), ("pieces", .ref l), ("folders", v3)])) (hl : Hc l = some (.lst vs)) (ra : RpA K Gc vs acc) (sq : squeeze acc (ds.drop i) = some gs) (sl : σ.length = 5) (s0 : σ[0]? = some (some (.ref p)))
    (cn : Cn Gc Hc G3 H') (ed : ds[i]? = some d) (rx : Rp K G3 x d) (hD : ∀ σ H, IvLI K G H' G5 p dx l v1 v3 gs ds (i + 1) σ H → True) (hN : ∀ σ' H'', IvLI K G H G5 p dx l v1 v3 gs ds (i + 1) σ' H'' → D.nx σ' H'') :
    tVg K [4] (stN 4) x σ H' (fun σ2 H2 => tIfS (tVt K Wn t_LI) (tDrop (tBM K "list" rAppend (tFld K (tVar 0) "pieces") (tCons (tVar 4) tNil))) tNext D σ2 H2) := by
  have c3 := cc.step cn
  have gl3 : G3 l = none := cn_gone cn gl (by rw [hl]; exact fun z => nomatch z)
  have gp3 : G3 p = none := (c3.mg p rfl).1
  have hp3 := cn.same _ _ hp
  have hl3 := cn.same _ _ hl
  have e0 : ds.drop i = d :: ds.drop (i + 1) := by
    rw [List.drop_eq_getElem_cons hlt]
    congr 1
    exact Option.some.inj ((List.getElem?_eq_getElem hlt).symm.trans ed)
  rw [e0] at sq
  unfold squeeze at sq
  refine ⟨⟨NoM, G3, H', fun _ => none⟩, [none, none, none, none, none], G3, d, [none, none, none, none, some (.imm d)], stt_imm ⟨c3.gh, c3.tb tg⟩ sl (fun j c e => ?_), rx, rfl, fun σ2 t2 hl2 hk2 => ?_⟩
  · match j, e with
    | 0, e => cases e
    | 1, e => cases e
    | 2, e => cases e
    | 3, e => cases e
    | 4, e => cases e
    | j + 5, e => cases e
  · have s0' : σ2[0]? = some (some (.ref p)) := by rw [hk2 0 (by decide)]; exact s0
    obtain ⟨v, s4, r4⟩ := t2.sl 4 (.imm d) rfl
    have r4 : Rp K G3 v d := r4
    -- all is let stay for the test
    obtain ⟨fa, fb⟩ := Cn.freeze c3.gh gl3 hl3
    have gp4 : upd G3 l (.lst vs) p = none := by rw [upd_ne hpl]; exact gp3
    obtain ⟨fc, fd⟩ := Cn.freeze fb gp4 hp3
    have sG := fa.trans fc
    have hlG : upd (upd G3 l (.lst vs)) p (.ins (He.ga K "Line") dx [("lets", v1), ("pieces", .ref l), ("folders", v3)]) l = some (.lst vs) := by
      rw [upd_ne (Ne.symm hpl)]
      exact upd_same
    have gG := (g5.trans gc).trans (cn.gg.trans sG)
    have rI : Rp K (upd (upd G3 l (.lst vs)) p (.ins (He.ga K "Line") dx [("lets", v1), ("pieces", .ref l), ("folders", v3)])) (.ref p) (.ins "Line" [("lets", lets), ("pieces", .lst acc), ("folders", folders)]) :=
      .ins upd_same (.cons (r1.mono gG) (.cons (.lst hlG (ra.mono (cn.gg.trans sG))) (.cons (r3.mono gG) .nil)))
    have tt := stt_imm (K := K) (ρ := [some (.imm (.ins "Line" [("lets", lets), ("pieces", .lst acc), ("folders", folders)])), none, none, none, some (.imm d)]) (σ := σ2) ⟨fd, ((c3.tb tg).put gl3 (fun ps z => by rw [hl3] at z; cases z)).put gp4 (fun ps z => by rw [hp3] at z; cases z)⟩ (by rw [hl2]; exact sl) (fun j c e => by
      match j, e with
      | 0, e => cases e; exact ⟨_, _, s0', rfl, rI⟩
      | 1, e => cases e
      | 2, e => cases e
      | 3, e => cases e
      | 4, e => cases e; exact ⟨_, _, s4, rfl, r4.mono sG⟩
      | j + 5, e => cases e)
    have fin : ∀ b, t_LI [some (.imm (.ins "Line" [("lets", lets), ("pieces", .lst acc), ("folders", folders)])), none, none, none, some (.imm d)] = .ok b [some (.imm (.ins "Line" [("lets", lets), ("pieces", .lst acc), ("folders", folders)])), none, none, none, some (.imm d)] →
        (if b = true then acc.length < 16777216 ∧ squeeze (acc ++ [d]) (ds.drop (i + 1)) = some gs else squeeze acc (ds.drop (i + 1)) = some gs) →
        tIfS (tVt K Wn t_LI) (tDrop (tBM K "list" rAppend (tFld K (tVar 0) "pieces") (tCons (tVar 4) tNil))) tNext D σ2 H' := by
      intro b eb hb
      refine ⟨_, _, _, tt, ?_⟩
      rw [eb]
      intro G4 H4 g4 t4
      have cnt := cn_of t4.cg
      have cn4 := cn_back gp3 gl3 hpl (by trivial) (by trivial) cnt t4.tg
      have c4 := c3.step cn4
      have hp4 := cnt.same _ _ hp3
      have hl4 := cnt.same _ _ hl3
      have gl4 : Vl.del (Vl.del G4 p) l l = none := del_same
      have sl2 : σ2.length = 5 := by rw [hl2]; exact sl
      cases b with
      | false => exact hN σ2 H4 ⟨_, vs, acc, gc.trans (cn.gg.trans cn4.gg), c4, gl4, hp4, hl4, ra.mono (cn.gg.trans cn4.gg), hb, sl2, s0'⟩
      | true =>
        obtain ⟨hz, hb⟩ := hb
        refine ⟨_, s0', p, _, dx, _, .ref l, rfl, hp4, T.cls_Line, T.na_Line_pieces, rfl, .inl ⟨rfl, vs, SqL.of hl4⟩, v, s4, l, vs, v, rfl, rfl, hl4, ?_, ?_⟩
        · rw [ra.length, sizeLine_eq]; exact hz
        · refine hN σ2 _ ⟨_, vs ++ [v], acc ++ [d], gc.trans (cn.gg.trans cn4.gg), cg_write c4 (.inr hl0) gl4 hl4, gl4, ?_, upd_same, (ra.mono (cn.gg.trans cn4.gg)).append (.cons (r4.mono cn4.gg) .nil), hb, sl2, s0'⟩
          rw [upd_ne hpl]
          exact hp4
    cases em : manyD d with
    | none => rw [em] at sq; cases sq
    | some q =>
      cases q with
      | false =>
        rw [em] at sq
        simp only at sq
        split at sq
        · rename_i hz
          exact fin true (t_LI_ff rfl em) ⟨hz, sq⟩
        · cases sq
      | true =>
        rw [em] at sq
        simp only at sq
        cases el : acc.getLast? with
        | none => rw [el] at sq; cases sq
        | some e =>
          rw [el] at sq
          simp only at sq
          cases ee : manyD e with
          | none => rw [ee] at sq; cases sq
          | some q =>
            have te := t_LI_t (ρ := [some (.imm (.ins "Line" [("lets", lets), ("pieces", .lst acc), ("folders", folders)])), none, none, none, some (.imm d)]) rfl em rfl rfl el ee
            rw [ee] at sq
            cases q with
            | true => exact fin false te sq
            | false =>
              simp only at sq
              split at sq
              · rename_i hz
                exact fin true te ⟨hz, sq⟩
              · cases sq
theorem fi_LI (T : Tx K mg base) : FoI P w K mg base 2 "Line" ["self", "lets", "pieces", "folders"] iLine := by
  obtain ⟨fd, F⟩ := T.d_Line___init__
  refine ⟨⟨fd, F.ok sc_LI (fun vs H Q E h => ?_) (fun cdv A outer s H vs Q E hr h => ⟨_, PSs.nox (dv_LI T cdv A outer s H E hr), ?_⟩), F.bindsN fun _ _ _ _ _ _ us hl => match us, hl with | [_, _, _, _], _ => rfl⟩, T.mkr_Line⟩
  · obtain ⟨G, p, dx, us, ds, rfl, g, gp, hp, r, gs, e, _⟩ := h
    unfold iLine at e
    split at e
    · rw [List.length_cons, r.length]; rfl
    · cases e
  · obtain ⟨G, p, dx, us, ds, rfl, g, gp, hp, r, gs, e, hQ⟩ := h
    unfold iLine at e
    split at e
    · rename_i lets d0 ds folders
      split at e
      · rename_i hz
        obtain ⟨ps, e2, e3⟩ := Option.map_eq_some_iff.mp e
        subst e3
        clear e
        match r with
        | .cons (v := v1) r1 (.cons (v := v2) r2 (.cons (v := v3) r3 .nil)) =>
        have c0 : Cg (fun b => b = p) G H G H := ⟨Same.refl _, g.s, fun _ _ _ h _ => h, fun _ _ h => .inl h, fun b m => by subst m; exact ⟨gp, _, hp⟩, fun _ o h => ⟨o, h⟩, id⟩
        refine ⟨v1, rfl, _, rfl, p, _, dx, [], rfl, hp, T.cls_Line, T.na_Line_lets, by decide, ?_⟩
        have c1 := cg_write (o' := .ins (He.ga K "Line") dx (putF "lets" v1 [])) c0 (.inl rfl) gp hp
        have tt := stt_imm (K := K) (ρ := [none, some (.imm lets), some (.imm (.lst (d0 :: ds))), some (.imm folders), none]) (σ := L2.start n_LI [.ref p, v1, v2, v3]) ⟨c1.gh, c1.tb g.t⟩ rfl (fun j c e => by
          match j, e with
          | 0, e => cases e
          | 1, e => cases e; exact ⟨_, _, rfl, rfl, r1⟩
          | 2, e => cases e; exact ⟨_, _, rfl, rfl, r2⟩
          | 3, e => cases e; exact ⟨_, _, rfl, rfl, r3⟩
          | 4, e => cases e
          | j + 5, e => cases e)
        refine ⟨_, _, _, tt, ?_⟩
        have ev : v_LI [none, some (.imm lets), some (.imm (.lst (d0 :: ds))), some (.imm folders), none] = .ok [d0] [none, some (.imm lets), some (.imm (.lst (d0 :: ds))), some (.imm folders), none] := by
          have e1 : vIx (.lst (d0 :: ds)) (.int 0) = some d0 := by
            show atI (d0 :: ds) 0 = some d0
            unfold atI
            have : ixN (d0 :: ds).length 0 = some 0 := by
              unfold ixN
              simp
            rw [this]
            rfl
          have e2 : ([] : List Da).length + 1 ≤ 16777216 := by decide
          simp only [v_LI, fLst, fCons, fBin, fPeek, fD, mB, mP, mO, look, List.getElem?_cons_succ, List.getElem?_cons_zero, e1, List.length_cons, e2, if_true]
        rw [ev]
        intro l vs1 G1 H1 g1 nl t1 ra z1
        have cn1 : Cn G (upd H p (.ins (He.ga K "Line") dx (putF "lets" v1 []))) G1 H1 := cn_of t1.cg
        have c2 := c1.step cn1
        have hp1 : H1 p = some (.ins (He.ga K "Line") dx (putF "lets" v1 [])) := cn1.same p (.ins (He.ga K "Line") dx (putF "lets" v1 [])) upd_same
        have hpl : p ≠ l := fun z => by subst z; rw [nl] at hp1; cases hp1
        have hl0 : H l = none := c2.gone nl
        have c3 := c2.step (Cn.newM cn1.gh nl (.lst vs1))
        have gp1 : G1 p = none := (c2.mg p rfl).1
        have gl1 : G1 l = none := gnone cn1.gh nl
        refine ⟨_, rfl, p, _, dx, _, rfl, by rw [upd_ne hpl]; exact hp1, T.cls_Line, T.na_Line_pieces, by simp [putF], ?_⟩
        have c4 := cg_write (o' := .ins (He.ga K "Line") dx (putF "pieces" (.ref l) (putF "lets" v1 []))) c3 (.inl rfl) gp1 (by rw [upd_ne hpl]; exact hp1)
        have n1 : ¬ (("lets" : Str) = "pieces") := by decide
        have n2 : ¬ (("lets" : Str) = "folders") := by decide
        have n3 : ¬ (("pieces" : Str) = "folders") := by decide
        refine ⟨v3, rfl, _, rfl, p, _, dx, _, rfl, upd_same, T.cls_Line, T.na_Line_folders, by simp only [putF, n1, if_false, List.length_cons, List.length_nil]; decide, ?_⟩
        have c5 := cg_write (o' := .ins (He.ga K "Line") dx (putF "folders" v3 (putF "pieces" (.ref l) (putF "lets" v1 [])))) c4 (.inl rfl) gp1 upd_same
        have ef : putF "folders" v3 (putF "pieces" (.ref l) (putF "lets" v1 [])) = ([("lets", v1), ("pieces", .ref l), ("folders", v3)] : List (Str × V)) := by
          simp only [putF, n1, n2, n3, if_false]
        rw [ef] at c5 ⊢
        generalize hH : upd (upd (upd H1 l (.lst vs1)) p (.ins (He.ga K "Line") dx (putF "pieces" (.ref l) (putF "lets" v1 [])))) p (.ins (He.ga K "Line") dx [("lets", v1), ("pieces", .ref l), ("folders", v3)]) = H4 at c5 ⊢
        have hp4 : H4 p = some (.ins (He.ga K "Line") dx [("lets", v1), ("pieces", .ref l), ("folders", v3)]) := by rw [← hH]; exact upd_same
        have hl4 : H4 l = some (.lst vs1) := by
          rw [← hH, upd_ne (Ne.symm hpl), upd_ne (Ne.symm hpl)]
          exact upd_same
        clear hH
        have tt4 := stt_imm (K := K) (ρ := [none, some (.imm lets), some (.imm (.lst (d0 :: ds))), some (.imm folders), none]) (σ := L2.start n_LI [.ref p, v1, v2, v3]) ⟨c5.gh, c5.tb g.t⟩ rfl (fun j c e => by
          match j, e with
          | 0, e => cases e
          | 1, e => cases e; exact ⟨_, _, rfl, rfl, r1.mono c5.gg⟩
          | 2, e => cases e; exact ⟨_, _, rfl, rfl, r2.mono c5.gg⟩
          | 3, e => cases e; exact ⟨_, _, rfl, rfl, r3.mono c5.gg⟩
          | 4, e => cases e
          | j + 5, e => cases e)
        refine ⟨_, _, _, tt4, ?_⟩
        have ei : i_LI [none, some (.imm lets), some (.imm (.lst (d0 :: ds))), some (.imm folders), none] = .ok ds [none, some (.imm lets), some (.imm (.lst (d0 :: ds))), some (.imm folders), none] := by
          have h1 : (d0 :: ds).length ≤ 16777216 := by rw [List.length_cons]; omega
          simp only [i_LI, fIt, fN, fSl, fPeek, fInt, asInt, mB, mP, mO, look, List.getElem?_cons_succ, List.getElem?_cons_zero, vSlL, h1, if_true, cutD_1, itemsL, Option.map_some]
        rw [ei]
        intro J G5 H5 g5 t5 it
        have cn5 : Cn G1 H4 G5 H5 := cn_of t5.cg
        have c6 := c5.step cn5
        have gl5 : G5 l = none := cn_gone cn5 gl1 (by rw [hl4]; exact fun z => nomatch z)
        have hl5 := cn5.same _ _ hl4
        have hp5 := cn5.same _ _ hp4
        refine ⟨fun i m σ Hc => m = ds.length - i ∧ i ≤ ds.length ∧ IvLI K G H G5 p dx l v1 v3 ps ds i σ Hc, ⟨ds.length, by simp, Nat.zero_le _, G5, vs1, [d0], Same.refl _, c6, gl5, hp5, hl5, ra.mono cn5.gg, e2, rfl, rfl⟩, ?_⟩
        rintro i m σ Hc ⟨rfl, hi, Gc, vs, acc, gc, cc, gl, hpc, hlc, rac, sq, sl, s0⟩
        by_cases hlt : i < ds.length
        · refine .inr ⟨it.go Gc Hc i gc cc.gh hlt, fun σ' H' => IvLI K G H G5 p dx l v1 v3 ps ds (i + 1) σ' H', fun σ' H' q => ⟨_, by omega, rfl, hlt, q⟩, fun x H' y => ?_⟩
          obtain ⟨G3, d, cn, ed, rx⟩ := it.yld Gc Hc i x H' hlt gc cc.gh y
          exact iv_loop T g.t hpl hl0 (c5.gg.trans g5) r1 r3 hlt gc cc gl hpc hlc rac sq sl s0 cn ed rx (fun _ _ _ => trivial) (fun σ' H'' q => q)
        · have e : i = ds.length := by omega
          subst e
          rw [List.drop_length] at sq
          cases sq
          refine .inl ⟨it.stop Gc Hc gc cc.gh, ?_⟩
          obtain ⟨fa, fb⟩ := Cn.freeze cc.gh gl hlc
          have cE : Cg (fun b => b = p) G H (upd Gc l (.lst vs)) Hc := ⟨cc.gg.trans fa, fb, fun b o m q nt => cc.hh b o m q nt, fun b o q => by
            by_cases hb : b = l
            · subst hb
              exact .inr hl0
            · rw [upd_ne hb] at q
              exact cc.fr b o q, fun b m => ⟨by subst m; rw [upd_ne hpl]; exact (cc.mg _ rfl).1, (cc.mg b m).2⟩, cc.nn, fun q => (cc.tb q).put gl fun ps z => by rw [hlc] at z; cases z⟩
          have sG := cc.gg.trans fa
          exact hQ _ Hc dx _ cE hpc (.cons (r1.mono sG) (.cons (.lst upd_same (rac.mono fa)) (.cons (r3.mono sG) .nil)))
      · cases e
    · cases e

def i_Line : List Da → Option (List (Str × Da)) := iLine
theorem fi_Line (T : Tx K mg base) : FoI P w K mg base 2 "Line" ["self", "lets", "pieces", "folders"] i_Line := fi_LI T
abbrev n__law_digits : List Str := ["_law_script", "_law_at", "_law_many", "_law_base", "_law_cell", "_law_found", "_law_left", "_law_turn", "_law_blend", "_law_more"]
theorem sc__law_digits : FnScope n__law_digits ["_law_script", "_law_at", "_law_many", "_law_base"] (defScope s__law_digits) := ⟨rfl, rfl, rfl, by decide +kernel, rfl, by decide +kernel, by decide +kernel⟩
def p1__law_digits : EM Fl := (fIf (fBinT vGe (fPeek 4) (fD (fBin vPow (fD (mP (.int 10))) (fD (mP (.int 18))))))
  (fSeq (fExpr (fApp 5 (fBin vMod (fPeek 6) (fPeek 3))))
  (fAsg 6 (fBin vFdiv (fPeek 6) (fPeek 3))))
  (fSeq (fAsg 8 (fDef f__law_draw [] (fCons (fBin vMul (fD (fBin vAdd (fPeek 4) (fD (fBin vMul (fD (mP (.int 977))) (fPeek 7))))) (fD (fBin vAdd (fD (fBin vAdd (fPeek 4) (fD (fBin vMul (fD (mP (.int 31))) (fPeek 7))))) (fD (mP (.int 5)))))) (fCons (fBin vAdd (fD (fBin vMod (fPeek 7) (fD (mP (.int 9))))) (fD (mP (.int 1)))) (fCons (mP (.int 999983)) (mP []))))))
  (fSeq (fAsg 9 (fDef f__law_draw [] (fCons (fBin vAdd (fD (fBin vMul (fD (fBin vAdd (fPeek 4) (fD (fBin vMul (fD (mP (.int 31))) (fPeek 7))))) (fD (fBin vAdd (fPeek 4) (fD (mP (.int 7))))))) (fD (fBin vMul (fD (mP (.int 977))) (fPeek 7)))) (fCons (fBin vAdd (fD (fBin vMod (fPeek 7) (fD (mP (.int 7))))) (fD (mP (.int 2)))) (fCons (mP (.int 1000003)) (mP []))))))
  (fExpr (fApp 5 (fBin vMod (fD (fBin vAdd (fD (fBin vMul (fPeek 8) (fD (mP (.int 1000003))))) (fPeek 9))) (fPeek 3)))))))
def b__law_digits : EM Fl := (fSeq (fPar2 4 5 (fCv (fDef f__law_cell_at [] (fCons (fName 0) (fCons (fName 1) (mP [])))) (fCn (fLst (mP [])) (mP []))))
  (fSeq (fAsg 6 (fBin vSub (fPeek 4) (fD (fBin vPow (fD (mP (.int 10))) (fD (mP (.int 18)))))))
  (fSeq (fFor (fItA rng1 (fCons (fName 2) (mP []))) (stN 7)
  p1__law_digits)
  (fRet (fName 5)))))
def f__law_digits : List Da → Res := fnRun 4 10 b__law_digits
theorem dv__law_digits (T : Tx K mg base) : Dv P w K mg base n__law_digits "_law_digits" s__law_digits (He.ga K "_law_digits") 2 b__law_digits := fun cdv A outer s H E hr =>
  have hN := (sc__law_digits).nd
  (vss_cons (vs_par2 4 5 rfl hN (vc_v (ve_call (fo__law_cell_at T) T.g__law_cell_at (hr.mono (by decide)) (va_cons (ve_name 0) (va_cons (ve_name 1) va_nil))) (vc_n (vn_lst va_nil) vc_nil)))
  (vss_cons (vs_set 6 hN (ve_bin opd_sub (vp_name 4) (vp_of (ve_bin opd_pow (vp_of ve_int) (vp_of ve_int)))))
  (vss_cons (vs_for PassesOwn.never rfl (vi_range1 T.free_range (va_cons (ve_name 2) va_nil)) (vg_name 7 hN)
  (vss_one (vs_if (vt_cmp opd_ge (vp_name 4) (vp_of (ve_bin opd_pow (vp_of ve_int) (vp_of ve_int))) (nomark _))
  (vss_cons (vs_expr (ve_app 5 (ve_bin opd_mod (vp_name 6) (vp_name 3))))
  (vss_one (vs_set 6 hN (ve_bin opd_fdiv (vp_name 6) (vp_name 3)))))
  (vss_cons (vs_set 8 hN (ve_call (fo__law_draw T) T.g__law_draw (hr.mono (by decide)) (va_cons (ve_bin opd_mul (vp_of (ve_bin opd_add (vp_name 4) (vp_of (ve_bin opd_mul (vp_of ve_int) (vp_name 7))))) (vp_of (ve_bin opd_add (vp_of (ve_bin opd_add (vp_name 4) (vp_of (ve_bin opd_mul (vp_of ve_int) (vp_name 7))))) (vp_of ve_int)))) (va_cons (ve_bin opd_add (vp_of (ve_bin opd_mod (vp_name 7) (vp_of ve_int))) (vp_of ve_int)) (va_cons ve_int va_nil)))))
  (vss_cons (vs_set 9 hN (ve_call (fo__law_draw T) T.g__law_draw (hr.mono (by decide)) (va_cons (ve_bin opd_add (vp_of (ve_bin opd_mul (vp_of (ve_bin opd_add (vp_name 4) (vp_of (ve_bin opd_mul (vp_of ve_int) (vp_name 7))))) (vp_of (ve_bin opd_add (vp_name 4) (vp_of ve_int))))) (vp_of (ve_bin opd_mul (vp_of ve_int) (vp_name 7)))) (va_cons (ve_bin opd_add (vp_of (ve_bin opd_mod (vp_name 7) (vp_of ve_int))) (vp_of ve_int)) (va_cons ve_int va_nil)))))
  (vss_one (vs_expr (ve_app 5 (ve_bin opd_mod (vp_of (ve_bin opd_add (vp_of (ve_bin opd_mul (vp_name 8) (vp_of ve_int))) (vp_name 9))) (vp_name 3))))))))))
  (vss_one (vs_ret (ve_name 5))))))
theorem fo__law_digits (T : Tx K mg base) : FoA P w K mg base 3 (He.ga K "_law_digits") ["_law_script", "_law_at", "_law_many", "_law_base"] [] f__law_digits := by
  obtain ⟨fd, F⟩ := T.d__law_digits
  exact fo_of F sc__law_digits (F.bindsN fun _ _ _ _ _ _ us hl => match us, hl with | [_, _, _, _], _ => rfl) (dv__law_digits T)
abbrev n__law_mark_other : List Str := ["_law_signs_here", "_law_number", "_law_less", "_law_sign"]
theorem sc__law_mark_other : FnScope n__law_mark_other ["_law_signs_here", "_law_number"] (defScope s__law_mark_other) := ⟨rfl, rfl, rfl, by decide +kernel, rfl, by decide +kernel, by decide +kernel⟩
def p1__law_mark_other : EM Bool := (fBinT (vIn true) (fPeek 3) (fPeek 0))
def p2__law_mark_other : EM Da := (fName 3)
def p3__law_mark_other : EM Da := (fBin vAdd (fD (fBin vAdd (fPeek 3) (fD (mP (.str [45]))))) (fPeek 3))
def b__law_mark_other : EM Fl := (fSeq (fAsg 2 (fMs sJoin (mP (.str [])) (fCons (fD (fN (fComp [3] (fIt itemsS (fDef f__law_signs [] (mP []))) (stN 3) p1__law_mark_other p2__law_mark_other))) (mP []))))
  (fSeq (fIf (fOr (fBinT (vEq false) (fPeek 0) (fD (mP (.str [42])))) (fBinT (vEq false) (fPeek 0) (fD (mP (.str [])))))
  (fRet (fIf (fBinT (vEq false) (fPeek 0) (fD (mP (.str [42])))) (mP (.str [42])) (fBin vIx (fD (fTup (fCons (mP (.str [91, 33, 46, 45, 122, 93])) (fCons (mP (.str [91, 33, 122, 45, 122, 97, 45, 121, 46, 93])) (fCons (mP (.str [91, 33, 46, 97, 45, 122, 93])) (mP [])))))) (fD (fBin vMod (fPeek 1) (fD (mP (.int 3))))))))
  (mP .nx))
  (fSeq (fIf (fBinT (vEq false) (fD (fBin vMod (fPeek 1) (fD (mP (.int 4))))) (fD (mP (.int 0))))
  (fRet (fBin vAdd (fD (fBin vAdd (fD (fBin vAdd (fD (mP (.str [91]))) (fD (fRev (fPeek 0))))) (fD (fSl vSlS (fPeek 0) (mP none) (fInt (mP (.int 1))))))) (fD (mP (.str [93])))))
  (mP .nx))
  (fSeq (fIf (fBinT (vEq false) (fD (fBin vMod (fPeek 1) (fD (mP (.int 4))))) (fD (mP (.int 1))))
  (fRet (fIf (fBinT (vEq true) (fPeek 2) (fD (mP (.str [])))) (fBin vAdd (fD (fBin vAdd (fD (mP (.str [91, 33]))) (fPeek 2))) (fD (mP (.str [93])))) (mP (.str [91, 46, 45, 122, 93]))))
  (mP .nx))
  (fSeq (fIf (fBinT (vEq false) (fD (fBin vMod (fPeek 1) (fD (mP (.int 4))))) (fD (mP (.int 2))))
  (fRet (fBin vAdd (fD (fBin vAdd (fD (mP (.str [91]))) (fD (fMs sJoin (mP (.str [])) (fCons (fD (fN (fComp [3] (fIt itemsS (fName 0)) (stN 3) (mP true) p3__law_mark_other))) (mP [])))))) (fD (mP (.str [93])))))
  (mP .nx))
  (fRet (fDef f__law_mark_plain [] (fCons (fName 0) (mP [])))))))))
def f__law_mark_other : List Da → Res := fnRun 2 4 b__law_mark_other
theorem dv__law_mark_other (T : Tx K mg base) : Dv P w K mg base n__law_mark_other "_law_mark_other" s__law_mark_other (He.ga K "_law_mark_other") 2 b__law_mark_other := fun cdv A outer s H E hr =>
  have hN := (sc__law_mark_other).nd
  (vss_cons (vs_set 2 hN (ve_ms PySem.F.slot_str_join PySem.F.type_str_join ms_join (ve_str []) (vpa_cons (vp_of (ve_of_n (vn_comp [("_law_sign", 3)] rfl hN (by decide) (vi_str (ve_call0 (fo__law_signs T) T.g__law_signs (hr.mono (by decide)))) (fun _ _ _ _ _ => (vg_name 3 hN)) (fun _ _ _ _ _ => (vts_one (vt_cmp opd_notin (vp_name 3) (vp_name 0) (by rfl)))) (fun _ _ _ _ _ => (ve_name 3)) (blkOk_by (N := n__law_mark_other) (sc := defScope s__law_mark_other) (by decide +kernel))))) vpa_nil)))
  (vss_cons (vs_if (vt_w (vw_or (vt_cmp (opd_eq hr.units) (vp_name 0) (vp_of (ve_str [42])) (nomark _)) (vw_or1 (vt_cmp (opd_eq hr.units) (vp_name 0) (vp_of (ve_str [])) (nomark _)))))
  (vss_one (vs_ret (ve_if (vt_cmp (opd_eq hr.units) (vp_name 0) (vp_of (ve_str [42])) (nomark _)) (ve_str [42]) (ve_ix (vp_of (ve_tup (va_cons (ve_str [91, 33, 46, 45, 122, 93]) (va_cons (ve_str [91, 33, 122, 45, 122, 97, 45, 121, 46, 93]) (va_cons (ve_str [91, 33, 46, 97, 45, 122, 93]) va_nil))))) (vp_of (ve_bin opd_mod (vp_name 1) (vp_of ve_int)))))))
  vss_nil)
  (vss_cons (vs_if (vt_cmp (opd_eq hr.units) (vp_of (ve_bin opd_mod (vp_name 1) (vp_of ve_int))) (vp_of ve_int) (nomark _))
  (vss_one (vs_ret (ve_bin opd_add (vp_of (ve_bin opd_add (vp_of (ve_bin opd_add (vp_of (ve_str [91])) (vp_of (ve_revS (vp_name 0))))) (vp_of (ve_slS (vp_name 0) vo_none (vo_some ve_int))))) (vp_of (ve_str [93])))))
  vss_nil)
  (vss_cons (vs_if (vt_cmp (opd_eq hr.units) (vp_of (ve_bin opd_mod (vp_name 1) (vp_of ve_int))) (vp_of ve_int) (nomark _))
  (vss_one (vs_ret (ve_if (vt_cmp (opd_ne hr.units) (vp_name 2) (vp_of (ve_str [])) (nomark _)) (ve_bin opd_add (vp_of (ve_bin opd_add (vp_of (ve_str [91, 33])) (vp_name 2))) (vp_of (ve_str [93]))) (ve_str [91, 46, 45, 122, 93]))))
  vss_nil)
  (vss_cons (vs_if (vt_cmp (opd_eq hr.units) (vp_of (ve_bin opd_mod (vp_name 1) (vp_of ve_int))) (vp_of ve_int) (nomark _))
  (vss_one (vs_ret (ve_bin opd_add (vp_of (ve_bin opd_add (vp_of (ve_str [91])) (vp_of (ve_ms PySem.F.slot_str_join PySem.F.type_str_join ms_join (ve_str []) (vpa_cons (vp_of (ve_of_n (vn_comp [("_law_sign", 3)] rfl hN (by decide) (vi_str (ve_name 0)) (fun _ _ _ _ _ => (vg_name 3 hN)) (fun _ _ _ _ _ => vts_nil) (fun _ _ _ _ _ => (ve_bin opd_add (vp_of (ve_bin opd_add (vp_name 3) (vp_of (ve_str [45])))) (vp_name 3))) (blkOk_by (N := n__law_mark_other) (sc := defScope s__law_mark_other) (by decide +kernel))))) vpa_nil))))) (vp_of (ve_str [93])))))
  vss_nil)
  (vss_one (vs_ret (ve_call (fo__law_mark_plain T) T.g__law_mark_plain (hr.mono (by decide)) (va_cons (ve_name 0) va_nil)))))))))
theorem fo__law_mark_other (T : Tx K mg base) : FoA P w K mg base 3 (He.ga K "_law_mark_other") ["_law_signs_here", "_law_number"] [] f__law_mark_other := by
  obtain ⟨fd, F⟩ := T.d__law_mark_other
  exact fo_of F sc__law_mark_other (F.bindsN fun _ _ _ _ _ _ us hl => match us, hl with | [_, _], _ => rfl) (dv__law_mark_other T)
abbrev n_brackets_of : List Str := ["reader", "less", "known", "begun", "one", "at", "last", "sign"]
theorem sc_brackets_of : FnScope n_brackets_of ["reader"] (defScope s_brackets_of) := ⟨rfl, rfl, rfl, by decide +kernel, rfl, by decide +kernel, by decide +kernel⟩
def p1_brackets_of : EM Fl := (fDput 2 (fName 7) (mP (.bl true)))
def p2_brackets_of : EM Bool := (fOr (fNot (fTru (fPeek 3))) (fNot (fTru (fD (fMIO "Reader" "take" f_Reader_take 0 (fCons (mP (.str [93])) (mP [])))))))
def p3_brackets_of : EM Fl := (fSeq (fAsg 3 (mP (.bl true)))
  (fSeq (fAsg 4 (fMIO "Reader" "one_of" f_Reader_one_of 0 (fCons (mP (.str c_SIGNS)) (mP []))))
  (fSeq (fAsg 5 (fMs sIndex (mP (.str c_SIGNS)) (fCons (fPeek 4) (mP []))))
  (fSeq (fAsg 6 (fIf (fTru (fD (fMIO "Reader" "take" f_Reader_take 0 (fCons (mP (.str [45])) (mP []))))) (fMs sIndex (mP (.str c_SIGNS)) (fCons (fD (fMIO "Reader" "one_of" f_Reader_one_of 0 (fCons (fSl vSlS (fD (mP (.str c_SIGNS))) (fInt (fName 5)) (mP none)) (mP [])))) (mP []))) (fName 5)))
  (fFor (fIt itemsS (fSl vSlS (fD (mP (.str c_SIGNS))) (fInt (fName 5)) (fInt (fBin vAdd (fPeek 6) (fD (mP (.int 1))))))) (stN 7)
  p1_brackets_of)))))
def p4_brackets_of : EM Bool := (fBinT (vEq true) (fD (fInD false 2 (fName 7))) (fPeek 1))
def p5_brackets_of : EM Da := (fName 7)
def b_brackets_of : EM Fl := (fSeq (fPar2 1 2 (fCv (fMIO "Reader" "take" f_Reader_take 0 (fCons (mP (.str [33])) (mP []))) (fCd (mP []))))
  (fSeq (fAsg 3 (mP (.bl false)))
  (fSeq (whileN p2_brackets_of
  p3_brackets_of 1000000000)
  (fRet (fMs sJoin (mP (.str [])) (fCons (fD (fN (fComp [7] (fIt itemsS (mP (.str c_SIGNS))) (stN 7) p4_brackets_of p5_brackets_of))) (mP [])))))))
def f_brackets_of : List (Str × Da) → List Da → Option (Da × List (Str × Da)) := ioRun 1 8 "Reader" b_brackets_of
theorem dv_brackets_of (T : Tx K mg base) : Dv P w K mg base n_brackets_of "brackets_of" s_brackets_of (He.ga K "brackets_of") 2 b_brackets_of := fun cdv A outer s H E hr =>
  have hN := (sc_brackets_of).nd
  (vss_cons (vs_parT2 1 2 rfl hN (vc_v (ve_methIO 0 T.cls_Reader T.mt_Reader_take (fo_Reader_take T) (hr.mono (by decide)) (va_cons (ve_str [33]) va_nil)) (vc_d vc_nil)) (pgn 1 hN) (pgn 2 hN))
  (vss_cons (vs_set 3 hN ve_bl)
  (vss_cons (vs_while 1000000000 PassesOwn.never (vt_w (vw_or (vt_not (vt_tru (vp_name 3))) (vw_or1 (vt_not (vt_tru (vp_of (ve_methIO 0 T.cls_Reader T.mt_Reader_take (fo_Reader_take T) (hr.mono (by decide)) (va_cons (ve_str [93]) va_nil))))))))
  (vss_cons (vs_set 3 hN ve_bl)
  (vss_cons (vs_set 4 hN (ve_methIO 0 T.cls_Reader T.mt_Reader_one_of (fo_Reader_one_of T) (hr.mono (by decide)) (va_cons (ve_gstr c_SIGNS rfl T.s_SIGNS) va_nil)))
  (vss_cons (vs_set 5 hN (ve_ms PySem.F.slot_str_index PySem.F.type_str_index ms_index (ve_gstr c_SIGNS rfl T.s_SIGNS) (vpa_cons (vp_name 4) vpa_nil)))
  (vss_cons (vs_set 6 hN (ve_if (vt_tru (vp_of (ve_methIO 0 T.cls_Reader T.mt_Reader_take (fo_Reader_take T) (hr.mono (by decide)) (va_cons (ve_str [45]) va_nil)))) (ve_ms PySem.F.slot_str_index PySem.F.type_str_index ms_index (ve_gstr c_SIGNS rfl T.s_SIGNS) (vpa_cons (vp_of (ve_methIO 0 T.cls_Reader T.mt_Reader_one_of (fo_Reader_one_of T) (hr.mono (by decide)) (va_cons (ve_slS (vp_of (ve_gstr c_SIGNS rfl T.s_SIGNS)) (vo_some (ve_name 5)) vo_none) va_nil))) vpa_nil)) (ve_name 5)))
  (vss_one (vs_for PassesOwn.never rfl (vi_str (ve_slS (vp_of (ve_gstr c_SIGNS rfl T.s_SIGNS)) (vo_some (ve_name 5)) (vo_some (ve_bin opd_add (vp_name 6) (vp_of ve_int))))) (vg_name 7 hN)
  (vss_one (vs_dput 2 (hu1 hr.units) (ve_name 7) ve_bl)))))))))
  (vss_one (vs_ret (ve_ms PySem.F.slot_str_join PySem.F.type_str_join ms_join (ve_str []) (vpa_cons (vp_of (ve_of_n (vn_comp [("sign", 7)] rfl hN (by decide) (vi_str (ve_gstr c_SIGNS rfl T.s_SIGNS)) (fun _ _ _ _ _ => (vg_name 7 hN)) (fun _ _ _ _ _ => (vts_one (vt_cmp (opd_ne hr.units) (vp_of (ve_inD 2 (hu1 hr.units) (ve_name 7))) (vp_name 1) (nomark _)))) (fun _ _ _ _ _ => (ve_name 7)) (blkOk_by (N := n_brackets_of) (sc := defScope s_brackets_of) (by decide +kernel))))) vpa_nil)))))))
theorem fo_brackets_of (T : Tx K mg base) : FoIO P w K mg base 3 (He.ga K "brackets_of") ["reader"] "Reader" f_brackets_of := by
  obtain ⟨fd, F⟩ := T.d_brackets_of
  exact io_of F sc_brackets_of (F.bindsN fun _ _ _ _ _ _ us hl => match us, hl with | [_], _ => rfl) (by decide) (dv_brackets_of T)
abbrev n_Line_begin : List Str := ["self", "numbers", "found", "number", "spot"]
theorem sc_Line_begin : FnScope n_Line_begin ["self", "numbers"] (defScope s_Line_begin) := ⟨rfl, rfl, rfl, by decide +kernel, rfl, by decide +kernel, by decide +kernel⟩
def p1_Line_begin : EM Da := (fTup (fCons (fName 3) (fCons (fName 4) (mP []))))
def p2_Line_begin : EM Fl := (fIf (fBinT vLt (fPeek 3) (fD (fCall vLen (fCons (fD (fFld "Line" "pieces" (fName 0))) (mP [])))))
  (fExpr (fExt 2 (fN (fComp [4] (fIt itemsL (fAlt (fMeth "Names" "begins" f_Names_begins [] (fBin vIx (fD (fFld "Line" "pieces" (fName 0))) (fPeek 3)) (mP [])) (fMeth "Marks" "begins" f_Marks_begins [] (fBin vIx (fD (fFld "Line" "pieces" (fName 0))) (fPeek 3)) (mP [])))) (stN 4) (mP true) p1_Line_begin))))
  (mP .nx))
def b_Line_begin : EM Fl := (fSeq (fAsgN 2 (fLst (mP [])))
  (fSeq (fFor (fIt itemsL (fName 1)) (stN 3)
  p2_Line_begin)
  (fRet (fCall vTupOf (fCons (fPeek 2) (mP []))))))
def f_Line_begin : List Da → Res := fnRun 2 5 b_Line_begin
theorem dv_Line_begin (T : Tx K mg base) : Dv P w K mg base n_Line_begin "Line.begin" s_Line_begin (He.ma K (He.ga K "Line") "begin") 2 b_Line_begin := fun cdv A outer s H E hr =>
  have hN := (sc_Line_begin).nd
  (vss_cons (vs_setN 2 hN (vn_lst va_nil))
  (vss_cons (vs_for PassesOwn.never rfl (vi_list (ve_name 1)) (vg_name 3 hN)
  (vss_one (vs_if (vt_cmp opd_lt (vp_name 3) (vp_of (ve_callB cad_len T.free_len (vpa_cons (vp_of (ve_fld (c := "Line") T.cls_Line T.na_Line_pieces (ve_name 0))) vpa_nil))) (nomark _))
  (vss_one (vs_expr (ve_ext 2 (ve_of_n (vn_comp [("spot", 4)] rfl hN (by decide) (vi_list (ve_alt (ve_meth0 T.cls_Names T.mt_Names_begins (fo_Names_begins T) (hr.mono (by decide)) (ve_ix (vp_of (ve_fld (c := "Line") T.cls_Line T.na_Line_pieces (ve_name 0))) (vp_name 3))) (ve_meth0 T.cls_Marks T.mt_Marks_begins (fo_Marks_begins T) (hr.mono (by decide)) (ve_ix (vp_of (ve_fld (c := "Line") T.cls_Line T.na_Line_pieces (ve_name 0))) (vp_name 3))))) (fun _ _ _ _ _ => (vg_name 4 hN)) (fun _ _ _ _ _ => vts_nil) (fun _ _ _ _ _ => (ve_tup (va_cons (ve_name 3) (va_cons (ve_name 4) va_nil)))) (blkOk_by (N := n_Line_begin) (sc := defScope s_Line_begin) (by decide +kernel)))))))
  vss_nil)))
  (vss_one (vs_ret (ve_callTy cad_tup T.free_tuple (vpa_cons (vp_name 2) vpa_nil))))))
theorem fo_Line_begin (T : Tx K mg base) : FoA P w K mg base 3 (He.ma K (He.ga K "Line") "begin") ["self", "numbers"] [] f_Line_begin := by
  obtain ⟨fd, F⟩ := T.d_Line_begin
  exact fo_of F sc_Line_begin (F.bindsN fun _ _ _ _ _ _ us hl => match us, hl with | [_, _], _ => rfl) (dv_Line_begin T)
abbrev n_Line_step : List Str := ["self", "spots", "sign", "found", "number", "spot", "there"]
theorem sc_Line_step : FnScope n_Line_step ["self", "spots", "sign"] (defScope s_Line_step) := ⟨rfl, rfl, rfl, by decide +kernel, rfl, by decide +kernel, by decide +kernel⟩
def p1_Line_step : EM Da := (fTup (fCons (fName 4) (fCons (fName 6) (mP []))))
def p2_Line_step : EM Fl := (fExpr (fExt 3 (fN (fComp [6] (fIt itemsL (fAlt (fMeth "Names" "moves" f_Names_moves [] (fBin vIx (fD (fFld "Line" "pieces" (fName 0))) (fPeek 4)) (fCons (fName 5) (fCons (fName 2) (mP [])))) (fMeth "Marks" "moves" f_Marks_moves [] (fBin vIx (fD (fFld "Line" "pieces" (fName 0))) (fPeek 4)) (fCons (fName 5) (fCons (fName 2) (mP [])))))) (stN 6) (mP true) p1_Line_step))))
def b_Line_step : EM Fl := (fSeq (fAsgN 3 (fLst (mP [])))
  (fSeq (fFor (fIt itemsT (fName 1)) (stTup 2 (stCons (stN 4) (stCons (stN 5) stNil)))
  p2_Line_step)
  (fRet (fCall vTupOf (fCons (fD (fN (fSrt (fPeek 3)))) (mP []))))))
def f_Line_step : List Da → Res := fnRun 3 7 b_Line_step
theorem dv_Line_step (T : Tx K mg base) : Dv P w K mg base n_Line_step "Line.step" s_Line_step (He.ma K (He.ga K "Line") "step") 2 b_Line_step := fun cdv A outer s H E hr =>
  have hN := (sc_Line_step).nd
  (vss_cons (vs_setN 3 hN (vn_lst va_nil))
  (vss_cons (vs_for PassesOwn.never rfl (vi_tup (ve_name 1)) (vg_tup (n := 2) rfl (vgs_cons (vg_name 4 hN) (vgs_cons (vg_name 5 hN) vgs_nil)))
  (vss_one (vs_expr (ve_ext 3 (ve_of_n (vn_comp [("there", 6)] rfl hN (by decide) (vi_list (ve_alt (ve_meth T.cls_Names T.mt_Names_moves (fo_Names_moves T) (hr.mono (by decide)) (ve_ix (vp_of (ve_fld (c := "Line") T.cls_Line T.na_Line_pieces (ve_name 0))) (vp_name 4)) (va_cons (ve_name 5) (va_cons (ve_name 2) va_nil))) (ve_meth T.cls_Marks T.mt_Marks_moves (fo_Marks_moves T) (hr.mono (by decide)) (ve_ix (vp_of (ve_fld (c := "Line") T.cls_Line T.na_Line_pieces (ve_name 0))) (vp_name 4)) (va_cons (ve_name 5) (va_cons (ve_name 2) va_nil))))) (fun _ _ _ _ _ => (vg_name 6 hN)) (fun _ _ _ _ _ => vts_nil) (fun _ _ _ _ _ => (ve_tup (va_cons (ve_name 4) (va_cons (ve_name 6) va_nil)))) (blkOk_by (N := n_Line_step) (sc := defScope s_Line_step) (by decide +kernel))))))))
  (vss_one (vs_ret (ve_callTy cad_tup T.free_tuple (vpa_cons (vp_of (ve_of_n (vn_sortSet rfl hr.units T.free_sorted T.free_set (vp_name 3)))) vpa_nil))))))
theorem fo_Line_step (T : Tx K mg base) : FoA P w K mg base 3 (He.ma K (He.ga K "Line") "step") ["self", "spots", "sign"] [] f_Line_step := by
  obtain ⟨fd, F⟩ := T.d_Line_step
  exact fo_of F sc_Line_step (F.bindsN fun _ _ _ _ _ _ us hl => match us, hl with | [_, _, _], _ => rfl) (dv_Line_step T)
abbrev n_Line_leave : List Str := ["self", "spots", "found", "number", "spot", "piece"]
theorem sc_Line_leave : FnScope n_Line_leave ["self", "spots"] (defScope s_Line_leave) := ⟨rfl, rfl, rfl, by decide +kernel, rfl, by decide +kernel, by decide +kernel⟩
def p1_Line_leave : EM Fl := (fSeq (fAsg 5 (fBin vIx (fD (fFld "Line" "pieces" (fName 0))) (fPeek 3)))
  (fIf (fTru (fD (fAlt (fMeth "Names" "ends" f_Names_ends [] (fName 5) (fCons (fName 4) (mP []))) (fMeth "Marks" "ends" f_Marks_ends [] (fName 5) (fCons (fName 4) (mP []))))))
  (fExpr (fApp 2 (fIf (fTru (fD (fAlt (fMeth "Names" "many" f_Names_many [] (fName 5) (mP [])) (fMeth "Marks" "many" f_Marks_many [] (fName 5) (mP []))))) (fName 3) (fBin vAdd (fPeek 3) (fD (mP (.int 1)))))))
  (mP .nx)))
def b_Line_leave : EM Fl := (fSeq (fAsgN 2 (fLst (mP [])))
  (fSeq (fFor (fIt itemsT (fName 1)) (stTup 2 (stCons (stN 3) (stCons (stN 4) stNil)))
  p1_Line_leave)
  (fRet (fMeth "Line" "closed" f_Line_closed [] (fName 0) (fCons (fName 2) (mP []))))))
def f_Line_leave : List Da → Res := fnRun 2 6 b_Line_leave
theorem dv_Line_leave (T : Tx K mg base) : Dv P w K mg base n_Line_leave "Line.leave" s_Line_leave (He.ma K (He.ga K "Line") "leave") 2 b_Line_leave := fun cdv A outer s H E hr =>
  have hN := (sc_Line_leave).nd
  (vss_cons (vs_setN 2 hN (vn_lst va_nil))
  (vss_cons (vs_for PassesOwn.never rfl (vi_tup (ve_name 1)) (vg_tup (n := 2) rfl (vgs_cons (vg_name 3 hN) (vgs_cons (vg_name 4 hN) vgs_nil)))
  (vss_cons (vs_set 5 hN (ve_ix (vp_of (ve_fld (c := "Line") T.cls_Line T.na_Line_pieces (ve_name 0))) (vp_name 3)))
  (vss_one (vs_if (vt_tru (vp_of (ve_alt (ve_meth T.cls_Names T.mt_Names_ends (fo_Names_ends T) (hr.mono (by decide)) (ve_name 5) (va_cons (ve_name 4) va_nil)) (ve_meth T.cls_Marks T.mt_Marks_ends (fo_Marks_ends T) (hr.mono (by decide)) (ve_name 5) (va_cons (ve_name 4) va_nil)))))
  (vss_one (vs_expr (ve_app 2 (ve_if (vt_tru (vp_of (ve_alt (ve_meth0 T.cls_Names T.mt_Names_many (fo_Names_many T) (hr.mono (by decide)) (ve_name 5)) (ve_meth0 T.cls_Marks T.mt_Marks_many (fo_Marks_many T) (hr.mono (by decide)) (ve_name 5))))) (ve_name 3) (ve_bin opd_add (vp_name 3) (vp_of ve_int))))))
  vss_nil))))
  (vss_one (vs_ret (ve_meth T.cls_Line T.mt_Line_closed (fo_Line_closed T) (hr.mono (by decide)) (ve_name 0) (va_cons (ve_name 2) va_nil))))))
theorem fo_Line_leave (T : Tx K mg base) : FoA P w K mg base 3 (He.ma K (He.ga K "Line") "leave") ["self", "spots"] [] f_Line_leave := by
  obtain ⟨fd, F⟩ := T.d_Line_leave
  exact fo_of F sc_Line_leave (F.bindsN fun _ _ _ _ _ _ us hl => match us, hl with | [_, _], _ => rfl) (dv_Line_leave T)
abbrev n__law_name_fits : List Str := ["_law_marks", "_law_name"]
theorem sc__law_name_fits : FnScope n__law_name_fits ["_law_marks", "_law_name"] (defScope s__law_name_fits) := ⟨rfl, rfl, rfl, by decide +kernel, rfl, by decide +kernel, by decide +kernel⟩
def b__law_name_fits : EM Fl := (fRet (fBin vIx (fD (fDef f__law_parted1 [] (fCons (fName 1) (fCons (fName 0) (fCons (mP (.lam 0)) (mP [])))))) (fD (fNeg (mP (.int 1))))))
def f__law_name_fits : List Da → Res := fnRun 2 2 b__law_name_fits
theorem dv__law_name_fits (T : Tx K mg base) (A : Around) (outer : List PySem.Env) (s : Shared) (H : Hp) (E : XK) (hr : Room 2 (A.deeper (envOfC "_law_name_fits" (defScope s__law_name_fits) s.heap.objs.size (He.ga K "_law_name_fits") (.ref (He.codeOf K ("_law_name_fits", none)))))) : VSs (Cxd P w K mg base n__law_name_fits "_law_name_fits" s__law_name_fits (He.ga K "_law_name_fits") (.ref (He.codeOf K ("_law_name_fits", none))) A outer s H E) Wn (defBody s__law_name_fits) b__law_name_fits :=
  have hN := (sc__law_name_fits).nd
  (vss_one (vs_ret (ve_ix (vp_of (ve_call (fo__law_parted1 T) T.g__law_parted (hr.mono (by decide)) (va_cons (ve_name 1) (va_cons (ve_name 0) (va_cons (ve_lam 0 T.lamB0 rfl T.lamT0 T.lamU0 T.lamL0) va_nil))))) (vp_of (ve_neg ve_int)))))
theorem fo__law_name_fits (T : Tx K mg base) : FoA P w K mg base 3 (He.ga K "_law_name_fits") ["_law_marks", "_law_name"] [] f__law_name_fits := by
  obtain ⟨fd, F⟩ := T.d__law_name_fits
  exact fo_ofC F sc__law_name_fits (F.bindsN fun _ _ _ _ _ _ us hl => match us, hl with | [_, _], _ => rfl) ("_law_name_fits", none) rfl (dv__law_name_fits T)
abbrev n__law_pool : List Str := ["_law_script", "_law_at", "_law_one"]
theorem sc__law_pool : FnScope n__law_pool ["_law_script", "_law_at"] (defScope s__law_pool) := ⟨rfl, rfl, rfl, by decide +kernel, rfl, by decide +kernel, by decide +kernel⟩
def p1__law_pool : EM Da := (fBin vIx (fD (fDef f__law_signs [] (mP []))) (fPeek 2))
def b__law_pool : EM Fl := (fRet (fMs sJoin (mP (.str [])) (fCons (fD (fN (fComp [2] (fIt itemsL (fDef f__law_digits [] (fCons (fName 0) (fCons (fName 1) (fCons (mP (.int 4)) (fCons (mP (.int 27)) (mP []))))))) (stN 2) (mP true) p1__law_pool))) (mP []))))
def f__law_pool : List Da → Res := fnRun 2 3 b__law_pool
theorem dv__law_pool (T : Tx K mg base) : Dv P w K mg base n__law_pool "_law_pool" s__law_pool (He.ga K "_law_pool") 3 b__law_pool := fun cdv A outer s H E hr =>
  have hN := (sc__law_pool).nd
  (vss_one (vs_ret (ve_ms PySem.F.slot_str_join PySem.F.type_str_join ms_join (ve_str []) (vpa_cons (vp_of (ve_of_n (vn_comp [("_law_one", 2)] rfl hN (by decide) (vi_list (ve_call (fo__law_digits T) T.g__law_digits (hr.mono (by decide)) (va_cons (ve_name 0) (va_cons (ve_name 1) (va_cons ve_int (va_cons ve_int va_nil)))))) (fun _ _ _ _ _ => (vg_name 2 hN)) (fun _ _ _ _ _ => vts_nil) (fun _ _ _ _ _ => (ve_ix (vp_of (ve_call0 (fo__law_signs T) T.g__law_signs (hr.mono (by decide)))) (vp_name 2))) (blkOk_by (N := n__law_pool) (sc := defScope s__law_pool) (by decide +kernel))))) vpa_nil))))
theorem fo__law_pool (T : Tx K mg base) : FoA P w K mg base 4 (He.ga K "_law_pool") ["_law_script", "_law_at"] [] f__law_pool := by
  obtain ⟨fd, F⟩ := T.d__law_pool
  exact fo_of F sc__law_pool (F.bindsN fun _ _ _ _ _ _ us hl => match us, hl with | [_, _], _ => rfl) (dv__law_pool T)
abbrev n__law_line : List Str := ["_law_script", "_law_at", "_law_pool_here", "_law_draws", "_law_pieces", "_law_turn", "_law_number", "_law_marks", "_law_more"]
theorem sc__law_line : FnScope n__law_line ["_law_script", "_law_at", "_law_pool_here"] (defScope s__law_line) := ⟨rfl, rfl, rfl, by decide +kernel, rfl, by decide +kernel, by decide +kernel⟩
def p1__law_line : EM Fl := (fExpr (fApp 7 (fDef f__law_mark [] (fCons (fBin vIx (fPeek 3) (fD (fBin vAdd (fD (fBin vAdd (fD (mP (.int 4))) (fD (fBin vMul (fD (mP (.int 2))) (fPeek 5))))) (fPeek 8)))) (fCons (fName 2) (fCons (fBin (vEq false) (fD (fN (fSl vSlL (fPeek 7) (fInt (fNeg (mP (.int 1)))) (mP none)))) (fD (fN (fLst (fCons (mP (.str [42])) (mP [])))))) (mP [])))))))
def p2__law_line : EM Fl := (fSeq (fAsg 6 (fBin vIx (fPeek 3) (fD (fBin vAdd (fD (mP (.int 1))) (fPeek 5)))))
  (fIf (fBinT (vEq false) (fD (fBin vMod (fPeek 6) (fD (mP (.int 5))))) (fD (mP (.int 0))))
  (fIf (fBinT (vEq true) (fD (fN (fSl vSlL (fPeek 4) (fInt (fNeg (mP (.int 1)))) (mP none)))) (fD (fN (fLst (fCons (mP .non) (mP []))))))
  (fExpr (fApp 4 (mP .non)))
  (mP .nx))
  (fSeq (fAsgN 7 (fLst (mP [])))
  (fSeq (fFor (fItA rng1 (fCons (fBin vAdd (fD (mP (.int 1))) (fD (fBin vMod (fD (fBin vFdiv (fPeek 6) (fD (mP (.int 5))))) (fD (mP (.int 3)))))) (mP []))) (stN 8)
  p1__law_line)
  (fExpr (fApp 4 (fName 7)))))))
def b__law_line : EM Fl := (fSeq (fAsg 3 (fDef f__law_digits [] (fCons (fName 0) (fCons (fName 1) (fCons (mP (.int 12)) (fCons (mP (.int 600)) (mP [])))))))
  (fSeq (fAsgN 4 (fLst (mP [])))
  (fSeq (fFor (fItA rng1 (fCons (fBin vAdd (fD (mP (.int 1))) (fD (fBin vMod (fD (fBin vFdiv (fD (fBin vIx (fPeek 3) (fD (mP (.int 0))))) (fD (mP (.int 9))))) (fD (mP (.int 3)))))) (mP []))) (stN 5)
  p2__law_line)
  (fRet (fTup (fCons (fBin (vEq false) (fD (fBin vMod (fD (fBin vIx (fPeek 3) (fD (mP (.int 0))))) (fD (mP (.int 3))))) (fD (mP (.int 0)))) (fCons (fName 4) (fCons (fBin (vEq false) (fD (fBin vMod (fD (fBin vFdiv (fD (fBin vIx (fPeek 3) (fD (mP (.int 0))))) (fD (mP (.int 3))))) (fD (mP (.int 3))))) (fD (mP (.int 0)))) (mP [])))))))))
def f__law_line : List Da → Res := fnRun 3 9 b__law_line
theorem dv__law_line (T : Tx K mg base) : Dv P w K mg base n__law_line "_law_line" s__law_line (He.ga K "_law_line") 3 b__law_line := fun cdv A outer s H E hr =>
  have hN := (sc__law_line).nd
  (vss_cons (vs_set 3 hN (ve_call (fo__law_digits T) T.g__law_digits (hr.mono (by decide)) (va_cons (ve_name 0) (va_cons (ve_name 1) (va_cons ve_int (va_cons ve_int va_nil))))))
  (vss_cons (vs_setN 4 hN (vn_lst va_nil))
  (vss_cons (vs_for PassesOwn.never rfl (vi_range1 T.free_range (va_cons (ve_bin opd_add (vp_of ve_int) (vp_of (ve_bin opd_mod (vp_of (ve_bin opd_fdiv (vp_of (ve_ix (vp_name 3) (vp_of ve_int))) (vp_of ve_int))) (vp_of ve_int)))) va_nil)) (vg_name 5 hN)
  (vss_cons (vs_set 6 hN (ve_ix (vp_name 3) (vp_of (ve_bin opd_add (vp_of ve_int) (vp_name 5)))))
  (vss_one (vs_if (vt_cmp (opd_eq hr.units) (vp_of (ve_bin opd_mod (vp_name 6) (vp_of ve_int))) (vp_of ve_int) (nomark _))
  (vss_one (vs_if (vt_cmp (opd_ne hr.units) (vp_of (ve_of_n (vn_slL (vp_name 4) (vo_some (ve_neg ve_int)) vo_none))) (vp_of (ve_of_n (vn_lst (va_cons ve_non va_nil)))) (nomark _))
  (vss_one (vs_expr (ve_app 4 ve_non)))
  vss_nil))
  (vss_cons (vs_setN 7 hN (vn_lst va_nil))
  (vss_cons (vs_for PassesOwn.never rfl (vi_range1 T.free_range (va_cons (ve_bin opd_add (vp_of ve_int) (vp_of (ve_bin opd_mod (vp_of (ve_bin opd_fdiv (vp_name 6) (vp_of ve_int))) (vp_of ve_int)))) va_nil)) (vg_name 8 hN)
  (vss_one (vs_expr (ve_app 7 (ve_call (fo__law_mark T) T.g__law_mark (hr.mono (by decide)) (va_cons (ve_ix (vp_name 3) (vp_of (ve_bin opd_add (vp_of (ve_bin opd_add (vp_of ve_int) (vp_of (ve_bin opd_mul (vp_of ve_int) (vp_name 5))))) (vp_name 8)))) (va_cons (ve_name 2) (va_cons (ve_cmp (opd_eq hr.units) (vp_of (ve_of_n (vn_slL (vp_name 7) (vo_some (ve_neg ve_int)) vo_none))) (vp_of (ve_of_n (vn_lst (va_cons (ve_str [42]) va_nil)))) (nomark _)) va_nil))))))))
  (vss_one (vs_expr (ve_app 4 (ve_name 7))))))))))
  (vss_one (vs_ret (ve_tup (va_cons (ve_cmp (opd_eq hr.units) (vp_of (ve_bin opd_mod (vp_of (ve_ix (vp_name 3) (vp_of ve_int))) (vp_of ve_int))) (vp_of ve_int) (nomark _)) (va_cons (ve_name 4) (va_cons (ve_cmp (opd_eq hr.units) (vp_of (ve_bin opd_mod (vp_of (ve_bin opd_fdiv (vp_of (ve_ix (vp_name 3) (vp_of ve_int))) (vp_of ve_int))) (vp_of ve_int))) (vp_of ve_int) (nomark _)) va_nil)))))))))
theorem fo__law_line (T : Tx K mg base) : FoA P w K mg base 4 (He.ga K "_law_line") ["_law_script", "_law_at", "_law_pool_here"] [] f__law_line := by
  obtain ⟨fd, F⟩ := T.d__law_line
  exact fo_of F sc__law_line (F.bindsN fun _ _ _ _ _ _ us hl => match us, hl with | [_, _, _], _ => rfl) (dv__law_line T)
abbrev n__law_other : List Str := ["_law_line_here", "_law_number", "_law_lets", "_law_pieces", "_law_folders", "_law_told", "_law_turn", "_law_piece", "_law_marks", "_law_at", "_law_mark_here", "_law_text"]
theorem sc__law_other : FnScope n__law_other ["_law_line_here", "_law_number"] (defScope s__law_other) := ⟨rfl, rfl, rfl, by decide +kernel, rfl, by decide +kernel, by decide +kernel⟩
def p1__law_other : EM Da := (fDef f__law_mark_other [] (fCons (fName 10) (fCons (fBin vAdd (fD (fBin vFdiv (fPeek 6) (fD (mP (.int 7))))) (fPeek 9)) (mP []))))
def p2__law_other : EM Fl := (fSeq (fAsg 6 (fBin vAdd (fD (fBin vMul (fPeek 6) (fD (mP (.int 5))))) (fD (mP (.int 1)))))
  (fIf (fBinT (vIs false) (fPeek 7) (fD (mP .non)))
  (fExpr (fExt 5 (fBin vMul (fD (fN (fLst (fCons (mP (.str [42, 42])) (mP []))))) (fD (fBin vAdd (fD (mP (.int 1))) (fD (fBin vMod (fD (fBin vFdiv (fPeek 6) (fD (mP (.int 3))))) (fD (mP (.int 2))))))))))
  (fSeq (fAsgN 8 (fComp [9, 10] (fItA enumOf (fCons (fName 7) (mP []))) (stTup 2 (stCons (stN 9) (stCons (stN 10) stNil))) (mP true) p1__law_other))
  (fExpr (fApp 5 (fMs sJoin (mP (.str [])) (fCons (fPeek 8) (mP []))))))))
def b__law_other : EM Fl := (fSeq (fTo (stTup 3 (stCons (stN 2) (stCons (stN 3) (stCons (stN 4) stNil)))) (fName 0))
  (fSeq (fPar2 5 6 (fCn (fLst (mP [])) (fCv (fName 1) (mP []))))
  (fSeq (fFor (fIt itemsL (fName 3)) (stN 7)
  p2__law_other)
  (fSeq (fIf (fAnd (fBinT (vEq false) (fD (fBin vMod (fPeek 1) (fD (mP (.int 3))))) (fD (mP (.int 0)))) (fAnd (fBinT (vIs false) (fD (fBin vIx (fPeek 3) (fD (mP (.int 0))))) (fD (mP .non))) (fBinT vLt (fD (fCall vLen (fCons (fPeek 3) (mP [])))) (fD (mP (.int 3))))))
  (fAsg 11 (fBin vIx (fPeek 5) (fD (fNeg (mP (.int 1))))))
  (fAsg 11 (fBin vAdd (fD (fIf (fOr (fBinT (vEq false) (fD (fCall vLen (fCons (fPeek 5) (mP [])))) (fD (mP (.int 1)))) (fBinT (vEq false) (fD (fBin vMod (fD (fBin vFdiv (fPeek 1) (fD (mP (.int 3))))) (fD (mP (.int 2))))) (fD (mP (.int 1))))) (mP (.str [47])) (mP (.str [])))) (fD (fMs sJoin (mP (.str [47])) (fCons (fPeek 5) (mP [])))))))
  (fRet (fBin vAdd (fD (fBin vAdd (fD (fIf (fTru (fPeek 2)) (mP (.str [33])) (mP (.str [])))) (fPeek 11))) (fD (fIf (fTru (fPeek 4)) (mP (.str [47])) (mP (.str []))))))))))
def f__law_other : List Da → Res := fnRun 2 12 b__law_other
theorem dv__law_other (T : Tx K mg base) : Dv P w K mg base n__law_other "_law_other" s__law_other (He.ga K "_law_other") 3 b__law_other := fun cdv A outer s H E hr =>
  have hN := (sc__law_other).nd
  (vss_cons (vs_asg (ve_name 0) (vg_tup (n := 3) rfl (vgs_cons (vg_name 2 hN) (vgs_cons (vg_name 3 hN) (vgs_cons (vg_name 4 hN) vgs_nil)))))
  (vss_cons (vs_parT2 5 6 rfl hN (vc_n (vn_lst va_nil) (vc_v (ve_name 1) vc_nil)) (pgn 5 hN) (pgn 6 hN))
  (vss_cons (vs_for PassesOwn.never rfl (vi_list (ve_name 3)) (vg_name 7 hN)
  (vss_cons (vs_set 6 hN (ve_bin opd_add (vp_of (ve_bin opd_mul (vp_name 6) (vp_of ve_int))) (vp_of ve_int)))
  (vss_one (vs_if (vt_cmp opd_is (vp_name 7) (vp_of ve_non) (nomark _))
  (vss_one (vs_expr (ve_ext 5 (ve_bin opd_mul (vp_of (ve_of_n (vn_lst (va_cons (ve_str [42, 42]) va_nil)))) (vp_of (ve_bin opd_add (vp_of ve_int) (vp_of (ve_bin opd_mod (vp_of (ve_bin opd_fdiv (vp_name 6) (vp_of ve_int))) (vp_of ve_int)))))))))
  (vss_cons (vs_setC 8 [("_law_at", 9), ("_law_mark_here", 10)] rfl hN (by decide) (vi_enum T.free_enumerate (va_cons (ve_name 7) va_nil)) (fun _ _ _ _ _ => (vg_tup (n := 2) rfl (vgs_cons (vg_name 9 hN) (vgs_cons (vg_name 10 hN) vgs_nil)))) (fun _ _ _ _ _ => vts_nil) (fun _ _ _ _ _ => (ve_call (fo__law_mark_other T) T.g__law_mark_other (hr.mono (by decide)) (va_cons (ve_name 10) (va_cons (ve_bin opd_add (vp_of (ve_bin opd_fdiv (vp_name 6) (vp_of ve_int))) (vp_name 9)) va_nil)))) (blkOk_by (N := n__law_other) (sc := defScope s__law_other) (by decide +kernel)) (sw_true rfl rfl rfl (by decide +kernel)))
  (vss_one (vs_expr (ve_app 5 (ve_ms PySem.F.slot_str_join PySem.F.type_str_join ms_join (ve_str []) (vpa_cons (vp_name 8) vpa_nil))))))))))
  (vss_cons (vs_if (vt_w (vw_and (vt_cmp (opd_eq hr.units) (vp_of (ve_bin opd_mod (vp_name 1) (vp_of ve_int))) (vp_of ve_int) (nomark _)) (vw_and (vt_cmp opd_is (vp_of (ve_ix (vp_name 3) (vp_of ve_int))) (vp_of ve_non) (nomark _)) (vw_and1 (vt_cmp opd_lt (vp_of (ve_callB cad_len T.free_len (vpa_cons (vp_name 3) vpa_nil))) (vp_of ve_int) (nomark _))))))
  (vss_one (vs_set 11 hN (ve_ix (vp_name 5) (vp_of (ve_neg ve_int)))))
  (vss_one (vs_set 11 hN (ve_bin opd_add (vp_of (ve_if (vt_w (vw_or (vt_cmp (opd_eq hr.units) (vp_of (ve_callB cad_len T.free_len (vpa_cons (vp_name 5) vpa_nil))) (vp_of ve_int) (nomark _)) (vw_or1 (vt_cmp (opd_eq hr.units) (vp_of (ve_bin opd_mod (vp_of (ve_bin opd_fdiv (vp_name 1) (vp_of ve_int))) (vp_of ve_int))) (vp_of ve_int) (nomark _))))) (ve_str [47]) (ve_str []))) (vp_of (ve_ms PySem.F.slot_str_join PySem.F.type_str_join ms_join (ve_str [47]) (vpa_cons (vp_name 5) vpa_nil)))))))
  (vss_one (vs_ret (ve_bin opd_add (vp_of (ve_bin opd_add (vp_of (ve_if (vt_tru (vp_name 2)) (ve_str [33]) (ve_str []))) (vp_name 11))) (vp_of (ve_if (vt_tru (vp_name 4)) (ve_str [47]) (ve_str []))))))))))
theorem fo__law_other (T : Tx K mg base) : FoA P w K mg base 4 (He.ga K "_law_other") ["_law_line_here", "_law_number"] [] f__law_other := by
  obtain ⟨fd, F⟩ := T.d__law_other
  exact fo_of F sc__law_other (F.bindsN fun _ _ _ _ _ _ us hl => match us, hl with | [_, _], _ => rfl) (dv__law_other T)
abbrev n_mark_of : List Str := ["reader", "starred"]
theorem sc_mark_of : FnScope n_mark_of ["reader", "starred"] (defScope s_mark_of) := ⟨rfl, rfl, rfl, by decide +kernel, rfl, by decide +kernel, by decide +kernel⟩
def b_mark_of : EM Fl := (fSeq (fIf (fAnd (fNot (fTru (fPeek 1))) (fTru (fD (fMIO "Reader" "take" f_Reader_take 0 (fCons (mP (.str c_STAR)) (mP []))))))
  (fRet (mP (.str c_STAR)))
  (mP .nx))
  (fSeq (fIf (fTru (fD (fMIO "Reader" "take" f_Reader_take 0 (fCons (mP (.str [63])) (mP [])))))
  (fRet (mP (.str c_SIGNS)))
  (mP .nx))
  (fSeq (fIf (fTru (fD (fMIO "Reader" "take" f_Reader_take 0 (fCons (mP (.str [91])) (mP [])))))
  (fRet (fIO "Reader" f_brackets_of 0 (mP [])))
  (mP .nx))
  (fRet (fMIO "Reader" "one_of" f_Reader_one_of 0 (fCons (mP (.str c_SIGNS)) (mP [])))))))
def f_mark_of : List (Str × Da) → List Da → Option (Da × List (Str × Da)) := ioRun 2 2 "Reader" b_mark_of
theorem dv_mark_of (T : Tx K mg base) : Dv P w K mg base n_mark_of "mark_of" s_mark_of (He.ga K "mark_of") 3 b_mark_of := fun cdv A outer s H E hr =>
  have hN := (sc_mark_of).nd
  (vss_cons (vs_if (vt_w (vw_and (vt_not (vt_tru (vp_name 1))) (vw_and1 (vt_tru (vp_of (ve_methIO 0 T.cls_Reader T.mt_Reader_take (fo_Reader_take T) (hr.mono (by decide)) (va_cons (ve_gstr c_STAR rfl T.s_STAR) va_nil)))))))
  (vss_one (vs_ret (ve_gstr c_STAR rfl T.s_STAR)))
  vss_nil)
  (vss_cons (vs_if (vt_tru (vp_of (ve_methIO 0 T.cls_Reader T.mt_Reader_take (fo_Reader_take T) (hr.mono (by decide)) (va_cons (ve_str [63]) va_nil))))
  (vss_one (vs_ret (ve_gstr c_SIGNS rfl T.s_SIGNS)))
  vss_nil)
  (vss_cons (vs_if (vt_tru (vp_of (ve_methIO 0 T.cls_Reader T.mt_Reader_take (fo_Reader_take T) (hr.mono (by decide)) (va_cons (ve_str [91]) va_nil))))
  (vss_one (vs_ret (ve_callIO 0 (fo_brackets_of T) T.g_brackets_of (hr.mono (by decide)) va_nil)))
  vss_nil)
  (vss_one (vs_ret (ve_methIO 0 T.cls_Reader T.mt_Reader_one_of (fo_Reader_one_of T) (hr.mono (by decide)) (va_cons (ve_gstr c_SIGNS rfl T.s_SIGNS) va_nil)))))))
theorem fo_mark_of (T : Tx K mg base) : FoIO P w K mg base 4 (He.ga K "mark_of") ["reader", "starred"] "Reader" f_mark_of := by
  obtain ⟨fd, F⟩ := T.d_mark_of
  exact io_of F sc_mark_of (F.bindsN fun _ _ _ _ _ _ us hl => match us, hl with | [_, _], _ => rfl) (by decide) (dv_mark_of T)
abbrev n_Line_stages : List Str := ["self", "names", "found", "numbers", "name", "spots", "sign"]
theorem sc_Line_stages : FnScope n_Line_stages ["self", "names"] (defScope s_Line_stages) := ⟨rfl, rfl, rfl, by decide +kernel, rfl, by decide +kernel, by decide +kernel⟩
def p1_Line_stages : EM Fl := (fAsg 5 (fMeth "Line" "step" f_Line_step [] (fName 0) (fCons (fName 5) (fCons (fName 6) (mP [])))))
def p2_Line_stages : EM Fl := (fSeq (fAsg 5 (fMeth "Line" "begin" f_Line_begin [] (fName 0) (fCons (fName 3) (mP []))))
  (fSeq (fFor (fIt itemsS (fName 4)) (stN 6)
  p1_Line_stages)
  (fSeq (fAsg 3 (fMeth "Line" "leave" f_Line_leave [] (fName 0) (fCons (fName 5) (mP []))))
  (fExpr (fApp 2 (fName 3))))))
def b_Line_stages : EM Fl := (fSeq (fPar2 2 3 (fCn (fLst (mP [])) (fCv (fMeth "Line" "closed" f_Line_closed [] (fName 0) (fCons (fN (fLst (fCons (mP (.int 0)) (mP [])))) (mP []))) (mP []))))
  (fSeq (fFor (fIt itemsL (fName 1)) (stN 4)
  p2_Line_stages)
  (fRet (fName 2))))
def f_Line_stages : List Da → Res := fnRun 2 7 b_Line_stages
theorem dv_Line_stages (T : Tx K mg base) : Dv P w K mg base n_Line_stages "Line.stages" s_Line_stages (He.ma K (He.ga K "Line") "stages") 3 b_Line_stages := fun cdv A outer s H E hr =>
  have hN := (sc_Line_stages).nd
  (vss_cons (vs_par2 2 3 rfl hN (vc_n (vn_lst va_nil) (vc_v (ve_meth T.cls_Line T.mt_Line_closed (fo_Line_closed T) (hr.mono (by decide)) (ve_name 0) (va_cons (ve_of_n (vn_lst (va_cons ve_int va_nil))) va_nil)) vc_nil)))
  (vss_cons (vs_for PassesOwn.never rfl (vi_list (ve_name 1)) (vg_name 4 hN)
  (vss_cons (vs_set 5 hN (ve_meth T.cls_Line T.mt_Line_begin (fo_Line_begin T) (hr.mono (by decide)) (ve_name 0) (va_cons (ve_name 3) va_nil)))
  (vss_cons (vs_for PassesOwn.never rfl (vi_str (ve_name 4)) (vg_name 6 hN)
  (vss_one (vs_set 5 hN (ve_meth T.cls_Line T.mt_Line_step (fo_Line_step T) (hr.mono (by decide)) (ve_name 0) (va_cons (ve_name 5) (va_cons (ve_name 6) va_nil))))))
  (vss_cons (vs_set 3 hN (ve_meth T.cls_Line T.mt_Line_leave (fo_Line_leave T) (hr.mono (by decide)) (ve_name 0) (va_cons (ve_name 5) va_nil)))
  (vss_one (vs_expr (ve_app 2 (ve_name 3))))))))
  (vss_one (vs_ret (ve_name 2)))))
theorem fo_Line_stages (T : Tx K mg base) : FoA P w K mg base 4 (He.ma K (He.ga K "Line") "stages") ["self", "names"] [] f_Line_stages := by
  obtain ⟨fd, F⟩ := T.d_Line_stages
  exact fo_of F sc_Line_stages (F.bindsN fun _ _ _ _ _ _ us hl => match us, hl with | [_, _], _ => rfl) (dv_Line_stages T)
abbrev n__law_path : List Str := ["_law_script", "_law_at", "_law_pool_here", "_law_draws", "_law_names", "_law_turn", "_law_number", "_law_name", "_law_more", "_law_sign"]
theorem sc__law_path : FnScope n__law_path ["_law_script", "_law_at", "_law_pool_here"] (defScope s__law_path) := ⟨rfl, rfl, rfl, by decide +kernel, rfl, by decide +kernel, by decide +kernel⟩
def p1__law_path : EM Fl := (fSeq (fAsg 9 (fBin vIx (fPeek 3) (fD (fBin vAdd (fD (fBin vAdd (fD (mP (.int 4))) (fD (fBin vMul (fD (mP (.int 2))) (fPeek 5))))) (fPeek 8)))))
  (fAug 7 vAugAdd (fIf (fBinT vGt (fD (fBin vMod (fPeek 9) (fD (mP (.int 5))))) (fD (mP (.int 0)))) (fBin vIx (fPeek 2) (fD (fBin vMod (fD (fBin vFdiv (fPeek 9) (fD (mP (.int 5))))) (fD (mP (.int 4)))))) (fBin vIx (fD (fDef f__law_signs [] (mP []))) (fD (fBin vFdiv (fPeek 9) (fD (mP (.int 5)))))))))
def p2__law_path : EM Fl := (fSeq (fPar2 6 7 (fCv (fBin vIx (fPeek 3) (fD (fBin vAdd (fD (mP (.int 1))) (fPeek 5)))) (fCv (mP (.str [])) (mP []))))
  (fSeq (fFor (fItA rng1 (fCons (fBin vAdd (fD (mP (.int 1))) (fD (fBin vMod (fPeek 6) (fD (mP (.int 3)))))) (mP []))) (stN 8)
  p1__law_path)
  (fExpr (fApp 4 (fName 7)))))
def b__law_path : EM Fl := (fSeq (fPar2 3 4 (fCv (fDef f__law_digits [] (fCons (fName 0) (fCons (fName 1) (fCons (mP (.int 12)) (fCons (mP (.int 135)) (mP [])))))) (fCn (fLst (mP [])) (mP []))))
  (fSeq (fFor (fItA rng1 (fCons (fBin vAdd (fD (mP (.int 1))) (fD (fBin vMod (fD (fBin vIx (fPeek 3) (fD (mP (.int 0))))) (fD (mP (.int 3)))))) (mP []))) (stN 5)
  p2__law_path)
  (fRet (fMs sJoin (mP (.str [47])) (fCons (fPeek 4) (mP []))))))
def f__law_path : List Da → Res := fnRun 3 10 b__law_path
theorem dv__law_path (T : Tx K mg base) : Dv P w K mg base n__law_path "_law_path" s__law_path (He.ga K "_law_path") 3 b__law_path := fun cdv A outer s H E hr =>
  have hN := (sc__law_path).nd
  (vss_cons (vs_par2 3 4 rfl hN (vc_v (ve_call (fo__law_digits T) T.g__law_digits (hr.mono (by decide)) (va_cons (ve_name 0) (va_cons (ve_name 1) (va_cons ve_int (va_cons ve_int va_nil))))) (vc_n (vn_lst va_nil) vc_nil)))
  (vss_cons (vs_for PassesOwn.never rfl (vi_range1 T.free_range (va_cons (ve_bin opd_add (vp_of ve_int) (vp_of (ve_bin opd_mod (vp_of (ve_ix (vp_name 3) (vp_of ve_int))) (vp_of ve_int)))) va_nil)) (vg_name 5 hN)
  (vss_cons (vs_par2 6 7 rfl hN (vc_v (ve_ix (vp_name 3) (vp_of (ve_bin opd_add (vp_of ve_int) (vp_name 5)))) (vc_v (ve_str []) vc_nil)))
  (vss_cons (vs_for PassesOwn.never rfl (vi_range1 T.free_range (va_cons (ve_bin opd_add (vp_of ve_int) (vp_of (ve_bin opd_mod (vp_name 6) (vp_of ve_int)))) va_nil)) (vg_name 8 hN)
  (vss_cons (vs_set 9 hN (ve_ix (vp_name 3) (vp_of (ve_bin opd_add (vp_of (ve_bin opd_add (vp_of ve_int) (vp_of (ve_bin opd_mul (vp_of ve_int) (vp_name 5))))) (vp_name 8)))))
  (vss_one (vs_aug 7 ppd_add hN (ve_if (vt_cmp opd_gt (vp_of (ve_bin opd_mod (vp_name 9) (vp_of ve_int))) (vp_of ve_int) (nomark _)) (ve_ix (vp_name 2) (vp_of (ve_bin opd_mod (vp_of (ve_bin opd_fdiv (vp_name 9) (vp_of ve_int))) (vp_of ve_int)))) (ve_ix (vp_of (ve_call0 (fo__law_signs T) T.g__law_signs (hr.mono (by decide)))) (vp_of (ve_bin opd_fdiv (vp_name 9) (vp_of ve_int)))))))))
  (vss_one (vs_expr (ve_app 4 (ve_name 7)))))))
  (vss_one (vs_ret (ve_ms PySem.F.slot_str_join PySem.F.type_str_join ms_join (ve_str [47]) (vpa_cons (vp_name 4) vpa_nil))))))
theorem fo__law_path (T : Tx K mg base) : FoA P w K mg base 4 (He.ga K "_law_path") ["_law_script", "_law_at", "_law_pool_here"] [] f__law_path := by
  obtain ⟨fd, F⟩ := T.d__law_path
  exact fo_of F sc__law_path (F.bindsN fun _ _ _ _ _ _ us hl => match us, hl with | [_, _, _], _ => rfl) (dv__law_path T)
abbrev n__law_parted2 : List Str := ["_law_signs_here", "_law_marks", "_law_fit", "_law_ends", "_law_mark_here", "_law_fresh", "_law_at"]
theorem sc__law_parted2 : FnScope n__law_parted2 ["_law_signs_here", "_law_marks", "_law_fit"] (defScope s__law_parted) := ⟨rfl, rfl, rfl, by decide +kernel, rfl, by decide +kernel, by decide +kernel⟩
def p1__law_parted2 : EM Fl := (fIf (fOr (fBinT (vIs false) (fPeek 4) (fD (mP .non))) (fBinT (vEq false) (fPeek 4) (fD (mP (.str [42])))))
  (fExpr (fApp 5 (fCall vAny (fCons (fD (fN (fSl vSlL (fPeek 3) (mP none) (fInt (fBin vAdd (fPeek 6) (fD (mP (.int 1)))))))) (mP [])))))
  (fExpr (fApp 5 (fAndV (fBin vGt (fPeek 6) (fD (mP (.int 0)))) (fAndV (fBin vIx (fPeek 3) (fD (fBin vSub (fPeek 6) (fD (mP (.int 1)))))) (fCallV (isGlo "_law_name_fits") 2 f__law_name_fits (fCons (fName 4) (fCons (fBin vIx (fPeek 0) (fD (fBin vSub (fPeek 6) (fD (mP (.int 1)))))) (mP [])))))))))
def p2__law_parted2 : EM Fl := (fSeq (fAsgN 5 (fLst (mP [])))
  (fSeq (fFor (fItA rng1 (fCons (fBin vAdd (fD (fCall vLen (fCons (fPeek 0) (mP [])))) (fD (mP (.int 1)))) (mP []))) (stN 6)
  p1__law_parted2)
  (fAsg 3 (fName 5))))
def b__law_parted2 : EM Fl := (fSeq (fAsg 3 (fBin vAdd (fD (fN (fLst (fCons (mP (.bl true)) (mP []))))) (fD (fBin vMul (fD (fN (fLst (fCons (mP (.bl false)) (mP []))))) (fD (fCall vLen (fCons (fPeek 0) (mP []))))))))
  (fSeq (fFor (fIt itemsL (fName 1)) (stN 4)
  p2__law_parted2)
  (fRet (fName 3))))
def f__law_parted2 : List Da → Res := fnRun 3 7 b__law_parted2
theorem dv__law_parted2 (T : Tx K mg base) : Dv P w K mg base n__law_parted2 "_law_parted" s__law_parted (He.ga K "_law_parted") 3 b__law_parted2 := fun cdv A outer s H E hr =>
  have hN := (sc__law_parted2).nd
  (vss_cons (vs_set 3 hN (ve_bin opd_add (vp_of (ve_of_n (vn_lst (va_cons ve_bl va_nil)))) (vp_of (ve_bin opd_mul (vp_of (ve_of_n (vn_lst (va_cons ve_bl va_nil)))) (vp_of (ve_callB cad_len T.free_len (vpa_cons (vp_name 0) vpa_nil)))))))
  (vss_cons (vs_for PassesOwn.never rfl (vi_list (ve_name 1)) (vg_name 4 hN)
  (vss_cons (vs_setN 5 hN (vn_lst va_nil))
  (vss_cons (vs_for PassesOwn.never rfl (vi_range1 T.free_range (va_cons (ve_bin opd_add (vp_of (ve_callB cad_len T.free_len (vpa_cons (vp_name 0) vpa_nil))) (vp_of ve_int)) va_nil)) (vg_name 6 hN)
  (vss_one (vs_if (vt_w (vw_or (vt_cmp opd_is (vp_name 4) (vp_of ve_non) (nomark _)) (vw_or1 (vt_cmp (opd_eq hr.units) (vp_name 4) (vp_of (ve_str [42])) (nomark _)))))
  (vss_one (vs_expr (ve_app 5 (ve_callB (cad_any rfl) T.free_any (vpa_cons (vp_of (ve_of_n (vn_slL (vp_name 3) vo_none (vo_some (ve_bin opd_add (vp_name 6) (vp_of ve_int)))))) vpa_nil)))))
  (vss_one (vs_expr (ve_app 5 (ve_and (ve_cmp opd_gt (vp_name 6) (vp_of ve_int) (nomark _)) (ve_and (ve_ix (vp_name 3) (vp_of (ve_bin opd_sub (vp_name 6) (vp_of ve_int)))) (ve_one (ve_callG (y := "_law_name_fits") 2 (fo__law_name_fits T) (hr.mono (by decide)) (va_cons (ve_name 4) (va_cons (ve_ix (vp_name 0) (vp_of (ve_bin opd_sub (vp_name 6) (vp_of ve_int)))) va_nil))))))))))))
  (vss_one (vs_set 3 hN (ve_name 5))))))
  (vss_one (vs_ret (ve_name 3)))))
theorem fo__law_parted2 (T : Tx K mg base) : FoA P w K mg base 4 (He.ga K "_law_parted") ["_law_signs_here", "_law_marks", "_law_fit"] [] f__law_parted2 := by
  obtain ⟨fd, F⟩ := T.d__law_parted
  exact fo_of F sc__law_parted2 (F.bindsN fun _ _ _ _ _ _ us hl => match us, hl with | [_, _, _], _ => rfl) (dv__law_parted2 T)
abbrev n_piece_of : List Str := ["reader", "marks"]
theorem sc_piece_of : FnScope n_piece_of ["reader"] (defScope s_piece_of) := ⟨rfl, rfl, rfl, by decide +kernel, rfl, by decide +kernel, by decide +kernel⟩
def p1_piece_of : EM Bool := (fBinT (vIn true) (fD (fMIO "Reader" "here" f_Reader_here 0 (mP []))) (fD (fTup (fCons (mP (.str [])) (fCons (mP (.str [47])) (mP []))))))
def p2_piece_of : EM Fl := (fExpr (fApp 1 (fIO "Reader" f_mark_of 0 (fCons (fBin (vEq false) (fD (fN (fSl vSlL (fPeek 1) (fInt (fNeg (mP (.int 1)))) (mP none)))) (fD (fN (fLst (fCons (mP (.str c_STAR)) (mP [])))))) (mP [])))))
def b_piece_of : EM Fl := (fSeq (fIf (fBinT (vEq false) (fD (fSl vSlS (fD (fFldO "Reader" "whole" 0)) (fInt (fFldO "Reader" "place" 0)) (fInt (fBin vAdd (fD (fFldO "Reader" "place" 0)) (fD (mP (.int 2))))))) (fD (mP (.str [42, 42]))))
  (fSeq (fFldAug "Reader" "place" 0 (mP (.int 2)))
  (fSeq (fIf (fBinT (vIn true) (fD (fMIO "Reader" "here" f_Reader_here 0 (mP []))) (fD (fTup (fCons (mP (.str [])) (fCons (mP (.str [47])) (mP []))))))
  fStuck
  (mP .nx))
  (fRet (mP (.ins "Names" [])))))
  (mP .nx))
  (fSeq (fAsgN 1 (fLst (mP [])))
  (fSeq (whileN p1_piece_of
  p2_piece_of 1000000000)
  (fSeq (fIf (fBinT (vEq false) (fPeek 1) (fD (fN (fLst (mP [])))))
  fStuck
  (mP .nx))
  (fRet (fMake "Marks" i_Marks (fCons (fName 1) (mP []))))))))
def f_piece_of : List (Str × Da) → List Da → Option (Da × List (Str × Da)) := ioRun 1 2 "Reader" b_piece_of
theorem dv_piece_of (T : Tx K mg base) : Dv P w K mg base n_piece_of "piece_of" s_piece_of (He.ga K "piece_of") 4 b_piece_of := fun cdv A outer s H E hr =>
  have hN := (sc_piece_of).nd
  (vss_cons (vs_if (vt_cmp (opd_eq hr.units) (vp_of (ve_slS (vp_of (ve_fldO (c := "Reader") 0 T.cls_Reader T.na_Reader_whole)) (vo_some (ve_fldO (c := "Reader") 0 T.cls_Reader T.na_Reader_place)) (vo_some (ve_bin opd_add (vp_of (ve_fldO (c := "Reader") 0 T.cls_Reader T.na_Reader_place)) (vp_of ve_int))))) (vp_of (ve_str [42, 42])) (nomark _))
  (vss_cons (vs_fldaugO (c := "Reader") 0 T.cls_Reader T.na_Reader_place ve_int)
  (vss_cons (vs_if (vt_cmp opd_notin (vp_of (ve_methIO0 0 T.cls_Reader T.mt_Reader_here (fo_Reader_here T) (hr.mono (by decide)))) (vp_of (ve_tup (va_cons (ve_str []) (va_cons (ve_str [47]) va_nil)))) (by rfl))
  (vss_one vs_never)
  vss_nil)
  (vss_one (vs_ret (ve_make0 T.new_Names T.g_Names)))))
  vss_nil)
  (vss_cons (vs_setN 1 hN (vn_lst va_nil))
  (vss_cons (vs_while 1000000000 PassesOwn.never (vt_cmp opd_notin (vp_of (ve_methIO0 0 T.cls_Reader T.mt_Reader_here (fo_Reader_here T) (hr.mono (by decide)))) (vp_of (ve_tup (va_cons (ve_str []) (va_cons (ve_str [47]) va_nil)))) (by rfl))
  (vss_one (vs_expr (ve_app 1 (ve_callIO 0 (fo_mark_of T) T.g_mark_of (hr.mono (by decide)) (va_cons (ve_cmp (opd_eq hr.units) (vp_of (ve_of_n (vn_slL (vp_name 1) (vo_some (ve_neg ve_int)) vo_none))) (vp_of (ve_of_n (vn_lst (va_cons (ve_gstr c_STAR rfl T.s_STAR) va_nil)))) (nomark _)) va_nil))))))
  (vss_cons (vs_if (vt_cmp (opd_eq hr.units) (vp_name 1) (vp_of (ve_of_n (vn_lst va_nil))) (nomark _))
  (vss_one vs_never)
  vss_nil)
  (vss_one (vs_ret (ve_make (fi_Marks T) T.g_Marks (hr.mono (by decide)) (va_cons (ve_name 1) va_nil))))))))
theorem fo_piece_of (T : Tx K mg base) : FoIO P w K mg base 5 (He.ga K "piece_of") ["reader"] "Reader" f_piece_of := by
  obtain ⟨fd, F⟩ := T.d_piece_of
  exact io_of F sc_piece_of (F.bindsN fun _ _ _ _ _ _ us hl => match us, hl with | [_], _ => rfl) (by decide) (dv_piece_of T)
abbrev n_deciding : List Str := ["lines", "names", "folder", "found", "number", "line", "at", "numbers"]
theorem sc_deciding : FnScope n_deciding ["lines", "names", "folder"] (defScope s_deciding) := ⟨rfl, rfl, rfl, by decide +kernel, rfl, by decide +kernel, by decide +kernel⟩
def p1_deciding : EM Fl := (fIf (fAnd (fTru (fD (fMeth "Line" "full" f_Line_full [] (fName 5) (fCons (fName 7) (mP []))))) (fOr (fTru (fPeek 2)) (fOr (fBinT vLt (fD (fBin vAdd (fPeek 6) (fD (mP (.int 1))))) (fD (fCall vLen (fCons (fPeek 1) (mP []))))) (fNot (fTru (fD (fFld "Line" "folders" (fName 5))))))))
  (fLput 3 (fName 6) (fName 4))
  (mP .nx))
def p2_deciding : EM Fl := (fFor (fItA enumOf (fCons (fMeth "Line" "stages" f_Line_stages [] (fName 5) (fCons (fName 1) (mP []))) (mP []))) (stTup 2 (stCons (stN 6) (stCons (stN 7) stNil)))
  p1_deciding)
def b_deciding : EM Fl := (fSeq (fAsgN 3 (fBinN vMulL (fD (fN (fLst (fCons (mP .non) (mP []))))) (fD (fCall vLen (fCons (fPeek 1) (mP []))))))
  (fSeq (fFor (fItA enumOf (fCons (fName 0) (mP []))) (stTup 2 (stCons (stN 4) (stCons (stN 5) stNil)))
  p2_deciding)
  (fRet (fName 3))))
def f_deciding : List Da → Res := fnRun 3 8 b_deciding
theorem dv_deciding (T : Tx K mg base) : Dv P w K mg base n_deciding "deciding" s_deciding (He.ga K "deciding") 4 b_deciding := fun cdv A outer s H E hr =>
  have hN := (sc_deciding).nd
  (vss_cons (vs_setN 3 hN (vn_mul (vp_of (ve_of_n (vn_lst (va_cons ve_non va_nil)))) (vp_of (ve_callB cad_len T.free_len (vpa_cons (vp_name 1) vpa_nil)))))
  (vss_cons (vs_for PassesOwn.never rfl (vi_enum T.free_enumerate (va_cons (ve_name 0) va_nil)) (vg_tup (n := 2) rfl (vgs_cons (vg_name 4 hN) (vgs_cons (vg_name 5 hN) vgs_nil)))
  (vss_one (vs_for PassesOwn.never rfl (vi_enum T.free_enumerate (va_cons (ve_meth T.cls_Line T.mt_Line_stages (fo_Line_stages T) (hr.mono (by decide)) (ve_name 5) (va_cons (ve_name 1) va_nil)) va_nil)) (vg_tup (n := 2) rfl (vgs_cons (vg_name 6 hN) (vgs_cons (vg_name 7 hN) vgs_nil)))
  (vss_one (vs_if (vt_w (vw_and (vt_tru (vp_of (ve_meth T.cls_Line T.mt_Line_full (fo_Line_full T) (hr.mono (by decide)) (ve_name 5) (va_cons (ve_name 7) va_nil)))) (vw_and1 (vt_w (vw_or (vt_tru (vp_name 2)) (vw_or (vt_cmp opd_lt (vp_of (ve_bin opd_add (vp_name 6) (vp_of ve_int))) (vp_of (ve_callB cad_len T.free_len (vpa_cons (vp_name 1) vpa_nil))) (nomark _)) (vw_or1 (vt_not (vt_tru (vp_of (ve_fld (c := "Line") T.cls_Line T.na_Line_folders (ve_name 5))))))))))))
  (vss_one (vs_lput 3 (ve_name 6) (ve_name 4)))
  vss_nil)))))
  (vss_one (vs_ret (ve_name 3)))))
theorem fo_deciding (T : Tx K mg base) : FoA P w K mg base 5 (He.ga K "deciding") ["lines", "names", "folder"] [] f_deciding := by
  obtain ⟨fd, F⟩ := T.d_deciding
  exact fo_of F sc_deciding (F.bindsN fun _ _ _ _ _ _ us hl => match us, hl with | [_, _, _], _ => rfl) (dv_deciding T)
abbrev n__law_some : List Str := ["_law_script", "_law_at", "_law_many", "_law_pool_here", "_law_lines", "_law_texts", "_law_turn", "_law_line_here"]
theorem sc__law_some : FnScope n__law_some ["_law_script", "_law_at", "_law_many", "_law_pool_here"] (defScope s__law_some) := ⟨rfl, rfl, rfl, by decide +kernel, rfl, by decide +kernel, by decide +kernel⟩
def p1__law_some : EM Fl := (fSeq (fAsg 7 (fDef f__law_line [] (fCons (fName 0) (fCons (fBin vAdd (fPeek 1) (fPeek 6)) (fCons (fName 3) (mP []))))))
  (fSeq (fExpr (fApp 4 (fName 7)))
  (fExpr (fApp 5 (fDef f__law_other [] (fCons (fName 7) (fCons (fBin vIx (fD (fDef f__law_digits [] (fCons (fName 0) (fCons (fBin vAdd (fPeek 1) (fPeek 6)) (fCons (mP (.int 13)) (fCons (mP (.int 1000003)) (mP []))))))) (fD (mP (.int 12)))) (mP []))))))))
def b__law_some : EM Fl := (fSeq (fPar2 4 5 (fCn (fLst (mP [])) (fCn (fLst (mP [])) (mP []))))
  (fSeq (fFor (fItA rng1 (fCons (fName 2) (mP []))) (stN 6)
  p1__law_some)
  (fRet (fTup (fCons (fName 4) (fCons (fName 5) (mP [])))))))
def f__law_some : List Da → Res := fnRun 4 8 b__law_some
theorem dv__law_some (T : Tx K mg base) : Dv P w K mg base n__law_some "_law_some" s__law_some (He.ga K "_law_some") 4 b__law_some := fun cdv A outer s H E hr =>
  have hN := (sc__law_some).nd
  (vss_cons (vs_par2 4 5 rfl hN (vc_n (vn_lst va_nil) (vc_n (vn_lst va_nil) vc_nil)))
  (vss_cons (vs_for PassesOwn.never rfl (vi_range1 T.free_range (va_cons (ve_name 2) va_nil)) (vg_name 6 hN)
  (vss_cons (vs_set 7 hN (ve_call (fo__law_line T) T.g__law_line (hr.mono (by decide)) (va_cons (ve_name 0) (va_cons (ve_bin opd_add (vp_name 1) (vp_name 6)) (va_cons (ve_name 3) va_nil)))))
  (vss_cons (vs_expr (ve_app 4 (ve_name 7)))
  (vss_one (vs_expr (ve_app 5 (ve_call (fo__law_other T) T.g__law_other (hr.mono (by decide)) (va_cons (ve_name 7) (va_cons (ve_ix (vp_of (ve_call (fo__law_digits T) T.g__law_digits (hr.mono (by decide)) (va_cons (ve_name 0) (va_cons (ve_bin opd_add (vp_name 1) (vp_name 6)) (va_cons ve_int (va_cons ve_int va_nil)))))) (vp_of ve_int)) va_nil)))))))))
  (vss_one (vs_ret (ve_tup (va_cons (ve_name 4) (va_cons (ve_name 5) va_nil)))))))
theorem fo__law_some (T : Tx K mg base) : FoA P w K mg base 5 (He.ga K "_law_some") ["_law_script", "_law_at", "_law_many", "_law_pool_here"] [] f__law_some := by
  obtain ⟨fd, F⟩ := T.d__law_some
  exact fo_of F sc__law_some (F.bindsN fun _ _ _ _ _ _ us hl => match us, hl with | [_, _, _, _], _ => rfl) (dv__law_some T)
abbrev n__law_judged : List Str := ["_law_lines", "_law_path_here", "_law_names", "_law_ends", "_law_line_here", "_law_at", "_law_decided", "_law_number"]
theorem sc__law_judged : FnScope n__law_judged ["_law_lines", "_law_path_here"] (defScope s__law_judged) := ⟨rfl, rfl, rfl, by decide +kernel, rfl, by decide +kernel, by decide +kernel⟩
def p1__law_judged : EM Da := (fDef f__law_parted2 [] (fCons (fName 2) (fCons (fBin vIx (fPeek 4) (fD (mP (.int 1)))) (fCons (mP (.glo "_law_name_fits")) (mP [])))))
def p2__law_judged : EM Fl := (fIf (fAnd (fTru (fD (fBin vIx (fD (fBin vIx (fPeek 3) (fPeek 7))) (fD (fBin vAdd (fPeek 5) (fD (mP (.int 1)))))))) (fOr (fBinT vLt (fD (fBin vAdd (fPeek 5) (fD (mP (.int 1))))) (fD (fCall vLen (fCons (fPeek 2) (mP []))))) (fNot (fTru (fD (fBin vIx (fPeek 4) (fD (mP (.int 2)))))))))
  (fAsg 6 (fName 7))
  (mP .nx))
def p3__law_judged : EM Fl := (fSeq (fAsg 6 (mP .non))
  (fSeq (fFor (fItA enumOf (fCons (fName 0) (mP []))) (stTup 2 (stCons (stN 7) (stCons (stN 4) stNil)))
  p2__law_judged)
  (fIf (fAnd (fBinT (vIs true) (fPeek 6) (fD (mP .non))) (fNot (fTru (fD (fBin vIx (fD (fBin vIx (fPeek 0) (fPeek 6))) (fD (mP (.int 0))))))))
  (fRet (fTup (fCons (mP (.bl true)) (fCons (fName 5) (fCons (fName 6) (mP []))))))
  (mP .nx))))
def b__law_judged : EM Fl := (fSeq (fAsg 2 (fN (fMn sSplit (fName 1) (fCons (fD (mP (.str [47]))) (mP [])))))
  (fSeq (fAsgN 3 (fComp [4] (fIt itemsL (fName 0)) (stN 4) (mP true) p1__law_judged))
  (fSeq (fFor (fItA rng1 (fCons (fCall vLen (fCons (fPeek 2) (mP []))) (mP []))) (stN 5)
  p3__law_judged)
  (fRet (fTup (fCons (mP (.bl false)) (fCons (mP .non) (fCons (fName 6) (mP [])))))))))
def f__law_judged : List Da → Res := fnRun 2 8 b__law_judged
theorem dv__law_judged (T : Tx K mg base) : Dv P w K mg base n__law_judged "_law_judged" s__law_judged (He.ga K "_law_judged") 4 b__law_judged := fun cdv A outer s H E hr =>
  have hN := (sc__law_judged).nd
  (vss_cons (vs_set 2 hN (ve_of_n (vn_ms PySem.F.slot_str_split PySem.F.type_str_split ms_split (ve_name 1) (vpa_cons (vp_of (ve_str [47])) vpa_nil))))
  (vss_cons (vs_setC 3 [("_law_line_here", 4)] rfl hN (by decide) (vi_list (ve_name 0)) (fun _ _ _ _ _ => (vg_name 4 hN)) (fun _ _ _ _ _ => vts_nil) (fun _ _ _ _ _ => (ve_call (fo__law_parted2 T) T.g__law_parted (hr.mono (by decide)) (va_cons (ve_name 2) (va_cons (ve_ix (vp_name 4) (vp_of ve_int)) (va_cons (ve_glo T.g__law_name_fits) va_nil))))) (blkOk_by (N := n__law_judged) (sc := defScope s__law_judged) (by decide +kernel)) (sw_true rfl rfl rfl (by decide +kernel)))
  (vss_cons (vs_for PassesOwn.never rfl (vi_range1 T.free_range (va_cons (ve_callB cad_len T.free_len (vpa_cons (vp_name 2) vpa_nil)) va_nil)) (vg_name 5 hN)
  (vss_cons (vs_set 6 hN ve_non)
  (vss_cons (vs_for PassesOwn.never rfl (vi_enum T.free_enumerate (va_cons (ve_name 0) va_nil)) (vg_tup (n := 2) rfl (vgs_cons (vg_name 7 hN) (vgs_cons (vg_name 4 hN) vgs_nil)))
  (vss_one (vs_if (vt_w (vw_and (vt_tru (vp_of (ve_ix (vp_of (ve_ix (vp_name 3) (vp_name 7))) (vp_of (ve_bin opd_add (vp_name 5) (vp_of ve_int)))))) (vw_and1 (vt_w (vw_or (vt_cmp opd_lt (vp_of (ve_bin opd_add (vp_name 5) (vp_of ve_int))) (vp_of (ve_callB cad_len T.free_len (vpa_cons (vp_name 2) vpa_nil))) (nomark _)) (vw_or1 (vt_not (vt_tru (vp_of (ve_ix (vp_name 4) (vp_of ve_int)))))))))))
  (vss_one (vs_set 6 hN (ve_name 7)))
  vss_nil)))
  (vss_one (vs_if (vt_w (vw_and (vt_cmp opd_isnot (vp_name 6) (vp_of ve_non) (nomark _)) (vw_and1 (vt_not (vt_tru (vp_of (ve_ix (vp_of (ve_ix (vp_name 0) (vp_name 6))) (vp_of ve_int))))))))
  (vss_one (vs_ret (ve_tup (va_cons ve_bl (va_cons (ve_name 5) (va_cons (ve_name 6) va_nil))))))
  vss_nil)))))
  (vss_one (vs_ret (ve_tup (va_cons ve_bl (va_cons ve_non (va_cons (ve_name 6) va_nil)))))))))
theorem fo__law_judged (T : Tx K mg base) : FoA P w K mg base 5 (He.ga K "_law_judged") ["_law_lines", "_law_path_here"] [] f__law_judged := by
  obtain ⟨fd, F⟩ := T.d__law_judged
  exact fo_of F sc__law_judged (F.bindsN fun _ _ _ _ _ _ us hl => match us, hl with | [_, _], _ => rfl) (dv__law_judged T)
abbrev n_line_of : List Str := ["text", "reader", "lets", "fixed", "pieces", "folders"]
theorem sc_line_of : FnScope n_line_of ["text"] (defScope s_line_of) := ⟨rfl, rfl, rfl, by decide +kernel, rfl, by decide +kernel, by decide +kernel⟩
def p1_line_of : EM Bool := (fTru (fD (fMIO "Reader" "take" f_Reader_take 1 (fCons (mP (.str [47])) (mP [])))))
def p2_line_of : EM Fl := (fIf (fBinT (vEq false) (fD (fMIO "Reader" "here" f_Reader_here 1 (mP []))) (fD (mP (.str []))))
  (fAsg 5 (mP (.bl true)))
  (fExpr (fApp 4 (fIO "Reader" f_piece_of 1 (mP [])))))
def b_line_of : EM Fl := (fSeq (fIf (fNot (fTru (fD (fCall vIsi (fCons (fPeek 0) (fCons (fD (mP (.ty "str"))) (mP [])))))))
  fStuck
  (mP .nx))
  (fSeq (fMakeO 1 "Reader" i_Reader (fCons (fName 0) (mP [])))
  (fSeq (fPar2 2 3 (fCv (fMIO "Reader" "take" f_Reader_take 1 (fCons (mP (.str [33])) (mP []))) (fCv (fMIO "Reader" "take" f_Reader_take 1 (fCons (mP (.str [47])) (mP []))) (mP []))))
  (fSeq (fPar2 4 5 (fCn (fLst (fCons (fIO "Reader" f_piece_of 1 (mP [])) (mP []))) (fCv (mP (.bl false)) (mP []))))
  (fSeq (whileN p1_line_of
  p2_line_of 1000000000)
  (fSeq (fIf (fAnd (fNot (fTru (fPeek 3))) (fBinT (vEq false) (fD (fCall vLen (fCons (fPeek 4) (mP [])))) (fD (mP (.int 1)))))
  (fAsg 4 (fBin vAdd (fD (fN (fLst (fCons (mP (.ins "Names" [])) (mP []))))) (fPeek 4)))
  (mP .nx))
  (fRet (fMake "Line" i_Line (fCons (fName 2) (fCons (fName 4) (fCons (fName 5) (mP []))))))))))))
def f_line_of : List Da → Res := fnRun 1 6 b_line_of
theorem dv_line_of (T : Tx K mg base) : Dv P w K mg base n_line_of "line_of" s_line_of (He.ga K "line_of") 5 b_line_of := fun cdv A outer s H E hr =>
  have hN := (sc_line_of).nd
  (vss_cons (vs_if (vt_not (vt_tru (vp_of (ve_callB cad_isi T.free_isinstance (vpa_cons (vp_name 0) (vpa_cons (vp_of (ve_tyname T.free_str)) vpa_nil))))))
  (vss_one vs_never)
  vss_nil)
  (vss_cons (vs_make 1 hN (fi_Reader T) T.g_Reader (hr.mono (by decide)) (va_cons (ve_name 0) va_nil))
  (vss_cons (vs_par2 2 3 rfl hN (vc_v (ve_methIO 1 T.cls_Reader T.mt_Reader_take (fo_Reader_take T) (hr.mono (by decide)) (va_cons (ve_str [33]) va_nil)) (vc_v (ve_methIO 1 T.cls_Reader T.mt_Reader_take (fo_Reader_take T) (hr.mono (by decide)) (va_cons (ve_str [47]) va_nil)) vc_nil)))
  (vss_cons (vs_par2 4 5 rfl hN (vc_n (vn_lst (va_cons (ve_callIO 1 (fo_piece_of T) T.g_piece_of (hr.mono (by decide)) va_nil) va_nil)) (vc_v ve_bl vc_nil)))
  (vss_cons (vs_while 1000000000 PassesOwn.never (vt_tru (vp_of (ve_methIO 1 T.cls_Reader T.mt_Reader_take (fo_Reader_take T) (hr.mono (by decide)) (va_cons (ve_str [47]) va_nil))))
  (vss_one (vs_if (vt_cmp (opd_eq hr.units) (vp_of (ve_methIO0 1 T.cls_Reader T.mt_Reader_here (fo_Reader_here T) (hr.mono (by decide)))) (vp_of (ve_str [])) (nomark _))
  (vss_one (vs_set 5 hN ve_bl))
  (vss_one (vs_expr (ve_app 4 (ve_callIO 1 (fo_piece_of T) T.g_piece_of (hr.mono (by decide)) va_nil)))))))
  (vss_cons (vs_if (vt_w (vw_and (vt_not (vt_tru (vp_name 3))) (vw_and1 (vt_cmp (opd_eq hr.units) (vp_of (ve_callB cad_len T.free_len (vpa_cons (vp_name 4) vpa_nil))) (vp_of ve_int) (nomark _)))))
  (vss_one (vs_set 4 hN (ve_bin opd_add (vp_of (ve_of_n (vn_lst (va_cons (ve_make0 T.new_Names T.g_Names) va_nil)))) (vp_name 4))))
  vss_nil)
  (vss_one (vs_ret (ve_make (fi_Line T) T.g_Line (hr.mono (by decide)) (va_cons (ve_name 2) (va_cons (ve_name 4) (va_cons (ve_name 5) va_nil))))))))))))
theorem fo_line_of (T : Tx K mg base) : FoA P w K mg base 6 (He.ga K "line_of") ["text"] [] f_line_of := by
  obtain ⟨fd, F⟩ := T.d_line_of
  exact fo_of F sc_line_of (F.bindsN fun _ _ _ _ _ _ us hl => match us, hl with | [_], _ => rfl) (dv_line_of T)
abbrev n_judged_of : List Str := ["lines", "names", "numbers", "at"]
theorem sc_judged_of : FnScope n_judged_of ["lines", "names"] (defScope s_judged_of) := ⟨rfl, rfl, rfl, by decide +kernel, rfl, by decide +kernel, by decide +kernel⟩
def b_judged_of : EM Fl := (fSeq (fAsg 2 (fDef f_deciding [] (fCons (fName 0) (fCons (fName 1) (fCons (mP (.bl false)) (mP []))))))
  (fSeq (fAsg 3 (fDef f_shut_at [] (fCons (fName 0) (fCons (fName 2) (mP [])))))
  (fSeq (fIf (fBinT (vIs false) (fPeek 3) (fD (mP .non)))
  (fRet (fTup (fCons (mP (.bl false)) (fCons (mP .non) (fCons (fBin vIx (fPeek 2) (fD (fNeg (mP (.int 1))))) (mP []))))))
  (mP .nx))
  (fRet (fTup (fCons (mP (.bl true)) (fCons (fName 3) (fCons (fBin vIx (fPeek 2) (fPeek 3)) (mP [])))))))))
def f_judged_of : List Da → Res := fnRun 2 4 b_judged_of
theorem dv_judged_of (T : Tx K mg base) : Dv P w K mg base n_judged_of "judged_of" s_judged_of (He.ga K "judged_of") 5 b_judged_of := fun cdv A outer s H E hr =>
  have hN := (sc_judged_of).nd
  (vss_cons (vs_set 2 hN (ve_call (fo_deciding T) T.g_deciding (hr.mono (by decide)) (va_cons (ve_name 0) (va_cons (ve_name 1) (va_cons ve_bl va_nil)))))
  (vss_cons (vs_set 3 hN (ve_call (fo_shut_at T) T.g_shut_at (hr.mono (by decide)) (va_cons (ve_name 0) (va_cons (ve_name 2) va_nil))))
  (vss_cons (vs_if (vt_cmp opd_is (vp_name 3) (vp_of ve_non) (nomark _))
  (vss_one (vs_ret (ve_tup (va_cons ve_bl (va_cons ve_non (va_cons (ve_ix (vp_name 2) (vp_of (ve_neg ve_int))) va_nil))))))
  vss_nil)
  (vss_one (vs_ret (ve_tup (va_cons ve_bl (va_cons (ve_name 3) (va_cons (ve_ix (vp_name 2) (vp_name 3)) va_nil)))))))))
theorem fo_judged_of (T : Tx K mg base) : FoA P w K mg base 6 (He.ga K "judged_of") ["lines", "names"] [] f_judged_of := by
  obtain ⟨fd, F⟩ := T.d_judged_of
  exact fo_of F sc_judged_of (F.bindsN fun _ _ _ _ _ _ us hl => match us, hl with | [_, _], _ => rfl) (dv_judged_of T)
abbrev n_line_at : List Str := ["row", "text", "line"]
theorem sc_line_at : FnScope n_line_at ["row", "text"] (defScope s_line_at) := ⟨rfl, rfl, rfl, by decide +kernel, rfl, by decide +kernel, by decide +kernel⟩
def b_line_at : EM Fl := (fSeq (fAsg 2 (fDef f_line_of [] (fCons (fName 1) (mP []))))
  (fRet (fName 2)))
def f_line_at : List Da → Res := fnRun 2 3 b_line_at
theorem dv_line_at (T : Tx K mg base) : Dv P w K mg base n_line_at "line_at" s_line_at (He.ga K "line_at") 6 b_line_at := fun cdv A outer s H E hr =>
  have hN := (sc_line_at).nd
  (vss_one (vs_try (vss_one (vs_set 2 hN (ve_call (fo_line_of T) T.g_line_of (hr.mono (by decide)) (va_cons (ve_name 1) va_nil))))
  (vss_one (vs_ret (ve_name 2)))))
theorem fo_line_at (T : Tx K mg base) : FoA P w K mg base 7 (He.ga K "line_at") ["row", "text"] [] f_line_at := by
  obtain ⟨fd, F⟩ := T.d_line_at
  exact fo_of F sc_line_at (F.bindsN fun _ _ _ _ _ _ us hl => match us, hl with | [_, _], _ => rfl) (dv_line_at T)
abbrev n_lines_of : List Str := ["lines", "row", "text"]
theorem sc_lines_of : FnScope n_lines_of ["lines"] (defScope s_lines_of) := ⟨rfl, rfl, rfl, by decide +kernel, rfl, by decide +kernel, by decide +kernel⟩
def p1_lines_of : EM Da := (fDef f_line_at [] (fCons (fName 1) (fCons (fName 2) (mP []))))
def b_lines_of : EM Fl := (fSeq (fIf (fNot (fTru (fD (fCall vIsi (fCons (fPeek 0) (fCons (fD (mP (.ty "list"))) (mP [])))))))
  fStuck
  (mP .nx))
  (fRet (fN (fComp [1, 2] (fItA enumOf (fCons (fName 0) (mP []))) (stTup 2 (stCons (stN 1) (stCons (stN 2) stNil))) (mP true) p1_lines_of))))
def f_lines_of : List Da → Res := fnRun 1 3 b_lines_of
theorem dv_lines_of (T : Tx K mg base) : Dv P w K mg base n_lines_of "lines_of" s_lines_of (He.ga K "lines_of") 7 b_lines_of := fun cdv A outer s H E hr =>
  have hN := (sc_lines_of).nd
  (vss_cons (vs_if (vt_not (vt_tru (vp_of (ve_callB cad_isi T.free_isinstance (vpa_cons (vp_name 0) (vpa_cons (vp_of (ve_tyname T.free_list)) vpa_nil))))))
  (vss_one vs_never)
  vss_nil)
  (vss_one (vs_ret (ve_of_n (vn_comp [("row", 1), ("text", 2)] rfl hN (by decide) (vi_enum T.free_enumerate (va_cons (ve_name 0) va_nil)) (fun _ _ _ _ _ => (vg_tup (n := 2) rfl (vgs_cons (vg_name 1 hN) (vgs_cons (vg_name 2 hN) vgs_nil)))) (fun _ _ _ _ _ => vts_nil) (fun _ _ _ _ _ => (ve_call (fo_line_at T) T.g_line_at (hr.mono (by decide)) (va_cons (ve_name 1) (va_cons (ve_name 2) va_nil)))) (blkOk_by (N := n_lines_of) (sc := defScope s_lines_of) (by decide +kernel)))))))
theorem fo_lines_of (T : Tx K mg base) : FoA P w K mg base 8 (He.ga K "lines_of") ["lines"] [] f_lines_of := by
  obtain ⟨fd, F⟩ := T.d_lines_of
  exact fo_of F sc_lines_of (F.bindsN fun _ _ _ _ _ _ us hl => match us, hl with | [_], _ => rfl) (dv_lines_of T)
abbrev n_judged : List Str := ["lines", "path", "told"]
theorem sc_judged : FnScope n_judged ["lines", "path"] (defScope s_judged) := ⟨rfl, rfl, rfl, by decide +kernel, rfl, by decide +kernel, by decide +kernel⟩
def b_judged : EM Fl := (fSeq (fAsg 2 (fDef f_lines_of [] (fCons (fName 0) (mP []))))
  (fRet (fDef f_judged_of [] (fCons (fName 2) (fCons (fDef f_names_of [] (fCons (fName 1) (mP []))) (mP []))))))
def f_judged : List Da → Res := fnRun 2 3 b_judged
theorem dv_judged (T : Tx K mg base) : Dv P w K mg base n_judged "judged" s_judged (He.ga K "judged") 8 b_judged := fun cdv A outer s H E hr =>
  have hN := (sc_judged).nd
  (vss_cons (vs_set 2 hN (ve_call (fo_lines_of T) T.g_lines_of (hr.mono (by decide)) (va_cons (ve_name 0) va_nil)))
  (vss_one (vs_ret (ve_call (fo_judged_of T) T.g_judged_of (hr.mono (by decide)) (va_cons (ve_name 2) (va_cons (ve_call (fo_names_of T) T.g_names_of (hr.mono (by decide)) (va_cons (ve_name 1) va_nil)) va_nil))))))
theorem fo_judged (T : Tx K mg base) : FoA P w K mg base 9 (He.ga K "judged") ["lines", "path"] [] f_judged := by
  obtain ⟨fd, F⟩ := T.d_judged
  exact fo_of F sc_judged (F.bindsN fun _ _ _ _ _ _ us hl => match us, hl with | [_, _], _ => rfl) (dv_judged T)
abbrev n__law_said_right : List Str := ["_law_lines", "_law_texts", "_law_path_here", "_law_handed", "_law_told", "_law_due", "_law_number"]
theorem sc__law_said_right : FnScope n__law_said_right ["_law_lines", "_law_texts", "_law_path_here"] (defScope s__law_said_right) := ⟨rfl, rfl, rfl, by decide +kernel, rfl, by decide +kernel, by decide +kernel⟩
def p1__law_said_right : EM Fl := (fIf (fOr (fTru (fD (fCall vIsi (fCons (fPeek 6) (fCons (fD (mP (.ty "bool"))) (mP [])))))) (fAnd (fNot (fTru (fD (fCall vIsi (fCons (fPeek 6) (fCons (fD (mP (.ty "int"))) (mP []))))))) (fBinT (vIs true) (fPeek 6) (fD (mP .non)))))
  (fRet (mP (.bl false)))
  (mP .nx))
def b__law_said_right : EM Fl := (fSeq (fAsg 3 (fN (fCallN vListOf (fCons (fPeek 1) (mP [])))))
  (fSeq (fPar2 4 5 (fCv (fDef f_judged [] (fCons (fName 3) (fCons (fName 2) (mP [])))) (fCv (fDef f__law_judged [] (fCons (fName 0) (fCons (fName 2) (mP [])))) (mP []))))
  (fSeq (fIf (fOr (fNot (fTru (fD (fCall vIsi (fCons (fPeek 4) (fCons (fD (mP (.ty "tuple"))) (mP []))))))) (fOr (fBinT (vEq true) (fD (fCall vLen (fCons (fPeek 4) (mP [])))) (fD (mP (.int 3)))) (fNot (fTru (fD (fCall vIsi (fCons (fD (fBin vIx (fPeek 4) (fD (mP (.int 0))))) (fCons (fD (mP (.ty "bool"))) (mP [])))))))))
  (fRet (mP (.bl false)))
  (mP .nx))
  (fSeq (fFor (fIt itemsT (fSl vSlT (fPeek 4) (fInt (mP (.int 1))) (mP none))) (stN 6)
  p1__law_said_right)
  (fRet (fAndV (fBin (vEq false) (fPeek 4) (fPeek 5)) (fAndV (fBin (vEq false) (fPeek 3) (fPeek 1)) (fBin (vEq false) (fD (fDef f_judged [] (fCons (fName 3) (fCons (fName 2) (mP []))))) (fPeek 5)))))))))
def f__law_said_right : List Da → Res := fnRun 3 7 b__law_said_right
theorem dv__law_said_right (T : Tx K mg base) : Dv P w K mg base n__law_said_right "_law_said_right" s__law_said_right (He.ga K "_law_said_right") 9 b__law_said_right := fun cdv A outer s H E hr =>
  have hN := (sc__law_said_right).nd
  (vss_cons (vs_set 3 hN (ve_of_n (vn_callTy can_list T.free_list (vpa_cons (vp_name 1) vpa_nil))))
  (vss_cons (vs_par2 4 5 rfl hN (vc_v (ve_call (fo_judged T) T.g_judged (hr.mono (by decide)) (va_cons (ve_name 3) (va_cons (ve_name 2) va_nil))) (vc_v (ve_call (fo__law_judged T) T.g__law_judged (hr.mono (by decide)) (va_cons (ve_name 0) (va_cons (ve_name 2) va_nil))) vc_nil)))
  (vss_cons (vs_if (vt_w (vw_or (vt_not (vt_tru (vp_of (ve_callB cad_isi T.free_isinstance (vpa_cons (vp_name 4) (vpa_cons (vp_of (ve_tyname T.free_tuple)) vpa_nil)))))) (vw_or (vt_cmp (opd_ne hr.units) (vp_of (ve_callB cad_len T.free_len (vpa_cons (vp_name 4) vpa_nil))) (vp_of ve_int) (nomark _)) (vw_or1 (vt_not (vt_tru (vp_of (ve_callB cad_isi T.free_isinstance (vpa_cons (vp_of (ve_ix (vp_name 4) (vp_of ve_int))) (vpa_cons (vp_of (ve_tyname T.free_bool)) vpa_nil))))))))))
  (vss_one (vs_ret ve_bl))
  vss_nil)
  (vss_cons (vs_for PassesOwn.never rfl (vi_tup (ve_slT (vp_name 4) (vo_some ve_int) vo_none)) (vg_name 6 hN)
  (vss_one (vs_if (vt_w (vw_or (vt_tru (vp_of (ve_callB cad_isi T.free_isinstance (vpa_cons (vp_name 6) (vpa_cons (vp_of (ve_tyname T.free_bool)) vpa_nil))))) (vw_or1 (vt_w (vw_and (vt_not (vt_tru (vp_of (ve_callB cad_isi T.free_isinstance (vpa_cons (vp_name 6) (vpa_cons (vp_of (ve_tyname T.free_int)) vpa_nil)))))) (vw_and1 (vt_cmp opd_isnot (vp_name 6) (vp_of ve_non) (nomark _))))))))
  (vss_one (vs_ret ve_bl))
  vss_nil)))
  (vss_one (vs_ret (ve_and (ve_cmp (opd_eq hr.units) (vp_name 4) (vp_name 5) (nomark _)) (ve_and (ve_cmp (opd_eq hr.units) (vp_name 3) (vp_name 1) (nomark _)) (ve_one (ve_cmp (opd_eq hr.units) (vp_of (ve_call (fo_judged T) T.g_judged (hr.mono (by decide)) (va_cons (ve_name 3) (va_cons (ve_name 2) va_nil)))) (vp_name 5) (nomark _)))))))))))
theorem fo__law_said_right (T : Tx K mg base) : FoA P w K mg base 10 (He.ga K "_law_said_right") ["_law_lines", "_law_texts", "_law_path_here"] [] f__law_said_right := by
  obtain ⟨fd, F⟩ := T.d__law_said_right
  exact fo_of F sc__law_said_right (F.bindsN fun _ _ _ _ _ _ us hl => match us, hl with | [_, _, _], _ => rfl) (dv__law_said_right T)
abbrev n_law : List Str := ["_law_script", "_law_pool_here", "_law_draws", "_law_lines", "_law_texts", "_law_paths", "_law_at", "_law_line_here", "_law_made_here", "_law_path_here", "_law_a", "_law_b"]
theorem sc_law : FnScope n_law ["_law_script"] (defScope s_law) := ⟨rfl, rfl, rfl, by decide +kernel, rfl, by decide +kernel, by decide +kernel⟩
def p1_law : EM Da := (fDef f__law_path [] (fCons (fName 0) (fCons (fBin vAdd (fD (mP (.int 3))) (fPeek 6)) (fCons (fName 1) (mP [])))))
def p2_law : EM Fl := (fSeq (fAsg 8 (fDef f__law_made [] (fCons (fName 7) (fCons (fName 1) (fCons (fBin vAdd (fD (fBin vIx (fPeek 2) (fD (mP (.int 1))))) (fPeek 6)) (mP []))))))
  (fExpr (fExt 5 (fN (fLst (fCons (fName 8) (fCons (fBin vAdd (fD (fBin vAdd (fPeek 8) (fD (mP (.str [47]))))) (fD (fBin vIx (fPeek 5) (fD (mP (.int 0)))))) (fCons (fBin vAdd (fD (fBin vAdd (fD (fBin vIx (fPeek 5) (fD (fNeg (mP (.int 1)))))) (fD (mP (.str [47]))))) (fPeek 8)) (mP [])))))))))
def p3_law : EM Fl := (fIf (fNot (fTru (fD (fDef f__law_said_right [] (fCons (fName 3) (fCons (fName 4) (fCons (fName 9) (mP []))))))))
  (fRet (mP (.bl false)))
  (mP .nx))
def b_law : EM Fl := (fSeq (fAsg 0 (fN (fSl vSlL (fPeek 0) (mP none) (fInt (mP (.int 63))))))
  (fSeq (fPar2 1 2 (fCv (fDef f__law_pool [] (fCons (fName 0) (fCons (mP (.int 0)) (mP [])))) (fCv (fDef f__law_digits [] (fCons (fName 0) (fCons (mP (.int 1)) (fCons (mP (.int 8)) (fCons (mP (.int 1000003)) (mP [])))))) (mP []))))
  (fSeq (fTo (stTup 2 (stCons (stN 3) (stCons (stN 4) stNil))) (fDef f__law_some [] (fCons (fName 0) (fCons (mP (.int 2)) (fCons (fBin vMod (fD (fBin vIx (fPeek 2) (fD (mP (.int 0))))) (fD (mP (.int 7)))) (fCons (fName 1) (mP [])))))))
  (fSeq (fAsgN 5 (fComp [6] (fItA rng1 (fCons (fCall vMax (fCons (fD (mP (.int 1))) (fCons (fD (fCall vMin (fCons (fD (mP (.int 20))) (fCons (fD (fCall vLen (fCons (fPeek 0) (mP [])))) (mP []))))) (mP [])))) (mP []))) (stN 6) (mP true) p1_law))
  (fSeq (fFor (fItA enumOf (fCons (fName 3) (mP []))) (stTup 2 (stCons (stN 6) (stCons (stN 7) stNil)))
  p2_law)
  (fSeq (fFor (fIt itemsL (fName 5)) (stN 9)
  p3_law)
  (fSeq (fPar2 10 11 (fCv (fBin vIx (fPeek 1) (fD (mP (.int 0)))) (fCv (fBin vAdd (fD (fBin vIx (fPeek 1) (fD (mP (.int 0))))) (fD (fBin vIx (fPeek 1) (fD (mP (.int 1)))))) (mP []))))
  (fSeq (fIf (fBinT (vEq true) (fD (fDef f_judged [] (fCons (fN (fLst (fCons (fBin vAdd (fPeek 10) (fD (mP (.str [47])))) (fCons (fBin vAdd (fD (mP (.str [33]))) (fPeek 11)) (mP []))))) (fCons (fBin vAdd (fD (fBin vAdd (fPeek 10) (fD (mP (.str [47]))))) (fPeek 11)) (mP []))))) (fD (fTup (fCons (mP (.bl true)) (fCons (mP (.int 0)) (fCons (mP (.int 0)) (mP [])))))))
  (fRet (mP (.bl false)))
  (mP .nx))
  (fRet (fAndV (fBin (vEq false) (fD (fDef f_judged [] (fCons (fN (fLst (fCons (fBin vAdd (fPeek 10) (fD (mP (.str [47])))) (fCons (fBin vAdd (fD (mP (.str [33]))) (fPeek 11)) (mP []))))) (fCons (fName 10) (mP []))))) (fD (fTup (fCons (mP (.bl false)) (fCons (mP .non) (fCons (mP .non) (mP []))))))) (fBin (vEq false) (fD (fDef f_judged [] (fCons (fN (fLst (mP []))) (fCons (fName 10) (mP []))))) (fD (fTup (fCons (mP (.bl false)) (fCons (mP .non) (fCons (mP .non) (mP [])))))))))))))))))
def f_law : List Da → Res := fnRun 1 12 b_law
theorem dv_law (T : Tx K mg base) : Dv P w K mg base n_law "law" s_law (He.ga K "law") 10 b_law := fun cdv A outer s H E hr =>
  have hN := (sc_law).nd
  (vss_cons (vs_set 0 hN (ve_of_n (vn_slL (vp_name 0) vo_none (vo_some ve_int))))
  (vss_cons (vs_parT2 1 2 rfl hN (vc_v (ve_call (fo__law_pool T) T.g__law_pool (hr.mono (by decide)) (va_cons (ve_name 0) (va_cons ve_int va_nil))) (vc_v (ve_call (fo__law_digits T) T.g__law_digits (hr.mono (by decide)) (va_cons (ve_name 0) (va_cons ve_int (va_cons ve_int (va_cons ve_int va_nil))))) vc_nil)) (pgn 1 hN) (pgn 2 hN))
  (vss_cons (vs_asg (ve_call (fo__law_some T) T.g__law_some (hr.mono (by decide)) (va_cons (ve_name 0) (va_cons ve_int (va_cons (ve_bin opd_mod (vp_of (ve_ix (vp_name 2) (vp_of ve_int))) (vp_of ve_int)) (va_cons (ve_name 1) va_nil))))) (vg_tup (n := 2) rfl (vgs_cons (vg_name 3 hN) (vgs_cons (vg_name 4 hN) vgs_nil))))
  (vss_cons (vs_setC 5 [("_law_at", 6)] rfl hN (by decide) (vi_range1 T.free_range (va_cons (ve_callB (cad_max rfl) T.free_max (vpa_cons (vp_of ve_int) (vpa_cons (vp_of (ve_callB (cad_min rfl) T.free_min (vpa_cons (vp_of ve_int) (vpa_cons (vp_of (ve_callB cad_len T.free_len (vpa_cons (vp_name 0) vpa_nil))) vpa_nil)))) vpa_nil))) va_nil)) (fun _ _ _ _ _ => (vg_name 6 hN)) (fun _ _ _ _ _ => vts_nil) (fun _ _ _ _ _ => (ve_call (fo__law_path T) T.g__law_path (hr.mono (by decide)) (va_cons (ve_name 0) (va_cons (ve_bin opd_add (vp_of ve_int) (vp_name 6)) (va_cons (ve_name 1) va_nil))))) (blkOk_by (N := n_law) (sc := defScope s_law) (by decide +kernel)) (sw_true rfl rfl rfl (by decide +kernel)))
  (vss_cons (vs_for PassesOwn.never rfl (vi_enum T.free_enumerate (va_cons (ve_name 3) va_nil)) (vg_tup (n := 2) rfl (vgs_cons (vg_name 6 hN) (vgs_cons (vg_name 7 hN) vgs_nil)))
  (vss_cons (vs_set 8 hN (ve_call (fo__law_made T) T.g__law_made (hr.mono (by decide)) (va_cons (ve_name 7) (va_cons (ve_name 1) (va_cons (ve_bin opd_add (vp_of (ve_ix (vp_name 2) (vp_of ve_int))) (vp_name 6)) va_nil)))))
  (vss_one (vs_expr (ve_ext 5 (ve_of_n (vn_lst (va_cons (ve_name 8) (va_cons (ve_bin opd_add (vp_of (ve_bin opd_add (vp_name 8) (vp_of (ve_str [47])))) (vp_of (ve_ix (vp_name 5) (vp_of ve_int)))) (va_cons (ve_bin opd_add (vp_of (ve_bin opd_add (vp_of (ve_ix (vp_name 5) (vp_of (ve_neg ve_int)))) (vp_of (ve_str [47])))) (vp_name 8)) va_nil))))))))))
  (vss_cons (vs_for PassesOwn.never rfl (vi_list (ve_name 5)) (vg_name 9 hN)
  (vss_one (vs_if (vt_not (vt_tru (vp_of (ve_call (fo__law_said_right T) T.g__law_said_right (hr.mono (by decide)) (va_cons (ve_name 3) (va_cons (ve_name 4) (va_cons (ve_name 9) va_nil)))))))
  (vss_one (vs_ret ve_bl))
  vss_nil)))
  (vss_cons (vs_par2 10 11 rfl hN (vc_v (ve_ix (vp_name 1) (vp_of ve_int)) (vc_v (ve_bin opd_add (vp_of (ve_ix (vp_name 1) (vp_of ve_int))) (vp_of (ve_ix (vp_name 1) (vp_of ve_int)))) vc_nil)))
  (vss_cons (vs_if (vt_cmp (opd_ne hr.units) (vp_of (ve_call (fo_judged T) T.g_judged (hr.mono (by decide)) (va_cons (ve_of_n (vn_lst (va_cons (ve_bin opd_add (vp_name 10) (vp_of (ve_str [47]))) (va_cons (ve_bin opd_add (vp_of (ve_str [33])) (vp_name 11)) va_nil)))) (va_cons (ve_bin opd_add (vp_of (ve_bin opd_add (vp_name 10) (vp_of (ve_str [47])))) (vp_name 11)) va_nil)))) (vp_of (ve_tup (va_cons ve_bl (va_cons ve_int (va_cons ve_int va_nil))))) (nomark _))
  (vss_one (vs_ret ve_bl))
  vss_nil)
  (vss_one (vs_ret (ve_and (ve_cmp (opd_eq hr.units) (vp_of (ve_call (fo_judged T) T.g_judged (hr.mono (by decide)) (va_cons (ve_of_n (vn_lst (va_cons (ve_bin opd_add (vp_name 10) (vp_of (ve_str [47]))) (va_cons (ve_bin opd_add (vp_of (ve_str [33])) (vp_name 11)) va_nil)))) (va_cons (ve_name 10) va_nil)))) (vp_of (ve_tup (va_cons ve_bl (va_cons ve_non (va_cons ve_non va_nil))))) (nomark _)) (ve_one (ve_cmp (opd_eq hr.units) (vp_of (ve_call (fo_judged T) T.g_judged (hr.mono (by decide)) (va_cons (ve_of_n (vn_lst va_nil)) (va_cons (ve_name 10) va_nil)))) (vp_of (ve_tup (va_cons ve_bl (va_cons ve_non (va_cons ve_non va_nil))))) (nomark _))))))))))))))
theorem fo_law (T : Tx K mg base) : FoA P w K mg base 11 (He.ga K "law") ["_law_script"] [] f_law := by
  obtain ⟨fd, F⟩ := T.d_law
  exact fo_of F sc_law (F.bindsN fun _ _ _ _ _ _ us hl => match us, hl with | [_], _ => rfl) (dv_law T)
end
end Kb
namespace Kb.Hd
open PySem PySem.Spec PyProof.Rows L2 Vl
abbrev lawAt : Nat := 47
def fn : List He.DefD := [d__law_draw, d__law_cell_at, d__law_digits, d__law_signs, d__law_pool, d__law_mark, d__law_line, d__law_mark_plain, d__law_mark_other, d__law_other, d_Reader___init__, d_Reader_here, d_Reader_take, d_Reader_one_of, d_brackets_of, d_mark_of, d_piece_of, d_line_of, d_Marks___init__, d_Names_many, d_Marks_many, d_Names_begins, d_Marks_begins, d_Names_moves, d_Marks_moves, d_Names_ends, d_Marks_ends, d_Marks_passed, d_Line_closed, d_Line_begin, d_Line_step, d_Line_leave, d_Line_full, d_Line_stages, d_is_name, d_names_of, d_deciding, d_line_at, d_lines_of, d_shut_at, d_judged_of, d_judged, d__law_path, d__law_some, d__law_parted, d__law_name_fits, d__law_judged, d__law_made, d__law_said_right, d_law, d_Line___init__]
def fa : List He.Fa := [.cls "Line", .cls "Marks", .cls "Names", .cls "Reader", .free "abs", .free "all", .free "any", .free "bool", .free "enumerate", .free "int", .free "isinstance", .free "len", .free "list", .free "max", .free "min", .free "range", .free "set", .free "sorted", .free "str", .free "sum", .free "tuple", .glo "Line", .glo "Marks", .glo "Names", .glo "Reader", .glo "_law_cell_at", .glo "_law_digits", .glo "_law_draw", .glo "_law_judged", .glo "_law_line", .glo "_law_made", .glo "_law_mark", .glo "_law_mark_other", .glo "_law_mark_plain", .glo "_law_name_fits", .glo "_law_other", .glo "_law_parted", .glo "_law_path", .glo "_law_pool", .glo "_law_said_right", .glo "_law_signs", .glo "_law_some", .glo "brackets_of", .glo "deciding", .glo "is_name", .glo "judged", .glo "judged_of", .glo "line_at", .glo "line_of", .glo "lines_of", .glo "mark_of", .glo "names_of", .glo "piece_of", .glo "shut_at", .int "LONGEST" 400, .mkr "Line", .mkr "Marks", .mkr "Reader", .meth "Line" "begin", .meth "Line" "closed", .meth "Line" "full", .meth "Line" "leave", .meth "Line" "stages", .meth "Line" "step", .meth "Marks" "begins", .meth "Marks" "ends", .meth "Marks" "many", .meth "Marks" "moves", .meth "Marks" "passed", .meth "Names" "begins", .meth "Names" "ends", .meth "Names" "many", .meth "Names" "moves", .meth "Reader" "here", .meth "Reader" "one_of", .meth "Reader" "take", .noat "Line" "folders", .noat "Line" "lets", .noat "Line" "pieces", .noat "Marks" "marks", .noat "Reader" "place", .noat "Reader" "whole", .str "SIGNS" ".abcdefghijklmnopqrstuvwxyz", .str "STAR" "*", .glo "law"]
def exs : List (PySem.W.Frag → Bool) := [newB "Names"]
def tf : List He.Defn := [("_law_name_fits", none)]
def ex (K : PySem.W.Frag) : Bool := exs.all (· K)
abbrev R : PySem.W.OpenRow := PySem.W.OpenLaw.row PySem.Challenge.rw_keepback_k05_whole_judged
abbrev hk : PySem.W.Hook := He.hookX 6 fa fn [] tf ex
def ob (s : PySem.W.SharedT) : He.AlX := He.obsX 6 fa fn [] tf ex (HandSHeadRun.getT s)
theorem ob_eq (s : PySem.W.SharedT) : ob s = hk.obs s.abs := He.obsX_eq (HandSHeadRun.getT_eq s)
def loose : List Str := (["_wall", "KeepError", "BadLine", "BadList", "BadPath", "SIGNS", "STAR", "Piece", "Names", "Marks", "told_mark", "Line"] : List Str) ++ (["Reader", "brackets_of", "mark_of", "piece_of", "line_of", "line_at", "lines_of", "LONGEST", "is_name", "names_of", "deciding", "shut_at"] : List Str) ++ (["judged_of", "judged", "_law_draw", "_law_cell_at", "_law_digits", "_law_signs", "_law_pool", "_law_mark", "_law_line", "_law_path", "_law_mark_plain", "_law_mark_other"] : List Str) ++ (["_law_other", "_law_some", "_law_parted", "_law_name_fits", "_law_judged", "_law_made", "_law_said_right"] : List Str)
theorem run (w : World) : HandSHeadRun.RunEq R (PySem.W.view R.prog [lawAt]) hk ob 4000 loose w := by
  intro os
  kernel_rfl
theorem exAll {w : World} {h : Heap} {K : PySem.W.Frag} (c : He.SaysX fa fn [] tf ex w h K) (b : PySem.W.Frag → Bool) (i : Nat) (e : exs[i]? = some b) : b K = true := List.all_eq_true.mp c.more b (List.mem_of_getElem? e)
def cs (K : PySem.W.Frag) : List (Addr × Addr) := tf.map (He.cT K)
def lamI (K : PySem.W.Frag) : LamT := ⟨[((He.cT K ("_law_name_fits", none)).2, q_lam0)], fun n => [D_lam0][n]?⟩
theorem tx_of {w : World} {h base : Heap} {K : PySem.W.Frag} {mg : Str → Option Value} (X : K.In h) (G : h.Ns mainGlobals mg) (c : He.SaysX fa fn [] tf ex w h K) (hB : ∀ p ∈ cs K, LamX.TabB base mg p.1 p.2) : @Tx (lamI K) K mg base :=
  letI : LamT := lamI K
  {
    lamB0 := hB _ (List.mem_map.mpr ⟨("_law_name_fits", none), by decide, rfl⟩)
    lamT0 := show _ ∈ [((He.cT K ("_law_name_fits", none)).2, q_lam0)] by simp
    lamU0 := fun p hp _ => by have hp' : p ∈ [((He.cT K ("_law_name_fits", none)).2, q_lam0)] := hp; rw [List.mem_singleton.mp hp']
    lamL0 := rfl
    d__law_draw := c.t.d.def_ 0 (d := d__law_draw) rfl
    d__law_cell_at := c.t.d.def_ 1 (d := d__law_cell_at) rfl
    d__law_digits := c.t.d.def_ 2 (d := d__law_digits) rfl
    d__law_signs := c.t.d.def_ 3 (d := d__law_signs) rfl
    d__law_pool := c.t.d.def_ 4 (d := d__law_pool) rfl
    d__law_mark := c.t.d.def_ 5 (d := d__law_mark) rfl
    d__law_line := c.t.d.def_ 6 (d := d__law_line) rfl
    d__law_mark_plain := c.t.d.def_ 7 (d := d__law_mark_plain) rfl
    d__law_mark_other := c.t.d.def_ 8 (d := d__law_mark_other) rfl
    d__law_other := c.t.d.def_ 9 (d := d__law_other) rfl
    d_Reader___init__ := c.t.d.def_ 10 (d := d_Reader___init__) rfl
    d_Reader_here := c.t.d.def_ 11 (d := d_Reader_here) rfl
    d_Reader_take := c.t.d.def_ 12 (d := d_Reader_take) rfl
    d_Reader_one_of := c.t.d.def_ 13 (d := d_Reader_one_of) rfl
    d_brackets_of := c.t.d.def_ 14 (d := d_brackets_of) rfl
    d_mark_of := c.t.d.def_ 15 (d := d_mark_of) rfl
    d_piece_of := c.t.d.def_ 16 (d := d_piece_of) rfl
    d_line_of := c.t.d.def_ 17 (d := d_line_of) rfl
    d_Marks___init__ := c.t.d.def_ 18 (d := d_Marks___init__) rfl
    d_Names_many := c.t.d.def_ 19 (d := d_Names_many) rfl
    d_Marks_many := c.t.d.def_ 20 (d := d_Marks_many) rfl
    d_Names_begins := c.t.d.def_ 21 (d := d_Names_begins) rfl
    d_Marks_begins := c.t.d.def_ 22 (d := d_Marks_begins) rfl
    d_Names_moves := c.t.d.def_ 23 (d := d_Names_moves) rfl
    d_Marks_moves := c.t.d.def_ 24 (d := d_Marks_moves) rfl
    d_Names_ends := c.t.d.def_ 25 (d := d_Names_ends) rfl
    d_Marks_ends := c.t.d.def_ 26 (d := d_Marks_ends) rfl
    d_Marks_passed := c.t.d.def_ 27 (d := d_Marks_passed) rfl
    d_Line_closed := c.t.d.def_ 28 (d := d_Line_closed) rfl
    d_Line_begin := c.t.d.def_ 29 (d := d_Line_begin) rfl
    d_Line_step := c.t.d.def_ 30 (d := d_Line_step) rfl
    d_Line_leave := c.t.d.def_ 31 (d := d_Line_leave) rfl
    d_Line_full := c.t.d.def_ 32 (d := d_Line_full) rfl
    d_Line_stages := c.t.d.def_ 33 (d := d_Line_stages) rfl
    d_is_name := c.t.d.def_ 34 (d := d_is_name) rfl
    d_names_of := c.t.d.def_ 35 (d := d_names_of) rfl
    d_deciding := c.t.d.def_ 36 (d := d_deciding) rfl
    d_line_at := c.t.d.def_ 37 (d := d_line_at) rfl
    d_lines_of := c.t.d.def_ 38 (d := d_lines_of) rfl
    d_shut_at := c.t.d.def_ 39 (d := d_shut_at) rfl
    d_judged_of := c.t.d.def_ 40 (d := d_judged_of) rfl
    d_judged := c.t.d.def_ 41 (d := d_judged) rfl
    d__law_path := c.t.d.def_ 42 (d := d__law_path) rfl
    d__law_some := c.t.d.def_ 43 (d := d__law_some) rfl
    d__law_parted := c.t.d.def_ 44 (d := d__law_parted) rfl
    d__law_name_fits := c.t.d.def_ 45 (d := d__law_name_fits) rfl
    d__law_judged := c.t.d.def_ 46 (d := d__law_judged) rfl
    d__law_made := c.t.d.def_ 47 (d := d__law_made) rfl
    d__law_said_right := c.t.d.def_ 48 (d := d__law_said_right) rfl
    d_law := c.t.d.def_ 49 (d := d_law) rfl
    d_Line___init__ := c.t.d.def_ 50 (d := d_Line___init__) rfl
    cls_Line := He.cls_ok (c.t.d.fact 0 rfl)
    cls_Marks := He.cls_ok (c.t.d.fact 1 rfl)
    cls_Names := He.cls_ok (c.t.d.fact 2 rfl)
    cls_Reader := He.cls_ok (c.t.d.fact 3 rfl)
    free_abs := He.free_ok X G (c.t.d.fact 4 rfl)
    free_all := He.free_ok X G (c.t.d.fact 5 rfl)
    free_any := He.free_ok X G (c.t.d.fact 6 rfl)
    free_bool := He.free_ok X G (c.t.d.fact 7 rfl)
    free_enumerate := He.free_ok X G (c.t.d.fact 8 rfl)
    free_int := He.free_ok X G (c.t.d.fact 9 rfl)
    free_isinstance := He.free_ok X G (c.t.d.fact 10 rfl)
    free_len := He.free_ok X G (c.t.d.fact 11 rfl)
    free_list := He.free_ok X G (c.t.d.fact 12 rfl)
    free_max := He.free_ok X G (c.t.d.fact 13 rfl)
    free_min := He.free_ok X G (c.t.d.fact 14 rfl)
    free_range := He.free_ok X G (c.t.d.fact 15 rfl)
    free_set := He.free_ok X G (c.t.d.fact 16 rfl)
    free_sorted := He.free_ok X G (c.t.d.fact 17 rfl)
    free_str := He.free_ok X G (c.t.d.fact 18 rfl)
    free_sum := He.free_ok X G (c.t.d.fact 19 rfl)
    free_tuple := He.free_ok X G (c.t.d.fact 20 rfl)
    g_Line := He.glo_ok X G (c.t.d.fact 21 rfl)
    g_Marks := He.glo_ok X G (c.t.d.fact 22 rfl)
    g_Names := He.glo_ok X G (c.t.d.fact 23 rfl)
    g_Reader := He.glo_ok X G (c.t.d.fact 24 rfl)
    g__law_cell_at := He.glo_ok X G (c.t.d.fact 25 rfl)
    g__law_digits := He.glo_ok X G (c.t.d.fact 26 rfl)
    g__law_draw := He.glo_ok X G (c.t.d.fact 27 rfl)
    g__law_judged := He.glo_ok X G (c.t.d.fact 28 rfl)
    g__law_line := He.glo_ok X G (c.t.d.fact 29 rfl)
    g__law_made := He.glo_ok X G (c.t.d.fact 30 rfl)
    g__law_mark := He.glo_ok X G (c.t.d.fact 31 rfl)
    g__law_mark_other := He.glo_ok X G (c.t.d.fact 32 rfl)
    g__law_mark_plain := He.glo_ok X G (c.t.d.fact 33 rfl)
    g__law_name_fits := He.glo_ok X G (c.t.d.fact 34 rfl)
    g__law_other := He.glo_ok X G (c.t.d.fact 35 rfl)
    g__law_parted := He.glo_ok X G (c.t.d.fact 36 rfl)
    g__law_path := He.glo_ok X G (c.t.d.fact 37 rfl)
    g__law_pool := He.glo_ok X G (c.t.d.fact 38 rfl)
    g__law_said_right := He.glo_ok X G (c.t.d.fact 39 rfl)
    g__law_signs := He.glo_ok X G (c.t.d.fact 40 rfl)
    g__law_some := He.glo_ok X G (c.t.d.fact 41 rfl)
    g_brackets_of := He.glo_ok X G (c.t.d.fact 42 rfl)
    g_deciding := He.glo_ok X G (c.t.d.fact 43 rfl)
    g_is_name := He.glo_ok X G (c.t.d.fact 44 rfl)
    g_judged := He.glo_ok X G (c.t.d.fact 45 rfl)
    g_judged_of := He.glo_ok X G (c.t.d.fact 46 rfl)
    g_line_at := He.glo_ok X G (c.t.d.fact 47 rfl)
    g_line_of := He.glo_ok X G (c.t.d.fact 48 rfl)
    g_lines_of := He.glo_ok X G (c.t.d.fact 49 rfl)
    g_mark_of := He.glo_ok X G (c.t.d.fact 50 rfl)
    g_names_of := He.glo_ok X G (c.t.d.fact 51 rfl)
    g_piece_of := He.glo_ok X G (c.t.d.fact 52 rfl)
    g_shut_at := He.glo_ok X G (c.t.d.fact 53 rfl)
    i_LONGEST := He.int_ok X G (c.t.d.fact 54 rfl)
    mkr_Line := He.mkr_ok (c.t.d.fact 55 rfl)
    mkr_Marks := He.mkr_ok (c.t.d.fact 56 rfl)
    mkr_Reader := He.mkr_ok (c.t.d.fact 57 rfl)
    mt_Line_begin := He.meth_ok (c.t.d.fact 58 rfl)
    mt_Line_closed := He.meth_ok (c.t.d.fact 59 rfl)
    mt_Line_full := He.meth_ok (c.t.d.fact 60 rfl)
    mt_Line_leave := He.meth_ok (c.t.d.fact 61 rfl)
    mt_Line_stages := He.meth_ok (c.t.d.fact 62 rfl)
    mt_Line_step := He.meth_ok (c.t.d.fact 63 rfl)
    mt_Marks_begins := He.meth_ok (c.t.d.fact 64 rfl)
    mt_Marks_ends := He.meth_ok (c.t.d.fact 65 rfl)
    mt_Marks_many := He.meth_ok (c.t.d.fact 66 rfl)
    mt_Marks_moves := He.meth_ok (c.t.d.fact 67 rfl)
    mt_Marks_passed := He.meth_ok (c.t.d.fact 68 rfl)
    mt_Names_begins := He.meth_ok (c.t.d.fact 69 rfl)
    mt_Names_ends := He.meth_ok (c.t.d.fact 70 rfl)
    mt_Names_many := He.meth_ok (c.t.d.fact 71 rfl)
    mt_Names_moves := He.meth_ok (c.t.d.fact 72 rfl)
    mt_Reader_here := He.meth_ok (c.t.d.fact 73 rfl)
    mt_Reader_one_of := He.meth_ok (c.t.d.fact 74 rfl)
    mt_Reader_take := He.meth_ok (c.t.d.fact 75 rfl)
    na_Line_folders := He.noat_ok (c.t.d.fact 76 rfl)
    na_Line_lets := He.noat_ok (c.t.d.fact 77 rfl)
    na_Line_pieces := He.noat_ok (c.t.d.fact 78 rfl)
    na_Marks_marks := He.noat_ok (c.t.d.fact 79 rfl)
    na_Reader_place := He.noat_ok (c.t.d.fact 80 rfl)
    na_Reader_whole := He.noat_ok (c.t.d.fact 81 rfl)
    new_Names := newB_ok (exAll c (newB "Names") 0 rfl)
    s_SIGNS := He.str_ok X G (c.t.d.fact 82 rfl)
    s_STAR := He.str_ok X G (c.t.d.fact 83 rfl) }
theorem law_end {P : Program} {w : World} {h : Heap} {K : PySem.W.Frag} {mg : Str → Option Value} {f : Addr} (X : K.In h) (G : h.Ns mainGlobals mg) (hfa : mg ("law" : Str) = some (.ref f)) (c : He.SaysX fa fn [] tf ex w h K) :
    ∃ fd : FuncData, (∀ (s : Shared) (v : Value), BindsTo s fd ⟨[v], []⟩ [("_law_script", v)]) ∧ ∀ base : Heap, K.In base → base.Ns mainGlobals mg → (∀ p ∈ cs K, LamX.TabB base mg p.1 p.2) → FnOk P w K mg base CX0 11 f fd ["_law_script"] (@spV (lamI K) K f_law) := by
  have e := hfa.symm.trans (He.glo_ok X G (c.t.d.fact 84 (f := .glo "law") rfl))
  cases e
  obtain ⟨fd, F⟩ := c.t.d.def_ 49 (d := d_law) rfl
  have b := FunD.bindsA (ps := ["_law_script"]) F fun _ _ _ _ _ _ us hl => match us, hl with | [_], _ => rfl
  refine ⟨fd, fun s v => b s [v] rfl, fun base _ _ hB => ?_⟩
  letI : LamT := lamI K
  exact fn_of F sc_law (dv_law (tx_of X G c hB))
theorem tab_in {K : PySem.W.Frag} {H : Hp} (hH : ∀ p ∈ cs K, H p.2 = some (.tbl #[])) {p : Addr × Str} (hp : p ∈ (lamI K).T) : H p.1 = some (.tbl #[]) := by
  have hp2 : p = ((He.cT K ("_law_name_fits", none)).2, q_lam0) := List.mem_singleton.mp hp
  subst hp2
  exact hH _ (List.mem_map.mpr ⟨("_law_name_fits", none), by decide, rfl⟩)
end Kb.Hd
namespace Kb
open Vl
open L2 (ixN atI)
theorem ixN_nat {n : Nat} {i : Int} (h0 : 0 ≤ i) (h : i < n) : ixN n i = some i.toNat := by
  unfold ixN; rw [if_pos h0, if_pos h]
theorem atI_eq {α : Type} {xs : List α} {i : Int} (h0 : 0 ≤ i) (h : i.toNat < xs.length) : atI xs i = some xs[i.toNat] := by
  unfold atI
  rw [ixN_nat h0 (by omega)]
  simp [List.getElem?_eq_getElem h]
theorem atI_ok {α : Type} {xs : List α} {i : Int} (h0 : 0 ≤ i) (h : i < xs.length) : ∃ x, atI xs i = some x ∧ x ∈ xs :=
  ⟨_, atI_eq h0 (by omega), List.getElem_mem _⟩
def primes : List Int := [1000003, 1000033, 1000037, 1000039, 1000081, 1000099, 1000117, 1000121, 1000133, 1000151, 1000159, 1000171, 1000183, 1000187, 1000193, 1000199]
def drawP (c k m : Int) : Int := (c * 48271 + k * 69621) % (primes[(k % 16).toNat]?.getD 1) % m
theorem drawP_nn (c k : Int) {m : Int} (hm : 0 < m) : 0 ≤ drawP c k m := Int.emod_nonneg _ (by omega)
theorem drawP_lt (c k : Int) {m : Int} (hm : 0 < m) : drawP c k m < m := Int.emod_lt_of_pos _ hm
theorem draw_eq (c k m : Int) (hm : 0 < m) : f__law_draw [.int c, .int k, .int m] = .ok (.int (drawP c k m)) := by
  have h16 : 0 ≤ k % 16 := Int.emod_nonneg _ (by decide)
  have h16' : k % 16 < 16 := Int.emod_lt_of_pos _ (by decide)
  have hl : (k % 16).toNat < (primes.map Da.int).length := by simp [primes]; omega
  have hl' : (k % 16).toNat < primes.length := by simp [primes]; omega
  have e := atI_eq h16 hl
  rw [List.getElem_map] at e
  have pp : 0 < primes[(k % 16).toNat] := by
    have := List.getElem_mem hl'
    generalize primes[(k % 16).toNat] = p at this
    simp only [primes, List.mem_cons, List.mem_nil_iff, or_false] at this
    omega
  have ep : primes[(k % 16).toNat]?.getD 1 = primes[(k % 16).toNat] := by rw [List.getElem?_eq_getElem hl']; rfl
  unfold drawP
  rw [ep]
  generalize primes[(k % 16).toNat] = p at e pp
  simp only [primes, List.map_cons, List.map_nil] at e
  simp only [f__law_draw, fnRun, b__law_draw, envOf, List.map_cons, List.map_nil, List.replicate, Nat.reduceSub, fSeq, fAsg, fAsgN, fRet, fRetO, fExpr, fTo, fPar2, fPar3, fAug, fIf, fBin, fBinT, fTru, fAnd, fOr, fNot, fAndV, fOrV, fNotV, fNeg, fName, fPeek, fD, fN, fLst, fTup, fCons, fCall, fCallN, fDef, fFld, fInt, fSl, fIt, fItA, fStuck, fCv, fCn, fCd, stN, stCons, stNil, stTup, mB, mP, mO, look, lookA, asBl, asInt, vAdd, vSub, vMul, vFdiv, vMod, vCmp, vIs, isNon, vAugAdd, fApp, fExt, fMs, fMn, List.getElem?_cons_zero, List.getElem?_cons_succ, List.getElem?_nil, List.set_cons_zero, List.set_cons_succ, List.length_cons, List.length_nil, Option.bind_some, Option.map_some, if_true, if_false, reduceIte, List.nil_append, List.cons_append, List.append_nil, resOf, Nat.reduceAdd, Nat.reduceEqDiff, Nat.reduceLT, Nat.reduceLeDiff, Int.reduceLT, Int.reduceLE, Int.reduceNeg, and_self, true_and, and_true, decide_true, decide_false, Bool.false_eq_true, Bool.not_true, Bool.not_false, Int.reduceAbs, Int.natAbs_neg, or_true, true_or, vIx, vLen, vAbs, vSum, vMax, vMin, decide_eq_true_eq, Bool.not_eq_true, if_pos pp, if_pos hm, e]
def absP (n : Int) : Int := if n < 0 then -n else n
theorem absP_nn (n : Int) : 0 ≤ absP n := by unfold absP; split <;> omega
theorem intsD_map (ns : List Int) : intsD (ns.map .int) = some ns := by
  induction ns with
  | nil => rfl
  | cons n ns ih => rw [List.map_cons]; unfold intsD; rw [ih]
def cellP (ns : List Int) (k : Int) : Int := if k < ns.length then absP (ns[k.toNat]?.getD 0) else drawP (absP ns.sum + 7919 * k) k 999983
theorem cellP_nn (ns : List Int) (k : Int) : 0 ≤ cellP ns k := by
  unfold cellP
  split
  · exact absP_nn _
  · exact drawP_nn _ _ (by decide)
theorem cell_eq (ns : List Int) (k : Int) (hk : 0 ≤ k) : f__law_cell_at [.lst (ns.map .int), .int k] = .ok (.int (cellP ns k)) := by
  unfold cellP
  by_cases h : k < ns.length
  · have hl : k.toNat < (ns.map Da.int).length := by rw [List.length_map]; omega
    have hl' : k.toNat < ns.length := by omega
    have e := atI_eq hk hl
    rw [List.getElem_map] at e
    simp only [f__law_cell_at, fnRun, b__law_cell_at, envOf, List.map_cons, List.map_nil, List.replicate, Nat.reduceSub, fSeq, fAsg, fAsgN, fRet, fRetO, fExpr, fTo, fPar2, fPar3, fAug, fIf, fBin, fBinT, fTru, fAnd, fOr, fNot, fAndV, fOrV, fNotV, fNeg, fName, fPeek, fD, fN, fLst, fTup, fCons, fCall, fCallN, fDef, fFld, fInt, fSl, fIt, fItA, fStuck, fCv, fCn, fCd, stN, stCons, stNil, stTup, mB, mP, mO, look, lookA, asBl, asInt, vAdd, vSub, vMul, vFdiv, vMod, vCmp, vIs, isNon, vAugAdd, fApp, fExt, fMs, fMn, List.getElem?_cons_zero, List.getElem?_cons_succ, List.getElem?_nil, List.set_cons_zero, List.set_cons_succ, List.length_cons, List.length_nil, Option.bind_some, Option.map_some, if_true, if_false, reduceIte, List.nil_append, List.cons_append, List.append_nil, resOf, Nat.reduceAdd, Nat.reduceEqDiff, Nat.reduceLT, Nat.reduceLeDiff, Int.reduceLT, Int.reduceLE, Int.reduceNeg, and_self, true_and, and_true, decide_true, decide_false, Bool.false_eq_true, Bool.not_true, Bool.not_false, Int.reduceAbs, Int.natAbs_neg, or_true, true_or, vIx, vLen, vAbs, vSum, vMax, vMin, decide_eq_true_eq, Bool.not_eq_true, List.length_map, h, e, List.getElem?_eq_getElem hl', Option.getD_some, absP]
  · have ed := draw_eq (absP ns.sum + 7919 * k) k 999983 (by decide)
    simp only [absP] at ed
    simp only [f__law_cell_at, fnRun, b__law_cell_at, envOf, List.map_cons, List.map_nil, List.replicate, Nat.reduceSub, fSeq, fAsg, fAsgN, fRet, fRetO, fExpr, fTo, fPar2, fPar3, fAug, fIf, fBin, fBinT, fTru, fAnd, fOr, fNot, fAndV, fOrV, fNotV, fNeg, fName, fPeek, fD, fN, fLst, fTup, fCons, fCall, fCallN, fDef, fFld, fInt, fSl, fIt, fItA, fStuck, fCv, fCn, fCd, stN, stCons, stNil, stTup, mB, mP, mO, look, lookA, asBl, asInt, vAdd, vSub, vMul, vFdiv, vMod, vCmp, vIs, isNon, vAugAdd, fApp, fExt, fMs, fMn, List.getElem?_cons_zero, List.getElem?_cons_succ, List.getElem?_nil, List.set_cons_zero, List.set_cons_succ, List.length_cons, List.length_nil, Option.bind_some, Option.map_some, if_true, if_false, reduceIte, List.nil_append, List.cons_append, List.append_nil, resOf, Nat.reduceAdd, Nat.reduceEqDiff, Nat.reduceLT, Nat.reduceLeDiff, Int.reduceLT, Int.reduceLE, Int.reduceNeg, and_self, true_and, and_true, decide_true, decide_false, Bool.false_eq_true, Bool.not_true, Bool.not_false, Int.reduceAbs, Int.natAbs_neg, or_true, true_or, vIx, vLen, vAbs, vSum, vMax, vMin, decide_eq_true_eq, Bool.not_eq_true, List.length_map, h, intsD_map, ed, absP]
def digB (cell base : Int) (t : Int) : Int := (drawP ((cell + 977 * t) * (cell + 31 * t + 5)) (t % 9 + 1) 999983 * 1000003 + drawP ((cell + 31 * t) * (cell + 7) + 977 * t) (t % 7 + 2) 1000003) % base
def digGo (cell base : Int) : Nat → Int → Int → List Int
  | 0, _, _ => []
  | n + 1, left, t => if cell ≥ 1000000000000000000 then (left % base) :: digGo cell base n (left / base) (t + 1) else digB cell base t :: digGo cell base n left (t + 1)
theorem digGo_len (cell base : Int) : ∀ n left t, (digGo cell base n left t).length = n
  | 0, _, _ => rfl
  | n + 1, left, t => by
    unfold digGo
    split <;> simp [digGo_len cell base n]
theorem digGo_in (cell : Int) {base : Int} (hb : 0 < base) : ∀ n left t, ∀ d ∈ digGo cell base n left t, 0 ≤ d ∧ d < base
  | 0, _, _, d, h => by cases h
  | n + 1, left, t, d, h => by
    unfold digGo at h
    split at h
    · rcases List.mem_cons.mp h with rfl | h
      · exact ⟨Int.emod_nonneg _ (by omega), Int.emod_lt_of_pos _ hb⟩
      · exact digGo_in cell hb n _ _ d h
    · rcases List.mem_cons.mp h with rfl | h
      · exact ⟨Int.emod_nonneg _ (by omega), Int.emod_lt_of_pos _ hb⟩
      · exact digGo_in cell hb n _ _ d h
theorem rangeD_succ (lo : Int) (n : Nat) : rangeD lo (n + 1) = .int lo :: rangeD (lo + 1) n := by
  unfold rangeD
  rw [List.range_succ_eq_map, List.map_cons, List.map_map]
  congr 1
  · simp
  · apply List.map_congr_left
    intro k _
    simp only [Function.comp, Da.int.injEq]
    omega
theorem rangeD_zero (lo : Int) : rangeD lo 0 = [] := rfl
def digP (ns : List Int) (a n base : Int) : List Int := digGo (cellP ns a) base n.toNat (cellP ns a - 1000000000000000000) 0
theorem forL_cons {st : Da → Env → Option Env} {body : EM Fl} {d : Da} {ds : List Da} {ρ ρ1 ρ2 : Env} (e : st d ρ = some ρ1) (e2 : body ρ1 = .ok .nx ρ2) : forL st body (d :: ds) ρ = forL st body ds ρ2 := by
  simp only [forL, e, e2]
abbrev digE (ns : List Int) (a m base c : Int) (acc : List Int) (left : Int) (x y z : Option Ce) : Env := [some (.imm (.lst (ns.map .int))), some (.imm (.int a)), some (.imm (.int m)), some (.imm (.int base)), some (.imm (.int c)), some (.lst (acc.map .int)), some (.imm (.int left)), x, y, z]
theorem dig_s1 (ns : List Int) (a m base c : Int) (acc : List Int) (left t : Int) (y z : Option Ce) (hb : 0 < base) (hb' : base < 1073741824) (hl : acc.length < 16777216) (h : c ≥ 1000000000000000000) :
    p1__law_digits (digE ns a m base c acc left (some (.imm (.int t))) y z) = .ok .nx (digE ns a m base c (acc ++ [left % base]) (left / base) (some (.imm (.int t))) y z) := by
  simp only [p1__law_digits, digE, fSeq, fAsg, fAsgN, fRet, fRetO, fExpr, fTo, fPar2, fPar3, fAug, fIf, fBin, fBinT, fTru, fAnd, fOr, fNot, fAndV, fOrV, fNotV, fNeg, fName, fPeek, fD, fN, fLst, fTup, fCons, fCall, fCallN, fDef, fFld, fInt, fSl, fIt, fItA, fStuck, fCv, fCn, fCd, stN, stCons, stNil, stTup, mB, mP, mO, look, lookA, asBl, asInt, vAdd, vSub, vMul, vFdiv, vMod, vCmp, vIs, isNon, vAugAdd, fApp, fExt, fMs, fMn, List.getElem?_cons_zero, List.getElem?_cons_succ, List.getElem?_nil, List.set_cons_zero, List.set_cons_succ, List.length_cons, List.length_nil, Option.bind_some, Option.map_some, if_true, if_false, reduceIte, List.nil_append, List.cons_append, List.append_nil, resOf, Nat.reduceAdd, Nat.reduceEqDiff, Nat.reduceLT, Nat.reduceLeDiff, Int.reduceLT, Int.reduceLE, Int.reduceNeg, and_self, true_and, and_true, decide_true, decide_false, Bool.false_eq_true, Bool.not_true, Bool.not_false, Int.reduceAbs, Int.natAbs_neg, or_true, true_or, vIx, vLen, vAbs, vSum, vMax, vMin, decide_eq_true_eq, Bool.not_eq_true, vPow, Int.reducePow, Int.reduceToNat, h, hb, hb', List.length_map, hl, List.map_append, List.map_cons, List.map_nil]
theorem dig_s2 (ns : List Int) (a m base c : Int) (acc : List Int) (left t : Int) (y z : Option Ce) (hb : 0 < base) (hl : acc.length < 16777216) (h : ¬ c ≥ 1000000000000000000) (h1 : (c + 977 * t).natAbs < 18446744073709551616) (h2 : (c + 31 * t).natAbs < 18446744073709551616) :
    p1__law_digits (digE ns a m base c acc left (some (.imm (.int t))) y z) = .ok .nx (digE ns a m base c (acc ++ [digB c base t]) left (some (.imm (.int t))) (some (.imm (.int (drawP ((c + 977 * t) * (c + 31 * t + 5)) (t % 9 + 1) 999983)))) (some (.imm (.int (drawP ((c + 31 * t) * (c + 7) + 977 * t) (t % 7 + 2) 1000003))))) := by
  have e1 := draw_eq ((c + 977 * t) * (c + 31 * t + 5)) (t % 9 + 1) 999983 (by decide)
  have e2 := draw_eq ((c + 31 * t) * (c + 7) + 977 * t) (t % 7 + 2) 1000003 (by decide)
  simp only [p1__law_digits, digE, fSeq, fAsg, fAsgN, fRet, fRetO, fExpr, fTo, fPar2, fPar3, fAug, fIf, fBin, fBinT, fTru, fAnd, fOr, fNot, fAndV, fOrV, fNotV, fNeg, fName, fPeek, fD, fN, fLst, fTup, fCons, fCall, fCallN, fDef, fFld, fInt, fSl, fIt, fItA, fStuck, fCv, fCn, fCd, stN, stCons, stNil, stTup, mB, mP, mO, look, lookA, asBl, asInt, vAdd, vSub, vMul, vFdiv, vMod, vCmp, vIs, isNon, vAugAdd, fApp, fExt, fMs, fMn, List.getElem?_cons_zero, List.getElem?_cons_succ, List.getElem?_nil, List.set_cons_zero, List.set_cons_succ, List.length_cons, List.length_nil, Option.bind_some, Option.map_some, if_true, if_false, reduceIte, List.nil_append, List.cons_append, List.append_nil, resOf, Nat.reduceAdd, Nat.reduceEqDiff, Nat.reduceLT, Nat.reduceLeDiff, Int.reduceLT, Int.reduceLE, Int.reduceNeg, and_self, true_and, and_true, decide_true, decide_false, Bool.false_eq_true, Bool.not_true, Bool.not_false, Int.reduceAbs, Int.natAbs_neg, or_true, true_or, vIx, vLen, vAbs, vSum, vMax, vMin, decide_eq_true_eq, Bool.not_eq_true, vPow, Int.reducePow, Int.reduceToNat, h, hb, h1, h2, e1, e2, List.length_map, hl, List.map_append, List.map_cons, List.map_nil, digB]
theorem dig_loop (ns : List Int) (a m base c : Int) (hb : 0 < base) (hb' : base < 1073741824) (c0 : 0 ≤ c) : ∀ (k : Nat) (acc : List Int) (left t : Int) (x y z : Option Ce), acc.length + k ≤ 1000000 → 0 ≤ t → t + k ≤ 1000000 → ∃ left' x' y' z',
    forL (stN 7) p1__law_digits (rangeD t k) (digE ns a m base c acc left x y z) = .ok .nx (digE ns a m base c (acc ++ digGo c base k left t) left' x' y' z') := by
  intro k
  induction k with
  | zero =>
    intro acc left t x y z _ _ _
    exact ⟨left, x, y, z, by simp only [rangeD_zero, forL, mP, digGo, List.append_nil]⟩
  | succ k ih =>
    intro acc left t x y z hk ht hk2
    have hl : acc.length < 16777216 := by omega
    have hk3 : ∀ d : Int, (acc ++ [d]).length + k ≤ 1000000 := fun d => by rw [List.length_append, List.length_singleton]; omega
    rw [rangeD_succ]
    by_cases h : c ≥ 1000000000000000000
    · obtain ⟨l', x', y', z', e⟩ := ih (acc ++ [left % base]) (left / base) (t + 1) (some (.imm (.int t))) y z (hk3 _) (by omega) (by omega)
      refine ⟨l', x', y', z', ?_⟩
      rw [forL_cons (ρ1 := digE ns a m base c acc left (some (.imm (.int t))) y z) rfl (dig_s1 ns a m base c acc left t y z hb hb' hl h), e]
      simp only [digGo, if_pos h, List.append_assoc, List.cons_append, List.nil_append]
    · have h1 : (c + 977 * t).natAbs < 18446744073709551616 := by omega
      have h2 : (c + 31 * t).natAbs < 18446744073709551616 := by omega
      obtain ⟨l', x', y', z', e⟩ := ih (acc ++ [digB c base t]) left (t + 1) (some (.imm (.int t))) (some (.imm (.int (drawP ((c + 977 * t) * (c + 31 * t + 5)) (t % 9 + 1) 999983)))) (some (.imm (.int (drawP ((c + 31 * t) * (c + 7) + 977 * t) (t % 7 + 2) 1000003)))) (hk3 _) (by omega) (by omega)
      refine ⟨l', x', y', z', ?_⟩
      rw [forL_cons (ρ1 := digE ns a m base c acc left (some (.imm (.int t))) y z) rfl (dig_s2 ns a m base c acc left t y z hb hl h h1 h2), e]
      simp only [digGo, if_neg h, List.append_assoc, List.cons_append, List.nil_append]
theorem digs_eq (ns : List Int) (a n base : Int) (ha : 0 ≤ a) (hn : 0 ≤ n) (hn' : n ≤ 1000000) (hb : 0 < base) (hb' : base < 1073741824) :
    f__law_digits [.lst (ns.map .int), .int a, .int n, .int base] = .ok (.lst ((digP ns a n base).map .int)) := by
  have ec := cell_eq ns a ha
  obtain ⟨l', x', y', z', e⟩ := dig_loop ns a n base (cellP ns a) hb hb' (cellP_nn ns a) n.toNat [] (cellP ns a - 1000000000000000000) 0 none none none (by simp; omega) (by omega) (by omega)
  have r1 : (-4611686018427387904 : Int) ≤ n ∧ n < 4611686018427387904 := by omega
  simp only [digE, List.map_nil, List.nil_append] at e
  simp only [f__law_digits, fnRun, b__law_digits, envOf, List.map_cons, List.map_nil, List.replicate, Nat.reduceSub, fSeq, fAsg, fAsgN, fRet, fRetO, fExpr, fTo, fPar2, fPar3, fAug, fIf, fBin, fBinT, fTru, fAnd, fOr, fNot, fAndV, fOrV, fNotV, fNeg, fName, fPeek, fD, fN, fLst, fTup, fCons, fCall, fCallN, fDef, fFld, fInt, fSl, fIt, fItA, fStuck, fCv, fCn, fCd, stN, stCons, stNil, stTup, mB, mP, mO, look, lookA, asBl, asInt, vAdd, vSub, vMul, vFdiv, vMod, vCmp, vIs, isNon, vAugAdd, fApp, fExt, fMs, fMn, List.getElem?_cons_zero, List.getElem?_cons_succ, List.getElem?_nil, List.set_cons_zero, List.set_cons_succ, List.length_cons, List.length_nil, Option.bind_some, Option.map_some, if_true, if_false, reduceIte, List.nil_append, List.cons_append, List.append_nil, resOf, Nat.reduceAdd, Nat.reduceEqDiff, Nat.reduceLT, Nat.reduceLeDiff, Int.reduceLT, Int.reduceLE, Int.reduceNeg, and_self, true_and, and_true, decide_true, decide_false, Bool.false_eq_true, Bool.not_true, Bool.not_false, Int.reduceAbs, Int.natAbs_neg, or_true, true_or, vIx, vLen, vAbs, vSum, vMax, vMin, decide_eq_true_eq, Bool.not_eq_true, vPow, Int.reducePow, Int.reduceToNat, ec, fFor, rng1, r1, e]
  rfl
end Kb
namespace Kb
/-! signs, runs, the plain form of a mark: plain lists -/
def sg : List Nat := [46, 97, 98, 99, 100, 101, 102, 103, 104, 105, 106, 107, 108, 109, 110, 111, 112, 113, 114, 115, 116, 117, 118, 119, 120, 121, 122]
def idx (c : Nat) : Nat := if c = 46 then 0 else c - 96
def nx (c : Nat) : Nat := if c = 46 then 97 else c + 1
theorem sg_len : sg.length = 27 := rfl
theorem sg_mem {c : Nat} : c ∈ sg ↔ c = 46 ∨ (97 ≤ c ∧ c ≤ 122) := by
  simp only [sg, List.mem_cons, List.mem_nil_iff, or_false]
  omega
theorem idx_lt {c : Nat} (h : c ∈ sg) : idx c < 27 := by
  rw [sg_mem] at h
  unfold idx
  split <;> omega
theorem sg_all : ∀ c ∈ sg, sg[idx c]? = some c := by decide
theorem sg_idx {c : Nat} (h : c ∈ sg) : sg[idx c]? = some c := sg_all c h
theorem idx_all : ∀ i, i < 27 → ∀ c, sg[i]? = some c → idx c = i := by
  intro i hi c h
  have key : ∀ i ∈ List.range 27, (sg[i]?).map idx = some i := by decide
  have := key i (List.mem_range.mpr hi)
  rw [h] at this
  simpa using this
theorem idx_inj {c d : Nat} (hc : c ∈ sg) (hd : d ∈ sg) (h : idx c = idx d) : c = d := by
  have a := sg_idx hc
  have b := sg_idx hd
  rw [h, b] at a
  exact (Option.some.inj a).symm
theorem nx_idx {c d : Nat} (hc : c ∈ sg) (hd : d ∈ sg) : d = nx c ↔ idx d = idx c + 1 := by
  rw [sg_mem] at hc hd
  unfold nx idx
  split <;> split <;> omega
/-- neighbours -/
def Chn : List Nat → Prop
  | x :: y :: r => y = nx x ∧ Chn (y :: r)
  | _ => True
theorem Chn.tail {x : Nat} {r : List Nat} (h : Chn (x :: r)) : Chn r := by
  cases r with
  | nil => trivial
  | cons y r => exact h.2
theorem chn_append {a : List Nat} {x y : Nat} {b : List Nat} : Chn (a ++ [x]) → y = nx x → Chn (y :: b) → Chn (a ++ [x] ++ y :: b) := by
  induction a with
  | nil => exact fun _ e h => ⟨e, h⟩
  | cons z a ih =>
    intro h e hb
    cases a with
    | nil => exact ⟨h.1, ih trivial e hb⟩
    | cons w a => exact ⟨h.1, ih h.2 e hb⟩
theorem Chn.left {a b : List Nat} (h : Chn (a ++ b)) : Chn a := by
  induction a with
  | nil => trivial
  | cons x a ih =>
    cases a with
    | nil => trivial
    | cons y a => exact ⟨h.1, ih h.2⟩
theorem Chn.right {a b : List Nat} (h : Chn (a ++ b)) : Chn b := by
  induction a with
  | nil => exact h
  | cons x a ih => exact ih h.tail
/-- a chain of signs is a stretch of the signs -/
theorem chn_take : ∀ (l : List Nat) (c : Nat), (∀ x ∈ c :: l, x ∈ sg) → Chn (c :: l) → (sg.drop (idx c)).take (l.length + 1) = c :: l := by
  intro l
  induction l with
  | nil =>
    intro c hm _
    have hc := hm c (List.mem_cons_self ..)
    have hl : idx c < sg.length := idx_lt hc
    have := sg_idx hc
    rw [List.getElem?_eq_getElem hl] at this
    rw [List.drop_eq_getElem_cons hl]
    simp only [Option.some.injEq] at this
    rw [this]
    rfl
  | cons d l ih =>
    intro c hm h
    have hc := hm c (List.mem_cons_self ..)
    have hd := hm d (List.mem_cons_of_mem _ (List.mem_cons_self ..))
    have hl : idx c < sg.length := idx_lt hc
    have e := sg_idx hc
    rw [List.getElem?_eq_getElem hl] at e
    simp only [Option.some.injEq] at e
    rw [List.drop_eq_getElem_cons hl, e, List.length_cons, List.take_succ_cons, ← (nx_idx hc hd).mp h.1, ih d (fun x hx => hm x (List.mem_cons_of_mem _ hx)) h.2]
/-- a stretch of the signs is a chain -/
theorem chn_sub : Chn sg := by
  unfold sg
  simp [Chn, nx]
theorem chn_of_take (i n : Nat) : Chn ((sg.drop i).take n) := by
  have h : Chn (sg.take i ++ sg.drop i) := by rw [List.take_append_drop]; exact chn_sub
  have h2 : Chn ((sg.drop i).take n ++ (sg.drop i).drop n) := by rw [List.take_append_drop]; exact h.right
  exact h2.left
/-- what a filter of the signs is: climbing -/
def Clm : List Nat → Prop
  | x :: y :: r => idx x < idx y ∧ Clm (y :: r)
  | _ => True
theorem Clm.tail {x : Nat} {r : List Nat} (h : Clm (x :: r)) : Clm r := by
  cases r with
  | nil => trivial
  | cons y r => exact h.2
theorem clm_right {a b : List Nat} (h : Clm (a ++ b)) : Clm b := by
  induction a with
  | nil => exact h
  | cons x a ih => exact ih h.tail
theorem clm_cons {x : Nat} {r : List Nat} (h : Clm r) (h2 : ∀ y, r.head? = some y → idx x < idx y) : Clm (x :: r) := by
  cases r with
  | nil => trivial
  | cons y r => exact ⟨h2 y rfl, h⟩
theorem Clm.lt {x : Nat} {r : List Nat} (h : Clm (x :: r)) : ∀ y ∈ r, idx x < idx y := by
  induction r generalizing x with
  | nil => intro y hy; cases hy
  | cons z r ih =>
    intro y hy
    rcases List.mem_cons.mp hy with rfl | hy
    · exact h.1
    · exact Nat.lt_trans h.1 (ih h.2 y hy)
theorem clm_filter (p : Nat → Bool) {l : List Nat} (h : Clm l) : Clm (l.filter p) := by
  induction l with
  | nil => trivial
  | cons x l ih =>
    rw [List.filter_cons]
    split
    · refine clm_cons (ih h.tail) fun y hy => h.lt y ?_
      have := List.mem_of_mem_head? (by rw [hy]; rfl : y ∈ (l.filter p).head?)
      exact (List.mem_filter.mp this).1
    · exact ih h.tail
theorem clm_sg : Clm sg := by
  unfold sg
  simp [Clm, idx]
/-- runs -/
def runs : List Nat → List (List Nat)
  | [] => []
  | x :: xs => match runs xs with
    | [] => [[x]]
    | r :: rs => if r.head? = some (nx x) then (x :: r) :: rs else [x] :: r :: rs
def rend (r : List Nat) : List Nat := match r with
  | [] => []
  | [a] => [a]
  | [a, b] => [a, b]
  | a :: b :: c :: l => [a, 45, (a :: b :: c :: l).getLastD 0]
theorem runs_head : ∀ (x : Nat) (xs : List Nat), ∃ r rs, runs (x :: xs) = (x :: r) :: rs := by
  intro x xs
  unfold runs
  split
  · exact ⟨_, _, rfl⟩
  · split <;> exact ⟨_, _, rfl⟩
theorem runs_cons (x : Nat) (xs : List Nat) : runs (x :: xs) = match runs xs with
    | [] => [[x]]
    | r :: rs => if r.head? = some (nx x) then (x :: r) :: rs else [x] :: r :: rs := rfl
/-- a run goes on through a chain -/
theorem runs_chn : ∀ (r : List Nat) (x : Nat) (t : List Nat), Chn (x :: r) → (∀ y, t.head? = some y → y ≠ nx ((x :: r).getLastD 0)) → runs (x :: r ++ t) = (x :: r) :: runs t := by
  intro r
  induction r with
  | nil =>
    intro x t _ ht
    show runs (x :: t) = [x] :: runs t
    cases t with
    | nil => rfl
    | cons y t =>
      obtain ⟨r, rs, e⟩ := runs_head y t
      have hne : ¬ y = nx x := ht y rfl
      rw [runs_cons, e]
      simp only [List.head?_cons, Option.some.injEq, if_neg hne]
  | cons z r ih =>
    intro x t h ht
    show runs (x :: (z :: r ++ t)) = _
    rw [runs_cons, ih z t h.2 (by simpa using ht)]
    simp only [List.head?_cons, h.1, if_true]
/-- the plain form of a mark -/
def plainM (m : List Nat) : List Nat :=
  if m = [42] ∨ m.length = 1 then m else if m = sg then [63] else if m = [] then [91, 33, 46, 45, 122, 93] else [91] ++ (runs m).flatMap rend ++ [93]
def IsM (m : List Nat) : Prop := m = [42] ∨ ∃ p : Nat → Bool, m = sg.filter p
end Kb
namespace Kb
open Vl
open L2 (ixN atI)
/-! operations on what the marks are made of -/
theorem vEq_str (a b : List Nat) : vEq false (.str a) (.str b) = some (.bl (decide (a = b))) := by
  by_cases h : a = b <;> simp [vEq, plainD, dep, dq, h]
theorem vNe_str (a b : List Nat) : vEq true (.str a) (.str b) = some (.bl (!decide (a = b))) := by
  by_cases h : a = b <;> simp [vEq, plainD, dep, dq, h]
theorem vEq_int (a b : Int) : vEq false (.int a) (.int b) = some (.bl (decide (a = b))) := by
  by_cases h : a = b <;> simp [vEq, plainD, dep, dq, h]
theorem vEq_bl (a b : Bool) : vEq false (.bl a) (.bl b) = some (.bl (decide (a = b))) := by
  cases a <;> cases b <;> simp [vEq, plainD, dep, dq]
theorem vNe_bl (a b : Bool) : vEq true (.bl a) (.bl b) = some (.bl (!decide (a = b))) := by
  cases a <;> cases b <;> simp [vEq, plainD, dep, dq]
theorem plainA_str (ls : List (List Nat)) : plainA (ls.map .str) = true := by
  induction ls with
  | nil => rfl
  | cons l ls ih => simp [plainA, plainD, ih]
theorem depA_str (ls : List (List Nat)) : depA (ls.map .str) = 0 := by
  induction ls with
  | nil => rfl
  | cons l ls ih => simp [depA, dep, ih]
theorem dqA_str : ∀ (ls ms : List (List Nat)), dqA (ls.map .str) (ms.map .str) = decide (ls = ms)
  | [], [] => by simp [dqA]
  | [], _ :: _ => by simp [dqA]
  | _ :: _, [] => by simp [dqA]
  | l :: ls, m :: ms => by
    simp only [List.map_cons, dqA, dq, dqA_str ls ms]
    by_cases h : l = m <;> by_cases h2 : ls = ms <;> simp [h, h2]
theorem vEq_strs (ls ms : List (List Nat)) : vEq false (.lst (ls.map .str)) (.lst (ms.map .str)) = some (.bl (decide (ls = ms))) := by
  unfold vEq
  rw [if_pos (by simp [plainD, plainA_str, dep, depA_str])]
  simp [dq, dqA_str]
theorem vNe_strs (ls ms : List (List Nat)) : vEq true (.lst (ls.map .str)) (.lst (ms.map .str)) = some (.bl (!decide (ls = ms))) := by
  unfold vEq
  rw [if_pos (by simp [plainD, plainA_str, dep, depA_str])]
  simp [dq, dqA_str]
theorem subIn_iff {a b : List Nat} : subIn a b = true ↔ ∃ i, (b.drop i).take a.length = a := by
  unfold subIn
  rw [List.any_eq_true]
  constructor
  · rintro ⟨i, _, h⟩
    exact ⟨i, by simpa using h⟩
  · rintro ⟨i, h⟩
    by_cases hi : i < b.length + 1
    · exact ⟨i, List.mem_range.mpr hi, by simpa using h⟩
    · refine ⟨b.length, List.mem_range.mpr (by omega), ?_⟩
      rw [List.drop_of_length_le (by omega)] at h
      rw [List.drop_length]
      simpa using h
theorem subIn_one (c : Nat) (b : List Nat) : subIn [c] b = decide (c ∈ b) := by
  rw [Bool.eq_iff_iff, subIn_iff, decide_eq_true_eq]
  constructor
  · rintro ⟨i, h⟩
    have : c ∈ (b.drop i).take 1 := by
      have h' : (b.drop i).take 1 = [c] := h
      rw [h']
      exact List.mem_singleton_self c
    exact List.mem_of_mem_drop (List.mem_of_mem_take this)
  · intro h
    obtain ⟨i, hi, e⟩ := List.mem_iff_getElem.mp h
    refine ⟨i, ?_⟩
    rw [List.drop_eq_getElem_cons hi, e]
    rfl
theorem vIn_one (c : Nat) (b : List Nat) : vIn false (.str [c]) (.str b) = some (.bl (decide (c ∈ b))) := by
  simp [vIn, subIn_one]
theorem vNotin_one (c : Nat) (b : List Nat) : vIn true (.str [c]) (.str b) = some (.bl (!decide (c ∈ b))) := by
  simp [vIn, subIn_one]
theorem strsD_map (ls : List (List Nat)) : strsD (ls.map .str) = some ls := by
  induction ls with
  | nil => rfl
  | cons l ls ih => rw [List.map_cons]; unfold strsD; rw [ih]
theorem sJoin_map (a : List Nat) (ls : List (List Nat)) (h : (ls.map (·.length)).sum + ls.length * a.length ≤ 16777216) : sJoin a [.lst (ls.map .str)] = some (.str (joinN a ls)) := by
  simp only [sJoin, strsD_map, if_pos h]
theorem joinN_nil (ls : List (List Nat)) : joinN [] ls = ls.flatten := by
  induction ls with
  | nil => rfl
  | cons l ls ih =>
    cases ls with
    | nil => simp [joinN]
    | cons m ms => rw [joinN, ih]; simp
theorem flat_one (l : List Nat) : (l.map fun c => [c]).flatten = l := by
  induction l with
  | nil => rfl
  | cons c l ih => simp [ih]
theorem sum_one (l : List Nat) : ((l.map fun c => [c]).map (·.length)).sum = l.length := by
  induction l with
  | nil => rfl
  | cons c l ih =>
    simp only [List.map_cons, List.length_singleton, List.sum_cons, ih, List.length_cons, List.length_nil]
    omega
theorem sJoin_one (l : List Nat) (h : l.length ≤ 16777216) : sJoin [] [.lst (l.map fun c => .str [c])] = some (.str l) := by
  have e : (l.map fun c => Da.str [c]) = (l.map fun c => [c]).map .str := by simp
  rw [e, sJoin_map _ _ (by simp only [sum_one]; simpa using h), joinN_nil, flat_one]
/-- a comprehension that looks and does not touch -/
theorem compL_pure {α : Type} {vs : List Nat} {st : Da → Env → Option Env} {t : EM Bool} {e : EM Da} {ρw : Env} {g : α → Da} {b : α → Bool} {y : α → Da} : ∀ (xs : List α) (acc : List Da) (ρ : Env),
    wipeE ρ vs = ρw → (∀ x ∈ xs, ∃ ρd, st (g x) ρw = some ρd ∧ t ρd = .ok (b x) ρd ∧ (b x = true → e ρd = .ok (y x) ρd) ∧ wipeE ρd vs = ρw) → acc.length + xs.length ≤ 16777216 →
    compL vs st t e (xs.map g) acc ρ = .ok (acc ++ (xs.filter b).map y) ρw
  | [], acc, ρ, hw, _, _ => by simp [compL, hw]
  | x :: xs, acc, ρ, hw, h, hl => by
    obtain ⟨ρd, h1, h2, h3, h4⟩ := h x (List.mem_cons_self ..)
    rw [List.length_cons] at hl
    have hl2 : acc.length < 16777216 := by omega
    rw [List.map_cons]
    unfold compL
    cases hb : b x with
    | false =>
      rw [hb] at h2
      simp only [hw, h1, h2]
      rw [compL_pure xs acc ρd h4 (fun z hz => h z (List.mem_cons_of_mem _ hz)) (by omega), List.filter_cons, hb]
      simp
    | true =>
      rw [hb] at h2
      simp only [hw, h1, h2, h3 hb, if_pos hl2]
      rw [compL_pure xs (acc ++ [y x]) ρd h4 (fun z hz => h z (List.mem_cons_of_mem _ hz)) (by simp; omega), List.filter_cons, hb]
      simp
/-! runs at work -/
theorem rend_eq (r : List Nat) : rend r = if r.length < 3 then r else [r.headD 0, 45, r.getLastD 0] := by
  match r with
  | [] => rfl
  | [a] => rfl
  | [a, b] => rfl
  | a :: b :: c :: l => rw [if_neg (by simp only [List.length_cons]; omega)]; rfl
theorem rend_len (r : List Nat) : (rend r).length ≤ r.length := by
  rw [rend_eq]
  split
  · exact Nat.le_refl _
  · simp only [List.length_cons, List.length_nil]; omega
theorem atI_zero {α : Type} (x : α) (xs : List α) : atI (x :: xs) 0 = some x := by
  unfold atI
  rw [ixN_nat (by decide) (by simp only [List.length_cons]; omega)]
  rfl
theorem atI_last {α : Type} (xs : List α) (h : xs ≠ []) (d : α) : atI xs (-1) = some (xs.getLastD d) := by
  have hl : 0 < xs.length := List.length_pos_iff.mpr h
  unfold atI ixN
  rw [if_neg (by decide), if_pos (by omega)]
  have e : ((-1 : Int) + (xs.length : Int)).toNat = xs.length - 1 := by omega
  simp only [Option.bind_some, e]
  rw [← List.getLast?_eq_getElem?, List.getLast?_eq_some_getLast h, List.getLastD_eq_getLast?, List.getLast?_eq_some_getLast h]
  rfl
theorem signs_eq : f__law_signs [] = .ok (.str sg) := id rfl
abbrev mpE (m found run : List Nat) (x : Option Ce) : Env := [some (.imm (.str m)), some (.imm (.str found)), some (.imm (.str run)), x]
theorem mp_s1 {m found run : List Nat} {c : Nat} (hc : c ≠ 33) (h : c ∈ m) (hl : run.length + 1 ≤ 16777216) :
    p1__law_mark_plain (mpE m found run (some (.imm (.str [c])))) = .ok .nx (mpE m found (run ++ [c]) (some (.imm (.str [c])))) := by
  have h1 : ¬ [c] = [33] := by simpa using hc
  simp only [p1__law_mark_plain, mpE, fSeq, fAsg, fAsgN, fRet, fRetO, fExpr, fTo, fPar2, fPar3, fAug, fIf, fBin, fBinT, fTru, fAnd, fOr, fNot, fAndV, fOrV, fNotV, fNeg, fName, fPeek, fD, fN, fLst, fTup, fCons, fCall, fCallN, fDef, fFld, fInt, fSl, fIt, fItA, fStuck, fCv, fCn, fCd, stN, stCons, stNil, stTup, mB, mP, mO, look, lookA, asBl, asInt, vAdd, vSub, vMul, vFdiv, vMod, vCmp, vIs, isNon, vAugAdd, fApp, fExt, fMs, fMn, List.getElem?_cons_zero, List.getElem?_cons_succ, List.getElem?_nil, List.set_cons_zero, List.set_cons_succ, List.length_cons, List.length_nil, Option.bind_some, Option.map_some, if_true, if_false, reduceIte, List.nil_append, List.cons_append, List.append_nil, resOf, Nat.reduceAdd, Nat.reduceEqDiff, Nat.reduceLT, Nat.reduceLeDiff, Int.reduceLT, Int.reduceLE, Int.reduceNeg, and_self, true_and, and_true, decide_true, decide_false, Bool.false_eq_true, Bool.not_true, Bool.not_false, Int.reduceAbs, Int.natAbs_neg, or_true, true_or, vIx, vLen, vAbs, vSum, vMax, vMin, decide_eq_true_eq, Bool.not_eq_true, vNe_str, h1, vIn_one, h, hl]
theorem fIf_t {α : Type} {t : EM Bool} {a b : EM α} {ρ ρ' : Env} (h : t ρ = .ok true ρ') : fIf t a b ρ = a ρ' := by
  simp only [fIf, mB, h, if_true]
theorem fIf_f {α : Type} {t : EM Bool} {a b : EM α} {ρ ρ' : Env} (h : t ρ = .ok false ρ') : fIf t a b ρ = b ρ' := by
  simp only [fIf, mB, h, Bool.false_eq_true, if_false]
theorem fSeq_nx {f g : EM Fl} {ρ ρ' : Env} (h : f ρ = .ok .nx ρ') : fSeq f g ρ = g ρ' := by
  simp only [fSeq, h]
theorem fSeq_rt {f g : EM Fl} {ρ ρ' : Env} {d : Da} (h : f ρ = .ok (.rt d) ρ') : fSeq f g ρ = .ok (.rt d) ρ' := by
  simp only [fSeq, h]
theorem rend_long {r : List Nat} (h : ¬ r.length < 3) : rend r = [r.headD 0, 45, r.getLastD 0] := by rw [rend_eq, if_neg h]
theorem rend_short {r : List Nat} (h : r.length < 3) : rend r = r := by rw [rend_eq, if_pos h]
theorem mp_key {m found run : List Nat} {x : Option Ce} (hl : found.length + run.length ≤ 1000) : (fAug 1 vAugAdd (fIf (fBinT vLt (fD (fCall vLen (fCons (fPeek 2) (mP [])))) (fD (mP (.int 3)))) (fName 2) (fBin vAdd (fD (fBin vAdd (fD (fBin vIx (fPeek 2) (fD (mP (.int 0))))) (fD (mP (.str [45]))))) (fD (fBin vIx (fPeek 2) (fD (fNeg (mP (.int 1))))))))) (mpE m found run x)
      = .ok .nx (mpE m (found ++ rend run) run x) := by
  have hl1 : run.length ≤ 16777216 := by omega
  have hl2 : found.length + run.length ≤ 16777216 := by omega
  by_cases h3 : run.length < 3
  · have h3' : (run.length : Int) < 3 := by omega
    simp only [mpE, fSeq, fAsg, fAsgN, fRet, fRetO, fExpr, fTo, fPar2, fPar3, fAug, fIf, fBin, fBinT, fTru, fAnd, fOr, fNot, fAndV, fOrV, fNotV, fNeg, fName, fPeek, fD, fN, fLst, fTup, fCons, fCall, fCallN, fDef, fFld, fInt, fSl, fIt, fItA, fStuck, fCv, fCn, fCd, stN, stCons, stNil, stTup, mB, mP, mO, look, lookA, asBl, asInt, vAdd, vSub, vMul, vFdiv, vMod, vCmp, vIs, isNon, vAugAdd, fApp, fExt, fMs, fMn, List.getElem?_cons_zero, List.getElem?_cons_succ, List.getElem?_nil, List.set_cons_zero, List.set_cons_succ, List.length_cons, List.length_nil, Option.bind_some, Option.map_some, if_true, if_false, reduceIte, List.nil_append, List.cons_append, List.append_nil, resOf, Nat.reduceAdd, Nat.reduceEqDiff, Nat.reduceLT, Nat.reduceLeDiff, Int.reduceLT, Int.reduceLE, Int.reduceNeg, and_self, true_and, and_true, decide_true, decide_false, Bool.false_eq_true, Bool.not_true, Bool.not_false, Int.reduceAbs, Int.natAbs_neg, or_true, true_or, vIx, vLen, vAbs, vSum, vMax, vMin, decide_eq_true_eq, Bool.not_eq_true, hl1, hl2, h3', rend_short h3]
  · have h3' : ¬ (run.length : Int) < 3 := by omega
    have hne : run ≠ [] := by intro e; rw [e] at h3; exact h3 (by decide)
    have er := rend_long h3
    obtain ⟨a, r, rfl⟩ := List.exists_cons_of_ne_nil hne
    have e1 : atI (a :: r) 0 = some a := atI_zero a r
    have e2 := atI_last (a :: r) hne 0
    have hl4 : found.length + 3 ≤ 16777216 := by rw [List.length_cons] at h3 hl; omega
    rw [List.length_cons] at hl1 h3'
    rw [er]
    simp only [mpE, fSeq, fAsg, fAsgN, fRet, fRetO, fExpr, fTo, fPar2, fPar3, fAug, fIf, fBin, fBinT, fTru, fAnd, fOr, fNot, fAndV, fOrV, fNotV, fNeg, fName, fPeek, fD, fN, fLst, fTup, fCons, fCall, fCallN, fDef, fFld, fInt, fSl, fIt, fItA, fStuck, fCv, fCn, fCd, stN, stCons, stNil, stTup, mB, mP, mO, look, lookA, asBl, asInt, vAdd, vSub, vMul, vFdiv, vMod, vCmp, vIs, isNon, vAugAdd, fApp, fExt, fMs, fMn, List.getElem?_cons_zero, List.getElem?_cons_succ, List.getElem?_nil, List.set_cons_zero, List.set_cons_succ, List.length_cons, List.length_nil, Option.bind_some, Option.map_some, if_true, if_false, reduceIte, List.nil_append, List.cons_append, List.append_nil, resOf, Nat.reduceAdd, Nat.reduceEqDiff, Nat.reduceLT, Nat.reduceLeDiff, Int.reduceLT, Int.reduceLE, Int.reduceNeg, and_self, true_and, and_true, decide_true, decide_false, Bool.false_eq_true, Bool.not_true, Bool.not_false, Int.reduceAbs, Int.natAbs_neg, or_true, true_or, vIx, vLen, vAbs, vSum, vMax, vMin, decide_eq_true_eq, Bool.not_eq_true, hl1, h3', e1, e2, hl4, List.headD_cons, Nat.reduceLeDiff]
theorem mp_s2 {m found run : List Nat} {c : Nat} (h : c = 33 ∨ c ∉ m) (hl : found.length + run.length ≤ 1000) :
    p1__law_mark_plain (mpE m found run (some (.imm (.str [c])))) = .ok .nx (mpE m (found ++ rend run) [] (some (.imm (.str [c])))) := by
  unfold p1__law_mark_plain
  rw [fIf_f (ρ' := mpE m found run (some (.imm (.str [c])))) ?_, fSeq_nx (mp_key hl)]
  · simp only [mpE, fSeq, fAsg, fAsgN, fRet, fRetO, fExpr, fTo, fPar2, fPar3, fAug, fIf, fBin, fBinT, fTru, fAnd, fOr, fNot, fAndV, fOrV, fNotV, fNeg, fName, fPeek, fD, fN, fLst, fTup, fCons, fCall, fCallN, fDef, fFld, fInt, fSl, fIt, fItA, fStuck, fCv, fCn, fCd, stN, stCons, stNil, stTup, mB, mP, mO, look, lookA, asBl, asInt, vAdd, vSub, vMul, vFdiv, vMod, vCmp, vIs, isNon, vAugAdd, fApp, fExt, fMs, fMn, List.getElem?_cons_zero, List.getElem?_cons_succ, List.getElem?_nil, List.set_cons_zero, List.set_cons_succ, List.length_cons, List.length_nil, Option.bind_some, Option.map_some, if_true, if_false, reduceIte, List.nil_append, List.cons_append, List.append_nil, resOf, Nat.reduceAdd, Nat.reduceEqDiff, Nat.reduceLT, Nat.reduceLeDiff, Int.reduceLT, Int.reduceLE, Int.reduceNeg, and_self, true_and, and_true, decide_true, decide_false, Bool.false_eq_true, Bool.not_true, Bool.not_false, Int.reduceAbs, Int.natAbs_neg, or_true, true_or, vIx, vLen, vAbs, vSum, vMax, vMin, decide_eq_true_eq, Bool.not_eq_true]
  · by_cases h1 : c = 33
    · have h1' : [c] = [33] := by rw [h1]
      simp only [mpE, fSeq, fAsg, fAsgN, fRet, fRetO, fExpr, fTo, fPar2, fPar3, fAug, fIf, fBin, fBinT, fTru, fAnd, fOr, fNot, fAndV, fOrV, fNotV, fNeg, fName, fPeek, fD, fN, fLst, fTup, fCons, fCall, fCallN, fDef, fFld, fInt, fSl, fIt, fItA, fStuck, fCv, fCn, fCd, stN, stCons, stNil, stTup, mB, mP, mO, look, lookA, asBl, asInt, vAdd, vSub, vMul, vFdiv, vMod, vCmp, vIs, isNon, vAugAdd, fApp, fExt, fMs, fMn, List.getElem?_cons_zero, List.getElem?_cons_succ, List.getElem?_nil, List.set_cons_zero, List.set_cons_succ, List.length_cons, List.length_nil, Option.bind_some, Option.map_some, if_true, if_false, reduceIte, List.nil_append, List.cons_append, List.append_nil, resOf, Nat.reduceAdd, Nat.reduceEqDiff, Nat.reduceLT, Nat.reduceLeDiff, Int.reduceLT, Int.reduceLE, Int.reduceNeg, and_self, true_and, and_true, decide_true, decide_false, Bool.false_eq_true, Bool.not_true, Bool.not_false, Int.reduceAbs, Int.natAbs_neg, or_true, true_or, vIx, vLen, vAbs, vSum, vMax, vMin, decide_eq_true_eq, Bool.not_eq_true, vNe_str, h1']
    · have h1' : ¬ [c] = [33] := by simpa using h1
      have h2 : c ∉ m := h.resolve_left h1
      simp only [mpE, fSeq, fAsg, fAsgN, fRet, fRetO, fExpr, fTo, fPar2, fPar3, fAug, fIf, fBin, fBinT, fTru, fAnd, fOr, fNot, fAndV, fOrV, fNotV, fNeg, fName, fPeek, fD, fN, fLst, fTup, fCons, fCall, fCallN, fDef, fFld, fInt, fSl, fIt, fItA, fStuck, fCv, fCn, fCd, stN, stCons, stNil, stTup, mB, mP, mO, look, lookA, asBl, asInt, vAdd, vSub, vMul, vFdiv, vMod, vCmp, vIs, isNon, vAugAdd, fApp, fExt, fMs, fMn, List.getElem?_cons_zero, List.getElem?_cons_succ, List.getElem?_nil, List.set_cons_zero, List.set_cons_succ, List.length_cons, List.length_nil, Option.bind_some, Option.map_some, if_true, if_false, reduceIte, List.nil_append, List.cons_append, List.append_nil, resOf, Nat.reduceAdd, Nat.reduceEqDiff, Nat.reduceLT, Nat.reduceLeDiff, Int.reduceLT, Int.reduceLE, Int.reduceNeg, and_self, true_and, and_true, decide_true, decide_false, Bool.false_eq_true, Bool.not_true, Bool.not_false, Int.reduceAbs, Int.natAbs_neg, or_true, true_or, vIx, vLen, vAbs, vSum, vMax, vMin, decide_eq_true_eq, Bool.not_eq_true, vNe_str, vIn_one, h2, h1']
theorem getLastD_append (a : List Nat) (x d : Nat) : (a ++ [x]).getLastD d = x := by
  rw [List.getLastD_eq_getLast?, List.getLast?_append]
  rfl
/-- the walk of the signs -/
theorem mp_loop (m : List Nat) : ∀ (ss found run : List Nat) (x : Option Ce), Chn (run ++ ss) → Clm (run ++ ss) → (∀ c ∈ run ++ ss, c ∈ sg) → found.length + run.length + ss.length ≤ 1000 →
    ∃ x', forL (stN 3) p1__law_mark_plain ((ss ++ [33]).map fun c => .str [c]) (mpE m found run x) = .ok .nx (mpE m (found ++ (runs (run ++ ss.filter (· ∈ m))).flatMap rend) [] x') := by
  intro ss
  induction ss with
  | nil =>
    intro found run x h1 h2 h3 hl
    rw [List.append_nil] at h1
    refine ⟨some (.imm (.str [33])), ?_⟩
    simp only [List.nil_append, List.map_cons, List.map_nil, List.filter_nil, List.append_nil]
    rw [forL_cons (ρ1 := mpE m found run (some (.imm (.str [33])))) rfl (mp_s2 (.inl rfl) (by simp at hl; omega))]
    cases run with
    | nil => simp only [forL, mP, runs, rend, List.flatMap_nil, List.append_nil]
    | cons a r =>
      have e := runs_chn r a [] h1 (by intro y hy; cases hy)
      rw [List.append_nil] at e
      rw [e]
      simp only [forL, mP, runs, List.flatMap_cons, List.flatMap_nil, List.append_nil]
  | cons s ss ih =>
    intro found run x h1 h2 h3 hl
    rw [List.length_cons] at hl
    have hs : s ∈ sg := h3 s (by simp)
    have hs33 : s ≠ 33 := by
      intro e
      rw [e, sg_mem] at hs
      omega
    by_cases hm : s ∈ m
    · obtain ⟨x', e⟩ := ih found (run ++ [s]) (some (.imm (.str [s]))) (by rw [List.append_assoc]; exact h1) (by rw [List.append_assoc]; exact h2) (by rw [List.append_assoc]; exact h3) (by simp; omega)
      refine ⟨x', ?_⟩
      rw [List.cons_append, List.map_cons, forL_cons (ρ1 := mpE m found run (some (.imm (.str [s])))) rfl (mp_s1 hs33 hm (by omega)), e, List.filter_cons, if_pos (by simpa using hm), List.append_assoc]
      rfl
    · obtain ⟨x', e⟩ := ih (found ++ rend run) [] (some (.imm (.str [s]))) h1.right.tail (clm_right h2).tail (fun c hc => h3 c (by simp at hc ⊢; exact .inr (.inr hc))) (by have := rend_len run; simp; omega)
      refine ⟨x', ?_⟩
      rw [List.cons_append, List.map_cons, forL_cons (ρ1 := mpE m found run (some (.imm (.str [s])))) rfl (mp_s2 (.inr hm) (by omega)), e, List.filter_cons, if_neg (by simpa using hm), List.nil_append]
      have key : rend run ++ (runs (ss.filter (· ∈ m))).flatMap rend = (runs (run ++ ss.filter (· ∈ m))).flatMap rend := by
       cases run with
       | nil => simp [rend]
       | cons a r =>
        rw [runs_chn r a _ h1.left ?_, List.flatMap_cons]
        intro y hy
        have hy' : y ∈ ss := (List.mem_filter.mp (List.mem_of_mem_head? hy)).1
        have hlt := (clm_right h2).lt y hy'
        have h4 : s = nx ((a :: r).getLastD 0) := by
          obtain ⟨q, z, e⟩ : ∃ q z, a :: r = q ++ [z] := ⟨(a :: r).dropLast, (a :: r).getLast (by simp), (List.dropLast_concat_getLast (by simp)).symm⟩
          rw [e] at h1 ⊢
          rw [getLastD_append]
          rw [List.append_assoc] at h1
          exact h1.right.1
        rw [← h4]
        intro e5
        rw [e5] at hlt
        omega
      rw [List.append_assoc, key]
theorem IsM.sub {m : List Nat} (h : IsM m) (hs : m ≠ [42]) : Clm m ∧ (∀ c ∈ m, c ∈ sg) ∧ sg.filter (· ∈ m) = m ∧ m.length ≤ 27 := by
  rcases h with h | ⟨p, rfl⟩
  · exact absurd h hs
  · refine ⟨clm_filter p clm_sg, fun c hc => (List.mem_filter.mp hc).1, List.filter_congr fun c hc => ?_, List.length_filter_le p sg⟩
    rw [Bool.eq_iff_iff, decide_eq_true_eq, List.mem_filter]
    exact ⟨fun h => h.2, fun h => ⟨hc, h⟩⟩
theorem runs_len : ∀ m : List Nat, ((runs m).flatMap rend).length ≤ m.length
  | [] => Nat.le_refl _
  | x :: xs => by
    have h := runs_len xs
    rw [runs_cons]
    split
    · simp [rend]
    · rename_i r rs e
      rw [e, List.flatMap_cons, List.length_append] at h
      split
      · rename_i hh
        have hr := rend_len (x :: r)
        have : (rend (x :: r)).length ≤ (rend r).length + 1 := by
          by_cases h1 : r.length < 2
          · rw [rend_short (by simp only [List.length_cons]; omega), rend_short (by omega)]
            exact Nat.le_refl _
          · rw [rend_long (by simp only [List.length_cons]; omega)]
            by_cases h2 : r.length < 3
            · rw [rend_short h2]
              simp only [List.length_cons, List.length_nil]
              omega
            · rw [rend_long h2]
              simp
        rw [List.flatMap_cons, List.length_append, List.length_cons]
        omega
      · rw [List.flatMap_cons, List.flatMap_cons, List.length_append, List.length_append]
        have e1 : (rend [x]).length = 1 := rfl
        rw [e1, List.length_cons]
        omega
theorem plainM_len (m : List Nat) : (plainM m).length ≤ m.length + 6 := by
  have := runs_len m
  unfold plainM
  split
  · omega
  · split
    · simp
    · split
      · simp
      · simp only [List.length_append, List.length_cons, List.length_nil]
        omega
theorem mark_plain_eq {m : List Nat} (h : IsM m) : f__law_mark_plain [.str m] = .ok (.str (plainM m)) := by
  by_cases h1 : m = [42]
  · subst h1
    rfl
  · obtain ⟨hc, hs, hf, hl⟩ := h.sub h1
    have hl' : m.length ≤ 16777216 := by omega
    unfold plainM
    by_cases h2 : m.length = 1
    · have h2' : (m.length : Int) = 1 := by omega
      simp only [f__law_mark_plain, fnRun, b__law_mark_plain, envOf, List.map_cons, List.map_nil, List.replicate, Nat.reduceSub, fSeq, fAsg, fAsgN, fRet, fRetO, fExpr, fTo, fPar2, fPar3, fAug, fIf, fBin, fBinT, fTru, fAnd, fOr, fNot, fAndV, fOrV, fNotV, fNeg, fName, fPeek, fD, fN, fLst, fTup, fCons, fCall, fCallN, fDef, fFld, fInt, fSl, fIt, fItA, fStuck, fCv, fCn, fCd, stN, stCons, stNil, stTup, mB, mP, mO, look, lookA, asBl, asInt, vAdd, vSub, vMul, vFdiv, vMod, vCmp, vIs, isNon, vAugAdd, fApp, fExt, fMs, fMn, List.getElem?_cons_zero, List.getElem?_cons_succ, List.getElem?_nil, List.set_cons_zero, List.set_cons_succ, List.length_cons, List.length_nil, Option.bind_some, Option.map_some, if_true, if_false, reduceIte, List.nil_append, List.cons_append, List.append_nil, resOf, Nat.reduceAdd, Nat.reduceEqDiff, Nat.reduceLT, Nat.reduceLeDiff, Int.reduceLT, Int.reduceLE, Int.reduceNeg, and_self, true_and, and_true, decide_true, decide_false, Bool.false_eq_true, Bool.not_true, Bool.not_false, Int.reduceAbs, Int.natAbs_neg, or_true, true_or, vIx, vLen, vAbs, vSum, vMax, vMin, decide_eq_true_eq, Bool.not_eq_true, vEq_str, vEq_int, h1, h2, hl', h2', or_true, Int.cast_ofNat_Int]
    · have h2' : ¬ (m.length : Int) = 1 := by omega
      by_cases h3 : m = sg
      · subst h3
        rfl
      · by_cases h4 : m = []
        · subst h4
          rfl
        · obtain ⟨x', e⟩ := mp_loop m sg [] [] none chn_sub clm_sg (fun c hc => hc) (by simp [sg_len])
          have hr := runs_len m
          rw [List.nil_append, List.nil_append, hf] at e
          have ha : sg.length + 1 ≤ 16777216 := by rw [sg_len]; decide
          have hb : 1 + ((runs m).flatMap rend).length ≤ 16777216 := by omega
          have hb2 : ((runs m).flatMap rend).length + 1 + 1 ≤ 16777216 := by omega
          simp only [mpE] at e
          simp only [f__law_mark_plain, fnRun, b__law_mark_plain, envOf, List.map_cons, List.map_nil, List.replicate, Nat.reduceSub, fSeq, fAsg, fAsgN, fRet, fRetO, fExpr, fTo, fPar2, fPar3, fAug, fIf, fBin, fBinT, fTru, fAnd, fOr, fNot, fAndV, fOrV, fNotV, fNeg, fName, fPeek, fD, fN, fLst, fTup, fCons, fCall, fCallN, fDef, fFld, fInt, fSl, fIt, fItA, fStuck, fCv, fCn, fCd, stN, stCons, stNil, stTup, mB, mP, mO, look, lookA, asBl, asInt, vAdd, vSub, vMul, vFdiv, vMod, vCmp, vIs, isNon, vAugAdd, fApp, fExt, fMs, fMn, List.getElem?_cons_zero, List.getElem?_cons_succ, List.getElem?_nil, List.set_cons_zero, List.set_cons_succ, List.length_cons, List.length_nil, Option.bind_some, Option.map_some, if_true, if_false, reduceIte, List.nil_append, List.cons_append, List.append_nil, resOf, Nat.reduceAdd, Nat.reduceEqDiff, Nat.reduceLT, Nat.reduceLeDiff, Int.reduceLT, Int.reduceLE, Int.reduceNeg, and_self, true_and, and_true, decide_true, decide_false, Bool.false_eq_true, Bool.not_true, Bool.not_false, Int.reduceAbs, Int.natAbs_neg, or_true, true_or, vIx, vLen, vAbs, vSum, vMax, vMin, decide_eq_true_eq, Bool.not_eq_true, vEq_str, vEq_int, h1, h2, h3, h4, hl', h2', or_false, signs_eq, fFor, itemsS, ha, e, hb, hb2]
end Kb
namespace Kb
open Vl
open L2 (ixN atI)
theorem compL_all {α : Type} {vs : List Nat} {st : Da → Env → Option Env} {e : EM Da} {ρw : Env} {g : α → Da} {y : α → Da} (xs : List α) (ρ : Env)
    (hw : wipeE ρ vs = ρw) (h : ∀ x ∈ xs, ∃ ρd, st (g x) ρw = some ρd ∧ e ρd = .ok (y x) ρd ∧ wipeE ρd vs = ρw) (hl : xs.length ≤ 16777216) :
    compL vs st (mP true) e (xs.map g) [] ρ = .ok (xs.map y) ρw := by
  have := compL_pure (t := mP true) (b := fun _ => true) xs [] ρ hw (fun x hx => by
    obtain ⟨ρd, h1, h2, h3⟩ := h x hx
    exact ⟨ρd, h1, rfl, fun _ => h2, h3⟩) (by simpa using hl)
  rw [this, List.nil_append, List.filter_eq_self.mpr (fun _ _ => rfl)]
def poolP (ns : List Int) (a : Int) : List Nat := (digP ns a 4 27).map fun d => sg[d.toNat]?.getD 0
theorem digP_len (ns : List Int) (a n b : Int) : (digP ns a n b).length = n.toNat := digGo_len _ _ _ _ _
theorem digP_in (ns : List Int) (a n : Int) {b : Int} (hb : 0 < b) : ∀ d ∈ digP ns a n b, 0 ≤ d ∧ d < b := digGo_in _ hb _ _ _
theorem poolP_len (ns : List Int) (a : Int) : (poolP ns a).length = 4 := by
  unfold poolP
  rw [List.length_map, digP_len]
  rfl
theorem poolP_sg (ns : List Int) (a : Int) : ∀ c ∈ poolP ns a, c ∈ sg := by
  intro c hc
  obtain ⟨d, hd, rfl⟩ := List.mem_map.mp hc
  have h := digP_in ns a 4 (b := 27) (by decide) d hd
  have hl : d.toNat < sg.length := by rw [sg_len]; omega
  rw [List.getElem?_eq_getElem hl]
  exact List.getElem_mem hl
theorem sg_atI {d : Int} (h0 : 0 ≤ d) (h : d < 27) : atI sg d = some (sg[d.toNat]?.getD 0) := by
  have hl : d.toNat < sg.length := by rw [sg_len]; omega
  rw [atI_eq h0 hl, List.getElem?_eq_getElem hl]
  rfl
theorem pool_eq (ns : List Int) (a : Int) (ha : 0 ≤ a) : f__law_pool [.lst (ns.map .int), .int a] = .ok (.str (poolP ns a)) := by
  have ed := digs_eq ns a 4 27 ha (by decide) (by decide) (by decide) (by decide)
  have ec := compL_all (vs := [2]) (st := stN 2) (e := p1__law_pool) (g := Da.int) (y := fun d => .str [sg[d.toNat]?.getD 0]) (digP ns a 4 27)
    [some (.imm (.lst (ns.map .int))), some (.imm (.int a)), none] (ρw := [some (.imm (.lst (ns.map .int))), some (.imm (.int a)), none]) rfl (fun d hd => by
      have h := digP_in ns a 4 (b := 27) (by decide) d hd
      have hl : sg.length ≤ 16777216 := by decide
      refine ⟨_, rfl, ?_, rfl⟩
      simp only [p1__law_pool, fSeq, fAsg, fAsgN, fRet, fRetO, fExpr, fTo, fPar2, fPar3, fAug, fIf, fBin, fBinT, fTru, fAnd, fOr, fNot, fAndV, fOrV, fNotV, fNeg, fName, fPeek, fD, fN, fLst, fTup, fCons, fCall, fCallN, fDef, fFld, fInt, fSl, fIt, fItA, fStuck, fCv, fCn, fCd, stN, stCons, stNil, stTup, mB, mP, mO, look, lookA, asBl, asInt, vAdd, vSub, vMul, vFdiv, vMod, vCmp, vIs, isNon, vAugAdd, fApp, fExt, fMs, fMn, List.getElem?_cons_zero, List.getElem?_cons_succ, List.getElem?_nil, List.set_cons_zero, List.set_cons_succ, List.length_cons, List.length_nil, Option.bind_some, Option.map_some, if_true, if_false, reduceIte, List.nil_append, List.cons_append, List.append_nil, resOf, Nat.reduceAdd, Nat.reduceEqDiff, Nat.reduceLT, Nat.reduceLeDiff, Int.reduceLT, Int.reduceLE, Int.reduceNeg, and_self, true_and, and_true, decide_true, decide_false, Bool.false_eq_true, Bool.not_true, Bool.not_false, Int.reduceAbs, Int.natAbs_neg, or_true, true_or, vIx, vLen, vAbs, vSum, vMax, vMin, decide_eq_true_eq, Bool.not_eq_true, signs_eq, hl, sg_atI h.1 h.2]) (by rw [digP_len]; decide)
  have ej := sJoin_one (poolP ns a) (by rw [poolP_len]; decide)
  unfold poolP at ej ⊢
  rw [List.map_map] at ej
  simp only [Function.comp_def] at ej
  simp only [f__law_pool, fnRun, b__law_pool, envOf, List.map_cons, List.map_nil, List.replicate, Nat.reduceSub, fSeq, fAsg, fAsgN, fRet, fRetO, fExpr, fTo, fPar2, fPar3, fAug, fIf, fBin, fBinT, fTru, fAnd, fOr, fNot, fAndV, fOrV, fNotV, fNeg, fName, fPeek, fD, fN, fLst, fTup, fCons, fCall, fCallN, fDef, fFld, fInt, fSl, fIt, fItA, fStuck, fCv, fCn, fCd, stN, stCons, stNil, stTup, mB, mP, mO, look, lookA, asBl, asInt, vAdd, vSub, vMul, vFdiv, vMod, vCmp, vIs, isNon, vAugAdd, fApp, fExt, fMs, fMn, List.getElem?_cons_zero, List.getElem?_cons_succ, List.getElem?_nil, List.set_cons_zero, List.set_cons_succ, List.length_cons, List.length_nil, Option.bind_some, Option.map_some, if_true, if_false, reduceIte, List.nil_append, List.cons_append, List.append_nil, resOf, Nat.reduceAdd, Nat.reduceEqDiff, Nat.reduceLT, Nat.reduceLeDiff, Int.reduceLT, Int.reduceLE, Int.reduceNeg, and_self, true_and, and_true, decide_true, decide_false, Bool.false_eq_true, Bool.not_true, Bool.not_false, Int.reduceAbs, Int.natAbs_neg, or_true, true_or, vIx, vLen, vAbs, vSum, vMax, vMin, decide_eq_true_eq, Bool.not_eq_true, fComp, itemsL, ed, ec, ej]
theorem one_all : ∀ c ∈ sg, sg.filter (· == c) = [c] := by decide
theorem IsM_one {c : Nat} (h : c ∈ sg) : IsM [c] := .inr ⟨(· == c), (one_all c h).symm⟩
theorem IsM_sg : IsM sg := .inr ⟨fun _ => true, (List.filter_eq_self.mpr fun _ _ => rfl).symm⟩
theorem IsM_nil : IsM [] := .inr ⟨fun _ => false, (List.filter_eq_nil_iff.mpr fun _ _ => by simp).symm⟩
theorem star_sg : (42 : Nat) ∉ sg := by decide
theorem IsM_ne {m : List Nat} (h : ∀ c ∈ m, c ∈ sg) : m ≠ [42] := by
  intro e
  subst e
  exact star_sg (h 42 (by simp))
theorem pool_at {pool : List Nat} (hl : pool.length = 4) (hs : ∀ c ∈ pool, c ∈ sg) (n : Int) : ∃ c, atI pool (n % 4) = some c ∧ c ∈ sg := by
  have h0 : 0 ≤ n % 4 := Int.emod_nonneg _ (by decide)
  have h1 : n % 4 < 4 := Int.emod_lt_of_pos _ (by decide)
  obtain ⟨c, e, hc⟩ := atI_ok (xs := pool) h0 (by omega)
  exact ⟨c, e, hs c hc⟩
theorem mark_ok (n : Int) {pool : List Nat} (hl : pool.length = 4) (hs : ∀ c ∈ pool, c ∈ sg) (st : Bool) : ∃ m, f__law_mark [.int n, .str pool, .bl st] = .ok (.str m) ∧ IsM m ∧ (st = true → m ≠ [42]) := by
  have h0 : 0 ≤ n % 6 := Int.emod_nonneg _ (by decide)
  have h1 : n % 6 < 6 := Int.emod_lt_of_pos _ (by decide)
  have hp : pool.length ≤ 16777216 := by omega
  obtain ⟨c1, e1, m1⟩ := pool_at hl hs (n / 6)
  obtain ⟨c2, e2, m2⟩ := pool_at hl hs (n / 6 / 4)
  obtain ⟨c3, e3, m3⟩ := pool_at hl hs (n / 6 / 16)
  have one : ∀ c ∈ sg, IsM [c] ∧ (st = true → [c] ≠ [42]) := fun c h => ⟨IsM_one h, fun _ => IsM_ne fun d hd => by rw [List.mem_singleton.mp hd]; exact h⟩
  have hk : n % 6 = 0 ∨ n % 6 = 1 ∨ n % 6 = 2 ∨ n % 6 = 3 ∨ n % 6 = 4 ∨ n % 6 = 5 := by omega
  have start : f__law_mark [.int n, .str pool, .bl st] = resOf (b__law_mark [some (.imm (.int n)), some (.imm (.str pool)), some (.imm (.bl st)), none, none, none, none, none]) := rfl
  rw [start]
  have more : ∀ due : Bool, (n % 6 = 2 ∨ n % 6 = 3) → decide (n % 6 = 2) = due → ∃ m, resOf (b__law_mark [some (.imm (.int n)), some (.imm (.str pool)), some (.imm (.bl st)), none, none, none, none, none]) = .ok (.str m) ∧ IsM m ∧ (st = true → m ≠ [42]) := by
    intro due hd hdd
    have a0 : ¬ n % 6 = 0 := by omega
    have a1 : ¬ n % 6 = 1 := by omega
    have a3 : ¬ 3 < n % 6 := by omega
    by_cases h9 : n / 6 % 9 = 4
    · exact ⟨[], by simp only [b__law_mark, fSeq, fAsg, fAsgN, fRet, fRetO, fExpr, fTo, fPar2, fPar3, fAug, fIf, fBin, fBinT, fTru, fAnd, fOr, fNot, fAndV, fOrV, fNotV, fNeg, fName, fPeek, fD, fN, fLst, fTup, fCons, fCall, fCallN, fDef, fFld, fInt, fSl, fIt, fItA, fStuck, fCv, fCn, fCd, stN, stCons, stNil, stTup, mB, mP, mO, look, lookA, asBl, asInt, vAdd, vSub, vMul, vFdiv, vMod, vCmp, vIs, isNon, vAugAdd, fApp, fExt, fMs, fMn, List.getElem?_cons_zero, List.getElem?_cons_succ, List.getElem?_nil, List.set_cons_zero, List.set_cons_succ, List.length_cons, List.length_nil, Option.bind_some, Option.map_some, if_true, if_false, reduceIte, List.nil_append, List.cons_append, List.append_nil, resOf, Nat.reduceAdd, Nat.reduceEqDiff, Nat.reduceLT, Nat.reduceLeDiff, Int.reduceLT, Int.reduceLE, Int.reduceNeg, and_self, true_and, and_true, decide_true, decide_false, Bool.false_eq_true, Bool.not_true, Bool.not_false, Int.reduceAbs, Int.natAbs_neg, or_true, true_or, vIx, vLen, vAbs, vSum, vMax, vMin, decide_eq_true_eq, Bool.not_eq_true, vEq_int, a0, a1, a3, h9, vTru], IsM_nil, by simp⟩
    · have ec := compL_pure (vs := [7]) (st := stN 7) (t := p1__law_mark) (e := p2__law_mark) (g := fun c : Nat => Da.str [c]) (b := fun c => decide (c ∈ [c1, c2, c3]) == due) (y := fun c => Da.str [c]) sg []
        [some (.imm (.int n)), some (.imm (.str pool)), some (.imm (.bl st)), some (.imm (.int (n % 6))), some (.imm (.int (n / 6))), some (.imm (.str [c1, c2, c3])), some (.imm (.bl due)), none]
        (ρw := [some (.imm (.int n)), some (.imm (.str pool)), some (.imm (.bl st)), some (.imm (.int (n % 6))), some (.imm (.int (n / 6))), some (.imm (.str [c1, c2, c3])), some (.imm (.bl due)), none]) rfl (fun c _ => by
          refine ⟨_, rfl, ?_, fun _ => ?_, rfl⟩
          · simp only [p1__law_mark, fSeq, fAsg, fAsgN, fRet, fRetO, fExpr, fTo, fPar2, fPar3, fAug, fIf, fBin, fBinT, fTru, fAnd, fOr, fNot, fAndV, fOrV, fNotV, fNeg, fName, fPeek, fD, fN, fLst, fTup, fCons, fCall, fCallN, fDef, fFld, fInt, fSl, fIt, fItA, fStuck, fCv, fCn, fCd, stN, stCons, stNil, stTup, mB, mP, mO, look, lookA, asBl, asInt, vAdd, vSub, vMul, vFdiv, vMod, vCmp, vIs, isNon, vAugAdd, fApp, fExt, fMs, fMn, List.getElem?_cons_zero, List.getElem?_cons_succ, List.getElem?_nil, List.set_cons_zero, List.set_cons_succ, List.length_cons, List.length_nil, Option.bind_some, Option.map_some, if_true, if_false, reduceIte, List.nil_append, List.cons_append, List.append_nil, resOf, Nat.reduceAdd, Nat.reduceEqDiff, Nat.reduceLT, Nat.reduceLeDiff, Int.reduceLT, Int.reduceLE, Int.reduceNeg, and_self, true_and, and_true, decide_true, decide_false, Bool.false_eq_true, Bool.not_true, Bool.not_false, Int.reduceAbs, Int.natAbs_neg, or_true, true_or, vIx, vLen, vAbs, vSum, vMax, vMin, decide_eq_true_eq, Bool.not_eq_true, vIn_one, vEq_bl]
            cases decide (c ∈ [c1, c2, c3]) <;> cases due <;> rfl
          · simp only [p2__law_mark, fSeq, fAsg, fAsgN, fRet, fRetO, fExpr, fTo, fPar2, fPar3, fAug, fIf, fBin, fBinT, fTru, fAnd, fOr, fNot, fAndV, fOrV, fNotV, fNeg, fName, fPeek, fD, fN, fLst, fTup, fCons, fCall, fCallN, fDef, fFld, fInt, fSl, fIt, fItA, fStuck, fCv, fCn, fCd, stN, stCons, stNil, stTup, mB, mP, mO, look, lookA, asBl, asInt, vAdd, vSub, vMul, vFdiv, vMod, vCmp, vIs, isNon, vAugAdd, fApp, fExt, fMs, fMn, List.getElem?_cons_zero, List.getElem?_cons_succ, List.getElem?_nil, List.set_cons_zero, List.set_cons_succ, List.length_cons, List.length_nil, Option.bind_some, Option.map_some, if_true, if_false, reduceIte, List.nil_append, List.cons_append, List.append_nil, resOf, Nat.reduceAdd, Nat.reduceEqDiff, Nat.reduceLT, Nat.reduceLeDiff, Int.reduceLT, Int.reduceLE, Int.reduceNeg, and_self, true_and, and_true, decide_true, decide_false, Bool.false_eq_true, Bool.not_true, Bool.not_false, Int.reduceAbs, Int.natAbs_neg, or_true, true_or, vIx, vLen, vAbs, vSum, vMax, vMin, decide_eq_true_eq, Bool.not_eq_true]) (by decide)
      have hlen : (sg.filter (fun c => decide (c ∈ [c1, c2, c3]) == due)).length ≤ 16777216 := Nat.le_trans (List.length_filter_le _ _) (by decide)
      have ej := sJoin_one _ hlen
      rw [List.nil_append] at ec
      have hsl : sg.length ≤ 16777216 := by decide
      have im : IsM (sg.filter (fun c => decide (c ∈ [c1, c2, c3]) == due)) := .inr ⟨fun c => decide (c ∈ [c1, c2, c3]) == due, rfl⟩
      have ne : sg.filter (fun c => decide (c ∈ [c1, c2, c3]) == due) ≠ [42] := IsM_ne fun c hc => (List.mem_filter.mp hc).1
      generalize sg.filter (fun c => decide (c ∈ [c1, c2, c3]) == due) = m at ec ej im ne
      refine ⟨m, ?_, im, fun _ => ne⟩
      have z1 : [c1].length + [c2].length ≤ 16777216 := by simp
      have z2 : ([c1] ++ [c2]).length + [c3].length ≤ 16777216 := by simp
      unfold b__law_mark
      rw [fSeq_nx (ρ' := [some (.imm (.int n)), some (.imm (.str pool)), some (.imm (.bl st)), some (.imm (.int (n % 6))), some (.imm (.int (n / 6))), none, none, none]) (by simp only [fSeq, fAsg, fAsgN, fRet, fRetO, fExpr, fTo, fPar2, fPar3, fAug, fIf, fBin, fBinT, fTru, fAnd, fOr, fNot, fAndV, fOrV, fNotV, fNeg, fName, fPeek, fD, fN, fLst, fTup, fCons, fCall, fCallN, fDef, fFld, fInt, fSl, fIt, fItA, fStuck, fCv, fCn, fCd, stN, stCons, stNil, stTup, mB, mP, mO, look, lookA, asBl, asInt, vAdd, vSub, vMul, vFdiv, vMod, vCmp, vIs, isNon, vAugAdd, fApp, fExt, fMs, fMn, List.getElem?_cons_zero, List.getElem?_cons_succ, List.getElem?_nil, List.set_cons_zero, List.set_cons_succ, List.length_cons, List.length_nil, Option.bind_some, Option.map_some, if_true, if_false, reduceIte, List.nil_append, List.cons_append, List.append_nil, resOf, Nat.reduceAdd, Nat.reduceEqDiff, Nat.reduceLT, Nat.reduceLeDiff, Int.reduceLT, Int.reduceLE, Int.reduceNeg, and_self, true_and, and_true, decide_true, decide_false, Bool.false_eq_true, Bool.not_true, Bool.not_false, Int.reduceAbs, Int.natAbs_neg, or_true, true_or, vIx, vLen, vAbs, vSum, vMax, vMin, decide_eq_true_eq, Bool.not_eq_true]),
        fSeq_nx (ρ' := [some (.imm (.int n)), some (.imm (.str pool)), some (.imm (.bl st)), some (.imm (.int (n % 6))), some (.imm (.int (n / 6))), none, none, none]) (by simp only [fSeq, fAsg, fAsgN, fRet, fRetO, fExpr, fTo, fPar2, fPar3, fAug, fIf, fBin, fBinT, fTru, fAnd, fOr, fNot, fAndV, fOrV, fNotV, fNeg, fName, fPeek, fD, fN, fLst, fTup, fCons, fCall, fCallN, fDef, fFld, fInt, fSl, fIt, fItA, fStuck, fCv, fCn, fCd, stN, stCons, stNil, stTup, mB, mP, mO, look, lookA, asBl, asInt, vAdd, vSub, vMul, vFdiv, vMod, vCmp, vIs, isNon, vAugAdd, fApp, fExt, fMs, fMn, List.getElem?_cons_zero, List.getElem?_cons_succ, List.getElem?_nil, List.set_cons_zero, List.set_cons_succ, List.length_cons, List.length_nil, Option.bind_some, Option.map_some, if_true, if_false, reduceIte, List.nil_append, List.cons_append, List.append_nil, resOf, Nat.reduceAdd, Nat.reduceEqDiff, Nat.reduceLT, Nat.reduceLeDiff, Int.reduceLT, Int.reduceLE, Int.reduceNeg, and_self, true_and, and_true, decide_true, decide_false, Bool.false_eq_true, Bool.not_true, Bool.not_false, Int.reduceAbs, Int.natAbs_neg, or_true, true_or, vIx, vLen, vAbs, vSum, vMax, vMin, decide_eq_true_eq, Bool.not_eq_true, vEq_int, a0]),
        fSeq_nx (ρ' := [some (.imm (.int n)), some (.imm (.str pool)), some (.imm (.bl st)), some (.imm (.int (n % 6))), some (.imm (.int (n / 6))), none, none, none]) (by simp only [fSeq, fAsg, fAsgN, fRet, fRetO, fExpr, fTo, fPar2, fPar3, fAug, fIf, fBin, fBinT, fTru, fAnd, fOr, fNot, fAndV, fOrV, fNotV, fNeg, fName, fPeek, fD, fN, fLst, fTup, fCons, fCall, fCallN, fDef, fFld, fInt, fSl, fIt, fItA, fStuck, fCv, fCn, fCd, stN, stCons, stNil, stTup, mB, mP, mO, look, lookA, asBl, asInt, vAdd, vSub, vMul, vFdiv, vMod, vCmp, vIs, isNon, vAugAdd, fApp, fExt, fMs, fMn, List.getElem?_cons_zero, List.getElem?_cons_succ, List.getElem?_nil, List.set_cons_zero, List.set_cons_succ, List.length_cons, List.length_nil, Option.bind_some, Option.map_some, if_true, if_false, reduceIte, List.nil_append, List.cons_append, List.append_nil, resOf, Nat.reduceAdd, Nat.reduceEqDiff, Nat.reduceLT, Nat.reduceLeDiff, Int.reduceLT, Int.reduceLE, Int.reduceNeg, and_self, true_and, and_true, decide_true, decide_false, Bool.false_eq_true, Bool.not_true, Bool.not_false, Int.reduceAbs, Int.natAbs_neg, or_true, true_or, vIx, vLen, vAbs, vSum, vMax, vMin, decide_eq_true_eq, Bool.not_eq_true, vEq_int, a1]),
        fSeq_nx (ρ' := [some (.imm (.int n)), some (.imm (.str pool)), some (.imm (.bl st)), some (.imm (.int (n % 6))), some (.imm (.int (n / 6))), none, none, none]) (by simp only [fSeq, fAsg, fAsgN, fRet, fRetO, fExpr, fTo, fPar2, fPar3, fAug, fIf, fBin, fBinT, fTru, fAnd, fOr, fNot, fAndV, fOrV, fNotV, fNeg, fName, fPeek, fD, fN, fLst, fTup, fCons, fCall, fCallN, fDef, fFld, fInt, fSl, fIt, fItA, fStuck, fCv, fCn, fCd, stN, stCons, stNil, stTup, mB, mP, mO, look, lookA, asBl, asInt, vAdd, vSub, vMul, vFdiv, vMod, vCmp, vIs, isNon, vAugAdd, fApp, fExt, fMs, fMn, List.getElem?_cons_zero, List.getElem?_cons_succ, List.getElem?_nil, List.set_cons_zero, List.set_cons_succ, List.length_cons, List.length_nil, Option.bind_some, Option.map_some, if_true, if_false, reduceIte, List.nil_append, List.cons_append, List.append_nil, resOf, Nat.reduceAdd, Nat.reduceEqDiff, Nat.reduceLT, Nat.reduceLeDiff, Int.reduceLT, Int.reduceLE, Int.reduceNeg, and_self, true_and, and_true, decide_true, decide_false, Bool.false_eq_true, Bool.not_true, Bool.not_false, Int.reduceAbs, Int.natAbs_neg, or_true, true_or, vIx, vLen, vAbs, vSum, vMax, vMin, decide_eq_true_eq, Bool.not_eq_true, vEq_int, a0, a3]),
        fSeq_nx (ρ' := [some (.imm (.int n)), some (.imm (.str pool)), some (.imm (.bl st)), some (.imm (.int (n % 6))), some (.imm (.int (n / 6))), none, none, none]) (by simp only [fSeq, fAsg, fAsgN, fRet, fRetO, fExpr, fTo, fPar2, fPar3, fAug, fIf, fBin, fBinT, fTru, fAnd, fOr, fNot, fAndV, fOrV, fNotV, fNeg, fName, fPeek, fD, fN, fLst, fTup, fCons, fCall, fCallN, fDef, fFld, fInt, fSl, fIt, fItA, fStuck, fCv, fCn, fCd, stN, stCons, stNil, stTup, mB, mP, mO, look, lookA, asBl, asInt, vAdd, vSub, vMul, vFdiv, vMod, vCmp, vIs, isNon, vAugAdd, fApp, fExt, fMs, fMn, List.getElem?_cons_zero, List.getElem?_cons_succ, List.getElem?_nil, List.set_cons_zero, List.set_cons_succ, List.length_cons, List.length_nil, Option.bind_some, Option.map_some, if_true, if_false, reduceIte, List.nil_append, List.cons_append, List.append_nil, resOf, Nat.reduceAdd, Nat.reduceEqDiff, Nat.reduceLT, Nat.reduceLeDiff, Int.reduceLT, Int.reduceLE, Int.reduceNeg, and_self, true_and, and_true, decide_true, decide_false, Bool.false_eq_true, Bool.not_true, Bool.not_false, Int.reduceAbs, Int.natAbs_neg, or_true, true_or, vIx, vLen, vAbs, vSum, vMax, vMin, decide_eq_true_eq, Bool.not_eq_true, vEq_int, h9]),
        fSeq_nx (ρ' := [some (.imm (.int n)), some (.imm (.str pool)), some (.imm (.bl st)), some (.imm (.int (n % 6))), some (.imm (.int (n / 6))), some (.imm (.str [c1, c2])), none, none]) (by simp only [fSeq, fAsg, fAsgN, fRet, fRetO, fExpr, fTo, fPar2, fPar3, fAug, fIf, fBin, fBinT, fTru, fAnd, fOr, fNot, fAndV, fOrV, fNotV, fNeg, fName, fPeek, fD, fN, fLst, fTup, fCons, fCall, fCallN, fDef, fFld, fInt, fSl, fIt, fItA, fStuck, fCv, fCn, fCd, stN, stCons, stNil, stTup, mB, mP, mO, look, lookA, asBl, asInt, vAdd, vSub, vMul, vFdiv, vMod, vCmp, vIs, isNon, vAugAdd, fApp, fExt, fMs, fMn, List.getElem?_cons_zero, List.getElem?_cons_succ, List.getElem?_nil, List.set_cons_zero, List.set_cons_succ, List.length_cons, List.length_nil, Option.bind_some, Option.map_some, if_true, if_false, reduceIte, List.nil_append, List.cons_append, List.append_nil, resOf, Nat.reduceAdd, Nat.reduceEqDiff, Nat.reduceLT, Nat.reduceLeDiff, Int.reduceLT, Int.reduceLE, Int.reduceNeg, and_self, true_and, and_true, decide_true, decide_false, Bool.false_eq_true, Bool.not_true, Bool.not_false, Int.reduceAbs, Int.natAbs_neg, or_true, true_or, vIx, vLen, vAbs, vSum, vMax, vMin, decide_eq_true_eq, Bool.not_eq_true, hp, e1, e2, Nat.reduceLeDiff]),
        fSeq_nx (ρ' := [some (.imm (.int n)), some (.imm (.str pool)), some (.imm (.bl st)), some (.imm (.int (n % 6))), some (.imm (.int (n / 6))), some (.imm (.str [c1, c2, c3])), none, none]) (by simp only [fSeq, fAsg, fAsgN, fRet, fRetO, fExpr, fTo, fPar2, fPar3, fAug, fIf, fBin, fBinT, fTru, fAnd, fOr, fNot, fAndV, fOrV, fNotV, fNeg, fName, fPeek, fD, fN, fLst, fTup, fCons, fCall, fCallN, fDef, fFld, fInt, fSl, fIt, fItA, fStuck, fCv, fCn, fCd, stN, stCons, stNil, stTup, mB, mP, mO, look, lookA, asBl, asInt, vAdd, vSub, vMul, vFdiv, vMod, vCmp, vIs, isNon, vAugAdd, fApp, fExt, fMs, fMn, List.getElem?_cons_zero, List.getElem?_cons_succ, List.getElem?_nil, List.set_cons_zero, List.set_cons_succ, List.length_cons, List.length_nil, Option.bind_some, Option.map_some, if_true, if_false, reduceIte, List.nil_append, List.cons_append, List.append_nil, resOf, Nat.reduceAdd, Nat.reduceEqDiff, Nat.reduceLT, Nat.reduceLeDiff, Int.reduceLT, Int.reduceLE, Int.reduceNeg, and_self, true_and, and_true, decide_true, decide_false, Bool.false_eq_true, Bool.not_true, Bool.not_false, Int.reduceAbs, Int.natAbs_neg, or_true, true_or, vIx, vLen, vAbs, vSum, vMax, vMin, decide_eq_true_eq, Bool.not_eq_true, hp, e3, Nat.reduceLeDiff]),
        fSeq_nx (ρ' := [some (.imm (.int n)), some (.imm (.str pool)), some (.imm (.bl st)), some (.imm (.int (n % 6))), some (.imm (.int (n / 6))), some (.imm (.str [c1, c2, c3])), some (.imm (.bl due)), none]) (by simp only [fSeq, fAsg, fAsgN, fRet, fRetO, fExpr, fTo, fPar2, fPar3, fAug, fIf, fBin, fBinT, fTru, fAnd, fOr, fNot, fAndV, fOrV, fNotV, fNeg, fName, fPeek, fD, fN, fLst, fTup, fCons, fCall, fCallN, fDef, fFld, fInt, fSl, fIt, fItA, fStuck, fCv, fCn, fCd, stN, stCons, stNil, stTup, mB, mP, mO, look, lookA, asBl, asInt, vAdd, vSub, vMul, vFdiv, vMod, vCmp, vIs, isNon, vAugAdd, fApp, fExt, fMs, fMn, List.getElem?_cons_zero, List.getElem?_cons_succ, List.getElem?_nil, List.set_cons_zero, List.set_cons_succ, List.length_cons, List.length_nil, Option.bind_some, Option.map_some, if_true, if_false, reduceIte, List.nil_append, List.cons_append, List.append_nil, resOf, Nat.reduceAdd, Nat.reduceEqDiff, Nat.reduceLT, Nat.reduceLeDiff, Int.reduceLT, Int.reduceLE, Int.reduceNeg, and_self, true_and, and_true, decide_true, decide_false, Bool.false_eq_true, Bool.not_true, Bool.not_false, Int.reduceAbs, Int.natAbs_neg, or_true, true_or, vIx, vLen, vAbs, vSum, vMax, vMin, decide_eq_true_eq, Bool.not_eq_true, vEq_int, hdd])]
      simp only [fSeq, fAsg, fAsgN, fRet, fRetO, fExpr, fTo, fPar2, fPar3, fAug, fIf, fBin, fBinT, fTru, fAnd, fOr, fNot, fAndV, fOrV, fNotV, fNeg, fName, fPeek, fD, fN, fLst, fTup, fCons, fCall, fCallN, fDef, fFld, fInt, fSl, fIt, fItA, fStuck, fCv, fCn, fCd, stN, stCons, stNil, stTup, mB, mP, mO, look, lookA, asBl, asInt, vAdd, vSub, vMul, vFdiv, vMod, vCmp, vIs, isNon, vAugAdd, fApp, fExt, fMs, fMn, List.getElem?_cons_zero, List.getElem?_cons_succ, List.getElem?_nil, List.set_cons_zero, List.set_cons_succ, List.length_cons, List.length_nil, Option.bind_some, Option.map_some, if_true, if_false, reduceIte, List.nil_append, List.cons_append, List.append_nil, resOf, Nat.reduceAdd, Nat.reduceEqDiff, Nat.reduceLT, Nat.reduceLeDiff, Int.reduceLT, Int.reduceLE, Int.reduceNeg, and_self, true_and, and_true, decide_true, decide_false, Bool.false_eq_true, Bool.not_true, Bool.not_false, Int.reduceAbs, Int.natAbs_neg, or_true, true_or, vIx, vLen, vAbs, vSum, vMax, vMin, decide_eq_true_eq, Bool.not_eq_true, signs_eq, fComp, itemsS, ec, ej]
  rcases hk with h | h | h | h | h | h
  · cases st with
    | false => exact ⟨[42], by simp only [b__law_mark, fSeq, fAsg, fAsgN, fRet, fRetO, fExpr, fTo, fPar2, fPar3, fAug, fIf, fBin, fBinT, fTru, fAnd, fOr, fNot, fAndV, fOrV, fNotV, fNeg, fName, fPeek, fD, fN, fLst, fTup, fCons, fCall, fCallN, fDef, fFld, fInt, fSl, fIt, fItA, fStuck, fCv, fCn, fCd, stN, stCons, stNil, stTup, mB, mP, mO, look, lookA, asBl, asInt, vAdd, vSub, vMul, vFdiv, vMod, vCmp, vIs, isNon, vAugAdd, fApp, fExt, fMs, fMn, List.getElem?_cons_zero, List.getElem?_cons_succ, List.getElem?_nil, List.set_cons_zero, List.set_cons_succ, List.length_cons, List.length_nil, Option.bind_some, Option.map_some, if_true, if_false, reduceIte, List.nil_append, List.cons_append, List.append_nil, resOf, Nat.reduceAdd, Nat.reduceEqDiff, Nat.reduceLT, Nat.reduceLeDiff, Int.reduceLT, Int.reduceLE, Int.reduceNeg, and_self, true_and, and_true, decide_true, decide_false, Bool.false_eq_true, Bool.not_true, Bool.not_false, Int.reduceAbs, Int.natAbs_neg, or_true, true_or, vIx, vLen, vAbs, vSum, vMax, vMin, decide_eq_true_eq, Bool.not_eq_true, vEq_int, h, vTru], .inl rfl, by simp⟩
    | true => exact ⟨[c1], by simp only [b__law_mark, fSeq, fAsg, fAsgN, fRet, fRetO, fExpr, fTo, fPar2, fPar3, fAug, fIf, fBin, fBinT, fTru, fAnd, fOr, fNot, fAndV, fOrV, fNotV, fNeg, fName, fPeek, fD, fN, fLst, fTup, fCons, fCall, fCallN, fDef, fFld, fInt, fSl, fIt, fItA, fStuck, fCv, fCn, fCd, stN, stCons, stNil, stTup, mB, mP, mO, look, lookA, asBl, asInt, vAdd, vSub, vMul, vFdiv, vMod, vCmp, vIs, isNon, vAugAdd, fApp, fExt, fMs, fMn, List.getElem?_cons_zero, List.getElem?_cons_succ, List.getElem?_nil, List.set_cons_zero, List.set_cons_succ, List.length_cons, List.length_nil, Option.bind_some, Option.map_some, if_true, if_false, reduceIte, List.nil_append, List.cons_append, List.append_nil, resOf, Nat.reduceAdd, Nat.reduceEqDiff, Nat.reduceLT, Nat.reduceLeDiff, Int.reduceLT, Int.reduceLE, Int.reduceNeg, and_self, true_and, and_true, decide_true, decide_false, Bool.false_eq_true, Bool.not_true, Bool.not_false, Int.reduceAbs, Int.natAbs_neg, or_true, true_or, vIx, vLen, vAbs, vSum, vMax, vMin, decide_eq_true_eq, Bool.not_eq_true, vEq_int, h, vTru, e1, hp, Int.reduceEq], one c1 m1⟩
  · exact ⟨sg, by simp only [b__law_mark, fSeq, fAsg, fAsgN, fRet, fRetO, fExpr, fTo, fPar2, fPar3, fAug, fIf, fBin, fBinT, fTru, fAnd, fOr, fNot, fAndV, fOrV, fNotV, fNeg, fName, fPeek, fD, fN, fLst, fTup, fCons, fCall, fCallN, fDef, fFld, fInt, fSl, fIt, fItA, fStuck, fCv, fCn, fCd, stN, stCons, stNil, stTup, mB, mP, mO, look, lookA, asBl, asInt, vAdd, vSub, vMul, vFdiv, vMod, vCmp, vIs, isNon, vAugAdd, fApp, fExt, fMs, fMn, List.getElem?_cons_zero, List.getElem?_cons_succ, List.getElem?_nil, List.set_cons_zero, List.set_cons_succ, List.length_cons, List.length_nil, Option.bind_some, Option.map_some, if_true, if_false, reduceIte, List.nil_append, List.cons_append, List.append_nil, resOf, Nat.reduceAdd, Nat.reduceEqDiff, Nat.reduceLT, Nat.reduceLeDiff, Int.reduceLT, Int.reduceLE, Int.reduceNeg, and_self, true_and, and_true, decide_true, decide_false, Bool.false_eq_true, Bool.not_true, Bool.not_false, Int.reduceAbs, Int.natAbs_neg, or_true, true_or, vIx, vLen, vAbs, vSum, vMax, vMin, decide_eq_true_eq, Bool.not_eq_true, vEq_int, h, vTru, Int.reduceEq, signs_eq], IsM_sg, fun _ => IsM_ne fun _ h => h⟩
  · exact more true (.inl h) (by simp [h])
  · exact more false (.inr h) (by simp [h])
  · exact ⟨[c1], by simp only [b__law_mark, fSeq, fAsg, fAsgN, fRet, fRetO, fExpr, fTo, fPar2, fPar3, fAug, fIf, fBin, fBinT, fTru, fAnd, fOr, fNot, fAndV, fOrV, fNotV, fNeg, fName, fPeek, fD, fN, fLst, fTup, fCons, fCall, fCallN, fDef, fFld, fInt, fSl, fIt, fItA, fStuck, fCv, fCn, fCd, stN, stCons, stNil, stTup, mB, mP, mO, look, lookA, asBl, asInt, vAdd, vSub, vMul, vFdiv, vMod, vCmp, vIs, isNon, vAugAdd, fApp, fExt, fMs, fMn, List.getElem?_cons_zero, List.getElem?_cons_succ, List.getElem?_nil, List.set_cons_zero, List.set_cons_succ, List.length_cons, List.length_nil, Option.bind_some, Option.map_some, if_true, if_false, reduceIte, List.nil_append, List.cons_append, List.append_nil, resOf, Nat.reduceAdd, Nat.reduceEqDiff, Nat.reduceLT, Nat.reduceLeDiff, Int.reduceLT, Int.reduceLE, Int.reduceNeg, and_self, true_and, and_true, decide_true, decide_false, Bool.false_eq_true, Bool.not_true, Bool.not_false, Int.reduceAbs, Int.natAbs_neg, or_true, true_or, vIx, vLen, vAbs, vSum, vMax, vMin, decide_eq_true_eq, Bool.not_eq_true, vEq_int, h, vTru, e1, hp, Int.reduceEq], one c1 m1⟩
  · exact ⟨[c1], by simp only [b__law_mark, fSeq, fAsg, fAsgN, fRet, fRetO, fExpr, fTo, fPar2, fPar3, fAug, fIf, fBin, fBinT, fTru, fAnd, fOr, fNot, fAndV, fOrV, fNotV, fNeg, fName, fPeek, fD, fN, fLst, fTup, fCons, fCall, fCallN, fDef, fFld, fInt, fSl, fIt, fItA, fStuck, fCv, fCn, fCd, stN, stCons, stNil, stTup, mB, mP, mO, look, lookA, asBl, asInt, vAdd, vSub, vMul, vFdiv, vMod, vCmp, vIs, isNon, vAugAdd, fApp, fExt, fMs, fMn, List.getElem?_cons_zero, List.getElem?_cons_succ, List.getElem?_nil, List.set_cons_zero, List.set_cons_succ, List.length_cons, List.length_nil, Option.bind_some, Option.map_some, if_true, if_false, reduceIte, List.nil_append, List.cons_append, List.append_nil, resOf, Nat.reduceAdd, Nat.reduceEqDiff, Nat.reduceLT, Nat.reduceLeDiff, Int.reduceLT, Int.reduceLE, Int.reduceNeg, and_self, true_and, and_true, decide_true, decide_false, Bool.false_eq_true, Bool.not_true, Bool.not_false, Int.reduceAbs, Int.natAbs_neg, or_true, true_or, vIx, vLen, vAbs, vSum, vMax, vMin, decide_eq_true_eq, Bool.not_eq_true, vEq_int, h, vTru, e1, hp, Int.reduceEq], one c1 m1⟩

/-! the pieces of a line -/
inductive LP where
  | many | marks (ms : List (List Nat))
/-- no two stars side by side -/
def NoSS : List (List Nat) → Prop
  | a :: b :: r => ¬ (a = [42] ∧ b = [42]) ∧ NoSS (b :: r)
  | _ => True
def OkMs (ms : List (List Nat)) : Prop := ms ≠ [] ∧ (∀ m ∈ ms, IsM m) ∧ NoSS ms ∧ ms.length ≤ 7
def OkLP : LP → Prop
  | .many => True
  | .marks ms => OkMs ms
def isMany : LP → Bool
  | .many => true
  | _ => false
def NoMM : List LP → Prop
  | a :: b :: r => ¬ (isMany a = true ∧ isMany b = true) ∧ NoMM (b :: r)
  | _ => True
def OkPs (ps : List LP) : Prop := ps ≠ [] ∧ (∀ p ∈ ps, OkLP p) ∧ NoMM ps ∧ ps.length ≤ 100
def daP : LP → Da
  | .many => .non
  | .marks ms => .lst (ms.map .str)
theorem noSS_snoc : ∀ {ms : List (List Nat)} {m : List Nat}, NoSS ms → (ms.getLast? = some [42] → m ≠ [42]) → NoSS (ms ++ [m])
  | [], m, _, _ => trivial
  | [a], m, _, h => ⟨fun e => h (by simp [e.1]) e.2, trivial⟩
  | a :: b :: r, m, hn, h => ⟨hn.1, noSS_snoc (ms := b :: r) hn.2 (by simpa using h)⟩
theorem noMM_snoc : ∀ {ms : List LP} {m : LP}, NoMM ms → (∀ l, ms.getLast? = some l → isMany l = true → isMany m = false) → NoMM (ms ++ [m])
  | [], m, _, _ => trivial
  | [a], m, _, h => ⟨fun e => (by have := h a rfl e.1; rw [e.2] at this; cases this), trivial⟩
  | a :: b :: r, m, hn, h => ⟨hn.1, noMM_snoc (ms := b :: r) hn.2 (fun l hl => h l (by simpa using hl))⟩
theorem cutD_last {α : Type} (xs : List α) : cutD xs (some (-1)) none = xs.drop (xs.length - 1) := by
  unfold cutD
  rw [HT.sIx_none]
  have e : HT.sIx xs.length 0 (some (-1)) = xs.length - 1 := by
    unfold HT.sIx
    simp only
    rw [if_pos (by decide)]
    omega
  rw [e, List.take_of_length_le]
  rw [List.length_drop]
  omega
theorem drop_last {α : Type} (xs : List α) : xs.drop (xs.length - 1) = match xs.getLast? with
    | some x => [x]
    | none => [] := by
  cases h : xs.getLast? with
  | none =>
    rw [List.getLast?_eq_none_iff] at h
    subst h
    rfl
  | some x =>
    obtain ⟨ys, rfl⟩ := List.getLast?_eq_some_iff.mp h
    rw [List.length_append, List.length_singleton, Nat.add_sub_cancel, List.drop_left]
abbrev llE (s : Da) (a : Int) (pool : List Nat) (dr : List Int) (ps : List LP) (t : Option Ce) (n : Option Ce) (ms : Option Ce) (x : Option Ce) : Env :=
  [some (.imm s), some (.imm (.int a)), some (.imm (.str pool)), some (.imm (.lst (dr.map .int))), some (.lst (ps.map daP)), t, n, ms, x]
theorem dr_at {dr : List Int} (i : Int) (h0 : 0 ≤ i) (h : i < dr.length) : ∃ d, d ∈ dr ∧ atI (dr.map Da.int) i = some (.int d) := by
  obtain ⟨x, e, hx⟩ := atI_ok (xs := dr.map Da.int) h0 (by rw [List.length_map]; exact h)
  obtain ⟨d, hd, rfl⟩ := List.mem_map.mp hx
  exact ⟨d, hd, e⟩
/-- one more mark -/
theorem ll_mark (s : Da) (a : Int) {pool : List Nat} (hl : pool.length = 4) (hs : ∀ c ∈ pool, c ∈ sg) {dr : List Int} (hd : dr.length = 12) (ps : List LP) {t : Int} (ht : 0 ≤ t) (ht2 : t < 3) (n : Int) {ms : List (List Nat)} (hms : NoSS ms) (hms2 : ∀ m ∈ ms, IsM m) (hm3 : ms.length ≤ 50) {k : Int} (hk : 0 ≤ k) (hk2 : k < 3) :
    ∃ m, IsM m ∧ NoSS (ms ++ [m]) ∧ p1__law_line (llE s a pool dr ps (some (.imm (.int t))) (some (.imm (.int n))) (some (.lst (ms.map .str))) (some (.imm (.int k)))) = .ok .nx (llE s a pool dr ps (some (.imm (.int t))) (some (.imm (.int n))) (some (.lst ((ms ++ [m]).map .str))) (some (.imm (.int k)))) := by
  obtain ⟨d, _, ed⟩ := dr_at (dr := dr) (4 + 2 * t + k) (by omega) (by omega)
  obtain ⟨m, em, h1, h2⟩ := mark_ok d hl hs (decide (cutD ms (some (-1)) none = [[42]]))
  refine ⟨m, h1, noSS_snoc hms fun e => h2 ?_, ?_⟩
  · rw [cutD_last, drop_last, e]
    rfl
  · have ec : cutD (ms.map Da.str) (some (-1)) none = (cutD ms (some (-1)) none).map .str := by
      rw [cutD_last, cutD_last, List.length_map, List.map_drop]
    have e42 : [Da.str [42]] = [[42]].map Da.str := rfl
    have hl1 : ms.length ≤ 16777216 := by omega
    have hl2 : ms.length < 16777216 := by omega
    have hv := vEq_strs (cutD ms (some (-1)) none) [[42]]
    rw [← ec, ← e42] at hv
    simp only [p1__law_line, llE, fSeq, fAsg, fAsgN, fRet, fRetO, fExpr, fTo, fPar2, fPar3, fAug, fIf, fBin, fBinT, fTru, fAnd, fOr, fNot, fAndV, fOrV, fNotV, fNeg, fName, fPeek, fD, fN, fLst, fTup, fCons, fCall, fCallN, fDef, fFld, fInt, fSl, fIt, fItA, fStuck, fCv, fCn, fCd, stN, stCons, stNil, stTup, mB, mP, mO, look, lookA, asBl, asInt, vAdd, vSub, vMul, vFdiv, vMod, vCmp, vIs, isNon, vAugAdd, fApp, fExt, fMs, fMn, List.getElem?_cons_zero, List.getElem?_cons_succ, List.getElem?_nil, List.set_cons_zero, List.set_cons_succ, List.length_cons, List.length_nil, Option.bind_some, Option.map_some, if_true, if_false, reduceIte, List.nil_append, List.cons_append, List.append_nil, resOf, Nat.reduceAdd, Nat.reduceEqDiff, Nat.reduceLT, Nat.reduceLeDiff, Int.reduceLT, Int.reduceLE, Int.reduceNeg, and_self, true_and, and_true, decide_true, decide_false, Bool.false_eq_true, Bool.not_true, Bool.not_false, Int.reduceAbs, Int.natAbs_neg, or_true, true_or, vIx, vLen, vAbs, vSum, vMax, vMin, decide_eq_true_eq, Bool.not_eq_true, ed, vSlL, List.length_map, hl1, hl2, hv, em, Nat.reduceLeDiff, List.map_append, List.map_cons, List.map_nil, Int.reduceNeg]
theorem ll_marks (s : Da) (a : Int) {pool : List Nat} (hl : pool.length = 4) (hs : ∀ c ∈ pool, c ∈ sg) {dr : List Int} (hd : dr.length = 12) (ps : List LP) {t : Int} (ht : 0 ≤ t) (ht2 : t < 3) (n : Int) :
    ∀ (cnt : Nat) (k : Int) (ms : List (List Nat)) (x : Option Ce), 0 ≤ k → k + cnt ≤ 3 → NoSS ms → (∀ m ∈ ms, IsM m) → ms.length ≤ k.toNat →
    ∃ ms' x', NoSS ms' ∧ (∀ m ∈ ms', IsM m) ∧ ms'.length = ms.length + cnt ∧ forL (stN 8) p1__law_line (rangeD k cnt) (llE s a pool dr ps (some (.imm (.int t))) (some (.imm (.int n))) (some (.lst (ms.map .str))) x) = .ok .nx (llE s a pool dr ps (some (.imm (.int t))) (some (.imm (.int n))) (some (.lst (ms'.map .str))) x')
  | 0, k, ms, x, _, _, h1, h2, h3 => ⟨ms, x, h1, h2, rfl, by rw [rangeD_zero]; rfl⟩
  | cnt + 1, k, ms, x, hk, hk2, h1, h2, h3 => by
    obtain ⟨m, i1, i2, e⟩ := ll_mark s a hl hs hd ps ht ht2 n h1 h2 (by omega) hk (by omega)
    have hm' : ∀ z ∈ ms ++ [m], IsM z := fun z hz => (List.mem_append.mp hz).elim (h2 z) fun q => by rw [List.mem_singleton.mp q]; exact i1
    rw [rangeD_succ, forL_cons (ρ1 := llE s a pool dr ps (some (.imm (.int t))) (some (.imm (.int n))) (some (.lst (ms.map .str))) (some (.imm (.int k)))) rfl e]
    have hlm : (ms ++ [m]).length = ms.length + 1 := by rw [List.length_append, List.length_singleton]
    obtain ⟨ms', x', j1, j2, j3, j4⟩ := ll_marks s a hl hs hd ps ht ht2 n cnt (k + 1) (ms ++ [m]) (some (.imm (.int k))) (by omega) (by omega) i2 hm' (by rw [hlm]; omega)
    exact ⟨ms', x', j1, j2, by rw [j3, hlm]; omega, j4⟩
def lastMany (ps : List LP) : Bool := match ps.getLast? with
  | some .many => true
  | _ => false
theorem vNe_last (ps : List LP) : vEq true (.lst (cutD (ps.map daP) (some (-1)) none)) (.lst [.non]) = some (.bl (!lastMany ps)) := by
  rw [cutD_last, List.length_map, ← List.map_drop, drop_last]
  unfold lastMany
  cases ps.getLast? with
  | none => rfl
  | some p =>
    cases p with
    | many => rfl
    | marks ms =>
      unfold vEq
      rw [if_pos (by simp [daP, plainD, plainA, dep, depA, plainA_str, depA_str])]
      simp [daP, dq, dqA]
theorem ll_piece (s : Da) (a : Int) {pool : List Nat} (hl : pool.length = 4) (hs : ∀ c ∈ pool, c ∈ sg) {dr : List Int} (hd : dr.length = 12) {ps : List LP} {t : Int} (ht : 0 ≤ t) (ht2 : t < 3) (h1 : ∀ p ∈ ps, OkLP p) (h2 : NoMM ps) (h3 : ps.length ≤ t.toNat) (y z x : Option Ce) :
    ∃ ps' y' z' x', (∀ p ∈ ps', OkLP p) ∧ NoMM ps' ∧ ps' ≠ [] ∧ ps'.length ≤ t.toNat + 1 ∧ p2__law_line (llE s a pool dr ps (some (.imm (.int t))) y z x) = .ok .nx (llE s a pool dr ps' (some (.imm (.int t))) y' z' x') := by
  obtain ⟨n, _, en⟩ := dr_at (dr := dr) (1 + t) (by omega) (by omega)
  have hp1 : ps.length ≤ 16777216 := by omega
  have hp2 : ps.length < 16777216 := by omega
  unfold p2__law_line
  rw [fSeq_nx (ρ' := llE s a pool dr ps (some (.imm (.int t))) (some (.imm (.int n))) z x) (by simp only [llE, fSeq, fAsg, fAsgN, fRet, fRetO, fExpr, fTo, fPar2, fPar3, fAug, fIf, fBin, fBinT, fTru, fAnd, fOr, fNot, fAndV, fOrV, fNotV, fNeg, fName, fPeek, fD, fN, fLst, fTup, fCons, fCall, fCallN, fDef, fFld, fInt, fSl, fIt, fItA, fStuck, fCv, fCn, fCd, stN, stCons, stNil, stTup, mB, mP, mO, look, lookA, asBl, asInt, vAdd, vSub, vMul, vFdiv, vMod, vCmp, vIs, isNon, vAugAdd, fApp, fExt, fMs, fMn, List.getElem?_cons_zero, List.getElem?_cons_succ, List.getElem?_nil, List.set_cons_zero, List.set_cons_succ, List.length_cons, List.length_nil, Option.bind_some, Option.map_some, if_true, if_false, reduceIte, List.nil_append, List.cons_append, List.append_nil, resOf, Nat.reduceAdd, Nat.reduceEqDiff, Nat.reduceLT, Nat.reduceLeDiff, Int.reduceLT, Int.reduceLE, Int.reduceNeg, and_self, true_and, and_true, decide_true, decide_false, Bool.false_eq_true, Bool.not_true, Bool.not_false, Int.reduceAbs, Int.natAbs_neg, or_true, true_or, vIx, vLen, vAbs, vSum, vMax, vMin, decide_eq_true_eq, Bool.not_eq_true, en])]
  by_cases h5 : n % 5 = 0
  · rw [fIf_t (ρ' := llE s a pool dr ps (some (.imm (.int t))) (some (.imm (.int n))) z x) (by simp only [llE, fSeq, fAsg, fAsgN, fRet, fRetO, fExpr, fTo, fPar2, fPar3, fAug, fIf, fBin, fBinT, fTru, fAnd, fOr, fNot, fAndV, fOrV, fNotV, fNeg, fName, fPeek, fD, fN, fLst, fTup, fCons, fCall, fCallN, fDef, fFld, fInt, fSl, fIt, fItA, fStuck, fCv, fCn, fCd, stN, stCons, stNil, stTup, mB, mP, mO, look, lookA, asBl, asInt, vAdd, vSub, vMul, vFdiv, vMod, vCmp, vIs, isNon, vAugAdd, fApp, fExt, fMs, fMn, List.getElem?_cons_zero, List.getElem?_cons_succ, List.getElem?_nil, List.set_cons_zero, List.set_cons_succ, List.length_cons, List.length_nil, Option.bind_some, Option.map_some, if_true, if_false, reduceIte, List.nil_append, List.cons_append, List.append_nil, resOf, Nat.reduceAdd, Nat.reduceEqDiff, Nat.reduceLT, Nat.reduceLeDiff, Int.reduceLT, Int.reduceLE, Int.reduceNeg, and_self, true_and, and_true, decide_true, decide_false, Bool.false_eq_true, Bool.not_true, Bool.not_false, Int.reduceAbs, Int.natAbs_neg, or_true, true_or, vIx, vLen, vAbs, vSum, vMax, vMin, decide_eq_true_eq, Bool.not_eq_true, vEq_int, h5])]
    cases hm : lastMany ps with
    | true =>
      have hv := vNe_last ps
      rw [hm] at hv
      refine ⟨ps, _, _, _, h1, h2, ?_, by omega, by simp only [llE, fSeq, fAsg, fAsgN, fRet, fRetO, fExpr, fTo, fPar2, fPar3, fAug, fIf, fBin, fBinT, fTru, fAnd, fOr, fNot, fAndV, fOrV, fNotV, fNeg, fName, fPeek, fD, fN, fLst, fTup, fCons, fCall, fCallN, fDef, fFld, fInt, fSl, fIt, fItA, fStuck, fCv, fCn, fCd, stN, stCons, stNil, stTup, mB, mP, mO, look, lookA, asBl, asInt, vAdd, vSub, vMul, vFdiv, vMod, vCmp, vIs, isNon, vAugAdd, fApp, fExt, fMs, fMn, List.getElem?_cons_zero, List.getElem?_cons_succ, List.getElem?_nil, List.set_cons_zero, List.set_cons_succ, List.length_cons, List.length_nil, Option.bind_some, Option.map_some, if_true, if_false, reduceIte, List.nil_append, List.cons_append, List.append_nil, resOf, Nat.reduceAdd, Nat.reduceEqDiff, Nat.reduceLT, Nat.reduceLeDiff, Int.reduceLT, Int.reduceLE, Int.reduceNeg, and_self, true_and, and_true, decide_true, decide_false, Bool.false_eq_true, Bool.not_true, Bool.not_false, Int.reduceAbs, Int.natAbs_neg, or_true, true_or, vIx, vLen, vAbs, vSum, vMax, vMin, decide_eq_true_eq, Bool.not_eq_true, vSlL, List.length_map, hp1, hv, Int.reduceNeg, Nat.reduceLeDiff]; rfl⟩
      intro e
      subst e
      cases hm
    | false =>
      have hv := vNe_last ps
      rw [hm] at hv
      refine ⟨ps ++ [.many], _, _, _, ?_, noMM_snoc h2 ?_, by simp, by simp; omega, by simp only [llE, fSeq, fAsg, fAsgN, fRet, fRetO, fExpr, fTo, fPar2, fPar3, fAug, fIf, fBin, fBinT, fTru, fAnd, fOr, fNot, fAndV, fOrV, fNotV, fNeg, fName, fPeek, fD, fN, fLst, fTup, fCons, fCall, fCallN, fDef, fFld, fInt, fSl, fIt, fItA, fStuck, fCv, fCn, fCd, stN, stCons, stNil, stTup, mB, mP, mO, look, lookA, asBl, asInt, vAdd, vSub, vMul, vFdiv, vMod, vCmp, vIs, isNon, vAugAdd, fApp, fExt, fMs, fMn, List.getElem?_cons_zero, List.getElem?_cons_succ, List.getElem?_nil, List.set_cons_zero, List.set_cons_succ, List.length_cons, List.length_nil, Option.bind_some, Option.map_some, if_true, if_false, reduceIte, List.nil_append, List.cons_append, List.append_nil, resOf, Nat.reduceAdd, Nat.reduceEqDiff, Nat.reduceLT, Nat.reduceLeDiff, Int.reduceLT, Int.reduceLE, Int.reduceNeg, and_self, true_and, and_true, decide_true, decide_false, Bool.false_eq_true, Bool.not_true, Bool.not_false, Int.reduceAbs, Int.natAbs_neg, or_true, true_or, vIx, vLen, vAbs, vSum, vMax, vMin, decide_eq_true_eq, Bool.not_eq_true, vSlL, List.length_map, hp1, hp2, hv, Int.reduceNeg, Nat.reduceLeDiff, List.map_append, List.map_cons, List.map_nil, daP]; rfl⟩
      · intro p hp
        rcases List.mem_append.mp hp with h | h
        · exact h1 p h
        · rw [List.mem_singleton.mp h]
          trivial
      · intro l el il
        unfold lastMany at hm
        rw [el] at hm
        cases l with
        | many => cases hm
        | marks ms => cases il
  · rw [fIf_f (ρ' := llE s a pool dr ps (some (.imm (.int t))) (some (.imm (.int n))) z x) (by simp only [llE, fSeq, fAsg, fAsgN, fRet, fRetO, fExpr, fTo, fPar2, fPar3, fAug, fIf, fBin, fBinT, fTru, fAnd, fOr, fNot, fAndV, fOrV, fNotV, fNeg, fName, fPeek, fD, fN, fLst, fTup, fCons, fCall, fCallN, fDef, fFld, fInt, fSl, fIt, fItA, fStuck, fCv, fCn, fCd, stN, stCons, stNil, stTup, mB, mP, mO, look, lookA, asBl, asInt, vAdd, vSub, vMul, vFdiv, vMod, vCmp, vIs, isNon, vAugAdd, fApp, fExt, fMs, fMn, List.getElem?_cons_zero, List.getElem?_cons_succ, List.getElem?_nil, List.set_cons_zero, List.set_cons_succ, List.length_cons, List.length_nil, Option.bind_some, Option.map_some, if_true, if_false, reduceIte, List.nil_append, List.cons_append, List.append_nil, resOf, Nat.reduceAdd, Nat.reduceEqDiff, Nat.reduceLT, Nat.reduceLeDiff, Int.reduceLT, Int.reduceLE, Int.reduceNeg, and_self, true_and, and_true, decide_true, decide_false, Bool.false_eq_true, Bool.not_true, Bool.not_false, Int.reduceAbs, Int.natAbs_neg, or_true, true_or, vIx, vLen, vAbs, vSum, vMax, vMin, decide_eq_true_eq, Bool.not_eq_true, vEq_int, h5])]
    rw [fSeq_nx (ρ' := llE s a pool dr ps (some (.imm (.int t))) (some (.imm (.int n))) (some (.lst (([] : List (List Nat)).map .str))) x) (by simp only [llE, fSeq, fAsg, fAsgN, fRet, fRetO, fExpr, fTo, fPar2, fPar3, fAug, fIf, fBin, fBinT, fTru, fAnd, fOr, fNot, fAndV, fOrV, fNotV, fNeg, fName, fPeek, fD, fN, fLst, fTup, fCons, fCall, fCallN, fDef, fFld, fInt, fSl, fIt, fItA, fStuck, fCv, fCn, fCd, stN, stCons, stNil, stTup, mB, mP, mO, look, lookA, asBl, asInt, vAdd, vSub, vMul, vFdiv, vMod, vCmp, vIs, isNon, vAugAdd, fApp, fExt, fMs, fMn, List.getElem?_cons_zero, List.getElem?_cons_succ, List.getElem?_nil, List.set_cons_zero, List.set_cons_succ, List.length_cons, List.length_nil, Option.bind_some, Option.map_some, if_true, if_false, reduceIte, List.nil_append, List.cons_append, List.append_nil, resOf, Nat.reduceAdd, Nat.reduceEqDiff, Nat.reduceLT, Nat.reduceLeDiff, Int.reduceLT, Int.reduceLE, Int.reduceNeg, and_self, true_and, and_true, decide_true, decide_false, Bool.false_eq_true, Bool.not_true, Bool.not_false, Int.reduceAbs, Int.natAbs_neg, or_true, true_or, vIx, vLen, vAbs, vSum, vMax, vMin, decide_eq_true_eq, Bool.not_eq_true, Nat.reduceLeDiff]; rfl)]
    have k0 : 0 ≤ n / 5 % 3 := Int.emod_nonneg _ (by decide)
    have k1 : n / 5 % 3 < 3 := Int.emod_lt_of_pos _ (by decide)
    obtain ⟨ms', x', j1, j2, j3, j4⟩ := ll_marks s a hl hs hd ps ht ht2 n (1 + n / 5 % 3).toNat 0 [] x (by omega) (by omega) trivial (by simp) (by simp)
    have r1 : (-4611686018427387904 : Int) ≤ 1 + n / 5 % 3 ∧ 1 + n / 5 % 3 < 4611686018427387904 := by omega
    rw [fSeq_nx (ρ' := llE s a pool dr ps (some (.imm (.int t))) (some (.imm (.int n))) (some (.lst (ms'.map .str))) x') (by
      rw [← j4]
      simp only [llE, fFor, fSeq, fAsg, fAsgN, fRet, fRetO, fExpr, fTo, fPar2, fPar3, fAug, fIf, fBin, fBinT, fTru, fAnd, fOr, fNot, fAndV, fOrV, fNotV, fNeg, fName, fPeek, fD, fN, fLst, fTup, fCons, fCall, fCallN, fDef, fFld, fInt, fSl, fIt, fItA, fStuck, fCv, fCn, fCd, stN, stCons, stNil, stTup, mB, mP, mO, look, lookA, asBl, asInt, vAdd, vSub, vMul, vFdiv, vMod, vCmp, vIs, isNon, vAugAdd, fApp, fExt, fMs, fMn, List.getElem?_cons_zero, List.getElem?_cons_succ, List.getElem?_nil, List.set_cons_zero, List.set_cons_succ, List.length_cons, List.length_nil, Option.bind_some, Option.map_some, if_true, if_false, reduceIte, List.nil_append, List.cons_append, List.append_nil, resOf, Nat.reduceAdd, Nat.reduceEqDiff, Nat.reduceLT, Nat.reduceLeDiff, Int.reduceLT, Int.reduceLE, Int.reduceNeg, and_self, true_and, and_true, decide_true, decide_false, Bool.false_eq_true, Bool.not_true, Bool.not_false, Int.reduceAbs, Int.natAbs_neg, or_true, true_or, vIx, vLen, vAbs, vSum, vMax, vMin, decide_eq_true_eq, Bool.not_eq_true, rng1, r1])]
    rw [List.length_nil, Nat.zero_add] at j3
    refine ⟨ps ++ [.marks ms'], _, _, _, ?_, noMM_snoc h2 fun l _ _ => rfl, by simp, by simp; omega, by simp only [llE, fSeq, fAsg, fAsgN, fRet, fRetO, fExpr, fTo, fPar2, fPar3, fAug, fIf, fBin, fBinT, fTru, fAnd, fOr, fNot, fAndV, fOrV, fNotV, fNeg, fName, fPeek, fD, fN, fLst, fTup, fCons, fCall, fCallN, fDef, fFld, fInt, fSl, fIt, fItA, fStuck, fCv, fCn, fCd, stN, stCons, stNil, stTup, mB, mP, mO, look, lookA, asBl, asInt, vAdd, vSub, vMul, vFdiv, vMod, vCmp, vIs, isNon, vAugAdd, fApp, fExt, fMs, fMn, List.getElem?_cons_zero, List.getElem?_cons_succ, List.getElem?_nil, List.set_cons_zero, List.set_cons_succ, List.length_cons, List.length_nil, Option.bind_some, Option.map_some, if_true, if_false, reduceIte, List.nil_append, List.cons_append, List.append_nil, resOf, Nat.reduceAdd, Nat.reduceEqDiff, Nat.reduceLT, Nat.reduceLeDiff, Int.reduceLT, Int.reduceLE, Int.reduceNeg, and_self, true_and, and_true, decide_true, decide_false, Bool.false_eq_true, Bool.not_true, Bool.not_false, Int.reduceAbs, Int.natAbs_neg, or_true, true_or, vIx, vLen, vAbs, vSum, vMax, vMin, decide_eq_true_eq, Bool.not_eq_true, List.length_map, hp2, List.map_append, List.map_cons, List.map_nil, daP]; rfl⟩
    intro p hp
    rcases List.mem_append.mp hp with h | h
    · exact h1 p h
    · rw [List.mem_singleton.mp h]
      exact ⟨by intro e; rw [e] at j3; simp at j3; omega, j2, j1, by omega⟩
theorem ll_pieces (s : Da) (a : Int) {pool : List Nat} (hl : pool.length = 4) (hs : ∀ c ∈ pool, c ∈ sg) {dr : List Int} (hd : dr.length = 12) :
    ∀ (cnt : Nat) (t : Int) (ps : List LP) (w y z x : Option Ce), 0 ≤ t → t + cnt ≤ 3 → (∀ p ∈ ps, OkLP p) → NoMM ps → ps.length ≤ t.toNat → (cnt = 0 → ps ≠ []) →
    ∃ ps' w' y' z' x', (∀ p ∈ ps', OkLP p) ∧ NoMM ps' ∧ ps' ≠ [] ∧ ps'.length ≤ 3 ∧ forL (stN 5) p2__law_line (rangeD t cnt) (llE s a pool dr ps w y z x) = .ok .nx (llE s a pool dr ps' w' y' z' x')
  | 0, t, ps, w, y, z, x, h0, h1, h2, h3, h4, h5 => ⟨ps, w, y, z, x, h2, h3, h5 rfl, by omega, by rw [rangeD_zero]; rfl⟩
  | cnt + 1, t, ps, w, y, z, x, h0, h1, h2, h3, h4, h5 => by
    obtain ⟨ps1, y1, z1, x1, g1, g2, g3, g4, e⟩ := ll_piece s a hl hs hd h0 (by omega) h2 h3 h4 y z x
    obtain ⟨ps', w', y', z', x', k1, k2, k3, k4, e2⟩ := ll_pieces s a hl hs hd cnt (t + 1) ps1 (some (.imm (.int t))) y1 z1 x1 (by omega) (by omega) g1 g2 (by omega) (fun _ => g3)
    refine ⟨ps', w', y', z', x', k1, k2, k3, k4, ?_⟩
    rw [rangeD_succ, forL_cons (ρ1 := llE s a pool dr ps (some (.imm (.int t))) y z x) rfl e, e2]
def daL (l : Bool) (ps : List LP) (f : Bool) : Da := .tup [.bl l, .lst (ps.map daP), .bl f]
theorem line_ok (ns : List Int) {a : Int} (ha : 0 ≤ a) {pool : List Nat} (hl : pool.length = 4) (hs : ∀ c ∈ pool, c ∈ sg) :
    ∃ l ps f, f__law_line [.lst (ns.map .int), .int a, .str pool] = .ok (daL l ps f) ∧ OkPs ps ∧ ps.length ≤ 3 := by
  have ed := digs_eq ns a 12 600 ha (by decide) (by decide) (by decide) (by decide)
  have hd : (digP ns a 12 600).length = 12 := digP_len _ _ _ _
  generalize digP ns a 12 600 = dr at ed hd
  obtain ⟨d, _, e0⟩ := dr_at (dr := dr) 0 (by decide) (by omega)
  have k0 : 0 ≤ d / 9 % 3 := Int.emod_nonneg _ (by decide)
  have k1 : d / 9 % 3 < 3 := Int.emod_lt_of_pos _ (by decide)
  obtain ⟨ps, w, y, z, x, h1, h2, h3, h4, e⟩ := ll_pieces (.lst (ns.map .int)) a hl hs hd (1 + d / 9 % 3).toNat 0 [] none none none none (by decide) (by omega) (by simp) trivial (by simp) (by omega)
  have r1 : (-4611686018427387904 : Int) ≤ 1 + d / 9 % 3 ∧ 1 + d / 9 % 3 < 4611686018427387904 := by omega
  refine ⟨decide (d % 3 = 0), ps, decide (d / 3 % 3 = 0), ?_, ⟨h3, h1, h2, by omega⟩, h4⟩
  have start : f__law_line [.lst (ns.map .int), .int a, .str pool] = resOf (b__law_line [some (.imm (.lst (ns.map .int))), some (.imm (.int a)), some (.imm (.str pool)), none, none, none, none, none, none]) := rfl
  rw [start]
  unfold b__law_line
  rw [fSeq_nx (ρ' := [some (.imm (.lst (ns.map .int))), some (.imm (.int a)), some (.imm (.str pool)), some (.imm (.lst (dr.map .int))), none, none, none, none, none]) (by simp only [fSeq, fAsg, fAsgN, fRet, fRetO, fExpr, fTo, fPar2, fPar3, fAug, fIf, fBin, fBinT, fTru, fAnd, fOr, fNot, fAndV, fOrV, fNotV, fNeg, fName, fPeek, fD, fN, fLst, fTup, fCons, fCall, fCallN, fDef, fFld, fInt, fSl, fIt, fItA, fStuck, fCv, fCn, fCd, stN, stCons, stNil, stTup, mB, mP, mO, look, lookA, asBl, asInt, vAdd, vSub, vMul, vFdiv, vMod, vCmp, vIs, isNon, vAugAdd, fApp, fExt, fMs, fMn, List.getElem?_cons_zero, List.getElem?_cons_succ, List.getElem?_nil, List.set_cons_zero, List.set_cons_succ, List.length_cons, List.length_nil, Option.bind_some, Option.map_some, if_true, if_false, reduceIte, List.nil_append, List.cons_append, List.append_nil, resOf, Nat.reduceAdd, Nat.reduceEqDiff, Nat.reduceLT, Nat.reduceLeDiff, Int.reduceLT, Int.reduceLE, Int.reduceNeg, and_self, true_and, and_true, decide_true, decide_false, Bool.false_eq_true, Bool.not_true, Bool.not_false, Int.reduceAbs, Int.natAbs_neg, or_true, true_or, vIx, vLen, vAbs, vSum, vMax, vMin, decide_eq_true_eq, Bool.not_eq_true, ed]),
    fSeq_nx (ρ' := llE (.lst (ns.map .int)) a pool dr [] none none none none) (by simp only [fSeq, fAsg, fAsgN, fRet, fRetO, fExpr, fTo, fPar2, fPar3, fAug, fIf, fBin, fBinT, fTru, fAnd, fOr, fNot, fAndV, fOrV, fNotV, fNeg, fName, fPeek, fD, fN, fLst, fTup, fCons, fCall, fCallN, fDef, fFld, fInt, fSl, fIt, fItA, fStuck, fCv, fCn, fCd, stN, stCons, stNil, stTup, mB, mP, mO, look, lookA, asBl, asInt, vAdd, vSub, vMul, vFdiv, vMod, vCmp, vIs, isNon, vAugAdd, fApp, fExt, fMs, fMn, List.getElem?_cons_zero, List.getElem?_cons_succ, List.getElem?_nil, List.set_cons_zero, List.set_cons_succ, List.length_cons, List.length_nil, Option.bind_some, Option.map_some, if_true, if_false, reduceIte, List.nil_append, List.cons_append, List.append_nil, resOf, Nat.reduceAdd, Nat.reduceEqDiff, Nat.reduceLT, Nat.reduceLeDiff, Int.reduceLT, Int.reduceLE, Int.reduceNeg, and_self, true_and, and_true, decide_true, decide_false, Bool.false_eq_true, Bool.not_true, Bool.not_false, Int.reduceAbs, Int.natAbs_neg, or_true, true_or, vIx, vLen, vAbs, vSum, vMax, vMin, decide_eq_true_eq, Bool.not_eq_true, llE, List.map_nil, Nat.reduceLeDiff]),
    fSeq_nx (ρ' := llE (.lst (ns.map .int)) a pool dr ps w y z x) (by
      rw [← e]
      simp only [llE, fFor, fSeq, fAsg, fAsgN, fRet, fRetO, fExpr, fTo, fPar2, fPar3, fAug, fIf, fBin, fBinT, fTru, fAnd, fOr, fNot, fAndV, fOrV, fNotV, fNeg, fName, fPeek, fD, fN, fLst, fTup, fCons, fCall, fCallN, fDef, fFld, fInt, fSl, fIt, fItA, fStuck, fCv, fCn, fCd, stN, stCons, stNil, stTup, mB, mP, mO, look, lookA, asBl, asInt, vAdd, vSub, vMul, vFdiv, vMod, vCmp, vIs, isNon, vAugAdd, fApp, fExt, fMs, fMn, List.getElem?_cons_zero, List.getElem?_cons_succ, List.getElem?_nil, List.set_cons_zero, List.set_cons_succ, List.length_cons, List.length_nil, Option.bind_some, Option.map_some, if_true, if_false, reduceIte, List.nil_append, List.cons_append, List.append_nil, resOf, Nat.reduceAdd, Nat.reduceEqDiff, Nat.reduceLT, Nat.reduceLeDiff, Int.reduceLT, Int.reduceLE, Int.reduceNeg, and_self, true_and, and_true, decide_true, decide_false, Bool.false_eq_true, Bool.not_true, Bool.not_false, Int.reduceAbs, Int.natAbs_neg, or_true, true_or, vIx, vLen, vAbs, vSum, vMax, vMin, decide_eq_true_eq, Bool.not_eq_true, rng1, e0, r1])]
  simp only [llE, fSeq, fAsg, fAsgN, fRet, fRetO, fExpr, fTo, fPar2, fPar3, fAug, fIf, fBin, fBinT, fTru, fAnd, fOr, fNot, fAndV, fOrV, fNotV, fNeg, fName, fPeek, fD, fN, fLst, fTup, fCons, fCall, fCallN, fDef, fFld, fInt, fSl, fIt, fItA, fStuck, fCv, fCn, fCd, stN, stCons, stNil, stTup, mB, mP, mO, look, lookA, asBl, asInt, vAdd, vSub, vMul, vFdiv, vMod, vCmp, vIs, isNon, vAugAdd, fApp, fExt, fMs, fMn, List.getElem?_cons_zero, List.getElem?_cons_succ, List.getElem?_nil, List.set_cons_zero, List.set_cons_succ, List.length_cons, List.length_nil, Option.bind_some, Option.map_some, if_true, if_false, reduceIte, List.nil_append, List.cons_append, List.append_nil, resOf, Nat.reduceAdd, Nat.reduceEqDiff, Nat.reduceLT, Nat.reduceLeDiff, Int.reduceLT, Int.reduceLE, Int.reduceNeg, and_self, true_and, and_true, decide_true, decide_false, Bool.false_eq_true, Bool.not_true, Bool.not_false, Int.reduceAbs, Int.natAbs_neg, or_true, true_or, vIx, vLen, vAbs, vSum, vMax, vMin, decide_eq_true_eq, Bool.not_eq_true, e0, vEq_int, Nat.reduceLeDiff, daL]
end Kb
namespace Kb
/-! the written forms of a mark -/
inductive Itm where
  | one (c : Nat) | two (c d : Nat)
def itmT : Itm → List Nat
  | .one c => [c]
  | .two c d => [c, 45, d]
def itmIn : Itm → Nat → Bool
  | .one c, s => decide (s = c)
  | .two c d, s => decide (idx c ≤ idx s ∧ idx s ≤ idx d)
def OkItm : Itm → Prop
  | .one c => c ∈ sg
  | .two c d => c ∈ sg ∧ d ∈ sg ∧ idx c ≤ idx d
inductive Form where
  | star | any | sgn (c : Nat) | br (less : Bool) (its : List Itm)
def formT : Form → List Nat
  | .star => [42]
  | .any => [63]
  | .sgn c => [c]
  | .br less its => [91] ++ ((if less then [33] else []) ++ (its.flatMap itmT ++ [93]))
def formD : Form → List Nat
  | .star => [42]
  | .any => sg
  | .sgn c => [c]
  | .br less its => sg.filter fun s => (its.any (itmIn · s)) != less
def OkForm : Form → Prop
  | .sgn c => c ∈ sg
  | .br _ its => its ≠ [] ∧ ∀ i ∈ its, OkItm i
  | _ => True
def MF (m t : List Nat) : Prop := ∃ F, OkForm F ∧ formT F = t ∧ formD F = m ∧ t.length ≤ 100
theorem chn_mem : ∀ (r : List Nat) (a : Nat), Chn (a :: r) → (∀ c ∈ a :: r, c ∈ sg) → ∀ s ∈ sg, s ∈ a :: r ↔ idx a ≤ idx s ∧ idx s ≤ idx ((a :: r).getLastD 0)
  | [], a, _, h, s, hs => by
    rw [List.mem_singleton]
    constructor
    · rintro rfl
      exact ⟨Nat.le_refl _, Nat.le_refl _⟩
    · rintro ⟨h1, h2⟩
      exact idx_inj hs (h a (by simp)) (Nat.le_antisymm h2 h1)
  | b :: r, a, hc, h, s, hs => by
    have hb : b ∈ sg := h b (by simp)
    have ha : a ∈ sg := h a (by simp)
    have ih := chn_mem r b hc.2 (fun c hc => h c (List.mem_cons_of_mem _ hc)) s hs
    have e := (nx_idx ha hb).mp hc.1
    have hl : (a :: b :: r).getLastD 0 = (b :: r).getLastD 0 := by simp
    have hge : idx b ≤ idx ((b :: r).getLastD 0) := by
      have hm : (b :: r).getLastD 0 ∈ b :: r := by
        rw [List.getLastD_eq_getLast?, List.getLast?_eq_some_getLast (by simp : b :: r ≠ [])]
        exact List.getLast_mem _
      exact ((chn_mem r b hc.2 (fun c hc => h c (List.mem_cons_of_mem _ hc)) _ (h _ (List.mem_cons_of_mem _ hm))).mp hm).1
    rw [List.mem_cons, ih, hl]
    constructor
    · rintro (rfl | h2)
      · exact ⟨Nat.le_refl _, by omega⟩
      · omega
    · intro h2
      by_cases h3 : idx s = idx a
      · exact .inl (idx_inj hs ha h3)
      · exact .inr (by omega)
def rendI (r : List Nat) : List Itm := match r with
  | [] => []
  | [a] => [.one a]
  | [a, b] => [.one a, .one b]
  | a :: b :: c :: l => [.two a ((a :: b :: c :: l).getLastD 0)]
theorem rendI_T (r : List Nat) : (rendI r).flatMap itmT = rend r := by
  match r with
  | [] => rfl
  | [a] => rfl
  | [a, b] => rfl
  | a :: b :: c :: l => rfl
theorem last_mem {a : Nat} {r : List Nat} : (a :: r).getLastD 0 ∈ a :: r := by
  rw [List.getLastD_eq_getLast?, List.getLast?_eq_some_getLast (by simp : a :: r ≠ [])]
  exact List.getLast_mem _
theorem rendI_in {r : List Nat} (hc : Chn r) (h : ∀ c ∈ r, c ∈ sg) {s : Nat} (hs : s ∈ sg) : (rendI r).any (itmIn · s) = decide (s ∈ r) := by
  match r, hc, h with
  | [], _, _ => simp [rendI]
  | [a], _, _ => simp [rendI, itmIn]
  | [a, b], _, _ => simp [rendI, itmIn]
  | a :: b :: c :: l, hc, h =>
    have := chn_mem (b :: c :: l) a hc h s hs
    simp only [rendI, List.any_cons, List.any_nil, Bool.or_false, itmIn]
    exact (decide_eq_decide.mpr this).symm
theorem rendI_ok {r : List Nat} (hc : Chn r) (h : ∀ c ∈ r, c ∈ sg) : ∀ i ∈ rendI r, OkItm i := by
  match r, hc, h with
  | [], _, _ => intro i hi; cases hi
  | [a], _, h =>
    intro i hi
    simp only [rendI, List.mem_singleton] at hi
    subst hi
    exact h a (by simp)
  | [a, b], _, h =>
    intro i hi
    simp only [rendI, List.mem_cons, List.mem_nil_iff, or_false] at hi
    rcases hi with rfl | rfl
    · exact h a (by simp)
    · exact h b (by simp)
  | a :: b :: c :: l, hc, h =>
    intro i hi
    simp only [rendI, List.mem_singleton] at hi
    subst hi
    have hm := last_mem (a := a) (r := b :: c :: l)
    exact ⟨h a (by simp), h _ hm, ((chn_mem (b :: c :: l) a hc h _ (h _ hm)).mp hm).1⟩
/-- the runs make up the mark -/
theorem runs_all : ∀ (m : List Nat), (runs m).flatten = m ∧ (∀ r ∈ runs m, Chn r ∧ r ≠ [])
  | [] => ⟨rfl, fun r h => by cases h⟩
  | x :: xs => by
    obtain ⟨e, h⟩ := runs_all xs
    rw [runs_cons]
    split
    · rename_i e2
      rw [e2] at e
      have : xs = [] := e.symm
      subst this
      exact ⟨rfl, fun r hr => by
        rw [List.mem_singleton.mp hr]
        exact ⟨trivial, by simp⟩⟩
    · rename_i r rs e2
      rw [e2] at e h
      have hr := h r (by simp)
      split
      · rename_i hh
        refine ⟨by rw [← e]; rfl, fun q hq => ?_⟩
        rcases List.mem_cons.mp hq with rfl | hq
        · refine ⟨?_, by simp⟩
          cases r with
          | nil => exact absurd rfl hr.2
          | cons y r =>
            simp only [List.head?_cons, Option.some.injEq] at hh
            exact ⟨hh, hr.1⟩
        · exact h q (List.mem_cons_of_mem _ hq)
      · refine ⟨by rw [← e]; rfl, fun q hq => ?_⟩
        rcases List.mem_cons.mp hq with rfl | hq
        · exact ⟨trivial, by simp⟩
        · exact h q hq
theorem runs_in {m : List Nat} (h : ∀ c ∈ m, c ∈ sg) {s : Nat} (hs : s ∈ sg) : ((runs m).flatMap rendI).any (itmIn · s) = decide (s ∈ m) := by
  obtain ⟨e, hr⟩ := runs_all m
  have hsub : ∀ r ∈ runs m, ∀ c ∈ r, c ∈ sg := fun r h1 c h2 => h c (by rw [← e]; exact List.mem_flatten.mpr ⟨r, h1, h2⟩)
  rw [Bool.eq_iff_iff, decide_eq_true_eq]
  constructor
  · intro hh
    obtain ⟨i, hi, h2⟩ := List.any_eq_true.mp hh
    obtain ⟨r, h3, h4⟩ := List.mem_flatMap.mp hi
    have := rendI_in (hr r h3).1 (hsub r h3) hs
    have h5 : (rendI r).any (itmIn · s) = true := List.any_eq_true.mpr ⟨i, h4, h2⟩
    rw [this, decide_eq_true_eq] at h5
    rw [← e]
    exact List.mem_flatten.mpr ⟨r, h3, h5⟩
  · intro hm
    rw [← e] at hm
    obtain ⟨r, h3, h5⟩ := List.mem_flatten.mp hm
    have := rendI_in (hr r h3).1 (hsub r h3) hs
    rw [decide_eq_true h5] at this
    obtain ⟨i, h4, h2⟩ := List.any_eq_true.mp this
    exact List.any_eq_true.mpr ⟨i, List.mem_flatMap.mpr ⟨r, h3, h4⟩, h2⟩
theorem runs_T (m : List Nat) : ((runs m).flatMap rendI).flatMap itmT = (runs m).flatMap rend := by
  rw [List.flatMap_assoc]
  congr 1
  funext r
  exact rendI_T r
/-- what brackets of signs as they stand mean -/
theorem br_mem {its : List Itm} {m : List Nat} {less : Bool} (h : ∀ s ∈ sg, its.any (itmIn · s) = (decide (s ∈ m) != less)) (hf : sg.filter (· ∈ m) = m) : formD (.br less its) = m := by
  simp only [formD]
  conv => rhs; rw [← hf]
  apply List.filter_congr
  intro s hs
  rw [h s hs]
  cases decide (s ∈ m) <;> cases less <;> rfl
theorem ones_in (l : List Nat) (s : Nat) : (l.map Itm.one).any (itmIn · s) = decide (s ∈ l) := by
  rw [Bool.eq_iff_iff, decide_eq_true_eq, List.any_eq_true]
  constructor
  · rintro ⟨i, hi, h⟩
    obtain ⟨c, hc, rfl⟩ := List.mem_map.mp hi
    simp only [itmIn, decide_eq_true_eq] at h
    rw [h]
    exact hc
  · intro h
    exact ⟨.one s, List.mem_map.mpr ⟨s, h, rfl⟩, by simp [itmIn]⟩
theorem ones_T (l : List Nat) : (l.map Itm.one).flatMap itmT = l := by
  induction l with
  | nil => rfl
  | cons c l ih => rw [List.map_cons, List.flatMap_cons, ih]; rfl
theorem twos_in {l : List Nat} (hl : ∀ c ∈ l, c ∈ sg) {s : Nat} (hs : s ∈ sg) : (l.map fun c => Itm.two c c).any (itmIn · s) = decide (s ∈ l) := by
  rw [Bool.eq_iff_iff, decide_eq_true_eq, List.any_eq_true]
  constructor
  · rintro ⟨i, hi, h⟩
    obtain ⟨c, hc, rfl⟩ := List.mem_map.mp hi
    simp only [itmIn, decide_eq_true_eq] at h
    rw [idx_inj hs (hl c hc) (Nat.le_antisymm h.2 h.1)]
    exact hc
  · intro h
    exact ⟨.two s s, List.mem_map.mpr ⟨s, h, rfl⟩, by simp [itmIn]⟩
theorem twos_T (l : List Nat) : (l.map fun c => Itm.two c c).flatMap itmT = (l.map fun c => [c, 45, c]).flatten := by
  induction l with
  | nil => rfl
  | cons c l ih => rw [List.map_cons, List.flatMap_cons, ih]; rfl
end Kb
namespace Kb
open Vl
open L2 (ixN atI)
theorem MF_plain {m : List Nat} (h : IsM m) : MF m (plainM m) := by
  by_cases h1 : m = [42]
  · subst h1
    exact ⟨.star, trivial, rfl, rfl, by decide⟩
  · obtain ⟨hc, hs, hf, hl⟩ := h.sub h1
    have hpl := plainM_len m
    unfold plainM at hpl ⊢
    by_cases h2 : m.length = 1
    · rw [if_pos (.inr h2)] at hpl ⊢
      obtain ⟨c, rfl⟩ := List.length_eq_one_iff.mp h2
      exact ⟨.sgn c, hs c (by simp), rfl, rfl, by simp⟩
    · rw [if_neg (by simp [h1, h2])] at hpl ⊢
      by_cases h3 : m = sg
      · rw [if_pos h3]
        exact ⟨.any, trivial, rfl, h3.symm, by decide⟩
      · rw [if_neg h3] at hpl ⊢
        by_cases h4 : m = []
        · rw [if_pos h4]
          subst h4
          exact ⟨.br true [.two 46 122], ⟨by simp, fun i hi => by rw [List.mem_singleton.mp hi]; exact ⟨by decide, by decide, by decide⟩⟩, rfl, by decide, by decide⟩
        · rw [if_neg h4] at hpl ⊢
          obtain ⟨e, hr⟩ := runs_all m
          refine ⟨.br false ((runs m).flatMap rendI), ⟨?_, ?_⟩, ?_, br_mem (fun s hs' => by rw [runs_in hs hs', Bool.bne_false]) hf, by omega⟩
          · intro e2
            obtain ⟨a, m', rfl⟩ := List.exists_cons_of_ne_nil h4
            have := runs_in hs (hs a (by simp))
            rw [e2] at this
            simp at this
          · intro i hi
            obtain ⟨r, h5, h6⟩ := List.mem_flatMap.mp hi
            exact rendI_ok (hr r h5).1 (fun c hc => hs c (by rw [← e]; exact List.mem_flatten.mpr ⟨r, h5, hc⟩)) i h6
          · simp only [formT, runs_T, Bool.false_eq_true, if_false, List.nil_append, List.append_assoc]
theorem flat3_len (l : List Nat) : (l.map fun c => [c, 45, c]).flatten.length = 3 * l.length := by
  induction l with
  | nil => rfl
  | cons c l ih =>
    rw [List.map_cons, List.flatten_cons, List.length_append, ih]
    simp only [List.length_cons, List.length_nil]
    omega
theorem sum3_len (l : List Nat) : ((l.map fun c => [c, 45, c]).map (·.length)).sum = 3 * l.length := by
  induction l with
  | nil => rfl
  | cons c l ih =>
    simp only [List.map_cons, List.sum_cons, ih, List.length_cons, List.length_nil]
    omega
theorem cutD_first (m : List Nat) : cutD m none (some 1) = m.take 1 := by
  unfold cutD
  rw [HT.sIx_none]
  have : HT.sIx m.length m.length (some 1) = min 1 m.length := HT.sIx_nat m.length m.length 1
  rw [this, List.drop_zero, Nat.sub_zero]
  cases m with
  | nil => rfl
  | cons a m => rw [Nat.min_eq_left (by simp)]
theorem other_ok {m : List Nat} (h : IsM m) (n : Int) : ∃ t, f__law_mark_other [.str m, .int n] = .ok (.str t) ∧ MF m t := by
  have e0 : f__law_mark_other [.str m, .int n] = resOf (b__law_mark_other [some (.imm (.str m)), some (.imm (.int n)), none, none]) := rfl
  rw [e0]
  unfold b__law_mark_other
  have hlen : (sg.filter (fun c => !decide (c ∈ m))).length ≤ 27 := List.length_filter_le _ _
  have hless : ∀ c ∈ sg.filter (fun c => !decide (c ∈ m)), c ∈ sg := fun c hc => (List.mem_filter.mp hc).1
  have hlm : ∀ s ∈ sg, decide (s ∈ sg.filter (fun c => !decide (c ∈ m))) = !decide (s ∈ m) := fun s hs => by
    rw [Bool.eq_iff_iff, decide_eq_true_eq, List.mem_filter]
    exact ⟨fun h => h.2, fun h => ⟨hs, h⟩⟩
  have hle : sg.filter (fun c => !decide (c ∈ m)) = [] → ∀ s ∈ sg, s ∈ m := fun e s hs => by
    have := hlm s hs
    rw [e] at this
    simpa using this
  have ec := compL_pure (vs := [3]) (st := stN 3) (t := p1__law_mark_other) (e := p2__law_mark_other) (g := fun c : Nat => Da.str [c]) (b := fun c => !decide (c ∈ m)) (y := fun c => Da.str [c]) sg []
    [some (.imm (.str m)), some (.imm (.int n)), none, none] (ρw := [some (.imm (.str m)), some (.imm (.int n)), none, none]) rfl (fun c _ => by
      refine ⟨_, rfl, ?_, fun _ => ?_, rfl⟩
      · simp only [p1__law_mark_other, fSeq, fAsg, fAsgN, fRet, fRetO, fExpr, fTo, fPar2, fPar3, fAug, fIf, fBin, fBinT, fTru, fAnd, fOr, fNot, fAndV, fOrV, fNotV, fNeg, fName, fPeek, fD, fN, fLst, fTup, fCons, fCall, fCallN, fDef, fFld, fInt, fSl, fIt, fItA, fStuck, fCv, fCn, fCd, stN, stCons, stNil, stTup, mB, mP, mO, look, lookA, asBl, asInt, vAdd, vSub, vMul, vFdiv, vMod, vCmp, vIs, isNon, vAugAdd, fApp, fExt, fMs, fMn, List.getElem?_cons_zero, List.getElem?_cons_succ, List.getElem?_nil, List.set_cons_zero, List.set_cons_succ, List.length_cons, List.length_nil, Option.bind_some, Option.map_some, if_true, if_false, reduceIte, List.nil_append, List.cons_append, List.append_nil, resOf, Nat.reduceAdd, Nat.reduceEqDiff, Nat.reduceLT, Nat.reduceLeDiff, Int.reduceLT, Int.reduceLE, Int.reduceNeg, and_self, true_and, and_true, decide_true, decide_false, Bool.false_eq_true, Bool.not_true, Bool.not_false, Int.reduceAbs, Int.natAbs_neg, or_true, true_or, vIx, vLen, vAbs, vSum, vMax, vMin, decide_eq_true_eq, Bool.not_eq_true, vNotin_one]
      · simp only [p2__law_mark_other, fSeq, fAsg, fAsgN, fRet, fRetO, fExpr, fTo, fPar2, fPar3, fAug, fIf, fBin, fBinT, fTru, fAnd, fOr, fNot, fAndV, fOrV, fNotV, fNeg, fName, fPeek, fD, fN, fLst, fTup, fCons, fCall, fCallN, fDef, fFld, fInt, fSl, fIt, fItA, fStuck, fCv, fCn, fCd, stN, stCons, stNil, stTup, mB, mP, mO, look, lookA, asBl, asInt, vAdd, vSub, vMul, vFdiv, vMod, vCmp, vIs, isNon, vAugAdd, fApp, fExt, fMs, fMn, List.getElem?_cons_zero, List.getElem?_cons_succ, List.getElem?_nil, List.set_cons_zero, List.set_cons_succ, List.length_cons, List.length_nil, Option.bind_some, Option.map_some, if_true, if_false, reduceIte, List.nil_append, List.cons_append, List.append_nil, resOf, Nat.reduceAdd, Nat.reduceEqDiff, Nat.reduceLT, Nat.reduceLeDiff, Int.reduceLT, Int.reduceLE, Int.reduceNeg, and_self, true_and, and_true, decide_true, decide_false, Bool.false_eq_true, Bool.not_true, Bool.not_false, Int.reduceAbs, Int.natAbs_neg, or_true, true_or, vIx, vLen, vAbs, vSum, vMax, vMin, decide_eq_true_eq, Bool.not_eq_true]) (by decide)
  rw [List.nil_append] at ec
  generalize sg.filter (fun c => !decide (c ∈ m)) = ls at ec hlen hless hlm hle
  have ej := sJoin_one ls (by omega)
  rw [fSeq_nx (ρ' := [some (.imm (.str m)), some (.imm (.int n)), some (.imm (.str ls)), none]) (by simp only [fSeq, fAsg, fAsgN, fRet, fRetO, fExpr, fTo, fPar2, fPar3, fAug, fIf, fBin, fBinT, fTru, fAnd, fOr, fNot, fAndV, fOrV, fNotV, fNeg, fName, fPeek, fD, fN, fLst, fTup, fCons, fCall, fCallN, fDef, fFld, fInt, fSl, fIt, fItA, fStuck, fCv, fCn, fCd, stN, stCons, stNil, stTup, mB, mP, mO, look, lookA, asBl, asInt, vAdd, vSub, vMul, vFdiv, vMod, vCmp, vIs, isNon, vAugAdd, fApp, fExt, fMs, fMn, List.getElem?_cons_zero, List.getElem?_cons_succ, List.getElem?_nil, List.set_cons_zero, List.set_cons_succ, List.length_cons, List.length_nil, Option.bind_some, Option.map_some, if_true, if_false, reduceIte, List.nil_append, List.cons_append, List.append_nil, resOf, Nat.reduceAdd, Nat.reduceEqDiff, Nat.reduceLT, Nat.reduceLeDiff, Int.reduceLT, Int.reduceLE, Int.reduceNeg, and_self, true_and, and_true, decide_true, decide_false, Bool.false_eq_true, Bool.not_true, Bool.not_false, Int.reduceAbs, Int.natAbs_neg, or_true, true_or, vIx, vLen, vAbs, vSum, vMax, vMin, decide_eq_true_eq, Bool.not_eq_true, signs_eq, fComp, itemsS, ec, ej])]
  by_cases h1 : m = [42]
  · refine ⟨[42], ?_, ?_⟩
    · rw [fSeq_rt (d := .str [42]) (ρ' := [some (.imm (.str m)), some (.imm (.int n)), some (.imm (.str ls)), none]) (by simp only [fSeq, fAsg, fAsgN, fRet, fRetO, fExpr, fTo, fPar2, fPar3, fAug, fIf, fBin, fBinT, fTru, fAnd, fOr, fNot, fAndV, fOrV, fNotV, fNeg, fName, fPeek, fD, fN, fLst, fTup, fCons, fCall, fCallN, fDef, fFld, fInt, fSl, fIt, fItA, fStuck, fCv, fCn, fCd, stN, stCons, stNil, stTup, mB, mP, mO, look, lookA, asBl, asInt, vAdd, vSub, vMul, vFdiv, vMod, vCmp, vIs, isNon, vAugAdd, fApp, fExt, fMs, fMn, List.getElem?_cons_zero, List.getElem?_cons_succ, List.getElem?_nil, List.set_cons_zero, List.set_cons_succ, List.length_cons, List.length_nil, Option.bind_some, Option.map_some, if_true, if_false, reduceIte, List.nil_append, List.cons_append, List.append_nil, resOf, Nat.reduceAdd, Nat.reduceEqDiff, Nat.reduceLT, Nat.reduceLeDiff, Int.reduceLT, Int.reduceLE, Int.reduceNeg, and_self, true_and, and_true, decide_true, decide_false, Bool.false_eq_true, Bool.not_true, Bool.not_false, Int.reduceAbs, Int.natAbs_neg, or_true, true_or, vIx, vLen, vAbs, vSum, vMax, vMin, decide_eq_true_eq, Bool.not_eq_true, vEq_str, h1])]
      rfl
    · subst h1
      exact ⟨.star, trivial, rfl, rfl, by decide⟩
  obtain ⟨hc, hs, hf, hl⟩ := h.sub h1
  by_cases h2 : m = []
  · have k0 : 0 ≤ n % 3 := Int.emod_nonneg _ (by decide)
    have k1 : n % 3 < 3 := Int.emod_lt_of_pos _ (by decide)
    have k : n % 3 = 0 ∨ n % 3 = 1 ∨ n % 3 = 2 := by omega
    have key : ∀ (g : EM Fl) t, atI [Da.str [91, 33, 46, 45, 122, 93], .str [91, 33, 122, 45, 122, 97, 45, 121, 46, 93], .str [91, 33, 46, 97, 45, 122, 93]] (n % 3) = some (.str t) → MF [] t → ∃ t, resOf (fSeq (fIf (fOr (fBinT (vEq false) (fPeek 0) (fD (mP (.str [42])))) (fBinT (vEq false) (fPeek 0) (fD (mP (.str [])))))
        (fRet (fIf (fBinT (vEq false) (fPeek 0) (fD (mP (.str [42])))) (mP (.str [42])) (fBin vIx (fD (fTup (fCons (mP (.str [91, 33, 46, 45, 122, 93])) (fCons (mP (.str [91, 33, 122, 45, 122, 97, 45, 121, 46, 93])) (fCons (mP (.str [91, 33, 46, 97, 45, 122, 93])) (mP [])))))) (fD (fBin vMod (fPeek 1) (fD (mP (.int 3))))))))
        (mP .nx)) g [some (.imm (.str m)), some (.imm (.int n)), some (.imm (.str ls)), none]) = .ok (.str t) ∧ MF m t := fun g t e hm => by
      refine ⟨t, ?_, by rw [h2]; exact hm⟩
      rw [fSeq_rt (d := .str t) (ρ' := [some (.imm (.str m)), some (.imm (.int n)), some (.imm (.str ls)), none]) (by
        have n42 : ¬ ([] : List Nat) = [42] := by decide
        simp only [fSeq, fAsg, fAsgN, fRet, fRetO, fExpr, fTo, fPar2, fPar3, fAug, fIf, fBin, fBinT, fTru, fAnd, fOr, fNot, fAndV, fOrV, fNotV, fNeg, fName, fPeek, fD, fN, fLst, fTup, fCons, fCall, fCallN, fDef, fFld, fInt, fSl, fIt, fItA, fStuck, fCv, fCn, fCd, stN, stCons, stNil, stTup, mB, mP, mO, look, lookA, asBl, asInt, vAdd, vSub, vMul, vFdiv, vMod, vCmp, vIs, isNon, vAugAdd, fApp, fExt, fMs, fMn, List.getElem?_cons_zero, List.getElem?_cons_succ, List.getElem?_nil, List.set_cons_zero, List.set_cons_succ, List.length_cons, List.length_nil, Option.bind_some, Option.map_some, if_true, if_false, reduceIte, List.nil_append, List.cons_append, List.append_nil, resOf, Nat.reduceAdd, Nat.reduceEqDiff, Nat.reduceLT, Nat.reduceLeDiff, Int.reduceLT, Int.reduceLE, Int.reduceNeg, and_self, true_and, and_true, decide_true, decide_false, Bool.false_eq_true, Bool.not_true, Bool.not_false, Int.reduceAbs, Int.natAbs_neg, or_true, true_or, vIx, vLen, vAbs, vSum, vMax, vMin, decide_eq_true_eq, Bool.not_eq_true, vEq_str, h2, n42, e, Nat.reduceLeDiff])]
      rfl
    rcases k with k | k | k
    · exact key _ _ (by rw [k]; rfl) ⟨.br true [.two 46 122], ⟨by simp, fun i hi => by rw [List.mem_singleton.mp hi]; exact ⟨by decide, by decide, by decide⟩⟩, rfl, by decide, by decide⟩
    · exact key _ _ (by rw [k]; rfl) ⟨.br true [.two 122 122, .two 97 121, .one 46], ⟨by simp, fun i hi => by
        simp only [List.mem_cons, List.mem_nil_iff, or_false] at hi
        rcases hi with rfl | rfl | rfl
        · exact ⟨by decide, by decide, by decide⟩
        · exact ⟨by decide, by decide, by decide⟩
        · show (46 : Nat) ∈ sg
          decide⟩, rfl, by decide, by decide⟩
    · exact key _ _ (by rw [k]; rfl) ⟨.br true [.one 46, .two 97 122], ⟨by simp, fun i hi => by
        simp only [List.mem_cons, List.mem_nil_iff, or_false] at hi
        rcases hi with rfl | rfl
        · show (46 : Nat) ∈ sg
          decide
        · exact ⟨by decide, by decide, by decide⟩⟩, rfl, by decide, by decide⟩
  rw [fSeq_nx (ρ' := [some (.imm (.str m)), some (.imm (.int n)), some (.imm (.str ls)), none]) (by simp only [fSeq, fAsg, fAsgN, fRet, fRetO, fExpr, fTo, fPar2, fPar3, fAug, fIf, fBin, fBinT, fTru, fAnd, fOr, fNot, fAndV, fOrV, fNotV, fNeg, fName, fPeek, fD, fN, fLst, fTup, fCons, fCall, fCallN, fDef, fFld, fInt, fSl, fIt, fItA, fStuck, fCv, fCn, fCd, stN, stCons, stNil, stTup, mB, mP, mO, look, lookA, asBl, asInt, vAdd, vSub, vMul, vFdiv, vMod, vCmp, vIs, isNon, vAugAdd, fApp, fExt, fMs, fMn, List.getElem?_cons_zero, List.getElem?_cons_succ, List.getElem?_nil, List.set_cons_zero, List.set_cons_succ, List.length_cons, List.length_nil, Option.bind_some, Option.map_some, if_true, if_false, reduceIte, List.nil_append, List.cons_append, List.append_nil, resOf, Nat.reduceAdd, Nat.reduceEqDiff, Nat.reduceLT, Nat.reduceLeDiff, Int.reduceLT, Int.reduceLE, Int.reduceNeg, and_self, true_and, and_true, decide_true, decide_false, Bool.false_eq_true, Bool.not_true, Bool.not_false, Int.reduceAbs, Int.natAbs_neg, or_true, true_or, vIx, vLen, vAbs, vSum, vMax, vMin, decide_eq_true_eq, Bool.not_eq_true, vEq_str, h1, h2])]
  have hl' : m.length ≤ 16777216 := by omega
  have hrl : m.reverse.length = m.length := List.length_reverse
  have ht1 : (m.take 1).length ≤ 1 := by rw [List.length_take]; omega
  by_cases a0 : n % 4 = 0
  · have z1 : 0 + 1 + m.reverse.length ≤ 16777216 := by omega
    have z2 : ([91] ++ m.reverse).length + (m.take 1).length ≤ 16777216 := by simp only [List.length_append, List.length_cons, List.length_nil]; omega
    have z3 : ([91] ++ m.reverse ++ m.take 1).length + (0 + 1) ≤ 16777216 := by simp only [List.length_append, List.length_cons, List.length_nil]; omega
    refine ⟨[91] ++ m.reverse ++ m.take 1 ++ [93], ?_, ?_⟩
    · rw [fSeq_rt (d := .str ([91] ++ m.reverse ++ m.take 1 ++ [93])) (ρ' := [some (.imm (.str m)), some (.imm (.int n)), some (.imm (.str ls)), none]) (by
        have y1 : vAdd (.str [91]) (.str m.reverse) = some (.str ([91] ++ m.reverse)) := if_pos z1
        have y2 : vAdd (.str ([91] ++ m.reverse)) (.str (m.take 1)) = some (.str ([91] ++ m.reverse ++ m.take 1)) := if_pos z2
        have y3 : vAdd (.str ([91] ++ m.reverse ++ m.take 1)) (.str [93]) = some (.str ([91] ++ m.reverse ++ m.take 1 ++ [93])) := if_pos z3
        simp only [fIf, fBinT, fBin, fD, fRet, fPeek, fSl, fRev, fInt, mB, mP, mO, look, asBl, asInt, vMod, Int.reduceLT, if_true, List.getElem?_cons_zero, List.getElem?_cons_succ, vEq_int, a0, decide_true, vSlS, hl', cutD_first, y1, y2, y3, Option.map_some])]
      rfl
    · refine ⟨.br false ((m.reverse ++ m.take 1).map .one), ⟨?_, ?_⟩, ?_, br_mem (fun s hs' => ?_) hf, ?_⟩
      · intro e
        have := List.map_eq_nil_iff.mp e
        rw [List.append_eq_nil_iff, List.reverse_eq_nil_iff] at this
        exact h2 this.1
      · intro i hi
        obtain ⟨c, hc', rfl⟩ := List.mem_map.mp hi
        rcases List.mem_append.mp hc' with h | h
        · exact hs c (List.mem_reverse.mp h)
        · exact hs c (List.mem_of_mem_take h)
      · simp only [formT, ones_T, Bool.false_eq_true, if_false, List.nil_append, List.append_assoc]
      · rw [ones_in, Bool.bne_false, Bool.eq_iff_iff, decide_eq_true_eq, decide_eq_true_eq, List.mem_append, List.mem_reverse]
        exact ⟨fun h => h.elim id List.mem_of_mem_take, .inl⟩
      · simp only [List.length_append, List.length_cons, List.length_nil]; omega
  rw [fSeq_nx (ρ' := [some (.imm (.str m)), some (.imm (.int n)), some (.imm (.str ls)), none]) (by simp only [fSeq, fAsg, fAsgN, fRet, fRetO, fExpr, fTo, fPar2, fPar3, fAug, fIf, fBin, fBinT, fTru, fAnd, fOr, fNot, fAndV, fOrV, fNotV, fNeg, fName, fPeek, fD, fN, fLst, fTup, fCons, fCall, fCallN, fDef, fFld, fInt, fSl, fIt, fItA, fStuck, fCv, fCn, fCd, stN, stCons, stNil, stTup, mB, mP, mO, look, lookA, asBl, asInt, vAdd, vSub, vMul, vFdiv, vMod, vCmp, vIs, isNon, vAugAdd, fApp, fExt, fMs, fMn, List.getElem?_cons_zero, List.getElem?_cons_succ, List.getElem?_nil, List.set_cons_zero, List.set_cons_succ, List.length_cons, List.length_nil, Option.bind_some, Option.map_some, if_true, if_false, reduceIte, List.nil_append, List.cons_append, List.append_nil, resOf, Nat.reduceAdd, Nat.reduceEqDiff, Nat.reduceLT, Nat.reduceLeDiff, Int.reduceLT, Int.reduceLE, Int.reduceNeg, and_self, true_and, and_true, decide_true, decide_false, Bool.false_eq_true, Bool.not_true, Bool.not_false, Int.reduceAbs, Int.natAbs_neg, or_true, true_or, vIx, vLen, vAbs, vSum, vMax, vMin, decide_eq_true_eq, Bool.not_eq_true, vEq_int, a0])]
  by_cases a1 : n % 4 = 1
  · by_cases hl0 : ls = []
    · refine ⟨[91, 46, 45, 122, 93], ?_, ?_⟩
      · rw [fSeq_rt (d := .str [91, 46, 45, 122, 93]) (ρ' := [some (.imm (.str m)), some (.imm (.int n)), some (.imm (.str ls)), none]) (by simp only [fSeq, fAsg, fAsgN, fRet, fRetO, fExpr, fTo, fPar2, fPar3, fAug, fIf, fBin, fBinT, fTru, fAnd, fOr, fNot, fAndV, fOrV, fNotV, fNeg, fName, fPeek, fD, fN, fLst, fTup, fCons, fCall, fCallN, fDef, fFld, fInt, fSl, fIt, fItA, fStuck, fCv, fCn, fCd, stN, stCons, stNil, stTup, mB, mP, mO, look, lookA, asBl, asInt, vAdd, vSub, vMul, vFdiv, vMod, vCmp, vIs, isNon, vAugAdd, fApp, fExt, fMs, fMn, List.getElem?_cons_zero, List.getElem?_cons_succ, List.getElem?_nil, List.set_cons_zero, List.set_cons_succ, List.length_cons, List.length_nil, Option.bind_some, Option.map_some, if_true, if_false, reduceIte, List.nil_append, List.cons_append, List.append_nil, resOf, Nat.reduceAdd, Nat.reduceEqDiff, Nat.reduceLT, Nat.reduceLeDiff, Int.reduceLT, Int.reduceLE, Int.reduceNeg, and_self, true_and, and_true, decide_true, decide_false, Bool.false_eq_true, Bool.not_true, Bool.not_false, Int.reduceAbs, Int.natAbs_neg, or_true, true_or, vIx, vLen, vAbs, vSum, vMax, vMin, decide_eq_true_eq, Bool.not_eq_true, vEq_int, vNe_str, a1, hl0])]
        rfl
      · refine ⟨.br false [.two 46 122], ⟨by simp, fun i hi => by rw [List.mem_singleton.mp hi]; exact ⟨by decide, by decide, by decide⟩⟩, rfl, ?_, by decide⟩
        have hm : m = sg := by rw [← hf]; exact List.filter_eq_self.mpr fun s hs' => by simpa using hle hl0 s hs'
        rw [hm]
        decide
    · have z1 : 0 + 1 + 1 + ls.length ≤ 16777216 := by omega
      have z3 : ([91, 33] ++ ls).length + (0 + 1) ≤ 16777216 := by simp only [List.length_append, List.length_cons, List.length_nil]; omega
      have y1 : vAdd (.str [91, 33]) (.str ls) = some (.str ([91, 33] ++ ls)) := if_pos z1
      have y3 : vAdd (.str ([91, 33] ++ ls)) (.str [93]) = some (.str ([91, 33] ++ ls ++ [93])) := if_pos z3
      refine ⟨[91, 33] ++ ls ++ [93], ?_, ?_⟩
      · rw [fSeq_rt (d := .str ([91, 33] ++ ls ++ [93])) (ρ' := [some (.imm (.str m)), some (.imm (.int n)), some (.imm (.str ls)), none]) (by
          simp only [fIf, fBinT, fBin, fD, fRet, fPeek, mB, mP, mO, look, asBl, asInt, vMod, Int.reduceLT, if_true, List.getElem?_cons_zero, List.getElem?_cons_succ, vEq_int, vNe_str, a1, hl0, decide_true, decide_false, Bool.not_false, hl', y1, y3])]
        rfl
      · refine ⟨.br true (ls.map .one), ⟨by simpa using hl0, fun i hi => ?_⟩, ?_, br_mem (fun s hs' => ?_) hf, ?_⟩
        · obtain ⟨c, hc', rfl⟩ := List.mem_map.mp hi
          exact hless c hc'
        · simp only [formT, ones_T, if_true, List.append_assoc, List.cons_append, List.nil_append]
        · rw [ones_in, hlm s hs', Bool.bne_true]
        · simp only [List.length_append, List.length_cons, List.length_nil]; omega
  rw [fSeq_nx (ρ' := [some (.imm (.str m)), some (.imm (.int n)), some (.imm (.str ls)), none]) (by simp only [fSeq, fAsg, fAsgN, fRet, fRetO, fExpr, fTo, fPar2, fPar3, fAug, fIf, fBin, fBinT, fTru, fAnd, fOr, fNot, fAndV, fOrV, fNotV, fNeg, fName, fPeek, fD, fN, fLst, fTup, fCons, fCall, fCallN, fDef, fFld, fInt, fSl, fIt, fItA, fStuck, fCv, fCn, fCd, stN, stCons, stNil, stTup, mB, mP, mO, look, lookA, asBl, asInt, vAdd, vSub, vMul, vFdiv, vMod, vCmp, vIs, isNon, vAugAdd, fApp, fExt, fMs, fMn, List.getElem?_cons_zero, List.getElem?_cons_succ, List.getElem?_nil, List.set_cons_zero, List.set_cons_succ, List.length_cons, List.length_nil, Option.bind_some, Option.map_some, if_true, if_false, reduceIte, List.nil_append, List.cons_append, List.append_nil, resOf, Nat.reduceAdd, Nat.reduceEqDiff, Nat.reduceLT, Nat.reduceLeDiff, Int.reduceLT, Int.reduceLE, Int.reduceNeg, and_self, true_and, and_true, decide_true, decide_false, Bool.false_eq_true, Bool.not_true, Bool.not_false, Int.reduceAbs, Int.natAbs_neg, or_true, true_or, vIx, vLen, vAbs, vSum, vMax, vMin, decide_eq_true_eq, Bool.not_eq_true, vEq_int, a1])]
  by_cases a2 : n % 4 = 2
  · have hmm : ∀ c : Nat, ([c] ++ [45] ++ [c]) = [c, 45, c] := fun c => rfl
    have ec2 := compL_all (vs := [3]) (st := stN 3) (e := p3__law_mark_other) (g := fun c : Nat => Da.str [c]) (y := fun c => Da.str [c, 45, c]) m
      [some (.imm (.str m)), some (.imm (.int n)), some (.imm (.str ls)), none] (ρw := [some (.imm (.str m)), some (.imm (.int n)), some (.imm (.str ls)), none]) rfl (fun c _ => by
        refine ⟨_, rfl, ?_, rfl⟩
        simp only [p3__law_mark_other, fSeq, fAsg, fAsgN, fRet, fRetO, fExpr, fTo, fPar2, fPar3, fAug, fIf, fBin, fBinT, fTru, fAnd, fOr, fNot, fAndV, fOrV, fNotV, fNeg, fName, fPeek, fD, fN, fLst, fTup, fCons, fCall, fCallN, fDef, fFld, fInt, fSl, fIt, fItA, fStuck, fCv, fCn, fCd, stN, stCons, stNil, stTup, mB, mP, mO, look, lookA, asBl, asInt, vAdd, vSub, vMul, vFdiv, vMod, vCmp, vIs, isNon, vAugAdd, fApp, fExt, fMs, fMn, List.getElem?_cons_zero, List.getElem?_cons_succ, List.getElem?_nil, List.set_cons_zero, List.set_cons_succ, List.length_cons, List.length_nil, Option.bind_some, Option.map_some, if_true, if_false, reduceIte, List.nil_append, List.cons_append, List.append_nil, resOf, Nat.reduceAdd, Nat.reduceEqDiff, Nat.reduceLT, Nat.reduceLeDiff, Int.reduceLT, Int.reduceLE, Int.reduceNeg, and_self, true_and, and_true, decide_true, decide_false, Bool.false_eq_true, Bool.not_true, Bool.not_false, Int.reduceAbs, Int.natAbs_neg, or_true, true_or, vIx, vLen, vAbs, vSum, vMax, vMin, decide_eq_true_eq, Bool.not_eq_true, Nat.reduceLeDiff]) hl'
    have ej2 := sJoin_map [] (m.map fun c => [c, 45, c]) (by rw [sum3_len, List.length_map]; simp; omega)
    rw [joinN_nil, List.map_map] at ej2
    have eq3 : (m.map (Da.str ∘ fun c => [c, 45, c])) = m.map fun c => Da.str [c, 45, c] := rfl
    rw [eq3] at ej2
    have hl3 := flat3_len m
    have z1 : 0 + 1 + (m.map fun c => [c, 45, c]).flatten.length ≤ 16777216 := by omega
    have z3 : ([91] ++ (m.map fun c => [c, 45, c]).flatten).length + (0 + 1) ≤ 16777216 := by simp only [List.length_append, List.length_cons, List.length_nil]; omega
    have y1 : vAdd (.str [91]) (.str (m.map fun c => [c, 45, c]).flatten) = some (.str ([91] ++ (m.map fun c => [c, 45, c]).flatten)) := if_pos z1
    have y3 : vAdd (.str ([91] ++ (m.map fun c => [c, 45, c]).flatten)) (.str [93]) = some (.str ([91] ++ (m.map fun c => [c, 45, c]).flatten ++ [93])) := if_pos z3
    refine ⟨[91] ++ (m.map fun c => [c, 45, c]).flatten ++ [93], ?_, ?_⟩
    · rw [fSeq_rt (d := .str ([91] ++ (m.map fun c => [c, 45, c]).flatten ++ [93])) (ρ' := [some (.imm (.str m)), some (.imm (.int n)), some (.imm (.str ls)), none]) (by
        simp only [fIf, fBinT, fBin, fD, fN, fRet, fPeek, fName, fMs, fCons, fComp, fIt, itemsS, lookA, mB, mO, look, asBl, asInt, vMod, Int.reduceLT, if_true, List.getElem?_cons_zero, List.getElem?_cons_succ, vEq_int, a2, decide_true, hl', mP, ec2, ej2, y1, y3])]
      rfl
    · refine ⟨.br false (m.map fun c => .two c c), ⟨by simpa using h2, fun i hi => ?_⟩, ?_, br_mem (fun s hs' => ?_) hf, ?_⟩
      · obtain ⟨c, hc', rfl⟩ := List.mem_map.mp hi
        exact ⟨hs c hc', hs c hc', Nat.le_refl _⟩
      · simp only [formT, twos_T, Bool.false_eq_true, if_false, List.nil_append, List.append_assoc]
      · rw [twos_in hs hs', Bool.bne_false]
      · simp only [List.length_append, List.length_cons, List.length_nil]; omega
  rw [fSeq_nx (ρ' := [some (.imm (.str m)), some (.imm (.int n)), some (.imm (.str ls)), none]) (by simp only [fSeq, fAsg, fAsgN, fRet, fRetO, fExpr, fTo, fPar2, fPar3, fAug, fIf, fBin, fBinT, fTru, fAnd, fOr, fNot, fAndV, fOrV, fNotV, fNeg, fName, fPeek, fD, fN, fLst, fTup, fCons, fCall, fCallN, fDef, fFld, fInt, fSl, fIt, fItA, fStuck, fCv, fCn, fCd, stN, stCons, stNil, stTup, mB, mP, mO, look, lookA, asBl, asInt, vAdd, vSub, vMul, vFdiv, vMod, vCmp, vIs, isNon, vAugAdd, fApp, fExt, fMs, fMn, List.getElem?_cons_zero, List.getElem?_cons_succ, List.getElem?_nil, List.set_cons_zero, List.set_cons_succ, List.length_cons, List.length_nil, Option.bind_some, Option.map_some, if_true, if_false, reduceIte, List.nil_append, List.cons_append, List.append_nil, resOf, Nat.reduceAdd, Nat.reduceEqDiff, Nat.reduceLT, Nat.reduceLeDiff, Int.reduceLT, Int.reduceLE, Int.reduceNeg, and_self, true_and, and_true, decide_true, decide_false, Bool.false_eq_true, Bool.not_true, Bool.not_false, Int.reduceAbs, Int.natAbs_neg, or_true, true_or, vIx, vLen, vAbs, vSum, vMax, vMin, decide_eq_true_eq, Bool.not_eq_true, vEq_int, a2])]
  refine ⟨plainM m, ?_, MF_plain h⟩
  have := mark_plain_eq h
  simp only [fSeq, fAsg, fAsgN, fRet, fRetO, fExpr, fTo, fPar2, fPar3, fAug, fIf, fBin, fBinT, fTru, fAnd, fOr, fNot, fAndV, fOrV, fNotV, fNeg, fName, fPeek, fD, fN, fLst, fTup, fCons, fCall, fCallN, fDef, fFld, fInt, fSl, fIt, fItA, fStuck, fCv, fCn, fCd, stN, stCons, stNil, stTup, mB, mP, mO, look, lookA, asBl, asInt, vAdd, vSub, vMul, vFdiv, vMod, vCmp, vIs, isNon, vAugAdd, fApp, fExt, fMs, fMn, List.getElem?_cons_zero, List.getElem?_cons_succ, List.getElem?_nil, List.set_cons_zero, List.set_cons_succ, List.length_cons, List.length_nil, Option.bind_some, Option.map_some, if_true, if_false, reduceIte, List.nil_append, List.cons_append, List.append_nil, resOf, Nat.reduceAdd, Nat.reduceEqDiff, Nat.reduceLT, Nat.reduceLeDiff, Int.reduceLT, Int.reduceLE, Int.reduceNeg, and_self, true_and, and_true, decide_true, decide_false, Bool.false_eq_true, Bool.not_true, Bool.not_false, Int.reduceAbs, Int.natAbs_neg, or_true, true_or, vIx, vLen, vAbs, vSum, vMax, vMin, decide_eq_true_eq, Bool.not_eq_true, this]
end Kb
namespace Kb
open Vl
open L2 (ixN atI)
theorem flat_len (l : List (List Nat)) : l.flatten.length = (l.map (·.length)).sum := List.length_flatten
theorem compL_strs {α : Type} {vs : List Nat} {st : Da → Env → Option Env} {e : EM Da} {ρw : Env} {g : α → Da} {y : α → List Nat} (xs : List α) (ρ : Env)
    (hw : wipeE ρ vs = ρw) (h : ∀ x ∈ xs, ∃ ρd, st (g x) ρw = some ρd ∧ e ρd = .ok (.str (y x)) ρd ∧ wipeE ρd vs = ρw) (hl : xs.length ≤ 16777216) :
    compL vs st (mP true) e (xs.map g) [] ρ = .ok ((xs.map y).map .str) ρw := by
  rw [compL_all (y := fun x => .str (y x)) xs ρ hw h hl, List.map_map]
  rfl
theorem joinN_len (a : List Nat) : ∀ ls : List (List Nat), (joinN a ls).length ≤ (ls.map (·.length)).sum + ls.length * a.length
  | [] => by simp [joinN]
  | [p] => by simp [joinN]
  | p :: q :: r => by
    have := joinN_len a (q :: r)
    simp only [joinN, List.length_append, List.map_cons, List.sum_cons, List.length_cons, Nat.add_mul] at *
    omega
theorem cutD_nat {α : Type} (xs : List α) (a b : Nat) : cutD xs (some (a : Int)) (some (b : Int)) = (xs.drop a).take (b - a) := by
  unfold cutD
  rw [HT.sIx_nat, HT.sIx_nat]
  by_cases h : a < xs.length
  · rw [Nat.min_eq_left (Nat.le_of_lt h)]
    by_cases h2 : b ≤ xs.length
    · rw [Nat.min_eq_left h2]
    · rw [Nat.min_eq_right (by omega), List.take_of_length_le (by rw [List.length_drop]; omega), List.take_of_length_le (by rw [List.length_drop]; omega)]
  · rw [Nat.min_eq_right (by omega : xs.length ≤ a), List.drop_length, List.drop_of_length_le (by omega : xs.length ≤ a), List.take_nil, List.take_nil]
theorem whileN_stop {t : EM Bool} {b : EM Fl} {n : Nat} {ρ ρ' : Env} (hn : 0 < n) (h : t ρ = .ok false ρ') : whileN t b n ρ = .ok .nx ρ' := by
  cases n with
  | zero => omega
  | succ n => simp only [whileN, mB, mP, h, Bool.false_eq_true, if_false]
theorem whileN_step {t : EM Bool} {b : EM Fl} {n : Nat} {ρ ρ' ρ2 : Env} (h : t ρ = .ok true ρ') (h2 : b ρ' = .ok .nx ρ2) : whileN t b (n + 1) ρ = whileN t b n ρ2 := by
  simp only [whileN, mB, h, if_true, h2]
end Kb
namespace Kb
open Vl
open L2 (ixN atI)
inductive All2 {α β : Type} (R : α → β → Prop) : List α → List β → Prop
  | nil : All2 R [] []
  | cons {a : α} {b : β} {as : List α} {bs : List β} : R a b → All2 R as bs → All2 R (a :: as) (b :: bs)
theorem All2.length {α β : Type} {R : α → β → Prop} : ∀ {as : List α} {bs : List β}, All2 R as bs → as.length = bs.length
  | _, _, .nil => rfl
  | _, _, .cons _ r => congrArg Nat.succ r.length
def otherP (m : List Nat) (n : Int) : List Nat := match f__law_mark_other [.str m, .int n] with
  | .ok (.str t) => t
  | _ => []
theorem other_eq {m : List Nat} (h : IsM m) (n : Int) : f__law_mark_other [.str m, .int n] = .ok (.str (otherP m n)) ∧ MF m (otherP m n) := by
  obtain ⟨t, e, hm⟩ := other_ok h n
  have : otherP m n = t := by unfold otherP; rw [e]
  rw [this]
  exact ⟨e, hm⟩
def PT : LP → List Nat → Prop
  | .many, t => t = [42, 42]
  | .marks ms, t => ∃ ts, All2 MF ms ts ∧ t = ts.flatten
inductive Xp : List LP → List LP → List (List Nat) → Prop
  | nil : Xp [] [] []
  | many1 {ps qs ts} : Xp ps qs ts → Xp (.many :: ps) (.many :: qs) ([42, 42] :: ts)
  | many2 {ps qs ts} : Xp ps qs ts → Xp (.many :: ps) (.many :: .many :: qs) ([42, 42] :: [42, 42] :: ts)
  | marks {ps qs ts ms t} : PT (.marks ms) t → Xp ps qs ts → Xp (.marks ms :: ps) (.marks ms :: qs) (t :: ts)
theorem Xp.all {ps qs : List LP} {ts : List (List Nat)} (h : Xp ps qs ts) : All2 PT qs ts := by
  induction h with
  | nil => exact .nil
  | many1 _ ih => exact .cons rfl ih
  | many2 _ ih => exact .cons rfl (.cons rfl ih)
  | marks h _ ih => exact .cons h ih
theorem Xp.ok {ps qs : List LP} {ts : List (List Nat)} (h : Xp ps qs ts) (ho : ∀ p ∈ ps, OkLP p) : ∀ q ∈ qs, OkLP q := by
  induction h with
  | nil => exact fun q hq => nomatch hq
  | many1 _ ih =>
    intro q hq
    rcases List.mem_cons.mp hq with rfl | hq
    · trivial
    · exact ih (fun p hp => ho p (List.mem_cons_of_mem _ hp)) q hq
  | many2 _ ih =>
    intro q hq
    rcases List.mem_cons.mp hq with rfl | hq
    · trivial
    · rcases List.mem_cons.mp hq with rfl | hq
      · trivial
      · exact ih (fun p hp => ho p (List.mem_cons_of_mem _ hp)) q hq
  | marks h _ ih =>
    intro q hq
    rcases List.mem_cons.mp hq with rfl | hq
    · exact ho _ (List.mem_cons_self ..)
    · exact ih (fun p hp => ho p (List.mem_cons_of_mem _ hp)) q hq
theorem Xp.len {ps qs : List LP} {ts : List (List Nat)} (h : Xp ps qs ts) : ts.length ≤ 2 * ps.length ∧ (ps ≠ [] → ts ≠ []) ∧ qs.length = ts.length := by
  induction h with
  | nil => simp
  | many1 _ ih => simp only [List.length_cons]; exact ⟨by omega, fun _ => by simp, by omega⟩
  | many2 _ ih => simp only [List.length_cons]; exact ⟨by omega, fun _ => by simp, by omega⟩
  | marks h _ ih => simp only [List.length_cons]; exact ⟨by omega, fun _ => by simp, by omega⟩
def sqz : List LP → List LP → List LP
  | acc, [] => acc
  | acc, q :: qs => if isMany q = true ∧ lastMany acc = true then sqz acc qs else sqz (acc ++ [q]) qs
theorem last_snoc (acc : List LP) (q : LP) : lastMany (acc ++ [q]) = isMany q := by
  unfold lastMany
  rw [List.getLast?_append]
  cases q <;> rfl
theorem noMM_last : ∀ {acc : List LP} {q : LP} {r : List LP}, NoMM (acc ++ q :: r) → isMany q = true → lastMany acc = false
  | [], q, r, _, _ => rfl
  | [a], q, r, h, hq => by
    have := h.1
    unfold lastMany
    cases a with
    | many => exact absurd ⟨rfl, hq⟩ this
    | marks ms => rfl
  | a :: b :: acc, q, r, h, hq => by
    have := noMM_last (acc := b :: acc) h.2 hq
    unfold lastMany at this ⊢
    simpa using this
theorem Xp.sq {ps qs : List LP} {ts : List (List Nat)} (h : Xp ps qs ts) : ∀ acc, NoMM (acc ++ ps) → sqz acc qs = acc ++ ps := by
  induction h with
  | nil => intro acc _; simp [sqz]
  | many1 _ ih =>
    intro acc hn
    have hl := noMM_last hn rfl
    rw [sqz, if_neg (by rw [hl]; simp), ih (acc ++ [LP.many]) (by rw [List.append_assoc]; exact hn), List.append_assoc]
    rfl
  | many2 _ ih =>
    intro acc hn
    have hl := noMM_last hn rfl
    rw [sqz, if_neg (by rw [hl]; simp), sqz, if_pos ⟨rfl, last_snoc _ _⟩, ih (acc ++ [LP.many]) (by rw [List.append_assoc]; exact hn), List.append_assoc]
    rfl
  | marks h _ ih =>
    intro acc hn
    rw [sqz, if_neg (by simp [isMany]), ih (acc ++ [_]) (by rw [List.append_assoc]; exact hn), List.append_assoc]
    rfl
def enumP (i : Nat) : List (List Nat) → List (Nat × List Nat)
  | [] => []
  | m :: ms => (i, m) :: enumP (i + 1) ms
theorem enumD_map : ∀ (ms : List (List Nat)) (i : Nat), enumD i (ms.map .str) = (enumP i ms).map fun x => .tup [.int x.1, .str x.2]
  | [], _ => rfl
  | m :: ms, i => by rw [List.map_cons]; unfold enumD enumP; rw [enumD_map ms (i + 1), List.map_cons]
theorem enumP_len : ∀ (ms : List (List Nat)) (i : Nat), (enumP i ms).length = ms.length
  | [], _ => rfl
  | m :: ms, i => by unfold enumP; rw [List.length_cons, List.length_cons, enumP_len ms]
theorem enumP_in : ∀ (ms : List (List Nat)) (i : Nat) (x : Nat × List Nat), x ∈ enumP i ms → x.2 ∈ ms
  | [], _, x, h => nomatch h
  | m :: ms, i, x, h => by
    unfold enumP at h
    rcases List.mem_cons.mp h with rfl | h
    · exact List.mem_cons_self ..
    · exact List.mem_cons_of_mem _ (enumP_in ms (i + 1) x h)
theorem enumP_all {R : List Nat → List Nat → Prop} {y : Nat × List Nat → List Nat} : ∀ (ms : List (List Nat)) (i : Nat), (∀ m ∈ ms, ∀ j, R m (y (j, m))) → All2 R ms ((enumP i ms).map y)
  | [], _, _ => .nil
  | m :: ms, i, h => .cons (h m (List.mem_cons_self ..) i) (enumP_all ms (i + 1) fun z hz => h z (List.mem_cons_of_mem _ hz))
theorem all2_sum {ms ts : List (List Nat)} (h : All2 MF ms ts) : (ts.map (·.length)).sum ≤ ms.length * 100 := by
  induction h with
  | nil => simp
  | cons h _ ih =>
    obtain ⟨F, _, _, _, hl⟩ := h
    simp only [List.map_cons, List.sum_cons, List.length_cons]
    omega
theorem PT_len {p : LP} {t : List Nat} (h : PT p t) (ho : OkLP p) : t.length ≤ 10000 := by
  cases p with
  | many => rw [show t = [42, 42] from h]; decide
  | marks ms =>
    obtain ⟨ts, h1, rfl⟩ := h
    have := all2_sum h1
    have h4 : ms.length ≤ 7 := ho.2.2.2
    rw [flat_len]
    omega
abbrev loE (l : Bool) (ps : List LP) (f : Bool) (n : Int) (told : List (List Nat)) (turn : Int) (a b c d e : Option Ce) : Env :=
  [some (.imm (daL l ps f)), some (.imm (.int n)), some (.imm (.bl l)), some (.imm (.lst (ps.map daP))), some (.imm (.bl f)), some (.lst (told.map .str)), some (.imm (.int turn)), a, b, c, d, e]
theorem lo_piece (l : Bool) (ps : List LP) (f : Bool) (n : Int) (told : List (List Nat)) (turn : Int) {p : LP} (b c d e : Option Ce) (ho : OkLP p) (hl : told.length ≤ 1000) :
    ∃ turn' b' c' d' e' qs ts, p2__law_other (loE l ps f n told turn (some (.imm (daP p))) b c d e) = .ok .nx (loE l ps f n (told ++ ts) turn' (some (.imm (daP p))) b' c' d' e') ∧ (∀ ps qs' ts', Xp ps qs' ts' → Xp (p :: ps) (qs ++ qs') (ts ++ ts')) ∧ ts.length ≤ 2 := by
  unfold p2__law_other
  rw [fSeq_nx (ρ' := loE l ps f n told (turn * 5 + 1) (some (.imm (daP p))) b c d e) (by simp only [loE, fSeq, fAsg, fAsgN, fRet, fRetO, fExpr, fTo, fPar2, fPar3, fAug, fIf, fBin, fBinT, fTru, fAnd, fOr, fNot, fAndV, fOrV, fNotV, fNeg, fName, fPeek, fD, fN, fLst, fTup, fCons, fCall, fCallN, fDef, fFld, fInt, fSl, fIt, fItA, fStuck, fCv, fCn, fCd, stN, stCons, stNil, stTup, mB, mP, mO, look, lookA, asBl, asInt, vAdd, vSub, vMul, vFdiv, vMod, vCmp, vIs, isNon, vAugAdd, fApp, fExt, fMs, fMn, List.getElem?_cons_zero, List.getElem?_cons_succ, List.getElem?_nil, List.set_cons_zero, List.set_cons_succ, List.length_cons, List.length_nil, Option.bind_some, Option.map_some, if_true, if_false, reduceIte, List.nil_append, List.cons_append, List.append_nil, resOf, Nat.reduceAdd, Nat.reduceEqDiff, Nat.reduceLT, Nat.reduceLeDiff, Int.reduceLT, Int.reduceLE, Int.reduceNeg, and_self, true_and, and_true, decide_true, decide_false, Bool.false_eq_true, Bool.not_true, Bool.not_false, Int.reduceAbs, Int.natAbs_neg, or_true, true_or, vIx, vLen, vAbs, vSum, vMax, vMin, decide_eq_true_eq, Bool.not_eq_true])]
  generalize turn * 5 + 1 = u
  cases p with
  | many =>
    rw [fIf_t (ρ' := loE l ps f n told u (some (.imm (daP .many))) b c d e) (by simp only [loE, fSeq, fAsg, fAsgN, fRet, fRetO, fExpr, fTo, fPar2, fPar3, fAug, fIf, fBin, fBinT, fTru, fAnd, fOr, fNot, fAndV, fOrV, fNotV, fNeg, fName, fPeek, fD, fN, fLst, fTup, fCons, fCall, fCallN, fDef, fFld, fInt, fSl, fIt, fItA, fStuck, fCv, fCn, fCd, stN, stCons, stNil, stTup, mB, mP, mO, look, lookA, asBl, asInt, vAdd, vSub, vMul, vFdiv, vMod, vCmp, vIs, isNon, vAugAdd, fApp, fExt, fMs, fMn, List.getElem?_cons_zero, List.getElem?_cons_succ, List.getElem?_nil, List.set_cons_zero, List.set_cons_succ, List.length_cons, List.length_nil, Option.bind_some, Option.map_some, if_true, if_false, reduceIte, List.nil_append, List.cons_append, List.append_nil, resOf, Nat.reduceAdd, Nat.reduceEqDiff, Nat.reduceLT, Nat.reduceLeDiff, Int.reduceLT, Int.reduceLE, Int.reduceNeg, and_self, true_and, and_true, decide_true, decide_false, Bool.false_eq_true, Bool.not_true, Bool.not_false, Int.reduceAbs, Int.natAbs_neg, or_true, true_or, vIx, vLen, vAbs, vSum, vMax, vMin, decide_eq_true_eq, Bool.not_eq_true, daP, isNon])]
    have k0 : 0 ≤ u / 3 % 2 := Int.emod_nonneg _ (by decide)
    have k1 : u / 3 % 2 < 2 := Int.emod_lt_of_pos _ (by decide)
    have k : u / 3 % 2 = 0 ∨ u / 3 % 2 = 1 := by omega
    rcases k with k | k
    · have hv : vMul (.lst [.str [42, 42]]) (.int (1 + 0)) = some (.lst [.str [42, 42]]) := rfl
      have hl2 : told.length + 1 ≤ 16777216 := by omega
      refine ⟨u, b, c, d, e, [.many], [[42, 42]], ?_, fun _ _ _ h => .many1 h, by simp⟩
      simp only [loE, fExpr, fExt, fBin, fD, fN, fLst, fCons, fPeek, mB, mP, mO, look, List.getElem?_cons_zero, List.getElem?_cons_succ, List.length_cons, List.length_nil, Nat.zero_add, Nat.reduceLeDiff, if_true, vAdd, vFdiv, vMod, Int.reduceLT, and_self, k, hv, List.length_map, hl2, List.set_cons_zero, List.set_cons_succ, List.map_append, List.map_cons, List.map_nil]
    · have hv : vMul (.lst [.str [42, 42]]) (.int (1 + 1)) = some (.lst [.str [42, 42], .str [42, 42]]) := rfl
      have hl2 : told.length + (1 + 1) ≤ 16777216 := by omega
      refine ⟨u, b, c, d, e, [.many, .many], [[42, 42], [42, 42]], ?_, fun _ _ _ h => .many2 h, by simp⟩
      simp only [loE, fExpr, fExt, fBin, fD, fN, fLst, fCons, fPeek, mB, mP, mO, look, List.getElem?_cons_zero, List.getElem?_cons_succ, List.length_cons, List.length_nil, Nat.zero_add, Nat.reduceLeDiff, if_true, vAdd, vFdiv, vMod, Int.reduceLT, and_self, k, hv, List.length_map, hl2, List.set_cons_zero, List.set_cons_succ, List.map_append, List.map_cons, List.map_nil]
  | marks ms =>
    rw [fIf_f (ρ' := loE l ps f n told u (some (.imm (daP (.marks ms)))) b c d e) (by simp only [loE, fSeq, fAsg, fAsgN, fRet, fRetO, fExpr, fTo, fPar2, fPar3, fAug, fIf, fBin, fBinT, fTru, fAnd, fOr, fNot, fAndV, fOrV, fNotV, fNeg, fName, fPeek, fD, fN, fLst, fTup, fCons, fCall, fCallN, fDef, fFld, fInt, fSl, fIt, fItA, fStuck, fCv, fCn, fCd, stN, stCons, stNil, stTup, mB, mP, mO, look, lookA, asBl, asInt, vAdd, vSub, vMul, vFdiv, vMod, vCmp, vIs, isNon, vAugAdd, fApp, fExt, fMs, fMn, List.getElem?_cons_zero, List.getElem?_cons_succ, List.getElem?_nil, List.set_cons_zero, List.set_cons_succ, List.length_cons, List.length_nil, Option.bind_some, Option.map_some, if_true, if_false, reduceIte, List.nil_append, List.cons_append, List.append_nil, resOf, Nat.reduceAdd, Nat.reduceEqDiff, Nat.reduceLT, Nat.reduceLeDiff, Int.reduceLT, Int.reduceLE, Int.reduceNeg, and_self, true_and, and_true, decide_true, decide_false, Bool.false_eq_true, Bool.not_true, Bool.not_false, Int.reduceAbs, Int.natAbs_neg, or_true, true_or, vIx, vLen, vAbs, vSum, vMax, vMin, decide_eq_true_eq, Bool.not_eq_true, daP, isNon])]
    have h4 : ms.length ≤ 7 := ho.2.2.2
    have ec := compL_strs (vs := [9, 10]) (st := stTup 2 (stCons (stN 9) (stCons (stN 10) stNil))) (e := p1__law_other) (g := fun x : Nat × List Nat => Da.tup [.int x.1, .str x.2]) (y := fun x => otherP x.2 (u / 7 + x.1)) (enumP 0 ms)
      (loE l ps f n told u (some (.imm (daP (.marks ms)))) b c d e) (ρw := loE l ps f n told u (some (.imm (daP (.marks ms)))) b none none e) rfl (fun x hx => by
        have := (other_eq (ho.2.1 x.2 (enumP_in ms 0 x hx)) (u / 7 + x.1)).1
        refine ⟨_, rfl, ?_, rfl⟩
        simp only [p1__law_other, loE, fSeq, fAsg, fAsgN, fRet, fRetO, fExpr, fTo, fPar2, fPar3, fAug, fIf, fBin, fBinT, fTru, fAnd, fOr, fNot, fAndV, fOrV, fNotV, fNeg, fName, fPeek, fD, fN, fLst, fTup, fCons, fCall, fCallN, fDef, fFld, fInt, fSl, fIt, fItA, fStuck, fCv, fCn, fCd, stN, stCons, stNil, stTup, mB, mP, mO, look, lookA, asBl, asInt, vAdd, vSub, vMul, vFdiv, vMod, vCmp, vIs, isNon, vAugAdd, fApp, fExt, fMs, fMn, List.getElem?_cons_zero, List.getElem?_cons_succ, List.getElem?_nil, List.set_cons_zero, List.set_cons_succ, List.length_cons, List.length_nil, Option.bind_some, Option.map_some, if_true, if_false, reduceIte, List.nil_append, List.cons_append, List.append_nil, resOf, Nat.reduceAdd, Nat.reduceEqDiff, Nat.reduceLT, Nat.reduceLeDiff, Int.reduceLT, Int.reduceLE, Int.reduceNeg, and_self, true_and, and_true, decide_true, decide_false, Bool.false_eq_true, Bool.not_true, Bool.not_false, Int.reduceAbs, Int.natAbs_neg, or_true, true_or, vIx, vLen, vAbs, vSum, vMax, vMin, decide_eq_true_eq, Bool.not_eq_true, this]) (by rw [enumP_len]; omega)
    have ha : All2 MF ms ((enumP 0 ms).map fun x => otherP x.2 (u / 7 + x.1)) := enumP_all ms 0 fun m hm j => (other_eq (ho.2.1 m hm) _).2
    generalize ((enumP 0 ms).map fun x => otherP x.2 (u / 7 + x.1)) = ts at ec ha
    have hsum := all2_sum ha
    have ej := sJoin_map [] ts (by simp only [List.length_nil, Nat.mul_zero]; omega)
    rw [joinN_nil] at ej
    have hl2 : told.length < 16777216 := by omega
    rw [fSeq_nx (ρ' := loE l ps f n told u (some (.imm (daP (.marks ms)))) (some (.lst (ts.map .str))) none none e) (by
      simp only [loE] at ec
      simp only [loE, daP] at ec ⊢
      simp only [fAsgN, fComp, fItA, fCons, fName, mB, mP, mO, List.getElem?_cons_zero, List.getElem?_cons_succ, enumOf, enumD_map, ec, List.set_cons_zero, List.set_cons_succ])]
    refine ⟨u, some (.lst (ts.map .str)), none, none, e, [.marks ms], [ts.flatten], ?_, fun _ _ _ h => .marks ⟨ts, ha, rfl⟩ h, by simp⟩
    simp only [loE, fSeq, fAsg, fAsgN, fRet, fRetO, fExpr, fTo, fPar2, fPar3, fAug, fIf, fBin, fBinT, fTru, fAnd, fOr, fNot, fAndV, fOrV, fNotV, fNeg, fName, fPeek, fD, fN, fLst, fTup, fCons, fCall, fCallN, fDef, fFld, fInt, fSl, fIt, fItA, fStuck, fCv, fCn, fCd, stN, stCons, stNil, stTup, mB, mP, mO, look, lookA, asBl, asInt, vAdd, vSub, vMul, vFdiv, vMod, vCmp, vIs, isNon, vAugAdd, fApp, fExt, fMs, fMn, List.getElem?_cons_zero, List.getElem?_cons_succ, List.getElem?_nil, List.set_cons_zero, List.set_cons_succ, List.length_cons, List.length_nil, Option.bind_some, Option.map_some, if_true, if_false, reduceIte, List.nil_append, List.cons_append, List.append_nil, resOf, Nat.reduceAdd, Nat.reduceEqDiff, Nat.reduceLT, Nat.reduceLeDiff, Int.reduceLT, Int.reduceLE, Int.reduceNeg, and_self, true_and, and_true, decide_true, decide_false, Bool.false_eq_true, Bool.not_true, Bool.not_false, Int.reduceAbs, Int.natAbs_neg, or_true, true_or, vIx, vLen, vAbs, vSum, vMax, vMin, decide_eq_true_eq, Bool.not_eq_true, ej, List.length_map, hl2, List.map_append, List.map_cons, List.map_nil]
theorem lo_loop (l : Bool) (ps0 : List LP) (f : Bool) (n : Int) : ∀ (ps : List LP) (told : List (List Nat)) (turn : Int) (a b c d e : Option Ce), (∀ p ∈ ps, OkLP p) → told.length + 2 * ps.length ≤ 1000 →
    ∃ turn' a' b' c' d' e' qs ts, forL (stN 7) p2__law_other (ps.map daP) (loE l ps0 f n told turn a b c d e) = .ok .nx (loE l ps0 f n (told ++ ts) turn' a' b' c' d' e') ∧ Xp ps qs ts
  | [], told, turn, a, b, c, d, e, _, _ => ⟨turn, a, b, c, d, e, [], [], by rw [List.append_nil]; rfl, .nil⟩
  | p :: ps, told, turn, a, b, c, d, e, ho, hl => by
    rw [List.length_cons] at hl
    obtain ⟨t1, b1, c1, d1, e1, q1, s1, h1, h2, h3⟩ := lo_piece l ps0 f n told turn b c d e (ho p (List.mem_cons_self ..)) (by omega)
    obtain ⟨t2, a2, b2, c2, d2, e2, q2, s2, h4, h5⟩ := lo_loop l ps0 f n ps (told ++ s1) t1 (some (.imm (daP p))) b1 c1 d1 e1 (fun q hq => ho q (List.mem_cons_of_mem _ hq)) (by rw [List.length_append]; omega)
    refine ⟨t2, a2, b2, c2, d2, e2, q1 ++ q2, s1 ++ s2, ?_, h2 _ _ _ h5⟩
    rw [List.map_cons, forL_cons (ρ1 := loE l ps0 f n told turn (some (.imm (daP p))) b c d e) rfl h1, h4, List.append_assoc]
end Kb
namespace Kb
open Vl
open L2 (ixN atI)
def textL (l lead : Bool) (ts : List (List Nat)) (f : Bool) : List Nat :=
  (if l then [33] else []) ++ ((if lead then [47] else []) ++ joinN [47] ts) ++ (if f then [47] else [])
theorem all2_len {qs : List LP} {ts : List (List Nat)} (h : All2 PT qs ts) (ho : ∀ q ∈ qs, OkLP q) : (ts.map (·.length)).sum ≤ qs.length * 10000 := by
  induction h with
  | nil => simp
  | cons h _ ih =>
    have h1 := PT_len h (ho _ (List.mem_cons_self ..))
    have h2 := ih fun q hq => ho q (List.mem_cons_of_mem _ hq)
    simp only [List.map_cons, List.sum_cons, List.length_cons]
    omega
theorem Xp.last {ps qs : List LP} {ts : List (List Nat)} (h : Xp ps qs ts) (p : LP) : ps = [p] → ∃ t, ts.getLast? = some t ∧ PT p t := by
  induction h with
  | nil => exact fun e => by cases e
  | many1 h _ => intro e; cases e; cases h; exact ⟨_, rfl, rfl⟩
  | many2 h _ => intro e; cases e; cases h; exact ⟨_, rfl, rfl⟩
  | marks hp h _ => intro e; cases e; cases h; exact ⟨_, rfl, hp⟩
theorem Xp.last2 {ps qs : List LP} {ts : List (List Nat)} (h : Xp ps qs ts) (p q : LP) (e : ps = [p, q]) : ∃ t, ts.getLast? = some t ∧ PT q t := by
  cases h with
  | nil => cases e
  | many1 h =>
    cases e
    obtain ⟨t, e1, e2⟩ := h.last q rfl
    exact ⟨t, by rw [List.getLast?_cons, e1]; rfl, e2⟩
  | many2 h =>
    cases e
    obtain ⟨t, e1, e2⟩ := h.last q rfl
    exact ⟨t, by rw [List.getLast?_cons, List.getLast?_cons, e1]; rfl, e2⟩
  | marks hp h =>
    cases e
    obtain ⟨t, e1, e2⟩ := h.last q rfl
    exact ⟨t, by rw [List.getLast?_cons, e1]; rfl, e2⟩
theorem lo_end (l : Bool) (ps : List LP) (f : Bool) (n : Int) (told : List (List Nat)) (turn : Int) (a b c d : Option Ce) (body : List Nat) (hb : body.length ≤ 10000000) :
    resOf (fRet (fBin vAdd (fD (fBin vAdd (fD (fIf (fTru (fPeek 2)) (mP (.str [33])) (mP (.str [])))) (fPeek 11))) (fD (fIf (fTru (fPeek 4)) (mP (.str [47])) (mP (.str []))))) (loE l ps f n told turn a b c d (some (.imm (.str body))))) = .ok (.str ((if l then [33] else []) ++ body ++ (if f then [47] else []))) := by
  have y1 : ∀ z : List Nat, z.length ≤ 1 → vAdd (.str z) (.str body) = some (.str (z ++ body)) := fun z hz => if_pos (by omega)
  have y2 : ∀ z w : List Nat, z.length ≤ 1 → w.length ≤ 1 → vAdd (.str (z ++ body)) (.str w) = some (.str (z ++ body ++ w)) := fun z w hz hw => if_pos (by rw [List.length_append]; omega)
  have a1 := y1 [33] (by decide)
  have a2 := y1 [] (by decide)
  have b1 := y2 [33] [47] (by decide) (by decide)
  have b2 := y2 [33] [] (by decide) (by decide)
  have b3 := y2 [] [47] (by decide) (by decide)
  have b4 := y2 [] [] (by decide) (by decide)
  cases l <;> cases f <;> simp only [loE, fIf, fTru, fBin, fD, fRet, fPeek, mB, mP, mO, look, if_true, if_false, Bool.false_eq_true, List.getElem?_cons_zero, List.getElem?_cons_succ, vTru, a1, a2, b1, b2, b3, b4, resOf]
theorem other_line_ok (l : Bool) {ps : List LP} (f : Bool) (h : OkPs ps) (n : Int) : ∃ lead qs ts, f__law_other [daL l ps f, .int n] = .ok (.str (textL l lead ts f)) ∧ All2 PT qs ts ∧ qs ≠ [] ∧ (∀ q ∈ qs, OkLP q) ∧ qs.length ≤ 2 * ps.length ∧
    sqz [] (if lead = false ∧ qs.length = 1 then .many :: qs else qs) = ps := by
  obtain ⟨hne, ho, hm, hl⟩ := h
  obtain ⟨turn, a, b, c, d, e, qs, ts, e1, x⟩ := lo_loop l ps f n ps [] n none none none none none ho (by simp; omega)
  have hx := x.len
  have hsq := x.sq [] hm
  have hts : ts ≠ [] := hx.2.1 hne
  have hqs : qs ≠ [] := by
    intro e
    rw [e] at hx
    exact hts (List.length_eq_zero_iff.mp hx.2.2.symm)
  have hall := x.all
  have hqo := x.ok ho
  have hsum := all2_len hall hqo
  have hq2 : qs.length * 10000 ≤ 200 * 10000 := Nat.mul_le_mul_right 10000 (by omega)
  have e0 : f__law_other [daL l ps f, .int n] = resOf (b__law_other [some (.imm (daL l ps f)), some (.imm (.int n)), none, none, none, none, none, none, none, none, none, none]) := rfl
  rw [e0]
  unfold b__law_other
  rw [fSeq_nx (ρ' := [some (.imm (daL l ps f)), some (.imm (.int n)), some (.imm (.bl l)), some (.imm (.lst (ps.map daP))), some (.imm (.bl f)), none, none, none, none, none, none, none]) (by simp only [fSeq, fAsg, fAsgN, fRet, fRetO, fExpr, fTo, fPar2, fPar3, fAug, fIf, fBin, fBinT, fTru, fAnd, fOr, fNot, fAndV, fOrV, fNotV, fNeg, fName, fPeek, fD, fN, fLst, fTup, fCons, fCall, fCallN, fDef, fFld, fInt, fSl, fIt, fItA, fStuck, fCv, fCn, fCd, stN, stCons, stNil, stTup, mB, mP, mO, look, lookA, asBl, asInt, vAdd, vSub, vMul, vFdiv, vMod, vCmp, vIs, isNon, vAugAdd, fApp, fExt, fMs, fMn, List.getElem?_cons_zero, List.getElem?_cons_succ, List.getElem?_nil, List.set_cons_zero, List.set_cons_succ, List.length_cons, List.length_nil, Option.bind_some, Option.map_some, if_true, if_false, reduceIte, List.nil_append, List.cons_append, List.append_nil, resOf, Nat.reduceAdd, Nat.reduceEqDiff, Nat.reduceLT, Nat.reduceLeDiff, Int.reduceLT, Int.reduceLE, Int.reduceNeg, and_self, true_and, and_true, decide_true, decide_false, Bool.false_eq_true, Bool.not_true, Bool.not_false, Int.reduceAbs, Int.natAbs_neg, or_true, true_or, vIx, vLen, vAbs, vSum, vMax, vMin, decide_eq_true_eq, Bool.not_eq_true, daL]),
    fSeq_nx (ρ' := loE l ps f n [] n none none none none none) (by simp only [fSeq, fAsg, fAsgN, fRet, fRetO, fExpr, fTo, fPar2, fPar3, fAug, fIf, fBin, fBinT, fTru, fAnd, fOr, fNot, fAndV, fOrV, fNotV, fNeg, fName, fPeek, fD, fN, fLst, fTup, fCons, fCall, fCallN, fDef, fFld, fInt, fSl, fIt, fItA, fStuck, fCv, fCn, fCd, stN, stCons, stNil, stTup, mB, mP, mO, look, lookA, asBl, asInt, vAdd, vSub, vMul, vFdiv, vMod, vCmp, vIs, isNon, vAugAdd, fApp, fExt, fMs, fMn, List.getElem?_cons_zero, List.getElem?_cons_succ, List.getElem?_nil, List.set_cons_zero, List.set_cons_succ, List.length_cons, List.length_nil, Option.bind_some, Option.map_some, if_true, if_false, reduceIte, List.nil_append, List.cons_append, List.append_nil, resOf, Nat.reduceAdd, Nat.reduceEqDiff, Nat.reduceLT, Nat.reduceLeDiff, Int.reduceLT, Int.reduceLE, Int.reduceNeg, and_self, true_and, and_true, decide_true, decide_false, Bool.false_eq_true, Bool.not_true, Bool.not_false, Int.reduceAbs, Int.natAbs_neg, or_true, true_or, vIx, vLen, vAbs, vSum, vMax, vMin, decide_eq_true_eq, Bool.not_eq_true, loE, Nat.reduceLeDiff, List.map_nil]),
    fSeq_nx (ρ' := loE l ps f n ts turn a b c d e) (by
      rw [List.nil_append] at e1
      rw [← e1]
      simp only [loE, fFor, fIt, fName, mB, mO, itemsL, List.getElem?_cons_zero, List.getElem?_cons_succ])]
  have hz0 : atI (ps.map daP) 0 = some (daP (ps.head hne)) := by
    obtain ⟨p, r, rfl⟩ := List.exists_cons_of_ne_nil hne
    exact atI_zero _ _
  by_cases hc : n % 3 = 0 ∧ isMany (ps.head hne) = true ∧ ps.length < 3
  · obtain ⟨c1, c2, c3⟩ := hc
    have c3' : (ps.length : Int) < 3 := by omega
    have hnon : daP (ps.head hne) = .non := by
      cases hh : ps.head hne with
      | many => rfl
      | marks ms => rw [hh] at c2; cases c2
    obtain ⟨q, t, hlast, hpt, hps⟩ : ∃ q t, ts.getLast? = some t ∧ PT q t ∧ (ps = [q] ∧ q = .many ∨ ps = [.many, q]) := by
      match ps, hne, c2, c3, x with
      | [p], _, c2, _, x =>
        obtain ⟨t, k1, k2⟩ := x.last p rfl
        refine ⟨p, t, k1, k2, .inl ⟨rfl, ?_⟩⟩
        cases p with
        | many => rfl
        | marks ms => cases c2
      | [p, q], _, c2, _, x =>
        obtain ⟨t, k1, k2⟩ := x.last2 p q rfl
        refine ⟨q, t, k1, k2, .inr ?_⟩
        cases p with
        | many => rfl
        | marks ms => cases c2
      | _ :: _ :: _ :: r, _, _, c3, _ => simp only [List.length_cons] at c3; omega
    have hqok : OkLP q := by
      rcases hps with ⟨k, _⟩ | k <;> exact ho q (by rw [k]; simp)
    have htl := PT_len hpt hqok
    have e2 : atI (ts.map Da.str) (-1) = some (.str t) := by
      rw [atI_last _ (by simpa using hts) .non, List.getLastD_eq_getLast?, List.getLast?_map, hlast]
      rfl
    rw [fSeq_nx (ρ' := loE l ps f n ts turn a b c d (some (.imm (.str t)))) (by
      rw [fIf_t (ρ' := loE l ps f n ts turn a b c d e) (by simp only [loE, fSeq, fAsg, fAsgN, fRet, fRetO, fExpr, fTo, fPar2, fPar3, fAug, fIf, fBin, fBinT, fTru, fAnd, fOr, fNot, fAndV, fOrV, fNotV, fNeg, fName, fPeek, fD, fN, fLst, fTup, fCons, fCall, fCallN, fDef, fFld, fInt, fSl, fIt, fItA, fStuck, fCv, fCn, fCd, stN, stCons, stNil, stTup, mB, mP, mO, look, lookA, asBl, asInt, vAdd, vSub, vMul, vFdiv, vMod, vCmp, vIs, isNon, vAugAdd, fApp, fExt, fMs, fMn, List.getElem?_cons_zero, List.getElem?_cons_succ, List.getElem?_nil, List.set_cons_zero, List.set_cons_succ, List.length_cons, List.length_nil, Option.bind_some, Option.map_some, if_true, if_false, reduceIte, List.nil_append, List.cons_append, List.append_nil, resOf, Nat.reduceAdd, Nat.reduceEqDiff, Nat.reduceLT, Nat.reduceLeDiff, Int.reduceLT, Int.reduceLE, Int.reduceNeg, and_self, true_and, and_true, decide_true, decide_false, Bool.false_eq_true, Bool.not_true, Bool.not_false, Int.reduceAbs, Int.natAbs_neg, or_true, true_or, vIx, vLen, vAbs, vSum, vMax, vMin, decide_eq_true_eq, Bool.not_eq_true, vEq_int, c1, hz0, hnon, List.length_map, c3'])]
      simp only [loE, fSeq, fAsg, fAsgN, fRet, fRetO, fExpr, fTo, fPar2, fPar3, fAug, fIf, fBin, fBinT, fTru, fAnd, fOr, fNot, fAndV, fOrV, fNotV, fNeg, fName, fPeek, fD, fN, fLst, fTup, fCons, fCall, fCallN, fDef, fFld, fInt, fSl, fIt, fItA, fStuck, fCv, fCn, fCd, stN, stCons, stNil, stTup, mB, mP, mO, look, lookA, asBl, asInt, vAdd, vSub, vMul, vFdiv, vMod, vCmp, vIs, isNon, vAugAdd, fApp, fExt, fMs, fMn, List.getElem?_cons_zero, List.getElem?_cons_succ, List.getElem?_nil, List.set_cons_zero, List.set_cons_succ, List.length_cons, List.length_nil, Option.bind_some, Option.map_some, if_true, if_false, reduceIte, List.nil_append, List.cons_append, List.append_nil, resOf, Nat.reduceAdd, Nat.reduceEqDiff, Nat.reduceLT, Nat.reduceLeDiff, Int.reduceLT, Int.reduceLE, Int.reduceNeg, and_self, true_and, and_true, decide_true, decide_false, Bool.false_eq_true, Bool.not_true, Bool.not_false, Int.reduceAbs, Int.natAbs_neg, or_true, true_or, vIx, vLen, vAbs, vSum, vMax, vMin, decide_eq_true_eq, Bool.not_eq_true, e2, Int.reduceNeg])]
    refine ⟨false, [q], [t], ?_, .cons hpt .nil, by simp, fun z hz => by rw [List.mem_singleton.mp hz]; exact hqok, by have := List.length_pos_iff.mpr hne; simp only [List.length_cons, List.length_nil]; omega, ?_⟩
    · rw [lo_end l ps f n ts turn a b c d t (by omega)]
      rfl
    · rw [if_pos ⟨rfl, rfl⟩]
      rcases hps with ⟨k, rfl⟩ | k
      · rw [k]
        rfl
      · rw [k]
        rw [k] at hm
        cases q with
        | many => exact absurd ⟨rfl, rfl⟩ hm.1
        | marks ms => rfl
  · have hcond : fAnd (fBinT (vEq false) (fD (fBin vMod (fPeek 1) (fD (mP (.int 3))))) (fD (mP (.int 0)))) (fAnd (fBinT (vIs false) (fD (fBin vIx (fPeek 3) (fD (mP (.int 0))))) (fD (mP .non))) (fBinT vLt (fD (fCall vLen (fCons (fPeek 3) (mP [])))) (fD (mP (.int 3))))) (loE l ps f n ts turn a b c d e) = .ok false (loE l ps f n ts turn a b c d e) := by
      by_cases c1 : n % 3 = 0
      · cases c2 : isMany (ps.head hne) with
        | false =>
          obtain ⟨ds, hnon⟩ : ∃ ds, daP (ps.head hne) = .lst ds := by
            cases hh : ps.head hne with
            | many => rw [hh] at c2; cases c2
            | marks ms => exact ⟨_, rfl⟩
          simp only [loE, fSeq, fAsg, fAsgN, fRet, fRetO, fExpr, fTo, fPar2, fPar3, fAug, fIf, fBin, fBinT, fTru, fAnd, fOr, fNot, fAndV, fOrV, fNotV, fNeg, fName, fPeek, fD, fN, fLst, fTup, fCons, fCall, fCallN, fDef, fFld, fInt, fSl, fIt, fItA, fStuck, fCv, fCn, fCd, stN, stCons, stNil, stTup, mB, mP, mO, look, lookA, asBl, asInt, vAdd, vSub, vMul, vFdiv, vMod, vCmp, vIs, isNon, vAugAdd, fApp, fExt, fMs, fMn, List.getElem?_cons_zero, List.getElem?_cons_succ, List.getElem?_nil, List.set_cons_zero, List.set_cons_succ, List.length_cons, List.length_nil, Option.bind_some, Option.map_some, if_true, if_false, reduceIte, List.nil_append, List.cons_append, List.append_nil, resOf, Nat.reduceAdd, Nat.reduceEqDiff, Nat.reduceLT, Nat.reduceLeDiff, Int.reduceLT, Int.reduceLE, Int.reduceNeg, and_self, true_and, and_true, decide_true, decide_false, Bool.false_eq_true, Bool.not_true, Bool.not_false, Int.reduceAbs, Int.natAbs_neg, or_true, true_or, vIx, vLen, vAbs, vSum, vMax, vMin, decide_eq_true_eq, Bool.not_eq_true, vEq_int, c1, hz0, hnon]
        | true =>
          have hnon : daP (ps.head hne) = .non := by
            cases hh : ps.head hne with
            | many => rfl
            | marks ms => rw [hh] at c2; cases c2
          have c3' : ¬ (ps.length : Int) < 3 := fun h => hc ⟨c1, c2, by omega⟩
          simp only [loE, fSeq, fAsg, fAsgN, fRet, fRetO, fExpr, fTo, fPar2, fPar3, fAug, fIf, fBin, fBinT, fTru, fAnd, fOr, fNot, fAndV, fOrV, fNotV, fNeg, fName, fPeek, fD, fN, fLst, fTup, fCons, fCall, fCallN, fDef, fFld, fInt, fSl, fIt, fItA, fStuck, fCv, fCn, fCd, stN, stCons, stNil, stTup, mB, mP, mO, look, lookA, asBl, asInt, vAdd, vSub, vMul, vFdiv, vMod, vCmp, vIs, isNon, vAugAdd, fApp, fExt, fMs, fMn, List.getElem?_cons_zero, List.getElem?_cons_succ, List.getElem?_nil, List.set_cons_zero, List.set_cons_succ, List.length_cons, List.length_nil, Option.bind_some, Option.map_some, if_true, if_false, reduceIte, List.nil_append, List.cons_append, List.append_nil, resOf, Nat.reduceAdd, Nat.reduceEqDiff, Nat.reduceLT, Nat.reduceLeDiff, Int.reduceLT, Int.reduceLE, Int.reduceNeg, and_self, true_and, and_true, decide_true, decide_false, Bool.false_eq_true, Bool.not_true, Bool.not_false, Int.reduceAbs, Int.natAbs_neg, or_true, true_or, vIx, vLen, vAbs, vSum, vMax, vMin, decide_eq_true_eq, Bool.not_eq_true, vEq_int, c1, hz0, hnon, List.length_map, c3']
      · simp only [loE, fSeq, fAsg, fAsgN, fRet, fRetO, fExpr, fTo, fPar2, fPar3, fAug, fIf, fBin, fBinT, fTru, fAnd, fOr, fNot, fAndV, fOrV, fNotV, fNeg, fName, fPeek, fD, fN, fLst, fTup, fCons, fCall, fCallN, fDef, fFld, fInt, fSl, fIt, fItA, fStuck, fCv, fCn, fCd, stN, stCons, stNil, stTup, mB, mP, mO, look, lookA, asBl, asInt, vAdd, vSub, vMul, vFdiv, vMod, vCmp, vIs, isNon, vAugAdd, fApp, fExt, fMs, fMn, List.getElem?_cons_zero, List.getElem?_cons_succ, List.getElem?_nil, List.set_cons_zero, List.set_cons_succ, List.length_cons, List.length_nil, Option.bind_some, Option.map_some, if_true, if_false, reduceIte, List.nil_append, List.cons_append, List.append_nil, resOf, Nat.reduceAdd, Nat.reduceEqDiff, Nat.reduceLT, Nat.reduceLeDiff, Int.reduceLT, Int.reduceLE, Int.reduceNeg, and_self, true_and, and_true, decide_true, decide_false, Bool.false_eq_true, Bool.not_true, Bool.not_false, Int.reduceAbs, Int.natAbs_neg, or_true, true_or, vIx, vLen, vAbs, vSum, vMax, vMin, decide_eq_true_eq, Bool.not_eq_true, vEq_int, c1]
    have hts1 : ts.length * 1 = ts.length := Nat.mul_one _
    have ej := sJoin_map [47] ts (by simp only [List.length_cons, List.length_nil, Nat.zero_add, Nat.mul_one]; omega)
    have hjl := joinN_len [47] ts
    simp only [List.length_cons, List.length_nil, Nat.zero_add, Nat.mul_one] at hjl
    let lead : Bool := decide (ts.length = 1) || decide (n / 3 % 2 = 1)
    have y1 : vAdd (.str [47]) (.str (joinN [47] ts)) = some (.str ([47] ++ joinN [47] ts)) := if_pos (by simp only [List.length_cons, List.length_nil]; omega)
    have y2 : vAdd (.str []) (.str (joinN [47] ts)) = some (.str ([] ++ joinN [47] ts)) := if_pos (by simp only [List.length_nil]; omega)
    have hbody : (fAsg 11 (fBin vAdd (fD (fIf (fOr (fBinT (vEq false) (fD (fCall vLen (fCons (fPeek 5) (mP [])))) (fD (mP (.int 1)))) (fBinT (vEq false) (fD (fBin vMod (fD (fBin vFdiv (fPeek 1) (fD (mP (.int 3))))) (fD (mP (.int 2))))) (fD (mP (.int 1))))) (mP (.str [47])) (mP (.str [])))) (fD (fMs sJoin (mP (.str [47])) (fCons (fPeek 5) (mP [])))))) (loE l ps f n ts turn a b c d e)
        = .ok .nx (loE l ps f n ts turn a b c d (some (.imm (.str ((if lead then [47] else []) ++ joinN [47] ts))))) := by
      by_cases k1 : ts.length = 1
      · have k1' : (ts.length : Int) = 1 := by omega
        simp only [loE, lead, fAsg, fBin, fD, fIf, fOr, fBinT, fCall, fCons, fPeek, fMs, mB, mP, mO, look, lookA, vLen, List.getElem?_cons_zero, List.getElem?_cons_succ, List.length_map, vEq_int, k1, k1', decide_true, asBl, if_true, Bool.true_or, ej, y1, List.set_cons_zero, List.set_cons_succ, Int.cast_ofNat_Int]
      · have k1' : ¬ (ts.length : Int) = 1 := by omega
        by_cases k2 : n / 3 % 2 = 1
        · simp only [loE, lead, fAsg, fBin, fD, fIf, fOr, fBinT, fCall, fCons, fPeek, fMs, mB, mP, mO, look, lookA, vLen, vFdiv, vMod, Int.reduceLT, and_self, List.getElem?_cons_zero, List.getElem?_cons_succ, List.length_map, vEq_int, k1, k1', k2, decide_true, decide_false, asBl, if_true, if_false, Bool.false_eq_true, Bool.or_true, ej, y1, List.set_cons_zero, List.set_cons_succ]
        · simp only [loE, lead, fAsg, fBin, fD, fIf, fOr, fBinT, fCall, fCons, fPeek, fMs, mB, mP, mO, look, lookA, vLen, vFdiv, vMod, Int.reduceLT, and_self, List.getElem?_cons_zero, List.getElem?_cons_succ, List.length_map, vEq_int, k1, k1', k2, decide_true, decide_false, asBl, if_true, if_false, Bool.false_eq_true, Bool.or_false, ej, y2, List.set_cons_zero, List.set_cons_succ]
    rw [fSeq_nx (ρ' := loE l ps f n ts turn a b c d (some (.imm (.str ((if lead then [47] else []) ++ joinN [47] ts))))) (by rw [fIf_f hcond]; exact hbody)]
    refine ⟨lead, qs, ts, ?_, hall, hqs, hqo, by omega, ?_⟩
    · rw [lo_end l ps f n ts turn a b c d _ (by rw [List.length_append]; cases lead <;> simp only [List.length_cons, List.length_nil, if_true, if_false, Bool.false_eq_true] <;> omega)]
      rfl
    · rw [if_neg, hsq]
      · rfl
      · rintro ⟨k1, k2⟩
        have : decide (ts.length = 1) = true := by rw [decide_eq_true_eq, ← hx.2.2]; exact k2
        simp only [lead, this, Bool.true_or] at k1
        cases k1
end Kb
namespace Kb
open Vl
open L2 (ixN atI)
abbrev rdF (w : List Nat) (k : Nat) : List (PySem.Str × Da) := [("whole", .str w), ("place", .int k)]
theorem rd_whole (w : List Nat) (k : Nat) : List.lookup ("whole" : PySem.Str) (rdF w k) = some (.str w) := rfl
theorem rd_place (w : List Nat) (k : Nat) : List.lookup ("place" : PySem.Str) (rdF w k) = some (.int k) := rfl
theorem rd_put (w : List Nat) (k k' : Nat) : putG "place" (.int k') (rdF w k) = rdF w k' := rfl
theorem rd_no (w : List Nat) (k : Nat) : List.lookup ("here" : PySem.Str) (rdF w k) = none ∧ List.lookup ("take" : PySem.Str) (rdF w k) = none ∧ List.lookup ("one_of" : PySem.Str) (rdF w k) = none := ⟨rfl, rfl, rfl⟩
theorem fldO_eq {c f : PySem.Str} {i : Nat} {ρ : Env} {a : Option Nat} {gs : List (PySem.Str × Da)} {d : Da} (h : ρ[i]? = some (some (.obj a c gs))) (hl : gs.lookup f = some d) : fFldO c f i ρ = .ok d ρ := by
  unfold fFldO
  rw [h]
  simp only [if_true, hl, mO]
theorem io_eq {c : PySem.Str} {F : List (PySem.Str × Da) → List Da → Option (Da × List (PySem.Str × Da))} {i : Nat} {fa : EM (List Da)} {ρ : Env} {a : Option Nat} {gs gs' : List (PySem.Str × Da)} {ds : List Da} {d : Da} (h : ρ[i]? = some (some (.obj a c gs))) (ha : fa ρ = .ok ds ρ) (hF : F gs ds = some (d, gs')) :
    fIO c F i fa ρ = .ok d (ρ.set i (some (.obj a c gs'))) := by
  unfold fIO
  rw [h]
  simp only [mB, ha, h, if_true, hF]
theorem mio_eq {c m : PySem.Str} {F : List (PySem.Str × Da) → List Da → Option (Da × List (PySem.Str × Da))} {i : Nat} {fa : EM (List Da)} {ρ : Env} {a : Option Nat} {gs gs' : List (PySem.Str × Da)} {ds : List Da} {d : Da} (h : ρ[i]? = some (some (.obj a c gs))) (hm : gs.lookup m = none) (ha : fa ρ = .ok ds ρ) (hF : F gs ds = some (d, gs')) :
    fMIO c m F i fa ρ = .ok d (ρ.set i (some (.obj a c gs'))) := by
  unfold fMIO
  rw [h]
  simp only [hm, and_self, if_true]
  exact io_eq h ha hF
theorem fldAug_eq {c f : PySem.Str} {i : Nat} {fe : EM Da} {ρ : Env} {a : Option Nat} {gs : List (PySem.Str × Da)} {n m : Int} (h : ρ[i]? = some (some (.obj a c gs))) (hl : gs.lookup f = some (.int n)) (he : fe ρ = .ok (.int m) ρ) (hg : gs.length < 1000) :
    fFldAug c f i fe ρ = .ok .nx (ρ.set i (some (.obj a c (putG f (.int (n + m)) gs)))) := by
  unfold fFldAug
  rw [h]
  simp only [if_true, hl, mB, he, h, hg, and_self]
abbrev rdC (a : Option Nat) (w : List Nat) (k : Nat) : Option Ce := some (.obj a "Reader" (rdF w k))
theorem aug1_eq {i : Nat} {a : Option Nat} {w : List Nat} {k : Nat} {ρ : Env} (h : ρ[i]? = some (rdC a w k)) : fFldAug "Reader" "place" i (mP (.int 1)) ρ = .ok .nx (ρ.set i (rdC a w (k + 1))) :=
  fldAug_eq h (rd_place w k) rfl (show (2 : Nat) < 1000 by decide)
theorem aug2_eq {i : Nat} {a : Option Nat} {w : List Nat} {k : Nat} {ρ : Env} (h : ρ[i]? = some (rdC a w k)) : fFldAug "Reader" "place" i (mP (.int 2)) ρ = .ok .nx (ρ.set i (rdC a w (k + 2))) :=
  fldAug_eq h (rd_place w k) rfl (show (2 : Nat) < 1000 by decide)
theorem here_eq {w : List Nat} (hw : w.length ≤ 16777216) (k : Nat) : f_Reader_here (rdF w k) [] = some (.str ((w.drop k).take 1), rdF w k) := by
  have e : f_Reader_here (rdF w k) [] = resIO "Reader" (b_Reader_here [rdC (some 0) w k]) := rfl
  have h0 : ([rdC (some 0) w k] : Env)[0]? = some (rdC (some 0) w k) := rfl
  have e1 := fldO_eq h0 (rd_whole w k)
  have e2 := fldO_eq h0 (rd_place w k)
  have ec : cutD w (some ((k : Nat) : Int)) (some ((k : Int) + 1)) = (w.drop k).take 1 := by
    have : (k : Int) + 1 = ((k + 1 : Nat) : Int) := by omega
    rw [this, cutD_nat]
    congr 1
    omega
  have eb : b_Reader_here [rdC (some 0) w k] = .ok (.rt (.str ((w.drop k).take 1))) [rdC (some 0) w k] := by
    simp only [b_Reader_here, fRet, fSl, fD, fInt, fBin, mB, mP, mO, e1, e2, look, asInt, Option.map_some, vAdd, vSlS, hw, if_true, ec]
  rw [e, eb]
  rfl
theorem take_yes {w r : List Nat} {k c : Nat} (hw : w.length ≤ 16777216) (h : w.drop k = c :: r) : f_Reader_take (rdF w k) [.str [c]] = some (.bl true, rdF w (k + 1)) := by
  have e : f_Reader_take (rdF w k) [.str [c]] = resIO "Reader" (b_Reader_take [rdC (some 0) w k, some (.imm (.str [c]))]) := rfl
  have h0 : ([rdC (some 0) w k, some (.imm (.str [c]))] : Env)[0]? = some (rdC (some 0) w k) := rfl
  have e1 := mio_eq (fa := mP []) h0 (rd_no w k).1 rfl (here_eq hw k)
  rw [h] at e1
  have e2 := aug1_eq h0
  have eb : b_Reader_take [rdC (some 0) w k, some (.imm (.str [c]))] = .ok (.rt (.bl true)) [rdC (some 0) w (k + 1), some (.imm (.str [c]))] := by
    unfold b_Reader_take
    rw [fSeq_nx (ρ' := [rdC (some 0) w k, some (.imm (.str [c]))]) ?_, fSeq_nx e2]
    · rfl
    · rw [fIf_f (ρ' := [rdC (some 0) w k, some (.imm (.str [c]))])]
      · rfl
      · simp only [fBinT, fBin, fD, fPeek, mB, mP, mO, e1, List.set_cons_zero, List.getElem?_cons_zero, List.getElem?_cons_succ, look, List.take_succ_cons, List.take_zero, vNe_str, decide_true, Bool.not_true, asBl]
  rw [e, eb]
  rfl
theorem take_no {w : List Nat} {k c : Nat} (hw : w.length ≤ 16777216) (h : (w.drop k).head? ≠ some c) : f_Reader_take (rdF w k) [.str [c]] = some (.bl false, rdF w k) := by
  have e : f_Reader_take (rdF w k) [.str [c]] = resIO "Reader" (b_Reader_take [rdC (some 0) w k, some (.imm (.str [c]))]) := rfl
  have h0 : ([rdC (some 0) w k, some (.imm (.str [c]))] : Env)[0]? = some (rdC (some 0) w k) := rfl
  have e1 := mio_eq (fa := mP []) h0 (rd_no w k).1 rfl (here_eq hw k)
  have hne : ¬ (w.drop k).take 1 = [c] := by
    intro h2
    apply h
    cases hd : w.drop k with
    | nil => rw [hd] at h2; cases h2
    | cons x r =>
      rw [hd] at h2
      cases h2
      rfl
  have eb : b_Reader_take [rdC (some 0) w k, some (.imm (.str [c]))] = .ok (.rt (.bl false)) [rdC (some 0) w k, some (.imm (.str [c]))] := by
    unfold b_Reader_take
    rw [fSeq_rt (ρ' := [rdC (some 0) w k, some (.imm (.str [c]))]) (d := .bl false)]
    rw [fIf_t (ρ' := [rdC (some 0) w k, some (.imm (.str [c]))])]
    · rfl
    · simp only [fBinT, fBin, fD, fPeek, mB, mP, mO, e1, List.set_cons_zero, List.getElem?_cons_zero, List.getElem?_cons_succ, look, vNe_str, hne, decide_false, Bool.not_false, asBl]
  rw [e, eb]
  rfl
theorem one_eq {w r ss : List Nat} {k c : Nat} (hw : w.length ≤ 16777216) (h : w.drop k = c :: r) (hc : c ∈ ss) : f_Reader_one_of (rdF w k) [.str ss] = some (.str [c], rdF w (k + 1)) := by
  have e : f_Reader_one_of (rdF w k) [.str ss] = resIO "Reader" (b_Reader_one_of [rdC (some 0) w k, some (.imm (.str ss)), none]) := rfl
  have h0 : ([rdC (some 0) w k, some (.imm (.str ss)), none] : Env)[0]? = some (rdC (some 0) w k) := rfl
  have e1 := mio_eq (fa := mP []) h0 (rd_no w k).1 rfl (here_eq hw k)
  rw [h] at e1
  have h1 : ([rdC (some 0) w k, some (.imm (.str ss)), some (.imm (.str [c]))] : Env)[0]? = some (rdC (some 0) w k) := rfl
  have e2 := aug1_eq h1
  have eb : b_Reader_one_of [rdC (some 0) w k, some (.imm (.str ss)), none] = .ok (.rt (.str [c])) [rdC (some 0) w (k + 1), some (.imm (.str ss)), some (.imm (.str [c]))] := by
    unfold b_Reader_one_of
    rw [fSeq_nx (ρ' := [rdC (some 0) w k, some (.imm (.str ss)), some (.imm (.str [c]))]) (by
        simp only [fAsg, mB, e1, List.take_succ_cons, List.take_zero]
        rfl),
      fSeq_nx (ρ' := [rdC (some 0) w k, some (.imm (.str ss)), some (.imm (.str [c]))]) (by
        have hne : ¬ [c] = [] := by simp
        rw [fIf_f (ρ' := [rdC (some 0) w k, some (.imm (.str ss)), some (.imm (.str [c]))])]
        · rfl
        · simp only [fOr, fBinT, fBin, fD, fPeek, mB, mP, mO, List.getElem?_cons_zero, List.getElem?_cons_succ, look, vEq_str, hne, decide_false, asBl, Bool.false_eq_true, if_false, vNotin_one, hc, decide_true, Bool.not_true]),
      fSeq_nx e2]
    rfl
  rw [e, eb]
  rfl
end Kb
namespace Kb
open Vl
open L2 (ixN atI)
theorem index_all : ∀ c ∈ sg, PySem.Builtin.Str.occurrences (S sg) (S [c]) 0 (S sg).length 1 = [idx c] := by decide +kernel
theorem index_eq {c : Nat} (h : c ∈ sg) : sIndex sg [.str [c]] = some (.int (idx c)) := by
  have := index_all c h
  simp only [sIndex, this]
theorem cutD_from (m : List Nat) (k : Nat) : cutD m (some (k : Int)) none = m.drop k := by
  unfold cutD
  rw [HT.sIx_none, HT.sIx_nat]
  by_cases h : k ≤ m.length
  · rw [Nat.min_eq_left h, List.take_of_length_le (by rw [List.length_drop]; omega)]
  · rw [Nat.min_eq_right (by omega), List.drop_length, List.drop_of_length_le (by omega)]
    simp
def kS (c : Nat) : L2.Key := .inr (S [c])
theorem kS_inj {c d : Nat} : kS c = kS d ↔ c = d := by
  constructor
  · intro h
    have h1 : S [c] = S [d] := Sum.inr.inj h
    have h2 : ([c] : List Nat).toArray = [d].toArray := congrArg PySem.Str.cps h1
    have := congrArg Array.toList h2
    simpa using this
  · rintro rfl
    rfl
def hk (kvs : List (L2.Key × Da)) (k : L2.Key) : Bool := kvs.any fun kv => decide (kv.1 = k)
theorem valD_hk (kvs : List (L2.Key × Da)) (k : L2.Key) : (valD kvs k).isSome = hk kvs k := by
  unfold valD hk
  rw [Option.isSome_map]
  induction kvs with
  | nil => rfl
  | cons x kvs ih =>
    rw [List.find?_cons, List.any_cons]
    cases decide (x.1 = k) with
    | true => rfl
    | false => simpa using ih
theorem hk_put (kvs : List (L2.Key × Da)) (k k' : L2.Key) (v : Da) : hk (putD kvs k v) k' = (decide (k = k') || hk kvs k') := by
  unfold putD
  split
  · rename_i h
    have e : hk (kvs.map fun kv => if kv.1 = k then (kv.1, v) else kv) k' = hk kvs k' := by
      unfold hk
      rw [List.any_map]
      congr 1
      funext kv
      simp only [Function.comp]
      split <;> rfl
    rw [e]
    by_cases hk' : k = k'
    · subst hk'
      have h' : hk kvs k = true := h
      rw [h']
      simp
    · simp [hk']
  · unfold hk
    rw [List.any_append, Bool.or_comm]
    simp
theorem len_put (kvs : List (L2.Key × Da)) (k : L2.Key) (v : Da) : (putD kvs k v).length ≤ kvs.length + 1 := by
  unfold putD
  split <;> simp
abbrev bkE (w : List Nat) (k : Nat) (less : Bool) (kvs : List (L2.Key × Da)) (a b c d e : Option Ce) : Env := [rdC (some 0) w k, some (.imm (.bl less)), some (.dic kvs), a, b, c, d, e]
theorem put_loop (w : List Nat) (k : Nat) (less : Bool) (a b c d : Option Ce) : ∀ (l : List Nat) (kvs : List (L2.Key × Da)) (e : Option Ce), kvs.length + l.length ≤ 10000000 → ∃ kvs' e', forL (stN 7) p1_brackets_of (l.map fun c => .str [c]) (bkE w k less kvs a b c d e) = .ok .nx (bkE w k less kvs' a b c d e') ∧ kvs'.length ≤ kvs.length + l.length ∧ ∀ s, hk kvs' (kS s) = (decide (s ∈ l) || hk kvs (kS s))
  | [], kvs, e, _ => ⟨kvs, e, rfl, by simp, fun s => by simp⟩
  | x :: l, kvs, e, hl => by
    rw [List.length_cons] at hl
    have h0 : kvs.length < 16777216 := by omega
    have h1 := len_put kvs (kS x) (.bl true)
    obtain ⟨kvs', e', h2, h3, h4⟩ := put_loop w k less a b c d l (putD kvs (kS x) (.bl true)) (some (.imm (.str [x]))) (by omega)
    refine ⟨kvs', e', ?_, by rw [List.length_cons]; omega, fun s => ?_⟩
    · rw [List.map_cons, forL_cons (ρ1 := bkE w k less kvs a b c d (some (.imm (.str [x])))) (ρ2 := bkE w k less (putD kvs (kS x) (.bl true)) a b c d (some (.imm (.str [x])))) rfl ?_, h2]
      simp only [p1_brackets_of, bkE, fDput, fName, mB, mP, List.getElem?_cons_zero, List.getElem?_cons_succ, dKey, h0, if_true, List.set_cons_zero, List.set_cons_succ]
      rfl
    · rw [h4, hk_put]
      simp only [List.mem_cons]
      have : decide (kS x = kS s) = decide (s = x) := decide_eq_decide.mpr ⟨fun h => (kS_inj.mp h).symm, fun h => kS_inj.mpr h.symm⟩
      rw [this]
      by_cases h5 : s = x <;> by_cases h6 : s ∈ l <;> simp [h5, h6]
theorem drop_mem {c d : Nat} (hd : d ∈ sg) (h : idx c ≤ idx d) : d ∈ sg.drop (idx c) := by
  have hl : idx d < sg.length := idx_lt hd
  have e := sg_idx hd
  rw [List.getElem?_eq_getElem hl] at e
  simp only [Option.some.injEq] at e
  rw [List.mem_drop_iff_getElem]
  exact ⟨idx d - idx c, by omega, by
    have : idx c + (idx d - idx c) = idx d := by omega
    simp only [this]
    exact e⟩
theorem slice_mem {i j s : Nat} (hs : s ∈ sg) : s ∈ (sg.drop i).take (j + 1 - i) ↔ i ≤ idx s ∧ idx s ≤ j := by
  constructor
  · intro h
    obtain ⟨n, hn, e⟩ := List.mem_iff_getElem.mp h
    rw [List.length_take, List.length_drop] at hn
    rw [List.getElem_take, List.getElem_drop] at e
    have hl : i + n < 27 := by rw [sg_len] at hn; omega
    have := idx_all (i + n) hl s (by rw [List.getElem?_eq_getElem (by rw [sg_len]; omega), e])
    omega
  · rintro ⟨h1, h2⟩
    have hl : idx s < sg.length := idx_lt hs
    have e := sg_idx hs
    rw [List.getElem?_eq_getElem hl] at e
    simp only [Option.some.injEq] at e
    rw [List.mem_iff_getElem]
    refine ⟨idx s - i, by rw [List.length_take, List.length_drop]; omega, ?_⟩
    rw [List.getElem_take, List.getElem_drop]
    have : i + (idx s - i) = idx s := by omega
    simp only [this]
    exact e
theorem drop_next {w r : List Nat} {k c : Nat} (h : w.drop k = c :: r) : w.drop (k + 1) = r := by
  rw [← List.drop_drop, h]
  rfl
/-- the first sign behind an item -/
def nd45 (r : List Nat) : Prop := r.head? ≠ some 45
/-- one item within brackets -/
theorem bk_item {w r : List Nat} {k : Nat} {less : Bool} {kvs : List (L2.Key × Da)} {i : Itm} (b c d e : Option Ce) (begun : Bool) (hw : w.length ≤ 16777216) (h : w.drop k = itmT i ++ r) (hi : OkItm i) (hr : nd45 r) (hl : kvs.length ≤ 1000000) :
    ∃ kvs' b' c' d' e', p3_brackets_of (bkE w k less kvs (some (.imm (.bl begun))) b c d e) = .ok .nx (bkE w (k + (itmT i).length) less kvs' (some (.imm (.bl true))) b' c' d' e') ∧ kvs'.length ≤ kvs.length + 27 ∧ ∀ s ∈ sg, hk kvs' (kS s) = (itmIn i s || hk kvs (kS s)) := by
  have fin : ∀ (k' : Nat) (c0 d0 : Nat) (b c d e : Option Ce), (∀ s ∈ sg, itmIn i s = decide (idx c0 ≤ idx s ∧ idx s ≤ idx d0)) → ∃ kvs' e', fFor (fIt itemsS (fSl vSlS (fD (mP (.str c_SIGNS))) (fInt (fName 5)) (fInt (fBin vAdd (fPeek 6) (fD (mP (.int 1))))))) (stN 7) p1_brackets_of (bkE w k' less kvs (some (.imm (.bl true))) b (some (.imm (.int (idx c0)))) (some (.imm (.int (idx d0)))) e)
      = .ok .nx (bkE w k' less kvs' (some (.imm (.bl true))) b (some (.imm (.int (idx c0)))) (some (.imm (.int (idx d0)))) e') ∧ kvs'.length ≤ kvs.length + 27 ∧ ∀ s ∈ sg, hk kvs' (kS s) = (itmIn i s || hk kvs (kS s)) := by
    intro k' c0 d0 b c d e hh
    have ec : cutD sg (some ((idx c0 : Nat) : Int)) (some (((idx d0 : Nat) : Int) + 1)) = (sg.drop (idx c0)).take (idx d0 + 1 - idx c0) := by
      have : ((idx d0 : Nat) : Int) + 1 = ((idx d0 + 1 : Nat) : Int) := by omega
      rw [this, cutD_nat]
    have hlen : ((sg.drop (idx c0)).take (idx d0 + 1 - idx c0)).length ≤ 27 := by
      rw [List.length_take, List.length_drop, sg_len]
      omega
    obtain ⟨kvs', e', h1, h2, h3⟩ := put_loop w k' less (some (.imm (.bl true))) b (some (.imm (.int (idx c0)))) (some (.imm (.int (idx d0)))) ((sg.drop (idx c0)).take (idx d0 + 1 - idx c0)) kvs e (by omega)
    refine ⟨kvs', e', ?_, by omega, fun s hs => ?_⟩
    · rw [← h1]
      have hsl : sg.length ≤ 16777216 := by rw [sg_len]; decide
      simp only [bkE, fFor, fIt, fSl, fD, fInt, fBin, fName, fPeek, mB, mP, mO, look, asInt, Option.map_some, vAdd, List.getElem?_cons_zero, List.getElem?_cons_succ, vSlS, show (c_SIGNS : List Nat) = sg from rfl, hsl, if_true, ec, itemsS]
    · rw [h3 s, hh s hs]
      congr 1
      exact decide_eq_decide.mpr (slice_mem hs)
  have h0 : ∀ (kvs : List (L2.Key × Da)) (k : Nat) (a b c d e : Option Ce), (bkE w k less kvs a b c d e)[0]? = some (rdC (some 0) w k) := fun _ _ _ _ _ _ _ => rfl
  unfold p3_brackets_of
  rw [fSeq_nx (ρ' := bkE w k less kvs (some (.imm (.bl true))) b c d e) (by simp only [bkE, fAsg, mB, mP, List.set_cons_zero, List.set_cons_succ])]
  cases i with
  | one x =>
    have hx : x ∈ sg := hi
    have h1 : w.drop k = x :: r := h
    have h2 := drop_next h1
    rw [fSeq_nx (ρ' := bkE w (k + 1) less kvs (some (.imm (.bl true))) (some (.imm (.str [x]))) c d e) (by
        have := mio_eq (fa := fCons (mP (.str c_SIGNS)) (mP [])) (h0 kvs k (some (.imm (.bl true))) b c d e) (rd_no w k).2.2 rfl (one_eq hw h1 (show x ∈ c_SIGNS from hx))
        simp only [fAsg, mB, this]
        rfl),
      fSeq_nx (ρ' := bkE w (k + 1) less kvs (some (.imm (.bl true))) (some (.imm (.str [x]))) (some (.imm (.int (idx x)))) d e) (by
        have := index_eq hx
        simp only [bkE, fAsg, fMs, fCons, fPeek, mB, mP, mO, lookA, look, List.getElem?_cons_zero, List.getElem?_cons_succ, show (c_SIGNS : List Nat) = sg from rfl, this, List.set_cons_zero, List.set_cons_succ]),
      fSeq_nx (ρ' := bkE w (k + 1) less kvs (some (.imm (.bl true))) (some (.imm (.str [x]))) (some (.imm (.int (idx x)))) (some (.imm (.int (idx x)))) e) (by
        have := mio_eq (fa := fCons (mP (.str [45])) (mP [])) (h0 kvs (k + 1) (some (.imm (.bl true))) (some (.imm (.str [x]))) (some (.imm (.int (idx x)))) d e) (rd_no w (k + 1)).2.1 rfl (take_no hw (by rw [h2]; exact hr))
        have hf : fIf (fTru (fD (fMIO "Reader" "take" f_Reader_take 0 (fCons (mP (.str [45])) (mP []))))) (fMs sIndex (mP (.str c_SIGNS)) (fCons (fD (fMIO "Reader" "one_of" f_Reader_one_of 0 (fCons (fSl vSlS (fD (mP (.str c_SIGNS))) (fInt (fName 5)) (mP none)) (mP [])))) (mP []))) (fName 5) (bkE w (k + 1) less kvs (some (.imm (.bl true))) (some (.imm (.str [x]))) (some (.imm (.int (idx x)))) d e)
          = .ok (.int (idx x)) (bkE w (k + 1) less kvs (some (.imm (.bl true))) (some (.imm (.str [x]))) (some (.imm (.int (idx x)))) d e) := by
          rw [fIf_f (ρ' := bkE w (k + 1) less kvs (some (.imm (.bl true))) (some (.imm (.str [x]))) (some (.imm (.int (idx x)))) d e)]
          · rfl
          · simp only [fTru, fD, mB, this, mP, mO, look, vTru]
            rfl
        simp only [fAsg, mB, hf]
        rfl)]
    obtain ⟨kvs', e', f1, f2, f3⟩ := fin (k + 1) x x (some (.imm (.str [x]))) none none e (fun s hs => by
      show decide (s = x) = _
      exact decide_eq_decide.mpr ⟨fun h => by rw [h]; exact ⟨Nat.le_refl _, Nat.le_refl _⟩, fun h => idx_inj hs hx (Nat.le_antisymm h.2 h.1)⟩)
    exact ⟨kvs', _, _, _, e', f1, f2, f3⟩
  | two x y =>
    obtain ⟨hx, hy, hxy⟩ := hi
    have h1 : w.drop k = x :: 45 :: y :: r := h
    have h2 := drop_next h1
    have h3 := drop_next h2
    rw [fSeq_nx (ρ' := bkE w (k + 1) less kvs (some (.imm (.bl true))) (some (.imm (.str [x]))) c d e) (by
        have := mio_eq (fa := fCons (mP (.str c_SIGNS)) (mP [])) (h0 kvs k (some (.imm (.bl true))) b c d e) (rd_no w k).2.2 rfl (one_eq hw h1 (show x ∈ c_SIGNS from hx))
        simp only [fAsg, mB, this]
        rfl),
      fSeq_nx (ρ' := bkE w (k + 1) less kvs (some (.imm (.bl true))) (some (.imm (.str [x]))) (some (.imm (.int (idx x)))) d e) (by
        have := index_eq hx
        simp only [bkE, fAsg, fMs, fCons, fPeek, mB, mP, mO, lookA, look, List.getElem?_cons_zero, List.getElem?_cons_succ, show (c_SIGNS : List Nat) = sg from rfl, this, List.set_cons_zero, List.set_cons_succ]),
      fSeq_nx (ρ' := bkE w (k + 1 + 1 + 1) less kvs (some (.imm (.bl true))) (some (.imm (.str [x]))) (some (.imm (.int (idx x)))) (some (.imm (.int (idx y)))) e) (by
        have := mio_eq (fa := fCons (mP (.str [45])) (mP [])) (h0 kvs (k + 1) (some (.imm (.bl true))) (some (.imm (.str [x]))) (some (.imm (.int (idx x)))) d e) (rd_no w (k + 1)).2.1 rfl (take_yes hw h2)
        have hsl : sg.length ≤ 16777216 := by rw [sg_len]; decide
        have this2 := mio_eq (fa := fCons (fSl vSlS (fD (mP (.str c_SIGNS))) (fInt (fName 5)) (mP none)) (mP [])) (h0 kvs (k + 1 + 1) (some (.imm (.bl true))) (some (.imm (.str [x]))) (some (.imm (.int (idx x)))) d e) (rd_no w (k + 1 + 1)).2.2 (ds := [.str (sg.drop (idx x))]) (by
          simp only [bkE, fCons, fSl, fD, fInt, fName, mB, mP, mO, look, asInt, Option.map_some, List.getElem?_cons_zero, List.getElem?_cons_succ, vSlS, show (c_SIGNS : List Nat) = sg from rfl, hsl, if_true, cutD_from]) (one_eq hw h3 (drop_mem hy hxy))
        have hi := index_eq hy
        have hf : fIf (fTru (fD (fMIO "Reader" "take" f_Reader_take 0 (fCons (mP (.str [45])) (mP []))))) (fMs sIndex (mP (.str c_SIGNS)) (fCons (fD (fMIO "Reader" "one_of" f_Reader_one_of 0 (fCons (fSl vSlS (fD (mP (.str c_SIGNS))) (fInt (fName 5)) (mP none)) (mP [])))) (mP []))) (fName 5) (bkE w (k + 1) less kvs (some (.imm (.bl true))) (some (.imm (.str [x]))) (some (.imm (.int (idx x)))) d e)
          = .ok (.int (idx y)) (bkE w (k + 1 + 1 + 1) less kvs (some (.imm (.bl true))) (some (.imm (.str [x]))) (some (.imm (.int (idx x)))) d e) := by
          rw [fIf_t (ρ' := bkE w (k + 1 + 1) less kvs (some (.imm (.bl true))) (some (.imm (.str [x]))) (some (.imm (.int (idx x)))) d e)]
          · generalize hgen : fMIO "Reader" "one_of" f_Reader_one_of 0 (fCons (fSl vSlS (fD (mP (.str c_SIGNS))) (fInt (fName 5)) (mP none)) (mP [])) = G at this2
            simp only [fMs, fCons, fD, mB, mP, mO, this2, lookA, look, show (c_SIGNS : List Nat) = sg from rfl, hi]
            rfl
          · simp only [fTru, fD, mB, this, mP, mO, look, vTru]
            rfl
        simp only [fAsg, mB, hf]
        rfl)]
    obtain ⟨kvs', e', f1, f2, f3⟩ := fin (k + 1 + 1 + 1) x y (some (.imm (.str [x]))) none none e (fun s hs => rfl)
    exact ⟨kvs', _, _, _, e', f1, f2, f3⟩
end Kb
namespace Kb
open Vl
open L2 (ixN atI)
theorem itm_head {i : Itm} (h : OkItm i) : ∃ c t, itmT i = c :: t ∧ c ∈ sg := by
  cases i with
  | one c => exact ⟨c, [], rfl, h⟩
  | two c d => exact ⟨c, [45, d], rfl, h.1⟩
theorem sg_ne {c d : Nat} (h : c ∈ sg) (hd : d ∉ sg) : c ≠ d := fun e => hd (e ▸ h)
theorem n93 : (93 : Nat) ∉ sg := by decide
theorem n45 : (45 : Nat) ∉ sg := by decide
theorem n33 : (33 : Nat) ∉ sg := by decide
theorem n47 : (47 : Nat) ∉ sg := by decide
theorem n63 : (63 : Nat) ∉ sg := by decide
theorem n91 : (91 : Nat) ∉ sg := by decide
theorem bk_loop {w r : List Nat} {less : Bool} (hw : w.length ≤ 16777216) : ∀ (its : List Itm) (k : Nat) (kvs : List (L2.Key × Da)) (begun : Bool) (b c d e : Option Ce) (n : Nat), w.drop k = its.flatMap itmT ++ 93 :: r → (∀ i ∈ its, OkItm i) → (begun = false → its ≠ []) → its.length < n → kvs.length + 27 * its.length ≤ 1000000 →
    ∃ k' kvs' b' c' d' e', whileN p2_brackets_of p3_brackets_of n (bkE w k less kvs (some (.imm (.bl begun))) b c d e) = .ok .nx (bkE w k' less kvs' (some (.imm (.bl true))) b' c' d' e') ∧ w.drop k' = r ∧ ∀ s ∈ sg, hk kvs' (kS s) = (its.any (itmIn · s) || hk kvs (kS s))
  | [], k, kvs, begun, b, c, d, e, n, h, ho, hb, hn, hl => by
    have hb' : begun = true := by
      cases begun with
      | true => rfl
      | false => exact absurd rfl (hb rfl)
    subst hb'
    have h' : w.drop k = 93 :: r := h
    have h0 : (bkE w k less kvs (some (.imm (.bl true))) b c d e)[0]? = some (rdC (some 0) w k) := rfl
    have e1 := mio_eq (fa := fCons (mP (.str [93])) (mP [])) h0 (rd_no w k).2.1 rfl (take_yes hw h')
    refine ⟨k + 1, kvs, b, c, d, e, whileN_stop (by omega) ?_, drop_next h', fun s _ => by simp⟩
    simp only [p2_brackets_of, fOr, fNot, fTru, fD, fPeek, mB, mP, mO, look, bkE, List.getElem?_cons_zero, List.getElem?_cons_succ, vTru, Bool.not_true, Bool.false_eq_true, if_false] at e1 ⊢
    simp only [e1, mB, mP, mO, look, vTru, Bool.not_true, List.set_cons_zero]
  | i :: its, k, kvs, begun, b, c, d, e, n, h, ho, hb, hn, hl => by
    rw [List.length_cons] at hn hl
    rw [List.flatMap_cons, List.append_assoc] at h
    have hi := ho i (List.mem_cons_self ..)
    have hr : nd45 (its.flatMap itmT ++ 93 :: r) := by
      cases its with
      | nil => simp [nd45]
      | cons j its =>
        obtain ⟨x, t, ex, hx⟩ := itm_head (ho j (by simp))
        rw [List.flatMap_cons, ex]
        unfold nd45
        simp only [List.cons_append, List.head?_cons, ne_eq, Option.some.injEq]
        exact sg_ne hx n45
    obtain ⟨kvs1, b1, c1, d1, e1, f1, f2, f3⟩ := bk_item (less := less) (kvs := kvs) b c d e begun hw h hi hr (by omega)
    have hd2 : w.drop (k + (itmT i).length) = its.flatMap itmT ++ 93 :: r := by
      rw [← List.drop_drop, h, List.drop_left]
    cases n with
    | zero => omega
    | succ n =>
      obtain ⟨k', kvs', b', c', d', e', g1, g2, g3⟩ := bk_loop hw its (k + (itmT i).length) kvs1 true b1 c1 d1 e1 n hd2 (fun j hj => ho j (List.mem_cons_of_mem _ hj)) (by simp) (by omega) (by omega)
      refine ⟨k', kvs', b', c', d', e', ?_, g2, fun s hs => ?_⟩
      · rw [whileN_step (ρ' := bkE w k less kvs (some (.imm (.bl begun))) b c d e) ?_ f1, g1]
        cases begun with
        | false => simp only [p2_brackets_of, fOr, fNot, fTru, fD, fPeek, mB, mP, mO, look, bkE, List.getElem?_cons_zero, List.getElem?_cons_succ, vTru, Bool.not_false, if_true]
        | true =>
          obtain ⟨x, t, ex, hx⟩ := itm_head hi
          have h0 : (bkE w k less kvs (some (.imm (.bl true))) b c d e)[0]? = some (rdC (some 0) w k) := rfl
          have e1 := mio_eq (fa := fCons (mP (.str [93])) (mP [])) h0 (rd_no w k).2.1 rfl (take_no hw (by
            rw [h, ex]
            simp only [List.cons_append, List.head?_cons, ne_eq, Option.some.injEq]
            exact sg_ne hx n93))
          simp only [p2_brackets_of, fOr, fNot, fTru, fD, fPeek, mB, mP, mO, look, bkE, List.getElem?_cons_zero, List.getElem?_cons_succ, vTru, Bool.not_true, Bool.false_eq_true, if_false] at e1 ⊢
          simp only [e1, mB, mP, mO, look, vTru, Bool.not_false, List.set_cons_zero]
      · rw [g3 s hs, f3 s hs, List.any_cons]
        cases itmIn i s <;> cases its.any (itmIn · s) <;> cases hk kvs (kS s) <;> rfl
theorem brackets_eq {w r : List Nat} {k : Nat} {less : Bool} {its : List Itm} (hw : w.length ≤ 16777216) (h : w.drop k = (if less then [33] else []) ++ (its.flatMap itmT ++ 93 :: r)) (hne : its ≠ []) (ho : ∀ i ∈ its, OkItm i) (hl : its.length ≤ 1000) :
    ∃ k', f_brackets_of (rdF w k) [] = some (.str (formD (.br less its)), rdF w k') ∧ w.drop k' = r := by
  have e : f_brackets_of (rdF w k) [] = resIO "Reader" (b_brackets_of [rdC (some 0) w k, none, none, none, none, none, none, none]) := rfl
  have h0 : ([rdC (some 0) w k, none, none, none, none, none, none, none] : Env)[0]? = some (rdC (some 0) w k) := rfl
  obtain ⟨i, its', rfl⟩ := List.exists_cons_of_ne_nil hne
  obtain ⟨x, t, ex, hx⟩ := itm_head (ho i (by simp))
  obtain ⟨k1, hd, et⟩ : ∃ k1, w.drop k1 = (i :: its').flatMap itmT ++ 93 :: r ∧ f_Reader_take (rdF w k) [.str [33]] = some (.bl less, rdF w k1) := by
    cases less with
    | true => exact ⟨k + 1, drop_next h, take_yes hw h⟩
    | false =>
      refine ⟨k, h, take_no hw ?_⟩
      rw [h]
      simp only [Bool.false_eq_true, if_false, List.nil_append, List.flatMap_cons, ex, List.cons_append, List.head?_cons, ne_eq, Option.some.injEq]
      exact sg_ne hx n33
  have e1 := mio_eq (fa := fCons (mP (.str [33])) (mP [])) h0 (rd_no w k).2.1 rfl et
  obtain ⟨k', kvs', b', c', d', e', g1, g2, g3⟩ := bk_loop (less := less) hw (i :: its') k1 [] false none none none none 1000000000 hd ho (by simp) (by omega) (by simp only [List.length_cons, List.length_nil] at hl ⊢; omega)
  refine ⟨k', ?_, g2⟩
  have hs27 : (sg.filter fun s => (i :: its').any (itmIn · s) != less).length ≤ 27 := List.length_filter_le _ _
  have ec := compL_pure (vs := [7]) (st := stN 7) (t := p4_brackets_of) (e := p5_brackets_of) (g := fun c : Nat => Da.str [c]) (b := fun s => (i :: its').any (itmIn · s) != less) (y := fun c => Da.str [c]) sg []
    (bkE w k' less kvs' (some (.imm (.bl true))) b' c' d' e') (ρw := bkE w k' less kvs' (some (.imm (.bl true))) b' c' d' none) rfl (fun s hs => by
      refine ⟨_, rfl, ?_, fun _ => rfl, rfl⟩
      have := g3 s hs
      have h00 : hk [] (kS s) = false := rfl
      rw [h00, Bool.or_false] at this
      have hv : (valD kvs' (.inr ⟨([s] : List Nat).toArray⟩)).isSome = (i :: its').any (itmIn · s) := by rw [← this]; exact valD_hk kvs' (kS s)
      simp only [p4_brackets_of, bkE, fBinT, fBin, fD, fInD, fName, fPeek, mB, mP, mO, look, List.getElem?_cons_zero, List.getElem?_cons_succ, List.set_cons_zero, List.set_cons_succ, dKey, hv, Bool.false_eq_true, if_false, vNe_bl, asBl]
      generalize (i :: its').any (itmIn · s) = z
      cases z <;> cases less <;> rfl) (by rw [sg_len]; decide)
  rw [List.nil_append] at ec
  have ed : formD (.br less (i :: its')) = sg.filter fun s => (i :: its').any (itmIn · s) != less := rfl
  rw [e, ed]
  generalize (sg.filter fun s => (i :: its').any (itmIn · s) != less) = m at ec hs27
  have ej := sJoin_one m (by omega)
  have eb : b_brackets_of [rdC (some 0) w k, none, none, none, none, none, none, none] = .ok (.rt (.str m)) (bkE w k' less kvs' (some (.imm (.bl true))) b' c' d' none) := by
    unfold b_brackets_of
    rw [fSeq_nx (ρ' := bkE w k1 less [] none none none none none) (by
        simp only [fPar2, fCv, fCd, mB, e1, mP]
        rfl),
      fSeq_nx (ρ' := bkE w k1 less [] (some (.imm (.bl false))) none none none none) (by rfl), fSeq_nx g1]
    simp only [fRet, fMs, fCons, fD, fN, fComp, fIt, itemsS, mB, mP, mO, show (c_SIGNS : List Nat) = sg from rfl, ec, lookA, look, ej]
  rw [eb]
  rfl
/-- one mark -/
theorem mark_of_eq {w r : List Nat} {k : Nat} {F : Form} {st : Bool} (hw : w.length ≤ 16777216) (h : w.drop k = formT F ++ r) (ho : OkForm F) (hst : F = .star → st = false) (hl : (formT F).length ≤ 100) :
    ∃ k', f_mark_of (rdF w k) [.bl st] = some (.str (formD F), rdF w k') ∧ w.drop k' = r := by
  have e : f_mark_of (rdF w k) [.bl st] = resIO "Reader" (b_mark_of [rdC (some 0) w k, some (.imm (.bl st))]) := rfl
  have h0 : ([rdC (some 0) w k, some (.imm (.bl st))] : Env)[0]? = some (rdC (some 0) w k) := rfl
  rw [e]
  by_cases hs : F = .star
  · subst hs
    have h' : w.drop k = 42 :: r := h
    have hst' := hst rfl
    subst hst'
    have e1 := mio_eq (fa := fCons (mP (.str c_STAR)) (mP [])) h0 (rd_no w k).2.1 rfl (take_yes hw h')
    refine ⟨k + 1, ?_, drop_next h'⟩
    have eb : b_mark_of [rdC (some 0) w k, some (.imm (.bl false))] = .ok (.rt (.str [42])) [rdC (some 0) w (k + 1), some (.imm (.bl false))] := by
      unfold b_mark_of
      rw [fSeq_rt (d := .str [42]) (ρ' := [rdC (some 0) w (k + 1), some (.imm (.bl false))])]
      rw [fIf_t (ρ' := [rdC (some 0) w (k + 1), some (.imm (.bl false))])]
      · rfl
      · simp only [fAnd, fNot, fTru, fD, fPeek, mB, mP, mO, look, List.getElem?_cons_zero, List.getElem?_cons_succ, vTru, Bool.not_false, if_true] at e1 ⊢
        simp only [e1, look, vTru]
        rfl
    rw [eb]
    rfl
  · obtain ⟨x, t, ex, hx42⟩ : ∃ x t, formT F = x :: t ∧ x ≠ 42 := by
      cases F with
      | star => exact absurd rfl hs
      | any => exact ⟨63, [], rfl, by decide⟩
      | sgn c => exact ⟨c, [], rfl, sg_ne ho star_sg⟩
      | br less its => exact ⟨91, _, rfl, by decide⟩
    have n1 : (w.drop k).head? ≠ some 42 := by
      rw [h, ex]
      simp only [List.cons_append, List.head?_cons, ne_eq, Option.some.injEq]
      exact hx42
    have e1 := mio_eq (fa := fCons (mP (.str c_STAR)) (mP [])) h0 (rd_no w k).2.1 rfl (take_no hw n1)
    have s1 : fIf (fAnd (fNot (fTru (fPeek 1))) (fTru (fD (fMIO "Reader" "take" f_Reader_take 0 (fCons (mP (.str c_STAR)) (mP [])))))) (fRet (mP (.str c_STAR))) (mP .nx) [rdC (some 0) w k, some (.imm (.bl st))] = .ok .nx [rdC (some 0) w k, some (.imm (.bl st))] := by
      rw [fIf_f (ρ' := [rdC (some 0) w k, some (.imm (.bl st))])]
      · rfl
      · cases st with
        | true => simp only [fAnd, fNot, fTru, fD, fPeek, mB, mP, mO, look, List.getElem?_cons_zero, List.getElem?_cons_succ, vTru, Bool.not_true, Bool.false_eq_true, if_false]
        | false =>
          simp only [fAnd, fNot, fTru, fD, fPeek, mB, mP, mO, look, List.getElem?_cons_zero, List.getElem?_cons_succ, vTru, Bool.not_false, if_true] at e1 ⊢
          simp only [e1, look, vTru]
          rfl
    unfold b_mark_of
    rw [fSeq_nx s1]
    cases F with
    | star => exact absurd rfl hs
    | any =>
      have h' : w.drop k = 63 :: r := h
      have e2 := mio_eq (fa := fCons (mP (.str [63])) (mP [])) h0 (rd_no w k).2.1 rfl (take_yes hw h')
      refine ⟨k + 1, ?_, drop_next h'⟩
      rw [fSeq_rt (d := .str sg) (ρ' := [rdC (some 0) w (k + 1), some (.imm (.bl st))])]
      · rfl
      · rw [fIf_t (ρ' := [rdC (some 0) w (k + 1), some (.imm (.bl st))])]
        · rfl
        · simp only [fTru, fD, mB, e2, mP, mO, look, vTru]
          rfl
    | sgn c =>
      have h' : w.drop k = c :: r := h
      have hc : c ∈ sg := ho
      have e2 := mio_eq (fa := fCons (mP (.str [63])) (mP [])) h0 (rd_no w k).2.1 rfl (take_no hw (by rw [h']; simp only [List.head?_cons, ne_eq, Option.some.injEq]; exact sg_ne hc n63))
      have e3 := mio_eq (fa := fCons (mP (.str [91])) (mP [])) h0 (rd_no w k).2.1 rfl (take_no hw (by rw [h']; simp only [List.head?_cons, ne_eq, Option.some.injEq]; exact sg_ne hc n91))
      have e4 := mio_eq (fa := fCons (mP (.str c_SIGNS)) (mP [])) h0 (rd_no w k).2.2 rfl (one_eq hw h' (show c ∈ c_SIGNS from hc))
      refine ⟨k + 1, ?_, drop_next h'⟩
      rw [fSeq_nx (ρ' := [rdC (some 0) w k, some (.imm (.bl st))]), fSeq_nx (ρ' := [rdC (some 0) w k, some (.imm (.bl st))])]
      · simp only [fRet, mB, e4]
        rfl
      · rw [fIf_f (ρ' := [rdC (some 0) w k, some (.imm (.bl st))])]
        · rfl
        · simp only [fTru, fD, mB, e3, mP, mO, look, vTru]
          rfl
      · rw [fIf_f (ρ' := [rdC (some 0) w k, some (.imm (.bl st))])]
        · rfl
        · simp only [fTru, fD, mB, e2, mP, mO, look, vTru]
          rfl
    | br less its =>
      have h' : w.drop k = 91 :: ((if less then [33] else []) ++ (its.flatMap itmT ++ 93 :: r)) := by
        rw [h]
        simp only [formT, List.append_assoc, List.cons_append, List.nil_append]
      have hil : its.length ≤ 1000 := by
        have h3 : its.length ≤ (its.flatMap itmT).length := by
          clear h h' hl ho hst hs ex e1 s1 n1
          induction its with
          | nil => simp
          | cons i its ih =>
            rw [List.flatMap_cons, List.length_append, List.length_cons]
            have : 1 ≤ (itmT i).length := by cases i <;> simp [itmT]
            omega
        simp only [formT, List.length_append, List.length_cons, List.length_nil] at hl
        omega
      have e2 := mio_eq (fa := fCons (mP (.str [63])) (mP [])) h0 (rd_no w k).2.1 rfl (take_no hw (by rw [h']; simp))
      have e3 := mio_eq (fa := fCons (mP (.str [91])) (mP [])) h0 (rd_no w k).2.1 rfl (take_yes hw h')
      obtain ⟨k', e4, hd⟩ := brackets_eq hw (drop_next h') ho.1 ho.2 hil
      have h1 : ([rdC (some 0) w (k + 1), some (.imm (.bl st))] : Env)[0]? = some (rdC (some 0) w (k + 1)) := rfl
      have e5 := io_eq (fa := mP []) h1 rfl e4
      refine ⟨k', ?_, hd⟩
      rw [fSeq_nx (ρ' := [rdC (some 0) w k, some (.imm (.bl st))]), fSeq_rt (d := .str (formD (.br less its))) (ρ' := [rdC (some 0) w k', some (.imm (.bl st))])]
      · rfl
      · rw [fIf_t (ρ' := [rdC (some 0) w (k + 1), some (.imm (.bl st))])]
        · simp only [fRet, mB, e5]
          rfl
        · simp only [fTru, fD, mB, e3, mP, mO, look, vTru]
          rfl
      · rw [fIf_f (ρ' := [rdC (some 0) w k, some (.imm (.bl st))])]
        · rfl
        · simp only [fTru, fD, mB, e2, mP, mO, look, vTru]
          rfl
end Kb
namespace Kb
open Vl
open L2 (ixN atI)
def daR : LP → Da
  | .many => .ins "Names" []
  | .marks ms => .ins "Marks" [("marks", .lst (ms.map .str))]
theorem form_head {F : Form} (ho : OkForm F) : ∃ x t, formT F = x :: t ∧ x ≠ 33 ∧ x ≠ 47 ∧ (F ≠ .star → x ≠ 42) := by
  cases F with
  | star => exact ⟨42, [], rfl, by decide, by decide, fun h => absurd rfl h⟩
  | any => exact ⟨63, [], rfl, by decide, by decide, fun _ => by decide⟩
  | sgn c => exact ⟨c, [], rfl, sg_ne ho n33, sg_ne ho n47, fun _ => sg_ne ho star_sg⟩
  | br less its => exact ⟨91, _, rfl, by decide, by decide, fun _ => by decide⟩
def endR (r : List Nat) : Prop := r = [] ∨ ∃ r', r = 47 :: r'
theorem vIn_end (a : List Nat) : vIn true (.str a) (.tup [.str [], .str [47]]) = some (.bl (!decide (a = [] ∨ a = [47]))) := by
  have e : vIn true (.str a) (.tup [.str [], .str [47]]) = some (.bl (!inD (.str a) [.str [], .str [47]])) := rfl
  rw [e]
  congr 3
  simp only [inD, List.any_cons, List.any_nil, Bool.or_false, dq]
  by_cases h1 : a = []
  · subst h1
    rfl
  · by_cases h2 : a = [47]
    · subst h2
      rfl
    · have h3 : ¬ ([] : List Nat) = a := fun h => h1 h.symm
      have h4 : ¬ ([47] : List Nat) = a := fun h => h2 h.symm
      simp [h1, h2, h3, h4]
theorem noSS_mid : ∀ {acc : List (List Nat)} {m : List Nat} {r : List (List Nat)}, NoSS (acc ++ m :: r) → m = [42] → acc.getLast? ≠ some [42]
  | [], m, r, _, _ => by simp
  | [a], m, r, h, hm => by
    intro e
    simp only [List.getLast?_singleton, Option.some.injEq] at e
    exact h.1 ⟨e, hm⟩
  | a :: b :: acc, m, r, h, hm => by
    have := noSS_mid (acc := b :: acc) h.2 hm
    simpa using this
abbrev pcE (w : List Nat) (k : Nat) (acc : List (List Nat)) : Env := [rdC (some 0) w k, some (.lst (acc.map .str))]
theorem pc_test {w : List Nat} (hw : w.length ≤ 16777216) (k : Nat) (c : Option Ce) : p1_piece_of [rdC (some 0) w k, c] = .ok (!decide ((w.drop k).take 1 = [] ∨ (w.drop k).take 1 = [47])) [rdC (some 0) w k, c] := by
  have h0 : ([rdC (some 0) w k, c] : Env)[0]? = some (rdC (some 0) w k) := rfl
  have e1 := mio_eq (fa := mP []) h0 (rd_no w k).1 rfl (here_eq hw k)
  have hz : (2 : Nat) ≤ 16777216 := by decide
  unfold p1_piece_of
  simp only [fBinT, fBin, fD, fTup, fCons, mB, e1, mP, mO, look, List.length_cons, List.length_nil, Nat.zero_add, Nat.reduceAdd, hz, if_true, vIn_end, asBl]
  rfl
theorem pc_loop {w r : List Nat} (hw : w.length ≤ 16777216) (hr : endR r) : ∀ (ms ts acc : List (List Nat)) (k n : Nat), All2 MF ms ts → w.drop k = ts.flatten ++ r → NoSS (acc ++ ms) → ms.length < n → acc.length + ms.length ≤ 1000 →
    ∃ k', whileN p1_piece_of p2_piece_of n (pcE w k acc) = .ok .nx (pcE w k' (acc ++ ms)) ∧ w.drop k' = r
  | _, _, acc, k, n, .nil, h, hs, hn, hl => by
    have h' : w.drop k = r := h
    refine ⟨k, ?_, h'⟩
    rw [whileN_stop (ρ' := pcE w k acc) (by omega), List.append_nil]
    rw [pc_test hw]
    have : (w.drop k).take 1 = [] ∨ (w.drop k).take 1 = [47] := by
      rw [h']
      rcases hr with rfl | ⟨r', rfl⟩
      · exact .inl rfl
      · exact .inr rfl
    rw [decide_eq_true this]
    rfl
  | m :: ms, t :: ts, acc, k, n, .cons hm ha, h, hs, hn, hl => by
    rw [List.length_cons] at hn hl
    obtain ⟨F, ho, rfl, rfl, htl⟩ := hm
    rw [List.flatten_cons, List.append_assoc] at h
    obtain ⟨x, t', ex, x1, x2, x3⟩ := form_head ho
    cases n with
    | zero => omega
    | succ n =>
      have hl1 : acc.length ≤ 16777216 := by omega
      have hl2 : acc.length < 16777216 := by omega
      have ec : cutD (acc.map Da.str) (some (-1)) none = (cutD acc (some (-1)) none).map .str := by
        rw [cutD_last, cutD_last, List.length_map, List.map_drop]
      have hv := vEq_strs (cutD acc (some (-1)) none) [[42]]
      have e42 : [[42]].map Da.str = [Da.str [42]] := rfl
      rw [← ec, e42] at hv
      obtain ⟨k1, em, hd⟩ := mark_of_eq (F := F) (st := decide (cutD acc (some (-1)) none = [[42]])) hw h ho (fun hF => by
        subst hF
        have := noSS_mid hs rfl
        rw [decide_eq_false_iff_not, cutD_last, drop_last]
        intro e
        cases hg : acc.getLast? with
        | none => rw [hg] at e; cases e
        | some z =>
          rw [hg] at e
          simp only [List.cons.injEq, and_true] at e
          rw [hg, e] at this
          exact this rfl) htl
      obtain ⟨k', g1, g2⟩ := pc_loop hw hr ms ts (acc ++ [formD F]) k1 n ha hd (by rw [List.append_assoc]; exact hs) (by omega) (by rw [List.length_append, List.length_singleton]; omega)
      refine ⟨k', ?_, g2⟩
      rw [whileN_step (ρ' := pcE w k acc) (ρ2 := pcE w k1 (acc ++ [formD F])) ?_ ?_, g1, List.append_assoc]
      · rfl
      · rw [pc_test hw]
        have : ¬ ((w.drop k).take 1 = [] ∨ (w.drop k).take 1 = [47]) := by
          rw [h, ex]
          simp [x2]
        rw [decide_eq_false this]
        rfl
      · have h0 : (pcE w k acc)[0]? = some (rdC (some 0) w k) := rfl
        have hz : (1 : Nat) ≤ 16777216 := by decide
        have e5 := io_eq (F := f_mark_of) (fa := fCons (fBin (vEq false) (fD (fN (fSl vSlL (fPeek 1) (fInt (fNeg (mP (.int 1)))) (mP none)))) (fD (fN (fLst (fCons (mP (.str c_STAR)) (mP [])))))) (mP [])) h0 (by
          simp only [pcE, fCons, fBin, fD, fN, fSl, fLst, fInt, fNeg, fPeek, mB, mP, mO, look, asInt, Option.map_some, Int.reduceNeg, List.getElem?_cons_zero, List.getElem?_cons_succ, vSlL, List.length_map, hl1, if_true, List.length_cons, List.length_nil, Nat.zero_add, hz, show (c_STAR : List Nat) = [42] from rfl, hv]) em
        unfold p2_piece_of
        have hlm : (acc.map Da.str).length < 16777216 := by rw [List.length_map]; exact hl2
        simp only [fExpr, mB]
        have ea : fApp 1 (fIO "Reader" f_mark_of 0 (fCons (fBin (vEq false) (fD (fN (fSl vSlL (fPeek 1) (fInt (fNeg (mP (.int 1)))) (mP none)))) (fD (fN (fLst (fCons (mP (.str c_STAR)) (mP [])))))) (mP []))) (pcE w k acc) = .ok .non (pcE w k1 (acc ++ [formD F])) := by
          generalize fIO "Reader" f_mark_of 0 (fCons (fBin (vEq false) (fD (fN (fSl vSlL (fPeek 1) (fInt (fNeg (mP (.int 1)))) (mP none)))) (fD (fN (fLst (fCons (mP (.str c_STAR)) (mP [])))))) (mP [])) = G at e5
          simp only [pcE] at e5
          simp only [pcE, fApp, mB, List.getElem?_cons_zero, List.getElem?_cons_succ, e5, List.set_cons_zero, hlm, if_true, List.set_cons_succ, List.map_append, List.map_cons, List.map_nil]
        rw [ea]
        rfl
theorem piece_of_eq {w r t : List Nat} {k : Nat} {q : LP} (hw : w.length ≤ 16777216) (h : w.drop k = t ++ r) (hp : PT q t) (ho : OkLP q) (hr : endR r) : ∃ k', f_piece_of (rdF w k) [] = some (daR q, rdF w k') ∧ w.drop k' = r := by
  have e : f_piece_of (rdF w k) [] = resIO "Reader" (b_piece_of [rdC (some 0) w k, none]) := rfl
  have h0 : ([rdC (some 0) w k, none] : Env)[0]? = some (rdC (some 0) w k) := rfl
  have e1 := fldO_eq h0 (rd_whole w k)
  have e2 := fldO_eq h0 (rd_place w k)
  have ec : cutD w (some ((k : Nat) : Int)) (some ((k : Int) + 2)) = (w.drop k).take 2 := by
    have : (k : Int) + 2 = ((k + 2 : Nat) : Int) := by omega
    rw [this, cutD_nat]
    congr 1
    omega
  have et : fBinT (vEq false) (fD (fSl vSlS (fD (fFldO "Reader" "whole" 0)) (fInt (fFldO "Reader" "place" 0)) (fInt (fBin vAdd (fD (fFldO "Reader" "place" 0)) (fD (mP (.int 2))))))) (fD (mP (.str [42, 42]))) [rdC (some 0) w k, none] = .ok (decide ((w.drop k).take 2 = [42, 42])) [rdC (some 0) w k, none] := by
    simp only [fBinT, fSl, fD, fInt, fBin, mB, mP, mO, e1, e2, look, asInt, Option.map_some, vAdd, vSlS, hw, if_true, ec, vEq_str, asBl]
  rw [e]
  unfold b_piece_of
  cases q with
  | many =>
    have ht : t = [42, 42] := hp
    subst ht
    have hd : w.drop (k + 2) = r := by rw [← List.drop_drop, h]; rfl
    refine ⟨k + 2, ?_, hd⟩
    have h2 : (w.drop k).take 2 = [42, 42] := by rw [h]; rfl
    rw [decide_eq_true h2] at et
    rw [fSeq_rt (d := .ins "Names" []) (ρ' := [rdC (some 0) w (k + 2), none])]
    · rfl
    · rw [fIf_t et, fSeq_nx (aug2_eq h0), fSeq_nx (ρ' := [rdC (some 0) w (k + 2), none])]
      · rfl
      · have := pc_test hw (k + 2) none
        have h3 : (w.drop (k + 2)).take 1 = [] ∨ (w.drop (k + 2)).take 1 = [47] := by
          rw [hd]
          rcases hr with rfl | ⟨r', rfl⟩
          · exact .inl rfl
          · exact .inr rfl
        rw [decide_eq_true h3] at this
        exact fIf_f this
  | marks ms =>
    obtain ⟨ts, ha, rfl⟩ := hp
    obtain ⟨hne, him, hss, hml⟩ := ho
    have h2 : ¬ (w.drop k).take 2 = [42, 42] := by
      rw [h]
      cases ha with
      | nil => exact absurd rfl hne
      | cons hm ha' =>
        obtain ⟨F, hF, rfl, rfl, _⟩ := hm
        obtain ⟨x, t', ex, x1, x2, x3⟩ := form_head hF
        rw [List.flatten_cons, ex]
        by_cases hs : F = .star
        · subst hs
          cases ex
          cases ha' with
          | nil =>
            rcases hr with rfl | ⟨r', rfl⟩ <;> simp
          | cons hm2 ha2 =>
            obtain ⟨F2, hF2, rfl, rfl, _⟩ := hm2
            obtain ⟨y, t2, ey, y1, y2, y3⟩ := form_head hF2
            have h2s : F2 ≠ .star := by
              rintro rfl
              exact hss.1 ⟨rfl, rfl⟩
            rw [List.flatten_cons, ey]
            simp [y3 h2s]
        · intro h5
          simp only [List.cons_append, List.take_succ_cons, List.cons.injEq] at h5
          exact x3 hs h5.1
    rw [decide_eq_false h2] at et
    obtain ⟨k', g1, g2⟩ := pc_loop hw hr ms ts [] k 1000000000 ha h hss (by omega) (by simp; omega)
    refine ⟨k', ?_, g2⟩
    have hni : ¬ ms = [] := hne
    have hv := vEq_strs ms []
    rw [List.map_nil, decide_eq_false hni] at hv
    rw [fSeq_nx (ρ' := [rdC (some 0) w k, none]) (by rw [fIf_f et]; rfl), fSeq_nx (ρ' := pcE w k []) (by rfl), fSeq_nx g1, List.nil_append,
      fSeq_nx (ρ' := pcE w k' ms)]
    · rfl
    · rw [fIf_f (ρ' := pcE w k' ms)]
      · rfl
      · have hz : (0 : Nat) ≤ 16777216 := by decide
        simp only [pcE, fBinT, fBin, fD, fN, fLst, fPeek, mB, mP, mO, look, List.getElem?_cons_zero, List.getElem?_cons_succ, List.length_nil, hz, if_true, hv, asBl]
end Kb
namespace Kb
open Vl
open L2 (ixN atI)
def lnD (l : Bool) (ps : List LP) (f : Bool) : Da := .ins "Line" [("lets", .bl l), ("pieces", .lst (ps.map daR)), ("folders", .bl f)]
theorem manyD_R (q : LP) : manyD (daR q) = some (isMany q) := by
  cases q <;> rfl
theorem squeeze_R : ∀ (qs acc : List LP), acc ≠ [] → acc.length + qs.length ≤ 16777216 → squeeze (acc.map daR) (qs.map daR) = some ((sqz acc qs).map daR)
  | [], acc, _, _ => rfl
  | q :: qs, acc, ha, hl => by
    rw [List.length_cons] at hl
    have h1 : (acc.map daR).length < 16777216 := by rw [List.length_map]; omega
    have hs : ∀ b : List LP, squeeze (acc.map daR ++ [daR q]) (qs.map daR) = squeeze ((acc ++ [q]).map daR) (qs.map daR) := fun _ => by rw [List.map_append]; rfl
    have hn : squeeze ((acc ++ [q]).map daR) (qs.map daR) = some ((sqz (acc ++ [q]) qs).map daR) := squeeze_R qs (acc ++ [q]) (by simp) (by rw [List.length_append, List.length_singleton]; omega)
    rw [List.map_cons]
    unfold squeeze sqz
    rw [manyD_R]
    cases hq : isMany q with
    | false =>
      simp only [h1, if_true, Bool.false_eq_true, false_and, if_false]
      rw [hs acc, hn]
    | true =>
      obtain ⟨a, x, rfl⟩ : ∃ a x, acc = a ++ [x] := ⟨acc.dropLast, acc.getLast ha, (List.dropLast_concat_getLast ha).symm⟩
      have hg : ((a ++ [x]).map daR).getLast? = some (daR x) := by rw [List.map_append]; simp
      have hlm := last_snoc a x
      simp only [hg, manyD_R, hlm, true_and]
      cases hx : isMany x with
      | true =>
        simp only [if_true]
        exact squeeze_R qs (a ++ [x]) (by simp) (by omega)
      | false =>
        simp only [h1, if_true, Bool.false_eq_true, if_false]
        rw [hs (a ++ [x]), hn]
theorem iLine_R (l : Bool) {qs : List LP} (f : Bool) (h : qs ≠ []) (hl : qs.length ≤ 1000) : i_Line [.bl l, .lst (qs.map daR), .bl f] = some ([("lets", .bl l), ("pieces", .lst ((sqz [] qs).map daR)), ("folders", .bl f)] : List (PySem.Str × Da)) := by
  obtain ⟨q, qs, rfl⟩ := List.exists_cons_of_ne_nil h
  have e := squeeze_R qs [q] (by simp) (by simp at hl ⊢; omega)
  have e2 : sqz [] (q :: qs) = sqz [q] qs := by
    rw [sqz, if_neg (by rintro ⟨_, h⟩; cases h)]
    rfl
  show iLine _ = _
  rw [e2, List.map_cons]
  unfold iLine
  have e' : squeeze [daR q] (qs.map daR) = some ((sqz [q] qs).map daR) := e
  have hlt : (qs.map daR).length < 16777216 := by rw [List.length_map]; rw [List.length_cons] at hl; omega
  simp only [e', hlt, if_true, Option.map_some]
theorem PT_head {q : LP} {t : List Nat} (hp : PT q t) (ho : OkLP q) : ∃ x t', t = x :: t' ∧ x ≠ 33 ∧ x ≠ 47 := by
  cases q with
  | many => exact ⟨42, [42], hp, by decide, by decide⟩
  | marks ms =>
    obtain ⟨ts, ha, rfl⟩ := hp
    cases ha with
    | nil => exact absurd rfl ho.1
    | cons hm ha' =>
      obtain ⟨F, hF, rfl, rfl, _⟩ := hm
      obtain ⟨x, t', ex, x1, x2, _⟩ := form_head hF
      exact ⟨x, t' ++ _, by rw [List.flatten_cons, ex]; rfl, x1, x2⟩
def tailL (ts : List (List Nat)) (f : Bool) : List Nat := ts.flatMap (fun t => 47 :: t) ++ (if f then [47] else [])
theorem tail_end (ts : List (List Nat)) (f : Bool) : endR (tailL ts f) := by
  cases ts with
  | nil => cases f with
    | false => exact .inl rfl
    | true => exact .inr ⟨[], rfl⟩
  | cons t ts => exact .inr ⟨_, rfl⟩
theorem join_tail (t : List Nat) : ∀ ts : List (List Nat), joinN [47] (t :: ts) = t ++ ts.flatMap fun t => 47 :: t
  | [] => by simp [joinN]
  | s :: ts => by
    rw [joinN, join_tail s ts, List.flatMap_cons]
    rfl
abbrev lnE (w : List Nat) (k : Nat) (l fx : Bool) (qs : List LP) (f : Bool) : Env := [some (.imm (.str w)), rdC none w k, some (.imm (.bl l)), some (.imm (.bl fx)), some (.lst (qs.map daR)), some (.imm (.bl f))]
theorem ln_test_no {w : List Nat} (hw : w.length ≤ 16777216) {k : Nat} {l fx f : Bool} {qs : List LP} (h : (w.drop k).head? ≠ some 47) : p1_line_of (lnE w k l fx qs f) = .ok false (lnE w k l fx qs f) := by
  have h0 : (lnE w k l fx qs f)[1]? = some (rdC none w k) := rfl
  have e1 := mio_eq (fa := fCons (mP (.str [47])) (mP [])) h0 (rd_no w k).2.1 rfl (take_no hw h)
  simp only [p1_line_of, fTru, fD, mB, e1, mP, mO, look, vTru]
  rfl
theorem ln_test_yes {w r : List Nat} (hw : w.length ≤ 16777216) {k : Nat} {l fx f : Bool} {qs : List LP} (h : w.drop k = 47 :: r) : p1_line_of (lnE w k l fx qs f) = .ok true (lnE w (k + 1) l fx qs f) := by
  have h0 : (lnE w k l fx qs f)[1]? = some (rdC none w k) := rfl
  have e1 := mio_eq (fa := fCons (mP (.str [47])) (mP [])) h0 (rd_no w k).2.1 rfl (take_yes hw h)
  simp only [p1_line_of, fTru, fD, mB, e1, mP, mO, look, vTru]
  rfl
theorem ln_here {w : List Nat} (hw : w.length ≤ 16777216) {k : Nat} {l fx f : Bool} {qs : List LP} : fBinT (vEq false) (fD (fMIO "Reader" "here" f_Reader_here 1 (mP []))) (fD (mP (.str []))) (lnE w k l fx qs f) = .ok (decide ((w.drop k).take 1 = [])) (lnE w k l fx qs f) := by
  have h0 : (lnE w k l fx qs f)[1]? = some (rdC none w k) := rfl
  have e1 := mio_eq (fa := mP []) h0 (rd_no w k).1 rfl (here_eq hw k)
  simp only [fBinT, fBin, fD, mB, e1, mP, mO, look, vEq_str, asBl]
  rfl
theorem ln_loop {w : List Nat} (hw : w.length ≤ 16777216) {l fx f : Bool} : ∀ (qs : List LP) (ts : List (List Nat)) (acc : List LP) (k n : Nat), All2 PT qs ts → (∀ q ∈ qs, OkLP q) → w.drop k = tailL ts f → qs.length + 2 ≤ n → acc.length + qs.length ≤ 1000 →
    ∃ k', whileN p1_line_of p2_line_of n (lnE w k l fx acc false) = .ok .nx (lnE w k' l fx (acc ++ qs) f)
  | _, _, acc, k, n, .nil, _, h, hn, hl => by
    rw [List.append_nil]
    cases f with
    | false =>
      exact ⟨k, whileN_stop (by omega) (ln_test_no hw (by rw [h]; simp [tailL]))⟩
    | true =>
      have h' : w.drop k = [47] := h
      obtain ⟨n, rfl⟩ : ∃ m, n = m + 1 := ⟨n - 1, by omega⟩
      have hd := drop_next h'
      refine ⟨k + 1, ?_⟩
      rw [whileN_step (ln_test_yes hw h') (ρ2 := lnE w (k + 1) l fx acc true), whileN_stop (by simp at hn; omega) (ln_test_no hw (by rw [hd]; simp))]
      unfold p2_line_of
      have := ln_here hw (k := k + 1) (l := l) (fx := fx) (f := false) (qs := acc)
      rw [hd] at this
      rw [fIf_t (this.trans (by rfl))]
      rfl
  | q :: qs, t :: ts, acc, k, n, .cons hp ha, ho, h, hn, hl => by
    rw [List.length_cons] at hn hl
    obtain ⟨n, rfl⟩ : ∃ m, n = m + 1 := ⟨n - 1, by omega⟩
    have h' : w.drop k = 47 :: (t ++ tailL ts f) := by
      rw [h]
      simp only [tailL, List.flatMap_cons, List.append_assoc, List.cons_append]
    have hd := drop_next h'
    have hq := ho q (List.mem_cons_self ..)
    obtain ⟨k1, e1, e2⟩ := piece_of_eq hw hd hp hq (tail_end ts f)
    obtain ⟨k', g⟩ := ln_loop hw (l := l) (fx := fx) qs ts (acc ++ [q]) k1 n ha (fun z hz => ho z (List.mem_cons_of_mem _ hz)) e2 (by omega) (by rw [List.length_append, List.length_singleton]; omega)
    refine ⟨k', ?_⟩
    rw [whileN_step (ln_test_yes hw h') (ρ2 := lnE w k1 l fx (acc ++ [q]) false), g, List.append_assoc]
    · rfl
    · unfold p2_line_of
      obtain ⟨x, t', ex, _, _⟩ := PT_head hp hq
      have := ln_here hw (k := k + 1) (l := l) (fx := fx) (f := false) (qs := acc)
      have hne : ¬ (w.drop (k + 1)).take 1 = [] := by
        rw [hd, ex]
        simp
      rw [decide_eq_false hne] at this
      rw [fIf_f this]
      have h0 : (lnE w (k + 1) l fx acc false)[1]? = some (rdC none w (k + 1)) := rfl
      have e5 := io_eq (F := f_piece_of) (fa := mP []) h0 rfl e1
      have hlm : (acc.map daR).length < 16777216 := by rw [List.length_map]; omega
      simp only [lnE] at e5
      simp only [lnE, fExpr, fApp, mB, List.getElem?_cons_zero, List.getElem?_cons_succ, e5, List.set_cons_zero, List.set_cons_succ, hlm, if_true, mP, List.map_append, List.map_cons, List.map_nil]
/-- a text read as a line -/
theorem line_of_eq {l lead f : Bool} {qs : List LP} {ts : List (List Nat)} (ha : All2 PT qs ts) (hne : qs ≠ []) (ho : ∀ q ∈ qs, OkLP q) (hl : qs.length ≤ 300) (hw : (textL l lead ts f).length ≤ 16777216) :
    f_line_of [.str (textL l lead ts f)] = .ok (lnD l (sqz [] (if lead = false ∧ qs.length = 1 then .many :: qs else qs)) f) := by
  cases ha with
  | nil => exact absurd rfl hne
  | @cons q t qs ts hp ha' =>
    have hq := ho q (List.mem_cons_self ..)
    obtain ⟨x, t', ex, x33, x47⟩ := PT_head hp hq
    have ew : textL l lead (t :: ts) f = (if l then [33] else []) ++ ((if lead then [47] else []) ++ (t ++ tailL ts f)) := by
      unfold textL tailL
      rw [join_tail]
      simp only [List.append_assoc]
    generalize textL l lead (t :: ts) f = w at ew hw
    have e : f_line_of [.str w] = resOf (b_line_of [some (.imm (.str w)), none, none, none, none, none]) := rfl
    rw [e]
    unfold b_line_of
    rw [fSeq_nx (ρ' := [some (.imm (.str w)), none, none, none, none, none]) (by rfl),
      fSeq_nx (ρ' := [some (.imm (.str w)), rdC none w 0, none, none, none, none]) (by rfl)]
    obtain ⟨k1, h1, t1⟩ : ∃ k1, w.drop k1 = (if lead then [47] else []) ++ (t ++ tailL ts f) ∧ f_Reader_take (rdF w 0) [.str [33]] = some (.bl l, rdF w k1) := by
      cases l with
      | true => exact ⟨1, by rw [ew]; rfl, take_yes hw (show w.drop 0 = 33 :: _ from ew)⟩
      | false =>
        refine ⟨0, ew, take_no hw ?_⟩
        rw [List.drop_zero, ew, ex]
        cases lead <;> simp [x33]
    obtain ⟨k2, h2, t2⟩ : ∃ k2, w.drop k2 = t ++ tailL ts f ∧ f_Reader_take (rdF w k1) [.str [47]] = some (.bl lead, rdF w k2) := by
      cases lead with
      | true => exact ⟨k1 + 1, drop_next h1, take_yes hw h1⟩
      | false =>
        refine ⟨k1, h1, take_no hw ?_⟩
        rw [h1, ex]
        simp [x47]
    have h00 : ([some (.imm (.str w)), rdC none w 0, none, none, none, none] : Env)[1]? = some (rdC none w 0) := rfl
    have e1 := mio_eq (fa := fCons (mP (.str [33])) (mP [])) h00 (rd_no w 0).2.1 rfl t1
    have h01 : ([some (.imm (.str w)), rdC none w k1, none, none, none, none] : Env)[1]? = some (rdC none w k1) := rfl
    have e2 := mio_eq (fa := fCons (mP (.str [47])) (mP [])) h01 (rd_no w k1).2.1 rfl t2
    rw [fSeq_nx (ρ' := [some (.imm (.str w)), rdC none w k2, some (.imm (.bl l)), some (.imm (.bl lead)), none, none]) (by
      simp only [fPar2, fCv, mB, e1, List.set_cons_zero, List.set_cons_succ, e2, mP])]
    obtain ⟨k3, e3, h3⟩ := piece_of_eq hw h2 hp hq (tail_end ts f)
    have h02 : ([some (.imm (.str w)), rdC none w k2, some (.imm (.bl l)), some (.imm (.bl lead)), none, none] : Env)[1]? = some (rdC none w k2) := rfl
    have e4 := io_eq (F := f_piece_of) (fa := mP []) h02 rfl e3
    rw [fSeq_nx (ρ' := lnE w k3 l lead [q] false) (by
      have hz : (1 : Nat) ≤ 16777216 := by decide
      simp only [fPar2, fCn, fLst, fCons, fCv, mB, e4, mP, mO, List.length_cons, List.length_nil, Nat.zero_add, hz, if_true]
      rfl)]
    rw [List.length_cons] at hl
    obtain ⟨k', g⟩ := ln_loop hw (l := l) (fx := lead) (f := f) qs ts [q] k3 1000000000 ha' (fun z hz => ho z (List.mem_cons_of_mem _ hz)) h3 (by omega) (by simp; omega)
    rw [fSeq_nx g]
    have hlen : (([q] ++ qs).map daR).length = qs.length + 1 := by simp
    have fin : ∀ (qq : List LP) (c : Ce), qq ≠ [] → qq.length ≤ 1000 → (c = .lst (qq.map daR) ∨ c = .imm (.lst (qq.map daR))) → resOf (fRet (fMake "Line" i_Line (fCons (fName 2) (fCons (fName 4) (fCons (fName 5) (mP []))))) [some (.imm (.str w)), rdC none w k', some (.imm (.bl l)), some (.imm (.bl lead)), some c, some (.imm (.bl f))]) = .ok (lnD l (sqz [] qq) f) := by
      intro qq c h1 h2 hc
      have := iLine_R l f h1 h2
      rcases hc with rfl | rfl
      · simp only [fRet, fMake, fCons, fName, mB, mP, mO, List.getElem?_cons_zero, List.getElem?_cons_succ, List.set_cons_zero, List.set_cons_succ, this, Option.map_some, resOf, lnD]
      · simp only [fRet, fMake, fCons, fName, mB, mP, mO, List.getElem?_cons_zero, List.getElem?_cons_succ, List.set_cons_zero, List.set_cons_succ, this, Option.map_some, resOf, lnD]
    by_cases hc : lead = false ∧ (q :: qs).length = 1
    · rw [if_pos hc]
      obtain ⟨c1, c2⟩ := hc
      subst c1
      have c3 : qs = [] := by simpa using c2
      subst c3
      have hz : (1 : Nat) ≤ 16777216 := by decide
      have hz2 : (1 + 1 : Nat) ≤ 16777216 := by decide
      rw [fSeq_nx (ρ' := [some (.imm (.str w)), rdC none w k', some (.imm (.bl l)), some (.imm (.bl false)), some (.imm (.lst ([LP.many, q].map daR))), some (.imm (.bl f))]) (by
        simp only [lnE, List.append_nil, List.map_cons, List.map_nil, fIf, fAnd, fNot, fTru, fBinT, fBin, fCall, fCons, fD, fN, fLst, fPeek, fAsg, mB, mP, mO, look, lookA, vTru, vLen, List.getElem?_cons_zero, List.getElem?_cons_succ, Bool.not_false, if_true, List.length_cons, List.length_nil, Nat.zero_add, Int.cast_ofNat_Int, vEq_int, decide_true, asBl, hz, hz2, vAdd, List.cons_append, List.nil_append, List.set_cons_zero, List.set_cons_succ]
        rfl)]
      exact fin [LP.many, q] _ (by simp) (by simp) (.inr rfl)
    · rw [if_neg hc]
      rw [fSeq_nx (ρ' := lnE w k' l lead ([q] ++ qs) f)]
      · exact fin ([q] ++ qs) _ (by simp) (by simp; omega) (.inl rfl)
      · rw [fIf_f (ρ' := lnE w k' l lead ([q] ++ qs) f)]
        · rfl
        · cases hld : lead with
          | true => simp only [lnE, fAnd, fNot, fTru, fPeek, mB, mP, mO, look, vTru, List.getElem?_cons_zero, List.getElem?_cons_succ, Bool.not_true, Bool.false_eq_true, if_false]
          | false =>
            have c2 : ¬ ((qs.length + 1 : Nat) : Int) = 1 := by
              intro h
              exact hc ⟨hld, by rw [List.length_cons]; omega⟩
            simp only [lnE, fAnd, fNot, fTru, fBinT, fBin, fCall, fCons, fD, fPeek, mB, mP, mO, look, lookA, vTru, vLen, List.getElem?_cons_zero, List.getElem?_cons_succ, Bool.not_false, if_true, hlen, vEq_int, c2, decide_false, asBl]
end Kb
/-! marks against signs: the table (eM), the spots that are alive (actM) -/
namespace Kb
section
variable {M S : Type} (star : M → Bool) (fit : M → S → Bool) (ms : List M) (xs : List S)
/-- the first k marks take up just the first j signs -/
def eM : Nat → Nat → Prop
  | 0, j => j = 0
  | k + 1, j => ∃ m, ms[k]? = some m ∧ ((star m = true ∧ ∃ i, i ≤ j ∧ eM k i) ∨ (star m = false ∧ ∃ i x, j = i + 1 ∧ xs[i]? = some x ∧ eM k i ∧ fit m x = true))
def NoSt : List M → Prop
  | a :: b :: r => ¬ (star a = true ∧ star b = true) ∧ NoSt (b :: r)
  | _ => True
theorem NoSt.at {star : M → Bool} : ∀ {ms : List M} {k : Nat} {a b : M}, NoSt star ms → ms[k]? = some a → ms[k + 1]? = some b → star a = true → star b = false
  | [], k, a, b, _, h, _, _ => by simp at h
  | [x], 0, a, b, _, _, h, _ => by simp at h
  | [x], k + 1, a, b, _, h, _, _ => by simp at h
  | x :: y :: r, 0, a, b, hn, h1, h2, h3 => by
    simp at h1 h2
    subst h1
    subst h2
    cases e : star y with
    | false => rfl
    | true => exact absurd ⟨h3, e⟩ hn.1
  | x :: y :: r, k + 1, a, b, hn, h1, h2, h3 => NoSt.at (ms := y :: r) (k := k) hn.2 (by simpa using h1) (by simpa using h2) h3
theorem eM_star {k j : Nat} {m : M} (h : ms[k]? = some m) (hs : star m = true) : eM star fit ms xs (k + 1) j ↔ ∃ i, i ≤ j ∧ eM star fit ms xs k i := by
  constructor
  · rintro ⟨m', h', (⟨_, i, hi, he⟩ | ⟨h2, _⟩)⟩
    · exact ⟨i, hi, he⟩
    · rw [h] at h'
      cases h'
      rw [hs] at h2
      cases h2
  · rintro ⟨i, hi, he⟩
    exact ⟨m, h, .inl ⟨hs, i, hi, he⟩⟩
theorem eM_sign {k j : Nat} {m : M} (h : ms[k]? = some m) (hs : star m = false) : eM star fit ms xs (k + 1) j ↔ ∃ i x, j = i + 1 ∧ xs[i]? = some x ∧ eM star fit ms xs k i ∧ fit m x = true := by
  constructor
  · rintro ⟨m', h', (⟨h2, _⟩ | ⟨_, q⟩)⟩
    · rw [h] at h'
      cases h'
      rw [hs] at h2
      cases h2
    · rw [h] at h'
      cases h'
      exact q
  · exact fun q => ⟨m, h, .inr ⟨hs, q⟩⟩
theorem eM_grow {k j : Nat} {m : M} (h : ms[k]? = some m) (hs : star m = true) : eM star fit ms xs (k + 1) (j + 1) ↔ eM star fit ms xs k (j + 1) ∨ eM star fit ms xs (k + 1) j := by
  rw [eM_star star fit ms xs h hs, eM_star star fit ms xs h hs]
  constructor
  · rintro ⟨i, hi, he⟩
    by_cases q : i = j + 1
    · subst q
      exact .inl he
    · exact .inr ⟨i, by omega, he⟩
  · rintro (he | ⟨i, hi, he⟩)
    · exact ⟨j + 1, Nat.le_refl _, he⟩
    · exact ⟨i, by omega, he⟩
def passM (s : Nat) : List Nat := match ms[s]? with
  | some m => if star m = true then [s, s + 1] else [s]
  | none => [s]
def movesM (s : Nat) (x : S) : List Nat := match ms[s]? with
  | none => []
  | some m => if star m = true then passM star ms s else if fit m x = true then passM star ms (s + 1) else []
/-- the spot s is alive behind j signs -/
def actM (j s : Nat) : Prop := match ms[s]? with
  | some m => if star m = true then eM star fit ms xs (s + 1) j else eM star fit ms xs s j
  | none => s = ms.length ∧ eM star fit ms xs s j
variable {star fit ms xs}
theorem act_star {j s : Nat} {m : M} (h : ms[s]? = some m) (hs : star m = true) : actM star fit ms xs j s ↔ eM star fit ms xs (s + 1) j := by
  unfold actM
  rw [h]
  simp only [hs, if_true]
theorem act_sign {j s : Nat} {m : M} (h : ms[s]? = some m) (hs : star m = false) : actM star fit ms xs j s ↔ eM star fit ms xs s j := by
  unfold actM
  rw [h]
  simp only [hs, Bool.false_eq_true, if_false]
theorem act_end {j s : Nat} (h : ms[s]? = none) : actM star fit ms xs j s ↔ s = ms.length ∧ eM star fit ms xs s j := by
  unfold actM
  rw [h]
theorem act_full {j : Nat} : actM star fit ms xs j ms.length ↔ eM star fit ms xs ms.length j := by
  rw [act_end (List.getElem?_eq_none (Nat.le_refl _))]
  exact ⟨fun h => h.2, fun h => ⟨rfl, h⟩⟩
theorem act_le {j s : Nat} (h : actM star fit ms xs j s) : s ≤ ms.length := by
  cases e : ms[s]? with
  | none => rw [act_end e] at h; omega
  | some m => exact Nat.le_of_lt (List.getElem?_eq_some_iff.mp e).1
theorem mem_pass {s t : Nat} : t ∈ passM star ms s ↔ t = s ∨ (t = s + 1 ∧ ∃ m, ms[s]? = some m ∧ star m = true) := by
  unfold passM
  cases e : ms[s]? with
  | none => simp
  | some m =>
    cases h : star m with
    | true => simp [h]
    | false => simp [h]
/-- what stands at s passes over -/
theorem act_pass {j s t : Nat} (hn : NoSt star ms) (hl : s ≤ ms.length) (h : eM star fit ms xs s j) (ht : t ∈ passM star ms s) : actM star fit ms xs j t := by
  rw [mem_pass] at ht
  rcases ht with rfl | ⟨rfl, m, hm, hs⟩
  · cases e : ms[t]? with
    | none =>
      rw [act_end e]
      exact ⟨Nat.le_antisymm hl (List.getElem?_eq_none_iff.mp e), h⟩
    | some m =>
      cases hs : star m with
      | true =>
        rw [act_star e hs, eM_star star fit ms xs e hs]
        exact ⟨j, Nat.le_refl _, h⟩
      | false => rw [act_sign e hs]; exact h
  · have h2 : eM star fit ms xs (s + 1) j := (eM_star star fit ms xs hm hs).mpr ⟨j, Nat.le_refl _, h⟩
    cases e : ms[s + 1]? with
    | none =>
      rw [act_end e]
      have := (List.getElem?_eq_some_iff.mp hm).1
      have := List.getElem?_eq_none_iff.mp e
      exact ⟨by omega, h2⟩
    | some m' => rw [act_sign e (hn.at hm e hs)]; exact h2
theorem act_zero {s : Nat} (hn : NoSt star ms) : actM star fit ms xs 0 s ↔ s ∈ passM star ms 0 := by
  constructor
  · intro h
    rw [mem_pass]
    -- eM k 0 with k: only 0, or 1 by a star
    have key : ∀ k, eM star fit ms xs k 0 → k = 0 ∨ ∃ m, ms[k - 1]? = some m ∧ star m = true ∧ eM star fit ms xs (k - 1) 0 := fun k h => by
      cases k with
      | zero => exact .inl rfl
      | succ k =>
        obtain ⟨m, hm, (⟨hs, i, hi, he⟩ | ⟨hs, i, x, hi, _⟩)⟩ := h
        · have : i = 0 := by omega
          subst this
          exact .inr ⟨m, hm, hs, he⟩
        · omega
    have two : ∀ k, eM star fit ms xs (k + 1) 0 → k = 0 := fun k h => by
      rcases key _ h with z | ⟨m, hm, hs, he⟩
      · omega
      · rcases key _ he with z | ⟨m', hm', hs', he'⟩
        · simpa using z
        · cases k with
          | zero => rfl
          | succ k =>
            have := hn.at (a := m') (b := m) (k := k) (by simpa using hm') (by simpa using hm) hs'
            rw [hs] at this
            cases this
    cases e : ms[s]? with
    | none =>
      rw [act_end e] at h
      cases s with
      | zero => exact .inl rfl
      | succ k =>
        have z := two k h.2
        subst z
        rcases key _ h.2 with z | ⟨m, hm, hs, _⟩
        · omega
        · exact .inr ⟨rfl, m, by simpa using hm, hs⟩
    | some m =>
      cases hs : star m with
      | true =>
        rw [act_star e hs] at h
        exact .inl (two s h)
      | false =>
        rw [act_sign e hs] at h
        cases s with
        | zero => exact .inl rfl
        | succ k =>
          have z := two k h
          subst z
          rcases key _ h with z | ⟨m', hm', hs', _⟩
          · omega
          · exact .inr ⟨rfl, m', by simpa using hm', hs'⟩
  · exact act_pass hn (Nat.zero_le _) rfl
theorem act_step {j s' : Nat} {x : S} (hn : NoSt star ms) (hx : xs[j]? = some x) : actM star fit ms xs (j + 1) s' ↔ ∃ s, actM star fit ms xs j s ∧ s' ∈ movesM star fit ms s x := by
  constructor
  · intro h
    -- what is reached just so
    have back : ∀ t, eM star fit ms xs t (j + 1) → (∃ s, actM star fit ms xs j s ∧ t ∈ movesM star fit ms s x) ∧ ∀ m, ms[t]? = some m → star m = true → ∃ s, actM star fit ms xs j s ∧ t + 1 ∈ movesM star fit ms s x ∧ t ∈ movesM star fit ms s x := fun t ht => by
      cases t with
      | zero => cases ht
      | succ t =>
        obtain ⟨m, hm, hc⟩ := id ht
        cases hs : star m with
        | false =>
          obtain ⟨i, y, hi, hy, he, hf⟩ := (eM_sign star fit ms xs hm hs).mp ht
          have : i = j := by omega
          subst this
          rw [hx] at hy
          cases hy
          have ha : actM star fit ms xs i t := (act_sign hm hs).mpr he
          have hmv : movesM star fit ms t x = passM star ms (t + 1) := by
            unfold movesM
            rw [hm]
            simp only [hs, Bool.false_eq_true, if_false, hf, if_true]
          refine ⟨⟨t, ha, by rw [hmv, mem_pass]; exact .inl rfl⟩, fun m2 hm2 hs2 => ⟨t, ha, by rw [hmv, mem_pass]; exact .inr ⟨rfl, m2, hm2, hs2⟩, by rw [hmv, mem_pass]; exact .inl rfl⟩⟩
        | true =>
          have none2 : ∀ m2, ms[t + 1]? = some m2 → star m2 = true → False := fun m2 h2 h3 => by
            have := hn.at hm h2 hs
            rw [h3] at this
            cases this
          refine ⟨?_, fun m2 hm2 hs2 => (none2 m2 hm2 hs2).elim⟩
          have hmv : movesM star fit ms t x = passM star ms t := by
            unfold movesM
            rw [hm]
            simp only [hs, if_true]
          rcases (eM_grow star fit ms xs hm hs).mp ht with h1 | h1
          · -- the star takes nothing: the mark ahead of it took x
            cases t with
            | zero => cases h1
            | succ u =>
              obtain ⟨m0, hm0, hc0⟩ := id h1
              have hs0 : star m0 = false := by
                cases q : star m0 with
                | false => rfl
                | true =>
                  have := hn.at hm0 hm q
                  rw [hs] at this
                  cases this
              obtain ⟨i, y, hi, hy, he, hf⟩ := (eM_sign star fit ms xs hm0 hs0).mp h1
              have : i = j := by omega
              subst this
              rw [hx] at hy
              cases hy
              refine ⟨u, (act_sign hm0 hs0).mpr he, ?_⟩
              unfold movesM
              rw [hm0]
              simp only [hs0, Bool.false_eq_true, if_false, hf, if_true]
              rw [mem_pass]
              exact .inr ⟨rfl, m, hm, hs⟩
          · refine ⟨t, (act_star hm hs).mpr h1, ?_⟩
            rw [hmv, mem_pass]
            exact .inr ⟨rfl, m, hm, hs⟩
    cases e : ms[s']? with
    | none => exact (back s' ((act_end e).mp h).2).1
    | some m =>
      cases hs : star m with
      | false => exact (back s' ((act_sign e hs).mp h)).1
      | true =>
        rcases (eM_grow star fit ms xs e hs).mp ((act_star e hs).mp h) with h1 | h1
        · obtain ⟨s, a, _, b⟩ := (back s' h1).2 m e hs
          exact ⟨s, a, b⟩
        · refine ⟨s', (act_star e hs).mpr h1, ?_⟩
          unfold movesM
          rw [e]
          simp only [hs, if_true]
          rw [mem_pass]
          exact .inl rfl
  · rintro ⟨s, ha, hm⟩
    unfold movesM at hm
    cases e : ms[s]? with
    | none => rw [e] at hm; cases hm
    | some m =>
      rw [e] at hm
      have hl := (List.getElem?_eq_some_iff.mp e).1
      cases hs : star m with
      | true =>
        simp only [hs, if_true] at hm
        have h1 : eM star fit ms xs (s + 1) (j + 1) := (eM_grow star fit ms xs e hs).mpr (.inr ((act_star e hs).mp ha))
        rw [mem_pass] at hm
        rcases hm with rfl | ⟨rfl, _⟩
        · exact (act_star e hs).mpr h1
        · cases e2 : ms[s + 1]? with
          | none =>
            rw [act_end e2]
            have := List.getElem?_eq_none_iff.mp e2
            exact ⟨by omega, h1⟩
          | some m2 => rw [act_sign e2 (hn.at e e2 hs)]; exact h1
      | false =>
        simp only [hs, Bool.false_eq_true, if_false] at hm
        split at hm
        · rename_i hf
          have h1 : eM star fit ms xs (s + 1) (j + 1) := (eM_sign star fit ms xs e hs).mpr ⟨j, x, rfl, hx, (act_sign e hs).mp ha, hf⟩
          exact act_pass hn hl h1 hm
        · cases hm
end
end Kb
namespace Kb
open Vl
open L2 (ixN atI)
/-! evaluation, step by step -/
theorem fCons_of {α : Type} {f : EM α} {g : EM (List α)} {ρ ρ1 ρ2 : Env} {d : α} {ds : List α} (h1 : f ρ = .ok d ρ1) (h2 : g ρ1 = .ok ds ρ2) : fCons f g ρ = .ok (d :: ds) ρ2 := by
  simp only [fCons, mB, h1, h2, mP]
theorem fNil_of {α : Type} {ρ : Env} : (mP [] : EM (List α)) ρ = .ok [] ρ := rfl
theorem fC1_of {α : Type} {f : EM α} {ρ ρ1 : Env} {d : α} (h1 : f ρ = .ok d ρ1) : fCons f (mP []) ρ = .ok [d] ρ1 := fCons_of h1 rfl
theorem fC2_of {α : Type} {f g : EM α} {ρ ρ1 ρ2 : Env} {d e : α} (h1 : f ρ = .ok d ρ1) (h2 : g ρ1 = .ok e ρ2) : fCons f (fCons g (mP [])) ρ = .ok [d, e] ρ2 := fCons_of h1 (fC1_of h2)
theorem fC3_of {α : Type} {f g k : EM α} {ρ ρ1 ρ2 ρ3 : Env} {d e c : α} (h1 : f ρ = .ok d ρ1) (h2 : g ρ1 = .ok e ρ2) (h3 : k ρ2 = .ok c ρ3) : fCons f (fCons g (fCons k (mP []))) ρ = .ok [d, e, c] ρ3 := fCons_of h1 (fC2_of h2 h3)
theorem fCall_of {r : List Da → Option Da} {fa : EM (List Pk)} {ρ ρ1 : Env} {ps : List Pk} {ds : List Da} {d : Da} (h : fa ρ = .ok ps ρ1) (l : lookA ρ1 ps = some ds) (hr : r ds = some d) : fCall r fa ρ = .ok d ρ1 := by
  simp only [fCall, mB, h, l, hr, mO]
theorem fCall1_of {r : List Da → Option Da} {f : EM Da} {ρ ρ1 : Env} {d e : Da} (h : f ρ = .ok d ρ1) (hr : r [d] = some e) : fCall r (fCons (fD f) (mP [])) ρ = .ok e ρ1 :=
  fCall_of (fC1_of (show fD f ρ = .ok (.d d) ρ1 by simp only [fD, mB, h, mP])) rfl hr
theorem fItA_of {r : List Da → Option (List Da)} {f : EM (List Da)} {ρ ρ1 : Env} {ds l : List Da} (h : f ρ = .ok ds ρ1) (hr : r ds = some l) : fItA r f ρ = .ok l ρ1 := by
  simp only [fItA, mB, h, hr, mO]
theorem fIt_of {r : Da → Option (List Da)} {f : EM Da} {ρ ρ1 : Env} {d : Da} {l : List Da} (h : f ρ = .ok d ρ1) (hr : r d = some l) : fIt r f ρ = .ok l ρ1 := by
  simp only [fIt, mB, h, hr, mO]
theorem fD_of {f : EM Da} {ρ ρ' : Env} {d : Da} (h : f ρ = .ok d ρ') : fD f ρ = .ok (.d d) ρ' := by
  simp only [fD, mB, h, mP]
theorem fN_of {f : EM (List Da)} {ρ ρ' : Env} {d : List Da} (h : f ρ = .ok d ρ') : fN f ρ = .ok (.lst d) ρ' := by
  simp only [fN, mB, h, mP]
theorem fLst_of {f : EM (List Da)} {ρ ρ' : Env} {d : List Da} (h : f ρ = .ok d ρ') (hl : d.length ≤ 16777216) : fLst f ρ = .ok d ρ' := by
  simp only [fLst, mB, h, mO, hl, if_true]
theorem fTup_of {f : EM (List Da)} {ρ ρ' : Env} {d : List Da} (h : f ρ = .ok d ρ') (hl : d.length ≤ 16777216) : fTup f ρ = .ok (.tup d) ρ' := by
  simp only [fTup, mB, h, mO, hl, if_true]
theorem fPeek_of {i : Nat} {ρ : Env} {c : Ce} (h : ρ[i]? = some (some c)) : fPeek i ρ = .ok (.s i) ρ := by
  simp only [fPeek, h]
theorem fName_of {i : Nat} {ρ : Env} {d : Da} (h : ρ[i]? = some (some (.imm d))) : fName i ρ = .ok d ρ := by
  simp only [fName, h]
theorem fBin_of {r : Da → Da → Option Da} {fa fb : EM Pk} {ρ ρ1 ρ2 : Env} {p q : Pk} {a b d : Da} (h1 : fa ρ = .ok p ρ1) (h2 : fb ρ1 = .ok q ρ2) (l1 : look ρ2 p = some a) (l2 : look ρ2 q = some b) (hr : r a b = some d) : fBin r fa fb ρ = .ok d ρ2 := by
  simp only [fBin, mB, h1, h2, l1, l2, hr, mO]
theorem fBinT_of {r : Da → Da → Option Da} {fa fb : EM Pk} {ρ ρ1 ρ2 : Env} {p q : Pk} {a b : Da} {v : Bool} (h1 : fa ρ = .ok p ρ1) (h2 : fb ρ1 = .ok q ρ2) (l1 : look ρ2 p = some a) (l2 : look ρ2 q = some b) (hr : r a b = some (.bl v)) : fBinT r fa fb ρ = .ok v ρ2 := by
  simp only [fBinT, fBin, mB, h1, h2, l1, l2, hr, mO, asBl]
theorem fDef_of {F : List Da → Res} {df : List Da} {fa : EM (List Da)} {ρ ρ' : Env} {ds : List Da} {d : Da} (h : fa ρ = .ok ds ρ') (hF : F (ds ++ df) = .ok d) : fDef F df fa ρ = .ok d ρ' := by
  simp only [fDef, mB, h, hF]
theorem fMeth_of {c m : PySem.Str} {F : List Da → Res} {df : List Da} {fe : EM Da} {fa : EM (List Da)} {ρ ρ1 ρ2 : Env} {gs : List (PySem.Str × Da)} {ds : List Da} {d : Da} (h1 : fe ρ = .ok (.ins c gs) ρ1) (hm : gs.lookup m = none) (h2 : fa ρ1 = .ok ds ρ2) (hF : F (.ins c gs :: (ds ++ df)) = .ok d) : fMeth c m F df fe fa ρ = .ok d ρ2 := by
  unfold fMeth
  simp only [mB, h1, hm, and_self, if_true, h2, hF]
theorem fMeth_no {c c' m : PySem.Str} {F : List Da → Res} {df : List Da} {fe : EM Da} {fa : EM (List Da)} {ρ ρ1 : Env} {gs : List (PySem.Str × Da)} (h1 : fe ρ = .ok (.ins c' gs) ρ1) (hc : c' ≠ c) : fMeth c m F df fe fa ρ = .stuck := by
  unfold fMeth
  simp only [mB, h1, hc, false_and, if_false]
theorem fAlt_l {α : Type} {f g : EM α} {ρ ρ' : Env} {d : α} (h : f ρ = .ok d ρ') : fAlt f g ρ = .ok d ρ' := by
  unfold fAlt
  rw [h]
theorem fAlt_r {α : Type} {f g : EM α} {ρ : Env} (h : f ρ = .stuck) : fAlt f g ρ = g ρ := by
  unfold fAlt
  rw [h]
theorem fTru_of {f : EM Pk} {ρ ρ' : Env} {p : Pk} {d : Da} {b : Bool} (h : f ρ = .ok p ρ') (l : look ρ' p = some d) (e : vTru d = some b) : fTru f ρ = .ok b ρ' := by
  simp only [fTru, mB, h, l, e, mO]
theorem fNot_of {f : EM Bool} {ρ ρ' : Env} {b : Bool} (h : f ρ = .ok b ρ') : fNot f ρ = .ok (!b) ρ' := by
  simp only [fNot, mB, h, mP]
theorem fAnd_t {f g : EM Bool} {ρ ρ' : Env} (h : f ρ = .ok true ρ') : fAnd f g ρ = g ρ' := by
  simp only [fAnd, mB, h, if_true]
theorem fAnd_f {f g : EM Bool} {ρ ρ' : Env} (h : f ρ = .ok false ρ') : fAnd f g ρ = .ok false ρ' := by
  simp only [fAnd, mB, h, Bool.false_eq_true, if_false, mP]
theorem fOr_t {f g : EM Bool} {ρ ρ' : Env} (h : f ρ = .ok true ρ') : fOr f g ρ = .ok true ρ' := by
  simp only [fOr, mB, h, if_true, mP]
theorem fOr_f {f g : EM Bool} {ρ ρ' : Env} (h : f ρ = .ok false ρ') : fOr f g ρ = g ρ' := by
  simp only [fOr, mB, h, Bool.false_eq_true, if_false]
theorem fAsg_of {i : Nat} {f : EM Da} {ρ ρ' : Env} {d : Da} (h : f ρ = .ok d ρ') : fAsg i f ρ = .ok .nx (ρ'.set i (some (.imm d))) := by
  simp only [fAsg, mB, h]
theorem fAsgN_of {i : Nat} {f : EM (List Da)} {ρ ρ' : Env} {d : List Da} (h : f ρ = .ok d ρ') : fAsgN i f ρ = .ok .nx (ρ'.set i (some (.lst d))) := by
  simp only [fAsgN, mB, h]
theorem fRet_of {f : EM Da} {ρ ρ' : Env} {d : Da} (h : f ρ = .ok d ρ') : fRet f ρ = .ok (.rt d) ρ' := by
  simp only [fRet, mB, h, mP]
theorem fExpr_of {f : EM Da} {ρ ρ' : Env} {d : Da} (h : f ρ = .ok d ρ') : fExpr f ρ = .ok .nx ρ' := by
  simp only [fExpr, mB, h, mP]
theorem fFor_of {fi : EM (List Da)} {st : Da → Env → Option Env} {body : EM Fl} {ρ ρ1 : Env} {ds : List Da} {o : Out Fl} (h : fi ρ = .ok ds ρ1) (h2 : forL st body ds ρ1 = o) : fFor fi st body ρ = o := by
  simp only [fFor, mB, h, h2]
theorem fApp_of {i : Nat} {f : EM Da} {ρ ρ' : Env} {xs ds : List Da} {d : Da} (h0 : ρ[i]? = some (some (.lst xs))) (h : f ρ = .ok d ρ') (h1 : ρ'[i]? = some (some (.lst ds))) (hl : ds.length < 16777216) : fApp i f ρ = .ok .non (ρ'.set i (some (.lst (ds ++ [d])))) := by
  simp only [fApp, h0, mB, h, h1, hl, if_true]
theorem fP_of {α : Type} {a : α} {ρ : Env} : mP a ρ = .ok a ρ := rfl
theorem run_rt {b : EM Fl} {ρ ρ' : Env} {d : Da} (h : b ρ = .ok (.rt d) ρ') : resOf (b ρ) = .ok d := by
  rw [h]
  rfl
theorem seq_nx {f g : EM Fl} {ρ ρ' : Env} {o : Out Fl} (h : f ρ = .ok .nx ρ') (h2 : g ρ' = o) : fSeq f g ρ = o := by
  rw [fSeq_nx h, h2]
theorem seq_if {t : EM Bool} {a g : EM Fl} {ρ ρ' : Env} {o : Out Fl} (h : t ρ = .ok false ρ') (h2 : g ρ' = o) : fSeq (fIf t a (mP .nx)) g ρ = o := by
  rw [fSeq_nx (ρ' := ρ')]
  · exact h2
  · rw [fIf_f h]
    rfl
theorem fAnd_tt {f g : EM Bool} {ρ ρ' ρ2 : Env} {b : Bool} (h : f ρ = .ok true ρ') (h2 : g ρ' = .ok b ρ2) : fAnd f g ρ = .ok b ρ2 := by
  simp only [fAnd, mB, h, if_true, h2]
theorem fOr_ff {f g : EM Bool} {ρ ρ' ρ2 : Env} {b : Bool} (h : f ρ = .ok false ρ') (h2 : g ρ' = .ok b ρ2) : fOr f g ρ = .ok b ρ2 := by
  simp only [fOr, mB, h, Bool.false_eq_true, if_false, h2]
theorem if_t {α : Type} {t : EM Bool} {a b : EM α} {ρ ρ' : Env} {o : Out α} (h : t ρ = .ok true ρ') (h2 : a ρ' = o) : fIf t a b ρ = o := by
  rw [fIf_t h, h2]
theorem if_f {α : Type} {t : EM Bool} {a b : EM α} {ρ ρ' : Env} {o : Out α} (h : t ρ = .ok false ρ') (h2 : b ρ' = o) : fIf t a b ρ = o := by
  rw [fIf_f h, h2]
theorem fSeq_iff {t : EM Bool} {a g : EM Fl} {ρ ρ' : Env} (h : t ρ = .ok false ρ') : fSeq (fIf t a (mP .nx)) g ρ = g ρ' := by
  rw [fSeq_nx (ρ' := ρ')]
  rw [fIf_f h]
  rfl
theorem fSeq_ift {t : EM Bool} {a b g : EM Fl} {ρ ρ' ρ2 : Env} {d : Da} (h : t ρ = .ok true ρ') (h2 : a ρ' = .ok (.rt d) ρ2) : fSeq (fIf t a b) g ρ = .ok (.rt d) ρ2 := by
  rw [fSeq_rt (ρ' := ρ2) (d := d)]
  rw [fIf_t h, h2]
theorem vIn_ints (i : Int) (ns : List Int) : vIn false (.int i) (.lst (ns.map .int)) = some (.bl (decide (i ∈ ns))) := by
  have h1 : (ns.map Da.int).all flatD = true := by
    rw [List.all_eq_true]
    intro x hx
    obtain ⟨n, _, rfl⟩ := List.mem_map.mp hx
    rfl
  have h2 : inD (.int i) (ns.map Da.int) = decide (i ∈ ns) := by
    unfold inD
    rw [Bool.eq_iff_iff, List.any_eq_true, decide_eq_true_eq]
    constructor
    · rintro ⟨y, hy, e⟩
      obtain ⟨n, hn, rfl⟩ := List.mem_map.mp hy
      have : n = i := by simpa [dq] using e
      rw [← this]
      exact hn
    · intro h
      exact ⟨.int i, List.mem_map.mpr ⟨i, h, rfl⟩, by simp [dq]⟩
  show (if flatD (.int i) = true ∧ (ns.map Da.int).all flatD = true then some (Da.bl (if false = true then !inD (.int i) (ns.map .int) else inD (.int i) (ns.map .int))) else none) = _
  rw [if_pos ⟨rfl, h1⟩, h2]
  rfl
theorem atI_nat {α : Type} {xs : List α} {k : Nat} {x : α} (h : xs[k]? = some x) : atI xs (k : Int) = some x := by
  have hl := (List.getElem?_eq_some_iff.mp h).1
  rw [atI_eq (Int.natCast_nonneg _) (by simpa using hl)]
  have := (List.getElem?_eq_some_iff.mp h).2
  simpa using this
end Kb
namespace Kb
open Vl
open L2 (ixN atI)
/-! the methods of Marks and Names -/
def stM (m : List Nat) : Bool := decide (m = [42])
def fiM (m : List Nat) (c : Nat) : Bool := decide (c ∈ m)
abbrev mkO (ms : List (List Nat)) : Da := .ins "Marks" [("marks", .lst (ms.map .str))]
abbrev nmO : Da := .ins "Names" []
def natsD (l : List Nat) : List Da := l.map fun (i : Nat) => Da.int (i : Int)
theorem fld_marks {i : Nat} {ρ : Env} {ms : List (List Nat)} (h : ρ[i]? = some (some (.imm (mkO ms)))) : fFld "Marks" "marks" (fName i) ρ = .ok (.lst (ms.map .str)) ρ := by
  unfold fFld
  simp only [mB, fName_of h]
  rfl
theorem len_marks {i : Nat} {ρ : Env} {ms : List (List Nat)} (h : ρ[i]? = some (some (.imm (mkO ms)))) : fCall vLen (fCons (fD (fFld "Marks" "marks" (fName i))) (mP [])) ρ = .ok (.int (ms.length : Int)) ρ :=
  fCall1_of (fld_marks h) (by simp [vLen])
theorem at_marks {i j s : Nat} {ρ : Env} {ms : List (List Nat)} {m : List Nat} (h : ρ[i]? = some (some (.imm (mkO ms)))) (hj : ρ[j]? = some (some (.imm (.int (s : Int))))) (hm : ms[s]? = some m) :
    fBin vIx (fD (fFld "Marks" "marks" (fName i))) (fPeek j) ρ = .ok (.str m) ρ :=
  fBin_of (a := .lst (ms.map .str)) (b := .int s) (d := .str m) (fD_of (fld_marks h)) (fPeek_of hj) rfl (by simp only [look, hj]) (show atI (ms.map Da.str) (s : Int) = some (.str m) from atI_nat (by rw [List.getElem?_map, hm]; rfl))
theorem passed_eq {ms : List (List Nat)} {s : Nat} : f_Marks_passed [mkO ms, .int s] = .ok (.lst (natsD (passM stM ms s))) := by
  show resOf (b_Marks_passed [some (.imm (mkO ms)), some (.imm (.int s))]) = _
  refine run_rt (ρ' := [some (.imm (mkO ms)), some (.imm (.int s))]) ?_
  have c1 : fBinT vLt (fPeek 1) (fD (fCall vLen (fCons (fD (fFld "Marks" "marks" (fName 0))) (mP [])))) [some (.imm (mkO ms)), some (.imm (.int s))] = .ok (decide ((s : Int) < ms.length)) [some (.imm (mkO ms)), some (.imm (.int s))] :=
    fBinT_of (fPeek_of rfl) (fD_of (len_marks rfl)) rfl rfl rfl
  have two : (fRet (fN (fLst (fCons (fName 1) (mP []))))) [some (.imm (mkO ms)), some (.imm (.int s))] = .ok (.rt (.lst [.int s])) [some (.imm (mkO ms)), some (.imm (.int s))] :=
    fRet_of (fN_of (fLst_of (fC1_of (fName_of rfl)) (by simp)))
  unfold b_Marks_passed passM
  cases e : ms[s]? with
  | none =>
    have hl := List.getElem?_eq_none_iff.mp e
    have : decide ((s : Int) < ms.length) = false := by rw [decide_eq_false_iff_not]; omega
    rw [this] at c1
    exact seq_if (fAnd_f c1) two
  | some m =>
    have hl := (List.getElem?_eq_some_iff.mp e).1
    have : decide ((s : Int) < ms.length) = true := by rw [decide_eq_true_eq]; omega
    rw [this] at c1
    have c2 : fBinT (vEq false) (fD (fBin vIx (fD (fFld "Marks" "marks" (fName 0))) (fPeek 1))) (fD (mP (.str c_STAR))) [some (.imm (mkO ms)), some (.imm (.int s))] = .ok (stM m) [some (.imm (mkO ms)), some (.imm (.int s))] :=
      fBinT_of (fD_of (at_marks rfl rfl e)) (fD_of fP_of) rfl rfl (vEq_str m [42])
    cases hs : stM m with
    | true =>
      rw [hs] at c2
      simp only [hs, if_true]
      exact fSeq_rt (if_t (fAnd_tt c1 c2) (fRet_of (fN_of (fLst_of (fC2_of (fName_of rfl) (fBin_of (fPeek_of rfl) (fD_of fP_of) rfl rfl rfl)) (by simp [natsD])))))
    | false =>
      rw [hs] at c2
      simp only [hs, Bool.false_eq_true, if_false]
      exact seq_if (fAnd_tt c1 c2) two
theorem pass_meth {ms : List (List Nat)} {ρ ρ' : Env} {fa : EM (List Da)} {s : Nat} (h : ρ[0]? = some (some (.imm (mkO ms)))) (ha : fa ρ = .ok [.int s] ρ') : fMeth "Marks" "passed" f_Marks_passed [] (fName 0) fa ρ = .ok (.lst (natsD (passM stM ms s))) ρ' :=
  fMeth_of (fName_of h) rfl ha passed_eq
theorem begins_eq {ms : List (List Nat)} : f_Marks_begins [mkO ms] = .ok (.lst (natsD (passM stM ms 0))) := by
  show resOf (b_Marks_begins [some (.imm (mkO ms))]) = _
  exact run_rt (fRet_of (pass_meth (s := 0) rfl (fC1_of fP_of)))
theorem moves_eq {ms : List (List Nat)} {s c : Nat} (hs : s ≤ ms.length) : f_Marks_moves [mkO ms, .int s, .str [c]] = .ok (.lst (natsD (movesM stM fiM ms s c))) := by
  show resOf (b_Marks_moves [some (.imm (mkO ms)), some (.imm (.int s)), some (.imm (.str [c]))]) = _
  refine run_rt (ρ' := [some (.imm (mkO ms)), some (.imm (.int s)), some (.imm (.str [c]))]) ?_
  have c1 : fBinT (vEq false) (fPeek 1) (fD (fCall vLen (fCons (fD (fFld "Marks" "marks" (fName 0))) (mP [])))) [some (.imm (mkO ms)), some (.imm (.int s)), some (.imm (.str [c]))] = .ok (decide ((s : Int) = ms.length)) [some (.imm (mkO ms)), some (.imm (.int s)), some (.imm (.str [c]))] :=
    fBinT_of (fPeek_of rfl) (fD_of (len_marks rfl)) rfl rfl (vEq_int _ _)
  unfold b_Marks_moves movesM
  cases e : ms[s]? with
  | none =>
    have hl := List.getElem?_eq_none_iff.mp e
    have : decide ((s : Int) = ms.length) = true := by rw [decide_eq_true_eq]; omega
    rw [this] at c1
    exact fSeq_rt (if_t c1 (fRet_of (fN_of (fLst_of fP_of (by simp [natsD])))))
  | some m =>
    have hl := (List.getElem?_eq_some_iff.mp e).1
    have : decide ((s : Int) = ms.length) = false := by rw [decide_eq_false_iff_not]; omega
    rw [this] at c1
    refine seq_if c1 ?_
    have c2 : fBinT (vEq false) (fD (fBin vIx (fD (fFld "Marks" "marks" (fName 0))) (fPeek 1))) (fD (mP (.str c_STAR))) [some (.imm (mkO ms)), some (.imm (.int s)), some (.imm (.str [c]))] = .ok (stM m) [some (.imm (mkO ms)), some (.imm (.int s)), some (.imm (.str [c]))] :=
      fBinT_of (fD_of (at_marks rfl rfl e)) (fD_of fP_of) rfl rfl (vEq_str m [42])
    cases hst : stM m with
    | true =>
      rw [hst] at c2
      simp only [hst, if_true]
      exact fSeq_rt (if_t c2 (fRet_of (pass_meth rfl (fC1_of (fName_of rfl)))))
    | false =>
      rw [hst] at c2
      refine seq_if c2 ?_
      have c3 : fBinT (vIn false) (fPeek 2) (fD (fBin vIx (fD (fFld "Marks" "marks" (fName 0))) (fPeek 1))) [some (.imm (mkO ms)), some (.imm (.int s)), some (.imm (.str [c]))] = .ok (fiM m c) [some (.imm (mkO ms)), some (.imm (.int s)), some (.imm (.str [c]))] :=
        fBinT_of (fPeek_of rfl) (fD_of (at_marks rfl rfl e)) rfl rfl (vIn_one c m)
      simp only [hst, Bool.false_eq_true, if_false]
      cases hf : fiM m c with
      | true =>
        rw [hf] at c3
        simp only [if_true]
        exact fRet_of (if_t c3 (pass_meth (s := s + 1) rfl (fC1_of (fBin_of (fPeek_of rfl) (fD_of fP_of) rfl rfl rfl))))
      | false =>
        rw [hf] at c3
        simp only [Bool.false_eq_true, if_false]
        exact fRet_of (if_f c3 (fN_of (fLst_of fP_of (by simp [natsD]))))
theorem ends_eq {ms : List (List Nat)} {s : Nat} : f_Marks_ends [mkO ms, .int s] = .ok (.bl (decide (s = ms.length))) := by
  show resOf (b_Marks_ends [some (.imm (mkO ms)), some (.imm (.int s))]) = _
  exact run_rt (fRet_of (fBin_of (fPeek_of rfl) (fD_of (len_marks rfl)) rfl rfl (by
    rw [vEq_int]
    congr 2
    rw [Bool.eq_iff_iff, decide_eq_true_eq, decide_eq_true_eq]
    omega)))
theorem nm_begins : f_Names_begins [nmO] = .ok (.lst (natsD [0])) := rfl
theorem nm_moves (s : Nat) (c : Nat) : f_Names_moves [nmO, .int s, .str [c]] = .ok (.lst (natsD [0])) := rfl
theorem nm_ends (s : Nat) : f_Names_ends [nmO, .int s] = .ok (.bl true) := rfl
end Kb
namespace Kb
open Vl
open L2 (ixN atI)
/-! Line.closed, full, begin -/
theorem fld_pieces {i : Nat} {ρ : Env} {l f : Bool} {ps : List LP} (h : ρ[i]? = some (some (.imm (lnD l ps f)))) : fFld "Line" "pieces" (fName i) ρ = .ok (.lst (ps.map daR)) ρ := by
  unfold fFld
  simp only [mB, fName_of h]
  rfl
theorem len_pieces {i : Nat} {ρ : Env} {l f : Bool} {ps : List LP} (h : ρ[i]? = some (some (.imm (lnD l ps f)))) : fCall vLen (fCons (fD (fFld "Line" "pieces" (fName i))) (mP [])) ρ = .ok (.int (ps.length : Int)) ρ :=
  fCall1_of (fld_pieces h) (by simp [vLen])
theorem at_pieces {i : Nat} {ρ ρ2 : Env} {l f : Bool} {ps : List LP} {fb : EM Pk} {pk : Pk} {k : Nat} {p : LP} (h : ρ[i]? = some (some (.imm (lnD l ps f)))) (hb : fb ρ = .ok pk ρ2) (hk : look ρ2 pk = some (.int (k : Int))) (hp : ps[k]? = some p) :
    fBin vIx (fD (fFld "Line" "pieces" (fName i))) fb ρ = .ok (daR p) ρ2 :=
  fBin_of (a := .lst (ps.map daR)) (b := .int k) (d := daR p) (fD_of (fld_pieces h)) hb rfl hk (show atI (ps.map daR) (k : Int) = some (daR p) from atI_nat (by rw [List.getElem?_map, hp]; rfl))
theorem nm_mk : ("Marks" : PySem.Str) ≠ "Names" := by decide
/-- a method of a piece, by its class -/
theorem alt_meth {m : PySem.Str} {F1 F2 : List Da → Res} {fe : EM Da} {fa : EM (List Da)} {ρ ρ1 ρ2 : Env} {p : LP} {ds : List Da} {d : Da} (h1 : fe ρ = .ok (daR p) ρ1) (h2 : fa ρ1 = .ok ds ρ2) (hm : m ≠ "marks")
    (hn : p = .many → F1 (nmO :: ds) = .ok d) (hk : ∀ ms, p = .marks ms → F2 (mkO ms :: ds) = .ok d) : fAlt (fMeth "Names" m F1 [] fe fa) (fMeth "Marks" m F2 [] fe fa) ρ = .ok d ρ2 := by
  cases p with
  | many => exact fAlt_l (fMeth_of h1 rfl h2 (by rw [List.append_nil]; exact hn rfl))
  | marks ms =>
    rw [fAlt_r (fMeth_no h1 nm_mk)]
    refine fMeth_of h1 ?_ h2 (by rw [List.append_nil]; exact hk ms rfl)
    have : (m == ("marks" : PySem.Str)) = false := beq_eq_false_iff_ne.mpr hm
    simp [List.lookup, this]
theorem many_alt {fe : EM Da} {ρ ρ1 : Env} {p : LP} (h1 : fe ρ = .ok (daR p) ρ1) : fAlt (fMeth "Names" "many" f_Names_many [] fe (mP [])) (fMeth "Marks" "many" f_Marks_many [] fe (mP [])) ρ = .ok (.bl (isMany p)) ρ1 :=
  alt_meth h1 rfl (by decide) (fun h => by subst h; rfl) (fun ms h => by subst h; rfl)
theorem natsD_eq (N : List Nat) : natsD N = (N.map fun i : Nat => (i : Int)).map Da.int := by
  unfold natsD
  rw [List.map_map]
  rfl
theorem natsD_app (a b : List Nat) : natsD (a ++ b) = natsD a ++ natsD b := by
  unfold natsD
  rw [List.map_append]
theorem natsD_len (a : List Nat) : (natsD a).length = a.length := by
  unfold natsD
  rw [List.length_map]
theorem vIn_nats (k : Nat) (N : List Nat) : vIn false (.int (k : Int)) (.lst (natsD N)) = some (.bl (decide (k ∈ N))) := by
  rw [natsD_eq, vIn_ints]
  congr 2
  rw [Bool.eq_iff_iff, decide_eq_true_eq, decide_eq_true_eq, List.mem_map]
  constructor
  · rintro ⟨i, h, e⟩
    have : i = k := by omega
    rw [← this]
    exact h
  · exact fun h => ⟨k, h, rfl⟩
theorem vIn_pred (k : Nat) (N : List Nat) : vIn false (.int ((k : Int) - 1)) (.lst (natsD N)) = some (.bl (decide (0 < k ∧ k - 1 ∈ N))) := by
  rw [natsD_eq, vIn_ints]
  congr 2
  rw [Bool.eq_iff_iff, decide_eq_true_eq, decide_eq_true_eq, List.mem_map]
  constructor
  · rintro ⟨i, h, e⟩
    refine ⟨by omega, ?_⟩
    have : i = k - 1 := by omega
    rw [← this]
    exact h
  · exact fun ⟨h0, h⟩ => ⟨k - 1, h, by omega⟩
/-! closed -/
def manyAt (ps : List LP) (i : Nat) : Bool := match ps[i]? with
  | some p => isMany p
  | none => false
def clStep (ps : List LP) (N acc : List Nat) (k : Nat) : List Nat := if k ∈ N ∨ (0 < k ∧ k - 1 ∈ acc ∧ manyAt ps (k - 1) = true) then acc ++ [k] else acc
def closedP (ps : List LP) (N : List Nat) : List Nat := (List.range (ps.length + 1)).foldl (clStep ps N) []
abbrev clE (l f : Bool) (ps : List LP) (N acc : List Nat) (k : Option Ce) : Env := [some (.imm (lnD l ps f)), some (.imm (.lst (natsD N))), some (.lst (natsD acc)), k]
theorem clStep_le (ps : List LP) (N acc : List Nat) (k : Nat) : (clStep ps N acc k).length ≤ acc.length + 1 := by
  unfold clStep
  split <;> simp
theorem cl_body (l f : Bool) (ps : List LP) (N acc : List Nat) {k : Nat} (hk : k ≤ ps.length) (ha : acc.length < 16777216) : p1_Line_closed (clE l f ps N acc (some (.imm (.int (k : Int))))) = .ok .nx (clE l f ps N (clStep ps N acc k) (some (.imm (.int (k : Int))))) := by
  have c1 : fBinT (vIn false) (fPeek 3) (fPeek 1) (clE l f ps N acc (some (.imm (.int (k : Int))))) = .ok (decide (k ∈ N)) (clE l f ps N acc (some (.imm (.int (k : Int))))) :=
    fBinT_of (fPeek_of rfl) (fPeek_of rfl) rfl rfl (vIn_nats k N)
  have es : fBin vSub (fPeek 3) (fD (mP (.int 1))) (clE l f ps N acc (some (.imm (.int (k : Int))))) = .ok (.int ((k : Int) - 1)) (clE l f ps N acc (some (.imm (.int (k : Int))))) :=
    fBin_of (fPeek_of rfl) (fD_of fP_of) rfl rfl rfl
  have c2 : fBinT (vIn false) (fD (fBin vSub (fPeek 3) (fD (mP (.int 1))))) (fPeek 2) (clE l f ps N acc (some (.imm (.int (k : Int))))) = .ok (decide (0 < k ∧ k - 1 ∈ acc)) (clE l f ps N acc (some (.imm (.int (k : Int))))) :=
    fBinT_of (fD_of es) (fPeek_of rfl) rfl rfl (vIn_pred k acc)
  have yes : (fExpr (fApp 2 (fName 3))) (clE l f ps N acc (some (.imm (.int (k : Int))))) = .ok .nx (clE l f ps N (acc ++ [k]) (some (.imm (.int (k : Int))))) := by
    have := fExpr_of (fApp_of (i := 2) (f := fName 3) (ρ := clE l f ps N acc (some (.imm (.int (k : Int))))) rfl (fName_of rfl) rfl (by rw [natsD_len]; exact ha))
    rw [this, show natsD acc ++ [Da.int (k : Int)] = natsD (acc ++ [k]) from (natsD_app acc [k]).symm]
    rfl
  unfold p1_Line_closed clStep
  by_cases h1 : k ∈ N
  · rw [decide_eq_true h1] at c1
    rw [if_pos (.inl h1)]
    exact if_t (fOr_t c1) yes
  · rw [decide_eq_false h1] at c1
    by_cases h2 : 0 < k ∧ k - 1 ∈ acc
    · rw [decide_eq_true h2] at c2
      have hlt : k - 1 < ps.length := by omega
      have em : manyAt ps (k - 1) = isMany ps[k - 1] := by
        unfold manyAt
        rw [List.getElem?_eq_getElem hlt]
      have c3 : (fTru (fD (fAlt (fMeth "Names" "many" f_Names_many [] (fBin vIx (fD (fFld "Line" "pieces" (fName 0))) (fD (fBin vSub (fPeek 3) (fD (mP (.int 1)))))) (mP [])) (fMeth "Marks" "many" f_Marks_many [] (fBin vIx (fD (fFld "Line" "pieces" (fName 0))) (fD (fBin vSub (fPeek 3) (fD (mP (.int 1)))))) (mP [])))))
          (clE l f ps N acc (some (.imm (.int (k : Int))))) = .ok (manyAt ps (k - 1)) (clE l f ps N acc (some (.imm (.int (k : Int))))) := by
        refine fTru_of (fD_of (many_alt (p := ps[k - 1]) (at_pieces (k := k - 1) rfl (fD_of es) ?_ (List.getElem?_eq_getElem hlt)))) rfl ?_
        · show some (Da.int ((k : Int) - 1)) = some (Da.int ((k - 1 : Nat) : Int))
          congr 2
          omega
        · rw [em]
          rfl
      cases h3 : manyAt ps (k - 1) with
      | true =>
        rw [h3] at c3
        rw [if_pos (.inr ⟨h2.1, h2.2, rfl⟩)]
        exact if_t (fOr_ff c1 (fAnd_tt c2 c3)) yes
      | false =>
        rw [h3] at c3
        rw [if_neg (by rintro (z | ⟨_, _, z⟩); exact h1 z; cases z)]
        exact if_f (fOr_ff c1 (fAnd_tt c2 c3)) rfl
    · rw [decide_eq_false h2] at c2
      rw [if_neg (by rintro (z | ⟨z1, z2, _⟩); exact h1 z; exact h2 ⟨z1, z2⟩)]
      exact if_f (fOr_ff c1 (fAnd_f c2)) rfl
theorem cl_loop (l f : Bool) (ps : List LP) (N : List Nat) : ∀ (cnt k : Nat) (acc : List Nat) (x : Option Ce), k + cnt ≤ ps.length + 1 → acc.length + cnt < 16777216 →
    ∃ x', forL (stN 3) p1_Line_closed (rangeD (k : Int) cnt) (clE l f ps N acc x) = .ok .nx (clE l f ps N ((List.range' k cnt).foldl (clStep ps N) acc) x')
  | 0, k, acc, x, _, _ => ⟨x, by rw [rangeD_zero]; rfl⟩
  | cnt + 1, k, acc, x, h1, h2 => by
    have hs := clStep_le ps N acc k
    obtain ⟨x', e⟩ := cl_loop l f ps N cnt (k + 1) (clStep ps N acc k) (some (.imm (.int (k : Int)))) (by omega) (by omega)
    refine ⟨x', ?_⟩
    rw [rangeD_succ, forL_cons (ρ1 := clE l f ps N acc (some (.imm (.int (k : Int))))) rfl (cl_body l f ps N acc (by omega) (by omega))]
    rw [List.range'_succ, List.foldl_cons]
    exact e
theorem closed_eq (l f : Bool) {ps : List LP} (N : List Nat) (hl : ps.length ≤ 1000) : f_Line_closed [lnD l ps f, .lst (natsD N)] = .ok (.lst (natsD (closedP ps N))) := by
  show resOf (b_Line_closed [some (.imm (lnD l ps f)), some (.imm (.lst (natsD N))), none, none]) = _
  obtain ⟨x', e⟩ := cl_loop l f ps N (ps.length + 1) 0 [] none (by omega) (by simp; omega)
  refine run_rt (ρ' := (clE l f ps N (closedP ps N) x').set 2 (some (.imm (.lst (natsD (closedP ps N)))))) ?_
  unfold b_Line_closed
  refine seq_nx (ρ' := clE l f ps N [] none) (fAsgN_of (fLst_of fP_of (by decide))) ?_
  refine seq_nx (ρ' := clE l f ps N (closedP ps N) x') ?_ ?_
  · refine fFor_of (ρ1 := clE l f ps N [] none) (ds := rangeD 0 (ps.length + 1)) (fItA_of (fC1_of (fBin_of (fD_of (len_pieces rfl)) (fD_of fP_of) rfl rfl rfl)) ?_) ?_
    · unfold rng1
      have : (((ps.length : Int) + 1).toNat) = ps.length + 1 := by omega
      simp only
      rw [if_pos (by omega), this]
    · have : closedP ps N = (List.range' 0 (ps.length + 1)).foldl (clStep ps N) [] := by
        unfold closedP
        rw [List.range_eq_range']
      rw [this]
      exact e
  · exact fRet_of rfl
theorem full_eq (l f : Bool) {ps : List LP} (N : List Nat) : f_Line_full [lnD l ps f, .lst (natsD N)] = .ok (.bl (decide (ps.length ∈ N))) := by
  show resOf (b_Line_full [some (.imm (lnD l ps f)), some (.imm (.lst (natsD N)))]) = _
  exact run_rt (fRet_of (fBin_of (fD_of (len_pieces rfl)) (fPeek_of rfl) rfl rfl (vIn_nats ps.length N)))
end Kb
namespace Kb
open Vl
open L2 (ixN atI)
/-! Line.begin, step, leave -/
theorem forL_fold {α β γ : Type} {st : Da → Env → Option Env} {body : EM Fl} {g : α → Da} {E : β → γ → Env} {step : β → α → β} (I : β → Prop) :
    ∀ (xs : List α), (∀ x ∈ xs, ∀ acc c, I acc → (∃ c1, st (g x) (E acc c) = some (E acc c1) ∧ ∃ c2, body (E acc c1) = .ok .nx (E (step acc x) c2)) ∧ I (step acc x)) →
    ∀ acc c, I acc → ∃ c', forL st body (xs.map g) (E acc c) = .ok .nx (E (xs.foldl step acc) c') ∧ I (xs.foldl step acc)
  | [], _, acc, c, hi => ⟨c, rfl, hi⟩
  | x :: xs, h, acc, c, hi => by
    obtain ⟨⟨c1, e1, c2, e2⟩, i2⟩ := h x (by simp) acc c hi
    obtain ⟨c', e3, i3⟩ := forL_fold I xs (fun y hy => h y (by simp [hy])) (step acc x) c2 i2
    exact ⟨c', by rw [List.map_cons, forL_cons e1 e2, e3, List.foldl_cons], i3⟩
theorem fExt_of {i : Nat} {f : EM Da} {ρ ρ' : Env} {xs ds es : List Da} (h0 : ρ[i]? = some (some (.lst xs))) (h : f ρ = .ok (.lst es) ρ') (h1 : ρ'[i]? = some (some (.lst ds))) (hl : ds.length + es.length ≤ 16777216) : fExt i f ρ = .ok .non (ρ'.set i (some (.lst (ds ++ es)))) := by
  simp only [fExt, h0, mB, h, h1, hl, if_true]
theorem fComp_of {vs : List Nat} {fi : EM (List Da)} {st : Da → Env → Option Env} {t : EM Bool} {e : EM Da} {ρ ρ1 ρ2 : Env} {ds es : List Da} (h : fi ρ = .ok ds ρ1) (h2 : compL vs st t e ds [] ρ1 = .ok es ρ2) : fComp vs fi st t e ρ = .ok es ρ2 := by
  simp only [fComp, mB, h, h2]
abbrev Sp := Nat × Nat
def spD (q : Sp) : Da := .tup [.int (q.1 : Int), .int (q.2 : Int)]
def spsD (l : List Sp) : List Da := l.map spD
theorem spsD_app (a b : List Sp) : spsD (a ++ b) = spsD a ++ spsD b := by
  unfold spsD
  rw [List.map_append]
theorem spsD_len (a : List Sp) : (spsD a).length = a.length := by
  unfold spsD
  rw [List.length_map]
def beginsL : LP → List Nat
  | .many => [0]
  | .marks ms => passM stM ms 0
def movesL : LP → Nat → Nat → List Nat
  | .many, _, _ => [0]
  | .marks ms, s, c => movesM stM fiM ms s c
def endsL : LP → Nat → Bool
  | .many, _ => true
  | .marks ms, s => decide (s = ms.length)
def lenL : LP → Nat
  | .many => 0
  | .marks ms => ms.length
theorem pass_len (ms : List (List Nat)) (s : Nat) : (passM stM ms s).length ≤ 2 := by
  unfold passM
  split
  · split <;> simp
  · simp
theorem begins_len (p : LP) : (beginsL p).length ≤ 2 := by
  cases p with
  | many => simp [beginsL]
  | marks ms => exact pass_len ms 0
theorem moves_len (p : LP) (s c : Nat) : (movesL p s c).length ≤ 2 := by
  cases p with
  | many => simp [movesL]
  | marks ms =>
    show (movesM stM fiM ms s c).length ≤ 2
    unfold movesM
    split
    · simp
    · split
      · exact pass_len _ _
      · split
        · exact pass_len _ _
        · simp
def begStep (ps : List LP) (acc : List Sp) (i : Nat) : List Sp := match ps[i]? with
  | some p => acc ++ (beginsL p).map fun s => (i, s)
  | none => acc
def beginP (ps : List LP) (N : List Nat) : List Sp := N.foldl (begStep ps) []
abbrev bgE (l f : Bool) (ps : List LP) (N : List Nat) (acc : List Sp) (k : Option Ce) : Env := [some (.imm (lnD l ps f)), some (.imm (.lst (natsD N))), some (.lst (spsD acc)), k, none]
theorem bg_body (l f : Bool) (ps : List LP) (N : List Nat) (acc : List Sp) (k : Nat) (ha : acc.length + 2 ≤ 16777216) : p2_Line_begin (bgE l f ps N acc (some (.imm (.int (k : Int))))) = .ok .nx (bgE l f ps N (begStep ps acc k) (some (.imm (.int (k : Int))))) := by
  have c1 : fBinT vLt (fPeek 3) (fD (fCall vLen (fCons (fD (fFld "Line" "pieces" (fName 0))) (mP [])))) (bgE l f ps N acc (some (.imm (.int (k : Int))))) = .ok (decide ((k : Int) < ps.length)) (bgE l f ps N acc (some (.imm (.int (k : Int))))) :=
    fBinT_of (fPeek_of rfl) (fD_of (len_pieces rfl)) rfl rfl rfl
  unfold p2_Line_begin begStep
  cases e : ps[k]? with
  | none =>
    have hl := List.getElem?_eq_none_iff.mp e
    have : decide ((k : Int) < ps.length) = false := by rw [decide_eq_false_iff_not]; omega
    rw [this] at c1
    exact if_f c1 rfl
  | some p =>
    have hl := (List.getElem?_eq_some_iff.mp e).1
    have : decide ((k : Int) < ps.length) = true := by rw [decide_eq_true_eq]; omega
    rw [this] at c1
    refine if_t c1 ?_
    have hb : (fIt itemsL (fAlt (fMeth "Names" "begins" f_Names_begins [] (fBin vIx (fD (fFld "Line" "pieces" (fName 0))) (fPeek 3)) (mP [])) (fMeth "Marks" "begins" f_Marks_begins [] (fBin vIx (fD (fFld "Line" "pieces" (fName 0))) (fPeek 3)) (mP [])))) (bgE l f ps N acc (some (.imm (.int (k : Int))))) = .ok (natsD (beginsL p)) (bgE l f ps N acc (some (.imm (.int (k : Int))))) := by
      refine fIt_of (d := .lst (natsD (beginsL p))) (alt_meth (p := p) (at_pieces (k := k) rfl (fPeek_of rfl) rfl e) rfl (by decide) (fun h => ?_) (fun ms h => ?_)) rfl
      · subst h
        exact nm_begins
      · subst h
        exact begins_eq
    have hc := fComp_of (vs := [4]) (st := stN 4) (t := mP true) (e := p1_Line_begin) hb (compL_all (g := fun i : Nat => Da.int (i : Int)) (y := fun s : Nat => spD (k, s)) (beginsL p) _ (ρw := bgE l f ps N acc (some (.imm (.int (k : Int))))) rfl (fun x _ => ⟨_, rfl, fTup_of (fC2_of (fName_of rfl) (fName_of rfl)) (by simp), rfl⟩) (by have := begins_len p; omega))
    have := fExpr_of (fExt_of (i := 2) (xs := spsD acc) rfl (fN_of hc) rfl (by rw [spsD_len, List.length_map]; have := begins_len p; omega))
    rw [this]
    have e2 : spsD acc ++ (beginsL p).map (fun s => spD (k, s)) = spsD (acc ++ (beginsL p).map fun s => (k, s)) := by
      rw [spsD_app]
      congr 1
      unfold spsD
      rw [List.map_map]
      rfl
    rw [e2]
    rfl
theorem begStep_len (ps : List LP) (acc : List Sp) (i : Nat) : (begStep ps acc i).length ≤ acc.length + 2 := by
  unfold begStep
  split
  · rename_i p _
    have := begins_len p
    rw [List.length_append, List.length_map]
    omega
  · omega
theorem begin_eq (l f : Bool) (ps : List LP) {N : List Nat} (hl : N.length ≤ 1000) : f_Line_begin [lnD l ps f, .lst (natsD N)] = .ok (.tup (spsD (beginP ps N))) ∧ (beginP ps N).length ≤ 2 * N.length := by
  have key : ∀ (M : List Nat) (acc : List Sp) (k : Option Ce), acc.length + 2 * M.length ≤ 16777216 → ∃ k', forL (stN 3) p2_Line_begin (natsD M) (bgE l f ps N acc k) = .ok .nx (bgE l f ps N (M.foldl (begStep ps) acc) k') ∧ (M.foldl (begStep ps) acc).length ≤ acc.length + 2 * M.length := by
    intro M
    induction M with
    | nil => exact fun acc k _ => ⟨k, rfl, by simp⟩
    | cons i M ih =>
      intro acc k h
      have hs := begStep_len ps acc i
      rw [List.length_cons] at h
      obtain ⟨k', e1, e2⟩ := ih (begStep ps acc i) (some (.imm (.int (i : Int)))) (by omega)
      refine ⟨k', ?_, ?_⟩
      · show forL (stN 3) p2_Line_begin (.int (i : Int) :: natsD M) _ = _
        rw [forL_cons (ρ1 := bgE l f ps N acc (some (.imm (.int (i : Int))))) rfl (bg_body l f ps N acc i (by omega)), List.foldl_cons]
        exact e1
      · rw [List.foldl_cons, List.length_cons]
        omega
  obtain ⟨k', e1, e2⟩ := key N [] none (by simp; omega)
  refine ⟨?_, by simpa [beginP] using e2⟩
  show resOf (b_Line_begin [some (.imm (lnD l ps f)), some (.imm (.lst (natsD N))), none, none, none]) = _
  refine run_rt (ρ' := bgE l f ps N (beginP ps N) k') ?_
  unfold b_Line_begin
  refine seq_nx (ρ' := bgE l f ps N [] none) (fAsgN_of (fLst_of fP_of (by decide))) ?_
  refine seq_nx (ρ' := bgE l f ps N (beginP ps N) k') (fFor_of (fIt_of (fName_of rfl) rfl) e1) ?_
  refine fRet_of (fCall_of (fC1_of (fPeek_of rfl)) rfl ?_)
  have : (spsD (beginP ps N)).length ≤ 16777216 := by
    rw [spsD_len]
    have : (beginP ps N).length ≤ 0 + 2 * N.length := e2
    omega
  show (if (spsD (beginP ps N)).length ≤ 16777216 then some (Da.tup (spsD (beginP ps N))) else none) = _
  rw [if_pos this]
end Kb
namespace Kb
open Vl
open L2 (ixN atI)
/-! Line.step, leave, stages -/
def toPr (q : Sp) : Pr := ((q.1 : Int), (q.2 : Int))
def ofPr (p : Pr) : Sp := (p.1.toNat, p.2.toNat)
def setP (acc : List Sp) : List Sp := (srtP (acc.map toPr)).map ofPr
theorem ofTo (q : Sp) : ofPr (toPr q) = q := by
  simp [ofPr, toPr]
theorem okTo {acc : List Sp} (h : ∀ q ∈ acc, q.1 < 4096 ∧ q.2 < 4096) : ∀ p ∈ acc.map toPr, OkP p := fun p hp => by
  obtain ⟨q, hq, rfl⟩ := List.mem_map.mp hp
  obtain ⟨h1, h2⟩ := h q hq
  unfold OkP toPr
  simp only
  omega
theorem mem_setP {acc : List Sp} (h : ∀ q ∈ acc, q.1 < 4096 ∧ q.2 < 4096) (q : Sp) : q ∈ setP acc ↔ q ∈ acc := by
  unfold setP
  rw [List.mem_map]
  constructor
  · rintro ⟨p, hp, e⟩
    obtain ⟨r, hr, rfl⟩ := List.mem_map.mp ((mem_srtP (okTo h) p).mp hp)
    rw [ofTo] at e
    rw [← e]
    exact hr
  · intro hq
    exact ⟨toPr q, (mem_srtP (okTo h) _).mpr (List.mem_map.mpr ⟨q, hq, rfl⟩), ofTo q⟩
theorem nd_setP {acc : List Sp} (h : ∀ q ∈ acc, q.1 < 4096 ∧ q.2 < 4096) : (setP acc).Nodup := by
  unfold setP
  have hok := okTo h
  have hm : ∀ p ∈ srtP (acc.map toPr), ∃ q, p = toPr q := fun p hp => by
    obtain ⟨r, _, rfl⟩ := List.mem_map.mp ((mem_srtP hok p).mp hp)
    exact ⟨r, rfl⟩
  have pw := pw_srtP (acc.map toPr)
  generalize srtP (acc.map toPr) = ls at hm pw
  clear hok h
  induction ls with
  | nil => exact List.Pairwise.nil
  | cons a ls ih =>
    obtain ⟨h1, h2⟩ := List.pairwise_cons.mp pw
    rw [List.map_cons]
    refine List.pairwise_cons.mpr ⟨fun x hx e => ?_, ih (fun p hp => hm p (by simp [hp])) h2⟩
    obtain ⟨b, hb, rfl⟩ := List.mem_map.mp hx
    obtain ⟨qa, rfl⟩ := hm a (by simp)
    obtain ⟨qb, rfl⟩ := hm b (by simp [hb])
    rw [ofTo, ofTo] at e
    have := h1 _ hb
    rw [e] at this
    exact Int.lt_irrefl _ this
theorem srt_eq {acc : List Sp} (h : ∀ q ∈ acc, q.1 < 4096 ∧ q.2 < 4096) (hl : acc.length < 64) : vSrtSet (.lst (spsD acc)) = some (spsD (setP acc)) := by
  have e1 : spsD acc = (acc.map toPr).map prD := by
    unfold spsD
    rw [List.map_map]
    rfl
  have hok := okTo h
  have e2 : spsD (setP acc) = (srtP (acc.map toPr)).map prD := by
    unfold spsD setP
    rw [List.map_map]
    refine List.map_congr_left fun p hp => ?_
    obtain ⟨r, _, rfl⟩ := List.mem_map.mp ((mem_srtP hok p).mp hp)
    show spD (ofPr (toPr r)) = _
    rw [ofTo]
    rfl
  rw [e1, e2]
  show (match pairsD ((acc.map toPr).map prD) with | some ps => if ps.length < 64 then some ((srtP ps).map prD) else none | none => none) = _
  rw [pairsD_map hok]
  simp only [List.length_map, hl, if_true]
/-! what stands within -/
def OkSp (ps : List LP) (q : Sp) : Prop := ∃ p, ps[q.1]? = some p ∧ q.2 ≤ lenL p
theorem pass_in {ms : List (List Nat)} {s t : Nat} (hs : s ≤ ms.length) (h : t ∈ passM stM ms s) : t ≤ ms.length := by
  rw [mem_pass] at h
  rcases h with rfl | ⟨rfl, m, hm, _⟩
  · exact hs
  · exact (List.getElem?_eq_some_iff.mp hm).1
theorem begins_in {p : LP} {t : Nat} (h : t ∈ beginsL p) : t ≤ lenL p := by
  cases p with
  | many => simp [beginsL] at h; simp [h]
  | marks ms => exact pass_in (Nat.zero_le _) h
theorem moves_in {p : LP} {s c t : Nat} (hs : s ≤ lenL p) (h : t ∈ movesL p s c) : t ≤ lenL p := by
  cases p with
  | many => simp [movesL] at h; simp [h]
  | marks ms =>
    have h' : t ∈ movesM stM fiM ms s c := h
    unfold movesM at h'
    split at h'
    · cases h'
    · rename_i m hm
      have := (List.getElem?_eq_some_iff.mp hm).1
      split at h'
      · exact pass_in (Nat.le_of_lt this) h'
      · split at h'
        · exact pass_in this h'
        · cases h'
def stStep (ps : List LP) (c : Nat) (acc : List Sp) (q : Sp) : List Sp := match ps[q.1]? with
  | some p => acc ++ (movesL p q.2 c).map fun s => (q.1, s)
  | none => acc
def stepP (ps : List LP) (spots : List Sp) (c : Nat) : List Sp := setP (spots.foldl (stStep ps c) [])
theorem stStep_len (ps : List LP) (c : Nat) (acc : List Sp) (q : Sp) : (stStep ps c acc q).length ≤ acc.length + 2 := by
  unfold stStep
  split
  · rename_i p _
    have := moves_len p q.2 c
    rw [List.length_append, List.length_map]
    omega
  · omega
theorem mem_stFold (ps : List LP) (c : Nat) : ∀ (spots acc : List Sp) (x : Sp), x ∈ spots.foldl (stStep ps c) acc ↔ x ∈ acc ∨ ∃ q ∈ spots, ∃ p, ps[q.1]? = some p ∧ x.1 = q.1 ∧ x.2 ∈ movesL p q.2 c
  | [], acc, x => by simp
  | q :: spots, acc, x => by
    rw [List.foldl_cons, mem_stFold ps c spots (stStep ps c acc q) x]
    have : x ∈ stStep ps c acc q ↔ x ∈ acc ∨ ∃ p, ps[q.1]? = some p ∧ x.1 = q.1 ∧ x.2 ∈ movesL p q.2 c := by
      unfold stStep
      cases e : ps[q.1]? with
      | none => simp
      | some p =>
        simp only [List.mem_append, List.mem_map, Option.some.injEq, exists_eq_left']
        constructor
        · rintro (h | ⟨s, h1, h2⟩)
          · exact .inl h
          · subst h2
            exact .inr ⟨rfl, h1⟩
        · rintro (h | ⟨h1, h2⟩)
          · exact .inl h
          · exact .inr ⟨x.2, h2, by rw [← h1]⟩
    rw [this]
    constructor
    · rintro ((h | h) | ⟨r, hr, h⟩)
      · exact .inl h
      · exact .inr ⟨q, by simp, h⟩
      · exact .inr ⟨r, by simp [hr], h⟩
    · rintro (h | ⟨r, hr, h⟩)
      · exact .inl (.inl h)
      · rcases List.mem_cons.mp hr with rfl | hr
        · exact .inl (.inr h)
        · exact .inr ⟨r, hr, h⟩
abbrev stE (l f : Bool) (ps : List LP) (S : List Sp) (c : Nat) (acc : List Sp) (k : Option Ce × Option Ce) : Env := [some (.imm (lnD l ps f)), some (.imm (.tup (spsD S))), some (.imm (.str [c])), some (.lst (spsD acc)), k.1, k.2, none]
theorem st_body (l f : Bool) (ps : List LP) (S : List Sp) (c : Nat) (acc : List Sp) {q : Sp} (hq : OkSp ps q) (ha : acc.length + 2 ≤ 16777216) :
    p2_Line_step (stE l f ps S c acc (some (.imm (.int (q.1 : Int))), some (.imm (.int (q.2 : Int))))) = .ok .nx (stE l f ps S c (stStep ps c acc q) (some (.imm (.int (q.1 : Int))), some (.imm (.int (q.2 : Int))))) := by
  obtain ⟨p, e, hs⟩ := hq
  unfold p2_Line_step stStep
  rw [e]
  have hb : (fIt itemsL (fAlt (fMeth "Names" "moves" f_Names_moves [] (fBin vIx (fD (fFld "Line" "pieces" (fName 0))) (fPeek 4)) (fCons (fName 5) (fCons (fName 2) (mP [])))) (fMeth "Marks" "moves" f_Marks_moves [] (fBin vIx (fD (fFld "Line" "pieces" (fName 0))) (fPeek 4)) (fCons (fName 5) (fCons (fName 2) (mP []))))))
      (stE l f ps S c acc (some (.imm (.int (q.1 : Int))), some (.imm (.int (q.2 : Int))))) = .ok (natsD (movesL p q.2 c)) (stE l f ps S c acc (some (.imm (.int (q.1 : Int))), some (.imm (.int (q.2 : Int))))) := by
    refine fIt_of (d := .lst (natsD (movesL p q.2 c))) (alt_meth (p := p) (at_pieces (k := q.1) rfl (fPeek_of rfl) rfl e) (fC2_of (fName_of rfl) (fName_of rfl)) (by decide) (fun h => ?_) (fun ms h => ?_)) rfl
    · subst h
      exact nm_moves q.2 c
    · subst h
      exact moves_eq hs
  have hc := fComp_of (vs := [6]) (st := stN 6) (t := mP true) (e := p1_Line_step) hb (compL_all (g := fun i : Nat => Da.int (i : Int)) (y := fun s : Nat => spD (q.1, s)) (movesL p q.2 c) _ (ρw := stE l f ps S c acc (some (.imm (.int (q.1 : Int))), some (.imm (.int (q.2 : Int))))) rfl (fun x _ => ⟨_, rfl, fTup_of (fC2_of (fName_of rfl) (fName_of rfl)) (by simp), rfl⟩) (by have := moves_len p q.2 c; omega))
  have := fExpr_of (fExt_of (i := 3) (xs := spsD acc) rfl (fN_of hc) rfl (by rw [spsD_len, List.length_map]; have := moves_len p q.2 c; omega))
  rw [this]
  have e2 : spsD acc ++ (movesL p q.2 c).map (fun s => spD (q.1, s)) = spsD (acc ++ (movesL p q.2 c).map fun s => (q.1, s)) := by
    rw [spsD_app]
    congr 1
    unfold spsD
    rw [List.map_map]
    rfl
  rw [e2]
  rfl
theorem stFold_len (ps : List LP) (c : Nat) : ∀ (S acc : List Sp), (S.foldl (stStep ps c) acc).length ≤ acc.length + 2 * S.length
  | [], acc => by simp
  | q :: S, acc => by
    have h1 := stStep_len ps c acc q
    have h2 := stFold_len ps c S (stStep ps c acc q)
    rw [List.foldl_cons, List.length_cons]
    omega
theorem okSp_lt {ps : List LP} {q : Sp} (h : OkSp ps q) (hp : ps.length ≤ 1000) (hm : ∀ p ∈ ps, lenL p ≤ 1000) : q.1 < 4096 ∧ q.2 < 4096 := by
  obtain ⟨p, e, hs⟩ := h
  have h1 := (List.getElem?_eq_some_iff.mp e).1
  have h2 := hm p (List.mem_of_getElem? e)
  omega
theorem stFold_ok {ps : List LP} {c : Nat} {S : List Sp} (h : ∀ q ∈ S, OkSp ps q) : ∀ x ∈ S.foldl (stStep ps c) [], OkSp ps x := fun x hx => by
  rcases (mem_stFold ps c S [] x).mp hx with z | ⟨q, hq, p, e, e1, e2⟩
  · cases z
  · obtain ⟨p', e', hs⟩ := h q hq
    rw [e] at e'
    cases e'
    exact ⟨p, by rw [e1]; exact e, moves_in hs e2⟩
theorem step_eq (l f : Bool) {ps : List LP} {S : List Sp} (c : Nat) (hp : ps.length ≤ 1000) (hm : ∀ p ∈ ps, lenL p ≤ 1000) (h : ∀ q ∈ S, OkSp ps q) (hl : S.length ≤ 31) : f_Line_step [lnD l ps f, .tup (spsD S), .str [c]] = .ok (.tup (spsD (stepP ps S c))) := by
  show resOf (b_Line_step [some (.imm (lnD l ps f)), some (.imm (.tup (spsD S))), some (.imm (.str [c])), none, none, none, none]) = _
  have hlen := stFold_len ps c S []
  have key : ∀ (M : List Sp), (∀ q ∈ M, OkSp ps q) → ∀ (acc : List Sp) (k : Option Ce × Option Ce), acc.length + 2 * M.length ≤ 16777216 → ∃ k', forL (stTup 2 (stCons (stN 4) (stCons (stN 5) stNil))) p2_Line_step (spsD M) (stE l f ps S c acc k) = .ok .nx (stE l f ps S c (M.foldl (stStep ps c) acc) k') := by
    intro M
    induction M with
    | nil => exact fun _ acc k _ => ⟨k, rfl⟩
    | cons q M ih =>
      intro hM acc k ha
      have hs := stStep_len ps c acc q
      rw [List.length_cons] at ha
      obtain ⟨k', e1⟩ := ih (fun r hr => hM r (by simp [hr])) (stStep ps c acc q) (some (.imm (.int (q.1 : Int))), some (.imm (.int (q.2 : Int)))) (by omega)
      refine ⟨k', ?_⟩
      show forL _ p2_Line_step (spD q :: spsD M) _ = _
      rw [forL_cons (ρ1 := stE l f ps S c acc (some (.imm (.int (q.1 : Int))), some (.imm (.int (q.2 : Int))))) rfl (st_body l f ps S c acc (hM q (by simp)) (by omega)), List.foldl_cons]
      exact e1
  obtain ⟨k', e1⟩ := key S h [] (none, none) (by simp; omega)
  generalize hF : S.foldl (stStep ps c) [] = F at e1 hlen
  have hF2 : ∀ x ∈ F, x.1 < 4096 ∧ x.2 < 4096 := fun x hx => by
    rw [← hF] at hx
    exact okSp_lt (stFold_ok h x hx) hp hm
  have es : stepP ps S c = setP F := by rw [← hF] <;> rfl
  refine run_rt (ρ' := stE l f ps S c F k') ?_
  unfold b_Line_step
  refine seq_nx (ρ' := stE l f ps S c [] (none, none)) (fAsgN_of (fLst_of fP_of (by decide))) ?_
  refine seq_nx (ρ' := stE l f ps S c F k') (fFor_of (fIt_of (fName_of rfl) rfl) e1) ?_
  rw [es]
  have e2 : fSrt (fPeek 3) (stE l f ps S c F k') = .ok (spsD (setP F)) (stE l f ps S c F k') := by
    have : look (stE l f ps S c F k') (.s 3) = some (.lst (spsD F)) := rfl
    have hlF : F.length < 64 := by simp at hlen; omega
    simp only [fSrt, mB, fPeek_of (i := 3) (ρ := stE l f ps S c F k') rfl, this, srt_eq hF2 hlF, mO]
  refine fRet_of (fCall1_of (fN_of e2) ?_)
  have hlS : (spsD (setP F)).length ≤ 16777216 := by
    rw [spsD_len]
    unfold setP
    rw [List.length_map]
    have := len_srtP (F.map toPr)
    rw [List.length_map] at this
    simp at hlen
    omega
  show (if (spsD (setP F)).length ≤ 16777216 then some (Da.tup (spsD (setP F))) else none) = _
  rw [if_pos hlS]
/-! leave -/
def lvStep (ps : List LP) (acc : List Nat) (q : Sp) : List Nat := match ps[q.1]? with
  | some p => if endsL p q.2 = true then acc ++ [if isMany p = true then q.1 else q.1 + 1] else acc
  | none => acc
def leaveP (ps : List LP) (S : List Sp) : List Nat := closedP ps (S.foldl (lvStep ps) [])
abbrev lvE (l f : Bool) (ps : List LP) (S : List Sp) (acc : List Nat) (k : Option Ce × Option Ce × Option Ce) : Env := [some (.imm (lnD l ps f)), some (.imm (.tup (spsD S))), some (.lst (natsD acc)), k.1, k.2.1, k.2.2]
theorem lv_body (l f : Bool) (ps : List LP) (S : List Sp) (acc : List Nat) (z : Option Ce) {q : Sp} (hq : OkSp ps q) (ha : acc.length < 16777216) :
    ∃ z', p1_Line_leave (lvE l f ps S acc (some (.imm (.int (q.1 : Int))), some (.imm (.int (q.2 : Int))), z)) = .ok .nx (lvE l f ps S (lvStep ps acc q) (some (.imm (.int (q.1 : Int))), some (.imm (.int (q.2 : Int))), z')) := by
  obtain ⟨p, e, hs⟩ := hq
  refine ⟨some (.imm (daR p)), ?_⟩
  let R : Env := lvE l f ps S acc (some (.imm (.int (q.1 : Int))), some (.imm (.int (q.2 : Int))), some (.imm (daR p)))
  unfold p1_Line_leave lvStep
  rw [e]
  refine seq_nx (ρ' := R) (fAsg_of (at_pieces (k := q.1) rfl (fPeek_of rfl) rfl e)) ?_
  have c1 : (fTru (fD (fAlt (fMeth "Names" "ends" f_Names_ends [] (fName 5) (fCons (fName 4) (mP []))) (fMeth "Marks" "ends" f_Marks_ends [] (fName 5) (fCons (fName 4) (mP [])))))) R = .ok (endsL p q.2) R := by
    refine fTru_of (d := .bl (endsL p q.2)) (fD_of (alt_meth (p := p) (fName_of rfl) (fC1_of (fName_of rfl)) (by decide) (fun h => ?_) (fun ms h => ?_))) rfl rfl
    · subst h
      exact nm_ends q.2
    · subst h
      exact ends_eq
  cases h1 : endsL p q.2 with
  | false =>
    rw [h1] at c1
    simp only [h1, Bool.false_eq_true, if_false]
    exact if_f c1 rfl
  | true =>
    rw [h1] at c1
    simp only [h1, if_true]
    refine if_t c1 ?_
    have c2 : (fTru (fD (fAlt (fMeth "Names" "many" f_Names_many [] (fName 5) (mP [])) (fMeth "Marks" "many" f_Marks_many [] (fName 5) (mP []))))) R = .ok (isMany p) R :=
      fTru_of (fD_of (many_alt (fName_of rfl))) rfl rfl
    have c3 : (fIf (fTru (fD (fAlt (fMeth "Names" "many" f_Names_many [] (fName 5) (mP [])) (fMeth "Marks" "many" f_Marks_many [] (fName 5) (mP []))))) (fName 3) (fBin vAdd (fPeek 3) (fD (mP (.int 1))))) R = .ok (.int ((if isMany p = true then q.1 else q.1 + 1 : Nat) : Int)) R := by
      cases h2 : isMany p with
      | true =>
        rw [h2] at c2
        exact if_t c2 (fName_of rfl)
      | false =>
        rw [h2] at c2
        refine if_f c2 (fBin_of (fPeek_of rfl) (fD_of fP_of) rfl rfl ?_)
        show some (Da.int ((q.1 : Int) + 1)) = _
        rfl
    have := fExpr_of (fApp_of (i := 2) (ρ := R) rfl c3 rfl (by rw [natsD_len]; exact ha))
    rw [this, show natsD acc ++ [Da.int ((if isMany p = true then q.1 else q.1 + 1 : Nat) : Int)] = natsD (acc ++ [if isMany p = true then q.1 else q.1 + 1]) from (natsD_app acc [_]).symm]
    rfl
theorem lvStep_len (ps : List LP) (acc : List Nat) (q : Sp) : (lvStep ps acc q).length ≤ acc.length + 1 := by
  unfold lvStep
  split
  · split <;> simp
  · omega
theorem leave_eq (l f : Bool) {ps : List LP} {S : List Sp} (hp : ps.length ≤ 1000) (h : ∀ q ∈ S, OkSp ps q) (hl : S.length ≤ 1000) : f_Line_leave [lnD l ps f, .tup (spsD S)] = .ok (.lst (natsD (leaveP ps S))) := by
  show resOf (b_Line_leave [some (.imm (lnD l ps f)), some (.imm (.tup (spsD S))), none, none, none, none]) = _
  have key : ∀ (M : List Sp), (∀ q ∈ M, OkSp ps q) → ∀ (acc : List Nat) (k : Option Ce × Option Ce × Option Ce), acc.length + M.length < 16777216 → ∃ k', forL (stTup 2 (stCons (stN 3) (stCons (stN 4) stNil))) p1_Line_leave (spsD M) (lvE l f ps S acc k) = .ok .nx (lvE l f ps S (M.foldl (lvStep ps) acc) k') := by
    intro M
    induction M with
    | nil => exact fun _ acc k _ => ⟨k, rfl⟩
    | cons q M ih =>
      intro hM acc k ha
      have hs := lvStep_len ps acc q
      rw [List.length_cons] at ha
      obtain ⟨z', eb⟩ := lv_body l f ps S acc k.2.2 (hM q (by simp)) (by omega)
      obtain ⟨k', e1⟩ := ih (fun r hr => hM r (by simp [hr])) (lvStep ps acc q) _ (by omega)
      refine ⟨k', ?_⟩
      show forL _ p1_Line_leave (spD q :: spsD M) _ = _
      rw [forL_cons (ρ1 := lvE l f ps S acc (some (.imm (.int (q.1 : Int))), some (.imm (.int (q.2 : Int))), k.2.2)) rfl eb, List.foldl_cons]
      exact e1
  obtain ⟨k', e1⟩ := key S h [] (none, none, none) (by simp; omega)
  refine run_rt (ρ' := (lvE l f ps S (S.foldl (lvStep ps) []) k').set 2 (some (.imm (.lst (natsD (S.foldl (lvStep ps) [])))))) ?_
  unfold b_Line_leave
  refine seq_nx (ρ' := lvE l f ps S [] (none, none, none)) (fAsgN_of (fLst_of fP_of (by decide))) ?_
  refine seq_nx (ρ' := lvE l f ps S (S.foldl (lvStep ps) []) k') (fFor_of (fIt_of (fName_of rfl) rfl) e1) ?_
  refine fRet_of ?_
  refine fMeth_of (gs := [("lets", .bl l), ("pieces", .lst (ps.map daR)), ("folders", .bl f)]) (ρ1 := lvE l f ps S (S.foldl (lvStep ps) []) k') (ds := [.lst (natsD (S.foldl (lvStep ps) []))]) (fName_of rfl) rfl (fC1_of rfl) ?_
  exact closed_eq l f _ hp
end Kb
namespace Kb
open Vl
open L2 (ixN atI)
/-! the table by rows; names; what a line's numbers mean -/
section
variable {M S : Type} (star : M → Bool) (fit : M → S → Bool) (xs : List S)
def cellR (row : List Bool) (m : M) (j : Nat) : Bool := if star m = true then (row.take (j + 1)).any id else decide (0 < j) && row.getD (j - 1) false && (match xs[j - 1]? with
  | some x => fit m x
  | none => false)
def rowP (row : List Bool) (m : M) : List Bool := (List.range (xs.length + 1)).map (cellR star fit xs row m)
def row0 : List Bool := true :: List.replicate xs.length false
def partP (ms : List M) : List Bool := ms.foldl (rowP star fit xs) (row0 xs)
def fullP (ms : List M) : Bool := (partP star fit xs ms).getD xs.length false
theorem rowP_len (row : List Bool) (m : M) : (rowP star fit xs row m).length = xs.length + 1 := by
  simp [rowP]
theorem row0_len : (row0 xs).length = xs.length + 1 := by
  simp [row0]
theorem part_rows (ms : List M) : ∀ (k : Nat), k ≤ ms.length → (partP star fit xs (ms.take k)).length = xs.length + 1 ∧ ∀ j, j ≤ xs.length → ((partP star fit xs (ms.take k)).getD j false = true ↔ eM star fit ms xs k j)
  | 0, _ => by
    refine ⟨row0_len xs, fun j hj => ?_⟩
    show (row0 xs).getD j false = true ↔ j = 0
    cases j with
    | zero => simp [row0]
    | succ j =>
      simp [row0, List.getElem?_replicate]
      split <;> simp
  | k + 1, hk => by
    obtain ⟨ih1, ih2⟩ := part_rows ms k (by omega)
    have hm : ms[k]? = some ms[k] := List.getElem?_eq_getElem (by omega)
    have ht : ms.take (k + 1) = ms.take k ++ [ms[k]] := by
      rw [List.take_succ, hm]
      rfl
    have e : partP star fit xs (ms.take (k + 1)) = rowP star fit xs (partP star fit xs (ms.take k)) ms[k] := by
      unfold partP
      rw [ht, List.foldl_append]
      rfl
    rw [e]
    refine ⟨rowP_len star fit xs _ _, fun j hj => ?_⟩
    generalize partP star fit xs (ms.take k) = row at ih1 ih2
    have e2 : (rowP star fit xs row ms[k]).getD j false = cellR star fit xs row ms[k] j := by
      unfold rowP
      rw [List.getD_eq_getElem?_getD, List.getElem?_map, List.getElem?_range (by omega)]
      rfl
    rw [e2]
    unfold cellR
    cases hs : star ms[k] with
    | true =>
      rw [eM_star star fit ms xs hm hs]
      simp only [if_true, List.any_eq_true]
      constructor
      · rintro ⟨b, hb, hb2⟩
        obtain ⟨i, hi⟩ := List.mem_iff_getElem?.mp hb
        rw [List.getElem?_take] at hi
        split at hi
        · rename_i hlt
          refine ⟨i, by omega, (ih2 i (by omega)).mp ?_⟩
          rw [List.getD_eq_getElem?_getD, hi]
          exact hb2
        · cases hi
      · rintro ⟨i, hi, he⟩
        have h1 := (ih2 i (by omega)).mpr he
        have h2 : i < row.length := by omega
        refine ⟨row[i], List.mem_iff_getElem?.mpr ⟨i, ?_⟩, ?_⟩
        · rw [List.getElem?_take, if_pos (by omega), List.getElem?_eq_getElem h2]
        · rw [List.getD_eq_getElem?_getD, List.getElem?_eq_getElem h2] at h1
          exact h1
    | false =>
      rw [eM_sign star fit ms xs hm hs]
      simp only [Bool.false_eq_true, if_false, Bool.and_eq_true, decide_eq_true_eq]
      constructor
      · rintro ⟨⟨h0, h1⟩, h2⟩
        split at h2
        · rename_i x hx
          exact ⟨j - 1, x, by omega, hx, (ih2 (j - 1) (by omega)).mp h1, h2⟩
        · cases h2
      · rintro ⟨i, x, rfl, hx, he, hf⟩
        refine ⟨⟨by omega, ?_⟩, ?_⟩
        · simpa using (ih2 i (by omega)).mpr he
        · simp [hx, hf]
theorem part_len (ms : List M) : (partP star fit xs ms).length = xs.length + 1 := by
  have := (part_rows star fit xs ms ms.length (Nat.le_refl _)).1
  rwa [List.take_length] at this
theorem full_iff (ms : List M) : fullP star fit xs ms = true ↔ eM star fit ms xs ms.length xs.length := by
  have := (part_rows star fit xs ms ms.length (Nat.le_refl _)).2 xs.length (Nat.le_refl _)
  rw [List.take_length] at this
  exact this
end
def nameB (ms : List (List Nat)) (y : List Nat) : Bool := fullP stM fiM y ms
def fitL : LP → List Nat → Bool
  | .many, _ => true
  | .marks ms, y => nameB ms y
def pathB (ps : List LP) (names : List (List Nat)) : Bool := fullP isMany fitL names ps
theorem noSt_M : ∀ {ms : List (List Nat)}, NoSS ms → NoSt stM ms
  | [], _ => trivial
  | [_], _ => trivial
  | a :: b :: r, h => ⟨fun ⟨h1, h2⟩ => h.1 ⟨of_decide_eq_true h1, of_decide_eq_true h2⟩, noSt_M h.2⟩
theorem noSt_L : ∀ {ps : List LP}, NoMM ps → NoSt isMany ps
  | [], _ => trivial
  | [_], _ => trivial
  | a :: b :: r, h => ⟨h.1, noSt_L h.2⟩
/-! closed -/
theorem mem_clFold (ps : List LP) (N : List Nat) : ∀ (cnt k : Nat) (acc : List Nat), (∀ x ∈ acc, x < k) → ∀ x, x ∈ (List.range' k cnt).foldl (clStep ps N) acc ↔ x ∈ acc ∨ (k ≤ x ∧ x < k + cnt ∧ (x ∈ N ∨ (0 < x ∧ x - 1 ∈ (List.range' k cnt).foldl (clStep ps N) acc ∧ manyAt ps (x - 1) = true)))
  | 0, k, acc, _, x => by
    simp only [List.range'_zero, List.foldl_nil]
    constructor
    · exact .inl
    · rintro (h | ⟨h1, h2, _⟩)
      · exact h
      · omega
  | cnt + 1, k, acc, ha, x => by
    rw [List.range'_succ, List.foldl_cons]
    have ha2 : ∀ y ∈ clStep ps N acc k, y < k + 1 := fun y hy => by
      unfold clStep at hy
      split at hy
      · rcases List.mem_append.mp hy with h | h
        · have := ha y h; omega
        · have := List.mem_singleton.mp h; omega
      · have := ha y hy; omega
    have ih := mem_clFold ps N cnt (k + 1) (clStep ps N acc k) ha2
    have mono : ∀ y, y ∈ acc → y ∈ (List.range' (k + 1) cnt).foldl (clStep ps N) (clStep ps N acc k) := fun y hy => (ih y).mpr (.inl (by
      unfold clStep
      split
      · exact List.mem_append_left _ hy
      · exact hy))
    have back : ∀ y, y < k → y ∈ (List.range' (k + 1) cnt).foldl (clStep ps N) (clStep ps N acc k) → y ∈ acc := fun y hy h => by
      rcases (ih y).mp h with h | ⟨h1, _⟩
      · unfold clStep at h
        split at h
        · rcases List.mem_append.mp h with h | h
          · exact h
          · have := List.mem_singleton.mp h; omega
        · exact h
      · omega
    constructor
    · intro h
      rcases (ih x).mp h with h1 | ⟨h1, h2, h3⟩
      · unfold clStep at h1
        split at h1
        · rename_i hc
          rcases List.mem_append.mp h1 with h1 | h1
          · exact .inl h1
          · have := List.mem_singleton.mp h1
            subst this
            refine .inr ⟨Nat.le_refl _, by omega, ?_⟩
            rcases hc with hc | ⟨c1, c2, c3⟩
            · exact .inl hc
            · exact .inr ⟨c1, mono _ c2, c3⟩
        · exact .inl h1
      · exact .inr ⟨by omega, by omega, h3⟩
    · rintro (h | ⟨h1, h2, h3⟩)
      · exact mono x h
      · by_cases hx : x = k
        · subst hx
          refine (ih x).mpr (.inl ?_)
          unfold clStep
          rw [if_pos]
          · simp
          · rcases h3 with h3 | ⟨c1, c2, c3⟩
            · exact .inl h3
            · exact .inr ⟨c1, back _ (by omega) c2, c3⟩
        · exact (ih x).mpr (.inr ⟨by omega, by omega, h3⟩)
theorem mem_closed (ps : List LP) (N : List Nat) (x : Nat) : x ∈ closedP ps N ↔ x ≤ ps.length ∧ (x ∈ N ∨ (0 < x ∧ x - 1 ∈ closedP ps N ∧ manyAt ps (x - 1) = true)) := by
  have := mem_clFold ps N (ps.length + 1) 0 [] (by simp) x
  unfold closedP
  rw [List.range_eq_range', this]
  simp only [List.not_mem_nil, false_or, Nat.zero_le, true_and, Nat.zero_add]
  rw [Nat.lt_succ_iff]
theorem closed_len (ps : List LP) (N : List Nat) : (closedP ps N).length ≤ ps.length + 1 := by
  have key : ∀ (cnt k : Nat) (acc : List Nat), ((List.range' k cnt).foldl (clStep ps N) acc).length ≤ acc.length + cnt := by
    intro cnt
    induction cnt with
    | zero => intro k acc; simp
    | succ cnt ih =>
      intro k acc
      rw [List.range'_succ, List.foldl_cons]
      have h1 := clStep_le ps N acc k
      have h2 := ih (k + 1) (clStep ps N acc k)
      omega
  unfold closedP
  rw [List.range_eq_range']
  have := key (ps.length + 1) 0 []
  simpa using this
theorem manyAt_iff {ps : List LP} {i : Nat} : manyAt ps i = true ↔ ∃ m, ps[i]? = some m ∧ isMany m = true := by
  unfold manyAt
  cases e : ps[i]? with
  | none => simp
  | some p => simp
theorem closed_pass {ps : List LP} {F : List Nat} (hn : NoMM ps) (hF : ∀ z ∈ F, z ≤ ps.length) (x : Nat) : x ∈ closedP ps F ↔ ∃ z ∈ F, x ∈ passM isMany ps z := by
  have hns := noSt_L hn
  constructor
  · intro h
    have key : ∀ x, x ∈ closedP ps F → x ∈ F ∨ (0 < x ∧ x - 1 ∈ F ∧ manyAt ps (x - 1) = true) := fun x h => by
      rcases ((mem_closed ps F x).mp h).2 with h1 | ⟨h1, h2, h3⟩
      · exact .inl h1
      · rcases ((mem_closed ps F (x - 1)).mp h2).2 with g1 | ⟨g1, _, g3⟩
        · exact .inr ⟨h1, g1, h3⟩
        · obtain ⟨a, a1, a2⟩ := manyAt_iff.mp g3
          obtain ⟨b, b1, b2⟩ := manyAt_iff.mp h3
          have e : x - 1 - 1 + 1 = x - 1 := by omega
          have := hns.at (k := x - 1 - 1) a1 (by rw [e]; exact b1) a2
          rw [b2] at this
          cases this
    rcases key x h with h1 | ⟨h1, h2, h3⟩
    · exact ⟨x, h1, by rw [mem_pass]; exact .inl rfl⟩
    · exact ⟨x - 1, h2, by rw [mem_pass]; exact .inr ⟨by omega, manyAt_iff.mp h3⟩⟩
  · rintro ⟨z, hz, hx⟩
    rw [mem_pass] at hx
    have hzc : z ∈ closedP ps F := (mem_closed ps F z).mpr ⟨hF z hz, .inl hz⟩
    rcases hx with rfl | ⟨rfl, m, hm, hs⟩
    · exact hzc
    · refine (mem_closed ps F (z + 1)).mpr ⟨(List.getElem?_eq_some_iff.mp hm).1, .inr ⟨by omega, by simpa using hzc, by simpa using manyAt_iff.mpr ⟨m, hm, hs⟩⟩⟩
end Kb
namespace Kb
open Vl
open L2 (ixN atI)
/-! what spots and numbers mean -/
def spA (p : LP) (y : List Nat) (j s : Nat) : Prop := match p with
  | .many => s = 0
  | .marks ms => actM stM fiM ms y j s
abbrev actL (ps : List LP) (names : List (List Nat)) (t i : Nat) : Prop := actM isMany fitL ps names t i
def NumsOk (ps : List LP) (names : List (List Nat)) (t : Nat) (N : List Nat) : Prop := ∀ i, i ∈ N ↔ actL ps names t i
def SpotsOk (ps : List LP) (A : Nat → Prop) (y : List Nat) (j : Nat) (S : List Sp) : Prop := ∀ q, q ∈ S ↔ ∃ p, ps[q.1]? = some p ∧ A q.1 ∧ spA p y j q.2
theorem okLP_ss {ms : List (List Nat)} (h : OkLP (.marks ms)) : NoSt stM ms := noSt_M h.2.2.1
theorem begins_spA {p : LP} (h : OkLP p) (y : List Nat) (s : Nat) : s ∈ beginsL p ↔ spA p y 0 s := by
  cases p with
  | many => simp [beginsL, spA]
  | marks ms => exact (act_zero (okLP_ss h)).symm
theorem moves_spA {p : LP} (h : OkLP p) {y : List Nat} {j c : Nat} (hc : y[j]? = some c) (t : Nat) : (∃ s, spA p y j s ∧ t ∈ movesL p s c) ↔ spA p y (j + 1) t := by
  cases p with
  | many => simp [movesL, spA]
  | marks ms => exact (act_step (okLP_ss h) hc).symm
theorem spA_le {p : LP} {y : List Nat} {j s : Nat} (h : spA p y j s) : s ≤ lenL p := by
  cases p with
  | many =>
    have : s = 0 := h
    simp [this]
  | marks ms => exact act_le h
theorem mem_bgFold (ps : List LP) : ∀ (N : List Nat) (acc : List Sp) (x : Sp), x ∈ N.foldl (begStep ps) acc ↔ x ∈ acc ∨ (x.1 ∈ N ∧ ∃ p, ps[x.1]? = some p ∧ x.2 ∈ beginsL p)
  | [], acc, x => by simp
  | i :: N, acc, x => by
    rw [List.foldl_cons, mem_bgFold ps N (begStep ps acc i) x]
    have : x ∈ begStep ps acc i ↔ x ∈ acc ∨ (x.1 = i ∧ ∃ p, ps[x.1]? = some p ∧ x.2 ∈ beginsL p) := by
      unfold begStep
      cases e : ps[i]? with
      | none =>
        constructor
        · exact .inl
        · rintro (h | ⟨rfl, p, hp, _⟩)
          · exact h
          · rw [e] at hp; cases hp
      | some p =>
        simp only [List.mem_append, List.mem_map]
        constructor
        · rintro (h | ⟨s, h1, h2⟩)
          · exact .inl h
          · subst h2
            exact .inr ⟨rfl, p, e, h1⟩
        · rintro (h | ⟨h1, p', h2, h3⟩)
          · exact .inl h
          · rw [h1, e] at h2
            cases h2
            exact .inr ⟨x.2, h3, by rw [← h1]⟩
    rw [this, List.mem_cons]
    constructor
    · rintro ((h | ⟨h1, h2⟩) | ⟨h1, h2⟩)
      · exact .inl h
      · exact .inr ⟨.inl h1, h2⟩
      · exact .inr ⟨.inr h1, h2⟩
    · rintro (h | ⟨h1 | h1, h2⟩)
      · exact .inl (.inl h)
      · exact .inl (.inr ⟨h1, h2⟩)
      · exact .inr ⟨h1, h2⟩
theorem begin_ok {ps : List LP} (ho : ∀ p ∈ ps, OkLP p) {A : Nat → Prop} {N : List Nat} (hN : ∀ i, i ∈ N ↔ A i) (y : List Nat) : SpotsOk ps A y 0 (beginP ps N) := fun q => by
  unfold beginP
  rw [mem_bgFold]
  constructor
  · rintro (h | ⟨h1, p, h2, h3⟩)
    · cases h
    · exact ⟨p, h2, (hN _).mp h1, (begins_spA (ho p (List.mem_of_getElem? h2)) y _).mp h3⟩
  · rintro ⟨p, h2, h1, h3⟩
    exact .inr ⟨(hN _).mpr h1, p, h2, (begins_spA (ho p (List.mem_of_getElem? h2)) y _).mpr h3⟩
theorem SpotsOk.ok {ps : List LP} {A : Nat → Prop} {y : List Nat} {j : Nat} {S : List Sp} (h : SpotsOk ps A y j S) : ∀ q ∈ S, OkSp ps q := fun q hq => by
  obtain ⟨p, h1, _, h3⟩ := (h q).mp hq
  exact ⟨p, h1, spA_le h3⟩
theorem step_ok {ps : List LP} (ho : ∀ p ∈ ps, OkLP p) (hp : ps.length ≤ 1000) (hm : ∀ p ∈ ps, lenL p ≤ 1000) {A : Nat → Prop} {y : List Nat} {j c : Nat} (hc : y[j]? = some c) {S : List Sp} (h : SpotsOk ps A y j S) : SpotsOk ps A y (j + 1) (stepP ps S c) := fun q => by
  have hF : ∀ x ∈ S.foldl (stStep ps c) [], x.1 < 4096 ∧ x.2 < 4096 := fun x hx => okSp_lt (stFold_ok h.ok x hx) hp hm
  unfold stepP
  rw [mem_setP hF, mem_stFold]
  constructor
  · rintro (h1 | ⟨r, hr, p, e1, e2, e3⟩)
    · cases h1
    · obtain ⟨p', g1, g2, g3⟩ := (h r).mp hr
      rw [e1] at g1
      cases g1
      refine ⟨p, by rw [e2]; exact e1, by rw [e2]; exact g2, (moves_spA (ho p (List.mem_of_getElem? e1)) hc q.2).mp ⟨r.2, g3, e3⟩⟩
  · rintro ⟨p, e1, e2, e3⟩
    obtain ⟨s, g1, g2⟩ := (moves_spA (ho p (List.mem_of_getElem? e1)) hc q.2).mpr e3
    exact .inr ⟨(q.1, s), (h (q.1, s)).mpr ⟨p, e1, e2, g1⟩, p, e1, rfl, g2⟩
theorem mem_lvFold (ps : List LP) : ∀ (S : List Sp) (acc : List Nat) (x : Nat), x ∈ S.foldl (lvStep ps) acc ↔ x ∈ acc ∨ ∃ q ∈ S, ∃ p, ps[q.1]? = some p ∧ endsL p q.2 = true ∧ x = (if isMany p = true then q.1 else q.1 + 1)
  | [], acc, x => by simp
  | q :: S, acc, x => by
    rw [List.foldl_cons, mem_lvFold ps S (lvStep ps acc q) x]
    have : x ∈ lvStep ps acc q ↔ x ∈ acc ∨ ∃ p, ps[q.1]? = some p ∧ endsL p q.2 = true ∧ x = (if isMany p = true then q.1 else q.1 + 1) := by
      unfold lvStep
      cases e : ps[q.1]? with
      | none => simp
      | some p =>
        simp only [Option.some.injEq, exists_eq_left']
        cases h : endsL p q.2 with
        | false => simp
        | true => simp
    rw [this]
    constructor
    · rintro ((h | h) | ⟨r, hr, h⟩)
      · exact .inl h
      · exact .inr ⟨q, by simp, h⟩
      · exact .inr ⟨r, by simp [hr], h⟩
    · rintro (h | ⟨r, hr, h⟩)
      · exact .inl (.inl h)
      · rcases List.mem_cons.mp hr with rfl | hr
        · exact .inl (.inr h)
        · exact .inr ⟨r, hr, h⟩
theorem leave_ok {ps : List LP} (ho : ∀ p ∈ ps, OkLP p) (hn : NoMM ps) {names : List (List Nat)} {t : Nat} {y : List Nat} (hy : names[t]? = some y) {S : List Sp} (h : SpotsOk ps (actL ps names t) y y.length S) : NumsOk ps names (t + 1) (leaveP ps S) := fun x => by
  have hz : ∀ z, z ∈ S.foldl (lvStep ps) [] ↔ ∃ i p, ps[i]? = some p ∧ actL ps names t i ∧ ((isMany p = true ∧ z = i) ∨ (isMany p = false ∧ fitL p y = true ∧ z = i + 1)) := fun z => by
    rw [mem_lvFold]
    constructor
    · rintro (h1 | ⟨q, hq, p, e1, e2, e3⟩)
      · cases h1
      · obtain ⟨p', g1, g2, g3⟩ := (h q).mp hq
        rw [e1] at g1
        cases g1
        refine ⟨q.1, p, e1, g2, ?_⟩
        cases p with
        | many => exact .inl ⟨rfl, e3⟩
        | marks ms =>
          refine .inr ⟨rfl, ?_, e3⟩
          have hs : q.2 = ms.length := of_decide_eq_true e2
          have g3' : actM stM fiM ms y y.length q.2 := g3
          rw [hs] at g3'
          exact (full_iff stM fiM y ms).mpr (act_full.mp g3')
    · rintro ⟨i, p, e1, e2, e3⟩
      cases p with
      | many =>
        rcases e3 with ⟨_, e3⟩ | ⟨e3, _⟩
        · exact .inr ⟨(i, 0), (h (i, 0)).mpr ⟨.many, e1, e2, rfl⟩, .many, e1, rfl, e3⟩
        · cases e3
      | marks ms =>
        rcases e3 with ⟨e3, _⟩ | ⟨_, e3, e4⟩
        · cases e3
        · exact .inr ⟨(i, ms.length), (h (i, ms.length)).mpr ⟨.marks ms, e1, e2, act_full.mpr ((full_iff stM fiM y ms).mp e3)⟩, .marks ms, e1, decide_eq_true rfl, e4⟩
  have hF : ∀ z ∈ S.foldl (lvStep ps) [], z ≤ ps.length := fun z h1 => by
    obtain ⟨i, p, e1, _, e3⟩ := (hz z).mp h1
    have := (List.getElem?_eq_some_iff.mp e1).1
    rcases e3 with ⟨_, e3⟩ | ⟨_, _, e3⟩ <;> omega
  unfold leaveP
  rw [closed_pass hn hF]
  show _ ↔ actM isMany fitL ps names (t + 1) x
  rw [act_step (noSt_L hn) hy]
  constructor
  · rintro ⟨z, h1, h2⟩
    obtain ⟨i, p, e1, e2, e3⟩ := (hz z).mp h1
    refine ⟨i, e2, ?_⟩
    unfold movesM
    rw [e1]
    rcases e3 with ⟨e3, rfl⟩ | ⟨e3, e4, rfl⟩
    · simp only [e3, if_true]
      exact h2
    · simp only [e3, Bool.false_eq_true, if_false, e4, if_true]
      exact h2
  · rintro ⟨i, e2, h2⟩
    unfold movesM at h2
    cases e1 : ps[i]? with
    | none => rw [e1] at h2; cases h2
    | some p =>
      rw [e1] at h2
      cases e3 : isMany p with
      | true =>
        simp only [e3, if_true] at h2
        exact ⟨i, (hz i).mpr ⟨i, p, e1, e2, .inl ⟨e3, rfl⟩⟩, h2⟩
      | false =>
        simp only [e3, Bool.false_eq_true, if_false] at h2
        split at h2
        · rename_i e4
          exact ⟨i + 1, (hz (i + 1)).mpr ⟨i, p, e1, e2, .inr ⟨e3, e4, rfl⟩⟩, h2⟩
        · cases h2
theorem start_ok {ps : List LP} (hn : NoMM ps) (names : List (List Nat)) : NumsOk ps names 0 (closedP ps [0]) := fun i => by
  show _ ↔ actM isMany fitL ps names 0 i
  rw [act_zero (noSt_L hn), closed_pass hn (by simp)]
  simp
/-! how many spots -/
theorem nodup_len {α : Type} [DecidableEq α] : ∀ {l D : List α}, l.Nodup → (∀ x ∈ l, x ∈ D) → l.length ≤ D.length
  | [], D, _, _ => Nat.zero_le _
  | x :: l, D, h, hs => by
    obtain ⟨h1, h2⟩ := List.nodup_cons.mp h
    have hx := hs x (by simp)
    have := nodup_len (D := D.erase x) h2 fun y hy => (List.mem_erase_of_ne (by rintro rfl; exact h1 hy)).mpr (hs y (by simp [hy]))
    rw [List.length_erase_of_mem hx] at this
    have := List.length_pos_of_mem hx
    rw [List.length_cons]
    omega
def gridL (ps : List LP) : List Sp := (List.range ps.length).flatMap fun i => match ps[i]? with
  | some p => (List.range (lenL p + 1)).map fun s => (i, s)
  | none => []
theorem mem_grid {ps : List LP} {q : Sp} (h : OkSp ps q) : q ∈ gridL ps := by
  obtain ⟨p, e, hs⟩ := h
  unfold gridL
  refine List.mem_flatMap.mpr ⟨q.1, List.mem_range.mpr (List.getElem?_eq_some_iff.mp e).1, ?_⟩
  rw [e]
  exact List.mem_map.mpr ⟨q.2, List.mem_range.mpr (by omega), rfl⟩
/-- lines that are small enough for sets of spots -/
structure Small (ps : List LP) : Prop where
  ok : OkPs ps
  grid : (gridL ps).length ≤ 31
  few : ps.length ≤ 14
theorem Small.len (h : Small ps) : ∀ p ∈ ps, lenL p ≤ 1000 := fun p hp => by
  have := h.ok.2.1 p hp
  cases p with
  | many => simp [lenL]
  | marks ms =>
    have : ms.length ≤ 7 := this.2.2.2
    show ms.length ≤ 1000
    omega
theorem step_len {ps : List LP} (h : Small ps) {S : List Sp} (hS : ∀ q ∈ S, OkSp ps q) (c : Nat) : (stepP ps S c).length ≤ 31 := by
  have hp : ps.length ≤ 1000 := by have := h.few; omega
  have hF : ∀ x ∈ S.foldl (stStep ps c) [], x.1 < 4096 ∧ x.2 < 4096 := fun x hx => okSp_lt (stFold_ok hS x hx) hp h.len
  refine Nat.le_trans (nodup_len (nd_setP hF) fun x hx => ?_) h.grid
  exact mem_grid (stFold_ok hS x ((mem_setP hF x).mp hx))
end Kb
namespace Kb
open Vl
open L2 (ixN atI)
/-! Line.stages -/
def nextP (ps : List LP) (N : List Nat) (y : List Nat) : List Nat := leaveP ps (y.foldl (stepP ps) (beginP ps N))
def stGo (ps : List LP) : List (List Nat) → List Nat → List (List Nat)
  | [], _ => []
  | y :: ys, N => nextP ps N y :: stGo ps ys (nextP ps N y)
def stagesP (ps : List LP) (names : List (List Nat)) : List (List Nat) := stGo ps names (closedP ps [0])
def numsD (l : List (List Nat)) : List Da := l.map fun N => .lst (natsD N)
theorem numsD_app (a b : List (List Nat)) : numsD (a ++ b) = numsD a ++ numsD b := by
  unfold numsD
  rw [List.map_append]
theorem numsD_len (a : List (List Nat)) : (numsD a).length = a.length := by
  unfold numsD
  rw [List.length_map]
theorem spot_fold {ps : List LP} (h : Small ps) : ∀ (y : List Nat) {S : List Sp}, (∀ q ∈ S, OkSp ps q) → S.length ≤ 31 → (∀ q ∈ y.foldl (stepP ps) S, OkSp ps q) ∧ (y.foldl (stepP ps) S).length ≤ 31
  | [], S, h1, h2 => ⟨h1, h2⟩
  | c :: y, S, h1, h2 => by
    have hp : ps.length ≤ 1000 := by have := h.few; omega
    have hF : ∀ x ∈ S.foldl (stStep ps c) [], x.1 < 4096 ∧ x.2 < 4096 := fun x hx => okSp_lt (stFold_ok h1 x hx) hp h.len
    exact spot_fold h y (S := stepP ps S c) (fun x hx => stFold_ok h1 x ((mem_setP hF x).mp hx)) (step_len h h1 c)
theorem begin_in {ps : List LP} {N : List Nat} : ∀ q ∈ beginP ps N, OkSp ps q := fun q hq => by
  rcases (mem_bgFold ps N [] q).mp hq with z | ⟨_, p, e, h⟩
  · cases z
  · exact ⟨p, e, begins_in h⟩
theorem begin_len (ps : List LP) : ∀ (N : List Nat) (acc : List Sp), (N.foldl (begStep ps) acc).length ≤ acc.length + 2 * N.length
  | [], acc => by simp
  | i :: N, acc => by
    have h1 := begStep_len ps acc i
    have h2 := begin_len ps N (begStep ps acc i)
    rw [List.foldl_cons, List.length_cons]
    omega
theorem next_len (ps : List LP) (N y : List Nat) : (nextP ps N y).length ≤ ps.length + 1 := closed_len ps _
abbrev sgE (l f : Bool) (ps : List LP) (names found : List (List Nat)) (N : List Nat) (k : Option Ce × Option Ce × Option Ce) : Env := [some (.imm (lnD l ps f)), some (.imm (.lst (names.map .str))), some (.lst (numsD found)), some (.imm (.lst (natsD N))), k.1, k.2.1, k.2.2]
theorem sg_signs (l f : Bool) {ps : List LP} (h : Small ps) (names found : List (List Nat)) (N : List Nat) (a : Option Ce) : ∀ (y : List Nat) {S : List Sp} (c : Option Ce), (∀ q ∈ S, OkSp ps q) → S.length ≤ 31 →
    ∃ c', forL (stN 6) p1_Line_stages (y.map fun x => Da.str [x]) (sgE l f ps names found N (a, some (.imm (.tup (spsD S))), c)) = .ok .nx (sgE l f ps names found N (a, some (.imm (.tup (spsD (y.foldl (stepP ps) S)))), c'))
  | [], S, c, _, _ => ⟨c, rfl⟩
  | x :: y, S, c, h1, h2 => by
    have hp : ps.length ≤ 1000 := by have := h.few; omega
    obtain ⟨g1, g2⟩ := spot_fold h [x] h1 h2
    obtain ⟨c', e⟩ := sg_signs l f h names found N a y (S := stepP ps S x) (some (.imm (.str [x]))) g1 g2
    refine ⟨c', ?_⟩
    have eb : p1_Line_stages (sgE l f ps names found N (a, some (.imm (.tup (spsD S))), some (.imm (.str [x])))) = .ok .nx (sgE l f ps names found N (a, some (.imm (.tup (spsD (stepP ps S x)))), some (.imm (.str [x])))) := by
      unfold p1_Line_stages
      exact fAsg_of (fMeth_of (gs := [("lets", .bl l), ("pieces", .lst (ps.map daR)), ("folders", .bl f)]) (fName_of rfl) rfl (fC2_of (fName_of rfl) (fName_of rfl)) (step_eq l f x hp h.len h1 h2))
    rw [List.map_cons, forL_cons (ρ1 := sgE l f ps names found N (a, some (.imm (.tup (spsD S))), some (.imm (.str [x])))) rfl eb, List.foldl_cons]
    exact e
theorem sg_body (l f : Bool) {ps : List LP} (h : Small ps) (names found : List (List Nat)) {N : List Nat} (y : List Nat) (b c : Option Ce) (hN : N.length ≤ 15) (hf : found.length < 16777216) :
    ∃ b' c', p2_Line_stages (sgE l f ps names found N (some (.imm (.str y)), b, c)) = .ok .nx (sgE l f ps names (found ++ [nextP ps N y]) (nextP ps N y) (some (.imm (.str y)), b', c')) := by
  have hp : ps.length ≤ 1000 := by have := h.few; omega
  have hb := begin_len ps N []
  have hbl : (beginP ps N).length ≤ 31 := by
    have : (beginP ps N).length ≤ 0 + 2 * N.length := hb
    omega
  obtain ⟨c', e1⟩ := sg_signs l f h names found N (some (.imm (.str y))) y (S := beginP ps N) c begin_in hbl
  obtain ⟨g1, g2⟩ := spot_fold h y (S := beginP ps N) begin_in hbl
  refine ⟨some (.imm (.tup (spsD (y.foldl (stepP ps) (beginP ps N))))), c', ?_⟩
  unfold p2_Line_stages
  refine seq_nx (ρ' := sgE l f ps names found N (some (.imm (.str y)), some (.imm (.tup (spsD (beginP ps N)))), c)) (fAsg_of (fMeth_of (gs := [("lets", .bl l), ("pieces", .lst (ps.map daR)), ("folders", .bl f)]) (fName_of rfl) rfl (fC1_of (fName_of rfl)) (begin_eq l f ps (by omega)).1)) ?_
  refine seq_nx (fFor_of (ds := y.map fun x => Da.str [x]) (fIt_of (fName_of rfl) rfl) e1) ?_
  refine seq_nx (ρ' := sgE l f ps names found (nextP ps N y) (some (.imm (.str y)), some (.imm (.tup (spsD (y.foldl (stepP ps) (beginP ps N))))), c')) (fAsg_of (fMeth_of (gs := [("lets", .bl l), ("pieces", .lst (ps.map daR)), ("folders", .bl f)]) (fName_of rfl) rfl (fC1_of (fName_of rfl)) (leave_eq l f hp g1 (by omega)))) ?_
  have := fExpr_of (fApp_of (i := 2) (f := fName 3) (ρ := sgE l f ps names found (nextP ps N y) (some (.imm (.str y)), some (.imm (.tup (spsD (y.foldl (stepP ps) (beginP ps N))))), c')) rfl (fName_of rfl) rfl (by rw [numsD_len]; exact hf))
  rw [this, show numsD found ++ [Da.lst (natsD (nextP ps N y))] = numsD (found ++ [nextP ps N y]) from (numsD_app found [_]).symm]
  rfl
theorem sg_loop (l f : Bool) {ps : List LP} (h : Small ps) (names : List (List Nat)) : ∀ (ys found : List (List Nat)) {N : List Nat} (k : Option Ce × Option Ce × Option Ce), N.length ≤ 15 → found.length + ys.length < 16777216 →
    ∃ N' k', forL (stN 4) p2_Line_stages (ys.map .str) (sgE l f ps names found N k) = .ok .nx (sgE l f ps names (found ++ stGo ps ys N) N' k')
  | [], found, N, k, _, _ => ⟨N, k, by rw [stGo, List.append_nil]; rfl⟩
  | y :: ys, found, N, k, hN, hf => by
    rw [List.length_cons] at hf
    obtain ⟨b', c', eb⟩ := sg_body l f h names found y k.2.1 k.2.2 hN (by omega)
    have hn := next_len ps N y
    have hfew := h.few
    obtain ⟨N', k', e⟩ := sg_loop l f h names ys (found ++ [nextP ps N y]) (N := nextP ps N y) (some (.imm (.str y)), b', c') (by omega) (by rw [List.length_append, List.length_singleton]; omega)
    refine ⟨N', k', ?_⟩
    rw [List.map_cons, forL_cons (ρ1 := sgE l f ps names found N (some (.imm (.str y)), k.2.1, k.2.2)) rfl eb, e, List.append_assoc]
    rfl
theorem fPar2_of {i j : Nat} {f : EM (List Ce)} {ρ ρ' : Env} {c d : Ce} (h : f ρ = .ok [c, d] ρ') : fPar2 i j f ρ = .ok .nx ((ρ'.set i (some c)).set j (some d)) := by
  simp only [fPar2, mB, h]
theorem fCn_of {f : EM (List Da)} {g : EM (List Ce)} {ρ ρ1 ρ2 : Env} {ds : List Da} {cs : List Ce} (h : f ρ = .ok ds ρ1) (h2 : g ρ1 = .ok cs ρ2) : fCn f g ρ = .ok (.lst ds :: cs) ρ2 := by
  simp only [fCn, mB, h, h2, mP]
theorem fCv_of {f : EM Da} {g : EM (List Ce)} {ρ ρ1 ρ2 : Env} {d : Da} {cs : List Ce} (h : f ρ = .ok d ρ1) (h2 : g ρ1 = .ok cs ρ2) : fCv f g ρ = .ok (.imm d :: cs) ρ2 := by
  simp only [fCv, mB, h, h2, mP]
theorem stages_eq (l f : Bool) {ps : List LP} (h : Small ps) {names : List (List Nat)} (hl : names.length ≤ 1000) : f_Line_stages [lnD l ps f, .lst (names.map .str)] = .ok (.lst (numsD (stagesP ps names))) := by
  have hp : ps.length ≤ 1000 := by have := h.few; omega
  show resOf (b_Line_stages [some (.imm (lnD l ps f)), some (.imm (.lst (names.map .str))), none, none, none, none, none]) = _
  have hc := closed_len ps [0]
  have hfew := h.few
  obtain ⟨N', k', e⟩ := sg_loop l f h names names [] (N := closedP ps [0]) (none, none, none) (by omega) (by simp; omega)
  rw [List.nil_append] at e
  refine run_rt (ρ' := (sgE l f ps names (stagesP ps names) N' k').set 2 (some (.imm (.lst (numsD (stagesP ps names)))))) ?_
  unfold b_Line_stages
  refine seq_nx (ρ' := sgE l f ps names [] (closedP ps [0]) (none, none, none)) (fPar2_of (fCn_of (fLst_of fP_of (by decide)) (fCv_of (fMeth_of (gs := [("lets", .bl l), ("pieces", .lst (ps.map daR)), ("folders", .bl f)]) (fName_of rfl) rfl (fC1_of (fN_of (fLst_of (fC1_of fP_of) (by decide)))) (closed_eq l f [0] hp)) fP_of))) ?_
  refine seq_nx (ρ' := sgE l f ps names (stagesP ps names) N' k') (fFor_of (fIt_of (fName_of rfl) rfl) e) ?_
  exact fRet_of rfl
/-! what the stages mean -/
theorem spots_run {ps : List LP} (h : Small ps) {A : Nat → Prop} (y : List Nat) : ∀ (r : Nat) {S : List Sp}, r ≤ y.length → SpotsOk ps A y (y.length - r) S → SpotsOk ps A y y.length ((y.drop (y.length - r)).foldl (stepP ps) S)
  | 0, S, _, hS => by
    rw [Nat.sub_zero] at hS ⊢
    rw [List.drop_length]
    exact hS
  | r + 1, S, hr, hS => by
    have hp : ps.length ≤ 1000 := by have := h.few; omega
    have hlt : y.length - (r + 1) < y.length := by omega
    rw [List.drop_eq_getElem_cons hlt, List.foldl_cons]
    have e : y.length - (r + 1) + 1 = y.length - r := by omega
    rw [e]
    refine spots_run h y r (by omega) ?_
    have := step_ok h.ok.2.1 hp h.len (List.getElem?_eq_getElem hlt) hS
    rw [e] at this
    exact this
theorem next_ok {ps : List LP} (h : Small ps) {names : List (List Nat)} {t : Nat} {y : List Nat} (hy : names[t]? = some y) {N : List Nat} (hN : NumsOk ps names t N) : NumsOk ps names (t + 1) (nextP ps N y) := by
  have h0 := begin_ok h.ok.2.1 (A := actL ps names t) hN y
  have := spots_run h y y.length (Nat.le_refl _) (S := beginP ps N) (by rw [Nat.sub_self]; exact h0)
  rw [Nat.sub_self, List.drop_zero] at this
  exact leave_ok h.ok.2.1 h.ok.2.2.1 hy this
theorem stGo_ok {ps : List LP} (h : Small ps) (names : List (List Nat)) : ∀ (ys : List (List Nat)) (t : Nat) {N : List Nat}, names.drop t = ys → NumsOk ps names t N → ∀ j M, (stGo ps ys N)[j]? = some M → NumsOk ps names (t + j + 1) M
  | [], t, N, _, _, j, M, e => by simp [stGo] at e
  | y :: ys, t, N, hd, hN, j, M, e => by
    have hy : names[t]? = some y := by
      have : (names.drop t)[0]? = some y := by rw [hd]; rfl
      rwa [List.getElem?_drop, Nat.add_zero] at this
    have hn := next_ok h hy hN
    cases j with
    | zero =>
      rw [stGo] at e
      simp at e
      rw [← e]
      exact hn
    | succ j =>
      rw [stGo] at e
      have hd2 : names.drop (t + 1) = ys := by
        have : (names.drop t).drop 1 = ys := by rw [hd]; rfl
        rwa [List.drop_drop] at this
      have := stGo_ok h names ys (t + 1) hd2 hn j M (by simpa using e)
      rw [show t + (j + 1) + 1 = t + 1 + j + 1 by omega]
      exact this
theorem stages_ok {ps : List LP} (h : Small ps) (names : List (List Nat)) {j : Nat} {M : List Nat} (e : (stagesP ps names)[j]? = some M) : NumsOk ps names (j + 1) M := by
  have := stGo_ok h names names 0 rfl (start_ok h.ok.2.2.1 names) j M e
  rwa [Nat.zero_add] at this
theorem stGo_len (ps : List LP) : ∀ (ys : List (List Nat)) (N : List Nat), (stGo ps ys N).length = ys.length
  | [], _ => rfl
  | y :: ys, N => by rw [stGo, List.length_cons, List.length_cons, stGo_len ps ys]
theorem stages_len (ps : List LP) (names : List (List Nat)) : (stagesP ps names).length = names.length := stGo_len ps names _
theorem eM_take {M S : Type} (star : M → Bool) (fit : M → S → Bool) (ms : List M) (xs : List S) {J : Nat} : ∀ (k j : Nat), j ≤ J → (eM star fit ms (xs.take J) k j ↔ eM star fit ms xs k j)
  | 0, j, _ => Iff.rfl
  | k + 1, j, hj => by
    constructor
    · rintro ⟨m, hm, (⟨hs, i, hi, he⟩ | ⟨hs, i, x, rfl, hx, he, hf⟩)⟩
      · exact ⟨m, hm, .inl ⟨hs, i, hi, (eM_take star fit ms xs k i (by omega)).mp he⟩⟩
      · rw [List.getElem?_take] at hx
        split at hx
        · exact ⟨m, hm, .inr ⟨hs, i, x, rfl, hx, (eM_take star fit ms xs k i (by omega)).mp he, hf⟩⟩
        · cases hx
    · rintro ⟨m, hm, (⟨hs, i, hi, he⟩ | ⟨hs, i, x, rfl, hx, he, hf⟩)⟩
      · exact ⟨m, hm, .inl ⟨hs, i, hi, (eM_take star fit ms xs k i (by omega)).mpr he⟩⟩
      · exact ⟨m, hm, .inr ⟨hs, i, x, rfl, by rw [List.getElem?_take, if_pos (by omega)]; exact hx, (eM_take star fit ms xs k i (by omega)).mpr he, hf⟩⟩
/-- a head is fitted just if the numbers behind it hold the end -/
theorem full_path {ps : List LP} (h : Small ps) (names : List (List Nat)) {j : Nat} {M : List Nat} (e : (stagesP ps names)[j]? = some M) : ps.length ∈ M ↔ pathB ps (names.take (j + 1)) = true := by
  have hj : j < names.length := by
    have := (List.getElem?_eq_some_iff.mp e).1
    rwa [stages_len] at this
  have hl : (names.take (j + 1)).length = j + 1 := by rw [List.length_take]; omega
  rw [stages_ok h names e]
  show actM isMany fitL ps names (j + 1) ps.length ↔ _
  unfold pathB
  rw [act_full, full_iff, hl, eM_take isMany fitL ps names ps.length (j + 1) (Nat.le_refl _)]
end Kb
namespace Kb
open Vl
open L2 (ixN atI)
/-! is_name, names_of, deciding, fits -/
def OkName (y : List Nat) : Prop := y ≠ [] ∧ ∀ c ∈ y, c ∈ sg
theorem fAndV_t {f g : EM Da} {ρ ρ' : Env} {o : Out Da} (h : f ρ = .ok (.bl true) ρ') (h2 : g ρ' = o) : fAndV f g ρ = o := by
  simp only [fAndV, mB, h, asBl, h2]
theorem blsM : ∀ l : List Bool, blsD (l.map .bl) = some l
  | [] => rfl
  | b :: l => by
    show (match blsD (l.map Da.bl) with | some l => some (b :: l) | none => none) = _
    rw [blsM l]
theorem is_name_eq {y : List Nat} (h : OkName y) (hl : y.length ≤ 1000) : f_is_name [.str y] = .ok (.bl true) := by
  show resOf (b_is_name [some (.imm (.str y)), none]) = _
  refine run_rt (ρ' := [some (.imm (.str y)), none]) ?_
  unfold b_is_name
  refine fRet_of ?_
  refine fAndV_t (fCall_of (fC2_of (fPeek_of rfl) (fD_of fP_of)) rfl rfl) ?_
  refine fAndV_t (fBin_of (fPeek_of rfl) (fD_of fP_of) rfl rfl (by rw [vNe_str]; simp [h.1])) ?_
  have hc := fComp_of (vs := [1]) (st := stN 1) (t := mP true) (e := p1_is_name) (ρ := [some (.imm (.str y)), none]) (fi := fIt itemsS (fName 0)) (ds := y.map fun c => Da.str [c]) (fIt_of (fName_of rfl) rfl)
    (compL_all (g := fun c : Nat => Da.str [c]) (y := fun _ : Nat => Da.bl true) y _ (ρw := [some (.imm (.str y)), none]) rfl (fun c hc => ⟨_, rfl, fBin_of (fPeek_of rfl) (fD_of fP_of) rfl rfl (by rw [vIn_one]; have : c ∈ c_SIGNS := h.2 c hc; simp [this]), rfl⟩) (by omega))
  refine fCall1_of (fN_of hc) ?_
  have e : y.map (fun _ : Nat => Da.bl true) = (y.map fun _ => true).map Da.bl := by rw [List.map_map]; rfl
  show (blsD (y.map fun _ : Nat => Da.bl true)).map (fun l => Da.bl (l.all id)) = _
  rw [e, blsM]
  simp
structure OkPath (names : List (List Nat)) : Prop where
  ne : names ≠ []
  ok : ∀ y ∈ names, OkName y
  len : (joinN [47] names).length ≤ 400
theorem joinN_L47 (ls : List (List Nat)) : joinN [47] ls = TL.joinL [47] ls := by
  induction ls with
  | nil => rfl
  | cons p ls ih =>
    cases ls with
    | nil => rfl
    | cons q r => rw [joinN, ih]; rfl
theorem join_name_len {names : List (List Nat)} : ∀ y ∈ names, y.length ≤ (joinN [47] names).length := by
  induction names with
  | nil => simp
  | cons p ls ih =>
    intro y hy
    cases ls with
    | nil =>
      rw [List.mem_singleton.mp hy]
      exact Nat.le_refl _
    | cons q r =>
      rw [joinN, List.length_append, List.length_append]
      rcases List.mem_cons.mp hy with rfl | hy
      · omega
      · have := ih y hy
        omega
theorem join_names_len {names : List (List Nat)} : names.length ≤ (joinN [47] names).length + 1 := by
  induction names with
  | nil => simp
  | cons p ls ih =>
    cases ls with
    | nil => simp [joinN]
    | cons q r =>
      rw [joinN, List.length_append, List.length_append, List.length_cons]
      simp only [List.length_singleton]
      omega
theorem split_names {names : List (List Nat)} (h : OkPath names) : TL.spl [47] 0 [] (joinN [47] names) = names := by
  rw [joinN_L47]
  exact TL.spl_join h.ne fun y hy hc => absurd ((h.ok y hy).2 47 hc) (by decide)
theorem names_of_eq {names : List (List Nat)} (h : OkPath names) : f_names_of [.str (joinN [47] names)] = .ok (.lst (names.map .str)) := by
  have hlen := h.len
  have hnl := join_names_len (names := names)
  show resOf (b_names_of [some (.imm (.str (joinN [47] names))), none, none]) = _
  refine run_rt (ρ' := [some (.imm (.str (joinN [47] names))), some (.imm (.lst (names.map .str))), none]) ?_
  unfold b_names_of
  refine seq_if (ρ' := [some (.imm (.str (joinN [47] names))), none, none]) (fOr_ff (fNot_of (b := true) (fTru_of (d := .bl true) (fD_of (fCall_of (fC2_of (fPeek_of rfl) (fD_of fP_of)) rfl rfl)) rfl rfl)) ?_) ?_
  · refine fBinT_of (a := .int (joinN [47] names).length) (b := .int 400) (fD_of (fCall_of (fC1_of (fPeek_of rfl)) rfl ?_)) (fD_of fP_of) rfl rfl ?_
    · show (if (joinN [47] names).length ≤ 16777216 then some (Da.int (joinN [47] names).length) else none) = _
      rw [if_pos (by omega)]
    · show some (Da.bl (decide (((joinN [47] names).length : Int) > 400))) = _
      have : ¬ ((joinN [47] names).length : Int) > 400 := by omega
      rw [decide_eq_false this]
  refine seq_nx (ρ' := [some (.imm (.str (joinN [47] names))), some (.imm (.lst (names.map .str))), none]) ?_ ?_
  · have e : sSplit (joinN [47] names) [.str [47]] = some (names.map .str) := by
      show (if [47] ≠ [] ∧ ([47] : List Nat).all (· < 256) = true ∧ (joinN [47] names).length ≤ 16777000 then some ((TL.spl [47] 0 [] (joinN [47] names)).map Da.str) else none) = _
      rw [if_pos ⟨by simp, by decide, by omega⟩, split_names h]
    have : fMn sSplit (fName 0) (fCons (fD (mP (.str [47]))) (mP [])) [some (.imm (.str (joinN [47] names))), none, none] = .ok (names.map .str) [some (.imm (.str (joinN [47] names))), none, none] := by
      simp only [fMn, mB, fName_of (i := 0) (ρ := [some (.imm (.str (joinN [47] names))), none, none]) rfl, fC1_of (fD_of fP_of), lookA, look, e, mO]
    exact fAsg_of (fN_of this)
  · refine seq_if (ρ' := [some (.imm (.str (joinN [47] names))), some (.imm (.lst (names.map .str))), none]) (fNot_of (b := true) (fTru_of (d := .bl true) (fD_of (fCall1_of (fN_of (fComp_of (fIt_of (fName_of rfl) rfl) (compL_all (g := Da.str) (y := fun _ => Da.bl true) names _ (ρw := [some (.imm (.str (joinN [47] names))), some (.imm (.lst (names.map .str))), none]) rfl (fun y hy => ⟨_, rfl, fDef_of (fC1_of (fName_of rfl)) (is_name_eq (h.ok y hy) (by have := join_name_len y hy; omega)), rfl⟩) (by omega)))) ?_)) rfl rfl)) (fRet_of (fName_of rfl))
    have e : names.map (fun _ => Da.bl true) = (names.map fun _ => true).map Da.bl := by rw [List.map_map]; rfl
    show (blsD (names.map fun _ => Da.bl true)).map (fun l => Da.bl (l.all id)) = _
    rw [e, blsM]
    simp
/-! deciding -/
abbrev Ln := Bool × List LP × Bool
def lnO (x : Ln) : Da := lnD x.1 x.2.1 x.2.2
def optD : Option Nat → Da
  | none => .non
  | some k => .int (k : Int)
def decC (ps : List LP) (f folder : Bool) (len at_ : Nat) (N : List Nat) : Bool := decide (ps.length ∈ N) && (folder || (decide (at_ + 1 < len) || !f))
def decGo (ps : List LP) (f folder : Bool) (len number : Nat) : Nat → List (List Nat) → List (Option Nat) → List (Option Nat)
  | _, [], acc => acc
  | at_, N :: Ns, acc => decGo ps f folder len number (at_ + 1) Ns (if decC ps f folder len at_ N = true then acc.set at_ (some number) else acc)
def decLs (names : List (List Nat)) (folder : Bool) : Nat → List Ln → List (Option Nat) → List (Option Nat)
  | _, [], acc => acc
  | number, x :: xs, acc => decLs names folder (number + 1) xs (decGo x.2.1 x.2.2 folder names.length number 0 (stagesP x.2.1 names) acc)
abbrev dcE (lines : List Ln) (names : List (List Nat)) (folder : Bool) (acc : List (Option Nat)) (k : Option Ce × Option Ce × Option Ce × Option Ce) : Env := [some (.imm (.lst (lines.map lnO))), some (.imm (.lst (names.map .str))), some (.imm (.bl folder)), some (.lst (acc.map optD)), k.1, k.2.1, k.2.2.1, k.2.2.2]
theorem fLput_of {i j : Nat} {fk fv : EM Da} {ρ ρ1 ρ2 : Env} {d : Da} {k : Int} {xs ds : List Da} (h1 : fv ρ = .ok d ρ1) (h0 : ρ1[i]? = some (some (.lst xs))) (h2 : fk ρ1 = .ok (.int k) ρ2) (h3 : ρ2[i]? = some (some (.lst ds))) (hj : ixN ds.length k = some j) : fLput i fk fv ρ = .ok .nx (ρ2.set i (some (.lst (ds.set j d)))) := by
  simp only [fLput, mB, h1, h0, h2, h3, hj]
theorem fld_folders {i : Nat} {ρ : Env} {l f : Bool} {ps : List LP} (h : ρ[i]? = some (some (.imm (lnD l ps f)))) : fFld "Line" "folders" (fName i) ρ = .ok (.bl f) ρ := by
  unfold fFld
  simp only [mB, fName_of h]
  rfl
theorem dc_body (lines : List Ln) (names : List (List Nat)) (folder : Bool) {acc : List (Option Nat)} (l f : Bool) (ps : List LP) (number : Nat) {at_ : Nat} (N : List Nat) (ha : acc.length = names.length) (hat : at_ < names.length) :
    p1_deciding (dcE lines names folder acc (some (.imm (.int (number : Int))), some (.imm (lnD l ps f)), some (.imm (.int (at_ : Int))), some (.imm (.lst (natsD N))))) = .ok .nx (dcE lines names folder (if decC ps f folder names.length at_ N = true then acc.set at_ (some number) else acc) (some (.imm (.int (number : Int))), some (.imm (lnD l ps f)), some (.imm (.int (at_ : Int))), some (.imm (.lst (natsD N))))) := by
  let R : Env := dcE lines names folder acc (some (.imm (.int (number : Int))), some (.imm (lnD l ps f)), some (.imm (.int (at_ : Int))), some (.imm (.lst (natsD N))))
  have c1 : (fTru (fD (fMeth "Line" "full" f_Line_full [] (fName 5) (fCons (fName 7) (mP []))))) R = .ok (decide (ps.length ∈ N)) R :=
    fTru_of (d := .bl (decide (ps.length ∈ N))) (fD_of (fMeth_of (gs := [("lets", .bl l), ("pieces", .lst (ps.map daR)), ("folders", .bl f)]) (fName_of rfl) rfl (fC1_of (fName_of rfl)) (full_eq l f N))) rfl rfl
  have c2 : fTru (fPeek 2) R = .ok folder R := fTru_of (d := .bl folder) (fPeek_of rfl) rfl rfl
  have c3 : fBinT vLt (fD (fBin vAdd (fPeek 6) (fD (mP (.int 1))))) (fD (fCall vLen (fCons (fPeek 1) (mP [])))) R = .ok (decide (at_ + 1 < names.length)) R := by
    refine fBinT_of (a := .int ((at_ : Int) + 1)) (b := .int names.length) (fD_of (fBin_of (fPeek_of rfl) (fD_of fP_of) rfl rfl rfl)) (fD_of (fCall_of (fC1_of (fPeek_of rfl)) rfl (show some (Da.int ((names.map Da.str).length : Int)) = some (Da.int names.length) by rw [List.length_map]))) rfl rfl ?_
    show some (Da.bl (decide ((at_ : Int) + 1 < names.length))) = _
    congr 2
    rw [Bool.eq_iff_iff, decide_eq_true_eq, decide_eq_true_eq]
    omega
  have c4 : fNot (fTru (fD (fFld "Line" "folders" (fName 5)))) R = .ok (!f) R := fNot_of (fTru_of (d := .bl f) (fD_of (fld_folders rfl)) rfl rfl)
  have cc : (fAnd (fTru (fD (fMeth "Line" "full" f_Line_full [] (fName 5) (fCons (fName 7) (mP []))))) (fOr (fTru (fPeek 2)) (fOr (fBinT vLt (fD (fBin vAdd (fPeek 6) (fD (mP (.int 1))))) (fD (fCall vLen (fCons (fPeek 1) (mP []))))) (fNot (fTru (fD (fFld "Line" "folders" (fName 5)))))))) R = .ok (decC ps f folder names.length at_ N) R := by
    unfold decC
    cases h1 : decide (ps.length ∈ N) with
    | false => rw [h1] at c1; exact fAnd_f c1
    | true =>
      rw [h1] at c1
      rw [Bool.true_and]
      refine fAnd_tt c1 ?_
      cases folder with
      | true => exact fOr_t c2
      | false =>
        rw [Bool.false_or]
        refine fOr_ff c2 ?_
        cases h3 : decide (at_ + 1 < names.length) with
        | true => rw [h3] at c3; exact fOr_t c3
        | false =>
          rw [h3] at c3
          rw [Bool.false_or]
          exact fOr_ff c3 c4
  unfold p1_deciding
  cases h : decC ps f folder names.length at_ N with
  | false =>
    rw [h] at cc
    exact if_f cc rfl
  | true =>
    rw [h] at cc
    refine if_t cc ?_
    have := fLput_of (i := 3) (j := at_) (fk := fName 6) (fv := fName 4) (ρ := R) (k := (at_ : Int)) (fName_of rfl) rfl (fName_of rfl) rfl (by
      rw [ixN_nat (Int.natCast_nonneg _) (by rw [List.length_map]; omega)]
      simp)
    rw [this]
    simp only [if_true]
    have e : (acc.map optD).set at_ (.int (number : Int)) = (acc.set at_ (some number)).map optD := by
      rw [List.map_set]
      rfl
    rw [e]
    rfl
theorem dc_in (lines : List Ln) (names : List (List Nat)) (folder : Bool) (l f : Bool) (ps : List LP) (number : Nat) : ∀ (Ns : List (List Nat)) (at_ : Nat) {acc : List (Option Nat)} (a b : Option Ce), acc.length = names.length → at_ + Ns.length ≤ names.length →
    ∃ a' b', forL (stTup 2 (stCons (stN 6) (stCons (stN 7) stNil))) p1_deciding (enumD at_ (numsD Ns)) (dcE lines names folder acc (some (.imm (.int (number : Int))), some (.imm (lnD l ps f)), a, b)) = .ok .nx (dcE lines names folder (decGo ps f folder names.length number at_ Ns acc) (some (.imm (.int (number : Int))), some (.imm (lnD l ps f)), a', b'))
  | [], at_, acc, a, b, _, _ => ⟨a, b, rfl⟩
  | N :: Ns, at_, acc, a, b, ha, hat => by
    rw [List.length_cons] at hat
    have eb := dc_body lines names folder (acc := acc) l f ps number (at_ := at_) N ha (by omega)
    obtain ⟨a', b', e⟩ := dc_in lines names folder l f ps number Ns (at_ + 1) (acc := if decC ps f folder names.length at_ N = true then acc.set at_ (some number) else acc) (some (.imm (.int (at_ : Int)))) (some (.imm (.lst (natsD N)))) (by split <;> simp [ha]) (by omega)
    refine ⟨a', b', ?_⟩
    show forL _ p1_deciding (.tup [.int (at_ : Int), .lst (natsD N)] :: enumD (at_ + 1) (numsD Ns)) _ = _
    rw [forL_cons (ρ1 := dcE lines names folder acc (some (.imm (.int (number : Int))), some (.imm (lnD l ps f)), some (.imm (.int (at_ : Int))), some (.imm (.lst (natsD N))))) rfl eb]
    exact e
theorem decGo_len (ps : List LP) (f folder : Bool) (len number : Nat) : ∀ (Ns : List (List Nat)) (at_ : Nat) (acc : List (Option Nat)), (decGo ps f folder len number at_ Ns acc).length = acc.length
  | [], _, _ => rfl
  | N :: Ns, at_, acc => by
    rw [decGo, decGo_len ps f folder len number Ns]
    split <;> simp
theorem dc_out (lines : List Ln) {names : List (List Nat)} (folder : Bool) (hn : names.length ≤ 1000) : ∀ (xs : List Ln) (number : Nat) {acc : List (Option Nat)} (k : Option Ce × Option Ce × Option Ce × Option Ce), (∀ x ∈ xs, Small x.2.1) → acc.length = names.length →
    ∃ k', forL (stTup 2 (stCons (stN 4) (stCons (stN 5) stNil))) p2_deciding (enumD number (xs.map lnO)) (dcE lines names folder acc k) = .ok .nx (dcE lines names folder (decLs names folder number xs acc) k')
  | [], number, acc, k, _, _ => ⟨k, rfl⟩
  | x :: xs, number, acc, k, hx, ha => by
    obtain ⟨a', b', e1⟩ := dc_in lines names folder x.1 x.2.2 x.2.1 number (stagesP x.2.1 names) 0 (acc := acc) k.2.2.1 k.2.2.2 ha (by rw [stages_len]; omega)
    have eb : p2_deciding (dcE lines names folder acc (some (.imm (.int (number : Int))), some (.imm (lnO x)), k.2.2.1, k.2.2.2)) = .ok .nx (dcE lines names folder (decGo x.2.1 x.2.2 folder names.length number 0 (stagesP x.2.1 names) acc) (some (.imm (.int (number : Int))), some (.imm (lnO x)), a', b')) := by
      unfold p2_deciding
      exact fFor_of (fItA_of (fC1_of (fMeth_of (gs := [("lets", .bl x.1), ("pieces", .lst (x.2.1.map daR)), ("folders", .bl x.2.2)]) (fName_of rfl) rfl (fC1_of (fName_of rfl)) (stages_eq x.1 x.2.2 (hx x (by simp)) hn))) rfl) e1
    obtain ⟨k', e⟩ := dc_out lines folder hn xs (number + 1) (acc := decGo x.2.1 x.2.2 folder names.length number 0 (stagesP x.2.1 names) acc) (some (.imm (.int (number : Int))), some (.imm (lnO x)), a', b') (fun y hy => hx y (by simp [hy])) (by rw [decGo_len]; exact ha)
    refine ⟨k', ?_⟩
    show forL _ p2_deciding (.tup [.int (number : Int), lnO x] :: enumD (number + 1) (xs.map lnO)) _ = _
    rw [forL_cons (ρ1 := dcE lines names folder acc (some (.imm (.int (number : Int))), some (.imm (lnO x)), k.2.2.1, k.2.2.2)) rfl eb]
    exact e
theorem fBinN_of {r : Da → Da → Option (List Da)} {fa fb : EM Pk} {ρ ρ1 ρ2 : Env} {p q : Pk} {a b : Da} {d : List Da} (h1 : fa ρ = .ok p ρ1) (h2 : fb ρ1 = .ok q ρ2) (l1 : look ρ2 p = some a) (l2 : look ρ2 q = some b) (hr : r a b = some d) : fBinN r fa fb ρ = .ok d ρ2 := by
  simp only [fBinN, mB, h1, h2, l1, l2, hr, mO]
theorem rep_none (n : Nat) : (List.replicate n [Da.non]).flatten = (List.replicate n none).map optD := by
  induction n with
  | zero => rfl
  | succ n ih =>
    rw [List.replicate_succ, List.flatten_cons, ih, List.replicate_succ]
    rfl
theorem mul_none {n : Nat} (hn : n ≤ 1000) : vMulL (.lst [.non]) (.int n) = some ((List.replicate n none).map optD) := by
  have h1 : ((n : Int) < 4294967296 ∧ -4294967296 < (n : Int) ∧ ([Da.non] : List Da).length * (n : Int).toNat ≤ 16777216) := ⟨by omega, by omega, by simp; omega⟩
  unfold vMulL
  simp only
  rw [if_pos h1, Int.toNat_natCast, rep_none]
def decP (lines : List Ln) (names : List (List Nat)) (folder : Bool) : List (Option Nat) := decLs names folder 0 lines (List.replicate names.length none)
theorem deciding_eq {lines : List Ln} {names : List (List Nat)} (folder : Bool) (hn : names.length ≤ 1000) (hx : ∀ x ∈ lines, Small x.2.1) : f_deciding [.lst (lines.map lnO), .lst (names.map .str), .bl folder] = .ok (.lst ((decP lines names folder).map optD)) := by
  show resOf (b_deciding [some (.imm (.lst (lines.map lnO))), some (.imm (.lst (names.map .str))), some (.imm (.bl folder)), none, none, none, none, none]) = _
  obtain ⟨k', e⟩ := dc_out lines folder hn lines 0 (acc := List.replicate names.length none) (none, none, none, none) hx (by simp)
  refine run_rt (ρ' := (dcE lines names folder (decP lines names folder) k').set 3 (some (.imm (.lst ((decP lines names folder).map optD))))) ?_
  unfold b_deciding
  refine seq_nx (ρ' := dcE lines names folder (List.replicate names.length none) (none, none, none, none)) ?_ ?_
  · have el : fCall vLen (fCons (fPeek 1) (mP [])) [some (.imm (.lst (lines.map lnO))), some (.imm (.lst (names.map .str))), some (.imm (.bl folder)), none, none, none, none, none] = .ok (.int names.length) [some (.imm (.lst (lines.map lnO))), some (.imm (.lst (names.map .str))), some (.imm (.bl folder)), none, none, none, none, none] :=
      fCall_of (fC1_of (fPeek_of rfl)) rfl (show some (Da.int ((names.map Da.str).length : Int)) = some (Da.int names.length) by rw [List.length_map])
    have em := mul_none hn
    exact fAsgN_of (fBinN_of (fD_of (fN_of (fLst_of (fC1_of fP_of) (by decide)))) (fD_of el) rfl rfl em)
  refine seq_nx (ρ' := dcE lines names folder (decP lines names folder) k') (fFor_of (fItA_of (fC1_of (fName_of rfl)) rfl) e) ?_
  exact fRet_of rfl
end Kb
namespace Kb
open Vl
open L2 (ixN atI)
/-! what deciding tells; fits -/
def headB (x : Ln) (names : List (List Nat)) (folder : Bool) (j : Nat) : Bool := pathB x.2.1 (names.take (j + 1)) && (folder || (decide (j + 1 < names.length) || !x.2.2))
theorem decGo_at (ps : List LP) (f folder : Bool) (len number : Nat) : ∀ (Ns : List (List Nat)) (a : Nat) (acc : List (Option Nat)) (j : Nat), j < acc.length →
    (decGo ps f folder len number a Ns acc)[j]? = if a ≤ j ∧ ∃ N, Ns[j - a]? = some N ∧ decC ps f folder len j N = true then some (some number) else acc[j]?
  | [], a, acc, j, hj => by
    rw [decGo, if_neg]
    rintro ⟨_, N, h, _⟩
    simp at h
  | N :: Ns, a, acc, j, hj => by
    rw [decGo, decGo_at ps f folder len number Ns (a + 1) _ j (by split <;> simp [hj])]
    by_cases h0 : a = j
    · subst h0
      have n1 : ¬ (a + 1 ≤ a ∧ ∃ N, Ns[a - (a + 1)]? = some N ∧ decC ps f folder len a N = true) := fun z => by omega
      rw [if_neg n1]
      by_cases h1 : decC ps f folder len a N = true
      · rw [if_pos h1, if_pos ⟨Nat.le_refl _, N, by simp, h1⟩, List.getElem?_set_self hj]
      · rw [if_neg h1, if_neg]
        rintro ⟨_, N', h2, h3⟩
        simp at h2
        subst h2
        exact h1 h3
    · have e1 : (if decC ps f folder len a N = true then acc.set a (some number) else acc)[j]? = acc[j]? := by
        split
        · rw [List.getElem?_set_ne h0]
        · rfl
      rw [e1]
      by_cases h1 : a ≤ j
      · have e2 : j - a = (j - (a + 1)) + 1 := by omega
        have e3 : (N :: Ns)[j - a]? = Ns[j - (a + 1)]? := by rw [e2, List.getElem?_cons_succ]
        rw [e3]
        have : (a + 1 ≤ j ↔ a ≤ j) := by omega
        simp only [this]
      · rw [if_neg (fun z => by omega), if_neg (fun z => h1 z.1)]
def lastGo (names : List (List Nat)) (folder : Bool) (j : Nat) : Nat → List Ln → Option Nat → Option Nat
  | _, [], acc => acc
  | k, x :: xs, acc => lastGo names folder j (k + 1) xs (if headB x names folder j = true then some k else acc)
theorem decLs_at {names : List (List Nat)} (folder : Bool) {j : Nat} (hj : j < names.length) : ∀ (xs : List Ln) (k : Nat) (acc : List (Option Nat)) (o : Option Nat), (∀ x ∈ xs, Small x.2.1) → acc.length = names.length → acc[j]? = some o → (decLs names folder k xs acc)[j]? = some (lastGo names folder j k xs o)
  | [], k, acc, o, _, _, h => h
  | x :: xs, k, acc, o, hx, ha, h => by
    rw [decLs, lastGo]
    refine decLs_at folder hj xs (k + 1) _ _ (fun y hy => hx y (by simp [hy])) (by rw [decGo_len]; exact ha) ?_
    rw [decGo_at _ _ _ _ _ _ _ _ _ (by rw [ha]; exact hj), Nat.sub_zero]
    have hl : j < (stagesP x.2.1 names).length := by rw [stages_len]; exact hj
    have hN := List.getElem?_eq_getElem hl
    have hf := full_path (hx x (by simp)) names hN
    have key : (0 ≤ j ∧ ∃ N, (stagesP x.2.1 names)[j]? = some N ∧ decC x.2.1 x.2.2 folder names.length j N = true) ↔ headB x names folder j = true := by
      unfold headB
      constructor
      · rintro ⟨_, N, h1, h2⟩
        rw [hN] at h1
        cases h1
        unfold decC at h2
        rw [Bool.and_eq_true, decide_eq_true_eq, hf] at h2
        rw [Bool.and_eq_true]
        exact h2
      · intro h2
        rw [Bool.and_eq_true] at h2
        refine ⟨Nat.zero_le _, _, hN, ?_⟩
        unfold decC
        rw [Bool.and_eq_true, decide_eq_true_eq, hf]
        exact h2
    by_cases hb : headB x names folder j = true
    · rw [if_pos (key.mpr hb), if_pos hb]
    · rw [if_neg (fun z => hb (key.mp z)), if_neg hb]
      exact h
theorem decP_at {lines : List Ln} {names : List (List Nat)} (folder : Bool) {j : Nat} (hj : j < names.length) (hx : ∀ x ∈ lines, Small x.2.1) : (decP lines names folder)[j]? = some (lastGo names folder j 0 lines none) :=
  decLs_at folder hj lines 0 _ none hx (by simp) (by rw [List.getElem?_replicate, if_pos hj])
theorem decP_len (lines : List Ln) (names : List (List Nat)) (folder : Bool) : (decP lines names folder).length = names.length := by
  have key : ∀ (xs : List Ln) (k : Nat) (acc : List (Option Nat)), (decLs names folder k xs acc).length = acc.length := by
    intro xs
    induction xs with
    | nil => intros; rfl
    | cons x xs ih =>
      intro k acc
      rw [decLs, ih, decGo_len]
  unfold decP
  rw [key]
  simp
theorem atI_neg1 {α : Type} {xs : List α} {x : α} {n : Nat} (hn : xs.length = n + 1) (h : xs[n]? = some x) : atI xs (-1) = some x := by
  have hne : xs ≠ [] := by intro e; rw [e] at hn; simp at hn
  rw [atI_last xs hne x]
  congr 1
  have e : xs.getLast? = some x := by
    rw [List.getLast?_eq_getElem?, hn]
    exact h
  rw [List.getLastD_eq_getLast?, e]
  rfl
end Kb
namespace Kb
open Vl
open L2 (ixN atI)
/-! the law's own parting -/
def bodyG (p : Da → Bool) (F : List Da → Res) : EM Fl := (fIf (fOr (fBinT (vIs false) (fPeek 4) (fD (mP .non))) (fBinT (vEq false) (fPeek 4) (fD (mP (.str [42])))))
  (fExpr (fApp 5 (fCall vAny (fCons (fD (fN (fSl vSlL (fPeek 3) (mP none) (fInt (fBin vAdd (fPeek 6) (fD (mP (.int 1)))))))) (mP [])))))
  (fExpr (fApp 5 (fAndV (fBin vGt (fPeek 6) (fD (mP (.int 0)))) (fAndV (fBin vIx (fPeek 3) (fD (fBin vSub (fPeek 6) (fD (mP (.int 1)))))) (fCallV p 2 F (fCons (fName 4) (fCons (fBin vIx (fPeek 0) (fD (fBin vSub (fPeek 6) (fD (mP (.int 1)))))) (mP [])))))))))
def rowsG (p : Da → Bool) (F : List Da → Res) : EM Fl := (fSeq (fAsgN 5 (fLst (mP [])))
  (fSeq (fFor (fItA rng1 (fCons (fBin vAdd (fD (fCall vLen (fCons (fPeek 0) (mP [])))) (fD (mP (.int 1)))) (mP []))) (stN 6)
  (bodyG p F))
  (fAsg 3 (fName 5))))
def partG (p : Da → Bool) (F : List Da → Res) : EM Fl := (fSeq (fAsg 3 (fBin vAdd (fD (fN (fLst (fCons (mP (.bl true)) (mP []))))) (fD (fBin vMul (fD (fN (fLst (fCons (mP (.bl false)) (mP []))))) (fD (fCall vLen (fCons (fPeek 0) (mP []))))))))
  (fSeq (fFor (fIt itemsL (fName 1)) (stN 4)
  (rowsG p F))
  (fRet (fName 3))))
theorem cutD_take {α : Type} (m : List α) (k : Nat) : cutD m none (some (k : Int)) = m.take k := by
  unfold cutD
  rw [HT.sIx_none]
  have : HT.sIx m.length m.length (some (k : Int)) = min k m.length := HT.sIx_nat m.length m.length k
  rw [this, List.drop_zero, Nat.sub_zero]
  by_cases h : k ≤ m.length
  · rw [Nat.min_eq_left h]
  · rw [Nat.min_eq_right (by omega), List.take_length, List.take_of_length_le (by omega)]
theorem fSl_of {α : Type} {r : Da → Option Int → Option Int → Option α} {fa : EM Pk} {fl fh : EM (Option Int)} {ρ ρ1 ρ2 ρ3 : Env} {p : Pk} {lo hi : Option Int} {d : Da} {v : α} (h1 : fa ρ = .ok p ρ1) (h2 : fl ρ1 = .ok lo ρ2) (h3 : fh ρ2 = .ok hi ρ3) (l : look ρ3 p = some d) (hr : r d lo hi = some v) : fSl r fa fl fh ρ = .ok v ρ3 := by
  simp only [fSl, mB, h1, h2, h3, l, hr, mO]
theorem fInt_of {f : EM Da} {ρ ρ' : Env} {i : Int} (h : f ρ = .ok (.int i) ρ') : fInt f ρ = .ok (some i) ρ' := by
  simp only [fInt, mB, h, asInt, Option.map_some, mO]
theorem fAndV_f {f g : EM Da} {ρ ρ' : Env} (h : f ρ = .ok (.bl false) ρ') : fAndV f g ρ = .ok (.bl false) ρ' := by
  simp only [fAndV, mB, h, asBl, mP]
theorem fCallV_of {p : Da → Bool} {i : Nat} {F : List Da → Res} {fa : EM (List Da)} {ρ ρ' : Env} {ds : List Da} {d0 d : Da} (h0 : ρ[i]? = some (some (.imm d0))) (hp : p d0 = true) (h : fa ρ = .ok ds ρ') (hF : F ds = .ok d) : fCallV p i F fa ρ = .ok d ρ' := by
  simp only [fCallV, h0, hp, if_true, mB, h, hF]
/-- what the parting walks: signs, marks, how one fits -/
structure PtOk {M S : Type} (star : M → Bool) (fit : M → S → Bool) (xs : List S) (ms : List M) (sg0 fd : Da) (dS : S → Da) (g : M → Da) (p : Da → Bool) (F : List Da → Res) : Prop where
  at_ : ∀ (j : Nat) (x : S), xs[j]? = some x → vIx sg0 (.int (j : Int)) = some (dS x)
  len : vLen [sg0] = some (.int (xs.length : Int))
  few : xs.length ≤ 1000
  st : ∀ m ∈ ms, ∃ a b, vIs false (g m) .non = some (.bl a) ∧ vEq false (g m) (.str [42]) = some (.bl b) ∧ (a || b) = star m
  call : ∀ m ∈ ms, ∀ x ∈ xs, star m = false → F [g m, dS x] = .ok (.bl (fit m x))
  p : p fd = true
section
variable {M S : Type} {star : M → Bool} {fit : M → S → Bool} {xs : List S} {ms : List M} {sg0 fd : Da} {dS : S → Da} {g : M → Da} {p : Da → Bool} {F : List Da → Res}
abbrev ptE (ms : List M) (g : M → Da) (sg0 fd : Da) (row : List Bool) (mark fresh at_ : Option Ce) : Env := [some (.imm sg0), some (.imm (.lst (ms.map g))), some (.imm fd), some (.imm (.lst (row.map .bl))), mark, fresh, at_]
theorem pt_cell (h : PtOk star fit xs ms sg0 fd dS g p F) {m : M} (hm : m ∈ ms) {row acc : List Bool} (hr : row.length = xs.length + 1) {j : Nat} (hj : j ≤ xs.length) (ha : acc.length ≤ 1000 + 1) :
    bodyG p F (ptE ms g sg0 fd row (some (.imm (g m))) (some (.lst (acc.map .bl))) (some (.imm (.int (j : Int))))) = .ok .nx (ptE ms g sg0 fd row (some (.imm (g m))) (some (.lst ((acc ++ [cellR star fit xs row m j]).map .bl))) (some (.imm (.int (j : Int))))) := by
  let R : Env := ptE ms g sg0 fd row (some (.imm (g m))) (some (.lst (acc.map .bl))) (some (.imm (.int (j : Int))))
  obtain ⟨a, b, h1, h2, h3⟩ := h.st m hm
  have c1 : fBinT (vIs false) (fPeek 4) (fD (mP .non)) R = .ok a R := fBinT_of (fPeek_of rfl) (fD_of fP_of) rfl rfl h1
  have c2 : fBinT (vEq false) (fPeek 4) (fD (mP (.str [42]))) R = .ok b R := fBinT_of (fPeek_of rfl) (fD_of fP_of) rfl rfl h2
  have cc : fOr (fBinT (vIs false) (fPeek 4) (fD (mP .non))) (fBinT (vEq false) (fPeek 4) (fD (mP (.str [42])))) R = .ok (star m) R := by
    rw [← h3]
    cases a with
    | true => exact fOr_t c1
    | false => rw [Bool.false_or]; exact fOr_ff c1 c2
  have fin : ∀ {f : EM Da} {v : Bool}, f R = .ok (.bl v) R → fExpr (fApp 5 f) R = .ok .nx (ptE ms g sg0 fd row (some (.imm (g m))) (some (.lst ((acc ++ [v]).map .bl))) (some (.imm (.int (j : Int))))) := fun {f v} hf => by
    have := fExpr_of (fApp_of (i := 5) (ρ := R) rfl hf rfl (by rw [List.length_map]; omega))
    rw [this, List.map_append]
    rfl
  unfold bodyG cellR
  cases hs : star m with
  | true =>
    rw [hs] at cc
    simp only [if_true]
    refine if_t cc (fin ?_)
    refine fCall1_of (d := .lst ((row.take (j + 1)).map .bl)) (fN_of (fSl_of (lo := none) (hi := some ((j + 1 : Nat) : Int)) (d := .lst (row.map .bl)) (fPeek_of rfl) fP_of (fInt_of (fBin_of (fPeek_of rfl) (fD_of fP_of) rfl rfl rfl)) rfl ?_)) ?_
    · show (if (row.map Da.bl).length ≤ 16777216 then some (cutD (row.map Da.bl) none (some ((j + 1 : Nat) : Int))) else none) = _
      rw [if_pos (by rw [List.length_map]; have := h.few; omega), cutD_take, ← List.map_take]
    · show (blsD ((row.take (j + 1)).map Da.bl)).map (fun l => Da.bl (l.any id)) = _
      rw [blsM]
      rfl
  | false =>
    rw [hs] at cc
    simp only [Bool.false_eq_true, if_false]
    refine if_f cc (fin ?_)
    have e0 : fBin vGt (fPeek 6) (fD (mP (.int 0))) R = .ok (.bl (decide (0 < j))) R := by
      refine fBin_of (fPeek_of rfl) (fD_of fP_of) rfl rfl ?_
      show some (Da.bl (decide ((j : Int) > 0))) = _
      congr 2
      rw [Bool.eq_iff_iff, decide_eq_true_eq, decide_eq_true_eq]
      omega
    have es : fBin vSub (fPeek 6) (fD (mP (.int 1))) R = .ok (.int ((j : Int) - 1)) R := fBin_of (fPeek_of rfl) (fD_of fP_of) rfl rfl rfl
    cases hj0 : decide (0 < j) with
    | false =>
      rw [hj0] at e0
      simp only [Bool.false_and]
      exact fAndV_f e0
    | true =>
      rw [hj0] at e0
      have hj1 : 0 < j := of_decide_eq_true hj0
      have hi : ((j : Int) - 1) = ((j - 1 : Nat) : Int) := by omega
      rw [hi] at es
      refine fAndV_t e0 ?_
      have hlt : j - 1 < row.length := by omega
      have e1 : fBin vIx (fPeek 3) (fD (fBin vSub (fPeek 6) (fD (mP (.int 1))))) R = .ok (.bl (row.getD (j - 1) false)) R := by
        refine fBin_of (a := .lst (row.map .bl)) (b := .int ((j - 1 : Nat) : Int)) (fPeek_of rfl) (fD_of es) rfl rfl ?_
        show atI (row.map Da.bl) ((j - 1 : Nat) : Int) = _
        rw [atI_nat (x := Da.bl (row.getD (j - 1) false)) (by rw [List.getElem?_map, List.getElem?_eq_getElem hlt, List.getD_eq_getElem?_getD, List.getElem?_eq_getElem hlt]; rfl)]
      cases hb : row.getD (j - 1) false with
      | false =>
        rw [hb] at e1
        simp only [Bool.and_false, Bool.false_and]
        exact fAndV_f e1
      | true =>
        rw [hb] at e1
        refine fAndV_t e1 ?_
        have hx : j - 1 < xs.length := by omega
        have hxe := List.getElem?_eq_getElem hx
        rw [hxe]
        simp only [Bool.true_and]
        refine fCallV_of rfl h.p (fC2_of (fName_of rfl) (fBin_of (a := sg0) (b := .int ((j - 1 : Nat) : Int)) (fPeek_of rfl) (fD_of es) rfl rfl (h.at_ (j - 1) _ hxe))) ?_
        exact h.call m hm _ (List.getElem_mem hx) hs
theorem pt_row (h : PtOk star fit xs ms sg0 fd dS g p F) {m : M} (hm : m ∈ ms) {row : List Bool} (hr : row.length = xs.length + 1) : ∀ (cnt k : Nat) (acc : List Bool) (c : Option Ce), k + cnt ≤ xs.length + 1 → acc.length ≤ k →
    ∃ c', forL (stN 6) (bodyG p F) (rangeD (k : Int) cnt) (ptE ms g sg0 fd row (some (.imm (g m))) (some (.lst (acc.map .bl))) c) = .ok .nx (ptE ms g sg0 fd row (some (.imm (g m))) (some (.lst ((acc ++ (List.range' k cnt).map (cellR star fit xs row m)).map .bl))) c')
  | 0, k, acc, c, _, _ => ⟨c, by rw [rangeD_zero]; simp; rfl⟩
  | cnt + 1, k, acc, c, h1, h2 => by
    have hf := h.few
    obtain ⟨c', e⟩ := pt_row h hm hr cnt (k + 1) (acc ++ [cellR star fit xs row m k]) (some (.imm (.int (k : Int)))) (by omega) (by simp; omega)
    refine ⟨c', ?_⟩
    rw [rangeD_succ, forL_cons (ρ1 := ptE ms g sg0 fd row (some (.imm (g m))) (some (.lst (acc.map .bl))) (some (.imm (.int (k : Int))))) rfl (pt_cell h hm hr (by omega) (by omega))]
    rw [List.range'_succ, List.map_cons]
    rw [List.append_assoc] at e
    exact e
theorem pt_mark (h : PtOk star fit xs ms sg0 fd dS g p F) {m : M} (hm : m ∈ ms) {row : List Bool} (hr : row.length = xs.length + 1) (f c : Option Ce) :
    ∃ f' c', rowsG p F (ptE ms g sg0 fd row (some (.imm (g m))) f c) = .ok .nx (ptE ms g sg0 fd (rowP star fit xs row m) (some (.imm (g m))) f' c') := by
  obtain ⟨c', e⟩ := pt_row h hm hr (xs.length + 1) 0 [] c (by omega) (by simp)
  have er : (List.range' 0 (xs.length + 1)).map (cellR star fit xs row m) = rowP star fit xs row m := by
    unfold rowP
    rw [List.range_eq_range']
  rw [List.nil_append, er] at e
  refine ⟨some (.imm (.lst ((rowP star fit xs row m).map .bl))), c', ?_⟩
  unfold rowsG
  refine seq_nx (ρ' := ptE ms g sg0 fd row (some (.imm (g m))) (some (.lst [])) c) (fAsgN_of (fLst_of fP_of (by decide))) ?_
  refine seq_nx (fFor_of (ds := rangeD 0 (xs.length + 1)) (fItA_of (fC1_of (fBin_of (a := .int xs.length) (b := .int 1) (fD_of (fCall_of (fC1_of (fPeek_of rfl)) rfl h.len)) (fD_of fP_of) rfl rfl rfl)) ?_) e) ?_
  · unfold rng1
    have : (((xs.length : Int) + 1).toNat) = xs.length + 1 := by omega
    have hf := h.few
    simp only
    rw [if_pos (by omega), this]
  · exact fAsg_of rfl
theorem pt_marks (h : PtOk star fit xs ms sg0 fd dS g p F) : ∀ (rs : List M), (∀ m ∈ rs, m ∈ ms) → ∀ {row : List Bool}, row.length = xs.length + 1 → ∀ (k f c : Option Ce), ∃ k' f' c', forL (stN 4) (rowsG p F) (rs.map g) (ptE ms g sg0 fd row k f c) = .ok .nx (ptE ms g sg0 fd (rs.foldl (rowP star fit xs) row) k' f' c')
  | [], _, row, _, k, f, c => ⟨k, f, c, rfl⟩
  | m :: rs, hm, row, hr, k, f, c => by
    obtain ⟨f1, c1, e1⟩ := pt_mark h (hm m (by simp)) hr f c
    obtain ⟨k', f', c', e2⟩ := pt_marks h rs (fun x hx => hm x (by simp [hx])) (rowP_len star fit xs row m) (some (.imm (g m))) f1 c1
    refine ⟨k', f', c', ?_⟩
    rw [List.map_cons, forL_cons (ρ1 := ptE ms g sg0 fd row (some (.imm (g m))) f c) rfl e1]
    exact e2
theorem rep_false (n : Nat) : (List.replicate n [Da.bl false]).flatten = (List.replicate n false).map Da.bl := by
  induction n with
  | zero => rfl
  | succ n ih =>
    rw [List.replicate_succ, List.flatten_cons, ih, List.replicate_succ]
    rfl
theorem mul_false {n : Nat} (hn : n ≤ 1000) : vMul (.lst [.bl false]) (.int n) = some (.lst ((List.replicate n false).map .bl)) := by
  have h1 : ((n : Int) < 4294967296 ∧ -4294967296 < (n : Int) ∧ ([Da.bl false] : List Da).length * (n : Int).toNat ≤ 16777216) := ⟨by omega, by omega, by simp; omega⟩
  unfold vMul
  simp only
  rw [if_pos h1, Int.toNat_natCast, rep_false]
theorem add_row {n : Nat} (hn : n ≤ 1000) : vAdd (.lst [.bl true]) (.lst ((List.replicate n false).map .bl)) = some (.lst ((true :: List.replicate n false).map .bl)) := by
  have h1 : ([Da.bl true] : List Da).length + ((List.replicate n false).map Da.bl).length ≤ 16777216 := by simp; omega
  unfold vAdd
  simp only
  rw [if_pos h1]
  rfl
theorem pt_all (h : PtOk star fit xs ms sg0 fd dS g p F) : resOf (partG p F [some (.imm sg0), some (.imm (.lst (ms.map g))), some (.imm fd), none, none, none, none]) = .ok (.lst ((partP star fit xs ms).map .bl)) := by
  obtain ⟨k', f', c', e⟩ := pt_marks h ms (fun _ h => h) (row := row0 xs) (row0_len xs) none none none
  refine run_rt (ρ' := ptE ms g sg0 fd (partP star fit xs ms) k' f' c') ?_
  unfold partG
  refine seq_nx (ρ' := ptE ms g sg0 fd (row0 xs) none none none) ?_ ?_
  · exact fAsg_of (fBin_of (fD_of (fN_of (fLst_of (fC1_of fP_of) (by decide)))) (fD_of (fBin_of (fD_of (fN_of (fLst_of (fC1_of fP_of) (by decide)))) (fD_of (fCall_of (fC1_of (fPeek_of rfl)) rfl h.len)) rfl rfl (mul_false h.few))) rfl rfl (add_row h.few))
  refine seq_nx (fFor_of (fIt_of (fName_of rfl) rfl) e) ?_
  exact fRet_of (fName_of rfl)
end
theorem vEq_ls (ls : List (List Nat)) : vEq false (.lst (ls.map .str)) (.str [42]) = some (.bl false) := by
  unfold vEq
  rw [if_pos (by simp [plainD, plainA_str, dep, depA_str])]
  simp [dq]
end Kb
namespace Kb
open Vl
open L2 (ixN atI)
/-! names and paths by the law's own parting; one line is right -/
theorem lam0_eq (m : List Nat) (c : Nat) : f_lam0 [.str m, .str [c]] = .ok (.bl (fiM m c)) := by
  have e : e_lam0 [some (.imm (.str m)), some (.imm (.str [c]))] = .ok (.bl (fiM m c)) [some (.imm (.str m)), some (.imm (.str [c]))] :=
    fBin_of (fPeek_of rfl) (fPeek_of rfl) rfl rfl (vIn_one c m)
  show (match e_lam0 [some (.imm (.str m)), some (.imm (.str [c]))] with | .ok d _ => Res.ok d | _ => .stuck) = _
  rw [e]
theorem pt_name (ms : List (List Nat)) {y : List Nat} (hy : y.length ≤ 1000) : PtOk stM fiM y ms (.str y) (.lam 0) (fun c => .str [c]) .str (isLam 0) f_lam0 where
  at_ := fun j x hx => by
    show (if y.length ≤ 16777216 then (atI y (j : Int)).map fun c => Da.str [c] else none) = _
    rw [if_pos (by omega), atI_nat hx]
    rfl
  len := by
    show (if y.length ≤ 16777216 then some (Da.int y.length) else none) = _
    rw [if_pos (by omega)]
  few := hy
  st := fun m _ => ⟨false, stM m, rfl, vEq_str m [42], rfl⟩
  call := fun m _ c _ _ => lam0_eq m c
  p := rfl
theorem last_row {row : List Bool} {n : Nat} (h : row.length = n + 1) : vIx (.lst (row.map .bl)) (.int (-1)) = some (.bl (row.getD n false)) := by
  show atI (row.map Da.bl) (-1) = _
  have hlt : n < row.length := by omega
  refine atI_neg1 (n := n) (by rw [List.length_map, h]) ?_
  rw [List.getElem?_map, List.getElem?_eq_getElem hlt, List.getD_eq_getElem?_getD, List.getElem?_eq_getElem hlt]
  rfl
theorem parted1_eq (ms : List (List Nat)) {y : List Nat} (hy : y.length ≤ 1000) : f__law_parted1 [.str y, .lst (ms.map .str), .lam 0] = .ok (.lst ((partP stM fiM y ms).map .bl)) := by
  show resOf (b__law_parted1 [some (.imm (.str y)), some (.imm (.lst (ms.map .str))), some (.imm (.lam 0)), none, none, none, none]) = _
  have e : b__law_parted1 = partG (isLam 0) f_lam0 := rfl
  rw [e]
  exact pt_all (pt_name ms hy)
theorem name_fits_eq (ms : List (List Nat)) {y : List Nat} (hy : y.length ≤ 1000) : f__law_name_fits [.lst (ms.map .str), .str y] = .ok (.bl (nameB ms y)) := by
  show resOf (b__law_name_fits [some (.imm (.lst (ms.map .str))), some (.imm (.str y))]) = _
  refine run_rt (ρ' := [some (.imm (.lst (ms.map .str))), some (.imm (.str y))]) ?_
  unfold b__law_name_fits
  refine fRet_of (fBin_of (fD_of (fDef_of (fC3_of (fName_of rfl) (fName_of rfl) fP_of) (parted1_eq ms hy))) (fD_of (show fNeg (mP (.int 1)) [some (.imm (.lst (ms.map .str))), some (.imm (.str y))] = .ok (.int (-1)) _ from rfl)) rfl rfl ?_)
  exact last_row (part_len stM fiM y ms)
theorem pt_path {ps : List LP} {names : List (List Nat)} (hn : names.length ≤ 1000) (hy : ∀ y ∈ names, y.length ≤ 1000) : PtOk isMany fitL names ps (.lst (names.map .str)) (.glo "_law_name_fits") .str daP (isGlo "_law_name_fits") f__law_name_fits where
  at_ := fun j x hx => by
    show atI (names.map Da.str) (j : Int) = _
    exact atI_nat (by rw [List.getElem?_map, hx]; rfl)
  len := by
    show some (Da.int ((names.map Da.str).length : Int)) = _
    rw [List.length_map]
  few := hn
  st := fun p _ => by
    cases p with
    | many => exact ⟨true, false, rfl, rfl, rfl⟩
    | marks ms => exact ⟨false, false, rfl, vEq_ls ms, rfl⟩
  call := fun p _ y hyn hs => by
    cases p with
    | many => cases hs
    | marks ms => exact name_fits_eq ms (hy y hyn)
  p := by simp [isGlo]
theorem parted2_eq {ps : List LP} {names : List (List Nat)} (hn : names.length ≤ 1000) (hy : ∀ y ∈ names, y.length ≤ 1000) : f__law_parted2 [.lst (names.map .str), .lst (ps.map daP), .glo "_law_name_fits"] = .ok (.lst ((partP isMany fitL names ps).map .bl)) := by
  show resOf (b__law_parted2 [some (.imm (.lst (names.map .str))), some (.imm (.lst (ps.map daP))), some (.imm (.glo "_law_name_fits")), none, none, none, none]) = _
  have e : b__law_parted2 = partG (isGlo "_law_name_fits") f__law_name_fits := rfl
  rw [e]
  exact pt_all (pt_path hn hy)
end Kb
namespace Kb
open Vl
open L2 (ixN atI)
/-! paths that lines could make; drawn paths -/
theorem fAug_of {i : Nat} {r : Da → Da → Option Da} {f : EM Da} {ρ ρ' : Env} {d0 d z : Da} (h0 : ρ[i]? = some (some (.imm d0))) (h : f ρ = .ok d ρ') (hr : r d0 d = some z) : fAug i r f ρ = .ok .nx (ρ'.set i (some (.imm z))) := by
  simp only [fAug, h0, mB, h, hr]
theorem vAugS {a b : List Nat} (h : a.length + b.length ≤ 16777216) : vAugAdd (.str a) (.str b) = some (.str (a ++ b)) := by
  show (if a.length + b.length ≤ 16777216 then some (Da.str (a ++ b)) else none) = _
  rw [if_pos h]
theorem vSlS_take {a : List Nat} {n : Int} (ha : a.length ≤ 1000) (hn : 0 ≤ n) : vSlS (.str a) none (some n) = some (.str (a.take n.toNat)) := by
  show (if a.length ≤ 16777216 then some (Da.str (cutD a none (some n))) else none) = _
  rw [if_pos (by omega)]
  have : n = ((n.toNat : Nat) : Int) := by omega
  conv => lhs; rw [this]
  rw [cutD_take]
theorem vIxS {a : List Nat} {i : Int} (ha : a.length ≤ 1000) (h0 : 0 ≤ i) (h1 : i < a.length) : ∃ c, c ∈ a ∧ vIx (.str a) (.int i) = some (.str [c]) := by
  obtain ⟨c, e, hc⟩ := atI_ok h0 h1
  refine ⟨c, hc, ?_⟩
  show (if a.length ≤ 16777216 then (atI a i).map fun c => Da.str [c] else none) = _
  rw [if_pos (by omega), e]
  rfl
def InSg (l : List Nat) : Prop := ∀ c ∈ l, c ∈ sg
theorem InSg.app {a b : List Nat} (h : InSg a) (k : InSg b) : InSg (a ++ b) := fun c hc => (List.mem_append.mp hc).elim (h c) (k c)
theorem InSg.take {a : List Nat} (h : InSg a) (n : Nat) : InSg (a.take n) := fun c hc => h c (List.mem_of_mem_take hc)
theorem InSg.one {c : Nat} (h : c ∈ sg) : InSg [c] := fun x hx => by rw [List.mem_singleton.mp hx]; exact h
theorem sum_le {ls : List (List Nat)} {B : Nat} (h : ∀ y ∈ ls, y.length ≤ B) : (ls.map (·.length)).sum ≤ ls.length * B := by
  induction ls with
  | nil => simp
  | cons a ls ih =>
    have h1 := h a (by simp)
    have h2 := ih fun y hy => h y (by simp [hy])
    rw [List.map_cons, List.sum_cons, List.length_cons, Nat.add_mul]
    omega
theorem join_le {ls : List (List Nat)} {B : Nat} (h : ∀ y ∈ ls, y.length ≤ B) : (joinN [47] ls).length ≤ ls.length * (B + 1) := by
  have h1 := joinN_len [47] ls
  have h2 := sum_le h
  rw [List.length_singleton, Nat.mul_one] at h1
  rw [Nat.mul_add, Nat.mul_one]
  omega
end Kb
namespace Kb
open Vl
open L2 (ixN atI)
/-! a drawn path -/
theorem fMs_of {r : List Nat → List Da → Option Da} {fo : EM Da} {fa : EM (List Pk)} {ρ ρ1 ρ2 : Env} {l : List Nat} {ps : List Pk} {ds : List Da} {d : Da} (h1 : fo ρ = .ok (.str l) ρ1) (h2 : fa ρ1 = .ok ps ρ2) (h3 : lookA ρ2 ps = some ds) (h4 : r l ds = some d) : fMs r fo fa ρ = .ok d ρ2 := by
  simp only [fMs, mB, h1, h2, h3, h4, mO]
theorem dr_ix {dr : List Int} {i : Int} (h0 : 0 ≤ i) (h : i < dr.length) : ∃ d, d ∈ dr ∧ vIx (.lst (dr.map .int)) (.int i) = some (.int d) := dr_at i h0 h
abbrev lpE (s : Da) (a : Int) (pool : List Nat) (dr : List Int) (names : List (List Nat)) (k5 k6 k7 k8 k9 : Option Ce) : Env := [some (.imm s), some (.imm (.int a)), some (.imm (.str pool)), some (.imm (.lst (dr.map .int))), some (.lst (names.map .str)), k5, k6, k7, k8, k9]
theorem lp_sign (s : Da) (a : Int) {pool : List Nat} (hl : pool.length = 4) (hs : InSg pool) {dr : List Int} (hd : dr.length = 12) (hin : ∀ d ∈ dr, 0 ≤ d ∧ d < 135) (names : List (List Nat)) {t : Int} (ht : 0 ≤ t ∧ t < 3) {m : Int} (hm : 0 ≤ m ∧ m < 3) (k6 k9 : Option Ce) {name : List Nat} (hn : name.length ≤ 1000) :
    ∃ c k9', c ∈ sg ∧ p1__law_path (lpE s a pool dr names (some (.imm (.int t))) k6 (some (.imm (.str name))) (some (.imm (.int m))) k9) = .ok .nx (lpE s a pool dr names (some (.imm (.int t))) k6 (some (.imm (.str (name ++ [c])))) (some (.imm (.int m))) k9') := by
  obtain ⟨d, hdm, ed⟩ := dr_ix (dr := dr) (i := 4 + 2 * t + m) (by omega) (by omega)
  obtain ⟨d0, d1⟩ := hin d hdm
  let R : Env := lpE s a pool dr names (some (.imm (.int t))) k6 (some (.imm (.str name))) (some (.imm (.int m))) (some (.imm (.int d)))
  have s1 : fAsg 9 (fBin vIx (fPeek 3) (fD (fBin vAdd (fD (fBin vAdd (fD (mP (.int 4))) (fD (fBin vMul (fD (mP (.int 2))) (fPeek 5))))) (fPeek 8)))) (lpE s a pool dr names (some (.imm (.int t))) k6 (some (.imm (.str name))) (some (.imm (.int m))) k9) = .ok .nx R := by
    have em : vMul (.int 2) (.int t) = some (.int (2 * t)) := by
      unfold vMul
      simp only
      rw [if_pos (.inl (by decide))]
    exact fAsg_of (fBin_of (a := .lst (dr.map .int)) (b := .int (4 + 2 * t + m)) (fPeek_of rfl) (fD_of (fBin_of (a := .int (4 + 2 * t)) (b := .int m) (fD_of (fBin_of (a := .int 4) (b := .int (2 * t)) (fD_of fP_of) (fD_of (fBin_of (a := .int 2) (b := .int t) (fD_of fP_of) (fPeek_of rfl) rfl rfl em)) rfl rfl rfl)) (fPeek_of rfl) rfl rfl rfl)) rfl rfl ed)
  have c1 : fBinT vGt (fD (fBin vMod (fPeek 9) (fD (mP (.int 5))))) (fD (mP (.int 0))) R = .ok (decide (d % 5 > 0)) R :=
    fBinT_of (a := .int (d % 5)) (b := .int 0) (fD_of (fBin_of (a := .int d) (b := .int 5) (fPeek_of rfl) (fD_of fP_of) rfl rfl rfl)) (fD_of fP_of) rfl rfl rfl
  have e5 : fBin vFdiv (fPeek 9) (fD (mP (.int 5))) R = .ok (.int (d / 5)) R := fBin_of (a := .int d) (b := .int 5) (fPeek_of rfl) (fD_of fP_of) rfl rfl rfl
  unfold p1__law_path
  cases h5 : decide (d % 5 > 0) with
  | true =>
    rw [h5] at c1
    have g0 : 0 ≤ d / 5 % 4 := Int.emod_nonneg _ (by decide)
    have g1 : d / 5 % 4 < 4 := Int.emod_lt_of_pos _ (by decide)
    obtain ⟨c, hc, ec⟩ := vIxS (a := pool) (i := d / 5 % 4) (by omega) g0 (by omega)
    refine ⟨c, some (.imm (.int d)), hs c hc, seq_nx s1 ?_⟩
    exact fAug_of (d := .str [c]) rfl (if_t c1 (fBin_of (a := .str pool) (b := .int (d / 5 % 4)) (fPeek_of rfl) (fD_of (fBin_of (a := .int (d / 5)) (b := .int 4) (fD_of e5) (fD_of fP_of) rfl rfl rfl)) rfl rfl ec)) (vAugS (by simp; omega))
  | false =>
    rw [h5] at c1
    have g0 : 0 ≤ d / 5 := Int.ediv_nonneg d0 (by decide)
    have g1 : d / 5 < 27 := by omega
    have hsl : sg.length = 27 := by decide
    obtain ⟨c, hc, ec⟩ := vIxS (a := sg) (i := d / 5) (by omega) g0 (by omega)
    refine ⟨c, some (.imm (.int d)), hc, seq_nx s1 ?_⟩
    exact fAug_of (d := .str [c]) rfl (if_f c1 (fBin_of (a := .str sg) (b := .int (d / 5)) (fD_of (fDef_of fP_of signs_eq)) (fD_of e5) rfl rfl ec)) (vAugS (by simp; omega))
theorem lp_signs (s : Da) (a : Int) {pool : List Nat} (hl : pool.length = 4) (hs : InSg pool) {dr : List Int} (hd : dr.length = 12) (hin : ∀ d ∈ dr, 0 ≤ d ∧ d < 135) (names : List (List Nat)) {t : Int} (ht : 0 ≤ t ∧ t < 3) (k6 : Option Ce) : ∀ (cnt : Nat) (m : Int) (name : List Nat) (k8 k9 : Option Ce), 0 ≤ m → m + cnt ≤ 3 → name.length + cnt ≤ 900 → InSg name →
    ∃ name' k8' k9', InSg name' ∧ name'.length = name.length + cnt ∧ forL (stN 8) p1__law_path (rangeD m cnt) (lpE s a pool dr names (some (.imm (.int t))) k6 (some (.imm (.str name))) k8 k9) = .ok .nx (lpE s a pool dr names (some (.imm (.int t))) k6 (some (.imm (.str name'))) k8' k9')
  | 0, m, name, k8, k9, _, _, _, hi => ⟨name, k8, k9, hi, rfl, by rw [rangeD_zero]; rfl⟩
  | cnt + 1, m, name, k8, k9, h0, h3, hn, hi => by
    obtain ⟨c, k9', hc, e1⟩ := lp_sign s a hl hs hd hin names ht (m := m) ⟨h0, by omega⟩ k6 k9 (name := name) (by omega)
    obtain ⟨name', k8', j9, g1, g2, e2⟩ := lp_signs s a hl hs hd hin names ht k6 cnt (m + 1) (name ++ [c]) (some (.imm (.int m))) k9' (by omega) (by omega) (by simp; omega) (hi.app (InSg.one hc))
    refine ⟨name', k8', j9, g1, by rw [g2, List.length_append, List.length_singleton]; omega, ?_⟩
    rw [rangeD_succ, forL_cons (ρ1 := lpE s a pool dr names (some (.imm (.int t))) k6 (some (.imm (.str name))) (some (.imm (.int m))) k9) rfl e1]
    exact e2
theorem rng1_small {k : Int} (h0 : 0 ≤ k) (h1 : k ≤ 1000) : rng1 [.int k] = some (rangeD 0 k.toNat) := by
  unfold rng1
  simp only
  rw [if_pos (by omega)]
theorem lp_name (s : Da) (a : Int) {pool : List Nat} (hl : pool.length = 4) (hs : InSg pool) {dr : List Int} (hd : dr.length = 12) (hin : ∀ d ∈ dr, 0 ≤ d ∧ d < 135) {names : List (List Nat)} (hnn : names.length ≤ 1000) {t : Int} (ht : 0 ≤ t ∧ t < 3) (k6 k7 k8 k9 : Option Ce) :
    ∃ y k6' k7' k8' k9', OkName y ∧ y.length ≤ 3 ∧ p2__law_path (lpE s a pool dr names (some (.imm (.int t))) k6 k7 k8 k9) = .ok .nx (lpE s a pool dr (names ++ [y]) (some (.imm (.int t))) k6' k7' k8' k9') := by
  obtain ⟨d, hdm, ed⟩ := dr_ix (dr := dr) (i := 1 + t) (by omega) (by omega)
  have g0 : 0 ≤ d % 3 := Int.emod_nonneg _ (by decide)
  have g1 : d % 3 < 3 := Int.emod_lt_of_pos _ (by decide)
  obtain ⟨y, k8', k9', h1, h2, e1⟩ := lp_signs s a hl hs hd hin names ht (some (.imm (.int d))) (1 + d % 3).toNat 0 [] k8 k9 (by decide) (by omega) (by simp; omega) (fun c hc => by cases hc)
  simp only [List.length_nil, Nat.zero_add] at h2
  refine ⟨y, some (.imm (.int d)), some (.imm (.str y)), k8', k9', ⟨fun e => by rw [e] at h2; simp at h2; omega, h1⟩, by omega, ?_⟩
  unfold p2__law_path
  refine seq_nx (ρ' := lpE s a pool dr names (some (.imm (.int t))) (some (.imm (.int d))) (some (.imm (.str []))) k8 k9) (fPar2_of (fCv_of (fBin_of (a := .lst (dr.map .int)) (b := .int (1 + t)) (fPeek_of rfl) (fD_of (fBin_of (a := .int 1) (b := .int t) (fD_of fP_of) (fPeek_of rfl) rfl rfl rfl)) rfl rfl ed) (fCv_of fP_of fP_of))) ?_
  refine seq_nx (fFor_of (fItA_of (fC1_of (fBin_of (a := .int 1) (b := .int (d % 3)) (fD_of fP_of) (fD_of (fBin_of (a := .int d) (b := .int 3) (fPeek_of rfl) (fD_of fP_of) rfl rfl rfl)) rfl rfl rfl)) (rng1_small (by omega) (by omega))) e1) ?_
  have := fExpr_of (fApp_of (i := 4) (f := fName 7) (xs := names.map .str) (ρ := lpE s a pool dr names (some (.imm (.int t))) (some (.imm (.int d))) (some (.imm (.str y))) k8' k9') rfl (fName_of rfl) rfl (by rw [List.length_map]; omega))
  rw [this, show names.map Da.str ++ [Da.str y] = (names ++ [y]).map Da.str by rw [List.map_append]; rfl]
  rfl
theorem lp_names (s : Da) (a : Int) {pool : List Nat} (hl : pool.length = 4) (hs : InSg pool) {dr : List Int} (hd : dr.length = 12) (hin : ∀ d ∈ dr, 0 ≤ d ∧ d < 135) : ∀ (cnt : Nat) (t : Int) (names : List (List Nat)) (k5 k6 k7 k8 k9 : Option Ce), 0 ≤ t → t + cnt ≤ 3 → names.length + cnt ≤ 900 → (∀ y ∈ names, OkName y ∧ y.length ≤ 3) →
    ∃ names' k5' k6' k7' k8' k9', (∀ y ∈ names', OkName y ∧ y.length ≤ 3) ∧ names'.length = names.length + cnt ∧ forL (stN 5) p2__law_path (rangeD t cnt) (lpE s a pool dr names k5 k6 k7 k8 k9) = .ok .nx (lpE s a pool dr names' k5' k6' k7' k8' k9')
  | 0, t, names, k5, k6, k7, k8, k9, _, _, _, hg => ⟨names, k5, k6, k7, k8, k9, hg, rfl, by rw [rangeD_zero]; rfl⟩
  | cnt + 1, t, names, k5, k6, k7, k8, k9, h0, h3, hn, hg => by
    obtain ⟨y, k6', k7', k8', k9', hy, hyl, e1⟩ := lp_name s a hl hs hd hin (names := names) (by omega) (t := t) ⟨h0, by omega⟩ k6 k7 k8 k9
    obtain ⟨n2, j5, j6, j7, j8, j9, g1, g2, e2⟩ := lp_names s a hl hs hd hin cnt (t + 1) (names ++ [y]) (some (.imm (.int t))) k6' k7' k8' k9' (by omega) (by omega) (by simp; omega) (fun z hz => by
      rcases List.mem_append.mp hz with hz | hz
      · exact hg z hz
      · rw [List.mem_singleton.mp hz]; exact ⟨hy, hyl⟩)
    refine ⟨n2, j5, j6, j7, j8, j9, g1, by rw [g2, List.length_append, List.length_singleton]; omega, ?_⟩
    rw [rangeD_succ, forL_cons (ρ1 := lpE s a pool dr names (some (.imm (.int t))) k6 k7 k8 k9) rfl e1]
    exact e2
theorem path_ok (ns : List Int) {a : Int} (ha : 0 ≤ a) {pool : List Nat} (hl : pool.length = 4) (hs : InSg pool) : ∃ names, f__law_path [.lst (ns.map .int), .int a, .str pool] = .ok (.str (joinN [47] names)) ∧ OkPath names ∧ (joinN [47] names).length ≤ 12 := by
  have ed := digs_eq ns a 12 135 ha (by decide) (by decide) (by decide) (by decide)
  have hd : (digP ns a 12 135).length = 12 := digP_len _ _ _ _
  have hin := digP_in ns a 12 (b := 135) (by decide)
  generalize digP ns a 12 135 = dr at ed hd hin
  obtain ⟨d, hdm, e0⟩ := dr_ix (dr := dr) (i := 0) (by omega) (by omega)
  have g0 : 0 ≤ d % 3 := Int.emod_nonneg _ (by decide)
  have g1 : d % 3 < 3 := Int.emod_lt_of_pos _ (by decide)
  obtain ⟨names, k5, k6, k7, k8, k9, hg, hln, e⟩ := lp_names (.lst (ns.map .int)) a hl hs hd hin (1 + d % 3).toNat 0 [] none none none none none (by decide) (by omega) (by simp; omega) (fun y hy => by cases hy)
  simp only [List.length_nil, Nat.zero_add] at hln
  have hj : (joinN [47] names).length ≤ 12 := by
    have h1 := join_le (B := 3) fun y hy => (hg y hy).2
    omega
  refine ⟨names, ?_, ⟨fun e => by rw [e] at hln; simp at hln; omega, fun y hy => (hg y hy).1, by omega⟩, hj⟩
  show resOf (b__law_path [some (.imm (.lst (ns.map .int))), some (.imm (.int a)), some (.imm (.str pool)), none, none, none, none, none, none, none]) = _
  let R : Env := lpE (.lst (ns.map .int)) a pool dr names k5 k6 k7 k8 k9
  refine run_rt (ρ' := R) ?_
  unfold b__law_path
  refine seq_nx (ρ' := lpE (.lst (ns.map .int)) a pool dr [] none none none none none) (fPar2_of (fCv_of (fDef_of (fCons_of (fName_of rfl) (fC3_of (fName_of rfl) fP_of fP_of)) ed) (fCn_of (fLst_of fP_of (by decide)) fP_of))) ?_
  refine seq_nx (fFor_of (fItA_of (fC1_of (fBin_of (a := .int 1) (b := .int (d % 3)) (fD_of fP_of) (fD_of (fBin_of (a := .int d) (b := .int 3) (fD_of (fBin_of (a := .lst (dr.map .int)) (b := .int 0) (fPeek_of rfl) (fD_of fP_of) rfl rfl e0)) (fD_of fP_of) rfl rfl rfl)) rfl rfl rfl)) (rng1_small (by omega) (by omega))) e) ?_
  refine fRet_of ?_
  have ej := sJoin_map [47] names (by
    have := sum_le (B := 3) fun y hy => (hg y hy).2
    simp only [List.length_cons, List.length_nil]
    omega)
  exact fMs_of fP_of (fC1_of (fPeek_of rfl)) rfl ej
end Kb
namespace Kb
open Vl
open L2 (ixN atI)
/-! law_k04_fits: the law's loop -/
theorem textL_len (l lead : Bool) {qs : List LP} {ts : List (List Nat)} (f : Bool) (h : All2 PT qs ts) (ho : ∀ q ∈ qs, OkLP q) : (textL l lead ts f).length ≤ qs.length * 10001 + 3 := by
  have h1 := all2_len h ho
  have h2 := joinN_len [47] ts
  have h3 := h.length
  simp only [List.length_cons, List.length_nil] at h2
  unfold textL
  simp only [List.length_append]
  have a1 : (if l then [33] else [] : List Nat).length ≤ 1 := by cases l <;> simp
  have a2 : (if lead then [47] else [] : List Nat).length ≤ 1 := by cases lead <;> simp
  have a3 : (if f then [47] else [] : List Nat).length ≤ 1 := by cases f <;> simp
  omega
theorem grid_len {ps : List LP} (h : ∀ p ∈ ps, lenL p ≤ 7) : (gridL ps).length ≤ ps.length * 8 := by
  unfold gridL
  rw [List.length_flatMap]
  have key : ∀ (l : List Nat), (∀ i ∈ l, i < ps.length) → (l.map fun i => (match ps[i]? with
    | some p => (List.range (lenL p + 1)).map fun s => (i, s)
    | none => []).length).sum ≤ l.length * 8 := by
    intro l
    induction l with
    | nil => intro _; simp
    | cons i l ih =>
      intro hl
      have h1 := hl i (by simp)
      have h2 := ih fun j hj => hl j (by simp [hj])
      rw [List.map_cons, List.sum_cons, List.length_cons, Nat.add_mul]
      have h3 := h ps[i] (List.getElem_mem h1)
      rw [List.getElem?_eq_getElem h1]
      simp only [List.length_map, List.length_range]
      omega
  have := key (List.range ps.length) fun i hi => List.mem_range.mp hi
  rwa [List.length_range] at this
theorem small_of {ps : List LP} (h : OkPs ps) (h3 : ps.length ≤ 3) : Small ps := by
  refine ⟨h, ?_, by omega⟩
  have h7 : ∀ p ∈ ps, lenL p ≤ 7 := fun p hp => by
    have := h.2.1 p hp
    cases p with
    | many => simp [lenL]
    | marks ms => exact this.2.2.2
  have := grid_len h7
  omega
/-- the text of a line, its numbers, the paths -/
theorem text_ok (l : Bool) {ps : List LP} (f : Bool) (h : OkPs ps) (n : Int) : ∃ w, f__law_other [daL l ps f, .int n] = .ok (.str w) ∧ f_line_of [.str w] = .ok (lnD l ps f) := by
  obtain ⟨lead, qs, ts, e1, ha, hne, ho, hl, hs⟩ := other_line_ok l f h n
  have hp := h.2.2.2
  have ht := textL_len l lead f ha ho
  have hlen : (textL l lead ts f).length ≤ 16777216 := by
    have : qs.length * 10001 ≤ 200 * 10001 := Nat.mul_le_mul_right _ (by omega)
    omega
  have := line_of_eq ha hne ho (by omega) hlen (l := l) (f := f)
  rw [hs] at this
  exact ⟨_, e1, this⟩
theorem okPath_join {a b : List (List Nat)} (ha : a ≠ []) (hb : b ≠ []) : joinN [47] (a ++ b) = joinN [47] a ++ 47 :: joinN [47] b := by
  induction a with
  | nil => exact absurd rfl ha
  | cons x a ih =>
    cases a with
    | nil =>
      cases b with
      | nil => exact absurd rfl hb
      | cons y b => simp [joinN]
    | cons z a =>
      have := ih (by simp)
      simp only [List.cons_append] at this ⊢
      rw [joinN, this, joinN]
      simp
theorem join_last {c : Nat} : ∀ (a : List (List Nat)), a ≠ [] → ∃ b, b ≠ [] ∧ joinN [47] b = joinN [47] a ++ [c] ∧ ∀ y ∈ b, y ∈ a ∨ ∃ z ∈ a, y = z ++ [c]
  | [], h => absurd rfl h
  | [x], _ => ⟨[x ++ [c]], by simp, by simp [joinN], fun y hy => .inr ⟨x, by simp, List.mem_singleton.mp hy⟩⟩
  | x :: z :: a, _ => by
    obtain ⟨b, h1, h2, h3⟩ := join_last (c := c) (z :: a) (by simp)
    refine ⟨x :: b, by simp, ?_, fun y hy => ?_⟩
    · cases b with
      | nil => exact absurd rfl h1
      | cons u b =>
        rw [joinN, h2, joinN]
        simp
    · rcases List.mem_cons.mp hy with rfl | hy
      · exact .inl (by simp)
      · rcases h3 y hy with h | ⟨w, hw, e⟩
        · exact .inl (by simp [h])
        · exact .inr ⟨w, by simp [hw], e⟩
theorem okName_one {c : Nat} (h : c ∈ sg) : OkName [c] := ⟨by simp, InSg.one h⟩
structure Pth (w : List Nat) : Prop where
  ex : ∃ names, w = joinN [47] names ∧ OkPath names
theorem pth_of {names : List (List Nat)} (h1 : names ≠ []) (h2 : ∀ y ∈ names, OkName y) (h3 : (joinN [47] names).length ≤ 400) : Pth (joinN [47] names) := ⟨_, rfl, h1, h2, h3⟩
theorem pth_back {names : List (List Nat)} (h1 : names ≠ []) (h2 : ∀ y ∈ names, OkName y) (h3 : (joinN [47] names).length ≤ 300) {c : Nat} (hc : c ∈ sg) : Pth (joinN [47] names ++ 47 :: [c]) := by
  have : joinN [47] names ++ 47 :: [c] = joinN [47] (names ++ [[c]]) := by rw [okPath_join h1 (by simp)]; rfl
  rw [this]
  refine pth_of (by simp) (fun y hy => ?_) ?_
  · rcases List.mem_append.mp hy with hy | hy
    · exact h2 y hy
    · rw [List.mem_singleton.mp hy]; exact okName_one hc
  · rw [← this]
    simp
    omega
theorem pth_front {names : List (List Nat)} (h1 : names ≠ []) (h2 : ∀ y ∈ names, OkName y) (h3 : (joinN [47] names).length ≤ 300) {c : Nat} (hc : c ∈ sg) : Pth ([c] ++ [47] ++ joinN [47] names) := by
  have : [c] ++ [47] ++ joinN [47] names = joinN [47] ([c] :: names) := by
    cases names with
    | nil => exact absurd rfl h1
    | cons x names => rw [joinN]; simp
  rw [this]
  refine pth_of (by simp) (fun y hy => ?_) ?_
  · rcases List.mem_cons.mp hy with rfl | hy
    · exact okName_one hc
    · exact h2 y hy
  · rw [← this]
    simp
    omega
theorem pth_end {names : List (List Nat)} (h1 : names ≠ []) (h2 : ∀ y ∈ names, OkName y) (h3 : (joinN [47] names).length ≤ 300) {c : Nat} (hc : c ∈ sg) : Pth (joinN [47] names ++ [c]) := by
  obtain ⟨b, b1, b2, b3⟩ := join_last (c := c) names h1
  rw [← b2]
  refine pth_of b1 (fun y hy => ?_) ?_
  · rcases b3 y hy with h | ⟨z, hz, rfl⟩
    · exact h2 y h
    · exact ⟨by simp, InSg.app (h2 z hz).2 (InSg.one hc)⟩
  · rw [b2]
    simp
    omega
theorem vAddS {a b : List Nat} (h : a.length + b.length ≤ 16777216) : vAdd (.str a) (.str b) = some (.str (a ++ b)) := by
  show (if a.length + b.length ≤ 16777216 then some (Da.str (a ++ b)) else none) = _
  rw [if_pos h]
theorem vMulS {c : Nat} {n : Int} (h0 : 0 ≤ n) (h1 : n ≤ 1000) : vMul (.str [c]) (.int n) = some (.str (List.replicate n.toNat c)) := by
  have cnd : (n < 4294967296 ∧ -4294967296 < n ∧ ([c] : List Nat).length * n.toNat ≤ 16777216) := ⟨by omega, by omega, by simp; omega⟩
  unfold vMul
  simp only
  rw [if_pos cnd]
  congr 2
  generalize n.toNat = k
  induction k with
  | zero => rfl
  | succ k ih => rw [List.replicate_succ, List.flatten_cons, ih, List.replicate_succ]; rfl
end Kb
namespace Kb
open Vl
open L2 (ixN atI)
/-! lines_of, shut_at, judged -/
def enumG {α : Type} (i : Nat) : List α → List (Nat × α)
  | [] => []
  | m :: ms => (i, m) :: enumG (i + 1) ms
theorem enumG_map {α : Type} (g : α → Da) : ∀ (ms : List α) (i : Nat), enumD i (ms.map g) = (enumG i ms).map fun x => .tup [.int x.1, g x.2]
  | [], _ => rfl
  | m :: ms, i => by rw [List.map_cons]; unfold enumD enumG; rw [enumG_map g ms (i + 1), List.map_cons]
theorem enumG_len {α : Type} : ∀ (ms : List α) (i : Nat), (enumG i ms).length = ms.length
  | [], _ => rfl
  | m :: ms, i => by unfold enumG; rw [List.length_cons, List.length_cons, enumG_len ms]
theorem enumG_in {α : Type} : ∀ (ms : List α) (i : Nat) (x : Nat × α), x ∈ enumG i ms → x.2 ∈ ms
  | [], _, x, h => nomatch h
  | m :: ms, i, x, h => by
    unfold enumG at h
    rcases List.mem_cons.mp h with rfl | h
    · exact List.mem_cons_self ..
    · exact List.mem_cons_of_mem _ (enumG_in ms (i + 1) x h)
theorem enumG_snd {α β : Type} (y : α → β) : ∀ (ms : List α) (i : Nat), (enumG i ms).map (fun x => y x.2) = ms.map y
  | [], _ => rfl
  | m :: ms, i => by unfold enumG; rw [List.map_cons, List.map_cons, enumG_snd y ms]
abbrev Tl := List Nat × Ln
def OkT (t : Tl) : Prop := f_line_of [.str t.1] = .ok (lnO t.2) ∧ Small t.2.2.1
def txD (ts : List Tl) : List Da := (ts.map (·.1)).map .str
theorem line_at_eq (n : Int) {t : Tl} (h : OkT t) : f_line_at [.int n, .str t.1] = .ok (lnO t.2) := by
  show resOf (b_line_at [some (.imm (.int n)), some (.imm (.str t.1)), none]) = _
  exact run_rt (seq_nx (ρ' := [some (.imm (.int n)), some (.imm (.str t.1)), some (.imm (lnO t.2))]) (fAsg_of (fDef_of (fC1_of (fName_of rfl)) h.1)) (fRet_of (fName_of rfl)))
theorem lines_of_eq {ts : List Tl} (h : ∀ t ∈ ts, OkT t) (hl : ts.length ≤ 100) : f_lines_of [.lst (txD ts)] = .ok (.lst ((ts.map (·.2)).map lnO)) := by
  let R : Env := [some (.imm (.lst (txD ts))), none, none]
  show resOf (b_lines_of R) = _
  have ec := compL_all (vs := [1, 2]) (st := stTup 2 (stCons (stN 1) (stCons (stN 2) stNil))) (e := p1_lines_of) (g := fun x : Nat × Tl => Da.tup [.int x.1, .str x.2.1]) (y := fun x => lnO x.2.2) (enumG 0 ts)
    R (ρw := R) rfl (fun x hx => ⟨_, rfl, fDef_of (fC2_of (fName_of rfl) (fName_of rfl)) (line_at_eq x.1 (h x.2 (enumG_in ts 0 x hx))), rfl⟩) (by rw [enumG_len]; omega)
  rw [enumG_snd (fun t : Tl => lnO t.2)] at ec
  have em := enumG_map (fun t : Tl => Da.str t.1) ts 0
  have e1 : txD ts = ts.map fun t : Tl => Da.str t.1 := by unfold txD; rw [List.map_map]; rfl
  have e2 : (ts.map (·.2)).map lnO = ts.map fun t : Tl => lnO t.2 := by rw [List.map_map]; rfl
  rw [e2]
  refine run_rt (ρ' := R) ?_
  unfold b_lines_of
  refine seq_if (ρ' := R) (fNot_of (b := true) (fTru_of (d := .bl true) (fD_of (fCall_of (fC2_of (fPeek_of rfl) (fD_of fP_of)) rfl rfl)) rfl rfl)) ?_
  refine fRet_of (fN_of (fComp_of (ds := (enumG 0 ts).map fun x => Da.tup [.int x.1, .str x.2.1]) (fItA_of (fC1_of (fName_of rfl)) ?_) ec))
  show some (enumD 0 (txD ts)) = _
  rw [e1, em]
/-- the first head that a line without lets decides -/
def letsAt (lines : List Ln) (n : Nat) : Bool := match lines[n]? with
  | some x => x.1
  | none => true
def shutGo (lines : List Ln) : Nat → List (Option Nat) → Option Nat
  | _, [] => none
  | a, none :: os => shutGo lines (a + 1) os
  | a, some n :: os => if letsAt lines n = false then some a else shutGo lines (a + 1) os
theorem fld_lets {fe : EM Da} {ρ ρ' : Env} {x : Ln} (h : fe ρ = .ok (lnO x) ρ') : fFld "Line" "lets" fe ρ = .ok (.bl x.1) ρ' := by
  unfold fFld
  simp only [mB, h]
  rfl
abbrev shE (lines : List Ln) (told : List (Option Nat)) (a b : Option Ce) : Env := [some (.imm (.lst (lines.map lnO))), some (.imm (.lst (told.map optD))), a, b]
theorem sh_loop (lines : List Ln) (told : List (Option Nat)) : ∀ (os : List (Option Nat)) (k : Nat) (a b : Option Ce), (∀ n, some n ∈ os → n < lines.length) →
    ∃ a' b', forL (stTup 2 (stCons (stN 2) (stCons (stN 3) stNil))) p1_shut_at (enumD k (os.map optD)) (shE lines told a b) = match shutGo lines k os with
      | none => .ok .nx (shE lines told a' b')
      | some j => .ok (.rt (.int (j : Int))) (shE lines told a' b')
  | [], k, a, b, _ => ⟨a, b, rfl⟩
  | none :: os, k, a, b, h => by
    obtain ⟨a', b', e⟩ := sh_loop lines told os (k + 1) (some (.imm (.int (k : Int)))) (some (.imm .non)) fun n hn => h n (by simp [hn])
    refine ⟨a', b', ?_⟩
    let R : Env := shE lines told (some (.imm (.int (k : Int)))) (some (.imm .non))
    have c1 : fBinT (vIs true) (fPeek 3) (fD (mP .non)) R = .ok false R := fBinT_of (a := .non) (b := .non) (fPeek_of rfl) (fD_of fP_of) rfl rfl rfl
    have eb : p1_shut_at R = .ok .nx R := by
      unfold p1_shut_at
      exact if_f (fAnd_f c1) rfl
    show forL _ p1_shut_at (.tup [.int (k : Int), .non] :: enumD (k + 1) (os.map optD)) _ = _
    rw [forL_cons (ρ1 := R) rfl eb]
    exact e
  | some n :: os, k, a, b, h => by
    have hn := h n (by simp)
    let R : Env := shE lines told (some (.imm (.int (k : Int)))) (some (.imm (.int (n : Int))))
    have c1 : fBinT (vIs true) (fPeek 3) (fD (mP .non)) R = .ok true R := fBinT_of (a := .int n) (b := .non) (fPeek_of rfl) (fD_of fP_of) rfl rfl rfl
    have hx := List.getElem?_eq_getElem hn
    have c2 : fNot (fTru (fD (fFld "Line" "lets" (fBin vIx (fPeek 0) (fPeek 3))))) R = .ok (!letsAt lines n) R := by
      refine fNot_of (fTru_of (d := .bl (letsAt lines n)) (fD_of ?_) rfl rfl)
      have := fld_lets (x := lines[n]) (fe := fBin vIx (fPeek 0) (fPeek 3)) (ρ := R) (ρ' := R) (fBin_of (a := .lst (lines.map lnO)) (b := .int n) (fPeek_of rfl) (fPeek_of rfl) rfl rfl (show atI (lines.map lnO) (n : Int) = _ from atI_nat (by rw [List.getElem?_map, hx]; rfl)))
      rw [this]
      unfold letsAt
      rw [hx]
    rw [shutGo]
    cases hl : letsAt lines n with
    | false =>
      rw [hl] at c2
      refine ⟨some (.imm (.int (k : Int))), some (.imm (.int (n : Int))), ?_⟩
      have eb : p1_shut_at R = .ok (.rt (.int (k : Int))) R := by
        unfold p1_shut_at
        exact if_t (fAnd_tt c1 c2) (fRet_of (fName_of rfl))
      show forL _ p1_shut_at (.tup [.int (k : Int), .int (n : Int)] :: enumD (k + 1) (os.map optD)) _ = _
      unfold forL
      rw [show stTup 2 (stCons (stN 2) (stCons (stN 3) stNil)) (.tup [.int (k : Int), .int (n : Int)]) (shE lines told a b) = some R from rfl]
      simp only [eb, if_true]
      rfl
    | true =>
      rw [hl] at c2
      obtain ⟨a', b', e⟩ := sh_loop lines told os (k + 1) (some (.imm (.int (k : Int)))) (some (.imm (.int (n : Int)))) fun n hn => h n (by simp [hn])
      refine ⟨a', b', ?_⟩
      have eb : p1_shut_at R = .ok .nx R := by
        unfold p1_shut_at
        exact if_f (fAnd_tt c1 c2) rfl
      show forL _ p1_shut_at (.tup [.int (k : Int), .int (n : Int)] :: enumD (k + 1) (os.map optD)) _ = _
      rw [forL_cons (ρ1 := R) rfl eb]
      simp only [Bool.true_eq_false, if_false]
      exact e
theorem shut_eq (lines : List Ln) {told : List (Option Nat)} (h : ∀ n, some n ∈ told → n < lines.length) : f_shut_at [.lst (lines.map lnO), .lst (told.map optD)] = .ok (optD (shutGo lines 0 told)) := by
  show resOf (b_shut_at [some (.imm (.lst (lines.map lnO))), some (.imm (.lst (told.map optD))), none, none]) = _
  obtain ⟨a', b', e⟩ := sh_loop lines told told 0 none none h
  unfold b_shut_at
  have ei : fItA enumOf (fCons (fName 1) (mP [])) (shE lines told none none) = .ok (enumD 0 (told.map optD)) (shE lines told none none) := fItA_of (fC1_of (fName_of rfl)) rfl
  cases hs : shutGo lines 0 told with
  | none =>
    rw [hs] at e
    exact run_rt (seq_nx (fFor_of ei e) (fRet_of fP_of))
  | some j =>
    rw [hs] at e
    exact run_rt (fSeq_rt (fFor_of ei e))
/-- what is judged: of heads and lines -/
def judP (lines : List Ln) (names : List (List Nat)) : Da := match shutGo lines 0 (decP lines names false) with
  | none => .tup [.bl false, .non, optD ((decP lines names false).getD (names.length - 1) none)]
  | some j => .tup [.bl true, .int (j : Int), optD ((decP lines names false).getD j none)]
theorem lastGo_lt (names : List (List Nat)) (folder : Bool) (j : Nat) : ∀ (xs : List Ln) (k : Nat) (o : Option Nat) (m : Nat), (∀ n, o = some n → n < m) → k + xs.length ≤ m → ∀ n, lastGo names folder j k xs o = some n → n < m
  | [], k, o, m, h, _, n, e => h n e
  | x :: xs, k, o, m, h, hk, n, e => by
    rw [List.length_cons] at hk
    rw [lastGo] at e
    refine lastGo_lt names folder j xs (k + 1) _ m (fun z hz => ?_) (by omega) n e
    split at hz
    · cases hz; omega
    · exact h z hz
theorem dec_lt {lines : List Ln} {names : List (List Nat)} {folder : Bool} (hx : ∀ x ∈ lines, Small x.2.1) : ∀ n, some n ∈ decP lines names folder → n < lines.length := fun n hn => by
  obtain ⟨j, hj⟩ := List.mem_iff_getElem?.mp hn
  have hl : j < names.length := by
    have := (List.getElem?_eq_some_iff.mp hj).1
    rwa [decP_len] at this
  rw [decP_at folder hl hx] at hj
  exact lastGo_lt names folder j lines 0 none lines.length (fun _ h => by cases h) (by omega) n (Option.some.inj hj)
theorem shutGo_lt (lines : List Ln) : ∀ (os : List (Option Nat)) (k j : Nat), shutGo lines k os = some j → k ≤ j ∧ j < k + os.length ∧ ∃ n, os[j - k]? = some (some n)
  | [], k, j, h => by cases h
  | none :: os, k, j, h => by
    obtain ⟨h1, h2, n, h3⟩ := shutGo_lt lines os (k + 1) j h
    refine ⟨by omega, by rw [List.length_cons]; omega, n, ?_⟩
    rw [show j - k = (j - (k + 1)) + 1 by omega, List.getElem?_cons_succ]
    exact h3
  | some m :: os, k, j, h => by
    rw [shutGo] at h
    split at h
    · cases h
      exact ⟨Nat.le_refl _, by rw [List.length_cons]; omega, m, by simp⟩
    · obtain ⟨h1, h2, n, h3⟩ := shutGo_lt lines os (k + 1) j h
      refine ⟨by omega, by rw [List.length_cons]; omega, n, ?_⟩
      rw [show j - k = (j - (k + 1)) + 1 by omega, List.getElem?_cons_succ]
      exact h3
theorem judged_of_eq {lines : List Ln} {names : List (List Nat)} (hne : names ≠ []) (hn : names.length ≤ 1000) (hx : ∀ x ∈ lines, Small x.2.1) : f_judged_of [.lst (lines.map lnO), .lst (names.map .str)] = .ok (judP lines names) := by
  let E (a b : Option Ce) : Env := [some (.imm (.lst (lines.map lnO))), some (.imm (.lst (names.map .str))), a, b]
  let D := decP lines names false
  have hDl : D.length = names.length := decP_len _ _ _
  have hpos := List.length_pos_iff.mpr hne
  show resOf (b_judged_of (E none none)) = _
  let DD : Option Ce := some (.imm (.lst (D.map optD)))
  have s1 : fAsg 2 (fDef f_deciding [] (fCons (fName 0) (fCons (fName 1) (fCons (mP (.bl false)) (mP []))))) (E none none) = .ok .nx (E DD none) := fAsg_of (fDef_of (fC3_of (fName_of rfl) (fName_of rfl) fP_of) (deciding_eq false hn hx))
  have s2 : fAsg 3 (fDef f_shut_at [] (fCons (fName 0) (fCons (fName 2) (mP [])))) (E DD none) = .ok .nx (E DD (some (.imm (optD (shutGo lines 0 D))))) := fAsg_of (fDef_of (fC2_of (fName_of rfl) (fName_of rfl)) (shut_eq lines (dec_lt hx)))
  unfold b_judged_of judP
  have at_ : ∀ (j : Nat) (ρ : Env) (fb : EM Pk) (pk : Pk) (i : Int), ρ[2]? = some DD → fb ρ = .ok pk ρ → look ρ pk = some (.int i) → atI (D.map optD) i = some (optD (D.getD j none)) → fBin vIx (fPeek 2) fb ρ = .ok (optD (D.getD j none)) ρ := fun j ρ fb pk i h1 h2 h3 h4 => fBin_of (a := .lst (D.map optD)) (b := .int i) (fPeek_of h1) h2 (by simp only [look, h1, DD]) h3 h4
  cases hs : shutGo lines 0 D with
  | none =>
    rw [hs] at s2
    simp only [show decP lines names false = D from rfl, hs]
    refine run_rt (ρ' := E DD (some (.imm .non))) (seq_nx s1 (seq_nx s2 ?_))
    have c1 : fBinT (vIs false) (fPeek 3) (fD (mP .non)) (E DD (some (.imm .non))) = .ok true (E DD (some (.imm .non))) := fBinT_of (a := .non) (b := .non) (fPeek_of rfl) (fD_of fP_of) rfl rfl rfl
    refine fSeq_rt (if_t c1 (fRet_of (fTup_of (fC3_of fP_of fP_of (at_ (names.length - 1) _ _ (.d (.int (-1))) (-1) rfl (fD_of (show fNeg (mP (.int 1)) (E DD (some (.imm .non))) = .ok (.int (-1)) _ from rfl)) rfl ?_)) (by simp))))
    refine atI_neg1 (n := names.length - 1) (by rw [List.length_map, hDl]; omega) ?_
    rw [List.getElem?_map, List.getD_eq_getElem?_getD, List.getElem?_eq_getElem (by omega)]
    rfl
  | some j =>
    rw [hs] at s2
    simp only [show decP lines names false = D from rfl, hs]
    obtain ⟨_, hj, _⟩ := shutGo_lt lines D 0 j hs
    refine run_rt (ρ' := E DD (some (.imm (.int (j : Int))))) (seq_nx s1 (seq_nx s2 ?_))
    have c1 : fBinT (vIs false) (fPeek 3) (fD (mP .non)) (E DD (some (.imm (.int (j : Int))))) = .ok false (E DD (some (.imm (.int (j : Int))))) := fBinT_of (a := .int j) (b := .non) (fPeek_of rfl) (fD_of fP_of) rfl rfl rfl
    refine seq_if c1 (fRet_of (fTup_of (fC3_of fP_of (fName_of rfl) (at_ j _ _ (.s 3) (j : Int) rfl (fPeek_of rfl) rfl ?_)) (by simp)))
    refine atI_nat ?_
    rw [List.getElem?_map, List.getD_eq_getElem?_getD, List.getElem?_eq_getElem (by omega)]
    rfl
theorem judged_eq {ts : List Tl} (h : ∀ t ∈ ts, OkT t) (hl : ts.length ≤ 100) {names : List (List Nat)} (hp : OkPath names) : f_judged [.lst (txD ts), .str (joinN [47] names)] = .ok (judP (ts.map (·.2)) names) := by
  have hnl := join_names_len (names := names)
  have hpl := hp.len
  show resOf (b_judged [some (.imm (.lst (txD ts))), some (.imm (.str (joinN [47] names))), none]) = _
  refine run_rt (ρ' := [some (.imm (.lst (txD ts))), some (.imm (.str (joinN [47] names))), some (.imm (.lst ((ts.map (·.2)).map lnO)))]) ?_
  unfold b_judged
  refine seq_nx (fAsg_of (fDef_of (fC1_of (fName_of rfl)) (lines_of_eq h hl))) ?_
  exact fRet_of (fDef_of (fC2_of (fName_of rfl) (fDef_of (fC1_of (fName_of rfl)) (names_of_eq hp))) (judged_of_eq hp.ne (by omega) fun x hx => by
    obtain ⟨t, ht, rfl⟩ := List.mem_map.mp hx
    exact (h t ht).2))
end Kb
namespace Kb
open Vl
open L2 (ixN atI)
/-! the law's own judging -/
def daLn (x : Ln) : Da := daL x.1 x.2.1 x.2.2
def rowD (names : List (List Nat)) (x : Ln) : Da := .lst ((partP isMany fitL names x.2.1).map .bl)
theorem part_at {ps : List LP} {names : List (List Nat)} {j : Nat} (hj : j < names.length) : (partP isMany fitL names ps).getD (j + 1) false = pathB ps (names.take (j + 1)) := by
  have h1 := (part_rows isMany fitL names ps ps.length (Nat.le_refl _)).2 (j + 1) (by omega)
  rw [List.take_length] at h1
  have hl : (names.take (j + 1)).length = j + 1 := by rw [List.length_take]; omega
  rw [Bool.eq_iff_iff, h1]
  unfold pathB
  rw [full_iff, hl, eM_take isMany fitL ps names ps.length (j + 1) (Nat.le_refl _)]
abbrev ljE (lines : List Ln) (names : List (List Nat)) (line at_ dec num : Option Ce) : Env := [some (.imm (.lst (lines.map daLn))), some (.imm (.str (joinN [47] names))), some (.imm (.lst (names.map .str))), some (.lst (lines.map (rowD names))), line, at_, dec, num]
theorem lj_body {lines : List Ln} {names : List (List Nat)} {j : Nat} (hj : j < names.length) (o : Option Nat) {k : Nat} {x : Ln} (hk : lines[k]? = some x) :
    p2__law_judged (ljE lines names (some (.imm (daLn x))) (some (.imm (.int (j : Int)))) (some (.imm (optD o))) (some (.imm (.int (k : Int))))) = .ok .nx (ljE lines names (some (.imm (daLn x))) (some (.imm (.int (j : Int)))) (some (.imm (optD (if headB x names false j = true then some k else o)))) (some (.imm (.int (k : Int))))) := by
  let R : Env := ljE lines names (some (.imm (daLn x))) (some (.imm (.int (j : Int)))) (some (.imm (optD o))) (some (.imm (.int (k : Int))))
  have hlen := part_len isMany fitL names x.2.1
  have e1 : fBin vAdd (fPeek 5) (fD (mP (.int 1))) R = .ok (.int ((j + 1 : Nat) : Int)) R := fBin_of (a := .int j) (b := .int 1) (fPeek_of rfl) (fD_of fP_of) rfl rfl rfl
  have e2 : fBin vIx (fPeek 3) (fPeek 7) R = .ok (rowD names x) R := fBin_of (a := .lst (lines.map (rowD names))) (b := .int k) (fPeek_of rfl) (fPeek_of rfl) rfl rfl (show atI (lines.map (rowD names)) (k : Int) = _ from atI_nat (by rw [List.getElem?_map, hk]; rfl))
  have c1 : fTru (fD (fBin vIx (fD (fBin vIx (fPeek 3) (fPeek 7))) (fD (fBin vAdd (fPeek 5) (fD (mP (.int 1))))))) R = .ok (pathB x.2.1 (names.take (j + 1))) R := by
    refine fTru_of (d := .bl (pathB x.2.1 (names.take (j + 1)))) (fD_of (fBin_of (a := rowD names x) (b := .int ((j + 1 : Nat) : Int)) (fD_of e2) (fD_of e1) rfl rfl ?_)) rfl rfl
    show atI ((partP isMany fitL names x.2.1).map Da.bl) ((j + 1 : Nat) : Int) = _
    have hlt : j + 1 < (partP isMany fitL names x.2.1).length := by omega
    refine atI_nat ?_
    rw [← part_at hj, List.getElem?_map, List.getD_eq_getElem?_getD, List.getElem?_eq_getElem hlt]
    rfl
  have c3 : fBinT vLt (fD (fBin vAdd (fPeek 5) (fD (mP (.int 1))))) (fD (fCall vLen (fCons (fPeek 2) (mP [])))) R = .ok (decide (j + 1 < names.length)) R := by
    refine fBinT_of (a := .int ((j + 1 : Nat) : Int)) (b := .int names.length) (fD_of e1) (fD_of (fCall_of (fC1_of (fPeek_of rfl)) rfl (show some (Da.int ((names.map Da.str).length : Int)) = some (Da.int names.length) by rw [List.length_map]))) rfl rfl ?_
    show some (Da.bl (decide (((j + 1 : Nat) : Int) < names.length))) = _
    congr 2
    rw [Bool.eq_iff_iff, decide_eq_true_eq, decide_eq_true_eq]
    omega
  have c4 : fNot (fTru (fD (fBin vIx (fPeek 4) (fD (mP (.int 2)))))) R = .ok (!x.2.2) R := fNot_of (fTru_of (d := .bl x.2.2) (fD_of (fBin_of (a := daLn x) (b := .int 2) (fPeek_of rfl) (fD_of fP_of) rfl rfl rfl)) rfl rfl)
  have c2 : fOr (fBinT vLt (fD (fBin vAdd (fPeek 5) (fD (mP (.int 1))))) (fD (fCall vLen (fCons (fPeek 2) (mP []))))) (fNot (fTru (fD (fBin vIx (fPeek 4) (fD (mP (.int 2))))))) R = .ok (decide (j + 1 < names.length) || !x.2.2) R := by
    cases h : decide (j + 1 < names.length) with
    | true => rw [h] at c3; exact fOr_t c3
    | false => rw [h] at c3; rw [Bool.false_or]; exact fOr_ff c3 c4
  have cc : fAnd (fTru (fD (fBin vIx (fD (fBin vIx (fPeek 3) (fPeek 7))) (fD (fBin vAdd (fPeek 5) (fD (mP (.int 1)))))))) (fOr (fBinT vLt (fD (fBin vAdd (fPeek 5) (fD (mP (.int 1))))) (fD (fCall vLen (fCons (fPeek 2) (mP []))))) (fNot (fTru (fD (fBin vIx (fPeek 4) (fD (mP (.int 2)))))))) R = .ok (headB x names false j) R := by
    unfold headB
    rw [Bool.false_or]
    cases h : pathB x.2.1 (names.take (j + 1)) with
    | false => rw [h] at c1; rw [Bool.false_and]; exact fAnd_f c1
    | true => rw [h] at c1; rw [Bool.true_and]; exact fAnd_tt c1 c2
  unfold p2__law_judged
  cases h : headB x names false j with
  | true =>
    rw [h] at cc
    exact if_t cc (fAsg_of (fName_of rfl))
  | false =>
    rw [h] at cc
    exact if_f cc rfl
theorem lj_in {lines : List Ln} {names : List (List Nat)} {j : Nat} (hj : j < names.length) : ∀ (xs : List Ln) (k : Nat) (o : Option Nat) (a b : Option Ce), lines.drop k = xs →
    ∃ a' b', forL (stTup 2 (stCons (stN 7) (stCons (stN 4) stNil))) p2__law_judged (enumD k (xs.map daLn)) (ljE lines names a (some (.imm (.int (j : Int)))) (some (.imm (optD o))) b) = .ok .nx (ljE lines names a' (some (.imm (.int (j : Int)))) (some (.imm (optD (lastGo names false j k xs o)))) b')
  | [], k, o, a, b, _ => ⟨a, b, rfl⟩
  | x :: xs, k, o, a, b, hd => by
    have hk : lines[k]? = some x := by
      have : (lines.drop k)[0]? = some x := by rw [hd]; rfl
      rwa [List.getElem?_drop, Nat.add_zero] at this
    have hd2 : lines.drop (k + 1) = xs := by
      have : (lines.drop k).drop 1 = xs := by rw [hd]; rfl
      rwa [List.drop_drop] at this
    obtain ⟨a', b', e⟩ := lj_in hj xs (k + 1) (if headB x names false j = true then some k else o) (some (.imm (daLn x))) (some (.imm (.int (k : Int)))) hd2
    refine ⟨a', b', ?_⟩
    show forL _ p2__law_judged (.tup [.int (k : Int), daLn x] :: enumD (k + 1) (xs.map daLn)) _ = _
    rw [forL_cons (ρ1 := ljE lines names (some (.imm (daLn x))) (some (.imm (.int (j : Int)))) (some (.imm (optD o))) (some (.imm (.int (k : Int))))) rfl (lj_body hj o hk)]
    exact e
theorem lj_head {lines : List Ln} {names : List (List Nat)} {j : Nat} (hj : j < names.length) (a d b : Option Ce) : ∃ a' b', p3__law_judged (ljE lines names a (some (.imm (.int (j : Int)))) d b) = match lastGo names false j 0 lines none with
    | none => .ok .nx (ljE lines names a' (some (.imm (.int (j : Int)))) (some (.imm .non)) b')
    | some n => if letsAt lines n = false then .ok (.rt (.tup [.bl true, .int (j : Int), .int (n : Int)])) (ljE lines names a' (some (.imm (.int (j : Int)))) (some (.imm (.int (n : Int)))) b') else .ok .nx (ljE lines names a' (some (.imm (.int (j : Int)))) (some (.imm (.int (n : Int)))) b') := by
  obtain ⟨a', b', e⟩ := lj_in (lines := lines) hj lines 0 none a b rfl
  refine ⟨a', b', ?_⟩
  unfold p3__law_judged
  have pre : ∀ {g : EM Fl} {o : Out Fl}, g (ljE lines names a' (some (.imm (.int (j : Int)))) (some (.imm (optD (lastGo names false j 0 lines none)))) b') = o → fSeq (fAsg 6 (mP .non)) (fSeq (fFor (fItA enumOf (fCons (fName 0) (mP []))) (stTup 2 (stCons (stN 7) (stCons (stN 4) stNil))) p2__law_judged) g) (ljE lines names a (some (.imm (.int (j : Int)))) d b) = o := fun {g o} h =>
    seq_nx (ρ' := ljE lines names a (some (.imm (.int (j : Int)))) (some (.imm .non)) b) (fAsg_of fP_of) (seq_nx (fFor_of (fItA_of (fC1_of (fName_of rfl)) rfl) e) h)
  cases hl : lastGo names false j 0 lines none with
  | none =>
    rw [hl] at pre
    refine pre ?_
    let R : Env := ljE lines names a' (some (.imm (.int (j : Int)))) (some (.imm .non)) b'
    have c1 : fBinT (vIs true) (fPeek 6) (fD (mP .non)) R = .ok false R := fBinT_of (a := .non) (b := .non) (fPeek_of rfl) (fD_of fP_of) rfl rfl rfl
    exact if_f (fAnd_f c1) rfl
  | some n =>
    rw [hl] at pre
    let R : Env := ljE lines names a' (some (.imm (.int (j : Int)))) (some (.imm (.int (n : Int)))) b'
    have hn : n < lines.length := lastGo_lt names false j lines 0 none lines.length (fun _ h => by cases h) (by omega) n hl
    have hx := List.getElem?_eq_getElem hn
    have c1 : fBinT (vIs true) (fPeek 6) (fD (mP .non)) R = .ok true R := fBinT_of (a := .int n) (b := .non) (fPeek_of rfl) (fD_of fP_of) rfl rfl rfl
    have e2 : fBin vIx (fPeek 0) (fPeek 6) R = .ok (daLn lines[n]) R := fBin_of (a := .lst (lines.map daLn)) (b := .int n) (fPeek_of rfl) (fPeek_of rfl) rfl rfl (show atI (lines.map daLn) (n : Int) = _ from atI_nat (by rw [List.getElem?_map, hx]; rfl))
    have c2 : fNot (fTru (fD (fBin vIx (fD (fBin vIx (fPeek 0) (fPeek 6))) (fD (mP (.int 0)))))) R = .ok (!letsAt lines n) R := by
      have el : letsAt lines n = lines[n].1 := by unfold letsAt; rw [hx]
      rw [el]
      exact fNot_of (fTru_of (d := .bl lines[n].1) (fD_of (fBin_of (a := daLn lines[n]) (b := .int 0) (fD_of e2) (fD_of fP_of) rfl rfl rfl)) rfl rfl)
    simp only
    cases h : letsAt lines n with
    | false =>
      rw [h] at c2
      simp only [if_true]
      exact pre (if_t (fAnd_tt c1 c2) (fRet_of (fTup_of (fC3_of fP_of (fName_of rfl) (fName_of rfl)) (by simp))))
    | true =>
      rw [h] at c2
      simp only [Bool.true_eq_false, if_false]
      exact pre (if_f (fAnd_tt c1 c2) rfl)
theorem lj_out {lines : List Ln} {names : List (List Nat)} (hx : ∀ x ∈ lines, Small x.2.1) : ∀ (cnt j : Nat) (a c d b : Option Ce), j + cnt = names.length →
    ∃ a' c' b', forL (stN 5) p3__law_judged (rangeD (j : Int) cnt) (ljE lines names a c d b) = match shutGo lines j ((decP lines names false).drop j) with
      | none => .ok .nx (ljE lines names a' c' (if cnt = 0 then d else some (.imm (optD ((decP lines names false).getD (names.length - 1) none)))) b')
      | some i => .ok (.rt (.tup [.bl true, .int (i : Int), optD ((decP lines names false).getD i none)])) (ljE lines names a' c' (some (.imm (optD ((decP lines names false).getD i none)))) b')
  | 0, j, a, c, d, b, hj => by
    refine ⟨a, c, b, ?_⟩
    have : (decP lines names false).drop j = [] := List.drop_eq_nil_of_le (by rw [decP_len]; omega)
    rw [this, rangeD_zero, shutGo]
    simp only [if_true]
    rfl
  | cnt + 1, j, a, c, d, b, hj => by
    have hlt : j < names.length := by omega
    have hD := decP_at (lines := lines) false hlt hx
    have hDl := decP_len lines names false
    have hdr : (decP lines names false).drop j = lastGo names false j 0 lines none :: (decP lines names false).drop (j + 1) := by
      rw [List.drop_eq_getElem_cons (by omega)]
      congr 1
      exact Option.some.inj ((List.getElem?_eq_getElem (by omega)).symm.trans hD)
    have hget : (decP lines names false).getD j none = lastGo names false j 0 lines none := by
      rw [List.getD_eq_getElem?_getD, hD]
      rfl
    obtain ⟨a1, b1, e1⟩ := lj_head (lines := lines) hlt a d b
    rw [hdr, rangeD_succ]
    cases hl : lastGo names false j 0 lines none with
    | none =>
      rw [hl] at e1 hget
      simp only at e1
      obtain ⟨a', c', b', e2⟩ := lj_out (names := names) hx cnt (j + 1) a1 (some (.imm (.int (j : Int)))) (some (.imm .non)) b1 (by omega)
      refine ⟨a', c', b', ?_⟩
      rw [forL_cons (ρ1 := ljE lines names a (some (.imm (.int (j : Int)))) d b) rfl e1, shutGo]
      have hc : (if cnt = 0 then some (Ce.imm Da.non) else some (.imm (optD ((decP lines names false).getD (names.length - 1) none)))) = (if cnt + 1 = 0 then d else some (.imm (optD ((decP lines names false).getD (names.length - 1) none)))) := by
        rw [if_neg (by omega : ¬ cnt + 1 = 0)]
        split
        · have : names.length - 1 = j := by omega
          rw [this, hget]
          rfl
        · rfl
      rw [← hc]
      exact e2
    | some n =>
      rw [hl] at e1 hget
      simp only at e1
      rw [shutGo]
      cases h : letsAt lines n with
      | false =>
        rw [h] at e1
        simp only [if_true] at e1 ⊢
        refine ⟨a1, some (.imm (.int (j : Int))), b1, ?_⟩
        unfold forL
        rw [show stN 5 (Da.int (j : Int)) (ljE lines names a c d b) = some (ljE lines names a (some (.imm (.int (j : Int)))) d b) from rfl]
        simp only [e1, hget]
        rfl
      | true =>
        rw [h] at e1
        simp only [Bool.true_eq_false, if_false] at e1 ⊢
        obtain ⟨a', c', b', e2⟩ := lj_out (names := names) hx cnt (j + 1) a1 (some (.imm (.int (j : Int)))) (some (.imm (.int (n : Int)))) b1 (by omega)
        refine ⟨a', c', b', ?_⟩
        rw [forL_cons (ρ1 := ljE lines names a (some (.imm (.int (j : Int)))) d b) rfl e1]
        have hc : (if cnt = 0 then some (Ce.imm (Da.int (n : Int))) else some (.imm (optD ((decP lines names false).getD (names.length - 1) none)))) = (if cnt + 1 = 0 then d else some (.imm (optD ((decP lines names false).getD (names.length - 1) none)))) := by
          rw [if_neg (by omega : ¬ cnt + 1 = 0)]
          split
          · have : names.length - 1 = j := by omega
            rw [this, hget]
            rfl
          · rfl
        rw [← hc]
        exact e2
theorem law_judged_eq {lines : List Ln} (hll : lines.length ≤ 1000) (hx : ∀ x ∈ lines, Small x.2.1) {names : List (List Nat)} (hp : OkPath names) : f__law_judged [.lst (lines.map daLn), .str (joinN [47] names)] = .ok (judP lines names) := by
  have hnl := join_names_len (names := names)
  have hpl := hp.len
  have hpos := List.length_pos_iff.mpr hp.ne
  have hy : ∀ y ∈ names, y.length ≤ 1000 := fun y hy => by have := join_name_len y hy; omega
  obtain ⟨a', c', b', e⟩ := lj_out hx names.length 0 none none none none (by omega) (names := names)
  rw [List.drop_zero] at e
  let R0 : Env := [some (.imm (.lst (lines.map daLn))), some (.imm (.str (joinN [47] names))), none, none, none, none, none, none]
  let R1 : Env := [some (.imm (.lst (lines.map daLn))), some (.imm (.str (joinN [47] names))), some (.imm (.lst (names.map .str))), none, none, none, none, none]
  show resOf (b__law_judged R0) = _
  have s1 : fAsg 2 (fN (fMn sSplit (fName 1) (fCons (fD (mP (.str [47]))) (mP [])))) R0 = .ok .nx R1 := by
    have e : sSplit (joinN [47] names) [.str [47]] = some (names.map .str) := by
      show (if [47] ≠ [] ∧ ([47] : List Nat).all (· < 256) = true ∧ (joinN [47] names).length ≤ 16777000 then some ((TL.spl [47] 0 [] (joinN [47] names)).map Da.str) else none) = _
      rw [if_pos ⟨by simp, by decide, by omega⟩, split_names hp]
    have : fMn sSplit (fName 1) (fCons (fD (mP (.str [47]))) (mP [])) R0 = .ok (names.map .str) R0 := by
      simp only [fMn, mB, fName_of (i := 1) (ρ := R0) rfl, fC1_of (fD_of fP_of), lookA, look, e, mO]
    exact fAsg_of (fN_of this)
  have s2 : fAsgN 3 (fComp [4] (fIt itemsL (fName 0)) (stN 4) (mP true) p1__law_judged) R1 = .ok .nx (ljE lines names none none none none) := by
    refine fAsgN_of (fComp_of (fIt_of (fName_of rfl) rfl) (compL_all (g := daLn) (y := rowD names) lines _ (ρw := R1) rfl (fun x hx => ⟨_, rfl, ?_, rfl⟩) (by omega)))
    exact fDef_of (fC3_of (fName_of rfl) (fBin_of (a := daLn x) (b := .int 1) (d := .lst (x.2.1.map daP)) (fPeek_of rfl) (fD_of fP_of) rfl rfl rfl) fP_of) (parted2_eq (by omega) hy)
  have s3 : fItA rng1 (fCons (fCall vLen (fCons (fPeek 2) (mP []))) (mP [])) (ljE lines names none none none none) = .ok (rangeD 0 names.length) (ljE lines names none none none none) := by
    refine fItA_of (fC1_of (fCall_of (fC1_of (fPeek_of rfl)) rfl (show some (Da.int ((names.map Da.str).length : Int)) = some (Da.int names.length) by rw [List.length_map]))) ?_
    have := rng1_small (k := (names.length : Int)) (by omega) (by omega)
    rwa [Int.toNat_natCast] at this
  unfold b__law_judged judP
  cases hs : shutGo lines 0 (decP lines names false) with
  | none =>
    rw [hs] at e
    simp only at e
    rw [if_neg (by omega)] at e
    exact run_rt (seq_nx s1 (seq_nx s2 (seq_nx (fFor_of s3 e) (fRet_of (fTup_of (fC3_of fP_of fP_of (fName_of rfl)) (by simp))))))
  | some i =>
    rw [hs] at e
    exact run_rt (seq_nx s1 (seq_nx s2 (fSeq_rt (fFor_of s3 e))))
end Kb
namespace Kb
open Vl
open L2 (ixN atI)
/-! what is said is right -/
theorem cutD_one {α : Type} (d : α) (ds : List α) : cutD (d :: ds) (some 1) none = ds := by
  unfold cutD
  rw [HT.sIx_none]
  have e : HT.sIx (d :: ds).length 0 (some 1) = min 1 (d :: ds).length := HT.sIx_nat (d :: ds).length 0 1
  rw [e, List.length_cons, Nat.min_eq_left (by omega)]
  simp
theorem judP_form (lines : List Ln) (names : List (List Nat)) : ∃ v a b, judP lines names = .tup [.bl v, optD a, optD b] := by
  unfold judP
  split
  · exact ⟨false, none, _, rfl⟩
  · rename_i j _
    exact ⟨true, some j, _, rfl⟩
theorem vEq_jud (v : Bool) (a b : Option Nat) : vEq false (.tup [.bl v, optD a, optD b]) (.tup [.bl v, optD a, optD b]) = some (.bl true) := by
  unfold vEq
  cases a <;> cases b <;> simp [optD, plainD, plainA, dep, depA, dq, dqA]
theorem fCallN_of {r : List Da → Option (List Da)} {fa : EM (List Pk)} {ρ ρ1 : Env} {ps : List Pk} {ds d : List Da} (h : fa ρ = .ok ps ρ1) (l : lookA ρ1 ps = some ds) (hr : r ds = some d) : fCallN r fa ρ = .ok d ρ1 := by
  simp only [fCallN, mB, h, l, hr, mO]
abbrev srE (lines : List Ln) (ts : List Tl) (w : List Nat) (a b c d : Option Ce) : Env := [some (.imm (.lst (lines.map daLn))), some (.imm (.lst (txD ts))), some (.imm (.str w)), a, b, c, d]
theorem sr_num (lines : List Ln) (ts : List Tl) (w : List Nat) (a b c : Option Ce) (o : Option Nat) : p1__law_said_right (srE lines ts w a b c (some (.imm (optD o)))) = .ok .nx (srE lines ts w a b c (some (.imm (optD o)))) := by
  let R : Env := srE lines ts w a b c (some (.imm (optD o)))
  have c1 : fTru (fD (fCall vIsi (fCons (fPeek 6) (fCons (fD (mP (.ty "bool"))) (mP []))))) R = .ok false R :=
    fTru_of (d := .bl false) (fD_of (fCall_of (ds := [optD o, .ty "bool"]) (fC2_of (fPeek_of rfl) (fD_of fP_of)) rfl (by cases o <;> rfl))) rfl rfl
  unfold p1__law_said_right
  cases o with
  | none =>
    have c2 : fTru (fD (fCall vIsi (fCons (fPeek 6) (fCons (fD (mP (.ty "int"))) (mP []))))) R = .ok false R := fTru_of (d := .bl false) (fD_of (fCall_of (ds := [.non, .ty "int"]) (fC2_of (fPeek_of rfl) (fD_of fP_of)) rfl rfl)) rfl rfl
    have c3 : fBinT (vIs true) (fPeek 6) (fD (mP .non)) R = .ok false R := fBinT_of (a := .non) (b := .non) (fPeek_of rfl) (fD_of fP_of) rfl rfl rfl
    exact if_f (fOr_ff c1 (fAnd_tt (fNot_of c2) c3)) rfl
  | some n =>
    have c2 : fTru (fD (fCall vIsi (fCons (fPeek 6) (fCons (fD (mP (.ty "int"))) (mP []))))) R = .ok true R := fTru_of (d := .bl true) (fD_of (fCall_of (ds := [.int n, .ty "int"]) (fC2_of (fPeek_of rfl) (fD_of fP_of)) rfl rfl)) rfl rfl
    exact if_f (fOr_ff c1 (fAnd_f (fNot_of c2))) rfl
theorem said_right_eq {ts : List Tl} (h : ∀ t ∈ ts, OkT t) (hl : ts.length ≤ 100) {names : List (List Nat)} (hp : OkPath names) :
    f__law_said_right [.lst ((ts.map (·.2)).map daLn), .lst (txD ts), .str (joinN [47] names)] = .ok (.bl true) := by
  have hx : ∀ x ∈ ts.map (·.2), Small x.2.1 := fun x hx => by
    obtain ⟨t, ht, rfl⟩ := List.mem_map.mp hx
    exact (h t ht).2
  obtain ⟨v, a, b, hj⟩ := judP_form (ts.map (·.2)) names
  have ej := judged_eq h hl hp
  have el := law_judged_eq (lines := ts.map (·.2)) (by rw [List.length_map]; omega) hx hp
  rw [hj] at ej el
  let J : Da := .tup [.bl v, optD a, optD b]
  let w := joinN [47] names
  let HD : Option Ce := some (.imm (.lst (txD ts)))
  let JD : Option Ce := some (.imm J)
  let E (p q r s : Option Ce) : Env := srE (ts.map (·.2)) ts w p q r s
  show resOf (b__law_said_right (E none none none none)) = _
  have hlen : (txD ts).length ≤ 16777216 := by unfold txD; simp; omega
  have s1 : fAsg 3 (fN (fCallN vListOf (fCons (fPeek 1) (mP [])))) (E none none none none) = .ok .nx (E HD none none none) := by
    refine fAsg_of (fN_of (fCallN_of (fC1_of (fPeek_of rfl)) rfl ?_))
    show (if (txD ts).length ≤ 16777216 then some (txD ts) else none) = _
    rw [if_pos hlen]
  have s2 : fPar2 4 5 (fCv (fDef f_judged [] (fCons (fName 3) (fCons (fName 2) (mP [])))) (fCv (fDef f__law_judged [] (fCons (fName 0) (fCons (fName 2) (mP [])))) (mP []))) (E HD none none none) = .ok .nx (E HD JD JD none) :=
    fPar2_of (fCv_of (fDef_of (fC2_of (fName_of rfl) (fName_of rfl)) ej) (fCv_of (fDef_of (fC2_of (fName_of rfl) (fName_of rfl)) el) fP_of))
  let R : Env := E HD JD JD none
  have c1 : fTru (fD (fCall vIsi (fCons (fPeek 4) (fCons (fD (mP (.ty "tuple"))) (mP []))))) R = .ok true R := fTru_of (d := .bl true) (fD_of (fCall_of (ds := [J, .ty "tuple"]) (fC2_of (fPeek_of rfl) (fD_of fP_of)) rfl rfl)) rfl rfl
  have c2 : fBinT (vEq true) (fD (fCall vLen (fCons (fPeek 4) (mP [])))) (fD (mP (.int 3))) R = .ok false R := by
    refine fBinT_of (a := .int 3) (b := .int 3) (fD_of (fCall_of (ds := [J]) (fC1_of (fPeek_of rfl)) rfl rfl)) (fD_of fP_of) rfl rfl ?_
    unfold vEq
    simp [plainD, dep, dq]
  have c3 : fTru (fD (fCall vIsi (fCons (fD (fBin vIx (fPeek 4) (fD (mP (.int 0))))) (fCons (fD (mP (.ty "bool"))) (mP []))))) R = .ok true R := fTru_of (d := .bl true) (fD_of (fCall_of (ds := [.bl v, .ty "bool"]) (fC2_of (fD_of (fBin_of (a := J) (b := .int 0) (d := .bl v) (fPeek_of rfl) (fD_of fP_of) rfl rfl rfl)) (fD_of fP_of)) rfl rfl)) rfl rfl
  have sl : fSl vSlT (fPeek 4) (fInt (mP (.int 1))) (mP none) R = .ok (.tup [optD a, optD b]) R := by
    refine fSl_of (lo := some 1) (hi := none) (d := J) (fPeek_of rfl) (fInt_of fP_of) fP_of rfl ?_
    have e0 : cutD [Da.bl v, optD a, optD b] (some 1) none = [optD a, optD b] := cutD_one _ _
    have e1 : HT.sIx 3 0 (some 1) = min 1 3 := HT.sIx_nat 3 0 1
    show (if ¬ (HT.sIx 3 0 (some 1) = 0 ∧ HT.sIx 3 3 none = 3) then some (Da.tup (cutD [Da.bl v, optD a, optD b] (some 1) none)) else none) = _
    rw [if_pos (by rw [e1]; simp), e0]
  have ef : forL (stN 6) p1__law_said_right [optD a, optD b] R = .ok .nx (E HD JD JD (some (.imm (optD b)))) := by
    rw [forL_cons (ρ1 := E HD JD JD (some (.imm (optD a)))) rfl (sr_num _ _ _ _ _ _ a), forL_cons (ρ1 := E HD JD JD (some (.imm (optD b)))) rfl (sr_num _ _ _ _ _ _ b)]
    rfl
  refine run_rt (ρ' := E HD JD JD (some (.imm (optD b)))) ?_
  unfold b__law_said_right
  refine seq_nx s1 (seq_nx s2 (seq_if (ρ' := R) (fOr_ff (fNot_of c1) (fOr_ff c2 (fNot_of c3))) (seq_nx (fFor_of (fIt_of sl rfl) ef) ?_)))
  refine fRet_of (fAndV_t (fBin_of (a := J) (b := J) (fPeek_of rfl) (fPeek_of rfl) rfl rfl (vEq_jud v a b)) (fAndV_t (fBin_of (a := .lst (txD ts)) (b := .lst (txD ts)) (fPeek_of rfl) (fPeek_of rfl) rfl rfl ?_) ?_))
  · unfold txD
    rw [vEq_strs]
    simp
  · exact fBin_of (a := J) (b := J) (fD_of (fDef_of (fC2_of (fName_of rfl) (fName_of rfl)) ej)) (fPeek_of rfl) rfl rfl (vEq_jud v a b)
end Kb
namespace Kb
open Vl
open L2 (ixN atI)
/-! many lines with their texts -/
theorem fName_l {i : Nat} {ρ : Env} {ds : List Da} (h : ρ[i]? = some (some (.lst ds))) : fName i ρ = .ok (.lst ds) (ρ.set i (some (.imm (.lst ds)))) := by
  simp only [fName, h]

abbrev smE (ns : List Int) (a m : Int) (pool : List Nat) (ts : List Tl) (c d : Option Ce) : Env := [some (.imm (.lst (ns.map .int))), some (.imm (.int a)), some (.imm (.int m)), some (.imm (.str pool)), some (.lst ((ts.map (·.2)).map daLn)), some (.lst (txD ts)), c, d]
theorem txD_app (a b : List Tl) : txD (a ++ b) = txD a ++ txD b := by unfold txD; rw [List.map_append, List.map_append]
theorem sm_body (ns : List Int) {a : Int} (ha : 0 ≤ a) (m : Int) {pool : List Nat} (hl : pool.length = 4) (hs : InSg pool) (ts : List Tl) (hts : ts.length ≤ 100) {t : Int} (ht : 0 ≤ t) (d : Option Ce) :
    ∃ x : Tl, OkT x ∧ OkPs x.2.2.1 ∧ x.2.2.1.length ≤ 3 ∧ ∃ d', p1__law_some (smE ns a m pool ts (some (.imm (.int t))) d) = .ok .nx (smE ns a m pool (ts ++ [x]) (some (.imm (.int t))) d') := by
  obtain ⟨l, ps, f, e1, ho, h3⟩ := line_ok ns (a := a + t) (by omega) hl hs
  have ed := digs_eq ns (a + t) 13 1000003 (by omega) (by decide) (by decide) (by decide) (by decide)
  have hdl := digP_len ns (a + t) 13 1000003
  obtain ⟨n, hn⟩ : ∃ n, atI ((digP ns (a + t) 13 1000003).map Da.int) ((12 : Nat) : Int) = some (.int n) := by
    refine ⟨(digP ns (a + t) 13 1000003)[12]'(by rw [hdl]; decide), atI_nat ?_⟩
    rw [List.getElem?_map, List.getElem?_eq_getElem (by rw [hdl]; decide)]
    rfl
  obtain ⟨w, ew, hw⟩ := text_ok l f ho n
  refine ⟨(w, (l, ps, f)), ⟨hw, small_of ho h3⟩, ho, h3, some (.imm (daL l ps f)), ?_⟩
  let T : Option Ce := some (.imm (.int t))
  let D : Option Ce := some (.imm (daL l ps f))
  let R : Env := smE ns a m pool ts T d
  let R1 : Env := smE ns a m pool ts T D
  let R2 : Env := [some (.imm (.lst (ns.map .int))), some (.imm (.int a)), some (.imm (.int m)), some (.imm (.str pool)), some (.lst ((ts.map (·.2)).map daLn ++ [daL l ps f])), some (.lst (txD ts)), T, D]
  have hadd : ∀ ρ : Env, ρ[1]? = some (some (.imm (.int a))) → ρ[6]? = some T → fBin vAdd (fPeek 1) (fPeek 6) ρ = .ok (.int (a + t)) ρ := fun ρ h1 h6 =>
    fBin_of (a := .int a) (b := .int t) (fPeek_of h1) (fPeek_of h6) (by simp only [look, h1]) (by simp only [look, h6, T]) rfl
  unfold p1__law_some
  refine seq_nx (ρ' := R1) (fAsg_of (fDef_of (fC3_of (fName_of rfl) (hadd R rfl rfl) (fName_of rfl)) e1)) ?_
  refine seq_nx (ρ' := R2) (fExpr_of (fApp_of (xs := (ts.map (·.2)).map daLn) (ds := (ts.map (·.2)).map daLn) rfl (fName_of rfl) rfl (by simp; omega))) ?_
  have e3 : fApp 5 (fDef f__law_other [] (fCons (fName 7) (fCons (fBin vIx (fD (fDef f__law_digits [] (fCons (fName 0) (fCons (fBin vAdd (fPeek 1) (fPeek 6)) (fCons (mP (.int 13)) (fCons (mP (.int 1000003)) (mP []))))))) (fD (mP (.int 12)))) (mP [])))) R2 = .ok .non (R2.set 5 (some (.lst (txD ts ++ [.str w])))) := by
    refine fApp_of (xs := txD ts) (ds := txD ts) (d := .str w) rfl (fDef_of (fC2_of (fName_of rfl) (fBin_of (a := .lst ((digP ns (a + t) 13 1000003).map .int)) (b := .int 12) (fD_of (fDef_of (fCons_of (fName_of rfl) (fC3_of (hadd R2 rfl rfl) fP_of fP_of)) ed)) (fD_of fP_of) rfl rfl hn)) ew) rfl (by unfold txD; simp; omega)
  have e4 := fExpr_of e3
  rw [e4]
  show Out.ok Fl.nx [_, _, _, _, _, _, _, _] = Out.ok Fl.nx [_, _, _, _, _, _, _, _]
  rw [txD_app, List.map_append, List.map_append]
  rfl
theorem sm_loop (ns : List Int) {a : Int} (ha : 0 ≤ a) (m : Int) {pool : List Nat} (hl : pool.length = 4) (hs : InSg pool) : ∀ (cnt : Nat) (t : Int) (ts : List Tl) (c d : Option Ce), 0 ≤ t → ts.length + cnt ≤ 100 → (∀ x ∈ ts, OkT x ∧ OkPs x.2.2.1 ∧ x.2.2.1.length ≤ 3) →
    ∃ ts' c' d', forL (stN 6) p1__law_some (rangeD t cnt) (smE ns a m pool ts c d) = .ok .nx (smE ns a m pool ts' c' d') ∧ ts'.length = ts.length + cnt ∧ ∀ x ∈ ts', OkT x ∧ OkPs x.2.2.1 ∧ x.2.2.1.length ≤ 3
  | 0, t, ts, c, d, _, _, h => ⟨ts, c, d, by rw [rangeD_zero]; rfl, rfl, h⟩
  | cnt + 1, t, ts, c, d, ht, hc, h => by
    obtain ⟨x, x1, x2, x3, d1, e1⟩ := sm_body ns ha m hl hs ts (by omega) ht d
    obtain ⟨ts', c', d', e2, l2, h2⟩ := sm_loop ns ha m hl hs cnt (t + 1) (ts ++ [x]) (some (.imm (.int t))) d1 (by omega) (by rw [List.length_append, List.length_singleton]; omega) fun y hy => by
      rcases List.mem_append.mp hy with hy | hy
      · exact h y hy
      · rw [List.mem_singleton.mp hy]; exact ⟨x1, x2, x3⟩
    refine ⟨ts', c', d', ?_, by rw [l2, List.length_append, List.length_singleton]; omega, h2⟩
    rw [rangeD_succ, forL_cons (ρ1 := smE ns a m pool ts (some (.imm (.int t))) d) rfl e1]
    exact e2
theorem some_ok (ns : List Int) {a : Int} (ha : 0 ≤ a) {m : Int} (hm : 0 ≤ m) (hm2 : m ≤ 100) {pool : List Nat} (hl : pool.length = 4) (hs : InSg pool) :
    ∃ ts : List Tl, f__law_some [.lst (ns.map .int), .int a, .int m, .str pool] = .ok (.tup [.lst ((ts.map (·.2)).map daLn), .lst (txD ts)]) ∧ (ts.length : Int) = m ∧ ∀ x ∈ ts, OkT x ∧ OkPs x.2.2.1 ∧ x.2.2.1.length ≤ 3 := by
  obtain ⟨ts, c, d, e, hlen, h⟩ := sm_loop ns ha m hl hs m.toNat 0 [] none none (by decide) (by simp; omega) (by simp)
  refine ⟨ts, ?_, by rw [hlen]; simp; omega, h⟩
  show resOf (b__law_some [some (.imm (.lst (ns.map .int))), some (.imm (.int a)), some (.imm (.int m)), some (.imm (.str pool)), none, none, none, none]) = _
  refine run_rt (ρ' := ((smE ns a m pool ts c d).set 4 (some (.imm (.lst ((ts.map (·.2)).map daLn))))).set 5 (some (.imm (.lst (txD ts))))) ?_
  unfold b__law_some
  refine seq_nx (ρ' := smE ns a m pool [] none none) (fPar2_of (fCn_of (fLst_of fP_of (by simp)) (fCn_of (fLst_of fP_of (by simp)) fP_of))) ?_
  refine seq_nx (ρ' := smE ns a m pool ts c d) (fFor_of (fItA_of (fC1_of (fName_of rfl)) (rng1_small hm (by omega))) e) ?_
  exact fRet_of (fTup_of (fC2_of (fName_l rfl) (fName_l rfl)) (by simp))
end Kb
namespace Kb
open Vl
open L2 (ixN atI)
/-! a path made from a line -/
def mkC (n : Int) (m : List Nat) : Nat := m.getD ((n / 5) % (m.length : Int)).toNat 0
def mkB (m : List Nat) : Bool := !decide (m = [42]) && !decide (m = [])
def mkN (n : Int) (ms : List (List Nat)) : List Nat := (ms.filter mkB).map (mkC n)
theorem mkC_ix (n : Int) {m : List Nat} (hm : m ≠ []) (hk : m.length ≤ 1000) : vIx (.str m) (.int (n / 5 % (m.length : Int))) = some (.str [mkC n m]) ∧ mkC n m ∈ m := by
  have hp := List.length_pos_iff.mpr hm
  have g0 : 0 ≤ n / 5 % (m.length : Int) := Int.emod_nonneg _ (by omega)
  have g1 : n / 5 % (m.length : Int) < m.length := Int.emod_lt_of_pos _ (by omega)
  have hlt : (n / 5 % (m.length : Int)).toNat < m.length := by omega
  have e : atI m (n / 5 % (m.length : Int)) = some (mkC n m) := by
    rw [atI_eq g0 hlt]
    unfold mkC
    rw [List.getD_eq_getElem?_getD, List.getElem?_eq_getElem hlt]
    rfl
  refine ⟨?_, ?_⟩
  · show (if m.length ≤ 16777216 then (atI m (n / 5 % (m.length : Int))).map (fun c => Da.str [c]) else none) = _
    rw [if_pos (by omega), e]
    rfl
  · unfold mkC
    rw [List.getD_eq_getElem?_getD, List.getElem?_eq_getElem hlt]
    exact List.getElem_mem hlt
theorem mkN_len (n : Int) (ms : List (List Nat)) : (mkN n ms).length ≤ ms.length := by
  unfold mkN
  rw [List.length_map]
  exact List.length_filter_le _ _
theorem IsM_sg2 {m : List Nat} (h : IsM m) (hs : m ≠ [42]) : ∀ c ∈ m, c ∈ sg := by
  rcases h with h | ⟨p, rfl⟩
  · exact absurd h hs
  · exact fun c hc => (List.mem_filter.mp hc).1
theorem IsM_len {m : List Nat} (h : IsM m) : m.length ≤ 1000 := by
  by_cases e : m = [42]
  · rw [e]; simp
  · have := (h.sub e).2.2.2
    omega
theorem mkN_sg (n : Int) {ms : List (List Nat)} (h : ∀ m ∈ ms, IsM m) : InSg (mkN n ms) := fun c hc => by
  unfold mkN at hc
  obtain ⟨m, hm, rfl⟩ := List.mem_map.mp hc
  obtain ⟨h1, h2⟩ := List.mem_filter.mp hm
  unfold mkB at h2
  simp only [Bool.and_eq_true, Bool.not_eq_true', decide_eq_false_iff_not] at h2
  exact IsM_sg2 (h m h1) h2.1 _ (mkC_ix n h2.2 (IsM_len (h m h1))).2
abbrev mdE2 (x : Ln) (pool : List Nat) (n : Int) (names : List (List Nat)) (a b c : Option Ce) : Env := [some (.imm (daLn x)), some (.imm (.str pool)), some (.imm (.int n)), some (.lst (names.map .str)), a, b, c]
theorem md_comp (x : Ln) (pool : List Nat) (n : Int) (names : List (List Nat)) {ms : List (List Nat)} (hm : ∀ m ∈ ms, IsM m) (hl : ms.length ≤ 1000) (b : Option Ce) : ∀ c : Option Ce,
    fComp [6] (fIt itemsL (fName 4)) (stN 6) p1__law_made p2__law_made (mdE2 x pool n names (some (.imm (.lst (ms.map .str)))) b c) = .ok ((mkN n ms).map fun c => .str [c]) (mdE2 x pool n names (some (.imm (.lst (ms.map .str)))) b none) := fun c => by
  let L : Option Ce := some (.imm (.lst (ms.map .str)))
  have e := compL_pure (vs := [6]) (st := stN 6) (t := p1__law_made) (e := p2__law_made) (g := fun m : List Nat => Da.str m) (b := mkB) (y := fun m => Da.str [mkC n m]) ms [] (mdE2 x pool n names L b c) (ρw := mdE2 x pool n names L b none) rfl (fun m hmm => by
    have hml := IsM_len (hm m hmm)
    let R : Env := mdE2 x pool n names L b (some (.imm (.str m)))
    have c1 : fBinT (vEq true) (fPeek 6) (fD (mP (.str [42]))) R = .ok (!decide (m = [42])) R := fBinT_of (a := .str m) (b := .str [42]) (fPeek_of rfl) (fD_of fP_of) rfl rfl (vNe_str m [42])
    have c2 : fBinT (vEq true) (fPeek 6) (fD (mP (.str []))) R = .ok (!decide (m = [])) R := fBinT_of (a := .str m) (b := .str []) (fPeek_of rfl) (fD_of fP_of) rfl rfl (vNe_str m [])
    refine ⟨R, rfl, ?_, fun hb => ?_, rfl⟩
    · unfold p1__law_made mkB
      cases h1 : !decide (m = [42]) with
      | true => rw [h1] at c1; rw [Bool.true_and]; exact fAnd_tt c1 c2
      | false => rw [h1] at c1; rw [Bool.false_and]; exact fAnd_f c1
    · unfold mkB at hb
      simp only [Bool.and_eq_true, Bool.not_eq_true', decide_eq_false_iff_not] at hb
      have hp := List.length_pos_iff.mpr hb.2
      have e5 : fBin vFdiv (fPeek 2) (fD (mP (.int 5))) R = .ok (.int (n / 5)) R := fBin_of (a := .int n) (b := .int 5) (fPeek_of rfl) (fD_of fP_of) rfl rfl rfl
      have e6 : fBin vMod (fD (fBin vFdiv (fPeek 2) (fD (mP (.int 5))))) (fD (fCall vLen (fCons (fPeek 6) (mP [])))) R = .ok (.int (n / 5 % (m.length : Int))) R := by
        refine fBin_of (a := .int (n / 5)) (b := .int m.length) (fD_of e5) (fD_of (fCall_of (ds := [.str m]) (fC1_of (fPeek_of rfl)) rfl (show (if m.length ≤ 16777216 then some (Da.int (m.length : Int)) else none) = _ from if_pos (by omega)))) rfl rfl ?_
        show (if (0 : Int) < m.length then some (Da.int (n / 5 % (m.length : Int))) else none) = _
        rw [if_pos (by omega)]
      exact fBin_of (a := .str m) (b := .int (n / 5 % (m.length : Int))) (fPeek_of rfl) (fD_of e6) rfl rfl (mkC_ix n hb.2 hml).1) (by simp; omega)
  rw [List.nil_append] at e
  have e2 : (ms.filter mkB).map (fun m => Da.str [mkC n m]) = (mkN n ms).map fun c => Da.str [c] := by
    unfold mkN
    rw [List.map_map]
    rfl
  rw [e2] at e
  exact fComp_of (fIt_of (fName_of rfl) rfl) e
def mkP (pool : List Nat) (n : Int) : LP → List (List Nat)
  | .many => List.replicate (n % 3).toNat [pool.getD 1 0]
  | .marks ms => [if mkN n ms = [] then [pool.getD 0 0] else mkN n ms]
theorem rep_flat_one (k : Nat) (l : List Nat) : (List.replicate k [Da.str l]).flatten = (List.replicate k l).map Da.str := by
  induction k with
  | zero => rfl
  | succ k ih => rw [List.replicate_succ, List.flatten_cons, ih, List.replicate_succ]; rfl
theorem pool_ix {pool : List Nat} (hl : pool.length = 4) {i : Nat} (hi : i < 4) : vIx (.str pool) (.int (i : Int)) = some (.str [pool.getD i 0]) := by
  have e : atI pool (i : Int) = some (pool.getD i 0) := atI_nat (by rw [List.getD_eq_getElem?_getD, List.getElem?_eq_getElem (by omega)]; rfl)
  show (if pool.length ≤ 16777216 then (atI pool (i : Int)).map (fun c => Da.str [c]) else none) = _
  rw [if_pos (by omega), e]
  rfl
theorem pool_sg {pool : List Nat} (hl : pool.length = 4) (hs : InSg pool) {i : Nat} (hi : i < 4) : pool.getD i 0 ∈ sg := by
  rw [List.getD_eq_getElem?_getD, List.getElem?_eq_getElem (by omega)]
  exact hs _ (List.getElem_mem _)
theorem mkP_ok {pool : List Nat} (hl : pool.length = 4) (hs : InSg pool) (n : Int) {p : LP} (hp : OkLP p) : (mkP pool n p).length ≤ 2 ∧ ∀ y ∈ mkP pool n p, OkName y ∧ y.length ≤ 7 := by
  cases p with
  | many =>
    have g1 : n % 3 < 3 := Int.emod_lt_of_pos _ (by decide)
    refine ⟨by unfold mkP; rw [List.length_replicate]; omega, fun y hy => ?_⟩
    unfold mkP at hy
    rw [(List.mem_replicate.mp hy).2]
    exact ⟨okName_one (pool_sg hl hs (by decide)), by simp⟩
  | marks ms =>
    obtain ⟨h1, h2, h3, h4⟩ := hp
    refine ⟨by unfold mkP; simp, fun y hy => ?_⟩
    unfold mkP at hy
    rw [List.mem_singleton.mp hy]
    have := mkN_len n ms
    split
    · exact ⟨okName_one (pool_sg hl hs (by decide)), by simp⟩
    · rename_i h
      exact ⟨⟨h, mkN_sg n h2⟩, by omega⟩
theorem md_piece (x : Ln) {pool : List Nat} (hl : pool.length = 4) (n : Int) {names : List (List Nat)} (hn : names.length ≤ 1000) {p : LP} (hp : OkLP p) (b c : Option Ce) :
    ∃ b' c', p3__law_made (mdE2 x pool n names (some (.imm (daP p))) b c) = .ok .nx (mdE2 x pool n (names ++ mkP pool n p) (some (.imm (daP p))) b' c') := by
  have g0 : 0 ≤ n % 3 := Int.emod_nonneg _ (by decide)
  have g1 : n % 3 < 3 := Int.emod_lt_of_pos _ (by decide)
  cases p with
  | many =>
    refine ⟨b, c, ?_⟩
    let R : Env := mdE2 x pool n names (some (.imm .non)) b c
    have c1 : fBinT (vIs false) (fPeek 4) (fD (mP .non)) R = .ok true R := fBinT_of (a := .non) (b := .non) (fPeek_of rfl) (fD_of fP_of) rfl rfl rfl
    have em : vMul (.lst [.str [pool.getD 1 0]]) (.int (n % 3)) = some (.lst ((List.replicate (n % 3).toNat [pool.getD 1 0]).map .str)) := by
      unfold vMul
      simp only
      rw [if_pos ⟨by omega, by omega, by simp; omega⟩, rep_flat_one]
    have e2 : fBin vMul (fD (fN (fLst (fCons (fBin vIx (fPeek 1) (fD (mP (.int 1)))) (mP []))))) (fD (fBin vMod (fPeek 2) (fD (mP (.int 3))))) R = .ok (.lst ((mkP pool n .many).map .str)) R :=
      fBin_of (a := .lst [.str [pool.getD 1 0]]) (b := .int (n % 3)) (fD_of (fN_of (fLst_of (fC1_of (fBin_of (a := .str pool) (b := .int 1) (fPeek_of rfl) (fD_of fP_of) rfl rfl (pool_ix hl (by decide)))) (by simp)))) (fD_of (fBin_of (a := .int n) (b := .int 3) (fPeek_of rfl) (fD_of fP_of) rfl rfl rfl)) rfl rfl em
    have hk : (mkP pool n .many).length ≤ 2 := by unfold mkP; rw [List.length_replicate]; omega
    unfold p3__law_made
    refine if_t c1 ?_
    have := fExpr_of (fExt_of (i := 3) (ρ := R) (xs := names.map .str) (ds := names.map .str) rfl e2 rfl (by simp only [List.length_map]; omega))
    rw [this]
    show Out.ok Fl.nx [_, _, _, _, _, _, _] = Out.ok Fl.nx [_, _, _, _, _, _, _]
    rw [List.map_append]
    rfl
  | marks ms =>
    obtain ⟨h1, h2, h3, h4⟩ := hp
    let L : Option Ce := some (.imm (.lst (ms.map .str)))
    let M : Option Ce := some (.imm (.str (mkN n ms)))
    let R : Env := mdE2 x pool n names L b c
    let R2 : Env := mdE2 x pool n names L M none
    refine ⟨M, none, ?_⟩
    have c1 : fBinT (vIs false) (fPeek 4) (fD (mP .non)) R = .ok false R := fBinT_of (a := .lst (ms.map .str)) (b := .non) (fPeek_of rfl) (fD_of fP_of) rfl rfl rfl
    have hnl := mkN_len n ms
    have s1 : fAsg 5 (fMs sJoin (mP (.str [])) (fCons (fD (fN (fComp [6] (fIt itemsL (fName 4)) (stN 6) p1__law_made p2__law_made))) (mP []))) R = .ok .nx R2 :=
      fAsg_of (fMs_of (ds := [.lst ((mkN n ms).map fun c => .str [c])]) fP_of (fC1_of (fD_of (fN_of (md_comp x pool n names h2 (by omega) b c)))) rfl (sJoin_one _ (by omega)))
    have c2 : fBinT (vEq true) (fPeek 5) (fD (mP (.str []))) R2 = .ok (!decide (mkN n ms = [])) R2 := fBinT_of (a := .str (mkN n ms)) (b := .str []) (fPeek_of rfl) (fD_of fP_of) rfl rfl (vNe_str _ [])
    have e2 : fIf (fBinT (vEq true) (fPeek 5) (fD (mP (.str [])))) (fName 5) (fBin vIx (fPeek 1) (fD (mP (.int 0)))) R2 = .ok (.str (if mkN n ms = [] then [pool.getD 0 0] else mkN n ms)) R2 := by
      by_cases h : mkN n ms = []
      · rw [decide_eq_true h] at c2
        rw [if_pos h]
        exact if_f c2 (fBin_of (a := .str pool) (b := .int 0) (fPeek_of rfl) (fD_of fP_of) rfl rfl (pool_ix hl (by decide)))
      · rw [decide_eq_false h] at c2
        rw [if_neg h]
        exact if_t c2 (fName_of rfl)
    unfold p3__law_made
    refine if_f c1 (seq_nx s1 ?_)
    have := fExpr_of (fApp_of (i := 3) (xs := names.map .str) (ds := names.map .str) rfl e2 rfl (by simp only [List.length_map]; omega))
    rw [this]
    show Out.ok Fl.nx [_, _, _, _, _, _, _] = Out.ok Fl.nx [_, _, _, _, _, _, _]
    rw [List.map_append]
    rfl
def mkAll (pool : List Nat) (n : Int) (ps : List LP) : List (List Nat) := ps.flatMap (mkP pool n)
theorem md_loop (x : Ln) {pool : List Nat} (hl : pool.length = 4) (hs : InSg pool) (n : Int) : ∀ (ps : List LP) (names : List (List Nat)) (a b c : Option Ce), (∀ p ∈ ps, OkLP p) → names.length + 2 * ps.length ≤ 1000 →
    ∃ a' b' c', forL (stN 4) p3__law_made (ps.map daP) (mdE2 x pool n names a b c) = .ok .nx (mdE2 x pool n (names ++ mkAll pool n ps) a' b' c')
  | [], names, a, b, c, _, _ => ⟨a, b, c, by unfold mkAll; rw [List.flatMap_nil, List.append_nil]; rfl⟩
  | p :: ps, names, a, b, c, h, hn => by
    rw [List.length_cons] at hn
    obtain ⟨b1, c1, e1⟩ := md_piece x hl n (names := names) (by omega) (h p (by simp)) b c
    obtain ⟨k1, _⟩ := mkP_ok hl hs n (h p (by simp))
    obtain ⟨a', b', c', e2⟩ := md_loop x hl hs n ps (names ++ mkP pool n p) (some (.imm (daP p))) b1 c1 (fun q hq => h q (by simp [hq])) (by rw [List.length_append]; omega)
    refine ⟨a', b', c', ?_⟩
    rw [List.map_cons, forL_cons (ρ1 := mdE2 x pool n names (some (.imm (daP p))) b c) rfl e1, e2]
    unfold mkAll
    rw [List.flatMap_cons, List.append_assoc]
theorem mkAll_ok {pool : List Nat} (hl : pool.length = 4) (hs : InSg pool) (n : Int) : ∀ {ps : List LP}, (∀ p ∈ ps, OkLP p) → (mkAll pool n ps).length ≤ 2 * ps.length ∧ ∀ y ∈ mkAll pool n ps, OkName y ∧ y.length ≤ 7
  | [], _ => ⟨by simp [mkAll], by simp [mkAll]⟩
  | p :: ps, h => by
    obtain ⟨h1, h2⟩ := mkP_ok hl hs n (h p (by simp))
    obtain ⟨h3, h4⟩ := mkAll_ok hl hs n (ps := ps) fun q hq => h q (by simp [hq])
    have e : mkAll pool n (p :: ps) = mkP pool n p ++ mkAll pool n ps := by unfold mkAll; rw [List.flatMap_cons]
    rw [e]
    refine ⟨by rw [List.length_append, List.length_cons]; omega, fun y hy => ?_⟩
    rcases List.mem_append.mp hy with hy | hy
    · exact h2 y hy
    · exact h4 y hy
theorem made_ok5 {x : Ln} (ho : OkPs x.2.1) (h3 : x.2.1.length ≤ 3) {pool : List Nat} (hl : pool.length = 4) (hs : InSg pool) (n : Int) :
    ∃ names, f__law_made [daLn x, .str pool, .int n] = .ok (.str (joinN [47] names)) ∧ names ≠ [] ∧ (∀ y ∈ names, OkName y) ∧ (joinN [47] names).length ≤ 48 := by
  obtain ⟨g1, g2⟩ := mkAll_ok hl hs n (ps := x.2.1) ho.2.1
  obtain ⟨a, b, c, e⟩ := md_loop x hl hs n x.2.1 [] none none none ho.2.1 (by simp; omega)
  rw [List.nil_append] at e
  generalize mkAll pool n x.2.1 = names at e g1 g2
  have hj := join_le (ls := names) (B := 7) fun y hy => (g2 y hy).2
  have hsum := sum_le (ls := names) (B := 7) fun y hy => (g2 y hy).2
  let R : Env := mdE2 x pool n names a b c
  have e1 : fBin vIx (fPeek 0) (fD (mP (.int 1))) (mdE2 x pool n [] none none none) = .ok (.lst (x.2.1.map daP)) (mdE2 x pool n [] none none none) := fBin_of (a := daLn x) (b := .int 1) (fPeek_of rfl) (fD_of fP_of) rfl rfl rfl
  have c1 : fBinT (vEq true) (fPeek 3) (fD (fN (fLst (mP [])))) R = .ok (!decide (names = [])) R := fBinT_of (a := .lst (names.map .str)) (b := .lst []) (fPeek_of rfl) (fD_of (fN_of (fLst_of fP_of (by simp)))) rfl rfl (vNe_strs names [])
  have pre : ∀ {d : Da}, fIf (fBinT (vEq true) (fPeek 3) (fD (fN (fLst (mP []))))) (fMs sJoin (mP (.str [47])) (fCons (fPeek 3) (mP []))) (fBin vIx (fPeek 1) (fD (mP (.int 2)))) R = .ok d R → f__law_made [daLn x, .str pool, .int n] = .ok d := fun {d} h => by
    show resOf (b__law_made [some (.imm (daLn x)), some (.imm (.str pool)), some (.imm (.int n)), none, none, none, none]) = _
    refine run_rt (ρ' := R) ?_
    unfold b__law_made
    exact seq_nx (ρ' := mdE2 x pool n [] none none none) (fAsgN_of (fLst_of fP_of (by simp))) (seq_nx (fFor_of (fIt_of e1 rfl) e) (fRet_of h))
  by_cases h : names = []
  · rw [decide_eq_true h] at c1
    refine ⟨[[pool.getD 2 0]], pre (if_f c1 (fBin_of (a := .str pool) (b := .int 2) (fPeek_of rfl) (fD_of fP_of) rfl rfl (pool_ix hl (by decide)))), by simp, fun y hy => ?_, by simp [joinN]⟩
    rw [List.mem_singleton.mp hy]
    exact okName_one (pool_sg hl hs (by decide))
  · rw [decide_eq_false h] at c1
    refine ⟨names, pre (if_t c1 (fMs_of (ds := [.lst (names.map .str)]) fP_of (fC1_of (fPeek_of rfl)) rfl (sJoin_map [47] names ?_))), h, fun y hy => (g2 y hy).1, ?_⟩
    · simp only [List.length_cons, List.length_nil]
      have : names.length * 7 ≤ 6 * 7 := Nat.mul_le_mul_right _ (by omega)
      omega
    · have : names.length * (7 + 1) ≤ 6 * 8 := Nat.mul_le_mul_right _ (by omega)
      omega
end Kb
namespace Kb
open Vl
open L2 (ixN atI)
/-! the law's paths -/
structure PthB (B : Nat) (w : List Nat) : Prop where
  ex : ∃ names, w = joinN [47] names ∧ names ≠ [] ∧ (∀ y ∈ names, OkName y)
  len : w.length ≤ B
theorem PthB.mono {B C : Nat} {w : List Nat} (h : PthB B w) (hc : B ≤ C) : PthB C w := ⟨h.ex, Nat.le_trans h.len hc⟩
theorem PthB.join {B C : Nat} {a b : List Nat} (h : PthB B a) (k : PthB C b) : PthB (B + C + 1) (a ++ [47] ++ b) := by
  obtain ⟨na, e1, h1, h2⟩ := h.ex
  obtain ⟨nb, e2, k1, k2⟩ := k.ex
  refine ⟨⟨na ++ nb, ?_, by simp [h1], fun y hy => ?_⟩, ?_⟩
  · rw [okPath_join h1 k1, ← e1, ← e2]; simp
  · rcases List.mem_append.mp hy with hy | hy
    · exact h2 y hy
    · exact k2 y hy
  · have := h.len
    have := k.len
    simp only [List.length_append, List.length_singleton]
    omega
def pthP (ns : List Int) (a : Int) (pool : List Nat) : List Nat := match f__law_path [.lst (ns.map .int), .int a, .str pool] with
  | .ok (.str w) => w
  | _ => []
theorem pthP_ok (ns : List Int) {a : Int} (ha : 0 ≤ a) {pool : List Nat} (hl : pool.length = 4) (hs : InSg pool) : f__law_path [.lst (ns.map .int), .int a, .str pool] = .ok (.str (pthP ns a pool)) ∧ PthB 12 (pthP ns a pool) := by
  obtain ⟨names, e, h1, h2⟩ := path_ok ns ha hl hs
  have e2 : pthP ns a pool = joinN [47] names := by unfold pthP; rw [e]
  rw [e2]
  exact ⟨e, ⟨names, rfl, h1.ne, h1.ok⟩, h2⟩
theorem vMin_eq (a b : Int) : vMin [.int a, .int b] = some (.int (if b < a then b else a)) := id rfl
theorem vMax_eq (a b : Int) : vMax [.int a, .int b] = some (.int (if b > a then b else a)) := id rfl
theorem vLen_L (xs : List Da) : vLen [.lst xs] = some (.int xs.length) := id rfl
theorem rng_at1 (B : Int) (hB : 1 ≤ B ∧ B ≤ 100) {ρ : Env} {xs : List Da} (h : ρ[0]? = some (some (.imm (.lst xs)))) : ∃ m : Nat, 1 ≤ m ∧ m ≤ 100 ∧ (fItA rng1 (fCons (fCall vMax (fCons (fD (mP (.int 1))) (fCons (fD (fCall vMin (fCons (fD (mP (.int B))) (fCons (fD (fCall vLen (fCons (fPeek 0) (mP [])))) (mP []))))) (mP [])))) (mP []))) ρ = .ok (rangeD 0 m) ρ := by
  have e1 : fCall vLen (fCons (fPeek 0) (mP [])) ρ = .ok (.int xs.length) ρ :=
    fCall_of (fC1_of (fPeek_of h)) (show lookA ρ [.s 0] = some [.lst xs] by simp only [lookA, look, h]) (vLen_L xs)
  have e2 := fCall_of (fC2_of (fD_of (fP_of (a := Da.int B) (ρ := ρ))) (fD_of e1)) (show lookA ρ [.d (.int B), .d (.int xs.length)] = some [.int B, .int xs.length] from rfl) (vMin_eq B xs.length)
  generalize hq : (if (xs.length : Int) < B then (xs.length : Int) else B) = q at e2
  have q9 : q ≤ B := by split at hq <;> omega
  have e3 := fCall_of (fC2_of (fD_of (fP_of (a := Da.int 1) (ρ := ρ))) (fD_of e2)) (show lookA ρ [.d (.int 1), .d (.int q)] = some [.int 1, .int q] from rfl) (vMax_eq 1 q)
  generalize hr : (if q > 1 then q else 1) = r at e3
  have r2 : 1 ≤ r := by split at hr <;> omega
  have r9 : r ≤ B := by split at hr <;> omega
  exact ⟨r.toNat, by omega, by omega, fItA_of (fC1_of e3) (rng1_small (by omega) (by omega))⟩
abbrev lgE (ms : List Int) (pool : List Nat) (dr : List Int) (ts : List Tl) (p a b c d e f : Option Ce) : Env := [some (.imm (.lst (ms.map .int))), some (.imm (.str pool)), some (.imm (.lst (dr.map .int))), some (.imm (.lst ((ts.map (·.2)).map daLn))), some (.imm (.lst (txD ts))), p, a, b, c, d, e, f]
theorem rangeD_map : ∀ (n : Nat) (lo : Int), rangeD lo n = ((List.range' 0 n).map fun i : Nat => lo + (i : Int)).map Da.int := fun n lo => by
  unfold rangeD
  rw [List.map_map]
  simp [List.range_eq_range']
theorem lg_comp (ms : List Int) {pool : List Nat} (hl : pool.length = 4) (hs : InSg pool) (dr : List Int) (ts : List Tl) (b c d e f : Option Ce) {m : Nat} (hm : 1 ≤ m ∧ m ≤ 100) :
    ∃ ws : List (List Nat), compL [6] (stN 6) (mP true) p1_law (rangeD 0 m) [] (lgE ms pool dr ts none none b c d e f) = .ok (ws.map .str) (lgE ms pool dr ts none none b c d e f) ∧ ws.length = m ∧ ∀ w ∈ ws, PthB 12 w := by
  have e := compL_strs (vs := [6]) (st := stN 6) (e := p1_law) (g := Da.int) (y := fun i => pthP ms (3 + i) pool) ((List.range' 0 m).map fun i : Nat => 0 + (i : Int)) (lgE ms pool dr ts none none b c d e f) (ρw := lgE ms pool dr ts none none b c d e f) rfl (fun x hx => by
    obtain ⟨i, _, rfl⟩ := List.mem_map.mp hx
    refine ⟨lgE ms pool dr ts none (some (.imm (.int (0 + (i : Int))))) b c d e f, rfl, ?_, rfl⟩
    exact fDef_of (fC3_of (fName_of rfl) (fBin_of (a := .int 3) (b := .int (0 + (i : Int))) (d := .int (3 + (0 + (i : Int)))) (fD_of fP_of) (fPeek_of rfl) rfl rfl rfl) (fName_of rfl)) (pthP_ok ms (by omega) hl hs).1) (by rw [List.length_map, List.length_range']; omega)
  rw [← rangeD_map] at e
  refine ⟨_, e, by simp, fun w hw => ?_⟩
  obtain ⟨x, hx, rfl⟩ := List.mem_map.mp hw
  obtain ⟨i, _, rfl⟩ := List.mem_map.mp hx
  exact (pthP_ok ms (by omega) hl hs).2
theorem lg_line (ms : List Int) {pool : List Nat} (hl : pool.length = 4) (hs : InSg pool) {dr : List Int} (hd : dr.length = 8) (ts : List Tl) {x : Ln} (ho : OkPs x.2.1) (h3 : x.2.1.length ≤ 3) {w0 : List Nat} {ws : List (List Nat)} {wl : List Nat} (hw0 : PthB 12 w0) (hhd : ws[0]? = some w0) {C : Nat} (hwl : PthB C wl) (hC : C ≤ 1000) (hlast : ws.getLast? = some wl) (hn : ws.length ≤ 1000) (k : Nat) (c d e f : Option Ce) :
    ∃ w, PthB 48 w ∧ ∃ c', p2_law (lgE ms pool dr ts (some (.lst (ws.map .str))) (some (.imm (.int (k : Int)))) (some (.imm (daLn x))) c d e f) = .ok .nx (lgE ms pool dr ts (some (.lst ((ws ++ [w, w ++ [47] ++ w0, wl ++ [47] ++ w]).map .str))) (some (.imm (.int (k : Int)))) (some (.imm (daLn x))) c' d e f) := by
  obtain ⟨n, _, en⟩ := dr_ix (dr := dr) (i := 1) (by decide) (by omega)
  obtain ⟨names, em, n1, n2, n3⟩ := made_ok5 ho h3 hl hs (n + (k : Int))
  let w := joinN [47] names
  have hw : PthB 48 w := ⟨⟨names, rfl, n1, n2⟩, n3⟩
  let W : Option Ce := some (.imm (.str w))
  let P : Option Ce := some (.lst (ws.map .str))
  let R0 : Env := lgE ms pool dr ts P (some (.imm (.int (k : Int)))) (some (.imm (daLn x))) c d e f
  let R : Env := lgE ms pool dr ts P (some (.imm (.int (k : Int)))) (some (.imm (daLn x))) W d e f
  have l1 := hw.len
  have l2 := hw0.len
  have l3 := hwl.len
  refine ⟨w, hw, W, ?_⟩
  have s1 : fAsg 8 (fDef f__law_made [] (fCons (fName 7) (fCons (fName 1) (fCons (fBin vAdd (fD (fBin vIx (fPeek 2) (fD (mP (.int 1))))) (fPeek 6)) (mP []))))) R0 = .ok .nx R :=
    fAsg_of (fDef_of (fC3_of (fName_of rfl) (fName_of rfl) (fBin_of (a := .int n) (b := .int (k : Int)) (d := .int (n + k)) (fD_of (fBin_of (a := .lst (dr.map .int)) (b := .int 1) (fPeek_of rfl) (fD_of fP_of) rfl rfl en)) (fPeek_of rfl) rfl rfl rfl)) em)
  have e0 : fBin vIx (fPeek 5) (fD (mP (.int 0))) R = .ok (.str w0) R := fBin_of (a := .lst (ws.map .str)) (b := .int 0) (fPeek_of rfl) (fD_of fP_of) rfl rfl (show atI (ws.map Da.str) ((0 : Nat) : Int) = _ from atI_nat (by rw [List.getElem?_map, hhd]; rfl))
  have hne : ws ≠ [] := fun z => by rw [z] at hhd; cases hhd
  have hpos := List.length_pos_iff.mpr hne
  have eN : fBin vIx (fPeek 5) (fD (fNeg (mP (.int 1)))) R = .ok (.str wl) R := by
    refine fBin_of (a := .lst (ws.map .str)) (b := .int (-1)) (fPeek_of rfl) (fD_of (show fNeg (mP (.int 1)) R = .ok (.int (-1)) R from rfl)) rfl rfl ?_
    refine atI_neg1 (n := ws.length - 1) (by rw [List.length_map]; omega) ?_
    rw [List.getElem?_map, ← List.getLast?_eq_getElem?, hlast]
    rfl
  have hS : ∀ ρ : Env, fD (mP (Da.str [47])) ρ = .ok (.d (.str [47])) ρ := fun ρ => fD_of fP_of
  have e2 : fBin vAdd (fD (fBin vAdd (fPeek 8) (fD (mP (.str [47]))))) (fD (fBin vIx (fPeek 5) (fD (mP (.int 0))))) R = .ok (.str (w ++ [47] ++ w0)) R :=
    fBin_of (a := .str (w ++ [47])) (b := .str w0) (fD_of (fBin_of (a := .str w) (b := .str [47]) (fPeek_of rfl) (hS R) rfl rfl (vAddS (by simp; omega)))) (fD_of e0) rfl rfl (vAddS (by simp; omega))
  have e3 : fBin vAdd (fD (fBin vAdd (fD (fBin vIx (fPeek 5) (fD (fNeg (mP (.int 1)))))) (fD (mP (.str [47]))))) (fPeek 8) R = .ok (.str (wl ++ [47] ++ w)) R :=
    fBin_of (a := .str (wl ++ [47])) (b := .str w) (fD_of (fBin_of (a := .str wl) (b := .str [47]) (fD_of eN) (hS R) rfl rfl (vAddS (by simp; omega)))) (fPeek_of rfl) rfl rfl (vAddS (by simp; omega))
  unfold p2_law
  refine seq_nx s1 ?_
  have := fExpr_of (fExt_of (i := 5) (ρ := R) (xs := ws.map .str) (ds := ws.map .str) rfl (fN_of (fLst_of (fC3_of (fName_of (i := 8) (d := .str w) rfl) e2 e3) (by simp))) rfl (by simp; omega))
  rw [this]
  show Out.ok Fl.nx [_, _, _, _, _, _, _, _, _, _, _, _] = Out.ok Fl.nx [_, _, _, _, _, _, _, _, _, _, _, _]
  rw [List.map_append]
  rfl
theorem lg_lines (ms : List Int) {pool : List Nat} (hl : pool.length = 4) (hs : InSg pool) {dr : List Int} (hd : dr.length = 8) (ts : List Tl) {w0 : List Nat} (hw0 : PthB 12 w0) : ∀ (xs : List Ln) (k : Nat) (ws : List (List Nat)) (wl : List Nat) (C : Nat) (a b c d e f : Option Ce), (∀ x ∈ xs, OkPs x.2.1 ∧ x.2.1.length ≤ 3) → ws[0]? = some w0 → PthB C wl → C + 49 * xs.length ≤ 400 → ws.getLast? = some wl → ws.length + 3 * xs.length ≤ 1000 → (∀ w ∈ ws, PthB 400 w) →
    ∃ (ws' : List (List Nat)) (a' b' c' : Option Ce), (∀ w ∈ ws', PthB 400 w) ∧ ws'.length ≤ 1000 ∧ forL (stTup 2 (stCons (stN 6) (stCons (stN 7) stNil))) p2_law (enumD k (xs.map daLn)) (lgE ms pool dr ts (some (.lst (ws.map .str))) a b c d e f) = .ok .nx (lgE ms pool dr ts (some (.lst (ws'.map .str))) a' b' c' d e f)
  | [], k, ws, wl, C, a, b, c, d, e, f, _, _, _, _, _, hn, hw => ⟨ws, a, b, c, hw, by simpa using hn, rfl⟩
  | x :: xs, k, ws, wl, C, a, b, c, d, e, f, hx, hhd, hwl, hC, hlast, hn, hw => by
    rw [List.length_cons] at hC hn
    obtain ⟨ho, h3⟩ := hx x (by simp)
    obtain ⟨w, w1, c1, e1⟩ := lg_line ms hl hs hd ts ho h3 hw0 hhd hwl (by omega) hlast (by omega) k c d e f
    have j1 := w1.join hw0
    have j2 := hwl.join w1
    obtain ⟨ws', a', b', c', h1, h2, e2⟩ := lg_lines ms hl hs hd ts hw0 xs (k + 1) (ws ++ [w, w ++ [47] ++ w0, wl ++ [47] ++ w]) (wl ++ [47] ++ w) (C + 48 + 1) (some (.imm (.int (k : Int)))) (some (.imm (daLn x))) c1 d e f (fun y hy => hx y (by simp [hy])) (by
        cases ws with
        | nil => cases hhd
        | cons z ws => exact hhd) j2 (by omega) (by simp) (by simp; omega) (fun y hy => by
        rcases List.mem_append.mp hy with hy | hy
        · exact hw y hy
        · simp only [List.mem_cons, List.not_mem_nil, or_false] at hy
          rcases hy with rfl | rfl | rfl
          · exact w1.mono (by decide)
          · exact j1.mono (by decide)
          · exact j2.mono (by omega))
    refine ⟨ws', a', b', c', h1, h2, ?_⟩
    show forL _ p2_law (.tup [.int (k : Int), daLn x] :: enumD (k + 1) (xs.map daLn)) _ = _
    rw [forL_cons (ρ1 := lgE ms pool dr ts (some (.lst (ws.map .str))) (some (.imm (.int (k : Int)))) (some (.imm (daLn x))) c d e f) rfl e1]
    exact e2
theorem lg_said (ms : List Int) (pool : List Nat) (dr : List Int) {ts : List Tl} (ht : ∀ t ∈ ts, OkT t) (hl : ts.length ≤ 100) (p a b c e f : Option Ce) : ∀ (ws : List (List Nat)) (d : Option Ce), (∀ w ∈ ws, PthB 400 w) →
    ∃ d', forL (stN 9) p3_law (ws.map .str) (lgE ms pool dr ts p a b c d e f) = .ok .nx (lgE ms pool dr ts p a b c d' e f)
  | [], d, _ => ⟨d, rfl⟩
  | w :: ws, d, h => by
    obtain ⟨d', e2⟩ := lg_said ms pool dr ht hl p a b c e f ws (some (.imm (.str w))) fun y hy => h y (by simp [hy])
    refine ⟨d', ?_⟩
    let R : Env := lgE ms pool dr ts p a b c (some (.imm (.str w))) e f
    have hw := h w (by simp)
    obtain ⟨names, en, n1, n2⟩ := hw.ex
    have es := said_right_eq ht hl (names := names) ⟨n1, n2, en ▸ hw.len⟩
    rw [← en] at es
    have c1 : fNot (fTru (fD (fDef f__law_said_right [] (fCons (fName 3) (fCons (fName 4) (fCons (fName 9) (mP []))))))) R = .ok false R :=
      fNot_of (b := true) (fTru_of (d := .bl true) (fD_of (fDef_of (fC3_of (fName_of rfl) (fName_of rfl) (fName_of rfl)) es)) rfl rfl)
    have e1 : p3_law R = .ok .nx R := if_f c1 rfl
    rw [List.map_cons, forL_cons (ρ1 := R) rfl e1]
    exact e2
end Kb
namespace Kb
open Vl
open L2 (ixN atI)
/-! the closing checks, the law -/
theorem okMs1 {c : Nat} (h : c ∈ sg) : OkLP (.marks [[c]]) := ⟨by simp, fun m hm => by rw [List.mem_singleton.mp hm]; exact IsM_one h, trivial, by simp⟩
theorem okMs2 {c d : Nat} (h : c ∈ sg) (k : d ∈ sg) : OkLP (.marks [[c], [d]]) := ⟨by simp, fun m hm => by
    simp only [List.mem_cons, List.not_mem_nil, or_false] at hm
    rcases hm with rfl | rfl
    · exact IsM_one h
    · exact IsM_one k, ⟨fun z => star_sg (by
      have : c = 42 := by simpa using z.1
      rw [← this]; exact h), trivial⟩, by simp⟩
theorem mf1 {c : Nat} (h : c ∈ sg) : MF [c] [c] := ⟨.sgn c, h, rfl, rfl, by simp⟩
def lnA (c : Nat) : Ln := (false, [.many, .marks [[c]]], true)
def lnB (c d : Nat) : Ln := (true, [.many, .marks [[c], [d]]], false)
theorem psA {c : Nat} (h : c ∈ sg) : OkPs [.many, .marks [[c]]] := ⟨by simp, fun p hp => by
    simp only [List.mem_cons, List.not_mem_nil, or_false] at hp
    rcases hp with rfl | rfl
    · trivial
    · exact okMs1 h, ⟨by simp [isMany], trivial⟩, by simp⟩
theorem psB {c d : Nat} (h : c ∈ sg) (k : d ∈ sg) : OkPs [.many, .marks [[c], [d]]] := ⟨by simp, fun p hp => by
    simp only [List.mem_cons, List.not_mem_nil, or_false] at hp
    rcases hp with rfl | rfl
    · trivial
    · exact okMs2 h k, ⟨by simp [isMany], trivial⟩, by simp⟩
theorem tA {c : Nat} (h : c ∈ sg) : OkT ([c, 47], lnA c) := by
  refine ⟨?_, small_of (psA h) (by simp [lnA])⟩
  exact line_of_eq (l := false) (lead := false) (f := true) (qs := [.marks [[c]]]) (ts := [[c]]) (.cons ⟨[[c]], .cons (mf1 h) .nil, rfl⟩ .nil) (by simp) (fun q hq => by rw [List.mem_singleton.mp hq]; exact okMs1 h) (by simp) (by simp [textL, joinN])
theorem tB {c d : Nat} (h : c ∈ sg) (k : d ∈ sg) : OkT ([33, c, d], lnB c d) := by
  refine ⟨?_, small_of (psB h k) (by simp [lnB])⟩
  exact line_of_eq (l := true) (lead := false) (f := false) (qs := [.marks [[c], [d]]]) (ts := [[c, d]]) (.cons ⟨[[c], [d]], .cons (mf1 h) (.cons (mf1 k) .nil), rfl⟩ .nil) (by simp) (fun q hq => by rw [List.mem_singleton.mp hq]; exact okMs2 h k) (by simp) (by simp [textL, joinN])
theorem pb1 : ∀ c ∈ sg, pathB [.many, .marks [[c]]] [[c]] = true := by decide +kernel
theorem pb2 : ∀ c ∈ sg, ∀ d ∈ sg, pathB [.many, .marks [[c], [d]]] [[c]] = false := by decide +kernel
theorem dec_one {lines : List Ln} (hx : ∀ x ∈ lines, Small x.2.1) (y : List Nat) : decP lines [y] false = [lastGo [y] false 0 0 lines none] := by
  have h1 := decP_len lines [y] false
  have h2 := decP_at (lines := lines) (names := [y]) (j := 0) false (by simp) hx
  match hd : decP lines [y] false with
  | [] => rw [hd] at h1; simp at h1
  | [o] => rw [hd] at h2; simpa using h2
  | _ :: _ :: _ => rw [hd] at h1; simp at h1
theorem dec_two {lines : List Ln} (hx : ∀ x ∈ lines, Small x.2.1) (y z : List Nat) : ∃ o, decP lines [y, z] false = [lastGo [y, z] false 0 0 lines none, o] := by
  have h1 := decP_len lines [y, z] false
  have h2 := decP_at (lines := lines) (names := [y, z]) (j := 0) false (by simp) hx
  match hd : decP lines [y, z] false with
  | [] => rw [hd] at h1; simp at h1
  | [_] => rw [hd] at h1; simp at h1
  | [o, o'] => rw [hd] at h2; exact ⟨o', by simpa using h2⟩
  | _ :: _ :: _ :: _ => rw [hd] at h1; simp at h1
theorem abT {c d : Nat} (h : c ∈ sg) (k : d ∈ sg) : ∀ t ∈ [([c, 47], lnA c), ([33, c, d], lnB c d)], OkT t := fun t ht => by
  simp only [List.mem_cons, List.not_mem_nil, or_false] at ht
  rcases ht with rfl | rfl
  · exact tA h
  · exact tB h k
theorem abS {c d : Nat} (h : c ∈ sg) (k : d ∈ sg) : ∀ x ∈ [lnA c, lnB c d], Small x.2.1 := fun x hx => by
  simp only [List.mem_cons, List.not_mem_nil, or_false] at hx
  rcases hx with rfl | rfl
  · exact (tA h).2
  · exact (tB h k).2
theorem pthA {c : Nat} (h : c ∈ sg) : OkPath [[c]] := ⟨by simp, fun y hy => by rw [List.mem_singleton.mp hy]; exact okName_one h, by simp [joinN]⟩
theorem pthAB {c d : Nat} (h : c ∈ sg) (k : d ∈ sg) : OkPath [[c], [c, d]] := ⟨by simp, fun y hy => by
    simp only [List.mem_cons, List.not_mem_nil, or_false] at hy
    rcases hy with rfl | rfl
    · exact okName_one h
    · exact ⟨by simp, InSg.app (InSg.one h) (InSg.one k)⟩, by simp [joinN]⟩
theorem jd1 {c d : Nat} (h : c ∈ sg) (k : d ∈ sg) : f_judged [.lst [.str [c, 47], .str [33, c, d]], .str [c, 47, c, d]] = .ok (.tup [.bl true, .int 0, .int 0]) := by
  have e := judged_eq (abT h k) (by simp) (pthAB h k)
  obtain ⟨o, ho⟩ := dec_two (abS h k) [c] [c, d]
  have p1 := pb1 c h
  have p2 := pb2 c h d k
  have hg : lastGo [[c], [c, d]] false 0 0 [lnA c, lnB c d] none = some 0 := by
    have h1 : headB (lnA c) [[c], [c, d]] false 0 = true := by
      unfold headB
      show (pathB [.many, .marks [[c]]] [[c]] && (false || (decide (0 + 1 < 2) || !true))) = true
      rw [p1]; rfl
    have h2 : headB (lnB c d) [[c], [c, d]] false 0 = false := by
      unfold headB
      show (pathB [.many, .marks [[c], [d]]] [[c]] && (false || (decide (0 + 1 < 2) || !false))) = false
      rw [p2]; rfl
    simp [lastGo, h1, h2]
  rw [hg] at ho
  have hj : judP [lnA c, lnB c d] [[c], [c, d]] = .tup [.bl true, .int 0, .int 0] := by
    unfold judP
    rw [ho]
    rfl
  rw [show ([([c, 47], lnA c), ([33, c, d], lnB c d)] : List Tl).map (·.2) = [lnA c, lnB c d] from rfl, hj] at e
  exact e
theorem jd2 {c d : Nat} (h : c ∈ sg) (k : d ∈ sg) : f_judged [.lst [.str [c, 47], .str [33, c, d]], .str [c]] = .ok (.tup [.bl false, .non, .non]) := by
  have e := judged_eq (abT h k) (by simp) (pthA h)
  have ho := dec_one (abS h k) [c]
  have p1 := pb1 c h
  have p2 := pb2 c h d k
  have hg : lastGo [[c]] false 0 0 [lnA c, lnB c d] none = none := by
    have h1 : headB (lnA c) [[c]] false 0 = false := by
      unfold headB
      show (pathB [.many, .marks [[c]]] [[c]] && (false || (decide (0 + 1 < 1) || !true))) = false
      rw [p1]; rfl
    have h2 : headB (lnB c d) [[c]] false 0 = false := by
      unfold headB
      show (pathB [.many, .marks [[c], [d]]] [[c]] && (false || (decide (0 + 1 < 1) || !false))) = false
      rw [p2]; rfl
    simp [lastGo, h1, h2]
  rw [hg] at ho
  have hj : judP [lnA c, lnB c d] [[c]] = .tup [.bl false, .non, .non] := by
    unfold judP
    rw [ho]
    rfl
  rw [show ([([c, 47], lnA c), ([33, c, d], lnB c d)] : List Tl).map (·.2) = [lnA c, lnB c d] from rfl, hj] at e
  exact e
theorem jd3 {c : Nat} (h : c ∈ sg) : f_judged [.lst [], .str [c]] = .ok (.tup [.bl false, .non, .non]) := by
  have e := judged_eq (ts := []) (by simp) (by simp) (pthA h)
  have ho := dec_one (lines := []) (by simp) [c]
  have hj : judP [] [[c]] = .tup [.bl false, .non, .non] := by
    unfold judP
    rw [ho]
    rfl
  rw [show ([] : List Tl).map (·.2) = [] from rfl, hj] at e
  exact e
theorem vEq_t3 (neg v : Bool) (a b : Option Nat) : vEq neg (.tup [.bl v, optD a, optD b]) (.tup [.bl v, optD a, optD b]) = some (.bl (!neg)) := by
  unfold vEq
  cases neg <;> cases a <;> cases b <;> simp [optD, plainD, plainA, dep, depA, dq, dqA]
theorem law_eq (ns : List Int) (hn : ns.length ≤ 63) : f_law [.scr ns] = .ok (.bl true) := by
  show resOf (b_law [some (.imm (.scr ns)), none, none, none, none, none, none, none, none, none, none, none]) = _
  have ep := pool_eq (ns.take 63) 0 (by decide)
  have hl := poolP_len (ns.take 63) 0
  have hs := poolP_sg (ns.take 63) 0
  have ed := digs_eq (ns.take 63) 1 8 1000003 (by decide) (by decide) (by decide) (by decide) (by decide)
  have hd := digP_len (ns.take 63) 1 8 1000003
  have ec : cutD (ns.map Da.int) none (some ((63 : Nat) : Int)) = (ns.take 63).map .int := by rw [cutD_take, List.map_take]
  have s1 : fSl vSlL (fPeek 0) (mP none) (fInt (mP (.int 63))) [some (.imm (.scr ns)), none, none, none, none, none, none, none, none, none, none, none] = .ok ((ns.take 63).map .int) [some (.imm (.scr ns)), none, none, none, none, none, none, none, none, none, none, none] := by
    refine fSl_of (lo := none) (hi := some 63) (d := .scr ns) (fPeek_of rfl) fP_of (fInt_of fP_of) rfl ?_
    show (if ns.length ≤ 16777216 then some (cutD (ns.map Da.int) none (some ((63 : Nat) : Int))) else none) = _
    rw [if_pos (by omega), ec]
  generalize ns.take 63 = ms at ep hl hs s1 ed hd
  generalize poolP ms 0 = pool at ep hl hs
  generalize digP ms 1 8 1000003 = dr at ed hd
  have hd8 : dr.length = 8 := hd
  obtain ⟨n, _, en⟩ := dr_ix (dr := dr) (i := 0) (by decide) (by omega)
  have g0 : 0 ≤ n % 7 := Int.emod_nonneg _ (by decide)
  have g1 : n % 7 < 7 := Int.emod_lt_of_pos _ (by decide)
  obtain ⟨ts, et, htl, hts⟩ := some_ok ms (a := 2) (by decide) g0 (by omega) hl hs
  have htl6 : ts.length ≤ 6 := by omega
  obtain ⟨m, m1, m2, em⟩ := rng_at1 20 (by decide) (ρ := lgE ms pool dr ts none none none none none none none) (xs := ms.map .int) rfl
  obtain ⟨ws, ew, wl, hw⟩ := lg_comp ms hl hs dr ts none none none none none ⟨m1, m2⟩
  have hwne : ws ≠ [] := fun z => by rw [z] at wl; simp at wl; omega
  have hw0 := List.getElem?_eq_getElem (l := ws) (i := 0) (by omega)
  have hlast := List.getLast?_eq_some_getLast hwne
  have hpw0 := hw _ (List.getElem_mem (l := ws) (n := 0) (by omega))
  have hpwl := hw _ (List.getLast_mem hwne)
  obtain ⟨ws', a, b, c, hw', hwl', el⟩ := lg_lines ms hl hs hd8 ts hpw0 (ts.map (·.2)) 0 ws _ 12 none none none none none none (fun x hx => by
    obtain ⟨t, ht, rfl⟩ := List.mem_map.mp hx
    exact (hts t ht).2) hw0 hpwl (by rw [List.length_map]; omega) hlast (by rw [List.length_map]; omega) (fun w h => (hw w h).mono (by decide))
  obtain ⟨d, ei⟩ := lg_said ms pool dr (fun t ht => (hts t ht).1) (by omega) (some (.imm (.lst (ws'.map .str)))) a b c none none ws' none hw'
  let c0 := pool.getD 0 0
  let c1 := pool.getD 1 0
  have h0 : c0 ∈ sg := pool_sg hl hs (by decide)
  have h1 : c1 ∈ sg := pool_sg hl hs (by decide)
  let P : Option Ce := some (.imm (.lst (ws'.map .str)))
  let A : Option Ce := some (.imm (.str [c0]))
  let B : Option Ce := some (.imm (.str [c0, c1]))
  let R5 : Env := lgE ms pool dr ts P a b c d none none
  let R : Env := lgE ms pool dr ts P a b c d A B
  refine run_rt (ρ' := R) ?_
  unfold b_law
  refine seq_nx (ρ' := [some (.imm (.lst (ms.map .int))), none, none, none, none, none, none, none, none, none, none, none]) (fAsg_of (fN_of s1)) ?_
  refine seq_nx (ρ' := [some (.imm (.lst (ms.map .int))), some (.imm (.str pool)), some (.imm (.lst (dr.map .int))), none, none, none, none, none, none, none, none, none]) (fPar2_of (fCv_of (fDef_of (fC2_of (fName_of rfl) fP_of) ep) (fCv_of (fDef_of (fCons_of (fName_of rfl) (fC3_of fP_of fP_of fP_of)) ed) fP_of))) ?_
  refine seq_nx (ρ' := lgE ms pool dr ts none none none none none none none) ?_ ?_
  · have e3 : fDef f__law_some [] (fCons (fName 0) (fCons (mP (.int 2)) (fCons (fBin vMod (fD (fBin vIx (fPeek 2) (fD (mP (.int 0))))) (fD (mP (.int 7)))) (fCons (fName 1) (mP []))))) [some (.imm (.lst (ms.map .int))), some (.imm (.str pool)), some (.imm (.lst (dr.map .int))), none, none, none, none, none, none, none, none, none] = .ok (.tup [.lst ((ts.map (·.2)).map daLn), .lst (txD ts)]) [some (.imm (.lst (ms.map .int))), some (.imm (.str pool)), some (.imm (.lst (dr.map .int))), none, none, none, none, none, none, none, none, none] :=
      fDef_of (fCons_of (fName_of rfl) (fC3_of fP_of (fBin_of (a := .int n) (b := .int 7) (fD_of (fBin_of (a := .lst (dr.map .int)) (b := .int 0) (fPeek_of rfl) (fD_of fP_of) rfl rfl en)) (fD_of fP_of) rfl rfl rfl) (fName_of rfl))) et
    simp only [fTo, mB, e3]
    rfl
  refine seq_nx (ρ' := lgE ms pool dr ts (some (.lst (ws.map .str))) none none none none none none) (fAsgN_of (fComp_of em ew)) ?_
  refine seq_nx (fFor_of (fItA_of (fC1_of (fName_of rfl)) rfl) el) ?_
  refine seq_nx (ρ' := R5) (fFor_of (fIt_of (ρ1 := lgE ms pool dr ts P a b c none none none) (fName_l rfl) rfl) ei) ?_
  have e0 : ∀ ρ : Env, ρ[1]? = some (some (.imm (.str pool))) → fBin vIx (fPeek 1) (fD (mP (.int 0))) ρ = .ok (.str [c0]) ρ := fun ρ hρ =>
    fBin_of (a := .str pool) (b := .int 0) (fPeek_of hρ) (fD_of fP_of) (by simp only [look, hρ]) rfl (pool_ix hl (i := 0) (by decide))
  have e1 : fBin vIx (fPeek 1) (fD (mP (.int 1))) R5 = .ok (.str [c1]) R5 :=
    fBin_of (a := .str pool) (b := .int 1) (fPeek_of rfl) (fD_of fP_of) rfl rfl (pool_ix hl (i := 1) (by decide))
  refine seq_nx (ρ' := R) (fPar2_of (fCv_of (e0 R5 rfl) (fCv_of (fBin_of (a := .str [c0]) (b := .str [c1]) (fD_of (e0 R5 rfl)) (fD_of e1) rfl rfl (vAddS (by simp))) fP_of))) ?_
  have t1 : fBin vAdd (fPeek 10) (fD (mP (.str [47]))) R = .ok (.str [c0, 47]) R := fBin_of (a := .str [c0]) (b := .str [47]) (fPeek_of rfl) (fD_of fP_of) rfl rfl (vAddS (by simp))
  have t2 : fBin vAdd (fD (mP (.str [33]))) (fPeek 11) R = .ok (.str [33, c0, c1]) R := fBin_of (a := .str [33]) (b := .str [c0, c1]) (fD_of fP_of) (fPeek_of rfl) rfl rfl (vAddS (by simp))
  have t3 : fBin vAdd (fD (fBin vAdd (fPeek 10) (fD (mP (.str [47]))))) (fPeek 11) R = .ok (.str [c0, 47, c0, c1]) R := fBin_of (a := .str [c0, 47]) (b := .str [c0, c1]) (fD_of t1) (fPeek_of rfl) rfl rfl (vAddS (by simp))
  have t4 : fN (fLst (fCons (fBin vAdd (fPeek 10) (fD (mP (.str [47])))) (fCons (fBin vAdd (fD (mP (.str [33]))) (fPeek 11)) (mP [])))) R = .ok (.lst [.str [c0, 47], .str [33, c0, c1]]) R := fN_of (fLst_of (fC2_of t1 t2) (by simp))
  refine seq_if (ρ' := R) (fBinT_of (a := .tup [.bl true, .int 0, .int 0]) (b := .tup [.bl true, .int 0, .int 0]) (fD_of (fDef_of (fC2_of t4 t3) (jd1 h0 h1))) (fD_of (fTup_of (fC3_of fP_of fP_of fP_of) (by simp))) rfl rfl (vEq_t3 true true (some 0) (some 0))) ?_
  refine fRet_of (fAndV_t (fBin_of (a := .tup [.bl false, .non, .non]) (b := .tup [.bl false, .non, .non]) (fD_of (fDef_of (fC2_of t4 (fName_of rfl)) (jd2 h0 h1))) (fD_of (fTup_of (fC3_of fP_of fP_of fP_of) (by simp))) rfl rfl (vEq_t3 false false none none)) ?_)
  exact fBin_of (a := .tup [.bl false, .non, .non]) (b := .tup [.bl false, .non, .non]) (fD_of (fDef_of (fC2_of (fN_of (fLst_of fP_of (by simp))) (fName_of rfl)) (jd3 h0))) (fD_of (fTup_of (fC3_of fP_of fP_of fP_of) (by simp))) rfl rfl (vEq_t3 false false none none)
end Kb
open PySem PySem.W PySem.Calls PyProof.Rows
theorem PySem.Challenge.cw_keepback_k05_whole_judged_holds : PySem.Challenge.rw_keepback_k05_whole_judged.Holds := by
  w_on; o_law
  refine HandSHeadRun.head_any (r := OpenLaw.row PySem.Challenge.rw_keepback_k05_whole_judged) (q := view (OpenLaw.row PySem.Challenge.rw_keepback_k05_whole_judged).prog [Kb.Hd.lawAt]) (H := Kb.Hd.hk) (ob := Kb.Hd.ob) (M := 4000) (loose := Kb.Hd.loose) (d := HandSHeadRun.topDef (OpenLaw.row PySem.Challenge.rw_keepback_k05_whole_judged).prog Kb.Hd.lawAt) (kwd := []) Kb.Hd.ob_eq
    (by kernel_rfl) (fun s => by kernel_rfl) Kb.Hd.run (by kernel_rfl) (by kernel_rfl) (by kernel_rfl) (by rfl) (by first | assumption | decide +kernel) (by decide +kernel) ⟨rfl, rfl, rfl, rfl, rfl, by decide +kernel⟩ ?hw ?hc
  case hw => w_witness2
  case hc =>
    refine LamX.walk_ofTsE (l := PySem.Challenge.rw_keepback_k05_whole_judged) (n := 63) (k := 11) (x := "_law_script") (CX := fun _ => L2.CX0) rfl (by decide) (by kernel_rfl) ⟨rfl, by decide, by decide⟩ ?F (fun _ _ _ _ _ z => z)
    intro w mg fa h Y G hmg0
    obtain ⟨K, KX, c⟩ := Y
    have hmg : mg ("law" : PySem.Str) = some (.ref fa) := by
      have e : (HandSHeadRun.topDef (OpenLaw.row PySem.Challenge.rw_keepback_k05_whole_judged).prog Kb.Hd.lawAt).name = ("law" : PySem.Str) := by kernel_rfl
      rw [← e]
      exact hmg0
    obtain ⟨fd, hb, hF⟩ := Kb.Hd.law_end (P := (PySem.Challenge.rw_keepback_k05_whole_judged).prog) (w := w) KX G hmg c
    refine ⟨K, KX, fd, Kb.Hd.cs K, @Vl.spV (Kb.Hd.lamI K) K Kb.f_law, fun p hp => ?_, fun p hp => ?_, fun p hp => ?_, hb, fun H a ns hl _ hH hS => ?_, hF⟩
    · obtain ⟨q, hq, rfl⟩ := List.mem_map.mp hp
      exact c.empty q hq
    · obtain ⟨q, hq, rfl⟩ := List.mem_map.mp hp
      exact c.out q hq
    · obtain ⟨q, hq, rfl⟩ := List.mem_map.mp hp
      exact PySem.W.codeHd_of_K KX (c.hd q hq)
    · exact @Vl.law_holds (Kb.Hd.lamI K) K a Kb.f_law ns H (fun p hp => Kb.Hd.tab_in hH hp) hS (Kb.law_eq ns hl)
