import PyProof.Rows.All
import Wide.All
import OpenK.AllK
import Wide.FinOn
import HandS.ForMost
import HandS.Deep
import HandS.IsInst
import HandS.Wide
import HandS.Flow
import HandS.Style
import HandS.EndBits
import HandS.ForExc
import HandS.ExcIs
import HandS.Small
import HandS.Gcd
import HandS.FStr
import PySem.Challenge.RW_allreadings_k10_fractions_reckoned
set_option Elab.async false
set_option linter.all false
set_option maxRecDepth 100000
/-! DXCore: owned and shared data over the abstract heap. -/
namespace DX
open PySem PySem.Spec PyProof.Rows L2

/-- data that is shared (never changed from here on), or a list that one name alone holds -/
inductive OD where
  | sh (d : PyData)
  | lst (xs : List OD)
  | tpl (xs : List OD)

mutual
def OD.er : OD → PyData
  | .sh d => d
  | .lst xs => .list (OD.ers xs)
  | .tpl xs => .tuple (OD.ers xs)
def OD.ers : List OD → List PyData
  | [] => []
  | x :: xs => x.er :: OD.ers xs
end
theorem ers_map : ∀ xs : List OD, OD.ers xs = xs.map OD.er
  | [] => rfl
  | x :: xs => by show x.er :: OD.ers xs = _; rw [ers_map xs]; rfl
theorem ers_sh : ∀ ds : List PyData, OD.ers (ds.map OD.sh) = ds
  | [] => rfl
  | d :: ds => by show d :: OD.ers (ds.map OD.sh) = _; rw [ers_sh ds]

abbrev FP := Addr → Nat
/-- the longest text that is carried -/
def strMax : Nat := 16000000
theorem strMax_le {n : Nat} (h : n ≤ strMax) : n + 2 ≤ sizeLine := Nat.le_trans (Nat.add_le_add_right h 2) (by decide)
theorem strMax_le' {n : Nat} (h : n ≤ strMax) : n ≤ sizeLine := by have := strMax_le h; omega
def Sub (G H : Hp) : Prop := ∀ a o, G a = some o → H a = some o
theorem Sub.refl (H : Hp) : Sub H H := fun _ _ h => h
theorem Sub.trans {G H I : Hp} (a : Sub G H) (b : Sub H I) : Sub G I := fun x o h => b x o (a x o h)
theorem sub_upd {G H : Hp} {p : Addr} {o : HO} (s : Sub G H) (h : H p = none) : Sub G (upd H p o) := fun a u e => by
  have := s a u e
  rw [upd_ne (ne_of_none this h)]; exact this
theorem sub_upd2 {G H : Hp} {p : Addr} {o : HO} (s : Sub G H) : Sub (upd G p o) (upd H p o) := fun a u e => by
  by_cases h : a = p
  · subst h; rw [upd_same] at e ⊢; exact e
  · rw [upd_ne h] at e ⊢; exact s a u e

section
variable {K : PySem.W.Frag}
theorem rd_sub {H H' : Hp} {a : Addr} {u : HO} (e : Sub H H') (h : Rd H a u) : Rd H' a u := by
  rcases h with h | ⟨o, h⟩
  · exact .inl (e a _ h)
  · exact .inr ⟨o, e a _ h⟩
theorem sqL_sub {H H' : Hp} {a : Addr} {xs : List V} (e : Sub H H') (h : SqL K H a xs) : SqL K H' a xs := by
  rcases h with h | h
  · exact .inl (rd_sub e h)
  · exact .inr h
theorem sqT_sub {H H' : Hp} {a : Addr} {xs : List V} (e : Sub H H') (h : SqT K H a xs) : SqT K H' a xs := by
  rcases h with h | h
  · exact .inl (rd_sub e h)
  · exact .inr h
mutual
/-- a value as data: its lists are tracked -/
inductive Dx (K : PySem.W.Frag) (H : Hp) : V → PyData → Prop
  | non : Dx K H .non .none
  | bl (b : Bool) : Dx K H (.bl b) (.bool b)
  | int (i : Int) : Dx K H (.int i) (.int i)
  | str (x : Str) (h : x.length ≤ strMax) : Dx K H (.str x) (.str x)
  | lst {a : Addr} {vs : List V} {ds : List PyData} : SqL K H a vs → DxAll K H vs ds → Dx K H (.ref a) (.list ds)
  | tup {a : Addr} {vs : List V} {ds : List PyData} : SqT K H a vs → DxAll K H vs ds → Dx K H (.ref a) (.tuple ds)
  | exc (a : Nat) (e : Nat) : Dx K H (.ref a) (.dict [(.int (a : Nat), .int (e : Nat))])
inductive DxAll (K : PySem.W.Frag) (H : Hp) : List V → List PyData → Prop
  | nil : DxAll K H [] []
  | cons {v : V} {vs : List V} {d : PyData} {ds : List PyData} : Dx K H v d → DxAll K H vs ds → DxAll K H (v :: vs) (d :: ds)
end
mutual
theorem Dx.dp {H : Hp} : ∀ {v : V} {d : PyData}, Dx K H v d → d.hasDict = false → Dp K H v d
  | _, _, .non, _ => .non
  | _, _, .bl b, _ => .bl b
  | _, _, .int i, _ => .int i
  | _, _, .str x _, _ => .str x
  | _, _, .lst h r, z => .lst h (DxAll.dp r (by rw [PyData.hasDict] at z; exact z))
  | _, _, .tup h r, z => .tup h (DxAll.dp r (by rw [PyData.hasDict] at z; exact z))
  | _, _, .exc _ _, z => by rw [PyData.hasDict] at z; cases z
theorem DxAll.dp {H : Hp} : ∀ {vs : List V} {ds : List PyData}, DxAll K H vs ds → PyData.hasDictAll ds = false → DpAll K H vs ds
  | _, _, .nil, _ => .nil
  | _, _, .cons a r, z => by
    rw [PyData.hasDictAll, Bool.or_eq_false_iff] at z
    exact .cons (a.dp z.1) (DxAll.dp r z.2)
end
mutual
theorem dp_sub {H H' : Hp} (e : Sub H H') : ∀ {v : V} {d : PyData}, Dx K H v d → Dx K H' v d
  | _, _, .non => .non
  | _, _, .bl b => .bl b
  | _, _, .int i => .int i
  | _, _, .str x h => .str x h
  | _, _, .lst h r => .lst (sqL_sub e h) (dps_sub e r)
  | _, _, .tup h r => .tup (sqT_sub e h) (dps_sub e r)
  | _, _, .exc a b => .exc a b
theorem dps_sub {H H' : Hp} (e : Sub H H') : ∀ {vs : List V} {ds : List PyData}, DxAll K H vs ds → DxAll K H' vs ds
  | _, _, .nil => .nil
  | _, _, .cons a r => .cons (dp_sub e a) (dps_sub e r)
end
theorem dps_len {H : Hp} : ∀ {vs : List V} {ds : List PyData}, DxAll K H vs ds → vs.length = ds.length
  | _, _, .nil => rfl
  | _, _, .cons _ r => by simp [dps_len r]
theorem dps_app {H : Hp} : ∀ {vs ws : List V} {ds es : List PyData}, DxAll K H vs ds → DxAll K H ws es → DxAll K H (vs ++ ws) (ds ++ es)
  | _, _, _, _, .nil, h => h
  | _, _, _, _, .cons a r, h => .cons a (dps_app r h)
theorem dps_get {H : Hp} : ∀ {vs : List V} {ds : List PyData} {i : Nat} {d : PyData}, DxAll K H vs ds → ds[i]? = some d → ∃ v, vs[i]? = some v ∧ Dx K H v d
  | _, _, _, _, .nil, h => by simp at h
  | _, _, 0, _, .cons a _, h => by simp at h; subst h; exact ⟨_, rfl, a⟩
  | _, _, i + 1, _, .cons _ r, h => by
    obtain ⟨v, h1, h2⟩ := dps_get (i := i) r (by simpa using h)
    exact ⟨v, by simpa using h1, h2⟩

mutual
inductive RO (K : PySem.W.Frag) (G H : Hp) : V → OD → FP → Prop
  | sh {v : V} {d : PyData} : Dx K G v d → RO K G H v (.sh d) (fun _ => 0)
  | lst {p : Addr} {vs : List V} {xs : List OD} {f : FP} : H p = some (.lst vs) → ROs K G H vs xs f → RO K G H (.ref p) (.lst xs) (fun a => (if a = p then 1 else 0) + f a)
  | tpl {p : Addr} {vs : List V} {xs : List OD} {f : FP} : SqT K G p vs → ROs K G H vs xs f → RO K G H (.ref p) (.tpl xs) f
inductive ROs (K : PySem.W.Frag) (G H : Hp) : List V → List OD → FP → Prop
  | nil : ROs K G H [] [] (fun _ => 0)
  | cons {v : V} {x : OD} {f : FP} {vs : List V} {xs : List OD} {g : FP} : RO K G H v x f → ROs K G H vs xs g → ROs K G H (v :: vs) (x :: xs) (fun a => f a + g a)
end

mutual
theorem RO.mono {G H G' H' : Hp} (g : Sub G G') : ∀ {v : V} {o : OD} {f : FP}, RO K G H v o f → (∀ a u, f a ≠ 0 → H a = some u → H' a = some u) → RO K G' H' v o f
  | _, _, _, .sh h, _ => .sh (dp_sub g h)
  | _, _, _, .lst (p := p) (f := f) h r, k => .lst (k p _ (by simp) h) (ROs.mono g r fun a u ha e => k a u (by (try dsimp only at *); omega) e)
  | _, _, _, .tpl h r, k => .tpl (sqT_sub g h) (ROs.mono g r k)
theorem ROs.mono {G H G' H' : Hp} (g : Sub G G') : ∀ {vs : List V} {os : List OD} {f : FP}, ROs K G H vs os f → (∀ a u, f a ≠ 0 → H a = some u → H' a = some u) → ROs K G' H' vs os f
  | _, _, _, .nil, _ => .nil
  | _, _, _, .cons (f := f) (g := f') h r, k => .cons (RO.mono g h fun a u ha e => k a u (by (try dsimp only at *); omega) e) (ROs.mono g r fun a u ha e => k a u (by (try dsimp only at *); omega) e)
end
-- owned data made shared
mutual
theorem RO.frz {G H G' : Hp} (g : Sub G G') : ∀ {v : V} {o : OD} {f : FP}, RO K G H v o f → (∀ a u, f a ≠ 0 → H a = some u → G' a = some u) → Dx K G' v o.er
  | _, _, _, .sh h, _ => dp_sub g h
  | _, _, _, .lst (p := p) (f := f) h r, k => .lst (.inl (.inl (k p _ (by simp) h))) (ROs.frz g r fun a u ha e => k a u (by (try dsimp only at *); omega) e)
  | _, _, _, .tpl h r, k => .tup (sqT_sub g h) (ROs.frz g r k)
theorem ROs.frz {G H G' : Hp} (g : Sub G G') : ∀ {vs : List V} {os : List OD} {f : FP}, ROs K G H vs os f → (∀ a u, f a ≠ 0 → H a = some u → G' a = some u) → DxAll K G' vs (OD.ers os)
  | _, _, _, .nil, _ => .nil
  | _, _, _, .cons (f := f) (g := f') h r, k => .cons (RO.frz g h fun a u ha e => k a u (by (try dsimp only at *); omega) e) (ROs.frz g r fun a u ha e => k a u (by (try dsimp only at *); omega) e)
end
mutual
theorem RO.live {G H : Hp} : ∀ {v : V} {o : OD} {f : FP}, RO K G H v o f → ∀ a, f a ≠ 0 → H a ≠ none
  | _, _, _, .sh _, a, h => absurd rfl h
  | _, _, _, .lst (p := p) (f := f) h r, a, ha => by
    by_cases e : a = p
    · subst e; rw [h]; simp
    · exact ROs.live r a (by simp [e] at ha; exact ha)
  | _, _, _, .tpl _ r, a, ha => ROs.live r a ha
theorem ROs.live {G H : Hp} : ∀ {vs : List V} {os : List OD} {f : FP}, ROs K G H vs os f → ∀ a, f a ≠ 0 → H a ≠ none
  | _, _, _, .nil, a, h => absurd rfl h
  | _, _, _, .cons (f := f) (g := f') h r, a, ha => by
    by_cases e : f a = 0
    · exact ROs.live r a (by (try dsimp only at *); omega)
    · exact RO.live h a e
end
theorem ROs.len {G H : Hp} : ∀ {vs : List V} {os : List OD} {f : FP}, ROs K G H vs os f → vs.length = os.length
  | _, _, _, .nil => rfl
  | _, _, _, .cons _ r => by simp [ROs.len r]
theorem ROs.of_dps {G H : Hp} : ∀ {vs : List V} {ds : List PyData}, DxAll K G vs ds → ROs K G H vs (ds.map OD.sh) (fun _ => 0)
  | _, _, .nil => .nil
  | _, _, .cons h r => ROs.cons (f := fun _ => 0) (g := fun _ => 0) (.sh h) (ROs.of_dps r)
theorem ROs.app {G H : Hp} : ∀ {vs ws : List V} {os ps : List OD} {f g : FP}, ROs K G H vs os f → ROs K G H ws ps g → ∃ k, ROs K G H (vs ++ ws) (os ++ ps) k ∧ ∀ a, k a = f a + g a
  | _, _, _, _, _, g, .nil, h => ⟨g, h, fun a => by (try dsimp only at *); omega⟩
  | _, _, _, _, _, g, .cons (f := f₁) (g := f₂) h r, q => by
    obtain ⟨k, h1, h2⟩ := ROs.app r q
    exact ⟨_, .cons h h1, fun a => by (try dsimp only); rw [h2]; omega⟩

/-- the slots (and temporaries behind them): what each holds; f: what is owned in all -/
inductive SL (K : PySem.W.Frag) (G H : Hp) : List (Option V) → List (Option OD) → FP → Prop
  | nil : SL K G H [] [] (fun _ => 0)
  | un {v : Option V} {vs : List (Option V)} {os : List (Option OD)} {f : FP} : SL K G H vs os f → SL K G H (v :: vs) (none :: os) f
  | val {v : V} {o : OD} {f : FP} {vs : List (Option V)} {os : List (Option OD)} {g : FP} : RO K G H v o f → SL K G H vs os g → SL K G H (some v :: vs) (some o :: os) (fun a => f a + g a)
theorem SL.len {G H : Hp} : ∀ {vs : List (Option V)} {os : List (Option OD)} {f : FP}, SL K G H vs os f → vs.length = os.length
  | _, _, _, .nil => rfl
  | _, _, _, .un r => by simp [SL.len r]
  | _, _, _, .val _ r => by simp [SL.len r]
theorem SL.mono {G H G' H' : Hp} (g : Sub G G') : ∀ {vs : List (Option V)} {os : List (Option OD)} {f : FP}, SL K G H vs os f → (∀ a u, f a ≠ 0 → H a = some u → H' a = some u) → SL K G' H' vs os f
  | _, _, _, .nil, _ => .nil
  | _, _, _, .un r, k => .un (SL.mono g r k)
  | _, _, _, .val (f := f) (g := f') h r, k => .val (h.mono g fun a u ha e => k a u (by (try dsimp only at *); omega) e) (SL.mono g r fun a u ha e => k a u (by (try dsimp only at *); omega) e)
theorem SL.live {G H : Hp} : ∀ {vs : List (Option V)} {os : List (Option OD)} {f : FP}, SL K G H vs os f → ∀ a, f a ≠ 0 → H a ≠ none
  | _, _, _, .nil, a, h => absurd rfl h
  | _, _, _, .un r, a, h => SL.live r a h
  | _, _, _, .val (f := f) (g := f') h r, a, ha => by
    by_cases e : f a = 0
    · exact SL.live r a (by (try dsimp only at *); omega)
    · exact h.live a e
theorem SL.congr {G H : Hp} {vs : List (Option V)} {os : List (Option OD)} {f g : FP} (h : SL K G H vs os f) (e : ∀ a, f a = g a) : SL K G H vs os g := by
  have : f = g := funext e
  subst this; exact h
/-- look at the i-th -/
theorem SL.at {G H : Hp} : ∀ {vs : List (Option V)} {os : List (Option OD)} {f : FP} {i : Nat} {o : OD}, SL K G H vs os f → os[i]? = some (some o) →
    ∃ (v : V) (fo fr : FP), vs[i]? = some (some v) ∧ RO K G H v o fo ∧ (∀ a, f a = fo a + fr a) ∧ 
      (∀ G' H', Sub G G' → (∀ a u, fr a ≠ 0 → H a = some u → H' a = some u) → ∀ v' o' f', RO K G' H' v' o' f' → ∃ g, SL K G' H' (vs.set i (some v')) (os.set i (some o')) g ∧ ∀ a, g a = f' a + fr a)
  | _, _, _, _, _, .nil, h => by simp at h
  | _, _, _, 0, _, .un r, h => by simp at h
  | _, _, _, 0, o, .val (v := v) (f := f) (g := g) q r, h => by
    simp at h; subst h
    exact ⟨v, f, g, rfl, q, fun _ => rfl, fun G' H' s k v' o' f' q' => ⟨_, .val q' (r.mono s k), fun _ => rfl⟩⟩
  | _, _, _, i + 1, o, .un (v := w) r, h => by
    obtain ⟨v, fo, fr, h1, h2, h3, h5⟩ := SL.at (i := i) r (by simpa using h)
    exact ⟨v, fo, fr, by simpa using h1, h2, h3, fun G' H' s k v' o' f' q => by
      obtain ⟨g, g1, g2⟩ := h5 G' H' s k v' o' f' q
      exact ⟨g, .un g1, g2⟩⟩
  | _, _, _, i + 1, o, .val (f := f) (g := g) q r, h => by
    obtain ⟨v, fo, fr, h1, h2, h3, h5⟩ := SL.at (i := i) r (by simpa using h)
    refine ⟨v, fo, fun a => f a + fr a, by simpa using h1, h2, fun a => by (try dsimp only at *); rw [h3 a]; omega, fun G' H' s k v' o' f' q' => ?_⟩
    obtain ⟨k', g1, g2⟩ := h5 G' H' s (fun a u z e => k a u (by (try dsimp only at *); omega) e) v' o' f' q'
    exact ⟨_, .val (q.mono s fun a u z e => k a u (by (try dsimp only at *); omega) e) g1, fun a => by (try dsimp only at *); rw [g2 a]; omega⟩
/-- a slot overwritten, whatever it held -/
theorem SL.put {G H : Hp} : ∀ {vs : List (Option V)} {os : List (Option OD)} {f : FP} (i : Nat), SL K G H vs os f → i < os.length →
    ∃ fr, (∀ a, fr a ≤ f a) ∧ (∀ vv, SL K G H (vs.set i vv) (os.set i none) fr) ∧ (∀ v' o' f', RO K G H v' o' f' → ∃ g, SL K G H (vs.set i (some v')) (os.set i (some o')) g ∧ ∀ a, g a = f' a + fr a)
  | _, _, _, i, .nil, h => by simp at h
  | _, _, _, 0, .un (f := f) r, _ => ⟨f, fun _ => Nat.le_refl _, fun vv => .un r, fun v' o' f' q => ⟨_, .val q r, fun _ => rfl⟩⟩
  | _, _, _, 0, .val (f := f) (g := g) q r, _ => ⟨g, fun a => by (try dsimp only at *); omega, fun vv => .un r, fun v' o' f' q' => ⟨_, .val q' r, fun _ => rfl⟩⟩
  | _, _, _, i + 1, .un r, h => by
    obtain ⟨fr, h1, h4, h5⟩ := SL.put i r (by simpa using h)
    exact ⟨fr, h1, fun vv => .un (h4 vv), fun v' o' f' q => by
      obtain ⟨g, g1, g2⟩ := h5 v' o' f' q
      exact ⟨g, .un g1, g2⟩⟩
  | _, _, _, i + 1, .val (f := f) (g := g) q r, h => by
    obtain ⟨fr, h1, h4, h5⟩ := SL.put i r (by simpa using h)
    refine ⟨fun a => f a + fr a, fun a => by have := h1 a; (try dsimp only at *); omega, fun vv => .val q (h4 vv), fun v' o' f' q' => ?_⟩
    obtain ⟨k, g1, g2⟩ := h5 v' o' f' q'
    exact ⟨_, .val q g1, fun a => by (try dsimp only at *); rw [g2 a]; omega⟩
theorem SL.app {G H : Hp} : ∀ {vs ws : List (Option V)} {os ps : List (Option OD)} {f g : FP}, SL K G H vs os f → SL K G H ws ps g → ∃ k, SL K G H (vs ++ ws) (os ++ ps) k ∧ ∀ a, k a = f a + g a
  | _, _, _, _, _, g, .nil, h => ⟨g, h, fun a => by (try dsimp only at *); omega⟩
  | _, _, _, _, _, g, .un r, q => by
    obtain ⟨k, h1, h2⟩ := SL.app r q
    exact ⟨k, .un h1, h2⟩
  | _, _, _, _, _, g, .val (f := f₁) (g := f₂) h r, q => by
    obtain ⟨k, h1, h2⟩ := SL.app r q
    exact ⟨_, .val h h1, fun a => by (try dsimp only); rw [h2]; omega⟩
theorem SL.cut {G H : Hp} : ∀ {vs ws : List (Option V)} {os ps : List (Option OD)} {f : FP}, vs.length = os.length → SL K G H (vs ++ ws) (os ++ ps) f → ∃ g k, SL K G H vs os g ∧ SL K G H ws ps k ∧ ∀ a, f a = g a + k a
  | [], _, [], _, f, _, h => ⟨fun _ => 0, f, .nil, h, fun a => by (try dsimp only at *); omega⟩
  | [], _, _ :: _, _, _, e, _ => by simp at e
  | _ :: _, _, [], _, _, e, _ => by simp at e
  | v :: vs, ws, o :: os, ps, f, e, h => by
    have e' : vs.length = os.length := by simpa using e
    cases h with
    | un r =>
      obtain ⟨g, k, h1, h2, h3⟩ := SL.cut e' r
      exact ⟨g, k, .un h1, h2, h3⟩
    | val q r =>
      obtain ⟨g, k, h1, h2, h3⟩ := SL.cut e' r
      exact ⟨_, k, .val q h1, h2, fun a => by (try dsimp only at *); rw [h3 a]; omega⟩
end

/-- the state: G the shared part of the heap H -/
structure SI (K : PySem.W.Frag) (G H : Hp) (vs : List (Option V)) (os : List (Option OD)) (f : FP) : Prop where
  sl : SL K G H vs os f
  sub : Sub G H
  one : ∀ a, f a ≤ 1
  hid : ∀ a, f a ≠ 0 → G a = none
/-- how the state goes on -/
structure Stp (G H : Hp) (f : FP) (G' H' : Hp) (f' : FP) : Prop where
  gsub : Sub G G'
  keep : ∀ a o, H a = some o → f a = 0 → H' a = some o
  dom : ∀ a, H a ≠ none → H' a ≠ none
  gnew : ∀ a, G' a ≠ none → G a ≠ none ∨ H a = none ∨ f a ≠ 0
  fnew : ∀ a, f' a ≠ 0 → f a ≠ 0 ∨ H a = none
theorem Stp.refl (G H : Hp) (f : FP) : Stp G H f G H f := ⟨Sub.refl _, fun _ _ h _ => h, fun _ h => h, fun _ h => .inl h, fun _ h => .inl h⟩
theorem Stp.trans {G H G1 H1 G2 H2 : Hp} {f f1 f2 : FP} (a : Stp G H f G1 H1 f1) (b : Stp G1 H1 f1 G2 H2 f2) : Stp G H f G2 H2 f2 where
  gsub := a.gsub.trans b.gsub
  keep := fun x o h z => b.keep x o (a.keep x o h z) (by
    by_cases e : f1 x = 0
    · exact e
    · rcases a.fnew x e with q | q
      · exact absurd z q
      · rw [q] at h; cases h)
  dom := fun x h => b.dom x (a.dom x h)
  gnew := fun x h => by
    rcases b.gnew x h with q | q | q
    · exact a.gnew x q
    · by_cases e : H x = none
      · exact .inr (.inl e)
      · exact absurd q (a.dom x e)
    · rcases a.fnew x q with r | r
      · exact .inr (.inr r)
      · exact .inr (.inl r)
  fnew := fun x h => by
    rcases b.fnew x h with q | q
    · exact a.fnew x q
    · by_cases e : H x = none
      · exact .inr e
      · exact absurd q (a.dom x e)
/-- less is owned -/
theorem Stp.less {G H : Hp} {f f' : FP} (h : ∀ a, f' a ≤ f a) : Stp G H f G H f' := ⟨Sub.refl _, fun _ _ h _ => h, fun _ h => h, fun _ h => .inl h, fun a q => .inl (by have := h a; omega)⟩

section
variable {K : PySem.W.Frag} {G H : Hp} {vs : List (Option V)} {os : List (Option OD)} {f : FP}
theorem SI.live (I : SI K G H vs os f) : ∀ a, f a ≠ 0 → H a ≠ none := I.sl.live
/-- a shared value comes onto the stack -/
theorem SI.push (I : SI K G H vs os f) {v : V} {d : PyData} (h : Dx K G v d) : SI K G H (vs ++ [some v]) (os ++ [some (.sh d)]) f := by
  obtain ⟨k, h1, h2⟩ := SL.app I.sl (SL.val (RO.sh (H := H) h) .nil)
  exact ⟨h1.congr fun a => by rw [h2]; rfl, I.sub, I.one, I.hid⟩
/-- nothing is said of a value -/
theorem SI.pushN (I : SI K G H vs os f) (v : Option V) : SI K G H (vs ++ [v]) (os ++ [none]) f := by
  obtain ⟨k, h1, h2⟩ := SL.app I.sl (SL.un (v := v) .nil)
  exact ⟨h1.congr fun a => by rw [h2]; rfl, I.sub, I.one, I.hid⟩
theorem SI.forget (I : SI K G H vs os f) {f' : FP} {vs' : List (Option V)} {os' : List (Option OD)} (h : SL K G H vs' os' f') (le : ∀ a, f' a ≤ f a) : SI K G H vs' os' f' :=
  ⟨h, I.sub, fun a => Nat.le_trans (le a) (I.one a), fun a q => I.hid a (by have := le a; omega)⟩
/-- what is shared more: the addresses where D says so -/
noncomputable def ext (G H : Hp) (D : FP) : Hp := fun a => if D a ≠ 0 then H a else G a
theorem sub_ext (I : Sub G H) {D : FP} (hid : ∀ a, D a ≠ 0 → G a = none) : Sub G (ext G H D) := fun a o e => by
  unfold ext
  rw [if_neg (fun q => by rw [hid a q] at e; cases e)]; exact e
theorem ext_sub (I : Sub G H) {D : FP} : Sub (ext G H D) H := fun a o e => by
  unfold ext at e
  split at e
  · exact e
  · exact I a o e
theorem set_id {α : Type} {l : List α} {i : Nat} {x : α} (h : l[i]? = some x) : l.set i x = l := by
  apply List.ext_getElem?
  intro j
  by_cases e : i = j
  · subst e
    rw [List.getElem?_set_self (by
      rcases Nat.lt_or_ge i l.length with q | q
      · exact q
      · rw [List.getElem?_eq_none q] at h; cases h)]
    exact h.symm
  · rw [List.getElem?_set_ne e]
/-- the i-th is made shared -/
theorem SI.freeze (I : SI K G H vs os f) {i : Nat} {o : OD} (h : os[i]? = some (some o)) :
    ∃ G' f', SI K G' H vs (os.set i (some (.sh o.er))) f' ∧ Stp G H f G' H f' ∧ ∃ v, vs[i]? = some (some v) ∧ Dx K G' v o.er := by
  obtain ⟨v, fo, fr, h1, h2, h3, h5⟩ := I.sl.at h
  have hidD : ∀ a, fo a ≠ 0 → G a = none := fun a q => I.hid a (by rw [h3]; omega)
  have s1 : Sub G (ext G H fo) := sub_ext I.sub hidD
  have s2 : Sub (ext G H fo) H := ext_sub I.sub
  have hd : Dx K (ext G H fo) v o.er := h2.frz s1 fun a u q e => by unfold ext; rw [if_pos q]; exact e
  obtain ⟨g, g1, g2⟩ := h5 (ext G H fo) H s1 (fun a u _ e => e) v (.sh o.er) _ (.sh hd)
  rw [set_id h1] at g1
  refine ⟨ext G H fo, g, ⟨g1, s2, fun a => ?_, fun a q => ?_⟩, ⟨s1, fun _ _ e _ => e, fun _ e => e, fun a q => ?_, fun a q => .inl ?_⟩, v, h1, hd⟩
  · rw [g2 a]; have := I.one a; rw [h3 a] at this; omega
  · rw [g2 a] at q
    have q1 : fo a = 0 := by have := I.one a; rw [h3 a] at this; omega
    unfold ext; rw [if_neg (by omega)]
    exact I.hid a (by rw [h3]; omega)
  · unfold ext at q
    split at q
    · rename_i r; exact .inr (.inr (by rw [h3]; omega))
    · exact .inl q
  · rw [g2 a] at q; rw [h3]; omega
/-- any slot is read as data of the heap -/
theorem RO.rd (s : Sub G H) {v : V} {o : OD} {fo : FP} (h : RO K G H v o fo) : Dx K H v o.er := h.frz s fun _ _ _ e => e
theorem SI.rd (I : SI K G H vs os f) {i : Nat} {o : OD} (h : os[i]? = some (some o)) : ∃ v, vs[i]? = some (some v) ∧ Dx K H v o.er := by
  obtain ⟨v, fo, fr, h1, h2, _⟩ := I.sl.at h
  exact ⟨v, h1, h2.rd I.sub⟩
/-- the last is dropped -/
theorem SI.pop {x : Option V} {y : Option OD} (I : SI K G H (vs ++ [x]) (os ++ [y]) f) (hl : vs.length = os.length) : ∃ f', SI K G H vs os f' ∧ ∀ a, f' a ≤ f a := by
  obtain ⟨g, k, h1, _, h3⟩ := SL.cut hl I.sl
  exact ⟨g, I.forget h1 fun a => by rw [h3]; omega, fun a => by rw [h3]; omega⟩
/-- the last is taken off -/
theorem SI.last {x : Option V} {o : OD} (I : SI K G H (vs ++ [x]) (os ++ [some o]) f) (hl : vs.length = os.length) : ∃ v fo fr, x = some v ∧ RO K G H v o fo ∧ SL K G H vs os fr ∧ ∀ a, f a = fr a + fo a := by
  obtain ⟨g, k, h1, h2, h3⟩ := SL.cut hl I.sl
  cases h2 with
  | val q r =>
    cases r
    exact ⟨_, _, g, rfl, q, h1, fun a => by rw [h3]; rfl⟩
/-- the heap goes on with what G and f hold as it stands -/
theorem SI.grow (I : SI K G H vs os f) {H' : Hp} (s : Sub H H') : SI K G H' vs os f :=
  ⟨I.sl.mono (Sub.refl _) fun a u _ e => s a u e, I.sub.trans s, I.one, I.hid⟩
/-- a new list, its items as they are owned -/
theorem SI.pushL (I : SI K G H vs os f) {xs : List V} {ys : List OD} {g h : FP} (q : ROs K G H xs ys g) (hs : SL K G H vs os h) (hf : ∀ a, f a = h a + g a) {p : Addr} (hp : H p = none) :
    ∃ f', SI K G (upd H p (.lst xs)) (vs ++ [some (.ref p)]) (os ++ [some (.lst ys)]) f' ∧ Stp G H f G (upd H p (.lst xs)) f' := by
  have sb : Sub H (upd H p (.lst xs)) := sub_upd (Sub.refl _) hp
  have hfp : f p = 0 := by
    by_cases e : f p = 0
    · exact e
    · exact absurd hp (I.live p e)
  have r : RO K G (upd H p (.lst xs)) (.ref p) (.lst ys) _ := .lst upd_same (q.mono (Sub.refl _) fun a u _ e => sb a u e)
  obtain ⟨k, k1, k2⟩ := SL.app (hs.mono (Sub.refl _) fun a u _ e => sb a u e) (SL.val r .nil)
  refine ⟨k, ⟨k1, I.sub.trans sb, fun a => ?_, fun a z => ?_⟩, ⟨Sub.refl _, fun a o e _ => sb a o e, fun a e => ?_, fun a e => .inl e, fun a z => ?_⟩⟩
  · rw [k2]; (try dsimp only)
    have := I.one a; rw [hf] at this
    by_cases e : a = p
    · subst e; rw [hf] at hfp; rw [if_pos rfl]; omega
    · rw [if_neg e]; omega
  · rw [k2] at z; (try dsimp only at z)
    by_cases e : a = p
    · subst e
      cases hg : G a with
      | none => rfl
      | some u => have := I.sub a u hg; rw [hp] at this; cases this
    · rw [if_neg e] at z
      exact I.hid a (by rw [hf]; omega)
  · cases e' : H a with
    | none => exact absurd e' e
    | some u => rw [sb a u e']; simp
  · rw [k2] at z; (try dsimp only at z)
    by_cases e : a = p
    · subst e; exact .inr hp
    · rw [if_neg e] at z
      exact .inl (by rw [hf]; omega)
theorem SI.pushNew (I : SI K G H vs os f) {xs : List V} {ds : List PyData} (q : DxAll K G xs ds) {p : Addr} (hp : H p = none) :
    ∃ f', SI K G (upd H p (.lst xs)) (vs ++ [some (.ref p)]) (os ++ [some (.lst (ds.map OD.sh))]) f' ∧ Stp G H f G (upd H p (.lst xs)) f' :=
  I.pushL (ROs.of_dps q) I.sl (fun _ => rfl) hp
/-- a new tuple of shared things -/
theorem SI.pushTup (I : SI K G H vs os f) {xs : List V} {ds : List PyData} (q : DxAll K G xs ds) {p : Addr} (hp : H p = none) :
    SI K (upd G p (.tup xs)) (upd H p (.tup xs)) (vs ++ [some (.ref p)]) (os ++ [some (.sh (.tuple ds))]) f ∧ Stp G H f (upd G p (.tup xs)) (upd H p (.tup xs)) f := by
  have gp : G p = none := by
    cases hg : G p with
    | none => rfl
    | some u => have := I.sub p u hg; rw [hp] at this; cases this
  have sg : Sub G (upd G p (.tup xs)) := sub_upd (Sub.refl _) gp
  have sb : Sub H (upd H p (.tup xs)) := sub_upd (Sub.refl _) hp
  have hfp : f p = 0 := by
    by_cases e : f p = 0
    · exact e
    · exact absurd hp (I.live p e)
  have J : SI K (upd G p (.tup xs)) (upd H p (.tup xs)) vs os f := ⟨I.sl.mono sg fun a u _ e => sb a u e, sub_upd2 I.sub, I.one, fun a q => by
    rw [upd_ne (fun e => by subst e; exact q hfp)]; exact I.hid a q⟩
  refine ⟨J.push (.tup (SqT.of upd_same) (dps_sub sg q)), ⟨sg, fun a o e _ => sb a o e, fun a e => ?_, fun a e => ?_, fun a z => .inl z⟩⟩
  · cases e' : H a with
    | none => exact absurd e' e
    | some u => rw [sb a u e']; simp
  · by_cases z : a = p
    · subst z; exact .inr (.inl hp)
    · rw [upd_ne z] at e; exact .inl e
end
end DX
/-! DXEval: a small language of data, and what its expressions are worth. -/
namespace DX
open PySem PySem.Spec PyProof.Rows L2

inductive RV where
  | al (i : Nat)
  | tm (o : OD)
abbrev En := List (Option OD)
def RV.od : RV → Option OD
  | .al _ => none
  | .tm o => some o
def RV.rd (os : En) : RV → Option PyData
  | .al i => match os[i]? with
    | some (some o) => some o.er
    | _ => none
  | .tm o => some o.er
def rdAll (os : En) : List RV → Option (List PyData)
  | [] => some []
  | r :: rs => match r.rd os, rdAll os rs with
    | some d, some ds => some (d :: ds)
    | _, _ => none
def isSc : PyData → Bool
  | .none | .bool _ | .int _ | .str _ => true
  | _ => false
def OD.isSh : OD → Bool
  | .sh _ => true
  | _ => false
/-- nothing owned within -/
def OD.flat : OD → Bool
  | .sh _ => true
  | .lst xs => xs.all OD.isSh
  | .tpl _ => false
/-- a slot that owns lists within its list is made shared -/
def soft (os : En) : RV → En
  | .al i => match os[i]? with
    | some (some o) => if o.flat then os else os.set i (some (.sh o.er))
    | _ => os
  | .tm _ => os
def softAll (os : En) : List RV → En
  | [] => os
  | r :: rs => softAll (soft os r) rs
/-- a slot made shared whatever it holds -/
def hard (os : En) : RV → En
  | .al i => match os[i]? with
    | some (some (.lst xs)) => os.set i (some (.sh (OD.lst xs).er))
    | some (some (.tpl xs)) => os.set i (some (.sh (OD.tpl xs).er))
    | _ => os
  | .tm _ => os
def hardAll (os : En) : List RV → En
  | [] => os
  | r :: rs => hardAll (hard os r) rs

/-- what an operation gives: a value (shared, or a scalar), a new list, a new tuple -/
inductive Op where
  | val (d : PyData)
  | nl (ds : List PyData)
  | nt (ds : List PyData)

def isInt? : PyData → Option Int
  | .int i => some i
  | _ => none

section
variable {K : PySem.W.Frag} {G H : Hp}
/-- a value whose topmost list may be owned -/
inductive DpW (K : PySem.W.Frag) (G H : Hp) : V → PyData → Prop
  | sh {v : V} {d : PyData} : Dx K G v d → DpW K G H v d
  | own {p : Addr} {vs : List V} {ds : List PyData} : H p = some (.lst vs) → DxAll K G vs ds → DpW K G H (.ref p) (.list ds)
inductive DpWs (K : PySem.W.Frag) (G H : Hp) : List V → List PyData → Prop
  | nil : DpWs K G H [] []
  | cons {v : V} {d : PyData} {vs : List V} {ds : List PyData} : DpW K G H v d → DpWs K G H vs ds → DpWs K G H (v :: vs) (d :: ds)
theorem DpW.dx (s : Sub G H) {v : V} {d : PyData} : DpW K G H v d → Dx K H v d
  | .sh h => dp_sub s h
  | .own h r => .lst (.inl (.inl h)) (dps_sub s r)
theorem DpWs.dx (s : Sub G H) : ∀ {vs : List V} {ds : List PyData}, DpWs K G H vs ds → DxAll K H vs ds
  | _, _, .nil => .nil
  | _, _, .cons h r => .cons (h.dx s) (DpWs.dx s r)
theorem DpW.mono {G' : Hp} (g : Sub G G') {v : V} {d : PyData} : DpW K G H v d → DpW K G' H v d
  | .sh h => .sh (dp_sub g h)
  | .own h r => .own h (dps_sub g r)
theorem DpWs.mono {G' : Hp} (g : Sub G G') : ∀ {vs : List V} {ds : List PyData}, DpWs K G H vs ds → DpWs K G' H vs ds
  | _, _, .nil => .nil
  | _, _, .cons h r => .cons (h.mono g) (DpWs.mono g r)
theorem DpWs.of : ∀ {vs : List V} {ds : List PyData}, DxAll K G vs ds → DpWs K G H vs ds
  | _, _, .nil => .nil
  | _, _, .cons h r => .cons (.sh h) (DpWs.of r)
/-- scalars are the same in every heap -/
theorem dp_sc {v : V} {d : PyData} {H' : Hp} (h : Dx K H v d) (e : isSc d = true) : Dx K H' v d := by
  cases h <;> first | (cases e; done) | (constructor; done) | (constructor; assumption)
theorem dps_sc {H' : Hp} : ∀ {vs : List V} {ds : List PyData}, DxAll K H vs ds → ds.all isSc = true → DxAll K H' vs ds
  | _, _, .nil, _ => .nil
  | _, _, .cons h r, e => by
    simp only [List.all_cons, Bool.and_eq_true] at e
    exact .cons (dp_sc h e.1) (dps_sc r e.2)

def RV.alias (σ : L2.St) (v : V) : RV → Prop
  | .al i => σ[i]? = some (some v)
  | .tm _ => True
inductive Als (σ : L2.St) : List V → List RV → Prop
  | nil : Als σ [] []
  | cons {v : V} {r : RV} {vs : List V} {rs : List RV} : r.alias σ v → Als σ vs rs → Als σ (v :: vs) (r :: rs)
theorem Als.len {σ : L2.St} : ∀ {vs : List V} {rs : List RV}, Als σ vs rs → vs.length = rs.length
  | _, _, .nil => rfl
  | _, _, .cons _ r => by simp [Als.len r]
theorem Als.app {σ : L2.St} : ∀ {vs ws : List V} {rs qs : List RV}, Als σ vs rs → Als σ ws qs → Als σ (vs ++ ws) (rs ++ qs)
  | _, _, _, _, .nil, h => h
  | _, _, _, _, .cons a r, h => .cons a (Als.app r h)

/-- all operands read -/
theorem rd_all {os : En} {σ : L2.St} {g : FP} (hs : Sub G H) (ha : ∀ (i : Nat) (o : OD), os[i]? = some (some o) → ∃ v, σ[i]? = some (some v) ∧ Dx K H v o.er) : ∀ {vs : List V} {rs : List RV} {ds : List PyData} {g : FP},
    Als σ vs rs → SL K G H (vs.map some) (rs.map RV.od) g → rdAll os rs = some ds → DxAll K H vs ds
  | _, _, _, _, .nil, _, e => by
    simp [rdAll] at e; subst e; exact .nil
  | v :: vs, r :: rs, ds, g, .cons a q, s, e => by
    unfold rdAll at e
    split at e
    · rename_i d ds' e1 e2
      cases e
      cases r with
      | al i =>
        have e1 : (match os[i]? with | some (some o) => some o.er | _ => none) = some d := e1
        split at e1
        · rename_i o e3
          cases e1
          obtain ⟨v', h1, h2⟩ := ha i o e3
          have a : σ[i]? = some (some v) := a
          rw [a] at h1; cases h1
          cases s with
          | un s => exact .cons h2 (rd_all (g := g) hs ha q s e2)
        · cases e1
      | tm o =>
        have e1 : some o.er = some d := e1
        cases e1
        cases s with
        | val h s => exact .cons (h.rd hs) (rd_all (g := g) hs ha q s e2)
    · cases e

/-- the last part of the stack is made shared and taken off -/
theorem SL.frz {G' : Hp} (g : Sub G G') : ∀ {vs : List (Option V)} {os : List (Option OD)} {f : FP}, SL K G H vs os f → (∀ a u, f a ≠ 0 → H a = some u → G' a = some u) →
    ∀ (j : Nat) (o : OD), os[j]? = some (some o) → ∃ v, vs[j]? = some (some v) ∧ Dx K G' v o.er
  | _, _, _, .nil, _, j, o, e => by simp at e
  | _, _, _, .un r, k, 0, o, e => by simp at e
  | _, _, _, .un r, k, j + 1, o, e => SL.frz g r k j o (by simpa using e)
  | _, _, _, .val (v := v) q r, k, 0, o, e => by
    simp at e; subst e
    exact ⟨v, rfl, q.frz g fun a u z h => k a u (by (try dsimp only); omega) h⟩
  | _, _, _, .val q r, k, j + 1, o, e => SL.frz g r (fun a u z h => k a u (by (try dsimp only); omega) h) j o (by simpa using e)
theorem SI.tail {A B : List (Option V)} {a b : En} {f : FP} (I : SI K G H (A ++ B) (a ++ b) f) (hl : A.length = a.length) :
    ∃ G' f', SI K G' H A a f' ∧ Stp G H f G' H f' ∧ (∀ (j : Nat) (o : OD), b[j]? = some (some o) → ∃ v, B[j]? = some (some v) ∧ Dx K G' v o.er) := by
  obtain ⟨g, k, h1, h2, h3⟩ := SL.cut hl I.sl
  have hidD : ∀ x, k x ≠ 0 → G x = none := fun x q => I.hid x (by rw [h3]; omega)
  have s1 : Sub G (ext G H k) := sub_ext I.sub hidD
  have s2 : Sub (ext G H k) H := ext_sub I.sub
  refine ⟨ext G H k, g, ⟨h1.mono s1 fun x u _ e => e, s2, fun x => ?_, fun x q => ?_⟩, ⟨s1, fun _ _ e _ => e, fun _ e => e, fun x q => ?_, fun x q => .inl ?_⟩, ?_⟩
  · have := I.one x; rw [h3 x] at this; omega
  · have q1 : k x = 0 := by have := I.one x; rw [h3 x] at this; omega
    unfold ext; rw [if_neg (by omega)]
    exact I.hid x (by rw [h3]; omega)
  · unfold ext at q
    split at q
    · rename_i r; exact .inr (.inr (by rw [h3]; omega))
    · exact .inl q
  · rw [h3]; omega
  · exact h2.frz s1 fun x u z e => by unfold ext; rw [if_pos z]; exact e
theorem len_soft (os : En) (r : RV) : (soft os r).length = os.length := by
  cases r with
  | tm o => rfl
  | al i =>
    show (match os[i]? with | some (some o) => if o.flat then os else os.set i (some (.sh o.er)) | _ => os).length = _
    split
    · split
      · rfl
      · rw [List.length_set]
    · rfl
theorem len_softAll : ∀ (rs : List RV) (os : En), (softAll os rs).length = os.length
  | [], _ => rfl
  | r :: rs, os => by show (softAll (soft os r) rs).length = _; rw [len_softAll rs, len_soft]
theorem len_hard (os : En) (r : RV) : (hard os r).length = os.length := by
  cases r with
  | tm o => rfl
  | al i =>
    show (match os[i]? with | some (some (.lst xs)) => os.set i (some (.sh (OD.lst xs).er)) | some (some (.tpl xs)) => os.set i (some (.sh (OD.tpl xs).er)) | _ => os).length = _
    split
    · rw [List.length_set]
    · rw [List.length_set]
    · rfl
theorem len_hardAll : ∀ (rs : List RV) (os : En), (hardAll os rs).length = os.length
  | [], _ => rfl
  | r :: rs, os => by show (hardAll (hard os r) rs).length = _; rw [len_hardAll rs, len_hard]

theorem set_app {α : Type} {l r : List α} {i : Nat} {x : α} (h : i < l.length) : (l ++ r).set i x = l.set i x ++ r := by
  rw [List.set_append]; simp [h]
theorem get_app {α : Type} {l r : List α} {i : Nat} (h : i < l.length) : (l ++ r)[i]? = l[i]? := by
  rw [List.getElem?_append_left h]
theorem lt_of_get {α : Type} {l : List α} {i : Nat} {x : α} (h : l[i]? = some x) : i < l.length := by
  rcases Nat.lt_or_ge i l.length with q | q
  · exact q
  · rw [List.getElem?_eq_none q] at h; cases h
/-- a slot ahead is made shared -/
theorem SI.fz {vs : List (Option V)} {os θ : En} {f : FP} (I : SI K G H vs (os ++ θ) f) {i : Nat} {o : OD} (h : os[i]? = some (some o)) :
    ∃ G' f', SI K G' H vs (os.set i (some (.sh o.er)) ++ θ) f' ∧ Stp G H f G' H f' := by
  have hi := lt_of_get h
  obtain ⟨G', f', h1, h2, _⟩ := I.freeze (i := i) (o := o) (by rw [get_app hi]; exact h)
  exact ⟨G', f', by rw [← set_app hi]; exact h1, h2⟩
theorem SI.soft {vs : List (Option V)} {os θ : En} {f : FP} (I : SI K G H vs (os ++ θ) f) (r : RV) : ∃ G' f', SI K G' H vs (soft os r ++ θ) f' ∧ Stp G H f G' H f' := by
  cases r with
  | tm o => exact ⟨G, f, I, Stp.refl _ _ _⟩
  | al i =>
    show ∃ G' f', SI K G' H vs ((match os[i]? with | some (some o) => if o.flat then os else os.set i (some (.sh o.er)) | _ => os) ++ θ) f' ∧ _
    split
    · rename_i o e
      split
      · exact ⟨G, f, I, Stp.refl _ _ _⟩
      · exact I.fz e
    · exact ⟨G, f, I, Stp.refl _ _ _⟩
theorem SI.softs {vs : List (Option V)} {θ : En} : ∀ (rs : List RV) {G : Hp} {os : En} {f : FP}, SI K G H vs (os ++ θ) f → ∃ G' f', SI K G' H vs (softAll os rs ++ θ) f' ∧ Stp G H f G' H f'
  | [], G, os, f, I => ⟨G, f, I, Stp.refl _ _ _⟩
  | r :: rs, G, os, f, I => by
    obtain ⟨G1, f1, h1, h2⟩ := I.soft r
    obtain ⟨G2, f2, h3, h4⟩ := SI.softs rs h1
    exact ⟨G2, f2, h3, h2.trans h4⟩
theorem SI.hard {vs : List (Option V)} {os θ : En} {f : FP} (I : SI K G H vs (os ++ θ) f) (r : RV) : ∃ G' f', SI K G' H vs (hard os r ++ θ) f' ∧ Stp G H f G' H f' := by
  cases r with
  | tm o => exact ⟨G, f, I, Stp.refl _ _ _⟩
  | al i =>
    show ∃ G' f', SI K G' H vs ((match os[i]? with | some (some (.lst xs)) => os.set i (some (.sh (OD.lst xs).er)) | some (some (.tpl xs)) => os.set i (some (.sh (OD.tpl xs).er)) | _ => os) ++ θ) f' ∧ _
    split
    · rename_i xs e
      exact I.fz e
    · rename_i xs e
      exact I.fz e
    · exact ⟨G, f, I, Stp.refl _ _ _⟩
theorem SI.hards {vs : List (Option V)} {θ : En} : ∀ (rs : List RV) {G : Hp} {os : En} {f : FP}, SI K G H vs (os ++ θ) f → ∃ G' f', SI K G' H vs (hardAll os rs ++ θ) f' ∧ Stp G H f G' H f'
  | [], G, os, f, I => ⟨G, f, I, Stp.refl _ _ _⟩
  | r :: rs, G, os, f, I => by
    obtain ⟨G1, f1, h1, h2⟩ := I.hard r
    obtain ⟨G2, f2, h3, h4⟩ := SI.hards rs h1
    exact ⟨G2, f2, h3, h2.trans h4⟩

theorem isSh_er {d : PyData} {xs : List OD} (h : xs.all OD.isSh = true) {vs : List V} {f : FP} (r : ROs K G H vs xs f) : DxAll K G vs (OD.ers xs) := by
  induction xs generalizing vs f with
  | nil => cases r; exact .nil
  | cons x xs ih =>
    simp only [List.all_cons, Bool.and_eq_true] at h
    cases r with
    | cons a b =>
      cases a with
      | sh a => exact .cons a (ih h.2 b)
      | lst _ _ => cases h.1
      | tpl _ _ => cases h.1
theorem RO.w {v : V} {o : OD} {f : FP} (h : RO K G H v o f) (e : o.flat = true) : DpW K G H v o.er := by
  cases h with
  | sh h => exact .sh h
  | lst h r => exact .own h (isSh_er (d := .none) e r)
  | tpl _ _ => cases e
theorem flat_sh (d : PyData) : (OD.sh d).flat = true := rfl
theorem soft_get {os : En} {r : RV} {i : Nat} {o : OD} (h : os[i]? = some (some o)) : ∃ o', (soft os r)[i]? = some (some o') ∧ o'.er = o.er ∧ (o.flat = true → o'.flat = true) := by
  cases r with
  | tm _ => exact ⟨o, h, rfl, id⟩
  | al j =>
    show ∃ o', (match os[j]? with | some (some o) => if o.flat then os else os.set j (some (.sh o.er)) | _ => os)[i]? = some (some o') ∧ _
    split
    · rename_i o2 e2
      split
      · exact ⟨o, h, rfl, id⟩
      · by_cases e : j = i
        · subst e
          rw [h] at e2; cases e2
          exact ⟨.sh o.er, by rw [List.getElem?_set_self (lt_of_get h)], rfl, fun _ => rfl⟩
        · exact ⟨o, by rw [List.getElem?_set_ne e]; exact h, rfl, id⟩
    · exact ⟨o, h, rfl, id⟩
theorem soft_al {os : En} {i : Nat} {o : OD} (h : os[i]? = some (some o)) : ∃ o', (soft os (.al i))[i]? = some (some o') ∧ o'.er = o.er ∧ o'.flat = true := by
  show ∃ o', (match os[i]? with | some (some o) => if o.flat then os else os.set i (some (.sh o.er)) | _ => os)[i]? = some (some o') ∧ _
  rw [h]
  dsimp only
  split
  · rename_i e; exact ⟨o, h, rfl, e⟩
  · exact ⟨.sh o.er, by rw [List.getElem?_set_self (lt_of_get h)], rfl, rfl⟩
theorem softs_get : ∀ {rs : List RV} {os : En} {i : Nat} {o : OD}, os[i]? = some (some o) → ∃ o', (softAll os rs)[i]? = some (some o') ∧ o'.er = o.er ∧ (o.flat = true → o'.flat = true)
  | [], os, i, o, h => ⟨o, h, rfl, id⟩
  | r :: rs, os, i, o, h => by
    obtain ⟨o1, h1, h2, h3⟩ := soft_get (r := r) h
    obtain ⟨o2, k1, k2, k3⟩ := softs_get (rs := rs) h1
    exact ⟨o2, k1, k2.trans h2, fun z => k3 (h3 z)⟩
theorem softs_al : ∀ {rs : List RV} {os : En} {i : Nat} {o : OD}, os[i]? = some (some o) → RV.al i ∈ rs → ∃ o', (softAll os rs)[i]? = some (some o') ∧ o'.er = o.er ∧ o'.flat = true
  | r :: rs, os, i, o, h, m => by
    rcases List.mem_cons.mp m with e | e
    · subst e
      obtain ⟨o1, h1, h2, h3⟩ := soft_al h
      obtain ⟨o2, k1, k2, k3⟩ := softs_get (rs := rs) h1
      exact ⟨o2, k1, k2.trans h2, k3 h3⟩
    · obtain ⟨o1, h1, h2, _⟩ := soft_get (r := r) h
      obtain ⟨o2, k1, k2, k3⟩ := softs_al h1 e
      exact ⟨o2, k1, k2.trans h2, k3⟩
theorem hard_get {os : En} {r : RV} {i : Nat} {o : OD} (h : os[i]? = some (some o)) : ∃ o', (hard os r)[i]? = some (some o') ∧ o'.er = o.er ∧ (o.isSh = true → o'.isSh = true) := by
  cases r with
  | tm _ => exact ⟨o, h, rfl, id⟩
  | al j =>
    show ∃ o', (match os[j]? with | some (some (.lst xs)) => os.set j (some (.sh (OD.lst xs).er)) | some (some (.tpl xs)) => os.set j (some (.sh (OD.tpl xs).er)) | _ => os)[i]? = some (some o') ∧ _
    split
    · rename_i o2 e2
      by_cases e : j = i
      · subst e
        rw [h] at e2; cases e2
        exact ⟨.sh _, by rw [List.getElem?_set_self (lt_of_get h)]; rfl, rfl, fun _ => rfl⟩
      · exact ⟨o, by rw [List.getElem?_set_ne e]; exact h, rfl, id⟩
    · rename_i o2 e2
      by_cases e : j = i
      · subst e
        rw [h] at e2; cases e2
        exact ⟨.sh _, by rw [List.getElem?_set_self (lt_of_get h)]; rfl, rfl, fun _ => rfl⟩
      · exact ⟨o, by rw [List.getElem?_set_ne e]; exact h, rfl, id⟩
    · exact ⟨o, h, rfl, id⟩
theorem hard_al {os : En} {i : Nat} {o : OD} (h : os[i]? = some (some o)) : ∃ o', (hard os (.al i))[i]? = some (some o') ∧ o'.er = o.er ∧ o'.isSh = true := by
  show ∃ o', (match os[i]? with | some (some (.lst xs)) => os.set i (some (.sh (OD.lst xs).er)) | some (some (.tpl xs)) => os.set i (some (.sh (OD.tpl xs).er)) | _ => os)[i]? = some (some o') ∧ _
  rw [h]
  cases o with
  | sh d => exact ⟨.sh d, h, rfl, rfl⟩
  | lst xs => exact ⟨.sh _, by rw [List.getElem?_set_self (lt_of_get h)]; rfl, rfl, rfl⟩
  | tpl xs => exact ⟨.sh _, by rw [List.getElem?_set_self (lt_of_get h)]; rfl, rfl, rfl⟩
theorem hards_get : ∀ {rs : List RV} {os : En} {i : Nat} {o : OD}, os[i]? = some (some o) → ∃ o', (hardAll os rs)[i]? = some (some o') ∧ o'.er = o.er ∧ (o.isSh = true → o'.isSh = true)
  | [], os, i, o, h => ⟨o, h, rfl, id⟩
  | r :: rs, os, i, o, h => by
    obtain ⟨o1, h1, h2, h3⟩ := hard_get (r := r) h
    obtain ⟨o2, k1, k2, k3⟩ := hards_get (rs := rs) h1
    exact ⟨o2, k1, k2.trans h2, fun z => k3 (h3 z)⟩
theorem hards_al : ∀ {rs : List RV} {os : En} {i : Nat} {o : OD}, os[i]? = some (some o) → RV.al i ∈ rs → ∃ o', (hardAll os rs)[i]? = some (some o') ∧ o'.er = o.er ∧ o'.isSh = true
  | r :: rs, os, i, o, h, m => by
    rcases List.mem_cons.mp m with e | e
    · subst e
      obtain ⟨o1, h1, h2, h3⟩ := hard_al h
      obtain ⟨o2, k1, k2, k3⟩ := hards_get (rs := rs) h1
      exact ⟨o2, k1, k2.trans h2, k3 h3⟩
    · obtain ⟨o1, h1, h2, _⟩ := hard_get (r := r) h
      obtain ⟨o2, k1, k2, k3⟩ := hards_al h1 e
      exact ⟨o2, k1, k2.trans h2, k3⟩

/-- the operands, taken off the stack: their topmost lists may be owned by slots -/
theorem take_w {os' : En} {σ : L2.St} {G' : Hp} {vs₀ : List (Option V)} {b : En}
    (hw : ∀ (i : Nat) (o : OD), os'[i]? = some (some o) → ∃ v, σ[i]? = some (some v) ∧ (o.flat = true → DpW K G' H v o.er)) {os : En} {qs : List RV}
    (hq : ∀ (i : Nat) (o : OD), os[i]? = some (some o) → RV.al i ∈ qs → ∃ o', os'[i]? = some (some o') ∧ o'.er = o.er ∧ o'.flat = true) :
    ∀ {vs : List V} {rs : List RV} {ds : List PyData}, (∀ r ∈ rs, r ∈ qs) → Als σ vs rs → (∀ (j : Nat) (o : OD), (rs.map RV.od)[j]? = some (some o) → ∃ v, (vs.map some)[j]? = some (some v) ∧ Dx K G' v o.er) → rdAll os rs = some ds → DpWs K G' H vs ds
  | _, _, _, _, .nil, _, e => by
    simp [rdAll] at e; subst e; exact .nil
  | v :: vs, r :: rs, ds, m, .cons a q, t, e => by
    unfold rdAll at e
    split at e
    · rename_i d ds' e1 e2
      cases e
      have rest : DpWs K G' H vs ds' := take_w (vs₀ := vs₀) (b := b) hw hq (fun r' h => m r' (List.mem_cons_of_mem _ h)) q (fun j o h => by
        obtain ⟨w, h1, h2⟩ := t (j + 1) o (by simpa using h)
        exact ⟨w, by simpa using h1, h2⟩) e2
      cases r with
      | al i =>
        have e1 : (match os[i]? with | some (some o) => some o.er | _ => none) = some d := e1
        split at e1
        · rename_i o e3
          cases e1
          obtain ⟨o', h1, h2, h3⟩ := hq i o e3 (m _ List.mem_cons_self)
          obtain ⟨v', k1, k2⟩ := hw i o' h1
          have a : σ[i]? = some (some v) := a
          rw [a] at k1; cases k1
          have := k2 h3
          rw [h2] at this
          exact .cons this rest
        · cases e1
      | tm o =>
        have e1 : some o.er = some d := e1
        cases e1
        obtain ⟨w, h1, h2⟩ := t 0 o rfl
        have h1 : some (some v) = some (some w) := h1
        cases h1
        exact .cons (.sh h2) rest
    · cases e

section
variable {σ τ : List (Option V)} {os θ : En} {f : FP} {vs : List V} {rs : List RV} {ds : List PyData}
theorem SI.slotW (I : SI K G H (σ ++ τ) (os ++ θ) f) (hl : σ.length = os.length) (i : Nat) (o : OD) (h : os[i]? = some (some o)) : ∃ v, σ[i]? = some (some v) ∧ (o.flat = true → DpW K G H v o.er) ∧ Dx K H v o.er ∧ (o.isSh = true → Dx K G v o.er) := by
  have hi := lt_of_get h
  obtain ⟨v, fo, fr, h1, h2, _⟩ := I.sl.at (i := i) (o := o) (by rw [get_app hi]; exact h)
  refine ⟨v, by rw [← get_app (r := τ) (by omega)]; exact h1, fun e => h2.w e, h2.rd I.sub, fun e => ?_⟩
  cases h2 with
  | sh hh => exact hh
  | lst _ _ => cases e
  | tpl _ _ => cases e
theorem SI.popA (I : SI K G H (σ ++ (τ ++ vs.map some)) (os ++ (θ ++ rs.map RV.od)) f) (hl : σ.length = os.length) (ht : τ.length = θ.length) (ha : Als σ vs rs) (hd : rdAll os rs = some ds) :
    DxAll K H vs ds ∧ ∃ f', SI K G H (σ ++ τ) (os ++ θ) f' ∧ ∀ a, f' a ≤ f a := by
  rw [← List.append_assoc, ← List.append_assoc] at I
  obtain ⟨g, k, h1, h2, h3⟩ := SL.cut (by simp [hl, ht]) I.sl
  have J : SI K G H (σ ++ τ) (os ++ θ) g := I.forget h1 fun a => by rw [h3]; omega
  refine ⟨rd_all (g := fun _ => 0) I.sub (fun i o e => ?_) ha h2 hd, g, J, fun a => by rw [h3]; omega⟩
  obtain ⟨v, q1, _, q2, _⟩ := J.slotW hl i o e
  exact ⟨v, q1, q2⟩
theorem SI.popB (I : SI K G H (σ ++ (τ ++ vs.map some)) (os ++ (θ ++ rs.map RV.od)) f) (hl : σ.length = os.length) (ht : τ.length = θ.length) (ha : Als σ vs rs) (hd : rdAll os rs = some ds) :
    ∃ G' f', SI K G' H (σ ++ τ) (softAll os rs ++ θ) f' ∧ Stp G H f G' H f' ∧ DpWs K G' H vs ds := by
  rw [← List.append_assoc, ← List.append_assoc] at I
  obtain ⟨G1, f1, I1, s1, t1⟩ := I.tail (by simp [hl, ht])
  obtain ⟨G2, f2, I2, s2⟩ := I1.softs rs
  refine ⟨G2, f2, I2, s1.trans s2, ?_⟩
  refine take_w (vs₀ := []) (b := []) (os' := softAll os rs) (σ := σ) (os := os) (qs := rs) (fun i o e => ?_) (fun i o e m => softs_al e m) (fun _ h => h) ha (fun j o e => ?_) hd
  · obtain ⟨v, q1, q2, _⟩ := I2.slotW (by rw [len_softAll]; exact hl) i o e
    exact ⟨v, q1, q2⟩
  · obtain ⟨v, q1, q2⟩ := t1 j o e
    exact ⟨v, q1, dp_sub s2.gsub q2⟩
/-- the operands, all shared -/
theorem take_h {os' : En} {σ : L2.St} {G' : Hp}
    (hw : ∀ (i : Nat) (o : OD), os'[i]? = some (some o) → ∃ v, σ[i]? = some (some v) ∧ (o.isSh = true → Dx K G' v o.er)) {os : En} {qs : List RV}
    (hq : ∀ (i : Nat) (o : OD), os[i]? = some (some o) → RV.al i ∈ qs → ∃ o', os'[i]? = some (some o') ∧ o'.er = o.er ∧ o'.isSh = true) :
    ∀ {vs : List V} {rs : List RV} {ds : List PyData}, (∀ r ∈ rs, r ∈ qs) → Als σ vs rs → (∀ (j : Nat) (o : OD), (rs.map RV.od)[j]? = some (some o) → ∃ v, (vs.map some)[j]? = some (some v) ∧ Dx K G' v o.er) → rdAll os rs = some ds → DxAll K G' vs ds
  | _, _, _, _, .nil, _, e => by
    simp [rdAll] at e; subst e; exact .nil
  | v :: vs, r :: rs, ds, m, .cons a q, t, e => by
    unfold rdAll at e
    split at e
    · rename_i d ds' e1 e2
      cases e
      have rest : DxAll K G' vs ds' := take_h hw hq (fun r' h => m r' (List.mem_cons_of_mem _ h)) q (fun j o h => by
        obtain ⟨w, h1, h2⟩ := t (j + 1) o (by simpa using h)
        exact ⟨w, by simpa using h1, h2⟩) e2
      cases r with
      | al i =>
        have e1 : (match os[i]? with | some (some o) => some o.er | _ => none) = some d := e1
        split at e1
        · rename_i o e3
          cases e1
          obtain ⟨o', h1, h2, h3⟩ := hq i o e3 (m _ List.mem_cons_self)
          obtain ⟨v', k1, k2⟩ := hw i o' h1
          have a : σ[i]? = some (some v) := a
          rw [a] at k1; cases k1
          have := k2 h3
          rw [h2] at this
          exact .cons this rest
        · cases e1
      | tm o =>
        have e1 : some o.er = some d := e1
        cases e1
        obtain ⟨w, h1, h2⟩ := t 0 o rfl
        have h1 : some (some v) = some (some w) := h1
        cases h1
        exact .cons h2 rest
    · cases e
theorem SI.popC (I : SI K G H (σ ++ (τ ++ vs.map some)) (os ++ (θ ++ rs.map RV.od)) f) (hl : σ.length = os.length) (ht : τ.length = θ.length) (ha : Als σ vs rs) (hd : rdAll os rs = some ds) :
    ∃ G' f', SI K G' H (σ ++ τ) (hardAll os rs ++ θ) f' ∧ Stp G H f G' H f' ∧ DxAll K G' vs ds := by
  rw [← List.append_assoc, ← List.append_assoc] at I
  obtain ⟨G1, f1, I1, s1, t1⟩ := I.tail (by simp [hl, ht])
  obtain ⟨G2, f2, I2, s2⟩ := I1.hards rs
  refine ⟨G2, f2, I2, s1.trans s2, ?_⟩
  refine take_h (os' := hardAll os rs) (σ := σ) (os := os) (qs := rs) (fun i o e => ?_) (fun i o e m => hards_al e m) (fun _ h => h) ha (fun j o e => ?_) hd
  · obtain ⟨v, q1, _, _, q2⟩ := I2.slotW (by rw [len_hardAll]; exact hl) i o e
    exact ⟨v, q1, q2⟩
  · obtain ⟨v, q1, q2⟩ := t1 j o e
    exact ⟨v, q1, dp_sub s2.gsub q2⟩
end
end
end DX
/-! DXExpr: what expressions are worth. -/
namespace DX
open PySem PySem.Spec PyProof.Rows L2

abbrev EvE := En → Option (RV × En)
abbrev EvEs := En → Option (List RV × En)
abbrev EvT := En → Option (Bool × En)

/-- behind a part: the values vs on top of the stack -/
def Kont (K : PySem.W.Frag) (σ τ : List (Option V)) (G H : Hp) (f : FP) (os' θ : En) (vs : List V) (rs : List RV) (H' : Hp) : Prop :=
  ∃ G' f', SI K G' H' (σ ++ (τ ++ vs.map some)) (os' ++ (θ ++ rs.map RV.od)) f' ∧ Stp G H f G' H' f' ∧ Als σ vs rs ∧ σ.length = os'.length
def KontT (K : PySem.W.Frag) (σ τ : List (Option V)) (G H : Hp) (f : FP) (os' θ : En) (H' : Hp) : Prop :=
  ∃ G' f', SI K G' H' (σ ++ τ) (os' ++ θ) f' ∧ Stp G H f G' H' f' ∧ σ.length = os'.length
def ER (K : PySem.W.Frag) (ev : EvE) (te : TE) : Prop := ∀ (σ τ : List (Option V)) (G H : Hp) (os θ : En) (f : FP) (r : RV) (os' : En) (Q : VK),
  σ.length = os.length → τ.length = θ.length → SI K G H (σ ++ τ) (os ++ θ) f → ev os = some (r, os') → (∀ v H', Kont K σ τ G H f os' θ [v] [r] H' → Q v H') → te σ H Q
def ERs (K : PySem.W.Frag) (ev : EvEs) (ta : TA) : Prop := ∀ (σ τ : List (Option V)) (G H : Hp) (os θ : En) (f : FP) (rs : List RV) (os' : En) (Q : List V → Hp → Prop),
  σ.length = os.length → τ.length = θ.length → SI K G H (σ ++ τ) (os ++ θ) f → ev os = some (rs, os') → (∀ vs H', Kont K σ τ G H f os' θ vs rs H' → Q vs H') → ta σ H Q
def TR (K : PySem.W.Frag) (ev : EvT) (tt : TT) : Prop := ∀ (σ τ : List (Option V)) (G H : Hp) (os θ : En) (f : FP) (b : Bool) (os' : En) (Q : Bool → Hp → Prop),
  σ.length = os.length → τ.length = θ.length → SI K G H (σ ++ τ) (os ++ θ) f → ev os = some (b, os') → (∀ H', KontT K σ τ G H f os' θ H' → Q b H') → tt σ H Q
def SE (X : Cx) (ev : EvE) (e : Expr) : Prop := ∃ te, PE X e te ∧ ER X.K ev te
def SEs (X : Cx) (ev : EvEs) (es : List Expr) : Prop := ∃ ta, PA X es ta ∧ ERs X.K ev ta
def STt (X : Cx) (ev : EvT) (e : Expr) : Prop := ∃ tt, PT X e tt ∧ TR X.K ev tt

section
variable {K : PySem.W.Frag} {σ τ : List (Option V)} {G H H' : Hp} {f : FP} {os os' θ : En} {vs : List V} {rs : List RV}
theorem Kont.drop (ht : τ.length = θ.length) (k : Kont K σ τ G H f os' θ vs rs H') : KontT K σ τ G H f os' θ H' := by
  obtain ⟨G', f', I, s, _, l⟩ := k
  rw [← List.append_assoc, ← List.append_assoc] at I
  obtain ⟨g, k, h1, _, h3⟩ := SL.cut (by simp [l, ht]) I.sl
  exact ⟨G', g, I.forget h1 fun a => by rw [h3]; omega, s.trans (Stp.less fun a => by rw [h3]; omega), l⟩
theorem KontT.kont (k : KontT K σ τ G H f os' θ H') : Kont K σ τ G H f os' θ [] [] H' := by
  obtain ⟨G', f', I, s, l⟩ := k
  exact ⟨G', f', by simpa using I, s, .nil, l⟩
theorem Kont.step {G0 H0 : Hp} {f0 : FP} (s0 : Stp G0 H0 f0 G H f) (k : Kont K σ τ G H f os' θ vs rs H') : Kont K σ τ G0 H0 f0 os' θ vs rs H' := by
  obtain ⟨G', f', I, s, a, l⟩ := k
  exact ⟨G', f', I, s0.trans s, a, l⟩
theorem KontT.step {G0 H0 : Hp} {f0 : FP} (s0 : Stp G0 H0 f0 G H f) (k : KontT K σ τ G H f os' θ H') : KontT K σ τ G0 H0 f0 os' θ H' := by
  obtain ⟨G', f', I, s, l⟩ := k
  exact ⟨G', f', I, s0.trans s, l⟩
end

/-! ### argument lists -/
def esNil : EvEs := fun os => some ([], os)
def esCons (ea : EvE) (er : EvEs) : EvEs := fun os => match ea os with
  | some (r, os1) => match er os1 with
    | some (rs, os2) => some (r :: rs, os2)
    | none => none
  | none => none
section
variable {K : PySem.W.Frag} {X : Cx}
theorem ers_nil : ERs K esNil tNil := fun σ τ G H os θ f rs os' Q hl ht I e k => by
  cases e
  exact k [] H (KontT.kont ⟨G, f, I, Stp.refl _ _ _, hl⟩)
theorem ers_cons {ea : EvE} {er : EvEs} {te : TE} {ta : TA} (ha : ER K ea te) (hr : ERs K er ta) : ERs K (esCons ea er) (tCons te ta) := fun σ τ G H os θ f rs os' Q hl ht I e k => by
  unfold esCons at e
  split at e
  · rename_i r os1 e1
    split at e
    · rename_i rs' os2 e2
      cases e
      refine ha σ τ G H os θ f r os1 _ hl ht I e1 fun v H1 k1 => ?_
      obtain ⟨G1, f1, I1, s1, a1, l1⟩ := k1
      refine hr σ (τ ++ [some v]) G1 H1 os1 (θ ++ [r.od]) f1 rs' os' _ l1 (by simp [ht]) I1 e2 fun vs H2 k2 => ?_
      obtain ⟨G2, f2, I2, s2, a2, l2⟩ := k2
      refine k (v :: vs) H2 ⟨G2, f2, ?_, s1.trans s2, ?_, l2⟩
      · simpa [List.append_assoc] using I2
      · cases a1 with
        | cons a _ => exact .cons a a2
    · cases e
  · cases e
theorem ss_nil : SEs X esNil [] := ⟨_, pa_nil, ers_nil⟩
theorem ss_cons {e : Expr} {es : List Expr} {ea : EvE} {er : EvEs} (ha : SE X ea e) (hr : SEs X er es) (hs : starEach (e :: es) X.env = (false, eval e X.env) :: starEach es X.env := by rfl) : SEs X (esCons ea er) (e :: es) := by
  obtain ⟨te, p, h⟩ := ha
  obtain ⟨ta, q, g⟩ := hr
  exact ⟨_, pa_cons p q hs, ers_cons h g⟩

/-! ### names, constants -/
def eVar (i : Nat) : EvE := fun os => match os[i]? with
  | some (some _) => some (.al i, os)
  | _ => none
def eC (d : PyData) : EvE := fun os => some (.tm (.sh d), os)
theorem er_var {i : Nat} : ER K (eVar i) (tVar i) := fun σ τ G H os θ f r os' Q hl ht I e k => by
  unfold eVar at e
  split at e
  · rename_i o e1
    cases e
    obtain ⟨v, h1, _⟩ := I.slotW hl i o e1
    exact ⟨v, h1, k v H ⟨G, f, by
      have := I.pushN (some v)
      simpa [List.append_assoc, RV.od] using this, Stp.refl _ _ _, .cons h1 .nil, hl⟩⟩
  · cases e
theorem se_var (i : Nat) {x : Str} {pos : Pos} (hN : X.N[i]? = some x := by rfl) (hv : Vis X.env.scope x := by first | exact Or.inl rfl | exact Or.inr (Or.inl rfl) | exact Or.inr (Or.inr rfl)) (hd : (x == ("__debug__" : Str)) = false := by decide)
    (hcd : (x == ("__classdict__" : Str)) = false := by decide) : SE X (eVar i) (.Name x pos) := ⟨_, pe_var hN hv hd hcd, er_var⟩
theorem Kont.sh {σ τ : List (Option V)} {G H : Hp} {os θ : En} {f : FP} (hl : σ.length = os.length) (I : SI K G H (σ ++ τ) (os ++ θ) f) {v : V} {d : PyData} (h : Dx K G v d) : Kont K σ τ G H f os θ [v] [.tm (.sh d)] H :=
  ⟨G, f, by simpa [List.append_assoc, RV.od] using I.push h, Stp.refl _ _ _, .cons trivial .nil, hl⟩
theorem er_c {v : V} {d : PyData} (h : ∀ G : Hp, Dx K G v d) : ER K (eC d) (tC v) := fun σ τ G H os θ f r os' Q hl ht I e k => by
  cases e
  exact k v H (Kont.sh hl I (h G))
theorem se_int {i : Int} {j pos} : SE X (eC (.int i)) (.Constant (.int i) j pos) := ⟨_, pe_int, er_c fun _ => .int i⟩
theorem se_str {x : Str} {j pos} (h : x.length ≤ strMax := by decide +kernel) : SE X (eC (.str x)) (.Constant (.str x) j pos) := ⟨_, pe_str, er_c fun _ => .str x h⟩
theorem se_bl {b : Bool} {j pos} : SE X (eC (.bool b)) (.Constant (.bool b) j pos) := ⟨_, pe_bl, er_c fun _ => .bl b⟩
theorem se_non {j pos} : SE X (eC .none) (.Constant .none j pos) := ⟨_, pe_non, er_c fun _ => .non⟩
/-- a constant of the module -/
theorem se_globI {x : Str} {i : Int} {t : Tok} {pos : Pos} (hm : X.mg x = some (.int i t)) (hg : Gl X x := by rfl) (hd : (x == ("__debug__" : Str)) = false := by decide) : SE X (eC (.int i)) (.Name x pos) :=
  ⟨_, pe_glob (v := .int i) hg hm ⟨t, rfl⟩ hd, er_c fun _ => .int i⟩
theorem se_globS {x : Str} {z : Str} {t : Tok} {pos : Pos} (hm : X.mg x = some (.str z t)) (h : z.length ≤ strMax := by decide +kernel) (hg : Gl X x := by rfl) (hd : (x == ("__debug__" : Str)) = false := by decide) : SE X (eC (.str z)) (.Name x pos) :=
  ⟨_, pe_glob (v := .str z) hg hm ⟨t, rfl⟩ hd, er_c fun _ => .str z h⟩

/-! ### operations -/
structure OpOk (K : PySem.W.Frag) (r : List V → Hp → VK → Prop) (fn : List PyData → Option Op) : Prop where
  sc : ∀ ds d H vs Q, fn ds = some (.val d) → isSc d = true → DxAll K H vs ds → (∀ v, Dx K H v d → Q v H) → r vs H Q
  el : ∀ ds d G H vs Q, fn ds = some (.val d) → isSc d = false → Sub G H → DpWs K G H vs ds → (∀ v, Dx K G v d → Q v H) → r vs H Q
  nl : ∀ ds es G H vs Q, fn ds = some (.nl es) → Sub G H → DpWs K G H vs ds → (∀ ws p, DxAll K G ws es → H p = none → Q (.ref p) (upd H p (.lst ws))) → r vs H Q
  nt : ∀ ds es G H vs Q, fn ds = some (.nt es) → Sub G H → DpWs K G H vs ds → (∀ ws p, DxAll K G ws es → H p = none → Q (.ref p) (upd H p (.tup ws))) → r vs H Q
theorem OpOk.ofSc {r : List V → Hp → VK → Prop} {fn : List PyData → Option Op} (h : ∀ ds res, fn ds = some res → ∃ d, res = .val d ∧ isSc d = true)
    (sc : ∀ ds d H vs Q, fn ds = some (.val d) → DxAll K H vs ds → (∀ v, Dx K H v d → Q v H) → r vs H Q) : OpOk K r fn where
  sc := fun ds d H vs Q e _ hd k => sc ds d H vs Q e hd k
  el := fun ds d G H vs Q e z _ _ _ => by
    obtain ⟨d', q1, q2⟩ := h ds _ e
    cases q1; rw [z] at q2; cases q2
  nl := fun ds es G H vs Q e _ _ _ => by
    obtain ⟨d', q1, q2⟩ := h ds _ e
    cases q1
  nt := fun ds es G H vs Q e _ _ _ => by
    obtain ⟨d', q1, q2⟩ := h ds _ e
    cases q1
def opOut (os : En) (rs : List RV) : Op → RV × En
  | .val d => if isSc d then (.tm (.sh d), os) else (.tm (.sh d), softAll os rs)
  | .nl es => (.tm (.lst (es.map OD.sh)), softAll os rs)
  | .nt es => (.tm (.sh (.tuple es)), softAll os rs)
def eOp (fn : List PyData → Option Op) (es : EvEs) : EvE := fun os => match es os with
  | some (rs, os1) => match rdAll os1 rs with
    | some ds => match fn ds with
      | some res => some (opOut os1 rs res)
      | none => none
    | none => none
  | none => none
theorem er_op {fn : List PyData → Option Op} {ev : EvEs} {ta : TA} {r : List V → Hp → VK → Prop} (ha : ERs K ev ta) (ok : OpOk K r fn) : ER K (eOp fn ev) (fun σ H Q => ta σ H fun vs H1 => r vs H1 Q) := fun σ τ G H os θ f r' os' Q hl ht I e k => by
  unfold eOp at e
  split at e
  · rename_i rs os1 e1
    split at e
    · rename_i ds e2
      split at e
      · rename_i res e3
        have e : opOut os1 rs res = (r', os') := Option.some.inj e
        refine ha σ τ G H os θ f rs os1 _ hl ht I e1 fun vs H1 k1 => ?_
        obtain ⟨G1, f1, I1, s1, a1, l1⟩ := k1
        cases res with
        | val d =>
          simp only [opOut] at e
          cases hc : isSc d with
          | true =>
            rw [hc, if_pos rfl] at e
            cases e
            obtain ⟨hd, f2, I2, le⟩ := I1.popA l1 ht a1 e2
            refine ok.sc ds d H1 vs Q e3 hc hd fun v hv => k v H1 (Kont.step (s1.trans (Stp.less le)) (Kont.sh l1 I2 (dp_sc hv hc)))
          | false =>
            rw [hc, if_neg Bool.false_ne_true] at e
            cases e
            obtain ⟨G2, f2, I2, s2, hd⟩ := I1.popB l1 ht a1 e2
            refine ok.el ds d G2 H1 vs Q e3 hc I2.sub hd fun v hv => k v H1 (Kont.step (s1.trans s2) (Kont.sh (by rw [len_softAll]; exact l1) I2 hv))
        | nl es =>
          cases e
          obtain ⟨G2, f2, I2, s2, hd⟩ := I1.popB l1 ht a1 e2
          refine ok.nl ds es G2 H1 vs Q e3 I2.sub hd fun ws p hw hp => ?_
          obtain ⟨f3, I3, s3⟩ := I2.pushNew hw hp
          exact k _ _ ⟨G2, f3, by simpa [List.append_assoc, RV.od] using I3, (s1.trans s2).trans s3, .cons trivial .nil, by rw [len_softAll]; exact l1⟩
        | nt es =>
          cases e
          obtain ⟨G2, f2, I2, s2, hd⟩ := I1.popB l1 ht a1 e2
          refine ok.nt ds es G2 H1 vs Q e3 I2.sub hd fun ws p hw hp => ?_
          obtain ⟨I3, s3⟩ := I2.pushTup hw hp
          exact k _ _ ⟨_, f2, by simpa [List.append_assoc, RV.od] using I3, (s1.trans s2).trans s3, .cons trivial .nil, by rw [len_softAll]; exact l1⟩
      · cases e
    · cases e
  · cases e
/-- a two-place, a one-place reading over an argument list -/
def r2 (r : R2) : List V → Hp → VK → Prop := fun vs H Q => match vs with
  | [x, y] => r x y H Q
  | _ => False
def r1 (r : V → Hp → VK → Prop) : List V → Hp → VK → Prop := fun vs H Q => match vs with
  | [x] => r x H Q
  | _ => False
abbrev es2 (ea eb : EvE) : EvEs := esCons ea (esCons eb esNil)
abbrev es1 (ea : EvE) : EvEs := esCons ea esNil
theorem er_op2 {fn : List PyData → Option Op} {ea eb : EvE} {ta tb : TE} {r : R2} (ha : ER K ea ta) (hb : ER K eb tb) (ok : OpOk K (r2 r) fn) : ER K (eOp fn (es2 ea eb)) (tOp r ta tb) :=
  er_op (ers_cons ha (ers_cons hb ers_nil)) ok
theorem er_op1 {fn : List PyData → Option Op} {ea : EvE} {ta : TE} {r : V → Hp → VK → Prop} (ha : ER K ea ta) (ok : OpOk K (r1 r) fn) : ER K (eOp fn (es1 ea)) (tUn r ta) :=
  er_op (ers_cons ha ers_nil) ok

/-! ### truth -/
def trD : PyData → Option Bool
  | .none => some false
  | .bool b => some b
  | .int i => some (i != 0)
  | .str y => some ((y.length : Int) != 0)
  | .list xs => some (!xs.isEmpty)
  | .tuple xs => some (!xs.isEmpty)
  | .dict _ => none
theorem emp_dps {vs : List V} {ds : List PyData} (h : DxAll K H vs ds) : (!ds.isEmpty) = !vs.isEmpty := by cases h <;> rfl
theorem tru_of {v : V} {d : PyData} {b : Bool} (h : Dx K H v d) (e : trD d = some b) : TruV K v H b := by
  cases h with
  | non => cases e; rfl
  | bl c => cases e; rfl
  | int i => cases e; rfl
  | str x h => cases e; exact ⟨strMax_le' h, rfl⟩
  | lst q r => cases e; exact .inl ⟨_, q, emp_dps r⟩
  | tup q r => cases e; exact .inr (.inl ⟨_, q, emp_dps r⟩)
  | exc _ _ => cases e
def tTru (ev : EvE) : EvT := fun os => match ev os with
  | some (r, os1) => match r.rd os1 with
    | some d => match trD d with
      | some b => some (b, os1)
      | none => none
    | none => none
  | none => none
def tBl (ev : EvE) : EvT := fun os => match ev os with
  | some (r, os1) => match r.rd os1 with
    | some (.bool b) => some (b, os1)
    | _ => none
  | none => none
theorem Kont.read1 {σ τ : List (Option V)} {G H H' : Hp} {f : FP} {os' θ : En} {v : V} {r : RV} {d : PyData} (ht : τ.length = θ.length) (k : Kont K σ τ G H f os' θ [v] [r] H') (e : r.rd os' = some d) : Dx K H' v d := by
  obtain ⟨G', f', I, s, a, l⟩ := k
  have : rdAll os' [r] = some [d] := by simp [rdAll, e]
  obtain ⟨h, _⟩ := I.popA l ht a this
  cases h with
  | cons h _ => exact h
theorem tr_truth {ev : EvE} {te : TE} (h : ER K ev te) : TR K (tTru ev) (fun σ H Q => te σ H fun x H' => ∃ k, TruV K x H' k ∧ Q k H') := fun σ τ G H os θ f b os' Q hl ht I e k => by
  unfold tTru at e
  split at e
  · rename_i r os1 e1
    split at e
    · rename_i d e2
      split at e
      · rename_i b' e3
        cases e
        refine h σ τ G H os θ f r os' _ hl ht I e1 fun v H1 k1 => ?_
        exact ⟨b, tru_of (k1.read1 ht e2) e3, k H1 (k1.drop ht)⟩
      · cases e
    · cases e
  · cases e
theorem tr_bl {ev : EvE} {te : TE} (h : ER K ev te) : TR K (tBl ev) (fun σ H Q => te σ H fun x H' => ∃ k, x = .bl k ∧ Q k H') := fun σ τ G H os θ f b os' Q hl ht I e k => by
  unfold tBl at e
  split at e
  · rename_i r os1 e1
    split at e
    · rename_i b' e2
      cases e
      refine h σ τ G H os θ f r os' _ hl ht I e1 fun v H1 k1 => ?_
      have := k1.read1 ht e2
      cases this
      exact ⟨b, rfl, k H1 (k1.drop ht)⟩
    · cases e
  · cases e
def tAndD (a b : EvT) : EvT := fun os => match a os with
  | some (true, os1) => b os1
  | some (false, os1) => some (false, os1)
  | none => none
def tOrD (a b : EvT) : EvT := fun os => match a os with
  | some (true, os1) => some (true, os1)
  | some (false, os1) => b os1
  | none => none
def tNotD (a : EvT) : EvT := fun os => match a os with
  | some (c, os1) => some (!c, os1)
  | none => none
theorem tr_and {a b : EvT} {ta tb : TT} (ha : TR K a ta) (hb : TR K b tb) : TR K (tAndD a b) (tAnd ta tb) := fun σ τ G H os θ f c os' Q hl ht I e k => by
  unfold tAndD at e
  split at e
  · rename_i os1 e1
    refine ha σ τ G H os θ f true os1 _ hl ht I e1 fun H1 k1 => ?_
    obtain ⟨G1, f1, I1, s1, l1⟩ := k1
    rw [if_pos rfl]
    exact hb σ τ G1 H1 os1 θ f1 c os' _ l1 ht I1 e fun H2 k2 => k H2 (k2.step s1)
  · rename_i os1 e1
    cases e
    refine ha σ τ G H os θ f false os' _ hl ht I e1 fun H1 k1 => ?_
    rw [if_neg Bool.false_ne_true]
    exact k H1 k1
  · cases e
theorem tr_or {a b : EvT} {ta tb : TT} (ha : TR K a ta) (hb : TR K b tb) : TR K (tOrD a b) (tOr ta tb) := fun σ τ G H os θ f c os' Q hl ht I e k => by
  unfold tOrD at e
  split at e
  · rename_i os1 e1
    cases e
    refine ha σ τ G H os θ f true os' _ hl ht I e1 fun H1 k1 => ?_
    rw [if_pos rfl]
    exact k H1 k1
  · rename_i os1 e1
    refine ha σ τ G H os θ f false os1 _ hl ht I e1 fun H1 k1 => ?_
    obtain ⟨G1, f1, I1, s1, l1⟩ := k1
    rw [if_neg Bool.false_ne_true]
    exact hb σ τ G1 H1 os1 θ f1 c os' _ l1 ht I1 e fun H2 k2 => k H2 (k2.step s1)
  · cases e
theorem tr_not {a : EvT} {ta : TT} (ha : TR K a ta) : TR K (tNotD a) (tNot ta) := fun σ τ G H os θ f c os' Q hl ht I e k => by
  unfold tNotD at e
  split at e
  · rename_i c1 os1 e1
    cases e
    exact ha σ τ G H os θ f c1 os' _ hl ht I e1 fun H1 k1 => k H1 k1
  · cases e
/-- a test whatever its whole is -/
def STw (X : Cx) (ev : EvT) (e : Expr) : Prop := ∃ tt, PW X e tt ∧ TR X.K ev tt
theorem STw.t {ev : EvT} {e : Expr} (h : STw X ev e) : STt X ev e := by
  obtain ⟨tt, p, q⟩ := h
  exact ⟨tt, p.pt, q⟩
theorem st_and1 {a : Expr} {ea : EvT} {pos : Pos} (h : STt X ea a) : STw X ea (.BoolOp .And [a] pos) := by
  obtain ⟨tt, p, q⟩ := h
  exact ⟨tt, pw_and1 p, q⟩
theorem st_or1 {a : Expr} {ea : EvT} {pos : Pos} (h : STt X ea a) : STw X ea (.BoolOp .Or [a] pos) := by
  obtain ⟨tt, p, q⟩ := h
  exact ⟨tt, pw_or1 p, q⟩
theorem st_and {a b : Expr} {rest : List Expr} {ea eb : EvT} {pos : Pos} (h : STt X ea a) (g : STw X eb (.BoolOp .And (b :: rest) pos)) : STw X (tAndD ea eb) (.BoolOp .And (a :: b :: rest) pos) := by
  obtain ⟨tt, p, q⟩ := h
  obtain ⟨tu, p', q'⟩ := g
  exact ⟨_, pw_and p p', tr_and q q'⟩
theorem st_or {a b : Expr} {rest : List Expr} {ea eb : EvT} {pos : Pos} (h : STt X ea a) (g : STw X eb (.BoolOp .Or (b :: rest) pos)) : STw X (tOrD ea eb) (.BoolOp .Or (a :: b :: rest) pos) := by
  obtain ⟨tt, p, q⟩ := h
  obtain ⟨tu, p', q'⟩ := g
  exact ⟨_, pw_or p p', tr_or q q'⟩
theorem st_not {a : Expr} {ea : EvT} {pos : Pos} (h : STt X ea a) : STt X (tNotD ea) (.UnaryOp .Not a pos) := by
  obtain ⟨tt, p, q⟩ := h
  exact ⟨_, pt_not p, tr_not q⟩
/-- any expression as a test -/
theorem st_tru {a : Expr} {ea : EvE} (h : SE X ea a) (he : ∀ whole, isTrue a X.env whole = (do let v ← whole; standAt a.pos; holding [v] (truthy v)) := by intro _; rfl) : STt X (tTru ea) a := by
  obtain ⟨te, p, q⟩ := h
  exact ⟨_, pt_truth p he, tr_truth q⟩

/-! ### and, or, not, if as values -/
def eAnd (a b : EvE) : EvE := fun os => match a os with
  | some (r, os1) => match r.rd os1 with
    | some d => match trD d with
      | some true => b os1
      | some false => some (r, os1)
      | none => none
    | none => none
  | none => none
def eOr (a b : EvE) : EvE := fun os => match a os with
  | some (r, os1) => match r.rd os1 with
    | some d => match trD d with
      | some true => some (r, os1)
      | some false => b os1
      | none => none
    | none => none
  | none => none
def eNot (a : EvE) : EvE := fun os => match a os with
  | some (r, os1) => match r.rd os1 with
    | some d => match trD d with
      | some c => some (.tm (.sh (.bool (!c))), os1)
      | none => none
    | none => none
  | none => none
def eIf (t : EvT) (a b : EvE) : EvE := fun os => match t os with
  | some (true, os1) => a os1
  | some (false, os1) => b os1
  | none => none
theorem er_and {a b : EvE} {ta tb : TE} (ha : ER K a ta) (hb : ER K b tb) : ER K (eAnd a b) (tAndT K ta tb) := fun σ τ G H os θ f r os' Q hl ht I e k => by
  unfold eAnd at e
  split at e
  · rename_i r1 os1 e1
    split at e
    · rename_i d e2
      refine ha σ τ G H os θ f r1 os1 _ hl ht I e1 fun v H1 k1 => ?_
      split at e
      · rename_i e3
        obtain ⟨G1, f1, I1, s1, l1⟩ := k1.drop ht
        refine ⟨true, tru_of (k1.read1 ht e2) e3, ?_⟩
        rw [if_pos rfl]
        exact hb σ τ G1 H1 os1 θ f1 r os' _ l1 ht I1 e fun v2 H2 k2 => k v2 H2 (k2.step s1)
      · rename_i e3
        cases e
        refine ⟨false, tru_of (k1.read1 ht e2) e3, ?_⟩
        rw [if_neg Bool.false_ne_true]
        exact k v H1 k1
      · cases e
    · cases e
  · cases e
theorem er_or {a b : EvE} {ta tb : TE} (ha : ER K a ta) (hb : ER K b tb) : ER K (eOr a b) (tOrT K ta tb) := fun σ τ G H os θ f r os' Q hl ht I e k => by
  unfold eOr at e
  split at e
  · rename_i r1 os1 e1
    split at e
    · rename_i d e2
      refine ha σ τ G H os θ f r1 os1 _ hl ht I e1 fun v H1 k1 => ?_
      split at e
      · rename_i e3
        cases e
        refine ⟨true, tru_of (k1.read1 ht e2) e3, ?_⟩
        rw [if_pos rfl]
        exact k v H1 k1
      · rename_i e3
        obtain ⟨G1, f1, I1, s1, l1⟩ := k1.drop ht
        refine ⟨false, tru_of (k1.read1 ht e2) e3, ?_⟩
        rw [if_neg Bool.false_ne_true]
        exact hb σ τ G1 H1 os1 θ f1 r os' _ l1 ht I1 e fun v2 H2 k2 => k v2 H2 (k2.step s1)
      · cases e
    · cases e
  · cases e
theorem er_not {a : EvE} {ta : TE} (ha : ER K a ta) : ER K (eNot a) (tNotT K ta) := fun σ τ G H os θ f r os' Q hl ht I e k => by
  unfold eNot at e
  split at e
  · rename_i r1 os1 e1
    split at e
    · rename_i d e2
      split at e
      · rename_i c e3
        cases e
        refine ha σ τ G H os θ f r1 os' _ hl ht I e1 fun v H1 k1 => ?_
        obtain ⟨G1, f1, I1, s1, l1⟩ := k1.drop ht
        exact ⟨c, tru_of (k1.read1 ht e2) e3, k _ H1 ((Kont.sh l1 I1 (.bl (!c))).step s1)⟩
      · cases e
    · cases e
  · cases e
theorem er_if {t : EvT} {a b : EvE} {tt : TT} {ta tb : TE} (h : TR K t tt) (ha : ER K a ta) (hb : ER K b tb) : ER K (eIf t a b) (tIf tt ta tb) := fun σ τ G H os θ f r os' Q hl ht I e k => by
  unfold eIf at e
  split at e
  · rename_i os1 e1
    refine h σ τ G H os θ f true os1 _ hl ht I e1 fun H1 k1 => ?_
    obtain ⟨G1, f1, I1, s1, l1⟩ := k1
    rw [if_pos rfl]
    exact ha σ τ G1 H1 os1 θ f1 r os' _ l1 ht I1 e fun v H2 k2 => k v H2 (k2.step s1)
  · rename_i os1 e1
    refine h σ τ G H os θ f false os1 _ hl ht I e1 fun H1 k1 => ?_
    obtain ⟨G1, f1, I1, s1, l1⟩ := k1
    rw [if_neg Bool.false_ne_true]
    exact hb σ τ G1 H1 os1 θ f1 r os' _ l1 ht I1 e fun v H2 k2 => k v H2 (k2.step s1)
  · cases e
theorem se_one {op : BoolOp} {a : Expr} {ea : EvE} {pos : Pos} (h : SE X ea a) : SE X ea (.BoolOp op [a] pos) := by
  obtain ⟨te, p, q⟩ := h
  exact ⟨te, pe_one p, q⟩
theorem se_and {a b : Expr} {rest : List Expr} {ea eb : EvE} {pos : Pos} (h : SE X ea a) (g : SE X eb (.BoolOp .And (b :: rest) pos)) : SE X (eAnd ea eb) (.BoolOp .And (a :: b :: rest) pos) := by
  obtain ⟨te, p, q⟩ := h
  obtain ⟨tu, p', q'⟩ := g
  exact ⟨_, pe_andT p p', er_and q q'⟩
theorem se_or {a b : Expr} {rest : List Expr} {ea eb : EvE} {pos : Pos} (h : SE X ea a) (g : SE X eb (.BoolOp .Or (b :: rest) pos)) : SE X (eOr ea eb) (.BoolOp .Or (a :: b :: rest) pos) := by
  obtain ⟨te, p, q⟩ := h
  obtain ⟨tu, p', q'⟩ := g
  exact ⟨_, pe_orT p p', er_or q q'⟩
theorem se_not {a : Expr} {ea : EvE} {pos : Pos} (h : SE X ea a) : SE X (eNot ea) (.UnaryOp .Not a pos) := by
  obtain ⟨te, p, q⟩ := h
  exact ⟨_, pe_notT p, er_not q⟩
theorem se_if {c a b : Expr} {et : EvT} {ea eb : EvE} {pos : Pos} (h : STt X et c) (ha : SE X ea a) (hb : SE X eb b) : SE X (eIf et ea eb) (.IfExp c a b pos) := by
  obtain ⟨tt, p, q⟩ := h
  obtain ⟨ta, p1, q1⟩ := ha
  obtain ⟨tb, p2, q2⟩ := hb
  exact ⟨_, pe_ifExp p p1 p2, er_if q q1 q2⟩
end
end DX
/-! DXOps: the operations. -/
namespace DX
open PySem PySem.Spec PyProof.Rows L2

section
variable {K : PySem.W.Frag} {X : Cx}
theorem dps1 {H : Hp} {vs : List V} {d : PyData} (h : DxAll K H vs [d]) : ∃ v, vs = [v] ∧ Dx K H v d := by
  cases h with
  | cons a r => cases r; exact ⟨_, rfl, a⟩
theorem dps2 {H : Hp} {vs : List V} {d e : PyData} (h : DxAll K H vs [d, e]) : ∃ v w, vs = [v, w] ∧ Dx K H v d ∧ Dx K H w e := by
  cases h with
  | cons a r =>
    obtain ⟨w, rfl, b⟩ := dps1 r
    exact ⟨_, w, rfl, a, b⟩
theorem dps3 {H : Hp} {vs : List V} {d e c : PyData} (h : DxAll K H vs [d, e, c]) : ∃ v w u, vs = [v, w, u] ∧ Dx K H v d ∧ Dx K H w e ∧ Dx K H u c := by
  cases h with
  | cons a r =>
    obtain ⟨w, u, rfl, b, c⟩ := dps2 r
    exact ⟨_, w, u, rfl, a, b, c⟩
theorem dws1 {G H : Hp} {vs : List V} {d : PyData} (h : DpWs K G H vs [d]) : ∃ v, vs = [v] ∧ DpW K G H v d := by
  cases h with
  | cons a r => cases r; exact ⟨_, rfl, a⟩
theorem dws2 {G H : Hp} {vs : List V} {d e : PyData} (h : DpWs K G H vs [d, e]) : ∃ v w, vs = [v, w] ∧ DpW K G H v d ∧ DpW K G H w e := by
  cases h with
  | cons a r =>
    obtain ⟨w, rfl, b⟩ := dws1 r
    exact ⟨_, w, rfl, a, b⟩
theorem dws3 {G H : Hp} {vs : List V} {d e c : PyData} (h : DpWs K G H vs [d, e, c]) : ∃ v w u, vs = [v, w, u] ∧ DpW K G H v d ∧ DpW K G H w e ∧ DpW K G H u c := by
  cases h with
  | cons a r =>
    obtain ⟨w, u, rfl, b, c⟩ := dws2 r
    exact ⟨_, w, u, rfl, a, b, c⟩
/-- a list operand: where it stands, its items in G -/
theorem DpW.list {G H : Hp} (s : Sub G H) {v : V} {ds : List PyData} (h : DpW K G H v (.list ds)) : ∃ p vs, v = .ref p ∧ SqL K H p vs ∧ DxAll K G vs ds := by
  cases h with
  | sh h => cases h with
    | lst q r => exact ⟨_, _, rfl, sqL_sub s q, r⟩
  | own h r => exact ⟨_, _, rfl, .inl (.inl h), r⟩
theorem DpW.tuple {G H : Hp} (s : Sub G H) {v : V} {ds : List PyData} (h : DpW K G H v (.tuple ds)) : ∃ p vs, v = .ref p ∧ SqT K H p vs ∧ SqT K G p vs ∧ DxAll K G vs ds := by
  cases h with
  | sh h => cases h with
    | tup q r => exact ⟨_, _, rfl, sqT_sub s q, q, r⟩
theorem dps_drop {H : Hp} : ∀ (n : Nat) {vs : List V} {ds : List PyData}, DxAll K H vs ds → DxAll K H (vs.drop n) (ds.drop n)
  | 0, _, _, h => h
  | _ + 1, _, _, .nil => .nil
  | n + 1, _, _, .cons _ r => dps_drop n r
theorem dps_take {H : Hp} : ∀ (n : Nat) {vs : List V} {ds : List PyData}, DxAll K H vs ds → DxAll K H (vs.take n) (ds.take n)
  | 0, _, _, _ => .nil
  | _ + 1, _, _, .nil => .nil
  | n + 1, _, _, .cons a r => .cons a (dps_take n r)

/-! ### + - * // % ** -/
def opAdd : List PyData → Option Op
  | [.int i, .int j] => some (.val (.int (i + j)))
  | [.str a, .str b] => if a.length + b.length ≤ strMax then some (.val (.str (a ++ b))) else none
  | [.list a, .list b] => if a.length + b.length ≤ sizeLine then some (.nl (a ++ b)) else none
  | _ => none
def rCatR (K : PySem.W.Frag) : R2 := fun x y H Q => ∃ l b xs zs, x = .ref l ∧ y = .ref b ∧ SqL K H l xs ∧ SqL K H b zs ∧ xs.length + zs.length ≤ sizeLine ∧ ∀ p, H p = none → Q (.ref p) (upd H p (.lst (xs ++ zs)))
theorem op_catR : OpR X (binaryOp .Add) (rCatR X.K) := by
  intro pins s σ H x y v u Q I rx ry h
  obtain ⟨l, b, xs, zs, rfl, rfl, hH, hB, hz, q⟩ := h
  cases rx; cases ry
  obtain ⟨its, r, ⟨⟨cl, dd, da, sl⟩, n, ho, hc, _, hd⟩, z⟩ := I.list hH
  obtain ⟨its2, r2, ⟨⟨cl2, dd2, da2, sl2⟩, n2, ho2, hc2, _, hd2⟩, z2⟩ := I.list hB
  simp only at hc hd hc2 hd2
  subst hc hd hc2 hd2
  have hl := r.length
  have hl2 := r2.length
  refine concat_meets ⟨_, ho, rfl⟩ ⟨_, ho2, rfl⟩ noFill_list_add seq_list_add PySem.F.slot_list_add PySem.F.entry_list_add (PySem.F.args_list_add_2 _ _) (list_addW l b its.toArray its2.toArray n n2 dd dd2 sl sl2 (by rw [List.size_toArray, List.size_toArray]; omega)) ⟨ho, ho2, ?_⟩
  rw [show its.toArray ++ its2.toArray = (its ++ its2).toArray by simp]
  exact ⟨.ref _, _, I.lnew (t' := s.toks) (r.append r2) (by rw [List.length_append]; omega), rfl, q _ I.fresh⟩
def rAdd3 (K : PySem.W.Frag) : R2 := fun x y H Q => rI0 (fun i j => .int (i + j)) x y H Q ∨ (∃ i j, x = .str i ∧ y = .str j ∧ i.length + j.length ≤ sizeLine ∧ Q (.str (i ++ j)) H) ∨ rCatR K x y H Q
theorem ok_add : OpOk K (r2 (rAdd3 K)) opAdd where
  sc := fun ds d H vs Q e _ hd k => by
    unfold opAdd at e
    split at e
    · cases e
      obtain ⟨v, w, rfl, a, b⟩ := dps2 hd
      cases a; cases b
      exact .inl ⟨_, _, rfl, rfl, k _ (.int _)⟩
    · split at e
      · rename_i c
        cases e
        obtain ⟨v, w, rfl, a, b⟩ := dps2 hd
        cases a; cases b
        exact .inr (.inl ⟨_, _, rfl, rfl, strMax_le' c, k _ (.str _ (by rw [show ∀ a b : Str, (a ++ b).length = a.length + b.length from fun a b => Array.size_append ..]; exact c))⟩)
      · cases e
    · split at e <;> cases e
    · cases e
  el := fun ds d G H vs Q e z _ _ _ => by
    unfold opAdd at e
    split at e
    · cases e; cases z
    · split at e
      · cases e; cases z
      · cases e
    · split at e <;> cases e
    · cases e
  nl := fun ds es G H vs Q e s hd k => by
    unfold opAdd at e
    split at e
    · cases e
    · split at e <;> cases e
    · split at e
      · rename_i a b c
        cases e
        obtain ⟨v, w, rfl, q1, q2⟩ := dws2 hd
        obtain ⟨p1, v1, rfl, h1, d1⟩ := q1.list s
        obtain ⟨p2, v2, rfl, h2, d2⟩ := q2.list s
        refine .inr (.inr ⟨p1, p2, v1, v2, rfl, rfl, h1, h2, by rw [dps_len d1, dps_len d2]; exact c, fun p hp => k _ p (dps_app d1 d2) hp⟩)
      · cases e
    · cases e
  nt := fun ds es G H vs Q e _ _ _ => by
    unfold opAdd at e
    split at e
    · cases e
    · split at e <;> cases e
    · split at e <;> cases e
    · cases e
theorem se_add {a b : Expr} {ea eb : EvE} {pos : Pos} (ha : SE X ea a) (hb : SE X eb b) : SE X (eOp opAdd (es2 ea eb)) (.BinOp a .Add b pos) := by
  obtain ⟨ta, p1, q1⟩ := ha
  obtain ⟨tb, p2, q2⟩ := hb
  exact ⟨_, pe_op (op_add.or (op_add_str.or op_catR)) p1 p2, er_op2 q1 q2 ok_add⟩
/-- two ints in, a scalar out -/
def opII (c : Int → Int → Bool) (g : Int → Int → PyData) : List PyData → Option Op
  | [.int i, .int j] => if c i j = true then some (.val (g i j)) else none
  | _ => none
theorem ok_ii {C : Int → Int → Prop} {c : Int → Int → Bool} {g : Int → Int → PyData} {h : Int → Int → V} (hC : ∀ i j, c i j = true → C i j) (hs : ∀ i j, isSc (g i j) = true) (hg : ∀ (H : Hp) i j, Dx K H (h i j) (g i j)) :
    OpOk K (r2 (rI C h)) (opII c g) := .ofSc (fun ds res e => by
      unfold opII at e
      split at e
      · split at e
        · cases e; exact ⟨_, rfl, hs _ _⟩
        · cases e
      · cases e) fun ds d H vs Q e hd k => by
      unfold opII at e
      split at e
      · split at e
        · rename_i z
          cases e
          obtain ⟨v, w, rfl, a, b⟩ := dps2 hd
          cases a; cases b
          exact ⟨_, _, rfl, rfl, hC _ _ z, k _ (hg _ _ _)⟩
        · cases e
      · cases e
theorem ok_ii0 {g : Int → Int → PyData} {h : Int → Int → V} (hs : ∀ i j, isSc (g i j) = true) (hg : ∀ (H : Hp) i j, Dx K H (h i j) (g i j)) :
    OpOk K (r2 (rI0 h)) (opII (fun _ _ => true) g) := .ofSc (fun ds res e => by
      unfold opII at e
      split at e
      · rw [if_pos rfl] at e; cases e; exact ⟨_, rfl, hs _ _⟩
      · cases e) fun ds d H vs Q e hd k => by
      unfold opII at e
      split at e
      · rw [if_pos rfl] at e
        cases e
        obtain ⟨v, w, rfl, a, b⟩ := dps2 hd
        cases a; cases b
        exact ⟨_, _, rfl, rfl, k _ (hg _ _ _)⟩
      · cases e
theorem se_bin2 {op : Operator} {r : R2} {fn : List PyData → Option Op} (ho : OpR X (binaryOp op) r) (ok : OpOk X.K (r2 r) fn) {a b : Expr} {ea eb : EvE} {pos : Pos} (ha : SE X ea a) (hb : SE X eb b) : SE X (eOp fn (es2 ea eb)) (.BinOp a op b pos) := by
  obtain ⟨ta, p1, q1⟩ := ha
  obtain ⟨tb, p2, q2⟩ := hb
  exact ⟨_, pe_op ho p1 p2, er_op2 q1 q2 ok⟩
def opSub := opII (fun _ _ => true) fun i j => .int (i - j)
def mulFits (i j : Int) : Bool := decide (i.natAbs.log2 + j.natAbs.log2 < 1000000)
def opMul := opII mulFits fun i j => .int (i * j)
def divFits (_ j : Int) : Bool := decide (j ≠ 0 ∧ j.natAbs.log2 < 9000)
/-- floor division, whatever the divisor's sign -/
def divV (i j : Int) : Int := if 0 < j then i / j else Int.fdiv i j
theorem divV_pos {i j : Int} (h : 0 < j) : divV i j = i / j := if_pos h
theorem op_fdivA : OpR X (binaryOp .FloorDiv) (rI (fun _ j => j ≠ 0 ∧ j.natAbs.log2 < 9000) fun i j => .int (divV i j)) := opI fun i j _ _ _ _ _ hc q => by
  refine floordiv_int hc.1 ?_ (.inl (PyProof.noPylong_of_log2 hc.2))
  by_cases h : 0 < j
  · rw [divV_pos h] at q
    rw [Int.fdiv_eq_ediv_of_nonneg i (by omega)]; exact q
  · rw [show divV i j = Int.fdiv i j from if_neg h] at q
    exact q
def opDiv := opII divFits fun i j => .int (divV i j)
def opMod := opII (fun _ j => decide (0 < j)) fun i j => .int (i % j)
def powFits (i j : Int) : Bool := decide (0 ≤ j ∧ j ≤ 1000000 ∧ i.natAbs < 2 ^ 64)
def opPow := opII powFits fun i j => .int (i ^ j.toNat)
theorem se_sub {a b : Expr} {ea eb : EvE} {pos : Pos} (ha : SE X ea a) (hb : SE X eb b) : SE X (eOp opSub (es2 ea eb)) (.BinOp a .Sub b pos) := se_bin2 op_sub (ok_ii0 (fun _ _ => rfl) fun _ _ _ => .int _) ha hb
theorem se_mul {a b : Expr} {ea eb : EvE} {pos : Pos} (ha : SE X ea a) (hb : SE X eb b) : SE X (eOp opMul (es2 ea eb)) (.BinOp a .Mult b pos) := se_bin2 op_mulW (ok_ii (fun i j h => of_decide_eq_true (p := i.natAbs.log2 + j.natAbs.log2 < 1000000) h) (fun _ _ => rfl) fun _ _ _ => .int _) ha hb
theorem se_div {a b : Expr} {ea eb : EvE} {pos : Pos} (ha : SE X ea a) (hb : SE X eb b) : SE X (eOp opDiv (es2 ea eb)) (.BinOp a .FloorDiv b pos) := se_bin2 op_fdivA (ok_ii (fun i j h => of_decide_eq_true (p := j ≠ 0 ∧ j.natAbs.log2 < 9000) h) (fun _ _ => rfl) fun _ _ _ => .int _) ha hb
theorem se_mod {a b : Expr} {ea eb : EvE} {pos : Pos} (ha : SE X ea a) (hb : SE X eb b) : SE X (eOp opMod (es2 ea eb)) (.BinOp a .Mod b pos) := se_bin2 op_mod (ok_ii (fun _ _ h => of_decide_eq_true h) (fun _ _ => rfl) fun _ _ _ => .int _) ha hb
theorem se_pow {a b : Expr} {ea eb : EvE} {pos : Pos} (ha : SE X ea a) (hb : SE X eb b) : SE X (eOp opPow (es2 ea eb)) (.BinOp a .Pow b pos) := se_bin2 op_pow (ok_ii (fun i j h => of_decide_eq_true (p := 0 ≤ j ∧ j ≤ 1000000 ∧ i.natAbs < 2 ^ 64) h) (fun _ _ => rfl) fun _ _ _ => .int _) ha hb
def opNeg : List PyData → Option Op
  | [.int i] => some (.val (.int (-i)))
  | _ => none
theorem ok_neg : OpOk K (r1 (rU fun i => .int (-i))) opNeg := .ofSc (fun ds res e => by
    unfold opNeg at e
    split at e
    · cases e; exact ⟨_, rfl, rfl⟩
    · cases e) fun ds d H vs Q e hd k => by
    unfold opNeg at e
    split at e
    · cases e
      obtain ⟨v, rfl, a⟩ := dps1 hd
      cases a
      exact ⟨_, rfl, k _ (.int _)⟩
    · cases e
theorem se_neg {a : Expr} {ea : EvE} {pos : Pos} (ha : SE X ea a) : SE X (eOp opNeg (es1 ea)) (.UnaryOp .USub a pos) := by
  obtain ⟨ta, p1, q1⟩ := ha
  exact ⟨_, pe_un un_neg p1, er_op1 q1 ok_neg⟩

/-! ### comparisons -/
theorem se_cmp {op : CmpOp} {r : R2} {fn : List PyData → Option Op} (ho : OpR X (compareOp op) r) (ok : OpOk X.K (r2 r) fn) {a b : Expr} {ea eb : EvE} {pos : Pos} (ha : SE X ea a) (hb : SE X eb b) (hm : behindInMarks op b = false) : SE X (eOp fn (es2 ea eb)) (.Compare a [op] [b] pos) := by
  obtain ⟨ta, p1, q1⟩ := ha
  obtain ⟨tb, p2, q2⟩ := hb
  exact ⟨_, pe_cmpR ho p1 p2 hm, er_op2 q1 q2 ok⟩
theorem st_cmp {op : CmpOp} {r : R2} {fn : List PyData → Option Op} (ho : OpR X (compareOp op) r) (ok : OpOk X.K (r2 r) fn) {a b : Expr} {ea eb : EvE} {pos : Pos} (ha : SE X ea a) (hb : SE X eb b) (hm : behindInMarks op b = false) : STt X (tBl (eOp fn (es2 ea eb))) (.Compare a [op] [b] pos) := by
  obtain ⟨ta, p1, q1⟩ := ha
  obtain ⟨tb, p2, q2⟩ := hb
  exact ⟨_, pt_cmpR ho p1 p2 hm, tr_bl (er_op2 q1 q2 ok)⟩
/-- an order on ints, on texts -/
def opOrd (p : Int → Int → Bool) (q : Str → Str → Bool) : List PyData → Option Op
  | [.int i, .int j] => some (.val (.bool (p i j)))
  | [.str a, .str b] => some (.val (.bool (q a b)))
  | _ => none
def rOrd (p : Int → Int → Bool) (q : Str → Str → Bool) : R2 := fun x y H Q => rI0 (fun i j => .bl (p i j)) x y H Q ∨ ∃ i j, x = .str i ∧ y = .str j ∧ Q (.bl (q i j)) H
theorem ok_ord {p : Int → Int → Bool} {q : Str → Str → Bool} : OpOk K (r2 (rOrd p q)) (opOrd p q) := .ofSc (fun ds res e => by
    unfold opOrd at e
    split at e
    · cases e; exact ⟨_, rfl, rfl⟩
    · cases e; exact ⟨_, rfl, rfl⟩
    · cases e) fun ds d H vs Q e hd k => by
    unfold opOrd at e
    split at e
    · cases e
      obtain ⟨v, w, rfl, a, b⟩ := dps2 hd
      cases a; cases b
      exact .inl ⟨_, _, rfl, rfl, k _ (.bl _)⟩
    · cases e
      obtain ⟨v, w, rfl, a, b⟩ := dps2 hd
      cases a; cases b
      exact .inr ⟨_, _, rfl, rfl, k _ (.bl _)⟩
    · cases e
def strLt (a b : Str) : Bool := decide (a.cps.toList < b.cps.toList)
def opLt := opOrd (fun i j => decide (i < j)) strLt
def opLe := opOrd (fun i j => decide (i ≤ j)) fun a b => !strLt b a
def opGt := opOrd (fun i j => decide (j < i)) fun a b => strLt b a
def opGe := opOrd (fun i j => decide (j ≤ i)) fun a b => !strLt a b
def rLt' := rOrd (fun i j => decide (i < j)) strLt
def rLe' := rOrd (fun i j => decide (i ≤ j)) fun a b => !strLt b a
def rGt' := rOrd (fun i j => decide (j < i)) fun a b => strLt b a
def rGe' := rOrd (fun i j => decide (j ≤ i)) fun a b => !strLt a b
theorem or_lt : OpR X (compareOp .Lt) rLt' := op_lt.or op_lt_str
theorem or_le : OpR X (compareOp .LtE) rLe' := op_le.or op_le_str
theorem or_gt : OpR X (compareOp .Gt) rGt' := op_gt.or op_gt_str
theorem or_ge : OpR X (compareOp .GtE) rGe' := op_ge.or op_ge_str
def opEq : List PyData → Option Op
  | [.str a, .str b] => some (.val (.bool ((a == b))))
  | [d, e] => if (SeqAt.shaped d && SeqAt.shaped e) = true then some (.val (.bool (PyData.eqv d e))) else none
  | _ => none
def opNe : List PyData → Option Op
  | [.str a, .str b] => some (.val (.bool (!(a == b))))
  | [d, e] => if (SeqAt.shaped d && SeqAt.shaped e) = true then some (.val (.bool (!PyData.eqv d e))) else none
  | _ => none
def rEqB (K : PySem.W.Frag) : R2 := fun x y H Q => rEq x y H Q ∨ rEqD K x y H Q
theorem ok_eq : OpOk K (r2 (rEqB K)) opEq := .ofSc (fun ds res e => by
    unfold opEq at e
    split at e
    · cases e; exact ⟨_, rfl, rfl⟩
    · split at e
      · cases e; exact ⟨_, rfl, rfl⟩
      · cases e
    · cases e) fun ds d H vs Q e hd k => by
    unfold opEq at e
    split at e
    · rename_i a b
      cases e
      obtain ⟨v, w, rfl, ha, hb⟩ := dps2 hd
      cases ha; cases hb
      have q : decide (V.str a = V.str b) = (a == b) := by
        rw [Bool.eq_iff_iff, decide_eq_true_eq, beq_iff_eq]
        exact ⟨fun h => V.str.inj h, fun h => by rw [h]⟩
      refine .inl ⟨rfl, ?_⟩
      rw [q]
      exact k _ (.bl _)
    · split at e
      · rename_i c
        cases e
        obtain ⟨v, w, rfl, a, b⟩ := dps2 hd
        obtain ⟨c1, c2⟩ := Bool.and_eq_true_iff.mp c
        exact .inr ⟨_, _, a.dp (PyData.hasDict_of_canLay _ (Bool.and_eq_true_iff.mp c1).1), b.dp (PyData.hasDict_of_canLay _ (Bool.and_eq_true_iff.mp c2).1), c1, c2, k _ (.bl _)⟩
      · cases e
    · cases e
theorem or_eq (hu : X.A.units + 64 < cLine) : OpR X (compareOp .Eq) (rEqB X.K) := op_eq.or (op_eqD hu)
def rNeB (K : PySem.W.Frag) : R2 := fun x y H Q => rNe x y H Q ∨ rNeD K x y H Q
theorem ok_ne : OpOk K (r2 (rNeB K)) opNe := .ofSc (fun ds res e => by
    unfold opNe at e
    split at e
    · cases e; exact ⟨_, rfl, rfl⟩
    · split at e
      · cases e; exact ⟨_, rfl, rfl⟩
      · cases e
    · cases e) fun ds d H vs Q e hd k => by
    unfold opNe at e
    split at e
    · rename_i a b
      cases e
      obtain ⟨v, w, rfl, ha, hb⟩ := dps2 hd
      cases ha; cases hb
      have q : decide (V.str a = V.str b) = (a == b) := by
        rw [Bool.eq_iff_iff, decide_eq_true_eq, beq_iff_eq]
        exact ⟨fun h => V.str.inj h, fun h => by rw [h]⟩
      refine .inl ⟨rfl, ?_⟩
      rw [q]
      exact k _ (.bl _)
    · split at e
      · rename_i c
        cases e
        obtain ⟨v, w, rfl, a, b⟩ := dps2 hd
        obtain ⟨c1, c2⟩ := Bool.and_eq_true_iff.mp c
        exact .inr ⟨_, _, a.dp (PyData.hasDict_of_canLay _ (Bool.and_eq_true_iff.mp c1).1), b.dp (PyData.hasDict_of_canLay _ (Bool.and_eq_true_iff.mp c2).1), c1, c2, k _ (.bl _)⟩
      · cases e
    · cases e
theorem or_ne (hu : X.A.units + 64 < cLine) : OpR X (compareOp .NotEq) (rNeB X.K) := op_ne.or (op_neD hu)
/-- in: one sign in a text; data in a list; a text in a tuple of texts -/
def strs? : List PyData → Option (List Str)
  | [] => some []
  | .str x :: r => match strs? r with
    | some xs => some (x :: xs)
    | none => none
  | _ => none
def opIn (neg : Bool) : List PyData → Option Op
  | [.str x, .str z] => match x.cps.toList with
    | [c] => some (.val (.bool (if neg then !decide (c ∈ z.cps.toList) else decide (c ∈ z.cps.toList))))
    | _ => none
  | [d, .list ds] => if (SeqAt.shaped d && SeqAt.shaped (.list ds)) = true then some (.val (.bool (if neg then !(ds.any fun z => PyData.eqv z d) else ds.any fun z => PyData.eqv z d))) else none
  | [.str x, .tuple ds] => match strs? ds with
    | some xs => some (.val (.bool (if neg then !xs.contains x else xs.contains x)))
    | none => none
  | _ => none
end
end DX
/-! DXOps2: in, subscripts, slices, displays, built-ins, methods of texts. -/
namespace DX
open PySem PySem.Spec PyProof.Rows L2

section
variable {K : PySem.W.Frag} {X : Cx}
theorem strs_dx {H : Hp} : ∀ {ds : List PyData} {xs : List Str} {vs : List V}, strs? ds = some xs → DxAll K H vs ds → vs = xs.map V.str
  | [], xs, _, e, h => by
    simp [strs?] at e; subst e; cases h; rfl
  | d :: r, xs, _, e, h => by
    cases h with
    | cons a b =>
      cases d with
      | str x =>
        simp only [strs?] at e
        split at e
        · rename_i ys e2
          cases e; cases a
          rw [strs_dx e2 b]; rfl
        · cases e
      | _ => simp [strs?] at e
theorem inV_strs (x : Str) : ∀ xs : List Str, inV (.str x) (xs.map V.str) = xs.contains x
  | [] => rfl
  | y :: xs => by
    have ih := inV_strs x xs
    unfold inV at ih ⊢
    simp only [List.map_cons, List.any_cons, List.contains_cons, ih]
    congr 1
    show (y == x) = (x == y)
    exact Bool.beq_comm
theorem flat_strs : ∀ xs : List Str, (xs.map V.str).all flatV = true
  | [] => rfl
  | _ :: xs => by simp only [List.map_cons, List.all_cons, flat_strs xs]; rfl
def rIn3 (K : PySem.W.Frag) : R2 := fun x y H Q => (∃ (c : Nat) (z : Str), x = .str ⟨#[c]⟩ ∧ y = .str z ∧ Q (.bl (decide (c ∈ z.cps.toList))) H) ∨ rInD K x y H Q ∨ rIn K false x y H Q
def rNi3 (K : PySem.W.Frag) : R2 := fun x y H Q => (∃ (c : Nat) (z : Str), x = .str ⟨#[c]⟩ ∧ y = .str z ∧ Q (.bl (!decide (c ∈ z.cps.toList))) H) ∨ rNotInD K x y H Q ∨ rIn K true x y H Q
theorem or_in (hu : X.A.units + 65 < cLine) : OpR X (compareOp .In) (rIn3 X.K) := op_in_sign.or ((op_inD hu).or op_in_seq)
theorem or_ni (hu : X.A.units + 65 < cLine) : OpR X (compareOp .NotIn) (rNi3 X.K) := op_notIn_sign.or ((op_notInD hu).or op_notIn_seq)
theorem one_sign {x : Str} {c : Nat} (h : x.cps.toList = [c]) : x = ⟨#[c]⟩ := by
  obtain ⟨a⟩ := x
  have : a = #[c] := by
    apply Array.toList_inj.mp
    exact h
  rw [this]
theorem opIn_sc {n : Bool} (ds : List PyData) (res : Op) (e : opIn n ds = some res) : ∃ d, res = .val d ∧ isSc d = true := by
  unfold opIn at e
  split at e
  · split at e
    · cases e; exact ⟨_, rfl, rfl⟩
    · cases e
  · split at e
    · cases e; exact ⟨_, rfl, rfl⟩
    · cases e
  · split at e
    · cases e; exact ⟨_, rfl, rfl⟩
    · cases e
  · cases e
theorem ok_in : OpOk K (r2 (rIn3 K)) (opIn false) := .ofSc opIn_sc fun ds d H vs Q e hd k => by
  unfold opIn at e
  split at e
  · split at e
    · rename_i x z _ c e2
      cases e
      obtain ⟨v, w, rfl, a, b⟩ := dps2 hd
      cases a; cases b
      exact .inl ⟨c, z, by rw [one_sign e2], rfl, k _ (.bl _)⟩
    · cases e
  · split at e
    · rename_i c
      cases e
      obtain ⟨v, w, rfl, a, b⟩ := dps2 hd
      obtain ⟨c1, c2⟩ := Bool.and_eq_true_iff.mp c
      exact .inr (.inl ⟨_, _, a.dp (PyData.hasDict_of_canLay _ (Bool.and_eq_true_iff.mp c1).1), b.dp (PyData.hasDict_of_canLay _ (Bool.and_eq_true_iff.mp c2).1), c1, c2, k _ (.bl _)⟩)
    · cases e
  · split at e
    · rename_i xs e2
      cases e
      obtain ⟨v, w, rfl, a, b⟩ := dps2 hd
      cases a
      cases b with
      | tup q r =>
        have ev := strs_dx e2 r
        subst ev
        exact .inr (.inr ⟨_, _, rfl, .inr q, rfl, flat_strs _, by rw [inV_strs]; exact k _ (.bl _)⟩)
    · cases e
  · cases e
theorem ok_ni : OpOk K (r2 (rNi3 K)) (opIn true) := .ofSc opIn_sc fun ds d H vs Q e hd k => by
  unfold opIn at e
  split at e
  · split at e
    · rename_i x z _ c e2
      cases e
      obtain ⟨v, w, rfl, a, b⟩ := dps2 hd
      cases a; cases b
      exact .inl ⟨c, z, by rw [one_sign e2], rfl, k _ (.bl _)⟩
    · cases e
  · split at e
    · rename_i c
      cases e
      obtain ⟨v, w, rfl, a, b⟩ := dps2 hd
      obtain ⟨c1, c2⟩ := Bool.and_eq_true_iff.mp c
      exact .inr (.inl ⟨_, _, a.dp (PyData.hasDict_of_canLay _ (Bool.and_eq_true_iff.mp c1).1), b.dp (PyData.hasDict_of_canLay _ (Bool.and_eq_true_iff.mp c2).1), c1, c2, k _ (.bl _)⟩)
    · cases e
  · split at e
    · rename_i xs e2
      cases e
      obtain ⟨v, w, rfl, a, b⟩ := dps2 hd
      cases a
      cases b with
      | tup q r =>
        have ev := strs_dx e2 r
        subst ev
        exact .inr (.inr ⟨_, _, rfl, .inr q, rfl, flat_strs _, by rw [inV_strs]; exact k _ (.bl _)⟩)
    · cases e
  · cases e

/-! ### subscripts -/
def opIx : List PyData → Option Op
  | [.list xs, .int i] => match atI xs i with
    | some d => some (.val d)
    | none => none
  | [.tuple xs, .int i] => match atI xs i with
    | some d => some (.val d)
    | none => none
  | [.str z, .int i] => match atI z.cps.toList i with
      | some c => some (.val (.str ⟨#[c]⟩))
      | none => none
  | _ => none
theorem atI_dx {H : Hp} {vs : List V} {ds : List PyData} {i : Int} {d : PyData} (h : DxAll K H vs ds) (e : atI ds i = some d) : ∃ v, atI vs i = some v ∧ Dx K H v d := by
  unfold atI at e ⊢
  rw [dps_len h]
  cases q : ixN ds.length i with
  | none => rw [q] at e; cases e
  | some j =>
    rw [q] at e
    exact dps_get h e
theorem ok_ix : OpOk K (r2 (rIx K)) opIx where
  sc := fun ds d H vs Q e _ hd k => by
    unfold opIx at e
    split at e
    · split at e
      · rename_i e2
        cases e
        obtain ⟨v, w, rfl, a, b⟩ := dps2 hd
        cases b
        cases a with
        | lst q r =>
          obtain ⟨u, h1, h2⟩ := atI_dx r e2
          exact .inl ⟨_, _, _, u, rfl, rfl, q, h1, k _ h2⟩
      · cases e
    · split at e
      · rename_i e2
        cases e
        obtain ⟨v, w, rfl, a, b⟩ := dps2 hd
        cases b
        cases a with
        | tup q r =>
          obtain ⟨u, h1, h2⟩ := atI_dx r e2
          exact .inr (.inl ⟨_, _, _, u, rfl, rfl, q, h1, k _ h2⟩)
      · cases e
    · split at e
      · rename_i e2
        cases e
        obtain ⟨v, w, rfl, a, b⟩ := dps2 hd
        cases b
        cases a with
        | str _ c => exact .inr (.inr ⟨_, _, _, rfl, rfl, strMax_le' c, e2, k _ (.str _ (by show 1 ≤ strMax; decide))⟩)
      · cases e
    · cases e
  el := fun ds d G H vs Q e z s hd k => by
    unfold opIx at e
    split at e
    · split at e
      · rename_i e2
        cases e
        obtain ⟨v, w, rfl, a, b⟩ := dws2 hd
        obtain ⟨p, us, rfl, q, r⟩ := a.list s
        cases b with
        | sh b =>
          cases b
          obtain ⟨u, h1, h2⟩ := atI_dx r e2
          exact .inl ⟨_, _, _, u, rfl, rfl, q, h1, k _ h2⟩
      · cases e
    · split at e
      · rename_i e2
        cases e
        obtain ⟨v, w, rfl, a, b⟩ := dws2 hd
        obtain ⟨p, us, rfl, q, _, r⟩ := a.tuple s
        cases b with
        | sh b =>
          cases b
          obtain ⟨u, h1, h2⟩ := atI_dx r e2
          exact .inr (.inl ⟨_, _, _, u, rfl, rfl, q, h1, k _ h2⟩)
      · cases e
    · split at e
      · cases e; cases z
      · cases e
    · cases e
  nl := fun ds es G H vs Q e _ _ _ => by
    unfold opIx at e
    split at e
    · split at e <;> cases e
    · split at e <;> cases e
    · split at e <;> cases e
    · cases e
  nt := fun ds es G H vs Q e _ _ _ => by
    unfold opIx at e
    split at e
    · split at e <;> cases e
    · split at e <;> cases e
    · split at e <;> cases e
    · cases e
theorem se_ix {a b : Expr} {ea eb : EvE} {pos : Pos} (ha : SE X ea a) (hb : SE X eb b) (hs : PlainIx b := by exact fun _ _ => rfl) : SE X (eOp opIx (es2 ea eb)) (.Subscript a b pos) := by
  obtain ⟨ta, p1, q1⟩ := ha
  obtain ⟨tb, p2, q2⟩ := hb
  exact ⟨_, pe_ix ix_seq p1 p2 hs, er_op2 q1 q2 ok_ix⟩

/-! ### a part's end, by the operation -/
theorem op_fin {fn : List PyData → Option Op} {r : List V → Hp → VK → Prop} (ok : OpOk K r fn) {σ τ : List (Option V)} {G H H1 : Hp} {f : FP} {os1 os' θ : En} {vs : List V} {rs : List RV} {ds : List PyData} {res : Op} {r' : RV} {Q : VK}
    (ht : τ.length = θ.length) (k1 : Kont K σ τ G H f os1 θ vs rs H1) (e2 : rdAll os1 rs = some ds) (e3 : fn ds = some res) (e : opOut os1 rs res = (r', os')) (k : ∀ v H', Kont K σ τ G H f os' θ [v] [r'] H' → Q v H') : r vs H1 Q := by
  obtain ⟨G1, f1, I1, s1, a1, l1⟩ := k1
  cases res with
  | val d =>
    simp only [opOut] at e
    cases hc : isSc d with
    | true =>
      rw [hc, if_pos rfl] at e
      cases e
      obtain ⟨hd, f2, I2, le⟩ := I1.popA l1 ht a1 e2
      refine ok.sc ds d H1 vs Q e3 hc hd fun v hv => k v H1 (Kont.step (s1.trans (Stp.less le)) (Kont.sh l1 I2 (dp_sc hv hc)))
    | false =>
      rw [hc, if_neg Bool.false_ne_true] at e
      cases e
      obtain ⟨G2, f2, I2, s2, hd⟩ := I1.popB l1 ht a1 e2
      refine ok.el ds d G2 H1 vs Q e3 hc I2.sub hd fun v hv => k v H1 (Kont.step (s1.trans s2) (Kont.sh (by rw [len_softAll]; exact l1) I2 hv))
  | nl es =>
    cases e
    obtain ⟨G2, f2, I2, s2, hd⟩ := I1.popB l1 ht a1 e2
    refine ok.nl ds es G2 H1 vs Q e3 I2.sub hd fun ws p hw hp => ?_
    obtain ⟨f3, I3, s3⟩ := I2.pushNew hw hp
    exact k _ _ ⟨G2, f3, by simpa [List.append_assoc, RV.od] using I3, (s1.trans s2).trans s3, .cons trivial .nil, by rw [len_softAll]; exact l1⟩
  | nt es =>
    cases e
    obtain ⟨G2, f2, I2, s2, hd⟩ := I1.popB l1 ht a1 e2
    refine ok.nt ds es G2 H1 vs Q e3 I2.sub hd fun ws p hw hp => ?_
    obtain ⟨I3, s3⟩ := I2.pushTup hw hp
    exact k _ _ ⟨_, f2, by simpa [List.append_assoc, RV.od] using I3, (s1.trans s2).trans s3, .cons trivial .nil, by rw [len_softAll]; exact l1⟩

/-! ### slices: the parts lo, hi are None where they are left out -/
def cutD (xs : List PyData) (lo hi : Option Int) : List PyData := (xs.drop (HT.sIx xs.length 0 lo)).take (HT.sIx xs.length xs.length hi - HT.sIx xs.length 0 lo)
def opSl (lo hi : Option Int) : List PyData → Option Op
  | [.str z] => some (.val (.str (cutS z lo hi)))
  | [.list xs] => some (.nl (cutD xs lo hi))
  | [.tuple xs] => if HT.sIx xs.length 0 lo = 0 ∧ HT.sIx xs.length xs.length hi = xs.length then none else some (.nt (cutD xs lo hi))
  | _ => none
def rSl3 (K : PySem.W.Frag) : V → Option Int → Option Int → Hp → VK → Prop := fun x lo hi H Q => rSlS x lo hi H Q ∨ rSlL K x lo hi H Q ∨ rSlT K x lo hi H Q
theorem ok_sl {lo hi : Option Int} : OpOk K (r1 fun x => rSl3 K x lo hi) (opSl lo hi) where
  sc := fun ds d H vs Q e z hd k => by
    unfold opSl at e
    split at e
    · cases e
      obtain ⟨v, rfl, a⟩ := dps1 hd
      cases a with
      | str _ c => exact .inl ⟨_, rfl, strMax_le' c, k _ (.str _ (Nat.le_trans (cutS_length _ _ _) c))⟩
    · cases e
    · split at e <;> cases e
    · cases e
  el := fun ds d G H vs Q e z _ _ _ => by
    unfold opSl at e
    split at e
    · cases e; cases z
    · cases e
    · split at e <;> cases e
    · cases e
  nl := fun ds es G H vs Q e s hd k => by
    unfold opSl at e
    split at e
    · cases e
    · cases e
      obtain ⟨v, rfl, a⟩ := dws1 hd
      obtain ⟨p, us, rfl, q, r⟩ := a.list s
      refine .inr (.inl ⟨_, _, rfl, q, fun p hp => k _ p ?_ hp⟩)
      unfold cutV cutD
      rw [dps_len r]
      exact dps_take _ (dps_drop _ r)
    · split at e <;> cases e
    · cases e
  nt := fun ds es G H vs Q e s hd k => by
    unfold opSl at e
    split at e
    · cases e
    · cases e
    · split at e
      · cases e
      · rename_i c
        cases e
        obtain ⟨v, rfl, a⟩ := dws1 hd
        obtain ⟨p, us, rfl, q, _, r⟩ := a.tuple s
        refine .inr (.inr ⟨_, _, rfl, q, by rw [dps_len r]; exact c, fun p hp => k _ p ?_ hp⟩)
        unfold cutV cutD
        rw [dps_len r]
        exact dps_take _ (dps_drop _ r)
    · cases e
theorem sl_any : SlR X (rSl3 X.K) := sl_str.or (sl_list.or sl_tup)
abbrev EvO := En → Option (Option Int × En)
/-- a part of a slice -/
def SO (X : Cx) (ev : EvO) (o : Option Expr) : Prop := ∃ tl, PO X o tl ∧ ∀ (σ τ : List (Option V)) (G H : Hp) (os θ : En) (f : FP) (os' : En) (lo : Option Int) (Q : Option Int → Hp → Prop),
  σ.length = os.length → τ.length = θ.length → SI X.K G H (σ ++ τ) (os ++ θ) f → ev os = some (lo, os') → (∀ H', KontT X.K σ τ G H f os' θ H' → Q lo H') → tl σ H Q
def oNone : EvO := fun os => some (none, os)
def oSome (ev : EvE) : EvO := fun os => match ev os with
  | some (r, os1) => match r.rd os1 with
    | some (.int i) => some (some i, os1)
    | _ => none
  | none => none
theorem so_none : SO X oNone none := ⟨_, po_none, fun σ τ G H os θ f os' lo Q hl ht I e k => by
  cases e
  exact k H ⟨G, f, I, Stp.refl _ _ _, hl⟩⟩
theorem so_some {e : Expr} {ev : EvE} (h : SE X ev e) : SO X (oSome ev) (some e) := by
  obtain ⟨te, p, q⟩ := h
  refine ⟨_, po_some p, fun σ τ G H os θ f os' lo Q hl ht I e k => ?_⟩
  unfold oSome at e
  split at e
  · rename_i r os1 e1
    split at e
    · rename_i i e2
      cases e
      exact q σ τ G H os θ f _ _ _ hl ht I e1 fun v H1 k1 => by
        have hv := k1.read1 ht e2
        cases hv
        exact ⟨i, rfl, k H1 (k1.drop ht)⟩
    · cases e
  · cases e
def eSl (ea : EvE) (el eh : EvO) : EvE := fun os => match ea os with
  | some (r, os1) => match el os1 with
    | some (lo, os2) => match eh os2 with
      | some (hi, os3) => match rdAll os3 [r] with
        | some ds => match opSl lo hi ds with
          | some res => some (opOut os3 [r] res)
          | none => none
        | none => none
      | none => none
    | none => none
  | none => none
theorem se_sl {a : Expr} {lo hi : Option Expr} {ea : EvE} {el eh : EvO} {p2 pos : Pos} (ha : SE X ea a) (hl : SO X el lo) (hh : SO X eh hi) : SE X (eSl ea el eh) (.Subscript a (.Slice lo hi none p2) pos) := by
  obtain ⟨ta, p1, q1⟩ := ha
  obtain ⟨tl, p2, q2⟩ := hl
  obtain ⟨th, p3, q3⟩ := hh
  refine ⟨_, pe_slice sl_any p1 p2 p3, fun σ τ G H os θ f r os' Q hl ht I e k => ?_⟩
  unfold eSl at e
  split at e
  · rename_i r1 os1 e1
    split at e
    · rename_i lo' os2 e2
      split at e
      · rename_i hi' os3 e3
        split at e
        · rename_i ds e4
          split at e
          · rename_i res e5
            have e : opOut os3 [r1] res = (r, os') := Option.some.inj e
            refine q1 σ τ G H os θ f r1 os1 _ hl ht I e1 fun v H1 k1 => ?_
            obtain ⟨G1, f1, I1, s1, a1, l1⟩ := k1
            refine q2 σ (τ ++ [some v]) G1 H1 os1 (θ ++ [r1.od]) f1 os2 lo' _ l1 (by simp [ht]) I1 e2 fun H2 k2 => ?_
            obtain ⟨G2, f2, I2, s2, l2⟩ := k2
            refine q3 σ (τ ++ [some v]) G2 H2 os2 (θ ++ [r1.od]) f2 os3 hi' _ l2 (by simp [ht]) I2 e3 fun H3 k3 => ?_
            obtain ⟨G3, f3, I3, s3, l3⟩ := k3
            exact op_fin ok_sl ht ⟨G3, f3, I3, (s1.trans s2).trans s3, a1, l3⟩ e4 e5 e k
          · cases e
        · cases e
      · cases e
    · cases e
  · cases e

/-! ### displays: what goes in is shared from there on -/
def eTup (es : EvEs) : EvE := fun os => match es os with
  | some (rs, os1) => match rdAll os1 rs with
    | some ds => if ds.length ≤ sizeLine then some (.tm (.sh (.tuple ds)), hardAll os1 rs) else none
    | none => none
  | none => none
def eLst (es : EvEs) : EvE := fun os => match es os with
  | some (rs, os1) => match rdAll os1 rs with
    | some ds => if ds.length ≤ sizeLine then some (.tm (.lst (ds.map OD.sh)), hardAll os1 rs) else none
    | none => none
  | none => none
theorem er_tup {ev : EvEs} {ta : TA} (h : ERs K ev ta) : ER K (eTup ev) (tTup ta) := fun σ τ G H os θ f r os' Q hl ht I e k => by
  unfold eTup at e
  split at e
  · rename_i rs os1 e1
    split at e
    · rename_i ds e2
      split at e
      · rename_i c
        cases e
        refine h σ τ G H os θ f rs os1 _ hl ht I e1 fun vs H1 k1 => ?_
        obtain ⟨G1, f1, I1, s1, a1, l1⟩ := k1
        obtain ⟨G2, f2, I2, s2, hd⟩ := I1.popC l1 ht a1 e2
        refine ⟨by rw [dps_len hd]; exact c, fun p hp => ?_⟩
        obtain ⟨I3, s3⟩ := I2.pushTup hd hp
        exact k _ _ ⟨_, f2, by simpa [List.append_assoc, RV.od] using I3, (s1.trans s2).trans s3, .cons trivial .nil, by rw [len_hardAll]; exact l1⟩
      · cases e
    · cases e
  · cases e
theorem er_lst {ev : EvEs} {ta : TA} (h : ERs K ev ta) : ER K (eLst ev) (tLst ta) := fun σ τ G H os θ f r os' Q hl ht I e k => by
  unfold eLst at e
  split at e
  · rename_i rs os1 e1
    split at e
    · rename_i ds e2
      split at e
      · rename_i c
        cases e
        refine h σ τ G H os θ f rs os1 _ hl ht I e1 fun vs H1 k1 => ?_
        obtain ⟨G1, f1, I1, s1, a1, l1⟩ := k1
        obtain ⟨G2, f2, I2, s2, hd⟩ := I1.popC l1 ht a1 e2
        refine ⟨by rw [dps_len hd]; exact c, fun p hp => ?_⟩
        obtain ⟨f3, I3, s3⟩ := I2.pushNew hd hp
        exact k _ _ ⟨G2, f3, by simpa [List.append_assoc, RV.od] using I3, (s1.trans s2).trans s3, .cons trivial .nil, by rw [len_hardAll]; exact l1⟩
      · cases e
    · cases e
  · cases e
theorem se_tup {es : List Expr} {ev : EvEs} {x1 pos} (h : SEs X ev es) : SE X (eTup ev) (.Tuple es x1 pos) := by
  obtain ⟨ta, p, q⟩ := h
  exact ⟨_, pe_tup p, er_tup q⟩
theorem se_lst {es : List Expr} {ev : EvEs} {pos} (h : SEs X ev es) : SE X (eLst ev) (.List es pos) := by
  obtain ⟨ta, p, q⟩ := h
  exact ⟨_, pe_lst p, er_lst q⟩

/-! ### built-ins by name -/
theorem se_bf {x : Str} {id : String} {r : List V → Hp → VK → Prop} {fn : List PyData → Option Op} (hc : CallR X (.builtin id) r) (ok : OpOk X.K r fn) {e : Expr} {es : List Expr} {ev : EvEs} {p pos : Pos} (hm : X.mg x = none) (h : SEs X ev (e :: es))
    (hv : bootBuiltins x = some (.builtin id) := by decide +kernel) (hg : Gl X x := by rfl) (hn : x ≠ "__name__" := by decide) (hdb : (x == ("__debug__" : Str)) = false := by decide) (he : starEach (e :: es) X.env = (false, eval e X.env) :: starEach es X.env := by rfl) (hpl : (backTo pos (starEach es X.env)).any (·.1) = false := by rfl) :
    SE X (eOp fn ev) (.Call (.Name x p) (e :: es) [] pos) := by
  obtain ⟨ta, q1, q2⟩ := h
  exact ⟨_, pe_callB hc hg hm hv q1 hn hdb he hpl, er_op q2 ok⟩
theorem se_bt {x : Str} {T : String} {r : List V → Hp → VK → Prop} {fn : List PyData → Option Op} (hc : CallR X (.type T) r) (ok : OpOk X.K r fn) {e : Expr} {es : List Expr} {ev : EvEs} {p pos : Pos} (hm : X.mg x = none) (h : SEs X ev (e :: es))
    (hv : bootBuiltins x = some (.type T) := by decide +kernel) (hg : Gl X x := by rfl) (hn : x ≠ "__name__" := by decide) (hdb : (x == ("__debug__" : Str)) = false := by decide) (he : starEach (e :: es) X.env = (false, eval e X.env) :: starEach es X.env := by rfl) (hpl : (backTo pos (starEach es X.env)).any (·.1) = false := by rfl) : SE X (eOp fn ev) (.Call (.Name x p) (e :: es) [] pos) := by
  obtain ⟨ta, q1, q2⟩ := h
  exact ⟨_, pe_callTy hc hg hm hv q1 hn hdb he hpl, er_op q2 ok⟩

def opLen : List PyData → Option Op
  | [.str z] => some (.val (.int z.length))
  | [.list xs] => some (.val (.int xs.length))
  | [.tuple xs] => some (.val (.int xs.length))
  | _ => none
theorem ok_len : OpOk K (fun xs H Q => ∃ x n, xs = [x] ∧ LenV K x H n ∧ Q (.int n) H) opLen := .ofSc (fun ds res e => by
    unfold opLen at e
    split at e
    · cases e; exact ⟨_, rfl, rfl⟩
    · cases e; exact ⟨_, rfl, rfl⟩
    · cases e; exact ⟨_, rfl, rfl⟩
    · cases e) fun ds d H vs Q e hd k => by
    unfold opLen at e
    split at e
    · cases e
      obtain ⟨v, rfl, a⟩ := dps1 hd
      cases a with
      | str _ c => exact ⟨_, _, rfl, ⟨strMax_le' c, rfl⟩, k _ (.int _)⟩
    · cases e
      obtain ⟨v, rfl, a⟩ := dps1 hd
      cases a with
      | lst q r => exact ⟨_, _, rfl, .inl ⟨_, q, (dps_len r).symm⟩, k _ (.int _)⟩
    · cases e
      obtain ⟨v, rfl, a⟩ := dps1 hd
      cases a with
      | tup q r => exact ⟨_, _, rfl, .inr ⟨_, q, (dps_len r).symm⟩, k _ (.int _)⟩
    · cases e
def opAbs : List PyData → Option Op
  | [.int i] => some (.val (.int (if i < 0 then -i else i)))
  | _ => none
theorem ok_abs : OpOk K (fun xs H Q => ∃ i, xs = [.int i] ∧ Q (.int (if i < 0 then -i else i)) H) opAbs := .ofSc (fun ds res e => by
    unfold opAbs at e
    split at e
    · cases e; exact ⟨_, rfl, rfl⟩
    · cases e) fun ds d H vs Q e hd k => by
    unfold opAbs at e
    split at e
    · cases e
      obtain ⟨v, rfl, a⟩ := dps1 hd
      cases a
      exact ⟨_, rfl, k _ (.int _)⟩
    · cases e
def opMax2 : List PyData → Option Op
  | [.int i, .int j] => some (.val (.int (if j > i then j else i)))
  | _ => none
theorem ok_max2 : OpOk K (fun xs H Q => ∃ i j, xs = [.int i, .int j] ∧ Q (.int (if j > i then j else i)) H) opMax2 := .ofSc (fun ds res e => by
    unfold opMax2 at e
    split at e
    · cases e; exact ⟨_, rfl, rfl⟩
    · cases e) fun ds d H vs Q e hd k => by
    unfold opMax2 at e
    split at e
    · cases e
      obtain ⟨v, w, rfl, a, b⟩ := dps2 hd
      cases a; cases b
      exact ⟨_, _, rfl, k _ (.int _)⟩
    · cases e
def opMin2 : List PyData → Option Op
  | [.int i, .int j] => some (.val (.int (if j < i then j else i)))
  | _ => none
theorem ok_min2 : OpOk K (fun xs H Q => ∃ i j, xs = [.int i, .int j] ∧ Q (.int (if j < i then j else i)) H) opMin2 := .ofSc (fun ds res e => by
    unfold opMin2 at e
    split at e
    · cases e; exact ⟨_, rfl, rfl⟩
    · cases e) fun ds d H vs Q e hd k => by
    unfold opMin2 at e
    split at e
    · cases e
      obtain ⟨v, w, rfl, a, b⟩ := dps2 hd
      cases a; cases b
      exact ⟨_, _, rfl, k _ (.int _)⟩
    · cases e
def opInt : List PyData → Option Op
  | [.int i] => some (.val (.int i))
  | [.bool b] => some (.val (.int (if b then 1 else 0)))
  | _ => none
theorem ok_int : OpOk K (fun xs H Q => (∃ i, xs = [.int i] ∧ Q (.int i) H) ∨ ∃ k, xs = [.bl k] ∧ Q (.int (if k then 1 else 0)) H) opInt := .ofSc (fun ds res e => by
    unfold opInt at e
    split at e
    · cases e; exact ⟨_, rfl, rfl⟩
    · cases e; exact ⟨_, rfl, rfl⟩
    · cases e) fun ds d H vs Q e hd k => by
    unfold opInt at e
    split at e
    · cases e
      obtain ⟨v, rfl, a⟩ := dps1 hd
      cases a
      exact .inl ⟨_, rfl, k _ (.int _)⟩
    · cases e
      obtain ⟨v, rfl, a⟩ := dps1 hd
      cases a
      exact .inr ⟨_, rfl, k _ (.int _)⟩
    · cases e
/-- divmod by a small positive divisor: a new pair -/
def opDivmod : List PyData → Option Op
  | [.int i, .int j] => if 0 < j ∧ j < 1073741824 then some (.nt [.int (i / j), .int (i % j)]) else none
  | _ => none
theorem ok_divmod : OpOk K (fun xs H Q => ∃ i j, xs = [.int i, .int j] ∧ CDiv i j ∧ ∀ p, H p = none → Q (.ref p) (upd H p (.tup [.int (i / j), .int (i % j)]))) opDivmod where
  sc := fun ds d H vs Q e _ _ _ => by
    unfold opDivmod at e
    split at e
    · split at e <;> cases e
    · cases e
  el := fun ds d G H vs Q e _ _ _ _ => by
    unfold opDivmod at e
    split at e
    · split at e <;> cases e
    · cases e
  nl := fun ds es G H vs Q e _ _ _ => by
    unfold opDivmod at e
    split at e
    · split at e <;> cases e
    · cases e
  nt := fun ds es G H vs Q e s hd k => by
    unfold opDivmod at e
    split at e
    · split at e
      · rename_i c
        cases e
        obtain ⟨v, w, rfl, a, b⟩ := dws2 hd
        have a := a.dx s
        have b := b.dx s
        cases a; cases b
        exact ⟨_, _, rfl, c, fun p hp => k _ p (.cons (.int _) (.cons (.int _) .nil)) hp⟩
      · cases e
    · cases e
def bools? : List PyData → Option (List Bool)
  | [] => some []
  | .bool x :: r => match bools? r with
    | some xs => some (x :: xs)
    | none => none
  | _ => none
theorem bools_dx {H : Hp} : ∀ {ds : List PyData} {xs : List Bool} {vs : List V}, bools? ds = some xs → DxAll K H vs ds → vs = xs.map V.bl
  | [], xs, _, e, h => by
    simp [bools?] at e; subst e; cases h; rfl
  | d :: r, xs, _, e, h => by
    cases h with
    | cons a b =>
      cases d with
      | bool x =>
        simp only [bools?] at e
        split at e
        · rename_i ys e2
          cases e; cases a
          rw [bools_dx e2 b]; rfl
        · cases e
      | _ => simp [bools?] at e
def opAll (f : List Bool → Bool) : List PyData → Option Op
  | [.list ds] => match bools? ds with
    | some bs => some (.val (.bool (f bs)))
    | none => none
  | _ => none
theorem ok_all {f : List Bool → Bool} : OpOk K (fun vs H Q => ∃ (a : Addr) (bs : List Bool), vs = [V.ref a] ∧ SqL K H a (bs.map V.bl) ∧ Q (.bl (f bs)) H) (opAll f) := .ofSc (fun ds res e => by
    unfold opAll at e
    split at e
    · split at e
      · cases e; exact ⟨_, rfl, rfl⟩
      · cases e
    · cases e) fun ds d H vs Q e hd k => by
    unfold opAll at e
    split at e
    · split at e
      · rename_i bs e2
        cases e
        obtain ⟨v, rfl, a⟩ := dps1 hd
        cases a with
        | lst q r =>
          have := bools_dx e2 r
          subst this
          exact ⟨_, bs, rfl, q, k _ (.bl _)⟩
      · cases e
    · cases e

/-! ### isinstance of a value and a built-in class -/
def tyN : PyData → String
  | .none => "NoneType"
  | .bool _ => "bool"
  | .int _ => "int"
  | .str _ => "str"
  | .list _ => "list"
  | .tuple _ => "tuple"
  | .dict _ => "dict"
theorem ty_dx {H : Hp} {v : V} {d : PyData} (h : Dx K H v d) (nd : ∀ kv, d ≠ .dict kv) : TyX K H v (.type (tyN d)) := by
  cases h with
  | non => exact .base .non
  | bl b => exact .base (.bl b)
  | int i => exact .base (.int i)
  | str x => exact .base (.str x)
  | lst q r =>
    rcases q with (q | ⟨o, q⟩) | q
    · exact .base (.lst q)
    · exact .base (.frz q)
    · obtain ⟨o, its, n, hk, hc, _⟩ := q
      exact .kList hk hc
  | tup q r =>
    rcases q with (q | ⟨o, q⟩) | q
    · exact .base (.tup q)
    · exact .fTuple q
    · obtain ⟨o, its, n, hk, hc, _⟩ := q
      exact .kTuple hk hc
  | exc _ _ => exact absurd rfl (nd _)
def opIsi (n : String) : List PyData → Option Op
  | [.dict _] => none
  | [d] => match kitB (tyN d) n with
    | some b => some (.val (.bool b))
    | none => none
  | _ => none
theorem ok_isi {n : String} : OpOk K (r1 fun x H Q => rIsi K [x, .ty n] H Q) (opIsi n) := .ofSc (fun ds res e => by
    unfold opIsi at e
    split at e
    · cases e
    · split at e
      · cases e; exact ⟨_, rfl, rfl⟩
      · cases e
    · cases e) fun ds d H vs Q e hd k => by
    unfold opIsi at e
    split at e
    · cases e
    · split at e
      · rename_i nd _ b e2
        cases e
        obtain ⟨v, rfl, a⟩ := dps1 hd
        exact ⟨v, .ty n, _, .type n, b, rfl, .ty n, ty_dx a (fun kv z => nd kv (by rw [z])), kit_ty e2, k _ (.bl _)⟩
      · cases e
    · cases e
theorem se_isi {n : String} {y : Str} {a : Expr} {ea : EvE} {p py pos : Pos} (hm : X.mg "isinstance" = none) (hy : X.mg y = none) (ha : SE X ea a)
    (hvy : bootBuiltins y = some (.type n) := by decide +kernel) (hg : Gl X "isinstance" := by rfl) (hgy : Gl X y := by rfl) (hny : y ≠ "__name__" := by decide) (hdy : (y == ("__debug__" : Str)) = false := by decide) (he : starEach (a :: [.Name y py]) X.env = (false, eval a X.env) :: starEach [.Name y py] X.env := by rfl) :
    SE X (eOp (opIsi n) (es1 ea)) (.Call (.Name "isinstance" p) [a, .Name y py] [] pos) := by
  obtain ⟨ta, p1, q1⟩ := ha
  have := pe_callB (X := X) (x := "isinstance") (p := p) (pos := pos) call_isi hg hm (by decide +kernel) (pa_cons p1 (pa_cons (pe_bltn (v := .ty n) (pos := py) hgy hy hvy rfl hny hdy) pa_nil) he) (by decide) (by decide) he (by rfl)
  refine ⟨_, this, ?_⟩
  exact er_op (r := r1 fun x H Q => rIsi X.K [x, .ty n] H Q) (ers_cons q1 ers_nil) ok_isi

/-! ### repr of data -/
def opRepr : List PyData → Option Op
  | [d] => if (d.showable && !d.hasDict && decide (d.depth ≤ 64) && decide (d.shown.length ≤ strMax)) = true then some (.val (.str d.shown)) else none
  | _ => none
def rRepr (K : PySem.W.Frag) : List V → Hp → VK → Prop := fun vs H Q => ∃ v d, vs = [v] ∧ Dp K H v d ∧ d.showable = true ∧ d.hasDict = false ∧ d.depth ≤ 64 ∧ d.shown.length ≤ sizeLine ∧ Q (.str d.shown) H
theorem ok_repr : OpOk K (rRepr K) opRepr := .ofSc (fun ds res e => by
    unfold opRepr at e
    split at e
    · split at e
      · cases e; exact ⟨_, rfl, rfl⟩
      · cases e
    · cases e) fun ds d H vs Q e hd k => by
    unfold opRepr at e
    split at e
    · split at e
      · rename_i c
        cases e
        obtain ⟨v, rfl, a⟩ := dps1 hd
        simp only [Bool.and_eq_true, Bool.not_eq_true', decide_eq_true_eq] at c
        exact ⟨v, _, rfl, a.dp c.1.1.2, c.1.1.1, c.1.1.2, c.1.2, strMax_le' c.2, k _ (.str _ c.2)⟩
      · cases e
    · cases e
theorem call_repr (hg : X.A.guards = some []) (hu : X.A.units + 65 < cLine) : CallR X (.builtin "repr") (rRepr X.K) := by
  intro pins s σ H xs us Q I r h
  obtain ⟨v, d, rfl, hd, c1, c2, c3, c4, q⟩ := h
  cases r with
  | cons rv rn =>
    cases rn
    rename_i u
    have fin : ∀ (h' : Heap) (t : Tok) (tk : Nat), (∀ b o, s.heap.get? b = some o → h'.get? b = some o) → EP X pins σ Q (.str d.shown t) { s with heap := h', toks := tk } := fun h' t tk hk =>
      ⟨.str d.shown, H, I.kept (t' := tk) hk, ⟨t, rfl⟩, q⟩
    have nd : d.hasDict = true → False := fun z => by rw [c2] at z; cases z
    cases hd with
    | non => cases rv; exact PySem.P.repr_of_none (by simpa [PyData.shown] using fin s.heap s.toks (s.toks + 1) fun _ _ e => e)
    | bl b => cases rv; exact PySem.P.repr_of_bool (by simpa [PyData.shown] using fin s.heap s.toks (s.toks + 1) fun _ _ e => e)
    | int i =>
      obtain ⟨t, rfl⟩ := rv
      exact PySem.P.repr_of_int (by simpa [PyData.showable] using c1) (by simpa [PyData.shown] using fin s.heap s.toks (s.toks + 1) fun _ _ e => e)
    | str x =>
      obtain ⟨t, rfl⟩ := rv
      exact PySem.P.repr_of_str (by simpa [PyData.shown] using fin s.heap s.toks (s.toks + 1) fun _ _ e => e) (by simpa [PyData.shown] using c4)
    | lst q1 q2 =>
      obtain ⟨as, rr⟩ := Dp.reads I _ _ _ (.lst q1 q2) rv
      cases rv
      exact PySem.repr_of_reads' rr c1 (fun z => (nd z).elim) hg (by omega) (fun _ _ e => e) (fun h' t tk hk => fin h' t tk hk) c4
    | tup q1 q2 =>
      obtain ⟨as, rr⟩ := Dp.reads I _ _ _ (.tup q1 q2) rv
      cases rv
      exact PySem.repr_of_reads' rr c1 (fun z => (nd z).elim) hg (by omega) (fun _ _ e => e) (fun h' t tk hk => fin h' t tk hk) c4
end
end DX
/-! DXStmt: statements and loops. -/
namespace DX
open PySem PySem.Spec PyProof.Rows L2

inductive Res where
  | nx (os : En)
  | rt (o : OD) (os : En)
  | bk (os : En)
  | ct (os : En)
abbrev EvS := En → Option Res

/-- behind a statement; R: the slots of lists that the caller holds too -/
def KontS (K : PySem.W.Frag) (R : List Nat) (σ : L2.St) (G H : Hp) (f : FP) (os' : En) (σ' : L2.St) (H' : Hp) : Prop :=
  ∃ G' f', SI K G' H' σ' os' f' ∧ Stp G H f G' H' f' ∧ σ'.length = os'.length ∧ ∀ i ∈ R, σ'[i]? = σ[i]?
def KontR (K : PySem.W.Frag) (R : List Nat) (σ : L2.St) (G H : Hp) (f : FP) (o : OD) (os' : En) (v : V) (H' : Hp) : Prop :=
  ∃ G' f' σ', SI K G' H' (σ' ++ [some v]) (os' ++ [some o]) f' ∧ Stp G H f G' H' f' ∧ σ'.length = os'.length ∧ ∀ i ∈ R, σ'[i]? = σ[i]?
def Post (K : PySem.W.Frag) (R : List Nat) (σ : L2.St) (G H : Hp) (f : FP) (D : Ends) : Res → Prop
  | .nx os' => ∀ σ' H', KontS K R σ G H f os' σ' H' → D.nx σ' H'
  | .rt o os' => ∀ v H', KontR K R σ G H f o os' v H' → D.rt v H'
  | .bk os' => ∀ σ' H', KontS K R σ G H f os' σ' H' → D.bk σ' H'
  | .ct os' => ∀ σ' H', KontS K R σ G H f os' σ' H' → D.ct σ' H'
def SR (K : PySem.W.Frag) (R : List Nat) (ev : EvS) (ts : TS) : Prop := ∀ (σ : L2.St) (G H : Hp) (os : En) (f : FP) (res : Res) (D : Ends),
  σ.length = os.length → SI K G H σ os f → ev os = some res → Post K R σ G H f D res → ts D σ H
def SS (X : Cx) (R : List Nat) (ev : EvS) (st : Stmt) : Prop := ∃ ts, PS X st ts ∧ SR X.K R ev ts
def SSs (X : Cx) (R : List Nat) (ev : EvS) (st : List Stmt) : Prop := ∃ ts, PSs X st ts ∧ SR X.K R ev ts

section
variable {K : PySem.W.Frag} {X : Cx} {R : List Nat}
theorem KontS.step {σ σ1 σ' : L2.St} {G H G1 H1 H' : Hp} {f f1 : FP} {os' : En} (s : Stp G H f G1 H1 f1) (r : ∀ i ∈ R, σ1[i]? = σ[i]?) (k : KontS K R σ1 G1 H1 f1 os' σ' H') : KontS K R σ G H f os' σ' H' := by
  obtain ⟨G2, f2, I, s2, l, r2⟩ := k
  exact ⟨G2, f2, I, s.trans s2, l, fun i hi => (r2 i hi).trans (r i hi)⟩
theorem KontR.step {σ σ1 : L2.St} {G H G1 H1 H' : Hp} {f f1 : FP} {o : OD} {os' : En} {v : V} (s : Stp G H f G1 H1 f1) (r : ∀ i ∈ R, σ1[i]? = σ[i]?) (k : KontR K R σ1 G1 H1 f1 o os' v H') : KontR K R σ G H f o os' v H' := by
  obtain ⟨G2, f2, σ2, I, s2, l, r2⟩ := k
  exact ⟨G2, f2, σ2, I, s.trans s2, l, fun i hi => (r2 i hi).trans (r i hi)⟩
theorem Post.step {σ σ1 : L2.St} {G H G1 H1 : Hp} {f f1 : FP} {D : Ends} {res : Res} (s : Stp G H f G1 H1 f1) (r : ∀ i ∈ R, σ1[i]? = σ[i]?) (k : Post K R σ G H f D res) : Post K R σ1 G1 H1 f1 D res := by
  cases res with
  | nx os' => exact fun σ' H' q => k σ' H' (q.step s r)
  | rt o os' => exact fun v H' q => k v H' (q.step s r)
  | bk os' => exact fun σ' H' q => k σ' H' (q.step s r)
  | ct os' => exact fun σ' H' q => k σ' H' (q.step s r)

/-! ### blocks -/
def sNext : EvS := fun os => some (.nx os)
def sSeq (a b : EvS) : EvS := fun os => match a os with
  | some (.nx os1) => b os1
  | r => r
theorem sr_next : SR K R sNext tNext := fun σ G H os f res D hl I e k => by
  cases e
  exact k σ H ⟨G, f, I, Stp.refl _ _ _, hl, fun _ _ => rfl⟩
theorem sr_seq {a b : EvS} {ta tb : TS} (ha : SR K R a ta) (hb : SR K R b tb) : SR K R (sSeq a b) (tSeq ta tb) := fun σ G H os f res D hl I e k => by
  unfold sSeq at e
  cases ea : a os with
  | none => rw [ea] at e; cases e
  | some r1 =>
    rw [ea] at e
    cases r1 with
    | nx os1 =>
      exact ha σ G H os f _ { D with nx := tb D } hl I ea fun σ1 H1 k1 => by
        obtain ⟨G1, f1, I1, s1, l1, q1⟩ := k1
        exact hb σ1 G1 H1 os1 f1 res D l1 I1 e (k.step s1 q1)
    | rt o os1 => cases e; exact ha σ G H os f _ { D with nx := tb D } hl I ea k
    | bk os1 => cases e; exact ha σ G H os f _ { D with nx := tb D } hl I ea k
    | ct os1 => cases e; exact ha σ G H os f _ { D with nx := tb D } hl I ea k
theorem ss_nil' : SSs X R sNext [] := ⟨_, pss_nil, sr_next⟩
theorem ss_cons' {st : Stmt} {rest : List Stmt} {a b : EvS} (h : SS X R a st) (g : SSs X R b rest) : SSs X R (sSeq a b) (st :: rest) := by
  obtain ⟨t, p, q⟩ := h
  obtain ⟨u, p', q'⟩ := g
  exact ⟨_, pss_cons p p', sr_seq q q'⟩
theorem ss_one {st : Stmt} {a : EvS} (h : SS X R a st) : SSs X R a [st] := by
  obtain ⟨t, p, q⟩ := h
  exact ⟨_, pss_one p, q⟩
theorem ss_pass {pos : Pos} : SS X R sNext (.Pass pos) := ⟨_, ps_pass, sr_next⟩
def sBrk : EvS := fun os => some (.bk os)
def sCnt : EvS := fun os => some (.ct os)
theorem ss_brk {pos : Pos} : SS X R sBrk (.Break pos) := ⟨_, ps_break, fun σ G H os f res D hl I e k => by
  cases e
  exact k σ H ⟨G, f, I, Stp.refl _ _ _, hl, fun _ _ => rfl⟩⟩
theorem ss_cnt {pos : Pos} : SS X R sCnt (.Continue pos) := ⟨_, ps_continue, fun σ G H os f res D hl I e k => by
  cases e
  exact k σ H ⟨G, f, I, Stp.refl _ _ _, hl, fun _ _ => rfl⟩⟩

/-! ### return -/
/-- what a value is where it is handed on: a slot's list goes with it -/
def give (os : En) : RV → Option (OD × En)
  | .tm o => some (o, os)
  | .al i => match os[i]? with
    | some (some (.sh d)) => some (.sh d, os)
    | some (some (.lst xs)) => some (.lst xs, os.set i none)
    | some (some (.tpl xs)) => some (.tpl xs, os.set i none)
    | _ => none
def sRet (ev : EvE) : EvS := fun os => match ev os with
  | some (r, os1) => match give os1 r with
    | some (o, os2) => some (.rt o os2)
    | none => none
  | none => none
/-- a slot is emptied: what it held -/
theorem SL.out {G H : Hp} : ∀ {vs : List (Option V)} {os : En} {f : FP} {i : Nat} {o : OD}, SL K G H vs os f → os[i]? = some (some o) →
    ∃ (v : V) (fo fr : FP), vs[i]? = some (some v) ∧ RO K G H v o fo ∧ (∀ a, f a = fo a + fr a) ∧ SL K G H vs (os.set i none) fr
  | _, _, _, _, _, .nil, h => by simp at h
  | _, _, _, 0, _, .un r, h => by simp at h
  | _, _, _, 0, o, .val (v := v) (f := f) (g := g) q r, h => by
    simp at h; subst h
    exact ⟨v, f, g, rfl, q, fun _ => rfl, .un r⟩
  | _, _, _, i + 1, o, .un (v := w) r, h => by
    obtain ⟨v, fo, fr, h1, h2, h3, h5⟩ := SL.out (i := i) r (by simpa using h)
    exact ⟨v, fo, fr, by simpa using h1, h2, h3, .un h5⟩
  | _, _, _, i + 1, o, .val (f := f) (g := g) q r, h => by
    obtain ⟨v, fo, fr, h1, h2, h3, h5⟩ := SL.out (i := i) r (by simpa using h)
    exact ⟨v, fo, fun a => f a + fr a, by simpa using h1, h2, fun a => by (try dsimp only); rw [h3 a]; omega, .val q h5⟩
/-- the value on the stack, and what it is -/
theorem Kont.gives {σ : L2.St} {G H H1 : Hp} {f : FP} {os1 os2 : En} {v : V} {r : RV} {o : OD} (k : Kont K σ [] G H f os1 [] [v] [r] H1) (e : DX.give os1 r = some (o, os2)) :
    ∃ G' f', SI K G' H1 (σ ++ [some v]) (os2 ++ [some o]) f' ∧ Stp G H f G' H1 f' ∧ σ.length = os2.length := by
  obtain ⟨G1, f1, I, s, a, l⟩ := k
  cases r with
  | tm o' => cases e; exact ⟨G1, f1, by simpa [RV.od] using I, s, l⟩
  | al i =>
    have I' : SI K G1 H1 (σ ++ [some v]) (os1 ++ [none]) f1 := by simpa [RV.od] using I
    have hv : σ[i]? = some (some v) := by
      cases a with
      | cons a _ => exact a
    obtain ⟨g, k, h1, h2, h3⟩ := SL.cut l I'.sl
    have J : SI K G1 H1 σ os1 g := I'.forget h1 fun a => by rw [h3]; omega
    have sg : Stp G H f G1 H1 g := s.trans (Stp.less fun a => by rw [h3]; omega)
    have e : (match os1[i]? with | some (some (.sh d)) => some (OD.sh d, os1) | some (some (.lst xs)) => some (OD.lst xs, os1.set i none) | some (some (.tpl xs)) => some (OD.tpl xs, os1.set i none) | _ => none) = some (o, os2) := e
    split at e
    · rename_i d e1
      cases e
      obtain ⟨v', fo, fr, q2, q3, _⟩ := J.sl.at e1
      rw [hv] at q2; cases q2
      cases q3 with
      | sh q3 => exact ⟨G1, g, J.push q3, sg, l⟩
    · rename_i xs e1
      cases e
      obtain ⟨v', fo, fr, q2, q3, q4, q5⟩ := SL.out J.sl e1
      rw [hv] at q2; cases q2
      obtain ⟨k2, k3, k4⟩ := SL.app q5 (SL.val q3 .nil)
      have k5 : ∀ a, k2 a = g a := fun a => by rw [k4, q4]; (try dsimp only); omega
      exact ⟨G1, g, ⟨k3.congr k5, J.sub, J.one, J.hid⟩, sg, by rw [List.length_set]; exact l⟩
    · rename_i xs e1
      cases e
      obtain ⟨v', fo, fr, q2, q3, q4, q5⟩ := SL.out J.sl e1
      rw [hv] at q2; cases q2
      obtain ⟨k2, k3, k4⟩ := SL.app q5 (SL.val q3 .nil)
      have k5 : ∀ a, k2 a = g a := fun a => by rw [k4, q4]; (try dsimp only); omega
      exact ⟨G1, g, ⟨k3.congr k5, J.sub, J.one, J.hid⟩, sg, by rw [List.length_set]; exact l⟩
    · cases e
theorem sr_ret {ev : EvE} {te : TE} (h : ER K ev te) : SR K R (sRet ev) (tRet te) := fun σ G H os f res D hl I e k => by
  unfold sRet at e
  split at e
  · rename_i r os1 e1
    split at e
    · rename_i o os2 e2
      cases e
      refine h σ [] G H os [] f r os1 _ hl rfl (by simpa using I) e1 fun v H1 k1 => ?_
      obtain ⟨G', f', I', s', l'⟩ := k1.gives e2
      exact k v H1 ⟨G', f', σ, I', s', l', fun _ _ => rfl⟩
    · cases e
  · cases e
theorem ss_ret {e : Expr} {ev : EvE} {pos : Pos} (h : SE X ev e) : SS X R (sRet ev) (.Return (some e) pos) := by
  obtain ⟨te, p, q⟩ := h
  exact ⟨_, ps_ret p, sr_ret q⟩
def sRetN : EvS := fun os => some (.rt (.sh .none) os)
theorem ss_retN {pos : Pos} : SS X R sRetN (.Return none pos) := ⟨_, ps_retN, fun σ G H os f res D hl I e k => by
  cases e
  exact k .non H ⟨G, f, σ, I.push .non, Stp.refl _ _ _, hl, fun _ _ => rfl⟩⟩

/-! ### if -/
def sIf (t : EvT) (a b : EvS) : EvS := fun os => match t os with
  | some (true, os1) => a os1
  | some (false, os1) => b os1
  | none => none
theorem sr_if {t : EvT} {a b : EvS} {tt : TT} {ta tb : TS} (h : TR K t tt) (ha : SR K R a ta) (hb : SR K R b tb) : SR K R (sIf t a b) (tIfS tt ta tb) := fun σ G H os f res D hl I e k => by
  unfold sIf at e
  split at e
  · rename_i os1 e1
    refine h σ [] G H os [] f true os1 _ hl rfl (by simpa using I) e1 fun H1 k1 => ?_
    obtain ⟨G1, f1, I1, s1, l1⟩ := k1
    rw [if_pos rfl]
    exact ha σ G1 H1 os1 f1 res D l1 (by simpa using I1) e (k.step s1 fun _ _ => rfl)
  · rename_i os1 e1
    refine h σ [] G H os [] f false os1 _ hl rfl (by simpa using I) e1 fun H1 k1 => ?_
    obtain ⟨G1, f1, I1, s1, l1⟩ := k1
    rw [if_neg Bool.false_ne_true]
    exact hb σ G1 H1 os1 f1 res D l1 (by simpa using I1) e (k.step s1 fun _ _ => rfl)
  · cases e
theorem ss_if {c : Expr} {a b : List Stmt} {t : EvT} {ea eb : EvS} {pos : Pos} (h : STt X t c) (ha : SSs X R ea a) (hb : SSs X R eb b) : SS X R (sIf t ea eb) (.If c a b pos) := by
  obtain ⟨tt, p, q⟩ := h
  obtain ⟨ta, p1, q1⟩ := ha
  obtain ⟨tb, p2, q2⟩ := hb
  exact ⟨_, ps_if p p1 p2, sr_if q q1 q2⟩

/-! ### an expression alone -/
def sExpr (ev : EvE) : EvS := fun os => match ev os with
  | some (_, os1) => some (.nx os1)
  | none => none
theorem ss_expr {e : Expr} {ev : EvE} {pos : Pos} (h : SE X ev e) (hs : swapsWith e none pos.line X.env = pure false := by rfl) : SS X R (sExpr ev) (.Expr e pos) := by
  obtain ⟨te, p, q⟩ := h
  refine ⟨_, ps_expr p hs, fun σ G H os f res D hl I e k => ?_⟩
  unfold sExpr at e
  split at e
  · rename_i r os1 e1
    cases e
    refine q σ [] G H os [] f r os1 _ hl rfl (by simpa using I) e1 fun v H1 k1 => ?_
    obtain ⟨G1, f1, I1, s1, l1⟩ := k1.drop rfl
    exact k σ H1 ⟨G1, f1, by simpa using I1, s1, l1, fun _ _ => rfl⟩
  · cases e

/-! ### name = value -/
/-- the stack's top goes into slot i -/
theorem SI.store {σ : L2.St} {G H : Hp} {os : En} {f : FP} {v : V} {o : OD} (I : SI K G H (σ ++ [some v]) (os ++ [some o]) f) (hl : σ.length = os.length) {i : Nat} (hi : i < os.length) :
    ∃ f', SI K G H (σ.set i (some v)) (os.set i (some o)) f' ∧ ∀ a, f' a ≤ f a := by
  obtain ⟨v', fo, fr, e, q, r, h⟩ := I.last hl
  cases e
  obtain ⟨fs, h1, _, h3⟩ := SL.put i r hi
  obtain ⟨g, g1, g2⟩ := h3 v o fo q
  exact ⟨g, I.forget g1 fun a => by rw [g2, h]; have := h1 a; omega, fun a => by rw [g2, h]; have := h1 a; omega⟩
def sAsg (R : List Nat) (i : Nat) (ev : EvE) : EvS := fun os => match ev os with
  | some (r, os1) => if i ∈ R ∨ os1.length ≤ i then none else match r with
    | .tm o => some (.nx (os1.set i (some o)))
    | .al j => match (hard os1 (.al j))[j]? with
      | some (some (.sh d)) => some (.nx ((hard os1 (.al j)).set i (some (.sh d))))
      | _ => none
  | none => none
theorem sr_asg {i : Nat} {ev : EvE} {te : TE} (h : ER K ev te) : SR K R (sAsg R i ev) (tAsg te (gName i)) := fun σ G H os f res D hl I e k => by
  unfold sAsg at e
  split at e
  · rename_i r os1 e1
    split at e
    · cases e
    · rename_i hi
      have hiR : i ∉ R := fun z => hi (.inl z)
      have hil : i < os1.length := by
        rcases Nat.lt_or_ge i os1.length with q | q
        · exact q
        · exact absurd (.inr q) hi
      have keepR : ∀ (v : V), ∀ j ∈ R, (σ.set i (some v))[j]? = σ[j]? := fun v j hj => by
        rw [List.getElem?_set_ne (fun z => by subst z; exact hiR hj)]
      refine h σ [] G H os [] f r os1 _ hl rfl (by simpa using I) e1 fun v H1 k1 => ?_
      obtain ⟨G1, f1, I1, s1, a1, l1⟩ := k1
      show D.nx (σ.set i (some v)) H1
      cases r with
      | tm o =>
        cases e
        obtain ⟨f2, I2, le⟩ := (show SI K G1 H1 (σ ++ [some v]) (os1 ++ [some o]) f1 by simpa [RV.od] using I1).store l1 hil
        exact k _ H1 ⟨G1, f2, I2, s1.trans (Stp.less le), by simp [l1], keepR v⟩
      | al j =>
        have hv : σ[j]? = some (some v) := by
          cases a1 with
          | cons a _ => exact a
        have I1 : SI K G1 H1 (σ ++ [some v]) (os1 ++ [none]) f1 := by simpa [RV.od] using I1
        obtain ⟨f2, I2, le⟩ := I1.pop l1
        obtain ⟨G3, f3, I3, s3⟩ := (show SI K G1 H1 σ (os1 ++ []) f2 by simpa using I2).hard (.al j)
        have I3 : SI K G3 H1 σ (hard os1 (.al j)) f3 := by simpa using I3
        have l3 : σ.length = (hard os1 (.al j)).length := by rw [len_hard]; exact l1
        simp only at e
        split at e
        · rename_i d e4
          cases e
          obtain ⟨v', fo, fr, q2, q3, _⟩ := I3.sl.at e4
          rw [hv] at q2; cases q2
          cases q3 with
          | sh q3 =>
            obtain ⟨f4, I4, le4⟩ := (I3.push q3).store l3 (i := i) (by rw [len_hard]; exact hil)
            exact k _ H1 ⟨G3, f4, I4, ((s1.trans (Stp.less le)).trans s3).trans (Stp.less le4), by simp [l3], keepR v⟩
        · cases e
  · cases e
theorem ss_asg (i : Nat) {x : Str} {e : Expr} {ev : EvE} {pos' pos : Pos} (hN : X.N.Nodup) (h : SE X ev e) (hi : X.N[i]? = some x := by rfl) (hx : Loc X.env.scope x := by first | exact Or.inl rfl | exact Or.inr rfl)
    (hs : swapsWith e (some (.Name x pos')) pos.line X.env = pure false := by rfl) (hf : X.fn x = true ∨ X.env.scope.names.lookup x = some .local := by first | exact .inl rfl | exact .inr rfl | assumption) : SS X R (sAsg R i ev) (.Assign [.Name x pos'] e pos) := by
  obtain ⟨te, p, q⟩ := h
  exact ⟨_, ps_set hN hi hx p hs hf, sr_asg q⟩
end
end DX
/-! DXMut: owned lists changed; targets; loops. -/
namespace DX
open PySem PySem.Spec PyProof.Rows L2

section
variable {K : PySem.W.Frag} {X : Cx} {R : List Nat}
theorem SL.mut {σ : L2.St} {G H : Hp} {os : En} {f0 tot : FP} {i : Nat} {xs : List OD} (hs : SL K G H σ os f0) (sub : Sub G H) (one : ∀ a, tot a ≤ 1) (hid : ∀ a, tot a ≠ 0 → G a = none) (h : os[i]? = some (some (.lst xs))) :
    ∃ (p : Addr) (vs : List V) (g0 fr : FP), σ[i]? = some (some (.ref p)) ∧ H p = some (.lst vs) ∧ ROs K G H vs xs g0 ∧ (∀ a, f0 a = (if a = p then 1 else 0) + g0 a + fr a) ∧
      ∀ (vs' : List V) (xs' : List OD) (g' : FP), ROs K G H vs' xs' g' → (∀ a, (if a = p then 1 else 0) + g' a + fr a ≤ tot a) →
        ∃ f', SI K G (upd H p (.lst vs')) σ (os.set i (some (.lst xs'))) f' ∧ (∀ a, f' a ≤ tot a) ∧ Stp G H tot G (upd H p (.lst vs')) f' := by
  obtain ⟨v, fo, fr, h1, h2, h3, h5⟩ := hs.at h
  cases h2 with
  | lst hp hr =>
    rename_i p vs g0
    refine ⟨p, vs, g0, fr, h1, hp, hr, fun a => by rw [h3], fun vs' xs' g' q le => ?_⟩
    have lp : ∀ a, a ≠ p → (upd H p (.lst vs')) a = H a := fun a z => upd_ne z
    have t1 : tot p = 1 := by
      have := le p; have := one p; rw [if_pos rfl] at *; omega
    have gp : g' p = 0 ∧ fr p = 0 := by
      have := le p; rw [if_pos rfl] at this; omega
    have kp : ∀ (a : Addr) (u : HO), a ≠ p → H a = some u → (upd H p (.lst vs')) a = some u := fun a u z e => by rw [lp a z]; exact e
    have q' : ROs K G (upd H p (.lst vs')) vs' xs' g' := q.mono (Sub.refl _) fun a u z e => kp a u (fun y => by subst y; exact z gp.1) e
    have sb : Sub G (upd H p (.lst vs')) := fun a u e => kp a u (fun y => by
      subst y
      have := hid a (by omega)
      rw [this] at e; cases e) (sub a u e)
    obtain ⟨f', k1, k2⟩ := h5 G (upd H p (.lst vs')) (Sub.refl _) (fun a u z e => kp a u (fun y => by subst y; exact z gp.2) e) (.ref p) (.lst xs') _ (.lst upd_same q')
    rw [set_id h1] at k1
    have lef : ∀ a, f' a ≤ tot a := fun a => by rw [k2]; (try dsimp only); have := le a; omega
    refine ⟨f', ⟨k1, sb, fun a => Nat.le_trans (lef a) (one a), fun a z => hid a (by have := lef a; omega)⟩, lef, ⟨Sub.refl _, fun a o e z => kp a o (fun y => by subst y; omega) e, fun a e => ?_, fun a e => .inl e, fun a z => .inl (by have := lef a; omega)⟩⟩
    by_cases y : a = p
    · subst y; rw [upd_same]; simp
    · rw [lp a y]; exact e

/-! ### append -/
def sApp (i : Nat) (ev : EvE) : EvS := fun os => match os[i]? with
  | some (some (.lst _)) => match ev os with
    | some (.tm o, os1) => match os1[i]? with
      | some (some (.lst xs)) => if xs.length < sizeLine then some (.nx (os1.set i (some (.lst (xs ++ [o]))))) else none
      | _ => none
    | some (.al j, os1) => match (hard os1 (.al j))[j]?, (hard os1 (.al j))[i]? with
      | some (some (.sh d)), some (some (.lst xs)) => if xs.length < sizeLine then some (.nx ((hard os1 (.al j)).set i (some (.lst (xs ++ [.sh d]))))) else none
      | _, _ => none
    | none => none
  | _ => none
theorem ROs.one {G H : Hp} {v : V} {o : OD} {f : FP} (h : RO K G H v o f) : ROs K G H [v] [o] f := by
  have : ROs K G H [v] [o] (fun a => f a + 0) := .cons h .nil
  exact this
theorem SI.app {σ : L2.St} {G H : Hp} {os : En} {f : FP} {v : V} {o : OD} (I : SI K G H (σ ++ [some v]) (os ++ [some o]) f) (hl : σ.length = os.length) {i : Nat} {xs : List OD} (h : os[i]? = some (some (.lst xs))) :
    ∃ p vs, σ[i]? = some (some (.ref p)) ∧ H p = some (.lst vs) ∧ vs.length = xs.length ∧ ∃ f', SI K G (upd H p (.lst (vs ++ [v]))) σ (os.set i (some (.lst (xs ++ [o])))) f' ∧ Stp G H f G (upd H p (.lst (vs ++ [v]))) f' := by
  obtain ⟨v', fo, f0, e, q, r, hf⟩ := I.last hl
  cases e
  obtain ⟨p, vs, g0, fr, h1, h2, h3, h4, h5⟩ := SL.mut r I.sub I.one I.hid h
  obtain ⟨k, k1, k2⟩ := ROs.app h3 (ROs.one q)
  obtain ⟨f', m1, m2, m3⟩ := h5 (vs ++ [v]) (xs ++ [o]) k k1 fun a => by rw [k2, hf, h4]; omega
  exact ⟨p, vs, h1, h2, h3.len, f', m1, m3⟩
theorem sr_app {i : Nat} {ev : EvE} {te : TE} (h : ER K ev te) : SR K R (sApp i ev) (tDrop (tBM K "list" rAppend (tVar i) (tCons te tNil))) := fun σ G H os f res D hl I e k => by
  unfold sApp at e
  split at e
  · rename_i ys e0
    obtain ⟨v0, _, _, w1, w2, _⟩ := I.sl.at e0
    have w3 : ∃ p vs, v0 = .ref p ∧ H p = some (.lst vs) := by
      cases w2 with
      | lst hp _ => exact ⟨_, _, rfl, hp⟩
    obtain ⟨p0, vs0, rfl, hp0⟩ := w3
    refine ⟨.ref p0, w1, .inl ⟨rfl, vs0, .inl (.inl hp0)⟩, ?_⟩
    split at e
    · rename_i o os1 e1
      split at e
      · rename_i xs e2
        split at e
        · rename_i c
          cases e
          refine h σ [] G H os [] f _ os1 _ hl rfl (by simpa using I) e1 fun v H1 k1 => ?_
          obtain ⟨G1, f1, I1, s1, a1, l1⟩ := k1
          obtain ⟨p, vs, q1, q2, q3, f', I2, s2⟩ := (show SI K G1 H1 (σ ++ [some v]) (os1 ++ [some o]) f1 by simpa [RV.od] using I1).app l1 e2
          rw [w1] at q1; cases q1
          refine ⟨p0, vs, v, rfl, rfl, q2, by rw [q3]; exact c, ?_⟩
          exact k σ _ ⟨G1, f', I2, s1.trans s2, by simp [l1], fun _ _ => rfl⟩
        · cases e
      · cases e
    · rename_i j os1 e1
      split at e
      · rename_i d xs e2 e3
        split at e
        · rename_i c
          cases e
          refine h σ [] G H os [] f _ os1 _ hl rfl (by simpa using I) e1 fun v H1 k1 => ?_
          obtain ⟨G1, f1, I1, s1, a1, l1⟩ := k1
          have hv : σ[j]? = some (some v) := by
            cases a1 with
            | cons a _ => exact a
          have I1 : SI K G1 H1 (σ ++ [some v]) (os1 ++ [none]) f1 := by simpa [RV.od] using I1
          obtain ⟨f2, I2, le⟩ := I1.pop l1
          obtain ⟨G3, f3, I3, s3⟩ := (show SI K G1 H1 σ (os1 ++ []) f2 by simpa using I2).hard (.al j)
          have I3 : SI K G3 H1 σ (hard os1 (.al j)) f3 := by simpa using I3
          have l3 : σ.length = (hard os1 (.al j)).length := by rw [len_hard]; exact l1
          obtain ⟨v', fo, fr, q2, q3, _⟩ := I3.sl.at e2
          rw [hv] at q2; cases q2
          cases q3 with
          | sh q3 =>
            obtain ⟨p, vs, q1, q2, q4, f', I5, s5⟩ := (I3.push q3).app l3 e3
            rw [w1] at q1; cases q1
            refine ⟨p0, vs, v, rfl, rfl, q2, by rw [q4]; exact c, ?_⟩
            exact k σ _ ⟨G3, f', I5, ((s1.trans (Stp.less le)).trans s3).trans s5, by simp [l3], fun _ _ => rfl⟩
        · cases e
      · cases e
    · cases e
  · cases e
theorem ss_app (i : Nat) {x : Str} {e : Expr} {ev : EvE} {px apos cpos pos : Pos} (h : SE X ev e) (hN : X.N[i]? = some x := by rfl) (hv : Vis X.env.scope x := by first | exact Or.inl rfl | exact Or.inr (Or.inl rfl) | exact Or.inr (Or.inr rfl))
    (hd : (x == ("__debug__" : Str)) = false := by decide) (hcd : (x == ("__classdict__" : Str)) = false := by decide) (hst : starEach (e :: []) X.env = (false, eval e X.env) :: starEach [] X.env := by rfl)
    (hbase : attributeBase (.Name x px) "append" X.env (eval (.Name x px) X.env) = eval (.Name x px) X.env := by rfl)
    (hfew : ((backTo cpos (starEach (e :: []) X.env)).all (fun x => !x.1) && (backToKw cpos (keywordEach [] X.env)).all (fun x => x.1.isSome)
      && decide ((e :: ([] : List Expr)).length + ([] : List Keyword).length + (if ([] : List Keyword).isEmpty then 0 else 1) < 30)) = true := by rfl)
    (hs : swapsWith (.Call (.Attribute (.Name x px) "append" apos) [e] [] cpos) none pos.line X.env = pure false := by rfl) (hline : (apos.endLine == cpos.line) = true := by rfl) :
    SS X R (sApp i ev) (.Expr (.Call (.Attribute (.Name x px) "append" apos) [e] [] cpos) pos) := by
  obtain ⟨te, p, q⟩ := h
  refine ⟨_, ps_expr (pe_bm PySem.F.plainAttrs_list PySem.F.slot_list_append PySem.F.type_list_append mt_append (pe_var hN hv hd hcd) (pa_cons p pa_nil hst) hbase hfew hline hst (by rfl)) hs, sr_app q⟩

/-! ### targets -/
abbrev EvG := PyData → En → Option En
def TGd (K : PySem.W.Frag) (R : List Nat) (tv : EvG) (g : TG) : Prop := ∀ (σ : L2.St) (G H : Hp) (os : En) (f : FP) (v : V) (d : PyData) (os' : En) (Q : L2.St → Hp → Prop),
  σ.length = os.length → SI K G H σ os f → Dx K G v d → tv d os = some os' → (∀ σ' H', KontS K R σ G H f os' σ' H' → Q σ' H') → g v σ H Q
abbrev EvGs := List PyData → En → Option En
def TGds (K : PySem.W.Frag) (R : List Nat) (tv : EvGs) (g : TGs) : Prop := ∀ (σ : L2.St) (G H : Hp) (os : En) (f : FP) (vs : List V) (ds : List PyData) (os' : En) (Q : L2.St → Hp → Prop),
  σ.length = os.length → SI K G H σ os f → DxAll K G vs ds → tv ds os = some os' → (∀ σ' H', KontS K R σ G H f os' σ' H' → Q σ' H') → g vs σ H Q
def ST (X : Cx) (R : List Nat) (tv : EvG) (t : Expr) : Prop := ∃ g, PG X t g ∧ TGd X.K R tv g
def STs (X : Cx) (R : List Nat) (tv : EvGs) (ts : List Expr) : Prop := ∃ g, PGs X ts g ∧ TGds X.K R tv g
def gvName (R : List Nat) (i : Nat) : EvG := fun d os => if i ∈ R ∨ os.length ≤ i then none else some (os.set i (some (.sh d)))
theorem tg_name {i : Nat} : TGd K R (gvName R i) (gName i) := fun σ G H os f v d os' Q hl I hd e k => by
  unfold gvName at e
  split at e
  · cases e
  · rename_i hi
    cases e
    have hil : i < os.length := by
      rcases Nat.lt_or_ge i os.length with q | q
      · exact q
      · exact absurd (.inr q) hi
    obtain ⟨f', I2, le⟩ := (I.push hd).store hl hil
    exact k _ H ⟨G, f', I2, Stp.less le, by simp [hl], fun j hj => by rw [List.getElem?_set_ne (fun z => by subst z; exact hi (.inl hj))]⟩
theorem sg_name (i : Nat) {x : Str} {pos : Pos} (hN : X.N.Nodup) (hi : X.N[i]? = some x := by rfl) (hx : Loc X.env.scope x := by first | exact Or.inl rfl | exact Or.inr rfl)
    (hf : X.fn x = true ∨ X.env.scope.names.lookup x = some .local := by first | exact .inl rfl | exact .inr rfl | assumption) : ST X R (gvName R i) (.Name x pos) := ⟨_, pg_name hN hi hx hf, tg_name⟩
def gvNil : EvGs := fun ds os => match ds with
  | [] => some os
  | _ => none
def gvCons (a : EvG) (b : EvGs) : EvGs := fun ds os => match ds with
  | d :: ds => match a d os with
    | some os1 => b ds os1
    | none => none
  | [] => none
theorem sgs_nil : STs X R gvNil [] := ⟨_, pgs_nil, fun σ G H os f vs ds os' Q hl I hd e k => by
  unfold gvNil at e
  split at e
  · cases e
    cases hd
    exact ⟨rfl, k σ H ⟨G, f, I, Stp.refl _ _ _, hl, fun _ _ => rfl⟩⟩
  · cases e⟩
theorem sgs_cons {t : Expr} {ts : List Expr} {a : EvG} {b : EvGs} (h : ST X R a t) (g : STs X R b ts) (ha : (assignEach (t :: ts) X.env).map (·.2) = assign t X.env :: (assignEach ts X.env).map (·.2) := by rfl) : STs X R (gvCons a b) (t :: ts) := by
  obtain ⟨g1, p, q⟩ := h
  obtain ⟨g2, p', q'⟩ := g
  refine ⟨_, pgs_cons p p' ha, fun σ G H os f vs ds os' Q hl I hd e k => ?_⟩
  unfold gvCons at e
  split at e
  · rename_i d ds'
    split at e
    · rename_i os1 e1
      cases hd with
      | cons a r =>
        refine ⟨_, _, rfl, q σ G H os f _ d os1 _ hl I a e1 fun σ1 H1 k1 => ?_⟩
        obtain ⟨G1, f1, I1, s1, l1, r1⟩ := k1
        exact q' σ1 G1 H1 os1 f1 _ _ os' Q l1 I1 (dps_sub s1.gsub r) e fun σ2 H2 k2 => k σ2 H2 (k2.step s1 r1)
    · cases e
  · cases e
def gvTup (n : Nat) (b : EvGs) : EvG := fun d os => match d with
  | .tuple ds => if ds.length = n then b ds os else none
  | _ => none
theorem sg_tup {es : List Expr} {kk : Nat} {pos : Pos} {n : Nat} {b : EvGs} (hc : X.calm = true) (h : STs X R b es) (hn : (assignEach es X.env).length = n := by rfl) (hst : (assignEach es X.env).findIdx? (·.1) = none := by rfl) : ST X R (gvTup n b) (.Tuple es kk pos) := by
  obtain ⟨g, p, q⟩ := h
  refine ⟨_, pg_tup hc p hn hst, fun σ G H os f v d os' Q hl I hd e k => ?_⟩
  unfold gvTup at e
  split at e
  · split at e
    · rename_i ds c
      cases hd with
      | tup r1 r2 => exact ⟨_, _, rfl, sqT_sub I.sub r1, by rw [dps_len r2]; exact c, q σ G H os f _ ds os' Q hl I r2 e k⟩
    · cases e
  · cases e
/-- xs[e] = d, xs a list that slot p owns -/
def gvSub (p : Nat) (ei : EvE) : EvG := fun d os => match os[p]? with
  | some (some (.lst _)) => match ei os with
    | some (r, os1) => match r.rd os1, os1[p]? with
      | some (.int i), some (some (.lst xs)) => match ixN xs.length i with
        | some j => some (os1.set p (some (.lst (xs.set j (.sh d)))))
        | none => none
      | _, _ => none
    | none => none
  | _ => none
theorem ROs.set {G H : Hp} {v : V} {d : PyData} (hv : Dx K G v d) : ∀ {vs : List V} {xs : List OD} {f : FP} (j : Nat), ROs K G H vs xs f → ∃ g, ROs K G H (vs.set j v) (xs.set j (.sh d)) g ∧ ∀ a, g a ≤ f a
  | _, _, _, j, .nil => ⟨_, .nil, fun _ => Nat.le_refl _⟩
  | _, _, _, 0, .cons (f := f) (g := g) _ r => ⟨_, .cons (.sh hv) r, fun a => by (try dsimp only); omega⟩
  | _, _, _, j + 1, .cons (f := f) (g := g) q r => by
    obtain ⟨k, k1, k2⟩ := ROs.set hv j r
    exact ⟨_, .cons q k1, fun a => by have := k2 a; (try dsimp only); omega⟩
theorem sg_sub (p : Nat) {x : Str} {ie : Expr} {ei : EvE} {px pos : Pos} (h : SE X ei ie) (hN : X.N[p]? = some x := by rfl) (hv : Vis X.env.scope x := by first | exact Or.inl rfl | exact Or.inr (Or.inl rfl) | exact Or.inr (Or.inr rfl))
    (hd : (x == ("__debug__" : Str)) = false := by decide) (hcd : (x == ("__classdict__" : Str)) = false := by decide)
    (ha : ∀ v, assign (.Subscript (.Name x px) ie pos) X.env v = (do
      let ov ← holding [v] (eval (.Name x px) X.env)
      let iv ← holding [v, ov] (eval ie X.env)
      standAt pos
      holding [v, ov, iv] (setItem ov iv v)
      release [v, ov, iv] []) := by intro _; rfl) : ST X R (gvSub p ei) (.Subscript (.Name x px) ie pos) := by
  obtain ⟨te, q1, q2⟩ := h
  refine ⟨_, pg_sub (pe_var hN hv hd hcd) q1 set_list ha, fun σ G H os f v d os' Q hl I hd e k => ?_⟩
  unfold gvSub at e
  split at e
  · rename_i ys e0
    obtain ⟨v0, _, _, w1, w2, _⟩ := I.sl.at e0
    have w3 : ∃ p vs, v0 = .ref p ∧ H p = some (.lst vs) := by
      cases w2 with
      | lst hp _ => exact ⟨_, _, rfl, hp⟩
    obtain ⟨p0, vs0, rfl, hp0⟩ := w3
    split at e
    · rename_i r os1 e1
      split at e
      · rename_i i xs e2 e3
        split at e
        · rename_i j e4
          cases e
          refine ⟨.ref p0, w1, ?_⟩
          refine q2 σ [] G H os [] f r os1 _ hl rfl (by simpa using I) e1 fun w H1 k1 => ?_
          have hw := k1.read1 rfl e2
          cases hw
          obtain ⟨G1, f1, I1, s1, l1⟩ := k1.drop rfl
          have I1 : SI X.K G1 H1 σ os1 f1 := by simpa using I1
          obtain ⟨p, vs, g0, fr, m1, m2, m3, m4, m5⟩ := SL.mut I1.sl I1.sub I1.one I1.hid e3
          rw [w1] at m1; cases m1
          obtain ⟨g', n1, n2⟩ := ROs.set (dp_sub s1.gsub hd) j m3
          obtain ⟨f', o1, o2, o3⟩ := m5 _ _ g' n1 fun a => by rw [m4]; have := n2 a; omega
          refine ⟨p0, vs, i, j, rfl, rfl, m2, by rw [m3.len]; exact e4, ?_⟩
          exact k σ _ ⟨G1, f', o1, s1.trans o3, by simp [l1], fun _ _ => rfl⟩
        · cases e
      · cases e
    · cases e
  · cases e

/-! ### target = value, the value shared from there on -/
def sAsgG (tv : EvG) (ev : EvE) : EvS := fun os => match ev os with
  | some (r, os1) => match rdAll os1 [r] with
    | some [d] => match tv d (hardAll os1 [r]) with
      | some os2 => some (.nx os2)
      | none => none
    | _ => none
  | none => none
theorem sr_asgG {tv : EvG} {ev : EvE} {te : TE} {g : TG} (h : ER K ev te) (hg : TGd K R tv g) : SR K R (sAsgG tv ev) (tAsg te g) := fun σ G H os f res D hl I e k => by
  unfold sAsgG at e
  split at e
  · rename_i r os1 e1
    split at e
    · rename_i d e2
      split at e
      · rename_i os2 e3
        cases e
        refine h σ [] G H os [] f r os1 _ hl rfl (by simpa using I) e1 fun v H1 k1 => ?_
        obtain ⟨G1, f1, I1, s1, a1, l1⟩ := k1
        obtain ⟨G2, f2, I2, s2, hd⟩ := I1.popC l1 rfl a1 e2
        obtain ⟨w, ew, hw⟩ := dps1 hd
        cases ew
        exact hg σ G2 H1 _ f2 v d os2 D.nx (by rw [len_hardAll]; exact l1) (by simpa using I2) hw e3 fun σ' H' k2 => k σ' H' (k2.step (s1.trans s2) fun _ _ => rfl)
      · cases e
    · cases e
  · cases e
theorem ss_asgG {t e : Expr} {tv : EvG} {ev : EvE} {pos : Pos} (hg : ST X R tv t) (h : SE X ev e) (hs : swapsWithSole [t] e pos.line X.env = pure false := by rfl) (hw : swappedStores [t] e X.env = pure none := by rfl)
    (h1 : (assignEach [t] X.env).map (·.2) = [assign t X.env] := by rfl) : SS X R (sAsgG tv ev) (.Assign [t] e pos) := by
  obtain ⟨te, p, q⟩ := h
  obtain ⟨g, p', q'⟩ := hg
  exact ⟨_, ps_asg p p' hs hw h1, sr_asgG q q'⟩
end
end DX
/-! DXLoop: loops. -/
namespace DX
open PySem PySem.Spec PyProof.Rows L2

/-- the heap has grown -/
structure Nw (G H G' H' : Hp) : Prop where
  gs : Sub G G'
  hs : Sub H H'
  sub : Sub G' H'
  gn : ∀ a, G' a ≠ none → G a ≠ none ∨ H a = none
section
variable {K : PySem.W.Frag} {X : Cx} {R : List Nat}
theorem Nw.refl {G H : Hp} (s : Sub G H) : Nw G H G H := ⟨Sub.refl _, Sub.refl _, s, fun _ h => .inl h⟩
theorem ne_of_sub {H H' : Hp} (s : Sub H H') {a : Addr} (h : H a ≠ none) : H' a ≠ none := by
  cases e : H a with
  | none => exact absurd e h
  | some u => rw [s a u e]; simp
theorem SI.nw {G H G' H' : Hp} {vs : List (Option V)} {os : En} {f : FP} (I : SI K G H vs os f) (n : Nw G H G' H') : SI K G' H' vs os f ∧ Stp G H f G' H' f := by
  refine ⟨⟨I.sl.mono n.gs fun a u _ e => n.hs a u e, n.sub, I.one, fun a q => ?_⟩, ⟨n.gs, fun a o e _ => n.hs a o e, fun a e => ne_of_sub n.hs e, fun a e => ?_, fun a e => .inl e⟩⟩
  · cases e : G' a with
    | none => rfl
    | some u =>
      rcases n.gn a (by rw [e]; simp) with z | z
      · exact absurd (I.hid a q) z
      · exact absurd z (I.live a q)
  · rcases n.gn a e with z | z
    · exact .inl z
    · exact .inr (.inl z)

/-- an iterator over ds -/
def ItOk (K : PySem.W.Frag) (G : Hp) (J : It) (ds : List PyData) : Prop := ∀ (i : Nat) (G2 H2 : Hp), Sub G G2 → Sub G2 H2 →
  (i < ds.length → J.go i H2) ∧ (ds.length ≤ i → J.stop i H2) ∧ ∀ x H3 d, ds[i]? = some d → J.yld i H2 x H3 → ∃ G3, Nw G2 H2 G3 H3 ∧ Dx K G3 x d
abbrev EvI := En → Option (List PyData × En)
def IR (K : PySem.W.Frag) (ev : EvI) (wi : TI) : Prop := ∀ (σ τ : List (Option V)) (G H : Hp) (os θ : En) (f : FP) (ds : List PyData) (os' : En) (Q : It → Hp → Prop),
  σ.length = os.length → τ.length = θ.length → SI K G H (σ ++ τ) (os ++ θ) f → ev os = some (ds, os') →
  (∀ J H' G' f', SI K G' H' (σ ++ τ) (os' ++ θ) f' → Stp G H f G' H' f' → σ.length = os'.length → ItOk K G' J ds → Q J H') → wi σ H Q
def SI' (X : Cx) (tg : Expr) (ev : EvI) (it : Expr) : Prop := ∃ wi, PI X tg it wi ∧ IR X.K ev wi
theorem pi_or {tg it : Expr} {w1 w2 : TI} (h : PI X tg it w1) (g : PI X tg it w2) : PI X tg it (fun σ H R => w1 σ H R ∨ w2 σ H R) :=
  ⟨fun pins s σ H R I q => q.elim (h.run pins s σ H R I) (g.run pins s σ H R I)⟩
def signs (x : Str) : List PyData := x.cps.toList.map fun c => PyData.str ⟨#[c]⟩
def itemsD : PyData → Option (List PyData)
  | .list ds => some ds
  | .tuple ds => some ds
  | .str x => some (signs x)
  | _ => none
def iSq (ev : EvE) : EvI := fun os => match ev os with
  | some (r, os1) => match rdAll os1 [r] with
    | some [d] => match itemsD d with
      | some ds => some (ds, hardAll os1 [r])
      | none => none
    | _ => none
  | none => none
theorem ir_sq {ev : EvE} {te : TE} (h : ER K ev te) : IR K (iSq ev) (fun σ H Q => iList K te σ H Q ∨ iTup K te σ H Q ∨ iStr te σ H Q) := fun σ τ G H os θ f ds os' Q hl ht I e k => by
  unfold iSq at e
  split at e
  · rename_i r os1 e1
    split at e
    · rename_i d e2
      split at e
      · rename_i ds' e3
        cases e
        have core : ∀ v H1, Kont K σ τ G H f os1 θ [v] [r] H1 → ∃ G2 f2, SI K G2 H1 (σ ++ τ) (hardAll os1 [r] ++ θ) f2 ∧ Stp G H f G2 H1 f2 ∧ σ.length = (hardAll os1 [r]).length ∧ Dx K G2 v d := fun v H1 k1 => by
          obtain ⟨G1, f1, I1, s1, a1, l1⟩ := k1
          obtain ⟨G2, f2, I2, s2, hd⟩ := I1.popC l1 ht a1 e2
          obtain ⟨w, ew, hw⟩ := dps1 hd
          cases ew
          exact ⟨G2, f2, I2, s1.trans s2, by rw [len_hardAll]; exact l1, hw⟩
        cases d with
        | list xs =>
          cases e3
          refine .inl (h σ τ G H os θ f r os1 _ hl ht I e1 fun v H1 k1 => ?_)
          obtain ⟨G2, f2, I2, s2, l2, hd⟩ := core v H1 k1
          cases hd with
          | lst q qs =>
            rename_i a vs
            refine ⟨a, rfl, ⟨vs, sqL_sub I2.sub q⟩, k _ H1 G2 f2 I2 s2 l2 fun i G3 H3 g1 g2 => ⟨fun hi => ?_, fun hi => ?_, fun x H4 d hd y => ?_⟩⟩
            · obtain ⟨v, e5, _⟩ := dps_get qs (List.getElem?_eq_getElem hi)
              exact ⟨vs, v, sqL_sub (g1.trans g2) q, e5⟩
            · exact ⟨vs, sqL_sub (g1.trans g2) q, by rw [dps_len qs]; exact hi⟩
            · obtain ⟨rfl, y⟩ := y
              have z := y vs (sqL_sub (g1.trans g2) q)
              obtain ⟨v, e5, e6⟩ := dps_get qs hd
              rw [z] at e5; cases e5
              exact ⟨G3, Nw.refl g2, dp_sub g1 e6⟩
        | tuple xs =>
          cases e3
          refine .inr (.inl (h σ τ G H os θ f r os1 _ hl ht I e1 fun v H1 k1 => ?_))
          obtain ⟨G2, f2, I2, s2, l2, hd⟩ := core v H1 k1
          cases hd with
          | tup q qs =>
            rename_i a vs
            refine ⟨a, rfl, ⟨vs, sqT_sub I2.sub q⟩, k _ H1 G2 f2 I2 s2 l2 fun i G3 H3 g1 g2 => ⟨fun hi => ?_, fun hi => ?_, fun x H4 d hd y => ?_⟩⟩
            · obtain ⟨v, e5, _⟩ := dps_get qs (List.getElem?_eq_getElem hi)
              exact ⟨vs, v, sqT_sub (g1.trans g2) q, e5⟩
            · exact ⟨vs, sqT_sub (g1.trans g2) q, by rw [dps_len qs]; exact hi⟩
            · obtain ⟨rfl, y⟩ := y
              have z := y vs (sqT_sub (g1.trans g2) q)
              obtain ⟨v, e5, e6⟩ := dps_get qs hd
              rw [z] at e5; cases e5
              exact ⟨G3, Nw.refl g2, dp_sub g1 e6⟩
        | str x =>
          cases e3
          refine .inr (.inr (h σ τ G H os θ f r os1 _ hl ht I e1 fun v H1 k1 => ?_))
          obtain ⟨G2, f2, I2, s2, l2, hd⟩ := core v H1 k1
          cases hd
          have hln : (signs x).length = x.cps.size := by unfold signs; rw [List.length_map]; simp
          refine ⟨x, rfl, k _ H1 G2 f2 I2 s2 l2 fun i G3 H3 g1 g2 => ⟨fun hi => ?_, fun hi => ?_, fun y H4 d hd z => ?_⟩⟩
          · show i < x.cps.size
            omega
          · show x.cps.size ≤ i
            omega
          · obtain ⟨rfl, c, z1, rfl⟩ := z
            have : d = .str ⟨#[c]⟩ := by
              unfold signs at hd
              rw [List.getElem?_map, Array.getElem?_toList, z1] at hd
              exact (Option.some.inj hd).symm
            subst this
            exact ⟨G3, Nw.refl g2, .str _ (by show 1 ≤ strMax; decide)⟩
        | none => cases e3
        | bool _ => cases e3
        | int _ => cases e3
        | dict _ => cases e3
      · cases e
    · cases e
  · cases e
theorem si_sq {tg l : Expr} {ev : EvE} (h : SE X ev l) : SI' X tg (iSq ev) l := by
  obtain ⟨te, p, q⟩ := h
  exact ⟨_, pi_or (pi_list p) (pi_or (pi_tup p) (pi_str p)), ir_sq q⟩

/-! ### ranges -/
def rangeD (lo : Int) (n : Nat) : List PyData := (List.range n).map fun i => PyData.int (lo + (i : Nat))
theorem rangeD_len (lo : Int) (n : Nat) : (rangeD lo n).length = n := by unfold rangeD; simp
theorem rangeD_get {lo : Int} {n i : Nat} {d : PyData} (h : (rangeD lo n)[i]? = some d) : d = .int (lo + (i : Nat)) := by
  unfold rangeD at h
  rw [List.getElem?_map] at h
  cases e : (List.range n)[i]? with
  | none => rw [e] at h; cases h
  | some j =>
    rw [e] at h
    have hj := List.getElem?_eq_some_iff.mp e
    obtain ⟨h1, h2⟩ := hj
    rw [List.getElem_range] at h2
    subst h2
    exact (Option.some.inj h).symm
theorem itok_range {G : Hp} {lo : Int} {n : Nat} : ItOk K G (Itr lo n) (rangeD lo n) := fun i G2 H2 g1 g2 => by
  rw [rangeD_len]
  exact ⟨fun h => h, fun h => h, fun x H3 d hd y => by
    obtain ⟨rfl, rfl⟩ := y
    rw [rangeD_get hd]
    exact ⟨G2, Nw.refl g2, .int _⟩⟩
def fit62 (i : Int) : Bool := Nat.blt i.natAbs 4611686018427387904
theorem fit62_lt {i : Int} (h : fit62 i = true) : -(2 ^ 62) ≤ i ∧ i < 2 ^ 62 := by
  have : i.natAbs < 4611686018427387904 := Nat.le_of_ble_eq_true h
  omega
theorem fit62_of {i : Int} (h : i.natAbs < 4611686018427387904) : fit62 i = true := Nat.ble_eq_true_of_le h
def iR1 (ev : EvEs) : EvI := fun os => match ev os with
  | some (rs, os1) => match rdAll os1 rs with
    | some [.int j] => if fit62 j = true then some (rangeD 0 j.toNat, os1) else none
    | _ => none
  | none => none
def iR2 (ev : EvEs) : EvI := fun os => match ev os with
  | some (rs, os1) => match rdAll os1 rs with
    | some [.int i, .int j] => if (fit62 i && fit62 j) = true then some (rangeD i (j - i).toNat, os1) else none
    | _ => none
  | none => none
theorem ir_r1 {ev : EvEs} {ta : TA} (h : ERs K ev ta) : IR K (iR1 ev) (iRng1 ta) := fun σ τ G H os θ f ds os' Q hl ht I e k => by
  unfold iR1 at e
  split at e
  · rename_i rs os1 e1
    split at e
    · rename_i j e2
      split at e
      · rename_i c
        cases e
        refine h σ τ G H os θ f rs _ _ hl ht I e1 fun vs H1 k1 => ?_
        obtain ⟨G1, f1, I1, s1, a1, l1⟩ := k1
        obtain ⟨hd, f2, I2, le⟩ := I1.popA l1 ht a1 e2
        obtain ⟨w, rfl, hw⟩ := dps1 hd
        cases hw
        have c := fit62_lt c
        exact ⟨j, rfl, c.1, c.2, k _ H1 G1 f2 I2 (s1.trans (Stp.less le)) l1 itok_range⟩
      · cases e
    · cases e
  · cases e
theorem ir_r2 {ev : EvEs} {ta : TA} (h : ERs K ev ta) : IR K (iR2 ev) (iRng2 ta) := fun σ τ G H os θ f ds os' Q hl ht I e k => by
  unfold iR2 at e
  split at e
  · rename_i rs os1 e1
    split at e
    · rename_i i j e2
      split at e
      · rename_i c
        cases e
        refine h σ τ G H os θ f rs _ _ hl ht I e1 fun vs H1 k1 => ?_
        obtain ⟨G1, f1, I1, s1, a1, l1⟩ := k1
        obtain ⟨hd, f2, I2, le⟩ := I1.popA l1 ht a1 e2
        obtain ⟨v, w, rfl, hv, hw⟩ := dps2 hd
        cases hv; cases hw
        obtain ⟨c1, c2⟩ := Bool.and_eq_true_iff.mp c
        have c1 := fit62_lt c1
        have c2 := fit62_lt c2
        exact ⟨i, j, rfl, ⟨c1.1, c1.2, c2.1, c2.2⟩, k _ H1 G1 f2 I2 (s1.trans (Stp.less le)) l1 itok_range⟩
      · cases e
    · cases e
  · cases e
theorem si_r1 {tg a : Expr} {ev : EvEs} {p pos : Pos} (hm : X.mg "range" = none) (h : SEs X ev [a]) (hg : Gl X "range" := by rfl) (hs : starEach [a] X.env = [(false, eval a X.env)] := by rfl) : SI' X tg (iR1 ev) (.Call (.Name "range" p) [a] [] pos) := by
  obtain ⟨ta, q1, q2⟩ := h
  exact ⟨_, pi_range1 hg hm q1 hs, ir_r1 q2⟩
theorem si_r2 {tg a b : Expr} {ev : EvEs} {p pos : Pos} (hm : X.mg "range" = none) (h : SEs X ev [a, b]) (hg : Gl X "range" := by rfl) (hs : starEach [a, b] X.env = [(false, eval a X.env), (false, eval b X.env)] := by rfl) (hs2 : starEach [b] X.env = [(false, eval b X.env)] := by rfl) : SI' X tg (iR2 ev) (.Call (.Name "range" p) [a, b] [] pos) := by
  obtain ⟨ta, q1, q2⟩ := h
  exact ⟨_, pi_range2 hg hm q1 hs hs2, ir_r2 q2⟩

/-! ### enumerate of a list, zip of two -/
/-- a new pair -/
theorem nw_pair {G H : Hp} {x y : V} {d e : PyData} (s : Sub G H) (hx : Dx K G x d) (hy : Dx K G y e) {T : Addr} (hT : H T = none) : ∃ G3, Nw G H G3 (upd H T (.tup [x, y])) ∧ Dx K G3 (.ref T) (.tuple [d, e]) := by
  have gT : G T = none := by
    cases q : G T with
    | none => rfl
    | some u => have := s T u q; rw [hT] at this; cases this
  refine ⟨upd G T (.tup [x, y]), ⟨sub_upd (Sub.refl _) gT, sub_upd (Sub.refl _) hT, sub_upd2 s, fun a h => ?_⟩, .tup (SqT.of upd_same) (.cons (dp_sub (sub_upd (Sub.refl _) gT) hx) (.cons (dp_sub (sub_upd (Sub.refl _) gT) hy) .nil))⟩
  by_cases z : a = T
  · subst z; exact .inr hT
  · rw [upd_ne z] at h; exact .inl h
def enumD (n : Nat) : List PyData → List PyData
  | [] => []
  | d :: ds => .tuple [.int (n : Nat), d] :: enumD (n + 1) ds
theorem enumD_len : ∀ (ds : List PyData) (n : Nat), (enumD n ds).length = ds.length
  | [], _ => rfl
  | _ :: ds, n => by show (enumD (n + 1) ds).length + 1 = _; rw [enumD_len ds]; rfl
theorem enumD_get : ∀ {ds : List PyData} {n i : Nat} {e : PyData}, (enumD n ds)[i]? = some e → ∃ d, ds[i]? = some d ∧ e = .tuple [.int ((n + i : Nat) : Int), d]
  | [], _, _, _, h => by simp [enumD] at h
  | d :: ds, n, 0, e, h => by simp [enumD] at h; exact ⟨d, rfl, h.symm⟩
  | d :: ds, n, i + 1, e, h => by
    obtain ⟨d', h1, h2⟩ := enumD_get (ds := ds) (n := n + 1) (i := i) (by simpa [enumD] using h)
    exact ⟨d', by simpa using h1, by rw [h2, show n + 1 + i = n + (i + 1) by omega]⟩
def iEn (ev : EvEs) : EvI := fun os => match ev os with
  | some (rs, os1) => match rdAll os1 rs with
    | some [.list ds] => some (enumD 0 ds, hardAll os1 rs)
    | _ => none
  | none => none
theorem ir_en {ev : EvEs} {ta : TA} (h : ERs K ev ta) : IR K (iEn ev) (iEnum K ta) := fun σ τ G H os θ f ds os' Q hl ht I e k => by
  unfold iEn at e
  split at e
  · rename_i rs os1 e1
    split at e
    · rename_i xs e2
      cases e
      refine h σ τ G H os θ f rs _ _ hl ht I e1 fun vs H1 k1 => ?_
      obtain ⟨G1, f1, I1, s1, a1, l1⟩ := k1
      obtain ⟨G2, f2, I2, s2, hd⟩ := I1.popC l1 ht a1 e2
      obtain ⟨w, rfl, hw⟩ := dps1 hd
      cases hw with
      | lst q qs =>
        rename_i a us
        refine ⟨a, us, rfl, sqL_sub I2.sub q, k _ H1 G2 f2 I2 (s1.trans s2) (by rw [len_hardAll]; exact l1) fun i G3 H3 g1 g2 => ⟨fun hi => ?_, fun hi => ?_, fun x H4 d hd y => ?_⟩⟩
        · rw [enumD_len] at hi
          obtain ⟨v, e5, _⟩ := dps_get qs (List.getElem?_eq_getElem hi)
          exact ⟨us, v, sqL_sub (g1.trans g2) q, e5⟩
        · rw [enumD_len] at hi
          exact ⟨us, sqL_sub (g1.trans g2) q, by rw [dps_len qs]; exact hi⟩
        · obtain ⟨T, z, rfl, hT, rfl, y⟩ := y
          have y := y us (sqL_sub (g1.trans g2) q)
          obtain ⟨d', h1, h2⟩ := enumD_get hd
          obtain ⟨v, e5, e6⟩ := dps_get qs h1
          rw [y] at e5; cases e5
          subst h2
          have := nw_pair (K := K) g2 (.int ((i : Nat) : Int)) (dp_sub g1 e6) hT
          simpa using this
    · cases e
  · cases e
theorem si_en {a : Expr} {ev : EvEs} {p pos tpos : Pos} {elts : List Expr} {kk : Nat} (hm : X.mg "enumerate" = none) (h : SEs X ev [a]) (hg : Gl X "enumerate" := by rfl) (hs : starEach [a] X.env = [(false, eval a X.env)] := by rfl) : SI' X (.Tuple elts kk tpos) (iEn ev) (.Call (.Name "enumerate" p) [a] [] pos) := by
  obtain ⟨ta, q1, q2⟩ := h
  exact ⟨_, pi_enum hg hm q1 hs, ir_en q2⟩

/-! ### for -/
def forF (tv : EvG) (b : EvS) : List PyData → En → Option Res
  | [], os => some (.nx os)
  | d :: ds, os => match tv d os with
    | some os1 => match b os1 with
      | some (.nx os2) => forF tv b ds os2
      | some (.ct os2) => forF tv b ds os2
      | some (.bk os2) => some (.nx os2)
      | some (.rt o os2) => some (.rt o os2)
      | none => none
    | none => none
def sFor (it : EvI) (tv : EvG) (b : EvS) : EvS := fun os => match it os with
  | some (ds, os1) => forF tv b ds os1
  | none => none
theorem sr_for {it : EvI} {tv : EvG} {b : EvS} {wi : TI} {g : TG} {tb : TS} (hi : IR K it wi) (hg : TGd K R tv g) (hb : SR K R b tb) : SR K R (sFor it tv b) (tFor wi g tb) := fun σ G H os f res D hl I e k => by
  unfold sFor at e
  split at e
  · rename_i ds os1 e1
    refine hi σ [] G H os [] f ds os1 _ hl rfl (by simpa using I) e1 fun J H1 G1 f1 I1 s1 l1 it => ?_
    have I1 : SI K G1 H1 σ os1 f1 := by simpa using I1
    have k : Post K R σ G1 H1 f1 D res := k.step s1 fun _ _ => rfl
    refine ⟨fun i m σ' H' => m = ds.length - i ∧ i ≤ ds.length ∧ ∃ os2, KontS K R σ G1 H1 f1 os2 σ' H' ∧ forF tv b (ds.drop i) os2 = some res,
      ⟨ds.length, by simp, Nat.zero_le _, os1, ⟨G1, f1, I1, Stp.refl _ _ _, l1, fun _ _ => rfl⟩, by simpa using e⟩, fun i m σ' H' hW => ?_⟩
    obtain ⟨rfl, hle, os2, ⟨G2, f2, I2, s2, l2, r2⟩, e2⟩ := hW
    obtain ⟨j1, j2, j3⟩ := it i G2 H' s2.gsub I2.sub
    by_cases hlt : i < ds.length
    · refine .inr ⟨j1 hlt, fun σ3 H3 => ∃ os3, KontS K R σ G1 H1 f1 os3 σ3 H3 ∧ forF tv b (ds.drop (i + 1)) os3 = some res, fun σ3 H3 ⟨os3, k3, e3⟩ => ⟨ds.length - (i + 1), by omega, rfl, hlt, os3, k3, e3⟩, fun x H3 y => ?_⟩
      have hd : ds[i]? = some ds[i] := List.getElem?_eq_getElem hlt
      obtain ⟨G3, n3, hx⟩ := j3 x H3 _ hd y
      obtain ⟨I3, s3⟩ := I2.nw n3
      rw [List.drop_eq_getElem_cons hlt] at e2
      unfold forF at e2
      split at e2
      · rename_i os3 e3
        refine hg σ' G3 H3 os2 f2 x ds[i] os3 _ l2 I3 hx e3 fun σ4 H4 k4 => ?_
        obtain ⟨G4, f4, I4, s4, l4, r4⟩ := k4
        have st : Stp G1 H1 f1 G4 H4 f4 := (s2.trans s3).trans s4
        have rr : ∀ j ∈ R, σ4[j]? = σ[j]? := fun j hj => (r4 j hj).trans (r2 j hj)
        split at e2
        · rename_i os4 e4
          exact hb σ4 G4 H4 os3 f4 _ _ l4 I4 e4 fun σ5 H5 k5 => ⟨os4, k5.step st rr, e2⟩
        · rename_i os4 e4
          exact hb σ4 G4 H4 os3 f4 _ _ l4 I4 e4 fun σ5 H5 k5 => ⟨os4, k5.step st rr, e2⟩
        · rename_i os4 e4
          cases e2
          exact hb σ4 G4 H4 os3 f4 _ _ l4 I4 e4 fun σ5 H5 k5 => k σ5 H5 (k5.step st rr)
        · rename_i o os4 e4
          cases e2
          exact hb σ4 G4 H4 os3 f4 _ _ l4 I4 e4 fun v H5 k5 => k v H5 (k5.step st rr)
        · cases e2
      · cases e2
    · have ei : i = ds.length := by omega
      subst ei
      rw [List.drop_length] at e2
      cases e2
      exact .inl ⟨j2 (Nat.le_refl _), k σ' H' ⟨G2, f2, I2, s2, l2, r2⟩⟩
  · cases e
theorem ss_for {tg it : Expr} {body : List Stmt} {ei : EvI} {tv : EvG} {b : EvS} {pos : Pos} (hc : X.calm = true) (hp : PassesOwn (model X.prog X.w) X.A X.env X.xe) (hi : SI' X tg ei it) (hg : ST X R tv tg) (hb : SSs X R b body)
    (hs : ∀ x, foldedSetIterable it X.env x = pure x := by intro _; rfl) : SS X R (sFor ei tv b) (.For tg it body [] pos) := by
  obtain ⟨wi, p1, q1⟩ := hi
  obtain ⟨g, p2, q2⟩ := hg
  obtain ⟨tb, p3, q3⟩ := hb
  exact ⟨_, ps_for hp hc p1 p2 p3 hs, sr_for q1 q2 q3⟩

/-! ### while: n turns at most -/
def whF (t : EvT) (b : EvS) : Nat → En → Option Res
  | 0, _ => none
  | n + 1, os => match t os with
    | some (true, os1) => match b os1 with
      | some (.nx os2) => whF t b n os2
      | some (.ct os2) => whF t b n os2
      | some (.bk os2) => some (.nx os2)
      | some (.rt o os2) => some (.rt o os2)
      | none => none
    | some (false, os1) => some (.nx os1)
    | none => none
theorem sr_while {t : EvT} {b : EvS} {tt : TT} {tb : TS} {n : Nat} (ht : TR K t tt) (hb : SR K R b tb) : SR K R (whF t b n) (tWhile tt tb) := fun σ G H os f res D hl I e k => by
  refine ⟨fun m σ' H' => ∃ os2, KontS K R σ G H f os2 σ' H' ∧ whF t b m os2 = some res, ⟨n, os, ⟨G, f, I, Stp.refl _ _ _, hl, fun _ _ => rfl⟩, e⟩, fun m σ' H' hW => ?_⟩
  obtain ⟨os2, ⟨G2, f2, I2, s2, l2, r2⟩, e2⟩ := hW
  cases m with
  | zero => cases e2
  | succ m =>
    unfold whF at e2
    split at e2
    · rename_i os3 e3
      refine ht σ' [] G2 H' os2 [] f2 true os3 _ l2 rfl (by simpa using I2) e3 fun H3 k3 => ?_
      obtain ⟨G3, f3, I3, s3, l3⟩ := k3
      rw [if_pos rfl]
      have st : Stp G H f G3 H3 f3 := s2.trans s3
      refine ⟨fun σ4 H4 => ∃ os4, KontS K R σ G H f os4 σ4 H4 ∧ whF t b m os4 = some res, fun σ4 H4 ⟨os4, k4, e4⟩ => ⟨m, Nat.lt_succ_self _, os4, k4, e4⟩, ?_⟩
      split at e2
      · rename_i os4 e4
        exact hb σ' G3 H3 os3 f3 _ _ l3 (by simpa using I3) e4 fun σ5 H5 k5 => ⟨os4, k5.step st r2, e2⟩
      · rename_i os4 e4
        exact hb σ' G3 H3 os3 f3 _ _ l3 (by simpa using I3) e4 fun σ5 H5 k5 => ⟨os4, k5.step st r2, e2⟩
      · rename_i os4 e4
        cases e2
        exact hb σ' G3 H3 os3 f3 _ _ l3 (by simpa using I3) e4 fun σ5 H5 k5 => k σ5 H5 (k5.step st r2)
      · rename_i o os4 e4
        cases e2
        exact hb σ' G3 H3 os3 f3 _ _ l3 (by simpa using I3) e4 fun v H5 k5 => k v H5 (k5.step st r2)
      · cases e2
    · rename_i os3 e3
      cases e2
      refine ht σ' [] G2 H' os2 [] f2 false os3 _ l2 rfl (by simpa using I2) e3 fun H3 k3 => ?_
      obtain ⟨G3, f3, I3, s3, l3⟩ := k3
      rw [if_neg Bool.false_ne_true]
      exact k σ' H3 ⟨G3, f3, by simpa using I3, s2.trans s3, l3, r2⟩
    · cases e2
theorem ss_while {c : Expr} {body : List Stmt} {t : EvT} {b : EvS} {pos : Pos} (n : Nat) (hp : PassesOwn (model X.prog X.w) X.A X.env X.xe) (ht : STt X t c) (hb : SSs X R b body) : SS X R (whF t b n) (.While c body [] pos) := by
  obtain ⟨tt, p1, q1⟩ := ht
  obtain ⟨tb, p2, q2⟩ := hb
  exact ⟨_, ps_while hp p1 p2, sr_while q1 q2⟩

/-! ### name op= value, of scalars -/
def sAug (R : List Nat) (i : Nat) (fn : List PyData → Option Op) (ev : EvE) : EvS := fun os => match os[i]? with
  | some (some (.sh d0)) => if isSc d0 = true ∧ i ∉ R then match ev os with
    | some (r, os1) => match r.rd os1 with
      | some d => match fn [d0, d] with
        | some (.val z) => if isSc z = true then some (.nx (os1.set i (some (.sh z)))) else none
        | _ => none
      | none => none
    | none => none else none
  | _ => none
theorem sr_aug {i : Nat} {fn : List PyData → Option Op} {ev : EvE} {te : TE} {ti : TIp} (h : ER K ev te) (ok : OpOk K (r2 ti) fn) : SR K R (sAug R i fn ev) (tAug i te ti) := fun σ G H os f res D hl I e k => by
  unfold sAug at e
  split at e
  · rename_i d0 e0
    split at e
    · rename_i c
      split at e
      · rename_i r os1 e1
        split at e
        · rename_i d e2
          split at e
          · rename_i z e3
            split at e
            · rename_i cz
              cases e
              obtain ⟨v0, _, _, w1, w2, _⟩ := I.sl.at e0
              refine ⟨v0, w1, ?_⟩
              refine h σ [] G H os [] f r os1 _ hl rfl (by simpa using I) e1 fun v H1 k1 => ?_
              have hv := k1.read1 rfl e2
              obtain ⟨G1, f1, I1, s1, l1⟩ := k1.drop rfl
              have I1 : SI K G1 H1 σ os1 f1 := by simpa using I1
              have h0 : Dx K H1 v0 d0 := by
                cases w2 with
                | sh q => exact dp_sc q c.1
              refine ok.sc [d0, d] z H1 [v0, v] _ e3 cz (.cons h0 (.cons hv .nil)) fun w hw => ?_
              have hil : i < os1.length := by
                have := lt_of_get e0; omega
              obtain ⟨f2, I2, le⟩ := (I1.push (dp_sc hw cz)).store l1 hil
              exact k _ H1 ⟨G1, f2, I2, s1.trans (Stp.less le), by simp [l1], fun j hj => by rw [List.getElem?_set_ne (fun y => by subst y; exact c.2 hj)]⟩
            · cases e
          · cases e
        · cases e
      · cases e
    · cases e
  · cases e
theorem ok_ipI {g : Int → Int → Int} : OpOk K (r2 (ipI g)) (opII (fun _ _ => true) fun i j => .int (g i j)) := ok_ii0 (fun _ _ => rfl) fun _ _ _ => .int _
theorem ss_aug {op : Operator} {ti : TIp} {fn : List PyData → Option Op} (ho : PIp X op ti) (ok : OpOk X.K (r2 ti) fn) (i : Nat) {x : Str} {e : Expr} {ev : EvE} {pos' pos : Pos} (hN : X.N.Nodup) (h : SE X ev e) (hi : X.N[i]? = some x := by rfl) (hx : Loc X.env.scope x := by first | exact Or.inl rfl | exact Or.inr rfl)
    (hf : X.fn x = true ∨ X.env.scope.names.lookup x = some .local := by first | exact .inl rfl | exact .inr rfl | assumption) : SS X R (sAug R i fn ev) (.AugAssign (.Name x pos') op e pos) := by
  obtain ⟨te, p, q⟩ := h
  exact ⟨_, ps_aug hN hi hx p ho hf, sr_aug q ok⟩
theorem ss_augAdd (i : Nat) {x : Str} {e : Expr} {ev : EvE} {pos' pos : Pos} (hN : X.N.Nodup) (h : SE X ev e) (hi : X.N[i]? = some x := by rfl) (hx : Loc X.env.scope x := by first | exact Or.inl rfl | exact Or.inr rfl)
    (hf : X.fn x = true ∨ X.env.scope.names.lookup x = some .local := by first | exact .inl rfl | exact .inr rfl | assumption) : SS X R (sAug R i (opII (fun _ _ => true) fun i j => .int (i + j)) ev) (.AugAssign (.Name x pos') .Add e pos) := ss_aug ip_add ok_ipI i hN h hi hx hf
end
end DX
/-! DXCall: defs and their calls. -/
namespace DX
open PySem PySem.Spec PyProof.Rows L2

/-! ### a def that is called where no guard stands -/
structure FnG (P : Program) (w : World) (K : PySem.W.Frag) (mg : Str → Option Value) (base : Heap) (k : Nat) (f : Addr) (fd : FuncData) (ps : List Str) (sp : Sp) : Prop where
  len : ∀ vs H Q E, sp vs H Q E → vs.length = ps.length
  run : ∀ (A : Around) (outer : List Env) (s : Shared) (H : Hp) (args : Args) (us : List Value) (vs : List V) (Q : VK), A.guards = some [] → Room k A → Env0 P w K mg base A outer s H →
    BindsTo s fd args (ps.zip us) → Vals vs us → sp vs H Q E0 → codeAny (model P w) A (.call (.ref f) args) (CR CX0 outer P w H s Q E0) s
theorem FnG.mono {P : Program} {w : World} {K : PySem.W.Frag} {mg : Str → Option Value} {base : Heap} {j k : Nat} {f : Addr} {fd : FuncData} {ps : List Str} {sp : Sp} (F : FnG P w K mg base j f fd ps sp) (h : j ≤ k) : FnG P w K mg base k f fd ps sp :=
  ⟨F.len, fun A outer s H args us vs Q hg hr => F.run A outer s H args us vs Q hg (hr.mono h)⟩
section
variable {P : Program} {w : World} {K : PySem.W.Frag} {mg : Str → Option Value} {base : Heap}
theorem guards_deeper {A : Around} {e : Env} (h : A.guards = some []) : (A.deeper e).guards = some [] := by
  first
    | exact h
    | simpa [Around.deeper] using h
theorem Fun.okG {x qual : Str} {st : Stmt} {f : Addr} {fd : FuncData} {N ps : List Str} {k : Nat} {sp : Sp} (F : Fun K x qual st f fd) (S : FnScope N ps (defScope st)) (len : ∀ vs H Q E, sp vs H Q E → vs.length = ps.length)
    (hbody : ∀ (cdv : Value) (A : Around) (outer : List Env) (s : Shared) (H : Hp) (vs : List V) (Q : VK), (A.deeper (envOfC qual (defScope st) s.heap.objs.size f cdv)).guards = some [] →
      Room k (A.deeper (envOfC qual (defScope st) s.heap.objs.size f cdv)) → sp vs H Q E0 →
      ∃ t, PSs (cxOf CX0 P w K mg base N qual (defScope st) f cdv A outer s H E0).nox (defBody st) t ∧ t { nx := fun _ H' => Q .non H', rt := Q } (start N vs) H) : FnG P w K mg base (k + 1) f fd ps sp := by
  obtain ⟨oc, od, kV, doc, pm, an, cdv, ct, osl, rfl, lk, hcd⟩ := F.ex
  refine ⟨len, fun A outer s H args us vs Q hg hr e0 hb rv hsp => ?_⟩
  have KX : K.In s.heap := e0.mod.kin.keeps (fun b o e => (e0.bs b o e).1)
  have nl : s.heap.NoLimit := e0.mod.nolimit.keeps (fun b o e => (e0.bs b o e).1)
  have par : ∀ y ∈ ps.zip us, (defScope st).names.lookup y.1 = some .local ∨ ((defScope st).names.lookup y.1 = some .cell ∧ ((cellsFrom (s.heap.objs.size + 1) (defScope st).names []).lookup y.1).isSome = true) := by
    rintro ⟨n, v⟩ hy
    cases S.par n (List.of_mem_zip hy).1 with
    | inl q => exact Or.inl q
    | inr q => exact Or.inr ⟨q, PySem.W.cellsFrom_some _ _ _ (Or.inl q)⟩
  refine codeAny_call_function hr.depth (KX _ _ lk) rfl S.co S.gen rfl (PySem.W.codeRec_of KX hcd) (hb _ _ _ _ ?_)
  refine wpAny_newFunctionEnv_cells S.kind par (fun env he s1 x => ?_)
  cases he
  refine ⟨nl.keeps x.toInCall.keep, codeAny_func ?_⟩
  obtain ⟨t, ht, hq⟩ := hbody cdv A outer s H vs Q (guards_deeper hg) (hr.deeper _) hsp
  have J : Inv (cxOf CX0 P w K mg base N qual (defScope st) f cdv A outer s H E0) [] (start N vs) H s1 := inv_start S hr.hd e0 (len _ _ _ _ hsp) rv x
  refine wpAny_mono (ht.nox.run [] s1 _ H _ J hq) (fun fl s' hs => ?_) (fun e s' hs => hs)
  cases fl with
  | ret u => obtain ⟨v, σ', H', J', r', q'⟩ := hs; exact ⟨v, H', J'.os, J'.bare, J'.base, J'.hok, r', q'⟩
  | next => obtain ⟨σ', H', J', q'⟩ := hs; exact ⟨V.non, H', J'.os, J'.bare, J'.base, J'.hok, rfl, q'⟩
  | brk => obtain ⟨_, _, _, q'⟩ := hs; exact q'.elim
  | cont => obtain ⟨_, _, _, q'⟩ := hs; exact q'.elim
/-- the callee runs -/
theorem run_g {X : Cx} {k : Nat} {f : Addr} {fd : FuncData} {ps : List Str} {sp : Sp} {pins : List (Addr × Obj)} {σ : L2.St} {H : Hp} {s : Shared} {Q : VK} {args : Args} {us : List Value} {vs : List V}
    (F : FnG X.prog X.w X.K X.mg X.base k f fd ps sp) (hg : X.A.guards = some []) (hr : Room k X.A) (hb : BindsTo s fd args (ps.zip us)) (I : Inv X pins σ H s) (r : Vals vs us) (h : sp vs H Q E0) :
    codeAny (model X.prog X.w) X.A (.call (.ref f) args) (fun r' s' => match r' with
      | .ok (.ret u) => EP X pins σ Q u s'
      | .ok _ => False
      | .error e => X.xe e s') s := by
  refine codeAny_mono (F.run X.A X.stack s H args us vs Q hg hr I.env0 hb r h) (fun r' s' hq => ?_)
  cases r' with
  | error e => exact False.elim hq
  | ok fl =>
    cases fl with
    | ret u => exact I.after hq
    | next => exact hq
    | brk => exact hq
    | cont => exact hq
end

/-! ### the call -/
def pk {α : Type} (idx : List Nat) (l : List α) : List α := idx.filterMap fun i => l[i]?
theorem vals_pk {vs : List V} {us : List Value} (r : Vals vs us) : ∀ idx : List Nat, Vals (pk idx vs) (pk idx us)
  | [] => .nil
  | i :: idx => by
    have ih := vals_pk r idx
    unfold pk at ih ⊢
    cases e : vs[i]? with
    | none =>
      rw [List.filterMap_cons_none e, List.filterMap_cons_none (r.none_of e)]
      exact ih
    | some x =>
      obtain ⟨u, h1, h2⟩ := r.get e
      rw [List.filterMap_cons_some e, List.filterMap_cons_some h1]
      exact .cons h2 ih
theorem dps_none {K : PySem.W.Frag} {H : Hp} {vs : List V} {ds : List PyData} {i : Nat} (h : DxAll K H vs ds) (e : ds[i]? = none) : vs[i]? = none := by
  rw [List.getElem?_eq_none_iff] at e ⊢
  rw [dps_len h]; exact e
theorem dps_pk {K : PySem.W.Frag} {H : Hp} {vs : List V} {ds : List PyData} (r : DxAll K H vs ds) : ∀ idx : List Nat, DxAll K H (pk idx vs) (pk idx ds)
  | [] => .nil
  | i :: idx => by
    have ih := dps_pk r idx
    unfold pk at ih ⊢
    cases e : ds[i]? with
    | none =>
      rw [List.filterMap_cons_none e, List.filterMap_cons_none (dps_none r e)]
      exact ih
    | some x =>
      obtain ⟨u, h1, h2⟩ := dps_get r e
      rw [List.filterMap_cons_some e, List.filterMap_cons_some h1]
      exact .cons h2 ih
/-- how n arguments come to the parameters: np by place, then those named ks; idx: where each parameter's stands -/
def Bd (fd : FuncData) (ps : List Str) (n np : Nat) (ks : List Str) (idx : List Nat) : Prop := ∀ (s : Shared) (us : List Value), us.length = n → BindsTo s fd ⟨us.take np, ks.zip (us.drop np)⟩ (ps.zip (pk idx us))
def tCallG (sp : Sp) (idx : List Nat) (n : Nat) (t : TA) : TE := fun σ H Q => t σ H fun vs H1 => vs.length = n ∧ sp (pk idx vs) H1 Q E0
def tBoth (n : Nat) (t tk : TA) : TA := fun σ H Q => t σ H fun vs H1 => vs.length = n ∧ tk σ H1 fun zs H2 => Q (vs ++ zs) H2
section
variable {X : Cx} {k : Nat} {f : Addr} {fd : FuncData} {ps ks : List Str} {sp : Sp} {x : Str} {p pos : Pos} {e : Expr} {es : List Expr} {kws : List Keyword} {t tk : TA} {idx : List Nat}
theorem callG_core (F : FnG X.prog X.w X.K X.mg X.base k f fd ps sp) (hA : X.A.guards = some []) (hr : Room k X.A) {n np : Nat} (hb : Bd fd ps n np ks idx) {pins : List (Addr × Obj)} {σ : L2.St} {H : Hp} {s : Shared} {Q : VK} {us : List Value} {vs : List V}
    (I : Inv X pins σ H s) (r : Vals vs us) (hn : us.length = n) (h : sp (pk idx vs) H Q E0) : wpAny (model X.prog X.w) X.A (call (.ref f) (us.take np) (ks.zip (us.drop np))) (EP X pins σ Q) X.xe s :=
  wpAny_call (run_g F hA hr (hb s us hn) I (vals_pk r idx) h)
theorem pe_callG (F : FnG X.prog X.w X.K X.mg X.base k f fd ps sp) (hA : X.A.guards = some []) (hr : Room k X.A) (hm : X.mg x = some (.ref f)) (hk : PySem.W.keepIn X.K (.ref f) = true) (hb : Bd fd ps (e :: es).length (e :: es).length [] idx)
    (ha : PA X (e :: es) t) (hg : Gl X x := by rfl) (hdb : (x == ("__debug__" : Str)) = false := by decide) (he : starEach (e :: es) X.env = (false, eval e X.env) :: starEach es X.env := by rfl) (hpl : (backTo pos (starEach es X.env)).any (·.1) = false := by rfl) :
    PE X (.Call (.Name x p) (e :: es) [] pos) (tCallG sp idx (e :: es).length t) := by
  refine ⟨fun pins s σ H Q I h => ?_⟩
  refine wpAny_Call_Name_kw (ld_glob I hg hm ?_ hdb)
  refine PySem.W.callWith_K (h₀ := X.base) I.ok.mod.kin hk (thn (ha.run pos pins s σ H _ I h) fun us s1 ⟨vs, H1, I1, r, hn, q⟩ => ⟨I1.kIn, ?_⟩) he hpl
  have hn' : us.length = (e :: es).length := by rw [← r.length]; exact hn
  have := callG_core (ks := []) F hA hr hb I1 r hn' q
  rw [List.take_of_length_le (by omega)] at this
  exact this
theorem pe_callGk (F : FnG X.prog X.w X.K X.mg X.base k f fd ps sp) (hA : X.A.guards = some []) (hr : Room k X.A) (hm : X.mg x = some (.ref f)) (hk : PySem.W.keepIn X.K (.ref f) = true) (hb : Bd fd ps ((e :: es).length + kws.length) (e :: es).length ks idx)
    (ha : PA X (e :: es) t) (hkw : PK X kws tk) (hg : Gl X x := by rfl) (hall : (backToKw pos (keywordEach kws X.env)).all (·.1.isSome) = true := by rfl) (hks : (backToKw pos (keywordEach kws X.env)).filterMap (·.1) = ks := by rfl)
    (hdb : (x == ("__debug__" : Str)) = false := by decide) (he : starEach (e :: es) X.env = (false, eval e X.env) :: starEach es X.env := by rfl)
    (hpl : ((backTo pos (starEach (e :: es) X.env)).any (·.1) || (backToKw pos (keywordEach kws X.env)).any (·.1.isNone)) = false := by rfl) :
    PE X (.Call (.Name x p) (e :: es) kws pos) (tCallG sp idx ((e :: es).length + kws.length) (tBoth (e :: es).length t tk)) := by
  refine ⟨fun pins s σ H Q I h => ?_⟩
  refine wpAny_Call_Name_kw (ld_glob I hg hm ?_ hdb)
  refine PySem.W.callWith_KW (h₀ := X.base) I.ok.mod.kin hk hall (thn (ha.run pos pins s σ H _ I h) fun us s1 ⟨vs, H1, I1, r, n1, q⟩ => ?_) hpl he
  refine thn (hkw.run pos pins s1 σ H1 _ I1 q) fun ws s2 ⟨zs, H2, I2, rz, n2, q2⟩ => ⟨I2.kIn, ?_⟩
  rw [hks]
  have e3 : (us ++ ws).length = (e :: es).length + kws.length := by rw [← (r.append rz).length]; exact n2
  have l1 : us.length = (e :: es).length := by rw [← r.length]; exact n1
  have := callG_core F hA hr hb I2 (r.append rz) e3 q2
  rw [List.take_append_of_le_length (by omega), List.take_of_length_le (by omega), List.drop_append_of_le_length (by omega), List.drop_of_length_le (by omega), List.nil_append] at this
  exact this
theorem pe_callGk0 (F : FnG X.prog X.w X.K X.mg X.base k f fd ps sp) (hA : X.A.guards = some []) (hr : Room k X.A) (hm : X.mg x = some (.ref f)) (hk : PySem.W.keepIn X.K (.ref f) = true) (hb : Bd fd ps kws.length 0 ks idx)
    (hkw : PK X kws tk) (hg : Gl X x := by rfl) (hall : (backToKw pos (keywordEach kws X.env)).all (·.1.isSome) = true := by rfl) (hks : (backToKw pos (keywordEach kws X.env)).filterMap (·.1) = ks := by rfl)
    (hdb : (x == ("__debug__" : Str)) = false := by decide)
    (hpl : ((backTo pos (starEach [] X.env)).any (·.1) || (backToKw pos (keywordEach kws X.env)).any (·.1.isNone)) = false := by rfl) :
    PE X (.Call (.Name x p) [] kws pos) (tCallG sp idx kws.length tk) := by
  refine ⟨fun pins s σ H Q I h => ?_⟩
  refine wpAny_Call_Name_kw (ld_glob I hg hm ?_ hdb)
  refine PySem.W.callWith_KW0 (h₀ := X.base) I.ok.mod.kin hk hall (thn (hkw.run pos pins s σ H _ I h) fun ws s2 ⟨zs, H2, I2, rz, n2, q2⟩ => ⟨I2.kIn, ?_⟩) hpl
  rw [hks]
  have e2 := rz.length
  have := callG_core F hA hr hb I2 rz (by omega) q2
  rw [List.take_zero, List.drop_zero] at this
  exact this
end

/-! ### contracts: what a def makes of data -/
/-- m: of the arguments the answer -/
def sp0 (K : PySem.W.Frag) (m : List OD → Option OD) (n : Nat) : Sp := fun vs H Q _ => ∃ G f os r, SI K G H (vs.map some) (os.map some) f ∧ vs.length = n ∧ m os = some r ∧
  ∀ v H' G' f', SI K G' H' [some v] [some r] f' → Stp G H f G' H' f' → Q v H'
/-- m: of the list that the def may change and the other arguments the answer and the list behind it -/
def spP (K : PySem.W.Frag) (m : OD → List OD → Option (OD × OD)) (n : Nat) : Sp := fun vs H Q _ => ∃ G f vp vr op os r op', vs = vp :: vr ∧ SI K G H (some vp :: vr.map some) (some op :: os.map some) f ∧ vr.length = n ∧ m op os = some (r, op') ∧
  ∀ v H' G' f', SI K G' H' [some vp, some v] [some op', some r] f' → Stp G H f G' H' f' → Q v H'
section
variable {K : PySem.W.Frag} {X : Cx}
theorem SI.frame {G H G' H' : Hp} {A B : List (Option V)} {a b : En} {fr g g' : FP} (I : SI K G H A a fr) (J : SI K G' H' B b g') (s : Stp G H g G' H' g') (dj : ∀ x, fr x ≠ 0 → g x = 0) :
    ∃ f', SI K G' H' (A ++ B) (a ++ b) f' ∧ (∀ x, f' x = fr x + g' x) ∧ ∀ f, (∀ x, f x = fr x + g x) → Stp G H f G' H' f' := by
  have gr : ∀ x, fr x ≠ 0 → g' x = 0 := fun x q => by
    by_cases e : g' x = 0
    · exact e
    · rcases s.fnew x e with z | z
      · exact absurd (dj x q) z
      · exact absurd z (I.live x q)
  obtain ⟨k, k1, k2⟩ := SL.app (I.sl.mono s.gsub fun x u q e => s.keep x u e (dj x q)) J.sl
  refine ⟨k, ⟨k1, J.sub, fun x => ?_, fun x q => ?_⟩, k2, fun f hf => ⟨s.gsub, fun x o e z => s.keep x o e (by rw [hf] at z; omega), s.dom, fun x e => ?_, fun x e => ?_⟩⟩
  · rw [k2]
    by_cases e : fr x = 0
    · have := J.one x; omega
    · rw [gr x e]; have := I.one x; omega
  · rw [k2] at q
    by_cases e : fr x = 0
    · exact J.hid x (by omega)
    · cases h : G' x with
      | none => rfl
      | some u =>
        rcases s.gnew x (by rw [h]; simp) with z | z | z
        · exact absurd (I.hid x e) z
        · exact absurd z (I.live x e)
        · exact absurd (dj x e) z
  · rcases s.gnew x e with z | z | z
    · exact .inl z
    · exact .inr (.inl z)
    · exact .inr (.inr (by rw [hf]; omega))
  · rw [k2] at e
    by_cases z : fr x = 0
    · rcases s.fnew x (by omega) with y | y
      · exact .inl (by rw [hf]; omega)
      · exact .inr y
    · exact .inl (by rw [hf]; omega)
theorem SL.shs {G H : Hp} : ∀ {vs : List V} {ds : List PyData}, DxAll K G vs ds → SL K G H (vs.map some) ((ds.map OD.sh).map some) (fun _ => 0)
  | _, _, .nil => .nil
  | _, _, .cons h r => (SL.val (f := fun _ => 0) (g := fun _ => 0) (RO.sh h) (SL.shs r)).congr fun _ => rfl
def eFn0 (m : List OD → Option OD) (n : Nat) (idx : List Nat) (es : EvEs) : EvE := fun os => match es os with
  | some (rs, os1) => match rdAll os1 rs with
    | some ds => if rs.length = n ∧ (pk idx ds).length = n then match m ((pk idx ds).map OD.sh) with
      | some r => if isSc r.er = true ∧ r.isSh = true then some (.tm r, os1) else some (.tm r, hardAll os1 rs)
      | none => none else none
    | none => none
  | none => none
theorem er_fn0 {m : List OD → Option OD} {n : Nat} {idx : List Nat} {ev : EvEs} {ta : TA} (h : ERs K ev ta) : ER K (eFn0 m n idx ev) (tCallG (sp0 K m n) idx n ta) := fun σ τ G H os θ f r os' Q hl ht I e k => by
  unfold eFn0 at e
  split at e
  · rename_i rs os1 e1
    split at e
    · rename_i ds e2
      split at e
      · rename_i hn
        split at e
        · rename_i r1 e3
          refine h σ τ G H os θ f rs os1 _ hl ht I e1 fun vs H1 k1 => ?_
          obtain ⟨G1, f1, I1, s1, a1, l1⟩ := k1
          obtain ⟨G2, f2, I2, s2, hd⟩ := I1.popC l1 ht a1 e2
          obtain ⟨_, f3, I3, le3⟩ := I1.popA l1 ht a1 e2
          have hd' := dps_pk hd idx
          refine ⟨by rw [a1.len]; exact hn.1, G2, fun _ => 0, (pk idx ds).map OD.sh, r1, ⟨SL.shs hd', I2.sub, fun _ => Nat.zero_le _, fun _ z => absurd rfl z⟩, by rw [dps_len hd']; exact hn.2, e3, fun v H' G' f' J s => ?_⟩
          split at e
          · rename_i c
            obtain ⟨d, rfl⟩ : ∃ d, r1 = .sh d := by
              cases r1 with
              | sh d => exact ⟨d, rfl⟩
              | lst _ => cases c.2
              | tpl _ => cases c.2
            cases e
            have sb : Sub H1 H' := fun a o q => s.keep a o q rfl
            have hv : Dx K H' v d := by
              obtain ⟨v', q1, q2⟩ := J.rd (i := 0) (o := .sh d) rfl
              cases q1; exact q2
            refine k v H' ((Kont.sh l1 (I3.grow sb) (dp_sc hv c.1)).step ?_)
            exact s1.trans ⟨Sub.refl _, fun a o q _ => sb a o q, fun a q => ne_of_sub sb q, fun a q => .inl q, fun a q => .inl (by have := le3 a; omega)⟩
          · cases e
            obtain ⟨f4, I4, e4, s4⟩ := I2.frame J s fun _ _ => rfl
            exact k v H' ⟨G', f4, by simpa [List.append_assoc, RV.od] using I4, (s1.trans s2).trans (s4 f2 fun x => by omega), .cons trivial .nil, by rw [len_hardAll]; exact l1⟩
        · cases e
      · cases e
    · cases e
  · cases e
/-- the first argument a list that slot j owns: what the def makes of it stands there behind the call -/
def eFnP (m : OD → List OD → Option (OD × OD)) (n : Nat) (idx : List Nat) (es : EvEs) : EvE := fun os => match es os with
  | some (.al j :: rs, os1) => match rdAll os1 rs, (hardAll os1 rs)[j]? with
    | some ds, some (some (.lst xs)) => if rs.length + 1 = n ∧ (pk idx ds).length + 1 = n then match m (.lst xs) ((pk idx ds).map OD.sh) with
      | some (r, p') => some (.tm r, (hardAll os1 rs).set j (some p'))
      | none => none else none
    | _, _ => none
  | _ => none
theorem pk_zero {α : Type} (x : α) (l : List α) (idx : List Nat) : pk (0 :: idx.map (· + 1)) (x :: l) = x :: pk idx l := by
  unfold pk
  rw [List.filterMap_cons_some (f := fun i => (x :: l)[i]?) (a := 0) (b := x) rfl, List.filterMap_map]
  rfl
theorem SL.into {G H : Hp} : ∀ {vs : List (Option V)} {os : En} {f : FP} {j : Nat} {v : V} {o : OD} {g : FP}, SL K G H vs os f → os[j]? = some none → vs[j]? = some (some v) → RO K G H v o g →
    ∃ k, SL K G H vs (os.set j (some o)) k ∧ ∀ a, k a = f a + g a
  | _, _, _, _, _, _, _, .nil, h, _, _ => by simp at h
  | _, _, _, 0, _, _, _, .val _ _, h, _, _ => by simp at h
  | _, _, _, 0, _, _, _, .un r, _, h, q => by
    simp at h; subst h
    exact ⟨_, .val q r, fun a => by (try dsimp only); omega⟩
  | _, _, _, j + 1, _, _, _, .un r, h, h2, q => by
    obtain ⟨k, k1, k2⟩ := SL.into (j := j) r (by simpa using h) (by simpa using h2) q
    exact ⟨k, .un k1, k2⟩
  | _, _, _, j + 1, _, _, _, .val (f := f₁) q0 r, h, h2, q => by
    obtain ⟨k, k1, k2⟩ := SL.into (j := j) r (by simpa using h) (by simpa using h2) q
    exact ⟨_, .val q0 k1, fun a => by (try dsimp only); rw [k2]; omega⟩
theorem er_fnP {m : OD → List OD → Option (OD × OD)} {n : Nat} {idx : List Nat} {ev : EvEs} {ta : TA} (h : ERs K ev ta) : ER K (eFnP m (n + 1) idx ev) (tCallG (spP K m n) (0 :: idx.map (· + 1)) (n + 1) ta) := fun σ τ G H os θ f r os' Q hl ht I e k => by
  unfold eFnP at e
  split at e
  · rename_i j rs os1 e1
    split at e
    · rename_i ds xs e2 e4
      split at e
      · rename_i hn
        split at e
        · rename_i r1 p' e3
          cases e
          refine h σ τ G H os θ f _ os1 _ hl ht I e1 fun vs H1 k1 => ?_
          obtain ⟨G1, f1, I1, s1, a1, l1⟩ := k1
          cases a1 with
          | cons av ar =>
            rename_i vp vr
            have I1' : SI K G1 H1 (σ ++ ((τ ++ [some vp]) ++ vr.map some)) (os1 ++ ((θ ++ [none]) ++ rs.map RV.od)) f1 := by simpa [RV.od, List.append_assoc] using I1
            obtain ⟨G2, f2, I2, s2, hd⟩ := I1'.popC l1 (by simp [ht]) ar e2
            have I2' : SI K G2 H1 ((σ ++ τ) ++ [some vp]) ((hardAll os1 rs ++ θ) ++ [none]) f2 := by simpa [List.append_assoc] using I2
            obtain ⟨f3, I3, le3⟩ := I2'.pop (by simp [l1, ht, len_hardAll])
            have hj := lt_of_get e4
            obtain ⟨w, fo, fr, m1, m2, m3, m4⟩ := SL.out I3.sl (i := j) (o := .lst xs) (by rw [get_app hj]; exact e4)
            have hw : σ[j]? = some (some vp) := av
            have ew : w = vp := by
              rw [get_app (by rw [len_hardAll] at hj; omega), hw] at m1
              exact (Option.some.inj (Option.some.inj m1)).symm
            subst ew
            have hd' := dps_pk hd idx
            have Irest : SI K G2 H1 (σ ++ τ) ((hardAll os1 rs ++ θ).set j none) fr := I3.forget m4 fun a => by rw [m3]; omega
            have Iarg : SI K G2 H1 (some w :: (pk idx vr).map some) (some (.lst xs) :: ((pk idx ds).map OD.sh).map some) fo := by
              have q := SL.val m2 (SL.shs (H := H1) hd')
              exact I3.forget (q.congr fun a => rfl) fun a => by rw [m3]; omega
            refine ⟨by simp [ar.len, hn.1], G2, fo, w, pk idx vr, .lst xs, (pk idx ds).map OD.sh, r1, p', pk_zero _ _ _, Iarg, by rw [dps_len hd']; omega, e3, fun v H' G' f' J s => ?_⟩
            obtain ⟨f4, I4, e5, s5⟩ := Irest.frame J s fun a z => by have := I3.one a; rw [m3] at this; omega
            -- the list goes back to its slot
            obtain ⟨q1, q2, t1, t2, t3⟩ := SL.cut (by simp [l1, ht, len_hardAll]) I4.sl
            cases t2 with
            | val u1 u2 =>
              rename_i g1 g2
              have hl3 : j < (hardAll os1 rs ++ θ).length := by rw [List.length_append]; omega
              have t1' : ((hardAll os1 rs ++ θ).set j none)[j]? = some none := by rw [List.getElem?_set_self hl3]
              obtain ⟨kk, b1, b2⟩ := SL.into t1 t1' m1 u1
              rw [List.set_set, set_app hj] at b1
              obtain ⟨k2, b3, b4⟩ := SL.app b1 u2
              have tot : ∀ a, k2 a = f4 a := fun a => by rw [b4, b2, t3]; (try dsimp only); omega
              refine k v H' ⟨G', f4, ?_, ((s1.trans s2).trans (Stp.less le3)).trans (s5 f3 fun a => by rw [m3]; omega), .cons trivial .nil, by rw [List.length_set, len_hardAll]; exact l1⟩
              have fin : SI K G' H' ((σ ++ τ) ++ [some v]) (((hardAll os1 rs).set j (some p') ++ θ) ++ [some r1]) f4 := ⟨b3.congr tot, I4.sub, I4.one, I4.hid⟩
              simpa [List.append_assoc, RV.od] using fin
        · cases e
      · cases e
    · cases e
  · cases e
end
end DX
/-! DXDef: a def keeps its contract. -/
namespace DX
open PySem PySem.Spec PyProof.Rows L2

def retOf : Res → Option OD
  | .rt o _ => some o
  | .nx _ => some (.sh .none)
  | _ => none
def retP : Res → Option (OD × OD)
  | .rt o os => match os[0]? with
    | some (some p) => some (o, p)
    | _ => none
  | .nx os => match os[0]? with
    | some (some p) => some (.sh .none, p)
    | _ => none
  | _ => none
/-- the slots at the entry -/
def startE (N : List Str) (os : List OD) : En := os.map some ++ List.replicate (N.length - os.length) none
section
variable {P : Program} {w : World} {K : PySem.W.Frag} {mg : Str → Option Value} {base : Heap}
theorem SI.nones {G H : Hp} {vs : List (Option V)} {os : En} {f : FP} (I : SI K G H vs os f) : ∀ n : Nat, SI K G H (vs ++ List.replicate n none) (os ++ List.replicate n none) f
  | 0 => by simpa using I
  | n + 1 => by
    have := (SI.nones I n).pushN none
    rw [List.replicate_succ', List.replicate_succ']
    simpa [List.append_assoc] using this
theorem SI.lastTwo {σ : L2.St} {G H : Hp} {os : En} {f : FP} {v : V} {o : OD} (I : SI K G H (σ ++ [some v]) (os ++ [some o]) f) (hl : σ.length = os.length) :
    (∃ f', SI K G H [some v] [some o] f' ∧ ∀ a, f' a ≤ f a) ∧ ∀ vp p, σ[0]? = some (some vp) → os[0]? = some (some p) → ∃ f', SI K G H [some vp, some v] [some p, some o] f' ∧ ∀ a, f' a ≤ f a := by
  obtain ⟨g, k, h1, h2, h3⟩ := SL.cut hl I.sl
  refine ⟨⟨k, I.forget h2 fun a => by rw [h3]; omega, fun a => by rw [h3]; omega⟩, fun vp p e1 e2 => ?_⟩
  obtain ⟨v', fo, fr, m1, m2, m3, _⟩ := h1.at e2
  rw [e1] at m1; cases m1
  have q := SL.val m2 h2
  exact ⟨_, I.forget q fun a => by (try dsimp only); rw [h3, m3]; omega, fun a => by (try dsimp only); rw [h3, m3]; omega⟩
/-- the context of a def's body -/
abbrev CxD (P : Program) (w : World) (K : PySem.W.Frag) (mg : Str → Option Value) (base : Heap) (N : List Str) (qual : Str) (st : Stmt) (f : Addr) (cdv : Value) (A : Around) (outer : List Env) (s : Shared) (H : Hp) : Cx :=
  (cxOf CX0 P w K mg base N qual (defScope st) f cdv A outer s H E0).nox
theorem ok_fn0 {x qual : Str} {st : Stmt} {f : Addr} {fd : FuncData} {N ps : List Str} {k : Nat} (F : Fun K x qual st f fd) (S : FnScope N ps (defScope st)) {ev : Nat → EvS} {m : List OD → Option OD}
    (hb : ∀ (n : Nat) (cdv : Value) (A : Around) (outer : List Env) (s : Shared) (H : Hp), (A.deeper (envOfC qual (defScope st) s.heap.objs.size f cdv)).guards = some [] → Room k (A.deeper (envOfC qual (defScope st) s.heap.objs.size f cdv)) →
      SSs (CxD P w K mg base N qual st f cdv A outer s H) [] (ev n) (defBody st))
    (hm : ∀ os r, os.length = ps.length → m os = some r → ∃ n res, ev n (startE N os) = some res ∧ retOf res = some r) : FnG P w K mg base (k + 1) f fd ps (sp0 K m ps.length) := by
  refine Fun.okG F S (fun vs H Q E h => ?_) fun cdv A outer s H vs Q hA hr h => ?_
  · obtain ⟨G, g, os, r, _, hl, _⟩ := h
    exact hl
  · obtain ⟨G, g, os, r, I, hl, e, kk⟩ := h
    have ho : os.length = ps.length := by
      have := I.sl.len
      simp at this; omega
    obtain ⟨n, res, e1, e2⟩ := hm os r ho e
    obtain ⟨t, p, q⟩ := hb n cdv A outer s H hA hr
    have I2 : SI K G H (start N vs) (startE N os) g := by
      have := I.nones (N.length - vs.length)
      unfold L2.start startE
      rw [ho, ← hl]
      exact this
    refine ⟨t, p, q (start N vs) G H (startE N os) g res _ I2.sl.len I2 e1 ?_⟩
    cases res with
    | nx os' =>
      cases e2
      intro σ' H' ⟨G', f', J, s', _, _⟩
      refine kk .non H' G' (fun _ => 0) ⟨(SL.val (RO.sh .non) .nil).congr fun _ => rfl, J.sub, fun _ => Nat.zero_le _, fun _ z => absurd rfl z⟩ (s'.trans (Stp.less fun _ => Nat.zero_le _))
    | rt o os' =>
      cases e2
      intro v H' ⟨G', f', σ', J, s', l', _⟩
      obtain ⟨⟨f2, J2, le⟩, _⟩ := J.lastTwo l'
      exact kk v H' G' f2 J2 (s'.trans (Stp.less le))
    | bk _ => cases e2
    | ct _ => cases e2
theorem ok_fnP {x qual : Str} {st : Stmt} {f : Addr} {fd : FuncData} {N ps : List Str} {k np : Nat} (F : Fun K x qual st f fd) (S : FnScope N ps (defScope st)) (hps : ps.length = np + 1) {ev : Nat → EvS} {m : OD → List OD → Option (OD × OD)}
    (hb : ∀ (n : Nat) (cdv : Value) (A : Around) (outer : List Env) (s : Shared) (H : Hp), (A.deeper (envOfC qual (defScope st) s.heap.objs.size f cdv)).guards = some [] → Room k (A.deeper (envOfC qual (defScope st) s.heap.objs.size f cdv)) →
      SSs (CxD P w K mg base N qual st f cdv A outer s H) [0] (ev n) (defBody st))
    (hm : ∀ op os r op', os.length = np → m op os = some (r, op') → ∃ n res, ev n (startE N (op :: os)) = some res ∧ retP res = some (r, op')) : FnG P w K mg base (k + 1) f fd ps (spP K m np) := by
  refine Fun.okG F S (fun vs H Q E h => ?_) fun cdv A outer s H vs Q hA hr h => ?_
  · obtain ⟨G, g, vp, vr, op, os, r, op', rfl, _, hl, _⟩ := h
    rw [List.length_cons, hl, hps]
  · obtain ⟨G, g, vp, vr, op, os, r, op', rfl, I, hl, e, kk⟩ := h
    have ho : os.length = np := by
      have := I.sl.len
      simp at this; omega
    obtain ⟨n, res, e1, e2⟩ := hm op os r op' ho e
    obtain ⟨t, p, q⟩ := hb n cdv A outer s H hA hr
    have I2 : SI K G H (start N (vp :: vr)) (startE N (op :: os)) g := by
      have := I.nones (N.length - (vr.length + 1))
      unfold L2.start startE
      rw [List.length_cons, List.length_cons, ho, hl]
      rw [hl] at this
      exact this
    have h0 : (start N (vp :: vr))[0]? = some (some vp) := rfl
    refine ⟨t, p, q (start N (vp :: vr)) G H (startE N (op :: os)) g res _ I2.sl.len I2 e1 ?_⟩
    cases res with
    | nx os' =>
      intro σ' H' ⟨G', f', J, s', l', keep⟩
      simp only [retP] at e2
      split at e2
      · rename_i p0 e3
        cases e2
        obtain ⟨_, hh⟩ := (J.push (v := .non) .non).lastTwo l'
        obtain ⟨f2, J2, le⟩ := hh vp op' ((keep 0 (by simp)).trans h0) e3
        exact kk .non H' G' f2 J2 (s'.trans (Stp.less le))
      · cases e2
    | rt o os' =>
      intro v H' ⟨G', f', σ', J, s', l', keep⟩
      simp only [retP] at e2
      split at e2
      · rename_i p0 e3
        cases e2
        obtain ⟨_, hh⟩ := J.lastTwo l'
        obtain ⟨f2, J2, le⟩ := hh vp op' ((keep 0 (by simp)).trans h0) e3
        exact kk v H' G' f2 J2 (s'.trans (Stp.less le))
      · cases e2
    | bk _ => cases e2
    | ct _ => cases e2
end

/-! ### calls as expressions -/
section
variable {X : Cx} {k : Nat} {f : Addr} {fd : FuncData} {ps ks : List Str} {x : Str} {p pos : Pos} {e : Expr} {es : List Expr} {kws : List Keyword} {idx : List Nat} {ev : EvEs}
theorem se_call0 {m : List OD → Option OD} {n : Nat} (F : FnG X.prog X.w X.K X.mg X.base k f fd ps (sp0 X.K m n)) (hA : X.A.guards = some []) (hr : Room k X.A) (hm : X.mg x = some (.ref f)) (hk : PySem.W.keepIn X.K (.ref f) = true) (hb : Bd fd ps n n [] idx) (h : SEs X ev (e :: es))
    (hn : (e :: es).length = n := by rfl) (hg : Gl X x := by rfl) (hdb : (x == ("__debug__" : Str)) = false := by decide) (he : starEach (e :: es) X.env = (false, eval e X.env) :: starEach es X.env := by rfl) (hpl : (backTo pos (starEach es X.env)).any (·.1) = false := by rfl) :
    SE X (eFn0 m n idx ev) (.Call (.Name x p) (e :: es) [] pos) := by
  subst hn
  obtain ⟨ta, q1, q2⟩ := h
  exact ⟨_, pe_callG F hA hr hm hk hb q1 hg hdb he hpl, er_fn0 q2⟩
theorem se_callP {m : OD → List OD → Option (OD × OD)} {n : Nat} (F : FnG X.prog X.w X.K X.mg X.base k f fd ps (spP X.K m n)) (hA : X.A.guards = some []) (hr : Room k X.A) (hm : X.mg x = some (.ref f)) (hk : PySem.W.keepIn X.K (.ref f) = true) (hb : Bd fd ps (n + 1) (n + 1) [] (0 :: idx.map (· + 1))) (h : SEs X ev (e :: es))
    (hn : (e :: es).length = n + 1 := by rfl) (hg : Gl X x := by rfl) (hdb : (x == ("__debug__" : Str)) = false := by decide) (he : starEach (e :: es) X.env = (false, eval e X.env) :: starEach es X.env := by rfl) (hpl : (backTo pos (starEach es X.env)).any (·.1) = false := by rfl) :
    SE X (eFnP m (n + 1) idx ev) (.Call (.Name x p) (e :: es) [] pos) := by
  obtain ⟨ta, q1, q2⟩ := h
  have := pe_callG (p := p) (pos := pos) F hA hr hm hk (by rw [hn]; exact hb) q1 hg hdb he hpl
  rw [hn] at this
  exact ⟨_, this, er_fnP q2⟩
/-- keywords -/
def SKs (X : Cx) (ev : EvEs) (kws : List Keyword) : Prop := ∃ tk, PK X kws tk ∧ ERs X.K ev tk
theorem sk_nil : SKs X esNil [] := ⟨_, pk_nil, ers_nil⟩
theorem sk_cons {nm : Option Str} {kpos : Pos} {ea : EvE} (h : SE X ea e) (g : SKs X ev kws) : SKs X (esCons ea ev) (⟨nm, e, kpos⟩ :: kws) := by
  obtain ⟨te, p, q⟩ := h
  obtain ⟨tk, p', q'⟩ := g
  exact ⟨_, pk_cons p p', ers_cons q q'⟩
def esApp (n : Nat) (a b : EvEs) : EvEs := fun os => match a os with
  | some (rs, os1) => if rs.length = n then match b os1 with
    | some (qs, os2) => some (rs ++ qs, os2)
    | none => none else none
  | none => none
theorem ers_app {K : PySem.W.Frag} {n : Nat} {a b : EvEs} {ta tb : TA} (ha : ERs K a ta) (hb : ERs K b tb) : ERs K (esApp n a b) (tBoth n ta tb) := fun σ τ G H os θ f rs os' Q hl ht I e k => by
  unfold esApp at e
  split at e
  · rename_i r1 os1 e1
    split at e
    · rename_i hn
      split at e
      · rename_i r2 os2 e2
        cases e
        refine ha σ τ G H os θ f r1 os1 _ hl ht I e1 fun vs H1 k1 => ?_
        obtain ⟨G1, f1, I1, s1, a1, l1⟩ := k1
        refine ⟨by rw [a1.len]; exact hn, ?_⟩
        refine hb σ (τ ++ vs.map some) G1 H1 os1 (θ ++ r1.map RV.od) f1 r2 _ _ l1 (by simp [ht, a1.len]) (by simpa [List.append_assoc] using I1) e2 fun zs H2 k2 => ?_
        obtain ⟨G2, f2, I2, s2, a2, l2⟩ := k2
        exact k _ H2 ⟨G2, f2, by simpa [List.append_assoc] using I2, s1.trans s2, a1.app a2, l2⟩
      · cases e
    · cases e
  · cases e
theorem se_callk {m : List OD → Option OD} {n : Nat} {evk : EvEs} (F : FnG X.prog X.w X.K X.mg X.base k f fd ps (sp0 X.K m n)) (hA : X.A.guards = some []) (hr : Room k X.A) (hm : X.mg x = some (.ref f)) (hk : PySem.W.keepIn X.K (.ref f) = true) {np : Nat} (hb : Bd fd ps n np ks idx) (h : SEs X ev (e :: es)) (hkw : SKs X evk kws)
    (hn : (e :: es).length + kws.length = n := by rfl) (hnp : (e :: es).length = np := by rfl) (hg : Gl X x := by rfl) (hall : (backToKw pos (keywordEach kws X.env)).all (·.1.isSome) = true := by rfl) (hks : (backToKw pos (keywordEach kws X.env)).filterMap (·.1) = ks := by rfl)
    (hdb : (x == ("__debug__" : Str)) = false := by decide) (he : starEach (e :: es) X.env = (false, eval e X.env) :: starEach es X.env := by rfl)
    (hpl : ((backTo pos (starEach (e :: es) X.env)).any (·.1) || (backToKw pos (keywordEach kws X.env)).any (·.1.isNone)) = false := by rfl) :
    SE X (eFn0 m n idx (esApp np ev evk)) (.Call (.Name x p) (e :: es) kws pos) := by
  subst hn hnp
  obtain ⟨ta, q1, q2⟩ := h
  obtain ⟨tk, q3, q4⟩ := hkw
  exact ⟨_, pe_callGk F hA hr hm hk hb q1 q3 hg hall hks hdb he hpl, er_fn0 (ers_app q2 q4)⟩
theorem se_callk0 {m : List OD → Option OD} {n : Nat} {evk : EvEs} (F : FnG X.prog X.w X.K X.mg X.base k f fd ps (sp0 X.K m n)) (hA : X.A.guards = some []) (hr : Room k X.A) (hm : X.mg x = some (.ref f)) (hk : PySem.W.keepIn X.K (.ref f) = true) (hb : Bd fd ps n 0 ks idx) (hkw : SKs X evk kws)
    (hn : kws.length = n := by rfl) (hg : Gl X x := by rfl) (hall : (backToKw pos (keywordEach kws X.env)).all (·.1.isSome) = true := by rfl) (hks : (backToKw pos (keywordEach kws X.env)).filterMap (·.1) = ks := by rfl)
    (hdb : (x == ("__debug__" : Str)) = false := by decide)
    (hpl : ((backTo pos (starEach [] X.env)).any (·.1) || (backToKw pos (keywordEach kws X.env)).any (·.1.isNone)) = false := by rfl) :
    SE X (eFn0 m n idx evk) (.Call (.Name x p) [] kws pos) := by
  subst hn
  obtain ⟨tk, q3, q4⟩ := hkw
  exact ⟨_, pe_callGk0 F hA hr hm hk hb q3 hg hall hks hdb hpl, er_fn0 q4⟩
end
end DX
/-! DXComp: several names at once; list comprehensions; methods of texts. -/
namespace DX
open PySem PySem.Spec PyProof.Rows L2

section
variable {K : PySem.W.Frag} {X : Cx} {R : List Nat}
/-- what a value is once its slot is shared -/
def cv (os : En) : RV → Option OD
  | .tm o => some o
  | .al j => match os[j]? with
    | some (some (.sh d)) => some (.sh d)
    | _ => none
def cvs (os : En) : List RV → Option (List OD)
  | [] => some []
  | r :: rs => match cv os r, cvs os rs with
    | some o, some ods => some (o :: ods)
    | _, _ => none
theorem cvs_len {os : En} : ∀ {rs : List RV} {ods : List OD}, cvs os rs = some ods → ods.length = rs.length
  | [], ods, e => by cases e; rfl
  | r :: rs, ods, e => by
    unfold cvs at e
    split at e
    · rename_i o os' e1 e2
      cases e
      simp [cvs_len e2]
    · cases e
theorem settle_sl {G H : Hp} {os : En} {σ : L2.St} (hw : ∀ (i : Nat) (d : PyData), os[i]? = some (some (.sh d)) → ∃ v, σ[i]? = some (some v) ∧ Dx K G v d) :
    ∀ {vs : List V} {rs : List RV} {ods : List OD} {g : FP}, Als σ vs rs → SL K G H (vs.map some) (rs.map RV.od) g → cvs os rs = some ods → SL K G H (vs.map some) (ods.map some) g
  | _, _, _, _, .nil, s, e => by cases e; exact s
  | v :: vs, r :: rs, ods, g, .cons a q, s, e => by
    unfold cvs at e
    split at e
    · rename_i o os' e1 e2
      cases e
      cases r with
      | tm o' =>
        cases e1
        cases s with
        | val h s => exact .val h (settle_sl hw q s e2)
      | al j =>
        have e1 : (match os[j]? with | some (some (.sh d)) => some (OD.sh d) | _ => none) = some o := e1
        split at e1
        · rename_i d e3
          cases e1
          obtain ⟨v', h1, h2⟩ := hw j d e3
          have a : σ[j]? = some (some v) := a
          rw [a] at h1; cases h1
          cases s with
          | un s => exact (SL.val (f := fun _ => 0) (RO.sh h2) (settle_sl hw q s e2)).congr fun a => by (try dsimp only); omega
        · cases e1
    · cases e
theorem SI.settle {σ τ : List (Option V)} {G H : Hp} {os θ : En} {f : FP} {vs : List V} {rs : List RV} {ods : List OD} (I : SI K G H (σ ++ (τ ++ vs.map some)) (os ++ (θ ++ rs.map RV.od)) f) (hl : σ.length = os.length) (ht : τ.length = θ.length) (ha : Als σ vs rs)
    (e : cvs (hardAll os rs) rs = some ods) : ∃ G' f', SI K G' H (σ ++ (τ ++ vs.map some)) (hardAll os rs ++ (θ ++ ods.map some)) f' ∧ Stp G H f G' H f' := by
  obtain ⟨G1, f1, I1, s1⟩ := I.hards rs
  have hw : ∀ (i : Nat) (d : PyData), (hardAll os rs)[i]? = some (some (.sh d)) → ∃ v, σ[i]? = some (some v) ∧ Dx K G1 v d := fun i d h => by
    obtain ⟨v, q1, _, _, q2⟩ := I1.slotW (by rw [len_hardAll]; exact hl) i (.sh d) h
    exact ⟨v, q1, q2 rfl⟩
  have I1' := I1.sl
  rw [← List.append_assoc, ← List.append_assoc] at I1'
  obtain ⟨g, k, h1, h2, h3⟩ := SL.cut (by simp [hl, ht, len_hardAll]) I1'
  obtain ⟨k2, k3, k4⟩ := SL.app h1 (settle_sl hw ha h2 e)
  refine ⟨G1, f1, ⟨?_, I1.sub, I1.one, I1.hid⟩, s1⟩
  have := k3.congr (g := f1) fun a => by rw [k4, h3]
  simpa [List.append_assoc] using this

theorem SI.storeT {σ τ : List (Option V)} {G H : Hp} {os θ : En} {f : FP} {v : V} {o : OD} (I : SI K G H (σ ++ (τ ++ [some v])) (os ++ (θ ++ [some o])) f) (hl : σ.length = os.length) (ht : τ.length = θ.length) {i : Nat} (hi : i < os.length) :
    ∃ f', SI K G H (σ.set i (some v) ++ τ) (os.set i (some o) ++ θ) f' ∧ ∀ a, f' a ≤ f a := by
  rw [← List.append_assoc, ← List.append_assoc] at I
  obtain ⟨f', J, le⟩ := I.store (i := i) (by simp [hl, ht]) (by rw [List.length_append]; omega)
  rw [set_app (by omega), set_app hi] at J
  exact ⟨f', J, le⟩
/-! ### a, b = x, y -/
def sPar (R : List Nat) (i j : Nat) (ev : EvEs) : EvS := fun os => match ev os with
  | some (rs, os1) => match cvs (hardAll os1 rs) rs with
    | some [o1, o2] => if i ∈ R ∨ j ∈ R ∨ os1.length ≤ i ∨ os1.length ≤ j then none else some (.nx (((hardAll os1 rs).set i (some o1)).set j (some o2)))
    | _ => none
  | none => none
theorem sr_par {i j : Nat} {ev : EvEs} {ta : TA} (hij : i ≠ j) (h : ERs K ev ta) : SR K R (sPar R i j ev) (tPar i j ta) := fun σ G H os f res D hl I e k => by
  unfold sPar at e
  split at e
  · rename_i rs os1 e1
    split at e
    · rename_i o1 o2 e2
      split at e
      · cases e
      · rename_i c
        simp only [not_or, Nat.not_le] at c
        cases e
        refine h σ [] G H os [] f rs os1 _ hl rfl (by simpa using I) e1 fun vs H1 k1 => ?_
        obtain ⟨G1, f1, I1, s1, a1, l1⟩ := k1
        obtain ⟨G2, f2, I2, s2⟩ := I1.settle l1 rfl a1 e2
        have hn : vs.length = 2 := by rw [a1.len, ← cvs_len e2]; rfl
        match vs, hn with
        | [v, w], _ =>
          refine ⟨v, w, rfl, ?_⟩
          have l2 : σ.length = (hardAll os1 rs).length := by rw [len_hardAll]; exact l1
          have I2' : SI K G2 H1 ((σ ++ [some v]) ++ [some w]) ((hardAll os1 rs ++ [some o1]) ++ [some o2]) f2 := by simpa using I2
          obtain ⟨f3, I3, le3⟩ := I2'.store (i := j) (by simp [l2]) (by rw [List.length_append, len_hardAll]; omega)
          rw [set_app (by omega), set_app (by rw [len_hardAll]; omega)] at I3
          obtain ⟨f4, I4, le4⟩ := I3.store (i := i) (by simp [l2]) (by rw [List.length_set, len_hardAll]; omega)
          rw [List.set_comm _ _ (Ne.symm hij), List.set_comm _ _ (Ne.symm hij)] at I4
          refine k _ H1 ⟨G2, f4, I4, ((s1.trans s2).trans (Stp.less le3)).trans (Stp.less le4), by simp [l2], fun q hq => ?_⟩
          rw [List.getElem?_set_ne (fun z => by subst z; exact c.2.1 hq), List.getElem?_set_ne (fun z => by subst z; exact c.1 hq)]
    · cases e
  · cases e
theorem ss_par (i j : Nat) {x y : Str} {a b : Expr} {px py pt : Pos} {kt k2 pt2 pos} {ev : EvEs} (hc : X.calm = true) (hN : X.N.Nodup) (h : SEs X ev [a, b]) (hi : X.N[i]? = some x := by rfl) (hj : X.N[j]? = some y := by rfl) (hij : i ≠ j := by decide)
    (hx : X.env.scope.names.lookup x = some .local := by rfl) (hy : X.env.scope.names.lookup y = some .local := by rfl)
    (hw : swappedStores [.Tuple [.Name x px, .Name y py] kt pt] (.Tuple [a, b] k2 pt2) X.env = pure (some [x, y]) := by rfl)
    (hs : swapsWithSole [.Tuple [.Name x px, .Name y py] kt pt] (.Tuple [a, b] k2 pt2) pos.line X.env = pure false := by rfl) :
    SS X R (sPar R i j ev) (.Assign [.Tuple [.Name x px, .Name y py] kt pt] (.Tuple [a, b] k2 pt2) pos) := by
  obtain ⟨ta, p, q⟩ := h
  exact ⟨_, ps_par hc hN hi hj hij hx hy p hw hs, sr_par hij q⟩
def sPar3 (R : List Nat) (i j l : Nat) (ev : EvEs) : EvS := fun os => match ev os with
  | some (rs, os1) => match cvs (hardAll os1 rs) rs with
    | some [o1, o2, o3] => if i ∈ R ∨ j ∈ R ∨ l ∈ R ∨ os1.length ≤ i ∨ os1.length ≤ j ∨ os1.length ≤ l then none else some (.nx ((((hardAll os1 rs).set i (some o1)).set j (some o2)).set l (some o3)))
    | _ => none
  | none => none
theorem sr_par3 {i j l : Nat} {ev : EvEs} {ta : TA} (hij : i ≠ j) (hil : i ≠ l) (hjl : j ≠ l) (h : ERs K ev ta) : SR K R (sPar3 R i j l ev) (tPar3 i j l ta) := fun σ G H os f res D hl I e k => by
  unfold sPar3 at e
  split at e
  · rename_i rs os1 e1
    split at e
    · rename_i o1 o2 o3 e2
      split at e
      · cases e
      · rename_i c
        simp only [not_or, Nat.not_le] at c
        cases e
        refine h σ [] G H os [] f rs os1 _ hl rfl (by simpa using I) e1 fun vs H1 k1 => ?_
        obtain ⟨G1, f1, I1, s1, a1, l1⟩ := k1
        obtain ⟨G2, f2, I2, s2⟩ := I1.settle l1 rfl a1 e2
        have hn : vs.length = 3 := by rw [a1.len, ← cvs_len e2]; rfl
        match vs, hn with
        | [u, v, w], _ =>
          refine ⟨u, v, w, rfl, ?_⟩
          have l2 : σ.length = (hardAll os1 rs).length := by rw [len_hardAll]; exact l1
          obtain ⟨f3, I3, le3⟩ := (show SI K G2 H1 (σ ++ ([some u, some v] ++ [some w])) (hardAll os1 rs ++ ([some o1, some o2] ++ [some o3])) f2 by simpa using I2).storeT (i := l) l2 rfl (by rw [len_hardAll]; omega)
          obtain ⟨f4, I4, le4⟩ := (show SI K G2 H1 (σ.set l (some w) ++ ([some u] ++ [some v])) ((hardAll os1 rs).set l (some o3) ++ ([some o1] ++ [some o2])) f3 by simpa using I3).storeT (i := j) (by simp [l2]) rfl (by rw [List.length_set, len_hardAll]; omega)
          obtain ⟨f5, I5, le5⟩ := (show SI K G2 H1 ((σ.set l (some w)).set j (some v) ++ ([] ++ [some u])) (((hardAll os1 rs).set l (some o3)).set j (some o2) ++ ([] ++ [some o1])) f4 by simpa using I4).storeT (i := i) (by simp [l2]) rfl (by rw [List.length_set, List.length_set, len_hardAll]; omega)
          rw [List.append_nil, List.append_nil] at I5
          rw [show ((σ.set l (some w)).set j (some v)).set i (some u) = ((σ.set i (some u)).set j (some v)).set l (some w) by
              rw [List.set_comm _ _ (Ne.symm hij), List.set_comm _ _ (Ne.symm hil), List.set_comm _ _ (Ne.symm hjl)],
            show (((hardAll os1 rs).set l (some o3)).set j (some o2)).set i (some o1) = (((hardAll os1 rs).set i (some o1)).set j (some o2)).set l (some o3) by
              rw [List.set_comm _ _ (Ne.symm hij), List.set_comm _ _ (Ne.symm hil), List.set_comm _ _ (Ne.symm hjl)]] at I5
          refine k _ H1 ⟨G2, f5, I5, (((s1.trans s2).trans (Stp.less le3)).trans (Stp.less le4)).trans (Stp.less le5), by simp [l2], fun q hq => ?_⟩
          rw [List.getElem?_set_ne (fun z => by subst z; exact c.2.2.1 hq), List.getElem?_set_ne (fun z => by subst z; exact c.2.1 hq), List.getElem?_set_ne (fun z => by subst z; exact c.1 hq)]
    · cases e
  · cases e
theorem ss_par3 (i j l : Nat) {x y z : Str} {a b c : Expr} {px py pz pt pos : Pos} {kt k2 pt2} {ev : EvEs} (hc : X.calm = true) (hN : X.N.Nodup) (h : SEs X ev [a, b, c]) (hi : X.N[i]? = some x := by rfl) (hj : X.N[j]? = some y := by rfl) (hl : X.N[l]? = some z := by rfl)
    (hij : i ≠ j := by decide) (hil : i ≠ l := by decide) (hjl : j ≠ l := by decide)
    (hx : X.env.scope.names.lookup x = some .local := by rfl) (hy : X.env.scope.names.lookup y = some .local := by rfl) (hz : X.env.scope.names.lookup z = some .local := by rfl)
    (hw : swappedStores [.Tuple [.Name x px, .Name y py, .Name z pz] kt pt] (.Tuple [a, b, c] k2 pt2) X.env = pure (some [x, y, z]) := by rfl)
    (hs : swapsWithSole [.Tuple [.Name x px, .Name y py, .Name z pz] kt pt] (.Tuple [a, b, c] k2 pt2) pos.line X.env = pure false := by rfl) :
    SS X R (sPar3 R i j l ev) (.Assign [.Tuple [.Name x px, .Name y py, .Name z pz] kt pt] (.Tuple [a, b, c] k2 pt2) pos) := by
  obtain ⟨ta, p, q⟩ := h
  exact ⟨_, ps_par3 hc hN hi hj hl hij hil hjl hx hy hz p hw hs, sr_par3 hij hil hjl q⟩
end
end DX
/-! DXLc: list comprehensions. -/
namespace DX
open PySem PySem.Spec PyProof.Rows L2

section
variable {K : PySem.W.Frag} {X : Cx}
/-- the reading that an expression's worth stands for by itself -/
def TEof (K : PySem.W.Frag) (ev : EvE) : TE := fun σ H Q => ∃ (τ : List (Option V)) (G : Hp) (os θ : En) (f : FP) (r : RV) (os' : En), σ.length = os.length ∧ τ.length = θ.length ∧ SI K G H (σ ++ τ) (os ++ θ) f ∧ ev os = some (r, os') ∧ ∀ v H', Kont K σ τ G H f os' θ [v] [r] H' → Q v H'
def TTof (K : PySem.W.Frag) (ev : EvT) : TT := fun σ H Q => ∃ (τ : List (Option V)) (G : Hp) (os θ : En) (f : FP) (b : Bool) (os' : En), σ.length = os.length ∧ τ.length = θ.length ∧ SI K G H (σ ++ τ) (os ++ θ) f ∧ ev os = some (b, os') ∧ ∀ H', KontT K σ τ G H f os' θ H' → Q b H'
theorem er_of (ev : EvE) : ER K ev (TEof K ev) := fun σ τ G H os θ f r os' Q hl ht I e k => ⟨τ, G, os, θ, f, r, os', hl, ht, I, e, k⟩
theorem tr_of (ev : EvT) : TR K ev (TTof K ev) := fun σ τ G H os θ f b os' Q hl ht I e k => ⟨τ, G, os, θ, f, b, os', hl, ht, I, e, k⟩
theorem SE.pe {ev : EvE} {e : Expr} (h : SE X ev e) : PE X e (TEof X.K ev) := by
  obtain ⟨te, p, q⟩ := h
  exact ⟨fun pins s σ H Q I hq => by
    obtain ⟨τ, G, os, θ, f, r, os', a, b, c, d, k⟩ := hq
    exact p.run pins s σ H Q I (q σ τ G H os θ f r os' Q a b c d k)⟩
theorem STt.pt {ev : EvT} {e : Expr} (h : STt X ev e) : PT X e (TTof X.K ev) := by
  obtain ⟨te, p, q⟩ := h
  exact ⟨fun pins s σ H Q I hq => by
    obtain ⟨τ, G, os, θ, f, r, os', a, b, c, d, k⟩ := hq
    exact p.run pins s σ H Q I (q σ τ G H os θ f r os' Q a b c d k)⟩

def wipeE (os : En) : List Nat → En
  | [] => os
  | v :: vs => (wipeE os vs).set v none
theorem len_wipeE (os : En) : ∀ vs : List Nat, (wipeE os vs).length = os.length
  | [] => rfl
  | v :: vs => by unfold wipeE; rw [List.length_set, len_wipeE os vs]
theorem wipeE_none {os : En} {j : Nat} : ∀ {vs : List Nat}, j ∈ vs → ∀ o, (wipeE os vs)[j]? ≠ some (some o)
  | v :: vs, h, o, e => by
    unfold wipeE at e
    by_cases z : v = j
    · subst z
      by_cases q : v < (wipeE os vs).length
      · rw [List.getElem?_set_self q] at e; cases e
      · rw [List.getElem?_eq_none (by simpa using q)] at e; cases e
    · rw [List.getElem?_set_ne z] at e
      rcases List.mem_cons.mp h with y | y
      · exact z y.symm
      · exact wipeE_none y o e
theorem wipe_set {σ : L2.St} {i : Nat} {x : Option V} : ∀ {vs : List Nat}, i ∈ vs → wipe (σ.set i x) vs = wipe σ vs ∧ True
  | v :: vs, h => by
    refine ⟨?_, trivial⟩
    show (wipe (σ.set i x) vs).set v none = (wipe σ vs).set v none
    by_cases m : i ∈ vs
    · rw [(wipe_set m).1]
    · have hv : i = v := by
        rcases List.mem_cons.mp h with y | y
        · exact y
        · exact absurd y m
      subst hv
      have : ∀ {ws : List Nat}, i ∉ ws → wipe (σ.set i x) ws = (wipe σ ws).set i x := fun {ws} => by
        induction ws with
        | nil => intro _; rfl
        | cons w ws ih =>
          intro hw
          simp only [List.mem_cons, not_or] at hw
          show (wipe (σ.set i x) ws).set w none = ((wipe σ ws).set w none).set i x
          rw [ih hw.2, List.set_comm _ _ (fun z => hw.1 z)]
      rw [this m, List.set_set]
theorem wipe_get {σ : L2.St} {i : Nat} : ∀ {vs : List Nat}, i ∉ vs → (wipe σ vs)[i]? = σ[i]?
  | [], _ => rfl
  | v :: vs, h => by
    simp only [List.mem_cons, not_or] at h
    show ((wipe σ vs).set v none)[i]? = _
    rw [List.getElem?_set_ne (fun z => h.1 z.symm)]
    exact wipe_get h.2
/-- what is not said of a slot may be any -/
theorem SL.swap {G H : Hp} : ∀ {vs ws : List (Option V)} {os : En} {f : FP}, SL K G H vs os f → ws.length = vs.length → (∀ (i : Nat) (o : OD), os[i]? = some (some o) → ws[i]? = vs[i]?) → SL K G H ws os f
  | _, [], _, _, .nil, _, _ => .nil
  | _, w :: ws, _, _, .un r, l, h => .un (SL.swap r (by simpa using l) fun i o e => by simpa using h (i + 1) o (by simpa using e))
  | _, w :: ws, _, _, .val (v := v) (o := o) q r, l, h => by
    have := h 0 o rfl
    simp at this
    subst this
    exact .val q (SL.swap r (by simpa using l) fun i o e => by simpa using h (i + 1) o (by simpa using e))
/-- less is said -/
theorem SL.wiped {G H : Hp} {vs : List (Option V)} {os θ : En} {f : FP} (h : SL K G H vs (os ++ θ) f) : ∀ own : List Nat, ∃ g, SL K G H vs (wipeE os own ++ θ) g ∧ ∀ a, g a ≤ f a
  | [] => ⟨f, h, fun _ => Nat.le_refl _⟩
  | v :: own => by
    obtain ⟨g, h1, h2⟩ := SL.wiped h own
    by_cases q : v < (wipeE os own).length
    · cases e : (wipeE os own)[v]? with
      | none => rw [List.getElem?_eq_none_iff] at e; omega
      | some oo =>
        cases oo with
        | none =>
          refine ⟨g, ?_, h2⟩
          show SL K G H vs ((wipeE os own).set v none ++ θ) g
          rw [set_id e]; exact h1
        | some o =>
          obtain ⟨w, fo, fr, m1, m2, m3, m4⟩ := SL.out h1 (i := v) (o := o) (by rw [get_app q]; exact e)
          rw [set_app q] at m4
          exact ⟨fr, m4, fun a => by have := h2 a; have := m3 a; omega⟩
    · refine ⟨g, ?_, h2⟩
      show SL K G H vs ((wipeE os own).set v none ++ θ) g
      rw [List.set_eq_of_length_le (by omega)]; exact h1

/-- a comprehension's target: its own names alone change -/
def TGc (K : PySem.W.Frag) (own : List Nat) (tv : EvG) (g : TG) : Prop := ∀ (σ τ : List (Option V)) (G H : Hp) (os θ : En) (f : FP) (v : V) (d : PyData) (os' : En) (Q : L2.St → Hp → Prop),
  σ.length = os.length → τ.length = θ.length → SI K G H (σ ++ τ) (os ++ θ) f → Dx K G v d → tv d os = some os' →
  (∀ σ' f', wipe σ' own = wipe σ own → SI K G H (σ' ++ τ) (os' ++ θ) f' → (∀ a, f' a ≤ f a) → σ'.length = os'.length → Q σ' H) → g v σ H Q
theorem tgc_name {own : List Nat} {i : Nat} (h : i ∈ own) : TGc K own (gvName [] i) (gName i) := fun σ τ G H os θ f v d os' Q hl ht I hd e k => by
  unfold gvName at e
  split at e
  · cases e
  · rename_i c
    cases e
    simp only [List.not_mem_nil, false_or, Nat.not_le] at c
    have J : SI K G H (σ ++ (τ ++ [some v])) (os ++ (θ ++ [some (.sh d)])) f := by simpa [List.append_assoc] using I.push hd
    obtain ⟨f', I2, le⟩ := J.storeT hl ht c
    exact k _ f' (wipe_set h).1 I2 le (by simp [hl])
theorem tgc_two {own : List Nat} {i j : Nat} (h : i ∈ own) (h' : j ∈ own) : TGc K own (gvTup 2 (gvCons (gvName [] i) (gvCons (gvName [] j) gvNil))) (gTup K 2 (gCons (gName i) (gCons (gName j) gNil))) := fun σ τ G H os θ f v d os' Q hl ht I hd e k => by
  unfold gvTup at e
  split at e
  · rename_i ds
    split at e
    · rename_i c
      match ds, c with
      | [d1, d2], _ =>
        unfold gvCons at e
        simp only at e
        split at e
        · rename_i os1 e1
          split at e
          · rename_i os2 e2
            simp only [gvNil] at e
            cases e
            cases hd with
            | tup r1 r2 =>
              obtain ⟨v1, v2, rfl, q1, q2⟩ := dps2 r2
              refine ⟨_, _, rfl, sqT_sub I.sub r1, rfl, v1, _, rfl, ?_⟩
              refine tgc_name h σ τ G H os θ f v1 d1 os1 _ hl ht I q1 e1 fun σ1 f1 w1 I1 le1 l1 => ?_
              refine ⟨v2, _, rfl, ?_⟩
              refine tgc_name h' σ1 τ G H os1 θ f1 v2 d2 _ _ l1 ht I1 q2 e2 fun σ2 f2 w2 I2 le2 l2 => ?_
              exact ⟨rfl, k σ2 f2 (w2.trans w1) I2 (fun a => Nat.le_trans (le2 a) (le1 a)) l2⟩
          · cases e
        · cases e
    · cases e
  · cases e

/-! ### the comprehension -/
def lcF (own : List Nat) (tv : EvG) (c : EvT) (ev : EvE) : List PyData → En → List OD → Option (List OD × En)
  | [], os, acc => some (acc, os)
  | d :: ds, os, acc => match tv d os with
    | some os1 => match c os1 with
      | some (true, os2) => match ev os2 with
        | some (r, os3) => match cv (hard os3 r) r with
          | some o => if acc.length < sizeLine then lcF own tv c ev ds (wipeE (hard os3 r) own) (acc ++ [o]) else none
          | none => none
        | none => none
      | some (false, os2) => lcF own tv c ev ds (wipeE os2 own) acc
      | none => none
    | none => none
def eLc (own : List Nat) (it : EvI) (tv : EvG) (c : EvT) (ev : EvE) : EvE := fun os => match it os with
  | some (ds, os1) => match lcF own tv c ev ds (wipeE os1 own) [] with
    | some (acc, os2) => some (.tm (.lst acc), os2)
    | none => none
  | none => none
def cYes : EvT := fun os => some (true, os)
theorem tr_yes : TR K cYes tYes := fun σ τ G H os θ f b os' Q hl ht I e k => by
  cases e
  exact k H ⟨G, f, I, Stp.refl _ _ _, hl⟩
theorem er_lc {own : List Nat} {it : EvI} {tv : EvG} {c : EvT} {ev : EvE} {wi : TI} {g : TG} {tt : TT} {te : TE} (hi : IR K it wi) (hg : TGc K own tv g) (hc : TR K c tt) (he : ER K ev te) : ER K (eLc own it tv c ev) (tLc wi g tt te own) := fun σ τ G H os θ f r os' Q hl ht I e k => by
  unfold eLc at e
  split at e
  · rename_i ds os1 e1
    split at e
    · rename_i acc' os2 e2
      cases e
      refine hi σ τ G H os θ f ds os1 _ hl ht I e1 fun J H1 G1 f1 I1 s1 l1 itk => ?_
      intro D hD
      -- the new list on the stack
      obtain ⟨gw, Lw, lew⟩ := SL.wiped I1.sl own
      have Iw : SI K G1 H1 (σ ++ τ) (wipeE os1 own ++ θ) gw := I1.forget Lw lew
      obtain ⟨f2, I2, s2⟩ := Iw.pushNew (xs := []) (ds := []) .nil hD
      have hsw : ∀ {ws : List (Option V)} {os3 θ3 : En} {G3 H3 : Hp} {f3 : FP} {τ3 : List (Option V)} {σ3 : L2.St}, SI K G3 H3 (σ3 ++ τ3) (os3 ++ θ3) f3 → σ3.length = os3.length → ws.length = σ3.length → (∀ (j : Nat), j ∉ own → ws[j]? = σ3[j]?) → (∀ j ∈ own, ∀ o, os3[j]? ≠ some (some o)) → SI K G3 H3 (ws ++ τ3) (os3 ++ θ3) f3 :=
        fun {ws os3 θ3 G3 H3 f3 τ3 σ3} I3 l3 lw hw hn => ⟨I3.sl.swap (by simp [lw]) fun j o ej => by
          by_cases hj : j < os3.length
          · rw [get_app (by omega), get_app (by omega)]
            rw [get_app hj] at ej
            exact hw j fun m => hn j m o ej
          · rw [List.getElem?_append_right (by omega), List.getElem?_append_right (by omega), lw], I3.sub, I3.one, I3.hid⟩
      refine ⟨fun i m H' => m = ds.length - i ∧ i ≤ ds.length ∧ ∃ os3 acc G3 f3, SI K G3 H' (wipe σ own ++ (τ ++ [some (.ref D)])) (os3 ++ (θ ++ [some (.lst acc)])) f3 ∧ Stp G1 H1 f1 G3 H' f3 ∧ σ.length = os3.length ∧ (∀ j ∈ own, ∀ o, os3[j]? ≠ some (some o)) ∧ lcF own tv c ev (ds.drop i) os3 acc = some (acc', os'), ⟨ds.length, by simp, Nat.zero_le _, wipeE os1 own, [], G1, f2, ?_, (Stp.less lew).trans s2, by rw [len_wipeE]; exact l1, fun j hj => wipeE_none hj, by simpa using e2⟩, fun i m H' hW => ?_⟩
      · have I2' : SI K G1 (upd H1 D (.lst [])) (σ ++ (τ ++ [some (.ref D)])) (wipeE os1 own ++ (θ ++ [some (.lst [])])) f2 := by simpa [List.append_assoc] using I2
        exact hsw I2' (by rw [len_wipeE]; exact l1) (wipe_length _ _) (fun j hj => wipe_get hj) fun j hj => wipeE_none hj
      · obtain ⟨rfl, hle, os3, acc, G3, f3, I3, s3, l3, nn, e3⟩ := hW
        obtain ⟨j1, j2, j3⟩ := itk i G3 H' s3.gsub I3.sub
        by_cases hlt : i < ds.length
        · refine .inr ⟨j1 hlt, fun H'' => ∃ os4 acc4 G4 f4, SI K G4 H'' (wipe σ own ++ (τ ++ [some (.ref D)])) (os4 ++ (θ ++ [some (.lst acc4)])) f4 ∧ Stp G1 H1 f1 G4 H'' f4 ∧ σ.length = os4.length ∧ (∀ j ∈ own, ∀ o, os4[j]? ≠ some (some o)) ∧ lcF own tv c ev (ds.drop (i + 1)) os4 acc4 = some (acc', os'),
            fun H'' ⟨os4, acc4, G4, f4, q1, q2, q3, q4, q5⟩ => ⟨ds.length - (i + 1), by omega, rfl, hlt, os4, acc4, G4, f4, q1, q2, q3, q4, q5⟩, fun x H4 y => ?_⟩
          have hd : ds[i]? = some ds[i] := List.getElem?_eq_getElem hlt
          obtain ⟨G4, n4, hx⟩ := j3 x H4 _ hd y
          obtain ⟨I4, s4⟩ := I3.nw n4
          rw [List.drop_eq_getElem_cons hlt] at e3
          unfold lcF at e3
          split at e3
          · rename_i os5 e5
            refine hg (wipe σ own) (τ ++ [some (.ref D)]) G4 H4 os3 (θ ++ [some (.lst acc)]) f3 x ds[i] os5 _ (by rw [wipe_length]; exact l3) (by simp [ht]) I4 hx e5 fun σ5 f5 w5 I5 le5 l5 => ?_
            have wid : wipe (wipe σ own) own = wipe σ own := by
              apply List.ext_getElem?
              intro j
              by_cases hj : j ∈ own
              · have a1 : ∀ τ : L2.St, ∀ v, (wipe τ own)[j]? ≠ some (some v) := fun τ v z => (wipe_some z).2 hj
                cases z1 : (wipe (wipe σ own) own)[j]? with
                | none =>
                  have := List.getElem?_eq_none_iff.mp z1
                  rw [wipe_length] at this
                  rw [List.getElem?_eq_none this]
                | some a =>
                  cases a with
                  | some v => exact absurd z1 (a1 _ v)
                  | none =>
                    have := lt_of_get z1
                    rw [wipe_length] at this
                    cases z2 : (wipe σ own)[j]? with
                    | none => have := List.getElem?_eq_none_iff.mp z2; omega
                    | some b =>
                      cases b with
                      | some v => exact absurd z2 (a1 _ v)
                      | none => rfl
              · rw [wipe_get hj]
            refine ⟨by rw [w5, wid], ?_⟩
            have st5 : Stp G1 H1 f1 G4 H4 f5 := (s3.trans s4).trans (Stp.less le5)
            have hback : ∀ (j : Nat), j ∉ own → (wipe σ own)[j]? = σ5[j]? := fun j hj => by
              have : (wipe σ5 own)[j]? = (wipe (wipe σ own) own)[j]? := by rw [w5]
              rw [wipe_get hj, wipe_get hj] at this
              exact this.symm
            split at e3
            · rename_i os6 e6
              refine hc σ5 (τ ++ [some (.ref D)]) G4 H4 os5 (θ ++ [some (.lst acc)]) f5 true os6 _ l5 (by simp [ht]) I5 e6 fun H6 k6 => ?_
              obtain ⟨G6, f6, I6, s6, l6⟩ := k6
              rw [if_pos rfl]
              split at e3
              · rename_i r7 os7 e7
                split at e3
                · rename_i o e8
                  split at e3
                  · rename_i hsz
                    refine he σ5 (τ ++ [some (.ref D)]) G6 H6 os6 (θ ++ [some (.lst acc)]) f6 r7 os7 _ l6 (by simp [ht]) I6 e7 fun y7 H7 k7 => ?_
                    obtain ⟨G7, f7, I7, s7, a7, l7⟩ := k7
                    obtain ⟨G8, f8, I8, s8⟩ := I7.settle (ods := [o]) l7 (by simp [ht]) a7 (by
                      show (match cv (hard os7 r7) r7, cvs (hard os7 r7) [] with | some o, some ods => some (o :: ods) | _, _ => none) = some [o]
                      rw [e8]; rfl)
                    have I8' : SI K G8 H7 ((σ5 ++ (τ ++ [some (.ref D)])) ++ [some y7]) ((hard os7 r7 ++ (θ ++ [some (.lst acc)])) ++ [some o]) f8 := by simpa [List.append_assoc, hardAll] using I8
                    have hpos : (hard os7 r7 ++ (θ ++ [some (.lst acc)]))[(hard os7 r7).length + θ.length]? = some (some (.lst acc)) := by
                      rw [List.getElem?_append_right (by omega), List.getElem?_append_right (by omega)]
                      simp
                    obtain ⟨p, us, b1, b2, b3, f9, I9, s9⟩ := I8'.app (by simp [l7, ht, len_hard]) hpos
                    have ep : p = D := by
                      rw [List.getElem?_append_right (by rw [len_hard]; omega), List.getElem?_append_right (by rw [len_hard]; omega)] at b1
                      simp [len_hard, l7, ht] at b1
                      exact b1.symm
                    subst ep
                    refine ⟨us, b2, by rw [b3]; exact hsz, wipeE (hard os7 r7) own, acc ++ [o], G8, ?_⟩
                    have I9' : SI K G8 (upd H7 p (.lst (us ++ [y7]))) (σ5 ++ (τ ++ [some (.ref p)])) (hard os7 r7 ++ (θ ++ [some (.lst (acc ++ [o]))])) f9 := by
                      rw [List.set_append_right _ _ (by omega), List.set_append_right _ _ (by omega)] at I9
                      simpa using I9
                    obtain ⟨gA, LA, leA⟩ := SL.wiped I9'.sl own
                    have IA := I9'.forget LA leA
                    refine ⟨gA, hsw IA (by rw [len_wipeE, len_hard]; exact l7) (by rw [wipe_length]; have := congrArg List.length w5; rw [wipe_length, wipe_length, wipe_length] at this; exact this.symm) hback (fun j hj => wipeE_none hj), ?_, ?_, fun j hj => wipeE_none hj, e3⟩
                    · exact ((((st5.trans s6).trans s7).trans s8).trans s9).trans (Stp.less leA)
                    · rw [len_wipeE, len_hard, ← l7]
                      have := congrArg List.length w5; rw [wipe_length, wipe_length, wipe_length] at this; exact this.symm
                  · cases e3
                · cases e3
              · cases e3
            · rename_i os6 e6
              refine hc σ5 (τ ++ [some (.ref D)]) G4 H4 os5 (θ ++ [some (.lst acc)]) f5 false os6 _ l5 (by simp [ht]) I5 e6 fun H6 k6 => ?_
              obtain ⟨G6, f6, I6, s6, l6⟩ := k6
              rw [if_neg Bool.false_ne_true]
              obtain ⟨gA, LA, leA⟩ := SL.wiped I6.sl own
              have IA := I6.forget LA leA
              have l56 : σ.length = σ5.length := by have := congrArg List.length w5; rw [wipe_length, wipe_length, wipe_length] at this; exact this.symm
              exact ⟨wipeE os6 own, acc, G6, gA, hsw IA (by rw [len_wipeE]; exact l6) (by rw [wipe_length]; exact l56) hback (fun j hj => wipeE_none hj), (st5.trans s6).trans (Stp.less leA), by rw [len_wipeE, ← l6]; exact l56, fun j hj => wipeE_none hj, e3⟩
            · cases e3
          · cases e3
        · have ei : i = ds.length := by omega
          subst ei
          rw [List.drop_length] at e3
          cases e3
          refine .inl ⟨j2 (Nat.le_refl _), k _ H' ⟨G3, f3, ?_, s1.trans s3, .cons trivial .nil, l3⟩⟩
          have := hsw I3 (by rw [wipe_length]; exact l3) (ws := σ) (wipe_length _ _).symm (fun j hj => (wipe_get hj).symm) nn
          simpa [RV.od] using this
    · cases e
  · cases e
end
end DX
/-! DXSyn: comprehensions and methods of texts as they stand in a text. -/
namespace DX
open PySem PySem.Spec PyProof.Rows L2

section
variable {X : Cx} {R : List Nat} {elt iter c : Expr} {x : Str} {px pos : Pos} {scope : Scope} {i : Nat} {it : EvI} {ev : EvE} {cc : EvT}
theorem se_lc (i : Nat) (hc : X.calm = true) (hN : X.N.Nodup) (hi : SI' X (.Name x px) it iter) (he : ∀ (s : Shared) (H : Hp) (C : Addr) (cl : List (Str × Addr)) (fp : List Addr), SE (X.blk s H scope (compEnvC scope cl C X.env) fp) ev elt)
    (ok : BlkOk X.N X.env.scope scope [(x, i)] := by exact blkOk_by (by decide +kernel))
    (hg : ∀ (s : Shared) (H : Hp) (C : Addr) (cl : List (Str × Addr)) (fp : List Addr), PG (X.blk s H scope (compEnvC scope cl C X.env) fp) (.Name x px) (gName i) := by exact fun _ _ _ _ _ => pg_name (by assumption) rfl (Or.inl rfl))
    (hs : ∀ v, foldedSetIterable iter X.env v = pure v := by intro _; rfl) : SE X (eLc [i] it (gvName [] i) cYes ev) (.ListComp elt [⟨.Name x px, iter, [], 0⟩] scope pos) := by
  obtain ⟨wi, p, q⟩ := hi
  exact ⟨_, pe_lc (own := [(x, i)]) hc hN p ok hg (fun _ _ _ _ _ => pts_nil) (fun s H C cl fp => (he s H C cl fp).pe) hs, er_lc q (tgc_name (by simp)) tr_yes (er_of ev)⟩
theorem se_lcIf (i : Nat) (hc : X.calm = true) (hN : X.N.Nodup) (hi : SI' X (.Name x px) it iter) (ht : ∀ (s : Shared) (H : Hp) (C : Addr) (cl : List (Str × Addr)) (fp : List Addr), STt (X.blk s H scope (compEnvC scope cl C X.env) fp) cc c) (he : ∀ (s : Shared) (H : Hp) (C : Addr) (cl : List (Str × Addr)) (fp : List Addr), SE (X.blk s H scope (compEnvC scope cl C X.env) fp) ev elt)
    (ok : BlkOk X.N X.env.scope scope [(x, i)] := by exact blkOk_by (by decide +kernel))
    (hg : ∀ (s : Shared) (H : Hp) (C : Addr) (cl : List (Str × Addr)) (fp : List Addr), PG (X.blk s H scope (compEnvC scope cl C X.env) fp) (.Name x px) (gName i) := by exact fun _ _ _ _ _ => pg_name (by assumption) rfl (Or.inl rfl))
    (hs : ∀ v, foldedSetIterable iter X.env v = pure v := by intro _; rfl) : SE X (eLc [i] it (gvName [] i) cc ev) (.ListComp elt [⟨.Name x px, iter, [c], 0⟩] scope pos) := by
  obtain ⟨wi, p, q⟩ := hi
  exact ⟨_, pe_lc (own := [(x, i)]) hc hN p ok hg (fun s H C cl fp => pts_one (ht s H C cl fp).pt) (fun s H C cl fp => (he s H C cl fp).pe) hs, er_lc q (tgc_name (by simp)) (tr_of cc) (er_of ev)⟩
/-- y = [..] -/
theorem ss_setLc (j i : Nat) {y : Str} {py spos : Pos} (hc : X.calm = true) (hN : X.N.Nodup) (hi : SI' X (.Name x px) it iter) (he : ∀ (s : Shared) (H : Hp) (C : Addr) (cl : List (Str × Addr)) (fp : List Addr), SE (X.blk s H scope (compEnvC scope cl C X.env) fp) ev elt)
    (hy : X.N[j]? = some y := by rfl) (hyl : X.env.scope.names.lookup y = some .local := by rfl)
    (hsw : swapsWith (.ListComp elt [⟨.Name x px, iter, [], 0⟩] scope pos) (some (.Name y py)) spos.line X.env = pure true := by exact sw_true rfl rfl rfl (by decide +kernel))
    (ok : BlkOk X.N X.env.scope scope [(x, i)] := by exact blkOk_by (by decide +kernel))
    (hg : ∀ (s : Shared) (H : Hp) (C : Addr) (cl : List (Str × Addr)) (fp : List Addr), PG (X.blk s H scope (compEnvC scope cl C X.env) fp) (.Name x px) (gName i) := by exact fun _ _ _ _ _ => pg_name (by assumption) rfl (Or.inl rfl))
    (hs : ∀ v, foldedSetIterable iter X.env v = pure v := by intro _; rfl) : SS X R (sAsg R j (eLc [i] it (gvName [] i) cYes ev)) (.Assign [.Name y py] (.ListComp elt [⟨.Name x px, iter, [], 0⟩] scope pos) spos) := by
  obtain ⟨wi, p, q⟩ := hi
  exact ⟨_, ps_setLc (own := [(x, i)]) hc hN hy hyl hsw p ok hg (fun _ _ _ _ _ => pts_nil) (fun s H C cl fp => (he s H C cl fp).pe) hs, sr_asg (er_lc q (tgc_name (by simp)) tr_yes (er_of ev))⟩
theorem ss_setLcIf (j i : Nat) {y : Str} {py spos : Pos} (hc : X.calm = true) (hN : X.N.Nodup) (hi : SI' X (.Name x px) it iter) (ht : ∀ (s : Shared) (H : Hp) (C : Addr) (cl : List (Str × Addr)) (fp : List Addr), STt (X.blk s H scope (compEnvC scope cl C X.env) fp) cc c) (he : ∀ (s : Shared) (H : Hp) (C : Addr) (cl : List (Str × Addr)) (fp : List Addr), SE (X.blk s H scope (compEnvC scope cl C X.env) fp) ev elt)
    (hy : X.N[j]? = some y := by rfl) (hyl : X.env.scope.names.lookup y = some .local := by rfl)
    (hsw : swapsWith (.ListComp elt [⟨.Name x px, iter, [c], 0⟩] scope pos) (some (.Name y py)) spos.line X.env = pure true := by exact sw_true rfl rfl rfl (by decide +kernel))
    (ok : BlkOk X.N X.env.scope scope [(x, i)] := by exact blkOk_by (by decide +kernel))
    (hg : ∀ (s : Shared) (H : Hp) (C : Addr) (cl : List (Str × Addr)) (fp : List Addr), PG (X.blk s H scope (compEnvC scope cl C X.env) fp) (.Name x px) (gName i) := by exact fun _ _ _ _ _ => pg_name (by assumption) rfl (Or.inl rfl))
    (hs : ∀ v, foldedSetIterable iter X.env v = pure v := by intro _; rfl) : SS X R (sAsg R j (eLc [i] it (gvName [] i) cc ev)) (.Assign [.Name y py] (.ListComp elt [⟨.Name x px, iter, [c], 0⟩] scope pos) spos) := by
  obtain ⟨wi, p, q⟩ := hi
  exact ⟨_, ps_setLc (own := [(x, i)]) hc hN hy hyl hsw p ok hg (fun s H C cl fp => pts_one (ht s H C cl fp).pt) (fun s H C cl fp => (he s H C cl fp).pe) hs, sr_asg (er_lc q (tgc_name (by simp)) (tr_of cc) (er_of ev))⟩
end

/-! ### methods of texts -/
section
variable {K : PySem.W.Frag} {X : Cx}
def rM (r : V → List V → Hp → VK → Prop) : List V → Hp → VK → Prop := fun vs H Q => match vs with
  | x :: xs => r x xs H Q
  | [] => False
def eMtS (fn : List PyData → Option Op) (ea : EvE) (es : EvEs) : EvE := fun os => match ea os with
  | some (r, os1) => match r.rd os1 with
    | some (.str _) => match es os1 with
      | some (rs, os2) => match rdAll os2 (r :: rs) with
        | some ds => match fn ds with
          | some res => some (opOut os2 (r :: rs) res)
          | none => none
        | none => none
      | none => none
    | _ => none
  | none => none
theorem er_mt {fn : List PyData → Option Op} {ea : EvE} {es : EvEs} {te : TE} {ta : TA} {r : V → List V → Hp → VK → Prop} (ha : ER K ea te) (hs : ERs K es ta) (ok : OpOk K (rM r) fn) : ER K (eMtS fn ea es) (tBM K "str" r te ta) := fun σ τ G H os θ f r' os' Q hl ht I e k => by
  unfold eMtS at e
  split at e
  · rename_i r1 os1 e1
    split at e
    · rename_i z e2
      split at e
      · rename_i rs os2 e3
        split at e
        · rename_i ds e4
          split at e
          · rename_i res e5
            have e : opOut os2 (r1 :: rs) res = (r', os') := Option.some.inj e
            refine ha σ τ G H os θ f r1 os1 _ hl ht I e1 fun v H1 k1 => ?_
            have hv := k1.read1 ht e2
            cases hv
            refine ⟨rfl, ?_⟩
            obtain ⟨G1, f1, I1, s1, a1, l1⟩ := k1
            refine hs σ (τ ++ [some (.str z)]) G1 H1 os1 (θ ++ [r1.od]) f1 rs os2 _ l1 (by simp [ht]) I1 e3 fun vs H2 k2 => ?_
            obtain ⟨G2, f2, I2, s2, a2, l2⟩ := k2
            have kk : Kont K σ τ G H f os2 θ (.str z :: vs) (r1 :: rs) H2 := ⟨G2, f2, by simpa [List.append_assoc] using I2, s1.trans s2, by
              cases a1 with
              | cons a _ => exact .cons a a2, l2⟩
            exact op_fin ok ht kk e4 e5 e k
          · cases e
        · cases e
      · cases e
    · cases e
  · cases e
theorem se_mt {name : Str} {id : String} {r : V → List V → Hp → VK → Prop} {fn : List PyData → Option Op} {o e : Expr} {es : List Expr} {apos cpos : Pos} {ea : EvE} {ev : EvEs} (slot : Slot "str" name id) (hty : typeOf (.builtin id) = pure (.type "method_descriptor")) (hm : MtR X id r) (ok : OpOk X.K (rM r) fn)
    (ho : SE X ea o) (ha : SEs X ev (e :: es)) (hbase : attributeBase o name X.env (eval o X.env) = eval o X.env := by rfl)
    (hfew : ((backTo cpos (starEach (e :: es) X.env)).all (fun y => !y.1) && (backToKw cpos (keywordEach [] X.env)).all (fun y => y.1.isSome) && decide ((e :: es).length + ([] : List Keyword).length + (if ([] : List Keyword).isEmpty then 0 else 1) < 30)) = true := by rfl)
    (hline : (apos.endLine == cpos.line) = true := by rfl) (hs : starEach (e :: es) X.env = (false, eval e X.env) :: starEach es X.env := by rfl) (hp : (backTo cpos (starEach es X.env)).any (·.1) = false := by rfl) :
    SE X (eMtS fn ea ev) (.Call (.Attribute o name apos) (e :: es) [] cpos) := by
  obtain ⟨te, p1, q1⟩ := ho
  obtain ⟨ta, p2, q2⟩ := ha
  exact ⟨_, pe_bm PySem.F.plainAttrs_str slot hty hm p1 p2 hbase hfew hline hs hp, er_mt q1 q2 ok⟩
def opSplit : List PyData → Option Op
  | [.str a, .str b] => if (b.length == 0) = false ∧ (Txt.split a b).all (fun y => decide (y.length ≤ strMax)) = true then some (.nl ((Txt.split a b).map PyData.str)) else none
  | _ => none
theorem dx_strs {H : Hp} : ∀ ys : List Str, ys.all (fun y => decide (y.length ≤ strMax)) = true → DxAll K H (ys.map V.str) (ys.map PyData.str)
  | [], _ => .nil
  | y :: ys, h => by
    simp only [List.all_cons, Bool.and_eq_true, decide_eq_true_eq] at h
    exact .cons (.str y h.1) (dx_strs ys h.2)
theorem ok_split : OpOk K (rM (fun x xs H Q => ∃ a b, x = .str a ∧ xs = [.str b] ∧ (b.length == 0) = false ∧ a.length + 2 ≤ sizeLine ∧ rNewStrs (Txt.split a b) H Q)) opSplit where
  sc := fun ds d H vs Q e _ _ _ => by
    unfold opSplit at e
    split at e
    · split at e <;> cases e
    · cases e
  el := fun ds d G H vs Q e _ _ _ _ => by
    unfold opSplit at e
    split at e
    · split at e <;> cases e
    · cases e
  nl := fun ds es G H vs Q e s hd k => by
    unfold opSplit at e
    split at e
    · split at e
      · rename_i c
        cases e
        obtain ⟨v, w, rfl, a, b⟩ := dws2 hd
        have a := a.dx s
        have b := b.dx s
        cases b
        cases a with
        | str _ ca => exact ⟨_, _, rfl, rfl, c.1, strMax_le ca, fun p hp => k _ p (dx_strs _ c.2) hp⟩
      · cases e
    · cases e
  nt := fun ds es G H vs Q e _ _ _ => by
    unfold opSplit at e
    split at e
    · split at e <;> cases e
    · cases e
def opPartition : List PyData → Option Op
  | [.str a, .str b] => if (b.length == 0) = false ∧ (Txt.partition a b).1.length ≤ strMax ∧ (Txt.partition a b).2.1.length ≤ strMax ∧ (Txt.partition a b).2.2.length ≤ strMax then some (.nt [.str (Txt.partition a b).1, .str (Txt.partition a b).2.1, .str (Txt.partition a b).2.2]) else none
  | _ => none
theorem ok_partition : OpOk K (rM (fun x xs H Q => ∃ a b, x = .str a ∧ xs = [.str b] ∧ (b.length == 0) = false ∧ a.length ≤ sizeLine ∧ ∀ p, H p = none → Q (.ref p) (upd H p (.tup [.str (Txt.partition a b).1, .str (Txt.partition a b).2.1, .str (Txt.partition a b).2.2])))) opPartition where
  sc := fun ds d H vs Q e _ _ _ => by
    unfold opPartition at e
    split at e
    · split at e <;> cases e
    · cases e
  el := fun ds d G H vs Q e _ _ _ _ => by
    unfold opPartition at e
    split at e
    · split at e <;> cases e
    · cases e
  nl := fun ds es G H vs Q e _ _ _ => by
    unfold opPartition at e
    split at e
    · split at e <;> cases e
    · cases e
  nt := fun ds es G H vs Q e s hd k => by
    unfold opPartition at e
    split at e
    · split at e
      · rename_i c
        cases e
        obtain ⟨v, w, rfl, a, b⟩ := dws2 hd
        have a := a.dx s
        have b := b.dx s
        cases b
        cases a with
        | str _ ca => exact ⟨_, _, rfl, rfl, c.1, strMax_le' ca, fun p hp => k _ p (.cons (.str _ c.2.1) (.cons (.str _ c.2.2.1) (.cons (.str _ c.2.2.2) .nil))) hp⟩
      · cases e
    · cases e
theorem se_split {o e : Expr} {apos cpos : Pos} {ea : EvE} {ev : EvEs} (ho : SE X ea o) (ha : SEs X ev [e]) (hbase : attributeBase o "split" X.env (eval o X.env) = eval o X.env := by rfl)
    (hfew : ((backTo cpos (starEach [e] X.env)).all (fun y => !y.1) && (backToKw cpos (keywordEach [] X.env)).all (fun y => y.1.isSome) && decide ([e].length + ([] : List Keyword).length + (if ([] : List Keyword).isEmpty then 0 else 1) < 30)) = true := by rfl)
    (hline : (apos.endLine == cpos.line) = true := by rfl) (hs : starEach [e] X.env = (false, eval e X.env) :: starEach [] X.env := by rfl) : SE X (eMtS opSplit ea ev) (.Call (.Attribute o "split" apos) [e] [] cpos) :=
  se_mt PySem.F.slot_str_split PySem.F.type_str_split mt_split ok_split ho ha hbase hfew hline hs (by rfl)
theorem se_partition {o e : Expr} {apos cpos : Pos} {ea : EvE} {ev : EvEs} (ho : SE X ea o) (ha : SEs X ev [e]) (hbase : attributeBase o "partition" X.env (eval o X.env) = eval o X.env := by rfl)
    (hfew : ((backTo cpos (starEach [e] X.env)).all (fun y => !y.1) && (backToKw cpos (keywordEach [] X.env)).all (fun y => y.1.isSome) && decide ([e].length + ([] : List Keyword).length + (if ([] : List Keyword).isEmpty then 0 else 1) < 30)) = true := by rfl)
    (hline : (apos.endLine == cpos.line) = true := by rfl) (hs : starEach [e] X.env = (false, eval e X.env) :: starEach [] X.env := by rfl) : SE X (eMtS opPartition ea ev) (.Call (.Attribute o "partition" apos) [e] [] cpos) :=
  se_mt PySem.F.slot_str_partition PySem.F.type_str_partition mt_partition ok_partition ho ha hbase hfew hline hs (by rfl)
end
end DX
/-! DXEnd: the law's call. -/
namespace DX
open PySem PySem.Spec PyProof.Rows L2

section
variable {P : Program} {w : World} {K : PySem.W.Frag} {mg mb : Str → Option Value} {k : Nat} {fa a : Addr} {fd : FuncData} {x : Str} {sp : Sp} {s₁ : Shared} {vs : List Value} {ns : List Int}
/-- the end of the law's call -/
def LawEnd (s₁ : Shared) (r : Result) (s' : Shared) : Prop := r = .ok (.ret (.bool true)) ∧ OldK s₁.heap s'.heap ∧ s'.os = s₁.os ∧ AllBare s'.gens
theorem run_at {H : Hp} (KX : K.In s₁.heap) (hns : s₁.heap.Ns mainGlobals mg) (hb : s₁.heap.Ns builtinsNs mb) (hbb : ∀ y : Str, y ≠ "__name__" → mb y = bootBuiltins y)
    (hlim : s₁.heap.NoLimit) (hg : s₁.gens = #[]) (ha : s₁.heap.get? a = some { cls := .type "list", data := .seq vs.toArray }) (hr : Room k callerA)
    (F : ∀ base : Heap, K.In base → base.Ns mainGlobals mg → FnG P w K mg base k fa fd [x] sp) (hbind : ∀ (s : Shared) (u : Value), BindsTo s fd ⟨[u], []⟩ [(x, u)])
    (hok : HOk P w H s₁.heap) (hA : ∀ b, H b ≠ none → b = a) (hK : H a ≠ none → K.lookup a = none) (hO : Only H) (hS : sp [.ref a] H (fun v _ => v = .bl true) E0) :
    codeAny (model P w) callerA (.call (.ref fa) ⟨[.ref a], []⟩) (LawEnd s₁) s₁ := by
  have isA : ∀ {b : Addr} {u : HO}, H b = some u → b = a := fun {b u} q => hA b (by rw [q]; exact Option.some_ne_none u)
  have old : ∀ {b : Addr} {o : Obj}, s₁.heap.get? b = some o → H b = none → (hidT s₁.heap H).get? b = some o := fun e n => hidT_get e n
  have nod : ∀ {b : Addr} {o : Obj} {es : Array DictEntry} {ep : Nat}, s₁.heap.get? b = some o → o.data = .dict es ep → H b = none := by
    intro b o es ep e d
    cases q : H b with
    | none => rfl
    | some u =>
      cases isA q
      rw [ha] at e
      cases e
      cases d
  have nsK : ∀ {b : Addr} {m : Str → Option Value}, s₁.heap.Ns b m → (hidT s₁.heap H).Ns b m := by
    rintro b m ⟨o, es, ep, e, d, r⟩
    exact ⟨o, es, ep, old e (nod e d), d, r⟩
  have hKb : K.In (hidT s₁.heap H) := by
    intro b o e
    refine old (KX b o e) ?_
    cases q : H b with
    | none => rfl
    | some u =>
      cases isA q
      rw [hK (by rw [q]; exact Option.some_ne_none u)] at e
      cases e
  obtain ⟨mc, m1, m2⟩ := hlim
  have e0 : Env0 P w K mg (hidT s₁.heap H) callerA [] s₁ H :=
    ⟨rfl, ⟨hKb, nsK hns, ⟨mb, nsK hb, hbb⟩, ⟨mc, nsK m1, m2⟩⟩, fun b o e => of_hidT e, Nat.le_of_eq (hidT_size _ _), trivial, fun b z => (List.not_mem_nil z).elim, hok, .of_eq hg⟩
  refine codeAny_mono ((F _ hKb (nsK hns)).run callerA [] s₁ H ⟨[.ref a], []⟩ [.ref a] [.ref a] _ rfl hr e0 (hbind s₁ (.ref a)) (.cons rfl .nil) hS) (fun r s' h => ?_)
  cases r with
  | error e => exact False.elim h
  | ok fl =>
    cases fl with
    | next => exact h.elim
    | brk => exact h.elim
    | cont => exact h.elim
    | ret u =>
      obtain ⟨v, H', os, bare, un, hok', r', q⟩ := h
      have q : v = .bl true := q
      subst q
      have eu : u = Value.bool true := r'
      subst eu
      refine ⟨rfl, OldK.of_keep (fun b o e => ?_), os, bare⟩
      cases q : H b with
      | none => exact un.keep b o e q (fun z => (List.not_mem_nil z).elim) (fun z => (List.not_mem_nil z).elim)
      | some u =>
        rcases hO b with z | ⟨ob, xs, z⟩
        · rw [q] at z
          cases z
        · obtain ⟨e1, _⟩ := hok b _ z
          obtain ⟨e2, _⟩ := hok' b _ (un.frzs b ob _ z)
          rw [e] at e1
          cases e1
          exact e2
theorem run_script (KX : K.In s₁.heap) (hns : s₁.heap.Ns mainGlobals mg) (hb : s₁.heap.Ns builtinsNs mb) (hbb : ∀ y : Str, y ≠ "__name__" → mb y = bootBuiltins y)
    (hlim : s₁.heap.NoLimit) (hg : s₁.gens = #[]) (ha : s₁.heap.get? a = some { cls := .type "list", data := .seq vs.toArray }) (hi : IntsAre vs ns) (hl : ns.length ≤ sizeLine) (hr : Room k callerA)
    (F : ∀ base : Heap, K.In base → base.Ns mainGlobals mg → FnG P w K mg base k fa fd [x] sp) (hbind : ∀ (s : Shared) (u : Value), BindsTo s fd ⟨[u], []⟩ [(x, u)])
    (hsp : ∀ H : Hp, SqL K H a (ns.map V.int) → sp [.ref a] H (fun v _ => v = .bl true) E0) :
    codeAny (model P w) callerA (.call (.ref fa) ⟨[.ref a], []⟩) (LawEnd s₁) s₁ := by
  have rv := vals_ints hi
  cases hk : K.lookup a with
  | some o =>
    have e := KX a o hk
    rw [ha] at e
    cases e
    have sq : SqL K (fun _ => none) a (ns.map V.int) := Or.inr ⟨_, vs.toArray, _, hk, rfl, rfl, rfl, by rw [List.size_toArray, hi.length]; exact hl, by simpa using rv⟩
    exact run_at KX hns hb hbb hlim hg ha hr F hbind (fun b u z => by cases (show (none : Option HO) = some u from z)) (fun b z => absurd rfl z) (fun z => absurd rfl z) (fun b => Or.inl rfl) (hsp _ sq)
  | none =>
    let fo : HO := .frz { cls := .type "list", data := .seq vs.toArray } (.lst (ns.map V.int))
    have at1 : upd (fun _ => none) a fo a = some fo := upd_same
    have ne1 : ∀ b, b ≠ a → upd (fun _ => none) a fo b = none := fun b z => upd_ne z
    refine run_at (H := upd (fun _ => none) a fo) KX hns hb hbb hlim hg ha hr F hbind (fun b u z => ?_) (fun b z => ?_) (fun _ => hk) (fun b => ?_) (hsp _ (Or.inl (Or.inr ⟨_, at1⟩)))
    · by_cases q : b = a
      · subst q
        rw [at1] at z
        cases z
        exact ⟨ha, by rw [List.length_map]; exact hl, vs, _, rv, ha⟩
      · rw [ne1 b q] at z; cases z
    · by_cases q : b = a
      · exact q
      · exact absurd (ne1 b q) z
    · by_cases q : b = a
      · subst q; exact Or.inr ⟨_, _, at1⟩
      · exact Or.inl (ne1 b q)
end
theorem dx_ints {K : PySem.W.Frag} {H : Hp} : ∀ ns : List Int, DxAll K H (ns.map V.int) (ns.map PyData.int)
  | [] => .nil
  | n :: ns => .cons (.int n) (dx_ints ns)
/-- the goal that the head leaves, from the law's contract -/
theorem walk_g {l : PySem.W.OpenLaw} {n k : Nat} {q : Program} {loose : List Str} {XP : (Str → Option Value) → Heap → Prop} {YP : World → Heap → Prop} {d : DefRec} {K : Params → PySem.W.Frag} {x : Str} {m : List OD → Option OD}
    (hn : l.most = some n) (hn2 : n ≤ sizeLine) (hdf : d.params.defaults = []) (hr : Room k callerA) (hY : ∀ (w : World) (h : Heap), YP w h → (K w.params).In h)
    (F : ∀ (w : World) (mg : Str → Option Value) (fa : Addr) (h : Heap), (K w.params).In h → h.Ns mainGlobals mg → mg d.name = some (.ref fa) → ∃ fd : FuncData, (∀ (s : Shared) (u : Value), BindsTo s fd ⟨[u], []⟩ [(x, u)]) ∧
      ∀ base : Heap, (K w.params).In base → base.Ns mainGlobals mg → FnG l.prog w (K w.params) mg base k fa fd [x] (sp0 (K w.params) m 1))
    (hm : ∀ ns : List Int, ns.length ≤ n → (∀ i ∈ ns, Builtin.Int.intBits i ≤ 1048576) → m [.sh (.list (ns.map PyData.int))] = some (.sh (.bool true))) :
    PySem.W.WalkO q loose XP YP l.row.toRowW d [] (fun f vs => PySem.call f vs) := by
  refine Att.attach_callB hn hdf (fun w s₀ s₁ mg mb fa o pm cd doc a vs ns G Y ho hd hcd hmg hobj hints hlen hbits hg => ?_)
  have KX := hY w _ Y
  obtain ⟨fd, hb, hF⟩ := F w mg fa _ KX G.T.g hmg
  refine run_script KX G.T.g G.T.b G.T.builtins G.T.nolimit hg hobj hints (Nat.le_trans hlen hn2) hr hF hb (fun H hS => ?_)
  refine ⟨H, fun _ => 0, [.sh (.list (ns.map PyData.int))], .sh (.bool true), ⟨SL.shs (vs := [.ref a]) (ds := [_]) (.cons (.lst hS (dx_ints ns)) .nil), Sub.refl _, fun _ => Nat.zero_le _, fun _ z => absurd rfl z⟩, rfl, hm ns hlen hbits, fun v H' G' f' J s => ?_⟩
  obtain ⟨v', e1, e2⟩ := J.rd (i := 0) (o := .sh (.bool true)) rfl
  cases e1
  cases e2
  rfl
end DX
/-! DXShort: short names for what a printed proof says often. -/
namespace DX
open PySem PySem.Spec PyProof.Rows L2

section
variable {X : Cx} {a b : Expr} {ea eb : EvE} {pos : Pos} {k : Nat}
theorem hu64 (hr : Room k X.A) : X.A.units + 64 < cLine := hr.units
theorem hu65 (hr : Room k X.A) : X.A.units + 65 < cLine := by have := hr.un; omega
theorem se_lt (ha : SE X ea a) (hb : SE X eb b) (hm : behindInMarks .Lt b = false := by rfl) : SE X (eOp opLt (es2 ea eb)) (.Compare a [.Lt] [b] pos) := se_cmp or_lt ok_ord ha hb hm
theorem se_le (ha : SE X ea a) (hb : SE X eb b) (hm : behindInMarks .LtE b = false := by rfl) : SE X (eOp opLe (es2 ea eb)) (.Compare a [.LtE] [b] pos) := se_cmp or_le ok_ord ha hb hm
theorem se_gt (ha : SE X ea a) (hb : SE X eb b) (hm : behindInMarks .Gt b = false := by rfl) : SE X (eOp opGt (es2 ea eb)) (.Compare a [.Gt] [b] pos) := se_cmp or_gt ok_ord ha hb hm
theorem se_ge (ha : SE X ea a) (hb : SE X eb b) (hm : behindInMarks .GtE b = false := by rfl) : SE X (eOp opGe (es2 ea eb)) (.Compare a [.GtE] [b] pos) := se_cmp or_ge ok_ord ha hb hm
theorem se_eq (hr : Room k X.A) (ha : SE X ea a) (hb : SE X eb b) (hm : behindInMarks .Eq b = false := by rfl) : SE X (eOp opEq (es2 ea eb)) (.Compare a [.Eq] [b] pos) := se_cmp (or_eq (hu64 hr)) ok_eq ha hb hm
theorem se_ne (hr : Room k X.A) (ha : SE X ea a) (hb : SE X eb b) (hm : behindInMarks .NotEq b = false := by rfl) : SE X (eOp opNe (es2 ea eb)) (.Compare a [.NotEq] [b] pos) := se_cmp (or_ne (hu64 hr)) ok_ne ha hb hm
theorem se_in (hr : Room k X.A) (ha : SE X ea a) (hb : SE X eb b) (hm : behindInMarks .In b = false := by rfl) : SE X (eOp (opIn false) (es2 ea eb)) (.Compare a [.In] [b] pos) := se_cmp (or_in (hu65 hr)) ok_in ha hb hm
theorem se_ni (hr : Room k X.A) (ha : SE X ea a) (hb : SE X eb b) (hm : behindInMarks .NotIn b = false := by rfl) : SE X (eOp (opIn true) (es2 ea eb)) (.Compare a [.NotIn] [b] pos) := se_cmp (or_ni (hu65 hr)) ok_ni ha hb hm
theorem st_lt (ha : SE X ea a) (hb : SE X eb b) (hm : behindInMarks .Lt b = false := by rfl) : STt X (tBl (eOp opLt (es2 ea eb))) (.Compare a [.Lt] [b] pos) := st_cmp or_lt ok_ord ha hb hm
theorem st_le (ha : SE X ea a) (hb : SE X eb b) (hm : behindInMarks .LtE b = false := by rfl) : STt X (tBl (eOp opLe (es2 ea eb))) (.Compare a [.LtE] [b] pos) := st_cmp or_le ok_ord ha hb hm
theorem st_gt (ha : SE X ea a) (hb : SE X eb b) (hm : behindInMarks .Gt b = false := by rfl) : STt X (tBl (eOp opGt (es2 ea eb))) (.Compare a [.Gt] [b] pos) := st_cmp or_gt ok_ord ha hb hm
theorem st_ge (ha : SE X ea a) (hb : SE X eb b) (hm : behindInMarks .GtE b = false := by rfl) : STt X (tBl (eOp opGe (es2 ea eb))) (.Compare a [.GtE] [b] pos) := st_cmp or_ge ok_ord ha hb hm
theorem st_eq (hr : Room k X.A) (ha : SE X ea a) (hb : SE X eb b) (hm : behindInMarks .Eq b = false := by rfl) : STt X (tBl (eOp opEq (es2 ea eb))) (.Compare a [.Eq] [b] pos) := st_cmp (or_eq (hu64 hr)) ok_eq ha hb hm
theorem st_ne (hr : Room k X.A) (ha : SE X ea a) (hb : SE X eb b) (hm : behindInMarks .NotEq b = false := by rfl) : STt X (tBl (eOp opNe (es2 ea eb))) (.Compare a [.NotEq] [b] pos) := st_cmp (or_ne (hu64 hr)) ok_ne ha hb hm
theorem st_in (hr : Room k X.A) (ha : SE X ea a) (hb : SE X eb b) (hm : behindInMarks .In b = false := by rfl) : STt X (tBl (eOp (opIn false) (es2 ea eb))) (.Compare a [.In] [b] pos) := st_cmp (or_in (hu65 hr)) ok_in ha hb hm
theorem st_ni (hr : Room k X.A) (ha : SE X ea a) (hb : SE X eb b) (hm : behindInMarks .NotIn b = false := by rfl) : STt X (tBl (eOp (opIn true) (es2 ea eb))) (.Compare a [.NotIn] [b] pos) := st_cmp (or_ni (hu65 hr)) ok_ni ha hb hm
end
section
variable {X : Cx} {e : Expr} {es : List Expr} {ev : EvEs} {p pos : Pos} {k : Nat}
theorem se_len (hm : X.mg "len" = none) (h : SEs X ev [e]) (hg : Gl X "len" := by rfl) (he : starEach (e :: []) X.env = (false, eval e X.env) :: starEach [] X.env := by rfl) : SE X (eOp opLen ev) (.Call (.Name "len" p) [e] [] pos) := se_bf call_len ok_len hm h PySem.boot_len hg (by decide) (by decide) he rfl
theorem se_abs (hm : X.mg "abs" = none) (h : SEs X ev [e]) (hg : Gl X "abs" := by rfl) (he : starEach (e :: []) X.env = (false, eval e X.env) :: starEach [] X.env := by rfl) : SE X (eOp opAbs ev) (.Call (.Name "abs" p) [e] [] pos) := se_bf call_abs ok_abs hm h (by decide +kernel) hg (by decide) (by decide) he rfl
theorem se_all (hc : X.calm = true) (hm : X.mg "all" = none) (h : SEs X ev [e]) (hg : Gl X "all" := by rfl) (he : starEach (e :: []) X.env = (false, eval e X.env) :: starEach [] X.env := by rfl) : SE X (eOp (opAll fun bs => bs.all id) ev) (.Call (.Name "all" p) [e] [] pos) := se_bf (cr_all hc) ok_all hm h (by decide +kernel) hg (by decide) (by decide) he rfl
theorem se_any (hc : X.calm = true) (hm : X.mg "any" = none) (h : SEs X ev [e]) (hg : Gl X "any" := by rfl) (he : starEach (e :: []) X.env = (false, eval e X.env) :: starEach [] X.env := by rfl) : SE X (eOp (opAll fun bs => bs.any id) ev) (.Call (.Name "any" p) [e] [] pos) := se_bf (cr_any hc) ok_all hm h (by decide +kernel) hg (by decide) (by decide) he rfl
theorem se_repr (hA : X.A.guards = some []) (hr : Room k X.A) (hm : X.mg "repr" = none) (h : SEs X ev [e]) (hg : Gl X "repr" := by rfl) (he : starEach (e :: []) X.env = (false, eval e X.env) :: starEach [] X.env := by rfl) : SE X (eOp opRepr ev) (.Call (.Name "repr" p) [e] [] pos) := se_bf (call_repr hA (hu65 hr)) ok_repr hm h (by decide +kernel) hg (by decide) (by decide) he rfl
theorem se_int1 (hm : X.mg "int" = none) (h : SEs X ev [e]) (hg : Gl X "int" := by rfl) (he : starEach (e :: []) X.env = (false, eval e X.env) :: starEach [] X.env := by rfl) : SE X (eOp opInt ev) (.Call (.Name "int" p) [e] [] pos) := se_bt call_int1 ok_int hm h (by decide +kernel) hg (by decide) (by decide) he rfl
variable {f : Expr}
theorem se_max2 (hc : X.calm = true) (hm : X.mg "max" = none) (h : SEs X ev [e, f]) (hg : Gl X "max" := by rfl) (he : starEach (e :: [f]) X.env = (false, eval e X.env) :: starEach [f] X.env := by rfl) (hpl : (backTo pos (starEach [f] X.env)).any (·.1) = false := by rfl) : SE X (eOp opMax2 ev) (.Call (.Name "max" p) [e, f] [] pos) := se_bf (call_max2 hc) ok_max2 hm h (by decide +kernel) hg (by decide) (by decide) he hpl
theorem se_min2 (hc : X.calm = true) (hm : X.mg "min" = none) (h : SEs X ev [e, f]) (hg : Gl X "min" := by rfl) (he : starEach (e :: [f]) X.env = (false, eval e X.env) :: starEach [f] X.env := by rfl) (hpl : (backTo pos (starEach [f] X.env)).any (·.1) = false := by rfl) : SE X (eOp opMin2 ev) (.Call (.Name "min" p) [e, f] [] pos) := se_bf (call_min2 hc) ok_min2 hm h (by decide +kernel) hg (by decide) (by decide) he hpl
theorem se_divmod (hm : X.mg "divmod" = none) (h : SEs X ev [e, f]) (hg : Gl X "divmod" := by rfl) (he : starEach (e :: [f]) X.env = (false, eval e X.env) :: starEach [f] X.env := by rfl) (hpl : (backTo pos (starEach [f] X.env)).any (·.1) = false := by rfl) : SE X (eOp opDivmod ev) (.Call (.Name "divmod" p) [e, f] [] pos) := se_bf call_divmod ok_divmod hm h (by decide +kernel) hg (by decide) (by decide) he hpl
end
/-- how arguments come to a def's parameters, none of them left out -/
theorem Fun.bd {K : PySem.W.Frag} {x qual : Str} {st : Stmt} {f : Addr} {fd : FuncData} {ps ks : List Str} {n np : Nat} {idx : List Nat} (F : Fun K x qual st f fd)
    (h : ∀ (kV doc pm : Value) (an : Option Addr) (cdv ct : Value) (us : List Value), us.length = n → bindArgs (PySem.W.fnOf x qual (defArgs st) (defBody st) (defScope st) .none kV doc pm an cdv ct) ⟨us.take np, ks.zip (us.drop np)⟩ = pure (ps.zip (pk idx us))) : Bd fd ps n np ks idx := by
  obtain ⟨oc, od, kV, doc, pm, an, cdv, ct, osl, rfl, lk, hcd⟩ := F.ex
  exact fun s us hl => .of_eq (h kV doc pm an cdv ct us hl)
end DX
/-! DXNest: x[k].append(e), the inner list owned too. -/
namespace DX
open PySem PySem.Spec PyProof.Rows L2

section
variable {K : PySem.W.Frag} {X : Cx} {R : List Nat}
theorem ROs.inner {G H : Hp} : ∀ {vs : List V} {xs : List OD} {f : FP} {j : Nat} {ys : List OD}, ROs K G H vs xs f → xs[j]? = some (.lst ys) →
    ∃ (p : Addr) (us : List V) (g0 fr : FP), vs[j]? = some (.ref p) ∧ H p = some (.lst us) ∧ ROs K G H us ys g0 ∧ (∀ a, f a = (if a = p then 1 else 0) + g0 a + fr a) ∧
      ∀ (H' : Hp) (us' : List V) (ys' : List OD) (g' : FP), (∀ a u, fr a ≠ 0 → H a = some u → H' a = some u) → H' p = some (.lst us') → ROs K G H' us' ys' g' →
        ∃ f', ROs K G H' vs (xs.set j (.lst ys')) f' ∧ ∀ a, f' a = (if a = p then 1 else 0) + g' a + fr a
  | _, _, _, _, _, .nil, h => by simp at h
  | _, _, _, 0, ys, .cons (g := g) q r, h => by
    simp at h; subst h
    cases q with
    | lst hp hr =>
      exact ⟨_, _, _, g, rfl, hp, hr, fun a => rfl, fun H' us' ys' g' k hp' q' => ⟨_, .cons (.lst hp' q') (r.mono (Sub.refl _) k), fun a => rfl⟩⟩
  | _, _, _, j + 1, ys, .cons (f := f₀) (g := g) q r, h => by
    obtain ⟨p, us, g0, fr, h1, h2, h3, h4, h5⟩ := ROs.inner (j := j) r (by simpa using h)
    refine ⟨p, us, g0, fun a => f₀ a + fr a, by simpa using h1, h2, h3, fun a => by (try dsimp only); rw [h4]; omega, fun H' us' ys' g' k hp' q' => ?_⟩
    obtain ⟨f', k1, k2⟩ := h5 H' us' ys' g' (fun a u z e => k a u (by (try dsimp only); omega) e) hp' q'
    exact ⟨_, .cons (q.mono (Sub.refl _) fun a u z e => k a u (by (try dsimp only); omega) e) k1, fun a => by (try dsimp only); rw [k2]; omega⟩
def sAppIx (i : Nat) (ek ev : EvE) : EvS := fun os => match os[i]? with
  | some (some (.lst _)) => match ek os with
    | some (rk, os1) => match rk.rd os1, os1[i]? with
      | some (.int k), some (some (.lst xs)) => match ixN xs.length k with
        | some j => match xs[j]? with
          | some (.lst ys) => match ev (os1.set i none) with
            | some (.tm o, os2) => match os2[i]? with
              | some none => if ys.length < sizeLine then some (.nx (os2.set i (some (.lst (xs.set j (.lst (ys ++ [o]))))))) else none
              | _ => none
            | _ => none
          | _ => none
        | none => none
      | _, _ => none
    | none => none
  | _ => none
theorem sr_appIx {i : Nat} {ek ev : EvE} {tk te : TE} (hk : ER K ek tk) (h : ER K ev te) : SR K R (sAppIx i ek ev) (tDrop (tBM K "list" rAppend (tOp (rIx K) (tVar i) tk) (tCons te tNil))) := fun σ G H os f res D hl I e k => by
  unfold sAppIx at e
  split at e
  · rename_i zs e0
    obtain ⟨v0, _, _, w1, w2, _⟩ := I.sl.at e0
    have w3 : ∃ p, v0 = .ref p := by
      cases w2 with
      | lst hp _ => exact ⟨_, rfl⟩
    obtain ⟨p0, rfl⟩ := w3
    split at e
    · rename_i rk os1 e1
      split at e
      · rename_i kk xs e2 e3
        split at e
        · rename_i j e4
          split at e
          · rename_i ys e5
            split at e
            · rename_i o os2 e6
              split at e
              · rename_i e7
                split at e
                · rename_i hsz
                  cases e
                  refine ⟨.ref p0, w1, ?_⟩
                  refine hk σ [] G H os [] f rk os1 _ hl rfl (by simpa using I) e1 fun vk H1 k1 => ?_
                  have hv := k1.read1 rfl e2
                  cases hv
                  obtain ⟨G1, f1, I1, s1, l1⟩ := k1.drop rfl
                  have I1 : SI K G1 H1 σ os1 f1 := by simpa using I1
                  obtain ⟨w, fo, fr, m1, m2, m3, m4⟩ := SL.out I1.sl e3
                  rw [w1] at m1; cases m1
                  cases m2 with
                  | lst hp0 hro =>
                    rename_i vs0 g00
                    obtain ⟨p, us, g0, fr1, n1, n2, n3, n4, n5⟩ := hro.inner e5
                    have hat : atI vs0 kk = some (.ref p) := by
                      unfold atI
                      rw [hro.len, e4]
                      exact n1
                    refine .inl ⟨p0, vs0, kk, .ref p, rfl, rfl, .inl (.inl hp0), hat, ?_⟩
                    refine ⟨.inl ⟨rfl, us, .inl (.inl n2)⟩, ?_⟩
                    have hf : ∀ a, f1 a = (if a = p0 then 1 else 0) + g00 a + fr a := fun a => by rw [m3]
                    have J1 : SI K G1 H1 σ (os1.set i none) fr := I1.forget m4 fun a => by rw [hf]; omega
                    refine h σ [] G1 H1 (os1.set i none) [] fr _ os2 _ (by simp [l1]) rfl (by simpa using J1) e6 fun v H2 k2 => ?_
                    obtain ⟨G2, f2, I2, s2, _, l2⟩ := k2
                    have I2 : SI K G2 H2 (σ ++ [some v]) (os2 ++ [some o]) f2 := by simpa [RV.od] using I2
                    obtain ⟨v', fv, f3, ev', qv, rs, hfv⟩ := I2.last l2
                    cases ev'
                    -- what is hidden stands still
                    have hz : ∀ a, (if a = p0 then 1 else 0) + g00 a ≠ 0 → fr a = 0 ∧ H1 a ≠ none ∧ f2 a = 0 ∧ G2 a = none := fun a z => by
                      have one := I1.one a
                      rw [hf] at one
                      have fz : fr a = 0 := by omega
                      have hl1 : H1 a ≠ none := I1.live a (by rw [hf]; omega)
                      refine ⟨fz, hl1, ?_, ?_⟩
                      · by_cases y : f2 a = 0
                        · exact y
                        · rcases s2.fnew a y with t | t
                          · exact absurd fz t
                          · exact absurd t hl1
                      · cases y : G2 a with
                        | none => rfl
                        | some u =>
                          rcases s2.gnew a (by rw [y]; simp) with t | t | t
                          · exact absurd (I1.hid a (by rw [hf]; omega)) t
                          · exact absurd t hl1
                          · exact absurd fz t
                    have keep2 : ∀ a u, (if a = p0 then 1 else 0) + g00 a ≠ 0 → H1 a = some u → H2 a = some u := fun a u z e => s2.keep a u e (hz a z).1
                    have hro2 : ROs K G2 H2 vs0 xs g00 := hro.mono s2.gsub fun a u z e => keep2 a u (by omega) e
                    obtain ⟨p', us', g0', fr1', a1, a2, a3, a4, a5⟩ := hro2.inner e5
                    rw [n1] at a1; cases a1
                    have hp2 : H2 p = some (.lst us) := keep2 p _ (by rw [a4, if_pos (c := p = p) rfl]; omega) n2
                    rw [hp2] at a2; cases a2
                    have np : p ≠ p0 := fun z => by
                      have one := I1.one p0
                      rw [hf, if_pos rfl, a4, if_pos z.symm] at one
                      omega
                    refine ⟨p, us, v, rfl, rfl, hp2, by rw [n3.len]; exact hsz, ?_⟩
                    have out : ∀ a u, a ≠ p → H2 a = some u → (upd H2 p (.lst (us ++ [v]))) a = some u := fun a u z e => by rw [upd_ne z]; exact e
                    have onep : ∀ a, (if a = p0 then 1 else 0) + ((if a = p then 1 else 0) + g0' a + fr1' a) ≤ 1 := fun a => by have := I1.one a; rw [hf, a4] at this; omega
                    have q0 : g0' p = 0 ∧ fr1' p = 0 := by have := onep p; rw [if_pos (c := p = p) rfl] at this; omega
                    have zp := hz p (by rw [a4, if_pos (c := p = p) rfl]; omega)
                    have fvz : fv p = 0 ∧ f3 p = 0 := by
                      have := zp.2.2.1
                      rw [hfv] at this; omega
                    obtain ⟨gk, r1, r2⟩ := ROs.app (a3.mono (G' := G2) (H' := upd H2 p (.lst (us ++ [v]))) (Sub.refl _) fun a u z e => out a u (fun y => by subst y; exact z q0.1) e)
                      (ROs.one (qv.mono (Sub.refl _) fun a u z e => out a u (fun y => by subst y; exact z fvz.1) e))
                    obtain ⟨f6, b1, b2⟩ := a5 (upd H2 p (.lst (us ++ [v]))) (us ++ [v]) (ys ++ [o]) gk (fun a u z e => out a u (fun y => by subst y; exact z q0.2) e) upd_same r1
                    have hp03 : (upd H2 p (.lst (us ++ [v]))) p0 = some (.lst vs0) := out p0 _ (Ne.symm np) (keep2 p0 _ (by rw [if_pos rfl]; omega) hp0)
                    have rs3 := rs.mono (G' := G2) (H' := upd H2 p (.lst (us ++ [v]))) (Sub.refl _) fun a u z e => out a u (fun y => by subst y; exact z fvz.2) e
                    obtain ⟨f7, c1, c2⟩ := SL.into rs3 e7 w1 (.lst hp03 b1)
                    have c3 : ∀ a, f7 a = f3 a + ((if a = p0 then 1 else 0) + ((if a = p then 1 else 0) + (g0' a + fv a) + fr1' a)) := fun a => by rw [c2]; (try dsimp only); rw [b2, r2]
                    have c4 : ∀ a, f7 a = f2 a + ((if a = p0 then 1 else 0) + g00 a) := fun a => by rw [c3, hfv, a4]; omega
                    refine k σ _ ⟨G2, f7, ⟨c1, fun a u z => out a u (fun y => by subst y; rw [zp.2.2.2] at z; cases z) (I2.sub a u z), fun a => ?_, fun a z => ?_⟩, s1.trans ⟨s2.gsub, fun a u z y => ?_, fun a z => ?_, fun a z => ?_, fun a z => ?_⟩, by simp [l2], fun _ _ => rfl⟩
                    · rw [c4]
                      by_cases y : (if a = p0 then 1 else 0) + g00 a = 0
                      · have := I2.one a; omega
                      · have t := hz a y
                        have := I1.one a; rw [hf] at this
                        omega
                    · by_cases y : (if a = p0 then 1 else 0) + g00 a = 0
                      · rw [c4, y] at z
                        exact I2.hid a (by omega)
                      · exact (hz a y).2.2.2
                    · refine out a u (fun t => ?_) (s2.keep a u z (by rw [hf] at y; omega))
                      subst t
                      rw [hf, a4, if_pos (c := a = a) rfl] at y
                      omega
                    · by_cases t : a = p
                      · subst t; rw [upd_same]; simp
                      · rw [upd_ne t]; exact s2.dom a z
                    · rcases s2.gnew a z with t | t | t
                      · exact .inl t
                      · exact .inr (.inl t)
                      · exact .inr (.inr (by rw [hf]; omega))
                    · rw [c4] at z
                      by_cases y : (if a = p0 then 1 else 0) + g00 a = 0
                      · rcases s2.fnew a (by omega) with t | t
                        · exact .inl (by rw [hf]; omega)
                        · exact .inr t
                      · exact .inl (by rw [hf]; omega)
                · cases e
              · cases e
            · cases e
          · cases e
        · cases e
      · cases e
    · cases e
  · cases e
theorem ss_appIx (i : Nat) {x : Str} {ie e : Expr} {ek ev : EvE} {px spos apos cpos pos : Pos} (hk : SE X ek ie) (h : SE X ev e) (hN : X.N[i]? = some x := by rfl) (hv : Vis X.env.scope x := by first | exact Or.inl rfl | exact Or.inr (Or.inl rfl) | exact Or.inr (Or.inr rfl))
    (hpi : PlainIx ie := by exact fun _ _ => rfl) (hd : (x == ("__debug__" : Str)) = false := by decide) (hcd : (x == ("__classdict__" : Str)) = false := by decide) (hst : starEach (e :: []) X.env = (false, eval e X.env) :: starEach [] X.env := by rfl)
    (hbase : attributeBase (.Subscript (.Name x px) ie spos) "append" X.env (eval (.Subscript (.Name x px) ie spos) X.env) = eval (.Subscript (.Name x px) ie spos) X.env := by rfl)
    (hfew : ((backTo cpos (starEach (e :: []) X.env)).all (fun x => !x.1) && (backToKw cpos (keywordEach [] X.env)).all (fun x => x.1.isSome) && decide ((e :: ([] : List Expr)).length + ([] : List Keyword).length + (if ([] : List Keyword).isEmpty then 0 else 1) < 30)) = true := by rfl)
    (hs : swapsWith (.Call (.Attribute (.Subscript (.Name x px) ie spos) "append" apos) [e] [] cpos) none pos.line X.env = pure false := by rfl) (hline : (apos.endLine == cpos.line) = true := by rfl) :
    SS X R (sAppIx i ek ev) (.Expr (.Call (.Attribute (.Subscript (.Name x px) ie spos) "append" apos) [e] [] cpos) pos) := by
  obtain ⟨te, p, q⟩ := h
  obtain ⟨tk, p', q'⟩ := hk
  exact ⟨_, ps_expr (pe_bm PySem.F.plainAttrs_list PySem.F.slot_list_append PySem.F.type_list_append mt_append (pe_ix ix_seq (pe_var hN hv hd hcd) p' hpi) (pa_cons p pa_nil hst) hbase hfew hline hst (by rfl)) hs, sr_appIx q' q⟩
end
end DX
/-! DXSimp: the worths as chains of bind, for simp. -/
namespace DX
open PySem PySem.Spec PyProof.Rows L2

def bool? : PyData → Option Bool
  | .bool b => some b
  | _ => none
def int? : PyData → Option Int
  | .int i => some i
  | _ => none
def str? : PyData → Option Str
  | .str x => some x
  | _ => none
section
variable {os : En} {R : List Nat} {i j l n : Nat}
theorem b_esCons {ea : EvE} {er : EvEs} : esCons ea er os = (ea os).bind fun p => (er p.2).bind fun q => some (p.1 :: q.1, q.2) := by
  unfold esCons
  cases ea os with
  | none => rfl
  | some p =>
    cases h : er p.2 with
    | none => simp [h]
    | some q => simp [h]
theorem b_opV {rs : List RV} {d : PyData} : opOut os rs (.val d) = cond (isSc d) (.tm (.sh d), os) (.tm (.sh d), softAll os rs) := by
  simp only [opOut]; cases isSc d <;> rfl
theorem b_opL {rs : List RV} {es : List PyData} : opOut os rs (.nl es) = (.tm (.lst (es.map OD.sh)), softAll os rs) := rfl
theorem b_opT {rs : List RV} {es : List PyData} : opOut os rs (.nt es) = (.tm (.sh (.tuple es)), softAll os rs) := rfl
theorem b_eOp {fn : List PyData → Option Op} {es : EvEs} : eOp fn es os = (es os).bind fun p => (rdAll p.2 p.1).bind fun ds => (fn ds).bind fun res => some (opOut p.2 p.1 res) := by
  unfold eOp
  cases es os with
  | none => rfl
  | some p =>
    simp only [Option.bind_some]
    cases rdAll p.2 p.1 with
    | none => rfl
    | some ds =>
      simp only [Option.bind_some]
      cases fn ds <;> rfl
theorem b_rdNil : rdAll os [] = some [] := rfl
theorem b_rdCons {r : RV} {rs : List RV} : rdAll os (r :: rs) = (r.rd os).bind fun d => (rdAll os rs).bind fun ds => some (d :: ds) := by
  show (match r.rd os, rdAll os rs with | some d, some ds => some (d :: ds) | _, _ => none) = _
  cases r.rd os <;> cases rdAll os rs <;> rfl
theorem b_rdT {o : OD} : (RV.tm o).rd os = some o.er := rfl
theorem b_rdA : (RV.al i).rd os = (os[i]?).bind fun s => s.bind fun o => some o.er := by
  show (match os[i]? with | some (some o) => some o.er | _ => none) = _
  cases os[i]? with
  | none => rfl
  | some s => cases s <;> rfl
theorem b_erS {d : PyData} : (OD.sh d).er = d := rfl
theorem b_erTp {xs : List OD} : (OD.tpl xs).er = .tuple (xs.map OD.er) := by show PyData.tuple (OD.ers xs) = _; rw [ers_map]
theorem b_erL {xs : List OD} : (OD.lst xs).er = .list (xs.map OD.er) := by show PyData.list (OD.ers xs) = _; rw [ers_map]
theorem b_eVar : eVar i os = (os[i]?).bind fun s => s.bind fun _ => some (.al i, os) := by
  unfold eVar
  cases os[i]? with
  | none => rfl
  | some s => cases s <;> rfl
theorem b_eC {d : PyData} : eC d os = some (.tm (.sh d), os) := rfl
theorem b_esNil : esNil os = some ([], os) := rfl
theorem b_tTru {ev : EvE} : tTru ev os = (ev os).bind fun p => (p.1.rd p.2).bind fun d => (trD d).bind fun b => some (b, p.2) := by
  unfold tTru
  cases ev os with
  | none => rfl
  | some p =>
    simp only [Option.bind_some]
    cases p.1.rd p.2 with
    | none => rfl
    | some d =>
      simp only [Option.bind_some]
      cases trD d <;> rfl
theorem b_tBl {ev : EvE} : tBl ev os = (ev os).bind fun p => (p.1.rd p.2).bind fun d => (bool? d).bind fun b => some (b, p.2) := by
  unfold tBl
  cases ev os with
  | none => rfl
  | some p =>
    simp only [Option.bind_some]
    cases p.1.rd p.2 with
    | none => rfl
    | some d => cases d <;> rfl
theorem b_tAnd {a b : EvT} : tAndD a b os = (a os).bind fun p => cond p.1 (b p.2) (some (false, p.2)) := by
  unfold tAndD
  cases a os with
  | none => rfl
  | some p => obtain ⟨c, q⟩ := p; cases c <;> rfl
theorem b_tOr {a b : EvT} : tOrD a b os = (a os).bind fun p => cond p.1 (some (true, p.2)) (b p.2) := by
  unfold tOrD
  cases a os with
  | none => rfl
  | some p => obtain ⟨c, q⟩ := p; cases c <;> rfl
theorem b_tNot {a : EvT} : tNotD a os = (a os).bind fun p => some (!p.1, p.2) := by
  unfold tNotD
  cases a os <;> rfl
theorem b_eAnd {a b : EvE} : eAnd a b os = (a os).bind fun p => (p.1.rd p.2).bind fun d => (trD d).bind fun c => cond c (b p.2) (some p) := by
  unfold eAnd
  cases a os with
  | none => rfl
  | some p =>
    simp only [Option.bind_some]
    cases p.1.rd p.2 with
    | none => rfl
    | some d =>
      simp only [Option.bind_some]
      cases trD d with
      | none => rfl
      | some c => cases c <;> rfl
theorem b_eOr {a b : EvE} : eOr a b os = (a os).bind fun p => (p.1.rd p.2).bind fun d => (trD d).bind fun c => cond c (some p) (b p.2) := by
  unfold eOr
  cases a os with
  | none => rfl
  | some p =>
    simp only [Option.bind_some]
    cases p.1.rd p.2 with
    | none => rfl
    | some d =>
      simp only [Option.bind_some]
      cases trD d with
      | none => rfl
      | some c => cases c <;> rfl
theorem b_eNot {a : EvE} : eNot a os = (a os).bind fun p => (p.1.rd p.2).bind fun d => (trD d).bind fun c => some (.tm (.sh (.bool (!c))), p.2) := by
  unfold eNot
  cases a os with
  | none => rfl
  | some p =>
    simp only [Option.bind_some]
    cases p.1.rd p.2 with
    | none => rfl
    | some d =>
      simp only [Option.bind_some]
      cases trD d <;> rfl
theorem b_eIf {t : EvT} {a b : EvE} : eIf t a b os = (t os).bind fun p => cond p.1 (a p.2) (b p.2) := by
  unfold eIf
  cases t os with
  | none => rfl
  | some p => obtain ⟨c, q⟩ := p; cases c <;> rfl
theorem b_eTup {es : EvEs} : eTup es os = (es os).bind fun p => (rdAll p.2 p.1).bind fun ds => cond (Nat.ble ds.length sizeLine) (some (.tm (.sh (.tuple ds)), hardAll p.2 p.1)) none := by
  unfold eTup
  cases es os with
  | none => rfl
  | some p =>
    simp only [Option.bind_some]
    cases rdAll p.2 p.1 with
    | none => rfl
    | some ds =>
      simp only [Option.bind_some]
      by_cases h : ds.length ≤ sizeLine
      · rw [if_pos h, Nat.ble_eq_true_of_le h]; rfl
      · rw [if_neg h, Bool.eq_false_iff.mpr fun z => h (Nat.le_of_ble_eq_true z)]; rfl
theorem b_eLst {es : EvEs} : eLst es os = (es os).bind fun p => (rdAll p.2 p.1).bind fun ds => cond (Nat.ble ds.length sizeLine) (some (.tm (.lst (ds.map OD.sh)), hardAll p.2 p.1)) none := by
  unfold eLst
  cases es os with
  | none => rfl
  | some p =>
    simp only [Option.bind_some]
    cases rdAll p.2 p.1 with
    | none => rfl
    | some ds =>
      simp only [Option.bind_some]
      by_cases h : ds.length ≤ sizeLine
      · rw [if_pos h, Nat.ble_eq_true_of_le h]; rfl
      · rw [if_neg h, Bool.eq_false_iff.mpr fun z => h (Nat.le_of_ble_eq_true z)]; rfl
theorem b_oSome {ev : EvE} : oSome ev os = (ev os).bind fun p => (p.1.rd p.2).bind fun d => (int? d).bind fun i => some (some i, p.2) := by
  unfold oSome
  cases ev os with
  | none => rfl
  | some p =>
    simp only [Option.bind_some]
    cases p.1.rd p.2 with
    | none => rfl
    | some d => cases d <;> rfl
theorem b_oNone : oNone os = some (none, os) := rfl
theorem b_eSl {ea : EvE} {el eh : EvO} : eSl ea el eh os = (ea os).bind fun p => (el p.2).bind fun a => (eh a.2).bind fun b => (rdAll b.2 [p.1]).bind fun ds => (opSl a.1 b.1 ds).bind fun res => some (opOut b.2 [p.1] res) := by
  unfold eSl
  cases ea os with
  | none => rfl
  | some p =>
    simp only [Option.bind_some]
    cases el p.2 with
    | none => rfl
    | some a =>
      simp only [Option.bind_some]
      cases eh a.2 with
      | none => rfl
      | some b =>
        simp only [Option.bind_some]
        cases rdAll b.2 [p.1] with
        | none => rfl
        | some ds =>
          simp only [Option.bind_some]
          cases opSl a.1 b.1 ds <;> rfl
theorem b_eMt {fn : List PyData → Option Op} {ea : EvE} {es : EvEs} : eMtS fn ea es os = (ea os).bind fun p => (p.1.rd p.2).bind fun d => (str? d).bind fun _ => (es p.2).bind fun q => (rdAll q.2 (p.1 :: q.1)).bind fun ds => (fn ds).bind fun res => some (opOut q.2 (p.1 :: q.1) res) := by
  unfold eMtS
  cases ea os with
  | none => rfl
  | some p =>
    simp only [Option.bind_some]
    cases p.1.rd p.2 with
    | none => rfl
    | some d =>
      cases d with
      | str x =>
        simp only [Option.bind_some, str?]
        cases es p.2 with
        | none => rfl
        | some q =>
          simp only [Option.bind_some]
          cases rdAll q.2 (p.1 :: q.1) with
          | none => rfl
          | some ds =>
            simp only [Option.bind_some]
            cases fn ds <;> rfl
      | _ => rfl
theorem b_fn0 {m : List OD → Option OD} {idx : List Nat} {es : EvEs} : eFn0 m n idx es os = (es os).bind fun p => (rdAll p.2 p.1).bind fun ds => cond (Nat.beq p.1.length n && Nat.beq (pk idx ds).length n) ((m ((pk idx ds).map OD.sh)).bind fun r => some (.tm r, cond (isSc r.er && r.isSh) p.2 (hardAll p.2 p.1))) none := by
  unfold eFn0
  cases es os with
  | none => rfl
  | some p =>
    simp only [Option.bind_some]
    cases rdAll p.2 p.1 with
    | none => rfl
    | some ds =>
      simp only [Option.bind_some]
      by_cases h : p.1.length = n ∧ (pk idx ds).length = n
      · rw [if_pos h, h.1, h.2, show Nat.beq n n = true from Nat.beq_refl n]
        cases m ((pk idx ds).map OD.sh) with
        | none => rfl
        | some r =>
          simp only [Option.bind_some]
          cases h1 : isSc r.er <;> cases h2 : r.isSh <;> rfl
      · rw [if_neg h]
        have : (Nat.beq p.1.length n && Nat.beq (pk idx ds).length n) = false := by
          rw [Bool.eq_false_iff]
          intro z
          obtain ⟨z1, z2⟩ := Bool.and_eq_true_iff.mp z
          exact h ⟨Nat.eq_of_beq_eq_true z1, Nat.eq_of_beq_eq_true z2⟩
        rw [this]; rfl
theorem b_sSeq {a b : EvS} : sSeq a b os = (a os).bind fun r => match r with | .nx os1 => b os1 | r => some r := by
  unfold sSeq
  cases a os with
  | none => rfl
  | some r => cases r <;> rfl
theorem b_sIf {t : EvT} {a b : EvS} : sIf t a b os = (t os).bind fun p => cond p.1 (a p.2) (b p.2) := by
  unfold sIf
  cases t os with
  | none => rfl
  | some p => obtain ⟨c, q⟩ := p; cases c <;> rfl
theorem b_sRet {ev : EvE} : sRet ev os = (ev os).bind fun p => (give p.2 p.1).bind fun q => some (.rt q.1 q.2) := by
  unfold sRet
  cases ev os with
  | none => rfl
  | some p =>
    simp only [Option.bind_some]
    cases give p.2 p.1 <;> rfl
def inR (R : List Nat) (i n : Nat) : Bool := R.any (Nat.beq i) || Nat.ble n i
theorem inR_iff : (i ∈ R ∨ n ≤ i) ↔ inR R i n = true := by
  unfold inR
  rw [Bool.or_eq_true, List.any_eq_true]
  constructor
  · rintro (h | h)
    · exact .inl ⟨i, h, Nat.beq_refl i⟩
    · exact .inr (Nat.ble_eq_true_of_le h)
  · rintro (⟨x, h1, h2⟩ | h)
    · have := Nat.eq_of_beq_eq_true h2; subst this; exact .inl h1
    · exact .inr (Nat.le_of_ble_eq_true h)
theorem b_inR {α : Type} {a b : α} : (if i ∈ R ∨ n ≤ i then a else b) = cond (inR R i n) a b := by
  by_cases h : i ∈ R ∨ n ≤ i
  · rw [if_pos h, inR_iff.mp h]; rfl
  · rw [if_neg h, Bool.eq_false_iff.mpr fun z => h (inR_iff.mpr z)]; rfl
theorem b_sAsg {ev : EvE} : sAsg R i ev os = (ev os).bind fun p => cond (inR R i p.2.length) none (match p.1 with
    | .tm o => some (.nx (p.2.set i (some o)))
    | .al j => (cv (hard p.2 (.al j)) (.al j)).bind fun o => some (.nx ((hard p.2 (.al j)).set i (some o)))) := by
  unfold sAsg
  cases ev os with
  | none => rfl
  | some p =>
    obtain ⟨r, os1⟩ := p
    simp only [Option.bind_some]
    rw [b_inR]
    congr 1
    cases r with
    | tm o => rfl
    | al j =>
      show (match (hard os1 (.al j))[j]? with | some (some (.sh d)) => some (Res.nx ((hard os1 (.al j)).set i (some (.sh d)))) | _ => none) = (match (hard os1 (.al j))[j]? with | some (some (.sh d)) => some (OD.sh d) | _ => none).bind _
      cases (hard os1 (.al j))[j]? with
      | none => rfl
      | some s =>
        cases s with
        | none => rfl
        | some o => cases o <;> rfl
theorem b_gvName {d : PyData} : gvName R i d os = cond (inR R i os.length) none (some (os.set i (some (.sh d)))) := by
  unfold gvName; rw [b_inR]
theorem b_gvNil : gvNil [] os = some os := rfl
theorem b_gvCons {a : EvG} {b : EvGs} {d : PyData} {ds : List PyData} : gvCons a b (d :: ds) os = (a d os).bind fun os1 => b ds os1 := by
  unfold gvCons
  simp only
  cases a d os <;> rfl
def tup? : PyData → Option (List PyData)
  | .tuple ds => some ds
  | _ => none
theorem b_gvTup {b : EvGs} {d : PyData} : gvTup n b d os = (tup? d).bind fun ds => cond (Nat.beq ds.length n) (b ds os) none := by
  unfold gvTup
  cases d with
  | tuple ds =>
    simp only [tup?, Option.bind_some]
    by_cases h : ds.length = n
    · rw [if_pos h, h, show Nat.beq n n = true from Nat.beq_refl n]; rfl
    · rw [if_neg h, Bool.eq_false_iff.mpr fun z => h (Nat.eq_of_beq_eq_true z)]; rfl
  | _ => rfl
def lst? : Option OD → Option (List OD)
  | some (.lst xs) => some xs
  | _ => none
theorem b_gvSub {ei : EvE} {d : PyData} : gvSub i ei d os = ((os[i]?).bind lst?).bind fun _ => (ei os).bind fun p => (p.1.rd p.2).bind fun k => (int? k).bind fun k => ((p.2[i]?).bind lst?).bind fun xs => (ixN xs.length k).bind fun j => some (p.2.set i (some (.lst (xs.set j (.sh d))))) := by
  unfold gvSub
  cases h0 : os[i]? with
  | none => rfl
  | some s =>
    cases s with
    | none => rfl
    | some o =>
      cases o with
      | sh _ => rfl
      | tpl _ => rfl
      | lst ys =>
        simp only [Option.bind_some, lst?]
        cases ei os with
        | none => rfl
        | some p =>
          simp only [Option.bind_some]
          cases p.1.rd p.2 with
          | none => rfl
          | some k =>
            cases k with
            | int kk =>
              simp only [Option.bind_some, int?]
              cases p.2[i]? with
              | none => rfl
              | some s2 =>
                cases s2 with
                | none => rfl
                | some o2 =>
                  cases o2 with
                  | sh _ => rfl
                  | tpl _ => rfl
                  | lst xs =>
                    simp only [Option.bind_some, lst?]
                    cases ixN xs.length kk <;> rfl
            | _ => rfl
theorem b_sAsgG {tv : EvG} {ev : EvE} : sAsgG tv ev os = (ev os).bind fun p => (p.1.rd p.2).bind fun d => (tv d (hard p.2 p.1)).bind fun os2 => some (.nx os2) := by
  unfold sAsgG
  cases ev os with
  | none => rfl
  | some p =>
    obtain ⟨r, os1⟩ := p
    simp only [Option.bind_some]
    rw [b_rdCons]
    cases r.rd os1 with
    | none => rfl
    | some d =>
      simp only [Option.bind_some, b_rdNil, hardAll]
      cases tv d (hard os1 r) <;> rfl
theorem b_sApp {ev : EvE} : sApp i ev os = ((os[i]?).bind lst?).bind fun _ => (ev os).bind fun p => (cv (hard p.2 p.1) p.1).bind fun o => (((hard p.2 p.1)[i]?).bind lst?).bind fun xs => cond (Nat.blt xs.length sizeLine) (some (.nx ((hard p.2 p.1).set i (some (.lst (xs ++ [o])))))) none := by
  unfold sApp
  have hb : ∀ (xs : List OD) (a : Option Res), (if xs.length < sizeLine then a else none) = cond (Nat.blt xs.length sizeLine) a none := fun xs a => by
    by_cases h : xs.length < sizeLine
    · rw [if_pos h, show Nat.blt xs.length sizeLine = true from Nat.ble_eq_true_of_le h]; rfl
    · rw [if_neg h, show Nat.blt xs.length sizeLine = false from Bool.eq_false_iff.mpr fun z => h (Nat.le_of_ble_eq_true z)]; rfl
  cases h0 : os[i]? with
  | none => rfl
  | some s =>
    cases s with
    | none => rfl
    | some o =>
      cases o with
      | sh _ => rfl
      | tpl _ => rfl
      | lst ys =>
        simp only [Option.bind_some, lst?]
        cases ev os with
        | none => rfl
        | some p =>
          obtain ⟨r, os1⟩ := p
          simp only [Option.bind_some]
          cases r with
          | tm o =>
            simp only [cv, hard, Option.bind_some]
            cases os1[i]? with
            | none => rfl
            | some s2 =>
              cases s2 with
              | none => rfl
              | some o2 =>
                cases o2 with
                | sh _ => rfl
                | tpl _ => rfl
                | lst xs => simp only [Option.bind_some, lst?]; exact hb xs _
          | al j =>
            have hc : cv (hard os1 (.al j)) (.al j) = (match (hard os1 (.al j))[j]? with | some (some (.sh d)) => some (OD.sh d) | _ => none) := rfl
            rw [hc]
            simp only
            cases (hard os1 (.al j))[j]? with
            | none => rfl
            | some s1 =>
              cases s1 with
              | none => rfl
              | some o1 =>
                cases o1 with
                | lst _ => rfl
                | tpl _ => rfl
                | sh d =>
                  simp only [Option.bind_some]
                  cases (hard os1 (.al j))[i]? with
                  | none => rfl
                  | some s2 =>
                    cases s2 with
                    | none => rfl
                    | some o2 =>
                      cases o2 with
                      | sh _ => rfl
                      | tpl _ => rfl
                      | lst xs => simp only [Option.bind_some, lst?]; exact hb xs _
theorem b_bindCond {α β : Type} {c : Bool} {x y : Option α} {f : α → Option β} : (cond c x y).bind f = cond c (x.bind f) (y.bind f) := by cases c <;> rfl
theorem b_condFst {α β : Type} {c : Bool} {x y : α × β} : (cond c x y).1 = cond c x.1 y.1 := by cases c <;> rfl
theorem b_condSnd {α β : Type} {c : Bool} {x y : α × β} : (cond c x y).2 = cond c x.2 y.2 := by cases c <;> rfl
theorem b_giveT {o : OD} : give os (.tm o) = some (o, os) := rfl
theorem b_sFor {it : EvI} {tv : EvG} {b : EvS} : sFor it tv b os = (it os).bind fun p => forF tv b p.1 p.2 := by
  unfold sFor
  cases it os <;> rfl
theorem b_iSq {ev : EvE} : iSq ev os = (ev os).bind fun p => (p.1.rd p.2).bind fun d => (itemsD d).bind fun ds => some (ds, hard p.2 p.1) := by
  unfold iSq
  cases ev os with
  | none => rfl
  | some p =>
    obtain ⟨r, os1⟩ := p
    simp only [Option.bind_some]
    rw [b_rdCons]
    cases r.rd os1 with
    | none => rfl
    | some d =>
      simp only [Option.bind_some, b_rdNil, hardAll]
      cases itemsD d <;> rfl
theorem b_iR1 {ev : EvE} : iR1 (es1 ev) os = (ev os).bind fun p => (p.1.rd p.2).bind fun d => (int? d).bind fun j => cond (fit62 j) (some (rangeD 0 j.toNat, p.2)) none := by
  unfold iR1
  rw [show es1 ev = esCons ev esNil from rfl, b_esCons]
  cases ev os with
  | none => rfl
  | some p =>
    obtain ⟨r, os1⟩ := p
    simp only [Option.bind_some, b_esNil, b_rdCons, b_rdNil]
    cases r.rd os1 with
    | none => rfl
    | some d =>
      cases d with
      | int j =>
        simp only [Option.bind_some, int?]
        cases fit62 j <;> rfl
      | _ => rfl
theorem b_eLc {own : List Nat} {it : EvI} {tv : EvG} {c : EvT} {ev : EvE} : eLc own it tv c ev os = (it os).bind fun p => (lcF own tv c ev p.1 (wipeE p.2 own) []).bind fun q => some (.tm (.lst q.1), q.2) := by
  unfold eLc
  cases it os with
  | none => rfl
  | some p =>
    simp only [Option.bind_some]
    cases lcF own tv c ev p.1 (wipeE p.2 own) [] <;> rfl
theorem b_lcNil {own : List Nat} {tv : EvG} {c : EvT} {ev : EvE} {acc : List OD} : lcF own tv c ev [] os acc = some (acc, os) := rfl
theorem b_lcCons {own : List Nat} {tv : EvG} {c : EvT} {ev : EvE} {acc : List OD} {d : PyData} {ds : List PyData} : lcF own tv c ev (d :: ds) os acc = (tv d os).bind fun os1 => (c os1).bind fun q => cond q.1
    ((ev q.2).bind fun p => (cv (hard p.2 p.1) p.1).bind fun o => cond (Nat.blt acc.length sizeLine) (lcF own tv c ev ds (wipeE (hard p.2 p.1) own) (acc ++ [o])) none) (lcF own tv c ev ds (wipeE q.2 own) acc) := by
  show (match tv d os with | some os1 => _ | none => none) = _
  cases tv d os with
  | none => rfl
  | some os1 =>
    simp only [Option.bind_some]
    cases c os1 with
    | none => rfl
    | some q =>
      obtain ⟨b, os2⟩ := q
      cases b with
      | false => rfl
      | true =>
        simp only [Option.bind_some, cond_true]
        cases ev os2 with
        | none => rfl
        | some p =>
          obtain ⟨r, os3⟩ := p
          simp only [Option.bind_some]
          cases cv (hard os3 r) r with
          | none => rfl
          | some o =>
            simp only [Option.bind_some]
            by_cases h : acc.length < sizeLine
            · rw [if_pos h, show Nat.blt acc.length sizeLine = true from Nat.ble_eq_true_of_le h]; rfl
            · rw [if_neg h, show Nat.blt acc.length sizeLine = false from Bool.eq_false_iff.mpr fun z => h (Nat.le_of_ble_eq_true z)]; rfl
end
end DX
/-! DXSimp2: what the operations give, kind by kind. -/
namespace DX
open PySem PySem.Spec PyProof.Rows L2

section
variable {os : En} {R : List Nat} {i j l n : Nat} {a b : Int} {x y z : Str} {c : Bool} {ds es : List PyData} {xs : List OD} {d : PyData} {o : OD}
theorem k_bool : bool? (.bool c) = some c := rfl
theorem k_int : int? (.int a) = some a := rfl
theorem k_str : str? (.str x) = some x := rfl
theorem k_tup : tup? (.tuple ds) = some ds := rfl
theorem k_lst : lst? (some (.lst xs)) = some xs := rfl
theorem k_itL : itemsD (.list ds) = some ds := rfl
theorem k_itT : itemsD (.tuple ds) = some ds := rfl
theorem k_itS : itemsD (.str x) = some (signs x) := rfl
theorem k_trN : trD .none = some false := rfl
theorem k_trB : trD (.bool c) = some c := rfl
theorem k_trI : trD (.int a) = some (a != 0) := rfl
theorem k_trS : trD (.str x) = some ((x.length : Int) != 0) := rfl
theorem k_trL : trD (.list ds) = some (!ds.isEmpty) := rfl
theorem k_trT : trD (.tuple ds) = some (!ds.isEmpty) := rfl
theorem k_scN : isSc .none = true := rfl
theorem k_scB : isSc (.bool c) = true := rfl
theorem k_scI : isSc (.int a) = true := rfl
theorem k_scS : isSc (.str x) = true := rfl
theorem k_scL : isSc (.list ds) = false := rfl
theorem k_scT : isSc (.tuple ds) = false := rfl
theorem k_shS : (OD.sh d).isSh = true := rfl
theorem k_shL : (OD.lst xs).isSh = false := rfl
theorem k_softT : soft os (.tm o) = os := rfl
theorem k_hardT : hard os (.tm o) = os := rfl
theorem k_cvT : cv os (.tm o) = some o := rfl
theorem k_softNil : softAll os [] = os := rfl
theorem k_softCons {r : RV} {rs : List RV} : softAll os (r :: rs) = softAll (soft os r) rs := rfl
theorem k_hardNil : hardAll os [] = os := rfl
theorem k_hardCons {r : RV} {rs : List RV} : hardAll os (r :: rs) = hardAll (hard os r) rs := rfl
/-- a shared slot stays as it is -/
theorem k_softA (h : os[i]? = some (some (.sh d))) : soft os (.al i) = os := by
  show (match os[i]? with | some (some o) => if o.flat then os else os.set i (some (.sh o.er)) | _ => os) = os
  rw [h]; rfl
theorem k_softF (h : os[i]? = some (some (.lst xs))) (hf : xs.all OD.isSh = true) : soft os (.al i) = os := by
  show (match os[i]? with | some (some o) => if o.flat then os else os.set i (some (.sh o.er)) | _ => os) = os
  rw [h]
  show (if (OD.lst xs).flat = true then os else _) = os
  rw [show (OD.lst xs).flat = xs.all OD.isSh from rfl, hf]; rfl
theorem k_hardA (h : os[i]? = some (some (.sh d))) : hard os (.al i) = os := by
  show (match os[i]? with | some (some (.lst xs)) => os.set i (some (.sh (OD.lst xs).er)) | some (some (.tpl xs)) => os.set i (some (.sh (OD.tpl xs).er)) | _ => os) = os
  rw [h]
theorem k_hardL (h : os[i]? = some (some (.lst xs))) : hard os (.al i) = os.set i (some (.sh (OD.lst xs).er)) := by
  show (match os[i]? with | some (some (.lst xs)) => os.set i (some (.sh (OD.lst xs).er)) | some (some (.tpl xs)) => os.set i (some (.sh (OD.tpl xs).er)) | _ => os) = _
  rw [h]
theorem k_cvA (h : os[i]? = some (some (.sh d))) : cv os (.al i) = some (.sh d) := by
  show (match os[i]? with | some (some (.sh d)) => some (OD.sh d) | _ => none) = _
  rw [h]
theorem k_giveA (h : os[i]? = some (some (.sh d))) : give os (.al i) = some (.sh d, os) := by
  show (match os[i]? with | some (some (.sh d)) => some (OD.sh d, os) | some (some (.lst xs)) => some (OD.lst xs, os.set i none) | some (some (.tpl xs)) => some (OD.tpl xs, os.set i none) | _ => none) = _
  rw [h]
theorem k_giveL (h : os[i]? = some (some (.lst xs))) : give os (.al i) = some (.lst xs, os.set i none) := by
  show (match os[i]? with | some (some (.sh d)) => some (OD.sh d, os) | some (some (.lst xs)) => some (OD.lst xs, os.set i none) | some (some (.tpl xs)) => some (OD.tpl xs, os.set i none) | _ => none) = _
  rw [h]
theorem k_seqN {b : EvS} : (match Res.nx os with | .nx os1 => b os1 | r => some r) = b os := rfl
theorem k_retR : retOf (.rt o os) = some o := rfl
theorem k_retN : retOf (.nx os) = some (.sh .none) := rfl
-- operations
theorem o_addI : opAdd [.int a, .int b] = some (.val (.int (a + b))) := rfl
theorem o_addS : opAdd [.str x, .str y] = cond (Nat.ble (x.length + y.length) strMax) (some (.val (.str (x ++ y)))) none := by
  simp only [opAdd]
  by_cases h : x.length + y.length ≤ strMax
  · rw [if_pos h, Nat.ble_eq_true_of_le h]; rfl
  · rw [if_neg h, Bool.eq_false_iff.mpr fun z => h (Nat.le_of_ble_eq_true z)]; rfl
theorem o_addL : opAdd [.list ds, .list es] = cond (Nat.ble (ds.length + es.length) sizeLine) (some (.nl (ds ++ es))) none := by
  simp only [opAdd]
  by_cases h : ds.length + es.length ≤ sizeLine
  · rw [if_pos h, Nat.ble_eq_true_of_le h]; rfl
  · rw [if_neg h, Bool.eq_false_iff.mpr fun z => h (Nat.le_of_ble_eq_true z)]; rfl
theorem o_sub : opSub [.int a, .int b] = some (.val (.int (a - b))) := rfl
theorem o_neg : opNeg [.int a] = some (.val (.int (-a))) := rfl
theorem o_ltI : opLt [.int a, .int b] = some (.val (.bool (decide (a < b)))) := rfl
theorem o_leI : opLe [.int a, .int b] = some (.val (.bool (decide (a ≤ b)))) := rfl
theorem o_gtI : opGt [.int a, .int b] = some (.val (.bool (decide (b < a)))) := rfl
theorem o_geI : opGe [.int a, .int b] = some (.val (.bool (decide (b ≤ a)))) := rfl
theorem o_lenS : opLen [.str x] = some (.val (.int x.length)) := rfl
theorem o_lenL : opLen [.list ds] = some (.val (.int ds.length)) := rfl
theorem o_lenT : opLen [.tuple ds] = some (.val (.int ds.length)) := rfl
theorem o_abs : opAbs [.int a] = some (.val (.int (if a < 0 then -a else a))) := rfl
theorem o_max : opMax2 [.int a, .int b] = some (.val (.int (if b > a then b else a))) := rfl
theorem o_int : opInt [.int a] = some (.val (.int a)) := rfl
theorem o_ixL : opIx [.list ds, .int a] = (atI ds a).bind fun d => some (.val d) := by
  simp only [opIx]; cases atI ds a <;> rfl
theorem o_ixT : opIx [.tuple ds, .int a] = (atI ds a).bind fun d => some (.val d) := by
  simp only [opIx]; cases atI ds a <;> rfl
theorem o_ixS : opIx [.str x, .int a] = (atI x.cps.toList a).bind fun c => some (.val (.str ⟨#[c]⟩)) := by
  simp only [opIx]; cases atI x.cps.toList a <;> rfl
theorem o_slS {lo hi : Option Int} : opSl lo hi [.str x] = some (.val (.str (cutS x lo hi))) := rfl
theorem o_slL {lo hi : Option Int} : opSl lo hi [.list ds] = some (.nl (cutD ds lo hi)) := rfl
theorem o_in1 {c : Nat} : opIn false [.str ⟨#[c]⟩, .str y] = some (.val (.bool (decide (c ∈ y.cps.toList)))) := rfl
theorem o_ni1 {c : Nat} : opIn true [.str ⟨#[c]⟩, .str y] = some (.val (.bool (!decide (c ∈ y.cps.toList)))) := rfl
theorem strs_map : ∀ ys : List Str, strs? (ys.map PyData.str) = some ys
  | [] => rfl
  | y :: ys => by simp only [List.map_cons, strs?, strs_map ys]
theorem o_eq (h1 : SeqAt.shaped d = true) {e : PyData} (h2 : SeqAt.shaped e = true) : opEq [d, e] = some (.val (.bool (PyData.eqv d e))) := by
  cases d <;> cases e <;> first | rfl | (simp only [opEq, h1, h2, Bool.and_self, if_true])
theorem o_ne (h1 : SeqAt.shaped d = true) {e : PyData} (h2 : SeqAt.shaped e = true) : opNe [d, e] = some (.val (.bool (!PyData.eqv d e))) := by
  cases d <;> cases e <;> first | rfl | (simp only [opNe, h1, h2, Bool.and_self, if_true])
theorem bools_map : ∀ ys : List Bool, bools? (ys.map PyData.bool) = some ys
  | [] => rfl
  | y :: ys => by simp only [List.map_cons, bools?, bools_map ys]
theorem o_all {f : List Bool → Bool} {ys : List Bool} : opAll f [.list (ys.map PyData.bool)] = some (.val (.bool (f ys))) := by
  simp only [opAll, bools_map]
theorem o_isi {s : String} {r : Bool} (h : kitB (tyN d) s = some r) (nd : ∀ kv, d ≠ .dict kv) : opIsi s [d] = some (.val (.bool r)) := by
  unfold opIsi
  split
  · rename_i q; cases q; exact absurd rfl (nd _)
  · rename_i q; cases q; rw [h]
  · rename_i q1 q2; exact absurd rfl (q2 d)
/-- which data are of a built-in class -/
def isiD (n : String) : PyData → Bool
  | .bool _ => n == "bool" || n == "int"
  | .int _ => n == "int"
  | .str _ => n == "str"
  | .list _ => n == "list"
  | .tuple _ => n == "tuple"
  | _ => false
theorem o_isiD {n : String} (hn : n = "bool" ∨ n = "int" ∨ n = "str" ∨ n = "list" ∨ n = "tuple") (nd : ∀ kv, d ≠ .dict kv) : opIsi n [d] = some (.val (.bool (isiD n d))) := by
  have T : ∀ m ∈ ["NoneType", "bool", "int", "str", "list", "tuple"], ∀ n ∈ ["bool", "int", "str", "list", "tuple"], (kitB m n).isSome = true ∧ kitB m n = some ((m == n) || (m == "bool" && n == "int")) := by decide +kernel
  have hn' : n ∈ ["bool", "int", "str", "list", "tuple"] := by simpa using hn
  have hm : tyN d ∈ ["NoneType", "bool", "int", "str", "list", "tuple"] := by
    cases d with
    | dict kv => exact absurd rfl (nd kv)
    | _ => simp [tyN]
  refine o_isi (((T _ hm _ hn').2).trans ?_) nd
  congr 1
  rcases hn with rfl | rfl | rfl | rfl | rfl <;> cases d <;> first | rfl | exact absurd rfl (nd _)
theorem b_sAug {fn : List PyData → Option Op} {ev : EvE} {d0 : PyData} {d1 : PyData} {r : RV} {os1 : En} (h0 : os[i]? = some (some (.sh d0))) (hs : isSc d0 = true) (hR : i ∉ R) (he : ev os = some (r, os1)) (hr : r.rd os1 = some d) (hf : fn [d0, d] = some (.val d1)) (h1 : isSc d1 = true) :
    sAug R i fn ev os = some (.nx (os1.set i (some (.sh d1)))) := by
  unfold sAug
  rw [h0]
  simp only [hs, hR, not_false_eq_true, and_self, if_true, he, hr, hf, h1]
end
end DX
/-! DXEnum: enumerate of a text. -/
namespace L2
open PySem PySem.Spec PyProof.Rows
/-- the signs of x, each in a new pair -/
def IteS (x : Str) : It :=
  ⟨fun i _ => i < x.cps.size, fun i H v H' => ∃ T c, v = .ref T ∧ H T = none ∧ H' = upd H T (.tup [.int (i : Nat), .str ⟨#[c]⟩]) ∧ x.cps[i]? = some c, fun i _ => x.cps.size ≤ i⟩
theorem draws_sign {prog : Program} {w : World} {A : Around} (hh : A.handled = none) (it : Addr) (x : Str) (t : Tok) :
    Draws prog w A it [it] x.cps.size (fun i v => ∃ c u, x.cps[i]? = some c ∧ v = .str ⟨#[c]⟩ u) (fun i h => h.IsStrIter it (strIterType x) x t i) := by
  unfold strIterType
  cases ha : x.cps.all (· < 128)
  · exact Draws.strWide hh it x t
  · exact Draws.strAscii hh it x t
theorem turn_enumS {P : Program} {w : World} {K : PySem.W.Frag} {elts : List Expr} {kk : Nat} {tpos : Pos} (x : Str) (t : Tok) (e it : Addr) :
    Turn P w K (.Tuple elts kk tpos) (IteS x) [e, it] e (fun i h => (∃ old, IsEnum h e it ((i : Nat) : Int) old) ∧ h.IsStrIter it (strIterType x) x t i ∧ e ≠ it ∧ i ≤ x.cps.size) where
  mem := by simp
  obj := fun i h st b hb => by
    obtain ⟨⟨old, he⟩, ⟨o, ho, hc, hd⟩, _, _⟩ := st
    have e' : b = e ∨ b = it := by simpa using hb
    rcases e' with z | z
    · rw [z]; exact ⟨_, he, fun v q => nomatch q⟩
    · rw [z]; exact ⟨o, ho, fun v q => by rw [hd] at q; cases q⟩
  keep := fun i h h' st k => let ⟨⟨old, he⟩, ⟨o, ho, r⟩, hne, hi⟩ := st; ⟨⟨old, k e (by simp) _ he⟩, ⟨o, k it (by simp) o ho, r⟩, hne, hi⟩
  item := by
    intro X hP hw hK hc i pins s σ H E I hf st hg
    subst hP hw hK
    obtain ⟨⟨old, he⟩, hit, hne, hin⟩ := st
    have hel : e < s.heap.objs.size := Heap.lt_size he
    have hil : it < s.heap.objs.size := by obtain ⟨_, q, _⟩ := hit; exact Heap.lt_size q
    refine wpAny_pyNext_enum_itemD (draws_sign (A := X.A.in1) (I.ok.hd hc) it x t) he hit hg hne (by simpa using hne) fun v h' tk hv ho hit' hT hsz hk => ?_
    obtain ⟨c, u, hcx, rfl⟩ := hv
    refine ⟨_, rfl, wpAny_letOwnedTupleGo_enum (s := { s with heap := h', toks := tk + 1 }) ho fun h'' he' sb => ?_⟩
    have hT2 : h''.get? s.heap.objs.size = some { cls := .type "tuple", data := .seq #[.int i tk, .str ⟨#[c]⟩ u] } := (sb.2 _ (Nat.ne_of_gt hel)).trans hT
    have new : ObjOk X.prog X.w (upd H s.heap.objs.size (.tup [.int (i : Nat), .str ⟨#[c]⟩])) h'' s.heap.objs.size (.tup [.int (i : Nat), .str ⟨#[c]⟩]) :=
      ⟨by show 2 ≤ sizeLine; decide, [.int i tk, .str ⟨#[c]⟩ u], .cons ⟨_, rfl⟩ (.cons ⟨_, rfl⟩ .nil), ⟨_, hT2, rfl, _, rfl⟩⟩
    have I1 : Inv X pins σ (upd H s.heap.objs.size (.tup [.int (i : Nat), .str ⟨#[c]⟩])) { s with heap := h'', toks := tk + 1 } :=
      I.turnedNew (ch := [e, it]) (fun b ob hb q => (sb.2 b (fun z => hb (by simp [z]))).trans (hk b ob (fun z => hb (by simp [z])) (fun z => hb (by simp [z])) q)) hf (Nat.le_refl _) new
    refine ⟨.ref s.heap.objs.size, _, I1, rfl, ⟨_, c, rfl, I.hok.fresh (Nat.le_refl _), rfl, hcx⟩, ⟨⟨Value.str ⟨#[c]⟩ u, ?_⟩, ?_, hne, hg⟩, fun b hb => ?_⟩
    · have e1 : ((i + 1 : Nat) : Int) = (i : Int) + 1 := by omega
      rw [e1]; exact he'
    · obtain ⟨o, ho2, r⟩ := hit'
      exact ⟨o, (sb.2 it (Ne.symm hne)).trans ho2, r⟩
    · have hb' : b < s.heap.objs.size := by
        have e' : b = e ∨ b = it := by simpa using hb
        rcases e' with z | z
        · rw [z]; exact hel
        · rw [z]; exact hil
      rw [upd_ne (Nat.ne_of_lt hb')]
      exact (hf b hb).1
  done := by
    intro X hP hw hK hc i pins s σ H E I hf st hg
    subst hP hw hK
    obtain ⟨⟨old, he⟩, hit, hne, hin⟩ := st
    obtain ⟨f0, f1, f2, f3, f4, f5⟩ := hf it (by simp)
    have hge : x.cps.size ≤ i := hg
    have e0 : i = x.cps.size := Nat.le_antisymm hin hge
    subst e0
    exact wpAny_pyNext_enum_endD (draws_sign (A := X.A.in1) (I.ok.hd hc) it x t) he hit fun h' eb => ⟨rfl, I.turned (t' := s.toks) (fun b o hb q => eb b o hb q) f0 f1 f3 f4 f5⟩
  self := fun A i s Q E st h => let ⟨⟨_, he⟩, _, _, _⟩ := st; wpAny_pyIter_enum he h
def iEnumS (ta : TA) : TI := fun σ H R => ta σ H fun vs H1 => ∃ x, vs = [.str x] ∧ R (IteS x) H1
theorem pi_enumS {X : Cx} {e : Expr} {ta : TA} {p pos tpos : Pos} {elts : List Expr} {kk : Nat} (hg : Gl X "enumerate") (hm : X.mg "enumerate" = none) (ha : PA X [e] ta) (hs : starEach [e] X.env = [(false, eval e X.env)] := by rfl) :
    PI X (.Tuple elts kk tpos) (.Call (.Name "enumerate" p) [e] [] pos) (iEnumS ta) := by
  refine ⟨fun pins s σ H R I h => ?_⟩
  refine Call_ (ld_blt I hg hm boot_enumerate (PyProof.Rows.callWith_type1 (thn (ha.run pos pins s σ H _ I h) fun us s1 ⟨vs, H1, I1, r1, q1⟩ => ?_) hs rfl))
  obtain ⟨x, ex, q⟩ := q1
  subst ex
  cases r1 with
  | cons r rr =>
    cases rr
    obtain ⟨t, rfl⟩ := r
    refine call_enumerate_str fun h' he hit hsz hk => wpAny_pyIter_enum he ?_
    have I2 : Inv X pins σ H1 { s1 with heap := h' } := I1.kept (t' := s1.toks) hk
    refine ⟨s1.heap.objs.size + 1, [s1.heap.objs.size + 1, s1.heap.objs.size], _, _, H1, rfl, I2, turn_enumS x t (s1.heap.objs.size + 1) s1.heap.objs.size, ⟨⟨.none, he⟩, hit, Nat.succ_ne_self _, Nat.zero_le _⟩, fun b hb => ?_, q⟩
    have e' : b = s1.heap.objs.size + 1 ∨ b = s1.heap.objs.size := by simpa using hb
    have hle : s1.heap.objs.size ≤ b := by
      rcases e' with z | z
      · rw [z]; exact Nat.le_add_right _ _
      · rw [z]; exact Nat.le_refl _
    exact I1.fpOk hle (I1.hok.fresh hle)
end L2
namespace DX
open PySem PySem.Spec PyProof.Rows L2
section
variable {K : PySem.W.Frag} {X : Cx}
def iEnS (ev : EvEs) : EvI := fun os => match ev os with
  | some (rs, os1) => match rdAll os1 rs with
    | some [.str x] => some (enumD 0 (signs x), hardAll os1 rs)
    | _ => none
  | none => none
theorem ir_enS {ev : EvEs} {ta : TA} (h : ERs K ev ta) : IR K (iEnS ev) (iEnumS ta) := fun σ τ G H os θ f ds os' Q hl ht I e k => by
  unfold iEnS at e
  split at e
  · rename_i rs os1 e1
    split at e
    · rename_i x e2
      cases e
      refine h σ τ G H os θ f rs _ _ hl ht I e1 fun vs H1 k1 => ?_
      obtain ⟨G1, f1, I1, s1, a1, l1⟩ := k1
      obtain ⟨G2, f2, I2, s2, hd⟩ := I1.popC l1 ht a1 e2
      obtain ⟨w, rfl, hw⟩ := dps1 hd
      cases hw
      have hln : (enumD 0 (signs x)).length = x.cps.size := by rw [enumD_len]; unfold signs; rw [List.length_map]; simp
      refine ⟨x, rfl, k _ H1 G2 f2 I2 (s1.trans s2) (by rw [len_hardAll]; exact l1) fun i G3 H3 g1 g2 => ⟨fun hi => ?_, fun hi => ?_, fun y H4 d hd z => ?_⟩⟩
      · show i < x.cps.size
        omega
      · show x.cps.size ≤ i
        omega
      · obtain ⟨T, c, rfl, hT, rfl, z1⟩ := z
        obtain ⟨d', h1, h2⟩ := enumD_get hd
        subst h2
        have : d' = .str ⟨#[c]⟩ := by
          unfold signs at h1
          rw [List.getElem?_map, Array.getElem?_toList, z1] at h1
          exact (Option.some.inj h1).symm
        subst this
        have := nw_pair (K := K) g2 (.int ((i : Nat) : Int)) (.str ⟨#[c]⟩ (by show 1 ≤ strMax; decide)) hT
        simpa using this
    · cases e
  · cases e
theorem si_enS {a : Expr} {ev : EvEs} {p pos tpos : Pos} {elts : List Expr} {kk : Nat} (hm : X.mg "enumerate" = none) (h : SEs X ev [a]) (hg : Gl X "enumerate" := by rfl) (hs : starEach [a] X.env = [(false, eval a X.env)] := by rfl) : SI' X (.Tuple elts kk tpos) (iEnS ev) (.Call (.Name "enumerate" p) [a] [] pos) := by
  obtain ⟨ta, q1, q2⟩ := h
  exact ⟨_, pi_enumS hg hm q1 hs, ir_enS q2⟩
/-- of a list or a text -/
def iEnA (ev : EvEs) : EvI := fun os => match iEn ev os with
  | some r => some r
  | none => iEnS ev os
theorem ir_or {a b : EvI} {ta tb : TI} (ha : IR K a ta) (hb : IR K b tb) : IR K (fun os => match a os with | some r => some r | none => b os) (fun σ H Q => ta σ H Q ∨ tb σ H Q) := fun σ τ G H os θ f ds os' Q hl ht I e k => by
  dsimp only at e
  split at e
  · rename_i r e1
    cases e
    exact .inl (ha σ τ G H os θ f ds os' Q hl ht I e1 k)
  · exact .inr (hb σ τ G H os θ f ds os' Q hl ht I e k)
theorem si_enA {a : Expr} {ev : EvEs} {p pos tpos : Pos} {elts : List Expr} {kk : Nat} (hm : X.mg "enumerate" = none) (h : SEs X ev [a]) (hg : Gl X "enumerate" := by rfl) (hs : starEach [a] X.env = [(false, eval a X.env)] := by rfl) : SI' X (.Tuple elts kk tpos) (iEnA ev) (.Call (.Name "enumerate" p) [a] [] pos) := by
  obtain ⟨ta, q1, q2⟩ := h
  exact ⟨_, pi_or (pi_enum hg hm q1 hs) (pi_enumS hg hm q1 hs), ir_or (ir_en q2) (ir_enS q2)⟩
end
end DX
/-! DXRun: loops and comprehensions by what a turn does; texts as lists of signs. -/
namespace DX
open PySem PySem.Spec PyProof.Rows L2

/-! ### texts -/
def S (l : List Nat) : Str := ⟨l.toArray⟩
theorem S_l (l : List Nat) : (S l).cps.toList = l := rfl
theorem S_len (l : List Nat) : (S l).length = l.length := rfl
theorem S_of (x : Str) : x = S x.cps.toList := rfl
theorem S_app (l m : List Nat) : S l ++ S m = S (l ++ m) := by
  show Str.mk (l.toArray ++ m.toArray) = Str.mk (l ++ m).toArray
  rw [List.append_toArray]
theorem S_one (c : Nat) : (⟨#[c]⟩ : Str) = S [c] := rfl
theorem S_inj {l m : List Nat} (h : S l = S m) : l = m := by
  have : (S l).cps.toList = (S m).cps.toList := by rw [h]
  exact this
def sgD (c : Nat) : PyData := .str (S [c])
theorem signs_S (l : List Nat) : signs (S l) = l.map sgD := rfl
theorem k_itSS {l : List Nat} : itemsD (.str (S l)) = some (l.map sgD) := rfl
theorem k_trSS {l : List Nat} : trD (.str (S l)) = some ((l.length : Int) != 0) := rfl

/-! ### comprehensions -/
def lcStep (own : List Nat) (tv : EvG) (c : EvT) (ev : EvE) (d : PyData) (os : En) : Option (Option OD × En) :=
  (tv d os).bind fun os1 => (c os1).bind fun q => cond q.1 ((ev q.2).bind fun p => (cv (hard p.2 p.1) p.1).bind fun o => some (some o, wipeE (hard p.2 p.1) own)) (some (none, wipeE q.2 own))
theorem lc_fold {own : List Nat} {tv : EvG} {c : EvT} {ev : EvE} {σ : Type} (E : σ → En) (F : PyData → σ → Option OD × σ) :
    ∀ (ds : List PyData) (s : σ) (acc : List OD), (∀ d s, d ∈ ds → lcStep own tv c ev d (E s) = some ((F d s).1, E (F d s).2)) → acc.length + ds.length ≤ sizeLine →
      ∃ s', lcF own tv c ev ds (E s) acc = some (acc ++ (ds.foldl (fun (p : List OD × σ) d => (p.1 ++ (F d p.2).1.toList, (F d p.2).2)) ([], s)).1, E s') ∧ s' = (ds.foldl (fun (p : List OD × σ) d => (p.1 ++ (F d p.2).1.toList, (F d p.2).2)) ([], s)).2 := by
  have sh : ∀ (ds : List PyData) (s : σ) (a : List OD), ds.foldl (fun (p : List OD × σ) d => (p.1 ++ (F d p.2).1.toList, (F d p.2).2)) (a, s) = (a ++ (ds.foldl (fun (p : List OD × σ) d => (p.1 ++ (F d p.2).1.toList, (F d p.2).2)) ([], s)).1, (ds.foldl (fun (p : List OD × σ) d => (p.1 ++ (F d p.2).1.toList, (F d p.2).2)) ([], s)).2) := by
    intro ds
    induction ds with
    | nil => intro s a; simp
    | cons d ds ih => intro s a; simp only [List.foldl_cons, List.nil_append]; rw [ih, ih (F d s).2 (F d s).1.toList]; simp [List.append_assoc]
  intro ds
  induction ds with
  | nil => intro s acc _ _; exact ⟨s, by simp [b_lcNil], rfl⟩
  | cons d ds ih =>
    intro s acc h hn
    have h1 := h d s List.mem_cons_self
    rw [b_lcCons]
    unfold lcStep at h1
    cases e1 : tv d (E s) with
    | none => rw [e1] at h1; cases h1
    | some os1 =>
      rw [e1] at h1
      simp only [Option.bind_some] at h1 ⊢
      cases e2 : c os1 with
      | none => rw [e2] at h1; cases h1
      | some q =>
        obtain ⟨b, os2⟩ := q
        rw [e2] at h1
        simp only [Option.bind_some] at h1 ⊢
        simp only [List.length_cons] at hn
        cases b with
        | false =>
          simp only [cond_false, Option.some.injEq, Prod.mk.injEq] at h1 ⊢
          obtain ⟨s', i1, i2⟩ := ih (F d s).2 acc (fun d s m => h d s (List.mem_cons_of_mem _ m)) (by omega)
          refine ⟨s', ?_, ?_⟩
          · rw [h1.2, i1]
            simp only [List.foldl_cons, List.nil_append]
            rw [sh ds _ (F d s).1.toList, ← h1.1]
            simp
          · rw [i2]
            simp only [List.foldl_cons, List.nil_append]
            rw [sh ds _ (F d s).1.toList]
        | true =>
          simp only [cond_true] at h1 ⊢
          cases e3 : ev os2 with
          | none => rw [e3] at h1; cases h1
          | some p =>
            rw [e3] at h1
            simp only [Option.bind_some] at h1 ⊢
            cases e4 : cv (hard p.2 p.1) p.1 with
            | none => rw [e4] at h1; cases h1
            | some o =>
              rw [e4] at h1
              simp only [Option.bind_some, Option.some.injEq, Prod.mk.injEq] at h1 ⊢
              have hb : Nat.blt acc.length sizeLine = true := Nat.ble_eq_true_of_le (by omega)
              rw [hb, cond_true]
              obtain ⟨s', i1, i2⟩ := ih (F d s).2 (acc ++ [o]) (fun d s m => h d s (List.mem_cons_of_mem _ m)) (by simp; omega)
              refine ⟨s', ?_, ?_⟩
              · rw [h1.2, i1]
                simp only [List.foldl_cons, List.nil_append]
                rw [sh ds _ (F d s).1.toList, ← h1.1]
                simp [List.append_assoc]
              · rw [i2]
                simp only [List.foldl_cons, List.nil_append]
                rw [sh ds _ (F d s).1.toList]
/-- a comprehension that leaves the slots as they are -/
theorem lc_all {own : List Nat} {tv : EvG} {c : EvT} {ev : EvE} {os : En} (f : PyData → Option OD) (ds : List PyData) (acc : List OD) (h : ∀ d, d ∈ ds → lcStep own tv c ev d os = some (f d, os)) (hn : acc.length + ds.length ≤ sizeLine) :
    lcF own tv c ev ds os acc = some (acc ++ ds.filterMap f, os) := by
  obtain ⟨s', h1, h2⟩ := lc_fold (own := own) (tv := tv) (c := c) (ev := ev) (σ := Unit) (fun _ => os) (fun d _ => (f d, ())) ds () acc (fun d _ m => h d m) hn
  rw [h1]
  congr 3
  clear h h1 h2 hn
  have : ∀ (ds : List PyData) (a : List OD), (ds.foldl (fun (p : List OD × Unit) d => (p.1 ++ (f d).toList, ())) (a, ())).1 = a ++ ds.filterMap f := by
    intro ds
    induction ds with
    | nil => intro a; simp
    | cons d ds ih =>
      intro a
      rw [List.foldl_cons, ih, List.filterMap_cons]
      cases f d <;> simp
  exact (this ds []).trans (List.nil_append _)

theorem lc_map {own : List Nat} {tv : EvG} {c : EvT} {ev : EvE} {os : En} {α : Type} (g : α → PyData) (f : α → Option OD) (xs : List α) (acc : List OD) (h : ∀ x, x ∈ xs → lcStep own tv c ev (g x) os = some (f x, os)) (hn : acc.length + xs.length ≤ sizeLine) :
    lcF own tv c ev (xs.map g) os acc = some (acc ++ xs.filterMap f, os) := by
  induction xs generalizing acc with
  | nil => simp [b_lcNil]
  | cons x xs ih =>
    have h1 := h x List.mem_cons_self
    have h2 : ∀ a : List OD, a.length + xs.length ≤ sizeLine → lcF own tv c ev (xs.map g) os a = some (a ++ xs.filterMap f, os) := fun a ha => ih a (fun y m => h y (List.mem_cons_of_mem _ m)) ha
    rw [List.map_cons, b_lcCons]
    simp only [List.length_cons] at hn
    unfold lcStep at h1
    cases e1 : tv (g x) os with
    | none => rw [e1] at h1; cases h1
    | some os1 =>
      rw [e1] at h1
      simp only [Option.bind_some] at h1 ⊢
      cases e2 : c os1 with
      | none => rw [e2] at h1; cases h1
      | some q =>
        obtain ⟨b, os2⟩ := q
        rw [e2] at h1
        simp only [Option.bind_some] at h1 ⊢
        cases b with
        | false =>
          simp only [cond_false, Option.some.injEq, Prod.mk.injEq] at h1 ⊢
          rw [h1.2, h2 acc (by omega), List.filterMap_cons, ← h1.1]
        | true =>
          simp only [cond_true] at h1 ⊢
          cases e3 : ev os2 with
          | none => rw [e3] at h1; cases h1
          | some p =>
            rw [e3] at h1
            simp only [Option.bind_some] at h1 ⊢
            cases e4 : cv (hard p.2 p.1) p.1 with
            | none => rw [e4] at h1; cases h1
            | some o =>
              rw [e4] at h1
              simp only [Option.bind_some, Option.some.injEq, Prod.mk.injEq] at h1 ⊢
              have hb : Nat.blt acc.length sizeLine = true := Nat.ble_eq_true_of_le (by omega)
              rw [hb, cond_true, h1.2, h2 _ (by simp; omega), List.filterMap_cons, ← h1.1]
              simp [List.append_assoc]
theorem fm_some {α β : Type} (f : α → β) : ∀ xs : List α, xs.filterMap (fun x => some (f x)) = xs.map f
  | [] => rfl
  | x :: xs => by rw [List.filterMap_cons, fm_some f xs]; rfl
theorem lc_mapS {own : List Nat} {tv : EvG} {c : EvT} {ev : EvE} {os : En} {α : Type} (g : α → PyData) (f : α → OD) (xs : List α) (h : ∀ x, x ∈ xs → lcStep own tv c ev (g x) os = some (some (f x), os)) (hn : xs.length ≤ sizeLine) :
    lcF own tv c ev (xs.map g) os [] = some (xs.map f, os) := by
  rw [lc_map g (fun x => some (f x)) xs [] h (by simpa using hn), fm_some]; rfl
theorem hm_of {ev : Nat → EvS} {os : En} {r : OD} (n : Nat) (h : (ev n os).bind retOf = some r) : ∃ n res, ev n os = some res ∧ retOf res = some r := by
  cases e : ev n os with
  | none => rw [e] at h; cases h
  | some res => rw [e] at h; exact ⟨n, res, e, h⟩
theorem hp_of {ev : Nat → EvS} {os : En} {r : OD × OD} (n : Nat) (h : (ev n os).bind retP = some r) : ∃ n res, ev n os = some res ∧ retP res = some r := by
  cases e : ev n os with
  | none => rw [e] at h; cases h
  | some res => rw [e] at h; exact ⟨n, res, e, h⟩

/-! ### for -/
def forStep (tv : EvG) (b : EvS) (d : PyData) (os : En) : Option Res := (tv d os).bind b
/-- I tells the slots by what is still to come; P tells the end -/
theorem for_inv {tv : EvG} {b : EvS} (I : List PyData → En → Prop) (P : Res → Prop) (h0 : ∀ os, I [] os → P (.nx os))
    (h : ∀ d ds os, I (d :: ds) os → ∃ r, forStep tv b d os = some r ∧ match r with
      | .nx os' => I ds os'
      | .ct os' => I ds os'
      | .bk os' => P (.nx os')
      | .rt o os' => P (.rt o os')) : ∀ ds os, I ds os → ∃ r, forF tv b ds os = some r ∧ P r
  | [], os, i => ⟨_, rfl, h0 os i⟩
  | d :: ds, os, i => by
    obtain ⟨r, h1, h2⟩ := h d ds os i
    unfold forStep at h1
    show ∃ r, (match tv d os with | some os1 => _ | none => none) = some r ∧ P r
    cases e1 : tv d os with
    | none => rw [e1] at h1; cases h1
    | some os1 =>
      rw [e1] at h1
      simp only [Option.bind_some] at h1
      dsimp only
      rw [h1]
      cases r with
      | nx os2 => exact for_inv I P h0 h ds os2 h2
      | ct os2 => exact for_inv I P h0 h ds os2 h2
      | bk os2 => exact ⟨_, rfl, h2⟩
      | rt o os2 => exact ⟨_, rfl, h2⟩

/-! ### while -/
/-- I n: at most n turns are still to come -/
theorem wh_inv {t : EvT} {b : EvS} (I : Nat → En → Prop) (P : Res → Prop)
    (h : ∀ n os, I n os → ∃ c os1, t os = some (c, os1) ∧ (c = false → P (.nx os1)) ∧ (c = true → ∃ r, b os1 = some r ∧ match r with
      | .nx os' => ∃ m, m < n ∧ I m os'
      | .ct os' => ∃ m, m < n ∧ I m os'
      | .bk os' => P (.nx os')
      | .rt o os' => P (.rt o os'))) : ∀ k n os, n < k → I n os → ∃ r, whF t b k os = some r ∧ P r
  | 0, _, _, hk, _ => absurd hk (Nat.not_lt_zero _)
  | k + 1, n, os, hk, i => by
    obtain ⟨c, os1, h1, h2, h3⟩ := h n os i
    show ∃ r, (match t os with | some (true, os1) => _ | some (false, os1) => some (Res.nx os1) | none => none) = some r ∧ P r
    rw [h1]
    cases c with
    | false => exact ⟨_, rfl, h2 rfl⟩
    | true =>
      obtain ⟨r, q1, q2⟩ := h3 rfl
      dsimp only
      rw [q1]
      cases r with
      | nx os2 => obtain ⟨m, hm, i2⟩ := q2; exact wh_inv I P h k m os2 (by omega) i2
      | ct os2 => obtain ⟨m, hm, i2⟩ := q2; exact wh_inv I P h k m os2 (by omega) i2
      | bk os2 => exact ⟨_, rfl, q2⟩
      | rt o os2 => exact ⟨_, rfl, q2⟩
theorem wh_eq {t : EvT} {b : EvS} {k : Nat} {os : En} {res : Res} (I : Nat → En → Prop) (n : Nat) (hk : n < k) (hi : I n os)
    (h : ∀ n os, I n os → ∃ c os1, t os = some (c, os1) ∧ (c = false → Res.nx os1 = res) ∧ (c = true → ∃ r, b os1 = some r ∧ match r with
      | .nx os' => ∃ m, m < n ∧ I m os'
      | .ct os' => ∃ m, m < n ∧ I m os'
      | .bk os' => Res.nx os' = res
      | .rt o os' => Res.rt o os' = res)) : whF t b k os = some res := by
  obtain ⟨r, h1, h2⟩ := wh_inv I (fun r => r = res) h k n os hk hi
  rw [h1, h2]
theorem for_eq {tv : EvG} {b : EvS} {ds : List PyData} {os : En} {res : Res} (I : List PyData → En → Prop) (hi : I ds os) (h0 : ∀ os, I [] os → Res.nx os = res)
    (h : ∀ d ds os, I (d :: ds) os → ∃ r, forStep tv b d os = some r ∧ match r with
      | .nx os' => I ds os'
      | .ct os' => I ds os'
      | .bk os' => Res.nx os' = res
      | .rt o os' => Res.rt o os' = res) : forF tv b ds os = some res := by
  obtain ⟨r, h1, h2⟩ := for_inv I (fun r => r = res) h0 h ds os hi
  rw [h1, h2]
theorem wh_bind {α β : Type} {t : EvT} {b : EvS} {k : Nat} {os : En} {f : Res → Option α} {g : α → Option β} {X : Option β} (I : Nat → En → Prop) (P : En → Prop) (n : Nat) (hk : n < k) (hi : I n os)
    (h : ∀ n os, I n os → ∃ c os1, t os = some (c, os1) ∧ (c = false → P os1) ∧ (c = true → ∃ os', b os1 = some (.nx os') ∧ ∃ m, m < n ∧ I m os'))
    (hf : ∀ os', P os' → (f (.nx os')).bind g = X) : ((whF t b k os).bind f).bind g = X := by
  obtain ⟨r, h1, h2⟩ := wh_inv I (fun r => ∃ os', r = .nx os' ∧ P os') (fun n os i => by
    obtain ⟨c, os1, q1, q2, q3⟩ := h n os i
    refine ⟨c, os1, q1, fun z => ⟨_, rfl, q2 z⟩, fun z => ?_⟩
    obtain ⟨os', z1, z2⟩ := q3 z
    exact ⟨_, z1, z2⟩) k n os hk hi
  obtain ⟨os', rfl, h3⟩ := h2
  rw [h1]
  exact hf os' h3
theorem for_bind {α β : Type} {tv : EvG} {b : EvS} {ds : List PyData} {os : En} {f : Res → Option α} {g : α → Option β} {X : Option β} (I : List PyData → En → Prop) (hi : I ds os)
    (h : ∀ d ds os, I (d :: ds) os → ∃ os', forStep tv b d os = some (.nx os') ∧ I ds os')
    (hf : ∀ os', I [] os' → (f (.nx os')).bind g = X) : ((forF tv b ds os).bind f).bind g = X := by
  obtain ⟨r, h1, h2⟩ := for_inv I (fun r => ∃ os', r = .nx os' ∧ I [] os') (fun os i => ⟨os, rfl, i⟩) (fun d ds os i => by
    obtain ⟨os', q1, q2⟩ := h d ds os i
    exact ⟨_, q1, q2⟩) ds os hi
  obtain ⟨os', rfl, h3⟩ := h2
  rw [h1]
  exact hf os' h3
end DX
/-! DXSimp3: more worths as chains of bind. -/
namespace DX
open PySem PySem.Spec PyProof.Rows L2
section
variable {os : En} {R : List Nat} {i j l n : Nat} {a b : Int} {x y z : Str} {c : Bool} {ds es : List PyData} {xs : List OD} {d : PyData} {o : OD}
theorem b_ifD {α : Type} {p : Prop} [h : Decidable p] {a b : α} : (if p then a else b) = cond (decide p) a b := by
  by_cases q : p <;> simp [q]
def al? : RV → Option Nat
  | .al j => some j
  | _ => none
theorem k_alA : al? (.al j) = some j := rfl
def hd? {α : Type} : List α → Option (α × List α)
  | a :: r => some (a, r)
  | [] => none
theorem k_hd {α : Type} {a : α} {r : List α} : hd? (a :: r) = some (a, r) := rfl
theorem k_jn : (some (some o) : Option (Option OD)).bind lst? = lst? (some o) := rfl
theorem b_fnP {m : OD → List OD → Option (OD × OD)} {idx : List Nat} {ev : EvEs} : eFnP m n idx ev os = (ev os).bind fun p => (hd? p.1).bind fun q => (al? q.1).bind fun j => (rdAll p.2 q.2).bind fun ds => (((hardAll p.2 q.2)[j]?).bind lst?).bind fun xs =>
    cond (Nat.beq (q.2.length + 1) n && Nat.beq ((pk idx ds).length + 1) n) ((m (.lst xs) ((pk idx ds).map OD.sh)).bind fun t => some (.tm t.1, (hardAll p.2 q.2).set j (some t.2))) none := by
  unfold eFnP
  cases ev os with
  | none => rfl
  | some p =>
    obtain ⟨rs, os1⟩ := p
    cases rs with
    | nil => rfl
    | cons r rs =>
      cases r with
      | tm o => rfl
      | al j =>
        simp only [Option.bind_some, hd?, al?]
        cases rdAll os1 rs with
        | none => rfl
        | some ds =>
          simp only [Option.bind_some]
          cases (hardAll os1 rs)[j]? with
          | none => rfl
          | some s =>
            cases s with
            | none => rfl
            | some o =>
              cases o with
              | sh _ => rfl
              | tpl _ => rfl
              | lst xs =>
                simp only [Option.bind_some, lst?]
                by_cases h : rs.length + 1 = n ∧ (pk idx ds).length + 1 = n
                · rw [if_pos h, h.1, h.2, show Nat.beq n n = true from Nat.beq_refl n]
                  simp only [Bool.and_self, cond_true]
                  cases m (.lst xs) ((pk idx ds).map OD.sh) with
                  | none => rfl
                  | some t => rfl
                · rw [if_neg h]
                  have : (Nat.beq (rs.length + 1) n && Nat.beq ((pk idx ds).length + 1) n) = false := by
                    rw [Bool.eq_false_iff]
                    intro z
                    obtain ⟨z1, z2⟩ := Bool.and_eq_true_iff.mp z
                    exact h ⟨Nat.eq_of_beq_eq_true z1, Nat.eq_of_beq_eq_true z2⟩
                  rw [this]; rfl
theorem b_cvsNil : cvs os [] = some [] := rfl
theorem b_cvsCons {r : RV} {rs : List RV} : cvs os (r :: rs) = (cv os r).bind fun o => (cvs os rs).bind fun ods => some (o :: ods) := by
  show (match cv os r, cvs os rs with | some o, some ods => some (o :: ods) | _, _ => none) = _
  cases cv os r <;> cases cvs os rs <;> rfl
def two? {α : Type} : List α → Option (α × α)
  | [a, b] => some (a, b)
  | _ => none
def three? {α : Type} : List α → Option (α × α × α)
  | [a, b, c] => some (a, b, c)
  | _ => none
theorem k_two {α : Type} {a b : α} : two? [a, b] = some (a, b) := rfl
theorem k_three {α : Type} {a b c : α} : three? [a, b, c] = some (a, b, c) := rfl
theorem b_sPar {ev : EvEs} : sPar R i j ev os = (ev os).bind fun p => (cvs (hardAll p.2 p.1) p.1).bind fun l => (two? l).bind fun t => cond (inR R i p.2.length || inR R j p.2.length) none (some (.nx (((hardAll p.2 p.1).set i (some t.1)).set j (some t.2)))) := by
  unfold sPar
  cases ev os with
  | none => rfl
  | some p =>
    obtain ⟨rs, os1⟩ := p
    simp only [Option.bind_some]
    cases cvs (hardAll os1 rs) rs with
    | none => rfl
    | some ods =>
      match ods with
      | [] => rfl
      | [_] => rfl
      | _ :: _ :: _ :: _ => rfl
      | [o1, o2] =>
        simp only [Option.bind_some, two?]
        by_cases h : i ∈ R ∨ j ∈ R ∨ os1.length ≤ i ∨ os1.length ≤ j
        · rw [if_pos h]
          have : (inR R i os1.length || inR R j os1.length) = true := by
            rw [Bool.or_eq_true, ← inR_iff, ← inR_iff]
            rcases h with h | h | h | h
            · exact .inl (.inl h)
            · exact .inr (.inl h)
            · exact .inl (.inr h)
            · exact .inr (.inr h)
          rw [this]; rfl
        · rw [if_neg h]
          have : (inR R i os1.length || inR R j os1.length) = false := by
            rw [Bool.eq_false_iff]
            intro z
            rw [Bool.or_eq_true, ← inR_iff, ← inR_iff] at z
            rcases z with (z | z) | (z | z)
            · exact h (.inl z)
            · exact h (.inr (.inr (.inl z)))
            · exact h (.inr (.inl z))
            · exact h (.inr (.inr (.inr z)))
          rw [this]; rfl
theorem b_sPar3 {ev : EvEs} : sPar3 R i j l ev os = (ev os).bind fun p => (cvs (hardAll p.2 p.1) p.1).bind fun q => (three? q).bind fun t => cond (inR R i p.2.length || inR R j p.2.length || inR R l p.2.length) none (some (.nx ((((hardAll p.2 p.1).set i (some t.1)).set j (some t.2.1)).set l (some t.2.2)))) := by
  unfold sPar3
  cases ev os with
  | none => rfl
  | some p =>
    obtain ⟨rs, os1⟩ := p
    simp only [Option.bind_some]
    cases cvs (hardAll os1 rs) rs with
    | none => rfl
    | some ods =>
      match ods with
      | [] => rfl
      | [_] => rfl
      | [_, _] => rfl
      | _ :: _ :: _ :: _ :: _ => rfl
      | [o1, o2, o3] =>
        simp only [Option.bind_some, three?]
        by_cases h : i ∈ R ∨ j ∈ R ∨ l ∈ R ∨ os1.length ≤ i ∨ os1.length ≤ j ∨ os1.length ≤ l
        · rw [if_pos h]
          have : (inR R i os1.length || inR R j os1.length || inR R l os1.length) = true := by
            rw [Bool.or_eq_true, Bool.or_eq_true, ← inR_iff, ← inR_iff, ← inR_iff]
            rcases h with h | h | h | h | h | h
            · exact .inl (.inl (.inl h))
            · exact .inl (.inr (.inl h))
            · exact .inr (.inl h)
            · exact .inl (.inl (.inr h))
            · exact .inl (.inr (.inr h))
            · exact .inr (.inr h)
          rw [this]; rfl
        · rw [if_neg h]
          have : (inR R i os1.length || inR R j os1.length || inR R l os1.length) = false := by
            rw [Bool.eq_false_iff]
            intro z
            rw [Bool.or_eq_true, Bool.or_eq_true, ← inR_iff, ← inR_iff, ← inR_iff] at z
            rcases z with ((z | z) | (z | z)) | (z | z)
            · exact h (.inl z)
            · exact h (.inr (.inr (.inr (.inl z))))
            · exact h (.inr (.inl z))
            · exact h (.inr (.inr (.inr (.inr (.inl z)))))
            · exact h (.inr (.inr (.inl z)))
            · exact h (.inr (.inr (.inr (.inr (.inr z)))))
          rw [this]; rfl
def list? : PyData → Option (List PyData)
  | .list ds => some ds
  | _ => none
theorem b_iEnA {ev : EvE} : iEnA (esCons ev esNil) os = (ev os).bind fun p => (p.1.rd p.2).bind fun d => (((list? d).or ((str? d).map signs))).bind fun ds => some (enumD 0 ds, hard p.2 p.1) := by
  unfold iEnA iEn iEnS
  rw [b_esCons]
  cases ev os with
  | none => rfl
  | some p =>
    obtain ⟨r, os1⟩ := p
    simp only [Option.bind_some, b_esNil, b_rdCons, b_rdNil]
    cases r.rd os1 with
    | none => rfl
    | some d => cases d <;> rfl
theorem k_list : list? (.list ds) = some ds := rfl
theorem b_sAppIx {ek ev : EvE} : sAppIx i ek ev os = ((os[i]?).bind lst?).bind fun _ => (ek os).bind fun p => (p.1.rd p.2).bind fun k => (int? k).bind fun k => ((p.2[i]?).bind lst?).bind fun xs => (ixN xs.length k).bind fun j => (lst? xs[j]?).bind fun ys =>
    (ev (p.2.set i none)).bind fun q => q.1.od.bind fun o => cond ((q.2[i]?).any Option.isNone && Nat.blt ys.length sizeLine) (some (.nx (q.2.set i (some (.lst (xs.set j (.lst (ys ++ [o])))))))) none := by
  unfold sAppIx
  cases h0 : os[i]? with
  | none => rfl
  | some s =>
    cases s with
    | none => rfl
    | some o =>
      cases o with
      | sh _ => rfl
      | tpl _ => rfl
      | lst ys =>
        simp only [Option.bind_some, lst?]
        cases ek os with
        | none => rfl
        | some p =>
          obtain ⟨rk, os1⟩ := p
          simp only [Option.bind_some]
          cases rk.rd os1 with
          | none => rfl
          | some k =>
            cases k with
            | int k =>
              simp only [Option.bind_some, int?]
              cases os1[i]? with
              | none => rfl
              | some s =>
                cases s with
                | none => rfl
                | some o =>
                  cases o with
                  | sh _ => rfl
                  | tpl _ => rfl
                  | lst xs =>
                    simp only [Option.bind_some, lst?]
                    cases ixN xs.length k with
                    | none => rfl
                    | some j =>
                      simp only [Option.bind_some]
                      cases xs[j]? with
                      | none => rfl
                      | some o =>
                        cases o with
                        | sh _ => rfl
                        | tpl _ => rfl
                        | lst ys =>
                          simp only [Option.bind_some]
                          cases ev (os1.set i none) with
                          | none => rfl
                          | some q =>
                            obtain ⟨r, os2⟩ := q
                            cases r with
                            | al _ => rfl
                            | tm o =>
                              simp only [Option.bind_some, RV.od]
                              cases os2[i]? with
                              | none => rfl
                              | some s =>
                                cases s with
                                | some _ => rfl
                                | none =>
                                  simp only [Option.any, Option.isNone, Bool.true_and]
                                  by_cases h : ys.length < sizeLine
                                  · rw [if_pos h, show Nat.blt ys.length sizeLine = true from Nat.ble_eq_true_of_le h]; rfl
                                  · rw [if_neg h, show Nat.blt ys.length sizeLine = false from Bool.eq_false_iff.mpr fun z => h (Nat.le_of_ble_eq_true z)]; rfl
            | _ => rfl
theorem k_odT : (RV.tm o).od = some o := rfl
def sh? : OD → Option PyData
  | .sh d => some d
  | _ => none
theorem k_sh : sh? (.sh d) = some d := rfl
theorem b_sAugI {ev : EvE} : sAug R i (opII (fun _ _ => true) fun i j => .int (i + j)) ev os = (os[i]?).bind fun s => s.bind fun o => (sh? o).bind fun d0 => (int? d0).bind fun a => cond (R.any (Nat.beq i)) none ((ev os).bind fun p => (p.1.rd p.2).bind fun d => (int? d).bind fun b => some (.nx (p.2.set i (some (.sh (.int (a + b))))))) := by
  unfold sAug
  cases h0 : os[i]? with
  | none => rfl
  | some s =>
    cases s with
    | none => rfl
    | some o =>
      cases o with
      | lst _ => rfl
      | tpl _ => rfl
      | sh d0 =>
        simp only [Option.bind_some, sh?]
        have hR : (R.any (Nat.beq i) = true) ↔ i ∈ R := by
          rw [List.any_eq_true]
          constructor
          · rintro ⟨x, h1, h2⟩
            have := Nat.eq_of_beq_eq_true h2; subst this; exact h1
          · exact fun h => ⟨i, h, Nat.beq_refl i⟩
        by_cases q : i ∈ R
        · rw [hR.mpr q, if_neg (fun z => z.2 q)]
          cases d0 <;> rfl
        · rw [Bool.eq_false_iff.mpr fun z => q (hR.mp z)]
          cases d0 with
          | int a =>
            rw [if_pos ⟨rfl, q⟩]
            simp only [int?, Option.bind_some, cond_false]
            cases ev os with
            | none => rfl
            | some p =>
              simp only [Option.bind_some]
              cases p.1.rd p.2 with
              | none => rfl
              | some d => cases d <;> rfl
          | none | bool _ | str _ =>
            rw [if_pos ⟨rfl, q⟩]
            simp only [int?, Option.bind_none]
            cases ev os with
            | none => rfl
            | some p =>
              dsimp only
              cases p.1.rd p.2 with
              | none => rfl
              | some d => cases d <;> rfl
          | list _ | tuple _ | dict _ =>
            rw [if_neg (fun z => nomatch z.1)]
            rfl
theorem o_mul : opMul [.int a, .int b] = cond (mulFits a b) (some (.val (.int (a * b)))) none := by
  show (if mulFits a b = true then _ else _) = _
  cases mulFits a b <;> rfl
theorem o_div : opDiv [.int a, .int b] = cond (divFits a b) (some (.val (.int (divV a b)))) none := by
  show (if divFits a b = true then _ else _) = _
  cases divFits a b <;> rfl
theorem o_mod : opMod [.int a, .int b] = cond (decide (0 < b)) (some (.val (.int (a % b)))) none := by
  show (if decide (0 < b) = true then _ else _) = _
  cases decide (0 < b) <;> rfl
theorem o_pow : opPow [.int a, .int b] = cond (powFits a b) (some (.val (.int (a ^ b.toNat)))) none := by
  show (if powFits a b = true then _ else _) = _
  cases powFits a b <;> rfl
theorem o_divmod : opDivmod [.int a, .int b] = cond (decide (0 < b ∧ b < 1073741824)) (some (.nt [.int (a / b), .int (a % b)])) none := by
  show (if 0 < b ∧ b < 1073741824 then _ else _) = _
  exact b_ifD
theorem o_split : opSplit [.str x, .str y] = cond (decide ((y.length == 0) = false ∧ (Txt.split x y).all (fun y => decide (y.length ≤ strMax)) = true)) (some (.nl ((Txt.split x y).map PyData.str))) none := by
  show (if (y.length == 0) = false ∧ (Txt.split x y).all (fun y => decide (y.length ≤ strMax)) = true then _ else _) = _
  exact b_ifD
theorem o_partition : opPartition [.str x, .str y] = cond (decide ((y.length == 0) = false ∧ (Txt.partition x y).1.length ≤ strMax ∧ (Txt.partition x y).2.1.length ≤ strMax ∧ (Txt.partition x y).2.2.length ≤ strMax)) (some (.nt [.str (Txt.partition x y).1, .str (Txt.partition x y).2.1, .str (Txt.partition x y).2.2])) none := by
  show (if (y.length == 0) = false ∧ (Txt.partition x y).1.length ≤ strMax ∧ (Txt.partition x y).2.1.length ≤ strMax ∧ (Txt.partition x y).2.2.length ≤ strMax then _ else _) = _
  exact b_ifD
theorem o_repr (h : (d.showable && !d.hasDict && decide (d.depth ≤ 64) && decide (d.shown.length ≤ strMax)) = true) : opRepr [d] = some (.val (.str d.shown)) := by
  show (if (d.showable && !d.hasDict && decide (d.depth ≤ 64) && decide (d.shown.length ≤ strMax)) = true then _ else _) = _
  rw [if_pos h]
theorem o_niT {ys : List Str} : opIn true [.str x, .tuple (ys.map PyData.str)] = some (.val (.bool (!ys.contains x))) := by
  show (match strs? (ys.map PyData.str) with | some xs => _ | none => none) = _
  rw [strs_map]; rfl
theorem o_inT {ys : List Str} : opIn false [.str x, .tuple (ys.map PyData.str)] = some (.val (.bool (ys.contains x))) := by
  show (match strs? (ys.map PyData.str) with | some xs => _ | none => none) = _
  rw [strs_map]; rfl
theorem o_inL (h1 : SeqAt.shaped d = true) (h2 : SeqAt.shaped (.list ds) = true) : opIn false [d, .list ds] = some (.val (.bool (ds.any fun z => PyData.eqv z d))) := by
  cases d <;> first | (cases h1; done) | (show (if (SeqAt.shaped _ && SeqAt.shaped (.list ds)) = true then _ else _) = _; rw [h1, h2]; rfl)
theorem o_niL (h1 : SeqAt.shaped d = true) (h2 : SeqAt.shaped (.list ds) = true) : opIn true [d, .list ds] = some (.val (.bool (!(ds.any fun z => PyData.eqv z d)))) := by
  cases d <;> first | (cases h1; done) | (show (if (SeqAt.shaped _ && SeqAt.shaped (.list ds)) = true then _ else _) = _; rw [h1, h2]; rfl)
theorem at_nat {α : Type} (xs : List α) (i : Nat) : atI xs (i : Int) = xs[i]? := by
  unfold atI ixN
  by_cases h : i < xs.length
  · rw [if_pos (by omega), if_pos (by omega)]; rfl
  · rw [if_pos (by omega), if_neg (by omega), List.getElem?_eq_none (by omega)]; rfl
theorem at_zero {α : Type} {c : α} {r : List α} : atI (c :: r) 0 = some c := at_nat (c :: r) 0
theorem at_0 {α : Type} {xs : List α} : atI xs 0 = xs[0]? := at_nat xs 0
theorem at_1 {α : Type} {xs : List α} : atI xs 1 = xs[1]? := at_nat xs 1
theorem at_2 {α : Type} {xs : List α} : atI xs 2 = xs[2]? := at_nat xs 2
theorem at_3 {α : Type} {xs : List α} : atI xs 3 = xs[3]? := at_nat xs 3
theorem at_4 {α : Type} {xs : List α} : atI xs 4 = xs[4]? := at_nat xs 4
theorem at_5 {α : Type} {xs : List α} : atI xs 5 = xs[5]? := at_nat xs 5
theorem ixN_nat {n i : Nat} (h : i < n) : ixN n (i : Int) = some i := by
  unfold ixN
  rw [if_pos (by omega), if_pos (by omega)]; rfl
def hardG : Option (Option OD) → En → Nat → En
  | some (some (.lst xs)), os, i => os.set i (some (.sh (OD.lst xs).er))
  | some (some (.tpl xs)), os, i => os.set i (some (.sh (OD.tpl xs).er))
  | _, os, _ => os
def softG : Option (Option OD) → En → Nat → En
  | some (some o), os, i => cond o.flat os (os.set i (some (.sh o.er)))
  | _, os, _ => os
def cvG : Option (Option OD) → Option OD
  | some (some (.sh d)) => some (.sh d)
  | _ => none
def giveG : Option (Option OD) → En → Nat → Option (OD × En)
  | some (some (.sh d)), os, _ => some (.sh d, os)
  | some (some (.lst xs)), os, i => some (.lst xs, os.set i none)
  | some (some (.tpl xs)), os, i => some (.tpl xs, os.set i none)
  | _, _, _ => none
theorem g_hard : hard os (.al i) = hardG os[i]? os i := by
  show (match os[i]? with | some (some (.lst xs)) => os.set i (some (.sh (OD.lst xs).er)) | some (some (.tpl xs)) => os.set i (some (.sh (OD.tpl xs).er)) | _ => os) = _
  cases os[i]? with
  | none => rfl
  | some s =>
    cases s with
    | none => rfl
    | some o => cases o <;> rfl
theorem g_soft : soft os (.al i) = softG os[i]? os i := by
  show (match os[i]? with | some (some o) => if o.flat then os else os.set i (some (.sh o.er)) | _ => os) = _
  cases os[i]? with
  | none => rfl
  | some s =>
    cases s with
    | none => rfl
    | some o =>
      show (if o.flat = true then os else _) = cond o.flat _ _
      cases o.flat <;> rfl
theorem g_cv : cv os (.al i) = cvG os[i]? := by
  show (match os[i]? with | some (some (.sh d)) => some (OD.sh d) | _ => none) = _
  cases os[i]? with
  | none => rfl
  | some s =>
    cases s with
    | none => rfl
    | some o => cases o <;> rfl
theorem g_give : give os (.al i) = giveG os[i]? os i := by
  show (match os[i]? with | some (some (.sh d)) => some (OD.sh d, os) | some (some (.lst xs)) => some (OD.lst xs, os.set i none) | some (some (.tpl xs)) => some (OD.tpl xs, os.set i none) | _ => none) = _
  cases os[i]? with
  | none => rfl
  | some s =>
    cases s with
    | none => rfl
    | some o => cases o <;> rfl
theorem g_hardS : hardG (some (some (.sh d))) os i = os := rfl
theorem g_hardL : hardG (some (some (.lst xs))) os i = os.set i (some (.sh (.list (xs.map OD.er)))) := by
  show os.set i (some (.sh (OD.lst xs).er)) = _
  rw [show (OD.lst xs).er = PyData.list (OD.ers xs) from rfl, ers_map]
theorem g_softS : softG (some (some (.sh d))) os i = os := rfl
theorem g_softL : softG (some (some (.lst xs))) os i = cond (xs.all OD.isSh) os (os.set i (some (.sh (.list (xs.map OD.er))))) := by
  show cond (xs.all OD.isSh) os (os.set i (some (.sh (OD.lst xs).er))) = _
  rw [show (OD.lst xs).er = PyData.list (OD.ers xs) from rfl, ers_map]
theorem g_hardTp : hardG (some (some (.tpl xs))) os i = os.set i (some (.sh (.tuple (xs.map OD.er)))) := by
  show os.set i (some (.sh (OD.tpl xs).er)) = _
  rw [show (OD.tpl xs).er = PyData.tuple (OD.ers xs) from rfl, ers_map]
theorem g_softTp : softG (some (some (.tpl xs))) os i = os.set i (some (.sh (.tuple (xs.map OD.er)))) := by
  show os.set i (some (.sh (OD.tpl xs).er)) = _
  rw [show (OD.tpl xs).er = PyData.tuple (OD.ers xs) from rfl, ers_map]
theorem g_giveTp : giveG (some (some (.tpl xs))) os i = some (.tpl xs, os.set i none) := rfl
theorem g_cvS : cvG (some (some (.sh d))) = some (.sh d) := rfl
theorem g_giveS : giveG (some (some (.sh d))) os i = some (.sh d, os) := rfl
theorem g_giveL : giveG (some (some (.lst xs))) os i = some (.lst xs, os.set i none) := rfl
theorem g_allSh {ds : List PyData} : (ds.map OD.sh).all OD.isSh = true := by
  rw [List.all_map]; exact List.all_eq_true.mpr fun _ _ => rfl
theorem g_erSh {ds : List PyData} : (ds.map OD.sh).map OD.er = ds := by
  rw [List.map_map]
  exact (List.map_congr_left fun _ _ => rfl).trans (List.map_id ds)
def memB (c : Nat) (l : List Nat) : Bool := decide (c ∈ l)
theorem o_in1S {c : Nat} : opIn false [.str (S [c]), .str y] = some (.val (.bool (memB c y.cps.toList))) := rfl
theorem o_ni1S {c : Nat} : opIn true [.str (S [c]), .str y] = some (.val (.bool (!memB c y.cps.toList))) := rfl
theorem o_ixSS {l : List Nat} : opIx [.str (S l), .int a] = (atI l a).bind fun c => some (.val (.str (S [c]))) := o_ixS
theorem o_allM {α : Type} {f : List Bool → Bool} {g : α → Bool} {ys : List α} : opAll f [.list ((ys.map fun x => OD.sh (.bool (g x))).map OD.er)] = some (.val (.bool (f (ys.map g)))) := by
  rw [List.map_map, show ys.map (OD.er ∘ fun x => OD.sh (.bool (g x))) = (ys.map g).map PyData.bool by rw [List.map_map]; rfl, o_all]
def escs : List PyData → EvEs
  | [] => esNil
  | d :: ds => esCons (eC d) (escs ds)
def tms (ds : List PyData) : List RV := ds.map fun d => .tm (.sh d)
theorem b_escs : ∀ {ds : List PyData}, escs ds os = some (tms ds, os)
  | [] => rfl
  | d :: ds => by
    show esCons (eC d) (escs ds) os = _
    rw [b_esCons, b_eC, Option.bind_some, b_escs]; rfl
theorem b_rdTms : ∀ {ds : List PyData}, rdAll os (tms ds) = some ds
  | [] => rfl
  | d :: ds => by
    show rdAll os (.tm (.sh d) :: tms ds) = _
    rw [b_rdCons, b_rdTms]; rfl
theorem b_hardTms : ∀ {ds : List PyData}, hardAll os (tms ds) = os
  | [] => rfl
  | d :: ds => by
    show hardAll (hard os (.tm (.sh d))) (tms ds) = _
    exact b_hardTms
theorem b_softTms : ∀ {ds : List PyData}, softAll os (tms ds) = os
  | [] => rfl
  | d :: ds => by
    show softAll (soft os (.tm (.sh d))) (tms ds) = _
    exact b_softTms
end
end DX
/-! DXText: split and partition at one sign; cuts. -/
namespace DX
open PySem PySem.Spec PyProof.Rows L2
def splitS (c : Nat) : List Nat → List (List Nat)
  | [] => [[]]
  | x :: r => if x = c then [] :: splitS c r else match splitS c r with
    | h :: t => (x :: h) :: t
    | [] => [[x]]
theorem splitS_ne (c : Nat) (l : List Nat) : splitS c l ≠ [] := by
  cases l with
  | nil => intro h; cases h
  | cons x r =>
    unfold splitS
    split
    · intro h; cases h
    · split <;> (intro h; cases h)
def befS (c : Nat) (l : List Nat) : List Nat := l.takeWhile fun x => x != c
theorem splitS_head (c : Nat) : ∀ l, (splitS c l).head? = some (befS c l)
  | [] => rfl
  | x :: r => by
    unfold splitS befS
    rw [List.takeWhile_cons]
    by_cases h : x = c
    · rw [if_pos h]; simp [h]
    · rw [if_neg h]
      have ih := splitS_head c r
      cases e : splitS c r with
      | nil => exact absurd e (splitS_ne c r)
      | cons a t =>
        rw [e] at ih
        have : a = befS c r := Option.some.inj ih
        subst this
        simp [h, befS]
theorem spl_S (c : Nat) : ∀ (l acc : List Nat), TL.spl [c] 0 acc l = match splitS c l with
    | h :: t => (acc ++ h) :: t
    | [] => []
  | [], acc => by simp [TL.spl, splitS]
  | x :: r, acc => by
    show (if TL.pre [c] (x :: r) = true then acc :: TL.spl [c] 0 [] r else TL.spl [c] 0 (acc ++ [x]) r) = _
    have hp : TL.pre [c] (x :: r) = decide (x = c) := by
      show ([x] == [c]) = _
      rw [Bool.eq_iff_iff]; simp
    rw [hp]
    unfold splitS
    by_cases h : x = c
    · rw [if_pos (decide_eq_true h), if_pos h, spl_S c r []]
      cases e : splitS c r with
      | nil => exact absurd e (splitS_ne c r)
      | cons a t => simp
    · rw [if_neg (by simpa using h), if_neg h, spl_S c r (acc ++ [x])]
      cases e : splitS c r with
      | nil => exact absurd e (splitS_ne c r)
      | cons a t => simp
theorem split_S (c : Nat) (hc : c < 256) (l : List Nat) : Txt.split (S l) (S [c]) = (splitS c l).map S := by
  refine TL.map_tl_inj ?_
  rw [TL.split_spl (S l) (S [c]) (by simp [TL.tl, S_l]) (TL.kind_ok (by show (#[c].all (· < 256)) = true; simp [hc]))]
  show TL.spl [c] 0 [] l = _
  rw [spl_S, List.map_map]
  have : ∀ ls : List (List Nat), ls.map (TL.tl ∘ S) = ls := fun ls => (List.map_congr_left fun _ _ => rfl).trans (List.map_id ls)
  rw [this]
  cases e : splitS c l with
  | nil => exact absurd e (splitS_ne c l)
  | cons a t => simp
theorem befS_mem {c : Nat} : ∀ {l : List Nat}, c ∉ befS c l
  | [] => by simp [befS]
  | x :: r => by
    unfold befS
    rw [List.takeWhile_cons]
    by_cases h : x = c
    · simp [h]
    · have := befS_mem (c := c) (l := r)
      unfold befS at this
      simp [h, this]
      exact fun q => h q.symm
theorem befS_all {c : Nat} : ∀ {l : List Nat}, c ∉ l → befS c l = l
  | [], _ => rfl
  | x :: r, h => by
    have ih := befS_all (c := c) (l := r) (fun q => h (List.mem_cons_of_mem _ q))
    have hx : (x != c) = true := by simp; intro q; exact h (by simp [q])
    unfold befS at ih ⊢
    rw [List.takeWhile_cons, hx, if_pos rfl, ih]
theorem part_S (c : Nat) (l : List Nat) : (Txt.partition (S l) (S [c])).1 = S (befS c l) ∧ (Txt.partition (S l) (S [c])).2.1.length ≤ 1 ∧ (Txt.partition (S l) (S [c])).2.2.length ≤ l.length := by
  by_cases h : c ∈ l
  · obtain ⟨t, ht⟩ : ∃ t, l = befS c l ++ c :: t := by
      have h1 := (List.takeWhile_append_dropWhile (p := fun x => x != c) (l := l)).symm
      cases e : l.dropWhile (fun x => x != c) with
      | nil =>
        rw [e, List.append_nil] at h1
        exact absurd (h1 ▸ h) befS_mem
      | cons y t =>
        have : (y != c) = false := by
          have := List.head?_dropWhile_not (fun x => x != c) l
          rw [e] at this
          simpa using this
        have : y = c := by simpa using this
        subst this
        exact ⟨t, by rw [e] at h1; exact h1⟩
    have e : S l = S (befS c l) ++ S [c] ++ S t := by
      rw [S_app, S_app, List.append_assoc]
      show S l = S (befS c l ++ c :: t)
      rw [← ht]
    have key := TL.partition_app (y := S [c]) (s := c) (S := []) rfl (a := S (befS c l)) (b := S t) befS_mem
    rw [← e] at key
    rw [key]
    refine ⟨rfl, Nat.le_refl 1, ?_⟩
    have hl : l.length = (befS c l ++ c :: t).length := by rw [← ht]
    simp only [List.length_append, List.length_cons] at hl
    show t.length ≤ l.length
    omega
  · have key := TL.partition_none (y := S [c]) (s := c) (S := []) rfl (a := S l) h
    rw [key]
    refine ⟨?_, Nat.zero_le 1, Nat.zero_le _⟩
    show S l = S (befS c l)
    rw [befS_all h]
theorem cut_nat (l : List Nat) {i j : Nat} (h : i ≤ j) : cutS (S l) (some (i : Int)) (some (j : Int)) = S ((l.drop i).take (j - i)) := by
  unfold cutS
  rw [HT.sIx_nat, HT.sIx_nat]
  show S ((l.drop (min i l.length)).take (min j l.length - min i l.length)) = _
  congr 1
  by_cases q : i ≤ l.length
  · rw [Nat.min_eq_left q]
    by_cases r : j ≤ l.length
    · rw [Nat.min_eq_left r]
    · rw [Nat.min_eq_right (by omega), List.take_of_length_le (by rw [List.length_drop]; omega), List.take_of_length_le (by rw [List.length_drop]; omega)]
  · rw [Nat.min_eq_right (by omega : l.length ≤ i), List.drop_of_length_le (Nat.le_refl _), List.drop_of_length_le (by omega)]
    simp
theorem cut_to (l : List Nat) (j : Nat) : cutS (S l) none (some (j : Int)) = S (l.take j) := by
  unfold cutS
  rw [HT.sIx_nat, HT.sIx_none]
  show S ((l.drop 0).take (min j l.length - 0)) = _
  rw [List.drop_zero, Nat.sub_zero]
  congr 1
  by_cases r : j ≤ l.length
  · rw [Nat.min_eq_left r]
  · rw [Nat.min_eq_right (by omega), List.take_of_length_le (Nat.le_refl _), List.take_of_length_le (by omega)]
theorem cut_from (l : List Nat) (i : Nat) : cutS (S l) (some (i : Int)) none = S (l.drop i) := by
  unfold cutS
  rw [HT.sIx_nat, HT.sIx_none]
  show S ((l.drop (min i l.length)).take (l.length - min i l.length)) = _
  congr 1
  by_cases r : i ≤ l.length
  · rw [Nat.min_eq_left r, List.take_of_length_le (by rw [List.length_drop]; exact Nat.le_refl _)]
  · rw [Nat.min_eq_right (by omega), List.drop_of_length_le (Nat.le_refl _), List.drop_of_length_le (by omega)]
    simp
theorem befS_len (c : Nat) : ∀ (l : List Nat), (befS c l).length ≤ l.length
  | [] => Nat.le_refl _
  | x :: r => by
    have ih := befS_len c r
    unfold befS at ih ⊢
    rw [List.takeWhile_cons]
    split
    · simp only [List.length_cons]; omega
    · exact Nat.zero_le _
theorem splitS_len (c : Nat) : ∀ l, (splitS c l).length ≤ l.length + 1
  | [] => Nat.le_refl _
  | x :: r => by
    have ih := splitS_len c r
    unfold splitS
    split
    · simp only [List.length_cons]; omega
    · split
      · rename_i h t e
        rw [e] at ih
        simp only [List.length_cons] at ih ⊢; omega
      · simp
theorem splitS_each (c : Nat) : ∀ (l p : List Nat), p ∈ splitS c l → p.length ≤ l.length
  | [], p, h => by
    simp [splitS] at h; subst h; exact Nat.le_refl _
  | x :: r, p, h => by
    have ih := splitS_each c r
    unfold splitS at h
    split at h
    · rcases List.mem_cons.mp h with q | q
      · subst q; exact Nat.zero_le _
      · have := ih p q; simp only [List.length_cons]; omega
    · split at h
      · rename_i a t e
        rcases List.mem_cons.mp h with q | q
        · subst q
          have := ih a (by rw [e]; exact List.mem_cons_self)
          simp only [List.length_cons]; omega
        · have := ih p (by rw [e]; exact List.mem_cons_of_mem _ q)
          simp only [List.length_cons]; omega
      · simp at h; subst h; simp
theorem S_beq (l m : List Nat) : (S l == S m) = decide (l = m) := by
  rw [Bool.eq_iff_iff, beq_iff_eq, decide_eq_true_eq]
  exact ⟨S_inj, fun h => by rw [h]⟩
theorem o_eqS {l m : List Nat} : opEq [.str (S l), .str (S m)] = some (.val (.bool (decide (l = m)))) := by
  rw [← S_beq]; rfl
theorem o_neS {l m : List Nat} : opNe [.str (S l), .str (S m)] = some (.val (.bool (!decide (l = m)))) := by
  rw [← S_beq]; rfl
theorem I_beq (a b : Int) : (a == b) = decide (a = b) := by
  rw [Bool.eq_iff_iff, beq_iff_eq, decide_eq_true_eq]
theorem o_eqI {a b : Int} : opEq [.int a, .int b] = some (.val (.bool (decide (a = b)))) := by
  rw [o_eq rfl rfl, ← I_beq]; rfl
theorem o_neI {a b : Int} : opNe [.int a, .int b] = some (.val (.bool (!decide (a = b)))) := by
  rw [o_ne rfl rfl, ← I_beq]; rfl
theorem z_ble0 : Nat.ble 0 sizeLine = true := by decide
theorem z_ble1 : Nat.ble 1 sizeLine = true := by decide
theorem z_ble2 : Nat.ble 2 sizeLine = true := by decide
theorem z_ble3 : Nat.ble 3 sizeLine = true := by decide
theorem z_ble4 : Nat.ble 4 sizeLine = true := by decide
theorem z_ble5 : Nat.ble 5 sizeLine = true := by decide
theorem z_ble6 : Nat.ble 6 sizeLine = true := by decide
theorem z_ble7 : Nat.ble 7 sizeLine = true := by decide
theorem z_ble8 : Nat.ble 8 sizeLine = true := by decide
theorem z_ble9 : Nat.ble 9 sizeLine = true := by decide
theorem z_ble10 : Nat.ble 10 sizeLine = true := by decide
theorem z_ble11 : Nat.ble 11 sizeLine = true := by decide
theorem z_ble12 : Nat.ble 12 sizeLine = true := by decide
theorem z_ble13 : Nat.ble 13 sizeLine = true := by decide
theorem z_ble14 : Nat.ble 14 sizeLine = true := by decide
theorem z_ble15 : Nat.ble 15 sizeLine = true := by decide
theorem z_ble16 : Nat.ble 16 sizeLine = true := by decide
theorem z_ble17 : Nat.ble 17 sizeLine = true := by decide
theorem z_ble18 : Nat.ble 18 sizeLine = true := by decide
theorem z_ble19 : Nat.ble 19 sizeLine = true := by decide
theorem z_ble20 : Nat.ble 20 sizeLine = true := by decide
theorem o_partS {c : Nat} {l : List Nat} (h : l.length ≤ strMax) : opPartition [.str (S l), .str (S [c])] = some (.nt [.str (S (befS c l)), .str (Txt.partition (S l) (S [c])).2.1, .str (Txt.partition (S l) (S [c])).2.2]) := by
  obtain ⟨p1, p2, p3⟩ := part_S c l
  have hb := befS_len c l
  have h1 : 1 ≤ strMax := by decide
  have e4 : decide (((S [c]).length == 0) = false ∧ (Txt.partition (S l) (S [c])).1.length ≤ strMax ∧ (Txt.partition (S l) (S [c])).2.1.length ≤ strMax ∧ (Txt.partition (S l) (S [c])).2.2.length ≤ strMax) = true :=
    decide_eq_true ⟨rfl, by rw [p1, S_len]; omega, by omega, by omega⟩
  rw [o_partition, e4, cond_true, p1]
theorem o_splitS {c : Nat} {l : List Nat} (hc : c < 256) (h : l.length ≤ strMax) : opSplit [.str (S l), .str (S [c])] = some (.nl ((splitS c l).map fun x => .str (S x))) := by
  have e : (splitS c l).map (PyData.str ∘ S) = (splitS c l).map fun x => .str (S x) := rfl
  have e4 : decide (((S [c]).length == 0) = false ∧ ((splitS c l).map S).all (fun y => decide (y.length ≤ strMax)) = true) = true := by
    refine decide_eq_true ⟨rfl, ?_⟩
    rw [List.all_map, List.all_eq_true]
    intro p hp
    have := splitS_each c l p hp
    exact decide_eq_true (by show p.length ≤ strMax; omega)
  rw [o_split, split_S c hc, e4, cond_true, List.map_map, e]
theorem layAll : ∀ ds : List PyData, PyData.canLayAll0 ds = ds.all PyData.canLay0
  | [] => rfl
  | d :: ds => by rw [List.all_cons, ← layAll ds]; rfl
theorem depthAll_le {n : Nat} : ∀ ds : List PyData, (∀ d ∈ ds, PyData.depth d ≤ n) → PyData.depthAll ds ≤ n
  | [], _ => Nat.zero_le _
  | d :: ds, h => by
    show max (PyData.depth d) (PyData.depthAll ds) ≤ n
    have h1 := h d List.mem_cons_self
    have h2 := depthAll_le ds fun e m => h e (List.mem_cons_of_mem _ m)
    omega
theorem shaped_list {ds : List PyData} (h : ∀ d ∈ ds, d.canLay0 = true ∧ d.depth ≤ 60) : SeqAt.shaped (.list ds) = true := by
  refine Bool.and_eq_true_iff.mpr ⟨?_, decide_eq_true ?_⟩
  · show PyData.canLayAll0 ds = true
    rw [layAll, List.all_eq_true]; exact fun d m => (h d m).1
  · show PyData.depthAll ds + 1 ≤ 64
    have := depthAll_le ds fun d m => (h d m).2
    omega
theorem shaped_tup {ds : List PyData} (h : ∀ d ∈ ds, d.canLay0 = true ∧ d.depth ≤ 60) : SeqAt.shaped (.tuple ds) = true := by
  refine Bool.and_eq_true_iff.mpr ⟨?_, decide_eq_true ?_⟩
  · show PyData.canLayAll0 ds = true
    rw [layAll, List.all_eq_true]; exact fun d m => (h d m).1
  · show PyData.depthAll ds + 1 ≤ 64
    have := depthAll_le ds fun d m => (h d m).2
    omega
def ascii (l : List Nat) : Bool := l.all fun c => Nat.blt c 128
theorem ascii_ok {l : List Nat} (h : ascii l = true) : PyData.canLay0 (.str (S l)) = true := by
  show PyData.strOk (S l) = true
  show ((l.toArray).all fun c => decide (c < 0x110000)) = true
  rw [List.all_toArray, List.all_eq_true]
  intro c m
  have : c < 128 := Nat.le_of_ble_eq_true (List.all_eq_true.mp h c m)
  exact decide_eq_true (by omega)
theorem ascii_mem {l : List Nat} (h : ascii l = true) {c : Nat} (m : c ∈ l) : c < 128 := Nat.le_of_ble_eq_true (List.all_eq_true.mp h c m)
theorem ascii_of {l : List Nat} (h : ∀ c ∈ l, c < 128) : ascii l = true := List.all_eq_true.mpr fun c m => Nat.ble_eq_true_of_le (h c m)
theorem ascii_app {l m : List Nat} (h1 : ascii l = true) (h2 : ascii m = true) : ascii (l ++ m) = true := by
  unfold ascii at *; rw [List.all_append, h1, h2]; rfl
theorem ascii_sub {l m : List Nat} (h1 : ascii l = true) (h2 : ∀ c ∈ m, c ∈ l) : ascii m = true := ascii_of fun c q => ascii_mem h1 (h2 c q)
theorem k_enS {l : List Nat} : ((list? (.str (S l))).or ((some (S l)).map signs)) = some (l.map sgD) := rfl
theorem k_enL {ds : List PyData} : ((list? (.list ds)).or ((str? (.list ds)).map signs)) = some ds := rfl
theorem atI_last {α : Type} {xs : List α} {a : α} (h : xs.getLast? = some a) : atI xs (-1) = some a := by
  have h0 : 0 < xs.length := by
    cases xs with
    | nil => cases h
    | cons _ _ => simp
  unfold atI ixN
  rw [if_neg (by omega), if_pos (by omega), Option.bind_some, show ((-1 : Int) + (xs.length : Nat)).toNat = xs.length - 1 by omega, ← List.getLast?_eq_getElem?]
  exact h
theorem ixN_last {n : Nat} (h : 0 < n) : ixN n (-1) = some (n - 1) := by
  unfold ixN
  rw [if_neg (by omega), if_pos (by omega), show ((-1 : Int) + (n : Nat)).toNat = n - 1 by omega]
theorem at_m1 {α : Type} {xs : List α} : atI xs (-1) = xs.getLast? := by
  cases h : xs.getLast? with
  | some a => exact atI_last h
  | none => rw [List.getLast?_eq_none_iff.mp h]; rfl
theorem ix_0 {n : Nat} : ixN n 0 = cond (Nat.blt 0 n) (some 0) none := by
  cases n with
  | zero => rfl
  | succ n => exact ixN_nat (i := 0) (Nat.succ_pos n)
theorem ix_1 {n : Nat} : ixN n 1 = cond (Nat.blt 1 n) (some 1) none := by
  by_cases h : 1 < n
  · rw [show Nat.blt 1 n = true from Nat.ble_eq_true_of_le h]; exact ixN_nat (i := 1) h
  · rw [show Nat.blt 1 n = false from Bool.eq_false_iff.mpr fun z => h (Nat.le_of_ble_eq_true z)]
    unfold ixN
    rw [if_pos (by decide), if_neg (by omega)]; rfl
theorem ix_m1 {n : Nat} : ixN n (-1) = cond (Nat.blt 0 n) (some (n - 1)) none := by
  cases n with
  | zero => rfl
  | succ n => exact ixN_last (Nat.succ_pos n)
theorem blt_00 : Nat.blt 0 0 = false := rfl
theorem blt_0s {n : Nat} : Nat.blt 0 (n + 1) = true := by show Nat.ble 1 (n + 1) = true; exact Nat.ble_eq_true_of_le (by omega)
theorem blt_12 : Nat.blt 1 2 = true := rfl
theorem blt_02 : Nat.blt 0 2 = true := rfl
theorem set_last {α : Type} {xs : List α} {a : α} (h : xs ≠ []) : xs.set (xs.length - 1) a = xs.dropLast ++ [a] := by
  conv => lhs; rw [← List.dropLast_concat_getLast h]
  rw [List.set_append_right _ _ (by simp)]
  simp
end DX
/-! DXRepr: data that repr shows within bounds. -/
namespace DX
open PySem PySem.Spec PyProof.Rows L2
mutual
def smB : PyData → Bool
  | .none | .bool _ => true
  | .int i => Nat.blt i.natAbs 1000000000000
  | .str x => PyData.strOk x
  | .list xs | .tuple xs => smAll xs
  | .dict _ => false
def smAll : List PyData → Bool
  | [] => true
  | x :: xs => smB x && smAll xs
end
theorem smAll_all : ∀ ds : List PyData, smAll ds = ds.all smB
  | [] => by rw [smAll]; rfl
  | d :: ds => by rw [List.all_cons, ← smAll_all ds, smAll]
mutual
theorem sm_lay : ∀ d : PyData, smB d = true → d.canLay0 = true
  | .none, _ => rfl
  | .bool _, _ => rfl
  | .int _, _ => rfl
  | .str x, h => by rw [smB] at h; rw [PyData.canLay0]; exact h
  | .list xs, h => by rw [smB] at h; rw [PyData.canLay0]; exact sm_layAll xs h
  | .tuple xs, h => by rw [smB] at h; rw [PyData.canLay0]; exact sm_layAll xs h
  | .dict _, h => by rw [smB] at h; cases h
theorem sm_layAll : ∀ ds : List PyData, smAll ds = true → PyData.canLayAll0 ds = true
  | [], _ => by rw [PyData.canLayAll0]
  | d :: ds, h => by
    rw [smAll, Bool.and_eq_true] at h
    rw [PyData.canLayAll0, sm_lay d h.1, sm_layAll ds h.2]; rfl
end
mutual
theorem sm_show : ∀ d : PyData, smB d = true → d.showable = true
  | .none, _ => rfl
  | .bool _, _ => rfl
  | .int i, h => by
    rw [smB] at h
    have h : i.natAbs < 1000000000000 := Nat.le_of_ble_eq_true h
    rw [PyData.showable]
    refine decide_eq_true ?_
    by_cases q : i.natAbs = 0
    · rw [q]; decide
    · have := (Nat.log2_lt q (k := 40)).mpr (by omega); omega
  | .str x, h => rfl
  | .list xs, h => by rw [smB] at h; rw [PyData.showable]; exact sm_showAll xs h
  | .tuple xs, h => by rw [smB] at h; rw [PyData.showable]; exact sm_showAll xs h
  | .dict _, h => by rw [smB] at h; cases h
theorem sm_showAll : ∀ ds : List PyData, smAll ds = true → PyData.showableAll ds = true
  | [], _ => by rw [PyData.showableAll]
  | d :: ds, h => by
    rw [smAll, Bool.and_eq_true] at h
    rw [PyData.showableAll, sm_show d h.1, sm_showAll ds h.2]; rfl
end
theorem short_int {i : Int} (h : i.natAbs < 1000000000000) : PyData.intsShort 13 (.int i) = true := by
  rw [PyData.intsShort]
  exact decide_eq_true (PyData.shown_int_le2 (by omega) (by omega))
mutual
theorem sm_short : ∀ d : PyData, smB d = true → d.intsShort 13 = true
  | .none, _ => rfl
  | .bool _, _ => rfl
  | .int i, h => short_int (by rw [smB] at h; exact Nat.le_of_ble_eq_true h)
  | .str x, h => rfl
  | .list xs, h => by rw [smB] at h; rw [PyData.intsShort]; exact sm_shortAll xs h
  | .tuple xs, h => by rw [smB] at h; rw [PyData.intsShort]; exact sm_shortAll xs h
  | .dict _, h => by rw [smB] at h; cases h
theorem sm_shortAll : ∀ ds : List PyData, smAll ds = true → PyData.intsShortAll 13 ds = true
  | [], _ => by rw [PyData.intsShortAll]
  | d :: ds, h => by
    rw [smAll, Bool.and_eq_true] at h
    rw [PyData.intsShortAll, sm_short d h.1, sm_shortAll ds h.2]; rfl
end
theorem o_reprS {d : PyData} (h : smB d = true) (hd : d.depth ≤ 64) (hw : d.weight ≤ 1048576) : opRepr [d] = some (.val (.str d.shown)) := by
  have hl := sm_lay d h
  refine o_repr ?_
  rw [sm_show d h, PyData.hasDict_of_canLay d hl, decide_eq_true hd]
  refine decide_eq_true (Nat.le_trans (shown_le13 ?_ (sm_short d h)) (by decide))
  show (PyData.canLay0 d && decide (PyData.depth d ≤ 64) && decide (PyData.weight d ≤ 2 ^ 20)) = true
  rw [hl, decide_eq_true hd, decide_eq_true (show PyData.weight d ≤ 2 ^ 20 by omega)]; rfl
theorem sm_list {ds : List PyData} (h : ∀ d ∈ ds, smB d = true) : smB (.list ds) = true := by
  rw [smB, smAll_all, List.all_eq_true]; exact h
theorem sm_tup {ds : List PyData} (h : ∀ d ∈ ds, smB d = true) : smB (.tuple ds) = true := by
  rw [smB, smAll_all, List.all_eq_true]; exact h
theorem sm_str {l : List Nat} (h : ascii l = true) : smB (.str (S l)) = true := by
  rw [smB]; exact ascii_ok h
theorem sm_int {i : Int} (h : i.natAbs < 1000000000000) : smB (.int i) = true := by
  rw [smB]; exact Nat.ble_eq_true_of_le h
theorem wt_int {i : Int} {k : Nat} (h : i.natAbs < 2 ^ k) : PyData.weight (.int i) ≤ k := by
  rw [PyData.weight]
  split
  · exact Nat.zero_le _
  · rename_i q
    have q : i.natAbs ≠ 0 := fun z => q (by rw [Int.natAbs_eq_zero.mp z]; rfl)
    have := (Nat.log2_lt q).mpr h
    omega
theorem wt_str (l : List Nat) : PyData.weight (.str (S l)) = l.length := rfl
end DX
/-! DXErr: defs that raise errors of their own classes; try. -/
namespace DX
open PySem PySem.Spec PyProof.Rows L2

/-- where it raises: the class's number, the slots -/
abbrev EvX := En → Option (Nat × En)
def XSR (K : PySem.W.Frag) (C : Nat → Addr) (R : List Nat) (W : WX) (xv : EvX) (ts : TS) : Prop := ∀ (σ : L2.St) (G H : Hp) (os : En) (f : FP) (x : Nat) (os' : En) (D : Ends),
  σ.length = os.length → SI K G H σ os f → xv os = some (x, os') → (∀ σ' H', KontS K R σ G H f os' σ' H' → W (.ref (C x)) none σ' H') → ts D σ H
def XER (K : PySem.W.Frag) (C : Nat → Addr) (W : WX) (xv : EvX) (te : TE) : Prop := ∀ (σ : L2.St) (G H : Hp) (os : En) (f : FP) (x : Nat) (os' : En) (Q : VK),
  σ.length = os.length → SI K G H σ os f → xv os = some (x, os') → (∀ H', KontT K σ [] G H f os' [] H' → W (.ref (C x)) none σ H') → te σ H Q
def SEX (X : Cx) (C : Nat → Addr) (W : WX) (ev : EvE) (xv : EvX) (e : Expr) : Prop := ∃ te, PE X e te ∧ ER X.K ev te ∧ XER X.K C W xv te
def SXS (X : Cx) (C : Nat → Addr) (R : List Nat) (W : WX) (ev : EvS) (xv : EvX) (st : Stmt) : Prop := ∃ ts, PS X st ts ∧ SR X.K R ev ts ∧ XSR X.K C R W xv ts
def SXSs (X : Cx) (C : Nat → Addr) (R : List Nat) (W : WX) (ev : EvS) (xv : EvX) (st : List Stmt) : Prop := ∃ ts, PSs X st ts ∧ SR X.K R ev ts ∧ XSR X.K C R W xv ts
def xNo : EvX := fun _ => none
def xSeq (ea : EvS) (xa xb : EvX) : EvX := fun os => (xa os).or (match ea os with
  | some (.nx os1) => xb os1
  | _ => none)
def xIf (t : EvT) (xa xb : EvX) : EvX := fun os => match t os with
  | some (true, os1) => xa os1
  | some (false, os1) => xb os1
  | none => none
def xRaise (c : Nat) : EvX := fun os => some (c, os)
section
variable {K : PySem.W.Frag} {X : Cx} {C : Nat → Addr} {R : List Nat} {W : WX}
theorem xsr_no {ts : TS} : XSR K C R W xNo ts := fun _ _ _ _ _ _ _ _ _ _ e => nomatch e
theorem sx_of {st : Stmt} {ev : EvS} (h : SS X R ev st) : SXS X C R W ev xNo st := by
  obtain ⟨t, p, q⟩ := h
  exact ⟨t, p, q, xsr_no⟩
theorem xsr_seq {a : EvS} {xa xb : EvX} {ta tb : TS} (ha : SR K R a ta) (hx : XSR K C R W xa ta) (hb : XSR K C R W xb tb) : XSR K C R W (xSeq a xa xb) (tSeq ta tb) := fun σ G H os f x os' D hl I e k => by
  unfold xSeq at e
  cases e1 : xa os with
  | some p =>
    rw [e1] at e
    cases e
    exact hx σ G H os f x os' { D with nx := tb D } hl I e1 k
  | none =>
    rw [e1] at e
    simp only [Option.none_or] at e
    cases ea : a os with
    | none => rw [ea] at e; cases e
    | some r1 =>
      rw [ea] at e
      cases r1 with
      | nx os1 =>
        exact ha σ G H os f _ { D with nx := tb D } hl I ea fun σ1 H1 k1 => by
          obtain ⟨G1, f1, I1, s1, l1, q1⟩ := k1
          exact hb σ1 G1 H1 os1 f1 x os' D l1 I1 e fun σ' H' kk => k σ' H' (kk.step s1 q1)
      | rt _ _ => cases e
      | bk _ => cases e
      | ct _ => cases e
theorem sx_ofs {st : List Stmt} {ev : EvS} (h : SSs X R ev st) : SXSs X C R W ev xNo st := by
  obtain ⟨t, p, q⟩ := h
  exact ⟨t, p, q, xsr_no⟩
theorem sx_nil : SXSs X C R W sNext xNo [] := ⟨_, pss_nil, sr_next, xsr_no⟩
theorem sx_cons {st : Stmt} {rest : List Stmt} {a b : EvS} {xa xb : EvX} (h : SXS X C R W a xa st) (g : SXSs X C R W b xb rest) : SXSs X C R W (sSeq a b) (xSeq a xa xb) (st :: rest) := by
  obtain ⟨t, p, q, z⟩ := h
  obtain ⟨u, p', q', z'⟩ := g
  exact ⟨_, pss_cons p p', sr_seq q q', xsr_seq q z z'⟩
theorem sx_one {st : Stmt} {a : EvS} {xa : EvX} (h : SXS X C R W a xa st) : SXSs X C R W a xa [st] := by
  obtain ⟨t, p, q, z⟩ := h
  exact ⟨_, pss_one p, q, z⟩
theorem xsr_if {t : EvT} {xa xb : EvX} {tt : TT} {ta tb : TS} (h : TR K t tt) (ha : XSR K C R W xa ta) (hb : XSR K C R W xb tb) : XSR K C R W (xIf t xa xb) (tIfS tt ta tb) := fun σ G H os f x os' D hl I e k => by
  unfold xIf at e
  split at e
  · rename_i os1 e1
    refine h σ [] G H os [] f true os1 _ hl rfl (by simpa using I) e1 fun H1 k1 => ?_
    obtain ⟨G1, f1, I1, s1, l1⟩ := k1
    rw [if_pos rfl]
    exact ha σ G1 H1 os1 f1 x os' D l1 (by simpa using I1) e fun σ' H' kk => k σ' H' (kk.step s1 fun _ _ => rfl)
  · rename_i os1 e1
    refine h σ [] G H os [] f false os1 _ hl rfl (by simpa using I) e1 fun H1 k1 => ?_
    obtain ⟨G1, f1, I1, s1, l1⟩ := k1
    rw [if_neg Bool.false_ne_true]
    exact hb σ G1 H1 os1 f1 x os' D l1 (by simpa using I1) e fun σ' H' kk => k σ' H' (kk.step s1 fun _ _ => rfl)
  · cases e
theorem sx_if {c : Expr} {a b : List Stmt} {t : EvT} {ea eb : EvS} {xa xb : EvX} {pos : Pos} (h : STt X t c) (ha : SXSs X C R W ea xa a) (hb : SXSs X C R W eb xb b) : SXS X C R W (sIf t ea eb) (xIf t xa xb) (.If c a b pos) := by
  obtain ⟨tt, p, q⟩ := h
  obtain ⟨ta, p1, q1, z1⟩ := ha
  obtain ⟨tb, p2, q2, z2⟩ := hb
  exact ⟨_, ps_if p p1 p2, sr_if q q1 q2, xsr_if q z1 z2⟩
theorem xsr_e {xv : EvX} {te : TE} {ts : TS} (h : XER K C W xv te) (hts : ∀ D σ H, (∀ Q : VK, te σ H Q) → ts D σ H) : XSR K C R W xv ts := fun σ G H os f x os' D hl I e k =>
  hts D σ H fun Q => h σ G H os f x os' Q hl I e fun H' kk => by
    obtain ⟨G1, f1, I1, s1, l1⟩ := kk
    exact k σ H' ⟨G1, f1, by simpa using I1, s1, l1, fun _ _ => rfl⟩
theorem sx_ret {e : Expr} {ev : EvE} {xv : EvX} {pos : Pos} (h : SEX X C W ev xv e) : SXS X C R W (sRet ev) xv (.Return (some e) pos) := by
  obtain ⟨te, p, q, z⟩ := h
  exact ⟨_, ps_ret p, sr_ret q, xsr_e z fun D σ H hq => hq _⟩
theorem sx_expr {e : Expr} {ev : EvE} {xv : EvX} {pos : Pos} (h : SEX X C W ev xv e) (hs : swapsWith e none pos.line X.env = pure false := by rfl) : SXS X C R W (sExpr ev) xv (.Expr e pos) := by
  obtain ⟨te, p, q, z⟩ := h
  obtain ⟨t1, p1, q1⟩ := ss_expr (R := R) (pos := pos) ⟨te, p, q⟩ hs
  refine ⟨_, ps_expr p hs, fun σ G H os f res D hl I e k => ?_, xsr_e z fun D σ H hq => hq _⟩
  unfold sExpr at e
  split at e
  · rename_i r os1 e1
    cases e
    refine q σ [] G H os [] f r os1 _ hl rfl (by simpa using I) e1 fun v H1 k1 => ?_
    obtain ⟨G1, f1, I1, s1, l1⟩ := k1.drop rfl
    exact k σ H1 ⟨G1, f1, by simpa using I1, s1, l1, fun _ _ => rfl⟩
  · cases e
theorem sx_asg (i : Nat) {x : Str} {e : Expr} {ev : EvE} {xv : EvX} {pos' pos : Pos} (hN : X.N.Nodup) (h : SEX X C W ev xv e) (hi : X.N[i]? = some x := by rfl) (hx : Loc X.env.scope x := by first | exact Or.inl rfl | exact Or.inr rfl)
    (hs : swapsWith e (some (.Name x pos')) pos.line X.env = pure false := by rfl) (hf : X.fn x = true ∨ X.env.scope.names.lookup x = some .local := by first | exact .inl rfl | exact .inr rfl | assumption) : SXS X C R W (sAsg R i ev) xv (.Assign [.Name x pos'] e pos) := by
  obtain ⟨te, p, q, z⟩ := h
  exact ⟨_, ps_set hN hi hx p hs hf, sr_asg q, xsr_e z fun D σ H hq => hq _⟩

/-! ### raise -/
/-- what stands of a class of errors -/
structure ErrC (K : PySem.W.Frag) (mg : Str → Option Value) (x : Str) (a : Addr) (bmB : List Value) (newId : String) : Prop where
  g : mg x = some (.ref a)
  ex : PySem.W.excIn K a bmB newId = true
  kp : PySem.W.keepIn K (.ref a) = true
  sb : PySem.W.subIn K (.ref a) (.type "BaseException") = some true
  ty : PySem.W.typeIn K (.ref a) = some (.type "type")
theorem pmk_own0 {x : Str} {a : Addr} {bmB : List Value} {B newId initId : String} {p pos : Pos} (F : ExcBaseFacts B newId initId bmB) (T : ErrC X.K X.mg x a bmB newId) (hg : Gl X x)
    (hdb : (x == ("__debug__" : Str)) = false := by decide) : PMk X (.Call (.Name x p) [] [] pos) (fun _ H Q => Q (.ref a) none H) := by
  intro pins s σ H Q I h
  refine wpAny_Call_Name_kw (ld_glob I hg T.g ?_ hdb)
  refine PySem.W.callWith_K0 (first := []) I.kIn T.kp ?_
  show wpAny _ _ (call (.ref a) []) _ _ _
  obtain ⟨bm, N, nm, qn, bs, hdct, sn, sub, ab, col, dd, k0, k1, k2, k3, k5, mN, hC, hN, hni, OT⟩ := exc_obj I.kIn T.ex
  refine wpAny_call_exc_subT F OT hC hN hni (fun h' e hm => ?_) (by show 0 ≤ sizeLine; rw [sizeLine_eq]; omega)
  exact mk_of I hm (raises_own T.sb T.ty) h (I.hok.gone hm.new)
theorem sx_raise0 (c : Nat) {x : Str} {bmB : List Value} {B newId initId : String} {p pos pos' : Pos} (hc : X.calm = true) (tk : Takes X W) (F : ExcBaseFacts B newId initId bmB) (T : ErrC X.K X.mg x (C c) bmB newId) (hg : Gl X x := by rfl)
    (hdb : (x == ("__debug__" : Str)) = false := by decide) : SXS X C R W (fun _ => none) (xRaise c) (.Raise (some (.Call (.Name x p) [] [] pos)) none pos') :=
  ⟨_, ps_raise hc tk (pmk_own0 F T hg hdb), (by intro σ G H os f res D hl I e k; cases e), by
    intro σ G H os f x' os' D hl I e k
    cases e
    exact k σ H ⟨G, f, I, Stp.refl _ _ _, hl, fun _ _ => rfl⟩⟩

/-! ### defs that may raise -/
structure FnX (P : Program) (w : World) (K : PySem.W.Frag) (mg : Str → Option Value) (base : Heap) (k : Nat) (f : Addr) (fd : FuncData) (ps : List Str) (sp : Sp) : Prop where
  len : ∀ vs H Q E, sp vs H Q E → vs.length = ps.length
  run : ∀ (A : Around) (outer : List Env) (s : Shared) (H : Hp) (args : Args) (us : List Value) (vs : List V) (Q : VK) (E : XK), A.guards = some [] → Room k A → Env0 P w K mg base A outer s H →
    BindsTo s fd args (ps.zip us) → Vals vs us → sp vs H Q E → codeAny (model P w) A (.call (.ref f) args) (CR (L2.CX P w) outer P w H s Q E) s
theorem FnX.mono {P : Program} {w : World} {K : PySem.W.Frag} {mg : Str → Option Value} {base : Heap} {j k : Nat} {f : Addr} {fd : FuncData} {ps : List Str} {sp : Sp} (F : FnX P w K mg base j f fd ps sp) (h : j ≤ k) : FnX P w K mg base k f fd ps sp :=
  ⟨F.len, fun A outer s H args us vs Q E hg hr => F.run A outer s H args us vs Q E hg (hr.mono h)⟩
/-- m: of the arguments the answer, or the class's number of what is raised -/
def spX (K : PySem.W.Frag) (C : Nat → Addr) (m : List OD → Option (OD ⊕ Nat)) (n : Nat) : Sp := fun vs H Q E => ∃ G f os r, SI K G H (vs.map some) (os.map some) f ∧ vs.length = n ∧ m os = some r ∧ match r with
  | .inl o => ∀ v H' G' f', SI K G' H' [some v] [some o] f' → Stp G H f G' H' f' → Q v H'
  | .inr x => ∀ H' G' f', SI K G' H' [] [] f' → Stp G H f G' H' f' → E (.ref (C x)) none H'
def inL (m : List OD → Option (OD ⊕ Nat)) : List OD → Option OD := fun os => match m os with
  | some (.inl o) => some o
  | _ => none
def inR' (m : List OD → Option (OD ⊕ Nat)) : List OD → Option Nat := fun os => match m os with
  | some (.inr x) => some x
  | _ => none
theorem inL_some {m : List OD → Option (OD ⊕ Nat)} {os : List OD} {o : OD} (h : inL m os = some o) : m os = some (.inl o) := by
  unfold inL at h
  split at h
  · rename_i o' e; cases h; exact e
  · cases h
theorem inR_some {m : List OD → Option (OD ⊕ Nat)} {os : List OD} {x : Nat} (h : inR' m os = some x) : m os = some (.inr x) := by
  unfold inR' at h
  split at h
  · rename_i o' e; cases h; exact e
  · cases h
/-- where it does not raise it is a def as any other -/
theorem FnX.calm {P : Program} {w : World} {mg : Str → Option Value} {base : Heap} {k n : Nat} {f : Addr} {fd : FuncData} {ps : List Str} {m : List OD → Option (OD ⊕ Nat)} (F : FnX P w K mg base k f fd ps (spX K C m n)) : FnG P w K mg base k f fd ps (sp0 K (inL m) n) := by
  have cv : ∀ vs H Q E, sp0 K (inL m) n vs H Q E → spX K C m n vs H Q E0 := fun vs H Q E h => by
    obtain ⟨G, f, os, r, I, hl, e, kk⟩ := h
    exact ⟨G, f, os, .inl r, I, hl, inL_some e, kk⟩
  refine ⟨fun vs H Q E h => F.len vs H Q E0 (cv vs H Q E h), fun A outer s H args us vs Q hg hr e0 hb rv h => ?_⟩
  refine codeAny_mono (F.run A outer s H args us vs Q E0 hg hr e0 hb rv (cv _ _ _ _ h)) fun r s' hq => ?_
  cases r with
  | ok fl => cases fl <;> exact hq
  | error e =>
    obtain ⟨_, _, _, _, _, _, _, _, _, _, _, _, z⟩ := (show L2.CX P w outer H s E0 e s' from hq)
    exact z.elim
theorem ok_fnX {P : Program} {w : World} {mg : Str → Option Value} {base : Heap} {x qual : Str} {st : Stmt} {f : Addr} {fd : FuncData} {N ps : List Str} {k : Nat} (F : Fun K x qual st f fd) (S : FnScope N ps (defScope st)) {ev : Nat → EvS} {xv : Nat → EvX} {m : List OD → Option (OD ⊕ Nat)}
    (hb : ∀ (n : Nat) (cdv : Value) (A : Around) (outer : List Env) (s : Shared) (H : Hp) (E : XK), (A.deeper (envOfC qual (defScope st) s.heap.objs.size f cdv)).guards = some [] → Room k (A.deeper (envOfC qual (defScope st) s.heap.objs.size f cdv)) →
      SXSs (cxOf (L2.CX P w) P w K mg base N qual (defScope st) f cdv A outer s H E) C [] (fun cls d _ H' => E cls d H') (ev n) (xv n) (defBody st))
    (hm : ∀ os r, os.length = ps.length → m os = some r → match r with
      | .inl o => ∃ n res, ev n (startE N os) = some res ∧ retOf res = some o
      | .inr x => ∃ n os', xv n (startE N os) = some (x, os')) : FnX P w K mg base (k + 1) f fd ps (spX K C m ps.length) := by
  have len : ∀ vs H Q E, spX K C m ps.length vs H Q E → vs.length = ps.length := fun vs H Q E h => by
    obtain ⟨G, g, os, r, _, hl, _⟩ := h
    exact hl
  obtain ⟨oc, od, kV, doc, pm, an, cdv, ct, osl, rfl, lk, hcd⟩ := F.ex
  refine ⟨len, fun A outer s H args us vs Q E hg hr e0 hbd r hsp => ?_⟩
  have hl := len _ _ _ _ hsp
  have KX : K.In s.heap := e0.mod.kin.keeps fun b o e => (e0.bs b o e).1
  have lim : s.heap.NoLimit := e0.mod.nolimit.keeps fun b o e => (e0.bs b o e).1
  have hkind : ∀ y ∈ ps.zip us, (defScope st).names.lookup y.1 = some .local ∨ ((defScope st).names.lookup y.1 = some .cell ∧ ((cellsFrom (s.heap.objs.size + 1) (defScope st).names []).lookup y.1).isSome = true) := fun ⟨n, v⟩ hy => by
    rcases S.par n (List.of_mem_zip hy).1 with q | q
    · exact .inl q
    · exact .inr ⟨q, PySem.W.cellsFrom_some _ _ _ (.inl q)⟩
  refine codeAny_call_function hr.depth (KX _ _ lk) rfl S.co S.gen rfl (PySem.W.codeRec_of KX hcd) (hbd _ _ _ _ ?_)
  refine wpAny_newFunctionEnv_cells S.kind hkind fun env he s1 x => ?_
  subst he
  refine ⟨lim.keeps x.toInCall.keep, codeAny_func ?_⟩
  obtain ⟨n0, hn0⟩ : ∃ n : Nat, (∃ t, PSs (cxOf (L2.CX P w) P w K mg base N qual (defScope st) f cdv A outer s H E) (defBody st) t ∧ t { nx := fun _ H' => Q .non H', rt := Q } (start N vs) H) := by
    obtain ⟨G, g, os, rr, I, hl2, em, kk⟩ := hsp
    have ho : os.length = ps.length := by
      have := I.sl.len
      simp at this; omega
    have I2 : SI K G H (start N vs) (startE N os) g := by
      have := I.nones (N.length - vs.length)
      unfold L2.start startE
      rw [ho, ← hl2]
      exact this
    have hmm := hm os rr ho em
    cases rr with
    | inl o =>
      obtain ⟨n, res, e1, e2⟩ := hmm
      obtain ⟨t, p, q, _⟩ := hb n cdv A outer s H E (guards_deeper hg) (hr.deeper _)
      refine ⟨n, t, p, q (start N vs) G H (startE N os) g res _ I2.sl.len I2 e1 ?_⟩
      cases res with
      | nx os' =>
        cases e2
        intro σ' H' ⟨G', f', J, s', _, _⟩
        refine kk .non H' G' (fun _ => 0) ⟨(SL.val (RO.sh .non) .nil).congr fun _ => rfl, J.sub, fun _ => Nat.zero_le _, fun _ z => absurd rfl z⟩ (s'.trans (Stp.less fun _ => Nat.zero_le _))
      | rt o os' =>
        cases e2
        intro v H' ⟨G', f', σ', J, s', l', _⟩
        obtain ⟨⟨f2, J2, le⟩, _⟩ := J.lastTwo l'
        exact kk v H' G' f2 J2 (s'.trans (Stp.less le))
      | bk _ => cases e2
      | ct _ => cases e2
    | inr x =>
      obtain ⟨n, os', e1⟩ := hmm
      obtain ⟨t, p, _, z⟩ := hb n cdv A outer s H E (guards_deeper hg) (hr.deeper _)
      refine ⟨n, t, p, z (start N vs) G H (startE N os) g x os' _ I2.sl.len I2 e1 fun σ' H' kq => ?_⟩
      obtain ⟨G', f', J, s', _, _⟩ := kq
      exact kk H' G' (fun _ => 0) ⟨.nil, J.sub, fun _ => Nat.zero_le _, fun _ z => absurd rfl z⟩ (s'.trans (Stp.less fun _ => Nat.zero_le _))
  obtain ⟨t, ht, hq⟩ := hn0
  have I : Inv (cxOf (L2.CX P w) P w K mg base N qual (defScope st) f cdv A outer s H E) [] (start N vs) H s1 := inv_start S hr.hd e0 hl r x
  refine wpAny_mono (ht.run [] s1 (start N vs) H _ I hq) (fun fl s' hs => ?_) fun e s' hs => hs
  cases fl with
  | ret u => obtain ⟨v, σ', H', J', r', q'⟩ := hs; exact ⟨v, H', J'.os, J'.bare, J'.base, J'.hok, r', q'⟩
  | next => obtain ⟨σ', H', J', q'⟩ := hs; exact ⟨V.non, H', J'.os, J'.bare, J'.base, J'.hok, rfl, q'⟩
  | brk => obtain ⟨_, _, _, q'⟩ := hs; exact q'.elim
  | cont => obtain ⟨_, _, _, q'⟩ := hs; exact q'.elim

/-! ### a call of such a def -/
def tCallX (sp : Sp) (E : L2.St → XK) (idx : List Nat) (n : Nat) (t : TA) : TE := fun σ H Q => t σ H fun vs H1 => vs.length = n ∧ sp (pk idx vs) H1 Q (E σ)
theorem run_gX {k : Nat} {f : Addr} {fd : FuncData} {ps : List Str} {sp : Sp} {pins : List (Addr × Obj)} {σ : L2.St} {H : Hp} {s : Shared} {Q : VK} {E : L2.St → XK} {args : Args} {us : List Value} {vs : List V}
    (F : FnX X.prog X.w X.K X.mg X.base k f fd ps sp) (hg : X.A.guards = some []) (hr : Room k X.A) (hb : BindsTo s fd args (ps.zip us)) (hx : PassesAt (L2.CX X.prog X.w) X σ (E σ)) (I : Inv X pins σ H s) (r : Vals vs us) (h : sp vs H Q (E σ)) :
    codeAny (model X.prog X.w) X.A (.call (.ref f) args) (fun r' s' => match r' with
      | .ok (.ret u) => EP X pins σ Q u s'
      | .ok _ => False
      | .error e => X.xe e s') s := by
  refine codeAny_mono (F.run X.A X.stack s H args us vs Q (E σ) hg hr I.env0 hb r h) (fun r' s' hq => ?_)
  cases r' with
  | error e => exact hx pins H s e s' I hq
  | ok fl =>
    cases fl with
    | ret u => exact I.after hq
    | next => exact hq
    | brk => exact hq
    | cont => exact hq
section
variable {k : Nat} {f : Addr} {fd : FuncData} {ps ks : List Str} {sp : Sp} {x : Str} {p pos : Pos} {e : Expr} {es : List Expr} {t : TA} {idx : List Nat} {E : L2.St → XK}
theorem pe_callX (F : FnX X.prog X.w X.K X.mg X.base k f fd ps sp) (hA : X.A.guards = some []) (hr : Room k X.A) (hm : X.mg x = some (.ref f)) (hk : PySem.W.keepIn X.K (.ref f) = true) (hb : Bd fd ps (e :: es).length (e :: es).length [] idx)
    (hx : ∀ σ, PassesAt (L2.CX X.prog X.w) X σ (E σ)) (ha : PA X (e :: es) t) (hg : Gl X x := by rfl) (hdb : (x == ("__debug__" : Str)) = false := by decide) (he : starEach (e :: es) X.env = (false, eval e X.env) :: starEach es X.env := by rfl) (hpl : (backTo pos (starEach es X.env)).any (·.1) = false := by rfl) :
    PE X (.Call (.Name x p) (e :: es) [] pos) (tCallX sp E idx (e :: es).length t) := by
  refine ⟨fun pins s σ H Q I h => ?_⟩
  refine wpAny_Call_Name_kw (ld_glob I hg hm ?_ hdb)
  refine PySem.W.callWith_K (h₀ := X.base) I.ok.mod.kin hk (thn (ha.run pos pins s σ H _ I h) fun us s1 ⟨vs, H1, I1, r, hn, q⟩ => ⟨I1.kIn, ?_⟩) he hpl
  have hn' : us.length = (e :: es).length := by rw [← r.length]; exact hn
  have b := hb s1 us hn'
  rw [List.take_of_length_le (by omega)] at b
  exact wpAny_call (run_gX F hA hr (by simpa using b) (hx σ) I1 (vals_pk r idx) q)
def xFn (m : List OD → Option (OD ⊕ Nat)) (n : Nat) (idx : List Nat) (es : EvEs) : EvX := fun os => match es os with
  | some (rs, os1) => match rdAll os1 rs with
    | some ds => if rs.length = n ∧ (pk idx ds).length = n then match m ((pk idx ds).map OD.sh) with
      | some (.inr x) => some (x, hardAll os1 rs)
      | _ => none else none
    | none => none
  | none => none
theorem er_fnX {m : List OD → Option (OD ⊕ Nat)} {n : Nat} {ev : EvEs} {ta : TA} (h : ERs K ev ta) : ER K (eFn0 (inL m) n idx ev) (tCallX (spX K C m n) E idx n ta) := fun σ τ G H os θ f r os' Q hl ht I e k => by
  unfold eFn0 at e
  split at e
  · rename_i rs os1 e1
    split at e
    · rename_i ds e2
      split at e
      · rename_i hn
        split at e
        · rename_i r1 e3
          refine h σ τ G H os θ f rs os1 _ hl ht I e1 fun vs H1 k1 => ?_
          obtain ⟨G1, f1, I1, s1, a1, l1⟩ := k1
          obtain ⟨G2, f2, I2, s2, hd⟩ := I1.popC l1 ht a1 e2
          obtain ⟨_, f3, I3, le3⟩ := I1.popA l1 ht a1 e2
          have hd' := dps_pk hd idx
          refine ⟨by rw [a1.len]; exact hn.1, G2, fun _ => 0, (pk idx ds).map OD.sh, .inl r1, ⟨SL.shs hd', I2.sub, fun _ => Nat.zero_le _, fun _ z => absurd rfl z⟩, by rw [dps_len hd']; exact hn.2, inL_some e3, fun v H' G' f' J s => ?_⟩
          split at e
          · rename_i c
            obtain ⟨d, rfl⟩ : ∃ d, r1 = .sh d := by
              cases r1 with
              | sh d => exact ⟨d, rfl⟩
              | lst _ => cases c.2
              | tpl _ => cases c.2
            cases e
            have sb : Sub H1 H' := fun a o q => s.keep a o q rfl
            have hv : Dx K H' v d := by
              obtain ⟨v', q1, q2⟩ := J.rd (i := 0) (o := .sh d) rfl
              cases q1; exact q2
            refine k v H' ((Kont.sh l1 (I3.grow sb) (dp_sc hv c.1)).step ?_)
            exact s1.trans ⟨Sub.refl _, fun a o q _ => sb a o q, fun a q => ne_of_sub sb q, fun a q => .inl q, fun a q => .inl (by have := le3 a; omega)⟩
          · cases e
            obtain ⟨f4, I4, e4, s4⟩ := I2.frame J s fun _ _ => rfl
            exact k v H' ⟨G', f4, by simpa [List.append_assoc, RV.od] using I4, (s1.trans s2).trans (s4 f2 fun x => by omega), .cons trivial .nil, by rw [len_hardAll]; exact l1⟩
        · cases e
      · cases e
    · cases e
  · cases e
theorem xer_fnX {m : List OD → Option (OD ⊕ Nat)} {n : Nat} {ev : EvEs} {ta : TA} (h : ERs K ev ta) : XER K C W (xFn m n idx ev) (tCallX (spX K C m n) (WE W) idx n ta) := fun σ G H os f x os' Q hl I e k => by
  unfold xFn at e
  split at e
  · rename_i rs os1 e1
    split at e
    · rename_i ds e2
      split at e
      · rename_i hn
        split at e
        · rename_i x1 e3
          cases e
          refine h σ [] G H os [] f rs os1 _ hl rfl (by simpa using I) e1 fun vs H1 k1 => ?_
          obtain ⟨G1, f1, I1, s1, a1, l1⟩ := k1
          obtain ⟨G2, f2, I2, s2, hd⟩ := I1.popC l1 rfl a1 e2
          have hd' := dps_pk hd idx
          refine ⟨by rw [a1.len]; exact hn.1, G2, fun _ => 0, (pk idx ds).map OD.sh, .inr x, ⟨SL.shs hd', I2.sub, fun _ => Nat.zero_le _, fun _ z => absurd rfl z⟩, by rw [dps_len hd']; exact hn.2, e3, fun H' G' f' J s => ?_⟩
          obtain ⟨f4, I4, e4, s4⟩ := I2.frame J s fun _ _ => rfl
          exact k H' ⟨G', f4, by simpa using I4, (s1.trans s2).trans (s4 f2 fun x => by omega), by rw [len_hardAll]; exact l1⟩
        · cases e
      · cases e
    · cases e
  · cases e
theorem sex_call {m : List OD → Option (OD ⊕ Nat)} {n : Nat} {ev : EvEs} (tk : Takes X W) (F : FnX X.prog X.w X.K X.mg X.base k f fd ps (spX X.K C m n)) (hA : X.A.guards = some []) (hr : Room k X.A) (hm : X.mg x = some (.ref f)) (hk : PySem.W.keepIn X.K (.ref f) = true) (hb : Bd fd ps n n [] idx) (h : SEs X ev (e :: es))
    (hn : (e :: es).length = n := by rfl) (hg : Gl X x := by rfl) (hdb : (x == ("__debug__" : Str)) = false := by decide) (he : starEach (e :: es) X.env = (false, eval e X.env) :: starEach es X.env := by rfl) (hpl : (backTo pos (starEach es X.env)).any (·.1) = false := by rfl) :
    SEX X C W (eFn0 (inL m) n idx ev) (xFn m n idx ev) (.Call (.Name x p) (e :: es) [] pos) := by
  subst hn
  obtain ⟨ta, q1, q2⟩ := h
  exact ⟨_, pe_callX (E := WE W) F hA hr hm hk hb (fun σ => passAt tk σ) q1 hg hdb he hpl, er_fnX q2, xer_fnX q2⟩
end
end
end DX
namespace DX
open PySem PySem.Spec PyProof.Rows L2
/-! ### try: body, except c (as n): suite -/
/-- what an error's class answers to the class that a clause, or isinstance, names -/
def ErrsOk (K : PySem.W.Frag) (C : Nat → Addr) (nC : Nat) (sub : Nat → Nat → Bool) : Prop := ∀ i j, i < nC → j < nC → PySem.W.exmOne K (.ref (C i)) (.ref (C j)) = some (sub i j) ∧ PySem.W.kitOne K (.ref (C i)) (.ref (C j)) = some (sub i j)
/-- the error itself, as the suite's name holds it -/
def excD (a e : Nat) : PyData := .dict [(.int (a : Nat), .int (e : Nat))]
open Classical in
noncomputable def suE (su : Nat → Nat → EvS) (x : Nat) : EvS := fun os => if h : ∃ res, ∀ a, su x a os = some res then some h.choose else none
theorem suE_eq {su : Nat → Nat → EvS} {x : Nat} {os : En} {res : Res} (h : ∀ a, su x a os = some res) : suE su x os = some res := by
  have e : ∃ res, ∀ a, su x a os = some res := ⟨res, h⟩
  unfold suE
  rw [dif_pos e]
  exact (e.choose_spec 0).symm.trans (h 0)
theorem suE_of {su : Nat → Nat → EvS} {x : Nat} {os : En} {res : Res} (h : suE su x os = some res) (a : Nat) : su x a os = some res := by
  unfold suE at h
  split at h
  · rename_i e; cases h; exact e.choose_spec a
  · cases h
/-- su: what the suite does, by what was raised (its class's number, where it lies) -/
noncomputable def eTry (sub : Nat → Nat → Bool) (nC c : Nat) (ev : EvS) (xv : EvX) (su : Nat → Nat → EvS) : EvS := fun os => match xv os with
  | some (x, os1) => if x < nC ∧ sub x c = true then suE su x os1 else none
  | none => ev os
def wipeR (i : Nat) : Res → Res
  | .nx os => .nx (os.set i none)
  | .rt o os => .rt o (os.set i none)
  | .bk os => .bk (os.set i none)
  | .ct os => .ct (os.set i none)
def suAs (i : Nat) (su : Nat → Nat → EvS) (x a : Nat) : EvS := fun os => if i < os.length then (su x a (os.set i (some (.sh (excD a x))))).map (wipeR i) else none
section
variable {X : Cx} {C : Nat → Addr} {R : List Nat} {sub : Nat → Nat → Bool} {nC c : Nat} {x n : Str} {body suite : List Stmt} {b₀ : Stmt} {np pos pos' : Pos} {ev : EvS} {xv : EvX} {su : Nat → Nat → EvS}
theorem SI.unset {K : PySem.W.Frag} {G H : Hp} {σ : L2.St} {os : En} {f : FP} (I : SI K G H σ os f) {i : Nat} (hi : i < os.length) (v : Option V) : ∃ f', SI K G H (σ.set i v) (os.set i none) f' ∧ ∀ a, f' a ≤ f a := by
  obtain ⟨fr, h1, h2, _⟩ := SL.put i I.sl hi
  exact ⟨fr, I.forget (h2 v) h1, h1⟩
theorem SI.unset' {K : PySem.W.Frag} {G H : Hp} {σ : L2.St} {os : En} {f : FP} (I : SI K G H σ os f) (hl : σ.length = os.length) (i : Nat) : ∃ f', SI K G H (σ.set i none) (os.set i none) f' ∧ ∀ a, f' a ≤ f a := by
  by_cases hi : i < os.length
  · exact I.unset hi none
  · rw [List.set_eq_of_length_le (by omega), List.set_eq_of_length_le (by omega)]
    exact ⟨f, I, fun _ => Nat.le_refl _⟩
theorem SI.unsetR {K : PySem.W.Frag} {G H : Hp} {σ : L2.St} {os : En} {f : FP} {v : V} {o : OD} (I : SI K G H (σ ++ [some v]) (os ++ [some o]) f) (hl : σ.length = os.length) (i : Nat) : ∃ f', SI K G H (σ.set i none ++ [some v]) (os.set i none ++ [some o]) f' ∧ ∀ a, f' a ≤ f a := by
  by_cases hi : i < os.length
  · have := I.unset (i := i) (by simp; omega) none
    rw [set_app (by omega), set_app hi] at this
    exact this
  · rw [List.set_eq_of_length_le (by omega), List.set_eq_of_length_le (by omega)]
    exact ⟨f, I, fun _ => Nat.le_refl _⟩
theorem ss_try (hs : X.stack = X.env :: X.outer) (hf : X.env.frame = some X.env.locals) (hc : Names X x (.ref (C c))) (hC : ErrsOk X.K C nC sub) (hcn : c < nC)
    (hb : ∀ (W : WX) (pn : List (Addr × Obj)) (xe : Value → Shared → Prop), Takes (X.tr pn xe) W → PassesOwn (model X.prog X.w) X.A X.env xe → SXSs (X.tr pn xe) C R W ev xv body)
    (hsu : ∀ (e : Nat) (a : Addr) (oe : Obj) (pn : List (Addr × Obj)), e < nC → Zc (.ref (C e)) none oe → (∃ vs, oe.data = .fields vs) → SSs (X.suite a ((a, oe) :: pn)) R (su e a) (b₀ :: suite)) :
    SS X R (eTry sub nC c ev xv su) (.Try body [.ExceptHandler (some (.Name x np)) none (b₀ :: suite) pos'] [] [] pos) := by
  have hb' := fun W pn xe tk po => hb W pn xe tk po
  -- the readings
  let tb : WX → TS := fun W D σ H => ∃ (G : Hp) (os : En) (f : FP), σ.length = os.length ∧ SI X.K G H σ os f ∧ ((∃ x os1, xv os = some (x, os1) ∧ ∀ σ' H', KontS X.K R σ G H f os1 σ' H' → W (.ref (C x)) none σ' H') ∨ ∃ res, ev os = some res ∧ Post X.K R σ G H f D res)
  let ts : Addr → Value → Option Addr → TS := fun a cls d D σ H => ∃ e, e < nC ∧ cls = .ref (C e) ∧ d = none ∧ ∃ (G : Hp) (os : En) (f : FP) (res : Res), σ.length = os.length ∧ SI X.K G H σ os f ∧ su e a os = some res ∧ Post X.K R σ G H f D res
  have hbP : ∀ (W : WX) (pn : List (Addr × Obj)) (xe : Value → Shared → Prop), Takes (X.tr pn xe) W → PassesOwn (model X.prog X.w) X.A X.env xe → PSs (X.tr pn xe) body (tb W) := fun W pn xe tk po => by
    obtain ⟨t, p, q, z⟩ := hb' W pn xe tk po
    refine ⟨fun pins s σ H D I h => p.run pins s σ H D I ?_⟩
    obtain ⟨G, os, f, hl, J, h | h⟩ := h
    · obtain ⟨x, os1, e1, k⟩ := h
      exact z σ G H os f x os1 D hl J e1 k
    · obtain ⟨res, e1, k⟩ := h
      exact q σ G H os f res D hl J e1 k
  have hsP : ∀ (a : Addr) (oe : Obj) (cls : Value) (d : Option Addr) (pn : List (Addr × Obj)), Zc cls d oe → (∃ vs, oe.data = .fields vs) → PSs (X.suite a ((a, oe) :: pn)) (b₀ :: suite) (ts a cls d) := fun a oe cls d pn hz hv => by
    refine ⟨fun pins s σ H D I h => ?_⟩
    obtain ⟨e, he, rfl, rfl, G, os, f, res, hl, J, e1, k⟩ := h
    obtain ⟨t, p, q⟩ := hsu e a oe pn he hz hv
    exact p.run pins s σ H D I (q σ G H os f res D hl J e1 k)
  refine ⟨_, ps_try_only hs hf hc (takes0 (X := X)) hbP hsP, fun σ G H os f res D hl I e k => ?_⟩
  unfold eTry at e
  split at e
  · rename_i y os1 e1
    split at e
    · rename_i hy
      refine ⟨G, os, f, hl, I, .inl ⟨y, os1, e1, fun σ' H' kk => ?_⟩⟩
      refine ⟨true, by rw [← hy.2]; exact (hC y c hy.1 hcn).1, fun _ a na => ?_, fun z => nomatch z⟩
      obtain ⟨G', f', J, s', l', r'⟩ := kk
      exact ⟨y, hy.1, rfl, rfl, G', os1, f', res, l', J, suE_of e a, k.step s' r'⟩
    · cases e
  · exact ⟨G, os, f, hl, I, .inr ⟨res, e, k⟩⟩
theorem ss_tryAs (i : Nat) (hs : X.stack = X.env :: X.outer) (hf : X.env.frame = some X.env.locals) (hN : X.N.Nodup) (hc : Names X x (.ref (C c))) (hC : ErrsOk X.K C nC sub) (hcn : c < nC) (hR : i ∉ R)
    (hb : ∀ (W : WX) (pn : List (Addr × Obj)) (xe : Value → Shared → Prop), Takes (X.tr pn xe) W → PassesOwn (model X.prog X.w) X.A X.env xe → SXSs (X.tr pn xe) C R W ev xv body)
    (hsu : ∀ (e : Nat) (a : Addr) (oe : Obj) (pn : List (Addr × Obj)), e < nC → Zc (.ref (C e)) none oe → (∃ vs, oe.data = .fields vs) → SSs (X.suite a ((a, oe) :: pn)) R (su e a) (b₀ :: suite))
    (hi : X.N[i]? = some n := by rfl) (hln : X.env.kindOf n = some .local := by rfl) :
    SS X R (eTry sub nC c ev xv (suAs i su)) (.Try body [.ExceptHandler (some (.Name x np)) (some n) (b₀ :: suite) pos'] [] [] pos) := by
  let tb : WX → TS := fun W D σ H => ∃ (G : Hp) (os : En) (f : FP), σ.length = os.length ∧ SI X.K G H σ os f ∧ ((∃ x os1, xv os = some (x, os1) ∧ ∀ σ' H', KontS X.K R σ G H f os1 σ' H' → W (.ref (C x)) none σ' H') ∨ ∃ res, ev os = some res ∧ Post X.K R σ G H f D res)
  let ts : Addr → Value → Option Addr → TS := fun a cls d D σ H => ∃ e, e < nC ∧ cls = .ref (C e) ∧ d = none ∧ ∃ (G : Hp) (os : En) (f : FP) (res : Res), σ.length = os.length ∧ SI X.K G H σ os f ∧ su e a os = some res ∧ Post X.K R σ G H f D res
  have hbP : ∀ (W : WX) (pn : List (Addr × Obj)) (xe : Value → Shared → Prop), Takes (X.tr pn xe) W → PassesOwn (model X.prog X.w) X.A X.env xe → PSs (X.tr pn xe) body (tb W) := fun W pn xe tk po => by
    obtain ⟨t, p, q, z⟩ := hb W pn xe tk po
    refine ⟨fun pins s σ H D I h => p.run pins s σ H D I ?_⟩
    obtain ⟨G, os, f, hl, J, h | h⟩ := h
    · obtain ⟨x, os1, e1, k⟩ := h
      exact z σ G H os f x os1 D hl J e1 k
    · obtain ⟨res, e1, k⟩ := h
      exact q σ G H os f res D hl J e1 k
  have hsP : ∀ (a : Addr) (oe : Obj) (cls : Value) (d : Option Addr) (pn : List (Addr × Obj)), Zc cls d oe → (∃ vs, oe.data = .fields vs) → PSs (X.suite a ((a, oe) :: pn)) (b₀ :: suite) (ts a cls d) := fun a oe cls d pn hz hv => by
    refine ⟨fun pins s σ H D I h => ?_⟩
    obtain ⟨e, he, rfl, rfl, G, os, f, res, hl, J, e1, k⟩ := h
    obtain ⟨t, p, q⟩ := hsu e a oe pn he hz hv
    exact p.run pins s σ H D I (q σ G H os f res D hl J e1 k)
  refine ⟨_, ps_try_as hs hf hN hi hln hc (takes0 (X := X)) hbP hsP, fun σ G H os f res D hl I e k => ?_⟩
  unfold eTry at e
  split at e
  · rename_i y os1 e1
    split at e
    · rename_i hy
      refine ⟨G, os, f, hl, I, .inl ⟨y, os1, e1, fun σ' H' kk => ?_⟩⟩
      refine ⟨true, by rw [← hy.2]; exact (hC y c hy.1 hcn).1, fun _ a na => ?_, fun z => nomatch z⟩
      have e := suE_of e a
      unfold suAs at e
      split at e
      · rename_i hil
        obtain ⟨G', f', J, s', l', r'⟩ := kk
        cases es : su y a (os1.set i (some (.sh (excD a y)))) with
        | none => rw [es] at e; cases e
        | some res1 =>
          rw [es] at e
          have e : some (wipeR i res1) = some res := e
          cases e
          obtain ⟨f2, J2, le2⟩ := (J.push (.exc a y)).store l' hil
          have kR : ∀ j ∈ R, (σ'.set i (some (.ref a)))[j]? = σ[j]? := fun j hj => by
            rw [List.getElem?_set_ne (fun z => by subst z; exact hR hj)]
            exact r' j hj
          refine ⟨y, hy.1, rfl, rfl, G', os1.set i (some (.sh (excD a y))), f2, res1, by rw [List.length_set, List.length_set]; exact l', J2, es, ?_⟩
          have s2 := s'.trans (Stp.less le2)
          have fin : ∀ (os' : En) (σ2 : L2.St) (H2 : Hp), KontS X.K R (σ'.set i (some (.ref a))) G' H' f2 os' σ2 H2 → KontS X.K R σ G H f (os'.set i none) (σ2.set i none) H2 := fun os' σ2 H2 kk => by
            obtain ⟨G3, f3, J3, s3, l3, r3⟩ := kk
            obtain ⟨f4, J4, le4⟩ := J3.unset' l3 i
            refine ⟨G3, f4, J4, (s2.trans s3).trans (Stp.less le4), by rw [List.length_set, List.length_set]; exact l3, fun j hj => ?_⟩
            rw [List.getElem?_set_ne (fun z => by subst z; exact hR hj)]
            exact (r3 j hj).trans (kR j hj)
          cases res1 with
          | nx os' => exact fun σ2 H2 kk => k _ _ (fin os' σ2 H2 kk)
          | bk os' => exact fun σ2 H2 kk => k _ _ (fin os' σ2 H2 kk)
          | ct os' => exact fun σ2 H2 kk => k _ _ (fin os' σ2 H2 kk)
          | rt o os' =>
            intro v H2 kk
            obtain ⟨G3, f3, σ3, J3, s3, l3, r3⟩ := kk
            obtain ⟨f4, J4, le4⟩ := J3.unsetR l3 i
            refine k v H2 ⟨G3, f4, σ3.set i none, J4, (s2.trans s3).trans (Stp.less le4), by rw [List.length_set, List.length_set]; exact l3, fun j hj => ?_⟩
            rw [List.getElem?_set_ne (fun z => by subst z; exact hR hj)]
            exact (r3 j hj).trans (kR j hj)
      · cases e
    · cases e
  · exact ⟨G, os, f, hl, I, .inr ⟨res, e, k⟩⟩
/-- isinstance(e, T) in the suite -/
def opIsE (a e : Nat) (b : Bool) : List PyData → Option Op
  | [.dict [(.int a', .int e')]] => if a' = (a : Nat) ∧ e' = (e : Nat) then some (.val (.bool b)) else none
  | _ => none
theorem o_isE {a e : Nat} {b : Bool} : opIsE a e b [excD a e] = some (.val (.bool b)) := by
  show (if ((a : Nat) : Int) = (a : Nat) ∧ ((e : Nat) : Int) = (e : Nat) then _ else none) = _
  rw [if_pos ⟨rfl, rfl⟩]
theorem ok_isE {K : PySem.W.Frag} {a e : Nat} {b : Bool} {D : Addr} {cv : Addr} (hk : PySem.W.kitOne K (.ref D) (.ref cv) = some b) : OpOk K (r1 fun x H Q => rIsE K D a [x, .ref cv] H Q) (opIsE a e b) := .ofSc (fun ds res e => by
    unfold opIsE at e
    split at e
    · split at e
      · cases e; exact ⟨_, rfl, rfl⟩
      · cases e
    · cases e) fun ds d H vs Q e hd k => by
    unfold opIsE at e
    split at e
    · split at e
      · rename_i a' e' c
        cases e
        obtain ⟨v, rfl, h⟩ := dps1 hd
        cases h with
        | exc a2 e2 =>
          obtain ⟨c1, _⟩ := c
          have : a2 = a := by omega
          subst this
          exact ⟨.ref cv, .ref cv, b, rfl, fun u hu => hu, hk, k _ (.bl _)⟩
      · cases e
    · cases e
theorem se_isE {e y : Nat} {a : Addr} {oe : Obj} {pn : List (Addr × Obj)} {tn : Str} {o : Expr} {ea : EvE} {p q pos : Pos} (hC : ErrsOk X.K C nC sub) (he : e < nC) (hy : y < nC) (hE : ExcC X.K (C e)) (hz : Zc (.ref (C e)) none oe) (hf : ∃ vs, oe.data = .fields vs) (hm : X.mg "isinstance" = none) (hT : X.mg tn = some (.ref (C y)))
    (ha : SE (X.suite a ((a, oe) :: pn)) ea o) (hg : Gl X "isinstance" := by rfl) (hg2 : Gl X tn := by rfl) (hd : (tn == ("__debug__" : Str)) = false := by decide)
    (hst : starEach (o :: [.Name tn q]) X.env = (false, eval o X.env) :: starEach [.Name tn q] X.env := by rfl) :
    SE (X.suite a ((a, oe) :: pn)) (eOp (opIsE a e (sub e y)) (es1 ea)) (.Call (.Name "isinstance" p) [o, .Name tn q] [] pos) := by
  obtain ⟨ta, p1, q1⟩ := ha
  have := pe_callB (X := X.suite a ((a, oe) :: pn)) (x := "isinstance") (p := p) (pos := pos) (call_isE hE hz hf) hg hm (by decide +kernel) (pa_cons p1 (pa_cons (pe_glob (v := .ref (C y)) (pos := q) hg2 hT rfl hd) pa_nil) hst) (by decide) (by decide) hst (by rfl)
  refine ⟨_, this, ?_⟩
  exact er_op (r := r1 fun x H Q => rIsE X.K (C e) a [x, .ref (C y)] H Q) (ers_cons q1 ers_nil) (ok_isE (hC e y he hy).2)
theorem ok_isEB {K : PySem.W.Frag} {a e : Nat} {b : Bool} {D : Addr} {n : String} (hk : PySem.W.kitOne K (.ref D) (.type n) = some b) : OpOk K (r1 fun x H Q => rIsE K D a [x, .ty n] H Q) (opIsE a e b) := .ofSc (fun ds res e => by
    unfold opIsE at e
    split at e
    · split at e
      · cases e; exact ⟨_, rfl, rfl⟩
      · cases e
    · cases e) fun ds d H vs Q e hd k => by
    unfold opIsE at e
    split at e
    · split at e
      · rename_i a' e' c
        cases e
        obtain ⟨v, rfl, h⟩ := dps1 hd
        cases h with
        | exc a2 e2 =>
          obtain ⟨c1, _⟩ := c
          have : a2 = a := by omega
          subst this
          exact ⟨.ty n, .type n, b, rfl, fun u hu => hu, hk, k _ (.bl _)⟩
      · cases e
    · cases e
theorem se_isEB {e : Nat} {n : String} {b : Bool} {y : Str} {a : Addr} {oe : Obj} {pn : List (Addr × Obj)} {o : Expr} {ea : EvE} {p q pos : Pos} (hE : ExcC X.K (C e)) (hz : Zc (.ref (C e)) none oe) (hf : ∃ vs, oe.data = .fields vs) (hm : X.mg "isinstance" = none) (hy : X.mg y = none) (hk : PySem.W.kitOne X.K (.ref (C e)) (.type n) = some b)
    (ha : SE (X.suite a ((a, oe) :: pn)) ea o) (hvy : bootBuiltins y = some (.type n) := by decide +kernel) (hg : Gl X "isinstance" := by rfl) (hg2 : Gl X y := by rfl) (hny : y ≠ "__name__" := by decide) (hd : (y == ("__debug__" : Str)) = false := by decide)
    (hst : starEach (o :: [.Name y q]) X.env = (false, eval o X.env) :: starEach [.Name y q] X.env := by rfl) :
    SE (X.suite a ((a, oe) :: pn)) (eOp (opIsE a e b) (es1 ea)) (.Call (.Name "isinstance" p) [o, .Name y q] [] pos) := by
  obtain ⟨ta, p1, q1⟩ := ha
  have := pe_callB (X := X.suite a ((a, oe) :: pn)) (x := "isinstance") (p := p) (pos := pos) (call_isE hE hz hf) hg hm (by decide +kernel) (pa_cons p1 (pa_cons (pe_bltn (v := .ty n) (pos := q) hg2 hy hvy rfl hny hd) pa_nil) hst) (by decide) (by decide) hst (by rfl)
  refine ⟨_, this, ?_⟩
  exact er_op (r := r1 fun x H Q => rIsE X.K (C e) a [x, .ty n] H Q) (ers_cons q1 ers_nil) (ok_isEB hk)
theorem kit_ref {K : PySem.W.Frag} {a c : Addr} {b : Bool} (hi : PySem.W.isClsIn K c = true) (ht : PySem.W.typeIn K (.ref c) = some (.type "type")) (hs : PySem.W.subIn K (.ref a) (.ref c) = some b) : PySem.W.kitCls K (.ref a) (.ref c) = some b := by
  have e2 : ((PySem.W.clsIn K c).isSome && PySem.W.typeIn K (.ref c) == some (.type "type")) = true := by
    have h2' : (PySem.W.clsIn K c).isSome = true := hi
    rw [h2', ht] <;> rfl
  show (if ((PySem.W.clsIn K c).isSome && PySem.W.typeIn K (.ref c) == some (.type "type")) = true then PySem.W.subIn K (.ref a) (.ref c) else none) = some b
  rw [if_pos e2]; exact hs
theorem errs_mk {K : PySem.W.Frag} {C : Nat → Addr} {nC : Nat} {sub : Nat → Nat → Bool} (hb : ∀ i, i < nC → PySem.W.subIn K (.ref (C i)) (.type "BaseException") = some true) (hi : ∀ i, i < nC → PySem.W.isClsIn K (C i) = true) (ht : ∀ i, i < nC → PySem.W.typeIn K (.ref (C i)) = some (.type "type"))
    (hs : ∀ i j, i < nC → j < nC → PySem.W.subIn K (.ref (C i)) (.ref (C j)) = some (sub i j)) (hr : ∀ i, i < nC → sub i i = true) : ErrsOk K C nC sub := fun i j h1 h2 => by
  have k := kit_ref (hi j h2) (ht j h2) (hs i j h1 h2)
  refine ⟨?_, ?_⟩
  · have e1 : (PySem.W.subIn K (.ref (C j)) (.type "BaseException") == some true) = true := by rw [hb j h2] <;> rfl
    show (if (PySem.W.subIn K (.ref (C j)) (.type "BaseException") == some true) = true then _ else none) = _
    rw [if_pos e1]; exact k
  · show (if ((Value.ref (C i)) == (Value.ref (C j))) = true then some true else _) = _
    split
    · rename_i z
      have z : Value.ref (C i) = Value.ref (C j) := eq_of_beq z
      injection z with z
      have e1 := hs i j h1 h2
      have e2 := hs i i h1 h1
      rw [← z] at e1
      rw [← e1, e2, hr i h1]
    · exact k
theorem errB_mk {K : PySem.W.Frag} {a : Addr} {T : String} {b : Bool} (hm : PySem.W.kitMeta T = true) (hs : PySem.W.subIn K (.ref a) (.type T) = some b) : PySem.W.kitOne K (.ref a) (.type T) = some b := by
  show (if ((Value.ref a) == (Value.type T)) = true then some true else (if PySem.W.kitMeta T = true then PySem.W.subIn K (.ref a) (.type T) else none)) = _
  rw [if_neg (by intro z; have := eq_of_beq z; cases this), if_pos hm]
  exact hs
end
end DX
/-! DXMore: gcd, texts of ints, f-strings, tuples of the top, comprehensions over pairs, calls without arguments. -/
namespace DX
open PySem PySem.Spec PyProof.Rows L2
section
variable {K : PySem.W.Frag} {X : Cx}
/-! ### gcd -/
def gcdI (a b : Int) : Int := ((Nat.gcd a.natAbs b.natAbs : Nat) : Int)
def opGcd := opII (fun _ _ => true) fun i j => .int (gcdI i j)
theorem ok_gcd : OpOk K rGcd opGcd := .ofSc (fun ds res e => by
    unfold opGcd opII at e
    split at e
    · rw [if_pos rfl] at e; cases e; exact ⟨_, rfl, rfl⟩
    · cases e) fun ds d H vs Q e hd k => by
    unfold opGcd opII at e
    split at e
    · rw [if_pos rfl] at e
      cases e
      obtain ⟨v, w, rfl, a, b⟩ := dps2 hd
      cases a; cases b
      exact ⟨_, _, rfl, k _ (.int _)⟩
    · cases e
theorem se_gcd {x : Str} {e f : Expr} {ev : EvEs} {p pos : Pos} (hm : X.mg x = some (.builtin "math.gcd")) (h : SEs X ev [e, f]) (hg : Gl X x := by rfl) (hdb : (x == ("__debug__" : Str)) = false := by decide)
    (he : starEach (e :: [f]) X.env = (false, eval e X.env) :: starEach [f] X.env := by rfl) (hpl : (backTo pos (starEach [f] X.env)).any (·.1) = false := by rfl) : SE X (eOp opGcd ev) (.Call (.Name x p) [e, f] [] pos) := by
  obtain ⟨ta, q1, q2⟩ := h
  exact ⟨_, pe_callBfun cr_gcd hg hm q1 hdb he hpl, er_op q2 ok_gcd⟩
theorem o_gcd {a b : Int} : opGcd [.int a, .int b] = some (.val (.int (gcdI a b))) := rfl

/-! ### str(int) -/
def strI (i : Int) : Str := toString i
def opStr : List PyData → Option Op
  | [.int i] => if Nat.blt i.natAbs.log2 1920 = true ∧ (strI i).length ≤ strMax then some (.val (.str (strI i))) else none
  | _ => none
theorem ok_str : OpOk K (fun xs H Q => ∃ i, xs = [.int i] ∧ i.natAbs.log2 < 1920 ∧ Q (.str (toString i)) H) opStr := .ofSc (fun ds res e => by
    unfold opStr at e
    split at e
    · split at e
      · cases e; exact ⟨_, rfl, rfl⟩
      · cases e
    · cases e) fun ds d H vs Q e hd k => by
    unfold opStr at e
    split at e
    · split at e
      · rename_i c
        cases e
        obtain ⟨v, rfl, a⟩ := dps1 hd
        cases a
        exact ⟨_, rfl, Nat.le_of_ble_eq_true c.1, k _ (.str _ c.2)⟩
      · cases e
    · cases e
theorem se_str1 {e : Expr} {ev : EvEs} {p pos : Pos} (hm : X.mg "str" = none) (h : SEs X ev [e]) (hg : Gl X "str" := by rfl) (he : starEach (e :: []) X.env = (false, eval e X.env) :: starEach [] X.env := by rfl) : SE X (eOp opStr ev) (.Call (.Name "str" p) [e] [] pos) := se_bt call_str_int ok_str hm h (by decide +kernel) hg (by decide) (by decide) he rfl

/-! ### tuples of the top -/
theorem se_globT {x : Str} {a : Addr} {d : PyData} {pos : Pos} (hm : X.mg x = some (.ref a)) (hd : ∀ H, Dx X.K H (.ref a) d) (hg : Gl X x := by rfl) (hdb : (x == ("__debug__" : Str)) = false := by decide) : SE X (eC d) (.Name x pos) :=
  ⟨_, pe_glob (v := .ref a) hg hm rfl hdb, er_c hd⟩
theorem dx_top2 {a : Addr} {o : Obj} {i j : Int} {t u : Tok} {n : Nat} (h : K.lookup a = some o) (hc : o.cls = .type "tuple") (hd : o.data = .seq #[.int i t, .int j u] n) (H : Hp) : Dx K H (.ref a) (.tuple [.int i, .int j]) :=
  .tup (.inr ⟨o, _, n, h, hc, hd, by show 2 ≤ sizeLine; decide, (show Vals [V.int i, V.int j] [Value.int i t, Value.int j u] from .cons ⟨t, rfl⟩ (.cons ⟨u, rfl⟩ .nil))⟩) (.cons (.int i) (.cons (.int j) .nil))

/-! ### a call without arguments -/
theorem pe_callG0 {k : Nat} {f : Addr} {fd : FuncData} {ps : List Str} {sp : Sp} {x : Str} {p pos : Pos} (F : FnG X.prog X.w X.K X.mg X.base k f fd ps sp) (hA : X.A.guards = some []) (hr : Room k X.A) (hm : X.mg x = some (.ref f)) (hk : PySem.W.keepIn X.K (.ref f) = true) (hb : Bd fd ps 0 0 [] [])
    (hg : Gl X x := by rfl) (hdb : (x == ("__debug__" : Str)) = false := by decide) : PE X (.Call (.Name x p) [] [] pos) (tCallG sp [] 0 tNil) := by
  refine ⟨fun pins s σ H Q I h => ?_⟩
  refine wpAny_Call_Name_kw (ld_glob I hg hm ?_ hdb)
  refine PySem.W.callWith_K0 (first := []) I.kIn hk ?_
  obtain ⟨_, q⟩ := h
  exact callG_core (np := 0) (ks := []) (us := []) (vs := []) F hA hr hb I .nil rfl q
theorem se_call00 {k : Nat} {f : Addr} {fd : FuncData} {ps : List Str} {x : Str} {p pos : Pos} {m : List OD → Option OD} (F : FnG X.prog X.w X.K X.mg X.base k f fd ps (sp0 X.K m 0)) (hA : X.A.guards = some []) (hr : Room k X.A) (hm : X.mg x = some (.ref f)) (hk : PySem.W.keepIn X.K (.ref f) = true) (hb : Bd fd ps 0 0 [] [])
    (hg : Gl X x := by rfl) (hdb : (x == ("__debug__" : Str)) = false := by decide) : SE X (eFn0 m 0 [] esNil) (.Call (.Name x p) [] [] pos) :=
  ⟨_, pe_callG0 F hA hr hm hk hb hg hdb, er_fn0 ers_nil⟩

/-! ### f-strings -/
/-- the parts: a text, or an int as a text -/
def txt? : PyData → Option Str
  | .str y => some y
  | .int i => if Nat.blt i.natAbs.log2 1920 = true ∧ (strI i).length ≤ strMax then some (strI i) else none
  | _ => none
def JR (K : PySem.W.Frag) (ev : Str → En → Option (Str × En)) (ts : List TE) : Prop := ∀ (acc : Str) (σ τ : List (Option V)) (G H : Hp) (os θ : En) (f : FP) (y : Str) (os' : En) (Q : Str → Hp → Prop),
  σ.length = os.length → τ.length = θ.length → SI K G H (σ ++ τ) (os ++ θ) f → ev acc os = some (y, os') → (∀ H', KontT K σ τ G H f os' θ H' → Q y H') → tJs ts acc σ H Q
def SJ (X : Cx) (ev : Str → En → Option (Str × En)) (es : List Expr) : Prop := ∃ ts, PJ X es ts ∧ JR X.K ev ts
def jNil : Str → En → Option (Str × En) := fun acc os => some (acc, os)
def jCons (ea : EvE) (er : Str → En → Option (Str × En)) : Str → En → Option (Str × En) := fun acc os => match ea os with
  | some (r, os1) => match r.rd os1 with
    | some d => match txt? d with
      | some y => if (acc ++ y).length ≤ strMax then er (acc ++ y) os1 else none
      | none => none
    | none => none
  | none => none
theorem sj_nil : SJ X jNil [] := ⟨[], .nil, fun acc σ τ G H os θ f y os' Q hl ht I e k => by
  cases e
  exact k H ⟨G, f, I, Stp.refl _ _ _, hl⟩⟩
theorem sj_fmt {e : Expr} {es : List Expr} {ea : EvE} {er : Str → En → Option (Str × En)} {pos : Pos} (h : SE X ea e) (g : SJ X er es) : SJ X (jCons ea er) (.FormattedValue e (-1) none pos :: es) := by
  obtain ⟨te, p, q⟩ := h
  obtain ⟨ts, p2, q2⟩ := g
  refine ⟨_, .cons (pe_fmt p) p2, fun acc σ τ G H os θ f y os' Q hl ht I e k => ?_⟩
  unfold jCons at e
  split at e
  · rename_i r os1 e1
    split at e
    · rename_i d e2
      split at e
      · rename_i z e3
        split at e
        · rename_i hz
          refine q σ τ G H os θ f r os1 _ hl ht I e1 fun v H1 k1 => ?_
          have hv := k1.read1 ht e2
          obtain ⟨G1, f1, I1, s1, l1⟩ := k1.drop ht
          have rest : tJs ts (acc ++ z) σ H1 Q := q2 (acc ++ z) σ τ G1 H1 os1 θ f1 y os' Q l1 ht I1 e fun H' kk => k H' (kk.step s1)
          cases hv with
          | str x hx =>
            cases e3
            exact .inl ⟨_, rfl, strMax_le' hx, _, rfl, strMax_le' hz, rest⟩
          | int i =>
            simp only [txt?] at e3
            split at e3
            · rename_i c
              cases e3
              exact .inr ⟨_, rfl, Nat.le_of_ble_eq_true c.1, _, rfl, strMax_le' hz, rest⟩
            · cases e3
          | _ => cases e3
        · cases e
      · cases e
    · cases e
  · cases e
theorem sj_str {x : Str} {j : Nat} {es : List Expr} {er : Str → En → Option (Str × En)} {pos : Pos} (g : SJ X er es) (hx : x.length ≤ strMax := by decide +kernel) : SJ X (jCons (eC (.str x)) er) (.Constant (.str x) j pos :: es) := by
  obtain ⟨ts, p2, q2⟩ := g
  refine ⟨_, .cons pe_str p2, fun acc σ τ G H os θ f y os' Q hl ht I e k => ?_⟩
  unfold jCons eC at e
  simp only [RV.rd, OD.er, txt?] at e
  split at e
  · rename_i hz
    exact ⟨_, rfl, strMax_le' hz, q2 (acc ++ x) σ τ G H os θ f y os' Q hl ht I e k⟩
  · cases e
def eJoin (ev : Str → En → Option (Str × En)) : EvE := fun os => match ev Str.empty os with
  | some (y, os1) => if y.length ≤ strMax then some (.tm (.sh (.str y)), os1) else none
  | none => none
theorem se_joined {v1 v2 : Expr} {rest : List Expr} {ev : Str → En → Option (Str × En)} {pos : Pos} (h : SJ X ev (v1 :: v2 :: rest)) : SE X (eJoin ev) (.JoinedStr (v1 :: v2 :: rest) pos) := by
  obtain ⟨ts, p, q⟩ := h
  refine ⟨_, pe_joined p, fun σ τ G H os θ f r os' Q hl ht I e k => ?_⟩
  unfold eJoin at e
  split at e
  · rename_i y os1 e1
    split at e
    · rename_i hy
      cases e
      refine q Str.empty σ τ G H os θ f y os' _ hl ht I e1 fun H' kk => ?_
      obtain ⟨G1, f1, I1, s1, l1⟩ := kk
      exact k _ H' ((Kont.sh l1 I1 (.str y hy)).step s1)
    · cases e
  · cases e

/-! ### comprehensions over pairs -/
section
variable {R : List Nat} {elt iter c : Expr} {x y : Str} {px py pt pos : Pos} {kt : Nat} {scope : Scope} {i j : Nat} {it : EvI} {ev : EvE} {cc : EvT}
abbrev gv2 (i j : Nat) : EvG := gvTup 2 (gvCons (gvName [] i) (gvCons (gvName [] j) gvNil))
abbrev tg2 (x y : Str) (px py pt : Pos) (kt : Nat) : Expr := .Tuple [.Name x px, .Name y py] kt pt
theorem se_lc2 (i j : Nat) (hc : X.calm = true) (hN : X.N.Nodup) (hi : SI' X (tg2 x y px py pt kt) it iter) (he : ∀ (s : Shared) (H : Hp) (C : Addr) (cl : List (Str × Addr)) (fp : List Addr), SE (X.blk s H scope (compEnvC scope cl C X.env) fp) ev elt)
    (ok : BlkOk X.N X.env.scope scope [(x, i), (y, j)])
    (hg : ∀ (s : Shared) (H : Hp) (C : Addr) (cl : List (Str × Addr)) (fp : List Addr), PG (X.blk s H scope (compEnvC scope cl C X.env) fp) (tg2 x y px py pt kt) (gTup X.K 2 (gCons (gName i) (gCons (gName j) gNil))))
    (hs : ∀ v, foldedSetIterable iter X.env v = pure v := by intro _; rfl) : SE X (eLc [i, j] it (gv2 i j) cYes ev) (.ListComp elt [⟨tg2 x y px py pt kt, iter, [], 0⟩] scope pos) := by
  obtain ⟨wi, p, q⟩ := hi
  exact ⟨_, pe_lc (own := [(x, i), (y, j)]) hc hN p ok hg (fun _ _ _ _ _ => pts_nil) (fun s H C cl fp => (he s H C cl fp).pe) hs, er_lc q (tgc_two (by simp) (by simp)) tr_yes (er_of ev)⟩
theorem se_lcIf2 (i j : Nat) (hc : X.calm = true) (hN : X.N.Nodup) (hi : SI' X (tg2 x y px py pt kt) it iter) (ht : ∀ (s : Shared) (H : Hp) (C : Addr) (cl : List (Str × Addr)) (fp : List Addr), STt (X.blk s H scope (compEnvC scope cl C X.env) fp) cc c) (he : ∀ (s : Shared) (H : Hp) (C : Addr) (cl : List (Str × Addr)) (fp : List Addr), SE (X.blk s H scope (compEnvC scope cl C X.env) fp) ev elt)
    (ok : BlkOk X.N X.env.scope scope [(x, i), (y, j)])
    (hg : ∀ (s : Shared) (H : Hp) (C : Addr) (cl : List (Str × Addr)) (fp : List Addr), PG (X.blk s H scope (compEnvC scope cl C X.env) fp) (tg2 x y px py pt kt) (gTup X.K 2 (gCons (gName i) (gCons (gName j) gNil))))
    (hs : ∀ v, foldedSetIterable iter X.env v = pure v := by intro _; rfl) : SE X (eLc [i, j] it (gv2 i j) cc ev) (.ListComp elt [⟨tg2 x y px py pt kt, iter, [c], 0⟩] scope pos) := by
  obtain ⟨wi, p, q⟩ := hi
  exact ⟨_, pe_lc (own := [(x, i), (y, j)]) hc hN p ok hg (fun s H C cl fp => pts_one (ht s H C cl fp).pt) (fun s H C cl fp => (he s H C cl fp).pe) hs, er_lc q (tgc_two (by simp) (by simp)) (tr_of cc) (er_of ev)⟩
end
end
end DX
/-! DXTpl: tuples whose items are owned. -/
namespace DX
open PySem PySem.Spec PyProof.Rows L2

section
variable {K : PySem.W.Frag} {X : Cx} {R : List Nat}
/-- the operands, moved out of their slots -/
def mvs (os : En) : List RV → Option (List OD × En)
  | [] => some ([], os)
  | r :: rs => match give os r with
    | some (o, os1) => match mvs os1 rs with
      | some (xs, os2) => some (o :: xs, os2)
      | none => none
    | none => none
def eTupO (es : EvEs) : EvE := fun os => match es os with
  | some (rs, os1) => match mvs os1 rs with
    | some (xs, os2) => if xs.length ≤ sizeLine then some (.tm (.tpl xs), os2) else none
    | none => none
  | none => none
theorem mvs_ok {G H : Hp} {σ : L2.St} : ∀ {vs : List V} {rs : List RV} {os os' : En} {xs : List OD} {f1 f2 : FP}, Als σ vs rs → SL K G H σ os f1 → SL K G H (vs.map some) (rs.map RV.od) f2 → mvs os rs = some (xs, os') →
    ∃ g f3, ROs K G H vs xs g ∧ SL K G H σ os' f3 ∧ os'.length = os.length ∧ ∀ a, g a + f3 a ≤ f1 a + f2 a
  | _, _, os, os', xs, f1, f2, .nil, h, _, e => by
    cases e
    exact ⟨_, f1, .nil, h, rfl, fun a => by (try dsimp only); omega⟩
  | v :: vs, r :: rs, os, os', xs, f1, f2, .cons a q, h, s, e => by
    unfold mvs at e
    split at e
    · rename_i o os1 e1
      split at e
      · rename_i ys os2 e2
        cases e
        cases r with
        | tm o' =>
          cases e1
          cases s with
          | val q1 s =>
            obtain ⟨g, f3, r1, r2, r3, r4⟩ := mvs_ok q h s e2
            exact ⟨_, f3, .cons q1 r1, r2, r3, fun a => by (try dsimp only); have := r4 a; omega⟩
        | al i =>
          cases s with
          | un s =>
            have hv : σ[i]? = some (some v) := a
            have e1 : (match os[i]? with | some (some (.sh d)) => some (OD.sh d, os) | some (some (.lst xs)) => some (OD.lst xs, os.set i none) | some (some (.tpl xs)) => some (OD.tpl xs, os.set i none) | _ => none) = some (o, os1) := e1
            split at e1
            · rename_i d e3
              cases e1
              obtain ⟨v', fo, fr, q2, q3, _⟩ := h.at e3
              rw [hv] at q2; cases q2
              obtain ⟨g, f3, r1, r2, r3, r4⟩ := mvs_ok q h s e2
              cases q3 with
              | sh q3 => exact ⟨_, f3, .cons (.sh q3) r1, r2, r3, fun a => by (try dsimp only); have := r4 a; omega⟩
            · rename_i zs e3
              cases e1
              obtain ⟨v', fo, fr, q2, q3, q4, q5⟩ := SL.out h e3
              rw [hv] at q2; cases q2
              obtain ⟨g, f3, r1, r2, r3, r4⟩ := mvs_ok q q5 s e2
              exact ⟨_, f3, .cons q3 r1, r2, by rw [r3, List.length_set], fun a => by (try dsimp only); have := r4 a; rw [q4 a]; omega⟩
            · rename_i zs e3
              cases e1
              obtain ⟨v', fo, fr, q2, q3, q4, q5⟩ := SL.out h e3
              rw [hv] at q2; cases q2
              obtain ⟨g, f3, r1, r2, r3, r4⟩ := mvs_ok q q5 s e2
              exact ⟨_, f3, .cons q3 r1, r2, by rw [r3, List.length_set], fun a => by (try dsimp only); have := r4 a; rw [q4 a]; omega⟩
            · cases e1
      · cases e
    · cases e
/-- a new tuple, its items as they are owned -/
theorem pushTpl {G H : Hp} {vs : List (Option V)} {os : En} {f h g : FP} {xs : List V} {ys : List OD} (I : ∀ a, f a ≤ 1) (hid : ∀ a, f a ≠ 0 → G a = none) (sub : Sub G H) (live : ∀ a, f a ≠ 0 → H a ≠ none) (hs : SL K G H vs os h) (q : ROs K G H xs ys g) (le : ∀ a, g a + h a ≤ f a) {p : Addr} (hp : H p = none) :
    ∃ k, SI K (upd G p (.tup xs)) (upd H p (.tup xs)) (vs ++ [some (.ref p)]) (os ++ [some (.tpl ys)]) k ∧ Stp G H f (upd G p (.tup xs)) (upd H p (.tup xs)) k := by
  have gp : G p = none := by
    cases hg : G p with
    | none => rfl
    | some u => have := sub p u hg; rw [hp] at this; cases this
  have sg : Sub G (upd G p (.tup xs)) := sub_upd (Sub.refl _) gp
  have sb : Sub H (upd H p (.tup xs)) := sub_upd (Sub.refl _) hp
  have hfp : f p = 0 := by
    by_cases e : f p = 0
    · exact e
    · exact absurd hp (live p e)
  have r : RO K (upd G p (.tup xs)) (upd H p (.tup xs)) (.ref p) (.tpl ys) g := .tpl (SqT.of upd_same) (q.mono sg fun a u _ e => sb a u e)
  obtain ⟨k, k1, k2⟩ := SL.app (hs.mono sg fun a u _ e => sb a u e) (SL.val r .nil)
  have kle : ∀ a, k a ≤ f a := fun a => by rw [k2]; (try dsimp only); have := le a; omega
  refine ⟨k, ⟨k1, sub_upd2 sub, fun a => Nat.le_trans (kle a) (I a), fun a z => ?_⟩, ⟨sg, fun a o e _ => sb a o e, fun a e => ?_, fun a e => ?_, fun a z => .inl (by have := kle a; omega)⟩⟩
  · have z' : f a ≠ 0 := by have := kle a; omega
    rw [upd_ne (fun e => by subst e; exact z' hfp)]
    exact hid a z'
  · cases e' : H a with
    | none => exact absurd e' e
    | some u => rw [sb a u e']; simp
  · by_cases z : a = p
    · subst z; exact .inr (.inl hp)
    · rw [upd_ne z] at e; exact .inl e
theorem er_tupO {ev : EvEs} {ta : TA} (h : ERs K ev ta) : ER K (eTupO ev) (tTup ta) := fun σ τ G H os θ f r os' Q hl ht I e k => by
  unfold eTupO at e
  split at e
  · rename_i rs os1 e1
    split at e
    · rename_i xs os2 e2
      split at e
      · rename_i c
        cases e
        refine h σ τ G H os θ f rs os1 _ hl ht I e1 fun vs H1 k1 => ?_
        obtain ⟨G1, f1, I1, s1, a1, l1⟩ := k1
        obtain ⟨g1, k1, c1, c2, c3⟩ := SL.cut l1 I1.sl
        obtain ⟨g2, k2, c4, c5, c6⟩ := SL.cut ht c2
        obtain ⟨g, f3, m1, m2, m3, m4⟩ := mvs_ok a1 c1 c5 e2
        refine ⟨by rw [m1.len]; exact c, fun p hp => ?_⟩
        obtain ⟨h3, d1, d2⟩ := SL.app m2 c4
        obtain ⟨k4, I4, s4⟩ := pushTpl I1.one I1.hid I1.sub I1.live d1 m1 (fun a => by rw [d2, c3, c6]; have := m4 a; omega) hp
        exact k _ _ ⟨_, k4, by simpa [List.append_assoc, RV.od] using I4, s1.trans s4, .cons trivial .nil, by rw [m3]; exact l1⟩
      · cases e
    · cases e
  · cases e
theorem se_tupO {es : List Expr} {ev : EvEs} {x1 pos} (h : SEs X ev es) : SE X (eTupO ev) (.Tuple es x1 pos) := by
  obtain ⟨ta, p, q⟩ := h
  exact ⟨_, pe_tup p, er_tupO q⟩
def sAppTp (i : Nat) (ek ev : EvE) : EvS := fun os => match os[i]? with
  | some (some (.tpl _)) => match ek os with
    | some (rk, os1) => match rk.rd os1, os1[i]? with
      | some (.int k), some (some (.tpl xs)) => match ixN xs.length k with
        | some j => match xs[j]? with
          | some (.lst ys) => match ev (os1.set i none) with
            | some (.tm o, os2) => match os2[i]? with
              | some none => if ys.length < sizeLine then some (.nx (os2.set i (some (.tpl (xs.set j (.lst (ys ++ [o]))))))) else none
              | _ => none
            | _ => none
          | _ => none
        | none => none
      | _, _ => none
    | none => none
  | _ => none
theorem sr_appTp {i : Nat} {ek ev : EvE} {tk te : TE} (hk : ER K ek tk) (h : ER K ev te) : SR K R (sAppTp i ek ev) (tDrop (tBM K "list" rAppend (tOp (rIx K) (tVar i) tk) (tCons te tNil))) := fun σ G H os f res D hl I e k => by
  unfold sAppTp at e
  split at e
  · rename_i zs e0
    obtain ⟨v0, _, _, w1, w2, _⟩ := I.sl.at e0
    have w3 : ∃ p, v0 = .ref p := by
      cases w2 with
      | tpl hp _ => exact ⟨_, rfl⟩
    obtain ⟨p0, rfl⟩ := w3
    split at e
    · rename_i rk os1 e1
      split at e
      · rename_i kk xs e2 e3
        split at e
        · rename_i j e4
          split at e
          · rename_i ys e5
            split at e
            · rename_i o os2 e6
              split at e
              · rename_i e7
                split at e
                · rename_i hsz
                  cases e
                  refine ⟨.ref p0, w1, ?_⟩
                  refine hk σ [] G H os [] f rk os1 _ hl rfl (by simpa using I) e1 fun vk H1 k1 => ?_
                  have hv := k1.read1 rfl e2
                  cases hv
                  obtain ⟨G1, f1, I1, s1, l1⟩ := k1.drop rfl
                  have I1 : SI K G1 H1 σ os1 f1 := by simpa using I1
                  obtain ⟨w, fo, fr, m1, m2, m3, m4⟩ := SL.out I1.sl e3
                  rw [w1] at m1; cases m1
                  cases m2 with
                  | tpl hp0 hro =>
                    rename_i vs0
                    obtain ⟨p, us, g0, fr1, n1, n2, n3, n4, n5⟩ := hro.inner e5
                    have hat : atI vs0 kk = some (.ref p) := by
                      unfold atI
                      rw [hro.len, e4]
                      exact n1
                    refine .inr (.inl ⟨p0, vs0, kk, .ref p, rfl, rfl, sqT_sub I1.sub hp0, hat, ?_⟩)
                    refine ⟨.inl ⟨rfl, us, .inl (.inl n2)⟩, ?_⟩
                    have hf : ∀ a, f1 a = fo a + fr a := m3
                    have J1 : SI K G1 H1 σ (os1.set i none) fr := I1.forget m4 fun a => by rw [hf]; omega
                    refine h σ [] G1 H1 (os1.set i none) [] fr _ os2 _ (by simp [l1]) rfl (by simpa using J1) e6 fun v H2 k2 => ?_
                    obtain ⟨G2, f2, I2, s2, _, l2⟩ := k2
                    have I2 : SI K G2 H2 (σ ++ [some v]) (os2 ++ [some o]) f2 := by simpa [RV.od] using I2
                    obtain ⟨v', fv, f3, ev', qv, rs, hfv⟩ := I2.last l2
                    cases ev'
                    -- what is hidden stands still
                    have hz : ∀ a, fo a ≠ 0 → fr a = 0 ∧ H1 a ≠ none ∧ f2 a = 0 ∧ G2 a = none := fun a z => by
                      have one := I1.one a
                      rw [hf] at one
                      have fz : fr a = 0 := by omega
                      have hl1 : H1 a ≠ none := I1.live a (by rw [hf]; omega)
                      refine ⟨fz, hl1, ?_, ?_⟩
                      · by_cases y : f2 a = 0
                        · exact y
                        · rcases s2.fnew a y with t | t
                          · exact absurd fz t
                          · exact absurd t hl1
                      · cases y : G2 a with
                        | none => rfl
                        | some u =>
                          rcases s2.gnew a (by rw [y]; simp) with t | t | t
                          · exact absurd (I1.hid a (by rw [hf]; omega)) t
                          · exact absurd t hl1
                          · exact absurd fz t
                    have keep2 : ∀ a u, fo a ≠ 0 → H1 a = some u → H2 a = some u := fun a u z e => s2.keep a u e (hz a z).1
                    have hro2 : ROs K G2 H2 vs0 xs fo := hro.mono s2.gsub fun a u z e => keep2 a u (by omega) e
                    obtain ⟨p', us', g0', fr1', a1, a2, a3, a4, a5⟩ := hro2.inner e5
                    rw [n1] at a1; cases a1
                    have hp2 : H2 p = some (.lst us) := keep2 p _ (by rw [a4, if_pos (c := p = p) rfl]; omega) n2
                    rw [hp2] at a2; cases a2
                    refine ⟨p, us, v, rfl, rfl, hp2, by rw [n3.len]; exact hsz, ?_⟩
                    have out : ∀ a u, a ≠ p → H2 a = some u → (upd H2 p (.lst (us ++ [v]))) a = some u := fun a u z e => by rw [upd_ne z]; exact e
                    have onep : ∀ a, ((if a = p then 1 else 0) + g0' a + fr1' a) ≤ 1 := fun a => by have := I1.one a; rw [hf, a4] at this; omega
                    have q0 : g0' p = 0 ∧ fr1' p = 0 := by have := onep p; rw [if_pos (c := p = p) rfl] at this; omega
                    have zp := hz p (by rw [a4, if_pos (c := p = p) rfl]; omega)
                    have fvz : fv p = 0 ∧ f3 p = 0 := by
                      have := zp.2.2.1
                      rw [hfv] at this; omega
                    obtain ⟨gk, r1, r2⟩ := ROs.app (a3.mono (G' := G2) (H' := upd H2 p (.lst (us ++ [v]))) (Sub.refl _) fun a u z e => out a u (fun y => by subst y; exact z q0.1) e)
                      (ROs.one (qv.mono (Sub.refl _) fun a u z e => out a u (fun y => by subst y; exact z fvz.1) e))
                    obtain ⟨f6, b1, b2⟩ := a5 (upd H2 p (.lst (us ++ [v]))) (us ++ [v]) (ys ++ [o]) gk (fun a u z e => out a u (fun y => by subst y; exact z q0.2) e) upd_same r1
                    have rs3 := rs.mono (G' := G2) (H' := upd H2 p (.lst (us ++ [v]))) (Sub.refl _) fun a u z e => out a u (fun y => by subst y; exact z fvz.2) e
                    obtain ⟨f7, c1, c2⟩ := SL.into rs3 e7 w1 (.tpl (sqT_sub s2.gsub hp0) b1)
                    have c3 : ∀ a, f7 a = f3 a + ((if a = p then 1 else 0) + (g0' a + fv a) + fr1' a) := fun a => by rw [c2]; (try dsimp only); rw [b2, r2]
                    have c4 : ∀ a, f7 a = f2 a + fo a := fun a => by rw [c3, hfv, a4]; omega
                    refine k σ _ ⟨G2, f7, ⟨c1, fun a u z => out a u (fun y => by subst y; rw [zp.2.2.2] at z; cases z) (I2.sub a u z), fun a => ?_, fun a z => ?_⟩, s1.trans ⟨s2.gsub, fun a u z y => ?_, fun a z => ?_, fun a z => ?_, fun a z => ?_⟩, by simp [l2], fun _ _ => rfl⟩
                    · rw [c4]
                      by_cases y : fo a = 0
                      · have := I2.one a; omega
                      · have t := hz a y
                        have := I1.one a; rw [hf] at this
                        omega
                    · by_cases y : fo a = 0
                      · rw [c4, y] at z
                        exact I2.hid a (by omega)
                      · exact (hz a y).2.2.2
                    · refine out a u (fun t => ?_) (s2.keep a u z (by rw [hf] at y; omega))
                      subst t
                      rw [hf, a4, if_pos (c := a = a) rfl] at y
                      omega
                    · by_cases t : a = p
                      · subst t; rw [upd_same]; simp
                      · rw [upd_ne t]; exact s2.dom a z
                    · rcases s2.gnew a z with t | t | t
                      · exact .inl t
                      · exact .inr (.inl t)
                      · exact .inr (.inr (by rw [hf]; omega))
                    · rw [c4] at z
                      by_cases y : fo a = 0
                      · rcases s2.fnew a (by omega) with t | t
                        · exact .inl (by rw [hf]; omega)
                        · exact .inr t
                      · exact .inl (by rw [hf]; omega)
                · cases e
              · cases e
            · cases e
          · cases e
        · cases e
      · cases e
    · cases e
  · cases e
theorem ss_appTp (i : Nat) {x : Str} {ie e : Expr} {ek ev : EvE} {px spos apos cpos pos : Pos} (hk : SE X ek ie) (h : SE X ev e) (hN : X.N[i]? = some x := by rfl) (hv : Vis X.env.scope x := by first | exact Or.inl rfl | exact Or.inr (Or.inl rfl) | exact Or.inr (Or.inr rfl))
    (hpi : PlainIx ie := by exact fun _ _ => rfl) (hd : (x == ("__debug__" : Str)) = false := by decide) (hcd : (x == ("__classdict__" : Str)) = false := by decide) (hst : starEach (e :: []) X.env = (false, eval e X.env) :: starEach [] X.env := by rfl)
    (hbase : attributeBase (.Subscript (.Name x px) ie spos) "append" X.env (eval (.Subscript (.Name x px) ie spos) X.env) = eval (.Subscript (.Name x px) ie spos) X.env := by rfl)
    (hfew : ((backTo cpos (starEach (e :: []) X.env)).all (fun x => !x.1) && (backToKw cpos (keywordEach [] X.env)).all (fun x => x.1.isSome) && decide ((e :: ([] : List Expr)).length + ([] : List Keyword).length + (if ([] : List Keyword).isEmpty then 0 else 1) < 30)) = true := by rfl)
    (hs : swapsWith (.Call (.Attribute (.Subscript (.Name x px) ie spos) "append" apos) [e] [] cpos) none pos.line X.env = pure false := by rfl) (hline : (apos.endLine == cpos.line) = true := by rfl) :
    SS X R (sAppTp i ek ev) (.Expr (.Call (.Attribute (.Subscript (.Name x px) ie spos) "append" apos) [e] [] cpos) pos) := by
  obtain ⟨te, p, q⟩ := h
  obtain ⟨tk, p', q'⟩ := hk
  exact ⟨_, ps_expr (pe_bm PySem.F.plainAttrs_list PySem.F.slot_list_append PySem.F.type_list_append mt_append (pe_ix ix_seq (pe_var hN hv hd hcd) p' hpi) (pa_cons p pa_nil hst) hbase hfew hline hst (by rfl)) hs, sr_appTp q' q⟩

def tpl? : Option OD → Option (List OD)
  | some (.tpl xs) => some xs
  | _ => none
theorem k_tpl {xs : List OD} : tpl? (some (.tpl xs)) = some xs := rfl
theorem k_shTp {xs : List OD} : (OD.tpl xs).isSh = false := rfl
theorem b_mvNil {os : En} : mvs os [] = some ([], os) := rfl
theorem b_mvCons {os : En} {r : RV} {rs : List RV} : mvs os (r :: rs) = (give os r).bind fun p => (mvs p.2 rs).bind fun q => some (p.1 :: q.1, q.2) := by
  show (match give os r with | some (o, os1) => _ | none => none) = _
  cases give os r with
  | none => rfl
  | some p =>
    simp only [Option.bind_some]
    cases mvs p.2 rs <;> rfl
theorem b_eTupO {os : En} {es : EvEs} : eTupO es os = (es os).bind fun p => (mvs p.2 p.1).bind fun q => cond (Nat.ble q.1.length sizeLine) (some (.tm (.tpl q.1), q.2)) none := by
  unfold eTupO
  cases es os with
  | none => rfl
  | some p =>
    simp only [Option.bind_some]
    cases mvs p.2 p.1 with
    | none => rfl
    | some q =>
      simp only [Option.bind_some]
      by_cases h : q.1.length ≤ sizeLine
      · rw [if_pos h, Nat.ble_eq_true_of_le h]; rfl
      · rw [if_neg h, Bool.eq_false_iff.mpr fun z => h (Nat.le_of_ble_eq_true z)]; rfl
theorem b_sAppTp {os : En} {i : Nat} {ek ev : EvE} : sAppTp i ek ev os = ((os[i]?).bind tpl?).bind fun _ => (ek os).bind fun p => (p.1.rd p.2).bind fun k => (int? k).bind fun k => ((p.2[i]?).bind tpl?).bind fun xs => (ixN xs.length k).bind fun j => (lst? xs[j]?).bind fun ys =>
    (ev (p.2.set i none)).bind fun q => q.1.od.bind fun o => cond ((q.2[i]?).any Option.isNone && Nat.blt ys.length sizeLine) (some (.nx (q.2.set i (some (.tpl (xs.set j (.lst (ys ++ [o])))))))) none := by
  unfold sAppTp
  cases h0 : os[i]? with
  | none => rfl
  | some s =>
    cases s with
    | none => rfl
    | some o =>
      cases o with
      | sh _ => rfl
      | lst _ => rfl
      | tpl ys =>
        simp only [Option.bind_some, tpl?]
        cases ek os with
        | none => rfl
        | some p =>
          obtain ⟨rk, os1⟩ := p
          simp only [Option.bind_some]
          cases rk.rd os1 with
          | none => rfl
          | some k =>
            cases k with
            | int k =>
              simp only [Option.bind_some, int?]
              cases os1[i]? with
              | none => rfl
              | some s =>
                cases s with
                | none => rfl
                | some o =>
                  cases o with
                  | sh _ => rfl
                  | lst _ => rfl
                  | tpl xs =>
                    simp only [Option.bind_some, tpl?]
                    cases ixN xs.length k with
                    | none => rfl
                    | some j =>
                      simp only [Option.bind_some, lst?]
                      cases xs[j]? with
                      | none => rfl
                      | some o =>
                        cases o with
                        | sh _ => rfl
                        | tpl _ => rfl
                        | lst ys =>
                          simp only [Option.bind_some]
                          cases ev (os1.set i none) with
                          | none => rfl
                          | some q =>
                            obtain ⟨r, os2⟩ := q
                            cases r with
                            | al _ => rfl
                            | tm o =>
                              simp only [Option.bind_some, RV.od]
                              cases os2[i]? with
                              | none => rfl
                              | some s =>
                                cases s with
                                | some _ => rfl
                                | none =>
                                  simp only [Option.any, Option.isNone, Bool.true_and]
                                  by_cases h : ys.length < sizeLine
                                  · rw [if_pos h, show Nat.blt ys.length sizeLine = true from Nat.ble_eq_true_of_le h]; rfl
                                  · rw [if_neg h, show Nat.blt ys.length sizeLine = false from Bool.eq_false_iff.mpr fun z => h (Nat.le_of_ble_eq_true z)]; rfl
            | _ => rfl

/-! ### an operation on a list display that dies with it: nothing is made shared -/
def sc? : Op → Option PyData
  | .val d => if isSc d then some d else none
  | _ => none
def eOpL (fn : List PyData → Option Op) (es : EvEs) : EvE := fun os => match es os with
  | some (rs, os1) => match rdAll os1 rs with
    | some ds => if ds.length ≤ sizeLine then match fn [.list ds] with
      | some res => match sc? res with
        | some d => some (.tm (.sh d), os1)
        | none => none
      | none => none
      else none
    | none => none
  | none => none
theorem er_opL {fn : List PyData → Option Op} {ev : EvEs} {ta : TA} {r : List V → Hp → VK → Prop} (h : ERs K ev ta) (ok : OpOk K r fn) : ER K (eOpL fn ev) (fun σ H Q => tCons (tLst ta) tNil σ H fun vs H1 => r vs H1 Q) := fun σ τ G H os θ f r' os' Q hl ht I e k => by
  unfold eOpL at e
  split at e
  · rename_i rs os1 e1
    split at e
    · rename_i ds e2
      split at e
      · rename_i c
        split at e
        · rename_i res e3
          split at e
          · rename_i d e4
            cases e
            have e5 : res = .val d ∧ isSc d = true := by
              cases res with
              | val d' =>
                have e4 : (if isSc d' = true then some d' else none) = some d := e4
                split at e4
                · rename_i z; cases e4; exact ⟨rfl, z⟩
                · cases e4
              | nl _ => cases e4
              | nt _ => cases e4
            obtain ⟨rfl, hc⟩ := e5
            refine h σ τ G H os θ f rs _ _ hl ht I e1 fun vs H1 k1 => ?_
            obtain ⟨G1, f1, I1, s1, a1, l1⟩ := k1
            obtain ⟨hd, f2, I2, le⟩ := I1.popA l1 ht a1 e2
            refine ⟨by rw [dps_len hd]; exact c, fun p hp => ?_⟩
            have sb : Sub H1 (upd H1 p (.lst vs)) := sub_upd (Sub.refl _) hp
            refine ok.sc [.list ds] d _ _ Q e3 hc (.cons (.lst (.inl (.inl upd_same)) (dps_sub sb hd)) .nil) fun v hv => k v _ ((Kont.sh l1 (I2.grow sb) (dp_sc hv hc)).step ?_)
            exact (s1.trans (Stp.less le)).trans ⟨Sub.refl _, fun a o q _ => sb a o q, fun a q => ne_of_sub sb q, fun a q => .inl q, fun a q => .inl q⟩
          · cases e
        · cases e
      · cases e
    · cases e
  · cases e
theorem se_reprL {k : Nat} {es : List Expr} {ev : EvEs} {p pl pos : Pos} (hA : X.A.guards = some []) (hr : Room k X.A) (hm : X.mg "repr" = none) (h : SEs X ev es) (hg : Gl X "repr" := by rfl) (he : starEach (Expr.List es pl :: []) X.env = (false, eval (Expr.List es pl) X.env) :: starEach [] X.env := by rfl) :
    SE X (eOpL opRepr ev) (.Call (.Name "repr" p) [.List es pl] [] pos) := by
  obtain ⟨ta, p1, q1⟩ := h
  have := pe_callB (X := X) (x := "repr") (p := p) (pos := pos) (call_repr hA (hu65 hr)) hg hm (by decide +kernel) (pa_cons (pe_lst p1) pa_nil he) (by decide) (by decide) he rfl
  exact ⟨_, this, er_opL q1 ok_repr⟩
theorem k_scOS {x : Str} : sc? (.val (.str x)) = some (.str x) := rfl
theorem b_eOpL {os : En} {fn : List PyData → Option Op} {es : EvEs} : eOpL fn es os = (es os).bind fun p => (rdAll p.2 p.1).bind fun ds => cond (Nat.ble ds.length sizeLine) ((fn [.list ds]).bind fun res => (sc? res).bind fun d => some (.tm (.sh d), p.2)) none := by
  unfold eOpL
  cases es os with
  | none => rfl
  | some p =>
    simp only [Option.bind_some]
    cases rdAll p.2 p.1 with
    | none => rfl
    | some ds =>
      simp only [Option.bind_some]
      by_cases h : ds.length ≤ sizeLine
      · rw [if_pos h, Nat.ble_eq_true_of_le h, cond_true]
        cases fn [.list ds] with
        | none => rfl
        | some res =>
          simp only [Option.bind_some]
          cases sc? res <;> rfl
      · rw [if_neg h, Bool.eq_false_iff.mpr fun z => h (Nat.le_of_ble_eq_true z)]; rfl
end
end DX
/-! DXSat: worths run forwards: what holds of what comes out. -/
namespace DX
open PySem PySem.Spec PyProof.Rows L2

/-- the turns that a while may take -/
def fuel : Nat := 2 ^ 5000
theorem fuel_of {n : Nat} (h : n < 2 ^ 4000) : n < fuel := Nat.lt_of_lt_of_le h (Nat.pow_le_pow_right (by decide) (by decide))
theorem fuel_lt {n : Nat} (h : n < 1000000000000) : n < fuel := fuel_of (Nat.lt_of_lt_of_le h (Nat.le_trans (show 1000000000000 ≤ 2 ^ 40 by decide) (Nat.pow_le_pow_right (by decide) (by decide))))
def Sat {α : Type} (x : Option α) (P : α → Prop) : Prop := ∃ a, x = some a ∧ P a
section
variable {α β : Type} {x y : Option α} {P Q : α → Prop}
theorem Sat.mono (h : Sat x P) (k : ∀ a, P a → Q a) : Sat x Q := by
  obtain ⟨a, e, p⟩ := h
  exact ⟨a, e, k a p⟩
theorem Sat.of {a : α} (h : x = some a) (p : P a) : Sat x P := ⟨a, h, p⟩
theorem z_some {a : α} : Sat (some a) P = P a := propext ⟨fun ⟨_, e, p⟩ => by cases e; exact p, fun p => ⟨_, rfl, p⟩⟩
theorem z_none : Sat (none : Option α) P = False := propext ⟨fun ⟨_, e, _⟩ => (nomatch e), False.elim⟩
/-- what follows, shut until its turn -/
def Then (f : β → Option α) (P : α → Prop) (b : β) : Prop := Sat (f b) P
theorem z_then {f : β → Option α} {b : β} : Then f P b = Sat (f b) P := rfl
theorem z_bind {x : Option β} {f : β → Option α} : Sat (x.bind f) P = Sat x (Then f P) := by
  cases x with
  | none => rw [Option.bind_none, z_none, z_none]
  | some b => rw [Option.bind_some, z_some]; rfl
def MapK (f : β → α) (P : α → Prop) (b : β) : Prop := P (f b)
theorem z_mapK {f : β → α} {b : β} : MapK f P b = P (f b) := rfl
theorem z_map {x : Option β} {f : β → α} : Sat (x.map f) P = Sat x (MapK f P) := by
  cases x with
  | none => rw [Option.map_none, z_none, z_none]
  | some b => rw [Option.map_some, z_some, z_some]; rfl
theorem z_guard {c : Bool} : Sat (cond c x none) P = (c = true ∧ Sat x P) := by
  cases c
  · exact propext ⟨fun h => by rw [cond_false, z_none] at h; exact h.elim, fun h => nomatch h.1⟩
  · exact propext ⟨fun h => ⟨rfl, h⟩, fun h => h.2⟩
theorem z_guardN {c : Bool} : Sat (cond c none x) P = (c = false ∧ Sat x P) := by
  cases c
  · exact propext ⟨fun h => ⟨rfl, h⟩, fun h => h.2⟩
  · exact propext ⟨fun h => by rw [cond_true, z_none] at h; exact h.elim, fun h => nomatch h.1⟩
theorem Sat.at {x : Option α} {a : α} (h : x = some a) (p : P a) : Sat x P := ⟨a, h, p⟩
theorem Sat.split {c : Bool} (h : c = true → Sat x P) (g : c = false → Sat y P) : Sat (cond c x y) P := by
  cases c
  · exact g rfl
  · exact h rfl
theorem Sat.splitD {p : Prop} [Decidable p] (h : p → Sat x P) (g : ¬p → Sat y P) : Sat (cond (decide p) x y) P := Sat.split (fun z => h (of_decide_eq_true z)) fun z => g (of_decide_eq_false z)
end
theorem k_condSomeP {α : Type} {c : Bool} {a b : α} {z : En} : cond c (some (a, z)) (some (b, z)) = some (cond c a b, z) := by cases c <;> rfl
theorem k_condNx {c : Bool} {a b : En} : cond c (some (Res.nx a)) (some (Res.nx b)) = some (Res.nx (cond c a b)) := by cases c <;> rfl
theorem k_condEn {c : Bool} {x y : Option OD} {xs ys : En} : cond c (x :: xs) (y :: ys) = cond c x y :: cond c xs ys := by cases c <;> rfl
theorem k_condSl {c : Bool} {a b : PyData} : cond c (some (OD.sh a)) (some (OD.sh b)) = some (OD.sh (cond c a b)) := by cases c <;> rfl
theorem k_condPair {α β : Type} {c : Bool} {a b : α} {z : β} : cond c (a, z) (b, z) = (cond c a b, z) := by cases c <;> rfl
theorem k_condTm {c : Bool} {a b : OD} : cond c (RV.tm a) (RV.tm b) = RV.tm (cond c a b) := by cases c <;> rfl
theorem k_condSh {c : Bool} {a b : PyData} : cond c (OD.sh a) (OD.sh b) = OD.sh (cond c a b) := by cases c <;> rfl
theorem k_condI {c : Bool} {a b : Int} : cond c (PyData.int a) (PyData.int b) = PyData.int (cond c a b) := by cases c <;> rfl
theorem k_condB {c a b : Bool} : cond c (PyData.bool a) (PyData.bool b) = PyData.bool (cond c a b) := by cases c <;> rfl
theorem k_condAnd {c b : Bool} : cond c b false = (c && b) := by cases c <;> rfl
theorem k_condOr {c b : Bool} : cond c true b = (c || b) := by cases c <;> rfl
theorem k_condNot {c : Bool} : cond c false true = !c := by cases c <;> rfl
/-- behind a statement comes b -/
def SeqK (b : EvS) (P : Res → Prop) (r : Res) : Prop := match r with
  | .nx os => Sat (b os) P
  | r => P r
section
variable {a b : EvS} {t : EvT} {P K : Res → Prop} {os : En} {o : OD}
theorem z_seqN : SeqK b P (.nx os) = Sat (b os) P := rfl
theorem z_seqR : SeqK b P (.rt o os) = P (.rt o os) := rfl
theorem z_seqB : SeqK b P (.bk os) = P (.bk os) := rfl
theorem z_seqC : SeqK b P (.ct os) = P (.ct os) := rfl
theorem z_sSeq : Sat (sSeq a b os) P = Sat (a os) (SeqK b P) := by
  rw [b_sSeq, z_bind]
  congr 1
  funext r
  rw [z_then]
  cases r with
  | nx os => rfl
  | rt o os => exact z_some
  | bk os => exact z_some
  | ct os => exact z_some
def IfK (a b : EvS) (P : Res → Prop) (p : Bool × En) : Prop := Sat (cond p.1 (a p.2) (b p.2)) P
theorem z_ifK {c : Bool} : IfK a b P (c, os) = Sat (cond c (a os) (b os)) P := rfl
theorem z_sIf : Sat (sIf t a b os) P = Sat (t os) (IfK a b P) := by rw [b_sIf, z_bind]; rfl
/-- behind a turn of a loop -/
def ForK (I : En → Prop) (K : Res → Prop) (r : Res) : Prop := match r with
  | .nx os => I os
  | .ct os => I os
  | .bk os => K (.nx os)
  | .rt o os => K (.rt o os)
theorem z_forN {I : En → Prop} : ForK I K (.nx os) = I os := rfl
theorem z_forC {I : En → Prop} : ForK I K (.ct os) = I os := rfl
theorem z_forB {I : En → Prop} : ForK I K (.bk os) = K (.nx os) := rfl
theorem z_forR {I : En → Prop} : ForK I K (.rt o os) = K (.rt o os) := rfl
theorem Sat.for {tv : EvG} {b : EvS} {ds : List PyData} {os : En} (I : List PyData → En → Prop) (h0 : I ds os) (h : ∀ d ds os, I (d :: ds) os → Sat (forStep tv b d os) (ForK (I ds) K)) (hK : ∀ os, I [] os → K (.nx os)) : Sat (forF tv b ds os) K := by
  obtain ⟨r, h1, h2⟩ := for_inv I K hK (fun d ds os i => by
    obtain ⟨r, e, p⟩ := h d ds os i
    refine ⟨r, e, ?_⟩
    cases r with
    | nx os => exact p
    | ct os => exact p
    | bk os => exact p
    | rt o os => exact p) ds os h0
  exact ⟨r, h1, h2⟩
theorem Sat.forM {α : Type} {tv : EvG} {b : EvS} {g : α → PyData} {os : En} (xs : List α) (I : List α → List α → En → Prop) (h0 : I [] xs os) (h : ∀ pre x post os, xs = pre ++ x :: post → I pre (x :: post) os → Sat (forStep tv b (g x) os) (ForK (I (pre ++ [x]) post) K))
    (hK : ∀ os, I xs [] os → K (.nx os)) : Sat (forF tv b (xs.map g) os) K := by
  refine Sat.for (fun ds os => ∃ pre post, xs = pre ++ post ∧ ds = post.map g ∧ I pre post os) ⟨[], xs, rfl, rfl, h0⟩ (fun d ds os ⟨pre, post, e1, e2, i⟩ => ?_) fun os ⟨pre, post, e1, e2, i⟩ => ?_
  · cases post with
    | nil => cases e2
    | cons x post =>
      rw [List.map_cons] at e2
      obtain ⟨rfl, rfl⟩ := List.cons.inj e2
      refine (h pre x post os e1 i).mono fun r hr => ?_
      have hx : xs = (pre ++ [x]) ++ post := by rw [e1, List.append_assoc]; rfl
      cases r with
      | nx os => exact ⟨pre ++ [x], post, hx, rfl, hr⟩
      | ct os => exact ⟨pre ++ [x], post, hx, rfl, hr⟩
      | bk os => exact hr
      | rt o os => exact hr
  · have : post = [] := by
      cases post with
      | nil => rfl
      | cons _ _ => cases e2
    subst this
    rw [List.append_nil] at e1
    subst e1
    exact hK os i
theorem Sat.while {t : EvT} {b : EvS} {k : Nat} {os : En} (I : Nat → En → Prop) (n : Nat) (hn : n < k) (h0 : I n os) (h : ∀ n os, I n os → Sat (t os) (fun p => (p.1 = false → K (.nx p.2)) ∧ (p.1 = true → Sat (b p.2) (ForK (fun os' => ∃ m, m < n ∧ I m os') K)))) : Sat (whF t b k os) K := by
  obtain ⟨r, h1, h2⟩ := wh_inv I K (fun n os i => by
    obtain ⟨p, e, q1, q2⟩ := h n os i
    refine ⟨p.1, p.2, e, q1, fun c => ?_⟩
    obtain ⟨r, e, z⟩ := q2 c
    refine ⟨r, e, ?_⟩
    cases r with
    | nx os => exact z
    | ct os => exact z
    | bk os => exact z
    | rt o os => exact z) k n os hn h0
  exact ⟨r, h1, h2⟩
end
theorem sat_lc {own : List Nat} {tv : EvG} {c : EvT} {ev : EvE} {K : List OD × En → Prop} (I : List PyData → List OD → En → Prop) (h : ∀ d ds acc os, I (d :: ds) acc os → Sat (lcStep own tv c ev d os) (fun r => I ds (acc ++ r.1.toList) r.2)) (hK : ∀ acc os, I [] acc os → K (acc, os)) :
    ∀ (ds : List PyData) (acc : List OD) (os : En), I ds acc os → acc.length + ds.length ≤ sizeLine → Sat (lcF own tv c ev ds os acc) K
  | [], acc, os, i, _ => ⟨(acc, os), rfl, hK acc os i⟩
  | d :: ds, acc, os, i, hn => by
    obtain ⟨r, h1, h2⟩ := h d ds acc os i
    rw [b_lcCons]
    simp only [List.length_cons] at hn
    unfold lcStep at h1
    cases e1 : tv d os with
    | none => rw [e1] at h1; cases h1
    | some os1 =>
      rw [e1] at h1
      simp only [Option.bind_some] at h1 ⊢
      cases e2 : c os1 with
      | none => rw [e2] at h1; cases h1
      | some q =>
        obtain ⟨b, os2⟩ := q
        rw [e2] at h1
        simp only [Option.bind_some] at h1 ⊢
        cases b with
        | false =>
          simp only [cond_false] at h1 ⊢
          cases h1
          exact sat_lc I h hK ds acc _ (by simpa using h2) (by omega)
        | true =>
          simp only [cond_true] at h1 ⊢
          cases e3 : ev os2 with
          | none => rw [e3] at h1; cases h1
          | some p =>
            rw [e3] at h1
            simp only [Option.bind_some] at h1 ⊢
            cases e4 : cv (hard p.2 p.1) p.1 with
            | none => rw [e4] at h1; cases h1
            | some o =>
              rw [e4] at h1
              simp only [Option.bind_some] at h1 ⊢
              cases h1
              have hb : Nat.blt acc.length sizeLine = true := Nat.ble_eq_true_of_le (by omega)
              rw [hb, cond_true]
              exact sat_lc I h hK ds (acc ++ [o]) _ (by simpa using h2) (by simp; omega)
theorem Sat.lc {own : List Nat} {tv : EvG} {c : EvT} {ev : EvE} {K : List OD × En → Prop} {ds : List PyData} {os : En} (I : List PyData → List OD → En → Prop) (h0 : I ds [] os) (hn : ds.length ≤ sizeLine) (h : ∀ d ds acc os, I (d :: ds) acc os → Sat (lcStep own tv c ev d os) (fun r => I ds (acc ++ r.1.toList) r.2)) (hK : ∀ acc os, I [] acc os → K (acc, os)) :
    Sat (lcF own tv c ev ds os []) K := sat_lc I h hK ds [] os h0 (by simpa using hn)
/-- each item by itself -/
theorem Sat.lcM {α : Type} {own : List Nat} {tv : EvG} {c : EvT} {ev : EvE} {K : List OD × En → Prop} {os : En} {g : α → PyData} {xs : List α} (f : α → OD) (hn : xs.length ≤ sizeLine) (h : ∀ x ∈ xs, Sat (lcStep own tv c ev (g x) os) (fun r => r = (some (f x), os))) (hK : K (xs.map f, os)) :
    Sat (lcF own tv c ev (xs.map g) os []) K := by
  refine ⟨_, lc_mapS g f xs (fun x m => ?_) hn, hK⟩
  obtain ⟨r, e, rfl⟩ := h x m
  exact e
theorem Sat.lcF {α : Type} {own : List Nat} {tv : EvG} {c : EvT} {ev : EvE} {K : List OD × En → Prop} {os : En} {g : α → PyData} {xs : List α} (f : α → Option OD) (hn : xs.length ≤ sizeLine) (h : ∀ x ∈ xs, Sat (lcStep own tv c ev (g x) os) (fun r => r = (f x, os))) (hK : K (xs.filterMap f, os)) :
    Sat (DX.lcF own tv c ev (xs.map g) os []) K := by
  refine ⟨_, (lc_map g f xs [] (fun x m => ?_) (by simpa using hn)).trans (by rw [List.nil_append]), hK⟩
  obtain ⟨r, e, rfl⟩ := h x m
  exact e
theorem k_condSelf {α : Type} {c : Bool} {a : α} : cond c a a = a := by cases c <;> rfl
theorem k_condAndL {c b : Bool} : cond c b c = (c && b) := by cases c <;> rfl
theorem k_condOrL {c b : Bool} : cond c c b = (c || b) := by cases c <;> rfl
theorem str_len (x y : Str) : (x ++ y).length = x.length + y.length := by
  rw [S_of x, S_of y, S_app]
  simp only [S_len, List.length_append]
theorem str_empty {x : Str} : Str.empty ++ x = x := by
  rw [S_of x, show Str.empty = S [] from rfl, S_app]; rfl
theorem b_jNil {acc : Str} {os : En} : jNil acc os = some (acc, os) := rfl
theorem b_jCons {acc : Str} {os : En} {ea : EvE} {er : Str → En → Option (Str × En)} : jCons ea er acc os = (ea os).bind fun p => (p.1.rd p.2).bind fun d => (txt? d).bind fun y => cond (Nat.ble (acc ++ y).length strMax) (er (acc ++ y) p.2) none := by
  unfold jCons
  cases ea os with
  | none => rfl
  | some p =>
    simp only [Option.bind_some]
    cases p.1.rd p.2 with
    | none => rfl
    | some d =>
      simp only [Option.bind_some]
      cases txt? d with
      | none => rfl
      | some y =>
        simp only [Option.bind_some]
        by_cases h : (acc ++ y).length ≤ strMax
        · rw [if_pos h, Nat.ble_eq_true_of_le h]; rfl
        · rw [if_neg h, Bool.eq_false_iff.mpr fun z => h (Nat.le_of_ble_eq_true z)]; rfl
theorem b_eJoin {ev : Str → En → Option (Str × En)} {os : En} : eJoin ev os = (ev Str.empty os).bind fun p => cond (Nat.ble p.1.length strMax) (some (.tm (.sh (.str p.1)), p.2)) none := by
  unfold eJoin
  cases ev Str.empty os with
  | none => rfl
  | some p =>
    simp only [Option.bind_some]
    by_cases h : p.1.length ≤ strMax
    · rw [if_pos h, Nat.ble_eq_true_of_le h]; rfl
    · rw [if_neg h, Bool.eq_false_iff.mpr fun z => h (Nat.le_of_ble_eq_true z)]; rfl
theorem t_str {x : Str} : txt? (.str x) = some x := rfl
theorem x_no {os : En} : xNo os = none := rfl
theorem x_raise {c : Nat} {os : En} : xRaise c os = some (c, os) := rfl
theorem x_seqNo {ea : EvS} {xa : EvX} : xSeq ea xa xNo = xa := by
  funext os
  unfold xSeq
  cases xa os with
  | some p => rfl
  | none =>
    rw [Option.none_or]
    cases ea os with
    | none => rfl
    | some r => cases r <;> rfl
theorem b_xIf {t : EvT} {xa xb : EvX} {os : En} : xIf t xa xb os = (t os).bind fun p => cond p.1 (xa p.2) (xb p.2) := by
  unfold xIf
  cases t os with
  | none => rfl
  | some p => obtain ⟨c, q⟩ := p; cases c <;> rfl
def inr? (o : Option (OD ⊕ Nat)) : Option Nat := match o with
  | some (.inr x) => some x
  | _ => none
theorem x_inr {x : Nat} : inr? (some (.inr x)) = some x := rfl
theorem x_inl {o : OD} : inr? (some (.inl o)) = none := rfl
theorem b_xFn {m : List OD → Option (OD ⊕ Nat)} {n : Nat} {idx : List Nat} {es : EvEs} {os : En} : xFn m n idx es os = (es os).bind fun p => (rdAll p.2 p.1).bind fun ds => cond (Nat.beq p.1.length n && Nat.beq (pk idx ds).length n) ((inr? (m ((pk idx ds).map OD.sh))).bind fun x => some (x, hardAll p.2 p.1)) none := by
  unfold xFn
  cases es os with
  | none => rfl
  | some p =>
    simp only [Option.bind_some]
    cases rdAll p.2 p.1 with
    | none => rfl
    | some ds =>
      simp only [Option.bind_some]
      by_cases h : p.1.length = n ∧ (pk idx ds).length = n
      · rw [if_pos h, h.1, h.2, show Nat.beq n n = true from Nat.beq_refl n]
        cases m ((pk idx ds).map OD.sh) with
        | none => rfl
        | some r => cases r <;> rfl
      · rw [if_neg h]
        have : (Nat.beq p.1.length n && Nat.beq (pk idx ds).length n) = false := by
          rw [Bool.eq_false_iff]
          intro z
          obtain ⟨z1, z2⟩ := Bool.and_eq_true_iff.mp z
          exact h ⟨Nat.eq_of_beq_eq_true z1, Nat.eq_of_beq_eq_true z2⟩
        rw [this]; rfl
theorem eq_of_sat {α : Type} {x : Option α} {v : α} (h : Sat x (fun r => r = v)) : x = some v := by
  obtain ⟨a, e, rfl⟩ := h
  exact e
theorem inL_eq {m : List OD → Option (OD ⊕ Nat)} {os : List OD} {o : OD} (h : m os = some (.inl o)) : inL m os = some o := by
  unfold inL
  rw [h]
-- what a def hands back
theorem r_P1 {o p : OD} {os : En} : retP (.rt o (some p :: os)) = some (o, p) := rfl
theorem r_P2 {p : OD} {os : En} : retP (.nx (some p :: os)) = some (.sh .none, p) := rfl
def mxOf (ev : EvS) (xv : EvX) (os : En) : Option (OD ⊕ Nat) := match xv os with
  | some (x, _) => some (.inr x)
  | none => ((ev os).bind retOf).map .inl
theorem hmx_of {ev : Nat → EvS} {xv : Nat → EvX} {os : En} {r : OD ⊕ Nat} (h : mxOf (ev fuel) (xv fuel) os = some r) : match r with
      | .inl o => ∃ n res, ev n os = some res ∧ retOf res = some o
      | .inr x => ∃ n os', xv n os = some (x, os') := by
  unfold mxOf at h
  split at h
  · rename_i x os' e
    cases h
    exact ⟨fuel, os', e⟩
  · cases e : (ev fuel os).bind retOf with
    | none => rw [e] at h; cases h
    | some o =>
      rw [e] at h
      cases h
      exact hm_of fuel e
theorem inL_mx {ev : EvS} {xv : EvX} {os : En} {o : OD} (h1 : xv os = none) (h2 : (ev os).bind retOf = some o) : mxOf ev xv os = some (.inl o) := by
  unfold mxOf
  rw [h1]
  show ((ev os).bind retOf).map Sum.inl = _
  rw [h2]; rfl
theorem inR_mx {ev : EvS} {xv : EvX} {os os' : En} {x : Nat} (h1 : xv os = some (x, os')) : mxOf ev xv os = some (.inr x) := by
  unfold mxOf
  rw [h1]
/-! ### isinstance, by kinds -/
section
variable {a : Int} {x y : Str} {c : Bool} {ds es : List PyData} {d : PyData}
theorem i_boolN : opIsi "bool" [.none] = some (.val (.bool false)) := o_isiD (by simp) fun _ h => nomatch h
theorem i_boolB : opIsi "bool" [.bool c] = some (.val (.bool true)) := o_isiD (by simp) fun _ h => nomatch h
theorem i_boolI : opIsi "bool" [.int a] = some (.val (.bool false)) := o_isiD (by simp) fun _ h => nomatch h
theorem i_boolS : opIsi "bool" [.str x] = some (.val (.bool false)) := o_isiD (by simp) fun _ h => nomatch h
theorem i_boolL : opIsi "bool" [.list ds] = some (.val (.bool false)) := o_isiD (by simp) fun _ h => nomatch h
theorem i_boolT : opIsi "bool" [.tuple ds] = some (.val (.bool false)) := o_isiD (by simp) fun _ h => nomatch h
theorem i_intN : opIsi "int" [.none] = some (.val (.bool false)) := o_isiD (by simp) fun _ h => nomatch h
theorem i_intB : opIsi "int" [.bool c] = some (.val (.bool true)) := o_isiD (by simp) fun _ h => nomatch h
theorem i_intI : opIsi "int" [.int a] = some (.val (.bool true)) := o_isiD (by simp) fun _ h => nomatch h
theorem i_intS : opIsi "int" [.str x] = some (.val (.bool false)) := o_isiD (by simp) fun _ h => nomatch h
theorem i_intL : opIsi "int" [.list ds] = some (.val (.bool false)) := o_isiD (by simp) fun _ h => nomatch h
theorem i_intT : opIsi "int" [.tuple ds] = some (.val (.bool false)) := o_isiD (by simp) fun _ h => nomatch h
theorem i_strN : opIsi "str" [.none] = some (.val (.bool false)) := o_isiD (by simp) fun _ h => nomatch h
theorem i_strB : opIsi "str" [.bool c] = some (.val (.bool false)) := o_isiD (by simp) fun _ h => nomatch h
theorem i_strI : opIsi "str" [.int a] = some (.val (.bool false)) := o_isiD (by simp) fun _ h => nomatch h
theorem i_strS : opIsi "str" [.str x] = some (.val (.bool true)) := o_isiD (by simp) fun _ h => nomatch h
theorem i_strL : opIsi "str" [.list ds] = some (.val (.bool false)) := o_isiD (by simp) fun _ h => nomatch h
theorem i_strT : opIsi "str" [.tuple ds] = some (.val (.bool false)) := o_isiD (by simp) fun _ h => nomatch h
theorem i_listN : opIsi "list" [.none] = some (.val (.bool false)) := o_isiD (by simp) fun _ h => nomatch h
theorem i_listB : opIsi "list" [.bool c] = some (.val (.bool false)) := o_isiD (by simp) fun _ h => nomatch h
theorem i_listI : opIsi "list" [.int a] = some (.val (.bool false)) := o_isiD (by simp) fun _ h => nomatch h
theorem i_listS : opIsi "list" [.str x] = some (.val (.bool false)) := o_isiD (by simp) fun _ h => nomatch h
theorem i_listL : opIsi "list" [.list ds] = some (.val (.bool true)) := o_isiD (by simp) fun _ h => nomatch h
theorem i_listT : opIsi "list" [.tuple ds] = some (.val (.bool false)) := o_isiD (by simp) fun _ h => nomatch h
theorem i_tupleN : opIsi "tuple" [.none] = some (.val (.bool false)) := o_isiD (by simp) fun _ h => nomatch h
theorem i_tupleB : opIsi "tuple" [.bool c] = some (.val (.bool false)) := o_isiD (by simp) fun _ h => nomatch h
theorem i_tupleI : opIsi "tuple" [.int a] = some (.val (.bool false)) := o_isiD (by simp) fun _ h => nomatch h
theorem i_tupleS : opIsi "tuple" [.str x] = some (.val (.bool false)) := o_isiD (by simp) fun _ h => nomatch h
theorem i_tupleL : opIsi "tuple" [.list ds] = some (.val (.bool false)) := o_isiD (by simp) fun _ h => nomatch h
theorem i_tupleT : opIsi "tuple" [.tuple ds] = some (.val (.bool true)) := o_isiD (by simp) fun _ h => nomatch h
theorem o_neSelf : opNe [.str x, .str x] = some (.val (.bool false)) := by rw [S_of x, o_neS, decide_eq_true rfl]; rfl
theorem o_eqSelf : opEq [.str x, .str x] = some (.val (.bool true)) := by rw [S_of x, o_eqS, decide_eq_true rfl]
end
/-! ### repr of data with greater ints -/
mutual
def lgB : PyData → Bool
  | .none | .bool _ => true
  | .int i => Nat.blt i.natAbs (2 ^ 400)
  | .str x => PyData.strOk x
  | .list xs | .tuple xs => lgAll xs
  | .dict _ => false
def lgAll : List PyData → Bool
  | [] => true
  | x :: xs => lgB x && lgAll xs
end
theorem lgAll_all : ∀ ds : List PyData, lgAll ds = ds.all lgB
  | [] => by rw [lgAll]; rfl
  | d :: ds => by rw [List.all_cons, ← lgAll_all ds, lgAll]
theorem lg_pow : (2 : Nat) ^ 400 < 10 ^ 121 := by decide +kernel
theorem lg_int {i : Int} (h : i.natAbs < 2 ^ 400) : (PyData.shown (.int i)).length ≤ 122 := by
  have e := int_text_length_le10 (k := 121) (by decide) (Nat.lt_trans h lg_pow)
  show (Str.ofString (toString i)).length ≤ 122
  rw [PySem.ofString_length]; exact e
mutual
theorem lg_lay : ∀ d : PyData, lgB d = true → d.canLay0 = true ∧ d.showable = true ∧ d.intsShort 122 = true
  | .none, _ => ⟨rfl, rfl, rfl⟩
  | .bool _, _ => ⟨rfl, rfl, rfl⟩
  | .int i, h => by
    rw [lgB] at h
    have h : i.natAbs < 2 ^ 400 := Nat.le_of_ble_eq_true h
    refine ⟨rfl, ?_, ?_⟩
    · rw [PyData.showable]
      have := PySem.Flt.log2_lt_of (by decide) h
      exact decide_eq_true (by omega)
    · rw [PyData.intsShort]
      exact decide_eq_true (lg_int h)
  | .str x, h => by rw [lgB] at h; exact ⟨by rw [PyData.canLay0]; exact h, rfl, rfl⟩
  | .list xs, h => by rw [lgB] at h; rw [PyData.canLay0, PyData.showable, PyData.intsShort]; exact lg_layAll xs h
  | .tuple xs, h => by rw [lgB] at h; rw [PyData.canLay0, PyData.showable, PyData.intsShort]; exact lg_layAll xs h
  | .dict _, h => by rw [lgB] at h; cases h
theorem lg_layAll : ∀ ds : List PyData, lgAll ds = true → PyData.canLayAll0 ds = true ∧ PyData.showableAll ds = true ∧ PyData.intsShortAll 122 ds = true
  | [], _ => by rw [PyData.canLayAll0, PyData.showableAll, PyData.intsShortAll]; exact ⟨rfl, rfl, rfl⟩
  | d :: ds, h => by
    rw [lgAll, Bool.and_eq_true] at h
    obtain ⟨a1, a2, a3⟩ := lg_lay d h.1
    obtain ⟨b1, b2, b3⟩ := lg_layAll ds h.2
    rw [PyData.canLayAll0, PyData.showableAll, PyData.intsShortAll, a1, a2, a3, b1, b2, b3]
    exact ⟨rfl, rfl, rfl⟩
end
theorem o_reprL {d : PyData} (h : lgB d = true) (hd : d.depth ≤ 64) (hw : d.weight ≤ 100000) : opRepr [d] = some (.val (.str d.shown)) := by
  obtain ⟨h1, h2, h3⟩ := lg_lay d h
  refine o_repr ?_
  rw [h2, PyData.hasDict_of_canLay d h1, decide_eq_true hd]
  refine decide_eq_true ?_
  have := PyData.shown_le 122 (by decide) d (PyData.leavesShort_of_canLay0 122 d h1 h3)
  have e : (122 + 2) * d.weight ≤ 124 * 100000 := Nat.mul_le_mul_left _ hw
  refine Nat.le_trans this (Nat.le_trans (Nat.add_le_add_right e _) (by decide))
theorem strI_len {i : Int} (h : i.natAbs < 2 ^ 400) : (strI i).length ≤ 122 := lg_int h
theorem t_int {i : Int} (h : i.natAbs < 2 ^ 400) : txt? (.int i) = some (strI i) := by
  have h1 := PySem.Flt.log2_lt_of (by decide) h
  show (if Nat.blt i.natAbs.log2 1920 = true ∧ (strI i).length ≤ strMax then _ else _) = _
  rw [if_pos ⟨Nat.ble_eq_true_of_le (by omega), Nat.le_trans (strI_len h) (by decide)⟩]
theorem o_str {i : Int} (h : i.natAbs < 2 ^ 400) : opStr [.int i] = some (.val (.str (strI i))) := by
  have h1 := PySem.Flt.log2_lt_of (by decide) h
  show (if Nat.blt i.natAbs.log2 1920 = true ∧ (strI i).length ≤ strMax then _ else _) = _
  rw [if_pos ⟨Nat.ble_eq_true_of_le (by omega), Nat.le_trans (strI_len h) (by decide)⟩]
end DX
/-! the worths of the defs (printed by gen.py). -/
namespace K10
open PySem PySem.Spec PyProof.Rows L2 DX
noncomputable section
def errSub : Nat → Nat → Bool
  | 0, 0 => true
  | 1, 1 => true
  | 2, 0 => true
  | 2, 2 => true
  | 3, 1 => true
  | 3, 3 => true
  | _, _ => false
def errSubB (e : Nat) (s : String) : Bool := (e == 0 && s == "ValueError") || (e == 1 && s == "LookupError") || (e == 2 && s == "ValueError") || (e == 3 && s == "LookupError")
def ev_is_integer (n : Nat) : EvS :=
  (sRet (eAnd (eOp (opIsi "int") (es1 (eVar 0))) (eNot (eOp (opIsi "bool") (es1 (eVar 0))))))
def mr_is_integer (os : List OD) : Option OD := (ev_is_integer fuel (startE ["value"] os)).bind retOf
def ev_fraction (n : Nat) : EvS :=
  (sSeq (sIf (tBl (eOp opEq (es2 (eVar 1) (eC (.int 0))))) (fun _ => none) sNext) (sSeq (sAsg [] 2 (eOp opGcd (esCons (eVar 0) (esCons (eVar 1) esNil)))) (sSeq (sIf (tBl (eOp opLt (es2 (eVar 1) (eC (.int 0))))) (sAsg [] 2 (eOp opNeg (es1 (eVar 2)))) sNext) (sRet (eTup (esCons (eOp opDiv (es2 (eVar 0) (eVar 2))) (esCons (eOp opDiv (es2 (eVar 1) (eVar 2))) esNil)))))))
def xv_fraction (n : Nat) : EvX :=
  (xSeq (sIf (tBl (eOp opEq (es2 (eVar 1) (eC (.int 0))))) (fun _ => none) sNext) (xIf (tBl (eOp opEq (es2 (eVar 1) (eC (.int 0))))) (xRaise 2) xNo) xNo)
def mx_fraction (os : List OD) : Option (OD ⊕ Nat) := mxOf (ev_fraction fuel) (xv_fraction fuel) (startE ["above", "below", "divisor"] os)
def mr_fraction : List OD → Option OD := inL mx_fraction
def ev_whole (n : Nat) : EvS :=
  (sRet (eTup (esCons (eVar 0) (esCons (eC (.int 1)) esNil))))
def mr_whole (os : List OD) : Option OD := (ev_whole fuel (startE ["number"] os)).bind retOf
def ev_opposite (n : Nat) : EvS :=
  (sRet (eTup (esCons (eOp opNeg (es1 (eOp opIx (es2 (eVar 0) (eC (.int 0)))))) (esCons (eOp opIx (es2 (eVar 0) (eC (.int 1)))) esNil))))
def mr_opposite (os : List OD) : Option OD := (ev_opposite fuel (startE ["a"] os)).bind retOf
def ev_sign_of (n : Nat) : EvS :=
  (sSeq (sIf (tBl (eOp opEq (es2 (eOp opIx (es2 (eVar 0) (eC (.int 0)))) (eC (.int 0))))) (sRet (eC (.int 0))) sNext) (sRet (eIf (tBl (eOp opGt (es2 (eOp opIx (es2 (eVar 0) (eC (.int 0)))) (eC (.int 0))))) (eC (.int 1)) (eOp opNeg (es1 (eC (.int 1)))))))
def mr_sign_of (os : List OD) : Option OD := (ev_sign_of fuel (startE ["a"] os)).bind retOf
def ev_compare (n : Nat) : EvS :=
  (sSeq (sPar [] 2 3 (esCons (eOp opMul (es2 (eOp opIx (es2 (eVar 0) (eC (.int 0)))) (eOp opIx (es2 (eVar 1) (eC (.int 1)))))) (esCons (eOp opMul (es2 (eOp opIx (es2 (eVar 1) (eC (.int 0)))) (eOp opIx (es2 (eVar 0) (eC (.int 1)))))) esNil))) (sSeq (sIf (tBl (eOp opEq (es2 (eVar 2) (eVar 3)))) (sRet (eC (.int 0))) sNext) (sRet (eIf (tBl (eOp opGt (es2 (eVar 2) (eVar 3)))) (eC (.int 1)) (eOp opNeg (es1 (eC (.int 1))))))))
def mr_compare (os : List OD) : Option OD := (ev_compare fuel (startE ["a", "b", "left", "right"] os)).bind retOf
def ev_floor_of (n : Nat) : EvS :=
  (sRet (eOp opDiv (es2 (eOp opIx (es2 (eVar 0) (eC (.int 0)))) (eOp opIx (es2 (eVar 0) (eC (.int 1)))))))
def mr_floor_of (os : List OD) : Option OD := (ev_floor_of fuel (startE ["a"] os)).bind retOf
def ev_ceiling_of (n : Nat) : EvS :=
  (sRet (eOp opNeg (es1 (eOp opDiv (es2 (eOp opNeg (es1 (eOp opIx (es2 (eVar 0) (eC (.int 0)))))) (eOp opIx (es2 (eVar 0) (eC (.int 1)))))))))
def mr_ceiling_of (os : List OD) : Option OD := (ev_ceiling_of fuel (startE ["a"] os)).bind retOf
def ev_over_one_below (n : Nat) : EvS :=
  (sSeq (sAsg [] 1 (eC (.int 1))) (sSeq (sFor (iSq (eVar 0)) (gvName [] 2) (sAsg [] 1 (eOp opMul (es2 (eOp opDiv (es2 (eVar 1) (eOp opGcd (esCons (eVar 1) (esCons (eOp opIx (es2 (eVar 2) (eC (.int 1)))) esNil))))) (eOp opIx (es2 (eVar 2) (eC (.int 1)))))))) (sRet (eTupO (esCons (eLc [2] (iSq (eVar 0)) (gvName [] 2) cYes (eOp opMul (es2 (eOp opIx (es2 (eVar 2) (eC (.int 0)))) (eOp opDiv (es2 (eVar 1) (eOp opIx (es2 (eVar 2) (eC (.int 1))))))))) (esCons (eVar 1) esNil))))))
def mr_over_one_below (os : List OD) : Option OD := (ev_over_one_below fuel (startE ["fractions", "below", "one"] os)).bind retOf
def ev_worth_text (n : Nat) : EvS :=
  (sSeq (sIf (tBl (eOp opEq (es2 (eOp opIx (es2 (eVar 0) (eC (.int 1)))) (eC (.int 1))))) (sRet (eOp opStr (esCons (eOp opIx (es2 (eVar 0) (eC (.int 0)))) esNil))) sNext) (sRet (eJoin (jCons (eOp opIx (es2 (eVar 0) (eC (.int 0)))) (jCons (eC (.str "/")) (jCons (eOp opIx (es2 (eVar 0) (eC (.int 1)))) jNil))))))
def mr_worth_text (os : List OD) : Option OD := (ev_worth_text fuel (startE ["a"] os)).bind retOf
def ev__law_pot (n : Nat) : EvS :=
  (sSeq (sAsg [] 2 (eOp opAdd (es2 (eOp opMul (es2 (eC (.int 613)) (eVar 1))) (eC (.int 71))))) (sSeq (sIf (tBl (eOp opLt (es2 (eVar 1) (eOp opLen (esCons (eVar 0) esNil))))) (sAsg [] 2 (eOp opAbs (esCons (eOp opIx (es2 (eVar 0) (eVar 1))) esNil))) sNext) (sSeq (sAsg [] 3 (eOp opMod (es2 (eOp opInt (esCons (eOp opAdd (es2 (eOp opAdd (es2 (eOp opMul (es2 (eOp opMod (es2 (eOp opInt (esCons (eVar 2) esNil)) (eC (.int 2147483543)))) (eC (.int 39161)))) (eOp opMul (es2 (eC (.int 9209)) (eVar 1))))) (eC (.int 71)))) esNil)) (eC (.int 2147483563))))) (sRet (eLst (esCons (eOp opMax2 (esCons (eC (.int 0)) (esCons (eOp opSub (es2 (eVar 2) (eOp opPow (es2 (eC (.int 10)) (eC (.int 18)))))) esNil))) (esCons (eOp opAdd (es2 (eVar 3) (eC (.int 1)))) esNil)))))))
def mr__law_pot (os : List OD) : Option OD := (ev__law_pot fuel (startE ["_law_script", "_law_k", "_law_cell", "_law_mixed"] os)).bind retOf
def ev__law_draw (n : Nat) : EvS :=
  (sSeq (sIf (tBl (eOp opGt (es2 (eOp opIx (es2 (eVar 0) (eC (.int 0)))) (eC (.int 0))))) (sSeq (sAsgG (gvTup 2 (gvCons (gvSub 0 (eC (.int 0))) (gvCons (gvName [0] 2) gvNil))) (eOp opDivmod (esCons (eOp opIx (es2 (eVar 0) (eC (.int 0)))) (esCons (eVar 1) esNil)))) (sRet (eVar 2))) sNext) (sSeq (sAsgG (gvSub 0 (eC (.int 1))) (eOp opMod (es2 (eOp opInt (esCons (eOp opAdd (es2 (eOp opMul (es2 (eOp opIx (es2 (eVar 0) (eC (.int 1)))) (eC (.int 40351)))) (eC (.int 6163)))) esNil)) (eC (.int 2147483563))))) (sRet (eOp opMod (es2 (eOp opInt (esCons (eOp opDiv (es2 (eOp opMod (es2 (eOp opInt (esCons (eOp opMul (es2 (eOp opIx (es2 (eVar 0) (eC (.int 1)))) (eOp opIx (es2 (eVar 0) (eC (.int 1)))))) esNil)) (eC (.int 2147483543)))) (eC (.int 19)))) esNil)) (eVar 1))))))
def mr__law_draw (o : OD) (os : List OD) : Option (OD × OD) := (ev__law_draw fuel (startE ["_law_pot_here", "_law_size", "_law_digit"] (o :: os))).bind retP
def ev__law_gcd (n : Nat) : EvS :=
  (sSeq (sPar [] 0 1 (esCons (eOp opAbs (esCons (eVar 0) esNil)) (esCons (eOp opAbs (esCons (eVar 1) esNil)) esNil))) (sSeq (whF (tBl (eOp opGt (es2 (eVar 1) (eC (.int 0))))) (sPar [] 0 1 (esCons (eVar 1) (esCons (eOp opMod (es2 (eOp opInt (esCons (eVar 0) esNil)) (eVar 1))) esNil))) n) (sRet (eVar 0))))
def mr__law_gcd (os : List OD) : Option OD := (ev__law_gcd fuel (startE ["_law_a", "_law_b"] os)).bind retOf
def ev__law_sign (n : Nat) : EvS :=
  (sRet (eIf (tBl (eOp opEq (es2 (eVar 0) (eC (.int 0))))) (eC (.int 0)) (eIf (tBl (eOp opGt (es2 (eVar 0) (eC (.int 0))))) (eC (.int 1)) (eOp opNeg (es1 (eC (.int 1)))))))
def mr__law_sign (os : List OD) : Option OD := (ev__law_sign fuel (startE ["_law_number"] os)).bind retOf
def ev__law_is_whole (n : Nat) : EvS :=
  (sRet (eAnd (eOp (opIsi "int") (es1 (eVar 0))) (eNot (eOp (opIsi "bool") (es1 (eVar 0))))))
def mr__law_is_whole (os : List OD) : Option OD := (ev__law_is_whole fuel (startE ["_law_value"] os)).bind retOf
def ev__law_text (n : Nat) : EvS :=
  (sRet (eIf (tBl (eOp opEq (es2 (eOp opIx (es2 (eVar 0) (eC (.int 1)))) (eC (.int 1))))) (eOp opStr (esCons (eOp opIx (es2 (eVar 0) (eC (.int 0)))) esNil)) (eOp opAdd (es2 (eOp opAdd (es2 (eOp opStr (esCons (eOp opIx (es2 (eVar 0) (eC (.int 0)))) esNil)) (eC (.str "/")))) (eOp opStr (esCons (eOp opIx (es2 (eVar 0) (eC (.int 1)))) esNil))))))
def mr__law_text (os : List OD) : Option OD := (ev__law_text fuel (startE ["_law_a"] os)).bind retOf
def ev_is_count (n : Nat) : EvS :=
  (sRet (eAnd (eFn0 mr_is_integer 1 [0] (esCons (eVar 0) esNil)) (eOp opGe (es2 (eVar 0) (eC (.int 0))))))
def mr_is_count (os : List OD) : Option OD := (ev_is_count fuel (startE ["value"] os)).bind retOf
def ev_is_fraction (n : Nat) : EvS :=
  (sSeq (sIf (tOrD (tNotD (tTru (eOp (opIsi "tuple") (es1 (eVar 0))))) (tBl (eOp opNe (es2 (eOp opLen (esCons (eVar 0) esNil)) (eC (.int 2)))))) (sRet (eC (.bool false))) sNext) (sSeq (sIf (tOrD (tNotD (tTru (eFn0 mr_is_integer 1 [0] (esCons (eOp opIx (es2 (eVar 0) (eC (.int 0)))) esNil)))) (tOrD (tNotD (tTru (eFn0 mr_is_integer 1 [0] (esCons (eOp opIx (es2 (eVar 0) (eC (.int 1)))) esNil)))) (tBl (eOp opLt (es2 (eOp opIx (es2 (eVar 0) (eC (.int 1)))) (eC (.int 1))))))) (sRet (eC (.bool false))) sNext) (sRet (eOp opEq (es2 (eOp opGcd (esCons (eOp opIx (es2 (eVar 0) (eC (.int 0)))) (esCons (eOp opIx (es2 (eVar 0) (eC (.int 1)))) esNil))) (eC (.int 1)))))))
def mr_is_fraction (os : List OD) : Option OD := (ev_is_fraction fuel (startE ["value"] os)).bind retOf
def ev_plus (n : Nat) : EvS :=
  (sSeq (sIf (tAndD (tBl (eOp opEq (es2 (eOp opIx (es2 (eVar 0) (eC (.int 1)))) (eC (.int 1))))) (tBl (eOp opEq (es2 (eOp opIx (es2 (eVar 1) (eC (.int 1)))) (eC (.int 1)))))) (sRet (eTup (esCons (eOp opAdd (es2 (eOp opIx (es2 (eVar 0) (eC (.int 0)))) (eOp opIx (es2 (eVar 1) (eC (.int 0)))))) (esCons (eC (.int 1)) esNil)))) sNext) (sRet (eFn0 mr_fraction 2 [0, 1] (esCons (eOp opAdd (es2 (eOp opMul (es2 (eOp opIx (es2 (eVar 0) (eC (.int 0)))) (eOp opIx (es2 (eVar 1) (eC (.int 1)))))) (eOp opMul (es2 (eOp opIx (es2 (eVar 1) (eC (.int 0)))) (eOp opIx (es2 (eVar 0) (eC (.int 1)))))))) (esCons (eOp opMul (es2 (eOp opIx (es2 (eVar 0) (eC (.int 1)))) (eOp opIx (es2 (eVar 1) (eC (.int 1)))))) esNil)))))
def mr_plus (os : List OD) : Option OD := (ev_plus fuel (startE ["a", "b"] os)).bind retOf
def ev_times (n : Nat) : EvS :=
  (sRet (eFn0 mr_fraction 2 [0, 1] (esCons (eOp opMul (es2 (eOp opIx (es2 (eVar 0) (eC (.int 0)))) (eOp opIx (es2 (eVar 1) (eC (.int 0)))))) (esCons (eOp opMul (es2 (eOp opIx (es2 (eVar 0) (eC (.int 1)))) (eOp opIx (es2 (eVar 1) (eC (.int 1)))))) esNil))))
def mr_times (os : List OD) : Option OD := (ev_times fuel (startE ["a", "b"] os)).bind retOf
def ev_over (n : Nat) : EvS :=
  (sRet (eFn0 mr_fraction 2 [0, 1] (esCons (eOp opMul (es2 (eOp opIx (es2 (eVar 0) (eC (.int 0)))) (eOp opIx (es2 (eVar 1) (eC (.int 1)))))) (esCons (eOp opMul (es2 (eOp opIx (es2 (eVar 0) (eC (.int 1)))) (eOp opIx (es2 (eVar 1) (eC (.int 0)))))) esNil))))
def xv_over (n : Nat) : EvX :=
  (xFn mx_fraction 2 [0, 1] (esCons (eOp opMul (es2 (eOp opIx (es2 (eVar 0) (eC (.int 0)))) (eOp opIx (es2 (eVar 1) (eC (.int 1)))))) (esCons (eOp opMul (es2 (eOp opIx (es2 (eVar 0) (eC (.int 1)))) (eOp opIx (es2 (eVar 1) (eC (.int 0)))))) esNil)))
def mx_over (os : List OD) : Option (OD ⊕ Nat) := mxOf (ev_over fuel) (xv_over fuel) (startE ["a", "b"] os)
def mr_over : List OD → Option OD := inL mx_over
def ev_least (n : Nat) : EvS :=
  (sSeq (sIf (tBl (eOp opEq (es2 (eOp opLen (esCons (eVar 0) esNil)) (eC (.int 0))))) (fun _ => none) sNext) (sSeq (sAsg [] 1 (eOp opIx (es2 (eVar 0) (eC (.int 0))))) (sSeq (sFor (iSq (eVar 0)) (gvName [] 2) (sIf (tBl (eOp opLt (es2 (eFn0 mr_compare 2 [0, 1] (esCons (eVar 2) (esCons (eVar 1) esNil))) (eC (.int 0))))) (sAsg [] 1 (eVar 2)) sNext)) (sRet (eVar 1)))))
def xv_least (n : Nat) : EvX :=
  (xSeq (sIf (tBl (eOp opEq (es2 (eOp opLen (esCons (eVar 0) esNil)) (eC (.int 0))))) (fun _ => none) sNext) (xIf (tBl (eOp opEq (es2 (eOp opLen (esCons (eVar 0) esNil)) (eC (.int 0))))) (xRaise 3) xNo) xNo)
def mx_least (os : List OD) : Option (OD ⊕ Nat) := mxOf (ev_least fuel) (xv_least fuel) (startE ["fractions", "best", "one"] os)
def mr_least : List OD → Option OD := inL mx_least
def ev_greatest (n : Nat) : EvS :=
  (sSeq (sIf (tBl (eOp opEq (es2 (eOp opLen (esCons (eVar 0) esNil)) (eC (.int 0))))) (fun _ => none) sNext) (sSeq (sAsg [] 1 (eOp opIx (es2 (eVar 0) (eC (.int 0))))) (sSeq (sFor (iSq (eVar 0)) (gvName [] 2) (sIf (tBl (eOp opGt (es2 (eFn0 mr_compare 2 [0, 1] (esCons (eVar 2) (esCons (eVar 1) esNil))) (eC (.int 0))))) (sAsg [] 1 (eVar 2)) sNext)) (sRet (eVar 1)))))
def xv_greatest (n : Nat) : EvX :=
  (xSeq (sIf (tBl (eOp opEq (es2 (eOp opLen (esCons (eVar 0) esNil)) (eC (.int 0))))) (fun _ => none) sNext) (xIf (tBl (eOp opEq (es2 (eOp opLen (esCons (eVar 0) esNil)) (eC (.int 0))))) (xRaise 3) xNo) xNo)
def mx_greatest (os : List OD) : Option (OD ⊕ Nat) := mxOf (ev_greatest fuel) (xv_greatest fuel) (startE ["fractions", "best", "one"] os)
def mr_greatest : List OD → Option OD := inL mx_greatest
def ev__law_pick (n : Nat) : EvS :=
  (sRet (eOp opIx (es2 (eVar 1) (eFnP mr__law_draw 2 [0] (esCons (eVar 0) (esCons (eOp opLen (esCons (eVar 1) esNil)) esNil))))))
def mr__law_pick (o : OD) (os : List OD) : Option (OD × OD) := (ev__law_pick fuel (startE ["_law_pot_here", "_law_some"] (o :: os))).bind retP
def ev__law_made (n : Nat) : EvS :=
  (sSeq (sAsg [] 2 (eFn0 mr__law_gcd 2 [0, 1] (esCons (eVar 0) (esCons (eVar 1) esNil)))) (sSeq (sIf (tBl (eOp opLt (es2 (eVar 1) (eC (.int 0))))) (sAsg [] 2 (eOp opNeg (es1 (eVar 2)))) sNext) (sRet (eTup (esCons (eOp opDiv (es2 (eVar 0) (eVar 2))) (esCons (eOp opDiv (es2 (eVar 1) (eVar 2))) esNil))))))
def mr__law_made (os : List OD) : Option OD := (ev__law_made fuel (startE ["_law_a", "_law_b", "_law_common"] os)).bind retOf
def ev__law_great (n : Nat) : EvS :=
  (sRet (eOp opAdd (es2 (eOp opMul (es2 (eFnP mr__law_draw 2 [0] (esCons (eVar 0) (esCons (eOp opPow (es2 (eC (.int 10)) (eC (.int 6)))) esNil))) (eOp opPow (es2 (eC (.int 10)) (eC (.int 6)))))) (eFnP mr__law_draw 2 [0] (esCons (eVar 0) (esCons (eOp opPow (es2 (eC (.int 10)) (eC (.int 6)))) esNil))))))
def mr__law_great (o : OD) (os : List OD) : Option (OD × OD) := (ev__law_great fuel (startE ["_law_pot_here"] (o :: os))).bind retP
def ev__law_signed (n : Nat) : EvS :=
  (sRet (eIf (tBl (eOp opEq (es2 (eFnP mr__law_draw 2 [0] (esCons (eVar 0) (esCons (eC (.int 2)) esNil))) (eC (.int 0))))) (eVar 1) (eOp opNeg (es1 (eVar 1)))))
def mr__law_signed (o : OD) (os : List OD) : Option (OD × OD) := (ev__law_signed fuel (startE ["_law_pot_here", "_law_number"] (o :: os))).bind retP
def ev__law_less (n : Nat) : EvS :=
  (sRet (eFn0 mr__law_sign 1 [0] (esCons (eOp opSub (es2 (eOp opMul (es2 (eOp opIx (es2 (eVar 0) (eC (.int 0)))) (eOp opIx (es2 (eVar 1) (eC (.int 1)))))) (eOp opMul (es2 (eOp opIx (es2 (eVar 1) (eC (.int 0)))) (eOp opIx (es2 (eVar 0) (eC (.int 1)))))))) esNil)))
def mr__law_less (os : List OD) : Option OD := (ev__law_less fuel (startE ["_law_a", "_law_b"] os)).bind retOf
def ev__law_fits (n : Nat) : EvS :=
  (sSeq (sIf (tOrD (tNotD (tTru (eOp (opIsi "tuple") (es1 (eVar 0))))) (tBl (eOp opNe (es2 (eOp opLen (esCons (eVar 0) esNil)) (eC (.int 2)))))) (sRet (eC (.bool false))) sNext) (sSeq (sIf (tOrD (tNotD (tTru (eFn0 mr__law_is_whole 1 [0] (esCons (eOp opIx (es2 (eVar 0) (eC (.int 0)))) esNil)))) (tNotD (tTru (eFn0 mr__law_is_whole 1 [0] (esCons (eOp opIx (es2 (eVar 0) (eC (.int 1)))) esNil))))) (sRet (eC (.bool false))) sNext) (sRet (eAnd (eOp opGt (es2 (eOp opIx (es2 (eVar 0) (eC (.int 1)))) (eC (.int 0)))) (eOp opEq (es2 (eFn0 mr__law_gcd 2 [0, 1] (esCons (eOp opIx (es2 (eVar 0) (eC (.int 0)))) (esCons (eOp opIx (es2 (eVar 0) (eC (.int 1)))) esNil))) (eC (.int 1))))))))
def mr__law_fits (os : List OD) : Option OD := (ev__law_fits fuel (startE ["_law_value"] os)).bind retOf
def ev__law_values (n : Nat) : EvS :=
  (sSeq (sAsgG (gvTup 2 (gvCons (gvName [0] 4) (gvCons (gvName [0] 5) gvNil))) (eVar 1)) (sSeq (sAsg [0] 2 (eOp opAdd (es2 (eC (.int 2)) (eFnP mr__law_draw 2 [0] (esCons (eVar 0) (esCons (eC (.int 5)) esNil)))))) (sSeq (sAsg [0] 3 (eLst (esCons (eVar 1) (esCons (eLst (esCons (eVar 4) (esCons (eVar 5) esNil))) (esCons (eTup (esCons (eVar 4) (esCons (eVar 5) (esCons (eC (.int 1)) esNil)))) (esCons (eTup (esCons (eVar 4) esNil)) (esCons (eTup esNil) (esCons (eLst esNil) (esCons (eTup (esCons (eVar 4) (esCons (eOp opNeg (es1 (eVar 5))) esNil))) (esCons (eTup (esCons (eVar 4) (esCons (eC (.int 0)) esNil))) (esCons (eTup (esCons (eOp opNeg (es1 (eVar 4))) (esCons (eVar 5) esNil))) (esCons (eTup (esCons (eVar 5) (esCons (eVar 4) esNil))) esNil)))))))))))) (sSeq (sAsg [0] 3 (eOp opAdd (es2 (eVar 3) (eLst (esCons (eTup (esCons (eOp opMul (es2 (eVar 4) (eVar 2))) (esCons (eOp opMul (es2 (eVar 5) (eVar 2))) esNil))) (esCons (eTup (esCons (eC (.bool true)) (esCons (eVar 5) esNil))) (esCons (eTup (esCons (eVar 4) (esCons (eC (.bool true)) esNil))) (esCons (eTup (esCons (eC (.bool false)) (esCons (eC (.int 1)) esNil))) (esCons (eTup (esCons (eC (.int 0)) (esCons (eC (.bool false)) esNil))) esNil))))))))) (sSeq (sAsg [0] 3 (eOp opAdd (es2 (eVar 3) (eLst (esCons (eTup (esCons (eC (.int 0)) (esCons (eC (.int 1)) esNil))) (esCons (eTup (esCons (eC (.int 0)) (esCons (eC (.int 2)) esNil))) (esCons (eTup (esCons (eC (.int 0)) (esCons (eC (.int 0)) esNil))) (esCons (eTup (esCons (eC (.int 1)) (esCons (eC (.int 1)) esNil))) (esCons (eTup (esCons (eC (.int 1)) (esCons (eOp opNeg (es1 (eC (.int 1)))) esNil))) (esCons (eTup (esCons (eC (.int 2)) (esCons (eC (.int 1)) esNil))) (esCons (eTup (esCons (eC (.int 1)) (esCons (eVar 2) esNil))) (esCons (eTup (esCons (eC (.int 0)) (esCons (eOp opNeg (es1 (eC (.int 1)))) esNil))) esNil)))))))))))) (sSeq (sAsg [0] 3 (eOp opAdd (es2 (eVar 3) (eLst (esCons (eC .none) (esCons (eC (.str "ab")) (esCons (eC (.str "1/2")) (esCons (eOp opStr (esCons (eVar 4) esNil)) (esCons (eVar 4) (esCons (eVar 5) (esCons (eOp opSub (es2 (eOp opNeg (es1 (eC (.int 1)))) (eOp opAbs (esCons (eVar 4) esNil)))) (esCons (eC (.int 0)) (esCons (eC (.int 1)) (esCons (eC (.bool true)) (esCons (eC (.bool false)) (esCons (eOp opPow (es2 (eC (.int 10)) (eC (.int 29)))) esNil)))))))))))))))) (sRet (eOp opAdd (es2 (eVar 3) (eLst (esCons (eTup (esCons (eOp opStr (esCons (eVar 4) esNil)) (esCons (eVar 5) esNil))) (esCons (eTup (esCons (eC .none) (esCons (eC (.int 1)) esNil))) (esCons (eTup (esCons (eTup (esCons (eVar 4) (esCons (eVar 5) esNil))) (esCons (eC (.int 1)) esNil))) (esCons (eTup (esCons (eC (.int 1)) (esCons (eC .none) esNil))) (esCons (eTup (esCons (eVar 1) (esCons (eVar 1) esNil))) (esCons (eLst (esCons (eVar 1) esNil)) (esCons (eC (.str "")) esNil)))))))))))))))))
def mr__law_values (o : OD) (os : List OD) : Option (OD × OD) := (ev__law_values fuel (startE ["_law_pot_here", "_law_one", "_law_times_by", "_law_rows", "_law_a", "_law_b"] (o :: os))).bind retP
def ev__law_alone_right (n : Nat) : EvS :=
  (sSeq (sAsg [] 1 (eLst (esCons (eTup (esCons (eOp opNeg (es1 (eOp opIx (es2 (eVar 0) (eC (.int 0)))))) (esCons (eOp opIx (es2 (eVar 0) (eC (.int 1)))) esNil))) (esCons (eFn0 mr__law_sign 1 [0] (esCons (eOp opIx (es2 (eVar 0) (eC (.int 0)))) esNil)) (esCons (eOp opDiv (es2 (eOp opIx (es2 (eVar 0) (eC (.int 0)))) (eOp opIx (es2 (eVar 0) (eC (.int 1)))))) (esCons (eOp opNeg (es1 (eOp opDiv (es2 (eOp opNeg (es1 (eOp opIx (es2 (eVar 0) (eC (.int 0)))))) (eOp opIx (es2 (eVar 0) (eC (.int 1)))))))) (esCons (eFn0 mr__law_text 1 [0] (esCons (eVar 0) esNil)) esNil))))))) (sSeq (sAsg [] 2 (eLst (esCons (eFn0 mr_opposite 1 [0] (esCons (eVar 0) esNil)) (esCons (eFn0 mr_sign_of 1 [0] (esCons (eVar 0) esNil)) (esCons (eFn0 mr_floor_of 1 [0] (esCons (eVar 0) esNil)) (esCons (eFn0 mr_ceiling_of 1 [0] (esCons (eVar 0) esNil)) (esCons (eFn0 mr_worth_text 1 [0] (esCons (eVar 0) esNil)) esNil))))))) (sSeq (sAsg [] 3 (eLst (esCons (eFn0 mr_opposite 1 [0] (esCons (eVar 0) esNil)) (esCons (eFn0 mr_sign_of 1 [0] (esCons (eVar 0) esNil)) (esCons (eFn0 mr_floor_of 1 [0] (esCons (eVar 0) esNil)) (esCons (eFn0 mr_ceiling_of 1 [0] (esCons (eVar 0) esNil)) (esCons (eFn0 mr_worth_text 1 [0] (esCons (eVar 0) esNil)) esNil))))))) (sRet (eAnd (eOp opEq (es2 (eOp opRepr (esCons (eVar 2) esNil)) (eOp opRepr (esCons (eVar 1) esNil)))) (eOp opEq (es2 (eOp opRepr (esCons (eVar 3) esNil)) (eOp opRepr (esCons (eVar 1) esNil)))))))))
def mr__law_alone_right (os : List OD) : Option OD := (ev__law_alone_right fuel (startE ["_law_a", "_law_due", "_law_told", "_law_named"] os)).bind retOf
def ev__law_over_one (n : Nat) : EvS :=
  (sSeq (sAsg [] 1 (eC (.int 1))) (sSeq (sFor (iSq (eVar 0)) (gvTup 2 (gvCons (gvName [] 2) (gvCons (gvName [] 3) gvNil))) (sAsg [] 1 (eOp opMul (es2 (eOp opDiv (es2 (eVar 1) (eFn0 mr__law_gcd 2 [0, 1] (esCons (eVar 1) (esCons (eVar 3) esNil))))) (eVar 3))))) (sRet (eTup (esCons (eLc [4, 5] (iSq (eVar 0)) (gv2 4 5) cYes (eOp opMul (es2 (eVar 4) (eOp opDiv (es2 (eVar 1) (eVar 5)))))) (esCons (eVar 1) esNil))))))
def mr__law_over_one (os : List OD) : Option OD := (ev__law_over_one fuel (startE ["_law_rows", "_law_below", "_law_above", "_law_beneath", "_law_a", "_law_b"] os)).bind retOf
def ev_minus (n : Nat) : EvS :=
  (sRet (eFn0 mr_plus 2 [0, 1] (esCons (eVar 0) (esCons (eFn0 mr_opposite 1 [0] (esCons (eVar 1) esNil)) esNil))))
def mr_minus (os : List OD) : Option OD := (ev_minus fuel (startE ["a", "b"] os)).bind retOf
def ev_total (n : Nat) : EvS :=
  (sSeq (sAsg [] 1 (eC (.tuple [.int (0), .int (1)]))) (sSeq (sFor (iSq (eVar 0)) (gvName [] 2) (sAsg [] 1 (eFn0 mr_plus 2 [0, 1] (esCons (eVar 1) (esCons (eVar 2) esNil))))) (sRet (eVar 1))))
def mr_total (os : List OD) : Option OD := (ev_total fuel (startE ["fractions", "made", "one"] os)).bind retOf
def ev__law_worth (n : Nat) : EvS :=
  (sSeq (sAsg [0] 1 (eFnP mr__law_draw 2 [0] (esCons (eVar 0) (esCons (eC (.int 6)) esNil)))) (sSeq (sIf (tBl (eOp opEq (es2 (eVar 1) (eC (.int 0))))) (sRet (eTup (esCons (eC (.int 0)) (esCons (eC (.int 1)) esNil)))) sNext) (sSeq (sIf (tBl (eOp opEq (es2 (eVar 1) (eC (.int 1))))) (sRet (eTup (esCons (eOp opSub (es2 (eFnP mr__law_draw 2 [0] (esCons (eVar 0) (esCons (eC (.int 19)) esNil))) (eC (.int 9)))) (esCons (eC (.int 1)) esNil)))) sNext) (sSeq (sIf (tBl (eOp opEq (es2 (eVar 1) (eC (.int 5))))) (sRet (eFn0 mr__law_made 2 [0, 1] (esCons (eFnP mr__law_signed 2 [0] (esCons (eVar 0) (esCons (eFnP mr__law_great 1 [] (esCons (eVar 0) esNil)) esNil))) (esCons (eOp opAdd (es2 (eC (.int 1)) (eFnP mr__law_great 1 [] (esCons (eVar 0) esNil)))) esNil)))) sNext) (sSeq (sAsg [0] 2 (eIf (tBl (eOp opLt (es2 (eVar 1) (eC (.int 4))))) (eC (.int 12)) (eC (.int 5000)))) (sSeq (sAsg [0] 3 (eFnP mr__law_signed 2 [0] (esCons (eVar 0) (esCons (eFnP mr__law_draw 2 [0] (esCons (eVar 0) (esCons (eVar 2) esNil))) esNil)))) (sRet (eFn0 mr__law_made 2 [0, 1] (esCons (eVar 3) (esCons (eOp opAdd (es2 (eC (.int 1)) (eFnP mr__law_draw 2 [0] (esCons (eVar 0) (esCons (eVar 2) esNil))))) esNil))))))))))
def mr__law_worth (o : OD) (os : List OD) : Option (OD × OD) := (ev__law_worth fuel (startE ["_law_pot_here", "_law_way", "_law_size", "_law_above"] (o :: os))).bind retP
def ev__law_values_right (n : Nat) : EvS :=
  (sSeq (sFor (iSq (eFnP mr__law_values 2 [0] (esCons (eVar 0) (esCons (eVar 1) esNil)))) (gvName [0] 2) (sSeq (sAsg [0] 4 (eFn0 mr__law_is_whole 1 [0] (esCons (eVar 2) esNil))) (sSeq (sAsg [0] 5 (eLst (esCons (eVar 4) (esCons (eAnd (eVar 4) (eOp opGe (es2 (eVar 2) (eC (.int 0))))) (esCons (eFn0 mr__law_fits 1 [0] (esCons (eVar 2) esNil)) esNil))))) (sSeq (sAsg [0] 3 (eLst (esCons (eFn0 mr_is_integer 1 [0] (esCons (eVar 2) esNil)) (esCons (eFn0 mr_is_count 1 [0] (esCons (eVar 2) esNil)) (esCons (eFn0 mr_is_fraction 1 [0] (esCons (eVar 2) esNil)) esNil))))) (sIf (tBl (eOp opNe (es2 (eOp opRepr (esCons (eVar 3) esNil)) (eOp opRepr (esCons (eVar 5) esNil))))) (sRet (eC (.bool false))) sNext))))) (sSeq (sAsg [0] 3 (eLst (esCons (eFn0 mr_is_integer 1 [0] (esCons (eOp opIx (es2 (eVar 1) (eC (.int 0)))) esNil)) (esCons (eFn0 mr_is_count 1 [0] (esCons (eVar 1) esNil)) (esCons (eFn0 mr_is_fraction 1 [0] (esCons (eVar 1) esNil)) esNil))))) (sRet (eOp opEq (es2 (eOp opRepr (esCons (eVar 3) esNil)) (eC (.str "[True, False, True]")))))))
def mr__law_values_right (o : OD) (os : List OD) : Option (OD × OD) := (ev__law_values_right fuel (startE ["_law_pot_here", "_law_one", "_law_value", "_law_told", "_law_known", "_law_due"] (o :: os))).bind retP
def ev__law_refused_below (n : Nat) : EvS :=
  (sSeq (sAsg [] 1 (eLst esNil)) (sSeq (eTry errSub 4 2 (sExpr (eFn0 mr_fraction 2 [0, 1] (esCons (eVar 0) (esCons (eC (.int 0)) esNil)))) (xFn mx_fraction 2 [0, 1] (esCons (eVar 0) (esCons (eC (.int 0)) esNil))) (suAs 2 (fun e a => (sSeq (sApp 1 (eAnd (eOp (opIsE a e (errSub e 0)) (es1 (eVar 2))) (eOp (opIsE a e (errSubB e "ValueError")) (es1 (eVar 2))))) (sApp 1 (eOp (opIsE a e (errSub e 1)) (es1 (eVar 2)))))))) (sSeq (eTry errSub 4 0 (sExpr (eFn0 mr_over 2 [0, 1] (esCons (eTup (esCons (eVar 0) (esCons (eC (.int 1)) esNil))) (esCons (eTup (esCons (eC (.int 0)) (esCons (eC (.int 1)) esNil))) esNil)))) (xFn mx_over 2 [0, 1] (esCons (eTup (esCons (eVar 0) (esCons (eC (.int 1)) esNil))) (esCons (eTup (esCons (eC (.int 0)) (esCons (eC (.int 1)) esNil))) esNil))) (suAs 2 (fun e a => (sSeq (sApp 1 (eOp (opIsE a e (errSub e 2)) (es1 (eVar 2)))) (sApp 1 (eOp (opIsE a e (errSub e 3)) (es1 (eVar 2)))))))) (sRet (eOp opEq (es2 (eOp opRepr (esCons (eVar 1) esNil)) (eC (.str "[True, False, True, False]"))))))))
def mr__law_refused_below (os : List OD) : Option OD := (ev__law_refused_below fuel (startE ["_law_above", "_law_seen", "e"] os)).bind retOf
def ev__law_refused_empty (n : Nat) : EvS :=
  (sSeq (sAsg [] 0 (eLst esNil)) (sSeq (eTry errSub 4 3 (sExpr (eFn0 mr_least 1 [0] (esCons (eLst esNil) esNil))) (xFn mx_least 1 [0] (esCons (eLst esNil) esNil)) (suAs 1 (fun e a => (sApp 0 (eAnd (eOp (opIsE a e (errSub e 1)) (es1 (eVar 1))) (eOp (opIsE a e (errSubB e "LookupError")) (es1 (eVar 1)))))))) (sSeq (eTry errSub 4 1 (sExpr (eFn0 mr_greatest 1 [0] (esCons (eLst esNil) esNil))) (xFn mx_greatest 1 [0] (esCons (eLst esNil) esNil)) (suAs 1 (fun e a => (sApp 0 (eAnd (eOp (opIsE a e (errSub e 3)) (es1 (eVar 1))) (eNot (eOp (opIsE a e (errSub e 0)) (es1 (eVar 1))))))))) (sRet (eOp opEq (es2 (eOp opRepr (esCons (eVar 0) esNil)) (eC (.str "[True, True]"))))))))
def mr__law_refused_empty (os : List OD) : Option OD := (ev__law_refused_empty fuel (startE ["_law_seen", "e"] os)).bind retOf
def ev__law_made_right (n : Nat) : EvS :=
  (sSeq (sAsg [0] 1 (eFnP mr__law_signed 2 [0] (esCons (eVar 0) (esCons (eFnP mr__law_pick 2 [0] (esCons (eVar 0) (esCons (eLst (esCons (eC (.int 0)) (esCons (eC (.int 1)) (esCons (eC (.int 6)) (esCons (eC (.int 12)) (esCons (eC (.int 35)) (esCons (eFnP mr__law_great 1 [] (esCons (eVar 0) esNil)) esNil))))))) esNil))) esNil)))) (sSeq (sAsg [0] 2 (eOp opAdd (es2 (eC (.int 1)) (eFnP mr__law_pick 2 [0] (esCons (eVar 0) (esCons (eLst (esCons (eC (.int 0)) (esCons (eC (.int 1)) (esCons (eC (.int 5)) (esCons (eC (.int 11)) (esCons (eC (.int 13)) (esCons (eFnP mr__law_great 1 [] (esCons (eVar 0) esNil)) esNil))))))) esNil)))))) (sSeq (sAsg [0] 2 (eFnP mr__law_signed 2 [0] (esCons (eVar 0) (esCons (eVar 2) esNil)))) (sSeq (sIf (tBl (eOp opNe (es2 (eOp opRepr (esCons (eFn0 mr_fraction 2 [0, 1] (esCons (eVar 1) (esCons (eVar 2) esNil))) esNil)) (eOp opRepr (esCons (eFn0 mr__law_made 2 [0, 1] (esCons (eVar 1) (esCons (eVar 2) esNil))) esNil))))) (sRet (eC (.bool false))) sNext) (sSeq (sIf (tBl (eOp opNe (es2 (eOp opRepr (esCons (eFn0 mr_fraction 2 [1, 0] (esCons (eOp opNeg (es1 (eVar 2))) (esCons (eVar 1) esNil))) esNil)) (eOp opRepr (esCons (eFn0 mr__law_made 2 [0, 1] (esCons (eVar 1) (esCons (eOp opNeg (es1 (eVar 2))) esNil))) esNil))))) (sRet (eC (.bool false))) sNext) (sSeq (sIf (tBl (eOp opNe (es2 (eOpL opRepr (esCons (eFn0 mr_whole 1 [0] (esCons (eVar 1) esNil)) (esCons (eFn0 mr_whole 1 [0] (esCons (eOp opNeg (es1 (eVar 1))) esNil)) esNil))) (eOpL opRepr (esCons (eTup (esCons (eVar 1) (esCons (eC (.int 1)) esNil))) (esCons (eTup (esCons (eOp opNeg (es1 (eVar 1))) (esCons (eC (.int 1)) esNil))) esNil)))))) (sRet (eC (.bool false))) sNext) (sRet (eAnd (eFn0 mr__law_refused_below 1 [0] (esCons (eVar 1) esNil)) (eOp opEq (es2 (eOp opRepr (esCons (eFn0 mr_fraction 2 [0, 1] (esCons (eVar 1) (esCons (eVar 2) esNil))) esNil)) (eOp opRepr (esCons (eFn0 mr__law_made 2 [0, 1] (esCons (eVar 1) (esCons (eVar 2) esNil))) esNil))))))))))))
def mr__law_made_right (o : OD) (os : List OD) : Option (OD × OD) := (ev__law_made_right fuel (startE ["_law_pot_here", "_law_above", "_law_below"] (o :: os))).bind retP
def ev__law_two_right (n : Nat) : EvS :=
  (sSeq (sAsg [] 2 (eLst (esCons (eFn0 mr__law_made 2 [0, 1] (esCons (eOp opAdd (es2 (eOp opMul (es2 (eOp opIx (es2 (eVar 0) (eC (.int 0)))) (eOp opIx (es2 (eVar 1) (eC (.int 1)))))) (eOp opMul (es2 (eOp opIx (es2 (eVar 1) (eC (.int 0)))) (eOp opIx (es2 (eVar 0) (eC (.int 1)))))))) (esCons (eOp opMul (es2 (eOp opIx (es2 (eVar 0) (eC (.int 1)))) (eOp opIx (es2 (eVar 1) (eC (.int 1)))))) esNil))) esNil))) (sSeq (sApp 2 (eFn0 mr__law_made 2 [0, 1] (esCons (eOp opSub (es2 (eOp opMul (es2 (eOp opIx (es2 (eVar 0) (eC (.int 0)))) (eOp opIx (es2 (eVar 1) (eC (.int 1)))))) (eOp opMul (es2 (eOp opIx (es2 (eVar 1) (eC (.int 0)))) (eOp opIx (es2 (eVar 0) (eC (.int 1)))))))) (esCons (eOp opMul (es2 (eOp opIx (es2 (eVar 0) (eC (.int 1)))) (eOp opIx (es2 (eVar 1) (eC (.int 1)))))) esNil)))) (sSeq (sApp 2 (eFn0 mr__law_made 2 [0, 1] (esCons (eOp opMul (es2 (eOp opIx (es2 (eVar 0) (eC (.int 0)))) (eOp opIx (es2 (eVar 1) (eC (.int 0)))))) (esCons (eOp opMul (es2 (eOp opIx (es2 (eVar 0) (eC (.int 1)))) (eOp opIx (es2 (eVar 1) (eC (.int 1)))))) esNil)))) (sSeq (sApp 2 (eFn0 mr__law_less 2 [0, 1] (esCons (eVar 0) (esCons (eVar 1) esNil)))) (sSeq (sAsg [] 3 (eLst (esCons (eFn0 mr_plus 2 [0, 1] (esCons (eVar 0) (esCons (eVar 1) esNil))) (esCons (eFn0 mr_minus 2 [0, 1] (esCons (eVar 0) (esCons (eVar 1) esNil))) (esCons (eFn0 mr_times 2 [0, 1] (esCons (eVar 0) (esCons (eVar 1) esNil))) (esCons (eFn0 mr_compare 2 [0, 1] (esCons (eVar 0) (esCons (eVar 1) esNil))) esNil)))))) (sSeq (sAsg [] 4 (eLst (esCons (eFn0 mr_plus 2 [1, 0] (esCons (eVar 1) (esCons (eVar 0) esNil))) (esCons (eFn0 mr_minus 2 [1, 0] (esCons (eVar 1) (esCons (eVar 0) esNil))) (esCons (eFn0 mr_times 2 [1, 0] (esCons (eVar 1) (esCons (eVar 0) esNil))) (esCons (eFn0 mr_compare 2 [1, 0] (esCons (eVar 1) (esCons (eVar 0) esNil))) esNil)))))) (sSeq (sIf (tOrD (tBl (eOp opNe (es2 (eOp opRepr (esCons (eVar 3) esNil)) (eOp opRepr (esCons (eVar 2) esNil))))) (tBl (eOp opNe (es2 (eOp opRepr (esCons (eVar 4) esNil)) (eOp opRepr (esCons (eVar 2) esNil)))))) (sRet (eC (.bool false))) sNext) (sSeq (sIf (tBl (eOp opEq (es2 (eOp opIx (es2 (eVar 1) (eC (.int 0)))) (eC (.int 0))))) (sRet (eC (.bool true))) sNext) (sSeq (sAsg [] 2 (eFn0 mr__law_made 2 [0, 1] (esCons (eOp opMul (es2 (eOp opIx (es2 (eVar 0) (eC (.int 0)))) (eOp opIx (es2 (eVar 1) (eC (.int 1)))))) (esCons (eOp opMul (es2 (eOp opIx (es2 (eVar 0) (eC (.int 1)))) (eOp opIx (es2 (eVar 1) (eC (.int 0)))))) esNil)))) (sRet (eOp opEq (es2 (eOpL opRepr (esCons (eFn0 mr_over 2 [0, 1] (esCons (eVar 0) (esCons (eVar 1) esNil))) (esCons (eFn0 mr_over 2 [1, 0] (esCons (eVar 1) (esCons (eVar 0) esNil))) esNil))) (eOpL opRepr (esCons (eVar 2) (esCons (eVar 2) esNil)))))))))))))))
def mr__law_two_right (os : List OD) : Option OD := (ev__law_two_right fuel (startE ["_law_a", "_law_b", "_law_due", "_law_told", "_law_named"] os)).bind retOf
def ev__law_second (n : Nat) : EvS :=
  (sSeq (sAsg [0] 2 (eFnP mr__law_draw 2 [0] (esCons (eVar 0) (esCons (eC (.int 6)) esNil)))) (sSeq (sIf (tBl (eOp opEq (es2 (eVar 2) (eC (.int 0))))) (sRet (eVar 1)) sNext) (sSeq (sIf (tBl (eOp opEq (es2 (eVar 2) (eC (.int 1))))) (sRet (eTup (esCons (eOp opNeg (es1 (eOp opIx (es2 (eVar 1) (eC (.int 0)))))) (esCons (eOp opIx (es2 (eVar 1) (eC (.int 1)))) esNil)))) sNext) (sSeq (sIf (tBl (eOp opEq (es2 (eVar 2) (eC (.int 2))))) (sRet (eFn0 mr__law_made 2 [0, 1] (esCons (eOp opAdd (es2 (eOp opMul (es2 (eOp opIx (es2 (eVar 1) (eC (.int 0)))) (eC (.int 1000)))) (eC (.int 1)))) (esCons (eOp opMul (es2 (eOp opIx (es2 (eVar 1) (eC (.int 1)))) (eC (.int 1000)))) esNil)))) sNext) (sRet (eFnP mr__law_worth 1 [] (esCons (eVar 0) esNil)))))))
def mr__law_second (o : OD) (os : List OD) : Option (OD × OD) := (ev__law_second fuel (startE ["_law_pot_here", "_law_a", "_law_way"] (o :: os))).bind retP
def cl__law_list_1 : List PyData := [(.int 0), (.int 1), (.int 2), (.int 2), (.int 3), (.int 4), (.int 5), (.int 6), (.int 60)]
def ev__law_list (n : Nat) : EvS :=
  (sSeq (sAsg [0] 1 (eFnP mr__law_pick 2 [0] (esCons (eVar 0) (esCons (eLst (escs cl__law_list_1)) esNil)))) (sSeq (sAsg [0] 2 (eFnP mr__law_pick 2 [0] (esCons (eVar 0) (esCons (eLst (esCons (eC (.int 0)) (esCons (eC (.int 0)) (esCons (eC (.int 1)) esNil)))) esNil)))) (sSeq (sIf (tOrD (tBl (eOp opEq (es2 (eVar 2) (eC (.int 0))))) (tBl (eOp opEq (es2 (eVar 1) (eC (.int 60)))))) (sSeq (sAsg [0] 3 (eLst esNil)) (sSeq (sFor (iR1 (esCons (eVar 1) esNil)) (gvName [0] 4) (sSeq (sAsg [0] 5 (eOp opSub (es2 (eFnP mr__law_draw 2 [0] (esCons (eVar 0) (esCons (eC (.int 25)) esNil))) (eC (.int 12))))) (sApp 3 (eFn0 mr__law_made 2 [0, 1] (esCons (eVar 5) (esCons (eOp opAdd (es2 (eC (.int 1)) (eFnP mr__law_draw 2 [0] (esCons (eVar 0) (esCons (eC (.int 9)) esNil))))) esNil)))))) (sRet (eVar 3)))) sNext) (sRet (eLc [4] (iR1 (esCons (eVar 1) esNil)) (gvName [] 4) cYes (eFnP mr__law_worth 1 [] (esCons (eVar 0) esNil)))))))
def mr__law_list (o : OD) (os : List OD) : Option (OD × OD) := (ev__law_list fuel (startE ["_law_pot_here", "_law_many", "_law_size", "_law_found", "_law_turn", "_law_above"] (o :: os))).bind retP
def ev__law_list_right (n : Nat) : EvS :=
  (sSeq (sAsg [] 1 (eOp opRepr (esCons (eVar 0) esNil))) (sSeq (sAsg [] 2 (eTup (esCons (eC (.int 0)) (esCons (eC (.int 1)) esNil)))) (sSeq (sFor (iSq (eVar 0)) (gvName [] 3) (sAsg [] 2 (eFn0 mr__law_made 2 [0, 1] (esCons (eOp opAdd (es2 (eOp opMul (es2 (eOp opIx (es2 (eVar 2) (eC (.int 0)))) (eOp opIx (es2 (eVar 3) (eC (.int 1)))))) (eOp opMul (es2 (eOp opIx (es2 (eVar 3) (eC (.int 0)))) (eOp opIx (es2 (eVar 2) (eC (.int 1)))))))) (esCons (eOp opMul (es2 (eOp opIx (es2 (eVar 2) (eC (.int 1)))) (eOp opIx (es2 (eVar 3) (eC (.int 1)))))) esNil))))) (sSeq (sAsg [] 4 (eFn0 mr__law_over_one 1 [0] (esCons (eVar 0) esNil))) (sSeq (sAsg [] 5 (eFn0 mr_over_one_below 1 [0] (esCons (eVar 0) esNil))) (sSeq (sIf (tBl (eOp opNe (es2 (eOpL opRepr (esCons (eFn0 mr_total 1 [0] (esCons (eVar 0) esNil)) (esCons (eVar 5) esNil))) (eOpL opRepr (esCons (eVar 2) (esCons (eVar 4) esNil)))))) (sRet (eC (.bool false))) sNext) (sSeq (sAppTp 5 (eC (.int 0)) (eC (.int 7))) (sSeq (sIf (tBl (eOp opNe (es2 (eOpL opRepr (esCons (eFn0 mr_total 1 [0] (esCons (eVar 0) esNil)) (esCons (eFn0 mr_over_one_below 1 [0] (esCons (eVar 0) esNil)) esNil))) (eOpL opRepr (esCons (eVar 2) (esCons (eVar 4) esNil)))))) (sRet (eC (.bool false))) sNext) (sSeq (sIf (tBl (eOp opEq (es2 (eOp opLen (esCons (eVar 0) esNil)) (eC (.int 0))))) (sRet (eFn0 mr__law_refused_empty 0 [] esNil)) sNext) (sSeq (sPar [] 6 7 (esCons (eOp opIx (es2 (eVar 0) (eC (.int 0)))) (esCons (eOp opIx (es2 (eVar 0) (eC (.int 0)))) esNil))) (sSeq (sFor (iSq (eVar 0)) (gvName [] 3) (sSeq (sAsg [] 6 (eIf (tBl (eOp opLt (es2 (eFn0 mr__law_less 2 [0, 1] (esCons (eVar 3) (esCons (eVar 6) esNil))) (eC (.int 0))))) (eVar 3) (eVar 6))) (sAsg [] 7 (eIf (tBl (eOp opGt (es2 (eFn0 mr__law_less 2 [0, 1] (esCons (eVar 3) (esCons (eVar 7) esNil))) (eC (.int 0))))) (eVar 3) (eVar 7))))) (sSeq (sAsg [] 5 (eLst (esCons (eFn0 mr_least 1 [0] (esCons (eVar 0) esNil)) (esCons (eFn0 mr_greatest 1 [0] (esCons (eVar 0) esNil)) (esCons (eFn0 mr_least 1 [0] (esCons (eVar 0) esNil)) (esCons (eFn0 mr_greatest 1 [0] (esCons (eVar 0) esNil)) esNil)))))) (sRet (eAnd (eOp opEq (es2 (eOp opRepr (esCons (eVar 5) esNil)) (eOpL opRepr (esCons (eVar 6) (esCons (eVar 7) (esCons (eVar 6) (esCons (eVar 7) esNil))))))) (eOp opEq (es2 (eOp opRepr (esCons (eVar 0) esNil)) (eVar 1)))))))))))))))))
def mr__law_list_right (os : List OD) : Option OD := (ev__law_list_right fuel (startE ["_law_rows", "_law_shown", "_law_added", "_law_a", "_law_due", "_law_told", "_law_low", "_law_high"] os)).bind retOf
def ev_law (n : Nat) : EvS :=
  (sSeq (sAsg [] 1 (eFn0 mr__law_pot 2 [0, 1] (esCons (eVar 0) (esCons (eC (.int 0)) esNil)))) (sSeq (sAsg [] 2 (eFnP mr__law_worth 1 [] (esCons (eVar 1) esNil))) (sSeq (sAsg [] 3 (eFnP mr__law_second 2 [0] (esCons (eVar 1) (esCons (eVar 2) esNil)))) (sSeq (sIf (tOrD (tNotD (tTru (eFnP mr__law_values_right 2 [0] (esCons (eVar 1) (esCons (eVar 2) esNil))))) (tNotD (tTru (eFnP mr__law_made_right 1 [] (esCons (eVar 1) esNil))))) (sRet (eC (.bool false))) sNext) (sSeq (sIf (tOrD (tNotD (tTru (eFn0 mr__law_alone_right 1 [0] (esCons (eVar 2) esNil)))) (tNotD (tTru (eFn0 mr__law_alone_right 1 [0] (esCons (eVar 3) esNil))))) (sRet (eC (.bool false))) sNext) (sSeq (sIf (tOrD (tNotD (tTru (eFn0 mr__law_two_right 2 [0, 1] (esCons (eVar 2) (esCons (eVar 3) esNil))))) (tNotD (tTru (eFn0 mr__law_two_right 2 [0, 1] (esCons (eVar 3) (esCons (eVar 2) esNil)))))) (sRet (eC (.bool false))) sNext) (sSeq (sAsg [] 4 (eFn0 mr__law_pot 2 [0, 1] (esCons (eVar 0) (esCons (eC (.int 1)) esNil)))) (sRet (eAnd (eFn0 mr__law_list_right 1 [0] (esCons (eFnP mr__law_list 1 [] (esCons (eVar 4) esNil)) esNil)) (eFn0 mr__law_list_right 1 [0] (esCons (eFnP mr__law_list 1 [] (esCons (eVar 1) esNil)) esNil)))))))))))
def mr_law (os : List OD) : Option OD := (ev_law fuel (startE ["_law_script", "_law_pot_here", "_law_a", "_law_b", "_law_other"] os)).bind retOf
end
end K10
set_option exponentiation.threshold 5000
namespace K10
open PySem PySem.Spec PyProof.Rows L2 DX
-- DXSIMP begin
local macro_rules | `(tactic| walk_at "dx") => `(tactic| simp only [b_escs, b_rdTms, b_hardTms, b_softTms, b_esCons, b_opV, b_opL, b_opT, b_eOp, b_rdNil, b_rdCons, b_rdT, b_rdA, b_erS, b_erL, b_eVar, b_eC, b_esNil, b_tTru, b_tBl, b_tAnd, b_tOr, b_tNot, b_eAnd, b_eOr, b_eNot, b_eIf, b_eTup, b_eLst, b_eTupO, b_eOpL, k_scOS, b_mvNil, b_mvCons, b_sAppTp, b_erTp, g_hardTp, g_softTp, g_giveTp, k_tpl, k_shTp, b_oSome, b_oNone, b_eSl, b_eMt, b_fn0, b_fnP, b_sRet, b_sAsg, b_gvName, b_gvNil, b_gvCons, b_gvTup, b_gvSub, b_sAsgG, b_sApp, b_sPar, b_sPar3, b_sAppIx, b_sAugI, b_cvsNil, b_cvsCons, b_bindCond, b_condFst, b_condSnd, b_giveT, b_sFor, b_iSq, b_iR1, b_iEnA, wipeE, cYes, at_zero, k_bool, k_int, k_str, k_tup, k_lst, k_list, k_itL, k_itT, k_itSS, k_trN, k_trB, k_trI, k_trSS, k_trL, k_trT, k_scN, k_scB, k_scI, k_scS, k_scL, k_scT, k_shS, k_shL, k_softT, k_hardT, k_cvT, k_softNil, k_softCons, k_hardNil, k_hardCons, g_hard, g_soft, g_cv, g_give, g_hardS, g_hardL, g_softS, g_softL, g_cvS, g_giveS, g_giveL, g_allSh, g_erSh, List.all_cons, List.all_nil, k_retR, k_retN, k_alA, k_hd, k_two, k_three, k_sh, k_odT, k_enS, k_enL, o_addI, o_addS, o_addL, o_sub, o_neg, o_ltI, o_leI, o_gtI, o_geI, o_lenS, o_lenL, o_lenT, o_abs, o_max, o_int, o_ixL, o_ixT, o_ixSS, o_slS, o_slL, o_in1S, o_ni1S, o_eqS, o_neS, o_eqI, o_neI, o_mul, o_div, o_mod, o_pow, o_divmod, z_ble0, z_ble1, z_ble2, z_ble3, z_ble4, z_ble5, z_ble6, z_ble7, z_ble8, z_ble9, z_ble10, z_ble13, z_ble17, S_l, S_len, S_app, es1, es2, startE, sNext, pk, DX.inR, Nat.beq, Nat.ble, List.any_cons, List.any_nil, List.filterMap_cons, List.filterMap_nil, Option.bind_some, Option.bind_none, cond_true, cond_false, decide_true, decide_false, List.map_cons, List.map_nil, List.length_cons, List.length_nil, List.length_map, List.length_set, List.getElem?_cons_zero, List.getElem?_cons_succ, List.cons_append, List.nil_append, List.set_cons_zero, List.set_cons_succ, List.replicate, Nat.reduceAdd, Nat.reduceSub, Nat.zero_add, Int.toNat_natCast, Bool.not_true, Bool.not_false, Bool.or_self, Bool.or_false, Bool.false_or, Bool.and_self, Bool.and_true, Bool.true_and, Bool.and_false, Bool.false_and, Bool.true_or, Bool.or_true, z_some, z_none, z_bind, z_then, z_map, z_mapK, b_eLc, lcStep, forStep, at_0, at_1, at_2, at_3, at_4, at_5, at_m1, ix_0, ix_1, ix_m1, blt_00, blt_0s, blt_12, blt_02, z_ifK, z_guard, z_guardN, z_seqN, z_seqR, z_seqB, z_seqC, z_sSeq, z_sIf, z_forN, z_forC, z_forB, z_forR, r_P1, r_P2, k_condSomeP, k_condNx, k_condEn, k_condSl, k_condPair, k_condTm, k_condSh, k_condI, k_condB, k_condAnd, k_condOr, k_condNot, o_gcd, k_condAndL, k_condOrL, b_jNil, b_jCons, b_eJoin, t_str, str_len, str_empty, Int.cast_ofNat_Int, Int.reduceEq, Int.reduceLT, Int.reduceLE, Int.reduceNeg, Int.reduceAdd, Int.reduceSub, Int.reduceMul, Int.reduceToNat, Int.reducePow, Nat.reduceLT, Nat.reduceLeDiff, Nat.reduceEqDiff, Nat.reduceMul, k_condSelf, x_no, x_raise, x_seqNo, b_xIf, x_inr, x_inl, b_xFn, o_neSelf, o_eqSelf, i_boolN, i_boolB, i_boolI, i_boolS, i_boolL, i_boolT, i_intN, i_intB, i_intI, i_intS, i_intL, i_intT, i_strN, i_strB, i_strI, i_strS, i_strL, i_strT, i_listN, i_listB, i_listI, i_listS, i_listL, i_listT, i_tupleN, i_tupleB, i_tupleI, i_tupleS, i_tupleL, i_tupleT, at_nat, decide_eq_true_eq, decide_eq_false_iff_not, Nat.ble_eq, and_true, true_and, Option.map_some, Option.isSome_some])
local macro_rules | `(tactic| walk_at "dxs") => `(tactic| simp only [b_escs, b_rdTms, b_hardTms, b_softTms, b_esCons, b_opV, b_opL, b_opT, b_eOp, b_rdNil, b_rdCons, b_rdT, b_rdA, b_erS, b_erL, b_eVar, b_eC, b_esNil, b_tTru, b_tBl, b_tAnd, b_tOr, b_tNot, b_eAnd, b_eOr, b_eNot, b_eIf, b_eTup, b_eLst, b_eTupO, b_eOpL, k_scOS, b_mvNil, b_mvCons, b_sAppTp, b_erTp, g_hardTp, g_softTp, g_giveTp, k_tpl, k_shTp, b_oSome, b_oNone, b_eSl, b_eMt, b_fn0, b_fnP, b_sRet, b_sAsg, b_gvName, b_gvNil, b_gvCons, b_gvTup, b_gvSub, b_sAsgG, b_sApp, b_sPar, b_sPar3, b_sAppIx, b_sAugI, b_cvsNil, b_cvsCons, b_bindCond, b_condFst, b_condSnd, b_giveT, b_sFor, b_iSq, b_iR1, b_iEnA, wipeE, cYes, at_zero, k_bool, k_int, k_str, k_tup, k_lst, k_list, k_itL, k_itT, k_itSS, k_trN, k_trB, k_trI, k_trSS, k_trL, k_trT, k_scN, k_scB, k_scI, k_scS, k_scL, k_scT, k_shS, k_shL, k_softT, k_hardT, k_cvT, k_softNil, k_softCons, k_hardNil, k_hardCons, g_hard, g_soft, g_cv, g_give, g_hardS, g_hardL, g_softS, g_softL, g_cvS, g_giveS, g_giveL, g_allSh, g_erSh, List.all_cons, List.all_nil, k_retR, k_retN, k_alA, k_hd, k_two, k_three, k_sh, k_odT, k_enS, k_enL, o_addI, o_addS, o_addL, o_sub, o_neg, o_ltI, o_leI, o_gtI, o_geI, o_lenS, o_lenL, o_lenT, o_abs, o_max, o_int, o_ixL, o_ixT, o_ixSS, o_slS, o_slL, o_in1S, o_ni1S, o_eqS, o_neS, o_eqI, o_neI, o_mul, o_div, o_mod, o_pow, o_divmod, z_ble0, z_ble1, z_ble2, z_ble3, z_ble4, z_ble5, z_ble6, z_ble7, z_ble8, z_ble9, z_ble10, z_ble13, z_ble17, S_l, S_len, S_app, es1, es2, startE, sNext, pk, DX.inR, Nat.beq, Nat.ble, List.any_cons, List.any_nil, List.filterMap_cons, List.filterMap_nil, Option.bind_some, Option.bind_none, cond_true, cond_false, decide_true, decide_false, List.map_cons, List.map_nil, List.length_cons, List.length_nil, List.length_map, List.length_set, List.getElem?_cons_zero, List.getElem?_cons_succ, List.cons_append, List.nil_append, List.set_cons_zero, List.set_cons_succ, List.replicate, Nat.reduceAdd, Nat.reduceSub, Nat.zero_add, Int.toNat_natCast, Bool.not_true, Bool.not_false, Bool.or_self, Bool.or_false, Bool.false_or, Bool.and_self, Bool.and_true, Bool.true_and, Bool.and_false, Bool.false_and, Bool.true_or, Bool.or_true, z_some, z_none, z_bind, z_then, z_map, z_mapK, b_eLc, lcStep, forStep, at_0, at_1, at_2, at_3, at_4, at_5, at_m1, ix_0, ix_1, ix_m1, blt_00, blt_0s, blt_12, blt_02, z_ifK, z_guard, z_guardN, z_seqN, z_seqR, z_seqB, z_seqC, z_sSeq, z_sIf, z_forN, z_forC, z_forB, z_forR, r_P1, r_P2, k_condSomeP, k_condNx, k_condEn, k_condSl, k_condPair, k_condTm, k_condSh, k_condI, k_condB, k_condAnd, k_condOr, k_condNot, o_gcd, k_condAndL, k_condOrL, b_jNil, b_jCons, b_eJoin, t_str, str_len, str_empty, Int.cast_ofNat_Int, Int.reduceEq, Int.reduceLT, Int.reduceLE, Int.reduceNeg, Int.reduceAdd, Int.reduceSub, Int.reduceMul, Int.reduceToNat, Int.reducePow, Nat.reduceLT, Nat.reduceLeDiff, Nat.reduceEqDiff, Nat.reduceMul, k_condSelf, x_no, x_raise, x_seqNo, b_xIf, x_inr, x_inl, b_xFn, o_neSelf, o_eqSelf, i_boolN, i_boolB, i_boolI, i_boolS, i_boolL, i_boolT, i_intN, i_intB, i_intI, i_intS, i_intL, i_intT, i_strN, i_strB, i_strI, i_strS, i_strL, i_strT, i_listN, i_listB, i_listI, i_listS, i_listL, i_listT, i_tupleN, i_tupleB, i_tupleI, i_tupleS, i_tupleL, i_tupleT, at_nat, decide_eq_true_eq, decide_eq_false_iff_not, Nat.ble_eq, and_true, true_and, Option.map_some, Option.isSome_some, *])
-- DXSIMP end
abbrev potO (a b : Int) : OD := .lst [.sh (.int a), .sh (.int b)]
def Pk (b : Int) : Prop := 0 ≤ b ∧ b < 2147483588
theorem mulFits_of {a b : Int} (ha : a.natAbs < 2 ^ 4000) (hb : b.natAbs < 2 ^ 4000) : mulFits a b = true := by
  have h1 := PySem.Flt.log2_lt_of (by decide) ha
  have h2 := PySem.Flt.log2_lt_of (by decide) hb
  exact decide_eq_true (by omega)
theorem mulFits_small {a b : Int} (ha : a.natAbs < 2 ^ 64) (hb : b.natAbs < 2 ^ 64) : mulFits a b = true :=
  mulFits_of (Nat.lt_of_lt_of_le ha (Nat.pow_le_pow_right (by decide) (by decide))) (Nat.lt_of_lt_of_le hb (Nat.pow_le_pow_right (by decide) (by decide)))
theorem divFits_of {a b : Int} (h0 : b ≠ 0) (hb : b.natAbs < 2 ^ 4000) : divFits a b = true := by
  have h2 := PySem.Flt.log2_lt_of (by decide) hb
  exact decide_eq_true ⟨h0, by omega⟩
theorem divFits_small {a b : Int} (h0 : b ≠ 0) (hb : b.natAbs < 2 ^ 64) : divFits a b = true := divFits_of h0 (Nat.lt_of_lt_of_le hb (Nat.pow_le_pow_right (by decide) (by decide)))
theorem emod_lt {a b : Int} (h : 0 < b) : 0 ≤ a % b ∧ a % b < b := ⟨Int.emod_nonneg _ (by omega), Int.emod_lt_of_pos _ h⟩
/-- a draw: a number below n, the pot behind it -/
def Dr (n : Int) (r : OD × OD) : Prop := ∃ v a b : Int, r = (.sh (.int v), potO a b) ∧ 0 ≤ v ∧ v < n ∧ Pk b
theorem sp_draw {a b n : Int} (hb : Pk b) (hn : 0 < n) (hn2 : n < 1073741824) : Sat (mr__law_draw (potO a b) [.sh (.int n)]) (Dr n) := by
  unfold mr__law_draw ev__law_draw
  obtain ⟨hb1, hb2⟩ := hb
  walk_at "dx"
  refine Sat.splitD (fun ha => ?_) fun ha => ?_
  · walk_at "dx"
    exact ⟨⟨hn, hn2⟩, _, _, _, rfl, (emod_lt hn).1, (emod_lt hn).2, hb1, hb2⟩
  · walk_at "dx"
    obtain ⟨m1, m2⟩ := emod_lt (a := b * 40351 + 6163) (b := 2147483563) (by decide)
    refine ⟨mulFits_small (by omega) (by decide), mulFits_small (by omega) (by omega), divFits_small (by decide) (by decide), hn, _, _, _, rfl, (emod_lt hn).1, (emod_lt hn).2, m1, by omega⟩
theorem sp_pick {a b : Int} {ds : List PyData} (hb : Pk b) (h0 : 0 < ds.length) (h1 : ds.length < 1073741824) : Sat (mr__law_pick (potO a b) [.sh (.list ds)]) (fun r => ∃ d a b, r = (.sh d, potO a b) ∧ d ∈ ds ∧ Pk b) := by
  unfold mr__law_pick ev__law_pick
  walk_at "dx"
  refine (sp_draw hb (n := (ds.length : Nat)) (by omega) (by omega)).mono fun r ⟨v, a', b', e, hv0, hv1, hb'⟩ => ?_
  subst e
  obtain ⟨k, rfl⟩ : ∃ k : Nat, v = k := ⟨v.toNat, by omega⟩
  have hk : k < ds.length := by omega
  walk_at "dx"
  refine Sat.at (List.getElem?_eq_getElem hk) ?_
  walk_at "dx"
  exact ⟨_, _, _, rfl, List.getElem_mem hk, hb'⟩
/-! ### gcd and fractions -/
theorem gcdI_step {a b : Int} (ha : 0 ≤ a) (hb : 0 < b) : gcdI b (a % b) = gcdI a b := by
  unfold gcdI
  have e : (a % b).natAbs = a.natAbs % b.natAbs := by
    obtain ⟨x, rfl⟩ : ∃ x : Nat, a = x := ⟨a.toNat, by omega⟩
    obtain ⟨y, rfl⟩ : ∃ y : Nat, b = y := ⟨b.toNat, by omega⟩
    rw [← Int.natCast_emod]; rfl
  rw [e, Nat.gcd_comm a.natAbs b.natAbs, Nat.gcd_rec b.natAbs a.natAbs, Nat.gcd_comm]
theorem gcdI_zero {a : Int} (ha : 0 ≤ a) : gcdI a 0 = a := by
  unfold gcdI
  rw [show (0 : Int).natAbs = 0 from rfl, Nat.gcd_zero_right]; omega
def absI (a : Int) : Int := if a < 0 then -a else a
theorem absI_nn (a : Int) : 0 ≤ absI a := by unfold absI; split <;> omega
theorem absI_nat (a : Int) : (absI a).natAbs = a.natAbs := by unfold absI; split <;> omega
theorem gcdI_abs (a b : Int) : gcdI (absI a) (absI b) = gcdI a b := by unfold gcdI; rw [absI_nat, absI_nat]
theorem e_gcd {a b : Int} (hs : b.natAbs < 2 ^ 4000) : mr__law_gcd [.sh (.int a), .sh (.int b)] = some (.sh (.int (gcdI a b))) := by
  refine eq_of_sat ?_
  unfold mr__law_gcd ev__law_gcd
  walk_at "dx"
  refine Sat.while (fun n os => ∃ x y : Int, 0 ≤ x ∧ 0 ≤ y ∧ gcdI x y = gcdI a b ∧ n = y.toNat ∧ os = [some (.sh (.int x)), some (.sh (.int y))]) (absI b).toNat (fuel_of (by rw [show (absI b).toNat = b.natAbs by have := absI_nn b; have := absI_nat b; omega]; exact hs)) ⟨_, _, absI_nn a, absI_nn b, gcdI_abs a b, rfl, rfl⟩ fun n os ⟨x, y, hx, hy, hg, hn, e⟩ => ?_
  subst e
  subst hn
  walk_at "dx"
  refine ⟨fun h => ?_, fun h => ?_⟩
  · have : y = 0 := by omega
    subst this
    rw [gcdI_zero hx] at hg
    subst hg
    walk_at "dx"
  · obtain ⟨m1, m2⟩ := emod_lt (a := x) h
    exact ⟨h, _, by omega, _, _, hy, m1, (gcdI_step hx h).trans hg, rfl, rfl⟩
/-- the divisor with the sign of what stands below -/
def sg (a b : Int) : Int := cond (decide (b < 0)) (-gcdI a b) (gcdI a b)
def mk (a b : Int) : Int × Int := (divV a (sg a b), divV b (sg a b))
def frD (a : Int × Int) : PyData := .tuple [.int a.1, .int a.2]
theorem gcdI_pos {a b : Int} (h : b ≠ 0) : 0 < gcdI a b := by
  unfold gcdI
  have := Nat.gcd_pos_of_pos_right a.natAbs (show 0 < b.natAbs by omega)
  omega
theorem gcdI_le {a b : Int} (h : b ≠ 0) : (gcdI a b).natAbs ≤ b.natAbs := by
  unfold gcdI
  exact Nat.gcd_le_right _ (by omega)
theorem sg_ne {a b : Int} (h : b ≠ 0) : sg a b ≠ 0 := by
  have := gcdI_pos (a := a) h
  unfold sg; cases decide (b < 0) <;> simp only [cond_true, cond_false] <;> omega
theorem sg_le {a b : Int} (h : b ≠ 0) : (sg a b).natAbs ≤ b.natAbs := by
  have := gcdI_le (a := a) h
  unfold sg; cases decide (b < 0) <;> simp only [cond_true, cond_false] <;> omega
theorem e_made {a b : Int} (h : b ≠ 0) (hb : b.natAbs < 2 ^ 4000) : mr__law_made [.sh (.int a), .sh (.int b)] = some (.sh (frD (mk a b))) := by
  refine eq_of_sat ?_
  unfold mr__law_made ev__law_made
  walk_at "dx"
  rw [e_gcd hb]
  walk_at "dx"
  have f : ∀ x, divFits x (sg a b) = true := fun x => divFits_of (sg_ne h) (Nat.lt_of_le_of_lt (sg_le h) hb)
  exact ⟨f _, f _, rfl⟩
theorem e_fraction {a b : Int} (h : b ≠ 0) (hb : b.natAbs < 2 ^ 4000) : mr_fraction [.sh (.int a), .sh (.int b)] = some (.sh (frD (mk a b))) := by
  refine inL_eq (inL_mx ?_ ?_)
  · unfold xv_fraction
    have e : decide (b = 0) = false := decide_eq_false h
    walk_at "dxs"
  · refine eq_of_sat ?_
    unfold ev_fraction
    walk_at "dx"
    have f : ∀ x, divFits x (sg a b) = true := fun x => divFits_of (sg_ne h) (Nat.lt_of_le_of_lt (sg_le h) hb)
    exact ⟨h, f _, f _, rfl⟩
theorem x_fraction0 {a : Int} : mx_fraction [.sh (.int a), .sh (.int 0)] = some (.inr 2) := by
  refine inR_mx (os' := [some (.sh (.int a)), some (.sh (.int 0)), none]) ?_
  unfold xv_fraction
  walk_at "dx"
/-! ### sizes -/
def Sm (x : Int) : Prop := x.natAbs < 2 ^ 900
theorem pw {a b : Nat} (h : a ≤ b) : (2 : Nat) ^ a ≤ 2 ^ b := Nat.pow_le_pow_right (by decide) h
theorem nat_add {a b : Int} {k : Nat} (ha : a.natAbs < 2 ^ k) (hb : b.natAbs < 2 ^ k) : (a + b).natAbs < 2 ^ (k + 1) := by
  rw [Nat.pow_succ]; omega
theorem nat_sub {a b : Int} {k : Nat} (ha : a.natAbs < 2 ^ k) (hb : b.natAbs < 2 ^ k) : (a - b).natAbs < 2 ^ (k + 1) := by
  rw [Nat.pow_succ]; omega
theorem Sm.fit {a b : Int} (ha : Sm a) (hb : Sm b) : mulFits a b = true := mulFits_of (Nat.lt_of_lt_of_le ha (pw (by decide))) (Nat.lt_of_lt_of_le hb (pw (by decide)))
theorem Sm.mul {a b : Int} (ha : Sm a) (hb : Sm b) : (a * b).natAbs < 2 ^ 1800 := wide_lt ha hb
theorem lt4 {x : Int} {k : Nat} (h : x.natAbs < 2 ^ k) (hk : k ≤ 4000) : x.natAbs < 2 ^ 4000 := Nat.lt_of_lt_of_le h (pw hk)
theorem mul_ne {a b : Int} (ha : a ≠ 0) (hb : b ≠ 0) : a * b ≠ 0 := Int.mul_ne_zero ha hb
theorem mk_one (a : Int) : mk a 1 = (a, 1) := by
  have g : gcdI a 1 = 1 := by unfold gcdI; rw [show (1 : Int).natAbs = 1 from rfl, Nat.gcd_one_right]; rfl
  have s : sg a 1 = 1 := by unfold sg; rw [g]; rfl
  unfold mk
  rw [s, divV_pos (by decide), divV_pos (by decide), Int.ediv_one, Int.ediv_one]
theorem e_plus {a b c d : Int} (hb : b ≠ 0) (hd : d ≠ 0) (s1 : Sm a) (s2 : Sm b) (s3 : Sm c) (s4 : Sm d) : mr_plus [.sh (.tuple [.int a, .int b]), .sh (.tuple [.int c, .int d])] = some (.sh (frD (mk (a * d + c * b) (b * d)))) := by
  refine eq_of_sat ?_
  unfold mr_plus ev_plus
  walk_at "dx"
  refine Sat.split (fun h => ?_) fun h => ?_
  · simp only [Bool.and_eq_true, decide_eq_true_eq] at h
    obtain ⟨rfl, rfl⟩ := h
    walk_at "dx"
    rw [show a * 1 + c * 1 = a + c by omega, mk_one]; rfl
  · walk_at "dx"
    rw [e_fraction (mul_ne hb hd) (lt4 (s2.mul s4) (by decide))]
    walk_at "dx"
    exact ⟨s1.fit s4, s3.fit s2, s2.fit s4⟩
theorem e_opposite {a b : Int} : mr_opposite [.sh (.tuple [.int a, .int b])] = some (.sh (frD (-a, b))) := by
  refine eq_of_sat ?_
  unfold mr_opposite ev_opposite
  walk_at "dx"
  rfl
theorem e_minus {a b c d : Int} (hb : b ≠ 0) (hd : d ≠ 0) (s1 : Sm a) (s2 : Sm b) (s3 : Sm c) (s4 : Sm d) : mr_minus [.sh (.tuple [.int a, .int b]), .sh (.tuple [.int c, .int d])] = some (.sh (frD (mk (a * d - c * b) (b * d)))) := by
  refine eq_of_sat ?_
  unfold mr_minus ev_minus
  walk_at "dx"
  rw [e_opposite]
  unfold frD
  walk_at "dx"
  rw [e_plus hb hd s1 s2 (by unfold Sm; rw [Int.natAbs_neg]; exact s3) s4]
  unfold frD
  walk_at "dx"
  rw [Int.neg_mul, ← Int.sub_eq_add_neg]
theorem e_times {a b c d : Int} (hb : b ≠ 0) (hd : d ≠ 0) (s1 : Sm a) (s2 : Sm b) (s3 : Sm c) (s4 : Sm d) : mr_times [.sh (.tuple [.int a, .int b]), .sh (.tuple [.int c, .int d])] = some (.sh (frD (mk (a * c) (b * d)))) := by
  refine eq_of_sat ?_
  unfold mr_times ev_times
  walk_at "dx"
  rw [e_fraction (mul_ne hb hd) (lt4 (s2.mul s4) (by decide))]
  walk_at "dx"
  exact ⟨s1.fit s3, s2.fit s4⟩
theorem e_over {a b c d : Int} (hb : b ≠ 0) (hc : c ≠ 0) (s1 : Sm a) (s2 : Sm b) (s3 : Sm c) (s4 : Sm d) : mr_over [.sh (.tuple [.int a, .int b]), .sh (.tuple [.int c, .int d])] = some (.sh (frD (mk (a * d) (b * c)))) := by
  have e := e_fraction (a := a * d) (mul_ne hb hc) (lt4 (s2.mul s3) (by decide))
  refine inL_eq (inL_mx ?_ ?_)
  · unfold xv_over
    have e2 := inL_some e
    have f1 := s1.fit s4
    have f2 := s2.fit s3
    clear hb hc s1 s2 s3 s4 e
    walk_at "dxs"
  · refine eq_of_sat ?_
    unfold ev_over
    walk_at "dx"
    have e' : inL mx_fraction [.sh (.int (a * d)), .sh (.int (b * c))] = _ := e
    first
      | rw [e]
      | rw [e']
    walk_at "dx"
    exact ⟨s1.fit s4, s2.fit s3⟩
theorem x_over0 {a b d : Int} (s1 : Sm a) (s2 : Sm b) (s4 : Sm d) : mx_over [.sh (.tuple [.int a, .int b]), .sh (.tuple [.int 0, .int d])] = some (.inr 2) := by
  refine inR_mx (os' := [some (.sh (.tuple [.int a, .int b])), some (.sh (.tuple [.int 0, .int d]))]) ?_
  unfold xv_over
  have f1 := s1.fit s4
  have f2 : mulFits b 0 = true := s2.fit (show Sm 0 by unfold Sm; exact Nat.two_pow_pos _)
  have f3 : b * 0 = 0 := Int.mul_zero b
  have e := x_fraction0 (a := a * d)
  clear s1 s2 s4
  walk_at "dxs"
end K10
set_option exponentiation.threshold 5000
namespace K10
open PySem PySem.Spec PyProof.Rows L2 DX
-- DXSIMP begin
local macro_rules | `(tactic| walk_at "dx") => `(tactic| simp only [b_escs, b_rdTms, b_hardTms, b_softTms, b_esCons, b_opV, b_opL, b_opT, b_eOp, b_rdNil, b_rdCons, b_rdT, b_rdA, b_erS, b_erL, b_eVar, b_eC, b_esNil, b_tTru, b_tBl, b_tAnd, b_tOr, b_tNot, b_eAnd, b_eOr, b_eNot, b_eIf, b_eTup, b_eLst, b_eTupO, b_eOpL, k_scOS, b_mvNil, b_mvCons, b_sAppTp, b_erTp, g_hardTp, g_softTp, g_giveTp, k_tpl, k_shTp, b_oSome, b_oNone, b_eSl, b_eMt, b_fn0, b_fnP, b_sRet, b_sAsg, b_gvName, b_gvNil, b_gvCons, b_gvTup, b_gvSub, b_sAsgG, b_sApp, b_sPar, b_sPar3, b_sAppIx, b_sAugI, b_cvsNil, b_cvsCons, b_bindCond, b_condFst, b_condSnd, b_giveT, b_sFor, b_iSq, b_iR1, b_iEnA, wipeE, cYes, at_zero, k_bool, k_int, k_str, k_tup, k_lst, k_list, k_itL, k_itT, k_itSS, k_trN, k_trB, k_trI, k_trSS, k_trL, k_trT, k_scN, k_scB, k_scI, k_scS, k_scL, k_scT, k_shS, k_shL, k_softT, k_hardT, k_cvT, k_softNil, k_softCons, k_hardNil, k_hardCons, g_hard, g_soft, g_cv, g_give, g_hardS, g_hardL, g_softS, g_softL, g_cvS, g_giveS, g_giveL, g_allSh, g_erSh, List.all_cons, List.all_nil, k_retR, k_retN, k_alA, k_hd, k_two, k_three, k_sh, k_odT, k_enS, k_enL, o_addI, o_addS, o_addL, o_sub, o_neg, o_ltI, o_leI, o_gtI, o_geI, o_lenS, o_lenL, o_lenT, o_abs, o_max, o_int, o_ixL, o_ixT, o_ixSS, o_slS, o_slL, o_in1S, o_ni1S, o_eqS, o_neS, o_eqI, o_neI, o_mul, o_div, o_mod, o_pow, o_divmod, z_ble0, z_ble1, z_ble2, z_ble3, z_ble4, z_ble5, z_ble6, z_ble7, z_ble8, z_ble9, z_ble10, z_ble13, z_ble17, S_l, S_len, S_app, es1, es2, startE, sNext, pk, DX.inR, Nat.beq, Nat.ble, List.any_cons, List.any_nil, List.filterMap_cons, List.filterMap_nil, Option.bind_some, Option.bind_none, cond_true, cond_false, decide_true, decide_false, List.map_cons, List.map_nil, List.length_cons, List.length_nil, List.length_map, List.length_set, List.getElem?_cons_zero, List.getElem?_cons_succ, List.cons_append, List.nil_append, List.set_cons_zero, List.set_cons_succ, List.replicate, Nat.reduceAdd, Nat.reduceSub, Nat.zero_add, Int.toNat_natCast, Bool.not_true, Bool.not_false, Bool.or_self, Bool.or_false, Bool.false_or, Bool.and_self, Bool.and_true, Bool.true_and, Bool.and_false, Bool.false_and, Bool.true_or, Bool.or_true, z_some, z_none, z_bind, z_then, z_map, z_mapK, b_eLc, lcStep, forStep, at_0, at_1, at_2, at_3, at_4, at_5, at_m1, ix_0, ix_1, ix_m1, blt_00, blt_0s, blt_12, blt_02, z_ifK, z_guard, z_guardN, z_seqN, z_seqR, z_seqB, z_seqC, z_sSeq, z_sIf, z_forN, z_forC, z_forB, z_forR, r_P1, r_P2, k_condSomeP, k_condNx, k_condEn, k_condSl, k_condPair, k_condTm, k_condSh, k_condI, k_condB, k_condAnd, k_condOr, k_condNot, o_gcd, k_condAndL, k_condOrL, b_jNil, b_jCons, b_eJoin, t_str, str_len, str_empty, Int.cast_ofNat_Int, Int.reduceEq, Int.reduceLT, Int.reduceLE, Int.reduceNeg, Int.reduceAdd, Int.reduceSub, Int.reduceMul, Int.reduceToNat, Int.reducePow, Nat.reduceLT, Nat.reduceLeDiff, Nat.reduceEqDiff, Nat.reduceMul, k_condSelf, x_no, x_raise, x_seqNo, b_xIf, x_inr, x_inl, b_xFn, o_neSelf, o_eqSelf, i_boolN, i_boolB, i_boolI, i_boolS, i_boolL, i_boolT, i_intN, i_intB, i_intI, i_intS, i_intL, i_intT, i_strN, i_strB, i_strI, i_strS, i_strL, i_strT, i_listN, i_listB, i_listI, i_listS, i_listL, i_listT, i_tupleN, i_tupleB, i_tupleI, i_tupleS, i_tupleL, i_tupleT, at_nat, decide_eq_true_eq, decide_eq_false_iff_not, Nat.ble_eq, and_true, true_and, Option.map_some, Option.isSome_some])
local macro_rules | `(tactic| walk_at "dxs") => `(tactic| simp only [b_escs, b_rdTms, b_hardTms, b_softTms, b_esCons, b_opV, b_opL, b_opT, b_eOp, b_rdNil, b_rdCons, b_rdT, b_rdA, b_erS, b_erL, b_eVar, b_eC, b_esNil, b_tTru, b_tBl, b_tAnd, b_tOr, b_tNot, b_eAnd, b_eOr, b_eNot, b_eIf, b_eTup, b_eLst, b_eTupO, b_eOpL, k_scOS, b_mvNil, b_mvCons, b_sAppTp, b_erTp, g_hardTp, g_softTp, g_giveTp, k_tpl, k_shTp, b_oSome, b_oNone, b_eSl, b_eMt, b_fn0, b_fnP, b_sRet, b_sAsg, b_gvName, b_gvNil, b_gvCons, b_gvTup, b_gvSub, b_sAsgG, b_sApp, b_sPar, b_sPar3, b_sAppIx, b_sAugI, b_cvsNil, b_cvsCons, b_bindCond, b_condFst, b_condSnd, b_giveT, b_sFor, b_iSq, b_iR1, b_iEnA, wipeE, cYes, at_zero, k_bool, k_int, k_str, k_tup, k_lst, k_list, k_itL, k_itT, k_itSS, k_trN, k_trB, k_trI, k_trSS, k_trL, k_trT, k_scN, k_scB, k_scI, k_scS, k_scL, k_scT, k_shS, k_shL, k_softT, k_hardT, k_cvT, k_softNil, k_softCons, k_hardNil, k_hardCons, g_hard, g_soft, g_cv, g_give, g_hardS, g_hardL, g_softS, g_softL, g_cvS, g_giveS, g_giveL, g_allSh, g_erSh, List.all_cons, List.all_nil, k_retR, k_retN, k_alA, k_hd, k_two, k_three, k_sh, k_odT, k_enS, k_enL, o_addI, o_addS, o_addL, o_sub, o_neg, o_ltI, o_leI, o_gtI, o_geI, o_lenS, o_lenL, o_lenT, o_abs, o_max, o_int, o_ixL, o_ixT, o_ixSS, o_slS, o_slL, o_in1S, o_ni1S, o_eqS, o_neS, o_eqI, o_neI, o_mul, o_div, o_mod, o_pow, o_divmod, z_ble0, z_ble1, z_ble2, z_ble3, z_ble4, z_ble5, z_ble6, z_ble7, z_ble8, z_ble9, z_ble10, z_ble13, z_ble17, S_l, S_len, S_app, es1, es2, startE, sNext, pk, DX.inR, Nat.beq, Nat.ble, List.any_cons, List.any_nil, List.filterMap_cons, List.filterMap_nil, Option.bind_some, Option.bind_none, cond_true, cond_false, decide_true, decide_false, List.map_cons, List.map_nil, List.length_cons, List.length_nil, List.length_map, List.length_set, List.getElem?_cons_zero, List.getElem?_cons_succ, List.cons_append, List.nil_append, List.set_cons_zero, List.set_cons_succ, List.replicate, Nat.reduceAdd, Nat.reduceSub, Nat.zero_add, Int.toNat_natCast, Bool.not_true, Bool.not_false, Bool.or_self, Bool.or_false, Bool.false_or, Bool.and_self, Bool.and_true, Bool.true_and, Bool.and_false, Bool.false_and, Bool.true_or, Bool.or_true, z_some, z_none, z_bind, z_then, z_map, z_mapK, b_eLc, lcStep, forStep, at_0, at_1, at_2, at_3, at_4, at_5, at_m1, ix_0, ix_1, ix_m1, blt_00, blt_0s, blt_12, blt_02, z_ifK, z_guard, z_guardN, z_seqN, z_seqR, z_seqB, z_seqC, z_sSeq, z_sIf, z_forN, z_forC, z_forB, z_forR, r_P1, r_P2, k_condSomeP, k_condNx, k_condEn, k_condSl, k_condPair, k_condTm, k_condSh, k_condI, k_condB, k_condAnd, k_condOr, k_condNot, o_gcd, k_condAndL, k_condOrL, b_jNil, b_jCons, b_eJoin, t_str, str_len, str_empty, Int.cast_ofNat_Int, Int.reduceEq, Int.reduceLT, Int.reduceLE, Int.reduceNeg, Int.reduceAdd, Int.reduceSub, Int.reduceMul, Int.reduceToNat, Int.reducePow, Nat.reduceLT, Nat.reduceLeDiff, Nat.reduceEqDiff, Nat.reduceMul, k_condSelf, x_no, x_raise, x_seqNo, b_xIf, x_inr, x_inl, b_xFn, o_neSelf, o_eqSelf, i_boolN, i_boolB, i_boolI, i_boolS, i_boolL, i_boolT, i_intN, i_intB, i_intI, i_intS, i_intL, i_intT, i_strN, i_strB, i_strI, i_strS, i_strL, i_strT, i_listN, i_listB, i_listI, i_listS, i_listL, i_listT, i_tupleN, i_tupleB, i_tupleI, i_tupleS, i_tupleL, i_tupleT, at_nat, decide_eq_true_eq, decide_eq_false_iff_not, Nat.ble_eq, and_true, true_and, Option.map_some, Option.isSome_some, *])
-- DXSIMP end
def isI : PyData → Bool
  | .int _ => true
  | _ => false
def geI : PyData → Bool
  | .int i => decide (0 ≤ i)
  | _ => false
def isFr : PyData → Bool
  | .tuple [.int a, .int b] => decide (0 < b) && decide (gcdI a b = 1)
  | _ => false
theorem isFr_int {a b : Int} : isFr (.tuple [.int a, .int b]) = (decide (0 < b) && decide (gcdI a b = 1)) := rfl
theorem e_is_integer {d : PyData} (nd : d.hasDict = false) : mr_is_integer [.sh d] = some (.sh (.bool (isI d))) := by
  refine eq_of_sat ?_
  unfold mr_is_integer ev_is_integer
  cases d with
  | dict kv => rw [PyData.hasDict] at nd; cases nd
  | _ => walk_at "dx"; rfl
theorem e_is_whole {d : PyData} (nd : d.hasDict = false) : mr__law_is_whole [.sh d] = some (.sh (.bool (isI d))) := by
  refine eq_of_sat ?_
  unfold mr__law_is_whole ev__law_is_whole
  cases d with
  | dict kv => rw [PyData.hasDict] at nd; cases nd
  | _ => walk_at "dx"; rfl
theorem e_is_count {d : PyData} (nd : d.hasDict = false) : mr_is_count [.sh d] = some (.sh (.bool (geI d))) := by
  refine eq_of_sat ?_
  have e := e_is_integer nd
  unfold mr_is_count ev_is_count
  cases d with
  | dict kv => rw [PyData.hasDict] at nd; cases nd
  | int i => unfold isI at e; clear nd; walk_at "dxs"; rfl
  | _ => unfold isI at e; clear nd; walk_at "dxs"; rfl
theorem e_is_fraction {d : PyData} (nd : d.hasDict = false) : mr_is_fraction [.sh d] = some (.sh (.bool (isFr d))) := by
  refine eq_of_sat ?_
  unfold mr_is_fraction ev_is_fraction
  cases d with
  | dict kv => rw [PyData.hasDict] at nd; cases nd
  | tuple ds =>
    by_cases hl : ds.length = 2
    · obtain ⟨x, y, rfl⟩ : ∃ x y, ds = [x, y] := by
        match ds, hl with
        | [x, y], _ => exact ⟨x, y, rfl⟩
      rw [PyData.hasDict, PyData.hasDictAll, PyData.hasDictAll, PyData.hasDictAll, Bool.or_false, Bool.or_eq_false_iff] at nd
      have e1 := e_is_integer nd.1
      have e2 := e_is_integer nd.2
      clear nd hl
      cases x with
      | int a =>
        cases y with
        | int b =>
          have z1 : isI (.int a) = true := rfl
          have z2 : isI (.int b) = true := rfl
          rw [z1] at e1
          rw [z2] at e2
          rw [isFr_int]
          walk_at "dxs"
          refine Sat.splitD (fun h => ?_) fun h => ?_
          · have z : decide (0 < b) = false := decide_eq_false (by omega)
            walk_at "dxs"
          · have z : decide (0 < b) = true := decide_eq_true (by omega)
            walk_at "dxs"
        | _ => unfold isI at e1 e2; walk_at "dxs"; rfl
      | _ => unfold isI at e1 e2; walk_at "dxs"; rfl
    · have hx : isFr (.tuple ds) = false := by
        unfold isFr
        split
        · rename_i q; cases q; exact absurd rfl hl
        · rfl
      have e : decide ((ds.length : Int) = 2) = false := decide_eq_false (by omega)
      clear nd hl
      walk_at "dxs"
  | _ => walk_at "dx"; rfl
theorem e_fits {d : PyData} (nd : d.hasDict = false) (hs : ∀ a b, d = .tuple [.int a, .int b] → b.natAbs < 2 ^ 4000) : mr__law_fits [.sh d] = some (.sh (.bool (isFr d))) := by
  refine eq_of_sat ?_
  unfold mr__law_fits ev__law_fits
  cases d with
  | dict kv => rw [PyData.hasDict] at nd; cases nd
  | tuple ds =>
    by_cases hl : ds.length = 2
    · obtain ⟨x, y, rfl⟩ : ∃ x y, ds = [x, y] := by
        match ds, hl with
        | [x, y], _ => exact ⟨x, y, rfl⟩
      rw [PyData.hasDict, PyData.hasDictAll, PyData.hasDictAll, PyData.hasDictAll, Bool.or_false, Bool.or_eq_false_iff] at nd
      have e1 := e_is_whole nd.1
      have e2 := e_is_whole nd.2
      clear nd hl
      cases x with
      | int a =>
        cases y with
        | int b =>
          have z1 : isI (.int a) = true := rfl
          have z2 : isI (.int b) = true := rfl
          rw [z1] at e1
          rw [z2] at e2
          rw [isFr_int]
          have e3 := e_gcd (a := a) (hs a b rfl)
          clear hs
          walk_at "dxs"
      
        | _ => unfold isI at e1 e2; clear hs; walk_at "dxs"; rfl
      | _ => unfold isI at e1 e2; clear hs; walk_at "dxs"; rfl
    · have hx : isFr (.tuple ds) = false := by
        unfold isFr
        split
        · rename_i q; cases q; exact absurd rfl hl
        · rfl
      have e : decide ((ds.length : Int) = 2) = false := decide_eq_false (by omega)
      clear nd hl hs
      walk_at "dxs"
  | _ => walk_at "dx"; rfl
theorem e_whole {a : Int} : mr_whole [.sh (.int a)] = some (.sh (frD (a, 1))) := by
  refine eq_of_sat ?_
  unfold mr_whole ev_whole
  walk_at "dx"
  rfl
def sgn (a : Int) : Int := cond (decide (a = 0)) 0 (cond (decide (0 < a)) 1 (-1))
theorem e_sign {a b : Int} : mr_sign_of [.sh (.tuple [.int a, .int b])] = some (.sh (.int (sgn a))) := by
  refine eq_of_sat ?_
  unfold mr_sign_of ev_sign_of
  walk_at "dx"
  refine Sat.split (fun h => ?_) fun h => ?_
  · unfold sgn; walk_at "dxs"
  · unfold sgn; walk_at "dxs"
theorem e_lsign {a : Int} : mr__law_sign [.sh (.int a)] = some (.sh (.int (sgn a))) := by
  refine eq_of_sat ?_
  unfold mr__law_sign ev__law_sign
  walk_at "dx"
  rfl
theorem e_compare {a b c d : Int} (s1 : Sm a) (s2 : Sm b) (s3 : Sm c) (s4 : Sm d) : mr_compare [.sh (.tuple [.int a, .int b]), .sh (.tuple [.int c, .int d])] = some (.sh (.int (sgn (a * d - c * b)))) := by
  refine eq_of_sat ?_
  unfold mr_compare ev_compare
  walk_at "dx"
  refine ⟨s1.fit s4, s3.fit s2, ?_⟩
  refine Sat.splitD (fun h => ?_) fun h => ?_
  · unfold sgn
    rw [show decide (a * d - c * b = 0) = true from decide_eq_true (by omega)]
    walk_at "dx"
  · unfold sgn
    rw [show decide (a * d - c * b = 0) = false from decide_eq_false (by omega), show decide (0 < a * d - c * b) = decide (c * b < a * d) from decide_eq_decide.mpr ⟨fun h => by omega, fun h => by omega⟩]
    walk_at "dx"
theorem e_less {a b c d : Int} (s1 : Sm a) (s2 : Sm b) (s3 : Sm c) (s4 : Sm d) : mr__law_less [.sh (.tuple [.int a, .int b]), .sh (.tuple [.int c, .int d])] = some (.sh (.int (sgn (a * d - c * b)))) := by
  refine eq_of_sat ?_
  unfold mr__law_less ev__law_less
  walk_at "dx"
  rw [e_lsign]
  walk_at "dx"
  exact ⟨s1.fit s4, s3.fit s2⟩
theorem Sm.div {a b : Int} (h : b ≠ 0) (hb : Sm b) : divFits a b = true := divFits_of h (Nat.lt_of_lt_of_le hb (pw (by decide)))
theorem e_floor {a b : Int} (h : b ≠ 0) (hb : Sm b) : mr_floor_of [.sh (.tuple [.int a, .int b])] = some (.sh (.int (divV a b))) := by
  refine eq_of_sat ?_
  unfold mr_floor_of ev_floor_of
  walk_at "dx"
  exact hb.div h
theorem e_ceil {a b : Int} (h : b ≠ 0) (hb : Sm b) : mr_ceiling_of [.sh (.tuple [.int a, .int b])] = some (.sh (.int (-divV (-a) b))) := by
  refine eq_of_sat ?_
  unfold mr_ceiling_of ev_ceiling_of
  walk_at "dx"
  exact hb.div h
def txtF (a b : Int) : Str := cond (decide (b = 1)) (strI a) (strI a ++ Str.ofString "/" ++ strI b)
theorem sz (x : Nat) (h : x ≤ 1000000) : x ≤ strMax := Nat.le_trans h (by decide)
theorem slash_len : (Str.ofString "/").length = 1 := by decide +kernel
theorem e_ltext {a b : Int} (ha : a.natAbs < 2 ^ 400) (hb : b.natAbs < 2 ^ 400) : mr__law_text [.sh (.tuple [.int a, .int b])] = some (.sh (.str (txtF a b))) := by
  refine eq_of_sat ?_
  unfold mr__law_text ev__law_text
  have e1 := o_str ha
  have e2 := o_str hb
  have l1 := strI_len ha
  have l2 := strI_len hb
  have l3 := slash_len
  walk_at "dx"
  refine Sat.split (fun h => ?_) fun h => ?_
  · clear ha hb l1 l2 l3
    unfold txtF
    walk_at "dxs"
  · clear ha hb
    unfold txtF
    rw [e1]
    walk_at "dx"
    rw [e2]
    walk_at "dx"
    refine ⟨sz _ (by omega), sz _ (by omega), ?_⟩
    rw [h]; rfl
theorem e_text {a b : Int} (ha : a.natAbs < 2 ^ 400) (hb : b.natAbs < 2 ^ 400) : mr_worth_text [.sh (.tuple [.int a, .int b])] = some (.sh (.str (txtF a b))) := by
  refine eq_of_sat ?_
  unfold mr_worth_text ev_worth_text
  have e1 := o_str ha
  have e2 := t_int ha
  have e3 := t_int hb
  have l1 := strI_len ha
  have l2 := strI_len hb
  have l3 := slash_len
  walk_at "dx"
  refine Sat.split (fun h => ?_) fun h => ?_
  · clear ha hb l1 l2 l3 e2 e3
    unfold txtF
    walk_at "dxs"
  · clear ha hb e1
    unfold txtF
    walk_at "dx"
    rw [e2]
    walk_at "dx"
    rw [e3]
    walk_at "dx"
    refine ⟨sz _ (by omega), sz _ (by omega), sz _ (by omega), sz _ (by omega), ?_⟩
    rw [h]; rfl
end K10
set_option exponentiation.threshold 5000
namespace K10
open PySem PySem.Spec PyProof.Rows L2 DX
-- DXSIMP begin
local macro_rules | `(tactic| walk_at "dx") => `(tactic| simp only [b_escs, b_rdTms, b_hardTms, b_softTms, b_esCons, b_opV, b_opL, b_opT, b_eOp, b_rdNil, b_rdCons, b_rdT, b_rdA, b_erS, b_erL, b_eVar, b_eC, b_esNil, b_tTru, b_tBl, b_tAnd, b_tOr, b_tNot, b_eAnd, b_eOr, b_eNot, b_eIf, b_eTup, b_eLst, b_eTupO, b_eOpL, k_scOS, b_mvNil, b_mvCons, b_sAppTp, b_erTp, g_hardTp, g_softTp, g_giveTp, k_tpl, k_shTp, b_oSome, b_oNone, b_eSl, b_eMt, b_fn0, b_fnP, b_sRet, b_sAsg, b_gvName, b_gvNil, b_gvCons, b_gvTup, b_gvSub, b_sAsgG, b_sApp, b_sPar, b_sPar3, b_sAppIx, b_sAugI, b_cvsNil, b_cvsCons, b_bindCond, b_condFst, b_condSnd, b_giveT, b_sFor, b_iSq, b_iR1, b_iEnA, wipeE, cYes, at_zero, k_bool, k_int, k_str, k_tup, k_lst, k_list, k_itL, k_itT, k_itSS, k_trN, k_trB, k_trI, k_trSS, k_trL, k_trT, k_scN, k_scB, k_scI, k_scS, k_scL, k_scT, k_shS, k_shL, k_softT, k_hardT, k_cvT, k_softNil, k_softCons, k_hardNil, k_hardCons, g_hard, g_soft, g_cv, g_give, g_hardS, g_hardL, g_softS, g_softL, g_cvS, g_giveS, g_giveL, g_allSh, g_erSh, List.all_cons, List.all_nil, k_retR, k_retN, k_alA, k_hd, k_two, k_three, k_sh, k_odT, k_enS, k_enL, o_addI, o_addS, o_addL, o_sub, o_neg, o_ltI, o_leI, o_gtI, o_geI, o_lenS, o_lenL, o_lenT, o_abs, o_max, o_int, o_ixL, o_ixT, o_ixSS, o_slS, o_slL, o_in1S, o_ni1S, o_eqS, o_neS, o_eqI, o_neI, o_mul, o_div, o_mod, o_pow, o_divmod, z_ble0, z_ble1, z_ble2, z_ble3, z_ble4, z_ble5, z_ble6, z_ble7, z_ble8, z_ble9, z_ble10, z_ble13, z_ble17, S_l, S_len, S_app, es1, es2, startE, sNext, pk, DX.inR, Nat.beq, Nat.ble, List.any_cons, List.any_nil, List.filterMap_cons, List.filterMap_nil, Option.bind_some, Option.bind_none, cond_true, cond_false, decide_true, decide_false, List.map_cons, List.map_nil, List.length_cons, List.length_nil, List.length_map, List.length_set, List.getElem?_cons_zero, List.getElem?_cons_succ, List.cons_append, List.nil_append, List.set_cons_zero, List.set_cons_succ, List.replicate, Nat.reduceAdd, Nat.reduceSub, Nat.zero_add, Int.toNat_natCast, Bool.not_true, Bool.not_false, Bool.or_self, Bool.or_false, Bool.false_or, Bool.and_self, Bool.and_true, Bool.true_and, Bool.and_false, Bool.false_and, Bool.true_or, Bool.or_true, z_some, z_none, z_bind, z_then, z_map, z_mapK, b_eLc, lcStep, forStep, at_0, at_1, at_2, at_3, at_4, at_5, at_m1, ix_0, ix_1, ix_m1, blt_00, blt_0s, blt_12, blt_02, z_ifK, z_guard, z_guardN, z_seqN, z_seqR, z_seqB, z_seqC, z_sSeq, z_sIf, z_forN, z_forC, z_forB, z_forR, r_P1, r_P2, k_condSomeP, k_condNx, k_condEn, k_condSl, k_condPair, k_condTm, k_condSh, k_condI, k_condB, k_condAnd, k_condOr, k_condNot, o_gcd, k_condAndL, k_condOrL, b_jNil, b_jCons, b_eJoin, t_str, str_len, str_empty, Int.cast_ofNat_Int, Int.reduceEq, Int.reduceLT, Int.reduceLE, Int.reduceNeg, Int.reduceAdd, Int.reduceSub, Int.reduceMul, Int.reduceToNat, Int.reducePow, Nat.reduceLT, Nat.reduceLeDiff, Nat.reduceEqDiff, Nat.reduceMul, k_condSelf, x_no, x_raise, x_seqNo, b_xIf, x_inr, x_inl, b_xFn, o_neSelf, o_eqSelf, i_boolN, i_boolB, i_boolI, i_boolS, i_boolL, i_boolT, i_intN, i_intB, i_intI, i_intS, i_intL, i_intT, i_strN, i_strB, i_strI, i_strS, i_strL, i_strT, i_listN, i_listB, i_listI, i_listS, i_listL, i_listT, i_tupleN, i_tupleB, i_tupleI, i_tupleS, i_tupleL, i_tupleT, at_nat, decide_eq_true_eq, decide_eq_false_iff_not, Nat.ble_eq, and_true, true_and, Option.map_some, Option.isSome_some])
local macro_rules | `(tactic| walk_at "dxs") => `(tactic| simp only [b_escs, b_rdTms, b_hardTms, b_softTms, b_esCons, b_opV, b_opL, b_opT, b_eOp, b_rdNil, b_rdCons, b_rdT, b_rdA, b_erS, b_erL, b_eVar, b_eC, b_esNil, b_tTru, b_tBl, b_tAnd, b_tOr, b_tNot, b_eAnd, b_eOr, b_eNot, b_eIf, b_eTup, b_eLst, b_eTupO, b_eOpL, k_scOS, b_mvNil, b_mvCons, b_sAppTp, b_erTp, g_hardTp, g_softTp, g_giveTp, k_tpl, k_shTp, b_oSome, b_oNone, b_eSl, b_eMt, b_fn0, b_fnP, b_sRet, b_sAsg, b_gvName, b_gvNil, b_gvCons, b_gvTup, b_gvSub, b_sAsgG, b_sApp, b_sPar, b_sPar3, b_sAppIx, b_sAugI, b_cvsNil, b_cvsCons, b_bindCond, b_condFst, b_condSnd, b_giveT, b_sFor, b_iSq, b_iR1, b_iEnA, wipeE, cYes, at_zero, k_bool, k_int, k_str, k_tup, k_lst, k_list, k_itL, k_itT, k_itSS, k_trN, k_trB, k_trI, k_trSS, k_trL, k_trT, k_scN, k_scB, k_scI, k_scS, k_scL, k_scT, k_shS, k_shL, k_softT, k_hardT, k_cvT, k_softNil, k_softCons, k_hardNil, k_hardCons, g_hard, g_soft, g_cv, g_give, g_hardS, g_hardL, g_softS, g_softL, g_cvS, g_giveS, g_giveL, g_allSh, g_erSh, List.all_cons, List.all_nil, k_retR, k_retN, k_alA, k_hd, k_two, k_three, k_sh, k_odT, k_enS, k_enL, o_addI, o_addS, o_addL, o_sub, o_neg, o_ltI, o_leI, o_gtI, o_geI, o_lenS, o_lenL, o_lenT, o_abs, o_max, o_int, o_ixL, o_ixT, o_ixSS, o_slS, o_slL, o_in1S, o_ni1S, o_eqS, o_neS, o_eqI, o_neI, o_mul, o_div, o_mod, o_pow, o_divmod, z_ble0, z_ble1, z_ble2, z_ble3, z_ble4, z_ble5, z_ble6, z_ble7, z_ble8, z_ble9, z_ble10, z_ble13, z_ble17, S_l, S_len, S_app, es1, es2, startE, sNext, pk, DX.inR, Nat.beq, Nat.ble, List.any_cons, List.any_nil, List.filterMap_cons, List.filterMap_nil, Option.bind_some, Option.bind_none, cond_true, cond_false, decide_true, decide_false, List.map_cons, List.map_nil, List.length_cons, List.length_nil, List.length_map, List.length_set, List.getElem?_cons_zero, List.getElem?_cons_succ, List.cons_append, List.nil_append, List.set_cons_zero, List.set_cons_succ, List.replicate, Nat.reduceAdd, Nat.reduceSub, Nat.zero_add, Int.toNat_natCast, Bool.not_true, Bool.not_false, Bool.or_self, Bool.or_false, Bool.false_or, Bool.and_self, Bool.and_true, Bool.true_and, Bool.and_false, Bool.false_and, Bool.true_or, Bool.or_true, z_some, z_none, z_bind, z_then, z_map, z_mapK, b_eLc, lcStep, forStep, at_0, at_1, at_2, at_3, at_4, at_5, at_m1, ix_0, ix_1, ix_m1, blt_00, blt_0s, blt_12, blt_02, z_ifK, z_guard, z_guardN, z_seqN, z_seqR, z_seqB, z_seqC, z_sSeq, z_sIf, z_forN, z_forC, z_forB, z_forR, r_P1, r_P2, k_condSomeP, k_condNx, k_condEn, k_condSl, k_condPair, k_condTm, k_condSh, k_condI, k_condB, k_condAnd, k_condOr, k_condNot, o_gcd, k_condAndL, k_condOrL, b_jNil, b_jCons, b_eJoin, t_str, str_len, str_empty, Int.cast_ofNat_Int, Int.reduceEq, Int.reduceLT, Int.reduceLE, Int.reduceNeg, Int.reduceAdd, Int.reduceSub, Int.reduceMul, Int.reduceToNat, Int.reducePow, Nat.reduceLT, Nat.reduceLeDiff, Nat.reduceEqDiff, Nat.reduceMul, k_condSelf, x_no, x_raise, x_seqNo, b_xIf, x_inr, x_inl, b_xFn, o_neSelf, o_eqSelf, i_boolN, i_boolB, i_boolI, i_boolS, i_boolL, i_boolT, i_intN, i_intB, i_intI, i_intS, i_intL, i_intT, i_strN, i_strB, i_strI, i_strS, i_strL, i_strT, i_listN, i_listB, i_listI, i_listS, i_listL, i_listT, i_tupleN, i_tupleB, i_tupleI, i_tupleS, i_tupleL, i_tupleT, at_nat, decide_eq_true_eq, decide_eq_false_iff_not, Nat.ble_eq, and_true, true_and, Option.map_some, Option.isSome_some, *])
-- DXSIMP end
/-! ### lists of fractions -/
abbrev Fr := Int × Int
theorem fr_d (a : Fr) : PyData.tuple [.int a.1, .int a.2] = frD a := rfl
def frsD (l : List Fr) : PyData := .list (l.map frD)
/-- within m bits, below above nought, in least terms -/
def Ok (m : Nat) (a : Fr) : Prop := a.1.natAbs < 2 ^ m ∧ a.2.natAbs < 2 ^ m ∧ 0 < a.2 ∧ gcdI a.1 a.2 = 1
theorem Ok.mono {m n : Nat} {a : Fr} (h : Ok m a) (l : m ≤ n) : Ok n a := ⟨Nat.lt_of_lt_of_le h.1 (pw l), Nat.lt_of_lt_of_le h.2.1 (pw l), h.2.2⟩
theorem divV_dvd {a s : Int} (hs : s ≠ 0) (h : s ∣ a) : divV a s * s = a := by
  unfold divV
  split
  · exact Int.ediv_mul_cancel h
  · exact Int.fdiv_mul_cancel h
theorem sg_dvd (a b : Int) : sg a b ∣ a ∧ sg a b ∣ b := by
  have h1 : gcdI a b ∣ a := by unfold gcdI; exact Int.ofNat_dvd_left.mpr (Nat.gcd_dvd_left _ _)
  have h2 : gcdI a b ∣ b := by unfold gcdI; exact Int.ofNat_dvd_left.mpr (Nat.gcd_dvd_right _ _)
  unfold sg
  cases decide (b < 0)
  · exact ⟨h1, h2⟩
  · exact ⟨Int.neg_dvd.mpr h1, Int.neg_dvd.mpr h2⟩
theorem mk_mul {a b : Int} (h : b ≠ 0) : (mk a b).1 * sg a b = a ∧ (mk a b).2 * sg a b = b := ⟨divV_dvd (sg_ne h) (sg_dvd a b).1, divV_dvd (sg_ne h) (sg_dvd a b).2⟩
theorem sg_sign {a b : Int} (h : b ≠ 0) : (0 < sg a b ↔ 0 < b) := by
  have := gcdI_pos (a := a) h
  unfold sg
  by_cases q : b < 0
  · rw [decide_eq_true q]; simp only [cond_true]; omega
  · rw [decide_eq_false q]; simp only [cond_false]; omega
theorem natAbs_le_mul {x s y : Int} (hs : s ≠ 0) (h : x * s = y) : x.natAbs ≤ y.natAbs := by
  rw [← h, Int.natAbs_mul]
  exact Nat.le_mul_of_pos_right _ (by omega)
theorem mk_ok {a b : Int} {m : Nat} (h : b ≠ 0) (ha : a.natAbs < 2 ^ m) (hb : b.natAbs < 2 ^ m) : Ok m (mk a b) := by
  obtain ⟨e1, e2⟩ := mk_mul (a := a) h
  have hs := sg_ne (a := a) h
  refine ⟨Nat.lt_of_le_of_lt (natAbs_le_mul hs e1) ha, Nat.lt_of_le_of_lt (natAbs_le_mul hs e2) hb, ?_, ?_⟩
  · have q := sg_sign (a := a) h
    rcases Int.lt_or_gt_of_ne h with hb | hb
    · have : sg a b < 0 := by omega
      rcases Int.lt_or_le 0 (mk a b).2 with z | z
      · exact z
      · have := Int.mul_nonneg_of_nonpos_of_nonpos z (Int.le_of_lt this)
        omega
    · have : 0 < sg a b := q.mpr hb
      rcases Int.lt_or_le 0 (mk a b).2 with z | z
      · exact z
      · have := Int.mul_nonpos_of_nonpos_of_nonneg z (Int.le_of_lt this)
        omega
  · have g : (sg a b).natAbs = Nat.gcd a.natAbs b.natAbs := by
      unfold sg gcdI
      cases decide (b < 0) <;> simp only [cond_true, cond_false] <;> omega
    have h1 : a.natAbs = (mk a b).1.natAbs * (sg a b).natAbs := by rw [← Int.natAbs_mul, e1]
    have h2 : b.natAbs = (mk a b).2.natAbs * (sg a b).natAbs := by rw [← Int.natAbs_mul, e2]
    have h3 : Nat.gcd a.natAbs b.natAbs = Nat.gcd (mk a b).1.natAbs (mk a b).2.natAbs * (sg a b).natAbs := by
      conv => lhs; rw [h1, h2, Nat.gcd_mul_right]
    rw [← g] at h3
    have h4 : 0 < (sg a b).natAbs := by omega
    have h5 : Nat.gcd (mk a b).1.natAbs (mk a b).2.natAbs = 1 := by
      have : 1 * (sg a b).natAbs = Nat.gcd (mk a b).1.natAbs (mk a b).2.natAbs * (sg a b).natAbs := by rw [Nat.one_mul]; exact h3
      exact (Nat.eq_of_mul_eq_mul_right h4 this).symm
    unfold gcdI
    rw [h5]; rfl
/-- the sum so far -/
def addF (a b : Fr) : Fr := mk (a.1 * b.2 + b.1 * a.2) (a.2 * b.2)
def sumF (l : List Fr) : Fr := l.foldl addF (0, 1)
theorem Ok.sm {m : Nat} {a : Fr} (h : Ok m a) (l : m ≤ 900) : Sm a.1 ∧ Sm a.2 := ⟨Nat.lt_of_lt_of_le h.1 (pw l), Nat.lt_of_lt_of_le h.2.1 (pw l)⟩
theorem add_ok {m n : Nat} {a b : Fr} (ha : Ok m a) (hb : Ok n b) : Ok (m + n + 1) (addF a b) := by
  have h1 := wide_lt ha.1 hb.2.1
  have h2 := wide_lt hb.1 ha.2.1
  have h3 := wide_lt ha.2.1 hb.2.1
  rw [Nat.add_comm n m] at h2
  refine mk_ok (mul_ne (by have := ha.2.2.1; omega) (by have := hb.2.2.1; omega)) (nat_add h1 h2) ?_
  rw [Nat.pow_succ]; omega
/-- a list that may be summed -/
def OkL (l : List Fr) : Prop := ∃ m, (∀ x ∈ l, Ok m x) ∧ l.length * (m + 1) ≤ 310 ∧ m ≤ 60
theorem sum_ok {m : Nat} : ∀ (l : List Fr) (k : Nat) (a : Fr), (∀ x ∈ l, Ok m x) → Ok k a → Ok (k + l.length * (m + 1)) (l.foldl addF a)
  | [], k, a, _, h => by simpa using h
  | x :: l, k, a, hl, h => by
    have := sum_ok l (k + m + 1) (addF a x) (fun y q => hl y (List.mem_cons_of_mem _ q)) (add_ok h (hl x List.mem_cons_self))
    rw [List.foldl_cons]
    refine this.mono ?_
    rw [List.length_cons, Nat.add_mul]; omega
theorem zero_ok : Ok 1 (0, 1) := ⟨by decide, by decide, by decide, by decide⟩
theorem take_sum_ok {l pre post : List Fr} (h : OkL l) (e : l = pre ++ post) : Ok 311 (pre.foldl addF (0, 1)) := by
  obtain ⟨m, h1, h2, _⟩ := h
  refine (sum_ok pre 1 (0, 1) (fun x q => h1 x (by rw [e]; exact List.mem_append_left _ q)) zero_ok).mono ?_
  have : pre.length * (m + 1) ≤ l.length * (m + 1) := Nat.mul_le_mul_right _ (by rw [e, List.length_append]; omega)
  omega
theorem e_total {l : List Fr} (h : OkL l) : mr_total [.sh (frsD l)] = some (.sh (frD (sumF l))) := by
  refine eq_of_sat ?_
  unfold mr_total ev_total frsD
  walk_at "dx"
  refine Sat.forM l (fun pre post os => ∃ o, os = [some (.sh (.list (l.map frD))), some (.sh (frD (pre.foldl addF (0, 1)))), o]) ⟨none, rfl⟩ (fun pre x post os e ⟨o, eo⟩ => ?_) fun os ⟨o, eo⟩ => ?_
  · subst eo
    have hp := take_sum_ok h e
    obtain ⟨m, h1, h2, h3⟩ := h
    have hx := h1 x (by rw [e]; simp)
    walk_at "dx"
    have e2 := e_plus (a := (pre.foldl addF (0, 1)).1) (b := (pre.foldl addF (0, 1)).2) (c := x.1) (d := x.2) (by have := hp.2.2.1; omega) (by have := hx.2.2.1; omega) (hp.sm (by decide)).1 (hp.sm (by decide)).2 (hx.sm (by omega)).1 (hx.sm (by omega)).2
    rw [fr_d, fr_d] at e2
    rw [e2]
    walk_at "dx"
    rw [List.foldl_append]
    exact ⟨_, rfl⟩
  · subst eo
    walk_at "dx"
    rfl
/-! ### the least and the greatest -/
def lesF (a b : Fr) : Int := sgn (a.1 * b.2 - b.1 * a.2)
def minS (b a : Fr) : Fr := cond (decide (lesF a b < 0)) a b
def maxS (b a : Fr) : Fr := cond (decide (0 < lesF a b)) a b
theorem minS_d {b a : Fr} : frD (minS b a) = cond (decide (lesF a b < 0)) (frD a) (frD b) := by unfold minS; cases decide (lesF a b < 0) <;> rfl
theorem maxS_d {b a : Fr} : frD (maxS b a) = cond (decide (0 < lesF a b)) (frD a) (frD b) := by unfold maxS; cases decide (0 < lesF a b) <;> rfl
theorem minS_mem {b a : Fr} : minS b a = a ∨ minS b a = b := by unfold minS; cases decide (lesF a b < 0) <;> simp
theorem maxS_mem {b a : Fr} : maxS b a = a ∨ maxS b a = b := by unfold maxS; cases decide (0 < lesF a b) <;> simp
theorem fold_mem {f : Fr → Fr → Fr} (hf : ∀ b a, f b a = a ∨ f b a = b) {P : Fr → Prop} : ∀ (l : List Fr) (b : Fr), P b → (∀ x ∈ l, P x) → P (l.foldl f b)
  | [], _, h, _ => h
  | x :: l, b, h, hl => by
    refine fold_mem hf l _ ?_ fun y q => hl y (List.mem_cons_of_mem _ q)
    rcases hf b x with e | e <;> rw [e]
    · exact hl x List.mem_cons_self
    · exact h
theorem OkL.all {l : List Fr} (h : OkL l) : ∀ x ∈ l, Ok 60 x := by
  obtain ⟨m, h1, _, h3⟩ := h
  exact fun x q => (h1 x q).mono h3
theorem head_d {l : List Fr} {x : Fr} (h : l[0]? = some x) : (l.map frD)[0]? = some (frD x) ∧ ¬((l.length : Int) = 0) ∧ x ∈ l := by
  refine ⟨by rw [List.getElem?_map, h]; rfl, ?_, List.mem_of_getElem? h⟩
  cases l with
  | nil => cases h
  | cons _ _ => simp only [List.length_cons]; omega
theorem e_least {x : Fr} {l : List Fr} (h0 : l[0]? = some x) (h : ∀ y ∈ l, Ok 60 y) : mr_least [.sh (frsD l)] = some (.sh (frD (l.foldl minS x))) := by
  obtain ⟨hx, hn, hm⟩ := head_d h0
  refine inL_eq (inL_mx ?_ ?_)
  · unfold xv_least frsD
    walk_at "dx"
    rw [decide_eq_false hn]; rfl
  · refine eq_of_sat ?_
    unfold ev_least frsD
    walk_at "dx"
    refine ⟨hn, ?_⟩
    rw [hx]
    walk_at "dx"
    refine Sat.forM l (fun pre post os => ∃ o, os = [some (.sh (.list (l.map frD))), some (.sh (frD (pre.foldl minS x))), o]) ⟨none, rfl⟩ (fun pre y post os e ⟨o, eo⟩ => ?_) fun os ⟨o, eo⟩ => ?_
    · subst eo
      have hp : Ok 60 (pre.foldl minS x) := fold_mem (P := Ok 60) (fun b a => minS_mem) pre x (h x hm) fun z q => h z (by rw [e]; exact List.mem_append_left _ q)
      have hy := h y (by rw [e]; simp)
      walk_at "dx"
      have e2 := e_compare (a := y.1) (b := y.2) (c := (pre.foldl minS x).1) (d := (pre.foldl minS x).2) (hy.sm (by decide)).1 (hy.sm (by decide)).2 (hp.sm (by decide)).1 (hp.sm (by decide)).2
      rw [fr_d, fr_d] at e2
      rw [e2]
      walk_at "dx"
      rw [List.foldl_append]
      refine ⟨some (.sh (frD y)), ?_⟩
      show _ = [_, some (OD.sh (frD (minS (pre.foldl minS x) y))), _]
      rw [minS_d]; rfl
    · subst eo
      walk_at "dx"
theorem e_greatest {x : Fr} {l : List Fr} (h0 : l[0]? = some x) (h : ∀ y ∈ l, Ok 60 y) : mr_greatest [.sh (frsD l)] = some (.sh (frD (l.foldl maxS x))) := by
  obtain ⟨hx, hn, hm⟩ := head_d h0
  refine inL_eq (inL_mx ?_ ?_)
  · unfold xv_greatest frsD
    walk_at "dx"
    rw [decide_eq_false hn]; rfl
  · refine eq_of_sat ?_
    unfold ev_greatest frsD
    walk_at "dx"
    refine ⟨hn, ?_⟩
    rw [hx]
    walk_at "dx"
    refine Sat.forM l (fun pre post os => ∃ o, os = [some (.sh (.list (l.map frD))), some (.sh (frD (pre.foldl maxS x))), o]) ⟨none, rfl⟩ (fun pre y post os e ⟨o, eo⟩ => ?_) fun os ⟨o, eo⟩ => ?_
    · subst eo
      have hp : Ok 60 (pre.foldl maxS x) := fold_mem (P := Ok 60) (fun b a => maxS_mem) pre x (h x hm) fun z q => h z (by rw [e]; exact List.mem_append_left _ q)
      have hy := h y (by rw [e]; simp)
      walk_at "dx"
      have e2 := e_compare (a := y.1) (b := y.2) (c := (pre.foldl maxS x).1) (d := (pre.foldl maxS x).2) (hy.sm (by decide)).1 (hy.sm (by decide)).2 (hp.sm (by decide)).1 (hp.sm (by decide)).2
      rw [fr_d, fr_d] at e2
      rw [e2]
      walk_at "dx"
      rw [List.foldl_append]
      refine ⟨some (.sh (frD y)), ?_⟩
      show _ = [_, some (OD.sh (frD (maxS (pre.foldl maxS x) y))), _]
      rw [maxS_d]; rfl
    · subst eo
      walk_at "dx"
theorem x_least0 : mx_least [.sh (.list [])] = some (.inr 3) := by
  refine inR_mx (os' := [some (.sh (.list [])), none, none]) ?_
  unfold xv_least
  walk_at "dx"
theorem x_greatest0 : mx_greatest [.sh (.list [])] = some (.inr 3) := by
  refine inR_mx (os' := [some (.sh (.list [])), none, none]) ?_
  unfold xv_greatest
  walk_at "dx"
/-! ### all over one least below -/
def lcmS (b : Int) (a : Fr) : Int := divV b (gcdI b a.2) * a.2
def lcmL (l : List Fr) : Int := l.foldl lcmS 1
def overD (l : List Fr) : PyData := .tuple [.list (l.map fun a => .int (a.1 * divV (lcmL l) a.2)), .int (lcmL l)]
theorem lcm_step {k m : Nat} {b : Int} {a : Fr} (hb : 0 < b) (hb2 : b.natAbs < 2 ^ k) (ha : Ok m a) : 0 < lcmS b a ∧ (lcmS b a).natAbs < 2 ^ (k + m) ∧ (divV b (gcdI b a.2)).natAbs < 2 ^ k := by
  have g := gcdI_pos (a := b) (b := a.2) (by have := ha.2.2.1; omega)
  have hd : gcdI b a.2 ∣ b := by unfold gcdI; exact Int.ofNat_dvd_left.mpr (Nat.gcd_dvd_left _ _)
  have e := divV_dvd (a := b) (s := gcdI b a.2) (by omega) hd
  have h1 : (divV b (gcdI b a.2)).natAbs ≤ b.natAbs := natAbs_le_mul (by omega) e
  have h2 : 0 < divV b (gcdI b a.2) := by
    rcases Int.lt_or_le 0 (divV b (gcdI b a.2)) with z | z
    · exact z
    · have := Int.mul_nonpos_of_nonpos_of_nonneg z (Int.le_of_lt g)
      omega
  exact ⟨Int.mul_pos h2 ha.2.2.1, wide_lt (Nat.lt_of_le_of_lt h1 hb2) ha.2.1, Nat.lt_of_le_of_lt h1 hb2⟩
theorem lcm_ok {m : Nat} : ∀ (l : List Fr) (k : Nat) (b : Int), (∀ x ∈ l, Ok m x) → 0 < b → b.natAbs < 2 ^ k → 0 < l.foldl lcmS b ∧ (l.foldl lcmS b).natAbs < 2 ^ (k + l.length * m)
  | [], k, b, _, h1, h2 => ⟨h1, by simpa using h2⟩
  | x :: l, k, b, hl, h1, h2 => by
    obtain ⟨a1, a2, _⟩ := lcm_step h1 h2 (hl x List.mem_cons_self)
    obtain ⟨b1, b2⟩ := lcm_ok l (k + m) (lcmS b x) (fun y q => hl y (List.mem_cons_of_mem _ q)) a1 a2
    refine ⟨b1, ?_⟩
    rw [List.foldl_cons, List.length_cons, Nat.add_mul, Nat.one_mul, show k + (l.length * m + m) = k + m + l.length * m by omega]
    exact b2
theorem take_lcm {l pre post : List Fr} (h : OkL l) (e : l = pre ++ post) : 0 < pre.foldl lcmS 1 ∧ (pre.foldl lcmS 1).natAbs < 2 ^ 311 := by
  obtain ⟨m, h1, h2, _⟩ := h
  obtain ⟨a, b⟩ := lcm_ok (m := m) pre 1 1 (fun x q => h1 x (by rw [e]; exact List.mem_append_left _ q)) (by decide) (by decide)
  refine ⟨a, Nat.lt_of_lt_of_le b (pw ?_)⟩
  have h3 : pre.length * m ≤ l.length * m := Nat.mul_le_mul_right _ (by rw [e, List.length_append]; omega)
  have h4 : l.length * m ≤ l.length * (m + 1) := Nat.mul_le_mul_left _ (by omega)
  omega
theorem div_le {a b : Int} {k : Nat} (hb : 0 < b) (ha : a.natAbs < 2 ^ k) : (divV a b).natAbs < 2 ^ (k + 1) := by
  rw [divV_pos hb, Nat.pow_succ]
  have h1 := Int.ediv_mul_le a (show b ≠ 0 by omega)
  have h2 := Int.lt_ediv_add_one_mul_self a hb
  rcases Int.lt_or_le a 0 with q | q
  · have : a ≤ a / b := by
      rcases Int.lt_or_le (a / b) a with z | z
      · exfalso
        have h3 : (a / b + 1) * b ≤ a * b := Int.mul_le_mul_of_nonneg_right (by omega) (by omega)
        have h4 : a * b ≤ a * 1 := Int.mul_le_mul_of_nonpos_left (by omega) (by omega)
        omega
      · exact z
    have : a / b < 0 := Int.ediv_neg_of_neg_of_pos q hb
    omega
  · have h3 := Int.ediv_le_self b q
    have h4 := Int.ediv_nonneg q (show 0 ≤ b by omega)
    omega
/-- the same, its parts owned -/
def overO (l : List Fr) : OD := .tpl [.lst (l.map fun a => .sh (.int (a.1 * divV (lcmL l) a.2))), .sh (.int (lcmL l))]
theorem overO_er {l : List Fr} : (overO l).er = overD l := by
  show PyData.tuple [.list (OD.ers _), .int _] = _
  rw [ers_map, List.map_map]; rfl
theorem e_over_one {l : List Fr} (h : OkL l) (hs : l.length ≤ 1000) : mr_over_one_below [.sh (frsD l)] = some (overO l) := by
  refine eq_of_sat ?_
  unfold mr_over_one_below ev_over_one_below frsD
  walk_at "dx"
  refine Sat.forM l (fun pre post os => ∃ o, os = [some (.sh (.list (l.map frD))), some (.sh (.int (pre.foldl lcmS 1))), o]) ⟨none, rfl⟩ (fun pre x post os e ⟨o, eo⟩ => ?_) fun os ⟨o, eo⟩ => ?_
  · subst eo
    have hp := take_lcm h e
    obtain ⟨m, h1, h2, h3⟩ := h
    have hx := h1 x (by rw [e]; simp)
    obtain ⟨q1, q2, q3⟩ := lcm_step hp.1 hp.2 hx
    have g := gcdI_pos (a := pre.foldl lcmS 1) (b := x.2) (by have := hx.2.2.1; omega)
    have g2 := gcdI_le (a := pre.foldl lcmS 1) (b := x.2) (by have := hx.2.2.1; omega)
    unfold frD
    walk_at "dx"
    rw [List.foldl_append]
    exact ⟨divFits_of (by omega) (Nat.lt_of_le_of_lt g2 (Nat.lt_of_lt_of_le hx.2.1 (pw (by omega)))), mulFits_of (Nat.lt_of_lt_of_le q3 (pw (by decide))) (Nat.lt_of_lt_of_le hx.2.1 (pw (by omega))), _, rfl⟩
  · subst eo
    have hL := take_lcm h (List.append_nil l).symm
    walk_at "dx"
    refine Sat.lcM (fun a => .sh (.int (a.1 * divV (lcmL l) a.2))) (Nat.le_trans hs (by decide)) (fun x hx => ?_) ?_
    · obtain ⟨m, h1, h2, h3⟩ := h
      have hx := h1 x hx
      have b1 := div_le (a := lcmL l) (b := x.2) (by have := hx.2.2.1; omega) hL.2
      unfold frD
      walk_at "dx"
      exact ⟨divFits_of (by have := hx.2.2.1; omega) (Nat.lt_of_lt_of_le hx.2.1 (pw (by omega))), mulFits_of (Nat.lt_of_lt_of_le hx.1 (pw (by omega))) (Nat.lt_of_lt_of_le b1 (pw (by decide))), rfl⟩
    · walk_at "dx"
      rfl
theorem e_lover_one {l : List Fr} (h : OkL l) (hs : l.length ≤ 1000) : mr__law_over_one [.sh (frsD l)] = some (.sh (overD l)) := by
  refine eq_of_sat ?_
  unfold mr__law_over_one ev__law_over_one frsD
  walk_at "dx"
  refine Sat.forM l (fun pre post os => ∃ o o', os = [some (.sh (.list (l.map frD))), some (.sh (.int (pre.foldl lcmS 1))), o, o', none, none]) ⟨none, none, rfl⟩ (fun pre x post os e ⟨o, o', eo⟩ => ?_) fun os ⟨o, o', eo⟩ => ?_
  · subst eo
    have hp := take_lcm h e
    obtain ⟨m, h1, h2, h3⟩ := h
    have hx := h1 x (by rw [e]; simp)
    obtain ⟨q1, q2, q3⟩ := lcm_step hp.1 hp.2 hx
    have g := gcdI_pos (a := pre.foldl lcmS 1) (b := x.2) (by have := hx.2.2.1; omega)
    have g2 := gcdI_le (a := pre.foldl lcmS 1) (b := x.2) (by have := hx.2.2.1; omega)
    unfold frD
    walk_at "dx"
    rw [e_gcd (Nat.lt_of_lt_of_le hx.2.1 (pw (by omega)))]
    walk_at "dx"
    rw [List.foldl_append]
    exact ⟨divFits_of (by omega) (Nat.lt_of_le_of_lt g2 (Nat.lt_of_lt_of_le hx.2.1 (pw (by omega)))), mulFits_of (Nat.lt_of_lt_of_le q3 (pw (by decide))) (Nat.lt_of_lt_of_le hx.2.1 (pw (by omega))), _, _, rfl⟩
  · subst eo
    have hL := take_lcm h (List.append_nil l).symm
    walk_at "dx"
    refine Sat.lcM (fun a => .sh (.int (a.1 * divV (lcmL l) a.2))) (Nat.le_trans hs (by decide)) (fun x hx => ?_) ?_
    · obtain ⟨m, h1, h2, h3⟩ := h
      have hx := h1 x hx
      have b1 := div_le (a := lcmL l) (b := x.2) (by have := hx.2.2.1; omega) hL.2
      unfold frD
      walk_at "dx"
      exact ⟨divFits_of (by have := hx.2.2.1; omega) (Nat.lt_of_lt_of_le hx.2.1 (pw (by omega))), mulFits_of (Nat.lt_of_lt_of_le hx.1 (pw (by omega))) (Nat.lt_of_lt_of_le b1 (pw (by decide))), rfl⟩
    · walk_at "dx"
      unfold overD
      rw [List.map_map]; rfl
end K10
set_option exponentiation.threshold 5000
namespace K10
open PySem PySem.Spec PyProof.Rows L2 DX
-- DXSIMP begin
local macro_rules | `(tactic| walk_at "dx") => `(tactic| simp only [b_escs, b_rdTms, b_hardTms, b_softTms, b_esCons, b_opV, b_opL, b_opT, b_eOp, b_rdNil, b_rdCons, b_rdT, b_rdA, b_erS, b_erL, b_eVar, b_eC, b_esNil, b_tTru, b_tBl, b_tAnd, b_tOr, b_tNot, b_eAnd, b_eOr, b_eNot, b_eIf, b_eTup, b_eLst, b_eTupO, b_eOpL, k_scOS, b_mvNil, b_mvCons, b_sAppTp, b_erTp, g_hardTp, g_softTp, g_giveTp, k_tpl, k_shTp, b_oSome, b_oNone, b_eSl, b_eMt, b_fn0, b_fnP, b_sRet, b_sAsg, b_gvName, b_gvNil, b_gvCons, b_gvTup, b_gvSub, b_sAsgG, b_sApp, b_sPar, b_sPar3, b_sAppIx, b_sAugI, b_cvsNil, b_cvsCons, b_bindCond, b_condFst, b_condSnd, b_giveT, b_sFor, b_iSq, b_iR1, b_iEnA, wipeE, cYes, at_zero, k_bool, k_int, k_str, k_tup, k_lst, k_list, k_itL, k_itT, k_itSS, k_trN, k_trB, k_trI, k_trSS, k_trL, k_trT, k_scN, k_scB, k_scI, k_scS, k_scL, k_scT, k_shS, k_shL, k_softT, k_hardT, k_cvT, k_softNil, k_softCons, k_hardNil, k_hardCons, g_hard, g_soft, g_cv, g_give, g_hardS, g_hardL, g_softS, g_softL, g_cvS, g_giveS, g_giveL, g_allSh, g_erSh, List.all_cons, List.all_nil, k_retR, k_retN, k_alA, k_hd, k_two, k_three, k_sh, k_odT, k_enS, k_enL, o_addI, o_addS, o_addL, o_sub, o_neg, o_ltI, o_leI, o_gtI, o_geI, o_lenS, o_lenL, o_lenT, o_abs, o_max, o_int, o_ixL, o_ixT, o_ixSS, o_slS, o_slL, o_in1S, o_ni1S, o_eqS, o_neS, o_eqI, o_neI, o_mul, o_div, o_mod, o_pow, o_divmod, z_ble0, z_ble1, z_ble2, z_ble3, z_ble4, z_ble5, z_ble6, z_ble7, z_ble8, z_ble9, z_ble10, z_ble13, z_ble17, S_l, S_len, S_app, es1, es2, startE, sNext, pk, DX.inR, Nat.beq, Nat.ble, List.any_cons, List.any_nil, List.filterMap_cons, List.filterMap_nil, Option.bind_some, Option.bind_none, cond_true, cond_false, decide_true, decide_false, List.map_cons, List.map_nil, List.length_cons, List.length_nil, List.length_map, List.length_set, List.getElem?_cons_zero, List.getElem?_cons_succ, List.cons_append, List.nil_append, List.set_cons_zero, List.set_cons_succ, List.replicate, Nat.reduceAdd, Nat.reduceSub, Nat.zero_add, Int.toNat_natCast, Bool.not_true, Bool.not_false, Bool.or_self, Bool.or_false, Bool.false_or, Bool.and_self, Bool.and_true, Bool.true_and, Bool.and_false, Bool.false_and, Bool.true_or, Bool.or_true, z_some, z_none, z_bind, z_then, z_map, z_mapK, b_eLc, lcStep, forStep, at_0, at_1, at_2, at_3, at_4, at_5, at_m1, ix_0, ix_1, ix_m1, blt_00, blt_0s, blt_12, blt_02, z_ifK, z_guard, z_guardN, z_seqN, z_seqR, z_seqB, z_seqC, z_sSeq, z_sIf, z_forN, z_forC, z_forB, z_forR, r_P1, r_P2, k_condSomeP, k_condNx, k_condEn, k_condSl, k_condPair, k_condTm, k_condSh, k_condI, k_condB, k_condAnd, k_condOr, k_condNot, o_gcd, k_condAndL, k_condOrL, b_jNil, b_jCons, b_eJoin, t_str, str_len, str_empty, Int.cast_ofNat_Int, Int.reduceEq, Int.reduceLT, Int.reduceLE, Int.reduceNeg, Int.reduceAdd, Int.reduceSub, Int.reduceMul, Int.reduceToNat, Int.reducePow, Nat.reduceLT, Nat.reduceLeDiff, Nat.reduceEqDiff, Nat.reduceMul, k_condSelf, x_no, x_raise, x_seqNo, b_xIf, x_inr, x_inl, b_xFn, o_neSelf, o_eqSelf, i_boolN, i_boolB, i_boolI, i_boolS, i_boolL, i_boolT, i_intN, i_intB, i_intI, i_intS, i_intL, i_intT, i_strN, i_strB, i_strI, i_strS, i_strL, i_strT, i_listN, i_listB, i_listI, i_listS, i_listL, i_listT, i_tupleN, i_tupleB, i_tupleI, i_tupleS, i_tupleL, i_tupleT, at_nat, decide_eq_true_eq, decide_eq_false_iff_not, Nat.ble_eq, and_true, true_and, Option.map_some, Option.isSome_some])
local macro_rules | `(tactic| walk_at "dxs") => `(tactic| simp only [b_escs, b_rdTms, b_hardTms, b_softTms, b_esCons, b_opV, b_opL, b_opT, b_eOp, b_rdNil, b_rdCons, b_rdT, b_rdA, b_erS, b_erL, b_eVar, b_eC, b_esNil, b_tTru, b_tBl, b_tAnd, b_tOr, b_tNot, b_eAnd, b_eOr, b_eNot, b_eIf, b_eTup, b_eLst, b_eTupO, b_eOpL, k_scOS, b_mvNil, b_mvCons, b_sAppTp, b_erTp, g_hardTp, g_softTp, g_giveTp, k_tpl, k_shTp, b_oSome, b_oNone, b_eSl, b_eMt, b_fn0, b_fnP, b_sRet, b_sAsg, b_gvName, b_gvNil, b_gvCons, b_gvTup, b_gvSub, b_sAsgG, b_sApp, b_sPar, b_sPar3, b_sAppIx, b_sAugI, b_cvsNil, b_cvsCons, b_bindCond, b_condFst, b_condSnd, b_giveT, b_sFor, b_iSq, b_iR1, b_iEnA, wipeE, cYes, at_zero, k_bool, k_int, k_str, k_tup, k_lst, k_list, k_itL, k_itT, k_itSS, k_trN, k_trB, k_trI, k_trSS, k_trL, k_trT, k_scN, k_scB, k_scI, k_scS, k_scL, k_scT, k_shS, k_shL, k_softT, k_hardT, k_cvT, k_softNil, k_softCons, k_hardNil, k_hardCons, g_hard, g_soft, g_cv, g_give, g_hardS, g_hardL, g_softS, g_softL, g_cvS, g_giveS, g_giveL, g_allSh, g_erSh, List.all_cons, List.all_nil, k_retR, k_retN, k_alA, k_hd, k_two, k_three, k_sh, k_odT, k_enS, k_enL, o_addI, o_addS, o_addL, o_sub, o_neg, o_ltI, o_leI, o_gtI, o_geI, o_lenS, o_lenL, o_lenT, o_abs, o_max, o_int, o_ixL, o_ixT, o_ixSS, o_slS, o_slL, o_in1S, o_ni1S, o_eqS, o_neS, o_eqI, o_neI, o_mul, o_div, o_mod, o_pow, o_divmod, z_ble0, z_ble1, z_ble2, z_ble3, z_ble4, z_ble5, z_ble6, z_ble7, z_ble8, z_ble9, z_ble10, z_ble13, z_ble17, S_l, S_len, S_app, es1, es2, startE, sNext, pk, DX.inR, Nat.beq, Nat.ble, List.any_cons, List.any_nil, List.filterMap_cons, List.filterMap_nil, Option.bind_some, Option.bind_none, cond_true, cond_false, decide_true, decide_false, List.map_cons, List.map_nil, List.length_cons, List.length_nil, List.length_map, List.length_set, List.getElem?_cons_zero, List.getElem?_cons_succ, List.cons_append, List.nil_append, List.set_cons_zero, List.set_cons_succ, List.replicate, Nat.reduceAdd, Nat.reduceSub, Nat.zero_add, Int.toNat_natCast, Bool.not_true, Bool.not_false, Bool.or_self, Bool.or_false, Bool.false_or, Bool.and_self, Bool.and_true, Bool.true_and, Bool.and_false, Bool.false_and, Bool.true_or, Bool.or_true, z_some, z_none, z_bind, z_then, z_map, z_mapK, b_eLc, lcStep, forStep, at_0, at_1, at_2, at_3, at_4, at_5, at_m1, ix_0, ix_1, ix_m1, blt_00, blt_0s, blt_12, blt_02, z_ifK, z_guard, z_guardN, z_seqN, z_seqR, z_seqB, z_seqC, z_sSeq, z_sIf, z_forN, z_forC, z_forB, z_forR, r_P1, r_P2, k_condSomeP, k_condNx, k_condEn, k_condSl, k_condPair, k_condTm, k_condSh, k_condI, k_condB, k_condAnd, k_condOr, k_condNot, o_gcd, k_condAndL, k_condOrL, b_jNil, b_jCons, b_eJoin, t_str, str_len, str_empty, Int.cast_ofNat_Int, Int.reduceEq, Int.reduceLT, Int.reduceLE, Int.reduceNeg, Int.reduceAdd, Int.reduceSub, Int.reduceMul, Int.reduceToNat, Int.reducePow, Nat.reduceLT, Nat.reduceLeDiff, Nat.reduceEqDiff, Nat.reduceMul, k_condSelf, x_no, x_raise, x_seqNo, b_xIf, x_inr, x_inl, b_xFn, o_neSelf, o_eqSelf, i_boolN, i_boolB, i_boolI, i_boolS, i_boolL, i_boolT, i_intN, i_intB, i_intI, i_intS, i_intL, i_intT, i_strN, i_strB, i_strI, i_strS, i_strL, i_strT, i_listN, i_listB, i_listI, i_listS, i_listL, i_listT, i_tupleN, i_tupleB, i_tupleI, i_tupleS, i_tupleL, i_tupleT, at_nat, decide_eq_true_eq, decide_eq_false_iff_not, Nat.ble_eq, and_true, true_and, Option.map_some, Option.isSome_some, *])
-- DXSIMP end
theorem pw6 : powFits 10 6 = true := by decide
theorem sp_great {a b : Int} (hb : Pk b) : Sat (mr__law_great (potO a b) []) (fun r => ∃ v a b : Int, r = (.sh (.int v), potO a b) ∧ 0 ≤ v ∧ v < 1000000000000 ∧ Pk b) := by
  unfold mr__law_great ev__law_great
  walk_at "dx"
  refine ⟨pw6, ?_⟩
  refine (sp_draw hb (by decide) (by decide)).mono fun r ⟨v, a1, b1, e, h0, h1, hb1⟩ => ?_
  subst e
  walk_at "dx"
  refine ⟨pw6, mulFits_small (by omega) (by decide), pw6, ?_⟩
  refine (sp_draw hb1 (by decide) (by decide)).mono fun r ⟨w, a2, b2, e, k0, k1, hb2⟩ => ?_
  subst e
  walk_at "dx"
  exact ⟨_, _, _, rfl, by omega, by omega, hb2⟩
theorem sp_signed {a b v : Int} (hb : Pk b) : Sat (mr__law_signed (potO a b) [.sh (.int v)]) (fun r => ∃ w a b : Int, r = (.sh (.int w), potO a b) ∧ (w = v ∨ w = -v) ∧ Pk b) := by
  unfold mr__law_signed ev__law_signed
  walk_at "dx"
  refine (sp_draw hb (by decide) (by decide)).mono fun r ⟨w, a2, b2, e, k0, k1, hb2⟩ => ?_
  subst e
  walk_at "dx"
  cases decide (w = 0)
  · walk_at "dx"
    exact ⟨_, _, _, rfl, .inr rfl, hb2⟩
  · walk_at "dx"
    exact ⟨_, _, _, rfl, .inl rfl, hb2⟩
theorem okWhole {m : Nat} {a : Int} (h : a.natAbs < 2 ^ m) (hm : 1 ≤ m) : Ok m (a, 1) := by
  refine ⟨h, Nat.lt_of_lt_of_le (show (1 : Int).natAbs < 2 ^ 1 by decide) (pw hm), (show (0 : Int) < 1 by decide), ?_⟩
  show gcdI a 1 = 1
  unfold gcdI
  rw [show (1 : Int).natAbs = 1 from rfl, Nat.gcd_one_right]; rfl
theorem sp_worth {a b : Int} (hb : Pk b) : Sat (mr__law_worth (potO a b) []) (fun r => ∃ (x : Fr) (a b : Int), r = (.sh (frD x), potO a b) ∧ Ok 41 x ∧ Pk b) := by
  unfold mr__law_worth ev__law_worth
  walk_at "dx"
  refine (sp_draw hb (by decide) (by decide)).mono fun r ⟨w, a2, b2, e, k0, k1, hb2⟩ => ?_
  subst e
  walk_at "dx"
  refine Sat.splitD (fun h => ?_) fun h => ?_
  · walk_at "dx"
    exact ⟨(0, 1), _, _, rfl, okWhole (by decide) (by decide), hb2⟩
  walk_at "dx"
  refine Sat.splitD (fun h => ?_) fun h => ?_
  · walk_at "dx"
    refine (sp_draw hb2 (by decide) (by decide)).mono fun r ⟨v, a3, b3, e, j0, j1, hb3⟩ => ?_
    subst e
    walk_at "dx"
    exact ⟨(v - 9, 1), _, _, rfl, okWhole (Nat.lt_of_lt_of_le (show (v - 9).natAbs < 2 ^ 5 by show _ < 32; omega) (pw (by decide))) (by decide), hb3⟩
  walk_at "dx"
  refine Sat.splitD (fun h => ?_) fun h => ?_
  · walk_at "dx"
    refine (sp_great hb2).mono fun r ⟨v, a3, b3, e, j0, j1, hb3⟩ => ?_
    subst e
    walk_at "dx"
    refine (sp_signed hb3).mono fun r ⟨u, a4, b4, e, i0, hb4⟩ => ?_
    subst e
    walk_at "dx"
    refine (sp_great hb4).mono fun r ⟨t, a5, b5, e, l0, l1, hb5⟩ => ?_
    subst e
    walk_at "dx"
    have e40 : (2 : Nat) ^ 41 = 2199023255552 := by decide
    rw [e_made (by omega) (Nat.lt_of_lt_of_le (show (1 + t).natAbs < 2 ^ 41 by rw [e40]; omega) (pw (by decide)))]
    walk_at "dx"
    exact ⟨_, _, _, rfl, mk_ok (by omega) (by rw [e40]; omega) (by rw [e40]; omega), hb5⟩
  walk_at "dx"
  obtain ⟨n, hn, hn0, hn1⟩ : ∃ n : Int, cond (decide (w < 4)) 12 5000 = n ∧ 0 < n ∧ n ≤ 5000 := ⟨_, rfl, by cases decide (w < 4) <;> decide, by cases decide (w < 4) <;> decide⟩
  rw [hn]
  refine (sp_draw hb2 hn0 (by omega)).mono fun r ⟨v, a3, b3, e, j0, j1, hb3⟩ => ?_
  subst e
  walk_at "dx"
  refine (sp_signed hb3).mono fun r ⟨u, a4, b4, e, i0, hb4⟩ => ?_
  subst e
  walk_at "dx"
  refine (sp_draw hb4 hn0 (by omega)).mono fun r ⟨t, a5, b5, e, l0, l1, hb5⟩ => ?_
  subst e
  walk_at "dx"
  have e40 : (2 : Nat) ^ 41 = 2199023255552 := by decide
  rw [e_made (by omega) (Nat.lt_of_lt_of_le (show (1 + t).natAbs < 2 ^ 41 by rw [e40]; omega) (pw (by decide)))]
  walk_at "dx"
  exact ⟨_, _, _, rfl, mk_ok (by omega) (by rw [e40]; omega) (by rw [e40]; omega), hb5⟩
theorem Ok.neg {m : Nat} {x : Fr} (h : Ok m x) : Ok m (-x.1, x.2) := by
  refine ⟨by show (-x.1).natAbs < _; rw [Int.natAbs_neg]; exact h.1, h.2.1, h.2.2.1, ?_⟩
  have := h.2.2.2
  unfold gcdI at this ⊢
  rw [show ((-x.1, x.2) : Fr).1.natAbs = x.1.natAbs from Int.natAbs_neg _]; exact this
theorem sp_second {a b : Int} {x : Fr} (hb : Pk b) (hx : Ok 41 x) : Sat (mr__law_second (potO a b) [.sh (frD x)]) (fun r => ∃ (y : Fr) (a b : Int), r = (.sh (frD y), potO a b) ∧ Ok 60 y ∧ Pk b) := by
  unfold mr__law_second ev__law_second
  walk_at "dx"
  refine (sp_draw hb (by decide) (by decide)).mono fun r ⟨w, a2, b2, e, k0, k1, hb2⟩ => ?_
  subst e
  walk_at "dx"
  refine Sat.splitD (fun h => ?_) fun h => ?_
  · walk_at "dx"
    exact ⟨x, _, _, rfl, hx.mono (by decide), hb2⟩
  walk_at "dx"
  refine Sat.splitD (fun h => ?_) fun h => ?_
  · unfold frD
    walk_at "dx"
    exact ⟨(-x.1, x.2), _, _, rfl, hx.neg.mono (by decide), hb2⟩
  walk_at "dx"
  refine Sat.splitD (fun h => ?_) fun h => ?_
  · unfold frD
    walk_at "dx"
    obtain ⟨h1, h2, h3, h4⟩ := hx
    have e40 : (2 : Nat) ^ 41 = 2199023255552 := by decide
    have e60 : (2 : Nat) ^ 60 = 1152921504606846976 := by decide
    rw [e40] at h1 h2
    have f1 : (x.1 * 1000 + 1).natAbs < 2 ^ 60 := by rw [e60]; omega
    have f2 : (x.2 * 1000).natAbs < 2 ^ 60 := by rw [e60]; omega
    rw [e_made (a := x.1 * 1000 + 1) (b := x.2 * 1000) (by omega) (Nat.lt_of_lt_of_le f2 (pw (by decide)))]
    unfold frD
    walk_at "dx"
    exact ⟨mulFits_small (by omega) (by decide), mulFits_small (by omega) (by decide), mk (x.1 * 1000 + 1) (x.2 * 1000), _, _, rfl, mk_ok (by omega) f1 f2, hb2⟩
  · walk_at "dx"
    refine (sp_worth hb2).mono fun r ⟨y, a3, b3, e, hy, hb3⟩ => ?_
    subst e
    walk_at "dx"
    exact ⟨y, _, _, rfl, hy.mono (by decide), hb3⟩
abbrev frO (x : Fr) : OD := .sh (frD x)
theorem sp_list {a b : Int} (hb : Pk b) : Sat (mr__law_list (potO a b) []) (fun r => ∃ (l : List Fr) (a b : Int), r = (.lst (l.map frO), potO a b) ∧ OkL l ∧ l.length ≤ 60 ∧ Pk b) := by
  unfold mr__law_list ev__law_list
  walk_at "dx"
  refine ⟨by decide, ?_⟩
  refine (sp_pick hb (by decide) (by decide)).mono fun r ⟨d, a1, b1, e, hd, hb1⟩ => ?_
  subst e
  obtain ⟨n, rfl, hn⟩ : ∃ n : Nat, d = .int (n : Nat) ∧ (n ≤ 6 ∨ n = 60) := by
    simp only [cl__law_list_1, List.mem_cons, List.not_mem_nil, or_false] at hd
    rcases hd with rfl | rfl | rfl | rfl | rfl | rfl | rfl | rfl | rfl
    · exact ⟨0, rfl, by omega⟩
    · exact ⟨1, rfl, by omega⟩
    · exact ⟨2, rfl, by omega⟩
    · exact ⟨2, rfl, by omega⟩
    · exact ⟨3, rfl, by omega⟩
    · exact ⟨4, rfl, by omega⟩
    · exact ⟨5, rfl, by omega⟩
    · exact ⟨6, rfl, by omega⟩
    · exact ⟨60, rfl, by omega⟩
  walk_at "dx"
  refine (sp_pick hb1 (by decide) (by decide)).mono fun r ⟨d, a2, b2, e, hd, hb2⟩ => ?_
  subst e
  obtain ⟨z, rfl⟩ : ∃ z : Int, d = .int z := by
    simp only [List.mem_cons, List.not_mem_nil, or_false] at hd
    rcases hd with rfl | rfl | rfl <;> exact ⟨_, rfl⟩
  have hf : fit62 (n : Int) = true := fit62_of (by omega)
  walk_at "dx"
  refine Sat.split (fun h => ?_) fun h => ?_
  · walk_at "dx"
    refine ⟨hf, ?_⟩
    refine Sat.for (fun ds os => ∃ (l : List Fr) (a b : Int) (o o' : Option OD), Pk b ∧ (∀ x ∈ l, Ok 4 x) ∧ l.length + ds.length = n ∧ os = [some (potO a b), some (.sh (.int (n : Nat))), some (.sh (.int z)), some (.lst (l.map frO)), o, o']) ⟨[], a2, b2, none, none, hb2, (fun _ q => nomatch q), by rw [rangeD_len]; simp, rfl⟩ (fun d ds os ⟨l, a, b, o, o', hb, hl, hn2, e⟩ => ?_) fun os ⟨l, a, b, o, o', hb, hl, hn2, e⟩ => ?_
    · subst e
      simp only [List.length_cons] at hn2
      walk_at "dx"
      refine (sp_draw hb (by decide) (by decide)).mono fun r ⟨v, a3, b3, e, j0, j1, hb3⟩ => ?_
      subst e
      walk_at "dx"
      refine (sp_draw hb3 (by decide) (by decide)).mono fun r ⟨u, a4, b4, e, i0, i1, hb4⟩ => ?_
      subst e
      walk_at "dx"
      rw [e_made (by omega) (Nat.lt_of_lt_of_le (show (1 + u).natAbs < 2 ^ 4 by show _ < 16; omega) (pw (by decide)))]
      walk_at "dx"
      refine ⟨Nat.ble_eq_true_of_le (Nat.succ_le_of_lt (Nat.lt_of_le_of_lt (show l.length ≤ 60 by omega) (by decide))), l ++ [mk (v - 12) (1 + u)], _, _, _, _, hb4, ?_, by simp; omega, by rw [List.map_append]; rfl⟩
      intro x hx
      rcases List.mem_append.mp hx with q | q
      · exact hl x q
      · rw [List.mem_singleton.mp q]
        exact mk_ok (by omega) (by show _ < 16; omega) (by show _ < 16; omega)
    · subst e
      walk_at "dx"
      exact ⟨l, _, _, rfl, ⟨4, hl, by simp at hn2; omega, by decide⟩, by simp at hn2; omega, hb⟩
  · have hn6 : n ≤ 6 := by
      rcases hn with q | q
      · exact q
      · subst q
        rw [Bool.or_eq_false_iff] at h
        exact absurd h.2 (by decide)
    walk_at "dx"
    refine ⟨hf, ?_⟩
    refine Sat.lc (fun ds acc os => ∃ (l : List Fr) (a b : Int), Pk b ∧ (∀ x ∈ l, Ok 41 x) ∧ l.length + ds.length = n ∧ acc = l.map frO ∧ os = [some (potO a b), some (.sh (.int (n : Nat))), some (.sh (.int z)), none, none, none]) ⟨[], a2, b2, hb2, (fun _ q => nomatch q), by rw [rangeD_len]; simp, rfl, rfl⟩ (by rw [rangeD_len]; exact Nat.le_trans (show n ≤ 60 by omega) (by decide)) (fun d ds acc os ⟨l, a, b, hb, hl, hn2, ea, e⟩ => ?_) fun acc os ⟨l, a, b, hb, hl, hn2, ea, e⟩ => ?_
    · subst e
      subst ea
      simp only [List.length_cons] at hn2
      walk_at "dx"
      refine (sp_worth hb).mono fun r ⟨x, a3, b3, e, hx, hb3⟩ => ?_
      subst e
      walk_at "dx"
      refine ⟨l ++ [x], _, _, hb3, ?_, by simp; omega, by rw [List.map_append]; rfl, rfl⟩
      intro y hy
      rcases List.mem_append.mp hy with q | q
      · exact hl y q
      · rw [List.mem_singleton.mp q]; exact hx
    · subst e
      subst ea
      walk_at "dx"
      exact ⟨l, _, _, rfl, ⟨41, hl, by simp at hn2; omega, by decide⟩, by simp at hn2; omega, hb⟩
end K10
set_option exponentiation.threshold 5000
namespace K10
open PySem PySem.Spec PyProof.Rows L2 DX
-- DXSIMP begin
local macro_rules | `(tactic| walk_at "dx") => `(tactic| simp only [b_escs, b_rdTms, b_hardTms, b_softTms, b_esCons, b_opV, b_opL, b_opT, b_eOp, b_rdNil, b_rdCons, b_rdT, b_rdA, b_erS, b_erL, b_eVar, b_eC, b_esNil, b_tTru, b_tBl, b_tAnd, b_tOr, b_tNot, b_eAnd, b_eOr, b_eNot, b_eIf, b_eTup, b_eLst, b_eTupO, b_eOpL, k_scOS, b_mvNil, b_mvCons, b_sAppTp, b_erTp, g_hardTp, g_softTp, g_giveTp, k_tpl, k_shTp, b_oSome, b_oNone, b_eSl, b_eMt, b_fn0, b_fnP, b_sRet, b_sAsg, b_gvName, b_gvNil, b_gvCons, b_gvTup, b_gvSub, b_sAsgG, b_sApp, b_sPar, b_sPar3, b_sAppIx, b_sAugI, b_cvsNil, b_cvsCons, b_bindCond, b_condFst, b_condSnd, b_giveT, b_sFor, b_iSq, b_iR1, b_iEnA, wipeE, cYes, at_zero, k_bool, k_int, k_str, k_tup, k_lst, k_list, k_itL, k_itT, k_itSS, k_trN, k_trB, k_trI, k_trSS, k_trL, k_trT, k_scN, k_scB, k_scI, k_scS, k_scL, k_scT, k_shS, k_shL, k_softT, k_hardT, k_cvT, k_softNil, k_softCons, k_hardNil, k_hardCons, g_hard, g_soft, g_cv, g_give, g_hardS, g_hardL, g_softS, g_softL, g_cvS, g_giveS, g_giveL, g_allSh, g_erSh, List.all_cons, List.all_nil, k_retR, k_retN, k_alA, k_hd, k_two, k_three, k_sh, k_odT, k_enS, k_enL, o_addI, o_addS, o_addL, o_sub, o_neg, o_ltI, o_leI, o_gtI, o_geI, o_lenS, o_lenL, o_lenT, o_abs, o_max, o_int, o_ixL, o_ixT, o_ixSS, o_slS, o_slL, o_in1S, o_ni1S, o_eqS, o_neS, o_eqI, o_neI, o_mul, o_div, o_mod, o_pow, o_divmod, z_ble0, z_ble1, z_ble2, z_ble3, z_ble4, z_ble5, z_ble6, z_ble7, z_ble8, z_ble9, z_ble10, z_ble13, z_ble17, S_l, S_len, S_app, es1, es2, startE, sNext, pk, DX.inR, Nat.beq, Nat.ble, List.any_cons, List.any_nil, List.filterMap_cons, List.filterMap_nil, Option.bind_some, Option.bind_none, cond_true, cond_false, decide_true, decide_false, List.map_cons, List.map_nil, List.length_cons, List.length_nil, List.length_map, List.length_set, List.getElem?_cons_zero, List.getElem?_cons_succ, List.cons_append, List.nil_append, List.set_cons_zero, List.set_cons_succ, List.replicate, Nat.reduceAdd, Nat.reduceSub, Nat.zero_add, Int.toNat_natCast, Bool.not_true, Bool.not_false, Bool.or_self, Bool.or_false, Bool.false_or, Bool.and_self, Bool.and_true, Bool.true_and, Bool.and_false, Bool.false_and, Bool.true_or, Bool.or_true, z_some, z_none, z_bind, z_then, z_map, z_mapK, b_eLc, lcStep, forStep, at_0, at_1, at_2, at_3, at_4, at_5, at_m1, ix_0, ix_1, ix_m1, blt_00, blt_0s, blt_12, blt_02, z_ifK, z_guard, z_guardN, z_seqN, z_seqR, z_seqB, z_seqC, z_sSeq, z_sIf, z_forN, z_forC, z_forB, z_forR, r_P1, r_P2, k_condSomeP, k_condNx, k_condEn, k_condSl, k_condPair, k_condTm, k_condSh, k_condI, k_condB, k_condAnd, k_condOr, k_condNot, o_gcd, k_condAndL, k_condOrL, b_jNil, b_jCons, b_eJoin, t_str, str_len, str_empty, Int.cast_ofNat_Int, Int.reduceEq, Int.reduceLT, Int.reduceLE, Int.reduceNeg, Int.reduceAdd, Int.reduceSub, Int.reduceMul, Int.reduceToNat, Int.reducePow, Nat.reduceLT, Nat.reduceLeDiff, Nat.reduceEqDiff, Nat.reduceMul, k_condSelf, x_no, x_raise, x_seqNo, b_xIf, x_inr, x_inl, b_xFn, o_neSelf, o_eqSelf, i_boolN, i_boolB, i_boolI, i_boolS, i_boolL, i_boolT, i_intN, i_intB, i_intI, i_intS, i_intL, i_intT, i_strN, i_strB, i_strI, i_strS, i_strL, i_strT, i_listN, i_listB, i_listI, i_listS, i_listL, i_listT, i_tupleN, i_tupleB, i_tupleI, i_tupleS, i_tupleL, i_tupleT, at_nat, decide_eq_true_eq, decide_eq_false_iff_not, Nat.ble_eq, and_true, true_and, Option.map_some, Option.isSome_some])
local macro_rules | `(tactic| walk_at "dxs") => `(tactic| simp only [b_escs, b_rdTms, b_hardTms, b_softTms, b_esCons, b_opV, b_opL, b_opT, b_eOp, b_rdNil, b_rdCons, b_rdT, b_rdA, b_erS, b_erL, b_eVar, b_eC, b_esNil, b_tTru, b_tBl, b_tAnd, b_tOr, b_tNot, b_eAnd, b_eOr, b_eNot, b_eIf, b_eTup, b_eLst, b_eTupO, b_eOpL, k_scOS, b_mvNil, b_mvCons, b_sAppTp, b_erTp, g_hardTp, g_softTp, g_giveTp, k_tpl, k_shTp, b_oSome, b_oNone, b_eSl, b_eMt, b_fn0, b_fnP, b_sRet, b_sAsg, b_gvName, b_gvNil, b_gvCons, b_gvTup, b_gvSub, b_sAsgG, b_sApp, b_sPar, b_sPar3, b_sAppIx, b_sAugI, b_cvsNil, b_cvsCons, b_bindCond, b_condFst, b_condSnd, b_giveT, b_sFor, b_iSq, b_iR1, b_iEnA, wipeE, cYes, at_zero, k_bool, k_int, k_str, k_tup, k_lst, k_list, k_itL, k_itT, k_itSS, k_trN, k_trB, k_trI, k_trSS, k_trL, k_trT, k_scN, k_scB, k_scI, k_scS, k_scL, k_scT, k_shS, k_shL, k_softT, k_hardT, k_cvT, k_softNil, k_softCons, k_hardNil, k_hardCons, g_hard, g_soft, g_cv, g_give, g_hardS, g_hardL, g_softS, g_softL, g_cvS, g_giveS, g_giveL, g_allSh, g_erSh, List.all_cons, List.all_nil, k_retR, k_retN, k_alA, k_hd, k_two, k_three, k_sh, k_odT, k_enS, k_enL, o_addI, o_addS, o_addL, o_sub, o_neg, o_ltI, o_leI, o_gtI, o_geI, o_lenS, o_lenL, o_lenT, o_abs, o_max, o_int, o_ixL, o_ixT, o_ixSS, o_slS, o_slL, o_in1S, o_ni1S, o_eqS, o_neS, o_eqI, o_neI, o_mul, o_div, o_mod, o_pow, o_divmod, z_ble0, z_ble1, z_ble2, z_ble3, z_ble4, z_ble5, z_ble6, z_ble7, z_ble8, z_ble9, z_ble10, z_ble13, z_ble17, S_l, S_len, S_app, es1, es2, startE, sNext, pk, DX.inR, Nat.beq, Nat.ble, List.any_cons, List.any_nil, List.filterMap_cons, List.filterMap_nil, Option.bind_some, Option.bind_none, cond_true, cond_false, decide_true, decide_false, List.map_cons, List.map_nil, List.length_cons, List.length_nil, List.length_map, List.length_set, List.getElem?_cons_zero, List.getElem?_cons_succ, List.cons_append, List.nil_append, List.set_cons_zero, List.set_cons_succ, List.replicate, Nat.reduceAdd, Nat.reduceSub, Nat.zero_add, Int.toNat_natCast, Bool.not_true, Bool.not_false, Bool.or_self, Bool.or_false, Bool.false_or, Bool.and_self, Bool.and_true, Bool.true_and, Bool.and_false, Bool.false_and, Bool.true_or, Bool.or_true, z_some, z_none, z_bind, z_then, z_map, z_mapK, b_eLc, lcStep, forStep, at_0, at_1, at_2, at_3, at_4, at_5, at_m1, ix_0, ix_1, ix_m1, blt_00, blt_0s, blt_12, blt_02, z_ifK, z_guard, z_guardN, z_seqN, z_seqR, z_seqB, z_seqC, z_sSeq, z_sIf, z_forN, z_forC, z_forB, z_forR, r_P1, r_P2, k_condSomeP, k_condNx, k_condEn, k_condSl, k_condPair, k_condTm, k_condSh, k_condI, k_condB, k_condAnd, k_condOr, k_condNot, o_gcd, k_condAndL, k_condOrL, b_jNil, b_jCons, b_eJoin, t_str, str_len, str_empty, Int.cast_ofNat_Int, Int.reduceEq, Int.reduceLT, Int.reduceLE, Int.reduceNeg, Int.reduceAdd, Int.reduceSub, Int.reduceMul, Int.reduceToNat, Int.reducePow, Nat.reduceLT, Nat.reduceLeDiff, Nat.reduceEqDiff, Nat.reduceMul, k_condSelf, x_no, x_raise, x_seqNo, b_xIf, x_inr, x_inl, b_xFn, o_neSelf, o_eqSelf, i_boolN, i_boolB, i_boolI, i_boolS, i_boolL, i_boolT, i_intN, i_intB, i_intI, i_intS, i_intL, i_intT, i_strN, i_strB, i_strI, i_strS, i_strL, i_strT, i_listN, i_listB, i_listI, i_listS, i_listL, i_listT, i_tupleN, i_tupleB, i_tupleI, i_tupleS, i_tupleL, i_tupleT, at_nat, decide_eq_true_eq, decide_eq_false_iff_not, Nat.ble_eq, and_true, true_and, Option.map_some, Option.isSome_some, *])
-- DXSIMP end
/-- a value that the judges may be asked about -/
def Vok (d : PyData) : Prop := d.hasDict = false ∧ ∀ a b, d = .tuple [.int a, .int b] → b.natAbs < 2 ^ 4000
theorem sh_list {P : PyData → Prop} : ∀ {xs : List OD}, (∀ o ∈ xs, ∃ d, o = .sh d ∧ P d) → ∃ ds : List PyData, xs = ds.map OD.sh ∧ ∀ d ∈ ds, P d
  | [], _ => ⟨[], rfl, fun _ q => nomatch q⟩
  | x :: xs, h => by
    obtain ⟨d, e, p⟩ := h x List.mem_cons_self
    obtain ⟨ds, e2, p2⟩ := sh_list (xs := xs) fun o q => h o (List.mem_cons_of_mem _ q)
    refine ⟨d :: ds, by rw [e, e2]; rfl, fun y q => ?_⟩
    rcases List.mem_cons.mp q with z | z
    · rw [z]; exact p
    · exact p2 y z
theorem sp_values {a b : Int} {x : Fr} (hb : Pk b) (hx : Ok 41 x) : Sat (mr__law_values (potO a b) [.sh (frD x)]) (fun r => ∃ (xs : List OD) (a b : Int), r = (.lst xs, potO a b) ∧ xs.length ≤ 1000 ∧ (∀ o ∈ xs, ∃ d, o = .sh d ∧ Vok d) ∧ Pk b) := by
  obtain ⟨u, v⟩ := x
  unfold mr__law_values ev__law_values frD
  walk_at "dx"
  refine (sp_draw hb (by decide) (by decide)).mono fun r ⟨t, a1, b1, e, h0, h1, hb1⟩ => ?_
  subst e
  have e41 : (2 : Nat) ^ 41 = 2199023255552 := by decide
  obtain ⟨hu, hv, hp, hg⟩ := hx
  have hu' : u.natAbs < 2199023255552 := by rw [← e41]; exact hu
  have hv' : v.natAbs < 2199023255552 := by rw [← e41]; exact hv
  have m1 : mulFits u (2 + t) = true := mulFits_small (by omega) (by omega)
  have m2 : mulFits v (2 + t) = true := mulFits_small (by omega) (by omega)
  have s1 := o_str (i := u) (Nat.lt_of_lt_of_le hu (pw (by decide)))
  have p29 : powFits 10 29 = true := by decide
  walk_at "dx"
  rw [m1, m2]
  walk_at "dx"
  rw [s1]
  walk_at "dx"
  rw [p29]
  walk_at "dx"
  rw [s1]
  walk_at "dx"
  have k0 : v.natAbs < 2 ^ 4000 := lt4 hv (by decide)
  have k1 : u.natAbs < 2 ^ 4000 := lt4 hu (by decide)
  have k2 : (-v).natAbs < 2 ^ 4000 := by rw [Int.natAbs_neg]; exact k0
  have k3 : (v * (2 + t)).natAbs < 2 ^ 4000 := lt4 (wide_lt hv (show (2 + t).natAbs < 2 ^ 4 by show _ < 16; omega)) (by decide)
  have k4 : (2 + t).natAbs < 2 ^ 4000 := lt4 (show (2 + t).natAbs < 2 ^ 4 by show _ < 16; omega) (by decide)
  have k5 : ∀ n : Int, n.natAbs < 16 → n.natAbs < 2 ^ 4000 := fun n hn => lt4 (k := 4) hn (by decide)
  refine ⟨by decide, by decide, by decide, by decide, by decide, _, _, _, rfl, by simp only [List.length_cons, List.length_nil]; decide, ?_, hb1⟩
  simp only [List.forall_mem_cons, List.not_mem_nil, false_implies, implies_true, and_true]
  and_intros
  all_goals refine ⟨_, rfl, by simp [PyData.hasDict, PyData.hasDictAll], fun x y e => ?_⟩
  all_goals first
    | (cases e; done)
    | (cases e; first | exact k0 | exact k1 | exact k2 | exact k3 | exact k4 | exact k5 _ (by decide))
theorem o_rep3 {a b c : Bool} : opRepr [.list [.bool a, .bool b, .bool c]] = some (.val (.str (PyData.list [.bool a, .bool b, .bool c]).shown)) := by
  refine o_reprL rfl ?_ ?_
  · cases a <;> cases b <;> cases c <;> decide
  · cases a <;> cases b <;> cases c <;> decide
theorem e_values_right {a b : Int} {x : Fr} (hb : Pk b) (hx : Ok 41 x) : Sat (mr__law_values_right (potO a b) [.sh (frD x)]) (fun r => ∃ a b, r = (.sh (.bool true), potO a b) ∧ Pk b) := by
  unfold mr__law_values_right ev__law_values_right
  walk_at "dx"
  refine (sp_values hb hx).mono fun r ⟨xs, a1, b1, e, hl, hw, hb1⟩ => ?_
  obtain ⟨ds, exs, hv⟩ := sh_list hw
  subst e
  subst exs
  walk_at "dx"
  refine Sat.for (fun ds os => (∀ d ∈ ds, Vok d) ∧ ∃ o2 o3 o4 o5 : Option OD, os = [some (potO a1 b1), some (.sh (frD x)), o2, o3, o4, o5]) ⟨hv, _, _, _, _, rfl⟩ (fun d ds os ⟨hv, o2, o3, o4, o5, e⟩ => ?_) fun os ⟨hv, o2, o3, o4, o5, e⟩ => ?_
  · subst e
    obtain ⟨nd, hs⟩ := hv d List.mem_cons_self
    have ew := e_is_whole nd
    have ei := e_is_integer nd
    have ec := e_is_count nd
    have ef := e_is_fraction nd
    have eF := e_fits nd hs
    have er : ∀ x y z : Bool, opRepr [.list [.bool x, .bool y, .bool z]] = some (.val (.str (PyData.list [.bool x, .bool y, .bool z]).shown)) := fun x y z => o_rep3
    walk_at "dx"
    rw [ew]
    walk_at "dx"
    refine Sat.split (fun h => ?_) fun h => ?_
    · obtain ⟨i, rfl⟩ : ∃ i, d = .int i := by
        cases d with
        | int i => exact ⟨i, rfl⟩
        | _ => exact nomatch h
      rw [h] at ei
      rw [show geI (.int i) = decide (0 ≤ i) from rfl] at ec
      rw [show isFr (.int i) = false from rfl] at ef eF
      walk_at "dx"
      rw [eF]
      walk_at "dx"
      rw [ei]
      walk_at "dx"
      rw [ec]
      walk_at "dx"
      rw [ef]
      walk_at "dx"
      rw [er]
      walk_at "dx"
      rw [h, er]
      walk_at "dx"
      exact ⟨fun d q => hv d (List.mem_cons_of_mem _ q), _, _, _, _, rfl⟩
    · have hg : geI d = false := by
        cases d with
        | int i => exact nomatch h
        | _ => rfl
      rw [h] at ei
      rw [hg] at ec
      rw [eF]
      walk_at "dx"
      rw [ei]
      walk_at "dx"
      rw [ec]
      walk_at "dx"
      rw [ef]
      walk_at "dx"
      rw [er]
      walk_at "dx"
      rw [h, er]
      walk_at "dx"
      exact ⟨fun d q => hv d (List.mem_cons_of_mem _ q), _, _, _, _, rfl⟩
  · subst e
    obtain ⟨u, v⟩ := x
    unfold frD
    walk_at "dx"
    rw [e_is_integer rfl]
    walk_at "dx"
    rw [e_is_count rfl]
    walk_at "dx"
    rw [e_is_fraction rfl]
    walk_at "dx"
    rw [isFr_int, decide_eq_true hx.2.2.1, decide_eq_true hx.2.2.2]
    walk_at "dx"
    rw [show isI (.int u) = true from rfl, show geI (.tuple [.int u, .int v]) = false from rfl]
    rw [o_rep3]
    walk_at "dx"
    rw [show (PyData.list [PyData.bool true, PyData.bool false, PyData.bool true]).shown = Str.ofString "[True, False, True]" by decide]
    walk_at "dx"
    exact ⟨_, _, rfl, hb1⟩
end K10
set_option exponentiation.threshold 5000
namespace K10
open PySem PySem.Spec PyProof.Rows L2 DX
-- DXSIMP begin
local macro_rules | `(tactic| walk_at "dx") => `(tactic| simp only [b_escs, b_rdTms, b_hardTms, b_softTms, b_esCons, b_opV, b_opL, b_opT, b_eOp, b_rdNil, b_rdCons, b_rdT, b_rdA, b_erS, b_erL, b_eVar, b_eC, b_esNil, b_tTru, b_tBl, b_tAnd, b_tOr, b_tNot, b_eAnd, b_eOr, b_eNot, b_eIf, b_eTup, b_eLst, b_eTupO, b_eOpL, k_scOS, b_mvNil, b_mvCons, b_sAppTp, b_erTp, g_hardTp, g_softTp, g_giveTp, k_tpl, k_shTp, b_oSome, b_oNone, b_eSl, b_eMt, b_fn0, b_fnP, b_sRet, b_sAsg, b_gvName, b_gvNil, b_gvCons, b_gvTup, b_gvSub, b_sAsgG, b_sApp, b_sPar, b_sPar3, b_sAppIx, b_sAugI, b_cvsNil, b_cvsCons, b_bindCond, b_condFst, b_condSnd, b_giveT, b_sFor, b_iSq, b_iR1, b_iEnA, wipeE, cYes, at_zero, k_bool, k_int, k_str, k_tup, k_lst, k_list, k_itL, k_itT, k_itSS, k_trN, k_trB, k_trI, k_trSS, k_trL, k_trT, k_scN, k_scB, k_scI, k_scS, k_scL, k_scT, k_shS, k_shL, k_softT, k_hardT, k_cvT, k_softNil, k_softCons, k_hardNil, k_hardCons, g_hard, g_soft, g_cv, g_give, g_hardS, g_hardL, g_softS, g_softL, g_cvS, g_giveS, g_giveL, g_allSh, g_erSh, List.all_cons, List.all_nil, k_retR, k_retN, k_alA, k_hd, k_two, k_three, k_sh, k_odT, k_enS, k_enL, o_addI, o_addS, o_addL, o_sub, o_neg, o_ltI, o_leI, o_gtI, o_geI, o_lenS, o_lenL, o_lenT, o_abs, o_max, o_int, o_ixL, o_ixT, o_ixSS, o_slS, o_slL, o_in1S, o_ni1S, o_eqS, o_neS, o_eqI, o_neI, o_mul, o_div, o_mod, o_pow, o_divmod, z_ble0, z_ble1, z_ble2, z_ble3, z_ble4, z_ble5, z_ble6, z_ble7, z_ble8, z_ble9, z_ble10, z_ble13, z_ble17, S_l, S_len, S_app, es1, es2, startE, sNext, pk, DX.inR, Nat.beq, Nat.ble, List.any_cons, List.any_nil, List.filterMap_cons, List.filterMap_nil, Option.bind_some, Option.bind_none, cond_true, cond_false, decide_true, decide_false, List.map_cons, List.map_nil, List.length_cons, List.length_nil, List.length_map, List.length_set, List.getElem?_cons_zero, List.getElem?_cons_succ, List.cons_append, List.nil_append, List.set_cons_zero, List.set_cons_succ, List.replicate, Nat.reduceAdd, Nat.reduceSub, Nat.zero_add, Int.toNat_natCast, Bool.not_true, Bool.not_false, Bool.or_self, Bool.or_false, Bool.false_or, Bool.and_self, Bool.and_true, Bool.true_and, Bool.and_false, Bool.false_and, Bool.true_or, Bool.or_true, z_some, z_none, z_bind, z_then, z_map, z_mapK, b_eLc, lcStep, forStep, at_0, at_1, at_2, at_3, at_4, at_5, at_m1, ix_0, ix_1, ix_m1, blt_00, blt_0s, blt_12, blt_02, z_ifK, z_guard, z_guardN, z_seqN, z_seqR, z_seqB, z_seqC, z_sSeq, z_sIf, z_forN, z_forC, z_forB, z_forR, r_P1, r_P2, k_condSomeP, k_condNx, k_condEn, k_condSl, k_condPair, k_condTm, k_condSh, k_condI, k_condB, k_condAnd, k_condOr, k_condNot, o_gcd, k_condAndL, k_condOrL, b_jNil, b_jCons, b_eJoin, t_str, str_len, str_empty, Int.cast_ofNat_Int, Int.reduceEq, Int.reduceLT, Int.reduceLE, Int.reduceNeg, Int.reduceAdd, Int.reduceSub, Int.reduceMul, Int.reduceToNat, Int.reducePow, Nat.reduceLT, Nat.reduceLeDiff, Nat.reduceEqDiff, Nat.reduceMul, k_condSelf, x_no, x_raise, x_seqNo, b_xIf, x_inr, x_inl, b_xFn, o_neSelf, o_eqSelf, i_boolN, i_boolB, i_boolI, i_boolS, i_boolL, i_boolT, i_intN, i_intB, i_intI, i_intS, i_intL, i_intT, i_strN, i_strB, i_strI, i_strS, i_strL, i_strT, i_listN, i_listB, i_listI, i_listS, i_listL, i_listT, i_tupleN, i_tupleB, i_tupleI, i_tupleS, i_tupleL, i_tupleT, at_nat, decide_eq_true_eq, decide_eq_false_iff_not, Nat.ble_eq, and_true, true_and, Option.map_some, Option.isSome_some])
local macro_rules | `(tactic| walk_at "dxs") => `(tactic| simp only [b_escs, b_rdTms, b_hardTms, b_softTms, b_esCons, b_opV, b_opL, b_opT, b_eOp, b_rdNil, b_rdCons, b_rdT, b_rdA, b_erS, b_erL, b_eVar, b_eC, b_esNil, b_tTru, b_tBl, b_tAnd, b_tOr, b_tNot, b_eAnd, b_eOr, b_eNot, b_eIf, b_eTup, b_eLst, b_eTupO, b_eOpL, k_scOS, b_mvNil, b_mvCons, b_sAppTp, b_erTp, g_hardTp, g_softTp, g_giveTp, k_tpl, k_shTp, b_oSome, b_oNone, b_eSl, b_eMt, b_fn0, b_fnP, b_sRet, b_sAsg, b_gvName, b_gvNil, b_gvCons, b_gvTup, b_gvSub, b_sAsgG, b_sApp, b_sPar, b_sPar3, b_sAppIx, b_sAugI, b_cvsNil, b_cvsCons, b_bindCond, b_condFst, b_condSnd, b_giveT, b_sFor, b_iSq, b_iR1, b_iEnA, wipeE, cYes, at_zero, k_bool, k_int, k_str, k_tup, k_lst, k_list, k_itL, k_itT, k_itSS, k_trN, k_trB, k_trI, k_trSS, k_trL, k_trT, k_scN, k_scB, k_scI, k_scS, k_scL, k_scT, k_shS, k_shL, k_softT, k_hardT, k_cvT, k_softNil, k_softCons, k_hardNil, k_hardCons, g_hard, g_soft, g_cv, g_give, g_hardS, g_hardL, g_softS, g_softL, g_cvS, g_giveS, g_giveL, g_allSh, g_erSh, List.all_cons, List.all_nil, k_retR, k_retN, k_alA, k_hd, k_two, k_three, k_sh, k_odT, k_enS, k_enL, o_addI, o_addS, o_addL, o_sub, o_neg, o_ltI, o_leI, o_gtI, o_geI, o_lenS, o_lenL, o_lenT, o_abs, o_max, o_int, o_ixL, o_ixT, o_ixSS, o_slS, o_slL, o_in1S, o_ni1S, o_eqS, o_neS, o_eqI, o_neI, o_mul, o_div, o_mod, o_pow, o_divmod, z_ble0, z_ble1, z_ble2, z_ble3, z_ble4, z_ble5, z_ble6, z_ble7, z_ble8, z_ble9, z_ble10, z_ble13, z_ble17, S_l, S_len, S_app, es1, es2, startE, sNext, pk, DX.inR, Nat.beq, Nat.ble, List.any_cons, List.any_nil, List.filterMap_cons, List.filterMap_nil, Option.bind_some, Option.bind_none, cond_true, cond_false, decide_true, decide_false, List.map_cons, List.map_nil, List.length_cons, List.length_nil, List.length_map, List.length_set, List.getElem?_cons_zero, List.getElem?_cons_succ, List.cons_append, List.nil_append, List.set_cons_zero, List.set_cons_succ, List.replicate, Nat.reduceAdd, Nat.reduceSub, Nat.zero_add, Int.toNat_natCast, Bool.not_true, Bool.not_false, Bool.or_self, Bool.or_false, Bool.false_or, Bool.and_self, Bool.and_true, Bool.true_and, Bool.and_false, Bool.false_and, Bool.true_or, Bool.or_true, z_some, z_none, z_bind, z_then, z_map, z_mapK, b_eLc, lcStep, forStep, at_0, at_1, at_2, at_3, at_4, at_5, at_m1, ix_0, ix_1, ix_m1, blt_00, blt_0s, blt_12, blt_02, z_ifK, z_guard, z_guardN, z_seqN, z_seqR, z_seqB, z_seqC, z_sSeq, z_sIf, z_forN, z_forC, z_forB, z_forR, r_P1, r_P2, k_condSomeP, k_condNx, k_condEn, k_condSl, k_condPair, k_condTm, k_condSh, k_condI, k_condB, k_condAnd, k_condOr, k_condNot, o_gcd, k_condAndL, k_condOrL, b_jNil, b_jCons, b_eJoin, t_str, str_len, str_empty, Int.cast_ofNat_Int, Int.reduceEq, Int.reduceLT, Int.reduceLE, Int.reduceNeg, Int.reduceAdd, Int.reduceSub, Int.reduceMul, Int.reduceToNat, Int.reducePow, Nat.reduceLT, Nat.reduceLeDiff, Nat.reduceEqDiff, Nat.reduceMul, k_condSelf, x_no, x_raise, x_seqNo, b_xIf, x_inr, x_inl, b_xFn, o_neSelf, o_eqSelf, i_boolN, i_boolB, i_boolI, i_boolS, i_boolL, i_boolT, i_intN, i_intB, i_intI, i_intS, i_intL, i_intT, i_strN, i_strB, i_strI, i_strS, i_strL, i_strT, i_listN, i_listB, i_listI, i_listS, i_listL, i_listT, i_tupleN, i_tupleB, i_tupleI, i_tupleS, i_tupleL, i_tupleT, at_nat, decide_eq_true_eq, decide_eq_false_iff_not, Nat.ble_eq, and_true, true_and, Option.map_some, Option.isSome_some, *])
-- DXSIMP end
theorem sp_pot {ns : List Int} {k : Int} (hk : k = 0 ∨ k = 1) : Sat (mr__law_pot [.sh (.list (ns.map PyData.int)), .sh (.int k)]) (fun r => ∃ a b, r = potO a b ∧ Pk b) := by
  unfold mr__law_pot ev__law_pot
  have m1 : ∀ c : Int, 0 ≤ c % 2147483543 ∧ c % 2147483543 < 2147483543 := fun c => emod_lt (by decide)
  have m2 : ∀ c : Int, 0 ≤ c % 2147483563 ∧ c % 2147483563 < 2147483563 := fun c => emod_lt (by decide)
  have fin : ∀ c : Int, 0 ≤ c % 2147483563 + 1 ∧ c % 2147483563 + 1 < 2147483588 := fun c => by have := m2 c; omega
  have f1 : mulFits 613 k = true := mulFits_small (by decide) (by rcases hk with rfl | rfl <;> decide)
  have f2 : mulFits 9209 k = true := mulFits_small (by decide) (by rcases hk with rfl | rfl <;> decide)
  have f3 : ∀ c : Int, mulFits (c % 2147483543) 39161 = true := fun c => mulFits_small (by have := m1 c; omega) (by decide)
  have p18 : powFits 10 18 = true := by decide
  walk_at "dx"
  rw [f1]
  walk_at "dx"
  refine Sat.splitD (fun h => ?_) fun h => ?_
  · obtain ⟨c, hc⟩ : ∃ c : Int, (ns.map PyData.int)[k.toNat]? = some (.int c) := by
      rw [List.getElem?_map]
      have : k.toNat < ns.length := by omega
      rw [List.getElem?_eq_getElem this]
      exact ⟨_, rfl⟩
    have ha : atI (ns.map PyData.int) k = some (.int c) := by
      rw [← hc]
      rcases hk with rfl | rfl
      · exact at_0
      · exact at_1
    walk_at "dx"
    rw [ha]
    walk_at "dx"
    rw [f3, f2, p18]
    walk_at "dx"
    exact ⟨_, _, rfl, fin _⟩
  · walk_at "dx"
    rw [f3, f2, p18]
    walk_at "dx"
    exact ⟨_, _, rfl, fin _⟩
theorem Sat.tryX {sub : Nat → Nat → Bool} {nC c x : Nat} {ev : EvS} {xv : EvX} {su : Nat → Nat → EvS} {os os1 : En} {res : Res} {Q : Res → Prop} (hx : xv os = some (x, os1)) (hc : x < nC ∧ sub x c = true) (hs : ∀ a, su x a os1 = some res) (k : Q res) : Sat (eTry sub nC c ev xv su os) Q := by
  refine ⟨res, ?_, k⟩
  unfold eTry
  rw [hx]
  show (if x < nC ∧ sub x c = true then _ else none) = _
  rw [if_pos hc]
  exact suE_eq hs
theorem suAs_eq {i : Nat} {su : Nat → Nat → EvS} {x a : Nat} {os : En} {res : Res} (hi : i < os.length) (h : su x a (os.set i (some (.sh (excD a x)))) = some res) : suAs i su x a os = some (wipeR i res) := by
  unfold suAs
  rw [if_pos hi, h]; rfl
theorem e_refused_below {a : Int} (ha : Sm a) : mr__law_refused_below [.sh (.int a)] = some (.sh (.bool true)) := by
  refine eq_of_sat ?_
  unfold mr__law_refused_below ev__law_refused_below
  walk_at "dx"
  refine Sat.tryX (x := 2) (os1 := [some (.sh (.int a)), some (.lst []), none]) (res := .nx [some (.sh (.int a)), some (.lst [.sh (.bool true), .sh (.bool false)]), none]) ?_ (by decide) (fun e => ?_) ?_
  · refine eq_of_sat ?_
    walk_at "dx"
    rw [x_fraction0]
    walk_at "dx"
  · refine suAs_eq (res := .nx [some (.sh (.int a)), some (.lst [.sh (.bool true), .sh (.bool false)]), some (.sh (excD e 2))]) (show (2 : Nat) < 3 by decide) (eq_of_sat ?_)
    walk_at "dx"
    rw [o_isE, show errSub 2 0 = true from rfl, show errSubB 2 "ValueError" = true from rfl]
    walk_at "dx"
    rw [o_isE]
    walk_at "dx"
    rw [o_isE, show errSub 2 1 = false from rfl]
    walk_at "dx"
    decide
  walk_at "dx"
  refine Sat.tryX (x := 2) (os1 := [some (.sh (.int a)), some (.lst [.sh (.bool true), .sh (.bool false)]), none]) (res := .nx [some (.sh (.int a)), some (.lst [.sh (.bool true), .sh (.bool false), .sh (.bool true), .sh (.bool false)]), none]) ?_ (by decide) (fun e => ?_) ?_
  · refine eq_of_sat ?_
    walk_at "dx"
    rw [x_over0 ha (show (1 : Int).natAbs < 2 ^ 900 by decide) (show (1 : Int).natAbs < 2 ^ 900 by decide)]
    walk_at "dx"
  · refine suAs_eq (res := .nx [some (.sh (.int a)), some (.lst [.sh (.bool true), .sh (.bool false), .sh (.bool true), .sh (.bool false)]), some (.sh (excD e 2))]) (show (2 : Nat) < 3 by decide) (eq_of_sat ?_)
    walk_at "dx"
    rw [o_isE, show errSub 2 2 = true from rfl]
    walk_at "dx"
    rw [o_isE, show errSub 2 3 = false from rfl]
    walk_at "dx"
    decide
  walk_at "dx"
  rw [show opRepr [.list [.bool true, .bool false, .bool true, .bool false]] = some (.val (.str (PyData.list [.bool true, .bool false, .bool true, .bool false]).shown)) from o_reprL rfl (by decide) (by decide)]
  walk_at "dx"
  rw [show (PyData.list [.bool true, .bool false, .bool true, .bool false]).shown = Str.ofString "[True, False, True, False]" by decide]
  walk_at "dx"
theorem e_refused_empty : mr__law_refused_empty [] = some (.sh (.bool true)) := by
  refine eq_of_sat ?_
  unfold mr__law_refused_empty ev__law_refused_empty
  walk_at "dx"
  refine Sat.tryX (x := 3) (os1 := [some (.lst []), none]) (res := .nx [some (.lst [.sh (.bool true)]), none]) ?_ (by decide) (fun e => ?_) ?_
  · refine eq_of_sat ?_
    walk_at "dx"
    rw [x_least0]
    walk_at "dx"
  · refine suAs_eq (res := .nx [some (.lst [.sh (.bool true)]), some (.sh (excD e 3))]) (show (1 : Nat) < 2 by decide) (eq_of_sat ?_)
    walk_at "dx"
    rw [o_isE, show errSub 3 1 = true from rfl, show errSubB 3 "LookupError" = true from rfl]
    walk_at "dx"
    rw [o_isE]
    walk_at "dx"
    decide
  walk_at "dx"
  refine Sat.tryX (x := 3) (os1 := [some (.lst [.sh (.bool true)]), none]) (res := .nx [some (.lst [.sh (.bool true), .sh (.bool true)]), none]) ?_ (by decide) (fun e => ?_) ?_
  · refine eq_of_sat ?_
    walk_at "dx"
    rw [x_greatest0]
    walk_at "dx"
  · refine suAs_eq (res := .nx [some (.lst [.sh (.bool true), .sh (.bool true)]), some (.sh (excD e 3))]) (show (1 : Nat) < 2 by decide) (eq_of_sat ?_)
    walk_at "dx"
    rw [o_isE, show errSub 3 3 = true from rfl]
    walk_at "dx"
    rw [o_isE, show errSub 3 0 = false from rfl]
    walk_at "dx"
    decide
  walk_at "dx"
  rw [show opRepr [.list [.bool true, .bool true]] = some (.val (.str (PyData.list [.bool true, .bool true]).shown)) from o_reprL rfl (by decide) (by decide)]
  walk_at "dx"
  rw [show (PyData.list [.bool true, .bool true]).shown = Str.ofString "[True, True]" by decide]
  walk_at "dx"
end K10
set_option exponentiation.threshold 5000
namespace K10
open PySem PySem.Spec PyProof.Rows L2 DX
-- DXSIMP begin
local macro_rules | `(tactic| walk_at "dx") => `(tactic| simp only [b_escs, b_rdTms, b_hardTms, b_softTms, b_esCons, b_opV, b_opL, b_opT, b_eOp, b_rdNil, b_rdCons, b_rdT, b_rdA, b_erS, b_erL, b_eVar, b_eC, b_esNil, b_tTru, b_tBl, b_tAnd, b_tOr, b_tNot, b_eAnd, b_eOr, b_eNot, b_eIf, b_eTup, b_eLst, b_eTupO, b_eOpL, k_scOS, b_mvNil, b_mvCons, b_sAppTp, b_erTp, g_hardTp, g_softTp, g_giveTp, k_tpl, k_shTp, b_oSome, b_oNone, b_eSl, b_eMt, b_fn0, b_fnP, b_sRet, b_sAsg, b_gvName, b_gvNil, b_gvCons, b_gvTup, b_gvSub, b_sAsgG, b_sApp, b_sPar, b_sPar3, b_sAppIx, b_sAugI, b_cvsNil, b_cvsCons, b_bindCond, b_condFst, b_condSnd, b_giveT, b_sFor, b_iSq, b_iR1, b_iEnA, wipeE, cYes, at_zero, k_bool, k_int, k_str, k_tup, k_lst, k_list, k_itL, k_itT, k_itSS, k_trN, k_trB, k_trI, k_trSS, k_trL, k_trT, k_scN, k_scB, k_scI, k_scS, k_scL, k_scT, k_shS, k_shL, k_softT, k_hardT, k_cvT, k_softNil, k_softCons, k_hardNil, k_hardCons, g_hard, g_soft, g_cv, g_give, g_hardS, g_hardL, g_softS, g_softL, g_cvS, g_giveS, g_giveL, g_allSh, g_erSh, List.all_cons, List.all_nil, k_retR, k_retN, k_alA, k_hd, k_two, k_three, k_sh, k_odT, k_enS, k_enL, o_addI, o_addS, o_addL, o_sub, o_neg, o_ltI, o_leI, o_gtI, o_geI, o_lenS, o_lenL, o_lenT, o_abs, o_max, o_int, o_ixL, o_ixT, o_ixSS, o_slS, o_slL, o_in1S, o_ni1S, o_eqS, o_neS, o_eqI, o_neI, o_mul, o_div, o_mod, o_pow, o_divmod, z_ble0, z_ble1, z_ble2, z_ble3, z_ble4, z_ble5, z_ble6, z_ble7, z_ble8, z_ble9, z_ble10, z_ble13, z_ble17, S_l, S_len, S_app, es1, es2, startE, sNext, pk, DX.inR, Nat.beq, Nat.ble, List.any_cons, List.any_nil, List.filterMap_cons, List.filterMap_nil, Option.bind_some, Option.bind_none, cond_true, cond_false, decide_true, decide_false, List.map_cons, List.map_nil, List.length_cons, List.length_nil, List.length_map, List.length_set, List.getElem?_cons_zero, List.getElem?_cons_succ, List.cons_append, List.nil_append, List.set_cons_zero, List.set_cons_succ, List.replicate, Nat.reduceAdd, Nat.reduceSub, Nat.zero_add, Int.toNat_natCast, Bool.not_true, Bool.not_false, Bool.or_self, Bool.or_false, Bool.false_or, Bool.and_self, Bool.and_true, Bool.true_and, Bool.and_false, Bool.false_and, Bool.true_or, Bool.or_true, z_some, z_none, z_bind, z_then, z_map, z_mapK, b_eLc, lcStep, forStep, at_0, at_1, at_2, at_3, at_4, at_5, at_m1, ix_0, ix_1, ix_m1, blt_00, blt_0s, blt_12, blt_02, z_ifK, z_guard, z_guardN, z_seqN, z_seqR, z_seqB, z_seqC, z_sSeq, z_sIf, z_forN, z_forC, z_forB, z_forR, r_P1, r_P2, k_condSomeP, k_condNx, k_condEn, k_condSl, k_condPair, k_condTm, k_condSh, k_condI, k_condB, k_condAnd, k_condOr, k_condNot, o_gcd, k_condAndL, k_condOrL, b_jNil, b_jCons, b_eJoin, t_str, str_len, str_empty, Int.cast_ofNat_Int, Int.reduceEq, Int.reduceLT, Int.reduceLE, Int.reduceNeg, Int.reduceAdd, Int.reduceSub, Int.reduceMul, Int.reduceToNat, Int.reducePow, Nat.reduceLT, Nat.reduceLeDiff, Nat.reduceEqDiff, Nat.reduceMul, k_condSelf, x_no, x_raise, x_seqNo, b_xIf, x_inr, x_inl, b_xFn, o_neSelf, o_eqSelf, i_boolN, i_boolB, i_boolI, i_boolS, i_boolL, i_boolT, i_intN, i_intB, i_intI, i_intS, i_intL, i_intT, i_strN, i_strB, i_strI, i_strS, i_strL, i_strT, i_listN, i_listB, i_listI, i_listS, i_listL, i_listT, i_tupleN, i_tupleB, i_tupleI, i_tupleS, i_tupleL, i_tupleT, at_nat, decide_eq_true_eq, decide_eq_false_iff_not, Nat.ble_eq, and_true, true_and, Option.map_some, Option.isSome_some])
local macro_rules | `(tactic| walk_at "dxs") => `(tactic| simp only [b_escs, b_rdTms, b_hardTms, b_softTms, b_esCons, b_opV, b_opL, b_opT, b_eOp, b_rdNil, b_rdCons, b_rdT, b_rdA, b_erS, b_erL, b_eVar, b_eC, b_esNil, b_tTru, b_tBl, b_tAnd, b_tOr, b_tNot, b_eAnd, b_eOr, b_eNot, b_eIf, b_eTup, b_eLst, b_eTupO, b_eOpL, k_scOS, b_mvNil, b_mvCons, b_sAppTp, b_erTp, g_hardTp, g_softTp, g_giveTp, k_tpl, k_shTp, b_oSome, b_oNone, b_eSl, b_eMt, b_fn0, b_fnP, b_sRet, b_sAsg, b_gvName, b_gvNil, b_gvCons, b_gvTup, b_gvSub, b_sAsgG, b_sApp, b_sPar, b_sPar3, b_sAppIx, b_sAugI, b_cvsNil, b_cvsCons, b_bindCond, b_condFst, b_condSnd, b_giveT, b_sFor, b_iSq, b_iR1, b_iEnA, wipeE, cYes, at_zero, k_bool, k_int, k_str, k_tup, k_lst, k_list, k_itL, k_itT, k_itSS, k_trN, k_trB, k_trI, k_trSS, k_trL, k_trT, k_scN, k_scB, k_scI, k_scS, k_scL, k_scT, k_shS, k_shL, k_softT, k_hardT, k_cvT, k_softNil, k_softCons, k_hardNil, k_hardCons, g_hard, g_soft, g_cv, g_give, g_hardS, g_hardL, g_softS, g_softL, g_cvS, g_giveS, g_giveL, g_allSh, g_erSh, List.all_cons, List.all_nil, k_retR, k_retN, k_alA, k_hd, k_two, k_three, k_sh, k_odT, k_enS, k_enL, o_addI, o_addS, o_addL, o_sub, o_neg, o_ltI, o_leI, o_gtI, o_geI, o_lenS, o_lenL, o_lenT, o_abs, o_max, o_int, o_ixL, o_ixT, o_ixSS, o_slS, o_slL, o_in1S, o_ni1S, o_eqS, o_neS, o_eqI, o_neI, o_mul, o_div, o_mod, o_pow, o_divmod, z_ble0, z_ble1, z_ble2, z_ble3, z_ble4, z_ble5, z_ble6, z_ble7, z_ble8, z_ble9, z_ble10, z_ble13, z_ble17, S_l, S_len, S_app, es1, es2, startE, sNext, pk, DX.inR, Nat.beq, Nat.ble, List.any_cons, List.any_nil, List.filterMap_cons, List.filterMap_nil, Option.bind_some, Option.bind_none, cond_true, cond_false, decide_true, decide_false, List.map_cons, List.map_nil, List.length_cons, List.length_nil, List.length_map, List.length_set, List.getElem?_cons_zero, List.getElem?_cons_succ, List.cons_append, List.nil_append, List.set_cons_zero, List.set_cons_succ, List.replicate, Nat.reduceAdd, Nat.reduceSub, Nat.zero_add, Int.toNat_natCast, Bool.not_true, Bool.not_false, Bool.or_self, Bool.or_false, Bool.false_or, Bool.and_self, Bool.and_true, Bool.true_and, Bool.and_false, Bool.false_and, Bool.true_or, Bool.or_true, z_some, z_none, z_bind, z_then, z_map, z_mapK, b_eLc, lcStep, forStep, at_0, at_1, at_2, at_3, at_4, at_5, at_m1, ix_0, ix_1, ix_m1, blt_00, blt_0s, blt_12, blt_02, z_ifK, z_guard, z_guardN, z_seqN, z_seqR, z_seqB, z_seqC, z_sSeq, z_sIf, z_forN, z_forC, z_forB, z_forR, r_P1, r_P2, k_condSomeP, k_condNx, k_condEn, k_condSl, k_condPair, k_condTm, k_condSh, k_condI, k_condB, k_condAnd, k_condOr, k_condNot, o_gcd, k_condAndL, k_condOrL, b_jNil, b_jCons, b_eJoin, t_str, str_len, str_empty, Int.cast_ofNat_Int, Int.reduceEq, Int.reduceLT, Int.reduceLE, Int.reduceNeg, Int.reduceAdd, Int.reduceSub, Int.reduceMul, Int.reduceToNat, Int.reducePow, Nat.reduceLT, Nat.reduceLeDiff, Nat.reduceEqDiff, Nat.reduceMul, k_condSelf, x_no, x_raise, x_seqNo, b_xIf, x_inr, x_inl, b_xFn, o_neSelf, o_eqSelf, i_boolN, i_boolB, i_boolI, i_boolS, i_boolL, i_boolT, i_intN, i_intB, i_intI, i_intS, i_intL, i_intT, i_strN, i_strB, i_strI, i_strS, i_strL, i_strT, i_listN, i_listB, i_listI, i_listS, i_listL, i_listT, i_tupleN, i_tupleB, i_tupleI, i_tupleS, i_tupleL, i_tupleT, at_nat, decide_eq_true_eq, decide_eq_false_iff_not, Nat.ble_eq, and_true, true_and, Option.map_some, Option.isSome_some, *])
-- DXSIMP end
theorem strOk_append (x y : Str) : PyData.strOk (x ++ y) = (PyData.strOk x && PyData.strOk y) := by
  show Array.all (x.cps ++ y.cps) _ = _
  rw [Array.all_append]; rfl
theorem strOk_ofString (s : String) : PyData.strOk (Str.ofString s) = true := by
  rw [Str.ofString_eq_byList]
  show Array.all (List.map Char.toNat s.toList).toArray (fun x => decide (x < 1114112)) = true
  rw [List.all_toArray, List.all_map]
  refine List.all_eq_true.mpr fun c _ => decide_eq_true ?_
  have := c.valid
  show c.val.toNat < 1114112
  rcases this with h | h
  · exact Nat.lt_trans h (by decide)
  · exact h.2
/-- data that repr carries -/
def Rp (k n : Nat) (d : PyData) : Prop := lgB d = true ∧ d.depth ≤ k ∧ d.weight ≤ n
theorem Rp.mono {k n k' n' : Nat} {d : PyData} (h : Rp k n d) (a : k ≤ k') (b : n ≤ n') : Rp k' n' d := ⟨h.1, Nat.le_trans h.2.1 a, Nat.le_trans h.2.2 b⟩
theorem Rp.int {i : Int} (h : i.natAbs < 2 ^ 400) : Rp 1 402 (.int i) := by
  refine ⟨Nat.ble_eq_true_of_le h, ?_, ?_⟩
  · simp only [PyData.depth]; decide
  · simp only [PyData.weight]
    have := PySem.Flt.log2_lt_of (by decide) h
    split <;> omega
theorem Rp.str {x : Str} {n : Nat} (h : PyData.strOk x = true) (hn : x.length ≤ n) : Rp 1 (n + 1) (.str x) := by
  refine ⟨h, ?_, ?_⟩
  · simp only [PyData.depth]; decide
  · simp only [PyData.weight]; exact Nat.le_trans hn (Nat.le_succ n)
theorem all_depth {k : Nat} : ∀ {ds : List PyData}, (∀ d ∈ ds, d.depth ≤ k) → PyData.depthAll ds ≤ k
  | [], _ => by simp only [PyData.depthAll]; exact Nat.zero_le _
  | d :: ds, h => by
    simp only [PyData.depthAll]
    exact Nat.max_le.mpr ⟨h d List.mem_cons_self, all_depth fun x q => h x (List.mem_cons_of_mem _ q)⟩
theorem all_weight {n : Nat} : ∀ {ds : List PyData}, (∀ d ∈ ds, d.weight ≤ n) → PyData.weightAll ds ≤ ds.length * (n + 1)
  | [], _ => by simp only [PyData.weightAll]; exact Nat.zero_le _
  | d :: ds, h => by
    simp only [PyData.weightAll, List.length_cons, Nat.succ_mul]
    have := h d List.mem_cons_self
    have := all_weight (ds := ds) fun x q => h x (List.mem_cons_of_mem _ q)
    omega
theorem Rp.lst {k n : Nat} {ds : List PyData} (h : ∀ d ∈ ds, Rp k n d) : Rp (k + 1) (ds.length * (n + 1) + 1) (.list ds) := by
  refine ⟨?_, ?_, ?_⟩
  · rw [lgB, lgAll_all]; exact List.all_eq_true.mpr fun d q => (h d q).1
  · simp only [PyData.depth]
    have := all_depth fun d q => (h d q).2.1
    omega
  · simp only [PyData.weight]
    have := all_weight fun d q => (h d q).2.2
    omega
theorem Rp.tup {k n : Nat} {ds : List PyData} (h : ∀ d ∈ ds, Rp k n d) : Rp (k + 1) (ds.length * (n + 1) + 1) (.tuple ds) := by
  refine ⟨?_, ?_, ?_⟩
  · rw [lgB, lgAll_all]; exact List.all_eq_true.mpr fun d q => (h d q).1
  · simp only [PyData.depth]
    have := all_depth fun d q => (h d q).2.1
    omega
  · simp only [PyData.weight]
    have := all_weight fun d q => (h d q).2.2
    omega
theorem Rp.rep {k n : Nat} {d : PyData} (h : Rp k n d) (hk : k ≤ 64 := by decide) (hn : n ≤ 100000 := by decide) : opRepr [d] = some (.val (.str d.shown)) := o_reprL h.1 (Nat.le_trans h.2.1 hk) (Nat.le_trans h.2.2 hn)

theorem Rp.fr {m : Nat} {x : Fr} (h : Ok m x) (hm : m ≤ 400) : Rp 2 807 (frD x) := by
  refine Rp.tup (n := 402) (k := 1) (ds := [.int x.1, .int x.2]) fun d q => ?_
  simp only [List.mem_cons, List.not_mem_nil, or_false] at q
  rcases q with rfl | rfl
  · exact .int (Nat.lt_of_lt_of_le h.1 (pw hm))
  · exact .int (Nat.lt_of_lt_of_le h.2.1 (pw hm))
theorem Rp.two {a b : Int} (h : Rp 1 402 (.int a)) (h' : Rp 1 402 (.int b)) : Rp 2 807 (frD (a, b)) := by
  refine Rp.tup (n := 402) (k := 1) (ds := [.int a, .int b]) fun d q => ?_
  simp only [List.mem_cons, List.not_mem_nil, or_false] at q
  rcases q with rfl | rfl
  · exact h
  · exact h'
theorem Rps.nil {k n : Nat} : ∀ d ∈ ([] : List PyData), Rp k n d := fun _ q => nomatch q
theorem Rps.cons {k n : Nat} {d : PyData} {ds : List PyData} (h : Rp k n d) (hs : ∀ d ∈ ds, Rp k n d) : ∀ x ∈ d :: ds, Rp k n x := fun x q => by
  rcases List.mem_cons.mp q with rfl | q
  · exact h
  · exact hs x q
theorem repL {ds : List PyData} (h : ∀ d ∈ ds, Rp 2 807 d) (hl : ds.length ≤ 100) : opRepr [.list ds] = some (.val (.str (PyData.list ds).shown)) := by
  have := Rp.lst h
  exact o_reprL this.1 (Nat.le_trans this.2.1 (by decide)) (Nat.le_trans this.2.2 (by omega))
theorem e_made_right {a b : Int} (hb : Pk b) : Sat (mr__law_made_right (potO a b) []) (fun r => ∃ a b, r = (.sh (.bool true), potO a b) ∧ Pk b) := by
  unfold mr__law_made_right ev__law_made_right
  walk_at "dx"
  refine (sp_great hb).mono fun r ⟨g, a1, b1, e, g0, g1, hb1⟩ => ?_
  subst e
  walk_at "dx"
  refine (sp_pick hb1 (Nat.le_of_ble_eq_true rfl) (Nat.le_of_ble_eq_true rfl)).mono fun r ⟨d, a2, b2, e, hd, hb2⟩ => ?_
  subst e
  obtain ⟨z, rfl, z0, z1⟩ : ∃ z : Int, d = .int z ∧ 0 ≤ z ∧ z < 1000000000000 := by
    simp only [List.mem_cons, List.not_mem_nil, or_false] at hd
    rcases hd with rfl | rfl | rfl | rfl | rfl | rfl <;> exact ⟨_, rfl, by omega, by omega⟩
  walk_at "dx"
  refine (sp_signed hb2).mono fun r ⟨u, a3, b3, e, hu, hb3⟩ => ?_
  subst e
  walk_at "dx"
  refine (sp_great hb3).mono fun r ⟨g', a4, b4, e, g0', g1', hb4⟩ => ?_
  subst e
  walk_at "dx"
  refine (sp_pick hb4 (Nat.le_of_ble_eq_true rfl) (Nat.le_of_ble_eq_true rfl)).mono fun r ⟨d, a5, b5, e, hd, hb5⟩ => ?_
  subst e
  obtain ⟨y, rfl, y0, y1⟩ : ∃ z : Int, d = .int z ∧ 0 ≤ z ∧ z < 1000000000000 := by
    simp only [List.mem_cons, List.not_mem_nil, or_false] at hd
    rcases hd with rfl | rfl | rfl | rfl | rfl | rfl <;> exact ⟨_, rfl, by omega, by omega⟩
  walk_at "dx"
  refine (sp_signed hb5).mono fun r ⟨v, a6, b6, e, hv, hb6⟩ => ?_
  subst e
  have e41 : (2 : Nat) ^ 41 = 2199023255552 := by decide
  have hu1 : u.natAbs < 2 ^ 41 := by rw [e41]; omega
  have hv1 : v.natAbs < 2 ^ 41 := by rw [e41]; omega
  have hv0 : v ≠ 0 := by omega
  have hn1 : (-v).natAbs < 2 ^ 41 := by rw [Int.natAbs_neg]; exact hv1
  have hm1 : (-u).natAbs < 2 ^ 41 := by rw [Int.natAbs_neg]; exact hu1
  have r1 := (Rp.fr (mk_ok hv0 hu1 hv1) (by decide)).rep
  have r2 := (Rp.fr (mk_ok (show -v ≠ 0 by omega) hu1 hn1) (by decide)).rep
  have i1 : Rp 1 402 (.int u) := Rp.int (Nat.lt_of_lt_of_le hu1 (pw (by decide)))
  have i2 : Rp 1 402 (.int (-u)) := Rp.int (Nat.lt_of_lt_of_le hm1 (pw (by decide)))
  have i3 : Rp 1 402 (.int 1) := Rp.int (by decide)
  have r3 : opRepr [.list [frD (u, 1), frD (-u, 1)]] = some (.val (.str (PyData.list [frD (u, 1), frD (-u, 1)]).shown)) :=
    repL (Rps.cons (Rp.two i1 i3) (Rps.cons (Rp.two i2 i3) Rps.nil)) (Nat.le_of_ble_eq_true rfl)
  have f1 := e_fraction (a := u) hv0 (lt4 hv1 (by decide))
  have f2 := e_made (a := u) hv0 (lt4 hv1 (by decide))
  have f3 := e_fraction (a := u) (show -v ≠ 0 by omega) (lt4 hn1 (by decide))
  have f4 := e_made (a := u) (show -v ≠ 0 by omega) (lt4 hn1 (by decide))
  walk_at "dx"
  rw [f1]
  walk_at "dx"
  rw [r1]
  walk_at "dx"
  rw [f2]
  walk_at "dx"
  rw [r1]
  walk_at "dx"
  rw [f3]
  walk_at "dx"
  rw [r2]
  walk_at "dx"
  rw [f4]
  walk_at "dx"
  rw [r2]
  walk_at "dx"
  rw [e_whole]
  walk_at "dx"
  rw [e_whole]
  walk_at "dx"
  rw [r3]
  walk_at "dx"
  rw [show opRepr [.list [.tuple [.int u, .int 1], .tuple [.int (-u), .int 1]]] = _ from r3]
  walk_at "dx"
  rw [e_refused_below (Nat.lt_of_lt_of_le hu1 (pw (by decide)))]
  walk_at "dx"
  rw [f1]
  walk_at "dx"
  rw [r1]
  walk_at "dx"
  rw [f2]
  walk_at "dx"
  rw [r1]
  walk_at "dx"
  exact ⟨_, _, rfl, hb6⟩
theorem strOk_txt (a b : Int) : PyData.strOk (txtF a b) = true := by
  unfold txtF
  cases decide (b = 1) with
  | true => exact strOk_ofString _
  | false =>
    show PyData.strOk (strI a ++ Str.ofString "/" ++ strI b) = true
    rw [strOk_append, strOk_append]
    show (PyData.strOk (Str.ofString _) && PyData.strOk (Str.ofString _) && PyData.strOk (Str.ofString _)) = true
    rw [strOk_ofString, strOk_ofString, strOk_ofString]; rfl
theorem txt_len {a b : Int} (ha : a.natAbs < 2 ^ 400) (hb : b.natAbs < 2 ^ 400) : (txtF a b).length ≤ 245 := by
  unfold txtF
  have h1 := strI_len ha
  have h2 := strI_len hb
  cases decide (b = 1) with
  | true => exact Nat.le_trans h1 (by decide)
  | false =>
    show (strI a ++ Str.ofString "/" ++ strI b).length ≤ 245
    rw [str_len, str_len, slash_len]; omega
theorem sgn_le (u : Int) : (sgn u).natAbs ≤ 1 := by
  unfold sgn
  cases decide (u = 0) <;> cases decide (0 < u) <;> decide
theorem e_alone_right {x : Fr} (hx : Ok 60 x) : mr__law_alone_right [.sh (frD x)] = some (.sh (.bool true)) := by
  refine eq_of_sat ?_
  obtain ⟨u, v⟩ := x
  have hv : v ≠ 0 := by have := hx.2.2.1; show v ≠ 0; omega
  have h1 := hx.1
  have h2 := hx.2.1
  have p4 := pw (show 60 ≤ 400 by decide)
  have hu4 : u.natAbs < 2 ^ 400 := Nat.lt_of_lt_of_le h1 p4
  have hv4 : v.natAbs < 2 ^ 400 := Nat.lt_of_lt_of_le h2 p4
  have hm1 : (-u).natAbs < 2 ^ 60 := by rw [Int.natAbs_neg]; exact h1
  have hp : 0 < v := hx.2.2.1
  have r : opRepr [.list [.tuple [.int (-u), .int v], .int (sgn u), .int (divV u v), .int (-divV (-u) v), .str (txtF u v)]] = _ := repL (Rps.cons (Rp.two (Rp.int (Nat.lt_of_lt_of_le hm1 p4)) (Rp.int hv4)) (Rps.cons (Rp.mono (Rp.int (Nat.lt_of_le_of_lt (sgn_le u) (by decide))) (by decide) (by decide))
    (Rps.cons (Rp.mono (Rp.int (Nat.lt_of_lt_of_le (div_le hp h1) (pw (by decide)))) (by decide) (by decide)) (Rps.cons (Rp.mono (Rp.int (by rw [Int.natAbs_neg]; exact Nat.lt_of_lt_of_le (div_le hp hm1) (pw (by decide)))) (by decide) (by decide))
    (Rps.cons (Rp.mono (Rp.str (strOk_txt u v) (txt_len hu4 hv4)) (by decide) (by decide)) Rps.nil))))) (Nat.le_of_ble_eq_true rfl)
  have q1 := e_lsign (a := u)
  have q2 := e_ltext hu4 hv4
  have q3 := e_text hu4 hv4
  have q4 := e_opposite (a := u) (b := v)
  have q5 := e_sign (a := u) (b := v)
  have q6 := e_floor (a := u) hv (Nat.lt_of_lt_of_le h2 (pw (by decide)))
  have q7 := e_ceil (a := u) hv (Nat.lt_of_lt_of_le h2 (pw (by decide)))
  have d1 : divFits u v = true := divFits_of hv (lt4 h2 (by decide))
  have d2 : divFits (-u) v = true := divFits_of hv (lt4 h2 (by decide))
  unfold mr__law_alone_right ev__law_alone_right frD
  clear hx h1 h2 hu4 hv4 p4 hm1 hp
  unfold frD at q4
  walk_at "dxs"
theorem e_two_right {x y : Fr} (hx : Ok 60 x) (hy : Ok 60 y) : mr__law_two_right [.sh (frD x), .sh (frD y)] = some (.sh (.bool true)) := by
  refine eq_of_sat ?_
  obtain ⟨a, b⟩ := x
  obtain ⟨c, d⟩ := y
  have hb : b ≠ 0 := by have := hx.2.2.1; show b ≠ 0; omega
  have hd : d ≠ 0 := by have := hy.2.2.1; show d ≠ 0; omega
  obtain ⟨s1, s2⟩ := hx.sm (by decide)
  obtain ⟨s3, s4⟩ := hy.sm (by decide)
  have a1 := wide_lt hx.1 hy.2.1
  have a2 := wide_lt hy.1 hx.2.1
  have a3 := wide_lt hx.2.1 hy.2.1
  have a4 := wide_lt hx.1 hy.1
  have p4 := pw (show 121 ≤ 4000 by decide)
  have n1 := mul_ne hb hd
  have t1 := mk_ok n1 (m := 121) (nat_add a1 a2) (Nat.lt_of_lt_of_le a3 (pw (by decide)))
  have t2 := mk_ok n1 (m := 121) (nat_sub a1 a2) (Nat.lt_of_lt_of_le a3 (pw (by decide)))
  have t3 := mk_ok n1 (m := 121) (Nat.lt_of_lt_of_le a4 (pw (by decide))) (Nat.lt_of_lt_of_le a3 (pw (by decide)))
  have r : opRepr [.list [frD (mk (a * d + c * b) (b * d)), frD (mk (a * d - c * b) (b * d)), frD (mk (a * c) (b * d)), .int (sgn (a * d - c * b))]] = _ := repL (Rps.cons (Rp.fr t1 (by decide)) (Rps.cons (Rp.fr t2 (by decide)) (Rps.cons (Rp.fr t3 (by decide)) (Rps.cons (Rp.mono (Rp.int (Nat.lt_of_le_of_lt (sgn_le _) (by decide))) (by decide) (by decide)) Rps.nil)))) (Nat.le_of_ble_eq_true rfl)
  have l3 := lt4 a3 (by decide)
  have q1 := e_made (a := a * d + c * b) n1 l3
  have q2 := e_made (a := a * d - c * b) n1 l3
  have q3 := e_made (a := a * c) n1 l3
  have q4 := e_less (a := a) (b := b) (c := c) (d := d) s1 s2 s3 s4
  have q5 := e_plus hb hd s1 s2 s3 s4
  have q6 := e_minus hb hd s1 s2 s3 s4
  have q7 := e_times hb hd s1 s2 s3 s4
  have q8 := e_compare (a := a) (b := b) (c := c) (d := d) s1 s2 s3 s4
  have m1 := s1.fit s4
  have m2 := s3.fit s2
  have m3 := s2.fit s4
  have m4 := s1.fit s3
  have m5 := s2.fit s3
  have hc : c ≠ 0 → mr__law_made [.sh (.int (a * d)), .sh (.int (b * c))] = some (.sh (frD (mk (a * d) (b * c)))) := fun hc => e_made (mul_ne hb hc) (lt4 (wide_lt hx.2.1 hy.1) (by decide))
  have ho : c ≠ 0 → mr_over [.sh (.tuple [.int a, .int b]), .sh (.tuple [.int c, .int d])] = some (.sh (frD (mk (a * d) (b * c)))) := fun hc => e_over (a := a) (b := b) (c := c) (d := d) hb hc s1 s2 s3 s4
  have hr : c ≠ 0 → opRepr [.list [frD (mk (a * d) (b * c)), frD (mk (a * d) (b * c))]] = some (.val (.str (PyData.list [frD (mk (a * d) (b * c)), frD (mk (a * d) (b * c))]).shown)) := fun hc =>
    have t := mk_ok (mul_ne hb hc) (m := 121) (Nat.lt_of_lt_of_le a1 (pw (by decide))) (Nat.lt_of_lt_of_le (wide_lt hx.2.1 hy.1) (pw (by decide)))
    repL (Rps.cons (Rp.fr t (by decide)) (Rps.cons (Rp.fr t (by decide)) Rps.nil)) (Nat.le_of_ble_eq_true rfl)
  unfold mr__law_two_right ev__law_two_right
  rw [show frD (a, b) = .tuple [.int a, .int b] from rfl, show frD (c, d) = .tuple [.int c, .int d] from rfl]
  clear hx hy s1 s2 s3 s4 a1 a2 a3 a4 p4 n1 t1 t2 t3 l3 hb hd
  refine Sat.mono (P := fun r => r = .sh (.bool true)) ?_ fun _ h => h
  revert hc ho hr
  walk_at "dxs"
  intro hc ho hr
  refine ⟨by decide, by decide, by decide, ?_⟩
  refine Sat.splitD (fun h => ?_) fun h => ?_
  · walk_at "dx"
  · have hc := hc h
    have ho := ho h
    have hr := hr h
    clear r
    walk_at "dxs"
end K10
set_option exponentiation.threshold 5000
namespace K10
open PySem PySem.Spec PyProof.Rows L2 DX
-- DXSIMP begin
local macro_rules | `(tactic| walk_at "dx") => `(tactic| simp only [b_escs, b_rdTms, b_hardTms, b_softTms, b_esCons, b_opV, b_opL, b_opT, b_eOp, b_rdNil, b_rdCons, b_rdT, b_rdA, b_erS, b_erL, b_eVar, b_eC, b_esNil, b_tTru, b_tBl, b_tAnd, b_tOr, b_tNot, b_eAnd, b_eOr, b_eNot, b_eIf, b_eTup, b_eLst, b_eTupO, b_eOpL, k_scOS, b_mvNil, b_mvCons, b_sAppTp, b_erTp, g_hardTp, g_softTp, g_giveTp, k_tpl, k_shTp, b_oSome, b_oNone, b_eSl, b_eMt, b_fn0, b_fnP, b_sRet, b_sAsg, b_gvName, b_gvNil, b_gvCons, b_gvTup, b_gvSub, b_sAsgG, b_sApp, b_sPar, b_sPar3, b_sAppIx, b_sAugI, b_cvsNil, b_cvsCons, b_bindCond, b_condFst, b_condSnd, b_giveT, b_sFor, b_iSq, b_iR1, b_iEnA, wipeE, cYes, at_zero, k_bool, k_int, k_str, k_tup, k_lst, k_list, k_itL, k_itT, k_itSS, k_trN, k_trB, k_trI, k_trSS, k_trL, k_trT, k_scN, k_scB, k_scI, k_scS, k_scL, k_scT, k_shS, k_shL, k_softT, k_hardT, k_cvT, k_softNil, k_softCons, k_hardNil, k_hardCons, g_hard, g_soft, g_cv, g_give, g_hardS, g_hardL, g_softS, g_softL, g_cvS, g_giveS, g_giveL, g_allSh, g_erSh, List.all_cons, List.all_nil, k_retR, k_retN, k_alA, k_hd, k_two, k_three, k_sh, k_odT, k_enS, k_enL, o_addI, o_addS, o_addL, o_sub, o_neg, o_ltI, o_leI, o_gtI, o_geI, o_lenS, o_lenL, o_lenT, o_abs, o_max, o_int, o_ixL, o_ixT, o_ixSS, o_slS, o_slL, o_in1S, o_ni1S, o_eqS, o_neS, o_eqI, o_neI, o_mul, o_div, o_mod, o_pow, o_divmod, z_ble0, z_ble1, z_ble2, z_ble3, z_ble4, z_ble5, z_ble6, z_ble7, z_ble8, z_ble9, z_ble10, z_ble13, z_ble17, S_l, S_len, S_app, es1, es2, startE, sNext, pk, DX.inR, Nat.beq, Nat.ble, List.any_cons, List.any_nil, List.filterMap_cons, List.filterMap_nil, Option.bind_some, Option.bind_none, cond_true, cond_false, decide_true, decide_false, List.map_cons, List.map_nil, List.length_cons, List.length_nil, List.length_map, List.length_set, List.getElem?_cons_zero, List.getElem?_cons_succ, List.cons_append, List.nil_append, List.set_cons_zero, List.set_cons_succ, List.replicate, Nat.reduceAdd, Nat.reduceSub, Nat.zero_add, Int.toNat_natCast, Bool.not_true, Bool.not_false, Bool.or_self, Bool.or_false, Bool.false_or, Bool.and_self, Bool.and_true, Bool.true_and, Bool.and_false, Bool.false_and, Bool.true_or, Bool.or_true, z_some, z_none, z_bind, z_then, z_map, z_mapK, b_eLc, lcStep, forStep, at_0, at_1, at_2, at_3, at_4, at_5, at_m1, ix_0, ix_1, ix_m1, blt_00, blt_0s, blt_12, blt_02, z_ifK, z_guard, z_guardN, z_seqN, z_seqR, z_seqB, z_seqC, z_sSeq, z_sIf, z_forN, z_forC, z_forB, z_forR, r_P1, r_P2, k_condSomeP, k_condNx, k_condEn, k_condSl, k_condPair, k_condTm, k_condSh, k_condI, k_condB, k_condAnd, k_condOr, k_condNot, o_gcd, k_condAndL, k_condOrL, b_jNil, b_jCons, b_eJoin, t_str, str_len, str_empty, Int.cast_ofNat_Int, Int.reduceEq, Int.reduceLT, Int.reduceLE, Int.reduceNeg, Int.reduceAdd, Int.reduceSub, Int.reduceMul, Int.reduceToNat, Int.reducePow, Nat.reduceLT, Nat.reduceLeDiff, Nat.reduceEqDiff, Nat.reduceMul, k_condSelf, x_no, x_raise, x_seqNo, b_xIf, x_inr, x_inl, b_xFn, o_neSelf, o_eqSelf, i_boolN, i_boolB, i_boolI, i_boolS, i_boolL, i_boolT, i_intN, i_intB, i_intI, i_intS, i_intL, i_intT, i_strN, i_strB, i_strI, i_strS, i_strL, i_strT, i_listN, i_listB, i_listI, i_listS, i_listL, i_listT, i_tupleN, i_tupleB, i_tupleI, i_tupleS, i_tupleL, i_tupleT, at_nat, decide_eq_true_eq, decide_eq_false_iff_not, Nat.ble_eq, and_true, true_and, Option.map_some, Option.isSome_some])
local macro_rules | `(tactic| walk_at "dxs") => `(tactic| simp only [b_escs, b_rdTms, b_hardTms, b_softTms, b_esCons, b_opV, b_opL, b_opT, b_eOp, b_rdNil, b_rdCons, b_rdT, b_rdA, b_erS, b_erL, b_eVar, b_eC, b_esNil, b_tTru, b_tBl, b_tAnd, b_tOr, b_tNot, b_eAnd, b_eOr, b_eNot, b_eIf, b_eTup, b_eLst, b_eTupO, b_eOpL, k_scOS, b_mvNil, b_mvCons, b_sAppTp, b_erTp, g_hardTp, g_softTp, g_giveTp, k_tpl, k_shTp, b_oSome, b_oNone, b_eSl, b_eMt, b_fn0, b_fnP, b_sRet, b_sAsg, b_gvName, b_gvNil, b_gvCons, b_gvTup, b_gvSub, b_sAsgG, b_sApp, b_sPar, b_sPar3, b_sAppIx, b_sAugI, b_cvsNil, b_cvsCons, b_bindCond, b_condFst, b_condSnd, b_giveT, b_sFor, b_iSq, b_iR1, b_iEnA, wipeE, cYes, at_zero, k_bool, k_int, k_str, k_tup, k_lst, k_list, k_itL, k_itT, k_itSS, k_trN, k_trB, k_trI, k_trSS, k_trL, k_trT, k_scN, k_scB, k_scI, k_scS, k_scL, k_scT, k_shS, k_shL, k_softT, k_hardT, k_cvT, k_softNil, k_softCons, k_hardNil, k_hardCons, g_hard, g_soft, g_cv, g_give, g_hardS, g_hardL, g_softS, g_softL, g_cvS, g_giveS, g_giveL, g_allSh, g_erSh, List.all_cons, List.all_nil, k_retR, k_retN, k_alA, k_hd, k_two, k_three, k_sh, k_odT, k_enS, k_enL, o_addI, o_addS, o_addL, o_sub, o_neg, o_ltI, o_leI, o_gtI, o_geI, o_lenS, o_lenL, o_lenT, o_abs, o_max, o_int, o_ixL, o_ixT, o_ixSS, o_slS, o_slL, o_in1S, o_ni1S, o_eqS, o_neS, o_eqI, o_neI, o_mul, o_div, o_mod, o_pow, o_divmod, z_ble0, z_ble1, z_ble2, z_ble3, z_ble4, z_ble5, z_ble6, z_ble7, z_ble8, z_ble9, z_ble10, z_ble13, z_ble17, S_l, S_len, S_app, es1, es2, startE, sNext, pk, DX.inR, Nat.beq, Nat.ble, List.any_cons, List.any_nil, List.filterMap_cons, List.filterMap_nil, Option.bind_some, Option.bind_none, cond_true, cond_false, decide_true, decide_false, List.map_cons, List.map_nil, List.length_cons, List.length_nil, List.length_map, List.length_set, List.getElem?_cons_zero, List.getElem?_cons_succ, List.cons_append, List.nil_append, List.set_cons_zero, List.set_cons_succ, List.replicate, Nat.reduceAdd, Nat.reduceSub, Nat.zero_add, Int.toNat_natCast, Bool.not_true, Bool.not_false, Bool.or_self, Bool.or_false, Bool.false_or, Bool.and_self, Bool.and_true, Bool.true_and, Bool.and_false, Bool.false_and, Bool.true_or, Bool.or_true, z_some, z_none, z_bind, z_then, z_map, z_mapK, b_eLc, lcStep, forStep, at_0, at_1, at_2, at_3, at_4, at_5, at_m1, ix_0, ix_1, ix_m1, blt_00, blt_0s, blt_12, blt_02, z_ifK, z_guard, z_guardN, z_seqN, z_seqR, z_seqB, z_seqC, z_sSeq, z_sIf, z_forN, z_forC, z_forB, z_forR, r_P1, r_P2, k_condSomeP, k_condNx, k_condEn, k_condSl, k_condPair, k_condTm, k_condSh, k_condI, k_condB, k_condAnd, k_condOr, k_condNot, o_gcd, k_condAndL, k_condOrL, b_jNil, b_jCons, b_eJoin, t_str, str_len, str_empty, Int.cast_ofNat_Int, Int.reduceEq, Int.reduceLT, Int.reduceLE, Int.reduceNeg, Int.reduceAdd, Int.reduceSub, Int.reduceMul, Int.reduceToNat, Int.reducePow, Nat.reduceLT, Nat.reduceLeDiff, Nat.reduceEqDiff, Nat.reduceMul, k_condSelf, x_no, x_raise, x_seqNo, b_xIf, x_inr, x_inl, b_xFn, o_neSelf, o_eqSelf, i_boolN, i_boolB, i_boolI, i_boolS, i_boolL, i_boolT, i_intN, i_intB, i_intI, i_intS, i_intL, i_intT, i_strN, i_strB, i_strI, i_strS, i_strL, i_strT, i_listN, i_listB, i_listI, i_listS, i_listL, i_listT, i_tupleN, i_tupleB, i_tupleI, i_tupleS, i_tupleL, i_tupleT, at_nat, decide_eq_true_eq, decide_eq_false_iff_not, Nat.ble_eq, and_true, true_and, Option.map_some, Option.isSome_some, *])
-- DXSIMP end
theorem Rp.frs {l : List Fr} (h : ∀ x ∈ l, Ok 60 x) (hl : l.length ≤ 60) : Rp 3 48481 (frsD l) := by
  refine Rp.mono (Rp.lst (k := 2) (n := 807) (ds := l.map frD) fun d q => ?_) (by decide) (by rw [List.length_map]; omega)
  obtain ⟨x, hx, rfl⟩ := List.mem_map.mp q
  exact Rp.fr (h x hx) (by decide)
theorem Rp.over {l : List Fr} (h : OkL l) (hl : l.length ≤ 60) : Rp 3 48700 (overD l) := by
  have hL := take_lcm h (List.append_nil l).symm
  refine Rp.mono (Rp.tup (k := 2) (n := 24299) (ds := [.list (l.map fun a => .int (a.1 * divV (lcmL l) a.2)), .int (lcmL l)]) ?_) (by decide) (by simp only [List.length_cons, List.length_nil]; decide)
  refine Rps.cons ?_ (Rps.cons (Rp.mono (Rp.int (Nat.lt_of_lt_of_le hL.2 (pw (by decide)))) (by decide) (by decide)) Rps.nil)
  refine Rp.mono (Rp.lst (k := 1) (n := 402) fun d q => ?_) (by decide) (by rw [List.length_map]; omega)
  obtain ⟨x, hx, rfl⟩ := List.mem_map.mp q
  have ox := h.all x hx
  exact Rp.int (Nat.lt_of_lt_of_le (wide_lt ox.1 (div_le (b := x.2) (by have := ox.2.2.1; omega) hL.2)) (pw (by decide)))
theorem snoc_min {l : List Fr} {x y : Fr} {b : Bool} (h : decide (lesF y (l.foldl minS x) < 0) = b) : (l ++ [y]).foldl minS x = cond b y (l.foldl minS x) := by
  rw [List.foldl_append]
  show cond (decide (lesF y (l.foldl minS x) < 0)) y (l.foldl minS x) = _
  rw [h]
theorem snoc_max {l : List Fr} {x y : Fr} {b : Bool} (h : decide (lesF y (l.foldl maxS x) > 0) = b) : (l ++ [y]).foldl maxS x = cond b y (l.foldl maxS x) := by
  rw [List.foldl_append]
  show cond (decide (lesF y (l.foldl maxS x) > 0)) y (l.foldl maxS x) = _
  rw [h]
theorem e_list_right {l : List Fr} (h : OkL l) (hl : l.length ≤ 60) : mr__law_list_right [.sh (frsD l)] = some (.sh (.bool true)) := by
  refine eq_of_sat ?_
  have rs := (Rp.frs h.all hl).rep
  unfold mr__law_list_right ev__law_list_right frsD at *
  walk_at "dx"
  rw [rs]
  walk_at "dx"
  refine Sat.forM l (fun pre post os => ∃ o, os = [some (.sh (.list (l.map frD))), some (.sh (.str (PyData.list (l.map frD)).shown)), some (.sh (frD (pre.foldl addF (0, 1)))), o, none, none, none, none]) ⟨none, rfl⟩ (fun pre x post os e ⟨o, eo⟩ => ?_) fun os ⟨o, eo⟩ => ?_
  · subst eo
    have hp := take_sum_ok h e
    have hx := h.all x (by rw [e]; simp)
    obtain ⟨u, v⟩ := x
    cases ep : pre.foldl addF (0, 1) with
    | mk a b =>
      rw [ep] at hp
      have q1 := e_made (a := a * v + u * b) (b := b * v) (mul_ne (by have := hp.2.2.1; show b ≠ 0; omega) (by have := hx.2.2.1; show v ≠ 0; omega)) (lt4 (wide_lt hp.2.1 hx.2.1) (by decide))
      have m1 := (hp.sm (by decide)).1.fit (hx.sm (by decide)).2
      have m2 := (hx.sm (by decide)).1.fit (hp.sm (by decide)).2
      have m3 := (hp.sm (by decide)).2.fit (hx.sm (by decide)).2
      unfold frD
      walk_at "dx"
      rw [m1, m2, m3]
      walk_at "dx"
      rw [q1]
      walk_at "dx"
      rw [List.foldl_append, ep]
      exact ⟨_, rfl⟩
  · subst eo
    have x1 : mr__law_over_one [.sh (.list (l.map frD))] = _ := e_lover_one h (by omega)
    have x2 : mr_over_one_below [.sh (.list (l.map frD))] = _ := e_over_one h (by omega)
    have x3 : mr_total [.sh (.list (l.map frD))] = _ := e_total h
    have hs := take_sum_ok h (List.append_nil l).symm
    have r1 : opRepr [.list [frD (sumF l), overD l]] = some (.val (.str (PyData.list [frD (sumF l), overD l]).shown)) := by
      refine Rp.rep (k := 4) (n := 97403) (Rp.mono (Rp.lst (k := 3) (n := 48700) (ds := [frD (sumF l), overD l]) (Rps.cons (Rp.mono (Rp.fr hs (by decide)) (by decide) (by decide)) (Rps.cons (Rp.over h hl) Rps.nil))) (by decide) (by simp only [List.length_cons, List.length_nil]; decide))
    walk_at "dx"
    rw [x1]
    walk_at "dx"
    rw [x2]
    walk_at "dx"
    rw [x3]
    walk_at "dx"
    rw [overO_er, r1]
    walk_at "dx"
    rw [show List.foldl addF (0, 1) l = sumF l from rfl, r1]
    walk_at "dx"
    unfold overO
    walk_at "dx"
    rw [x3]
    walk_at "dx"
    rw [x2]
    walk_at "dx"
    rw [overO_er, r1]
    walk_at "dx"
    rw [r1]
    walk_at "dx"
    refine ⟨Nat.ble_eq_true_of_le (Nat.succ_le_of_lt (Nat.lt_of_le_of_lt hl (by decide))), ?_⟩
    refine Sat.splitD (fun hn => ?_) fun hn => ?_
    · rw [e_refused_empty]
      walk_at "dx"
    · obtain ⟨x, hx0⟩ : ∃ x, l[0]? = some x := by
        cases l with
        | nil => exact absurd rfl hn
        | cons x _ => exact ⟨x, rfl⟩
      obtain ⟨hx, _, hm⟩ := head_d hx0
      have y1 : mr_least [.sh (.list (l.map frD))] = _ := e_least hx0 h.all
      have y2 : mr_greatest [.sh (.list (l.map frD))] = _ := e_greatest hx0 h.all
      have ok1 : ∀ pre post, l = pre ++ post → Ok 60 (pre.foldl minS x) := fun pre post e => fold_mem (P := Ok 60) (fun b a => minS_mem) pre x (h.all x hm) fun z q => h.all z (by rw [e]; exact List.mem_append_left _ q)
      have ok2 : ∀ pre post, l = pre ++ post → Ok 60 (pre.foldl maxS x) := fun pre post e => fold_mem (P := Ok 60) (fun b a => maxS_mem) pre x (h.all x hm) fun z q => h.all z (by rw [e]; exact List.mem_append_left _ q)
      walk_at "dx"
      rw [hx]
      walk_at "dx"
      rw [hx]
      walk_at "dx"
      refine Sat.forM l (fun pre post os => ∃ o o4 o5, os = [some (.sh (.list (l.map frD))), some (.sh (.str (PyData.list (l.map frD)).shown)), some (.sh (frD (sumF l))), o, o4, o5, some (.sh (frD (pre.foldl minS x))), some (.sh (frD (pre.foldl maxS x)))]) ⟨_, _, _, rfl⟩ (fun pre y post os e ⟨o, o4, o5, eo⟩ => ?_) fun os ⟨o, o4, o5, eo⟩ => ?_
      · subst eo
        have hy := h.all y (by rw [e]; simp)
        have k1 := ok1 pre _ e
        have k2 := ok2 pre _ e
        have c1 := e_less (a := y.1) (b := y.2) (c := (pre.foldl minS x).1) (d := (pre.foldl minS x).2) (hy.sm (by decide)).1 (hy.sm (by decide)).2 (k1.sm (by decide)).1 (k1.sm (by decide)).2
        have c2 := e_less (a := y.1) (b := y.2) (c := (pre.foldl maxS x).1) (d := (pre.foldl maxS x).2) (hy.sm (by decide)).1 (hy.sm (by decide)).2 (k2.sm (by decide)).1 (k2.sm (by decide)).2
        rw [fr_d, fr_d] at c1 c2
        walk_at "dx"
        rw [c1]
        walk_at "dx"
        rw [show sgn (y.1 * (pre.foldl minS x).2 - (pre.foldl minS x).1 * y.2) = lesF y (pre.foldl minS x) from rfl]
        cases h1 : decide (lesF y (pre.foldl minS x) < 0) with
        | true =>
          have g1 : (pre ++ [y]).foldl minS x = y := by exact snoc_min h1
          walk_at "dx"
          rw [c2]
          walk_at "dx"
          rw [show sgn (y.1 * (pre.foldl maxS x).2 - (pre.foldl maxS x).1 * y.2) = lesF y (pre.foldl maxS x) from rfl]
          cases h2 : decide (lesF y (pre.foldl maxS x) > 0) with
          | true =>
            have g2 : (pre ++ [y]).foldl maxS x = y := by exact snoc_max h2
            walk_at "dx"
            rw [g1, g2]
            exact ⟨_, _, _, rfl⟩
          | false =>
            have g2 : (pre ++ [y]).foldl maxS x = pre.foldl maxS x := by exact snoc_max h2
            walk_at "dx"
            rw [g1, g2]
            exact ⟨_, _, _, rfl⟩
        | false =>
          have g1 : (pre ++ [y]).foldl minS x = pre.foldl minS x := by exact snoc_min h1
          walk_at "dx"
          rw [c2]
          walk_at "dx"
          rw [show sgn (y.1 * (pre.foldl maxS x).2 - (pre.foldl maxS x).1 * y.2) = lesF y (pre.foldl maxS x) from rfl]
          cases h2 : decide (lesF y (pre.foldl maxS x) > 0) with
          | true =>
            have g2 : (pre ++ [y]).foldl maxS x = y := by exact snoc_max h2
            walk_at "dx"
            rw [g1, g2]
            exact ⟨_, _, _, rfl⟩
          | false =>
            have g2 : (pre ++ [y]).foldl maxS x = pre.foldl maxS x := by exact snoc_max h2
            walk_at "dx"
            rw [g1, g2]
            exact ⟨_, _, _, rfl⟩
      · subst eo
        have f1 := Rp.fr (ok1 l [] (List.append_nil l).symm) (by decide)
        have f2 := Rp.fr (ok2 l [] (List.append_nil l).symm) (by decide)
        have r4 := repL (Rps.cons f1 (Rps.cons f2 (Rps.cons f1 (Rps.cons f2 Rps.nil)))) (Nat.le_of_ble_eq_true rfl)
        walk_at "dx"
        rw [y1]
        walk_at "dx"
        rw [y2]
        walk_at "dx"
        rw [y1]
        walk_at "dx"
        rw [y2]
        walk_at "dx"
        rw [r4]
        walk_at "dx"
        rw [r4]
        walk_at "dx"
        rw [rs]
        walk_at "dx"
theorem law_holds : ∀ ns : List Int, ns.length ≤ 63 → (∀ i ∈ ns, Builtin.Int.intBits i ≤ 1048576) → mr_law [.sh (.list (ns.map PyData.int))] = some (.sh (.bool true)) := by
  intro ns _ _
  refine eq_of_sat ?_
  unfold mr_law ev_law
  walk_at "dx"
  refine (sp_pot (.inl rfl)).mono fun r ⟨a, b, e, hb⟩ => ?_
  subst e
  walk_at "dx"
  refine (sp_worth hb).mono fun r ⟨x, a1, b1, e, hx, hb1⟩ => ?_
  subst e
  walk_at "dx"
  refine (sp_second hb1 hx).mono fun r ⟨y, a2, b2, e, hy, hb2⟩ => ?_
  subst e
  walk_at "dx"
  refine (e_values_right hb2 hx).mono fun r ⟨a3, b3, e, hb3⟩ => ?_
  subst e
  walk_at "dx"
  refine (e_made_right hb3).mono fun r ⟨a4, b4, e, hb4⟩ => ?_
  subst e
  have hx60 := hx.mono (show 41 ≤ 60 by decide)
  walk_at "dx"
  rw [e_alone_right hx60]
  walk_at "dx"
  rw [e_alone_right hy]
  walk_at "dx"
  rw [e_two_right hx60 hy]
  walk_at "dx"
  rw [e_two_right hy hx60]
  walk_at "dx"
  refine (sp_pot (.inr rfl)).mono fun r ⟨a5, b5, e, hb5⟩ => ?_
  subst e
  walk_at "dx"
  refine (sp_list hb5).mono fun r ⟨l, a6, b6, e, hl, hl6, hb6⟩ => ?_
  subst e
  walk_at "dx"
  have hr : ∀ l : List Fr, PyData.list ((l.map frO).map OD.er) = frsD l := fun l => by rw [List.map_map]; rfl
  rw [hr, e_list_right hl hl6]
  walk_at "dx"
  refine (sp_list hb4).mono fun r ⟨l', a7, b7, e, hl', hl6', hb7⟩ => ?_
  subst e
  walk_at "dx"
  rw [hr, e_list_right hl' hl6']
  walk_at "dx"
end K10
/-! the walk (printed by genwalk.py). -/
namespace K10
open PySem PySem.Spec PyProof.Rows L2 DX
def topS (i : Nat) : Stmt := PySem.Challenge.pw_allreadings_k10_fractions_reckoned.main.body.getD i (.Pass ⟨0, 0, 0, 0⟩)
abbrev s_is_integer : Stmt := topS 7
abbrev s_is_count : Stmt := topS 8
abbrev s_is_fraction : Stmt := topS 11
abbrev s_fraction : Stmt := topS 12
abbrev s_whole : Stmt := topS 13
abbrev s_plus : Stmt := topS 14
abbrev s_minus : Stmt := topS 15
abbrev s_times : Stmt := topS 16
abbrev s_opposite : Stmt := topS 17
abbrev s_over : Stmt := topS 18
abbrev s_total : Stmt := topS 19
abbrev s_sign_of : Stmt := topS 20
abbrev s_compare : Stmt := topS 21
abbrev s_least : Stmt := topS 22
abbrev s_greatest : Stmt := topS 23
abbrev s_floor_of : Stmt := topS 24
abbrev s_ceiling_of : Stmt := topS 25
abbrev s_over_one_below : Stmt := topS 26
abbrev s_worth_text : Stmt := topS 27
abbrev s__law_pot : Stmt := topS 29
abbrev s__law_draw : Stmt := topS 30
abbrev s__law_pick : Stmt := topS 31
abbrev s__law_gcd : Stmt := topS 32
abbrev s__law_made : Stmt := topS 33
abbrev s__law_great : Stmt := topS 34
abbrev s__law_signed : Stmt := topS 35
abbrev s__law_worth : Stmt := topS 36
abbrev s__law_sign : Stmt := topS 37
abbrev s__law_less : Stmt := topS 38
abbrev s__law_is_whole : Stmt := topS 39
abbrev s__law_fits : Stmt := topS 40
abbrev s__law_values : Stmt := topS 41
abbrev s__law_values_right : Stmt := topS 42
abbrev s__law_refused_below : Stmt := topS 43
abbrev s__law_made_right : Stmt := topS 44
abbrev s__law_text : Stmt := topS 45
abbrev s__law_alone_right : Stmt := topS 46
abbrev s__law_two_right : Stmt := topS 47
abbrev s__law_second : Stmt := topS 48
abbrev s__law_list : Stmt := topS 49
abbrev s__law_over_one : Stmt := topS 50
abbrev s__law_refused_empty : Stmt := topS 51
abbrev s__law_list_right : Stmt := topS 52
abbrev s_law : Stmt := topS 53
theorem sc_is_integer : FnScope ["value"] ["value"] (defScope s_is_integer) := ⟨rfl, rfl, rfl, by decide +kernel, rfl, by decide +kernel, by decide +kernel⟩
theorem sc_is_count : FnScope ["value"] ["value"] (defScope s_is_count) := ⟨rfl, rfl, rfl, by decide +kernel, rfl, by decide +kernel, by decide +kernel⟩
theorem sc_is_fraction : FnScope ["value"] ["value"] (defScope s_is_fraction) := ⟨rfl, rfl, rfl, by decide +kernel, rfl, by decide +kernel, by decide +kernel⟩
theorem sc_fraction : FnScope ["above", "below", "divisor"] ["above", "below"] (defScope s_fraction) := ⟨rfl, rfl, rfl, by decide +kernel, rfl, by decide +kernel, by decide +kernel⟩
theorem sc_whole : FnScope ["number"] ["number"] (defScope s_whole) := ⟨rfl, rfl, rfl, by decide +kernel, rfl, by decide +kernel, by decide +kernel⟩
theorem sc_plus : FnScope ["a", "b"] ["a", "b"] (defScope s_plus) := ⟨rfl, rfl, rfl, by decide +kernel, rfl, by decide +kernel, by decide +kernel⟩
theorem sc_minus : FnScope ["a", "b"] ["a", "b"] (defScope s_minus) := ⟨rfl, rfl, rfl, by decide +kernel, rfl, by decide +kernel, by decide +kernel⟩
theorem sc_times : FnScope ["a", "b"] ["a", "b"] (defScope s_times) := ⟨rfl, rfl, rfl, by decide +kernel, rfl, by decide +kernel, by decide +kernel⟩
theorem sc_opposite : FnScope ["a"] ["a"] (defScope s_opposite) := ⟨rfl, rfl, rfl, by decide +kernel, rfl, by decide +kernel, by decide +kernel⟩
theorem sc_over : FnScope ["a", "b"] ["a", "b"] (defScope s_over) := ⟨rfl, rfl, rfl, by decide +kernel, rfl, by decide +kernel, by decide +kernel⟩
theorem sc_total : FnScope ["fractions", "made", "one"] ["fractions"] (defScope s_total) := ⟨rfl, rfl, rfl, by decide +kernel, rfl, by decide +kernel, by decide +kernel⟩
theorem sc_sign_of : FnScope ["a"] ["a"] (defScope s_sign_of) := ⟨rfl, rfl, rfl, by decide +kernel, rfl, by decide +kernel, by decide +kernel⟩
theorem sc_compare : FnScope ["a", "b", "left", "right"] ["a", "b"] (defScope s_compare) := ⟨rfl, rfl, rfl, by decide +kernel, rfl, by decide +kernel, by decide +kernel⟩
theorem sc_least : FnScope ["fractions", "best", "one"] ["fractions"] (defScope s_least) := ⟨rfl, rfl, rfl, by decide +kernel, rfl, by decide +kernel, by decide +kernel⟩
theorem sc_greatest : FnScope ["fractions", "best", "one"] ["fractions"] (defScope s_greatest) := ⟨rfl, rfl, rfl, by decide +kernel, rfl, by decide +kernel, by decide +kernel⟩
theorem sc_floor_of : FnScope ["a"] ["a"] (defScope s_floor_of) := ⟨rfl, rfl, rfl, by decide +kernel, rfl, by decide +kernel, by decide +kernel⟩
theorem sc_ceiling_of : FnScope ["a"] ["a"] (defScope s_ceiling_of) := ⟨rfl, rfl, rfl, by decide +kernel, rfl, by decide +kernel, by decide +kernel⟩
theorem sc_over_one_below : FnScope ["fractions", "below", "one"] ["fractions"] (defScope s_over_one_below) := ⟨rfl, rfl, rfl, by decide +kernel, rfl, by decide +kernel, by decide +kernel⟩
theorem sc_worth_text : FnScope ["a"] ["a"] (defScope s_worth_text) := ⟨rfl, rfl, rfl, by decide +kernel, rfl, by decide +kernel, by decide +kernel⟩
theorem sc__law_pot : FnScope ["_law_script", "_law_k", "_law_cell", "_law_mixed"] ["_law_script", "_law_k"] (defScope s__law_pot) := ⟨rfl, rfl, rfl, by decide +kernel, rfl, by decide +kernel, by decide +kernel⟩
theorem sc__law_draw : FnScope ["_law_pot_here", "_law_size", "_law_digit"] ["_law_pot_here", "_law_size"] (defScope s__law_draw) := ⟨rfl, rfl, rfl, by decide +kernel, rfl, by decide +kernel, by decide +kernel⟩
theorem sc__law_pick : FnScope ["_law_pot_here", "_law_some"] ["_law_pot_here", "_law_some"] (defScope s__law_pick) := ⟨rfl, rfl, rfl, by decide +kernel, rfl, by decide +kernel, by decide +kernel⟩
theorem sc__law_gcd : FnScope ["_law_a", "_law_b"] ["_law_a", "_law_b"] (defScope s__law_gcd) := ⟨rfl, rfl, rfl, by decide +kernel, rfl, by decide +kernel, by decide +kernel⟩
theorem sc__law_made : FnScope ["_law_a", "_law_b", "_law_common"] ["_law_a", "_law_b"] (defScope s__law_made) := ⟨rfl, rfl, rfl, by decide +kernel, rfl, by decide +kernel, by decide +kernel⟩
theorem sc__law_great : FnScope ["_law_pot_here"] ["_law_pot_here"] (defScope s__law_great) := ⟨rfl, rfl, rfl, by decide +kernel, rfl, by decide +kernel, by decide +kernel⟩
theorem sc__law_signed : FnScope ["_law_pot_here", "_law_number"] ["_law_pot_here", "_law_number"] (defScope s__law_signed) := ⟨rfl, rfl, rfl, by decide +kernel, rfl, by decide +kernel, by decide +kernel⟩
theorem sc__law_worth : FnScope ["_law_pot_here", "_law_way", "_law_size", "_law_above"] ["_law_pot_here"] (defScope s__law_worth) := ⟨rfl, rfl, rfl, by decide +kernel, rfl, by decide +kernel, by decide +kernel⟩
theorem sc__law_sign : FnScope ["_law_number"] ["_law_number"] (defScope s__law_sign) := ⟨rfl, rfl, rfl, by decide +kernel, rfl, by decide +kernel, by decide +kernel⟩
theorem sc__law_less : FnScope ["_law_a", "_law_b"] ["_law_a", "_law_b"] (defScope s__law_less) := ⟨rfl, rfl, rfl, by decide +kernel, rfl, by decide +kernel, by decide +kernel⟩
theorem sc__law_is_whole : FnScope ["_law_value"] ["_law_value"] (defScope s__law_is_whole) := ⟨rfl, rfl, rfl, by decide +kernel, rfl, by decide +kernel, by decide +kernel⟩
theorem sc__law_fits : FnScope ["_law_value"] ["_law_value"] (defScope s__law_fits) := ⟨rfl, rfl, rfl, by decide +kernel, rfl, by decide +kernel, by decide +kernel⟩
theorem sc__law_values : FnScope ["_law_pot_here", "_law_one", "_law_times_by", "_law_rows", "_law_a", "_law_b"] ["_law_pot_here", "_law_one"] (defScope s__law_values) := ⟨rfl, rfl, rfl, by decide +kernel, rfl, by decide +kernel, by decide +kernel⟩
theorem sc__law_values_right : FnScope ["_law_pot_here", "_law_one", "_law_value", "_law_told", "_law_known", "_law_due"] ["_law_pot_here", "_law_one"] (defScope s__law_values_right) := ⟨rfl, rfl, rfl, by decide +kernel, rfl, by decide +kernel, by decide +kernel⟩
theorem sc__law_refused_below : FnScope ["_law_above", "_law_seen", "e"] ["_law_above"] (defScope s__law_refused_below) := ⟨rfl, rfl, rfl, by decide +kernel, rfl, by decide +kernel, by decide +kernel⟩
theorem sc__law_made_right : FnScope ["_law_pot_here", "_law_above", "_law_below"] ["_law_pot_here"] (defScope s__law_made_right) := ⟨rfl, rfl, rfl, by decide +kernel, rfl, by decide +kernel, by decide +kernel⟩
theorem sc__law_text : FnScope ["_law_a"] ["_law_a"] (defScope s__law_text) := ⟨rfl, rfl, rfl, by decide +kernel, rfl, by decide +kernel, by decide +kernel⟩
theorem sc__law_alone_right : FnScope ["_law_a", "_law_due", "_law_told", "_law_named"] ["_law_a"] (defScope s__law_alone_right) := ⟨rfl, rfl, rfl, by decide +kernel, rfl, by decide +kernel, by decide +kernel⟩
theorem sc__law_two_right : FnScope ["_law_a", "_law_b", "_law_due", "_law_told", "_law_named"] ["_law_a", "_law_b"] (defScope s__law_two_right) := ⟨rfl, rfl, rfl, by decide +kernel, rfl, by decide +kernel, by decide +kernel⟩
theorem sc__law_second : FnScope ["_law_pot_here", "_law_a", "_law_way"] ["_law_pot_here", "_law_a"] (defScope s__law_second) := ⟨rfl, rfl, rfl, by decide +kernel, rfl, by decide +kernel, by decide +kernel⟩
theorem sc__law_list : FnScope ["_law_pot_here", "_law_many", "_law_size", "_law_found", "_law_turn", "_law_above"] ["_law_pot_here"] (defScope s__law_list) := ⟨rfl, rfl, rfl, by decide +kernel, rfl, by decide +kernel, by decide +kernel⟩
theorem sc__law_over_one : FnScope ["_law_rows", "_law_below", "_law_above", "_law_beneath", "_law_a", "_law_b"] ["_law_rows"] (defScope s__law_over_one) := ⟨rfl, rfl, rfl, by decide +kernel, rfl, by decide +kernel, by decide +kernel⟩
theorem sc__law_refused_empty : FnScope ["_law_seen", "e"] [] (defScope s__law_refused_empty) := ⟨rfl, rfl, rfl, by decide +kernel, rfl, by decide +kernel, by decide +kernel⟩
theorem sc__law_list_right : FnScope ["_law_rows", "_law_shown", "_law_added", "_law_a", "_law_due", "_law_told", "_law_low", "_law_high"] ["_law_rows"] (defScope s__law_list_right) := ⟨rfl, rfl, rfl, by decide +kernel, rfl, by decide +kernel, by decide +kernel⟩
theorem sc_law : FnScope ["_law_script", "_law_pot_here", "_law_a", "_law_b", "_law_other"] ["_law_script"] (defScope s_law) := ⟨rfl, rfl, rfl, by decide +kernel, rfl, by decide +kernel, by decide +kernel⟩
/-- what stands behind the top -/
structure Txt (K : PySem.W.Frag) (mg : Str → Option Value) where
  a_is_integer : Addr
  d_is_integer : FuncData
  F_is_integer : Fun K "is_integer" "is_integer" s_is_integer a_is_integer d_is_integer
  g_is_integer : mg "is_integer" = some (.ref a_is_integer)
  a_is_count : Addr
  d_is_count : FuncData
  F_is_count : Fun K "is_count" "is_count" s_is_count a_is_count d_is_count
  g_is_count : mg "is_count" = some (.ref a_is_count)
  a_is_fraction : Addr
  d_is_fraction : FuncData
  F_is_fraction : Fun K "is_fraction" "is_fraction" s_is_fraction a_is_fraction d_is_fraction
  g_is_fraction : mg "is_fraction" = some (.ref a_is_fraction)
  a_fraction : Addr
  d_fraction : FuncData
  F_fraction : Fun K "fraction" "fraction" s_fraction a_fraction d_fraction
  g_fraction : mg "fraction" = some (.ref a_fraction)
  a_whole : Addr
  d_whole : FuncData
  F_whole : Fun K "whole" "whole" s_whole a_whole d_whole
  g_whole : mg "whole" = some (.ref a_whole)
  a_plus : Addr
  d_plus : FuncData
  F_plus : Fun K "plus" "plus" s_plus a_plus d_plus
  g_plus : mg "plus" = some (.ref a_plus)
  a_minus : Addr
  d_minus : FuncData
  F_minus : Fun K "minus" "minus" s_minus a_minus d_minus
  g_minus : mg "minus" = some (.ref a_minus)
  a_times : Addr
  d_times : FuncData
  F_times : Fun K "times" "times" s_times a_times d_times
  g_times : mg "times" = some (.ref a_times)
  a_opposite : Addr
  d_opposite : FuncData
  F_opposite : Fun K "opposite" "opposite" s_opposite a_opposite d_opposite
  g_opposite : mg "opposite" = some (.ref a_opposite)
  a_over : Addr
  d_over : FuncData
  F_over : Fun K "over" "over" s_over a_over d_over
  g_over : mg "over" = some (.ref a_over)
  a_total : Addr
  d_total : FuncData
  F_total : Fun K "total" "total" s_total a_total d_total
  g_total : mg "total" = some (.ref a_total)
  a_sign_of : Addr
  d_sign_of : FuncData
  F_sign_of : Fun K "sign_of" "sign_of" s_sign_of a_sign_of d_sign_of
  g_sign_of : mg "sign_of" = some (.ref a_sign_of)
  a_compare : Addr
  d_compare : FuncData
  F_compare : Fun K "compare" "compare" s_compare a_compare d_compare
  g_compare : mg "compare" = some (.ref a_compare)
  a_least : Addr
  d_least : FuncData
  F_least : Fun K "least" "least" s_least a_least d_least
  g_least : mg "least" = some (.ref a_least)
  a_greatest : Addr
  d_greatest : FuncData
  F_greatest : Fun K "greatest" "greatest" s_greatest a_greatest d_greatest
  g_greatest : mg "greatest" = some (.ref a_greatest)
  a_floor_of : Addr
  d_floor_of : FuncData
  F_floor_of : Fun K "floor_of" "floor_of" s_floor_of a_floor_of d_floor_of
  g_floor_of : mg "floor_of" = some (.ref a_floor_of)
  a_ceiling_of : Addr
  d_ceiling_of : FuncData
  F_ceiling_of : Fun K "ceiling_of" "ceiling_of" s_ceiling_of a_ceiling_of d_ceiling_of
  g_ceiling_of : mg "ceiling_of" = some (.ref a_ceiling_of)
  a_over_one_below : Addr
  d_over_one_below : FuncData
  F_over_one_below : Fun K "over_one_below" "over_one_below" s_over_one_below a_over_one_below d_over_one_below
  g_over_one_below : mg "over_one_below" = some (.ref a_over_one_below)
  a_worth_text : Addr
  d_worth_text : FuncData
  F_worth_text : Fun K "worth_text" "worth_text" s_worth_text a_worth_text d_worth_text
  g_worth_text : mg "worth_text" = some (.ref a_worth_text)
  a__law_pot : Addr
  d__law_pot : FuncData
  F__law_pot : Fun K "_law_pot" "_law_pot" s__law_pot a__law_pot d__law_pot
  g__law_pot : mg "_law_pot" = some (.ref a__law_pot)
  a__law_draw : Addr
  d__law_draw : FuncData
  F__law_draw : Fun K "_law_draw" "_law_draw" s__law_draw a__law_draw d__law_draw
  g__law_draw : mg "_law_draw" = some (.ref a__law_draw)
  a__law_pick : Addr
  d__law_pick : FuncData
  F__law_pick : Fun K "_law_pick" "_law_pick" s__law_pick a__law_pick d__law_pick
  g__law_pick : mg "_law_pick" = some (.ref a__law_pick)
  a__law_gcd : Addr
  d__law_gcd : FuncData
  F__law_gcd : Fun K "_law_gcd" "_law_gcd" s__law_gcd a__law_gcd d__law_gcd
  g__law_gcd : mg "_law_gcd" = some (.ref a__law_gcd)
  a__law_made : Addr
  d__law_made : FuncData
  F__law_made : Fun K "_law_made" "_law_made" s__law_made a__law_made d__law_made
  g__law_made : mg "_law_made" = some (.ref a__law_made)
  a__law_great : Addr
  d__law_great : FuncData
  F__law_great : Fun K "_law_great" "_law_great" s__law_great a__law_great d__law_great
  g__law_great : mg "_law_great" = some (.ref a__law_great)
  a__law_signed : Addr
  d__law_signed : FuncData
  F__law_signed : Fun K "_law_signed" "_law_signed" s__law_signed a__law_signed d__law_signed
  g__law_signed : mg "_law_signed" = some (.ref a__law_signed)
  a__law_worth : Addr
  d__law_worth : FuncData
  F__law_worth : Fun K "_law_worth" "_law_worth" s__law_worth a__law_worth d__law_worth
  g__law_worth : mg "_law_worth" = some (.ref a__law_worth)
  a__law_sign : Addr
  d__law_sign : FuncData
  F__law_sign : Fun K "_law_sign" "_law_sign" s__law_sign a__law_sign d__law_sign
  g__law_sign : mg "_law_sign" = some (.ref a__law_sign)
  a__law_less : Addr
  d__law_less : FuncData
  F__law_less : Fun K "_law_less" "_law_less" s__law_less a__law_less d__law_less
  g__law_less : mg "_law_less" = some (.ref a__law_less)
  a__law_is_whole : Addr
  d__law_is_whole : FuncData
  F__law_is_whole : Fun K "_law_is_whole" "_law_is_whole" s__law_is_whole a__law_is_whole d__law_is_whole
  g__law_is_whole : mg "_law_is_whole" = some (.ref a__law_is_whole)
  a__law_fits : Addr
  d__law_fits : FuncData
  F__law_fits : Fun K "_law_fits" "_law_fits" s__law_fits a__law_fits d__law_fits
  g__law_fits : mg "_law_fits" = some (.ref a__law_fits)
  a__law_values : Addr
  d__law_values : FuncData
  F__law_values : Fun K "_law_values" "_law_values" s__law_values a__law_values d__law_values
  g__law_values : mg "_law_values" = some (.ref a__law_values)
  a__law_values_right : Addr
  d__law_values_right : FuncData
  F__law_values_right : Fun K "_law_values_right" "_law_values_right" s__law_values_right a__law_values_right d__law_values_right
  g__law_values_right : mg "_law_values_right" = some (.ref a__law_values_right)
  a__law_refused_below : Addr
  d__law_refused_below : FuncData
  F__law_refused_below : Fun K "_law_refused_below" "_law_refused_below" s__law_refused_below a__law_refused_below d__law_refused_below
  g__law_refused_below : mg "_law_refused_below" = some (.ref a__law_refused_below)
  a__law_made_right : Addr
  d__law_made_right : FuncData
  F__law_made_right : Fun K "_law_made_right" "_law_made_right" s__law_made_right a__law_made_right d__law_made_right
  g__law_made_right : mg "_law_made_right" = some (.ref a__law_made_right)
  a__law_text : Addr
  d__law_text : FuncData
  F__law_text : Fun K "_law_text" "_law_text" s__law_text a__law_text d__law_text
  g__law_text : mg "_law_text" = some (.ref a__law_text)
  a__law_alone_right : Addr
  d__law_alone_right : FuncData
  F__law_alone_right : Fun K "_law_alone_right" "_law_alone_right" s__law_alone_right a__law_alone_right d__law_alone_right
  g__law_alone_right : mg "_law_alone_right" = some (.ref a__law_alone_right)
  a__law_two_right : Addr
  d__law_two_right : FuncData
  F__law_two_right : Fun K "_law_two_right" "_law_two_right" s__law_two_right a__law_two_right d__law_two_right
  g__law_two_right : mg "_law_two_right" = some (.ref a__law_two_right)
  a__law_second : Addr
  d__law_second : FuncData
  F__law_second : Fun K "_law_second" "_law_second" s__law_second a__law_second d__law_second
  g__law_second : mg "_law_second" = some (.ref a__law_second)
  a__law_list : Addr
  d__law_list : FuncData
  F__law_list : Fun K "_law_list" "_law_list" s__law_list a__law_list d__law_list
  g__law_list : mg "_law_list" = some (.ref a__law_list)
  a__law_over_one : Addr
  d__law_over_one : FuncData
  F__law_over_one : Fun K "_law_over_one" "_law_over_one" s__law_over_one a__law_over_one d__law_over_one
  g__law_over_one : mg "_law_over_one" = some (.ref a__law_over_one)
  a__law_refused_empty : Addr
  d__law_refused_empty : FuncData
  F__law_refused_empty : Fun K "_law_refused_empty" "_law_refused_empty" s__law_refused_empty a__law_refused_empty d__law_refused_empty
  g__law_refused_empty : mg "_law_refused_empty" = some (.ref a__law_refused_empty)
  a__law_list_right : Addr
  d__law_list_right : FuncData
  F__law_list_right : Fun K "_law_list_right" "_law_list_right" s__law_list_right a__law_list_right d__law_list_right
  g__law_list_right : mg "_law_list_right" = some (.ref a__law_list_right)
  a_law : Addr
  d_law : FuncData
  F_law : Fun K "law" "law" s_law a_law d_law
  g_law : mg "law" = some (.ref a_law)
  m_LookupError : mg "LookupError" = none
  m_ValueError : mg "ValueError" = none
  m_abs : mg "abs" = none
  m_bool : mg "bool" = none
  m_divmod : mg "divmod" = none
  m_int : mg "int" = none
  m_isinstance : mg "isinstance" = none
  m_len : mg "len" = none
  m_max : mg "max" = none
  m_range : mg "range" = none
  m_repr : mg "repr" = none
  m_str : mg "str" = none
  m_tuple : mg "tuple" = none
  t_NOUGHT : Addr
  c_NOUGHT : mg "NOUGHT" = some (.ref t_NOUGHT)
  k_NOUGHT : ∀ H, Dx K H (.ref t_NOUGHT) (.tuple [.int 0, .int 1])
  i_gcd : mg "gcd" = some (.builtin "math.gcd")
  C : Nat → Addr
  E_TermError : ErrC K mg "TermError" (C 0) [.type "ValueError", .type "Exception", .type "BaseException", .type "object"] "ValueError.__new__"
  E_MissingError : ErrC K mg "MissingError" (C 1) [.type "LookupError", .type "Exception", .type "BaseException", .type "object"] "LookupError.__new__"
  E_DividedByNought : ErrC K mg "DividedByNought" (C 2) [.type "ValueError", .type "Exception", .type "BaseException", .type "object"] "ValueError.__new__"
  E_NothingGiven : ErrC K mg "NothingGiven" (C 3) [.type "LookupError", .type "Exception", .type "BaseException", .type "object"] "LookupError.__new__"
  errs : ErrsOk K C 4 errSub
  excs : ∀ e, e < 4 → ExcC K (C e)
  errsB : ∀ s, s ∈ (["LookupError", "ValueError"] : List String) → ∀ e, e < 4 → PySem.W.kitOne K (.ref (C e)) (.type s) = some (errSubB e s)
section
variable {P : Program} {w : World} {K : PySem.W.Frag} {mg : Str → Option Value} {base : Heap}
theorem ok_is_integer (T : Txt K mg) : FnG P w K mg base 1 T.a_is_integer T.d_is_integer ["value"] (sp0 K mr_is_integer 1) :=
  ok_fn0 T.F_is_integer sc_is_integer (fun n cdv A outer s H hA hr =>
    (ss_one (ss_ret (se_and (se_isi (n := "int") T.m_isinstance T.m_int (se_var 0)) (se_one (se_not (se_isi (n := "bool") T.m_isinstance T.m_bool (se_var 0)))))))) fun os r _ h => hm_of fuel h
theorem ok_fraction (T : Txt K mg) : FnX P w K mg base 1 T.a_fraction T.d_fraction ["above", "below"] (spX K T.C mx_fraction 2) :=
  ok_fnX T.F_fraction sc_fraction (fun n cdv A outer s H E hA hr =>
    (sx_cons (sx_if (st_eq hr (se_var 1) se_int) (sx_one (sx_raise0 2 rfl (takes_of rfl rfl rfl rfl) PySem.F.excBase_ValueError T.E_DividedByNought)) sx_nil)
    (sx_ofs (ss_cons' (ss_asg 2 sc_fraction.nd (se_gcd T.i_gcd (ss_cons (se_var 0) (ss_cons (se_var 1) ss_nil))))
    (ss_cons' (ss_if (st_lt (se_var 1) se_int) (ss_one (ss_asg 2 sc_fraction.nd (se_neg (se_var 2)))) ss_nil')
    (ss_one (ss_ret (se_tup (ss_cons (se_div (se_var 0) (se_var 2)) (ss_cons (se_div (se_var 1) (se_var 2)) ss_nil)))))))))) fun os r _ h => by
    have q := hmx_of h
    cases r <;> exact q
theorem ok_whole (T : Txt K mg) : FnG P w K mg base 1 T.a_whole T.d_whole ["number"] (sp0 K mr_whole 1) :=
  ok_fn0 T.F_whole sc_whole (fun n cdv A outer s H hA hr =>
    (ss_one (ss_ret (se_tup (ss_cons (se_var 0) (ss_cons se_int ss_nil)))))) fun os r _ h => hm_of fuel h
theorem ok_opposite (T : Txt K mg) : FnG P w K mg base 1 T.a_opposite T.d_opposite ["a"] (sp0 K mr_opposite 1) :=
  ok_fn0 T.F_opposite sc_opposite (fun n cdv A outer s H hA hr =>
    (ss_one (ss_ret (se_tup (ss_cons (se_neg (se_ix (se_var 0) se_int)) (ss_cons (se_ix (se_var 0) se_int) ss_nil)))))) fun os r _ h => hm_of fuel h
theorem ok_sign_of (T : Txt K mg) : FnG P w K mg base 1 T.a_sign_of T.d_sign_of ["a"] (sp0 K mr_sign_of 1) :=
  ok_fn0 T.F_sign_of sc_sign_of (fun n cdv A outer s H hA hr =>
    (ss_cons' (ss_if (st_eq hr (se_ix (se_var 0) se_int) se_int) (ss_one (ss_ret se_int)) ss_nil')
    (ss_one (ss_ret (se_if (st_gt (se_ix (se_var 0) se_int) se_int) se_int (se_neg se_int)))))) fun os r _ h => hm_of fuel h
theorem ok_compare (T : Txt K mg) : FnG P w K mg base 1 T.a_compare T.d_compare ["a", "b"] (sp0 K mr_compare 2) :=
  ok_fn0 T.F_compare sc_compare (fun n cdv A outer s H hA hr =>
    (ss_cons' (ss_par 2 3 rfl sc_compare.nd (ss_cons (se_mul (se_ix (se_var 0) se_int) (se_ix (se_var 1) se_int)) (ss_cons (se_mul (se_ix (se_var 1) se_int) (se_ix (se_var 0) se_int)) ss_nil)))
    (ss_cons' (ss_if (st_eq hr (se_var 2) (se_var 3)) (ss_one (ss_ret se_int)) ss_nil')
    (ss_one (ss_ret (se_if (st_gt (se_var 2) (se_var 3)) se_int (se_neg se_int))))))) fun os r _ h => hm_of fuel h
theorem ok_floor_of (T : Txt K mg) : FnG P w K mg base 1 T.a_floor_of T.d_floor_of ["a"] (sp0 K mr_floor_of 1) :=
  ok_fn0 T.F_floor_of sc_floor_of (fun n cdv A outer s H hA hr =>
    (ss_one (ss_ret (se_div (se_ix (se_var 0) se_int) (se_ix (se_var 0) se_int))))) fun os r _ h => hm_of fuel h
theorem ok_ceiling_of (T : Txt K mg) : FnG P w K mg base 1 T.a_ceiling_of T.d_ceiling_of ["a"] (sp0 K mr_ceiling_of 1) :=
  ok_fn0 T.F_ceiling_of sc_ceiling_of (fun n cdv A outer s H hA hr =>
    (ss_one (ss_ret (se_neg (se_div (se_neg (se_ix (se_var 0) se_int)) (se_ix (se_var 0) se_int)))))) fun os r _ h => hm_of fuel h
theorem ok_over_one_below (T : Txt K mg) : FnG P w K mg base 1 T.a_over_one_below T.d_over_one_below ["fractions"] (sp0 K mr_over_one_below 1) :=
  ok_fn0 T.F_over_one_below sc_over_one_below (fun n cdv A outer s H hA hr =>
    (ss_cons' (ss_asg 1 sc_over_one_below.nd se_int)
    (ss_cons' (ss_for rfl PassesOwn.never (si_sq (se_var 0)) (sg_name 2 sc_over_one_below.nd) (ss_one (ss_asg 1 sc_over_one_below.nd (se_mul (se_div (se_var 1) (se_gcd T.i_gcd (ss_cons (se_var 1) (ss_cons (se_ix (se_var 2) se_int) ss_nil)))) (se_ix (se_var 2) se_int)))))
    (ss_one (ss_ret (se_tupO (ss_cons (se_lc 2 rfl sc_over_one_below.nd (si_sq (se_var 0)) (fun _ _ _ _ _ => (se_mul (se_ix (se_var 2) se_int) (se_div (se_var 1) (se_ix (se_var 2) se_int)))) (ok := blkOk_by (N := ["fractions", "below", "one"]) (sc := defScope s_over_one_below) (by decide +kernel)) (hg := fun _ _ _ _ _ => pg_name sc_over_one_below.nd rfl (Or.inl rfl))) (ss_cons (se_var 1) ss_nil)))))))) fun os r _ h => hm_of fuel h
theorem ok_worth_text (T : Txt K mg) : FnG P w K mg base 1 T.a_worth_text T.d_worth_text ["a"] (sp0 K mr_worth_text 1) :=
  ok_fn0 T.F_worth_text sc_worth_text (fun n cdv A outer s H hA hr =>
    (ss_cons' (ss_if (st_eq hr (se_ix (se_var 0) se_int) se_int) (ss_one (ss_ret (se_str1 T.m_str (ss_cons (se_ix (se_var 0) se_int) ss_nil)))) ss_nil')
    (ss_one (ss_ret (se_joined (sj_fmt (se_ix (se_var 0) se_int) (sj_str (sj_fmt (se_ix (se_var 0) se_int) sj_nil)))))))) fun os r _ h => hm_of fuel h
theorem ok__law_pot (T : Txt K mg) : FnG P w K mg base 1 T.a__law_pot T.d__law_pot ["_law_script", "_law_k"] (sp0 K mr__law_pot 2) :=
  ok_fn0 T.F__law_pot sc__law_pot (fun n cdv A outer s H hA hr =>
    (ss_cons' (ss_asg 2 sc__law_pot.nd (se_add (se_mul se_int (se_var 1)) se_int))
    (ss_cons' (ss_if (st_lt (se_var 1) (se_len T.m_len (ss_cons (se_var 0) ss_nil))) (ss_one (ss_asg 2 sc__law_pot.nd (se_abs T.m_abs (ss_cons (se_ix (se_var 0) (se_var 1)) ss_nil)))) ss_nil')
    (ss_cons' (ss_asg 3 sc__law_pot.nd (se_mod (se_int1 T.m_int (ss_cons (se_add (se_add (se_mul (se_mod (se_int1 T.m_int (ss_cons (se_var 2) ss_nil)) se_int) se_int) (se_mul se_int (se_var 1))) se_int) ss_nil)) se_int))
    (ss_one (ss_ret (se_lst (ss_cons (se_max2 rfl T.m_max (ss_cons se_int (ss_cons (se_sub (se_var 2) (se_pow se_int se_int)) ss_nil))) (ss_cons (se_add (se_var 3) se_int) ss_nil))))))))) fun os r _ h => hm_of fuel h
theorem ok__law_draw (T : Txt K mg) : FnG P w K mg base 1 T.a__law_draw T.d__law_draw ["_law_pot_here", "_law_size"] (spP K mr__law_draw 1) :=
  ok_fnP T.F__law_draw sc__law_draw rfl (fun n cdv A outer s H hA hr =>
    (ss_cons' (ss_if (st_gt (se_ix (se_var 0) se_int) se_int) (ss_cons' (ss_asgG (sg_tup (n := 2) rfl (sgs_cons (sg_sub 0 se_int) (sgs_cons (sg_name 2 sc__law_draw.nd) sgs_nil))) (se_divmod T.m_divmod (ss_cons (se_ix (se_var 0) se_int) (ss_cons (se_var 1) ss_nil))))
    (ss_one (ss_ret (se_var 2)))) ss_nil')
    (ss_cons' (ss_asgG (sg_sub 0 se_int) (se_mod (se_int1 T.m_int (ss_cons (se_add (se_mul (se_ix (se_var 0) se_int) se_int) se_int) ss_nil)) se_int))
    (ss_one (ss_ret (se_mod (se_int1 T.m_int (ss_cons (se_div (se_mod (se_int1 T.m_int (ss_cons (se_mul (se_ix (se_var 0) se_int) (se_ix (se_var 0) se_int)) ss_nil)) se_int) se_int) ss_nil)) (se_var 1))))))) fun op os r op' _ h => hp_of fuel h
theorem ok__law_gcd (T : Txt K mg) : FnG P w K mg base 1 T.a__law_gcd T.d__law_gcd ["_law_a", "_law_b"] (sp0 K mr__law_gcd 2) :=
  ok_fn0 T.F__law_gcd sc__law_gcd (fun n cdv A outer s H hA hr =>
    (ss_cons' (ss_par 0 1 rfl sc__law_gcd.nd (ss_cons (se_abs T.m_abs (ss_cons (se_var 0) ss_nil)) (ss_cons (se_abs T.m_abs (ss_cons (se_var 1) ss_nil)) ss_nil)))
    (ss_cons' (ss_while n PassesOwn.never (st_gt (se_var 1) se_int) (ss_one (ss_par 0 1 rfl sc__law_gcd.nd (ss_cons (se_var 1) (ss_cons (se_mod (se_int1 T.m_int (ss_cons (se_var 0) ss_nil)) (se_var 1)) ss_nil)))))
    (ss_one (ss_ret (se_var 0)))))) fun os r _ h => hm_of fuel h
theorem ok__law_sign (T : Txt K mg) : FnG P w K mg base 1 T.a__law_sign T.d__law_sign ["_law_number"] (sp0 K mr__law_sign 1) :=
  ok_fn0 T.F__law_sign sc__law_sign (fun n cdv A outer s H hA hr =>
    (ss_one (ss_ret (se_if (st_eq hr (se_var 0) se_int) se_int (se_if (st_gt (se_var 0) se_int) se_int (se_neg se_int)))))) fun os r _ h => hm_of fuel h
theorem ok__law_is_whole (T : Txt K mg) : FnG P w K mg base 1 T.a__law_is_whole T.d__law_is_whole ["_law_value"] (sp0 K mr__law_is_whole 1) :=
  ok_fn0 T.F__law_is_whole sc__law_is_whole (fun n cdv A outer s H hA hr =>
    (ss_one (ss_ret (se_and (se_isi (n := "int") T.m_isinstance T.m_int (se_var 0)) (se_one (se_not (se_isi (n := "bool") T.m_isinstance T.m_bool (se_var 0)))))))) fun os r _ h => hm_of fuel h
theorem ok__law_text (T : Txt K mg) : FnG P w K mg base 1 T.a__law_text T.d__law_text ["_law_a"] (sp0 K mr__law_text 1) :=
  ok_fn0 T.F__law_text sc__law_text (fun n cdv A outer s H hA hr =>
    (ss_one (ss_ret (se_if (st_eq hr (se_ix (se_var 0) se_int) se_int) (se_str1 T.m_str (ss_cons (se_ix (se_var 0) se_int) ss_nil)) (se_add (se_add (se_str1 T.m_str (ss_cons (se_ix (se_var 0) se_int) ss_nil)) se_str) (se_str1 T.m_str (ss_cons (se_ix (se_var 0) se_int) ss_nil))))))) fun os r _ h => hm_of fuel h
theorem ok_is_count (T : Txt K mg) : FnG P w K mg base 2 T.a_is_count T.d_is_count ["value"] (sp0 K mr_is_count 1) :=
  ok_fn0 T.F_is_count sc_is_count (fun n cdv A outer s H hA hr =>
    (ss_one (ss_ret (se_and (se_call0 (idx := [0]) (ok_is_integer T) hA (hr.mono (by decide)) T.g_is_integer T.F_is_integer.kp (Fun.bd T.F_is_integer fun _ _ _ _ _ _ us hl => match us, hl with | [_], _ => rfl) (ss_cons (se_var 0) ss_nil)) (se_one (se_ge (se_var 0) se_int)))))) fun os r _ h => hm_of fuel h
theorem ok_is_fraction (T : Txt K mg) : FnG P w K mg base 2 T.a_is_fraction T.d_is_fraction ["value"] (sp0 K mr_is_fraction 1) :=
  ok_fn0 T.F_is_fraction sc_is_fraction (fun n cdv A outer s H hA hr =>
    (ss_cons' (ss_if (STw.t (st_or (st_not (st_tru (se_isi (n := "tuple") T.m_isinstance T.m_tuple (se_var 0)))) (st_or1 (st_ne hr (se_len T.m_len (ss_cons (se_var 0) ss_nil)) se_int)))) (ss_one (ss_ret se_bl)) ss_nil')
    (ss_cons' (ss_if (STw.t (st_or (st_not (st_tru (se_call0 (idx := [0]) (ok_is_integer T) hA (hr.mono (by decide)) T.g_is_integer T.F_is_integer.kp (Fun.bd T.F_is_integer fun _ _ _ _ _ _ us hl => match us, hl with | [_], _ => rfl) (ss_cons (se_ix (se_var 0) se_int) ss_nil)))) (st_or (st_not (st_tru (se_call0 (idx := [0]) (ok_is_integer T) hA (hr.mono (by decide)) T.g_is_integer T.F_is_integer.kp (Fun.bd T.F_is_integer fun _ _ _ _ _ _ us hl => match us, hl with | [_], _ => rfl) (ss_cons (se_ix (se_var 0) se_int) ss_nil)))) (st_or1 (st_lt (se_ix (se_var 0) se_int) se_int))))) (ss_one (ss_ret se_bl)) ss_nil')
    (ss_one (ss_ret (se_eq hr (se_gcd T.i_gcd (ss_cons (se_ix (se_var 0) se_int) (ss_cons (se_ix (se_var 0) se_int) ss_nil))) se_int)))))) fun os r _ h => hm_of fuel h
theorem ok_plus (T : Txt K mg) : FnG P w K mg base 2 T.a_plus T.d_plus ["a", "b"] (sp0 K mr_plus 2) :=
  ok_fn0 T.F_plus sc_plus (fun n cdv A outer s H hA hr =>
    (ss_cons' (ss_if (STw.t (st_and (st_eq hr (se_ix (se_var 0) se_int) se_int) (st_and1 (st_eq hr (se_ix (se_var 1) se_int) se_int)))) (ss_one (ss_ret (se_tup (ss_cons (se_add (se_ix (se_var 0) se_int) (se_ix (se_var 1) se_int)) (ss_cons se_int ss_nil))))) ss_nil')
    (ss_one (ss_ret (se_call0 (idx := [0, 1]) (ok_fraction T).calm hA (hr.mono (by decide)) T.g_fraction T.F_fraction.kp (Fun.bd T.F_fraction fun _ _ _ _ _ _ us hl => match us, hl with | [_, _], _ => rfl) (ss_cons (se_add (se_mul (se_ix (se_var 0) se_int) (se_ix (se_var 1) se_int)) (se_mul (se_ix (se_var 1) se_int) (se_ix (se_var 0) se_int))) (ss_cons (se_mul (se_ix (se_var 0) se_int) (se_ix (se_var 1) se_int)) ss_nil))))))) fun os r _ h => hm_of fuel h
theorem ok_times (T : Txt K mg) : FnG P w K mg base 2 T.a_times T.d_times ["a", "b"] (sp0 K mr_times 2) :=
  ok_fn0 T.F_times sc_times (fun n cdv A outer s H hA hr =>
    (ss_one (ss_ret (se_call0 (idx := [0, 1]) (ok_fraction T).calm hA (hr.mono (by decide)) T.g_fraction T.F_fraction.kp (Fun.bd T.F_fraction fun _ _ _ _ _ _ us hl => match us, hl with | [_, _], _ => rfl) (ss_cons (se_mul (se_ix (se_var 0) se_int) (se_ix (se_var 1) se_int)) (ss_cons (se_mul (se_ix (se_var 0) se_int) (se_ix (se_var 1) se_int)) ss_nil)))))) fun os r _ h => hm_of fuel h
theorem ok_over (T : Txt K mg) : FnX P w K mg base 2 T.a_over T.d_over ["a", "b"] (spX K T.C mx_over 2) :=
  ok_fnX T.F_over sc_over (fun n cdv A outer s H E hA hr =>
    (sx_one (sx_ret (sex_call (idx := [0, 1]) (takes_of rfl rfl rfl rfl) (ok_fraction T) hA (hr.mono (by decide)) T.g_fraction T.F_fraction.kp (Fun.bd T.F_fraction fun _ _ _ _ _ _ us hl => match us, hl with | [_, _], _ => rfl) (ss_cons (se_mul (se_ix (se_var 0) se_int) (se_ix (se_var 1) se_int)) (ss_cons (se_mul (se_ix (se_var 0) se_int) (se_ix (se_var 1) se_int)) ss_nil)))))) fun os r _ h => by
    have q := hmx_of h
    cases r <;> exact q
theorem ok_least (T : Txt K mg) : FnX P w K mg base 2 T.a_least T.d_least ["fractions"] (spX K T.C mx_least 1) :=
  ok_fnX T.F_least sc_least (fun n cdv A outer s H E hA hr =>
    (sx_cons (sx_if (st_eq hr (se_len T.m_len (ss_cons (se_var 0) ss_nil)) se_int) (sx_one (sx_raise0 3 rfl (takes_of rfl rfl rfl rfl) PySem.F.excBase_LookupError T.E_NothingGiven)) sx_nil)
    (sx_ofs (ss_cons' (ss_asg 1 sc_least.nd (se_ix (se_var 0) se_int))
    (ss_cons' (ss_for rfl (passes_of rfl) (si_sq (se_var 0)) (sg_name 2 sc_least.nd) (ss_one (ss_if (st_lt (se_call0 (idx := [0, 1]) (ok_compare T) hA (hr.mono (by decide)) T.g_compare T.F_compare.kp (Fun.bd T.F_compare fun _ _ _ _ _ _ us hl => match us, hl with | [_, _], _ => rfl) (ss_cons (se_var 2) (ss_cons (se_var 1) ss_nil))) se_int) (ss_one (ss_asg 1 sc_least.nd (se_var 2))) ss_nil')))
    (ss_one (ss_ret (se_var 1)))))))) fun os r _ h => by
    have q := hmx_of h
    cases r <;> exact q
theorem ok_greatest (T : Txt K mg) : FnX P w K mg base 2 T.a_greatest T.d_greatest ["fractions"] (spX K T.C mx_greatest 1) :=
  ok_fnX T.F_greatest sc_greatest (fun n cdv A outer s H E hA hr =>
    (sx_cons (sx_if (st_eq hr (se_len T.m_len (ss_cons (se_var 0) ss_nil)) se_int) (sx_one (sx_raise0 3 rfl (takes_of rfl rfl rfl rfl) PySem.F.excBase_LookupError T.E_NothingGiven)) sx_nil)
    (sx_ofs (ss_cons' (ss_asg 1 sc_greatest.nd (se_ix (se_var 0) se_int))
    (ss_cons' (ss_for rfl (passes_of rfl) (si_sq (se_var 0)) (sg_name 2 sc_greatest.nd) (ss_one (ss_if (st_gt (se_call0 (idx := [0, 1]) (ok_compare T) hA (hr.mono (by decide)) T.g_compare T.F_compare.kp (Fun.bd T.F_compare fun _ _ _ _ _ _ us hl => match us, hl with | [_, _], _ => rfl) (ss_cons (se_var 2) (ss_cons (se_var 1) ss_nil))) se_int) (ss_one (ss_asg 1 sc_greatest.nd (se_var 2))) ss_nil')))
    (ss_one (ss_ret (se_var 1)))))))) fun os r _ h => by
    have q := hmx_of h
    cases r <;> exact q
theorem ok__law_pick (T : Txt K mg) : FnG P w K mg base 2 T.a__law_pick T.d__law_pick ["_law_pot_here", "_law_some"] (spP K mr__law_pick 1) :=
  ok_fnP T.F__law_pick sc__law_pick rfl (fun n cdv A outer s H hA hr =>
    (ss_one (ss_ret (se_ix (se_var 1) (se_callP (idx := [0]) (ok__law_draw T) hA (hr.mono (by decide)) T.g__law_draw T.F__law_draw.kp (Fun.bd T.F__law_draw fun _ _ _ _ _ _ us hl => match us, hl with | [_, _], _ => rfl) (ss_cons (se_var 0) (ss_cons (se_len T.m_len (ss_cons (se_var 1) ss_nil)) ss_nil))))))) fun op os r op' _ h => hp_of fuel h
theorem ok__law_made (T : Txt K mg) : FnG P w K mg base 2 T.a__law_made T.d__law_made ["_law_a", "_law_b"] (sp0 K mr__law_made 2) :=
  ok_fn0 T.F__law_made sc__law_made (fun n cdv A outer s H hA hr =>
    (ss_cons' (ss_asg 2 sc__law_made.nd (se_call0 (idx := [0, 1]) (ok__law_gcd T) hA (hr.mono (by decide)) T.g__law_gcd T.F__law_gcd.kp (Fun.bd T.F__law_gcd fun _ _ _ _ _ _ us hl => match us, hl with | [_, _], _ => rfl) (ss_cons (se_var 0) (ss_cons (se_var 1) ss_nil))))
    (ss_cons' (ss_if (st_lt (se_var 1) se_int) (ss_one (ss_asg 2 sc__law_made.nd (se_neg (se_var 2)))) ss_nil')
    (ss_one (ss_ret (se_tup (ss_cons (se_div (se_var 0) (se_var 2)) (ss_cons (se_div (se_var 1) (se_var 2)) ss_nil)))))))) fun os r _ h => hm_of fuel h
theorem ok__law_great (T : Txt K mg) : FnG P w K mg base 2 T.a__law_great T.d__law_great ["_law_pot_here"] (spP K mr__law_great 0) :=
  ok_fnP T.F__law_great sc__law_great rfl (fun n cdv A outer s H hA hr =>
    (ss_one (ss_ret (se_add (se_mul (se_callP (idx := [0]) (ok__law_draw T) hA (hr.mono (by decide)) T.g__law_draw T.F__law_draw.kp (Fun.bd T.F__law_draw fun _ _ _ _ _ _ us hl => match us, hl with | [_, _], _ => rfl) (ss_cons (se_var 0) (ss_cons (se_pow se_int se_int) ss_nil))) (se_pow se_int se_int)) (se_callP (idx := [0]) (ok__law_draw T) hA (hr.mono (by decide)) T.g__law_draw T.F__law_draw.kp (Fun.bd T.F__law_draw fun _ _ _ _ _ _ us hl => match us, hl with | [_, _], _ => rfl) (ss_cons (se_var 0) (ss_cons (se_pow se_int se_int) ss_nil))))))) fun op os r op' _ h => hp_of fuel h
theorem ok__law_signed (T : Txt K mg) : FnG P w K mg base 2 T.a__law_signed T.d__law_signed ["_law_pot_here", "_law_number"] (spP K mr__law_signed 1) :=
  ok_fnP T.F__law_signed sc__law_signed rfl (fun n cdv A outer s H hA hr =>
    (ss_one (ss_ret (se_if (st_eq hr (se_callP (idx := [0]) (ok__law_draw T) hA (hr.mono (by decide)) T.g__law_draw T.F__law_draw.kp (Fun.bd T.F__law_draw fun _ _ _ _ _ _ us hl => match us, hl with | [_, _], _ => rfl) (ss_cons (se_var 0) (ss_cons se_int ss_nil))) se_int) (se_var 1) (se_neg (se_var 1)))))) fun op os r op' _ h => hp_of fuel h
theorem ok__law_less (T : Txt K mg) : FnG P w K mg base 2 T.a__law_less T.d__law_less ["_law_a", "_law_b"] (sp0 K mr__law_less 2) :=
  ok_fn0 T.F__law_less sc__law_less (fun n cdv A outer s H hA hr =>
    (ss_one (ss_ret (se_call0 (idx := [0]) (ok__law_sign T) hA (hr.mono (by decide)) T.g__law_sign T.F__law_sign.kp (Fun.bd T.F__law_sign fun _ _ _ _ _ _ us hl => match us, hl with | [_], _ => rfl) (ss_cons (se_sub (se_mul (se_ix (se_var 0) se_int) (se_ix (se_var 1) se_int)) (se_mul (se_ix (se_var 1) se_int) (se_ix (se_var 0) se_int))) ss_nil))))) fun os r _ h => hm_of fuel h
theorem ok__law_fits (T : Txt K mg) : FnG P w K mg base 2 T.a__law_fits T.d__law_fits ["_law_value"] (sp0 K mr__law_fits 1) :=
  ok_fn0 T.F__law_fits sc__law_fits (fun n cdv A outer s H hA hr =>
    (ss_cons' (ss_if (STw.t (st_or (st_not (st_tru (se_isi (n := "tuple") T.m_isinstance T.m_tuple (se_var 0)))) (st_or1 (st_ne hr (se_len T.m_len (ss_cons (se_var 0) ss_nil)) se_int)))) (ss_one (ss_ret se_bl)) ss_nil')
    (ss_cons' (ss_if (STw.t (st_or (st_not (st_tru (se_call0 (idx := [0]) (ok__law_is_whole T) hA (hr.mono (by decide)) T.g__law_is_whole T.F__law_is_whole.kp (Fun.bd T.F__law_is_whole fun _ _ _ _ _ _ us hl => match us, hl with | [_], _ => rfl) (ss_cons (se_ix (se_var 0) se_int) ss_nil)))) (st_or1 (st_not (st_tru (se_call0 (idx := [0]) (ok__law_is_whole T) hA (hr.mono (by decide)) T.g__law_is_whole T.F__law_is_whole.kp (Fun.bd T.F__law_is_whole fun _ _ _ _ _ _ us hl => match us, hl with | [_], _ => rfl) (ss_cons (se_ix (se_var 0) se_int) ss_nil))))))) (ss_one (ss_ret se_bl)) ss_nil')
    (ss_one (ss_ret (se_and (se_gt (se_ix (se_var 0) se_int) se_int) (se_one (se_eq hr (se_call0 (idx := [0, 1]) (ok__law_gcd T) hA (hr.mono (by decide)) T.g__law_gcd T.F__law_gcd.kp (Fun.bd T.F__law_gcd fun _ _ _ _ _ _ us hl => match us, hl with | [_, _], _ => rfl) (ss_cons (se_ix (se_var 0) se_int) (ss_cons (se_ix (se_var 0) se_int) ss_nil))) se_int)))))))) fun os r _ h => hm_of fuel h
theorem ok__law_values (T : Txt K mg) : FnG P w K mg base 2 T.a__law_values T.d__law_values ["_law_pot_here", "_law_one"] (spP K mr__law_values 1) :=
  ok_fnP T.F__law_values sc__law_values rfl (fun n cdv A outer s H hA hr =>
    (ss_cons' (ss_asgG (sg_tup (n := 2) rfl (sgs_cons (sg_name 4 sc__law_values.nd) (sgs_cons (sg_name 5 sc__law_values.nd) sgs_nil))) (se_var 1))
    (ss_cons' (ss_asg 2 sc__law_values.nd (se_add se_int (se_callP (idx := [0]) (ok__law_draw T) hA (hr.mono (by decide)) T.g__law_draw T.F__law_draw.kp (Fun.bd T.F__law_draw fun _ _ _ _ _ _ us hl => match us, hl with | [_, _], _ => rfl) (ss_cons (se_var 0) (ss_cons se_int ss_nil)))))
    (ss_cons' (ss_asg 3 sc__law_values.nd (se_lst (ss_cons (se_var 1) (ss_cons (se_lst (ss_cons (se_var 4) (ss_cons (se_var 5) ss_nil))) (ss_cons (se_tup (ss_cons (se_var 4) (ss_cons (se_var 5) (ss_cons se_int ss_nil)))) (ss_cons (se_tup (ss_cons (se_var 4) ss_nil)) (ss_cons (se_tup ss_nil) (ss_cons (se_lst ss_nil) (ss_cons (se_tup (ss_cons (se_var 4) (ss_cons (se_neg (se_var 5)) ss_nil))) (ss_cons (se_tup (ss_cons (se_var 4) (ss_cons se_int ss_nil))) (ss_cons (se_tup (ss_cons (se_neg (se_var 4)) (ss_cons (se_var 5) ss_nil))) (ss_cons (se_tup (ss_cons (se_var 5) (ss_cons (se_var 4) ss_nil))) ss_nil))))))))))))
    (ss_cons' (ss_asg 3 sc__law_values.nd (se_add (se_var 3) (se_lst (ss_cons (se_tup (ss_cons (se_mul (se_var 4) (se_var 2)) (ss_cons (se_mul (se_var 5) (se_var 2)) ss_nil))) (ss_cons (se_tup (ss_cons se_bl (ss_cons (se_var 5) ss_nil))) (ss_cons (se_tup (ss_cons (se_var 4) (ss_cons se_bl ss_nil))) (ss_cons (se_tup (ss_cons se_bl (ss_cons se_int ss_nil))) (ss_cons (se_tup (ss_cons se_int (ss_cons se_bl ss_nil))) ss_nil))))))))
    (ss_cons' (ss_asg 3 sc__law_values.nd (se_add (se_var 3) (se_lst (ss_cons (se_tup (ss_cons se_int (ss_cons se_int ss_nil))) (ss_cons (se_tup (ss_cons se_int (ss_cons se_int ss_nil))) (ss_cons (se_tup (ss_cons se_int (ss_cons se_int ss_nil))) (ss_cons (se_tup (ss_cons se_int (ss_cons se_int ss_nil))) (ss_cons (se_tup (ss_cons se_int (ss_cons (se_neg se_int) ss_nil))) (ss_cons (se_tup (ss_cons se_int (ss_cons se_int ss_nil))) (ss_cons (se_tup (ss_cons se_int (ss_cons (se_var 2) ss_nil))) (ss_cons (se_tup (ss_cons se_int (ss_cons (se_neg se_int) ss_nil))) ss_nil)))))))))))
    (ss_cons' (ss_asg 3 sc__law_values.nd (se_add (se_var 3) (se_lst (ss_cons se_non (ss_cons se_str (ss_cons se_str (ss_cons (se_str1 T.m_str (ss_cons (se_var 4) ss_nil)) (ss_cons (se_var 4) (ss_cons (se_var 5) (ss_cons (se_sub (se_neg se_int) (se_abs T.m_abs (ss_cons (se_var 4) ss_nil))) (ss_cons se_int (ss_cons se_int (ss_cons se_bl (ss_cons se_bl (ss_cons (se_pow se_int se_int) ss_nil)))))))))))))))
    (ss_one (ss_ret (se_add (se_var 3) (se_lst (ss_cons (se_tup (ss_cons (se_str1 T.m_str (ss_cons (se_var 4) ss_nil)) (ss_cons (se_var 5) ss_nil))) (ss_cons (se_tup (ss_cons se_non (ss_cons se_int ss_nil))) (ss_cons (se_tup (ss_cons (se_tup (ss_cons (se_var 4) (ss_cons (se_var 5) ss_nil))) (ss_cons se_int ss_nil))) (ss_cons (se_tup (ss_cons se_int (ss_cons se_non ss_nil))) (ss_cons (se_tup (ss_cons (se_var 1) (ss_cons (se_var 1) ss_nil))) (ss_cons (se_lst (ss_cons (se_var 1) ss_nil)) (ss_cons se_str ss_nil)))))))))))))))))) fun op os r op' _ h => hp_of fuel h
theorem ok__law_alone_right (T : Txt K mg) : FnG P w K mg base 2 T.a__law_alone_right T.d__law_alone_right ["_law_a"] (sp0 K mr__law_alone_right 1) :=
  ok_fn0 T.F__law_alone_right sc__law_alone_right (fun n cdv A outer s H hA hr =>
    (ss_cons' (ss_asg 1 sc__law_alone_right.nd (se_lst (ss_cons (se_tup (ss_cons (se_neg (se_ix (se_var 0) se_int)) (ss_cons (se_ix (se_var 0) se_int) ss_nil))) (ss_cons (se_call0 (idx := [0]) (ok__law_sign T) hA (hr.mono (by decide)) T.g__law_sign T.F__law_sign.kp (Fun.bd T.F__law_sign fun _ _ _ _ _ _ us hl => match us, hl with | [_], _ => rfl) (ss_cons (se_ix (se_var 0) se_int) ss_nil)) (ss_cons (se_div (se_ix (se_var 0) se_int) (se_ix (se_var 0) se_int)) (ss_cons (se_neg (se_div (se_neg (se_ix (se_var 0) se_int)) (se_ix (se_var 0) se_int))) (ss_cons (se_call0 (idx := [0]) (ok__law_text T) hA (hr.mono (by decide)) T.g__law_text T.F__law_text.kp (Fun.bd T.F__law_text fun _ _ _ _ _ _ us hl => match us, hl with | [_], _ => rfl) (ss_cons (se_var 0) ss_nil)) ss_nil)))))))
    (ss_cons' (ss_asg 2 sc__law_alone_right.nd (se_lst (ss_cons (se_call0 (idx := [0]) (ok_opposite T) hA (hr.mono (by decide)) T.g_opposite T.F_opposite.kp (Fun.bd T.F_opposite fun _ _ _ _ _ _ us hl => match us, hl with | [_], _ => rfl) (ss_cons (se_var 0) ss_nil)) (ss_cons (se_call0 (idx := [0]) (ok_sign_of T) hA (hr.mono (by decide)) T.g_sign_of T.F_sign_of.kp (Fun.bd T.F_sign_of fun _ _ _ _ _ _ us hl => match us, hl with | [_], _ => rfl) (ss_cons (se_var 0) ss_nil)) (ss_cons (se_call0 (idx := [0]) (ok_floor_of T) hA (hr.mono (by decide)) T.g_floor_of T.F_floor_of.kp (Fun.bd T.F_floor_of fun _ _ _ _ _ _ us hl => match us, hl with | [_], _ => rfl) (ss_cons (se_var 0) ss_nil)) (ss_cons (se_call0 (idx := [0]) (ok_ceiling_of T) hA (hr.mono (by decide)) T.g_ceiling_of T.F_ceiling_of.kp (Fun.bd T.F_ceiling_of fun _ _ _ _ _ _ us hl => match us, hl with | [_], _ => rfl) (ss_cons (se_var 0) ss_nil)) (ss_cons (se_call0 (idx := [0]) (ok_worth_text T) hA (hr.mono (by decide)) T.g_worth_text T.F_worth_text.kp (Fun.bd T.F_worth_text fun _ _ _ _ _ _ us hl => match us, hl with | [_], _ => rfl) (ss_cons (se_var 0) ss_nil)) ss_nil)))))))
    (ss_cons' (ss_asg 3 sc__law_alone_right.nd (se_lst (ss_cons (se_callk0 (ks := ["a"]) (idx := [0]) (ok_opposite T) hA (hr.mono (by decide)) T.g_opposite T.F_opposite.kp (Fun.bd T.F_opposite fun _ _ _ _ _ _ us hl => match us, hl with | [_], _ => rfl) (sk_cons (se_var 0) sk_nil)) (ss_cons (se_callk0 (ks := ["a"]) (idx := [0]) (ok_sign_of T) hA (hr.mono (by decide)) T.g_sign_of T.F_sign_of.kp (Fun.bd T.F_sign_of fun _ _ _ _ _ _ us hl => match us, hl with | [_], _ => rfl) (sk_cons (se_var 0) sk_nil)) (ss_cons (se_callk0 (ks := ["a"]) (idx := [0]) (ok_floor_of T) hA (hr.mono (by decide)) T.g_floor_of T.F_floor_of.kp (Fun.bd T.F_floor_of fun _ _ _ _ _ _ us hl => match us, hl with | [_], _ => rfl) (sk_cons (se_var 0) sk_nil)) (ss_cons (se_callk0 (ks := ["a"]) (idx := [0]) (ok_ceiling_of T) hA (hr.mono (by decide)) T.g_ceiling_of T.F_ceiling_of.kp (Fun.bd T.F_ceiling_of fun _ _ _ _ _ _ us hl => match us, hl with | [_], _ => rfl) (sk_cons (se_var 0) sk_nil)) (ss_cons (se_callk0 (ks := ["a"]) (idx := [0]) (ok_worth_text T) hA (hr.mono (by decide)) T.g_worth_text T.F_worth_text.kp (Fun.bd T.F_worth_text fun _ _ _ _ _ _ us hl => match us, hl with | [_], _ => rfl) (sk_cons (se_var 0) sk_nil)) ss_nil)))))))
    (ss_one (ss_ret (se_and (se_eq hr (se_repr hA hr T.m_repr (ss_cons (se_var 2) ss_nil)) (se_repr hA hr T.m_repr (ss_cons (se_var 1) ss_nil))) (se_one (se_eq hr (se_repr hA hr T.m_repr (ss_cons (se_var 3) ss_nil)) (se_repr hA hr T.m_repr (ss_cons (se_var 1) ss_nil))))))))))) fun os r _ h => hm_of fuel h
theorem ok__law_over_one (T : Txt K mg) : FnG P w K mg base 2 T.a__law_over_one T.d__law_over_one ["_law_rows"] (sp0 K mr__law_over_one 1) :=
  ok_fn0 T.F__law_over_one sc__law_over_one (fun n cdv A outer s H hA hr =>
    (ss_cons' (ss_asg 1 sc__law_over_one.nd se_int)
    (ss_cons' (ss_for rfl PassesOwn.never (si_sq (se_var 0)) (sg_tup (n := 2) rfl (sgs_cons (sg_name 2 sc__law_over_one.nd) (sgs_cons (sg_name 3 sc__law_over_one.nd) sgs_nil))) (ss_one (ss_asg 1 sc__law_over_one.nd (se_mul (se_div (se_var 1) (se_call0 (idx := [0, 1]) (ok__law_gcd T) hA (hr.mono (by decide)) T.g__law_gcd T.F__law_gcd.kp (Fun.bd T.F__law_gcd fun _ _ _ _ _ _ us hl => match us, hl with | [_, _], _ => rfl) (ss_cons (se_var 1) (ss_cons (se_var 3) ss_nil)))) (se_var 3)))))
    (ss_one (ss_ret (se_tup (ss_cons (se_lc2 4 5 rfl sc__law_over_one.nd (si_sq (se_var 0)) (fun _ _ _ _ _ => (se_mul (se_var 4) (se_div (se_var 1) (se_var 5)))) (blkOk_by (N := ["_law_rows", "_law_below", "_law_above", "_law_beneath", "_law_a", "_law_b"]) (sc := defScope s__law_over_one) (by decide +kernel)) (fun _ _ _ _ _ => pg_tup rfl (pgs_cons (pg_name sc__law_over_one.nd rfl (Or.inl rfl)) (pgs_cons (pg_name sc__law_over_one.nd rfl (Or.inl rfl)) pgs_nil)))) (ss_cons (se_var 1) ss_nil)))))))) fun os r _ h => hm_of fuel h
theorem ok_minus (T : Txt K mg) : FnG P w K mg base 3 T.a_minus T.d_minus ["a", "b"] (sp0 K mr_minus 2) :=
  ok_fn0 T.F_minus sc_minus (fun n cdv A outer s H hA hr =>
    (ss_one (ss_ret (se_call0 (idx := [0, 1]) (ok_plus T) hA (hr.mono (by decide)) T.g_plus T.F_plus.kp (Fun.bd T.F_plus fun _ _ _ _ _ _ us hl => match us, hl with | [_, _], _ => rfl) (ss_cons (se_var 0) (ss_cons (se_call0 (idx := [0]) (ok_opposite T) hA (hr.mono (by decide)) T.g_opposite T.F_opposite.kp (Fun.bd T.F_opposite fun _ _ _ _ _ _ us hl => match us, hl with | [_], _ => rfl) (ss_cons (se_var 1) ss_nil)) ss_nil)))))) fun os r _ h => hm_of fuel h
theorem ok_total (T : Txt K mg) : FnG P w K mg base 3 T.a_total T.d_total ["fractions"] (sp0 K mr_total 1) :=
  ok_fn0 T.F_total sc_total (fun n cdv A outer s H hA hr =>
    (ss_cons' (ss_asg 1 sc_total.nd (se_globT T.c_NOUGHT T.k_NOUGHT))
    (ss_cons' (ss_for rfl PassesOwn.never (si_sq (se_var 0)) (sg_name 2 sc_total.nd) (ss_one (ss_asg 1 sc_total.nd (se_call0 (idx := [0, 1]) (ok_plus T) hA (hr.mono (by decide)) T.g_plus T.F_plus.kp (Fun.bd T.F_plus fun _ _ _ _ _ _ us hl => match us, hl with | [_, _], _ => rfl) (ss_cons (se_var 1) (ss_cons (se_var 2) ss_nil))))))
    (ss_one (ss_ret (se_var 1)))))) fun os r _ h => hm_of fuel h
theorem ok__law_worth (T : Txt K mg) : FnG P w K mg base 3 T.a__law_worth T.d__law_worth ["_law_pot_here"] (spP K mr__law_worth 0) :=
  ok_fnP T.F__law_worth sc__law_worth rfl (fun n cdv A outer s H hA hr =>
    (ss_cons' (ss_asg 1 sc__law_worth.nd (se_callP (idx := [0]) (ok__law_draw T) hA (hr.mono (by decide)) T.g__law_draw T.F__law_draw.kp (Fun.bd T.F__law_draw fun _ _ _ _ _ _ us hl => match us, hl with | [_, _], _ => rfl) (ss_cons (se_var 0) (ss_cons se_int ss_nil))))
    (ss_cons' (ss_if (st_eq hr (se_var 1) se_int) (ss_one (ss_ret (se_tup (ss_cons se_int (ss_cons se_int ss_nil))))) ss_nil')
    (ss_cons' (ss_if (st_eq hr (se_var 1) se_int) (ss_one (ss_ret (se_tup (ss_cons (se_sub (se_callP (idx := [0]) (ok__law_draw T) hA (hr.mono (by decide)) T.g__law_draw T.F__law_draw.kp (Fun.bd T.F__law_draw fun _ _ _ _ _ _ us hl => match us, hl with | [_, _], _ => rfl) (ss_cons (se_var 0) (ss_cons se_int ss_nil))) se_int) (ss_cons se_int ss_nil))))) ss_nil')
    (ss_cons' (ss_if (st_eq hr (se_var 1) se_int) (ss_one (ss_ret (se_call0 (idx := [0, 1]) (ok__law_made T) hA (hr.mono (by decide)) T.g__law_made T.F__law_made.kp (Fun.bd T.F__law_made fun _ _ _ _ _ _ us hl => match us, hl with | [_, _], _ => rfl) (ss_cons (se_callP (idx := [0]) (ok__law_signed T) hA (hr.mono (by decide)) T.g__law_signed T.F__law_signed.kp (Fun.bd T.F__law_signed fun _ _ _ _ _ _ us hl => match us, hl with | [_, _], _ => rfl) (ss_cons (se_var 0) (ss_cons (se_callP (idx := []) (ok__law_great T) hA (hr.mono (by decide)) T.g__law_great T.F__law_great.kp (Fun.bd T.F__law_great fun _ _ _ _ _ _ us hl => match us, hl with | [_], _ => rfl) (ss_cons (se_var 0) ss_nil)) ss_nil))) (ss_cons (se_add se_int (se_callP (idx := []) (ok__law_great T) hA (hr.mono (by decide)) T.g__law_great T.F__law_great.kp (Fun.bd T.F__law_great fun _ _ _ _ _ _ us hl => match us, hl with | [_], _ => rfl) (ss_cons (se_var 0) ss_nil))) ss_nil))))) ss_nil')
    (ss_cons' (ss_asg 2 sc__law_worth.nd (se_if (st_lt (se_var 1) se_int) se_int se_int))
    (ss_cons' (ss_asg 3 sc__law_worth.nd (se_callP (idx := [0]) (ok__law_signed T) hA (hr.mono (by decide)) T.g__law_signed T.F__law_signed.kp (Fun.bd T.F__law_signed fun _ _ _ _ _ _ us hl => match us, hl with | [_, _], _ => rfl) (ss_cons (se_var 0) (ss_cons (se_callP (idx := [0]) (ok__law_draw T) hA (hr.mono (by decide)) T.g__law_draw T.F__law_draw.kp (Fun.bd T.F__law_draw fun _ _ _ _ _ _ us hl => match us, hl with | [_, _], _ => rfl) (ss_cons (se_var 0) (ss_cons (se_var 2) ss_nil))) ss_nil))))
    (ss_one (ss_ret (se_call0 (idx := [0, 1]) (ok__law_made T) hA (hr.mono (by decide)) T.g__law_made T.F__law_made.kp (Fun.bd T.F__law_made fun _ _ _ _ _ _ us hl => match us, hl with | [_, _], _ => rfl) (ss_cons (se_var 3) (ss_cons (se_add se_int (se_callP (idx := [0]) (ok__law_draw T) hA (hr.mono (by decide)) T.g__law_draw T.F__law_draw.kp (Fun.bd T.F__law_draw fun _ _ _ _ _ _ us hl => match us, hl with | [_, _], _ => rfl) (ss_cons (se_var 0) (ss_cons (se_var 2) ss_nil)))) ss_nil)))))))))))) fun op os r op' _ h => hp_of fuel h
theorem ok__law_values_right (T : Txt K mg) : FnG P w K mg base 3 T.a__law_values_right T.d__law_values_right ["_law_pot_here", "_law_one"] (spP K mr__law_values_right 1) :=
  ok_fnP T.F__law_values_right sc__law_values_right rfl (fun n cdv A outer s H hA hr =>
    (ss_cons' (ss_for rfl PassesOwn.never (si_sq (se_callP (idx := [0]) (ok__law_values T) hA (hr.mono (by decide)) T.g__law_values T.F__law_values.kp (Fun.bd T.F__law_values fun _ _ _ _ _ _ us hl => match us, hl with | [_, _], _ => rfl) (ss_cons (se_var 0) (ss_cons (se_var 1) ss_nil)))) (sg_name 2 sc__law_values_right.nd) (ss_cons' (ss_asg 4 sc__law_values_right.nd (se_call0 (idx := [0]) (ok__law_is_whole T) hA (hr.mono (by decide)) T.g__law_is_whole T.F__law_is_whole.kp (Fun.bd T.F__law_is_whole fun _ _ _ _ _ _ us hl => match us, hl with | [_], _ => rfl) (ss_cons (se_var 2) ss_nil)))
    (ss_cons' (ss_asg 5 sc__law_values_right.nd (se_lst (ss_cons (se_var 4) (ss_cons (se_and (se_var 4) (se_one (se_ge (se_var 2) se_int))) (ss_cons (se_call0 (idx := [0]) (ok__law_fits T) hA (hr.mono (by decide)) T.g__law_fits T.F__law_fits.kp (Fun.bd T.F__law_fits fun _ _ _ _ _ _ us hl => match us, hl with | [_], _ => rfl) (ss_cons (se_var 2) ss_nil)) ss_nil)))))
    (ss_cons' (ss_asg 3 sc__law_values_right.nd (se_lst (ss_cons (se_call0 (idx := [0]) (ok_is_integer T) hA (hr.mono (by decide)) T.g_is_integer T.F_is_integer.kp (Fun.bd T.F_is_integer fun _ _ _ _ _ _ us hl => match us, hl with | [_], _ => rfl) (ss_cons (se_var 2) ss_nil)) (ss_cons (se_call0 (idx := [0]) (ok_is_count T) hA (hr.mono (by decide)) T.g_is_count T.F_is_count.kp (Fun.bd T.F_is_count fun _ _ _ _ _ _ us hl => match us, hl with | [_], _ => rfl) (ss_cons (se_var 2) ss_nil)) (ss_cons (se_call0 (idx := [0]) (ok_is_fraction T) hA (hr.mono (by decide)) T.g_is_fraction T.F_is_fraction.kp (Fun.bd T.F_is_fraction fun _ _ _ _ _ _ us hl => match us, hl with | [_], _ => rfl) (ss_cons (se_var 2) ss_nil)) ss_nil)))))
    (ss_one (ss_if (st_ne hr (se_repr hA hr T.m_repr (ss_cons (se_var 3) ss_nil)) (se_repr hA hr T.m_repr (ss_cons (se_var 5) ss_nil))) (ss_one (ss_ret se_bl)) ss_nil'))))))
    (ss_cons' (ss_asg 3 sc__law_values_right.nd (se_lst (ss_cons (se_callk0 (ks := ["value"]) (idx := [0]) (ok_is_integer T) hA (hr.mono (by decide)) T.g_is_integer T.F_is_integer.kp (Fun.bd T.F_is_integer fun _ _ _ _ _ _ us hl => match us, hl with | [_], _ => rfl) (sk_cons (se_ix (se_var 1) se_int) sk_nil)) (ss_cons (se_callk0 (ks := ["value"]) (idx := [0]) (ok_is_count T) hA (hr.mono (by decide)) T.g_is_count T.F_is_count.kp (Fun.bd T.F_is_count fun _ _ _ _ _ _ us hl => match us, hl with | [_], _ => rfl) (sk_cons (se_var 1) sk_nil)) (ss_cons (se_callk0 (ks := ["value"]) (idx := [0]) (ok_is_fraction T) hA (hr.mono (by decide)) T.g_is_fraction T.F_is_fraction.kp (Fun.bd T.F_is_fraction fun _ _ _ _ _ _ us hl => match us, hl with | [_], _ => rfl) (sk_cons (se_var 1) sk_nil)) ss_nil)))))
    (ss_one (ss_ret (se_eq hr (se_repr hA hr T.m_repr (ss_cons (se_var 3) ss_nil)) se_str)))))) fun op os r op' _ h => hp_of fuel h
theorem ok__law_refused_below (T : Txt K mg) : FnG P w K mg base 3 T.a__law_refused_below T.d__law_refused_below ["_law_above"] (sp0 K mr__law_refused_below 1) :=
  ok_fn0 T.F__law_refused_below sc__law_refused_below (fun n cdv A outer s H hA hr =>
    (ss_cons' (ss_asg 1 sc__law_refused_below.nd (se_lst ss_nil))
    (ss_cons' (ss_tryAs 2 rfl rfl sc__law_refused_below.nd ⟨rfl, by decide, .inl T.E_DividedByNought.g⟩ T.errs (by decide) (by decide) (fun W pn xe tk _ => (sx_one (sx_expr (sex_call (idx := [0, 1]) tk (ok_fraction T) hA (hr.mono (by decide)) T.g_fraction T.F_fraction.kp (Fun.bd T.F_fraction fun _ _ _ _ _ _ us hl => match us, hl with | [_, _], _ => rfl) (ss_cons (se_var 0) (ss_cons se_int ss_nil)))))) (fun e a oe pn he hz hf => (ss_cons' (ss_app 1 (se_and (se_isE (y := 0) T.errs he (by decide) (T.excs e he) hz hf T.m_isinstance T.E_TermError.g (se_var 2)) (se_one (se_isEB (C := T.C) (y := "ValueError") (T.excs e he) hz hf T.m_isinstance T.m_ValueError (T.errsB "ValueError" (by decide) e he) (se_var 2)))))
    (ss_one (ss_app 1 (se_isE (y := 1) T.errs he (by decide) (T.excs e he) hz hf T.m_isinstance T.E_MissingError.g (se_var 2)))))))
    (ss_cons' (ss_tryAs 2 rfl rfl sc__law_refused_below.nd ⟨rfl, by decide, .inl T.E_TermError.g⟩ T.errs (by decide) (by decide) (fun W pn xe tk _ => (sx_one (sx_expr (sex_call (idx := [0, 1]) tk (ok_over T) hA (hr.mono (by decide)) T.g_over T.F_over.kp (Fun.bd T.F_over fun _ _ _ _ _ _ us hl => match us, hl with | [_, _], _ => rfl) (ss_cons (se_tup (ss_cons (se_var 0) (ss_cons se_int ss_nil))) (ss_cons (se_tup (ss_cons se_int (ss_cons se_int ss_nil))) ss_nil)))))) (fun e a oe pn he hz hf => (ss_cons' (ss_app 1 (se_isE (y := 2) T.errs he (by decide) (T.excs e he) hz hf T.m_isinstance T.E_DividedByNought.g (se_var 2)))
    (ss_one (ss_app 1 (se_isE (y := 3) T.errs he (by decide) (T.excs e he) hz hf T.m_isinstance T.E_NothingGiven.g (se_var 2)))))))
    (ss_one (ss_ret (se_eq hr (se_repr hA hr T.m_repr (ss_cons (se_var 1) ss_nil)) se_str))))))) fun os r _ h => hm_of fuel h
theorem ok__law_refused_empty (T : Txt K mg) : FnG P w K mg base 3 T.a__law_refused_empty T.d__law_refused_empty [] (sp0 K mr__law_refused_empty 0) :=
  ok_fn0 T.F__law_refused_empty sc__law_refused_empty (fun n cdv A outer s H hA hr =>
    (ss_cons' (ss_asg 0 sc__law_refused_empty.nd (se_lst ss_nil))
    (ss_cons' (ss_tryAs 1 rfl rfl sc__law_refused_empty.nd ⟨rfl, by decide, .inl T.E_NothingGiven.g⟩ T.errs (by decide) (by decide) (fun W pn xe tk _ => (sx_one (sx_expr (sex_call (idx := [0]) tk (ok_least T) hA (hr.mono (by decide)) T.g_least T.F_least.kp (Fun.bd T.F_least fun _ _ _ _ _ _ us hl => match us, hl with | [_], _ => rfl) (ss_cons (se_lst ss_nil) ss_nil))))) (fun e a oe pn he hz hf => (ss_one (ss_app 0 (se_and (se_isE (y := 1) T.errs he (by decide) (T.excs e he) hz hf T.m_isinstance T.E_MissingError.g (se_var 1)) (se_one (se_isEB (C := T.C) (y := "LookupError") (T.excs e he) hz hf T.m_isinstance T.m_LookupError (T.errsB "LookupError" (by decide) e he) (se_var 1))))))))
    (ss_cons' (ss_tryAs 1 rfl rfl sc__law_refused_empty.nd ⟨rfl, by decide, .inl T.E_MissingError.g⟩ T.errs (by decide) (by decide) (fun W pn xe tk _ => (sx_one (sx_expr (sex_call (idx := [0]) tk (ok_greatest T) hA (hr.mono (by decide)) T.g_greatest T.F_greatest.kp (Fun.bd T.F_greatest fun _ _ _ _ _ _ us hl => match us, hl with | [_], _ => rfl) (ss_cons (se_lst ss_nil) ss_nil))))) (fun e a oe pn he hz hf => (ss_one (ss_app 0 (se_and (se_isE (y := 3) T.errs he (by decide) (T.excs e he) hz hf T.m_isinstance T.E_NothingGiven.g (se_var 1)) (se_one (se_not (se_isE (y := 0) T.errs he (by decide) (T.excs e he) hz hf T.m_isinstance T.E_TermError.g (se_var 1)))))))))
    (ss_one (ss_ret (se_eq hr (se_repr hA hr T.m_repr (ss_cons (se_var 0) ss_nil)) se_str))))))) fun os r _ h => hm_of fuel h
theorem ok__law_made_right (T : Txt K mg) : FnG P w K mg base 4 T.a__law_made_right T.d__law_made_right ["_law_pot_here"] (spP K mr__law_made_right 0) :=
  ok_fnP T.F__law_made_right sc__law_made_right rfl (fun n cdv A outer s H hA hr =>
    (ss_cons' (ss_asg 1 sc__law_made_right.nd (se_callP (idx := [0]) (ok__law_signed T) hA (hr.mono (by decide)) T.g__law_signed T.F__law_signed.kp (Fun.bd T.F__law_signed fun _ _ _ _ _ _ us hl => match us, hl with | [_, _], _ => rfl) (ss_cons (se_var 0) (ss_cons (se_callP (idx := [0]) (ok__law_pick T) hA (hr.mono (by decide)) T.g__law_pick T.F__law_pick.kp (Fun.bd T.F__law_pick fun _ _ _ _ _ _ us hl => match us, hl with | [_, _], _ => rfl) (ss_cons (se_var 0) (ss_cons (se_lst (ss_cons se_int (ss_cons se_int (ss_cons se_int (ss_cons se_int (ss_cons se_int (ss_cons (se_callP (idx := []) (ok__law_great T) hA (hr.mono (by decide)) T.g__law_great T.F__law_great.kp (Fun.bd T.F__law_great fun _ _ _ _ _ _ us hl => match us, hl with | [_], _ => rfl) (ss_cons (se_var 0) ss_nil)) ss_nil))))))) ss_nil))) ss_nil))))
    (ss_cons' (ss_asg 2 sc__law_made_right.nd (se_add se_int (se_callP (idx := [0]) (ok__law_pick T) hA (hr.mono (by decide)) T.g__law_pick T.F__law_pick.kp (Fun.bd T.F__law_pick fun _ _ _ _ _ _ us hl => match us, hl with | [_, _], _ => rfl) (ss_cons (se_var 0) (ss_cons (se_lst (ss_cons se_int (ss_cons se_int (ss_cons se_int (ss_cons se_int (ss_cons se_int (ss_cons (se_callP (idx := []) (ok__law_great T) hA (hr.mono (by decide)) T.g__law_great T.F__law_great.kp (Fun.bd T.F__law_great fun _ _ _ _ _ _ us hl => match us, hl with | [_], _ => rfl) (ss_cons (se_var 0) ss_nil)) ss_nil))))))) ss_nil)))))
    (ss_cons' (ss_asg 2 sc__law_made_right.nd (se_callP (idx := [0]) (ok__law_signed T) hA (hr.mono (by decide)) T.g__law_signed T.F__law_signed.kp (Fun.bd T.F__law_signed fun _ _ _ _ _ _ us hl => match us, hl with | [_, _], _ => rfl) (ss_cons (se_var 0) (ss_cons (se_var 2) ss_nil))))
    (ss_cons' (ss_if (st_ne hr (se_repr hA hr T.m_repr (ss_cons (se_call0 (idx := [0, 1]) (ok_fraction T).calm hA (hr.mono (by decide)) T.g_fraction T.F_fraction.kp (Fun.bd T.F_fraction fun _ _ _ _ _ _ us hl => match us, hl with | [_, _], _ => rfl) (ss_cons (se_var 1) (ss_cons (se_var 2) ss_nil))) ss_nil)) (se_repr hA hr T.m_repr (ss_cons (se_call0 (idx := [0, 1]) (ok__law_made T) hA (hr.mono (by decide)) T.g__law_made T.F__law_made.kp (Fun.bd T.F__law_made fun _ _ _ _ _ _ us hl => match us, hl with | [_, _], _ => rfl) (ss_cons (se_var 1) (ss_cons (se_var 2) ss_nil))) ss_nil))) (ss_one (ss_ret se_bl)) ss_nil')
    (ss_cons' (ss_if (st_ne hr (se_repr hA hr T.m_repr (ss_cons (se_callk0 (ks := ["below", "above"]) (idx := [1, 0]) (ok_fraction T).calm hA (hr.mono (by decide)) T.g_fraction T.F_fraction.kp (Fun.bd T.F_fraction fun _ _ _ _ _ _ us hl => match us, hl with | [_, _], _ => rfl) (sk_cons (se_neg (se_var 2)) (sk_cons (se_var 1) sk_nil))) ss_nil)) (se_repr hA hr T.m_repr (ss_cons (se_call0 (idx := [0, 1]) (ok__law_made T) hA (hr.mono (by decide)) T.g__law_made T.F__law_made.kp (Fun.bd T.F__law_made fun _ _ _ _ _ _ us hl => match us, hl with | [_, _], _ => rfl) (ss_cons (se_var 1) (ss_cons (se_neg (se_var 2)) ss_nil))) ss_nil))) (ss_one (ss_ret se_bl)) ss_nil')
    (ss_cons' (ss_if (st_ne hr (se_reprL hA hr T.m_repr (ss_cons (se_call0 (idx := [0]) (ok_whole T) hA (hr.mono (by decide)) T.g_whole T.F_whole.kp (Fun.bd T.F_whole fun _ _ _ _ _ _ us hl => match us, hl with | [_], _ => rfl) (ss_cons (se_var 1) ss_nil)) (ss_cons (se_callk0 (ks := ["number"]) (idx := [0]) (ok_whole T) hA (hr.mono (by decide)) T.g_whole T.F_whole.kp (Fun.bd T.F_whole fun _ _ _ _ _ _ us hl => match us, hl with | [_], _ => rfl) (sk_cons (se_neg (se_var 1)) sk_nil)) ss_nil))) (se_reprL hA hr T.m_repr (ss_cons (se_tup (ss_cons (se_var 1) (ss_cons se_int ss_nil))) (ss_cons (se_tup (ss_cons (se_neg (se_var 1)) (ss_cons se_int ss_nil))) ss_nil)))) (ss_one (ss_ret se_bl)) ss_nil')
    (ss_one (ss_ret (se_and (se_call0 (idx := [0]) (ok__law_refused_below T) hA (hr.mono (by decide)) T.g__law_refused_below T.F__law_refused_below.kp (Fun.bd T.F__law_refused_below fun _ _ _ _ _ _ us hl => match us, hl with | [_], _ => rfl) (ss_cons (se_var 1) ss_nil)) (se_one (se_eq hr (se_repr hA hr T.m_repr (ss_cons (se_call0 (idx := [0, 1]) (ok_fraction T).calm hA (hr.mono (by decide)) T.g_fraction T.F_fraction.kp (Fun.bd T.F_fraction fun _ _ _ _ _ _ us hl => match us, hl with | [_, _], _ => rfl) (ss_cons (se_var 1) (ss_cons (se_var 2) ss_nil))) ss_nil)) (se_repr hA hr T.m_repr (ss_cons (se_call0 (idx := [0, 1]) (ok__law_made T) hA (hr.mono (by decide)) T.g__law_made T.F__law_made.kp (Fun.bd T.F__law_made fun _ _ _ _ _ _ us hl => match us, hl with | [_, _], _ => rfl) (ss_cons (se_var 1) (ss_cons (se_var 2) ss_nil))) ss_nil)))))))))))))) fun op os r op' _ h => hp_of fuel h
theorem ok__law_two_right (T : Txt K mg) : FnG P w K mg base 4 T.a__law_two_right T.d__law_two_right ["_law_a", "_law_b"] (sp0 K mr__law_two_right 2) :=
  ok_fn0 T.F__law_two_right sc__law_two_right (fun n cdv A outer s H hA hr =>
    (ss_cons' (ss_asg 2 sc__law_two_right.nd (se_lst (ss_cons (se_call0 (idx := [0, 1]) (ok__law_made T) hA (hr.mono (by decide)) T.g__law_made T.F__law_made.kp (Fun.bd T.F__law_made fun _ _ _ _ _ _ us hl => match us, hl with | [_, _], _ => rfl) (ss_cons (se_add (se_mul (se_ix (se_var 0) se_int) (se_ix (se_var 1) se_int)) (se_mul (se_ix (se_var 1) se_int) (se_ix (se_var 0) se_int))) (ss_cons (se_mul (se_ix (se_var 0) se_int) (se_ix (se_var 1) se_int)) ss_nil))) ss_nil)))
    (ss_cons' (ss_app 2 (se_call0 (idx := [0, 1]) (ok__law_made T) hA (hr.mono (by decide)) T.g__law_made T.F__law_made.kp (Fun.bd T.F__law_made fun _ _ _ _ _ _ us hl => match us, hl with | [_, _], _ => rfl) (ss_cons (se_sub (se_mul (se_ix (se_var 0) se_int) (se_ix (se_var 1) se_int)) (se_mul (se_ix (se_var 1) se_int) (se_ix (se_var 0) se_int))) (ss_cons (se_mul (se_ix (se_var 0) se_int) (se_ix (se_var 1) se_int)) ss_nil))))
    (ss_cons' (ss_app 2 (se_call0 (idx := [0, 1]) (ok__law_made T) hA (hr.mono (by decide)) T.g__law_made T.F__law_made.kp (Fun.bd T.F__law_made fun _ _ _ _ _ _ us hl => match us, hl with | [_, _], _ => rfl) (ss_cons (se_mul (se_ix (se_var 0) se_int) (se_ix (se_var 1) se_int)) (ss_cons (se_mul (se_ix (se_var 0) se_int) (se_ix (se_var 1) se_int)) ss_nil))))
    (ss_cons' (ss_app 2 (se_call0 (idx := [0, 1]) (ok__law_less T) hA (hr.mono (by decide)) T.g__law_less T.F__law_less.kp (Fun.bd T.F__law_less fun _ _ _ _ _ _ us hl => match us, hl with | [_, _], _ => rfl) (ss_cons (se_var 0) (ss_cons (se_var 1) ss_nil))))
    (ss_cons' (ss_asg 3 sc__law_two_right.nd (se_lst (ss_cons (se_call0 (idx := [0, 1]) (ok_plus T) hA (hr.mono (by decide)) T.g_plus T.F_plus.kp (Fun.bd T.F_plus fun _ _ _ _ _ _ us hl => match us, hl with | [_, _], _ => rfl) (ss_cons (se_var 0) (ss_cons (se_var 1) ss_nil))) (ss_cons (se_call0 (idx := [0, 1]) (ok_minus T) hA (hr.mono (by decide)) T.g_minus T.F_minus.kp (Fun.bd T.F_minus fun _ _ _ _ _ _ us hl => match us, hl with | [_, _], _ => rfl) (ss_cons (se_var 0) (ss_cons (se_var 1) ss_nil))) (ss_cons (se_call0 (idx := [0, 1]) (ok_times T) hA (hr.mono (by decide)) T.g_times T.F_times.kp (Fun.bd T.F_times fun _ _ _ _ _ _ us hl => match us, hl with | [_, _], _ => rfl) (ss_cons (se_var 0) (ss_cons (se_var 1) ss_nil))) (ss_cons (se_call0 (idx := [0, 1]) (ok_compare T) hA (hr.mono (by decide)) T.g_compare T.F_compare.kp (Fun.bd T.F_compare fun _ _ _ _ _ _ us hl => match us, hl with | [_, _], _ => rfl) (ss_cons (se_var 0) (ss_cons (se_var 1) ss_nil))) ss_nil))))))
    (ss_cons' (ss_asg 4 sc__law_two_right.nd (se_lst (ss_cons (se_callk0 (ks := ["b", "a"]) (idx := [1, 0]) (ok_plus T) hA (hr.mono (by decide)) T.g_plus T.F_plus.kp (Fun.bd T.F_plus fun _ _ _ _ _ _ us hl => match us, hl with | [_, _], _ => rfl) (sk_cons (se_var 1) (sk_cons (se_var 0) sk_nil))) (ss_cons (se_callk0 (ks := ["b", "a"]) (idx := [1, 0]) (ok_minus T) hA (hr.mono (by decide)) T.g_minus T.F_minus.kp (Fun.bd T.F_minus fun _ _ _ _ _ _ us hl => match us, hl with | [_, _], _ => rfl) (sk_cons (se_var 1) (sk_cons (se_var 0) sk_nil))) (ss_cons (se_callk0 (ks := ["b", "a"]) (idx := [1, 0]) (ok_times T) hA (hr.mono (by decide)) T.g_times T.F_times.kp (Fun.bd T.F_times fun _ _ _ _ _ _ us hl => match us, hl with | [_, _], _ => rfl) (sk_cons (se_var 1) (sk_cons (se_var 0) sk_nil))) (ss_cons (se_callk0 (ks := ["b", "a"]) (idx := [1, 0]) (ok_compare T) hA (hr.mono (by decide)) T.g_compare T.F_compare.kp (Fun.bd T.F_compare fun _ _ _ _ _ _ us hl => match us, hl with | [_, _], _ => rfl) (sk_cons (se_var 1) (sk_cons (se_var 0) sk_nil))) ss_nil))))))
    (ss_cons' (ss_if (STw.t (st_or (st_ne hr (se_repr hA hr T.m_repr (ss_cons (se_var 3) ss_nil)) (se_repr hA hr T.m_repr (ss_cons (se_var 2) ss_nil))) (st_or1 (st_ne hr (se_repr hA hr T.m_repr (ss_cons (se_var 4) ss_nil)) (se_repr hA hr T.m_repr (ss_cons (se_var 2) ss_nil)))))) (ss_one (ss_ret se_bl)) ss_nil')
    (ss_cons' (ss_if (st_eq hr (se_ix (se_var 1) se_int) se_int) (ss_one (ss_ret se_bl)) ss_nil')
    (ss_cons' (ss_asg 2 sc__law_two_right.nd (se_call0 (idx := [0, 1]) (ok__law_made T) hA (hr.mono (by decide)) T.g__law_made T.F__law_made.kp (Fun.bd T.F__law_made fun _ _ _ _ _ _ us hl => match us, hl with | [_, _], _ => rfl) (ss_cons (se_mul (se_ix (se_var 0) se_int) (se_ix (se_var 1) se_int)) (ss_cons (se_mul (se_ix (se_var 0) se_int) (se_ix (se_var 1) se_int)) ss_nil))))
    (ss_one (ss_ret (se_eq hr (se_reprL hA hr T.m_repr (ss_cons (se_call0 (idx := [0, 1]) (ok_over T).calm hA (hr.mono (by decide)) T.g_over T.F_over.kp (Fun.bd T.F_over fun _ _ _ _ _ _ us hl => match us, hl with | [_, _], _ => rfl) (ss_cons (se_var 0) (ss_cons (se_var 1) ss_nil))) (ss_cons (se_callk0 (ks := ["b", "a"]) (idx := [1, 0]) (ok_over T).calm hA (hr.mono (by decide)) T.g_over T.F_over.kp (Fun.bd T.F_over fun _ _ _ _ _ _ us hl => match us, hl with | [_, _], _ => rfl) (sk_cons (se_var 1) (sk_cons (se_var 0) sk_nil))) ss_nil))) (se_reprL hA hr T.m_repr (ss_cons (se_var 2) (ss_cons (se_var 2) ss_nil)))))))))))))))) fun os r _ h => hm_of fuel h
theorem ok__law_second (T : Txt K mg) : FnG P w K mg base 4 T.a__law_second T.d__law_second ["_law_pot_here", "_law_a"] (spP K mr__law_second 1) :=
  ok_fnP T.F__law_second sc__law_second rfl (fun n cdv A outer s H hA hr =>
    (ss_cons' (ss_asg 2 sc__law_second.nd (se_callP (idx := [0]) (ok__law_draw T) hA (hr.mono (by decide)) T.g__law_draw T.F__law_draw.kp (Fun.bd T.F__law_draw fun _ _ _ _ _ _ us hl => match us, hl with | [_, _], _ => rfl) (ss_cons (se_var 0) (ss_cons se_int ss_nil))))
    (ss_cons' (ss_if (st_eq hr (se_var 2) se_int) (ss_one (ss_ret (se_var 1))) ss_nil')
    (ss_cons' (ss_if (st_eq hr (se_var 2) se_int) (ss_one (ss_ret (se_tup (ss_cons (se_neg (se_ix (se_var 1) se_int)) (ss_cons (se_ix (se_var 1) se_int) ss_nil))))) ss_nil')
    (ss_cons' (ss_if (st_eq hr (se_var 2) se_int) (ss_one (ss_ret (se_call0 (idx := [0, 1]) (ok__law_made T) hA (hr.mono (by decide)) T.g__law_made T.F__law_made.kp (Fun.bd T.F__law_made fun _ _ _ _ _ _ us hl => match us, hl with | [_, _], _ => rfl) (ss_cons (se_add (se_mul (se_ix (se_var 1) se_int) se_int) se_int) (ss_cons (se_mul (se_ix (se_var 1) se_int) se_int) ss_nil))))) ss_nil')
    (ss_one (ss_ret (se_callP (idx := []) (ok__law_worth T) hA (hr.mono (by decide)) T.g__law_worth T.F__law_worth.kp (Fun.bd T.F__law_worth fun _ _ _ _ _ _ us hl => match us, hl with | [_], _ => rfl) (ss_cons (se_var 0) ss_nil))))))))) fun op os r op' _ h => hp_of fuel h
theorem ok__law_list (T : Txt K mg) : FnG P w K mg base 4 T.a__law_list T.d__law_list ["_law_pot_here"] (spP K mr__law_list 0) :=
  ok_fnP T.F__law_list sc__law_list rfl (fun n cdv A outer s H hA hr =>
    (ss_cons' (ss_asg 1 sc__law_list.nd (se_callP (idx := [0]) (ok__law_pick T) hA (hr.mono (by decide)) T.g__law_pick T.F__law_pick.kp (Fun.bd T.F__law_pick fun _ _ _ _ _ _ us hl => match us, hl with | [_, _], _ => rfl) (ss_cons (se_var 0) (ss_cons (se_lst (ss_cons se_int (ss_cons se_int (ss_cons se_int (ss_cons se_int (ss_cons se_int (ss_cons se_int (ss_cons se_int (ss_cons se_int (ss_cons se_int ss_nil)))))))))) ss_nil))))
    (ss_cons' (ss_asg 2 sc__law_list.nd (se_callP (idx := [0]) (ok__law_pick T) hA (hr.mono (by decide)) T.g__law_pick T.F__law_pick.kp (Fun.bd T.F__law_pick fun _ _ _ _ _ _ us hl => match us, hl with | [_, _], _ => rfl) (ss_cons (se_var 0) (ss_cons (se_lst (ss_cons se_int (ss_cons se_int (ss_cons se_int ss_nil)))) ss_nil))))
    (ss_cons' (ss_if (STw.t (st_or (st_eq hr (se_var 2) se_int) (st_or1 (st_eq hr (se_var 1) se_int)))) (ss_cons' (ss_asg 3 sc__law_list.nd (se_lst ss_nil))
    (ss_cons' (ss_for rfl PassesOwn.never (si_r1 T.m_range (ss_cons (se_var 1) ss_nil)) (sg_name 4 sc__law_list.nd) (ss_cons' (ss_asg 5 sc__law_list.nd (se_sub (se_callP (idx := [0]) (ok__law_draw T) hA (hr.mono (by decide)) T.g__law_draw T.F__law_draw.kp (Fun.bd T.F__law_draw fun _ _ _ _ _ _ us hl => match us, hl with | [_, _], _ => rfl) (ss_cons (se_var 0) (ss_cons se_int ss_nil))) se_int))
    (ss_one (ss_app 3 (se_call0 (idx := [0, 1]) (ok__law_made T) hA (hr.mono (by decide)) T.g__law_made T.F__law_made.kp (Fun.bd T.F__law_made fun _ _ _ _ _ _ us hl => match us, hl with | [_, _], _ => rfl) (ss_cons (se_var 5) (ss_cons (se_add se_int (se_callP (idx := [0]) (ok__law_draw T) hA (hr.mono (by decide)) T.g__law_draw T.F__law_draw.kp (Fun.bd T.F__law_draw fun _ _ _ _ _ _ us hl => match us, hl with | [_, _], _ => rfl) (ss_cons (se_var 0) (ss_cons se_int ss_nil)))) ss_nil)))))))
    (ss_one (ss_ret (se_var 3))))) ss_nil')
    (ss_one (ss_ret (se_lc 4 rfl sc__law_list.nd (si_r1 T.m_range (ss_cons (se_var 1) ss_nil)) (fun _ _ _ _ _ => (se_callP (idx := []) (ok__law_worth T) hA (hr.mono (by decide)) T.g__law_worth T.F__law_worth.kp (Fun.bd T.F__law_worth fun _ _ _ _ _ _ us hl => match us, hl with | [_], _ => rfl) (ss_cons (se_var 0) ss_nil))) (ok := blkOk_by (N := ["_law_pot_here", "_law_many", "_law_size", "_law_found", "_law_turn", "_law_above"]) (sc := defScope s__law_list) (by decide +kernel)) (hg := fun _ _ _ _ _ => pg_name sc__law_list.nd rfl (Or.inl rfl))))))))) fun op os r op' _ h => hp_of fuel h
theorem ok__law_list_right (T : Txt K mg) : FnG P w K mg base 4 T.a__law_list_right T.d__law_list_right ["_law_rows"] (sp0 K mr__law_list_right 1) :=
  ok_fn0 T.F__law_list_right sc__law_list_right (fun n cdv A outer s H hA hr =>
    (ss_cons' (ss_asg 1 sc__law_list_right.nd (se_repr hA hr T.m_repr (ss_cons (se_var 0) ss_nil)))
    (ss_cons' (ss_asg 2 sc__law_list_right.nd (se_tup (ss_cons se_int (ss_cons se_int ss_nil))))
    (ss_cons' (ss_for rfl PassesOwn.never (si_sq (se_var 0)) (sg_name 3 sc__law_list_right.nd) (ss_one (ss_asg 2 sc__law_list_right.nd (se_call0 (idx := [0, 1]) (ok__law_made T) hA (hr.mono (by decide)) T.g__law_made T.F__law_made.kp (Fun.bd T.F__law_made fun _ _ _ _ _ _ us hl => match us, hl with | [_, _], _ => rfl) (ss_cons (se_add (se_mul (se_ix (se_var 2) se_int) (se_ix (se_var 3) se_int)) (se_mul (se_ix (se_var 3) se_int) (se_ix (se_var 2) se_int))) (ss_cons (se_mul (se_ix (se_var 2) se_int) (se_ix (se_var 3) se_int)) ss_nil))))))
    (ss_cons' (ss_asg 4 sc__law_list_right.nd (se_call0 (idx := [0]) (ok__law_over_one T) hA (hr.mono (by decide)) T.g__law_over_one T.F__law_over_one.kp (Fun.bd T.F__law_over_one fun _ _ _ _ _ _ us hl => match us, hl with | [_], _ => rfl) (ss_cons (se_var 0) ss_nil)))
    (ss_cons' (ss_asg 5 sc__law_list_right.nd (se_call0 (idx := [0]) (ok_over_one_below T) hA (hr.mono (by decide)) T.g_over_one_below T.F_over_one_below.kp (Fun.bd T.F_over_one_below fun _ _ _ _ _ _ us hl => match us, hl with | [_], _ => rfl) (ss_cons (se_var 0) ss_nil)))
    (ss_cons' (ss_if (st_ne hr (se_reprL hA hr T.m_repr (ss_cons (se_call0 (idx := [0]) (ok_total T) hA (hr.mono (by decide)) T.g_total T.F_total.kp (Fun.bd T.F_total fun _ _ _ _ _ _ us hl => match us, hl with | [_], _ => rfl) (ss_cons (se_var 0) ss_nil)) (ss_cons (se_var 5) ss_nil))) (se_reprL hA hr T.m_repr (ss_cons (se_var 2) (ss_cons (se_var 4) ss_nil)))) (ss_one (ss_ret se_bl)) ss_nil')
    (ss_cons' (ss_appTp 5 se_int se_int)
    (ss_cons' (ss_if (st_ne hr (se_reprL hA hr T.m_repr (ss_cons (se_callk0 (ks := ["fractions"]) (idx := [0]) (ok_total T) hA (hr.mono (by decide)) T.g_total T.F_total.kp (Fun.bd T.F_total fun _ _ _ _ _ _ us hl => match us, hl with | [_], _ => rfl) (sk_cons (se_var 0) sk_nil)) (ss_cons (se_callk0 (ks := ["fractions"]) (idx := [0]) (ok_over_one_below T) hA (hr.mono (by decide)) T.g_over_one_below T.F_over_one_below.kp (Fun.bd T.F_over_one_below fun _ _ _ _ _ _ us hl => match us, hl with | [_], _ => rfl) (sk_cons (se_var 0) sk_nil)) ss_nil))) (se_reprL hA hr T.m_repr (ss_cons (se_var 2) (ss_cons (se_var 4) ss_nil)))) (ss_one (ss_ret se_bl)) ss_nil')
    (ss_cons' (ss_if (st_eq hr (se_len T.m_len (ss_cons (se_var 0) ss_nil)) se_int) (ss_one (ss_ret (se_call00 (ok__law_refused_empty T) hA (hr.mono (by decide)) T.g__law_refused_empty T.F__law_refused_empty.kp (Fun.bd T.F__law_refused_empty fun _ _ _ _ _ _ us hl => match us, hl with | [], _ => rfl)))) ss_nil')
    (ss_cons' (ss_par 6 7 rfl sc__law_list_right.nd (ss_cons (se_ix (se_var 0) se_int) (ss_cons (se_ix (se_var 0) se_int) ss_nil)))
    (ss_cons' (ss_for rfl PassesOwn.never (si_sq (se_var 0)) (sg_name 3 sc__law_list_right.nd) (ss_cons' (ss_asg 6 sc__law_list_right.nd (se_if (st_lt (se_call0 (idx := [0, 1]) (ok__law_less T) hA (hr.mono (by decide)) T.g__law_less T.F__law_less.kp (Fun.bd T.F__law_less fun _ _ _ _ _ _ us hl => match us, hl with | [_, _], _ => rfl) (ss_cons (se_var 3) (ss_cons (se_var 6) ss_nil))) se_int) (se_var 3) (se_var 6)))
    (ss_one (ss_asg 7 sc__law_list_right.nd (se_if (st_gt (se_call0 (idx := [0, 1]) (ok__law_less T) hA (hr.mono (by decide)) T.g__law_less T.F__law_less.kp (Fun.bd T.F__law_less fun _ _ _ _ _ _ us hl => match us, hl with | [_, _], _ => rfl) (ss_cons (se_var 3) (ss_cons (se_var 7) ss_nil))) se_int) (se_var 3) (se_var 7))))))
    (ss_cons' (ss_asg 5 sc__law_list_right.nd (se_lst (ss_cons (se_call0 (idx := [0]) (ok_least T).calm hA (hr.mono (by decide)) T.g_least T.F_least.kp (Fun.bd T.F_least fun _ _ _ _ _ _ us hl => match us, hl with | [_], _ => rfl) (ss_cons (se_var 0) ss_nil)) (ss_cons (se_call0 (idx := [0]) (ok_greatest T).calm hA (hr.mono (by decide)) T.g_greatest T.F_greatest.kp (Fun.bd T.F_greatest fun _ _ _ _ _ _ us hl => match us, hl with | [_], _ => rfl) (ss_cons (se_var 0) ss_nil)) (ss_cons (se_callk0 (ks := ["fractions"]) (idx := [0]) (ok_least T).calm hA (hr.mono (by decide)) T.g_least T.F_least.kp (Fun.bd T.F_least fun _ _ _ _ _ _ us hl => match us, hl with | [_], _ => rfl) (sk_cons (se_var 0) sk_nil)) (ss_cons (se_callk0 (ks := ["fractions"]) (idx := [0]) (ok_greatest T).calm hA (hr.mono (by decide)) T.g_greatest T.F_greatest.kp (Fun.bd T.F_greatest fun _ _ _ _ _ _ us hl => match us, hl with | [_], _ => rfl) (sk_cons (se_var 0) sk_nil)) ss_nil))))))
    (ss_one (ss_ret (se_and (se_eq hr (se_repr hA hr T.m_repr (ss_cons (se_var 5) ss_nil)) (se_reprL hA hr T.m_repr (ss_cons (se_var 6) (ss_cons (se_var 7) (ss_cons (se_var 6) (ss_cons (se_var 7) ss_nil)))))) (se_one (se_eq hr (se_repr hA hr T.m_repr (ss_cons (se_var 0) ss_nil)) (se_var 1))))))))))))))))))) fun os r _ h => hm_of fuel h
theorem ok_law (T : Txt K mg) : FnG P w K mg base 5 T.a_law T.d_law ["_law_script"] (sp0 K mr_law 1) :=
  ok_fn0 T.F_law sc_law (fun n cdv A outer s H hA hr =>
    (ss_cons' (ss_asg 1 sc_law.nd (se_call0 (idx := [0, 1]) (ok__law_pot T) hA (hr.mono (by decide)) T.g__law_pot T.F__law_pot.kp (Fun.bd T.F__law_pot fun _ _ _ _ _ _ us hl => match us, hl with | [_, _], _ => rfl) (ss_cons (se_var 0) (ss_cons se_int ss_nil))))
    (ss_cons' (ss_asg 2 sc_law.nd (se_callP (idx := []) (ok__law_worth T) hA (hr.mono (by decide)) T.g__law_worth T.F__law_worth.kp (Fun.bd T.F__law_worth fun _ _ _ _ _ _ us hl => match us, hl with | [_], _ => rfl) (ss_cons (se_var 1) ss_nil)))
    (ss_cons' (ss_asg 3 sc_law.nd (se_callP (idx := [0]) (ok__law_second T) hA (hr.mono (by decide)) T.g__law_second T.F__law_second.kp (Fun.bd T.F__law_second fun _ _ _ _ _ _ us hl => match us, hl with | [_, _], _ => rfl) (ss_cons (se_var 1) (ss_cons (se_var 2) ss_nil))))
    (ss_cons' (ss_if (STw.t (st_or (st_not (st_tru (se_callP (idx := [0]) (ok__law_values_right T) hA (hr.mono (by decide)) T.g__law_values_right T.F__law_values_right.kp (Fun.bd T.F__law_values_right fun _ _ _ _ _ _ us hl => match us, hl with | [_, _], _ => rfl) (ss_cons (se_var 1) (ss_cons (se_var 2) ss_nil))))) (st_or1 (st_not (st_tru (se_callP (idx := []) (ok__law_made_right T) hA (hr.mono (by decide)) T.g__law_made_right T.F__law_made_right.kp (Fun.bd T.F__law_made_right fun _ _ _ _ _ _ us hl => match us, hl with | [_], _ => rfl) (ss_cons (se_var 1) ss_nil))))))) (ss_one (ss_ret se_bl)) ss_nil')
    (ss_cons' (ss_if (STw.t (st_or (st_not (st_tru (se_call0 (idx := [0]) (ok__law_alone_right T) hA (hr.mono (by decide)) T.g__law_alone_right T.F__law_alone_right.kp (Fun.bd T.F__law_alone_right fun _ _ _ _ _ _ us hl => match us, hl with | [_], _ => rfl) (ss_cons (se_var 2) ss_nil)))) (st_or1 (st_not (st_tru (se_call0 (idx := [0]) (ok__law_alone_right T) hA (hr.mono (by decide)) T.g__law_alone_right T.F__law_alone_right.kp (Fun.bd T.F__law_alone_right fun _ _ _ _ _ _ us hl => match us, hl with | [_], _ => rfl) (ss_cons (se_var 3) ss_nil))))))) (ss_one (ss_ret se_bl)) ss_nil')
    (ss_cons' (ss_if (STw.t (st_or (st_not (st_tru (se_call0 (idx := [0, 1]) (ok__law_two_right T) hA (hr.mono (by decide)) T.g__law_two_right T.F__law_two_right.kp (Fun.bd T.F__law_two_right fun _ _ _ _ _ _ us hl => match us, hl with | [_, _], _ => rfl) (ss_cons (se_var 2) (ss_cons (se_var 3) ss_nil))))) (st_or1 (st_not (st_tru (se_call0 (idx := [0, 1]) (ok__law_two_right T) hA (hr.mono (by decide)) T.g__law_two_right T.F__law_two_right.kp (Fun.bd T.F__law_two_right fun _ _ _ _ _ _ us hl => match us, hl with | [_, _], _ => rfl) (ss_cons (se_var 3) (ss_cons (se_var 2) ss_nil)))))))) (ss_one (ss_ret se_bl)) ss_nil')
    (ss_cons' (ss_asg 4 sc_law.nd (se_call0 (idx := [0, 1]) (ok__law_pot T) hA (hr.mono (by decide)) T.g__law_pot T.F__law_pot.kp (Fun.bd T.F__law_pot fun _ _ _ _ _ _ us hl => match us, hl with | [_, _], _ => rfl) (ss_cons (se_var 0) (ss_cons se_int ss_nil))))
    (ss_one (ss_ret (se_and (se_call0 (idx := [0]) (ok__law_list_right T) hA (hr.mono (by decide)) T.g__law_list_right T.F__law_list_right.kp (Fun.bd T.F__law_list_right fun _ _ _ _ _ _ us hl => match us, hl with | [_], _ => rfl) (ss_cons (se_callP (idx := []) (ok__law_list T) hA (hr.mono (by decide)) T.g__law_list T.F__law_list.kp (Fun.bd T.F__law_list fun _ _ _ _ _ _ us hl => match us, hl with | [_], _ => rfl) (ss_cons (se_var 4) ss_nil)) ss_nil)) (se_one (se_call0 (idx := [0]) (ok__law_list_right T) hA (hr.mono (by decide)) T.g__law_list_right T.F__law_list_right.kp (Fun.bd T.F__law_list_right fun _ _ _ _ _ _ us hl => match us, hl with | [_], _ => rfl) (ss_cons (se_callP (idx := []) (ok__law_list T) hA (hr.mono (by decide)) T.g__law_list T.F__law_list.kp (Fun.bd T.F__law_list fun _ _ _ _ _ _ us hl => match us, hl with | [_], _ => rfl) (ss_cons (se_var 1) ss_nil)) ss_nil)))))))))))))) fun os r _ h => hm_of fuel h
end
theorem all_mk {l : PySem.W.OpenLaw} {w : World} {K : PySem.W.Frag} {h : Heap} {mg : Str → Option Value} {fa f0 f1 f2 f3 f4 f5 f6 f7 f8 f9 f10 f11 f12 f13 f14 f15 f16 f17 f18 f19 f20 f21 f22 f23 f24 f25 f26 f27 f28 f29 f30 f31 f32 f33 f34 f35 f36 f37 f38 f39 f40 f41 f42 f43 : Addr} (X : K.In h) (G : h.Ns mainGlobals mg) (hfa : mg "law" = some (.ref fa))
    {od0 an0 od1 an1 od2 an2 od3 an3 od4 an4 od5 an5 od6 an6 od7 an7 od8 an8 od9 an9 od10 an10 od11 an11 od12 an12 od13 an13 od14 an14 od15 an15 od16 an16 od17 an17 od18 an18 od19 an19 od20 an20 od21 an21 od22 an22 od23 an23 od24 an24 od25 an25 od26 an26 od27 an27 od28 an28 od29 an29 od30 an30 od31 an31 od32 an32 od33 an33 od34 an34 od35 an35 od36 an36 od37 an37 od38 an38 od39 an39 od40 an40 od41 an41 od42 an42 od43 an43 : Option Addr} {sl0 sl1 sl2 sl3 sl4 sl5 sl6 sl7 sl8 sl9 sl10 sl11 sl12 sl13 sl14 sl15 sl16 sl17 sl18 sl19 sl20 sl21 sl22 sl23 sl24 sl25 sl26 sl27 sl28 sl29 sl30 sl31 sl32 sl33 sl34 sl35 sl36 sl37 sl38 sl39 sl40 sl41 sl42 sl43 : Array (Option Value)} {oc0 kV0 dc0 pm0 cd0 ct0 oc1 kV1 dc1 pm1 cd1 ct1 oc2 kV2 dc2 pm2 cd2 ct2 oc3 kV3 dc3 pm3 cd3 ct3 oc4 kV4 dc4 pm4 cd4 ct4 oc5 kV5 dc5 pm5 cd5 ct5 oc6 kV6 dc6 pm6 cd6 ct6 oc7 kV7 dc7 pm7 cd7 ct7 oc8 kV8 dc8 pm8 cd8 ct8 oc9 kV9 dc9 pm9 cd9 ct9 oc10 kV10 dc10 pm10 cd10 ct10 oc11 kV11 dc11 pm11 cd11 ct11 oc12 kV12 dc12 pm12 cd12 ct12 oc13 kV13 dc13 pm13 cd13 ct13 oc14 kV14 dc14 pm14 cd14 ct14 oc15 kV15 dc15 pm15 cd15 ct15 oc16 kV16 dc16 pm16 cd16 ct16 oc17 kV17 dc17 pm17 cd17 ct17 oc18 kV18 dc18 pm18 cd18 ct18 oc19 kV19 dc19 pm19 cd19 ct19 oc20 kV20 dc20 pm20 cd20 ct20 oc21 kV21 dc21 pm21 cd21 ct21 oc22 kV22 dc22 pm22 cd22 ct22 oc23 kV23 dc23 pm23 cd23 ct23 oc24 kV24 dc24 pm24 cd24 ct24 oc25 kV25 dc25 pm25 cd25 ct25 oc26 kV26 dc26 pm26 cd26 ct26 oc27 kV27 dc27 pm27 cd27 ct27 oc28 kV28 dc28 pm28 cd28 ct28 oc29 kV29 dc29 pm29 cd29 ct29 oc30 kV30 dc30 pm30 cd30 ct30 oc31 kV31 dc31 pm31 cd31 ct31 oc32 kV32 dc32 pm32 cd32 ct32 oc33 kV33 dc33 pm33 cd33 ct33 oc34 kV34 dc34 pm34 cd34 ct34 oc35 kV35 dc35 pm35 cd35 ct35 oc36 kV36 dc36 pm36 cd36 ct36 oc37 kV37 dc37 pm37 cd37 ct37 oc38 kV38 dc38 pm38 cd38 ct38 oc39 kV39 dc39 pm39 cd39 ct39 oc40 kV40 dc40 pm40 cd40 ct40 oc41 kV41 dc41 pm41 cd41 ct41 oc42 kV42 dc42 pm42 cd42 ct42 oc43 kV43 dc43 pm43 cd43 ct43 : Value}
    (a0 : PySem.W.nsIn K mainGlobals "is_integer" = some (some (.ref f0)))
    (l0 : K.lookup f0 = some ⟨oc0, od0, .func (PySem.W.fnOf "is_integer" "is_integer" (defArgs s_is_integer) (defBody s_is_integer) (defScope s_is_integer) .none kV0 dc0 pm0 an0 cd0 ct0), sl0⟩)
    (c0 : PySem.W.codeIn K cd0 "is_integer" = true)
    (k0 : PySem.W.keepIn K (.ref f0) = true)
    (a1 : PySem.W.nsIn K mainGlobals "is_count" = some (some (.ref f1)))
    (l1 : K.lookup f1 = some ⟨oc1, od1, .func (PySem.W.fnOf "is_count" "is_count" (defArgs s_is_count) (defBody s_is_count) (defScope s_is_count) .none kV1 dc1 pm1 an1 cd1 ct1), sl1⟩)
    (c1 : PySem.W.codeIn K cd1 "is_count" = true)
    (k1 : PySem.W.keepIn K (.ref f1) = true)
    (a2 : PySem.W.nsIn K mainGlobals "is_fraction" = some (some (.ref f2)))
    (l2 : K.lookup f2 = some ⟨oc2, od2, .func (PySem.W.fnOf "is_fraction" "is_fraction" (defArgs s_is_fraction) (defBody s_is_fraction) (defScope s_is_fraction) .none kV2 dc2 pm2 an2 cd2 ct2), sl2⟩)
    (c2 : PySem.W.codeIn K cd2 "is_fraction" = true)
    (k2 : PySem.W.keepIn K (.ref f2) = true)
    (a3 : PySem.W.nsIn K mainGlobals "fraction" = some (some (.ref f3)))
    (l3 : K.lookup f3 = some ⟨oc3, od3, .func (PySem.W.fnOf "fraction" "fraction" (defArgs s_fraction) (defBody s_fraction) (defScope s_fraction) .none kV3 dc3 pm3 an3 cd3 ct3), sl3⟩)
    (c3 : PySem.W.codeIn K cd3 "fraction" = true)
    (k3 : PySem.W.keepIn K (.ref f3) = true)
    (a4 : PySem.W.nsIn K mainGlobals "whole" = some (some (.ref f4)))
    (l4 : K.lookup f4 = some ⟨oc4, od4, .func (PySem.W.fnOf "whole" "whole" (defArgs s_whole) (defBody s_whole) (defScope s_whole) .none kV4 dc4 pm4 an4 cd4 ct4), sl4⟩)
    (c4 : PySem.W.codeIn K cd4 "whole" = true)
    (k4 : PySem.W.keepIn K (.ref f4) = true)
    (a5 : PySem.W.nsIn K mainGlobals "plus" = some (some (.ref f5)))
    (l5 : K.lookup f5 = some ⟨oc5, od5, .func (PySem.W.fnOf "plus" "plus" (defArgs s_plus) (defBody s_plus) (defScope s_plus) .none kV5 dc5 pm5 an5 cd5 ct5), sl5⟩)
    (c5 : PySem.W.codeIn K cd5 "plus" = true)
    (k5 : PySem.W.keepIn K (.ref f5) = true)
    (a6 : PySem.W.nsIn K mainGlobals "minus" = some (some (.ref f6)))
    (l6 : K.lookup f6 = some ⟨oc6, od6, .func (PySem.W.fnOf "minus" "minus" (defArgs s_minus) (defBody s_minus) (defScope s_minus) .none kV6 dc6 pm6 an6 cd6 ct6), sl6⟩)
    (c6 : PySem.W.codeIn K cd6 "minus" = true)
    (k6 : PySem.W.keepIn K (.ref f6) = true)
    (a7 : PySem.W.nsIn K mainGlobals "times" = some (some (.ref f7)))
    (l7 : K.lookup f7 = some ⟨oc7, od7, .func (PySem.W.fnOf "times" "times" (defArgs s_times) (defBody s_times) (defScope s_times) .none kV7 dc7 pm7 an7 cd7 ct7), sl7⟩)
    (c7 : PySem.W.codeIn K cd7 "times" = true)
    (k7 : PySem.W.keepIn K (.ref f7) = true)
    (a8 : PySem.W.nsIn K mainGlobals "opposite" = some (some (.ref f8)))
    (l8 : K.lookup f8 = some ⟨oc8, od8, .func (PySem.W.fnOf "opposite" "opposite" (defArgs s_opposite) (defBody s_opposite) (defScope s_opposite) .none kV8 dc8 pm8 an8 cd8 ct8), sl8⟩)
    (c8 : PySem.W.codeIn K cd8 "opposite" = true)
    (k8 : PySem.W.keepIn K (.ref f8) = true)
    (a9 : PySem.W.nsIn K mainGlobals "over" = some (some (.ref f9)))
    (l9 : K.lookup f9 = some ⟨oc9, od9, .func (PySem.W.fnOf "over" "over" (defArgs s_over) (defBody s_over) (defScope s_over) .none kV9 dc9 pm9 an9 cd9 ct9), sl9⟩)
    (c9 : PySem.W.codeIn K cd9 "over" = true)
    (k9 : PySem.W.keepIn K (.ref f9) = true)
    (a10 : PySem.W.nsIn K mainGlobals "total" = some (some (.ref f10)))
    (l10 : K.lookup f10 = some ⟨oc10, od10, .func (PySem.W.fnOf "total" "total" (defArgs s_total) (defBody s_total) (defScope s_total) .none kV10 dc10 pm10 an10 cd10 ct10), sl10⟩)
    (c10 : PySem.W.codeIn K cd10 "total" = true)
    (k10 : PySem.W.keepIn K (.ref f10) = true)
    (a11 : PySem.W.nsIn K mainGlobals "sign_of" = some (some (.ref f11)))
    (l11 : K.lookup f11 = some ⟨oc11, od11, .func (PySem.W.fnOf "sign_of" "sign_of" (defArgs s_sign_of) (defBody s_sign_of) (defScope s_sign_of) .none kV11 dc11 pm11 an11 cd11 ct11), sl11⟩)
    (c11 : PySem.W.codeIn K cd11 "sign_of" = true)
    (k11 : PySem.W.keepIn K (.ref f11) = true)
    (a12 : PySem.W.nsIn K mainGlobals "compare" = some (some (.ref f12)))
    (l12 : K.lookup f12 = some ⟨oc12, od12, .func (PySem.W.fnOf "compare" "compare" (defArgs s_compare) (defBody s_compare) (defScope s_compare) .none kV12 dc12 pm12 an12 cd12 ct12), sl12⟩)
    (c12 : PySem.W.codeIn K cd12 "compare" = true)
    (k12 : PySem.W.keepIn K (.ref f12) = true)
    (a13 : PySem.W.nsIn K mainGlobals "least" = some (some (.ref f13)))
    (l13 : K.lookup f13 = some ⟨oc13, od13, .func (PySem.W.fnOf "least" "least" (defArgs s_least) (defBody s_least) (defScope s_least) .none kV13 dc13 pm13 an13 cd13 ct13), sl13⟩)
    (c13 : PySem.W.codeIn K cd13 "least" = true)
    (k13 : PySem.W.keepIn K (.ref f13) = true)
    (a14 : PySem.W.nsIn K mainGlobals "greatest" = some (some (.ref f14)))
    (l14 : K.lookup f14 = some ⟨oc14, od14, .func (PySem.W.fnOf "greatest" "greatest" (defArgs s_greatest) (defBody s_greatest) (defScope s_greatest) .none kV14 dc14 pm14 an14 cd14 ct14), sl14⟩)
    (c14 : PySem.W.codeIn K cd14 "greatest" = true)
    (k14 : PySem.W.keepIn K (.ref f14) = true)
    (a15 : PySem.W.nsIn K mainGlobals "floor_of" = some (some (.ref f15)))
    (l15 : K.lookup f15 = some ⟨oc15, od15, .func (PySem.W.fnOf "floor_of" "floor_of" (defArgs s_floor_of) (defBody s_floor_of) (defScope s_floor_of) .none kV15 dc15 pm15 an15 cd15 ct15), sl15⟩)
    (c15 : PySem.W.codeIn K cd15 "floor_of" = true)
    (k15 : PySem.W.keepIn K (.ref f15) = true)
    (a16 : PySem.W.nsIn K mainGlobals "ceiling_of" = some (some (.ref f16)))
    (l16 : K.lookup f16 = some ⟨oc16, od16, .func (PySem.W.fnOf "ceiling_of" "ceiling_of" (defArgs s_ceiling_of) (defBody s_ceiling_of) (defScope s_ceiling_of) .none kV16 dc16 pm16 an16 cd16 ct16), sl16⟩)
    (c16 : PySem.W.codeIn K cd16 "ceiling_of" = true)
    (k16 : PySem.W.keepIn K (.ref f16) = true)
    (a17 : PySem.W.nsIn K mainGlobals "over_one_below" = some (some (.ref f17)))
    (l17 : K.lookup f17 = some ⟨oc17, od17, .func (PySem.W.fnOf "over_one_below" "over_one_below" (defArgs s_over_one_below) (defBody s_over_one_below) (defScope s_over_one_below) .none kV17 dc17 pm17 an17 cd17 ct17), sl17⟩)
    (c17 : PySem.W.codeIn K cd17 "over_one_below" = true)
    (k17 : PySem.W.keepIn K (.ref f17) = true)
    (a18 : PySem.W.nsIn K mainGlobals "worth_text" = some (some (.ref f18)))
    (l18 : K.lookup f18 = some ⟨oc18, od18, .func (PySem.W.fnOf "worth_text" "worth_text" (defArgs s_worth_text) (defBody s_worth_text) (defScope s_worth_text) .none kV18 dc18 pm18 an18 cd18 ct18), sl18⟩)
    (c18 : PySem.W.codeIn K cd18 "worth_text" = true)
    (k18 : PySem.W.keepIn K (.ref f18) = true)
    (a19 : PySem.W.nsIn K mainGlobals "_law_pot" = some (some (.ref f19)))
    (l19 : K.lookup f19 = some ⟨oc19, od19, .func (PySem.W.fnOf "_law_pot" "_law_pot" (defArgs s__law_pot) (defBody s__law_pot) (defScope s__law_pot) .none kV19 dc19 pm19 an19 cd19 ct19), sl19⟩)
    (c19 : PySem.W.codeIn K cd19 "_law_pot" = true)
    (k19 : PySem.W.keepIn K (.ref f19) = true)
    (a20 : PySem.W.nsIn K mainGlobals "_law_draw" = some (some (.ref f20)))
    (l20 : K.lookup f20 = some ⟨oc20, od20, .func (PySem.W.fnOf "_law_draw" "_law_draw" (defArgs s__law_draw) (defBody s__law_draw) (defScope s__law_draw) .none kV20 dc20 pm20 an20 cd20 ct20), sl20⟩)
    (c20 : PySem.W.codeIn K cd20 "_law_draw" = true)
    (k20 : PySem.W.keepIn K (.ref f20) = true)
    (a21 : PySem.W.nsIn K mainGlobals "_law_pick" = some (some (.ref f21)))
    (l21 : K.lookup f21 = some ⟨oc21, od21, .func (PySem.W.fnOf "_law_pick" "_law_pick" (defArgs s__law_pick) (defBody s__law_pick) (defScope s__law_pick) .none kV21 dc21 pm21 an21 cd21 ct21), sl21⟩)
    (c21 : PySem.W.codeIn K cd21 "_law_pick" = true)
    (k21 : PySem.W.keepIn K (.ref f21) = true)
    (a22 : PySem.W.nsIn K mainGlobals "_law_gcd" = some (some (.ref f22)))
    (l22 : K.lookup f22 = some ⟨oc22, od22, .func (PySem.W.fnOf "_law_gcd" "_law_gcd" (defArgs s__law_gcd) (defBody s__law_gcd) (defScope s__law_gcd) .none kV22 dc22 pm22 an22 cd22 ct22), sl22⟩)
    (c22 : PySem.W.codeIn K cd22 "_law_gcd" = true)
    (k22 : PySem.W.keepIn K (.ref f22) = true)
    (a23 : PySem.W.nsIn K mainGlobals "_law_made" = some (some (.ref f23)))
    (l23 : K.lookup f23 = some ⟨oc23, od23, .func (PySem.W.fnOf "_law_made" "_law_made" (defArgs s__law_made) (defBody s__law_made) (defScope s__law_made) .none kV23 dc23 pm23 an23 cd23 ct23), sl23⟩)
    (c23 : PySem.W.codeIn K cd23 "_law_made" = true)
    (k23 : PySem.W.keepIn K (.ref f23) = true)
    (a24 : PySem.W.nsIn K mainGlobals "_law_great" = some (some (.ref f24)))
    (l24 : K.lookup f24 = some ⟨oc24, od24, .func (PySem.W.fnOf "_law_great" "_law_great" (defArgs s__law_great) (defBody s__law_great) (defScope s__law_great) .none kV24 dc24 pm24 an24 cd24 ct24), sl24⟩)
    (c24 : PySem.W.codeIn K cd24 "_law_great" = true)
    (k24 : PySem.W.keepIn K (.ref f24) = true)
    (a25 : PySem.W.nsIn K mainGlobals "_law_signed" = some (some (.ref f25)))
    (l25 : K.lookup f25 = some ⟨oc25, od25, .func (PySem.W.fnOf "_law_signed" "_law_signed" (defArgs s__law_signed) (defBody s__law_signed) (defScope s__law_signed) .none kV25 dc25 pm25 an25 cd25 ct25), sl25⟩)
    (c25 : PySem.W.codeIn K cd25 "_law_signed" = true)
    (k25 : PySem.W.keepIn K (.ref f25) = true)
    (a26 : PySem.W.nsIn K mainGlobals "_law_worth" = some (some (.ref f26)))
    (l26 : K.lookup f26 = some ⟨oc26, od26, .func (PySem.W.fnOf "_law_worth" "_law_worth" (defArgs s__law_worth) (defBody s__law_worth) (defScope s__law_worth) .none kV26 dc26 pm26 an26 cd26 ct26), sl26⟩)
    (c26 : PySem.W.codeIn K cd26 "_law_worth" = true)
    (k26 : PySem.W.keepIn K (.ref f26) = true)
    (a27 : PySem.W.nsIn K mainGlobals "_law_sign" = some (some (.ref f27)))
    (l27 : K.lookup f27 = some ⟨oc27, od27, .func (PySem.W.fnOf "_law_sign" "_law_sign" (defArgs s__law_sign) (defBody s__law_sign) (defScope s__law_sign) .none kV27 dc27 pm27 an27 cd27 ct27), sl27⟩)
    (c27 : PySem.W.codeIn K cd27 "_law_sign" = true)
    (k27 : PySem.W.keepIn K (.ref f27) = true)
    (a28 : PySem.W.nsIn K mainGlobals "_law_less" = some (some (.ref f28)))
    (l28 : K.lookup f28 = some ⟨oc28, od28, .func (PySem.W.fnOf "_law_less" "_law_less" (defArgs s__law_less) (defBody s__law_less) (defScope s__law_less) .none kV28 dc28 pm28 an28 cd28 ct28), sl28⟩)
    (c28 : PySem.W.codeIn K cd28 "_law_less" = true)
    (k28 : PySem.W.keepIn K (.ref f28) = true)
    (a29 : PySem.W.nsIn K mainGlobals "_law_is_whole" = some (some (.ref f29)))
    (l29 : K.lookup f29 = some ⟨oc29, od29, .func (PySem.W.fnOf "_law_is_whole" "_law_is_whole" (defArgs s__law_is_whole) (defBody s__law_is_whole) (defScope s__law_is_whole) .none kV29 dc29 pm29 an29 cd29 ct29), sl29⟩)
    (c29 : PySem.W.codeIn K cd29 "_law_is_whole" = true)
    (k29 : PySem.W.keepIn K (.ref f29) = true)
    (a30 : PySem.W.nsIn K mainGlobals "_law_fits" = some (some (.ref f30)))
    (l30 : K.lookup f30 = some ⟨oc30, od30, .func (PySem.W.fnOf "_law_fits" "_law_fits" (defArgs s__law_fits) (defBody s__law_fits) (defScope s__law_fits) .none kV30 dc30 pm30 an30 cd30 ct30), sl30⟩)
    (c30 : PySem.W.codeIn K cd30 "_law_fits" = true)
    (k30 : PySem.W.keepIn K (.ref f30) = true)
    (a31 : PySem.W.nsIn K mainGlobals "_law_values" = some (some (.ref f31)))
    (l31 : K.lookup f31 = some ⟨oc31, od31, .func (PySem.W.fnOf "_law_values" "_law_values" (defArgs s__law_values) (defBody s__law_values) (defScope s__law_values) .none kV31 dc31 pm31 an31 cd31 ct31), sl31⟩)
    (c31 : PySem.W.codeIn K cd31 "_law_values" = true)
    (k31 : PySem.W.keepIn K (.ref f31) = true)
    (a32 : PySem.W.nsIn K mainGlobals "_law_values_right" = some (some (.ref f32)))
    (l32 : K.lookup f32 = some ⟨oc32, od32, .func (PySem.W.fnOf "_law_values_right" "_law_values_right" (defArgs s__law_values_right) (defBody s__law_values_right) (defScope s__law_values_right) .none kV32 dc32 pm32 an32 cd32 ct32), sl32⟩)
    (c32 : PySem.W.codeIn K cd32 "_law_values_right" = true)
    (k32 : PySem.W.keepIn K (.ref f32) = true)
    (a33 : PySem.W.nsIn K mainGlobals "_law_refused_below" = some (some (.ref f33)))
    (l33 : K.lookup f33 = some ⟨oc33, od33, .func (PySem.W.fnOf "_law_refused_below" "_law_refused_below" (defArgs s__law_refused_below) (defBody s__law_refused_below) (defScope s__law_refused_below) .none kV33 dc33 pm33 an33 cd33 ct33), sl33⟩)
    (c33 : PySem.W.codeIn K cd33 "_law_refused_below" = true)
    (k33 : PySem.W.keepIn K (.ref f33) = true)
    (a34 : PySem.W.nsIn K mainGlobals "_law_made_right" = some (some (.ref f34)))
    (l34 : K.lookup f34 = some ⟨oc34, od34, .func (PySem.W.fnOf "_law_made_right" "_law_made_right" (defArgs s__law_made_right) (defBody s__law_made_right) (defScope s__law_made_right) .none kV34 dc34 pm34 an34 cd34 ct34), sl34⟩)
    (c34 : PySem.W.codeIn K cd34 "_law_made_right" = true)
    (k34 : PySem.W.keepIn K (.ref f34) = true)
    (a35 : PySem.W.nsIn K mainGlobals "_law_text" = some (some (.ref f35)))
    (l35 : K.lookup f35 = some ⟨oc35, od35, .func (PySem.W.fnOf "_law_text" "_law_text" (defArgs s__law_text) (defBody s__law_text) (defScope s__law_text) .none kV35 dc35 pm35 an35 cd35 ct35), sl35⟩)
    (c35 : PySem.W.codeIn K cd35 "_law_text" = true)
    (k35 : PySem.W.keepIn K (.ref f35) = true)
    (a36 : PySem.W.nsIn K mainGlobals "_law_alone_right" = some (some (.ref f36)))
    (l36 : K.lookup f36 = some ⟨oc36, od36, .func (PySem.W.fnOf "_law_alone_right" "_law_alone_right" (defArgs s__law_alone_right) (defBody s__law_alone_right) (defScope s__law_alone_right) .none kV36 dc36 pm36 an36 cd36 ct36), sl36⟩)
    (c36 : PySem.W.codeIn K cd36 "_law_alone_right" = true)
    (k36 : PySem.W.keepIn K (.ref f36) = true)
    (a37 : PySem.W.nsIn K mainGlobals "_law_two_right" = some (some (.ref f37)))
    (l37 : K.lookup f37 = some ⟨oc37, od37, .func (PySem.W.fnOf "_law_two_right" "_law_two_right" (defArgs s__law_two_right) (defBody s__law_two_right) (defScope s__law_two_right) .none kV37 dc37 pm37 an37 cd37 ct37), sl37⟩)
    (c37 : PySem.W.codeIn K cd37 "_law_two_right" = true)
    (k37 : PySem.W.keepIn K (.ref f37) = true)
    (a38 : PySem.W.nsIn K mainGlobals "_law_second" = some (some (.ref f38)))
    (l38 : K.lookup f38 = some ⟨oc38, od38, .func (PySem.W.fnOf "_law_second" "_law_second" (defArgs s__law_second) (defBody s__law_second) (defScope s__law_second) .none kV38 dc38 pm38 an38 cd38 ct38), sl38⟩)
    (c38 : PySem.W.codeIn K cd38 "_law_second" = true)
    (k38 : PySem.W.keepIn K (.ref f38) = true)
    (a39 : PySem.W.nsIn K mainGlobals "_law_list" = some (some (.ref f39)))
    (l39 : K.lookup f39 = some ⟨oc39, od39, .func (PySem.W.fnOf "_law_list" "_law_list" (defArgs s__law_list) (defBody s__law_list) (defScope s__law_list) .none kV39 dc39 pm39 an39 cd39 ct39), sl39⟩)
    (c39 : PySem.W.codeIn K cd39 "_law_list" = true)
    (k39 : PySem.W.keepIn K (.ref f39) = true)
    (a40 : PySem.W.nsIn K mainGlobals "_law_over_one" = some (some (.ref f40)))
    (l40 : K.lookup f40 = some ⟨oc40, od40, .func (PySem.W.fnOf "_law_over_one" "_law_over_one" (defArgs s__law_over_one) (defBody s__law_over_one) (defScope s__law_over_one) .none kV40 dc40 pm40 an40 cd40 ct40), sl40⟩)
    (c40 : PySem.W.codeIn K cd40 "_law_over_one" = true)
    (k40 : PySem.W.keepIn K (.ref f40) = true)
    (a41 : PySem.W.nsIn K mainGlobals "_law_refused_empty" = some (some (.ref f41)))
    (l41 : K.lookup f41 = some ⟨oc41, od41, .func (PySem.W.fnOf "_law_refused_empty" "_law_refused_empty" (defArgs s__law_refused_empty) (defBody s__law_refused_empty) (defScope s__law_refused_empty) .none kV41 dc41 pm41 an41 cd41 ct41), sl41⟩)
    (c41 : PySem.W.codeIn K cd41 "_law_refused_empty" = true)
    (k41 : PySem.W.keepIn K (.ref f41) = true)
    (a42 : PySem.W.nsIn K mainGlobals "_law_list_right" = some (some (.ref f42)))
    (l42 : K.lookup f42 = some ⟨oc42, od42, .func (PySem.W.fnOf "_law_list_right" "_law_list_right" (defArgs s__law_list_right) (defBody s__law_list_right) (defScope s__law_list_right) .none kV42 dc42 pm42 an42 cd42 ct42), sl42⟩)
    (c42 : PySem.W.codeIn K cd42 "_law_list_right" = true)
    (k42 : PySem.W.keepIn K (.ref f42) = true)
    (a43 : PySem.W.nsIn K mainGlobals "law" = some (some (.ref f43)))
    (l43 : K.lookup f43 = some ⟨oc43, od43, .func (PySem.W.fnOf "law" "law" (defArgs s_law) (defBody s_law) (defScope s_law) .none kV43 dc43 pm43 an43 cd43 ct43), sl43⟩)
    (c43 : PySem.W.codeIn K cd43 "law" = true)
    (k43 : PySem.W.keepIn K (.ref f43) = true)
    (z0 : PySem.W.nsIn K mainGlobals "LookupError" = some none)
    (z1 : PySem.W.nsIn K mainGlobals "ValueError" = some none)
    (z2 : PySem.W.nsIn K mainGlobals "abs" = some none)
    (z3 : PySem.W.nsIn K mainGlobals "bool" = some none)
    (z4 : PySem.W.nsIn K mainGlobals "divmod" = some none)
    (z5 : PySem.W.nsIn K mainGlobals "int" = some none)
    (z6 : PySem.W.nsIn K mainGlobals "isinstance" = some none)
    (z7 : PySem.W.nsIn K mainGlobals "len" = some none)
    (z8 : PySem.W.nsIn K mainGlobals "max" = some none)
    (z9 : PySem.W.nsIn K mainGlobals "range" = some none)
    (z10 : PySem.W.nsIn K mainGlobals "repr" = some none)
    (z11 : PySem.W.nsIn K mainGlobals "str" = some none)
    (z12 : PySem.W.nsIn K mainGlobals "tuple" = some none)
    {tp0 : Addr} {tod0 : Option Addr} {tsl0 : Array (Option Value)} {tk0_0 tk0_1 : Tok} {tn0 : Nat}
    (u0 : PySem.W.nsIn K mainGlobals "NOUGHT" = some (some (.ref tp0)))
    (v0 : K.lookup tp0 = some ⟨.type "tuple", tod0, .seq #[.int 0 tk0_0, .int 1 tk0_1] tn0, tsl0⟩)
    (y0 : PySem.W.nsIn K mainGlobals "gcd" = some (some (.builtin "math.gcd")))
    {e0 e1 e2 e3 : Addr}
    (ea0 : PySem.W.nsIn K mainGlobals "TermError" = some (some (.ref e0)))
    (ex0 : PySem.W.excIn K e0 [.type "ValueError", .type "Exception", .type "BaseException", .type "object"] "ValueError.__new__" = true)
    (ek0 : PySem.W.keepIn K (.ref e0) = true)
    (eb0 : PySem.W.subIn K (.ref e0) (.type "BaseException") = some true)
    (et0 : PySem.W.typeIn K (.ref e0) = some (.type "type"))
    (ei0 : PySem.W.isClsIn K e0 = true)
    (eg0 : PySem.W.findIn K (.ref e0) "__getattribute__" = some (some (.builtin "BaseException.__getattribute__")))
    (eh0 : PySem.W.findIn K (.ref e0) "__getattr__" = some none)
    (ed0 : PySem.W.hasDictIn K e0 = true)
    (ec0 : PySem.W.findIn K (.ref e0) "__class__" = some (some (.builtin "object.__class__")))
    (em0 : PySem.W.mroIn K e0 (.type "object") = some true)
    (ea1 : PySem.W.nsIn K mainGlobals "MissingError" = some (some (.ref e1)))
    (ex1 : PySem.W.excIn K e1 [.type "LookupError", .type "Exception", .type "BaseException", .type "object"] "LookupError.__new__" = true)
    (ek1 : PySem.W.keepIn K (.ref e1) = true)
    (eb1 : PySem.W.subIn K (.ref e1) (.type "BaseException") = some true)
    (et1 : PySem.W.typeIn K (.ref e1) = some (.type "type"))
    (ei1 : PySem.W.isClsIn K e1 = true)
    (eg1 : PySem.W.findIn K (.ref e1) "__getattribute__" = some (some (.builtin "BaseException.__getattribute__")))
    (eh1 : PySem.W.findIn K (.ref e1) "__getattr__" = some none)
    (ed1 : PySem.W.hasDictIn K e1 = true)
    (ec1 : PySem.W.findIn K (.ref e1) "__class__" = some (some (.builtin "object.__class__")))
    (em1 : PySem.W.mroIn K e1 (.type "object") = some true)
    (ea2 : PySem.W.nsIn K mainGlobals "DividedByNought" = some (some (.ref e2)))
    (ex2 : PySem.W.excIn K e2 [.type "ValueError", .type "Exception", .type "BaseException", .type "object"] "ValueError.__new__" = true)
    (ek2 : PySem.W.keepIn K (.ref e2) = true)
    (eb2 : PySem.W.subIn K (.ref e2) (.type "BaseException") = some true)
    (et2 : PySem.W.typeIn K (.ref e2) = some (.type "type"))
    (ei2 : PySem.W.isClsIn K e2 = true)
    (eg2 : PySem.W.findIn K (.ref e2) "__getattribute__" = some (some (.builtin "BaseException.__getattribute__")))
    (eh2 : PySem.W.findIn K (.ref e2) "__getattr__" = some none)
    (ed2 : PySem.W.hasDictIn K e2 = true)
    (ec2 : PySem.W.findIn K (.ref e2) "__class__" = some (some (.builtin "object.__class__")))
    (em2 : PySem.W.mroIn K e2 (.type "object") = some true)
    (ea3 : PySem.W.nsIn K mainGlobals "NothingGiven" = some (some (.ref e3)))
    (ex3 : PySem.W.excIn K e3 [.type "LookupError", .type "Exception", .type "BaseException", .type "object"] "LookupError.__new__" = true)
    (ek3 : PySem.W.keepIn K (.ref e3) = true)
    (eb3 : PySem.W.subIn K (.ref e3) (.type "BaseException") = some true)
    (et3 : PySem.W.typeIn K (.ref e3) = some (.type "type"))
    (ei3 : PySem.W.isClsIn K e3 = true)
    (eg3 : PySem.W.findIn K (.ref e3) "__getattribute__" = some (some (.builtin "BaseException.__getattribute__")))
    (eh3 : PySem.W.findIn K (.ref e3) "__getattr__" = some none)
    (ed3 : PySem.W.hasDictIn K e3 = true)
    (ec3 : PySem.W.findIn K (.ref e3) "__class__" = some (some (.builtin "object.__class__")))
    (em3 : PySem.W.mroIn K e3 (.type "object") = some true)
    (en : PySem.W.specialIn K (.builtin "object.__class__") "__get__" = some (some (.builtin "getset_descriptor.__get__")))
    (ey : PySem.W.takesIn K (.builtin "object.__class__") = some true)
    (s0_0 : PySem.W.subIn K (.ref e0) (.ref e0) = some true)
    (s0_1 : PySem.W.subIn K (.ref e0) (.ref e1) = some false)
    (s0_2 : PySem.W.subIn K (.ref e0) (.ref e2) = some false)
    (s0_3 : PySem.W.subIn K (.ref e0) (.ref e3) = some false)
    (sb0_0 : PySem.W.subIn K (.ref e0) (.type "LookupError") = some false)
    (sb0_1 : PySem.W.subIn K (.ref e0) (.type "ValueError") = some true)
    (s1_0 : PySem.W.subIn K (.ref e1) (.ref e0) = some false)
    (s1_1 : PySem.W.subIn K (.ref e1) (.ref e1) = some true)
    (s1_2 : PySem.W.subIn K (.ref e1) (.ref e2) = some false)
    (s1_3 : PySem.W.subIn K (.ref e1) (.ref e3) = some false)
    (sb1_0 : PySem.W.subIn K (.ref e1) (.type "LookupError") = some true)
    (sb1_1 : PySem.W.subIn K (.ref e1) (.type "ValueError") = some false)
    (s2_0 : PySem.W.subIn K (.ref e2) (.ref e0) = some true)
    (s2_1 : PySem.W.subIn K (.ref e2) (.ref e1) = some false)
    (s2_2 : PySem.W.subIn K (.ref e2) (.ref e2) = some true)
    (s2_3 : PySem.W.subIn K (.ref e2) (.ref e3) = some false)
    (sb2_0 : PySem.W.subIn K (.ref e2) (.type "LookupError") = some false)
    (sb2_1 : PySem.W.subIn K (.ref e2) (.type "ValueError") = some true)
    (s3_0 : PySem.W.subIn K (.ref e3) (.ref e0) = some false)
    (s3_1 : PySem.W.subIn K (.ref e3) (.ref e1) = some true)
    (s3_2 : PySem.W.subIn K (.ref e3) (.ref e2) = some false)
    (s3_3 : PySem.W.subIn K (.ref e3) (.ref e3) = some true)
    (sb3_0 : PySem.W.subIn K (.ref e3) (.type "LookupError") = some true)
    (sb3_1 : PySem.W.subIn K (.ref e3) (.type "ValueError") = some false)
    : ∃ fd : FuncData, (∀ (s : Shared) (v : Value), BindsTo s fd ⟨[v], []⟩ [("_law_script", v)]) ∧ ∀ base : Heap, K.In base → base.Ns mainGlobals mg → FnG l.prog w K mg base 5 fa fd ["_law_script"] (sp0 K mr_law 1) := by
  have e := hfa.symm.trans (PySem.W.mg_of X G a43)
  cases e
  exact ⟨_, fun s v => .of_eq rfl, fun base _ _ => ok_law (⟨_, _, fun_mk (st := s_is_integer) l0 c0 k0, PySem.W.mg_of X G a0,
    _, _, fun_mk (st := s_is_count) l1 c1 k1, PySem.W.mg_of X G a1,
    _, _, fun_mk (st := s_is_fraction) l2 c2 k2, PySem.W.mg_of X G a2,
    _, _, fun_mk (st := s_fraction) l3 c3 k3, PySem.W.mg_of X G a3,
    _, _, fun_mk (st := s_whole) l4 c4 k4, PySem.W.mg_of X G a4,
    _, _, fun_mk (st := s_plus) l5 c5 k5, PySem.W.mg_of X G a5,
    _, _, fun_mk (st := s_minus) l6 c6 k6, PySem.W.mg_of X G a6,
    _, _, fun_mk (st := s_times) l7 c7 k7, PySem.W.mg_of X G a7,
    _, _, fun_mk (st := s_opposite) l8 c8 k8, PySem.W.mg_of X G a8,
    _, _, fun_mk (st := s_over) l9 c9 k9, PySem.W.mg_of X G a9,
    _, _, fun_mk (st := s_total) l10 c10 k10, PySem.W.mg_of X G a10,
    _, _, fun_mk (st := s_sign_of) l11 c11 k11, PySem.W.mg_of X G a11,
    _, _, fun_mk (st := s_compare) l12 c12 k12, PySem.W.mg_of X G a12,
    _, _, fun_mk (st := s_least) l13 c13 k13, PySem.W.mg_of X G a13,
    _, _, fun_mk (st := s_greatest) l14 c14 k14, PySem.W.mg_of X G a14,
    _, _, fun_mk (st := s_floor_of) l15 c15 k15, PySem.W.mg_of X G a15,
    _, _, fun_mk (st := s_ceiling_of) l16 c16 k16, PySem.W.mg_of X G a16,
    _, _, fun_mk (st := s_over_one_below) l17 c17 k17, PySem.W.mg_of X G a17,
    _, _, fun_mk (st := s_worth_text) l18 c18 k18, PySem.W.mg_of X G a18,
    _, _, fun_mk (st := s__law_pot) l19 c19 k19, PySem.W.mg_of X G a19,
    _, _, fun_mk (st := s__law_draw) l20 c20 k20, PySem.W.mg_of X G a20,
    _, _, fun_mk (st := s__law_pick) l21 c21 k21, PySem.W.mg_of X G a21,
    _, _, fun_mk (st := s__law_gcd) l22 c22 k22, PySem.W.mg_of X G a22,
    _, _, fun_mk (st := s__law_made) l23 c23 k23, PySem.W.mg_of X G a23,
    _, _, fun_mk (st := s__law_great) l24 c24 k24, PySem.W.mg_of X G a24,
    _, _, fun_mk (st := s__law_signed) l25 c25 k25, PySem.W.mg_of X G a25,
    _, _, fun_mk (st := s__law_worth) l26 c26 k26, PySem.W.mg_of X G a26,
    _, _, fun_mk (st := s__law_sign) l27 c27 k27, PySem.W.mg_of X G a27,
    _, _, fun_mk (st := s__law_less) l28 c28 k28, PySem.W.mg_of X G a28,
    _, _, fun_mk (st := s__law_is_whole) l29 c29 k29, PySem.W.mg_of X G a29,
    _, _, fun_mk (st := s__law_fits) l30 c30 k30, PySem.W.mg_of X G a30,
    _, _, fun_mk (st := s__law_values) l31 c31 k31, PySem.W.mg_of X G a31,
    _, _, fun_mk (st := s__law_values_right) l32 c32 k32, PySem.W.mg_of X G a32,
    _, _, fun_mk (st := s__law_refused_below) l33 c33 k33, PySem.W.mg_of X G a33,
    _, _, fun_mk (st := s__law_made_right) l34 c34 k34, PySem.W.mg_of X G a34,
    _, _, fun_mk (st := s__law_text) l35 c35 k35, PySem.W.mg_of X G a35,
    _, _, fun_mk (st := s__law_alone_right) l36 c36 k36, PySem.W.mg_of X G a36,
    _, _, fun_mk (st := s__law_two_right) l37 c37 k37, PySem.W.mg_of X G a37,
    _, _, fun_mk (st := s__law_second) l38 c38 k38, PySem.W.mg_of X G a38,
    _, _, fun_mk (st := s__law_list) l39 c39 k39, PySem.W.mg_of X G a39,
    _, _, fun_mk (st := s__law_over_one) l40 c40 k40, PySem.W.mg_of X G a40,
    _, _, fun_mk (st := s__law_refused_empty) l41 c41 k41, PySem.W.mg_of X G a41,
    _, _, fun_mk (st := s__law_list_right) l42 c42 k42, PySem.W.mg_of X G a42,
    _, _, fun_mk (st := s_law) l43 c43 k43, PySem.W.mg_of X G a43,
    PySem.W.mg_none_of X G z0,
    PySem.W.mg_none_of X G z1,
    PySem.W.mg_none_of X G z2,
    PySem.W.mg_none_of X G z3,
    PySem.W.mg_none_of X G z4,
    PySem.W.mg_none_of X G z5,
    PySem.W.mg_none_of X G z6,
    PySem.W.mg_none_of X G z7,
    PySem.W.mg_none_of X G z8,
    PySem.W.mg_none_of X G z9,
    PySem.W.mg_none_of X G z10,
    PySem.W.mg_none_of X G z11,
    PySem.W.mg_none_of X G z12,
    tp0, PySem.W.mg_of X G u0, fun H => dx_top2 v0 rfl rfl H,
    PySem.W.mg_of X G y0,
    fun i => [e0, e1, e2, e3].getD i e0,
    ⟨PySem.W.mg_of X G ea0, ex0, ek0, eb0, et0⟩,
    ⟨PySem.W.mg_of X G ea1, ex1, ek1, eb1, et1⟩,
    ⟨PySem.W.mg_of X G ea2, ex2, ek2, eb2, et2⟩,
    ⟨PySem.W.mg_of X G ea3, ex3, ek3, eb3, et3⟩,
    errs_mk (fun i hi => match i, hi with | 0, _ => eb0 | 1, _ => eb1 | 2, _ => eb2 | 3, _ => eb3 | _ + 4, h => absurd h (by omega)) (fun i hi => match i, hi with | 0, _ => ei0 | 1, _ => ei1 | 2, _ => ei2 | 3, _ => ei3 | _ + 4, h => absurd h (by omega)) (fun i hi => match i, hi with | 0, _ => et0 | 1, _ => et1 | 2, _ => et2 | 3, _ => et3 | _ + 4, h => absurd h (by omega))
      (fun i j hi hj => match i, j, hi, hj with | 0, 0, _, _ => s0_0 | 0, 1, _, _ => s0_1 | 0, 2, _, _ => s0_2 | 0, 3, _, _ => s0_3 | 1, 0, _, _ => s1_0 | 1, 1, _, _ => s1_1 | 1, 2, _, _ => s1_2 | 1, 3, _, _ => s1_3 | 2, 0, _, _ => s2_0 | 2, 1, _, _ => s2_1 | 2, 2, _, _ => s2_2 | 2, 3, _, _ => s2_3 | 3, 0, _, _ => s3_0 | 3, 1, _, _ => s3_1 | 3, 2, _, _ => s3_2 | 3, 3, _, _ => s3_3 | _ + 4, _, h, _ => absurd h (by omega) | _, _ + 4, _, h => absurd h (by omega)) (fun i hi => match i, hi with | 0, _ => rfl | 1, _ => rfl | 2, _ => rfl | 3, _ => rfl | _ + 4, h => absurd h (by omega)),
    (fun i hi => match i, hi with | 0, _ => ⟨eg0, eh0, eb0, ed0, ec0, en, ey, em0⟩ | 1, _ => ⟨eg1, eh1, eb1, ed1, ec1, en, ey, em1⟩ | 2, _ => ⟨eg2, eh2, eb2, ed2, ec2, en, ey, em2⟩ | 3, _ => ⟨eg3, eh3, eb3, ed3, ec3, en, ey, em3⟩ | _ + 4, h => absurd h (by omega)),
    fun s hs => by
      simp only [List.mem_cons, List.not_mem_nil, or_false] at hs
      rcases hs with rfl | rfl
      · exact (fun i hi => match i, hi with | 0, _ => errB_mk (by decide +kernel) sb0_0 | 1, _ => errB_mk (by decide +kernel) sb1_0 | 2, _ => errB_mk (by decide +kernel) sb2_0 | 3, _ => errB_mk (by decide +kernel) sb3_0 | _ + 4, h => absurd h (by omega))
      · exact (fun i hi => match i, hi with | 0, _ => errB_mk (by decide +kernel) sb0_1 | 1, _ => errB_mk (by decide +kernel) sb1_1 | 2, _ => errB_mk (by decide +kernel) sb2_1 | 3, _ => errB_mk (by decide +kernel) sb3_1 | _ + 4, h => absurd h (by omega))⟩ : Txt K mg)⟩
end K10
open PySem PySem.W PyProof.Rows
set_option maxRecDepth 100000 in
set_option maxHeartbeats 0 in
theorem PySem.Challenge.cw_allreadings_k10_fractions_reckoned_holds : PySem.Challenge.rw_allreadings_k10_fractions_reckoned.Holds := by
  w_on; o_law; k_head; (case hw => w_witness2)
  k_fill
  refine DX.walk_g (l := PySem.Challenge.rw_allreadings_k10_fractions_reckoned) (n := 63) (k := 5) (x := "_law_script") (m := K10.mr_law) rfl (by decide) rfl ⟨rfl, by decide, by decide⟩ (fun w h Y => PySem.W.kIn_of Y) ?F K10.law_holds
  case F =>
    intro w mg fa h KX G hmg
    refine' K10.all_mk KX G hmg ?a0 ?l0 ?c0 ?k0 ?a1 ?l1 ?c1 ?k1 ?a2 ?l2 ?c2 ?k2 ?a3 ?l3 ?c3 ?k3 ?a4 ?l4 ?c4 ?k4 ?a5 ?l5 ?c5 ?k5 ?a6 ?l6 ?c6 ?k6 ?a7 ?l7 ?c7 ?k7 ?a8 ?l8 ?c8 ?k8 ?a9 ?l9 ?c9 ?k9 ?a10 ?l10 ?c10 ?k10 ?a11 ?l11 ?c11 ?k11 ?a12 ?l12 ?c12 ?k12 ?a13 ?l13 ?c13 ?k13 ?a14 ?l14 ?c14 ?k14 ?a15 ?l15 ?c15 ?k15 ?a16 ?l16 ?c16 ?k16 ?a17 ?l17 ?c17 ?k17 ?a18 ?l18 ?c18 ?k18 ?a19 ?l19 ?c19 ?k19 ?a20 ?l20 ?c20 ?k20 ?a21 ?l21 ?c21 ?k21 ?a22 ?l22 ?c22 ?k22 ?a23 ?l23 ?c23 ?k23 ?a24 ?l24 ?c24 ?k24 ?a25 ?l25 ?c25 ?k25 ?a26 ?l26 ?c26 ?k26 ?a27 ?l27 ?c27 ?k27 ?a28 ?l28 ?c28 ?k28 ?a29 ?l29 ?c29 ?k29 ?a30 ?l30 ?c30 ?k30 ?a31 ?l31 ?c31 ?k31 ?a32 ?l32 ?c32 ?k32 ?a33 ?l33 ?c33 ?k33 ?a34 ?l34 ?c34 ?k34 ?a35 ?l35 ?c35 ?k35 ?a36 ?l36 ?c36 ?k36 ?a37 ?l37 ?c37 ?k37 ?a38 ?l38 ?c38 ?k38 ?a39 ?l39 ?c39 ?k39 ?a40 ?l40 ?c40 ?k40 ?a41 ?l41 ?c41 ?k41 ?a42 ?l42 ?c42 ?k42 ?a43 ?l43 ?c43 ?k43 ?z0 ?z1 ?z2 ?z3 ?z4 ?z5 ?z6 ?z7 ?z8 ?z9 ?z10 ?z11 ?z12 ?u0 ?v0 ?y0 ?ea0 ?ex0 ?ek0 ?eb0 ?et0 ?ei0 ?eg0 ?eh0 ?ed0 ?ec0 ?em0 ?ea1 ?ex1 ?ek1 ?eb1 ?et1 ?ei1 ?eg1 ?eh1 ?ed1 ?ec1 ?em1 ?ea2 ?ex2 ?ek2 ?eb2 ?et2 ?ei2 ?eg2 ?eh2 ?ed2 ?ec2 ?em2 ?ea3 ?ex3 ?ek3 ?eb3 ?et3 ?ei3 ?eg3 ?eh3 ?ed3 ?ec3 ?em3 ?en ?ey ?s0_0 ?s0_1 ?s0_2 ?s0_3 ?sb0_0 ?sb0_1 ?s1_0 ?s1_1 ?s1_2 ?s1_3 ?sb1_0 ?sb1_1 ?s2_0 ?s2_1 ?s2_2 ?s2_3 ?sb2_0 ?sb2_1 ?s3_0 ?s3_1 ?s3_2 ?s3_3 ?sb3_0 ?sb3_1
    (case a0 => k_is)
    (case l0 => k_is)
    (case c0 => k_is)
    (case k0 => k_is)
    (case a1 => k_is)
    (case l1 => k_is)
    (case c1 => k_is)
    (case k1 => k_is)
    (case a2 => k_is)
    (case l2 => k_is)
    (case c2 => k_is)
    (case k2 => k_is)
    (case a3 => k_is)
    (case l3 => k_is)
    (case c3 => k_is)
    (case k3 => k_is)
    (case a4 => k_is)
    (case l4 => k_is)
    (case c4 => k_is)
    (case k4 => k_is)
    (case a5 => k_is)
    (case l5 => k_is)
    (case c5 => k_is)
    (case k5 => k_is)
    (case a6 => k_is)
    (case l6 => k_is)
    (case c6 => k_is)
    (case k6 => k_is)
    (case a7 => k_is)
    (case l7 => k_is)
    (case c7 => k_is)
    (case k7 => k_is)
    (case a8 => k_is)
    (case l8 => k_is)
    (case c8 => k_is)
    (case k8 => k_is)
    (case a9 => k_is)
    (case l9 => k_is)
    (case c9 => k_is)
    (case k9 => k_is)
    (case a10 => k_is)
    (case l10 => k_is)
    (case c10 => k_is)
    (case k10 => k_is)
    (case a11 => k_is)
    (case l11 => k_is)
    (case c11 => k_is)
    (case k11 => k_is)
    (case a12 => k_is)
    (case l12 => k_is)
    (case c12 => k_is)
    (case k12 => k_is)
    (case a13 => k_is)
    (case l13 => k_is)
    (case c13 => k_is)
    (case k13 => k_is)
    (case a14 => k_is)
    (case l14 => k_is)
    (case c14 => k_is)
    (case k14 => k_is)
    (case a15 => k_is)
    (case l15 => k_is)
    (case c15 => k_is)
    (case k15 => k_is)
    (case a16 => k_is)
    (case l16 => k_is)
    (case c16 => k_is)
    (case k16 => k_is)
    (case a17 => k_is)
    (case l17 => k_is)
    (case c17 => k_is)
    (case k17 => k_is)
    (case a18 => k_is)
    (case l18 => k_is)
    (case c18 => k_is)
    (case k18 => k_is)
    (case a19 => k_is)
    (case l19 => k_is)
    (case c19 => k_is)
    (case k19 => k_is)
    (case a20 => k_is)
    (case l20 => k_is)
    (case c20 => k_is)
    (case k20 => k_is)
    (case a21 => k_is)
    (case l21 => k_is)
    (case c21 => k_is)
    (case k21 => k_is)
    (case a22 => k_is)
    (case l22 => k_is)
    (case c22 => k_is)
    (case k22 => k_is)
    (case a23 => k_is)
    (case l23 => k_is)
    (case c23 => k_is)
    (case k23 => k_is)
    (case a24 => k_is)
    (case l24 => k_is)
    (case c24 => k_is)
    (case k24 => k_is)
    (case a25 => k_is)
    (case l25 => k_is)
    (case c25 => k_is)
    (case k25 => k_is)
    (case a26 => k_is)
    (case l26 => k_is)
    (case c26 => k_is)
    (case k26 => k_is)
    (case a27 => k_is)
    (case l27 => k_is)
    (case c27 => k_is)
    (case k27 => k_is)
    (case a28 => k_is)
    (case l28 => k_is)
    (case c28 => k_is)
    (case k28 => k_is)
    (case a29 => k_is)
    (case l29 => k_is)
    (case c29 => k_is)
    (case k29 => k_is)
    (case a30 => k_is)
    (case l30 => k_is)
    (case c30 => k_is)
    (case k30 => k_is)
    (case a31 => k_is)
    (case l31 => k_is)
    (case c31 => k_is)
    (case k31 => k_is)
    (case a32 => k_is)
    (case l32 => k_is)
    (case c32 => k_is)
    (case k32 => k_is)
    (case a33 => k_is)
    (case l33 => k_is)
    (case c33 => k_is)
    (case k33 => k_is)
    (case a34 => k_is)
    (case l34 => k_is)
    (case c34 => k_is)
    (case k34 => k_is)
    (case a35 => k_is)
    (case l35 => k_is)
    (case c35 => k_is)
    (case k35 => k_is)
    (case a36 => k_is)
    (case l36 => k_is)
    (case c36 => k_is)
    (case k36 => k_is)
    (case a37 => k_is)
    (case l37 => k_is)
    (case c37 => k_is)
    (case k37 => k_is)
    (case a38 => k_is)
    (case l38 => k_is)
    (case c38 => k_is)
    (case k38 => k_is)
    (case a39 => k_is)
    (case l39 => k_is)
    (case c39 => k_is)
    (case k39 => k_is)
    (case a40 => k_is)
    (case l40 => k_is)
    (case c40 => k_is)
    (case k40 => k_is)
    (case a41 => k_is)
    (case l41 => k_is)
    (case c41 => k_is)
    (case k41 => k_is)
    (case a42 => k_is)
    (case l42 => k_is)
    (case c42 => k_is)
    (case k42 => k_is)
    (case a43 => k_is)
    (case l43 => k_is)
    (case c43 => k_is)
    (case k43 => k_is)
    (case z0 => k_is)
    (case z1 => k_is)
    (case z2 => k_is)
    (case z3 => k_is)
    (case z4 => k_is)
    (case z5 => k_is)
    (case z6 => k_is)
    (case z7 => k_is)
    (case z8 => k_is)
    (case z9 => k_is)
    (case z10 => k_is)
    (case z11 => k_is)
    (case z12 => k_is)
    (case u0 => k_is)
    (case v0 => k_is)
    (case y0 => k_is)
    (case ea0 => k_is)
    (case ex0 => k_exc)
    (case ek0 => k_is)
    (case eb0 => k_is)
    (case et0 => k_is)
    (case ei0 => k_is)
    (case eg0 => k_is)
    (case eh0 => k_is)
    (case ed0 => k_is)
    (case ec0 => k_is)
    (case em0 => k_is)
    (case ea1 => k_is)
    (case ex1 => k_exc)
    (case ek1 => k_is)
    (case eb1 => k_is)
    (case et1 => k_is)
    (case ei1 => k_is)
    (case eg1 => k_is)
    (case eh1 => k_is)
    (case ed1 => k_is)
    (case ec1 => k_is)
    (case em1 => k_is)
    (case ea2 => k_is)
    (case ex2 => k_exc)
    (case ek2 => k_is)
    (case eb2 => k_is)
    (case et2 => k_is)
    (case ei2 => k_is)
    (case eg2 => k_is)
    (case eh2 => k_is)
    (case ed2 => k_is)
    (case ec2 => k_is)
    (case em2 => k_is)
    (case ea3 => k_is)
    (case ex3 => k_exc)
    (case ek3 => k_is)
    (case eb3 => k_is)
    (case et3 => k_is)
    (case ei3 => k_is)
    (case eg3 => k_is)
    (case eh3 => k_is)
    (case ed3 => k_is)
    (case ec3 => k_is)
    (case em3 => k_is)
    (case en => k_is)
    (case ey => k_is)
    (case s0_0 => k_is)
    (case s0_1 => k_is)
    (case s0_2 => k_is)
    (case s0_3 => k_is)
    (case sb0_0 => k_is)
    (case sb0_1 => k_is)
    (case s1_0 => k_is)
    (case s1_1 => k_is)
    (case s1_2 => k_is)
    (case s1_3 => k_is)
    (case sb1_0 => k_is)
    (case sb1_1 => k_is)
    (case s2_0 => k_is)
    (case s2_1 => k_is)
    (case s2_2 => k_is)
    (case s2_3 => k_is)
    (case sb2_0 => k_is)
    (case sb2_1 => k_is)
    (case s3_0 => k_is)
    (case s3_1 => k_is)
    (case s3_2 => k_is)
    (case s3_3 => k_is)
    (case sb3_0 => k_is)
    (case sb3_1 => k_is)
