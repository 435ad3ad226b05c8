import PyProof.Rows.All
import Wide.All
import OpenK.AllK
import Wide.FinOn
import HandS.ForMost
import HandS.Deep
import HandS.IsInst
import HandS.Wide
import HandS.Flow
import HandS.Style
import HandS.EndBits
import HandS.ForExc
import HandS.ExcIs
import HandS.Small
import HandS.ExcInit
import HandS.ExcField
import KE.KExcIs
import HandS.Gcd
import HandS.FStr
import KE.KExcInit
import HandS.Rev
import PySem.Challenge.RW_allreadings_k11_whole_parts_and_simplest
set_option Elab.async false
set_option linter.all false
set_option maxRecDepth 100000
/-! DXCore: owned and shared data over the abstract heap. -/
namespace DX
open PySem PySem.Spec PyProof.Rows L2

/-- data that is shared (never changed from here on), or a list that one name alone holds -/
inductive OD where
  | sh (d : PyData)
  | lst (xs : List OD)
  | tpl (xs : List OD)

mutual
def OD.er : OD → PyData
  | .sh d => d
  | .lst xs => .list (OD.ers xs)
  | .tpl xs => .tuple (OD.ers xs)
def OD.ers : List OD → List PyData
  | [] => []
  | x :: xs => x.er :: OD.ers xs
end
theorem ers_map : ∀ xs : List OD, OD.ers xs = xs.map OD.er
  | [] => rfl
  | x :: xs => by show x.er :: OD.ers xs = _; rw [ers_map xs]; rfl
theorem ers_sh : ∀ ds : List PyData, OD.ers (ds.map OD.sh) = ds
  | [] => rfl
  | d :: ds => by show d :: OD.ers (ds.map OD.sh) = _; rw [ers_sh ds]

abbrev FP := Addr → Nat
/-- the longest text that is carried -/
def strMax : Nat := 16000000
theorem strMax_le {n : Nat} (h : n ≤ strMax) : n + 2 ≤ sizeLine := Nat.le_trans (Nat.add_le_add_right h 2) (by decide)
theorem strMax_le' {n : Nat} (h : n ≤ strMax) : n ≤ sizeLine := by have := strMax_le h; omega
def Sub (G H : Hp) : Prop := ∀ a o, G a = some o → H a = some o
theorem Sub.refl (H : Hp) : Sub H H := fun _ _ h => h
theorem Sub.trans {G H I : Hp} (a : Sub G H) (b : Sub H I) : Sub G I := fun x o h => b x o (a x o h)
theorem sub_upd {G H : Hp} {p : Addr} {o : HO} (s : Sub G H) (h : H p = none) : Sub G (upd H p o) := fun a u e => by
  have := s a u e
  rw [upd_ne (ne_of_none this h)]; exact this
theorem sub_upd2 {G H : Hp} {p : Addr} {o : HO} (s : Sub G H) : Sub (upd G p o) (upd H p o) := fun a u e => by
  by_cases h : a = p
  · subst h; rw [upd_same] at e ⊢; exact e
  · rw [upd_ne h] at e ⊢; exact s a u e

section
variable {K : PySem.W.Frag}
theorem rd_sub {H H' : Hp} {a : Addr} {u : HO} (e : Sub H H') (h : Rd H a u) : Rd H' a u := by
  rcases h with h | ⟨o, h⟩
  · exact .inl (e a _ h)
  · exact .inr ⟨o, e a _ h⟩
theorem sqL_sub {H H' : Hp} {a : Addr} {xs : List V} (e : Sub H H') (h : SqL K H a xs) : SqL K H' a xs := by
  rcases h with h | h
  · exact .inl (rd_sub e h)
  · exact .inr h
theorem sqT_sub {H H' : Hp} {a : Addr} {xs : List V} (e : Sub H H') (h : SqT K H a xs) : SqT K H' a xs := by
  rcases h with h | h
  · exact .inl (rd_sub e h)
  · exact .inr h
mutual
/-- a value as data: its lists are tracked -/
inductive Dx (K : PySem.W.Frag) (H : Hp) : V → PyData → Prop
  | non : Dx K H .non .none
  | bl (b : Bool) : Dx K H (.bl b) (.bool b)
  | int (i : Int) : Dx K H (.int i) (.int i)
  | str (x : Str) (h : x.length ≤ strMax) : Dx K H (.str x) (.str x)
  | lst {a : Addr} {vs : List V} {ds : List PyData} : SqL K H a vs → DxAll K H vs ds → Dx K H (.ref a) (.list ds)
  | tup {a : Addr} {vs : List V} {ds : List PyData} : SqT K H a vs → DxAll K H vs ds → Dx K H (.ref a) (.tuple ds)
  | exc (a : Nat) (e : Nat) : Dx K H (.ref a) (.dict [(.int (a : Nat), .int (e : Nat))])
  | exf {a e d : Nat} {vs : List (Str × V)} {ds : List PyData} : H d = some (.xd vs) → DxAll K H (vs.map Prod.snd) ds → Dx K H (.ref a) (.dict [(.int (a : Nat), .int (e : Nat)), (.int (d : Nat), .tuple [.list (vs.map fun p => .str p.1), .list ds])])
inductive DxAll (K : PySem.W.Frag) (H : Hp) : List V → List PyData → Prop
  | nil : DxAll K H [] []
  | cons {v : V} {vs : List V} {d : PyData} {ds : List PyData} : Dx K H v d → DxAll K H vs ds → DxAll K H (v :: vs) (d :: ds)
end
mutual
theorem Dx.dp {H : Hp} : ∀ {v : V} {d : PyData}, Dx K H v d → d.hasDict = false → Dp K H v d
  | _, _, .non, _ => .non
  | _, _, .bl b, _ => .bl b
  | _, _, .int i, _ => .int i
  | _, _, .str x _, _ => .str x
  | _, _, .lst h r, z => .lst h (DxAll.dp r (by rw [PyData.hasDict] at z; exact z))
  | _, _, .tup h r, z => .tup h (DxAll.dp r (by rw [PyData.hasDict] at z; exact z))
  | _, _, .exc _ _, z => by rw [PyData.hasDict] at z; cases z
  | _, _, .exf _ _, z => by rw [PyData.hasDict] at z; cases z
theorem DxAll.dp {H : Hp} : ∀ {vs : List V} {ds : List PyData}, DxAll K H vs ds → PyData.hasDictAll ds = false → DpAll K H vs ds
  | _, _, .nil, _ => .nil
  | _, _, .cons a r, z => by
    rw [PyData.hasDictAll, Bool.or_eq_false_iff] at z
    exact .cons (a.dp z.1) (DxAll.dp r z.2)
end
mutual
theorem dp_sub {H H' : Hp} (e : Sub H H') : ∀ {v : V} {d : PyData}, Dx K H v d → Dx K H' v d
  | _, _, .non => .non
  | _, _, .bl b => .bl b
  | _, _, .int i => .int i
  | _, _, .str x h => .str x h
  | _, _, .lst h r => .lst (sqL_sub e h) (dps_sub e r)
  | _, _, .tup h r => .tup (sqT_sub e h) (dps_sub e r)
  | _, _, .exc a b => .exc a b
  | _, _, .exf h r => .exf (e _ _ h) (dps_sub e r)
theorem dps_sub {H H' : Hp} (e : Sub H H') : ∀ {vs : List V} {ds : List PyData}, DxAll K H vs ds → DxAll K H' vs ds
  | _, _, .nil => .nil
  | _, _, .cons a r => .cons (dp_sub e a) (dps_sub e r)
end
theorem dps_len {H : Hp} : ∀ {vs : List V} {ds : List PyData}, DxAll K H vs ds → vs.length = ds.length
  | _, _, .nil => rfl
  | _, _, .cons _ r => by simp [dps_len r]
theorem dps_app {H : Hp} : ∀ {vs ws : List V} {ds es : List PyData}, DxAll K H vs ds → DxAll K H ws es → DxAll K H (vs ++ ws) (ds ++ es)
  | _, _, _, _, .nil, h => h
  | _, _, _, _, .cons a r, h => .cons a (dps_app r h)
theorem dps_get {H : Hp} : ∀ {vs : List V} {ds : List PyData} {i : Nat} {d : PyData}, DxAll K H vs ds → ds[i]? = some d → ∃ v, vs[i]? = some v ∧ Dx K H v d
  | _, _, _, _, .nil, h => by simp at h
  | _, _, 0, _, .cons a _, h => by simp at h; subst h; exact ⟨_, rfl, a⟩
  | _, _, i + 1, _, .cons _ r, h => by
    obtain ⟨v, h1, h2⟩ := dps_get (i := i) r (by simpa using h)
    exact ⟨v, by simpa using h1, h2⟩

mutual
inductive RO (K : PySem.W.Frag) (G H : Hp) : V → OD → FP → Prop
  | sh {v : V} {d : PyData} : Dx K G v d → RO K G H v (.sh d) (fun _ => 0)
  | lst {p : Addr} {vs : List V} {xs : List OD} {f : FP} : H p = some (.lst vs) → ROs K G H vs xs f → RO K G H (.ref p) (.lst xs) (fun a => (if a = p then 1 else 0) + f a)
  | tpl {p : Addr} {vs : List V} {xs : List OD} {f : FP} : SqT K G p vs → ROs K G H vs xs f → RO K G H (.ref p) (.tpl xs) f
inductive ROs (K : PySem.W.Frag) (G H : Hp) : List V → List OD → FP → Prop
  | nil : ROs K G H [] [] (fun _ => 0)
  | cons {v : V} {x : OD} {f : FP} {vs : List V} {xs : List OD} {g : FP} : RO K G H v x f → ROs K G H vs xs g → ROs K G H (v :: vs) (x :: xs) (fun a => f a + g a)
end

mutual
theorem RO.mono {G H G' H' : Hp} (g : Sub G G') : ∀ {v : V} {o : OD} {f : FP}, RO K G H v o f → (∀ a u, f a ≠ 0 → H a = some u → H' a = some u) → RO K G' H' v o f
  | _, _, _, .sh h, _ => .sh (dp_sub g h)
  | _, _, _, .lst (p := p) (f := f) h r, k => .lst (k p _ (by simp) h) (ROs.mono g r fun a u ha e => k a u (by (try dsimp only at *); omega) e)
  | _, _, _, .tpl h r, k => .tpl (sqT_sub g h) (ROs.mono g r k)
theorem ROs.mono {G H G' H' : Hp} (g : Sub G G') : ∀ {vs : List V} {os : List OD} {f : FP}, ROs K G H vs os f → (∀ a u, f a ≠ 0 → H a = some u → H' a = some u) → ROs K G' H' vs os f
  | _, _, _, .nil, _ => .nil
  | _, _, _, .cons (f := f) (g := f') h r, k => .cons (RO.mono g h fun a u ha e => k a u (by (try dsimp only at *); omega) e) (ROs.mono g r fun a u ha e => k a u (by (try dsimp only at *); omega) e)
end
-- owned data made shared
mutual
theorem RO.frz {G H G' : Hp} (g : Sub G G') : ∀ {v : V} {o : OD} {f : FP}, RO K G H v o f → (∀ a u, f a ≠ 0 → H a = some u → G' a = some u) → Dx K G' v o.er
  | _, _, _, .sh h, _ => dp_sub g h
  | _, _, _, .lst (p := p) (f := f) h r, k => .lst (.inl (.inl (k p _ (by simp) h))) (ROs.frz g r fun a u ha e => k a u (by (try dsimp only at *); omega) e)
  | _, _, _, .tpl h r, k => .tup (sqT_sub g h) (ROs.frz g r k)
theorem ROs.frz {G H G' : Hp} (g : Sub G G') : ∀ {vs : List V} {os : List OD} {f : FP}, ROs K G H vs os f → (∀ a u, f a ≠ 0 → H a = some u → G' a = some u) → DxAll K G' vs (OD.ers os)
  | _, _, _, .nil, _ => .nil
  | _, _, _, .cons (f := f) (g := f') h r, k => .cons (RO.frz g h fun a u ha e => k a u (by (try dsimp only at *); omega) e) (ROs.frz g r fun a u ha e => k a u (by (try dsimp only at *); omega) e)
end
mutual
theorem RO.live {G H : Hp} : ∀ {v : V} {o : OD} {f : FP}, RO K G H v o f → ∀ a, f a ≠ 0 → H a ≠ none
  | _, _, _, .sh _, a, h => absurd rfl h
  | _, _, _, .lst (p := p) (f := f) h r, a, ha => by
    by_cases e : a = p
    · subst e; rw [h]; simp
    · exact ROs.live r a (by simp [e] at ha; exact ha)
  | _, _, _, .tpl _ r, a, ha => ROs.live r a ha
theorem ROs.live {G H : Hp} : ∀ {vs : List V} {os : List OD} {f : FP}, ROs K G H vs os f → ∀ a, f a ≠ 0 → H a ≠ none
  | _, _, _, .nil, a, h => absurd rfl h
  | _, _, _, .cons (f := f) (g := f') h r, a, ha => by
    by_cases e : f a = 0
    · exact ROs.live r a (by (try dsimp only at *); omega)
    · exact RO.live h a e
end
theorem ROs.len {G H : Hp} : ∀ {vs : List V} {os : List OD} {f : FP}, ROs K G H vs os f → vs.length = os.length
  | _, _, _, .nil => rfl
  | _, _, _, .cons _ r => by simp [ROs.len r]
theorem ROs.of_dps {G H : Hp} : ∀ {vs : List V} {ds : List PyData}, DxAll K G vs ds → ROs K G H vs (ds.map OD.sh) (fun _ => 0)
  | _, _, .nil => .nil
  | _, _, .cons h r => ROs.cons (f := fun _ => 0) (g := fun _ => 0) (.sh h) (ROs.of_dps r)
theorem ROs.app {G H : Hp} : ∀ {vs ws : List V} {os ps : List OD} {f g : FP}, ROs K G H vs os f → ROs K G H ws ps g → ∃ k, ROs K G H (vs ++ ws) (os ++ ps) k ∧ ∀ a, k a = f a + g a
  | _, _, _, _, _, g, .nil, h => ⟨g, h, fun a => by (try dsimp only at *); omega⟩
  | _, _, _, _, _, g, .cons (f := f₁) (g := f₂) h r, q => by
    obtain ⟨k, h1, h2⟩ := ROs.app r q
    exact ⟨_, .cons h h1, fun a => by (try dsimp only); rw [h2]; omega⟩

/-- the slots (and temporaries behind them): what each holds; f: what is owned in all -/
inductive SL (K : PySem.W.Frag) (G H : Hp) : List (Option V) → List (Option OD) → FP → Prop
  | nil : SL K G H [] [] (fun _ => 0)
  | un {v : Option V} {vs : List (Option V)} {os : List (Option OD)} {f : FP} : SL K G H vs os f → SL K G H (v :: vs) (none :: os) f
  | val {v : V} {o : OD} {f : FP} {vs : List (Option V)} {os : List (Option OD)} {g : FP} : RO K G H v o f → SL K G H vs os g → SL K G H (some v :: vs) (some o :: os) (fun a => f a + g a)
theorem SL.len {G H : Hp} : ∀ {vs : List (Option V)} {os : List (Option OD)} {f : FP}, SL K G H vs os f → vs.length = os.length
  | _, _, _, .nil => rfl
  | _, _, _, .un r => by simp [SL.len r]
  | _, _, _, .val _ r => by simp [SL.len r]
theorem SL.mono {G H G' H' : Hp} (g : Sub G G') : ∀ {vs : List (Option V)} {os : List (Option OD)} {f : FP}, SL K G H vs os f → (∀ a u, f a ≠ 0 → H a = some u → H' a = some u) → SL K G' H' vs os f
  | _, _, _, .nil, _ => .nil
  | _, _, _, .un r, k => .un (SL.mono g r k)
  | _, _, _, .val (f := f) (g := f') h r, k => .val (h.mono g fun a u ha e => k a u (by (try dsimp only at *); omega) e) (SL.mono g r fun a u ha e => k a u (by (try dsimp only at *); omega) e)
theorem SL.live {G H : Hp} : ∀ {vs : List (Option V)} {os : List (Option OD)} {f : FP}, SL K G H vs os f → ∀ a, f a ≠ 0 → H a ≠ none
  | _, _, _, .nil, a, h => absurd rfl h
  | _, _, _, .un r, a, h => SL.live r a h
  | _, _, _, .val (f := f) (g := f') h r, a, ha => by
    by_cases e : f a = 0
    · exact SL.live r a (by (try dsimp only at *); omega)
    · exact h.live a e
theorem SL.congr {G H : Hp} {vs : List (Option V)} {os : List (Option OD)} {f g : FP} (h : SL K G H vs os f) (e : ∀ a, f a = g a) : SL K G H vs os g := by
  have : f = g := funext e
  subst this; exact h
/-- look at the i-th -/
theorem SL.at {G H : Hp} : ∀ {vs : List (Option V)} {os : List (Option OD)} {f : FP} {i : Nat} {o : OD}, SL K G H vs os f → os[i]? = some (some o) →
    ∃ (v : V) (fo fr : FP), vs[i]? = some (some v) ∧ RO K G H v o fo ∧ (∀ a, f a = fo a + fr a) ∧ 
      (∀ G' H', Sub G G' → (∀ a u, fr a ≠ 0 → H a = some u → H' a = some u) → ∀ v' o' f', RO K G' H' v' o' f' → ∃ g, SL K G' H' (vs.set i (some v')) (os.set i (some o')) g ∧ ∀ a, g a = f' a + fr a)
  | _, _, _, _, _, .nil, h => by simp at h
  | _, _, _, 0, _, .un r, h => by simp at h
  | _, _, _, 0, o, .val (v := v) (f := f) (g := g) q r, h => by
    simp at h; subst h
    exact ⟨v, f, g, rfl, q, fun _ => rfl, fun G' H' s k v' o' f' q' => ⟨_, .val q' (r.mono s k), fun _ => rfl⟩⟩
  | _, _, _, i + 1, o, .un (v := w) r, h => by
    obtain ⟨v, fo, fr, h1, h2, h3, h5⟩ := SL.at (i := i) r (by simpa using h)
    exact ⟨v, fo, fr, by simpa using h1, h2, h3, fun G' H' s k v' o' f' q => by
      obtain ⟨g, g1, g2⟩ := h5 G' H' s k v' o' f' q
      exact ⟨g, .un g1, g2⟩⟩
  | _, _, _, i + 1, o, .val (f := f) (g := g) q r, h => by
    obtain ⟨v, fo, fr, h1, h2, h3, h5⟩ := SL.at (i := i) r (by simpa using h)
    refine ⟨v, fo, fun a => f a + fr a, by simpa using h1, h2, fun a => by (try dsimp only at *); rw [h3 a]; omega, fun G' H' s k v' o' f' q' => ?_⟩
    obtain ⟨k', g1, g2⟩ := h5 G' H' s (fun a u z e => k a u (by (try dsimp only at *); omega) e) v' o' f' q'
    exact ⟨_, .val (q.mono s fun a u z e => k a u (by (try dsimp only at *); omega) e) g1, fun a => by (try dsimp only at *); rw [g2 a]; omega⟩
/-- a slot overwritten, whatever it held -/
theorem SL.put {G H : Hp} : ∀ {vs : List (Option V)} {os : List (Option OD)} {f : FP} (i : Nat), SL K G H vs os f → i < os.length →
    ∃ fr, (∀ a, fr a ≤ f a) ∧ (∀ vv, SL K G H (vs.set i vv) (os.set i none) fr) ∧ (∀ v' o' f', RO K G H v' o' f' → ∃ g, SL K G H (vs.set i (some v')) (os.set i (some o')) g ∧ ∀ a, g a = f' a + fr a)
  | _, _, _, i, .nil, h => by simp at h
  | _, _, _, 0, .un (f := f) r, _ => ⟨f, fun _ => Nat.le_refl _, fun vv => .un r, fun v' o' f' q => ⟨_, .val q r, fun _ => rfl⟩⟩
  | _, _, _, 0, .val (f := f) (g := g) q r, _ => ⟨g, fun a => by (try dsimp only at *); omega, fun vv => .un r, fun v' o' f' q' => ⟨_, .val q' r, fun _ => rfl⟩⟩
  | _, _, _, i + 1, .un r, h => by
    obtain ⟨fr, h1, h4, h5⟩ := SL.put i r (by simpa using h)
    exact ⟨fr, h1, fun vv => .un (h4 vv), fun v' o' f' q => by
      obtain ⟨g, g1, g2⟩ := h5 v' o' f' q
      exact ⟨g, .un g1, g2⟩⟩
  | _, _, _, i + 1, .val (f := f) (g := g) q r, h => by
    obtain ⟨fr, h1, h4, h5⟩ := SL.put i r (by simpa using h)
    refine ⟨fun a => f a + fr a, fun a => by have := h1 a; (try dsimp only at *); omega, fun vv => .val q (h4 vv), fun v' o' f' q' => ?_⟩
    obtain ⟨k, g1, g2⟩ := h5 v' o' f' q'
    exact ⟨_, .val q g1, fun a => by (try dsimp only at *); rw [g2 a]; omega⟩
theorem SL.app {G H : Hp} : ∀ {vs ws : List (Option V)} {os ps : List (Option OD)} {f g : FP}, SL K G H vs os f → SL K G H ws ps g → ∃ k, SL K G H (vs ++ ws) (os ++ ps) k ∧ ∀ a, k a = f a + g a
  | _, _, _, _, _, g, .nil, h => ⟨g, h, fun a => by (try dsimp only at *); omega⟩
  | _, _, _, _, _, g, .un r, q => by
    obtain ⟨k, h1, h2⟩ := SL.app r q
    exact ⟨k, .un h1, h2⟩
  | _, _, _, _, _, g, .val (f := f₁) (g := f₂) h r, q => by
    obtain ⟨k, h1, h2⟩ := SL.app r q
    exact ⟨_, .val h h1, fun a => by (try dsimp only); rw [h2]; omega⟩
theorem SL.cut {G H : Hp} : ∀ {vs ws : List (Option V)} {os ps : List (Option OD)} {f : FP}, vs.length = os.length → SL K G H (vs ++ ws) (os ++ ps) f → ∃ g k, SL K G H vs os g ∧ SL K G H ws ps k ∧ ∀ a, f a = g a + k a
  | [], _, [], _, f, _, h => ⟨fun _ => 0, f, .nil, h, fun a => by (try dsimp only at *); omega⟩
  | [], _, _ :: _, _, _, e, _ => by simp at e
  | _ :: _, _, [], _, _, e, _ => by simp at e
  | v :: vs, ws, o :: os, ps, f, e, h => by
    have e' : vs.length = os.length := by simpa using e
    cases h with
    | un r =>
      obtain ⟨g, k, h1, h2, h3⟩ := SL.cut e' r
      exact ⟨g, k, .un h1, h2, h3⟩
    | val q r =>
      obtain ⟨g, k, h1, h2, h3⟩ := SL.cut e' r
      exact ⟨_, k, .val q h1, h2, fun a => by (try dsimp only at *); rw [h3 a]; omega⟩
end

/-- the state: G the shared part of the heap H -/
structure SI (K : PySem.W.Frag) (G H : Hp) (vs : List (Option V)) (os : List (Option OD)) (f : FP) : Prop where
  sl : SL K G H vs os f
  sub : Sub G H
  one : ∀ a, f a ≤ 1
  hid : ∀ a, f a ≠ 0 → G a = none
/-- how the state goes on -/
structure Stp (G H : Hp) (f : FP) (G' H' : Hp) (f' : FP) : Prop where
  gsub : Sub G G'
  keep : ∀ a o, H a = some o → f a = 0 → H' a = some o
  dom : ∀ a, H a ≠ none → H' a ≠ none
  gnew : ∀ a, G' a ≠ none → G a ≠ none ∨ H a = none ∨ f a ≠ 0
  fnew : ∀ a, f' a ≠ 0 → f a ≠ 0 ∨ H a = none
theorem Stp.refl (G H : Hp) (f : FP) : Stp G H f G H f := ⟨Sub.refl _, fun _ _ h _ => h, fun _ h => h, fun _ h => .inl h, fun _ h => .inl h⟩
theorem Stp.trans {G H G1 H1 G2 H2 : Hp} {f f1 f2 : FP} (a : Stp G H f G1 H1 f1) (b : Stp G1 H1 f1 G2 H2 f2) : Stp G H f G2 H2 f2 where
  gsub := a.gsub.trans b.gsub
  keep := fun x o h z => b.keep x o (a.keep x o h z) (by
    by_cases e : f1 x = 0
    · exact e
    · rcases a.fnew x e with q | q
      · exact absurd z q
      · rw [q] at h; cases h)
  dom := fun x h => b.dom x (a.dom x h)
  gnew := fun x h => by
    rcases b.gnew x h with q | q | q
    · exact a.gnew x q
    · by_cases e : H x = none
      · exact .inr (.inl e)
      · exact absurd q (a.dom x e)
    · rcases a.fnew x q with r | r
      · exact .inr (.inr r)
      · exact .inr (.inl r)
  fnew := fun x h => by
    rcases b.fnew x h with q | q
    · exact a.fnew x q
    · by_cases e : H x = none
      · exact .inr e
      · exact absurd q (a.dom x e)
/-- less is owned -/
theorem Stp.less {G H : Hp} {f f' : FP} (h : ∀ a, f' a ≤ f a) : Stp G H f G H f' := ⟨Sub.refl _, fun _ _ h _ => h, fun _ h => h, fun _ h => .inl h, fun a q => .inl (by have := h a; omega)⟩

section
variable {K : PySem.W.Frag} {G H : Hp} {vs : List (Option V)} {os : List (Option OD)} {f : FP}
theorem SI.live (I : SI K G H vs os f) : ∀ a, f a ≠ 0 → H a ≠ none := I.sl.live
/-- a shared value comes onto the stack -/
theorem SI.push (I : SI K G H vs os f) {v : V} {d : PyData} (h : Dx K G v d) : SI K G H (vs ++ [some v]) (os ++ [some (.sh d)]) f := by
  obtain ⟨k, h1, h2⟩ := SL.app I.sl (SL.val (RO.sh (H := H) h) .nil)
  exact ⟨h1.congr fun a => by rw [h2]; rfl, I.sub, I.one, I.hid⟩
/-- nothing is said of a value -/
theorem SI.pushN (I : SI K G H vs os f) (v : Option V) : SI K G H (vs ++ [v]) (os ++ [none]) f := by
  obtain ⟨k, h1, h2⟩ := SL.app I.sl (SL.un (v := v) .nil)
  exact ⟨h1.congr fun a => by rw [h2]; rfl, I.sub, I.one, I.hid⟩
theorem SI.forget (I : SI K G H vs os f) {f' : FP} {vs' : List (Option V)} {os' : List (Option OD)} (h : SL K G H vs' os' f') (le : ∀ a, f' a ≤ f a) : SI K G H vs' os' f' :=
  ⟨h, I.sub, fun a => Nat.le_trans (le a) (I.one a), fun a q => I.hid a (by have := le a; omega)⟩
/-- what is shared more: the addresses where D says so -/
noncomputable def ext (G H : Hp) (D : FP) : Hp := fun a => if D a ≠ 0 then H a else G a
theorem sub_ext (I : Sub G H) {D : FP} (hid : ∀ a, D a ≠ 0 → G a = none) : Sub G (ext G H D) := fun a o e => by
  unfold ext
  rw [if_neg (fun q => by rw [hid a q] at e; cases e)]; exact e
theorem ext_sub (I : Sub G H) {D : FP} : Sub (ext G H D) H := fun a o e => by
  unfold ext at e
  split at e
  · exact e
  · exact I a o e
theorem set_id {α : Type} {l : List α} {i : Nat} {x : α} (h : l[i]? = some x) : l.set i x = l := by
  apply List.ext_getElem?
  intro j
  by_cases e : i = j
  · subst e
    rw [List.getElem?_set_self (by
      rcases Nat.lt_or_ge i l.length with q | q
      · exact q
      · rw [List.getElem?_eq_none q] at h; cases h)]
    exact h.symm
  · rw [List.getElem?_set_ne e]
/-- the i-th is made shared -/
theorem SI.freeze (I : SI K G H vs os f) {i : Nat} {o : OD} (h : os[i]? = some (some o)) :
    ∃ G' f', SI K G' H vs (os.set i (some (.sh o.er))) f' ∧ Stp G H f G' H f' ∧ ∃ v, vs[i]? = some (some v) ∧ Dx K G' v o.er := by
  obtain ⟨v, fo, fr, h1, h2, h3, h5⟩ := I.sl.at h
  have hidD : ∀ a, fo a ≠ 0 → G a = none := fun a q => I.hid a (by rw [h3]; omega)
  have s1 : Sub G (ext G H fo) := sub_ext I.sub hidD
  have s2 : Sub (ext G H fo) H := ext_sub I.sub
  have hd : Dx K (ext G H fo) v o.er := h2.frz s1 fun a u q e => by unfold ext; rw [if_pos q]; exact e
  obtain ⟨g, g1, g2⟩ := h5 (ext G H fo) H s1 (fun a u _ e => e) v (.sh o.er) _ (.sh hd)
  rw [set_id h1] at g1
  refine ⟨ext G H fo, g, ⟨g1, s2, fun a => ?_, fun a q => ?_⟩, ⟨s1, fun _ _ e _ => e, fun _ e => e, fun a q => ?_, fun a q => .inl ?_⟩, v, h1, hd⟩
  · rw [g2 a]; have := I.one a; rw [h3 a] at this; omega
  · rw [g2 a] at q
    have q1 : fo a = 0 := by have := I.one a; rw [h3 a] at this; omega
    unfold ext; rw [if_neg (by omega)]
    exact I.hid a (by rw [h3]; omega)
  · unfold ext at q
    split at q
    · rename_i r; exact .inr (.inr (by rw [h3]; omega))
    · exact .inl q
  · rw [g2 a] at q; rw [h3]; omega
/-- any slot is read as data of the heap -/
theorem RO.rd (s : Sub G H) {v : V} {o : OD} {fo : FP} (h : RO K G H v o fo) : Dx K H v o.er := h.frz s fun _ _ _ e => e
theorem SI.rd (I : SI K G H vs os f) {i : Nat} {o : OD} (h : os[i]? = some (some o)) : ∃ v, vs[i]? = some (some v) ∧ Dx K H v o.er := by
  obtain ⟨v, fo, fr, h1, h2, _⟩ := I.sl.at h
  exact ⟨v, h1, h2.rd I.sub⟩
/-- the last is dropped -/
theorem SI.pop {x : Option V} {y : Option OD} (I : SI K G H (vs ++ [x]) (os ++ [y]) f) (hl : vs.length = os.length) : ∃ f', SI K G H vs os f' ∧ ∀ a, f' a ≤ f a := by
  obtain ⟨g, k, h1, _, h3⟩ := SL.cut hl I.sl
  exact ⟨g, I.forget h1 fun a => by rw [h3]; omega, fun a => by rw [h3]; omega⟩
/-- the last is taken off -/
theorem SI.last {x : Option V} {o : OD} (I : SI K G H (vs ++ [x]) (os ++ [some o]) f) (hl : vs.length = os.length) : ∃ v fo fr, x = some v ∧ RO K G H v o fo ∧ SL K G H vs os fr ∧ ∀ a, f a = fr a + fo a := by
  obtain ⟨g, k, h1, h2, h3⟩ := SL.cut hl I.sl
  cases h2 with
  | val q r =>
    cases r
    exact ⟨_, _, g, rfl, q, h1, fun a => by rw [h3]; rfl⟩
/-- the heap goes on with what G and f hold as it stands -/
theorem SI.grow (I : SI K G H vs os f) {H' : Hp} (s : Sub H H') : SI K G H' vs os f :=
  ⟨I.sl.mono (Sub.refl _) fun a u _ e => s a u e, I.sub.trans s, I.one, I.hid⟩
/-- a new list, its items as they are owned -/
theorem SI.pushL (I : SI K G H vs os f) {xs : List V} {ys : List OD} {g h : FP} (q : ROs K G H xs ys g) (hs : SL K G H vs os h) (hf : ∀ a, f a = h a + g a) {p : Addr} (hp : H p = none) :
    ∃ f', SI K G (upd H p (.lst xs)) (vs ++ [some (.ref p)]) (os ++ [some (.lst ys)]) f' ∧ Stp G H f G (upd H p (.lst xs)) f' := by
  have sb : Sub H (upd H p (.lst xs)) := sub_upd (Sub.refl _) hp
  have hfp : f p = 0 := by
    by_cases e : f p = 0
    · exact e
    · exact absurd hp (I.live p e)
  have r : RO K G (upd H p (.lst xs)) (.ref p) (.lst ys) _ := .lst upd_same (q.mono (Sub.refl _) fun a u _ e => sb a u e)
  obtain ⟨k, k1, k2⟩ := SL.app (hs.mono (Sub.refl _) fun a u _ e => sb a u e) (SL.val r .nil)
  refine ⟨k, ⟨k1, I.sub.trans sb, fun a => ?_, fun a z => ?_⟩, ⟨Sub.refl _, fun a o e _ => sb a o e, fun a e => ?_, fun a e => .inl e, fun a z => ?_⟩⟩
  · rw [k2]; (try dsimp only)
    have := I.one a; rw [hf] at this
    by_cases e : a = p
    · subst e; rw [hf] at hfp; rw [if_pos rfl]; omega
    · rw [if_neg e]; omega
  · rw [k2] at z; (try dsimp only at z)
    by_cases e : a = p
    · subst e
      cases hg : G a with
      | none => rfl
      | some u => have := I.sub a u hg; rw [hp] at this; cases this
    · rw [if_neg e] at z
      exact I.hid a (by rw [hf]; omega)
  · cases e' : H a with
    | none => exact absurd e' e
    | some u => rw [sb a u e']; simp
  · rw [k2] at z; (try dsimp only at z)
    by_cases e : a = p
    · subst e; exact .inr hp
    · rw [if_neg e] at z
      exact .inl (by rw [hf]; omega)
theorem SI.pushNew (I : SI K G H vs os f) {xs : List V} {ds : List PyData} (q : DxAll K G xs ds) {p : Addr} (hp : H p = none) :
    ∃ f', SI K G (upd H p (.lst xs)) (vs ++ [some (.ref p)]) (os ++ [some (.lst (ds.map OD.sh))]) f' ∧ Stp G H f G (upd H p (.lst xs)) f' :=
  I.pushL (ROs.of_dps q) I.sl (fun _ => rfl) hp
/-- a new tuple of shared things -/
theorem SI.pushTup (I : SI K G H vs os f) {xs : List V} {ds : List PyData} (q : DxAll K G xs ds) {p : Addr} (hp : H p = none) :
    SI K (upd G p (.tup xs)) (upd H p (.tup xs)) (vs ++ [some (.ref p)]) (os ++ [some (.sh (.tuple ds))]) f ∧ Stp G H f (upd G p (.tup xs)) (upd H p (.tup xs)) f := by
  have gp : G p = none := by
    cases hg : G p with
    | none => rfl
    | some u => have := I.sub p u hg; rw [hp] at this; cases this
  have sg : Sub G (upd G p (.tup xs)) := sub_upd (Sub.refl _) gp
  have sb : Sub H (upd H p (.tup xs)) := sub_upd (Sub.refl _) hp
  have hfp : f p = 0 := by
    by_cases e : f p = 0
    · exact e
    · exact absurd hp (I.live p e)
  have J : SI K (upd G p (.tup xs)) (upd H p (.tup xs)) vs os f := ⟨I.sl.mono sg fun a u _ e => sb a u e, sub_upd2 I.sub, I.one, fun a q => by
    rw [upd_ne (fun e => by subst e; exact q hfp)]; exact I.hid a q⟩
  refine ⟨J.push (.tup (SqT.of upd_same) (dps_sub sg q)), ⟨sg, fun a o e _ => sb a o e, fun a e => ?_, fun a e => ?_, fun a z => .inl z⟩⟩
  · cases e' : H a with
    | none => exact absurd e' e
    | some u => rw [sb a u e']; simp
  · by_cases z : a = p
    · subst z; exact .inr (.inl hp)
    · rw [upd_ne z] at e; exact .inl e
end
end DX
/-! DXEval: a small language of data, and what its expressions are worth. -/
namespace DX
open PySem PySem.Spec PyProof.Rows L2

inductive RV where
  | al (i : Nat)
  | tm (o : OD)
abbrev En := List (Option OD)
def RV.od : RV → Option OD
  | .al _ => none
  | .tm o => some o
def RV.rd (os : En) : RV → Option PyData
  | .al i => match os[i]? with
    | some (some o) => some o.er
    | _ => none
  | .tm o => some o.er
def rdAll (os : En) : List RV → Option (List PyData)
  | [] => some []
  | r :: rs => match r.rd os, rdAll os rs with
    | some d, some ds => some (d :: ds)
    | _, _ => none
def isSc : PyData → Bool
  | .none | .bool _ | .int _ | .str _ => true
  | _ => false
def OD.isSh : OD → Bool
  | .sh _ => true
  | _ => false
/-- nothing owned within -/
def OD.flat : OD → Bool
  | .sh _ => true
  | .lst xs => xs.all OD.isSh
  | .tpl _ => false
/-- a slot that owns lists within its list is made shared -/
def soft (os : En) : RV → En
  | .al i => match os[i]? with
    | some (some o) => if o.flat then os else os.set i (some (.sh o.er))
    | _ => os
  | .tm _ => os
def softAll (os : En) : List RV → En
  | [] => os
  | r :: rs => softAll (soft os r) rs
/-- a slot made shared whatever it holds -/
def hard (os : En) : RV → En
  | .al i => match os[i]? with
    | some (some (.lst xs)) => os.set i (some (.sh (OD.lst xs).er))
    | some (some (.tpl xs)) => os.set i (some (.sh (OD.tpl xs).er))
    | _ => os
  | .tm _ => os
def hardAll (os : En) : List RV → En
  | [] => os
  | r :: rs => hardAll (hard os r) rs

/-- what an operation gives: a value (shared, or a scalar), a new list, a new tuple -/
inductive Op where
  | val (d : PyData)
  | nl (ds : List PyData)
  | nt (ds : List PyData)

def isInt? : PyData → Option Int
  | .int i => some i
  | _ => none

section
variable {K : PySem.W.Frag} {G H : Hp}
/-- a value whose topmost list may be owned -/
inductive DpW (K : PySem.W.Frag) (G H : Hp) : V → PyData → Prop
  | sh {v : V} {d : PyData} : Dx K G v d → DpW K G H v d
  | own {p : Addr} {vs : List V} {ds : List PyData} : H p = some (.lst vs) → DxAll K G vs ds → DpW K G H (.ref p) (.list ds)
inductive DpWs (K : PySem.W.Frag) (G H : Hp) : List V → List PyData → Prop
  | nil : DpWs K G H [] []
  | cons {v : V} {d : PyData} {vs : List V} {ds : List PyData} : DpW K G H v d → DpWs K G H vs ds → DpWs K G H (v :: vs) (d :: ds)
theorem DpW.dx (s : Sub G H) {v : V} {d : PyData} : DpW K G H v d → Dx K H v d
  | .sh h => dp_sub s h
  | .own h r => .lst (.inl (.inl h)) (dps_sub s r)
theorem DpWs.dx (s : Sub G H) : ∀ {vs : List V} {ds : List PyData}, DpWs K G H vs ds → DxAll K H vs ds
  | _, _, .nil => .nil
  | _, _, .cons h r => .cons (h.dx s) (DpWs.dx s r)
theorem DpW.mono {G' : Hp} (g : Sub G G') {v : V} {d : PyData} : DpW K G H v d → DpW K G' H v d
  | .sh h => .sh (dp_sub g h)
  | .own h r => .own h (dps_sub g r)
theorem DpWs.mono {G' : Hp} (g : Sub G G') : ∀ {vs : List V} {ds : List PyData}, DpWs K G H vs ds → DpWs K G' H vs ds
  | _, _, .nil => .nil
  | _, _, .cons h r => .cons (h.mono g) (DpWs.mono g r)
theorem DpWs.of : ∀ {vs : List V} {ds : List PyData}, DxAll K G vs ds → DpWs K G H vs ds
  | _, _, .nil => .nil
  | _, _, .cons h r => .cons (.sh h) (DpWs.of r)
/-- scalars are the same in every heap -/
theorem dp_sc {v : V} {d : PyData} {H' : Hp} (h : Dx K H v d) (e : isSc d = true) : Dx K H' v d := by
  cases h <;> first | (cases e; done) | (constructor; done) | (constructor; assumption)
theorem dps_sc {H' : Hp} : ∀ {vs : List V} {ds : List PyData}, DxAll K H vs ds → ds.all isSc = true → DxAll K H' vs ds
  | _, _, .nil, _ => .nil
  | _, _, .cons h r, e => by
    simp only [List.all_cons, Bool.and_eq_true] at e
    exact .cons (dp_sc h e.1) (dps_sc r e.2)

def RV.alias (σ : L2.St) (v : V) : RV → Prop
  | .al i => σ[i]? = some (some v)
  | .tm _ => True
inductive Als (σ : L2.St) : List V → List RV → Prop
  | nil : Als σ [] []
  | cons {v : V} {r : RV} {vs : List V} {rs : List RV} : r.alias σ v → Als σ vs rs → Als σ (v :: vs) (r :: rs)
theorem Als.len {σ : L2.St} : ∀ {vs : List V} {rs : List RV}, Als σ vs rs → vs.length = rs.length
  | _, _, .nil => rfl
  | _, _, .cons _ r => by simp [Als.len r]
theorem Als.app {σ : L2.St} : ∀ {vs ws : List V} {rs qs : List RV}, Als σ vs rs → Als σ ws qs → Als σ (vs ++ ws) (rs ++ qs)
  | _, _, _, _, .nil, h => h
  | _, _, _, _, .cons a r, h => .cons a (Als.app r h)

/-- all operands read -/
theorem rd_all {os : En} {σ : L2.St} {g : FP} (hs : Sub G H) (ha : ∀ (i : Nat) (o : OD), os[i]? = some (some o) → ∃ v, σ[i]? = some (some v) ∧ Dx K H v o.er) : ∀ {vs : List V} {rs : List RV} {ds : List PyData} {g : FP},
    Als σ vs rs → SL K G H (vs.map some) (rs.map RV.od) g → rdAll os rs = some ds → DxAll K H vs ds
  | _, _, _, _, .nil, _, e => by
    simp [rdAll] at e; subst e; exact .nil
  | v :: vs, r :: rs, ds, g, .cons a q, s, e => by
    unfold rdAll at e
    split at e
    · rename_i d ds' e1 e2
      cases e
      cases r with
      | al i =>
        have e1 : (match os[i]? with | some (some o) => some o.er | _ => none) = some d := e1
        split at e1
        · rename_i o e3
          cases e1
          obtain ⟨v', h1, h2⟩ := ha i o e3
          have a : σ[i]? = some (some v) := a
          rw [a] at h1; cases h1
          cases s with
          | un s => exact .cons h2 (rd_all (g := g) hs ha q s e2)
        · cases e1
      | tm o =>
        have e1 : some o.er = some d := e1
        cases e1
        cases s with
        | val h s => exact .cons (h.rd hs) (rd_all (g := g) hs ha q s e2)
    · cases e

/-- the last part of the stack is made shared and taken off -/
theorem SL.frz {G' : Hp} (g : Sub G G') : ∀ {vs : List (Option V)} {os : List (Option OD)} {f : FP}, SL K G H vs os f → (∀ a u, f a ≠ 0 → H a = some u → G' a = some u) →
    ∀ (j : Nat) (o : OD), os[j]? = some (some o) → ∃ v, vs[j]? = some (some v) ∧ Dx K G' v o.er
  | _, _, _, .nil, _, j, o, e => by simp at e
  | _, _, _, .un r, k, 0, o, e => by simp at e
  | _, _, _, .un r, k, j + 1, o, e => SL.frz g r k j o (by simpa using e)
  | _, _, _, .val (v := v) q r, k, 0, o, e => by
    simp at e; subst e
    exact ⟨v, rfl, q.frz g fun a u z h => k a u (by (try dsimp only); omega) h⟩
  | _, _, _, .val q r, k, j + 1, o, e => SL.frz g r (fun a u z h => k a u (by (try dsimp only); omega) h) j o (by simpa using e)
theorem SI.tail {A B : List (Option V)} {a b : En} {f : FP} (I : SI K G H (A ++ B) (a ++ b) f) (hl : A.length = a.length) :
    ∃ G' f', SI K G' H A a f' ∧ Stp G H f G' H f' ∧ (∀ (j : Nat) (o : OD), b[j]? = some (some o) → ∃ v, B[j]? = some (some v) ∧ Dx K G' v o.er) := by
  obtain ⟨g, k, h1, h2, h3⟩ := SL.cut hl I.sl
  have hidD : ∀ x, k x ≠ 0 → G x = none := fun x q => I.hid x (by rw [h3]; omega)
  have s1 : Sub G (ext G H k) := sub_ext I.sub hidD
  have s2 : Sub (ext G H k) H := ext_sub I.sub
  refine ⟨ext G H k, g, ⟨h1.mono s1 fun x u _ e => e, s2, fun x => ?_, fun x q => ?_⟩, ⟨s1, fun _ _ e _ => e, fun _ e => e, fun x q => ?_, fun x q => .inl ?_⟩, ?_⟩
  · have := I.one x; rw [h3 x] at this; omega
  · have q1 : k x = 0 := by have := I.one x; rw [h3 x] at this; omega
    unfold ext; rw [if_neg (by omega)]
    exact I.hid x (by rw [h3]; omega)
  · unfold ext at q
    split at q
    · rename_i r; exact .inr (.inr (by rw [h3]; omega))
    · exact .inl q
  · rw [h3]; omega
  · exact h2.frz s1 fun x u z e => by unfold ext; rw [if_pos z]; exact e
theorem len_soft (os : En) (r : RV) : (soft os r).length = os.length := by
  cases r with
  | tm o => rfl
  | al i =>
    show (match os[i]? with | some (some o) => if o.flat then os else os.set i (some (.sh o.er)) | _ => os).length = _
    split
    · split
      · rfl
      · rw [List.length_set]
    · rfl
theorem len_softAll : ∀ (rs : List RV) (os : En), (softAll os rs).length = os.length
  | [], _ => rfl
  | r :: rs, os => by show (softAll (soft os r) rs).length = _; rw [len_softAll rs, len_soft]
theorem len_hard (os : En) (r : RV) : (hard os r).length = os.length := by
  cases r with
  | tm o => rfl
  | al i =>
    show (match os[i]? with | some (some (.lst xs)) => os.set i (some (.sh (OD.lst xs).er)) | some (some (.tpl xs)) => os.set i (some (.sh (OD.tpl xs).er)) | _ => os).length = _
    split
    · rw [List.length_set]
    · rw [List.length_set]
    · rfl
theorem len_hardAll : ∀ (rs : List RV) (os : En), (hardAll os rs).length = os.length
  | [], _ => rfl
  | r :: rs, os => by show (hardAll (hard os r) rs).length = _; rw [len_hardAll rs, len_hard]

theorem set_app {α : Type} {l r : List α} {i : Nat} {x : α} (h : i < l.length) : (l ++ r).set i x = l.set i x ++ r := by
  rw [List.set_append]; simp [h]
theorem get_app {α : Type} {l r : List α} {i : Nat} (h : i < l.length) : (l ++ r)[i]? = l[i]? := by
  rw [List.getElem?_append_left h]
theorem lt_of_get {α : Type} {l : List α} {i : Nat} {x : α} (h : l[i]? = some x) : i < l.length := by
  rcases Nat.lt_or_ge i l.length with q | q
  · exact q
  · rw [List.getElem?_eq_none q] at h; cases h
/-- a slot ahead is made shared -/
theorem SI.fz {vs : List (Option V)} {os θ : En} {f : FP} (I : SI K G H vs (os ++ θ) f) {i : Nat} {o : OD} (h : os[i]? = some (some o)) :
    ∃ G' f', SI K G' H vs (os.set i (some (.sh o.er)) ++ θ) f' ∧ Stp G H f G' H f' := by
  have hi := lt_of_get h
  obtain ⟨G', f', h1, h2, _⟩ := I.freeze (i := i) (o := o) (by rw [get_app hi]; exact h)
  exact ⟨G', f', by rw [← set_app hi]; exact h1, h2⟩
theorem SI.soft {vs : List (Option V)} {os θ : En} {f : FP} (I : SI K G H vs (os ++ θ) f) (r : RV) : ∃ G' f', SI K G' H vs (soft os r ++ θ) f' ∧ Stp G H f G' H f' := by
  cases r with
  | tm o => exact ⟨G, f, I, Stp.refl _ _ _⟩
  | al i =>
    show ∃ G' f', SI K G' H vs ((match os[i]? with | some (some o) => if o.flat then os else os.set i (some (.sh o.er)) | _ => os) ++ θ) f' ∧ _
    split
    · rename_i o e
      split
      · exact ⟨G, f, I, Stp.refl _ _ _⟩
      · exact I.fz e
    · exact ⟨G, f, I, Stp.refl _ _ _⟩
theorem SI.softs {vs : List (Option V)} {θ : En} : ∀ (rs : List RV) {G : Hp} {os : En} {f : FP}, SI K G H vs (os ++ θ) f → ∃ G' f', SI K G' H vs (softAll os rs ++ θ) f' ∧ Stp G H f G' H f'
  | [], G, os, f, I => ⟨G, f, I, Stp.refl _ _ _⟩
  | r :: rs, G, os, f, I => by
    obtain ⟨G1, f1, h1, h2⟩ := I.soft r
    obtain ⟨G2, f2, h3, h4⟩ := SI.softs rs h1
    exact ⟨G2, f2, h3, h2.trans h4⟩
theorem SI.hard {vs : List (Option V)} {os θ : En} {f : FP} (I : SI K G H vs (os ++ θ) f) (r : RV) : ∃ G' f', SI K G' H vs (hard os r ++ θ) f' ∧ Stp G H f G' H f' := by
  cases r with
  | tm o => exact ⟨G, f, I, Stp.refl _ _ _⟩
  | al i =>
    show ∃ G' f', SI K G' H vs ((match os[i]? with | some (some (.lst xs)) => os.set i (some (.sh (OD.lst xs).er)) | some (some (.tpl xs)) => os.set i (some (.sh (OD.tpl xs).er)) | _ => os) ++ θ) f' ∧ _
    split
    · rename_i xs e
      exact I.fz e
    · rename_i xs e
      exact I.fz e
    · exact ⟨G, f, I, Stp.refl _ _ _⟩
theorem SI.hards {vs : List (Option V)} {θ : En} : ∀ (rs : List RV) {G : Hp} {os : En} {f : FP}, SI K G H vs (os ++ θ) f → ∃ G' f', SI K G' H vs (hardAll os rs ++ θ) f' ∧ Stp G H f G' H f'
  | [], G, os, f, I => ⟨G, f, I, Stp.refl _ _ _⟩
  | r :: rs, G, os, f, I => by
    obtain ⟨G1, f1, h1, h2⟩ := I.hard r
    obtain ⟨G2, f2, h3, h4⟩ := SI.hards rs h1
    exact ⟨G2, f2, h3, h2.trans h4⟩

theorem isSh_er {d : PyData} {xs : List OD} (h : xs.all OD.isSh = true) {vs : List V} {f : FP} (r : ROs K G H vs xs f) : DxAll K G vs (OD.ers xs) := by
  induction xs generalizing vs f with
  | nil => cases r; exact .nil
  | cons x xs ih =>
    simp only [List.all_cons, Bool.and_eq_true] at h
    cases r with
    | cons a b =>
      cases a with
      | sh a => exact .cons a (ih h.2 b)
      | lst _ _ => cases h.1
      | tpl _ _ => cases h.1
theorem RO.w {v : V} {o : OD} {f : FP} (h : RO K G H v o f) (e : o.flat = true) : DpW K G H v o.er := by
  cases h with
  | sh h => exact .sh h
  | lst h r => exact .own h (isSh_er (d := .none) e r)
  | tpl _ _ => cases e
theorem flat_sh (d : PyData) : (OD.sh d).flat = true := rfl
theorem soft_get {os : En} {r : RV} {i : Nat} {o : OD} (h : os[i]? = some (some o)) : ∃ o', (soft os r)[i]? = some (some o') ∧ o'.er = o.er ∧ (o.flat = true → o'.flat = true) := by
  cases r with
  | tm _ => exact ⟨o, h, rfl, id⟩
  | al j =>
    show ∃ o', (match os[j]? with | some (some o) => if o.flat then os else os.set j (some (.sh o.er)) | _ => os)[i]? = some (some o') ∧ _
    split
    · rename_i o2 e2
      split
      · exact ⟨o, h, rfl, id⟩
      · by_cases e : j = i
        · subst e
          rw [h] at e2; cases e2
          exact ⟨.sh o.er, by rw [List.getElem?_set_self (lt_of_get h)], rfl, fun _ => rfl⟩
        · exact ⟨o, by rw [List.getElem?_set_ne e]; exact h, rfl, id⟩
    · exact ⟨o, h, rfl, id⟩
theorem soft_al {os : En} {i : Nat} {o : OD} (h : os[i]? = some (some o)) : ∃ o', (soft os (.al i))[i]? = some (some o') ∧ o'.er = o.er ∧ o'.flat = true := by
  show ∃ o', (match os[i]? with | some (some o) => if o.flat then os else os.set i (some (.sh o.er)) | _ => os)[i]? = some (some o') ∧ _
  rw [h]
  dsimp only
  split
  · rename_i e; exact ⟨o, h, rfl, e⟩
  · exact ⟨.sh o.er, by rw [List.getElem?_set_self (lt_of_get h)], rfl, rfl⟩
theorem softs_get : ∀ {rs : List RV} {os : En} {i : Nat} {o : OD}, os[i]? = some (some o) → ∃ o', (softAll os rs)[i]? = some (some o') ∧ o'.er = o.er ∧ (o.flat = true → o'.flat = true)
  | [], os, i, o, h => ⟨o, h, rfl, id⟩
  | r :: rs, os, i, o, h => by
    obtain ⟨o1, h1, h2, h3⟩ := soft_get (r := r) h
    obtain ⟨o2, k1, k2, k3⟩ := softs_get (rs := rs) h1
    exact ⟨o2, k1, k2.trans h2, fun z => k3 (h3 z)⟩
theorem softs_al : ∀ {rs : List RV} {os : En} {i : Nat} {o : OD}, os[i]? = some (some o) → RV.al i ∈ rs → ∃ o', (softAll os rs)[i]? = some (some o') ∧ o'.er = o.er ∧ o'.flat = true
  | r :: rs, os, i, o, h, m => by
    rcases List.mem_cons.mp m with e | e
    · subst e
      obtain ⟨o1, h1, h2, h3⟩ := soft_al h
      obtain ⟨o2, k1, k2, k3⟩ := softs_get (rs := rs) h1
      exact ⟨o2, k1, k2.trans h2, k3 h3⟩
    · obtain ⟨o1, h1, h2, _⟩ := soft_get (r := r) h
      obtain ⟨o2, k1, k2, k3⟩ := softs_al h1 e
      exact ⟨o2, k1, k2.trans h2, k3⟩
theorem hard_get {os : En} {r : RV} {i : Nat} {o : OD} (h : os[i]? = some (some o)) : ∃ o', (hard os r)[i]? = some (some o') ∧ o'.er = o.er ∧ (o.isSh = true → o'.isSh = true) := by
  cases r with
  | tm _ => exact ⟨o, h, rfl, id⟩
  | al j =>
    show ∃ o', (match os[j]? with | some (some (.lst xs)) => os.set j (some (.sh (OD.lst xs).er)) | some (some (.tpl xs)) => os.set j (some (.sh (OD.tpl xs).er)) | _ => os)[i]? = some (some o') ∧ _
    split
    · rename_i o2 e2
      by_cases e : j = i
      · subst e
        rw [h] at e2; cases e2
        exact ⟨.sh _, by rw [List.getElem?_set_self (lt_of_get h)]; rfl, rfl, fun _ => rfl⟩
      · exact ⟨o, by rw [List.getElem?_set_ne e]; exact h, rfl, id⟩
    · rename_i o2 e2
      by_cases e : j = i
      · subst e
        rw [h] at e2; cases e2
        exact ⟨.sh _, by rw [List.getElem?_set_self (lt_of_get h)]; rfl, rfl, fun _ => rfl⟩
      · exact ⟨o, by rw [List.getElem?_set_ne e]; exact h, rfl, id⟩
    · exact ⟨o, h, rfl, id⟩
theorem hard_al {os : En} {i : Nat} {o : OD} (h : os[i]? = some (some o)) : ∃ o', (hard os (.al i))[i]? = some (some o') ∧ o'.er = o.er ∧ o'.isSh = true := by
  show ∃ o', (match os[i]? with | some (some (.lst xs)) => os.set i (some (.sh (OD.lst xs).er)) | some (some (.tpl xs)) => os.set i (some (.sh (OD.tpl xs).er)) | _ => os)[i]? = some (some o') ∧ _
  rw [h]
  cases o with
  | sh d => exact ⟨.sh d, h, rfl, rfl⟩
  | lst xs => exact ⟨.sh _, by rw [List.getElem?_set_self (lt_of_get h)]; rfl, rfl, rfl⟩
  | tpl xs => exact ⟨.sh _, by rw [List.getElem?_set_self (lt_of_get h)]; rfl, rfl, rfl⟩
theorem hards_get : ∀ {rs : List RV} {os : En} {i : Nat} {o : OD}, os[i]? = some (some o) → ∃ o', (hardAll os rs)[i]? = some (some o') ∧ o'.er = o.er ∧ (o.isSh = true → o'.isSh = true)
  | [], os, i, o, h => ⟨o, h, rfl, id⟩
  | r :: rs, os, i, o, h => by
    obtain ⟨o1, h1, h2, h3⟩ := hard_get (r := r) h
    obtain ⟨o2, k1, k2, k3⟩ := hards_get (rs := rs) h1
    exact ⟨o2, k1, k2.trans h2, fun z => k3 (h3 z)⟩
theorem hards_al : ∀ {rs : List RV} {os : En} {i : Nat} {o : OD}, os[i]? = some (some o) → RV.al i ∈ rs → ∃ o', (hardAll os rs)[i]? = some (some o') ∧ o'.er = o.er ∧ o'.isSh = true
  | r :: rs, os, i, o, h, m => by
    rcases List.mem_cons.mp m with e | e
    · subst e
      obtain ⟨o1, h1, h2, h3⟩ := hard_al h
      obtain ⟨o2, k1, k2, k3⟩ := hards_get (rs := rs) h1
      exact ⟨o2, k1, k2.trans h2, k3 h3⟩
    · obtain ⟨o1, h1, h2, _⟩ := hard_get (r := r) h
      obtain ⟨o2, k1, k2, k3⟩ := hards_al h1 e
      exact ⟨o2, k1, k2.trans h2, k3⟩

/-- the operands, taken off the stack: their topmost lists may be owned by slots -/
theorem take_w {os' : En} {σ : L2.St} {G' : Hp} {vs₀ : List (Option V)} {b : En}
    (hw : ∀ (i : Nat) (o : OD), os'[i]? = some (some o) → ∃ v, σ[i]? = some (some v) ∧ (o.flat = true → DpW K G' H v o.er)) {os : En} {qs : List RV}
    (hq : ∀ (i : Nat) (o : OD), os[i]? = some (some o) → RV.al i ∈ qs → ∃ o', os'[i]? = some (some o') ∧ o'.er = o.er ∧ o'.flat = true) :
    ∀ {vs : List V} {rs : List RV} {ds : List PyData}, (∀ r ∈ rs, r ∈ qs) → Als σ vs rs → (∀ (j : Nat) (o : OD), (rs.map RV.od)[j]? = some (some o) → ∃ v, (vs.map some)[j]? = some (some v) ∧ Dx K G' v o.er) → rdAll os rs = some ds → DpWs K G' H vs ds
  | _, _, _, _, .nil, _, e => by
    simp [rdAll] at e; subst e; exact .nil
  | v :: vs, r :: rs, ds, m, .cons a q, t, e => by
    unfold rdAll at e
    split at e
    · rename_i d ds' e1 e2
      cases e
      have rest : DpWs K G' H vs ds' := take_w (vs₀ := vs₀) (b := b) hw hq (fun r' h => m r' (List.mem_cons_of_mem _ h)) q (fun j o h => by
        obtain ⟨w, h1, h2⟩ := t (j + 1) o (by simpa using h)
        exact ⟨w, by simpa using h1, h2⟩) e2
      cases r with
      | al i =>
        have e1 : (match os[i]? with | some (some o) => some o.er | _ => none) = some d := e1
        split at e1
        · rename_i o e3
          cases e1
          obtain ⟨o', h1, h2, h3⟩ := hq i o e3 (m _ List.mem_cons_self)
          obtain ⟨v', k1, k2⟩ := hw i o' h1
          have a : σ[i]? = some (some v) := a
          rw [a] at k1; cases k1
          have := k2 h3
          rw [h2] at this
          exact .cons this rest
        · cases e1
      | tm o =>
        have e1 : some o.er = some d := e1
        cases e1
        obtain ⟨w, h1, h2⟩ := t 0 o rfl
        have h1 : some (some v) = some (some w) := h1
        cases h1
        exact .cons (.sh h2) rest
    · cases e

section
variable {σ τ : List (Option V)} {os θ : En} {f : FP} {vs : List V} {rs : List RV} {ds : List PyData}
theorem SI.slotW (I : SI K G H (σ ++ τ) (os ++ θ) f) (hl : σ.length = os.length) (i : Nat) (o : OD) (h : os[i]? = some (some o)) : ∃ v, σ[i]? = some (some v) ∧ (o.flat = true → DpW K G H v o.er) ∧ Dx K H v o.er ∧ (o.isSh = true → Dx K G v o.er) := by
  have hi := lt_of_get h
  obtain ⟨v, fo, fr, h1, h2, _⟩ := I.sl.at (i := i) (o := o) (by rw [get_app hi]; exact h)
  refine ⟨v, by rw [← get_app (r := τ) (by omega)]; exact h1, fun e => h2.w e, h2.rd I.sub, fun e => ?_⟩
  cases h2 with
  | sh hh => exact hh
  | lst _ _ => cases e
  | tpl _ _ => cases e
theorem SI.popA (I : SI K G H (σ ++ (τ ++ vs.map some)) (os ++ (θ ++ rs.map RV.od)) f) (hl : σ.length = os.length) (ht : τ.length = θ.length) (ha : Als σ vs rs) (hd : rdAll os rs = some ds) :
    DxAll K H vs ds ∧ ∃ f', SI K G H (σ ++ τ) (os ++ θ) f' ∧ ∀ a, f' a ≤ f a := by
  rw [← List.append_assoc, ← List.append_assoc] at I
  obtain ⟨g, k, h1, h2, h3⟩ := SL.cut (by simp [hl, ht]) I.sl
  have J : SI K G H (σ ++ τ) (os ++ θ) g := I.forget h1 fun a => by rw [h3]; omega
  refine ⟨rd_all (g := fun _ => 0) I.sub (fun i o e => ?_) ha h2 hd, g, J, fun a => by rw [h3]; omega⟩
  obtain ⟨v, q1, _, q2, _⟩ := J.slotW hl i o e
  exact ⟨v, q1, q2⟩
theorem SI.popB (I : SI K G H (σ ++ (τ ++ vs.map some)) (os ++ (θ ++ rs.map RV.od)) f) (hl : σ.length = os.length) (ht : τ.length = θ.length) (ha : Als σ vs rs) (hd : rdAll os rs = some ds) :
    ∃ G' f', SI K G' H (σ ++ τ) (softAll os rs ++ θ) f' ∧ Stp G H f G' H f' ∧ DpWs K G' H vs ds := by
  rw [← List.append_assoc, ← List.append_assoc] at I
  obtain ⟨G1, f1, I1, s1, t1⟩ := I.tail (by simp [hl, ht])
  obtain ⟨G2, f2, I2, s2⟩ := I1.softs rs
  refine ⟨G2, f2, I2, s1.trans s2, ?_⟩
  refine take_w (vs₀ := []) (b := []) (os' := softAll os rs) (σ := σ) (os := os) (qs := rs) (fun i o e => ?_) (fun i o e m => softs_al e m) (fun _ h => h) ha (fun j o e => ?_) hd
  · obtain ⟨v, q1, q2, _⟩ := I2.slotW (by rw [len_softAll]; exact hl) i o e
    exact ⟨v, q1, q2⟩
  · obtain ⟨v, q1, q2⟩ := t1 j o e
    exact ⟨v, q1, dp_sub s2.gsub q2⟩
/-- the operands, all shared -/
theorem take_h {os' : En} {σ : L2.St} {G' : Hp}
    (hw : ∀ (i : Nat) (o : OD), os'[i]? = some (some o) → ∃ v, σ[i]? = some (some v) ∧ (o.isSh = true → Dx K G' v o.er)) {os : En} {qs : List RV}
    (hq : ∀ (i : Nat) (o : OD), os[i]? = some (some o) → RV.al i ∈ qs → ∃ o', os'[i]? = some (some o') ∧ o'.er = o.er ∧ o'.isSh = true) :
    ∀ {vs : List V} {rs : List RV} {ds : List PyData}, (∀ r ∈ rs, r ∈ qs) → Als σ vs rs → (∀ (j : Nat) (o : OD), (rs.map RV.od)[j]? = some (some o) → ∃ v, (vs.map some)[j]? = some (some v) ∧ Dx K G' v o.er) → rdAll os rs = some ds → DxAll K G' vs ds
  | _, _, _, _, .nil, _, e => by
    simp [rdAll] at e; subst e; exact .nil
  | v :: vs, r :: rs, ds, m, .cons a q, t, e => by
    unfold rdAll at e
    split at e
    · rename_i d ds' e1 e2
      cases e
      have rest : DxAll K G' vs ds' := take_h hw hq (fun r' h => m r' (List.mem_cons_of_mem _ h)) q (fun j o h => by
        obtain ⟨w, h1, h2⟩ := t (j + 1) o (by simpa using h)
        exact ⟨w, by simpa using h1, h2⟩) e2
      cases r with
      | al i =>
        have e1 : (match os[i]? with | some (some o) => some o.er | _ => none) = some d := e1
        split at e1
        · rename_i o e3
          cases e1
          obtain ⟨o', h1, h2, h3⟩ := hq i o e3 (m _ List.mem_cons_self)
          obtain ⟨v', k1, k2⟩ := hw i o' h1
          have a : σ[i]? = some (some v) := a
          rw [a] at k1; cases k1
          have := k2 h3
          rw [h2] at this
          exact .cons this rest
        · cases e1
      | tm o =>
        have e1 : some o.er = some d := e1
        cases e1
        obtain ⟨w, h1, h2⟩ := t 0 o rfl
        have h1 : some (some v) = some (some w) := h1
        cases h1
        exact .cons h2 rest
    · cases e
theorem SI.popC (I : SI K G H (σ ++ (τ ++ vs.map some)) (os ++ (θ ++ rs.map RV.od)) f) (hl : σ.length = os.length) (ht : τ.length = θ.length) (ha : Als σ vs rs) (hd : rdAll os rs = some ds) :
    ∃ G' f', SI K G' H (σ ++ τ) (hardAll os rs ++ θ) f' ∧ Stp G H f G' H f' ∧ DxAll K G' vs ds := by
  rw [← List.append_assoc, ← List.append_assoc] at I
  obtain ⟨G1, f1, I1, s1, t1⟩ := I.tail (by simp [hl, ht])
  obtain ⟨G2, f2, I2, s2⟩ := I1.hards rs
  refine ⟨G2, f2, I2, s1.trans s2, ?_⟩
  refine take_h (os' := hardAll os rs) (σ := σ) (os := os) (qs := rs) (fun i o e => ?_) (fun i o e m => hards_al e m) (fun _ h => h) ha (fun j o e => ?_) hd
  · obtain ⟨v, q1, _, _, q2⟩ := I2.slotW (by rw [len_hardAll]; exact hl) i o e
    exact ⟨v, q1, q2⟩
  · obtain ⟨v, q1, q2⟩ := t1 j o e
    exact ⟨v, q1, dp_sub s2.gsub q2⟩
end
end
end DX
/-! DXExpr: what expressions are worth. -/
namespace DX
open PySem PySem.Spec PyProof.Rows L2

abbrev EvE := En → Option (RV × En)
abbrev EvEs := En → Option (List RV × En)
abbrev EvT := En → Option (Bool × En)

/-- behind a part: the values vs on top of the stack -/
def Kont (K : PySem.W.Frag) (σ τ : List (Option V)) (G H : Hp) (f : FP) (os' θ : En) (vs : List V) (rs : List RV) (H' : Hp) : Prop :=
  ∃ G' f', SI K G' H' (σ ++ (τ ++ vs.map some)) (os' ++ (θ ++ rs.map RV.od)) f' ∧ Stp G H f G' H' f' ∧ Als σ vs rs ∧ σ.length = os'.length
def KontT (K : PySem.W.Frag) (σ τ : List (Option V)) (G H : Hp) (f : FP) (os' θ : En) (H' : Hp) : Prop :=
  ∃ G' f', SI K G' H' (σ ++ τ) (os' ++ θ) f' ∧ Stp G H f G' H' f' ∧ σ.length = os'.length
def ER (K : PySem.W.Frag) (ev : EvE) (te : TE) : Prop := ∀ (σ τ : List (Option V)) (G H : Hp) (os θ : En) (f : FP) (r : RV) (os' : En) (Q : VK),
  σ.length = os.length → τ.length = θ.length → SI K G H (σ ++ τ) (os ++ θ) f → ev os = some (r, os') → (∀ v H', Kont K σ τ G H f os' θ [v] [r] H' → Q v H') → te σ H Q
def ERs (K : PySem.W.Frag) (ev : EvEs) (ta : TA) : Prop := ∀ (σ τ : List (Option V)) (G H : Hp) (os θ : En) (f : FP) (rs : List RV) (os' : En) (Q : List V → Hp → Prop),
  σ.length = os.length → τ.length = θ.length → SI K G H (σ ++ τ) (os ++ θ) f → ev os = some (rs, os') → (∀ vs H', Kont K σ τ G H f os' θ vs rs H' → Q vs H') → ta σ H Q
def TR (K : PySem.W.Frag) (ev : EvT) (tt : TT) : Prop := ∀ (σ τ : List (Option V)) (G H : Hp) (os θ : En) (f : FP) (b : Bool) (os' : En) (Q : Bool → Hp → Prop),
  σ.length = os.length → τ.length = θ.length → SI K G H (σ ++ τ) (os ++ θ) f → ev os = some (b, os') → (∀ H', KontT K σ τ G H f os' θ H' → Q b H') → tt σ H Q
def SE (X : Cx) (ev : EvE) (e : Expr) : Prop := ∃ te, PE X e te ∧ ER X.K ev te
def SEs (X : Cx) (ev : EvEs) (es : List Expr) : Prop := ∃ ta, PA X es ta ∧ ERs X.K ev ta
def STt (X : Cx) (ev : EvT) (e : Expr) : Prop := ∃ tt, PT X e tt ∧ TR X.K ev tt

section
variable {K : PySem.W.Frag} {σ τ : List (Option V)} {G H H' : Hp} {f : FP} {os os' θ : En} {vs : List V} {rs : List RV}
theorem Kont.drop (ht : τ.length = θ.length) (k : Kont K σ τ G H f os' θ vs rs H') : KontT K σ τ G H f os' θ H' := by
  obtain ⟨G', f', I, s, _, l⟩ := k
  rw [← List.append_assoc, ← List.append_assoc] at I
  obtain ⟨g, k, h1, _, h3⟩ := SL.cut (by simp [l, ht]) I.sl
  exact ⟨G', g, I.forget h1 fun a => by rw [h3]; omega, s.trans (Stp.less fun a => by rw [h3]; omega), l⟩
theorem KontT.kont (k : KontT K σ τ G H f os' θ H') : Kont K σ τ G H f os' θ [] [] H' := by
  obtain ⟨G', f', I, s, l⟩ := k
  exact ⟨G', f', by simpa using I, s, .nil, l⟩
theorem Kont.step {G0 H0 : Hp} {f0 : FP} (s0 : Stp G0 H0 f0 G H f) (k : Kont K σ τ G H f os' θ vs rs H') : Kont K σ τ G0 H0 f0 os' θ vs rs H' := by
  obtain ⟨G', f', I, s, a, l⟩ := k
  exact ⟨G', f', I, s0.trans s, a, l⟩
theorem KontT.step {G0 H0 : Hp} {f0 : FP} (s0 : Stp G0 H0 f0 G H f) (k : KontT K σ τ G H f os' θ H') : KontT K σ τ G0 H0 f0 os' θ H' := by
  obtain ⟨G', f', I, s, l⟩ := k
  exact ⟨G', f', I, s0.trans s, l⟩
end

/-! ### argument lists -/
def esNil : EvEs := fun os => some ([], os)
def esCons (ea : EvE) (er : EvEs) : EvEs := fun os => match ea os with
  | some (r, os1) => match er os1 with
    | some (rs, os2) => some (r :: rs, os2)
    | none => none
  | none => none
section
variable {K : PySem.W.Frag} {X : Cx}
theorem ers_nil : ERs K esNil tNil := fun σ τ G H os θ f rs os' Q hl ht I e k => by
  cases e
  exact k [] H (KontT.kont ⟨G, f, I, Stp.refl _ _ _, hl⟩)
theorem ers_cons {ea : EvE} {er : EvEs} {te : TE} {ta : TA} (ha : ER K ea te) (hr : ERs K er ta) : ERs K (esCons ea er) (tCons te ta) := fun σ τ G H os θ f rs os' Q hl ht I e k => by
  unfold esCons at e
  split at e
  · rename_i r os1 e1
    split at e
    · rename_i rs' os2 e2
      cases e
      refine ha σ τ G H os θ f r os1 _ hl ht I e1 fun v H1 k1 => ?_
      obtain ⟨G1, f1, I1, s1, a1, l1⟩ := k1
      refine hr σ (τ ++ [some v]) G1 H1 os1 (θ ++ [r.od]) f1 rs' os' _ l1 (by simp [ht]) I1 e2 fun vs H2 k2 => ?_
      obtain ⟨G2, f2, I2, s2, a2, l2⟩ := k2
      refine k (v :: vs) H2 ⟨G2, f2, ?_, s1.trans s2, ?_, l2⟩
      · simpa [List.append_assoc] using I2
      · cases a1 with
        | cons a _ => exact .cons a a2
    · cases e
  · cases e
theorem ss_nil : SEs X esNil [] := ⟨_, pa_nil, ers_nil⟩
theorem ss_cons {e : Expr} {es : List Expr} {ea : EvE} {er : EvEs} (ha : SE X ea e) (hr : SEs X er es) (hs : starEach (e :: es) X.env = (false, eval e X.env) :: starEach es X.env := by rfl) : SEs X (esCons ea er) (e :: es) := by
  obtain ⟨te, p, h⟩ := ha
  obtain ⟨ta, q, g⟩ := hr
  exact ⟨_, pa_cons p q hs, ers_cons h g⟩

/-! ### names, constants -/
def eVar (i : Nat) : EvE := fun os => match os[i]? with
  | some (some _) => some (.al i, os)
  | _ => none
def eC (d : PyData) : EvE := fun os => some (.tm (.sh d), os)
theorem er_var {i : Nat} : ER K (eVar i) (tVar i) := fun σ τ G H os θ f r os' Q hl ht I e k => by
  unfold eVar at e
  split at e
  · rename_i o e1
    cases e
    obtain ⟨v, h1, _⟩ := I.slotW hl i o e1
    exact ⟨v, h1, k v H ⟨G, f, by
      have := I.pushN (some v)
      simpa [List.append_assoc, RV.od] using this, Stp.refl _ _ _, .cons h1 .nil, hl⟩⟩
  · cases e
theorem se_var (i : Nat) {x : Str} {pos : Pos} (hN : X.N[i]? = some x := by rfl) (hv : Vis X.env.scope x := by first | exact Or.inl rfl | exact Or.inr (Or.inl rfl) | exact Or.inr (Or.inr rfl)) (hd : (x == ("__debug__" : Str)) = false := by decide)
    (hcd : (x == ("__classdict__" : Str)) = false := by decide) : SE X (eVar i) (.Name x pos) := ⟨_, pe_var hN hv hd hcd, er_var⟩
theorem Kont.sh {σ τ : List (Option V)} {G H : Hp} {os θ : En} {f : FP} (hl : σ.length = os.length) (I : SI K G H (σ ++ τ) (os ++ θ) f) {v : V} {d : PyData} (h : Dx K G v d) : Kont K σ τ G H f os θ [v] [.tm (.sh d)] H :=
  ⟨G, f, by simpa [List.append_assoc, RV.od] using I.push h, Stp.refl _ _ _, .cons trivial .nil, hl⟩
theorem er_c {v : V} {d : PyData} (h : ∀ G : Hp, Dx K G v d) : ER K (eC d) (tC v) := fun σ τ G H os θ f r os' Q hl ht I e k => by
  cases e
  exact k v H (Kont.sh hl I (h G))
theorem se_int {i : Int} {j pos} : SE X (eC (.int i)) (.Constant (.int i) j pos) := ⟨_, pe_int, er_c fun _ => .int i⟩
theorem se_str {x : Str} {j pos} (h : x.length ≤ strMax := by decide +kernel) : SE X (eC (.str x)) (.Constant (.str x) j pos) := ⟨_, pe_str, er_c fun _ => .str x h⟩
theorem se_bl {b : Bool} {j pos} : SE X (eC (.bool b)) (.Constant (.bool b) j pos) := ⟨_, pe_bl, er_c fun _ => .bl b⟩
theorem se_non {j pos} : SE X (eC .none) (.Constant .none j pos) := ⟨_, pe_non, er_c fun _ => .non⟩
/-- a constant of the module -/
theorem se_globI {x : Str} {i : Int} {t : Tok} {pos : Pos} (hm : X.mg x = some (.int i t)) (hg : Gl X x := by rfl) (hd : (x == ("__debug__" : Str)) = false := by decide) : SE X (eC (.int i)) (.Name x pos) :=
  ⟨_, pe_glob (v := .int i) hg hm ⟨t, rfl⟩ hd, er_c fun _ => .int i⟩
theorem se_globS {x : Str} {z : Str} {t : Tok} {pos : Pos} (hm : X.mg x = some (.str z t)) (h : z.length ≤ strMax := by decide +kernel) (hg : Gl X x := by rfl) (hd : (x == ("__debug__" : Str)) = false := by decide) : SE X (eC (.str z)) (.Name x pos) :=
  ⟨_, pe_glob (v := .str z) hg hm ⟨t, rfl⟩ hd, er_c fun _ => .str z h⟩

/-! ### operations -/
structure OpOk (K : PySem.W.Frag) (r : List V → Hp → VK → Prop) (fn : List PyData → Option Op) : Prop where
  sc : ∀ ds d H vs Q, fn ds = some (.val d) → isSc d = true → DxAll K H vs ds → (∀ v, Dx K H v d → Q v H) → r vs H Q
  el : ∀ ds d G H vs Q, fn ds = some (.val d) → isSc d = false → Sub G H → DpWs K G H vs ds → (∀ v, Dx K G v d → Q v H) → r vs H Q
  nl : ∀ ds es G H vs Q, fn ds = some (.nl es) → Sub G H → DpWs K G H vs ds → (∀ ws p, DxAll K G ws es → H p = none → Q (.ref p) (upd H p (.lst ws))) → r vs H Q
  nt : ∀ ds es G H vs Q, fn ds = some (.nt es) → Sub G H → DpWs K G H vs ds → (∀ ws p, DxAll K G ws es → H p = none → Q (.ref p) (upd H p (.tup ws))) → r vs H Q
theorem OpOk.ofSc {r : List V → Hp → VK → Prop} {fn : List PyData → Option Op} (h : ∀ ds res, fn ds = some res → ∃ d, res = .val d ∧ isSc d = true)
    (sc : ∀ ds d H vs Q, fn ds = some (.val d) → DxAll K H vs ds → (∀ v, Dx K H v d → Q v H) → r vs H Q) : OpOk K r fn where
  sc := fun ds d H vs Q e _ hd k => sc ds d H vs Q e hd k
  el := fun ds d G H vs Q e z _ _ _ => by
    obtain ⟨d', q1, q2⟩ := h ds _ e
    cases q1; rw [z] at q2; cases q2
  nl := fun ds es G H vs Q e _ _ _ => by
    obtain ⟨d', q1, q2⟩ := h ds _ e
    cases q1
  nt := fun ds es G H vs Q e _ _ _ => by
    obtain ⟨d', q1, q2⟩ := h ds _ e
    cases q1
def opOut (os : En) (rs : List RV) : Op → RV × En
  | .val d => if isSc d then (.tm (.sh d), os) else (.tm (.sh d), softAll os rs)
  | .nl es => (.tm (.lst (es.map OD.sh)), softAll os rs)
  | .nt es => (.tm (.sh (.tuple es)), softAll os rs)
def eOp (fn : List PyData → Option Op) (es : EvEs) : EvE := fun os => match es os with
  | some (rs, os1) => match rdAll os1 rs with
    | some ds => match fn ds with
      | some res => some (opOut os1 rs res)
      | none => none
    | none => none
  | none => none
theorem er_op {fn : List PyData → Option Op} {ev : EvEs} {ta : TA} {r : List V → Hp → VK → Prop} (ha : ERs K ev ta) (ok : OpOk K r fn) : ER K (eOp fn ev) (fun σ H Q => ta σ H fun vs H1 => r vs H1 Q) := fun σ τ G H os θ f r' os' Q hl ht I e k => by
  unfold eOp at e
  split at e
  · rename_i rs os1 e1
    split at e
    · rename_i ds e2
      split at e
      · rename_i res e3
        have e : opOut os1 rs res = (r', os') := Option.some.inj e
        refine ha σ τ G H os θ f rs os1 _ hl ht I e1 fun vs H1 k1 => ?_
        obtain ⟨G1, f1, I1, s1, a1, l1⟩ := k1
        cases res with
        | val d =>
          simp only [opOut] at e
          cases hc : isSc d with
          | true =>
            rw [hc, if_pos rfl] at e
            cases e
            obtain ⟨hd, f2, I2, le⟩ := I1.popA l1 ht a1 e2
            refine ok.sc ds d H1 vs Q e3 hc hd fun v hv => k v H1 (Kont.step (s1.trans (Stp.less le)) (Kont.sh l1 I2 (dp_sc hv hc)))
          | false =>
            rw [hc, if_neg Bool.false_ne_true] at e
            cases e
            obtain ⟨G2, f2, I2, s2, hd⟩ := I1.popB l1 ht a1 e2
            refine ok.el ds d G2 H1 vs Q e3 hc I2.sub hd fun v hv => k v H1 (Kont.step (s1.trans s2) (Kont.sh (by rw [len_softAll]; exact l1) I2 hv))
        | nl es =>
          cases e
          obtain ⟨G2, f2, I2, s2, hd⟩ := I1.popB l1 ht a1 e2
          refine ok.nl ds es G2 H1 vs Q e3 I2.sub hd fun ws p hw hp => ?_
          obtain ⟨f3, I3, s3⟩ := I2.pushNew hw hp
          exact k _ _ ⟨G2, f3, by simpa [List.append_assoc, RV.od] using I3, (s1.trans s2).trans s3, .cons trivial .nil, by rw [len_softAll]; exact l1⟩
        | nt es =>
          cases e
          obtain ⟨G2, f2, I2, s2, hd⟩ := I1.popB l1 ht a1 e2
          refine ok.nt ds es G2 H1 vs Q e3 I2.sub hd fun ws p hw hp => ?_
          obtain ⟨I3, s3⟩ := I2.pushTup hw hp
          exact k _ _ ⟨_, f2, by simpa [List.append_assoc, RV.od] using I3, (s1.trans s2).trans s3, .cons trivial .nil, by rw [len_softAll]; exact l1⟩
      · cases e
    · cases e
  · cases e
/-- a two-place, a one-place reading over an argument list -/
def r2 (r : R2) : List V → Hp → VK → Prop := fun vs H Q => match vs with
  | [x, y] => r x y H Q
  | _ => False
def r1 (r : V → Hp → VK → Prop) : List V → Hp → VK → Prop := fun vs H Q => match vs with
  | [x] => r x H Q
  | _ => False
abbrev es2 (ea eb : EvE) : EvEs := esCons ea (esCons eb esNil)
abbrev es1 (ea : EvE) : EvEs := esCons ea esNil
theorem er_op2 {fn : List PyData → Option Op} {ea eb : EvE} {ta tb : TE} {r : R2} (ha : ER K ea ta) (hb : ER K eb tb) (ok : OpOk K (r2 r) fn) : ER K (eOp fn (es2 ea eb)) (tOp r ta tb) :=
  er_op (ers_cons ha (ers_cons hb ers_nil)) ok
theorem er_op1 {fn : List PyData → Option Op} {ea : EvE} {ta : TE} {r : V → Hp → VK → Prop} (ha : ER K ea ta) (ok : OpOk K (r1 r) fn) : ER K (eOp fn (es1 ea)) (tUn r ta) :=
  er_op (ers_cons ha ers_nil) ok

/-! ### truth -/
def trD : PyData → Option Bool
  | .none => some false
  | .bool b => some b
  | .int i => some (i != 0)
  | .str y => some ((y.length : Int) != 0)
  | .list xs => some (!xs.isEmpty)
  | .tuple xs => some (!xs.isEmpty)
  | .dict _ => none
theorem emp_dps {vs : List V} {ds : List PyData} (h : DxAll K H vs ds) : (!ds.isEmpty) = !vs.isEmpty := by cases h <;> rfl
theorem tru_of {v : V} {d : PyData} {b : Bool} (h : Dx K H v d) (e : trD d = some b) : TruV K v H b := by
  cases h with
  | non => cases e; rfl
  | bl c => cases e; rfl
  | int i => cases e; rfl
  | str x h => cases e; exact ⟨strMax_le' h, rfl⟩
  | lst q r => cases e; exact .inl ⟨_, q, emp_dps r⟩
  | tup q r => cases e; exact .inr (.inl ⟨_, q, emp_dps r⟩)
  | exc _ _ => cases e
  | exf _ _ => cases e
def tTru (ev : EvE) : EvT := fun os => match ev os with
  | some (r, os1) => match r.rd os1 with
    | some d => match trD d with
      | some b => some (b, os1)
      | none => none
    | none => none
  | none => none
def tBl (ev : EvE) : EvT := fun os => match ev os with
  | some (r, os1) => match r.rd os1 with
    | some (.bool b) => some (b, os1)
    | _ => none
  | none => none
theorem Kont.read1 {σ τ : List (Option V)} {G H H' : Hp} {f : FP} {os' θ : En} {v : V} {r : RV} {d : PyData} (ht : τ.length = θ.length) (k : Kont K σ τ G H f os' θ [v] [r] H') (e : r.rd os' = some d) : Dx K H' v d := by
  obtain ⟨G', f', I, s, a, l⟩ := k
  have : rdAll os' [r] = some [d] := by simp [rdAll, e]
  obtain ⟨h, _⟩ := I.popA l ht a this
  cases h with
  | cons h _ => exact h
theorem tr_truth {ev : EvE} {te : TE} (h : ER K ev te) : TR K (tTru ev) (fun σ H Q => te σ H fun x H' => ∃ k, TruV K x H' k ∧ Q k H') := fun σ τ G H os θ f b os' Q hl ht I e k => by
  unfold tTru at e
  split at e
  · rename_i r os1 e1
    split at e
    · rename_i d e2
      split at e
      · rename_i b' e3
        cases e
        refine h σ τ G H os θ f r os' _ hl ht I e1 fun v H1 k1 => ?_
        exact ⟨b, tru_of (k1.read1 ht e2) e3, k H1 (k1.drop ht)⟩
      · cases e
    · cases e
  · cases e
theorem tr_bl {ev : EvE} {te : TE} (h : ER K ev te) : TR K (tBl ev) (fun σ H Q => te σ H fun x H' => ∃ k, x = .bl k ∧ Q k H') := fun σ τ G H os θ f b os' Q hl ht I e k => by
  unfold tBl at e
  split at e
  · rename_i r os1 e1
    split at e
    · rename_i b' e2
      cases e
      refine h σ τ G H os θ f r os' _ hl ht I e1 fun v H1 k1 => ?_
      have := k1.read1 ht e2
      cases this
      exact ⟨b, rfl, k H1 (k1.drop ht)⟩
    · cases e
  · cases e
def tAndD (a b : EvT) : EvT := fun os => match a os with
  | some (true, os1) => b os1
  | some (false, os1) => some (false, os1)
  | none => none
def tOrD (a b : EvT) : EvT := fun os => match a os with
  | some (true, os1) => some (true, os1)
  | some (false, os1) => b os1
  | none => none
def tNotD (a : EvT) : EvT := fun os => match a os with
  | some (c, os1) => some (!c, os1)
  | none => none
theorem tr_and {a b : EvT} {ta tb : TT} (ha : TR K a ta) (hb : TR K b tb) : TR K (tAndD a b) (tAnd ta tb) := fun σ τ G H os θ f c os' Q hl ht I e k => by
  unfold tAndD at e
  split at e
  · rename_i os1 e1
    refine ha σ τ G H os θ f true os1 _ hl ht I e1 fun H1 k1 => ?_
    obtain ⟨G1, f1, I1, s1, l1⟩ := k1
    rw [if_pos rfl]
    exact hb σ τ G1 H1 os1 θ f1 c os' _ l1 ht I1 e fun H2 k2 => k H2 (k2.step s1)
  · rename_i os1 e1
    cases e
    refine ha σ τ G H os θ f false os' _ hl ht I e1 fun H1 k1 => ?_
    rw [if_neg Bool.false_ne_true]
    exact k H1 k1
  · cases e
theorem tr_or {a b : EvT} {ta tb : TT} (ha : TR K a ta) (hb : TR K b tb) : TR K (tOrD a b) (tOr ta tb) := fun σ τ G H os θ f c os' Q hl ht I e k => by
  unfold tOrD at e
  split at e
  · rename_i os1 e1
    cases e
    refine ha σ τ G H os θ f true os' _ hl ht I e1 fun H1 k1 => ?_
    rw [if_pos rfl]
    exact k H1 k1
  · rename_i os1 e1
    refine ha σ τ G H os θ f false os1 _ hl ht I e1 fun H1 k1 => ?_
    obtain ⟨G1, f1, I1, s1, l1⟩ := k1
    rw [if_neg Bool.false_ne_true]
    exact hb σ τ G1 H1 os1 θ f1 c os' _ l1 ht I1 e fun H2 k2 => k H2 (k2.step s1)
  · cases e
theorem tr_not {a : EvT} {ta : TT} (ha : TR K a ta) : TR K (tNotD a) (tNot ta) := fun σ τ G H os θ f c os' Q hl ht I e k => by
  unfold tNotD at e
  split at e
  · rename_i c1 os1 e1
    cases e
    exact ha σ τ G H os θ f c1 os' _ hl ht I e1 fun H1 k1 => k H1 k1
  · cases e
/-- a test whatever its whole is -/
def STw (X : Cx) (ev : EvT) (e : Expr) : Prop := ∃ tt, PW X e tt ∧ TR X.K ev tt
theorem STw.t {ev : EvT} {e : Expr} (h : STw X ev e) : STt X ev e := by
  obtain ⟨tt, p, q⟩ := h
  exact ⟨tt, p.pt, q⟩
theorem st_and1 {a : Expr} {ea : EvT} {pos : Pos} (h : STt X ea a) : STw X ea (.BoolOp .And [a] pos) := by
  obtain ⟨tt, p, q⟩ := h
  exact ⟨tt, pw_and1 p, q⟩
theorem st_or1 {a : Expr} {ea : EvT} {pos : Pos} (h : STt X ea a) : STw X ea (.BoolOp .Or [a] pos) := by
  obtain ⟨tt, p, q⟩ := h
  exact ⟨tt, pw_or1 p, q⟩
theorem st_and {a b : Expr} {rest : List Expr} {ea eb : EvT} {pos : Pos} (h : STt X ea a) (g : STw X eb (.BoolOp .And (b :: rest) pos)) : STw X (tAndD ea eb) (.BoolOp .And (a :: b :: rest) pos) := by
  obtain ⟨tt, p, q⟩ := h
  obtain ⟨tu, p', q'⟩ := g
  exact ⟨_, pw_and p p', tr_and q q'⟩
theorem st_or {a b : Expr} {rest : List Expr} {ea eb : EvT} {pos : Pos} (h : STt X ea a) (g : STw X eb (.BoolOp .Or (b :: rest) pos)) : STw X (tOrD ea eb) (.BoolOp .Or (a :: b :: rest) pos) := by
  obtain ⟨tt, p, q⟩ := h
  obtain ⟨tu, p', q'⟩ := g
  exact ⟨_, pw_or p p', tr_or q q'⟩
theorem st_not {a : Expr} {ea : EvT} {pos : Pos} (h : STt X ea a) : STt X (tNotD ea) (.UnaryOp .Not a pos) := by
  obtain ⟨tt, p, q⟩ := h
  exact ⟨_, pt_not p, tr_not q⟩
/-- any expression as a test -/
theorem st_tru {a : Expr} {ea : EvE} (h : SE X ea a) (he : ∀ whole, isTrue a X.env whole = (do let v ← whole; standAt a.pos; holding [v] (truthy v)) := by intro _; rfl) : STt X (tTru ea) a := by
  obtain ⟨te, p, q⟩ := h
  exact ⟨_, pt_truth p he, tr_truth q⟩

/-! ### and, or, not, if as values -/
def eAnd (a b : EvE) : EvE := fun os => match a os with
  | some (r, os1) => match r.rd os1 with
    | some d => match trD d with
      | some true => b os1
      | some false => some (r, os1)
      | none => none
    | none => none
  | none => none
def eOr (a b : EvE) : EvE := fun os => match a os with
  | some (r, os1) => match r.rd os1 with
    | some d => match trD d with
      | some true => some (r, os1)
      | some false => b os1
      | none => none
    | none => none
  | none => none
def eNot (a : EvE) : EvE := fun os => match a os with
  | some (r, os1) => match r.rd os1 with
    | some d => match trD d with
      | some c => some (.tm (.sh (.bool (!c))), os1)
      | none => none
    | none => none
  | none => none
def eIf (t : EvT) (a b : EvE) : EvE := fun os => match t os with
  | some (true, os1) => a os1
  | some (false, os1) => b os1
  | none => none
theorem er_and {a b : EvE} {ta tb : TE} (ha : ER K a ta) (hb : ER K b tb) : ER K (eAnd a b) (tAndT K ta tb) := fun σ τ G H os θ f r os' Q hl ht I e k => by
  unfold eAnd at e
  split at e
  · rename_i r1 os1 e1
    split at e
    · rename_i d e2
      refine ha σ τ G H os θ f r1 os1 _ hl ht I e1 fun v H1 k1 => ?_
      split at e
      · rename_i e3
        obtain ⟨G1, f1, I1, s1, l1⟩ := k1.drop ht
        refine ⟨true, tru_of (k1.read1 ht e2) e3, ?_⟩
        rw [if_pos rfl]
        exact hb σ τ G1 H1 os1 θ f1 r os' _ l1 ht I1 e fun v2 H2 k2 => k v2 H2 (k2.step s1)
      · rename_i e3
        cases e
        refine ⟨false, tru_of (k1.read1 ht e2) e3, ?_⟩
        rw [if_neg Bool.false_ne_true]
        exact k v H1 k1
      · cases e
    · cases e
  · cases e
theorem er_or {a b : EvE} {ta tb : TE} (ha : ER K a ta) (hb : ER K b tb) : ER K (eOr a b) (tOrT K ta tb) := fun σ τ G H os θ f r os' Q hl ht I e k => by
  unfold eOr at e
  split at e
  · rename_i r1 os1 e1
    split at e
    · rename_i d e2
      refine ha σ τ G H os θ f r1 os1 _ hl ht I e1 fun v H1 k1 => ?_
      split at e
      · rename_i e3
        cases e
        refine ⟨true, tru_of (k1.read1 ht e2) e3, ?_⟩
        rw [if_pos rfl]
        exact k v H1 k1
      · rename_i e3
        obtain ⟨G1, f1, I1, s1, l1⟩ := k1.drop ht
        refine ⟨false, tru_of (k1.read1 ht e2) e3, ?_⟩
        rw [if_neg Bool.false_ne_true]
        exact hb σ τ G1 H1 os1 θ f1 r os' _ l1 ht I1 e fun v2 H2 k2 => k v2 H2 (k2.step s1)
      · cases e
    · cases e
  · cases e
theorem er_not {a : EvE} {ta : TE} (ha : ER K a ta) : ER K (eNot a) (tNotT K ta) := fun σ τ G H os θ f r os' Q hl ht I e k => by
  unfold eNot at e
  split at e
  · rename_i r1 os1 e1
    split at e
    · rename_i d e2
      split at e
      · rename_i c e3
        cases e
        refine ha σ τ G H os θ f r1 os' _ hl ht I e1 fun v H1 k1 => ?_
        obtain ⟨G1, f1, I1, s1, l1⟩ := k1.drop ht
        exact ⟨c, tru_of (k1.read1 ht e2) e3, k _ H1 ((Kont.sh l1 I1 (.bl (!c))).step s1)⟩
      · cases e
    · cases e
  · cases e
theorem er_if {t : EvT} {a b : EvE} {tt : TT} {ta tb : TE} (h : TR K t tt) (ha : ER K a ta) (hb : ER K b tb) : ER K (eIf t a b) (tIf tt ta tb) := fun σ τ G H os θ f r os' Q hl ht I e k => by
  unfold eIf at e
  split at e
  · rename_i os1 e1
    refine h σ τ G H os θ f true os1 _ hl ht I e1 fun H1 k1 => ?_
    obtain ⟨G1, f1, I1, s1, l1⟩ := k1
    rw [if_pos rfl]
    exact ha σ τ G1 H1 os1 θ f1 r os' _ l1 ht I1 e fun v H2 k2 => k v H2 (k2.step s1)
  · rename_i os1 e1
    refine h σ τ G H os θ f false os1 _ hl ht I e1 fun H1 k1 => ?_
    obtain ⟨G1, f1, I1, s1, l1⟩ := k1
    rw [if_neg Bool.false_ne_true]
    exact hb σ τ G1 H1 os1 θ f1 r os' _ l1 ht I1 e fun v H2 k2 => k v H2 (k2.step s1)
  · cases e
theorem se_one {op : BoolOp} {a : Expr} {ea : EvE} {pos : Pos} (h : SE X ea a) : SE X ea (.BoolOp op [a] pos) := by
  obtain ⟨te, p, q⟩ := h
  exact ⟨te, pe_one p, q⟩
theorem se_and {a b : Expr} {rest : List Expr} {ea eb : EvE} {pos : Pos} (h : SE X ea a) (g : SE X eb (.BoolOp .And (b :: rest) pos)) : SE X (eAnd ea eb) (.BoolOp .And (a :: b :: rest) pos) := by
  obtain ⟨te, p, q⟩ := h
  obtain ⟨tu, p', q'⟩ := g
  exact ⟨_, pe_andT p p', er_and q q'⟩
theorem se_or {a b : Expr} {rest : List Expr} {ea eb : EvE} {pos : Pos} (h : SE X ea a) (g : SE X eb (.BoolOp .Or (b :: rest) pos)) : SE X (eOr ea eb) (.BoolOp .Or (a :: b :: rest) pos) := by
  obtain ⟨te, p, q⟩ := h
  obtain ⟨tu, p', q'⟩ := g
  exact ⟨_, pe_orT p p', er_or q q'⟩
theorem se_not {a : Expr} {ea : EvE} {pos : Pos} (h : SE X ea a) : SE X (eNot ea) (.UnaryOp .Not a pos) := by
  obtain ⟨te, p, q⟩ := h
  exact ⟨_, pe_notT p, er_not q⟩
theorem se_if {c a b : Expr} {et : EvT} {ea eb : EvE} {pos : Pos} (h : STt X et c) (ha : SE X ea a) (hb : SE X eb b) : SE X (eIf et ea eb) (.IfExp c a b pos) := by
  obtain ⟨tt, p, q⟩ := h
  obtain ⟨ta, p1, q1⟩ := ha
  obtain ⟨tb, p2, q2⟩ := hb
  exact ⟨_, pe_ifExp p p1 p2, er_if q q1 q2⟩
end
end DX
/-! DXOps: the operations. -/
namespace DX
open PySem PySem.Spec PyProof.Rows L2

section
variable {K : PySem.W.Frag} {X : Cx}
theorem dps1 {H : Hp} {vs : List V} {d : PyData} (h : DxAll K H vs [d]) : ∃ v, vs = [v] ∧ Dx K H v d := by
  cases h with
  | cons a r => cases r; exact ⟨_, rfl, a⟩
theorem dps2 {H : Hp} {vs : List V} {d e : PyData} (h : DxAll K H vs [d, e]) : ∃ v w, vs = [v, w] ∧ Dx K H v d ∧ Dx K H w e := by
  cases h with
  | cons a r =>
    obtain ⟨w, rfl, b⟩ := dps1 r
    exact ⟨_, w, rfl, a, b⟩
theorem dps3 {H : Hp} {vs : List V} {d e c : PyData} (h : DxAll K H vs [d, e, c]) : ∃ v w u, vs = [v, w, u] ∧ Dx K H v d ∧ Dx K H w e ∧ Dx K H u c := by
  cases h with
  | cons a r =>
    obtain ⟨w, u, rfl, b, c⟩ := dps2 r
    exact ⟨_, w, u, rfl, a, b, c⟩
theorem dws1 {G H : Hp} {vs : List V} {d : PyData} (h : DpWs K G H vs [d]) : ∃ v, vs = [v] ∧ DpW K G H v d := by
  cases h with
  | cons a r => cases r; exact ⟨_, rfl, a⟩
theorem dws2 {G H : Hp} {vs : List V} {d e : PyData} (h : DpWs K G H vs [d, e]) : ∃ v w, vs = [v, w] ∧ DpW K G H v d ∧ DpW K G H w e := by
  cases h with
  | cons a r =>
    obtain ⟨w, rfl, b⟩ := dws1 r
    exact ⟨_, w, rfl, a, b⟩
theorem dws3 {G H : Hp} {vs : List V} {d e c : PyData} (h : DpWs K G H vs [d, e, c]) : ∃ v w u, vs = [v, w, u] ∧ DpW K G H v d ∧ DpW K G H w e ∧ DpW K G H u c := by
  cases h with
  | cons a r =>
    obtain ⟨w, u, rfl, b, c⟩ := dws2 r
    exact ⟨_, w, u, rfl, a, b, c⟩
/-- a list operand: where it stands, its items in G -/
theorem DpW.list {G H : Hp} (s : Sub G H) {v : V} {ds : List PyData} (h : DpW K G H v (.list ds)) : ∃ p vs, v = .ref p ∧ SqL K H p vs ∧ DxAll K G vs ds := by
  cases h with
  | sh h => cases h with
    | lst q r => exact ⟨_, _, rfl, sqL_sub s q, r⟩
  | own h r => exact ⟨_, _, rfl, .inl (.inl h), r⟩
theorem DpW.tuple {G H : Hp} (s : Sub G H) {v : V} {ds : List PyData} (h : DpW K G H v (.tuple ds)) : ∃ p vs, v = .ref p ∧ SqT K H p vs ∧ SqT K G p vs ∧ DxAll K G vs ds := by
  cases h with
  | sh h => cases h with
    | tup q r => exact ⟨_, _, rfl, sqT_sub s q, q, r⟩
theorem dps_drop {H : Hp} : ∀ (n : Nat) {vs : List V} {ds : List PyData}, DxAll K H vs ds → DxAll K H (vs.drop n) (ds.drop n)
  | 0, _, _, h => h
  | _ + 1, _, _, .nil => .nil
  | n + 1, _, _, .cons _ r => dps_drop n r
theorem dps_take {H : Hp} : ∀ (n : Nat) {vs : List V} {ds : List PyData}, DxAll K H vs ds → DxAll K H (vs.take n) (ds.take n)
  | 0, _, _, _ => .nil
  | _ + 1, _, _, .nil => .nil
  | n + 1, _, _, .cons a r => .cons a (dps_take n r)

/-! ### + - * // % ** -/
def opAdd : List PyData → Option Op
  | [.int i, .int j] => some (.val (.int (i + j)))
  | [.str a, .str b] => if a.length + b.length ≤ strMax then some (.val (.str (a ++ b))) else none
  | [.list a, .list b] => if a.length + b.length ≤ sizeLine then some (.nl (a ++ b)) else none
  | _ => none
def rCatR (K : PySem.W.Frag) : R2 := fun x y H Q => ∃ l b xs zs, x = .ref l ∧ y = .ref b ∧ SqL K H l xs ∧ SqL K H b zs ∧ xs.length + zs.length ≤ sizeLine ∧ ∀ p, H p = none → Q (.ref p) (upd H p (.lst (xs ++ zs)))
theorem op_catR : OpR X (binaryOp .Add) (rCatR X.K) := by
  intro pins s σ H x y v u Q I rx ry h
  obtain ⟨l, b, xs, zs, rfl, rfl, hH, hB, hz, q⟩ := h
  cases rx; cases ry
  obtain ⟨its, r, ⟨⟨cl, dd, da, sl⟩, n, ho, hc, _, hd⟩, z⟩ := I.list hH
  obtain ⟨its2, r2, ⟨⟨cl2, dd2, da2, sl2⟩, n2, ho2, hc2, _, hd2⟩, z2⟩ := I.list hB
  simp only at hc hd hc2 hd2
  subst hc hd hc2 hd2
  have hl := r.length
  have hl2 := r2.length
  refine concat_meets ⟨_, ho, rfl⟩ ⟨_, ho2, rfl⟩ noFill_list_add seq_list_add PySem.F.slot_list_add PySem.F.entry_list_add (PySem.F.args_list_add_2 _ _) (list_addW l b its.toArray its2.toArray n n2 dd dd2 sl sl2 (by rw [List.size_toArray, List.size_toArray]; omega)) ⟨ho, ho2, ?_⟩
  rw [show its.toArray ++ its2.toArray = (its ++ its2).toArray by simp]
  exact ⟨.ref _, _, I.lnew (t' := s.toks) (r.append r2) (by rw [List.length_append]; omega), rfl, q _ I.fresh⟩
def rAdd3 (K : PySem.W.Frag) : R2 := fun x y H Q => rI0 (fun i j => .int (i + j)) x y H Q ∨ (∃ i j, x = .str i ∧ y = .str j ∧ i.length + j.length ≤ sizeLine ∧ Q (.str (i ++ j)) H) ∨ rCatR K x y H Q
theorem ok_add : OpOk K (r2 (rAdd3 K)) opAdd where
  sc := fun ds d H vs Q e _ hd k => by
    unfold opAdd at e
    split at e
    · cases e
      obtain ⟨v, w, rfl, a, b⟩ := dps2 hd
      cases a; cases b
      exact .inl ⟨_, _, rfl, rfl, k _ (.int _)⟩
    · split at e
      · rename_i c
        cases e
        obtain ⟨v, w, rfl, a, b⟩ := dps2 hd
        cases a; cases b
        exact .inr (.inl ⟨_, _, rfl, rfl, strMax_le' c, k _ (.str _ (by rw [show ∀ a b : Str, (a ++ b).length = a.length + b.length from fun a b => Array.size_append ..]; exact c))⟩)
      · cases e
    · split at e <;> cases e
    · cases e
  el := fun ds d G H vs Q e z _ _ _ => by
    unfold opAdd at e
    split at e
    · cases e; cases z
    · split at e
      · cases e; cases z
      · cases e
    · split at e <;> cases e
    · cases e
  nl := fun ds es G H vs Q e s hd k => by
    unfold opAdd at e
    split at e
    · cases e
    · split at e <;> cases e
    · split at e
      · rename_i a b c
        cases e
        obtain ⟨v, w, rfl, q1, q2⟩ := dws2 hd
        obtain ⟨p1, v1, rfl, h1, d1⟩ := q1.list s
        obtain ⟨p2, v2, rfl, h2, d2⟩ := q2.list s
        refine .inr (.inr ⟨p1, p2, v1, v2, rfl, rfl, h1, h2, by rw [dps_len d1, dps_len d2]; exact c, fun p hp => k _ p (dps_app d1 d2) hp⟩)
      · cases e
    · cases e
  nt := fun ds es G H vs Q e _ _ _ => by
    unfold opAdd at e
    split at e
    · cases e
    · split at e <;> cases e
    · split at e <;> cases e
    · cases e
theorem se_add {a b : Expr} {ea eb : EvE} {pos : Pos} (ha : SE X ea a) (hb : SE X eb b) : SE X (eOp opAdd (es2 ea eb)) (.BinOp a .Add b pos) := by
  obtain ⟨ta, p1, q1⟩ := ha
  obtain ⟨tb, p2, q2⟩ := hb
  exact ⟨_, pe_op (op_add.or (op_add_str.or op_catR)) p1 p2, er_op2 q1 q2 ok_add⟩
/-- two ints in, a scalar out -/
def opII (c : Int → Int → Bool) (g : Int → Int → PyData) : List PyData → Option Op
  | [.int i, .int j] => if c i j = true then some (.val (g i j)) else none
  | _ => none
theorem ok_ii {C : Int → Int → Prop} {c : Int → Int → Bool} {g : Int → Int → PyData} {h : Int → Int → V} (hC : ∀ i j, c i j = true → C i j) (hs : ∀ i j, isSc (g i j) = true) (hg : ∀ (H : Hp) i j, Dx K H (h i j) (g i j)) :
    OpOk K (r2 (rI C h)) (opII c g) := .ofSc (fun ds res e => by
      unfold opII at e
      split at e
      · split at e
        · cases e; exact ⟨_, rfl, hs _ _⟩
        · cases e
      · cases e) fun ds d H vs Q e hd k => by
      unfold opII at e
      split at e
      · split at e
        · rename_i z
          cases e
          obtain ⟨v, w, rfl, a, b⟩ := dps2 hd
          cases a; cases b
          exact ⟨_, _, rfl, rfl, hC _ _ z, k _ (hg _ _ _)⟩
        · cases e
      · cases e
theorem ok_ii0 {g : Int → Int → PyData} {h : Int → Int → V} (hs : ∀ i j, isSc (g i j) = true) (hg : ∀ (H : Hp) i j, Dx K H (h i j) (g i j)) :
    OpOk K (r2 (rI0 h)) (opII (fun _ _ => true) g) := .ofSc (fun ds res e => by
      unfold opII at e
      split at e
      · rw [if_pos rfl] at e; cases e; exact ⟨_, rfl, hs _ _⟩
      · cases e) fun ds d H vs Q e hd k => by
      unfold opII at e
      split at e
      · rw [if_pos rfl] at e
        cases e
        obtain ⟨v, w, rfl, a, b⟩ := dps2 hd
        cases a; cases b
        exact ⟨_, _, rfl, rfl, k _ (hg _ _ _)⟩
      · cases e
theorem se_bin2 {op : Operator} {r : R2} {fn : List PyData → Option Op} (ho : OpR X (binaryOp op) r) (ok : OpOk X.K (r2 r) fn) {a b : Expr} {ea eb : EvE} {pos : Pos} (ha : SE X ea a) (hb : SE X eb b) : SE X (eOp fn (es2 ea eb)) (.BinOp a op b pos) := by
  obtain ⟨ta, p1, q1⟩ := ha
  obtain ⟨tb, p2, q2⟩ := hb
  exact ⟨_, pe_op ho p1 p2, er_op2 q1 q2 ok⟩
def opSub := opII (fun _ _ => true) fun i j => .int (i - j)
def mulFits (i j : Int) : Bool := decide (i.natAbs.log2 + j.natAbs.log2 < 1000000)
def opMul := opII mulFits fun i j => .int (i * j)
def divFits (_ j : Int) : Bool := decide (j ≠ 0 ∧ j.natAbs.log2 < 9000)
/-- floor division, whatever the divisor's sign -/
def divV (i j : Int) : Int := if 0 < j then i / j else Int.fdiv i j
theorem divV_pos {i j : Int} (h : 0 < j) : divV i j = i / j := if_pos h
theorem op_fdivA : OpR X (binaryOp .FloorDiv) (rI (fun _ j => j ≠ 0 ∧ j.natAbs.log2 < 9000) fun i j => .int (divV i j)) := opI fun i j _ _ _ _ _ hc q => by
  refine floordiv_int hc.1 ?_ (.inl (PyProof.noPylong_of_log2 hc.2))
  by_cases h : 0 < j
  · rw [divV_pos h] at q
    rw [Int.fdiv_eq_ediv_of_nonneg i (by omega)]; exact q
  · rw [show divV i j = Int.fdiv i j from if_neg h] at q
    exact q
def opDiv := opII divFits fun i j => .int (divV i j)
def opMod := opII (fun _ j => decide (0 < j)) fun i j => .int (i % j)
def powFits (i j : Int) : Bool := decide (0 ≤ j ∧ j ≤ 1000000 ∧ i.natAbs < 2 ^ 64)
def opPow := opII powFits fun i j => .int (i ^ j.toNat)
theorem se_sub {a b : Expr} {ea eb : EvE} {pos : Pos} (ha : SE X ea a) (hb : SE X eb b) : SE X (eOp opSub (es2 ea eb)) (.BinOp a .Sub b pos) := se_bin2 op_sub (ok_ii0 (fun _ _ => rfl) fun _ _ _ => .int _) ha hb
theorem se_mul {a b : Expr} {ea eb : EvE} {pos : Pos} (ha : SE X ea a) (hb : SE X eb b) : SE X (eOp opMul (es2 ea eb)) (.BinOp a .Mult b pos) := se_bin2 op_mulW (ok_ii (fun i j h => of_decide_eq_true (p := i.natAbs.log2 + j.natAbs.log2 < 1000000) h) (fun _ _ => rfl) fun _ _ _ => .int _) ha hb
theorem se_div {a b : Expr} {ea eb : EvE} {pos : Pos} (ha : SE X ea a) (hb : SE X eb b) : SE X (eOp opDiv (es2 ea eb)) (.BinOp a .FloorDiv b pos) := se_bin2 op_fdivA (ok_ii (fun i j h => of_decide_eq_true (p := j ≠ 0 ∧ j.natAbs.log2 < 9000) h) (fun _ _ => rfl) fun _ _ _ => .int _) ha hb
theorem se_mod {a b : Expr} {ea eb : EvE} {pos : Pos} (ha : SE X ea a) (hb : SE X eb b) : SE X (eOp opMod (es2 ea eb)) (.BinOp a .Mod b pos) := se_bin2 op_mod (ok_ii (fun _ _ h => of_decide_eq_true h) (fun _ _ => rfl) fun _ _ _ => .int _) ha hb
theorem se_pow {a b : Expr} {ea eb : EvE} {pos : Pos} (ha : SE X ea a) (hb : SE X eb b) : SE X (eOp opPow (es2 ea eb)) (.BinOp a .Pow b pos) := se_bin2 op_pow (ok_ii (fun i j h => of_decide_eq_true (p := 0 ≤ j ∧ j ≤ 1000000 ∧ i.natAbs < 2 ^ 64) h) (fun _ _ => rfl) fun _ _ _ => .int _) ha hb
def opNeg : List PyData → Option Op
  | [.int i] => some (.val (.int (-i)))
  | _ => none
theorem ok_neg : OpOk K (r1 (rU fun i => .int (-i))) opNeg := .ofSc (fun ds res e => by
    unfold opNeg at e
    split at e
    · cases e; exact ⟨_, rfl, rfl⟩
    · cases e) fun ds d H vs Q e hd k => by
    unfold opNeg at e
    split at e
    · cases e
      obtain ⟨v, rfl, a⟩ := dps1 hd
      cases a
      exact ⟨_, rfl, k _ (.int _)⟩
    · cases e
theorem se_neg {a : Expr} {ea : EvE} {pos : Pos} (ha : SE X ea a) : SE X (eOp opNeg (es1 ea)) (.UnaryOp .USub a pos) := by
  obtain ⟨ta, p1, q1⟩ := ha
  exact ⟨_, pe_un un_neg p1, er_op1 q1 ok_neg⟩

/-! ### comparisons -/
theorem se_cmp {op : CmpOp} {r : R2} {fn : List PyData → Option Op} (ho : OpR X (compareOp op) r) (ok : OpOk X.K (r2 r) fn) {a b : Expr} {ea eb : EvE} {pos : Pos} (ha : SE X ea a) (hb : SE X eb b) (hm : behindInMarks op b = false) : SE X (eOp fn (es2 ea eb)) (.Compare a [op] [b] pos) := by
  obtain ⟨ta, p1, q1⟩ := ha
  obtain ⟨tb, p2, q2⟩ := hb
  exact ⟨_, pe_cmpR ho p1 p2 hm, er_op2 q1 q2 ok⟩
theorem st_cmp {op : CmpOp} {r : R2} {fn : List PyData → Option Op} (ho : OpR X (compareOp op) r) (ok : OpOk X.K (r2 r) fn) {a b : Expr} {ea eb : EvE} {pos : Pos} (ha : SE X ea a) (hb : SE X eb b) (hm : behindInMarks op b = false) : STt X (tBl (eOp fn (es2 ea eb))) (.Compare a [op] [b] pos) := by
  obtain ⟨ta, p1, q1⟩ := ha
  obtain ⟨tb, p2, q2⟩ := hb
  exact ⟨_, pt_cmpR ho p1 p2 hm, tr_bl (er_op2 q1 q2 ok)⟩
/-- an order on ints, on texts -/
def opOrd (p : Int → Int → Bool) (q : Str → Str → Bool) : List PyData → Option Op
  | [.int i, .int j] => some (.val (.bool (p i j)))
  | [.str a, .str b] => some (.val (.bool (q a b)))
  | _ => none
def rOrd (p : Int → Int → Bool) (q : Str → Str → Bool) : R2 := fun x y H Q => rI0 (fun i j => .bl (p i j)) x y H Q ∨ ∃ i j, x = .str i ∧ y = .str j ∧ Q (.bl (q i j)) H
theorem ok_ord {p : Int → Int → Bool} {q : Str → Str → Bool} : OpOk K (r2 (rOrd p q)) (opOrd p q) := .ofSc (fun ds res e => by
    unfold opOrd at e
    split at e
    · cases e; exact ⟨_, rfl, rfl⟩
    · cases e; exact ⟨_, rfl, rfl⟩
    · cases e) fun ds d H vs Q e hd k => by
    unfold opOrd at e
    split at e
    · cases e
      obtain ⟨v, w, rfl, a, b⟩ := dps2 hd
      cases a; cases b
      exact .inl ⟨_, _, rfl, rfl, k _ (.bl _)⟩
    · cases e
      obtain ⟨v, w, rfl, a, b⟩ := dps2 hd
      cases a; cases b
      exact .inr ⟨_, _, rfl, rfl, k _ (.bl _)⟩
    · cases e
def strLt (a b : Str) : Bool := decide (a.cps.toList < b.cps.toList)
def opLt := opOrd (fun i j => decide (i < j)) strLt
def opLe := opOrd (fun i j => decide (i ≤ j)) fun a b => !strLt b a
def opGt := opOrd (fun i j => decide (j < i)) fun a b => strLt b a
def opGe := opOrd (fun i j => decide (j ≤ i)) fun a b => !strLt a b
def rLt' := rOrd (fun i j => decide (i < j)) strLt
def rLe' := rOrd (fun i j => decide (i ≤ j)) fun a b => !strLt b a
def rGt' := rOrd (fun i j => decide (j < i)) fun a b => strLt b a
def rGe' := rOrd (fun i j => decide (j ≤ i)) fun a b => !strLt a b
theorem or_lt : OpR X (compareOp .Lt) rLt' := op_lt.or op_lt_str
theorem or_le : OpR X (compareOp .LtE) rLe' := op_le.or op_le_str
theorem or_gt : OpR X (compareOp .Gt) rGt' := op_gt.or op_gt_str
theorem or_ge : OpR X (compareOp .GtE) rGe' := op_ge.or op_ge_str
def opEq : List PyData → Option Op
  | [.str a, .str b] => some (.val (.bool ((a == b))))
  | [d, e] => if (SeqAt.shaped d && SeqAt.shaped e) = true then some (.val (.bool (PyData.eqv d e))) else none
  | _ => none
def opNe : List PyData → Option Op
  | [.str a, .str b] => some (.val (.bool (!(a == b))))
  | [d, e] => if (SeqAt.shaped d && SeqAt.shaped e) = true then some (.val (.bool (!PyData.eqv d e))) else none
  | _ => none
def rEqB (K : PySem.W.Frag) : R2 := fun x y H Q => rEq x y H Q ∨ rEqD K x y H Q
theorem ok_eq : OpOk K (r2 (rEqB K)) opEq := .ofSc (fun ds res e => by
    unfold opEq at e
    split at e
    · cases e; exact ⟨_, rfl, rfl⟩
    · split at e
      · cases e; exact ⟨_, rfl, rfl⟩
      · cases e
    · cases e) fun ds d H vs Q e hd k => by
    unfold opEq at e
    split at e
    · rename_i a b
      cases e
      obtain ⟨v, w, rfl, ha, hb⟩ := dps2 hd
      cases ha; cases hb
      have q : decide (V.str a = V.str b) = (a == b) := by
        rw [Bool.eq_iff_iff, decide_eq_true_eq, beq_iff_eq]
        exact ⟨fun h => V.str.inj h, fun h => by rw [h]⟩
      refine .inl ⟨rfl, ?_⟩
      rw [q]
      exact k _ (.bl _)
    · split at e
      · rename_i c
        cases e
        obtain ⟨v, w, rfl, a, b⟩ := dps2 hd
        obtain ⟨c1, c2⟩ := Bool.and_eq_true_iff.mp c
        exact .inr ⟨_, _, a.dp (PyData.hasDict_of_canLay _ (Bool.and_eq_true_iff.mp c1).1), b.dp (PyData.hasDict_of_canLay _ (Bool.and_eq_true_iff.mp c2).1), c1, c2, k _ (.bl _)⟩
      · cases e
    · cases e
theorem or_eq (hu : X.A.units + 64 < cLine) : OpR X (compareOp .Eq) (rEqB X.K) := op_eq.or (op_eqD hu)
def rNeB (K : PySem.W.Frag) : R2 := fun x y H Q => rNe x y H Q ∨ rNeD K x y H Q
theorem ok_ne : OpOk K (r2 (rNeB K)) opNe := .ofSc (fun ds res e => by
    unfold opNe at e
    split at e
    · cases e; exact ⟨_, rfl, rfl⟩
    · split at e
      · cases e; exact ⟨_, rfl, rfl⟩
      · cases e
    · cases e) fun ds d H vs Q e hd k => by
    unfold opNe at e
    split at e
    · rename_i a b
      cases e
      obtain ⟨v, w, rfl, ha, hb⟩ := dps2 hd
      cases ha; cases hb
      have q : decide (V.str a = V.str b) = (a == b) := by
        rw [Bool.eq_iff_iff, decide_eq_true_eq, beq_iff_eq]
        exact ⟨fun h => V.str.inj h, fun h => by rw [h]⟩
      refine .inl ⟨rfl, ?_⟩
      rw [q]
      exact k _ (.bl _)
    · split at e
      · rename_i c
        cases e
        obtain ⟨v, w, rfl, a, b⟩ := dps2 hd
        obtain ⟨c1, c2⟩ := Bool.and_eq_true_iff.mp c
        exact .inr ⟨_, _, a.dp (PyData.hasDict_of_canLay _ (Bool.and_eq_true_iff.mp c1).1), b.dp (PyData.hasDict_of_canLay _ (Bool.and_eq_true_iff.mp c2).1), c1, c2, k _ (.bl _)⟩
      · cases e
    · cases e
theorem or_ne (hu : X.A.units + 64 < cLine) : OpR X (compareOp .NotEq) (rNeB X.K) := op_ne.or (op_neD hu)
/-- in: one sign in a text; data in a list; a text in a tuple of texts -/
def strs? : List PyData → Option (List Str)
  | [] => some []
  | .str x :: r => match strs? r with
    | some xs => some (x :: xs)
    | none => none
  | _ => none
def opIn (neg : Bool) : List PyData → Option Op
  | [.str x, .str z] => match x.cps.toList with
    | [c] => some (.val (.bool (if neg then !decide (c ∈ z.cps.toList) else decide (c ∈ z.cps.toList))))
    | _ => none
  | [d, .list ds] => if (SeqAt.shaped d && SeqAt.shaped (.list ds)) = true then some (.val (.bool (if neg then !(ds.any fun z => PyData.eqv z d) else ds.any fun z => PyData.eqv z d))) else none
  | [.str x, .tuple ds] => match strs? ds with
    | some xs => some (.val (.bool (if neg then !xs.contains x else xs.contains x)))
    | none => none
  | _ => none
end
end DX
/-! DXOps2: in, subscripts, slices, displays, built-ins, methods of texts. -/
namespace DX
open PySem PySem.Spec PyProof.Rows L2

section
variable {K : PySem.W.Frag} {X : Cx}
theorem strs_dx {H : Hp} : ∀ {ds : List PyData} {xs : List Str} {vs : List V}, strs? ds = some xs → DxAll K H vs ds → vs = xs.map V.str
  | [], xs, _, e, h => by
    simp [strs?] at e; subst e; cases h; rfl
  | d :: r, xs, _, e, h => by
    cases h with
    | cons a b =>
      cases d with
      | str x =>
        simp only [strs?] at e
        split at e
        · rename_i ys e2
          cases e; cases a
          rw [strs_dx e2 b]; rfl
        · cases e
      | _ => simp [strs?] at e
theorem inV_strs (x : Str) : ∀ xs : List Str, inV (.str x) (xs.map V.str) = xs.contains x
  | [] => rfl
  | y :: xs => by
    have ih := inV_strs x xs
    unfold inV at ih ⊢
    simp only [List.map_cons, List.any_cons, List.contains_cons, ih]
    congr 1
    show (y == x) = (x == y)
    exact Bool.beq_comm
theorem flat_strs : ∀ xs : List Str, (xs.map V.str).all flatV = true
  | [] => rfl
  | _ :: xs => by simp only [List.map_cons, List.all_cons, flat_strs xs]; rfl
def rIn3 (K : PySem.W.Frag) : R2 := fun x y H Q => (∃ (c : Nat) (z : Str), x = .str ⟨#[c]⟩ ∧ y = .str z ∧ Q (.bl (decide (c ∈ z.cps.toList))) H) ∨ rInD K x y H Q ∨ rIn K false x y H Q
def rNi3 (K : PySem.W.Frag) : R2 := fun x y H Q => (∃ (c : Nat) (z : Str), x = .str ⟨#[c]⟩ ∧ y = .str z ∧ Q (.bl (!decide (c ∈ z.cps.toList))) H) ∨ rNotInD K x y H Q ∨ rIn K true x y H Q
theorem or_in (hu : X.A.units + 65 < cLine) : OpR X (compareOp .In) (rIn3 X.K) := op_in_sign.or ((op_inD hu).or op_in_seq)
theorem or_ni (hu : X.A.units + 65 < cLine) : OpR X (compareOp .NotIn) (rNi3 X.K) := op_notIn_sign.or ((op_notInD hu).or op_notIn_seq)
theorem one_sign {x : Str} {c : Nat} (h : x.cps.toList = [c]) : x = ⟨#[c]⟩ := by
  obtain ⟨a⟩ := x
  have : a = #[c] := by
    apply Array.toList_inj.mp
    exact h
  rw [this]
theorem opIn_sc {n : Bool} (ds : List PyData) (res : Op) (e : opIn n ds = some res) : ∃ d, res = .val d ∧ isSc d = true := by
  unfold opIn at e
  split at e
  · split at e
    · cases e; exact ⟨_, rfl, rfl⟩
    · cases e
  · split at e
    · cases e; exact ⟨_, rfl, rfl⟩
    · cases e
  · split at e
    · cases e; exact ⟨_, rfl, rfl⟩
    · cases e
  · cases e
theorem ok_in : OpOk K (r2 (rIn3 K)) (opIn false) := .ofSc opIn_sc fun ds d H vs Q e hd k => by
  unfold opIn at e
  split at e
  · split at e
    · rename_i x z _ c e2
      cases e
      obtain ⟨v, w, rfl, a, b⟩ := dps2 hd
      cases a; cases b
      exact .inl ⟨c, z, by rw [one_sign e2], rfl, k _ (.bl _)⟩
    · cases e
  · split at e
    · rename_i c
      cases e
      obtain ⟨v, w, rfl, a, b⟩ := dps2 hd
      obtain ⟨c1, c2⟩ := Bool.and_eq_true_iff.mp c
      exact .inr (.inl ⟨_, _, a.dp (PyData.hasDict_of_canLay _ (Bool.and_eq_true_iff.mp c1).1), b.dp (PyData.hasDict_of_canLay _ (Bool.and_eq_true_iff.mp c2).1), c1, c2, k _ (.bl _)⟩)
    · cases e
  · split at e
    · rename_i xs e2
      cases e
      obtain ⟨v, w, rfl, a, b⟩ := dps2 hd
      cases a
      cases b with
      | tup q r =>
        have ev := strs_dx e2 r
        subst ev
        exact .inr (.inr ⟨_, _, rfl, .inr q, rfl, flat_strs _, by rw [inV_strs]; exact k _ (.bl _)⟩)
    · cases e
  · cases e
theorem ok_ni : OpOk K (r2 (rNi3 K)) (opIn true) := .ofSc opIn_sc fun ds d H vs Q e hd k => by
  unfold opIn at e
  split at e
  · split at e
    · rename_i x z _ c e2
      cases e
      obtain ⟨v, w, rfl, a, b⟩ := dps2 hd
      cases a; cases b
      exact .inl ⟨c, z, by rw [one_sign e2], rfl, k _ (.bl _)⟩
    · cases e
  · split at e
    · rename_i c
      cases e
      obtain ⟨v, w, rfl, a, b⟩ := dps2 hd
      obtain ⟨c1, c2⟩ := Bool.and_eq_true_iff.mp c
      exact .inr (.inl ⟨_, _, a.dp (PyData.hasDict_of_canLay _ (Bool.and_eq_true_iff.mp c1).1), b.dp (PyData.hasDict_of_canLay _ (Bool.and_eq_true_iff.mp c2).1), c1, c2, k _ (.bl _)⟩)
    · cases e
  · split at e
    · rename_i xs e2
      cases e
      obtain ⟨v, w, rfl, a, b⟩ := dps2 hd
      cases a
      cases b with
      | tup q r =>
        have ev := strs_dx e2 r
        subst ev
        exact .inr (.inr ⟨_, _, rfl, .inr q, rfl, flat_strs _, by rw [inV_strs]; exact k _ (.bl _)⟩)
    · cases e
  · cases e

/-! ### subscripts -/
def opIx : List PyData → Option Op
  | [.list xs, .int i] => match atI xs i with
    | some d => some (.val d)
    | none => none
  | [.tuple xs, .int i] => match atI xs i with
    | some d => some (.val d)
    | none => none
  | [.str z, .int i] => match atI z.cps.toList i with
      | some c => some (.val (.str ⟨#[c]⟩))
      | none => none
  | _ => none
theorem atI_dx {H : Hp} {vs : List V} {ds : List PyData} {i : Int} {d : PyData} (h : DxAll K H vs ds) (e : atI ds i = some d) : ∃ v, atI vs i = some v ∧ Dx K H v d := by
  unfold atI at e ⊢
  rw [dps_len h]
  cases q : ixN ds.length i with
  | none => rw [q] at e; cases e
  | some j =>
    rw [q] at e
    exact dps_get h e
theorem ok_ix : OpOk K (r2 (rIx K)) opIx where
  sc := fun ds d H vs Q e _ hd k => by
    unfold opIx at e
    split at e
    · split at e
      · rename_i e2
        cases e
        obtain ⟨v, w, rfl, a, b⟩ := dps2 hd
        cases b
        cases a with
        | lst q r =>
          obtain ⟨u, h1, h2⟩ := atI_dx r e2
          exact .inl ⟨_, _, _, u, rfl, rfl, q, h1, k _ h2⟩
      · cases e
    · split at e
      · rename_i e2
        cases e
        obtain ⟨v, w, rfl, a, b⟩ := dps2 hd
        cases b
        cases a with
        | tup q r =>
          obtain ⟨u, h1, h2⟩ := atI_dx r e2
          exact .inr (.inl ⟨_, _, _, u, rfl, rfl, q, h1, k _ h2⟩)
      · cases e
    · split at e
      · rename_i e2
        cases e
        obtain ⟨v, w, rfl, a, b⟩ := dps2 hd
        cases b
        cases a with
        | str _ c => exact .inr (.inr ⟨_, _, _, rfl, rfl, strMax_le' c, e2, k _ (.str _ (by show 1 ≤ strMax; decide))⟩)
      · cases e
    · cases e
  el := fun ds d G H vs Q e z s hd k => by
    unfold opIx at e
    split at e
    · split at e
      · rename_i e2
        cases e
        obtain ⟨v, w, rfl, a, b⟩ := dws2 hd
        obtain ⟨p, us, rfl, q, r⟩ := a.list s
        cases b with
        | sh b =>
          cases b
          obtain ⟨u, h1, h2⟩ := atI_dx r e2
          exact .inl ⟨_, _, _, u, rfl, rfl, q, h1, k _ h2⟩
      · cases e
    · split at e
      · rename_i e2
        cases e
        obtain ⟨v, w, rfl, a, b⟩ := dws2 hd
        obtain ⟨p, us, rfl, q, _, r⟩ := a.tuple s
        cases b with
        | sh b =>
          cases b
          obtain ⟨u, h1, h2⟩ := atI_dx r e2
          exact .inr (.inl ⟨_, _, _, u, rfl, rfl, q, h1, k _ h2⟩)
      · cases e
    · split at e
      · cases e; cases z
      · cases e
    · cases e
  nl := fun ds es G H vs Q e _ _ _ => by
    unfold opIx at e
    split at e
    · split at e <;> cases e
    · split at e <;> cases e
    · split at e <;> cases e
    · cases e
  nt := fun ds es G H vs Q e _ _ _ => by
    unfold opIx at e
    split at e
    · split at e <;> cases e
    · split at e <;> cases e
    · split at e <;> cases e
    · cases e
theorem se_ix {a b : Expr} {ea eb : EvE} {pos : Pos} (ha : SE X ea a) (hb : SE X eb b) (hs : PlainIx b := by exact fun _ _ => rfl) : SE X (eOp opIx (es2 ea eb)) (.Subscript a b pos) := by
  obtain ⟨ta, p1, q1⟩ := ha
  obtain ⟨tb, p2, q2⟩ := hb
  exact ⟨_, pe_ix ix_seq p1 p2 hs, er_op2 q1 q2 ok_ix⟩

/-! ### a part's end, by the operation -/
theorem op_fin {fn : List PyData → Option Op} {r : List V → Hp → VK → Prop} (ok : OpOk K r fn) {σ τ : List (Option V)} {G H H1 : Hp} {f : FP} {os1 os' θ : En} {vs : List V} {rs : List RV} {ds : List PyData} {res : Op} {r' : RV} {Q : VK}
    (ht : τ.length = θ.length) (k1 : Kont K σ τ G H f os1 θ vs rs H1) (e2 : rdAll os1 rs = some ds) (e3 : fn ds = some res) (e : opOut os1 rs res = (r', os')) (k : ∀ v H', Kont K σ τ G H f os' θ [v] [r'] H' → Q v H') : r vs H1 Q := by
  obtain ⟨G1, f1, I1, s1, a1, l1⟩ := k1
  cases res with
  | val d =>
    simp only [opOut] at e
    cases hc : isSc d with
    | true =>
      rw [hc, if_pos rfl] at e
      cases e
      obtain ⟨hd, f2, I2, le⟩ := I1.popA l1 ht a1 e2
      refine ok.sc ds d H1 vs Q e3 hc hd fun v hv => k v H1 (Kont.step (s1.trans (Stp.less le)) (Kont.sh l1 I2 (dp_sc hv hc)))
    | false =>
      rw [hc, if_neg Bool.false_ne_true] at e
      cases e
      obtain ⟨G2, f2, I2, s2, hd⟩ := I1.popB l1 ht a1 e2
      refine ok.el ds d G2 H1 vs Q e3 hc I2.sub hd fun v hv => k v H1 (Kont.step (s1.trans s2) (Kont.sh (by rw [len_softAll]; exact l1) I2 hv))
  | nl es =>
    cases e
    obtain ⟨G2, f2, I2, s2, hd⟩ := I1.popB l1 ht a1 e2
    refine ok.nl ds es G2 H1 vs Q e3 I2.sub hd fun ws p hw hp => ?_
    obtain ⟨f3, I3, s3⟩ := I2.pushNew hw hp
    exact k _ _ ⟨G2, f3, by simpa [List.append_assoc, RV.od] using I3, (s1.trans s2).trans s3, .cons trivial .nil, by rw [len_softAll]; exact l1⟩
  | nt es =>
    cases e
    obtain ⟨G2, f2, I2, s2, hd⟩ := I1.popB l1 ht a1 e2
    refine ok.nt ds es G2 H1 vs Q e3 I2.sub hd fun ws p hw hp => ?_
    obtain ⟨I3, s3⟩ := I2.pushTup hw hp
    exact k _ _ ⟨_, f2, by simpa [List.append_assoc, RV.od] using I3, (s1.trans s2).trans s3, .cons trivial .nil, by rw [len_softAll]; exact l1⟩

/-! ### slices: the parts lo, hi are None where they are left out -/
def cutD (xs : List PyData) (lo hi : Option Int) : List PyData := (xs.drop (HT.sIx xs.length 0 lo)).take (HT.sIx xs.length xs.length hi - HT.sIx xs.length 0 lo)
def opSl (lo hi : Option Int) : List PyData → Option Op
  | [.str z] => some (.val (.str (cutS z lo hi)))
  | [.list xs] => some (.nl (cutD xs lo hi))
  | [.tuple xs] => if HT.sIx xs.length 0 lo = 0 ∧ HT.sIx xs.length xs.length hi = xs.length then none else some (.nt (cutD xs lo hi))
  | _ => none
def rSl3 (K : PySem.W.Frag) : V → Option Int → Option Int → Hp → VK → Prop := fun x lo hi H Q => rSlS x lo hi H Q ∨ rSlL K x lo hi H Q ∨ rSlT K x lo hi H Q
theorem ok_sl {lo hi : Option Int} : OpOk K (r1 fun x => rSl3 K x lo hi) (opSl lo hi) where
  sc := fun ds d H vs Q e z hd k => by
    unfold opSl at e
    split at e
    · cases e
      obtain ⟨v, rfl, a⟩ := dps1 hd
      cases a with
      | str _ c => exact .inl ⟨_, rfl, strMax_le' c, k _ (.str _ (Nat.le_trans (cutS_length _ _ _) c))⟩
    · cases e
    · split at e <;> cases e
    · cases e
  el := fun ds d G H vs Q e z _ _ _ => by
    unfold opSl at e
    split at e
    · cases e; cases z
    · cases e
    · split at e <;> cases e
    · cases e
  nl := fun ds es G H vs Q e s hd k => by
    unfold opSl at e
    split at e
    · cases e
    · cases e
      obtain ⟨v, rfl, a⟩ := dws1 hd
      obtain ⟨p, us, rfl, q, r⟩ := a.list s
      refine .inr (.inl ⟨_, _, rfl, q, fun p hp => k _ p ?_ hp⟩)
      unfold cutV cutD
      rw [dps_len r]
      exact dps_take _ (dps_drop _ r)
    · split at e <;> cases e
    · cases e
  nt := fun ds es G H vs Q e s hd k => by
    unfold opSl at e
    split at e
    · cases e
    · cases e
    · split at e
      · cases e
      · rename_i c
        cases e
        obtain ⟨v, rfl, a⟩ := dws1 hd
        obtain ⟨p, us, rfl, q, _, r⟩ := a.tuple s
        refine .inr (.inr ⟨_, _, rfl, q, by rw [dps_len r]; exact c, fun p hp => k _ p ?_ hp⟩)
        unfold cutV cutD
        rw [dps_len r]
        exact dps_take _ (dps_drop _ r)
    · cases e
theorem sl_any : SlR X (rSl3 X.K) := sl_str.or (sl_list.or sl_tup)
abbrev EvO := En → Option (Option Int × En)
/-- a part of a slice -/
def SO (X : Cx) (ev : EvO) (o : Option Expr) : Prop := ∃ tl, PO X o tl ∧ ∀ (σ τ : List (Option V)) (G H : Hp) (os θ : En) (f : FP) (os' : En) (lo : Option Int) (Q : Option Int → Hp → Prop),
  σ.length = os.length → τ.length = θ.length → SI X.K G H (σ ++ τ) (os ++ θ) f → ev os = some (lo, os') → (∀ H', KontT X.K σ τ G H f os' θ H' → Q lo H') → tl σ H Q
def oNone : EvO := fun os => some (none, os)
def oSome (ev : EvE) : EvO := fun os => match ev os with
  | some (r, os1) => match r.rd os1 with
    | some (.int i) => some (some i, os1)
    | _ => none
  | none => none
theorem so_none : SO X oNone none := ⟨_, po_none, fun σ τ G H os θ f os' lo Q hl ht I e k => by
  cases e
  exact k H ⟨G, f, I, Stp.refl _ _ _, hl⟩⟩
theorem so_some {e : Expr} {ev : EvE} (h : SE X ev e) : SO X (oSome ev) (some e) := by
  obtain ⟨te, p, q⟩ := h
  refine ⟨_, po_some p, fun σ τ G H os θ f os' lo Q hl ht I e k => ?_⟩
  unfold oSome at e
  split at e
  · rename_i r os1 e1
    split at e
    · rename_i i e2
      cases e
      exact q σ τ G H os θ f _ _ _ hl ht I e1 fun v H1 k1 => by
        have hv := k1.read1 ht e2
        cases hv
        exact ⟨i, rfl, k H1 (k1.drop ht)⟩
    · cases e
  · cases e
def eSl (ea : EvE) (el eh : EvO) : EvE := fun os => match ea os with
  | some (r, os1) => match el os1 with
    | some (lo, os2) => match eh os2 with
      | some (hi, os3) => match rdAll os3 [r] with
        | some ds => match opSl lo hi ds with
          | some res => some (opOut os3 [r] res)
          | none => none
        | none => none
      | none => none
    | none => none
  | none => none
theorem se_sl {a : Expr} {lo hi : Option Expr} {ea : EvE} {el eh : EvO} {p2 pos : Pos} (ha : SE X ea a) (hl : SO X el lo) (hh : SO X eh hi) : SE X (eSl ea el eh) (.Subscript a (.Slice lo hi none p2) pos) := by
  obtain ⟨ta, p1, q1⟩ := ha
  obtain ⟨tl, p2, q2⟩ := hl
  obtain ⟨th, p3, q3⟩ := hh
  refine ⟨_, pe_slice sl_any p1 p2 p3, fun σ τ G H os θ f r os' Q hl ht I e k => ?_⟩
  unfold eSl at e
  split at e
  · rename_i r1 os1 e1
    split at e
    · rename_i lo' os2 e2
      split at e
      · rename_i hi' os3 e3
        split at e
        · rename_i ds e4
          split at e
          · rename_i res e5
            have e : opOut os3 [r1] res = (r, os') := Option.some.inj e
            refine q1 σ τ G H os θ f r1 os1 _ hl ht I e1 fun v H1 k1 => ?_
            obtain ⟨G1, f1, I1, s1, a1, l1⟩ := k1
            refine q2 σ (τ ++ [some v]) G1 H1 os1 (θ ++ [r1.od]) f1 os2 lo' _ l1 (by simp [ht]) I1 e2 fun H2 k2 => ?_
            obtain ⟨G2, f2, I2, s2, l2⟩ := k2
            refine q3 σ (τ ++ [some v]) G2 H2 os2 (θ ++ [r1.od]) f2 os3 hi' _ l2 (by simp [ht]) I2 e3 fun H3 k3 => ?_
            obtain ⟨G3, f3, I3, s3, l3⟩ := k3
            exact op_fin ok_sl ht ⟨G3, f3, I3, (s1.trans s2).trans s3, a1, l3⟩ e4 e5 e k
          · cases e
        · cases e
      · cases e
    · cases e
  · cases e

/-! ### displays: what goes in is shared from there on -/
def eTup (es : EvEs) : EvE := fun os => match es os with
  | some (rs, os1) => match rdAll os1 rs with
    | some ds => if ds.length ≤ sizeLine then some (.tm (.sh (.tuple ds)), hardAll os1 rs) else none
    | none => none
  | none => none
def eLst (es : EvEs) : EvE := fun os => match es os with
  | some (rs, os1) => match rdAll os1 rs with
    | some ds => if ds.length ≤ sizeLine then some (.tm (.lst (ds.map OD.sh)), hardAll os1 rs) else none
    | none => none
  | none => none
theorem er_tup {ev : EvEs} {ta : TA} (h : ERs K ev ta) : ER K (eTup ev) (tTup ta) := fun σ τ G H os θ f r os' Q hl ht I e k => by
  unfold eTup at e
  split at e
  · rename_i rs os1 e1
    split at e
    · rename_i ds e2
      split at e
      · rename_i c
        cases e
        refine h σ τ G H os θ f rs os1 _ hl ht I e1 fun vs H1 k1 => ?_
        obtain ⟨G1, f1, I1, s1, a1, l1⟩ := k1
        obtain ⟨G2, f2, I2, s2, hd⟩ := I1.popC l1 ht a1 e2
        refine ⟨by rw [dps_len hd]; exact c, fun p hp => ?_⟩
        obtain ⟨I3, s3⟩ := I2.pushTup hd hp
        exact k _ _ ⟨_, f2, by simpa [List.append_assoc, RV.od] using I3, (s1.trans s2).trans s3, .cons trivial .nil, by rw [len_hardAll]; exact l1⟩
      · cases e
    · cases e
  · cases e
theorem er_lst {ev : EvEs} {ta : TA} (h : ERs K ev ta) : ER K (eLst ev) (tLst ta) := fun σ τ G H os θ f r os' Q hl ht I e k => by
  unfold eLst at e
  split at e
  · rename_i rs os1 e1
    split at e
    · rename_i ds e2
      split at e
      · rename_i c
        cases e
        refine h σ τ G H os θ f rs os1 _ hl ht I e1 fun vs H1 k1 => ?_
        obtain ⟨G1, f1, I1, s1, a1, l1⟩ := k1
        obtain ⟨G2, f2, I2, s2, hd⟩ := I1.popC l1 ht a1 e2
        refine ⟨by rw [dps_len hd]; exact c, fun p hp => ?_⟩
        obtain ⟨f3, I3, s3⟩ := I2.pushNew hd hp
        exact k _ _ ⟨G2, f3, by simpa [List.append_assoc, RV.od] using I3, (s1.trans s2).trans s3, .cons trivial .nil, by rw [len_hardAll]; exact l1⟩
      · cases e
    · cases e
  · cases e
theorem se_tup {es : List Expr} {ev : EvEs} {x1 pos} (h : SEs X ev es) : SE X (eTup ev) (.Tuple es x1 pos) := by
  obtain ⟨ta, p, q⟩ := h
  exact ⟨_, pe_tup p, er_tup q⟩
theorem se_lst {es : List Expr} {ev : EvEs} {pos} (h : SEs X ev es) : SE X (eLst ev) (.List es pos) := by
  obtain ⟨ta, p, q⟩ := h
  exact ⟨_, pe_lst p, er_lst q⟩

/-! ### built-ins by name -/
theorem se_bf {x : Str} {id : String} {r : List V → Hp → VK → Prop} {fn : List PyData → Option Op} (hc : CallR X (.builtin id) r) (ok : OpOk X.K r fn) {e : Expr} {es : List Expr} {ev : EvEs} {p pos : Pos} (hm : X.mg x = none) (h : SEs X ev (e :: es))
    (hv : bootBuiltins x = some (.builtin id) := by decide +kernel) (hg : Gl X x := by rfl) (hn : x ≠ "__name__" := by decide) (hdb : (x == ("__debug__" : Str)) = false := by decide) (he : starEach (e :: es) X.env = (false, eval e X.env) :: starEach es X.env := by rfl) (hpl : (backTo pos (starEach es X.env)).any (·.1) = false := by rfl) :
    SE X (eOp fn ev) (.Call (.Name x p) (e :: es) [] pos) := by
  obtain ⟨ta, q1, q2⟩ := h
  exact ⟨_, pe_callB hc hg hm hv q1 hn hdb he hpl, er_op q2 ok⟩
theorem se_bt {x : Str} {T : String} {r : List V → Hp → VK → Prop} {fn : List PyData → Option Op} (hc : CallR X (.type T) r) (ok : OpOk X.K r fn) {e : Expr} {es : List Expr} {ev : EvEs} {p pos : Pos} (hm : X.mg x = none) (h : SEs X ev (e :: es))
    (hv : bootBuiltins x = some (.type T) := by decide +kernel) (hg : Gl X x := by rfl) (hn : x ≠ "__name__" := by decide) (hdb : (x == ("__debug__" : Str)) = false := by decide) (he : starEach (e :: es) X.env = (false, eval e X.env) :: starEach es X.env := by rfl) (hpl : (backTo pos (starEach es X.env)).any (·.1) = false := by rfl) : SE X (eOp fn ev) (.Call (.Name x p) (e :: es) [] pos) := by
  obtain ⟨ta, q1, q2⟩ := h
  exact ⟨_, pe_callTy hc hg hm hv q1 hn hdb he hpl, er_op q2 ok⟩

def opLen : List PyData → Option Op
  | [.str z] => some (.val (.int z.length))
  | [.list xs] => some (.val (.int xs.length))
  | [.tuple xs] => some (.val (.int xs.length))
  | _ => none
theorem ok_len : OpOk K (fun xs H Q => ∃ x n, xs = [x] ∧ LenV K x H n ∧ Q (.int n) H) opLen := .ofSc (fun ds res e => by
    unfold opLen at e
    split at e
    · cases e; exact ⟨_, rfl, rfl⟩
    · cases e; exact ⟨_, rfl, rfl⟩
    · cases e; exact ⟨_, rfl, rfl⟩
    · cases e) fun ds d H vs Q e hd k => by
    unfold opLen at e
    split at e
    · cases e
      obtain ⟨v, rfl, a⟩ := dps1 hd
      cases a with
      | str _ c => exact ⟨_, _, rfl, ⟨strMax_le' c, rfl⟩, k _ (.int _)⟩
    · cases e
      obtain ⟨v, rfl, a⟩ := dps1 hd
      cases a with
      | lst q r => exact ⟨_, _, rfl, .inl ⟨_, q, (dps_len r).symm⟩, k _ (.int _)⟩
    · cases e
      obtain ⟨v, rfl, a⟩ := dps1 hd
      cases a with
      | tup q r => exact ⟨_, _, rfl, .inr ⟨_, q, (dps_len r).symm⟩, k _ (.int _)⟩
    · cases e
def opAbs : List PyData → Option Op
  | [.int i] => some (.val (.int (if i < 0 then -i else i)))
  | _ => none
theorem ok_abs : OpOk K (fun xs H Q => ∃ i, xs = [.int i] ∧ Q (.int (if i < 0 then -i else i)) H) opAbs := .ofSc (fun ds res e => by
    unfold opAbs at e
    split at e
    · cases e; exact ⟨_, rfl, rfl⟩
    · cases e) fun ds d H vs Q e hd k => by
    unfold opAbs at e
    split at e
    · cases e
      obtain ⟨v, rfl, a⟩ := dps1 hd
      cases a
      exact ⟨_, rfl, k _ (.int _)⟩
    · cases e
def opMax2 : List PyData → Option Op
  | [.int i, .int j] => some (.val (.int (if j > i then j else i)))
  | _ => none
theorem ok_max2 : OpOk K (fun xs H Q => ∃ i j, xs = [.int i, .int j] ∧ Q (.int (if j > i then j else i)) H) opMax2 := .ofSc (fun ds res e => by
    unfold opMax2 at e
    split at e
    · cases e; exact ⟨_, rfl, rfl⟩
    · cases e) fun ds d H vs Q e hd k => by
    unfold opMax2 at e
    split at e
    · cases e
      obtain ⟨v, w, rfl, a, b⟩ := dps2 hd
      cases a; cases b
      exact ⟨_, _, rfl, k _ (.int _)⟩
    · cases e
def opMin2 : List PyData → Option Op
  | [.int i, .int j] => some (.val (.int (if j < i then j else i)))
  | _ => none
theorem ok_min2 : OpOk K (fun xs H Q => ∃ i j, xs = [.int i, .int j] ∧ Q (.int (if j < i then j else i)) H) opMin2 := .ofSc (fun ds res e => by
    unfold opMin2 at e
    split at e
    · cases e; exact ⟨_, rfl, rfl⟩
    · cases e) fun ds d H vs Q e hd k => by
    unfold opMin2 at e
    split at e
    · cases e
      obtain ⟨v, w, rfl, a, b⟩ := dps2 hd
      cases a; cases b
      exact ⟨_, _, rfl, k _ (.int _)⟩
    · cases e
def opInt : List PyData → Option Op
  | [.int i] => some (.val (.int i))
  | [.bool b] => some (.val (.int (if b then 1 else 0)))
  | _ => none
theorem ok_int : OpOk K (fun xs H Q => (∃ i, xs = [.int i] ∧ Q (.int i) H) ∨ ∃ k, xs = [.bl k] ∧ Q (.int (if k then 1 else 0)) H) opInt := .ofSc (fun ds res e => by
    unfold opInt at e
    split at e
    · cases e; exact ⟨_, rfl, rfl⟩
    · cases e; exact ⟨_, rfl, rfl⟩
    · cases e) fun ds d H vs Q e hd k => by
    unfold opInt at e
    split at e
    · cases e
      obtain ⟨v, rfl, a⟩ := dps1 hd
      cases a
      exact .inl ⟨_, rfl, k _ (.int _)⟩
    · cases e
      obtain ⟨v, rfl, a⟩ := dps1 hd
      cases a
      exact .inr ⟨_, rfl, k _ (.int _)⟩
    · cases e
/-- divmod by a small positive divisor: a new pair -/
def opDivmod : List PyData → Option Op
  | [.int i, .int j] => if 0 < j ∧ j < 1073741824 then some (.nt [.int (i / j), .int (i % j)]) else none
  | _ => none
theorem ok_divmod : OpOk K (fun xs H Q => ∃ i j, xs = [.int i, .int j] ∧ CDiv i j ∧ ∀ p, H p = none → Q (.ref p) (upd H p (.tup [.int (i / j), .int (i % j)]))) opDivmod where
  sc := fun ds d H vs Q e _ _ _ => by
    unfold opDivmod at e
    split at e
    · split at e <;> cases e
    · cases e
  el := fun ds d G H vs Q e _ _ _ _ => by
    unfold opDivmod at e
    split at e
    · split at e <;> cases e
    · cases e
  nl := fun ds es G H vs Q e _ _ _ => by
    unfold opDivmod at e
    split at e
    · split at e <;> cases e
    · cases e
  nt := fun ds es G H vs Q e s hd k => by
    unfold opDivmod at e
    split at e
    · split at e
      · rename_i c
        cases e
        obtain ⟨v, w, rfl, a, b⟩ := dws2 hd
        have a := a.dx s
        have b := b.dx s
        cases a; cases b
        exact ⟨_, _, rfl, c, fun p hp => k _ p (.cons (.int _) (.cons (.int _) .nil)) hp⟩
      · cases e
    · cases e
def bools? : List PyData → Option (List Bool)
  | [] => some []
  | .bool x :: r => match bools? r with
    | some xs => some (x :: xs)
    | none => none
  | _ => none
theorem bools_dx {H : Hp} : ∀ {ds : List PyData} {xs : List Bool} {vs : List V}, bools? ds = some xs → DxAll K H vs ds → vs = xs.map V.bl
  | [], xs, _, e, h => by
    simp [bools?] at e; subst e; cases h; rfl
  | d :: r, xs, _, e, h => by
    cases h with
    | cons a b =>
      cases d with
      | bool x =>
        simp only [bools?] at e
        split at e
        · rename_i ys e2
          cases e; cases a
          rw [bools_dx e2 b]; rfl
        · cases e
      | _ => simp [bools?] at e
def opAll (f : List Bool → Bool) : List PyData → Option Op
  | [.list ds] => match bools? ds with
    | some bs => some (.val (.bool (f bs)))
    | none => none
  | _ => none
theorem ok_all {f : List Bool → Bool} : OpOk K (fun vs H Q => ∃ (a : Addr) (bs : List Bool), vs = [V.ref a] ∧ SqL K H a (bs.map V.bl) ∧ Q (.bl (f bs)) H) (opAll f) := .ofSc (fun ds res e => by
    unfold opAll at e
    split at e
    · split at e
      · cases e; exact ⟨_, rfl, rfl⟩
      · cases e
    · cases e) fun ds d H vs Q e hd k => by
    unfold opAll at e
    split at e
    · split at e
      · rename_i bs e2
        cases e
        obtain ⟨v, rfl, a⟩ := dps1 hd
        cases a with
        | lst q r =>
          have := bools_dx e2 r
          subst this
          exact ⟨_, bs, rfl, q, k _ (.bl _)⟩
      · cases e
    · cases e

/-! ### isinstance of a value and a built-in class -/
def tyN : PyData → String
  | .none => "NoneType"
  | .bool _ => "bool"
  | .int _ => "int"
  | .str _ => "str"
  | .list _ => "list"
  | .tuple _ => "tuple"
  | .dict _ => "dict"
theorem ty_dx {H : Hp} {v : V} {d : PyData} (h : Dx K H v d) (nd : ∀ kv, d ≠ .dict kv) : TyX K H v (.type (tyN d)) := by
  cases h with
  | non => exact .base .non
  | bl b => exact .base (.bl b)
  | int i => exact .base (.int i)
  | str x => exact .base (.str x)
  | lst q r =>
    rcases q with (q | ⟨o, q⟩) | q
    · exact .base (.lst q)
    · exact .base (.frz q)
    · obtain ⟨o, its, n, hk, hc, _⟩ := q
      exact .kList hk hc
  | tup q r =>
    rcases q with (q | ⟨o, q⟩) | q
    · exact .base (.tup q)
    · exact .fTuple q
    · obtain ⟨o, its, n, hk, hc, _⟩ := q
      exact .kTuple hk hc
  | exc _ _ => exact absurd rfl (nd _)
  | exf _ _ => exact absurd rfl (nd _)
def opIsi (n : String) : List PyData → Option Op
  | [.dict _] => none
  | [d] => match kitB (tyN d) n with
    | some b => some (.val (.bool b))
    | none => none
  | _ => none
theorem ok_isi {n : String} : OpOk K (r1 fun x H Q => rIsi K [x, .ty n] H Q) (opIsi n) := .ofSc (fun ds res e => by
    unfold opIsi at e
    split at e
    · cases e
    · split at e
      · cases e; exact ⟨_, rfl, rfl⟩
      · cases e
    · cases e) fun ds d H vs Q e hd k => by
    unfold opIsi at e
    split at e
    · cases e
    · split at e
      · rename_i nd _ b e2
        cases e
        obtain ⟨v, rfl, a⟩ := dps1 hd
        exact ⟨v, .ty n, _, .type n, b, rfl, .ty n, ty_dx a (fun kv z => nd kv (by rw [z])), kit_ty e2, k _ (.bl _)⟩
      · cases e
    · cases e
theorem se_isi {n : String} {y : Str} {a : Expr} {ea : EvE} {p py pos : Pos} (hm : X.mg "isinstance" = none) (hy : X.mg y = none) (ha : SE X ea a)
    (hvy : bootBuiltins y = some (.type n) := by decide +kernel) (hg : Gl X "isinstance" := by rfl) (hgy : Gl X y := by rfl) (hny : y ≠ "__name__" := by decide) (hdy : (y == ("__debug__" : Str)) = false := by decide) (he : starEach (a :: [.Name y py]) X.env = (false, eval a X.env) :: starEach [.Name y py] X.env := by rfl) :
    SE X (eOp (opIsi n) (es1 ea)) (.Call (.Name "isinstance" p) [a, .Name y py] [] pos) := by
  obtain ⟨ta, p1, q1⟩ := ha
  have := pe_callB (X := X) (x := "isinstance") (p := p) (pos := pos) call_isi hg hm (by decide +kernel) (pa_cons p1 (pa_cons (pe_bltn (v := .ty n) (pos := py) hgy hy hvy rfl hny hdy) pa_nil) he) (by decide) (by decide) he (by rfl)
  refine ⟨_, this, ?_⟩
  exact er_op (r := r1 fun x H Q => rIsi X.K [x, .ty n] H Q) (ers_cons q1 ers_nil) ok_isi

/-! ### repr of data -/
def opRepr : List PyData → Option Op
  | [d] => if (d.showable && !d.hasDict && decide (d.depth ≤ 64) && decide (d.shown.length ≤ strMax)) = true then some (.val (.str d.shown)) else none
  | _ => none
def rRepr (K : PySem.W.Frag) : List V → Hp → VK → Prop := fun vs H Q => ∃ v d, vs = [v] ∧ Dp K H v d ∧ d.showable = true ∧ d.hasDict = false ∧ d.depth ≤ 64 ∧ d.shown.length ≤ sizeLine ∧ Q (.str d.shown) H
theorem ok_repr : OpOk K (rRepr K) opRepr := .ofSc (fun ds res e => by
    unfold opRepr at e
    split at e
    · split at e
      · cases e; exact ⟨_, rfl, rfl⟩
      · cases e
    · cases e) fun ds d H vs Q e hd k => by
    unfold opRepr at e
    split at e
    · split at e
      · rename_i c
        cases e
        obtain ⟨v, rfl, a⟩ := dps1 hd
        simp only [Bool.and_eq_true, Bool.not_eq_true', decide_eq_true_eq] at c
        exact ⟨v, _, rfl, a.dp c.1.1.2, c.1.1.1, c.1.1.2, c.1.2, strMax_le' c.2, k _ (.str _ c.2)⟩
      · cases e
    · cases e
theorem call_repr (hg : X.A.guards = some []) (hu : X.A.units + 65 < cLine) : CallR X (.builtin "repr") (rRepr X.K) := by
  intro pins s σ H xs us Q I r h
  obtain ⟨v, d, rfl, hd, c1, c2, c3, c4, q⟩ := h
  cases r with
  | cons rv rn =>
    cases rn
    rename_i u
    have fin : ∀ (h' : Heap) (t : Tok) (tk : Nat), (∀ b o, s.heap.get? b = some o → h'.get? b = some o) → EP X pins σ Q (.str d.shown t) { s with heap := h', toks := tk } := fun h' t tk hk =>
      ⟨.str d.shown, H, I.kept (t' := tk) hk, ⟨t, rfl⟩, q⟩
    have nd : d.hasDict = true → False := fun z => by rw [c2] at z; cases z
    cases hd with
    | non => cases rv; exact PySem.P.repr_of_none (by simpa [PyData.shown] using fin s.heap s.toks (s.toks + 1) fun _ _ e => e)
    | bl b => cases rv; exact PySem.P.repr_of_bool (by simpa [PyData.shown] using fin s.heap s.toks (s.toks + 1) fun _ _ e => e)
    | int i =>
      obtain ⟨t, rfl⟩ := rv
      exact PySem.P.repr_of_int (by simpa [PyData.showable] using c1) (by simpa [PyData.shown] using fin s.heap s.toks (s.toks + 1) fun _ _ e => e)
    | str x =>
      obtain ⟨t, rfl⟩ := rv
      exact PySem.P.repr_of_str (by simpa [PyData.shown] using fin s.heap s.toks (s.toks + 1) fun _ _ e => e) (by simpa [PyData.shown] using c4)
    | lst q1 q2 =>
      obtain ⟨as, rr⟩ := Dp.reads I _ _ _ (.lst q1 q2) rv
      cases rv
      exact PySem.repr_of_reads' rr c1 (fun z => (nd z).elim) hg (by omega) (fun _ _ e => e) (fun h' t tk hk => fin h' t tk hk) c4
    | tup q1 q2 =>
      obtain ⟨as, rr⟩ := Dp.reads I _ _ _ (.tup q1 q2) rv
      cases rv
      exact PySem.repr_of_reads' rr c1 (fun z => (nd z).elim) hg (by omega) (fun _ _ e => e) (fun h' t tk hk => fin h' t tk hk) c4
end
end DX
/-! DXStmt: statements and loops. -/
namespace DX
open PySem PySem.Spec PyProof.Rows L2

inductive Res where
  | nx (os : En)
  | rt (o : OD) (os : En)
  | bk (os : En)
  | ct (os : En)
abbrev EvS := En → Option Res

/-- behind a statement; R: the slots of lists that the caller holds too -/
def KontS (K : PySem.W.Frag) (R : List Nat) (σ : L2.St) (G H : Hp) (f : FP) (os' : En) (σ' : L2.St) (H' : Hp) : Prop :=
  ∃ G' f', SI K G' H' σ' os' f' ∧ Stp G H f G' H' f' ∧ σ'.length = os'.length ∧ ∀ i ∈ R, σ'[i]? = σ[i]?
def KontR (K : PySem.W.Frag) (R : List Nat) (σ : L2.St) (G H : Hp) (f : FP) (o : OD) (os' : En) (v : V) (H' : Hp) : Prop :=
  ∃ G' f' σ', SI K G' H' (σ' ++ [some v]) (os' ++ [some o]) f' ∧ Stp G H f G' H' f' ∧ σ'.length = os'.length ∧ ∀ i ∈ R, σ'[i]? = σ[i]?
def Post (K : PySem.W.Frag) (R : List Nat) (σ : L2.St) (G H : Hp) (f : FP) (D : Ends) : Res → Prop
  | .nx os' => ∀ σ' H', KontS K R σ G H f os' σ' H' → D.nx σ' H'
  | .rt o os' => ∀ v H', KontR K R σ G H f o os' v H' → D.rt v H'
  | .bk os' => ∀ σ' H', KontS K R σ G H f os' σ' H' → D.bk σ' H'
  | .ct os' => ∀ σ' H', KontS K R σ G H f os' σ' H' → D.ct σ' H'
def SR (K : PySem.W.Frag) (R : List Nat) (ev : EvS) (ts : TS) : Prop := ∀ (σ : L2.St) (G H : Hp) (os : En) (f : FP) (res : Res) (D : Ends),
  σ.length = os.length → SI K G H σ os f → ev os = some res → Post K R σ G H f D res → ts D σ H
def SS (X : Cx) (R : List Nat) (ev : EvS) (st : Stmt) : Prop := ∃ ts, PS X st ts ∧ SR X.K R ev ts
def SSs (X : Cx) (R : List Nat) (ev : EvS) (st : List Stmt) : Prop := ∃ ts, PSs X st ts ∧ SR X.K R ev ts

section
variable {K : PySem.W.Frag} {X : Cx} {R : List Nat}
theorem KontS.step {σ σ1 σ' : L2.St} {G H G1 H1 H' : Hp} {f f1 : FP} {os' : En} (s : Stp G H f G1 H1 f1) (r : ∀ i ∈ R, σ1[i]? = σ[i]?) (k : KontS K R σ1 G1 H1 f1 os' σ' H') : KontS K R σ G H f os' σ' H' := by
  obtain ⟨G2, f2, I, s2, l, r2⟩ := k
  exact ⟨G2, f2, I, s.trans s2, l, fun i hi => (r2 i hi).trans (r i hi)⟩
theorem KontR.step {σ σ1 : L2.St} {G H G1 H1 H' : Hp} {f f1 : FP} {o : OD} {os' : En} {v : V} (s : Stp G H f G1 H1 f1) (r : ∀ i ∈ R, σ1[i]? = σ[i]?) (k : KontR K R σ1 G1 H1 f1 o os' v H') : KontR K R σ G H f o os' v H' := by
  obtain ⟨G2, f2, σ2, I, s2, l, r2⟩ := k
  exact ⟨G2, f2, σ2, I, s.trans s2, l, fun i hi => (r2 i hi).trans (r i hi)⟩
theorem Post.step {σ σ1 : L2.St} {G H G1 H1 : Hp} {f f1 : FP} {D : Ends} {res : Res} (s : Stp G H f G1 H1 f1) (r : ∀ i ∈ R, σ1[i]? = σ[i]?) (k : Post K R σ G H f D res) : Post K R σ1 G1 H1 f1 D res := by
  cases res with
  | nx os' => exact fun σ' H' q => k σ' H' (q.step s r)
  | rt o os' => exact fun v H' q => k v H' (q.step s r)
  | bk os' => exact fun σ' H' q => k σ' H' (q.step s r)
  | ct os' => exact fun σ' H' q => k σ' H' (q.step s r)

/-! ### blocks -/
def sNext : EvS := fun os => some (.nx os)
def sSeq (a b : EvS) : EvS := fun os => match a os with
  | some (.nx os1) => b os1
  | r => r
theorem sr_next : SR K R sNext tNext := fun σ G H os f res D hl I e k => by
  cases e
  exact k σ H ⟨G, f, I, Stp.refl _ _ _, hl, fun _ _ => rfl⟩
theorem sr_seq {a b : EvS} {ta tb : TS} (ha : SR K R a ta) (hb : SR K R b tb) : SR K R (sSeq a b) (tSeq ta tb) := fun σ G H os f res D hl I e k => by
  unfold sSeq at e
  cases ea : a os with
  | none => rw [ea] at e; cases e
  | some r1 =>
    rw [ea] at e
    cases r1 with
    | nx os1 =>
      exact ha σ G H os f _ { D with nx := tb D } hl I ea fun σ1 H1 k1 => by
        obtain ⟨G1, f1, I1, s1, l1, q1⟩ := k1
        exact hb σ1 G1 H1 os1 f1 res D l1 I1 e (k.step s1 q1)
    | rt o os1 => cases e; exact ha σ G H os f _ { D with nx := tb D } hl I ea k
    | bk os1 => cases e; exact ha σ G H os f _ { D with nx := tb D } hl I ea k
    | ct os1 => cases e; exact ha σ G H os f _ { D with nx := tb D } hl I ea k
theorem ss_nil' : SSs X R sNext [] := ⟨_, pss_nil, sr_next⟩
theorem ss_cons' {st : Stmt} {rest : List Stmt} {a b : EvS} (h : SS X R a st) (g : SSs X R b rest) : SSs X R (sSeq a b) (st :: rest) := by
  obtain ⟨t, p, q⟩ := h
  obtain ⟨u, p', q'⟩ := g
  exact ⟨_, pss_cons p p', sr_seq q q'⟩
theorem ss_one {st : Stmt} {a : EvS} (h : SS X R a st) : SSs X R a [st] := by
  obtain ⟨t, p, q⟩ := h
  exact ⟨_, pss_one p, q⟩
theorem ss_pass {pos : Pos} : SS X R sNext (.Pass pos) := ⟨_, ps_pass, sr_next⟩
def sBrk : EvS := fun os => some (.bk os)
def sCnt : EvS := fun os => some (.ct os)
theorem ss_brk {pos : Pos} : SS X R sBrk (.Break pos) := ⟨_, ps_break, fun σ G H os f res D hl I e k => by
  cases e
  exact k σ H ⟨G, f, I, Stp.refl _ _ _, hl, fun _ _ => rfl⟩⟩
theorem ss_cnt {pos : Pos} : SS X R sCnt (.Continue pos) := ⟨_, ps_continue, fun σ G H os f res D hl I e k => by
  cases e
  exact k σ H ⟨G, f, I, Stp.refl _ _ _, hl, fun _ _ => rfl⟩⟩

/-! ### return -/
/-- what a value is where it is handed on: a slot's list goes with it -/
def give (os : En) : RV → Option (OD × En)
  | .tm o => some (o, os)
  | .al i => match os[i]? with
    | some (some (.sh d)) => some (.sh d, os)
    | some (some (.lst xs)) => some (.lst xs, os.set i none)
    | some (some (.tpl xs)) => some (.tpl xs, os.set i none)
    | _ => none
def sRet (ev : EvE) : EvS := fun os => match ev os with
  | some (r, os1) => match give os1 r with
    | some (o, os2) => some (.rt o os2)
    | none => none
  | none => none
/-- a slot is emptied: what it held -/
theorem SL.out {G H : Hp} : ∀ {vs : List (Option V)} {os : En} {f : FP} {i : Nat} {o : OD}, SL K G H vs os f → os[i]? = some (some o) →
    ∃ (v : V) (fo fr : FP), vs[i]? = some (some v) ∧ RO K G H v o fo ∧ (∀ a, f a = fo a + fr a) ∧ SL K G H vs (os.set i none) fr
  | _, _, _, _, _, .nil, h => by simp at h
  | _, _, _, 0, _, .un r, h => by simp at h
  | _, _, _, 0, o, .val (v := v) (f := f) (g := g) q r, h => by
    simp at h; subst h
    exact ⟨v, f, g, rfl, q, fun _ => rfl, .un r⟩
  | _, _, _, i + 1, o, .un (v := w) r, h => by
    obtain ⟨v, fo, fr, h1, h2, h3, h5⟩ := SL.out (i := i) r (by simpa using h)
    exact ⟨v, fo, fr, by simpa using h1, h2, h3, .un h5⟩
  | _, _, _, i + 1, o, .val (f := f) (g := g) q r, h => by
    obtain ⟨v, fo, fr, h1, h2, h3, h5⟩ := SL.out (i := i) r (by simpa using h)
    exact ⟨v, fo, fun a => f a + fr a, by simpa using h1, h2, fun a => by (try dsimp only); rw [h3 a]; omega, .val q h5⟩
/-- the value on the stack, and what it is -/
theorem Kont.gives {σ : L2.St} {G H H1 : Hp} {f : FP} {os1 os2 : En} {v : V} {r : RV} {o : OD} (k : Kont K σ [] G H f os1 [] [v] [r] H1) (e : DX.give os1 r = some (o, os2)) :
    ∃ G' f', SI K G' H1 (σ ++ [some v]) (os2 ++ [some o]) f' ∧ Stp G H f G' H1 f' ∧ σ.length = os2.length := by
  obtain ⟨G1, f1, I, s, a, l⟩ := k
  cases r with
  | tm o' => cases e; exact ⟨G1, f1, by simpa [RV.od] using I, s, l⟩
  | al i =>
    have I' : SI K G1 H1 (σ ++ [some v]) (os1 ++ [none]) f1 := by simpa [RV.od] using I
    have hv : σ[i]? = some (some v) := by
      cases a with
      | cons a _ => exact a
    obtain ⟨g, k, h1, h2, h3⟩ := SL.cut l I'.sl
    have J : SI K G1 H1 σ os1 g := I'.forget h1 fun a => by rw [h3]; omega
    have sg : Stp G H f G1 H1 g := s.trans (Stp.less fun a => by rw [h3]; omega)
    have e : (match os1[i]? with | some (some (.sh d)) => some (OD.sh d, os1) | some (some (.lst xs)) => some (OD.lst xs, os1.set i none) | some (some (.tpl xs)) => some (OD.tpl xs, os1.set i none) | _ => none) = some (o, os2) := e
    split at e
    · rename_i d e1
      cases e
      obtain ⟨v', fo, fr, q2, q3, _⟩ := J.sl.at e1
      rw [hv] at q2; cases q2
      cases q3 with
      | sh q3 => exact ⟨G1, g, J.push q3, sg, l⟩
    · rename_i xs e1
      cases e
      obtain ⟨v', fo, fr, q2, q3, q4, q5⟩ := SL.out J.sl e1
      rw [hv] at q2; cases q2
      obtain ⟨k2, k3, k4⟩ := SL.app q5 (SL.val q3 .nil)
      have k5 : ∀ a, k2 a = g a := fun a => by rw [k4, q4]; (try dsimp only); omega
      exact ⟨G1, g, ⟨k3.congr k5, J.sub, J.one, J.hid⟩, sg, by rw [List.length_set]; exact l⟩
    · rename_i xs e1
      cases e
      obtain ⟨v', fo, fr, q2, q3, q4, q5⟩ := SL.out J.sl e1
      rw [hv] at q2; cases q2
      obtain ⟨k2, k3, k4⟩ := SL.app q5 (SL.val q3 .nil)
      have k5 : ∀ a, k2 a = g a := fun a => by rw [k4, q4]; (try dsimp only); omega
      exact ⟨G1, g, ⟨k3.congr k5, J.sub, J.one, J.hid⟩, sg, by rw [List.length_set]; exact l⟩
    · cases e
theorem sr_ret {ev : EvE} {te : TE} (h : ER K ev te) : SR K R (sRet ev) (tRet te) := fun σ G H os f res D hl I e k => by
  unfold sRet at e
  split at e
  · rename_i r os1 e1
    split at e
    · rename_i o os2 e2
      cases e
      refine h σ [] G H os [] f r os1 _ hl rfl (by simpa using I) e1 fun v H1 k1 => ?_
      obtain ⟨G', f', I', s', l'⟩ := k1.gives e2
      exact k v H1 ⟨G', f', σ, I', s', l', fun _ _ => rfl⟩
    · cases e
  · cases e
theorem ss_ret {e : Expr} {ev : EvE} {pos : Pos} (h : SE X ev e) : SS X R (sRet ev) (.Return (some e) pos) := by
  obtain ⟨te, p, q⟩ := h
  exact ⟨_, ps_ret p, sr_ret q⟩
def sRetN : EvS := fun os => some (.rt (.sh .none) os)
theorem ss_retN {pos : Pos} : SS X R sRetN (.Return none pos) := ⟨_, ps_retN, fun σ G H os f res D hl I e k => by
  cases e
  exact k .non H ⟨G, f, σ, I.push .non, Stp.refl _ _ _, hl, fun _ _ => rfl⟩⟩

/-! ### if -/
def sIf (t : EvT) (a b : EvS) : EvS := fun os => match t os with
  | some (true, os1) => a os1
  | some (false, os1) => b os1
  | none => none
theorem sr_if {t : EvT} {a b : EvS} {tt : TT} {ta tb : TS} (h : TR K t tt) (ha : SR K R a ta) (hb : SR K R b tb) : SR K R (sIf t a b) (tIfS tt ta tb) := fun σ G H os f res D hl I e k => by
  unfold sIf at e
  split at e
  · rename_i os1 e1
    refine h σ [] G H os [] f true os1 _ hl rfl (by simpa using I) e1 fun H1 k1 => ?_
    obtain ⟨G1, f1, I1, s1, l1⟩ := k1
    rw [if_pos rfl]
    exact ha σ G1 H1 os1 f1 res D l1 (by simpa using I1) e (k.step s1 fun _ _ => rfl)
  · rename_i os1 e1
    refine h σ [] G H os [] f false os1 _ hl rfl (by simpa using I) e1 fun H1 k1 => ?_
    obtain ⟨G1, f1, I1, s1, l1⟩ := k1
    rw [if_neg Bool.false_ne_true]
    exact hb σ G1 H1 os1 f1 res D l1 (by simpa using I1) e (k.step s1 fun _ _ => rfl)
  · cases e
theorem ss_if {c : Expr} {a b : List Stmt} {t : EvT} {ea eb : EvS} {pos : Pos} (h : STt X t c) (ha : SSs X R ea a) (hb : SSs X R eb b) : SS X R (sIf t ea eb) (.If c a b pos) := by
  obtain ⟨tt, p, q⟩ := h
  obtain ⟨ta, p1, q1⟩ := ha
  obtain ⟨tb, p2, q2⟩ := hb
  exact ⟨_, ps_if p p1 p2, sr_if q q1 q2⟩

/-! ### an expression alone -/
def sExpr (ev : EvE) : EvS := fun os => match ev os with
  | some (_, os1) => some (.nx os1)
  | none => none
theorem ss_expr {e : Expr} {ev : EvE} {pos : Pos} (h : SE X ev e) (hs : swapsWith e none pos.line X.env = pure false := by rfl) : SS X R (sExpr ev) (.Expr e pos) := by
  obtain ⟨te, p, q⟩ := h
  refine ⟨_, ps_expr p hs, fun σ G H os f res D hl I e k => ?_⟩
  unfold sExpr at e
  split at e
  · rename_i r os1 e1
    cases e
    refine q σ [] G H os [] f r os1 _ hl rfl (by simpa using I) e1 fun v H1 k1 => ?_
    obtain ⟨G1, f1, I1, s1, l1⟩ := k1.drop rfl
    exact k σ H1 ⟨G1, f1, by simpa using I1, s1, l1, fun _ _ => rfl⟩
  · cases e

/-! ### name = value -/
/-- the stack's top goes into slot i -/
theorem SI.store {σ : L2.St} {G H : Hp} {os : En} {f : FP} {v : V} {o : OD} (I : SI K G H (σ ++ [some v]) (os ++ [some o]) f) (hl : σ.length = os.length) {i : Nat} (hi : i < os.length) :
    ∃ f', SI K G H (σ.set i (some v)) (os.set i (some o)) f' ∧ ∀ a, f' a ≤ f a := by
  obtain ⟨v', fo, fr, e, q, r, h⟩ := I.last hl
  cases e
  obtain ⟨fs, h1, _, h3⟩ := SL.put i r hi
  obtain ⟨g, g1, g2⟩ := h3 v o fo q
  exact ⟨g, I.forget g1 fun a => by rw [g2, h]; have := h1 a; omega, fun a => by rw [g2, h]; have := h1 a; omega⟩
def sAsg (R : List Nat) (i : Nat) (ev : EvE) : EvS := fun os => match ev os with
  | some (r, os1) => if i ∈ R ∨ os1.length ≤ i then none else match r with
    | .tm o => some (.nx (os1.set i (some o)))
    | .al j => match (hard os1 (.al j))[j]? with
      | some (some (.sh d)) => some (.nx ((hard os1 (.al j)).set i (some (.sh d))))
      | _ => none
  | none => none
theorem sr_asg {i : Nat} {ev : EvE} {te : TE} (h : ER K ev te) : SR K R (sAsg R i ev) (tAsg te (gName i)) := fun σ G H os f res D hl I e k => by
  unfold sAsg at e
  split at e
  · rename_i r os1 e1
    split at e
    · cases e
    · rename_i hi
      have hiR : i ∉ R := fun z => hi (.inl z)
      have hil : i < os1.length := by
        rcases Nat.lt_or_ge i os1.length with q | q
        · exact q
        · exact absurd (.inr q) hi
      have keepR : ∀ (v : V), ∀ j ∈ R, (σ.set i (some v))[j]? = σ[j]? := fun v j hj => by
        rw [List.getElem?_set_ne (fun z => by subst z; exact hiR hj)]
      refine h σ [] G H os [] f r os1 _ hl rfl (by simpa using I) e1 fun v H1 k1 => ?_
      obtain ⟨G1, f1, I1, s1, a1, l1⟩ := k1
      show D.nx (σ.set i (some v)) H1
      cases r with
      | tm o =>
        cases e
        obtain ⟨f2, I2, le⟩ := (show SI K G1 H1 (σ ++ [some v]) (os1 ++ [some o]) f1 by simpa [RV.od] using I1).store l1 hil
        exact k _ H1 ⟨G1, f2, I2, s1.trans (Stp.less le), by simp [l1], keepR v⟩
      | al j =>
        have hv : σ[j]? = some (some v) := by
          cases a1 with
          | cons a _ => exact a
        have I1 : SI K G1 H1 (σ ++ [some v]) (os1 ++ [none]) f1 := by simpa [RV.od] using I1
        obtain ⟨f2, I2, le⟩ := I1.pop l1
        obtain ⟨G3, f3, I3, s3⟩ := (show SI K G1 H1 σ (os1 ++ []) f2 by simpa using I2).hard (.al j)
        have I3 : SI K G3 H1 σ (hard os1 (.al j)) f3 := by simpa using I3
        have l3 : σ.length = (hard os1 (.al j)).length := by rw [len_hard]; exact l1
        simp only at e
        split at e
        · rename_i d e4
          cases e
          obtain ⟨v', fo, fr, q2, q3, _⟩ := I3.sl.at e4
          rw [hv] at q2; cases q2
          cases q3 with
          | sh q3 =>
            obtain ⟨f4, I4, le4⟩ := (I3.push q3).store l3 (i := i) (by rw [len_hard]; exact hil)
            exact k _ H1 ⟨G3, f4, I4, ((s1.trans (Stp.less le)).trans s3).trans (Stp.less le4), by simp [l3], keepR v⟩
        · cases e
  · cases e
theorem ss_asg (i : Nat) {x : Str} {e : Expr} {ev : EvE} {pos' pos : Pos} (hN : X.N.Nodup) (h : SE X ev e) (hi : X.N[i]? = some x := by rfl) (hx : Loc X.env.scope x := by first | exact Or.inl rfl | exact Or.inr rfl)
    (hs : swapsWith e (some (.Name x pos')) pos.line X.env = pure false := by rfl) (hf : X.fn x = true ∨ X.env.scope.names.lookup x = some .local := by first | exact .inl rfl | exact .inr rfl | assumption) : SS X R (sAsg R i ev) (.Assign [.Name x pos'] e pos) := by
  obtain ⟨te, p, q⟩ := h
  exact ⟨_, ps_set hN hi hx p hs hf, sr_asg q⟩
end
end DX
/-! DXMut: owned lists changed; targets; loops. -/
namespace DX
open PySem PySem.Spec PyProof.Rows L2

section
variable {K : PySem.W.Frag} {X : Cx} {R : List Nat}
theorem SL.mut {σ : L2.St} {G H : Hp} {os : En} {f0 tot : FP} {i : Nat} {xs : List OD} (hs : SL K G H σ os f0) (sub : Sub G H) (one : ∀ a, tot a ≤ 1) (hid : ∀ a, tot a ≠ 0 → G a = none) (h : os[i]? = some (some (.lst xs))) :
    ∃ (p : Addr) (vs : List V) (g0 fr : FP), σ[i]? = some (some (.ref p)) ∧ H p = some (.lst vs) ∧ ROs K G H vs xs g0 ∧ (∀ a, f0 a = (if a = p then 1 else 0) + g0 a + fr a) ∧
      ∀ (vs' : List V) (xs' : List OD) (g' : FP), ROs K G H vs' xs' g' → (∀ a, (if a = p then 1 else 0) + g' a + fr a ≤ tot a) →
        ∃ f', SI K G (upd H p (.lst vs')) σ (os.set i (some (.lst xs'))) f' ∧ (∀ a, f' a ≤ tot a) ∧ Stp G H tot G (upd H p (.lst vs')) f' := by
  obtain ⟨v, fo, fr, h1, h2, h3, h5⟩ := hs.at h
  cases h2 with
  | lst hp hr =>
    rename_i p vs g0
    refine ⟨p, vs, g0, fr, h1, hp, hr, fun a => by rw [h3], fun vs' xs' g' q le => ?_⟩
    have lp : ∀ a, a ≠ p → (upd H p (.lst vs')) a = H a := fun a z => upd_ne z
    have t1 : tot p = 1 := by
      have := le p; have := one p; rw [if_pos rfl] at *; omega
    have gp : g' p = 0 ∧ fr p = 0 := by
      have := le p; rw [if_pos rfl] at this; omega
    have kp : ∀ (a : Addr) (u : HO), a ≠ p → H a = some u → (upd H p (.lst vs')) a = some u := fun a u z e => by rw [lp a z]; exact e
    have q' : ROs K G (upd H p (.lst vs')) vs' xs' g' := q.mono (Sub.refl _) fun a u z e => kp a u (fun y => by subst y; exact z gp.1) e
    have sb : Sub G (upd H p (.lst vs')) := fun a u e => kp a u (fun y => by
      subst y
      have := hid a (by omega)
      rw [this] at e; cases e) (sub a u e)
    obtain ⟨f', k1, k2⟩ := h5 G (upd H p (.lst vs')) (Sub.refl _) (fun a u z e => kp a u (fun y => by subst y; exact z gp.2) e) (.ref p) (.lst xs') _ (.lst upd_same q')
    rw [set_id h1] at k1
    have lef : ∀ a, f' a ≤ tot a := fun a => by rw [k2]; (try dsimp only); have := le a; omega
    refine ⟨f', ⟨k1, sb, fun a => Nat.le_trans (lef a) (one a), fun a z => hid a (by have := lef a; omega)⟩, lef, ⟨Sub.refl _, fun a o e z => kp a o (fun y => by subst y; omega) e, fun a e => ?_, fun a e => .inl e, fun a z => .inl (by have := lef a; omega)⟩⟩
    by_cases y : a = p
    · subst y; rw [upd_same]; simp
    · rw [lp a y]; exact e

/-! ### append -/
def sApp (i : Nat) (ev : EvE) : EvS := fun os => match os[i]? with
  | some (some (.lst _)) => match ev os with
    | some (.tm o, os1) => match os1[i]? with
      | some (some (.lst xs)) => if xs.length < sizeLine then some (.nx (os1.set i (some (.lst (xs ++ [o]))))) else none
      | _ => none
    | some (.al j, os1) => match (hard os1 (.al j))[j]?, (hard os1 (.al j))[i]? with
      | some (some (.sh d)), some (some (.lst xs)) => if xs.length < sizeLine then some (.nx ((hard os1 (.al j)).set i (some (.lst (xs ++ [.sh d]))))) else none
      | _, _ => none
    | none => none
  | _ => none
theorem ROs.one {G H : Hp} {v : V} {o : OD} {f : FP} (h : RO K G H v o f) : ROs K G H [v] [o] f := by
  have : ROs K G H [v] [o] (fun a => f a + 0) := .cons h .nil
  exact this
theorem SI.app {σ : L2.St} {G H : Hp} {os : En} {f : FP} {v : V} {o : OD} (I : SI K G H (σ ++ [some v]) (os ++ [some o]) f) (hl : σ.length = os.length) {i : Nat} {xs : List OD} (h : os[i]? = some (some (.lst xs))) :
    ∃ p vs, σ[i]? = some (some (.ref p)) ∧ H p = some (.lst vs) ∧ vs.length = xs.length ∧ ∃ f', SI K G (upd H p (.lst (vs ++ [v]))) σ (os.set i (some (.lst (xs ++ [o])))) f' ∧ Stp G H f G (upd H p (.lst (vs ++ [v]))) f' := by
  obtain ⟨v', fo, f0, e, q, r, hf⟩ := I.last hl
  cases e
  obtain ⟨p, vs, g0, fr, h1, h2, h3, h4, h5⟩ := SL.mut r I.sub I.one I.hid h
  obtain ⟨k, k1, k2⟩ := ROs.app h3 (ROs.one q)
  obtain ⟨f', m1, m2, m3⟩ := h5 (vs ++ [v]) (xs ++ [o]) k k1 fun a => by rw [k2, hf, h4]; omega
  exact ⟨p, vs, h1, h2, h3.len, f', m1, m3⟩
theorem sr_app {i : Nat} {ev : EvE} {te : TE} (h : ER K ev te) : SR K R (sApp i ev) (tDrop (tBM K "list" rAppend (tVar i) (tCons te tNil))) := fun σ G H os f res D hl I e k => by
  unfold sApp at e
  split at e
  · rename_i ys e0
    obtain ⟨v0, _, _, w1, w2, _⟩ := I.sl.at e0
    have w3 : ∃ p vs, v0 = .ref p ∧ H p = some (.lst vs) := by
      cases w2 with
      | lst hp _ => exact ⟨_, _, rfl, hp⟩
    obtain ⟨p0, vs0, rfl, hp0⟩ := w3
    refine ⟨.ref p0, w1, .inl ⟨rfl, vs0, .inl (.inl hp0)⟩, ?_⟩
    split at e
    · rename_i o os1 e1
      split at e
      · rename_i xs e2
        split at e
        · rename_i c
          cases e
          refine h σ [] G H os [] f _ os1 _ hl rfl (by simpa using I) e1 fun v H1 k1 => ?_
          obtain ⟨G1, f1, I1, s1, a1, l1⟩ := k1
          obtain ⟨p, vs, q1, q2, q3, f', I2, s2⟩ := (show SI K G1 H1 (σ ++ [some v]) (os1 ++ [some o]) f1 by simpa [RV.od] using I1).app l1 e2
          rw [w1] at q1; cases q1
          refine ⟨p0, vs, v, rfl, rfl, q2, by rw [q3]; exact c, ?_⟩
          exact k σ _ ⟨G1, f', I2, s1.trans s2, by simp [l1], fun _ _ => rfl⟩
        · cases e
      · cases e
    · rename_i j os1 e1
      split at e
      · rename_i d xs e2 e3
        split at e
        · rename_i c
          cases e
          refine h σ [] G H os [] f _ os1 _ hl rfl (by simpa using I) e1 fun v H1 k1 => ?_
          obtain ⟨G1, f1, I1, s1, a1, l1⟩ := k1
          have hv : σ[j]? = some (some v) := by
            cases a1 with
            | cons a _ => exact a
          have I1 : SI K G1 H1 (σ ++ [some v]) (os1 ++ [none]) f1 := by simpa [RV.od] using I1
          obtain ⟨f2, I2, le⟩ := I1.pop l1
          obtain ⟨G3, f3, I3, s3⟩ := (show SI K G1 H1 σ (os1 ++ []) f2 by simpa using I2).hard (.al j)
          have I3 : SI K G3 H1 σ (hard os1 (.al j)) f3 := by simpa using I3
          have l3 : σ.length = (hard os1 (.al j)).length := by rw [len_hard]; exact l1
          obtain ⟨v', fo, fr, q2, q3, _⟩ := I3.sl.at e2
          rw [hv] at q2; cases q2
          cases q3 with
          | sh q3 =>
            obtain ⟨p, vs, q1, q2, q4, f', I5, s5⟩ := (I3.push q3).app l3 e3
            rw [w1] at q1; cases q1
            refine ⟨p0, vs, v, rfl, rfl, q2, by rw [q4]; exact c, ?_⟩
            exact k σ _ ⟨G3, f', I5, ((s1.trans (Stp.less le)).trans s3).trans s5, by simp [l3], fun _ _ => rfl⟩
        · cases e
      · cases e
    · cases e
  · cases e
theorem ss_app (i : Nat) {x : Str} {e : Expr} {ev : EvE} {px apos cpos pos : Pos} (h : SE X ev e) (hN : X.N[i]? = some x := by rfl) (hv : Vis X.env.scope x := by first | exact Or.inl rfl | exact Or.inr (Or.inl rfl) | exact Or.inr (Or.inr rfl))
    (hd : (x == ("__debug__" : Str)) = false := by decide) (hcd : (x == ("__classdict__" : Str)) = false := by decide) (hst : starEach (e :: []) X.env = (false, eval e X.env) :: starEach [] X.env := by rfl)
    (hbase : attributeBase (.Name x px) "append" X.env (eval (.Name x px) X.env) = eval (.Name x px) X.env := by rfl)
    (hfew : ((backTo cpos (starEach (e :: []) X.env)).all (fun x => !x.1) && (backToKw cpos (keywordEach [] X.env)).all (fun x => x.1.isSome)
      && decide ((e :: ([] : List Expr)).length + ([] : List Keyword).length + (if ([] : List Keyword).isEmpty then 0 else 1) < 30)) = true := by rfl)
    (hs : swapsWith (.Call (.Attribute (.Name x px) "append" apos) [e] [] cpos) none pos.line X.env = pure false := by rfl) (hline : (apos.endLine == cpos.line) = true := by rfl) :
    SS X R (sApp i ev) (.Expr (.Call (.Attribute (.Name x px) "append" apos) [e] [] cpos) pos) := by
  obtain ⟨te, p, q⟩ := h
  refine ⟨_, ps_expr (pe_bm PySem.F.plainAttrs_list PySem.F.slot_list_append PySem.F.type_list_append mt_append (pe_var hN hv hd hcd) (pa_cons p pa_nil hst) hbase hfew hline hst (by rfl)) hs, sr_app q⟩

/-! ### targets -/
abbrev EvG := PyData → En → Option En
def TGd (K : PySem.W.Frag) (R : List Nat) (tv : EvG) (g : TG) : Prop := ∀ (σ : L2.St) (G H : Hp) (os : En) (f : FP) (v : V) (d : PyData) (os' : En) (Q : L2.St → Hp → Prop),
  σ.length = os.length → SI K G H σ os f → Dx K G v d → tv d os = some os' → (∀ σ' H', KontS K R σ G H f os' σ' H' → Q σ' H') → g v σ H Q
abbrev EvGs := List PyData → En → Option En
def TGds (K : PySem.W.Frag) (R : List Nat) (tv : EvGs) (g : TGs) : Prop := ∀ (σ : L2.St) (G H : Hp) (os : En) (f : FP) (vs : List V) (ds : List PyData) (os' : En) (Q : L2.St → Hp → Prop),
  σ.length = os.length → SI K G H σ os f → DxAll K G vs ds → tv ds os = some os' → (∀ σ' H', KontS K R σ G H f os' σ' H' → Q σ' H') → g vs σ H Q
def ST (X : Cx) (R : List Nat) (tv : EvG) (t : Expr) : Prop := ∃ g, PG X t g ∧ TGd X.K R tv g
def STs (X : Cx) (R : List Nat) (tv : EvGs) (ts : List Expr) : Prop := ∃ g, PGs X ts g ∧ TGds X.K R tv g
def gvName (R : List Nat) (i : Nat) : EvG := fun d os => if i ∈ R ∨ os.length ≤ i then none else some (os.set i (some (.sh d)))
theorem tg_name {i : Nat} : TGd K R (gvName R i) (gName i) := fun σ G H os f v d os' Q hl I hd e k => by
  unfold gvName at e
  split at e
  · cases e
  · rename_i hi
    cases e
    have hil : i < os.length := by
      rcases Nat.lt_or_ge i os.length with q | q
      · exact q
      · exact absurd (.inr q) hi
    obtain ⟨f', I2, le⟩ := (I.push hd).store hl hil
    exact k _ H ⟨G, f', I2, Stp.less le, by simp [hl], fun j hj => by rw [List.getElem?_set_ne (fun z => by subst z; exact hi (.inl hj))]⟩
theorem sg_name (i : Nat) {x : Str} {pos : Pos} (hN : X.N.Nodup) (hi : X.N[i]? = some x := by rfl) (hx : Loc X.env.scope x := by first | exact Or.inl rfl | exact Or.inr rfl)
    (hf : X.fn x = true ∨ X.env.scope.names.lookup x = some .local := by first | exact .inl rfl | exact .inr rfl | assumption) : ST X R (gvName R i) (.Name x pos) := ⟨_, pg_name hN hi hx hf, tg_name⟩
def gvNil : EvGs := fun ds os => match ds with
  | [] => some os
  | _ => none
def gvCons (a : EvG) (b : EvGs) : EvGs := fun ds os => match ds with
  | d :: ds => match a d os with
    | some os1 => b ds os1
    | none => none
  | [] => none
theorem sgs_nil : STs X R gvNil [] := ⟨_, pgs_nil, fun σ G H os f vs ds os' Q hl I hd e k => by
  unfold gvNil at e
  split at e
  · cases e
    cases hd
    exact ⟨rfl, k σ H ⟨G, f, I, Stp.refl _ _ _, hl, fun _ _ => rfl⟩⟩
  · cases e⟩
theorem sgs_cons {t : Expr} {ts : List Expr} {a : EvG} {b : EvGs} (h : ST X R a t) (g : STs X R b ts) (ha : (assignEach (t :: ts) X.env).map (·.2) = assign t X.env :: (assignEach ts X.env).map (·.2) := by rfl) : STs X R (gvCons a b) (t :: ts) := by
  obtain ⟨g1, p, q⟩ := h
  obtain ⟨g2, p', q'⟩ := g
  refine ⟨_, pgs_cons p p' ha, fun σ G H os f vs ds os' Q hl I hd e k => ?_⟩
  unfold gvCons at e
  split at e
  · rename_i d ds'
    split at e
    · rename_i os1 e1
      cases hd with
      | cons a r =>
        refine ⟨_, _, rfl, q σ G H os f _ d os1 _ hl I a e1 fun σ1 H1 k1 => ?_⟩
        obtain ⟨G1, f1, I1, s1, l1, r1⟩ := k1
        exact q' σ1 G1 H1 os1 f1 _ _ os' Q l1 I1 (dps_sub s1.gsub r) e fun σ2 H2 k2 => k σ2 H2 (k2.step s1 r1)
    · cases e
  · cases e
def gvTup (n : Nat) (b : EvGs) : EvG := fun d os => match d with
  | .tuple ds => if ds.length = n then b ds os else none
  | _ => none
theorem sg_tup {es : List Expr} {kk : Nat} {pos : Pos} {n : Nat} {b : EvGs} (hc : X.calm = true) (h : STs X R b es) (hn : (assignEach es X.env).length = n := by rfl) (hst : (assignEach es X.env).findIdx? (·.1) = none := by rfl) : ST X R (gvTup n b) (.Tuple es kk pos) := by
  obtain ⟨g, p, q⟩ := h
  refine ⟨_, pg_tup hc p hn hst, fun σ G H os f v d os' Q hl I hd e k => ?_⟩
  unfold gvTup at e
  split at e
  · split at e
    · rename_i ds c
      cases hd with
      | tup r1 r2 => exact ⟨_, _, rfl, sqT_sub I.sub r1, by rw [dps_len r2]; exact c, q σ G H os f _ ds os' Q hl I r2 e k⟩
    · cases e
  · cases e
/-- xs[e] = d, xs a list that slot p owns -/
def gvSub (p : Nat) (ei : EvE) : EvG := fun d os => match os[p]? with
  | some (some (.lst _)) => match ei os with
    | some (r, os1) => match r.rd os1, os1[p]? with
      | some (.int i), some (some (.lst xs)) => match ixN xs.length i with
        | some j => some (os1.set p (some (.lst (xs.set j (.sh d)))))
        | none => none
      | _, _ => none
    | none => none
  | _ => none
theorem ROs.set {G H : Hp} {v : V} {d : PyData} (hv : Dx K G v d) : ∀ {vs : List V} {xs : List OD} {f : FP} (j : Nat), ROs K G H vs xs f → ∃ g, ROs K G H (vs.set j v) (xs.set j (.sh d)) g ∧ ∀ a, g a ≤ f a
  | _, _, _, j, .nil => ⟨_, .nil, fun _ => Nat.le_refl _⟩
  | _, _, _, 0, .cons (f := f) (g := g) _ r => ⟨_, .cons (.sh hv) r, fun a => by (try dsimp only); omega⟩
  | _, _, _, j + 1, .cons (f := f) (g := g) q r => by
    obtain ⟨k, k1, k2⟩ := ROs.set hv j r
    exact ⟨_, .cons q k1, fun a => by have := k2 a; (try dsimp only); omega⟩
theorem sg_sub (p : Nat) {x : Str} {ie : Expr} {ei : EvE} {px pos : Pos} (h : SE X ei ie) (hN : X.N[p]? = some x := by rfl) (hv : Vis X.env.scope x := by first | exact Or.inl rfl | exact Or.inr (Or.inl rfl) | exact Or.inr (Or.inr rfl))
    (hd : (x == ("__debug__" : Str)) = false := by decide) (hcd : (x == ("__classdict__" : Str)) = false := by decide)
    (ha : ∀ v, assign (.Subscript (.Name x px) ie pos) X.env v = (do
      let ov ← holding [v] (eval (.Name x px) X.env)
      let iv ← holding [v, ov] (eval ie X.env)
      standAt pos
      holding [v, ov, iv] (setItem ov iv v)
      release [v, ov, iv] []) := by intro _; rfl) : ST X R (gvSub p ei) (.Subscript (.Name x px) ie pos) := by
  obtain ⟨te, q1, q2⟩ := h
  refine ⟨_, pg_sub (pe_var hN hv hd hcd) q1 set_list ha, fun σ G H os f v d os' Q hl I hd e k => ?_⟩
  unfold gvSub at e
  split at e
  · rename_i ys e0
    obtain ⟨v0, _, _, w1, w2, _⟩ := I.sl.at e0
    have w3 : ∃ p vs, v0 = .ref p ∧ H p = some (.lst vs) := by
      cases w2 with
      | lst hp _ => exact ⟨_, _, rfl, hp⟩
    obtain ⟨p0, vs0, rfl, hp0⟩ := w3
    split at e
    · rename_i r os1 e1
      split at e
      · rename_i i xs e2 e3
        split at e
        · rename_i j e4
          cases e
          refine ⟨.ref p0, w1, ?_⟩
          refine q2 σ [] G H os [] f r os1 _ hl rfl (by simpa using I) e1 fun w H1 k1 => ?_
          have hw := k1.read1 rfl e2
          cases hw
          obtain ⟨G1, f1, I1, s1, l1⟩ := k1.drop rfl
          have I1 : SI X.K G1 H1 σ os1 f1 := by simpa using I1
          obtain ⟨p, vs, g0, fr, m1, m2, m3, m4, m5⟩ := SL.mut I1.sl I1.sub I1.one I1.hid e3
          rw [w1] at m1; cases m1
          obtain ⟨g', n1, n2⟩ := ROs.set (dp_sub s1.gsub hd) j m3
          obtain ⟨f', o1, o2, o3⟩ := m5 _ _ g' n1 fun a => by rw [m4]; have := n2 a; omega
          refine ⟨p0, vs, i, j, rfl, rfl, m2, by rw [m3.len]; exact e4, ?_⟩
          exact k σ _ ⟨G1, f', o1, s1.trans o3, by simp [l1], fun _ _ => rfl⟩
        · cases e
      · cases e
    · cases e
  · cases e

/-! ### target = value, the value shared from there on -/
def sAsgG (tv : EvG) (ev : EvE) : EvS := fun os => match ev os with
  | some (r, os1) => match rdAll os1 [r] with
    | some [d] => match tv d (hardAll os1 [r]) with
      | some os2 => some (.nx os2)
      | none => none
    | _ => none
  | none => none
theorem sr_asgG {tv : EvG} {ev : EvE} {te : TE} {g : TG} (h : ER K ev te) (hg : TGd K R tv g) : SR K R (sAsgG tv ev) (tAsg te g) := fun σ G H os f res D hl I e k => by
  unfold sAsgG at e
  split at e
  · rename_i r os1 e1
    split at e
    · rename_i d e2
      split at e
      · rename_i os2 e3
        cases e
        refine h σ [] G H os [] f r os1 _ hl rfl (by simpa using I) e1 fun v H1 k1 => ?_
        obtain ⟨G1, f1, I1, s1, a1, l1⟩ := k1
        obtain ⟨G2, f2, I2, s2, hd⟩ := I1.popC l1 rfl a1 e2
        obtain ⟨w, ew, hw⟩ := dps1 hd
        cases ew
        exact hg σ G2 H1 _ f2 v d os2 D.nx (by rw [len_hardAll]; exact l1) (by simpa using I2) hw e3 fun σ' H' k2 => k σ' H' (k2.step (s1.trans s2) fun _ _ => rfl)
      · cases e
    · cases e
  · cases e
theorem ss_asgG {t e : Expr} {tv : EvG} {ev : EvE} {pos : Pos} (hg : ST X R tv t) (h : SE X ev e) (hs : swapsWithSole [t] e pos.line X.env = pure false := by rfl) (hw : swappedStores [t] e X.env = pure none := by rfl)
    (h1 : (assignEach [t] X.env).map (·.2) = [assign t X.env] := by rfl) : SS X R (sAsgG tv ev) (.Assign [t] e pos) := by
  obtain ⟨te, p, q⟩ := h
  obtain ⟨g, p', q'⟩ := hg
  exact ⟨_, ps_asg p p' hs hw h1, sr_asgG q q'⟩
end
end DX
/-! DXLoop: loops. -/
namespace DX
open PySem PySem.Spec PyProof.Rows L2

/-- the heap has grown -/
structure Nw (G H G' H' : Hp) : Prop where
  gs : Sub G G'
  hs : Sub H H'
  sub : Sub G' H'
  gn : ∀ a, G' a ≠ none → G a ≠ none ∨ H a = none
section
variable {K : PySem.W.Frag} {X : Cx} {R : List Nat}
theorem Nw.refl {G H : Hp} (s : Sub G H) : Nw G H G H := ⟨Sub.refl _, Sub.refl _, s, fun _ h => .inl h⟩
theorem ne_of_sub {H H' : Hp} (s : Sub H H') {a : Addr} (h : H a ≠ none) : H' a ≠ none := by
  cases e : H a with
  | none => exact absurd e h
  | some u => rw [s a u e]; simp
theorem SI.nw {G H G' H' : Hp} {vs : List (Option V)} {os : En} {f : FP} (I : SI K G H vs os f) (n : Nw G H G' H') : SI K G' H' vs os f ∧ Stp G H f G' H' f := by
  refine ⟨⟨I.sl.mono n.gs fun a u _ e => n.hs a u e, n.sub, I.one, fun a q => ?_⟩, ⟨n.gs, fun a o e _ => n.hs a o e, fun a e => ne_of_sub n.hs e, fun a e => ?_, fun a e => .inl e⟩⟩
  · cases e : G' a with
    | none => rfl
    | some u =>
      rcases n.gn a (by rw [e]; simp) with z | z
      · exact absurd (I.hid a q) z
      · exact absurd z (I.live a q)
  · rcases n.gn a e with z | z
    · exact .inl z
    · exact .inr (.inl z)

/-- an iterator over ds -/
def ItOk (K : PySem.W.Frag) (G : Hp) (J : It) (ds : List PyData) : Prop := ∀ (i : Nat) (G2 H2 : Hp), Sub G G2 → Sub G2 H2 →
  (i < ds.length → J.go i H2) ∧ (ds.length ≤ i → J.stop i H2) ∧ ∀ x H3 d, ds[i]? = some d → J.yld i H2 x H3 → ∃ G3, Nw G2 H2 G3 H3 ∧ Dx K G3 x d
abbrev EvI := En → Option (List PyData × En)
def IR (K : PySem.W.Frag) (ev : EvI) (wi : TI) : Prop := ∀ (σ τ : List (Option V)) (G H : Hp) (os θ : En) (f : FP) (ds : List PyData) (os' : En) (Q : It → Hp → Prop),
  σ.length = os.length → τ.length = θ.length → SI K G H (σ ++ τ) (os ++ θ) f → ev os = some (ds, os') →
  (∀ J H' G' f', SI K G' H' (σ ++ τ) (os' ++ θ) f' → Stp G H f G' H' f' → σ.length = os'.length → ItOk K G' J ds → Q J H') → wi σ H Q
def SI' (X : Cx) (tg : Expr) (ev : EvI) (it : Expr) : Prop := ∃ wi, PI X tg it wi ∧ IR X.K ev wi
theorem pi_or {tg it : Expr} {w1 w2 : TI} (h : PI X tg it w1) (g : PI X tg it w2) : PI X tg it (fun σ H R => w1 σ H R ∨ w2 σ H R) :=
  ⟨fun pins s σ H R I q => q.elim (h.run pins s σ H R I) (g.run pins s σ H R I)⟩
def signs (x : Str) : List PyData := x.cps.toList.map fun c => PyData.str ⟨#[c]⟩
def itemsD : PyData → Option (List PyData)
  | .list ds => some ds
  | .tuple ds => some ds
  | .str x => some (signs x)
  | _ => none
def iSq (ev : EvE) : EvI := fun os => match ev os with
  | some (r, os1) => match rdAll os1 [r] with
    | some [d] => match itemsD d with
      | some ds => some (ds, hardAll os1 [r])
      | none => none
    | _ => none
  | none => none
theorem ir_sq {ev : EvE} {te : TE} (h : ER K ev te) : IR K (iSq ev) (fun σ H Q => iList K te σ H Q ∨ iTup K te σ H Q ∨ iStr te σ H Q) := fun σ τ G H os θ f ds os' Q hl ht I e k => by
  unfold iSq at e
  split at e
  · rename_i r os1 e1
    split at e
    · rename_i d e2
      split at e
      · rename_i ds' e3
        cases e
        have core : ∀ v H1, Kont K σ τ G H f os1 θ [v] [r] H1 → ∃ G2 f2, SI K G2 H1 (σ ++ τ) (hardAll os1 [r] ++ θ) f2 ∧ Stp G H f G2 H1 f2 ∧ σ.length = (hardAll os1 [r]).length ∧ Dx K G2 v d := fun v H1 k1 => by
          obtain ⟨G1, f1, I1, s1, a1, l1⟩ := k1
          obtain ⟨G2, f2, I2, s2, hd⟩ := I1.popC l1 ht a1 e2
          obtain ⟨w, ew, hw⟩ := dps1 hd
          cases ew
          exact ⟨G2, f2, I2, s1.trans s2, by rw [len_hardAll]; exact l1, hw⟩
        cases d with
        | list xs =>
          cases e3
          refine .inl (h σ τ G H os θ f r os1 _ hl ht I e1 fun v H1 k1 => ?_)
          obtain ⟨G2, f2, I2, s2, l2, hd⟩ := core v H1 k1
          cases hd with
          | lst q qs =>
            rename_i a vs
            refine ⟨a, rfl, ⟨vs, sqL_sub I2.sub q⟩, k _ H1 G2 f2 I2 s2 l2 fun i G3 H3 g1 g2 => ⟨fun hi => ?_, fun hi => ?_, fun x H4 d hd y => ?_⟩⟩
            · obtain ⟨v, e5, _⟩ := dps_get qs (List.getElem?_eq_getElem hi)
              exact ⟨vs, v, sqL_sub (g1.trans g2) q, e5⟩
            · exact ⟨vs, sqL_sub (g1.trans g2) q, by rw [dps_len qs]; exact hi⟩
            · obtain ⟨rfl, y⟩ := y
              have z := y vs (sqL_sub (g1.trans g2) q)
              obtain ⟨v, e5, e6⟩ := dps_get qs hd
              rw [z] at e5; cases e5
              exact ⟨G3, Nw.refl g2, dp_sub g1 e6⟩
        | tuple xs =>
          cases e3
          refine .inr (.inl (h σ τ G H os θ f r os1 _ hl ht I e1 fun v H1 k1 => ?_))
          obtain ⟨G2, f2, I2, s2, l2, hd⟩ := core v H1 k1
          cases hd with
          | tup q qs =>
            rename_i a vs
            refine ⟨a, rfl, ⟨vs, sqT_sub I2.sub q⟩, k _ H1 G2 f2 I2 s2 l2 fun i G3 H3 g1 g2 => ⟨fun hi => ?_, fun hi => ?_, fun x H4 d hd y => ?_⟩⟩
            · obtain ⟨v, e5, _⟩ := dps_get qs (List.getElem?_eq_getElem hi)
              exact ⟨vs, v, sqT_sub (g1.trans g2) q, e5⟩
            · exact ⟨vs, sqT_sub (g1.trans g2) q, by rw [dps_len qs]; exact hi⟩
            · obtain ⟨rfl, y⟩ := y
              have z := y vs (sqT_sub (g1.trans g2) q)
              obtain ⟨v, e5, e6⟩ := dps_get qs hd
              rw [z] at e5; cases e5
              exact ⟨G3, Nw.refl g2, dp_sub g1 e6⟩
        | str x =>
          cases e3
          refine .inr (.inr (h σ τ G H os θ f r os1 _ hl ht I e1 fun v H1 k1 => ?_))
          obtain ⟨G2, f2, I2, s2, l2, hd⟩ := core v H1 k1
          cases hd
          have hln : (signs x).length = x.cps.size := by unfold signs; rw [List.length_map]; simp
          refine ⟨x, rfl, k _ H1 G2 f2 I2 s2 l2 fun i G3 H3 g1 g2 => ⟨fun hi => ?_, fun hi => ?_, fun y H4 d hd z => ?_⟩⟩
          · show i < x.cps.size
            omega
          · show x.cps.size ≤ i
            omega
          · obtain ⟨rfl, c, z1, rfl⟩ := z
            have : d = .str ⟨#[c]⟩ := by
              unfold signs at hd
              rw [List.getElem?_map, Array.getElem?_toList, z1] at hd
              exact (Option.some.inj hd).symm
            subst this
            exact ⟨G3, Nw.refl g2, .str _ (by show 1 ≤ strMax; decide)⟩
        | none => cases e3
        | bool _ => cases e3
        | int _ => cases e3
        | dict _ => cases e3
      · cases e
    · cases e
  · cases e
theorem si_sq {tg l : Expr} {ev : EvE} (h : SE X ev l) : SI' X tg (iSq ev) l := by
  obtain ⟨te, p, q⟩ := h
  exact ⟨_, pi_or (pi_list p) (pi_or (pi_tup p) (pi_str p)), ir_sq q⟩

/-! ### ranges -/
def rangeD (lo : Int) (n : Nat) : List PyData := (List.range n).map fun i => PyData.int (lo + (i : Nat))
theorem rangeD_len (lo : Int) (n : Nat) : (rangeD lo n).length = n := by unfold rangeD; simp
theorem rangeD_get {lo : Int} {n i : Nat} {d : PyData} (h : (rangeD lo n)[i]? = some d) : d = .int (lo + (i : Nat)) := by
  unfold rangeD at h
  rw [List.getElem?_map] at h
  cases e : (List.range n)[i]? with
  | none => rw [e] at h; cases h
  | some j =>
    rw [e] at h
    have hj := List.getElem?_eq_some_iff.mp e
    obtain ⟨h1, h2⟩ := hj
    rw [List.getElem_range] at h2
    subst h2
    exact (Option.some.inj h).symm
theorem itok_range {G : Hp} {lo : Int} {n : Nat} : ItOk K G (Itr lo n) (rangeD lo n) := fun i G2 H2 g1 g2 => by
  rw [rangeD_len]
  exact ⟨fun h => h, fun h => h, fun x H3 d hd y => by
    obtain ⟨rfl, rfl⟩ := y
    rw [rangeD_get hd]
    exact ⟨G2, Nw.refl g2, .int _⟩⟩
def fit62 (i : Int) : Bool := Nat.blt i.natAbs 4611686018427387904
theorem fit62_lt {i : Int} (h : fit62 i = true) : -(2 ^ 62) ≤ i ∧ i < 2 ^ 62 := by
  have : i.natAbs < 4611686018427387904 := Nat.le_of_ble_eq_true h
  omega
theorem fit62_of {i : Int} (h : i.natAbs < 4611686018427387904) : fit62 i = true := Nat.ble_eq_true_of_le h
def iR1 (ev : EvEs) : EvI := fun os => match ev os with
  | some (rs, os1) => match rdAll os1 rs with
    | some [.int j] => if fit62 j = true then some (rangeD 0 j.toNat, os1) else none
    | _ => none
  | none => none
def iR2 (ev : EvEs) : EvI := fun os => match ev os with
  | some (rs, os1) => match rdAll os1 rs with
    | some [.int i, .int j] => if (fit62 i && fit62 j) = true then some (rangeD i (j - i).toNat, os1) else none
    | _ => none
  | none => none
theorem ir_r1 {ev : EvEs} {ta : TA} (h : ERs K ev ta) : IR K (iR1 ev) (iRng1 ta) := fun σ τ G H os θ f ds os' Q hl ht I e k => by
  unfold iR1 at e
  split at e
  · rename_i rs os1 e1
    split at e
    · rename_i j e2
      split at e
      · rename_i c
        cases e
        refine h σ τ G H os θ f rs _ _ hl ht I e1 fun vs H1 k1 => ?_
        obtain ⟨G1, f1, I1, s1, a1, l1⟩ := k1
        obtain ⟨hd, f2, I2, le⟩ := I1.popA l1 ht a1 e2
        obtain ⟨w, rfl, hw⟩ := dps1 hd
        cases hw
        have c := fit62_lt c
        exact ⟨j, rfl, c.1, c.2, k _ H1 G1 f2 I2 (s1.trans (Stp.less le)) l1 itok_range⟩
      · cases e
    · cases e
  · cases e
theorem ir_r2 {ev : EvEs} {ta : TA} (h : ERs K ev ta) : IR K (iR2 ev) (iRng2 ta) := fun σ τ G H os θ f ds os' Q hl ht I e k => by
  unfold iR2 at e
  split at e
  · rename_i rs os1 e1
    split at e
    · rename_i i j e2
      split at e
      · rename_i c
        cases e
        refine h σ τ G H os θ f rs _ _ hl ht I e1 fun vs H1 k1 => ?_
        obtain ⟨G1, f1, I1, s1, a1, l1⟩ := k1
        obtain ⟨hd, f2, I2, le⟩ := I1.popA l1 ht a1 e2
        obtain ⟨v, w, rfl, hv, hw⟩ := dps2 hd
        cases hv; cases hw
        obtain ⟨c1, c2⟩ := Bool.and_eq_true_iff.mp c
        have c1 := fit62_lt c1
        have c2 := fit62_lt c2
        exact ⟨i, j, rfl, ⟨c1.1, c1.2, c2.1, c2.2⟩, k _ H1 G1 f2 I2 (s1.trans (Stp.less le)) l1 itok_range⟩
      · cases e
    · cases e
  · cases e
theorem si_r1 {tg a : Expr} {ev : EvEs} {p pos : Pos} (hm : X.mg "range" = none) (h : SEs X ev [a]) (hg : Gl X "range" := by rfl) (hs : starEach [a] X.env = [(false, eval a X.env)] := by rfl) : SI' X tg (iR1 ev) (.Call (.Name "range" p) [a] [] pos) := by
  obtain ⟨ta, q1, q2⟩ := h
  exact ⟨_, pi_range1 hg hm q1 hs, ir_r1 q2⟩
theorem si_r2 {tg a b : Expr} {ev : EvEs} {p pos : Pos} (hm : X.mg "range" = none) (h : SEs X ev [a, b]) (hg : Gl X "range" := by rfl) (hs : starEach [a, b] X.env = [(false, eval a X.env), (false, eval b X.env)] := by rfl) (hs2 : starEach [b] X.env = [(false, eval b X.env)] := by rfl) : SI' X tg (iR2 ev) (.Call (.Name "range" p) [a, b] [] pos) := by
  obtain ⟨ta, q1, q2⟩ := h
  exact ⟨_, pi_range2 hg hm q1 hs hs2, ir_r2 q2⟩

/-! ### enumerate of a list, zip of two -/
/-- a new pair -/
theorem nw_pair {G H : Hp} {x y : V} {d e : PyData} (s : Sub G H) (hx : Dx K G x d) (hy : Dx K G y e) {T : Addr} (hT : H T = none) : ∃ G3, Nw G H G3 (upd H T (.tup [x, y])) ∧ Dx K G3 (.ref T) (.tuple [d, e]) := by
  have gT : G T = none := by
    cases q : G T with
    | none => rfl
    | some u => have := s T u q; rw [hT] at this; cases this
  refine ⟨upd G T (.tup [x, y]), ⟨sub_upd (Sub.refl _) gT, sub_upd (Sub.refl _) hT, sub_upd2 s, fun a h => ?_⟩, .tup (SqT.of upd_same) (.cons (dp_sub (sub_upd (Sub.refl _) gT) hx) (.cons (dp_sub (sub_upd (Sub.refl _) gT) hy) .nil))⟩
  by_cases z : a = T
  · subst z; exact .inr hT
  · rw [upd_ne z] at h; exact .inl h
def enumD (n : Nat) : List PyData → List PyData
  | [] => []
  | d :: ds => .tuple [.int (n : Nat), d] :: enumD (n + 1) ds
theorem enumD_len : ∀ (ds : List PyData) (n : Nat), (enumD n ds).length = ds.length
  | [], _ => rfl
  | _ :: ds, n => by show (enumD (n + 1) ds).length + 1 = _; rw [enumD_len ds]; rfl
theorem enumD_get : ∀ {ds : List PyData} {n i : Nat} {e : PyData}, (enumD n ds)[i]? = some e → ∃ d, ds[i]? = some d ∧ e = .tuple [.int ((n + i : Nat) : Int), d]
  | [], _, _, _, h => by simp [enumD] at h
  | d :: ds, n, 0, e, h => by simp [enumD] at h; exact ⟨d, rfl, h.symm⟩
  | d :: ds, n, i + 1, e, h => by
    obtain ⟨d', h1, h2⟩ := enumD_get (ds := ds) (n := n + 1) (i := i) (by simpa [enumD] using h)
    exact ⟨d', by simpa using h1, by rw [h2, show n + 1 + i = n + (i + 1) by omega]⟩
def iEn (ev : EvEs) : EvI := fun os => match ev os with
  | some (rs, os1) => match rdAll os1 rs with
    | some [.list ds] => some (enumD 0 ds, hardAll os1 rs)
    | _ => none
  | none => none
theorem ir_en {ev : EvEs} {ta : TA} (h : ERs K ev ta) : IR K (iEn ev) (iEnum K ta) := fun σ τ G H os θ f ds os' Q hl ht I e k => by
  unfold iEn at e
  split at e
  · rename_i rs os1 e1
    split at e
    · rename_i xs e2
      cases e
      refine h σ τ G H os θ f rs _ _ hl ht I e1 fun vs H1 k1 => ?_
      obtain ⟨G1, f1, I1, s1, a1, l1⟩ := k1
      obtain ⟨G2, f2, I2, s2, hd⟩ := I1.popC l1 ht a1 e2
      obtain ⟨w, rfl, hw⟩ := dps1 hd
      cases hw with
      | lst q qs =>
        rename_i a us
        refine ⟨a, us, rfl, sqL_sub I2.sub q, k _ H1 G2 f2 I2 (s1.trans s2) (by rw [len_hardAll]; exact l1) fun i G3 H3 g1 g2 => ⟨fun hi => ?_, fun hi => ?_, fun x H4 d hd y => ?_⟩⟩
        · rw [enumD_len] at hi
          obtain ⟨v, e5, _⟩ := dps_get qs (List.getElem?_eq_getElem hi)
          exact ⟨us, v, sqL_sub (g1.trans g2) q, e5⟩
        · rw [enumD_len] at hi
          exact ⟨us, sqL_sub (g1.trans g2) q, by rw [dps_len qs]; exact hi⟩
        · obtain ⟨T, z, rfl, hT, rfl, y⟩ := y
          have y := y us (sqL_sub (g1.trans g2) q)
          obtain ⟨d', h1, h2⟩ := enumD_get hd
          obtain ⟨v, e5, e6⟩ := dps_get qs h1
          rw [y] at e5; cases e5
          subst h2
          have := nw_pair (K := K) g2 (.int ((i : Nat) : Int)) (dp_sub g1 e6) hT
          simpa using this
    · cases e
  · cases e
theorem si_en {a : Expr} {ev : EvEs} {p pos tpos : Pos} {elts : List Expr} {kk : Nat} (hm : X.mg "enumerate" = none) (h : SEs X ev [a]) (hg : Gl X "enumerate" := by rfl) (hs : starEach [a] X.env = [(false, eval a X.env)] := by rfl) : SI' X (.Tuple elts kk tpos) (iEn ev) (.Call (.Name "enumerate" p) [a] [] pos) := by
  obtain ⟨ta, q1, q2⟩ := h
  exact ⟨_, pi_enum hg hm q1 hs, ir_en q2⟩

/-! ### for -/
def forF (tv : EvG) (b : EvS) : List PyData → En → Option Res
  | [], os => some (.nx os)
  | d :: ds, os => match tv d os with
    | some os1 => match b os1 with
      | some (.nx os2) => forF tv b ds os2
      | some (.ct os2) => forF tv b ds os2
      | some (.bk os2) => some (.nx os2)
      | some (.rt o os2) => some (.rt o os2)
      | none => none
    | none => none
def sFor (it : EvI) (tv : EvG) (b : EvS) : EvS := fun os => match it os with
  | some (ds, os1) => forF tv b ds os1
  | none => none
theorem sr_for {it : EvI} {tv : EvG} {b : EvS} {wi : TI} {g : TG} {tb : TS} (hi : IR K it wi) (hg : TGd K R tv g) (hb : SR K R b tb) : SR K R (sFor it tv b) (tFor wi g tb) := fun σ G H os f res D hl I e k => by
  unfold sFor at e
  split at e
  · rename_i ds os1 e1
    refine hi σ [] G H os [] f ds os1 _ hl rfl (by simpa using I) e1 fun J H1 G1 f1 I1 s1 l1 it => ?_
    have I1 : SI K G1 H1 σ os1 f1 := by simpa using I1
    have k : Post K R σ G1 H1 f1 D res := k.step s1 fun _ _ => rfl
    refine ⟨fun i m σ' H' => m = ds.length - i ∧ i ≤ ds.length ∧ ∃ os2, KontS K R σ G1 H1 f1 os2 σ' H' ∧ forF tv b (ds.drop i) os2 = some res,
      ⟨ds.length, by simp, Nat.zero_le _, os1, ⟨G1, f1, I1, Stp.refl _ _ _, l1, fun _ _ => rfl⟩, by simpa using e⟩, fun i m σ' H' hW => ?_⟩
    obtain ⟨rfl, hle, os2, ⟨G2, f2, I2, s2, l2, r2⟩, e2⟩ := hW
    obtain ⟨j1, j2, j3⟩ := it i G2 H' s2.gsub I2.sub
    by_cases hlt : i < ds.length
    · refine .inr ⟨j1 hlt, fun σ3 H3 => ∃ os3, KontS K R σ G1 H1 f1 os3 σ3 H3 ∧ forF tv b (ds.drop (i + 1)) os3 = some res, fun σ3 H3 ⟨os3, k3, e3⟩ => ⟨ds.length - (i + 1), by omega, rfl, hlt, os3, k3, e3⟩, fun x H3 y => ?_⟩
      have hd : ds[i]? = some ds[i] := List.getElem?_eq_getElem hlt
      obtain ⟨G3, n3, hx⟩ := j3 x H3 _ hd y
      obtain ⟨I3, s3⟩ := I2.nw n3
      rw [List.drop_eq_getElem_cons hlt] at e2
      unfold forF at e2
      split at e2
      · rename_i os3 e3
        refine hg σ' G3 H3 os2 f2 x ds[i] os3 _ l2 I3 hx e3 fun σ4 H4 k4 => ?_
        obtain ⟨G4, f4, I4, s4, l4, r4⟩ := k4
        have st : Stp G1 H1 f1 G4 H4 f4 := (s2.trans s3).trans s4
        have rr : ∀ j ∈ R, σ4[j]? = σ[j]? := fun j hj => (r4 j hj).trans (r2 j hj)
        split at e2
        · rename_i os4 e4
          exact hb σ4 G4 H4 os3 f4 _ _ l4 I4 e4 fun σ5 H5 k5 => ⟨os4, k5.step st rr, e2⟩
        · rename_i os4 e4
          exact hb σ4 G4 H4 os3 f4 _ _ l4 I4 e4 fun σ5 H5 k5 => ⟨os4, k5.step st rr, e2⟩
        · rename_i os4 e4
          cases e2
          exact hb σ4 G4 H4 os3 f4 _ _ l4 I4 e4 fun σ5 H5 k5 => k σ5 H5 (k5.step st rr)
        · rename_i o os4 e4
          cases e2
          exact hb σ4 G4 H4 os3 f4 _ _ l4 I4 e4 fun v H5 k5 => k v H5 (k5.step st rr)
        · cases e2
      · cases e2
    · have ei : i = ds.length := by omega
      subst ei
      rw [List.drop_length] at e2
      cases e2
      exact .inl ⟨j2 (Nat.le_refl _), k σ' H' ⟨G2, f2, I2, s2, l2, r2⟩⟩
  · cases e
theorem ss_for {tg it : Expr} {body : List Stmt} {ei : EvI} {tv : EvG} {b : EvS} {pos : Pos} (hc : X.calm = true) (hp : PassesOwn (model X.prog X.w) X.A X.env X.xe) (hi : SI' X tg ei it) (hg : ST X R tv tg) (hb : SSs X R b body)
    (hs : ∀ x, foldedSetIterable it X.env x = pure x := by intro _; rfl) : SS X R (sFor ei tv b) (.For tg it body [] pos) := by
  obtain ⟨wi, p1, q1⟩ := hi
  obtain ⟨g, p2, q2⟩ := hg
  obtain ⟨tb, p3, q3⟩ := hb
  exact ⟨_, ps_for hp hc p1 p2 p3 hs, sr_for q1 q2 q3⟩

/-! ### while: n turns at most -/
def whF (t : EvT) (b : EvS) : Nat → En → Option Res
  | 0, _ => none
  | n + 1, os => match t os with
    | some (true, os1) => match b os1 with
      | some (.nx os2) => whF t b n os2
      | some (.ct os2) => whF t b n os2
      | some (.bk os2) => some (.nx os2)
      | some (.rt o os2) => some (.rt o os2)
      | none => none
    | some (false, os1) => some (.nx os1)
    | none => none
theorem sr_while {t : EvT} {b : EvS} {tt : TT} {tb : TS} {n : Nat} (ht : TR K t tt) (hb : SR K R b tb) : SR K R (whF t b n) (tWhile tt tb) := fun σ G H os f res D hl I e k => by
  refine ⟨fun m σ' H' => ∃ os2, KontS K R σ G H f os2 σ' H' ∧ whF t b m os2 = some res, ⟨n, os, ⟨G, f, I, Stp.refl _ _ _, hl, fun _ _ => rfl⟩, e⟩, fun m σ' H' hW => ?_⟩
  obtain ⟨os2, ⟨G2, f2, I2, s2, l2, r2⟩, e2⟩ := hW
  cases m with
  | zero => cases e2
  | succ m =>
    unfold whF at e2
    split at e2
    · rename_i os3 e3
      refine ht σ' [] G2 H' os2 [] f2 true os3 _ l2 rfl (by simpa using I2) e3 fun H3 k3 => ?_
      obtain ⟨G3, f3, I3, s3, l3⟩ := k3
      rw [if_pos rfl]
      have st : Stp G H f G3 H3 f3 := s2.trans s3
      refine ⟨fun σ4 H4 => ∃ os4, KontS K R σ G H f os4 σ4 H4 ∧ whF t b m os4 = some res, fun σ4 H4 ⟨os4, k4, e4⟩ => ⟨m, Nat.lt_succ_self _, os4, k4, e4⟩, ?_⟩
      split at e2
      · rename_i os4 e4
        exact hb σ' G3 H3 os3 f3 _ _ l3 (by simpa using I3) e4 fun σ5 H5 k5 => ⟨os4, k5.step st r2, e2⟩
      · rename_i os4 e4
        exact hb σ' G3 H3 os3 f3 _ _ l3 (by simpa using I3) e4 fun σ5 H5 k5 => ⟨os4, k5.step st r2, e2⟩
      · rename_i os4 e4
        cases e2
        exact hb σ' G3 H3 os3 f3 _ _ l3 (by simpa using I3) e4 fun σ5 H5 k5 => k σ5 H5 (k5.step st r2)
      · rename_i o os4 e4
        cases e2
        exact hb σ' G3 H3 os3 f3 _ _ l3 (by simpa using I3) e4 fun v H5 k5 => k v H5 (k5.step st r2)
      · cases e2
    · rename_i os3 e3
      cases e2
      refine ht σ' [] G2 H' os2 [] f2 false os3 _ l2 rfl (by simpa using I2) e3 fun H3 k3 => ?_
      obtain ⟨G3, f3, I3, s3, l3⟩ := k3
      rw [if_neg Bool.false_ne_true]
      exact k σ' H3 ⟨G3, f3, by simpa using I3, s2.trans s3, l3, r2⟩
    · cases e2
theorem ss_while {c : Expr} {body : List Stmt} {t : EvT} {b : EvS} {pos : Pos} (n : Nat) (hp : PassesOwn (model X.prog X.w) X.A X.env X.xe) (ht : STt X t c) (hb : SSs X R b body) : SS X R (whF t b n) (.While c body [] pos) := by
  obtain ⟨tt, p1, q1⟩ := ht
  obtain ⟨tb, p2, q2⟩ := hb
  exact ⟨_, ps_while hp p1 p2, sr_while q1 q2⟩

/-! ### name op= value, of scalars -/
def sAug (R : List Nat) (i : Nat) (fn : List PyData → Option Op) (ev : EvE) : EvS := fun os => match os[i]? with
  | some (some (.sh d0)) => if isSc d0 = true ∧ i ∉ R then match ev os with
    | some (r, os1) => match r.rd os1 with
      | some d => match fn [d0, d] with
        | some (.val z) => if isSc z = true then some (.nx (os1.set i (some (.sh z)))) else none
        | _ => none
      | none => none
    | none => none else none
  | _ => none
theorem sr_aug {i : Nat} {fn : List PyData → Option Op} {ev : EvE} {te : TE} {ti : TIp} (h : ER K ev te) (ok : OpOk K (r2 ti) fn) : SR K R (sAug R i fn ev) (tAug i te ti) := fun σ G H os f res D hl I e k => by
  unfold sAug at e
  split at e
  · rename_i d0 e0
    split at e
    · rename_i c
      split at e
      · rename_i r os1 e1
        split at e
        · rename_i d e2
          split at e
          · rename_i z e3
            split at e
            · rename_i cz
              cases e
              obtain ⟨v0, _, _, w1, w2, _⟩ := I.sl.at e0
              refine ⟨v0, w1, ?_⟩
              refine h σ [] G H os [] f r os1 _ hl rfl (by simpa using I) e1 fun v H1 k1 => ?_
              have hv := k1.read1 rfl e2
              obtain ⟨G1, f1, I1, s1, l1⟩ := k1.drop rfl
              have I1 : SI K G1 H1 σ os1 f1 := by simpa using I1
              have h0 : Dx K H1 v0 d0 := by
                cases w2 with
                | sh q => exact dp_sc q c.1
              refine ok.sc [d0, d] z H1 [v0, v] _ e3 cz (.cons h0 (.cons hv .nil)) fun w hw => ?_
              have hil : i < os1.length := by
                have := lt_of_get e0; omega
              obtain ⟨f2, I2, le⟩ := (I1.push (dp_sc hw cz)).store l1 hil
              exact k _ H1 ⟨G1, f2, I2, s1.trans (Stp.less le), by simp [l1], fun j hj => by rw [List.getElem?_set_ne (fun y => by subst y; exact c.2 hj)]⟩
            · cases e
          · cases e
        · cases e
      · cases e
    · cases e
  · cases e
theorem ok_ipI {g : Int → Int → Int} : OpOk K (r2 (ipI g)) (opII (fun _ _ => true) fun i j => .int (g i j)) := ok_ii0 (fun _ _ => rfl) fun _ _ _ => .int _
theorem ss_aug {op : Operator} {ti : TIp} {fn : List PyData → Option Op} (ho : PIp X op ti) (ok : OpOk X.K (r2 ti) fn) (i : Nat) {x : Str} {e : Expr} {ev : EvE} {pos' pos : Pos} (hN : X.N.Nodup) (h : SE X ev e) (hi : X.N[i]? = some x := by rfl) (hx : Loc X.env.scope x := by first | exact Or.inl rfl | exact Or.inr rfl)
    (hf : X.fn x = true ∨ X.env.scope.names.lookup x = some .local := by first | exact .inl rfl | exact .inr rfl | assumption) : SS X R (sAug R i fn ev) (.AugAssign (.Name x pos') op e pos) := by
  obtain ⟨te, p, q⟩ := h
  exact ⟨_, ps_aug hN hi hx p ho hf, sr_aug q ok⟩
theorem ss_augAdd (i : Nat) {x : Str} {e : Expr} {ev : EvE} {pos' pos : Pos} (hN : X.N.Nodup) (h : SE X ev e) (hi : X.N[i]? = some x := by rfl) (hx : Loc X.env.scope x := by first | exact Or.inl rfl | exact Or.inr rfl)
    (hf : X.fn x = true ∨ X.env.scope.names.lookup x = some .local := by first | exact .inl rfl | exact .inr rfl | assumption) : SS X R (sAug R i (opII (fun _ _ => true) fun i j => .int (i + j)) ev) (.AugAssign (.Name x pos') .Add e pos) := ss_aug ip_add ok_ipI i hN h hi hx hf
end
end DX
/-! DXCall: defs and their calls. -/
namespace DX
open PySem PySem.Spec PyProof.Rows L2

/-! ### a def that is called where no guard stands -/
structure FnG (P : Program) (w : World) (K : PySem.W.Frag) (mg : Str → Option Value) (base : Heap) (k : Nat) (f : Addr) (fd : FuncData) (ps : List Str) (sp : Sp) : Prop where
  len : ∀ vs H Q E, sp vs H Q E → vs.length = ps.length
  run : ∀ (A : Around) (outer : List Env) (s : Shared) (H : Hp) (args : Args) (us : List Value) (vs : List V) (Q : VK), A.guards = some [] → Room k A → Env0 P w K mg base A outer s H →
    BindsTo s fd args (ps.zip us) → Vals vs us → sp vs H Q E0 → codeAny (model P w) A (.call (.ref f) args) (CR CX0 outer P w H s Q E0) s
theorem FnG.mono {P : Program} {w : World} {K : PySem.W.Frag} {mg : Str → Option Value} {base : Heap} {j k : Nat} {f : Addr} {fd : FuncData} {ps : List Str} {sp : Sp} (F : FnG P w K mg base j f fd ps sp) (h : j ≤ k) : FnG P w K mg base k f fd ps sp :=
  ⟨F.len, fun A outer s H args us vs Q hg hr => F.run A outer s H args us vs Q hg (hr.mono h)⟩
section
variable {P : Program} {w : World} {K : PySem.W.Frag} {mg : Str → Option Value} {base : Heap}
theorem guards_deeper {A : Around} {e : Env} (h : A.guards = some []) : (A.deeper e).guards = some [] := by
  first
    | exact h
    | simpa [Around.deeper] using h
theorem Fun.okG {x qual : Str} {st : Stmt} {f : Addr} {fd : FuncData} {N ps : List Str} {k : Nat} {sp : Sp} (F : Fun K x qual st f fd) (S : FnScope N ps (defScope st)) (len : ∀ vs H Q E, sp vs H Q E → vs.length = ps.length)
    (hbody : ∀ (cdv : Value) (A : Around) (outer : List Env) (s : Shared) (H : Hp) (vs : List V) (Q : VK), (A.deeper (envOfC qual (defScope st) s.heap.objs.size f cdv)).guards = some [] →
      Room k (A.deeper (envOfC qual (defScope st) s.heap.objs.size f cdv)) → sp vs H Q E0 →
      ∃ t, PSs (cxOf CX0 P w K mg base N qual (defScope st) f cdv A outer s H E0).nox (defBody st) t ∧ t { nx := fun _ H' => Q .non H', rt := Q } (start N vs) H) : FnG P w K mg base (k + 1) f fd ps sp := by
  obtain ⟨oc, od, kV, doc, pm, an, cdv, ct, osl, rfl, lk, hcd⟩ := F.ex
  refine ⟨len, fun A outer s H args us vs Q hg hr e0 hb rv hsp => ?_⟩
  have KX : K.In s.heap := e0.mod.kin.keeps (fun b o e => (e0.bs b o e).1)
  have nl : s.heap.NoLimit := e0.mod.nolimit.keeps (fun b o e => (e0.bs b o e).1)
  have par : ∀ y ∈ ps.zip us, (defScope st).names.lookup y.1 = some .local ∨ ((defScope st).names.lookup y.1 = some .cell ∧ ((cellsFrom (s.heap.objs.size + 1) (defScope st).names []).lookup y.1).isSome = true) := by
    rintro ⟨n, v⟩ hy
    cases S.par n (List.of_mem_zip hy).1 with
    | inl q => exact Or.inl q
    | inr q => exact Or.inr ⟨q, PySem.W.cellsFrom_some _ _ _ (Or.inl q)⟩
  refine codeAny_call_function hr.depth (KX _ _ lk) rfl S.co S.gen rfl (PySem.W.codeRec_of KX hcd) (hb _ _ _ _ ?_)
  refine wpAny_newFunctionEnv_cells S.kind par (fun env he s1 x => ?_)
  cases he
  refine ⟨nl.keeps x.toInCall.keep, codeAny_func ?_⟩
  obtain ⟨t, ht, hq⟩ := hbody cdv A outer s H vs Q (guards_deeper hg) (hr.deeper _) hsp
  have J : Inv (cxOf CX0 P w K mg base N qual (defScope st) f cdv A outer s H E0) [] (start N vs) H s1 := inv_start S hr.hd e0 (len _ _ _ _ hsp) rv x
  refine wpAny_mono (ht.nox.run [] s1 _ H _ J hq) (fun fl s' hs => ?_) (fun e s' hs => hs)
  cases fl with
  | ret u => obtain ⟨v, σ', H', J', r', q'⟩ := hs; exact ⟨v, H', J'.os, J'.bare, J'.base, J'.hok, r', q'⟩
  | next => obtain ⟨σ', H', J', q'⟩ := hs; exact ⟨V.non, H', J'.os, J'.bare, J'.base, J'.hok, rfl, q'⟩
  | brk => obtain ⟨_, _, _, q'⟩ := hs; exact q'.elim
  | cont => obtain ⟨_, _, _, q'⟩ := hs; exact q'.elim
/-- the callee runs -/
theorem run_g {X : Cx} {k : Nat} {f : Addr} {fd : FuncData} {ps : List Str} {sp : Sp} {pins : List (Addr × Obj)} {σ : L2.St} {H : Hp} {s : Shared} {Q : VK} {args : Args} {us : List Value} {vs : List V}
    (F : FnG X.prog X.w X.K X.mg X.base k f fd ps sp) (hg : X.A.guards = some []) (hr : Room k X.A) (hb : BindsTo s fd args (ps.zip us)) (I : Inv X pins σ H s) (r : Vals vs us) (h : sp vs H Q E0) :
    codeAny (model X.prog X.w) X.A (.call (.ref f) args) (fun r' s' => match r' with
      | .ok (.ret u) => EP X pins σ Q u s'
      | .ok _ => False
      | .error e => X.xe e s') s := by
  refine codeAny_mono (F.run X.A X.stack s H args us vs Q hg hr I.env0 hb r h) (fun r' s' hq => ?_)
  cases r' with
  | error e => exact False.elim hq
  | ok fl =>
    cases fl with
    | ret u => exact I.after hq
    | next => exact hq
    | brk => exact hq
    | cont => exact hq
end

/-! ### the call -/
def pk {α : Type} (idx : List Nat) (l : List α) : List α := idx.filterMap fun i => l[i]?
theorem vals_pk {vs : List V} {us : List Value} (r : Vals vs us) : ∀ idx : List Nat, Vals (pk idx vs) (pk idx us)
  | [] => .nil
  | i :: idx => by
    have ih := vals_pk r idx
    unfold pk at ih ⊢
    cases e : vs[i]? with
    | none =>
      rw [List.filterMap_cons_none e, List.filterMap_cons_none (r.none_of e)]
      exact ih
    | some x =>
      obtain ⟨u, h1, h2⟩ := r.get e
      rw [List.filterMap_cons_some e, List.filterMap_cons_some h1]
      exact .cons h2 ih
theorem dps_none {K : PySem.W.Frag} {H : Hp} {vs : List V} {ds : List PyData} {i : Nat} (h : DxAll K H vs ds) (e : ds[i]? = none) : vs[i]? = none := by
  rw [List.getElem?_eq_none_iff] at e ⊢
  rw [dps_len h]; exact e
theorem dps_pk {K : PySem.W.Frag} {H : Hp} {vs : List V} {ds : List PyData} (r : DxAll K H vs ds) : ∀ idx : List Nat, DxAll K H (pk idx vs) (pk idx ds)
  | [] => .nil
  | i :: idx => by
    have ih := dps_pk r idx
    unfold pk at ih ⊢
    cases e : ds[i]? with
    | none =>
      rw [List.filterMap_cons_none e, List.filterMap_cons_none (dps_none r e)]
      exact ih
    | some x =>
      obtain ⟨u, h1, h2⟩ := dps_get r e
      rw [List.filterMap_cons_some e, List.filterMap_cons_some h1]
      exact .cons h2 ih
/-- how n arguments come to the parameters: np by place, then those named ks; idx: where each parameter's stands -/
def Bd (fd : FuncData) (ps : List Str) (n np : Nat) (ks : List Str) (idx : List Nat) : Prop := ∀ (s : Shared) (us : List Value), us.length = n → BindsTo s fd ⟨us.take np, ks.zip (us.drop np)⟩ (ps.zip (pk idx us))
def tCallG (sp : Sp) (idx : List Nat) (n : Nat) (t : TA) : TE := fun σ H Q => t σ H fun vs H1 => vs.length = n ∧ sp (pk idx vs) H1 Q E0
def tBoth (n : Nat) (t tk : TA) : TA := fun σ H Q => t σ H fun vs H1 => vs.length = n ∧ tk σ H1 fun zs H2 => Q (vs ++ zs) H2
section
variable {X : Cx} {k : Nat} {f : Addr} {fd : FuncData} {ps ks : List Str} {sp : Sp} {x : Str} {p pos : Pos} {e : Expr} {es : List Expr} {kws : List Keyword} {t tk : TA} {idx : List Nat}
theorem callG_core (F : FnG X.prog X.w X.K X.mg X.base k f fd ps sp) (hA : X.A.guards = some []) (hr : Room k X.A) {n np : Nat} (hb : Bd fd ps n np ks idx) {pins : List (Addr × Obj)} {σ : L2.St} {H : Hp} {s : Shared} {Q : VK} {us : List Value} {vs : List V}
    (I : Inv X pins σ H s) (r : Vals vs us) (hn : us.length = n) (h : sp (pk idx vs) H Q E0) : wpAny (model X.prog X.w) X.A (call (.ref f) (us.take np) (ks.zip (us.drop np))) (EP X pins σ Q) X.xe s :=
  wpAny_call (run_g F hA hr (hb s us hn) I (vals_pk r idx) h)
theorem pe_callG (F : FnG X.prog X.w X.K X.mg X.base k f fd ps sp) (hA : X.A.guards = some []) (hr : Room k X.A) (hm : X.mg x = some (.ref f)) (hk : PySem.W.keepIn X.K (.ref f) = true) (hb : Bd fd ps (e :: es).length (e :: es).length [] idx)
    (ha : PA X (e :: es) t) (hg : Gl X x := by rfl) (hdb : (x == ("__debug__" : Str)) = false := by decide) (he : starEach (e :: es) X.env = (false, eval e X.env) :: starEach es X.env := by rfl) (hpl : (backTo pos (starEach es X.env)).any (·.1) = false := by rfl) :
    PE X (.Call (.Name x p) (e :: es) [] pos) (tCallG sp idx (e :: es).length t) := by
  refine ⟨fun pins s σ H Q I h => ?_⟩
  refine wpAny_Call_Name_kw (ld_glob I hg hm ?_ hdb)
  refine PySem.W.callWith_K (h₀ := X.base) I.ok.mod.kin hk (thn (ha.run pos pins s σ H _ I h) fun us s1 ⟨vs, H1, I1, r, hn, q⟩ => ⟨I1.kIn, ?_⟩) he hpl
  have hn' : us.length = (e :: es).length := by rw [← r.length]; exact hn
  have := callG_core (ks := []) F hA hr hb I1 r hn' q
  rw [List.take_of_length_le (by omega)] at this
  exact this
theorem pe_callGk (F : FnG X.prog X.w X.K X.mg X.base k f fd ps sp) (hA : X.A.guards = some []) (hr : Room k X.A) (hm : X.mg x = some (.ref f)) (hk : PySem.W.keepIn X.K (.ref f) = true) (hb : Bd fd ps ((e :: es).length + kws.length) (e :: es).length ks idx)
    (ha : PA X (e :: es) t) (hkw : PK X kws tk) (hg : Gl X x := by rfl) (hall : (backToKw pos (keywordEach kws X.env)).all (·.1.isSome) = true := by rfl) (hks : (backToKw pos (keywordEach kws X.env)).filterMap (·.1) = ks := by rfl)
    (hdb : (x == ("__debug__" : Str)) = false := by decide) (he : starEach (e :: es) X.env = (false, eval e X.env) :: starEach es X.env := by rfl)
    (hpl : ((backTo pos (starEach (e :: es) X.env)).any (·.1) || (backToKw pos (keywordEach kws X.env)).any (·.1.isNone)) = false := by rfl) :
    PE X (.Call (.Name x p) (e :: es) kws pos) (tCallG sp idx ((e :: es).length + kws.length) (tBoth (e :: es).length t tk)) := by
  refine ⟨fun pins s σ H Q I h => ?_⟩
  refine wpAny_Call_Name_kw (ld_glob I hg hm ?_ hdb)
  refine PySem.W.callWith_KW (h₀ := X.base) I.ok.mod.kin hk hall (thn (ha.run pos pins s σ H _ I h) fun us s1 ⟨vs, H1, I1, r, n1, q⟩ => ?_) hpl he
  refine thn (hkw.run pos pins s1 σ H1 _ I1 q) fun ws s2 ⟨zs, H2, I2, rz, n2, q2⟩ => ⟨I2.kIn, ?_⟩
  rw [hks]
  have e3 : (us ++ ws).length = (e :: es).length + kws.length := by rw [← (r.append rz).length]; exact n2
  have l1 : us.length = (e :: es).length := by rw [← r.length]; exact n1
  have := callG_core F hA hr hb I2 (r.append rz) e3 q2
  rw [List.take_append_of_le_length (by omega), List.take_of_length_le (by omega), List.drop_append_of_le_length (by omega), List.drop_of_length_le (by omega), List.nil_append] at this
  exact this
theorem pe_callGk0 (F : FnG X.prog X.w X.K X.mg X.base k f fd ps sp) (hA : X.A.guards = some []) (hr : Room k X.A) (hm : X.mg x = some (.ref f)) (hk : PySem.W.keepIn X.K (.ref f) = true) (hb : Bd fd ps kws.length 0 ks idx)
    (hkw : PK X kws tk) (hg : Gl X x := by rfl) (hall : (backToKw pos (keywordEach kws X.env)).all (·.1.isSome) = true := by rfl) (hks : (backToKw pos (keywordEach kws X.env)).filterMap (·.1) = ks := by rfl)
    (hdb : (x == ("__debug__" : Str)) = false := by decide)
    (hpl : ((backTo pos (starEach [] X.env)).any (·.1) || (backToKw pos (keywordEach kws X.env)).any (·.1.isNone)) = false := by rfl) :
    PE X (.Call (.Name x p) [] kws pos) (tCallG sp idx kws.length tk) := by
  refine ⟨fun pins s σ H Q I h => ?_⟩
  refine wpAny_Call_Name_kw (ld_glob I hg hm ?_ hdb)
  refine PySem.W.callWith_KW0 (h₀ := X.base) I.ok.mod.kin hk hall (thn (hkw.run pos pins s σ H _ I h) fun ws s2 ⟨zs, H2, I2, rz, n2, q2⟩ => ⟨I2.kIn, ?_⟩) hpl
  rw [hks]
  have e2 := rz.length
  have := callG_core F hA hr hb I2 rz (by omega) q2
  rw [List.take_zero, List.drop_zero] at this
  exact this
end

/-! ### contracts: what a def makes of data -/
/-- m: of the arguments the answer -/
def sp0 (K : PySem.W.Frag) (m : List OD → Option OD) (n : Nat) : Sp := fun vs H Q _ => ∃ G f os r, SI K G H (vs.map some) (os.map some) f ∧ vs.length = n ∧ m os = some r ∧
  ∀ v H' G' f', SI K G' H' [some v] [some r] f' → Stp G H f G' H' f' → Q v H'
/-- m: of the list that the def may change and the other arguments the answer and the list behind it -/
def spP (K : PySem.W.Frag) (m : OD → List OD → Option (OD × OD)) (n : Nat) : Sp := fun vs H Q _ => ∃ G f vp vr op os r op', vs = vp :: vr ∧ SI K G H (some vp :: vr.map some) (some op :: os.map some) f ∧ vr.length = n ∧ m op os = some (r, op') ∧
  ∀ v H' G' f', SI K G' H' [some vp, some v] [some op', some r] f' → Stp G H f G' H' f' → Q v H'
section
variable {K : PySem.W.Frag} {X : Cx}
theorem SI.frame {G H G' H' : Hp} {A B : List (Option V)} {a b : En} {fr g g' : FP} (I : SI K G H A a fr) (J : SI K G' H' B b g') (s : Stp G H g G' H' g') (dj : ∀ x, fr x ≠ 0 → g x = 0) :
    ∃ f', SI K G' H' (A ++ B) (a ++ b) f' ∧ (∀ x, f' x = fr x + g' x) ∧ ∀ f, (∀ x, f x = fr x + g x) → Stp G H f G' H' f' := by
  have gr : ∀ x, fr x ≠ 0 → g' x = 0 := fun x q => by
    by_cases e : g' x = 0
    · exact e
    · rcases s.fnew x e with z | z
      · exact absurd (dj x q) z
      · exact absurd z (I.live x q)
  obtain ⟨k, k1, k2⟩ := SL.app (I.sl.mono s.gsub fun x u q e => s.keep x u e (dj x q)) J.sl
  refine ⟨k, ⟨k1, J.sub, fun x => ?_, fun x q => ?_⟩, k2, fun f hf => ⟨s.gsub, fun x o e z => s.keep x o e (by rw [hf] at z; omega), s.dom, fun x e => ?_, fun x e => ?_⟩⟩
  · rw [k2]
    by_cases e : fr x = 0
    · have := J.one x; omega
    · rw [gr x e]; have := I.one x; omega
  · rw [k2] at q
    by_cases e : fr x = 0
    · exact J.hid x (by omega)
    · cases h : G' x with
      | none => rfl
      | some u =>
        rcases s.gnew x (by rw [h]; simp) with z | z | z
        · exact absurd (I.hid x e) z
        · exact absurd z (I.live x e)
        · exact absurd (dj x e) z
  · rcases s.gnew x e with z | z | z
    · exact .inl z
    · exact .inr (.inl z)
    · exact .inr (.inr (by rw [hf]; omega))
  · rw [k2] at e
    by_cases z : fr x = 0
    · rcases s.fnew x (by omega) with y | y
      · exact .inl (by rw [hf]; omega)
      · exact .inr y
    · exact .inl (by rw [hf]; omega)
theorem SL.shs {G H : Hp} : ∀ {vs : List V} {ds : List PyData}, DxAll K G vs ds → SL K G H (vs.map some) ((ds.map OD.sh).map some) (fun _ => 0)
  | _, _, .nil => .nil
  | _, _, .cons h r => (SL.val (f := fun _ => 0) (g := fun _ => 0) (RO.sh h) (SL.shs r)).congr fun _ => rfl
def eFn0 (m : List OD → Option OD) (n : Nat) (idx : List Nat) (es : EvEs) : EvE := fun os => match es os with
  | some (rs, os1) => match rdAll os1 rs with
    | some ds => if rs.length = n ∧ (pk idx ds).length = n then match m ((pk idx ds).map OD.sh) with
      | some r => if isSc r.er = true ∧ r.isSh = true then some (.tm r, os1) else some (.tm r, hardAll os1 rs)
      | none => none else none
    | none => none
  | none => none
theorem er_fn0 {m : List OD → Option OD} {n : Nat} {idx : List Nat} {ev : EvEs} {ta : TA} (h : ERs K ev ta) : ER K (eFn0 m n idx ev) (tCallG (sp0 K m n) idx n ta) := fun σ τ G H os θ f r os' Q hl ht I e k => by
  unfold eFn0 at e
  split at e
  · rename_i rs os1 e1
    split at e
    · rename_i ds e2
      split at e
      · rename_i hn
        split at e
        · rename_i r1 e3
          refine h σ τ G H os θ f rs os1 _ hl ht I e1 fun vs H1 k1 => ?_
          obtain ⟨G1, f1, I1, s1, a1, l1⟩ := k1
          obtain ⟨G2, f2, I2, s2, hd⟩ := I1.popC l1 ht a1 e2
          obtain ⟨_, f3, I3, le3⟩ := I1.popA l1 ht a1 e2
          have hd' := dps_pk hd idx
          refine ⟨by rw [a1.len]; exact hn.1, G2, fun _ => 0, (pk idx ds).map OD.sh, r1, ⟨SL.shs hd', I2.sub, fun _ => Nat.zero_le _, fun _ z => absurd rfl z⟩, by rw [dps_len hd']; exact hn.2, e3, fun v H' G' f' J s => ?_⟩
          split at e
          · rename_i c
            obtain ⟨d, rfl⟩ : ∃ d, r1 = .sh d := by
              cases r1 with
              | sh d => exact ⟨d, rfl⟩
              | lst _ => cases c.2
              | tpl _ => cases c.2
            cases e
            have sb : Sub H1 H' := fun a o q => s.keep a o q rfl
            have hv : Dx K H' v d := by
              obtain ⟨v', q1, q2⟩ := J.rd (i := 0) (o := .sh d) rfl
              cases q1; exact q2
            refine k v H' ((Kont.sh l1 (I3.grow sb) (dp_sc hv c.1)).step ?_)
            exact s1.trans ⟨Sub.refl _, fun a o q _ => sb a o q, fun a q => ne_of_sub sb q, fun a q => .inl q, fun a q => .inl (by have := le3 a; omega)⟩
          · cases e
            obtain ⟨f4, I4, e4, s4⟩ := I2.frame J s fun _ _ => rfl
            exact k v H' ⟨G', f4, by simpa [List.append_assoc, RV.od] using I4, (s1.trans s2).trans (s4 f2 fun x => by omega), .cons trivial .nil, by rw [len_hardAll]; exact l1⟩
        · cases e
      · cases e
    · cases e
  · cases e
/-- the first argument a list that slot j owns: what the def makes of it stands there behind the call -/
def eFnP (m : OD → List OD → Option (OD × OD)) (n : Nat) (idx : List Nat) (es : EvEs) : EvE := fun os => match es os with
  | some (.al j :: rs, os1) => match rdAll os1 rs, (hardAll os1 rs)[j]? with
    | some ds, some (some (.lst xs)) => if rs.length + 1 = n ∧ (pk idx ds).length + 1 = n then match m (.lst xs) ((pk idx ds).map OD.sh) with
      | some (r, p') => some (.tm r, (hardAll os1 rs).set j (some p'))
      | none => none else none
    | _, _ => none
  | _ => none
theorem pk_zero {α : Type} (x : α) (l : List α) (idx : List Nat) : pk (0 :: idx.map (· + 1)) (x :: l) = x :: pk idx l := by
  unfold pk
  rw [List.filterMap_cons_some (f := fun i => (x :: l)[i]?) (a := 0) (b := x) rfl, List.filterMap_map]
  rfl
theorem SL.into {G H : Hp} : ∀ {vs : List (Option V)} {os : En} {f : FP} {j : Nat} {v : V} {o : OD} {g : FP}, SL K G H vs os f → os[j]? = some none → vs[j]? = some (some v) → RO K G H v o g →
    ∃ k, SL K G H vs (os.set j (some o)) k ∧ ∀ a, k a = f a + g a
  | _, _, _, _, _, _, _, .nil, h, _, _ => by simp at h
  | _, _, _, 0, _, _, _, .val _ _, h, _, _ => by simp at h
  | _, _, _, 0, _, _, _, .un r, _, h, q => by
    simp at h; subst h
    exact ⟨_, .val q r, fun a => by (try dsimp only); omega⟩
  | _, _, _, j + 1, _, _, _, .un r, h, h2, q => by
    obtain ⟨k, k1, k2⟩ := SL.into (j := j) r (by simpa using h) (by simpa using h2) q
    exact ⟨k, .un k1, k2⟩
  | _, _, _, j + 1, _, _, _, .val (f := f₁) q0 r, h, h2, q => by
    obtain ⟨k, k1, k2⟩ := SL.into (j := j) r (by simpa using h) (by simpa using h2) q
    exact ⟨_, .val q0 k1, fun a => by (try dsimp only); rw [k2]; omega⟩
theorem er_fnP {m : OD → List OD → Option (OD × OD)} {n : Nat} {idx : List Nat} {ev : EvEs} {ta : TA} (h : ERs K ev ta) : ER K (eFnP m (n + 1) idx ev) (tCallG (spP K m n) (0 :: idx.map (· + 1)) (n + 1) ta) := fun σ τ G H os θ f r os' Q hl ht I e k => by
  unfold eFnP at e
  split at e
  · rename_i j rs os1 e1
    split at e
    · rename_i ds xs e2 e4
      split at e
      · rename_i hn
        split at e
        · rename_i r1 p' e3
          cases e
          refine h σ τ G H os θ f _ os1 _ hl ht I e1 fun vs H1 k1 => ?_
          obtain ⟨G1, f1, I1, s1, a1, l1⟩ := k1
          cases a1 with
          | cons av ar =>
            rename_i vp vr
            have I1' : SI K G1 H1 (σ ++ ((τ ++ [some vp]) ++ vr.map some)) (os1 ++ ((θ ++ [none]) ++ rs.map RV.od)) f1 := by simpa [RV.od, List.append_assoc] using I1
            obtain ⟨G2, f2, I2, s2, hd⟩ := I1'.popC l1 (by simp [ht]) ar e2
            have I2' : SI K G2 H1 ((σ ++ τ) ++ [some vp]) ((hardAll os1 rs ++ θ) ++ [none]) f2 := by simpa [List.append_assoc] using I2
            obtain ⟨f3, I3, le3⟩ := I2'.pop (by simp [l1, ht, len_hardAll])
            have hj := lt_of_get e4
            obtain ⟨w, fo, fr, m1, m2, m3, m4⟩ := SL.out I3.sl (i := j) (o := .lst xs) (by rw [get_app hj]; exact e4)
            have hw : σ[j]? = some (some vp) := av
            have ew : w = vp := by
              rw [get_app (by rw [len_hardAll] at hj; omega), hw] at m1
              exact (Option.some.inj (Option.some.inj m1)).symm
            subst ew
            have hd' := dps_pk hd idx
            have Irest : SI K G2 H1 (σ ++ τ) ((hardAll os1 rs ++ θ).set j none) fr := I3.forget m4 fun a => by rw [m3]; omega
            have Iarg : SI K G2 H1 (some w :: (pk idx vr).map some) (some (.lst xs) :: ((pk idx ds).map OD.sh).map some) fo := by
              have q := SL.val m2 (SL.shs (H := H1) hd')
              exact I3.forget (q.congr fun a => rfl) fun a => by rw [m3]; omega
            refine ⟨by simp [ar.len, hn.1], G2, fo, w, pk idx vr, .lst xs, (pk idx ds).map OD.sh, r1, p', pk_zero _ _ _, Iarg, by rw [dps_len hd']; omega, e3, fun v H' G' f' J s => ?_⟩
            obtain ⟨f4, I4, e5, s5⟩ := Irest.frame J s fun a z => by have := I3.one a; rw [m3] at this; omega
            -- the list goes back to its slot
            obtain ⟨q1, q2, t1, t2, t3⟩ := SL.cut (by simp [l1, ht, len_hardAll]) I4.sl
            cases t2 with
            | val u1 u2 =>
              rename_i g1 g2
              have hl3 : j < (hardAll os1 rs ++ θ).length := by rw [List.length_append]; omega
              have t1' : ((hardAll os1 rs ++ θ).set j none)[j]? = some none := by rw [List.getElem?_set_self hl3]
              obtain ⟨kk, b1, b2⟩ := SL.into t1 t1' m1 u1
              rw [List.set_set, set_app hj] at b1
              obtain ⟨k2, b3, b4⟩ := SL.app b1 u2
              have tot : ∀ a, k2 a = f4 a := fun a => by rw [b4, b2, t3]; (try dsimp only); omega
              refine k v H' ⟨G', f4, ?_, ((s1.trans s2).trans (Stp.less le3)).trans (s5 f3 fun a => by rw [m3]; omega), .cons trivial .nil, by rw [List.length_set, len_hardAll]; exact l1⟩
              have fin : SI K G' H' ((σ ++ τ) ++ [some v]) (((hardAll os1 rs).set j (some p') ++ θ) ++ [some r1]) f4 := ⟨b3.congr tot, I4.sub, I4.one, I4.hid⟩
              simpa [List.append_assoc, RV.od] using fin
        · cases e
      · cases e
    · cases e
  · cases e
end
end DX
/-! DXDef: a def keeps its contract. -/
namespace DX
open PySem PySem.Spec PyProof.Rows L2

def retOf : Res → Option OD
  | .rt o _ => some o
  | .nx _ => some (.sh .none)
  | _ => none
def retP : Res → Option (OD × OD)
  | .rt o os => match os[0]? with
    | some (some p) => some (o, p)
    | _ => none
  | .nx os => match os[0]? with
    | some (some p) => some (.sh .none, p)
    | _ => none
  | _ => none
/-- the slots at the entry -/
def startE (N : List Str) (os : List OD) : En := os.map some ++ List.replicate (N.length - os.length) none
section
variable {P : Program} {w : World} {K : PySem.W.Frag} {mg : Str → Option Value} {base : Heap}
theorem SI.nones {G H : Hp} {vs : List (Option V)} {os : En} {f : FP} (I : SI K G H vs os f) : ∀ n : Nat, SI K G H (vs ++ List.replicate n none) (os ++ List.replicate n none) f
  | 0 => by simpa using I
  | n + 1 => by
    have := (SI.nones I n).pushN none
    rw [List.replicate_succ', List.replicate_succ']
    simpa [List.append_assoc] using this
theorem SI.lastTwo {σ : L2.St} {G H : Hp} {os : En} {f : FP} {v : V} {o : OD} (I : SI K G H (σ ++ [some v]) (os ++ [some o]) f) (hl : σ.length = os.length) :
    (∃ f', SI K G H [some v] [some o] f' ∧ ∀ a, f' a ≤ f a) ∧ ∀ vp p, σ[0]? = some (some vp) → os[0]? = some (some p) → ∃ f', SI K G H [some vp, some v] [some p, some o] f' ∧ ∀ a, f' a ≤ f a := by
  obtain ⟨g, k, h1, h2, h3⟩ := SL.cut hl I.sl
  refine ⟨⟨k, I.forget h2 fun a => by rw [h3]; omega, fun a => by rw [h3]; omega⟩, fun vp p e1 e2 => ?_⟩
  obtain ⟨v', fo, fr, m1, m2, m3, _⟩ := h1.at e2
  rw [e1] at m1; cases m1
  have q := SL.val m2 h2
  exact ⟨_, I.forget q fun a => by (try dsimp only); rw [h3, m3]; omega, fun a => by (try dsimp only); rw [h3, m3]; omega⟩
/-- the context of a def's body -/
abbrev CxD (P : Program) (w : World) (K : PySem.W.Frag) (mg : Str → Option Value) (base : Heap) (N : List Str) (qual : Str) (st : Stmt) (f : Addr) (cdv : Value) (A : Around) (outer : List Env) (s : Shared) (H : Hp) : Cx :=
  (cxOf CX0 P w K mg base N qual (defScope st) f cdv A outer s H E0).nox
theorem ok_fn0 {x qual : Str} {st : Stmt} {f : Addr} {fd : FuncData} {N ps : List Str} {k : Nat} (F : Fun K x qual st f fd) (S : FnScope N ps (defScope st)) {ev : Nat → EvS} {m : List OD → Option OD}
    (hb : ∀ (n : Nat) (cdv : Value) (A : Around) (outer : List Env) (s : Shared) (H : Hp), (A.deeper (envOfC qual (defScope st) s.heap.objs.size f cdv)).guards = some [] → Room k (A.deeper (envOfC qual (defScope st) s.heap.objs.size f cdv)) →
      SSs (CxD P w K mg base N qual st f cdv A outer s H) [] (ev n) (defBody st))
    (hm : ∀ os r, os.length = ps.length → m os = some r → ∃ n res, ev n (startE N os) = some res ∧ retOf res = some r) : FnG P w K mg base (k + 1) f fd ps (sp0 K m ps.length) := by
  refine Fun.okG F S (fun vs H Q E h => ?_) fun cdv A outer s H vs Q hA hr h => ?_
  · obtain ⟨G, g, os, r, _, hl, _⟩ := h
    exact hl
  · obtain ⟨G, g, os, r, I, hl, e, kk⟩ := h
    have ho : os.length = ps.length := by
      have := I.sl.len
      simp at this; omega
    obtain ⟨n, res, e1, e2⟩ := hm os r ho e
    obtain ⟨t, p, q⟩ := hb n cdv A outer s H hA hr
    have I2 : SI K G H (start N vs) (startE N os) g := by
      have := I.nones (N.length - vs.length)
      unfold L2.start startE
      rw [ho, ← hl]
      exact this
    refine ⟨t, p, q (start N vs) G H (startE N os) g res _ I2.sl.len I2 e1 ?_⟩
    cases res with
    | nx os' =>
      cases e2
      intro σ' H' ⟨G', f', J, s', _, _⟩
      refine kk .non H' G' (fun _ => 0) ⟨(SL.val (RO.sh .non) .nil).congr fun _ => rfl, J.sub, fun _ => Nat.zero_le _, fun _ z => absurd rfl z⟩ (s'.trans (Stp.less fun _ => Nat.zero_le _))
    | rt o os' =>
      cases e2
      intro v H' ⟨G', f', σ', J, s', l', _⟩
      obtain ⟨⟨f2, J2, le⟩, _⟩ := J.lastTwo l'
      exact kk v H' G' f2 J2 (s'.trans (Stp.less le))
    | bk _ => cases e2
    | ct _ => cases e2
theorem ok_fnP {x qual : Str} {st : Stmt} {f : Addr} {fd : FuncData} {N ps : List Str} {k np : Nat} (F : Fun K x qual st f fd) (S : FnScope N ps (defScope st)) (hps : ps.length = np + 1) {ev : Nat → EvS} {m : OD → List OD → Option (OD × OD)}
    (hb : ∀ (n : Nat) (cdv : Value) (A : Around) (outer : List Env) (s : Shared) (H : Hp), (A.deeper (envOfC qual (defScope st) s.heap.objs.size f cdv)).guards = some [] → Room k (A.deeper (envOfC qual (defScope st) s.heap.objs.size f cdv)) →
      SSs (CxD P w K mg base N qual st f cdv A outer s H) [0] (ev n) (defBody st))
    (hm : ∀ op os r op', os.length = np → m op os = some (r, op') → ∃ n res, ev n (startE N (op :: os)) = some res ∧ retP res = some (r, op')) : FnG P w K mg base (k + 1) f fd ps (spP K m np) := by
  refine Fun.okG F S (fun vs H Q E h => ?_) fun cdv A outer s H vs Q hA hr h => ?_
  · obtain ⟨G, g, vp, vr, op, os, r, op', rfl, _, hl, _⟩ := h
    rw [List.length_cons, hl, hps]
  · obtain ⟨G, g, vp, vr, op, os, r, op', rfl, I, hl, e, kk⟩ := h
    have ho : os.length = np := by
      have := I.sl.len
      simp at this; omega
    obtain ⟨n, res, e1, e2⟩ := hm op os r op' ho e
    obtain ⟨t, p, q⟩ := hb n cdv A outer s H hA hr
    have I2 : SI K G H (start N (vp :: vr)) (startE N (op :: os)) g := by
      have := I.nones (N.length - (vr.length + 1))
      unfold L2.start startE
      rw [List.length_cons, List.length_cons, ho, hl]
      rw [hl] at this
      exact this
    have h0 : (start N (vp :: vr))[0]? = some (some vp) := rfl
    refine ⟨t, p, q (start N (vp :: vr)) G H (startE N (op :: os)) g res _ I2.sl.len I2 e1 ?_⟩
    cases res with
    | nx os' =>
      intro σ' H' ⟨G', f', J, s', l', keep⟩
      simp only [retP] at e2
      split at e2
      · rename_i p0 e3
        cases e2
        obtain ⟨_, hh⟩ := (J.push (v := .non) .non).lastTwo l'
        obtain ⟨f2, J2, le⟩ := hh vp op' ((keep 0 (by simp)).trans h0) e3
        exact kk .non H' G' f2 J2 (s'.trans (Stp.less le))
      · cases e2
    | rt o os' =>
      intro v H' ⟨G', f', σ', J, s', l', keep⟩
      simp only [retP] at e2
      split at e2
      · rename_i p0 e3
        cases e2
        obtain ⟨_, hh⟩ := J.lastTwo l'
        obtain ⟨f2, J2, le⟩ := hh vp op' ((keep 0 (by simp)).trans h0) e3
        exact kk v H' G' f2 J2 (s'.trans (Stp.less le))
      · cases e2
    | bk _ => cases e2
    | ct _ => cases e2
end

/-! ### calls as expressions -/
section
variable {X : Cx} {k : Nat} {f : Addr} {fd : FuncData} {ps ks : List Str} {x : Str} {p pos : Pos} {e : Expr} {es : List Expr} {kws : List Keyword} {idx : List Nat} {ev : EvEs}
theorem se_call0 {m : List OD → Option OD} {n : Nat} (F : FnG X.prog X.w X.K X.mg X.base k f fd ps (sp0 X.K m n)) (hA : X.A.guards = some []) (hr : Room k X.A) (hm : X.mg x = some (.ref f)) (hk : PySem.W.keepIn X.K (.ref f) = true) (hb : Bd fd ps n n [] idx) (h : SEs X ev (e :: es))
    (hn : (e :: es).length = n := by rfl) (hg : Gl X x := by rfl) (hdb : (x == ("__debug__" : Str)) = false := by decide) (he : starEach (e :: es) X.env = (false, eval e X.env) :: starEach es X.env := by rfl) (hpl : (backTo pos (starEach es X.env)).any (·.1) = false := by rfl) :
    SE X (eFn0 m n idx ev) (.Call (.Name x p) (e :: es) [] pos) := by
  subst hn
  obtain ⟨ta, q1, q2⟩ := h
  exact ⟨_, pe_callG F hA hr hm hk hb q1 hg hdb he hpl, er_fn0 q2⟩
theorem se_callP {m : OD → List OD → Option (OD × OD)} {n : Nat} (F : FnG X.prog X.w X.K X.mg X.base k f fd ps (spP X.K m n)) (hA : X.A.guards = some []) (hr : Room k X.A) (hm : X.mg x = some (.ref f)) (hk : PySem.W.keepIn X.K (.ref f) = true) (hb : Bd fd ps (n + 1) (n + 1) [] (0 :: idx.map (· + 1))) (h : SEs X ev (e :: es))
    (hn : (e :: es).length = n + 1 := by rfl) (hg : Gl X x := by rfl) (hdb : (x == ("__debug__" : Str)) = false := by decide) (he : starEach (e :: es) X.env = (false, eval e X.env) :: starEach es X.env := by rfl) (hpl : (backTo pos (starEach es X.env)).any (·.1) = false := by rfl) :
    SE X (eFnP m (n + 1) idx ev) (.Call (.Name x p) (e :: es) [] pos) := by
  obtain ⟨ta, q1, q2⟩ := h
  have := pe_callG (p := p) (pos := pos) F hA hr hm hk (by rw [hn]; exact hb) q1 hg hdb he hpl
  rw [hn] at this
  exact ⟨_, this, er_fnP q2⟩
/-- keywords -/
def SKs (X : Cx) (ev : EvEs) (kws : List Keyword) : Prop := ∃ tk, PK X kws tk ∧ ERs X.K ev tk
theorem sk_nil : SKs X esNil [] := ⟨_, pk_nil, ers_nil⟩
theorem sk_cons {nm : Option Str} {kpos : Pos} {ea : EvE} (h : SE X ea e) (g : SKs X ev kws) : SKs X (esCons ea ev) (⟨nm, e, kpos⟩ :: kws) := by
  obtain ⟨te, p, q⟩ := h
  obtain ⟨tk, p', q'⟩ := g
  exact ⟨_, pk_cons p p', ers_cons q q'⟩
def esApp (n : Nat) (a b : EvEs) : EvEs := fun os => match a os with
  | some (rs, os1) => if rs.length = n then match b os1 with
    | some (qs, os2) => some (rs ++ qs, os2)
    | none => none else none
  | none => none
theorem ers_app {K : PySem.W.Frag} {n : Nat} {a b : EvEs} {ta tb : TA} (ha : ERs K a ta) (hb : ERs K b tb) : ERs K (esApp n a b) (tBoth n ta tb) := fun σ τ G H os θ f rs os' Q hl ht I e k => by
  unfold esApp at e
  split at e
  · rename_i r1 os1 e1
    split at e
    · rename_i hn
      split at e
      · rename_i r2 os2 e2
        cases e
        refine ha σ τ G H os θ f r1 os1 _ hl ht I e1 fun vs H1 k1 => ?_
        obtain ⟨G1, f1, I1, s1, a1, l1⟩ := k1
        refine ⟨by rw [a1.len]; exact hn, ?_⟩
        refine hb σ (τ ++ vs.map some) G1 H1 os1 (θ ++ r1.map RV.od) f1 r2 _ _ l1 (by simp [ht, a1.len]) (by simpa [List.append_assoc] using I1) e2 fun zs H2 k2 => ?_
        obtain ⟨G2, f2, I2, s2, a2, l2⟩ := k2
        exact k _ H2 ⟨G2, f2, by simpa [List.append_assoc] using I2, s1.trans s2, a1.app a2, l2⟩
      · cases e
    · cases e
  · cases e
theorem se_callk {m : List OD → Option OD} {n : Nat} {evk : EvEs} (F : FnG X.prog X.w X.K X.mg X.base k f fd ps (sp0 X.K m n)) (hA : X.A.guards = some []) (hr : Room k X.A) (hm : X.mg x = some (.ref f)) (hk : PySem.W.keepIn X.K (.ref f) = true) {np : Nat} (hb : Bd fd ps n np ks idx) (h : SEs X ev (e :: es)) (hkw : SKs X evk kws)
    (hn : (e :: es).length + kws.length = n := by rfl) (hnp : (e :: es).length = np := by rfl) (hg : Gl X x := by rfl) (hall : (backToKw pos (keywordEach kws X.env)).all (·.1.isSome) = true := by rfl) (hks : (backToKw pos (keywordEach kws X.env)).filterMap (·.1) = ks := by rfl)
    (hdb : (x == ("__debug__" : Str)) = false := by decide) (he : starEach (e :: es) X.env = (false, eval e X.env) :: starEach es X.env := by rfl)
    (hpl : ((backTo pos (starEach (e :: es) X.env)).any (·.1) || (backToKw pos (keywordEach kws X.env)).any (·.1.isNone)) = false := by rfl) :
    SE X (eFn0 m n idx (esApp np ev evk)) (.Call (.Name x p) (e :: es) kws pos) := by
  subst hn hnp
  obtain ⟨ta, q1, q2⟩ := h
  obtain ⟨tk, q3, q4⟩ := hkw
  exact ⟨_, pe_callGk F hA hr hm hk hb q1 q3 hg hall hks hdb he hpl, er_fn0 (ers_app q2 q4)⟩
theorem se_callk0 {m : List OD → Option OD} {n : Nat} {evk : EvEs} (F : FnG X.prog X.w X.K X.mg X.base k f fd ps (sp0 X.K m n)) (hA : X.A.guards = some []) (hr : Room k X.A) (hm : X.mg x = some (.ref f)) (hk : PySem.W.keepIn X.K (.ref f) = true) (hb : Bd fd ps n 0 ks idx) (hkw : SKs X evk kws)
    (hn : kws.length = n := by rfl) (hg : Gl X x := by rfl) (hall : (backToKw pos (keywordEach kws X.env)).all (·.1.isSome) = true := by rfl) (hks : (backToKw pos (keywordEach kws X.env)).filterMap (·.1) = ks := by rfl)
    (hdb : (x == ("__debug__" : Str)) = false := by decide)
    (hpl : ((backTo pos (starEach [] X.env)).any (·.1) || (backToKw pos (keywordEach kws X.env)).any (·.1.isNone)) = false := by rfl) :
    SE X (eFn0 m n idx evk) (.Call (.Name x p) [] kws pos) := by
  subst hn
  obtain ⟨tk, q3, q4⟩ := hkw
  exact ⟨_, pe_callGk0 F hA hr hm hk hb q3 hg hall hks hdb hpl, er_fn0 q4⟩
end
end DX
/-! DXComp: several names at once; list comprehensions; methods of texts. -/
namespace DX
open PySem PySem.Spec PyProof.Rows L2

section
variable {K : PySem.W.Frag} {X : Cx} {R : List Nat}
/-- what a value is once its slot is shared -/
def cv (os : En) : RV → Option OD
  | .tm o => some o
  | .al j => match os[j]? with
    | some (some (.sh d)) => some (.sh d)
    | _ => none
def cvs (os : En) : List RV → Option (List OD)
  | [] => some []
  | r :: rs => match cv os r, cvs os rs with
    | some o, some ods => some (o :: ods)
    | _, _ => none
theorem cvs_len {os : En} : ∀ {rs : List RV} {ods : List OD}, cvs os rs = some ods → ods.length = rs.length
  | [], ods, e => by cases e; rfl
  | r :: rs, ods, e => by
    unfold cvs at e
    split at e
    · rename_i o os' e1 e2
      cases e
      simp [cvs_len e2]
    · cases e
theorem settle_sl {G H : Hp} {os : En} {σ : L2.St} (hw : ∀ (i : Nat) (d : PyData), os[i]? = some (some (.sh d)) → ∃ v, σ[i]? = some (some v) ∧ Dx K G v d) :
    ∀ {vs : List V} {rs : List RV} {ods : List OD} {g : FP}, Als σ vs rs → SL K G H (vs.map some) (rs.map RV.od) g → cvs os rs = some ods → SL K G H (vs.map some) (ods.map some) g
  | _, _, _, _, .nil, s, e => by cases e; exact s
  | v :: vs, r :: rs, ods, g, .cons a q, s, e => by
    unfold cvs at e
    split at e
    · rename_i o os' e1 e2
      cases e
      cases r with
      | tm o' =>
        cases e1
        cases s with
        | val h s => exact .val h (settle_sl hw q s e2)
      | al j =>
        have e1 : (match os[j]? with | some (some (.sh d)) => some (OD.sh d) | _ => none) = some o := e1
        split at e1
        · rename_i d e3
          cases e1
          obtain ⟨v', h1, h2⟩ := hw j d e3
          have a : σ[j]? = some (some v) := a
          rw [a] at h1; cases h1
          cases s with
          | un s => exact (SL.val (f := fun _ => 0) (RO.sh h2) (settle_sl hw q s e2)).congr fun a => by (try dsimp only); omega
        · cases e1
    · cases e
theorem SI.settle {σ τ : List (Option V)} {G H : Hp} {os θ : En} {f : FP} {vs : List V} {rs : List RV} {ods : List OD} (I : SI K G H (σ ++ (τ ++ vs.map some)) (os ++ (θ ++ rs.map RV.od)) f) (hl : σ.length = os.length) (ht : τ.length = θ.length) (ha : Als σ vs rs)
    (e : cvs (hardAll os rs) rs = some ods) : ∃ G' f', SI K G' H (σ ++ (τ ++ vs.map some)) (hardAll os rs ++ (θ ++ ods.map some)) f' ∧ Stp G H f G' H f' := by
  obtain ⟨G1, f1, I1, s1⟩ := I.hards rs
  have hw : ∀ (i : Nat) (d : PyData), (hardAll os rs)[i]? = some (some (.sh d)) → ∃ v, σ[i]? = some (some v) ∧ Dx K G1 v d := fun i d h => by
    obtain ⟨v, q1, _, _, q2⟩ := I1.slotW (by rw [len_hardAll]; exact hl) i (.sh d) h
    exact ⟨v, q1, q2 rfl⟩
  have I1' := I1.sl
  rw [← List.append_assoc, ← List.append_assoc] at I1'
  obtain ⟨g, k, h1, h2, h3⟩ := SL.cut (by simp [hl, ht, len_hardAll]) I1'
  obtain ⟨k2, k3, k4⟩ := SL.app h1 (settle_sl hw ha h2 e)
  refine ⟨G1, f1, ⟨?_, I1.sub, I1.one, I1.hid⟩, s1⟩
  have := k3.congr (g := f1) fun a => by rw [k4, h3]
  simpa [List.append_assoc] using this

theorem SI.storeT {σ τ : List (Option V)} {G H : Hp} {os θ : En} {f : FP} {v : V} {o : OD} (I : SI K G H (σ ++ (τ ++ [some v])) (os ++ (θ ++ [some o])) f) (hl : σ.length = os.length) (ht : τ.length = θ.length) {i : Nat} (hi : i < os.length) :
    ∃ f', SI K G H (σ.set i (some v) ++ τ) (os.set i (some o) ++ θ) f' ∧ ∀ a, f' a ≤ f a := by
  rw [← List.append_assoc, ← List.append_assoc] at I
  obtain ⟨f', J, le⟩ := I.store (i := i) (by simp [hl, ht]) (by rw [List.length_append]; omega)
  rw [set_app (by omega), set_app hi] at J
  exact ⟨f', J, le⟩
/-! ### a, b = x, y -/
def sPar (R : List Nat) (i j : Nat) (ev : EvEs) : EvS := fun os => match ev os with
  | some (rs, os1) => match cvs (hardAll os1 rs) rs with
    | some [o1, o2] => if i ∈ R ∨ j ∈ R ∨ os1.length ≤ i ∨ os1.length ≤ j then none else some (.nx (((hardAll os1 rs).set i (some o1)).set j (some o2)))
    | _ => none
  | none => none
theorem sr_par {i j : Nat} {ev : EvEs} {ta : TA} (hij : i ≠ j) (h : ERs K ev ta) : SR K R (sPar R i j ev) (tPar i j ta) := fun σ G H os f res D hl I e k => by
  unfold sPar at e
  split at e
  · rename_i rs os1 e1
    split at e
    · rename_i o1 o2 e2
      split at e
      · cases e
      · rename_i c
        simp only [not_or, Nat.not_le] at c
        cases e
        refine h σ [] G H os [] f rs os1 _ hl rfl (by simpa using I) e1 fun vs H1 k1 => ?_
        obtain ⟨G1, f1, I1, s1, a1, l1⟩ := k1
        obtain ⟨G2, f2, I2, s2⟩ := I1.settle l1 rfl a1 e2
        have hn : vs.length = 2 := by rw [a1.len, ← cvs_len e2]; rfl
        match vs, hn with
        | [v, w], _ =>
          refine ⟨v, w, rfl, ?_⟩
          have l2 : σ.length = (hardAll os1 rs).length := by rw [len_hardAll]; exact l1
          have I2' : SI K G2 H1 ((σ ++ [some v]) ++ [some w]) ((hardAll os1 rs ++ [some o1]) ++ [some o2]) f2 := by simpa using I2
          obtain ⟨f3, I3, le3⟩ := I2'.store (i := j) (by simp [l2]) (by rw [List.length_append, len_hardAll]; omega)
          rw [set_app (by omega), set_app (by rw [len_hardAll]; omega)] at I3
          obtain ⟨f4, I4, le4⟩ := I3.store (i := i) (by simp [l2]) (by rw [List.length_set, len_hardAll]; omega)
          rw [List.set_comm _ _ (Ne.symm hij), List.set_comm _ _ (Ne.symm hij)] at I4
          refine k _ H1 ⟨G2, f4, I4, ((s1.trans s2).trans (Stp.less le3)).trans (Stp.less le4), by simp [l2], fun q hq => ?_⟩
          rw [List.getElem?_set_ne (fun z => by subst z; exact c.2.1 hq), List.getElem?_set_ne (fun z => by subst z; exact c.1 hq)]
    · cases e
  · cases e
theorem ss_par (i j : Nat) {x y : Str} {a b : Expr} {px py pt : Pos} {kt k2 pt2 pos} {ev : EvEs} (hc : X.calm = true) (hN : X.N.Nodup) (h : SEs X ev [a, b]) (hi : X.N[i]? = some x := by rfl) (hj : X.N[j]? = some y := by rfl) (hij : i ≠ j := by decide)
    (hx : X.env.scope.names.lookup x = some .local := by rfl) (hy : X.env.scope.names.lookup y = some .local := by rfl)
    (hw : swappedStores [.Tuple [.Name x px, .Name y py] kt pt] (.Tuple [a, b] k2 pt2) X.env = pure (some [x, y]) := by rfl)
    (hs : swapsWithSole [.Tuple [.Name x px, .Name y py] kt pt] (.Tuple [a, b] k2 pt2) pos.line X.env = pure false := by rfl) :
    SS X R (sPar R i j ev) (.Assign [.Tuple [.Name x px, .Name y py] kt pt] (.Tuple [a, b] k2 pt2) pos) := by
  obtain ⟨ta, p, q⟩ := h
  exact ⟨_, ps_par hc hN hi hj hij hx hy p hw hs, sr_par hij q⟩
def sPar3 (R : List Nat) (i j l : Nat) (ev : EvEs) : EvS := fun os => match ev os with
  | some (rs, os1) => match cvs (hardAll os1 rs) rs with
    | some [o1, o2, o3] => if i ∈ R ∨ j ∈ R ∨ l ∈ R ∨ os1.length ≤ i ∨ os1.length ≤ j ∨ os1.length ≤ l then none else some (.nx ((((hardAll os1 rs).set i (some o1)).set j (some o2)).set l (some o3)))
    | _ => none
  | none => none
theorem sr_par3 {i j l : Nat} {ev : EvEs} {ta : TA} (hij : i ≠ j) (hil : i ≠ l) (hjl : j ≠ l) (h : ERs K ev ta) : SR K R (sPar3 R i j l ev) (tPar3 i j l ta) := fun σ G H os f res D hl I e k => by
  unfold sPar3 at e
  split at e
  · rename_i rs os1 e1
    split at e
    · rename_i o1 o2 o3 e2
      split at e
      · cases e
      · rename_i c
        simp only [not_or, Nat.not_le] at c
        cases e
        refine h σ [] G H os [] f rs os1 _ hl rfl (by simpa using I) e1 fun vs H1 k1 => ?_
        obtain ⟨G1, f1, I1, s1, a1, l1⟩ := k1
        obtain ⟨G2, f2, I2, s2⟩ := I1.settle l1 rfl a1 e2
        have hn : vs.length = 3 := by rw [a1.len, ← cvs_len e2]; rfl
        match vs, hn with
        | [u, v, w], _ =>
          refine ⟨u, v, w, rfl, ?_⟩
          have l2 : σ.length = (hardAll os1 rs).length := by rw [len_hardAll]; exact l1
          obtain ⟨f3, I3, le3⟩ := (show SI K G2 H1 (σ ++ ([some u, some v] ++ [some w])) (hardAll os1 rs ++ ([some o1, some o2] ++ [some o3])) f2 by simpa using I2).storeT (i := l) l2 rfl (by rw [len_hardAll]; omega)
          obtain ⟨f4, I4, le4⟩ := (show SI K G2 H1 (σ.set l (some w) ++ ([some u] ++ [some v])) ((hardAll os1 rs).set l (some o3) ++ ([some o1] ++ [some o2])) f3 by simpa using I3).storeT (i := j) (by simp [l2]) rfl (by rw [List.length_set, len_hardAll]; omega)
          obtain ⟨f5, I5, le5⟩ := (show SI K G2 H1 ((σ.set l (some w)).set j (some v) ++ ([] ++ [some u])) (((hardAll os1 rs).set l (some o3)).set j (some o2) ++ ([] ++ [some o1])) f4 by simpa using I4).storeT (i := i) (by simp [l2]) rfl (by rw [List.length_set, List.length_set, len_hardAll]; omega)
          rw [List.append_nil, List.append_nil] at I5
          rw [show ((σ.set l (some w)).set j (some v)).set i (some u) = ((σ.set i (some u)).set j (some v)).set l (some w) by
              rw [List.set_comm _ _ (Ne.symm hij), List.set_comm _ _ (Ne.symm hil), List.set_comm _ _ (Ne.symm hjl)],
            show (((hardAll os1 rs).set l (some o3)).set j (some o2)).set i (some o1) = (((hardAll os1 rs).set i (some o1)).set j (some o2)).set l (some o3) by
              rw [List.set_comm _ _ (Ne.symm hij), List.set_comm _ _ (Ne.symm hil), List.set_comm _ _ (Ne.symm hjl)]] at I5
          refine k _ H1 ⟨G2, f5, I5, (((s1.trans s2).trans (Stp.less le3)).trans (Stp.less le4)).trans (Stp.less le5), by simp [l2], fun q hq => ?_⟩
          rw [List.getElem?_set_ne (fun z => by subst z; exact c.2.2.1 hq), List.getElem?_set_ne (fun z => by subst z; exact c.2.1 hq), List.getElem?_set_ne (fun z => by subst z; exact c.1 hq)]
    · cases e
  · cases e
theorem ss_par3 (i j l : Nat) {x y z : Str} {a b c : Expr} {px py pz pt pos : Pos} {kt k2 pt2} {ev : EvEs} (hc : X.calm = true) (hN : X.N.Nodup) (h : SEs X ev [a, b, c]) (hi : X.N[i]? = some x := by rfl) (hj : X.N[j]? = some y := by rfl) (hl : X.N[l]? = some z := by rfl)
    (hij : i ≠ j := by decide) (hil : i ≠ l := by decide) (hjl : j ≠ l := by decide)
    (hx : X.env.scope.names.lookup x = some .local := by rfl) (hy : X.env.scope.names.lookup y = some .local := by rfl) (hz : X.env.scope.names.lookup z = some .local := by rfl)
    (hw : swappedStores [.Tuple [.Name x px, .Name y py, .Name z pz] kt pt] (.Tuple [a, b, c] k2 pt2) X.env = pure (some [x, y, z]) := by rfl)
    (hs : swapsWithSole [.Tuple [.Name x px, .Name y py, .Name z pz] kt pt] (.Tuple [a, b, c] k2 pt2) pos.line X.env = pure false := by rfl) :
    SS X R (sPar3 R i j l ev) (.Assign [.Tuple [.Name x px, .Name y py, .Name z pz] kt pt] (.Tuple [a, b, c] k2 pt2) pos) := by
  obtain ⟨ta, p, q⟩ := h
  exact ⟨_, ps_par3 hc hN hi hj hl hij hil hjl hx hy hz p hw hs, sr_par3 hij hil hjl q⟩
end
end DX
/-! DXLc: list comprehensions. -/
namespace DX
open PySem PySem.Spec PyProof.Rows L2

section
variable {K : PySem.W.Frag} {X : Cx}
/-- the reading that an expression's worth stands for by itself -/
def TEof (K : PySem.W.Frag) (ev : EvE) : TE := fun σ H Q => ∃ (τ : List (Option V)) (G : Hp) (os θ : En) (f : FP) (r : RV) (os' : En), σ.length = os.length ∧ τ.length = θ.length ∧ SI K G H (σ ++ τ) (os ++ θ) f ∧ ev os = some (r, os') ∧ ∀ v H', Kont K σ τ G H f os' θ [v] [r] H' → Q v H'
def TTof (K : PySem.W.Frag) (ev : EvT) : TT := fun σ H Q => ∃ (τ : List (Option V)) (G : Hp) (os θ : En) (f : FP) (b : Bool) (os' : En), σ.length = os.length ∧ τ.length = θ.length ∧ SI K G H (σ ++ τ) (os ++ θ) f ∧ ev os = some (b, os') ∧ ∀ H', KontT K σ τ G H f os' θ H' → Q b H'
theorem er_of (ev : EvE) : ER K ev (TEof K ev) := fun σ τ G H os θ f r os' Q hl ht I e k => ⟨τ, G, os, θ, f, r, os', hl, ht, I, e, k⟩
theorem tr_of (ev : EvT) : TR K ev (TTof K ev) := fun σ τ G H os θ f b os' Q hl ht I e k => ⟨τ, G, os, θ, f, b, os', hl, ht, I, e, k⟩
theorem SE.pe {ev : EvE} {e : Expr} (h : SE X ev e) : PE X e (TEof X.K ev) := by
  obtain ⟨te, p, q⟩ := h
  exact ⟨fun pins s σ H Q I hq => by
    obtain ⟨τ, G, os, θ, f, r, os', a, b, c, d, k⟩ := hq
    exact p.run pins s σ H Q I (q σ τ G H os θ f r os' Q a b c d k)⟩
theorem STt.pt {ev : EvT} {e : Expr} (h : STt X ev e) : PT X e (TTof X.K ev) := by
  obtain ⟨te, p, q⟩ := h
  exact ⟨fun pins s σ H Q I hq => by
    obtain ⟨τ, G, os, θ, f, r, os', a, b, c, d, k⟩ := hq
    exact p.run pins s σ H Q I (q σ τ G H os θ f r os' Q a b c d k)⟩

def wipeE (os : En) : List Nat → En
  | [] => os
  | v :: vs => (wipeE os vs).set v none
theorem len_wipeE (os : En) : ∀ vs : List Nat, (wipeE os vs).length = os.length
  | [] => rfl
  | v :: vs => by unfold wipeE; rw [List.length_set, len_wipeE os vs]
theorem wipeE_none {os : En} {j : Nat} : ∀ {vs : List Nat}, j ∈ vs → ∀ o, (wipeE os vs)[j]? ≠ some (some o)
  | v :: vs, h, o, e => by
    unfold wipeE at e
    by_cases z : v = j
    · subst z
      by_cases q : v < (wipeE os vs).length
      · rw [List.getElem?_set_self q] at e; cases e
      · rw [List.getElem?_eq_none (by simpa using q)] at e; cases e
    · rw [List.getElem?_set_ne z] at e
      rcases List.mem_cons.mp h with y | y
      · exact z y.symm
      · exact wipeE_none y o e
theorem wipe_set {σ : L2.St} {i : Nat} {x : Option V} : ∀ {vs : List Nat}, i ∈ vs → wipe (σ.set i x) vs = wipe σ vs ∧ True
  | v :: vs, h => by
    refine ⟨?_, trivial⟩
    show (wipe (σ.set i x) vs).set v none = (wipe σ vs).set v none
    by_cases m : i ∈ vs
    · rw [(wipe_set m).1]
    · have hv : i = v := by
        rcases List.mem_cons.mp h with y | y
        · exact y
        · exact absurd y m
      subst hv
      have : ∀ {ws : List Nat}, i ∉ ws → wipe (σ.set i x) ws = (wipe σ ws).set i x := fun {ws} => by
        induction ws with
        | nil => intro _; rfl
        | cons w ws ih =>
          intro hw
          simp only [List.mem_cons, not_or] at hw
          show (wipe (σ.set i x) ws).set w none = ((wipe σ ws).set w none).set i x
          rw [ih hw.2, List.set_comm _ _ (fun z => hw.1 z)]
      rw [this m, List.set_set]
theorem wipe_get {σ : L2.St} {i : Nat} : ∀ {vs : List Nat}, i ∉ vs → (wipe σ vs)[i]? = σ[i]?
  | [], _ => rfl
  | v :: vs, h => by
    simp only [List.mem_cons, not_or] at h
    show ((wipe σ vs).set v none)[i]? = _
    rw [List.getElem?_set_ne (fun z => h.1 z.symm)]
    exact wipe_get h.2
/-- what is not said of a slot may be any -/
theorem SL.swap {G H : Hp} : ∀ {vs ws : List (Option V)} {os : En} {f : FP}, SL K G H vs os f → ws.length = vs.length → (∀ (i : Nat) (o : OD), os[i]? = some (some o) → ws[i]? = vs[i]?) → SL K G H ws os f
  | _, [], _, _, .nil, _, _ => .nil
  | _, w :: ws, _, _, .un r, l, h => .un (SL.swap r (by simpa using l) fun i o e => by simpa using h (i + 1) o (by simpa using e))
  | _, w :: ws, _, _, .val (v := v) (o := o) q r, l, h => by
    have := h 0 o rfl
    simp at this
    subst this
    exact .val q (SL.swap r (by simpa using l) fun i o e => by simpa using h (i + 1) o (by simpa using e))
/-- less is said -/
theorem SL.wiped {G H : Hp} {vs : List (Option V)} {os θ : En} {f : FP} (h : SL K G H vs (os ++ θ) f) : ∀ own : List Nat, ∃ g, SL K G H vs (wipeE os own ++ θ) g ∧ ∀ a, g a ≤ f a
  | [] => ⟨f, h, fun _ => Nat.le_refl _⟩
  | v :: own => by
    obtain ⟨g, h1, h2⟩ := SL.wiped h own
    by_cases q : v < (wipeE os own).length
    · cases e : (wipeE os own)[v]? with
      | none => rw [List.getElem?_eq_none_iff] at e; omega
      | some oo =>
        cases oo with
        | none =>
          refine ⟨g, ?_, h2⟩
          show SL K G H vs ((wipeE os own).set v none ++ θ) g
          rw [set_id e]; exact h1
        | some o =>
          obtain ⟨w, fo, fr, m1, m2, m3, m4⟩ := SL.out h1 (i := v) (o := o) (by rw [get_app q]; exact e)
          rw [set_app q] at m4
          exact ⟨fr, m4, fun a => by have := h2 a; have := m3 a; omega⟩
    · refine ⟨g, ?_, h2⟩
      show SL K G H vs ((wipeE os own).set v none ++ θ) g
      rw [List.set_eq_of_length_le (by omega)]; exact h1

/-- a comprehension's target: its own names alone change -/
def TGc (K : PySem.W.Frag) (own : List Nat) (tv : EvG) (g : TG) : Prop := ∀ (σ τ : List (Option V)) (G H : Hp) (os θ : En) (f : FP) (v : V) (d : PyData) (os' : En) (Q : L2.St → Hp → Prop),
  σ.length = os.length → τ.length = θ.length → SI K G H (σ ++ τ) (os ++ θ) f → Dx K G v d → tv d os = some os' →
  (∀ σ' f', wipe σ' own = wipe σ own → SI K G H (σ' ++ τ) (os' ++ θ) f' → (∀ a, f' a ≤ f a) → σ'.length = os'.length → Q σ' H) → g v σ H Q
theorem tgc_name {own : List Nat} {i : Nat} (h : i ∈ own) : TGc K own (gvName [] i) (gName i) := fun σ τ G H os θ f v d os' Q hl ht I hd e k => by
  unfold gvName at e
  split at e
  · cases e
  · rename_i c
    cases e
    simp only [List.not_mem_nil, false_or, Nat.not_le] at c
    have J : SI K G H (σ ++ (τ ++ [some v])) (os ++ (θ ++ [some (.sh d)])) f := by simpa [List.append_assoc] using I.push hd
    obtain ⟨f', I2, le⟩ := J.storeT hl ht c
    exact k _ f' (wipe_set h).1 I2 le (by simp [hl])
theorem tgc_two {own : List Nat} {i j : Nat} (h : i ∈ own) (h' : j ∈ own) : TGc K own (gvTup 2 (gvCons (gvName [] i) (gvCons (gvName [] j) gvNil))) (gTup K 2 (gCons (gName i) (gCons (gName j) gNil))) := fun σ τ G H os θ f v d os' Q hl ht I hd e k => by
  unfold gvTup at e
  split at e
  · rename_i ds
    split at e
    · rename_i c
      match ds, c with
      | [d1, d2], _ =>
        unfold gvCons at e
        simp only at e
        split at e
        · rename_i os1 e1
          split at e
          · rename_i os2 e2
            simp only [gvNil] at e
            cases e
            cases hd with
            | tup r1 r2 =>
              obtain ⟨v1, v2, rfl, q1, q2⟩ := dps2 r2
              refine ⟨_, _, rfl, sqT_sub I.sub r1, rfl, v1, _, rfl, ?_⟩
              refine tgc_name h σ τ G H os θ f v1 d1 os1 _ hl ht I q1 e1 fun σ1 f1 w1 I1 le1 l1 => ?_
              refine ⟨v2, _, rfl, ?_⟩
              refine tgc_name h' σ1 τ G H os1 θ f1 v2 d2 _ _ l1 ht I1 q2 e2 fun σ2 f2 w2 I2 le2 l2 => ?_
              exact ⟨rfl, k σ2 f2 (w2.trans w1) I2 (fun a => Nat.le_trans (le2 a) (le1 a)) l2⟩
          · cases e
        · cases e
    · cases e
  · cases e

/-! ### the comprehension -/
def lcF (own : List Nat) (tv : EvG) (c : EvT) (ev : EvE) : List PyData → En → List OD → Option (List OD × En)
  | [], os, acc => some (acc, os)
  | d :: ds, os, acc => match tv d os with
    | some os1 => match c os1 with
      | some (true, os2) => match ev os2 with
        | some (r, os3) => match cv (hard os3 r) r with
          | some o => if acc.length < sizeLine then lcF own tv c ev ds (wipeE (hard os3 r) own) (acc ++ [o]) else none
          | none => none
        | none => none
      | some (false, os2) => lcF own tv c ev ds (wipeE os2 own) acc
      | none => none
    | none => none
def eLc (own : List Nat) (it : EvI) (tv : EvG) (c : EvT) (ev : EvE) : EvE := fun os => match it os with
  | some (ds, os1) => match lcF own tv c ev ds (wipeE os1 own) [] with
    | some (acc, os2) => some (.tm (.lst acc), os2)
    | none => none
  | none => none
def cYes : EvT := fun os => some (true, os)
theorem tr_yes : TR K cYes tYes := fun σ τ G H os θ f b os' Q hl ht I e k => by
  cases e
  exact k H ⟨G, f, I, Stp.refl _ _ _, hl⟩
theorem er_lc {own : List Nat} {it : EvI} {tv : EvG} {c : EvT} {ev : EvE} {wi : TI} {g : TG} {tt : TT} {te : TE} (hi : IR K it wi) (hg : TGc K own tv g) (hc : TR K c tt) (he : ER K ev te) : ER K (eLc own it tv c ev) (tLc wi g tt te own) := fun σ τ G H os θ f r os' Q hl ht I e k => by
  unfold eLc at e
  split at e
  · rename_i ds os1 e1
    split at e
    · rename_i acc' os2 e2
      cases e
      refine hi σ τ G H os θ f ds os1 _ hl ht I e1 fun J H1 G1 f1 I1 s1 l1 itk => ?_
      intro D hD
      -- the new list on the stack
      obtain ⟨gw, Lw, lew⟩ := SL.wiped I1.sl own
      have Iw : SI K G1 H1 (σ ++ τ) (wipeE os1 own ++ θ) gw := I1.forget Lw lew
      obtain ⟨f2, I2, s2⟩ := Iw.pushNew (xs := []) (ds := []) .nil hD
      have hsw : ∀ {ws : List (Option V)} {os3 θ3 : En} {G3 H3 : Hp} {f3 : FP} {τ3 : List (Option V)} {σ3 : L2.St}, SI K G3 H3 (σ3 ++ τ3) (os3 ++ θ3) f3 → σ3.length = os3.length → ws.length = σ3.length → (∀ (j : Nat), j ∉ own → ws[j]? = σ3[j]?) → (∀ j ∈ own, ∀ o, os3[j]? ≠ some (some o)) → SI K G3 H3 (ws ++ τ3) (os3 ++ θ3) f3 :=
        fun {ws os3 θ3 G3 H3 f3 τ3 σ3} I3 l3 lw hw hn => ⟨I3.sl.swap (by simp [lw]) fun j o ej => by
          by_cases hj : j < os3.length
          · rw [get_app (by omega), get_app (by omega)]
            rw [get_app hj] at ej
            exact hw j fun m => hn j m o ej
          · rw [List.getElem?_append_right (by omega), List.getElem?_append_right (by omega), lw], I3.sub, I3.one, I3.hid⟩
      refine ⟨fun i m H' => m = ds.length - i ∧ i ≤ ds.length ∧ ∃ os3 acc G3 f3, SI K G3 H' (wipe σ own ++ (τ ++ [some (.ref D)])) (os3 ++ (θ ++ [some (.lst acc)])) f3 ∧ Stp G1 H1 f1 G3 H' f3 ∧ σ.length = os3.length ∧ (∀ j ∈ own, ∀ o, os3[j]? ≠ some (some o)) ∧ lcF own tv c ev (ds.drop i) os3 acc = some (acc', os'), ⟨ds.length, by simp, Nat.zero_le _, wipeE os1 own, [], G1, f2, ?_, (Stp.less lew).trans s2, by rw [len_wipeE]; exact l1, fun j hj => wipeE_none hj, by simpa using e2⟩, fun i m H' hW => ?_⟩
      · have I2' : SI K G1 (upd H1 D (.lst [])) (σ ++ (τ ++ [some (.ref D)])) (wipeE os1 own ++ (θ ++ [some (.lst [])])) f2 := by simpa [List.append_assoc] using I2
        exact hsw I2' (by rw [len_wipeE]; exact l1) (wipe_length _ _) (fun j hj => wipe_get hj) fun j hj => wipeE_none hj
      · obtain ⟨rfl, hle, os3, acc, G3, f3, I3, s3, l3, nn, e3⟩ := hW
        obtain ⟨j1, j2, j3⟩ := itk i G3 H' s3.gsub I3.sub
        by_cases hlt : i < ds.length
        · refine .inr ⟨j1 hlt, fun H'' => ∃ os4 acc4 G4 f4, SI K G4 H'' (wipe σ own ++ (τ ++ [some (.ref D)])) (os4 ++ (θ ++ [some (.lst acc4)])) f4 ∧ Stp G1 H1 f1 G4 H'' f4 ∧ σ.length = os4.length ∧ (∀ j ∈ own, ∀ o, os4[j]? ≠ some (some o)) ∧ lcF own tv c ev (ds.drop (i + 1)) os4 acc4 = some (acc', os'),
            fun H'' ⟨os4, acc4, G4, f4, q1, q2, q3, q4, q5⟩ => ⟨ds.length - (i + 1), by omega, rfl, hlt, os4, acc4, G4, f4, q1, q2, q3, q4, q5⟩, fun x H4 y => ?_⟩
          have hd : ds[i]? = some ds[i] := List.getElem?_eq_getElem hlt
          obtain ⟨G4, n4, hx⟩ := j3 x H4 _ hd y
          obtain ⟨I4, s4⟩ := I3.nw n4
          rw [List.drop_eq_getElem_cons hlt] at e3
          unfold lcF at e3
          split at e3
          · rename_i os5 e5
            refine hg (wipe σ own) (τ ++ [some (.ref D)]) G4 H4 os3 (θ ++ [some (.lst acc)]) f3 x ds[i] os5 _ (by rw [wipe_length]; exact l3) (by simp [ht]) I4 hx e5 fun σ5 f5 w5 I5 le5 l5 => ?_
            have wid : wipe (wipe σ own) own = wipe σ own := by
              apply List.ext_getElem?
              intro j
              by_cases hj : j ∈ own
              · have a1 : ∀ τ : L2.St, ∀ v, (wipe τ own)[j]? ≠ some (some v) := fun τ v z => (wipe_some z).2 hj
                cases z1 : (wipe (wipe σ own) own)[j]? with
                | none =>
                  have := List.getElem?_eq_none_iff.mp z1
                  rw [wipe_length] at this
                  rw [List.getElem?_eq_none this]
                | some a =>
                  cases a with
                  | some v => exact absurd z1 (a1 _ v)
                  | none =>
                    have := lt_of_get z1
                    rw [wipe_length] at this
                    cases z2 : (wipe σ own)[j]? with
                    | none => have := List.getElem?_eq_none_iff.mp z2; omega
                    | some b =>
                      cases b with
                      | some v => exact absurd z2 (a1 _ v)
                      | none => rfl
              · rw [wipe_get hj]
            refine ⟨by rw [w5, wid], ?_⟩
            have st5 : Stp G1 H1 f1 G4 H4 f5 := (s3.trans s4).trans (Stp.less le5)
            have hback : ∀ (j : Nat), j ∉ own → (wipe σ own)[j]? = σ5[j]? := fun j hj => by
              have : (wipe σ5 own)[j]? = (wipe (wipe σ own) own)[j]? := by rw [w5]
              rw [wipe_get hj, wipe_get hj] at this
              exact this.symm
            split at e3
            · rename_i os6 e6
              refine hc σ5 (τ ++ [some (.ref D)]) G4 H4 os5 (θ ++ [some (.lst acc)]) f5 true os6 _ l5 (by simp [ht]) I5 e6 fun H6 k6 => ?_
              obtain ⟨G6, f6, I6, s6, l6⟩ := k6
              rw [if_pos rfl]
              split at e3
              · rename_i r7 os7 e7
                split at e3
                · rename_i o e8
                  split at e3
                  · rename_i hsz
                    refine he σ5 (τ ++ [some (.ref D)]) G6 H6 os6 (θ ++ [some (.lst acc)]) f6 r7 os7 _ l6 (by simp [ht]) I6 e7 fun y7 H7 k7 => ?_
                    obtain ⟨G7, f7, I7, s7, a7, l7⟩ := k7
                    obtain ⟨G8, f8, I8, s8⟩ := I7.settle (ods := [o]) l7 (by simp [ht]) a7 (by
                      show (match cv (hard os7 r7) r7, cvs (hard os7 r7) [] with | some o, some ods => some (o :: ods) | _, _ => none) = some [o]
                      rw [e8]; rfl)
                    have I8' : SI K G8 H7 ((σ5 ++ (τ ++ [some (.ref D)])) ++ [some y7]) ((hard os7 r7 ++ (θ ++ [some (.lst acc)])) ++ [some o]) f8 := by simpa [List.append_assoc, hardAll] using I8
                    have hpos : (hard os7 r7 ++ (θ ++ [some (.lst acc)]))[(hard os7 r7).length + θ.length]? = some (some (.lst acc)) := by
                      rw [List.getElem?_append_right (by omega), List.getElem?_append_right (by omega)]
                      simp
                    obtain ⟨p, us, b1, b2, b3, f9, I9, s9⟩ := I8'.app (by simp [l7, ht, len_hard]) hpos
                    have ep : p = D := by
                      rw [List.getElem?_append_right (by rw [len_hard]; omega), List.getElem?_append_right (by rw [len_hard]; omega)] at b1
                      simp [len_hard, l7, ht] at b1
                      exact b1.symm
                    subst ep
                    refine ⟨us, b2, by rw [b3]; exact hsz, wipeE (hard os7 r7) own, acc ++ [o], G8, ?_⟩
                    have I9' : SI K G8 (upd H7 p (.lst (us ++ [y7]))) (σ5 ++ (τ ++ [some (.ref p)])) (hard os7 r7 ++ (θ ++ [some (.lst (acc ++ [o]))])) f9 := by
                      rw [List.set_append_right _ _ (by omega), List.set_append_right _ _ (by omega)] at I9
                      simpa using I9
                    obtain ⟨gA, LA, leA⟩ := SL.wiped I9'.sl own
                    have IA := I9'.forget LA leA
                    refine ⟨gA, hsw IA (by rw [len_wipeE, len_hard]; exact l7) (by rw [wipe_length]; have := congrArg List.length w5; rw [wipe_length, wipe_length, wipe_length] at this; exact this.symm) hback (fun j hj => wipeE_none hj), ?_, ?_, fun j hj => wipeE_none hj, e3⟩
                    · exact ((((st5.trans s6).trans s7).trans s8).trans s9).trans (Stp.less leA)
                    · rw [len_wipeE, len_hard, ← l7]
                      have := congrArg List.length w5; rw [wipe_length, wipe_length, wipe_length] at this; exact this.symm
                  · cases e3
                · cases e3
              · cases e3
            · rename_i os6 e6
              refine hc σ5 (τ ++ [some (.ref D)]) G4 H4 os5 (θ ++ [some (.lst acc)]) f5 false os6 _ l5 (by simp [ht]) I5 e6 fun H6 k6 => ?_
              obtain ⟨G6, f6, I6, s6, l6⟩ := k6
              rw [if_neg Bool.false_ne_true]
              obtain ⟨gA, LA, leA⟩ := SL.wiped I6.sl own
              have IA := I6.forget LA leA
              have l56 : σ.length = σ5.length := by have := congrArg List.length w5; rw [wipe_length, wipe_length, wipe_length] at this; exact this.symm
              exact ⟨wipeE os6 own, acc, G6, gA, hsw IA (by rw [len_wipeE]; exact l6) (by rw [wipe_length]; exact l56) hback (fun j hj => wipeE_none hj), (st5.trans s6).trans (Stp.less leA), by rw [len_wipeE, ← l6]; exact l56, fun j hj => wipeE_none hj, e3⟩
            · cases e3
          · cases e3
        · have ei : i = ds.length := by omega
          subst ei
          rw [List.drop_length] at e3
          cases e3
          refine .inl ⟨j2 (Nat.le_refl _), k _ H' ⟨G3, f3, ?_, s1.trans s3, .cons trivial .nil, l3⟩⟩
          have := hsw I3 (by rw [wipe_length]; exact l3) (ws := σ) (wipe_length _ _).symm (fun j hj => (wipe_get hj).symm) nn
          simpa [RV.od] using this
    · cases e
  · cases e
end
end DX
/-! DXSyn: comprehensions and methods of texts as they stand in a text. -/
namespace DX
open PySem PySem.Spec PyProof.Rows L2

section
variable {X : Cx} {R : List Nat} {elt iter c : Expr} {x : Str} {px pos : Pos} {scope : Scope} {i : Nat} {it : EvI} {ev : EvE} {cc : EvT}
theorem se_lc (i : Nat) (hc : X.calm = true) (hN : X.N.Nodup) (hi : SI' X (.Name x px) it iter) (he : ∀ (s : Shared) (H : Hp) (C : Addr) (cl : List (Str × Addr)) (fp : List Addr), SE (X.blk s H scope (compEnvC scope cl C X.env) fp) ev elt)
    (ok : BlkOk X.N X.env.scope scope [(x, i)] := by exact blkOk_by (by decide +kernel))
    (hg : ∀ (s : Shared) (H : Hp) (C : Addr) (cl : List (Str × Addr)) (fp : List Addr), PG (X.blk s H scope (compEnvC scope cl C X.env) fp) (.Name x px) (gName i) := by exact fun _ _ _ _ _ => pg_name (by assumption) rfl (Or.inl rfl))
    (hs : ∀ v, foldedSetIterable iter X.env v = pure v := by intro _; rfl) : SE X (eLc [i] it (gvName [] i) cYes ev) (.ListComp elt [⟨.Name x px, iter, [], 0⟩] scope pos) := by
  obtain ⟨wi, p, q⟩ := hi
  exact ⟨_, pe_lc (own := [(x, i)]) hc hN p ok hg (fun _ _ _ _ _ => pts_nil) (fun s H C cl fp => (he s H C cl fp).pe) hs, er_lc q (tgc_name (by simp)) tr_yes (er_of ev)⟩
theorem se_lcIf (i : Nat) (hc : X.calm = true) (hN : X.N.Nodup) (hi : SI' X (.Name x px) it iter) (ht : ∀ (s : Shared) (H : Hp) (C : Addr) (cl : List (Str × Addr)) (fp : List Addr), STt (X.blk s H scope (compEnvC scope cl C X.env) fp) cc c) (he : ∀ (s : Shared) (H : Hp) (C : Addr) (cl : List (Str × Addr)) (fp : List Addr), SE (X.blk s H scope (compEnvC scope cl C X.env) fp) ev elt)
    (ok : BlkOk X.N X.env.scope scope [(x, i)] := by exact blkOk_by (by decide +kernel))
    (hg : ∀ (s : Shared) (H : Hp) (C : Addr) (cl : List (Str × Addr)) (fp : List Addr), PG (X.blk s H scope (compEnvC scope cl C X.env) fp) (.Name x px) (gName i) := by exact fun _ _ _ _ _ => pg_name (by assumption) rfl (Or.inl rfl))
    (hs : ∀ v, foldedSetIterable iter X.env v = pure v := by intro _; rfl) : SE X (eLc [i] it (gvName [] i) cc ev) (.ListComp elt [⟨.Name x px, iter, [c], 0⟩] scope pos) := by
  obtain ⟨wi, p, q⟩ := hi
  exact ⟨_, pe_lc (own := [(x, i)]) hc hN p ok hg (fun s H C cl fp => pts_one (ht s H C cl fp).pt) (fun s H C cl fp => (he s H C cl fp).pe) hs, er_lc q (tgc_name (by simp)) (tr_of cc) (er_of ev)⟩
/-- y = [..] -/
theorem ss_setLc (j i : Nat) {y : Str} {py spos : Pos} (hc : X.calm = true) (hN : X.N.Nodup) (hi : SI' X (.Name x px) it iter) (he : ∀ (s : Shared) (H : Hp) (C : Addr) (cl : List (Str × Addr)) (fp : List Addr), SE (X.blk s H scope (compEnvC scope cl C X.env) fp) ev elt)
    (hy : X.N[j]? = some y := by rfl) (hyl : X.env.scope.names.lookup y = some .local := by rfl)
    (hsw : swapsWith (.ListComp elt [⟨.Name x px, iter, [], 0⟩] scope pos) (some (.Name y py)) spos.line X.env = pure true := by exact sw_true rfl rfl rfl (by decide +kernel))
    (ok : BlkOk X.N X.env.scope scope [(x, i)] := by exact blkOk_by (by decide +kernel))
    (hg : ∀ (s : Shared) (H : Hp) (C : Addr) (cl : List (Str × Addr)) (fp : List Addr), PG (X.blk s H scope (compEnvC scope cl C X.env) fp) (.Name x px) (gName i) := by exact fun _ _ _ _ _ => pg_name (by assumption) rfl (Or.inl rfl))
    (hs : ∀ v, foldedSetIterable iter X.env v = pure v := by intro _; rfl) : SS X R (sAsg R j (eLc [i] it (gvName [] i) cYes ev)) (.Assign [.Name y py] (.ListComp elt [⟨.Name x px, iter, [], 0⟩] scope pos) spos) := by
  obtain ⟨wi, p, q⟩ := hi
  exact ⟨_, ps_setLc (own := [(x, i)]) hc hN hy hyl hsw p ok hg (fun _ _ _ _ _ => pts_nil) (fun s H C cl fp => (he s H C cl fp).pe) hs, sr_asg (er_lc q (tgc_name (by simp)) tr_yes (er_of ev))⟩
theorem ss_setLcIf (j i : Nat) {y : Str} {py spos : Pos} (hc : X.calm = true) (hN : X.N.Nodup) (hi : SI' X (.Name x px) it iter) (ht : ∀ (s : Shared) (H : Hp) (C : Addr) (cl : List (Str × Addr)) (fp : List Addr), STt (X.blk s H scope (compEnvC scope cl C X.env) fp) cc c) (he : ∀ (s : Shared) (H : Hp) (C : Addr) (cl : List (Str × Addr)) (fp : List Addr), SE (X.blk s H scope (compEnvC scope cl C X.env) fp) ev elt)
    (hy : X.N[j]? = some y := by rfl) (hyl : X.env.scope.names.lookup y = some .local := by rfl)
    (hsw : swapsWith (.ListComp elt [⟨.Name x px, iter, [c], 0⟩] scope pos) (some (.Name y py)) spos.line X.env = pure true := by exact sw_true rfl rfl rfl (by decide +kernel))
    (ok : BlkOk X.N X.env.scope scope [(x, i)] := by exact blkOk_by (by decide +kernel))
    (hg : ∀ (s : Shared) (H : Hp) (C : Addr) (cl : List (Str × Addr)) (fp : List Addr), PG (X.blk s H scope (compEnvC scope cl C X.env) fp) (.Name x px) (gName i) := by exact fun _ _ _ _ _ => pg_name (by assumption) rfl (Or.inl rfl))
    (hs : ∀ v, foldedSetIterable iter X.env v = pure v := by intro _; rfl) : SS X R (sAsg R j (eLc [i] it (gvName [] i) cc ev)) (.Assign [.Name y py] (.ListComp elt [⟨.Name x px, iter, [c], 0⟩] scope pos) spos) := by
  obtain ⟨wi, p, q⟩ := hi
  exact ⟨_, ps_setLc (own := [(x, i)]) hc hN hy hyl hsw p ok hg (fun s H C cl fp => pts_one (ht s H C cl fp).pt) (fun s H C cl fp => (he s H C cl fp).pe) hs, sr_asg (er_lc q (tgc_name (by simp)) (tr_of cc) (er_of ev))⟩
end

/-! ### methods of texts -/
section
variable {K : PySem.W.Frag} {X : Cx}
def rM (r : V → List V → Hp → VK → Prop) : List V → Hp → VK → Prop := fun vs H Q => match vs with
  | x :: xs => r x xs H Q
  | [] => False
def eMtS (fn : List PyData → Option Op) (ea : EvE) (es : EvEs) : EvE := fun os => match ea os with
  | some (r, os1) => match r.rd os1 with
    | some (.str _) => match es os1 with
      | some (rs, os2) => match rdAll os2 (r :: rs) with
        | some ds => match fn ds with
          | some res => some (opOut os2 (r :: rs) res)
          | none => none
        | none => none
      | none => none
    | _ => none
  | none => none
theorem er_mt {fn : List PyData → Option Op} {ea : EvE} {es : EvEs} {te : TE} {ta : TA} {r : V → List V → Hp → VK → Prop} (ha : ER K ea te) (hs : ERs K es ta) (ok : OpOk K (rM r) fn) : ER K (eMtS fn ea es) (tBM K "str" r te ta) := fun σ τ G H os θ f r' os' Q hl ht I e k => by
  unfold eMtS at e
  split at e
  · rename_i r1 os1 e1
    split at e
    · rename_i z e2
      split at e
      · rename_i rs os2 e3
        split at e
        · rename_i ds e4
          split at e
          · rename_i res e5
            have e : opOut os2 (r1 :: rs) res = (r', os') := Option.some.inj e
            refine ha σ τ G H os θ f r1 os1 _ hl ht I e1 fun v H1 k1 => ?_
            have hv := k1.read1 ht e2
            cases hv
            refine ⟨rfl, ?_⟩
            obtain ⟨G1, f1, I1, s1, a1, l1⟩ := k1
            refine hs σ (τ ++ [some (.str z)]) G1 H1 os1 (θ ++ [r1.od]) f1 rs os2 _ l1 (by simp [ht]) I1 e3 fun vs H2 k2 => ?_
            obtain ⟨G2, f2, I2, s2, a2, l2⟩ := k2
            have kk : Kont K σ τ G H f os2 θ (.str z :: vs) (r1 :: rs) H2 := ⟨G2, f2, by simpa [List.append_assoc] using I2, s1.trans s2, by
              cases a1 with
              | cons a _ => exact .cons a a2, l2⟩
            exact op_fin ok ht kk e4 e5 e k
          · cases e
        · cases e
      · cases e
    · cases e
  · cases e
theorem se_mt {name : Str} {id : String} {r : V → List V → Hp → VK → Prop} {fn : List PyData → Option Op} {o e : Expr} {es : List Expr} {apos cpos : Pos} {ea : EvE} {ev : EvEs} (slot : Slot "str" name id) (hty : typeOf (.builtin id) = pure (.type "method_descriptor")) (hm : MtR X id r) (ok : OpOk X.K (rM r) fn)
    (ho : SE X ea o) (ha : SEs X ev (e :: es)) (hbase : attributeBase o name X.env (eval o X.env) = eval o X.env := by rfl)
    (hfew : ((backTo cpos (starEach (e :: es) X.env)).all (fun y => !y.1) && (backToKw cpos (keywordEach [] X.env)).all (fun y => y.1.isSome) && decide ((e :: es).length + ([] : List Keyword).length + (if ([] : List Keyword).isEmpty then 0 else 1) < 30)) = true := by rfl)
    (hline : (apos.endLine == cpos.line) = true := by rfl) (hs : starEach (e :: es) X.env = (false, eval e X.env) :: starEach es X.env := by rfl) (hp : (backTo cpos (starEach es X.env)).any (·.1) = false := by rfl) :
    SE X (eMtS fn ea ev) (.Call (.Attribute o name apos) (e :: es) [] cpos) := by
  obtain ⟨te, p1, q1⟩ := ho
  obtain ⟨ta, p2, q2⟩ := ha
  exact ⟨_, pe_bm PySem.F.plainAttrs_str slot hty hm p1 p2 hbase hfew hline hs hp, er_mt q1 q2 ok⟩
def opSplit : List PyData → Option Op
  | [.str a, .str b] => if (b.length == 0) = false ∧ (Txt.split a b).all (fun y => decide (y.length ≤ strMax)) = true then some (.nl ((Txt.split a b).map PyData.str)) else none
  | _ => none
theorem dx_strs {H : Hp} : ∀ ys : List Str, ys.all (fun y => decide (y.length ≤ strMax)) = true → DxAll K H (ys.map V.str) (ys.map PyData.str)
  | [], _ => .nil
  | y :: ys, h => by
    simp only [List.all_cons, Bool.and_eq_true, decide_eq_true_eq] at h
    exact .cons (.str y h.1) (dx_strs ys h.2)
theorem ok_split : OpOk K (rM (fun x xs H Q => ∃ a b, x = .str a ∧ xs = [.str b] ∧ (b.length == 0) = false ∧ a.length + 2 ≤ sizeLine ∧ rNewStrs (Txt.split a b) H Q)) opSplit where
  sc := fun ds d H vs Q e _ _ _ => by
    unfold opSplit at e
    split at e
    · split at e <;> cases e
    · cases e
  el := fun ds d G H vs Q e _ _ _ _ => by
    unfold opSplit at e
    split at e
    · split at e <;> cases e
    · cases e
  nl := fun ds es G H vs Q e s hd k => by
    unfold opSplit at e
    split at e
    · split at e
      · rename_i c
        cases e
        obtain ⟨v, w, rfl, a, b⟩ := dws2 hd
        have a := a.dx s
        have b := b.dx s
        cases b
        cases a with
        | str _ ca => exact ⟨_, _, rfl, rfl, c.1, strMax_le ca, fun p hp => k _ p (dx_strs _ c.2) hp⟩
      · cases e
    · cases e
  nt := fun ds es G H vs Q e _ _ _ => by
    unfold opSplit at e
    split at e
    · split at e <;> cases e
    · cases e
def opPartition : List PyData → Option Op
  | [.str a, .str b] => if (b.length == 0) = false ∧ (Txt.partition a b).1.length ≤ strMax ∧ (Txt.partition a b).2.1.length ≤ strMax ∧ (Txt.partition a b).2.2.length ≤ strMax then some (.nt [.str (Txt.partition a b).1, .str (Txt.partition a b).2.1, .str (Txt.partition a b).2.2]) else none
  | _ => none
theorem ok_partition : OpOk K (rM (fun x xs H Q => ∃ a b, x = .str a ∧ xs = [.str b] ∧ (b.length == 0) = false ∧ a.length ≤ sizeLine ∧ ∀ p, H p = none → Q (.ref p) (upd H p (.tup [.str (Txt.partition a b).1, .str (Txt.partition a b).2.1, .str (Txt.partition a b).2.2])))) opPartition where
  sc := fun ds d H vs Q e _ _ _ => by
    unfold opPartition at e
    split at e
    · split at e <;> cases e
    · cases e
  el := fun ds d G H vs Q e _ _ _ _ => by
    unfold opPartition at e
    split at e
    · split at e <;> cases e
    · cases e
  nl := fun ds es G H vs Q e _ _ _ => by
    unfold opPartition at e
    split at e
    · split at e <;> cases e
    · cases e
  nt := fun ds es G H vs Q e s hd k => by
    unfold opPartition at e
    split at e
    · split at e
      · rename_i c
        cases e
        obtain ⟨v, w, rfl, a, b⟩ := dws2 hd
        have a := a.dx s
        have b := b.dx s
        cases b
        cases a with
        | str _ ca => exact ⟨_, _, rfl, rfl, c.1, strMax_le' ca, fun p hp => k _ p (.cons (.str _ c.2.1) (.cons (.str _ c.2.2.1) (.cons (.str _ c.2.2.2) .nil))) hp⟩
      · cases e
    · cases e
theorem se_split {o e : Expr} {apos cpos : Pos} {ea : EvE} {ev : EvEs} (ho : SE X ea o) (ha : SEs X ev [e]) (hbase : attributeBase o "split" X.env (eval o X.env) = eval o X.env := by rfl)
    (hfew : ((backTo cpos (starEach [e] X.env)).all (fun y => !y.1) && (backToKw cpos (keywordEach [] X.env)).all (fun y => y.1.isSome) && decide ([e].length + ([] : List Keyword).length + (if ([] : List Keyword).isEmpty then 0 else 1) < 30)) = true := by rfl)
    (hline : (apos.endLine == cpos.line) = true := by rfl) (hs : starEach [e] X.env = (false, eval e X.env) :: starEach [] X.env := by rfl) : SE X (eMtS opSplit ea ev) (.Call (.Attribute o "split" apos) [e] [] cpos) :=
  se_mt PySem.F.slot_str_split PySem.F.type_str_split mt_split ok_split ho ha hbase hfew hline hs (by rfl)
theorem se_partition {o e : Expr} {apos cpos : Pos} {ea : EvE} {ev : EvEs} (ho : SE X ea o) (ha : SEs X ev [e]) (hbase : attributeBase o "partition" X.env (eval o X.env) = eval o X.env := by rfl)
    (hfew : ((backTo cpos (starEach [e] X.env)).all (fun y => !y.1) && (backToKw cpos (keywordEach [] X.env)).all (fun y => y.1.isSome) && decide ([e].length + ([] : List Keyword).length + (if ([] : List Keyword).isEmpty then 0 else 1) < 30)) = true := by rfl)
    (hline : (apos.endLine == cpos.line) = true := by rfl) (hs : starEach [e] X.env = (false, eval e X.env) :: starEach [] X.env := by rfl) : SE X (eMtS opPartition ea ev) (.Call (.Attribute o "partition" apos) [e] [] cpos) :=
  se_mt PySem.F.slot_str_partition PySem.F.type_str_partition mt_partition ok_partition ho ha hbase hfew hline hs (by rfl)
end
end DX
/-! DXEnd: the law's call. -/
namespace DX
open PySem PySem.Spec PyProof.Rows L2

section
variable {P : Program} {w : World} {K : PySem.W.Frag} {mg mb : Str → Option Value} {k : Nat} {fa a : Addr} {fd : FuncData} {x : Str} {sp : Sp} {s₁ : Shared} {vs : List Value} {ns : List Int}
/-- the end of the law's call -/
def LawEnd (s₁ : Shared) (r : Result) (s' : Shared) : Prop := r = .ok (.ret (.bool true)) ∧ OldK s₁.heap s'.heap ∧ s'.os = s₁.os ∧ AllBare s'.gens
theorem run_at {H : Hp} (KX : K.In s₁.heap) (hns : s₁.heap.Ns mainGlobals mg) (hb : s₁.heap.Ns builtinsNs mb) (hbb : ∀ y : Str, y ≠ "__name__" → mb y = bootBuiltins y)
    (hlim : s₁.heap.NoLimit) (hg : s₁.gens = #[]) (ha : s₁.heap.get? a = some { cls := .type "list", data := .seq vs.toArray }) (hr : Room k callerA)
    (F : ∀ base : Heap, K.In base → base.Ns mainGlobals mg → FnG P w K mg base k fa fd [x] sp) (hbind : ∀ (s : Shared) (u : Value), BindsTo s fd ⟨[u], []⟩ [(x, u)])
    (hok : HOk P w H s₁.heap) (hA : ∀ b, H b ≠ none → b = a) (hK : H a ≠ none → K.lookup a = none) (hO : Only H) (hS : sp [.ref a] H (fun v _ => v = .bl true) E0) :
    codeAny (model P w) callerA (.call (.ref fa) ⟨[.ref a], []⟩) (LawEnd s₁) s₁ := by
  have isA : ∀ {b : Addr} {u : HO}, H b = some u → b = a := fun {b u} q => hA b (by rw [q]; exact Option.some_ne_none u)
  have old : ∀ {b : Addr} {o : Obj}, s₁.heap.get? b = some o → H b = none → (hidT s₁.heap H).get? b = some o := fun e n => hidT_get e n
  have nod : ∀ {b : Addr} {o : Obj} {es : Array DictEntry} {ep : Nat}, s₁.heap.get? b = some o → o.data = .dict es ep → H b = none := by
    intro b o es ep e d
    cases q : H b with
    | none => rfl
    | some u =>
      cases isA q
      rw [ha] at e
      cases e
      cases d
  have nsK : ∀ {b : Addr} {m : Str → Option Value}, s₁.heap.Ns b m → (hidT s₁.heap H).Ns b m := by
    rintro b m ⟨o, es, ep, e, d, r⟩
    exact ⟨o, es, ep, old e (nod e d), d, r⟩
  have hKb : K.In (hidT s₁.heap H) := by
    intro b o e
    refine old (KX b o e) ?_
    cases q : H b with
    | none => rfl
    | some u =>
      cases isA q
      rw [hK (by rw [q]; exact Option.some_ne_none u)] at e
      cases e
  obtain ⟨mc, m1, m2⟩ := hlim
  have e0 : Env0 P w K mg (hidT s₁.heap H) callerA [] s₁ H :=
    ⟨rfl, ⟨hKb, nsK hns, ⟨mb, nsK hb, hbb⟩, ⟨mc, nsK m1, m2⟩⟩, fun b o e => of_hidT e, Nat.le_of_eq (hidT_size _ _), trivial, fun b z => (List.not_mem_nil z).elim, hok, .of_eq hg⟩
  refine codeAny_mono ((F _ hKb (nsK hns)).run callerA [] s₁ H ⟨[.ref a], []⟩ [.ref a] [.ref a] _ rfl hr e0 (hbind s₁ (.ref a)) (.cons rfl .nil) hS) (fun r s' h => ?_)
  cases r with
  | error e => exact False.elim h
  | ok fl =>
    cases fl with
    | next => exact h.elim
    | brk => exact h.elim
    | cont => exact h.elim
    | ret u =>
      obtain ⟨v, H', os, bare, un, hok', r', q⟩ := h
      have q : v = .bl true := q
      subst q
      have eu : u = Value.bool true := r'
      subst eu
      refine ⟨rfl, OldK.of_keep (fun b o e => ?_), os, bare⟩
      cases q : H b with
      | none => exact un.keep b o e q (fun z => (List.not_mem_nil z).elim) (fun z => (List.not_mem_nil z).elim)
      | some u =>
        rcases hO b with z | ⟨ob, xs, z⟩
        · rw [q] at z
          cases z
        · obtain ⟨e1, _⟩ := hok b _ z
          obtain ⟨e2, _⟩ := hok' b _ (un.frzs b ob _ z)
          rw [e] at e1
          cases e1
          exact e2
theorem run_script (KX : K.In s₁.heap) (hns : s₁.heap.Ns mainGlobals mg) (hb : s₁.heap.Ns builtinsNs mb) (hbb : ∀ y : Str, y ≠ "__name__" → mb y = bootBuiltins y)
    (hlim : s₁.heap.NoLimit) (hg : s₁.gens = #[]) (ha : s₁.heap.get? a = some { cls := .type "list", data := .seq vs.toArray }) (hi : IntsAre vs ns) (hl : ns.length ≤ sizeLine) (hr : Room k callerA)
    (F : ∀ base : Heap, K.In base → base.Ns mainGlobals mg → FnG P w K mg base k fa fd [x] sp) (hbind : ∀ (s : Shared) (u : Value), BindsTo s fd ⟨[u], []⟩ [(x, u)])
    (hsp : ∀ H : Hp, SqL K H a (ns.map V.int) → sp [.ref a] H (fun v _ => v = .bl true) E0) :
    codeAny (model P w) callerA (.call (.ref fa) ⟨[.ref a], []⟩) (LawEnd s₁) s₁ := by
  have rv := vals_ints hi
  cases hk : K.lookup a with
  | some o =>
    have e := KX a o hk
    rw [ha] at e
    cases e
    have sq : SqL K (fun _ => none) a (ns.map V.int) := Or.inr ⟨_, vs.toArray, _, hk, rfl, rfl, rfl, by rw [List.size_toArray, hi.length]; exact hl, by simpa using rv⟩
    exact run_at KX hns hb hbb hlim hg ha hr F hbind (fun b u z => by cases (show (none : Option HO) = some u from z)) (fun b z => absurd rfl z) (fun z => absurd rfl z) (fun b => Or.inl rfl) (hsp _ sq)
  | none =>
    let fo : HO := .frz { cls := .type "list", data := .seq vs.toArray } (.lst (ns.map V.int))
    have at1 : upd (fun _ => none) a fo a = some fo := upd_same
    have ne1 : ∀ b, b ≠ a → upd (fun _ => none) a fo b = none := fun b z => upd_ne z
    refine run_at (H := upd (fun _ => none) a fo) KX hns hb hbb hlim hg ha hr F hbind (fun b u z => ?_) (fun b z => ?_) (fun _ => hk) (fun b => ?_) (hsp _ (Or.inl (Or.inr ⟨_, at1⟩)))
    · by_cases q : b = a
      · subst q
        rw [at1] at z
        cases z
        exact ⟨ha, by rw [List.length_map]; exact hl, vs, _, rv, ha⟩
      · rw [ne1 b q] at z; cases z
    · by_cases q : b = a
      · exact q
      · exact absurd (ne1 b q) z
    · by_cases q : b = a
      · subst q; exact Or.inr ⟨_, _, at1⟩
      · exact Or.inl (ne1 b q)
end
theorem dx_ints {K : PySem.W.Frag} {H : Hp} : ∀ ns : List Int, DxAll K H (ns.map V.int) (ns.map PyData.int)
  | [] => .nil
  | n :: ns => .cons (.int n) (dx_ints ns)
/-- the goal that the head leaves, from the law's contract -/
theorem walk_g {l : PySem.W.OpenLaw} {n k : Nat} {q : Program} {loose : List Str} {XP : (Str → Option Value) → Heap → Prop} {YP : World → Heap → Prop} {d : DefRec} {K : Params → PySem.W.Frag} {x : Str} {m : List OD → Option OD}
    (hn : l.most = some n) (hn2 : n ≤ sizeLine) (hdf : d.params.defaults = []) (hr : Room k callerA) (hY : ∀ (w : World) (h : Heap), YP w h → (K w.params).In h)
    (F : ∀ (w : World) (mg : Str → Option Value) (fa : Addr) (h : Heap), (K w.params).In h → h.Ns mainGlobals mg → mg d.name = some (.ref fa) → ∃ fd : FuncData, (∀ (s : Shared) (u : Value), BindsTo s fd ⟨[u], []⟩ [(x, u)]) ∧
      ∀ base : Heap, (K w.params).In base → base.Ns mainGlobals mg → FnG l.prog w (K w.params) mg base k fa fd [x] (sp0 (K w.params) m 1))
    (hm : ∀ ns : List Int, ns.length ≤ n → (∀ i ∈ ns, Builtin.Int.intBits i ≤ 1048576) → m [.sh (.list (ns.map PyData.int))] = some (.sh (.bool true))) :
    PySem.W.WalkO q loose XP YP l.row.toRowW d [] (fun f vs => PySem.call f vs) := by
  refine Att.attach_callB hn hdf (fun w s₀ s₁ mg mb fa o pm cd doc a vs ns G Y ho hd hcd hmg hobj hints hlen hbits hg => ?_)
  have KX := hY w _ Y
  obtain ⟨fd, hb, hF⟩ := F w mg fa _ KX G.T.g hmg
  refine run_script KX G.T.g G.T.b G.T.builtins G.T.nolimit hg hobj hints (Nat.le_trans hlen hn2) hr hF hb (fun H hS => ?_)
  refine ⟨H, fun _ => 0, [.sh (.list (ns.map PyData.int))], .sh (.bool true), ⟨SL.shs (vs := [.ref a]) (ds := [_]) (.cons (.lst hS (dx_ints ns)) .nil), Sub.refl _, fun _ => Nat.zero_le _, fun _ z => absurd rfl z⟩, rfl, hm ns hlen hbits, fun v H' G' f' J s => ?_⟩
  obtain ⟨v', e1, e2⟩ := J.rd (i := 0) (o := .sh (.bool true)) rfl
  cases e1
  cases e2
  rfl
end DX
/-! DXShort: short names for what a printed proof says often. -/
namespace DX
open PySem PySem.Spec PyProof.Rows L2

section
variable {X : Cx} {a b : Expr} {ea eb : EvE} {pos : Pos} {k : Nat}
theorem hu64 (hr : Room k X.A) : X.A.units + 64 < cLine := hr.units
theorem hu65 (hr : Room k X.A) : X.A.units + 65 < cLine := by have := hr.un; omega
theorem se_lt (ha : SE X ea a) (hb : SE X eb b) (hm : behindInMarks .Lt b = false := by rfl) : SE X (eOp opLt (es2 ea eb)) (.Compare a [.Lt] [b] pos) := se_cmp or_lt ok_ord ha hb hm
theorem se_le (ha : SE X ea a) (hb : SE X eb b) (hm : behindInMarks .LtE b = false := by rfl) : SE X (eOp opLe (es2 ea eb)) (.Compare a [.LtE] [b] pos) := se_cmp or_le ok_ord ha hb hm
theorem se_gt (ha : SE X ea a) (hb : SE X eb b) (hm : behindInMarks .Gt b = false := by rfl) : SE X (eOp opGt (es2 ea eb)) (.Compare a [.Gt] [b] pos) := se_cmp or_gt ok_ord ha hb hm
theorem se_ge (ha : SE X ea a) (hb : SE X eb b) (hm : behindInMarks .GtE b = false := by rfl) : SE X (eOp opGe (es2 ea eb)) (.Compare a [.GtE] [b] pos) := se_cmp or_ge ok_ord ha hb hm
theorem se_eq (hr : Room k X.A) (ha : SE X ea a) (hb : SE X eb b) (hm : behindInMarks .Eq b = false := by rfl) : SE X (eOp opEq (es2 ea eb)) (.Compare a [.Eq] [b] pos) := se_cmp (or_eq (hu64 hr)) ok_eq ha hb hm
theorem se_ne (hr : Room k X.A) (ha : SE X ea a) (hb : SE X eb b) (hm : behindInMarks .NotEq b = false := by rfl) : SE X (eOp opNe (es2 ea eb)) (.Compare a [.NotEq] [b] pos) := se_cmp (or_ne (hu64 hr)) ok_ne ha hb hm
theorem se_in (hr : Room k X.A) (ha : SE X ea a) (hb : SE X eb b) (hm : behindInMarks .In b = false := by rfl) : SE X (eOp (opIn false) (es2 ea eb)) (.Compare a [.In] [b] pos) := se_cmp (or_in (hu65 hr)) ok_in ha hb hm
theorem se_ni (hr : Room k X.A) (ha : SE X ea a) (hb : SE X eb b) (hm : behindInMarks .NotIn b = false := by rfl) : SE X (eOp (opIn true) (es2 ea eb)) (.Compare a [.NotIn] [b] pos) := se_cmp (or_ni (hu65 hr)) ok_ni ha hb hm
theorem st_lt (ha : SE X ea a) (hb : SE X eb b) (hm : behindInMarks .Lt b = false := by rfl) : STt X (tBl (eOp opLt (es2 ea eb))) (.Compare a [.Lt] [b] pos) := st_cmp or_lt ok_ord ha hb hm
theorem st_le (ha : SE X ea a) (hb : SE X eb b) (hm : behindInMarks .LtE b = false := by rfl) : STt X (tBl (eOp opLe (es2 ea eb))) (.Compare a [.LtE] [b] pos) := st_cmp or_le ok_ord ha hb hm
theorem st_gt (ha : SE X ea a) (hb : SE X eb b) (hm : behindInMarks .Gt b = false := by rfl) : STt X (tBl (eOp opGt (es2 ea eb))) (.Compare a [.Gt] [b] pos) := st_cmp or_gt ok_ord ha hb hm
theorem st_ge (ha : SE X ea a) (hb : SE X eb b) (hm : behindInMarks .GtE b = false := by rfl) : STt X (tBl (eOp opGe (es2 ea eb))) (.Compare a [.GtE] [b] pos) := st_cmp or_ge ok_ord ha hb hm
theorem st_eq (hr : Room k X.A) (ha : SE X ea a) (hb : SE X eb b) (hm : behindInMarks .Eq b = false := by rfl) : STt X (tBl (eOp opEq (es2 ea eb))) (.Compare a [.Eq] [b] pos) := st_cmp (or_eq (hu64 hr)) ok_eq ha hb hm
theorem st_ne (hr : Room k X.A) (ha : SE X ea a) (hb : SE X eb b) (hm : behindInMarks .NotEq b = false := by rfl) : STt X (tBl (eOp opNe (es2 ea eb))) (.Compare a [.NotEq] [b] pos) := st_cmp (or_ne (hu64 hr)) ok_ne ha hb hm
theorem st_in (hr : Room k X.A) (ha : SE X ea a) (hb : SE X eb b) (hm : behindInMarks .In b = false := by rfl) : STt X (tBl (eOp (opIn false) (es2 ea eb))) (.Compare a [.In] [b] pos) := st_cmp (or_in (hu65 hr)) ok_in ha hb hm
theorem st_ni (hr : Room k X.A) (ha : SE X ea a) (hb : SE X eb b) (hm : behindInMarks .NotIn b = false := by rfl) : STt X (tBl (eOp (opIn true) (es2 ea eb))) (.Compare a [.NotIn] [b] pos) := st_cmp (or_ni (hu65 hr)) ok_ni ha hb hm
end
section
variable {X : Cx} {e : Expr} {es : List Expr} {ev : EvEs} {p pos : Pos} {k : Nat}
theorem se_len (hm : X.mg "len" = none) (h : SEs X ev [e]) (hg : Gl X "len" := by rfl) (he : starEach (e :: []) X.env = (false, eval e X.env) :: starEach [] X.env := by rfl) : SE X (eOp opLen ev) (.Call (.Name "len" p) [e] [] pos) := se_bf call_len ok_len hm h PySem.boot_len hg (by decide) (by decide) he rfl
theorem se_abs (hm : X.mg "abs" = none) (h : SEs X ev [e]) (hg : Gl X "abs" := by rfl) (he : starEach (e :: []) X.env = (false, eval e X.env) :: starEach [] X.env := by rfl) : SE X (eOp opAbs ev) (.Call (.Name "abs" p) [e] [] pos) := se_bf call_abs ok_abs hm h (by decide +kernel) hg (by decide) (by decide) he rfl
theorem se_all (hc : X.calm = true) (hm : X.mg "all" = none) (h : SEs X ev [e]) (hg : Gl X "all" := by rfl) (he : starEach (e :: []) X.env = (false, eval e X.env) :: starEach [] X.env := by rfl) : SE X (eOp (opAll fun bs => bs.all id) ev) (.Call (.Name "all" p) [e] [] pos) := se_bf (cr_all hc) ok_all hm h (by decide +kernel) hg (by decide) (by decide) he rfl
theorem se_any (hc : X.calm = true) (hm : X.mg "any" = none) (h : SEs X ev [e]) (hg : Gl X "any" := by rfl) (he : starEach (e :: []) X.env = (false, eval e X.env) :: starEach [] X.env := by rfl) : SE X (eOp (opAll fun bs => bs.any id) ev) (.Call (.Name "any" p) [e] [] pos) := se_bf (cr_any hc) ok_all hm h (by decide +kernel) hg (by decide) (by decide) he rfl
theorem se_repr (hA : X.A.guards = some []) (hr : Room k X.A) (hm : X.mg "repr" = none) (h : SEs X ev [e]) (hg : Gl X "repr" := by rfl) (he : starEach (e :: []) X.env = (false, eval e X.env) :: starEach [] X.env := by rfl) : SE X (eOp opRepr ev) (.Call (.Name "repr" p) [e] [] pos) := se_bf (call_repr hA (hu65 hr)) ok_repr hm h (by decide +kernel) hg (by decide) (by decide) he rfl
theorem se_int1 (hm : X.mg "int" = none) (h : SEs X ev [e]) (hg : Gl X "int" := by rfl) (he : starEach (e :: []) X.env = (false, eval e X.env) :: starEach [] X.env := by rfl) : SE X (eOp opInt ev) (.Call (.Name "int" p) [e] [] pos) := se_bt call_int1 ok_int hm h (by decide +kernel) hg (by decide) (by decide) he rfl
variable {f : Expr}
theorem se_max2 (hc : X.calm = true) (hm : X.mg "max" = none) (h : SEs X ev [e, f]) (hg : Gl X "max" := by rfl) (he : starEach (e :: [f]) X.env = (false, eval e X.env) :: starEach [f] X.env := by rfl) (hpl : (backTo pos (starEach [f] X.env)).any (·.1) = false := by rfl) : SE X (eOp opMax2 ev) (.Call (.Name "max" p) [e, f] [] pos) := se_bf (call_max2 hc) ok_max2 hm h (by decide +kernel) hg (by decide) (by decide) he hpl
theorem se_min2 (hc : X.calm = true) (hm : X.mg "min" = none) (h : SEs X ev [e, f]) (hg : Gl X "min" := by rfl) (he : starEach (e :: [f]) X.env = (false, eval e X.env) :: starEach [f] X.env := by rfl) (hpl : (backTo pos (starEach [f] X.env)).any (·.1) = false := by rfl) : SE X (eOp opMin2 ev) (.Call (.Name "min" p) [e, f] [] pos) := se_bf (call_min2 hc) ok_min2 hm h (by decide +kernel) hg (by decide) (by decide) he hpl
theorem se_divmod (hm : X.mg "divmod" = none) (h : SEs X ev [e, f]) (hg : Gl X "divmod" := by rfl) (he : starEach (e :: [f]) X.env = (false, eval e X.env) :: starEach [f] X.env := by rfl) (hpl : (backTo pos (starEach [f] X.env)).any (·.1) = false := by rfl) : SE X (eOp opDivmod ev) (.Call (.Name "divmod" p) [e, f] [] pos) := se_bf call_divmod ok_divmod hm h (by decide +kernel) hg (by decide) (by decide) he hpl
end
/-- how arguments come to a def's parameters, none of them left out -/
theorem Fun.bd {K : PySem.W.Frag} {x qual : Str} {st : Stmt} {f : Addr} {fd : FuncData} {ps ks : List Str} {n np : Nat} {idx : List Nat} (F : Fun K x qual st f fd)
    (h : ∀ (kV doc pm : Value) (an : Option Addr) (cdv ct : Value) (us : List Value), us.length = n → bindArgs (PySem.W.fnOf x qual (defArgs st) (defBody st) (defScope st) .none kV doc pm an cdv ct) ⟨us.take np, ks.zip (us.drop np)⟩ = pure (ps.zip (pk idx us))) : Bd fd ps n np ks idx := by
  obtain ⟨oc, od, kV, doc, pm, an, cdv, ct, osl, rfl, lk, hcd⟩ := F.ex
  exact fun s us hl => .of_eq (h kV doc pm an cdv ct us hl)
end DX
/-! DXNest: x[k].append(e), the inner list owned too. -/
namespace DX
open PySem PySem.Spec PyProof.Rows L2

section
variable {K : PySem.W.Frag} {X : Cx} {R : List Nat}
theorem ROs.inner {G H : Hp} : ∀ {vs : List V} {xs : List OD} {f : FP} {j : Nat} {ys : List OD}, ROs K G H vs xs f → xs[j]? = some (.lst ys) →
    ∃ (p : Addr) (us : List V) (g0 fr : FP), vs[j]? = some (.ref p) ∧ H p = some (.lst us) ∧ ROs K G H us ys g0 ∧ (∀ a, f a = (if a = p then 1 else 0) + g0 a + fr a) ∧
      ∀ (H' : Hp) (us' : List V) (ys' : List OD) (g' : FP), (∀ a u, fr a ≠ 0 → H a = some u → H' a = some u) → H' p = some (.lst us') → ROs K G H' us' ys' g' →
        ∃ f', ROs K G H' vs (xs.set j (.lst ys')) f' ∧ ∀ a, f' a = (if a = p then 1 else 0) + g' a + fr a
  | _, _, _, _, _, .nil, h => by simp at h
  | _, _, _, 0, ys, .cons (g := g) q r, h => by
    simp at h; subst h
    cases q with
    | lst hp hr =>
      exact ⟨_, _, _, g, rfl, hp, hr, fun a => rfl, fun H' us' ys' g' k hp' q' => ⟨_, .cons (.lst hp' q') (r.mono (Sub.refl _) k), fun a => rfl⟩⟩
  | _, _, _, j + 1, ys, .cons (f := f₀) (g := g) q r, h => by
    obtain ⟨p, us, g0, fr, h1, h2, h3, h4, h5⟩ := ROs.inner (j := j) r (by simpa using h)
    refine ⟨p, us, g0, fun a => f₀ a + fr a, by simpa using h1, h2, h3, fun a => by (try dsimp only); rw [h4]; omega, fun H' us' ys' g' k hp' q' => ?_⟩
    obtain ⟨f', k1, k2⟩ := h5 H' us' ys' g' (fun a u z e => k a u (by (try dsimp only); omega) e) hp' q'
    exact ⟨_, .cons (q.mono (Sub.refl _) fun a u z e => k a u (by (try dsimp only); omega) e) k1, fun a => by (try dsimp only); rw [k2]; omega⟩
def sAppIx (i : Nat) (ek ev : EvE) : EvS := fun os => match os[i]? with
  | some (some (.lst _)) => match ek os with
    | some (rk, os1) => match rk.rd os1, os1[i]? with
      | some (.int k), some (some (.lst xs)) => match ixN xs.length k with
        | some j => match xs[j]? with
          | some (.lst ys) => match ev (os1.set i none) with
            | some (.tm o, os2) => match os2[i]? with
              | some none => if ys.length < sizeLine then some (.nx (os2.set i (some (.lst (xs.set j (.lst (ys ++ [o]))))))) else none
              | _ => none
            | _ => none
          | _ => none
        | none => none
      | _, _ => none
    | none => none
  | _ => none
theorem sr_appIx {i : Nat} {ek ev : EvE} {tk te : TE} (hk : ER K ek tk) (h : ER K ev te) : SR K R (sAppIx i ek ev) (tDrop (tBM K "list" rAppend (tOp (rIx K) (tVar i) tk) (tCons te tNil))) := fun σ G H os f res D hl I e k => by
  unfold sAppIx at e
  split at e
  · rename_i zs e0
    obtain ⟨v0, _, _, w1, w2, _⟩ := I.sl.at e0
    have w3 : ∃ p, v0 = .ref p := by
      cases w2 with
      | lst hp _ => exact ⟨_, rfl⟩
    obtain ⟨p0, rfl⟩ := w3
    split at e
    · rename_i rk os1 e1
      split at e
      · rename_i kk xs e2 e3
        split at e
        · rename_i j e4
          split at e
          · rename_i ys e5
            split at e
            · rename_i o os2 e6
              split at e
              · rename_i e7
                split at e
                · rename_i hsz
                  cases e
                  refine ⟨.ref p0, w1, ?_⟩
                  refine hk σ [] G H os [] f rk os1 _ hl rfl (by simpa using I) e1 fun vk H1 k1 => ?_
                  have hv := k1.read1 rfl e2
                  cases hv
                  obtain ⟨G1, f1, I1, s1, l1⟩ := k1.drop rfl
                  have I1 : SI K G1 H1 σ os1 f1 := by simpa using I1
                  obtain ⟨w, fo, fr, m1, m2, m3, m4⟩ := SL.out I1.sl e3
                  rw [w1] at m1; cases m1
                  cases m2 with
                  | lst hp0 hro =>
                    rename_i vs0 g00
                    obtain ⟨p, us, g0, fr1, n1, n2, n3, n4, n5⟩ := hro.inner e5
                    have hat : atI vs0 kk = some (.ref p) := by
                      unfold atI
                      rw [hro.len, e4]
                      exact n1
                    refine .inl ⟨p0, vs0, kk, .ref p, rfl, rfl, .inl (.inl hp0), hat, ?_⟩
                    refine ⟨.inl ⟨rfl, us, .inl (.inl n2)⟩, ?_⟩
                    have hf : ∀ a, f1 a = (if a = p0 then 1 else 0) + g00 a + fr a := fun a => by rw [m3]
                    have J1 : SI K G1 H1 σ (os1.set i none) fr := I1.forget m4 fun a => by rw [hf]; omega
                    refine h σ [] G1 H1 (os1.set i none) [] fr _ os2 _ (by simp [l1]) rfl (by simpa using J1) e6 fun v H2 k2 => ?_
                    obtain ⟨G2, f2, I2, s2, _, l2⟩ := k2
                    have I2 : SI K G2 H2 (σ ++ [some v]) (os2 ++ [some o]) f2 := by simpa [RV.od] using I2
                    obtain ⟨v', fv, f3, ev', qv, rs, hfv⟩ := I2.last l2
                    cases ev'
                    -- what is hidden stands still
                    have hz : ∀ a, (if a = p0 then 1 else 0) + g00 a ≠ 0 → fr a = 0 ∧ H1 a ≠ none ∧ f2 a = 0 ∧ G2 a = none := fun a z => by
                      have one := I1.one a
                      rw [hf] at one
                      have fz : fr a = 0 := by omega
                      have hl1 : H1 a ≠ none := I1.live a (by rw [hf]; omega)
                      refine ⟨fz, hl1, ?_, ?_⟩
                      · by_cases y : f2 a = 0
                        · exact y
                        · rcases s2.fnew a y with t | t
                          · exact absurd fz t
                          · exact absurd t hl1
                      · cases y : G2 a with
                        | none => rfl
                        | some u =>
                          rcases s2.gnew a (by rw [y]; simp) with t | t | t
                          · exact absurd (I1.hid a (by rw [hf]; omega)) t
                          · exact absurd t hl1
                          · exact absurd fz t
                    have keep2 : ∀ a u, (if a = p0 then 1 else 0) + g00 a ≠ 0 → H1 a = some u → H2 a = some u := fun a u z e => s2.keep a u e (hz a z).1
                    have hro2 : ROs K G2 H2 vs0 xs g00 := hro.mono s2.gsub fun a u z e => keep2 a u (by omega) e
                    obtain ⟨p', us', g0', fr1', a1, a2, a3, a4, a5⟩ := hro2.inner e5
                    rw [n1] at a1; cases a1
                    have hp2 : H2 p = some (.lst us) := keep2 p _ (by rw [a4, if_pos (c := p = p) rfl]; omega) n2
                    rw [hp2] at a2; cases a2
                    have np : p ≠ p0 := fun z => by
                      have one := I1.one p0
                      rw [hf, if_pos rfl, a4, if_pos z.symm] at one
                      omega
                    refine ⟨p, us, v, rfl, rfl, hp2, by rw [n3.len]; exact hsz, ?_⟩
                    have out : ∀ a u, a ≠ p → H2 a = some u → (upd H2 p (.lst (us ++ [v]))) a = some u := fun a u z e => by rw [upd_ne z]; exact e
                    have onep : ∀ a, (if a = p0 then 1 else 0) + ((if a = p then 1 else 0) + g0' a + fr1' a) ≤ 1 := fun a => by have := I1.one a; rw [hf, a4] at this; omega
                    have q0 : g0' p = 0 ∧ fr1' p = 0 := by have := onep p; rw [if_pos (c := p = p) rfl] at this; omega
                    have zp := hz p (by rw [a4, if_pos (c := p = p) rfl]; omega)
                    have fvz : fv p = 0 ∧ f3 p = 0 := by
                      have := zp.2.2.1
                      rw [hfv] at this; omega
                    obtain ⟨gk, r1, r2⟩ := ROs.app (a3.mono (G' := G2) (H' := upd H2 p (.lst (us ++ [v]))) (Sub.refl _) fun a u z e => out a u (fun y => by subst y; exact z q0.1) e)
                      (ROs.one (qv.mono (Sub.refl _) fun a u z e => out a u (fun y => by subst y; exact z fvz.1) e))
                    obtain ⟨f6, b1, b2⟩ := a5 (upd H2 p (.lst (us ++ [v]))) (us ++ [v]) (ys ++ [o]) gk (fun a u z e => out a u (fun y => by subst y; exact z q0.2) e) upd_same r1
                    have hp03 : (upd H2 p (.lst (us ++ [v]))) p0 = some (.lst vs0) := out p0 _ (Ne.symm np) (keep2 p0 _ (by rw [if_pos rfl]; omega) hp0)
                    have rs3 := rs.mono (G' := G2) (H' := upd H2 p (.lst (us ++ [v]))) (Sub.refl _) fun a u z e => out a u (fun y => by subst y; exact z fvz.2) e
                    obtain ⟨f7, c1, c2⟩ := SL.into rs3 e7 w1 (.lst hp03 b1)
                    have c3 : ∀ a, f7 a = f3 a + ((if a = p0 then 1 else 0) + ((if a = p then 1 else 0) + (g0' a + fv a) + fr1' a)) := fun a => by rw [c2]; (try dsimp only); rw [b2, r2]
                    have c4 : ∀ a, f7 a = f2 a + ((if a = p0 then 1 else 0) + g00 a) := fun a => by rw [c3, hfv, a4]; omega
                    refine k σ _ ⟨G2, f7, ⟨c1, fun a u z => out a u (fun y => by subst y; rw [zp.2.2.2] at z; cases z) (I2.sub a u z), fun a => ?_, fun a z => ?_⟩, s1.trans ⟨s2.gsub, fun a u z y => ?_, fun a z => ?_, fun a z => ?_, fun a z => ?_⟩, by simp [l2], fun _ _ => rfl⟩
                    · rw [c4]
                      by_cases y : (if a = p0 then 1 else 0) + g00 a = 0
                      · have := I2.one a; omega
                      · have t := hz a y
                        have := I1.one a; rw [hf] at this
                        omega
                    · by_cases y : (if a = p0 then 1 else 0) + g00 a = 0
                      · rw [c4, y] at z
                        exact I2.hid a (by omega)
                      · exact (hz a y).2.2.2
                    · refine out a u (fun t => ?_) (s2.keep a u z (by rw [hf] at y; omega))
                      subst t
                      rw [hf, a4, if_pos (c := a = a) rfl] at y
                      omega
                    · by_cases t : a = p
                      · subst t; rw [upd_same]; simp
                      · rw [upd_ne t]; exact s2.dom a z
                    · rcases s2.gnew a z with t | t | t
                      · exact .inl t
                      · exact .inr (.inl t)
                      · exact .inr (.inr (by rw [hf]; omega))
                    · rw [c4] at z
                      by_cases y : (if a = p0 then 1 else 0) + g00 a = 0
                      · rcases s2.fnew a (by omega) with t | t
                        · exact .inl (by rw [hf]; omega)
                        · exact .inr t
                      · exact .inl (by rw [hf]; omega)
                · cases e
              · cases e
            · cases e
          · cases e
        · cases e
      · cases e
    · cases e
  · cases e
theorem ss_appIx (i : Nat) {x : Str} {ie e : Expr} {ek ev : EvE} {px spos apos cpos pos : Pos} (hk : SE X ek ie) (h : SE X ev e) (hN : X.N[i]? = some x := by rfl) (hv : Vis X.env.scope x := by first | exact Or.inl rfl | exact Or.inr (Or.inl rfl) | exact Or.inr (Or.inr rfl))
    (hpi : PlainIx ie := by exact fun _ _ => rfl) (hd : (x == ("__debug__" : Str)) = false := by decide) (hcd : (x == ("__classdict__" : Str)) = false := by decide) (hst : starEach (e :: []) X.env = (false, eval e X.env) :: starEach [] X.env := by rfl)
    (hbase : attributeBase (.Subscript (.Name x px) ie spos) "append" X.env (eval (.Subscript (.Name x px) ie spos) X.env) = eval (.Subscript (.Name x px) ie spos) X.env := by rfl)
    (hfew : ((backTo cpos (starEach (e :: []) X.env)).all (fun x => !x.1) && (backToKw cpos (keywordEach [] X.env)).all (fun x => x.1.isSome) && decide ((e :: ([] : List Expr)).length + ([] : List Keyword).length + (if ([] : List Keyword).isEmpty then 0 else 1) < 30)) = true := by rfl)
    (hs : swapsWith (.Call (.Attribute (.Subscript (.Name x px) ie spos) "append" apos) [e] [] cpos) none pos.line X.env = pure false := by rfl) (hline : (apos.endLine == cpos.line) = true := by rfl) :
    SS X R (sAppIx i ek ev) (.Expr (.Call (.Attribute (.Subscript (.Name x px) ie spos) "append" apos) [e] [] cpos) pos) := by
  obtain ⟨te, p, q⟩ := h
  obtain ⟨tk, p', q'⟩ := hk
  exact ⟨_, ps_expr (pe_bm PySem.F.plainAttrs_list PySem.F.slot_list_append PySem.F.type_list_append mt_append (pe_ix ix_seq (pe_var hN hv hd hcd) p' hpi) (pa_cons p pa_nil hst) hbase hfew hline hst (by rfl)) hs, sr_appIx q' q⟩
end
end DX
/-! DXSimp: the worths as chains of bind, for simp. -/
namespace DX
open PySem PySem.Spec PyProof.Rows L2

def bool? : PyData → Option Bool
  | .bool b => some b
  | _ => none
def int? : PyData → Option Int
  | .int i => some i
  | _ => none
def str? : PyData → Option Str
  | .str x => some x
  | _ => none
section
variable {os : En} {R : List Nat} {i j l n : Nat}
theorem b_esCons {ea : EvE} {er : EvEs} : esCons ea er os = (ea os).bind fun p => (er p.2).bind fun q => some (p.1 :: q.1, q.2) := by
  unfold esCons
  cases ea os with
  | none => rfl
  | some p =>
    cases h : er p.2 with
    | none => simp [h]
    | some q => simp [h]
theorem b_opV {rs : List RV} {d : PyData} : opOut os rs (.val d) = cond (isSc d) (.tm (.sh d), os) (.tm (.sh d), softAll os rs) := by
  simp only [opOut]; cases isSc d <;> rfl
theorem b_opL {rs : List RV} {es : List PyData} : opOut os rs (.nl es) = (.tm (.lst (es.map OD.sh)), softAll os rs) := rfl
theorem b_opT {rs : List RV} {es : List PyData} : opOut os rs (.nt es) = (.tm (.sh (.tuple es)), softAll os rs) := rfl
theorem b_eOp {fn : List PyData → Option Op} {es : EvEs} : eOp fn es os = (es os).bind fun p => (rdAll p.2 p.1).bind fun ds => (fn ds).bind fun res => some (opOut p.2 p.1 res) := by
  unfold eOp
  cases es os with
  | none => rfl
  | some p =>
    simp only [Option.bind_some]
    cases rdAll p.2 p.1 with
    | none => rfl
    | some ds =>
      simp only [Option.bind_some]
      cases fn ds <;> rfl
theorem b_rdNil : rdAll os [] = some [] := rfl
theorem b_rdCons {r : RV} {rs : List RV} : rdAll os (r :: rs) = (r.rd os).bind fun d => (rdAll os rs).bind fun ds => some (d :: ds) := by
  show (match r.rd os, rdAll os rs with | some d, some ds => some (d :: ds) | _, _ => none) = _
  cases r.rd os <;> cases rdAll os rs <;> rfl
theorem b_rdT {o : OD} : (RV.tm o).rd os = some o.er := rfl
theorem b_rdA : (RV.al i).rd os = (os[i]?).bind fun s => s.bind fun o => some o.er := by
  show (match os[i]? with | some (some o) => some o.er | _ => none) = _
  cases os[i]? with
  | none => rfl
  | some s => cases s <;> rfl
theorem b_erS {d : PyData} : (OD.sh d).er = d := rfl
theorem b_erTp {xs : List OD} : (OD.tpl xs).er = .tuple (xs.map OD.er) := by show PyData.tuple (OD.ers xs) = _; rw [ers_map]
theorem b_erL {xs : List OD} : (OD.lst xs).er = .list (xs.map OD.er) := by show PyData.list (OD.ers xs) = _; rw [ers_map]
theorem b_eVar : eVar i os = (os[i]?).bind fun s => s.bind fun _ => some (.al i, os) := by
  unfold eVar
  cases os[i]? with
  | none => rfl
  | some s => cases s <;> rfl
theorem b_eC {d : PyData} : eC d os = some (.tm (.sh d), os) := rfl
theorem b_esNil : esNil os = some ([], os) := rfl
theorem b_tTru {ev : EvE} : tTru ev os = (ev os).bind fun p => (p.1.rd p.2).bind fun d => (trD d).bind fun b => some (b, p.2) := by
  unfold tTru
  cases ev os with
  | none => rfl
  | some p =>
    simp only [Option.bind_some]
    cases p.1.rd p.2 with
    | none => rfl
    | some d =>
      simp only [Option.bind_some]
      cases trD d <;> rfl
theorem b_tBl {ev : EvE} : tBl ev os = (ev os).bind fun p => (p.1.rd p.2).bind fun d => (bool? d).bind fun b => some (b, p.2) := by
  unfold tBl
  cases ev os with
  | none => rfl
  | some p =>
    simp only [Option.bind_some]
    cases p.1.rd p.2 with
    | none => rfl
    | some d => cases d <;> rfl
theorem b_tAnd {a b : EvT} : tAndD a b os = (a os).bind fun p => cond p.1 (b p.2) (some (false, p.2)) := by
  unfold tAndD
  cases a os with
  | none => rfl
  | some p => obtain ⟨c, q⟩ := p; cases c <;> rfl
theorem b_tOr {a b : EvT} : tOrD a b os = (a os).bind fun p => cond p.1 (some (true, p.2)) (b p.2) := by
  unfold tOrD
  cases a os with
  | none => rfl
  | some p => obtain ⟨c, q⟩ := p; cases c <;> rfl
theorem b_tNot {a : EvT} : tNotD a os = (a os).bind fun p => some (!p.1, p.2) := by
  unfold tNotD
  cases a os <;> rfl
theorem b_eAnd {a b : EvE} : eAnd a b os = (a os).bind fun p => (p.1.rd p.2).bind fun d => (trD d).bind fun c => cond c (b p.2) (some p) := by
  unfold eAnd
  cases a os with
  | none => rfl
  | some p =>
    simp only [Option.bind_some]
    cases p.1.rd p.2 with
    | none => rfl
    | some d =>
      simp only [Option.bind_some]
      cases trD d with
      | none => rfl
      | some c => cases c <;> rfl
theorem b_eOr {a b : EvE} : eOr a b os = (a os).bind fun p => (p.1.rd p.2).bind fun d => (trD d).bind fun c => cond c (some p) (b p.2) := by
  unfold eOr
  cases a os with
  | none => rfl
  | some p =>
    simp only [Option.bind_some]
    cases p.1.rd p.2 with
    | none => rfl
    | some d =>
      simp only [Option.bind_some]
      cases trD d with
      | none => rfl
      | some c => cases c <;> rfl
theorem b_eNot {a : EvE} : eNot a os = (a os).bind fun p => (p.1.rd p.2).bind fun d => (trD d).bind fun c => some (.tm (.sh (.bool (!c))), p.2) := by
  unfold eNot
  cases a os with
  | none => rfl
  | some p =>
    simp only [Option.bind_some]
    cases p.1.rd p.2 with
    | none => rfl
    | some d =>
      simp only [Option.bind_some]
      cases trD d <;> rfl
theorem b_eIf {t : EvT} {a b : EvE} : eIf t a b os = (t os).bind fun p => cond p.1 (a p.2) (b p.2) := by
  unfold eIf
  cases t os with
  | none => rfl
  | some p => obtain ⟨c, q⟩ := p; cases c <;> rfl
theorem b_eTup {es : EvEs} : eTup es os = (es os).bind fun p => (rdAll p.2 p.1).bind fun ds => cond (Nat.ble ds.length sizeLine) (some (.tm (.sh (.tuple ds)), hardAll p.2 p.1)) none := by
  unfold eTup
  cases es os with
  | none => rfl
  | some p =>
    simp only [Option.bind_some]
    cases rdAll p.2 p.1 with
    | none => rfl
    | some ds =>
      simp only [Option.bind_some]
      by_cases h : ds.length ≤ sizeLine
      · rw [if_pos h, Nat.ble_eq_true_of_le h]; rfl
      · rw [if_neg h, Bool.eq_false_iff.mpr fun z => h (Nat.le_of_ble_eq_true z)]; rfl
theorem b_eLst {es : EvEs} : eLst es os = (es os).bind fun p => (rdAll p.2 p.1).bind fun ds => cond (Nat.ble ds.length sizeLine) (some (.tm (.lst (ds.map OD.sh)), hardAll p.2 p.1)) none := by
  unfold eLst
  cases es os with
  | none => rfl
  | some p =>
    simp only [Option.bind_some]
    cases rdAll p.2 p.1 with
    | none => rfl
    | some ds =>
      simp only [Option.bind_some]
      by_cases h : ds.length ≤ sizeLine
      · rw [if_pos h, Nat.ble_eq_true_of_le h]; rfl
      · rw [if_neg h, Bool.eq_false_iff.mpr fun z => h (Nat.le_of_ble_eq_true z)]; rfl
theorem b_oSome {ev : EvE} : oSome ev os = (ev os).bind fun p => (p.1.rd p.2).bind fun d => (int? d).bind fun i => some (some i, p.2) := by
  unfold oSome
  cases ev os with
  | none => rfl
  | some p =>
    simp only [Option.bind_some]
    cases p.1.rd p.2 with
    | none => rfl
    | some d => cases d <;> rfl
theorem b_oNone : oNone os = some (none, os) := rfl
theorem b_eSl {ea : EvE} {el eh : EvO} : eSl ea el eh os = (ea os).bind fun p => (el p.2).bind fun a => (eh a.2).bind fun b => (rdAll b.2 [p.1]).bind fun ds => (opSl a.1 b.1 ds).bind fun res => some (opOut b.2 [p.1] res) := by
  unfold eSl
  cases ea os with
  | none => rfl
  | some p =>
    simp only [Option.bind_some]
    cases el p.2 with
    | none => rfl
    | some a =>
      simp only [Option.bind_some]
      cases eh a.2 with
      | none => rfl
      | some b =>
        simp only [Option.bind_some]
        cases rdAll b.2 [p.1] with
        | none => rfl
        | some ds =>
          simp only [Option.bind_some]
          cases opSl a.1 b.1 ds <;> rfl
theorem b_eMt {fn : List PyData → Option Op} {ea : EvE} {es : EvEs} : eMtS fn ea es os = (ea os).bind fun p => (p.1.rd p.2).bind fun d => (str? d).bind fun _ => (es p.2).bind fun q => (rdAll q.2 (p.1 :: q.1)).bind fun ds => (fn ds).bind fun res => some (opOut q.2 (p.1 :: q.1) res) := by
  unfold eMtS
  cases ea os with
  | none => rfl
  | some p =>
    simp only [Option.bind_some]
    cases p.1.rd p.2 with
    | none => rfl
    | some d =>
      cases d with
      | str x =>
        simp only [Option.bind_some, str?]
        cases es p.2 with
        | none => rfl
        | some q =>
          simp only [Option.bind_some]
          cases rdAll q.2 (p.1 :: q.1) with
          | none => rfl
          | some ds =>
            simp only [Option.bind_some]
            cases fn ds <;> rfl
      | _ => rfl
theorem b_fn0 {m : List OD → Option OD} {idx : List Nat} {es : EvEs} : eFn0 m n idx es os = (es os).bind fun p => (rdAll p.2 p.1).bind fun ds => cond (Nat.beq p.1.length n && Nat.beq (pk idx ds).length n) ((m ((pk idx ds).map OD.sh)).bind fun r => some (.tm r, cond (isSc r.er && r.isSh) p.2 (hardAll p.2 p.1))) none := by
  unfold eFn0
  cases es os with
  | none => rfl
  | some p =>
    simp only [Option.bind_some]
    cases rdAll p.2 p.1 with
    | none => rfl
    | some ds =>
      simp only [Option.bind_some]
      by_cases h : p.1.length = n ∧ (pk idx ds).length = n
      · rw [if_pos h, h.1, h.2, show Nat.beq n n = true from Nat.beq_refl n]
        cases m ((pk idx ds).map OD.sh) with
        | none => rfl
        | some r =>
          simp only [Option.bind_some]
          cases h1 : isSc r.er <;> cases h2 : r.isSh <;> rfl
      · rw [if_neg h]
        have : (Nat.beq p.1.length n && Nat.beq (pk idx ds).length n) = false := by
          rw [Bool.eq_false_iff]
          intro z
          obtain ⟨z1, z2⟩ := Bool.and_eq_true_iff.mp z
          exact h ⟨Nat.eq_of_beq_eq_true z1, Nat.eq_of_beq_eq_true z2⟩
        rw [this]; rfl
theorem b_sSeq {a b : EvS} : sSeq a b os = (a os).bind fun r => match r with | .nx os1 => b os1 | r => some r := by
  unfold sSeq
  cases a os with
  | none => rfl
  | some r => cases r <;> rfl
theorem b_sIf {t : EvT} {a b : EvS} : sIf t a b os = (t os).bind fun p => cond p.1 (a p.2) (b p.2) := by
  unfold sIf
  cases t os with
  | none => rfl
  | some p => obtain ⟨c, q⟩ := p; cases c <;> rfl
theorem b_sRet {ev : EvE} : sRet ev os = (ev os).bind fun p => (give p.2 p.1).bind fun q => some (.rt q.1 q.2) := by
  unfold sRet
  cases ev os with
  | none => rfl
  | some p =>
    simp only [Option.bind_some]
    cases give p.2 p.1 <;> rfl
def inR (R : List Nat) (i n : Nat) : Bool := R.any (Nat.beq i) || Nat.ble n i
theorem inR_iff : (i ∈ R ∨ n ≤ i) ↔ inR R i n = true := by
  unfold inR
  rw [Bool.or_eq_true, List.any_eq_true]
  constructor
  · rintro (h | h)
    · exact .inl ⟨i, h, Nat.beq_refl i⟩
    · exact .inr (Nat.ble_eq_true_of_le h)
  · rintro (⟨x, h1, h2⟩ | h)
    · have := Nat.eq_of_beq_eq_true h2; subst this; exact .inl h1
    · exact .inr (Nat.le_of_ble_eq_true h)
theorem b_inR {α : Type} {a b : α} : (if i ∈ R ∨ n ≤ i then a else b) = cond (inR R i n) a b := by
  by_cases h : i ∈ R ∨ n ≤ i
  · rw [if_pos h, inR_iff.mp h]; rfl
  · rw [if_neg h, Bool.eq_false_iff.mpr fun z => h (inR_iff.mpr z)]; rfl
theorem b_sAsg {ev : EvE} : sAsg R i ev os = (ev os).bind fun p => cond (inR R i p.2.length) none (match p.1 with
    | .tm o => some (.nx (p.2.set i (some o)))
    | .al j => (cv (hard p.2 (.al j)) (.al j)).bind fun o => some (.nx ((hard p.2 (.al j)).set i (some o)))) := by
  unfold sAsg
  cases ev os with
  | none => rfl
  | some p =>
    obtain ⟨r, os1⟩ := p
    simp only [Option.bind_some]
    rw [b_inR]
    congr 1
    cases r with
    | tm o => rfl
    | al j =>
      show (match (hard os1 (.al j))[j]? with | some (some (.sh d)) => some (Res.nx ((hard os1 (.al j)).set i (some (.sh d)))) | _ => none) = (match (hard os1 (.al j))[j]? with | some (some (.sh d)) => some (OD.sh d) | _ => none).bind _
      cases (hard os1 (.al j))[j]? with
      | none => rfl
      | some s =>
        cases s with
        | none => rfl
        | some o => cases o <;> rfl
theorem b_gvName {d : PyData} : gvName R i d os = cond (inR R i os.length) none (some (os.set i (some (.sh d)))) := by
  unfold gvName; rw [b_inR]
theorem b_gvNil : gvNil [] os = some os := rfl
theorem b_gvCons {a : EvG} {b : EvGs} {d : PyData} {ds : List PyData} : gvCons a b (d :: ds) os = (a d os).bind fun os1 => b ds os1 := by
  unfold gvCons
  simp only
  cases a d os <;> rfl
def tup? : PyData → Option (List PyData)
  | .tuple ds => some ds
  | _ => none
theorem b_gvTup {b : EvGs} {d : PyData} : gvTup n b d os = (tup? d).bind fun ds => cond (Nat.beq ds.length n) (b ds os) none := by
  unfold gvTup
  cases d with
  | tuple ds =>
    simp only [tup?, Option.bind_some]
    by_cases h : ds.length = n
    · rw [if_pos h, h, show Nat.beq n n = true from Nat.beq_refl n]; rfl
    · rw [if_neg h, Bool.eq_false_iff.mpr fun z => h (Nat.eq_of_beq_eq_true z)]; rfl
  | _ => rfl
def lst? : Option OD → Option (List OD)
  | some (.lst xs) => some xs
  | _ => none
theorem b_gvSub {ei : EvE} {d : PyData} : gvSub i ei d os = ((os[i]?).bind lst?).bind fun _ => (ei os).bind fun p => (p.1.rd p.2).bind fun k => (int? k).bind fun k => ((p.2[i]?).bind lst?).bind fun xs => (ixN xs.length k).bind fun j => some (p.2.set i (some (.lst (xs.set j (.sh d))))) := by
  unfold gvSub
  cases h0 : os[i]? with
  | none => rfl
  | some s =>
    cases s with
    | none => rfl
    | some o =>
      cases o with
      | sh _ => rfl
      | tpl _ => rfl
      | lst ys =>
        simp only [Option.bind_some, lst?]
        cases ei os with
        | none => rfl
        | some p =>
          simp only [Option.bind_some]
          cases p.1.rd p.2 with
          | none => rfl
          | some k =>
            cases k with
            | int kk =>
              simp only [Option.bind_some, int?]
              cases p.2[i]? with
              | none => rfl
              | some s2 =>
                cases s2 with
                | none => rfl
                | some o2 =>
                  cases o2 with
                  | sh _ => rfl
                  | tpl _ => rfl
                  | lst xs =>
                    simp only [Option.bind_some, lst?]
                    cases ixN xs.length kk <;> rfl
            | _ => rfl
theorem b_sAsgG {tv : EvG} {ev : EvE} : sAsgG tv ev os = (ev os).bind fun p => (p.1.rd p.2).bind fun d => (tv d (hard p.2 p.1)).bind fun os2 => some (.nx os2) := by
  unfold sAsgG
  cases ev os with
  | none => rfl
  | some p =>
    obtain ⟨r, os1⟩ := p
    simp only [Option.bind_some]
    rw [b_rdCons]
    cases r.rd os1 with
    | none => rfl
    | some d =>
      simp only [Option.bind_some, b_rdNil, hardAll]
      cases tv d (hard os1 r) <;> rfl
theorem b_sApp {ev : EvE} : sApp i ev os = ((os[i]?).bind lst?).bind fun _ => (ev os).bind fun p => (cv (hard p.2 p.1) p.1).bind fun o => (((hard p.2 p.1)[i]?).bind lst?).bind fun xs => cond (Nat.blt xs.length sizeLine) (some (.nx ((hard p.2 p.1).set i (some (.lst (xs ++ [o])))))) none := by
  unfold sApp
  have hb : ∀ (xs : List OD) (a : Option Res), (if xs.length < sizeLine then a else none) = cond (Nat.blt xs.length sizeLine) a none := fun xs a => by
    by_cases h : xs.length < sizeLine
    · rw [if_pos h, show Nat.blt xs.length sizeLine = true from Nat.ble_eq_true_of_le h]; rfl
    · rw [if_neg h, show Nat.blt xs.length sizeLine = false from Bool.eq_false_iff.mpr fun z => h (Nat.le_of_ble_eq_true z)]; rfl
  cases h0 : os[i]? with
  | none => rfl
  | some s =>
    cases s with
    | none => rfl
    | some o =>
      cases o with
      | sh _ => rfl
      | tpl _ => rfl
      | lst ys =>
        simp only [Option.bind_some, lst?]
        cases ev os with
        | none => rfl
        | some p =>
          obtain ⟨r, os1⟩ := p
          simp only [Option.bind_some]
          cases r with
          | tm o =>
            simp only [cv, hard, Option.bind_some]
            cases os1[i]? with
            | none => rfl
            | some s2 =>
              cases s2 with
              | none => rfl
              | some o2 =>
                cases o2 with
                | sh _ => rfl
                | tpl _ => rfl
                | lst xs => simp only [Option.bind_some, lst?]; exact hb xs _
          | al j =>
            have hc : cv (hard os1 (.al j)) (.al j) = (match (hard os1 (.al j))[j]? with | some (some (.sh d)) => some (OD.sh d) | _ => none) := rfl
            rw [hc]
            simp only
            cases (hard os1 (.al j))[j]? with
            | none => rfl
            | some s1 =>
              cases s1 with
              | none => rfl
              | some o1 =>
                cases o1 with
                | lst _ => rfl
                | tpl _ => rfl
                | sh d =>
                  simp only [Option.bind_some]
                  cases (hard os1 (.al j))[i]? with
                  | none => rfl
                  | some s2 =>
                    cases s2 with
                    | none => rfl
                    | some o2 =>
                      cases o2 with
                      | sh _ => rfl
                      | tpl _ => rfl
                      | lst xs => simp only [Option.bind_some, lst?]; exact hb xs _
theorem b_bindCond {α β : Type} {c : Bool} {x y : Option α} {f : α → Option β} : (cond c x y).bind f = cond c (x.bind f) (y.bind f) := by cases c <;> rfl
theorem b_condFst {α β : Type} {c : Bool} {x y : α × β} : (cond c x y).1 = cond c x.1 y.1 := by cases c <;> rfl
theorem b_condSnd {α β : Type} {c : Bool} {x y : α × β} : (cond c x y).2 = cond c x.2 y.2 := by cases c <;> rfl
theorem b_giveT {o : OD} : give os (.tm o) = some (o, os) := rfl
theorem b_sFor {it : EvI} {tv : EvG} {b : EvS} : sFor it tv b os = (it os).bind fun p => forF tv b p.1 p.2 := by
  unfold sFor
  cases it os <;> rfl
theorem b_iSq {ev : EvE} : iSq ev os = (ev os).bind fun p => (p.1.rd p.2).bind fun d => (itemsD d).bind fun ds => some (ds, hard p.2 p.1) := by
  unfold iSq
  cases ev os with
  | none => rfl
  | some p =>
    obtain ⟨r, os1⟩ := p
    simp only [Option.bind_some]
    rw [b_rdCons]
    cases r.rd os1 with
    | none => rfl
    | some d =>
      simp only [Option.bind_some, b_rdNil, hardAll]
      cases itemsD d <;> rfl
theorem b_iR1 {ev : EvE} : iR1 (es1 ev) os = (ev os).bind fun p => (p.1.rd p.2).bind fun d => (int? d).bind fun j => cond (fit62 j) (some (rangeD 0 j.toNat, p.2)) none := by
  unfold iR1
  rw [show es1 ev = esCons ev esNil from rfl, b_esCons]
  cases ev os with
  | none => rfl
  | some p =>
    obtain ⟨r, os1⟩ := p
    simp only [Option.bind_some, b_esNil, b_rdCons, b_rdNil]
    cases r.rd os1 with
    | none => rfl
    | some d =>
      cases d with
      | int j =>
        simp only [Option.bind_some, int?]
        cases fit62 j <;> rfl
      | _ => rfl
theorem b_eLc {own : List Nat} {it : EvI} {tv : EvG} {c : EvT} {ev : EvE} : eLc own it tv c ev os = (it os).bind fun p => (lcF own tv c ev p.1 (wipeE p.2 own) []).bind fun q => some (.tm (.lst q.1), q.2) := by
  unfold eLc
  cases it os with
  | none => rfl
  | some p =>
    simp only [Option.bind_some]
    cases lcF own tv c ev p.1 (wipeE p.2 own) [] <;> rfl
theorem b_lcNil {own : List Nat} {tv : EvG} {c : EvT} {ev : EvE} {acc : List OD} : lcF own tv c ev [] os acc = some (acc, os) := rfl
theorem b_lcCons {own : List Nat} {tv : EvG} {c : EvT} {ev : EvE} {acc : List OD} {d : PyData} {ds : List PyData} : lcF own tv c ev (d :: ds) os acc = (tv d os).bind fun os1 => (c os1).bind fun q => cond q.1
    ((ev q.2).bind fun p => (cv (hard p.2 p.1) p.1).bind fun o => cond (Nat.blt acc.length sizeLine) (lcF own tv c ev ds (wipeE (hard p.2 p.1) own) (acc ++ [o])) none) (lcF own tv c ev ds (wipeE q.2 own) acc) := by
  show (match tv d os with | some os1 => _ | none => none) = _
  cases tv d os with
  | none => rfl
  | some os1 =>
    simp only [Option.bind_some]
    cases c os1 with
    | none => rfl
    | some q =>
      obtain ⟨b, os2⟩ := q
      cases b with
      | false => rfl
      | true =>
        simp only [Option.bind_some, cond_true]
        cases ev os2 with
        | none => rfl
        | some p =>
          obtain ⟨r, os3⟩ := p
          simp only [Option.bind_some]
          cases cv (hard os3 r) r with
          | none => rfl
          | some o =>
            simp only [Option.bind_some]
            by_cases h : acc.length < sizeLine
            · rw [if_pos h, show Nat.blt acc.length sizeLine = true from Nat.ble_eq_true_of_le h]; rfl
            · rw [if_neg h, show Nat.blt acc.length sizeLine = false from Bool.eq_false_iff.mpr fun z => h (Nat.le_of_ble_eq_true z)]; rfl
end
end DX
/-! DXSimp2: what the operations give, kind by kind. -/
namespace DX
open PySem PySem.Spec PyProof.Rows L2

section
variable {os : En} {R : List Nat} {i j l n : Nat} {a b : Int} {x y z : Str} {c : Bool} {ds es : List PyData} {xs : List OD} {d : PyData} {o : OD}
theorem k_bool : bool? (.bool c) = some c := rfl
theorem k_int : int? (.int a) = some a := rfl
theorem k_str : str? (.str x) = some x := rfl
theorem k_tup : tup? (.tuple ds) = some ds := rfl
theorem k_lst : lst? (some (.lst xs)) = some xs := rfl
theorem k_itL : itemsD (.list ds) = some ds := rfl
theorem k_itT : itemsD (.tuple ds) = some ds := rfl
theorem k_itS : itemsD (.str x) = some (signs x) := rfl
theorem k_trN : trD .none = some false := rfl
theorem k_trB : trD (.bool c) = some c := rfl
theorem k_trI : trD (.int a) = some (a != 0) := rfl
theorem k_trS : trD (.str x) = some ((x.length : Int) != 0) := rfl
theorem k_trL : trD (.list ds) = some (!ds.isEmpty) := rfl
theorem k_trT : trD (.tuple ds) = some (!ds.isEmpty) := rfl
theorem k_scN : isSc .none = true := rfl
theorem k_scB : isSc (.bool c) = true := rfl
theorem k_scI : isSc (.int a) = true := rfl
theorem k_scS : isSc (.str x) = true := rfl
theorem k_scL : isSc (.list ds) = false := rfl
theorem k_scT : isSc (.tuple ds) = false := rfl
theorem k_shS : (OD.sh d).isSh = true := rfl
theorem k_shL : (OD.lst xs).isSh = false := rfl
theorem k_softT : soft os (.tm o) = os := rfl
theorem k_hardT : hard os (.tm o) = os := rfl
theorem k_cvT : cv os (.tm o) = some o := rfl
theorem k_softNil : softAll os [] = os := rfl
theorem k_softCons {r : RV} {rs : List RV} : softAll os (r :: rs) = softAll (soft os r) rs := rfl
theorem k_hardNil : hardAll os [] = os := rfl
theorem k_hardCons {r : RV} {rs : List RV} : hardAll os (r :: rs) = hardAll (hard os r) rs := rfl
/-- a shared slot stays as it is -/
theorem k_softA (h : os[i]? = some (some (.sh d))) : soft os (.al i) = os := by
  show (match os[i]? with | some (some o) => if o.flat then os else os.set i (some (.sh o.er)) | _ => os) = os
  rw [h]; rfl
theorem k_softF (h : os[i]? = some (some (.lst xs))) (hf : xs.all OD.isSh = true) : soft os (.al i) = os := by
  show (match os[i]? with | some (some o) => if o.flat then os else os.set i (some (.sh o.er)) | _ => os) = os
  rw [h]
  show (if (OD.lst xs).flat = true then os else _) = os
  rw [show (OD.lst xs).flat = xs.all OD.isSh from rfl, hf]; rfl
theorem k_hardA (h : os[i]? = some (some (.sh d))) : hard os (.al i) = os := by
  show (match os[i]? with | some (some (.lst xs)) => os.set i (some (.sh (OD.lst xs).er)) | some (some (.tpl xs)) => os.set i (some (.sh (OD.tpl xs).er)) | _ => os) = os
  rw [h]
theorem k_hardL (h : os[i]? = some (some (.lst xs))) : hard os (.al i) = os.set i (some (.sh (OD.lst xs).er)) := by
  show (match os[i]? with | some (some (.lst xs)) => os.set i (some (.sh (OD.lst xs).er)) | some (some (.tpl xs)) => os.set i (some (.sh (OD.tpl xs).er)) | _ => os) = _
  rw [h]
theorem k_cvA (h : os[i]? = some (some (.sh d))) : cv os (.al i) = some (.sh d) := by
  show (match os[i]? with | some (some (.sh d)) => some (OD.sh d) | _ => none) = _
  rw [h]
theorem k_giveA (h : os[i]? = some (some (.sh d))) : give os (.al i) = some (.sh d, os) := by
  show (match os[i]? with | some (some (.sh d)) => some (OD.sh d, os) | some (some (.lst xs)) => some (OD.lst xs, os.set i none) | some (some (.tpl xs)) => some (OD.tpl xs, os.set i none) | _ => none) = _
  rw [h]
theorem k_giveL (h : os[i]? = some (some (.lst xs))) : give os (.al i) = some (.lst xs, os.set i none) := by
  show (match os[i]? with | some (some (.sh d)) => some (OD.sh d, os) | some (some (.lst xs)) => some (OD.lst xs, os.set i none) | some (some (.tpl xs)) => some (OD.tpl xs, os.set i none) | _ => none) = _
  rw [h]
theorem k_seqN {b : EvS} : (match Res.nx os with | .nx os1 => b os1 | r => some r) = b os := rfl
theorem k_retR : retOf (.rt o os) = some o := rfl
theorem k_retN : retOf (.nx os) = some (.sh .none) := rfl
-- operations
theorem o_addI : opAdd [.int a, .int b] = some (.val (.int (a + b))) := rfl
theorem o_addS : opAdd [.str x, .str y] = cond (Nat.ble (x.length + y.length) strMax) (some (.val (.str (x ++ y)))) none := by
  simp only [opAdd]
  by_cases h : x.length + y.length ≤ strMax
  · rw [if_pos h, Nat.ble_eq_true_of_le h]; rfl
  · rw [if_neg h, Bool.eq_false_iff.mpr fun z => h (Nat.le_of_ble_eq_true z)]; rfl
theorem o_addL : opAdd [.list ds, .list es] = cond (Nat.ble (ds.length + es.length) sizeLine) (some (.nl (ds ++ es))) none := by
  simp only [opAdd]
  by_cases h : ds.length + es.length ≤ sizeLine
  · rw [if_pos h, Nat.ble_eq_true_of_le h]; rfl
  · rw [if_neg h, Bool.eq_false_iff.mpr fun z => h (Nat.le_of_ble_eq_true z)]; rfl
theorem o_sub : opSub [.int a, .int b] = some (.val (.int (a - b))) := rfl
theorem o_neg : opNeg [.int a] = some (.val (.int (-a))) := rfl
theorem o_ltI : opLt [.int a, .int b] = some (.val (.bool (decide (a < b)))) := rfl
theorem o_leI : opLe [.int a, .int b] = some (.val (.bool (decide (a ≤ b)))) := rfl
theorem o_gtI : opGt [.int a, .int b] = some (.val (.bool (decide (b < a)))) := rfl
theorem o_geI : opGe [.int a, .int b] = some (.val (.bool (decide (b ≤ a)))) := rfl
theorem o_lenS : opLen [.str x] = some (.val (.int x.length)) := rfl
theorem o_lenL : opLen [.list ds] = some (.val (.int ds.length)) := rfl
theorem o_lenT : opLen [.tuple ds] = some (.val (.int ds.length)) := rfl
theorem o_abs : opAbs [.int a] = some (.val (.int (if a < 0 then -a else a))) := rfl
theorem o_max : opMax2 [.int a, .int b] = some (.val (.int (if b > a then b else a))) := rfl
theorem o_int : opInt [.int a] = some (.val (.int a)) := rfl
theorem o_ixL : opIx [.list ds, .int a] = (atI ds a).bind fun d => some (.val d) := by
  simp only [opIx]; cases atI ds a <;> rfl
theorem o_ixT : opIx [.tuple ds, .int a] = (atI ds a).bind fun d => some (.val d) := by
  simp only [opIx]; cases atI ds a <;> rfl
theorem o_ixS : opIx [.str x, .int a] = (atI x.cps.toList a).bind fun c => some (.val (.str ⟨#[c]⟩)) := by
  simp only [opIx]; cases atI x.cps.toList a <;> rfl
theorem o_slS {lo hi : Option Int} : opSl lo hi [.str x] = some (.val (.str (cutS x lo hi))) := rfl
theorem o_slL {lo hi : Option Int} : opSl lo hi [.list ds] = some (.nl (cutD ds lo hi)) := rfl
theorem o_in1 {c : Nat} : opIn false [.str ⟨#[c]⟩, .str y] = some (.val (.bool (decide (c ∈ y.cps.toList)))) := rfl
theorem o_ni1 {c : Nat} : opIn true [.str ⟨#[c]⟩, .str y] = some (.val (.bool (!decide (c ∈ y.cps.toList)))) := rfl
theorem strs_map : ∀ ys : List Str, strs? (ys.map PyData.str) = some ys
  | [] => rfl
  | y :: ys => by simp only [List.map_cons, strs?, strs_map ys]
theorem o_eq (h1 : SeqAt.shaped d = true) {e : PyData} (h2 : SeqAt.shaped e = true) : opEq [d, e] = some (.val (.bool (PyData.eqv d e))) := by
  cases d <;> cases e <;> first | rfl | (simp only [opEq, h1, h2, Bool.and_self, if_true])
theorem o_ne (h1 : SeqAt.shaped d = true) {e : PyData} (h2 : SeqAt.shaped e = true) : opNe [d, e] = some (.val (.bool (!PyData.eqv d e))) := by
  cases d <;> cases e <;> first | rfl | (simp only [opNe, h1, h2, Bool.and_self, if_true])
theorem bools_map : ∀ ys : List Bool, bools? (ys.map PyData.bool) = some ys
  | [] => rfl
  | y :: ys => by simp only [List.map_cons, bools?, bools_map ys]
theorem o_all {f : List Bool → Bool} {ys : List Bool} : opAll f [.list (ys.map PyData.bool)] = some (.val (.bool (f ys))) := by
  simp only [opAll, bools_map]
theorem o_isi {s : String} {r : Bool} (h : kitB (tyN d) s = some r) (nd : ∀ kv, d ≠ .dict kv) : opIsi s [d] = some (.val (.bool r)) := by
  unfold opIsi
  split
  · rename_i q; cases q; exact absurd rfl (nd _)
  · rename_i q; cases q; rw [h]
  · rename_i q1 q2; exact absurd rfl (q2 d)
/-- which data are of a built-in class -/
def isiD (n : String) : PyData → Bool
  | .bool _ => n == "bool" || n == "int"
  | .int _ => n == "int"
  | .str _ => n == "str"
  | .list _ => n == "list"
  | .tuple _ => n == "tuple"
  | _ => false
theorem o_isiD {n : String} (hn : n = "bool" ∨ n = "int" ∨ n = "str" ∨ n = "list" ∨ n = "tuple") (nd : ∀ kv, d ≠ .dict kv) : opIsi n [d] = some (.val (.bool (isiD n d))) := by
  have T : ∀ m ∈ ["NoneType", "bool", "int", "str", "list", "tuple"], ∀ n ∈ ["bool", "int", "str", "list", "tuple"], (kitB m n).isSome = true ∧ kitB m n = some ((m == n) || (m == "bool" && n == "int")) := by decide +kernel
  have hn' : n ∈ ["bool", "int", "str", "list", "tuple"] := by simpa using hn
  have hm : tyN d ∈ ["NoneType", "bool", "int", "str", "list", "tuple"] := by
    cases d with
    | dict kv => exact absurd rfl (nd kv)
    | _ => simp [tyN]
  refine o_isi (((T _ hm _ hn').2).trans ?_) nd
  congr 1
  rcases hn with rfl | rfl | rfl | rfl | rfl <;> cases d <;> first | rfl | exact absurd rfl (nd _)
theorem b_sAug {fn : List PyData → Option Op} {ev : EvE} {d0 : PyData} {d1 : PyData} {r : RV} {os1 : En} (h0 : os[i]? = some (some (.sh d0))) (hs : isSc d0 = true) (hR : i ∉ R) (he : ev os = some (r, os1)) (hr : r.rd os1 = some d) (hf : fn [d0, d] = some (.val d1)) (h1 : isSc d1 = true) :
    sAug R i fn ev os = some (.nx (os1.set i (some (.sh d1)))) := by
  unfold sAug
  rw [h0]
  simp only [hs, hR, not_false_eq_true, and_self, if_true, he, hr, hf, h1]
end
end DX
/-! DXEnum: enumerate of a text. -/
namespace L2
open PySem PySem.Spec PyProof.Rows
/-- the signs of x, each in a new pair -/
def IteS (x : Str) : It :=
  ⟨fun i _ => i < x.cps.size, fun i H v H' => ∃ T c, v = .ref T ∧ H T = none ∧ H' = upd H T (.tup [.int (i : Nat), .str ⟨#[c]⟩]) ∧ x.cps[i]? = some c, fun i _ => x.cps.size ≤ i⟩
theorem draws_sign {prog : Program} {w : World} {A : Around} (hh : A.handled = none) (it : Addr) (x : Str) (t : Tok) :
    Draws prog w A it [it] x.cps.size (fun i v => ∃ c u, x.cps[i]? = some c ∧ v = .str ⟨#[c]⟩ u) (fun i h => h.IsStrIter it (strIterType x) x t i) := by
  unfold strIterType
  cases ha : x.cps.all (· < 128)
  · exact Draws.strWide hh it x t
  · exact Draws.strAscii hh it x t
theorem turn_enumS {P : Program} {w : World} {K : PySem.W.Frag} {elts : List Expr} {kk : Nat} {tpos : Pos} (x : Str) (t : Tok) (e it : Addr) :
    Turn P w K (.Tuple elts kk tpos) (IteS x) [e, it] e (fun i h => (∃ old, IsEnum h e it ((i : Nat) : Int) old) ∧ h.IsStrIter it (strIterType x) x t i ∧ e ≠ it ∧ i ≤ x.cps.size) where
  mem := by simp
  obj := fun i h st b hb => by
    obtain ⟨⟨old, he⟩, ⟨o, ho, hc, hd⟩, _, _⟩ := st
    have e' : b = e ∨ b = it := by simpa using hb
    rcases e' with z | z
    · rw [z]; exact ⟨_, he, fun v q => nomatch q⟩
    · rw [z]; exact ⟨o, ho, fun v q => by rw [hd] at q; cases q⟩
  keep := fun i h h' st k => let ⟨⟨old, he⟩, ⟨o, ho, r⟩, hne, hi⟩ := st; ⟨⟨old, k e (by simp) _ he⟩, ⟨o, k it (by simp) o ho, r⟩, hne, hi⟩
  item := by
    intro X hP hw hK hc i pins s σ H E I hf st hg
    subst hP hw hK
    obtain ⟨⟨old, he⟩, hit, hne, hin⟩ := st
    have hel : e < s.heap.objs.size := Heap.lt_size he
    have hil : it < s.heap.objs.size := by obtain ⟨_, q, _⟩ := hit; exact Heap.lt_size q
    refine wpAny_pyNext_enum_itemD (draws_sign (A := X.A.in1) (I.ok.hd hc) it x t) he hit hg hne (by simpa using hne) fun v h' tk hv ho hit' hT hsz hk => ?_
    obtain ⟨c, u, hcx, rfl⟩ := hv
    refine ⟨_, rfl, wpAny_letOwnedTupleGo_enum (s := { s with heap := h', toks := tk + 1 }) ho fun h'' he' sb => ?_⟩
    have hT2 : h''.get? s.heap.objs.size = some { cls := .type "tuple", data := .seq #[.int i tk, .str ⟨#[c]⟩ u] } := (sb.2 _ (Nat.ne_of_gt hel)).trans hT
    have new : ObjOk X.prog X.w (upd H s.heap.objs.size (.tup [.int (i : Nat), .str ⟨#[c]⟩])) h'' s.heap.objs.size (.tup [.int (i : Nat), .str ⟨#[c]⟩]) :=
      ⟨by show 2 ≤ sizeLine; decide, [.int i tk, .str ⟨#[c]⟩ u], .cons ⟨_, rfl⟩ (.cons ⟨_, rfl⟩ .nil), ⟨_, hT2, rfl, _, rfl⟩⟩
    have I1 : Inv X pins σ (upd H s.heap.objs.size (.tup [.int (i : Nat), .str ⟨#[c]⟩])) { s with heap := h'', toks := tk + 1 } :=
      I.turnedNew (ch := [e, it]) (fun b ob hb q => (sb.2 b (fun z => hb (by simp [z]))).trans (hk b ob (fun z => hb (by simp [z])) (fun z => hb (by simp [z])) q)) hf (Nat.le_refl _) new
    refine ⟨.ref s.heap.objs.size, _, I1, rfl, ⟨_, c, rfl, I.hok.fresh (Nat.le_refl _), rfl, hcx⟩, ⟨⟨Value.str ⟨#[c]⟩ u, ?_⟩, ?_, hne, hg⟩, fun b hb => ?_⟩
    · have e1 : ((i + 1 : Nat) : Int) = (i : Int) + 1 := by omega
      rw [e1]; exact he'
    · obtain ⟨o, ho2, r⟩ := hit'
      exact ⟨o, (sb.2 it (Ne.symm hne)).trans ho2, r⟩
    · have hb' : b < s.heap.objs.size := by
        have e' : b = e ∨ b = it := by simpa using hb
        rcases e' with z | z
        · rw [z]; exact hel
        · rw [z]; exact hil
      rw [upd_ne (Nat.ne_of_lt hb')]
      exact (hf b hb).1
  done := by
    intro X hP hw hK hc i pins s σ H E I hf st hg
    subst hP hw hK
    obtain ⟨⟨old, he⟩, hit, hne, hin⟩ := st
    obtain ⟨f0, f1, f2, f3, f4, f5⟩ := hf it (by simp)
    have hge : x.cps.size ≤ i := hg
    have e0 : i = x.cps.size := Nat.le_antisymm hin hge
    subst e0
    exact wpAny_pyNext_enum_endD (draws_sign (A := X.A.in1) (I.ok.hd hc) it x t) he hit fun h' eb => ⟨rfl, I.turned (t' := s.toks) (fun b o hb q => eb b o hb q) f0 f1 f3 f4 f5⟩
  self := fun A i s Q E st h => let ⟨⟨_, he⟩, _, _, _⟩ := st; wpAny_pyIter_enum he h
def iEnumS (ta : TA) : TI := fun σ H R => ta σ H fun vs H1 => ∃ x, vs = [.str x] ∧ R (IteS x) H1
theorem pi_enumS {X : Cx} {e : Expr} {ta : TA} {p pos tpos : Pos} {elts : List Expr} {kk : Nat} (hg : Gl X "enumerate") (hm : X.mg "enumerate" = none) (ha : PA X [e] ta) (hs : starEach [e] X.env = [(false, eval e X.env)] := by rfl) :
    PI X (.Tuple elts kk tpos) (.Call (.Name "enumerate" p) [e] [] pos) (iEnumS ta) := by
  refine ⟨fun pins s σ H R I h => ?_⟩
  refine Call_ (ld_blt I hg hm boot_enumerate (PyProof.Rows.callWith_type1 (thn (ha.run pos pins s σ H _ I h) fun us s1 ⟨vs, H1, I1, r1, q1⟩ => ?_) hs rfl))
  obtain ⟨x, ex, q⟩ := q1
  subst ex
  cases r1 with
  | cons r rr =>
    cases rr
    obtain ⟨t, rfl⟩ := r
    refine call_enumerate_str fun h' he hit hsz hk => wpAny_pyIter_enum he ?_
    have I2 : Inv X pins σ H1 { s1 with heap := h' } := I1.kept (t' := s1.toks) hk
    refine ⟨s1.heap.objs.size + 1, [s1.heap.objs.size + 1, s1.heap.objs.size], _, _, H1, rfl, I2, turn_enumS x t (s1.heap.objs.size + 1) s1.heap.objs.size, ⟨⟨.none, he⟩, hit, Nat.succ_ne_self _, Nat.zero_le _⟩, fun b hb => ?_, q⟩
    have e' : b = s1.heap.objs.size + 1 ∨ b = s1.heap.objs.size := by simpa using hb
    have hle : s1.heap.objs.size ≤ b := by
      rcases e' with z | z
      · rw [z]; exact Nat.le_add_right _ _
      · rw [z]; exact Nat.le_refl _
    exact I1.fpOk hle (I1.hok.fresh hle)
end L2
namespace DX
open PySem PySem.Spec PyProof.Rows L2
section
variable {K : PySem.W.Frag} {X : Cx}
def iEnS (ev : EvEs) : EvI := fun os => match ev os with
  | some (rs, os1) => match rdAll os1 rs with
    | some [.str x] => some (enumD 0 (signs x), hardAll os1 rs)
    | _ => none
  | none => none
theorem ir_enS {ev : EvEs} {ta : TA} (h : ERs K ev ta) : IR K (iEnS ev) (iEnumS ta) := fun σ τ G H os θ f ds os' Q hl ht I e k => by
  unfold iEnS at e
  split at e
  · rename_i rs os1 e1
    split at e
    · rename_i x e2
      cases e
      refine h σ τ G H os θ f rs _ _ hl ht I e1 fun vs H1 k1 => ?_
      obtain ⟨G1, f1, I1, s1, a1, l1⟩ := k1
      obtain ⟨G2, f2, I2, s2, hd⟩ := I1.popC l1 ht a1 e2
      obtain ⟨w, rfl, hw⟩ := dps1 hd
      cases hw
      have hln : (enumD 0 (signs x)).length = x.cps.size := by rw [enumD_len]; unfold signs; rw [List.length_map]; simp
      refine ⟨x, rfl, k _ H1 G2 f2 I2 (s1.trans s2) (by rw [len_hardAll]; exact l1) fun i G3 H3 g1 g2 => ⟨fun hi => ?_, fun hi => ?_, fun y H4 d hd z => ?_⟩⟩
      · show i < x.cps.size
        omega
      · show x.cps.size ≤ i
        omega
      · obtain ⟨T, c, rfl, hT, rfl, z1⟩ := z
        obtain ⟨d', h1, h2⟩ := enumD_get hd
        subst h2
        have : d' = .str ⟨#[c]⟩ := by
          unfold signs at h1
          rw [List.getElem?_map, Array.getElem?_toList, z1] at h1
          exact (Option.some.inj h1).symm
        subst this
        have := nw_pair (K := K) g2 (.int ((i : Nat) : Int)) (.str ⟨#[c]⟩ (by show 1 ≤ strMax; decide)) hT
        simpa using this
    · cases e
  · cases e
theorem si_enS {a : Expr} {ev : EvEs} {p pos tpos : Pos} {elts : List Expr} {kk : Nat} (hm : X.mg "enumerate" = none) (h : SEs X ev [a]) (hg : Gl X "enumerate" := by rfl) (hs : starEach [a] X.env = [(false, eval a X.env)] := by rfl) : SI' X (.Tuple elts kk tpos) (iEnS ev) (.Call (.Name "enumerate" p) [a] [] pos) := by
  obtain ⟨ta, q1, q2⟩ := h
  exact ⟨_, pi_enumS hg hm q1 hs, ir_enS q2⟩
/-- of a list or a text -/
def iEnA (ev : EvEs) : EvI := fun os => match iEn ev os with
  | some r => some r
  | none => iEnS ev os
theorem ir_or {a b : EvI} {ta tb : TI} (ha : IR K a ta) (hb : IR K b tb) : IR K (fun os => match a os with | some r => some r | none => b os) (fun σ H Q => ta σ H Q ∨ tb σ H Q) := fun σ τ G H os θ f ds os' Q hl ht I e k => by
  dsimp only at e
  split at e
  · rename_i r e1
    cases e
    exact .inl (ha σ τ G H os θ f ds os' Q hl ht I e1 k)
  · exact .inr (hb σ τ G H os θ f ds os' Q hl ht I e k)
theorem si_enA {a : Expr} {ev : EvEs} {p pos tpos : Pos} {elts : List Expr} {kk : Nat} (hm : X.mg "enumerate" = none) (h : SEs X ev [a]) (hg : Gl X "enumerate" := by rfl) (hs : starEach [a] X.env = [(false, eval a X.env)] := by rfl) : SI' X (.Tuple elts kk tpos) (iEnA ev) (.Call (.Name "enumerate" p) [a] [] pos) := by
  obtain ⟨ta, q1, q2⟩ := h
  exact ⟨_, pi_or (pi_enum hg hm q1 hs) (pi_enumS hg hm q1 hs), ir_or (ir_en q2) (ir_enS q2)⟩
end
end DX
/-! DXRun: loops and comprehensions by what a turn does; texts as lists of signs. -/
namespace DX
open PySem PySem.Spec PyProof.Rows L2

/-! ### texts -/
def S (l : List Nat) : Str := ⟨l.toArray⟩
theorem S_l (l : List Nat) : (S l).cps.toList = l := rfl
theorem S_len (l : List Nat) : (S l).length = l.length := rfl
theorem S_of (x : Str) : x = S x.cps.toList := rfl
theorem S_app (l m : List Nat) : S l ++ S m = S (l ++ m) := by
  show Str.mk (l.toArray ++ m.toArray) = Str.mk (l ++ m).toArray
  rw [List.append_toArray]
theorem S_one (c : Nat) : (⟨#[c]⟩ : Str) = S [c] := rfl
theorem S_inj {l m : List Nat} (h : S l = S m) : l = m := by
  have : (S l).cps.toList = (S m).cps.toList := by rw [h]
  exact this
def sgD (c : Nat) : PyData := .str (S [c])
theorem signs_S (l : List Nat) : signs (S l) = l.map sgD := rfl
theorem k_itSS {l : List Nat} : itemsD (.str (S l)) = some (l.map sgD) := rfl
theorem k_trSS {l : List Nat} : trD (.str (S l)) = some ((l.length : Int) != 0) := rfl

/-! ### comprehensions -/
def lcStep (own : List Nat) (tv : EvG) (c : EvT) (ev : EvE) (d : PyData) (os : En) : Option (Option OD × En) :=
  (tv d os).bind fun os1 => (c os1).bind fun q => cond q.1 ((ev q.2).bind fun p => (cv (hard p.2 p.1) p.1).bind fun o => some (some o, wipeE (hard p.2 p.1) own)) (some (none, wipeE q.2 own))
theorem lc_fold {own : List Nat} {tv : EvG} {c : EvT} {ev : EvE} {σ : Type} (E : σ → En) (F : PyData → σ → Option OD × σ) :
    ∀ (ds : List PyData) (s : σ) (acc : List OD), (∀ d s, d ∈ ds → lcStep own tv c ev d (E s) = some ((F d s).1, E (F d s).2)) → acc.length + ds.length ≤ sizeLine →
      ∃ s', lcF own tv c ev ds (E s) acc = some (acc ++ (ds.foldl (fun (p : List OD × σ) d => (p.1 ++ (F d p.2).1.toList, (F d p.2).2)) ([], s)).1, E s') ∧ s' = (ds.foldl (fun (p : List OD × σ) d => (p.1 ++ (F d p.2).1.toList, (F d p.2).2)) ([], s)).2 := by
  have sh : ∀ (ds : List PyData) (s : σ) (a : List OD), ds.foldl (fun (p : List OD × σ) d => (p.1 ++ (F d p.2).1.toList, (F d p.2).2)) (a, s) = (a ++ (ds.foldl (fun (p : List OD × σ) d => (p.1 ++ (F d p.2).1.toList, (F d p.2).2)) ([], s)).1, (ds.foldl (fun (p : List OD × σ) d => (p.1 ++ (F d p.2).1.toList, (F d p.2).2)) ([], s)).2) := by
    intro ds
    induction ds with
    | nil => intro s a; simp
    | cons d ds ih => intro s a; simp only [List.foldl_cons, List.nil_append]; rw [ih, ih (F d s).2 (F d s).1.toList]; simp [List.append_assoc]
  intro ds
  induction ds with
  | nil => intro s acc _ _; exact ⟨s, by simp [b_lcNil], rfl⟩
  | cons d ds ih =>
    intro s acc h hn
    have h1 := h d s List.mem_cons_self
    rw [b_lcCons]
    unfold lcStep at h1
    cases e1 : tv d (E s) with
    | none => rw [e1] at h1; cases h1
    | some os1 =>
      rw [e1] at h1
      simp only [Option.bind_some] at h1 ⊢
      cases e2 : c os1 with
      | none => rw [e2] at h1; cases h1
      | some q =>
        obtain ⟨b, os2⟩ := q
        rw [e2] at h1
        simp only [Option.bind_some] at h1 ⊢
        simp only [List.length_cons] at hn
        cases b with
        | false =>
          simp only [cond_false, Option.some.injEq, Prod.mk.injEq] at h1 ⊢
          obtain ⟨s', i1, i2⟩ := ih (F d s).2 acc (fun d s m => h d s (List.mem_cons_of_mem _ m)) (by omega)
          refine ⟨s', ?_, ?_⟩
          · rw [h1.2, i1]
            simp only [List.foldl_cons, List.nil_append]
            rw [sh ds _ (F d s).1.toList, ← h1.1]
            simp
          · rw [i2]
            simp only [List.foldl_cons, List.nil_append]
            rw [sh ds _ (F d s).1.toList]
        | true =>
          simp only [cond_true] at h1 ⊢
          cases e3 : ev os2 with
          | none => rw [e3] at h1; cases h1
          | some p =>
            rw [e3] at h1
            simp only [Option.bind_some] at h1 ⊢
            cases e4 : cv (hard p.2 p.1) p.1 with
            | none => rw [e4] at h1; cases h1
            | some o =>
              rw [e4] at h1
              simp only [Option.bind_some, Option.some.injEq, Prod.mk.injEq] at h1 ⊢
              have hb : Nat.blt acc.length sizeLine = true := Nat.ble_eq_true_of_le (by omega)
              rw [hb, cond_true]
              obtain ⟨s', i1, i2⟩ := ih (F d s).2 (acc ++ [o]) (fun d s m => h d s (List.mem_cons_of_mem _ m)) (by simp; omega)
              refine ⟨s', ?_, ?_⟩
              · rw [h1.2, i1]
                simp only [List.foldl_cons, List.nil_append]
                rw [sh ds _ (F d s).1.toList, ← h1.1]
                simp [List.append_assoc]
              · rw [i2]
                simp only [List.foldl_cons, List.nil_append]
                rw [sh ds _ (F d s).1.toList]
/-- a comprehension that leaves the slots as they are -/
theorem lc_all {own : List Nat} {tv : EvG} {c : EvT} {ev : EvE} {os : En} (f : PyData → Option OD) (ds : List PyData) (acc : List OD) (h : ∀ d, d ∈ ds → lcStep own tv c ev d os = some (f d, os)) (hn : acc.length + ds.length ≤ sizeLine) :
    lcF own tv c ev ds os acc = some (acc ++ ds.filterMap f, os) := by
  obtain ⟨s', h1, h2⟩ := lc_fold (own := own) (tv := tv) (c := c) (ev := ev) (σ := Unit) (fun _ => os) (fun d _ => (f d, ())) ds () acc (fun d _ m => h d m) hn
  rw [h1]
  congr 3
  clear h h1 h2 hn
  have : ∀ (ds : List PyData) (a : List OD), (ds.foldl (fun (p : List OD × Unit) d => (p.1 ++ (f d).toList, ())) (a, ())).1 = a ++ ds.filterMap f := by
    intro ds
    induction ds with
    | nil => intro a; simp
    | cons d ds ih =>
      intro a
      rw [List.foldl_cons, ih, List.filterMap_cons]
      cases f d <;> simp
  exact (this ds []).trans (List.nil_append _)

theorem lc_map {own : List Nat} {tv : EvG} {c : EvT} {ev : EvE} {os : En} {α : Type} (g : α → PyData) (f : α → Option OD) (xs : List α) (acc : List OD) (h : ∀ x, x ∈ xs → lcStep own tv c ev (g x) os = some (f x, os)) (hn : acc.length + xs.length ≤ sizeLine) :
    lcF own tv c ev (xs.map g) os acc = some (acc ++ xs.filterMap f, os) := by
  induction xs generalizing acc with
  | nil => simp [b_lcNil]
  | cons x xs ih =>
    have h1 := h x List.mem_cons_self
    have h2 : ∀ a : List OD, a.length + xs.length ≤ sizeLine → lcF own tv c ev (xs.map g) os a = some (a ++ xs.filterMap f, os) := fun a ha => ih a (fun y m => h y (List.mem_cons_of_mem _ m)) ha
    rw [List.map_cons, b_lcCons]
    simp only [List.length_cons] at hn
    unfold lcStep at h1
    cases e1 : tv (g x) os with
    | none => rw [e1] at h1; cases h1
    | some os1 =>
      rw [e1] at h1
      simp only [Option.bind_some] at h1 ⊢
      cases e2 : c os1 with
      | none => rw [e2] at h1; cases h1
      | some q =>
        obtain ⟨b, os2⟩ := q
        rw [e2] at h1
        simp only [Option.bind_some] at h1 ⊢
        cases b with
        | false =>
          simp only [cond_false, Option.some.injEq, Prod.mk.injEq] at h1 ⊢
          rw [h1.2, h2 acc (by omega), List.filterMap_cons, ← h1.1]
        | true =>
          simp only [cond_true] at h1 ⊢
          cases e3 : ev os2 with
          | none => rw [e3] at h1; cases h1
          | some p =>
            rw [e3] at h1
            simp only [Option.bind_some] at h1 ⊢
            cases e4 : cv (hard p.2 p.1) p.1 with
            | none => rw [e4] at h1; cases h1
            | some o =>
              rw [e4] at h1
              simp only [Option.bind_some, Option.some.injEq, Prod.mk.injEq] at h1 ⊢
              have hb : Nat.blt acc.length sizeLine = true := Nat.ble_eq_true_of_le (by omega)
              rw [hb, cond_true, h1.2, h2 _ (by simp; omega), List.filterMap_cons, ← h1.1]
              simp [List.append_assoc]
theorem fm_some {α β : Type} (f : α → β) : ∀ xs : List α, xs.filterMap (fun x => some (f x)) = xs.map f
  | [] => rfl
  | x :: xs => by rw [List.filterMap_cons, fm_some f xs]; rfl
theorem lc_mapS {own : List Nat} {tv : EvG} {c : EvT} {ev : EvE} {os : En} {α : Type} (g : α → PyData) (f : α → OD) (xs : List α) (h : ∀ x, x ∈ xs → lcStep own tv c ev (g x) os = some (some (f x), os)) (hn : xs.length ≤ sizeLine) :
    lcF own tv c ev (xs.map g) os [] = some (xs.map f, os) := by
  rw [lc_map g (fun x => some (f x)) xs [] h (by simpa using hn), fm_some]; rfl
theorem hm_of {ev : Nat → EvS} {os : En} {r : OD} (n : Nat) (h : (ev n os).bind retOf = some r) : ∃ n res, ev n os = some res ∧ retOf res = some r := by
  cases e : ev n os with
  | none => rw [e] at h; cases h
  | some res => rw [e] at h; exact ⟨n, res, e, h⟩
theorem hp_of {ev : Nat → EvS} {os : En} {r : OD × OD} (n : Nat) (h : (ev n os).bind retP = some r) : ∃ n res, ev n os = some res ∧ retP res = some r := by
  cases e : ev n os with
  | none => rw [e] at h; cases h
  | some res => rw [e] at h; exact ⟨n, res, e, h⟩

/-! ### for -/
def forStep (tv : EvG) (b : EvS) (d : PyData) (os : En) : Option Res := (tv d os).bind b
/-- I tells the slots by what is still to come; P tells the end -/
theorem for_inv {tv : EvG} {b : EvS} (I : List PyData → En → Prop) (P : Res → Prop) (h0 : ∀ os, I [] os → P (.nx os))
    (h : ∀ d ds os, I (d :: ds) os → ∃ r, forStep tv b d os = some r ∧ match r with
      | .nx os' => I ds os'
      | .ct os' => I ds os'
      | .bk os' => P (.nx os')
      | .rt o os' => P (.rt o os')) : ∀ ds os, I ds os → ∃ r, forF tv b ds os = some r ∧ P r
  | [], os, i => ⟨_, rfl, h0 os i⟩
  | d :: ds, os, i => by
    obtain ⟨r, h1, h2⟩ := h d ds os i
    unfold forStep at h1
    show ∃ r, (match tv d os with | some os1 => _ | none => none) = some r ∧ P r
    cases e1 : tv d os with
    | none => rw [e1] at h1; cases h1
    | some os1 =>
      rw [e1] at h1
      simp only [Option.bind_some] at h1
      dsimp only
      rw [h1]
      cases r with
      | nx os2 => exact for_inv I P h0 h ds os2 h2
      | ct os2 => exact for_inv I P h0 h ds os2 h2
      | bk os2 => exact ⟨_, rfl, h2⟩
      | rt o os2 => exact ⟨_, rfl, h2⟩

/-! ### while -/
/-- I n: at most n turns are still to come -/
theorem wh_inv {t : EvT} {b : EvS} (I : Nat → En → Prop) (P : Res → Prop)
    (h : ∀ n os, I n os → ∃ c os1, t os = some (c, os1) ∧ (c = false → P (.nx os1)) ∧ (c = true → ∃ r, b os1 = some r ∧ match r with
      | .nx os' => ∃ m, m < n ∧ I m os'
      | .ct os' => ∃ m, m < n ∧ I m os'
      | .bk os' => P (.nx os')
      | .rt o os' => P (.rt o os'))) : ∀ k n os, n < k → I n os → ∃ r, whF t b k os = some r ∧ P r
  | 0, _, _, hk, _ => absurd hk (Nat.not_lt_zero _)
  | k + 1, n, os, hk, i => by
    obtain ⟨c, os1, h1, h2, h3⟩ := h n os i
    show ∃ r, (match t os with | some (true, os1) => _ | some (false, os1) => some (Res.nx os1) | none => none) = some r ∧ P r
    rw [h1]
    cases c with
    | false => exact ⟨_, rfl, h2 rfl⟩
    | true =>
      obtain ⟨r, q1, q2⟩ := h3 rfl
      dsimp only
      rw [q1]
      cases r with
      | nx os2 => obtain ⟨m, hm, i2⟩ := q2; exact wh_inv I P h k m os2 (by omega) i2
      | ct os2 => obtain ⟨m, hm, i2⟩ := q2; exact wh_inv I P h k m os2 (by omega) i2
      | bk os2 => exact ⟨_, rfl, q2⟩
      | rt o os2 => exact ⟨_, rfl, q2⟩
theorem wh_eq {t : EvT} {b : EvS} {k : Nat} {os : En} {res : Res} (I : Nat → En → Prop) (n : Nat) (hk : n < k) (hi : I n os)
    (h : ∀ n os, I n os → ∃ c os1, t os = some (c, os1) ∧ (c = false → Res.nx os1 = res) ∧ (c = true → ∃ r, b os1 = some r ∧ match r with
      | .nx os' => ∃ m, m < n ∧ I m os'
      | .ct os' => ∃ m, m < n ∧ I m os'
      | .bk os' => Res.nx os' = res
      | .rt o os' => Res.rt o os' = res)) : whF t b k os = some res := by
  obtain ⟨r, h1, h2⟩ := wh_inv I (fun r => r = res) h k n os hk hi
  rw [h1, h2]
theorem for_eq {tv : EvG} {b : EvS} {ds : List PyData} {os : En} {res : Res} (I : List PyData → En → Prop) (hi : I ds os) (h0 : ∀ os, I [] os → Res.nx os = res)
    (h : ∀ d ds os, I (d :: ds) os → ∃ r, forStep tv b d os = some r ∧ match r with
      | .nx os' => I ds os'
      | .ct os' => I ds os'
      | .bk os' => Res.nx os' = res
      | .rt o os' => Res.rt o os' = res) : forF tv b ds os = some res := by
  obtain ⟨r, h1, h2⟩ := for_inv I (fun r => r = res) h0 h ds os hi
  rw [h1, h2]
theorem wh_bind {α β : Type} {t : EvT} {b : EvS} {k : Nat} {os : En} {f : Res → Option α} {g : α → Option β} {X : Option β} (I : Nat → En → Prop) (P : En → Prop) (n : Nat) (hk : n < k) (hi : I n os)
    (h : ∀ n os, I n os → ∃ c os1, t os = some (c, os1) ∧ (c = false → P os1) ∧ (c = true → ∃ os', b os1 = some (.nx os') ∧ ∃ m, m < n ∧ I m os'))
    (hf : ∀ os', P os' → (f (.nx os')).bind g = X) : ((whF t b k os).bind f).bind g = X := by
  obtain ⟨r, h1, h2⟩ := wh_inv I (fun r => ∃ os', r = .nx os' ∧ P os') (fun n os i => by
    obtain ⟨c, os1, q1, q2, q3⟩ := h n os i
    refine ⟨c, os1, q1, fun z => ⟨_, rfl, q2 z⟩, fun z => ?_⟩
    obtain ⟨os', z1, z2⟩ := q3 z
    exact ⟨_, z1, z2⟩) k n os hk hi
  obtain ⟨os', rfl, h3⟩ := h2
  rw [h1]
  exact hf os' h3
theorem for_bind {α β : Type} {tv : EvG} {b : EvS} {ds : List PyData} {os : En} {f : Res → Option α} {g : α → Option β} {X : Option β} (I : List PyData → En → Prop) (hi : I ds os)
    (h : ∀ d ds os, I (d :: ds) os → ∃ os', forStep tv b d os = some (.nx os') ∧ I ds os')
    (hf : ∀ os', I [] os' → (f (.nx os')).bind g = X) : ((forF tv b ds os).bind f).bind g = X := by
  obtain ⟨r, h1, h2⟩ := for_inv I (fun r => ∃ os', r = .nx os' ∧ I [] os') (fun os i => ⟨os, rfl, i⟩) (fun d ds os i => by
    obtain ⟨os', q1, q2⟩ := h d ds os i
    exact ⟨_, q1, q2⟩) ds os hi
  obtain ⟨os', rfl, h3⟩ := h2
  rw [h1]
  exact hf os' h3
end DX
/-! DXSimp3: more worths as chains of bind. -/
namespace DX
open PySem PySem.Spec PyProof.Rows L2
section
variable {os : En} {R : List Nat} {i j l n : Nat} {a b : Int} {x y z : Str} {c : Bool} {ds es : List PyData} {xs : List OD} {d : PyData} {o : OD}
theorem b_ifD {α : Type} {p : Prop} [h : Decidable p] {a b : α} : (if p then a else b) = cond (decide p) a b := by
  by_cases q : p <;> simp [q]
def al? : RV → Option Nat
  | .al j => some j
  | _ => none
theorem k_alA : al? (.al j) = some j := rfl
def hd? {α : Type} : List α → Option (α × List α)
  | a :: r => some (a, r)
  | [] => none
theorem k_hd {α : Type} {a : α} {r : List α} : hd? (a :: r) = some (a, r) := rfl
theorem k_jn : (some (some o) : Option (Option OD)).bind lst? = lst? (some o) := rfl
theorem b_fnP {m : OD → List OD → Option (OD × OD)} {idx : List Nat} {ev : EvEs} : eFnP m n idx ev os = (ev os).bind fun p => (hd? p.1).bind fun q => (al? q.1).bind fun j => (rdAll p.2 q.2).bind fun ds => (((hardAll p.2 q.2)[j]?).bind lst?).bind fun xs =>
    cond (Nat.beq (q.2.length + 1) n && Nat.beq ((pk idx ds).length + 1) n) ((m (.lst xs) ((pk idx ds).map OD.sh)).bind fun t => some (.tm t.1, (hardAll p.2 q.2).set j (some t.2))) none := by
  unfold eFnP
  cases ev os with
  | none => rfl
  | some p =>
    obtain ⟨rs, os1⟩ := p
    cases rs with
    | nil => rfl
    | cons r rs =>
      cases r with
      | tm o => rfl
      | al j =>
        simp only [Option.bind_some, hd?, al?]
        cases rdAll os1 rs with
        | none => rfl
        | some ds =>
          simp only [Option.bind_some]
          cases (hardAll os1 rs)[j]? with
          | none => rfl
          | some s =>
            cases s with
            | none => rfl
            | some o =>
              cases o with
              | sh _ => rfl
              | tpl _ => rfl
              | lst xs =>
                simp only [Option.bind_some, lst?]
                by_cases h : rs.length + 1 = n ∧ (pk idx ds).length + 1 = n
                · rw [if_pos h, h.1, h.2, show Nat.beq n n = true from Nat.beq_refl n]
                  simp only [Bool.and_self, cond_true]
                  cases m (.lst xs) ((pk idx ds).map OD.sh) with
                  | none => rfl
                  | some t => rfl
                · rw [if_neg h]
                  have : (Nat.beq (rs.length + 1) n && Nat.beq ((pk idx ds).length + 1) n) = false := by
                    rw [Bool.eq_false_iff]
                    intro z
                    obtain ⟨z1, z2⟩ := Bool.and_eq_true_iff.mp z
                    exact h ⟨Nat.eq_of_beq_eq_true z1, Nat.eq_of_beq_eq_true z2⟩
                  rw [this]; rfl
theorem b_cvsNil : cvs os [] = some [] := rfl
theorem b_cvsCons {r : RV} {rs : List RV} : cvs os (r :: rs) = (cv os r).bind fun o => (cvs os rs).bind fun ods => some (o :: ods) := by
  show (match cv os r, cvs os rs with | some o, some ods => some (o :: ods) | _, _ => none) = _
  cases cv os r <;> cases cvs os rs <;> rfl
def two? {α : Type} : List α → Option (α × α)
  | [a, b] => some (a, b)
  | _ => none
def three? {α : Type} : List α → Option (α × α × α)
  | [a, b, c] => some (a, b, c)
  | _ => none
theorem k_two {α : Type} {a b : α} : two? [a, b] = some (a, b) := rfl
theorem k_three {α : Type} {a b c : α} : three? [a, b, c] = some (a, b, c) := rfl
theorem b_sPar {ev : EvEs} : sPar R i j ev os = (ev os).bind fun p => (cvs (hardAll p.2 p.1) p.1).bind fun l => (two? l).bind fun t => cond (inR R i p.2.length || inR R j p.2.length) none (some (.nx (((hardAll p.2 p.1).set i (some t.1)).set j (some t.2)))) := by
  unfold sPar
  cases ev os with
  | none => rfl
  | some p =>
    obtain ⟨rs, os1⟩ := p
    simp only [Option.bind_some]
    cases cvs (hardAll os1 rs) rs with
    | none => rfl
    | some ods =>
      match ods with
      | [] => rfl
      | [_] => rfl
      | _ :: _ :: _ :: _ => rfl
      | [o1, o2] =>
        simp only [Option.bind_some, two?]
        by_cases h : i ∈ R ∨ j ∈ R ∨ os1.length ≤ i ∨ os1.length ≤ j
        · rw [if_pos h]
          have : (inR R i os1.length || inR R j os1.length) = true := by
            rw [Bool.or_eq_true, ← inR_iff, ← inR_iff]
            rcases h with h | h | h | h
            · exact .inl (.inl h)
            · exact .inr (.inl h)
            · exact .inl (.inr h)
            · exact .inr (.inr h)
          rw [this]; rfl
        · rw [if_neg h]
          have : (inR R i os1.length || inR R j os1.length) = false := by
            rw [Bool.eq_false_iff]
            intro z
            rw [Bool.or_eq_true, ← inR_iff, ← inR_iff] at z
            rcases z with (z | z) | (z | z)
            · exact h (.inl z)
            · exact h (.inr (.inr (.inl z)))
            · exact h (.inr (.inl z))
            · exact h (.inr (.inr (.inr z)))
          rw [this]; rfl
theorem b_sPar3 {ev : EvEs} : sPar3 R i j l ev os = (ev os).bind fun p => (cvs (hardAll p.2 p.1) p.1).bind fun q => (three? q).bind fun t => cond (inR R i p.2.length || inR R j p.2.length || inR R l p.2.length) none (some (.nx ((((hardAll p.2 p.1).set i (some t.1)).set j (some t.2.1)).set l (some t.2.2)))) := by
  unfold sPar3
  cases ev os with
  | none => rfl
  | some p =>
    obtain ⟨rs, os1⟩ := p
    simp only [Option.bind_some]
    cases cvs (hardAll os1 rs) rs with
    | none => rfl
    | some ods =>
      match ods with
      | [] => rfl
      | [_] => rfl
      | [_, _] => rfl
      | _ :: _ :: _ :: _ :: _ => rfl
      | [o1, o2, o3] =>
        simp only [Option.bind_some, three?]
        by_cases h : i ∈ R ∨ j ∈ R ∨ l ∈ R ∨ os1.length ≤ i ∨ os1.length ≤ j ∨ os1.length ≤ l
        · rw [if_pos h]
          have : (inR R i os1.length || inR R j os1.length || inR R l os1.length) = true := by
            rw [Bool.or_eq_true, Bool.or_eq_true, ← inR_iff, ← inR_iff, ← inR_iff]
            rcases h with h | h | h | h | h | h
            · exact .inl (.inl (.inl h))
            · exact .inl (.inr (.inl h))
            · exact .inr (.inl h)
            · exact .inl (.inl (.inr h))
            · exact .inl (.inr (.inr h))
            · exact .inr (.inr h)
          rw [this]; rfl
        · rw [if_neg h]
          have : (inR R i os1.length || inR R j os1.length || inR R l os1.length) = false := by
            rw [Bool.eq_false_iff]
            intro z
            rw [Bool.or_eq_true, Bool.or_eq_true, ← inR_iff, ← inR_iff, ← inR_iff] at z
            rcases z with ((z | z) | (z | z)) | (z | z)
            · exact h (.inl z)
            · exact h (.inr (.inr (.inr (.inl z))))
            · exact h (.inr (.inl z))
            · exact h (.inr (.inr (.inr (.inr (.inl z)))))
            · exact h (.inr (.inr (.inl z)))
            · exact h (.inr (.inr (.inr (.inr (.inr z)))))
          rw [this]; rfl
def list? : PyData → Option (List PyData)
  | .list ds => some ds
  | _ => none
theorem b_iEnA {ev : EvE} : iEnA (esCons ev esNil) os = (ev os).bind fun p => (p.1.rd p.2).bind fun d => (((list? d).or ((str? d).map signs))).bind fun ds => some (enumD 0 ds, hard p.2 p.1) := by
  unfold iEnA iEn iEnS
  rw [b_esCons]
  cases ev os with
  | none => rfl
  | some p =>
    obtain ⟨r, os1⟩ := p
    simp only [Option.bind_some, b_esNil, b_rdCons, b_rdNil]
    cases r.rd os1 with
    | none => rfl
    | some d => cases d <;> rfl
theorem k_list : list? (.list ds) = some ds := rfl
theorem b_sAppIx {ek ev : EvE} : sAppIx i ek ev os = ((os[i]?).bind lst?).bind fun _ => (ek os).bind fun p => (p.1.rd p.2).bind fun k => (int? k).bind fun k => ((p.2[i]?).bind lst?).bind fun xs => (ixN xs.length k).bind fun j => (lst? xs[j]?).bind fun ys =>
    (ev (p.2.set i none)).bind fun q => q.1.od.bind fun o => cond ((q.2[i]?).any Option.isNone && Nat.blt ys.length sizeLine) (some (.nx (q.2.set i (some (.lst (xs.set j (.lst (ys ++ [o])))))))) none := by
  unfold sAppIx
  cases h0 : os[i]? with
  | none => rfl
  | some s =>
    cases s with
    | none => rfl
    | some o =>
      cases o with
      | sh _ => rfl
      | tpl _ => rfl
      | lst ys =>
        simp only [Option.bind_some, lst?]
        cases ek os with
        | none => rfl
        | some p =>
          obtain ⟨rk, os1⟩ := p
          simp only [Option.bind_some]
          cases rk.rd os1 with
          | none => rfl
          | some k =>
            cases k with
            | int k =>
              simp only [Option.bind_some, int?]
              cases os1[i]? with
              | none => rfl
              | some s =>
                cases s with
                | none => rfl
                | some o =>
                  cases o with
                  | sh _ => rfl
                  | tpl _ => rfl
                  | lst xs =>
                    simp only [Option.bind_some, lst?]
                    cases ixN xs.length k with
                    | none => rfl
                    | some j =>
                      simp only [Option.bind_some]
                      cases xs[j]? with
                      | none => rfl
                      | some o =>
                        cases o with
                        | sh _ => rfl
                        | tpl _ => rfl
                        | lst ys =>
                          simp only [Option.bind_some]
                          cases ev (os1.set i none) with
                          | none => rfl
                          | some q =>
                            obtain ⟨r, os2⟩ := q
                            cases r with
                            | al _ => rfl
                            | tm o =>
                              simp only [Option.bind_some, RV.od]
                              cases os2[i]? with
                              | none => rfl
                              | some s =>
                                cases s with
                                | some _ => rfl
                                | none =>
                                  simp only [Option.any, Option.isNone, Bool.true_and]
                                  by_cases h : ys.length < sizeLine
                                  · rw [if_pos h, show Nat.blt ys.length sizeLine = true from Nat.ble_eq_true_of_le h]; rfl
                                  · rw [if_neg h, show Nat.blt ys.length sizeLine = false from Bool.eq_false_iff.mpr fun z => h (Nat.le_of_ble_eq_true z)]; rfl
            | _ => rfl
theorem k_odT : (RV.tm o).od = some o := rfl
def sh? : OD → Option PyData
  | .sh d => some d
  | _ => none
theorem k_sh : sh? (.sh d) = some d := rfl
theorem b_sAugI {ev : EvE} : sAug R i (opII (fun _ _ => true) fun i j => .int (i + j)) ev os = (os[i]?).bind fun s => s.bind fun o => (sh? o).bind fun d0 => (int? d0).bind fun a => cond (R.any (Nat.beq i)) none ((ev os).bind fun p => (p.1.rd p.2).bind fun d => (int? d).bind fun b => some (.nx (p.2.set i (some (.sh (.int (a + b))))))) := by
  unfold sAug
  cases h0 : os[i]? with
  | none => rfl
  | some s =>
    cases s with
    | none => rfl
    | some o =>
      cases o with
      | lst _ => rfl
      | tpl _ => rfl
      | sh d0 =>
        simp only [Option.bind_some, sh?]
        have hR : (R.any (Nat.beq i) = true) ↔ i ∈ R := by
          rw [List.any_eq_true]
          constructor
          · rintro ⟨x, h1, h2⟩
            have := Nat.eq_of_beq_eq_true h2; subst this; exact h1
          · exact fun h => ⟨i, h, Nat.beq_refl i⟩
        by_cases q : i ∈ R
        · rw [hR.mpr q, if_neg (fun z => z.2 q)]
          cases d0 <;> rfl
        · rw [Bool.eq_false_iff.mpr fun z => q (hR.mp z)]
          cases d0 with
          | int a =>
            rw [if_pos ⟨rfl, q⟩]
            simp only [int?, Option.bind_some, cond_false]
            cases ev os with
            | none => rfl
            | some p =>
              simp only [Option.bind_some]
              cases p.1.rd p.2 with
              | none => rfl
              | some d => cases d <;> rfl
          | none | bool _ | str _ =>
            rw [if_pos ⟨rfl, q⟩]
            simp only [int?, Option.bind_none]
            cases ev os with
            | none => rfl
            | some p =>
              dsimp only
              cases p.1.rd p.2 with
              | none => rfl
              | some d => cases d <;> rfl
          | list _ | tuple _ | dict _ =>
            rw [if_neg (fun z => nomatch z.1)]
            rfl
theorem o_mul : opMul [.int a, .int b] = cond (mulFits a b) (some (.val (.int (a * b)))) none := by
  show (if mulFits a b = true then _ else _) = _
  cases mulFits a b <;> rfl
theorem o_div : opDiv [.int a, .int b] = cond (divFits a b) (some (.val (.int (divV a b)))) none := by
  show (if divFits a b = true then _ else _) = _
  cases divFits a b <;> rfl
theorem o_mod : opMod [.int a, .int b] = cond (decide (0 < b)) (some (.val (.int (a % b)))) none := by
  show (if decide (0 < b) = true then _ else _) = _
  cases decide (0 < b) <;> rfl
theorem o_pow : opPow [.int a, .int b] = cond (powFits a b) (some (.val (.int (a ^ b.toNat)))) none := by
  show (if powFits a b = true then _ else _) = _
  cases powFits a b <;> rfl
theorem o_divmod : opDivmod [.int a, .int b] = cond (decide (0 < b ∧ b < 1073741824)) (some (.nt [.int (a / b), .int (a % b)])) none := by
  show (if 0 < b ∧ b < 1073741824 then _ else _) = _
  exact b_ifD
theorem o_split : opSplit [.str x, .str y] = cond (decide ((y.length == 0) = false ∧ (Txt.split x y).all (fun y => decide (y.length ≤ strMax)) = true)) (some (.nl ((Txt.split x y).map PyData.str))) none := by
  show (if (y.length == 0) = false ∧ (Txt.split x y).all (fun y => decide (y.length ≤ strMax)) = true then _ else _) = _
  exact b_ifD
theorem o_partition : opPartition [.str x, .str y] = cond (decide ((y.length == 0) = false ∧ (Txt.partition x y).1.length ≤ strMax ∧ (Txt.partition x y).2.1.length ≤ strMax ∧ (Txt.partition x y).2.2.length ≤ strMax)) (some (.nt [.str (Txt.partition x y).1, .str (Txt.partition x y).2.1, .str (Txt.partition x y).2.2])) none := by
  show (if (y.length == 0) = false ∧ (Txt.partition x y).1.length ≤ strMax ∧ (Txt.partition x y).2.1.length ≤ strMax ∧ (Txt.partition x y).2.2.length ≤ strMax then _ else _) = _
  exact b_ifD
theorem o_repr (h : (d.showable && !d.hasDict && decide (d.depth ≤ 64) && decide (d.shown.length ≤ strMax)) = true) : opRepr [d] = some (.val (.str d.shown)) := by
  show (if (d.showable && !d.hasDict && decide (d.depth ≤ 64) && decide (d.shown.length ≤ strMax)) = true then _ else _) = _
  rw [if_pos h]
theorem o_niT {ys : List Str} : opIn true [.str x, .tuple (ys.map PyData.str)] = some (.val (.bool (!ys.contains x))) := by
  show (match strs? (ys.map PyData.str) with | some xs => _ | none => none) = _
  rw [strs_map]; rfl
theorem o_inT {ys : List Str} : opIn false [.str x, .tuple (ys.map PyData.str)] = some (.val (.bool (ys.contains x))) := by
  show (match strs? (ys.map PyData.str) with | some xs => _ | none => none) = _
  rw [strs_map]; rfl
theorem o_inL (h1 : SeqAt.shaped d = true) (h2 : SeqAt.shaped (.list ds) = true) : opIn false [d, .list ds] = some (.val (.bool (ds.any fun z => PyData.eqv z d))) := by
  cases d <;> first | (cases h1; done) | (show (if (SeqAt.shaped _ && SeqAt.shaped (.list ds)) = true then _ else _) = _; rw [h1, h2]; rfl)
theorem o_niL (h1 : SeqAt.shaped d = true) (h2 : SeqAt.shaped (.list ds) = true) : opIn true [d, .list ds] = some (.val (.bool (!(ds.any fun z => PyData.eqv z d)))) := by
  cases d <;> first | (cases h1; done) | (show (if (SeqAt.shaped _ && SeqAt.shaped (.list ds)) = true then _ else _) = _; rw [h1, h2]; rfl)
theorem at_nat {α : Type} (xs : List α) (i : Nat) : atI xs (i : Int) = xs[i]? := by
  unfold atI ixN
  by_cases h : i < xs.length
  · rw [if_pos (by omega), if_pos (by omega)]; rfl
  · rw [if_pos (by omega), if_neg (by omega), List.getElem?_eq_none (by omega)]; rfl
theorem at_zero {α : Type} {c : α} {r : List α} : atI (c :: r) 0 = some c := at_nat (c :: r) 0
theorem at_0 {α : Type} {xs : List α} : atI xs 0 = xs[0]? := at_nat xs 0
theorem at_1 {α : Type} {xs : List α} : atI xs 1 = xs[1]? := at_nat xs 1
theorem at_2 {α : Type} {xs : List α} : atI xs 2 = xs[2]? := at_nat xs 2
theorem at_3 {α : Type} {xs : List α} : atI xs 3 = xs[3]? := at_nat xs 3
theorem at_4 {α : Type} {xs : List α} : atI xs 4 = xs[4]? := at_nat xs 4
theorem at_5 {α : Type} {xs : List α} : atI xs 5 = xs[5]? := at_nat xs 5
theorem ixN_nat {n i : Nat} (h : i < n) : ixN n (i : Int) = some i := by
  unfold ixN
  rw [if_pos (by omega), if_pos (by omega)]; rfl
def hardG : Option (Option OD) → En → Nat → En
  | some (some (.lst xs)), os, i => os.set i (some (.sh (OD.lst xs).er))
  | some (some (.tpl xs)), os, i => os.set i (some (.sh (OD.tpl xs).er))
  | _, os, _ => os
def softG : Option (Option OD) → En → Nat → En
  | some (some o), os, i => cond o.flat os (os.set i (some (.sh o.er)))
  | _, os, _ => os
def cvG : Option (Option OD) → Option OD
  | some (some (.sh d)) => some (.sh d)
  | _ => none
def giveG : Option (Option OD) → En → Nat → Option (OD × En)
  | some (some (.sh d)), os, _ => some (.sh d, os)
  | some (some (.lst xs)), os, i => some (.lst xs, os.set i none)
  | some (some (.tpl xs)), os, i => some (.tpl xs, os.set i none)
  | _, _, _ => none
theorem g_hard : hard os (.al i) = hardG os[i]? os i := by
  show (match os[i]? with | some (some (.lst xs)) => os.set i (some (.sh (OD.lst xs).er)) | some (some (.tpl xs)) => os.set i (some (.sh (OD.tpl xs).er)) | _ => os) = _
  cases os[i]? with
  | none => rfl
  | some s =>
    cases s with
    | none => rfl
    | some o => cases o <;> rfl
theorem g_soft : soft os (.al i) = softG os[i]? os i := by
  show (match os[i]? with | some (some o) => if o.flat then os else os.set i (some (.sh o.er)) | _ => os) = _
  cases os[i]? with
  | none => rfl
  | some s =>
    cases s with
    | none => rfl
    | some o =>
      show (if o.flat = true then os else _) = cond o.flat _ _
      cases o.flat <;> rfl
theorem g_cv : cv os (.al i) = cvG os[i]? := by
  show (match os[i]? with | some (some (.sh d)) => some (OD.sh d) | _ => none) = _
  cases os[i]? with
  | none => rfl
  | some s =>
    cases s with
    | none => rfl
    | some o => cases o <;> rfl
theorem g_give : give os (.al i) = giveG os[i]? os i := by
  show (match os[i]? with | some (some (.sh d)) => some (OD.sh d, os) | some (some (.lst xs)) => some (OD.lst xs, os.set i none) | some (some (.tpl xs)) => some (OD.tpl xs, os.set i none) | _ => none) = _
  cases os[i]? with
  | none => rfl
  | some s =>
    cases s with
    | none => rfl
    | some o => cases o <;> rfl
theorem g_hardS : hardG (some (some (.sh d))) os i = os := rfl
theorem g_hardL : hardG (some (some (.lst xs))) os i = os.set i (some (.sh (.list (xs.map OD.er)))) := by
  show os.set i (some (.sh (OD.lst xs).er)) = _
  rw [show (OD.lst xs).er = PyData.list (OD.ers xs) from rfl, ers_map]
theorem g_softS : softG (some (some (.sh d))) os i = os := rfl
theorem g_softL : softG (some (some (.lst xs))) os i = cond (xs.all OD.isSh) os (os.set i (some (.sh (.list (xs.map OD.er))))) := by
  show cond (xs.all OD.isSh) os (os.set i (some (.sh (OD.lst xs).er))) = _
  rw [show (OD.lst xs).er = PyData.list (OD.ers xs) from rfl, ers_map]
theorem g_hardTp : hardG (some (some (.tpl xs))) os i = os.set i (some (.sh (.tuple (xs.map OD.er)))) := by
  show os.set i (some (.sh (OD.tpl xs).er)) = _
  rw [show (OD.tpl xs).er = PyData.tuple (OD.ers xs) from rfl, ers_map]
theorem g_softTp : softG (some (some (.tpl xs))) os i = os.set i (some (.sh (.tuple (xs.map OD.er)))) := by
  show os.set i (some (.sh (OD.tpl xs).er)) = _
  rw [show (OD.tpl xs).er = PyData.tuple (OD.ers xs) from rfl, ers_map]
theorem g_giveTp : giveG (some (some (.tpl xs))) os i = some (.tpl xs, os.set i none) := rfl
theorem g_cvS : cvG (some (some (.sh d))) = some (.sh d) := rfl
theorem g_giveS : giveG (some (some (.sh d))) os i = some (.sh d, os) := rfl
theorem g_giveL : giveG (some (some (.lst xs))) os i = some (.lst xs, os.set i none) := rfl
theorem g_allSh {ds : List PyData} : (ds.map OD.sh).all OD.isSh = true := by
  rw [List.all_map]; exact List.all_eq_true.mpr fun _ _ => rfl
theorem g_erSh {ds : List PyData} : (ds.map OD.sh).map OD.er = ds := by
  rw [List.map_map]
  exact (List.map_congr_left fun _ _ => rfl).trans (List.map_id ds)
def memB (c : Nat) (l : List Nat) : Bool := decide (c ∈ l)
theorem o_in1S {c : Nat} : opIn false [.str (S [c]), .str y] = some (.val (.bool (memB c y.cps.toList))) := rfl
theorem o_ni1S {c : Nat} : opIn true [.str (S [c]), .str y] = some (.val (.bool (!memB c y.cps.toList))) := rfl
theorem o_ixSS {l : List Nat} : opIx [.str (S l), .int a] = (atI l a).bind fun c => some (.val (.str (S [c]))) := o_ixS
theorem o_allM {α : Type} {f : List Bool → Bool} {g : α → Bool} {ys : List α} : opAll f [.list ((ys.map fun x => OD.sh (.bool (g x))).map OD.er)] = some (.val (.bool (f (ys.map g)))) := by
  rw [List.map_map, show ys.map (OD.er ∘ fun x => OD.sh (.bool (g x))) = (ys.map g).map PyData.bool by rw [List.map_map]; rfl, o_all]
def escs : List PyData → EvEs
  | [] => esNil
  | d :: ds => esCons (eC d) (escs ds)
def tms (ds : List PyData) : List RV := ds.map fun d => .tm (.sh d)
theorem b_escs : ∀ {ds : List PyData}, escs ds os = some (tms ds, os)
  | [] => rfl
  | d :: ds => by
    show esCons (eC d) (escs ds) os = _
    rw [b_esCons, b_eC, Option.bind_some, b_escs]; rfl
theorem b_rdTms : ∀ {ds : List PyData}, rdAll os (tms ds) = some ds
  | [] => rfl
  | d :: ds => by
    show rdAll os (.tm (.sh d) :: tms ds) = _
    rw [b_rdCons, b_rdTms]; rfl
theorem b_hardTms : ∀ {ds : List PyData}, hardAll os (tms ds) = os
  | [] => rfl
  | d :: ds => by
    show hardAll (hard os (.tm (.sh d))) (tms ds) = _
    exact b_hardTms
theorem b_softTms : ∀ {ds : List PyData}, softAll os (tms ds) = os
  | [] => rfl
  | d :: ds => by
    show softAll (soft os (.tm (.sh d))) (tms ds) = _
    exact b_softTms
end
end DX
/-! DXText: split and partition at one sign; cuts. -/
namespace DX
open PySem PySem.Spec PyProof.Rows L2
def splitS (c : Nat) : List Nat → List (List Nat)
  | [] => [[]]
  | x :: r => if x = c then [] :: splitS c r else match splitS c r with
    | h :: t => (x :: h) :: t
    | [] => [[x]]
theorem splitS_ne (c : Nat) (l : List Nat) : splitS c l ≠ [] := by
  cases l with
  | nil => intro h; cases h
  | cons x r =>
    unfold splitS
    split
    · intro h; cases h
    · split <;> (intro h; cases h)
def befS (c : Nat) (l : List Nat) : List Nat := l.takeWhile fun x => x != c
theorem splitS_head (c : Nat) : ∀ l, (splitS c l).head? = some (befS c l)
  | [] => rfl
  | x :: r => by
    unfold splitS befS
    rw [List.takeWhile_cons]
    by_cases h : x = c
    · rw [if_pos h]; simp [h]
    · rw [if_neg h]
      have ih := splitS_head c r
      cases e : splitS c r with
      | nil => exact absurd e (splitS_ne c r)
      | cons a t =>
        rw [e] at ih
        have : a = befS c r := Option.some.inj ih
        subst this
        simp [h, befS]
theorem spl_S (c : Nat) : ∀ (l acc : List Nat), TL.spl [c] 0 acc l = match splitS c l with
    | h :: t => (acc ++ h) :: t
    | [] => []
  | [], acc => by simp [TL.spl, splitS]
  | x :: r, acc => by
    show (if TL.pre [c] (x :: r) = true then acc :: TL.spl [c] 0 [] r else TL.spl [c] 0 (acc ++ [x]) r) = _
    have hp : TL.pre [c] (x :: r) = decide (x = c) := by
      show ([x] == [c]) = _
      rw [Bool.eq_iff_iff]; simp
    rw [hp]
    unfold splitS
    by_cases h : x = c
    · rw [if_pos (decide_eq_true h), if_pos h, spl_S c r []]
      cases e : splitS c r with
      | nil => exact absurd e (splitS_ne c r)
      | cons a t => simp
    · rw [if_neg (by simpa using h), if_neg h, spl_S c r (acc ++ [x])]
      cases e : splitS c r with
      | nil => exact absurd e (splitS_ne c r)
      | cons a t => simp
theorem split_S (c : Nat) (hc : c < 256) (l : List Nat) : Txt.split (S l) (S [c]) = (splitS c l).map S := by
  refine TL.map_tl_inj ?_
  rw [TL.split_spl (S l) (S [c]) (by simp [TL.tl, S_l]) (TL.kind_ok (by show (#[c].all (· < 256)) = true; simp [hc]))]
  show TL.spl [c] 0 [] l = _
  rw [spl_S, List.map_map]
  have : ∀ ls : List (List Nat), ls.map (TL.tl ∘ S) = ls := fun ls => (List.map_congr_left fun _ _ => rfl).trans (List.map_id ls)
  rw [this]
  cases e : splitS c l with
  | nil => exact absurd e (splitS_ne c l)
  | cons a t => simp
theorem befS_mem {c : Nat} : ∀ {l : List Nat}, c ∉ befS c l
  | [] => by simp [befS]
  | x :: r => by
    unfold befS
    rw [List.takeWhile_cons]
    by_cases h : x = c
    · simp [h]
    · have := befS_mem (c := c) (l := r)
      unfold befS at this
      simp [h, this]
      exact fun q => h q.symm
theorem befS_all {c : Nat} : ∀ {l : List Nat}, c ∉ l → befS c l = l
  | [], _ => rfl
  | x :: r, h => by
    have ih := befS_all (c := c) (l := r) (fun q => h (List.mem_cons_of_mem _ q))
    have hx : (x != c) = true := by simp; intro q; exact h (by simp [q])
    unfold befS at ih ⊢
    rw [List.takeWhile_cons, hx, if_pos rfl, ih]
theorem part_S (c : Nat) (l : List Nat) : (Txt.partition (S l) (S [c])).1 = S (befS c l) ∧ (Txt.partition (S l) (S [c])).2.1.length ≤ 1 ∧ (Txt.partition (S l) (S [c])).2.2.length ≤ l.length := by
  by_cases h : c ∈ l
  · obtain ⟨t, ht⟩ : ∃ t, l = befS c l ++ c :: t := by
      have h1 := (List.takeWhile_append_dropWhile (p := fun x => x != c) (l := l)).symm
      cases e : l.dropWhile (fun x => x != c) with
      | nil =>
        rw [e, List.append_nil] at h1
        exact absurd (h1 ▸ h) befS_mem
      | cons y t =>
        have : (y != c) = false := by
          have := List.head?_dropWhile_not (fun x => x != c) l
          rw [e] at this
          simpa using this
        have : y = c := by simpa using this
        subst this
        exact ⟨t, by rw [e] at h1; exact h1⟩
    have e : S l = S (befS c l) ++ S [c] ++ S t := by
      rw [S_app, S_app, List.append_assoc]
      show S l = S (befS c l ++ c :: t)
      rw [← ht]
    have key := TL.partition_app (y := S [c]) (s := c) (S := []) rfl (a := S (befS c l)) (b := S t) befS_mem
    rw [← e] at key
    rw [key]
    refine ⟨rfl, Nat.le_refl 1, ?_⟩
    have hl : l.length = (befS c l ++ c :: t).length := by rw [← ht]
    simp only [List.length_append, List.length_cons] at hl
    show t.length ≤ l.length
    omega
  · have key := TL.partition_none (y := S [c]) (s := c) (S := []) rfl (a := S l) h
    rw [key]
    refine ⟨?_, Nat.zero_le 1, Nat.zero_le _⟩
    show S l = S (befS c l)
    rw [befS_all h]
theorem cut_nat (l : List Nat) {i j : Nat} (h : i ≤ j) : cutS (S l) (some (i : Int)) (some (j : Int)) = S ((l.drop i).take (j - i)) := by
  unfold cutS
  rw [HT.sIx_nat, HT.sIx_nat]
  show S ((l.drop (min i l.length)).take (min j l.length - min i l.length)) = _
  congr 1
  by_cases q : i ≤ l.length
  · rw [Nat.min_eq_left q]
    by_cases r : j ≤ l.length
    · rw [Nat.min_eq_left r]
    · rw [Nat.min_eq_right (by omega), List.take_of_length_le (by rw [List.length_drop]; omega), List.take_of_length_le (by rw [List.length_drop]; omega)]
  · rw [Nat.min_eq_right (by omega : l.length ≤ i), List.drop_of_length_le (Nat.le_refl _), List.drop_of_length_le (by omega)]
    simp
theorem cut_to (l : List Nat) (j : Nat) : cutS (S l) none (some (j : Int)) = S (l.take j) := by
  unfold cutS
  rw [HT.sIx_nat, HT.sIx_none]
  show S ((l.drop 0).take (min j l.length - 0)) = _
  rw [List.drop_zero, Nat.sub_zero]
  congr 1
  by_cases r : j ≤ l.length
  · rw [Nat.min_eq_left r]
  · rw [Nat.min_eq_right (by omega), List.take_of_length_le (Nat.le_refl _), List.take_of_length_le (by omega)]
theorem cut_from (l : List Nat) (i : Nat) : cutS (S l) (some (i : Int)) none = S (l.drop i) := by
  unfold cutS
  rw [HT.sIx_nat, HT.sIx_none]
  show S ((l.drop (min i l.length)).take (l.length - min i l.length)) = _
  congr 1
  by_cases r : i ≤ l.length
  · rw [Nat.min_eq_left r, List.take_of_length_le (by rw [List.length_drop]; exact Nat.le_refl _)]
  · rw [Nat.min_eq_right (by omega), List.drop_of_length_le (Nat.le_refl _), List.drop_of_length_le (by omega)]
    simp
theorem befS_len (c : Nat) : ∀ (l : List Nat), (befS c l).length ≤ l.length
  | [] => Nat.le_refl _
  | x :: r => by
    have ih := befS_len c r
    unfold befS at ih ⊢
    rw [List.takeWhile_cons]
    split
    · simp only [List.length_cons]; omega
    · exact Nat.zero_le _
theorem splitS_len (c : Nat) : ∀ l, (splitS c l).length ≤ l.length + 1
  | [] => Nat.le_refl _
  | x :: r => by
    have ih := splitS_len c r
    unfold splitS
    split
    · simp only [List.length_cons]; omega
    · split
      · rename_i h t e
        rw [e] at ih
        simp only [List.length_cons] at ih ⊢; omega
      · simp
theorem splitS_each (c : Nat) : ∀ (l p : List Nat), p ∈ splitS c l → p.length ≤ l.length
  | [], p, h => by
    simp [splitS] at h; subst h; exact Nat.le_refl _
  | x :: r, p, h => by
    have ih := splitS_each c r
    unfold splitS at h
    split at h
    · rcases List.mem_cons.mp h with q | q
      · subst q; exact Nat.zero_le _
      · have := ih p q; simp only [List.length_cons]; omega
    · split at h
      · rename_i a t e
        rcases List.mem_cons.mp h with q | q
        · subst q
          have := ih a (by rw [e]; exact List.mem_cons_self)
          simp only [List.length_cons]; omega
        · have := ih p (by rw [e]; exact List.mem_cons_of_mem _ q)
          simp only [List.length_cons]; omega
      · simp at h; subst h; simp
theorem S_beq (l m : List Nat) : (S l == S m) = decide (l = m) := by
  rw [Bool.eq_iff_iff, beq_iff_eq, decide_eq_true_eq]
  exact ⟨S_inj, fun h => by rw [h]⟩
theorem o_eqS {l m : List Nat} : opEq [.str (S l), .str (S m)] = some (.val (.bool (decide (l = m)))) := by
  rw [← S_beq]; rfl
theorem o_neS {l m : List Nat} : opNe [.str (S l), .str (S m)] = some (.val (.bool (!decide (l = m)))) := by
  rw [← S_beq]; rfl
theorem I_beq (a b : Int) : (a == b) = decide (a = b) := by
  rw [Bool.eq_iff_iff, beq_iff_eq, decide_eq_true_eq]
theorem o_eqI {a b : Int} : opEq [.int a, .int b] = some (.val (.bool (decide (a = b)))) := by
  rw [o_eq rfl rfl, ← I_beq]; rfl
theorem o_neI {a b : Int} : opNe [.int a, .int b] = some (.val (.bool (!decide (a = b)))) := by
  rw [o_ne rfl rfl, ← I_beq]; rfl
theorem z_ble0 : Nat.ble 0 sizeLine = true := by decide
theorem z_ble1 : Nat.ble 1 sizeLine = true := by decide
theorem z_ble2 : Nat.ble 2 sizeLine = true := by decide
theorem z_ble3 : Nat.ble 3 sizeLine = true := by decide
theorem z_ble4 : Nat.ble 4 sizeLine = true := by decide
theorem z_ble5 : Nat.ble 5 sizeLine = true := by decide
theorem z_ble6 : Nat.ble 6 sizeLine = true := by decide
theorem z_ble7 : Nat.ble 7 sizeLine = true := by decide
theorem z_ble8 : Nat.ble 8 sizeLine = true := by decide
theorem z_ble9 : Nat.ble 9 sizeLine = true := by decide
theorem z_ble10 : Nat.ble 10 sizeLine = true := by decide
theorem z_ble11 : Nat.ble 11 sizeLine = true := by decide
theorem z_ble12 : Nat.ble 12 sizeLine = true := by decide
theorem z_ble13 : Nat.ble 13 sizeLine = true := by decide
theorem z_ble14 : Nat.ble 14 sizeLine = true := by decide
theorem z_ble15 : Nat.ble 15 sizeLine = true := by decide
theorem z_ble16 : Nat.ble 16 sizeLine = true := by decide
theorem z_ble17 : Nat.ble 17 sizeLine = true := by decide
theorem z_ble18 : Nat.ble 18 sizeLine = true := by decide
theorem z_ble19 : Nat.ble 19 sizeLine = true := by decide
theorem z_ble20 : Nat.ble 20 sizeLine = true := by decide
theorem o_partS {c : Nat} {l : List Nat} (h : l.length ≤ strMax) : opPartition [.str (S l), .str (S [c])] = some (.nt [.str (S (befS c l)), .str (Txt.partition (S l) (S [c])).2.1, .str (Txt.partition (S l) (S [c])).2.2]) := by
  obtain ⟨p1, p2, p3⟩ := part_S c l
  have hb := befS_len c l
  have h1 : 1 ≤ strMax := by decide
  have e4 : decide (((S [c]).length == 0) = false ∧ (Txt.partition (S l) (S [c])).1.length ≤ strMax ∧ (Txt.partition (S l) (S [c])).2.1.length ≤ strMax ∧ (Txt.partition (S l) (S [c])).2.2.length ≤ strMax) = true :=
    decide_eq_true ⟨rfl, by rw [p1, S_len]; omega, by omega, by omega⟩
  rw [o_partition, e4, cond_true, p1]
theorem o_splitS {c : Nat} {l : List Nat} (hc : c < 256) (h : l.length ≤ strMax) : opSplit [.str (S l), .str (S [c])] = some (.nl ((splitS c l).map fun x => .str (S x))) := by
  have e : (splitS c l).map (PyData.str ∘ S) = (splitS c l).map fun x => .str (S x) := rfl
  have e4 : decide (((S [c]).length == 0) = false ∧ ((splitS c l).map S).all (fun y => decide (y.length ≤ strMax)) = true) = true := by
    refine decide_eq_true ⟨rfl, ?_⟩
    rw [List.all_map, List.all_eq_true]
    intro p hp
    have := splitS_each c l p hp
    exact decide_eq_true (by show p.length ≤ strMax; omega)
  rw [o_split, split_S c hc, e4, cond_true, List.map_map, e]
theorem layAll : ∀ ds : List PyData, PyData.canLayAll0 ds = ds.all PyData.canLay0
  | [] => rfl
  | d :: ds => by rw [List.all_cons, ← layAll ds]; rfl
theorem depthAll_le {n : Nat} : ∀ ds : List PyData, (∀ d ∈ ds, PyData.depth d ≤ n) → PyData.depthAll ds ≤ n
  | [], _ => Nat.zero_le _
  | d :: ds, h => by
    show max (PyData.depth d) (PyData.depthAll ds) ≤ n
    have h1 := h d List.mem_cons_self
    have h2 := depthAll_le ds fun e m => h e (List.mem_cons_of_mem _ m)
    omega
theorem shaped_list {ds : List PyData} (h : ∀ d ∈ ds, d.canLay0 = true ∧ d.depth ≤ 60) : SeqAt.shaped (.list ds) = true := by
  refine Bool.and_eq_true_iff.mpr ⟨?_, decide_eq_true ?_⟩
  · show PyData.canLayAll0 ds = true
    rw [layAll, List.all_eq_true]; exact fun d m => (h d m).1
  · show PyData.depthAll ds + 1 ≤ 64
    have := depthAll_le ds fun d m => (h d m).2
    omega
theorem shaped_tup {ds : List PyData} (h : ∀ d ∈ ds, d.canLay0 = true ∧ d.depth ≤ 60) : SeqAt.shaped (.tuple ds) = true := by
  refine Bool.and_eq_true_iff.mpr ⟨?_, decide_eq_true ?_⟩
  · show PyData.canLayAll0 ds = true
    rw [layAll, List.all_eq_true]; exact fun d m => (h d m).1
  · show PyData.depthAll ds + 1 ≤ 64
    have := depthAll_le ds fun d m => (h d m).2
    omega
def ascii (l : List Nat) : Bool := l.all fun c => Nat.blt c 128
theorem ascii_ok {l : List Nat} (h : ascii l = true) : PyData.canLay0 (.str (S l)) = true := by
  show PyData.strOk (S l) = true
  show ((l.toArray).all fun c => decide (c < 0x110000)) = true
  rw [List.all_toArray, List.all_eq_true]
  intro c m
  have : c < 128 := Nat.le_of_ble_eq_true (List.all_eq_true.mp h c m)
  exact decide_eq_true (by omega)
theorem ascii_mem {l : List Nat} (h : ascii l = true) {c : Nat} (m : c ∈ l) : c < 128 := Nat.le_of_ble_eq_true (List.all_eq_true.mp h c m)
theorem ascii_of {l : List Nat} (h : ∀ c ∈ l, c < 128) : ascii l = true := List.all_eq_true.mpr fun c m => Nat.ble_eq_true_of_le (h c m)
theorem ascii_app {l m : List Nat} (h1 : ascii l = true) (h2 : ascii m = true) : ascii (l ++ m) = true := by
  unfold ascii at *; rw [List.all_append, h1, h2]; rfl
theorem ascii_sub {l m : List Nat} (h1 : ascii l = true) (h2 : ∀ c ∈ m, c ∈ l) : ascii m = true := ascii_of fun c q => ascii_mem h1 (h2 c q)
theorem k_enS {l : List Nat} : ((list? (.str (S l))).or ((some (S l)).map signs)) = some (l.map sgD) := rfl
theorem k_enL {ds : List PyData} : ((list? (.list ds)).or ((str? (.list ds)).map signs)) = some ds := rfl
theorem atI_last {α : Type} {xs : List α} {a : α} (h : xs.getLast? = some a) : atI xs (-1) = some a := by
  have h0 : 0 < xs.length := by
    cases xs with
    | nil => cases h
    | cons _ _ => simp
  unfold atI ixN
  rw [if_neg (by omega), if_pos (by omega), Option.bind_some, show ((-1 : Int) + (xs.length : Nat)).toNat = xs.length - 1 by omega, ← List.getLast?_eq_getElem?]
  exact h
theorem ixN_last {n : Nat} (h : 0 < n) : ixN n (-1) = some (n - 1) := by
  unfold ixN
  rw [if_neg (by omega), if_pos (by omega), show ((-1 : Int) + (n : Nat)).toNat = n - 1 by omega]
theorem at_m1 {α : Type} {xs : List α} : atI xs (-1) = xs.getLast? := by
  cases h : xs.getLast? with
  | some a => exact atI_last h
  | none => rw [List.getLast?_eq_none_iff.mp h]; rfl
theorem ix_0 {n : Nat} : ixN n 0 = cond (Nat.blt 0 n) (some 0) none := by
  cases n with
  | zero => rfl
  | succ n => exact ixN_nat (i := 0) (Nat.succ_pos n)
theorem ix_1 {n : Nat} : ixN n 1 = cond (Nat.blt 1 n) (some 1) none := by
  by_cases h : 1 < n
  · rw [show Nat.blt 1 n = true from Nat.ble_eq_true_of_le h]; exact ixN_nat (i := 1) h
  · rw [show Nat.blt 1 n = false from Bool.eq_false_iff.mpr fun z => h (Nat.le_of_ble_eq_true z)]
    unfold ixN
    rw [if_pos (by decide), if_neg (by omega)]; rfl
theorem ix_m1 {n : Nat} : ixN n (-1) = cond (Nat.blt 0 n) (some (n - 1)) none := by
  cases n with
  | zero => rfl
  | succ n => exact ixN_last (Nat.succ_pos n)
theorem blt_00 : Nat.blt 0 0 = false := rfl
theorem blt_0s {n : Nat} : Nat.blt 0 (n + 1) = true := by show Nat.ble 1 (n + 1) = true; exact Nat.ble_eq_true_of_le (by omega)
theorem blt_12 : Nat.blt 1 2 = true := rfl
theorem blt_02 : Nat.blt 0 2 = true := rfl
theorem set_last {α : Type} {xs : List α} {a : α} (h : xs ≠ []) : xs.set (xs.length - 1) a = xs.dropLast ++ [a] := by
  conv => lhs; rw [← List.dropLast_concat_getLast h]
  rw [List.set_append_right _ _ (by simp)]
  simp
end DX
/-! DXRepr: data that repr shows within bounds. -/
namespace DX
open PySem PySem.Spec PyProof.Rows L2
mutual
def smB : PyData → Bool
  | .none | .bool _ => true
  | .int i => Nat.blt i.natAbs 1000000000000
  | .str x => PyData.strOk x
  | .list xs | .tuple xs => smAll xs
  | .dict _ => false
def smAll : List PyData → Bool
  | [] => true
  | x :: xs => smB x && smAll xs
end
theorem smAll_all : ∀ ds : List PyData, smAll ds = ds.all smB
  | [] => by rw [smAll]; rfl
  | d :: ds => by rw [List.all_cons, ← smAll_all ds, smAll]
mutual
theorem sm_lay : ∀ d : PyData, smB d = true → d.canLay0 = true
  | .none, _ => rfl
  | .bool _, _ => rfl
  | .int _, _ => rfl
  | .str x, h => by rw [smB] at h; rw [PyData.canLay0]; exact h
  | .list xs, h => by rw [smB] at h; rw [PyData.canLay0]; exact sm_layAll xs h
  | .tuple xs, h => by rw [smB] at h; rw [PyData.canLay0]; exact sm_layAll xs h
  | .dict _, h => by rw [smB] at h; cases h
theorem sm_layAll : ∀ ds : List PyData, smAll ds = true → PyData.canLayAll0 ds = true
  | [], _ => by rw [PyData.canLayAll0]
  | d :: ds, h => by
    rw [smAll, Bool.and_eq_true] at h
    rw [PyData.canLayAll0, sm_lay d h.1, sm_layAll ds h.2]; rfl
end
mutual
theorem sm_show : ∀ d : PyData, smB d = true → d.showable = true
  | .none, _ => rfl
  | .bool _, _ => rfl
  | .int i, h => by
    rw [smB] at h
    have h : i.natAbs < 1000000000000 := Nat.le_of_ble_eq_true h
    rw [PyData.showable]
    refine decide_eq_true ?_
    by_cases q : i.natAbs = 0
    · rw [q]; decide
    · have := (Nat.log2_lt q (k := 40)).mpr (by omega); omega
  | .str x, h => rfl
  | .list xs, h => by rw [smB] at h; rw [PyData.showable]; exact sm_showAll xs h
  | .tuple xs, h => by rw [smB] at h; rw [PyData.showable]; exact sm_showAll xs h
  | .dict _, h => by rw [smB] at h; cases h
theorem sm_showAll : ∀ ds : List PyData, smAll ds = true → PyData.showableAll ds = true
  | [], _ => by rw [PyData.showableAll]
  | d :: ds, h => by
    rw [smAll, Bool.and_eq_true] at h
    rw [PyData.showableAll, sm_show d h.1, sm_showAll ds h.2]; rfl
end
theorem short_int {i : Int} (h : i.natAbs < 1000000000000) : PyData.intsShort 13 (.int i) = true := by
  rw [PyData.intsShort]
  exact decide_eq_true (PyData.shown_int_le2 (by omega) (by omega))
mutual
theorem sm_short : ∀ d : PyData, smB d = true → d.intsShort 13 = true
  | .none, _ => rfl
  | .bool _, _ => rfl
  | .int i, h => short_int (by rw [smB] at h; exact Nat.le_of_ble_eq_true h)
  | .str x, h => rfl
  | .list xs, h => by rw [smB] at h; rw [PyData.intsShort]; exact sm_shortAll xs h
  | .tuple xs, h => by rw [smB] at h; rw [PyData.intsShort]; exact sm_shortAll xs h
  | .dict _, h => by rw [smB] at h; cases h
theorem sm_shortAll : ∀ ds : List PyData, smAll ds = true → PyData.intsShortAll 13 ds = true
  | [], _ => by rw [PyData.intsShortAll]
  | d :: ds, h => by
    rw [smAll, Bool.and_eq_true] at h
    rw [PyData.intsShortAll, sm_short d h.1, sm_shortAll ds h.2]; rfl
end
theorem o_reprS {d : PyData} (h : smB d = true) (hd : d.depth ≤ 64) (hw : d.weight ≤ 1048576) : opRepr [d] = some (.val (.str d.shown)) := by
  have hl := sm_lay d h
  refine o_repr ?_
  rw [sm_show d h, PyData.hasDict_of_canLay d hl, decide_eq_true hd]
  refine decide_eq_true (Nat.le_trans (shown_le13 ?_ (sm_short d h)) (by decide))
  show (PyData.canLay0 d && decide (PyData.depth d ≤ 64) && decide (PyData.weight d ≤ 2 ^ 20)) = true
  rw [hl, decide_eq_true hd, decide_eq_true (show PyData.weight d ≤ 2 ^ 20 by omega)]; rfl
theorem sm_list {ds : List PyData} (h : ∀ d ∈ ds, smB d = true) : smB (.list ds) = true := by
  rw [smB, smAll_all, List.all_eq_true]; exact h
theorem sm_tup {ds : List PyData} (h : ∀ d ∈ ds, smB d = true) : smB (.tuple ds) = true := by
  rw [smB, smAll_all, List.all_eq_true]; exact h
theorem sm_str {l : List Nat} (h : ascii l = true) : smB (.str (S l)) = true := by
  rw [smB]; exact ascii_ok h
theorem sm_int {i : Int} (h : i.natAbs < 1000000000000) : smB (.int i) = true := by
  rw [smB]; exact Nat.ble_eq_true_of_le h
theorem wt_int {i : Int} {k : Nat} (h : i.natAbs < 2 ^ k) : PyData.weight (.int i) ≤ k := by
  rw [PyData.weight]
  split
  · exact Nat.zero_le _
  · rename_i q
    have q : i.natAbs ≠ 0 := fun z => q (by rw [Int.natAbs_eq_zero.mp z]; rfl)
    have := (Nat.log2_lt q).mpr h
    omega
theorem wt_str (l : List Nat) : PyData.weight (.str (S l)) = l.length := rfl
end DX
/-! DXErr: defs that raise errors of their own classes; try. -/
namespace DX
open PySem PySem.Spec PyProof.Rows L2

/-- an error: its class's number, its own fields (the last stored first) -/
abbrev Er := Nat × List (Str × PyData)
/-- the dict of an error: none where it has no fields -/
def PayOk (K : PySem.W.Frag) (G : Hp) (x : Er) (d : Option Addr) : Prop := (x.2 = [] ∧ d = none) ∨ (x.2 ≠ [] ∧ ∃ (a : Addr) (vs : List (Str × V)), d = some a ∧ G a = some (.xd vs) ∧ vs.map Prod.fst = x.2.map Prod.fst ∧ DxAll K G (vs.map Prod.snd) (x.2.map Prod.snd))
def KontSX (K : PySem.W.Frag) (R : List Nat) (σ : L2.St) (G H : Hp) (f : FP) (os' : En) (x : Er) (d : Option Addr) (σ' : L2.St) (H' : Hp) : Prop :=
  ∃ G' f', SI K G' H' σ' os' f' ∧ Stp G H f G' H' f' ∧ σ'.length = os'.length ∧ (∀ i ∈ R, σ'[i]? = σ[i]?) ∧ PayOk K G' x d
theorem KontSX.step {K : PySem.W.Frag} {R : List Nat} {σ σ1 : L2.St} {G H G1 H1 : Hp} {f f1 : FP} {os' : En} {x : Er} {d : Option Addr} {σ' : L2.St} {H' : Hp} (k : KontSX K R σ1 G1 H1 f1 os' x d σ' H') (s : Stp G H f G1 H1 f1) (q : ∀ i ∈ R, σ1[i]? = σ[i]?) : KontSX K R σ G H f os' x d σ' H' := by
  obtain ⟨G', f', J, s', l, r, p⟩ := k
  exact ⟨G', f', J, s.trans s', l, fun i hi => (r i hi).trans (q i hi), p⟩
def KontTX (K : PySem.W.Frag) (σ : L2.St) (G H : Hp) (f : FP) (os' : En) (x : Er) (d : Option Addr) (H' : Hp) : Prop :=
  ∃ G' f', SI K G' H' σ os' f' ∧ Stp G H f G' H' f' ∧ σ.length = os'.length ∧ PayOk K G' x d
/-- where it raises: what, the slots -/
abbrev EvX := En → Option (Er × En)
def XSR (K : PySem.W.Frag) (C : Nat → Addr) (R : List Nat) (W : WX) (xv : EvX) (ts : TS) : Prop := ∀ (σ : L2.St) (G H : Hp) (os : En) (f : FP) (x : Er) (os' : En) (D : Ends),
  σ.length = os.length → SI K G H σ os f → xv os = some (x, os') → (∀ σ' H' d, KontSX K R σ G H f os' x d σ' H' → W (.ref (C x.1)) d σ' H') → ts D σ H
def XER (K : PySem.W.Frag) (C : Nat → Addr) (W : WX) (xv : EvX) (te : TE) : Prop := ∀ (σ : L2.St) (G H : Hp) (os : En) (f : FP) (x : Er) (os' : En) (Q : VK),
  σ.length = os.length → SI K G H σ os f → xv os = some (x, os') → (∀ H' d, KontTX K σ G H f os' x d H' → W (.ref (C x.1)) d σ H') → te σ H Q
def SEX (X : Cx) (C : Nat → Addr) (W : WX) (ev : EvE) (xv : EvX) (e : Expr) : Prop := ∃ te, PE X e te ∧ ER X.K ev te ∧ XER X.K C W xv te
def SXS (X : Cx) (C : Nat → Addr) (R : List Nat) (W : WX) (ev : EvS) (xv : EvX) (st : Stmt) : Prop := ∃ ts, PS X st ts ∧ SR X.K R ev ts ∧ XSR X.K C R W xv ts
def SXSs (X : Cx) (C : Nat → Addr) (R : List Nat) (W : WX) (ev : EvS) (xv : EvX) (st : List Stmt) : Prop := ∃ ts, PSs X st ts ∧ SR X.K R ev ts ∧ XSR X.K C R W xv ts
def xNo : EvX := fun _ => none
def xSeq (ea : EvS) (xa xb : EvX) : EvX := fun os => (xa os).or (match ea os with
  | some (.nx os1) => xb os1
  | _ => none)
def xIf (t : EvT) (xa xb : EvX) : EvX := fun os => match t os with
  | some (true, os1) => xa os1
  | some (false, os1) => xb os1
  | none => none
def xRaise (c : Nat) : EvX := fun os => some ((c, []), os)
section
variable {K : PySem.W.Frag} {X : Cx} {C : Nat → Addr} {R : List Nat} {W : WX}
theorem xsr_no {ts : TS} : XSR K C R W xNo ts := fun _ _ _ _ _ _ _ _ _ _ e => nomatch e
theorem sx_of {st : Stmt} {ev : EvS} (h : SS X R ev st) : SXS X C R W ev xNo st := by
  obtain ⟨t, p, q⟩ := h
  exact ⟨t, p, q, xsr_no⟩
theorem xsr_seq {a : EvS} {xa xb : EvX} {ta tb : TS} (ha : SR K R a ta) (hx : XSR K C R W xa ta) (hb : XSR K C R W xb tb) : XSR K C R W (xSeq a xa xb) (tSeq ta tb) := fun σ G H os f x os' D hl I e k => by
  unfold xSeq at e
  cases e1 : xa os with
  | some p =>
    rw [e1] at e
    cases e
    exact hx σ G H os f x os' { D with nx := tb D } hl I e1 k
  | none =>
    rw [e1] at e
    simp only [Option.none_or] at e
    cases ea : a os with
    | none => rw [ea] at e; cases e
    | some r1 =>
      rw [ea] at e
      cases r1 with
      | nx os1 =>
        exact ha σ G H os f _ { D with nx := tb D } hl I ea fun σ1 H1 k1 => by
          obtain ⟨G1, f1, I1, s1, l1, q1⟩ := k1
          exact hb σ1 G1 H1 os1 f1 x os' D l1 I1 e fun σ' H' d kk => k σ' H' d (kk.step s1 q1)
      | rt _ _ => cases e
      | bk _ => cases e
      | ct _ => cases e
theorem sx_ofs {st : List Stmt} {ev : EvS} (h : SSs X R ev st) : SXSs X C R W ev xNo st := by
  obtain ⟨t, p, q⟩ := h
  exact ⟨t, p, q, xsr_no⟩
theorem sx_nil : SXSs X C R W sNext xNo [] := ⟨_, pss_nil, sr_next, xsr_no⟩
theorem sx_cons {st : Stmt} {rest : List Stmt} {a b : EvS} {xa xb : EvX} (h : SXS X C R W a xa st) (g : SXSs X C R W b xb rest) : SXSs X C R W (sSeq a b) (xSeq a xa xb) (st :: rest) := by
  obtain ⟨t, p, q, z⟩ := h
  obtain ⟨u, p', q', z'⟩ := g
  exact ⟨_, pss_cons p p', sr_seq q q', xsr_seq q z z'⟩
theorem sx_one {st : Stmt} {a : EvS} {xa : EvX} (h : SXS X C R W a xa st) : SXSs X C R W a xa [st] := by
  obtain ⟨t, p, q, z⟩ := h
  exact ⟨_, pss_one p, q, z⟩
theorem xsr_if {t : EvT} {xa xb : EvX} {tt : TT} {ta tb : TS} (h : TR K t tt) (ha : XSR K C R W xa ta) (hb : XSR K C R W xb tb) : XSR K C R W (xIf t xa xb) (tIfS tt ta tb) := fun σ G H os f x os' D hl I e k => by
  unfold xIf at e
  split at e
  · rename_i os1 e1
    refine h σ [] G H os [] f true os1 _ hl rfl (by simpa using I) e1 fun H1 k1 => ?_
    obtain ⟨G1, f1, I1, s1, l1⟩ := k1
    rw [if_pos rfl]
    exact ha σ G1 H1 os1 f1 x os' D l1 (by simpa using I1) e fun σ' H' d kk => k σ' H' d (kk.step s1 fun _ _ => rfl)
  · rename_i os1 e1
    refine h σ [] G H os [] f false os1 _ hl rfl (by simpa using I) e1 fun H1 k1 => ?_
    obtain ⟨G1, f1, I1, s1, l1⟩ := k1
    rw [if_neg Bool.false_ne_true]
    exact hb σ G1 H1 os1 f1 x os' D l1 (by simpa using I1) e fun σ' H' d kk => k σ' H' d (kk.step s1 fun _ _ => rfl)
  · cases e
theorem sx_if {c : Expr} {a b : List Stmt} {t : EvT} {ea eb : EvS} {xa xb : EvX} {pos : Pos} (h : STt X t c) (ha : SXSs X C R W ea xa a) (hb : SXSs X C R W eb xb b) : SXS X C R W (sIf t ea eb) (xIf t xa xb) (.If c a b pos) := by
  obtain ⟨tt, p, q⟩ := h
  obtain ⟨ta, p1, q1, z1⟩ := ha
  obtain ⟨tb, p2, q2, z2⟩ := hb
  exact ⟨_, ps_if p p1 p2, sr_if q q1 q2, xsr_if q z1 z2⟩
theorem xsr_e {xv : EvX} {te : TE} {ts : TS} (h : XER K C W xv te) (hts : ∀ D σ H, (∀ Q : VK, te σ H Q) → ts D σ H) : XSR K C R W xv ts := fun σ G H os f x os' D hl I e k =>
  hts D σ H fun Q => h σ G H os f x os' Q hl I e fun H' d kk => by
    obtain ⟨G1, f1, I1, s1, l1, p1⟩ := kk
    exact k σ H' d ⟨G1, f1, I1, s1, l1, fun _ _ => rfl, p1⟩
theorem sx_ret {e : Expr} {ev : EvE} {xv : EvX} {pos : Pos} (h : SEX X C W ev xv e) : SXS X C R W (sRet ev) xv (.Return (some e) pos) := by
  obtain ⟨te, p, q, z⟩ := h
  exact ⟨_, ps_ret p, sr_ret q, xsr_e z fun D σ H hq => hq _⟩
theorem sx_expr {e : Expr} {ev : EvE} {xv : EvX} {pos : Pos} (h : SEX X C W ev xv e) (hs : swapsWith e none pos.line X.env = pure false := by rfl) : SXS X C R W (sExpr ev) xv (.Expr e pos) := by
  obtain ⟨te, p, q, z⟩ := h
  obtain ⟨t1, p1, q1⟩ := ss_expr (R := R) (pos := pos) ⟨te, p, q⟩ hs
  refine ⟨_, ps_expr p hs, fun σ G H os f res D hl I e k => ?_, xsr_e z fun D σ H hq => hq _⟩
  unfold sExpr at e
  split at e
  · rename_i r os1 e1
    cases e
    refine q σ [] G H os [] f r os1 _ hl rfl (by simpa using I) e1 fun v H1 k1 => ?_
    obtain ⟨G1, f1, I1, s1, l1⟩ := k1.drop rfl
    exact k σ H1 ⟨G1, f1, by simpa using I1, s1, l1, fun _ _ => rfl⟩
  · cases e
theorem sx_asg (i : Nat) {x : Str} {e : Expr} {ev : EvE} {xv : EvX} {pos' pos : Pos} (hN : X.N.Nodup) (h : SEX X C W ev xv e) (hi : X.N[i]? = some x := by rfl) (hx : Loc X.env.scope x := by first | exact Or.inl rfl | exact Or.inr rfl)
    (hs : swapsWith e (some (.Name x pos')) pos.line X.env = pure false := by rfl) (hf : X.fn x = true ∨ X.env.scope.names.lookup x = some .local := by first | exact .inl rfl | exact .inr rfl | assumption) : SXS X C R W (sAsg R i ev) xv (.Assign [.Name x pos'] e pos) := by
  obtain ⟨te, p, q, z⟩ := h
  exact ⟨_, ps_set hN hi hx p hs hf, sr_asg q, xsr_e z fun D σ H hq => hq _⟩

/-! ### raise -/
/-- what stands of a class of errors -/
structure ErrC (K : PySem.W.Frag) (mg : Str → Option Value) (x : Str) (a : Addr) (bmB : List Value) (newId : String) : Prop where
  g : mg x = some (.ref a)
  ex : PySem.W.excIn K a bmB newId = true
  kp : PySem.W.keepIn K (.ref a) = true
  sb : PySem.W.subIn K (.ref a) (.type "BaseException") = some true
  ty : PySem.W.typeIn K (.ref a) = some (.type "type")
theorem pmk_own0 {x : Str} {a : Addr} {bmB : List Value} {B newId initId : String} {p pos : Pos} (F : ExcBaseFacts B newId initId bmB) (T : ErrC X.K X.mg x a bmB newId) (hg : Gl X x)
    (hdb : (x == ("__debug__" : Str)) = false := by decide) : PMk X (.Call (.Name x p) [] [] pos) (fun _ H Q => Q (.ref a) none H) := by
  intro pins s σ H Q I h
  refine wpAny_Call_Name_kw (ld_glob I hg T.g ?_ hdb)
  refine PySem.W.callWith_K0 (first := []) I.kIn T.kp ?_
  show wpAny _ _ (call (.ref a) []) _ _ _
  obtain ⟨bm, N, nm, qn, bs, hdct, sn, sub, ab, col, dd, k0, k1, k2, k3, k5, mN, hC, hN, hni, OT⟩ := exc_obj I.kIn T.ex
  refine wpAny_call_exc_subT F OT hC hN hni (fun h' e hm => ?_) (by show 0 ≤ sizeLine; rw [sizeLine_eq]; omega)
  exact mk_of I hm (raises_own T.sb T.ty) h (I.hok.gone hm.new)
theorem sx_raise0 (c : Nat) {x : Str} {bmB : List Value} {B newId initId : String} {p pos pos' : Pos} (hc : X.calm = true) (tk : Takes X W) (F : ExcBaseFacts B newId initId bmB) (T : ErrC X.K X.mg x (C c) bmB newId) (hg : Gl X x := by rfl)
    (hdb : (x == ("__debug__" : Str)) = false := by decide) : SXS X C R W (fun _ => none) (xRaise c) (.Raise (some (.Call (.Name x p) [] [] pos)) none pos') :=
  ⟨_, ps_raise hc tk (pmk_own0 F T hg hdb), (by intro σ G H os f res D hl I e k; cases e), by
    intro σ G H os f x' os' D hl I e k
    cases e
    exact k σ H none ⟨G, f, I, Stp.refl _ _ _, hl, fun _ _ => rfl, .inl ⟨rfl, rfl⟩⟩⟩

/-! ### defs that may raise -/
structure FnX (P : Program) (w : World) (K : PySem.W.Frag) (mg : Str → Option Value) (base : Heap) (k : Nat) (f : Addr) (fd : FuncData) (ps : List Str) (sp : Sp) : Prop where
  len : ∀ vs H Q E, sp vs H Q E → vs.length = ps.length
  run : ∀ (A : Around) (outer : List Env) (s : Shared) (H : Hp) (args : Args) (us : List Value) (vs : List V) (Q : VK) (E : XK), A.guards = some [] → Room k A → Env0 P w K mg base A outer s H →
    BindsTo s fd args (ps.zip us) → Vals vs us → sp vs H Q E → codeAny (model P w) A (.call (.ref f) args) (CR (L2.CX P w) outer P w H s Q E) s
theorem FnX.mono {P : Program} {w : World} {K : PySem.W.Frag} {mg : Str → Option Value} {base : Heap} {j k : Nat} {f : Addr} {fd : FuncData} {ps : List Str} {sp : Sp} (F : FnX P w K mg base j f fd ps sp) (h : j ≤ k) : FnX P w K mg base k f fd ps sp :=
  ⟨F.len, fun A outer s H args us vs Q E hg hr => F.run A outer s H args us vs Q E hg (hr.mono h)⟩
/-- m: of the arguments the answer, or the class's number of what is raised -/
def spX (K : PySem.W.Frag) (C : Nat → Addr) (m : List OD → Option (OD ⊕ Er)) (n : Nat) : Sp := fun vs H Q E => ∃ G f os r, SI K G H (vs.map some) (os.map some) f ∧ vs.length = n ∧ m os = some r ∧ match r with
  | .inl o => ∀ v H' G' f', SI K G' H' [some v] [some o] f' → Stp G H f G' H' f' → Q v H'
  | .inr x => ∀ H' G' f' d, SI K G' H' [] [] f' → Stp G H f G' H' f' → PayOk K G' x d → E (.ref (C x.1)) d H'
def inL (m : List OD → Option (OD ⊕ Er)) : List OD → Option OD := fun os => match m os with
  | some (.inl o) => some o
  | _ => none
def inR' (m : List OD → Option (OD ⊕ Er)) : List OD → Option Er := fun os => match m os with
  | some (.inr x) => some x
  | _ => none
theorem inL_some {m : List OD → Option (OD ⊕ Er)} {os : List OD} {o : OD} (h : inL m os = some o) : m os = some (.inl o) := by
  unfold inL at h
  split at h
  · rename_i o' e; cases h; exact e
  · cases h
theorem inR_some {m : List OD → Option (OD ⊕ Er)} {os : List OD} {x : Er} (h : inR' m os = some x) : m os = some (.inr x) := by
  unfold inR' at h
  split at h
  · rename_i o' e; cases h; exact e
  · cases h
/-- where it does not raise it is a def as any other -/
theorem FnX.calm {P : Program} {w : World} {mg : Str → Option Value} {base : Heap} {k n : Nat} {f : Addr} {fd : FuncData} {ps : List Str} {m : List OD → Option (OD ⊕ Er)} (F : FnX P w K mg base k f fd ps (spX K C m n)) : FnG P w K mg base k f fd ps (sp0 K (inL m) n) := by
  have cv : ∀ vs H Q E, sp0 K (inL m) n vs H Q E → spX K C m n vs H Q E0 := fun vs H Q E h => by
    obtain ⟨G, f, os, r, I, hl, e, kk⟩ := h
    exact ⟨G, f, os, .inl r, I, hl, inL_some e, kk⟩
  refine ⟨fun vs H Q E h => F.len vs H Q E0 (cv vs H Q E h), fun A outer s H args us vs Q hg hr e0 hb rv h => ?_⟩
  refine codeAny_mono (F.run A outer s H args us vs Q E0 hg hr e0 hb rv (cv _ _ _ _ h)) fun r s' hq => ?_
  cases r with
  | ok fl => cases fl <;> exact hq
  | error e =>
    obtain ⟨_, _, _, _, _, _, _, _, _, _, _, _, z⟩ := (show L2.CX P w outer H s E0 e s' from hq)
    exact z.elim
theorem ok_fnX {P : Program} {w : World} {mg : Str → Option Value} {base : Heap} {x qual : Str} {st : Stmt} {f : Addr} {fd : FuncData} {N ps : List Str} {k : Nat} (F : Fun K x qual st f fd) (S : FnScope N ps (defScope st)) {ev : Nat → EvS} {xv : Nat → EvX} {m : List OD → Option (OD ⊕ Er)}
    (hb : ∀ (n : Nat) (cdv : Value) (A : Around) (outer : List Env) (s : Shared) (H : Hp) (E : XK), (A.deeper (envOfC qual (defScope st) s.heap.objs.size f cdv)).guards = some [] → Room k (A.deeper (envOfC qual (defScope st) s.heap.objs.size f cdv)) →
      SXSs (cxOf (L2.CX P w) P w K mg base N qual (defScope st) f cdv A outer s H E) C [] (fun cls d _ H' => E cls d H') (ev n) (xv n) (defBody st))
    (hm : ∀ os r, os.length = ps.length → m os = some r → match r with
      | .inl o => ∃ n res, ev n (startE N os) = some res ∧ retOf res = some o
      | .inr x => ∃ n os', xv n (startE N os) = some (x, os')) : FnX P w K mg base (k + 1) f fd ps (spX K C m ps.length) := by
  have len : ∀ vs H Q E, spX K C m ps.length vs H Q E → vs.length = ps.length := fun vs H Q E h => by
    obtain ⟨G, g, os, r, _, hl, _⟩ := h
    exact hl
  obtain ⟨oc, od, kV, doc, pm, an, cdv, ct, osl, rfl, lk, hcd⟩ := F.ex
  refine ⟨len, fun A outer s H args us vs Q E hg hr e0 hbd r hsp => ?_⟩
  have hl := len _ _ _ _ hsp
  have KX : K.In s.heap := e0.mod.kin.keeps fun b o e => (e0.bs b o e).1
  have lim : s.heap.NoLimit := e0.mod.nolimit.keeps fun b o e => (e0.bs b o e).1
  have hkind : ∀ y ∈ ps.zip us, (defScope st).names.lookup y.1 = some .local ∨ ((defScope st).names.lookup y.1 = some .cell ∧ ((cellsFrom (s.heap.objs.size + 1) (defScope st).names []).lookup y.1).isSome = true) := fun ⟨n, v⟩ hy => by
    rcases S.par n (List.of_mem_zip hy).1 with q | q
    · exact .inl q
    · exact .inr ⟨q, PySem.W.cellsFrom_some _ _ _ (.inl q)⟩
  refine codeAny_call_function hr.depth (KX _ _ lk) rfl S.co S.gen rfl (PySem.W.codeRec_of KX hcd) (hbd _ _ _ _ ?_)
  refine wpAny_newFunctionEnv_cells S.kind hkind fun env he s1 x => ?_
  subst he
  refine ⟨lim.keeps x.toInCall.keep, codeAny_func ?_⟩
  obtain ⟨n0, hn0⟩ : ∃ n : Nat, (∃ t, PSs (cxOf (L2.CX P w) P w K mg base N qual (defScope st) f cdv A outer s H E) (defBody st) t ∧ t { nx := fun _ H' => Q .non H', rt := Q } (start N vs) H) := by
    obtain ⟨G, g, os, rr, I, hl2, em, kk⟩ := hsp
    have ho : os.length = ps.length := by
      have := I.sl.len
      simp at this; omega
    have I2 : SI K G H (start N vs) (startE N os) g := by
      have := I.nones (N.length - vs.length)
      unfold L2.start startE
      rw [ho, ← hl2]
      exact this
    have hmm := hm os rr ho em
    cases rr with
    | inl o =>
      obtain ⟨n, res, e1, e2⟩ := hmm
      obtain ⟨t, p, q, _⟩ := hb n cdv A outer s H E (guards_deeper hg) (hr.deeper _)
      refine ⟨n, t, p, q (start N vs) G H (startE N os) g res _ I2.sl.len I2 e1 ?_⟩
      cases res with
      | nx os' =>
        cases e2
        intro σ' H' ⟨G', f', J, s', _, _⟩
        refine kk .non H' G' (fun _ => 0) ⟨(SL.val (RO.sh .non) .nil).congr fun _ => rfl, J.sub, fun _ => Nat.zero_le _, fun _ z => absurd rfl z⟩ (s'.trans (Stp.less fun _ => Nat.zero_le _))
      | rt o os' =>
        cases e2
        intro v H' ⟨G', f', σ', J, s', l', _⟩
        obtain ⟨⟨f2, J2, le⟩, _⟩ := J.lastTwo l'
        exact kk v H' G' f2 J2 (s'.trans (Stp.less le))
      | bk _ => cases e2
      | ct _ => cases e2
    | inr x =>
      obtain ⟨n, os', e1⟩ := hmm
      obtain ⟨t, p, _, z⟩ := hb n cdv A outer s H E (guards_deeper hg) (hr.deeper _)
      refine ⟨n, t, p, z (start N vs) G H (startE N os) g x os' _ I2.sl.len I2 e1 fun σ' H' d kq => ?_⟩
      obtain ⟨G', f', J, s', _, _, pz⟩ := kq
      exact kk H' G' (fun _ => 0) d ⟨.nil, J.sub, fun _ => Nat.zero_le _, fun _ z => absurd rfl z⟩ (s'.trans (Stp.less fun _ => Nat.zero_le _)) pz
  obtain ⟨t, ht, hq⟩ := hn0
  have I : Inv (cxOf (L2.CX P w) P w K mg base N qual (defScope st) f cdv A outer s H E) [] (start N vs) H s1 := inv_start S hr.hd e0 hl r x
  refine wpAny_mono (ht.run [] s1 (start N vs) H _ I hq) (fun fl s' hs => ?_) fun e s' hs => hs
  cases fl with
  | ret u => obtain ⟨v, σ', H', J', r', q'⟩ := hs; exact ⟨v, H', J'.os, J'.bare, J'.base, J'.hok, r', q'⟩
  | next => obtain ⟨σ', H', J', q'⟩ := hs; exact ⟨V.non, H', J'.os, J'.bare, J'.base, J'.hok, rfl, q'⟩
  | brk => obtain ⟨_, _, _, q'⟩ := hs; exact q'.elim
  | cont => obtain ⟨_, _, _, q'⟩ := hs; exact q'.elim

/-! ### a call of such a def -/
def tCallX (sp : Sp) (E : L2.St → XK) (idx : List Nat) (n : Nat) (t : TA) : TE := fun σ H Q => t σ H fun vs H1 => vs.length = n ∧ sp (pk idx vs) H1 Q (E σ)
theorem run_gX {k : Nat} {f : Addr} {fd : FuncData} {ps : List Str} {sp : Sp} {pins : List (Addr × Obj)} {σ : L2.St} {H : Hp} {s : Shared} {Q : VK} {E : L2.St → XK} {args : Args} {us : List Value} {vs : List V}
    (F : FnX X.prog X.w X.K X.mg X.base k f fd ps sp) (hg : X.A.guards = some []) (hr : Room k X.A) (hb : BindsTo s fd args (ps.zip us)) (hx : PassesAt (L2.CX X.prog X.w) X σ (E σ)) (I : Inv X pins σ H s) (r : Vals vs us) (h : sp vs H Q (E σ)) :
    codeAny (model X.prog X.w) X.A (.call (.ref f) args) (fun r' s' => match r' with
      | .ok (.ret u) => EP X pins σ Q u s'
      | .ok _ => False
      | .error e => X.xe e s') s := by
  refine codeAny_mono (F.run X.A X.stack s H args us vs Q (E σ) hg hr I.env0 hb r h) (fun r' s' hq => ?_)
  cases r' with
  | error e => exact hx pins H s e s' I hq
  | ok fl =>
    cases fl with
    | ret u => exact I.after hq
    | next => exact hq
    | brk => exact hq
    | cont => exact hq
section
variable {k : Nat} {f : Addr} {fd : FuncData} {ps ks : List Str} {sp : Sp} {x : Str} {p pos : Pos} {e : Expr} {es : List Expr} {t : TA} {idx : List Nat} {E : L2.St → XK}
theorem pe_callX (F : FnX X.prog X.w X.K X.mg X.base k f fd ps sp) (hA : X.A.guards = some []) (hr : Room k X.A) (hm : X.mg x = some (.ref f)) (hk : PySem.W.keepIn X.K (.ref f) = true) (hb : Bd fd ps (e :: es).length (e :: es).length [] idx)
    (hx : ∀ σ, PassesAt (L2.CX X.prog X.w) X σ (E σ)) (ha : PA X (e :: es) t) (hg : Gl X x := by rfl) (hdb : (x == ("__debug__" : Str)) = false := by decide) (he : starEach (e :: es) X.env = (false, eval e X.env) :: starEach es X.env := by rfl) (hpl : (backTo pos (starEach es X.env)).any (·.1) = false := by rfl) :
    PE X (.Call (.Name x p) (e :: es) [] pos) (tCallX sp E idx (e :: es).length t) := by
  refine ⟨fun pins s σ H Q I h => ?_⟩
  refine wpAny_Call_Name_kw (ld_glob I hg hm ?_ hdb)
  refine PySem.W.callWith_K (h₀ := X.base) I.ok.mod.kin hk (thn (ha.run pos pins s σ H _ I h) fun us s1 ⟨vs, H1, I1, r, hn, q⟩ => ⟨I1.kIn, ?_⟩) he hpl
  have hn' : us.length = (e :: es).length := by rw [← r.length]; exact hn
  have b := hb s1 us hn'
  rw [List.take_of_length_le (by omega)] at b
  exact wpAny_call (run_gX F hA hr (by simpa using b) (hx σ) I1 (vals_pk r idx) q)
def xFn (m : List OD → Option (OD ⊕ Er)) (n : Nat) (idx : List Nat) (es : EvEs) : EvX := fun os => match es os with
  | some (rs, os1) => match rdAll os1 rs with
    | some ds => if rs.length = n ∧ (pk idx ds).length = n then match m ((pk idx ds).map OD.sh) with
      | some (.inr x) => some (x, hardAll os1 rs)
      | _ => none else none
    | none => none
  | none => none
theorem er_fnX {m : List OD → Option (OD ⊕ Er)} {n : Nat} {ev : EvEs} {ta : TA} (h : ERs K ev ta) : ER K (eFn0 (inL m) n idx ev) (tCallX (spX K C m n) E idx n ta) := fun σ τ G H os θ f r os' Q hl ht I e k => by
  unfold eFn0 at e
  split at e
  · rename_i rs os1 e1
    split at e
    · rename_i ds e2
      split at e
      · rename_i hn
        split at e
        · rename_i r1 e3
          refine h σ τ G H os θ f rs os1 _ hl ht I e1 fun vs H1 k1 => ?_
          obtain ⟨G1, f1, I1, s1, a1, l1⟩ := k1
          obtain ⟨G2, f2, I2, s2, hd⟩ := I1.popC l1 ht a1 e2
          obtain ⟨_, f3, I3, le3⟩ := I1.popA l1 ht a1 e2
          have hd' := dps_pk hd idx
          refine ⟨by rw [a1.len]; exact hn.1, G2, fun _ => 0, (pk idx ds).map OD.sh, .inl r1, ⟨SL.shs hd', I2.sub, fun _ => Nat.zero_le _, fun _ z => absurd rfl z⟩, by rw [dps_len hd']; exact hn.2, inL_some e3, fun v H' G' f' J s => ?_⟩
          split at e
          · rename_i c
            obtain ⟨d, rfl⟩ : ∃ d, r1 = .sh d := by
              cases r1 with
              | sh d => exact ⟨d, rfl⟩
              | lst _ => cases c.2
              | tpl _ => cases c.2
            cases e
            have sb : Sub H1 H' := fun a o q => s.keep a o q rfl
            have hv : Dx K H' v d := by
              obtain ⟨v', q1, q2⟩ := J.rd (i := 0) (o := .sh d) rfl
              cases q1; exact q2
            refine k v H' ((Kont.sh l1 (I3.grow sb) (dp_sc hv c.1)).step ?_)
            exact s1.trans ⟨Sub.refl _, fun a o q _ => sb a o q, fun a q => ne_of_sub sb q, fun a q => .inl q, fun a q => .inl (by have := le3 a; omega)⟩
          · cases e
            obtain ⟨f4, I4, e4, s4⟩ := I2.frame J s fun _ _ => rfl
            exact k v H' ⟨G', f4, by simpa [List.append_assoc, RV.od] using I4, (s1.trans s2).trans (s4 f2 fun x => by omega), .cons trivial .nil, by rw [len_hardAll]; exact l1⟩
        · cases e
      · cases e
    · cases e
  · cases e
theorem xer_fnX {m : List OD → Option (OD ⊕ Er)} {n : Nat} {ev : EvEs} {ta : TA} (h : ERs K ev ta) : XER K C W (xFn m n idx ev) (tCallX (spX K C m n) (WE W) idx n ta) := fun σ G H os f x os' Q hl I e k => by
  unfold xFn at e
  split at e
  · rename_i rs os1 e1
    split at e
    · rename_i ds e2
      split at e
      · rename_i hn
        split at e
        · rename_i x1 e3
          cases e
          refine h σ [] G H os [] f rs os1 _ hl rfl (by simpa using I) e1 fun vs H1 k1 => ?_
          obtain ⟨G1, f1, I1, s1, a1, l1⟩ := k1
          obtain ⟨G2, f2, I2, s2, hd⟩ := I1.popC l1 rfl a1 e2
          have hd' := dps_pk hd idx
          refine ⟨by rw [a1.len]; exact hn.1, G2, fun _ => 0, (pk idx ds).map OD.sh, .inr x, ⟨SL.shs hd', I2.sub, fun _ => Nat.zero_le _, fun _ z => absurd rfl z⟩, by rw [dps_len hd']; exact hn.2, e3, fun H' G' f' d J s pz => ?_⟩
          obtain ⟨f4, I4, e4, s4⟩ := I2.frame J s fun _ _ => rfl
          exact k H' d ⟨G', f4, by simpa using I4, (s1.trans s2).trans (s4 f2 fun x => by omega), by rw [len_hardAll]; exact l1, pz⟩
        · cases e
      · cases e
    · cases e
  · cases e
theorem sex_call {m : List OD → Option (OD ⊕ Er)} {n : Nat} {ev : EvEs} (tk : Takes X W) (F : FnX X.prog X.w X.K X.mg X.base k f fd ps (spX X.K C m n)) (hA : X.A.guards = some []) (hr : Room k X.A) (hm : X.mg x = some (.ref f)) (hk : PySem.W.keepIn X.K (.ref f) = true) (hb : Bd fd ps n n [] idx) (h : SEs X ev (e :: es))
    (hn : (e :: es).length = n := by rfl) (hg : Gl X x := by rfl) (hdb : (x == ("__debug__" : Str)) = false := by decide) (he : starEach (e :: es) X.env = (false, eval e X.env) :: starEach es X.env := by rfl) (hpl : (backTo pos (starEach es X.env)).any (·.1) = false := by rfl) :
    SEX X C W (eFn0 (inL m) n idx ev) (xFn m n idx ev) (.Call (.Name x p) (e :: es) [] pos) := by
  subst hn
  obtain ⟨ta, q1, q2⟩ := h
  exact ⟨_, pe_callX (E := WE W) F hA hr hm hk hb (fun σ => passAt tk σ) q1 hg hdb he hpl, er_fnX q2, xer_fnX q2⟩
end
end
end DX
namespace DX
open PySem PySem.Spec PyProof.Rows L2
/-! ### try: body, except c (as n): suite -/
/-- what an error's class answers to the class that a clause, or isinstance, names -/
def ErrsOk (K : PySem.W.Frag) (C : Nat → Addr) (nC : Nat) (sub : Nat → Nat → Bool) : Prop := ∀ i j, i < nC → j < nC → PySem.W.exmOne K (.ref (C i)) (.ref (C j)) = some (sub i j) ∧ PySem.W.kitOne K (.ref (C i)) (.ref (C j)) = some (sub i j)
/-- the error itself, as the suite's name holds it; p: where it and its dict lie -/
def excD (p : Nat × Nat) (x : Er) : PyData := match x.2 with
  | [] => .dict [(.int p.1, .int x.1)]
  | q :: fs => .dict [(.int p.1, .int x.1), (.int p.2, .tuple [.list ((q :: fs).map fun z => .str z.1), .list ((q :: fs).map Prod.snd)])]
/-- its dict -/
def dOf (p : Nat × Nat) (x : Er) : Option Addr := match x.2 with
  | [] => none
  | _ :: _ => some p.2
theorem pay_d {K : PySem.W.Frag} {G : Hp} {x : Er} {d : Option Addr} {a : Nat} (h : PayOk K G x d) : d = dOf (a, d.getD 0) x := by
  obtain ⟨e, fs⟩ := x
  rcases h with ⟨h1, rfl⟩ | ⟨h1, b, vs, rfl, _⟩
  · cases h1; rfl
  · cases fs with
    | nil => exact absurd rfl h1
    | cons _ _ => rfl
theorem excD_ok {K : PySem.W.Frag} {G : Hp} {x : Er} {d : Option Addr} {a : Addr} (h : PayOk K G x d) : Dx K G (.ref a) (excD (a, d.getD 0) x) := by
  obtain ⟨e, fs⟩ := x
  rcases h with ⟨h1, rfl⟩ | ⟨h1, b, vs, rfl, h2, h3, h4⟩
  · cases h1
    exact .exc a e
  · cases fs with
    | nil => exact absurd rfl h1
    | cons q fs =>
      have e3 : ((q :: fs).map fun z => PyData.str z.1) = vs.map fun z => PyData.str z.1 := by
        rw [show ((q :: fs).map fun z => PyData.str z.1) = ((q :: fs).map Prod.fst).map PyData.str by rw [List.map_map]; rfl, ← h3, List.map_map]; rfl
      show Dx K G (.ref a) (.dict [(.int a, .int e), (.int b, .tuple [.list ((q :: fs).map fun z => .str z.1), .list ((q :: fs).map Prod.snd)])])
      rw [e3]
      exact .exf h2 h4
open Classical in
noncomputable def suE (su : Er → Nat × Nat → EvS) (x : Er) : EvS := fun os => if h : ∃ res, ∀ a, su x a os = some res then some h.choose else none
theorem suE_eq {su : Er → Nat × Nat → EvS} {x : Er} {os : En} {res : Res} (h : ∀ a, su x a os = some res) : suE su x os = some res := by
  have e : ∃ res, ∀ a, su x a os = some res := ⟨res, h⟩
  unfold suE
  rw [dif_pos e]
  exact (e.choose_spec (0, 0)).symm.trans (h (0, 0))
theorem suE_of {su : Er → Nat × Nat → EvS} {x : Er} {os : En} {res : Res} (h : suE su x os = some res) (a : Nat × Nat) : su x a os = some res := by
  unfold suE at h
  split at h
  · rename_i e; cases h; exact e.choose_spec a
  · cases h
/-- su: what the suite does, by what was raised (its class's number, where it lies) -/
noncomputable def eTry (sub : Nat → Nat → Bool) (nC c : Nat) (ev : EvS) (xv : EvX) (su : Er → Nat × Nat → EvS) : EvS := fun os => match xv os with
  | some (x, os1) => if x.1 < nC ∧ sub x.1 c = true then suE su x os1 else none
  | none => ev os
def wipeR (i : Nat) : Res → Res
  | .nx os => .nx (os.set i none)
  | .rt o os => .rt o (os.set i none)
  | .bk os => .bk (os.set i none)
  | .ct os => .ct (os.set i none)
def suAs (i : Nat) (su : Er → Nat × Nat → EvS) (x : Er) (a : Nat × Nat) : EvS := fun os => if i < os.length then (su x a (os.set i (some (.sh (excD a x))))).map (wipeR i) else none
section
variable {X : Cx} {C : Nat → Addr} {R : List Nat} {sub : Nat → Nat → Bool} {nC c : Nat} {x n : Str} {body suite : List Stmt} {b₀ : Stmt} {np pos pos' : Pos} {ev : EvS} {xv : EvX} {su : Er → Nat × Nat → EvS}
theorem SI.unset {K : PySem.W.Frag} {G H : Hp} {σ : L2.St} {os : En} {f : FP} (I : SI K G H σ os f) {i : Nat} (hi : i < os.length) (v : Option V) : ∃ f', SI K G H (σ.set i v) (os.set i none) f' ∧ ∀ a, f' a ≤ f a := by
  obtain ⟨fr, h1, h2, _⟩ := SL.put i I.sl hi
  exact ⟨fr, I.forget (h2 v) h1, h1⟩
theorem SI.unset' {K : PySem.W.Frag} {G H : Hp} {σ : L2.St} {os : En} {f : FP} (I : SI K G H σ os f) (hl : σ.length = os.length) (i : Nat) : ∃ f', SI K G H (σ.set i none) (os.set i none) f' ∧ ∀ a, f' a ≤ f a := by
  by_cases hi : i < os.length
  · exact I.unset hi none
  · rw [List.set_eq_of_length_le (by omega), List.set_eq_of_length_le (by omega)]
    exact ⟨f, I, fun _ => Nat.le_refl _⟩
theorem SI.unsetR {K : PySem.W.Frag} {G H : Hp} {σ : L2.St} {os : En} {f : FP} {v : V} {o : OD} (I : SI K G H (σ ++ [some v]) (os ++ [some o]) f) (hl : σ.length = os.length) (i : Nat) : ∃ f', SI K G H (σ.set i none ++ [some v]) (os.set i none ++ [some o]) f' ∧ ∀ a, f' a ≤ f a := by
  by_cases hi : i < os.length
  · have := I.unset (i := i) (by simp; omega) none
    rw [set_app (by omega), set_app hi] at this
    exact this
  · rw [List.set_eq_of_length_le (by omega), List.set_eq_of_length_le (by omega)]
    exact ⟨f, I, fun _ => Nat.le_refl _⟩
theorem ss_try (hs : X.stack = X.env :: X.outer) (hf : X.env.frame = some X.env.locals) (hc : Names X x (.ref (C c))) (hC : ErrsOk X.K C nC sub) (hcn : c < nC)
    (hb : ∀ (W : WX) (pn : List (Addr × Obj)) (xe : Value → Shared → Prop), Takes (X.tr pn xe) W → PassesOwn (model X.prog X.w) X.A X.env xe → SXSs (X.tr pn xe) C R W ev xv body)
    (hsu : ∀ (e : Er) (p : Nat × Nat) (oe : Obj) (pn : List (Addr × Obj)), e.1 < nC → Zc (.ref (C e.1)) (dOf p e) oe → (∃ vs, oe.data = .fields vs) → SSs (X.suite p.1 ((p.1, oe) :: pn)) R (su e p) (b₀ :: suite)) :
    SS X R (eTry sub nC c ev xv su) (.Try body [.ExceptHandler (some (.Name x np)) none (b₀ :: suite) pos'] [] [] pos) := by
  have hb' := fun W pn xe tk po => hb W pn xe tk po
  -- the readings
  let tb : WX → TS := fun W D σ H => ∃ (G : Hp) (os : En) (f : FP), σ.length = os.length ∧ SI X.K G H σ os f ∧ ((∃ x os1, xv os = some (x, os1) ∧ ∀ σ' H' d, KontSX X.K R σ G H f os1 x d σ' H' → W (.ref (C x.1)) d σ' H') ∨ ∃ res, ev os = some res ∧ Post X.K R σ G H f D res)
  let ts : Addr → Value → Option Addr → TS := fun a cls d D σ H => ∃ e : Er, e.1 < nC ∧ cls = .ref (C e.1) ∧ d = dOf (a, d.getD 0) e ∧ ∃ (G : Hp) (os : En) (f : FP) (res : Res), σ.length = os.length ∧ SI X.K G H σ os f ∧ su e (a, d.getD 0) os = some res ∧ Post X.K R σ G H f D res
  have hbP : ∀ (W : WX) (pn : List (Addr × Obj)) (xe : Value → Shared → Prop), Takes (X.tr pn xe) W → PassesOwn (model X.prog X.w) X.A X.env xe → PSs (X.tr pn xe) body (tb W) := fun W pn xe tk po => by
    obtain ⟨t, p, q, z⟩ := hb' W pn xe tk po
    refine ⟨fun pins s σ H D I h => p.run pins s σ H D I ?_⟩
    obtain ⟨G, os, f, hl, J, h | h⟩ := h
    · obtain ⟨x, os1, e1, k⟩ := h
      exact z σ G H os f x os1 D hl J e1 k
    · obtain ⟨res, e1, k⟩ := h
      exact q σ G H os f res D hl J e1 k
  have hsP : ∀ (a : Addr) (oe : Obj) (cls : Value) (d : Option Addr) (pn : List (Addr × Obj)), Zc cls d oe → (∃ vs, oe.data = .fields vs) → PSs (X.suite a ((a, oe) :: pn)) (b₀ :: suite) (ts a cls d) := fun a oe cls d pn hz hv => by
    refine ⟨fun pins s σ H D I h => ?_⟩
    obtain ⟨e, he, rfl, hd, G, os, f, res, hl, J, e1, k⟩ := h
    obtain ⟨t, p, q⟩ := hsu e (a, d.getD 0) oe pn he (by rw [← hd]; exact hz) hv
    exact p.run pins s σ H D I (q σ G H os f res D hl J e1 k)
  refine ⟨_, ps_try_only hs hf hc (takes0 (X := X)) hbP hsP, fun σ G H os f res D hl I e k => ?_⟩
  unfold eTry at e
  split at e
  · rename_i y os1 e1
    split at e
    · rename_i hy
      refine ⟨G, os, f, hl, I, .inl ⟨y, os1, e1, fun σ' H' d kk => ?_⟩⟩
      refine ⟨true, by rw [← hy.2]; exact (hC y.1 c hy.1 hcn).1, fun _ a na => ?_, fun z => nomatch z⟩
      obtain ⟨G', f', J, s', l', r', pz⟩ := kk
      exact ⟨y, hy.1, rfl, pay_d pz, G', os1, f', res, l', J, suE_of e _, k.step s' r'⟩
    · cases e
  · exact ⟨G, os, f, hl, I, .inr ⟨res, e, k⟩⟩
theorem ss_tryAs (i : Nat) (hs : X.stack = X.env :: X.outer) (hf : X.env.frame = some X.env.locals) (hN : X.N.Nodup) (hc : Names X x (.ref (C c))) (hC : ErrsOk X.K C nC sub) (hcn : c < nC) (hR : i ∉ R)
    (hb : ∀ (W : WX) (pn : List (Addr × Obj)) (xe : Value → Shared → Prop), Takes (X.tr pn xe) W → PassesOwn (model X.prog X.w) X.A X.env xe → SXSs (X.tr pn xe) C R W ev xv body)
    (hsu : ∀ (e : Er) (p : Nat × Nat) (oe : Obj) (pn : List (Addr × Obj)), e.1 < nC → Zc (.ref (C e.1)) (dOf p e) oe → (∃ vs, oe.data = .fields vs) → SSs (X.suite p.1 ((p.1, oe) :: pn)) R (su e p) (b₀ :: suite))
    (hi : X.N[i]? = some n := by rfl) (hln : X.env.kindOf n = some .local := by rfl) :
    SS X R (eTry sub nC c ev xv (suAs i su)) (.Try body [.ExceptHandler (some (.Name x np)) (some n) (b₀ :: suite) pos'] [] [] pos) := by
  let tb : WX → TS := fun W D σ H => ∃ (G : Hp) (os : En) (f : FP), σ.length = os.length ∧ SI X.K G H σ os f ∧ ((∃ x os1, xv os = some (x, os1) ∧ ∀ σ' H' d, KontSX X.K R σ G H f os1 x d σ' H' → W (.ref (C x.1)) d σ' H') ∨ ∃ res, ev os = some res ∧ Post X.K R σ G H f D res)
  let ts : Addr → Value → Option Addr → TS := fun a cls d D σ H => ∃ e : Er, e.1 < nC ∧ cls = .ref (C e.1) ∧ d = dOf (a, d.getD 0) e ∧ ∃ (G : Hp) (os : En) (f : FP) (res : Res), σ.length = os.length ∧ SI X.K G H σ os f ∧ su e (a, d.getD 0) os = some res ∧ Post X.K R σ G H f D res
  have hbP : ∀ (W : WX) (pn : List (Addr × Obj)) (xe : Value → Shared → Prop), Takes (X.tr pn xe) W → PassesOwn (model X.prog X.w) X.A X.env xe → PSs (X.tr pn xe) body (tb W) := fun W pn xe tk po => by
    obtain ⟨t, p, q, z⟩ := hb W pn xe tk po
    refine ⟨fun pins s σ H D I h => p.run pins s σ H D I ?_⟩
    obtain ⟨G, os, f, hl, J, h | h⟩ := h
    · obtain ⟨x, os1, e1, k⟩ := h
      exact z σ G H os f x os1 D hl J e1 k
    · obtain ⟨res, e1, k⟩ := h
      exact q σ G H os f res D hl J e1 k
  have hsP : ∀ (a : Addr) (oe : Obj) (cls : Value) (d : Option Addr) (pn : List (Addr × Obj)), Zc cls d oe → (∃ vs, oe.data = .fields vs) → PSs (X.suite a ((a, oe) :: pn)) (b₀ :: suite) (ts a cls d) := fun a oe cls d pn hz hv => by
    refine ⟨fun pins s σ H D I h => ?_⟩
    obtain ⟨e, he, rfl, hd, G, os, f, res, hl, J, e1, k⟩ := h
    obtain ⟨t, p, q⟩ := hsu e (a, d.getD 0) oe pn he (by rw [← hd]; exact hz) hv
    exact p.run pins s σ H D I (q σ G H os f res D hl J e1 k)
  refine ⟨_, ps_try_as hs hf hN hi hln hc (takes0 (X := X)) hbP hsP, fun σ G H os f res D hl I e k => ?_⟩
  unfold eTry at e
  split at e
  · rename_i y os1 e1
    split at e
    · rename_i hy
      refine ⟨G, os, f, hl, I, .inl ⟨y, os1, e1, fun σ' H' d kk => ?_⟩⟩
      refine ⟨true, by rw [← hy.2]; exact (hC y.1 c hy.1 hcn).1, fun _ a na => ?_, fun z => nomatch z⟩
      have e := suE_of e (a, d.getD 0)
      unfold suAs at e
      split at e
      · rename_i hil
        obtain ⟨G', f', J, s', l', r', pz⟩ := kk
        cases es : su y (a, d.getD 0) (os1.set i (some (.sh (excD (a, d.getD 0) y)))) with
        | none => rw [es] at e; cases e
        | some res1 =>
          rw [es] at e
          have e : some (wipeR i res1) = some res := e
          cases e
          obtain ⟨f2, J2, le2⟩ := (J.push (excD_ok pz)).store l' hil
          have kR : ∀ j ∈ R, (σ'.set i (some (.ref a)))[j]? = σ[j]? := fun j hj => by
            rw [List.getElem?_set_ne (fun z => by subst z; exact hR hj)]
            exact r' j hj
          refine ⟨y, hy.1, rfl, pay_d pz, G', os1.set i (some (.sh (excD (a, d.getD 0) y))), f2, res1, by rw [List.length_set, List.length_set]; exact l', J2, es, ?_⟩
          have s2 := s'.trans (Stp.less le2)
          have fin : ∀ (os' : En) (σ2 : L2.St) (H2 : Hp), KontS X.K R (σ'.set i (some (.ref a))) G' H' f2 os' σ2 H2 → KontS X.K R σ G H f (os'.set i none) (σ2.set i none) H2 := fun os' σ2 H2 kk => by
            obtain ⟨G3, f3, J3, s3, l3, r3⟩ := kk
            obtain ⟨f4, J4, le4⟩ := J3.unset' l3 i
            refine ⟨G3, f4, J4, (s2.trans s3).trans (Stp.less le4), by rw [List.length_set, List.length_set]; exact l3, fun j hj => ?_⟩
            rw [List.getElem?_set_ne (fun z => by subst z; exact hR hj)]
            exact (r3 j hj).trans (kR j hj)
          cases res1 with
          | nx os' => exact fun σ2 H2 kk => k _ _ (fin os' σ2 H2 kk)
          | bk os' => exact fun σ2 H2 kk => k _ _ (fin os' σ2 H2 kk)
          | ct os' => exact fun σ2 H2 kk => k _ _ (fin os' σ2 H2 kk)
          | rt o os' =>
            intro v H2 kk
            obtain ⟨G3, f3, σ3, J3, s3, l3, r3⟩ := kk
            obtain ⟨f4, J4, le4⟩ := J3.unsetR l3 i
            refine k v H2 ⟨G3, f4, σ3.set i none, J4, (s2.trans s3).trans (Stp.less le4), by rw [List.length_set, List.length_set]; exact l3, fun j hj => ?_⟩
            rw [List.getElem?_set_ne (fun z => by subst z; exact hR hj)]
            exact (r3 j hj).trans (kR j hj)
      · cases e
    · cases e
  · exact ⟨G, os, f, hl, I, .inr ⟨res, e, k⟩⟩
/-- isinstance(e, T) in the suite -/
def opIsE (p : Nat × Nat) (e : Er) (b : Bool) : List PyData → Option Op
  | [.dict [(.int a', .int e')]] => if a' = (p.1 : Nat) ∧ e' = (e.1 : Nat) ∧ e.2.isEmpty = true then some (.val (.bool b)) else none
  | [.dict [(.int a', .int e'), (.int d', _)]] => if a' = (p.1 : Nat) ∧ e' = (e.1 : Nat) ∧ d' = (p.2 : Nat) then some (.val (.bool b)) else none
  | _ => none
theorem o_isE {a : Nat × Nat} {e : Er} {b : Bool} : opIsE a e b [excD a e] = some (.val (.bool b)) := by
  obtain ⟨e, fs⟩ := e
  cases fs with
  | nil =>
    show (if ((a.1 : Nat) : Int) = (a.1 : Nat) ∧ ((e : Nat) : Int) = (e : Nat) ∧ _ then _ else none) = _
    rw [if_pos ⟨rfl, rfl, rfl⟩]
  | cons q fs =>
    show (if ((a.1 : Nat) : Int) = (a.1 : Nat) ∧ ((e : Nat) : Int) = (e : Nat) ∧ ((a.2 : Nat) : Int) = (a.2 : Nat) then _ else none) = _
    rw [if_pos ⟨rfl, rfl, rfl⟩]
/-- the error's dict stands -/
def rIsF (K : PySem.W.Frag) (D a : Addr) (d : Option Addr) : List V → Hp → VK → Prop := fun xs H Q => (∀ dd, d = some dd → ∃ fs, H dd = some (.xd fs)) ∧ rIsE K D a xs H Q
theorem call_isF {X : Cx} {a D : Addr} {d : Option Addr} {oe : Obj} {pn : List (Addr × Obj)} (C : ExcC X.K D) (hz : Zc (.ref D) d oe) (hf : ∃ vs, oe.data = .fields vs) : CallR (X.suite a ((a, oe) :: pn)) (.builtin "isinstance") (rIsF X.K D a d) := by
  cases d with
  | none => exact fun pins s σ H xs us Q I r h => call_isE C hz hf pins s σ H xs us Q I r h.2
  | some dd =>
    intro pins s σ H xs us Q I r h
    obtain ⟨hd, c, cv, b, rfl, hcv, e, q⟩ := h
    obtain ⟨fs, ed⟩ := hd dd rfl
    have hx : ObjOk X.prog X.w H s.heap dd (.xd fs) := I.hok dd _ ed
    obtain ⟨mA, hns, _⟩ := hx
    obtain ⟨od, ho, _⟩ := lookIn_ns hns
    cases r with
    | cons rx rr =>
      cases rr with
      | cons rt rr =>
        cases rr
        cases rx
        have ec := hcv _ rt
        subst ec
        obtain ⟨hget, _⟩ := I.pin (a, oe) (List.mem_append.mpr (.inl List.mem_cons_self))
        obtain ⟨vs, hv⟩ := hf
        have J : PySem.W.InstAt s.heap a oe D (some od) := ⟨hget, hz.1, by unfold PySem.W.notCls; rw [hv] <;> rfl, by rw [hz.2]; exact ho⟩
        have hcl : (PySem.W.clsIn X.K D).isSome = true := by
          obtain ⟨cd, hc, _⟩ := PySem.W.any_some C.hd
          rw [hc]; rfl
        exact PySem.W.kia_one (PySem.W.kitx_exc (od := some od) hcl C.hg C.hk C.hs C.ha C.hn C.ht C.hm) I.kIn J e (fun z => nomatch z) fun tk => ⟨.bl b, H, I.kept (t' := tk) fun _ _ z => z, rfl, q⟩
theorem isE_sc {p : Nat × Nat} {e : Er} {b : Bool} {ds : List PyData} {res : Op} (h : opIsE p e b ds = some res) : ∃ d, res = .val d ∧ isSc d = true := by
  unfold opIsE at h
  split at h
  · split at h
    · cases h; exact ⟨_, rfl, rfl⟩
    · cases h
  · split at h
    · cases h; exact ⟨_, rfl, rfl⟩
    · cases h
  · cases h
theorem isE_rd {K : PySem.W.Frag} {p : Nat × Nat} {e : Er} {b : Bool} {D : Addr} {c : V} {cv : Value} (hcv : ∀ u, RelV c u → u = cv) (hk : PySem.W.kitOne K (.ref D) cv = some b) : OpOk K (r1 fun x H Q => rIsF K D p.1 (dOf p e) [x, c] H Q) (opIsE p e b) := .ofSc (fun ds res h => isE_sc h) fun ds dd H vs Q h hd k => by
    obtain ⟨a0, d0⟩ := p
    obtain ⟨e0, fs0⟩ := e
    unfold opIsE at h
    split at h
    · split at h
      · rename_i a' e' c1
        cases h
        obtain ⟨v, rfl, h⟩ := dps1 hd
        obtain ⟨c1, _, c3⟩ := c1
        have hfs : fs0 = [] := List.isEmpty_iff.mp c3
        subst hfs
        cases h with
        | exc a2 e2 =>
          have c1 : (a2 : Int) = (a0 : Nat) := c1
          have : a2 = a0 := by omega
          subst this
          exact ⟨(fun dd z => nomatch z), c, cv, b, rfl, hcv, hk, k _ (.bl _)⟩
      · cases h
    · split at h
      · rename_i a' e' d' y c1
        cases h
        obtain ⟨v, rfl, h⟩ := dps1 hd
        obtain ⟨c1, _, c3⟩ := c1
        cases h with
        | @exf a2 e2 d2 vs2 ds2 h1 h2 =>
          have c1 : (a2 : Int) = (a0 : Nat) := c1
          have : a2 = a0 := by omega
          subst this
          have c3 : (d2 : Int) = (d0 : Nat) := c3
          have : d2 = d0 := by omega
          subst this
          refine ⟨fun dd z => ?_, c, cv, b, rfl, hcv, hk, k _ (.bl _)⟩
          cases fs0 with
          | nil => cases z
          | cons _ _ => cases z; exact ⟨_, h1⟩
      · cases h
    · cases h
theorem se_isE {e : Er} {y : Nat} {p : Nat × Nat} {oe : Obj} {pn : List (Addr × Obj)} {tn : Str} {o : Expr} {ea : EvE} {p0 q pos : Pos} (hC : ErrsOk X.K C nC sub) (he : e.1 < nC) (hy : y < nC) (hE : ExcC X.K (C e.1)) (hz : Zc (.ref (C e.1)) (dOf p e) oe) (hf : ∃ vs, oe.data = .fields vs) (hm : X.mg "isinstance" = none) (hT : X.mg tn = some (.ref (C y)))
    (ha : SE (X.suite p.1 ((p.1, oe) :: pn)) ea o) (hg : Gl X "isinstance" := by rfl) (hg2 : Gl X tn := by rfl) (hd : (tn == ("__debug__" : Str)) = false := by decide)
    (hst : starEach (o :: [.Name tn q]) X.env = (false, eval o X.env) :: starEach [.Name tn q] X.env := by rfl) :
    SE (X.suite p.1 ((p.1, oe) :: pn)) (eOp (opIsE p e (sub e.1 y)) (es1 ea)) (.Call (.Name "isinstance" p0) [o, .Name tn q] [] pos) := by
  obtain ⟨ta, p1, q1⟩ := ha
  have := pe_callB (X := X.suite p.1 ((p.1, oe) :: pn)) (x := "isinstance") (p := p0) (pos := pos) (call_isF hE hz hf) hg hm (by decide +kernel) (pa_cons p1 (pa_cons (pe_glob (v := .ref (C y)) (pos := q) hg2 hT rfl hd) pa_nil) hst) (by decide) (by decide) hst (by rfl)
  refine ⟨_, this, ?_⟩
  exact er_op (r := r1 fun x H Q => rIsF X.K (C e.1) p.1 (dOf p e) [x, .ref (C y)] H Q) (ers_cons q1 ers_nil) (isE_rd (cv := .ref (C y)) (fun u hu => hu) (hC e.1 y he hy).2)
theorem se_isEB {e : Er} {p : Nat × Nat} {n : String} {b : Bool} {y : Str} {oe : Obj} {pn : List (Addr × Obj)} {o : Expr} {ea : EvE} {p0 q pos : Pos} (hE : ExcC X.K (C e.1)) (hz : Zc (.ref (C e.1)) (dOf p e) oe) (hf : ∃ vs, oe.data = .fields vs) (hm : X.mg "isinstance" = none) (hy : X.mg y = none) (hk : PySem.W.kitOne X.K (.ref (C e.1)) (.type n) = some b)
    (ha : SE (X.suite p.1 ((p.1, oe) :: pn)) ea o) (hvy : bootBuiltins y = some (.type n) := by decide +kernel) (hg : Gl X "isinstance" := by rfl) (hg2 : Gl X y := by rfl) (hny : y ≠ "__name__" := by decide) (hd : (y == ("__debug__" : Str)) = false := by decide)
    (hst : starEach (o :: [.Name y q]) X.env = (false, eval o X.env) :: starEach [.Name y q] X.env := by rfl) :
    SE (X.suite p.1 ((p.1, oe) :: pn)) (eOp (opIsE p e b) (es1 ea)) (.Call (.Name "isinstance" p0) [o, .Name y q] [] pos) := by
  obtain ⟨ta, p1, q1⟩ := ha
  have := pe_callB (X := X.suite p.1 ((p.1, oe) :: pn)) (x := "isinstance") (p := p0) (pos := pos) (call_isF hE hz hf) hg hm (by decide +kernel) (pa_cons p1 (pa_cons (pe_bltn (v := .ty n) (pos := q) hg2 hy hvy rfl hny hd) pa_nil) hst) (by decide) (by decide) hst (by rfl)
  refine ⟨_, this, ?_⟩
  exact er_op (r := r1 fun x H Q => rIsF X.K (C e.1) p.1 (dOf p e) [x, .ty n] H Q) (ers_cons q1 ers_nil) (isE_rd (cv := .type n) (fun u hu => hu) hk)
/-- e.f in the suite -/
def fldOf (f : Str) : List PyData → List PyData → Option PyData
  | .str n :: ns, d :: ds => if n = f then some d else fldOf f ns ds
  | _, _ => none
def opFld (p : Nat × Nat) (e : Er) (f : Str) : List PyData → Option Op
  | [.dict [(.int a', .int e'), (.int d', .tuple [.list ns, .list ds])]] => if a' = (p.1 : Nat) ∧ e' = (e.1 : Nat) ∧ d' = (p.2 : Nat) ∧ e.2.isEmpty = false then (fldOf f ns ds).map .val else none
  | _ => none
theorem o_fld {p : Nat × Nat} {e : Er} {f : Str} {d : PyData} (h0 : e.2.isEmpty = false) (h : fldOf f (e.2.map fun z => .str z.1) (e.2.map Prod.snd) = some d) : opFld p e f [excD p e] = some (.val d) := by
  obtain ⟨e, fs⟩ := e
  cases fs with
  | nil => cases h0
  | cons q fs =>
    show (if ((p.1 : Nat) : Int) = (p.1 : Nat) ∧ ((e : Nat) : Int) = (e : Nat) ∧ ((p.2 : Nat) : Int) = (p.2 : Nat) ∧ _ then _ else none) = _
    rw [if_pos ⟨rfl, rfl, rfl, rfl⟩, h]; rfl
theorem fld_dps {K : PySem.W.Frag} {H : Hp} {f : Str} : ∀ {vs : List (Str × V)} {ds : List PyData} {d : PyData}, DxAll K H (vs.map Prod.snd) ds → fldOf f (vs.map fun z => .str z.1) ds = some d → ∃ v, vs.lookup f = some v ∧ Dx K H v d
  | [], _, _, _, e => by simp [fldOf] at e
  | (n, v) :: vs, _, d, h, e => by
    cases h with
    | cons h r =>
      have e : (if n = f then some _ else fldOf f (vs.map fun z => .str z.1) _) = some d := e
      split at e
      · rename_i z
        cases e
        exact ⟨v, by rw [lookup_put, if_pos z.symm], h⟩
      · rename_i z
        obtain ⟨v', h1, h2⟩ := fld_dps r e
        exact ⟨v', by rw [lookup_put, if_neg (fun q => z q.symm)]; exact h1, h2⟩
def rFld (a : Addr) (d : Option Addr) (f : Str) : V → Hp → VK → Prop := fun x H Q => x = .ref a ∧ ∃ (dd : Addr) (fs : List (Str × V)) (v : V), d = some dd ∧ H dd = some (.xd fs) ∧ fs.lookup f = some v ∧ Q v H
theorem fld_rd {K : PySem.W.Frag} {p : Nat × Nat} {e : Er} {f : Str} {ds : List PyData} {d : PyData} {G : Hp} {vs : List V} (h : opFld p e f ds = some (.val d)) (hd : DxAll K G vs ds) : ∃ v fs, vs = [.ref p.1] ∧ dOf p e = some p.2 ∧ G p.2 = some (.xd fs) ∧ fs.lookup f = some v ∧ Dx K G v d := by
  obtain ⟨a0, d0⟩ := p
  obtain ⟨e0, fs0⟩ := e
  unfold opFld at h
  split at h
  · rename_i a' e' d' ns ds'
    split at h
    · rename_i c
      obtain ⟨c1, _, c3, c4⟩ := c
      obtain ⟨d1, h1, h2⟩ := Option.map_eq_some_iff.mp h
      cases h2
      obtain ⟨v, rfl, h⟩ := dps1 hd
      cases h with
      | @exf a2 e2 d2 vs2 ds2 z1 z2 =>
        have c1 : (a2 : Int) = (a0 : Nat) := c1
        have : a2 = a0 := by omega
        subst this
        have c3 : (d2 : Int) = (d0 : Nat) := c3
        have : d2 = d0 := by omega
        subst this
        obtain ⟨v, l1, l2⟩ := fld_dps z2 h1
        cases fs0 with
        | nil => cases c4
        | cons _ _ => exact ⟨v, _, rfl, rfl, z1, l1, l2⟩
    · cases h
  · cases h
theorem ok_fld {K : PySem.W.Frag} {p : Nat × Nat} {e : Er} {f : Str} : OpOk K (r1 fun x H Q => rFld p.1 (dOf p e) f x H Q) (opFld p e f) where
  sc := fun ds d H vs Q h _ hd k => by
    obtain ⟨v, fs, rfl, h1, h2, h3, h4⟩ := fld_rd h hd
    exact ⟨rfl, p.2, fs, v, h1, h2, h3, k v h4⟩
  el := fun ds d G H vs Q h z s hd k => by
    have hg : ds = ds → DxAll K G vs ds := fun _ => by
      unfold opFld at h
      split at h
      · cases hd with
        | cons a r =>
          cases r
          cases a with
          | sh q => exact .cons q .nil
      · cases h
    obtain ⟨v, fs, rfl, h1, h2, h3, h4⟩ := fld_rd h (hg rfl)
    exact ⟨rfl, p.2, fs, v, h1, s _ _ h2, h3, k v h4⟩
  nl := fun ds es G H vs Q h => by
    unfold opFld at h
    split at h
    · split at h
      · obtain ⟨_, _, z⟩ := Option.map_eq_some_iff.mp h
        cases z
      · cases h
    · cases h
  nt := fun ds es G H vs Q h => by
    unfold opFld at h
    split at h
    · split at h
      · obtain ⟨_, _, z⟩ := Option.map_eq_some_iff.mp h
        cases z
      · cases h
    · cases h
theorem se_fld {e : Er} {p : Nat × Nat} {oe : Obj} {pn : List (Addr × Obj)} {f : Str} {o : Expr} {ea : EvE} {pos : Pos} (hT : XfC X.K (C e.1)) (hno : PySem.W.findIn X.K (.ref (C e.1)) f = some none) (hz : Zc (.ref (C e.1)) (dOf p e) oe) (hf : ∃ vs, oe.data = .fields vs)
    (ha : SE (X.suite p.1 ((p.1, oe) :: pn)) ea o) (hb : attributeBase o f X.env (eval o X.env) = eval o X.env := by rfl) : SE (X.suite p.1 ((p.1, oe) :: pn)) (eOp (opFld p e f) (es1 ea)) (.Attribute o f pos) := by
  obtain ⟨ta, p1, q1⟩ := ha
  refine ⟨_, pe_xf (C := C e.1) hT hno hz hf p1 hb, ?_⟩
  refine fun σ τ G H os θ g r os' Q hl ht I ee k => ?_
  unfold eOp at ee
  split at ee
  · rename_i rs os1 e1
    split at ee
    · rename_i ds e2
      split at ee
      · rename_i res e3
        have ee : opOut os1 rs res = (r, os') := Option.some.inj ee
        refine (ers_cons q1 ers_nil) σ τ G H os θ g rs os1 (fun vs H1 => match vs with | [x] => x = .ref p.1 ∧ Value.ref (C e.1) = .ref (C e.1) ∧ ∃ (dd : Addr) (fs : List (Str × V)) (v : V), dOf p e = some dd ∧ H1 dd = some (.xd fs) ∧ fs.lookup f = some v ∧ Q v H1 | _ => False) hl ht I e1 fun vs H1 k1 => ?_
        have w : r1 (fun x H Q => rFld p.1 (dOf p e) f x H Q) vs H1 Q := op_fin ok_fld ht k1 e2 e3 ee k
        match vs, w with
        | [x], w => exact ⟨w.1, rfl, w.2⟩
      · cases ee
    · cases ee
  · cases ee
theorem kit_ref {K : PySem.W.Frag} {a c : Addr} {b : Bool} (hi : PySem.W.isClsIn K c = true) (ht : PySem.W.typeIn K (.ref c) = some (.type "type")) (hs : PySem.W.subIn K (.ref a) (.ref c) = some b) : PySem.W.kitCls K (.ref a) (.ref c) = some b := by
  have e2 : ((PySem.W.clsIn K c).isSome && PySem.W.typeIn K (.ref c) == some (.type "type")) = true := by
    have h2' : (PySem.W.clsIn K c).isSome = true := hi
    rw [h2', ht] <;> rfl
  show (if ((PySem.W.clsIn K c).isSome && PySem.W.typeIn K (.ref c) == some (.type "type")) = true then PySem.W.subIn K (.ref a) (.ref c) else none) = some b
  rw [if_pos e2]; exact hs
theorem errs_mk {K : PySem.W.Frag} {C : Nat → Addr} {nC : Nat} {sub : Nat → Nat → Bool} (hb : ∀ i, i < nC → PySem.W.subIn K (.ref (C i)) (.type "BaseException") = some true) (hi : ∀ i, i < nC → PySem.W.isClsIn K (C i) = true) (ht : ∀ i, i < nC → PySem.W.typeIn K (.ref (C i)) = some (.type "type"))
    (hs : ∀ i j, i < nC → j < nC → PySem.W.subIn K (.ref (C i)) (.ref (C j)) = some (sub i j)) (hr : ∀ i, i < nC → sub i i = true) : ErrsOk K C nC sub := fun i j h1 h2 => by
  have k := kit_ref (hi j h2) (ht j h2) (hs i j h1 h2)
  refine ⟨?_, ?_⟩
  · have e1 : (PySem.W.subIn K (.ref (C j)) (.type "BaseException") == some true) = true := by rw [hb j h2] <;> rfl
    show (if (PySem.W.subIn K (.ref (C j)) (.type "BaseException") == some true) = true then _ else none) = _
    rw [if_pos e1]; exact k
  · show (if ((Value.ref (C i)) == (Value.ref (C j))) = true then some true else _) = _
    split
    · rename_i z
      have z : Value.ref (C i) = Value.ref (C j) := eq_of_beq z
      injection z with z
      have e1 := hs i j h1 h2
      have e2 := hs i i h1 h1
      rw [← z] at e1
      rw [← e1, e2, hr i h1]
    · exact k
theorem errB_mk {K : PySem.W.Frag} {a : Addr} {T : String} {b : Bool} (hm : PySem.W.kitMeta T = true) (hs : PySem.W.subIn K (.ref a) (.type T) = some b) : PySem.W.kitOne K (.ref a) (.type T) = some b := by
  show (if ((Value.ref a) == (Value.type T)) = true then some true else (if PySem.W.kitMeta T = true then PySem.W.subIn K (.ref a) (.type T) else none)) = _
  rw [if_neg (by intro z; have := eq_of_beq z; cases this), if_pos hm]
  exact hs
end
end DX
/-! DXMore: gcd, texts of ints, f-strings, tuples of the top, comprehensions over pairs, calls without arguments. -/
namespace DX
open PySem PySem.Spec PyProof.Rows L2
section
variable {K : PySem.W.Frag} {X : Cx}
/-! ### gcd -/
def gcdI (a b : Int) : Int := ((Nat.gcd a.natAbs b.natAbs : Nat) : Int)
def opGcd := opII (fun _ _ => true) fun i j => .int (gcdI i j)
theorem ok_gcd : OpOk K rGcd opGcd := .ofSc (fun ds res e => by
    unfold opGcd opII at e
    split at e
    · rw [if_pos rfl] at e; cases e; exact ⟨_, rfl, rfl⟩
    · cases e) fun ds d H vs Q e hd k => by
    unfold opGcd opII at e
    split at e
    · rw [if_pos rfl] at e
      cases e
      obtain ⟨v, w, rfl, a, b⟩ := dps2 hd
      cases a; cases b
      exact ⟨_, _, rfl, k _ (.int _)⟩
    · cases e
theorem se_gcd {x : Str} {e f : Expr} {ev : EvEs} {p pos : Pos} (hm : X.mg x = some (.builtin "math.gcd")) (h : SEs X ev [e, f]) (hg : Gl X x := by rfl) (hdb : (x == ("__debug__" : Str)) = false := by decide)
    (he : starEach (e :: [f]) X.env = (false, eval e X.env) :: starEach [f] X.env := by rfl) (hpl : (backTo pos (starEach [f] X.env)).any (·.1) = false := by rfl) : SE X (eOp opGcd ev) (.Call (.Name x p) [e, f] [] pos) := by
  obtain ⟨ta, q1, q2⟩ := h
  exact ⟨_, pe_callBfun cr_gcd hg hm q1 hdb he hpl, er_op q2 ok_gcd⟩
theorem o_gcd {a b : Int} : opGcd [.int a, .int b] = some (.val (.int (gcdI a b))) := rfl

/-! ### str(int) -/
def strI (i : Int) : Str := toString i
def opStr : List PyData → Option Op
  | [.int i] => if Nat.blt i.natAbs.log2 1920 = true ∧ (strI i).length ≤ strMax then some (.val (.str (strI i))) else none
  | _ => none
theorem ok_str : OpOk K (fun xs H Q => ∃ i, xs = [.int i] ∧ i.natAbs.log2 < 1920 ∧ Q (.str (toString i)) H) opStr := .ofSc (fun ds res e => by
    unfold opStr at e
    split at e
    · split at e
      · cases e; exact ⟨_, rfl, rfl⟩
      · cases e
    · cases e) fun ds d H vs Q e hd k => by
    unfold opStr at e
    split at e
    · split at e
      · rename_i c
        cases e
        obtain ⟨v, rfl, a⟩ := dps1 hd
        cases a
        exact ⟨_, rfl, Nat.le_of_ble_eq_true c.1, k _ (.str _ c.2)⟩
      · cases e
    · cases e
theorem se_str1 {e : Expr} {ev : EvEs} {p pos : Pos} (hm : X.mg "str" = none) (h : SEs X ev [e]) (hg : Gl X "str" := by rfl) (he : starEach (e :: []) X.env = (false, eval e X.env) :: starEach [] X.env := by rfl) : SE X (eOp opStr ev) (.Call (.Name "str" p) [e] [] pos) := se_bt call_str_int ok_str hm h (by decide +kernel) hg (by decide) (by decide) he rfl

/-! ### tuples of the top -/
theorem se_globT {x : Str} {a : Addr} {d : PyData} {pos : Pos} (hm : X.mg x = some (.ref a)) (hd : ∀ H, Dx X.K H (.ref a) d) (hg : Gl X x := by rfl) (hdb : (x == ("__debug__" : Str)) = false := by decide) : SE X (eC d) (.Name x pos) :=
  ⟨_, pe_glob (v := .ref a) hg hm rfl hdb, er_c hd⟩
theorem dx_top2 {a : Addr} {o : Obj} {i j : Int} {t u : Tok} {n : Nat} (h : K.lookup a = some o) (hc : o.cls = .type "tuple") (hd : o.data = .seq #[.int i t, .int j u] n) (H : Hp) : Dx K H (.ref a) (.tuple [.int i, .int j]) :=
  .tup (.inr ⟨o, _, n, h, hc, hd, by show 2 ≤ sizeLine; decide, (show Vals [V.int i, V.int j] [Value.int i t, Value.int j u] from .cons ⟨t, rfl⟩ (.cons ⟨u, rfl⟩ .nil))⟩) (.cons (.int i) (.cons (.int j) .nil))

/-! ### a call without arguments -/
theorem pe_callG0 {k : Nat} {f : Addr} {fd : FuncData} {ps : List Str} {sp : Sp} {x : Str} {p pos : Pos} (F : FnG X.prog X.w X.K X.mg X.base k f fd ps sp) (hA : X.A.guards = some []) (hr : Room k X.A) (hm : X.mg x = some (.ref f)) (hk : PySem.W.keepIn X.K (.ref f) = true) (hb : Bd fd ps 0 0 [] [])
    (hg : Gl X x := by rfl) (hdb : (x == ("__debug__" : Str)) = false := by decide) : PE X (.Call (.Name x p) [] [] pos) (tCallG sp [] 0 tNil) := by
  refine ⟨fun pins s σ H Q I h => ?_⟩
  refine wpAny_Call_Name_kw (ld_glob I hg hm ?_ hdb)
  refine PySem.W.callWith_K0 (first := []) I.kIn hk ?_
  obtain ⟨_, q⟩ := h
  exact callG_core (np := 0) (ks := []) (us := []) (vs := []) F hA hr hb I .nil rfl q
theorem se_call00 {k : Nat} {f : Addr} {fd : FuncData} {ps : List Str} {x : Str} {p pos : Pos} {m : List OD → Option OD} (F : FnG X.prog X.w X.K X.mg X.base k f fd ps (sp0 X.K m 0)) (hA : X.A.guards = some []) (hr : Room k X.A) (hm : X.mg x = some (.ref f)) (hk : PySem.W.keepIn X.K (.ref f) = true) (hb : Bd fd ps 0 0 [] [])
    (hg : Gl X x := by rfl) (hdb : (x == ("__debug__" : Str)) = false := by decide) : SE X (eFn0 m 0 [] esNil) (.Call (.Name x p) [] [] pos) :=
  ⟨_, pe_callG0 F hA hr hm hk hb hg hdb, er_fn0 ers_nil⟩

/-! ### f-strings -/
/-- the parts: a text, or an int as a text -/
def txt? : PyData → Option Str
  | .str y => some y
  | .int i => if Nat.blt i.natAbs.log2 1920 = true ∧ (strI i).length ≤ strMax then some (strI i) else none
  | _ => none
def JR (K : PySem.W.Frag) (ev : Str → En → Option (Str × En)) (ts : List TE) : Prop := ∀ (acc : Str) (σ τ : List (Option V)) (G H : Hp) (os θ : En) (f : FP) (y : Str) (os' : En) (Q : Str → Hp → Prop),
  σ.length = os.length → τ.length = θ.length → SI K G H (σ ++ τ) (os ++ θ) f → ev acc os = some (y, os') → (∀ H', KontT K σ τ G H f os' θ H' → Q y H') → tJs ts acc σ H Q
def SJ (X : Cx) (ev : Str → En → Option (Str × En)) (es : List Expr) : Prop := ∃ ts, PJ X es ts ∧ JR X.K ev ts
def jNil : Str → En → Option (Str × En) := fun acc os => some (acc, os)
def jCons (ea : EvE) (er : Str → En → Option (Str × En)) : Str → En → Option (Str × En) := fun acc os => match ea os with
  | some (r, os1) => match r.rd os1 with
    | some d => match txt? d with
      | some y => if (acc ++ y).length ≤ strMax then er (acc ++ y) os1 else none
      | none => none
    | none => none
  | none => none
theorem sj_nil : SJ X jNil [] := ⟨[], .nil, fun acc σ τ G H os θ f y os' Q hl ht I e k => by
  cases e
  exact k H ⟨G, f, I, Stp.refl _ _ _, hl⟩⟩
theorem sj_fmt {e : Expr} {es : List Expr} {ea : EvE} {er : Str → En → Option (Str × En)} {pos : Pos} (h : SE X ea e) (g : SJ X er es) : SJ X (jCons ea er) (.FormattedValue e (-1) none pos :: es) := by
  obtain ⟨te, p, q⟩ := h
  obtain ⟨ts, p2, q2⟩ := g
  refine ⟨_, .cons (pe_fmt p) p2, fun acc σ τ G H os θ f y os' Q hl ht I e k => ?_⟩
  unfold jCons at e
  split at e
  · rename_i r os1 e1
    split at e
    · rename_i d e2
      split at e
      · rename_i z e3
        split at e
        · rename_i hz
          refine q σ τ G H os θ f r os1 _ hl ht I e1 fun v H1 k1 => ?_
          have hv := k1.read1 ht e2
          obtain ⟨G1, f1, I1, s1, l1⟩ := k1.drop ht
          have rest : tJs ts (acc ++ z) σ H1 Q := q2 (acc ++ z) σ τ G1 H1 os1 θ f1 y os' Q l1 ht I1 e fun H' kk => k H' (kk.step s1)
          cases hv with
          | str x hx =>
            cases e3
            exact .inl ⟨_, rfl, strMax_le' hx, _, rfl, strMax_le' hz, rest⟩
          | int i =>
            simp only [txt?] at e3
            split at e3
            · rename_i c
              cases e3
              exact .inr ⟨_, rfl, Nat.le_of_ble_eq_true c.1, _, rfl, strMax_le' hz, rest⟩
            · cases e3
          | _ => cases e3
        · cases e
      · cases e
    · cases e
  · cases e
theorem sj_str {x : Str} {j : Nat} {es : List Expr} {er : Str → En → Option (Str × En)} {pos : Pos} (g : SJ X er es) (hx : x.length ≤ strMax := by decide +kernel) : SJ X (jCons (eC (.str x)) er) (.Constant (.str x) j pos :: es) := by
  obtain ⟨ts, p2, q2⟩ := g
  refine ⟨_, .cons pe_str p2, fun acc σ τ G H os θ f y os' Q hl ht I e k => ?_⟩
  unfold jCons eC at e
  simp only [RV.rd, OD.er, txt?] at e
  split at e
  · rename_i hz
    exact ⟨_, rfl, strMax_le' hz, q2 (acc ++ x) σ τ G H os θ f y os' Q hl ht I e k⟩
  · cases e
def eJoin (ev : Str → En → Option (Str × En)) : EvE := fun os => match ev Str.empty os with
  | some (y, os1) => if y.length ≤ strMax then some (.tm (.sh (.str y)), os1) else none
  | none => none
theorem se_joined {v1 v2 : Expr} {rest : List Expr} {ev : Str → En → Option (Str × En)} {pos : Pos} (h : SJ X ev (v1 :: v2 :: rest)) : SE X (eJoin ev) (.JoinedStr (v1 :: v2 :: rest) pos) := by
  obtain ⟨ts, p, q⟩ := h
  refine ⟨_, pe_joined p, fun σ τ G H os θ f r os' Q hl ht I e k => ?_⟩
  unfold eJoin at e
  split at e
  · rename_i y os1 e1
    split at e
    · rename_i hy
      cases e
      refine q Str.empty σ τ G H os θ f y os' _ hl ht I e1 fun H' kk => ?_
      obtain ⟨G1, f1, I1, s1, l1⟩ := kk
      exact k _ H' ((Kont.sh l1 I1 (.str y hy)).step s1)
    · cases e
  · cases e

/-! ### comprehensions over pairs -/
section
variable {R : List Nat} {elt iter c : Expr} {x y : Str} {px py pt pos : Pos} {kt : Nat} {scope : Scope} {i j : Nat} {it : EvI} {ev : EvE} {cc : EvT}
abbrev gv2 (i j : Nat) : EvG := gvTup 2 (gvCons (gvName [] i) (gvCons (gvName [] j) gvNil))
abbrev tg2 (x y : Str) (px py pt : Pos) (kt : Nat) : Expr := .Tuple [.Name x px, .Name y py] kt pt
theorem se_lc2 (i j : Nat) (hc : X.calm = true) (hN : X.N.Nodup) (hi : SI' X (tg2 x y px py pt kt) it iter) (he : ∀ (s : Shared) (H : Hp) (C : Addr) (cl : List (Str × Addr)) (fp : List Addr), SE (X.blk s H scope (compEnvC scope cl C X.env) fp) ev elt)
    (ok : BlkOk X.N X.env.scope scope [(x, i), (y, j)])
    (hg : ∀ (s : Shared) (H : Hp) (C : Addr) (cl : List (Str × Addr)) (fp : List Addr), PG (X.blk s H scope (compEnvC scope cl C X.env) fp) (tg2 x y px py pt kt) (gTup X.K 2 (gCons (gName i) (gCons (gName j) gNil))))
    (hs : ∀ v, foldedSetIterable iter X.env v = pure v := by intro _; rfl) : SE X (eLc [i, j] it (gv2 i j) cYes ev) (.ListComp elt [⟨tg2 x y px py pt kt, iter, [], 0⟩] scope pos) := by
  obtain ⟨wi, p, q⟩ := hi
  exact ⟨_, pe_lc (own := [(x, i), (y, j)]) hc hN p ok hg (fun _ _ _ _ _ => pts_nil) (fun s H C cl fp => (he s H C cl fp).pe) hs, er_lc q (tgc_two (by simp) (by simp)) tr_yes (er_of ev)⟩
theorem se_lcIf2 (i j : Nat) (hc : X.calm = true) (hN : X.N.Nodup) (hi : SI' X (tg2 x y px py pt kt) it iter) (ht : ∀ (s : Shared) (H : Hp) (C : Addr) (cl : List (Str × Addr)) (fp : List Addr), STt (X.blk s H scope (compEnvC scope cl C X.env) fp) cc c) (he : ∀ (s : Shared) (H : Hp) (C : Addr) (cl : List (Str × Addr)) (fp : List Addr), SE (X.blk s H scope (compEnvC scope cl C X.env) fp) ev elt)
    (ok : BlkOk X.N X.env.scope scope [(x, i), (y, j)])
    (hg : ∀ (s : Shared) (H : Hp) (C : Addr) (cl : List (Str × Addr)) (fp : List Addr), PG (X.blk s H scope (compEnvC scope cl C X.env) fp) (tg2 x y px py pt kt) (gTup X.K 2 (gCons (gName i) (gCons (gName j) gNil))))
    (hs : ∀ v, foldedSetIterable iter X.env v = pure v := by intro _; rfl) : SE X (eLc [i, j] it (gv2 i j) cc ev) (.ListComp elt [⟨tg2 x y px py pt kt, iter, [c], 0⟩] scope pos) := by
  obtain ⟨wi, p, q⟩ := hi
  exact ⟨_, pe_lc (own := [(x, i), (y, j)]) hc hN p ok hg (fun s H C cl fp => pts_one (ht s H C cl fp).pt) (fun s H C cl fp => (he s H C cl fp).pe) hs, er_lc q (tgc_two (by simp) (by simp)) (tr_of cc) (er_of ev)⟩
end
end
end DX
/-! DXTpl: tuples whose items are owned. -/
namespace DX
open PySem PySem.Spec PyProof.Rows L2

section
variable {K : PySem.W.Frag} {X : Cx} {R : List Nat}
/-- the operands, moved out of their slots -/
def mvs (os : En) : List RV → Option (List OD × En)
  | [] => some ([], os)
  | r :: rs => match give os r with
    | some (o, os1) => match mvs os1 rs with
      | some (xs, os2) => some (o :: xs, os2)
      | none => none
    | none => none
def eTupO (es : EvEs) : EvE := fun os => match es os with
  | some (rs, os1) => match mvs os1 rs with
    | some (xs, os2) => if xs.length ≤ sizeLine then some (.tm (.tpl xs), os2) else none
    | none => none
  | none => none
theorem mvs_ok {G H : Hp} {σ : L2.St} : ∀ {vs : List V} {rs : List RV} {os os' : En} {xs : List OD} {f1 f2 : FP}, Als σ vs rs → SL K G H σ os f1 → SL K G H (vs.map some) (rs.map RV.od) f2 → mvs os rs = some (xs, os') →
    ∃ g f3, ROs K G H vs xs g ∧ SL K G H σ os' f3 ∧ os'.length = os.length ∧ ∀ a, g a + f3 a ≤ f1 a + f2 a
  | _, _, os, os', xs, f1, f2, .nil, h, _, e => by
    cases e
    exact ⟨_, f1, .nil, h, rfl, fun a => by (try dsimp only); omega⟩
  | v :: vs, r :: rs, os, os', xs, f1, f2, .cons a q, h, s, e => by
    unfold mvs at e
    split at e
    · rename_i o os1 e1
      split at e
      · rename_i ys os2 e2
        cases e
        cases r with
        | tm o' =>
          cases e1
          cases s with
          | val q1 s =>
            obtain ⟨g, f3, r1, r2, r3, r4⟩ := mvs_ok q h s e2
            exact ⟨_, f3, .cons q1 r1, r2, r3, fun a => by (try dsimp only); have := r4 a; omega⟩
        | al i =>
          cases s with
          | un s =>
            have hv : σ[i]? = some (some v) := a
            have e1 : (match os[i]? with | some (some (.sh d)) => some (OD.sh d, os) | some (some (.lst xs)) => some (OD.lst xs, os.set i none) | some (some (.tpl xs)) => some (OD.tpl xs, os.set i none) | _ => none) = some (o, os1) := e1
            split at e1
            · rename_i d e3
              cases e1
              obtain ⟨v', fo, fr, q2, q3, _⟩ := h.at e3
              rw [hv] at q2; cases q2
              obtain ⟨g, f3, r1, r2, r3, r4⟩ := mvs_ok q h s e2
              cases q3 with
              | sh q3 => exact ⟨_, f3, .cons (.sh q3) r1, r2, r3, fun a => by (try dsimp only); have := r4 a; omega⟩
            · rename_i zs e3
              cases e1
              obtain ⟨v', fo, fr, q2, q3, q4, q5⟩ := SL.out h e3
              rw [hv] at q2; cases q2
              obtain ⟨g, f3, r1, r2, r3, r4⟩ := mvs_ok q q5 s e2
              exact ⟨_, f3, .cons q3 r1, r2, by rw [r3, List.length_set], fun a => by (try dsimp only); have := r4 a; rw [q4 a]; omega⟩
            · rename_i zs e3
              cases e1
              obtain ⟨v', fo, fr, q2, q3, q4, q5⟩ := SL.out h e3
              rw [hv] at q2; cases q2
              obtain ⟨g, f3, r1, r2, r3, r4⟩ := mvs_ok q q5 s e2
              exact ⟨_, f3, .cons q3 r1, r2, by rw [r3, List.length_set], fun a => by (try dsimp only); have := r4 a; rw [q4 a]; omega⟩
            · cases e1
      · cases e
    · cases e
/-- a new tuple, its items as they are owned -/
theorem pushTpl {G H : Hp} {vs : List (Option V)} {os : En} {f h g : FP} {xs : List V} {ys : List OD} (I : ∀ a, f a ≤ 1) (hid : ∀ a, f a ≠ 0 → G a = none) (sub : Sub G H) (live : ∀ a, f a ≠ 0 → H a ≠ none) (hs : SL K G H vs os h) (q : ROs K G H xs ys g) (le : ∀ a, g a + h a ≤ f a) {p : Addr} (hp : H p = none) :
    ∃ k, SI K (upd G p (.tup xs)) (upd H p (.tup xs)) (vs ++ [some (.ref p)]) (os ++ [some (.tpl ys)]) k ∧ Stp G H f (upd G p (.tup xs)) (upd H p (.tup xs)) k := by
  have gp : G p = none := by
    cases hg : G p with
    | none => rfl
    | some u => have := sub p u hg; rw [hp] at this; cases this
  have sg : Sub G (upd G p (.tup xs)) := sub_upd (Sub.refl _) gp
  have sb : Sub H (upd H p (.tup xs)) := sub_upd (Sub.refl _) hp
  have hfp : f p = 0 := by
    by_cases e : f p = 0
    · exact e
    · exact absurd hp (live p e)
  have r : RO K (upd G p (.tup xs)) (upd H p (.tup xs)) (.ref p) (.tpl ys) g := .tpl (SqT.of upd_same) (q.mono sg fun a u _ e => sb a u e)
  obtain ⟨k, k1, k2⟩ := SL.app (hs.mono sg fun a u _ e => sb a u e) (SL.val r .nil)
  have kle : ∀ a, k a ≤ f a := fun a => by rw [k2]; (try dsimp only); have := le a; omega
  refine ⟨k, ⟨k1, sub_upd2 sub, fun a => Nat.le_trans (kle a) (I a), fun a z => ?_⟩, ⟨sg, fun a o e _ => sb a o e, fun a e => ?_, fun a e => ?_, fun a z => .inl (by have := kle a; omega)⟩⟩
  · have z' : f a ≠ 0 := by have := kle a; omega
    rw [upd_ne (fun e => by subst e; exact z' hfp)]
    exact hid a z'
  · cases e' : H a with
    | none => exact absurd e' e
    | some u => rw [sb a u e']; simp
  · by_cases z : a = p
    · subst z; exact .inr (.inl hp)
    · rw [upd_ne z] at e; exact .inl e
theorem er_tupO {ev : EvEs} {ta : TA} (h : ERs K ev ta) : ER K (eTupO ev) (tTup ta) := fun σ τ G H os θ f r os' Q hl ht I e k => by
  unfold eTupO at e
  split at e
  · rename_i rs os1 e1
    split at e
    · rename_i xs os2 e2
      split at e
      · rename_i c
        cases e
        refine h σ τ G H os θ f rs os1 _ hl ht I e1 fun vs H1 k1 => ?_
        obtain ⟨G1, f1, I1, s1, a1, l1⟩ := k1
        obtain ⟨g1, k1, c1, c2, c3⟩ := SL.cut l1 I1.sl
        obtain ⟨g2, k2, c4, c5, c6⟩ := SL.cut ht c2
        obtain ⟨g, f3, m1, m2, m3, m4⟩ := mvs_ok a1 c1 c5 e2
        refine ⟨by rw [m1.len]; exact c, fun p hp => ?_⟩
        obtain ⟨h3, d1, d2⟩ := SL.app m2 c4
        obtain ⟨k4, I4, s4⟩ := pushTpl I1.one I1.hid I1.sub I1.live d1 m1 (fun a => by rw [d2, c3, c6]; have := m4 a; omega) hp
        exact k _ _ ⟨_, k4, by simpa [List.append_assoc, RV.od] using I4, s1.trans s4, .cons trivial .nil, by rw [m3]; exact l1⟩
      · cases e
    · cases e
  · cases e
theorem se_tupO {es : List Expr} {ev : EvEs} {x1 pos} (h : SEs X ev es) : SE X (eTupO ev) (.Tuple es x1 pos) := by
  obtain ⟨ta, p, q⟩ := h
  exact ⟨_, pe_tup p, er_tupO q⟩
def sAppTp (i : Nat) (ek ev : EvE) : EvS := fun os => match os[i]? with
  | some (some (.tpl _)) => match ek os with
    | some (rk, os1) => match rk.rd os1, os1[i]? with
      | some (.int k), some (some (.tpl xs)) => match ixN xs.length k with
        | some j => match xs[j]? with
          | some (.lst ys) => match ev (os1.set i none) with
            | some (.tm o, os2) => match os2[i]? with
              | some none => if ys.length < sizeLine then some (.nx (os2.set i (some (.tpl (xs.set j (.lst (ys ++ [o]))))))) else none
              | _ => none
            | _ => none
          | _ => none
        | none => none
      | _, _ => none
    | none => none
  | _ => none
theorem sr_appTp {i : Nat} {ek ev : EvE} {tk te : TE} (hk : ER K ek tk) (h : ER K ev te) : SR K R (sAppTp i ek ev) (tDrop (tBM K "list" rAppend (tOp (rIx K) (tVar i) tk) (tCons te tNil))) := fun σ G H os f res D hl I e k => by
  unfold sAppTp at e
  split at e
  · rename_i zs e0
    obtain ⟨v0, _, _, w1, w2, _⟩ := I.sl.at e0
    have w3 : ∃ p, v0 = .ref p := by
      cases w2 with
      | tpl hp _ => exact ⟨_, rfl⟩
    obtain ⟨p0, rfl⟩ := w3
    split at e
    · rename_i rk os1 e1
      split at e
      · rename_i kk xs e2 e3
        split at e
        · rename_i j e4
          split at e
          · rename_i ys e5
            split at e
            · rename_i o os2 e6
              split at e
              · rename_i e7
                split at e
                · rename_i hsz
                  cases e
                  refine ⟨.ref p0, w1, ?_⟩
                  refine hk σ [] G H os [] f rk os1 _ hl rfl (by simpa using I) e1 fun vk H1 k1 => ?_
                  have hv := k1.read1 rfl e2
                  cases hv
                  obtain ⟨G1, f1, I1, s1, l1⟩ := k1.drop rfl
                  have I1 : SI K G1 H1 σ os1 f1 := by simpa using I1
                  obtain ⟨w, fo, fr, m1, m2, m3, m4⟩ := SL.out I1.sl e3
                  rw [w1] at m1; cases m1
                  cases m2 with
                  | tpl hp0 hro =>
                    rename_i vs0
                    obtain ⟨p, us, g0, fr1, n1, n2, n3, n4, n5⟩ := hro.inner e5
                    have hat : atI vs0 kk = some (.ref p) := by
                      unfold atI
                      rw [hro.len, e4]
                      exact n1
                    refine .inr (.inl ⟨p0, vs0, kk, .ref p, rfl, rfl, sqT_sub I1.sub hp0, hat, ?_⟩)
                    refine ⟨.inl ⟨rfl, us, .inl (.inl n2)⟩, ?_⟩
                    have hf : ∀ a, f1 a = fo a + fr a := m3
                    have J1 : SI K G1 H1 σ (os1.set i none) fr := I1.forget m4 fun a => by rw [hf]; omega
                    refine h σ [] G1 H1 (os1.set i none) [] fr _ os2 _ (by simp [l1]) rfl (by simpa using J1) e6 fun v H2 k2 => ?_
                    obtain ⟨G2, f2, I2, s2, _, l2⟩ := k2
                    have I2 : SI K G2 H2 (σ ++ [some v]) (os2 ++ [some o]) f2 := by simpa [RV.od] using I2
                    obtain ⟨v', fv, f3, ev', qv, rs, hfv⟩ := I2.last l2
                    cases ev'
                    -- what is hidden stands still
                    have hz : ∀ a, fo a ≠ 0 → fr a = 0 ∧ H1 a ≠ none ∧ f2 a = 0 ∧ G2 a = none := fun a z => by
                      have one := I1.one a
                      rw [hf] at one
                      have fz : fr a = 0 := by omega
                      have hl1 : H1 a ≠ none := I1.live a (by rw [hf]; omega)
                      refine ⟨fz, hl1, ?_, ?_⟩
                      · by_cases y : f2 a = 0
                        · exact y
                        · rcases s2.fnew a y with t | t
                          · exact absurd fz t
                          · exact absurd t hl1
                      · cases y : G2 a with
                        | none => rfl
                        | some u =>
                          rcases s2.gnew a (by rw [y]; simp) with t | t | t
                          · exact absurd (I1.hid a (by rw [hf]; omega)) t
                          · exact absurd t hl1
                          · exact absurd fz t
                    have keep2 : ∀ a u, fo a ≠ 0 → H1 a = some u → H2 a = some u := fun a u z e => s2.keep a u e (hz a z).1
                    have hro2 : ROs K G2 H2 vs0 xs fo := hro.mono s2.gsub fun a u z e => keep2 a u (by omega) e
                    obtain ⟨p', us', g0', fr1', a1, a2, a3, a4, a5⟩ := hro2.inner e5
                    rw [n1] at a1; cases a1
                    have hp2 : H2 p = some (.lst us) := keep2 p _ (by rw [a4, if_pos (c := p = p) rfl]; omega) n2
                    rw [hp2] at a2; cases a2
                    refine ⟨p, us, v, rfl, rfl, hp2, by rw [n3.len]; exact hsz, ?_⟩
                    have out : ∀ a u, a ≠ p → H2 a = some u → (upd H2 p (.lst (us ++ [v]))) a = some u := fun a u z e => by rw [upd_ne z]; exact e
                    have onep : ∀ a, ((if a = p then 1 else 0) + g0' a + fr1' a) ≤ 1 := fun a => by have := I1.one a; rw [hf, a4] at this; omega
                    have q0 : g0' p = 0 ∧ fr1' p = 0 := by have := onep p; rw [if_pos (c := p = p) rfl] at this; omega
                    have zp := hz p (by rw [a4, if_pos (c := p = p) rfl]; omega)
                    have fvz : fv p = 0 ∧ f3 p = 0 := by
                      have := zp.2.2.1
                      rw [hfv] at this; omega
                    obtain ⟨gk, r1, r2⟩ := ROs.app (a3.mono (G' := G2) (H' := upd H2 p (.lst (us ++ [v]))) (Sub.refl _) fun a u z e => out a u (fun y => by subst y; exact z q0.1) e)
                      (ROs.one (qv.mono (Sub.refl _) fun a u z e => out a u (fun y => by subst y; exact z fvz.1) e))
                    obtain ⟨f6, b1, b2⟩ := a5 (upd H2 p (.lst (us ++ [v]))) (us ++ [v]) (ys ++ [o]) gk (fun a u z e => out a u (fun y => by subst y; exact z q0.2) e) upd_same r1
                    have rs3 := rs.mono (G' := G2) (H' := upd H2 p (.lst (us ++ [v]))) (Sub.refl _) fun a u z e => out a u (fun y => by subst y; exact z fvz.2) e
                    obtain ⟨f7, c1, c2⟩ := SL.into rs3 e7 w1 (.tpl (sqT_sub s2.gsub hp0) b1)
                    have c3 : ∀ a, f7 a = f3 a + ((if a = p then 1 else 0) + (g0' a + fv a) + fr1' a) := fun a => by rw [c2]; (try dsimp only); rw [b2, r2]
                    have c4 : ∀ a, f7 a = f2 a + fo a := fun a => by rw [c3, hfv, a4]; omega
                    refine k σ _ ⟨G2, f7, ⟨c1, fun a u z => out a u (fun y => by subst y; rw [zp.2.2.2] at z; cases z) (I2.sub a u z), fun a => ?_, fun a z => ?_⟩, s1.trans ⟨s2.gsub, fun a u z y => ?_, fun a z => ?_, fun a z => ?_, fun a z => ?_⟩, by simp [l2], fun _ _ => rfl⟩
                    · rw [c4]
                      by_cases y : fo a = 0
                      · have := I2.one a; omega
                      · have t := hz a y
                        have := I1.one a; rw [hf] at this
                        omega
                    · by_cases y : fo a = 0
                      · rw [c4, y] at z
                        exact I2.hid a (by omega)
                      · exact (hz a y).2.2.2
                    · refine out a u (fun t => ?_) (s2.keep a u z (by rw [hf] at y; omega))
                      subst t
                      rw [hf, a4, if_pos (c := a = a) rfl] at y
                      omega
                    · by_cases t : a = p
                      · subst t; rw [upd_same]; simp
                      · rw [upd_ne t]; exact s2.dom a z
                    · rcases s2.gnew a z with t | t | t
                      · exact .inl t
                      · exact .inr (.inl t)
                      · exact .inr (.inr (by rw [hf]; omega))
                    · rw [c4] at z
                      by_cases y : fo a = 0
                      · rcases s2.fnew a (by omega) with t | t
                        · exact .inl (by rw [hf]; omega)
                        · exact .inr t
                      · exact .inl (by rw [hf]; omega)
                · cases e
              · cases e
            · cases e
          · cases e
        · cases e
      · cases e
    · cases e
  · cases e
theorem ss_appTp (i : Nat) {x : Str} {ie e : Expr} {ek ev : EvE} {px spos apos cpos pos : Pos} (hk : SE X ek ie) (h : SE X ev e) (hN : X.N[i]? = some x := by rfl) (hv : Vis X.env.scope x := by first | exact Or.inl rfl | exact Or.inr (Or.inl rfl) | exact Or.inr (Or.inr rfl))
    (hpi : PlainIx ie := by exact fun _ _ => rfl) (hd : (x == ("__debug__" : Str)) = false := by decide) (hcd : (x == ("__classdict__" : Str)) = false := by decide) (hst : starEach (e :: []) X.env = (false, eval e X.env) :: starEach [] X.env := by rfl)
    (hbase : attributeBase (.Subscript (.Name x px) ie spos) "append" X.env (eval (.Subscript (.Name x px) ie spos) X.env) = eval (.Subscript (.Name x px) ie spos) X.env := by rfl)
    (hfew : ((backTo cpos (starEach (e :: []) X.env)).all (fun x => !x.1) && (backToKw cpos (keywordEach [] X.env)).all (fun x => x.1.isSome) && decide ((e :: ([] : List Expr)).length + ([] : List Keyword).length + (if ([] : List Keyword).isEmpty then 0 else 1) < 30)) = true := by rfl)
    (hs : swapsWith (.Call (.Attribute (.Subscript (.Name x px) ie spos) "append" apos) [e] [] cpos) none pos.line X.env = pure false := by rfl) (hline : (apos.endLine == cpos.line) = true := by rfl) :
    SS X R (sAppTp i ek ev) (.Expr (.Call (.Attribute (.Subscript (.Name x px) ie spos) "append" apos) [e] [] cpos) pos) := by
  obtain ⟨te, p, q⟩ := h
  obtain ⟨tk, p', q'⟩ := hk
  exact ⟨_, ps_expr (pe_bm PySem.F.plainAttrs_list PySem.F.slot_list_append PySem.F.type_list_append mt_append (pe_ix ix_seq (pe_var hN hv hd hcd) p' hpi) (pa_cons p pa_nil hst) hbase hfew hline hst (by rfl)) hs, sr_appTp q' q⟩

def tpl? : Option OD → Option (List OD)
  | some (.tpl xs) => some xs
  | _ => none
theorem k_tpl {xs : List OD} : tpl? (some (.tpl xs)) = some xs := rfl
theorem k_shTp {xs : List OD} : (OD.tpl xs).isSh = false := rfl
theorem b_mvNil {os : En} : mvs os [] = some ([], os) := rfl
theorem b_mvCons {os : En} {r : RV} {rs : List RV} : mvs os (r :: rs) = (give os r).bind fun p => (mvs p.2 rs).bind fun q => some (p.1 :: q.1, q.2) := by
  show (match give os r with | some (o, os1) => _ | none => none) = _
  cases give os r with
  | none => rfl
  | some p =>
    simp only [Option.bind_some]
    cases mvs p.2 rs <;> rfl
theorem b_eTupO {os : En} {es : EvEs} : eTupO es os = (es os).bind fun p => (mvs p.2 p.1).bind fun q => cond (Nat.ble q.1.length sizeLine) (some (.tm (.tpl q.1), q.2)) none := by
  unfold eTupO
  cases es os with
  | none => rfl
  | some p =>
    simp only [Option.bind_some]
    cases mvs p.2 p.1 with
    | none => rfl
    | some q =>
      simp only [Option.bind_some]
      by_cases h : q.1.length ≤ sizeLine
      · rw [if_pos h, Nat.ble_eq_true_of_le h]; rfl
      · rw [if_neg h, Bool.eq_false_iff.mpr fun z => h (Nat.le_of_ble_eq_true z)]; rfl
theorem b_sAppTp {os : En} {i : Nat} {ek ev : EvE} : sAppTp i ek ev os = ((os[i]?).bind tpl?).bind fun _ => (ek os).bind fun p => (p.1.rd p.2).bind fun k => (int? k).bind fun k => ((p.2[i]?).bind tpl?).bind fun xs => (ixN xs.length k).bind fun j => (lst? xs[j]?).bind fun ys =>
    (ev (p.2.set i none)).bind fun q => q.1.od.bind fun o => cond ((q.2[i]?).any Option.isNone && Nat.blt ys.length sizeLine) (some (.nx (q.2.set i (some (.tpl (xs.set j (.lst (ys ++ [o])))))))) none := by
  unfold sAppTp
  cases h0 : os[i]? with
  | none => rfl
  | some s =>
    cases s with
    | none => rfl
    | some o =>
      cases o with
      | sh _ => rfl
      | lst _ => rfl
      | tpl ys =>
        simp only [Option.bind_some, tpl?]
        cases ek os with
        | none => rfl
        | some p =>
          obtain ⟨rk, os1⟩ := p
          simp only [Option.bind_some]
          cases rk.rd os1 with
          | none => rfl
          | some k =>
            cases k with
            | int k =>
              simp only [Option.bind_some, int?]
              cases os1[i]? with
              | none => rfl
              | some s =>
                cases s with
                | none => rfl
                | some o =>
                  cases o with
                  | sh _ => rfl
                  | lst _ => rfl
                  | tpl xs =>
                    simp only [Option.bind_some, tpl?]
                    cases ixN xs.length k with
                    | none => rfl
                    | some j =>
                      simp only [Option.bind_some, lst?]
                      cases xs[j]? with
                      | none => rfl
                      | some o =>
                        cases o with
                        | sh _ => rfl
                        | tpl _ => rfl
                        | lst ys =>
                          simp only [Option.bind_some]
                          cases ev (os1.set i none) with
                          | none => rfl
                          | some q =>
                            obtain ⟨r, os2⟩ := q
                            cases r with
                            | al _ => rfl
                            | tm o =>
                              simp only [Option.bind_some, RV.od]
                              cases os2[i]? with
                              | none => rfl
                              | some s =>
                                cases s with
                                | some _ => rfl
                                | none =>
                                  simp only [Option.any, Option.isNone, Bool.true_and]
                                  by_cases h : ys.length < sizeLine
                                  · rw [if_pos h, show Nat.blt ys.length sizeLine = true from Nat.ble_eq_true_of_le h]; rfl
                                  · rw [if_neg h, show Nat.blt ys.length sizeLine = false from Bool.eq_false_iff.mpr fun z => h (Nat.le_of_ble_eq_true z)]; rfl
            | _ => rfl

/-! ### an operation on a list display that dies with it: nothing is made shared -/
def sc? : Op → Option PyData
  | .val d => if isSc d then some d else none
  | _ => none
def eOpL (fn : List PyData → Option Op) (es : EvEs) : EvE := fun os => match es os with
  | some (rs, os1) => match rdAll os1 rs with
    | some ds => if ds.length ≤ sizeLine then match fn [.list ds] with
      | some res => match sc? res with
        | some d => some (.tm (.sh d), os1)
        | none => none
      | none => none
      else none
    | none => none
  | none => none
theorem er_opL {fn : List PyData → Option Op} {ev : EvEs} {ta : TA} {r : List V → Hp → VK → Prop} (h : ERs K ev ta) (ok : OpOk K r fn) : ER K (eOpL fn ev) (fun σ H Q => tCons (tLst ta) tNil σ H fun vs H1 => r vs H1 Q) := fun σ τ G H os θ f r' os' Q hl ht I e k => by
  unfold eOpL at e
  split at e
  · rename_i rs os1 e1
    split at e
    · rename_i ds e2
      split at e
      · rename_i c
        split at e
        · rename_i res e3
          split at e
          · rename_i d e4
            cases e
            have e5 : res = .val d ∧ isSc d = true := by
              cases res with
              | val d' =>
                have e4 : (if isSc d' = true then some d' else none) = some d := e4
                split at e4
                · rename_i z; cases e4; exact ⟨rfl, z⟩
                · cases e4
              | nl _ => cases e4
              | nt _ => cases e4
            obtain ⟨rfl, hc⟩ := e5
            refine h σ τ G H os θ f rs _ _ hl ht I e1 fun vs H1 k1 => ?_
            obtain ⟨G1, f1, I1, s1, a1, l1⟩ := k1
            obtain ⟨hd, f2, I2, le⟩ := I1.popA l1 ht a1 e2
            refine ⟨by rw [dps_len hd]; exact c, fun p hp => ?_⟩
            have sb : Sub H1 (upd H1 p (.lst vs)) := sub_upd (Sub.refl _) hp
            refine ok.sc [.list ds] d _ _ Q e3 hc (.cons (.lst (.inl (.inl upd_same)) (dps_sub sb hd)) .nil) fun v hv => k v _ ((Kont.sh l1 (I2.grow sb) (dp_sc hv hc)).step ?_)
            exact (s1.trans (Stp.less le)).trans ⟨Sub.refl _, fun a o q _ => sb a o q, fun a q => ne_of_sub sb q, fun a q => .inl q, fun a q => .inl q⟩
          · cases e
        · cases e
      · cases e
    · cases e
  · cases e
theorem se_reprL {k : Nat} {es : List Expr} {ev : EvEs} {p pl pos : Pos} (hA : X.A.guards = some []) (hr : Room k X.A) (hm : X.mg "repr" = none) (h : SEs X ev es) (hg : Gl X "repr" := by rfl) (he : starEach (Expr.List es pl :: []) X.env = (false, eval (Expr.List es pl) X.env) :: starEach [] X.env := by rfl) :
    SE X (eOpL opRepr ev) (.Call (.Name "repr" p) [.List es pl] [] pos) := by
  obtain ⟨ta, p1, q1⟩ := h
  have := pe_callB (X := X) (x := "repr") (p := p) (pos := pos) (call_repr hA (hu65 hr)) hg hm (by decide +kernel) (pa_cons (pe_lst p1) pa_nil he) (by decide) (by decide) he rfl
  exact ⟨_, this, er_opL q1 ok_repr⟩
theorem k_scOS {x : Str} : sc? (.val (.str x)) = some (.str x) := rfl
theorem b_eOpL {os : En} {fn : List PyData → Option Op} {es : EvEs} : eOpL fn es os = (es os).bind fun p => (rdAll p.2 p.1).bind fun ds => cond (Nat.ble ds.length sizeLine) ((fn [.list ds]).bind fun res => (sc? res).bind fun d => some (.tm (.sh d), p.2)) none := by
  unfold eOpL
  cases es os with
  | none => rfl
  | some p =>
    simp only [Option.bind_some]
    cases rdAll p.2 p.1 with
    | none => rfl
    | some ds =>
      simp only [Option.bind_some]
      by_cases h : ds.length ≤ sizeLine
      · rw [if_pos h, Nat.ble_eq_true_of_le h, cond_true]
        cases fn [.list ds] with
        | none => rfl
        | some res =>
          simp only [Option.bind_some]
          cases sc? res <;> rfl
      · rw [if_neg h, Bool.eq_false_iff.mpr fun z => h (Nat.le_of_ble_eq_true z)]; rfl
end
end DX
/-! DXExf: raise X(a, ..) of an own class whose __init__ stores its arguments; the built-in class at its root is any. -/
namespace DX
open PySem PySem.Spec PyProof.Rows L2

/-- what is known of such a class -/
structure OexB (K : PySem.W.Frag) (C : Addr) (B newId initId : String) (bmB : List Value) : Prop where
  cls : ∃ nm q N bs bm sn sub ab col dd k0 k1 k2 k3 k5, K.lookup C = some (excClassObj nm q C N bs bm true sn sub ab col dd k0 k1 k2 k3 k5 newId) ∧ PySem.W.excTail bmB bm = true
  F : ExcBaseFacts B newId initId bmB
  S : StoreFacts B bmB "object.__setattr__" "object"
  sa : PySem.W.findIn K (.ref C) "__setattr__" = some (some (.builtin "object.__setattr__"))
  exC : PySem.W.subIn K (.ref C) (.type "BaseException") = some true
  tyC : PySem.W.typeIn K (.ref C) = some (.type "type")
  kC : PySem.W.keepIn K (.ref C) = true
end DX
namespace DX
open PySem PySem.Spec PyProof.Rows PySem.W PySem.Calls Builtin Builtin.ObjectAttr
section
variable {prog : Program} {w : World} {A : Around} {E : Value → Shared → Prop} {R : Result → Shared → Prop} {hp : Heap} {g : Array GenState} {d : Drawn} {t : Nat} {os : OsState}
variable {K : W.Frag} {C x dx : Addr} {B newId initId : String} {bmB : List Value} {name : Str} {tk : Tok} {v : Value} {fv : Array Value}
theorem OexB.over (T : OexB K C B newId initId bmB) : excOver K C bmB = true ∧ ∃ cd, clsIn K C = some cd ∧ cd.hasDict = true := by
  obtain ⟨nm, q, N, bs, bm, sn, sub, ab, col, dd, k0, k1, k2, k3, k5, hC, hb⟩ := T.cls
  have hcl : clsIn K C = some { name := nm, bases := bs, mro := .ref C :: bm, ns := N, qualname := q, hasDict := true, slotNames := sn, subclasses := sub, abstract := ab, collection := col, hasDel := false } := by unfold clsIn; rw [hC] <;> rfl
  refine ⟨?_, _, hcl, rfl⟩
  unfold excOver
  rw [hcl]
  show (C == C && excTail bmB bm) = true
  rw [hb, beq_self_eq_true]; rfl
theorem taker_none (h : findIn K (.ref C) name = some none) : takerIn K C name = some none := by
  unfold takerIn
  rw [h]; rfl
/-- the first field: the error's dict is made -/
theorem put_first (T : OexB K C B newId initId bmB) (X : K.In hp) (hx : hp.get? x = some { cls := .ref C, data := .fields fv }) (ha : findIn K (.ref C) name = some none)
    (hq : ∀ h' tk' dx, (∀ b o, b ≠ x → hp.get? b = some o → h'.get? b = some o) → hp.objs.size ≤ dx → dx ≠ x → h'.get? x = some { cls := .ref C, dict := some dx, data := .fields fv } →
      h'.Ns1 dx (fun y => if y = name then some v else none) → R (.ok (.ret .none)) ⟨h', g, d, tk', os⟩) :
    codeAny (model prog w) A (.call (.builtin "object.__setattr__") ⟨[.ref x, .str name tk, v], []⟩) R ⟨hp, g, d, t, os⟩ := by
  obtain ⟨ho, cd, hcd, hh⟩ := T.over
  have hxs : x ≠ hp.objs.size := Nat.ne_of_lt (Heap.lt_size hx)
  have hcls : Looks (model prog w) hp (classData C) cd := looks_clsIn X hcd
  refine osa_openX (s := ⟨hp, g, d, t, os⟩) (od := none) T.S X ⟨hx, rfl, rfl, trivial⟩ ho (taker_none ha) fun b => ?_
  show wpAny _ _ (storeInOwnDict (.ref x) (.ref C) (.str name tk) name v b) _ _ _
  obtain ⟨nm, bs, mro, ns, qn, hd, sn, sb, ab, col, del⟩ := cd
  dsimp only at hh
  subst hh
  unfold storeInOwnDict ownDictForStores
  repeat (first | with_reducible refine PySem.HandSPX.store_in_new ?_ ?_ | with_reducible refine wpAny_loadPart_at hx ?_ | with_reducible refine hcls.at ?_ | wp_step)
  · exact ⟨_, #[], _, (Heap.get?_update_ne _ _ _ _ hxs.symm).trans (Heap.get?_push_at rfl rfl), rfl, fun e he => absurd he (by simp), fun _ => rfl⟩
  · intro h' tk' hn' hs
    have hx₁ : (hp.push { cls := .type "dict", data := .dict #[] }).get? x = some { cls := .ref C, data := .fields fv } := Heap.get?_push_of_some _ hx
    refine hq h' tk' hp.objs.size (fun b o hb ho => ?_) (Nat.le_refl _) hxs.symm ?_ hn'
    · exact (hs.2 b (Nat.ne_of_lt (Heap.lt_size ho))).trans ((Heap.get?_update_ne _ _ _ _ hb).trans (Heap.get?_push_of_some _ ho))
    · exact (hs.2 x hxs).trans (Heap.get?_update_self _ hx₁ rfl)
/-- a later field -/
theorem put_next {m0 : Str → Option Value} {nl : List Str} (T : OexB K C B newId initId bmB) (X : K.In hp) (hx : hp.get? x = some { cls := .ref C, dict := some dx, data := .fields fv }) (hns : hp.Ns1 dx m0) (hw : Within m0 nl) (hz : nl.length ≤ 1000)
    (ha : findIn K (.ref C) name = some none)
    (hq : ∀ h' tk', (∀ b o, b ≠ dx → hp.get? b = some o → h'.get? b = some o) → h'.Ns1 dx (fun y => if y = name then some v else m0 y) → R (.ok (.ret .none)) ⟨h', g, d, tk', os⟩) :
    codeAny (model prog w) A (.call (.builtin "object.__setattr__") ⟨[.ref x, .str name tk, v], []⟩) R ⟨hp, g, d, t, os⟩ := by
  obtain ⟨ho, cd, hcd, hh⟩ := T.over
  obtain ⟨oD, esD, epD, hoD, hdD, _⟩ := hns.count hw
  have hcls : Looks (model prog w) hp (classData C) cd := looks_clsIn X hcd
  refine osa_openX (s := ⟨hp, g, d, t, os⟩) (od := some oD) T.S X ⟨hx, rfl, rfl, hoD⟩ ho (taker_none ha) fun b => ?_
  show wpAny _ _ (storeInOwnDict (.ref x) (.ref C) (.str name tk) name v b) _ _ _
  obtain ⟨nm, bs, mro, ns, qn, hd, sn, sb, ab, col, del⟩ := cd
  dsimp only at hh
  subst hh
  unfold storeInOwnDict ownDictForStores
  repeat (first | with_reducible refine PySem.OEX.store_in_old hns hw hz ?_ | with_reducible refine wpAny_loadPart_at hx ?_ | with_reducible refine hcls.at ?_ | wp_step)
  intro h' tk' hn' hs
  exact hq h' tk' (fun b o hb ho => (hs.2 b hb).trans ho) hn'
end
end DX
namespace DX
open PySem PySem.Spec PyProof.Rows L2
section
variable {X : Cx} {pins : List (Addr × Obj)} {σ : L2.St} {H : Hp} {s : Shared} {a C dx : Addr} {f : Str} {y : V} {u : Value} {fs : List (Str × V)} {Q : Unit → Shared → Prop} {E : Value → Shared → Prop} {A : Around} {B newId initId : String} {bmB : List Value}
theorem set_first (T : OexB X.K C B newId initId bmB) (I : Inv X pins σ H s) (e : H a = some (exo a C none)) (hno : PySem.W.findIn X.K (.ref C) f = some none) (ry : RelV y u)
    (h : ∀ dx s', H dx = none → dx ≠ a → Inv X pins σ (upd (upd H dx (exd dx [(f, y)])) a (exo a C (some dx))) s' → Q () s') : wpAny (model X.prog X.w) A (setAttr (.ref a) f u) Q E s := by
  obtain ⟨t1, ho⟩ := exo_at I.hok e
  obtain ⟨hp, g, d, t, os⟩ := s
  refine PySem.W.set_plain I.kIn (ox := { cls := .ref C, dict := none, data := .fields #[.ref t1, .none, .none, .none, .bool false, .none] }) (od := none) ⟨ho, rfl, rfl, trivial⟩ T.sa ?_
  refine put_first T I.kIn ho hno fun h' tk' dx k dn dne hx hn => ?_
  have fresh : H dx = none := I.hok.fresh dn
  have ndx : ∀ {b : Addr} {o : Obj}, hp.get? b = some o → b ≠ dx := fun q => Nat.ne_of_lt (Nat.lt_of_lt_of_le (Heap.lt_size q) dn)
  have nab : ∀ {b : Addr}, H b = none → b ≠ a := fun n z => by rw [z, e] at n; cases n
  have U : Un X.fs [] H (upd (upd H dx (exd dx [(f, y)])) a (exo a C (some dx))) hp h' := {
    keep := fun b o q n _ _ => k b o (nab n) q
    slot := fun b o q n _ _ => ⟨o.slots, k b o (nab n) q⟩
    free := fun b o q n _ => by rw [upd_ne (nab n), upd_ne (ndx q)]; exact n
    there := fun b o q _ => by
      by_cases z : b = a
      · subst z; exact ⟨_, hx⟩
      · exact ⟨o, k b o z q⟩
    tups := fun b xs q => by rw [upd_ne (at_ne e q exo_tup), upd_ne (ne_of_none q fresh)]; exact q
    frzs := fun b o v q => by rw [upd_ne (at_ne e q exo_frz), upd_ne (ne_of_none q fresh)]; exact q
    tbls := fun b ps q => ⟨#[], by rw [upd_ne (at_ne e q exo_tbl), upd_ne (ne_of_none q fresh), q]; simp⟩ }
  refine h dx _ fresh dne (I.un (t' := tk') U fun b o q => ?_)
  by_cases hb : b = a
  · subst hb
    rw [upd_same] at q; cases q
    exact exo_ok hx
  rw [upd_ne hb] at q
  by_cases hd : b = dx
  · subst hd
    rw [upd_same] at q; cases q
    exact exd_ok hn (relO_put (fs := []) ry fun _ => trivial)
  rw [upd_ne hd] at q
  exact (I.hok b o q).stay (fun c v hc z => k c v (hc.elim (fun w => by rw [w]; exact hb) fun w => at_ne e w exo_own) z)
    (fun c hc => by rw [upd_ne (at_ne e hc exo_own), upd_ne (ne_of_none hc fresh)]; exact hc) (fun c xs hc => by rw [upd_ne (at_ne e hc exo_tup), upd_ne (ne_of_none hc fresh)]; exact hc)
theorem set_next (T : OexB X.K C B newId initId bmB) (I : Inv X pins σ H s) (e : H a = some (exo a C (some dx))) (ed : H dx = some (exd dx fs)) (hl : fs.length ≤ 900) (hno : PySem.W.findIn X.K (.ref C) f = some none) (ry : RelV y u)
    (h : ∀ s', Inv X pins σ (upd H dx (exd dx ((f, y) :: fs))) s' → Q () s') : wpAny (model X.prog X.w) A (setAttr (.ref a) f u) Q E s := by
  obtain ⟨t1, ho⟩ := exo_at I.hok e
  obtain ⟨mA, hns, rel⟩ := exd_at I.hok ed
  have hw := within_of rel
  obtain ⟨hp, g, d, t, os⟩ := s
  obtain ⟨oD, _, _, hoD, _, _⟩ := hns.count hw
  refine PySem.W.set_plain I.kIn (ox := { cls := .ref C, dict := some dx, data := .fields #[.ref t1, .none, .none, .none, .bool false, .none] }) (od := some oD) ⟨ho, rfl, rfl, hoD⟩ T.sa ?_
  refine put_next T I.kIn ho hns hw (by rw [List.length_map]; omega) hno fun h' tk' k hn => ?_
  obtain ⟨o, _, _, e', _⟩ := id hn
  exact h _ (I.write (t' := tk') (x := dx) (e := dx) (o := exd dx ((f, y) :: fs)) (by rw [ed]; trivial) (.inl rfl) k ⟨o, e'⟩ (exd_ok hn (relO_put ry rel)))
/-- self.f = e -/
def tPut (K : PySem.W.Frag) (f : Str) (to te : TE) : TS := fun D σ H => te σ H fun y H1 => to σ H1 fun x H2 => ∃ (a C : Addr) (B newId initId : String) (bmB : List Value), x = .ref a ∧ OexB K C B newId initId bmB ∧ PySem.W.findIn K (.ref C) f = some none ∧
  ((H2 a = some (exo a C none) ∧ ∀ dx, H2 dx = none → dx ≠ a → D.nx σ (upd (upd H2 dx (exd dx [(f, y)])) a (exo a C (some dx)))) ∨
    ∃ (dx : Addr) (fs : List (Str × V)), H2 a = some (exo a C (some dx)) ∧ H2 dx = some (exd dx fs) ∧ fs.length ≤ 900 ∧ D.nx σ (upd H2 dx (exd dx ((f, y) :: fs))))
theorem ps_put {o e : Expr} {to te : TE} {p' pos : Pos} (ho : PE X o to) (he : PE X e te) (hs : swapsWith e (some (.Attribute o f p')) pos.line X.env = pure false := by rfl) : PS X (.Assign [.Attribute o f p'] e pos) (tPut X.K f to te) := by
  refine ⟨fun pins s σ H D I h => ?_⟩
  refine plainObj_wpAny_Assign_Attribute (thn (he.run pins s σ H _ I h) fun v s1 ⟨y, H1, I1, r1, q1⟩ => thn (ho.run pins s1 σ H1 _ I1 q1) fun u s2 ⟨x, H2, I2, r2, a, C, B, newId, initId, bmB, ex, T, hno, q⟩ => ?_) hs
  subst ex
  obtain rfl : u = Value.ref a := r2
  rcases q with ⟨ea, q⟩ | ⟨dx, fs, ea, ed, hl, q⟩
  · exact set_first T I2 ea hno r1 fun dx s' n ne J => ⟨σ, _, J, q dx n ne⟩
  · exact set_next T I2 ea ed hl hno r1 fun s' J => ⟨σ, _, J, q⟩
/-! ### X(a, ..) made -/
/-- __init__ of such a class, all of it: at a the new error; fs: its fields, the last stored first -/
def spPut (K : PySem.W.Frag) (C : Addr) (n : Nat) (fld : List V → List (Str × V)) : Sp := fun vs H Q _ => ∃ (a : Addr) (ws : List V), vs = .ref a :: ws ∧ ws.length = n ∧ H a = some (exo a C none) ∧
  ∀ (d : Addr) (H2 : Hp), H d = none → d ≠ a → H2 a = some (exo a C (some d)) → H2 d = some (exd d (fld ws)) → (∀ b, b ≠ a → b ≠ d → H2 b = H b) → Q .non H2
theorem pmk_put {CX : CXT} {x : Str} {fI : Addr} {k n : Nat} {fd : FuncData} {ps : List Str} {fld : List V → List (Str × V)} {e : Expr} {es : List Expr} {ta : TA} {p pos : Pos} (T : OexB X.K C B newId initId bmB) (iC : PySem.W.findIn X.K (.ref C) "__init__" = some (some (.ref fI))) (tI : PySem.W.typeIn X.K (.ref fI) = some (.type "function"))
    (F1 : FnOk X.prog X.w X.K X.mg X.base CX k fI fd ps (spPut X.K C n fld)) (hr : Room (k + 1) X.A) (hb : Binds X.K fd ps []) (hx : Passes CX X (fun _ _ _ => False)) (hg : Gl X x) (hm : X.mg x = some (.ref C)) (ha : PA X (e :: es) ta) (hn : n ≤ 1000)
    (hdb : (x == ("__debug__" : Str)) = false := by decide) (he : starEach (e :: es) X.env = (false, eval e X.env) :: starEach es X.env := by rfl) (hpl : (backTo pos (starEach es X.env)).any (·.1) = false := by rfl) :
    PMk X (.Call (.Name x p) (e :: es) [] pos) (fun σ H Q => ta σ H fun vs H1 => vs.length = n ∧ ∀ d, H1 d = none → Q (.ref C) (some d) (upd H1 d (.xd (fld vs)))) := by
  intro pins s σ H Q I h
  obtain ⟨nm, q, N, bs, bm, sn, sub, ab, col, dd, k0, k1, k2, k3, k5, hC, hbm⟩ := T.cls
  refine wpAny_Call_Name_kw (ld_glob I hg hm ?_ hdb)
  refine PySem.W.callWith_K (h₀ := X.base) I.ok.mod.kin T.kC (thn (ha.run pos pins s σ H _ I h) fun us s1 ⟨vs, H1, I1, r1, hz, q1⟩ => ⟨I1.kIn, ?_⟩) he hpl
  show wpAny _ _ (call (.ref C) us) _ _ _
  obtain ⟨hp, g, dr, tk, os⟩ := s1
  have hsz : hp.objs.size ≤ hp.objs.size + 1 := Nat.le_succ _
  have hnew : H1 (hp.objs.size + 1) = none := I1.hok.fresh hsz
  have kk : ∀ b o, hp.get? b = some o → ((hp.push (PySem.W.kdv_tup us)).push (PySem.HandSPX.excO C hp.objs.size)).get? b = some o := fun b o e => Heap.get?_push_of_some _ (Heap.get?_push_of_some _ e)
  have hget : ((hp.push (PySem.W.kdv_tup us)).push (PySem.HandSPX.excO C hp.objs.size)).get? (hp.objs.size + 1) = some (PySem.HandSPX.excO C hp.objs.size) := by heap_get
  have I2 : Inv X pins σ (upd H1 (hp.objs.size + 1) (exo (hp.objs.size + 1) C none)) ⟨(hp.push (PySem.W.kdv_tup us)).push (PySem.HandSPX.excO C hp.objs.size), g, dr, tk, os⟩ :=
    I1.laid (t' := tk) (a := hp.objs.size + 1) (o := exo (hp.objs.size + 1) C none) (h' := (hp.push (PySem.W.kdv_tup us)).push (PySem.HandSPX.excO C hp.objs.size)) kk hsz (exo_ok hget)
  have r2 : Vals (V.ref (hp.objs.size + 1) :: vs) (Value.ref (hp.objs.size + 1) :: us) := .cons rfl r1
  have hsp : spPut X.K C n fld (V.ref (hp.objs.size + 1) :: vs) (upd H1 (hp.objs.size + 1) (exo (hp.objs.size + 1) C none))
      (fun v H2 => v = .non ∧ ∃ (d : Addr), H2 (hp.objs.size + 1) = some (exo (hp.objs.size + 1) C (some d)) ∧ H2 d = some (exd d (fld vs)) ∧ H1 d = none ∧ Q (.ref C) (some d) (upd (del H2 (hp.objs.size + 1)) d (.xd (fld vs)))) (fun _ _ _ => False) := by
    refine ⟨_, vs, rfl, hz, upd_same, fun d H2 hd hda h1 h2 h3 => ⟨rfl, d, h1, h2, ?_, ?_⟩⟩
    · rw [upd_ne hda] at hd; exact hd
    · rw [upd_ne hda] at hd
      have ee : upd (del H2 (hp.objs.size + 1)) d (.xd (fld vs)) = upd H1 d (.xd (fld vs)) := by
        funext b
        by_cases z : b = d
        · subst z; rw [upd_same, upd_same]
        · rw [upd_ne z, upd_ne z]
          by_cases z2 : b = hp.objs.size + 1
          · subst z2; rw [del_same, hnew]
          · rw [del_ne z2, h3 b z2 z, upd_ne z2]
      rw [ee]; exact q1 d hd
  have hl : (Value.ref (hp.objs.size + 1) :: us ++ []).length = ps.length := by
    rw [List.append_nil, ← r2.length]; exact F1.len _ _ _ _ hsp
  have hus : us.length ≤ sizeLine := by
    rw [← Paired.length r1, sizeLine_eq]; omega
  refine wpAny_call (PySem.HandSPX.call_own T.F (fun Y => PySem.W.excTail_contains Y bm hbm) (I1.kIn _ _ hC) (PySem.W.looks_findIn I1.kIn iC) (fun self => PySem.W.bind_fn I1.kIn self tI) hus
    (codeAny_mono (F1.run _ X.stack _ _ ⟨Value.ref (hp.objs.size + 1) :: us, []⟩ (Value.ref (hp.objs.size + 1) :: us) _ _ (fun _ _ _ => False) (hr.make C us []) (I2.env0.make C us []) (by simpa using hb _ (Value.ref (hp.objs.size + 1) :: us) I2.kIn hl) r2 hsp) fun r s' hq' => ?_))
  cases r with
  | error er => exact hx pins σ _ _ er s' I2 hq'
  | ok fl =>
    cases fl with
    | ret u =>
      obtain ⟨v, H2, os2, bare2, un2, hok2, rv, ev, d, ea, ed, hd1, q2⟩ := hq'
      subst ev
      obtain ⟨h2, g2, d2, t2, os'⟩ := s'
      exact ⟨rv, mk_end (raises_own T.exC T.tyC) I1 hsz kk un2 hok2 os2 bare2 ea ed hd1 q2⟩
    | next => exact False.elim hq'
    | brk => exact False.elim hq'
    | cont => exact False.elim hq'
end
end DX
namespace DX
open PySem PySem.Spec PyProof.Rows L2
section
variable {K : PySem.W.Frag} {C : Addr} {B newId initId : String} {bmB : List Value} {f1 f2 f3 : Str} {vs : List V} {H : Hp} {Q : VK} {E : XK}
def fldV {α : Type} (ns : List Str) (ws : List α) : List (Str × α) := (ns.zip ws).reverse
theorem put1_pure (T : OexB K C B newId initId bmB) (n1 : PySem.W.findIn K (.ref C) f1 = some none) {N : List Str} (hN : N.length = 2) (h : spPut K C 1 (fldV [f1]) vs H Q E) :
    tPut K f1 (tVar 0) (tVar 1) { nx := fun _ H' => Q .non H', rt := Q } (start N vs) H := by
  obtain ⟨a, ws, rfl, hl, ha, k⟩ := h
  match ws, hl with
  | [y], _ =>
    refine ⟨y, rfl, .ref a, rfl, a, C, _, _, _, _, rfl, T, n1, .inl ⟨ha, fun dx h1 h2 => ?_⟩⟩
    exact k dx _ h1 h2 upd_same (by rw [upd_ne h2, upd_same]; rfl) fun b h3 h4 => by rw [upd_ne h3, upd_ne h4]
theorem put2_pure (T : OexB K C B newId initId bmB) (n1 : PySem.W.findIn K (.ref C) f1 = some none) (n2 : PySem.W.findIn K (.ref C) f2 = some none) {N : List Str} (hN : N.length = 3) (h : spPut K C 2 (fldV [f1, f2]) vs H Q E) :
    tSeq (tPut K f1 (tVar 0) (tVar 1)) (tPut K f2 (tVar 0) (tVar 2)) { nx := fun _ H' => Q .non H', rt := Q } (start N vs) H := by
  obtain ⟨a, ws, rfl, hl, ha, k⟩ := h
  match ws, hl with
  | [y, z], _ =>
    refine ⟨y, rfl, .ref a, rfl, a, C, _, _, _, _, rfl, T, n1, .inl ⟨ha, fun dx h1 h2 => ?_⟩⟩
    refine ⟨z, rfl, .ref a, rfl, a, C, _, _, _, _, rfl, T, n2, .inr ⟨dx, [(f1, y)], upd_same, by rw [upd_ne h2, upd_same], (show 1 ≤ 900 by decide), ?_⟩⟩
    exact k dx _ h1 h2 (by rw [upd_ne (Ne.symm h2), upd_same]) (by rw [upd_same]; rfl) fun b h3 h4 => by rw [upd_ne h4, upd_ne h3, upd_ne h4]
end
/-- a shared thing is laid -/
theorem SI.layG {K : PySem.W.Frag} {G H : Hp} {vs : List (Option V)} {os : En} {f : FP} (I : SI K G H vs os f) {p : Addr} {u : HO} (hp : H p = none) : SI K (upd G p u) (upd H p u) vs os f ∧ Stp G H f (upd G p u) (upd H p u) f ∧ Sub G (upd G p u) := by
  have gp : G p = none := by
    cases hg : G p with
    | none => rfl
    | some u => have := I.sub p u hg; rw [hp] at this; cases this
  have sg : Sub G (upd G p u) := sub_upd (Sub.refl _) gp
  have sb : Sub H (upd H p u) := sub_upd (Sub.refl _) hp
  have hfp : f p = 0 := by
    by_cases e : f p = 0
    · exact e
    · exact absurd hp (I.live p e)
  refine ⟨⟨I.sl.mono sg fun a u _ e => sb a u e, sub_upd2 I.sub, I.one, fun a q => by
    rw [upd_ne (fun e => by subst e; exact q hfp)]; exact I.hid a q⟩, ⟨sg, fun a o e _ => sb a o e, fun a e => ?_, fun a e => ?_, fun a z => .inl z⟩, sg⟩
  · cases e' : H a with
    | none => exact absurd e' e
    | some u => rw [sb a u e']; simp
  · by_cases z : a = p
    · subst z; exact .inr (.inl hp)
    · rw [upd_ne z] at e; exact .inl e
theorem dps_rev {K : PySem.W.Frag} {H : Hp} : ∀ {vs : List V} {ds : List PyData}, DxAll K H vs ds → DxAll K H vs.reverse ds.reverse
  | _, _, .nil => .nil
  | _, _, .cons a r => by
    rw [List.reverse_cons, List.reverse_cons]
    exact dps_app (dps_rev r) (.cons a .nil)
theorem fldV_fst {α : Type} {ns : List Str} {ws : List α} (h : ws.length = ns.length) : (fldV ns ws).map Prod.fst = ns.reverse := by
  unfold fldV
  rw [List.map_reverse, List.map_fst_zip (by omega)]
theorem fldV_snd {α : Type} {ns : List Str} {ws : List α} (h : ws.length = ns.length) : (fldV ns ws).map Prod.snd = ws.reverse := by
  unfold fldV
  rw [List.map_reverse, List.map_snd_zip (by omega)]
/-- raise X(es), X number c, its fields ns -/
def xRaiseF (c : Nat) (ns : List Str) (es : EvEs) : EvX := fun os => match es os with
  | some (rs, os1) => match rdAll os1 rs with
    | some ds => if ds.length = ns.length then some ((c, fldV ns ds), hardAll os1 rs) else none
    | none => none
  | none => none
section
variable {X : Cx} {C : Nat → Addr} {R : List Nat} {W : WX}
theorem sx_raiseF (c : Nat) {ns : List Str} {x : Str} {fI : Addr} {k : Nat} {fd : FuncData} {ps : List Str} {B newId initId : String} {bmB : List Value} {e : Expr} {es : List Expr} {ev : EvEs} {p pos pos' : Pos} (hc : X.calm = true) (tk : Takes X W) (T : OexB X.K (C c) B newId initId bmB) (hm : X.mg x = some (.ref (C c)))
    (iC : PySem.W.findIn X.K (.ref (C c)) "__init__" = some (some (.ref fI))) (tI : PySem.W.typeIn X.K (.ref fI) = some (.type "function")) (F1 : FnOk X.prog X.w X.K X.mg X.base CX0 k fI fd ps (spPut X.K (C c) ns.length (fldV ns))) (hr : Room (k + 1) X.A) (hb : Binds X.K fd ps [])
    (h : SEs X ev (e :: es)) (hn : ns.length ≤ 1000 := by decide) (h0 : ns ≠ [] := by decide) (hg : Gl X x := by rfl) (hdb : (x == ("__debug__" : Str)) = false := by decide) (he : starEach (e :: es) X.env = (false, eval e X.env) :: starEach es X.env := by rfl) (hpl : (backTo pos (starEach es X.env)).any (·.1) = false := by rfl) :
    SXS X C R W (fun _ => none) (xRaiseF c ns ev) (.Raise (some (.Call (.Name x p) (e :: es) [] pos)) none pos') := by
  obtain ⟨ta, q1, q2⟩ := h
  refine ⟨_, ps_raise hc tk (pmk_put T iC tI F1 hr hb pass0 hg hm q1 hn hdb he hpl), (by intro σ G H os f res D hl I e k; cases e), ?_⟩
  intro σ G H os f x' os' D hl I e k
  unfold xRaiseF at e
  split at e
  · rename_i rs os1 e1
    split at e
    · rename_i ds e2
      split at e
      · rename_i hds
        cases e
        refine q2 σ [] G H os [] f rs os1 _ hl rfl (by simpa using I) e1 fun vs H1 k1 => ?_
        obtain ⟨G1, g1, I1, s1, a1, l1⟩ := k1
        obtain ⟨G2, g2, I2, s2, hd⟩ := I1.popC l1 rfl a1 e2
        have hv : vs.length = ns.length := by rw [dps_len hd]; exact hds
        refine ⟨hv, fun d hnew => ?_⟩
        obtain ⟨I3, s3, sg⟩ := I2.layG (u := .xd (fldV ns vs)) hnew
        refine k σ _ (some d) ⟨_, g2, by simpa using I3, (s1.trans s2).trans s3, by rw [len_hardAll]; exact l1, fun _ _ => rfl, .inr ⟨?_, d, fldV ns vs, rfl, upd_same, ?_, ?_⟩⟩
        · intro z
          have := congrArg (List.map Prod.fst) z
          rw [fldV_fst hds] at this
          exact h0 (List.reverse_eq_nil_iff.mp this)
        · rw [fldV_fst hv, fldV_fst hds]
        · rw [fldV_snd hv, fldV_snd hds]
          exact dps_rev (dps_sub sg hd)
      · cases e
    · cases e
  · cases e
end
theorem b_xRaiseF {c : Nat} {ns : List Str} {es : EvEs} {os : En} : xRaiseF c ns es os = (es os).bind fun p => (rdAll p.2 p.1).bind fun ds => cond (Nat.beq ds.length ns.length) (some ((c, fldV ns ds), hardAll p.2 p.1)) none := by
  unfold xRaiseF
  cases es os with
  | none => rfl
  | some p =>
    simp only [Option.bind_some]
    cases rdAll p.2 p.1 with
    | none => rfl
    | some ds =>
      simp only [Option.bind_some]
      by_cases h : ds.length = ns.length
      · rw [if_pos h, h, show Nat.beq ns.length ns.length = true from Nat.beq_refl _]; rfl
      · rw [if_neg h, Bool.eq_false_iff.mpr fun z => h (Nat.eq_of_beq_eq_true z)]; rfl
theorem xfC {K : PySem.W.Frag} {D : Addr} (E : ExcC K D) : XfC K D := ⟨E.hg, E.hk, E.hs, E.hd⟩
/-- what stands of a class of errors that has an __init__ of its own -/
structure ErrI (K : PySem.W.Frag) (mg : Str → Option Value) (x : Str) (a : Addr) (B newId initId : String) (bmB : List Value) (fI : Addr) : Prop where
  g : mg x = some (.ref a)
  T : OexB K a B newId initId bmB
  iC : PySem.W.findIn K (.ref a) "__init__" = some (some (.ref fI))
  tI : PySem.W.typeIn K (.ref fI) = some (.type "function")
theorem spPut_len {K : PySem.W.Frag} {C : Addr} {n : Nat} {fld : List V → List (Str × V)} {vs : List V} {H : Hp} {Q : VK} {E : XK} (h : spPut K C n fld vs H Q E) : vs.length = n + 1 := by
  obtain ⟨a, ws, rfl, hl, _⟩ := h
  rw [List.length_cons, hl]
end DX
/-! DXSeq: reversed in a for; list(x), tuple(x); lists that own their items. -/
namespace DX
open PySem PySem.Spec PyProof.Rows L2 RT
section
variable {K : PySem.W.Frag} {X : Cx} {R : List Nat}
def seqD : PyData → Option (List PyData)
  | .list ds => some ds
  | .tuple ds => some ds
  | _ => none
def iRvs (ev : EvE) : EvI := fun os => match ev os with
  | some (r, os1) => match rdAll os1 [r] with
    | some [d] => match seqD d with
      | some ds => some (ds.reverse, hardAll os1 [r])
      | none => none
    | _ => none
  | none => none
theorem rev_get {α : Type} {xs : List α} {i : Nat} (h : i < xs.length) : xs.reverse[i]? = xs[xs.length - 1 - i]? := List.getElem?_reverse h
theorem ir_rev {ev : EvE} {te : TE} (h : ER K ev te) : IR K (iRvs ev) (iRevA K te) := fun σ τ G H os θ f ds os' Q hl ht I e k => by
  unfold iRvs at e
  split at e
  · rename_i r os1 e1
    split at e
    · rename_i d e2
      split at e
      · rename_i ds' e3
        cases e
        refine h σ τ G H os θ f r os1 _ hl ht I e1 fun v H1 k1 => ?_
        obtain ⟨G1, f1, I1, s1, a1, l1⟩ := k1
        obtain ⟨G2, f2, I2, s2, hd⟩ := I1.popC l1 ht a1 e2
        obtain ⟨w, ew, hd⟩ := dps1 hd
        cases ew
        have s3 := s1.trans s2
        have l2 : σ.length = (hardAll os1 [r]).length := by rw [len_hardAll]; exact l1
        have back : ∀ {vs : List V} {xs : List PyData} {i : Nat} {x : V} {d : PyData} {G' : Hp}, DxAll K G' vs xs → xs.reverse[i]? = some d → vs[vs.length - 1 - i]? = some x → Dx K G' x d := fun {vs xs i x d G'} qs hd hx => by
          have hi : i < xs.length := by
            have := lt_of_get hd
            rwa [List.length_reverse] at this
          rw [rev_get hi] at hd
          obtain ⟨v, e5, e6⟩ := dps_get qs hd
          rw [← dps_len qs, hx] at e5
          cases e5; exact e6
        have there : ∀ {vs : List V} {xs : List PyData} {i : Nat} {G' : Hp}, DxAll K G' vs xs → i < xs.reverse.length → i < vs.length ∧ ∃ x, vs[vs.length - 1 - i]? = some x := fun {vs xs i G'} qs hi => by
          rw [List.length_reverse, ← dps_len qs] at hi
          exact ⟨hi, _, List.getElem?_eq_getElem (by omega)⟩
        cases d with
        | list xs =>
          cases e3
          cases hd with
          | lst q qs =>
            rename_i a vs
            refine ⟨a, vs, rfl, .inl ⟨sqL_sub I2.sub q, k _ H1 G2 f2 I2 s3 l2 fun i G3 H3 g1 g2 => ⟨fun hi => ?_, fun hi => ?_, fun x H4 d hd y => ?_⟩⟩⟩
            · obtain ⟨h1, x, h2⟩ := there qs hi
              exact ⟨h1, vs, x, sqL_sub (g1.trans g2) q, h2⟩
            · show vs.length ≤ i
              rw [List.length_reverse, ← dps_len qs] at hi; exact hi
            · obtain ⟨rfl, y⟩ := y
              exact ⟨G3, Nw.refl g2, dp_sub g1 (back qs hd (y vs (sqL_sub (g1.trans g2) q)))⟩
        | tuple xs =>
          cases e3
          cases hd with
          | tup q qs =>
            rename_i a vs
            refine ⟨a, vs, rfl, .inr ⟨sqT_sub I2.sub q, k _ H1 G2 f2 I2 s3 l2 fun i G3 H3 g1 g2 => ⟨fun hi => ?_, fun hi => ?_, fun x H4 d hd y => ?_⟩⟩⟩
            · obtain ⟨h1, x, h2⟩ := there qs hi
              exact ⟨h1, vs, x, sqT_sub (g1.trans g2) q, h2⟩
            · show vs.length ≤ i
              rw [List.length_reverse, ← dps_len qs] at hi; exact hi
            · obtain ⟨rfl, y⟩ := y
              exact ⟨G3, Nw.refl g2, dp_sub g1 (back qs hd (y vs (sqT_sub (g1.trans g2) q)))⟩
        | none => cases e3
        | bool _ => cases e3
        | int _ => cases e3
        | str _ => cases e3
        | dict _ => cases e3
      · cases e
    · cases e
  · cases e
theorem si_rev {tg l : Expr} {ev : EvE} {p pos : Pos} (hm : X.mg "reversed" = none) (h : SE X ev l) (hg : Gl X "reversed" := by rfl) (hs : starEach [l] X.env = (false, eval l X.env) :: starEach [] X.env := by rfl) : SI' X tg (iRvs ev) (.Call (.Name "reversed" p) [l] [] pos) := by
  obtain ⟨te, p1, q1⟩ := h
  exact ⟨_, pi_revA hg hm p1 hs, ir_rev q1⟩
theorem b_iRev {ev : EvE} {os : En} : iRvs ev os = (ev os).bind fun p => (p.1.rd p.2).bind fun d => (seqD d).bind fun ds => some (ds.reverse, hard p.2 p.1) := by
  unfold iRvs
  cases ev os with
  | none => rfl
  | some p =>
    obtain ⟨r, os1⟩ := p
    simp only [Option.bind_some]
    rw [b_rdCons]
    cases r.rd os1 with
    | none => rfl
    | some d =>
      simp only [Option.bind_some, b_rdNil, hardAll]
      cases seqD d <;> rfl
theorem k_sqdL {ds : List PyData} : seqD (.list ds) = some ds := rfl
theorem k_sqdT {ds : List PyData} : seqD (.tuple ds) = some ds := rfl

/-! ### list(x) -/
def opList : List PyData → Option Op
  | [.list ds] => some (.nl ds)
  | [.tuple ds] => some (.nl ds)
  | _ => none
def rList (K : PySem.W.Frag) : List V → Hp → VK → Prop := fun xs H Q => ∃ p ys, xs = [.ref p] ∧ (SqL K H p ys ∨ SqT K H p ys) ∧ ∀ l, H l = none → Q (.ref l) (upd H l (.lst ys))
theorem opList_nl {ds : List PyData} {res : Op} (h : opList ds = some res) : ∃ es, res = .nl es ∧ (ds = [.list es] ∨ ds = [.tuple es]) := by
  unfold opList at h
  split at h
  · cases h; exact ⟨_, rfl, .inl rfl⟩
  · cases h; exact ⟨_, rfl, .inr rfl⟩
  · cases h
theorem ok_list : OpOk K (rList K) opList where
  sc := fun ds d H vs Q h _ hd k => by
    obtain ⟨es, z, _⟩ := opList_nl h
    cases z
  el := fun ds d G H vs Q h z s hd k => by
    obtain ⟨es, z, _⟩ := opList_nl h
    cases z
  nl := fun ds es G H vs Q h s hd k => by
    obtain ⟨es', z, w⟩ := opList_nl h
    cases z
    rcases w with rfl | rfl
    · cases hd with
      | cons a r =>
        cases r
        cases a with
        | sh q =>
          cases q with
          | lst q qs => exact ⟨_, _, rfl, .inl (sqL_sub s q), fun l hl => k _ l qs hl⟩
        | own q qs => exact ⟨_, _, rfl, .inl (.inl (.inl q)), fun l hl => k _ l qs hl⟩
    · cases hd with
      | cons a r =>
        cases r
        cases a with
        | sh q =>
          cases q with
          | tup q qs => exact ⟨_, _, rfl, .inr (sqT_sub s q), fun l hl => k _ l qs hl⟩
  nt := fun ds es G H vs Q h s hd k => by
    obtain ⟨es', z, _⟩ := opList_nl h
    cases z
theorem se_list1 {e : Expr} {ev : EvEs} {p pos : Pos} (hm : X.mg "list" = none) (h : SEs X ev [e]) (hg : Gl X "list" := by rfl) (he : starEach (e :: []) X.env = (false, eval e X.env) :: starEach [] X.env := by rfl) : SE X (eOp opList ev) (.Call (.Name "list" p) [e] [] pos) :=
  se_bt call_list_of ok_list hm h (by decide +kernel) hg (by decide) (by decide) he rfl
theorem o_listL {ds : List PyData} : opList [.list ds] = some (.nl ds) := rfl
theorem o_listT {ds : List PyData} : opList [.tuple ds] = some (.nl ds) := rfl

/-! ### a list display that owns its items -/
def eLstO (es : EvEs) : EvE := fun os => match es os with
  | some (rs, os1) => match mvs os1 rs with
    | some (xs, os2) => if xs.length ≤ sizeLine then some (.tm (.lst xs), os2) else none
    | none => none
  | none => none
theorem pushLst {G H : Hp} {vs : List (Option V)} {os : En} {f h g : FP} {xs : List V} {ys : List OD} (one : ∀ a, f a ≤ 1) (hid : ∀ a, f a ≠ 0 → G a = none) (sub : Sub G H) (live : ∀ a, f a ≠ 0 → H a ≠ none) (hs : SL K G H vs os h) (q : ROs K G H xs ys g) (le : ∀ a, g a + h a ≤ f a) {p : Addr} (hp : H p = none) :
    ∃ k, SI K G (upd H p (.lst xs)) (vs ++ [some (.ref p)]) (os ++ [some (.lst ys)]) k ∧ Stp G H f G (upd H p (.lst xs)) k := by
  have sb : Sub H (upd H p (.lst xs)) := sub_upd (Sub.refl _) hp
  have hfp : f p = 0 := by
    by_cases e : f p = 0
    · exact e
    · exact absurd hp (live p e)
  have r : RO K G (upd H p (.lst xs)) (.ref p) (.lst ys) _ := .lst upd_same (q.mono (Sub.refl _) fun a u _ e => sb a u e)
  obtain ⟨k, k1, k2⟩ := SL.app (hs.mono (Sub.refl _) fun a u _ e => sb a u e) (SL.val r .nil)
  have k3 : ∀ a, k a = h a + ((if a = p then 1 else 0) + g a) := fun a => by rw [k2]; rfl
  refine ⟨k, ⟨k1, sub.trans sb, fun a => ?_, fun a z => ?_⟩, ⟨Sub.refl _, fun a o e _ => sb a o e, fun a e => ?_, fun a e => .inl e, fun a z => ?_⟩⟩
  · rw [k3]
    have := one a
    have := le a
    by_cases e : a = p
    · subst e; rw [if_pos rfl]; omega
    · rw [if_neg e]; omega
  · rw [k3] at z
    by_cases e : a = p
    · subst e
      cases hg : G a with
      | none => rfl
      | some u => have := sub a u hg; rw [hp] at this; cases this
    · rw [if_neg e] at z
      exact hid a (by have := le a; omega)
  · cases e' : H a with
    | none => exact absurd e' e
    | some u => rw [sb a u e']; simp
  · rw [k3] at z
    by_cases e : a = p
    · subst e; exact .inr hp
    · rw [if_neg e] at z
      exact .inl (by have := le a; omega)
theorem er_lstO {ev : EvEs} {ta : TA} (h : ERs K ev ta) : ER K (eLstO ev) (tLst ta) := fun σ τ G H os θ f r os' Q hl ht I e k => by
  unfold eLstO at e
  split at e
  · rename_i rs os1 e1
    split at e
    · rename_i xs os2 e2
      split at e
      · rename_i c
        cases e
        refine h σ τ G H os θ f rs os1 _ hl ht I e1 fun vs H1 k1 => ?_
        obtain ⟨G1, f1, I1, s1, a1, l1⟩ := k1
        obtain ⟨g1, k1, c1, c2, c3⟩ := SL.cut l1 I1.sl
        obtain ⟨g2, k2, c4, c5, c6⟩ := SL.cut ht c2
        obtain ⟨g, f3, m1, m2, m3, m4⟩ := mvs_ok a1 c1 c5 e2
        refine ⟨by rw [m1.len]; exact c, fun p hp => ?_⟩
        obtain ⟨h3, d1, d2⟩ := SL.app m2 c4
        obtain ⟨k4, I4, s4⟩ := pushLst I1.one I1.hid I1.sub I1.live d1 m1 (fun a => by rw [d2, c3, c6]; have := m4 a; omega) hp
        exact k _ _ ⟨_, k4, by simpa [List.append_assoc, RV.od] using I4, s1.trans s4, .cons trivial .nil, by rw [m3]; exact l1⟩
      · cases e
    · cases e
  · cases e
theorem se_lstO {es : List Expr} {ev : EvEs} {pos : Pos} (h : SEs X ev es) : SE X (eLstO ev) (.List es pos) := by
  obtain ⟨ta, p, q⟩ := h
  exact ⟨_, pe_lst p, er_lstO q⟩
theorem b_eLstO {os : En} {es : EvEs} : eLstO es os = (es os).bind fun p => (mvs p.2 p.1).bind fun q => cond (Nat.ble q.1.length sizeLine) (some (.tm (.lst q.1), q.2)) none := by
  unfold eLstO
  cases es os with
  | none => rfl
  | some p =>
    simp only [Option.bind_some]
    cases mvs p.2 p.1 with
    | none => rfl
    | some q =>
      simp only [Option.bind_some]
      by_cases h : q.1.length ≤ sizeLine
      · rw [if_pos h, Nat.ble_eq_true_of_le h]; rfl
      · rw [if_neg h, Bool.eq_false_iff.mpr fun z => h (Nat.le_of_ble_eq_true z)]; rfl
end
end DX
/-! DXSat: worths run forwards: what holds of what comes out. -/
namespace DX
open PySem PySem.Spec PyProof.Rows L2

/-- the turns that a while may take -/
def fuel : Nat := 2 ^ 5000
theorem fuel_of {n : Nat} (h : n < 2 ^ 4000) : n < fuel := Nat.lt_of_lt_of_le h (Nat.pow_le_pow_right (by decide) (by decide))
theorem fuel_lt {n : Nat} (h : n < 1000000000000) : n < fuel := fuel_of (Nat.lt_of_lt_of_le h (Nat.le_trans (show 1000000000000 ≤ 2 ^ 40 by decide) (Nat.pow_le_pow_right (by decide) (by decide))))
def Sat {α : Type} (x : Option α) (P : α → Prop) : Prop := ∃ a, x = some a ∧ P a
section
variable {α β : Type} {x y : Option α} {P Q : α → Prop}
theorem Sat.mono (h : Sat x P) (k : ∀ a, P a → Q a) : Sat x Q := by
  obtain ⟨a, e, p⟩ := h
  exact ⟨a, e, k a p⟩
theorem Sat.of {a : α} (h : x = some a) (p : P a) : Sat x P := ⟨a, h, p⟩
theorem z_some {a : α} : Sat (some a) P = P a := propext ⟨fun ⟨_, e, p⟩ => by cases e; exact p, fun p => ⟨_, rfl, p⟩⟩
theorem z_none : Sat (none : Option α) P = False := propext ⟨fun ⟨_, e, _⟩ => (nomatch e), False.elim⟩
/-- what follows, shut until its turn -/
def Then (f : β → Option α) (P : α → Prop) (b : β) : Prop := Sat (f b) P
theorem z_then {f : β → Option α} {b : β} : Then f P b = Sat (f b) P := rfl
theorem z_bind {x : Option β} {f : β → Option α} : Sat (x.bind f) P = Sat x (Then f P) := by
  cases x with
  | none => rw [Option.bind_none, z_none, z_none]
  | some b => rw [Option.bind_some, z_some]; rfl
def MapK (f : β → α) (P : α → Prop) (b : β) : Prop := P (f b)
theorem z_mapK {f : β → α} {b : β} : MapK f P b = P (f b) := rfl
theorem z_map {x : Option β} {f : β → α} : Sat (x.map f) P = Sat x (MapK f P) := by
  cases x with
  | none => rw [Option.map_none, z_none, z_none]
  | some b => rw [Option.map_some, z_some, z_some]; rfl
theorem z_guard {c : Bool} : Sat (cond c x none) P = (c = true ∧ Sat x P) := by
  cases c
  · exact propext ⟨fun h => by rw [cond_false, z_none] at h; exact h.elim, fun h => nomatch h.1⟩
  · exact propext ⟨fun h => ⟨rfl, h⟩, fun h => h.2⟩
theorem z_guardN {c : Bool} : Sat (cond c none x) P = (c = false ∧ Sat x P) := by
  cases c
  · exact propext ⟨fun h => ⟨rfl, h⟩, fun h => h.2⟩
  · exact propext ⟨fun h => by rw [cond_true, z_none] at h; exact h.elim, fun h => nomatch h.1⟩
theorem Sat.at {x : Option α} {a : α} (h : x = some a) (p : P a) : Sat x P := ⟨a, h, p⟩
theorem Sat.split {c : Bool} (h : c = true → Sat x P) (g : c = false → Sat y P) : Sat (cond c x y) P := by
  cases c
  · exact g rfl
  · exact h rfl
theorem Sat.splitD {p : Prop} [Decidable p] (h : p → Sat x P) (g : ¬p → Sat y P) : Sat (cond (decide p) x y) P := Sat.split (fun z => h (of_decide_eq_true z)) fun z => g (of_decide_eq_false z)
end
theorem k_condSomeP {α : Type} {c : Bool} {a b : α} {z : En} : cond c (some (a, z)) (some (b, z)) = some (cond c a b, z) := by cases c <;> rfl
theorem k_condNx {c : Bool} {a b : En} : cond c (some (Res.nx a)) (some (Res.nx b)) = some (Res.nx (cond c a b)) := by cases c <;> rfl
theorem k_condEn {c : Bool} {x y : Option OD} {xs ys : En} : cond c (x :: xs) (y :: ys) = cond c x y :: cond c xs ys := by cases c <;> rfl
theorem k_condSl {c : Bool} {a b : PyData} : cond c (some (OD.sh a)) (some (OD.sh b)) = some (OD.sh (cond c a b)) := by cases c <;> rfl
theorem k_condPair {α β : Type} {c : Bool} {a b : α} {z : β} : cond c (a, z) (b, z) = (cond c a b, z) := by cases c <;> rfl
theorem k_condTm {c : Bool} {a b : OD} : cond c (RV.tm a) (RV.tm b) = RV.tm (cond c a b) := by cases c <;> rfl
theorem k_condSh {c : Bool} {a b : PyData} : cond c (OD.sh a) (OD.sh b) = OD.sh (cond c a b) := by cases c <;> rfl
theorem k_condI {c : Bool} {a b : Int} : cond c (PyData.int a) (PyData.int b) = PyData.int (cond c a b) := by cases c <;> rfl
theorem k_condB {c a b : Bool} : cond c (PyData.bool a) (PyData.bool b) = PyData.bool (cond c a b) := by cases c <;> rfl
theorem k_condAnd {c b : Bool} : cond c b false = (c && b) := by cases c <;> rfl
theorem k_condOr {c b : Bool} : cond c true b = (c || b) := by cases c <;> rfl
theorem k_condNot {c : Bool} : cond c false true = !c := by cases c <;> rfl
/-- behind a statement comes b -/
def SeqK (b : EvS) (P : Res → Prop) (r : Res) : Prop := match r with
  | .nx os => Sat (b os) P
  | r => P r
section
variable {a b : EvS} {t : EvT} {P K : Res → Prop} {os : En} {o : OD}
theorem z_seqN : SeqK b P (.nx os) = Sat (b os) P := rfl
theorem z_seqR : SeqK b P (.rt o os) = P (.rt o os) := rfl
theorem z_seqB : SeqK b P (.bk os) = P (.bk os) := rfl
theorem z_seqC : SeqK b P (.ct os) = P (.ct os) := rfl
theorem z_sSeq : Sat (sSeq a b os) P = Sat (a os) (SeqK b P) := by
  rw [b_sSeq, z_bind]
  congr 1
  funext r
  rw [z_then]
  cases r with
  | nx os => rfl
  | rt o os => exact z_some
  | bk os => exact z_some
  | ct os => exact z_some
def IfK (a b : EvS) (P : Res → Prop) (p : Bool × En) : Prop := Sat (cond p.1 (a p.2) (b p.2)) P
theorem z_ifK {c : Bool} : IfK a b P (c, os) = Sat (cond c (a os) (b os)) P := rfl
theorem z_sIf : Sat (sIf t a b os) P = Sat (t os) (IfK a b P) := by rw [b_sIf, z_bind]; rfl
/-- behind a turn of a loop -/
def ForK (I : En → Prop) (K : Res → Prop) (r : Res) : Prop := match r with
  | .nx os => I os
  | .ct os => I os
  | .bk os => K (.nx os)
  | .rt o os => K (.rt o os)
theorem z_forN {I : En → Prop} : ForK I K (.nx os) = I os := rfl
theorem z_forC {I : En → Prop} : ForK I K (.ct os) = I os := rfl
theorem z_forB {I : En → Prop} : ForK I K (.bk os) = K (.nx os) := rfl
theorem z_forR {I : En → Prop} : ForK I K (.rt o os) = K (.rt o os) := rfl
theorem Sat.for {tv : EvG} {b : EvS} {ds : List PyData} {os : En} (I : List PyData → En → Prop) (h0 : I ds os) (h : ∀ d ds os, I (d :: ds) os → Sat (forStep tv b d os) (ForK (I ds) K)) (hK : ∀ os, I [] os → K (.nx os)) : Sat (forF tv b ds os) K := by
  obtain ⟨r, h1, h2⟩ := for_inv I K hK (fun d ds os i => by
    obtain ⟨r, e, p⟩ := h d ds os i
    refine ⟨r, e, ?_⟩
    cases r with
    | nx os => exact p
    | ct os => exact p
    | bk os => exact p
    | rt o os => exact p) ds os h0
  exact ⟨r, h1, h2⟩
theorem Sat.forM {α : Type} {tv : EvG} {b : EvS} {g : α → PyData} {os : En} (xs : List α) (I : List α → List α → En → Prop) (h0 : I [] xs os) (h : ∀ pre x post os, xs = pre ++ x :: post → I pre (x :: post) os → Sat (forStep tv b (g x) os) (ForK (I (pre ++ [x]) post) K))
    (hK : ∀ os, I xs [] os → K (.nx os)) : Sat (forF tv b (xs.map g) os) K := by
  refine Sat.for (fun ds os => ∃ pre post, xs = pre ++ post ∧ ds = post.map g ∧ I pre post os) ⟨[], xs, rfl, rfl, h0⟩ (fun d ds os ⟨pre, post, e1, e2, i⟩ => ?_) fun os ⟨pre, post, e1, e2, i⟩ => ?_
  · cases post with
    | nil => cases e2
    | cons x post =>
      rw [List.map_cons] at e2
      obtain ⟨rfl, rfl⟩ := List.cons.inj e2
      refine (h pre x post os e1 i).mono fun r hr => ?_
      have hx : xs = (pre ++ [x]) ++ post := by rw [e1, List.append_assoc]; rfl
      cases r with
      | nx os => exact ⟨pre ++ [x], post, hx, rfl, hr⟩
      | ct os => exact ⟨pre ++ [x], post, hx, rfl, hr⟩
      | bk os => exact hr
      | rt o os => exact hr
  · have : post = [] := by
      cases post with
      | nil => rfl
      | cons _ _ => cases e2
    subst this
    rw [List.append_nil] at e1
    subst e1
    exact hK os i
theorem Sat.while {t : EvT} {b : EvS} {k : Nat} {os : En} (I : Nat → En → Prop) (n : Nat) (hn : n < k) (h0 : I n os) (h : ∀ n os, I n os → Sat (t os) (fun p => (p.1 = false → K (.nx p.2)) ∧ (p.1 = true → Sat (b p.2) (ForK (fun os' => ∃ m, m < n ∧ I m os') K)))) : Sat (whF t b k os) K := by
  obtain ⟨r, h1, h2⟩ := wh_inv I K (fun n os i => by
    obtain ⟨p, e, q1, q2⟩ := h n os i
    refine ⟨p.1, p.2, e, q1, fun c => ?_⟩
    obtain ⟨r, e, z⟩ := q2 c
    refine ⟨r, e, ?_⟩
    cases r with
    | nx os => exact z
    | ct os => exact z
    | bk os => exact z
    | rt o os => exact z) k n os hn h0
  exact ⟨r, h1, h2⟩
end
theorem sat_lc {own : List Nat} {tv : EvG} {c : EvT} {ev : EvE} {K : List OD × En → Prop} (I : List PyData → List OD → En → Prop) (h : ∀ d ds acc os, I (d :: ds) acc os → Sat (lcStep own tv c ev d os) (fun r => I ds (acc ++ r.1.toList) r.2)) (hK : ∀ acc os, I [] acc os → K (acc, os)) :
    ∀ (ds : List PyData) (acc : List OD) (os : En), I ds acc os → acc.length + ds.length ≤ sizeLine → Sat (lcF own tv c ev ds os acc) K
  | [], acc, os, i, _ => ⟨(acc, os), rfl, hK acc os i⟩
  | d :: ds, acc, os, i, hn => by
    obtain ⟨r, h1, h2⟩ := h d ds acc os i
    rw [b_lcCons]
    simp only [List.length_cons] at hn
    unfold lcStep at h1
    cases e1 : tv d os with
    | none => rw [e1] at h1; cases h1
    | some os1 =>
      rw [e1] at h1
      simp only [Option.bind_some] at h1 ⊢
      cases e2 : c os1 with
      | none => rw [e2] at h1; cases h1
      | some q =>
        obtain ⟨b, os2⟩ := q
        rw [e2] at h1
        simp only [Option.bind_some] at h1 ⊢
        cases b with
        | false =>
          simp only [cond_false] at h1 ⊢
          cases h1
          exact sat_lc I h hK ds acc _ (by simpa using h2) (by omega)
        | true =>
          simp only [cond_true] at h1 ⊢
          cases e3 : ev os2 with
          | none => rw [e3] at h1; cases h1
          | some p =>
            rw [e3] at h1
            simp only [Option.bind_some] at h1 ⊢
            cases e4 : cv (hard p.2 p.1) p.1 with
            | none => rw [e4] at h1; cases h1
            | some o =>
              rw [e4] at h1
              simp only [Option.bind_some] at h1 ⊢
              cases h1
              have hb : Nat.blt acc.length sizeLine = true := Nat.ble_eq_true_of_le (by omega)
              rw [hb, cond_true]
              exact sat_lc I h hK ds (acc ++ [o]) _ (by simpa using h2) (by simp; omega)
theorem Sat.lc {own : List Nat} {tv : EvG} {c : EvT} {ev : EvE} {K : List OD × En → Prop} {ds : List PyData} {os : En} (I : List PyData → List OD → En → Prop) (h0 : I ds [] os) (hn : ds.length ≤ sizeLine) (h : ∀ d ds acc os, I (d :: ds) acc os → Sat (lcStep own tv c ev d os) (fun r => I ds (acc ++ r.1.toList) r.2)) (hK : ∀ acc os, I [] acc os → K (acc, os)) :
    Sat (lcF own tv c ev ds os []) K := sat_lc I h hK ds [] os h0 (by simpa using hn)
/-- each item by itself -/
theorem Sat.lcM {α : Type} {own : List Nat} {tv : EvG} {c : EvT} {ev : EvE} {K : List OD × En → Prop} {os : En} {g : α → PyData} {xs : List α} (f : α → OD) (hn : xs.length ≤ sizeLine) (h : ∀ x ∈ xs, Sat (lcStep own tv c ev (g x) os) (fun r => r = (some (f x), os))) (hK : K (xs.map f, os)) :
    Sat (lcF own tv c ev (xs.map g) os []) K := by
  refine ⟨_, lc_mapS g f xs (fun x m => ?_) hn, hK⟩
  obtain ⟨r, e, rfl⟩ := h x m
  exact e
theorem Sat.lcF {α : Type} {own : List Nat} {tv : EvG} {c : EvT} {ev : EvE} {K : List OD × En → Prop} {os : En} {g : α → PyData} {xs : List α} (f : α → Option OD) (hn : xs.length ≤ sizeLine) (h : ∀ x ∈ xs, Sat (lcStep own tv c ev (g x) os) (fun r => r = (f x, os))) (hK : K (xs.filterMap f, os)) :
    Sat (DX.lcF own tv c ev (xs.map g) os []) K := by
  refine ⟨_, (lc_map g f xs [] (fun x m => ?_) (by simpa using hn)).trans (by rw [List.nil_append]), hK⟩
  obtain ⟨r, e, rfl⟩ := h x m
  exact e
theorem k_condSelf {α : Type} {c : Bool} {a : α} : cond c a a = a := by cases c <;> rfl
theorem k_condAndL {c b : Bool} : cond c b c = (c && b) := by cases c <;> rfl
theorem k_condOrL {c b : Bool} : cond c c b = (c || b) := by cases c <;> rfl
theorem str_len (x y : Str) : (x ++ y).length = x.length + y.length := by
  rw [S_of x, S_of y, S_app]
  simp only [S_len, List.length_append]
theorem str_empty {x : Str} : Str.empty ++ x = x := by
  rw [S_of x, show Str.empty = S [] from rfl, S_app]; rfl
theorem b_jNil {acc : Str} {os : En} : jNil acc os = some (acc, os) := rfl
theorem b_jCons {acc : Str} {os : En} {ea : EvE} {er : Str → En → Option (Str × En)} : jCons ea er acc os = (ea os).bind fun p => (p.1.rd p.2).bind fun d => (txt? d).bind fun y => cond (Nat.ble (acc ++ y).length strMax) (er (acc ++ y) p.2) none := by
  unfold jCons
  cases ea os with
  | none => rfl
  | some p =>
    simp only [Option.bind_some]
    cases p.1.rd p.2 with
    | none => rfl
    | some d =>
      simp only [Option.bind_some]
      cases txt? d with
      | none => rfl
      | some y =>
        simp only [Option.bind_some]
        by_cases h : (acc ++ y).length ≤ strMax
        · rw [if_pos h, Nat.ble_eq_true_of_le h]; rfl
        · rw [if_neg h, Bool.eq_false_iff.mpr fun z => h (Nat.le_of_ble_eq_true z)]; rfl
theorem b_eJoin {ev : Str → En → Option (Str × En)} {os : En} : eJoin ev os = (ev Str.empty os).bind fun p => cond (Nat.ble p.1.length strMax) (some (.tm (.sh (.str p.1)), p.2)) none := by
  unfold eJoin
  cases ev Str.empty os with
  | none => rfl
  | some p =>
    simp only [Option.bind_some]
    by_cases h : p.1.length ≤ strMax
    · rw [if_pos h, Nat.ble_eq_true_of_le h]; rfl
    · rw [if_neg h, Bool.eq_false_iff.mpr fun z => h (Nat.le_of_ble_eq_true z)]; rfl
theorem t_str {x : Str} : txt? (.str x) = some x := rfl
theorem x_no {os : En} : xNo os = none := rfl
theorem x_raise {c : Nat} {os : En} : xRaise c os = some ((c, []), os) := rfl
theorem x_seqNo {ea : EvS} {xa : EvX} : xSeq ea xa xNo = xa := by
  funext os
  unfold xSeq
  cases xa os with
  | some p => rfl
  | none =>
    rw [Option.none_or]
    cases ea os with
    | none => rfl
    | some r => cases r <;> rfl
theorem b_xIf {t : EvT} {xa xb : EvX} {os : En} : xIf t xa xb os = (t os).bind fun p => cond p.1 (xa p.2) (xb p.2) := by
  unfold xIf
  cases t os with
  | none => rfl
  | some p => obtain ⟨c, q⟩ := p; cases c <;> rfl
def inr? (o : Option (OD ⊕ Er)) : Option Er := match o with
  | some (.inr x) => some x
  | _ => none
theorem x_inr {x : Er} : inr? (some (.inr x)) = some x := rfl
theorem x_inl {o : OD} : inr? (some (.inl o)) = none := rfl
theorem b_xFn {m : List OD → Option (OD ⊕ Er)} {n : Nat} {idx : List Nat} {es : EvEs} {os : En} : xFn m n idx es os = (es os).bind fun p => (rdAll p.2 p.1).bind fun ds => cond (Nat.beq p.1.length n && Nat.beq (pk idx ds).length n) ((inr? (m ((pk idx ds).map OD.sh))).bind fun x => some (x, hardAll p.2 p.1)) none := by
  unfold xFn
  cases es os with
  | none => rfl
  | some p =>
    simp only [Option.bind_some]
    cases rdAll p.2 p.1 with
    | none => rfl
    | some ds =>
      simp only [Option.bind_some]
      by_cases h : p.1.length = n ∧ (pk idx ds).length = n
      · rw [if_pos h, h.1, h.2, show Nat.beq n n = true from Nat.beq_refl n]
        cases m ((pk idx ds).map OD.sh) with
        | none => rfl
        | some r => cases r <;> rfl
      · rw [if_neg h]
        have : (Nat.beq p.1.length n && Nat.beq (pk idx ds).length n) = false := by
          rw [Bool.eq_false_iff]
          intro z
          obtain ⟨z1, z2⟩ := Bool.and_eq_true_iff.mp z
          exact h ⟨Nat.eq_of_beq_eq_true z1, Nat.eq_of_beq_eq_true z2⟩
        rw [this]; rfl
theorem eq_of_sat {α : Type} {x : Option α} {v : α} (h : Sat x (fun r => r = v)) : x = some v := by
  obtain ⟨a, e, rfl⟩ := h
  exact e
theorem inL_eq {m : List OD → Option (OD ⊕ Er)} {os : List OD} {o : OD} (h : m os = some (.inl o)) : inL m os = some o := by
  unfold inL
  rw [h]
-- what a def hands back
theorem r_P1 {o p : OD} {os : En} : retP (.rt o (some p :: os)) = some (o, p) := rfl
theorem r_P2 {p : OD} {os : En} : retP (.nx (some p :: os)) = some (.sh .none, p) := rfl
def mxOf (ev : EvS) (xv : EvX) (os : En) : Option (OD ⊕ Er) := match xv os with
  | some (x, _) => some (.inr x)
  | none => ((ev os).bind retOf).map .inl
theorem hmx_of {ev : Nat → EvS} {xv : Nat → EvX} {os : En} {r : OD ⊕ Er} (h : mxOf (ev fuel) (xv fuel) os = some r) : match r with
      | .inl o => ∃ n res, ev n os = some res ∧ retOf res = some o
      | .inr x => ∃ n os', xv n os = some (x, os') := by
  unfold mxOf at h
  split at h
  · rename_i x os' e
    cases h
    exact ⟨fuel, os', e⟩
  · cases e : (ev fuel os).bind retOf with
    | none => rw [e] at h; cases h
    | some o =>
      rw [e] at h
      cases h
      exact hm_of fuel e
theorem inL_mx {ev : EvS} {xv : EvX} {os : En} {o : OD} (h1 : xv os = none) (h2 : (ev os).bind retOf = some o) : mxOf ev xv os = some (.inl o) := by
  unfold mxOf
  rw [h1]
  show ((ev os).bind retOf).map Sum.inl = _
  rw [h2]; rfl
theorem inR_mx {ev : EvS} {xv : EvX} {os os' : En} {x : Er} (h1 : xv os = some (x, os')) : mxOf ev xv os = some (.inr x) := by
  unfold mxOf
  rw [h1]
/-! ### isinstance, by kinds -/
section
variable {a : Int} {x y : Str} {c : Bool} {ds es : List PyData} {d : PyData}
theorem i_boolN : opIsi "bool" [.none] = some (.val (.bool false)) := o_isiD (by simp) fun _ h => nomatch h
theorem i_boolB : opIsi "bool" [.bool c] = some (.val (.bool true)) := o_isiD (by simp) fun _ h => nomatch h
theorem i_boolI : opIsi "bool" [.int a] = some (.val (.bool false)) := o_isiD (by simp) fun _ h => nomatch h
theorem i_boolS : opIsi "bool" [.str x] = some (.val (.bool false)) := o_isiD (by simp) fun _ h => nomatch h
theorem i_boolL : opIsi "bool" [.list ds] = some (.val (.bool false)) := o_isiD (by simp) fun _ h => nomatch h
theorem i_boolT : opIsi "bool" [.tuple ds] = some (.val (.bool false)) := o_isiD (by simp) fun _ h => nomatch h
theorem i_intN : opIsi "int" [.none] = some (.val (.bool false)) := o_isiD (by simp) fun _ h => nomatch h
theorem i_intB : opIsi "int" [.bool c] = some (.val (.bool true)) := o_isiD (by simp) fun _ h => nomatch h
theorem i_intI : opIsi "int" [.int a] = some (.val (.bool true)) := o_isiD (by simp) fun _ h => nomatch h
theorem i_intS : opIsi "int" [.str x] = some (.val (.bool false)) := o_isiD (by simp) fun _ h => nomatch h
theorem i_intL : opIsi "int" [.list ds] = some (.val (.bool false)) := o_isiD (by simp) fun _ h => nomatch h
theorem i_intT : opIsi "int" [.tuple ds] = some (.val (.bool false)) := o_isiD (by simp) fun _ h => nomatch h
theorem i_strN : opIsi "str" [.none] = some (.val (.bool false)) := o_isiD (by simp) fun _ h => nomatch h
theorem i_strB : opIsi "str" [.bool c] = some (.val (.bool false)) := o_isiD (by simp) fun _ h => nomatch h
theorem i_strI : opIsi "str" [.int a] = some (.val (.bool false)) := o_isiD (by simp) fun _ h => nomatch h
theorem i_strS : opIsi "str" [.str x] = some (.val (.bool true)) := o_isiD (by simp) fun _ h => nomatch h
theorem i_strL : opIsi "str" [.list ds] = some (.val (.bool false)) := o_isiD (by simp) fun _ h => nomatch h
theorem i_strT : opIsi "str" [.tuple ds] = some (.val (.bool false)) := o_isiD (by simp) fun _ h => nomatch h
theorem i_listN : opIsi "list" [.none] = some (.val (.bool false)) := o_isiD (by simp) fun _ h => nomatch h
theorem i_listB : opIsi "list" [.bool c] = some (.val (.bool false)) := o_isiD (by simp) fun _ h => nomatch h
theorem i_listI : opIsi "list" [.int a] = some (.val (.bool false)) := o_isiD (by simp) fun _ h => nomatch h
theorem i_listS : opIsi "list" [.str x] = some (.val (.bool false)) := o_isiD (by simp) fun _ h => nomatch h
theorem i_listL : opIsi "list" [.list ds] = some (.val (.bool true)) := o_isiD (by simp) fun _ h => nomatch h
theorem i_listT : opIsi "list" [.tuple ds] = some (.val (.bool false)) := o_isiD (by simp) fun _ h => nomatch h
theorem i_tupleN : opIsi "tuple" [.none] = some (.val (.bool false)) := o_isiD (by simp) fun _ h => nomatch h
theorem i_tupleB : opIsi "tuple" [.bool c] = some (.val (.bool false)) := o_isiD (by simp) fun _ h => nomatch h
theorem i_tupleI : opIsi "tuple" [.int a] = some (.val (.bool false)) := o_isiD (by simp) fun _ h => nomatch h
theorem i_tupleS : opIsi "tuple" [.str x] = some (.val (.bool false)) := o_isiD (by simp) fun _ h => nomatch h
theorem i_tupleL : opIsi "tuple" [.list ds] = some (.val (.bool false)) := o_isiD (by simp) fun _ h => nomatch h
theorem i_tupleT : opIsi "tuple" [.tuple ds] = some (.val (.bool true)) := o_isiD (by simp) fun _ h => nomatch h
theorem o_neSelf : opNe [.str x, .str x] = some (.val (.bool false)) := by rw [S_of x, o_neS, decide_eq_true rfl]; rfl
theorem o_eqSelf : opEq [.str x, .str x] = some (.val (.bool true)) := by rw [S_of x, o_eqS, decide_eq_true rfl]
end
/-! ### repr of data with greater ints -/
mutual
def lgB : PyData → Bool
  | .none | .bool _ => true
  | .int i => Nat.blt i.natAbs (2 ^ 800)
  | .str x => PyData.strOk x
  | .list xs | .tuple xs => lgAll xs
  | .dict _ => false
def lgAll : List PyData → Bool
  | [] => true
  | x :: xs => lgB x && lgAll xs
end
theorem lgAll_all : ∀ ds : List PyData, lgAll ds = ds.all lgB
  | [] => by rw [lgAll]; rfl
  | d :: ds => by rw [List.all_cons, ← lgAll_all ds, lgAll]
theorem lg_pow : (2 : Nat) ^ 800 < 10 ^ 241 := by decide +kernel
theorem lg_int {i : Int} (h : i.natAbs < 2 ^ 800) : (PyData.shown (.int i)).length ≤ 242 := by
  have e := int_text_length_le10 (k := 241) (by decide) (Nat.lt_trans h lg_pow)
  show (Str.ofString (toString i)).length ≤ 242
  rw [PySem.ofString_length]; exact e
mutual
theorem lg_lay : ∀ d : PyData, lgB d = true → d.canLay0 = true ∧ d.showable = true ∧ d.intsShort 242 = true
  | .none, _ => ⟨rfl, rfl, rfl⟩
  | .bool _, _ => ⟨rfl, rfl, rfl⟩
  | .int i, h => by
    rw [lgB] at h
    have h : i.natAbs < 2 ^ 800 := Nat.le_of_ble_eq_true h
    refine ⟨rfl, ?_, ?_⟩
    · rw [PyData.showable]
      have := PySem.Flt.log2_lt_of (by decide) h
      exact decide_eq_true (by omega)
    · rw [PyData.intsShort]
      exact decide_eq_true (lg_int h)
  | .str x, h => by rw [lgB] at h; exact ⟨by rw [PyData.canLay0]; exact h, rfl, rfl⟩
  | .list xs, h => by rw [lgB] at h; rw [PyData.canLay0, PyData.showable, PyData.intsShort]; exact lg_layAll xs h
  | .tuple xs, h => by rw [lgB] at h; rw [PyData.canLay0, PyData.showable, PyData.intsShort]; exact lg_layAll xs h
  | .dict _, h => by rw [lgB] at h; cases h
theorem lg_layAll : ∀ ds : List PyData, lgAll ds = true → PyData.canLayAll0 ds = true ∧ PyData.showableAll ds = true ∧ PyData.intsShortAll 242 ds = true
  | [], _ => by rw [PyData.canLayAll0, PyData.showableAll, PyData.intsShortAll]; exact ⟨rfl, rfl, rfl⟩
  | d :: ds, h => by
    rw [lgAll, Bool.and_eq_true] at h
    obtain ⟨a1, a2, a3⟩ := lg_lay d h.1
    obtain ⟨b1, b2, b3⟩ := lg_layAll ds h.2
    rw [PyData.canLayAll0, PyData.showableAll, PyData.intsShortAll, a1, a2, a3, b1, b2, b3]
    exact ⟨rfl, rfl, rfl⟩
end
theorem o_reprL {d : PyData} (h : lgB d = true) (hd : d.depth ≤ 64) (hw : d.weight ≤ 60000) : opRepr [d] = some (.val (.str d.shown)) := by
  obtain ⟨h1, h2, h3⟩ := lg_lay d h
  refine o_repr ?_
  rw [h2, PyData.hasDict_of_canLay d h1, decide_eq_true hd]
  refine decide_eq_true ?_
  have := PyData.shown_le 242 (by decide) d (PyData.leavesShort_of_canLay0 242 d h1 h3)
  have e : (242 + 2) * d.weight ≤ 244 * 60000 := Nat.mul_le_mul_left _ hw
  refine Nat.le_trans this (Nat.le_trans (Nat.add_le_add_right e _) (by decide))
theorem strI_len {i : Int} (h : i.natAbs < 2 ^ 800) : (strI i).length ≤ 242 := lg_int h
theorem t_int {i : Int} (h : i.natAbs < 2 ^ 800) : txt? (.int i) = some (strI i) := by
  have h1 := PySem.Flt.log2_lt_of (by decide) h
  show (if Nat.blt i.natAbs.log2 1920 = true ∧ (strI i).length ≤ strMax then _ else _) = _
  rw [if_pos ⟨Nat.ble_eq_true_of_le (by omega), Nat.le_trans (strI_len h) (by decide)⟩]
theorem o_str {i : Int} (h : i.natAbs < 2 ^ 800) : opStr [.int i] = some (.val (.str (strI i))) := by
  have h1 := PySem.Flt.log2_lt_of (by decide) h
  show (if Nat.blt i.natAbs.log2 1920 = true ∧ (strI i).length ≤ strMax then _ else _) = _
  rw [if_pos ⟨Nat.ble_eq_true_of_le (by omega), Nat.le_trans (strI_len h) (by decide)⟩]
theorem b_sExpr {ev : EvE} {os : En} : sExpr ev os = (ev os).bind fun p => some (.nx p.2) := by
  unfold sExpr
  cases ev os <;> rfl
def ints2? : List PyData → Option (Int × Int)
  | [.int i, .int j] => some (i, j)
  | _ => none
theorem k_ints2 {i j : Int} : ints2? [.int i, .int j] = some (i, j) := rfl
theorem b_iR2 {ev : EvEs} {os : En} : iR2 ev os = (ev os).bind fun p => (rdAll p.2 p.1).bind fun ds => (ints2? ds).bind fun t => cond (fit62 t.1 && fit62 t.2) (some (rangeD t.1 (t.2 - t.1).toNat, p.2)) none := by
  unfold iR2
  cases ev os with
  | none => rfl
  | some p =>
    simp only [Option.bind_some]
    cases rdAll p.2 p.1 with
    | none => rfl
    | some ds =>
      simp only [Option.bind_some]
      unfold ints2?
      split
      · rename_i i j e
        cases e
        simp only [Option.bind_some]
        cases fit62 i && fit62 j <;> rfl
      · rename_i h
        split
        · rename_i i j
          exact absurd rfl (h i j)
        · rfl
end DX
set_option exponentiation.threshold 5000
/-! DXRp: data that repr carries, told by its parts. -/
namespace DX
open PySem PySem.Spec PyProof.Rows L2
theorem strOk_append (x y : Str) : PyData.strOk (x ++ y) = (PyData.strOk x && PyData.strOk y) := by
  show Array.all (x.cps ++ y.cps) _ = _
  rw [Array.all_append]; rfl
theorem strOk_ofString (s : String) : PyData.strOk (Str.ofString s) = true := by
  rw [Str.ofString_eq_byList]
  show Array.all (List.map Char.toNat s.toList).toArray (fun x => decide (x < 1114112)) = true
  rw [List.all_toArray, List.all_map]
  refine List.all_eq_true.mpr fun c _ => decide_eq_true ?_
  have := c.valid
  show c.val.toNat < 1114112
  rcases this with h | h
  · exact Nat.lt_trans h (by decide)
  · exact h.2
/-- data that repr carries -/
def Rp (k n : Nat) (d : PyData) : Prop := lgB d = true ∧ d.depth ≤ k ∧ d.weight ≤ n
theorem Rp.mono {k n k' n' : Nat} {d : PyData} (h : Rp k n d) (a : k ≤ k') (b : n ≤ n') : Rp k' n' d := ⟨h.1, Nat.le_trans h.2.1 a, Nat.le_trans h.2.2 b⟩
theorem Rp.intN {n : Nat} {i : Int} (h : i.natAbs < 2 ^ n) (hn : n ≤ 800 := by decide) (h0 : 0 < n := by decide) : Rp 1 (n + 2) (.int i) := by
  refine ⟨Nat.ble_eq_true_of_le (Nat.lt_of_lt_of_le h (Nat.pow_le_pow_right (by decide) hn)), ?_, ?_⟩
  · simp only [PyData.depth]; decide
  · simp only [PyData.weight]
    have := PySem.Flt.log2_lt_of h0 h
    split <;> omega
theorem Rp.int {i : Int} (h : i.natAbs < 2 ^ 800) : Rp 1 802 (.int i) := Rp.intN h
theorem Rp.str {x : Str} {n : Nat} (h : PyData.strOk x = true) (hn : x.length ≤ n) : Rp 1 (n + 1) (.str x) := by
  refine ⟨h, ?_, ?_⟩
  · simp only [PyData.depth]; decide
  · simp only [PyData.weight]; exact Nat.le_trans hn (Nat.le_succ n)
theorem all_depth {k : Nat} : ∀ {ds : List PyData}, (∀ d ∈ ds, d.depth ≤ k) → PyData.depthAll ds ≤ k
  | [], _ => by simp only [PyData.depthAll]; exact Nat.zero_le _
  | d :: ds, h => by
    simp only [PyData.depthAll]
    exact Nat.max_le.mpr ⟨h d List.mem_cons_self, all_depth fun x q => h x (List.mem_cons_of_mem _ q)⟩
theorem all_weight {n : Nat} : ∀ {ds : List PyData}, (∀ d ∈ ds, d.weight ≤ n) → PyData.weightAll ds ≤ ds.length * (n + 1)
  | [], _ => by simp only [PyData.weightAll]; exact Nat.zero_le _
  | d :: ds, h => by
    simp only [PyData.weightAll, List.length_cons, Nat.succ_mul]
    have := h d List.mem_cons_self
    have := all_weight (ds := ds) fun x q => h x (List.mem_cons_of_mem _ q)
    omega
theorem Rp.lst {k n : Nat} {ds : List PyData} (h : ∀ d ∈ ds, Rp k n d) : Rp (k + 1) (ds.length * (n + 1) + 1) (.list ds) := by
  refine ⟨?_, ?_, ?_⟩
  · rw [lgB, lgAll_all]; exact List.all_eq_true.mpr fun d q => (h d q).1
  · simp only [PyData.depth]
    have := all_depth fun d q => (h d q).2.1
    omega
  · simp only [PyData.weight]
    have := all_weight fun d q => (h d q).2.2
    omega
theorem Rp.tup {k n : Nat} {ds : List PyData} (h : ∀ d ∈ ds, Rp k n d) : Rp (k + 1) (ds.length * (n + 1) + 1) (.tuple ds) := by
  refine ⟨?_, ?_, ?_⟩
  · rw [lgB, lgAll_all]; exact List.all_eq_true.mpr fun d q => (h d q).1
  · simp only [PyData.depth]
    have := all_depth fun d q => (h d q).2.1
    omega
  · simp only [PyData.weight]
    have := all_weight fun d q => (h d q).2.2
    omega
theorem Rp.rep {k n : Nat} {d : PyData} (h : Rp k n d) (hk : k ≤ 64 := by decide) (hn : n ≤ 60000 := by decide) : opRepr [d] = some (.val (.str d.shown)) := o_reprL h.1 (Nat.le_trans h.2.1 hk) (Nat.le_trans h.2.2 hn)

theorem Rps.nil {k n : Nat} : ∀ d ∈ ([] : List PyData), Rp k n d := fun _ q => nomatch q
theorem Rps.cons {k n : Nat} {d : PyData} {ds : List PyData} (h : Rp k n d) (hs : ∀ d ∈ ds, Rp k n d) : ∀ x ∈ d :: ds, Rp k n x := fun x q => by
  rcases List.mem_cons.mp q with rfl | q
  · exact h
  · exact hs x q
end DX
/-! the worths of the defs (printed by gen.py). -/
namespace K11
open PySem PySem.Spec PyProof.Rows L2 DX
noncomputable section
def errSub : Nat → Nat → Bool
  | 0, 0 => true
  | 1, 1 => true
  | 2, 2 => true
  | 3, 0 => true
  | 3, 3 => true
  | 4, 0 => true
  | 4, 4 => true
  | 5, 1 => true
  | 5, 5 => true
  | 6, 2 => true
  | 6, 6 => true
  | _, _ => false
def errSubB (e : Nat) (s : String) : Bool := (e == 0 && s == "ValueError") || (e == 1 && s == "LookupError") || (e == 3 && s == "ValueError") || (e == 4 && s == "ValueError") || (e == 5 && s == "LookupError")
def ev_fraction (n : Nat) : EvS :=
  (sSeq (sIf (tBl (eOp opEq (es2 (eVar 1) (eC (.int 0))))) (fun _ => none) sNext) (sSeq (sAsg [] 2 (eOp opGcd (esCons (eVar 0) (esCons (eVar 1) esNil)))) (sSeq (sIf (tBl (eOp opLt (es2 (eVar 1) (eC (.int 0))))) (sAsg [] 2 (eOp opNeg (es1 (eVar 2)))) sNext) (sRet (eTup (esCons (eOp opDiv (es2 (eVar 0) (eVar 2))) (esCons (eOp opDiv (es2 (eVar 1) (eVar 2))) esNil)))))))
def xv_fraction (n : Nat) : EvX :=
  (xSeq (sIf (tBl (eOp opEq (es2 (eVar 1) (eC (.int 0))))) (fun _ => none) sNext) (xIf (tBl (eOp opEq (es2 (eVar 1) (eC (.int 0))))) (xRaise 4) xNo) xNo)
def mx_fraction (os : List OD) : Option (OD ⊕ Er) := mxOf (ev_fraction fuel) (xv_fraction fuel) (startE ["above", "below", "divisor"] os)
def mr_fraction : List OD → Option OD := inL mx_fraction
def ev_whole (n : Nat) : EvS :=
  (sRet (eTup (esCons (eVar 0) (esCons (eC (.int 1)) esNil))))
def mr_whole (os : List OD) : Option OD := (ev_whole fuel (startE ["number"] os)).bind retOf
def ev_opposite (n : Nat) : EvS :=
  (sRet (eTup (esCons (eOp opNeg (es1 (eOp opIx (es2 (eVar 0) (eC (.int 0)))))) (esCons (eOp opIx (es2 (eVar 0) (eC (.int 1)))) esNil))))
def mr_opposite (os : List OD) : Option OD := (ev_opposite fuel (startE ["a"] os)).bind retOf
def ev_sign_of (n : Nat) : EvS :=
  (sSeq (sIf (tBl (eOp opEq (es2 (eOp opIx (es2 (eVar 0) (eC (.int 0)))) (eC (.int 0))))) (sRet (eC (.int 0))) sNext) (sRet (eIf (tBl (eOp opGt (es2 (eOp opIx (es2 (eVar 0) (eC (.int 0)))) (eC (.int 0))))) (eC (.int 1)) (eOp opNeg (es1 (eC (.int 1)))))))
def mr_sign_of (os : List OD) : Option OD := (ev_sign_of fuel (startE ["a"] os)).bind retOf
def ev_compare (n : Nat) : EvS :=
  (sSeq (sPar [] 2 3 (esCons (eOp opMul (es2 (eOp opIx (es2 (eVar 0) (eC (.int 0)))) (eOp opIx (es2 (eVar 1) (eC (.int 1)))))) (esCons (eOp opMul (es2 (eOp opIx (es2 (eVar 1) (eC (.int 0)))) (eOp opIx (es2 (eVar 0) (eC (.int 1)))))) esNil))) (sSeq (sIf (tBl (eOp opEq (es2 (eVar 2) (eVar 3)))) (sRet (eC (.int 0))) sNext) (sRet (eIf (tBl (eOp opGt (es2 (eVar 2) (eVar 3)))) (eC (.int 1)) (eOp opNeg (es1 (eC (.int 1))))))))
def mr_compare (os : List OD) : Option OD := (ev_compare fuel (startE ["a", "b", "left", "right"] os)).bind retOf
def ev_floor_of (n : Nat) : EvS :=
  (sRet (eOp opDiv (es2 (eOp opIx (es2 (eVar 0) (eC (.int 0)))) (eOp opIx (es2 (eVar 0) (eC (.int 1)))))))
def mr_floor_of (os : List OD) : Option OD := (ev_floor_of fuel (startE ["a"] os)).bind retOf
def ev_ceiling_of (n : Nat) : EvS :=
  (sRet (eOp opNeg (es1 (eOp opDiv (es2 (eOp opNeg (es1 (eOp opIx (es2 (eVar 0) (eC (.int 0)))))) (eOp opIx (es2 (eVar 0) (eC (.int 1)))))))))
def mr_ceiling_of (os : List OD) : Option OD := (ev_ceiling_of fuel (startE ["a"] os)).bind retOf
def ev_parts_of (n : Nat) : EvS :=
  (sSeq (sAsgG (gvTup 2 (gvCons (gvName [] 2) (gvCons (gvName [] 3) gvNil))) (eVar 0)) (sSeq (sAsg [] 1 (eLst esNil)) (sSeq (whF (tBl (eOp opGt (es2 (eVar 3) (eC (.int 0))))) (sSeq (sAsg [] 4 (eOp opDiv (es2 (eVar 2) (eVar 3)))) (sSeq (sApp 1 (eVar 4)) (sPar [] 2 3 (esCons (eVar 3) (esCons (eOp opSub (es2 (eVar 2) (eOp opMul (es2 (eVar 4) (eVar 3))))) esNil))))) n) (sRet (eVar 1)))))
def mr_parts_of (os : List OD) : Option OD := (ev_parts_of fuel (startE ["a", "parts", "above", "below", "part"] os)).bind retOf
def ev_nearest_to_nought (n : Nat) : EvS :=
  (sSeq (sIf (tBl (eOp opGt (es2 (eVar 0) (eC (.int 0))))) (sRet (eVar 0)) sNext) (sRet (eIf (tBl (eOp opLt (es2 (eVar 1) (eC (.int 0))))) (eVar 1) (eC (.int 0)))))
def mr_nearest_to_nought (os : List OD) : Option OD := (ev_nearest_to_nought fuel (startE ["first", "last"] os)).bind retOf
def ev__law_pot (n : Nat) : EvS :=
  (sSeq (sAsg [] 2 (eOp opAdd (es2 (eOp opMul (es2 (eC (.int 617)) (eVar 1))) (eC (.int 73))))) (sSeq (sIf (tBl (eOp opLt (es2 (eVar 1) (eOp opLen (esCons (eVar 0) esNil))))) (sAsg [] 2 (eOp opAbs (esCons (eOp opIx (es2 (eVar 0) (eVar 1))) esNil))) sNext) (sSeq (sAsg [] 3 (eOp opMod (es2 (eOp opInt (esCons (eOp opAdd (es2 (eOp opAdd (es2 (eOp opMul (es2 (eOp opMod (es2 (eOp opInt (esCons (eVar 2) esNil)) (eC (.int 2147483549)))) (eC (.int 39163)))) (eOp opMul (es2 (eC (.int 9221)) (eVar 1))))) (eC (.int 73)))) esNil)) (eC (.int 2147483579))))) (sRet (eLst (esCons (eOp opMax2 (esCons (eC (.int 0)) (esCons (eOp opSub (es2 (eVar 2) (eOp opPow (es2 (eC (.int 10)) (eC (.int 18)))))) esNil))) (esCons (eOp opAdd (es2 (eVar 3) (eC (.int 1)))) esNil)))))))
def mr__law_pot (os : List OD) : Option OD := (ev__law_pot fuel (startE ["_law_script", "_law_k", "_law_cell", "_law_mixed"] os)).bind retOf
def ev__law_draw (n : Nat) : EvS :=
  (sSeq (sIf (tBl (eOp opGt (es2 (eOp opIx (es2 (eVar 0) (eC (.int 0)))) (eC (.int 0))))) (sSeq (sAsgG (gvTup 2 (gvCons (gvSub 0 (eC (.int 0))) (gvCons (gvName [0] 2) gvNil))) (eOp opDivmod (esCons (eOp opIx (es2 (eVar 0) (eC (.int 0)))) (esCons (eVar 1) esNil)))) (sRet (eVar 2))) sNext) (sSeq (sAsgG (gvSub 0 (eC (.int 1))) (eOp opMod (es2 (eOp opInt (esCons (eOp opAdd (es2 (eOp opMul (es2 (eOp opIx (es2 (eVar 0) (eC (.int 1)))) (eC (.int 40357)))) (eC (.int 6173)))) esNil)) (eC (.int 2147483579))))) (sRet (eOp opMod (es2 (eOp opInt (esCons (eOp opDiv (es2 (eOp opMod (es2 (eOp opInt (esCons (eOp opMul (es2 (eOp opIx (es2 (eVar 0) (eC (.int 1)))) (eOp opIx (es2 (eVar 0) (eC (.int 1)))))) esNil)) (eC (.int 2147483549)))) (eC (.int 23)))) esNil)) (eVar 1))))))
def mr__law_draw (o : OD) (os : List OD) : Option (OD × OD) := (ev__law_draw fuel (startE ["_law_pot_here", "_law_size", "_law_digit"] (o :: os))).bind retP
def ev__law_gcd (n : Nat) : EvS :=
  (sSeq (sPar [] 0 1 (esCons (eOp opAbs (esCons (eVar 0) esNil)) (esCons (eOp opAbs (esCons (eVar 1) esNil)) esNil))) (sSeq (whF (tBl (eOp opGt (es2 (eVar 1) (eC (.int 0))))) (sPar [] 0 1 (esCons (eVar 1) (esCons (eOp opMod (es2 (eOp opInt (esCons (eVar 0) esNil)) (eVar 1))) esNil))) n) (sRet (eVar 0))))
def mr__law_gcd (os : List OD) : Option OD := (ev__law_gcd fuel (startE ["_law_a", "_law_b"] os)).bind retOf
def ev__law_parts (n : Nat) : EvS :=
  (sSeq (sAsgG (gvTup 2 (gvCons (gvName [] 2) (gvCons (gvName [] 3) gvNil))) (eVar 0)) (sSeq (sAsg [] 1 (eLst esNil)) (sSeq (whF (tBl (eOp opGt (es2 (eVar 3) (eC (.int 0))))) (sSeq (sAsg [] 4 (eOp opDiv (es2 (eVar 2) (eVar 3)))) (sSeq (sApp 1 (eVar 4)) (sPar [] 2 3 (esCons (eVar 3) (esCons (eOp opSub (es2 (eVar 2) (eOp opMul (es2 (eVar 4) (eVar 3))))) esNil))))) n) (sRet (eVar 1)))))
def mr__law_parts (os : List OD) : Option OD := (ev__law_parts fuel (startE ["_law_a", "_law_found", "_law_above", "_law_below", "_law_part"] os)).bind retOf
def ev__law_stands (n : Nat) : EvS :=
  (sSeq (sPar [] 2 3 (esCons (eOp opIx (es2 (eVar 0) (eOp opNeg (es1 (eC (.int 1)))))) (esCons (eC (.int 1)) esNil))) (sSeq (sFor (iR1 (esCons (eOp opSub (es2 (eOp opLen (esCons (eVar 0) esNil)) (eC (.int 1)))) esNil)) (gvName [] 1) (sPar [] 2 3 (esCons (eOp opAdd (es2 (eOp opMul (es2 (eOp opIx (es2 (eVar 0) (eOp opSub (es2 (eOp opSub (es2 (eOp opLen (esCons (eVar 0) esNil)) (eC (.int 2)))) (eVar 1))))) (eVar 2))) (eVar 3))) (esCons (eVar 2) esNil)))) (sRet (eTup (esCons (eVar 2) (esCons (eVar 3) esNil))))))
def mr__law_stands (os : List OD) : Option OD := (ev__law_stands fuel (startE ["_law_parts_here", "_law_turn", "_law_above", "_law_below"] os)).bind retOf
def ev__law_less (n : Nat) : EvS :=
  (sSeq (sPar [] 2 3 (esCons (eOp opMul (es2 (eOp opIx (es2 (eVar 0) (eC (.int 0)))) (eOp opIx (es2 (eVar 1) (eC (.int 1)))))) (esCons (eOp opMul (es2 (eOp opIx (es2 (eVar 1) (eC (.int 0)))) (eOp opIx (es2 (eVar 0) (eC (.int 1)))))) esNil))) (sRet (eIf (tBl (eOp opEq (es2 (eVar 2) (eVar 3)))) (eC (.int 0)) (eIf (tBl (eOp opGt (es2 (eVar 2) (eVar 3)))) (eC (.int 1)) (eOp opNeg (es1 (eC (.int 1))))))))
def mr__law_less (os : List OD) : Option OD := (ev__law_less fuel (startE ["_law_a", "_law_b", "_law_left", "_law_right"] os)).bind retOf
def ev__law_nearest (n : Nat) : EvS :=
  (sSeq (sIf (tBl (eOp opGt (es2 (eVar 0) (eC (.int 0))))) (sRet (eVar 0)) sNext) (sRet (eIf (tBl (eOp opLt (es2 (eVar 1) (eC (.int 0))))) (eVar 1) (eC (.int 0)))))
def mr__law_nearest (os : List OD) : Option OD := (ev__law_nearest fuel (startE ["_law_first", "_law_last"] os)).bind retOf
def ev_plus (n : Nat) : EvS :=
  (sSeq (sIf (tAndD (tBl (eOp opEq (es2 (eOp opIx (es2 (eVar 0) (eC (.int 1)))) (eC (.int 1))))) (tBl (eOp opEq (es2 (eOp opIx (es2 (eVar 1) (eC (.int 1)))) (eC (.int 1)))))) (sRet (eTup (esCons (eOp opAdd (es2 (eOp opIx (es2 (eVar 0) (eC (.int 0)))) (eOp opIx (es2 (eVar 1) (eC (.int 0)))))) (esCons (eC (.int 1)) esNil)))) sNext) (sRet (eFn0 mr_fraction 2 [0, 1] (esCons (eOp opAdd (es2 (eOp opMul (es2 (eOp opIx (es2 (eVar 0) (eC (.int 0)))) (eOp opIx (es2 (eVar 1) (eC (.int 1)))))) (eOp opMul (es2 (eOp opIx (es2 (eVar 1) (eC (.int 0)))) (eOp opIx (es2 (eVar 0) (eC (.int 1)))))))) (esCons (eOp opMul (es2 (eOp opIx (es2 (eVar 0) (eC (.int 1)))) (eOp opIx (es2 (eVar 1) (eC (.int 1)))))) esNil)))))
def mr_plus (os : List OD) : Option OD := (ev_plus fuel (startE ["a", "b"] os)).bind retOf
def ev_over (n : Nat) : EvS :=
  (sRet (eFn0 mr_fraction 2 [0, 1] (esCons (eOp opMul (es2 (eOp opIx (es2 (eVar 0) (eC (.int 0)))) (eOp opIx (es2 (eVar 1) (eC (.int 1)))))) (esCons (eOp opMul (es2 (eOp opIx (es2 (eVar 0) (eC (.int 1)))) (eOp opIx (es2 (eVar 1) (eC (.int 0)))))) esNil))))
def mr_over (os : List OD) : Option OD := (ev_over fuel (startE ["a", "b"] os)).bind retOf
def ev_compare_by_parts (n : Nat) : EvS :=
  (sSeq (sPar [] 3 4 (esCons (eFn0 mr_parts_of 1 [0] (esCons (eVar 0) esNil)) (esCons (eFn0 mr_parts_of 1 [0] (esCons (eVar 1) esNil)) esNil))) (sSeq (sIf (tBl (eOp opEq (es2 (eVar 3) (eVar 4)))) (sRet (eC (.int 0))) sNext) (sSeq (sAsg [] 2 (eC (.int 0))) (sSeq (whF (tAndD (tBl (eOp opLt (es2 (eVar 2) (eOp opLen (esCons (eVar 3) esNil))))) (tAndD (tBl (eOp opLt (es2 (eVar 2) (eOp opLen (esCons (eVar 4) esNil))))) (tBl (eOp opEq (es2 (eOp opIx (es2 (eVar 3) (eVar 2))) (eOp opIx (es2 (eVar 4) (eVar 2)))))))) (sAug [] 2 (opII (fun _ _ => true) fun i j => .int (i + j)) (eC (.int 1))) n) (sSeq (sIf (tBl (eOp opEq (es2 (eVar 2) (eOp opLen (esCons (eVar 3) esNil))))) (sAsg [] 5 (eC (.bool true))) (sIf (tBl (eOp opEq (es2 (eVar 2) (eOp opLen (esCons (eVar 4) esNil))))) (sAsg [] 5 (eC (.bool false))) (sAsg [] 5 (eOp opGt (es2 (eOp opIx (es2 (eVar 3) (eVar 2))) (eOp opIx (es2 (eVar 4) (eVar 2)))))))) (sSeq (sIf (tBl (eOp opEq (es2 (eOp opSub (es2 (eVar 2) (eOp opMul (es2 (eOp opDiv (es2 (eVar 2) (eC (.int 2)))) (eC (.int 2)))))) (eC (.int 1))))) (sAsg [] 5 (eNot (eVar 5))) sNext) (sRet (eIf (tTru (eVar 5)) (eC (.int 1)) (eOp opNeg (es1 (eC (.int 1))))))))))))
def mr_compare_by_parts (os : List OD) : Option OD := (ev_compare_by_parts fuel (startE ["a", "b", "place", "one", "other", "is_greater"] os)).bind retOf
def ev_want_in_order (n : Nat) : EvS :=
  (sIf (tBl (eOp opGt (es2 (eFn0 mr_compare 2 [0, 1] (esCons (eVar 0) (esCons (eVar 1) esNil))) (eC (.int 0))))) (fun _ => none) sNext)
def xv_want_in_order (n : Nat) : EvX :=
  (xIf (tBl (eOp opGt (es2 (eFn0 mr_compare 2 [0, 1] (esCons (eVar 0) (esCons (eVar 1) esNil))) (eC (.int 0))))) (xRaise 3) xNo)
def mx_want_in_order (os : List OD) : Option (OD ⊕ Er) := mxOf (ev_want_in_order fuel) (xv_want_in_order fuel) (startE ["low", "high"] os)
def mr_want_in_order : List OD → Option OD := inL mx_want_in_order
def ev__law_pick (n : Nat) : EvS :=
  (sRet (eOp opIx (es2 (eVar 1) (eFnP mr__law_draw 2 [0] (esCons (eVar 0) (esCons (eOp opLen (esCons (eVar 1) esNil)) esNil))))))
def mr__law_pick (o : OD) (os : List OD) : Option (OD × OD) := (ev__law_pick fuel (startE ["_law_pot_here", "_law_some"] (o :: os))).bind retP
def ev__law_made (n : Nat) : EvS :=
  (sSeq (sAsg [] 2 (eFn0 mr__law_gcd 2 [0, 1] (esCons (eVar 0) (esCons (eVar 1) esNil)))) (sSeq (sIf (tBl (eOp opLt (es2 (eVar 1) (eC (.int 0))))) (sAsg [] 2 (eOp opNeg (es1 (eVar 2)))) sNext) (sRet (eTup (esCons (eOp opDiv (es2 (eVar 0) (eVar 2))) (esCons (eOp opDiv (es2 (eVar 1) (eVar 2))) esNil))))))
def mr__law_made (os : List OD) : Option OD := (ev__law_made fuel (startE ["_law_a", "_law_b", "_law_common"] os)).bind retOf
def ev__law_simplest (n : Nat) : EvS :=
  (sSeq (sFor (iR2 (esCons (eC (.int 1)) (esCons (eOp opAdd (es2 (eVar 2) (eC (.int 1)))) esNil))) (gvName [] 3) (sSeq (sAsg [] 4 (eOp opNeg (es1 (eOp opDiv (es2 (eOp opMul (es2 (eOp opNeg (es1 (eOp opIx (es2 (eVar 0) (eC (.int 0)))))) (eVar 3))) (eOp opIx (es2 (eVar 0) (eC (.int 1))))))))) (sSeq (sAsg [] 5 (eOp opDiv (es2 (eOp opMul (es2 (eOp opIx (es2 (eVar 1) (eC (.int 0)))) (eVar 3))) (eOp opIx (es2 (eVar 1) (eC (.int 1))))))) (sIf (tBl (eOp opLe (es2 (eVar 4) (eVar 5)))) (sRet (eTup (esCons (eFn0 mr__law_nearest 2 [0, 1] (esCons (eVar 4) (esCons (eVar 5) esNil))) (esCons (eVar 3) esNil)))) sNext)))) (sRet (eC .none)))
def mr__law_simplest (os : List OD) : Option OD := (ev__law_simplest fuel (startE ["_law_low_here", "_law_high", "_law_limit", "_law_below", "_law_first", "_law_last"] os)).bind retOf
def ev__law_turned (n : Nat) : EvS :=
  (sSeq (sIf (tBl (eOp opGt (es2 (eFnP mr__law_draw 2 [0] (esCons (eVar 0) (esCons (eC (.int 3)) esNil))) (eC (.int 0))))) (sRet (eTup (esCons (eVar 1) (esCons (eVar 2) esNil)))) sNext) (sRet (eTup (esCons (eTup (esCons (eOp opNeg (es1 (eOp opIx (es2 (eVar 2) (eC (.int 0)))))) (esCons (eOp opIx (es2 (eVar 2) (eC (.int 1)))) esNil))) (esCons (eTup (esCons (eOp opNeg (es1 (eOp opIx (es2 (eVar 1) (eC (.int 0)))))) (esCons (eOp opIx (es2 (eVar 1) (eC (.int 1)))) esNil))) esNil)))))
def mr__law_turned (o : OD) (os : List OD) : Option (OD × OD) := (ev__law_turned fuel (startE ["_law_pot_here", "_law_low_here", "_law_high"] (o :: os))).bind retP
def ev_want_at_most (n : Nat) : EvS :=
  (sIf (tBl (eOp opGt (es2 (eVar 2) (eVar 1)))) (fun _ => none) sNext)
def xv_want_at_most (n : Nat) : EvX :=
  (xIf (tBl (eOp opGt (es2 (eVar 2) (eVar 1)))) (xRaiseF 6 ["what", "limit"] (esCons (eVar 0) (esCons (eVar 1) esNil))) xNo)
def mx_want_at_most (os : List OD) : Option (OD ⊕ Er) := mxOf (ev_want_at_most fuel) (xv_want_at_most fuel) (startE ["what", "limit", "number"] os)
def mr_want_at_most : List OD → Option OD := inL mx_want_at_most
def ev_minus (n : Nat) : EvS :=
  (sRet (eFn0 mr_plus 2 [0, 1] (esCons (eVar 0) (esCons (eFn0 mr_opposite 1 [0] (esCons (eVar 1) esNil)) esNil))))
def mr_minus (os : List OD) : Option OD := (ev_minus fuel (startE ["a", "b"] os)).bind retOf
def ev_of_parts (n : Nat) : EvS :=
  (sSeq (sIf (tBl (eOp opEq (es2 (eOp opLen (esCons (eVar 0) esNil)) (eC (.int 0))))) (fun _ => none) sNext) (sSeq (sAsg [] 1 (eFn0 mr_whole 1 [0] (esCons (eOp opIx (es2 (eVar 0) (eOp opNeg (es1 (eC (.int 1)))))) esNil))) (sSeq (sFor (iRvs (eSl (eVar 0) oNone (oSome (eOp opNeg (es1 (eC (.int 1))))))) (gvName [] 2) (sAsg [] 1 (eFn0 mr_plus 2 [0, 1] (esCons (eFn0 mr_whole 1 [0] (esCons (eVar 2) esNil)) (esCons (eFn0 mr_over 2 [0, 1] (esCons (eC (.tuple [.int (1), .int (1)])) (esCons (eVar 1) esNil))) esNil))))) (sRet (eVar 1)))))
def xv_of_parts (n : Nat) : EvX :=
  (xSeq (sIf (tBl (eOp opEq (es2 (eOp opLen (esCons (eVar 0) esNil)) (eC (.int 0))))) (fun _ => none) sNext) (xIf (tBl (eOp opEq (es2 (eOp opLen (esCons (eVar 0) esNil)) (eC (.int 0))))) (xRaise 5) xNo) xNo)
def mx_of_parts (os : List OD) : Option (OD ⊕ Er) := mxOf (ev_of_parts fuel) (xv_of_parts fuel) (startE ["parts", "worth", "part"] os)
def mr_of_parts : List OD → Option OD := inL mx_of_parts
def cl__law_row_1 : List PyData := [(.int 2), (.int 3), (.int 9), (.int 5000)]
def ev__law_row (n : Nat) : EvS :=
  (sSeq (sAsg [0] 1 (eFnP mr__law_pick 2 [0] (esCons (eVar 0) (esCons (eLst (escs cl__law_row_1)) esNil)))) (sSeq (sAsg [0] 2 (eFnP mr__law_pick 2 [0] (esCons (eVar 0) (esCons (eLst (esCons (eC (.int 0)) (esCons (eC (.int 1)) (esCons (eC (.int 1)) (esCons (eC (.int 2)) (esCons (eC (.int 3)) (esCons (eC (.int 4)) (esCons (eC (.int 6)) (esCons (eIf (tBl (eOp opLt (es2 (eVar 1) (eC (.int 10))))) (eC (.int 19)) (eC (.int 5))) esNil))))))))) esNil)))) (sSeq (sAsg [0] 3 (eOp opSub (es2 (eFnP mr__law_draw 2 [0] (esCons (eVar 0) (esCons (eOp opAdd (es2 (eOp opMul (es2 (eC (.int 2)) (eVar 1))) (eC (.int 1)))) esNil))) (eVar 1)))) (sRet (eOp opAdd (es2 (eLst (esCons (eVar 3) esNil)) (eLc [4] (iR1 (esCons (eVar 2) esNil)) (gvName [] 4) cYes (eOp opAdd (es2 (eC (.int 1)) (eFnP mr__law_draw 2 [0] (esCons (eVar 0) (esCons (eVar 1) esNil))))))))))))
def mr__law_row (o : OD) (os : List OD) : Option (OD × OD) := (ev__law_row fuel (startE ["_law_pot_here", "_law_size", "_law_many", "_law_first", "_law_turn"] (o :: os))).bind retP
def ev__law_low (n : Nat) : EvS :=
  (sSeq (sAsg [0] 2 (eOp opSub (es2 (eFnP mr__law_draw 2 [0] (esCons (eVar 0) (esCons (eOp opMul (es2 (eC (.int 4)) (eVar 1))) esNil))) (eOp opMul (es2 (eC (.int 2)) (eVar 1)))))) (sSeq (sIf (tBl (eOp opEq (es2 (eFnP mr__law_draw 2 [0] (esCons (eVar 0) (esCons (eC (.int 4)) esNil))) (eC (.int 0))))) (sRet (eTup (esCons (eOp opDiv (es2 (eVar 2) (eC (.int 9)))) (esCons (eC (.int 1)) esNil)))) sNext) (sRet (eFn0 mr__law_made 2 [0, 1] (esCons (eVar 2) (esCons (eOp opAdd (es2 (eC (.int 1)) (eFnP mr__law_draw 2 [0] (esCons (eVar 0) (esCons (eVar 1) esNil))))) esNil))))))
def mr__law_low (o : OD) (os : List OD) : Option (OD × OD) := (ev__law_low fuel (startE ["_law_pot_here", "_law_size", "_law_above"] (o :: os))).bind retP
def ev__law_sum (n : Nat) : EvS :=
  (sRet (eFn0 mr__law_made 2 [0, 1] (esCons (eOp opAdd (es2 (eOp opMul (es2 (eOp opIx (es2 (eVar 0) (eC (.int 0)))) (eOp opIx (es2 (eVar 1) (eC (.int 1)))))) (eOp opMul (es2 (eOp opIx (es2 (eVar 1) (eC (.int 0)))) (eOp opIx (es2 (eVar 0) (eC (.int 1)))))))) (esCons (eOp opMul (es2 (eOp opIx (es2 (eVar 0) (eC (.int 1)))) (eOp opIx (es2 (eVar 1) (eC (.int 1)))))) esNil))))
def mr__law_sum (os : List OD) : Option OD := (ev__law_sum fuel (startE ["_law_a", "_law_b"] os)).bind retOf
def ev_simplest_plain (n : Nat) : EvS :=
  (sSeq (sExpr (eFn0 mr_want_in_order 2 [0, 1] (esCons (eVar 0) (esCons (eVar 1) esNil)))) (sSeq (sFor (iR2 (esCons (eC (.int 1)) (esCons (eOp opAdd (es2 (eC (.int 2000)) (eC (.int 1)))) esNil))) (gvName [] 2) (sSeq (sAsg [] 3 (eOp opNeg (es1 (eOp opDiv (es2 (eOp opMul (es2 (eOp opNeg (es1 (eOp opIx (es2 (eVar 0) (eC (.int 0)))))) (eVar 2))) (eOp opIx (es2 (eVar 0) (eC (.int 1))))))))) (sSeq (sAsg [] 4 (eOp opDiv (es2 (eOp opMul (es2 (eOp opIx (es2 (eVar 1) (eC (.int 0)))) (eVar 2))) (eOp opIx (es2 (eVar 1) (eC (.int 1))))))) (sIf (tBl (eOp opLe (es2 (eVar 3) (eVar 4)))) (sRet (eFn0 mr_fraction 2 [0, 1] (esCons (eFn0 mr_nearest_to_nought 2 [0, 1] (esCons (eVar 3) (esCons (eVar 4) esNil))) (esCons (eVar 2) esNil)))) sNext)))) (sRet (eFn0 mr_want_at_most 3 [0, 1, 2] (esCons (eC (.str "belows")) (esCons (eC (.int 2000)) (esCons (eOp opAdd (es2 (eC (.int 2000)) (eC (.int 1)))) esNil)))))))
def xv_simplest_plain (n : Nat) : EvX :=
  (xSeq (sExpr (eFn0 mr_want_in_order 2 [0, 1] (esCons (eVar 0) (esCons (eVar 1) esNil)))) (xFn mx_want_in_order 2 [0, 1] (esCons (eVar 0) (esCons (eVar 1) esNil))) (xSeq (sFor (iR2 (esCons (eC (.int 1)) (esCons (eOp opAdd (es2 (eC (.int 2000)) (eC (.int 1)))) esNil))) (gvName [] 2) (sSeq (sAsg [] 3 (eOp opNeg (es1 (eOp opDiv (es2 (eOp opMul (es2 (eOp opNeg (es1 (eOp opIx (es2 (eVar 0) (eC (.int 0)))))) (eVar 2))) (eOp opIx (es2 (eVar 0) (eC (.int 1))))))))) (sSeq (sAsg [] 4 (eOp opDiv (es2 (eOp opMul (es2 (eOp opIx (es2 (eVar 1) (eC (.int 0)))) (eVar 2))) (eOp opIx (es2 (eVar 1) (eC (.int 1))))))) (sIf (tBl (eOp opLe (es2 (eVar 3) (eVar 4)))) (sRet (eFn0 mr_fraction 2 [0, 1] (esCons (eFn0 mr_nearest_to_nought 2 [0, 1] (esCons (eVar 3) (esCons (eVar 4) esNil))) (esCons (eVar 2) esNil)))) sNext)))) xNo (xFn mx_want_at_most 3 [0, 1, 2] (esCons (eC (.str "belows")) (esCons (eC (.int 2000)) (esCons (eOp opAdd (es2 (eC (.int 2000)) (eC (.int 1)))) esNil))))))
def mx_simplest_plain (os : List OD) : Option (OD ⊕ Er) := mxOf (ev_simplest_plain fuel) (xv_simplest_plain fuel) (startE ["low", "high", "below", "first", "last"] os)
def mr_simplest_plain : List OD → Option OD := inL mx_simplest_plain
def ev_simplest_above (n : Nat) : EvS :=
  (sSeq (sAsg [] 2 (eLst esNil)) (sSeq (whF (tBl (eOp opGt (es2 (eFn0 mr_compare 2 [0, 1] (esCons (eFn0 mr_whole 1 [0] (esCons (eFn0 mr_ceiling_of 1 [0] (esCons (eVar 0) esNil)) esNil)) (esCons (eVar 1) esNil))) (eC (.int 0))))) (sSeq (sAsg [] 3 (eFn0 mr_whole 1 [0] (esCons (eFn0 mr_floor_of 1 [0] (esCons (eVar 0) esNil)) esNil))) (sSeq (sApp 2 (eOp opIx (es2 (eVar 3) (eC (.int 0))))) (sPar [] 0 1 (esCons (eFn0 mr_over 2 [0, 1] (esCons (eC (.tuple [.int (1), .int (1)])) (esCons (eFn0 mr_minus 2 [0, 1] (esCons (eVar 1) (esCons (eVar 3) esNil))) esNil))) (esCons (eFn0 mr_over 2 [0, 1] (esCons (eC (.tuple [.int (1), .int (1)])) (esCons (eFn0 mr_minus 2 [0, 1] (esCons (eVar 0) (esCons (eVar 3) esNil))) esNil))) esNil))))) n) (sSeq (sApp 2 (eFn0 mr_ceiling_of 1 [0] (esCons (eVar 0) esNil))) (sRet (eFn0 mr_of_parts 1 [0] (esCons (eVar 2) esNil))))))
def mr_simplest_above (os : List OD) : Option OD := (ev_simplest_above fuel (startE ["low", "high", "parts", "part"] os)).bind retOf
def ev__law_near (n : Nat) : EvS :=
  (sSeq (sAsg [0] 2 (eFnP mr__law_draw 2 [0] (esCons (eVar 0) (esCons (eC (.int 6)) esNil)))) (sSeq (sAsg [0] 3 (eFnP mr__law_draw 2 [0] (esCons (eVar 0) (esCons (eOp opLen (esCons (eVar 1) esNil)) esNil)))) (sSeq (sAsg [0] 4 (eOp opList (esCons (eVar 1) esNil))) (sSeq (sIf (tBl (eOp opEq (es2 (eVar 2) (eC (.int 0))))) (sRet (eVar 4)) sNext) (sSeq (sIf (tBl (eOp opEq (es2 (eVar 2) (eC (.int 1))))) (sRet (eOp opAdd (es2 (eVar 4) (eLst (esCons (eOp opAdd (es2 (eC (.int 1)) (eFnP mr__law_draw 2 [0] (esCons (eVar 0) (esCons (eC (.int 4)) esNil))))) esNil))))) sNext) (sSeq (sIf (tBl (eOp opEq (es2 (eVar 2) (eC (.int 2))))) (sRet (eSl (eVar 4) oNone (oSome (eOp opAdd (es2 (eVar 3) (eC (.int 1))))))) sNext) (sSeq (sIf (tBl (eOp opEq (es2 (eVar 2) (eC (.int 3))))) (sSeq (sAsgG (gvSub 4 (eVar 3)) (eOp opAdd (es2 (eOp opAdd (es2 (eOp opIx (es2 (eVar 4) (eVar 3))) (eC (.int 1)))) (eFnP mr__law_draw 2 [0] (esCons (eVar 0) (esCons (eC (.int 2)) esNil)))))) (sRet (eVar 4))) sNext) (sSeq (sIf (tBl (eOp opEq (es2 (eVar 2) (eC (.int 4))))) (sRet (eOp opAdd (es2 (eSl (eVar 4) oNone (oSome (eOp opAdd (es2 (eVar 3) (eC (.int 1)))))) (eSl (eFnP mr__law_row 1 [] (esCons (eVar 0) esNil)) (oSome (eC (.int 1))) oNone)))) sNext) (sRet (eFnP mr__law_row 1 [] (esCons (eVar 0) esNil)))))))))))
def mr__law_near (o : OD) (os : List OD) : Option (OD × OD) := (ev__law_near fuel (startE ["_law_pot_here", "_law_parts_here", "_law_way", "_law_at", "_law_found"] (o :: os))).bind retP
def ev__law_no_parts (n : Nat) : EvS :=
  (sSeq (sAsg [] 0 (eLst esNil)) (sSeq (eTry errSub 7 5 (sExpr (eFn0 mr_of_parts 1 [0] (esCons (eLst esNil) esNil))) (xFn mx_of_parts 1 [0] (esCons (eLst esNil) esNil)) (suAs 1 (fun e a => (sApp 0 (eAnd (eOp (opIsE a e (errSub e.1 1)) (es1 (eVar 1))) (eNot (eOp (opIsE a e (errSub e.1 0)) (es1 (eVar 1))))))))) (sRet (eOp opEq (es2 (eOp opRepr (esCons (eVar 0) esNil)) (eC (.str "[True]")))))))
def mr__law_no_parts (os : List OD) : Option OD := (ev__law_no_parts fuel (startE ["_law_seen", "e"] os)).bind retOf
def ev__law_bounds (n : Nat) : EvS :=
  (sSeq (sAsg [0] 1 (eFnP mr__law_draw 2 [0] (esCons (eVar 0) (esCons (eC (.int 8)) esNil)))) (sSeq (sIf (tBl (eOp opEq (es2 (eVar 1) (eC (.int 0))))) (sSeq (sAsg [0] 2 (eFnP mr__law_low 2 [0] (esCons (eVar 0) (esCons (eC (.int 60)) esNil)))) (sRet (eTup (esCons (eVar 2) (esCons (eVar 2) (esCons (eC (.int 60)) esNil)))))) sNext) (sSeq (sIf (tBl (eOp opEq (es2 (eVar 1) (eC (.int 1))))) (sSeq (sAsg [0] 2 (eTup (esCons (eOp opSub (es2 (eFnP mr__law_draw 2 [0] (esCons (eVar 0) (esCons (eC (.int 21)) esNil))) (eC (.int 10)))) (esCons (eC (.int 1)) esNil)))) (sRet (eTup (esCons (eVar 2) (esCons (eTup (esCons (eOp opAdd (es2 (eOp opIx (es2 (eVar 2) (eC (.int 0)))) (eFnP mr__law_draw 2 [0] (esCons (eVar 0) (esCons (eC (.int 12)) esNil))))) (esCons (eC (.int 1)) esNil))) (esCons (eC (.int 1)) esNil)))))) sNext) (sSeq (sIf (tBl (eOp opEq (es2 (eVar 1) (eC (.int 2))))) (sSeq (sAsg [0] 2 (eFnP mr__law_low 2 [0] (esCons (eVar 0) (esCons (eOp opPow (es2 (eC (.int 10)) (eC (.int 6)))) esNil)))) (sRet (eTup (esCons (eVar 2) (esCons (eFn0 mr__law_sum 2 [0, 1] (esCons (eVar 2) (esCons (eTup (esCons (eC (.int 1)) (esCons (eOp opAdd (es2 (eC (.int 2)) (eFnP mr__law_draw 2 [0] (esCons (eVar 0) (esCons (eC (.int 39)) esNil))))) esNil))) esNil))) (esCons (eC (.int 41)) esNil)))))) sNext) (sSeq (sIf (tBl (eOp opEq (es2 (eVar 1) (eC (.int 3))))) (sSeq (sAsg [0] 2 (eFnP mr__law_low 2 [0] (esCons (eVar 0) (esCons (eC (.int 9)) esNil)))) (sRet (eTup (esCons (eTup (esCons (eOp opNeg (es1 (eOp opAbs (esCons (eOp opIx (es2 (eVar 2) (eC (.int 0)))) esNil)))) (esCons (eOp opIx (es2 (eVar 2) (eC (.int 1)))) esNil))) (esCons (eFn0 mr__law_made 2 [0, 1] (esCons (eFnP mr__law_draw 2 [0] (esCons (eVar 0) (esCons (eC (.int 9)) esNil))) (esCons (eC (.int 7)) esNil))) (esCons (eC (.int 9)) esNil)))))) sNext) (sSeq (sAsg [0] 2 (eFnP mr__law_low 2 [0] (esCons (eVar 0) (esCons (eC (.int 60)) esNil)))) (sRet (eTup (esCons (eVar 2) (esCons (eFn0 mr__law_sum 2 [0, 1] (esCons (eVar 2) (esCons (eFn0 mr__law_made 2 [0, 1] (esCons (eFnP mr__law_draw 2 [0] (esCons (eVar 0) (esCons (eC (.int 40)) esNil))) (esCons (eOp opAdd (es2 (eC (.int 40)) (eFnP mr__law_draw 2 [0] (esCons (eVar 0) (esCons (eC (.int 5000)) esNil))))) esNil))) esNil))) (esCons (eC (.int 60)) esNil)))))))))))
def mr__law_bounds (o : OD) (os : List OD) : Option (OD × OD) := (ev__law_bounds fuel (startE ["_law_pot_here", "_law_way", "_law_low_here"] (o :: os))).bind retP
def ev_simplest (n : Nat) : EvS :=
  (sSeq (sExpr (eFn0 mr_want_in_order 2 [0, 1] (esCons (eVar 0) (esCons (eVar 1) esNil)))) (sSeq (sIf (tAndD (tBl (eOp opLe (es2 (eFn0 mr_sign_of 1 [0] (esCons (eVar 0) esNil)) (eC (.int 0))))) (tBl (eOp opGe (es2 (eFn0 mr_sign_of 1 [0] (esCons (eVar 1) esNil)) (eC (.int 0)))))) (sRet (eC (.tuple [.int (0), .int (1)]))) sNext) (sSeq (sIf (tBl (eOp opLt (es2 (eFn0 mr_sign_of 1 [0] (esCons (eVar 1) esNil)) (eC (.int 0))))) (sRet (eFn0 mr_opposite 1 [0] (esCons (eFn0 mr_simplest_above 2 [0, 1] (esCons (eFn0 mr_opposite 1 [0] (esCons (eVar 1) esNil)) (esCons (eFn0 mr_opposite 1 [0] (esCons (eVar 0) esNil)) esNil))) esNil))) sNext) (sRet (eFn0 mr_simplest_above 2 [0, 1] (esCons (eVar 0) (esCons (eVar 1) esNil)))))))
def xv_simplest (n : Nat) : EvX :=
  (xSeq (sExpr (eFn0 mr_want_in_order 2 [0, 1] (esCons (eVar 0) (esCons (eVar 1) esNil)))) (xFn mx_want_in_order 2 [0, 1] (esCons (eVar 0) (esCons (eVar 1) esNil))) xNo)
def mx_simplest (os : List OD) : Option (OD ⊕ Er) := mxOf (ev_simplest fuel) (xv_simplest fuel) (startE ["low", "high"] os)
def mr_simplest : List OD → Option OD := inL mx_simplest
def ev__law_parts_right (n : Nat) : EvS :=
  (sSeq (sAsg [0] 1 (eFnP mr__law_row 1 [] (esCons (eVar 0) esNil))) (sSeq (sAsg [0] 2 (eFnP mr__law_near 2 [0] (esCons (eVar 0) (esCons (eVar 1) esNil)))) (sSeq (sAsg [0] 3 (eOpL opRepr (esCons (eVar 1) (esCons (eVar 2) esNil)))) (sSeq (sPar [0] 6 7 (esCons (eFn0 mr__law_stands 1 [0] (esCons (eVar 1) esNil)) (esCons (eFn0 mr__law_stands 1 [0] (esCons (eVar 2) esNil)) esNil))) (sSeq (sAsg [0] 4 (eLstO (esCons (eFn0 mr_of_parts 1 [0] (esCons (eVar 1) esNil)) (esCons (eFn0 mr_of_parts 1 [0] (esCons (eVar 2) esNil)) esNil)))) (sSeq (sIf (tOrD (tBl (eOp opNe (es2 (eOp opRepr (esCons (eVar 4) esNil)) (eOpL opRepr (esCons (eVar 6) (esCons (eVar 7) esNil)))))) (tBl (eOp opNe (es2 (eOpL opRepr (esCons (eVar 1) (esCons (eVar 2) esNil))) (eVar 3))))) (sRet (eC (.bool false))) sNext) (sSeq (sAsg [0] 4 (eLstO (esCons (eFn0 mr_parts_of 1 [0] (esCons (eVar 6) esNil)) (esCons (eFn0 mr_parts_of 1 [0] (esCons (eVar 7) esNil)) esNil)))) (sSeq (sAsg [0] 5 (eLst (esCons (eFn0 mr__law_parts 1 [0] (esCons (eVar 6) esNil)) (esCons (eFn0 mr__law_parts 1 [0] (esCons (eVar 7) esNil)) esNil)))) (sSeq (sIf (tBl (eOp opNe (es2 (eOp opRepr (esCons (eVar 4) esNil)) (eOp opRepr (esCons (eVar 5) esNil))))) (sRet (eC (.bool false))) sNext) (sSeq (sAppIx 4 (eC (.int 0)) (eC (.int 3))) (sSeq (sIf (tOrD (tBl (eOp opNe (es2 (eOp opRepr (esCons (eFn0 mr_parts_of 1 [0] (esCons (eVar 6) esNil)) esNil)) (eOp opRepr (esCons (eOp opIx (es2 (eVar 5) (eC (.int 0)))) esNil))))) (tNotD (tTru (eFn0 mr__law_no_parts 0 [] esNil)))) (sRet (eC (.bool false))) sNext) (sSeq (sAsg [0] 4 (eLstO (esCons (eFn0 mr_compare_by_parts 2 [0, 1] (esCons (eVar 6) (esCons (eVar 7) esNil))) (esCons (eFn0 mr_compare_by_parts 2 [1, 0] (esCons (eVar 6) (esCons (eVar 7) esNil))) esNil)))) (sSeq (sApp 4 (eFn0 mr_compare_by_parts 2 [0, 1] (esCons (eVar 6) (esCons (eVar 6) esNil)))) (sRet (eOp opEq (es2 (eOp opRepr (esCons (eVar 4) esNil)) (eOpL opRepr (esCons (eFn0 mr__law_less 2 [0, 1] (esCons (eVar 6) (esCons (eVar 7) esNil))) (esCons (eFn0 mr__law_less 2 [0, 1] (esCons (eVar 7) (esCons (eVar 6) esNil))) (esCons (eC (.int 0)) esNil))))))))))))))))))))
def mr__law_parts_right (o : OD) (os : List OD) : Option (OD × OD) := (ev__law_parts_right fuel (startE ["_law_pot_here", "_law_parts_here", "_law_other", "_law_shown", "_law_told", "_law_due", "_law_one", "_law_two"] (o :: os))).bind retP
def ev__law_crossed_right (n : Nat) : EvS :=
  (sSeq (sAsg [] 2 (eLst esNil)) (sSeq (eTry errSub 7 3 (sExpr (eFn0 mr_simplest 2 [0, 1] (esCons (eVar 1) (esCons (eVar 0) esNil)))) (xFn mx_simplest 2 [0, 1] (esCons (eVar 1) (esCons (eVar 0) esNil))) (suAs 3 (fun e a => (sApp 2 (eAnd (eOp (opIsE a e (errSub e.1 0)) (es1 (eVar 3))) (eOp (opIsE a e (errSubB e.1 "ValueError")) (es1 (eVar 3)))))))) (sSeq (eTry errSub 7 0 (sExpr (eFn0 mr_simplest_plain 2 [0, 1] (esCons (eVar 1) (esCons (eVar 0) esNil)))) (xFn mx_simplest_plain 2 [0, 1] (esCons (eVar 1) (esCons (eVar 0) esNil))) (suAs 3 (fun e a => (sApp 2 (eAnd (eOp (opIsE a e (errSub e.1 3)) (es1 (eVar 3))) (eNot (eOp (opIsE a e (errSubB e.1 "LookupError")) (es1 (eVar 3))))))))) (sRet (eOp opEq (es2 (eOp opRepr (esCons (eVar 2) esNil)) (eC (.str "[True, True]"))))))))
def mr__law_crossed_right (os : List OD) : Option OD := (ev__law_crossed_right fuel (startE ["_law_low_here", "_law_high", "_law_seen", "e"] os)).bind retOf
def ev__law_alone_right (n : Nat) : EvS :=
  (sSeq (sAsg [0] 1 (eFnP mr__law_pick 2 [0] (esCons (eVar 0) (esCons (eLst (esCons (eC (.int 1999)) (esCons (eC (.int 2000)) (esCons (eC (.int 2001)) (esCons (eC (.int 2003)) (esCons (eOp opAdd (es2 (eC (.int 1998)) (eFnP mr__law_draw 2 [0] (esCons (eVar 0) (esCons (eOp opPow (es2 (eC (.int 10)) (eC (.int 6)))) esNil))))) esNil)))))) esNil)))) (sSeq (sAsg [0] 2 (eFn0 mr__law_made 2 [0, 1] (esCons (eOp opAdd (es2 (eC (.int 1)) (eFnP mr__law_draw 2 [0] (esCons (eVar 0) (esCons (eOp opPow (es2 (eC (.int 10)) (eC (.int 6)))) esNil))))) (esCons (eVar 1) esNil)))) (sSeq (sAsgG (gvTup 2 (gvCons (gvName [0] 5) (gvCons (gvName [0] 6) gvNil))) (eFnP mr__law_turned 3 [0, 1] (esCons (eVar 0) (esCons (eVar 2) (esCons (eVar 2) esNil))))) (sSeq (sIf (tBl (eOp opNe (es2 (eOp opRepr (esCons (eFn0 mr_simplest 2 [0, 1] (esCons (eVar 5) (esCons (eVar 6) esNil))) esNil)) (eOp opRepr (esCons (eVar 5) esNil))))) (sRet (eC (.bool false))) sNext) (sSeq (sIf (tBl (eOp opLe (es2 (eOp opIx (es2 (eVar 2) (eC (.int 1)))) (eC (.int 2000))))) (sRet (eOp opEq (es2 (eOp opRepr (esCons (eFn0 mr_simplest_plain 2 [0, 1] (esCons (eVar 5) (esCons (eVar 6) esNil))) esNil)) (eOp opRepr (esCons (eVar 5) esNil))))) sNext) (sSeq (sAsg [0] 3 (eLst esNil)) (sSeq (eTry errSub 7 6 (sExpr (eFn0 mr_simplest_plain 2 [0, 1] (esCons (eVar 5) (esCons (eVar 6) esNil)))) (xFn mx_simplest_plain 2 [0, 1] (esCons (eVar 5) (esCons (eVar 6) esNil))) (suAs 4 (fun e a => (sAsg [0] 3 (eLst (esCons (eOp (opFld a e "what") (es1 (eVar 4))) (esCons (eOp (opFld a e "limit") (es1 (eVar 4))) (esCons (eOp (opIsE a e (errSub e.1 2)) (es1 (eVar 4))) (esCons (eOp (opIsE a e (errSubB e.1 "ValueError")) (es1 (eVar 4))) esNil))))))))) (sRet (eOp opEq (es2 (eOp opRepr (esCons (eVar 3) esNil)) (eOpL opRepr (esCons (eC (.str "belows")) (esCons (eC (.int 2000)) (esCons (eC (.bool true)) (esCons (eC (.bool false)) esNil)))))))))))))))
def mr__law_alone_right (o : OD) (os : List OD) : Option (OD × OD) := (ev__law_alone_right fuel (startE ["_law_pot_here", "_law_below", "_law_one", "_law_seen", "e", "_law_low_here", "_law_high"] (o :: os))).bind retP
def ev__law_between_right (n : Nat) : EvS :=
  (sSeq (sAsgG (gvTup 3 (gvCons (gvName [0] 3) (gvCons (gvName [0] 4) (gvCons (gvName [0] 5) gvNil)))) (eFnP mr__law_bounds 1 [] (esCons (eVar 0) esNil))) (sSeq (sAsgG (gvTup 2 (gvCons (gvName [0] 3) (gvCons (gvName [0] 4) gvNil))) (eFnP mr__law_turned 3 [0, 1] (esCons (eVar 0) (esCons (eVar 3) (esCons (eVar 4) esNil))))) (sSeq (sAsg [0] 1 (eFn0 mr__law_simplest 3 [0, 1, 2] (esCons (eVar 3) (esCons (eVar 4) (esCons (eVar 5) esNil))))) (sSeq (sAsg [0] 2 (eLst (esCons (eFn0 mr_simplest 2 [0, 1] (esCons (eVar 3) (esCons (eVar 4) esNil))) (esCons (eFn0 mr_simplest_plain 2 [0, 1] (esCons (eVar 3) (esCons (eVar 4) esNil))) esNil)))) (sSeq (sIf (tBl (eOp opNe (es2 (eOp opRepr (esCons (eVar 2) esNil)) (eOpL opRepr (esCons (eVar 1) (esCons (eVar 1) esNil)))))) (sRet (eC (.bool false))) sNext) (sSeq (sIf (tAndD (tBl (eOp opNe (es2 (eVar 3) (eVar 4)))) (tNotD (tTru (eFn0 mr__law_crossed_right 2 [0, 1] (esCons (eVar 3) (esCons (eVar 4) esNil)))))) (sRet (eC (.bool false))) sNext) (sSeq (sAsg [0] 2 (eLst (esCons (eFn0 mr_simplest 2 [1, 0] (esCons (eVar 4) (esCons (eVar 3) esNil))) (esCons (eFn0 mr_simplest_plain 2 [1, 0] (esCons (eVar 4) (esCons (eVar 3) esNil))) esNil)))) (sRet (eOp opEq (es2 (eOp opRepr (esCons (eVar 2) esNil)) (eOpL opRepr (esCons (eVar 1) (esCons (eVar 1) esNil)))))))))))))
def mr__law_between_right (o : OD) (os : List OD) : Option (OD × OD) := (ev__law_between_right fuel (startE ["_law_pot_here", "_law_due", "_law_told", "_law_low_here", "_law_high", "_law_limit"] (o :: os))).bind retP
def ev_law (n : Nat) : EvS :=
  (sSeq (sAsg [] 1 (eFn0 mr__law_pot 2 [0, 1] (esCons (eVar 0) (esCons (eC (.int 0)) esNil)))) (sSeq (sIf (tOrD (tNotD (tTru (eFnP mr__law_parts_right 1 [] (esCons (eVar 1) esNil)))) (tNotD (tTru (eFnP mr__law_between_right 1 [] (esCons (eVar 1) esNil))))) (sRet (eC (.bool false))) sNext) (sSeq (sAsg [] 2 (eFn0 mr__law_pot 2 [0, 1] (esCons (eVar 0) (esCons (eC (.int 1)) esNil)))) (sSeq (sIf (tBl (eOp opEq (es2 (eFnP mr__law_draw 2 [0] (esCons (eVar 2) (esCons (eC (.int 6)) esNil))) (eC (.int 0))))) (sRet (eFnP mr__law_alone_right 1 [] (esCons (eVar 2) esNil))) sNext) (sRet (eFnP mr__law_between_right 1 [] (esCons (eVar 2) esNil)))))))
def mr_law (os : List OD) : Option OD := (ev_law fuel (startE ["_law_script", "_law_pot_here", "_law_other"] os)).bind retOf
end
end K11
set_option exponentiation.threshold 5000
namespace K11
open PySem PySem.Spec PyProof.Rows L2 DX
-- DXSIMP begin
local macro_rules | `(tactic| walk_at "dx") => `(tactic| simp only [b_escs, b_rdTms, b_hardTms, b_softTms, b_esCons, b_opV, b_opL, b_opT, b_eOp, b_rdNil, b_rdCons, b_rdT, b_rdA, b_erS, b_erL, b_eVar, b_eC, b_esNil, b_tTru, b_tBl, b_tAnd, b_tOr, b_tNot, b_eAnd, b_eOr, b_eNot, b_eIf, b_eTup, b_eLst, b_eTupO, b_iR2, k_ints2, b_sExpr, b_eLstO, b_xRaiseF, b_iRev, k_sqdL, k_sqdT, o_listL, o_listT, b_eOpL, k_scOS, b_mvNil, b_mvCons, b_sAppTp, b_erTp, g_hardTp, g_softTp, g_giveTp, k_tpl, k_shTp, b_oSome, b_oNone, b_eSl, b_eMt, b_fn0, b_fnP, b_sRet, b_sAsg, b_gvName, b_gvNil, b_gvCons, b_gvTup, b_gvSub, b_sAsgG, b_sApp, b_sPar, b_sPar3, b_sAppIx, b_sAugI, b_cvsNil, b_cvsCons, b_bindCond, b_condFst, b_condSnd, b_giveT, b_sFor, b_iSq, b_iR1, b_iEnA, wipeE, cYes, at_zero, k_bool, k_int, k_str, k_tup, k_lst, k_list, k_itL, k_itT, k_itSS, k_trN, k_trB, k_trI, k_trSS, k_trL, k_trT, k_scN, k_scB, k_scI, k_scS, k_scL, k_scT, k_shS, k_shL, k_softT, k_hardT, k_cvT, k_softNil, k_softCons, k_hardNil, k_hardCons, g_hard, g_soft, g_cv, g_give, g_hardS, g_hardL, g_softS, g_softL, g_cvS, g_giveS, g_giveL, g_allSh, g_erSh, List.all_cons, List.all_nil, k_retR, k_retN, k_alA, k_hd, k_two, k_three, k_sh, k_odT, k_enS, k_enL, o_addI, o_addS, o_addL, o_sub, o_neg, o_ltI, o_leI, o_gtI, o_geI, o_lenS, o_lenL, o_lenT, o_abs, o_max, o_int, o_ixL, o_ixT, o_ixSS, o_slS, o_slL, o_in1S, o_ni1S, o_eqS, o_neS, o_eqI, o_neI, o_mul, o_div, o_mod, o_pow, o_divmod, z_ble0, z_ble1, z_ble2, z_ble3, z_ble4, z_ble5, z_ble6, z_ble7, z_ble8, z_ble9, z_ble10, z_ble13, z_ble17, S_l, S_len, S_app, es1, es2, startE, sNext, pk, DX.inR, Nat.beq, Nat.ble, List.any_cons, List.any_nil, List.filterMap_cons, List.filterMap_nil, Option.bind_some, Option.bind_none, cond_true, cond_false, decide_true, decide_false, List.map_cons, List.map_nil, List.length_cons, List.length_nil, List.length_map, List.length_set, List.getElem?_cons_zero, List.getElem?_cons_succ, List.cons_append, List.nil_append, List.set_cons_zero, List.set_cons_succ, List.replicate, Nat.reduceAdd, Nat.reduceSub, Nat.zero_add, Int.toNat_natCast, Bool.not_true, Bool.not_false, Bool.or_self, Bool.or_false, Bool.false_or, Bool.and_self, Bool.and_true, Bool.true_and, Bool.and_false, Bool.false_and, Bool.true_or, Bool.or_true, z_some, z_none, z_bind, z_then, z_map, z_mapK, b_eLc, lcStep, forStep, at_0, at_1, at_2, at_3, at_4, at_5, at_m1, ix_0, ix_1, ix_m1, blt_00, blt_0s, blt_12, blt_02, z_ifK, z_guard, z_guardN, z_seqN, z_seqR, z_seqB, z_seqC, z_sSeq, z_sIf, z_forN, z_forC, z_forB, z_forR, r_P1, r_P2, k_condSomeP, k_condNx, k_condEn, k_condSl, k_condPair, k_condTm, k_condSh, k_condI, k_condB, k_condAnd, k_condOr, k_condNot, o_gcd, k_condAndL, k_condOrL, b_jNil, b_jCons, b_eJoin, t_str, str_len, str_empty, Int.cast_ofNat_Int, Int.reduceEq, Int.reduceLT, Int.reduceLE, Int.reduceNeg, Int.reduceAdd, Int.reduceSub, Int.reduceMul, Int.reduceToNat, Int.reducePow, Nat.reduceLT, Nat.reduceLeDiff, Nat.reduceEqDiff, Nat.reduceMul, k_condSelf, x_no, x_raise, x_seqNo, b_xIf, x_inr, x_inl, b_xFn, o_neSelf, o_eqSelf, i_boolN, i_boolB, i_boolI, i_boolS, i_boolL, i_boolT, i_intN, i_intB, i_intI, i_intS, i_intL, i_intT, i_strN, i_strB, i_strI, i_strS, i_strL, i_strT, i_listN, i_listB, i_listI, i_listS, i_listL, i_listT, i_tupleN, i_tupleB, i_tupleI, i_tupleS, i_tupleL, i_tupleT, at_nat, decide_eq_true_eq, decide_eq_false_iff_not, Nat.ble_eq, and_true, true_and, Option.map_some, Option.isSome_some])
local macro_rules | `(tactic| walk_at "dxs") => `(tactic| simp only [b_escs, b_rdTms, b_hardTms, b_softTms, b_esCons, b_opV, b_opL, b_opT, b_eOp, b_rdNil, b_rdCons, b_rdT, b_rdA, b_erS, b_erL, b_eVar, b_eC, b_esNil, b_tTru, b_tBl, b_tAnd, b_tOr, b_tNot, b_eAnd, b_eOr, b_eNot, b_eIf, b_eTup, b_eLst, b_eTupO, b_iR2, k_ints2, b_sExpr, b_eLstO, b_xRaiseF, b_iRev, k_sqdL, k_sqdT, o_listL, o_listT, b_eOpL, k_scOS, b_mvNil, b_mvCons, b_sAppTp, b_erTp, g_hardTp, g_softTp, g_giveTp, k_tpl, k_shTp, b_oSome, b_oNone, b_eSl, b_eMt, b_fn0, b_fnP, b_sRet, b_sAsg, b_gvName, b_gvNil, b_gvCons, b_gvTup, b_gvSub, b_sAsgG, b_sApp, b_sPar, b_sPar3, b_sAppIx, b_sAugI, b_cvsNil, b_cvsCons, b_bindCond, b_condFst, b_condSnd, b_giveT, b_sFor, b_iSq, b_iR1, b_iEnA, wipeE, cYes, at_zero, k_bool, k_int, k_str, k_tup, k_lst, k_list, k_itL, k_itT, k_itSS, k_trN, k_trB, k_trI, k_trSS, k_trL, k_trT, k_scN, k_scB, k_scI, k_scS, k_scL, k_scT, k_shS, k_shL, k_softT, k_hardT, k_cvT, k_softNil, k_softCons, k_hardNil, k_hardCons, g_hard, g_soft, g_cv, g_give, g_hardS, g_hardL, g_softS, g_softL, g_cvS, g_giveS, g_giveL, g_allSh, g_erSh, List.all_cons, List.all_nil, k_retR, k_retN, k_alA, k_hd, k_two, k_three, k_sh, k_odT, k_enS, k_enL, o_addI, o_addS, o_addL, o_sub, o_neg, o_ltI, o_leI, o_gtI, o_geI, o_lenS, o_lenL, o_lenT, o_abs, o_max, o_int, o_ixL, o_ixT, o_ixSS, o_slS, o_slL, o_in1S, o_ni1S, o_eqS, o_neS, o_eqI, o_neI, o_mul, o_div, o_mod, o_pow, o_divmod, z_ble0, z_ble1, z_ble2, z_ble3, z_ble4, z_ble5, z_ble6, z_ble7, z_ble8, z_ble9, z_ble10, z_ble13, z_ble17, S_l, S_len, S_app, es1, es2, startE, sNext, pk, DX.inR, Nat.beq, Nat.ble, List.any_cons, List.any_nil, List.filterMap_cons, List.filterMap_nil, Option.bind_some, Option.bind_none, cond_true, cond_false, decide_true, decide_false, List.map_cons, List.map_nil, List.length_cons, List.length_nil, List.length_map, List.length_set, List.getElem?_cons_zero, List.getElem?_cons_succ, List.cons_append, List.nil_append, List.set_cons_zero, List.set_cons_succ, List.replicate, Nat.reduceAdd, Nat.reduceSub, Nat.zero_add, Int.toNat_natCast, Bool.not_true, Bool.not_false, Bool.or_self, Bool.or_false, Bool.false_or, Bool.and_self, Bool.and_true, Bool.true_and, Bool.and_false, Bool.false_and, Bool.true_or, Bool.or_true, z_some, z_none, z_bind, z_then, z_map, z_mapK, b_eLc, lcStep, forStep, at_0, at_1, at_2, at_3, at_4, at_5, at_m1, ix_0, ix_1, ix_m1, blt_00, blt_0s, blt_12, blt_02, z_ifK, z_guard, z_guardN, z_seqN, z_seqR, z_seqB, z_seqC, z_sSeq, z_sIf, z_forN, z_forC, z_forB, z_forR, r_P1, r_P2, k_condSomeP, k_condNx, k_condEn, k_condSl, k_condPair, k_condTm, k_condSh, k_condI, k_condB, k_condAnd, k_condOr, k_condNot, o_gcd, k_condAndL, k_condOrL, b_jNil, b_jCons, b_eJoin, t_str, str_len, str_empty, Int.cast_ofNat_Int, Int.reduceEq, Int.reduceLT, Int.reduceLE, Int.reduceNeg, Int.reduceAdd, Int.reduceSub, Int.reduceMul, Int.reduceToNat, Int.reducePow, Nat.reduceLT, Nat.reduceLeDiff, Nat.reduceEqDiff, Nat.reduceMul, k_condSelf, x_no, x_raise, x_seqNo, b_xIf, x_inr, x_inl, b_xFn, o_neSelf, o_eqSelf, i_boolN, i_boolB, i_boolI, i_boolS, i_boolL, i_boolT, i_intN, i_intB, i_intI, i_intS, i_intL, i_intT, i_strN, i_strB, i_strI, i_strS, i_strL, i_strT, i_listN, i_listB, i_listI, i_listS, i_listL, i_listT, i_tupleN, i_tupleB, i_tupleI, i_tupleS, i_tupleL, i_tupleT, at_nat, decide_eq_true_eq, decide_eq_false_iff_not, Nat.ble_eq, and_true, true_and, Option.map_some, Option.isSome_some, *])
-- DXSIMP end
abbrev potO (a b : Int) : OD := .lst [.sh (.int a), .sh (.int b)]
def Pk (b : Int) : Prop := 0 ≤ b ∧ b < 2147483604
theorem mulFits_of {a b : Int} (ha : a.natAbs < 2 ^ 4000) (hb : b.natAbs < 2 ^ 4000) : mulFits a b = true := by
  have h1 := PySem.Flt.log2_lt_of (by decide) ha
  have h2 := PySem.Flt.log2_lt_of (by decide) hb
  exact decide_eq_true (by omega)
theorem mulFits_small {a b : Int} (ha : a.natAbs < 2 ^ 64) (hb : b.natAbs < 2 ^ 64) : mulFits a b = true :=
  mulFits_of (Nat.lt_of_lt_of_le ha (Nat.pow_le_pow_right (by decide) (by decide))) (Nat.lt_of_lt_of_le hb (Nat.pow_le_pow_right (by decide) (by decide)))
theorem divFits_of {a b : Int} (h0 : b ≠ 0) (hb : b.natAbs < 2 ^ 4000) : divFits a b = true := by
  have h2 := PySem.Flt.log2_lt_of (by decide) hb
  exact decide_eq_true ⟨h0, by omega⟩
theorem divFits_small {a b : Int} (h0 : b ≠ 0) (hb : b.natAbs < 2 ^ 64) : divFits a b = true := divFits_of h0 (Nat.lt_of_lt_of_le hb (Nat.pow_le_pow_right (by decide) (by decide)))
theorem emod_lt {a b : Int} (h : 0 < b) : 0 ≤ a % b ∧ a % b < b := ⟨Int.emod_nonneg _ (by omega), Int.emod_lt_of_pos _ h⟩
/-- a draw: a number below n, the pot behind it -/
def Dr (n : Int) (r : OD × OD) : Prop := ∃ v a b : Int, r = (.sh (.int v), potO a b) ∧ 0 ≤ v ∧ v < n ∧ Pk b
theorem sp_draw {a b n : Int} (hb : Pk b) (hn : 0 < n) (hn2 : n < 1073741824) : Sat (mr__law_draw (potO a b) [.sh (.int n)]) (Dr n) := by
  unfold mr__law_draw ev__law_draw
  obtain ⟨hb1, hb2⟩ := hb
  walk_at "dx"
  refine Sat.splitD (fun ha => ?_) fun ha => ?_
  · walk_at "dx"
    exact ⟨⟨hn, hn2⟩, _, _, _, rfl, (emod_lt hn).1, (emod_lt hn).2, hb1, hb2⟩
  · walk_at "dx"
    obtain ⟨m1, m2⟩ := emod_lt (a := b * 40357 + 6173) (b := 2147483579) (by decide)
    refine ⟨mulFits_small (by omega) (by decide), mulFits_small (by omega) (by omega), divFits_small (by decide) (by decide), hn, _, _, _, rfl, (emod_lt hn).1, (emod_lt hn).2, m1, by omega⟩
theorem sp_pick {a b : Int} {ds : List PyData} (hb : Pk b) (h0 : 0 < ds.length) (h1 : ds.length < 1073741824) : Sat (mr__law_pick (potO a b) [.sh (.list ds)]) (fun r => ∃ d a b, r = (.sh d, potO a b) ∧ d ∈ ds ∧ Pk b) := by
  unfold mr__law_pick ev__law_pick
  walk_at "dx"
  refine (sp_draw hb (n := (ds.length : Nat)) (by omega) (by omega)).mono fun r ⟨v, a', b', e, hv0, hv1, hb'⟩ => ?_
  subst e
  obtain ⟨k, rfl⟩ : ∃ k : Nat, v = k := ⟨v.toNat, by omega⟩
  have hk : k < ds.length := by omega
  walk_at "dx"
  refine Sat.at (List.getElem?_eq_getElem hk) ?_
  walk_at "dx"
  exact ⟨_, _, _, rfl, List.getElem_mem hk, hb'⟩
/-! ### gcd and fractions -/
theorem gcdI_step {a b : Int} (ha : 0 ≤ a) (hb : 0 < b) : gcdI b (a % b) = gcdI a b := by
  unfold gcdI
  have e : (a % b).natAbs = a.natAbs % b.natAbs := by
    obtain ⟨x, rfl⟩ : ∃ x : Nat, a = x := ⟨a.toNat, by omega⟩
    obtain ⟨y, rfl⟩ : ∃ y : Nat, b = y := ⟨b.toNat, by omega⟩
    rw [← Int.natCast_emod]; rfl
  rw [e, Nat.gcd_comm a.natAbs b.natAbs, Nat.gcd_rec b.natAbs a.natAbs, Nat.gcd_comm]
theorem gcdI_zero {a : Int} (ha : 0 ≤ a) : gcdI a 0 = a := by
  unfold gcdI
  rw [show (0 : Int).natAbs = 0 from rfl, Nat.gcd_zero_right]; omega
def absI (a : Int) : Int := if a < 0 then -a else a
theorem absI_nn (a : Int) : 0 ≤ absI a := by unfold absI; split <;> omega
theorem absI_nat (a : Int) : (absI a).natAbs = a.natAbs := by unfold absI; split <;> omega
theorem gcdI_abs (a b : Int) : gcdI (absI a) (absI b) = gcdI a b := by unfold gcdI; rw [absI_nat, absI_nat]
theorem e_gcd {a b : Int} (hs : b.natAbs < 2 ^ 4000) : mr__law_gcd [.sh (.int a), .sh (.int b)] = some (.sh (.int (gcdI a b))) := by
  refine eq_of_sat ?_
  unfold mr__law_gcd ev__law_gcd
  walk_at "dx"
  refine Sat.while (fun n os => ∃ x y : Int, 0 ≤ x ∧ 0 ≤ y ∧ gcdI x y = gcdI a b ∧ n = y.toNat ∧ os = [some (.sh (.int x)), some (.sh (.int y))]) (absI b).toNat (fuel_of (by rw [show (absI b).toNat = b.natAbs by have := absI_nn b; have := absI_nat b; omega]; exact hs)) ⟨_, _, absI_nn a, absI_nn b, gcdI_abs a b, rfl, rfl⟩ fun n os ⟨x, y, hx, hy, hg, hn, e⟩ => ?_
  subst e
  subst hn
  walk_at "dx"
  refine ⟨fun h => ?_, fun h => ?_⟩
  · have : y = 0 := by omega
    subst this
    rw [gcdI_zero hx] at hg
    subst hg
    walk_at "dx"
  · obtain ⟨m1, m2⟩ := emod_lt (a := x) h
    exact ⟨h, _, by omega, _, _, hy, m1, (gcdI_step hx h).trans hg, rfl, rfl⟩
/-- the divisor with the sign of what stands below -/
def sg (a b : Int) : Int := cond (decide (b < 0)) (-gcdI a b) (gcdI a b)
def mk (a b : Int) : Int × Int := (divV a (sg a b), divV b (sg a b))
def frD (a : Int × Int) : PyData := .tuple [.int a.1, .int a.2]
theorem gcdI_pos {a b : Int} (h : b ≠ 0) : 0 < gcdI a b := by
  unfold gcdI
  have := Nat.gcd_pos_of_pos_right a.natAbs (show 0 < b.natAbs by omega)
  omega
theorem gcdI_le {a b : Int} (h : b ≠ 0) : (gcdI a b).natAbs ≤ b.natAbs := by
  unfold gcdI
  exact Nat.gcd_le_right _ (by omega)
theorem sg_ne {a b : Int} (h : b ≠ 0) : sg a b ≠ 0 := by
  have := gcdI_pos (a := a) h
  unfold sg; cases decide (b < 0) <;> simp only [cond_true, cond_false] <;> omega
theorem sg_le {a b : Int} (h : b ≠ 0) : (sg a b).natAbs ≤ b.natAbs := by
  have := gcdI_le (a := a) h
  unfold sg; cases decide (b < 0) <;> simp only [cond_true, cond_false] <;> omega
theorem e_made {a b : Int} (h : b ≠ 0) (hb : b.natAbs < 2 ^ 4000) : mr__law_made [.sh (.int a), .sh (.int b)] = some (.sh (frD (mk a b))) := by
  refine eq_of_sat ?_
  unfold mr__law_made ev__law_made
  walk_at "dx"
  rw [e_gcd hb]
  walk_at "dx"
  have f : ∀ x, divFits x (sg a b) = true := fun x => divFits_of (sg_ne h) (Nat.lt_of_le_of_lt (sg_le h) hb)
  exact ⟨f _, f _, rfl⟩
theorem e_fraction {a b : Int} (h : b ≠ 0) (hb : b.natAbs < 2 ^ 4000) : mr_fraction [.sh (.int a), .sh (.int b)] = some (.sh (frD (mk a b))) := by
  refine inL_eq (inL_mx ?_ ?_)
  · unfold xv_fraction
    have e : decide (b = 0) = false := decide_eq_false h
    walk_at "dxs"
  · refine eq_of_sat ?_
    unfold ev_fraction
    walk_at "dx"
    have f : ∀ x, divFits x (sg a b) = true := fun x => divFits_of (sg_ne h) (Nat.lt_of_le_of_lt (sg_le h) hb)
    exact ⟨h, f _, f _, rfl⟩
theorem x_fraction0 {a : Int} : mx_fraction [.sh (.int a), .sh (.int 0)] = some (.inr (4, [])) := by
  refine inR_mx (os' := [some (.sh (.int a)), some (.sh (.int 0)), none]) ?_
  unfold xv_fraction
  walk_at "dx"
/-! ### sizes -/
def Sm (x : Int) : Prop := x.natAbs < 2 ^ 900
theorem pw {a b : Nat} (h : a ≤ b) : (2 : Nat) ^ a ≤ 2 ^ b := Nat.pow_le_pow_right (by decide) h
theorem nat_add {a b : Int} {k : Nat} (ha : a.natAbs < 2 ^ k) (hb : b.natAbs < 2 ^ k) : (a + b).natAbs < 2 ^ (k + 1) := by
  rw [Nat.pow_succ]; omega
theorem nat_sub {a b : Int} {k : Nat} (ha : a.natAbs < 2 ^ k) (hb : b.natAbs < 2 ^ k) : (a - b).natAbs < 2 ^ (k + 1) := by
  rw [Nat.pow_succ]; omega
theorem Sm.fit {a b : Int} (ha : Sm a) (hb : Sm b) : mulFits a b = true := mulFits_of (Nat.lt_of_lt_of_le ha (pw (by decide))) (Nat.lt_of_lt_of_le hb (pw (by decide)))
theorem Sm.mul {a b : Int} (ha : Sm a) (hb : Sm b) : (a * b).natAbs < 2 ^ 1800 := wide_lt ha hb
theorem lt4 {x : Int} {k : Nat} (h : x.natAbs < 2 ^ k) (hk : k ≤ 4000) : x.natAbs < 2 ^ 4000 := Nat.lt_of_lt_of_le h (pw hk)
theorem mul_ne {a b : Int} (ha : a ≠ 0) (hb : b ≠ 0) : a * b ≠ 0 := Int.mul_ne_zero ha hb
theorem mk_one (a : Int) : mk a 1 = (a, 1) := by
  have g : gcdI a 1 = 1 := by unfold gcdI; rw [show (1 : Int).natAbs = 1 from rfl, Nat.gcd_one_right]; rfl
  have s : sg a 1 = 1 := by unfold sg; rw [g]; rfl
  unfold mk
  rw [s, divV_pos (by decide), divV_pos (by decide), Int.ediv_one, Int.ediv_one]
theorem e_plus {a b c d : Int} (hb : b ≠ 0) (hd : d ≠ 0) (s1 : Sm a) (s2 : Sm b) (s3 : Sm c) (s4 : Sm d) : mr_plus [.sh (.tuple [.int a, .int b]), .sh (.tuple [.int c, .int d])] = some (.sh (frD (mk (a * d + c * b) (b * d)))) := by
  refine eq_of_sat ?_
  unfold mr_plus ev_plus
  walk_at "dx"
  refine Sat.split (fun h => ?_) fun h => ?_
  · simp only [Bool.and_eq_true, decide_eq_true_eq] at h
    obtain ⟨rfl, rfl⟩ := h
    walk_at "dx"
    rw [show a * 1 + c * 1 = a + c by omega, mk_one]; rfl
  · walk_at "dx"
    rw [e_fraction (mul_ne hb hd) (lt4 (s2.mul s4) (by decide))]
    walk_at "dx"
    exact ⟨s1.fit s4, s3.fit s2, s2.fit s4⟩
theorem e_opposite {a b : Int} : mr_opposite [.sh (.tuple [.int a, .int b])] = some (.sh (frD (-a, b))) := by
  refine eq_of_sat ?_
  unfold mr_opposite ev_opposite
  walk_at "dx"
  rfl
theorem e_minus {a b c d : Int} (hb : b ≠ 0) (hd : d ≠ 0) (s1 : Sm a) (s2 : Sm b) (s3 : Sm c) (s4 : Sm d) : mr_minus [.sh (.tuple [.int a, .int b]), .sh (.tuple [.int c, .int d])] = some (.sh (frD (mk (a * d - c * b) (b * d)))) := by
  refine eq_of_sat ?_
  unfold mr_minus ev_minus
  walk_at "dx"
  rw [e_opposite]
  unfold frD
  walk_at "dx"
  rw [e_plus hb hd s1 s2 (by unfold Sm; rw [Int.natAbs_neg]; exact s3) s4]
  unfold frD
  walk_at "dx"
  rw [Int.neg_mul, ← Int.sub_eq_add_neg]
theorem e_over {a b c d : Int} (hb : b ≠ 0) (hc : c ≠ 0) (s1 : Sm a) (s2 : Sm b) (s3 : Sm c) (s4 : Sm d) : mr_over [.sh (.tuple [.int a, .int b]), .sh (.tuple [.int c, .int d])] = some (.sh (frD (mk (a * d) (b * c)))) := by
  refine eq_of_sat ?_
  unfold mr_over ev_over
  walk_at "dx"
  rw [e_fraction (mul_ne hb hc) (lt4 (s2.mul s3) (by decide))]
  walk_at "dx"
  exact ⟨s1.fit s4, s2.fit s3⟩
theorem e_whole {a : Int} : mr_whole [.sh (.int a)] = some (.sh (frD (a, 1))) := by
  refine eq_of_sat ?_
  unfold mr_whole ev_whole
  walk_at "dx"
  rfl
def sgn (a : Int) : Int := cond (decide (a = 0)) 0 (cond (decide (0 < a)) 1 (-1))
theorem e_sign {a b : Int} : mr_sign_of [.sh (.tuple [.int a, .int b])] = some (.sh (.int (sgn a))) := by
  refine eq_of_sat ?_
  unfold mr_sign_of ev_sign_of
  walk_at "dx"
  refine Sat.split (fun h => ?_) fun h => ?_
  · unfold sgn; walk_at "dxs"
  · unfold sgn; walk_at "dxs"
theorem e_compare {a b c d : Int} (s1 : Sm a) (s2 : Sm b) (s3 : Sm c) (s4 : Sm d) : mr_compare [.sh (.tuple [.int a, .int b]), .sh (.tuple [.int c, .int d])] = some (.sh (.int (sgn (a * d - c * b)))) := by
  refine eq_of_sat ?_
  unfold mr_compare ev_compare
  walk_at "dx"
  refine ⟨s1.fit s4, s3.fit s2, ?_⟩
  refine Sat.splitD (fun h => ?_) fun h => ?_
  · unfold sgn
    rw [show decide (a * d - c * b = 0) = true from decide_eq_true (by omega)]
    walk_at "dx"
  · unfold sgn
    rw [show decide (a * d - c * b = 0) = false from decide_eq_false (by omega), show decide (0 < a * d - c * b) = decide (c * b < a * d) from decide_eq_decide.mpr ⟨fun h => by omega, fun h => by omega⟩]
    walk_at "dx"
theorem e_less {a b c d : Int} (s1 : Sm a) (s2 : Sm b) (s3 : Sm c) (s4 : Sm d) : mr__law_less [.sh (.tuple [.int a, .int b]), .sh (.tuple [.int c, .int d])] = some (.sh (.int (sgn (a * d - c * b)))) := by
  refine eq_of_sat ?_
  unfold mr__law_less ev__law_less
  walk_at "dx"
  refine ⟨s1.fit s4, s3.fit s2, ?_⟩
  have e : (bif decide (a * d = c * b) then (0 : Int) else bif decide (c * b < a * d) then 1 else -1) = sgn (a * d - c * b) := by
    unfold sgn
    rw [show decide (a * d - c * b = 0) = decide (a * d = c * b) from decide_eq_decide.mpr ⟨fun h => by omega, fun h => by omega⟩, show decide (0 < a * d - c * b) = decide (c * b < a * d) from decide_eq_decide.mpr ⟨fun h => by omega, fun h => by omega⟩]
  rw [e]
theorem Sm.div {a b : Int} (h : b ≠ 0) (hb : Sm b) : divFits a b = true := divFits_of h (Nat.lt_of_lt_of_le hb (pw (by decide)))
theorem e_floor {a b : Int} (h : b ≠ 0) (hb : Sm b) : mr_floor_of [.sh (.tuple [.int a, .int b])] = some (.sh (.int (divV a b))) := by
  refine eq_of_sat ?_
  unfold mr_floor_of ev_floor_of
  walk_at "dx"
  exact hb.div h
theorem e_ceil {a b : Int} (h : b ≠ 0) (hb : Sm b) : mr_ceiling_of [.sh (.tuple [.int a, .int b])] = some (.sh (.int (-divV (-a) b))) := by
  refine eq_of_sat ?_
  unfold mr_ceiling_of ev_ceiling_of
  walk_at "dx"
  exact hb.div h
end K11
set_option exponentiation.threshold 5000
namespace K11
open PySem PySem.Spec PyProof.Rows L2 DX
-- DXSIMP begin
local macro_rules | `(tactic| walk_at "dx") => `(tactic| simp only [b_escs, b_rdTms, b_hardTms, b_softTms, b_esCons, b_opV, b_opL, b_opT, b_eOp, b_rdNil, b_rdCons, b_rdT, b_rdA, b_erS, b_erL, b_eVar, b_eC, b_esNil, b_tTru, b_tBl, b_tAnd, b_tOr, b_tNot, b_eAnd, b_eOr, b_eNot, b_eIf, b_eTup, b_eLst, b_eTupO, b_iR2, k_ints2, b_sExpr, b_eLstO, b_xRaiseF, b_iRev, k_sqdL, k_sqdT, o_listL, o_listT, b_eOpL, k_scOS, b_mvNil, b_mvCons, b_sAppTp, b_erTp, g_hardTp, g_softTp, g_giveTp, k_tpl, k_shTp, b_oSome, b_oNone, b_eSl, b_eMt, b_fn0, b_fnP, b_sRet, b_sAsg, b_gvName, b_gvNil, b_gvCons, b_gvTup, b_gvSub, b_sAsgG, b_sApp, b_sPar, b_sPar3, b_sAppIx, b_sAugI, b_cvsNil, b_cvsCons, b_bindCond, b_condFst, b_condSnd, b_giveT, b_sFor, b_iSq, b_iR1, b_iEnA, wipeE, cYes, at_zero, k_bool, k_int, k_str, k_tup, k_lst, k_list, k_itL, k_itT, k_itSS, k_trN, k_trB, k_trI, k_trSS, k_trL, k_trT, k_scN, k_scB, k_scI, k_scS, k_scL, k_scT, k_shS, k_shL, k_softT, k_hardT, k_cvT, k_softNil, k_softCons, k_hardNil, k_hardCons, g_hard, g_soft, g_cv, g_give, g_hardS, g_hardL, g_softS, g_softL, g_cvS, g_giveS, g_giveL, g_allSh, g_erSh, List.all_cons, List.all_nil, k_retR, k_retN, k_alA, k_hd, k_two, k_three, k_sh, k_odT, k_enS, k_enL, o_addI, o_addS, o_addL, o_sub, o_neg, o_ltI, o_leI, o_gtI, o_geI, o_lenS, o_lenL, o_lenT, o_abs, o_max, o_int, o_ixL, o_ixT, o_ixSS, o_slS, o_slL, o_in1S, o_ni1S, o_eqS, o_neS, o_eqI, o_neI, o_mul, o_div, o_mod, o_pow, o_divmod, z_ble0, z_ble1, z_ble2, z_ble3, z_ble4, z_ble5, z_ble6, z_ble7, z_ble8, z_ble9, z_ble10, z_ble13, z_ble17, S_l, S_len, S_app, es1, es2, startE, sNext, pk, DX.inR, Nat.beq, Nat.ble, List.any_cons, List.any_nil, List.filterMap_cons, List.filterMap_nil, Option.bind_some, Option.bind_none, cond_true, cond_false, decide_true, decide_false, List.map_cons, List.map_nil, List.length_cons, List.length_nil, List.length_map, List.length_set, List.getElem?_cons_zero, List.getElem?_cons_succ, List.cons_append, List.nil_append, List.set_cons_zero, List.set_cons_succ, List.replicate, Nat.reduceAdd, Nat.reduceSub, Nat.zero_add, Int.toNat_natCast, Bool.not_true, Bool.not_false, Bool.or_self, Bool.or_false, Bool.false_or, Bool.and_self, Bool.and_true, Bool.true_and, Bool.and_false, Bool.false_and, Bool.true_or, Bool.or_true, z_some, z_none, z_bind, z_then, z_map, z_mapK, b_eLc, lcStep, forStep, at_0, at_1, at_2, at_3, at_4, at_5, at_m1, ix_0, ix_1, ix_m1, blt_00, blt_0s, blt_12, blt_02, z_ifK, z_guard, z_guardN, z_seqN, z_seqR, z_seqB, z_seqC, z_sSeq, z_sIf, z_forN, z_forC, z_forB, z_forR, r_P1, r_P2, k_condSomeP, k_condNx, k_condEn, k_condSl, k_condPair, k_condTm, k_condSh, k_condI, k_condB, k_condAnd, k_condOr, k_condNot, o_gcd, k_condAndL, k_condOrL, b_jNil, b_jCons, b_eJoin, t_str, str_len, str_empty, Int.cast_ofNat_Int, Int.reduceEq, Int.reduceLT, Int.reduceLE, Int.reduceNeg, Int.reduceAdd, Int.reduceSub, Int.reduceMul, Int.reduceToNat, Int.reducePow, Nat.reduceLT, Nat.reduceLeDiff, Nat.reduceEqDiff, Nat.reduceMul, k_condSelf, x_no, x_raise, x_seqNo, b_xIf, x_inr, x_inl, b_xFn, o_neSelf, o_eqSelf, i_boolN, i_boolB, i_boolI, i_boolS, i_boolL, i_boolT, i_intN, i_intB, i_intI, i_intS, i_intL, i_intT, i_strN, i_strB, i_strI, i_strS, i_strL, i_strT, i_listN, i_listB, i_listI, i_listS, i_listL, i_listT, i_tupleN, i_tupleB, i_tupleI, i_tupleS, i_tupleL, i_tupleT, at_nat, decide_eq_true_eq, decide_eq_false_iff_not, Nat.ble_eq, and_true, true_and, Option.map_some, Option.isSome_some])
local macro_rules | `(tactic| walk_at "dxs") => `(tactic| simp only [b_escs, b_rdTms, b_hardTms, b_softTms, b_esCons, b_opV, b_opL, b_opT, b_eOp, b_rdNil, b_rdCons, b_rdT, b_rdA, b_erS, b_erL, b_eVar, b_eC, b_esNil, b_tTru, b_tBl, b_tAnd, b_tOr, b_tNot, b_eAnd, b_eOr, b_eNot, b_eIf, b_eTup, b_eLst, b_eTupO, b_iR2, k_ints2, b_sExpr, b_eLstO, b_xRaiseF, b_iRev, k_sqdL, k_sqdT, o_listL, o_listT, b_eOpL, k_scOS, b_mvNil, b_mvCons, b_sAppTp, b_erTp, g_hardTp, g_softTp, g_giveTp, k_tpl, k_shTp, b_oSome, b_oNone, b_eSl, b_eMt, b_fn0, b_fnP, b_sRet, b_sAsg, b_gvName, b_gvNil, b_gvCons, b_gvTup, b_gvSub, b_sAsgG, b_sApp, b_sPar, b_sPar3, b_sAppIx, b_sAugI, b_cvsNil, b_cvsCons, b_bindCond, b_condFst, b_condSnd, b_giveT, b_sFor, b_iSq, b_iR1, b_iEnA, wipeE, cYes, at_zero, k_bool, k_int, k_str, k_tup, k_lst, k_list, k_itL, k_itT, k_itSS, k_trN, k_trB, k_trI, k_trSS, k_trL, k_trT, k_scN, k_scB, k_scI, k_scS, k_scL, k_scT, k_shS, k_shL, k_softT, k_hardT, k_cvT, k_softNil, k_softCons, k_hardNil, k_hardCons, g_hard, g_soft, g_cv, g_give, g_hardS, g_hardL, g_softS, g_softL, g_cvS, g_giveS, g_giveL, g_allSh, g_erSh, List.all_cons, List.all_nil, k_retR, k_retN, k_alA, k_hd, k_two, k_three, k_sh, k_odT, k_enS, k_enL, o_addI, o_addS, o_addL, o_sub, o_neg, o_ltI, o_leI, o_gtI, o_geI, o_lenS, o_lenL, o_lenT, o_abs, o_max, o_int, o_ixL, o_ixT, o_ixSS, o_slS, o_slL, o_in1S, o_ni1S, o_eqS, o_neS, o_eqI, o_neI, o_mul, o_div, o_mod, o_pow, o_divmod, z_ble0, z_ble1, z_ble2, z_ble3, z_ble4, z_ble5, z_ble6, z_ble7, z_ble8, z_ble9, z_ble10, z_ble13, z_ble17, S_l, S_len, S_app, es1, es2, startE, sNext, pk, DX.inR, Nat.beq, Nat.ble, List.any_cons, List.any_nil, List.filterMap_cons, List.filterMap_nil, Option.bind_some, Option.bind_none, cond_true, cond_false, decide_true, decide_false, List.map_cons, List.map_nil, List.length_cons, List.length_nil, List.length_map, List.length_set, List.getElem?_cons_zero, List.getElem?_cons_succ, List.cons_append, List.nil_append, List.set_cons_zero, List.set_cons_succ, List.replicate, Nat.reduceAdd, Nat.reduceSub, Nat.zero_add, Int.toNat_natCast, Bool.not_true, Bool.not_false, Bool.or_self, Bool.or_false, Bool.false_or, Bool.and_self, Bool.and_true, Bool.true_and, Bool.and_false, Bool.false_and, Bool.true_or, Bool.or_true, z_some, z_none, z_bind, z_then, z_map, z_mapK, b_eLc, lcStep, forStep, at_0, at_1, at_2, at_3, at_4, at_5, at_m1, ix_0, ix_1, ix_m1, blt_00, blt_0s, blt_12, blt_02, z_ifK, z_guard, z_guardN, z_seqN, z_seqR, z_seqB, z_seqC, z_sSeq, z_sIf, z_forN, z_forC, z_forB, z_forR, r_P1, r_P2, k_condSomeP, k_condNx, k_condEn, k_condSl, k_condPair, k_condTm, k_condSh, k_condI, k_condB, k_condAnd, k_condOr, k_condNot, o_gcd, k_condAndL, k_condOrL, b_jNil, b_jCons, b_eJoin, t_str, str_len, str_empty, Int.cast_ofNat_Int, Int.reduceEq, Int.reduceLT, Int.reduceLE, Int.reduceNeg, Int.reduceAdd, Int.reduceSub, Int.reduceMul, Int.reduceToNat, Int.reducePow, Nat.reduceLT, Nat.reduceLeDiff, Nat.reduceEqDiff, Nat.reduceMul, k_condSelf, x_no, x_raise, x_seqNo, b_xIf, x_inr, x_inl, b_xFn, o_neSelf, o_eqSelf, i_boolN, i_boolB, i_boolI, i_boolS, i_boolL, i_boolT, i_intN, i_intB, i_intI, i_intS, i_intL, i_intT, i_strN, i_strB, i_strI, i_strS, i_strL, i_strT, i_listN, i_listB, i_listI, i_listS, i_listL, i_listT, i_tupleN, i_tupleB, i_tupleI, i_tupleS, i_tupleL, i_tupleT, at_nat, decide_eq_true_eq, decide_eq_false_iff_not, Nat.ble_eq, and_true, true_and, Option.map_some, Option.isSome_some, *])
-- DXSIMP end
/-! ### lists of fractions -/
abbrev Fr := Int × Int
theorem fr_d (a : Fr) : PyData.tuple [.int a.1, .int a.2] = frD a := rfl
/-- within m bits, below above nought, in least terms -/
def Ok (m : Nat) (a : Fr) : Prop := a.1.natAbs < 2 ^ m ∧ a.2.natAbs < 2 ^ m ∧ 0 < a.2 ∧ gcdI a.1 a.2 = 1
theorem Ok.mono {m n : Nat} {a : Fr} (h : Ok m a) (l : m ≤ n) : Ok n a := ⟨Nat.lt_of_lt_of_le h.1 (pw l), Nat.lt_of_lt_of_le h.2.1 (pw l), h.2.2⟩
theorem divV_dvd {a s : Int} (hs : s ≠ 0) (h : s ∣ a) : divV a s * s = a := by
  unfold divV
  split
  · exact Int.ediv_mul_cancel h
  · exact Int.fdiv_mul_cancel h
theorem sg_dvd (a b : Int) : sg a b ∣ a ∧ sg a b ∣ b := by
  have h1 : gcdI a b ∣ a := by unfold gcdI; exact Int.ofNat_dvd_left.mpr (Nat.gcd_dvd_left _ _)
  have h2 : gcdI a b ∣ b := by unfold gcdI; exact Int.ofNat_dvd_left.mpr (Nat.gcd_dvd_right _ _)
  unfold sg
  cases decide (b < 0)
  · exact ⟨h1, h2⟩
  · exact ⟨Int.neg_dvd.mpr h1, Int.neg_dvd.mpr h2⟩
theorem mk_mul {a b : Int} (h : b ≠ 0) : (mk a b).1 * sg a b = a ∧ (mk a b).2 * sg a b = b := ⟨divV_dvd (sg_ne h) (sg_dvd a b).1, divV_dvd (sg_ne h) (sg_dvd a b).2⟩
theorem sg_sign {a b : Int} (h : b ≠ 0) : (0 < sg a b ↔ 0 < b) := by
  have := gcdI_pos (a := a) h
  unfold sg
  by_cases q : b < 0
  · rw [decide_eq_true q]; simp only [cond_true]; omega
  · rw [decide_eq_false q]; simp only [cond_false]; omega
theorem natAbs_le_mul {x s y : Int} (hs : s ≠ 0) (h : x * s = y) : x.natAbs ≤ y.natAbs := by
  rw [← h, Int.natAbs_mul]
  exact Nat.le_mul_of_pos_right _ (by omega)
theorem mk_ok {a b : Int} {m : Nat} (h : b ≠ 0) (ha : a.natAbs < 2 ^ m) (hb : b.natAbs < 2 ^ m) : Ok m (mk a b) := by
  obtain ⟨e1, e2⟩ := mk_mul (a := a) h
  have hs := sg_ne (a := a) h
  refine ⟨Nat.lt_of_le_of_lt (natAbs_le_mul hs e1) ha, Nat.lt_of_le_of_lt (natAbs_le_mul hs e2) hb, ?_, ?_⟩
  · have q := sg_sign (a := a) h
    rcases Int.lt_or_gt_of_ne h with hb | hb
    · have : sg a b < 0 := by omega
      rcases Int.lt_or_le 0 (mk a b).2 with z | z
      · exact z
      · have := Int.mul_nonneg_of_nonpos_of_nonpos z (Int.le_of_lt this)
        omega
    · have : 0 < sg a b := q.mpr hb
      rcases Int.lt_or_le 0 (mk a b).2 with z | z
      · exact z
      · have := Int.mul_nonpos_of_nonpos_of_nonneg z (Int.le_of_lt this)
        omega
  · have g : (sg a b).natAbs = Nat.gcd a.natAbs b.natAbs := by
      unfold sg gcdI
      cases decide (b < 0) <;> simp only [cond_true, cond_false] <;> omega
    have h1 : a.natAbs = (mk a b).1.natAbs * (sg a b).natAbs := by rw [← Int.natAbs_mul, e1]
    have h2 : b.natAbs = (mk a b).2.natAbs * (sg a b).natAbs := by rw [← Int.natAbs_mul, e2]
    have h3 : Nat.gcd a.natAbs b.natAbs = Nat.gcd (mk a b).1.natAbs (mk a b).2.natAbs * (sg a b).natAbs := by
      conv => lhs; rw [h1, h2, Nat.gcd_mul_right]
    rw [← g] at h3
    have h4 : 0 < (sg a b).natAbs := by omega
    have h5 : Nat.gcd (mk a b).1.natAbs (mk a b).2.natAbs = 1 := by
      have : 1 * (sg a b).natAbs = Nat.gcd (mk a b).1.natAbs (mk a b).2.natAbs * (sg a b).natAbs := by rw [Nat.one_mul]; exact h3
      exact (Nat.eq_of_mul_eq_mul_right h4 this).symm
    unfold gcdI
    rw [h5]; rfl
theorem Ok.sm {m : Nat} {a : Fr} (h : Ok m a) (l : m ≤ 900) : Sm a.1 ∧ Sm a.2 := ⟨Nat.lt_of_lt_of_le h.1 (pw l), Nat.lt_of_lt_of_le h.2.1 (pw l)⟩
theorem div_le {a b : Int} {k : Nat} (hb : 0 < b) (ha : a.natAbs < 2 ^ k) : (divV a b).natAbs < 2 ^ (k + 1) := by
  rw [divV_pos hb, Nat.pow_succ]
  have h1 := Int.ediv_mul_le a (show b ≠ 0 by omega)
  have h2 := Int.lt_ediv_add_one_mul_self a hb
  rcases Int.lt_or_le a 0 with q | q
  · have : a ≤ a / b := by
      rcases Int.lt_or_le (a / b) a with z | z
      · exfalso
        have h3 : (a / b + 1) * b ≤ a * b := Int.mul_le_mul_of_nonneg_right (by omega) (by omega)
        have h4 : a * b ≤ a * 1 := Int.mul_le_mul_of_nonpos_left (by omega) (by omega)
        omega
      · exact z
    have : a / b < 0 := Int.ediv_neg_of_neg_of_pos q hb
    omega
  · have h3 := Int.ediv_le_self b q
    have h4 := Int.ediv_nonneg q (show 0 ≤ b by omega)
    omega
/-! ### Euclid's steps -/
def eucN : Nat → Int → Int → List Int
  | 0, _, _ => []
  | n + 1, a, b => if 0 < b then divV a b :: eucN n b (a - divV a b * b) else []
def euc (a b : Int) : List Int := eucN b.toNat a b
theorem rem_lt {a b : Int} (h : 0 < b) : 0 ≤ a - divV a b * b ∧ a - divV a b * b < b := by
  rw [divV_pos h]
  have h1 := Int.emod_nonneg a (show b ≠ 0 by omega)
  have h2 := Int.emod_lt_of_pos a h
  have h3 := Int.mul_ediv_add_emod a b
  rw [Int.mul_comm] at h3
  omega
theorem eucN_st : ∀ (n : Nat) (a b : Int), b.toNat ≤ n → eucN n a b = euc a b
  | 0, a, b, h => by
    unfold euc
    rw [show b.toNat = 0 by omega]
  | n + 1, a, b, h => by
    by_cases hb : 0 < b
    · obtain ⟨m, hm⟩ : ∃ m, b.toNat = m + 1 := ⟨b.toNat - 1, by omega⟩
      have r := rem_lt (a := a) hb
      unfold euc
      rw [hm, eucN, eucN, if_pos hb, if_pos hb, eucN_st n b _ (by omega), eucN_st m b _ (by omega)]
    · unfold euc
      rw [show b.toNat = 0 by omega, eucN, eucN, if_neg hb]
theorem euc_pos {a b : Int} (h : 0 < b) : euc a b = divV a b :: euc b (a - divV a b * b) := by
  obtain ⟨m, hm⟩ : ∃ m, b.toNat = m + 1 := ⟨b.toNat - 1, by omega⟩
  have r := rem_lt (a := a) h
  rw [show euc a b = eucN b.toNat a b from rfl, hm, eucN, if_pos h, eucN_st m b _ (by omega)]
theorem euc_nil {a b : Int} (h : ¬0 < b) : euc a b = [] := by
  unfold euc
  rw [show b.toNat = 0 by omega, eucN]
def eucO (a b : Int) : OD := .lst ((euc a b).map fun q => .sh (.int q))
theorem e_parts {a b : Int} (sa : Sm a) (sb : Sm b) (hl : (euc a b).length ≤ 1000) : mr_parts_of [.sh (.tuple [.int a, .int b])] = some (eucO a b) := by
  refine eq_of_sat ?_
  unfold mr_parts_of ev_parts_of
  walk_at "dx"
  refine Sat.while (fun n os => ∃ (x y : Int) (l : List Int) (o : Option OD), Sm x ∧ Sm y ∧ n = y.toNat ∧ l ++ euc x y = euc a b ∧ os = [some (.sh (.tuple [.int a, .int b])), some (.lst (l.map fun q => .sh (.int q))), some (.sh (.int x)), some (.sh (.int y)), o]) b.toNat (fuel_of (by have := lt4 sb (k := 900) (by decide); omega)) ⟨a, b, [], none, sa, sb, rfl, rfl, rfl⟩ (fun n os ⟨x, y, l, o, hx, hy, hn, hl2, e⟩ => ?_)
  subst e
  walk_at "dx"
  refine ⟨fun h => ?_, fun h => ?_⟩
  · rw [euc_nil h, List.append_nil] at hl2
    rw [hl2]; rfl
  · rw [euc_pos h] at hl2
    have hlen : l.length < 1000 := by
      have := congrArg List.length hl2
      rw [List.length_append, List.length_cons] at this
      omega
    have rr := rem_lt (a := x) h
    have dl : (divV x y).natAbs < 2 ^ 901 := div_le h hx
    refine ⟨hy.div (by omega), Nat.ble_eq_true_of_le (Nat.succ_le_of_lt (Nat.lt_of_lt_of_le hlen (by decide))), mulFits_of (lt4 dl (by decide)) (lt4 hy (by decide)), _, by rw [hn]; omega, y, x - divV x y * y, l ++ [divV x y], _, hy, ?_, rfl, by rw [List.append_assoc]; exact hl2, by rw [List.map_append]; rfl⟩
    show (x - divV x y * y).natAbs < 2 ^ 900
    have : y.natAbs < 2 ^ 900 := hy
    omega
theorem e_lparts {a b : Int} (sa : Sm a) (sb : Sm b) (hl : (euc a b).length ≤ 1000) : mr__law_parts [.sh (.tuple [.int a, .int b])] = some (eucO a b) := by
  refine eq_of_sat ?_
  unfold mr__law_parts ev__law_parts
  walk_at "dx"
  refine Sat.while (fun n os => ∃ (x y : Int) (l : List Int) (o : Option OD), Sm x ∧ Sm y ∧ n = y.toNat ∧ l ++ euc x y = euc a b ∧ os = [some (.sh (.tuple [.int a, .int b])), some (.lst (l.map fun q => .sh (.int q))), some (.sh (.int x)), some (.sh (.int y)), o]) b.toNat (fuel_of (by have := lt4 sb (k := 900) (by decide); omega)) ⟨a, b, [], none, sa, sb, rfl, rfl, rfl⟩ (fun n os ⟨x, y, l, o, hx, hy, hn, hl2, e⟩ => ?_)
  subst e
  walk_at "dx"
  refine ⟨fun h => ?_, fun h => ?_⟩
  · rw [euc_nil h, List.append_nil] at hl2
    rw [hl2]; rfl
  · rw [euc_pos h] at hl2
    have hlen : l.length < 1000 := by
      have := congrArg List.length hl2
      rw [List.length_append, List.length_cons] at this
      omega
    have rr := rem_lt (a := x) h
    have dl : (divV x y).natAbs < 2 ^ 901 := div_le h hx
    refine ⟨hy.div (by omega), Nat.ble_eq_true_of_le (Nat.succ_le_of_lt (Nat.lt_of_lt_of_le hlen (by decide))), mulFits_of (lt4 dl (by decide)) (lt4 hy (by decide)), _, by rw [hn]; omega, y, x - divV x y * y, l ++ [divV x y], _, hy, ?_, rfl, by rw [List.append_assoc]; exact hl2, by rw [List.map_append]; rfl⟩
    show (x - divV x y * y).natAbs < 2 ^ 900
    have : y.natAbs < 2 ^ 900 := hy
    omega
end K11
set_option exponentiation.threshold 5000
namespace K11
open PySem PySem.Spec PyProof.Rows L2 DX
-- DXSIMP begin
local macro_rules | `(tactic| walk_at "dx") => `(tactic| simp only [b_escs, b_rdTms, b_hardTms, b_softTms, b_esCons, b_opV, b_opL, b_opT, b_eOp, b_rdNil, b_rdCons, b_rdT, b_rdA, b_erS, b_erL, b_eVar, b_eC, b_esNil, b_tTru, b_tBl, b_tAnd, b_tOr, b_tNot, b_eAnd, b_eOr, b_eNot, b_eIf, b_eTup, b_eLst, b_eTupO, b_iR2, k_ints2, b_sExpr, b_eLstO, b_xRaiseF, b_iRev, k_sqdL, k_sqdT, o_listL, o_listT, b_eOpL, k_scOS, b_mvNil, b_mvCons, b_sAppTp, b_erTp, g_hardTp, g_softTp, g_giveTp, k_tpl, k_shTp, b_oSome, b_oNone, b_eSl, b_eMt, b_fn0, b_fnP, b_sRet, b_sAsg, b_gvName, b_gvNil, b_gvCons, b_gvTup, b_gvSub, b_sAsgG, b_sApp, b_sPar, b_sPar3, b_sAppIx, b_sAugI, b_cvsNil, b_cvsCons, b_bindCond, b_condFst, b_condSnd, b_giveT, b_sFor, b_iSq, b_iR1, b_iEnA, wipeE, cYes, at_zero, k_bool, k_int, k_str, k_tup, k_lst, k_list, k_itL, k_itT, k_itSS, k_trN, k_trB, k_trI, k_trSS, k_trL, k_trT, k_scN, k_scB, k_scI, k_scS, k_scL, k_scT, k_shS, k_shL, k_softT, k_hardT, k_cvT, k_softNil, k_softCons, k_hardNil, k_hardCons, g_hard, g_soft, g_cv, g_give, g_hardS, g_hardL, g_softS, g_softL, g_cvS, g_giveS, g_giveL, g_allSh, g_erSh, List.all_cons, List.all_nil, k_retR, k_retN, k_alA, k_hd, k_two, k_three, k_sh, k_odT, k_enS, k_enL, o_addI, o_addS, o_addL, o_sub, o_neg, o_ltI, o_leI, o_gtI, o_geI, o_lenS, o_lenL, o_lenT, o_abs, o_max, o_int, o_ixL, o_ixT, o_ixSS, o_slS, o_slL, o_in1S, o_ni1S, o_eqS, o_neS, o_eqI, o_neI, o_mul, o_div, o_mod, o_pow, o_divmod, z_ble0, z_ble1, z_ble2, z_ble3, z_ble4, z_ble5, z_ble6, z_ble7, z_ble8, z_ble9, z_ble10, z_ble13, z_ble17, S_l, S_len, S_app, es1, es2, startE, sNext, pk, DX.inR, Nat.beq, Nat.ble, List.any_cons, List.any_nil, List.filterMap_cons, List.filterMap_nil, Option.bind_some, Option.bind_none, cond_true, cond_false, decide_true, decide_false, List.map_cons, List.map_nil, List.length_cons, List.length_nil, List.length_map, List.length_set, List.getElem?_cons_zero, List.getElem?_cons_succ, List.cons_append, List.nil_append, List.set_cons_zero, List.set_cons_succ, List.replicate, Nat.reduceAdd, Nat.reduceSub, Nat.zero_add, Int.toNat_natCast, Bool.not_true, Bool.not_false, Bool.or_self, Bool.or_false, Bool.false_or, Bool.and_self, Bool.and_true, Bool.true_and, Bool.and_false, Bool.false_and, Bool.true_or, Bool.or_true, z_some, z_none, z_bind, z_then, z_map, z_mapK, b_eLc, lcStep, forStep, at_0, at_1, at_2, at_3, at_4, at_5, at_m1, ix_0, ix_1, ix_m1, blt_00, blt_0s, blt_12, blt_02, z_ifK, z_guard, z_guardN, z_seqN, z_seqR, z_seqB, z_seqC, z_sSeq, z_sIf, z_forN, z_forC, z_forB, z_forR, r_P1, r_P2, k_condSomeP, k_condNx, k_condEn, k_condSl, k_condPair, k_condTm, k_condSh, k_condI, k_condB, k_condAnd, k_condOr, k_condNot, o_gcd, k_condAndL, k_condOrL, b_jNil, b_jCons, b_eJoin, t_str, str_len, str_empty, Int.cast_ofNat_Int, Int.reduceEq, Int.reduceLT, Int.reduceLE, Int.reduceNeg, Int.reduceAdd, Int.reduceSub, Int.reduceMul, Int.reduceToNat, Int.reducePow, Nat.reduceLT, Nat.reduceLeDiff, Nat.reduceEqDiff, Nat.reduceMul, k_condSelf, x_no, x_raise, x_seqNo, b_xIf, x_inr, x_inl, b_xFn, o_neSelf, o_eqSelf, i_boolN, i_boolB, i_boolI, i_boolS, i_boolL, i_boolT, i_intN, i_intB, i_intI, i_intS, i_intL, i_intT, i_strN, i_strB, i_strI, i_strS, i_strL, i_strT, i_listN, i_listB, i_listI, i_listS, i_listL, i_listT, i_tupleN, i_tupleB, i_tupleI, i_tupleS, i_tupleL, i_tupleT, at_nat, decide_eq_true_eq, decide_eq_false_iff_not, Nat.ble_eq, and_true, true_and, Option.map_some, Option.isSome_some])
local macro_rules | `(tactic| walk_at "dxs") => `(tactic| simp only [b_escs, b_rdTms, b_hardTms, b_softTms, b_esCons, b_opV, b_opL, b_opT, b_eOp, b_rdNil, b_rdCons, b_rdT, b_rdA, b_erS, b_erL, b_eVar, b_eC, b_esNil, b_tTru, b_tBl, b_tAnd, b_tOr, b_tNot, b_eAnd, b_eOr, b_eNot, b_eIf, b_eTup, b_eLst, b_eTupO, b_iR2, k_ints2, b_sExpr, b_eLstO, b_xRaiseF, b_iRev, k_sqdL, k_sqdT, o_listL, o_listT, b_eOpL, k_scOS, b_mvNil, b_mvCons, b_sAppTp, b_erTp, g_hardTp, g_softTp, g_giveTp, k_tpl, k_shTp, b_oSome, b_oNone, b_eSl, b_eMt, b_fn0, b_fnP, b_sRet, b_sAsg, b_gvName, b_gvNil, b_gvCons, b_gvTup, b_gvSub, b_sAsgG, b_sApp, b_sPar, b_sPar3, b_sAppIx, b_sAugI, b_cvsNil, b_cvsCons, b_bindCond, b_condFst, b_condSnd, b_giveT, b_sFor, b_iSq, b_iR1, b_iEnA, wipeE, cYes, at_zero, k_bool, k_int, k_str, k_tup, k_lst, k_list, k_itL, k_itT, k_itSS, k_trN, k_trB, k_trI, k_trSS, k_trL, k_trT, k_scN, k_scB, k_scI, k_scS, k_scL, k_scT, k_shS, k_shL, k_softT, k_hardT, k_cvT, k_softNil, k_softCons, k_hardNil, k_hardCons, g_hard, g_soft, g_cv, g_give, g_hardS, g_hardL, g_softS, g_softL, g_cvS, g_giveS, g_giveL, g_allSh, g_erSh, List.all_cons, List.all_nil, k_retR, k_retN, k_alA, k_hd, k_two, k_three, k_sh, k_odT, k_enS, k_enL, o_addI, o_addS, o_addL, o_sub, o_neg, o_ltI, o_leI, o_gtI, o_geI, o_lenS, o_lenL, o_lenT, o_abs, o_max, o_int, o_ixL, o_ixT, o_ixSS, o_slS, o_slL, o_in1S, o_ni1S, o_eqS, o_neS, o_eqI, o_neI, o_mul, o_div, o_mod, o_pow, o_divmod, z_ble0, z_ble1, z_ble2, z_ble3, z_ble4, z_ble5, z_ble6, z_ble7, z_ble8, z_ble9, z_ble10, z_ble13, z_ble17, S_l, S_len, S_app, es1, es2, startE, sNext, pk, DX.inR, Nat.beq, Nat.ble, List.any_cons, List.any_nil, List.filterMap_cons, List.filterMap_nil, Option.bind_some, Option.bind_none, cond_true, cond_false, decide_true, decide_false, List.map_cons, List.map_nil, List.length_cons, List.length_nil, List.length_map, List.length_set, List.getElem?_cons_zero, List.getElem?_cons_succ, List.cons_append, List.nil_append, List.set_cons_zero, List.set_cons_succ, List.replicate, Nat.reduceAdd, Nat.reduceSub, Nat.zero_add, Int.toNat_natCast, Bool.not_true, Bool.not_false, Bool.or_self, Bool.or_false, Bool.false_or, Bool.and_self, Bool.and_true, Bool.true_and, Bool.and_false, Bool.false_and, Bool.true_or, Bool.or_true, z_some, z_none, z_bind, z_then, z_map, z_mapK, b_eLc, lcStep, forStep, at_0, at_1, at_2, at_3, at_4, at_5, at_m1, ix_0, ix_1, ix_m1, blt_00, blt_0s, blt_12, blt_02, z_ifK, z_guard, z_guardN, z_seqN, z_seqR, z_seqB, z_seqC, z_sSeq, z_sIf, z_forN, z_forC, z_forB, z_forR, r_P1, r_P2, k_condSomeP, k_condNx, k_condEn, k_condSl, k_condPair, k_condTm, k_condSh, k_condI, k_condB, k_condAnd, k_condOr, k_condNot, o_gcd, k_condAndL, k_condOrL, b_jNil, b_jCons, b_eJoin, t_str, str_len, str_empty, Int.cast_ofNat_Int, Int.reduceEq, Int.reduceLT, Int.reduceLE, Int.reduceNeg, Int.reduceAdd, Int.reduceSub, Int.reduceMul, Int.reduceToNat, Int.reducePow, Nat.reduceLT, Nat.reduceLeDiff, Nat.reduceEqDiff, Nat.reduceMul, k_condSelf, x_no, x_raise, x_seqNo, b_xIf, x_inr, x_inl, b_xFn, o_neSelf, o_eqSelf, i_boolN, i_boolB, i_boolI, i_boolS, i_boolL, i_boolT, i_intN, i_intB, i_intI, i_intS, i_intL, i_intT, i_strN, i_strB, i_strI, i_strS, i_strL, i_strT, i_listN, i_listB, i_listI, i_listS, i_listL, i_listT, i_tupleN, i_tupleB, i_tupleI, i_tupleS, i_tupleL, i_tupleT, at_nat, decide_eq_true_eq, decide_eq_false_iff_not, Nat.ble_eq, and_true, true_and, Option.map_some, Option.isSome_some, *])
-- DXSIMP end
theorem gcdI_eq (a b : Int) : gcdI a b = (Int.gcd a b : Int) := rfl
theorem gcdI_add (p x y : Int) : gcdI (p * x + y) x = gcdI y x := by
  rw [gcdI_eq, gcdI_eq, Int.gcd_mul_right_add_left]
theorem gcdI_comm (a b : Int) : gcdI a b = gcdI b a := by rw [gcdI_eq, gcdI_eq, Int.gcd_comm]
theorem mk_self {a b : Int} (hb : 0 < b) (h : gcdI a b = 1) : mk a b = (a, b) := by
  have s : sg a b = 1 := by unfold sg; rw [decide_eq_false (by omega), h]; rfl
  unfold mk
  rw [s, divV_pos (by decide), divV_pos (by decide), Int.ediv_one, Int.ediv_one]
/-! ### where parts stand -/
def st : List Int → Fr
  | [] => (1, 0)
  | p :: ps => (p * (st ps).1 + (st ps).2, (st ps).1)
theorem st_gcd : ∀ l : List Int, gcdI (st l).1 (st l).2 = 1
  | [] => rfl
  | p :: ps => by
    show gcdI (p * (st ps).1 + (st ps).2) (st ps).1 = 1
    rw [gcdI_add, gcdI_comm]; exact st_gcd ps
/-- parts behind the first -/
def Pos (l : List Int) : Prop := ∀ p ∈ l, 1 ≤ p
theorem st_pos : ∀ {l : List Int}, Pos l → 1 ≤ (st l).1 ∧ 0 ≤ (st l).2
  | [], _ => ⟨by decide, by decide⟩
  | p :: ps, h => by
    obtain ⟨h1, h2⟩ := st_pos (l := ps) fun q hq => h q (List.mem_cons_of_mem _ hq)
    have hp := h p List.mem_cons_self
    have := Int.mul_le_mul_of_nonneg_right hp (show 0 ≤ (st ps).1 by omega)
    show 1 ≤ p * (st ps).1 + (st ps).2 ∧ 0 ≤ (st ps).1
    omega
/-- small parts -/
def Sml (l : List Int) : Prop := ∀ p ∈ l, p.natAbs < 2 ^ 14
theorem st_sm : ∀ {l : List Int}, Sml l → (st l).1.natAbs < 2 ^ (15 * l.length + 1) ∧ (st l).2.natAbs < 2 ^ (15 * l.length + 1)
  | [], _ => ⟨by decide, by decide⟩
  | p :: ps, h => by
    obtain ⟨h1, h2⟩ := st_sm (l := ps) fun q hq => h q (List.mem_cons_of_mem _ hq)
    have hp := h p List.mem_cons_self
    have h3 := wide_lt hp h1
    have h4 := nat_add (k := 14 + (15 * ps.length + 1)) h3 (Nat.lt_of_lt_of_le h2 (pw (by omega)))
    have e : 15 * (ps.length + 1) + 1 = 14 + (15 * ps.length + 1) + 1 := by omega
    rw [List.length_cons, e]
    exact ⟨h4, Nat.lt_of_lt_of_le h1 (pw (by omega))⟩
/-- a list of parts -/
structure Pts (l : List Int) : Prop where
  ne : l ≠ []
  tl : Pos l.tail
  el : ∀ p ∈ l, Sm p
  dr : ∀ i, Sm (st (l.drop i)).1 ∧ Sm (st (l.drop i)).2
  len : l.length ≤ 1000
theorem Pts.drop {l : List Int} (h : Pts l) (i : Nat) : Sm (st (l.drop i)).1 ∧ Sm (st (l.drop i)).2 := h.dr i
theorem pts_of {l : List Int} (ne : l ≠ []) (tl : Pos l.tail) (sm : Sml l) (len : l.length ≤ 45) : Pts l := by
  refine ⟨ne, tl, fun p hp => Nat.lt_of_lt_of_le (sm p hp) (pw (by decide)), fun i => ?_, by omega⟩
  obtain ⟨h1, h2⟩ := st_sm (l := l.drop i) fun q hq => sm q (List.mem_of_mem_drop hq)
  have hl : (l.drop i).length ≤ 45 := by rw [List.length_drop]; omega
  exact ⟨Nat.lt_of_lt_of_le h1 (pw (by omega)), Nat.lt_of_lt_of_le h2 (pw (by omega))⟩
def intsD (l : List Int) : PyData := .list (l.map PyData.int)
theorem range_split {pre post : List Nat} {x m : Nat} (e : List.range m = pre ++ x :: post) : x = pre.length ∧ pre.length < m := by
  have h1 : (List.range m)[pre.length]? = some x := by rw [e]; simp
  have h2 := lt_of_get h1
  rw [List.length_range] at h2
  rw [List.getElem?_range h2] at h1
  exact ⟨(Option.some.inj h1).symm, h2⟩
theorem e_stands {l : List Int} (h : Pts l) : mr__law_stands [.sh (intsD l)] = some (.sh (frD (st l))) := by
  refine eq_of_sat ?_
  have hn : 0 < l.length := List.length_pos_iff.mpr h.ne
  have hlen := h.len
  unfold mr__law_stands ev__law_stands intsD
  walk_at "dx"
  have hq : (l.map PyData.int).getLast? = some (.int (l.getLast h.ne)) := by rw [List.getLast?_map, List.getLast?_eq_some_getLast h.ne]; rfl
  rw [hq]
  walk_at "dx"
  refine ⟨fit62_of (by omega), ?_⟩
  have hd : l.drop (l.length - 1) = [l.getLast h.ne] := by
    rw [List.drop_eq_getElem_cons (by omega), List.getLast_eq_getElem, List.drop_eq_nil_of_le (by omega)]
  obtain ⟨m, hm⟩ : ∃ m : Nat, ((l.length : Int) - 1).toNat = m := ⟨_, rfl⟩
  rw [hm]
  refine Sat.forM (g := fun i : Nat => PyData.int (0 + (i : Nat))) (List.range m) (fun pre post os => ∃ o, os = [some (.sh (.list (l.map PyData.int))), o, some (.sh (.int (st (l.drop (m - pre.length))).1)), some (.sh (.int (st (l.drop (m - pre.length))).2))]) ⟨none, ?_⟩ (fun pre x post os e ⟨o, eo⟩ => ?_) fun os ⟨o, eo⟩ => ?_
  · rw [show m - ([] : List Nat).length = l.length - 1 by simp; omega, hd]
    show _ = [_, _, some (OD.sh (.int (l.getLast h.ne * 1 + 0))), some (OD.sh (.int 1))]
    rw [show l.getLast h.ne * 1 + 0 = l.getLast h.ne by omega]
  · obtain ⟨hx, hlt⟩ := range_split e
    subst hx
    subst eo
    obtain ⟨j, hj⟩ : ∃ j, m - pre.length = j + 1 := ⟨m - pre.length - 1, by omega⟩
    have hjl : j < l.length := by omega
    have ha : atI (l.map PyData.int) ((l.length : Int) - 2 - (0 + (pre.length : Nat))) = some (.int l[j]) := by
      rw [show (l.length : Int) - 2 - (0 + (pre.length : Nat)) = (j : Nat) by omega, at_nat, List.getElem?_map, List.getElem?_eq_getElem hjl]; rfl
    have hs : l.drop j = l[j] :: l.drop (j + 1) := List.drop_eq_getElem_cons hjl
    have hb := (h.drop (j + 1)).1
    have hp : Sm l[j] := h.el _ (List.getElem_mem hjl)
    walk_at "dx"
    rw [ha]
    walk_at "dx"
    refine ⟨by rw [hj]; exact hp.fit hb, some (.sh (.int (0 + (pre.length : Nat)))), ?_⟩
    rw [List.length_append, List.length_cons, List.length_nil, show m - (pre.length + (0 + 1)) = j by omega, hs, hj]
    rfl
  · subst eo
    walk_at "dx"
    rw [List.length_range, Nat.sub_self, List.drop_zero]
    rfl
theorem e_of_parts {l : List Int} (h : Pts l) : mr_of_parts [.sh (intsD l)] = some (.sh (frD (st l))) := by
  have hn : 0 < l.length := List.length_pos_iff.mpr h.ne
  have hlen := h.len
  have hq : (l.map PyData.int).getLast? = some (.int (l.getLast h.ne)) := by rw [List.getLast?_map, List.getLast?_eq_some_getLast h.ne]; rfl
  refine inL_eq (inL_mx ?_ ?_)
  · unfold xv_of_parts intsD
    have e : decide ((l.length : Int) = 0) = false := decide_eq_false (by omega)
    clear h hq hn hlen
    walk_at "dxs"
  · refine eq_of_sat ?_
    unfold ev_of_parts intsD
    walk_at "dx"
    refine ⟨by omega, ?_⟩
    rw [hq]
    walk_at "dx"
    rw [e_whole]
    walk_at "dx"
    have hc : (DX.cutD (l.map PyData.int) none (some (-1))).reverse = l.dropLast.reverse.map PyData.int := by
      have e1 : HT.sIx (l.map PyData.int).length (l.map PyData.int).length (some (-1)) = l.length - 1 := by
        show (if (-1 : Int) < 0 then ((-1 : Int) + ((l.map PyData.int).length : Nat)).toNat else min (-1 : Int).toNat (l.map PyData.int).length) = _
        rw [if_pos (by decide), List.length_map]; omega
      show ((List.drop 0 (l.map PyData.int)).take (HT.sIx (l.map PyData.int).length (l.map PyData.int).length (some (-1)) - 0)).reverse = _
      rw [e1, List.drop_zero, Nat.sub_zero, List.dropLast_eq_take, ← List.map_take, List.map_reverse]
    have hd : l.drop (l.length - 1) = [l.getLast h.ne] := by
      rw [List.drop_eq_getElem_cons (by omega), List.getLast_eq_getElem, List.drop_eq_nil_of_le (by omega)]
    rw [hc]
    refine Sat.forM (g := PyData.int) l.dropLast.reverse (fun pre post os => ∃ o, os = [some (.sh (.list (l.map PyData.int))), some (.sh (frD (st (l.drop (l.length - 1 - pre.length))))), o]) ⟨none, ?_⟩ (fun pre x post os e ⟨o, eo⟩ => ?_) fun os ⟨o, eo⟩ => ?_
    · rw [show l.length - 1 - ([] : List Int).length = l.length - 1 by simp, hd]
      show _ = [some (OD.sh (.list (l.map PyData.int))), some (OD.sh (frD (l.getLast h.ne * 1 + 0, 1))), none]
      rw [show l.getLast h.ne * 1 + 0 = l.getLast h.ne by omega]
    · have h1 : l.dropLast.reverse[pre.length]? = some x := by rw [e]; simp
      have h2 := lt_of_get h1
      rw [List.length_reverse, List.length_dropLast] at h2
      rw [rev_get (by rw [List.length_dropLast]; exact h2), List.length_dropLast] at h1
      obtain ⟨j, hj⟩ : ∃ j, l.length - 1 - pre.length = j + 1 := ⟨l.length - 1 - pre.length - 1, by omega⟩
      have hjl : j < l.length := by omega
      rw [show l.length - 1 - 1 - pre.length = j by omega, List.dropLast_eq_take, List.getElem?_take_of_lt (by omega), List.getElem?_eq_getElem hjl] at h1
      obtain rfl := Option.some.inj h1
      subst eo
      have hs : l.drop j = l[j] :: l.drop (j + 1) := List.drop_eq_getElem_cons hjl
      have hps : Pos (l.drop (j + 1)) := fun q hq => h.tl q (by
        have e2 : l.drop (j + 1) = l.tail.drop j := by cases l <;> simp
        rw [e2] at hq
        exact List.mem_of_mem_drop hq)
      obtain ⟨p1, p2⟩ := st_pos hps
      obtain ⟨m1, m2⟩ := h.drop (j + 1)
      have hp : Sm l[j] := h.el _ (List.getElem_mem hjl)
      have one : Sm 1 := by show (1 : Int).natAbs < 2 ^ 900; exact Nat.one_lt_two_pow (by decide)
      rw [List.length_append, List.length_cons, List.length_nil, show l.length - 1 - (pre.length + (0 + 1)) = j by omega, hs, hj]
      have eo := e_over (a := 1) (b := 1) (c := (st (l.drop (j + 1))).1) (d := (st (l.drop (j + 1))).2) (by decide) (by omega) one one m1 m2
      rw [Int.one_mul, Int.one_mul, mk_self (by omega) (by rw [gcdI_comm]; exact st_gcd _), fr_d] at eo
      have ep := e_plus (a := l[j]) (b := 1) (c := (st (l.drop (j + 1))).2) (d := (st (l.drop (j + 1))).1) (by decide) (by omega) hp one m2 m1
      rw [Int.mul_one, Int.one_mul, mk_self (by omega) (by rw [gcdI_add, gcdI_comm]; exact st_gcd _)] at ep
      walk_at "dx"
      rw [e_whole]
      walk_at "dx"
      rw [eo]
      walk_at "dx"
      have ep : mr_plus [.sh (frD (l[j], 1)), .sh (frD ((st (l.drop (j + 1))).2, (st (l.drop (j + 1))).1))] = _ := ep
      rw [ep]
      walk_at "dx"
      exact ⟨_, rfl⟩
    · subst eo
      walk_at "dx"
      rw [List.length_reverse, List.length_dropLast, Nat.sub_self, List.drop_zero]
end K11
set_option exponentiation.threshold 5000
namespace K11
open PySem PySem.Spec PyProof.Rows L2 DX
-- DXSIMP begin
local macro_rules | `(tactic| walk_at "dx") => `(tactic| simp only [b_escs, b_rdTms, b_hardTms, b_softTms, b_esCons, b_opV, b_opL, b_opT, b_eOp, b_rdNil, b_rdCons, b_rdT, b_rdA, b_erS, b_erL, b_eVar, b_eC, b_esNil, b_tTru, b_tBl, b_tAnd, b_tOr, b_tNot, b_eAnd, b_eOr, b_eNot, b_eIf, b_eTup, b_eLst, b_eTupO, b_iR2, k_ints2, b_sExpr, b_eLstO, b_xRaiseF, b_iRev, k_sqdL, k_sqdT, o_listL, o_listT, b_eOpL, k_scOS, b_mvNil, b_mvCons, b_sAppTp, b_erTp, g_hardTp, g_softTp, g_giveTp, k_tpl, k_shTp, b_oSome, b_oNone, b_eSl, b_eMt, b_fn0, b_fnP, b_sRet, b_sAsg, b_gvName, b_gvNil, b_gvCons, b_gvTup, b_gvSub, b_sAsgG, b_sApp, b_sPar, b_sPar3, b_sAppIx, b_sAugI, b_cvsNil, b_cvsCons, b_bindCond, b_condFst, b_condSnd, b_giveT, b_sFor, b_iSq, b_iR1, b_iEnA, wipeE, cYes, at_zero, k_bool, k_int, k_str, k_tup, k_lst, k_list, k_itL, k_itT, k_itSS, k_trN, k_trB, k_trI, k_trSS, k_trL, k_trT, k_scN, k_scB, k_scI, k_scS, k_scL, k_scT, k_shS, k_shL, k_softT, k_hardT, k_cvT, k_softNil, k_softCons, k_hardNil, k_hardCons, g_hard, g_soft, g_cv, g_give, g_hardS, g_hardL, g_softS, g_softL, g_cvS, g_giveS, g_giveL, g_allSh, g_erSh, List.all_cons, List.all_nil, k_retR, k_retN, k_alA, k_hd, k_two, k_three, k_sh, k_odT, k_enS, k_enL, o_addI, o_addS, o_addL, o_sub, o_neg, o_ltI, o_leI, o_gtI, o_geI, o_lenS, o_lenL, o_lenT, o_abs, o_max, o_int, o_ixL, o_ixT, o_ixSS, o_slS, o_slL, o_in1S, o_ni1S, o_eqS, o_neS, o_eqI, o_neI, o_mul, o_div, o_mod, o_pow, o_divmod, z_ble0, z_ble1, z_ble2, z_ble3, z_ble4, z_ble5, z_ble6, z_ble7, z_ble8, z_ble9, z_ble10, z_ble13, z_ble17, S_l, S_len, S_app, es1, es2, startE, sNext, pk, DX.inR, Nat.beq, Nat.ble, List.any_cons, List.any_nil, List.filterMap_cons, List.filterMap_nil, Option.bind_some, Option.bind_none, cond_true, cond_false, decide_true, decide_false, List.map_cons, List.map_nil, List.length_cons, List.length_nil, List.length_map, List.length_set, List.getElem?_cons_zero, List.getElem?_cons_succ, List.cons_append, List.nil_append, List.set_cons_zero, List.set_cons_succ, List.replicate, Nat.reduceAdd, Nat.reduceSub, Nat.zero_add, Int.toNat_natCast, Bool.not_true, Bool.not_false, Bool.or_self, Bool.or_false, Bool.false_or, Bool.and_self, Bool.and_true, Bool.true_and, Bool.and_false, Bool.false_and, Bool.true_or, Bool.or_true, z_some, z_none, z_bind, z_then, z_map, z_mapK, b_eLc, lcStep, forStep, at_0, at_1, at_2, at_3, at_4, at_5, at_m1, ix_0, ix_1, ix_m1, blt_00, blt_0s, blt_12, blt_02, z_ifK, z_guard, z_guardN, z_seqN, z_seqR, z_seqB, z_seqC, z_sSeq, z_sIf, z_forN, z_forC, z_forB, z_forR, r_P1, r_P2, k_condSomeP, k_condNx, k_condEn, k_condSl, k_condPair, k_condTm, k_condSh, k_condI, k_condB, k_condAnd, k_condOr, k_condNot, o_gcd, k_condAndL, k_condOrL, b_jNil, b_jCons, b_eJoin, t_str, str_len, str_empty, Int.cast_ofNat_Int, Int.reduceEq, Int.reduceLT, Int.reduceLE, Int.reduceNeg, Int.reduceAdd, Int.reduceSub, Int.reduceMul, Int.reduceToNat, Int.reducePow, Nat.reduceLT, Nat.reduceLeDiff, Nat.reduceEqDiff, Nat.reduceMul, k_condSelf, x_no, x_raise, x_seqNo, b_xIf, x_inr, x_inl, b_xFn, o_neSelf, o_eqSelf, i_boolN, i_boolB, i_boolI, i_boolS, i_boolL, i_boolT, i_intN, i_intB, i_intI, i_intS, i_intL, i_intT, i_strN, i_strB, i_strI, i_strS, i_strL, i_strT, i_listN, i_listB, i_listI, i_listS, i_listL, i_listT, i_tupleN, i_tupleB, i_tupleI, i_tupleS, i_tupleL, i_tupleT, at_nat, decide_eq_true_eq, decide_eq_false_iff_not, Nat.ble_eq, and_true, true_and, Option.map_some, Option.isSome_some])
local macro_rules | `(tactic| walk_at "dxs") => `(tactic| simp only [b_escs, b_rdTms, b_hardTms, b_softTms, b_esCons, b_opV, b_opL, b_opT, b_eOp, b_rdNil, b_rdCons, b_rdT, b_rdA, b_erS, b_erL, b_eVar, b_eC, b_esNil, b_tTru, b_tBl, b_tAnd, b_tOr, b_tNot, b_eAnd, b_eOr, b_eNot, b_eIf, b_eTup, b_eLst, b_eTupO, b_iR2, k_ints2, b_sExpr, b_eLstO, b_xRaiseF, b_iRev, k_sqdL, k_sqdT, o_listL, o_listT, b_eOpL, k_scOS, b_mvNil, b_mvCons, b_sAppTp, b_erTp, g_hardTp, g_softTp, g_giveTp, k_tpl, k_shTp, b_oSome, b_oNone, b_eSl, b_eMt, b_fn0, b_fnP, b_sRet, b_sAsg, b_gvName, b_gvNil, b_gvCons, b_gvTup, b_gvSub, b_sAsgG, b_sApp, b_sPar, b_sPar3, b_sAppIx, b_sAugI, b_cvsNil, b_cvsCons, b_bindCond, b_condFst, b_condSnd, b_giveT, b_sFor, b_iSq, b_iR1, b_iEnA, wipeE, cYes, at_zero, k_bool, k_int, k_str, k_tup, k_lst, k_list, k_itL, k_itT, k_itSS, k_trN, k_trB, k_trI, k_trSS, k_trL, k_trT, k_scN, k_scB, k_scI, k_scS, k_scL, k_scT, k_shS, k_shL, k_softT, k_hardT, k_cvT, k_softNil, k_softCons, k_hardNil, k_hardCons, g_hard, g_soft, g_cv, g_give, g_hardS, g_hardL, g_softS, g_softL, g_cvS, g_giveS, g_giveL, g_allSh, g_erSh, List.all_cons, List.all_nil, k_retR, k_retN, k_alA, k_hd, k_two, k_three, k_sh, k_odT, k_enS, k_enL, o_addI, o_addS, o_addL, o_sub, o_neg, o_ltI, o_leI, o_gtI, o_geI, o_lenS, o_lenL, o_lenT, o_abs, o_max, o_int, o_ixL, o_ixT, o_ixSS, o_slS, o_slL, o_in1S, o_ni1S, o_eqS, o_neS, o_eqI, o_neI, o_mul, o_div, o_mod, o_pow, o_divmod, z_ble0, z_ble1, z_ble2, z_ble3, z_ble4, z_ble5, z_ble6, z_ble7, z_ble8, z_ble9, z_ble10, z_ble13, z_ble17, S_l, S_len, S_app, es1, es2, startE, sNext, pk, DX.inR, Nat.beq, Nat.ble, List.any_cons, List.any_nil, List.filterMap_cons, List.filterMap_nil, Option.bind_some, Option.bind_none, cond_true, cond_false, decide_true, decide_false, List.map_cons, List.map_nil, List.length_cons, List.length_nil, List.length_map, List.length_set, List.getElem?_cons_zero, List.getElem?_cons_succ, List.cons_append, List.nil_append, List.set_cons_zero, List.set_cons_succ, List.replicate, Nat.reduceAdd, Nat.reduceSub, Nat.zero_add, Int.toNat_natCast, Bool.not_true, Bool.not_false, Bool.or_self, Bool.or_false, Bool.false_or, Bool.and_self, Bool.and_true, Bool.true_and, Bool.and_false, Bool.false_and, Bool.true_or, Bool.or_true, z_some, z_none, z_bind, z_then, z_map, z_mapK, b_eLc, lcStep, forStep, at_0, at_1, at_2, at_3, at_4, at_5, at_m1, ix_0, ix_1, ix_m1, blt_00, blt_0s, blt_12, blt_02, z_ifK, z_guard, z_guardN, z_seqN, z_seqR, z_seqB, z_seqC, z_sSeq, z_sIf, z_forN, z_forC, z_forB, z_forR, r_P1, r_P2, k_condSomeP, k_condNx, k_condEn, k_condSl, k_condPair, k_condTm, k_condSh, k_condI, k_condB, k_condAnd, k_condOr, k_condNot, o_gcd, k_condAndL, k_condOrL, b_jNil, b_jCons, b_eJoin, t_str, str_len, str_empty, Int.cast_ofNat_Int, Int.reduceEq, Int.reduceLT, Int.reduceLE, Int.reduceNeg, Int.reduceAdd, Int.reduceSub, Int.reduceMul, Int.reduceToNat, Int.reducePow, Nat.reduceLT, Nat.reduceLeDiff, Nat.reduceEqDiff, Nat.reduceMul, k_condSelf, x_no, x_raise, x_seqNo, b_xIf, x_inr, x_inl, b_xFn, o_neSelf, o_eqSelf, i_boolN, i_boolB, i_boolI, i_boolS, i_boolL, i_boolT, i_intN, i_intB, i_intI, i_intS, i_intL, i_intT, i_strN, i_strB, i_strI, i_strS, i_strL, i_strT, i_listN, i_listB, i_listI, i_listS, i_listL, i_listT, i_tupleN, i_tupleB, i_tupleI, i_tupleS, i_tupleL, i_tupleT, at_nat, decide_eq_true_eq, decide_eq_false_iff_not, Nat.ble_eq, and_true, true_and, Option.map_some, Option.isSome_some, *])
-- DXSIMP end
/-! ### lists of ints compared -/
theorem eqv_int {a b : Int} : (PyData.int a).eqv (.int b) = decide (a = b) := by rw [← I_beq]; rfl
theorem lay_ints : ∀ l : List Int, PyData.canLayAll0 (l.map PyData.int) = true ∧ PyData.depthAll (l.map PyData.int) ≤ 1
  | [] => ⟨by rw [List.map_nil, PyData.canLayAll0], by rw [List.map_nil, PyData.depthAll]; decide⟩
  | a :: l => by
    obtain ⟨h1, h2⟩ := lay_ints l
    rw [List.map_cons, PyData.canLayAll0, PyData.depthAll, h1, PyData.depth]
    exact ⟨rfl, Nat.max_le.mpr ⟨by decide, h2⟩⟩
theorem shaped_ints (l : List Int) : SeqAt.shaped (intsD l) = true := by
  obtain ⟨h1, h2⟩ := lay_ints l
  unfold intsD SeqAt.shaped
  rw [PyData.canLay0, PyData.depth, h1, Bool.true_and]
  exact decide_eq_true (by omega)
theorem eqv_ints : ∀ l m : List Int, PyData.eqvAll (l.map PyData.int) (m.map PyData.int) = decide (l = m)
  | [], [] => by rw [List.map_nil, PyData.eqvAll]; rfl
  | [], _ :: _ => by simp [PyData.eqvAll]
  | _ :: _, [] => by simp [PyData.eqvAll]
  | a :: l, b :: m => by
    rw [List.map_cons, List.map_cons, PyData.eqvAll, eqv_ints l m, eqv_int]
    by_cases h : a = b <;> by_cases g : l = m <;> simp [h, g]
theorem o_eqLi {l m : List Int} : opEq [intsD l, intsD m] = some (.val (.bool (decide (l = m)))) := by
  rw [show opEq [intsD l, intsD m] = if (SeqAt.shaped (intsD l) && SeqAt.shaped (intsD m)) = true then some (.val (.bool (PyData.eqv (intsD l) (intsD m)))) else none from rfl, shaped_ints, shaped_ints, Bool.and_self, if_pos rfl]
  unfold intsD
  rw [PyData.eqv, eqv_ints]
theorem o_neFr {x y : Fr} : opNe [frD x, frD y] = some (.val (.bool (!decide (x = y)))) := by
  obtain ⟨a, b⟩ := x
  obtain ⟨c, d⟩ := y
  have sh : ∀ p q : Int, SeqAt.shaped (frD (p, q)) = true := fun p q => by
    unfold frD SeqAt.shaped
    simp only [PyData.canLay0, PyData.canLayAll0, PyData.depth, PyData.depthAll]
    rfl
  rw [show opNe [frD (a, b), frD (c, d)] = if (SeqAt.shaped (frD (a, b)) && SeqAt.shaped (frD (c, d))) = true then some (.val (.bool (!PyData.eqv (frD (a, b)) (frD (c, d))))) else none from rfl, sh, sh, Bool.and_self, if_pos rfl]
  unfold frD
  simp only [PyData.eqv, PyData.eqvAll]
  by_cases h : a = c <;> by_cases g : b = d <;> simp [h, g]
/-! ### Euclid's steps of parts -/
def can : List Int → List Int
  | [] => []
  | p :: ps => if ps = [1] then [p + 1] else p :: can ps
theorem stt_lt {ps : List Int} (h : Pos ps) (h0 : ps ≠ []) (h1 : ps ≠ [1]) : 0 ≤ (st ps).2 ∧ (st ps).2 < (st ps).1 := by
  match ps, h0 with
  | q :: r, _ =>
    have hq := h q List.mem_cons_self
    obtain ⟨e1, e2⟩ := st_pos (l := r) fun z hz => h z (List.mem_cons_of_mem _ hz)
    show 0 ≤ (st r).1 ∧ (st r).1 < q * (st r).1 + (st r).2
    refine ⟨by omega, ?_⟩
    cases r with
    | nil =>
      have : q ≠ 1 := fun z => h1 (by rw [z])
      show (1 : Int) < q * 1 + 0
      omega
    | cons z r =>
      obtain ⟨f1, f2⟩ := st_pos (l := r) fun y hy => h y (List.mem_cons_of_mem _ (List.mem_cons_of_mem _ hy))
      have : (st (z :: r)).2 = (st r).1 := rfl
      have := Int.mul_le_mul_of_nonneg_right hq (show 0 ≤ (st (z :: r)).1 by omega)
      omega
theorem div_st {p x y : Int} (h0 : 0 ≤ y) (h1 : y < x) : divV (p * x + y) x = p := by
  rw [divV_pos (by omega), Int.add_comm, Int.add_mul_ediv_right _ _ (by omega), Int.ediv_eq_zero_of_lt h0 h1, Int.zero_add]
theorem euc_st : ∀ (p : Int) (ps : List Int), Pos ps → euc (st (p :: ps)).1 (st (p :: ps)).2 = can (p :: ps)
  | p, [], _ => by
    show euc (p * 1 + 0) 1 = [p]
    have e := div_st (p := p) (x := 1) (y := 0) (by decide) (by decide)
    rw [euc_pos (by decide), e, euc_nil (by omega)]
  | p, q :: r, h => by
    by_cases h1 : q :: r = [1]
    · rw [h1]
      show euc (p * (1 * 1 + 0) + 1) (1 * 1 + 0) = [p + 1]
      rw [show p * (1 * 1 + 0) + 1 = (p + 1) * 1 + 0 by omega, show (1 * 1 + 0 : Int) = 1 from rfl]
      have e := div_st (p := p + 1) (x := 1) (y := 0) (by decide) (by decide)
      rw [euc_pos (by decide), e, euc_nil (by omega)]
    · obtain ⟨h2, h3⟩ := stt_lt h (by simp) h1
      show euc (p * (st (q :: r)).1 + (st (q :: r)).2) (st (q :: r)).1 = _
      rw [euc_pos (by omega), div_st h2 h3, show p * (st (q :: r)).1 + (st (q :: r)).2 - p * (st (q :: r)).1 = (st (q :: r)).2 by omega, euc_st q r fun z hz => h z (List.mem_cons_of_mem _ hz)]
      show _ = if q :: r = [1] then [p + 1] else p :: can (q :: r)
      rw [if_neg h1]
theorem can_len : ∀ l : List Int, (can l).length ≤ l.length
  | [] => Nat.le_refl _
  | p :: ps => by
    show (if ps = [1] then [p + 1] else p :: can ps).length ≤ ps.length + 1
    split
    · exact Nat.le_add_left _ _
    · exact Nat.succ_le_succ (can_len ps)
theorem can_sm : ∀ {l : List Int}, Sml l → ∀ q ∈ can l, q.natAbs < 2 ^ 15
  | [], _, q, h => nomatch h
  | p :: ps, h, q, hq => by
    have hp := h p List.mem_cons_self
    have hq : q ∈ (if ps = [1] then [p + 1] else p :: can ps) := hq
    have e14 : (2 : Nat) ^ 14 = 16384 := by decide
    have e15 : (2 : Nat) ^ 15 = 32768 := by decide
    rw [e14] at hp
    rw [e15]
    split at hq
    · rw [List.mem_singleton.mp hq]; omega
    · rcases List.mem_cons.mp hq with z | z
      · rw [z]; omega
      · have := can_sm (l := ps) (fun y hy => h y (List.mem_cons_of_mem _ hy)) q z
        rw [e15] at this; exact this
end K11
set_option exponentiation.threshold 5000
namespace K11
open PySem PySem.Spec PyProof.Rows L2 DX
-- DXSIMP begin
local macro_rules | `(tactic| walk_at "dx") => `(tactic| simp only [b_escs, b_rdTms, b_hardTms, b_softTms, b_esCons, b_opV, b_opL, b_opT, b_eOp, b_rdNil, b_rdCons, b_rdT, b_rdA, b_erS, b_erL, b_eVar, b_eC, b_esNil, b_tTru, b_tBl, b_tAnd, b_tOr, b_tNot, b_eAnd, b_eOr, b_eNot, b_eIf, b_eTup, b_eLst, b_eTupO, b_iR2, k_ints2, b_sExpr, b_eLstO, b_xRaiseF, b_iRev, k_sqdL, k_sqdT, o_listL, o_listT, b_eOpL, k_scOS, b_mvNil, b_mvCons, b_sAppTp, b_erTp, g_hardTp, g_softTp, g_giveTp, k_tpl, k_shTp, b_oSome, b_oNone, b_eSl, b_eMt, b_fn0, b_fnP, b_sRet, b_sAsg, b_gvName, b_gvNil, b_gvCons, b_gvTup, b_gvSub, b_sAsgG, b_sApp, b_sPar, b_sPar3, b_sAppIx, b_sAugI, b_cvsNil, b_cvsCons, b_bindCond, b_condFst, b_condSnd, b_giveT, b_sFor, b_iSq, b_iR1, b_iEnA, wipeE, cYes, at_zero, k_bool, k_int, k_str, k_tup, k_lst, k_list, k_itL, k_itT, k_itSS, k_trN, k_trB, k_trI, k_trSS, k_trL, k_trT, k_scN, k_scB, k_scI, k_scS, k_scL, k_scT, k_shS, k_shL, k_softT, k_hardT, k_cvT, k_softNil, k_softCons, k_hardNil, k_hardCons, g_hard, g_soft, g_cv, g_give, g_hardS, g_hardL, g_softS, g_softL, g_cvS, g_giveS, g_giveL, g_allSh, g_erSh, List.all_cons, List.all_nil, k_retR, k_retN, k_alA, k_hd, k_two, k_three, k_sh, k_odT, k_enS, k_enL, o_addI, o_addS, o_addL, o_sub, o_neg, o_ltI, o_leI, o_gtI, o_geI, o_lenS, o_lenL, o_lenT, o_abs, o_max, o_int, o_ixL, o_ixT, o_ixSS, o_slS, o_slL, o_in1S, o_ni1S, o_eqS, o_neS, o_eqI, o_neI, o_mul, o_div, o_mod, o_pow, o_divmod, z_ble0, z_ble1, z_ble2, z_ble3, z_ble4, z_ble5, z_ble6, z_ble7, z_ble8, z_ble9, z_ble10, z_ble13, z_ble17, S_l, S_len, S_app, es1, es2, startE, sNext, pk, DX.inR, Nat.beq, Nat.ble, List.any_cons, List.any_nil, List.filterMap_cons, List.filterMap_nil, Option.bind_some, Option.bind_none, cond_true, cond_false, decide_true, decide_false, List.map_cons, List.map_nil, List.length_cons, List.length_nil, List.length_map, List.length_set, List.getElem?_cons_zero, List.getElem?_cons_succ, List.cons_append, List.nil_append, List.set_cons_zero, List.set_cons_succ, List.replicate, Nat.reduceAdd, Nat.reduceSub, Nat.zero_add, Int.toNat_natCast, Bool.not_true, Bool.not_false, Bool.or_self, Bool.or_false, Bool.false_or, Bool.and_self, Bool.and_true, Bool.true_and, Bool.and_false, Bool.false_and, Bool.true_or, Bool.or_true, z_some, z_none, z_bind, z_then, z_map, z_mapK, b_eLc, lcStep, forStep, at_0, at_1, at_2, at_3, at_4, at_5, at_m1, ix_0, ix_1, ix_m1, blt_00, blt_0s, blt_12, blt_02, z_ifK, z_guard, z_guardN, z_seqN, z_seqR, z_seqB, z_seqC, z_sSeq, z_sIf, z_forN, z_forC, z_forB, z_forR, r_P1, r_P2, k_condSomeP, k_condNx, k_condEn, k_condSl, k_condPair, k_condTm, k_condSh, k_condI, k_condB, k_condAnd, k_condOr, k_condNot, o_gcd, k_condAndL, k_condOrL, b_jNil, b_jCons, b_eJoin, t_str, str_len, str_empty, Int.cast_ofNat_Int, Int.reduceEq, Int.reduceLT, Int.reduceLE, Int.reduceNeg, Int.reduceAdd, Int.reduceSub, Int.reduceMul, Int.reduceToNat, Int.reducePow, Nat.reduceLT, Nat.reduceLeDiff, Nat.reduceEqDiff, Nat.reduceMul, k_condSelf, x_no, x_raise, x_seqNo, b_xIf, x_inr, x_inl, b_xFn, o_neSelf, o_eqSelf, i_boolN, i_boolB, i_boolI, i_boolS, i_boolL, i_boolT, i_intN, i_intB, i_intI, i_intS, i_intL, i_intT, i_strN, i_strB, i_strI, i_strS, i_strL, i_strT, i_listN, i_listB, i_listI, i_listS, i_listL, i_listT, i_tupleN, i_tupleB, i_tupleI, i_tupleS, i_tupleL, i_tupleT, at_nat, decide_eq_true_eq, decide_eq_false_iff_not, Nat.ble_eq, and_true, true_and, Option.map_some, Option.isSome_some])
local macro_rules | `(tactic| walk_at "dxs") => `(tactic| simp only [b_escs, b_rdTms, b_hardTms, b_softTms, b_esCons, b_opV, b_opL, b_opT, b_eOp, b_rdNil, b_rdCons, b_rdT, b_rdA, b_erS, b_erL, b_eVar, b_eC, b_esNil, b_tTru, b_tBl, b_tAnd, b_tOr, b_tNot, b_eAnd, b_eOr, b_eNot, b_eIf, b_eTup, b_eLst, b_eTupO, b_iR2, k_ints2, b_sExpr, b_eLstO, b_xRaiseF, b_iRev, k_sqdL, k_sqdT, o_listL, o_listT, b_eOpL, k_scOS, b_mvNil, b_mvCons, b_sAppTp, b_erTp, g_hardTp, g_softTp, g_giveTp, k_tpl, k_shTp, b_oSome, b_oNone, b_eSl, b_eMt, b_fn0, b_fnP, b_sRet, b_sAsg, b_gvName, b_gvNil, b_gvCons, b_gvTup, b_gvSub, b_sAsgG, b_sApp, b_sPar, b_sPar3, b_sAppIx, b_sAugI, b_cvsNil, b_cvsCons, b_bindCond, b_condFst, b_condSnd, b_giveT, b_sFor, b_iSq, b_iR1, b_iEnA, wipeE, cYes, at_zero, k_bool, k_int, k_str, k_tup, k_lst, k_list, k_itL, k_itT, k_itSS, k_trN, k_trB, k_trI, k_trSS, k_trL, k_trT, k_scN, k_scB, k_scI, k_scS, k_scL, k_scT, k_shS, k_shL, k_softT, k_hardT, k_cvT, k_softNil, k_softCons, k_hardNil, k_hardCons, g_hard, g_soft, g_cv, g_give, g_hardS, g_hardL, g_softS, g_softL, g_cvS, g_giveS, g_giveL, g_allSh, g_erSh, List.all_cons, List.all_nil, k_retR, k_retN, k_alA, k_hd, k_two, k_three, k_sh, k_odT, k_enS, k_enL, o_addI, o_addS, o_addL, o_sub, o_neg, o_ltI, o_leI, o_gtI, o_geI, o_lenS, o_lenL, o_lenT, o_abs, o_max, o_int, o_ixL, o_ixT, o_ixSS, o_slS, o_slL, o_in1S, o_ni1S, o_eqS, o_neS, o_eqI, o_neI, o_mul, o_div, o_mod, o_pow, o_divmod, z_ble0, z_ble1, z_ble2, z_ble3, z_ble4, z_ble5, z_ble6, z_ble7, z_ble8, z_ble9, z_ble10, z_ble13, z_ble17, S_l, S_len, S_app, es1, es2, startE, sNext, pk, DX.inR, Nat.beq, Nat.ble, List.any_cons, List.any_nil, List.filterMap_cons, List.filterMap_nil, Option.bind_some, Option.bind_none, cond_true, cond_false, decide_true, decide_false, List.map_cons, List.map_nil, List.length_cons, List.length_nil, List.length_map, List.length_set, List.getElem?_cons_zero, List.getElem?_cons_succ, List.cons_append, List.nil_append, List.set_cons_zero, List.set_cons_succ, List.replicate, Nat.reduceAdd, Nat.reduceSub, Nat.zero_add, Int.toNat_natCast, Bool.not_true, Bool.not_false, Bool.or_self, Bool.or_false, Bool.false_or, Bool.and_self, Bool.and_true, Bool.true_and, Bool.and_false, Bool.false_and, Bool.true_or, Bool.or_true, z_some, z_none, z_bind, z_then, z_map, z_mapK, b_eLc, lcStep, forStep, at_0, at_1, at_2, at_3, at_4, at_5, at_m1, ix_0, ix_1, ix_m1, blt_00, blt_0s, blt_12, blt_02, z_ifK, z_guard, z_guardN, z_seqN, z_seqR, z_seqB, z_seqC, z_sSeq, z_sIf, z_forN, z_forC, z_forB, z_forR, r_P1, r_P2, k_condSomeP, k_condNx, k_condEn, k_condSl, k_condPair, k_condTm, k_condSh, k_condI, k_condB, k_condAnd, k_condOr, k_condNot, o_gcd, k_condAndL, k_condOrL, b_jNil, b_jCons, b_eJoin, t_str, str_len, str_empty, Int.cast_ofNat_Int, Int.reduceEq, Int.reduceLT, Int.reduceLE, Int.reduceNeg, Int.reduceAdd, Int.reduceSub, Int.reduceMul, Int.reduceToNat, Int.reducePow, Nat.reduceLT, Nat.reduceLeDiff, Nat.reduceEqDiff, Nat.reduceMul, k_condSelf, x_no, x_raise, x_seqNo, b_xIf, x_inr, x_inl, b_xFn, o_neSelf, o_eqSelf, i_boolN, i_boolB, i_boolI, i_boolS, i_boolL, i_boolT, i_intN, i_intB, i_intI, i_intS, i_intL, i_intT, i_strN, i_strB, i_strI, i_strS, i_strL, i_strT, i_listN, i_listB, i_listI, i_listS, i_listL, i_listT, i_tupleN, i_tupleB, i_tupleI, i_tupleS, i_tupleL, i_tupleT, at_nat, decide_eq_true_eq, decide_eq_false_iff_not, Nat.ble_eq, and_true, true_and, Option.map_some, Option.isSome_some, *])
-- DXSIMP end
/-! ### parts compared -/
def cmpL : List Int → List Int → Int
  | [], [] => 0
  | [], _ :: _ => 1
  | _ :: _, [] => -1
  | a :: l, b :: m => if a = b then -cmpL l m else if b < a then 1 else -1
theorem sgn_pos {a : Int} (h : 0 < a) : sgn a = 1 := by unfold sgn; rw [decide_eq_false (by omega), decide_eq_true h]; rfl
theorem sgn_neg {a : Int} (h : a < 0) : sgn a = -1 := by unfold sgn; rw [decide_eq_false (by omega), decide_eq_false (by omega)]; rfl
theorem sgn_0 : sgn 0 = 0 := rfl
theorem sgn_flip (a : Int) : -sgn a = sgn (-a) := by
  rcases Int.lt_trichotomy a 0 with h | h | h
  · rw [sgn_neg h, sgn_pos (by omega)]; rfl
  · rw [h]; rfl
  · rw [sgn_pos h, sgn_neg (by omega)]
theorem far {b d r r' : Int} (hb : 0 < b) (hd : 0 < d) (h1 : 0 ≤ r) (h2 : r' < d) (k : Int) (hk : 1 ≤ k) : 0 < k * (b * d) + r * d - r' * b := by
  have h3 := Int.mul_pos hb hd
  have h4 := Int.mul_le_mul_of_nonneg_right hk (show 0 ≤ b * d by omega)
  have h5 := Int.mul_nonneg h1 (show 0 ≤ d by omega)
  have h6 : r' * b ≤ (d - 1) * b := Int.mul_le_mul_of_nonneg_right (by omega) (by omega)
  have h7 : (d - 1) * b = b * d - b := by rw [Int.sub_mul, Int.one_mul, Int.mul_comm]
  omega
theorem cmp_euc : ∀ (n : Nat) (a b c d : Int), b.toNat ≤ n → 0 ≤ b → 0 ≤ d → (b = 0 → 0 < a) → (d = 0 → 0 < c) → cmpL (euc a b) (euc c d) = sgn (a * d - c * b)
  | n, a, b, c, d, hn, hb, hd, ha, hc => by
    by_cases b0 : 0 < b
    · by_cases d0 : 0 < d
      · obtain ⟨m, rfl⟩ : ∃ m, n = m + 1 := ⟨n - 1, by omega⟩
        obtain ⟨r1, r2⟩ := rem_lt (a := a) b0
        obtain ⟨s1, s2⟩ := rem_lt (a := c) d0
        rw [euc_pos b0, euc_pos d0]
        show (if divV a b = divV c d then -cmpL _ _ else if divV c d < divV a b then (1 : Int) else -1) = _
        have key : a * d - c * b = (divV a b - divV c d) * (b * d) + (a - divV a b * b) * d - (c - divV c d * d) * b := by
          simp only [Int.sub_mul]
          rw [Int.mul_assoc (divV a b) b d, show divV c d * d * b = divV c d * (b * d) by rw [Int.mul_assoc, Int.mul_comm d b]]
          omega
        split
        · rename_i e
          rw [cmp_euc m b _ d _ (by omega) r1 s1 (fun _ => b0) (fun _ => d0), sgn_flip, key, e]
          congr 1
          rw [Int.sub_self, Int.zero_mul, Int.mul_comm b, Int.mul_comm d]; omega
        · rename_i e
          split
          · rename_i g
            rw [sgn_pos]
            rw [key]
            exact far b0 d0 r1 s2 _ (by omega)
          · rename_i g
            rw [sgn_neg]
            have := far d0 b0 s1 r2 (divV c d - divV a b) (by omega)
            rw [key]
            have e2 : (divV a b - divV c d) * (b * d) = -((divV c d - divV a b) * (d * b)) := by rw [Int.mul_comm d b, ← Int.neg_mul, Int.neg_sub]
            omega
      · have hd0 : d = 0 := by omega
        subst hd0
        have := Int.mul_pos (hc rfl) b0
        rw [euc_pos b0, euc_nil (a := c) (by omega), sgn_neg (by omega)]; rfl
    · have hb0 : b = 0 := by omega
      subst hb0
      rw [euc_nil (a := a) (by omega)]
      by_cases d0 : 0 < d
      · have := Int.mul_pos (ha rfl) d0
        rw [euc_pos d0, sgn_pos (by omega)]; rfl
      · have hd0 : d = 0 := by omega
        subst hd0
        rw [euc_nil (by omega), Int.mul_zero, Int.mul_zero]; rfl
theorem cmpL_self : ∀ l : List Int, cmpL l l = 0
  | [] => rfl
  | a :: l => by show (if a = a then -cmpL l l else _) = _; rw [if_pos rfl, cmpL_self l]; rfl
def flip (k : Nat) (z : Int) : Int := if k % 2 = 1 then -z else z
theorem flip_neg (k : Nat) (z : Int) : flip k (-z) = flip (k + 1) z := by
  unfold flip
  rcases Nat.mod_two_eq_zero_or_one k with h | h
  · rw [if_neg (by omega), if_pos (by omega)]
  · rw [if_pos h, if_neg (by omega), Int.neg_neg]
def intsO (l : List Int) : OD := .lst (l.map fun q => .sh (.int q))
theorem intsO_er (l : List Int) : PyData.list ((l.map fun q => OD.sh (.int q)).map OD.er) = intsD l := by
  rw [List.map_map]; rfl
theorem par (k : Nat) : decide ((k : Int) - divV (k : Int) 2 * 2 = 1) = decide (k % 2 = 1) := by
  rw [divV_pos (by decide)]
  exact decide_eq_decide.mpr ⟨fun h => by omega, fun h => by omega⟩
theorem get_ints {A : List Int} {k : Nat} (h : k < A.length) : ((A.map fun q => OD.sh (.int q)).map OD.er)[k]? = some (.int A[k]) := by
  rw [List.map_map, List.getElem?_map, List.getElem?_eq_getElem h]; rfl
theorem e_compare_parts {a b c d : Int} (sa : Sm a) (sb : Sm b) (sc : Sm c) (sd : Sm d) (hb : 0 < b) (hd : 0 < d) (l1 : (euc a b).length ≤ 1000) (l2 : (euc c d).length ≤ 1000) :
    mr_compare_by_parts [.sh (.tuple [.int a, .int b]), .sh (.tuple [.int c, .int d])] = some (.sh (.int (sgn (a * d - c * b)))) := by
  refine eq_of_sat ?_
  rw [← cmp_euc b.toNat a b c d (Nat.le_refl _) (by omega) (by omega) (by omega) (by omega)]
  have p1 : mr_parts_of [.sh (.tuple [.int a, .int b])] = some (intsO (euc a b)) := e_parts sa sb l1
  have p2 : mr_parts_of [.sh (.tuple [.int c, .int d])] = some (intsO (euc c d)) := e_parts sc sd l2
  generalize euc a b = A at *
  generalize euc c d = B at *
  unfold mr_compare_by_parts ev_compare_by_parts
  walk_at "dx"
  rw [p1]
  walk_at "dx"
  rw [p2]
  unfold intsO
  walk_at "dx"
  rw [intsO_er, intsO_er, o_eqLi]
  walk_at "dx"
  refine Sat.splitD (fun h => ?_) fun h => ?_
  · rw [h, cmpL_self]
    walk_at "dx"
  · walk_at "dx"
    refine Sat.while (fun n os => ∃ (k : Nat) (o : Option OD), n = A.length - k ∧ k ≤ A.length ∧ k ≤ B.length ∧ A.take k = B.take k ∧ flip k (cmpL (A.drop k) (B.drop k)) = cmpL A B ∧ os = [some (.sh (.tuple [.int a, .int b])), some (.sh (.tuple [.int c, .int d])), some (.sh (.int (k : Nat))), some (intsO A), some (intsO B), o]) A.length (fuel_lt (by omega)) ⟨0, none, rfl, Nat.zero_le _, Nat.zero_le _, rfl, rfl, rfl⟩ (fun n os ⟨k, o, hn, hA, hB, ht, hc, e⟩ => ?_)
    subst e
    have hpar := par k
    have hdf : divFits (k : Int) 2 = true := divFits_small (by decide) (by decide)
    have hmf : mulFits (divV (k : Int) 2) 2 = true := mulFits_of (lt4 (div_le (k := 64) (by decide) (show ((k : Nat) : Int).natAbs < 2 ^ 64 by omega)) (by decide)) (by decide)
    unfold intsO
    walk_at "dx"
    by_cases hk : k < A.length
    · have hx := get_ints hk
      rw [decide_eq_true (show (k : Int) < A.length by omega)]
      by_cases hk2 : k < B.length
      · have hy := get_ints hk2
        rw [decide_eq_true (show (k : Int) < B.length by omega)]
        have da : A.drop k = A[k] :: A.drop (k + 1) := List.drop_eq_getElem_cons hk
        have db : B.drop k = B[k] :: B.drop (k + 1) := List.drop_eq_getElem_cons hk2
        walk_at "dx"
        rw [hx]
        walk_at "dx"
        rw [hy]
        walk_at "dx"
        refine ⟨fun hxy => ?_, fun hxy => ?_⟩
        · rw [decide_eq_false (show ¬(k : Int) = A.length by omega)]
          walk_at "dx"
          rw [decide_eq_false (show ¬(k : Int) = B.length by omega)]
          walk_at "dx"
          rw [hx]
          walk_at "dx"
          rw [hy]
          walk_at "dx"
          refine ⟨hdf, hmf, ?_⟩
          rw [hpar, ← hc, da, db]
          show _ = OD.sh (.int (flip k (if A[k] = B[k] then _ else if B[k] < A[k] then (1 : Int) else -1)))
          rw [if_neg hxy]
          unfold flip
          by_cases p : k % 2 = 1 <;> by_cases q : B[k] < A[k] <;> simp [p, q]
        · refine ⟨_, show A.length - (k + 1) < n by omega, k + 1, o, rfl, hk, hk2, ?_, ?_, rfl⟩
          · rw [List.take_succ_eq_append_getElem hk, List.take_succ_eq_append_getElem hk2, ht, hxy]
          · rw [← hc, da, db]
            show _ = flip k (if A[k] = B[k] then -cmpL (A.drop (k + 1)) (B.drop (k + 1)) else _)
            rw [if_pos hxy, flip_neg]
      · rw [decide_eq_false (show ¬(k : Int) < B.length by omega)]
        walk_at "dx"
        refine ⟨fun _ => ?_, fun h => nomatch h⟩
        rw [decide_eq_false (show ¬(k : Int) = A.length by omega)]
        walk_at "dx"
        rw [decide_eq_true (show (k : Int) = B.length by omega)]
        walk_at "dx"
        refine ⟨hdf, hmf, ?_⟩
        have da : A.drop k = A[k] :: A.drop (k + 1) := List.drop_eq_getElem_cons hk
        have db : B.drop k = [] := List.drop_eq_nil_of_le (by omega)
        rw [hpar, ← hc, da, db]
        show _ = OD.sh (.int (flip k (-1)))
        unfold flip
        by_cases p : k % 2 = 1 <;> simp [p]
    · rw [decide_eq_false (show ¬(k : Int) < A.length by omega)]
      walk_at "dx"
      refine ⟨fun _ => ?_, fun h => nomatch h⟩
      rw [decide_eq_true (show (k : Int) = A.length by omega)]
      walk_at "dx"
      refine ⟨hdf, hmf, ?_⟩
      have hk2 : k < B.length := by
        rcases Nat.lt_or_ge k B.length with z | z
        · exact z
        · refine absurd ?_ h
          rw [List.take_of_length_le (by omega), List.take_of_length_le z] at ht
          exact ht
      have da : A.drop k = [] := List.drop_eq_nil_of_le (by omega)
      have db : B.drop k = B[k] :: B.drop (k + 1) := List.drop_eq_getElem_cons hk2
      rw [hpar, ← hc, da, db]
      show _ = OD.sh (.int (flip k 1))
      unfold flip
      by_cases p : k % 2 = 1 <;> simp [p]
end K11
set_option exponentiation.threshold 5000
namespace K11
open PySem PySem.Spec PyProof.Rows L2 DX
/-! ### the simplest fraction between two -/
/-- u / v lies between a / b and c / d -/
def In (a b c d u v : Int) : Prop := a * v ≤ u * b ∧ u * d ≤ c * v
def cl (a b : Int) : Int := -divV (-a) b
theorem cl_le {a b u : Int} (hb : 0 < b) : cl a b ≤ u ↔ a ≤ u * b := by
  unfold cl
  rw [divV_pos hb]
  have h : -u ≤ -a / b ↔ -u * b ≤ -a := Int.le_ediv_iff_mul_le hb
  rw [Int.neg_mul] at h
  constructor
  · intro g; have := h.mp (by omega); omega
  · intro g; have := h.mpr (by omega); omega
theorem le_fl {a b u : Int} (hb : 0 < b) : u ≤ divV a b ↔ u * b ≤ a := by
  rw [divV_pos hb]; exact Int.le_ediv_iff_mul_le hb
def sabN : Nat → Int → Int → Int → Int → List Int
  | 0, _, _, _, _ => []
  | n + 1, a, b, c, d => if cl a b * d ≤ c then [cl a b] else divV a b :: sabN n d (c - divV a b * d) b (a - divV a b * b)
structure Best (a b c d : Int) (l : List Int) : Prop where
  ne : l ≠ []
  tl : Pos l.tail
  hd : b ≤ a → Pos l
  nn : ∀ p ∈ l, 0 ≤ p
  isIn : In a b c d (st l).1 (st l).2
  pos : 1 ≤ (st l).2
  min : ∀ u v, 0 < v → In a b c d u v → (st l).1 ≤ u ∧ (st l).2 ≤ v
theorem mul_lt {x y b : Int} (hb : 0 < b) : x < y ↔ x * b < y * b := ⟨fun h => Int.mul_lt_mul_of_pos_right h hb, fun h => Int.lt_of_mul_lt_mul_right h (by omega)⟩
theorem mul_le {x y b : Int} (hb : 0 < b) : x ≤ y ↔ x * b ≤ y * b := ⟨fun h => Int.mul_le_mul_of_nonneg_right h (by omega), fun h => Int.le_of_mul_le_mul_right h hb⟩
theorem step_facts {a b c d : Int} (ha : 0 < a) (hb : 0 < b) (hd : 0 < d) (hle : a * d ≤ c * b) (h : ¬cl a b * d ≤ c) :
    0 ≤ divV a b ∧ 0 < a - divV a b * b ∧ a - divV a b * b < b ∧ 0 < c - divV a b * d ∧ c - divV a b * d < d ∧ (b ≤ a → 1 ≤ divV a b) := by
  obtain ⟨r1, r2⟩ := rem_lt (a := a) hb
  have p0 : 0 ≤ divV a b := (le_fl hb).mpr (by rw [Int.zero_mul]; omega)
  have p1 : b ≤ a → 1 ≤ divV a b := fun g => (le_fl hb).mpr (by rw [Int.one_mul]; exact g)
  -- p * b < a
  have s1 : 0 < a - divV a b * b := by
    rcases Int.lt_or_le 0 (a - divV a b * b) with z | z
    · exact z
    · exfalso
      have e : a = divV a b * b := by omega
      have h1 : cl a b ≤ divV a b := (cl_le hb).mpr (by omega)
      have h2 := (mul_le hd).mp h1
      have h3 : divV a b * d ≤ c := (mul_le hb).mpr (by
        rw [Int.mul_assoc, Int.mul_comm d b, ← Int.mul_assoc, ← e]; exact hle)
      omega
  have hq : cl a b ≤ divV a b + 1 := (cl_le hb).mpr (by rw [Int.add_mul, Int.one_mul]; omega)
  have hq2 := (mul_le hd).mp hq
  rw [Int.add_mul, Int.one_mul] at hq2
  have s2 : divV a b * d < c := (mul_lt hb).mpr (by
    have h5 := (mul_lt hd).mp (show divV a b * b < a by omega)
    rw [Int.mul_assoc, Int.mul_comm b d, ← Int.mul_assoc] at h5
    omega)
  exact ⟨p0, s1, r2, by omega, by omega, p1⟩
theorem best : ∀ (n : Nat) (a b c d : Int), (b + d).toNat ≤ n → 0 < a → 0 < b → 0 < d → a * d ≤ c * b → Best a b c d (sabN n a b c d)
  | 0, a, b, c, d, hn, ha, hb, hd, hle => by omega
  | n + 1, a, b, c, d, hn, ha, hb, hd, hle => by
    show Best a b c d (if cl a b * d ≤ c then [cl a b] else divV a b :: sabN n d (c - divV a b * d) b (a - divV a b * b))
    split
    · rename_i h
      have h1 : a ≤ cl a b * b := (cl_le hb).mp (Int.le_refl _)
      have h2 : 1 ≤ cl a b := by
        rcases Int.lt_or_le 0 (cl a b) with z | z
        · omega
        · have := (cl_le hb).mp z; rw [Int.zero_mul] at this; omega
      have e1 : (st [cl a b]).1 = cl a b := by show cl a b * 1 + 0 = _; omega
      have e2 : (st [cl a b]).2 = 1 := rfl
      refine ⟨by simp, (fun _ q => nomatch q), fun _ q hq => by rw [List.mem_singleton.mp hq]; exact h2, (fun q hq => by rw [List.mem_singleton.mp hq]; omega), ?_, by rw [e2]; decide, fun u v hv ⟨i1, i2⟩ => ?_⟩
      · rw [e1, e2]
        exact ⟨by rw [Int.mul_one]; exact h1, by rw [Int.mul_one]; exact h⟩
      · rw [e1, e2]
        refine ⟨(cl_le hb).mpr ?_, by omega⟩
        have := Int.mul_le_mul_of_nonneg_left (show 1 ≤ v by omega) (show 0 ≤ a by omega)
        rw [Int.mul_one] at this
        omega
    · rename_i h
      obtain ⟨p0, r1, r2, s1, s2, p1⟩ := step_facts ha hb hd hle h
      generalize hp : divV a b = p at *
      have hle' : d * (a - p * b) ≤ b * (c - p * d) := by
        have e1 : d * (a - p * b) = a * d - p * (b * d) := by rw [Int.mul_sub, Int.mul_comm d a, Int.mul_comm d (p * b), Int.mul_assoc]
        have e2 : b * (c - p * d) = c * b - p * (b * d) := by rw [Int.mul_sub, Int.mul_comm b c, Int.mul_comm b (p * d), Int.mul_assoc, Int.mul_comm d b]
        omega
      have B := best n d (c - p * d) b (a - p * b) (by omega) hd s1 r1 hle'
      generalize sabN n d (c - p * d) b (a - p * b) = l at *
      have hl : Pos l := B.hd (by omega)
      have x1 : 1 ≤ (st l).1 := (st_pos hl).1
      have e1 : (st (p :: l)).1 = p * (st l).1 + (st l).2 := rfl
      have e2 : (st (p :: l)).2 = (st l).1 := rfl
      refine ⟨by simp, hl, fun g q hq => ?_, (fun q hq => by
        rcases List.mem_cons.mp hq with z | z
        · rw [z]; exact p0
        · have := hl q z; omega), ?_, by rw [e2]; exact x1, fun u v hv ⟨i1, i2⟩ => ?_⟩
      · rcases List.mem_cons.mp hq with z | z
        · rw [z]; exact p1 g
        · exact hl q z
      · obtain ⟨j1, j2⟩ := B.isIn
        rw [e1, e2]
        generalize (st l).1 = x at *
        generalize (st l).2 = y at *
        constructor
        · -- a x <= (p x + y) b
          have f1 : x * (a - p * b) = a * x - p * (x * b) := by rw [Int.mul_sub, Int.mul_comm x a, Int.mul_comm x (p * b), Int.mul_assoc, Int.mul_comm b x]
          have f2 : (p * x + y) * b = p * (x * b) + b * y := by rw [Int.add_mul, Int.mul_assoc, Int.mul_comm y b]
          omega
        · have f1 : x * (c - p * d) = c * x - p * (x * d) := by rw [Int.mul_sub, Int.mul_comm x c, Int.mul_comm x (p * d), Int.mul_assoc, Int.mul_comm d x]
          have f2 : (p * x + y) * d = p * (x * d) + d * y := by rw [Int.add_mul, Int.mul_assoc, Int.mul_comm y d]
          omega
      · have hv' : 0 < u - p * v := by
          have g1 := (mul_lt hv).mp (show p * b < a by omega)
          have g2 : p * v * b < u * b := by rw [Int.mul_assoc, Int.mul_comm v b, ← Int.mul_assoc]; omega
          have := (mul_lt hb).mpr g2
          omega
        obtain ⟨m1, m2⟩ := B.min v (u - p * v) hv' ⟨by
          have f1 : d * (u - p * v) = u * d - p * (v * d) := by rw [Int.mul_sub, Int.mul_comm d u, Int.mul_comm d (p * v), Int.mul_assoc]
          have f2 : v * (c - p * d) = c * v - p * (v * d) := by rw [Int.mul_sub, Int.mul_comm v c, Int.mul_comm v (p * d), Int.mul_assoc, Int.mul_comm d v]
          omega, by
          have f1 : v * (a - p * b) = a * v - p * (v * b) := by rw [Int.mul_sub, Int.mul_comm v a, Int.mul_comm v (p * b), Int.mul_assoc, Int.mul_comm b v]
          have f2 : b * (u - p * v) = u * b - p * (v * b) := by rw [Int.mul_sub, Int.mul_comm b u, Int.mul_comm b (p * v), Int.mul_assoc]
          omega⟩
        rw [e1, e2]
        have := Int.mul_le_mul_of_nonneg_left m1 p0
        exact ⟨by omega, m1⟩
theorem grow : ∀ (n : Nat) (l : List Int), l.length ≤ n → Pos l → ((2 ^ (l.length / 2) : Nat) : Int) ≤ (st l).1
  | _, [], _, _ => by decide
  | _, [p], _, h => by
    have := h p List.mem_cons_self
    have e : ((2 ^ ([p].length / 2) : Nat) : Int) = 1 := by rw [show [p].length / 2 = 0 by simp]; rfl
    rw [e]
    show (1 : Int) ≤ p * 1 + 0
    omega
  | n, p :: q :: r, hn, h => by
    obtain ⟨m, rfl⟩ : ∃ m, n = m + 1 := ⟨n - 1, by simp at hn; omega⟩
    have hr : Pos r := fun z hz => h z (List.mem_cons_of_mem _ (List.mem_cons_of_mem _ hz))
    have hp := h p List.mem_cons_self
    have hq := h q (List.mem_cons_of_mem _ List.mem_cons_self)
    have ih := grow m r (by simp at hn; omega) hr
    obtain ⟨x1, y0⟩ := st_pos hr
    have f1 := Int.mul_le_mul_of_nonneg_right hq (show 0 ≤ (st r).1 by omega)
    have f2 := Int.mul_le_mul_of_nonneg_right hp (show 0 ≤ q * (st r).1 + (st r).2 by omega)
    have e : (p :: q :: r).length / 2 = r.length / 2 + 1 := by simp only [List.length_cons]; omega
    rw [e, Nat.pow_succ]
    show _ ≤ p * (q * (st r).1 + (st r).2) + (st r).1
    have e2 : ((2 ^ (r.length / 2) * 2 : Nat) : Int) = 2 * ((2 ^ (r.length / 2) : Nat) : Int) := by omega
    rw [e2]
    omega
theorem mono : ∀ (l : List Int), Pos l → (∀ i, 1 ≤ (st (l.drop i)).1 ∧ (st (l.drop i)).1 ≤ (st l).1 ∧ 0 ≤ (st (l.drop i)).2 ∧ (st (l.drop i)).2 ≤ (st l).1) ∧ ∀ p ∈ l, p ≤ (st l).1
  | [], _ => ⟨fun i => by rw [List.drop_nil]; exact ⟨by decide, by decide, by decide, by decide⟩, fun _ q => nomatch q⟩
  | p :: l, h => by
    have hl : Pos l := fun z hz => h z (List.mem_cons_of_mem _ hz)
    have hp := h p List.mem_cons_self
    obtain ⟨h1, h2⟩ := mono l hl
    obtain ⟨x1, y0⟩ := st_pos hl
    have f1 := Int.mul_le_mul_of_nonneg_right hp (show 0 ≤ (st l).1 by omega)
    have f2 := Int.mul_le_mul_of_nonneg_left x1 (show 0 ≤ p by omega)
    have e : (st (p :: l)).1 = p * (st l).1 + (st l).2 := rfl
    have e2 : (st (p :: l)).2 = (st l).1 := rfl
    refine ⟨fun i => ?_, fun q hq => ?_⟩
    · cases i with
      | zero => rw [List.drop_zero, e, e2]; omega
      | succ i =>
        have := h1 i
        rw [List.drop_succ_cons, e]; omega
    · rcases List.mem_cons.mp hq with z | z
      · rw [z, e]; omega
      · have := h2 q z
        rw [e]; omega
theorem best_pts {a b c d : Int} {l : List Int} (ha : 0 < a) (hb : 0 < b) (hle : a * d ≤ c * b) (sa : Sm a) (sb : b.natAbs < 2 ^ 400) (B : Best a b c d l) : Pts l := by
  obtain ⟨m1, m2⟩ := B.min a b hb ⟨Int.le_refl _, hle⟩
  have u0 : 0 < (st l).1 := by
    have h1 := B.isIn.1
    have h2 := Int.mul_le_mul_of_nonneg_left B.pos (show 0 ≤ a by omega)
    rcases Int.lt_or_le 0 (st l).1 with z | z
    · exact z
    · have := Int.mul_le_mul_of_nonneg_right z (show 0 ≤ b by omega)
      rw [Int.zero_mul] at this
      omega
  have pos := B.pos
  obtain ⟨p, t, rfl⟩ : ∃ p t, l = p :: t := by
    cases hl : l with
    | nil => exact absurd hl B.ne
    | cons p t => exact ⟨p, t, rfl⟩
  have ht : Pos t := B.tl
  obtain ⟨g1, g2⟩ := mono t ht
  have e2 : (st (p :: t)).2 = (st t).1 := rfl
  have e1 : (st (p :: t)).1 = p * (st t).1 + (st t).2 := rfl
  have hp := B.nn p List.mem_cons_self
  obtain ⟨x1, y0⟩ := st_pos ht
  have f2 := Int.mul_le_mul_of_nonneg_left x1 hp
  have sa : a.natAbs < 2 ^ 900 := sa
  have sb9 : b.natAbs < 2 ^ 900 := Nat.lt_of_lt_of_le sb (pw (by decide))
  refine ⟨B.ne, B.tl, fun q hq => ?_, fun i => ?_, ?_⟩
  · show q.natAbs < 2 ^ 900
    rcases List.mem_cons.mp hq with z | z
    · rw [z]; omega
    · have := g2 q z
      have := ht q z
      omega
  · show (st ((p :: t).drop i)).1.natAbs < 2 ^ 900 ∧ (st ((p :: t).drop i)).2.natAbs < 2 ^ 900
    cases i with
    | zero => rw [List.drop_zero]; omega
    | succ i =>
      have := g1 i
      rw [List.drop_succ_cons]; omega
  · have g := grow t.length t (Nat.le_refl _) ht
    have h3 : 2 ^ (t.length / 2) < 2 ^ 400 := by
      have : ((2 ^ (t.length / 2) : Nat) : Int) ≤ b := by omega
      omega
    have h4 := (Nat.pow_lt_pow_iff_right (show 1 < 2 by decide)).mp h3
    rw [List.length_cons]; omega
end K11
set_option exponentiation.threshold 5000
namespace K11
open PySem PySem.Spec PyProof.Rows L2 DX
-- DXSIMP begin
local macro_rules | `(tactic| walk_at "dx") => `(tactic| simp only [b_escs, b_rdTms, b_hardTms, b_softTms, b_esCons, b_opV, b_opL, b_opT, b_eOp, b_rdNil, b_rdCons, b_rdT, b_rdA, b_erS, b_erL, b_eVar, b_eC, b_esNil, b_tTru, b_tBl, b_tAnd, b_tOr, b_tNot, b_eAnd, b_eOr, b_eNot, b_eIf, b_eTup, b_eLst, b_eTupO, b_iR2, k_ints2, b_sExpr, b_eLstO, b_xRaiseF, b_iRev, k_sqdL, k_sqdT, o_listL, o_listT, b_eOpL, k_scOS, b_mvNil, b_mvCons, b_sAppTp, b_erTp, g_hardTp, g_softTp, g_giveTp, k_tpl, k_shTp, b_oSome, b_oNone, b_eSl, b_eMt, b_fn0, b_fnP, b_sRet, b_sAsg, b_gvName, b_gvNil, b_gvCons, b_gvTup, b_gvSub, b_sAsgG, b_sApp, b_sPar, b_sPar3, b_sAppIx, b_sAugI, b_cvsNil, b_cvsCons, b_bindCond, b_condFst, b_condSnd, b_giveT, b_sFor, b_iSq, b_iR1, b_iEnA, wipeE, cYes, at_zero, k_bool, k_int, k_str, k_tup, k_lst, k_list, k_itL, k_itT, k_itSS, k_trN, k_trB, k_trI, k_trSS, k_trL, k_trT, k_scN, k_scB, k_scI, k_scS, k_scL, k_scT, k_shS, k_shL, k_softT, k_hardT, k_cvT, k_softNil, k_softCons, k_hardNil, k_hardCons, g_hard, g_soft, g_cv, g_give, g_hardS, g_hardL, g_softS, g_softL, g_cvS, g_giveS, g_giveL, g_allSh, g_erSh, List.all_cons, List.all_nil, k_retR, k_retN, k_alA, k_hd, k_two, k_three, k_sh, k_odT, k_enS, k_enL, o_addI, o_addS, o_addL, o_sub, o_neg, o_ltI, o_leI, o_gtI, o_geI, o_lenS, o_lenL, o_lenT, o_abs, o_max, o_int, o_ixL, o_ixT, o_ixSS, o_slS, o_slL, o_in1S, o_ni1S, o_eqS, o_neS, o_eqI, o_neI, o_mul, o_div, o_mod, o_pow, o_divmod, z_ble0, z_ble1, z_ble2, z_ble3, z_ble4, z_ble5, z_ble6, z_ble7, z_ble8, z_ble9, z_ble10, z_ble13, z_ble17, S_l, S_len, S_app, es1, es2, startE, sNext, pk, DX.inR, Nat.beq, Nat.ble, List.any_cons, List.any_nil, List.filterMap_cons, List.filterMap_nil, Option.bind_some, Option.bind_none, cond_true, cond_false, decide_true, decide_false, List.map_cons, List.map_nil, List.length_cons, List.length_nil, List.length_map, List.length_set, List.getElem?_cons_zero, List.getElem?_cons_succ, List.cons_append, List.nil_append, List.set_cons_zero, List.set_cons_succ, List.replicate, Nat.reduceAdd, Nat.reduceSub, Nat.zero_add, Int.toNat_natCast, Bool.not_true, Bool.not_false, Bool.or_self, Bool.or_false, Bool.false_or, Bool.and_self, Bool.and_true, Bool.true_and, Bool.and_false, Bool.false_and, Bool.true_or, Bool.or_true, z_some, z_none, z_bind, z_then, z_map, z_mapK, b_eLc, lcStep, forStep, at_0, at_1, at_2, at_3, at_4, at_5, at_m1, ix_0, ix_1, ix_m1, blt_00, blt_0s, blt_12, blt_02, z_ifK, z_guard, z_guardN, z_seqN, z_seqR, z_seqB, z_seqC, z_sSeq, z_sIf, z_forN, z_forC, z_forB, z_forR, r_P1, r_P2, k_condSomeP, k_condNx, k_condEn, k_condSl, k_condPair, k_condTm, k_condSh, k_condI, k_condB, k_condAnd, k_condOr, k_condNot, o_gcd, k_condAndL, k_condOrL, b_jNil, b_jCons, b_eJoin, t_str, str_len, str_empty, Int.cast_ofNat_Int, Int.reduceEq, Int.reduceLT, Int.reduceLE, Int.reduceNeg, Int.reduceAdd, Int.reduceSub, Int.reduceMul, Int.reduceToNat, Int.reducePow, Nat.reduceLT, Nat.reduceLeDiff, Nat.reduceEqDiff, Nat.reduceMul, k_condSelf, x_no, x_raise, x_seqNo, b_xIf, x_inr, x_inl, b_xFn, o_neSelf, o_eqSelf, i_boolN, i_boolB, i_boolI, i_boolS, i_boolL, i_boolT, i_intN, i_intB, i_intI, i_intS, i_intL, i_intT, i_strN, i_strB, i_strI, i_strS, i_strL, i_strT, i_listN, i_listB, i_listI, i_listS, i_listL, i_listT, i_tupleN, i_tupleB, i_tupleI, i_tupleS, i_tupleL, i_tupleT, at_nat, decide_eq_true_eq, decide_eq_false_iff_not, Nat.ble_eq, and_true, true_and, Option.map_some, Option.isSome_some])
local macro_rules | `(tactic| walk_at "dxs") => `(tactic| simp only [b_escs, b_rdTms, b_hardTms, b_softTms, b_esCons, b_opV, b_opL, b_opT, b_eOp, b_rdNil, b_rdCons, b_rdT, b_rdA, b_erS, b_erL, b_eVar, b_eC, b_esNil, b_tTru, b_tBl, b_tAnd, b_tOr, b_tNot, b_eAnd, b_eOr, b_eNot, b_eIf, b_eTup, b_eLst, b_eTupO, b_iR2, k_ints2, b_sExpr, b_eLstO, b_xRaiseF, b_iRev, k_sqdL, k_sqdT, o_listL, o_listT, b_eOpL, k_scOS, b_mvNil, b_mvCons, b_sAppTp, b_erTp, g_hardTp, g_softTp, g_giveTp, k_tpl, k_shTp, b_oSome, b_oNone, b_eSl, b_eMt, b_fn0, b_fnP, b_sRet, b_sAsg, b_gvName, b_gvNil, b_gvCons, b_gvTup, b_gvSub, b_sAsgG, b_sApp, b_sPar, b_sPar3, b_sAppIx, b_sAugI, b_cvsNil, b_cvsCons, b_bindCond, b_condFst, b_condSnd, b_giveT, b_sFor, b_iSq, b_iR1, b_iEnA, wipeE, cYes, at_zero, k_bool, k_int, k_str, k_tup, k_lst, k_list, k_itL, k_itT, k_itSS, k_trN, k_trB, k_trI, k_trSS, k_trL, k_trT, k_scN, k_scB, k_scI, k_scS, k_scL, k_scT, k_shS, k_shL, k_softT, k_hardT, k_cvT, k_softNil, k_softCons, k_hardNil, k_hardCons, g_hard, g_soft, g_cv, g_give, g_hardS, g_hardL, g_softS, g_softL, g_cvS, g_giveS, g_giveL, g_allSh, g_erSh, List.all_cons, List.all_nil, k_retR, k_retN, k_alA, k_hd, k_two, k_three, k_sh, k_odT, k_enS, k_enL, o_addI, o_addS, o_addL, o_sub, o_neg, o_ltI, o_leI, o_gtI, o_geI, o_lenS, o_lenL, o_lenT, o_abs, o_max, o_int, o_ixL, o_ixT, o_ixSS, o_slS, o_slL, o_in1S, o_ni1S, o_eqS, o_neS, o_eqI, o_neI, o_mul, o_div, o_mod, o_pow, o_divmod, z_ble0, z_ble1, z_ble2, z_ble3, z_ble4, z_ble5, z_ble6, z_ble7, z_ble8, z_ble9, z_ble10, z_ble13, z_ble17, S_l, S_len, S_app, es1, es2, startE, sNext, pk, DX.inR, Nat.beq, Nat.ble, List.any_cons, List.any_nil, List.filterMap_cons, List.filterMap_nil, Option.bind_some, Option.bind_none, cond_true, cond_false, decide_true, decide_false, List.map_cons, List.map_nil, List.length_cons, List.length_nil, List.length_map, List.length_set, List.getElem?_cons_zero, List.getElem?_cons_succ, List.cons_append, List.nil_append, List.set_cons_zero, List.set_cons_succ, List.replicate, Nat.reduceAdd, Nat.reduceSub, Nat.zero_add, Int.toNat_natCast, Bool.not_true, Bool.not_false, Bool.or_self, Bool.or_false, Bool.false_or, Bool.and_self, Bool.and_true, Bool.true_and, Bool.and_false, Bool.false_and, Bool.true_or, Bool.or_true, z_some, z_none, z_bind, z_then, z_map, z_mapK, b_eLc, lcStep, forStep, at_0, at_1, at_2, at_3, at_4, at_5, at_m1, ix_0, ix_1, ix_m1, blt_00, blt_0s, blt_12, blt_02, z_ifK, z_guard, z_guardN, z_seqN, z_seqR, z_seqB, z_seqC, z_sSeq, z_sIf, z_forN, z_forC, z_forB, z_forR, r_P1, r_P2, k_condSomeP, k_condNx, k_condEn, k_condSl, k_condPair, k_condTm, k_condSh, k_condI, k_condB, k_condAnd, k_condOr, k_condNot, o_gcd, k_condAndL, k_condOrL, b_jNil, b_jCons, b_eJoin, t_str, str_len, str_empty, Int.cast_ofNat_Int, Int.reduceEq, Int.reduceLT, Int.reduceLE, Int.reduceNeg, Int.reduceAdd, Int.reduceSub, Int.reduceMul, Int.reduceToNat, Int.reducePow, Nat.reduceLT, Nat.reduceLeDiff, Nat.reduceEqDiff, Nat.reduceMul, k_condSelf, x_no, x_raise, x_seqNo, b_xIf, x_inr, x_inl, b_xFn, o_neSelf, o_eqSelf, i_boolN, i_boolB, i_boolI, i_boolS, i_boolL, i_boolT, i_intN, i_intB, i_intI, i_intS, i_intL, i_intT, i_strN, i_strB, i_strI, i_strS, i_strL, i_strT, i_listN, i_listB, i_listI, i_listS, i_listL, i_listT, i_tupleN, i_tupleB, i_tupleI, i_tupleS, i_tupleL, i_tupleT, at_nat, decide_eq_true_eq, decide_eq_false_iff_not, Nat.ble_eq, and_true, true_and, Option.map_some, Option.isSome_some, *])
-- DXSIMP end
def near (f l : Int) : Int := cond (decide (0 < f)) f (cond (decide (l < 0)) l 0)
theorem e_nearest {f l : Int} : mr_nearest_to_nought [.sh (.int f), .sh (.int l)] = some (.sh (.int (near f l))) := by
  refine eq_of_sat ?_
  unfold mr_nearest_to_nought ev_nearest_to_nought near
  walk_at "dx"
  refine Sat.splitD (fun h => ?_) fun h => ?_
  · rw [decide_eq_true (show 0 < f from h)]
    walk_at "dx"
  · rw [decide_eq_false (show ¬0 < f from h)]
    cases hl : decide (l < 0) <;> (walk_at "dx"; rw [hl]; walk_at "dx")
theorem e_lnearest {f l : Int} : mr__law_nearest [.sh (.int f), .sh (.int l)] = some (.sh (.int (near f l))) := by
  refine eq_of_sat ?_
  unfold mr__law_nearest ev__law_nearest near
  walk_at "dx"
  refine Sat.splitD (fun h => ?_) fun h => ?_
  · rw [decide_eq_true (show 0 < f from h)]
    walk_at "dx"
  · rw [decide_eq_false (show ¬0 < f from h)]
    cases hl : decide (l < 0) <;> (walk_at "dx"; rw [hl]; walk_at "dx")
theorem sgn_gt (x : Int) : 0 < sgn x ↔ 0 < x := by
  rcases Int.lt_trichotomy x 0 with h | h | h
  · rw [sgn_neg h]; omega
  · rw [h]; decide
  · rw [sgn_pos h]; omega
theorem cl_Sm {a b : Int} (hb : 0 < b) (ha : a.natAbs < 2 ^ 400) : (cl a b).natAbs < 2 ^ 401 := by
  unfold cl
  rw [Int.natAbs_neg]
  exact div_le hb (by rw [Int.natAbs_neg]; exact ha)
theorem sm400 {a : Int} {m : Nat} (h : a.natAbs < 2 ^ m) (l : m ≤ 900) : Sm a := Nat.lt_of_lt_of_le h (pw l)
theorem e_simplest_above {a b c d : Int} (ha : 0 < a) (hle : a * d ≤ c * b) (ok1 : Ok 400 (a, b)) (ok2 : Ok 400 (c, d)) :
    mr_simplest_above [.sh (frD (a, b)), .sh (frD (c, d))] = some (.sh (frD (st (sabN (b + d).toNat a b c d)))) := by
  have hb : 0 < b := ok1.2.2.1
  have hd : 0 < d := ok2.2.2.1
  have B := best (b + d).toNat a b c d (Nat.le_refl _) ha hb hd hle
  have P := best_pts ha hb hle (sm400 ok1.1 (by decide)) ok1.2.1 B
  have hlen : (b + d).toNat < 2 ^ 4000 := by
    have h1 : b.natAbs < 2 ^ 400 := ok1.2.1
    have h2 : d.natAbs < 2 ^ 400 := ok2.2.1
    have h3 : (b + d).natAbs < 2 ^ 401 := nat_add h1 h2
    have := lt4 h3 (by decide)
    omega
  generalize hL : sabN (b + d).toNat a b c d = L at *
  refine eq_of_sat ?_
  unfold mr_simplest_above ev_simplest_above
  walk_at "dx"
  refine Sat.while (fun n os => ∃ (a b c d : Int) (l : List Int) (o : Option OD), 0 < a ∧ a * d ≤ c * b ∧ Ok 400 (a, b) ∧ Ok 400 (c, d) ∧ (b + d).toNat ≤ n ∧ l ++ sabN n a b c d = L ∧ os = [some (.sh (frD (a, b))), some (.sh (frD (c, d))), some (intsO l), o]) (b + d).toNat (fuel_of hlen) ⟨a, b, c, d, [], none, ha, hle, ok1, ok2, Nat.le_refl _, hL, rfl⟩ (fun n os ⟨a, b, c, d, l, o, ha, hle, ok1, ok2, hn, hl, e⟩ => ?_)
  clear hL hlen B
  subst e
  have hb : 0 < b := ok1.2.2.1
  have hd : 0 < d := ok2.2.2.1
  obtain ⟨m, rfl⟩ : ∃ m, n = m + 1 := ⟨n - 1, by omega⟩
  have hb9 : Sm b := sm400 ok1.2.1 (by decide)
  have hd9 : Sm d := sm400 ok2.2.1 (by decide)
  have ha9 : Sm a := sm400 ok1.1 (by decide)
  have hc9 : Sm c := sm400 ok2.1 (by decide)
  have one : Sm 1 := sm400 (m := 1) (by decide) (by decide)
  have hcl : Sm (cl a b) := sm400 (cl_Sm hb ok1.1) (by decide)
  have q1 : mr_ceiling_of [.sh (frD (a, b))] = some (.sh (.int (cl a b))) := e_ceil (by omega) hb9
  have q2 : mr_compare [.sh (frD (cl a b, 1)), .sh (frD (c, d))] = some (.sh (.int (sgn (cl a b * d - c * 1)))) := e_compare hcl one hc9 hd9
  have hlen : l.length < 1000 + 1 := by
    have h1 := congrArg List.length hl
    have h2 := P.len
    rw [List.length_append] at h1
    omega
  unfold intsO
  walk_at "dx"
  rw [q1]
  walk_at "dx"
  rw [e_whole]
  walk_at "dx"
  rw [q2]
  walk_at "dx"
  refine ⟨fun h => ?_, fun h => ?_⟩
  · have h : cl a b * d ≤ c := by rw [sgn_gt] at h; omega
    have hl : l ++ [cl a b] = L := by
      rw [← hl]
      show _ = l ++ (if cl a b * d ≤ c then [cl a b] else _)
      rw [if_pos h]
    rw [q1]
    walk_at "dx"
    refine ⟨Nat.ble_eq_true_of_le (Nat.succ_le_of_lt (Nat.lt_of_lt_of_le hlen (by decide))), ?_⟩
    have e : PyData.list (((l.map fun q => OD.sh (.int q)) ++ [OD.sh (.int (cl a b))]).map OD.er) = intsD L := by
      rw [← hl]; unfold intsD
      rw [List.map_append, List.map_append, List.map_map]; rfl
    rw [e, e_of_parts P]
    walk_at "dx"
  · have h : ¬cl a b * d ≤ c := by rw [sgn_gt] at h; omega
    obtain ⟨p0, r1, r2, s1, s2, p1⟩ := step_facts ha hb hd hle h
    have hl : l ++ divV a b :: sabN m d (c - divV a b * d) b (a - divV a b * b) = L := by
      rw [← hl]
      show _ = l ++ (if cl a b * d ≤ c then _ else divV a b :: sabN m d (c - divV a b * d) b (a - divV a b * b))
      rw [if_neg h]
    have q3 : mr_floor_of [.sh (frD (a, b))] = some (.sh (.int (divV a b))) := e_floor (by omega) hb9
    have hp9 : Sm (divV a b) := sm400 (div_le hb ok1.1) (by decide)
    have q4 : mr_minus [.sh (frD (c, d)), .sh (frD (divV a b, 1))] = some (.sh (frD (c - divV a b * d, d))) := by
      have := e_minus (a := c) (b := d) (c := divV a b) (d := 1) (by omega) (by decide) hc9 hd9 hp9 one
      rw [Int.mul_one, Int.mul_one, mk_self hd (by
        rw [show c - divV a b * d = -divV a b * d + c by rw [Int.neg_mul]; omega, gcdI_add]; exact ok2.2.2.2)] at this
      exact this
    have q5 : mr_minus [.sh (frD (a, b)), .sh (frD (divV a b, 1))] = some (.sh (frD (a - divV a b * b, b))) := by
      have := e_minus (a := a) (b := b) (c := divV a b) (d := 1) (by omega) (by decide) ha9 hb9 hp9 one
      rw [Int.mul_one, Int.mul_one, mk_self hb (by
        rw [show a - divV a b * b = -divV a b * b + a by rw [Int.neg_mul]; omega, gcdI_add]; exact ok1.2.2.2)] at this
      exact this
    have g1 : gcdI d (c - divV a b * d) = 1 := by
      rw [gcdI_comm, show c - divV a b * d = -divV a b * d + c by rw [Int.neg_mul]; omega, gcdI_add]; exact ok2.2.2.2
    have g2 : gcdI b (a - divV a b * b) = 1 := by
      rw [gcdI_comm, show a - divV a b * b = -divV a b * b + a by rw [Int.neg_mul]; omega, gcdI_add]; exact ok1.2.2.2
    have z1 : (c - divV a b * d).natAbs < 2 ^ 400 := by have : d.natAbs < 2 ^ 400 := ok2.2.1; omega
    have z2 : (a - divV a b * b).natAbs < 2 ^ 400 := by have : b.natAbs < 2 ^ 400 := ok1.2.1; omega
    have q6 : mr_over [.sh (.tuple [.int 1, .int 1]), .sh (frD (c - divV a b * d, d))] = some (.sh (frD (d, c - divV a b * d))) := by
      have := e_over (a := 1) (b := 1) (c := c - divV a b * d) (d := d) (by decide) (by omega) one one (sm400 z1 (by decide)) hd9
      rw [Int.one_mul, Int.one_mul, mk_self s1 g1] at this
      exact this
    have q7 : mr_over [.sh (.tuple [.int 1, .int 1]), .sh (frD (a - divV a b * b, b))] = some (.sh (frD (b, a - divV a b * b))) := by
      have := e_over (a := 1) (b := 1) (c := a - divV a b * b) (d := b) (by decide) (by omega) one one (sm400 z2 (by decide)) hb9
      rw [Int.one_mul, Int.one_mul, mk_self r1 g2] at this
      exact this
    rw [q3]
    walk_at "dx"
    rw [e_whole]
    walk_at "dx"
    rw [show opIx [frD (divV a b, 1), .int 0] = some (.val (.int (divV a b))) from rfl]
    walk_at "dx"
    refine ⟨Nat.ble_eq_true_of_le (Nat.succ_le_of_lt (Nat.lt_of_lt_of_le hlen (by decide))), ?_⟩
    rw [q4]
    walk_at "dx"
    rw [q6]
    walk_at "dx"
    rw [q5]
    walk_at "dx"
    rw [q7]
    walk_at "dx"
    have hle' : d * (a - divV a b * b) ≤ b * (c - divV a b * d) := by
      generalize divV a b = p
      have e1 : d * (a - p * b) = a * d - p * (b * d) := by rw [Int.mul_sub, Int.mul_comm d a, Int.mul_comm d (p * b), Int.mul_assoc]
      have e2 : b * (c - p * d) = c * b - p * (b * d) := by rw [Int.mul_sub, Int.mul_comm b c, Int.mul_comm b (p * d), Int.mul_assoc, Int.mul_comm d b]
      omega
    exact ⟨m, by omega, d, c - divV a b * d, b, a - divV a b * b, l ++ [divV a b], _, hd, hle', ⟨ok2.2.1, z1, s1, g1⟩, ⟨ok1.2.1, z2, r1, g2⟩, by omega, by rw [List.append_assoc]; exact hl, by rw [List.map_append]; rfl⟩
end K11
set_option exponentiation.threshold 5000
namespace K11
open PySem PySem.Spec PyProof.Rows L2 DX
-- DXSIMP begin
local macro_rules | `(tactic| walk_at "dx") => `(tactic| simp only [b_escs, b_rdTms, b_hardTms, b_softTms, b_esCons, b_opV, b_opL, b_opT, b_eOp, b_rdNil, b_rdCons, b_rdT, b_rdA, b_erS, b_erL, b_eVar, b_eC, b_esNil, b_tTru, b_tBl, b_tAnd, b_tOr, b_tNot, b_eAnd, b_eOr, b_eNot, b_eIf, b_eTup, b_eLst, b_eTupO, b_iR2, k_ints2, b_sExpr, b_eLstO, b_xRaiseF, b_iRev, k_sqdL, k_sqdT, o_listL, o_listT, b_eOpL, k_scOS, b_mvNil, b_mvCons, b_sAppTp, b_erTp, g_hardTp, g_softTp, g_giveTp, k_tpl, k_shTp, b_oSome, b_oNone, b_eSl, b_eMt, b_fn0, b_fnP, b_sRet, b_sAsg, b_gvName, b_gvNil, b_gvCons, b_gvTup, b_gvSub, b_sAsgG, b_sApp, b_sPar, b_sPar3, b_sAppIx, b_sAugI, b_cvsNil, b_cvsCons, b_bindCond, b_condFst, b_condSnd, b_giveT, b_sFor, b_iSq, b_iR1, b_iEnA, wipeE, cYes, at_zero, k_bool, k_int, k_str, k_tup, k_lst, k_list, k_itL, k_itT, k_itSS, k_trN, k_trB, k_trI, k_trSS, k_trL, k_trT, k_scN, k_scB, k_scI, k_scS, k_scL, k_scT, k_shS, k_shL, k_softT, k_hardT, k_cvT, k_softNil, k_softCons, k_hardNil, k_hardCons, g_hard, g_soft, g_cv, g_give, g_hardS, g_hardL, g_softS, g_softL, g_cvS, g_giveS, g_giveL, g_allSh, g_erSh, List.all_cons, List.all_nil, k_retR, k_retN, k_alA, k_hd, k_two, k_three, k_sh, k_odT, k_enS, k_enL, o_addI, o_addS, o_addL, o_sub, o_neg, o_ltI, o_leI, o_gtI, o_geI, o_lenS, o_lenL, o_lenT, o_abs, o_max, o_int, o_ixL, o_ixT, o_ixSS, o_slS, o_slL, o_in1S, o_ni1S, o_eqS, o_neS, o_eqI, o_neI, o_mul, o_div, o_mod, o_pow, o_divmod, z_ble0, z_ble1, z_ble2, z_ble3, z_ble4, z_ble5, z_ble6, z_ble7, z_ble8, z_ble9, z_ble10, z_ble13, z_ble17, S_l, S_len, S_app, es1, es2, startE, sNext, pk, DX.inR, Nat.beq, Nat.ble, List.any_cons, List.any_nil, List.filterMap_cons, List.filterMap_nil, Option.bind_some, Option.bind_none, cond_true, cond_false, decide_true, decide_false, List.map_cons, List.map_nil, List.length_cons, List.length_nil, List.length_map, List.length_set, List.getElem?_cons_zero, List.getElem?_cons_succ, List.cons_append, List.nil_append, List.set_cons_zero, List.set_cons_succ, List.replicate, Nat.reduceAdd, Nat.reduceSub, Nat.zero_add, Int.toNat_natCast, Bool.not_true, Bool.not_false, Bool.or_self, Bool.or_false, Bool.false_or, Bool.and_self, Bool.and_true, Bool.true_and, Bool.and_false, Bool.false_and, Bool.true_or, Bool.or_true, z_some, z_none, z_bind, z_then, z_map, z_mapK, b_eLc, lcStep, forStep, at_0, at_1, at_2, at_3, at_4, at_5, at_m1, ix_0, ix_1, ix_m1, blt_00, blt_0s, blt_12, blt_02, z_ifK, z_guard, z_guardN, z_seqN, z_seqR, z_seqB, z_seqC, z_sSeq, z_sIf, z_forN, z_forC, z_forB, z_forR, r_P1, r_P2, k_condSomeP, k_condNx, k_condEn, k_condSl, k_condPair, k_condTm, k_condSh, k_condI, k_condB, k_condAnd, k_condOr, k_condNot, o_gcd, k_condAndL, k_condOrL, b_jNil, b_jCons, b_eJoin, t_str, str_len, str_empty, Int.cast_ofNat_Int, Int.reduceEq, Int.reduceLT, Int.reduceLE, Int.reduceNeg, Int.reduceAdd, Int.reduceSub, Int.reduceMul, Int.reduceToNat, Int.reducePow, Nat.reduceLT, Nat.reduceLeDiff, Nat.reduceEqDiff, Nat.reduceMul, k_condSelf, x_no, x_raise, x_seqNo, b_xIf, x_inr, x_inl, b_xFn, o_neSelf, o_eqSelf, i_boolN, i_boolB, i_boolI, i_boolS, i_boolL, i_boolT, i_intN, i_intB, i_intI, i_intS, i_intL, i_intT, i_strN, i_strB, i_strI, i_strS, i_strL, i_strT, i_listN, i_listB, i_listI, i_listS, i_listL, i_listT, i_tupleN, i_tupleB, i_tupleI, i_tupleS, i_tupleL, i_tupleT, at_nat, decide_eq_true_eq, decide_eq_false_iff_not, Nat.ble_eq, and_true, true_and, Option.map_some, Option.isSome_some])
local macro_rules | `(tactic| walk_at "dxs") => `(tactic| simp only [b_escs, b_rdTms, b_hardTms, b_softTms, b_esCons, b_opV, b_opL, b_opT, b_eOp, b_rdNil, b_rdCons, b_rdT, b_rdA, b_erS, b_erL, b_eVar, b_eC, b_esNil, b_tTru, b_tBl, b_tAnd, b_tOr, b_tNot, b_eAnd, b_eOr, b_eNot, b_eIf, b_eTup, b_eLst, b_eTupO, b_iR2, k_ints2, b_sExpr, b_eLstO, b_xRaiseF, b_iRev, k_sqdL, k_sqdT, o_listL, o_listT, b_eOpL, k_scOS, b_mvNil, b_mvCons, b_sAppTp, b_erTp, g_hardTp, g_softTp, g_giveTp, k_tpl, k_shTp, b_oSome, b_oNone, b_eSl, b_eMt, b_fn0, b_fnP, b_sRet, b_sAsg, b_gvName, b_gvNil, b_gvCons, b_gvTup, b_gvSub, b_sAsgG, b_sApp, b_sPar, b_sPar3, b_sAppIx, b_sAugI, b_cvsNil, b_cvsCons, b_bindCond, b_condFst, b_condSnd, b_giveT, b_sFor, b_iSq, b_iR1, b_iEnA, wipeE, cYes, at_zero, k_bool, k_int, k_str, k_tup, k_lst, k_list, k_itL, k_itT, k_itSS, k_trN, k_trB, k_trI, k_trSS, k_trL, k_trT, k_scN, k_scB, k_scI, k_scS, k_scL, k_scT, k_shS, k_shL, k_softT, k_hardT, k_cvT, k_softNil, k_softCons, k_hardNil, k_hardCons, g_hard, g_soft, g_cv, g_give, g_hardS, g_hardL, g_softS, g_softL, g_cvS, g_giveS, g_giveL, g_allSh, g_erSh, List.all_cons, List.all_nil, k_retR, k_retN, k_alA, k_hd, k_two, k_three, k_sh, k_odT, k_enS, k_enL, o_addI, o_addS, o_addL, o_sub, o_neg, o_ltI, o_leI, o_gtI, o_geI, o_lenS, o_lenL, o_lenT, o_abs, o_max, o_int, o_ixL, o_ixT, o_ixSS, o_slS, o_slL, o_in1S, o_ni1S, o_eqS, o_neS, o_eqI, o_neI, o_mul, o_div, o_mod, o_pow, o_divmod, z_ble0, z_ble1, z_ble2, z_ble3, z_ble4, z_ble5, z_ble6, z_ble7, z_ble8, z_ble9, z_ble10, z_ble13, z_ble17, S_l, S_len, S_app, es1, es2, startE, sNext, pk, DX.inR, Nat.beq, Nat.ble, List.any_cons, List.any_nil, List.filterMap_cons, List.filterMap_nil, Option.bind_some, Option.bind_none, cond_true, cond_false, decide_true, decide_false, List.map_cons, List.map_nil, List.length_cons, List.length_nil, List.length_map, List.length_set, List.getElem?_cons_zero, List.getElem?_cons_succ, List.cons_append, List.nil_append, List.set_cons_zero, List.set_cons_succ, List.replicate, Nat.reduceAdd, Nat.reduceSub, Nat.zero_add, Int.toNat_natCast, Bool.not_true, Bool.not_false, Bool.or_self, Bool.or_false, Bool.false_or, Bool.and_self, Bool.and_true, Bool.true_and, Bool.and_false, Bool.false_and, Bool.true_or, Bool.or_true, z_some, z_none, z_bind, z_then, z_map, z_mapK, b_eLc, lcStep, forStep, at_0, at_1, at_2, at_3, at_4, at_5, at_m1, ix_0, ix_1, ix_m1, blt_00, blt_0s, blt_12, blt_02, z_ifK, z_guard, z_guardN, z_seqN, z_seqR, z_seqB, z_seqC, z_sSeq, z_sIf, z_forN, z_forC, z_forB, z_forR, r_P1, r_P2, k_condSomeP, k_condNx, k_condEn, k_condSl, k_condPair, k_condTm, k_condSh, k_condI, k_condB, k_condAnd, k_condOr, k_condNot, o_gcd, k_condAndL, k_condOrL, b_jNil, b_jCons, b_eJoin, t_str, str_len, str_empty, Int.cast_ofNat_Int, Int.reduceEq, Int.reduceLT, Int.reduceLE, Int.reduceNeg, Int.reduceAdd, Int.reduceSub, Int.reduceMul, Int.reduceToNat, Int.reducePow, Nat.reduceLT, Nat.reduceLeDiff, Nat.reduceEqDiff, Nat.reduceMul, k_condSelf, x_no, x_raise, x_seqNo, b_xIf, x_inr, x_inl, b_xFn, o_neSelf, o_eqSelf, i_boolN, i_boolB, i_boolI, i_boolS, i_boolL, i_boolT, i_intN, i_intB, i_intI, i_intS, i_intL, i_intT, i_strN, i_strB, i_strI, i_strS, i_strL, i_strT, i_listN, i_listB, i_listI, i_listS, i_listL, i_listT, i_tupleN, i_tupleB, i_tupleI, i_tupleS, i_tupleL, i_tupleT, at_nat, decide_eq_true_eq, decide_eq_false_iff_not, Nat.ble_eq, and_true, true_and, Option.map_some, Option.isSome_some, *])
-- DXSIMP end
/-! ### the simplest fraction between two, plainly -/
def sim (a b c d : Int) : Fr := if 0 < a then st (sabN (b + d).toNat a b c d) else if 0 ≤ c then (0, 1) else (-(st (sabN (d + b).toNat (-c) d (-a) b)).1, (st (sabN (d + b).toNat (-c) d (-a) b)).2)
/-- some whole over v lies between -/
def Has (a b c d v : Int) : Prop := cl (a * v) b ≤ divV (c * v) d
theorem has_of {a b c d u v : Int} (hb : 0 < b) (hd : 0 < d) (h : In a b c d u v) : Has a b c d v := Int.le_trans ((cl_le hb).mpr h.1) ((le_fl hd).mpr h.2)
theorem of_has {a b c d v : Int} (hb : 0 < b) (hd : 0 < d) (h : Has a b c d v) : In a b c d (cl (a * v) b) v ∧ In a b c d (divV (c * v) d) v := by
  refine ⟨⟨(cl_le hb).mp (Int.le_refl _), (le_fl hd).mp h⟩, ⟨(cl_le hb).mp h, (le_fl hd).mp (Int.le_refl _)⟩⟩
structure Simp (a b c d : Int) (z : Fr) : Prop where
  pos : 0 < z.2
  gcd : gcdI z.1 z.2 = 1
  has : Has a b c d z.2
  nr : near (cl (a * z.2) b) (divV (c * z.2) d) = z.1
  min : ∀ u v, 0 < v → In a b c d u v → z.2 ≤ v
theorem Simp.not {a b c d : Int} {z : Fr} (h : Simp a b c d z) (hb : 0 < b) (hd : 0 < d) {v : Int} (h0 : 0 < v) (h1 : v < z.2) : ¬Has a b c d v := fun g => by
  have := h.min _ v h0 (of_has hb hd g).1
  omega
theorem near_pos {f l : Int} (h : 0 < f) : near f l = f := by unfold near; rw [decide_eq_true h]; rfl
theorem near_neg {f l : Int} (h : ¬0 < f) (h2 : l < 0) : near f l = l := by unfold near; rw [decide_eq_false h, decide_eq_true h2]; rfl
theorem near_0 {f l : Int} (h : ¬0 < f) (h2 : ¬l < 0) : near f l = 0 := by unfold near; rw [decide_eq_false h, decide_eq_false h2]; rfl
theorem sim_ok {a b c d : Int} (hb : 0 < b) (hd : 0 < d) (hle : a * d ≤ c * b) : Simp a b c d (sim a b c d) := by
  unfold sim
  split
  · rename_i ha
    have B := best (b + d).toNat a b c d (Nat.le_refl _) ha hb hd hle
    generalize sabN (b + d).toNat a b c d = L at *
    have pos := B.pos
    have g := st_gcd L
    have H := has_of hb hd B.isIn
    obtain ⟨i1, i2⟩ := of_has hb hd H
    obtain ⟨m1, _⟩ := B.min _ _ (by omega) i1
    have m2 := (cl_le (u := (st L).1) hb).mpr B.isIn.1
    refine ⟨by omega, g, H, ?_, fun u v hv h => (B.min u v hv h).2⟩
    have hx : 0 < (st L).1 := by
      have h1 := B.isIn.1
      have h2 := Int.mul_le_mul_of_nonneg_left B.pos (show 0 ≤ a by omega)
      rcases Int.lt_or_le 0 (st L).1 with z | z
      · exact z
      · have := Int.mul_le_mul_of_nonneg_right z (show 0 ≤ b by omega)
        rw [Int.zero_mul] at this
        omega
    rw [near_pos (by omega)]
    omega
  · rename_i ha
    split
    · rename_i hc
      have h1 : cl (a * 1) b ≤ 0 := (cl_le hb).mpr (by rw [Int.zero_mul]; omega)
      have h2 : 0 ≤ divV (c * 1) d := (le_fl hd).mpr (by rw [Int.zero_mul]; omega)
      refine ⟨by decide, by decide, Int.le_trans h1 h2, near_0 (show ¬0 < cl (a * 1) b by omega) (show ¬divV (c * 1) d < 0 by omega), fun u v hv _ => ?_⟩
      show (1 : Int) ≤ v
      omega
    · rename_i hc
      have hle' : -c * b ≤ -a * d := by rw [Int.neg_mul, Int.neg_mul]; omega
      have B := best (d + b).toNat (-c) d (-a) b (Nat.le_refl _) (by omega) hd hb hle'
      generalize sabN (d + b).toNat (-c) d (-a) b = L at *
      have pos := B.pos
      have g := st_gcd L
      have turn : ∀ u v, In a b c d u v → In (-c) d (-a) b (-u) v := fun u v ⟨i1, i2⟩ => ⟨by rw [Int.neg_mul, Int.neg_mul]; omega, by rw [Int.neg_mul, Int.neg_mul]; omega⟩
      have back : In a b c d (-(st L).1) (st L).2 := by
        obtain ⟨j1, j2⟩ := B.isIn
        rw [Int.neg_mul] at j1 j2
        exact ⟨by rw [Int.neg_mul]; omega, by rw [Int.neg_mul]; omega⟩
      have H := has_of hb hd back
      obtain ⟨i1, i2⟩ := of_has hb hd H
      obtain ⟨m1, _⟩ := B.min _ _ (by omega) (turn _ _ i2)
      have m2 := (le_fl (u := -(st L).1) hd).mpr back.2
      have neg : divV (c * (st L).2) d < 0 := by
        rcases Int.lt_or_le (divV (c * (st L).2) d) 0 with z | z
        · exact z
        · have h1 := (le_fl hd).mp z
          rw [Int.zero_mul] at h1
          have := Int.mul_neg_of_neg_of_pos (show c < 0 by omega) (show 0 < (st L).2 by omega)
          omega
      have H' : cl (a * (st L).2) b ≤ divV (c * (st L).2) d := H
      refine ⟨by show 0 < (st L).2; omega, ?_, H, ?_, fun u v hv h => (B.min (-u) v hv (turn u v h)).2⟩
      · show gcdI (-(st L).1) (st L).2 = 1
        unfold gcdI at g ⊢
        rw [Int.natAbs_neg]; exact g
      · show near (cl (a * (st L).2) b) (divV (c * (st L).2) d) = -(st L).1
        rw [near_neg (by omega) neg]
        omega
/-! ### the defs that tell it -/
theorem e_want {a b c d : Int} (hle : a * d ≤ c * b) (s1 : Sm a) (s2 : Sm b) (s3 : Sm c) (s4 : Sm d) : mr_want_in_order [.sh (frD (a, b)), .sh (frD (c, d))] = some (.sh .none) := by
  have q : mr_compare [.sh (frD (a, b)), .sh (frD (c, d))] = some (.sh (.int (sgn (a * d - c * b)))) := e_compare s1 s2 s3 s4
  have h : ¬0 < sgn (a * d - c * b) := by rw [sgn_gt]; omega
  refine inL_eq (inL_mx ?_ ?_)
  · unfold xv_want_in_order
    have hd : decide (sgn (a * d - c * b) > 0) = false := decide_eq_false h
    clear hle s1 s2 s3 s4 h
    walk_at "dxs"
  · refine eq_of_sat ?_
    unfold ev_want_in_order
    walk_at "dx"
    rw [q]
    walk_at "dx"
    exact h
theorem x_want {a b c d : Int} (hle : c * b < a * d) (s1 : Sm a) (s2 : Sm b) (s3 : Sm c) (s4 : Sm d) : mx_want_in_order [.sh (frD (a, b)), .sh (frD (c, d))] = some (.inr (3, [])) := by
  have q : mr_compare [.sh (frD (a, b)), .sh (frD (c, d))] = some (.sh (.int (sgn (a * d - c * b)))) := e_compare s1 s2 s3 s4
  have h : 0 < sgn (a * d - c * b) := by rw [sgn_gt]; omega
  refine inR_mx (os' := [some (.sh (frD (a, b))), some (.sh (frD (c, d)))]) ?_
  unfold xv_want_in_order
  have hd : decide (sgn (a * d - c * b) > 0) = true := decide_eq_true h
  clear hle s1 s2 s3 s4 h
  walk_at "dxs"
theorem e_simplest {a b c d : Int} (hle : a * d ≤ c * b) (ok1 : Ok 400 (a, b)) (ok2 : Ok 400 (c, d)) : mr_simplest [.sh (frD (a, b)), .sh (frD (c, d))] = some (.sh (frD (sim a b c d))) := by
  have s1 : Sm a := sm400 ok1.1 (by decide)
  have s2 : Sm b := sm400 ok1.2.1 (by decide)
  have s3 : Sm c := sm400 ok2.1 (by decide)
  have s4 : Sm d := sm400 ok2.2.1 (by decide)
  have hb : 0 < b := ok1.2.2.1
  have hd : 0 < d := ok2.2.2.1
  have q := inL_some (e_want hle s1 s2 s3 s4)
  have q0 := e_want hle s1 s2 s3 s4
  have g1 : mr_sign_of [.sh (frD (a, b))] = some (.sh (.int (sgn a))) := e_sign
  have g2 : mr_sign_of [.sh (frD (c, d))] = some (.sh (.int (sgn c))) := e_sign
  refine inL_eq (inL_mx ?_ ?_)
  · unfold xv_simplest
    clear hle ok1 ok2 s1 s2 s3 s4 hb hd q0 g1 g2
    walk_at "dxs"
  · refine eq_of_sat ?_
    unfold ev_simplest
    walk_at "dx"
    rw [q0]
    walk_at "dx"
    rw [g1]
    walk_at "dx"
    by_cases ha : 0 < a
    · have hc : 0 < c := by
        rcases Int.lt_or_le 0 c with z | z
        · exact z
        · have h1 := Int.mul_pos ha hd
          have := Int.mul_le_mul_of_nonneg_right z (show 0 ≤ b by omega)
          rw [Int.zero_mul] at this
          omega
      have q3 := e_simplest_above ha hle ok1 ok2
      have es : sim a b c d = st (sabN (b + d).toNat a b c d) := if_pos ha
      rw [decide_eq_false (show ¬sgn a ≤ 0 by rw [sgn_pos ha]; decide)]
      walk_at "dx"
      rw [g2]
      walk_at "dx"
      rw [decide_eq_false (show ¬sgn c < 0 by rw [sgn_pos hc]; decide)]
      walk_at "dx"
      rw [q3]
      walk_at "dx"
      rw [es]
    · have h1 : sgn a ≤ 0 := by
        rcases Int.lt_or_le a 0 with z | z
        · rw [sgn_neg z]; decide
        · rw [show a = 0 by omega]; decide
      rw [decide_eq_true h1]
      walk_at "dx"
      rw [g2]
      walk_at "dx"
      by_cases hc : 0 ≤ c
      · have h2 : sgn c ≥ 0 := by
          rcases Int.lt_or_le 0 c with z | z
          · rw [sgn_pos z]; decide
          · rw [show c = 0 by omega]; decide
        have es : sim a b c d = (0, 1) := by unfold sim; rw [if_neg ha, if_pos hc]
        rw [decide_eq_true h2]
        walk_at "dx"
        rw [es]; rfl
      · have h2 : ¬sgn c ≥ 0 := by rw [sgn_neg (by omega)]; decide
        have hle' : -c * b ≤ -a * d := by rw [Int.neg_mul, Int.neg_mul]; omega
        have neg : ∀ {x y : Int}, Ok 400 (x, y) → Ok 400 (-x, y) := fun {x y} h => ⟨by show (-x).natAbs < _; rw [Int.natAbs_neg]; exact h.1, h.2.1, h.2.2.1, by
          have := h.2.2.2
          show gcdI (-x) y = 1
          unfold gcdI at this ⊢
          rw [Int.natAbs_neg]; exact this⟩
        have q3 := e_simplest_above (show 0 < -c by omega) hle' (neg ok2) (neg ok1)
        have o1 : mr_opposite [.sh (frD (a, b))] = some (.sh (frD (-a, b))) := e_opposite
        have o2 : mr_opposite [.sh (frD (c, d))] = some (.sh (frD (-c, d))) := e_opposite
        have o3 : mr_opposite [.sh (frD (st (sabN (d + b).toNat (-c) d (-a) b)))] = some (.sh (frD (sim a b c d))) := by
          unfold sim
          rw [if_neg ha, if_neg hc]
          exact e_opposite
        rw [decide_eq_false h2]
        walk_at "dx"
        rw [g2]
        walk_at "dx"
        rw [decide_eq_true (show sgn c < 0 by rw [sgn_neg (by omega)]; decide)]
        walk_at "dx"
        rw [o2]
        walk_at "dx"
        rw [o1]
        walk_at "dx"
        rw [q3]
        walk_at "dx"
        rw [o3]
        walk_at "dx"
end K11
set_option exponentiation.threshold 5000
namespace K11
open PySem PySem.Spec PyProof.Rows L2 DX
-- DXSIMP begin
local macro_rules | `(tactic| walk_at "dx") => `(tactic| simp only [b_escs, b_rdTms, b_hardTms, b_softTms, b_esCons, b_opV, b_opL, b_opT, b_eOp, b_rdNil, b_rdCons, b_rdT, b_rdA, b_erS, b_erL, b_eVar, b_eC, b_esNil, b_tTru, b_tBl, b_tAnd, b_tOr, b_tNot, b_eAnd, b_eOr, b_eNot, b_eIf, b_eTup, b_eLst, b_eTupO, b_iR2, k_ints2, b_sExpr, b_eLstO, b_xRaiseF, b_iRev, k_sqdL, k_sqdT, o_listL, o_listT, b_eOpL, k_scOS, b_mvNil, b_mvCons, b_sAppTp, b_erTp, g_hardTp, g_softTp, g_giveTp, k_tpl, k_shTp, b_oSome, b_oNone, b_eSl, b_eMt, b_fn0, b_fnP, b_sRet, b_sAsg, b_gvName, b_gvNil, b_gvCons, b_gvTup, b_gvSub, b_sAsgG, b_sApp, b_sPar, b_sPar3, b_sAppIx, b_sAugI, b_cvsNil, b_cvsCons, b_bindCond, b_condFst, b_condSnd, b_giveT, b_sFor, b_iSq, b_iR1, b_iEnA, wipeE, cYes, at_zero, k_bool, k_int, k_str, k_tup, k_lst, k_list, k_itL, k_itT, k_itSS, k_trN, k_trB, k_trI, k_trSS, k_trL, k_trT, k_scN, k_scB, k_scI, k_scS, k_scL, k_scT, k_shS, k_shL, k_softT, k_hardT, k_cvT, k_softNil, k_softCons, k_hardNil, k_hardCons, g_hard, g_soft, g_cv, g_give, g_hardS, g_hardL, g_softS, g_softL, g_cvS, g_giveS, g_giveL, g_allSh, g_erSh, List.all_cons, List.all_nil, k_retR, k_retN, k_alA, k_hd, k_two, k_three, k_sh, k_odT, k_enS, k_enL, o_addI, o_addS, o_addL, o_sub, o_neg, o_ltI, o_leI, o_gtI, o_geI, o_lenS, o_lenL, o_lenT, o_abs, o_max, o_int, o_ixL, o_ixT, o_ixSS, o_slS, o_slL, o_in1S, o_ni1S, o_eqS, o_neS, o_eqI, o_neI, o_mul, o_div, o_mod, o_pow, o_divmod, z_ble0, z_ble1, z_ble2, z_ble3, z_ble4, z_ble5, z_ble6, z_ble7, z_ble8, z_ble9, z_ble10, z_ble13, z_ble17, S_l, S_len, S_app, es1, es2, startE, sNext, pk, DX.inR, Nat.beq, Nat.ble, List.any_cons, List.any_nil, List.filterMap_cons, List.filterMap_nil, Option.bind_some, Option.bind_none, cond_true, cond_false, decide_true, decide_false, List.map_cons, List.map_nil, List.length_cons, List.length_nil, List.length_map, List.length_set, List.getElem?_cons_zero, List.getElem?_cons_succ, List.cons_append, List.nil_append, List.set_cons_zero, List.set_cons_succ, List.replicate, Nat.reduceAdd, Nat.reduceSub, Nat.zero_add, Int.toNat_natCast, Bool.not_true, Bool.not_false, Bool.or_self, Bool.or_false, Bool.false_or, Bool.and_self, Bool.and_true, Bool.true_and, Bool.and_false, Bool.false_and, Bool.true_or, Bool.or_true, z_some, z_none, z_bind, z_then, z_map, z_mapK, b_eLc, lcStep, forStep, at_0, at_1, at_2, at_3, at_4, at_5, at_m1, ix_0, ix_1, ix_m1, blt_00, blt_0s, blt_12, blt_02, z_ifK, z_guard, z_guardN, z_seqN, z_seqR, z_seqB, z_seqC, z_sSeq, z_sIf, z_forN, z_forC, z_forB, z_forR, r_P1, r_P2, k_condSomeP, k_condNx, k_condEn, k_condSl, k_condPair, k_condTm, k_condSh, k_condI, k_condB, k_condAnd, k_condOr, k_condNot, o_gcd, k_condAndL, k_condOrL, b_jNil, b_jCons, b_eJoin, t_str, str_len, str_empty, Int.cast_ofNat_Int, Int.reduceEq, Int.reduceLT, Int.reduceLE, Int.reduceNeg, Int.reduceAdd, Int.reduceSub, Int.reduceMul, Int.reduceToNat, Int.reducePow, Nat.reduceLT, Nat.reduceLeDiff, Nat.reduceEqDiff, Nat.reduceMul, k_condSelf, x_no, x_raise, x_seqNo, b_xIf, x_inr, x_inl, b_xFn, o_neSelf, o_eqSelf, i_boolN, i_boolB, i_boolI, i_boolS, i_boolL, i_boolT, i_intN, i_intB, i_intI, i_intS, i_intL, i_intT, i_strN, i_strB, i_strI, i_strS, i_strL, i_strT, i_listN, i_listB, i_listI, i_listS, i_listL, i_listT, i_tupleN, i_tupleB, i_tupleI, i_tupleS, i_tupleL, i_tupleT, at_nat, decide_eq_true_eq, decide_eq_false_iff_not, Nat.ble_eq, and_true, true_and, Option.map_some, Option.isSome_some])
local macro_rules | `(tactic| walk_at "dxs") => `(tactic| simp only [b_escs, b_rdTms, b_hardTms, b_softTms, b_esCons, b_opV, b_opL, b_opT, b_eOp, b_rdNil, b_rdCons, b_rdT, b_rdA, b_erS, b_erL, b_eVar, b_eC, b_esNil, b_tTru, b_tBl, b_tAnd, b_tOr, b_tNot, b_eAnd, b_eOr, b_eNot, b_eIf, b_eTup, b_eLst, b_eTupO, b_iR2, k_ints2, b_sExpr, b_eLstO, b_xRaiseF, b_iRev, k_sqdL, k_sqdT, o_listL, o_listT, b_eOpL, k_scOS, b_mvNil, b_mvCons, b_sAppTp, b_erTp, g_hardTp, g_softTp, g_giveTp, k_tpl, k_shTp, b_oSome, b_oNone, b_eSl, b_eMt, b_fn0, b_fnP, b_sRet, b_sAsg, b_gvName, b_gvNil, b_gvCons, b_gvTup, b_gvSub, b_sAsgG, b_sApp, b_sPar, b_sPar3, b_sAppIx, b_sAugI, b_cvsNil, b_cvsCons, b_bindCond, b_condFst, b_condSnd, b_giveT, b_sFor, b_iSq, b_iR1, b_iEnA, wipeE, cYes, at_zero, k_bool, k_int, k_str, k_tup, k_lst, k_list, k_itL, k_itT, k_itSS, k_trN, k_trB, k_trI, k_trSS, k_trL, k_trT, k_scN, k_scB, k_scI, k_scS, k_scL, k_scT, k_shS, k_shL, k_softT, k_hardT, k_cvT, k_softNil, k_softCons, k_hardNil, k_hardCons, g_hard, g_soft, g_cv, g_give, g_hardS, g_hardL, g_softS, g_softL, g_cvS, g_giveS, g_giveL, g_allSh, g_erSh, List.all_cons, List.all_nil, k_retR, k_retN, k_alA, k_hd, k_two, k_three, k_sh, k_odT, k_enS, k_enL, o_addI, o_addS, o_addL, o_sub, o_neg, o_ltI, o_leI, o_gtI, o_geI, o_lenS, o_lenL, o_lenT, o_abs, o_max, o_int, o_ixL, o_ixT, o_ixSS, o_slS, o_slL, o_in1S, o_ni1S, o_eqS, o_neS, o_eqI, o_neI, o_mul, o_div, o_mod, o_pow, o_divmod, z_ble0, z_ble1, z_ble2, z_ble3, z_ble4, z_ble5, z_ble6, z_ble7, z_ble8, z_ble9, z_ble10, z_ble13, z_ble17, S_l, S_len, S_app, es1, es2, startE, sNext, pk, DX.inR, Nat.beq, Nat.ble, List.any_cons, List.any_nil, List.filterMap_cons, List.filterMap_nil, Option.bind_some, Option.bind_none, cond_true, cond_false, decide_true, decide_false, List.map_cons, List.map_nil, List.length_cons, List.length_nil, List.length_map, List.length_set, List.getElem?_cons_zero, List.getElem?_cons_succ, List.cons_append, List.nil_append, List.set_cons_zero, List.set_cons_succ, List.replicate, Nat.reduceAdd, Nat.reduceSub, Nat.zero_add, Int.toNat_natCast, Bool.not_true, Bool.not_false, Bool.or_self, Bool.or_false, Bool.false_or, Bool.and_self, Bool.and_true, Bool.true_and, Bool.and_false, Bool.false_and, Bool.true_or, Bool.or_true, z_some, z_none, z_bind, z_then, z_map, z_mapK, b_eLc, lcStep, forStep, at_0, at_1, at_2, at_3, at_4, at_5, at_m1, ix_0, ix_1, ix_m1, blt_00, blt_0s, blt_12, blt_02, z_ifK, z_guard, z_guardN, z_seqN, z_seqR, z_seqB, z_seqC, z_sSeq, z_sIf, z_forN, z_forC, z_forB, z_forR, r_P1, r_P2, k_condSomeP, k_condNx, k_condEn, k_condSl, k_condPair, k_condTm, k_condSh, k_condI, k_condB, k_condAnd, k_condOr, k_condNot, o_gcd, k_condAndL, k_condOrL, b_jNil, b_jCons, b_eJoin, t_str, str_len, str_empty, Int.cast_ofNat_Int, Int.reduceEq, Int.reduceLT, Int.reduceLE, Int.reduceNeg, Int.reduceAdd, Int.reduceSub, Int.reduceMul, Int.reduceToNat, Int.reducePow, Nat.reduceLT, Nat.reduceLeDiff, Nat.reduceEqDiff, Nat.reduceMul, k_condSelf, x_no, x_raise, x_seqNo, b_xIf, x_inr, x_inl, b_xFn, o_neSelf, o_eqSelf, i_boolN, i_boolB, i_boolI, i_boolS, i_boolL, i_boolT, i_intN, i_intB, i_intI, i_intS, i_intL, i_intT, i_strN, i_strB, i_strI, i_strS, i_strL, i_strT, i_listN, i_listB, i_listI, i_listS, i_listL, i_listT, i_tupleN, i_tupleB, i_tupleI, i_tupleS, i_tupleL, i_tupleT, at_nat, decide_eq_true_eq, decide_eq_false_iff_not, Nat.ble_eq, and_true, true_and, Option.map_some, Option.isSome_some, *])
-- DXSIMP end
theorem e_lsimplest {a b c d lim : Int} {z : Fr} (S : Simp a b c d z) (ok1 : Ok 400 (a, b)) (ok2 : Ok 400 (c, d)) (hz : z.2 ≤ lim) (hl : lim ≤ 100) :
    mr__law_simplest [.sh (frD (a, b)), .sh (frD (c, d)), .sh (.int lim)] = some (.sh (frD z)) := by
  have hb : 0 < b := ok1.2.2.1
  have hd : 0 < d := ok2.2.2.1
  have s1 : Sm a := sm400 ok1.1 (by decide)
  have s2 : Sm b := sm400 ok1.2.1 (by decide)
  have s3 : Sm c := sm400 ok2.1 (by decide)
  have s4 : Sm d := sm400 ok2.2.1 (by decide)
  have pos := S.pos
  refine eq_of_sat ?_
  unfold mr__law_simplest ev__law_simplest frD
  walk_at "dx"
  refine ⟨by rw [fit62_of (show (1 : Int).natAbs < 4611686018427387904 by decide), fit62_of (show (lim + 1).natAbs < 4611686018427387904 by omega)]; rfl, ?_⟩
  obtain ⟨m, hm⟩ : ∃ m : Nat, (lim + 1 - 1).toNat = m := ⟨_, rfl⟩
  rw [hm]
  refine Sat.forM (g := fun i : Nat => PyData.int (1 + (i : Nat))) (List.range m) (fun pre post os => ((pre.length : Nat) : Int) < z.2 ∧ ∃ o3 o4 o5 : Option OD, os = [some (.sh (.tuple [.int a, .int b])), some (.sh (.tuple [.int c, .int d])), some (.sh (.int lim)), o3, o4, o5]) ⟨pos, none, none, none, rfl⟩ (fun pre x post os e ⟨hp, o3, o4, o5, eo⟩ => ?_) fun os ⟨hp, _⟩ => ?_
  · obtain ⟨hx, hlt⟩ := range_split e
    subst hx
    subst eo
    obtain ⟨v, hv⟩ : ∃ v : Int, 1 + ((pre.length : Nat) : Int) = v := ⟨_, rfl⟩
    rw [hv]
    have mf : ∀ y : Int, Sm y → mulFits y v = true := fun y hy => hy.fit (sm400 (m := 8) (show v.natAbs < 256 by omega) (by decide))
    have na : Sm (-a) := by show (-a).natAbs < 2 ^ 900; rw [Int.natAbs_neg]; exact s1
    have df1 : ∀ y, divFits y b = true := fun y => s2.div (by omega)
    have df2 : ∀ y, divFits y d = true := fun y => s4.div (by omega)
    have ecl : -divV (-a * v) b = cl (a * v) b := by unfold cl; rw [Int.neg_mul]
    walk_at "dx"
    refine ⟨mf _ na, df1 _, mf _ s3, df2 _, ?_⟩
    rw [ecl]
    refine Sat.splitD (fun h => ?_) fun h => ?_
    · have hv2 : v = z.2 := by
        rcases Int.lt_or_le v z.2 with q | q
        · exact absurd h (S.not hb hd (by omega) q)
        · omega
      rw [e_lnearest]
      walk_at "dx"
      rw [hv2, S.nr]
    · walk_at "dx"
      refine ⟨?_, _, _, _, rfl⟩
      have : v ≠ z.2 := fun q => h (by rw [q]; exact S.has)
      rw [List.length_append, List.length_cons, List.length_nil]
      omega
  · rw [List.length_range] at hp
    omega
noncomputable def lpP : EvS := (sFor (iR2 (esCons (eC (.int 1)) (esCons (eOp opAdd (es2 (eC (.int 2000)) (eC (.int 1)))) esNil))) (gvName [] 2) (sSeq (sAsg [] 3 (eOp opNeg (es1 (eOp opDiv (es2 (eOp opMul (es2 (eOp opNeg (es1 (eOp opIx (es2 (eVar 0) (eC (.int 0)))))) (eVar 2))) (eOp opIx (es2 (eVar 0) (eC (.int 1))))))))) (sSeq (sAsg [] 4 (eOp opDiv (es2 (eOp opMul (es2 (eOp opIx (es2 (eVar 1) (eC (.int 0)))) (eVar 2))) (eOp opIx (es2 (eVar 1) (eC (.int 1))))))) (sIf (tBl (eOp opLe (es2 (eVar 3) (eVar 4)))) (sRet (eFn0 mr_fraction 2 [0, 1] (esCons (eFn0 mr_nearest_to_nought 2 [0, 1] (esCons (eVar 3) (esCons (eVar 4) esNil))) (esCons (eVar 2) esNil)))) sNext))))
theorem e_lpP {a b c d : Int} {z : Fr} {o2 o3 o4 : Option OD} (S : Simp a b c d z) (ok1 : Ok 400 (a, b)) (ok2 : Ok 400 (c, d)) (hz : z.2 ≤ 2000) :
    Sat (lpP [some (.sh (frD (a, b))), some (.sh (frD (c, d))), o2, o3, o4]) (fun r => ∃ os, r = .rt (.sh (frD z)) os) := by
  have hb : 0 < b := ok1.2.2.1
  have hd : 0 < d := ok2.2.2.1
  have s1 : Sm a := sm400 ok1.1 (by decide)
  have s2 : Sm b := sm400 ok1.2.1 (by decide)
  have s3 : Sm c := sm400 ok2.1 (by decide)
  have s4 : Sm d := sm400 ok2.2.1 (by decide)
  have pos := S.pos
  unfold lpP frD
  walk_at "dx"
  refine ⟨by decide, ?_⟩
  refine Sat.forM (g := fun i : Nat => PyData.int (1 + (i : Nat))) (List.range 2000) (fun pre post os => ((pre.length : Nat) : Int) < z.2 ∧ ∃ o2 o3 o4 : Option OD, os = [some (.sh (.tuple [.int a, .int b])), some (.sh (.tuple [.int c, .int d])), o2, o3, o4]) ⟨pos, _, _, _, rfl⟩ (fun pre x post os e ⟨hp, o3, o4, o5, eo⟩ => ?_) fun os ⟨hp, _⟩ => ?_
  · obtain ⟨hx, hlt⟩ := range_split e
    subst hx
    subst eo
    obtain ⟨v, hv⟩ : ∃ v : Int, 1 + ((pre.length : Nat) : Int) = v := ⟨_, rfl⟩
    rw [hv]
    have mf : ∀ y : Int, Sm y → mulFits y v = true := fun y hy => hy.fit (sm400 (m := 12) (show v.natAbs < 4096 by omega) (by decide))
    have na : Sm (-a) := by show (-a).natAbs < 2 ^ 900; rw [Int.natAbs_neg]; exact s1
    have df1 : ∀ y, divFits y b = true := fun y => s2.div (by omega)
    have df2 : ∀ y, divFits y d = true := fun y => s4.div (by omega)
    have ecl : -divV (-a * v) b = cl (a * v) b := by unfold cl; rw [Int.neg_mul]
    walk_at "dx"
    refine ⟨mf _ na, df1 _, mf _ s3, df2 _, ?_⟩
    rw [ecl]
    refine Sat.splitD (fun h => ?_) fun h => ?_
    · have hv2 : v = z.2 := by
        rcases Int.lt_or_le v z.2 with q | q
        · exact absurd h (S.not hb hd (by omega) q)
        · omega
      have ef : mr_fraction [.sh (.int z.1), .sh (.int z.2)] = some (.sh (frD z)) := by
        rw [e_fraction (by omega) (lt4 (k := 12) (show z.2.natAbs < 4096 by omega) (by decide)), mk_self pos S.gcd]
      rw [e_nearest]
      walk_at "dx"
      rw [hv2, S.nr, ef]
      walk_at "dx"
      exact ⟨_, rfl⟩
    · walk_at "dx"
      refine ⟨?_, _, _, _, rfl⟩
      have : v ≠ z.2 := fun q => h (by rw [q]; exact S.has)
      rw [List.length_append, List.length_cons, List.length_nil]
      omega
  · rw [List.length_range] at hp
    omega
theorem ev_plain (n : Nat) : ev_simplest_plain n = (sSeq (sExpr (eFn0 mr_want_in_order 2 [0, 1] (esCons (eVar 0) (esCons (eVar 1) esNil)))) (sSeq lpP (sRet (eFn0 mr_want_at_most 3 [0, 1, 2] (esCons (eC (.str "belows")) (esCons (eC (.int 2000)) (esCons (eOp opAdd (es2 (eC (.int 2000)) (eC (.int 1)))) esNil))))))) := rfl
theorem xv_plain (n : Nat) : xv_simplest_plain n = (xSeq (sExpr (eFn0 mr_want_in_order 2 [0, 1] (esCons (eVar 0) (esCons (eVar 1) esNil)))) (xFn mx_want_in_order 2 [0, 1] (esCons (eVar 0) (esCons (eVar 1) esNil))) (xSeq lpP xNo (xFn mx_want_at_most 3 [0, 1, 2] (esCons (eC (.str "belows")) (esCons (eC (.int 2000)) (esCons (eOp opAdd (es2 (eC (.int 2000)) (eC (.int 1)))) esNil)))))) := rfl
theorem xSeq_go {ea : EvS} {xa xb : EvX} {os os1 : En} (h1 : xa os = none) (h2 : ea os = some (.nx os1)) : xSeq ea xa xb os = xb os1 := by
  unfold xSeq
  rw [h1, h2]; rfl
theorem xSeq_rt {ea : EvS} {xa xb : EvX} {os os1 : En} {o : OD} (h1 : xa os = none) (h2 : ea os = some (.rt o os1)) : xSeq ea xa xb os = none := by
  unfold xSeq
  rw [h1, h2]; rfl
theorem xSeq_x {ea : EvS} {xa xb : EvX} {os : En} {p : Er × En} (h1 : xa os = some p) : xSeq ea xa xb os = some p := by
  unfold xSeq
  rw [h1]; rfl
theorem e_simplest_plain {a b c d : Int} {z : Fr} (S : Simp a b c d z) (hle : a * d ≤ c * b) (ok1 : Ok 400 (a, b)) (ok2 : Ok 400 (c, d)) (hz : z.2 ≤ 2000) :
    mr_simplest_plain [.sh (frD (a, b)), .sh (frD (c, d))] = some (.sh (frD z)) := by
  have s1 : Sm a := sm400 ok1.1 (by decide)
  have s2 : Sm b := sm400 ok1.2.1 (by decide)
  have s3 : Sm c := sm400 ok2.1 (by decide)
  have s4 : Sm d := sm400 ok2.2.1 (by decide)
  have q0 := e_want hle s1 s2 s3 s4
  have q := inL_some q0
  obtain ⟨r, e1, os, rfl⟩ := e_lpP (o2 := none) (o3 := none) (o4 := none) S ok1 ok2 hz
  clear S hle ok1 ok2 s1 s2 s3 s4 hz
  refine inL_eq (inL_mx ?_ ?_)
  · rw [xv_plain]
    refine (xSeq_go (os1 := [some (.sh (frD (a, b))), some (.sh (frD (c, d))), none, none, none]) ?_ ?_).trans (xSeq_rt rfl e1)
    · clear e1 q0
      walk_at "dxs"
    · refine eq_of_sat ?_
      walk_at "dx"
      rw [q0]
      walk_at "dx"
  · refine eq_of_sat ?_
    rw [ev_plain]
    clear q
    walk_at "dx"
    rw [q0]
    walk_at "dx"
    rw [e1]
    walk_at "dx"
theorem x_simplest_plain {a b c d : Int} (hle : c * b < a * d) (s1 : Sm a) (s2 : Sm b) (s3 : Sm c) (s4 : Sm d) : mx_simplest_plain [.sh (frD (a, b)), .sh (frD (c, d))] = some (.inr (3, [])) := by
  have q := x_want hle s1 s2 s3 s4
  clear hle s1 s2 s3 s4
  refine inR_mx (os' := [some (.sh (frD (a, b))), some (.sh (frD (c, d))), none, none, none]) ?_
  rw [xv_plain]
  refine xSeq_x ?_
  walk_at "dxs"
theorem x_simplest {a b c d : Int} (hle : c * b < a * d) (s1 : Sm a) (s2 : Sm b) (s3 : Sm c) (s4 : Sm d) : mx_simplest [.sh (frD (a, b)), .sh (frD (c, d))] = some (.inr (3, [])) := by
  have q := x_want hle s1 s2 s3 s4
  clear hle s1 s2 s3 s4
  refine inR_mx (os' := [some (.sh (frD (a, b))), some (.sh (frD (c, d)))]) ?_
  unfold xv_simplest
  refine xSeq_x ?_
  walk_at "dxs"
theorem e_lpP2 {a b c d : Int} {z : Fr} {o2 o3 o4 : Option OD} (S : Simp a b c d z) (ok1 : Ok 400 (a, b)) (ok2 : Ok 400 (c, d)) (hz : 2000 < z.2) :
    Sat (lpP [some (.sh (frD (a, b))), some (.sh (frD (c, d))), o2, o3, o4]) (fun r => ∃ o2 o3 o4 : Option OD, r = .nx [some (.sh (frD (a, b))), some (.sh (frD (c, d))), o2, o3, o4]) := by
  have hb : 0 < b := ok1.2.2.1
  have hd : 0 < d := ok2.2.2.1
  have s1 : Sm a := sm400 ok1.1 (by decide)
  have s2 : Sm b := sm400 ok1.2.1 (by decide)
  have s3 : Sm c := sm400 ok2.1 (by decide)
  have s4 : Sm d := sm400 ok2.2.1 (by decide)
  unfold lpP frD
  walk_at "dx"
  refine ⟨by decide, ?_⟩
  refine Sat.forM (g := fun i : Nat => PyData.int (1 + (i : Nat))) (List.range 2000) (fun pre post os => ∃ o2 o3 o4 : Option OD, os = [some (.sh (.tuple [.int a, .int b])), some (.sh (.tuple [.int c, .int d])), o2, o3, o4]) ⟨_, _, _, rfl⟩ (fun pre x post os e ⟨o3, o4, o5, eo⟩ => ?_) fun os ⟨o3, o4, o5, eo⟩ => ?_
  · obtain ⟨hx, hlt⟩ := range_split e
    subst hx
    subst eo
    obtain ⟨v, hv⟩ : ∃ v : Int, 1 + ((pre.length : Nat) : Int) = v := ⟨_, rfl⟩
    rw [hv]
    have mf : ∀ y : Int, Sm y → mulFits y v = true := fun y hy => hy.fit (sm400 (m := 12) (show v.natAbs < 4096 by omega) (by decide))
    have na : Sm (-a) := by show (-a).natAbs < 2 ^ 900; rw [Int.natAbs_neg]; exact s1
    have df1 : ∀ y, divFits y b = true := fun y => s2.div (by omega)
    have df2 : ∀ y, divFits y d = true := fun y => s4.div (by omega)
    have ecl : -divV (-a * v) b = cl (a * v) b := by unfold cl; rw [Int.neg_mul]
    have hno : ¬cl (a * v) b ≤ divV (c * v) d := S.not hb hd (by omega) (by omega)
    walk_at "dx"
    refine ⟨mf _ na, df1 _, mf _ s3, df2 _, ?_⟩
    rw [ecl, decide_eq_false hno]
    walk_at "dx"
    exact ⟨_, _, _, rfl⟩
  · subst eo
    exact ⟨_, _, _, rfl⟩
theorem x_most {w : Str} {l n : Int} (h : n > l) : mx_want_at_most [.sh (.str w), .sh (.int l), .sh (.int n)] = some (.inr (6, fldV ["what", "limit"] [.str w, .int l])) := by
  have hd : decide (n > l) = true := decide_eq_true h
  refine inR_mx (os' := [some (.sh (.str w)), some (.sh (.int l)), some (.sh (.int n))]) ?_
  unfold xv_want_at_most
  clear h
  walk_at "dxs"
theorem x_plain_most {a b c d : Int} {z : Fr} (S : Simp a b c d z) (hle : a * d ≤ c * b) (ok1 : Ok 400 (a, b)) (ok2 : Ok 400 (c, d)) (hz : 2000 < z.2) :
    mx_simplest_plain [.sh (frD (a, b)), .sh (frD (c, d))] = some (.inr (6, fldV ["what", "limit"] [.str "belows", .int 2000])) := by
  have s1 : Sm a := sm400 ok1.1 (by decide)
  have s2 : Sm b := sm400 ok1.2.1 (by decide)
  have s3 : Sm c := sm400 ok2.1 (by decide)
  have s4 : Sm d := sm400 ok2.2.1 (by decide)
  have q0 := e_want hle s1 s2 s3 s4
  have q := inL_some q0
  obtain ⟨r, e1, o2, o3, o4, rfl⟩ := e_lpP2 (o2 := none) (o3 := none) (o4 := none) S ok1 ok2 hz
  clear S hle ok1 ok2 s1 s2 s3 s4 hz
  have hm := x_most (w := "belows") (l := 2000) (n := 2001) (by decide)
  refine inR_mx (os' := [some (.sh (frD (a, b))), some (.sh (frD (c, d))), o2, o3, o4]) ?_
  rw [xv_plain]
  refine (xSeq_go (os1 := [some (.sh (frD (a, b))), some (.sh (frD (c, d))), none, none, none]) ?_ ?_).trans ((xSeq_go rfl e1).trans ?_)
  · clear e1 q0 hm
    walk_at "dxs"
  · refine eq_of_sat ?_
    walk_at "dx"
    rw [q0]
    walk_at "dx"
  · clear e1 q0 q
    walk_at "dxs"
end K11
set_option exponentiation.threshold 5000
namespace K11
open PySem PySem.Spec PyProof.Rows L2 DX
-- DXSIMP begin
local macro_rules | `(tactic| walk_at "dx") => `(tactic| simp only [b_escs, b_rdTms, b_hardTms, b_softTms, b_esCons, b_opV, b_opL, b_opT, b_eOp, b_rdNil, b_rdCons, b_rdT, b_rdA, b_erS, b_erL, b_eVar, b_eC, b_esNil, b_tTru, b_tBl, b_tAnd, b_tOr, b_tNot, b_eAnd, b_eOr, b_eNot, b_eIf, b_eTup, b_eLst, b_eTupO, b_iR2, k_ints2, b_sExpr, b_eLstO, b_xRaiseF, b_iRev, k_sqdL, k_sqdT, o_listL, o_listT, b_eOpL, k_scOS, b_mvNil, b_mvCons, b_sAppTp, b_erTp, g_hardTp, g_softTp, g_giveTp, k_tpl, k_shTp, b_oSome, b_oNone, b_eSl, b_eMt, b_fn0, b_fnP, b_sRet, b_sAsg, b_gvName, b_gvNil, b_gvCons, b_gvTup, b_gvSub, b_sAsgG, b_sApp, b_sPar, b_sPar3, b_sAppIx, b_sAugI, b_cvsNil, b_cvsCons, b_bindCond, b_condFst, b_condSnd, b_giveT, b_sFor, b_iSq, b_iR1, b_iEnA, wipeE, cYes, at_zero, k_bool, k_int, k_str, k_tup, k_lst, k_list, k_itL, k_itT, k_itSS, k_trN, k_trB, k_trI, k_trSS, k_trL, k_trT, k_scN, k_scB, k_scI, k_scS, k_scL, k_scT, k_shS, k_shL, k_softT, k_hardT, k_cvT, k_softNil, k_softCons, k_hardNil, k_hardCons, g_hard, g_soft, g_cv, g_give, g_hardS, g_hardL, g_softS, g_softL, g_cvS, g_giveS, g_giveL, g_allSh, g_erSh, List.all_cons, List.all_nil, k_retR, k_retN, k_alA, k_hd, k_two, k_three, k_sh, k_odT, k_enS, k_enL, o_addI, o_addS, o_addL, o_sub, o_neg, o_ltI, o_leI, o_gtI, o_geI, o_lenS, o_lenL, o_lenT, o_abs, o_max, o_int, o_ixL, o_ixT, o_ixSS, o_slS, o_slL, o_in1S, o_ni1S, o_eqS, o_neS, o_eqI, o_neI, o_mul, o_div, o_mod, o_pow, o_divmod, z_ble0, z_ble1, z_ble2, z_ble3, z_ble4, z_ble5, z_ble6, z_ble7, z_ble8, z_ble9, z_ble10, z_ble13, z_ble17, S_l, S_len, S_app, es1, es2, startE, sNext, pk, DX.inR, Nat.beq, Nat.ble, List.any_cons, List.any_nil, List.filterMap_cons, List.filterMap_nil, Option.bind_some, Option.bind_none, cond_true, cond_false, decide_true, decide_false, List.map_cons, List.map_nil, List.length_cons, List.length_nil, List.length_map, List.length_set, List.getElem?_cons_zero, List.getElem?_cons_succ, List.cons_append, List.nil_append, List.set_cons_zero, List.set_cons_succ, List.replicate, Nat.reduceAdd, Nat.reduceSub, Nat.zero_add, Int.toNat_natCast, Bool.not_true, Bool.not_false, Bool.or_self, Bool.or_false, Bool.false_or, Bool.and_self, Bool.and_true, Bool.true_and, Bool.and_false, Bool.false_and, Bool.true_or, Bool.or_true, z_some, z_none, z_bind, z_then, z_map, z_mapK, b_eLc, lcStep, forStep, at_0, at_1, at_2, at_3, at_4, at_5, at_m1, ix_0, ix_1, ix_m1, blt_00, blt_0s, blt_12, blt_02, z_ifK, z_guard, z_guardN, z_seqN, z_seqR, z_seqB, z_seqC, z_sSeq, z_sIf, z_forN, z_forC, z_forB, z_forR, r_P1, r_P2, k_condSomeP, k_condNx, k_condEn, k_condSl, k_condPair, k_condTm, k_condSh, k_condI, k_condB, k_condAnd, k_condOr, k_condNot, o_gcd, k_condAndL, k_condOrL, b_jNil, b_jCons, b_eJoin, t_str, str_len, str_empty, Int.cast_ofNat_Int, Int.reduceEq, Int.reduceLT, Int.reduceLE, Int.reduceNeg, Int.reduceAdd, Int.reduceSub, Int.reduceMul, Int.reduceToNat, Int.reducePow, Nat.reduceLT, Nat.reduceLeDiff, Nat.reduceEqDiff, Nat.reduceMul, k_condSelf, x_no, x_raise, x_seqNo, b_xIf, x_inr, x_inl, b_xFn, o_neSelf, o_eqSelf, i_boolN, i_boolB, i_boolI, i_boolS, i_boolL, i_boolT, i_intN, i_intB, i_intI, i_intS, i_intL, i_intT, i_strN, i_strB, i_strI, i_strS, i_strL, i_strT, i_listN, i_listB, i_listI, i_listS, i_listL, i_listT, i_tupleN, i_tupleB, i_tupleI, i_tupleS, i_tupleL, i_tupleT, at_nat, decide_eq_true_eq, decide_eq_false_iff_not, Nat.ble_eq, and_true, true_and, Option.map_some, Option.isSome_some])
local macro_rules | `(tactic| walk_at "dxs") => `(tactic| simp only [b_escs, b_rdTms, b_hardTms, b_softTms, b_esCons, b_opV, b_opL, b_opT, b_eOp, b_rdNil, b_rdCons, b_rdT, b_rdA, b_erS, b_erL, b_eVar, b_eC, b_esNil, b_tTru, b_tBl, b_tAnd, b_tOr, b_tNot, b_eAnd, b_eOr, b_eNot, b_eIf, b_eTup, b_eLst, b_eTupO, b_iR2, k_ints2, b_sExpr, b_eLstO, b_xRaiseF, b_iRev, k_sqdL, k_sqdT, o_listL, o_listT, b_eOpL, k_scOS, b_mvNil, b_mvCons, b_sAppTp, b_erTp, g_hardTp, g_softTp, g_giveTp, k_tpl, k_shTp, b_oSome, b_oNone, b_eSl, b_eMt, b_fn0, b_fnP, b_sRet, b_sAsg, b_gvName, b_gvNil, b_gvCons, b_gvTup, b_gvSub, b_sAsgG, b_sApp, b_sPar, b_sPar3, b_sAppIx, b_sAugI, b_cvsNil, b_cvsCons, b_bindCond, b_condFst, b_condSnd, b_giveT, b_sFor, b_iSq, b_iR1, b_iEnA, wipeE, cYes, at_zero, k_bool, k_int, k_str, k_tup, k_lst, k_list, k_itL, k_itT, k_itSS, k_trN, k_trB, k_trI, k_trSS, k_trL, k_trT, k_scN, k_scB, k_scI, k_scS, k_scL, k_scT, k_shS, k_shL, k_softT, k_hardT, k_cvT, k_softNil, k_softCons, k_hardNil, k_hardCons, g_hard, g_soft, g_cv, g_give, g_hardS, g_hardL, g_softS, g_softL, g_cvS, g_giveS, g_giveL, g_allSh, g_erSh, List.all_cons, List.all_nil, k_retR, k_retN, k_alA, k_hd, k_two, k_three, k_sh, k_odT, k_enS, k_enL, o_addI, o_addS, o_addL, o_sub, o_neg, o_ltI, o_leI, o_gtI, o_geI, o_lenS, o_lenL, o_lenT, o_abs, o_max, o_int, o_ixL, o_ixT, o_ixSS, o_slS, o_slL, o_in1S, o_ni1S, o_eqS, o_neS, o_eqI, o_neI, o_mul, o_div, o_mod, o_pow, o_divmod, z_ble0, z_ble1, z_ble2, z_ble3, z_ble4, z_ble5, z_ble6, z_ble7, z_ble8, z_ble9, z_ble10, z_ble13, z_ble17, S_l, S_len, S_app, es1, es2, startE, sNext, pk, DX.inR, Nat.beq, Nat.ble, List.any_cons, List.any_nil, List.filterMap_cons, List.filterMap_nil, Option.bind_some, Option.bind_none, cond_true, cond_false, decide_true, decide_false, List.map_cons, List.map_nil, List.length_cons, List.length_nil, List.length_map, List.length_set, List.getElem?_cons_zero, List.getElem?_cons_succ, List.cons_append, List.nil_append, List.set_cons_zero, List.set_cons_succ, List.replicate, Nat.reduceAdd, Nat.reduceSub, Nat.zero_add, Int.toNat_natCast, Bool.not_true, Bool.not_false, Bool.or_self, Bool.or_false, Bool.false_or, Bool.and_self, Bool.and_true, Bool.true_and, Bool.and_false, Bool.false_and, Bool.true_or, Bool.or_true, z_some, z_none, z_bind, z_then, z_map, z_mapK, b_eLc, lcStep, forStep, at_0, at_1, at_2, at_3, at_4, at_5, at_m1, ix_0, ix_1, ix_m1, blt_00, blt_0s, blt_12, blt_02, z_ifK, z_guard, z_guardN, z_seqN, z_seqR, z_seqB, z_seqC, z_sSeq, z_sIf, z_forN, z_forC, z_forB, z_forR, r_P1, r_P2, k_condSomeP, k_condNx, k_condEn, k_condSl, k_condPair, k_condTm, k_condSh, k_condI, k_condB, k_condAnd, k_condOr, k_condNot, o_gcd, k_condAndL, k_condOrL, b_jNil, b_jCons, b_eJoin, t_str, str_len, str_empty, Int.cast_ofNat_Int, Int.reduceEq, Int.reduceLT, Int.reduceLE, Int.reduceNeg, Int.reduceAdd, Int.reduceSub, Int.reduceMul, Int.reduceToNat, Int.reducePow, Nat.reduceLT, Nat.reduceLeDiff, Nat.reduceEqDiff, Nat.reduceMul, k_condSelf, x_no, x_raise, x_seqNo, b_xIf, x_inr, x_inl, b_xFn, o_neSelf, o_eqSelf, i_boolN, i_boolB, i_boolI, i_boolS, i_boolL, i_boolT, i_intN, i_intB, i_intI, i_intS, i_intL, i_intT, i_strN, i_strB, i_strI, i_strS, i_strL, i_strT, i_listN, i_listB, i_listI, i_listS, i_listL, i_listT, i_tupleN, i_tupleB, i_tupleI, i_tupleS, i_tupleL, i_tupleT, at_nat, decide_eq_true_eq, decide_eq_false_iff_not, Nat.ble_eq, and_true, true_and, Option.map_some, Option.isSome_some, *])
-- DXSIMP end
theorem sp_pot {ns : List Int} {k : Int} (hk : k = 0 ∨ k = 1) : Sat (mr__law_pot [.sh (.list (ns.map PyData.int)), .sh (.int k)]) (fun r => ∃ a b, r = potO a b ∧ Pk b) := by
  unfold mr__law_pot ev__law_pot
  have m1 : ∀ c : Int, 0 ≤ c % 2147483549 ∧ c % 2147483549 < 2147483549 := fun c => emod_lt (by decide)
  have m2 : ∀ c : Int, 0 ≤ c % 2147483579 ∧ c % 2147483579 < 2147483579 := fun c => emod_lt (by decide)
  have fin : ∀ c : Int, 0 ≤ c % 2147483579 + 1 ∧ c % 2147483579 + 1 < 2147483604 := fun c => by have := m2 c; omega
  have f1 : mulFits 617 k = true := mulFits_small (by decide) (by rcases hk with rfl | rfl <;> decide)
  have f2 : mulFits 9221 k = true := mulFits_small (by decide) (by rcases hk with rfl | rfl <;> decide)
  have f3 : ∀ c : Int, mulFits (c % 2147483549) 39163 = true := fun c => mulFits_small (by have := m1 c; omega) (by decide)
  have p18 : powFits 10 18 = true := by decide
  walk_at "dx"
  rw [f1]
  walk_at "dx"
  refine Sat.splitD (fun h => ?_) fun h => ?_
  · obtain ⟨c, hc⟩ : ∃ c : Int, (ns.map PyData.int)[k.toNat]? = some (.int c) := by
      rw [List.getElem?_map]
      have : k.toNat < ns.length := by omega
      rw [List.getElem?_eq_getElem this]
      exact ⟨_, rfl⟩
    have ha : atI (ns.map PyData.int) k = some (.int c) := by
      rw [← hc]
      rcases hk with rfl | rfl
      · exact at_0
      · exact at_1
    walk_at "dx"
    rw [ha]
    walk_at "dx"
    rw [f3, f2, p18]
    walk_at "dx"
    exact ⟨_, _, rfl, fin _⟩
  · walk_at "dx"
    rw [f3, f2, p18]
    walk_at "dx"
    exact ⟨_, _, rfl, fin _⟩
theorem Sat.tryX {sub : Nat → Nat → Bool} {nC c : Nat} {x : Er} {ev : EvS} {xv : EvX} {su : Er → Nat × Nat → EvS} {os os1 : En} {res : Res} {Q : Res → Prop} (hx : xv os = some (x, os1)) (hc : x.1 < nC ∧ sub x.1 c = true) (hs : ∀ a, su x a os1 = some res) (k : Q res) : Sat (eTry sub nC c ev xv su os) Q := by
  refine ⟨res, ?_, k⟩
  unfold eTry
  rw [hx]
  show (if x.1 < nC ∧ sub x.1 c = true then _ else none) = _
  rw [if_pos hc]
  exact suE_eq hs
theorem suAs_eq {i : Nat} {su : Er → Nat × Nat → EvS} {x : Er} {a : Nat × Nat} {os : En} {res : Res} (hi : i < os.length) (h : su x a (os.set i (some (.sh (excD a x)))) = some res) : suAs i su x a os = some (wipeR i res) := by
  unfold suAs
  rw [if_pos hi, h]; rfl
theorem x_of_parts0 : mx_of_parts [.sh (.list [])] = some (.inr (5, [])) := by
  refine inR_mx (os' := [some (.sh (.list [])), none, none]) ?_
  unfold xv_of_parts
  walk_at "dx"
theorem e_no_parts : mr__law_no_parts [] = some (.sh (.bool true)) := by
  refine eq_of_sat ?_
  unfold mr__law_no_parts ev__law_no_parts
  walk_at "dx"
  refine Sat.tryX (x := (5, [])) (os1 := [some (.lst []), none]) (res := .nx [some (.lst [.sh (.bool true)]), none]) ?_ (by decide) (fun e => ?_) ?_
  · refine eq_of_sat ?_
    walk_at "dx"
    rw [x_of_parts0]
    walk_at "dx"
  · refine suAs_eq (res := .nx [some (.lst [.sh (.bool true)]), some (.sh (excD e (5, [])))]) (show (1 : Nat) < 2 by decide) (eq_of_sat ?_)
    walk_at "dx"
    rw [o_isE, show errSub (5, ([] : List (Str × PyData))).1 1 = true from rfl]
    walk_at "dx"
    rw [o_isE, show errSub (5, ([] : List (Str × PyData))).1 0 = false from rfl]
    walk_at "dx"
    decide
  walk_at "dx"
  rw [show opRepr [.list [.bool true]] = some (.val (.str (PyData.list [.bool true]).shown)) from o_reprL rfl (by decide) (by decide)]
  walk_at "dx"
  rw [show (PyData.list [.bool true]).shown = Str.ofString "[True]" by decide]
  walk_at "dx"
end K11
set_option exponentiation.threshold 5000
namespace K11
open PySem PySem.Spec PyProof.Rows L2 DX
-- DXSIMP begin
local macro_rules | `(tactic| walk_at "dx") => `(tactic| simp only [b_escs, b_rdTms, b_hardTms, b_softTms, b_esCons, b_opV, b_opL, b_opT, b_eOp, b_rdNil, b_rdCons, b_rdT, b_rdA, b_erS, b_erL, b_eVar, b_eC, b_esNil, b_tTru, b_tBl, b_tAnd, b_tOr, b_tNot, b_eAnd, b_eOr, b_eNot, b_eIf, b_eTup, b_eLst, b_eTupO, b_iR2, k_ints2, b_sExpr, b_eLstO, b_xRaiseF, b_iRev, k_sqdL, k_sqdT, o_listL, o_listT, b_eOpL, k_scOS, b_mvNil, b_mvCons, b_sAppTp, b_erTp, g_hardTp, g_softTp, g_giveTp, k_tpl, k_shTp, b_oSome, b_oNone, b_eSl, b_eMt, b_fn0, b_fnP, b_sRet, b_sAsg, b_gvName, b_gvNil, b_gvCons, b_gvTup, b_gvSub, b_sAsgG, b_sApp, b_sPar, b_sPar3, b_sAppIx, b_sAugI, b_cvsNil, b_cvsCons, b_bindCond, b_condFst, b_condSnd, b_giveT, b_sFor, b_iSq, b_iR1, b_iEnA, wipeE, cYes, at_zero, k_bool, k_int, k_str, k_tup, k_lst, k_list, k_itL, k_itT, k_itSS, k_trN, k_trB, k_trI, k_trSS, k_trL, k_trT, k_scN, k_scB, k_scI, k_scS, k_scL, k_scT, k_shS, k_shL, k_softT, k_hardT, k_cvT, k_softNil, k_softCons, k_hardNil, k_hardCons, g_hard, g_soft, g_cv, g_give, g_hardS, g_hardL, g_softS, g_softL, g_cvS, g_giveS, g_giveL, g_allSh, g_erSh, List.all_cons, List.all_nil, k_retR, k_retN, k_alA, k_hd, k_two, k_three, k_sh, k_odT, k_enS, k_enL, o_addI, o_addS, o_addL, o_sub, o_neg, o_ltI, o_leI, o_gtI, o_geI, o_lenS, o_lenL, o_lenT, o_abs, o_max, o_int, o_ixL, o_ixT, o_ixSS, o_slS, o_slL, o_in1S, o_ni1S, o_eqS, o_neS, o_eqI, o_neI, o_mul, o_div, o_mod, o_pow, o_divmod, z_ble0, z_ble1, z_ble2, z_ble3, z_ble4, z_ble5, z_ble6, z_ble7, z_ble8, z_ble9, z_ble10, z_ble13, z_ble17, S_l, S_len, S_app, es1, es2, startE, sNext, pk, DX.inR, Nat.beq, Nat.ble, List.any_cons, List.any_nil, List.filterMap_cons, List.filterMap_nil, Option.bind_some, Option.bind_none, cond_true, cond_false, decide_true, decide_false, List.map_cons, List.map_nil, List.length_cons, List.length_nil, List.length_map, List.length_set, List.getElem?_cons_zero, List.getElem?_cons_succ, List.cons_append, List.nil_append, List.set_cons_zero, List.set_cons_succ, List.replicate, Nat.reduceAdd, Nat.reduceSub, Nat.zero_add, Int.toNat_natCast, Bool.not_true, Bool.not_false, Bool.or_self, Bool.or_false, Bool.false_or, Bool.and_self, Bool.and_true, Bool.true_and, Bool.and_false, Bool.false_and, Bool.true_or, Bool.or_true, z_some, z_none, z_bind, z_then, z_map, z_mapK, b_eLc, lcStep, forStep, at_0, at_1, at_2, at_3, at_4, at_5, at_m1, ix_0, ix_1, ix_m1, blt_00, blt_0s, blt_12, blt_02, z_ifK, z_guard, z_guardN, z_seqN, z_seqR, z_seqB, z_seqC, z_sSeq, z_sIf, z_forN, z_forC, z_forB, z_forR, r_P1, r_P2, k_condSomeP, k_condNx, k_condEn, k_condSl, k_condPair, k_condTm, k_condSh, k_condI, k_condB, k_condAnd, k_condOr, k_condNot, o_gcd, k_condAndL, k_condOrL, b_jNil, b_jCons, b_eJoin, t_str, str_len, str_empty, Int.cast_ofNat_Int, Int.reduceEq, Int.reduceLT, Int.reduceLE, Int.reduceNeg, Int.reduceAdd, Int.reduceSub, Int.reduceMul, Int.reduceToNat, Int.reducePow, Nat.reduceLT, Nat.reduceLeDiff, Nat.reduceEqDiff, Nat.reduceMul, k_condSelf, x_no, x_raise, x_seqNo, b_xIf, x_inr, x_inl, b_xFn, o_neSelf, o_eqSelf, i_boolN, i_boolB, i_boolI, i_boolS, i_boolL, i_boolT, i_intN, i_intB, i_intI, i_intS, i_intL, i_intT, i_strN, i_strB, i_strI, i_strS, i_strL, i_strT, i_listN, i_listB, i_listI, i_listS, i_listL, i_listT, i_tupleN, i_tupleB, i_tupleI, i_tupleS, i_tupleL, i_tupleT, at_nat, decide_eq_true_eq, decide_eq_false_iff_not, Nat.ble_eq, and_true, true_and, Option.map_some, Option.isSome_some])
local macro_rules | `(tactic| walk_at "dxs") => `(tactic| simp only [b_escs, b_rdTms, b_hardTms, b_softTms, b_esCons, b_opV, b_opL, b_opT, b_eOp, b_rdNil, b_rdCons, b_rdT, b_rdA, b_erS, b_erL, b_eVar, b_eC, b_esNil, b_tTru, b_tBl, b_tAnd, b_tOr, b_tNot, b_eAnd, b_eOr, b_eNot, b_eIf, b_eTup, b_eLst, b_eTupO, b_iR2, k_ints2, b_sExpr, b_eLstO, b_xRaiseF, b_iRev, k_sqdL, k_sqdT, o_listL, o_listT, b_eOpL, k_scOS, b_mvNil, b_mvCons, b_sAppTp, b_erTp, g_hardTp, g_softTp, g_giveTp, k_tpl, k_shTp, b_oSome, b_oNone, b_eSl, b_eMt, b_fn0, b_fnP, b_sRet, b_sAsg, b_gvName, b_gvNil, b_gvCons, b_gvTup, b_gvSub, b_sAsgG, b_sApp, b_sPar, b_sPar3, b_sAppIx, b_sAugI, b_cvsNil, b_cvsCons, b_bindCond, b_condFst, b_condSnd, b_giveT, b_sFor, b_iSq, b_iR1, b_iEnA, wipeE, cYes, at_zero, k_bool, k_int, k_str, k_tup, k_lst, k_list, k_itL, k_itT, k_itSS, k_trN, k_trB, k_trI, k_trSS, k_trL, k_trT, k_scN, k_scB, k_scI, k_scS, k_scL, k_scT, k_shS, k_shL, k_softT, k_hardT, k_cvT, k_softNil, k_softCons, k_hardNil, k_hardCons, g_hard, g_soft, g_cv, g_give, g_hardS, g_hardL, g_softS, g_softL, g_cvS, g_giveS, g_giveL, g_allSh, g_erSh, List.all_cons, List.all_nil, k_retR, k_retN, k_alA, k_hd, k_two, k_three, k_sh, k_odT, k_enS, k_enL, o_addI, o_addS, o_addL, o_sub, o_neg, o_ltI, o_leI, o_gtI, o_geI, o_lenS, o_lenL, o_lenT, o_abs, o_max, o_int, o_ixL, o_ixT, o_ixSS, o_slS, o_slL, o_in1S, o_ni1S, o_eqS, o_neS, o_eqI, o_neI, o_mul, o_div, o_mod, o_pow, o_divmod, z_ble0, z_ble1, z_ble2, z_ble3, z_ble4, z_ble5, z_ble6, z_ble7, z_ble8, z_ble9, z_ble10, z_ble13, z_ble17, S_l, S_len, S_app, es1, es2, startE, sNext, pk, DX.inR, Nat.beq, Nat.ble, List.any_cons, List.any_nil, List.filterMap_cons, List.filterMap_nil, Option.bind_some, Option.bind_none, cond_true, cond_false, decide_true, decide_false, List.map_cons, List.map_nil, List.length_cons, List.length_nil, List.length_map, List.length_set, List.getElem?_cons_zero, List.getElem?_cons_succ, List.cons_append, List.nil_append, List.set_cons_zero, List.set_cons_succ, List.replicate, Nat.reduceAdd, Nat.reduceSub, Nat.zero_add, Int.toNat_natCast, Bool.not_true, Bool.not_false, Bool.or_self, Bool.or_false, Bool.false_or, Bool.and_self, Bool.and_true, Bool.true_and, Bool.and_false, Bool.false_and, Bool.true_or, Bool.or_true, z_some, z_none, z_bind, z_then, z_map, z_mapK, b_eLc, lcStep, forStep, at_0, at_1, at_2, at_3, at_4, at_5, at_m1, ix_0, ix_1, ix_m1, blt_00, blt_0s, blt_12, blt_02, z_ifK, z_guard, z_guardN, z_seqN, z_seqR, z_seqB, z_seqC, z_sSeq, z_sIf, z_forN, z_forC, z_forB, z_forR, r_P1, r_P2, k_condSomeP, k_condNx, k_condEn, k_condSl, k_condPair, k_condTm, k_condSh, k_condI, k_condB, k_condAnd, k_condOr, k_condNot, o_gcd, k_condAndL, k_condOrL, b_jNil, b_jCons, b_eJoin, t_str, str_len, str_empty, Int.cast_ofNat_Int, Int.reduceEq, Int.reduceLT, Int.reduceLE, Int.reduceNeg, Int.reduceAdd, Int.reduceSub, Int.reduceMul, Int.reduceToNat, Int.reducePow, Nat.reduceLT, Nat.reduceLeDiff, Nat.reduceEqDiff, Nat.reduceMul, k_condSelf, x_no, x_raise, x_seqNo, b_xIf, x_inr, x_inl, b_xFn, o_neSelf, o_eqSelf, i_boolN, i_boolB, i_boolI, i_boolS, i_boolL, i_boolT, i_intN, i_intB, i_intI, i_intS, i_intL, i_intT, i_strN, i_strB, i_strI, i_strS, i_strL, i_strT, i_listN, i_listB, i_listI, i_listS, i_listL, i_listT, i_tupleN, i_tupleB, i_tupleI, i_tupleS, i_tupleL, i_tupleT, at_nat, decide_eq_true_eq, decide_eq_false_iff_not, Nat.ble_eq, and_true, true_and, Option.map_some, Option.isSome_some, *])
-- DXSIMP end
/-- a row of parts as it is drawn -/
structure Row (n : Nat) (l : List Int) : Prop where
  ne : l ≠ []
  tl : Pos l.tail
  sm : ∀ p ∈ l, p.natAbs ≤ 5000
  len : l.length ≤ n
theorem sp_row {a b : Int} (hb : Pk b) : Sat (mr__law_row (potO a b) []) (fun r => ∃ (l : List Int) (a b : Int), r = (intsO l, potO a b) ∧ Row 20 l ∧ Pk b) := by
  unfold mr__law_row ev__law_row
  walk_at "dx"
  refine ⟨by decide, ?_⟩
  refine (sp_pick hb (by decide) (by decide)).mono fun r ⟨d, a1, b1, e, hd, hb1⟩ => ?_
  subst e
  obtain ⟨s, rfl, hs⟩ : ∃ s : Int, d = .int s ∧ (s = 2 ∨ s = 3 ∨ s = 9 ∨ s = 5000) := by
    simp only [cl__law_row_1, List.mem_cons, List.not_mem_nil, or_false] at hd
    rcases hd with rfl | rfl | rfl | rfl <;> exact ⟨_, rfl, by omega⟩
  walk_at "dx"
  refine (sp_pick hb1 (Nat.le_of_ble_eq_true rfl) (Nat.le_of_ble_eq_true rfl)).mono fun r ⟨d, a2, b2, e, hd, hb2⟩ => ?_
  subst e
  obtain ⟨k, rfl, hk⟩ : ∃ k : Nat, d = .int (k : Nat) ∧ k ≤ 19 := by
    simp only [List.mem_cons, List.not_mem_nil, or_false] at hd
    rcases hd with rfl | rfl | rfl | rfl | rfl | rfl | rfl | rfl
    · exact ⟨0, rfl, by omega⟩
    · exact ⟨1, rfl, by omega⟩
    · exact ⟨1, rfl, by omega⟩
    · exact ⟨2, rfl, by omega⟩
    · exact ⟨3, rfl, by omega⟩
    · exact ⟨4, rfl, by omega⟩
    · exact ⟨6, rfl, by omega⟩
    · cases decide (s < 10)
      · exact ⟨5, rfl, by omega⟩
      · exact ⟨19, rfl, by omega⟩
  have mf : mulFits 2 s = true := mulFits_small (by decide) (by omega)
  walk_at "dx"
  refine ⟨mf, ?_⟩
  refine (sp_draw hb2 (n := 2 * s + 1) (by omega) (by omega)).mono fun r ⟨f, a3, b3, e, f0, f1, hb3⟩ => ?_
  subst e
  walk_at "dx"
  refine ⟨fit62_of (by omega), ?_⟩
  refine Sat.lc (fun ds acc os => ∃ (l : List Int) (a b : Int), Pk b ∧ (∀ p ∈ l, 1 ≤ p ∧ p ≤ 5000) ∧ l.length + ds.length = k ∧ acc = l.map (fun q => OD.sh (.int q)) ∧ os = [some (potO a b), some (.sh (.int s)), some (.sh (.int (k : Nat))), some (.sh (.int (f - s))), none]) ⟨[], a3, b3, hb3, (fun _ q => nomatch q), by rw [rangeD_len]; simp, rfl, rfl⟩ (by rw [rangeD_len]; exact Nat.le_trans (show k ≤ 60 by omega) (by decide)) (fun d ds acc os ⟨l, a, b, hb, hl, hn2, ea, e⟩ => ?_) fun acc os ⟨l, a, b, hb, hl, hn2, ea, e⟩ => ?_
  · subst e
    subst ea
    simp only [List.length_cons] at hn2
    walk_at "dx"
    refine (sp_draw hb (n := s) (by omega) (by omega)).mono fun r ⟨x, a4, b4, e, x0, x1, hb4⟩ => ?_
    subst e
    walk_at "dx"
    refine ⟨l ++ [1 + x], _, _, hb4, ?_, by simp; omega, by rw [List.map_append]; rfl, rfl⟩
    intro y hy
    rcases List.mem_append.mp hy with q | q
    · exact hl y q
    · rw [List.mem_singleton.mp q]; omega
  · subst e
    subst ea
    have hl0 : l.length = k := by simpa using hn2
    walk_at "dx"
    refine ⟨Nat.le_trans (show 1 + l.length ≤ 60 by omega) (by decide), (f - s) :: l, a, b, ?_, ⟨by simp, fun p hp => (hl p hp).1, fun p hp => ?_, by rw [List.length_cons]; omega⟩, hb⟩
    · rw [List.map_map, List.map_map]; rfl
    · rcases List.mem_cons.mp hp with q | q
      · rw [q]; omega
      · have := hl p q; omega
theorem row_sml {n : Nat} {l : List Int} (h : Row n l) : Sml l := fun p hp => Nat.lt_of_le_of_lt (h.sm p hp) (by decide)
theorem sh_ints (l : List Int) : OD.lst ((l.map PyData.int).map OD.sh) = intsO l := by
  unfold intsO; rw [List.map_map]; rfl
theorem pos_app {l m : List Int} (h : l ≠ []) (hl : Pos l.tail) (hm : Pos m) : Pos (l ++ m).tail := by
  cases l with
  | nil => exact absurd rfl h
  | cons a l => exact fun p hp => (List.mem_append.mp hp).elim (hl p) (hm p)
theorem row_take {n : Nat} {l : List Int} (h : Row n l) (t : Nat) : Row n (l.take (t + 1)) := by
  cases l with
  | nil => exact absurd rfl h.ne
  | cons a l =>
    refine ⟨by simp, fun p hp => h.tl p (List.mem_of_mem_take hp), fun p hp => h.sm p (List.mem_of_mem_take hp), ?_⟩
    have := h.len
    rw [List.length_take]; omega
theorem sp_near {a b : Int} {l : List Int} (hb : Pk b) (h : Row 20 l) : Sat (mr__law_near (potO a b) [.sh (intsD l)]) (fun r => ∃ (l : List Int) (a b : Int), r = (intsO l, potO a b) ∧ l ≠ [] ∧ Pos l.tail ∧ Sml l ∧ l.length ≤ 45 ∧ Pk b) := by
  have hn : 0 < l.length := List.length_pos_iff.mpr h.ne
  have hlen := h.len
  unfold mr__law_near ev__law_near intsD
  walk_at "dx"
  refine (sp_draw hb (by decide) (by decide)).mono fun r ⟨w, a1, b1, e, w0, w1, hb1⟩ => ?_
  subst e
  walk_at "dx"
  refine (sp_draw hb1 (n := (l.length : Nat)) (by omega) (by omega)).mono fun r ⟨t, a2, b2, e, t0, t1, hb2⟩ => ?_
  subst e
  walk_at "dx"
  refine Sat.splitD (fun hw => ?_) fun hw => ?_
  · walk_at "dx"
    exact ⟨l, _, _, by rw [sh_ints], h.ne, h.tl, row_sml h, by omega, hb2⟩
  walk_at "dx"
  refine Sat.splitD (fun hw => ?_) fun hw => ?_
  · walk_at "dx"
    refine (sp_draw hb2 (by decide) (by decide)).mono fun r ⟨x, a3, b3, e, x0, x1, hb3⟩ => ?_
    subst e
    walk_at "dx"
    refine ⟨Nat.le_trans (show l.length + 1 ≤ 60 by omega) (by decide), l ++ [1 + x], a3, b3, ?_, by simp, pos_app h.ne h.tl (fun p hp => by rw [List.mem_singleton.mp hp]; omega), fun p hp => ?_, by rw [List.length_append, List.length_cons, List.length_nil]; omega, hb3⟩
    · rw [← sh_ints, show (l ++ [1 + x]).map PyData.int = l.map PyData.int ++ [.int (1 + x)] by rw [List.map_append]; rfl]
    · rcases List.mem_append.mp hp with q | q
      · exact row_sml h p q
      · rw [List.mem_singleton.mp q]
        exact Nat.lt_of_le_of_lt (show (1 + x).natAbs ≤ 5000 by omega) (by decide)
  walk_at "dx"
  obtain ⟨k, rfl⟩ : ∃ k : Nat, t = k := ⟨t.toNat, by omega⟩
  have hk : k < l.length := by omega
  have hcut : DX.cutD (l.map PyData.int) none (some ((k : Int) + 1)) = (l.take (k + 1)).map PyData.int := by
    show (List.drop 0 (l.map PyData.int)).take (HT.sIx (l.map PyData.int).length (l.map PyData.int).length (some ((k : Int) + 1)) - 0) = _
    rw [show ((k : Int) + 1) = ((k + 1 : Nat) : Int) by omega, HT.sIx_nat, List.drop_zero, List.length_map, Nat.sub_zero, ← List.map_take, show min (k + 1) l.length = k + 1 by omega]
  refine Sat.splitD (fun hw => ?_) fun hw => ?_
  · walk_at "dx"
    rw [hcut]
    have R := row_take h k
    exact ⟨l.take (k + 1), _, _, by rw [sh_ints], R.ne, R.tl, row_sml R, by have := R.len; omega, hb2⟩
  walk_at "dx"
  refine Sat.splitD (fun hw => ?_) fun hw => ?_
  · have hx : (l.map PyData.int)[k]? = some (.int l[k]) := by rw [List.getElem?_map, List.getElem?_eq_getElem hk]; rfl
    walk_at "dx"
    rw [hx]
    walk_at "dx"
    refine (sp_draw hb2 (by decide) (by decide)).mono fun r ⟨x, a3, b3, e, x0, x1, hb3⟩ => ?_
    subst e
    have hi : ixN ((l.map PyData.int).map OD.sh).length ((k : Nat) : Int) = some k := ixN_nat (by rw [List.length_map, List.length_map]; exact hk)
    walk_at "dx"
    rw [ixN_nat hk]
    walk_at "dx"
    have v1 : ∀ j, j + 1 = k → 1 ≤ l[k] := fun j hj => by
      refine h.tl _ ?_
      have : l.tail[j]? = some l[k] := by rw [List.getElem?_tail, hj, List.getElem?_eq_getElem hk]
      exact List.mem_of_getElem? this
    have v2 := h.sm l[k] (List.getElem_mem hk)
    refine ⟨l.set k (l[k] + 1 + x), a3, b3, ?_, ?_, ?_, fun p hp => ?_, by rw [List.length_set]; omega, hb3⟩
    · rw [← sh_ints, List.map_set, List.map_set]
    · intro z
      have := congrArg List.length z
      rw [List.length_set] at this
      exact h.ne (List.length_eq_zero_iff.mp this)
    · cases l with
      | nil => exact absurd rfl h.ne
      | cons a l =>
        cases k with
        | zero => exact h.tl
        | succ j =>
          intro p hp
          have hp : p ∈ l.set j _ := hp
          rcases List.mem_or_eq_of_mem_set hp with q | q
          · exact h.tl p q
          · have := v1 j rfl; rw [q]; omega
    · rcases List.mem_or_eq_of_mem_set hp with q | q
      · exact row_sml h p q
      · rw [q]
        exact Nat.lt_of_le_of_lt (show (l[k] + 1 + x).natAbs ≤ 5002 by omega) (by decide)
  walk_at "dx"
  refine Sat.splitD (fun hw => ?_) fun hw => ?_
  · walk_at "dx"
    rw [hcut]
    refine (sp_row hb2).mono fun r ⟨m, a3, b3, e, R, hb3⟩ => ?_
    subst e
    unfold intsO
    walk_at "dx"
    have hcut2 : DX.cutD ((m.map fun q => OD.sh (.int q)).map OD.er) (some 1) none = m.tail.map PyData.int := by
      have hm : 0 < m.length := List.length_pos_iff.mpr R.ne
      rw [show (m.map fun q => OD.sh (.int q)).map OD.er = m.map PyData.int by rw [List.map_map]; rfl]
      show (List.drop (HT.sIx (m.map PyData.int).length 0 (some ((1 : Nat) : Int))) (m.map PyData.int)).take ((m.map PyData.int).length - HT.sIx (m.map PyData.int).length 0 (some ((1 : Nat) : Int))) = _
      rw [HT.sIx_nat, List.length_map, show min 1 m.length = 1 by omega, List.drop_one, ← List.map_tail, List.take_of_length_le (by rw [List.length_map, List.length_tail]; omega)]
    have R2 := row_take h k
    have hlm := R.len
    have hlt := R2.len
    rw [hcut2]
    refine ⟨?_, l.take (k + 1) ++ m.tail, a3, b3, ?_, fun z => R2.ne (List.append_eq_nil_iff.mp z).1, pos_app R2.ne R2.tl R.tl, fun p hp => ?_, by rw [List.length_append, List.length_tail]; omega, hb3⟩
    · rw [List.length_map, List.length_tail]
      exact Nat.le_trans (show _ ≤ 60 by omega) (by decide)
    · rw [← List.map_append, List.map_map]; rfl
    · rcases List.mem_append.mp hp with q | q
      · exact row_sml R2 p q
      · exact row_sml R p (List.mem_of_mem_tail q)
  walk_at "dx"
  refine (sp_row hb2).mono fun r ⟨m, a3, b3, e, R, hb3⟩ => ?_
  subst e
  walk_at "dx"
  exact ⟨m, _, _, rfl, R.ne, R.tl, row_sml R, by have := R.len; omega, hb3⟩
end K11
set_option exponentiation.threshold 5000
namespace K11
open PySem PySem.Spec PyProof.Rows L2 DX
-- DXSIMP begin
local macro_rules | `(tactic| walk_at "dx") => `(tactic| simp only [b_escs, b_rdTms, b_hardTms, b_softTms, b_esCons, b_opV, b_opL, b_opT, b_eOp, b_rdNil, b_rdCons, b_rdT, b_rdA, b_erS, b_erL, b_eVar, b_eC, b_esNil, b_tTru, b_tBl, b_tAnd, b_tOr, b_tNot, b_eAnd, b_eOr, b_eNot, b_eIf, b_eTup, b_eLst, b_eTupO, b_iR2, k_ints2, b_sExpr, b_eLstO, b_xRaiseF, b_iRev, k_sqdL, k_sqdT, o_listL, o_listT, b_eOpL, k_scOS, b_mvNil, b_mvCons, b_sAppTp, b_erTp, g_hardTp, g_softTp, g_giveTp, k_tpl, k_shTp, b_oSome, b_oNone, b_eSl, b_eMt, b_fn0, b_fnP, b_sRet, b_sAsg, b_gvName, b_gvNil, b_gvCons, b_gvTup, b_gvSub, b_sAsgG, b_sApp, b_sPar, b_sPar3, b_sAppIx, b_sAugI, b_cvsNil, b_cvsCons, b_bindCond, b_condFst, b_condSnd, b_giveT, b_sFor, b_iSq, b_iR1, b_iEnA, wipeE, cYes, at_zero, k_bool, k_int, k_str, k_tup, k_lst, k_list, k_itL, k_itT, k_itSS, k_trN, k_trB, k_trI, k_trSS, k_trL, k_trT, k_scN, k_scB, k_scI, k_scS, k_scL, k_scT, k_shS, k_shL, k_softT, k_hardT, k_cvT, k_softNil, k_softCons, k_hardNil, k_hardCons, g_hard, g_soft, g_cv, g_give, g_hardS, g_hardL, g_softS, g_softL, g_cvS, g_giveS, g_giveL, g_allSh, g_erSh, List.all_cons, List.all_nil, k_retR, k_retN, k_alA, k_hd, k_two, k_three, k_sh, k_odT, k_enS, k_enL, o_addI, o_addS, o_addL, o_sub, o_neg, o_ltI, o_leI, o_gtI, o_geI, o_lenS, o_lenL, o_lenT, o_abs, o_max, o_int, o_ixL, o_ixT, o_ixSS, o_slS, o_slL, o_in1S, o_ni1S, o_eqS, o_neS, o_eqI, o_neI, o_mul, o_div, o_mod, o_pow, o_divmod, z_ble0, z_ble1, z_ble2, z_ble3, z_ble4, z_ble5, z_ble6, z_ble7, z_ble8, z_ble9, z_ble10, z_ble13, z_ble17, S_l, S_len, S_app, es1, es2, startE, sNext, pk, DX.inR, Nat.beq, Nat.ble, List.any_cons, List.any_nil, List.filterMap_cons, List.filterMap_nil, Option.bind_some, Option.bind_none, cond_true, cond_false, decide_true, decide_false, List.map_cons, List.map_nil, List.length_cons, List.length_nil, List.length_map, List.length_set, List.getElem?_cons_zero, List.getElem?_cons_succ, List.cons_append, List.nil_append, List.set_cons_zero, List.set_cons_succ, List.replicate, Nat.reduceAdd, Nat.reduceSub, Nat.zero_add, Int.toNat_natCast, Bool.not_true, Bool.not_false, Bool.or_self, Bool.or_false, Bool.false_or, Bool.and_self, Bool.and_true, Bool.true_and, Bool.and_false, Bool.false_and, Bool.true_or, Bool.or_true, z_some, z_none, z_bind, z_then, z_map, z_mapK, b_eLc, lcStep, forStep, at_0, at_1, at_2, at_3, at_4, at_5, at_m1, ix_0, ix_1, ix_m1, blt_00, blt_0s, blt_12, blt_02, z_ifK, z_guard, z_guardN, z_seqN, z_seqR, z_seqB, z_seqC, z_sSeq, z_sIf, z_forN, z_forC, z_forB, z_forR, r_P1, r_P2, k_condSomeP, k_condNx, k_condEn, k_condSl, k_condPair, k_condTm, k_condSh, k_condI, k_condB, k_condAnd, k_condOr, k_condNot, o_gcd, k_condAndL, k_condOrL, b_jNil, b_jCons, b_eJoin, t_str, str_len, str_empty, Int.cast_ofNat_Int, Int.reduceEq, Int.reduceLT, Int.reduceLE, Int.reduceNeg, Int.reduceAdd, Int.reduceSub, Int.reduceMul, Int.reduceToNat, Int.reducePow, Nat.reduceLT, Nat.reduceLeDiff, Nat.reduceEqDiff, Nat.reduceMul, k_condSelf, x_no, x_raise, x_seqNo, b_xIf, x_inr, x_inl, b_xFn, o_neSelf, o_eqSelf, i_boolN, i_boolB, i_boolI, i_boolS, i_boolL, i_boolT, i_intN, i_intB, i_intI, i_intS, i_intL, i_intT, i_strN, i_strB, i_strI, i_strS, i_strL, i_strT, i_listN, i_listB, i_listI, i_listS, i_listL, i_listT, i_tupleN, i_tupleB, i_tupleI, i_tupleS, i_tupleL, i_tupleT, at_nat, decide_eq_true_eq, decide_eq_false_iff_not, Nat.ble_eq, and_true, true_and, Option.map_some, Option.isSome_some])
local macro_rules | `(tactic| walk_at "dxs") => `(tactic| simp only [b_escs, b_rdTms, b_hardTms, b_softTms, b_esCons, b_opV, b_opL, b_opT, b_eOp, b_rdNil, b_rdCons, b_rdT, b_rdA, b_erS, b_erL, b_eVar, b_eC, b_esNil, b_tTru, b_tBl, b_tAnd, b_tOr, b_tNot, b_eAnd, b_eOr, b_eNot, b_eIf, b_eTup, b_eLst, b_eTupO, b_iR2, k_ints2, b_sExpr, b_eLstO, b_xRaiseF, b_iRev, k_sqdL, k_sqdT, o_listL, o_listT, b_eOpL, k_scOS, b_mvNil, b_mvCons, b_sAppTp, b_erTp, g_hardTp, g_softTp, g_giveTp, k_tpl, k_shTp, b_oSome, b_oNone, b_eSl, b_eMt, b_fn0, b_fnP, b_sRet, b_sAsg, b_gvName, b_gvNil, b_gvCons, b_gvTup, b_gvSub, b_sAsgG, b_sApp, b_sPar, b_sPar3, b_sAppIx, b_sAugI, b_cvsNil, b_cvsCons, b_bindCond, b_condFst, b_condSnd, b_giveT, b_sFor, b_iSq, b_iR1, b_iEnA, wipeE, cYes, at_zero, k_bool, k_int, k_str, k_tup, k_lst, k_list, k_itL, k_itT, k_itSS, k_trN, k_trB, k_trI, k_trSS, k_trL, k_trT, k_scN, k_scB, k_scI, k_scS, k_scL, k_scT, k_shS, k_shL, k_softT, k_hardT, k_cvT, k_softNil, k_softCons, k_hardNil, k_hardCons, g_hard, g_soft, g_cv, g_give, g_hardS, g_hardL, g_softS, g_softL, g_cvS, g_giveS, g_giveL, g_allSh, g_erSh, List.all_cons, List.all_nil, k_retR, k_retN, k_alA, k_hd, k_two, k_three, k_sh, k_odT, k_enS, k_enL, o_addI, o_addS, o_addL, o_sub, o_neg, o_ltI, o_leI, o_gtI, o_geI, o_lenS, o_lenL, o_lenT, o_abs, o_max, o_int, o_ixL, o_ixT, o_ixSS, o_slS, o_slL, o_in1S, o_ni1S, o_eqS, o_neS, o_eqI, o_neI, o_mul, o_div, o_mod, o_pow, o_divmod, z_ble0, z_ble1, z_ble2, z_ble3, z_ble4, z_ble5, z_ble6, z_ble7, z_ble8, z_ble9, z_ble10, z_ble13, z_ble17, S_l, S_len, S_app, es1, es2, startE, sNext, pk, DX.inR, Nat.beq, Nat.ble, List.any_cons, List.any_nil, List.filterMap_cons, List.filterMap_nil, Option.bind_some, Option.bind_none, cond_true, cond_false, decide_true, decide_false, List.map_cons, List.map_nil, List.length_cons, List.length_nil, List.length_map, List.length_set, List.getElem?_cons_zero, List.getElem?_cons_succ, List.cons_append, List.nil_append, List.set_cons_zero, List.set_cons_succ, List.replicate, Nat.reduceAdd, Nat.reduceSub, Nat.zero_add, Int.toNat_natCast, Bool.not_true, Bool.not_false, Bool.or_self, Bool.or_false, Bool.false_or, Bool.and_self, Bool.and_true, Bool.true_and, Bool.and_false, Bool.false_and, Bool.true_or, Bool.or_true, z_some, z_none, z_bind, z_then, z_map, z_mapK, b_eLc, lcStep, forStep, at_0, at_1, at_2, at_3, at_4, at_5, at_m1, ix_0, ix_1, ix_m1, blt_00, blt_0s, blt_12, blt_02, z_ifK, z_guard, z_guardN, z_seqN, z_seqR, z_seqB, z_seqC, z_sSeq, z_sIf, z_forN, z_forC, z_forB, z_forR, r_P1, r_P2, k_condSomeP, k_condNx, k_condEn, k_condSl, k_condPair, k_condTm, k_condSh, k_condI, k_condB, k_condAnd, k_condOr, k_condNot, o_gcd, k_condAndL, k_condOrL, b_jNil, b_jCons, b_eJoin, t_str, str_len, str_empty, Int.cast_ofNat_Int, Int.reduceEq, Int.reduceLT, Int.reduceLE, Int.reduceNeg, Int.reduceAdd, Int.reduceSub, Int.reduceMul, Int.reduceToNat, Int.reducePow, Nat.reduceLT, Nat.reduceLeDiff, Nat.reduceEqDiff, Nat.reduceMul, k_condSelf, x_no, x_raise, x_seqNo, b_xIf, x_inr, x_inl, b_xFn, o_neSelf, o_eqSelf, i_boolN, i_boolB, i_boolI, i_boolS, i_boolL, i_boolT, i_intN, i_intB, i_intI, i_intS, i_intL, i_intT, i_strN, i_strB, i_strI, i_strS, i_strL, i_strT, i_listN, i_listB, i_listI, i_listS, i_listL, i_listT, i_tupleN, i_tupleB, i_tupleI, i_tupleS, i_tupleL, i_tupleT, at_nat, decide_eq_true_eq, decide_eq_false_iff_not, Nat.ble_eq, and_true, true_and, Option.map_some, Option.isSome_some, *])
-- DXSIMP end
theorem rp_ints {l : List Int} {m : Nat} (h : ∀ p ∈ l, p.natAbs < 2 ^ 15) (hl : l.length ≤ m) : Rp 2 (m * 18 + 1) (intsD l) := by
  refine Rp.mono (Rp.lst (k := 1) (n := 17) (ds := l.map PyData.int) fun d q => ?_) (by decide) (by rw [List.length_map]; have := Nat.mul_le_mul_right 18 hl; omega)
  obtain ⟨x, hx, rfl⟩ := List.mem_map.mp q
  exact Rp.intN (n := 15) (h x hx)
theorem rp_fr {z : Fr} (h1 : z.1.natAbs < 2 ^ 800) (h2 : z.2.natAbs < 2 ^ 800) : Rp 2 (2 * 803 + 1) (frD z) := Rp.tup (k := 1) (n := 802) (ds := [.int z.1, .int z.2]) (Rps.cons (Rp.int h1) (Rps.cons (Rp.int h2) Rps.nil))
theorem mk_below {a b : Int} (h : 0 < b) : 0 < (mk a b).2 ∧ (mk a b).2 ≤ b := by
  have hb : b ≠ 0 := by omega
  have := natAbs_le_mul (sg_ne hb) (mk_mul (a := a) hb).2
  have hk : Ok (b.natAbs + a.natAbs) (mk a b) := mk_ok hb (Nat.lt_of_lt_of_le Nat.lt_two_pow_self (pw (by omega))) (Nat.lt_of_lt_of_le Nat.lt_two_pow_self (pw (by omega)))
  have := hk.2.2.1
  omega
theorem ok_one {m : Nat} {a : Int} (h : a.natAbs < 2 ^ m) (hm : 1 ≤ m) : Ok m (a, 1) := by
  refine ⟨h, Nat.lt_of_lt_of_le (show (1 : Int).natAbs < 2 ^ 1 by decide) (pw hm), Int.one_pos, ?_⟩
  show ((Nat.gcd a.natAbs 1 : Nat) : Int) = 1
  rw [Nat.gcd_one_right]; rfl
theorem sp_low {a b s : Int} (hb : Pk b) (hs : 0 < s) (hs2 : s ≤ 1000000) : Sat (mr__law_low (potO a b) [.sh (.int s)]) (fun r => ∃ (z : Fr) (a b : Int), r = (.sh (frD z), potO a b) ∧ Ok 24 z ∧ z.2 ≤ s ∧ Pk b) := by
  have f1 : mulFits 4 s = true := mulFits_small (by decide) (by omega)
  have f2 : mulFits 2 s = true := mulFits_small (by decide) (by omega)
  unfold mr__law_low ev__law_low
  walk_at "dx"
  refine ⟨f1, ?_⟩
  refine (sp_draw hb (n := 4 * s) (by omega) (by omega)).mono fun r ⟨x, a1, b1, e, x0, x1, hb1⟩ => ?_
  subst e
  walk_at "dx"
  refine ⟨f2, ?_⟩
  refine (sp_draw hb1 (by decide) (by decide)).mono fun r ⟨y, a2, b2, e, y0, y1, hb2⟩ => ?_
  subst e
  walk_at "dx"
  refine Sat.splitD (fun hy => ?_) fun hy => ?_
  · walk_at "dx"
    have d9 : divFits (x - 2 * s) 9 = true := divFits_small (by decide) (by decide)
    refine ⟨d9, (divV (x - 2 * s) 9, 1), a2, b2, rfl, ok_one ?_ (by decide), by show (1 : Int) ≤ s; omega, hb2⟩
    exact div_le (k := 23) (by decide) (Nat.lt_of_le_of_lt (show (x - 2 * s).natAbs ≤ 2000000 by omega) (by decide))
  · walk_at "dx"
    refine (sp_draw hb2 hs (by omega)).mono fun r ⟨w, a3, b3, e, w0, w1, hb3⟩ => ?_
    subst e
    walk_at "dx"
    have hw : (1 + w) ≠ 0 := by omega
    rw [e_made (a := x - 2 * s) hw (Nat.lt_of_lt_of_le (show (1 + w).natAbs < 2 ^ 24 from Nat.lt_of_le_of_lt (show (1 + w).natAbs ≤ 1000000 by omega) (by decide)) (pw (by decide)))]
    walk_at "dx"
    have q := mk_below (a := x - 2 * s) (b := 1 + w) (by omega)
    refine ⟨mk (x - 2 * s) (1 + w), a3, b3, rfl, mk_ok hw (Nat.lt_of_le_of_lt (show (x - 2 * s).natAbs ≤ 2000000 by omega) (by decide)) (Nat.lt_of_le_of_lt (show (1 + w).natAbs ≤ 1000000 by omega) (by decide)), by omega, hb3⟩
/-- bounds as they are drawn -/
structure Bnd (x y : Fr) (lim : Int) : Prop where
  ok1 : Ok 400 x
  ok2 : Ok 400 y
  le : x.1 * y.2 ≤ y.1 * x.2
  l1 : lim ≤ 100
  ex : ∃ u v, 0 < v ∧ v ≤ lim ∧ In x.1 x.2 y.1 y.2 u v
theorem ok_ng {z : Fr} (o : Ok 400 z) : Ok 400 (-z.1, z.2) := ⟨by show (-z.1).natAbs < _; rw [Int.natAbs_neg]; exact o.1, o.2.1, o.2.2.1, by
    show gcdI (-z.1) z.2 = 1
    have := o.2.2.2
    unfold gcdI at this ⊢
    rw [Int.natAbs_neg]; exact this⟩
theorem Bnd.turn {x y : Fr} {lim : Int} (h : Bnd x y lim) : Bnd (-y.1, y.2) (-x.1, x.2) lim := by
  have ng : ∀ {z : Fr}, Ok 400 z → Ok 400 (-z.1, z.2) := fun {z} o => ⟨by show (-z.1).natAbs < _; rw [Int.natAbs_neg]; exact o.1, o.2.1, o.2.2.1, by
    show gcdI (-z.1) z.2 = 1
    have := o.2.2.2
    unfold gcdI at this ⊢
    rw [Int.natAbs_neg]; exact this⟩
  obtain ⟨u, v, v0, v1, i1, i2⟩ := h.ex
  refine ⟨ng h.ok2, ng h.ok1, ?_, h.l1, -u, v, v0, v1, ?_, ?_⟩
  · show -y.1 * x.2 ≤ -x.1 * y.2
    have := h.le
    rw [Int.neg_mul, Int.neg_mul]; omega
  · show -y.1 * v ≤ -u * y.2
    rw [Int.neg_mul, Int.neg_mul]; omega
  · show -u * x.2 ≤ -x.1 * v
    rw [Int.neg_mul, Int.neg_mul]; omega
theorem Bnd.self {x : Fr} {lim : Int} (h : Ok 400 x) (hl : x.2 ≤ lim) (h1 : lim ≤ 100) : Bnd x x lim :=
  ⟨h, h, Int.le_refl _, h1, x.1, x.2, h.2.2.1, hl, Int.le_refl _, Int.le_refl _⟩
theorem Ok.up {x : Fr} {m : Nat} (h : Ok m x) (hm : m ≤ 400 := by decide) : Ok 400 x := h.mono hm
theorem mk_le {A B u v : Int} (hB : 0 < B) (h : u * B ≤ A * v) : u * (mk A B).2 ≤ (mk A B).1 * v := by
  have hb : B ≠ 0 := by omega
  obtain ⟨e1, e2⟩ := mk_mul (a := A) hb
  have hs : 0 < sg A B := (sg_sign hb).mpr hB
  refine (mul_le hs).mpr ?_
  have h1 : u * (mk A B).2 * sg A B = u * B := by rw [Int.mul_assoc, e2]
  have h2 : (mk A B).1 * v * sg A B = A * v := by rw [Int.mul_right_comm, e1]
  rw [h1, h2]; exact h
theorem sum_ok {x : Fr} {p q : Int} (hx : Ok 24 x) (hp : p.natAbs < 2 ^ 24) (hq : 0 < q) (hq2 : q.natAbs < 2 ^ 24) : x.2 * q ≠ 0 ∧ Ok 400 (mk (x.1 * q + p * x.2) (x.2 * q)) := by
  have h0 : x.2 * q ≠ 0 := Int.mul_ne_zero (by have := hx.2.2.1; omega) (by omega)
  refine ⟨h0, (mk_ok (m := 49) h0 ?_ ?_).up⟩
  · exact nat_add (k := 48) (wide_lt (a := 24) (b := 24) hx.1 hq2) (wide_lt (a := 24) (b := 24) hp hx.2.1)
  · exact Nat.lt_of_lt_of_le (wide_lt (a := 24) (b := 24) hx.2.1 hq2) (pw (by decide))
theorem e_sum {x y : Fr} (hx : Ok 24 x) (hy : Ok 24 y) : mr__law_sum [.sh (frD x), .sh (frD y)] = some (.sh (frD (mk (x.1 * y.2 + y.1 * x.2) (x.2 * y.2)))) := by
  obtain ⟨h0, _⟩ := sum_ok hx hy.1 hy.2.2.1 hy.2.1
  have m1 := e_made (a := x.1 * y.2 + y.1 * x.2) h0 (Nat.lt_of_lt_of_le (wide_lt (a := 24) (b := 24) hx.2.1 hy.2.1) (pw (by decide)))
  have f1 : mulFits x.1 y.2 = true := mulFits_of (lt4 hx.1 (by decide)) (lt4 hy.2.1 (by decide))
  have f2 : mulFits y.1 x.2 = true := mulFits_of (lt4 hy.1 (by decide)) (lt4 hx.2.1 (by decide))
  have f3 : mulFits x.2 y.2 = true := mulFits_of (lt4 hx.2.1 (by decide)) (lt4 hy.2.1 (by decide))
  clear hx hy
  refine eq_of_sat ?_
  unfold mr__law_sum ev__law_sum
  unfold frD at m1 ⊢
  walk_at "dxs"
theorem sp_bounds {a b : Int} (hb : Pk b) : Sat (mr__law_bounds (potO a b) []) (fun r => ∃ (x y : Fr) (lim a b : Int), r = (.sh (.tuple [frD x, frD y, .int lim]), potO a b) ∧ Bnd x y lim ∧ Pk b) := by
  unfold mr__law_bounds ev__law_bounds
  walk_at "dx"
  refine (sp_draw hb (by decide) (by decide)).mono fun r ⟨w, a1, b1, e, w0, w1, hb1⟩ => ?_
  subst e
  walk_at "dx"
  refine Sat.splitD (fun hw => ?_) fun hw => ?_
  · walk_at "dx"
    refine (sp_low hb1 (by decide) (by decide)).mono fun r ⟨x, a2, b2, e, ok, hl, hb2⟩ => ?_
    subst e
    walk_at "dx"
    exact ⟨x, x, 60, a2, b2, rfl, Bnd.self ok.up hl (by decide), hb2⟩
  walk_at "dx"
  refine Sat.splitD (fun hw => ?_) fun hw => ?_
  · walk_at "dx"
    refine (sp_draw hb1 (by decide) (by decide)).mono fun r ⟨x, a2, b2, e, x0, x1, hb2⟩ => ?_
    subst e
    walk_at "dx"
    refine (sp_draw hb2 (by decide) (by decide)).mono fun r ⟨y, a3, b3, e, y0, y1, hb3⟩ => ?_
    subst e
    walk_at "dx"
    refine ⟨(x - 10, 1), (x - 10 + y, 1), 1, a3, b3, rfl, ⟨ok_one (Nat.lt_of_le_of_lt (show (x - 10).natAbs ≤ 100 by omega) (Nat.lt_of_lt_of_le (show 100 < 2 ^ 7 by decide) (pw (by decide)))) (by decide), ok_one (Nat.lt_of_le_of_lt (show (x - 10 + y).natAbs ≤ 100 by omega) (Nat.lt_of_lt_of_le (show 100 < 2 ^ 7 by decide) (pw (by decide)))) (by decide), ?_, by decide, x - 10, 1, by decide, by decide, Int.le_refl _, ?_⟩, hb3⟩
    · show (x - 10) * 1 ≤ (x - 10 + y) * 1; omega
    · show (x - 10) * 1 ≤ (x - 10 + y) * 1; omega
  walk_at "dx"
  refine Sat.splitD (fun hw => ?_) fun hw => ?_
  · have p6 : powFits 10 6 = true := by decide
    walk_at "dx"
    rw [p6]
    walk_at "dx"
    refine (sp_low hb1 (s := 1000000) (by decide) (by decide)).mono fun r ⟨x, a2, b2, e, ok, hl, hb2⟩ => ?_
    subst e
    walk_at "dx"
    refine (sp_draw hb2 (by decide) (by decide)).mono fun r ⟨y, a3, b3, e, y0, y1, hb3⟩ => ?_
    subst e
    walk_at "dx"
    have okq : Ok 24 (1, 2 + y) := ⟨show (1 : Int).natAbs < 2 ^ 24 by decide, Nat.lt_of_le_of_lt (show (2 + y).natAbs ≤ 100 by omega) (by decide), by show 0 < 2 + y; omega, by
      show ((Nat.gcd 1 (2 + y).natAbs : Nat) : Int) = 1
      rw [Nat.gcd_one_left]; rfl⟩
    rw [show PyData.tuple [.int 1, .int (2 + y)] = frD (1, 2 + y) from rfl, e_sum ok okq]
    walk_at "dx"
    obtain ⟨h0, oks⟩ := sum_ok ok okq.1 okq.2.2.1 okq.2.1
    have hx2 := ok.2.2.1
    have hq : 0 < 2 + y := by omega
    have hB : 0 < x.2 * (2 + y) := Int.mul_pos hx2 hq
    refine ⟨x, _, 41, a3, b3, rfl, ⟨ok.up, oks, mk_le hB ?_, by decide, cl (x.1 * (2 + y)) x.2, 2 + y, hq, by omega, ?_, mk_le hB ?_⟩, hb3⟩
    · show x.1 * (x.2 * (2 + y)) ≤ (x.1 * (2 + y) + 1 * x.2) * x.2
      have : (x.1 * (2 + y) + 1 * x.2) * x.2 = x.1 * (x.2 * (2 + y)) + x.2 * x.2 := by grind
      have := Int.mul_nonneg (Int.le_of_lt hx2) (Int.le_of_lt hx2)
      omega
    · exact (cl_le hx2).mp (Int.le_refl _)
    · show cl (x.1 * (2 + y)) x.2 * (x.2 * (2 + y)) ≤ (x.1 * (2 + y) + 1 * x.2) * (2 + y)
      have h1 : cl (x.1 * (2 + y)) x.2 * x.2 ≤ x.1 * (2 + y) + x.2 := by
        have h2 := rem_lt (a := -(x.1 * (2 + y))) hx2
        unfold cl
        rw [Int.neg_mul]
        omega
      have h3 := Int.mul_le_mul_of_nonneg_right h1 (Int.le_of_lt hq)
      rw [← Int.mul_assoc, Int.one_mul]; exact h3
  walk_at "dx"
  refine Sat.splitD (fun hw => ?_) fun hw => ?_
  · walk_at "dx"
    refine (sp_low hb1 (s := 9) (by decide) (by decide)).mono fun r ⟨x, a2, b2, e, ok, hl, hb2⟩ => ?_
    subst e
    walk_at "dx"
    unfold frD
    walk_at "dx"
    refine (sp_draw hb2 (by decide) (by decide)).mono fun r ⟨y, a3, b3, e, y0, y1, hb3⟩ => ?_
    subst e
    walk_at "dx"
    have y7 : (mk y 7).1 ≥ 0 := by have := mk_le (A := y) (B := 7) (u := 0) (v := 1) (by decide) (by omega); omega
    have ok7 : Ok 24 (mk y 7) := mk_ok (by decide) (Nat.lt_of_le_of_lt (show y.natAbs ≤ 9 by omega) (by decide)) (by decide)
    rw [e_made (a := y) (b := 7) (by decide) (Nat.lt_of_lt_of_le (show (7 : Int).natAbs < 2 ^ 24 by decide) (pw (by decide)))]
    walk_at "dx"
    have hx2 := ok.2.2.1
    have h72 := ok7.2.2.1
    have hl0 : -(if x.1 < 0 then -x.1 else x.1) ≤ 0 := by split <;> omega
    have hln : (-(if x.1 < 0 then -x.1 else x.1)).natAbs = x.1.natAbs := by split <;> omega
    refine ⟨(-(if x.1 < 0 then -x.1 else x.1), x.2), mk y 7, 9, a3, b3, rfl, ⟨Ok.up (m := 24) ⟨by show (-(if x.1 < 0 then -x.1 else x.1)).natAbs < _; rw [hln]; exact ok.1, ok.2.1, ok.2.2.1, ?_⟩, ok7.up, ?_, by decide, 0, 1, by decide, by decide, ?_, ?_⟩, hb3⟩
    · show gcdI (-(if x.1 < 0 then -x.1 else x.1)) x.2 = 1
      have := ok.2.2.2
      unfold gcdI at this ⊢
      rw [hln]; exact this
    · show -(if x.1 < 0 then -x.1 else x.1) * (mk y 7).2 ≤ (mk y 7).1 * x.2
      have h1 := Int.mul_nonneg y7 (Int.le_of_lt hx2)
      have h2 := Int.mul_nonneg (show 0 ≤ - -(if x.1 < 0 then -x.1 else x.1) by omega) (Int.le_of_lt h72)
      rw [Int.neg_mul] at h2
      omega
    · show -(if x.1 < 0 then -x.1 else x.1) * 1 ≤ 0 * x.2
      omega
    · show 0 * (mk y 7).2 ≤ (mk y 7).1 * 1
      omega
  · walk_at "dx"
    refine (sp_low hb1 (s := 60) (by decide) (by decide)).mono fun r ⟨x, a2, b2, e, ok, hl, hb2⟩ => ?_
    subst e
    walk_at "dx"
    refine (sp_draw hb2 (by decide) (by decide)).mono fun r ⟨y, a3, b3, e, y0, y1, hb3⟩ => ?_
    subst e
    walk_at "dx"
    refine (sp_draw hb3 (by decide) (by decide)).mono fun r ⟨z, a4, b4, e, z0, z1, hb4⟩ => ?_
    subst e
    walk_at "dx"
    have hz : 40 + z ≠ 0 := by omega
    have z40 : (40 + z).natAbs < 2 ^ 24 := Nat.lt_of_le_of_lt (show (40 + z).natAbs ≤ 9999 by omega) (by decide)
    have y7 : (mk y (40 + z)).1 ≥ 0 := by have := mk_le (A := y) (B := 40 + z) (u := 0) (v := 1) (by omega) (by omega); omega
    have okm : Ok 24 (mk y (40 + z)) := mk_ok hz (Nat.lt_of_le_of_lt (show y.natAbs ≤ 99 by omega) (by decide)) z40
    rw [e_made (a := y) hz (Nat.lt_of_lt_of_le z40 (pw (by decide)))]
    walk_at "dx"
    rw [e_sum ok okm]
    walk_at "dx"
    obtain ⟨h0, oks⟩ := sum_ok ok okm.1 okm.2.2.1 okm.2.1
    have hx2 := ok.2.2.1
    have hB : 0 < x.2 * (mk y (40 + z)).2 := Int.mul_pos hx2 okm.2.2.1
    have key : x.1 * (x.2 * (mk y (40 + z)).2) ≤ (x.1 * (mk y (40 + z)).2 + (mk y (40 + z)).1 * x.2) * x.2 := by
      have : (x.1 * (mk y (40 + z)).2 + (mk y (40 + z)).1 * x.2) * x.2 = x.1 * (x.2 * (mk y (40 + z)).2) + (mk y (40 + z)).1 * (x.2 * x.2) := by grind
      have := Int.mul_nonneg y7 (Int.mul_nonneg (Int.le_of_lt hx2) (Int.le_of_lt hx2))
      omega
    exact ⟨x, _, 60, a4, b4, rfl, ⟨ok.up, oks, mk_le hB key, by decide, x.1, x.2, hx2, hl, Int.le_refl _, mk_le hB key⟩, hb4⟩
theorem sp_turned {a b : Int} {x y : Fr} (hb : Pk b) : Sat (mr__law_turned (potO a b) [.sh (frD x), .sh (frD y)]) (fun r => ∃ (z w : Fr) (a b : Int), r = (.sh (.tuple [frD z, frD w]), potO a b) ∧ ((z = x ∧ w = y) ∨ (z = (-y.1, y.2) ∧ w = (-x.1, x.2))) ∧ Pk b) := by
  unfold mr__law_turned ev__law_turned
  unfold frD
  walk_at "dx"
  refine (sp_draw hb (by decide) (by decide)).mono fun r ⟨w, a1, b1, e, w0, w1, hb1⟩ => ?_
  subst e
  walk_at "dx"
  refine Sat.splitD (fun hw => ?_) fun hw => ?_
  · walk_at "dx"
    exact ⟨x, y, a1, b1, rfl, .inl ⟨rfl, rfl⟩, hb1⟩
  · walk_at "dx"
    exact ⟨_, _, a1, b1, rfl, .inr ⟨rfl, rfl⟩, hb1⟩
end K11
set_option exponentiation.threshold 5000
namespace K11
open PySem PySem.Spec PyProof.Rows L2 DX
-- DXSIMP begin
local macro_rules | `(tactic| walk_at "dx") => `(tactic| simp only [b_escs, b_rdTms, b_hardTms, b_softTms, b_esCons, b_opV, b_opL, b_opT, b_eOp, b_rdNil, b_rdCons, b_rdT, b_rdA, b_erS, b_erL, b_eVar, b_eC, b_esNil, b_tTru, b_tBl, b_tAnd, b_tOr, b_tNot, b_eAnd, b_eOr, b_eNot, b_eIf, b_eTup, b_eLst, b_eTupO, b_iR2, k_ints2, b_sExpr, b_eLstO, b_xRaiseF, b_iRev, k_sqdL, k_sqdT, o_listL, o_listT, b_eOpL, k_scOS, b_mvNil, b_mvCons, b_sAppTp, b_erTp, g_hardTp, g_softTp, g_giveTp, k_tpl, k_shTp, b_oSome, b_oNone, b_eSl, b_eMt, b_fn0, b_fnP, b_sRet, b_sAsg, b_gvName, b_gvNil, b_gvCons, b_gvTup, b_gvSub, b_sAsgG, b_sApp, b_sPar, b_sPar3, b_sAppIx, b_sAugI, b_cvsNil, b_cvsCons, b_bindCond, b_condFst, b_condSnd, b_giveT, b_sFor, b_iSq, b_iR1, b_iEnA, wipeE, cYes, at_zero, k_bool, k_int, k_str, k_tup, k_lst, k_list, k_itL, k_itT, k_itSS, k_trN, k_trB, k_trI, k_trSS, k_trL, k_trT, k_scN, k_scB, k_scI, k_scS, k_scL, k_scT, k_shS, k_shL, k_softT, k_hardT, k_cvT, k_softNil, k_softCons, k_hardNil, k_hardCons, g_hard, g_soft, g_cv, g_give, g_hardS, g_hardL, g_softS, g_softL, g_cvS, g_giveS, g_giveL, g_allSh, g_erSh, List.all_cons, List.all_nil, k_retR, k_retN, k_alA, k_hd, k_two, k_three, k_sh, k_odT, k_enS, k_enL, o_addI, o_addS, o_addL, o_sub, o_neg, o_ltI, o_leI, o_gtI, o_geI, o_lenS, o_lenL, o_lenT, o_abs, o_max, o_int, o_ixL, o_ixT, o_ixSS, o_slS, o_slL, o_in1S, o_ni1S, o_eqS, o_neS, o_eqI, o_neI, o_mul, o_div, o_mod, o_pow, o_divmod, z_ble0, z_ble1, z_ble2, z_ble3, z_ble4, z_ble5, z_ble6, z_ble7, z_ble8, z_ble9, z_ble10, z_ble13, z_ble17, S_l, S_len, S_app, es1, es2, startE, sNext, pk, DX.inR, Nat.beq, Nat.ble, List.any_cons, List.any_nil, List.filterMap_cons, List.filterMap_nil, Option.bind_some, Option.bind_none, cond_true, cond_false, decide_true, decide_false, List.map_cons, List.map_nil, List.length_cons, List.length_nil, List.length_map, List.length_set, List.getElem?_cons_zero, List.getElem?_cons_succ, List.cons_append, List.nil_append, List.set_cons_zero, List.set_cons_succ, List.replicate, Nat.reduceAdd, Nat.reduceSub, Nat.zero_add, Int.toNat_natCast, Bool.not_true, Bool.not_false, Bool.or_self, Bool.or_false, Bool.false_or, Bool.and_self, Bool.and_true, Bool.true_and, Bool.and_false, Bool.false_and, Bool.true_or, Bool.or_true, z_some, z_none, z_bind, z_then, z_map, z_mapK, b_eLc, lcStep, forStep, at_0, at_1, at_2, at_3, at_4, at_5, at_m1, ix_0, ix_1, ix_m1, blt_00, blt_0s, blt_12, blt_02, z_ifK, z_guard, z_guardN, z_seqN, z_seqR, z_seqB, z_seqC, z_sSeq, z_sIf, z_forN, z_forC, z_forB, z_forR, r_P1, r_P2, k_condSomeP, k_condNx, k_condEn, k_condSl, k_condPair, k_condTm, k_condSh, k_condI, k_condB, k_condAnd, k_condOr, k_condNot, o_gcd, k_condAndL, k_condOrL, b_jNil, b_jCons, b_eJoin, t_str, str_len, str_empty, Int.cast_ofNat_Int, Int.reduceEq, Int.reduceLT, Int.reduceLE, Int.reduceNeg, Int.reduceAdd, Int.reduceSub, Int.reduceMul, Int.reduceToNat, Int.reducePow, Nat.reduceLT, Nat.reduceLeDiff, Nat.reduceEqDiff, Nat.reduceMul, k_condSelf, x_no, x_raise, x_seqNo, b_xIf, x_inr, x_inl, b_xFn, o_neSelf, o_eqSelf, i_boolN, i_boolB, i_boolI, i_boolS, i_boolL, i_boolT, i_intN, i_intB, i_intI, i_intS, i_intL, i_intT, i_strN, i_strB, i_strI, i_strS, i_strL, i_strT, i_listN, i_listB, i_listI, i_listS, i_listL, i_listT, i_tupleN, i_tupleB, i_tupleI, i_tupleS, i_tupleL, i_tupleT, at_nat, decide_eq_true_eq, decide_eq_false_iff_not, Nat.ble_eq, and_true, true_and, Option.map_some, Option.isSome_some])
local macro_rules | `(tactic| walk_at "dxs") => `(tactic| simp only [b_escs, b_rdTms, b_hardTms, b_softTms, b_esCons, b_opV, b_opL, b_opT, b_eOp, b_rdNil, b_rdCons, b_rdT, b_rdA, b_erS, b_erL, b_eVar, b_eC, b_esNil, b_tTru, b_tBl, b_tAnd, b_tOr, b_tNot, b_eAnd, b_eOr, b_eNot, b_eIf, b_eTup, b_eLst, b_eTupO, b_iR2, k_ints2, b_sExpr, b_eLstO, b_xRaiseF, b_iRev, k_sqdL, k_sqdT, o_listL, o_listT, b_eOpL, k_scOS, b_mvNil, b_mvCons, b_sAppTp, b_erTp, g_hardTp, g_softTp, g_giveTp, k_tpl, k_shTp, b_oSome, b_oNone, b_eSl, b_eMt, b_fn0, b_fnP, b_sRet, b_sAsg, b_gvName, b_gvNil, b_gvCons, b_gvTup, b_gvSub, b_sAsgG, b_sApp, b_sPar, b_sPar3, b_sAppIx, b_sAugI, b_cvsNil, b_cvsCons, b_bindCond, b_condFst, b_condSnd, b_giveT, b_sFor, b_iSq, b_iR1, b_iEnA, wipeE, cYes, at_zero, k_bool, k_int, k_str, k_tup, k_lst, k_list, k_itL, k_itT, k_itSS, k_trN, k_trB, k_trI, k_trSS, k_trL, k_trT, k_scN, k_scB, k_scI, k_scS, k_scL, k_scT, k_shS, k_shL, k_softT, k_hardT, k_cvT, k_softNil, k_softCons, k_hardNil, k_hardCons, g_hard, g_soft, g_cv, g_give, g_hardS, g_hardL, g_softS, g_softL, g_cvS, g_giveS, g_giveL, g_allSh, g_erSh, List.all_cons, List.all_nil, k_retR, k_retN, k_alA, k_hd, k_two, k_three, k_sh, k_odT, k_enS, k_enL, o_addI, o_addS, o_addL, o_sub, o_neg, o_ltI, o_leI, o_gtI, o_geI, o_lenS, o_lenL, o_lenT, o_abs, o_max, o_int, o_ixL, o_ixT, o_ixSS, o_slS, o_slL, o_in1S, o_ni1S, o_eqS, o_neS, o_eqI, o_neI, o_mul, o_div, o_mod, o_pow, o_divmod, z_ble0, z_ble1, z_ble2, z_ble3, z_ble4, z_ble5, z_ble6, z_ble7, z_ble8, z_ble9, z_ble10, z_ble13, z_ble17, S_l, S_len, S_app, es1, es2, startE, sNext, pk, DX.inR, Nat.beq, Nat.ble, List.any_cons, List.any_nil, List.filterMap_cons, List.filterMap_nil, Option.bind_some, Option.bind_none, cond_true, cond_false, decide_true, decide_false, List.map_cons, List.map_nil, List.length_cons, List.length_nil, List.length_map, List.length_set, List.getElem?_cons_zero, List.getElem?_cons_succ, List.cons_append, List.nil_append, List.set_cons_zero, List.set_cons_succ, List.replicate, Nat.reduceAdd, Nat.reduceSub, Nat.zero_add, Int.toNat_natCast, Bool.not_true, Bool.not_false, Bool.or_self, Bool.or_false, Bool.false_or, Bool.and_self, Bool.and_true, Bool.true_and, Bool.and_false, Bool.false_and, Bool.true_or, Bool.or_true, z_some, z_none, z_bind, z_then, z_map, z_mapK, b_eLc, lcStep, forStep, at_0, at_1, at_2, at_3, at_4, at_5, at_m1, ix_0, ix_1, ix_m1, blt_00, blt_0s, blt_12, blt_02, z_ifK, z_guard, z_guardN, z_seqN, z_seqR, z_seqB, z_seqC, z_sSeq, z_sIf, z_forN, z_forC, z_forB, z_forR, r_P1, r_P2, k_condSomeP, k_condNx, k_condEn, k_condSl, k_condPair, k_condTm, k_condSh, k_condI, k_condB, k_condAnd, k_condOr, k_condNot, o_gcd, k_condAndL, k_condOrL, b_jNil, b_jCons, b_eJoin, t_str, str_len, str_empty, Int.cast_ofNat_Int, Int.reduceEq, Int.reduceLT, Int.reduceLE, Int.reduceNeg, Int.reduceAdd, Int.reduceSub, Int.reduceMul, Int.reduceToNat, Int.reducePow, Nat.reduceLT, Nat.reduceLeDiff, Nat.reduceEqDiff, Nat.reduceMul, k_condSelf, x_no, x_raise, x_seqNo, b_xIf, x_inr, x_inl, b_xFn, o_neSelf, o_eqSelf, i_boolN, i_boolB, i_boolI, i_boolS, i_boolL, i_boolT, i_intN, i_intB, i_intI, i_intS, i_intL, i_intT, i_strN, i_strB, i_strI, i_strS, i_strL, i_strT, i_listN, i_listB, i_listI, i_listS, i_listL, i_listT, i_tupleN, i_tupleB, i_tupleI, i_tupleS, i_tupleL, i_tupleT, at_nat, decide_eq_true_eq, decide_eq_false_iff_not, Nat.ble_eq, and_true, true_and, Option.map_some, Option.isSome_some, *])
-- DXSIMP end
theorem euc_pts {l : List Int} (ne : l ≠ []) (tl : Pos l.tail) : euc (st l).1 (st l).2 = can l := by
  cases l with
  | nil => exact absurd rfl ne
  | cons p ps => exact euc_st p ps tl
theorem rp_two {x y : PyData} {k n : Nat} (h1 : Rp k n x) (h2 : Rp k n y) : Rp (k + 1) (2 * (n + 1) + 1) (.list [x, y]) := Rp.lst (ds := [x, y]) (Rps.cons h1 (Rps.cons h2 Rps.nil))
theorem st_den {l : List Int} (ne : l ≠ []) (tl : Pos l.tail) : 0 < (st l).2 := by
  cases l with
  | nil => exact absurd rfl ne
  | cons p ps => exact (st_pos (l := ps) tl).1
theorem sgn_rp (x : Int) : (sgn x).natAbs < 2 ^ 15 := by
  unfold sgn
  cases decide (x = 0) <;> cases decide (0 < x) <;> decide
theorem rp_tri {x y : Int} (h1 : x.natAbs < 2 ^ 15) (h2 : y.natAbs < 2 ^ 15) : opRepr [.list [.int x, .int y, .int 0]] = some (.val (.str (PyData.list [.int x, .int y, .int 0]).shown)) :=
  (Rp.mono (Rp.lst (k := 1) (n := 17) (ds := [.int x, .int y, .int 0]) (Rps.cons (Rp.intN h1) (Rps.cons (Rp.intN h2) (Rps.cons (Rp.intN (by decide)) Rps.nil)))) (Nat.le_refl 2) (show _ ≤ 100 from by show 3 * 18 + 1 ≤ 100; decide)).rep
theorem e_parts_right {a b : Int} (hb : Pk b) : Sat (mr__law_parts_right (potO a b) []) (fun r => ∃ a b, r = (.sh (.bool true), potO a b) ∧ Pk b) := by
  unfold mr__law_parts_right ev__law_parts_right
  walk_at "dx"
  refine (sp_row hb).mono fun r ⟨l, a1, b1, e, R, hb1⟩ => ?_
  subst e
  unfold intsO
  walk_at "dx"
  have hr : ∀ l : List Int, PyData.list ((l.map fun q => OD.sh (.int q)).map OD.er) = intsD l := fun l => intsO_er l
  rw [hr]
  refine (sp_near hb1 R).mono fun r ⟨m, a20, b20, e, n1, n2, n3, n4, hb2⟩ => ?_
  subst e
  have P1 : Pts l := pts_of R.ne R.tl (row_sml R) (by have := R.len; omega)
  have P2 : Pts m := pts_of n1 n2 n3 n4
  have ll := R.len
  have s1 := st_sm (row_sml R)
  have s2 := st_sm n3
  have d1 := st_den R.ne R.tl
  have d2 := st_den n1 n2
  have v1 : (st l).1.natAbs < 2 ^ 800 ∧ (st l).2.natAbs < 2 ^ 800 := ⟨Nat.lt_of_lt_of_le s1.1 (pw (by omega)), Nat.lt_of_lt_of_le s1.2 (pw (by omega))⟩
  have v2 : (st m).1.natAbs < 2 ^ 800 ∧ (st m).2.natAbs < 2 ^ 800 := ⟨Nat.lt_of_lt_of_le s2.1 (pw (by omega)), Nat.lt_of_lt_of_le s2.2 (pw (by omega))⟩
  have c1 : (can l).length ≤ 45 := by have := can_len l; omega
  have c2 : (can m).length ≤ 45 := by have := can_len m; omega
  have t1 : Sm (st l).1 ∧ Sm (st l).2 := P1.dr 0
  have t2 : Sm (st m).1 ∧ Sm (st m).2 := P2.dr 0
  have u1 := euc_pts R.ne R.tl
  have u2 := euc_pts n1 n2
  have w1 : (euc (st l).1 (st l).2).length ≤ 1000 := by rw [u1]; omega
  have w2 : (euc (st m).1 (st m).2).length ≤ 1000 := by rw [u2]; omega
  have x1 := (rp_two (rp_ints (m := 45) (fun p hp => Nat.lt_of_lt_of_le (row_sml R p hp) (pw (by decide))) (by omega)) (rp_ints (m := 45) (fun p hp => Nat.lt_of_lt_of_le (n3 p hp) (pw (by decide))) n4)).rep
  have x2 := (rp_two (rp_fr v1.1 v1.2) (rp_fr v2.1 v2.2)).rep
  have x3 := (rp_two (rp_ints (m := 45) (can_sm (row_sml R)) c1) (rp_ints (m := 45) (can_sm n3) c2)).rep
  have x4 := (rp_ints (m := 45) (can_sm (row_sml R)) c1).rep
  have x5 := rp_tri (x := sgn ((st l).1 * (st m).2 - (st m).1 * (st l).2)) (y := sgn ((st m).1 * (st l).2 - (st l).1 * (st m).2)) (sgn_rp _) (sgn_rp _)
  have a1 := e_stands P1
  have a2 := e_stands P2
  have a3 := e_of_parts P1
  have a4 := e_of_parts P2
  have a5 := e_parts t1.1 t1.2 w1
  have a6 := e_parts t2.1 t2.2 w2
  have a7 := e_lparts t1.1 t1.2 w1
  have a8 := e_lparts t2.1 t2.2 w2
  have a9 := e_compare_parts t1.1 t1.2 t2.1 t2.2 d1 d2 w1 w2
  have a10 := e_compare_parts t2.1 t2.2 t1.1 t1.2 d2 d1 w2 w1
  have a11 := e_compare_parts t1.1 t1.2 t1.1 t1.2 d1 d1 w1 w1
  have a12 := e_less t1.1 t1.2 t2.1 t2.2
  have a13 := e_less t2.1 t2.2 t1.1 t1.2
  have a14 := e_no_parts
  rw [show (st l).1 * (st l).2 - (st l).1 * (st l).2 = 0 by omega, sgn_0] at a11
  rw [fr_d] at a5 a6 a7 a8 a9 a10 a11 a12 a13
  rw [fr_d] at a9 a10 a12 a13
  unfold eucO at a5 a6 a7 a8
  rw [u1] at a5 a7
  rw [u2] at a6 a8
  have c3 : Nat.blt (can l).length sizeLine = true := Nat.ble_eq_true_of_le (Nat.le_trans (show _ ≤ 60 by omega) (by decide))
  clear c1 c2 t1 t2 w1 w2 v1 v2 s1 s2 d1 d2 P1 P2 u1 u2 n1 n2 n3 n4 R hb hb1
  have hs1 : ∀ z : Fr, isSc (frD z) = false := fun _ => rfl
  have hs2 : ∀ z : List Int, isSc (intsD z) = false := fun _ => rfl
  unfold intsO
  walk_at "dxs"
  exact ⟨by decide, by decide, a20, b20, rfl, hb2⟩
theorem e_crossed {x y : Fr} (h : x.1 * y.2 < y.1 * x.2) (ok1 : Ok 400 x) (ok2 : Ok 400 y) : mr__law_crossed_right [.sh (frD x), .sh (frD y)] = some (.sh (.bool true)) := by
  obtain ⟨s1, s2⟩ := ok1.sm (by decide)
  obtain ⟨s3, s4⟩ := ok2.sm (by decide)
  have q1 := x_simplest (a := y.1) (b := y.2) (c := x.1) (d := x.2) h s3 s4 s1 s2
  have q2 := x_simplest_plain (a := y.1) (b := y.2) (c := x.1) (d := x.2) h s3 s4 s1 s2
  have hs1 : ∀ z : Fr, isSc (frD z) = false := fun _ => rfl
  refine eq_of_sat ?_
  unfold mr__law_crossed_right ev__law_crossed_right
  walk_at "dx"
  refine Sat.tryX (x := (3, [])) (os1 := [some (.sh (frD x)), some (.sh (frD y)), some (.lst []), none]) (res := .nx [some (.sh (frD x)), some (.sh (frD y)), some (.lst [.sh (.bool true)]), none]) ?_ (by decide) (fun e => ?_) ?_
  · clear q2
    refine eq_of_sat ?_
    walk_at "dxs"
  · refine suAs_eq (res := .nx [some (.sh (frD x)), some (.sh (frD y)), some (.lst [.sh (.bool true)]), some (.sh (excD e (3, [])))]) (show (3 : Nat) < 4 by decide) (eq_of_sat ?_)
    walk_at "dx"
    rw [o_isE, show errSub (3, ([] : List (Str × PyData))).1 0 = true from rfl]
    walk_at "dx"
    rw [o_isE, show errSubB (3, ([] : List (Str × PyData))).1 "ValueError" = true from rfl]
    walk_at "dx"
    decide
  walk_at "dx"
  refine Sat.tryX (x := (3, [])) (os1 := [some (.sh (frD x)), some (.sh (frD y)), some (.lst [.sh (.bool true)]), none]) (res := .nx [some (.sh (frD x)), some (.sh (frD y)), some (.lst [.sh (.bool true), .sh (.bool true)]), none]) ?_ (by decide) (fun e => ?_) ?_
  · clear q1
    refine eq_of_sat ?_
    walk_at "dxs"
  · refine suAs_eq (res := .nx [some (.sh (frD x)), some (.sh (frD y)), some (.lst [.sh (.bool true), .sh (.bool true)]), some (.sh (excD e (3, [])))]) (show (3 : Nat) < 4 by decide) (eq_of_sat ?_)
    walk_at "dx"
    rw [o_isE, show errSub (3, ([] : List (Str × PyData))).1 3 = true from rfl]
    walk_at "dx"
    rw [o_isE, show errSubB (3, ([] : List (Str × PyData))).1 "LookupError" = false from rfl]
    walk_at "dx"
    decide
  walk_at "dx"
  rw [show opRepr [.list [.bool true, .bool true]] = some (.val (.str (PyData.list [.bool true, .bool true]).shown)) from o_reprL rfl (by decide) (by decide)]
  walk_at "dx"
  rw [show (PyData.list [.bool true, .bool true]).shown = Str.ofString "[True, True]" by decide]
  walk_at "dx"
theorem fr_eq {x y : Fr} (h1 : gcdI x.1 x.2 = 1) (h2 : gcdI y.1 y.2 = 1) (p1 : 0 < x.2) (p2 : 0 < y.2) (e : x.1 * y.2 = y.1 * x.2) : x = y := by
  have c1 : Nat.Coprime x.2.natAbs x.1.natAbs := by have : Nat.gcd x.1.natAbs x.2.natAbs = 1 := by unfold gcdI at h1; omega
                                                    exact Nat.Coprime.symm this
  have c2 : Nat.Coprime y.2.natAbs y.1.natAbs := by have : Nat.gcd y.1.natAbs y.2.natAbs = 1 := by unfold gcdI at h2; omega
                                                    exact Nat.Coprime.symm this
  have en : x.1.natAbs * y.2.natAbs = y.1.natAbs * x.2.natAbs := by rw [← Int.natAbs_mul, ← Int.natAbs_mul, e]
  have d1 : x.2.natAbs ∣ y.2.natAbs := c1.dvd_of_dvd_mul_left ⟨y.1.natAbs, by rw [en, Nat.mul_comm]⟩
  have d2 : y.2.natAbs ∣ x.2.natAbs := c2.dvd_of_dvd_mul_left ⟨x.1.natAbs, by rw [← en, Nat.mul_comm]⟩
  have e2 : x.2 = y.2 := by have := Nat.dvd_antisymm d1 d2; omega
  rw [e2] at e
  have e1 := Int.eq_of_mul_eq_mul_right (by omega) e
  exact Prod.ext e1 e2
theorem near_or (f l : Int) : near f l = f ∨ near f l = l ∨ near f l = 0 := by
  unfold near
  cases decide (0 < f) <;> cases decide (l < 0) <;> simp
theorem Simp.small {a b c d : Int} {z : Fr} (S : Simp a b c d z) (ok1 : Ok 400 (a, b)) (ok2 : Ok 400 (c, d)) (hz : z.2.natAbs < 2 ^ 100) : z.1.natAbs < 2 ^ 800 ∧ z.2.natAbs < 2 ^ 800 := by
  refine ⟨?_, Nat.lt_of_lt_of_le hz (pw (by decide))⟩
  have h1 : (a * z.2).natAbs < 2 ^ 500 := wide_lt (a := 400) (b := 100) ok1.1 hz
  have h2 : (c * z.2).natAbs < 2 ^ 500 := wide_lt (a := 400) (b := 100) ok2.1 hz
  have h3 : (cl (a * z.2) b).natAbs < 2 ^ 501 := by
    unfold cl
    rw [Int.natAbs_neg]
    exact div_le ok1.2.2.1 (by rw [Int.natAbs_neg]; exact h1)
  have h4 : (divV (c * z.2) d).natAbs < 2 ^ 501 := div_le ok2.2.2.1 h2
  rw [← S.nr]
  rcases near_or (cl (a * z.2) b) (divV (c * z.2) d) with e | e | e
  · rw [e]; exact Nat.lt_of_lt_of_le h3 (pw (by decide))
  · rw [e]; exact Nat.lt_of_lt_of_le h4 (pw (by decide))
  · rw [e]; exact Nat.pow_pos (by decide)
theorem e_between {a b : Int} (hb : Pk b) : Sat (mr__law_between_right (potO a b) []) (fun r => ∃ a b, r = (.sh (.bool true), potO a b) ∧ Pk b) := by
  unfold mr__law_between_right ev__law_between_right
  walk_at "dx"
  refine (sp_bounds hb).mono fun r ⟨x, y, lim, a1, b1, e, B, hb1⟩ => ?_
  subst e
  walk_at "dx"
  refine (sp_turned hb1).mono fun r ⟨z, w, a2, b2, e, hzw, hb2⟩ => ?_
  subst e
  have B2 : Bnd z w lim := by
    rcases hzw with ⟨rfl, rfl⟩ | ⟨rfl, rfl⟩
    · exact B
    · exact B.turn
  clear hzw B
  obtain ⟨ok1, ok2, hle, l1, u, v, v0, v1, hin⟩ := B2
  have S := sim_ok ok1.2.2.1 ok2.2.2.1 hle
  have hz := S.min u v v0 hin
  have p := S.pos
  have sm := S.small ok1 ok2 (Nat.lt_of_le_of_lt (show _ ≤ 100 by omega) (Nat.lt_of_lt_of_le (show 100 < 2 ^ 7 by decide) (pw (by decide))))
  have q1 := e_lsimplest S ok1 ok2 (Int.le_trans hz v1) l1
  have q2 := e_simplest hle ok1 ok2
  have q3 := e_simplest_plain S hle ok1 ok2 (by omega)
  have q4 := (rp_two (rp_fr sm.1 sm.2) (rp_fr sm.1 sm.2)).rep
  have q5 : ∀ x y : Fr, opNe [frD x, frD y] = some (.val (.bool (!decide (x = y)))) := fun _ _ => o_neFr
  have hs1 : ∀ z : Fr, isSc (frD z) = false := fun _ => rfl
  rcases Int.lt_or_eq_of_le hle with hlt | heq
  · have q6 := e_crossed hlt ok1 ok2
    have q7 : decide (z = w) = false ∨ decide (z = w) = true := by cases decide (z = w) <;> simp
    clear hz p sm hin v1 v0 l1 S ok1 ok2 hle hlt
    rcases q7 with q7 | q7
    · walk_at "dxs"
      exact ⟨a2, b2, rfl, hb2⟩
    · walk_at "dxs"
      exact ⟨a2, b2, rfl, hb2⟩
  · have q6 : decide (z = w) = true := decide_eq_true (fr_eq ok1.2.2.2 ok2.2.2.2 ok1.2.2.1 ok2.2.2.1 heq)
    clear hz p sm hin v1 v0 l1 S ok1 ok2 hle heq
    walk_at "dxs"
    exact ⟨a2, b2, rfl, hb2⟩
theorem sim_self {a b : Int} (ok : Ok 400 (a, b)) : sim a b a b = (a, b) := by
  have hb : 0 < b := ok.2.2.1
  have S := sim_ok (a := a) (b := b) (c := a) (d := b) hb hb (Int.le_refl _)
  obtain ⟨⟨u1, u2⟩, w1, w2⟩ := of_has hb hb S.has
  refine fr_eq S.gcd ok.2.2.2 S.pos hb ?_
  have e1 := S.nr
  have k1 : cl (a * (sim a b a b).2) b * b = a * (sim a b a b).2 := by omega
  have k2 : divV (a * (sim a b a b).2) b * b = a * (sim a b a b).2 := by omega
  have k3 : divV (a * (sim a b a b).2) b = cl (a * (sim a b a b).2) b := Int.eq_of_mul_eq_mul_right (by omega) (k2.trans k1.symm)
  rw [k3] at e1
  have k4 : near (cl (a * (sim a b a b).2) b) (cl (a * (sim a b a b).2) b) = cl (a * (sim a b a b).2) b := by
    rcases Int.lt_trichotomy 0 (cl (a * (sim a b a b).2) b) with h | h | h
    · exact near_pos h
    · rw [← h]; rfl
    · exact near_neg (by omega) h
  rw [k4] at e1
  rw [← e1, k1]
def alD : List PyData := [.str "belows", .int 2000, .bool true, .bool false]
theorem sp_below {d : PyData} {x : Int} (h : d ∈ [PyData.int 1999, .int 2000, .int 2001, .int 2003, .int (1998 + x)]) (x0 : 0 ≤ x) (x1 : x < 1000000) : ∃ y : Int, d = .int y ∧ 0 < y ∧ y < 2000000 := by
  simp only [List.mem_cons, List.not_mem_nil, or_false] at h
  rcases h with rfl | rfl | rfl | rfl | rfl <;> exact ⟨_, rfl, by omega, by omega⟩
theorem e_alone {a b : Int} (hb : Pk b) : Sat (mr__law_alone_right (potO a b) []) (fun r => ∃ a b, r = (.sh (.bool true), potO a b) ∧ Pk b) := by
  unfold mr__law_alone_right ev__law_alone_right
  have p6 : powFits 10 6 = true := by decide
  walk_at "dx"
  rw [p6]
  walk_at "dx"
  refine (sp_draw hb (n := 1000000) (by decide) (by decide)).mono fun r ⟨x, a1, b1, e, x0, x1, hb1⟩ => ?_
  subst e
  walk_at "dx"
  refine (sp_pick hb1 (Nat.le_of_ble_eq_true rfl) (Nat.le_of_ble_eq_true rfl)).mono fun r ⟨d, a2, b2, e, hd, hb2⟩ => ?_
  subst e
  obtain ⟨y, rfl, y0, y1⟩ := sp_below hd x0 x1
  walk_at "dx"
  rw [p6]
  walk_at "dx"
  refine (sp_draw hb2 (n := 1000000) (by decide) (by decide)).mono fun r ⟨t, a3, b3, e, t0, t1, hb3⟩ => ?_
  subst e
  have hy : y.natAbs < 2 ^ 24 := Nat.lt_of_le_of_lt (show _ ≤ 2000000 by omega) (by decide)
  have m1 := e_made (a := 1 + t) (b := y) (by omega) (Nat.lt_of_lt_of_le hy (pw (by decide)))
  have ok : Ok 24 (mk (1 + t) y) := mk_ok (by omega) (Nat.lt_of_le_of_lt (show _ ≤ 2000000 by omega) (by decide)) hy
  generalize mk (1 + t) y = o at m1 ok
  walk_at "dx"
  rw [m1]
  walk_at "dx"
  refine (sp_turned hb3).mono fun r ⟨z, w, a4, b4, e, hzw, hb4⟩ => ?_
  subst e
  have hz : z = w ∧ z.2 = o.2 ∧ Ok 400 z := by
    rcases hzw with ⟨rfl, rfl⟩ | ⟨rfl, rfl⟩
    · exact ⟨rfl, rfl, ok.up⟩
    · exact ⟨rfl, rfl, ok_ng ok.up⟩
  obtain ⟨rfl, hz2, okz⟩ := hz
  clear hzw
  have hs1 : ∀ z : Fr, isSc (frD z) = false := fun _ => rfl
  have hix : opIx [frD o, .int 1] = some (.val (.int o.2)) := rfl
  have S := sim_ok (a := z.1) (b := z.2) (c := z.1) (d := z.2) okz.2.2.1 okz.2.2.1 (Int.le_refl _)
  have q1 := e_simplest (Int.le_refl _) okz okz
  rw [sim_self okz] at S q1
  have q2 := (rp_fr (z := z) (Nat.lt_of_lt_of_le okz.1 (pw (by decide))) (Nat.lt_of_lt_of_le okz.2.1 (pw (by decide)))).rep
  walk_at "dx"
  rcases Int.lt_or_le 2000 o.2 with ho | ho
  · have q3 := x_plain_most S (Int.le_refl _) okz okz (by omega)
    have ho' : decide (o.2 ≤ 2000) = false := decide_eq_false (by omega)
    have q4 : opRepr [.list [.str "belows", .int 2000, .bool true, .bool false]] = some (.val (.str (PyData.list [.str "belows", .int 2000, .bool true, .bool false]).shown)) := o_reprL (by simp only [lgB, lgAll, strOk_ofString, Bool.true_and, Bool.and_true]; exact Nat.ble_eq_true_of_le (Nat.le_trans (show 2001 ≤ 2 ^ 11 by decide) (pw (by decide)))) (by decide) (by decide)
    clear S hz2 okz ok m1 hd ho
    walk_at "dxs"
    refine Sat.tryX (x := (6, fldV ["what", "limit"] [.str "belows", .int 2000])) (os1 := [some (potO a4 b4), some (OD.sh (PyData.int y)), some (OD.sh (frD o)), some (OD.lst []), none, some (OD.sh (frD z)), some (OD.sh (frD z))])
      (res := .nx [some (potO a4 b4), some (OD.sh (PyData.int y)), some (OD.sh (frD o)), some (.lst [.sh (.str "belows"), .sh (.int 2000), .sh (.bool true), .sh (.bool false)]), none, some (OD.sh (frD z)), some (OD.sh (frD z))]) ?_ (by decide) (fun e => ?_) ?_
    · clear q4
      refine eq_of_sat ?_
      walk_at "dxs"
    · refine suAs_eq (res := .nx [some (potO a4 b4), some (OD.sh (PyData.int y)), some (OD.sh (frD o)), some (.lst [.sh (.str "belows"), .sh (.int 2000), .sh (.bool true), .sh (.bool false)]), some (.sh (excD e (6, fldV ["what", "limit"] [.str "belows", .int 2000]))), some (OD.sh (frD z)), some (OD.sh (frD z))]) (show (4 : Nat) < 7 by decide) (eq_of_sat ?_)
      walk_at "dx"
      rw [o_fld (d := .str "belows") rfl rfl]
      walk_at "dx"
      rw [o_fld (d := .int 2000) rfl rfl]
      walk_at "dx"
      rw [o_isE, show errSub (6, (fldV ["what", "limit"] [.str "belows", .int 2000] : List (Str × PyData))).1 2 = true from rfl]
      walk_at "dx"
      rw [o_isE, show errSubB (6, (fldV ["what", "limit"] [.str "belows", .int 2000] : List (Str × PyData))).1 "ValueError" = false from rfl]
      walk_at "dx"
    walk_at "dxs"
    exact ⟨a4, b4, rfl, hb4⟩
  · have q3 := e_simplest_plain S (Int.le_refl _) okz okz (by omega)
    have ho' : decide (o.2 ≤ 2000) = true := decide_eq_true ho
    clear S hz2 okz ok m1 hd ho
    walk_at "dxs"
    exact ⟨a4, b4, rfl, hb4⟩
theorem law_holds : ∀ ns : List Int, ns.length ≤ 63 → (∀ i ∈ ns, Builtin.Int.intBits i ≤ 1048576) → mr_law [.sh (.list (ns.map PyData.int))] = some (.sh (.bool true)) := by
  intro ns _ _
  refine eq_of_sat ?_
  unfold mr_law ev_law
  walk_at "dx"
  refine (sp_pot (.inl rfl)).mono fun r ⟨a, b, e, hb⟩ => ?_
  subst e
  walk_at "dx"
  refine (e_parts_right hb).mono fun r ⟨a1, b1, e, hb1⟩ => ?_
  subst e
  walk_at "dx"
  refine (e_between hb1).mono fun r ⟨a2, b2, e, hb2⟩ => ?_
  subst e
  walk_at "dx"
  refine (sp_pot (.inr rfl)).mono fun r ⟨a3, b3, e, hb3⟩ => ?_
  subst e
  walk_at "dx"
  refine (sp_draw hb3 (by decide) (by decide)).mono fun r ⟨w, a4, b4, e, w0, w1, hb4⟩ => ?_
  subst e
  walk_at "dx"
  refine Sat.splitD (fun hw => ?_) fun hw => ?_
  · walk_at "dx"
    refine (e_alone hb4).mono fun r ⟨a5, b5, e, hb5⟩ => ?_
    subst e
    walk_at "dx"
  · walk_at "dx"
    refine (e_between hb4).mono fun r ⟨a5, b5, e, hb5⟩ => ?_
    subst e
    walk_at "dx"
end K11
/-! the walk (printed by genwalk.py). -/
namespace K11
open PySem PySem.Spec PyProof.Rows L2 DX
def topS (i : Nat) : Stmt := PySem.Challenge.pw_allreadings_k11_whole_parts_and_simplest.main.body.getD i (.Pass ⟨0, 0, 0, 0⟩)
abbrev s_want_at_most : Stmt := topS 10
abbrev s_fraction : Stmt := topS 14
abbrev s_whole : Stmt := topS 15
abbrev s_plus : Stmt := topS 16
abbrev s_minus : Stmt := topS 17
abbrev s_opposite : Stmt := topS 18
abbrev s_over : Stmt := topS 19
abbrev s_sign_of : Stmt := topS 20
abbrev s_compare : Stmt := topS 21
abbrev s_floor_of : Stmt := topS 22
abbrev s_ceiling_of : Stmt := topS 23
abbrev s_parts_of : Stmt := topS 26
abbrev s_of_parts : Stmt := topS 27
abbrev s_compare_by_parts : Stmt := topS 28
abbrev s_want_in_order : Stmt := topS 29
abbrev s_nearest_to_nought : Stmt := topS 30
abbrev s_simplest_plain : Stmt := topS 31
abbrev s_simplest_above : Stmt := topS 32
abbrev s_simplest : Stmt := topS 33
abbrev s__law_pot : Stmt := topS 35
abbrev s__law_draw : Stmt := topS 36
abbrev s__law_pick : Stmt := topS 37
abbrev s__law_gcd : Stmt := topS 38
abbrev s__law_made : Stmt := topS 39
abbrev s__law_parts : Stmt := topS 40
abbrev s__law_stands : Stmt := topS 41
abbrev s__law_row : Stmt := topS 42
abbrev s__law_near : Stmt := topS 43
abbrev s__law_less : Stmt := topS 44
abbrev s__law_no_parts : Stmt := topS 45
abbrev s__law_parts_right : Stmt := topS 46
abbrev s__law_nearest : Stmt := topS 47
abbrev s__law_simplest : Stmt := topS 48
abbrev s__law_low : Stmt := topS 49
abbrev s__law_sum : Stmt := topS 50
abbrev s__law_turned : Stmt := topS 51
abbrev s__law_bounds : Stmt := topS 52
abbrev s__law_crossed_right : Stmt := topS 53
abbrev s__law_between_right : Stmt := topS 54
abbrev s__law_alone_right : Stmt := topS 55
abbrev s_law : Stmt := topS 56
theorem sc_want_at_most : FnScope ["what", "limit", "number"] ["what", "limit", "number"] (defScope s_want_at_most) := ⟨rfl, rfl, rfl, by decide +kernel, rfl, by decide +kernel, by decide +kernel⟩
theorem sc_fraction : FnScope ["above", "below", "divisor"] ["above", "below"] (defScope s_fraction) := ⟨rfl, rfl, rfl, by decide +kernel, rfl, by decide +kernel, by decide +kernel⟩
theorem sc_whole : FnScope ["number"] ["number"] (defScope s_whole) := ⟨rfl, rfl, rfl, by decide +kernel, rfl, by decide +kernel, by decide +kernel⟩
theorem sc_plus : FnScope ["a", "b"] ["a", "b"] (defScope s_plus) := ⟨rfl, rfl, rfl, by decide +kernel, rfl, by decide +kernel, by decide +kernel⟩
theorem sc_minus : FnScope ["a", "b"] ["a", "b"] (defScope s_minus) := ⟨rfl, rfl, rfl, by decide +kernel, rfl, by decide +kernel, by decide +kernel⟩
theorem sc_opposite : FnScope ["a"] ["a"] (defScope s_opposite) := ⟨rfl, rfl, rfl, by decide +kernel, rfl, by decide +kernel, by decide +kernel⟩
theorem sc_over : FnScope ["a", "b"] ["a", "b"] (defScope s_over) := ⟨rfl, rfl, rfl, by decide +kernel, rfl, by decide +kernel, by decide +kernel⟩
theorem sc_sign_of : FnScope ["a"] ["a"] (defScope s_sign_of) := ⟨rfl, rfl, rfl, by decide +kernel, rfl, by decide +kernel, by decide +kernel⟩
theorem sc_compare : FnScope ["a", "b", "left", "right"] ["a", "b"] (defScope s_compare) := ⟨rfl, rfl, rfl, by decide +kernel, rfl, by decide +kernel, by decide +kernel⟩
theorem sc_floor_of : FnScope ["a"] ["a"] (defScope s_floor_of) := ⟨rfl, rfl, rfl, by decide +kernel, rfl, by decide +kernel, by decide +kernel⟩
theorem sc_ceiling_of : FnScope ["a"] ["a"] (defScope s_ceiling_of) := ⟨rfl, rfl, rfl, by decide +kernel, rfl, by decide +kernel, by decide +kernel⟩
theorem sc_parts_of : FnScope ["a", "parts", "above", "below", "part"] ["a"] (defScope s_parts_of) := ⟨rfl, rfl, rfl, by decide +kernel, rfl, by decide +kernel, by decide +kernel⟩
theorem sc_of_parts : FnScope ["parts", "worth", "part"] ["parts"] (defScope s_of_parts) := ⟨rfl, rfl, rfl, by decide +kernel, rfl, by decide +kernel, by decide +kernel⟩
theorem sc_compare_by_parts : FnScope ["a", "b", "place", "one", "other", "is_greater"] ["a", "b"] (defScope s_compare_by_parts) := ⟨rfl, rfl, rfl, by decide +kernel, rfl, by decide +kernel, by decide +kernel⟩
theorem sc_want_in_order : FnScope ["low", "high"] ["low", "high"] (defScope s_want_in_order) := ⟨rfl, rfl, rfl, by decide +kernel, rfl, by decide +kernel, by decide +kernel⟩
theorem sc_nearest_to_nought : FnScope ["first", "last"] ["first", "last"] (defScope s_nearest_to_nought) := ⟨rfl, rfl, rfl, by decide +kernel, rfl, by decide +kernel, by decide +kernel⟩
theorem sc_simplest_plain : FnScope ["low", "high", "below", "first", "last"] ["low", "high"] (defScope s_simplest_plain) := ⟨rfl, rfl, rfl, by decide +kernel, rfl, by decide +kernel, by decide +kernel⟩
theorem sc_simplest_above : FnScope ["low", "high", "parts", "part"] ["low", "high"] (defScope s_simplest_above) := ⟨rfl, rfl, rfl, by decide +kernel, rfl, by decide +kernel, by decide +kernel⟩
theorem sc_simplest : FnScope ["low", "high"] ["low", "high"] (defScope s_simplest) := ⟨rfl, rfl, rfl, by decide +kernel, rfl, by decide +kernel, by decide +kernel⟩
theorem sc__law_pot : FnScope ["_law_script", "_law_k", "_law_cell", "_law_mixed"] ["_law_script", "_law_k"] (defScope s__law_pot) := ⟨rfl, rfl, rfl, by decide +kernel, rfl, by decide +kernel, by decide +kernel⟩
theorem sc__law_draw : FnScope ["_law_pot_here", "_law_size", "_law_digit"] ["_law_pot_here", "_law_size"] (defScope s__law_draw) := ⟨rfl, rfl, rfl, by decide +kernel, rfl, by decide +kernel, by decide +kernel⟩
theorem sc__law_pick : FnScope ["_law_pot_here", "_law_some"] ["_law_pot_here", "_law_some"] (defScope s__law_pick) := ⟨rfl, rfl, rfl, by decide +kernel, rfl, by decide +kernel, by decide +kernel⟩
theorem sc__law_gcd : FnScope ["_law_a", "_law_b"] ["_law_a", "_law_b"] (defScope s__law_gcd) := ⟨rfl, rfl, rfl, by decide +kernel, rfl, by decide +kernel, by decide +kernel⟩
theorem sc__law_made : FnScope ["_law_a", "_law_b", "_law_common"] ["_law_a", "_law_b"] (defScope s__law_made) := ⟨rfl, rfl, rfl, by decide +kernel, rfl, by decide +kernel, by decide +kernel⟩
theorem sc__law_parts : FnScope ["_law_a", "_law_found", "_law_above", "_law_below", "_law_part"] ["_law_a"] (defScope s__law_parts) := ⟨rfl, rfl, rfl, by decide +kernel, rfl, by decide +kernel, by decide +kernel⟩
theorem sc__law_stands : FnScope ["_law_parts_here", "_law_turn", "_law_above", "_law_below"] ["_law_parts_here"] (defScope s__law_stands) := ⟨rfl, rfl, rfl, by decide +kernel, rfl, by decide +kernel, by decide +kernel⟩
theorem sc__law_row : FnScope ["_law_pot_here", "_law_size", "_law_many", "_law_first", "_law_turn"] ["_law_pot_here"] (defScope s__law_row) := ⟨rfl, rfl, rfl, by decide +kernel, rfl, by decide +kernel, by decide +kernel⟩
theorem sc__law_near : FnScope ["_law_pot_here", "_law_parts_here", "_law_way", "_law_at", "_law_found"] ["_law_pot_here", "_law_parts_here"] (defScope s__law_near) := ⟨rfl, rfl, rfl, by decide +kernel, rfl, by decide +kernel, by decide +kernel⟩
theorem sc__law_less : FnScope ["_law_a", "_law_b", "_law_left", "_law_right"] ["_law_a", "_law_b"] (defScope s__law_less) := ⟨rfl, rfl, rfl, by decide +kernel, rfl, by decide +kernel, by decide +kernel⟩
theorem sc__law_no_parts : FnScope ["_law_seen", "e"] [] (defScope s__law_no_parts) := ⟨rfl, rfl, rfl, by decide +kernel, rfl, by decide +kernel, by decide +kernel⟩
theorem sc__law_parts_right : FnScope ["_law_pot_here", "_law_parts_here", "_law_other", "_law_shown", "_law_told", "_law_due", "_law_one", "_law_two"] ["_law_pot_here"] (defScope s__law_parts_right) := ⟨rfl, rfl, rfl, by decide +kernel, rfl, by decide +kernel, by decide +kernel⟩
theorem sc__law_nearest : FnScope ["_law_first", "_law_last"] ["_law_first", "_law_last"] (defScope s__law_nearest) := ⟨rfl, rfl, rfl, by decide +kernel, rfl, by decide +kernel, by decide +kernel⟩
theorem sc__law_simplest : FnScope ["_law_low_here", "_law_high", "_law_limit", "_law_below", "_law_first", "_law_last"] ["_law_low_here", "_law_high", "_law_limit"] (defScope s__law_simplest) := ⟨rfl, rfl, rfl, by decide +kernel, rfl, by decide +kernel, by decide +kernel⟩
theorem sc__law_low : FnScope ["_law_pot_here", "_law_size", "_law_above"] ["_law_pot_here", "_law_size"] (defScope s__law_low) := ⟨rfl, rfl, rfl, by decide +kernel, rfl, by decide +kernel, by decide +kernel⟩
theorem sc__law_sum : FnScope ["_law_a", "_law_b"] ["_law_a", "_law_b"] (defScope s__law_sum) := ⟨rfl, rfl, rfl, by decide +kernel, rfl, by decide +kernel, by decide +kernel⟩
theorem sc__law_turned : FnScope ["_law_pot_here", "_law_low_here", "_law_high"] ["_law_pot_here", "_law_low_here", "_law_high"] (defScope s__law_turned) := ⟨rfl, rfl, rfl, by decide +kernel, rfl, by decide +kernel, by decide +kernel⟩
theorem sc__law_bounds : FnScope ["_law_pot_here", "_law_way", "_law_low_here"] ["_law_pot_here"] (defScope s__law_bounds) := ⟨rfl, rfl, rfl, by decide +kernel, rfl, by decide +kernel, by decide +kernel⟩
theorem sc__law_crossed_right : FnScope ["_law_low_here", "_law_high", "_law_seen", "e"] ["_law_low_here", "_law_high"] (defScope s__law_crossed_right) := ⟨rfl, rfl, rfl, by decide +kernel, rfl, by decide +kernel, by decide +kernel⟩
theorem sc__law_between_right : FnScope ["_law_pot_here", "_law_due", "_law_told", "_law_low_here", "_law_high", "_law_limit"] ["_law_pot_here"] (defScope s__law_between_right) := ⟨rfl, rfl, rfl, by decide +kernel, rfl, by decide +kernel, by decide +kernel⟩
theorem sc__law_alone_right : FnScope ["_law_pot_here", "_law_below", "_law_one", "_law_seen", "e", "_law_low_here", "_law_high"] ["_law_pot_here"] (defScope s__law_alone_right) := ⟨rfl, rfl, rfl, by decide +kernel, rfl, by decide +kernel, by decide +kernel⟩
theorem sc_law : FnScope ["_law_script", "_law_pot_here", "_law_other"] ["_law_script"] (defScope s_law) := ⟨rfl, rfl, rfl, by decide +kernel, rfl, by decide +kernel, by decide +kernel⟩
/-- what stands behind the top -/
structure Txt (K : PySem.W.Frag) (mg : Str → Option Value) where
  a_want_at_most : Addr
  d_want_at_most : FuncData
  F_want_at_most : Fun K "want_at_most" "want_at_most" s_want_at_most a_want_at_most d_want_at_most
  g_want_at_most : mg "want_at_most" = some (.ref a_want_at_most)
  a_fraction : Addr
  d_fraction : FuncData
  F_fraction : Fun K "fraction" "fraction" s_fraction a_fraction d_fraction
  g_fraction : mg "fraction" = some (.ref a_fraction)
  a_whole : Addr
  d_whole : FuncData
  F_whole : Fun K "whole" "whole" s_whole a_whole d_whole
  g_whole : mg "whole" = some (.ref a_whole)
  a_plus : Addr
  d_plus : FuncData
  F_plus : Fun K "plus" "plus" s_plus a_plus d_plus
  g_plus : mg "plus" = some (.ref a_plus)
  a_minus : Addr
  d_minus : FuncData
  F_minus : Fun K "minus" "minus" s_minus a_minus d_minus
  g_minus : mg "minus" = some (.ref a_minus)
  a_opposite : Addr
  d_opposite : FuncData
  F_opposite : Fun K "opposite" "opposite" s_opposite a_opposite d_opposite
  g_opposite : mg "opposite" = some (.ref a_opposite)
  a_over : Addr
  d_over : FuncData
  F_over : Fun K "over" "over" s_over a_over d_over
  g_over : mg "over" = some (.ref a_over)
  a_sign_of : Addr
  d_sign_of : FuncData
  F_sign_of : Fun K "sign_of" "sign_of" s_sign_of a_sign_of d_sign_of
  g_sign_of : mg "sign_of" = some (.ref a_sign_of)
  a_compare : Addr
  d_compare : FuncData
  F_compare : Fun K "compare" "compare" s_compare a_compare d_compare
  g_compare : mg "compare" = some (.ref a_compare)
  a_floor_of : Addr
  d_floor_of : FuncData
  F_floor_of : Fun K "floor_of" "floor_of" s_floor_of a_floor_of d_floor_of
  g_floor_of : mg "floor_of" = some (.ref a_floor_of)
  a_ceiling_of : Addr
  d_ceiling_of : FuncData
  F_ceiling_of : Fun K "ceiling_of" "ceiling_of" s_ceiling_of a_ceiling_of d_ceiling_of
  g_ceiling_of : mg "ceiling_of" = some (.ref a_ceiling_of)
  a_parts_of : Addr
  d_parts_of : FuncData
  F_parts_of : Fun K "parts_of" "parts_of" s_parts_of a_parts_of d_parts_of
  g_parts_of : mg "parts_of" = some (.ref a_parts_of)
  a_of_parts : Addr
  d_of_parts : FuncData
  F_of_parts : Fun K "of_parts" "of_parts" s_of_parts a_of_parts d_of_parts
  g_of_parts : mg "of_parts" = some (.ref a_of_parts)
  a_compare_by_parts : Addr
  d_compare_by_parts : FuncData
  F_compare_by_parts : Fun K "compare_by_parts" "compare_by_parts" s_compare_by_parts a_compare_by_parts d_compare_by_parts
  g_compare_by_parts : mg "compare_by_parts" = some (.ref a_compare_by_parts)
  a_want_in_order : Addr
  d_want_in_order : FuncData
  F_want_in_order : Fun K "want_in_order" "want_in_order" s_want_in_order a_want_in_order d_want_in_order
  g_want_in_order : mg "want_in_order" = some (.ref a_want_in_order)
  a_nearest_to_nought : Addr
  d_nearest_to_nought : FuncData
  F_nearest_to_nought : Fun K "nearest_to_nought" "nearest_to_nought" s_nearest_to_nought a_nearest_to_nought d_nearest_to_nought
  g_nearest_to_nought : mg "nearest_to_nought" = some (.ref a_nearest_to_nought)
  a_simplest_plain : Addr
  d_simplest_plain : FuncData
  F_simplest_plain : Fun K "simplest_plain" "simplest_plain" s_simplest_plain a_simplest_plain d_simplest_plain
  g_simplest_plain : mg "simplest_plain" = some (.ref a_simplest_plain)
  a_simplest_above : Addr
  d_simplest_above : FuncData
  F_simplest_above : Fun K "simplest_above" "simplest_above" s_simplest_above a_simplest_above d_simplest_above
  g_simplest_above : mg "simplest_above" = some (.ref a_simplest_above)
  a_simplest : Addr
  d_simplest : FuncData
  F_simplest : Fun K "simplest" "simplest" s_simplest a_simplest d_simplest
  g_simplest : mg "simplest" = some (.ref a_simplest)
  a__law_pot : Addr
  d__law_pot : FuncData
  F__law_pot : Fun K "_law_pot" "_law_pot" s__law_pot a__law_pot d__law_pot
  g__law_pot : mg "_law_pot" = some (.ref a__law_pot)
  a__law_draw : Addr
  d__law_draw : FuncData
  F__law_draw : Fun K "_law_draw" "_law_draw" s__law_draw a__law_draw d__law_draw
  g__law_draw : mg "_law_draw" = some (.ref a__law_draw)
  a__law_pick : Addr
  d__law_pick : FuncData
  F__law_pick : Fun K "_law_pick" "_law_pick" s__law_pick a__law_pick d__law_pick
  g__law_pick : mg "_law_pick" = some (.ref a__law_pick)
  a__law_gcd : Addr
  d__law_gcd : FuncData
  F__law_gcd : Fun K "_law_gcd" "_law_gcd" s__law_gcd a__law_gcd d__law_gcd
  g__law_gcd : mg "_law_gcd" = some (.ref a__law_gcd)
  a__law_made : Addr
  d__law_made : FuncData
  F__law_made : Fun K "_law_made" "_law_made" s__law_made a__law_made d__law_made
  g__law_made : mg "_law_made" = some (.ref a__law_made)
  a__law_parts : Addr
  d__law_parts : FuncData
  F__law_parts : Fun K "_law_parts" "_law_parts" s__law_parts a__law_parts d__law_parts
  g__law_parts : mg "_law_parts" = some (.ref a__law_parts)
  a__law_stands : Addr
  d__law_stands : FuncData
  F__law_stands : Fun K "_law_stands" "_law_stands" s__law_stands a__law_stands d__law_stands
  g__law_stands : mg "_law_stands" = some (.ref a__law_stands)
  a__law_row : Addr
  d__law_row : FuncData
  F__law_row : Fun K "_law_row" "_law_row" s__law_row a__law_row d__law_row
  g__law_row : mg "_law_row" = some (.ref a__law_row)
  a__law_near : Addr
  d__law_near : FuncData
  F__law_near : Fun K "_law_near" "_law_near" s__law_near a__law_near d__law_near
  g__law_near : mg "_law_near" = some (.ref a__law_near)
  a__law_less : Addr
  d__law_less : FuncData
  F__law_less : Fun K "_law_less" "_law_less" s__law_less a__law_less d__law_less
  g__law_less : mg "_law_less" = some (.ref a__law_less)
  a__law_no_parts : Addr
  d__law_no_parts : FuncData
  F__law_no_parts : Fun K "_law_no_parts" "_law_no_parts" s__law_no_parts a__law_no_parts d__law_no_parts
  g__law_no_parts : mg "_law_no_parts" = some (.ref a__law_no_parts)
  a__law_parts_right : Addr
  d__law_parts_right : FuncData
  F__law_parts_right : Fun K "_law_parts_right" "_law_parts_right" s__law_parts_right a__law_parts_right d__law_parts_right
  g__law_parts_right : mg "_law_parts_right" = some (.ref a__law_parts_right)
  a__law_nearest : Addr
  d__law_nearest : FuncData
  F__law_nearest : Fun K "_law_nearest" "_law_nearest" s__law_nearest a__law_nearest d__law_nearest
  g__law_nearest : mg "_law_nearest" = some (.ref a__law_nearest)
  a__law_simplest : Addr
  d__law_simplest : FuncData
  F__law_simplest : Fun K "_law_simplest" "_law_simplest" s__law_simplest a__law_simplest d__law_simplest
  g__law_simplest : mg "_law_simplest" = some (.ref a__law_simplest)
  a__law_low : Addr
  d__law_low : FuncData
  F__law_low : Fun K "_law_low" "_law_low" s__law_low a__law_low d__law_low
  g__law_low : mg "_law_low" = some (.ref a__law_low)
  a__law_sum : Addr
  d__law_sum : FuncData
  F__law_sum : Fun K "_law_sum" "_law_sum" s__law_sum a__law_sum d__law_sum
  g__law_sum : mg "_law_sum" = some (.ref a__law_sum)
  a__law_turned : Addr
  d__law_turned : FuncData
  F__law_turned : Fun K "_law_turned" "_law_turned" s__law_turned a__law_turned d__law_turned
  g__law_turned : mg "_law_turned" = some (.ref a__law_turned)
  a__law_bounds : Addr
  d__law_bounds : FuncData
  F__law_bounds : Fun K "_law_bounds" "_law_bounds" s__law_bounds a__law_bounds d__law_bounds
  g__law_bounds : mg "_law_bounds" = some (.ref a__law_bounds)
  a__law_crossed_right : Addr
  d__law_crossed_right : FuncData
  F__law_crossed_right : Fun K "_law_crossed_right" "_law_crossed_right" s__law_crossed_right a__law_crossed_right d__law_crossed_right
  g__law_crossed_right : mg "_law_crossed_right" = some (.ref a__law_crossed_right)
  a__law_between_right : Addr
  d__law_between_right : FuncData
  F__law_between_right : Fun K "_law_between_right" "_law_between_right" s__law_between_right a__law_between_right d__law_between_right
  g__law_between_right : mg "_law_between_right" = some (.ref a__law_between_right)
  a__law_alone_right : Addr
  d__law_alone_right : FuncData
  F__law_alone_right : Fun K "_law_alone_right" "_law_alone_right" s__law_alone_right a__law_alone_right d__law_alone_right
  g__law_alone_right : mg "_law_alone_right" = some (.ref a__law_alone_right)
  a_law : Addr
  d_law : FuncData
  F_law : Fun K "law" "law" s_law a_law d_law
  g_law : mg "law" = some (.ref a_law)
  t_MOST_BELOW : Tok
  c_MOST_BELOW : mg "MOST_BELOW" = some (.int 2000 t_MOST_BELOW)
  m_LookupError : mg "LookupError" = none
  m_ValueError : mg "ValueError" = none
  m_abs : mg "abs" = none
  m_divmod : mg "divmod" = none
  m_int : mg "int" = none
  m_isinstance : mg "isinstance" = none
  m_len : mg "len" = none
  m_list : mg "list" = none
  m_max : mg "max" = none
  m_range : mg "range" = none
  m_repr : mg "repr" = none
  m_reversed : mg "reversed" = none
  t_NOUGHT : Addr
  c_NOUGHT : mg "NOUGHT" = some (.ref t_NOUGHT)
  k_NOUGHT : ∀ H, Dx K H (.ref t_NOUGHT) (.tuple [.int 0, .int 1])
  t_ONE : Addr
  c_ONE : mg "ONE" = some (.ref t_ONE)
  k_ONE : ∀ H, Dx K H (.ref t_ONE) (.tuple [.int 1, .int 1])
  i_gcd : mg "gcd" = some (.builtin "math.gcd")
  C : Nat → Addr
  E_TermError : ErrC K mg "TermError" (C 0) [.type "ValueError", .type "Exception", .type "BaseException", .type "object"] "ValueError.__new__"
  E_MissingError : ErrC K mg "MissingError" (C 1) [.type "LookupError", .type "Exception", .type "BaseException", .type "object"] "LookupError.__new__"
  E_LimitError : ErrC K mg "LimitError" (C 2) [.type "ArithmeticError", .type "Exception", .type "BaseException", .type "object"] "ArithmeticError.__new__"
  E_CrossedBounds : ErrC K mg "CrossedBounds" (C 3) [.type "ValueError", .type "Exception", .type "BaseException", .type "object"] "ValueError.__new__"
  E_DividedByNought : ErrC K mg "DividedByNought" (C 4) [.type "ValueError", .type "Exception", .type "BaseException", .type "object"] "ValueError.__new__"
  E_NothingGiven : ErrC K mg "NothingGiven" (C 5) [.type "LookupError", .type "Exception", .type "BaseException", .type "object"] "LookupError.__new__"
  ai_TooMany : Addr
  di_TooMany : FuncData
  Fi_TooMany : Fun K "__init__" "TooMany.__init__" (inClass (topS 8) 0) ai_TooMany di_TooMany
  E_TooMany : ErrI K mg "TooMany" (C 6) "ArithmeticError" "ArithmeticError.__new__" "ArithmeticError.__init__" [.type "ArithmeticError", .type "Exception", .type "BaseException", .type "object"] ai_TooMany
  nf_limit : ∀ e, e < 7 → PySem.W.findIn K (.ref (C e)) "limit" = some none
  nf_what : ∀ e, e < 7 → PySem.W.findIn K (.ref (C e)) "what" = some none
  errs : ErrsOk K C 7 errSub
  excs : ∀ e, e < 7 → ExcC K (C e)
  errsB : ∀ s, s ∈ (["LookupError", "ValueError"] : List String) → ∀ e, e < 7 → PySem.W.kitOne K (.ref (C e)) (.type s) = some (errSubB e s)
section
variable {P : Program} {w : World} {K : PySem.W.Frag} {mg : Str → Option Value} {base : Heap}
theorem sci_TooMany : FnScope ["self", "what", "limit"] ["self", "what", "limit"] (defScope (inClass (topS 8) 0)) := ⟨rfl, rfl, rfl, by decide +kernel, rfl, by decide +kernel, by decide +kernel⟩
theorem oi_TooMany (T : Txt K mg) : FnOk P w K mg base CX0 1 T.ai_TooMany T.di_TooMany ["self", "what", "limit"] (spPut K (T.C 6) 2 (fldV ["what", "limit"])) := by
  refine T.Fi_TooMany.ok sci_TooMany (fun vs H Q E h => spPut_len h) (fun cdv A outer s H vs Q E hr h => ⟨(tSeq (tPut K "what" (tVar 0) (tVar 1)) (tPut K "limit" (tVar 0) (tVar 2))), ?_, put2_pure T.E_TooMany.T (T.nf_what 6 (by decide)) (T.nf_limit 6 (by decide)) rfl h⟩)
  exact (pss_cons (ps_put (pv 0) (pv 1)) (pss_one (ps_put (pv 0) (pv 2))))
theorem ok_fraction (T : Txt K mg) : FnX P w K mg base 1 T.a_fraction T.d_fraction ["above", "below"] (spX K T.C mx_fraction 2) :=
  ok_fnX T.F_fraction sc_fraction (fun n cdv A outer s H E hA hr =>
    (sx_cons (sx_if (st_eq hr (se_var 1) se_int) (sx_one (sx_raise0 4 rfl (takes_of rfl rfl rfl rfl) PySem.F.excBase_ValueError T.E_DividedByNought)) sx_nil)
    (sx_ofs (ss_cons' (ss_asg 2 sc_fraction.nd (se_gcd T.i_gcd (ss_cons (se_var 0) (ss_cons (se_var 1) ss_nil))))
    (ss_cons' (ss_if (st_lt (se_var 1) se_int) (ss_one (ss_asg 2 sc_fraction.nd (se_neg (se_var 2)))) ss_nil')
    (ss_one (ss_ret (se_tup (ss_cons (se_div (se_var 0) (se_var 2)) (ss_cons (se_div (se_var 1) (se_var 2)) ss_nil)))))))))) fun os r _ h => by
    have q := hmx_of h
    cases r <;> exact q
theorem ok_whole (T : Txt K mg) : FnG P w K mg base 1 T.a_whole T.d_whole ["number"] (sp0 K mr_whole 1) :=
  ok_fn0 T.F_whole sc_whole (fun n cdv A outer s H hA hr =>
    (ss_one (ss_ret (se_tup (ss_cons (se_var 0) (ss_cons se_int ss_nil)))))) fun os r _ h => hm_of fuel h
theorem ok_opposite (T : Txt K mg) : FnG P w K mg base 1 T.a_opposite T.d_opposite ["a"] (sp0 K mr_opposite 1) :=
  ok_fn0 T.F_opposite sc_opposite (fun n cdv A outer s H hA hr =>
    (ss_one (ss_ret (se_tup (ss_cons (se_neg (se_ix (se_var 0) se_int)) (ss_cons (se_ix (se_var 0) se_int) ss_nil)))))) fun os r _ h => hm_of fuel h
theorem ok_sign_of (T : Txt K mg) : FnG P w K mg base 1 T.a_sign_of T.d_sign_of ["a"] (sp0 K mr_sign_of 1) :=
  ok_fn0 T.F_sign_of sc_sign_of (fun n cdv A outer s H hA hr =>
    (ss_cons' (ss_if (st_eq hr (se_ix (se_var 0) se_int) se_int) (ss_one (ss_ret se_int)) ss_nil')
    (ss_one (ss_ret (se_if (st_gt (se_ix (se_var 0) se_int) se_int) se_int (se_neg se_int)))))) fun os r _ h => hm_of fuel h
theorem ok_compare (T : Txt K mg) : FnG P w K mg base 1 T.a_compare T.d_compare ["a", "b"] (sp0 K mr_compare 2) :=
  ok_fn0 T.F_compare sc_compare (fun n cdv A outer s H hA hr =>
    (ss_cons' (ss_par 2 3 rfl sc_compare.nd (ss_cons (se_mul (se_ix (se_var 0) se_int) (se_ix (se_var 1) se_int)) (ss_cons (se_mul (se_ix (se_var 1) se_int) (se_ix (se_var 0) se_int)) ss_nil)))
    (ss_cons' (ss_if (st_eq hr (se_var 2) (se_var 3)) (ss_one (ss_ret se_int)) ss_nil')
    (ss_one (ss_ret (se_if (st_gt (se_var 2) (se_var 3)) se_int (se_neg se_int))))))) fun os r _ h => hm_of fuel h
theorem ok_floor_of (T : Txt K mg) : FnG P w K mg base 1 T.a_floor_of T.d_floor_of ["a"] (sp0 K mr_floor_of 1) :=
  ok_fn0 T.F_floor_of sc_floor_of (fun n cdv A outer s H hA hr =>
    (ss_one (ss_ret (se_div (se_ix (se_var 0) se_int) (se_ix (se_var 0) se_int))))) fun os r _ h => hm_of fuel h
theorem ok_ceiling_of (T : Txt K mg) : FnG P w K mg base 1 T.a_ceiling_of T.d_ceiling_of ["a"] (sp0 K mr_ceiling_of 1) :=
  ok_fn0 T.F_ceiling_of sc_ceiling_of (fun n cdv A outer s H hA hr =>
    (ss_one (ss_ret (se_neg (se_div (se_neg (se_ix (se_var 0) se_int)) (se_ix (se_var 0) se_int)))))) fun os r _ h => hm_of fuel h
theorem ok_parts_of (T : Txt K mg) : FnG P w K mg base 1 T.a_parts_of T.d_parts_of ["a"] (sp0 K mr_parts_of 1) :=
  ok_fn0 T.F_parts_of sc_parts_of (fun n cdv A outer s H hA hr =>
    (ss_cons' (ss_asgG (sg_tup (n := 2) rfl (sgs_cons (sg_name 2 sc_parts_of.nd) (sgs_cons (sg_name 3 sc_parts_of.nd) sgs_nil))) (se_var 0))
    (ss_cons' (ss_asg 1 sc_parts_of.nd (se_lst ss_nil))
    (ss_cons' (ss_while n PassesOwn.never (st_gt (se_var 3) se_int) (ss_cons' (ss_asg 4 sc_parts_of.nd (se_div (se_var 2) (se_var 3)))
    (ss_cons' (ss_app 1 (se_var 4))
    (ss_one (ss_par 2 3 rfl sc_parts_of.nd (ss_cons (se_var 3) (ss_cons (se_sub (se_var 2) (se_mul (se_var 4) (se_var 3))) ss_nil)))))))
    (ss_one (ss_ret (se_var 1))))))) fun os r _ h => hm_of fuel h
theorem ok_nearest_to_nought (T : Txt K mg) : FnG P w K mg base 1 T.a_nearest_to_nought T.d_nearest_to_nought ["first", "last"] (sp0 K mr_nearest_to_nought 2) :=
  ok_fn0 T.F_nearest_to_nought sc_nearest_to_nought (fun n cdv A outer s H hA hr =>
    (ss_cons' (ss_if (st_gt (se_var 0) se_int) (ss_one (ss_ret (se_var 0))) ss_nil')
    (ss_one (ss_ret (se_if (st_lt (se_var 1) se_int) (se_var 1) se_int))))) fun os r _ h => hm_of fuel h
theorem ok__law_pot (T : Txt K mg) : FnG P w K mg base 1 T.a__law_pot T.d__law_pot ["_law_script", "_law_k"] (sp0 K mr__law_pot 2) :=
  ok_fn0 T.F__law_pot sc__law_pot (fun n cdv A outer s H hA hr =>
    (ss_cons' (ss_asg 2 sc__law_pot.nd (se_add (se_mul se_int (se_var 1)) se_int))
    (ss_cons' (ss_if (st_lt (se_var 1) (se_len T.m_len (ss_cons (se_var 0) ss_nil))) (ss_one (ss_asg 2 sc__law_pot.nd (se_abs T.m_abs (ss_cons (se_ix (se_var 0) (se_var 1)) ss_nil)))) ss_nil')
    (ss_cons' (ss_asg 3 sc__law_pot.nd (se_mod (se_int1 T.m_int (ss_cons (se_add (se_add (se_mul (se_mod (se_int1 T.m_int (ss_cons (se_var 2) ss_nil)) se_int) se_int) (se_mul se_int (se_var 1))) se_int) ss_nil)) se_int))
    (ss_one (ss_ret (se_lst (ss_cons (se_max2 rfl T.m_max (ss_cons se_int (ss_cons (se_sub (se_var 2) (se_pow se_int se_int)) ss_nil))) (ss_cons (se_add (se_var 3) se_int) ss_nil))))))))) fun os r _ h => hm_of fuel h
theorem ok__law_draw (T : Txt K mg) : FnG P w K mg base 1 T.a__law_draw T.d__law_draw ["_law_pot_here", "_law_size"] (spP K mr__law_draw 1) :=
  ok_fnP T.F__law_draw sc__law_draw rfl (fun n cdv A outer s H hA hr =>
    (ss_cons' (ss_if (st_gt (se_ix (se_var 0) se_int) se_int) (ss_cons' (ss_asgG (sg_tup (n := 2) rfl (sgs_cons (sg_sub 0 se_int) (sgs_cons (sg_name 2 sc__law_draw.nd) sgs_nil))) (se_divmod T.m_divmod (ss_cons (se_ix (se_var 0) se_int) (ss_cons (se_var 1) ss_nil))))
    (ss_one (ss_ret (se_var 2)))) ss_nil')
    (ss_cons' (ss_asgG (sg_sub 0 se_int) (se_mod (se_int1 T.m_int (ss_cons (se_add (se_mul (se_ix (se_var 0) se_int) se_int) se_int) ss_nil)) se_int))
    (ss_one (ss_ret (se_mod (se_int1 T.m_int (ss_cons (se_div (se_mod (se_int1 T.m_int (ss_cons (se_mul (se_ix (se_var 0) se_int) (se_ix (se_var 0) se_int)) ss_nil)) se_int) se_int) ss_nil)) (se_var 1))))))) fun op os r op' _ h => hp_of fuel h
theorem ok__law_gcd (T : Txt K mg) : FnG P w K mg base 1 T.a__law_gcd T.d__law_gcd ["_law_a", "_law_b"] (sp0 K mr__law_gcd 2) :=
  ok_fn0 T.F__law_gcd sc__law_gcd (fun n cdv A outer s H hA hr =>
    (ss_cons' (ss_par 0 1 rfl sc__law_gcd.nd (ss_cons (se_abs T.m_abs (ss_cons (se_var 0) ss_nil)) (ss_cons (se_abs T.m_abs (ss_cons (se_var 1) ss_nil)) ss_nil)))
    (ss_cons' (ss_while n PassesOwn.never (st_gt (se_var 1) se_int) (ss_one (ss_par 0 1 rfl sc__law_gcd.nd (ss_cons (se_var 1) (ss_cons (se_mod (se_int1 T.m_int (ss_cons (se_var 0) ss_nil)) (se_var 1)) ss_nil)))))
    (ss_one (ss_ret (se_var 0)))))) fun os r _ h => hm_of fuel h
theorem ok__law_parts (T : Txt K mg) : FnG P w K mg base 1 T.a__law_parts T.d__law_parts ["_law_a"] (sp0 K mr__law_parts 1) :=
  ok_fn0 T.F__law_parts sc__law_parts (fun n cdv A outer s H hA hr =>
    (ss_cons' (ss_asgG (sg_tup (n := 2) rfl (sgs_cons (sg_name 2 sc__law_parts.nd) (sgs_cons (sg_name 3 sc__law_parts.nd) sgs_nil))) (se_var 0))
    (ss_cons' (ss_asg 1 sc__law_parts.nd (se_lst ss_nil))
    (ss_cons' (ss_while n PassesOwn.never (st_gt (se_var 3) se_int) (ss_cons' (ss_asg 4 sc__law_parts.nd (se_div (se_var 2) (se_var 3)))
    (ss_cons' (ss_app 1 (se_var 4))
    (ss_one (ss_par 2 3 rfl sc__law_parts.nd (ss_cons (se_var 3) (ss_cons (se_sub (se_var 2) (se_mul (se_var 4) (se_var 3))) ss_nil)))))))
    (ss_one (ss_ret (se_var 1))))))) fun os r _ h => hm_of fuel h
theorem ok__law_stands (T : Txt K mg) : FnG P w K mg base 1 T.a__law_stands T.d__law_stands ["_law_parts_here"] (sp0 K mr__law_stands 1) :=
  ok_fn0 T.F__law_stands sc__law_stands (fun n cdv A outer s H hA hr =>
    (ss_cons' (ss_par 2 3 rfl sc__law_stands.nd (ss_cons (se_ix (se_var 0) (se_neg se_int)) (ss_cons se_int ss_nil)))
    (ss_cons' (ss_for rfl PassesOwn.never (si_r1 T.m_range (ss_cons (se_sub (se_len T.m_len (ss_cons (se_var 0) ss_nil)) se_int) ss_nil)) (sg_name 1 sc__law_stands.nd) (ss_one (ss_par 2 3 rfl sc__law_stands.nd (ss_cons (se_add (se_mul (se_ix (se_var 0) (se_sub (se_sub (se_len T.m_len (ss_cons (se_var 0) ss_nil)) se_int) (se_var 1))) (se_var 2)) (se_var 3)) (ss_cons (se_var 2) ss_nil)))))
    (ss_one (ss_ret (se_tup (ss_cons (se_var 2) (ss_cons (se_var 3) ss_nil)))))))) fun os r _ h => hm_of fuel h
theorem ok__law_less (T : Txt K mg) : FnG P w K mg base 1 T.a__law_less T.d__law_less ["_law_a", "_law_b"] (sp0 K mr__law_less 2) :=
  ok_fn0 T.F__law_less sc__law_less (fun n cdv A outer s H hA hr =>
    (ss_cons' (ss_par 2 3 rfl sc__law_less.nd (ss_cons (se_mul (se_ix (se_var 0) se_int) (se_ix (se_var 1) se_int)) (ss_cons (se_mul (se_ix (se_var 1) se_int) (se_ix (se_var 0) se_int)) ss_nil)))
    (ss_one (ss_ret (se_if (st_eq hr (se_var 2) (se_var 3)) se_int (se_if (st_gt (se_var 2) (se_var 3)) se_int (se_neg se_int))))))) fun os r _ h => hm_of fuel h
theorem ok__law_nearest (T : Txt K mg) : FnG P w K mg base 1 T.a__law_nearest T.d__law_nearest ["_law_first", "_law_last"] (sp0 K mr__law_nearest 2) :=
  ok_fn0 T.F__law_nearest sc__law_nearest (fun n cdv A outer s H hA hr =>
    (ss_cons' (ss_if (st_gt (se_var 0) se_int) (ss_one (ss_ret (se_var 0))) ss_nil')
    (ss_one (ss_ret (se_if (st_lt (se_var 1) se_int) (se_var 1) se_int))))) fun os r _ h => hm_of fuel h
theorem ok_plus (T : Txt K mg) : FnG P w K mg base 2 T.a_plus T.d_plus ["a", "b"] (sp0 K mr_plus 2) :=
  ok_fn0 T.F_plus sc_plus (fun n cdv A outer s H hA hr =>
    (ss_cons' (ss_if (STw.t (st_and (st_eq hr (se_ix (se_var 0) se_int) se_int) (st_and1 (st_eq hr (se_ix (se_var 1) se_int) se_int)))) (ss_one (ss_ret (se_tup (ss_cons (se_add (se_ix (se_var 0) se_int) (se_ix (se_var 1) se_int)) (ss_cons se_int ss_nil))))) ss_nil')
    (ss_one (ss_ret (se_call0 (idx := [0, 1]) (ok_fraction T).calm hA (hr.mono (by decide)) T.g_fraction T.F_fraction.kp (Fun.bd T.F_fraction fun _ _ _ _ _ _ us hl => match us, hl with | [_, _], _ => rfl) (ss_cons (se_add (se_mul (se_ix (se_var 0) se_int) (se_ix (se_var 1) se_int)) (se_mul (se_ix (se_var 1) se_int) (se_ix (se_var 0) se_int))) (ss_cons (se_mul (se_ix (se_var 0) se_int) (se_ix (se_var 1) se_int)) ss_nil))))))) fun os r _ h => hm_of fuel h
theorem ok_over (T : Txt K mg) : FnG P w K mg base 2 T.a_over T.d_over ["a", "b"] (sp0 K mr_over 2) :=
  ok_fn0 T.F_over sc_over (fun n cdv A outer s H hA hr =>
    (ss_one (ss_ret (se_call0 (idx := [0, 1]) (ok_fraction T).calm hA (hr.mono (by decide)) T.g_fraction T.F_fraction.kp (Fun.bd T.F_fraction fun _ _ _ _ _ _ us hl => match us, hl with | [_, _], _ => rfl) (ss_cons (se_mul (se_ix (se_var 0) se_int) (se_ix (se_var 1) se_int)) (ss_cons (se_mul (se_ix (se_var 0) se_int) (se_ix (se_var 1) se_int)) ss_nil)))))) fun os r _ h => hm_of fuel h
theorem ok_compare_by_parts (T : Txt K mg) : FnG P w K mg base 2 T.a_compare_by_parts T.d_compare_by_parts ["a", "b"] (sp0 K mr_compare_by_parts 2) :=
  ok_fn0 T.F_compare_by_parts sc_compare_by_parts (fun n cdv A outer s H hA hr =>
    (ss_cons' (ss_par 3 4 rfl sc_compare_by_parts.nd (ss_cons (se_call0 (idx := [0]) (ok_parts_of T) hA (hr.mono (by decide)) T.g_parts_of T.F_parts_of.kp (Fun.bd T.F_parts_of fun _ _ _ _ _ _ us hl => match us, hl with | [_], _ => rfl) (ss_cons (se_var 0) ss_nil)) (ss_cons (se_call0 (idx := [0]) (ok_parts_of T) hA (hr.mono (by decide)) T.g_parts_of T.F_parts_of.kp (Fun.bd T.F_parts_of fun _ _ _ _ _ _ us hl => match us, hl with | [_], _ => rfl) (ss_cons (se_var 1) ss_nil)) ss_nil)))
    (ss_cons' (ss_if (st_eq hr (se_var 3) (se_var 4)) (ss_one (ss_ret se_int)) ss_nil')
    (ss_cons' (ss_asg 2 sc_compare_by_parts.nd se_int)
    (ss_cons' (ss_while n PassesOwn.never (STw.t (st_and (st_lt (se_var 2) (se_len T.m_len (ss_cons (se_var 3) ss_nil))) (st_and (st_lt (se_var 2) (se_len T.m_len (ss_cons (se_var 4) ss_nil))) (st_and1 (st_eq hr (se_ix (se_var 3) (se_var 2)) (se_ix (se_var 4) (se_var 2))))))) (ss_one (ss_augAdd 2 sc_compare_by_parts.nd se_int)))
    (ss_cons' (ss_if (st_eq hr (se_var 2) (se_len T.m_len (ss_cons (se_var 3) ss_nil))) (ss_one (ss_asg 5 sc_compare_by_parts.nd se_bl)) (ss_one (ss_if (st_eq hr (se_var 2) (se_len T.m_len (ss_cons (se_var 4) ss_nil))) (ss_one (ss_asg 5 sc_compare_by_parts.nd se_bl)) (ss_one (ss_asg 5 sc_compare_by_parts.nd (se_gt (se_ix (se_var 3) (se_var 2)) (se_ix (se_var 4) (se_var 2))))))))
    (ss_cons' (ss_if (st_eq hr (se_sub (se_var 2) (se_mul (se_div (se_var 2) se_int) se_int)) se_int) (ss_one (ss_asg 5 sc_compare_by_parts.nd (se_not (se_var 5)))) ss_nil')
    (ss_one (ss_ret (se_if (st_tru (se_var 5)) se_int (se_neg se_int))))))))))) fun os r _ h => hm_of fuel h
theorem ok_want_in_order (T : Txt K mg) : FnX P w K mg base 2 T.a_want_in_order T.d_want_in_order ["low", "high"] (spX K T.C mx_want_in_order 2) :=
  ok_fnX T.F_want_in_order sc_want_in_order (fun n cdv A outer s H E hA hr =>
    (sx_one (sx_if (st_gt (se_call0 (idx := [0, 1]) (ok_compare T) hA (hr.mono (by decide)) T.g_compare T.F_compare.kp (Fun.bd T.F_compare fun _ _ _ _ _ _ us hl => match us, hl with | [_, _], _ => rfl) (ss_cons (se_var 0) (ss_cons (se_var 1) ss_nil))) se_int) (sx_one (sx_raise0 3 rfl (takes_of rfl rfl rfl rfl) PySem.F.excBase_ValueError T.E_CrossedBounds)) sx_nil))) fun os r _ h => by
    have q := hmx_of h
    cases r <;> exact q
theorem ok__law_pick (T : Txt K mg) : FnG P w K mg base 2 T.a__law_pick T.d__law_pick ["_law_pot_here", "_law_some"] (spP K mr__law_pick 1) :=
  ok_fnP T.F__law_pick sc__law_pick rfl (fun n cdv A outer s H hA hr =>
    (ss_one (ss_ret (se_ix (se_var 1) (se_callP (idx := [0]) (ok__law_draw T) hA (hr.mono (by decide)) T.g__law_draw T.F__law_draw.kp (Fun.bd T.F__law_draw fun _ _ _ _ _ _ us hl => match us, hl with | [_, _], _ => rfl) (ss_cons (se_var 0) (ss_cons (se_len T.m_len (ss_cons (se_var 1) ss_nil)) ss_nil))))))) fun op os r op' _ h => hp_of fuel h
theorem ok__law_made (T : Txt K mg) : FnG P w K mg base 2 T.a__law_made T.d__law_made ["_law_a", "_law_b"] (sp0 K mr__law_made 2) :=
  ok_fn0 T.F__law_made sc__law_made (fun n cdv A outer s H hA hr =>
    (ss_cons' (ss_asg 2 sc__law_made.nd (se_call0 (idx := [0, 1]) (ok__law_gcd T) hA (hr.mono (by decide)) T.g__law_gcd T.F__law_gcd.kp (Fun.bd T.F__law_gcd fun _ _ _ _ _ _ us hl => match us, hl with | [_, _], _ => rfl) (ss_cons (se_var 0) (ss_cons (se_var 1) ss_nil))))
    (ss_cons' (ss_if (st_lt (se_var 1) se_int) (ss_one (ss_asg 2 sc__law_made.nd (se_neg (se_var 2)))) ss_nil')
    (ss_one (ss_ret (se_tup (ss_cons (se_div (se_var 0) (se_var 2)) (ss_cons (se_div (se_var 1) (se_var 2)) ss_nil)))))))) fun os r _ h => hm_of fuel h
theorem ok__law_simplest (T : Txt K mg) : FnG P w K mg base 2 T.a__law_simplest T.d__law_simplest ["_law_low_here", "_law_high", "_law_limit"] (sp0 K mr__law_simplest 3) :=
  ok_fn0 T.F__law_simplest sc__law_simplest (fun n cdv A outer s H hA hr =>
    (ss_cons' (ss_for rfl PassesOwn.never (si_r2 T.m_range (ss_cons se_int (ss_cons (se_add (se_var 2) se_int) ss_nil))) (sg_name 3 sc__law_simplest.nd) (ss_cons' (ss_asg 4 sc__law_simplest.nd (se_neg (se_div (se_mul (se_neg (se_ix (se_var 0) se_int)) (se_var 3)) (se_ix (se_var 0) se_int))))
    (ss_cons' (ss_asg 5 sc__law_simplest.nd (se_div (se_mul (se_ix (se_var 1) se_int) (se_var 3)) (se_ix (se_var 1) se_int)))
    (ss_one (ss_if (st_le (se_var 4) (se_var 5)) (ss_one (ss_ret (se_tup (ss_cons (se_call0 (idx := [0, 1]) (ok__law_nearest T) hA (hr.mono (by decide)) T.g__law_nearest T.F__law_nearest.kp (Fun.bd T.F__law_nearest fun _ _ _ _ _ _ us hl => match us, hl with | [_, _], _ => rfl) (ss_cons (se_var 4) (ss_cons (se_var 5) ss_nil))) (ss_cons (se_var 3) ss_nil))))) ss_nil')))))
    (ss_one (ss_ret se_non)))) fun os r _ h => hm_of fuel h
theorem ok__law_turned (T : Txt K mg) : FnG P w K mg base 2 T.a__law_turned T.d__law_turned ["_law_pot_here", "_law_low_here", "_law_high"] (spP K mr__law_turned 2) :=
  ok_fnP T.F__law_turned sc__law_turned rfl (fun n cdv A outer s H hA hr =>
    (ss_cons' (ss_if (st_gt (se_callP (idx := [0]) (ok__law_draw T) hA (hr.mono (by decide)) T.g__law_draw T.F__law_draw.kp (Fun.bd T.F__law_draw fun _ _ _ _ _ _ us hl => match us, hl with | [_, _], _ => rfl) (ss_cons (se_var 0) (ss_cons se_int ss_nil))) se_int) (ss_one (ss_ret (se_tup (ss_cons (se_var 1) (ss_cons (se_var 2) ss_nil))))) ss_nil')
    (ss_one (ss_ret (se_tup (ss_cons (se_tup (ss_cons (se_neg (se_ix (se_var 2) se_int)) (ss_cons (se_ix (se_var 2) se_int) ss_nil))) (ss_cons (se_tup (ss_cons (se_neg (se_ix (se_var 1) se_int)) (ss_cons (se_ix (se_var 1) se_int) ss_nil))) ss_nil))))))) fun op os r op' _ h => hp_of fuel h
theorem ok_want_at_most (T : Txt K mg) : FnX P w K mg base 3 T.a_want_at_most T.d_want_at_most ["what", "limit", "number"] (spX K T.C mx_want_at_most 3) :=
  ok_fnX T.F_want_at_most sc_want_at_most (fun n cdv A outer s H E hA hr =>
    (sx_one (sx_if (st_gt (se_var 2) (se_var 1)) (sx_one (sx_raiseF 6 (ns := ["what", "limit"]) (k := 1) rfl (takes_of rfl rfl rfl rfl) T.E_TooMany.T T.E_TooMany.g T.E_TooMany.iC T.E_TooMany.tI (oi_TooMany T) (hr.mono (by decide)) (T.Fi_TooMany.binds (ps := ["self", "what", "limit"]) fun _ _ _ _ _ _ us hl => match us, hl with | [_, _, _], _ => rfl) (ss_cons (se_var 0) (ss_cons (se_var 1) ss_nil)))) sx_nil))) fun os r _ h => by
    have q := hmx_of h
    cases r <;> exact q
theorem ok_minus (T : Txt K mg) : FnG P w K mg base 3 T.a_minus T.d_minus ["a", "b"] (sp0 K mr_minus 2) :=
  ok_fn0 T.F_minus sc_minus (fun n cdv A outer s H hA hr =>
    (ss_one (ss_ret (se_call0 (idx := [0, 1]) (ok_plus T) hA (hr.mono (by decide)) T.g_plus T.F_plus.kp (Fun.bd T.F_plus fun _ _ _ _ _ _ us hl => match us, hl with | [_, _], _ => rfl) (ss_cons (se_var 0) (ss_cons (se_call0 (idx := [0]) (ok_opposite T) hA (hr.mono (by decide)) T.g_opposite T.F_opposite.kp (Fun.bd T.F_opposite fun _ _ _ _ _ _ us hl => match us, hl with | [_], _ => rfl) (ss_cons (se_var 1) ss_nil)) ss_nil)))))) fun os r _ h => hm_of fuel h
theorem ok_of_parts (T : Txt K mg) : FnX P w K mg base 3 T.a_of_parts T.d_of_parts ["parts"] (spX K T.C mx_of_parts 1) :=
  ok_fnX T.F_of_parts sc_of_parts (fun n cdv A outer s H E hA hr =>
    (sx_cons (sx_if (st_eq hr (se_len T.m_len (ss_cons (se_var 0) ss_nil)) se_int) (sx_one (sx_raise0 5 rfl (takes_of rfl rfl rfl rfl) PySem.F.excBase_LookupError T.E_NothingGiven)) sx_nil)
    (sx_ofs (ss_cons' (ss_asg 1 sc_of_parts.nd (se_call0 (idx := [0]) (ok_whole T) hA (hr.mono (by decide)) T.g_whole T.F_whole.kp (Fun.bd T.F_whole fun _ _ _ _ _ _ us hl => match us, hl with | [_], _ => rfl) (ss_cons (se_ix (se_var 0) (se_neg se_int)) ss_nil)))
    (ss_cons' (ss_for rfl (passes_of rfl) (si_rev T.m_reversed (se_sl (se_var 0) so_none (so_some (se_neg se_int)))) (sg_name 2 sc_of_parts.nd) (ss_one (ss_asg 1 sc_of_parts.nd (se_call0 (idx := [0, 1]) (ok_plus T) hA (hr.mono (by decide)) T.g_plus T.F_plus.kp (Fun.bd T.F_plus fun _ _ _ _ _ _ us hl => match us, hl with | [_, _], _ => rfl) (ss_cons (se_call0 (idx := [0]) (ok_whole T) hA (hr.mono (by decide)) T.g_whole T.F_whole.kp (Fun.bd T.F_whole fun _ _ _ _ _ _ us hl => match us, hl with | [_], _ => rfl) (ss_cons (se_var 2) ss_nil)) (ss_cons (se_call0 (idx := [0, 1]) (ok_over T) hA (hr.mono (by decide)) T.g_over T.F_over.kp (Fun.bd T.F_over fun _ _ _ _ _ _ us hl => match us, hl with | [_, _], _ => rfl) (ss_cons (se_globT T.c_ONE T.k_ONE) (ss_cons (se_var 1) ss_nil))) ss_nil))))))
    (ss_one (ss_ret (se_var 1)))))))) fun os r _ h => by
    have q := hmx_of h
    cases r <;> exact q
theorem ok__law_row (T : Txt K mg) : FnG P w K mg base 3 T.a__law_row T.d__law_row ["_law_pot_here"] (spP K mr__law_row 0) :=
  ok_fnP T.F__law_row sc__law_row rfl (fun n cdv A outer s H hA hr =>
    (ss_cons' (ss_asg 1 sc__law_row.nd (se_callP (idx := [0]) (ok__law_pick T) hA (hr.mono (by decide)) T.g__law_pick T.F__law_pick.kp (Fun.bd T.F__law_pick fun _ _ _ _ _ _ us hl => match us, hl with | [_, _], _ => rfl) (ss_cons (se_var 0) (ss_cons (se_lst (ss_cons se_int (ss_cons se_int (ss_cons se_int (ss_cons se_int ss_nil))))) ss_nil))))
    (ss_cons' (ss_asg 2 sc__law_row.nd (se_callP (idx := [0]) (ok__law_pick T) hA (hr.mono (by decide)) T.g__law_pick T.F__law_pick.kp (Fun.bd T.F__law_pick fun _ _ _ _ _ _ us hl => match us, hl with | [_, _], _ => rfl) (ss_cons (se_var 0) (ss_cons (se_lst (ss_cons se_int (ss_cons se_int (ss_cons se_int (ss_cons se_int (ss_cons se_int (ss_cons se_int (ss_cons se_int (ss_cons (se_if (st_lt (se_var 1) se_int) se_int se_int) ss_nil))))))))) ss_nil))))
    (ss_cons' (ss_asg 3 sc__law_row.nd (se_sub (se_callP (idx := [0]) (ok__law_draw T) hA (hr.mono (by decide)) T.g__law_draw T.F__law_draw.kp (Fun.bd T.F__law_draw fun _ _ _ _ _ _ us hl => match us, hl with | [_, _], _ => rfl) (ss_cons (se_var 0) (ss_cons (se_add (se_mul se_int (se_var 1)) se_int) ss_nil))) (se_var 1)))
    (ss_one (ss_ret (se_add (se_lst (ss_cons (se_var 3) ss_nil)) (se_lc 4 rfl sc__law_row.nd (si_r1 T.m_range (ss_cons (se_var 2) ss_nil)) (fun _ _ _ _ _ => (se_add se_int (se_callP (idx := [0]) (ok__law_draw T) hA (hr.mono (by decide)) T.g__law_draw T.F__law_draw.kp (Fun.bd T.F__law_draw fun _ _ _ _ _ _ us hl => match us, hl with | [_, _], _ => rfl) (ss_cons (se_var 0) (ss_cons (se_var 1) ss_nil))))) (ok := blkOk_by (N := ["_law_pot_here", "_law_size", "_law_many", "_law_first", "_law_turn"]) (sc := defScope s__law_row) (by decide +kernel)) (hg := fun _ _ _ _ _ => pg_name sc__law_row.nd rfl (Or.inl rfl)))))))))) fun op os r op' _ h => hp_of fuel h
theorem ok__law_low (T : Txt K mg) : FnG P w K mg base 3 T.a__law_low T.d__law_low ["_law_pot_here", "_law_size"] (spP K mr__law_low 1) :=
  ok_fnP T.F__law_low sc__law_low rfl (fun n cdv A outer s H hA hr =>
    (ss_cons' (ss_asg 2 sc__law_low.nd (se_sub (se_callP (idx := [0]) (ok__law_draw T) hA (hr.mono (by decide)) T.g__law_draw T.F__law_draw.kp (Fun.bd T.F__law_draw fun _ _ _ _ _ _ us hl => match us, hl with | [_, _], _ => rfl) (ss_cons (se_var 0) (ss_cons (se_mul se_int (se_var 1)) ss_nil))) (se_mul se_int (se_var 1))))
    (ss_cons' (ss_if (st_eq hr (se_callP (idx := [0]) (ok__law_draw T) hA (hr.mono (by decide)) T.g__law_draw T.F__law_draw.kp (Fun.bd T.F__law_draw fun _ _ _ _ _ _ us hl => match us, hl with | [_, _], _ => rfl) (ss_cons (se_var 0) (ss_cons se_int ss_nil))) se_int) (ss_one (ss_ret (se_tup (ss_cons (se_div (se_var 2) se_int) (ss_cons se_int ss_nil))))) ss_nil')
    (ss_one (ss_ret (se_call0 (idx := [0, 1]) (ok__law_made T) hA (hr.mono (by decide)) T.g__law_made T.F__law_made.kp (Fun.bd T.F__law_made fun _ _ _ _ _ _ us hl => match us, hl with | [_, _], _ => rfl) (ss_cons (se_var 2) (ss_cons (se_add se_int (se_callP (idx := [0]) (ok__law_draw T) hA (hr.mono (by decide)) T.g__law_draw T.F__law_draw.kp (Fun.bd T.F__law_draw fun _ _ _ _ _ _ us hl => match us, hl with | [_, _], _ => rfl) (ss_cons (se_var 0) (ss_cons (se_var 1) ss_nil)))) ss_nil)))))))) fun op os r op' _ h => hp_of fuel h
theorem ok__law_sum (T : Txt K mg) : FnG P w K mg base 3 T.a__law_sum T.d__law_sum ["_law_a", "_law_b"] (sp0 K mr__law_sum 2) :=
  ok_fn0 T.F__law_sum sc__law_sum (fun n cdv A outer s H hA hr =>
    (ss_one (ss_ret (se_call0 (idx := [0, 1]) (ok__law_made T) hA (hr.mono (by decide)) T.g__law_made T.F__law_made.kp (Fun.bd T.F__law_made fun _ _ _ _ _ _ us hl => match us, hl with | [_, _], _ => rfl) (ss_cons (se_add (se_mul (se_ix (se_var 0) se_int) (se_ix (se_var 1) se_int)) (se_mul (se_ix (se_var 1) se_int) (se_ix (se_var 0) se_int))) (ss_cons (se_mul (se_ix (se_var 0) se_int) (se_ix (se_var 1) se_int)) ss_nil)))))) fun os r _ h => hm_of fuel h
theorem ok_simplest_plain (T : Txt K mg) : FnX P w K mg base 4 T.a_simplest_plain T.d_simplest_plain ["low", "high"] (spX K T.C mx_simplest_plain 2) :=
  ok_fnX T.F_simplest_plain sc_simplest_plain (fun n cdv A outer s H E hA hr =>
    (sx_cons (sx_expr (sex_call (idx := [0, 1]) (takes_of rfl rfl rfl rfl) (ok_want_in_order T) hA (hr.mono (by decide)) T.g_want_in_order T.F_want_in_order.kp (Fun.bd T.F_want_in_order fun _ _ _ _ _ _ us hl => match us, hl with | [_, _], _ => rfl) (ss_cons (se_var 0) (ss_cons (se_var 1) ss_nil))))
    (sx_cons (sx_of (ss_for rfl (passes_of rfl) (si_r2 T.m_range (ss_cons se_int (ss_cons (se_add (se_globI T.c_MOST_BELOW) se_int) ss_nil))) (sg_name 2 sc_simplest_plain.nd) (ss_cons' (ss_asg 3 sc_simplest_plain.nd (se_neg (se_div (se_mul (se_neg (se_ix (se_var 0) se_int)) (se_var 2)) (se_ix (se_var 0) se_int))))
    (ss_cons' (ss_asg 4 sc_simplest_plain.nd (se_div (se_mul (se_ix (se_var 1) se_int) (se_var 2)) (se_ix (se_var 1) se_int)))
    (ss_one (ss_if (st_le (se_var 3) (se_var 4)) (ss_one (ss_ret (se_call0 (idx := [0, 1]) (ok_fraction T).calm hA (hr.mono (by decide)) T.g_fraction T.F_fraction.kp (Fun.bd T.F_fraction fun _ _ _ _ _ _ us hl => match us, hl with | [_, _], _ => rfl) (ss_cons (se_call0 (idx := [0, 1]) (ok_nearest_to_nought T) hA (hr.mono (by decide)) T.g_nearest_to_nought T.F_nearest_to_nought.kp (Fun.bd T.F_nearest_to_nought fun _ _ _ _ _ _ us hl => match us, hl with | [_, _], _ => rfl) (ss_cons (se_var 3) (ss_cons (se_var 4) ss_nil))) (ss_cons (se_var 2) ss_nil))))) ss_nil'))))))
    (sx_one (sx_ret (sex_call (idx := [0, 1, 2]) (takes_of rfl rfl rfl rfl) (ok_want_at_most T) hA (hr.mono (by decide)) T.g_want_at_most T.F_want_at_most.kp (Fun.bd T.F_want_at_most fun _ _ _ _ _ _ us hl => match us, hl with | [_, _, _], _ => rfl) (ss_cons se_str (ss_cons (se_globI T.c_MOST_BELOW) (ss_cons (se_add (se_globI T.c_MOST_BELOW) se_int) ss_nil))))))))) fun os r _ h => by
    have q := hmx_of h
    cases r <;> exact q
theorem ok_simplest_above (T : Txt K mg) : FnG P w K mg base 4 T.a_simplest_above T.d_simplest_above ["low", "high"] (sp0 K mr_simplest_above 2) :=
  ok_fn0 T.F_simplest_above sc_simplest_above (fun n cdv A outer s H hA hr =>
    (ss_cons' (ss_asg 2 sc_simplest_above.nd (se_lst ss_nil))
    (ss_cons' (ss_while n PassesOwn.never (st_gt (se_call0 (idx := [0, 1]) (ok_compare T) hA (hr.mono (by decide)) T.g_compare T.F_compare.kp (Fun.bd T.F_compare fun _ _ _ _ _ _ us hl => match us, hl with | [_, _], _ => rfl) (ss_cons (se_call0 (idx := [0]) (ok_whole T) hA (hr.mono (by decide)) T.g_whole T.F_whole.kp (Fun.bd T.F_whole fun _ _ _ _ _ _ us hl => match us, hl with | [_], _ => rfl) (ss_cons (se_call0 (idx := [0]) (ok_ceiling_of T) hA (hr.mono (by decide)) T.g_ceiling_of T.F_ceiling_of.kp (Fun.bd T.F_ceiling_of fun _ _ _ _ _ _ us hl => match us, hl with | [_], _ => rfl) (ss_cons (se_var 0) ss_nil)) ss_nil)) (ss_cons (se_var 1) ss_nil))) se_int) (ss_cons' (ss_asg 3 sc_simplest_above.nd (se_call0 (idx := [0]) (ok_whole T) hA (hr.mono (by decide)) T.g_whole T.F_whole.kp (Fun.bd T.F_whole fun _ _ _ _ _ _ us hl => match us, hl with | [_], _ => rfl) (ss_cons (se_call0 (idx := [0]) (ok_floor_of T) hA (hr.mono (by decide)) T.g_floor_of T.F_floor_of.kp (Fun.bd T.F_floor_of fun _ _ _ _ _ _ us hl => match us, hl with | [_], _ => rfl) (ss_cons (se_var 0) ss_nil)) ss_nil)))
    (ss_cons' (ss_app 2 (se_ix (se_var 3) se_int))
    (ss_one (ss_par 0 1 rfl sc_simplest_above.nd (ss_cons (se_call0 (idx := [0, 1]) (ok_over T) hA (hr.mono (by decide)) T.g_over T.F_over.kp (Fun.bd T.F_over fun _ _ _ _ _ _ us hl => match us, hl with | [_, _], _ => rfl) (ss_cons (se_globT T.c_ONE T.k_ONE) (ss_cons (se_call0 (idx := [0, 1]) (ok_minus T) hA (hr.mono (by decide)) T.g_minus T.F_minus.kp (Fun.bd T.F_minus fun _ _ _ _ _ _ us hl => match us, hl with | [_, _], _ => rfl) (ss_cons (se_var 1) (ss_cons (se_var 3) ss_nil))) ss_nil))) (ss_cons (se_call0 (idx := [0, 1]) (ok_over T) hA (hr.mono (by decide)) T.g_over T.F_over.kp (Fun.bd T.F_over fun _ _ _ _ _ _ us hl => match us, hl with | [_, _], _ => rfl) (ss_cons (se_globT T.c_ONE T.k_ONE) (ss_cons (se_call0 (idx := [0, 1]) (ok_minus T) hA (hr.mono (by decide)) T.g_minus T.F_minus.kp (Fun.bd T.F_minus fun _ _ _ _ _ _ us hl => match us, hl with | [_, _], _ => rfl) (ss_cons (se_var 0) (ss_cons (se_var 3) ss_nil))) ss_nil))) ss_nil)))))))
    (ss_cons' (ss_app 2 (se_call0 (idx := [0]) (ok_ceiling_of T) hA (hr.mono (by decide)) T.g_ceiling_of T.F_ceiling_of.kp (Fun.bd T.F_ceiling_of fun _ _ _ _ _ _ us hl => match us, hl with | [_], _ => rfl) (ss_cons (se_var 0) ss_nil)))
    (ss_one (ss_ret (se_call0 (idx := [0]) (ok_of_parts T).calm hA (hr.mono (by decide)) T.g_of_parts T.F_of_parts.kp (Fun.bd T.F_of_parts fun _ _ _ _ _ _ us hl => match us, hl with | [_], _ => rfl) (ss_cons (se_var 2) ss_nil)))))))) fun os r _ h => hm_of fuel h
theorem ok__law_near (T : Txt K mg) : FnG P w K mg base 4 T.a__law_near T.d__law_near ["_law_pot_here", "_law_parts_here"] (spP K mr__law_near 1) :=
  ok_fnP T.F__law_near sc__law_near rfl (fun n cdv A outer s H hA hr =>
    (ss_cons' (ss_asg 2 sc__law_near.nd (se_callP (idx := [0]) (ok__law_draw T) hA (hr.mono (by decide)) T.g__law_draw T.F__law_draw.kp (Fun.bd T.F__law_draw fun _ _ _ _ _ _ us hl => match us, hl with | [_, _], _ => rfl) (ss_cons (se_var 0) (ss_cons se_int ss_nil))))
    (ss_cons' (ss_asg 3 sc__law_near.nd (se_callP (idx := [0]) (ok__law_draw T) hA (hr.mono (by decide)) T.g__law_draw T.F__law_draw.kp (Fun.bd T.F__law_draw fun _ _ _ _ _ _ us hl => match us, hl with | [_, _], _ => rfl) (ss_cons (se_var 0) (ss_cons (se_len T.m_len (ss_cons (se_var 1) ss_nil)) ss_nil))))
    (ss_cons' (ss_asg 4 sc__law_near.nd (se_list1 T.m_list (ss_cons (se_var 1) ss_nil)))
    (ss_cons' (ss_if (st_eq hr (se_var 2) se_int) (ss_one (ss_ret (se_var 4))) ss_nil')
    (ss_cons' (ss_if (st_eq hr (se_var 2) se_int) (ss_one (ss_ret (se_add (se_var 4) (se_lst (ss_cons (se_add se_int (se_callP (idx := [0]) (ok__law_draw T) hA (hr.mono (by decide)) T.g__law_draw T.F__law_draw.kp (Fun.bd T.F__law_draw fun _ _ _ _ _ _ us hl => match us, hl with | [_, _], _ => rfl) (ss_cons (se_var 0) (ss_cons se_int ss_nil)))) ss_nil))))) ss_nil')
    (ss_cons' (ss_if (st_eq hr (se_var 2) se_int) (ss_one (ss_ret (se_sl (se_var 4) so_none (so_some (se_add (se_var 3) se_int))))) ss_nil')
    (ss_cons' (ss_if (st_eq hr (se_var 2) se_int) (ss_cons' (ss_asgG (sg_sub 4 (se_var 3)) (se_add (se_add (se_ix (se_var 4) (se_var 3)) se_int) (se_callP (idx := [0]) (ok__law_draw T) hA (hr.mono (by decide)) T.g__law_draw T.F__law_draw.kp (Fun.bd T.F__law_draw fun _ _ _ _ _ _ us hl => match us, hl with | [_, _], _ => rfl) (ss_cons (se_var 0) (ss_cons se_int ss_nil)))))
    (ss_one (ss_ret (se_var 4)))) ss_nil')
    (ss_cons' (ss_if (st_eq hr (se_var 2) se_int) (ss_one (ss_ret (se_add (se_sl (se_var 4) so_none (so_some (se_add (se_var 3) se_int))) (se_sl (se_callP (idx := []) (ok__law_row T) hA (hr.mono (by decide)) T.g__law_row T.F__law_row.kp (Fun.bd T.F__law_row fun _ _ _ _ _ _ us hl => match us, hl with | [_], _ => rfl) (ss_cons (se_var 0) ss_nil)) (so_some se_int) so_none)))) ss_nil')
    (ss_one (ss_ret (se_callP (idx := []) (ok__law_row T) hA (hr.mono (by decide)) T.g__law_row T.F__law_row.kp (Fun.bd T.F__law_row fun _ _ _ _ _ _ us hl => match us, hl with | [_], _ => rfl) (ss_cons (se_var 0) ss_nil))))))))))))) fun op os r op' _ h => hp_of fuel h
theorem ok__law_no_parts (T : Txt K mg) : FnG P w K mg base 4 T.a__law_no_parts T.d__law_no_parts [] (sp0 K mr__law_no_parts 0) :=
  ok_fn0 T.F__law_no_parts sc__law_no_parts (fun n cdv A outer s H hA hr =>
    (ss_cons' (ss_asg 0 sc__law_no_parts.nd (se_lst ss_nil))
    (ss_cons' (ss_tryAs 1 rfl rfl sc__law_no_parts.nd ⟨rfl, by decide, .inl T.E_NothingGiven.g⟩ T.errs (by decide) (by decide) (fun W pn xe tk _ => (sx_one (sx_expr (sex_call (idx := [0]) tk (ok_of_parts T) hA (hr.mono (by decide)) T.g_of_parts T.F_of_parts.kp (Fun.bd T.F_of_parts fun _ _ _ _ _ _ us hl => match us, hl with | [_], _ => rfl) (ss_cons (se_lst ss_nil) ss_nil))))) (fun e a oe pn he hz hf => (ss_one (ss_app 0 (se_and (se_isE (y := 1) T.errs he (by decide) (T.excs e.1 he) hz hf T.m_isinstance T.E_MissingError.g (se_var 1)) (se_one (se_not (se_isE (y := 0) T.errs he (by decide) (T.excs e.1 he) hz hf T.m_isinstance T.E_TermError.g (se_var 1)))))))))
    (ss_one (ss_ret (se_eq hr (se_repr hA hr T.m_repr (ss_cons (se_var 0) ss_nil)) se_str)))))) fun os r _ h => hm_of fuel h
theorem ok__law_bounds (T : Txt K mg) : FnG P w K mg base 4 T.a__law_bounds T.d__law_bounds ["_law_pot_here"] (spP K mr__law_bounds 0) :=
  ok_fnP T.F__law_bounds sc__law_bounds rfl (fun n cdv A outer s H hA hr =>
    (ss_cons' (ss_asg 1 sc__law_bounds.nd (se_callP (idx := [0]) (ok__law_draw T) hA (hr.mono (by decide)) T.g__law_draw T.F__law_draw.kp (Fun.bd T.F__law_draw fun _ _ _ _ _ _ us hl => match us, hl with | [_, _], _ => rfl) (ss_cons (se_var 0) (ss_cons se_int ss_nil))))
    (ss_cons' (ss_if (st_eq hr (se_var 1) se_int) (ss_cons' (ss_asg 2 sc__law_bounds.nd (se_callP (idx := [0]) (ok__law_low T) hA (hr.mono (by decide)) T.g__law_low T.F__law_low.kp (Fun.bd T.F__law_low fun _ _ _ _ _ _ us hl => match us, hl with | [_, _], _ => rfl) (ss_cons (se_var 0) (ss_cons se_int ss_nil))))
    (ss_one (ss_ret (se_tup (ss_cons (se_var 2) (ss_cons (se_var 2) (ss_cons se_int ss_nil))))))) ss_nil')
    (ss_cons' (ss_if (st_eq hr (se_var 1) se_int) (ss_cons' (ss_asg 2 sc__law_bounds.nd (se_tup (ss_cons (se_sub (se_callP (idx := [0]) (ok__law_draw T) hA (hr.mono (by decide)) T.g__law_draw T.F__law_draw.kp (Fun.bd T.F__law_draw fun _ _ _ _ _ _ us hl => match us, hl with | [_, _], _ => rfl) (ss_cons (se_var 0) (ss_cons se_int ss_nil))) se_int) (ss_cons se_int ss_nil))))
    (ss_one (ss_ret (se_tup (ss_cons (se_var 2) (ss_cons (se_tup (ss_cons (se_add (se_ix (se_var 2) se_int) (se_callP (idx := [0]) (ok__law_draw T) hA (hr.mono (by decide)) T.g__law_draw T.F__law_draw.kp (Fun.bd T.F__law_draw fun _ _ _ _ _ _ us hl => match us, hl with | [_, _], _ => rfl) (ss_cons (se_var 0) (ss_cons se_int ss_nil)))) (ss_cons se_int ss_nil))) (ss_cons se_int ss_nil))))))) ss_nil')
    (ss_cons' (ss_if (st_eq hr (se_var 1) se_int) (ss_cons' (ss_asg 2 sc__law_bounds.nd (se_callP (idx := [0]) (ok__law_low T) hA (hr.mono (by decide)) T.g__law_low T.F__law_low.kp (Fun.bd T.F__law_low fun _ _ _ _ _ _ us hl => match us, hl with | [_, _], _ => rfl) (ss_cons (se_var 0) (ss_cons (se_pow se_int se_int) ss_nil))))
    (ss_one (ss_ret (se_tup (ss_cons (se_var 2) (ss_cons (se_call0 (idx := [0, 1]) (ok__law_sum T) hA (hr.mono (by decide)) T.g__law_sum T.F__law_sum.kp (Fun.bd T.F__law_sum fun _ _ _ _ _ _ us hl => match us, hl with | [_, _], _ => rfl) (ss_cons (se_var 2) (ss_cons (se_tup (ss_cons se_int (ss_cons (se_add se_int (se_callP (idx := [0]) (ok__law_draw T) hA (hr.mono (by decide)) T.g__law_draw T.F__law_draw.kp (Fun.bd T.F__law_draw fun _ _ _ _ _ _ us hl => match us, hl with | [_, _], _ => rfl) (ss_cons (se_var 0) (ss_cons se_int ss_nil)))) ss_nil))) ss_nil))) (ss_cons se_int ss_nil))))))) ss_nil')
    (ss_cons' (ss_if (st_eq hr (se_var 1) se_int) (ss_cons' (ss_asg 2 sc__law_bounds.nd (se_callP (idx := [0]) (ok__law_low T) hA (hr.mono (by decide)) T.g__law_low T.F__law_low.kp (Fun.bd T.F__law_low fun _ _ _ _ _ _ us hl => match us, hl with | [_, _], _ => rfl) (ss_cons (se_var 0) (ss_cons se_int ss_nil))))
    (ss_one (ss_ret (se_tup (ss_cons (se_tup (ss_cons (se_neg (se_abs T.m_abs (ss_cons (se_ix (se_var 2) se_int) ss_nil))) (ss_cons (se_ix (se_var 2) se_int) ss_nil))) (ss_cons (se_call0 (idx := [0, 1]) (ok__law_made T) hA (hr.mono (by decide)) T.g__law_made T.F__law_made.kp (Fun.bd T.F__law_made fun _ _ _ _ _ _ us hl => match us, hl with | [_, _], _ => rfl) (ss_cons (se_callP (idx := [0]) (ok__law_draw T) hA (hr.mono (by decide)) T.g__law_draw T.F__law_draw.kp (Fun.bd T.F__law_draw fun _ _ _ _ _ _ us hl => match us, hl with | [_, _], _ => rfl) (ss_cons (se_var 0) (ss_cons se_int ss_nil))) (ss_cons se_int ss_nil))) (ss_cons se_int ss_nil))))))) ss_nil')
    (ss_cons' (ss_asg 2 sc__law_bounds.nd (se_callP (idx := [0]) (ok__law_low T) hA (hr.mono (by decide)) T.g__law_low T.F__law_low.kp (Fun.bd T.F__law_low fun _ _ _ _ _ _ us hl => match us, hl with | [_, _], _ => rfl) (ss_cons (se_var 0) (ss_cons se_int ss_nil))))
    (ss_one (ss_ret (se_tup (ss_cons (se_var 2) (ss_cons (se_call0 (idx := [0, 1]) (ok__law_sum T) hA (hr.mono (by decide)) T.g__law_sum T.F__law_sum.kp (Fun.bd T.F__law_sum fun _ _ _ _ _ _ us hl => match us, hl with | [_, _], _ => rfl) (ss_cons (se_var 2) (ss_cons (se_call0 (idx := [0, 1]) (ok__law_made T) hA (hr.mono (by decide)) T.g__law_made T.F__law_made.kp (Fun.bd T.F__law_made fun _ _ _ _ _ _ us hl => match us, hl with | [_, _], _ => rfl) (ss_cons (se_callP (idx := [0]) (ok__law_draw T) hA (hr.mono (by decide)) T.g__law_draw T.F__law_draw.kp (Fun.bd T.F__law_draw fun _ _ _ _ _ _ us hl => match us, hl with | [_, _], _ => rfl) (ss_cons (se_var 0) (ss_cons se_int ss_nil))) (ss_cons (se_add se_int (se_callP (idx := [0]) (ok__law_draw T) hA (hr.mono (by decide)) T.g__law_draw T.F__law_draw.kp (Fun.bd T.F__law_draw fun _ _ _ _ _ _ us hl => match us, hl with | [_, _], _ => rfl) (ss_cons (se_var 0) (ss_cons se_int ss_nil)))) ss_nil))) ss_nil))) (ss_cons se_int ss_nil))))))))))))) fun op os r op' _ h => hp_of fuel h
theorem ok_simplest (T : Txt K mg) : FnX P w K mg base 5 T.a_simplest T.d_simplest ["low", "high"] (spX K T.C mx_simplest 2) :=
  ok_fnX T.F_simplest sc_simplest (fun n cdv A outer s H E hA hr =>
    (sx_cons (sx_expr (sex_call (idx := [0, 1]) (takes_of rfl rfl rfl rfl) (ok_want_in_order T) hA (hr.mono (by decide)) T.g_want_in_order T.F_want_in_order.kp (Fun.bd T.F_want_in_order fun _ _ _ _ _ _ us hl => match us, hl with | [_, _], _ => rfl) (ss_cons (se_var 0) (ss_cons (se_var 1) ss_nil))))
    (sx_ofs (ss_cons' (ss_if (STw.t (st_and (st_le (se_call0 (idx := [0]) (ok_sign_of T) hA (hr.mono (by decide)) T.g_sign_of T.F_sign_of.kp (Fun.bd T.F_sign_of fun _ _ _ _ _ _ us hl => match us, hl with | [_], _ => rfl) (ss_cons (se_var 0) ss_nil)) se_int) (st_and1 (st_ge (se_call0 (idx := [0]) (ok_sign_of T) hA (hr.mono (by decide)) T.g_sign_of T.F_sign_of.kp (Fun.bd T.F_sign_of fun _ _ _ _ _ _ us hl => match us, hl with | [_], _ => rfl) (ss_cons (se_var 1) ss_nil)) se_int)))) (ss_one (ss_ret (se_globT T.c_NOUGHT T.k_NOUGHT))) ss_nil')
    (ss_cons' (ss_if (st_lt (se_call0 (idx := [0]) (ok_sign_of T) hA (hr.mono (by decide)) T.g_sign_of T.F_sign_of.kp (Fun.bd T.F_sign_of fun _ _ _ _ _ _ us hl => match us, hl with | [_], _ => rfl) (ss_cons (se_var 1) ss_nil)) se_int) (ss_one (ss_ret (se_call0 (idx := [0]) (ok_opposite T) hA (hr.mono (by decide)) T.g_opposite T.F_opposite.kp (Fun.bd T.F_opposite fun _ _ _ _ _ _ us hl => match us, hl with | [_], _ => rfl) (ss_cons (se_call0 (idx := [0, 1]) (ok_simplest_above T) hA (hr.mono (by decide)) T.g_simplest_above T.F_simplest_above.kp (Fun.bd T.F_simplest_above fun _ _ _ _ _ _ us hl => match us, hl with | [_, _], _ => rfl) (ss_cons (se_call0 (idx := [0]) (ok_opposite T) hA (hr.mono (by decide)) T.g_opposite T.F_opposite.kp (Fun.bd T.F_opposite fun _ _ _ _ _ _ us hl => match us, hl with | [_], _ => rfl) (ss_cons (se_var 1) ss_nil)) (ss_cons (se_call0 (idx := [0]) (ok_opposite T) hA (hr.mono (by decide)) T.g_opposite T.F_opposite.kp (Fun.bd T.F_opposite fun _ _ _ _ _ _ us hl => match us, hl with | [_], _ => rfl) (ss_cons (se_var 0) ss_nil)) ss_nil))) ss_nil)))) ss_nil')
    (ss_one (ss_ret (se_call0 (idx := [0, 1]) (ok_simplest_above T) hA (hr.mono (by decide)) T.g_simplest_above T.F_simplest_above.kp (Fun.bd T.F_simplest_above fun _ _ _ _ _ _ us hl => match us, hl with | [_, _], _ => rfl) (ss_cons (se_var 0) (ss_cons (se_var 1) ss_nil)))))))))) fun os r _ h => by
    have q := hmx_of h
    cases r <;> exact q
theorem ok__law_parts_right (T : Txt K mg) : FnG P w K mg base 5 T.a__law_parts_right T.d__law_parts_right ["_law_pot_here"] (spP K mr__law_parts_right 0) :=
  ok_fnP T.F__law_parts_right sc__law_parts_right rfl (fun n cdv A outer s H hA hr =>
    (ss_cons' (ss_asg 1 sc__law_parts_right.nd (se_callP (idx := []) (ok__law_row T) hA (hr.mono (by decide)) T.g__law_row T.F__law_row.kp (Fun.bd T.F__law_row fun _ _ _ _ _ _ us hl => match us, hl with | [_], _ => rfl) (ss_cons (se_var 0) ss_nil)))
    (ss_cons' (ss_asg 2 sc__law_parts_right.nd (se_callP (idx := [0]) (ok__law_near T) hA (hr.mono (by decide)) T.g__law_near T.F__law_near.kp (Fun.bd T.F__law_near fun _ _ _ _ _ _ us hl => match us, hl with | [_, _], _ => rfl) (ss_cons (se_var 0) (ss_cons (se_var 1) ss_nil))))
    (ss_cons' (ss_asg 3 sc__law_parts_right.nd (se_reprL hA hr T.m_repr (ss_cons (se_var 1) (ss_cons (se_var 2) ss_nil))))
    (ss_cons' (ss_par 6 7 rfl sc__law_parts_right.nd (ss_cons (se_call0 (idx := [0]) (ok__law_stands T) hA (hr.mono (by decide)) T.g__law_stands T.F__law_stands.kp (Fun.bd T.F__law_stands fun _ _ _ _ _ _ us hl => match us, hl with | [_], _ => rfl) (ss_cons (se_var 1) ss_nil)) (ss_cons (se_call0 (idx := [0]) (ok__law_stands T) hA (hr.mono (by decide)) T.g__law_stands T.F__law_stands.kp (Fun.bd T.F__law_stands fun _ _ _ _ _ _ us hl => match us, hl with | [_], _ => rfl) (ss_cons (se_var 2) ss_nil)) ss_nil)))
    (ss_cons' (ss_asg 4 sc__law_parts_right.nd (se_lstO (ss_cons (se_call0 (idx := [0]) (ok_of_parts T).calm hA (hr.mono (by decide)) T.g_of_parts T.F_of_parts.kp (Fun.bd T.F_of_parts fun _ _ _ _ _ _ us hl => match us, hl with | [_], _ => rfl) (ss_cons (se_var 1) ss_nil)) (ss_cons (se_callk0 (ks := ["parts"]) (idx := [0]) (ok_of_parts T).calm hA (hr.mono (by decide)) T.g_of_parts T.F_of_parts.kp (Fun.bd T.F_of_parts fun _ _ _ _ _ _ us hl => match us, hl with | [_], _ => rfl) (sk_cons (se_var 2) sk_nil)) ss_nil))))
    (ss_cons' (ss_if (STw.t (st_or (st_ne hr (se_repr hA hr T.m_repr (ss_cons (se_var 4) ss_nil)) (se_reprL hA hr T.m_repr (ss_cons (se_var 6) (ss_cons (se_var 7) ss_nil)))) (st_or1 (st_ne hr (se_reprL hA hr T.m_repr (ss_cons (se_var 1) (ss_cons (se_var 2) ss_nil))) (se_var 3))))) (ss_one (ss_ret se_bl)) ss_nil')
    (ss_cons' (ss_asg 4 sc__law_parts_right.nd (se_lstO (ss_cons (se_call0 (idx := [0]) (ok_parts_of T) hA (hr.mono (by decide)) T.g_parts_of T.F_parts_of.kp (Fun.bd T.F_parts_of fun _ _ _ _ _ _ us hl => match us, hl with | [_], _ => rfl) (ss_cons (se_var 6) ss_nil)) (ss_cons (se_callk0 (ks := ["a"]) (idx := [0]) (ok_parts_of T) hA (hr.mono (by decide)) T.g_parts_of T.F_parts_of.kp (Fun.bd T.F_parts_of fun _ _ _ _ _ _ us hl => match us, hl with | [_], _ => rfl) (sk_cons (se_var 7) sk_nil)) ss_nil))))
    (ss_cons' (ss_asg 5 sc__law_parts_right.nd (se_lst (ss_cons (se_call0 (idx := [0]) (ok__law_parts T) hA (hr.mono (by decide)) T.g__law_parts T.F__law_parts.kp (Fun.bd T.F__law_parts fun _ _ _ _ _ _ us hl => match us, hl with | [_], _ => rfl) (ss_cons (se_var 6) ss_nil)) (ss_cons (se_call0 (idx := [0]) (ok__law_parts T) hA (hr.mono (by decide)) T.g__law_parts T.F__law_parts.kp (Fun.bd T.F__law_parts fun _ _ _ _ _ _ us hl => match us, hl with | [_], _ => rfl) (ss_cons (se_var 7) ss_nil)) ss_nil))))
    (ss_cons' (ss_if (st_ne hr (se_repr hA hr T.m_repr (ss_cons (se_var 4) ss_nil)) (se_repr hA hr T.m_repr (ss_cons (se_var 5) ss_nil))) (ss_one (ss_ret se_bl)) ss_nil')
    (ss_cons' (ss_appIx 4 se_int se_int)
    (ss_cons' (ss_if (STw.t (st_or (st_ne hr (se_repr hA hr T.m_repr (ss_cons (se_call0 (idx := [0]) (ok_parts_of T) hA (hr.mono (by decide)) T.g_parts_of T.F_parts_of.kp (Fun.bd T.F_parts_of fun _ _ _ _ _ _ us hl => match us, hl with | [_], _ => rfl) (ss_cons (se_var 6) ss_nil)) ss_nil)) (se_repr hA hr T.m_repr (ss_cons (se_ix (se_var 5) se_int) ss_nil))) (st_or1 (st_not (st_tru (se_call00 (ok__law_no_parts T) hA (hr.mono (by decide)) T.g__law_no_parts T.F__law_no_parts.kp (Fun.bd T.F__law_no_parts fun _ _ _ _ _ _ us hl => match us, hl with | [], _ => rfl))))))) (ss_one (ss_ret se_bl)) ss_nil')
    (ss_cons' (ss_asg 4 sc__law_parts_right.nd (se_lstO (ss_cons (se_call0 (idx := [0, 1]) (ok_compare_by_parts T) hA (hr.mono (by decide)) T.g_compare_by_parts T.F_compare_by_parts.kp (Fun.bd T.F_compare_by_parts fun _ _ _ _ _ _ us hl => match us, hl with | [_, _], _ => rfl) (ss_cons (se_var 6) (ss_cons (se_var 7) ss_nil))) (ss_cons (se_callk0 (ks := ["b", "a"]) (idx := [1, 0]) (ok_compare_by_parts T) hA (hr.mono (by decide)) T.g_compare_by_parts T.F_compare_by_parts.kp (Fun.bd T.F_compare_by_parts fun _ _ _ _ _ _ us hl => match us, hl with | [_, _], _ => rfl) (sk_cons (se_var 6) (sk_cons (se_var 7) sk_nil))) ss_nil))))
    (ss_cons' (ss_app 4 (se_call0 (idx := [0, 1]) (ok_compare_by_parts T) hA (hr.mono (by decide)) T.g_compare_by_parts T.F_compare_by_parts.kp (Fun.bd T.F_compare_by_parts fun _ _ _ _ _ _ us hl => match us, hl with | [_, _], _ => rfl) (ss_cons (se_var 6) (ss_cons (se_var 6) ss_nil))))
    (ss_one (ss_ret (se_eq hr (se_repr hA hr T.m_repr (ss_cons (se_var 4) ss_nil)) (se_reprL hA hr T.m_repr (ss_cons (se_call0 (idx := [0, 1]) (ok__law_less T) hA (hr.mono (by decide)) T.g__law_less T.F__law_less.kp (Fun.bd T.F__law_less fun _ _ _ _ _ _ us hl => match us, hl with | [_, _], _ => rfl) (ss_cons (se_var 6) (ss_cons (se_var 7) ss_nil))) (ss_cons (se_call0 (idx := [0, 1]) (ok__law_less T) hA (hr.mono (by decide)) T.g__law_less T.F__law_less.kp (Fun.bd T.F__law_less fun _ _ _ _ _ _ us hl => match us, hl with | [_, _], _ => rfl) (ss_cons (se_var 7) (ss_cons (se_var 6) ss_nil))) (ss_cons se_int ss_nil))))))))))))))))))))) fun op os r op' _ h => hp_of fuel h
theorem ok__law_crossed_right (T : Txt K mg) : FnG P w K mg base 6 T.a__law_crossed_right T.d__law_crossed_right ["_law_low_here", "_law_high"] (sp0 K mr__law_crossed_right 2) :=
  ok_fn0 T.F__law_crossed_right sc__law_crossed_right (fun n cdv A outer s H hA hr =>
    (ss_cons' (ss_asg 2 sc__law_crossed_right.nd (se_lst ss_nil))
    (ss_cons' (ss_tryAs 3 rfl rfl sc__law_crossed_right.nd ⟨rfl, by decide, .inl T.E_CrossedBounds.g⟩ T.errs (by decide) (by decide) (fun W pn xe tk _ => (sx_one (sx_expr (sex_call (idx := [0, 1]) tk (ok_simplest T) hA (hr.mono (by decide)) T.g_simplest T.F_simplest.kp (Fun.bd T.F_simplest fun _ _ _ _ _ _ us hl => match us, hl with | [_, _], _ => rfl) (ss_cons (se_var 1) (ss_cons (se_var 0) ss_nil)))))) (fun e a oe pn he hz hf => (ss_one (ss_app 2 (se_and (se_isE (y := 0) T.errs he (by decide) (T.excs e.1 he) hz hf T.m_isinstance T.E_TermError.g (se_var 3)) (se_one (se_isEB (C := T.C) (y := "ValueError") (T.excs e.1 he) hz hf T.m_isinstance T.m_ValueError (T.errsB "ValueError" (by decide) e.1 he) (se_var 3))))))))
    (ss_cons' (ss_tryAs 3 rfl rfl sc__law_crossed_right.nd ⟨rfl, by decide, .inl T.E_TermError.g⟩ T.errs (by decide) (by decide) (fun W pn xe tk _ => (sx_one (sx_expr (sex_call (idx := [0, 1]) tk (ok_simplest_plain T) hA (hr.mono (by decide)) T.g_simplest_plain T.F_simplest_plain.kp (Fun.bd T.F_simplest_plain fun _ _ _ _ _ _ us hl => match us, hl with | [_, _], _ => rfl) (ss_cons (se_var 1) (ss_cons (se_var 0) ss_nil)))))) (fun e a oe pn he hz hf => (ss_one (ss_app 2 (se_and (se_isE (y := 3) T.errs he (by decide) (T.excs e.1 he) hz hf T.m_isinstance T.E_CrossedBounds.g (se_var 3)) (se_one (se_not (se_isEB (C := T.C) (y := "LookupError") (T.excs e.1 he) hz hf T.m_isinstance T.m_LookupError (T.errsB "LookupError" (by decide) e.1 he) (se_var 3)))))))))
    (ss_one (ss_ret (se_eq hr (se_repr hA hr T.m_repr (ss_cons (se_var 2) ss_nil)) se_str))))))) fun os r _ h => hm_of fuel h
theorem ok__law_alone_right (T : Txt K mg) : FnG P w K mg base 6 T.a__law_alone_right T.d__law_alone_right ["_law_pot_here"] (spP K mr__law_alone_right 0) :=
  ok_fnP T.F__law_alone_right sc__law_alone_right rfl (fun n cdv A outer s H hA hr =>
    (ss_cons' (ss_asg 1 sc__law_alone_right.nd (se_callP (idx := [0]) (ok__law_pick T) hA (hr.mono (by decide)) T.g__law_pick T.F__law_pick.kp (Fun.bd T.F__law_pick fun _ _ _ _ _ _ us hl => match us, hl with | [_, _], _ => rfl) (ss_cons (se_var 0) (ss_cons (se_lst (ss_cons se_int (ss_cons se_int (ss_cons se_int (ss_cons se_int (ss_cons (se_add se_int (se_callP (idx := [0]) (ok__law_draw T) hA (hr.mono (by decide)) T.g__law_draw T.F__law_draw.kp (Fun.bd T.F__law_draw fun _ _ _ _ _ _ us hl => match us, hl with | [_, _], _ => rfl) (ss_cons (se_var 0) (ss_cons (se_pow se_int se_int) ss_nil)))) ss_nil)))))) ss_nil))))
    (ss_cons' (ss_asg 2 sc__law_alone_right.nd (se_call0 (idx := [0, 1]) (ok__law_made T) hA (hr.mono (by decide)) T.g__law_made T.F__law_made.kp (Fun.bd T.F__law_made fun _ _ _ _ _ _ us hl => match us, hl with | [_, _], _ => rfl) (ss_cons (se_add se_int (se_callP (idx := [0]) (ok__law_draw T) hA (hr.mono (by decide)) T.g__law_draw T.F__law_draw.kp (Fun.bd T.F__law_draw fun _ _ _ _ _ _ us hl => match us, hl with | [_, _], _ => rfl) (ss_cons (se_var 0) (ss_cons (se_pow se_int se_int) ss_nil)))) (ss_cons (se_var 1) ss_nil))))
    (ss_cons' (ss_asgG (sg_tup (n := 2) rfl (sgs_cons (sg_name 5 sc__law_alone_right.nd) (sgs_cons (sg_name 6 sc__law_alone_right.nd) sgs_nil))) (se_callP (idx := [0, 1]) (ok__law_turned T) hA (hr.mono (by decide)) T.g__law_turned T.F__law_turned.kp (Fun.bd T.F__law_turned fun _ _ _ _ _ _ us hl => match us, hl with | [_, _, _], _ => rfl) (ss_cons (se_var 0) (ss_cons (se_var 2) (ss_cons (se_var 2) ss_nil)))))
    (ss_cons' (ss_if (st_ne hr (se_repr hA hr T.m_repr (ss_cons (se_call0 (idx := [0, 1]) (ok_simplest T).calm hA (hr.mono (by decide)) T.g_simplest T.F_simplest.kp (Fun.bd T.F_simplest fun _ _ _ _ _ _ us hl => match us, hl with | [_, _], _ => rfl) (ss_cons (se_var 5) (ss_cons (se_var 6) ss_nil))) ss_nil)) (se_repr hA hr T.m_repr (ss_cons (se_var 5) ss_nil))) (ss_one (ss_ret se_bl)) ss_nil')
    (ss_cons' (ss_if (st_le (se_ix (se_var 2) se_int) se_int) (ss_one (ss_ret (se_eq hr (se_repr hA hr T.m_repr (ss_cons (se_call0 (idx := [0, 1]) (ok_simplest_plain T).calm hA (hr.mono (by decide)) T.g_simplest_plain T.F_simplest_plain.kp (Fun.bd T.F_simplest_plain fun _ _ _ _ _ _ us hl => match us, hl with | [_, _], _ => rfl) (ss_cons (se_var 5) (ss_cons (se_var 6) ss_nil))) ss_nil)) (se_repr hA hr T.m_repr (ss_cons (se_var 5) ss_nil))))) ss_nil')
    (ss_cons' (ss_asg 3 sc__law_alone_right.nd (se_lst ss_nil))
    (ss_cons' (ss_tryAs 4 rfl rfl sc__law_alone_right.nd ⟨rfl, by decide, .inl T.E_TooMany.g⟩ T.errs (by decide) (by decide) (fun W pn xe tk _ => (sx_one (sx_expr (sex_call (idx := [0, 1]) tk (ok_simplest_plain T) hA (hr.mono (by decide)) T.g_simplest_plain T.F_simplest_plain.kp (Fun.bd T.F_simplest_plain fun _ _ _ _ _ _ us hl => match us, hl with | [_, _], _ => rfl) (ss_cons (se_var 5) (ss_cons (se_var 6) ss_nil)))))) (fun e a oe pn he hz hf => (ss_one (ss_asg 3 sc__law_alone_right.nd (se_lst (ss_cons (se_fld (C := T.C) (xfC (T.excs e.1 he)) (T.nf_what e.1 he) hz hf (se_var 4)) (ss_cons (se_fld (C := T.C) (xfC (T.excs e.1 he)) (T.nf_limit e.1 he) hz hf (se_var 4)) (ss_cons (se_isE (y := 2) T.errs he (by decide) (T.excs e.1 he) hz hf T.m_isinstance T.E_LimitError.g (se_var 4)) (ss_cons (se_isEB (C := T.C) (y := "ValueError") (T.excs e.1 he) hz hf T.m_isinstance T.m_ValueError (T.errsB "ValueError" (by decide) e.1 he) (se_var 4)) ss_nil)))))))))
    (ss_one (ss_ret (se_eq hr (se_repr hA hr T.m_repr (ss_cons (se_var 3) ss_nil)) (se_reprL hA hr T.m_repr (ss_cons se_str (ss_cons se_int (ss_cons se_bl (ss_cons se_bl ss_nil)))))))))))))))) fun op os r op' _ h => hp_of fuel h
theorem ok__law_between_right (T : Txt K mg) : FnG P w K mg base 7 T.a__law_between_right T.d__law_between_right ["_law_pot_here"] (spP K mr__law_between_right 0) :=
  ok_fnP T.F__law_between_right sc__law_between_right rfl (fun n cdv A outer s H hA hr =>
    (ss_cons' (ss_asgG (sg_tup (n := 3) rfl (sgs_cons (sg_name 3 sc__law_between_right.nd) (sgs_cons (sg_name 4 sc__law_between_right.nd) (sgs_cons (sg_name 5 sc__law_between_right.nd) sgs_nil)))) (se_callP (idx := []) (ok__law_bounds T) hA (hr.mono (by decide)) T.g__law_bounds T.F__law_bounds.kp (Fun.bd T.F__law_bounds fun _ _ _ _ _ _ us hl => match us, hl with | [_], _ => rfl) (ss_cons (se_var 0) ss_nil)))
    (ss_cons' (ss_asgG (sg_tup (n := 2) rfl (sgs_cons (sg_name 3 sc__law_between_right.nd) (sgs_cons (sg_name 4 sc__law_between_right.nd) sgs_nil))) (se_callP (idx := [0, 1]) (ok__law_turned T) hA (hr.mono (by decide)) T.g__law_turned T.F__law_turned.kp (Fun.bd T.F__law_turned fun _ _ _ _ _ _ us hl => match us, hl with | [_, _, _], _ => rfl) (ss_cons (se_var 0) (ss_cons (se_var 3) (ss_cons (se_var 4) ss_nil)))))
    (ss_cons' (ss_asg 1 sc__law_between_right.nd (se_call0 (idx := [0, 1, 2]) (ok__law_simplest T) hA (hr.mono (by decide)) T.g__law_simplest T.F__law_simplest.kp (Fun.bd T.F__law_simplest fun _ _ _ _ _ _ us hl => match us, hl with | [_, _, _], _ => rfl) (ss_cons (se_var 3) (ss_cons (se_var 4) (ss_cons (se_var 5) ss_nil)))))
    (ss_cons' (ss_asg 2 sc__law_between_right.nd (se_lst (ss_cons (se_call0 (idx := [0, 1]) (ok_simplest T).calm hA (hr.mono (by decide)) T.g_simplest T.F_simplest.kp (Fun.bd T.F_simplest fun _ _ _ _ _ _ us hl => match us, hl with | [_, _], _ => rfl) (ss_cons (se_var 3) (ss_cons (se_var 4) ss_nil))) (ss_cons (se_call0 (idx := [0, 1]) (ok_simplest_plain T).calm hA (hr.mono (by decide)) T.g_simplest_plain T.F_simplest_plain.kp (Fun.bd T.F_simplest_plain fun _ _ _ _ _ _ us hl => match us, hl with | [_, _], _ => rfl) (ss_cons (se_var 3) (ss_cons (se_var 4) ss_nil))) ss_nil))))
    (ss_cons' (ss_if (st_ne hr (se_repr hA hr T.m_repr (ss_cons (se_var 2) ss_nil)) (se_reprL hA hr T.m_repr (ss_cons (se_var 1) (ss_cons (se_var 1) ss_nil)))) (ss_one (ss_ret se_bl)) ss_nil')
    (ss_cons' (ss_if (STw.t (st_and (st_ne hr (se_var 3) (se_var 4)) (st_and1 (st_not (st_tru (se_call0 (idx := [0, 1]) (ok__law_crossed_right T) hA (hr.mono (by decide)) T.g__law_crossed_right T.F__law_crossed_right.kp (Fun.bd T.F__law_crossed_right fun _ _ _ _ _ _ us hl => match us, hl with | [_, _], _ => rfl) (ss_cons (se_var 3) (ss_cons (se_var 4) ss_nil)))))))) (ss_one (ss_ret se_bl)) ss_nil')
    (ss_cons' (ss_asg 2 sc__law_between_right.nd (se_lst (ss_cons (se_callk0 (ks := ["high", "low"]) (idx := [1, 0]) (ok_simplest T).calm hA (hr.mono (by decide)) T.g_simplest T.F_simplest.kp (Fun.bd T.F_simplest fun _ _ _ _ _ _ us hl => match us, hl with | [_, _], _ => rfl) (sk_cons (se_var 4) (sk_cons (se_var 3) sk_nil))) (ss_cons (se_callk0 (ks := ["high", "low"]) (idx := [1, 0]) (ok_simplest_plain T).calm hA (hr.mono (by decide)) T.g_simplest_plain T.F_simplest_plain.kp (Fun.bd T.F_simplest_plain fun _ _ _ _ _ _ us hl => match us, hl with | [_, _], _ => rfl) (sk_cons (se_var 4) (sk_cons (se_var 3) sk_nil))) ss_nil))))
    (ss_one (ss_ret (se_eq hr (se_repr hA hr T.m_repr (ss_cons (se_var 2) ss_nil)) (se_reprL hA hr T.m_repr (ss_cons (se_var 1) (ss_cons (se_var 1) ss_nil)))))))))))))) fun op os r op' _ h => hp_of fuel h
theorem ok_law (T : Txt K mg) : FnG P w K mg base 8 T.a_law T.d_law ["_law_script"] (sp0 K mr_law 1) :=
  ok_fn0 T.F_law sc_law (fun n cdv A outer s H hA hr =>
    (ss_cons' (ss_asg 1 sc_law.nd (se_call0 (idx := [0, 1]) (ok__law_pot T) hA (hr.mono (by decide)) T.g__law_pot T.F__law_pot.kp (Fun.bd T.F__law_pot fun _ _ _ _ _ _ us hl => match us, hl with | [_, _], _ => rfl) (ss_cons (se_var 0) (ss_cons se_int ss_nil))))
    (ss_cons' (ss_if (STw.t (st_or (st_not (st_tru (se_callP (idx := []) (ok__law_parts_right T) hA (hr.mono (by decide)) T.g__law_parts_right T.F__law_parts_right.kp (Fun.bd T.F__law_parts_right fun _ _ _ _ _ _ us hl => match us, hl with | [_], _ => rfl) (ss_cons (se_var 1) ss_nil)))) (st_or1 (st_not (st_tru (se_callP (idx := []) (ok__law_between_right T) hA (hr.mono (by decide)) T.g__law_between_right T.F__law_between_right.kp (Fun.bd T.F__law_between_right fun _ _ _ _ _ _ us hl => match us, hl with | [_], _ => rfl) (ss_cons (se_var 1) ss_nil))))))) (ss_one (ss_ret se_bl)) ss_nil')
    (ss_cons' (ss_asg 2 sc_law.nd (se_call0 (idx := [0, 1]) (ok__law_pot T) hA (hr.mono (by decide)) T.g__law_pot T.F__law_pot.kp (Fun.bd T.F__law_pot fun _ _ _ _ _ _ us hl => match us, hl with | [_, _], _ => rfl) (ss_cons (se_var 0) (ss_cons se_int ss_nil))))
    (ss_cons' (ss_if (st_eq hr (se_callP (idx := [0]) (ok__law_draw T) hA (hr.mono (by decide)) T.g__law_draw T.F__law_draw.kp (Fun.bd T.F__law_draw fun _ _ _ _ _ _ us hl => match us, hl with | [_, _], _ => rfl) (ss_cons (se_var 2) (ss_cons se_int ss_nil))) se_int) (ss_one (ss_ret (se_callP (idx := []) (ok__law_alone_right T) hA (hr.mono (by decide)) T.g__law_alone_right T.F__law_alone_right.kp (Fun.bd T.F__law_alone_right fun _ _ _ _ _ _ us hl => match us, hl with | [_], _ => rfl) (ss_cons (se_var 2) ss_nil)))) ss_nil')
    (ss_one (ss_ret (se_callP (idx := []) (ok__law_between_right T) hA (hr.mono (by decide)) T.g__law_between_right T.F__law_between_right.kp (Fun.bd T.F__law_between_right fun _ _ _ _ _ _ us hl => match us, hl with | [_], _ => rfl) (ss_cons (se_var 2) ss_nil))))))))) fun os r _ h => hm_of fuel h
end
theorem all_mk {l : PySem.W.OpenLaw} {w : World} {K : PySem.W.Frag} {h : Heap} {mg : Str → Option Value} {fa f0 f1 f2 f3 f4 f5 f6 f7 f8 f9 f10 f11 f12 f13 f14 f15 f16 f17 f18 f19 f20 f21 f22 f23 f24 f25 f26 f27 f28 f29 f30 f31 f32 f33 f34 f35 f36 f37 f38 f39 f40 : Addr} (X : K.In h) (G : h.Ns mainGlobals mg) (hfa : mg "law" = some (.ref fa))
    {od0 an0 od1 an1 od2 an2 od3 an3 od4 an4 od5 an5 od6 an6 od7 an7 od8 an8 od9 an9 od10 an10 od11 an11 od12 an12 od13 an13 od14 an14 od15 an15 od16 an16 od17 an17 od18 an18 od19 an19 od20 an20 od21 an21 od22 an22 od23 an23 od24 an24 od25 an25 od26 an26 od27 an27 od28 an28 od29 an29 od30 an30 od31 an31 od32 an32 od33 an33 od34 an34 od35 an35 od36 an36 od37 an37 od38 an38 od39 an39 od40 an40 : Option Addr} {sl0 sl1 sl2 sl3 sl4 sl5 sl6 sl7 sl8 sl9 sl10 sl11 sl12 sl13 sl14 sl15 sl16 sl17 sl18 sl19 sl20 sl21 sl22 sl23 sl24 sl25 sl26 sl27 sl28 sl29 sl30 sl31 sl32 sl33 sl34 sl35 sl36 sl37 sl38 sl39 sl40 : Array (Option Value)} {oc0 kV0 dc0 pm0 cd0 ct0 oc1 kV1 dc1 pm1 cd1 ct1 oc2 kV2 dc2 pm2 cd2 ct2 oc3 kV3 dc3 pm3 cd3 ct3 oc4 kV4 dc4 pm4 cd4 ct4 oc5 kV5 dc5 pm5 cd5 ct5 oc6 kV6 dc6 pm6 cd6 ct6 oc7 kV7 dc7 pm7 cd7 ct7 oc8 kV8 dc8 pm8 cd8 ct8 oc9 kV9 dc9 pm9 cd9 ct9 oc10 kV10 dc10 pm10 cd10 ct10 oc11 kV11 dc11 pm11 cd11 ct11 oc12 kV12 dc12 pm12 cd12 ct12 oc13 kV13 dc13 pm13 cd13 ct13 oc14 kV14 dc14 pm14 cd14 ct14 oc15 kV15 dc15 pm15 cd15 ct15 oc16 kV16 dc16 pm16 cd16 ct16 oc17 kV17 dc17 pm17 cd17 ct17 oc18 kV18 dc18 pm18 cd18 ct18 oc19 kV19 dc19 pm19 cd19 ct19 oc20 kV20 dc20 pm20 cd20 ct20 oc21 kV21 dc21 pm21 cd21 ct21 oc22 kV22 dc22 pm22 cd22 ct22 oc23 kV23 dc23 pm23 cd23 ct23 oc24 kV24 dc24 pm24 cd24 ct24 oc25 kV25 dc25 pm25 cd25 ct25 oc26 kV26 dc26 pm26 cd26 ct26 oc27 kV27 dc27 pm27 cd27 ct27 oc28 kV28 dc28 pm28 cd28 ct28 oc29 kV29 dc29 pm29 cd29 ct29 oc30 kV30 dc30 pm30 cd30 ct30 oc31 kV31 dc31 pm31 cd31 ct31 oc32 kV32 dc32 pm32 cd32 ct32 oc33 kV33 dc33 pm33 cd33 ct33 oc34 kV34 dc34 pm34 cd34 ct34 oc35 kV35 dc35 pm35 cd35 ct35 oc36 kV36 dc36 pm36 cd36 ct36 oc37 kV37 dc37 pm37 cd37 ct37 oc38 kV38 dc38 pm38 cd38 ct38 oc39 kV39 dc39 pm39 cd39 ct39 oc40 kV40 dc40 pm40 cd40 ct40 : Value}
    (a0 : PySem.W.nsIn K mainGlobals "want_at_most" = some (some (.ref f0)))
    (l0 : K.lookup f0 = some ⟨oc0, od0, .func (PySem.W.fnOf "want_at_most" "want_at_most" (defArgs s_want_at_most) (defBody s_want_at_most) (defScope s_want_at_most) .none kV0 dc0 pm0 an0 cd0 ct0), sl0⟩)
    (c0 : PySem.W.codeIn K cd0 "want_at_most" = true)
    (k0 : PySem.W.keepIn K (.ref f0) = true)
    (a1 : PySem.W.nsIn K mainGlobals "fraction" = some (some (.ref f1)))
    (l1 : K.lookup f1 = some ⟨oc1, od1, .func (PySem.W.fnOf "fraction" "fraction" (defArgs s_fraction) (defBody s_fraction) (defScope s_fraction) .none kV1 dc1 pm1 an1 cd1 ct1), sl1⟩)
    (c1 : PySem.W.codeIn K cd1 "fraction" = true)
    (k1 : PySem.W.keepIn K (.ref f1) = true)
    (a2 : PySem.W.nsIn K mainGlobals "whole" = some (some (.ref f2)))
    (l2 : K.lookup f2 = some ⟨oc2, od2, .func (PySem.W.fnOf "whole" "whole" (defArgs s_whole) (defBody s_whole) (defScope s_whole) .none kV2 dc2 pm2 an2 cd2 ct2), sl2⟩)
    (c2 : PySem.W.codeIn K cd2 "whole" = true)
    (k2 : PySem.W.keepIn K (.ref f2) = true)
    (a3 : PySem.W.nsIn K mainGlobals "plus" = some (some (.ref f3)))
    (l3 : K.lookup f3 = some ⟨oc3, od3, .func (PySem.W.fnOf "plus" "plus" (defArgs s_plus) (defBody s_plus) (defScope s_plus) .none kV3 dc3 pm3 an3 cd3 ct3), sl3⟩)
    (c3 : PySem.W.codeIn K cd3 "plus" = true)
    (k3 : PySem.W.keepIn K (.ref f3) = true)
    (a4 : PySem.W.nsIn K mainGlobals "minus" = some (some (.ref f4)))
    (l4 : K.lookup f4 = some ⟨oc4, od4, .func (PySem.W.fnOf "minus" "minus" (defArgs s_minus) (defBody s_minus) (defScope s_minus) .none kV4 dc4 pm4 an4 cd4 ct4), sl4⟩)
    (c4 : PySem.W.codeIn K cd4 "minus" = true)
    (k4 : PySem.W.keepIn K (.ref f4) = true)
    (a5 : PySem.W.nsIn K mainGlobals "opposite" = some (some (.ref f5)))
    (l5 : K.lookup f5 = some ⟨oc5, od5, .func (PySem.W.fnOf "opposite" "opposite" (defArgs s_opposite) (defBody s_opposite) (defScope s_opposite) .none kV5 dc5 pm5 an5 cd5 ct5), sl5⟩)
    (c5 : PySem.W.codeIn K cd5 "opposite" = true)
    (k5 : PySem.W.keepIn K (.ref f5) = true)
    (a6 : PySem.W.nsIn K mainGlobals "over" = some (some (.ref f6)))
    (l6 : K.lookup f6 = some ⟨oc6, od6, .func (PySem.W.fnOf "over" "over" (defArgs s_over) (defBody s_over) (defScope s_over) .none kV6 dc6 pm6 an6 cd6 ct6), sl6⟩)
    (c6 : PySem.W.codeIn K cd6 "over" = true)
    (k6 : PySem.W.keepIn K (.ref f6) = true)
    (a7 : PySem.W.nsIn K mainGlobals "sign_of" = some (some (.ref f7)))
    (l7 : K.lookup f7 = some ⟨oc7, od7, .func (PySem.W.fnOf "sign_of" "sign_of" (defArgs s_sign_of) (defBody s_sign_of) (defScope s_sign_of) .none kV7 dc7 pm7 an7 cd7 ct7), sl7⟩)
    (c7 : PySem.W.codeIn K cd7 "sign_of" = true)
    (k7 : PySem.W.keepIn K (.ref f7) = true)
    (a8 : PySem.W.nsIn K mainGlobals "compare" = some (some (.ref f8)))
    (l8 : K.lookup f8 = some ⟨oc8, od8, .func (PySem.W.fnOf "compare" "compare" (defArgs s_compare) (defBody s_compare) (defScope s_compare) .none kV8 dc8 pm8 an8 cd8 ct8), sl8⟩)
    (c8 : PySem.W.codeIn K cd8 "compare" = true)
    (k8 : PySem.W.keepIn K (.ref f8) = true)
    (a9 : PySem.W.nsIn K mainGlobals "floor_of" = some (some (.ref f9)))
    (l9 : K.lookup f9 = some ⟨oc9, od9, .func (PySem.W.fnOf "floor_of" "floor_of" (defArgs s_floor_of) (defBody s_floor_of) (defScope s_floor_of) .none kV9 dc9 pm9 an9 cd9 ct9), sl9⟩)
    (c9 : PySem.W.codeIn K cd9 "floor_of" = true)
    (k9 : PySem.W.keepIn K (.ref f9) = true)
    (a10 : PySem.W.nsIn K mainGlobals "ceiling_of" = some (some (.ref f10)))
    (l10 : K.lookup f10 = some ⟨oc10, od10, .func (PySem.W.fnOf "ceiling_of" "ceiling_of" (defArgs s_ceiling_of) (defBody s_ceiling_of) (defScope s_ceiling_of) .none kV10 dc10 pm10 an10 cd10 ct10), sl10⟩)
    (c10 : PySem.W.codeIn K cd10 "ceiling_of" = true)
    (k10 : PySem.W.keepIn K (.ref f10) = true)
    (a11 : PySem.W.nsIn K mainGlobals "parts_of" = some (some (.ref f11)))
    (l11 : K.lookup f11 = some ⟨oc11, od11, .func (PySem.W.fnOf "parts_of" "parts_of" (defArgs s_parts_of) (defBody s_parts_of) (defScope s_parts_of) .none kV11 dc11 pm11 an11 cd11 ct11), sl11⟩)
    (c11 : PySem.W.codeIn K cd11 "parts_of" = true)
    (k11 : PySem.W.keepIn K (.ref f11) = true)
    (a12 : PySem.W.nsIn K mainGlobals "of_parts" = some (some (.ref f12)))
    (l12 : K.lookup f12 = some ⟨oc12, od12, .func (PySem.W.fnOf "of_parts" "of_parts" (defArgs s_of_parts) (defBody s_of_parts) (defScope s_of_parts) .none kV12 dc12 pm12 an12 cd12 ct12), sl12⟩)
    (c12 : PySem.W.codeIn K cd12 "of_parts" = true)
    (k12 : PySem.W.keepIn K (.ref f12) = true)
    (a13 : PySem.W.nsIn K mainGlobals "compare_by_parts" = some (some (.ref f13)))
    (l13 : K.lookup f13 = some ⟨oc13, od13, .func (PySem.W.fnOf "compare_by_parts" "compare_by_parts" (defArgs s_compare_by_parts) (defBody s_compare_by_parts) (defScope s_compare_by_parts) .none kV13 dc13 pm13 an13 cd13 ct13), sl13⟩)
    (c13 : PySem.W.codeIn K cd13 "compare_by_parts" = true)
    (k13 : PySem.W.keepIn K (.ref f13) = true)
    (a14 : PySem.W.nsIn K mainGlobals "want_in_order" = some (some (.ref f14)))
    (l14 : K.lookup f14 = some ⟨oc14, od14, .func (PySem.W.fnOf "want_in_order" "want_in_order" (defArgs s_want_in_order) (defBody s_want_in_order) (defScope s_want_in_order) .none kV14 dc14 pm14 an14 cd14 ct14), sl14⟩)
    (c14 : PySem.W.codeIn K cd14 "want_in_order" = true)
    (k14 : PySem.W.keepIn K (.ref f14) = true)
    (a15 : PySem.W.nsIn K mainGlobals "nearest_to_nought" = some (some (.ref f15)))
    (l15 : K.lookup f15 = some ⟨oc15, od15, .func (PySem.W.fnOf "nearest_to_nought" "nearest_to_nought" (defArgs s_nearest_to_nought) (defBody s_nearest_to_nought) (defScope s_nearest_to_nought) .none kV15 dc15 pm15 an15 cd15 ct15), sl15⟩)
    (c15 : PySem.W.codeIn K cd15 "nearest_to_nought" = true)
    (k15 : PySem.W.keepIn K (.ref f15) = true)
    (a16 : PySem.W.nsIn K mainGlobals "simplest_plain" = some (some (.ref f16)))
    (l16 : K.lookup f16 = some ⟨oc16, od16, .func (PySem.W.fnOf "simplest_plain" "simplest_plain" (defArgs s_simplest_plain) (defBody s_simplest_plain) (defScope s_simplest_plain) .none kV16 dc16 pm16 an16 cd16 ct16), sl16⟩)
    (c16 : PySem.W.codeIn K cd16 "simplest_plain" = true)
    (k16 : PySem.W.keepIn K (.ref f16) = true)
    (a17 : PySem.W.nsIn K mainGlobals "simplest_above" = some (some (.ref f17)))
    (l17 : K.lookup f17 = some ⟨oc17, od17, .func (PySem.W.fnOf "simplest_above" "simplest_above" (defArgs s_simplest_above) (defBody s_simplest_above) (defScope s_simplest_above) .none kV17 dc17 pm17 an17 cd17 ct17), sl17⟩)
    (c17 : PySem.W.codeIn K cd17 "simplest_above" = true)
    (k17 : PySem.W.keepIn K (.ref f17) = true)
    (a18 : PySem.W.nsIn K mainGlobals "simplest" = some (some (.ref f18)))
    (l18 : K.lookup f18 = some ⟨oc18, od18, .func (PySem.W.fnOf "simplest" "simplest" (defArgs s_simplest) (defBody s_simplest) (defScope s_simplest) .none kV18 dc18 pm18 an18 cd18 ct18), sl18⟩)
    (c18 : PySem.W.codeIn K cd18 "simplest" = true)
    (k18 : PySem.W.keepIn K (.ref f18) = true)
    (a19 : PySem.W.nsIn K mainGlobals "_law_pot" = some (some (.ref f19)))
    (l19 : K.lookup f19 = some ⟨oc19, od19, .func (PySem.W.fnOf "_law_pot" "_law_pot" (defArgs s__law_pot) (defBody s__law_pot) (defScope s__law_pot) .none kV19 dc19 pm19 an19 cd19 ct19), sl19⟩)
    (c19 : PySem.W.codeIn K cd19 "_law_pot" = true)
    (k19 : PySem.W.keepIn K (.ref f19) = true)
    (a20 : PySem.W.nsIn K mainGlobals "_law_draw" = some (some (.ref f20)))
    (l20 : K.lookup f20 = some ⟨oc20, od20, .func (PySem.W.fnOf "_law_draw" "_law_draw" (defArgs s__law_draw) (defBody s__law_draw) (defScope s__law_draw) .none kV20 dc20 pm20 an20 cd20 ct20), sl20⟩)
    (c20 : PySem.W.codeIn K cd20 "_law_draw" = true)
    (k20 : PySem.W.keepIn K (.ref f20) = true)
    (a21 : PySem.W.nsIn K mainGlobals "_law_pick" = some (some (.ref f21)))
    (l21 : K.lookup f21 = some ⟨oc21, od21, .func (PySem.W.fnOf "_law_pick" "_law_pick" (defArgs s__law_pick) (defBody s__law_pick) (defScope s__law_pick) .none kV21 dc21 pm21 an21 cd21 ct21), sl21⟩)
    (c21 : PySem.W.codeIn K cd21 "_law_pick" = true)
    (k21 : PySem.W.keepIn K (.ref f21) = true)
    (a22 : PySem.W.nsIn K mainGlobals "_law_gcd" = some (some (.ref f22)))
    (l22 : K.lookup f22 = some ⟨oc22, od22, .func (PySem.W.fnOf "_law_gcd" "_law_gcd" (defArgs s__law_gcd) (defBody s__law_gcd) (defScope s__law_gcd) .none kV22 dc22 pm22 an22 cd22 ct22), sl22⟩)
    (c22 : PySem.W.codeIn K cd22 "_law_gcd" = true)
    (k22 : PySem.W.keepIn K (.ref f22) = true)
    (a23 : PySem.W.nsIn K mainGlobals "_law_made" = some (some (.ref f23)))
    (l23 : K.lookup f23 = some ⟨oc23, od23, .func (PySem.W.fnOf "_law_made" "_law_made" (defArgs s__law_made) (defBody s__law_made) (defScope s__law_made) .none kV23 dc23 pm23 an23 cd23 ct23), sl23⟩)
    (c23 : PySem.W.codeIn K cd23 "_law_made" = true)
    (k23 : PySem.W.keepIn K (.ref f23) = true)
    (a24 : PySem.W.nsIn K mainGlobals "_law_parts" = some (some (.ref f24)))
    (l24 : K.lookup f24 = some ⟨oc24, od24, .func (PySem.W.fnOf "_law_parts" "_law_parts" (defArgs s__law_parts) (defBody s__law_parts) (defScope s__law_parts) .none kV24 dc24 pm24 an24 cd24 ct24), sl24⟩)
    (c24 : PySem.W.codeIn K cd24 "_law_parts" = true)
    (k24 : PySem.W.keepIn K (.ref f24) = true)
    (a25 : PySem.W.nsIn K mainGlobals "_law_stands" = some (some (.ref f25)))
    (l25 : K.lookup f25 = some ⟨oc25, od25, .func (PySem.W.fnOf "_law_stands" "_law_stands" (defArgs s__law_stands) (defBody s__law_stands) (defScope s__law_stands) .none kV25 dc25 pm25 an25 cd25 ct25), sl25⟩)
    (c25 : PySem.W.codeIn K cd25 "_law_stands" = true)
    (k25 : PySem.W.keepIn K (.ref f25) = true)
    (a26 : PySem.W.nsIn K mainGlobals "_law_row" = some (some (.ref f26)))
    (l26 : K.lookup f26 = some ⟨oc26, od26, .func (PySem.W.fnOf "_law_row" "_law_row" (defArgs s__law_row) (defBody s__law_row) (defScope s__law_row) .none kV26 dc26 pm26 an26 cd26 ct26), sl26⟩)
    (c26 : PySem.W.codeIn K cd26 "_law_row" = true)
    (k26 : PySem.W.keepIn K (.ref f26) = true)
    (a27 : PySem.W.nsIn K mainGlobals "_law_near" = some (some (.ref f27)))
    (l27 : K.lookup f27 = some ⟨oc27, od27, .func (PySem.W.fnOf "_law_near" "_law_near" (defArgs s__law_near) (defBody s__law_near) (defScope s__law_near) .none kV27 dc27 pm27 an27 cd27 ct27), sl27⟩)
    (c27 : PySem.W.codeIn K cd27 "_law_near" = true)
    (k27 : PySem.W.keepIn K (.ref f27) = true)
    (a28 : PySem.W.nsIn K mainGlobals "_law_less" = some (some (.ref f28)))
    (l28 : K.lookup f28 = some ⟨oc28, od28, .func (PySem.W.fnOf "_law_less" "_law_less" (defArgs s__law_less) (defBody s__law_less) (defScope s__law_less) .none kV28 dc28 pm28 an28 cd28 ct28), sl28⟩)
    (c28 : PySem.W.codeIn K cd28 "_law_less" = true)
    (k28 : PySem.W.keepIn K (.ref f28) = true)
    (a29 : PySem.W.nsIn K mainGlobals "_law_no_parts" = some (some (.ref f29)))
    (l29 : K.lookup f29 = some ⟨oc29, od29, .func (PySem.W.fnOf "_law_no_parts" "_law_no_parts" (defArgs s__law_no_parts) (defBody s__law_no_parts) (defScope s__law_no_parts) .none kV29 dc29 pm29 an29 cd29 ct29), sl29⟩)
    (c29 : PySem.W.codeIn K cd29 "_law_no_parts" = true)
    (k29 : PySem.W.keepIn K (.ref f29) = true)
    (a30 : PySem.W.nsIn K mainGlobals "_law_parts_right" = some (some (.ref f30)))
    (l30 : K.lookup f30 = some ⟨oc30, od30, .func (PySem.W.fnOf "_law_parts_right" "_law_parts_right" (defArgs s__law_parts_right) (defBody s__law_parts_right) (defScope s__law_parts_right) .none kV30 dc30 pm30 an30 cd30 ct30), sl30⟩)
    (c30 : PySem.W.codeIn K cd30 "_law_parts_right" = true)
    (k30 : PySem.W.keepIn K (.ref f30) = true)
    (a31 : PySem.W.nsIn K mainGlobals "_law_nearest" = some (some (.ref f31)))
    (l31 : K.lookup f31 = some ⟨oc31, od31, .func (PySem.W.fnOf "_law_nearest" "_law_nearest" (defArgs s__law_nearest) (defBody s__law_nearest) (defScope s__law_nearest) .none kV31 dc31 pm31 an31 cd31 ct31), sl31⟩)
    (c31 : PySem.W.codeIn K cd31 "_law_nearest" = true)
    (k31 : PySem.W.keepIn K (.ref f31) = true)
    (a32 : PySem.W.nsIn K mainGlobals "_law_simplest" = some (some (.ref f32)))
    (l32 : K.lookup f32 = some ⟨oc32, od32, .func (PySem.W.fnOf "_law_simplest" "_law_simplest" (defArgs s__law_simplest) (defBody s__law_simplest) (defScope s__law_simplest) .none kV32 dc32 pm32 an32 cd32 ct32), sl32⟩)
    (c32 : PySem.W.codeIn K cd32 "_law_simplest" = true)
    (k32 : PySem.W.keepIn K (.ref f32) = true)
    (a33 : PySem.W.nsIn K mainGlobals "_law_low" = some (some (.ref f33)))
    (l33 : K.lookup f33 = some ⟨oc33, od33, .func (PySem.W.fnOf "_law_low" "_law_low" (defArgs s__law_low) (defBody s__law_low) (defScope s__law_low) .none kV33 dc33 pm33 an33 cd33 ct33), sl33⟩)
    (c33 : PySem.W.codeIn K cd33 "_law_low" = true)
    (k33 : PySem.W.keepIn K (.ref f33) = true)
    (a34 : PySem.W.nsIn K mainGlobals "_law_sum" = some (some (.ref f34)))
    (l34 : K.lookup f34 = some ⟨oc34, od34, .func (PySem.W.fnOf "_law_sum" "_law_sum" (defArgs s__law_sum) (defBody s__law_sum) (defScope s__law_sum) .none kV34 dc34 pm34 an34 cd34 ct34), sl34⟩)
    (c34 : PySem.W.codeIn K cd34 "_law_sum" = true)
    (k34 : PySem.W.keepIn K (.ref f34) = true)
    (a35 : PySem.W.nsIn K mainGlobals "_law_turned" = some (some (.ref f35)))
    (l35 : K.lookup f35 = some ⟨oc35, od35, .func (PySem.W.fnOf "_law_turned" "_law_turned" (defArgs s__law_turned) (defBody s__law_turned) (defScope s__law_turned) .none kV35 dc35 pm35 an35 cd35 ct35), sl35⟩)
    (c35 : PySem.W.codeIn K cd35 "_law_turned" = true)
    (k35 : PySem.W.keepIn K (.ref f35) = true)
    (a36 : PySem.W.nsIn K mainGlobals "_law_bounds" = some (some (.ref f36)))
    (l36 : K.lookup f36 = some ⟨oc36, od36, .func (PySem.W.fnOf "_law_bounds" "_law_bounds" (defArgs s__law_bounds) (defBody s__law_bounds) (defScope s__law_bounds) .none kV36 dc36 pm36 an36 cd36 ct36), sl36⟩)
    (c36 : PySem.W.codeIn K cd36 "_law_bounds" = true)
    (k36 : PySem.W.keepIn K (.ref f36) = true)
    (a37 : PySem.W.nsIn K mainGlobals "_law_crossed_right" = some (some (.ref f37)))
    (l37 : K.lookup f37 = some ⟨oc37, od37, .func (PySem.W.fnOf "_law_crossed_right" "_law_crossed_right" (defArgs s__law_crossed_right) (defBody s__law_crossed_right) (defScope s__law_crossed_right) .none kV37 dc37 pm37 an37 cd37 ct37), sl37⟩)
    (c37 : PySem.W.codeIn K cd37 "_law_crossed_right" = true)
    (k37 : PySem.W.keepIn K (.ref f37) = true)
    (a38 : PySem.W.nsIn K mainGlobals "_law_between_right" = some (some (.ref f38)))
    (l38 : K.lookup f38 = some ⟨oc38, od38, .func (PySem.W.fnOf "_law_between_right" "_law_between_right" (defArgs s__law_between_right) (defBody s__law_between_right) (defScope s__law_between_right) .none kV38 dc38 pm38 an38 cd38 ct38), sl38⟩)
    (c38 : PySem.W.codeIn K cd38 "_law_between_right" = true)
    (k38 : PySem.W.keepIn K (.ref f38) = true)
    (a39 : PySem.W.nsIn K mainGlobals "_law_alone_right" = some (some (.ref f39)))
    (l39 : K.lookup f39 = some ⟨oc39, od39, .func (PySem.W.fnOf "_law_alone_right" "_law_alone_right" (defArgs s__law_alone_right) (defBody s__law_alone_right) (defScope s__law_alone_right) .none kV39 dc39 pm39 an39 cd39 ct39), sl39⟩)
    (c39 : PySem.W.codeIn K cd39 "_law_alone_right" = true)
    (k39 : PySem.W.keepIn K (.ref f39) = true)
    (a40 : PySem.W.nsIn K mainGlobals "law" = some (some (.ref f40)))
    (l40 : K.lookup f40 = some ⟨oc40, od40, .func (PySem.W.fnOf "law" "law" (defArgs s_law) (defBody s_law) (defScope s_law) .none kV40 dc40 pm40 an40 cd40 ct40), sl40⟩)
    (c40 : PySem.W.codeIn K cd40 "law" = true)
    (k40 : PySem.W.keepIn K (.ref f40) = true)
    {t0 : Tok}
    (n0 : PySem.W.nsIn K mainGlobals "MOST_BELOW" = some (some (.int 2000 t0)))
    (z0 : PySem.W.nsIn K mainGlobals "LookupError" = some none)
    (z1 : PySem.W.nsIn K mainGlobals "ValueError" = some none)
    (z2 : PySem.W.nsIn K mainGlobals "abs" = some none)
    (z3 : PySem.W.nsIn K mainGlobals "divmod" = some none)
    (z4 : PySem.W.nsIn K mainGlobals "int" = some none)
    (z5 : PySem.W.nsIn K mainGlobals "isinstance" = some none)
    (z6 : PySem.W.nsIn K mainGlobals "len" = some none)
    (z7 : PySem.W.nsIn K mainGlobals "list" = some none)
    (z8 : PySem.W.nsIn K mainGlobals "max" = some none)
    (z9 : PySem.W.nsIn K mainGlobals "range" = some none)
    (z10 : PySem.W.nsIn K mainGlobals "repr" = some none)
    (z11 : PySem.W.nsIn K mainGlobals "reversed" = some none)
    {tp0 : Addr} {tod0 : Option Addr} {tsl0 : Array (Option Value)} {tk0_0 tk0_1 : Tok} {tn0 : Nat}
    (u0 : PySem.W.nsIn K mainGlobals "NOUGHT" = some (some (.ref tp0)))
    (v0 : K.lookup tp0 = some ⟨.type "tuple", tod0, .seq #[.int 0 tk0_0, .int 1 tk0_1] tn0, tsl0⟩)
    {tp1 : Addr} {tod1 : Option Addr} {tsl1 : Array (Option Value)} {tk1_0 tk1_1 : Tok} {tn1 : Nat}
    (u1 : PySem.W.nsIn K mainGlobals "ONE" = some (some (.ref tp1)))
    (v1 : K.lookup tp1 = some ⟨.type "tuple", tod1, .seq #[.int 1 tk1_0, .int 1 tk1_1] tn1, tsl1⟩)
    (y0 : PySem.W.nsIn K mainGlobals "gcd" = some (some (.builtin "math.gcd")))
    {e0 e1 e2 e3 e4 e5 e6 : Addr}
    (ea0 : PySem.W.nsIn K mainGlobals "TermError" = some (some (.ref e0)))
    (ex0 : PySem.W.excIn K e0 [.type "ValueError", .type "Exception", .type "BaseException", .type "object"] "ValueError.__new__" = true)
    (nf0_limit : PySem.W.findIn K (.ref e0) "limit" = some none)
    (nf0_what : PySem.W.findIn K (.ref e0) "what" = some none)
    (ek0 : PySem.W.keepIn K (.ref e0) = true)
    (eb0 : PySem.W.subIn K (.ref e0) (.type "BaseException") = some true)
    (et0 : PySem.W.typeIn K (.ref e0) = some (.type "type"))
    (ei0 : PySem.W.isClsIn K e0 = true)
    (eg0 : PySem.W.findIn K (.ref e0) "__getattribute__" = some (some (.builtin "BaseException.__getattribute__")))
    (eh0 : PySem.W.findIn K (.ref e0) "__getattr__" = some none)
    (ed0 : PySem.W.hasDictIn K e0 = true)
    (ec0 : PySem.W.findIn K (.ref e0) "__class__" = some (some (.builtin "object.__class__")))
    (em0 : PySem.W.mroIn K e0 (.type "object") = some true)
    (ea1 : PySem.W.nsIn K mainGlobals "MissingError" = some (some (.ref e1)))
    (ex1 : PySem.W.excIn K e1 [.type "LookupError", .type "Exception", .type "BaseException", .type "object"] "LookupError.__new__" = true)
    (nf1_limit : PySem.W.findIn K (.ref e1) "limit" = some none)
    (nf1_what : PySem.W.findIn K (.ref e1) "what" = some none)
    (ek1 : PySem.W.keepIn K (.ref e1) = true)
    (eb1 : PySem.W.subIn K (.ref e1) (.type "BaseException") = some true)
    (et1 : PySem.W.typeIn K (.ref e1) = some (.type "type"))
    (ei1 : PySem.W.isClsIn K e1 = true)
    (eg1 : PySem.W.findIn K (.ref e1) "__getattribute__" = some (some (.builtin "BaseException.__getattribute__")))
    (eh1 : PySem.W.findIn K (.ref e1) "__getattr__" = some none)
    (ed1 : PySem.W.hasDictIn K e1 = true)
    (ec1 : PySem.W.findIn K (.ref e1) "__class__" = some (some (.builtin "object.__class__")))
    (em1 : PySem.W.mroIn K e1 (.type "object") = some true)
    (ea2 : PySem.W.nsIn K mainGlobals "LimitError" = some (some (.ref e2)))
    (ex2 : PySem.W.excIn K e2 [.type "ArithmeticError", .type "Exception", .type "BaseException", .type "object"] "ArithmeticError.__new__" = true)
    (nf2_limit : PySem.W.findIn K (.ref e2) "limit" = some none)
    (nf2_what : PySem.W.findIn K (.ref e2) "what" = some none)
    (ek2 : PySem.W.keepIn K (.ref e2) = true)
    (eb2 : PySem.W.subIn K (.ref e2) (.type "BaseException") = some true)
    (et2 : PySem.W.typeIn K (.ref e2) = some (.type "type"))
    (ei2 : PySem.W.isClsIn K e2 = true)
    (eg2 : PySem.W.findIn K (.ref e2) "__getattribute__" = some (some (.builtin "BaseException.__getattribute__")))
    (eh2 : PySem.W.findIn K (.ref e2) "__getattr__" = some none)
    (ed2 : PySem.W.hasDictIn K e2 = true)
    (ec2 : PySem.W.findIn K (.ref e2) "__class__" = some (some (.builtin "object.__class__")))
    (em2 : PySem.W.mroIn K e2 (.type "object") = some true)
    (ea3 : PySem.W.nsIn K mainGlobals "CrossedBounds" = some (some (.ref e3)))
    (ex3 : PySem.W.excIn K e3 [.type "ValueError", .type "Exception", .type "BaseException", .type "object"] "ValueError.__new__" = true)
    (nf3_limit : PySem.W.findIn K (.ref e3) "limit" = some none)
    (nf3_what : PySem.W.findIn K (.ref e3) "what" = some none)
    (ek3 : PySem.W.keepIn K (.ref e3) = true)
    (eb3 : PySem.W.subIn K (.ref e3) (.type "BaseException") = some true)
    (et3 : PySem.W.typeIn K (.ref e3) = some (.type "type"))
    (ei3 : PySem.W.isClsIn K e3 = true)
    (eg3 : PySem.W.findIn K (.ref e3) "__getattribute__" = some (some (.builtin "BaseException.__getattribute__")))
    (eh3 : PySem.W.findIn K (.ref e3) "__getattr__" = some none)
    (ed3 : PySem.W.hasDictIn K e3 = true)
    (ec3 : PySem.W.findIn K (.ref e3) "__class__" = some (some (.builtin "object.__class__")))
    (em3 : PySem.W.mroIn K e3 (.type "object") = some true)
    (ea4 : PySem.W.nsIn K mainGlobals "DividedByNought" = some (some (.ref e4)))
    (ex4 : PySem.W.excIn K e4 [.type "ValueError", .type "Exception", .type "BaseException", .type "object"] "ValueError.__new__" = true)
    (nf4_limit : PySem.W.findIn K (.ref e4) "limit" = some none)
    (nf4_what : PySem.W.findIn K (.ref e4) "what" = some none)
    (ek4 : PySem.W.keepIn K (.ref e4) = true)
    (eb4 : PySem.W.subIn K (.ref e4) (.type "BaseException") = some true)
    (et4 : PySem.W.typeIn K (.ref e4) = some (.type "type"))
    (ei4 : PySem.W.isClsIn K e4 = true)
    (eg4 : PySem.W.findIn K (.ref e4) "__getattribute__" = some (some (.builtin "BaseException.__getattribute__")))
    (eh4 : PySem.W.findIn K (.ref e4) "__getattr__" = some none)
    (ed4 : PySem.W.hasDictIn K e4 = true)
    (ec4 : PySem.W.findIn K (.ref e4) "__class__" = some (some (.builtin "object.__class__")))
    (em4 : PySem.W.mroIn K e4 (.type "object") = some true)
    (ea5 : PySem.W.nsIn K mainGlobals "NothingGiven" = some (some (.ref e5)))
    (ex5 : PySem.W.excIn K e5 [.type "LookupError", .type "Exception", .type "BaseException", .type "object"] "LookupError.__new__" = true)
    (nf5_limit : PySem.W.findIn K (.ref e5) "limit" = some none)
    (nf5_what : PySem.W.findIn K (.ref e5) "what" = some none)
    (ek5 : PySem.W.keepIn K (.ref e5) = true)
    (eb5 : PySem.W.subIn K (.ref e5) (.type "BaseException") = some true)
    (et5 : PySem.W.typeIn K (.ref e5) = some (.type "type"))
    (ei5 : PySem.W.isClsIn K e5 = true)
    (eg5 : PySem.W.findIn K (.ref e5) "__getattribute__" = some (some (.builtin "BaseException.__getattribute__")))
    (eh5 : PySem.W.findIn K (.ref e5) "__getattr__" = some none)
    (ed5 : PySem.W.hasDictIn K e5 = true)
    (ec5 : PySem.W.findIn K (.ref e5) "__class__" = some (some (.builtin "object.__class__")))
    (em5 : PySem.W.mroIn K e5 (.type "object") = some true)
    (ea6 : PySem.W.nsIn K mainGlobals "TooMany" = some (some (.ref e6)))
    {nm6 qn6 : Str} {N6 : Addr} {bs6 : List Value} {sn6 : List Str} {su6 : List Value} {ab6 : Bool} {co6 : Option Bool} {dd6 : Option Addr} {m06 m16 m26 m36 m56 : Option Value} {g6 : Addr} {god6 gan6 : Option Addr} {gsl6 : Array (Option Value)} {goc6 gkV6 gdc6 gpm6 gcd6 gct6 : Value}
    (xl6 : K.lookup e6 = some (excClassObj nm6 qn6 e6 N6 bs6 [.ref e2, .type "ArithmeticError", .type "Exception", .type "BaseException", .type "object"] true sn6 su6 ab6 co6 dd6 m06 m16 m26 m36 m56 "ArithmeticError.__new__"))
    (xs6 : PySem.W.findIn K (.ref e6) "__setattr__" = some (some (.builtin "object.__setattr__")))
    (xi6 : PySem.W.findIn K (.ref e6) "__init__" = some (some (.ref g6)))
    (xt6 : PySem.W.typeIn K (.ref g6) = some (.type "function"))
    (xf6 : K.lookup g6 = some ⟨goc6, god6, .func (PySem.W.fnOf "__init__" "TooMany.__init__" (defArgs (inClass (topS 8) 0)) (defBody (inClass (topS 8) 0)) (defScope (inClass (topS 8) 0)) .none gkV6 gdc6 gpm6 gan6 gcd6 gct6), gsl6⟩)
    (xc6 : PySem.W.codeIn K gcd6 "TooMany.__init__" = true)
    (xk6 : PySem.W.keepIn K (.ref g6) = true)
    (nf6_limit : PySem.W.findIn K (.ref e6) "limit" = some none)
    (nf6_what : PySem.W.findIn K (.ref e6) "what" = some none)
    (ek6 : PySem.W.keepIn K (.ref e6) = true)
    (eb6 : PySem.W.subIn K (.ref e6) (.type "BaseException") = some true)
    (et6 : PySem.W.typeIn K (.ref e6) = some (.type "type"))
    (ei6 : PySem.W.isClsIn K e6 = true)
    (eg6 : PySem.W.findIn K (.ref e6) "__getattribute__" = some (some (.builtin "BaseException.__getattribute__")))
    (eh6 : PySem.W.findIn K (.ref e6) "__getattr__" = some none)
    (ed6 : PySem.W.hasDictIn K e6 = true)
    (ec6 : PySem.W.findIn K (.ref e6) "__class__" = some (some (.builtin "object.__class__")))
    (em6 : PySem.W.mroIn K e6 (.type "object") = some true)
    (en : PySem.W.specialIn K (.builtin "object.__class__") "__get__" = some (some (.builtin "getset_descriptor.__get__")))
    (ey : PySem.W.takesIn K (.builtin "object.__class__") = some true)
    (s0_0 : PySem.W.subIn K (.ref e0) (.ref e0) = some true)
    (s0_1 : PySem.W.subIn K (.ref e0) (.ref e1) = some false)
    (s0_2 : PySem.W.subIn K (.ref e0) (.ref e2) = some false)
    (s0_3 : PySem.W.subIn K (.ref e0) (.ref e3) = some false)
    (s0_4 : PySem.W.subIn K (.ref e0) (.ref e4) = some false)
    (s0_5 : PySem.W.subIn K (.ref e0) (.ref e5) = some false)
    (s0_6 : PySem.W.subIn K (.ref e0) (.ref e6) = some false)
    (sb0_0 : PySem.W.subIn K (.ref e0) (.type "LookupError") = some false)
    (sb0_1 : PySem.W.subIn K (.ref e0) (.type "ValueError") = some true)
    (s1_0 : PySem.W.subIn K (.ref e1) (.ref e0) = some false)
    (s1_1 : PySem.W.subIn K (.ref e1) (.ref e1) = some true)
    (s1_2 : PySem.W.subIn K (.ref e1) (.ref e2) = some false)
    (s1_3 : PySem.W.subIn K (.ref e1) (.ref e3) = some false)
    (s1_4 : PySem.W.subIn K (.ref e1) (.ref e4) = some false)
    (s1_5 : PySem.W.subIn K (.ref e1) (.ref e5) = some false)
    (s1_6 : PySem.W.subIn K (.ref e1) (.ref e6) = some false)
    (sb1_0 : PySem.W.subIn K (.ref e1) (.type "LookupError") = some true)
    (sb1_1 : PySem.W.subIn K (.ref e1) (.type "ValueError") = some false)
    (s2_0 : PySem.W.subIn K (.ref e2) (.ref e0) = some false)
    (s2_1 : PySem.W.subIn K (.ref e2) (.ref e1) = some false)
    (s2_2 : PySem.W.subIn K (.ref e2) (.ref e2) = some true)
    (s2_3 : PySem.W.subIn K (.ref e2) (.ref e3) = some false)
    (s2_4 : PySem.W.subIn K (.ref e2) (.ref e4) = some false)
    (s2_5 : PySem.W.subIn K (.ref e2) (.ref e5) = some false)
    (s2_6 : PySem.W.subIn K (.ref e2) (.ref e6) = some false)
    (sb2_0 : PySem.W.subIn K (.ref e2) (.type "LookupError") = some false)
    (sb2_1 : PySem.W.subIn K (.ref e2) (.type "ValueError") = some false)
    (s3_0 : PySem.W.subIn K (.ref e3) (.ref e0) = some true)
    (s3_1 : PySem.W.subIn K (.ref e3) (.ref e1) = some false)
    (s3_2 : PySem.W.subIn K (.ref e3) (.ref e2) = some false)
    (s3_3 : PySem.W.subIn K (.ref e3) (.ref e3) = some true)
    (s3_4 : PySem.W.subIn K (.ref e3) (.ref e4) = some false)
    (s3_5 : PySem.W.subIn K (.ref e3) (.ref e5) = some false)
    (s3_6 : PySem.W.subIn K (.ref e3) (.ref e6) = some false)
    (sb3_0 : PySem.W.subIn K (.ref e3) (.type "LookupError") = some false)
    (sb3_1 : PySem.W.subIn K (.ref e3) (.type "ValueError") = some true)
    (s4_0 : PySem.W.subIn K (.ref e4) (.ref e0) = some true)
    (s4_1 : PySem.W.subIn K (.ref e4) (.ref e1) = some false)
    (s4_2 : PySem.W.subIn K (.ref e4) (.ref e2) = some false)
    (s4_3 : PySem.W.subIn K (.ref e4) (.ref e3) = some false)
    (s4_4 : PySem.W.subIn K (.ref e4) (.ref e4) = some true)
    (s4_5 : PySem.W.subIn K (.ref e4) (.ref e5) = some false)
    (s4_6 : PySem.W.subIn K (.ref e4) (.ref e6) = some false)
    (sb4_0 : PySem.W.subIn K (.ref e4) (.type "LookupError") = some false)
    (sb4_1 : PySem.W.subIn K (.ref e4) (.type "ValueError") = some true)
    (s5_0 : PySem.W.subIn K (.ref e5) (.ref e0) = some false)
    (s5_1 : PySem.W.subIn K (.ref e5) (.ref e1) = some true)
    (s5_2 : PySem.W.subIn K (.ref e5) (.ref e2) = some false)
    (s5_3 : PySem.W.subIn K (.ref e5) (.ref e3) = some false)
    (s5_4 : PySem.W.subIn K (.ref e5) (.ref e4) = some false)
    (s5_5 : PySem.W.subIn K (.ref e5) (.ref e5) = some true)
    (s5_6 : PySem.W.subIn K (.ref e5) (.ref e6) = some false)
    (sb5_0 : PySem.W.subIn K (.ref e5) (.type "LookupError") = some true)
    (sb5_1 : PySem.W.subIn K (.ref e5) (.type "ValueError") = some false)
    (s6_0 : PySem.W.subIn K (.ref e6) (.ref e0) = some false)
    (s6_1 : PySem.W.subIn K (.ref e6) (.ref e1) = some false)
    (s6_2 : PySem.W.subIn K (.ref e6) (.ref e2) = some true)
    (s6_3 : PySem.W.subIn K (.ref e6) (.ref e3) = some false)
    (s6_4 : PySem.W.subIn K (.ref e6) (.ref e4) = some false)
    (s6_5 : PySem.W.subIn K (.ref e6) (.ref e5) = some false)
    (s6_6 : PySem.W.subIn K (.ref e6) (.ref e6) = some true)
    (sb6_0 : PySem.W.subIn K (.ref e6) (.type "LookupError") = some false)
    (sb6_1 : PySem.W.subIn K (.ref e6) (.type "ValueError") = some false)
    : ∃ fd : FuncData, (∀ (s : Shared) (v : Value), BindsTo s fd ⟨[v], []⟩ [("_law_script", v)]) ∧ ∀ base : Heap, K.In base → base.Ns mainGlobals mg → FnG l.prog w K mg base 8 fa fd ["_law_script"] (sp0 K mr_law 1) := by
  have e := hfa.symm.trans (PySem.W.mg_of X G a40)
  cases e
  exact ⟨_, fun s v => .of_eq rfl, fun base _ _ => ok_law (⟨_, _, fun_mk (st := s_want_at_most) l0 c0 k0, PySem.W.mg_of X G a0,
    _, _, fun_mk (st := s_fraction) l1 c1 k1, PySem.W.mg_of X G a1,
    _, _, fun_mk (st := s_whole) l2 c2 k2, PySem.W.mg_of X G a2,
    _, _, fun_mk (st := s_plus) l3 c3 k3, PySem.W.mg_of X G a3,
    _, _, fun_mk (st := s_minus) l4 c4 k4, PySem.W.mg_of X G a4,
    _, _, fun_mk (st := s_opposite) l5 c5 k5, PySem.W.mg_of X G a5,
    _, _, fun_mk (st := s_over) l6 c6 k6, PySem.W.mg_of X G a6,
    _, _, fun_mk (st := s_sign_of) l7 c7 k7, PySem.W.mg_of X G a7,
    _, _, fun_mk (st := s_compare) l8 c8 k8, PySem.W.mg_of X G a8,
    _, _, fun_mk (st := s_floor_of) l9 c9 k9, PySem.W.mg_of X G a9,
    _, _, fun_mk (st := s_ceiling_of) l10 c10 k10, PySem.W.mg_of X G a10,
    _, _, fun_mk (st := s_parts_of) l11 c11 k11, PySem.W.mg_of X G a11,
    _, _, fun_mk (st := s_of_parts) l12 c12 k12, PySem.W.mg_of X G a12,
    _, _, fun_mk (st := s_compare_by_parts) l13 c13 k13, PySem.W.mg_of X G a13,
    _, _, fun_mk (st := s_want_in_order) l14 c14 k14, PySem.W.mg_of X G a14,
    _, _, fun_mk (st := s_nearest_to_nought) l15 c15 k15, PySem.W.mg_of X G a15,
    _, _, fun_mk (st := s_simplest_plain) l16 c16 k16, PySem.W.mg_of X G a16,
    _, _, fun_mk (st := s_simplest_above) l17 c17 k17, PySem.W.mg_of X G a17,
    _, _, fun_mk (st := s_simplest) l18 c18 k18, PySem.W.mg_of X G a18,
    _, _, fun_mk (st := s__law_pot) l19 c19 k19, PySem.W.mg_of X G a19,
    _, _, fun_mk (st := s__law_draw) l20 c20 k20, PySem.W.mg_of X G a20,
    _, _, fun_mk (st := s__law_pick) l21 c21 k21, PySem.W.mg_of X G a21,
    _, _, fun_mk (st := s__law_gcd) l22 c22 k22, PySem.W.mg_of X G a22,
    _, _, fun_mk (st := s__law_made) l23 c23 k23, PySem.W.mg_of X G a23,
    _, _, fun_mk (st := s__law_parts) l24 c24 k24, PySem.W.mg_of X G a24,
    _, _, fun_mk (st := s__law_stands) l25 c25 k25, PySem.W.mg_of X G a25,
    _, _, fun_mk (st := s__law_row) l26 c26 k26, PySem.W.mg_of X G a26,
    _, _, fun_mk (st := s__law_near) l27 c27 k27, PySem.W.mg_of X G a27,
    _, _, fun_mk (st := s__law_less) l28 c28 k28, PySem.W.mg_of X G a28,
    _, _, fun_mk (st := s__law_no_parts) l29 c29 k29, PySem.W.mg_of X G a29,
    _, _, fun_mk (st := s__law_parts_right) l30 c30 k30, PySem.W.mg_of X G a30,
    _, _, fun_mk (st := s__law_nearest) l31 c31 k31, PySem.W.mg_of X G a31,
    _, _, fun_mk (st := s__law_simplest) l32 c32 k32, PySem.W.mg_of X G a32,
    _, _, fun_mk (st := s__law_low) l33 c33 k33, PySem.W.mg_of X G a33,
    _, _, fun_mk (st := s__law_sum) l34 c34 k34, PySem.W.mg_of X G a34,
    _, _, fun_mk (st := s__law_turned) l35 c35 k35, PySem.W.mg_of X G a35,
    _, _, fun_mk (st := s__law_bounds) l36 c36 k36, PySem.W.mg_of X G a36,
    _, _, fun_mk (st := s__law_crossed_right) l37 c37 k37, PySem.W.mg_of X G a37,
    _, _, fun_mk (st := s__law_between_right) l38 c38 k38, PySem.W.mg_of X G a38,
    _, _, fun_mk (st := s__law_alone_right) l39 c39 k39, PySem.W.mg_of X G a39,
    _, _, fun_mk (st := s_law) l40 c40 k40, PySem.W.mg_of X G a40,
    t0, PySem.W.mg_of X G n0,
    PySem.W.mg_none_of X G z0,
    PySem.W.mg_none_of X G z1,
    PySem.W.mg_none_of X G z2,
    PySem.W.mg_none_of X G z3,
    PySem.W.mg_none_of X G z4,
    PySem.W.mg_none_of X G z5,
    PySem.W.mg_none_of X G z6,
    PySem.W.mg_none_of X G z7,
    PySem.W.mg_none_of X G z8,
    PySem.W.mg_none_of X G z9,
    PySem.W.mg_none_of X G z10,
    PySem.W.mg_none_of X G z11,
    tp0, PySem.W.mg_of X G u0, fun H => dx_top2 v0 rfl rfl H,
    tp1, PySem.W.mg_of X G u1, fun H => dx_top2 v1 rfl rfl H,
    PySem.W.mg_of X G y0,
    fun i => [e0, e1, e2, e3, e4, e5, e6].getD i e0,
    ⟨PySem.W.mg_of X G ea0, ex0, ek0, eb0, et0⟩,
    ⟨PySem.W.mg_of X G ea1, ex1, ek1, eb1, et1⟩,
    ⟨PySem.W.mg_of X G ea2, ex2, ek2, eb2, et2⟩,
    ⟨PySem.W.mg_of X G ea3, ex3, ek3, eb3, et3⟩,
    ⟨PySem.W.mg_of X G ea4, ex4, ek4, eb4, et4⟩,
    ⟨PySem.W.mg_of X G ea5, ex5, ek5, eb5, et5⟩,
    _, _, fun_mk (st := inClass (topS 8) 0) xf6 xc6 xk6,
    ⟨PySem.W.mg_of X G ea6, ⟨⟨_, _, _, _, _, _, _, _, _, _, _, _, _, _, _, xl6, (show PySem.W.excTail [.type "ArithmeticError", .type "Exception", .type "BaseException", .type "object"] [.type "ArithmeticError", .type "Exception", .type "BaseException", .type "object"] = true by decide +kernel)⟩, PySem.F.excBase_ArithmeticError, PySem.F.store_ArithmeticError, xs6, eb6, et6, ek6⟩, xi6, xt6⟩,
    (fun i hi => match i, hi with | 0, _ => nf0_limit | 1, _ => nf1_limit | 2, _ => nf2_limit | 3, _ => nf3_limit | 4, _ => nf4_limit | 5, _ => nf5_limit | 6, _ => nf6_limit | _ + 7, h => absurd h (by omega)),
    (fun i hi => match i, hi with | 0, _ => nf0_what | 1, _ => nf1_what | 2, _ => nf2_what | 3, _ => nf3_what | 4, _ => nf4_what | 5, _ => nf5_what | 6, _ => nf6_what | _ + 7, h => absurd h (by omega)),
    errs_mk (fun i hi => match i, hi with | 0, _ => eb0 | 1, _ => eb1 | 2, _ => eb2 | 3, _ => eb3 | 4, _ => eb4 | 5, _ => eb5 | 6, _ => eb6 | _ + 7, h => absurd h (by omega)) (fun i hi => match i, hi with | 0, _ => ei0 | 1, _ => ei1 | 2, _ => ei2 | 3, _ => ei3 | 4, _ => ei4 | 5, _ => ei5 | 6, _ => ei6 | _ + 7, h => absurd h (by omega)) (fun i hi => match i, hi with | 0, _ => et0 | 1, _ => et1 | 2, _ => et2 | 3, _ => et3 | 4, _ => et4 | 5, _ => et5 | 6, _ => et6 | _ + 7, h => absurd h (by omega))
      (fun i j hi hj => match i, j, hi, hj with | 0, 0, _, _ => s0_0 | 0, 1, _, _ => s0_1 | 0, 2, _, _ => s0_2 | 0, 3, _, _ => s0_3 | 0, 4, _, _ => s0_4 | 0, 5, _, _ => s0_5 | 0, 6, _, _ => s0_6 | 1, 0, _, _ => s1_0 | 1, 1, _, _ => s1_1 | 1, 2, _, _ => s1_2 | 1, 3, _, _ => s1_3 | 1, 4, _, _ => s1_4 | 1, 5, _, _ => s1_5 | 1, 6, _, _ => s1_6 | 2, 0, _, _ => s2_0 | 2, 1, _, _ => s2_1 | 2, 2, _, _ => s2_2 | 2, 3, _, _ => s2_3 | 2, 4, _, _ => s2_4 | 2, 5, _, _ => s2_5 | 2, 6, _, _ => s2_6 | 3, 0, _, _ => s3_0 | 3, 1, _, _ => s3_1 | 3, 2, _, _ => s3_2 | 3, 3, _, _ => s3_3 | 3, 4, _, _ => s3_4 | 3, 5, _, _ => s3_5 | 3, 6, _, _ => s3_6 | 4, 0, _, _ => s4_0 | 4, 1, _, _ => s4_1 | 4, 2, _, _ => s4_2 | 4, 3, _, _ => s4_3 | 4, 4, _, _ => s4_4 | 4, 5, _, _ => s4_5 | 4, 6, _, _ => s4_6 | 5, 0, _, _ => s5_0 | 5, 1, _, _ => s5_1 | 5, 2, _, _ => s5_2 | 5, 3, _, _ => s5_3 | 5, 4, _, _ => s5_4 | 5, 5, _, _ => s5_5 | 5, 6, _, _ => s5_6 | 6, 0, _, _ => s6_0 | 6, 1, _, _ => s6_1 | 6, 2, _, _ => s6_2 | 6, 3, _, _ => s6_3 | 6, 4, _, _ => s6_4 | 6, 5, _, _ => s6_5 | 6, 6, _, _ => s6_6 | _ + 7, _, h, _ => absurd h (by omega) | _, _ + 7, _, h => absurd h (by omega)) (fun i hi => match i, hi with | 0, _ => rfl | 1, _ => rfl | 2, _ => rfl | 3, _ => rfl | 4, _ => rfl | 5, _ => rfl | 6, _ => rfl | _ + 7, h => absurd h (by omega)),
    (fun i hi => match i, hi with | 0, _ => ⟨eg0, eh0, eb0, ed0, ec0, en, ey, em0⟩ | 1, _ => ⟨eg1, eh1, eb1, ed1, ec1, en, ey, em1⟩ | 2, _ => ⟨eg2, eh2, eb2, ed2, ec2, en, ey, em2⟩ | 3, _ => ⟨eg3, eh3, eb3, ed3, ec3, en, ey, em3⟩ | 4, _ => ⟨eg4, eh4, eb4, ed4, ec4, en, ey, em4⟩ | 5, _ => ⟨eg5, eh5, eb5, ed5, ec5, en, ey, em5⟩ | 6, _ => ⟨eg6, eh6, eb6, ed6, ec6, en, ey, em6⟩ | _ + 7, h => absurd h (by omega)),
    fun s hs => by
      simp only [List.mem_cons, List.not_mem_nil, or_false] at hs
      rcases hs with rfl | rfl
      · exact (fun i hi => match i, hi with | 0, _ => errB_mk (by decide +kernel) sb0_0 | 1, _ => errB_mk (by decide +kernel) sb1_0 | 2, _ => errB_mk (by decide +kernel) sb2_0 | 3, _ => errB_mk (by decide +kernel) sb3_0 | 4, _ => errB_mk (by decide +kernel) sb4_0 | 5, _ => errB_mk (by decide +kernel) sb5_0 | 6, _ => errB_mk (by decide +kernel) sb6_0 | _ + 7, h => absurd h (by omega))
      · exact (fun i hi => match i, hi with | 0, _ => errB_mk (by decide +kernel) sb0_1 | 1, _ => errB_mk (by decide +kernel) sb1_1 | 2, _ => errB_mk (by decide +kernel) sb2_1 | 3, _ => errB_mk (by decide +kernel) sb3_1 | 4, _ => errB_mk (by decide +kernel) sb4_1 | 5, _ => errB_mk (by decide +kernel) sb5_1 | 6, _ => errB_mk (by decide +kernel) sb6_1 | _ + 7, h => absurd h (by omega))⟩ : Txt K mg)⟩
end K11
open PySem PySem.W PyProof.Rows
set_option maxRecDepth 100000 in
set_option maxHeartbeats 0 in
theorem PySem.Challenge.cw_allreadings_k11_whole_parts_and_simplest_holds : PySem.Challenge.rw_allreadings_k11_whole_parts_and_simplest.Holds := by
  w_on; o_law; k_head; (case hw => w_witness2)
  k_fill
  refine DX.walk_g (l := PySem.Challenge.rw_allreadings_k11_whole_parts_and_simplest) (n := 63) (k := 8) (x := "_law_script") (m := K11.mr_law) rfl (by decide) rfl ⟨rfl, by decide, by decide⟩ (fun w h Y => PySem.W.kIn_of Y) ?F K11.law_holds
  case F =>
    intro w mg fa h KX G hmg
    refine' K11.all_mk KX G hmg ?a0 ?l0 ?c0 ?k0 ?a1 ?l1 ?c1 ?k1 ?a2 ?l2 ?c2 ?k2 ?a3 ?l3 ?c3 ?k3 ?a4 ?l4 ?c4 ?k4 ?a5 ?l5 ?c5 ?k5 ?a6 ?l6 ?c6 ?k6 ?a7 ?l7 ?c7 ?k7 ?a8 ?l8 ?c8 ?k8 ?a9 ?l9 ?c9 ?k9 ?a10 ?l10 ?c10 ?k10 ?a11 ?l11 ?c11 ?k11 ?a12 ?l12 ?c12 ?k12 ?a13 ?l13 ?c13 ?k13 ?a14 ?l14 ?c14 ?k14 ?a15 ?l15 ?c15 ?k15 ?a16 ?l16 ?c16 ?k16 ?a17 ?l17 ?c17 ?k17 ?a18 ?l18 ?c18 ?k18 ?a19 ?l19 ?c19 ?k19 ?a20 ?l20 ?c20 ?k20 ?a21 ?l21 ?c21 ?k21 ?a22 ?l22 ?c22 ?k22 ?a23 ?l23 ?c23 ?k23 ?a24 ?l24 ?c24 ?k24 ?a25 ?l25 ?c25 ?k25 ?a26 ?l26 ?c26 ?k26 ?a27 ?l27 ?c27 ?k27 ?a28 ?l28 ?c28 ?k28 ?a29 ?l29 ?c29 ?k29 ?a30 ?l30 ?c30 ?k30 ?a31 ?l31 ?c31 ?k31 ?a32 ?l32 ?c32 ?k32 ?a33 ?l33 ?c33 ?k33 ?a34 ?l34 ?c34 ?k34 ?a35 ?l35 ?c35 ?k35 ?a36 ?l36 ?c36 ?k36 ?a37 ?l37 ?c37 ?k37 ?a38 ?l38 ?c38 ?k38 ?a39 ?l39 ?c39 ?k39 ?a40 ?l40 ?c40 ?k40 ?n0 ?z0 ?z1 ?z2 ?z3 ?z4 ?z5 ?z6 ?z7 ?z8 ?z9 ?z10 ?z11 ?u0 ?v0 ?u1 ?v1 ?y0 ?ea0 ?ex0 ?nf0_limit ?nf0_what ?ek0 ?eb0 ?et0 ?ei0 ?eg0 ?eh0 ?ed0 ?ec0 ?em0 ?ea1 ?ex1 ?nf1_limit ?nf1_what ?ek1 ?eb1 ?et1 ?ei1 ?eg1 ?eh1 ?ed1 ?ec1 ?em1 ?ea2 ?ex2 ?nf2_limit ?nf2_what ?ek2 ?eb2 ?et2 ?ei2 ?eg2 ?eh2 ?ed2 ?ec2 ?em2 ?ea3 ?ex3 ?nf3_limit ?nf3_what ?ek3 ?eb3 ?et3 ?ei3 ?eg3 ?eh3 ?ed3 ?ec3 ?em3 ?ea4 ?ex4 ?nf4_limit ?nf4_what ?ek4 ?eb4 ?et4 ?ei4 ?eg4 ?eh4 ?ed4 ?ec4 ?em4 ?ea5 ?ex5 ?nf5_limit ?nf5_what ?ek5 ?eb5 ?et5 ?ei5 ?eg5 ?eh5 ?ed5 ?ec5 ?em5 ?ea6 ?xl6 ?xs6 ?xi6 ?xt6 ?xf6 ?xc6 ?xk6 ?nf6_limit ?nf6_what ?ek6 ?eb6 ?et6 ?ei6 ?eg6 ?eh6 ?ed6 ?ec6 ?em6 ?en ?ey ?s0_0 ?s0_1 ?s0_2 ?s0_3 ?s0_4 ?s0_5 ?s0_6 ?sb0_0 ?sb0_1 ?s1_0 ?s1_1 ?s1_2 ?s1_3 ?s1_4 ?s1_5 ?s1_6 ?sb1_0 ?sb1_1 ?s2_0 ?s2_1 ?s2_2 ?s2_3 ?s2_4 ?s2_5 ?s2_6 ?sb2_0 ?sb2_1 ?s3_0 ?s3_1 ?s3_2 ?s3_3 ?s3_4 ?s3_5 ?s3_6 ?sb3_0 ?sb3_1 ?s4_0 ?s4_1 ?s4_2 ?s4_3 ?s4_4 ?s4_5 ?s4_6 ?sb4_0 ?sb4_1 ?s5_0 ?s5_1 ?s5_2 ?s5_3 ?s5_4 ?s5_5 ?s5_6 ?sb5_0 ?sb5_1 ?s6_0 ?s6_1 ?s6_2 ?s6_3 ?s6_4 ?s6_5 ?s6_6 ?sb6_0 ?sb6_1
    (case a0 => k_is)
    (case l0 => k_is)
    (case c0 => k_is)
    (case k0 => k_is)
    (case a1 => k_is)
    (case l1 => k_is)
    (case c1 => k_is)
    (case k1 => k_is)
    (case a2 => k_is)
    (case l2 => k_is)
    (case c2 => k_is)
    (case k2 => k_is)
    (case a3 => k_is)
    (case l3 => k_is)
    (case c3 => k_is)
    (case k3 => k_is)
    (case a4 => k_is)
    (case l4 => k_is)
    (case c4 => k_is)
    (case k4 => k_is)
    (case a5 => k_is)
    (case l5 => k_is)
    (case c5 => k_is)
    (case k5 => k_is)
    (case a6 => k_is)
    (case l6 => k_is)
    (case c6 => k_is)
    (case k6 => k_is)
    (case a7 => k_is)
    (case l7 => k_is)
    (case c7 => k_is)
    (case k7 => k_is)
    (case a8 => k_is)
    (case l8 => k_is)
    (case c8 => k_is)
    (case k8 => k_is)
    (case a9 => k_is)
    (case l9 => k_is)
    (case c9 => k_is)
    (case k9 => k_is)
    (case a10 => k_is)
    (case l10 => k_is)
    (case c10 => k_is)
    (case k10 => k_is)
    (case a11 => k_is)
    (case l11 => k_is)
    (case c11 => k_is)
    (case k11 => k_is)
    (case a12 => k_is)
    (case l12 => k_is)
    (case c12 => k_is)
    (case k12 => k_is)
    (case a13 => k_is)
    (case l13 => k_is)
    (case c13 => k_is)
    (case k13 => k_is)
    (case a14 => k_is)
    (case l14 => k_is)
    (case c14 => k_is)
    (case k14 => k_is)
    (case a15 => k_is)
    (case l15 => k_is)
    (case c15 => k_is)
    (case k15 => k_is)
    (case a16 => k_is)
    (case l16 => k_is)
    (case c16 => k_is)
    (case k16 => k_is)
    (case a17 => k_is)
    (case l17 => k_is)
    (case c17 => k_is)
    (case k17 => k_is)
    (case a18 => k_is)
    (case l18 => k_is)
    (case c18 => k_is)
    (case k18 => k_is)
    (case a19 => k_is)
    (case l19 => k_is)
    (case c19 => k_is)
    (case k19 => k_is)
    (case a20 => k_is)
    (case l20 => k_is)
    (case c20 => k_is)
    (case k20 => k_is)
    (case a21 => k_is)
    (case l21 => k_is)
    (case c21 => k_is)
    (case k21 => k_is)
    (case a22 => k_is)
    (case l22 => k_is)
    (case c22 => k_is)
    (case k22 => k_is)
    (case a23 => k_is)
    (case l23 => k_is)
    (case c23 => k_is)
    (case k23 => k_is)
    (case a24 => k_is)
    (case l24 => k_is)
    (case c24 => k_is)
    (case k24 => k_is)
    (case a25 => k_is)
    (case l25 => k_is)
    (case c25 => k_is)
    (case k25 => k_is)
    (case a26 => k_is)
    (case l26 => k_is)
    (case c26 => k_is)
    (case k26 => k_is)
    (case a27 => k_is)
    (case l27 => k_is)
    (case c27 => k_is)
    (case k27 => k_is)
    (case a28 => k_is)
    (case l28 => k_is)
    (case c28 => k_is)
    (case k28 => k_is)
    (case a29 => k_is)
    (case l29 => k_is)
    (case c29 => k_is)
    (case k29 => k_is)
    (case a30 => k_is)
    (case l30 => k_is)
    (case c30 => k_is)
    (case k30 => k_is)
    (case a31 => k_is)
    (case l31 => k_is)
    (case c31 => k_is)
    (case k31 => k_is)
    (case a32 => k_is)
    (case l32 => k_is)
    (case c32 => k_is)
    (case k32 => k_is)
    (case a33 => k_is)
    (case l33 => k_is)
    (case c33 => k_is)
    (case k33 => k_is)
    (case a34 => k_is)
    (case l34 => k_is)
    (case c34 => k_is)
    (case k34 => k_is)
    (case a35 => k_is)
    (case l35 => k_is)
    (case c35 => k_is)
    (case k35 => k_is)
    (case a36 => k_is)
    (case l36 => k_is)
    (case c36 => k_is)
    (case k36 => k_is)
    (case a37 => k_is)
    (case l37 => k_is)
    (case c37 => k_is)
    (case k37 => k_is)
    (case a38 => k_is)
    (case l38 => k_is)
    (case c38 => k_is)
    (case k38 => k_is)
    (case a39 => k_is)
    (case l39 => k_is)
    (case c39 => k_is)
    (case k39 => k_is)
    (case a40 => k_is)
    (case l40 => k_is)
    (case c40 => k_is)
    (case k40 => k_is)
    (case n0 => k_is)
    (case z0 => k_is)
    (case z1 => k_is)
    (case z2 => k_is)
    (case z3 => k_is)
    (case z4 => k_is)
    (case z5 => k_is)
    (case z6 => k_is)
    (case z7 => k_is)
    (case z8 => k_is)
    (case z9 => k_is)
    (case z10 => k_is)
    (case z11 => k_is)
    (case u0 => k_is)
    (case v0 => k_is)
    (case u1 => k_is)
    (case v1 => k_is)
    (case y0 => k_is)
    (case ea0 => k_is)
    (case ex0 => k_exc)
    (case nf0_limit => k_is)
    (case nf0_what => k_is)
    (case ek0 => k_is)
    (case eb0 => k_is)
    (case et0 => k_is)
    (case ei0 => k_is)
    (case eg0 => k_is)
    (case eh0 => k_is)
    (case ed0 => k_is)
    (case ec0 => k_is)
    (case em0 => k_is)
    (case ea1 => k_is)
    (case ex1 => k_exc)
    (case nf1_limit => k_is)
    (case nf1_what => k_is)
    (case ek1 => k_is)
    (case eb1 => k_is)
    (case et1 => k_is)
    (case ei1 => k_is)
    (case eg1 => k_is)
    (case eh1 => k_is)
    (case ed1 => k_is)
    (case ec1 => k_is)
    (case em1 => k_is)
    (case ea2 => k_is)
    (case ex2 => k_exc)
    (case nf2_limit => k_is)
    (case nf2_what => k_is)
    (case ek2 => k_is)
    (case eb2 => k_is)
    (case et2 => k_is)
    (case ei2 => k_is)
    (case eg2 => k_is)
    (case eh2 => k_is)
    (case ed2 => k_is)
    (case ec2 => k_is)
    (case em2 => k_is)
    (case ea3 => k_is)
    (case ex3 => k_exc)
    (case nf3_limit => k_is)
    (case nf3_what => k_is)
    (case ek3 => k_is)
    (case eb3 => k_is)
    (case et3 => k_is)
    (case ei3 => k_is)
    (case eg3 => k_is)
    (case eh3 => k_is)
    (case ed3 => k_is)
    (case ec3 => k_is)
    (case em3 => k_is)
    (case ea4 => k_is)
    (case ex4 => k_exc)
    (case nf4_limit => k_is)
    (case nf4_what => k_is)
    (case ek4 => k_is)
    (case eb4 => k_is)
    (case et4 => k_is)
    (case ei4 => k_is)
    (case eg4 => k_is)
    (case eh4 => k_is)
    (case ed4 => k_is)
    (case ec4 => k_is)
    (case em4 => k_is)
    (case ea5 => k_is)
    (case ex5 => k_exc)
    (case nf5_limit => k_is)
    (case nf5_what => k_is)
    (case ek5 => k_is)
    (case eb5 => k_is)
    (case et5 => k_is)
    (case ei5 => k_is)
    (case eg5 => k_is)
    (case eh5 => k_is)
    (case ed5 => k_is)
    (case ec5 => k_is)
    (case em5 => k_is)
    (case ea6 => k_is)
    (case xl6 => k_is)
    (case xs6 => k_is)
    (case xi6 => k_is)
    (case xt6 => k_is)
    (case xf6 => k_is)
    (case xc6 => k_is)
    (case xk6 => k_is)
    (case nf6_limit => k_is)
    (case nf6_what => k_is)
    (case ek6 => k_is)
    (case eb6 => k_is)
    (case et6 => k_is)
    (case ei6 => k_is)
    (case eg6 => k_is)
    (case eh6 => k_is)
    (case ed6 => k_is)
    (case ec6 => k_is)
    (case em6 => k_is)
    (case en => k_is)
    (case ey => k_is)
    (case s0_0 => k_is)
    (case s0_1 => k_is)
    (case s0_2 => k_is)
    (case s0_3 => k_is)
    (case s0_4 => k_is)
    (case s0_5 => k_is)
    (case s0_6 => k_is)
    (case sb0_0 => k_is)
    (case sb0_1 => k_is)
    (case s1_0 => k_is)
    (case s1_1 => k_is)
    (case s1_2 => k_is)
    (case s1_3 => k_is)
    (case s1_4 => k_is)
    (case s1_5 => k_is)
    (case s1_6 => k_is)
    (case sb1_0 => k_is)
    (case sb1_1 => k_is)
    (case s2_0 => k_is)
    (case s2_1 => k_is)
    (case s2_2 => k_is)
    (case s2_3 => k_is)
    (case s2_4 => k_is)
    (case s2_5 => k_is)
    (case s2_6 => k_is)
    (case sb2_0 => k_is)
    (case sb2_1 => k_is)
    (case s3_0 => k_is)
    (case s3_1 => k_is)
    (case s3_2 => k_is)
    (case s3_3 => k_is)
    (case s3_4 => k_is)
    (case s3_5 => k_is)
    (case s3_6 => k_is)
    (case sb3_0 => k_is)
    (case sb3_1 => k_is)
    (case s4_0 => k_is)
    (case s4_1 => k_is)
    (case s4_2 => k_is)
    (case s4_3 => k_is)
    (case s4_4 => k_is)
    (case s4_5 => k_is)
    (case s4_6 => k_is)
    (case sb4_0 => k_is)
    (case sb4_1 => k_is)
    (case s5_0 => k_is)
    (case s5_1 => k_is)
    (case s5_2 => k_is)
    (case s5_3 => k_is)
    (case s5_4 => k_is)
    (case s5_5 => k_is)
    (case s5_6 => k_is)
    (case sb5_0 => k_is)
    (case sb5_1 => k_is)
    (case s6_0 => k_is)
    (case s6_1 => k_is)
    (case s6_2 => k_is)
    (case s6_3 => k_is)
    (case s6_4 => k_is)
    (case s6_5 => k_is)
    (case s6_6 => k_is)
    (case sb6_0 => k_is)
    (case sb6_1 => k_is)
