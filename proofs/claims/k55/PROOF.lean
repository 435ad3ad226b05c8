import PyProof.Rows.All
import Wide.All
import OpenK.AllK
import Wide.FinOn
import HandS.ForMost
import HandS.Deep
import HandS.IsInst
import HandS.Wide
import HandS.Flow
import HandS.TupAny
import HandS.Style
import HandS.EndBits
import HandS.AnyAll
import KE.KNestM
import HandS.ForExc
import HandS.ExcIs
import HandS.Small
import HandS.ExcInit
import HandS.ExcField
import KE.KExcIs
import HandS.Gcd
import HandS.FStr
import KE.KExcInit
import HandS.Rev
import HandS.GenOver
import HandS.Zip
import PySem.Challenge.RW_allreadings_k55_any_value_as_terms_and_s
set_option Elab.async false
set_option linter.all false
set_option maxRecDepth 100000
/-! DXCore: owned and shared data over the abstract heap. -/
namespace DX
open PySem PySem.Spec PyProof.Rows L2

/-- data that is shared (never changed from here on), or a list that one name alone holds -/
inductive OD where
  | sh (d : PyData)
  | lst (xs : List OD)
  | tpl (xs : List OD)

mutual
def OD.er : OD → PyData
  | .sh d => d
  | .lst xs => .list (OD.ers xs)
  | .tpl xs => .tuple (OD.ers xs)
def OD.ers : List OD → List PyData
  | [] => []
  | x :: xs => x.er :: OD.ers xs
end
theorem ers_map : ∀ xs : List OD, OD.ers xs = xs.map OD.er
  | [] => rfl
  | x :: xs => by show x.er :: OD.ers xs = _; rw [ers_map xs]; rfl
theorem ers_sh : ∀ ds : List PyData, OD.ers (ds.map OD.sh) = ds
  | [] => rfl
  | d :: ds => by show d :: OD.ers (ds.map OD.sh) = _; rw [ers_sh ds]

abbrev FP := Addr → Nat
/-- the longest text that is carried -/
def strMax : Nat := 16000000
theorem strMax_le {n : Nat} (h : n ≤ strMax) : n + 2 ≤ sizeLine := Nat.le_trans (Nat.add_le_add_right h 2) (by decide)
theorem strMax_le' {n : Nat} (h : n ≤ strMax) : n ≤ sizeLine := by have := strMax_le h; omega
def Sub (G H : Hp) : Prop := ∀ a o, G a = some o → H a = some o
theorem Sub.refl (H : Hp) : Sub H H := fun _ _ h => h
theorem Sub.trans {G H I : Hp} (a : Sub G H) (b : Sub H I) : Sub G I := fun x o h => b x o (a x o h)
theorem sub_upd {G H : Hp} {p : Addr} {o : HO} (s : Sub G H) (h : H p = none) : Sub G (upd H p o) := fun a u e => by
  have := s a u e
  rw [upd_ne (ne_of_none this h)]; exact this
theorem sub_upd2 {G H : Hp} {p : Addr} {o : HO} (s : Sub G H) : Sub (upd G p o) (upd H p o) := fun a u e => by
  by_cases h : a = p
  · subst h; rw [upd_same] at e ⊢; exact e
  · rw [upd_ne h] at e ⊢; exact s a u e

section
variable {K : PySem.W.Frag}
theorem rd_sub {H H' : Hp} {a : Addr} {u : HO} (e : Sub H H') (h : Rd H a u) : Rd H' a u := by
  rcases h with h | ⟨o, h⟩
  · exact .inl (e a _ h)
  · exact .inr ⟨o, e a _ h⟩
theorem sqL_sub {H H' : Hp} {a : Addr} {xs : List V} (e : Sub H H') (h : SqL K H a xs) : SqL K H' a xs := by
  rcases h with h | h
  · exact .inl (rd_sub e h)
  · exact .inr h
theorem sqT_sub {H H' : Hp} {a : Addr} {xs : List V} (e : Sub H H') (h : SqT K H a xs) : SqT K H' a xs := by
  rcases h with h | h
  · exact .inl (rd_sub e h)
  · exact .inr h
mutual
/-- a value as data: its lists are tracked -/
inductive Dx (K : PySem.W.Frag) (H : Hp) : V → PyData → Prop
  | non : Dx K H .non .none
  | bl (b : Bool) : Dx K H (.bl b) (.bool b)
  | int (i : Int) : Dx K H (.int i) (.int i)
  | str (x : Str) (h : x.length ≤ strMax) : Dx K H (.str x) (.str x)
  | lst {a : Addr} {vs : List V} {ds : List PyData} : SqL K H a vs → DxAll K H vs ds → Dx K H (.ref a) (.list ds)
  | tup {a : Addr} {vs : List V} {ds : List PyData} : SqT K H a vs → DxAll K H vs ds → Dx K H (.ref a) (.tuple ds)
  | exc (a : Nat) (e : Nat) : Dx K H (.ref a) (.dict [(.int (a : Nat), .int (e : Nat))])
  | exf {a e d : Nat} {vs : List (Str × V)} {ds : List PyData} : H d = some (.xd vs) → DxAll K H (vs.map Prod.snd) ds → Dx K H (.ref a) (.dict [(.int (a : Nat), .int (e : Nat)), (.int (d : Nat), .tuple [.list (vs.map fun p => .str p.1), .list ds])])
inductive DxAll (K : PySem.W.Frag) (H : Hp) : List V → List PyData → Prop
  | nil : DxAll K H [] []
  | cons {v : V} {vs : List V} {d : PyData} {ds : List PyData} : Dx K H v d → DxAll K H vs ds → DxAll K H (v :: vs) (d :: ds)
end
mutual
theorem Dx.dp {H : Hp} : ∀ {v : V} {d : PyData}, Dx K H v d → d.hasDict = false → Dp K H v d
  | _, _, .non, _ => .non
  | _, _, .bl b, _ => .bl b
  | _, _, .int i, _ => .int i
  | _, _, .str x _, _ => .str x
  | _, _, .lst h r, z => .lst h (DxAll.dp r (by rw [PyData.hasDict] at z; exact z))
  | _, _, .tup h r, z => .tup h (DxAll.dp r (by rw [PyData.hasDict] at z; exact z))
  | _, _, .exc _ _, z => by rw [PyData.hasDict] at z; cases z
  | _, _, .exf _ _, z => by rw [PyData.hasDict] at z; cases z
theorem DxAll.dp {H : Hp} : ∀ {vs : List V} {ds : List PyData}, DxAll K H vs ds → PyData.hasDictAll ds = false → DpAll K H vs ds
  | _, _, .nil, _ => .nil
  | _, _, .cons a r, z => by
    rw [PyData.hasDictAll, Bool.or_eq_false_iff] at z
    exact .cons (a.dp z.1) (DxAll.dp r z.2)
end
mutual
theorem dp_sub {H H' : Hp} (e : Sub H H') : ∀ {v : V} {d : PyData}, Dx K H v d → Dx K H' v d
  | _, _, .non => .non
  | _, _, .bl b => .bl b
  | _, _, .int i => .int i
  | _, _, .str x h => .str x h
  | _, _, .lst h r => .lst (sqL_sub e h) (dps_sub e r)
  | _, _, .tup h r => .tup (sqT_sub e h) (dps_sub e r)
  | _, _, .exc a b => .exc a b
  | _, _, .exf h r => .exf (e _ _ h) (dps_sub e r)
theorem dps_sub {H H' : Hp} (e : Sub H H') : ∀ {vs : List V} {ds : List PyData}, DxAll K H vs ds → DxAll K H' vs ds
  | _, _, .nil => .nil
  | _, _, .cons a r => .cons (dp_sub e a) (dps_sub e r)
end
theorem dps_len {H : Hp} : ∀ {vs : List V} {ds : List PyData}, DxAll K H vs ds → vs.length = ds.length
  | _, _, .nil => rfl
  | _, _, .cons _ r => by simp [dps_len r]
theorem dps_app {H : Hp} : ∀ {vs ws : List V} {ds es : List PyData}, DxAll K H vs ds → DxAll K H ws es → DxAll K H (vs ++ ws) (ds ++ es)
  | _, _, _, _, .nil, h => h
  | _, _, _, _, .cons a r, h => .cons a (dps_app r h)
theorem dps_get {H : Hp} : ∀ {vs : List V} {ds : List PyData} {i : Nat} {d : PyData}, DxAll K H vs ds → ds[i]? = some d → ∃ v, vs[i]? = some v ∧ Dx K H v d
  | _, _, _, _, .nil, h => by simp at h
  | _, _, 0, _, .cons a _, h => by simp at h; subst h; exact ⟨_, rfl, a⟩
  | _, _, i + 1, _, .cons _ r, h => by
    obtain ⟨v, h1, h2⟩ := dps_get (i := i) r (by simpa using h)
    exact ⟨v, by simpa using h1, h2⟩

mutual
inductive RO (K : PySem.W.Frag) (G H : Hp) : V → OD → FP → Prop
  | sh {v : V} {d : PyData} : Dx K G v d → RO K G H v (.sh d) (fun _ => 0)
  | lst {p : Addr} {vs : List V} {xs : List OD} {f : FP} : H p = some (.lst vs) → ROs K G H vs xs f → RO K G H (.ref p) (.lst xs) (fun a => (if a = p then 1 else 0) + f a)
  | tpl {p : Addr} {vs : List V} {xs : List OD} {f : FP} : SqT K G p vs → ROs K G H vs xs f → RO K G H (.ref p) (.tpl xs) f
inductive ROs (K : PySem.W.Frag) (G H : Hp) : List V → List OD → FP → Prop
  | nil : ROs K G H [] [] (fun _ => 0)
  | cons {v : V} {x : OD} {f : FP} {vs : List V} {xs : List OD} {g : FP} : RO K G H v x f → ROs K G H vs xs g → ROs K G H (v :: vs) (x :: xs) (fun a => f a + g a)
end

mutual
theorem RO.mono {G H G' H' : Hp} (g : Sub G G') : ∀ {v : V} {o : OD} {f : FP}, RO K G H v o f → (∀ a xs, f a ≠ 0 → H a = some (.lst xs) → H' a = some (.lst xs)) → RO K G' H' v o f
  | _, _, _, .sh h, _ => .sh (dp_sub g h)
  | _, _, _, .lst (p := p) (f := f) h r, k => .lst (k p _ (by simp) h) (ROs.mono g r fun a u ha e => k a u (by (try dsimp only at *); omega) e)
  | _, _, _, .tpl h r, k => .tpl (sqT_sub g h) (ROs.mono g r k)
theorem ROs.mono {G H G' H' : Hp} (g : Sub G G') : ∀ {vs : List V} {os : List OD} {f : FP}, ROs K G H vs os f → (∀ a xs, f a ≠ 0 → H a = some (.lst xs) → H' a = some (.lst xs)) → ROs K G' H' vs os f
  | _, _, _, .nil, _ => .nil
  | _, _, _, .cons (f := f) (g := f') h r, k => .cons (RO.mono g h fun a u ha e => k a u (by (try dsimp only at *); omega) e) (ROs.mono g r fun a u ha e => k a u (by (try dsimp only at *); omega) e)
end
-- owned data made shared
mutual
theorem RO.frz {G H G' : Hp} (g : Sub G G') : ∀ {v : V} {o : OD} {f : FP}, RO K G H v o f → (∀ a xs, f a ≠ 0 → H a = some (.lst xs) → G' a = some (.lst xs)) → Dx K G' v o.er
  | _, _, _, .sh h, _ => dp_sub g h
  | _, _, _, .lst (p := p) (f := f) h r, k => .lst (.inl (.inl (k p _ (by simp) h))) (ROs.frz g r fun a u ha e => k a u (by (try dsimp only at *); omega) e)
  | _, _, _, .tpl h r, k => .tup (sqT_sub g h) (ROs.frz g r k)
theorem ROs.frz {G H G' : Hp} (g : Sub G G') : ∀ {vs : List V} {os : List OD} {f : FP}, ROs K G H vs os f → (∀ a xs, f a ≠ 0 → H a = some (.lst xs) → G' a = some (.lst xs)) → DxAll K G' vs (OD.ers os)
  | _, _, _, .nil, _ => .nil
  | _, _, _, .cons (f := f) (g := f') h r, k => .cons (RO.frz g h fun a u ha e => k a u (by (try dsimp only at *); omega) e) (ROs.frz g r fun a u ha e => k a u (by (try dsimp only at *); omega) e)
end
mutual
theorem RO.live {G H : Hp} : ∀ {v : V} {o : OD} {f : FP}, RO K G H v o f → ∀ a, f a ≠ 0 → H a ≠ none
  | _, _, _, .sh _, a, h => absurd rfl h
  | _, _, _, .lst (p := p) (f := f) h r, a, ha => by
    by_cases e : a = p
    · subst e; rw [h]; simp
    · exact ROs.live r a (by simp [e] at ha; exact ha)
  | _, _, _, .tpl _ r, a, ha => ROs.live r a ha
theorem ROs.live {G H : Hp} : ∀ {vs : List V} {os : List OD} {f : FP}, ROs K G H vs os f → ∀ a, f a ≠ 0 → H a ≠ none
  | _, _, _, .nil, a, h => absurd rfl h
  | _, _, _, .cons (f := f) (g := f') h r, a, ha => by
    by_cases e : f a = 0
    · exact ROs.live r a (by (try dsimp only at *); omega)
    · exact RO.live h a e
end
mutual
theorem RO.isl {G H : Hp} : ∀ {v : V} {o : OD} {f : FP}, RO K G H v o f → ∀ a, f a ≠ 0 → ∃ xs, H a = some (.lst xs)
  | _, _, _, .sh _, a, h => absurd rfl h
  | _, _, _, .lst (p := p) (f := f) h r, a, ha => by
    by_cases e : a = p
    · subst e; exact ⟨_, h⟩
    · exact ROs.isl r a (by simp [e] at ha; exact ha)
  | _, _, _, .tpl _ r, a, ha => ROs.isl r a ha
theorem ROs.isl {G H : Hp} : ∀ {vs : List V} {os : List OD} {f : FP}, ROs K G H vs os f → ∀ a, f a ≠ 0 → ∃ xs, H a = some (.lst xs)
  | _, _, _, .nil, a, h => absurd rfl h
  | _, _, _, .cons (f := f) (g := f') h r, a, ha => by
    by_cases e : f a = 0
    · exact ROs.isl r a (by (try dsimp only at *); omega)
    · exact RO.isl h a e
end
theorem ROs.len {G H : Hp} : ∀ {vs : List V} {os : List OD} {f : FP}, ROs K G H vs os f → vs.length = os.length
  | _, _, _, .nil => rfl
  | _, _, _, .cons _ r => by simp [ROs.len r]
theorem ROs.of_dps {G H : Hp} : ∀ {vs : List V} {ds : List PyData}, DxAll K G vs ds → ROs K G H vs (ds.map OD.sh) (fun _ => 0)
  | _, _, .nil => .nil
  | _, _, .cons h r => ROs.cons (f := fun _ => 0) (g := fun _ => 0) (.sh h) (ROs.of_dps r)
theorem ROs.app {G H : Hp} : ∀ {vs ws : List V} {os ps : List OD} {f g : FP}, ROs K G H vs os f → ROs K G H ws ps g → ∃ k, ROs K G H (vs ++ ws) (os ++ ps) k ∧ ∀ a, k a = f a + g a
  | _, _, _, _, _, g, .nil, h => ⟨g, h, fun a => by (try dsimp only at *); omega⟩
  | _, _, _, _, _, g, .cons (f := f₁) (g := f₂) h r, q => by
    obtain ⟨k, h1, h2⟩ := ROs.app r q
    exact ⟨_, .cons h h1, fun a => by (try dsimp only); rw [h2]; omega⟩

/-- the slots (and temporaries behind them): what each holds; f: what is owned in all -/
inductive SL (K : PySem.W.Frag) (G H : Hp) : List (Option V) → List (Option OD) → FP → Prop
  | nil : SL K G H [] [] (fun _ => 0)
  | un {v : Option V} {vs : List (Option V)} {os : List (Option OD)} {f : FP} : SL K G H vs os f → SL K G H (v :: vs) (none :: os) f
  | val {v : V} {o : OD} {f : FP} {vs : List (Option V)} {os : List (Option OD)} {g : FP} : RO K G H v o f → SL K G H vs os g → SL K G H (some v :: vs) (some o :: os) (fun a => f a + g a)
theorem SL.len {G H : Hp} : ∀ {vs : List (Option V)} {os : List (Option OD)} {f : FP}, SL K G H vs os f → vs.length = os.length
  | _, _, _, .nil => rfl
  | _, _, _, .un r => by simp [SL.len r]
  | _, _, _, .val _ r => by simp [SL.len r]
theorem SL.mono {G H G' H' : Hp} (g : Sub G G') : ∀ {vs : List (Option V)} {os : List (Option OD)} {f : FP}, SL K G H vs os f → (∀ a xs, f a ≠ 0 → H a = some (.lst xs) → H' a = some (.lst xs)) → SL K G' H' vs os f
  | _, _, _, .nil, _ => .nil
  | _, _, _, .un r, k => .un (SL.mono g r k)
  | _, _, _, .val (f := f) (g := f') h r, k => .val (h.mono g fun a u ha e => k a u (by (try dsimp only at *); omega) e) (SL.mono g r fun a u ha e => k a u (by (try dsimp only at *); omega) e)
theorem SL.live {G H : Hp} : ∀ {vs : List (Option V)} {os : List (Option OD)} {f : FP}, SL K G H vs os f → ∀ a, f a ≠ 0 → H a ≠ none
  | _, _, _, .nil, a, h => absurd rfl h
  | _, _, _, .un r, a, h => SL.live r a h
  | _, _, _, .val (f := f) (g := f') h r, a, ha => by
    by_cases e : f a = 0
    · exact SL.live r a (by (try dsimp only at *); omega)
    · exact h.live a e
theorem SL.isl {G H : Hp} : ∀ {vs : List (Option V)} {os : List (Option OD)} {f : FP}, SL K G H vs os f → ∀ a, f a ≠ 0 → ∃ xs, H a = some (.lst xs)
  | _, _, _, .nil, a, h => absurd rfl h
  | _, _, _, .un r, a, h => SL.isl r a h
  | _, _, _, .val (f := f) (g := f') h r, a, ha => by
    by_cases e : f a = 0
    · exact SL.isl r a (by (try dsimp only at *); omega)
    · exact h.isl a e
theorem SL.congr {G H : Hp} {vs : List (Option V)} {os : List (Option OD)} {f g : FP} (h : SL K G H vs os f) (e : ∀ a, f a = g a) : SL K G H vs os g := by
  have : f = g := funext e
  subst this; exact h
/-- look at the i-th -/
theorem SL.at {G H : Hp} : ∀ {vs : List (Option V)} {os : List (Option OD)} {f : FP} {i : Nat} {o : OD}, SL K G H vs os f → os[i]? = some (some o) →
    ∃ (v : V) (fo fr : FP), vs[i]? = some (some v) ∧ RO K G H v o fo ∧ (∀ a, f a = fo a + fr a) ∧ 
      (∀ G' H', Sub G G' → (∀ a xs, fr a ≠ 0 → H a = some (.lst xs) → H' a = some (.lst xs)) → ∀ v' o' f', RO K G' H' v' o' f' → ∃ g, SL K G' H' (vs.set i (some v')) (os.set i (some o')) g ∧ ∀ a, g a = f' a + fr a)
  | _, _, _, _, _, .nil, h => by simp at h
  | _, _, _, 0, _, .un r, h => by simp at h
  | _, _, _, 0, o, .val (v := v) (f := f) (g := g) q r, h => by
    simp at h; subst h
    exact ⟨v, f, g, rfl, q, fun _ => rfl, fun G' H' s k v' o' f' q' => ⟨_, .val q' (r.mono s k), fun _ => rfl⟩⟩
  | _, _, _, i + 1, o, .un (v := w) r, h => by
    obtain ⟨v, fo, fr, h1, h2, h3, h5⟩ := SL.at (i := i) r (by simpa using h)
    exact ⟨v, fo, fr, by simpa using h1, h2, h3, fun G' H' s k v' o' f' q => by
      obtain ⟨g, g1, g2⟩ := h5 G' H' s k v' o' f' q
      exact ⟨g, .un g1, g2⟩⟩
  | _, _, _, i + 1, o, .val (f := f) (g := g) q r, h => by
    obtain ⟨v, fo, fr, h1, h2, h3, h5⟩ := SL.at (i := i) r (by simpa using h)
    refine ⟨v, fo, fun a => f a + fr a, by simpa using h1, h2, fun a => by (try dsimp only at *); rw [h3 a]; omega, fun G' H' s k v' o' f' q' => ?_⟩
    obtain ⟨k', g1, g2⟩ := h5 G' H' s (fun a u z e => k a u (by (try dsimp only at *); omega) e) v' o' f' q'
    exact ⟨_, .val (q.mono s fun a u z e => k a u (by (try dsimp only at *); omega) e) g1, fun a => by (try dsimp only at *); rw [g2 a]; omega⟩
/-- a slot overwritten, whatever it held -/
theorem SL.put {G H : Hp} : ∀ {vs : List (Option V)} {os : List (Option OD)} {f : FP} (i : Nat), SL K G H vs os f → i < os.length →
    ∃ fr, (∀ a, fr a ≤ f a) ∧ (∀ vv, SL K G H (vs.set i vv) (os.set i none) fr) ∧ (∀ v' o' f', RO K G H v' o' f' → ∃ g, SL K G H (vs.set i (some v')) (os.set i (some o')) g ∧ ∀ a, g a = f' a + fr a)
  | _, _, _, i, .nil, h => by simp at h
  | _, _, _, 0, .un (f := f) r, _ => ⟨f, fun _ => Nat.le_refl _, fun vv => .un r, fun v' o' f' q => ⟨_, .val q r, fun _ => rfl⟩⟩
  | _, _, _, 0, .val (f := f) (g := g) q r, _ => ⟨g, fun a => by (try dsimp only at *); omega, fun vv => .un r, fun v' o' f' q' => ⟨_, .val q' r, fun _ => rfl⟩⟩
  | _, _, _, i + 1, .un r, h => by
    obtain ⟨fr, h1, h4, h5⟩ := SL.put i r (by simpa using h)
    exact ⟨fr, h1, fun vv => .un (h4 vv), fun v' o' f' q => by
      obtain ⟨g, g1, g2⟩ := h5 v' o' f' q
      exact ⟨g, .un g1, g2⟩⟩
  | _, _, _, i + 1, .val (f := f) (g := g) q r, h => by
    obtain ⟨fr, h1, h4, h5⟩ := SL.put i r (by simpa using h)
    refine ⟨fun a => f a + fr a, fun a => by have := h1 a; (try dsimp only at *); omega, fun vv => .val q (h4 vv), fun v' o' f' q' => ?_⟩
    obtain ⟨k, g1, g2⟩ := h5 v' o' f' q'
    exact ⟨_, .val q g1, fun a => by (try dsimp only at *); rw [g2 a]; omega⟩
theorem SL.app {G H : Hp} : ∀ {vs ws : List (Option V)} {os ps : List (Option OD)} {f g : FP}, SL K G H vs os f → SL K G H ws ps g → ∃ k, SL K G H (vs ++ ws) (os ++ ps) k ∧ ∀ a, k a = f a + g a
  | _, _, _, _, _, g, .nil, h => ⟨g, h, fun a => by (try dsimp only at *); omega⟩
  | _, _, _, _, _, g, .un r, q => by
    obtain ⟨k, h1, h2⟩ := SL.app r q
    exact ⟨k, .un h1, h2⟩
  | _, _, _, _, _, g, .val (f := f₁) (g := f₂) h r, q => by
    obtain ⟨k, h1, h2⟩ := SL.app r q
    exact ⟨_, .val h h1, fun a => by (try dsimp only); rw [h2]; omega⟩
theorem SL.cut {G H : Hp} : ∀ {vs ws : List (Option V)} {os ps : List (Option OD)} {f : FP}, vs.length = os.length → SL K G H (vs ++ ws) (os ++ ps) f → ∃ g k, SL K G H vs os g ∧ SL K G H ws ps k ∧ ∀ a, f a = g a + k a
  | [], _, [], _, f, _, h => ⟨fun _ => 0, f, .nil, h, fun a => by (try dsimp only at *); omega⟩
  | [], _, _ :: _, _, _, e, _ => by simp at e
  | _ :: _, _, [], _, _, e, _ => by simp at e
  | v :: vs, ws, o :: os, ps, f, e, h => by
    have e' : vs.length = os.length := by simpa using e
    cases h with
    | un r =>
      obtain ⟨g, k, h1, h2, h3⟩ := SL.cut e' r
      exact ⟨g, k, .un h1, h2, h3⟩
    | val q r =>
      obtain ⟨g, k, h1, h2, h3⟩ := SL.cut e' r
      exact ⟨_, k, .val q h1, h2, fun a => by (try dsimp only at *); rw [h3 a]; omega⟩
end

/-- the code object and the table of a def of the top without defaults -/
def tabND (K : PySem.W.Frag) (x : Str) : Option (Addr × Addr) := match PySem.W.nsIn K mainGlobals x with
  | some (some (.ref f)) => (match K.lookup f with
    | some ⟨_, _, .func fd, _⟩ => (match fd.defaults, fd.code with
      | .none, .ref c => (match K.lookup c with
        | some ⟨_, _, .fields vs, _⟩ => (match (vs[11]? : Option Value) with
          | some (.ref P) => some (c, P)
          | _ => none)
        | _ => none)
      | _, _ => none)
    | _ => none)
  | _ => none
def TbK (K : PySem.W.Frag) (P : Addr) : Prop := ∃ x c, tabND K x = some (c, P)
/-- the tables of the code objects are no shared thing, and in order -/
structure TkOk (K : PySem.W.Frag) (G H : Hp) : Prop where
  no : ∀ P ps, G P ≠ some (.tbl ps)
  ok : ∀ P (ps : Array Value), H P = some (.tbl ps) → TriplesOk ps.toList
  tab : ∀ P, TbK K P → ∃ ps, H P = some (.tbl ps)
section
variable {K : PySem.W.Frag}
theorem TkOk.putH {G H : Hp} {p : Addr} {o : HO} (t : TkOk K G H) (hp : ∀ ps, H p ≠ some (.tbl ps)) (h : ∀ ps, o ≠ .tbl ps) : TkOk K G (upd H p o) := ⟨t.no, fun P ps e => by
  by_cases q : P = p
  · subst q; rw [upd_same] at e; cases e; exact absurd rfl (h _)
  · rw [upd_ne q] at e; exact t.ok P ps e, fun P hP => by
  obtain ⟨ps, e⟩ := t.tab P hP
  exact ⟨ps, by rw [upd_ne (fun q => hp ps (by rw [← q]; exact e))]; exact e⟩⟩
theorem TkOk.putG {G H : Hp} {p : Addr} {o : HO} (t : TkOk K G H) (h : ∀ ps, o ≠ .tbl ps) : TkOk K (upd G p o) H := ⟨fun P ps e => by
  by_cases q : P = p
  · subst q; rw [upd_same] at e; cases e; exact absurd rfl (h _)
  · rw [upd_ne q] at e; exact t.no P ps e, t.ok, t.tab⟩
theorem TkOk.lst {G H : Hp} {p : Addr} {xs : List V} (t : TkOk K G H) (hp : H p = none) : TkOk K G (upd H p (.lst xs)) := t.putH (fun ps z => by rw [hp] at z; cases z) fun _ z => HO.noConfusion z
theorem TkOk.lst' {G H : Hp} {p : Addr} {xs ys : List V} (t : TkOk K G H) (hp : H p = some (.lst ys)) : TkOk K G (upd H p (.lst xs)) := t.putH (fun ps z => by rw [hp] at z; cases z) fun _ z => HO.noConfusion z
theorem TkOk.tup {G H : Hp} {p : Addr} {xs : List V} (t : TkOk K G H) (hp : H p = none) : TkOk K (upd G p (.tup xs)) (upd H p (.tup xs)) := (t.putH (o := .tup xs) (fun ps z => by rw [hp] at z; cases z) fun _ z => HO.noConfusion z).putG fun _ z => HO.noConfusion z
end
/-- the state: G the shared part of the heap H -/
structure SI (K : PySem.W.Frag) (G H : Hp) (vs : List (Option V)) (os : List (Option OD)) (f : FP) : Prop where
  sl : SL K G H vs os f
  sub : Sub G H
  one : ∀ a, f a ≤ 1
  hid : ∀ a, f a ≠ 0 → G a = none
  tk : TkOk K G H
/-- how the state goes on -/
structure Stp (G H : Hp) (f : FP) (G' H' : Hp) (f' : FP) : Prop where
  gsub : Sub G G'
  keep : ∀ a xs, H a = some (.lst xs) → f a = 0 → H' a = some (.lst xs)
  dom : ∀ a, H a ≠ none → H' a ≠ none
  gnew : ∀ a, G' a ≠ none → G a ≠ none ∨ H a = none ∨ f a ≠ 0
  fnew : ∀ a, f' a ≠ 0 → f a ≠ 0 ∨ H a = none
theorem Stp.refl (G H : Hp) (f : FP) : Stp G H f G H f := ⟨Sub.refl _, fun _ _ h _ => h, fun _ h => h, fun _ h => .inl h, fun _ h => .inl h⟩
theorem Stp.trans {G H G1 H1 G2 H2 : Hp} {f f1 f2 : FP} (a : Stp G H f G1 H1 f1) (b : Stp G1 H1 f1 G2 H2 f2) : Stp G H f G2 H2 f2 where
  gsub := a.gsub.trans b.gsub
  keep := fun x o h z => b.keep x o (a.keep x o h z) (by
    by_cases e : f1 x = 0
    · exact e
    · rcases a.fnew x e with q | q
      · exact absurd z q
      · rw [q] at h; cases h)
  dom := fun x h => b.dom x (a.dom x h)
  gnew := fun x h => by
    rcases b.gnew x h with q | q | q
    · exact a.gnew x q
    · by_cases e : H x = none
      · exact .inr (.inl e)
      · exact absurd q (a.dom x e)
    · rcases a.fnew x q with r | r
      · exact .inr (.inr r)
      · exact .inr (.inl r)
  fnew := fun x h => by
    rcases b.fnew x h with q | q
    · exact a.fnew x q
    · by_cases e : H x = none
      · exact .inr e
      · exact absurd q (a.dom x e)
/-- less is owned -/
theorem Stp.less {G H : Hp} {f f' : FP} (h : ∀ a, f' a ≤ f a) : Stp G H f G H f' := ⟨Sub.refl _, fun _ _ h _ => h, fun _ h => h, fun _ h => .inl h, fun a q => .inl (by have := h a; omega)⟩

section
variable {K : PySem.W.Frag} {G H : Hp} {vs : List (Option V)} {os : List (Option OD)} {f : FP}
theorem SI.live (I : SI K G H vs os f) : ∀ a, f a ≠ 0 → H a ≠ none := I.sl.live
/-- a shared value comes onto the stack -/
theorem SI.push (I : SI K G H vs os f) {v : V} {d : PyData} (h : Dx K G v d) : SI K G H (vs ++ [some v]) (os ++ [some (.sh d)]) f := by
  obtain ⟨k, h1, h2⟩ := SL.app I.sl (SL.val (RO.sh (H := H) h) .nil)
  exact ⟨h1.congr fun a => by rw [h2]; rfl, I.sub, I.one, I.hid, I.tk⟩
/-- nothing is said of a value -/
theorem SI.pushN (I : SI K G H vs os f) (v : Option V) : SI K G H (vs ++ [v]) (os ++ [none]) f := by
  obtain ⟨k, h1, h2⟩ := SL.app I.sl (SL.un (v := v) .nil)
  exact ⟨h1.congr fun a => by rw [h2]; rfl, I.sub, I.one, I.hid, I.tk⟩
theorem SI.forget (I : SI K G H vs os f) {f' : FP} {vs' : List (Option V)} {os' : List (Option OD)} (h : SL K G H vs' os' f') (le : ∀ a, f' a ≤ f a) : SI K G H vs' os' f' :=
  ⟨h, I.sub, fun a => Nat.le_trans (le a) (I.one a), fun a q => I.hid a (by have := le a; omega), I.tk⟩
/-- what is shared more: the addresses where D says so -/
noncomputable def ext (G H : Hp) (D : FP) : Hp := fun a => if D a ≠ 0 then H a else G a
theorem sub_ext (I : Sub G H) {D : FP} (hid : ∀ a, D a ≠ 0 → G a = none) : Sub G (ext G H D) := fun a o e => by
  unfold ext
  rw [if_neg (fun q => by rw [hid a q] at e; cases e)]; exact e
theorem ext_sub (I : Sub G H) {D : FP} : Sub (ext G H D) H := fun a o e => by
  unfold ext at e
  split at e
  · exact e
  · exact I a o e
theorem set_id {α : Type} {l : List α} {i : Nat} {x : α} (h : l[i]? = some x) : l.set i x = l := by
  apply List.ext_getElem?
  intro j
  by_cases e : i = j
  · subst e
    rw [List.getElem?_set_self (by
      rcases Nat.lt_or_ge i l.length with q | q
      · exact q
      · rw [List.getElem?_eq_none q] at h; cases h)]
    exact h.symm
  · rw [List.getElem?_set_ne e]
theorem TkOk.ext {G H : Hp} {D : FP} (t : TkOk K G H) (h : ∀ a, D a ≠ 0 → ∃ xs, H a = some (.lst xs)) : TkOk K (ext G H D) H := ⟨fun P ps e => by
  unfold DX.ext at e
  split at e
  · rename_i q
    obtain ⟨xs, e2⟩ := h P q
    rw [e2] at e; cases e
  · exact t.no P ps e, t.ok, t.tab⟩
/-- the i-th is made shared -/
theorem SI.freeze (I : SI K G H vs os f) {i : Nat} {o : OD} (h : os[i]? = some (some o)) :
    ∃ G' f', SI K G' H vs (os.set i (some (.sh o.er))) f' ∧ Stp G H f G' H f' ∧ ∃ v, vs[i]? = some (some v) ∧ Dx K G' v o.er := by
  obtain ⟨v, fo, fr, h1, h2, h3, h5⟩ := I.sl.at h
  have hidD : ∀ a, fo a ≠ 0 → G a = none := fun a q => I.hid a (by rw [h3]; omega)
  have s1 : Sub G (ext G H fo) := sub_ext I.sub hidD
  have s2 : Sub (ext G H fo) H := ext_sub I.sub
  have hd : Dx K (ext G H fo) v o.er := h2.frz s1 fun a u q e => by unfold ext; rw [if_pos q]; exact e
  obtain ⟨g, g1, g2⟩ := h5 (ext G H fo) H s1 (fun a u _ e => e) v (.sh o.er) _ (.sh hd)
  rw [set_id h1] at g1
  refine ⟨ext G H fo, g, ⟨g1, s2, fun a => ?_, fun a q => ?_, ?_⟩, ⟨s1, fun _ _ e _ => e, fun _ e => e, fun a q => ?_, fun a q => .inl ?_⟩, v, h1, hd⟩
  · rw [g2 a]; have := I.one a; rw [h3 a] at this; omega
  · rw [g2 a] at q
    have q1 : fo a = 0 := by have := I.one a; rw [h3 a] at this; omega
    unfold ext; rw [if_neg (by omega)]
    exact I.hid a (by rw [h3]; omega)
  · exact I.tk.ext h2.isl
  · unfold ext at q
    split at q
    · rename_i r; exact .inr (.inr (by rw [h3]; omega))
    · exact .inl q
  · rw [g2 a] at q; rw [h3]; omega
/-- any slot is read as data of the heap -/
theorem RO.rd (s : Sub G H) {v : V} {o : OD} {fo : FP} (h : RO K G H v o fo) : Dx K H v o.er := h.frz s fun _ _ _ e => e
theorem SI.rd (I : SI K G H vs os f) {i : Nat} {o : OD} (h : os[i]? = some (some o)) : ∃ v, vs[i]? = some (some v) ∧ Dx K H v o.er := by
  obtain ⟨v, fo, fr, h1, h2, _⟩ := I.sl.at h
  exact ⟨v, h1, h2.rd I.sub⟩
/-- the last is dropped -/
theorem SI.pop {x : Option V} {y : Option OD} (I : SI K G H (vs ++ [x]) (os ++ [y]) f) (hl : vs.length = os.length) : ∃ f', SI K G H vs os f' ∧ ∀ a, f' a ≤ f a := by
  obtain ⟨g, k, h1, _, h3⟩ := SL.cut hl I.sl
  exact ⟨g, I.forget h1 fun a => by rw [h3]; omega, fun a => by rw [h3]; omega⟩
/-- the last is taken off -/
theorem SI.last {x : Option V} {o : OD} (I : SI K G H (vs ++ [x]) (os ++ [some o]) f) (hl : vs.length = os.length) : ∃ v fo fr, x = some v ∧ RO K G H v o fo ∧ SL K G H vs os fr ∧ ∀ a, f a = fr a + fo a := by
  obtain ⟨g, k, h1, h2, h3⟩ := SL.cut hl I.sl
  cases h2 with
  | val q r =>
    cases r
    exact ⟨_, _, g, rfl, q, h1, fun a => by rw [h3]; rfl⟩
/-- the heap goes on with what G and f hold as it stands -/
theorem SI.grow (I : SI K G H vs os f) {H' : Hp} (s : Sub G H') (k : ∀ a xs, H a = some (.lst xs) → H' a = some (.lst xs)) (t : TkOk K G H') : SI K G H' vs os f :=
  ⟨I.sl.mono (Sub.refl _) fun a _ _ e => k a _ e, s, I.one, I.hid, t⟩
/-- a new list, its items as they are owned -/
theorem SI.pushL (I : SI K G H vs os f) {xs : List V} {ys : List OD} {g h : FP} (q : ROs K G H xs ys g) (hs : SL K G H vs os h) (hf : ∀ a, f a = h a + g a) {p : Addr} (hp : H p = none) :
    ∃ f', SI K G (upd H p (.lst xs)) (vs ++ [some (.ref p)]) (os ++ [some (.lst ys)]) f' ∧ Stp G H f G (upd H p (.lst xs)) f' := by
  have sb : Sub H (upd H p (.lst xs)) := sub_upd (Sub.refl _) hp
  have hfp : f p = 0 := by
    by_cases e : f p = 0
    · exact e
    · exact absurd hp (I.live p e)
  have r : RO K G (upd H p (.lst xs)) (.ref p) (.lst ys) _ := .lst upd_same (q.mono (Sub.refl _) fun a _ _ e => sb a _ e)
  obtain ⟨k, k1, k2⟩ := SL.app (hs.mono (Sub.refl _) fun a _ _ e => sb a _ e) (SL.val r .nil)
  refine ⟨k, ⟨k1, I.sub.trans sb, fun a => ?_, fun a z => ?_, I.tk.lst hp⟩, ⟨Sub.refl _, fun a o e _ => sb a _ e, fun a e => ?_, fun a e => .inl e, fun a z => ?_⟩⟩
  · rw [k2]; (try dsimp only)
    have := I.one a; rw [hf] at this
    by_cases e : a = p
    · subst e; rw [hf] at hfp; rw [if_pos rfl]; omega
    · rw [if_neg e]; omega
  · rw [k2] at z; (try dsimp only at z)
    by_cases e : a = p
    · subst e
      cases hg : G a with
      | none => rfl
      | some u => have := I.sub a u hg; rw [hp] at this; cases this
    · rw [if_neg e] at z
      exact I.hid a (by rw [hf]; omega)
  · cases e' : H a with
    | none => exact absurd e' e
    | some u => rw [sb a u e']; simp
  · rw [k2] at z; (try dsimp only at z)
    by_cases e : a = p
    · subst e; exact .inr hp
    · rw [if_neg e] at z
      exact .inl (by rw [hf]; omega)
theorem SI.pushNew (I : SI K G H vs os f) {xs : List V} {ds : List PyData} (q : DxAll K G xs ds) {p : Addr} (hp : H p = none) :
    ∃ f', SI K G (upd H p (.lst xs)) (vs ++ [some (.ref p)]) (os ++ [some (.lst (ds.map OD.sh))]) f' ∧ Stp G H f G (upd H p (.lst xs)) f' :=
  I.pushL (ROs.of_dps q) I.sl (fun _ => rfl) hp
/-- a new tuple of shared things -/
theorem SI.pushTup (I : SI K G H vs os f) {xs : List V} {ds : List PyData} (q : DxAll K G xs ds) {p : Addr} (hp : H p = none) :
    SI K (upd G p (.tup xs)) (upd H p (.tup xs)) (vs ++ [some (.ref p)]) (os ++ [some (.sh (.tuple ds))]) f ∧ Stp G H f (upd G p (.tup xs)) (upd H p (.tup xs)) f := by
  have gp : G p = none := by
    cases hg : G p with
    | none => rfl
    | some u => have := I.sub p u hg; rw [hp] at this; cases this
  have sg : Sub G (upd G p (.tup xs)) := sub_upd (Sub.refl _) gp
  have sb : Sub H (upd H p (.tup xs)) := sub_upd (Sub.refl _) hp
  have hfp : f p = 0 := by
    by_cases e : f p = 0
    · exact e
    · exact absurd hp (I.live p e)
  have J : SI K (upd G p (.tup xs)) (upd H p (.tup xs)) vs os f := ⟨I.sl.mono sg fun a _ _ e => sb a _ e, sub_upd2 I.sub, I.one, fun a q => by
    rw [upd_ne (fun e => by subst e; exact q hfp)]; exact I.hid a q, I.tk.tup hp⟩
  refine ⟨J.push (.tup (SqT.of upd_same) (dps_sub sg q)), ⟨sg, fun a o e _ => sb a _ e, fun a e => ?_, fun a e => ?_, fun a z => .inl z⟩⟩
  · cases e' : H a with
    | none => exact absurd e' e
    | some u => rw [sb a u e']; simp
  · by_cases z : a = p
    · subst z; exact .inr (.inl hp)
    · rw [upd_ne z] at e; exact .inl e
end
end DX
/-! DXEval: a small language of data, and what its expressions are worth. -/
namespace DX
open PySem PySem.Spec PyProof.Rows L2

inductive RV where
  | al (i : Nat)
  | tm (o : OD)
abbrev En := List (Option OD)
def RV.od : RV → Option OD
  | .al _ => none
  | .tm o => some o
def RV.rd (os : En) : RV → Option PyData
  | .al i => match os[i]? with
    | some (some o) => some o.er
    | _ => none
  | .tm o => some o.er
def rdAll (os : En) : List RV → Option (List PyData)
  | [] => some []
  | r :: rs => match r.rd os, rdAll os rs with
    | some d, some ds => some (d :: ds)
    | _, _ => none
def isSc : PyData → Bool
  | .none | .bool _ | .int _ | .str _ => true
  | _ => false
def OD.isSh : OD → Bool
  | .sh _ => true
  | _ => false
/-- nothing owned within -/
def OD.flat : OD → Bool
  | .sh _ => true
  | .lst xs => xs.all OD.isSh
  | .tpl _ => false
/-- a slot that owns lists within its list is made shared -/
def soft (os : En) : RV → En
  | .al i => match os[i]? with
    | some (some o) => if o.flat then os else os.set i (some (.sh o.er))
    | _ => os
  | .tm _ => os
def softAll (os : En) : List RV → En
  | [] => os
  | r :: rs => softAll (soft os r) rs
/-- a slot made shared whatever it holds -/
def hard (os : En) : RV → En
  | .al i => match os[i]? with
    | some (some (.lst xs)) => os.set i (some (.sh (OD.lst xs).er))
    | some (some (.tpl xs)) => os.set i (some (.sh (OD.tpl xs).er))
    | _ => os
  | .tm _ => os
def hardAll (os : En) : List RV → En
  | [] => os
  | r :: rs => hardAll (hard os r) rs

/-- what an operation gives: a value (shared, or a scalar), a new list, a new tuple -/
inductive Op where
  | val (d : PyData)
  | nl (ds : List PyData)
  | nt (ds : List PyData)

def isInt? : PyData → Option Int
  | .int i => some i
  | _ => none

section
variable {K : PySem.W.Frag} {G H : Hp}
/-- a value whose topmost list may be owned -/
inductive DpW (K : PySem.W.Frag) (G H : Hp) : V → PyData → Prop
  | sh {v : V} {d : PyData} : Dx K G v d → DpW K G H v d
  | own {p : Addr} {vs : List V} {ds : List PyData} : H p = some (.lst vs) → DxAll K G vs ds → DpW K G H (.ref p) (.list ds)
inductive DpWs (K : PySem.W.Frag) (G H : Hp) : List V → List PyData → Prop
  | nil : DpWs K G H [] []
  | cons {v : V} {d : PyData} {vs : List V} {ds : List PyData} : DpW K G H v d → DpWs K G H vs ds → DpWs K G H (v :: vs) (d :: ds)
theorem DpW.dx (s : Sub G H) {v : V} {d : PyData} : DpW K G H v d → Dx K H v d
  | .sh h => dp_sub s h
  | .own h r => .lst (.inl (.inl h)) (dps_sub s r)
theorem DpWs.dx (s : Sub G H) : ∀ {vs : List V} {ds : List PyData}, DpWs K G H vs ds → DxAll K H vs ds
  | _, _, .nil => .nil
  | _, _, .cons h r => .cons (h.dx s) (DpWs.dx s r)
theorem DpW.mono {G' : Hp} (g : Sub G G') {v : V} {d : PyData} : DpW K G H v d → DpW K G' H v d
  | .sh h => .sh (dp_sub g h)
  | .own h r => .own h (dps_sub g r)
theorem DpWs.mono {G' : Hp} (g : Sub G G') : ∀ {vs : List V} {ds : List PyData}, DpWs K G H vs ds → DpWs K G' H vs ds
  | _, _, .nil => .nil
  | _, _, .cons h r => .cons (h.mono g) (DpWs.mono g r)
theorem DpWs.of : ∀ {vs : List V} {ds : List PyData}, DxAll K G vs ds → DpWs K G H vs ds
  | _, _, .nil => .nil
  | _, _, .cons h r => .cons (.sh h) (DpWs.of r)
/-- scalars are the same in every heap -/
theorem dp_sc {v : V} {d : PyData} {H' : Hp} (h : Dx K H v d) (e : isSc d = true) : Dx K H' v d := by
  cases h <;> first | (cases e; done) | (constructor; done) | (constructor; assumption)
theorem dps_sc {H' : Hp} : ∀ {vs : List V} {ds : List PyData}, DxAll K H vs ds → ds.all isSc = true → DxAll K H' vs ds
  | _, _, .nil, _ => .nil
  | _, _, .cons h r, e => by
    simp only [List.all_cons, Bool.and_eq_true] at e
    exact .cons (dp_sc h e.1) (dps_sc r e.2)

def RV.alias (σ : L2.St) (v : V) : RV → Prop
  | .al i => σ[i]? = some (some v)
  | .tm _ => True
inductive Als (σ : L2.St) : List V → List RV → Prop
  | nil : Als σ [] []
  | cons {v : V} {r : RV} {vs : List V} {rs : List RV} : r.alias σ v → Als σ vs rs → Als σ (v :: vs) (r :: rs)
theorem Als.len {σ : L2.St} : ∀ {vs : List V} {rs : List RV}, Als σ vs rs → vs.length = rs.length
  | _, _, .nil => rfl
  | _, _, .cons _ r => by simp [Als.len r]
theorem Als.app {σ : L2.St} : ∀ {vs ws : List V} {rs qs : List RV}, Als σ vs rs → Als σ ws qs → Als σ (vs ++ ws) (rs ++ qs)
  | _, _, _, _, .nil, h => h
  | _, _, _, _, .cons a r, h => .cons a (Als.app r h)

/-- all operands read -/
theorem rd_all {os : En} {σ : L2.St} {g : FP} (hs : Sub G H) (ha : ∀ (i : Nat) (o : OD), os[i]? = some (some o) → ∃ v, σ[i]? = some (some v) ∧ Dx K H v o.er) : ∀ {vs : List V} {rs : List RV} {ds : List PyData} {g : FP},
    Als σ vs rs → SL K G H (vs.map some) (rs.map RV.od) g → rdAll os rs = some ds → DxAll K H vs ds
  | _, _, _, _, .nil, _, e => by
    simp [rdAll] at e; subst e; exact .nil
  | v :: vs, r :: rs, ds, g, .cons a q, s, e => by
    unfold rdAll at e
    split at e
    · rename_i d ds' e1 e2
      cases e
      cases r with
      | al i =>
        have e1 : (match os[i]? with | some (some o) => some o.er | _ => none) = some d := e1
        split at e1
        · rename_i o e3
          cases e1
          obtain ⟨v', h1, h2⟩ := ha i o e3
          have a : σ[i]? = some (some v) := a
          rw [a] at h1; cases h1
          cases s with
          | un s => exact .cons h2 (rd_all (g := g) hs ha q s e2)
        · cases e1
      | tm o =>
        have e1 : some o.er = some d := e1
        cases e1
        cases s with
        | val h s => exact .cons (h.rd hs) (rd_all (g := g) hs ha q s e2)
    · cases e

/-- the last part of the stack is made shared and taken off -/
theorem SL.frz {G' : Hp} (g : Sub G G') : ∀ {vs : List (Option V)} {os : List (Option OD)} {f : FP}, SL K G H vs os f → (∀ a xs, f a ≠ 0 → H a = some (.lst xs) → G' a = some (.lst xs)) →
    ∀ (j : Nat) (o : OD), os[j]? = some (some o) → ∃ v, vs[j]? = some (some v) ∧ Dx K G' v o.er
  | _, _, _, .nil, _, j, o, e => by simp at e
  | _, _, _, .un r, k, 0, o, e => by simp at e
  | _, _, _, .un r, k, j + 1, o, e => SL.frz g r k j o (by simpa using e)
  | _, _, _, .val (v := v) q r, k, 0, o, e => by
    simp at e; subst e
    exact ⟨v, rfl, q.frz g fun a u z h => k a u (by (try dsimp only); omega) h⟩
  | _, _, _, .val q r, k, j + 1, o, e => SL.frz g r (fun a u z h => k a u (by (try dsimp only); omega) h) j o (by simpa using e)
theorem SI.tail {A B : List (Option V)} {a b : En} {f : FP} (I : SI K G H (A ++ B) (a ++ b) f) (hl : A.length = a.length) :
    ∃ G' f', SI K G' H A a f' ∧ Stp G H f G' H f' ∧ (∀ (j : Nat) (o : OD), b[j]? = some (some o) → ∃ v, B[j]? = some (some v) ∧ Dx K G' v o.er) := by
  obtain ⟨g, k, h1, h2, h3⟩ := SL.cut hl I.sl
  have hidD : ∀ x, k x ≠ 0 → G x = none := fun x q => I.hid x (by rw [h3]; omega)
  have s1 : Sub G (ext G H k) := sub_ext I.sub hidD
  have s2 : Sub (ext G H k) H := ext_sub I.sub
  refine ⟨ext G H k, g, ⟨h1.mono s1 fun x u _ e => e, s2, fun x => ?_, fun x q => ?_, I.tk.ext h2.isl⟩, ⟨s1, fun _ _ e _ => e, fun _ e => e, fun x q => ?_, fun x q => .inl ?_⟩, ?_⟩
  · have := I.one x; rw [h3 x] at this; omega
  · have q1 : k x = 0 := by have := I.one x; rw [h3 x] at this; omega
    unfold ext; rw [if_neg (by omega)]
    exact I.hid x (by rw [h3]; omega)
  · unfold ext at q
    split at q
    · rename_i r; exact .inr (.inr (by rw [h3]; omega))
    · exact .inl q
  · rw [h3]; omega
  · exact h2.frz s1 fun x u z e => by unfold ext; rw [if_pos z]; exact e
theorem len_soft (os : En) (r : RV) : (soft os r).length = os.length := by
  cases r with
  | tm o => rfl
  | al i =>
    show (match os[i]? with | some (some o) => if o.flat then os else os.set i (some (.sh o.er)) | _ => os).length = _
    split
    · split
      · rfl
      · rw [List.length_set]
    · rfl
theorem len_softAll : ∀ (rs : List RV) (os : En), (softAll os rs).length = os.length
  | [], _ => rfl
  | r :: rs, os => by show (softAll (soft os r) rs).length = _; rw [len_softAll rs, len_soft]
theorem len_hard (os : En) (r : RV) : (hard os r).length = os.length := by
  cases r with
  | tm o => rfl
  | al i =>
    show (match os[i]? with | some (some (.lst xs)) => os.set i (some (.sh (OD.lst xs).er)) | some (some (.tpl xs)) => os.set i (some (.sh (OD.tpl xs).er)) | _ => os).length = _
    split
    · rw [List.length_set]
    · rw [List.length_set]
    · rfl
theorem len_hardAll : ∀ (rs : List RV) (os : En), (hardAll os rs).length = os.length
  | [], _ => rfl
  | r :: rs, os => by show (hardAll (hard os r) rs).length = _; rw [len_hardAll rs, len_hard]

theorem set_app {α : Type} {l r : List α} {i : Nat} {x : α} (h : i < l.length) : (l ++ r).set i x = l.set i x ++ r := by
  rw [List.set_append]; simp [h]
theorem get_app {α : Type} {l r : List α} {i : Nat} (h : i < l.length) : (l ++ r)[i]? = l[i]? := by
  rw [List.getElem?_append_left h]
theorem lt_of_get {α : Type} {l : List α} {i : Nat} {x : α} (h : l[i]? = some x) : i < l.length := by
  rcases Nat.lt_or_ge i l.length with q | q
  · exact q
  · rw [List.getElem?_eq_none q] at h; cases h
/-- a slot ahead is made shared -/
theorem SI.fz {vs : List (Option V)} {os θ : En} {f : FP} (I : SI K G H vs (os ++ θ) f) {i : Nat} {o : OD} (h : os[i]? = some (some o)) :
    ∃ G' f', SI K G' H vs (os.set i (some (.sh o.er)) ++ θ) f' ∧ Stp G H f G' H f' := by
  have hi := lt_of_get h
  obtain ⟨G', f', h1, h2, _⟩ := I.freeze (i := i) (o := o) (by rw [get_app hi]; exact h)
  exact ⟨G', f', by rw [← set_app hi]; exact h1, h2⟩
theorem SI.soft {vs : List (Option V)} {os θ : En} {f : FP} (I : SI K G H vs (os ++ θ) f) (r : RV) : ∃ G' f', SI K G' H vs (soft os r ++ θ) f' ∧ Stp G H f G' H f' := by
  cases r with
  | tm o => exact ⟨G, f, I, Stp.refl _ _ _⟩
  | al i =>
    show ∃ G' f', SI K G' H vs ((match os[i]? with | some (some o) => if o.flat then os else os.set i (some (.sh o.er)) | _ => os) ++ θ) f' ∧ _
    split
    · rename_i o e
      split
      · exact ⟨G, f, I, Stp.refl _ _ _⟩
      · exact I.fz e
    · exact ⟨G, f, I, Stp.refl _ _ _⟩
theorem SI.softs {vs : List (Option V)} {θ : En} : ∀ (rs : List RV) {G : Hp} {os : En} {f : FP}, SI K G H vs (os ++ θ) f → ∃ G' f', SI K G' H vs (softAll os rs ++ θ) f' ∧ Stp G H f G' H f'
  | [], G, os, f, I => ⟨G, f, I, Stp.refl _ _ _⟩
  | r :: rs, G, os, f, I => by
    obtain ⟨G1, f1, h1, h2⟩ := I.soft r
    obtain ⟨G2, f2, h3, h4⟩ := SI.softs rs h1
    exact ⟨G2, f2, h3, h2.trans h4⟩
theorem SI.hard {vs : List (Option V)} {os θ : En} {f : FP} (I : SI K G H vs (os ++ θ) f) (r : RV) : ∃ G' f', SI K G' H vs (hard os r ++ θ) f' ∧ Stp G H f G' H f' := by
  cases r with
  | tm o => exact ⟨G, f, I, Stp.refl _ _ _⟩
  | al i =>
    show ∃ G' f', SI K G' H vs ((match os[i]? with | some (some (.lst xs)) => os.set i (some (.sh (OD.lst xs).er)) | some (some (.tpl xs)) => os.set i (some (.sh (OD.tpl xs).er)) | _ => os) ++ θ) f' ∧ _
    split
    · rename_i xs e
      exact I.fz e
    · rename_i xs e
      exact I.fz e
    · exact ⟨G, f, I, Stp.refl _ _ _⟩
theorem SI.hards {vs : List (Option V)} {θ : En} : ∀ (rs : List RV) {G : Hp} {os : En} {f : FP}, SI K G H vs (os ++ θ) f → ∃ G' f', SI K G' H vs (hardAll os rs ++ θ) f' ∧ Stp G H f G' H f'
  | [], G, os, f, I => ⟨G, f, I, Stp.refl _ _ _⟩
  | r :: rs, G, os, f, I => by
    obtain ⟨G1, f1, h1, h2⟩ := I.hard r
    obtain ⟨G2, f2, h3, h4⟩ := SI.hards rs h1
    exact ⟨G2, f2, h3, h2.trans h4⟩

theorem isSh_er {d : PyData} {xs : List OD} (h : xs.all OD.isSh = true) {vs : List V} {f : FP} (r : ROs K G H vs xs f) : DxAll K G vs (OD.ers xs) := by
  induction xs generalizing vs f with
  | nil => cases r; exact .nil
  | cons x xs ih =>
    simp only [List.all_cons, Bool.and_eq_true] at h
    cases r with
    | cons a b =>
      cases a with
      | sh a => exact .cons a (ih h.2 b)
      | lst _ _ => cases h.1
      | tpl _ _ => cases h.1
theorem RO.w {v : V} {o : OD} {f : FP} (h : RO K G H v o f) (e : o.flat = true) : DpW K G H v o.er := by
  cases h with
  | sh h => exact .sh h
  | lst h r => exact .own h (isSh_er (d := .none) e r)
  | tpl _ _ => cases e
theorem flat_sh (d : PyData) : (OD.sh d).flat = true := rfl
theorem soft_get {os : En} {r : RV} {i : Nat} {o : OD} (h : os[i]? = some (some o)) : ∃ o', (soft os r)[i]? = some (some o') ∧ o'.er = o.er ∧ (o.flat = true → o'.flat = true) := by
  cases r with
  | tm _ => exact ⟨o, h, rfl, id⟩
  | al j =>
    show ∃ o', (match os[j]? with | some (some o) => if o.flat then os else os.set j (some (.sh o.er)) | _ => os)[i]? = some (some o') ∧ _
    split
    · rename_i o2 e2
      split
      · exact ⟨o, h, rfl, id⟩
      · by_cases e : j = i
        · subst e
          rw [h] at e2; cases e2
          exact ⟨.sh o.er, by rw [List.getElem?_set_self (lt_of_get h)], rfl, fun _ => rfl⟩
        · exact ⟨o, by rw [List.getElem?_set_ne e]; exact h, rfl, id⟩
    · exact ⟨o, h, rfl, id⟩
theorem soft_al {os : En} {i : Nat} {o : OD} (h : os[i]? = some (some o)) : ∃ o', (soft os (.al i))[i]? = some (some o') ∧ o'.er = o.er ∧ o'.flat = true := by
  show ∃ o', (match os[i]? with | some (some o) => if o.flat then os else os.set i (some (.sh o.er)) | _ => os)[i]? = some (some o') ∧ _
  rw [h]
  dsimp only
  split
  · rename_i e; exact ⟨o, h, rfl, e⟩
  · exact ⟨.sh o.er, by rw [List.getElem?_set_self (lt_of_get h)], rfl, rfl⟩
theorem softs_get : ∀ {rs : List RV} {os : En} {i : Nat} {o : OD}, os[i]? = some (some o) → ∃ o', (softAll os rs)[i]? = some (some o') ∧ o'.er = o.er ∧ (o.flat = true → o'.flat = true)
  | [], os, i, o, h => ⟨o, h, rfl, id⟩
  | r :: rs, os, i, o, h => by
    obtain ⟨o1, h1, h2, h3⟩ := soft_get (r := r) h
    obtain ⟨o2, k1, k2, k3⟩ := softs_get (rs := rs) h1
    exact ⟨o2, k1, k2.trans h2, fun z => k3 (h3 z)⟩
theorem softs_al : ∀ {rs : List RV} {os : En} {i : Nat} {o : OD}, os[i]? = some (some o) → RV.al i ∈ rs → ∃ o', (softAll os rs)[i]? = some (some o') ∧ o'.er = o.er ∧ o'.flat = true
  | r :: rs, os, i, o, h, m => by
    rcases List.mem_cons.mp m with e | e
    · subst e
      obtain ⟨o1, h1, h2, h3⟩ := soft_al h
      obtain ⟨o2, k1, k2, k3⟩ := softs_get (rs := rs) h1
      exact ⟨o2, k1, k2.trans h2, k3 h3⟩
    · obtain ⟨o1, h1, h2, _⟩ := soft_get (r := r) h
      obtain ⟨o2, k1, k2, k3⟩ := softs_al h1 e
      exact ⟨o2, k1, k2.trans h2, k3⟩
theorem hard_get {os : En} {r : RV} {i : Nat} {o : OD} (h : os[i]? = some (some o)) : ∃ o', (hard os r)[i]? = some (some o') ∧ o'.er = o.er ∧ (o.isSh = true → o'.isSh = true) := by
  cases r with
  | tm _ => exact ⟨o, h, rfl, id⟩
  | al j =>
    show ∃ o', (match os[j]? with | some (some (.lst xs)) => os.set j (some (.sh (OD.lst xs).er)) | some (some (.tpl xs)) => os.set j (some (.sh (OD.tpl xs).er)) | _ => os)[i]? = some (some o') ∧ _
    split
    · rename_i o2 e2
      by_cases e : j = i
      · subst e
        rw [h] at e2; cases e2
        exact ⟨.sh _, by rw [List.getElem?_set_self (lt_of_get h)]; rfl, rfl, fun _ => rfl⟩
      · exact ⟨o, by rw [List.getElem?_set_ne e]; exact h, rfl, id⟩
    · rename_i o2 e2
      by_cases e : j = i
      · subst e
        rw [h] at e2; cases e2
        exact ⟨.sh _, by rw [List.getElem?_set_self (lt_of_get h)]; rfl, rfl, fun _ => rfl⟩
      · exact ⟨o, by rw [List.getElem?_set_ne e]; exact h, rfl, id⟩
    · exact ⟨o, h, rfl, id⟩
theorem hard_al {os : En} {i : Nat} {o : OD} (h : os[i]? = some (some o)) : ∃ o', (hard os (.al i))[i]? = some (some o') ∧ o'.er = o.er ∧ o'.isSh = true := by
  show ∃ o', (match os[i]? with | some (some (.lst xs)) => os.set i (some (.sh (OD.lst xs).er)) | some (some (.tpl xs)) => os.set i (some (.sh (OD.tpl xs).er)) | _ => os)[i]? = some (some o') ∧ _
  rw [h]
  cases o with
  | sh d => exact ⟨.sh d, h, rfl, rfl⟩
  | lst xs => exact ⟨.sh _, by rw [List.getElem?_set_self (lt_of_get h)]; rfl, rfl, rfl⟩
  | tpl xs => exact ⟨.sh _, by rw [List.getElem?_set_self (lt_of_get h)]; rfl, rfl, rfl⟩
theorem hards_get : ∀ {rs : List RV} {os : En} {i : Nat} {o : OD}, os[i]? = some (some o) → ∃ o', (hardAll os rs)[i]? = some (some o') ∧ o'.er = o.er ∧ (o.isSh = true → o'.isSh = true)
  | [], os, i, o, h => ⟨o, h, rfl, id⟩
  | r :: rs, os, i, o, h => by
    obtain ⟨o1, h1, h2, h3⟩ := hard_get (r := r) h
    obtain ⟨o2, k1, k2, k3⟩ := hards_get (rs := rs) h1
    exact ⟨o2, k1, k2.trans h2, fun z => k3 (h3 z)⟩
theorem hards_al : ∀ {rs : List RV} {os : En} {i : Nat} {o : OD}, os[i]? = some (some o) → RV.al i ∈ rs → ∃ o', (hardAll os rs)[i]? = some (some o') ∧ o'.er = o.er ∧ o'.isSh = true
  | r :: rs, os, i, o, h, m => by
    rcases List.mem_cons.mp m with e | e
    · subst e
      obtain ⟨o1, h1, h2, h3⟩ := hard_al h
      obtain ⟨o2, k1, k2, k3⟩ := hards_get (rs := rs) h1
      exact ⟨o2, k1, k2.trans h2, k3 h3⟩
    · obtain ⟨o1, h1, h2, _⟩ := hard_get (r := r) h
      obtain ⟨o2, k1, k2, k3⟩ := hards_al h1 e
      exact ⟨o2, k1, k2.trans h2, k3⟩

/-- the operands, taken off the stack: their topmost lists may be owned by slots -/
theorem take_w {os' : En} {σ : L2.St} {G' : Hp} {vs₀ : List (Option V)} {b : En}
    (hw : ∀ (i : Nat) (o : OD), os'[i]? = some (some o) → ∃ v, σ[i]? = some (some v) ∧ (o.flat = true → DpW K G' H v o.er)) {os : En} {qs : List RV}
    (hq : ∀ (i : Nat) (o : OD), os[i]? = some (some o) → RV.al i ∈ qs → ∃ o', os'[i]? = some (some o') ∧ o'.er = o.er ∧ o'.flat = true) :
    ∀ {vs : List V} {rs : List RV} {ds : List PyData}, (∀ r ∈ rs, r ∈ qs) → Als σ vs rs → (∀ (j : Nat) (o : OD), (rs.map RV.od)[j]? = some (some o) → ∃ v, (vs.map some)[j]? = some (some v) ∧ Dx K G' v o.er) → rdAll os rs = some ds → DpWs K G' H vs ds
  | _, _, _, _, .nil, _, e => by
    simp [rdAll] at e; subst e; exact .nil
  | v :: vs, r :: rs, ds, m, .cons a q, t, e => by
    unfold rdAll at e
    split at e
    · rename_i d ds' e1 e2
      cases e
      have rest : DpWs K G' H vs ds' := take_w (vs₀ := vs₀) (b := b) hw hq (fun r' h => m r' (List.mem_cons_of_mem _ h)) q (fun j o h => by
        obtain ⟨w, h1, h2⟩ := t (j + 1) o (by simpa using h)
        exact ⟨w, by simpa using h1, h2⟩) e2
      cases r with
      | al i =>
        have e1 : (match os[i]? with | some (some o) => some o.er | _ => none) = some d := e1
        split at e1
        · rename_i o e3
          cases e1
          obtain ⟨o', h1, h2, h3⟩ := hq i o e3 (m _ List.mem_cons_self)
          obtain ⟨v', k1, k2⟩ := hw i o' h1
          have a : σ[i]? = some (some v) := a
          rw [a] at k1; cases k1
          have := k2 h3
          rw [h2] at this
          exact .cons this rest
        · cases e1
      | tm o =>
        have e1 : some o.er = some d := e1
        cases e1
        obtain ⟨w, h1, h2⟩ := t 0 o rfl
        have h1 : some (some v) = some (some w) := h1
        cases h1
        exact .cons (.sh h2) rest
    · cases e

section
variable {σ τ : List (Option V)} {os θ : En} {f : FP} {vs : List V} {rs : List RV} {ds : List PyData}
theorem SI.slotW (I : SI K G H (σ ++ τ) (os ++ θ) f) (hl : σ.length = os.length) (i : Nat) (o : OD) (h : os[i]? = some (some o)) : ∃ v, σ[i]? = some (some v) ∧ (o.flat = true → DpW K G H v o.er) ∧ Dx K H v o.er ∧ (o.isSh = true → Dx K G v o.er) := by
  have hi := lt_of_get h
  obtain ⟨v, fo, fr, h1, h2, _⟩ := I.sl.at (i := i) (o := o) (by rw [get_app hi]; exact h)
  refine ⟨v, by rw [← get_app (r := τ) (by omega)]; exact h1, fun e => h2.w e, h2.rd I.sub, fun e => ?_⟩
  cases h2 with
  | sh hh => exact hh
  | lst _ _ => cases e
  | tpl _ _ => cases e
theorem SI.popA (I : SI K G H (σ ++ (τ ++ vs.map some)) (os ++ (θ ++ rs.map RV.od)) f) (hl : σ.length = os.length) (ht : τ.length = θ.length) (ha : Als σ vs rs) (hd : rdAll os rs = some ds) :
    DxAll K H vs ds ∧ ∃ f', SI K G H (σ ++ τ) (os ++ θ) f' ∧ ∀ a, f' a ≤ f a := by
  rw [← List.append_assoc, ← List.append_assoc] at I
  obtain ⟨g, k, h1, h2, h3⟩ := SL.cut (by simp [hl, ht]) I.sl
  have J : SI K G H (σ ++ τ) (os ++ θ) g := I.forget h1 fun a => by rw [h3]; omega
  refine ⟨rd_all (g := fun _ => 0) I.sub (fun i o e => ?_) ha h2 hd, g, J, fun a => by rw [h3]; omega⟩
  obtain ⟨v, q1, _, q2, _⟩ := J.slotW hl i o e
  exact ⟨v, q1, q2⟩
theorem SI.popB (I : SI K G H (σ ++ (τ ++ vs.map some)) (os ++ (θ ++ rs.map RV.od)) f) (hl : σ.length = os.length) (ht : τ.length = θ.length) (ha : Als σ vs rs) (hd : rdAll os rs = some ds) :
    ∃ G' f', SI K G' H (σ ++ τ) (softAll os rs ++ θ) f' ∧ Stp G H f G' H f' ∧ DpWs K G' H vs ds := by
  rw [← List.append_assoc, ← List.append_assoc] at I
  obtain ⟨G1, f1, I1, s1, t1⟩ := I.tail (by simp [hl, ht])
  obtain ⟨G2, f2, I2, s2⟩ := I1.softs rs
  refine ⟨G2, f2, I2, s1.trans s2, ?_⟩
  refine take_w (vs₀ := []) (b := []) (os' := softAll os rs) (σ := σ) (os := os) (qs := rs) (fun i o e => ?_) (fun i o e m => softs_al e m) (fun _ h => h) ha (fun j o e => ?_) hd
  · obtain ⟨v, q1, q2, _⟩ := I2.slotW (by rw [len_softAll]; exact hl) i o e
    exact ⟨v, q1, q2⟩
  · obtain ⟨v, q1, q2⟩ := t1 j o e
    exact ⟨v, q1, dp_sub s2.gsub q2⟩
/-- the operands, all shared -/
theorem take_h {os' : En} {σ : L2.St} {G' : Hp}
    (hw : ∀ (i : Nat) (o : OD), os'[i]? = some (some o) → ∃ v, σ[i]? = some (some v) ∧ (o.isSh = true → Dx K G' v o.er)) {os : En} {qs : List RV}
    (hq : ∀ (i : Nat) (o : OD), os[i]? = some (some o) → RV.al i ∈ qs → ∃ o', os'[i]? = some (some o') ∧ o'.er = o.er ∧ o'.isSh = true) :
    ∀ {vs : List V} {rs : List RV} {ds : List PyData}, (∀ r ∈ rs, r ∈ qs) → Als σ vs rs → (∀ (j : Nat) (o : OD), (rs.map RV.od)[j]? = some (some o) → ∃ v, (vs.map some)[j]? = some (some v) ∧ Dx K G' v o.er) → rdAll os rs = some ds → DxAll K G' vs ds
  | _, _, _, _, .nil, _, e => by
    simp [rdAll] at e; subst e; exact .nil
  | v :: vs, r :: rs, ds, m, .cons a q, t, e => by
    unfold rdAll at e
    split at e
    · rename_i d ds' e1 e2
      cases e
      have rest : DxAll K G' vs ds' := take_h hw hq (fun r' h => m r' (List.mem_cons_of_mem _ h)) q (fun j o h => by
        obtain ⟨w, h1, h2⟩ := t (j + 1) o (by simpa using h)
        exact ⟨w, by simpa using h1, h2⟩) e2
      cases r with
      | al i =>
        have e1 : (match os[i]? with | some (some o) => some o.er | _ => none) = some d := e1
        split at e1
        · rename_i o e3
          cases e1
          obtain ⟨o', h1, h2, h3⟩ := hq i o e3 (m _ List.mem_cons_self)
          obtain ⟨v', k1, k2⟩ := hw i o' h1
          have a : σ[i]? = some (some v) := a
          rw [a] at k1; cases k1
          have := k2 h3
          rw [h2] at this
          exact .cons this rest
        · cases e1
      | tm o =>
        have e1 : some o.er = some d := e1
        cases e1
        obtain ⟨w, h1, h2⟩ := t 0 o rfl
        have h1 : some (some v) = some (some w) := h1
        cases h1
        exact .cons h2 rest
    · cases e
theorem SI.popC (I : SI K G H (σ ++ (τ ++ vs.map some)) (os ++ (θ ++ rs.map RV.od)) f) (hl : σ.length = os.length) (ht : τ.length = θ.length) (ha : Als σ vs rs) (hd : rdAll os rs = some ds) :
    ∃ G' f', SI K G' H (σ ++ τ) (hardAll os rs ++ θ) f' ∧ Stp G H f G' H f' ∧ DxAll K G' vs ds := by
  rw [← List.append_assoc, ← List.append_assoc] at I
  obtain ⟨G1, f1, I1, s1, t1⟩ := I.tail (by simp [hl, ht])
  obtain ⟨G2, f2, I2, s2⟩ := I1.hards rs
  refine ⟨G2, f2, I2, s1.trans s2, ?_⟩
  refine take_h (os' := hardAll os rs) (σ := σ) (os := os) (qs := rs) (fun i o e => ?_) (fun i o e m => hards_al e m) (fun _ h => h) ha (fun j o e => ?_) hd
  · obtain ⟨v, q1, _, _, q2⟩ := I2.slotW (by rw [len_hardAll]; exact hl) i o e
    exact ⟨v, q1, q2⟩
  · obtain ⟨v, q1, q2⟩ := t1 j o e
    exact ⟨v, q1, dp_sub s2.gsub q2⟩
end
end
end DX
/-! DXExpr: what expressions are worth. -/
namespace DX
open PySem PySem.Spec PyProof.Rows L2

abbrev EvE := En → Option (RV × En)
abbrev EvEs := En → Option (List RV × En)
abbrev EvT := En → Option (Bool × En)

/-- behind a part: the values vs on top of the stack -/
def Kont (K : PySem.W.Frag) (σ τ : List (Option V)) (G H : Hp) (f : FP) (os' θ : En) (vs : List V) (rs : List RV) (H' : Hp) : Prop :=
  ∃ G' f', SI K G' H' (σ ++ (τ ++ vs.map some)) (os' ++ (θ ++ rs.map RV.od)) f' ∧ Stp G H f G' H' f' ∧ Als σ vs rs ∧ σ.length = os'.length
def KontT (K : PySem.W.Frag) (σ τ : List (Option V)) (G H : Hp) (f : FP) (os' θ : En) (H' : Hp) : Prop :=
  ∃ G' f', SI K G' H' (σ ++ τ) (os' ++ θ) f' ∧ Stp G H f G' H' f' ∧ σ.length = os'.length
def ER (K : PySem.W.Frag) (ev : EvE) (te : TE) : Prop := ∀ (σ τ : List (Option V)) (G H : Hp) (os θ : En) (f : FP) (r : RV) (os' : En) (Q : VK),
  σ.length = os.length → τ.length = θ.length → SI K G H (σ ++ τ) (os ++ θ) f → ev os = some (r, os') → (∀ v H', Kont K σ τ G H f os' θ [v] [r] H' → Q v H') → te σ H Q
def ERs (K : PySem.W.Frag) (ev : EvEs) (ta : TA) : Prop := ∀ (σ τ : List (Option V)) (G H : Hp) (os θ : En) (f : FP) (rs : List RV) (os' : En) (Q : List V → Hp → Prop),
  σ.length = os.length → τ.length = θ.length → SI K G H (σ ++ τ) (os ++ θ) f → ev os = some (rs, os') → (∀ vs H', Kont K σ τ G H f os' θ vs rs H' → Q vs H') → ta σ H Q
def TR (K : PySem.W.Frag) (ev : EvT) (tt : TT) : Prop := ∀ (σ τ : List (Option V)) (G H : Hp) (os θ : En) (f : FP) (b : Bool) (os' : En) (Q : Bool → Hp → Prop),
  σ.length = os.length → τ.length = θ.length → SI K G H (σ ++ τ) (os ++ θ) f → ev os = some (b, os') → (∀ H', KontT K σ τ G H f os' θ H' → Q b H') → tt σ H Q
def SE (X : Cx) (ev : EvE) (e : Expr) : Prop := ∃ te, PE X e te ∧ ER X.K ev te
def SEs (X : Cx) (ev : EvEs) (es : List Expr) : Prop := ∃ ta, PA X es ta ∧ ERs X.K ev ta
def STt (X : Cx) (ev : EvT) (e : Expr) : Prop := ∃ tt, PT X e tt ∧ TR X.K ev tt

section
variable {K : PySem.W.Frag} {σ τ : List (Option V)} {G H H' : Hp} {f : FP} {os os' θ : En} {vs : List V} {rs : List RV}
theorem Kont.drop (ht : τ.length = θ.length) (k : Kont K σ τ G H f os' θ vs rs H') : KontT K σ τ G H f os' θ H' := by
  obtain ⟨G', f', I, s, _, l⟩ := k
  rw [← List.append_assoc, ← List.append_assoc] at I
  obtain ⟨g, k, h1, _, h3⟩ := SL.cut (by simp [l, ht]) I.sl
  exact ⟨G', g, I.forget h1 fun a => by rw [h3]; omega, s.trans (Stp.less fun a => by rw [h3]; omega), l⟩
theorem KontT.kont (k : KontT K σ τ G H f os' θ H') : Kont K σ τ G H f os' θ [] [] H' := by
  obtain ⟨G', f', I, s, l⟩ := k
  exact ⟨G', f', by simpa using I, s, .nil, l⟩
theorem Kont.step {G0 H0 : Hp} {f0 : FP} (s0 : Stp G0 H0 f0 G H f) (k : Kont K σ τ G H f os' θ vs rs H') : Kont K σ τ G0 H0 f0 os' θ vs rs H' := by
  obtain ⟨G', f', I, s, a, l⟩ := k
  exact ⟨G', f', I, s0.trans s, a, l⟩
theorem KontT.step {G0 H0 : Hp} {f0 : FP} (s0 : Stp G0 H0 f0 G H f) (k : KontT K σ τ G H f os' θ H') : KontT K σ τ G0 H0 f0 os' θ H' := by
  obtain ⟨G', f', I, s, l⟩ := k
  exact ⟨G', f', I, s0.trans s, l⟩
end

/-! ### argument lists -/
def esNil : EvEs := fun os => some ([], os)
def esCons (ea : EvE) (er : EvEs) : EvEs := fun os => match ea os with
  | some (r, os1) => match er os1 with
    | some (rs, os2) => some (r :: rs, os2)
    | none => none
  | none => none
section
variable {K : PySem.W.Frag} {X : Cx}
theorem ers_nil : ERs K esNil tNil := fun σ τ G H os θ f rs os' Q hl ht I e k => by
  cases e
  exact k [] H (KontT.kont ⟨G, f, I, Stp.refl _ _ _, hl⟩)
theorem ers_cons {ea : EvE} {er : EvEs} {te : TE} {ta : TA} (ha : ER K ea te) (hr : ERs K er ta) : ERs K (esCons ea er) (tCons te ta) := fun σ τ G H os θ f rs os' Q hl ht I e k => by
  unfold esCons at e
  split at e
  · rename_i r os1 e1
    split at e
    · rename_i rs' os2 e2
      cases e
      refine ha σ τ G H os θ f r os1 _ hl ht I e1 fun v H1 k1 => ?_
      obtain ⟨G1, f1, I1, s1, a1, l1⟩ := k1
      refine hr σ (τ ++ [some v]) G1 H1 os1 (θ ++ [r.od]) f1 rs' os' _ l1 (by simp [ht]) I1 e2 fun vs H2 k2 => ?_
      obtain ⟨G2, f2, I2, s2, a2, l2⟩ := k2
      refine k (v :: vs) H2 ⟨G2, f2, ?_, s1.trans s2, ?_, l2⟩
      · simpa [List.append_assoc] using I2
      · cases a1 with
        | cons a _ => exact .cons a a2
    · cases e
  · cases e
theorem ss_nil : SEs X esNil [] := ⟨_, pa_nil, ers_nil⟩
theorem ss_cons {e : Expr} {es : List Expr} {ea : EvE} {er : EvEs} (ha : SE X ea e) (hr : SEs X er es) (hs : starEach (e :: es) X.env = (false, eval e X.env) :: starEach es X.env := by rfl) : SEs X (esCons ea er) (e :: es) := by
  obtain ⟨te, p, h⟩ := ha
  obtain ⟨ta, q, g⟩ := hr
  exact ⟨_, pa_cons p q hs, ers_cons h g⟩

/-! ### names, constants -/
def eVar (i : Nat) : EvE := fun os => match os[i]? with
  | some (some _) => some (.al i, os)
  | _ => none
def eC (d : PyData) : EvE := fun os => some (.tm (.sh d), os)
theorem er_var {i : Nat} : ER K (eVar i) (tVar i) := fun σ τ G H os θ f r os' Q hl ht I e k => by
  unfold eVar at e
  split at e
  · rename_i o e1
    cases e
    obtain ⟨v, h1, _⟩ := I.slotW hl i o e1
    exact ⟨v, h1, k v H ⟨G, f, by
      have := I.pushN (some v)
      simpa [List.append_assoc, RV.od] using this, Stp.refl _ _ _, .cons h1 .nil, hl⟩⟩
  · cases e
theorem se_var (i : Nat) {x : Str} {pos : Pos} (hN : X.N[i]? = some x := by rfl) (hv : Vis X.env.scope x := by first | exact Or.inl rfl | exact Or.inr (Or.inl rfl) | exact Or.inr (Or.inr rfl)) (hd : (x == ("__debug__" : Str)) = false := by decide)
    (hcd : (x == ("__classdict__" : Str)) = false := by decide) : SE X (eVar i) (.Name x pos) := ⟨_, pe_var hN hv hd hcd, er_var⟩
theorem Kont.sh {σ τ : List (Option V)} {G H : Hp} {os θ : En} {f : FP} (hl : σ.length = os.length) (I : SI K G H (σ ++ τ) (os ++ θ) f) {v : V} {d : PyData} (h : Dx K G v d) : Kont K σ τ G H f os θ [v] [.tm (.sh d)] H :=
  ⟨G, f, by simpa [List.append_assoc, RV.od] using I.push h, Stp.refl _ _ _, .cons trivial .nil, hl⟩
theorem er_c {v : V} {d : PyData} (h : ∀ G : Hp, Dx K G v d) : ER K (eC d) (tC v) := fun σ τ G H os θ f r os' Q hl ht I e k => by
  cases e
  exact k v H (Kont.sh hl I (h G))
theorem se_int {i : Int} {j pos} : SE X (eC (.int i)) (.Constant (.int i) j pos) := ⟨_, pe_int, er_c fun _ => .int i⟩
theorem se_str {x : Str} {j pos} (h : x.length ≤ strMax := by decide +kernel) : SE X (eC (.str x)) (.Constant (.str x) j pos) := ⟨_, pe_str, er_c fun _ => .str x h⟩
theorem se_bl {b : Bool} {j pos} : SE X (eC (.bool b)) (.Constant (.bool b) j pos) := ⟨_, pe_bl, er_c fun _ => .bl b⟩
theorem se_non {j pos} : SE X (eC .none) (.Constant .none j pos) := ⟨_, pe_non, er_c fun _ => .non⟩
/-- a constant of the module -/
theorem se_globI {x : Str} {i : Int} {t : Tok} {pos : Pos} (hm : X.mg x = some (.int i t)) (hg : Gl X x := by rfl) (hd : (x == ("__debug__" : Str)) = false := by decide) : SE X (eC (.int i)) (.Name x pos) :=
  ⟨_, pe_glob (v := .int i) hg hm ⟨t, rfl⟩ hd, er_c fun _ => .int i⟩
theorem se_globS {x : Str} {z : Str} {t : Tok} {pos : Pos} (hm : X.mg x = some (.str z t)) (h : z.length ≤ strMax := by decide +kernel) (hg : Gl X x := by rfl) (hd : (x == ("__debug__" : Str)) = false := by decide) : SE X (eC (.str z)) (.Name x pos) :=
  ⟨_, pe_glob (v := .str z) hg hm ⟨t, rfl⟩ hd, er_c fun _ => .str z h⟩

/-! ### operations -/
structure OpOk (K : PySem.W.Frag) (r : List V → Hp → VK → Prop) (fn : List PyData → Option Op) : Prop where
  sc : ∀ ds d H vs Q, fn ds = some (.val d) → isSc d = true → DxAll K H vs ds → (∀ v, Dx K H v d → Q v H) → r vs H Q
  el : ∀ ds d G H vs Q, fn ds = some (.val d) → isSc d = false → Sub G H → DpWs K G H vs ds → (∀ v, Dx K G v d → Q v H) → r vs H Q
  nl : ∀ ds es G H vs Q, fn ds = some (.nl es) → Sub G H → DpWs K G H vs ds → (∀ ws p, DxAll K G ws es → H p = none → Q (.ref p) (upd H p (.lst ws))) → r vs H Q
  nt : ∀ ds es G H vs Q, fn ds = some (.nt es) → Sub G H → DpWs K G H vs ds → (∀ ws p, DxAll K G ws es → H p = none → Q (.ref p) (upd H p (.tup ws))) → r vs H Q
theorem OpOk.ofSc {r : List V → Hp → VK → Prop} {fn : List PyData → Option Op} (h : ∀ ds res, fn ds = some res → ∃ d, res = .val d ∧ isSc d = true)
    (sc : ∀ ds d H vs Q, fn ds = some (.val d) → DxAll K H vs ds → (∀ v, Dx K H v d → Q v H) → r vs H Q) : OpOk K r fn where
  sc := fun ds d H vs Q e _ hd k => sc ds d H vs Q e hd k
  el := fun ds d G H vs Q e z _ _ _ => by
    obtain ⟨d', q1, q2⟩ := h ds _ e
    cases q1; rw [z] at q2; cases q2
  nl := fun ds es G H vs Q e _ _ _ => by
    obtain ⟨d', q1, q2⟩ := h ds _ e
    cases q1
  nt := fun ds es G H vs Q e _ _ _ => by
    obtain ⟨d', q1, q2⟩ := h ds _ e
    cases q1
def opOut (os : En) (rs : List RV) : Op → RV × En
  | .val d => if isSc d then (.tm (.sh d), os) else (.tm (.sh d), softAll os rs)
  | .nl es => (.tm (.lst (es.map OD.sh)), softAll os rs)
  | .nt es => (.tm (.sh (.tuple es)), softAll os rs)
def eOp (fn : List PyData → Option Op) (es : EvEs) : EvE := fun os => match es os with
  | some (rs, os1) => match rdAll os1 rs with
    | some ds => match fn ds with
      | some res => some (opOut os1 rs res)
      | none => none
    | none => none
  | none => none
theorem er_op {fn : List PyData → Option Op} {ev : EvEs} {ta : TA} {r : List V → Hp → VK → Prop} (ha : ERs K ev ta) (ok : OpOk K r fn) : ER K (eOp fn ev) (fun σ H Q => ta σ H fun vs H1 => r vs H1 Q) := fun σ τ G H os θ f r' os' Q hl ht I e k => by
  unfold eOp at e
  split at e
  · rename_i rs os1 e1
    split at e
    · rename_i ds e2
      split at e
      · rename_i res e3
        have e : opOut os1 rs res = (r', os') := Option.some.inj e
        refine ha σ τ G H os θ f rs os1 _ hl ht I e1 fun vs H1 k1 => ?_
        obtain ⟨G1, f1, I1, s1, a1, l1⟩ := k1
        cases res with
        | val d =>
          simp only [opOut] at e
          cases hc : isSc d with
          | true =>
            rw [hc, if_pos rfl] at e
            cases e
            obtain ⟨hd, f2, I2, le⟩ := I1.popA l1 ht a1 e2
            refine ok.sc ds d H1 vs Q e3 hc hd fun v hv => k v H1 (Kont.step (s1.trans (Stp.less le)) (Kont.sh l1 I2 (dp_sc hv hc)))
          | false =>
            rw [hc, if_neg Bool.false_ne_true] at e
            cases e
            obtain ⟨G2, f2, I2, s2, hd⟩ := I1.popB l1 ht a1 e2
            refine ok.el ds d G2 H1 vs Q e3 hc I2.sub hd fun v hv => k v H1 (Kont.step (s1.trans s2) (Kont.sh (by rw [len_softAll]; exact l1) I2 hv))
        | nl es =>
          cases e
          obtain ⟨G2, f2, I2, s2, hd⟩ := I1.popB l1 ht a1 e2
          refine ok.nl ds es G2 H1 vs Q e3 I2.sub hd fun ws p hw hp => ?_
          obtain ⟨f3, I3, s3⟩ := I2.pushNew hw hp
          exact k _ _ ⟨G2, f3, by simpa [List.append_assoc, RV.od] using I3, (s1.trans s2).trans s3, .cons trivial .nil, by rw [len_softAll]; exact l1⟩
        | nt es =>
          cases e
          obtain ⟨G2, f2, I2, s2, hd⟩ := I1.popB l1 ht a1 e2
          refine ok.nt ds es G2 H1 vs Q e3 I2.sub hd fun ws p hw hp => ?_
          obtain ⟨I3, s3⟩ := I2.pushTup hw hp
          exact k _ _ ⟨_, f2, by simpa [List.append_assoc, RV.od] using I3, (s1.trans s2).trans s3, .cons trivial .nil, by rw [len_softAll]; exact l1⟩
      · cases e
    · cases e
  · cases e
/-- a two-place, a one-place reading over an argument list -/
def r2 (r : R2) : List V → Hp → VK → Prop := fun vs H Q => match vs with
  | [x, y] => r x y H Q
  | _ => False
def r1 (r : V → Hp → VK → Prop) : List V → Hp → VK → Prop := fun vs H Q => match vs with
  | [x] => r x H Q
  | _ => False
abbrev es2 (ea eb : EvE) : EvEs := esCons ea (esCons eb esNil)
abbrev es1 (ea : EvE) : EvEs := esCons ea esNil
theorem er_op2 {fn : List PyData → Option Op} {ea eb : EvE} {ta tb : TE} {r : R2} (ha : ER K ea ta) (hb : ER K eb tb) (ok : OpOk K (r2 r) fn) : ER K (eOp fn (es2 ea eb)) (tOp r ta tb) :=
  er_op (ers_cons ha (ers_cons hb ers_nil)) ok
theorem er_op1 {fn : List PyData → Option Op} {ea : EvE} {ta : TE} {r : V → Hp → VK → Prop} (ha : ER K ea ta) (ok : OpOk K (r1 r) fn) : ER K (eOp fn (es1 ea)) (tUn r ta) :=
  er_op (ers_cons ha ers_nil) ok

/-! ### truth -/
def trD : PyData → Option Bool
  | .none => some false
  | .bool b => some b
  | .int i => some (i != 0)
  | .str y => some ((y.length : Int) != 0)
  | .list xs => some (!xs.isEmpty)
  | .tuple xs => some (!xs.isEmpty)
  | .dict _ => none
theorem emp_dps {vs : List V} {ds : List PyData} (h : DxAll K H vs ds) : (!ds.isEmpty) = !vs.isEmpty := by cases h <;> rfl
theorem tru_of {v : V} {d : PyData} {b : Bool} (h : Dx K H v d) (e : trD d = some b) : TruV K v H b := by
  cases h with
  | non => cases e; rfl
  | bl c => cases e; rfl
  | int i => cases e; rfl
  | str x h => cases e; exact ⟨strMax_le' h, rfl⟩
  | lst q r => cases e; exact .inl ⟨_, q, emp_dps r⟩
  | tup q r => cases e; exact .inr (.inl ⟨_, q, emp_dps r⟩)
  | exc _ _ => cases e
  | exf _ _ => cases e
def tTru (ev : EvE) : EvT := fun os => match ev os with
  | some (r, os1) => match r.rd os1 with
    | some d => match trD d with
      | some b => some (b, os1)
      | none => none
    | none => none
  | none => none
def tBl (ev : EvE) : EvT := fun os => match ev os with
  | some (r, os1) => match r.rd os1 with
    | some (.bool b) => some (b, os1)
    | _ => none
  | none => none
theorem Kont.read1 {σ τ : List (Option V)} {G H H' : Hp} {f : FP} {os' θ : En} {v : V} {r : RV} {d : PyData} (ht : τ.length = θ.length) (k : Kont K σ τ G H f os' θ [v] [r] H') (e : r.rd os' = some d) : Dx K H' v d := by
  obtain ⟨G', f', I, s, a, l⟩ := k
  have : rdAll os' [r] = some [d] := by simp [rdAll, e]
  obtain ⟨h, _⟩ := I.popA l ht a this
  cases h with
  | cons h _ => exact h
theorem tr_truth {ev : EvE} {te : TE} (h : ER K ev te) : TR K (tTru ev) (fun σ H Q => te σ H fun x H' => ∃ k, TruV K x H' k ∧ Q k H') := fun σ τ G H os θ f b os' Q hl ht I e k => by
  unfold tTru at e
  split at e
  · rename_i r os1 e1
    split at e
    · rename_i d e2
      split at e
      · rename_i b' e3
        cases e
        refine h σ τ G H os θ f r os' _ hl ht I e1 fun v H1 k1 => ?_
        exact ⟨b, tru_of (k1.read1 ht e2) e3, k H1 (k1.drop ht)⟩
      · cases e
    · cases e
  · cases e
theorem tr_bl {ev : EvE} {te : TE} (h : ER K ev te) : TR K (tBl ev) (fun σ H Q => te σ H fun x H' => ∃ k, x = .bl k ∧ Q k H') := fun σ τ G H os θ f b os' Q hl ht I e k => by
  unfold tBl at e
  split at e
  · rename_i r os1 e1
    split at e
    · rename_i b' e2
      cases e
      refine h σ τ G H os θ f r os' _ hl ht I e1 fun v H1 k1 => ?_
      have := k1.read1 ht e2
      cases this
      exact ⟨b, rfl, k H1 (k1.drop ht)⟩
    · cases e
  · cases e
def tAndD (a b : EvT) : EvT := fun os => match a os with
  | some (true, os1) => b os1
  | some (false, os1) => some (false, os1)
  | none => none
def tOrD (a b : EvT) : EvT := fun os => match a os with
  | some (true, os1) => some (true, os1)
  | some (false, os1) => b os1
  | none => none
def tNotD (a : EvT) : EvT := fun os => match a os with
  | some (c, os1) => some (!c, os1)
  | none => none
theorem tr_and {a b : EvT} {ta tb : TT} (ha : TR K a ta) (hb : TR K b tb) : TR K (tAndD a b) (tAnd ta tb) := fun σ τ G H os θ f c os' Q hl ht I e k => by
  unfold tAndD at e
  split at e
  · rename_i os1 e1
    refine ha σ τ G H os θ f true os1 _ hl ht I e1 fun H1 k1 => ?_
    obtain ⟨G1, f1, I1, s1, l1⟩ := k1
    rw [if_pos rfl]
    exact hb σ τ G1 H1 os1 θ f1 c os' _ l1 ht I1 e fun H2 k2 => k H2 (k2.step s1)
  · rename_i os1 e1
    cases e
    refine ha σ τ G H os θ f false os' _ hl ht I e1 fun H1 k1 => ?_
    rw [if_neg Bool.false_ne_true]
    exact k H1 k1
  · cases e
theorem tr_or {a b : EvT} {ta tb : TT} (ha : TR K a ta) (hb : TR K b tb) : TR K (tOrD a b) (tOr ta tb) := fun σ τ G H os θ f c os' Q hl ht I e k => by
  unfold tOrD at e
  split at e
  · rename_i os1 e1
    cases e
    refine ha σ τ G H os θ f true os' _ hl ht I e1 fun H1 k1 => ?_
    rw [if_pos rfl]
    exact k H1 k1
  · rename_i os1 e1
    refine ha σ τ G H os θ f false os1 _ hl ht I e1 fun H1 k1 => ?_
    obtain ⟨G1, f1, I1, s1, l1⟩ := k1
    rw [if_neg Bool.false_ne_true]
    exact hb σ τ G1 H1 os1 θ f1 c os' _ l1 ht I1 e fun H2 k2 => k H2 (k2.step s1)
  · cases e
theorem tr_not {a : EvT} {ta : TT} (ha : TR K a ta) : TR K (tNotD a) (tNot ta) := fun σ τ G H os θ f c os' Q hl ht I e k => by
  unfold tNotD at e
  split at e
  · rename_i c1 os1 e1
    cases e
    exact ha σ τ G H os θ f c1 os' _ hl ht I e1 fun H1 k1 => k H1 k1
  · cases e
/-- a test whatever its whole is -/
def STw (X : Cx) (ev : EvT) (e : Expr) : Prop := ∃ tt, PW X e tt ∧ TR X.K ev tt
theorem STw.t {ev : EvT} {e : Expr} (h : STw X ev e) : STt X ev e := by
  obtain ⟨tt, p, q⟩ := h
  exact ⟨tt, p.pt, q⟩
theorem st_and1 {a : Expr} {ea : EvT} {pos : Pos} (h : STt X ea a) : STw X ea (.BoolOp .And [a] pos) := by
  obtain ⟨tt, p, q⟩ := h
  exact ⟨tt, pw_and1 p, q⟩
theorem st_or1 {a : Expr} {ea : EvT} {pos : Pos} (h : STt X ea a) : STw X ea (.BoolOp .Or [a] pos) := by
  obtain ⟨tt, p, q⟩ := h
  exact ⟨tt, pw_or1 p, q⟩
theorem st_and {a b : Expr} {rest : List Expr} {ea eb : EvT} {pos : Pos} (h : STt X ea a) (g : STw X eb (.BoolOp .And (b :: rest) pos)) : STw X (tAndD ea eb) (.BoolOp .And (a :: b :: rest) pos) := by
  obtain ⟨tt, p, q⟩ := h
  obtain ⟨tu, p', q'⟩ := g
  exact ⟨_, pw_and p p', tr_and q q'⟩
theorem st_or {a b : Expr} {rest : List Expr} {ea eb : EvT} {pos : Pos} (h : STt X ea a) (g : STw X eb (.BoolOp .Or (b :: rest) pos)) : STw X (tOrD ea eb) (.BoolOp .Or (a :: b :: rest) pos) := by
  obtain ⟨tt, p, q⟩ := h
  obtain ⟨tu, p', q'⟩ := g
  exact ⟨_, pw_or p p', tr_or q q'⟩
theorem st_not {a : Expr} {ea : EvT} {pos : Pos} (h : STt X ea a) : STt X (tNotD ea) (.UnaryOp .Not a pos) := by
  obtain ⟨tt, p, q⟩ := h
  exact ⟨_, pt_not p, tr_not q⟩
/-- any expression as a test -/
theorem st_tru {a : Expr} {ea : EvE} (h : SE X ea a) (he : ∀ whole, isTrue a X.env whole = (do let v ← whole; standAt a.pos; holding [v] (truthy v)) := by intro _; rfl) : STt X (tTru ea) a := by
  obtain ⟨te, p, q⟩ := h
  exact ⟨_, pt_truth p he, tr_truth q⟩

/-! ### and, or, not, if as values -/
def eAnd (a b : EvE) : EvE := fun os => match a os with
  | some (r, os1) => match r.rd os1 with
    | some d => match trD d with
      | some true => b os1
      | some false => some (r, os1)
      | none => none
    | none => none
  | none => none
def eOr (a b : EvE) : EvE := fun os => match a os with
  | some (r, os1) => match r.rd os1 with
    | some d => match trD d with
      | some true => some (r, os1)
      | some false => b os1
      | none => none
    | none => none
  | none => none
def eNot (a : EvE) : EvE := fun os => match a os with
  | some (r, os1) => match r.rd os1 with
    | some d => match trD d with
      | some c => some (.tm (.sh (.bool (!c))), os1)
      | none => none
    | none => none
  | none => none
def eIf (t : EvT) (a b : EvE) : EvE := fun os => match t os with
  | some (true, os1) => a os1
  | some (false, os1) => b os1
  | none => none
theorem er_and {a b : EvE} {ta tb : TE} (ha : ER K a ta) (hb : ER K b tb) : ER K (eAnd a b) (tAndT K ta tb) := fun σ τ G H os θ f r os' Q hl ht I e k => by
  unfold eAnd at e
  split at e
  · rename_i r1 os1 e1
    split at e
    · rename_i d e2
      refine ha σ τ G H os θ f r1 os1 _ hl ht I e1 fun v H1 k1 => ?_
      split at e
      · rename_i e3
        obtain ⟨G1, f1, I1, s1, l1⟩ := k1.drop ht
        refine ⟨true, tru_of (k1.read1 ht e2) e3, ?_⟩
        rw [if_pos rfl]
        exact hb σ τ G1 H1 os1 θ f1 r os' _ l1 ht I1 e fun v2 H2 k2 => k v2 H2 (k2.step s1)
      · rename_i e3
        cases e
        refine ⟨false, tru_of (k1.read1 ht e2) e3, ?_⟩
        rw [if_neg Bool.false_ne_true]
        exact k v H1 k1
      · cases e
    · cases e
  · cases e
theorem er_or {a b : EvE} {ta tb : TE} (ha : ER K a ta) (hb : ER K b tb) : ER K (eOr a b) (tOrT K ta tb) := fun σ τ G H os θ f r os' Q hl ht I e k => by
  unfold eOr at e
  split at e
  · rename_i r1 os1 e1
    split at e
    · rename_i d e2
      refine ha σ τ G H os θ f r1 os1 _ hl ht I e1 fun v H1 k1 => ?_
      split at e
      · rename_i e3
        cases e
        refine ⟨true, tru_of (k1.read1 ht e2) e3, ?_⟩
        rw [if_pos rfl]
        exact k v H1 k1
      · rename_i e3
        obtain ⟨G1, f1, I1, s1, l1⟩ := k1.drop ht
        refine ⟨false, tru_of (k1.read1 ht e2) e3, ?_⟩
        rw [if_neg Bool.false_ne_true]
        exact hb σ τ G1 H1 os1 θ f1 r os' _ l1 ht I1 e fun v2 H2 k2 => k v2 H2 (k2.step s1)
      · cases e
    · cases e
  · cases e
theorem er_not {a : EvE} {ta : TE} (ha : ER K a ta) : ER K (eNot a) (tNotT K ta) := fun σ τ G H os θ f r os' Q hl ht I e k => by
  unfold eNot at e
  split at e
  · rename_i r1 os1 e1
    split at e
    · rename_i d e2
      split at e
      · rename_i c e3
        cases e
        refine ha σ τ G H os θ f r1 os' _ hl ht I e1 fun v H1 k1 => ?_
        obtain ⟨G1, f1, I1, s1, l1⟩ := k1.drop ht
        exact ⟨c, tru_of (k1.read1 ht e2) e3, k _ H1 ((Kont.sh l1 I1 (.bl (!c))).step s1)⟩
      · cases e
    · cases e
  · cases e
theorem er_if {t : EvT} {a b : EvE} {tt : TT} {ta tb : TE} (h : TR K t tt) (ha : ER K a ta) (hb : ER K b tb) : ER K (eIf t a b) (tIf tt ta tb) := fun σ τ G H os θ f r os' Q hl ht I e k => by
  unfold eIf at e
  split at e
  · rename_i os1 e1
    refine h σ τ G H os θ f true os1 _ hl ht I e1 fun H1 k1 => ?_
    obtain ⟨G1, f1, I1, s1, l1⟩ := k1
    rw [if_pos rfl]
    exact ha σ τ G1 H1 os1 θ f1 r os' _ l1 ht I1 e fun v H2 k2 => k v H2 (k2.step s1)
  · rename_i os1 e1
    refine h σ τ G H os θ f false os1 _ hl ht I e1 fun H1 k1 => ?_
    obtain ⟨G1, f1, I1, s1, l1⟩ := k1
    rw [if_neg Bool.false_ne_true]
    exact hb σ τ G1 H1 os1 θ f1 r os' _ l1 ht I1 e fun v H2 k2 => k v H2 (k2.step s1)
  · cases e
theorem se_one {op : BoolOp} {a : Expr} {ea : EvE} {pos : Pos} (h : SE X ea a) : SE X ea (.BoolOp op [a] pos) := by
  obtain ⟨te, p, q⟩ := h
  exact ⟨te, pe_one p, q⟩
theorem se_and {a b : Expr} {rest : List Expr} {ea eb : EvE} {pos : Pos} (h : SE X ea a) (g : SE X eb (.BoolOp .And (b :: rest) pos)) : SE X (eAnd ea eb) (.BoolOp .And (a :: b :: rest) pos) := by
  obtain ⟨te, p, q⟩ := h
  obtain ⟨tu, p', q'⟩ := g
  exact ⟨_, pe_andT p p', er_and q q'⟩
theorem se_or {a b : Expr} {rest : List Expr} {ea eb : EvE} {pos : Pos} (h : SE X ea a) (g : SE X eb (.BoolOp .Or (b :: rest) pos)) : SE X (eOr ea eb) (.BoolOp .Or (a :: b :: rest) pos) := by
  obtain ⟨te, p, q⟩ := h
  obtain ⟨tu, p', q'⟩ := g
  exact ⟨_, pe_orT p p', er_or q q'⟩
theorem se_not {a : Expr} {ea : EvE} {pos : Pos} (h : SE X ea a) : SE X (eNot ea) (.UnaryOp .Not a pos) := by
  obtain ⟨te, p, q⟩ := h
  exact ⟨_, pe_notT p, er_not q⟩
theorem se_if {c a b : Expr} {et : EvT} {ea eb : EvE} {pos : Pos} (h : STt X et c) (ha : SE X ea a) (hb : SE X eb b) : SE X (eIf et ea eb) (.IfExp c a b pos) := by
  obtain ⟨tt, p, q⟩ := h
  obtain ⟨ta, p1, q1⟩ := ha
  obtain ⟨tb, p2, q2⟩ := hb
  exact ⟨_, pe_ifExp p p1 p2, er_if q q1 q2⟩
end
end DX
/-! DXOps: the operations. -/
namespace DX
open PySem PySem.Spec PyProof.Rows L2

section
variable {K : PySem.W.Frag} {X : Cx}
theorem dps1 {H : Hp} {vs : List V} {d : PyData} (h : DxAll K H vs [d]) : ∃ v, vs = [v] ∧ Dx K H v d := by
  cases h with
  | cons a r => cases r; exact ⟨_, rfl, a⟩
theorem dps2 {H : Hp} {vs : List V} {d e : PyData} (h : DxAll K H vs [d, e]) : ∃ v w, vs = [v, w] ∧ Dx K H v d ∧ Dx K H w e := by
  cases h with
  | cons a r =>
    obtain ⟨w, rfl, b⟩ := dps1 r
    exact ⟨_, w, rfl, a, b⟩
theorem dps3 {H : Hp} {vs : List V} {d e c : PyData} (h : DxAll K H vs [d, e, c]) : ∃ v w u, vs = [v, w, u] ∧ Dx K H v d ∧ Dx K H w e ∧ Dx K H u c := by
  cases h with
  | cons a r =>
    obtain ⟨w, u, rfl, b, c⟩ := dps2 r
    exact ⟨_, w, u, rfl, a, b, c⟩
theorem dws1 {G H : Hp} {vs : List V} {d : PyData} (h : DpWs K G H vs [d]) : ∃ v, vs = [v] ∧ DpW K G H v d := by
  cases h with
  | cons a r => cases r; exact ⟨_, rfl, a⟩
theorem dws2 {G H : Hp} {vs : List V} {d e : PyData} (h : DpWs K G H vs [d, e]) : ∃ v w, vs = [v, w] ∧ DpW K G H v d ∧ DpW K G H w e := by
  cases h with
  | cons a r =>
    obtain ⟨w, rfl, b⟩ := dws1 r
    exact ⟨_, w, rfl, a, b⟩
theorem dws3 {G H : Hp} {vs : List V} {d e c : PyData} (h : DpWs K G H vs [d, e, c]) : ∃ v w u, vs = [v, w, u] ∧ DpW K G H v d ∧ DpW K G H w e ∧ DpW K G H u c := by
  cases h with
  | cons a r =>
    obtain ⟨w, u, rfl, b, c⟩ := dws2 r
    exact ⟨_, w, u, rfl, a, b, c⟩
/-- a list operand: where it stands, its items in G -/
theorem DpW.list {G H : Hp} (s : Sub G H) {v : V} {ds : List PyData} (h : DpW K G H v (.list ds)) : ∃ p vs, v = .ref p ∧ SqL K H p vs ∧ DxAll K G vs ds := by
  cases h with
  | sh h => cases h with
    | lst q r => exact ⟨_, _, rfl, sqL_sub s q, r⟩
  | own h r => exact ⟨_, _, rfl, .inl (.inl h), r⟩
theorem DpW.tuple {G H : Hp} (s : Sub G H) {v : V} {ds : List PyData} (h : DpW K G H v (.tuple ds)) : ∃ p vs, v = .ref p ∧ SqT K H p vs ∧ SqT K G p vs ∧ DxAll K G vs ds := by
  cases h with
  | sh h => cases h with
    | tup q r => exact ⟨_, _, rfl, sqT_sub s q, q, r⟩
theorem dps_drop {H : Hp} : ∀ (n : Nat) {vs : List V} {ds : List PyData}, DxAll K H vs ds → DxAll K H (vs.drop n) (ds.drop n)
  | 0, _, _, h => h
  | _ + 1, _, _, .nil => .nil
  | n + 1, _, _, .cons _ r => dps_drop n r
theorem dps_take {H : Hp} : ∀ (n : Nat) {vs : List V} {ds : List PyData}, DxAll K H vs ds → DxAll K H (vs.take n) (ds.take n)
  | 0, _, _, _ => .nil
  | _ + 1, _, _, .nil => .nil
  | n + 1, _, _, .cons a r => .cons a (dps_take n r)

/-! ### + - * // % ** -/
def opAdd : List PyData → Option Op
  | [.int i, .int j] => some (.val (.int (i + j)))
  | [.str a, .str b] => if a.length + b.length ≤ strMax then some (.val (.str (a ++ b))) else none
  | [.list a, .list b] => if a.length + b.length ≤ sizeLine then some (.nl (a ++ b)) else none
  | _ => none
def rCatR (K : PySem.W.Frag) : R2 := fun x y H Q => ∃ l b xs zs, x = .ref l ∧ y = .ref b ∧ SqL K H l xs ∧ SqL K H b zs ∧ xs.length + zs.length ≤ sizeLine ∧ ∀ p, H p = none → Q (.ref p) (upd H p (.lst (xs ++ zs)))
theorem op_catR : OpR X (binaryOp .Add) (rCatR X.K) := by
  intro pins s σ H x y v u Q I rx ry h
  obtain ⟨l, b, xs, zs, rfl, rfl, hH, hB, hz, q⟩ := h
  cases rx; cases ry
  obtain ⟨its, r, ⟨⟨cl, dd, da, sl⟩, n, ho, hc, _, hd⟩, z⟩ := I.list hH
  obtain ⟨its2, r2, ⟨⟨cl2, dd2, da2, sl2⟩, n2, ho2, hc2, _, hd2⟩, z2⟩ := I.list hB
  simp only at hc hd hc2 hd2
  subst hc hd hc2 hd2
  have hl := r.length
  have hl2 := r2.length
  refine concat_meets ⟨_, ho, rfl⟩ ⟨_, ho2, rfl⟩ noFill_list_add seq_list_add PySem.F.slot_list_add PySem.F.entry_list_add (PySem.F.args_list_add_2 _ _) (list_addW l b its.toArray its2.toArray n n2 dd dd2 sl sl2 (by rw [List.size_toArray, List.size_toArray]; omega)) ⟨ho, ho2, ?_⟩
  rw [show its.toArray ++ its2.toArray = (its ++ its2).toArray by simp]
  exact ⟨.ref _, _, I.lnew (t' := s.toks) (r.append r2) (by rw [List.length_append]; omega), rfl, q _ I.fresh⟩
def rAdd3 (K : PySem.W.Frag) : R2 := fun x y H Q => rI0 (fun i j => .int (i + j)) x y H Q ∨ (∃ i j, x = .str i ∧ y = .str j ∧ i.length + j.length ≤ sizeLine ∧ Q (.str (i ++ j)) H) ∨ rCatR K x y H Q
theorem ok_add : OpOk K (r2 (rAdd3 K)) opAdd where
  sc := fun ds d H vs Q e _ hd k => by
    unfold opAdd at e
    split at e
    · cases e
      obtain ⟨v, w, rfl, a, b⟩ := dps2 hd
      cases a; cases b
      exact .inl ⟨_, _, rfl, rfl, k _ (.int _)⟩
    · split at e
      · rename_i c
        cases e
        obtain ⟨v, w, rfl, a, b⟩ := dps2 hd
        cases a; cases b
        exact .inr (.inl ⟨_, _, rfl, rfl, strMax_le' c, k _ (.str _ (by rw [show ∀ a b : Str, (a ++ b).length = a.length + b.length from fun a b => Array.size_append ..]; exact c))⟩)
      · cases e
    · split at e <;> cases e
    · cases e
  el := fun ds d G H vs Q e z _ _ _ => by
    unfold opAdd at e
    split at e
    · cases e; cases z
    · split at e
      · cases e; cases z
      · cases e
    · split at e <;> cases e
    · cases e
  nl := fun ds es G H vs Q e s hd k => by
    unfold opAdd at e
    split at e
    · cases e
    · split at e <;> cases e
    · split at e
      · rename_i a b c
        cases e
        obtain ⟨v, w, rfl, q1, q2⟩ := dws2 hd
        obtain ⟨p1, v1, rfl, h1, d1⟩ := q1.list s
        obtain ⟨p2, v2, rfl, h2, d2⟩ := q2.list s
        refine .inr (.inr ⟨p1, p2, v1, v2, rfl, rfl, h1, h2, by rw [dps_len d1, dps_len d2]; exact c, fun p hp => k _ p (dps_app d1 d2) hp⟩)
      · cases e
    · cases e
  nt := fun ds es G H vs Q e _ _ _ => by
    unfold opAdd at e
    split at e
    · cases e
    · split at e <;> cases e
    · split at e <;> cases e
    · cases e
theorem se_add {a b : Expr} {ea eb : EvE} {pos : Pos} (ha : SE X ea a) (hb : SE X eb b) : SE X (eOp opAdd (es2 ea eb)) (.BinOp a .Add b pos) := by
  obtain ⟨ta, p1, q1⟩ := ha
  obtain ⟨tb, p2, q2⟩ := hb
  exact ⟨_, pe_op (op_add.or (op_add_str.or op_catR)) p1 p2, er_op2 q1 q2 ok_add⟩
/-- two ints in, a scalar out -/
def opII (c : Int → Int → Bool) (g : Int → Int → PyData) : List PyData → Option Op
  | [.int i, .int j] => if c i j = true then some (.val (g i j)) else none
  | _ => none
theorem ok_ii {C : Int → Int → Prop} {c : Int → Int → Bool} {g : Int → Int → PyData} {h : Int → Int → V} (hC : ∀ i j, c i j = true → C i j) (hs : ∀ i j, isSc (g i j) = true) (hg : ∀ (H : Hp) i j, Dx K H (h i j) (g i j)) :
    OpOk K (r2 (rI C h)) (opII c g) := .ofSc (fun ds res e => by
      unfold opII at e
      split at e
      · split at e
        · cases e; exact ⟨_, rfl, hs _ _⟩
        · cases e
      · cases e) fun ds d H vs Q e hd k => by
      unfold opII at e
      split at e
      · split at e
        · rename_i z
          cases e
          obtain ⟨v, w, rfl, a, b⟩ := dps2 hd
          cases a; cases b
          exact ⟨_, _, rfl, rfl, hC _ _ z, k _ (hg _ _ _)⟩
        · cases e
      · cases e
theorem ok_ii0 {g : Int → Int → PyData} {h : Int → Int → V} (hs : ∀ i j, isSc (g i j) = true) (hg : ∀ (H : Hp) i j, Dx K H (h i j) (g i j)) :
    OpOk K (r2 (rI0 h)) (opII (fun _ _ => true) g) := .ofSc (fun ds res e => by
      unfold opII at e
      split at e
      · rw [if_pos rfl] at e; cases e; exact ⟨_, rfl, hs _ _⟩
      · cases e) fun ds d H vs Q e hd k => by
      unfold opII at e
      split at e
      · rw [if_pos rfl] at e
        cases e
        obtain ⟨v, w, rfl, a, b⟩ := dps2 hd
        cases a; cases b
        exact ⟨_, _, rfl, rfl, k _ (hg _ _ _)⟩
      · cases e
theorem se_bin2 {op : Operator} {r : R2} {fn : List PyData → Option Op} (ho : OpR X (binaryOp op) r) (ok : OpOk X.K (r2 r) fn) {a b : Expr} {ea eb : EvE} {pos : Pos} (ha : SE X ea a) (hb : SE X eb b) : SE X (eOp fn (es2 ea eb)) (.BinOp a op b pos) := by
  obtain ⟨ta, p1, q1⟩ := ha
  obtain ⟨tb, p2, q2⟩ := hb
  exact ⟨_, pe_op ho p1 p2, er_op2 q1 q2 ok⟩
def opSub := opII (fun _ _ => true) fun i j => .int (i - j)
def mulFits (i j : Int) : Bool := decide (i.natAbs.log2 + j.natAbs.log2 < 1000000)
def opMul := opII mulFits fun i j => .int (i * j)
def divFits (_ j : Int) : Bool := decide (j ≠ 0 ∧ j.natAbs.log2 < 9000)
/-- floor division, whatever the divisor's sign -/
def divV (i j : Int) : Int := if 0 < j then i / j else Int.fdiv i j
theorem divV_pos {i j : Int} (h : 0 < j) : divV i j = i / j := if_pos h
theorem op_fdivA : OpR X (binaryOp .FloorDiv) (rI (fun _ j => j ≠ 0 ∧ j.natAbs.log2 < 9000) fun i j => .int (divV i j)) := opI fun i j _ _ _ _ _ hc q => by
  refine floordiv_int hc.1 ?_ (.inl (PyProof.noPylong_of_log2 hc.2))
  by_cases h : 0 < j
  · rw [divV_pos h] at q
    rw [Int.fdiv_eq_ediv_of_nonneg i (by omega)]; exact q
  · rw [show divV i j = Int.fdiv i j from if_neg h] at q
    exact q
def opDiv := opII divFits fun i j => .int (divV i j)
def opMod := opII (fun _ j => decide (0 < j)) fun i j => .int (i % j)
def powFits (i j : Int) : Bool := decide (0 ≤ j ∧ j ≤ 1000000 ∧ i.natAbs < 2 ^ 64)
def opPow := opII powFits fun i j => .int (i ^ j.toNat)
theorem se_sub {a b : Expr} {ea eb : EvE} {pos : Pos} (ha : SE X ea a) (hb : SE X eb b) : SE X (eOp opSub (es2 ea eb)) (.BinOp a .Sub b pos) := se_bin2 op_sub (ok_ii0 (fun _ _ => rfl) fun _ _ _ => .int _) ha hb
theorem se_mul {a b : Expr} {ea eb : EvE} {pos : Pos} (ha : SE X ea a) (hb : SE X eb b) : SE X (eOp opMul (es2 ea eb)) (.BinOp a .Mult b pos) := se_bin2 op_mulW (ok_ii (fun i j h => of_decide_eq_true (p := i.natAbs.log2 + j.natAbs.log2 < 1000000) h) (fun _ _ => rfl) fun _ _ _ => .int _) ha hb
theorem se_div {a b : Expr} {ea eb : EvE} {pos : Pos} (ha : SE X ea a) (hb : SE X eb b) : SE X (eOp opDiv (es2 ea eb)) (.BinOp a .FloorDiv b pos) := se_bin2 op_fdivA (ok_ii (fun i j h => of_decide_eq_true (p := j ≠ 0 ∧ j.natAbs.log2 < 9000) h) (fun _ _ => rfl) fun _ _ _ => .int _) ha hb
theorem se_mod {a b : Expr} {ea eb : EvE} {pos : Pos} (ha : SE X ea a) (hb : SE X eb b) : SE X (eOp opMod (es2 ea eb)) (.BinOp a .Mod b pos) := se_bin2 op_mod (ok_ii (fun _ _ h => of_decide_eq_true h) (fun _ _ => rfl) fun _ _ _ => .int _) ha hb
theorem se_pow {a b : Expr} {ea eb : EvE} {pos : Pos} (ha : SE X ea a) (hb : SE X eb b) : SE X (eOp opPow (es2 ea eb)) (.BinOp a .Pow b pos) := se_bin2 op_pow (ok_ii (fun i j h => of_decide_eq_true (p := 0 ≤ j ∧ j ≤ 1000000 ∧ i.natAbs < 2 ^ 64) h) (fun _ _ => rfl) fun _ _ _ => .int _) ha hb
def opNeg : List PyData → Option Op
  | [.int i] => some (.val (.int (-i)))
  | _ => none
theorem ok_neg : OpOk K (r1 (rU fun i => .int (-i))) opNeg := .ofSc (fun ds res e => by
    unfold opNeg at e
    split at e
    · cases e; exact ⟨_, rfl, rfl⟩
    · cases e) fun ds d H vs Q e hd k => by
    unfold opNeg at e
    split at e
    · cases e
      obtain ⟨v, rfl, a⟩ := dps1 hd
      cases a
      exact ⟨_, rfl, k _ (.int _)⟩
    · cases e
theorem se_neg {a : Expr} {ea : EvE} {pos : Pos} (ha : SE X ea a) : SE X (eOp opNeg (es1 ea)) (.UnaryOp .USub a pos) := by
  obtain ⟨ta, p1, q1⟩ := ha
  exact ⟨_, pe_un un_neg p1, er_op1 q1 ok_neg⟩

/-! ### comparisons -/
theorem se_cmp {op : CmpOp} {r : R2} {fn : List PyData → Option Op} (ho : OpR X (compareOp op) r) (ok : OpOk X.K (r2 r) fn) {a b : Expr} {ea eb : EvE} {pos : Pos} (ha : SE X ea a) (hb : SE X eb b) (hm : behindInMarks op b = false) : SE X (eOp fn (es2 ea eb)) (.Compare a [op] [b] pos) := by
  obtain ⟨ta, p1, q1⟩ := ha
  obtain ⟨tb, p2, q2⟩ := hb
  exact ⟨_, pe_cmpR ho p1 p2 hm, er_op2 q1 q2 ok⟩
theorem st_cmp {op : CmpOp} {r : R2} {fn : List PyData → Option Op} (ho : OpR X (compareOp op) r) (ok : OpOk X.K (r2 r) fn) {a b : Expr} {ea eb : EvE} {pos : Pos} (ha : SE X ea a) (hb : SE X eb b) (hm : behindInMarks op b = false) : STt X (tBl (eOp fn (es2 ea eb))) (.Compare a [op] [b] pos) := by
  obtain ⟨ta, p1, q1⟩ := ha
  obtain ⟨tb, p2, q2⟩ := hb
  exact ⟨_, pt_cmpR ho p1 p2 hm, tr_bl (er_op2 q1 q2 ok)⟩
/-- an order on ints, on texts -/
def opOrd (p : Int → Int → Bool) (q : Str → Str → Bool) : List PyData → Option Op
  | [.int i, .int j] => some (.val (.bool (p i j)))
  | [.str a, .str b] => some (.val (.bool (q a b)))
  | _ => none
def rOrd (p : Int → Int → Bool) (q : Str → Str → Bool) : R2 := fun x y H Q => rI0 (fun i j => .bl (p i j)) x y H Q ∨ ∃ i j, x = .str i ∧ y = .str j ∧ Q (.bl (q i j)) H
theorem ok_ord {p : Int → Int → Bool} {q : Str → Str → Bool} : OpOk K (r2 (rOrd p q)) (opOrd p q) := .ofSc (fun ds res e => by
    unfold opOrd at e
    split at e
    · cases e; exact ⟨_, rfl, rfl⟩
    · cases e; exact ⟨_, rfl, rfl⟩
    · cases e) fun ds d H vs Q e hd k => by
    unfold opOrd at e
    split at e
    · cases e
      obtain ⟨v, w, rfl, a, b⟩ := dps2 hd
      cases a; cases b
      exact .inl ⟨_, _, rfl, rfl, k _ (.bl _)⟩
    · cases e
      obtain ⟨v, w, rfl, a, b⟩ := dps2 hd
      cases a; cases b
      exact .inr ⟨_, _, rfl, rfl, k _ (.bl _)⟩
    · cases e
def strLt (a b : Str) : Bool := decide (a.cps.toList < b.cps.toList)
def opLt := opOrd (fun i j => decide (i < j)) strLt
def opLe := opOrd (fun i j => decide (i ≤ j)) fun a b => !strLt b a
def opGt := opOrd (fun i j => decide (j < i)) fun a b => strLt b a
def opGe := opOrd (fun i j => decide (j ≤ i)) fun a b => !strLt a b
def rLt' := rOrd (fun i j => decide (i < j)) strLt
def rLe' := rOrd (fun i j => decide (i ≤ j)) fun a b => !strLt b a
def rGt' := rOrd (fun i j => decide (j < i)) fun a b => strLt b a
def rGe' := rOrd (fun i j => decide (j ≤ i)) fun a b => !strLt a b
theorem or_lt : OpR X (compareOp .Lt) rLt' := op_lt.or op_lt_str
theorem or_le : OpR X (compareOp .LtE) rLe' := op_le.or op_le_str
theorem or_gt : OpR X (compareOp .Gt) rGt' := op_gt.or op_gt_str
theorem or_ge : OpR X (compareOp .GtE) rGe' := op_ge.or op_ge_str
def opEq : List PyData → Option Op
  | [.str a, .str b] => some (.val (.bool ((a == b))))
  | [d, e] => if (SeqAt.shaped d && SeqAt.shaped e) = true then some (.val (.bool (PyData.eqv d e))) else none
  | _ => none
def opNe : List PyData → Option Op
  | [.str a, .str b] => some (.val (.bool (!(a == b))))
  | [d, e] => if (SeqAt.shaped d && SeqAt.shaped e) = true then some (.val (.bool (!PyData.eqv d e))) else none
  | _ => none
def rEqB (K : PySem.W.Frag) : R2 := fun x y H Q => rEq x y H Q ∨ rEqD K x y H Q
theorem ok_eq : OpOk K (r2 (rEqB K)) opEq := .ofSc (fun ds res e => by
    unfold opEq at e
    split at e
    · cases e; exact ⟨_, rfl, rfl⟩
    · split at e
      · cases e; exact ⟨_, rfl, rfl⟩
      · cases e
    · cases e) fun ds d H vs Q e hd k => by
    unfold opEq at e
    split at e
    · rename_i a b
      cases e
      obtain ⟨v, w, rfl, ha, hb⟩ := dps2 hd
      cases ha; cases hb
      have q : decide (V.str a = V.str b) = (a == b) := by
        rw [Bool.eq_iff_iff, decide_eq_true_eq, beq_iff_eq]
        exact ⟨fun h => V.str.inj h, fun h => by rw [h]⟩
      refine .inl ⟨rfl, ?_⟩
      rw [q]
      exact k _ (.bl _)
    · split at e
      · rename_i c
        cases e
        obtain ⟨v, w, rfl, a, b⟩ := dps2 hd
        obtain ⟨c1, c2⟩ := Bool.and_eq_true_iff.mp c
        exact .inr ⟨_, _, a.dp (PyData.hasDict_of_canLay _ (Bool.and_eq_true_iff.mp c1).1), b.dp (PyData.hasDict_of_canLay _ (Bool.and_eq_true_iff.mp c2).1), c1, c2, k _ (.bl _)⟩
      · cases e
    · cases e
theorem or_eq (hu : X.A.units + 64 < cLine) : OpR X (compareOp .Eq) (rEqB X.K) := op_eq.or (op_eqD hu)
def rNeB (K : PySem.W.Frag) : R2 := fun x y H Q => rNe x y H Q ∨ rNeD K x y H Q
theorem ok_ne : OpOk K (r2 (rNeB K)) opNe := .ofSc (fun ds res e => by
    unfold opNe at e
    split at e
    · cases e; exact ⟨_, rfl, rfl⟩
    · split at e
      · cases e; exact ⟨_, rfl, rfl⟩
      · cases e
    · cases e) fun ds d H vs Q e hd k => by
    unfold opNe at e
    split at e
    · rename_i a b
      cases e
      obtain ⟨v, w, rfl, ha, hb⟩ := dps2 hd
      cases ha; cases hb
      have q : decide (V.str a = V.str b) = (a == b) := by
        rw [Bool.eq_iff_iff, decide_eq_true_eq, beq_iff_eq]
        exact ⟨fun h => V.str.inj h, fun h => by rw [h]⟩
      refine .inl ⟨rfl, ?_⟩
      rw [q]
      exact k _ (.bl _)
    · split at e
      · rename_i c
        cases e
        obtain ⟨v, w, rfl, a, b⟩ := dps2 hd
        obtain ⟨c1, c2⟩ := Bool.and_eq_true_iff.mp c
        exact .inr ⟨_, _, a.dp (PyData.hasDict_of_canLay _ (Bool.and_eq_true_iff.mp c1).1), b.dp (PyData.hasDict_of_canLay _ (Bool.and_eq_true_iff.mp c2).1), c1, c2, k _ (.bl _)⟩
      · cases e
    · cases e
theorem or_ne (hu : X.A.units + 64 < cLine) : OpR X (compareOp .NotEq) (rNeB X.K) := op_ne.or (op_neD hu)
/-- in: one sign in a text; data in a list; a text in a tuple of texts -/
def strs? : List PyData → Option (List Str)
  | [] => some []
  | .str x :: r => match strs? r with
    | some xs => some (x :: xs)
    | none => none
  | _ => none
def opIn (neg : Bool) : List PyData → Option Op
  | [.str x, .str z] => match x.cps.toList with
    | [c] => some (.val (.bool (if neg then !decide (c ∈ z.cps.toList) else decide (c ∈ z.cps.toList))))
    | _ => none
  | [d, .list ds] => if (SeqAt.shaped d && SeqAt.shaped (.list ds)) = true then some (.val (.bool (if neg then !(ds.any fun z => PyData.eqv z d) else ds.any fun z => PyData.eqv z d))) else none
  | [.str x, .tuple ds] => match strs? ds with
    | some xs => some (.val (.bool (if neg then !xs.contains x else xs.contains x)))
    | none => none
  | _ => none
end
end DX
/-! DXOps2: in, subscripts, slices, displays, built-ins, methods of texts. -/
namespace DX
open PySem PySem.Spec PyProof.Rows L2

section
variable {K : PySem.W.Frag} {X : Cx}
theorem strs_dx {H : Hp} : ∀ {ds : List PyData} {xs : List Str} {vs : List V}, strs? ds = some xs → DxAll K H vs ds → vs = xs.map V.str
  | [], xs, _, e, h => by
    simp [strs?] at e; subst e; cases h; rfl
  | d :: r, xs, _, e, h => by
    cases h with
    | cons a b =>
      cases d with
      | str x =>
        simp only [strs?] at e
        split at e
        · rename_i ys e2
          cases e; cases a
          rw [strs_dx e2 b]; rfl
        · cases e
      | _ => simp [strs?] at e
theorem inV_strs (x : Str) : ∀ xs : List Str, inV (.str x) (xs.map V.str) = xs.contains x
  | [] => rfl
  | y :: xs => by
    have ih := inV_strs x xs
    unfold inV at ih ⊢
    simp only [List.map_cons, List.any_cons, List.contains_cons, ih]
    congr 1
    show (y == x) = (x == y)
    exact Bool.beq_comm
theorem flat_strs : ∀ xs : List Str, (xs.map V.str).all flatV = true
  | [] => rfl
  | _ :: xs => by simp only [List.map_cons, List.all_cons, flat_strs xs]; rfl
def rIn3 (K : PySem.W.Frag) : R2 := fun x y H Q => (∃ (c : Nat) (z : Str), x = .str ⟨#[c]⟩ ∧ y = .str z ∧ Q (.bl (decide (c ∈ z.cps.toList))) H) ∨ rInD K x y H Q ∨ rIn K false x y H Q
def rNi3 (K : PySem.W.Frag) : R2 := fun x y H Q => (∃ (c : Nat) (z : Str), x = .str ⟨#[c]⟩ ∧ y = .str z ∧ Q (.bl (!decide (c ∈ z.cps.toList))) H) ∨ rNotInD K x y H Q ∨ rIn K true x y H Q
theorem or_in (hu : X.A.units + 65 < cLine) : OpR X (compareOp .In) (rIn3 X.K) := op_in_sign.or ((op_inD hu).or op_in_seq)
theorem or_ni (hu : X.A.units + 65 < cLine) : OpR X (compareOp .NotIn) (rNi3 X.K) := op_notIn_sign.or ((op_notInD hu).or op_notIn_seq)
theorem one_sign {x : Str} {c : Nat} (h : x.cps.toList = [c]) : x = ⟨#[c]⟩ := by
  obtain ⟨a⟩ := x
  have : a = #[c] := by
    apply Array.toList_inj.mp
    exact h
  rw [this]
theorem opIn_sc {n : Bool} (ds : List PyData) (res : Op) (e : opIn n ds = some res) : ∃ d, res = .val d ∧ isSc d = true := by
  unfold opIn at e
  split at e
  · split at e
    · cases e; exact ⟨_, rfl, rfl⟩
    · cases e
  · split at e
    · cases e; exact ⟨_, rfl, rfl⟩
    · cases e
  · split at e
    · cases e; exact ⟨_, rfl, rfl⟩
    · cases e
  · cases e
theorem ok_in : OpOk K (r2 (rIn3 K)) (opIn false) := .ofSc opIn_sc fun ds d H vs Q e hd k => by
  unfold opIn at e
  split at e
  · split at e
    · rename_i x z _ c e2
      cases e
      obtain ⟨v, w, rfl, a, b⟩ := dps2 hd
      cases a; cases b
      exact .inl ⟨c, z, by rw [one_sign e2], rfl, k _ (.bl _)⟩
    · cases e
  · split at e
    · rename_i c
      cases e
      obtain ⟨v, w, rfl, a, b⟩ := dps2 hd
      obtain ⟨c1, c2⟩ := Bool.and_eq_true_iff.mp c
      exact .inr (.inl ⟨_, _, a.dp (PyData.hasDict_of_canLay _ (Bool.and_eq_true_iff.mp c1).1), b.dp (PyData.hasDict_of_canLay _ (Bool.and_eq_true_iff.mp c2).1), c1, c2, k _ (.bl _)⟩)
    · cases e
  · split at e
    · rename_i xs e2
      cases e
      obtain ⟨v, w, rfl, a, b⟩ := dps2 hd
      cases a
      cases b with
      | tup q r =>
        have ev := strs_dx e2 r
        subst ev
        exact .inr (.inr ⟨_, _, rfl, .inr q, rfl, flat_strs _, by rw [inV_strs]; exact k _ (.bl _)⟩)
    · cases e
  · cases e
theorem ok_ni : OpOk K (r2 (rNi3 K)) (opIn true) := .ofSc opIn_sc fun ds d H vs Q e hd k => by
  unfold opIn at e
  split at e
  · split at e
    · rename_i x z _ c e2
      cases e
      obtain ⟨v, w, rfl, a, b⟩ := dps2 hd
      cases a; cases b
      exact .inl ⟨c, z, by rw [one_sign e2], rfl, k _ (.bl _)⟩
    · cases e
  · split at e
    · rename_i c
      cases e
      obtain ⟨v, w, rfl, a, b⟩ := dps2 hd
      obtain ⟨c1, c2⟩ := Bool.and_eq_true_iff.mp c
      exact .inr (.inl ⟨_, _, a.dp (PyData.hasDict_of_canLay _ (Bool.and_eq_true_iff.mp c1).1), b.dp (PyData.hasDict_of_canLay _ (Bool.and_eq_true_iff.mp c2).1), c1, c2, k _ (.bl _)⟩)
    · cases e
  · split at e
    · rename_i xs e2
      cases e
      obtain ⟨v, w, rfl, a, b⟩ := dps2 hd
      cases a
      cases b with
      | tup q r =>
        have ev := strs_dx e2 r
        subst ev
        exact .inr (.inr ⟨_, _, rfl, .inr q, rfl, flat_strs _, by rw [inV_strs]; exact k _ (.bl _)⟩)
    · cases e
  · cases e

/-! ### subscripts -/
def opIx : List PyData → Option Op
  | [.list xs, .int i] => match atI xs i with
    | some d => some (.val d)
    | none => none
  | [.tuple xs, .int i] => match atI xs i with
    | some d => some (.val d)
    | none => none
  | [.str z, .int i] => match atI z.cps.toList i with
      | some c => some (.val (.str ⟨#[c]⟩))
      | none => none
  | _ => none
theorem atI_dx {H : Hp} {vs : List V} {ds : List PyData} {i : Int} {d : PyData} (h : DxAll K H vs ds) (e : atI ds i = some d) : ∃ v, atI vs i = some v ∧ Dx K H v d := by
  unfold atI at e ⊢
  rw [dps_len h]
  cases q : ixN ds.length i with
  | none => rw [q] at e; cases e
  | some j =>
    rw [q] at e
    exact dps_get h e
theorem ok_ix : OpOk K (r2 (rIx K)) opIx where
  sc := fun ds d H vs Q e _ hd k => by
    unfold opIx at e
    split at e
    · split at e
      · rename_i e2
        cases e
        obtain ⟨v, w, rfl, a, b⟩ := dps2 hd
        cases b
        cases a with
        | lst q r =>
          obtain ⟨u, h1, h2⟩ := atI_dx r e2
          exact .inl ⟨_, _, _, u, rfl, rfl, q, h1, k _ h2⟩
      · cases e
    · split at e
      · rename_i e2
        cases e
        obtain ⟨v, w, rfl, a, b⟩ := dps2 hd
        cases b
        cases a with
        | tup q r =>
          obtain ⟨u, h1, h2⟩ := atI_dx r e2
          exact .inr (.inl ⟨_, _, _, u, rfl, rfl, q, h1, k _ h2⟩)
      · cases e
    · split at e
      · rename_i e2
        cases e
        obtain ⟨v, w, rfl, a, b⟩ := dps2 hd
        cases b
        cases a with
        | str _ c => exact .inr (.inr ⟨_, _, _, rfl, rfl, strMax_le' c, e2, k _ (.str _ (by show 1 ≤ strMax; decide))⟩)
      · cases e
    · cases e
  el := fun ds d G H vs Q e z s hd k => by
    unfold opIx at e
    split at e
    · split at e
      · rename_i e2
        cases e
        obtain ⟨v, w, rfl, a, b⟩ := dws2 hd
        obtain ⟨p, us, rfl, q, r⟩ := a.list s
        cases b with
        | sh b =>
          cases b
          obtain ⟨u, h1, h2⟩ := atI_dx r e2
          exact .inl ⟨_, _, _, u, rfl, rfl, q, h1, k _ h2⟩
      · cases e
    · split at e
      · rename_i e2
        cases e
        obtain ⟨v, w, rfl, a, b⟩ := dws2 hd
        obtain ⟨p, us, rfl, q, _, r⟩ := a.tuple s
        cases b with
        | sh b =>
          cases b
          obtain ⟨u, h1, h2⟩ := atI_dx r e2
          exact .inr (.inl ⟨_, _, _, u, rfl, rfl, q, h1, k _ h2⟩)
      · cases e
    · split at e
      · cases e; cases z
      · cases e
    · cases e
  nl := fun ds es G H vs Q e _ _ _ => by
    unfold opIx at e
    split at e
    · split at e <;> cases e
    · split at e <;> cases e
    · split at e <;> cases e
    · cases e
  nt := fun ds es G H vs Q e _ _ _ => by
    unfold opIx at e
    split at e
    · split at e <;> cases e
    · split at e <;> cases e
    · split at e <;> cases e
    · cases e
theorem se_ix {a b : Expr} {ea eb : EvE} {pos : Pos} (ha : SE X ea a) (hb : SE X eb b) (hs : PlainIx b := by exact fun _ _ => rfl) : SE X (eOp opIx (es2 ea eb)) (.Subscript a b pos) := by
  obtain ⟨ta, p1, q1⟩ := ha
  obtain ⟨tb, p2, q2⟩ := hb
  exact ⟨_, pe_ix ix_seq p1 p2 hs, er_op2 q1 q2 ok_ix⟩

/-! ### a part's end, by the operation -/
theorem op_fin {fn : List PyData → Option Op} {r : List V → Hp → VK → Prop} (ok : OpOk K r fn) {σ τ : List (Option V)} {G H H1 : Hp} {f : FP} {os1 os' θ : En} {vs : List V} {rs : List RV} {ds : List PyData} {res : Op} {r' : RV} {Q : VK}
    (ht : τ.length = θ.length) (k1 : Kont K σ τ G H f os1 θ vs rs H1) (e2 : rdAll os1 rs = some ds) (e3 : fn ds = some res) (e : opOut os1 rs res = (r', os')) (k : ∀ v H', Kont K σ τ G H f os' θ [v] [r'] H' → Q v H') : r vs H1 Q := by
  obtain ⟨G1, f1, I1, s1, a1, l1⟩ := k1
  cases res with
  | val d =>
    simp only [opOut] at e
    cases hc : isSc d with
    | true =>
      rw [hc, if_pos rfl] at e
      cases e
      obtain ⟨hd, f2, I2, le⟩ := I1.popA l1 ht a1 e2
      refine ok.sc ds d H1 vs Q e3 hc hd fun v hv => k v H1 (Kont.step (s1.trans (Stp.less le)) (Kont.sh l1 I2 (dp_sc hv hc)))
    | false =>
      rw [hc, if_neg Bool.false_ne_true] at e
      cases e
      obtain ⟨G2, f2, I2, s2, hd⟩ := I1.popB l1 ht a1 e2
      refine ok.el ds d G2 H1 vs Q e3 hc I2.sub hd fun v hv => k v H1 (Kont.step (s1.trans s2) (Kont.sh (by rw [len_softAll]; exact l1) I2 hv))
  | nl es =>
    cases e
    obtain ⟨G2, f2, I2, s2, hd⟩ := I1.popB l1 ht a1 e2
    refine ok.nl ds es G2 H1 vs Q e3 I2.sub hd fun ws p hw hp => ?_
    obtain ⟨f3, I3, s3⟩ := I2.pushNew hw hp
    exact k _ _ ⟨G2, f3, by simpa [List.append_assoc, RV.od] using I3, (s1.trans s2).trans s3, .cons trivial .nil, by rw [len_softAll]; exact l1⟩
  | nt es =>
    cases e
    obtain ⟨G2, f2, I2, s2, hd⟩ := I1.popB l1 ht a1 e2
    refine ok.nt ds es G2 H1 vs Q e3 I2.sub hd fun ws p hw hp => ?_
    obtain ⟨I3, s3⟩ := I2.pushTup hw hp
    exact k _ _ ⟨_, f2, by simpa [List.append_assoc, RV.od] using I3, (s1.trans s2).trans s3, .cons trivial .nil, by rw [len_softAll]; exact l1⟩

/-! ### slices: the parts lo, hi are None where they are left out -/
def cutD (xs : List PyData) (lo hi : Option Int) : List PyData := (xs.drop (HT.sIx xs.length 0 lo)).take (HT.sIx xs.length xs.length hi - HT.sIx xs.length 0 lo)
def opSl (lo hi : Option Int) : List PyData → Option Op
  | [.str z] => some (.val (.str (cutS z lo hi)))
  | [.list xs] => some (.nl (cutD xs lo hi))
  | [.tuple xs] => if HT.sIx xs.length 0 lo = 0 ∧ HT.sIx xs.length xs.length hi = xs.length then some (.val (.tuple xs)) else some (.nt (cutD xs lo hi))
  | _ => none
def rSl3 (K : PySem.W.Frag) : V → Option Int → Option Int → Hp → VK → Prop := fun x lo hi H Q => rSlS x lo hi H Q ∨ rSlL K x lo hi H Q ∨ rSlA K x lo hi H Q
theorem ok_sl {lo hi : Option Int} : OpOk K (r1 fun x => rSl3 K x lo hi) (opSl lo hi) where
  sc := fun ds d H vs Q e z hd k => by
    unfold opSl at e
    split at e
    · cases e
      obtain ⟨v, rfl, a⟩ := dps1 hd
      cases a with
      | str _ c => exact .inl ⟨_, rfl, strMax_le' c, k _ (.str _ (Nat.le_trans (cutS_length _ _ _) c))⟩
    · cases e
    · split at e
      · cases e; cases z
      · cases e
    · cases e
  el := fun ds d G H vs Q e z s hd k => by
    unfold opSl at e
    split at e
    · cases e; cases z
    · cases e
    · split at e
      · rename_i c
        cases e
        obtain ⟨v, rfl, a⟩ := dws1 hd
        cases a with
        | sh q =>
          have q0 := q
          cases q with
          | tup q1 qs =>
            refine .inr (.inr ⟨_, _, rfl, sqT_sub s q1, fun _ => k _ q0, fun hn => ?_⟩)
            rw [dps_len qs] at hn
            exact absurd c hn
      · cases e
    · cases e
  nl := fun ds es G H vs Q e s hd k => by
    unfold opSl at e
    split at e
    · cases e
    · cases e
      obtain ⟨v, rfl, a⟩ := dws1 hd
      obtain ⟨p, us, rfl, q, r⟩ := a.list s
      refine .inr (.inl ⟨_, _, rfl, q, fun p hp => k _ p ?_ hp⟩)
      unfold cutV cutD
      rw [dps_len r]
      exact dps_take _ (dps_drop _ r)
    · split at e <;> cases e
    · cases e
  nt := fun ds es G H vs Q e s hd k => by
    unfold opSl at e
    split at e
    · cases e
    · cases e
    · split at e
      · cases e
      · rename_i c
        cases e
        obtain ⟨v, rfl, a⟩ := dws1 hd
        obtain ⟨p, us, rfl, q, _, r⟩ := a.tuple s
        refine .inr (.inr ⟨_, _, rfl, q, fun hw => ?_, fun _ p hp => k _ p ?_ hp⟩)
        · rw [dps_len r] at hw
          exact absurd hw c
        · unfold cutV cutD
          rw [dps_len r]
          exact dps_take _ (dps_drop _ r)
    · cases e
theorem sl_any : SlR X (rSl3 X.K) := sl_str.or (sl_list.or sl_tupA)
abbrev EvO := En → Option (Option Int × En)
/-- a part of a slice -/
def SO (X : Cx) (ev : EvO) (o : Option Expr) : Prop := ∃ tl, PO X o tl ∧ ∀ (σ τ : List (Option V)) (G H : Hp) (os θ : En) (f : FP) (os' : En) (lo : Option Int) (Q : Option Int → Hp → Prop),
  σ.length = os.length → τ.length = θ.length → SI X.K G H (σ ++ τ) (os ++ θ) f → ev os = some (lo, os') → (∀ H', KontT X.K σ τ G H f os' θ H' → Q lo H') → tl σ H Q
def oNone : EvO := fun os => some (none, os)
def oSome (ev : EvE) : EvO := fun os => match ev os with
  | some (r, os1) => match r.rd os1 with
    | some (.int i) => some (some i, os1)
    | _ => none
  | none => none
theorem so_none : SO X oNone none := ⟨_, po_none, fun σ τ G H os θ f os' lo Q hl ht I e k => by
  cases e
  exact k H ⟨G, f, I, Stp.refl _ _ _, hl⟩⟩
theorem so_some {e : Expr} {ev : EvE} (h : SE X ev e) : SO X (oSome ev) (some e) := by
  obtain ⟨te, p, q⟩ := h
  refine ⟨_, po_some p, fun σ τ G H os θ f os' lo Q hl ht I e k => ?_⟩
  unfold oSome at e
  split at e
  · rename_i r os1 e1
    split at e
    · rename_i i e2
      cases e
      exact q σ τ G H os θ f _ _ _ hl ht I e1 fun v H1 k1 => by
        have hv := k1.read1 ht e2
        cases hv
        exact ⟨i, rfl, k H1 (k1.drop ht)⟩
    · cases e
  · cases e
def eSl (ea : EvE) (el eh : EvO) : EvE := fun os => match ea os with
  | some (r, os1) => match el os1 with
    | some (lo, os2) => match eh os2 with
      | some (hi, os3) => match rdAll os3 [r] with
        | some ds => match opSl lo hi ds with
          | some res => some (opOut os3 [r] res)
          | none => none
        | none => none
      | none => none
    | none => none
  | none => none
theorem se_sl {a : Expr} {lo hi : Option Expr} {ea : EvE} {el eh : EvO} {p2 pos : Pos} (ha : SE X ea a) (hl : SO X el lo) (hh : SO X eh hi) : SE X (eSl ea el eh) (.Subscript a (.Slice lo hi none p2) pos) := by
  obtain ⟨ta, p1, q1⟩ := ha
  obtain ⟨tl, p2, q2⟩ := hl
  obtain ⟨th, p3, q3⟩ := hh
  refine ⟨_, pe_slice sl_any p1 p2 p3, fun σ τ G H os θ f r os' Q hl ht I e k => ?_⟩
  unfold eSl at e
  split at e
  · rename_i r1 os1 e1
    split at e
    · rename_i lo' os2 e2
      split at e
      · rename_i hi' os3 e3
        split at e
        · rename_i ds e4
          split at e
          · rename_i res e5
            have e : opOut os3 [r1] res = (r, os') := Option.some.inj e
            refine q1 σ τ G H os θ f r1 os1 _ hl ht I e1 fun v H1 k1 => ?_
            obtain ⟨G1, f1, I1, s1, a1, l1⟩ := k1
            refine q2 σ (τ ++ [some v]) G1 H1 os1 (θ ++ [r1.od]) f1 os2 lo' _ l1 (by simp [ht]) I1 e2 fun H2 k2 => ?_
            obtain ⟨G2, f2, I2, s2, l2⟩ := k2
            refine q3 σ (τ ++ [some v]) G2 H2 os2 (θ ++ [r1.od]) f2 os3 hi' _ l2 (by simp [ht]) I2 e3 fun H3 k3 => ?_
            obtain ⟨G3, f3, I3, s3, l3⟩ := k3
            exact op_fin ok_sl ht ⟨G3, f3, I3, (s1.trans s2).trans s3, a1, l3⟩ e4 e5 e k
          · cases e
        · cases e
      · cases e
    · cases e
  · cases e

/-! ### displays: what goes in is shared from there on -/
def eTup (es : EvEs) : EvE := fun os => match es os with
  | some (rs, os1) => match rdAll os1 rs with
    | some ds => if ds.length ≤ sizeLine then some (.tm (.sh (.tuple ds)), hardAll os1 rs) else none
    | none => none
  | none => none
def eLst (es : EvEs) : EvE := fun os => match es os with
  | some (rs, os1) => match rdAll os1 rs with
    | some ds => if ds.length ≤ sizeLine then some (.tm (.lst (ds.map OD.sh)), hardAll os1 rs) else none
    | none => none
  | none => none
theorem er_tup {ev : EvEs} {ta : TA} (h : ERs K ev ta) : ER K (eTup ev) (tTup ta) := fun σ τ G H os θ f r os' Q hl ht I e k => by
  unfold eTup at e
  split at e
  · rename_i rs os1 e1
    split at e
    · rename_i ds e2
      split at e
      · rename_i c
        cases e
        refine h σ τ G H os θ f rs os1 _ hl ht I e1 fun vs H1 k1 => ?_
        obtain ⟨G1, f1, I1, s1, a1, l1⟩ := k1
        obtain ⟨G2, f2, I2, s2, hd⟩ := I1.popC l1 ht a1 e2
        refine ⟨by rw [dps_len hd]; exact c, fun p hp => ?_⟩
        obtain ⟨I3, s3⟩ := I2.pushTup hd hp
        exact k _ _ ⟨_, f2, by simpa [List.append_assoc, RV.od] using I3, (s1.trans s2).trans s3, .cons trivial .nil, by rw [len_hardAll]; exact l1⟩
      · cases e
    · cases e
  · cases e
theorem er_lst {ev : EvEs} {ta : TA} (h : ERs K ev ta) : ER K (eLst ev) (tLst ta) := fun σ τ G H os θ f r os' Q hl ht I e k => by
  unfold eLst at e
  split at e
  · rename_i rs os1 e1
    split at e
    · rename_i ds e2
      split at e
      · rename_i c
        cases e
        refine h σ τ G H os θ f rs os1 _ hl ht I e1 fun vs H1 k1 => ?_
        obtain ⟨G1, f1, I1, s1, a1, l1⟩ := k1
        obtain ⟨G2, f2, I2, s2, hd⟩ := I1.popC l1 ht a1 e2
        refine ⟨by rw [dps_len hd]; exact c, fun p hp => ?_⟩
        obtain ⟨f3, I3, s3⟩ := I2.pushNew hd hp
        exact k _ _ ⟨G2, f3, by simpa [List.append_assoc, RV.od] using I3, (s1.trans s2).trans s3, .cons trivial .nil, by rw [len_hardAll]; exact l1⟩
      · cases e
    · cases e
  · cases e
theorem se_tup {es : List Expr} {ev : EvEs} {x1 pos} (h : SEs X ev es) : SE X (eTup ev) (.Tuple es x1 pos) := by
  obtain ⟨ta, p, q⟩ := h
  exact ⟨_, pe_tup p, er_tup q⟩
theorem se_lst {es : List Expr} {ev : EvEs} {pos} (h : SEs X ev es) : SE X (eLst ev) (.List es pos) := by
  obtain ⟨ta, p, q⟩ := h
  exact ⟨_, pe_lst p, er_lst q⟩

/-! ### built-ins by name -/
theorem se_bf {x : Str} {id : String} {r : List V → Hp → VK → Prop} {fn : List PyData → Option Op} (hc : CallR X (.builtin id) r) (ok : OpOk X.K r fn) {e : Expr} {es : List Expr} {ev : EvEs} {p pos : Pos} (hm : X.mg x = none) (h : SEs X ev (e :: es))
    (hv : bootBuiltins x = some (.builtin id) := by decide +kernel) (hg : Gl X x := by rfl) (hn : x ≠ "__name__" := by decide) (hdb : (x == ("__debug__" : Str)) = false := by decide) (he : starEach (e :: es) X.env = (false, eval e X.env) :: starEach es X.env := by rfl) (hpl : (backTo pos (starEach es X.env)).any (·.1) = false := by rfl) :
    SE X (eOp fn ev) (.Call (.Name x p) (e :: es) [] pos) := by
  obtain ⟨ta, q1, q2⟩ := h
  exact ⟨_, pe_callB hc hg hm hv q1 hn hdb he hpl, er_op q2 ok⟩
theorem se_bt {x : Str} {T : String} {r : List V → Hp → VK → Prop} {fn : List PyData → Option Op} (hc : CallR X (.type T) r) (ok : OpOk X.K r fn) {e : Expr} {es : List Expr} {ev : EvEs} {p pos : Pos} (hm : X.mg x = none) (h : SEs X ev (e :: es))
    (hv : bootBuiltins x = some (.type T) := by decide +kernel) (hg : Gl X x := by rfl) (hn : x ≠ "__name__" := by decide) (hdb : (x == ("__debug__" : Str)) = false := by decide) (he : starEach (e :: es) X.env = (false, eval e X.env) :: starEach es X.env := by rfl) (hpl : (backTo pos (starEach es X.env)).any (·.1) = false := by rfl) : SE X (eOp fn ev) (.Call (.Name x p) (e :: es) [] pos) := by
  obtain ⟨ta, q1, q2⟩ := h
  exact ⟨_, pe_callTy hc hg hm hv q1 hn hdb he hpl, er_op q2 ok⟩

def opLen : List PyData → Option Op
  | [.str z] => some (.val (.int z.length))
  | [.list xs] => some (.val (.int xs.length))
  | [.tuple xs] => some (.val (.int xs.length))
  | _ => none
theorem ok_len : OpOk K (fun xs H Q => ∃ x n, xs = [x] ∧ LenV K x H n ∧ Q (.int n) H) opLen := .ofSc (fun ds res e => by
    unfold opLen at e
    split at e
    · cases e; exact ⟨_, rfl, rfl⟩
    · cases e; exact ⟨_, rfl, rfl⟩
    · cases e; exact ⟨_, rfl, rfl⟩
    · cases e) fun ds d H vs Q e hd k => by
    unfold opLen at e
    split at e
    · cases e
      obtain ⟨v, rfl, a⟩ := dps1 hd
      cases a with
      | str _ c => exact ⟨_, _, rfl, ⟨strMax_le' c, rfl⟩, k _ (.int _)⟩
    · cases e
      obtain ⟨v, rfl, a⟩ := dps1 hd
      cases a with
      | lst q r => exact ⟨_, _, rfl, .inl ⟨_, q, (dps_len r).symm⟩, k _ (.int _)⟩
    · cases e
      obtain ⟨v, rfl, a⟩ := dps1 hd
      cases a with
      | tup q r => exact ⟨_, _, rfl, .inr ⟨_, q, (dps_len r).symm⟩, k _ (.int _)⟩
    · cases e
def opAbs : List PyData → Option Op
  | [.int i] => some (.val (.int (if i < 0 then -i else i)))
  | _ => none
theorem ok_abs : OpOk K (fun xs H Q => ∃ i, xs = [.int i] ∧ Q (.int (if i < 0 then -i else i)) H) opAbs := .ofSc (fun ds res e => by
    unfold opAbs at e
    split at e
    · cases e; exact ⟨_, rfl, rfl⟩
    · cases e) fun ds d H vs Q e hd k => by
    unfold opAbs at e
    split at e
    · cases e
      obtain ⟨v, rfl, a⟩ := dps1 hd
      cases a
      exact ⟨_, rfl, k _ (.int _)⟩
    · cases e
def opMax2 : List PyData → Option Op
  | [.int i, .int j] => some (.val (.int (if j > i then j else i)))
  | _ => none
theorem ok_max2 : OpOk K (fun xs H Q => ∃ i j, xs = [.int i, .int j] ∧ Q (.int (if j > i then j else i)) H) opMax2 := .ofSc (fun ds res e => by
    unfold opMax2 at e
    split at e
    · cases e; exact ⟨_, rfl, rfl⟩
    · cases e) fun ds d H vs Q e hd k => by
    unfold opMax2 at e
    split at e
    · cases e
      obtain ⟨v, w, rfl, a, b⟩ := dps2 hd
      cases a; cases b
      exact ⟨_, _, rfl, k _ (.int _)⟩
    · cases e
def opMin2 : List PyData → Option Op
  | [.int i, .int j] => some (.val (.int (if j < i then j else i)))
  | _ => none
theorem ok_min2 : OpOk K (fun xs H Q => ∃ i j, xs = [.int i, .int j] ∧ Q (.int (if j < i then j else i)) H) opMin2 := .ofSc (fun ds res e => by
    unfold opMin2 at e
    split at e
    · cases e; exact ⟨_, rfl, rfl⟩
    · cases e) fun ds d H vs Q e hd k => by
    unfold opMin2 at e
    split at e
    · cases e
      obtain ⟨v, w, rfl, a, b⟩ := dps2 hd
      cases a; cases b
      exact ⟨_, _, rfl, k _ (.int _)⟩
    · cases e
def opInt : List PyData → Option Op
  | [.int i] => some (.val (.int i))
  | [.bool b] => some (.val (.int (if b then 1 else 0)))
  | _ => none
theorem ok_int : OpOk K (fun xs H Q => (∃ i, xs = [.int i] ∧ Q (.int i) H) ∨ ∃ k, xs = [.bl k] ∧ Q (.int (if k then 1 else 0)) H) opInt := .ofSc (fun ds res e => by
    unfold opInt at e
    split at e
    · cases e; exact ⟨_, rfl, rfl⟩
    · cases e; exact ⟨_, rfl, rfl⟩
    · cases e) fun ds d H vs Q e hd k => by
    unfold opInt at e
    split at e
    · cases e
      obtain ⟨v, rfl, a⟩ := dps1 hd
      cases a
      exact .inl ⟨_, rfl, k _ (.int _)⟩
    · cases e
      obtain ⟨v, rfl, a⟩ := dps1 hd
      cases a
      exact .inr ⟨_, rfl, k _ (.int _)⟩
    · cases e
/-- divmod by a small positive divisor: a new pair -/
def opDivmod : List PyData → Option Op
  | [.int i, .int j] => if 0 < j ∧ j < 1073741824 then some (.nt [.int (i / j), .int (i % j)]) else none
  | _ => none
theorem ok_divmod : OpOk K (fun xs H Q => ∃ i j, xs = [.int i, .int j] ∧ CDiv i j ∧ ∀ p, H p = none → Q (.ref p) (upd H p (.tup [.int (i / j), .int (i % j)]))) opDivmod where
  sc := fun ds d H vs Q e _ _ _ => by
    unfold opDivmod at e
    split at e
    · split at e <;> cases e
    · cases e
  el := fun ds d G H vs Q e _ _ _ _ => by
    unfold opDivmod at e
    split at e
    · split at e <;> cases e
    · cases e
  nl := fun ds es G H vs Q e _ _ _ => by
    unfold opDivmod at e
    split at e
    · split at e <;> cases e
    · cases e
  nt := fun ds es G H vs Q e s hd k => by
    unfold opDivmod at e
    split at e
    · split at e
      · rename_i c
        cases e
        obtain ⟨v, w, rfl, a, b⟩ := dws2 hd
        have a := a.dx s
        have b := b.dx s
        cases a; cases b
        exact ⟨_, _, rfl, c, fun p hp => k _ p (.cons (.int _) (.cons (.int _) .nil)) hp⟩
      · cases e
    · cases e
def bools? : List PyData → Option (List Bool)
  | [] => some []
  | .bool x :: r => match bools? r with
    | some xs => some (x :: xs)
    | none => none
  | _ => none
theorem bools_dx {H : Hp} : ∀ {ds : List PyData} {xs : List Bool} {vs : List V}, bools? ds = some xs → DxAll K H vs ds → vs = xs.map V.bl
  | [], xs, _, e, h => by
    simp [bools?] at e; subst e; cases h; rfl
  | d :: r, xs, _, e, h => by
    cases h with
    | cons a b =>
      cases d with
      | bool x =>
        simp only [bools?] at e
        split at e
        · rename_i ys e2
          cases e; cases a
          rw [bools_dx e2 b]; rfl
        · cases e
      | _ => simp [bools?] at e
def opAll (f : List Bool → Bool) : List PyData → Option Op
  | [.list ds] => match bools? ds with
    | some bs => some (.val (.bool (f bs)))
    | none => none
  | _ => none
theorem ok_all {f : List Bool → Bool} : OpOk K (fun vs H Q => ∃ (a : Addr) (bs : List Bool), vs = [V.ref a] ∧ SqL K H a (bs.map V.bl) ∧ Q (.bl (f bs)) H) (opAll f) := .ofSc (fun ds res e => by
    unfold opAll at e
    split at e
    · split at e
      · cases e; exact ⟨_, rfl, rfl⟩
      · cases e
    · cases e) fun ds d H vs Q e hd k => by
    unfold opAll at e
    split at e
    · split at e
      · rename_i bs e2
        cases e
        obtain ⟨v, rfl, a⟩ := dps1 hd
        cases a with
        | lst q r =>
          have := bools_dx e2 r
          subst this
          exact ⟨_, bs, rfl, q, k _ (.bl _)⟩
      · cases e
    · cases e

/-! ### isinstance of a value and a built-in class -/
def tyN : PyData → String
  | .none => "NoneType"
  | .bool _ => "bool"
  | .int _ => "int"
  | .str _ => "str"
  | .list _ => "list"
  | .tuple _ => "tuple"
  | .dict _ => "dict"
theorem ty_dx {H : Hp} {v : V} {d : PyData} (h : Dx K H v d) (nd : ∀ kv, d ≠ .dict kv) : TyX K H v (.type (tyN d)) := by
  cases h with
  | non => exact .base .non
  | bl b => exact .base (.bl b)
  | int i => exact .base (.int i)
  | str x => exact .base (.str x)
  | lst q r =>
    rcases q with (q | ⟨o, q⟩) | q
    · exact .base (.lst q)
    · exact .base (.frz q)
    · obtain ⟨o, its, n, hk, hc, _⟩ := q
      exact .kList hk hc
  | tup q r =>
    rcases q with (q | ⟨o, q⟩) | q
    · exact .base (.tup q)
    · exact .fTuple q
    · obtain ⟨o, its, n, hk, hc, _⟩ := q
      exact .kTuple hk hc
  | exc _ _ => exact absurd rfl (nd _)
  | exf _ _ => exact absurd rfl (nd _)
def opIsi (n : String) : List PyData → Option Op
  | [.dict _] => none
  | [d] => match kitB (tyN d) n with
    | some b => some (.val (.bool b))
    | none => none
  | _ => none
theorem ok_isi {n : String} : OpOk K (r1 fun x H Q => rIsi K [x, .ty n] H Q) (opIsi n) := .ofSc (fun ds res e => by
    unfold opIsi at e
    split at e
    · cases e
    · split at e
      · cases e; exact ⟨_, rfl, rfl⟩
      · cases e
    · cases e) fun ds d H vs Q e hd k => by
    unfold opIsi at e
    split at e
    · cases e
    · split at e
      · rename_i nd _ b e2
        cases e
        obtain ⟨v, rfl, a⟩ := dps1 hd
        exact ⟨v, .ty n, _, .type n, b, rfl, .ty n, ty_dx a (fun kv z => nd kv (by rw [z])), kit_ty e2, k _ (.bl _)⟩
      · cases e
    · cases e
theorem se_isi {n : String} {y : Str} {a : Expr} {ea : EvE} {p py pos : Pos} (hm : X.mg "isinstance" = none) (hy : X.mg y = none) (ha : SE X ea a)
    (hvy : bootBuiltins y = some (.type n) := by decide +kernel) (hg : Gl X "isinstance" := by rfl) (hgy : Gl X y := by rfl) (hny : y ≠ "__name__" := by decide) (hdy : (y == ("__debug__" : Str)) = false := by decide) (he : starEach (a :: [.Name y py]) X.env = (false, eval a X.env) :: starEach [.Name y py] X.env := by rfl) :
    SE X (eOp (opIsi n) (es1 ea)) (.Call (.Name "isinstance" p) [a, .Name y py] [] pos) := by
  obtain ⟨ta, p1, q1⟩ := ha
  have := pe_callB (X := X) (x := "isinstance") (p := p) (pos := pos) call_isi hg hm (by decide +kernel) (pa_cons p1 (pa_cons (pe_bltn (v := .ty n) (pos := py) hgy hy hvy rfl hny hdy) pa_nil) he) (by decide) (by decide) he (by rfl)
  refine ⟨_, this, ?_⟩
  exact er_op (r := r1 fun x H Q => rIsi X.K [x, .ty n] H Q) (ers_cons q1 ers_nil) ok_isi

/-! ### repr of data -/
def opRepr : List PyData → Option Op
  | [d] => if (d.showable && !d.hasDict && decide (d.depth ≤ 64) && decide (d.shown.length ≤ strMax)) = true then some (.val (.str d.shown)) else none
  | _ => none
def rRepr (K : PySem.W.Frag) : List V → Hp → VK → Prop := fun vs H Q => ∃ v d, vs = [v] ∧ Dp K H v d ∧ d.showable = true ∧ d.hasDict = false ∧ d.depth ≤ 64 ∧ d.shown.length ≤ sizeLine ∧ Q (.str d.shown) H
theorem ok_repr : OpOk K (rRepr K) opRepr := .ofSc (fun ds res e => by
    unfold opRepr at e
    split at e
    · split at e
      · cases e; exact ⟨_, rfl, rfl⟩
      · cases e
    · cases e) fun ds d H vs Q e hd k => by
    unfold opRepr at e
    split at e
    · split at e
      · rename_i c
        cases e
        obtain ⟨v, rfl, a⟩ := dps1 hd
        simp only [Bool.and_eq_true, Bool.not_eq_true', decide_eq_true_eq] at c
        exact ⟨v, _, rfl, a.dp c.1.1.2, c.1.1.1, c.1.1.2, c.1.2, strMax_le' c.2, k _ (.str _ c.2)⟩
      · cases e
    · cases e
theorem call_repr (hg : X.A.guards = some []) (hu : X.A.units + 65 < cLine) : CallR X (.builtin "repr") (rRepr X.K) := by
  intro pins s σ H xs us Q I r h
  obtain ⟨v, d, rfl, hd, c1, c2, c3, c4, q⟩ := h
  cases r with
  | cons rv rn =>
    cases rn
    rename_i u
    have fin : ∀ (h' : Heap) (t : Tok) (tk : Nat), (∀ b o, s.heap.get? b = some o → h'.get? b = some o) → EP X pins σ Q (.str d.shown t) { s with heap := h', toks := tk } := fun h' t tk hk =>
      ⟨.str d.shown, H, I.kept (t' := tk) hk, ⟨t, rfl⟩, q⟩
    have nd : d.hasDict = true → False := fun z => by rw [c2] at z; cases z
    cases hd with
    | non => cases rv; exact PySem.P.repr_of_none (by simpa [PyData.shown] using fin s.heap s.toks (s.toks + 1) fun _ _ e => e)
    | bl b => cases rv; exact PySem.P.repr_of_bool (by simpa [PyData.shown] using fin s.heap s.toks (s.toks + 1) fun _ _ e => e)
    | int i =>
      obtain ⟨t, rfl⟩ := rv
      exact PySem.P.repr_of_int (by simpa [PyData.showable] using c1) (by simpa [PyData.shown] using fin s.heap s.toks (s.toks + 1) fun _ _ e => e)
    | str x =>
      obtain ⟨t, rfl⟩ := rv
      exact PySem.P.repr_of_str (by simpa [PyData.shown] using fin s.heap s.toks (s.toks + 1) fun _ _ e => e) (by simpa [PyData.shown] using c4)
    | lst q1 q2 =>
      obtain ⟨as, rr⟩ := Dp.reads I _ _ _ (.lst q1 q2) rv
      cases rv
      exact PySem.repr_of_reads' rr c1 (fun z => (nd z).elim) hg (by omega) (fun _ _ e => e) (fun h' t tk hk => fin h' t tk hk) c4
    | tup q1 q2 =>
      obtain ⟨as, rr⟩ := Dp.reads I _ _ _ (.tup q1 q2) rv
      cases rv
      exact PySem.repr_of_reads' rr c1 (fun z => (nd z).elim) hg (by omega) (fun _ _ e => e) (fun h' t tk hk => fin h' t tk hk) c4
end
end DX
/-! DXStmt: statements and loops. -/
namespace DX
open PySem PySem.Spec PyProof.Rows L2

inductive Res where
  | nx (os : En)
  | rt (o : OD) (os : En)
  | bk (os : En)
  | ct (os : En)
abbrev EvS := En → Option Res

/-- behind a statement; R: the slots of lists that the caller holds too -/
def KontS (K : PySem.W.Frag) (R : List Nat) (σ : L2.St) (G H : Hp) (f : FP) (os' : En) (σ' : L2.St) (H' : Hp) : Prop :=
  ∃ G' f', SI K G' H' σ' os' f' ∧ Stp G H f G' H' f' ∧ σ'.length = os'.length ∧ ∀ i ∈ R, σ'[i]? = σ[i]?
def KontR (K : PySem.W.Frag) (R : List Nat) (σ : L2.St) (G H : Hp) (f : FP) (o : OD) (os' : En) (v : V) (H' : Hp) : Prop :=
  ∃ G' f' σ', SI K G' H' (σ' ++ [some v]) (os' ++ [some o]) f' ∧ Stp G H f G' H' f' ∧ σ'.length = os'.length ∧ ∀ i ∈ R, σ'[i]? = σ[i]?
def Post (K : PySem.W.Frag) (R : List Nat) (σ : L2.St) (G H : Hp) (f : FP) (D : Ends) : Res → Prop
  | .nx os' => ∀ σ' H', KontS K R σ G H f os' σ' H' → D.nx σ' H'
  | .rt o os' => ∀ v H', KontR K R σ G H f o os' v H' → D.rt v H'
  | .bk os' => ∀ σ' H', KontS K R σ G H f os' σ' H' → D.bk σ' H'
  | .ct os' => ∀ σ' H', KontS K R σ G H f os' σ' H' → D.ct σ' H'
def SR (K : PySem.W.Frag) (R : List Nat) (ev : EvS) (ts : TS) : Prop := ∀ (σ : L2.St) (G H : Hp) (os : En) (f : FP) (res : Res) (D : Ends),
  σ.length = os.length → SI K G H σ os f → ev os = some res → Post K R σ G H f D res → ts D σ H
def SS (X : Cx) (R : List Nat) (ev : EvS) (st : Stmt) : Prop := ∃ ts, PS X st ts ∧ SR X.K R ev ts
def SSs (X : Cx) (R : List Nat) (ev : EvS) (st : List Stmt) : Prop := ∃ ts, PSs X st ts ∧ SR X.K R ev ts

section
variable {K : PySem.W.Frag} {X : Cx} {R : List Nat}
theorem KontS.step {σ σ1 σ' : L2.St} {G H G1 H1 H' : Hp} {f f1 : FP} {os' : En} (s : Stp G H f G1 H1 f1) (r : ∀ i ∈ R, σ1[i]? = σ[i]?) (k : KontS K R σ1 G1 H1 f1 os' σ' H') : KontS K R σ G H f os' σ' H' := by
  obtain ⟨G2, f2, I, s2, l, r2⟩ := k
  exact ⟨G2, f2, I, s.trans s2, l, fun i hi => (r2 i hi).trans (r i hi)⟩
theorem KontR.step {σ σ1 : L2.St} {G H G1 H1 H' : Hp} {f f1 : FP} {o : OD} {os' : En} {v : V} (s : Stp G H f G1 H1 f1) (r : ∀ i ∈ R, σ1[i]? = σ[i]?) (k : KontR K R σ1 G1 H1 f1 o os' v H') : KontR K R σ G H f o os' v H' := by
  obtain ⟨G2, f2, σ2, I, s2, l, r2⟩ := k
  exact ⟨G2, f2, σ2, I, s.trans s2, l, fun i hi => (r2 i hi).trans (r i hi)⟩
theorem Post.step {σ σ1 : L2.St} {G H G1 H1 : Hp} {f f1 : FP} {D : Ends} {res : Res} (s : Stp G H f G1 H1 f1) (r : ∀ i ∈ R, σ1[i]? = σ[i]?) (k : Post K R σ G H f D res) : Post K R σ1 G1 H1 f1 D res := by
  cases res with
  | nx os' => exact fun σ' H' q => k σ' H' (q.step s r)
  | rt o os' => exact fun v H' q => k v H' (q.step s r)
  | bk os' => exact fun σ' H' q => k σ' H' (q.step s r)
  | ct os' => exact fun σ' H' q => k σ' H' (q.step s r)

/-! ### blocks -/
def sNext : EvS := fun os => some (.nx os)
def sSeq (a b : EvS) : EvS := fun os => match a os with
  | some (.nx os1) => b os1
  | r => r
theorem sr_next : SR K R sNext tNext := fun σ G H os f res D hl I e k => by
  cases e
  exact k σ H ⟨G, f, I, Stp.refl _ _ _, hl, fun _ _ => rfl⟩
theorem sr_seq {a b : EvS} {ta tb : TS} (ha : SR K R a ta) (hb : SR K R b tb) : SR K R (sSeq a b) (tSeq ta tb) := fun σ G H os f res D hl I e k => by
  unfold sSeq at e
  cases ea : a os with
  | none => rw [ea] at e; cases e
  | some r1 =>
    rw [ea] at e
    cases r1 with
    | nx os1 =>
      exact ha σ G H os f _ { D with nx := tb D } hl I ea fun σ1 H1 k1 => by
        obtain ⟨G1, f1, I1, s1, l1, q1⟩ := k1
        exact hb σ1 G1 H1 os1 f1 res D l1 I1 e (k.step s1 q1)
    | rt o os1 => cases e; exact ha σ G H os f _ { D with nx := tb D } hl I ea k
    | bk os1 => cases e; exact ha σ G H os f _ { D with nx := tb D } hl I ea k
    | ct os1 => cases e; exact ha σ G H os f _ { D with nx := tb D } hl I ea k
theorem ss_nil' : SSs X R sNext [] := ⟨_, pss_nil, sr_next⟩
theorem ss_cons' {st : Stmt} {rest : List Stmt} {a b : EvS} (h : SS X R a st) (g : SSs X R b rest) : SSs X R (sSeq a b) (st :: rest) := by
  obtain ⟨t, p, q⟩ := h
  obtain ⟨u, p', q'⟩ := g
  exact ⟨_, pss_cons p p', sr_seq q q'⟩
theorem ss_one {st : Stmt} {a : EvS} (h : SS X R a st) : SSs X R a [st] := by
  obtain ⟨t, p, q⟩ := h
  exact ⟨_, pss_one p, q⟩
theorem ss_pass {pos : Pos} : SS X R sNext (.Pass pos) := ⟨_, ps_pass, sr_next⟩
def sBrk : EvS := fun os => some (.bk os)
def sCnt : EvS := fun os => some (.ct os)
theorem ss_brk {pos : Pos} : SS X R sBrk (.Break pos) := ⟨_, ps_break, fun σ G H os f res D hl I e k => by
  cases e
  exact k σ H ⟨G, f, I, Stp.refl _ _ _, hl, fun _ _ => rfl⟩⟩
theorem ss_cnt {pos : Pos} : SS X R sCnt (.Continue pos) := ⟨_, ps_continue, fun σ G H os f res D hl I e k => by
  cases e
  exact k σ H ⟨G, f, I, Stp.refl _ _ _, hl, fun _ _ => rfl⟩⟩

/-! ### return -/
/-- what a value is where it is handed on: a slot's list goes with it -/
def give (os : En) : RV → Option (OD × En)
  | .tm o => some (o, os)
  | .al i => match os[i]? with
    | some (some (.sh d)) => some (.sh d, os)
    | some (some (.lst xs)) => some (.lst xs, os.set i none)
    | some (some (.tpl xs)) => some (.tpl xs, os.set i none)
    | _ => none
def sRet (ev : EvE) : EvS := fun os => match ev os with
  | some (r, os1) => match give os1 r with
    | some (o, os2) => some (.rt o os2)
    | none => none
  | none => none
/-- a slot is emptied: what it held -/
theorem SL.out {G H : Hp} : ∀ {vs : List (Option V)} {os : En} {f : FP} {i : Nat} {o : OD}, SL K G H vs os f → os[i]? = some (some o) →
    ∃ (v : V) (fo fr : FP), vs[i]? = some (some v) ∧ RO K G H v o fo ∧ (∀ a, f a = fo a + fr a) ∧ SL K G H vs (os.set i none) fr
  | _, _, _, _, _, .nil, h => by simp at h
  | _, _, _, 0, _, .un r, h => by simp at h
  | _, _, _, 0, o, .val (v := v) (f := f) (g := g) q r, h => by
    simp at h; subst h
    exact ⟨v, f, g, rfl, q, fun _ => rfl, .un r⟩
  | _, _, _, i + 1, o, .un (v := w) r, h => by
    obtain ⟨v, fo, fr, h1, h2, h3, h5⟩ := SL.out (i := i) r (by simpa using h)
    exact ⟨v, fo, fr, by simpa using h1, h2, h3, .un h5⟩
  | _, _, _, i + 1, o, .val (f := f) (g := g) q r, h => by
    obtain ⟨v, fo, fr, h1, h2, h3, h5⟩ := SL.out (i := i) r (by simpa using h)
    exact ⟨v, fo, fun a => f a + fr a, by simpa using h1, h2, fun a => by (try dsimp only); rw [h3 a]; omega, .val q h5⟩
/-- the value on the stack, and what it is -/
theorem Kont.gives {σ : L2.St} {G H H1 : Hp} {f : FP} {os1 os2 : En} {v : V} {r : RV} {o : OD} (k : Kont K σ [] G H f os1 [] [v] [r] H1) (e : DX.give os1 r = some (o, os2)) :
    ∃ G' f', SI K G' H1 (σ ++ [some v]) (os2 ++ [some o]) f' ∧ Stp G H f G' H1 f' ∧ σ.length = os2.length := by
  obtain ⟨G1, f1, I, s, a, l⟩ := k
  cases r with
  | tm o' => cases e; exact ⟨G1, f1, by simpa [RV.od] using I, s, l⟩
  | al i =>
    have I' : SI K G1 H1 (σ ++ [some v]) (os1 ++ [none]) f1 := by simpa [RV.od] using I
    have hv : σ[i]? = some (some v) := by
      cases a with
      | cons a _ => exact a
    obtain ⟨g, k, h1, h2, h3⟩ := SL.cut l I'.sl
    have J : SI K G1 H1 σ os1 g := I'.forget h1 fun a => by rw [h3]; omega
    have sg : Stp G H f G1 H1 g := s.trans (Stp.less fun a => by rw [h3]; omega)
    have e : (match os1[i]? with | some (some (.sh d)) => some (OD.sh d, os1) | some (some (.lst xs)) => some (OD.lst xs, os1.set i none) | some (some (.tpl xs)) => some (OD.tpl xs, os1.set i none) | _ => none) = some (o, os2) := e
    split at e
    · rename_i d e1
      cases e
      obtain ⟨v', fo, fr, q2, q3, _⟩ := J.sl.at e1
      rw [hv] at q2; cases q2
      cases q3 with
      | sh q3 => exact ⟨G1, g, J.push q3, sg, l⟩
    · rename_i xs e1
      cases e
      obtain ⟨v', fo, fr, q2, q3, q4, q5⟩ := SL.out J.sl e1
      rw [hv] at q2; cases q2
      obtain ⟨k2, k3, k4⟩ := SL.app q5 (SL.val q3 .nil)
      have k5 : ∀ a, k2 a = g a := fun a => by rw [k4, q4]; (try dsimp only); omega
      exact ⟨G1, g, ⟨k3.congr k5, J.sub, J.one, J.hid, J.tk⟩, sg, by rw [List.length_set]; exact l⟩
    · rename_i xs e1
      cases e
      obtain ⟨v', fo, fr, q2, q3, q4, q5⟩ := SL.out J.sl e1
      rw [hv] at q2; cases q2
      obtain ⟨k2, k3, k4⟩ := SL.app q5 (SL.val q3 .nil)
      have k5 : ∀ a, k2 a = g a := fun a => by rw [k4, q4]; (try dsimp only); omega
      exact ⟨G1, g, ⟨k3.congr k5, J.sub, J.one, J.hid, J.tk⟩, sg, by rw [List.length_set]; exact l⟩
    · cases e
theorem sr_ret {ev : EvE} {te : TE} (h : ER K ev te) : SR K R (sRet ev) (tRet te) := fun σ G H os f res D hl I e k => by
  unfold sRet at e
  split at e
  · rename_i r os1 e1
    split at e
    · rename_i o os2 e2
      cases e
      refine h σ [] G H os [] f r os1 _ hl rfl (by simpa using I) e1 fun v H1 k1 => ?_
      obtain ⟨G', f', I', s', l'⟩ := k1.gives e2
      exact k v H1 ⟨G', f', σ, I', s', l', fun _ _ => rfl⟩
    · cases e
  · cases e
theorem ss_ret {e : Expr} {ev : EvE} {pos : Pos} (h : SE X ev e) : SS X R (sRet ev) (.Return (some e) pos) := by
  obtain ⟨te, p, q⟩ := h
  exact ⟨_, ps_ret p, sr_ret q⟩
def sRetN : EvS := fun os => some (.rt (.sh .none) os)
theorem ss_retN {pos : Pos} : SS X R sRetN (.Return none pos) := ⟨_, ps_retN, fun σ G H os f res D hl I e k => by
  cases e
  exact k .non H ⟨G, f, σ, I.push .non, Stp.refl _ _ _, hl, fun _ _ => rfl⟩⟩

/-! ### if -/
def sIf (t : EvT) (a b : EvS) : EvS := fun os => match t os with
  | some (true, os1) => a os1
  | some (false, os1) => b os1
  | none => none
theorem sr_if {t : EvT} {a b : EvS} {tt : TT} {ta tb : TS} (h : TR K t tt) (ha : SR K R a ta) (hb : SR K R b tb) : SR K R (sIf t a b) (tIfS tt ta tb) := fun σ G H os f res D hl I e k => by
  unfold sIf at e
  split at e
  · rename_i os1 e1
    refine h σ [] G H os [] f true os1 _ hl rfl (by simpa using I) e1 fun H1 k1 => ?_
    obtain ⟨G1, f1, I1, s1, l1⟩ := k1
    rw [if_pos rfl]
    exact ha σ G1 H1 os1 f1 res D l1 (by simpa using I1) e (k.step s1 fun _ _ => rfl)
  · rename_i os1 e1
    refine h σ [] G H os [] f false os1 _ hl rfl (by simpa using I) e1 fun H1 k1 => ?_
    obtain ⟨G1, f1, I1, s1, l1⟩ := k1
    rw [if_neg Bool.false_ne_true]
    exact hb σ G1 H1 os1 f1 res D l1 (by simpa using I1) e (k.step s1 fun _ _ => rfl)
  · cases e
theorem ss_if {c : Expr} {a b : List Stmt} {t : EvT} {ea eb : EvS} {pos : Pos} (h : STt X t c) (ha : SSs X R ea a) (hb : SSs X R eb b) : SS X R (sIf t ea eb) (.If c a b pos) := by
  obtain ⟨tt, p, q⟩ := h
  obtain ⟨ta, p1, q1⟩ := ha
  obtain ⟨tb, p2, q2⟩ := hb
  exact ⟨_, ps_if p p1 p2, sr_if q q1 q2⟩

/-! ### an expression alone -/
def sExpr (ev : EvE) : EvS := fun os => match ev os with
  | some (_, os1) => some (.nx os1)
  | none => none
theorem ss_expr {e : Expr} {ev : EvE} {pos : Pos} (h : SE X ev e) (hs : swapsWith e none pos.line X.env = pure false := by rfl) : SS X R (sExpr ev) (.Expr e pos) := by
  obtain ⟨te, p, q⟩ := h
  refine ⟨_, ps_expr p hs, fun σ G H os f res D hl I e k => ?_⟩
  unfold sExpr at e
  split at e
  · rename_i r os1 e1
    cases e
    refine q σ [] G H os [] f r os1 _ hl rfl (by simpa using I) e1 fun v H1 k1 => ?_
    obtain ⟨G1, f1, I1, s1, l1⟩ := k1.drop rfl
    exact k σ H1 ⟨G1, f1, by simpa using I1, s1, l1, fun _ _ => rfl⟩
  · cases e

/-! ### name = value -/
/-- the stack's top goes into slot i -/
theorem SI.store {σ : L2.St} {G H : Hp} {os : En} {f : FP} {v : V} {o : OD} (I : SI K G H (σ ++ [some v]) (os ++ [some o]) f) (hl : σ.length = os.length) {i : Nat} (hi : i < os.length) :
    ∃ f', SI K G H (σ.set i (some v)) (os.set i (some o)) f' ∧ ∀ a, f' a ≤ f a := by
  obtain ⟨v', fo, fr, e, q, r, h⟩ := I.last hl
  cases e
  obtain ⟨fs, h1, _, h3⟩ := SL.put i r hi
  obtain ⟨g, g1, g2⟩ := h3 v o fo q
  exact ⟨g, I.forget g1 fun a => by rw [g2, h]; have := h1 a; omega, fun a => by rw [g2, h]; have := h1 a; omega⟩
def sAsg (R : List Nat) (i : Nat) (ev : EvE) : EvS := fun os => match ev os with
  | some (r, os1) => if i ∈ R ∨ os1.length ≤ i then none else match r with
    | .tm o => some (.nx (os1.set i (some o)))
    | .al j => match (hard os1 (.al j))[j]? with
      | some (some (.sh d)) => some (.nx ((hard os1 (.al j)).set i (some (.sh d))))
      | _ => none
  | none => none
theorem sr_asg {i : Nat} {ev : EvE} {te : TE} (h : ER K ev te) : SR K R (sAsg R i ev) (tAsg te (gName i)) := fun σ G H os f res D hl I e k => by
  unfold sAsg at e
  split at e
  · rename_i r os1 e1
    split at e
    · cases e
    · rename_i hi
      have hiR : i ∉ R := fun z => hi (.inl z)
      have hil : i < os1.length := by
        rcases Nat.lt_or_ge i os1.length with q | q
        · exact q
        · exact absurd (.inr q) hi
      have keepR : ∀ (v : V), ∀ j ∈ R, (σ.set i (some v))[j]? = σ[j]? := fun v j hj => by
        rw [List.getElem?_set_ne (fun z => by subst z; exact hiR hj)]
      refine h σ [] G H os [] f r os1 _ hl rfl (by simpa using I) e1 fun v H1 k1 => ?_
      obtain ⟨G1, f1, I1, s1, a1, l1⟩ := k1
      show D.nx (σ.set i (some v)) H1
      cases r with
      | tm o =>
        cases e
        obtain ⟨f2, I2, le⟩ := (show SI K G1 H1 (σ ++ [some v]) (os1 ++ [some o]) f1 by simpa [RV.od] using I1).store l1 hil
        exact k _ H1 ⟨G1, f2, I2, s1.trans (Stp.less le), by simp [l1], keepR v⟩
      | al j =>
        have hv : σ[j]? = some (some v) := by
          cases a1 with
          | cons a _ => exact a
        have I1 : SI K G1 H1 (σ ++ [some v]) (os1 ++ [none]) f1 := by simpa [RV.od] using I1
        obtain ⟨f2, I2, le⟩ := I1.pop l1
        obtain ⟨G3, f3, I3, s3⟩ := (show SI K G1 H1 σ (os1 ++ []) f2 by simpa using I2).hard (.al j)
        have I3 : SI K G3 H1 σ (hard os1 (.al j)) f3 := by simpa using I3
        have l3 : σ.length = (hard os1 (.al j)).length := by rw [len_hard]; exact l1
        simp only at e
        split at e
        · rename_i d e4
          cases e
          obtain ⟨v', fo, fr, q2, q3, _⟩ := I3.sl.at e4
          rw [hv] at q2; cases q2
          cases q3 with
          | sh q3 =>
            obtain ⟨f4, I4, le4⟩ := (I3.push q3).store l3 (i := i) (by rw [len_hard]; exact hil)
            exact k _ H1 ⟨G3, f4, I4, ((s1.trans (Stp.less le)).trans s3).trans (Stp.less le4), by simp [l3], keepR v⟩
        · cases e
  · cases e
theorem ss_asg (i : Nat) {x : Str} {e : Expr} {ev : EvE} {pos' pos : Pos} (hN : X.N.Nodup) (h : SE X ev e) (hi : X.N[i]? = some x := by rfl) (hx : Loc X.env.scope x := by first | exact Or.inl rfl | exact Or.inr rfl)
    (hs : swapsWith e (some (.Name x pos')) pos.line X.env = pure false := by rfl) (hf : X.fn x = true ∨ X.env.scope.names.lookup x = some .local := by first | exact .inl rfl | exact .inr rfl | assumption) : SS X R (sAsg R i ev) (.Assign [.Name x pos'] e pos) := by
  obtain ⟨te, p, q⟩ := h
  exact ⟨_, ps_set hN hi hx p hs hf, sr_asg q⟩
end
end DX
/-! DXMut: owned lists changed; targets; loops. -/
namespace DX
open PySem PySem.Spec PyProof.Rows L2

section
variable {K : PySem.W.Frag} {X : Cx} {R : List Nat}
theorem SL.mut {σ : L2.St} {G H : Hp} {os : En} {f0 tot : FP} {i : Nat} {xs : List OD} (hs : SL K G H σ os f0) (sub : Sub G H) (tk : TkOk K G H) (one : ∀ a, tot a ≤ 1) (hid : ∀ a, tot a ≠ 0 → G a = none) (h : os[i]? = some (some (.lst xs))) :
    ∃ (p : Addr) (vs : List V) (g0 fr : FP), σ[i]? = some (some (.ref p)) ∧ H p = some (.lst vs) ∧ ROs K G H vs xs g0 ∧ (∀ a, f0 a = (if a = p then 1 else 0) + g0 a + fr a) ∧
      ∀ (vs' : List V) (xs' : List OD) (g' : FP), ROs K G H vs' xs' g' → (∀ a, (if a = p then 1 else 0) + g' a + fr a ≤ tot a) →
        ∃ f', SI K G (upd H p (.lst vs')) σ (os.set i (some (.lst xs'))) f' ∧ (∀ a, f' a ≤ tot a) ∧ Stp G H tot G (upd H p (.lst vs')) f' := by
  obtain ⟨v, fo, fr, h1, h2, h3, h5⟩ := hs.at h
  cases h2 with
  | lst hp hr =>
    rename_i p vs g0
    refine ⟨p, vs, g0, fr, h1, hp, hr, fun a => by rw [h3], fun vs' xs' g' q le => ?_⟩
    have lp : ∀ a, a ≠ p → (upd H p (.lst vs')) a = H a := fun a z => upd_ne z
    have t1 : tot p = 1 := by
      have := le p; have := one p; rw [if_pos rfl] at *; omega
    have gp : g' p = 0 ∧ fr p = 0 := by
      have := le p; rw [if_pos rfl] at this; omega
    have kp : ∀ (a : Addr) (u : HO), a ≠ p → H a = some u → (upd H p (.lst vs')) a = some u := fun a u z e => by rw [lp a z]; exact e
    have q' : ROs K G (upd H p (.lst vs')) vs' xs' g' := q.mono (Sub.refl _) fun a u z e => kp a _ (fun y => by subst y; exact z gp.1) e
    have sb : Sub G (upd H p (.lst vs')) := fun a u e => kp a u (fun y => by
      subst y
      have := hid a (by omega)
      rw [this] at e; cases e) (sub a u e)
    obtain ⟨f', k1, k2⟩ := h5 G (upd H p (.lst vs')) (Sub.refl _) (fun a u z e => kp a _ (fun y => by subst y; exact z gp.2) e) (.ref p) (.lst xs') _ (.lst upd_same q')
    rw [set_id h1] at k1
    have lef : ∀ a, f' a ≤ tot a := fun a => by rw [k2]; (try dsimp only); have := le a; omega
    refine ⟨f', ⟨k1, sb, fun a => Nat.le_trans (lef a) (one a), fun a z => hid a (by have := lef a; omega), tk.lst' hp⟩, lef, ⟨Sub.refl _, fun a o e z => kp a _ (fun y => by subst y; omega) e, fun a e => ?_, fun a e => .inl e, fun a z => .inl (by have := lef a; omega)⟩⟩
    by_cases y : a = p
    · subst y; rw [upd_same]; simp
    · rw [lp a y]; exact e

/-! ### append -/
def sApp (i : Nat) (ev : EvE) : EvS := fun os => match os[i]? with
  | some (some (.lst _)) => match ev os with
    | some (.tm o, os1) => match os1[i]? with
      | some (some (.lst xs)) => if xs.length < sizeLine then some (.nx (os1.set i (some (.lst (xs ++ [o]))))) else none
      | _ => none
    | some (.al j, os1) => match (hard os1 (.al j))[j]?, (hard os1 (.al j))[i]? with
      | some (some (.sh d)), some (some (.lst xs)) => if xs.length < sizeLine then some (.nx ((hard os1 (.al j)).set i (some (.lst (xs ++ [.sh d]))))) else none
      | _, _ => none
    | none => none
  | _ => none
theorem ROs.one {G H : Hp} {v : V} {o : OD} {f : FP} (h : RO K G H v o f) : ROs K G H [v] [o] f := by
  have : ROs K G H [v] [o] (fun a => f a + 0) := .cons h .nil
  exact this
theorem SI.app {σ : L2.St} {G H : Hp} {os : En} {f : FP} {v : V} {o : OD} (I : SI K G H (σ ++ [some v]) (os ++ [some o]) f) (hl : σ.length = os.length) {i : Nat} {xs : List OD} (h : os[i]? = some (some (.lst xs))) :
    ∃ p vs, σ[i]? = some (some (.ref p)) ∧ H p = some (.lst vs) ∧ vs.length = xs.length ∧ ∃ f', SI K G (upd H p (.lst (vs ++ [v]))) σ (os.set i (some (.lst (xs ++ [o])))) f' ∧ Stp G H f G (upd H p (.lst (vs ++ [v]))) f' := by
  obtain ⟨v', fo, f0, e, q, r, hf⟩ := I.last hl
  cases e
  obtain ⟨p, vs, g0, fr, h1, h2, h3, h4, h5⟩ := SL.mut r I.sub I.tk I.one I.hid h
  obtain ⟨k, k1, k2⟩ := ROs.app h3 (ROs.one q)
  obtain ⟨f', m1, m2, m3⟩ := h5 (vs ++ [v]) (xs ++ [o]) k k1 fun a => by rw [k2, hf, h4]; omega
  exact ⟨p, vs, h1, h2, h3.len, f', m1, m3⟩
theorem sr_app {i : Nat} {ev : EvE} {te : TE} (h : ER K ev te) : SR K R (sApp i ev) (tDrop (tBM K "list" rAppend (tVar i) (tCons te tNil))) := fun σ G H os f res D hl I e k => by
  unfold sApp at e
  split at e
  · rename_i ys e0
    obtain ⟨v0, _, _, w1, w2, _⟩ := I.sl.at e0
    have w3 : ∃ p vs, v0 = .ref p ∧ H p = some (.lst vs) := by
      cases w2 with
      | lst hp _ => exact ⟨_, _, rfl, hp⟩
    obtain ⟨p0, vs0, rfl, hp0⟩ := w3
    refine ⟨.ref p0, w1, .inl ⟨rfl, vs0, .inl (.inl hp0)⟩, ?_⟩
    split at e
    · rename_i o os1 e1
      split at e
      · rename_i xs e2
        split at e
        · rename_i c
          cases e
          refine h σ [] G H os [] f _ os1 _ hl rfl (by simpa using I) e1 fun v H1 k1 => ?_
          obtain ⟨G1, f1, I1, s1, a1, l1⟩ := k1
          obtain ⟨p, vs, q1, q2, q3, f', I2, s2⟩ := (show SI K G1 H1 (σ ++ [some v]) (os1 ++ [some o]) f1 by simpa [RV.od] using I1).app l1 e2
          rw [w1] at q1; cases q1
          refine ⟨p0, vs, v, rfl, rfl, q2, by rw [q3]; exact c, ?_⟩
          exact k σ _ ⟨G1, f', I2, s1.trans s2, by simp [l1], fun _ _ => rfl⟩
        · cases e
      · cases e
    · rename_i j os1 e1
      split at e
      · rename_i d xs e2 e3
        split at e
        · rename_i c
          cases e
          refine h σ [] G H os [] f _ os1 _ hl rfl (by simpa using I) e1 fun v H1 k1 => ?_
          obtain ⟨G1, f1, I1, s1, a1, l1⟩ := k1
          have hv : σ[j]? = some (some v) := by
            cases a1 with
            | cons a _ => exact a
          have I1 : SI K G1 H1 (σ ++ [some v]) (os1 ++ [none]) f1 := by simpa [RV.od] using I1
          obtain ⟨f2, I2, le⟩ := I1.pop l1
          obtain ⟨G3, f3, I3, s3⟩ := (show SI K G1 H1 σ (os1 ++ []) f2 by simpa using I2).hard (.al j)
          have I3 : SI K G3 H1 σ (hard os1 (.al j)) f3 := by simpa using I3
          have l3 : σ.length = (hard os1 (.al j)).length := by rw [len_hard]; exact l1
          obtain ⟨v', fo, fr, q2, q3, _⟩ := I3.sl.at e2
          rw [hv] at q2; cases q2
          cases q3 with
          | sh q3 =>
            obtain ⟨p, vs, q1, q2, q4, f', I5, s5⟩ := (I3.push q3).app l3 e3
            rw [w1] at q1; cases q1
            refine ⟨p0, vs, v, rfl, rfl, q2, by rw [q4]; exact c, ?_⟩
            exact k σ _ ⟨G3, f', I5, ((s1.trans (Stp.less le)).trans s3).trans s5, by simp [l3], fun _ _ => rfl⟩
        · cases e
      · cases e
    · cases e
  · cases e
theorem ss_app (i : Nat) {x : Str} {e : Expr} {ev : EvE} {px apos cpos pos : Pos} (h : SE X ev e) (hN : X.N[i]? = some x := by rfl) (hv : Vis X.env.scope x := by first | exact Or.inl rfl | exact Or.inr (Or.inl rfl) | exact Or.inr (Or.inr rfl))
    (hd : (x == ("__debug__" : Str)) = false := by decide) (hcd : (x == ("__classdict__" : Str)) = false := by decide) (hst : starEach (e :: []) X.env = (false, eval e X.env) :: starEach [] X.env := by rfl)
    (hbase : attributeBase (.Name x px) "append" X.env (eval (.Name x px) X.env) = eval (.Name x px) X.env := by rfl)
    (hfew : ((backTo cpos (starEach (e :: []) X.env)).all (fun x => !x.1) && (backToKw cpos (keywordEach [] X.env)).all (fun x => x.1.isSome)
      && decide ((e :: ([] : List Expr)).length + ([] : List Keyword).length + (if ([] : List Keyword).isEmpty then 0 else 1) < 30)) = true := by rfl)
    (hs : swapsWith (.Call (.Attribute (.Name x px) "append" apos) [e] [] cpos) none pos.line X.env = pure false := by rfl) (hline : (apos.endLine == cpos.line) = true := by rfl) :
    SS X R (sApp i ev) (.Expr (.Call (.Attribute (.Name x px) "append" apos) [e] [] cpos) pos) := by
  obtain ⟨te, p, q⟩ := h
  refine ⟨_, ps_expr (pe_bm PySem.F.plainAttrs_list PySem.F.slot_list_append PySem.F.type_list_append mt_append (pe_var hN hv hd hcd) (pa_cons p pa_nil hst) hbase hfew hline hst (by rfl)) hs, sr_app q⟩

/-! ### targets -/
abbrev EvG := PyData → En → Option En
def TGd (K : PySem.W.Frag) (R : List Nat) (tv : EvG) (g : TG) : Prop := ∀ (σ : L2.St) (G H : Hp) (os : En) (f : FP) (v : V) (d : PyData) (os' : En) (Q : L2.St → Hp → Prop),
  σ.length = os.length → SI K G H σ os f → Dx K G v d → tv d os = some os' → (∀ σ' H', KontS K R σ G H f os' σ' H' → Q σ' H') → g v σ H Q
abbrev EvGs := List PyData → En → Option En
def TGds (K : PySem.W.Frag) (R : List Nat) (tv : EvGs) (g : TGs) : Prop := ∀ (σ : L2.St) (G H : Hp) (os : En) (f : FP) (vs : List V) (ds : List PyData) (os' : En) (Q : L2.St → Hp → Prop),
  σ.length = os.length → SI K G H σ os f → DxAll K G vs ds → tv ds os = some os' → (∀ σ' H', KontS K R σ G H f os' σ' H' → Q σ' H') → g vs σ H Q
def ST (X : Cx) (R : List Nat) (tv : EvG) (t : Expr) : Prop := ∃ g, PG X t g ∧ TGd X.K R tv g
def STs (X : Cx) (R : List Nat) (tv : EvGs) (ts : List Expr) : Prop := ∃ g, PGs X ts g ∧ TGds X.K R tv g
def gvName (R : List Nat) (i : Nat) : EvG := fun d os => if i ∈ R ∨ os.length ≤ i then none else some (os.set i (some (.sh d)))
theorem tg_name {i : Nat} : TGd K R (gvName R i) (gName i) := fun σ G H os f v d os' Q hl I hd e k => by
  unfold gvName at e
  split at e
  · cases e
  · rename_i hi
    cases e
    have hil : i < os.length := by
      rcases Nat.lt_or_ge i os.length with q | q
      · exact q
      · exact absurd (.inr q) hi
    obtain ⟨f', I2, le⟩ := (I.push hd).store hl hil
    exact k _ H ⟨G, f', I2, Stp.less le, by simp [hl], fun j hj => by rw [List.getElem?_set_ne (fun z => by subst z; exact hi (.inl hj))]⟩
theorem sg_name (i : Nat) {x : Str} {pos : Pos} (hN : X.N.Nodup) (hi : X.N[i]? = some x := by rfl) (hx : Loc X.env.scope x := by first | exact Or.inl rfl | exact Or.inr rfl)
    (hf : X.fn x = true ∨ X.env.scope.names.lookup x = some .local := by first | exact .inl rfl | exact .inr rfl | assumption) : ST X R (gvName R i) (.Name x pos) := ⟨_, pg_name hN hi hx hf, tg_name⟩
def gvNil : EvGs := fun ds os => match ds with
  | [] => some os
  | _ => none
def gvCons (a : EvG) (b : EvGs) : EvGs := fun ds os => match ds with
  | d :: ds => match a d os with
    | some os1 => b ds os1
    | none => none
  | [] => none
theorem sgs_nil : STs X R gvNil [] := ⟨_, pgs_nil, fun σ G H os f vs ds os' Q hl I hd e k => by
  unfold gvNil at e
  split at e
  · cases e
    cases hd
    exact ⟨rfl, k σ H ⟨G, f, I, Stp.refl _ _ _, hl, fun _ _ => rfl⟩⟩
  · cases e⟩
theorem sgs_cons {t : Expr} {ts : List Expr} {a : EvG} {b : EvGs} (h : ST X R a t) (g : STs X R b ts) (ha : (assignEach (t :: ts) X.env).map (·.2) = assign t X.env :: (assignEach ts X.env).map (·.2) := by rfl) : STs X R (gvCons a b) (t :: ts) := by
  obtain ⟨g1, p, q⟩ := h
  obtain ⟨g2, p', q'⟩ := g
  refine ⟨_, pgs_cons p p' ha, fun σ G H os f vs ds os' Q hl I hd e k => ?_⟩
  unfold gvCons at e
  split at e
  · rename_i d ds'
    split at e
    · rename_i os1 e1
      cases hd with
      | cons a r =>
        refine ⟨_, _, rfl, q σ G H os f _ d os1 _ hl I a e1 fun σ1 H1 k1 => ?_⟩
        obtain ⟨G1, f1, I1, s1, l1, r1⟩ := k1
        exact q' σ1 G1 H1 os1 f1 _ _ os' Q l1 I1 (dps_sub s1.gsub r) e fun σ2 H2 k2 => k σ2 H2 (k2.step s1 r1)
    · cases e
  · cases e
def gvTup (n : Nat) (b : EvGs) : EvG := fun d os => match d with
  | .tuple ds => if ds.length = n then b ds os else none
  | _ => none
theorem sg_tup {es : List Expr} {kk : Nat} {pos : Pos} {n : Nat} {b : EvGs} (hc : X.calm = true) (h : STs X R b es) (hn : (assignEach es X.env).length = n := by rfl) (hst : (assignEach es X.env).findIdx? (·.1) = none := by rfl) : ST X R (gvTup n b) (.Tuple es kk pos) := by
  obtain ⟨g, p, q⟩ := h
  refine ⟨_, pg_tup hc p hn hst, fun σ G H os f v d os' Q hl I hd e k => ?_⟩
  unfold gvTup at e
  split at e
  · split at e
    · rename_i ds c
      cases hd with
      | tup r1 r2 => exact ⟨_, _, rfl, sqT_sub I.sub r1, by rw [dps_len r2]; exact c, q σ G H os f _ ds os' Q hl I r2 e k⟩
    · cases e
  · cases e
/-- xs[e] = d, xs a list that slot p owns -/
def gvSub (p : Nat) (ei : EvE) : EvG := fun d os => match os[p]? with
  | some (some (.lst _)) => match ei os with
    | some (r, os1) => match r.rd os1, os1[p]? with
      | some (.int i), some (some (.lst xs)) => match ixN xs.length i with
        | some j => some (os1.set p (some (.lst (xs.set j (.sh d)))))
        | none => none
      | _, _ => none
    | none => none
  | _ => none
theorem ROs.set {G H : Hp} {v : V} {d : PyData} (hv : Dx K G v d) : ∀ {vs : List V} {xs : List OD} {f : FP} (j : Nat), ROs K G H vs xs f → ∃ g, ROs K G H (vs.set j v) (xs.set j (.sh d)) g ∧ ∀ a, g a ≤ f a
  | _, _, _, j, .nil => ⟨_, .nil, fun _ => Nat.le_refl _⟩
  | _, _, _, 0, .cons (f := f) (g := g) _ r => ⟨_, .cons (.sh hv) r, fun a => by (try dsimp only); omega⟩
  | _, _, _, j + 1, .cons (f := f) (g := g) q r => by
    obtain ⟨k, k1, k2⟩ := ROs.set hv j r
    exact ⟨_, .cons q k1, fun a => by have := k2 a; (try dsimp only); omega⟩
theorem sg_sub (p : Nat) {x : Str} {ie : Expr} {ei : EvE} {px pos : Pos} (h : SE X ei ie) (hN : X.N[p]? = some x := by rfl) (hv : Vis X.env.scope x := by first | exact Or.inl rfl | exact Or.inr (Or.inl rfl) | exact Or.inr (Or.inr rfl))
    (hd : (x == ("__debug__" : Str)) = false := by decide) (hcd : (x == ("__classdict__" : Str)) = false := by decide)
    (ha : ∀ v, assign (.Subscript (.Name x px) ie pos) X.env v = (do
      let ov ← holding [v] (eval (.Name x px) X.env)
      let iv ← holding [v, ov] (eval ie X.env)
      standAt pos
      holding [v, ov, iv] (setItem ov iv v)
      release [v, ov, iv] []) := by intro _; rfl) : ST X R (gvSub p ei) (.Subscript (.Name x px) ie pos) := by
  obtain ⟨te, q1, q2⟩ := h
  refine ⟨_, pg_sub (pe_var hN hv hd hcd) q1 set_list ha, fun σ G H os f v d os' Q hl I hd e k => ?_⟩
  unfold gvSub at e
  split at e
  · rename_i ys e0
    obtain ⟨v0, _, _, w1, w2, _⟩ := I.sl.at e0
    have w3 : ∃ p vs, v0 = .ref p ∧ H p = some (.lst vs) := by
      cases w2 with
      | lst hp _ => exact ⟨_, _, rfl, hp⟩
    obtain ⟨p0, vs0, rfl, hp0⟩ := w3
    split at e
    · rename_i r os1 e1
      split at e
      · rename_i i xs e2 e3
        split at e
        · rename_i j e4
          cases e
          refine ⟨.ref p0, w1, ?_⟩
          refine q2 σ [] G H os [] f r os1 _ hl rfl (by simpa using I) e1 fun w H1 k1 => ?_
          have hw := k1.read1 rfl e2
          cases hw
          obtain ⟨G1, f1, I1, s1, l1⟩ := k1.drop rfl
          have I1 : SI X.K G1 H1 σ os1 f1 := by simpa using I1
          obtain ⟨p, vs, g0, fr, m1, m2, m3, m4, m5⟩ := SL.mut I1.sl I1.sub I1.tk I1.one I1.hid e3
          rw [w1] at m1; cases m1
          obtain ⟨g', n1, n2⟩ := ROs.set (dp_sub s1.gsub hd) j m3
          obtain ⟨f', o1, o2, o3⟩ := m5 _ _ g' n1 fun a => by rw [m4]; have := n2 a; omega
          refine ⟨p0, vs, i, j, rfl, rfl, m2, by rw [m3.len]; exact e4, ?_⟩
          exact k σ _ ⟨G1, f', o1, s1.trans o3, by simp [l1], fun _ _ => rfl⟩
        · cases e
      · cases e
    · cases e
  · cases e

/-! ### target = value, the value shared from there on -/
def sAsgG (tv : EvG) (ev : EvE) : EvS := fun os => match ev os with
  | some (r, os1) => match rdAll os1 [r] with
    | some [d] => match tv d (hardAll os1 [r]) with
      | some os2 => some (.nx os2)
      | none => none
    | _ => none
  | none => none
theorem sr_asgG {tv : EvG} {ev : EvE} {te : TE} {g : TG} (h : ER K ev te) (hg : TGd K R tv g) : SR K R (sAsgG tv ev) (tAsg te g) := fun σ G H os f res D hl I e k => by
  unfold sAsgG at e
  split at e
  · rename_i r os1 e1
    split at e
    · rename_i d e2
      split at e
      · rename_i os2 e3
        cases e
        refine h σ [] G H os [] f r os1 _ hl rfl (by simpa using I) e1 fun v H1 k1 => ?_
        obtain ⟨G1, f1, I1, s1, a1, l1⟩ := k1
        obtain ⟨G2, f2, I2, s2, hd⟩ := I1.popC l1 rfl a1 e2
        obtain ⟨w, ew, hw⟩ := dps1 hd
        cases ew
        exact hg σ G2 H1 _ f2 v d os2 D.nx (by rw [len_hardAll]; exact l1) (by simpa using I2) hw e3 fun σ' H' k2 => k σ' H' (k2.step (s1.trans s2) fun _ _ => rfl)
      · cases e
    · cases e
  · cases e
theorem ss_asgG {t e : Expr} {tv : EvG} {ev : EvE} {pos : Pos} (hg : ST X R tv t) (h : SE X ev e) (hs : swapsWithSole [t] e pos.line X.env = pure false := by rfl) (hw : swappedStores [t] e X.env = pure none := by rfl)
    (h1 : (assignEach [t] X.env).map (·.2) = [assign t X.env] := by rfl) : SS X R (sAsgG tv ev) (.Assign [t] e pos) := by
  obtain ⟨te, p, q⟩ := h
  obtain ⟨g, p', q'⟩ := hg
  exact ⟨_, ps_asg p p' hs hw h1, sr_asgG q q'⟩
end
end DX
/-! DXLoop: loops. -/
namespace DX
open PySem PySem.Spec PyProof.Rows L2

/-- the heap has grown -/
structure Nw (G H G' H' : Hp) : Prop where
  gs : Sub G G'
  hs : Sub H H'
  sub : Sub G' H'
  gn : ∀ a, G' a ≠ none → G a ≠ none ∨ H a = none
  tk : ∀ K : PySem.W.Frag, TkOk K G H → TkOk K G' H'
section
variable {K : PySem.W.Frag} {X : Cx} {R : List Nat}
theorem Nw.refl {G H : Hp} (s : Sub G H) : Nw G H G H := ⟨Sub.refl _, Sub.refl _, s, fun _ h => .inl h, fun _ => id⟩
theorem ne_of_sub {H H' : Hp} (s : Sub H H') {a : Addr} (h : H a ≠ none) : H' a ≠ none := by
  cases e : H a with
  | none => exact absurd e h
  | some u => rw [s a u e]; simp
theorem SI.nw {G H G' H' : Hp} {vs : List (Option V)} {os : En} {f : FP} (I : SI K G H vs os f) (n : Nw G H G' H') : SI K G' H' vs os f ∧ Stp G H f G' H' f := by
  refine ⟨⟨I.sl.mono n.gs fun a _ _ e => n.hs a _ e, n.sub, I.one, fun a q => ?_, n.tk _ I.tk⟩, ⟨n.gs, fun a _ e _ => n.hs a _ e, fun a e => ne_of_sub n.hs e, fun a e => ?_, fun a e => .inl e⟩⟩
  · cases e : G' a with
    | none => rfl
    | some u =>
      rcases n.gn a (by rw [e]; simp) with z | z
      · exact absurd (I.hid a q) z
      · exact absurd z (I.live a q)
  · rcases n.gn a e with z | z
    · exact .inl z
    · exact .inr (.inl z)

/-- an iterator over ds -/
def ItOk (K : PySem.W.Frag) (G : Hp) (J : It) (ds : List PyData) : Prop := ∀ (i : Nat) (G2 H2 : Hp), Sub G G2 → Sub G2 H2 →
  (i < ds.length → J.go i H2) ∧ (ds.length ≤ i → J.stop i H2) ∧ ∀ x H3 d, ds[i]? = some d → J.yld i H2 x H3 → ∃ G3, Nw G2 H2 G3 H3 ∧ Dx K G3 x d
abbrev EvI := En → Option (List PyData × En)
def IR (K : PySem.W.Frag) (ev : EvI) (wi : TI) : Prop := ∀ (σ τ : List (Option V)) (G H : Hp) (os θ : En) (f : FP) (ds : List PyData) (os' : En) (Q : It → Hp → Prop),
  σ.length = os.length → τ.length = θ.length → SI K G H (σ ++ τ) (os ++ θ) f → ev os = some (ds, os') →
  (∀ J H' G' f', SI K G' H' (σ ++ τ) (os' ++ θ) f' → Stp G H f G' H' f' → σ.length = os'.length → ItOk K G' J ds → Q J H') → wi σ H Q
def SI' (X : Cx) (tg : Expr) (ev : EvI) (it : Expr) : Prop := ∃ wi, PI X tg it wi ∧ IR X.K ev wi
theorem pi_or {tg it : Expr} {w1 w2 : TI} (h : PI X tg it w1) (g : PI X tg it w2) : PI X tg it (fun σ H R => w1 σ H R ∨ w2 σ H R) :=
  ⟨fun pins s σ H R I q => q.elim (h.run pins s σ H R I) (g.run pins s σ H R I)⟩
def signs (x : Str) : List PyData := x.cps.toList.map fun c => PyData.str ⟨#[c]⟩
def itemsD : PyData → Option (List PyData)
  | .list ds => some ds
  | .tuple ds => some ds
  | .str x => some (signs x)
  | _ => none
def iSq (ev : EvE) : EvI := fun os => match ev os with
  | some (r, os1) => match rdAll os1 [r] with
    | some [d] => match itemsD d with
      | some ds => some (ds, hardAll os1 [r])
      | none => none
    | _ => none
  | none => none
theorem ir_sq {ev : EvE} {te : TE} (h : ER K ev te) : IR K (iSq ev) (fun σ H Q => iList K te σ H Q ∨ iTup K te σ H Q ∨ iStr te σ H Q) := fun σ τ G H os θ f ds os' Q hl ht I e k => by
  unfold iSq at e
  split at e
  · rename_i r os1 e1
    split at e
    · rename_i d e2
      split at e
      · rename_i ds' e3
        cases e
        have core : ∀ v H1, Kont K σ τ G H f os1 θ [v] [r] H1 → ∃ G2 f2, SI K G2 H1 (σ ++ τ) (hardAll os1 [r] ++ θ) f2 ∧ Stp G H f G2 H1 f2 ∧ σ.length = (hardAll os1 [r]).length ∧ Dx K G2 v d := fun v H1 k1 => by
          obtain ⟨G1, f1, I1, s1, a1, l1⟩ := k1
          obtain ⟨G2, f2, I2, s2, hd⟩ := I1.popC l1 ht a1 e2
          obtain ⟨w, ew, hw⟩ := dps1 hd
          cases ew
          exact ⟨G2, f2, I2, s1.trans s2, by rw [len_hardAll]; exact l1, hw⟩
        cases d with
        | list xs =>
          cases e3
          refine .inl (h σ τ G H os θ f r os1 _ hl ht I e1 fun v H1 k1 => ?_)
          obtain ⟨G2, f2, I2, s2, l2, hd⟩ := core v H1 k1
          cases hd with
          | lst q qs =>
            rename_i a vs
            refine ⟨a, rfl, ⟨vs, sqL_sub I2.sub q⟩, k _ H1 G2 f2 I2 s2 l2 fun i G3 H3 g1 g2 => ⟨fun hi => ?_, fun hi => ?_, fun x H4 d hd y => ?_⟩⟩
            · obtain ⟨v, e5, _⟩ := dps_get qs (List.getElem?_eq_getElem hi)
              exact ⟨vs, v, sqL_sub (g1.trans g2) q, e5⟩
            · exact ⟨vs, sqL_sub (g1.trans g2) q, by rw [dps_len qs]; exact hi⟩
            · obtain ⟨rfl, y⟩ := y
              have z := y vs (sqL_sub (g1.trans g2) q)
              obtain ⟨v, e5, e6⟩ := dps_get qs hd
              rw [z] at e5; cases e5
              exact ⟨G3, Nw.refl g2, dp_sub g1 e6⟩
        | tuple xs =>
          cases e3
          refine .inr (.inl (h σ τ G H os θ f r os1 _ hl ht I e1 fun v H1 k1 => ?_))
          obtain ⟨G2, f2, I2, s2, l2, hd⟩ := core v H1 k1
          cases hd with
          | tup q qs =>
            rename_i a vs
            refine ⟨a, rfl, ⟨vs, sqT_sub I2.sub q⟩, k _ H1 G2 f2 I2 s2 l2 fun i G3 H3 g1 g2 => ⟨fun hi => ?_, fun hi => ?_, fun x H4 d hd y => ?_⟩⟩
            · obtain ⟨v, e5, _⟩ := dps_get qs (List.getElem?_eq_getElem hi)
              exact ⟨vs, v, sqT_sub (g1.trans g2) q, e5⟩
            · exact ⟨vs, sqT_sub (g1.trans g2) q, by rw [dps_len qs]; exact hi⟩
            · obtain ⟨rfl, y⟩ := y
              have z := y vs (sqT_sub (g1.trans g2) q)
              obtain ⟨v, e5, e6⟩ := dps_get qs hd
              rw [z] at e5; cases e5
              exact ⟨G3, Nw.refl g2, dp_sub g1 e6⟩
        | str x =>
          cases e3
          refine .inr (.inr (h σ τ G H os θ f r os1 _ hl ht I e1 fun v H1 k1 => ?_))
          obtain ⟨G2, f2, I2, s2, l2, hd⟩ := core v H1 k1
          cases hd
          have hln : (signs x).length = x.cps.size := by unfold signs; rw [List.length_map]; simp
          refine ⟨x, rfl, k _ H1 G2 f2 I2 s2 l2 fun i G3 H3 g1 g2 => ⟨fun hi => ?_, fun hi => ?_, fun y H4 d hd z => ?_⟩⟩
          · show i < x.cps.size
            omega
          · show x.cps.size ≤ i
            omega
          · obtain ⟨rfl, c, z1, rfl⟩ := z
            have : d = .str ⟨#[c]⟩ := by
              unfold signs at hd
              rw [List.getElem?_map, Array.getElem?_toList, z1] at hd
              exact (Option.some.inj hd).symm
            subst this
            exact ⟨G3, Nw.refl g2, .str _ (by show 1 ≤ strMax; decide)⟩
        | none => cases e3
        | bool _ => cases e3
        | int _ => cases e3
        | dict _ => cases e3
      · cases e
    · cases e
  · cases e
theorem si_sq {tg l : Expr} {ev : EvE} (h : SE X ev l) : SI' X tg (iSq ev) l := by
  obtain ⟨te, p, q⟩ := h
  exact ⟨_, pi_or (pi_list p) (pi_or (pi_tup p) (pi_str p)), ir_sq q⟩

/-! ### ranges -/
def rangeD (lo : Int) (n : Nat) : List PyData := (List.range n).map fun i => PyData.int (lo + (i : Nat))
theorem rangeD_len (lo : Int) (n : Nat) : (rangeD lo n).length = n := by unfold rangeD; simp
theorem rangeD_get {lo : Int} {n i : Nat} {d : PyData} (h : (rangeD lo n)[i]? = some d) : d = .int (lo + (i : Nat)) := by
  unfold rangeD at h
  rw [List.getElem?_map] at h
  cases e : (List.range n)[i]? with
  | none => rw [e] at h; cases h
  | some j =>
    rw [e] at h
    have hj := List.getElem?_eq_some_iff.mp e
    obtain ⟨h1, h2⟩ := hj
    rw [List.getElem_range] at h2
    subst h2
    exact (Option.some.inj h).symm
theorem itok_range {G : Hp} {lo : Int} {n : Nat} : ItOk K G (Itr lo n) (rangeD lo n) := fun i G2 H2 g1 g2 => by
  rw [rangeD_len]
  exact ⟨fun h => h, fun h => h, fun x H3 d hd y => by
    obtain ⟨rfl, rfl⟩ := y
    rw [rangeD_get hd]
    exact ⟨G2, Nw.refl g2, .int _⟩⟩
def fit62 (i : Int) : Bool := Nat.blt i.natAbs 4611686018427387904
theorem fit62_lt {i : Int} (h : fit62 i = true) : -(2 ^ 62) ≤ i ∧ i < 2 ^ 62 := by
  have : i.natAbs < 4611686018427387904 := Nat.le_of_ble_eq_true h
  omega
theorem fit62_of {i : Int} (h : i.natAbs < 4611686018427387904) : fit62 i = true := Nat.ble_eq_true_of_le h
def iR1 (ev : EvEs) : EvI := fun os => match ev os with
  | some (rs, os1) => match rdAll os1 rs with
    | some [.int j] => if fit62 j = true then some (rangeD 0 j.toNat, os1) else none
    | _ => none
  | none => none
def iR2 (ev : EvEs) : EvI := fun os => match ev os with
  | some (rs, os1) => match rdAll os1 rs with
    | some [.int i, .int j] => if (fit62 i && fit62 j) = true then some (rangeD i (j - i).toNat, os1) else none
    | _ => none
  | none => none
theorem ir_r1 {ev : EvEs} {ta : TA} (h : ERs K ev ta) : IR K (iR1 ev) (iRng1 ta) := fun σ τ G H os θ f ds os' Q hl ht I e k => by
  unfold iR1 at e
  split at e
  · rename_i rs os1 e1
    split at e
    · rename_i j e2
      split at e
      · rename_i c
        cases e
        refine h σ τ G H os θ f rs _ _ hl ht I e1 fun vs H1 k1 => ?_
        obtain ⟨G1, f1, I1, s1, a1, l1⟩ := k1
        obtain ⟨hd, f2, I2, le⟩ := I1.popA l1 ht a1 e2
        obtain ⟨w, rfl, hw⟩ := dps1 hd
        cases hw
        have c := fit62_lt c
        exact ⟨j, rfl, c.1, c.2, k _ H1 G1 f2 I2 (s1.trans (Stp.less le)) l1 itok_range⟩
      · cases e
    · cases e
  · cases e
theorem ir_r2 {ev : EvEs} {ta : TA} (h : ERs K ev ta) : IR K (iR2 ev) (iRng2 ta) := fun σ τ G H os θ f ds os' Q hl ht I e k => by
  unfold iR2 at e
  split at e
  · rename_i rs os1 e1
    split at e
    · rename_i i j e2
      split at e
      · rename_i c
        cases e
        refine h σ τ G H os θ f rs _ _ hl ht I e1 fun vs H1 k1 => ?_
        obtain ⟨G1, f1, I1, s1, a1, l1⟩ := k1
        obtain ⟨hd, f2, I2, le⟩ := I1.popA l1 ht a1 e2
        obtain ⟨v, w, rfl, hv, hw⟩ := dps2 hd
        cases hv; cases hw
        obtain ⟨c1, c2⟩ := Bool.and_eq_true_iff.mp c
        have c1 := fit62_lt c1
        have c2 := fit62_lt c2
        exact ⟨i, j, rfl, ⟨c1.1, c1.2, c2.1, c2.2⟩, k _ H1 G1 f2 I2 (s1.trans (Stp.less le)) l1 itok_range⟩
      · cases e
    · cases e
  · cases e
theorem si_r1 {tg a : Expr} {ev : EvEs} {p pos : Pos} (hm : X.mg "range" = none) (h : SEs X ev [a]) (hg : Gl X "range" := by rfl) (hs : starEach [a] X.env = [(false, eval a X.env)] := by rfl) : SI' X tg (iR1 ev) (.Call (.Name "range" p) [a] [] pos) := by
  obtain ⟨ta, q1, q2⟩ := h
  exact ⟨_, pi_range1 hg hm q1 hs, ir_r1 q2⟩
theorem si_r2 {tg a b : Expr} {ev : EvEs} {p pos : Pos} (hm : X.mg "range" = none) (h : SEs X ev [a, b]) (hg : Gl X "range" := by rfl) (hs : starEach [a, b] X.env = [(false, eval a X.env), (false, eval b X.env)] := by rfl) (hs2 : starEach [b] X.env = [(false, eval b X.env)] := by rfl) : SI' X tg (iR2 ev) (.Call (.Name "range" p) [a, b] [] pos) := by
  obtain ⟨ta, q1, q2⟩ := h
  exact ⟨_, pi_range2 hg hm q1 hs hs2, ir_r2 q2⟩

/-! ### enumerate of a list, zip of two -/
/-- a new pair -/
theorem nw_pair {G H : Hp} {x y : V} {d e : PyData} (s : Sub G H) (hx : Dx K G x d) (hy : Dx K G y e) {T : Addr} (hT : H T = none) : ∃ G3, Nw G H G3 (upd H T (.tup [x, y])) ∧ Dx K G3 (.ref T) (.tuple [d, e]) := by
  have gT : G T = none := by
    cases q : G T with
    | none => rfl
    | some u => have := s T u q; rw [hT] at this; cases this
  refine ⟨upd G T (.tup [x, y]), ⟨sub_upd (Sub.refl _) gT, sub_upd (Sub.refl _) hT, sub_upd2 s, fun a h => ?_, fun _ t => t.tup hT⟩, .tup (SqT.of upd_same) (.cons (dp_sub (sub_upd (Sub.refl _) gT) hx) (.cons (dp_sub (sub_upd (Sub.refl _) gT) hy) .nil))⟩
  by_cases z : a = T
  · subst z; exact .inr hT
  · rw [upd_ne z] at h; exact .inl h
def enumD (n : Nat) : List PyData → List PyData
  | [] => []
  | d :: ds => .tuple [.int (n : Nat), d] :: enumD (n + 1) ds
theorem enumD_len : ∀ (ds : List PyData) (n : Nat), (enumD n ds).length = ds.length
  | [], _ => rfl
  | _ :: ds, n => by show (enumD (n + 1) ds).length + 1 = _; rw [enumD_len ds]; rfl
theorem enumD_get : ∀ {ds : List PyData} {n i : Nat} {e : PyData}, (enumD n ds)[i]? = some e → ∃ d, ds[i]? = some d ∧ e = .tuple [.int ((n + i : Nat) : Int), d]
  | [], _, _, _, h => by simp [enumD] at h
  | d :: ds, n, 0, e, h => by simp [enumD] at h; exact ⟨d, rfl, h.symm⟩
  | d :: ds, n, i + 1, e, h => by
    obtain ⟨d', h1, h2⟩ := enumD_get (ds := ds) (n := n + 1) (i := i) (by simpa [enumD] using h)
    exact ⟨d', by simpa using h1, by rw [h2, show n + 1 + i = n + (i + 1) by omega]⟩
def iEn (ev : EvEs) : EvI := fun os => match ev os with
  | some (rs, os1) => match rdAll os1 rs with
    | some [.list ds] => some (enumD 0 ds, hardAll os1 rs)
    | _ => none
  | none => none
theorem ir_en {ev : EvEs} {ta : TA} (h : ERs K ev ta) : IR K (iEn ev) (iEnum K ta) := fun σ τ G H os θ f ds os' Q hl ht I e k => by
  unfold iEn at e
  split at e
  · rename_i rs os1 e1
    split at e
    · rename_i xs e2
      cases e
      refine h σ τ G H os θ f rs _ _ hl ht I e1 fun vs H1 k1 => ?_
      obtain ⟨G1, f1, I1, s1, a1, l1⟩ := k1
      obtain ⟨G2, f2, I2, s2, hd⟩ := I1.popC l1 ht a1 e2
      obtain ⟨w, rfl, hw⟩ := dps1 hd
      cases hw with
      | lst q qs =>
        rename_i a us
        refine ⟨a, us, rfl, sqL_sub I2.sub q, k _ H1 G2 f2 I2 (s1.trans s2) (by rw [len_hardAll]; exact l1) fun i G3 H3 g1 g2 => ⟨fun hi => ?_, fun hi => ?_, fun x H4 d hd y => ?_⟩⟩
        · rw [enumD_len] at hi
          obtain ⟨v, e5, _⟩ := dps_get qs (List.getElem?_eq_getElem hi)
          exact ⟨us, v, sqL_sub (g1.trans g2) q, e5⟩
        · rw [enumD_len] at hi
          exact ⟨us, sqL_sub (g1.trans g2) q, by rw [dps_len qs]; exact hi⟩
        · obtain ⟨T, z, rfl, hT, rfl, y⟩ := y
          have y := y us (sqL_sub (g1.trans g2) q)
          obtain ⟨d', h1, h2⟩ := enumD_get hd
          obtain ⟨v, e5, e6⟩ := dps_get qs h1
          rw [y] at e5; cases e5
          subst h2
          have := nw_pair (K := K) g2 (.int ((i : Nat) : Int)) (dp_sub g1 e6) hT
          simpa using this
    · cases e
  · cases e
theorem si_en {a : Expr} {ev : EvEs} {p pos tpos : Pos} {elts : List Expr} {kk : Nat} (hm : X.mg "enumerate" = none) (h : SEs X ev [a]) (hg : Gl X "enumerate" := by rfl) (hs : starEach [a] X.env = [(false, eval a X.env)] := by rfl) : SI' X (.Tuple elts kk tpos) (iEn ev) (.Call (.Name "enumerate" p) [a] [] pos) := by
  obtain ⟨ta, q1, q2⟩ := h
  exact ⟨_, pi_enum hg hm q1 hs, ir_en q2⟩

/-! ### for -/
def forF (tv : EvG) (b : EvS) : List PyData → En → Option Res
  | [], os => some (.nx os)
  | d :: ds, os => match tv d os with
    | some os1 => match b os1 with
      | some (.nx os2) => forF tv b ds os2
      | some (.ct os2) => forF tv b ds os2
      | some (.bk os2) => some (.nx os2)
      | some (.rt o os2) => some (.rt o os2)
      | none => none
    | none => none
def sFor (it : EvI) (tv : EvG) (b : EvS) : EvS := fun os => match it os with
  | some (ds, os1) => forF tv b ds os1
  | none => none
theorem sr_for {it : EvI} {tv : EvG} {b : EvS} {wi : TI} {g : TG} {tb : TS} (hi : IR K it wi) (hg : TGd K R tv g) (hb : SR K R b tb) : SR K R (sFor it tv b) (tFor wi g tb) := fun σ G H os f res D hl I e k => by
  unfold sFor at e
  split at e
  · rename_i ds os1 e1
    refine hi σ [] G H os [] f ds os1 _ hl rfl (by simpa using I) e1 fun J H1 G1 f1 I1 s1 l1 it => ?_
    have I1 : SI K G1 H1 σ os1 f1 := by simpa using I1
    have k : Post K R σ G1 H1 f1 D res := k.step s1 fun _ _ => rfl
    refine ⟨fun i m σ' H' => m = ds.length - i ∧ i ≤ ds.length ∧ ∃ os2, KontS K R σ G1 H1 f1 os2 σ' H' ∧ forF tv b (ds.drop i) os2 = some res,
      ⟨ds.length, by simp, Nat.zero_le _, os1, ⟨G1, f1, I1, Stp.refl _ _ _, l1, fun _ _ => rfl⟩, by simpa using e⟩, fun i m σ' H' hW => ?_⟩
    obtain ⟨rfl, hle, os2, ⟨G2, f2, I2, s2, l2, r2⟩, e2⟩ := hW
    obtain ⟨j1, j2, j3⟩ := it i G2 H' s2.gsub I2.sub
    by_cases hlt : i < ds.length
    · refine .inr ⟨j1 hlt, fun σ3 H3 => ∃ os3, KontS K R σ G1 H1 f1 os3 σ3 H3 ∧ forF tv b (ds.drop (i + 1)) os3 = some res, fun σ3 H3 ⟨os3, k3, e3⟩ => ⟨ds.length - (i + 1), by omega, rfl, hlt, os3, k3, e3⟩, fun x H3 y => ?_⟩
      have hd : ds[i]? = some ds[i] := List.getElem?_eq_getElem hlt
      obtain ⟨G3, n3, hx⟩ := j3 x H3 _ hd y
      obtain ⟨I3, s3⟩ := I2.nw n3
      rw [List.drop_eq_getElem_cons hlt] at e2
      unfold forF at e2
      split at e2
      · rename_i os3 e3
        refine hg σ' G3 H3 os2 f2 x ds[i] os3 _ l2 I3 hx e3 fun σ4 H4 k4 => ?_
        obtain ⟨G4, f4, I4, s4, l4, r4⟩ := k4
        have st : Stp G1 H1 f1 G4 H4 f4 := (s2.trans s3).trans s4
        have rr : ∀ j ∈ R, σ4[j]? = σ[j]? := fun j hj => (r4 j hj).trans (r2 j hj)
        split at e2
        · rename_i os4 e4
          exact hb σ4 G4 H4 os3 f4 _ _ l4 I4 e4 fun σ5 H5 k5 => ⟨os4, k5.step st rr, e2⟩
        · rename_i os4 e4
          exact hb σ4 G4 H4 os3 f4 _ _ l4 I4 e4 fun σ5 H5 k5 => ⟨os4, k5.step st rr, e2⟩
        · rename_i os4 e4
          cases e2
          exact hb σ4 G4 H4 os3 f4 _ _ l4 I4 e4 fun σ5 H5 k5 => k σ5 H5 (k5.step st rr)
        · rename_i o os4 e4
          cases e2
          exact hb σ4 G4 H4 os3 f4 _ _ l4 I4 e4 fun v H5 k5 => k v H5 (k5.step st rr)
        · cases e2
      · cases e2
    · have ei : i = ds.length := by omega
      subst ei
      rw [List.drop_length] at e2
      cases e2
      exact .inl ⟨j2 (Nat.le_refl _), k σ' H' ⟨G2, f2, I2, s2, l2, r2⟩⟩
  · cases e
theorem ss_for {tg it : Expr} {body : List Stmt} {ei : EvI} {tv : EvG} {b : EvS} {pos : Pos} (hc : X.calm = true) (hp : PassesOwn (model X.prog X.w) X.A X.env X.xe) (hi : SI' X tg ei it) (hg : ST X R tv tg) (hb : SSs X R b body)
    (hs : ∀ x, foldedSetIterable it X.env x = pure x := by intro _; rfl) : SS X R (sFor ei tv b) (.For tg it body [] pos) := by
  obtain ⟨wi, p1, q1⟩ := hi
  obtain ⟨g, p2, q2⟩ := hg
  obtain ⟨tb, p3, q3⟩ := hb
  exact ⟨_, ps_for hp hc p1 p2 p3 hs, sr_for q1 q2 q3⟩

/-! ### while: n turns at most -/
def whF (t : EvT) (b : EvS) : Nat → En → Option Res
  | 0, _ => none
  | n + 1, os => match t os with
    | some (true, os1) => match b os1 with
      | some (.nx os2) => whF t b n os2
      | some (.ct os2) => whF t b n os2
      | some (.bk os2) => some (.nx os2)
      | some (.rt o os2) => some (.rt o os2)
      | none => none
    | some (false, os1) => some (.nx os1)
    | none => none
theorem sr_while {t : EvT} {b : EvS} {tt : TT} {tb : TS} {n : Nat} (ht : TR K t tt) (hb : SR K R b tb) : SR K R (whF t b n) (tWhile tt tb) := fun σ G H os f res D hl I e k => by
  refine ⟨fun m σ' H' => ∃ os2, KontS K R σ G H f os2 σ' H' ∧ whF t b m os2 = some res, ⟨n, os, ⟨G, f, I, Stp.refl _ _ _, hl, fun _ _ => rfl⟩, e⟩, fun m σ' H' hW => ?_⟩
  obtain ⟨os2, ⟨G2, f2, I2, s2, l2, r2⟩, e2⟩ := hW
  cases m with
  | zero => cases e2
  | succ m =>
    unfold whF at e2
    split at e2
    · rename_i os3 e3
      refine ht σ' [] G2 H' os2 [] f2 true os3 _ l2 rfl (by simpa using I2) e3 fun H3 k3 => ?_
      obtain ⟨G3, f3, I3, s3, l3⟩ := k3
      rw [if_pos rfl]
      have st : Stp G H f G3 H3 f3 := s2.trans s3
      refine ⟨fun σ4 H4 => ∃ os4, KontS K R σ G H f os4 σ4 H4 ∧ whF t b m os4 = some res, fun σ4 H4 ⟨os4, k4, e4⟩ => ⟨m, Nat.lt_succ_self _, os4, k4, e4⟩, ?_⟩
      split at e2
      · rename_i os4 e4
        exact hb σ' G3 H3 os3 f3 _ _ l3 (by simpa using I3) e4 fun σ5 H5 k5 => ⟨os4, k5.step st r2, e2⟩
      · rename_i os4 e4
        exact hb σ' G3 H3 os3 f3 _ _ l3 (by simpa using I3) e4 fun σ5 H5 k5 => ⟨os4, k5.step st r2, e2⟩
      · rename_i os4 e4
        cases e2
        exact hb σ' G3 H3 os3 f3 _ _ l3 (by simpa using I3) e4 fun σ5 H5 k5 => k σ5 H5 (k5.step st r2)
      · rename_i o os4 e4
        cases e2
        exact hb σ' G3 H3 os3 f3 _ _ l3 (by simpa using I3) e4 fun v H5 k5 => k v H5 (k5.step st r2)
      · cases e2
    · rename_i os3 e3
      cases e2
      refine ht σ' [] G2 H' os2 [] f2 false os3 _ l2 rfl (by simpa using I2) e3 fun H3 k3 => ?_
      obtain ⟨G3, f3, I3, s3, l3⟩ := k3
      rw [if_neg Bool.false_ne_true]
      exact k σ' H3 ⟨G3, f3, by simpa using I3, s2.trans s3, l3, r2⟩
    · cases e2
theorem ss_while {c : Expr} {body : List Stmt} {t : EvT} {b : EvS} {pos : Pos} (n : Nat) (hp : PassesOwn (model X.prog X.w) X.A X.env X.xe) (ht : STt X t c) (hb : SSs X R b body) : SS X R (whF t b n) (.While c body [] pos) := by
  obtain ⟨tt, p1, q1⟩ := ht
  obtain ⟨tb, p2, q2⟩ := hb
  exact ⟨_, ps_while hp p1 p2, sr_while q1 q2⟩

/-! ### name op= value, of scalars -/
def sAug (R : List Nat) (i : Nat) (fn : List PyData → Option Op) (ev : EvE) : EvS := fun os => match os[i]? with
  | some (some (.sh d0)) => if isSc d0 = true ∧ i ∉ R then match ev os with
    | some (r, os1) => match r.rd os1 with
      | some d => match fn [d0, d] with
        | some (.val z) => if isSc z = true then some (.nx (os1.set i (some (.sh z)))) else none
        | _ => none
      | none => none
    | none => none else none
  | _ => none
theorem sr_aug {i : Nat} {fn : List PyData → Option Op} {ev : EvE} {te : TE} {ti : TIp} (h : ER K ev te) (ok : OpOk K (r2 ti) fn) : SR K R (sAug R i fn ev) (tAug i te ti) := fun σ G H os f res D hl I e k => by
  unfold sAug at e
  split at e
  · rename_i d0 e0
    split at e
    · rename_i c
      split at e
      · rename_i r os1 e1
        split at e
        · rename_i d e2
          split at e
          · rename_i z e3
            split at e
            · rename_i cz
              cases e
              obtain ⟨v0, _, _, w1, w2, _⟩ := I.sl.at e0
              refine ⟨v0, w1, ?_⟩
              refine h σ [] G H os [] f r os1 _ hl rfl (by simpa using I) e1 fun v H1 k1 => ?_
              have hv := k1.read1 rfl e2
              obtain ⟨G1, f1, I1, s1, l1⟩ := k1.drop rfl
              have I1 : SI K G1 H1 σ os1 f1 := by simpa using I1
              have h0 : Dx K H1 v0 d0 := by
                cases w2 with
                | sh q => exact dp_sc q c.1
              refine ok.sc [d0, d] z H1 [v0, v] _ e3 cz (.cons h0 (.cons hv .nil)) fun w hw => ?_
              have hil : i < os1.length := by
                have := lt_of_get e0; omega
              obtain ⟨f2, I2, le⟩ := (I1.push (dp_sc hw cz)).store l1 hil
              exact k _ H1 ⟨G1, f2, I2, s1.trans (Stp.less le), by simp [l1], fun j hj => by rw [List.getElem?_set_ne (fun y => by subst y; exact c.2 hj)]⟩
            · cases e
          · cases e
        · cases e
      · cases e
    · cases e
  · cases e
theorem ok_ipI {g : Int → Int → Int} : OpOk K (r2 (ipI g)) (opII (fun _ _ => true) fun i j => .int (g i j)) := ok_ii0 (fun _ _ => rfl) fun _ _ _ => .int _
theorem ss_aug {op : Operator} {ti : TIp} {fn : List PyData → Option Op} (ho : PIp X op ti) (ok : OpOk X.K (r2 ti) fn) (i : Nat) {x : Str} {e : Expr} {ev : EvE} {pos' pos : Pos} (hN : X.N.Nodup) (h : SE X ev e) (hi : X.N[i]? = some x := by rfl) (hx : Loc X.env.scope x := by first | exact Or.inl rfl | exact Or.inr rfl)
    (hf : X.fn x = true ∨ X.env.scope.names.lookup x = some .local := by first | exact .inl rfl | exact .inr rfl | assumption) : SS X R (sAug R i fn ev) (.AugAssign (.Name x pos') op e pos) := by
  obtain ⟨te, p, q⟩ := h
  exact ⟨_, ps_aug hN hi hx p ho hf, sr_aug q ok⟩
theorem ss_augAdd (i : Nat) {x : Str} {e : Expr} {ev : EvE} {pos' pos : Pos} (hN : X.N.Nodup) (h : SE X ev e) (hi : X.N[i]? = some x := by rfl) (hx : Loc X.env.scope x := by first | exact Or.inl rfl | exact Or.inr rfl)
    (hf : X.fn x = true ∨ X.env.scope.names.lookup x = some .local := by first | exact .inl rfl | exact .inr rfl | assumption) : SS X R (sAug R i (opII (fun _ _ => true) fun i j => .int (i + j)) ev) (.AugAssign (.Name x pos') .Add e pos) := ss_aug ip_add ok_ipI i hN h hi hx hf
end
end DX
/-! DXCall: defs and their calls. -/
namespace DX
open PySem PySem.Spec PyProof.Rows L2

/-! ### a def that is called where no guard stands -/
structure FnG (P : Program) (w : World) (K : PySem.W.Frag) (mg : Str → Option Value) (base : Heap) (k : Nat) (f : Addr) (fd : FuncData) (ps : List Str) (sp : Sp) : Prop where
  len : ∀ vs H Q E, sp vs H Q E → vs.length = ps.length
  run : ∀ (A : Around) (outer : List Env) (s : Shared) (H : Hp) (args : Args) (us : List Value) (vs : List V) (Q : VK), A.guards = some [] → Room k A → Env0 P w K mg base A outer s H →
    BindsTo s fd args (ps.zip us) → Vals vs us → sp vs H Q E0 → codeAny (model P w) A (.call (.ref f) args) (CR CX0 outer P w H s Q E0) s
theorem FnG.mono {P : Program} {w : World} {K : PySem.W.Frag} {mg : Str → Option Value} {base : Heap} {j k : Nat} {f : Addr} {fd : FuncData} {ps : List Str} {sp : Sp} (F : FnG P w K mg base j f fd ps sp) (h : j ≤ k) : FnG P w K mg base k f fd ps sp :=
  ⟨F.len, fun A outer s H args us vs Q hg hr => F.run A outer s H args us vs Q hg (hr.mono h)⟩
section
variable {P : Program} {w : World} {K : PySem.W.Frag} {mg : Str → Option Value} {base : Heap}
/-- a promise that is never kept -/
theorem FnG.none {k : Nat} {f : Addr} {fd : FuncData} {ps : List Str} {sp : Sp} (h : ∀ vs H Q E, ¬sp vs H Q E) : FnG P w K mg base k f fd ps sp :=
  ⟨fun vs H Q E q => absurd q (h _ _ _ _), fun A outer s H args us vs Q _ _ _ _ _ q => absurd q (h _ _ _ _)⟩
theorem guards_deeper {A : Around} {e : Env} (h : A.guards = some []) : (A.deeper e).guards = some [] := by
  first
    | exact h
    | simpa [Around.deeper] using h
theorem Fun.okG {x qual : Str} {st : Stmt} {f : Addr} {fd : FuncData} {N ps : List Str} {k : Nat} {sp : Sp} (F : Fun K x qual st f fd) (S : FnScope N ps (defScope st)) (len : ∀ vs H Q E, sp vs H Q E → vs.length = ps.length)
    (hbody : ∀ (cdv : Value) (A : Around) (outer : List Env) (s : Shared) (H : Hp) (vs : List V) (Q : VK), fd.code = cdv → (A.deeper (envOfC qual (defScope st) s.heap.objs.size f cdv)).guards = some [] →
      Room k (A.deeper (envOfC qual (defScope st) s.heap.objs.size f cdv)) → sp vs H Q E0 →
      ∃ t, PSs (cxOf CX0 P w K mg base N qual (defScope st) f cdv A outer s H E0).nox (defBody st) t ∧ t { nx := fun _ H' => Q .non H', rt := Q } (start N vs) H) : FnG P w K mg base (k + 1) f fd ps sp := by
  obtain ⟨oc, od, kV, doc, pm, an, cdv, ct, osl, rfl, lk, hcd⟩ := F.ex
  refine ⟨len, fun A outer s H args us vs Q hg hr e0 hb rv hsp => ?_⟩
  have KX : K.In s.heap := e0.mod.kin.keeps (fun b o e => (e0.bs b o e).1)
  have nl : s.heap.NoLimit := e0.mod.nolimit.keeps (fun b o e => (e0.bs b o e).1)
  have par : ∀ y ∈ ps.zip us, (defScope st).names.lookup y.1 = some .local ∨ ((defScope st).names.lookup y.1 = some .cell ∧ ((cellsFrom (s.heap.objs.size + 1) (defScope st).names []).lookup y.1).isSome = true) := by
    rintro ⟨n, v⟩ hy
    cases S.par n (List.of_mem_zip hy).1 with
    | inl q => exact Or.inl q
    | inr q => exact Or.inr ⟨q, PySem.W.cellsFrom_some _ _ _ (Or.inl q)⟩
  refine codeAny_call_function hr.depth (KX _ _ lk) rfl S.co S.gen rfl (PySem.W.codeRec_of KX hcd) (hb _ _ _ _ ?_)
  refine wpAny_newFunctionEnv_cells S.kind par (fun env he s1 x => ?_)
  cases he
  refine ⟨nl.keeps x.toInCall.keep, codeAny_func ?_⟩
  obtain ⟨t, ht, hq⟩ := hbody cdv A outer s H vs Q rfl (guards_deeper hg) (hr.deeper _) hsp
  have J : Inv (cxOf CX0 P w K mg base N qual (defScope st) f cdv A outer s H E0) [] (start N vs) H s1 := inv_start S hr.hd e0 (len _ _ _ _ hsp) rv x
  refine wpAny_mono (ht.nox.run [] s1 _ H _ J hq) (fun fl s' hs => ?_) (fun e s' hs => hs)
  cases fl with
  | ret u => obtain ⟨v, σ', H', J', r', q'⟩ := hs; exact ⟨v, H', J'.os, J'.bare, J'.base, J'.hok, r', q'⟩
  | next => obtain ⟨σ', H', J', q'⟩ := hs; exact ⟨V.non, H', J'.os, J'.bare, J'.base, J'.hok, rfl, q'⟩
  | brk => obtain ⟨_, _, _, q'⟩ := hs; exact q'.elim
  | cont => obtain ⟨_, _, _, q'⟩ := hs; exact q'.elim
/-- the callee runs -/
theorem run_g {X : Cx} {k : Nat} {f : Addr} {fd : FuncData} {ps : List Str} {sp : Sp} {pins : List (Addr × Obj)} {σ : L2.St} {H : Hp} {s : Shared} {Q : VK} {args : Args} {us : List Value} {vs : List V}
    (F : FnG X.prog X.w X.K X.mg X.base k f fd ps sp) (hg : X.A.guards = some []) (hr : Room k X.A) (hb : BindsTo s fd args (ps.zip us)) (I : Inv X pins σ H s) (r : Vals vs us) (h : sp vs H Q E0) :
    codeAny (model X.prog X.w) X.A (.call (.ref f) args) (fun r' s' => match r' with
      | .ok (.ret u) => EP X pins σ Q u s'
      | .ok _ => False
      | .error e => X.xe e s') s := by
  refine codeAny_mono (F.run X.A X.stack s H args us vs Q hg hr I.env0 hb r h) (fun r' s' hq => ?_)
  cases r' with
  | error e => exact False.elim hq
  | ok fl =>
    cases fl with
    | ret u => exact I.after hq
    | next => exact hq
    | brk => exact hq
    | cont => exact hq
end

/-! ### the call -/
def pk {α : Type} (idx : List Nat) (l : List α) : List α := idx.filterMap fun i => l[i]?
theorem vals_pk {vs : List V} {us : List Value} (r : Vals vs us) : ∀ idx : List Nat, Vals (pk idx vs) (pk idx us)
  | [] => .nil
  | i :: idx => by
    have ih := vals_pk r idx
    unfold pk at ih ⊢
    cases e : vs[i]? with
    | none =>
      rw [List.filterMap_cons_none e, List.filterMap_cons_none (r.none_of e)]
      exact ih
    | some x =>
      obtain ⟨u, h1, h2⟩ := r.get e
      rw [List.filterMap_cons_some e, List.filterMap_cons_some h1]
      exact .cons h2 ih
theorem dps_none {K : PySem.W.Frag} {H : Hp} {vs : List V} {ds : List PyData} {i : Nat} (h : DxAll K H vs ds) (e : ds[i]? = none) : vs[i]? = none := by
  rw [List.getElem?_eq_none_iff] at e ⊢
  rw [dps_len h]; exact e
theorem dps_pk {K : PySem.W.Frag} {H : Hp} {vs : List V} {ds : List PyData} (r : DxAll K H vs ds) : ∀ idx : List Nat, DxAll K H (pk idx vs) (pk idx ds)
  | [] => .nil
  | i :: idx => by
    have ih := dps_pk r idx
    unfold pk at ih ⊢
    cases e : ds[i]? with
    | none =>
      rw [List.filterMap_cons_none e, List.filterMap_cons_none (dps_none r e)]
      exact ih
    | some x =>
      obtain ⟨u, h1, h2⟩ := dps_get r e
      rw [List.filterMap_cons_some e, List.filterMap_cons_some h1]
      exact .cons h2 ih
/-- how n arguments come to the parameters: np by place, then those named ks; idx: where each parameter's stands -/
def Bd (fd : FuncData) (ps : List Str) (n np : Nat) (ks : List Str) (idx : List Nat) : Prop := ∀ (s : Shared) (us : List Value), us.length = n → BindsTo s fd ⟨us.take np, ks.zip (us.drop np)⟩ (ps.zip (pk idx us))
def tCallG (sp : Sp) (idx : List Nat) (n : Nat) (t : TA) : TE := fun σ H Q => t σ H fun vs H1 => vs.length = n ∧ sp (pk idx vs) H1 Q E0
def tBoth (n : Nat) (t tk : TA) : TA := fun σ H Q => t σ H fun vs H1 => vs.length = n ∧ tk σ H1 fun zs H2 => Q (vs ++ zs) H2
section
variable {X : Cx} {k : Nat} {f : Addr} {fd : FuncData} {ps ks : List Str} {sp : Sp} {x : Str} {p pos : Pos} {e : Expr} {es : List Expr} {kws : List Keyword} {t tk : TA} {idx : List Nat}
theorem callG_core (F : FnG X.prog X.w X.K X.mg X.base k f fd ps sp) (hA : X.A.guards = some []) (hr : Room k X.A) {n np : Nat} (hb : Bd fd ps n np ks idx) {pins : List (Addr × Obj)} {σ : L2.St} {H : Hp} {s : Shared} {Q : VK} {us : List Value} {vs : List V}
    (I : Inv X pins σ H s) (r : Vals vs us) (hn : us.length = n) (h : sp (pk idx vs) H Q E0) : wpAny (model X.prog X.w) X.A (call (.ref f) (us.take np) (ks.zip (us.drop np))) (EP X pins σ Q) X.xe s :=
  wpAny_call (run_g F hA hr (hb s us hn) I (vals_pk r idx) h)
theorem pe_callG (F : FnG X.prog X.w X.K X.mg X.base k f fd ps sp) (hA : X.A.guards = some []) (hr : Room k X.A) (hm : X.mg x = some (.ref f)) (hk : PySem.W.keepIn X.K (.ref f) = true) (hb : Bd fd ps (e :: es).length (e :: es).length [] idx)
    (ha : PA X (e :: es) t) (hg : Gl X x := by rfl) (hdb : (x == ("__debug__" : Str)) = false := by decide) (he : starEach (e :: es) X.env = (false, eval e X.env) :: starEach es X.env := by rfl) (hpl : (backTo pos (starEach es X.env)).any (·.1) = false := by rfl) :
    PE X (.Call (.Name x p) (e :: es) [] pos) (tCallG sp idx (e :: es).length t) := by
  refine ⟨fun pins s σ H Q I h => ?_⟩
  refine wpAny_Call_Name_kw (ld_glob I hg hm ?_ hdb)
  refine PySem.W.callWith_K (h₀ := X.base) I.ok.mod.kin hk (thn (ha.run pos pins s σ H _ I h) fun us s1 ⟨vs, H1, I1, r, hn, q⟩ => ⟨I1.kIn, ?_⟩) he hpl
  have hn' : us.length = (e :: es).length := by rw [← r.length]; exact hn
  have := callG_core (ks := []) F hA hr hb I1 r hn' q
  rw [List.take_of_length_le (by omega)] at this
  exact this
theorem pe_callGk (F : FnG X.prog X.w X.K X.mg X.base k f fd ps sp) (hA : X.A.guards = some []) (hr : Room k X.A) (hm : X.mg x = some (.ref f)) (hk : PySem.W.keepIn X.K (.ref f) = true) (hb : Bd fd ps ((e :: es).length + kws.length) (e :: es).length ks idx)
    (ha : PA X (e :: es) t) (hkw : PK X kws tk) (hg : Gl X x := by rfl) (hall : (backToKw pos (keywordEach kws X.env)).all (·.1.isSome) = true := by rfl) (hks : (backToKw pos (keywordEach kws X.env)).filterMap (·.1) = ks := by rfl)
    (hdb : (x == ("__debug__" : Str)) = false := by decide) (he : starEach (e :: es) X.env = (false, eval e X.env) :: starEach es X.env := by rfl)
    (hpl : ((backTo pos (starEach (e :: es) X.env)).any (·.1) || (backToKw pos (keywordEach kws X.env)).any (·.1.isNone)) = false := by rfl) :
    PE X (.Call (.Name x p) (e :: es) kws pos) (tCallG sp idx ((e :: es).length + kws.length) (tBoth (e :: es).length t tk)) := by
  refine ⟨fun pins s σ H Q I h => ?_⟩
  refine wpAny_Call_Name_kw (ld_glob I hg hm ?_ hdb)
  refine PySem.W.callWith_KW (h₀ := X.base) I.ok.mod.kin hk hall (thn (ha.run pos pins s σ H _ I h) fun us s1 ⟨vs, H1, I1, r, n1, q⟩ => ?_) hpl he
  refine thn (hkw.run pos pins s1 σ H1 _ I1 q) fun ws s2 ⟨zs, H2, I2, rz, n2, q2⟩ => ⟨I2.kIn, ?_⟩
  rw [hks]
  have e3 : (us ++ ws).length = (e :: es).length + kws.length := by rw [← (r.append rz).length]; exact n2
  have l1 : us.length = (e :: es).length := by rw [← r.length]; exact n1
  have := callG_core F hA hr hb I2 (r.append rz) e3 q2
  rw [List.take_append_of_le_length (by omega), List.take_of_length_le (by omega), List.drop_append_of_le_length (by omega), List.drop_of_length_le (by omega), List.nil_append] at this
  exact this
theorem pe_callGk0 (F : FnG X.prog X.w X.K X.mg X.base k f fd ps sp) (hA : X.A.guards = some []) (hr : Room k X.A) (hm : X.mg x = some (.ref f)) (hk : PySem.W.keepIn X.K (.ref f) = true) (hb : Bd fd ps kws.length 0 ks idx)
    (hkw : PK X kws tk) (hg : Gl X x := by rfl) (hall : (backToKw pos (keywordEach kws X.env)).all (·.1.isSome) = true := by rfl) (hks : (backToKw pos (keywordEach kws X.env)).filterMap (·.1) = ks := by rfl)
    (hdb : (x == ("__debug__" : Str)) = false := by decide)
    (hpl : ((backTo pos (starEach [] X.env)).any (·.1) || (backToKw pos (keywordEach kws X.env)).any (·.1.isNone)) = false := by rfl) :
    PE X (.Call (.Name x p) [] kws pos) (tCallG sp idx kws.length tk) := by
  refine ⟨fun pins s σ H Q I h => ?_⟩
  refine wpAny_Call_Name_kw (ld_glob I hg hm ?_ hdb)
  refine PySem.W.callWith_KW0 (h₀ := X.base) I.ok.mod.kin hk hall (thn (hkw.run pos pins s σ H _ I h) fun ws s2 ⟨zs, H2, I2, rz, n2, q2⟩ => ⟨I2.kIn, ?_⟩) hpl
  rw [hks]
  have e2 := rz.length
  have := callG_core F hA hr hb I2 rz (by omega) q2
  rw [List.take_zero, List.drop_zero] at this
  exact this
end

/-! ### contracts: what a def makes of data -/
/-- m: of the arguments the answer -/
def sp0 (K : PySem.W.Frag) (m : List OD → Option OD) (n : Nat) : Sp := fun vs H Q _ => ∃ G f os r, SI K G H (vs.map some) (os.map some) f ∧ vs.length = n ∧ m os = some r ∧
  ∀ v H' G' f', SI K G' H' [some v] [some r] f' → Stp G H f G' H' f' → Q v H'
/-- m: of the list that the def may change and the other arguments the answer and the list behind it -/
def spP (K : PySem.W.Frag) (m : OD → List OD → Option (OD × OD)) (n : Nat) : Sp := fun vs H Q _ => ∃ G f vp vr op os r op', vs = vp :: vr ∧ SI K G H (some vp :: vr.map some) (some op :: os.map some) f ∧ vr.length = n ∧ m op os = some (r, op') ∧
  ∀ v H' G' f', SI K G' H' [some vp, some v] [some op', some r] f' → Stp G H f G' H' f' → Q v H'
section
variable {K : PySem.W.Frag} {X : Cx}
theorem SI.frame {G H G' H' : Hp} {A B : List (Option V)} {a b : En} {fr g g' : FP} (I : SI K G H A a fr) (J : SI K G' H' B b g') (s : Stp G H g G' H' g') (dj : ∀ x, fr x ≠ 0 → g x = 0) :
    ∃ f', SI K G' H' (A ++ B) (a ++ b) f' ∧ (∀ x, f' x = fr x + g' x) ∧ ∀ f, (∀ x, f x = fr x + g x) → Stp G H f G' H' f' := by
  have gr : ∀ x, fr x ≠ 0 → g' x = 0 := fun x q => by
    by_cases e : g' x = 0
    · exact e
    · rcases s.fnew x e with z | z
      · exact absurd (dj x q) z
      · exact absurd z (I.live x q)
  obtain ⟨k, k1, k2⟩ := SL.app (I.sl.mono s.gsub fun x u q e => s.keep x _ e (dj x q)) J.sl
  refine ⟨k, ⟨k1, J.sub, fun x => ?_, fun x q => ?_, J.tk⟩, k2, fun f hf => ⟨s.gsub, fun x o e z => s.keep x o e (by rw [hf] at z; omega), s.dom, fun x e => ?_, fun x e => ?_⟩⟩
  · rw [k2]
    by_cases e : fr x = 0
    · have := J.one x; omega
    · rw [gr x e]; have := I.one x; omega
  · rw [k2] at q
    by_cases e : fr x = 0
    · exact J.hid x (by omega)
    · cases h : G' x with
      | none => rfl
      | some u =>
        rcases s.gnew x (by rw [h]; simp) with z | z | z
        · exact absurd (I.hid x e) z
        · exact absurd z (I.live x e)
        · exact absurd (dj x e) z
  · rcases s.gnew x e with z | z | z
    · exact .inl z
    · exact .inr (.inl z)
    · exact .inr (.inr (by rw [hf]; omega))
  · rw [k2] at e
    by_cases z : fr x = 0
    · rcases s.fnew x (by omega) with y | y
      · exact .inl (by rw [hf]; omega)
      · exact .inr y
    · exact .inl (by rw [hf]; omega)
theorem SL.shs {G H : Hp} : ∀ {vs : List V} {ds : List PyData}, DxAll K G vs ds → SL K G H (vs.map some) ((ds.map OD.sh).map some) (fun _ => 0)
  | _, _, .nil => .nil
  | _, _, .cons h r => (SL.val (f := fun _ => 0) (g := fun _ => 0) (RO.sh h) (SL.shs r)).congr fun _ => rfl
def eFn0 (m : List OD → Option OD) (n : Nat) (idx : List Nat) (es : EvEs) : EvE := fun os => match es os with
  | some (rs, os1) => match rdAll os1 rs with
    | some ds => if rs.length = n ∧ (pk idx ds).length = n then match m ((pk idx ds).map OD.sh) with
      | some r => if isSc r.er = true ∧ r.isSh = true then some (.tm r, os1) else some (.tm r, hardAll os1 rs)
      | none => none else none
    | none => none
  | none => none
theorem er_fn0 {m : List OD → Option OD} {n : Nat} {idx : List Nat} {ev : EvEs} {ta : TA} (h : ERs K ev ta) : ER K (eFn0 m n idx ev) (tCallG (sp0 K m n) idx n ta) := fun σ τ G H os θ f r os' Q hl ht I e k => by
  unfold eFn0 at e
  split at e
  · rename_i rs os1 e1
    split at e
    · rename_i ds e2
      split at e
      · rename_i hn
        split at e
        · rename_i r1 e3
          refine h σ τ G H os θ f rs os1 _ hl ht I e1 fun vs H1 k1 => ?_
          obtain ⟨G1, f1, I1, s1, a1, l1⟩ := k1
          obtain ⟨G2, f2, I2, s2, hd⟩ := I1.popC l1 ht a1 e2
          obtain ⟨_, f3, I3, le3⟩ := I1.popA l1 ht a1 e2
          have hd' := dps_pk hd idx
          refine ⟨by rw [a1.len]; exact hn.1, G2, fun _ => 0, (pk idx ds).map OD.sh, r1, ⟨SL.shs hd', I2.sub, fun _ => Nat.zero_le _, fun _ z => absurd rfl z, I2.tk⟩, by rw [dps_len hd']; exact hn.2, e3, fun v H' G' f' J s => ?_⟩
          split at e
          · rename_i c
            obtain ⟨d, rfl⟩ : ∃ d, r1 = .sh d := by
              cases r1 with
              | sh d => exact ⟨d, rfl⟩
              | lst _ => cases c.2
              | tpl _ => cases c.2
            cases e
            have sb : ∀ a xs, H1 a = some (.lst xs) → H' a = some (.lst xs) := fun a xs q => s.keep a xs q rfl
            have sg : Sub G1 H' := (s2.gsub.trans s.gsub).trans J.sub
            have hv : Dx K H' v d := by
              obtain ⟨v', q1, q2⟩ := J.rd (i := 0) (o := .sh d) rfl
              cases q1; exact q2
            refine k v H' ((Kont.sh l1 (I3.grow sg sb ⟨I3.tk.no, J.tk.ok, J.tk.tab⟩) (dp_sc hv c.1)).step ?_)
            exact s1.trans ⟨Sub.refl _, fun a o q _ => sb a o q, s.dom, fun a q => .inl q, fun a q => .inl (by have := le3 a; omega)⟩
          · cases e
            obtain ⟨f4, I4, e4, s4⟩ := I2.frame J s fun _ _ => rfl
            exact k v H' ⟨G', f4, by simpa [List.append_assoc, RV.od] using I4, (s1.trans s2).trans (s4 f2 fun x => by omega), .cons trivial .nil, by rw [len_hardAll]; exact l1⟩
        · cases e
      · cases e
    · cases e
  · cases e
/-- the first argument a list that slot j owns: what the def makes of it stands there behind the call -/
def eFnP (m : OD → List OD → Option (OD × OD)) (n : Nat) (idx : List Nat) (es : EvEs) : EvE := fun os => match es os with
  | some (.al j :: rs, os1) => match rdAll os1 rs, (hardAll os1 rs)[j]? with
    | some ds, some (some (.lst xs)) => if rs.length + 1 = n ∧ (pk idx ds).length + 1 = n then match m (.lst xs) ((pk idx ds).map OD.sh) with
      | some (r, p') => some (.tm r, (hardAll os1 rs).set j (some p'))
      | none => none else none
    | _, _ => none
  | _ => none
theorem pk_zero {α : Type} (x : α) (l : List α) (idx : List Nat) : pk (0 :: idx.map (· + 1)) (x :: l) = x :: pk idx l := by
  unfold pk
  rw [List.filterMap_cons_some (f := fun i => (x :: l)[i]?) (a := 0) (b := x) rfl, List.filterMap_map]
  rfl
theorem SL.into {G H : Hp} : ∀ {vs : List (Option V)} {os : En} {f : FP} {j : Nat} {v : V} {o : OD} {g : FP}, SL K G H vs os f → os[j]? = some none → vs[j]? = some (some v) → RO K G H v o g →
    ∃ k, SL K G H vs (os.set j (some o)) k ∧ ∀ a, k a = f a + g a
  | _, _, _, _, _, _, _, .nil, h, _, _ => by simp at h
  | _, _, _, 0, _, _, _, .val _ _, h, _, _ => by simp at h
  | _, _, _, 0, _, _, _, .un r, _, h, q => by
    simp at h; subst h
    exact ⟨_, .val q r, fun a => by (try dsimp only); omega⟩
  | _, _, _, j + 1, _, _, _, .un r, h, h2, q => by
    obtain ⟨k, k1, k2⟩ := SL.into (j := j) r (by simpa using h) (by simpa using h2) q
    exact ⟨k, .un k1, k2⟩
  | _, _, _, j + 1, _, _, _, .val (f := f₁) q0 r, h, h2, q => by
    obtain ⟨k, k1, k2⟩ := SL.into (j := j) r (by simpa using h) (by simpa using h2) q
    exact ⟨_, .val q0 k1, fun a => by (try dsimp only); rw [k2]; omega⟩
theorem er_fnP {m : OD → List OD → Option (OD × OD)} {n : Nat} {idx : List Nat} {ev : EvEs} {ta : TA} (h : ERs K ev ta) : ER K (eFnP m (n + 1) idx ev) (tCallG (spP K m n) (0 :: idx.map (· + 1)) (n + 1) ta) := fun σ τ G H os θ f r os' Q hl ht I e k => by
  unfold eFnP at e
  split at e
  · rename_i j rs os1 e1
    split at e
    · rename_i ds xs e2 e4
      split at e
      · rename_i hn
        split at e
        · rename_i r1 p' e3
          cases e
          refine h σ τ G H os θ f _ os1 _ hl ht I e1 fun vs H1 k1 => ?_
          obtain ⟨G1, f1, I1, s1, a1, l1⟩ := k1
          cases a1 with
          | cons av ar =>
            rename_i vp vr
            have I1' : SI K G1 H1 (σ ++ ((τ ++ [some vp]) ++ vr.map some)) (os1 ++ ((θ ++ [none]) ++ rs.map RV.od)) f1 := by simpa [RV.od, List.append_assoc] using I1
            obtain ⟨G2, f2, I2, s2, hd⟩ := I1'.popC l1 (by simp [ht]) ar e2
            have I2' : SI K G2 H1 ((σ ++ τ) ++ [some vp]) ((hardAll os1 rs ++ θ) ++ [none]) f2 := by simpa [List.append_assoc] using I2
            obtain ⟨f3, I3, le3⟩ := I2'.pop (by simp [l1, ht, len_hardAll])
            have hj := lt_of_get e4
            obtain ⟨w, fo, fr, m1, m2, m3, m4⟩ := SL.out I3.sl (i := j) (o := .lst xs) (by rw [get_app hj]; exact e4)
            have hw : σ[j]? = some (some vp) := av
            have ew : w = vp := by
              rw [get_app (by rw [len_hardAll] at hj; omega), hw] at m1
              exact (Option.some.inj (Option.some.inj m1)).symm
            subst ew
            have hd' := dps_pk hd idx
            have Irest : SI K G2 H1 (σ ++ τ) ((hardAll os1 rs ++ θ).set j none) fr := I3.forget m4 fun a => by rw [m3]; omega
            have Iarg : SI K G2 H1 (some w :: (pk idx vr).map some) (some (.lst xs) :: ((pk idx ds).map OD.sh).map some) fo := by
              have q := SL.val m2 (SL.shs (H := H1) hd')
              exact I3.forget (q.congr fun a => rfl) fun a => by rw [m3]; omega
            refine ⟨by simp [ar.len, hn.1], G2, fo, w, pk idx vr, .lst xs, (pk idx ds).map OD.sh, r1, p', pk_zero _ _ _, Iarg, by rw [dps_len hd']; omega, e3, fun v H' G' f' J s => ?_⟩
            obtain ⟨f4, I4, e5, s5⟩ := Irest.frame J s fun a z => by have := I3.one a; rw [m3] at this; omega
            -- the list goes back to its slot
            obtain ⟨q1, q2, t1, t2, t3⟩ := SL.cut (by simp [l1, ht, len_hardAll]) I4.sl
            cases t2 with
            | val u1 u2 =>
              rename_i g1 g2
              have hl3 : j < (hardAll os1 rs ++ θ).length := by rw [List.length_append]; omega
              have t1' : ((hardAll os1 rs ++ θ).set j none)[j]? = some none := by rw [List.getElem?_set_self hl3]
              obtain ⟨kk, b1, b2⟩ := SL.into t1 t1' m1 u1
              rw [List.set_set, set_app hj] at b1
              obtain ⟨k2, b3, b4⟩ := SL.app b1 u2
              have tot : ∀ a, k2 a = f4 a := fun a => by rw [b4, b2, t3]; (try dsimp only); omega
              refine k v H' ⟨G', f4, ?_, ((s1.trans s2).trans (Stp.less le3)).trans (s5 f3 fun a => by rw [m3]; omega), .cons trivial .nil, by rw [List.length_set, len_hardAll]; exact l1⟩
              have fin : SI K G' H' ((σ ++ τ) ++ [some v]) (((hardAll os1 rs).set j (some p') ++ θ) ++ [some r1]) f4 := ⟨b3.congr tot, I4.sub, I4.one, I4.hid, I4.tk⟩
              simpa [List.append_assoc, RV.od] using fin
        · cases e
      · cases e
    · cases e
  · cases e
end
end DX
/-! DXDef: a def keeps its contract. -/
namespace DX
open PySem PySem.Spec PyProof.Rows L2

def retOf : Res → Option OD
  | .rt o _ => some o
  | .nx _ => some (.sh .none)
  | _ => none
def retP : Res → Option (OD × OD)
  | .rt o os => match os[0]? with
    | some (some p) => some (o, p)
    | _ => none
  | .nx os => match os[0]? with
    | some (some p) => some (.sh .none, p)
    | _ => none
  | _ => none
/-- the slots at the entry -/
def startE (N : List Str) (os : List OD) : En := os.map some ++ List.replicate (N.length - os.length) none
section
variable {P : Program} {w : World} {K : PySem.W.Frag} {mg : Str → Option Value} {base : Heap}
theorem SI.nones {G H : Hp} {vs : List (Option V)} {os : En} {f : FP} (I : SI K G H vs os f) : ∀ n : Nat, SI K G H (vs ++ List.replicate n none) (os ++ List.replicate n none) f
  | 0 => by simpa using I
  | n + 1 => by
    have := (SI.nones I n).pushN none
    rw [List.replicate_succ', List.replicate_succ']
    simpa [List.append_assoc] using this
theorem SI.lastTwo {σ : L2.St} {G H : Hp} {os : En} {f : FP} {v : V} {o : OD} (I : SI K G H (σ ++ [some v]) (os ++ [some o]) f) (hl : σ.length = os.length) :
    (∃ f', SI K G H [some v] [some o] f' ∧ ∀ a, f' a ≤ f a) ∧ ∀ vp p, σ[0]? = some (some vp) → os[0]? = some (some p) → ∃ f', SI K G H [some vp, some v] [some p, some o] f' ∧ ∀ a, f' a ≤ f a := by
  obtain ⟨g, k, h1, h2, h3⟩ := SL.cut hl I.sl
  refine ⟨⟨k, I.forget h2 fun a => by rw [h3]; omega, fun a => by rw [h3]; omega⟩, fun vp p e1 e2 => ?_⟩
  obtain ⟨v', fo, fr, m1, m2, m3, _⟩ := h1.at e2
  rw [e1] at m1; cases m1
  have q := SL.val m2 h2
  exact ⟨_, I.forget q fun a => by (try dsimp only); rw [h3, m3]; omega, fun a => by (try dsimp only); rw [h3, m3]; omega⟩
/-- the context of a def's body -/
abbrev CxD (P : Program) (w : World) (K : PySem.W.Frag) (mg : Str → Option Value) (base : Heap) (N : List Str) (qual : Str) (st : Stmt) (f : Addr) (cdv : Value) (A : Around) (outer : List Env) (s : Shared) (H : Hp) : Cx :=
  (cxOf CX0 P w K mg base N qual (defScope st) f cdv A outer s H E0).nox
theorem ok_fn0 {x qual : Str} {st : Stmt} {f : Addr} {fd : FuncData} {N ps : List Str} {k : Nat} (F : Fun K x qual st f fd) (S : FnScope N ps (defScope st)) {ev : Nat → EvS} {m : List OD → Option OD}
    (hb : ∀ (n : Nat) (cdv : Value) (A : Around) (outer : List Env) (s : Shared) (H : Hp), fd.code = cdv → (A.deeper (envOfC qual (defScope st) s.heap.objs.size f cdv)).guards = some [] → Room k (A.deeper (envOfC qual (defScope st) s.heap.objs.size f cdv)) →
      SSs (CxD P w K mg base N qual st f cdv A outer s H) [] (ev n) (defBody st))
    (hm : ∀ os r, os.length = ps.length → m os = some r → ∃ n res, ev n (startE N os) = some res ∧ retOf res = some r) : FnG P w K mg base (k + 1) f fd ps (sp0 K m ps.length) := by
  refine Fun.okG F S (fun vs H Q E h => ?_) fun cdv A outer s H vs Q hcd hA hr h => ?_
  · obtain ⟨G, g, os, r, _, hl, _⟩ := h
    exact hl
  · obtain ⟨G, g, os, r, I, hl, e, kk⟩ := h
    have ho : os.length = ps.length := by
      have := I.sl.len
      simp at this; omega
    obtain ⟨n, res, e1, e2⟩ := hm os r ho e
    obtain ⟨t, p, q⟩ := hb n cdv A outer s H hcd hA hr
    have I2 : SI K G H (start N vs) (startE N os) g := by
      have := I.nones (N.length - vs.length)
      unfold L2.start startE
      rw [ho, ← hl]
      exact this
    refine ⟨t, p, q (start N vs) G H (startE N os) g res _ I2.sl.len I2 e1 ?_⟩
    cases res with
    | nx os' =>
      cases e2
      intro σ' H' ⟨G', f', J, s', _, _⟩
      refine kk .non H' G' (fun _ => 0) ⟨(SL.val (RO.sh .non) .nil).congr fun _ => rfl, J.sub, fun _ => Nat.zero_le _, fun _ z => absurd rfl z, J.tk⟩ (s'.trans (Stp.less fun _ => Nat.zero_le _))
    | rt o os' =>
      cases e2
      intro v H' ⟨G', f', σ', J, s', l', _⟩
      obtain ⟨⟨f2, J2, le⟩, _⟩ := J.lastTwo l'
      exact kk v H' G' f2 J2 (s'.trans (Stp.less le))
    | bk _ => cases e2
    | ct _ => cases e2
theorem ok_fnP {x qual : Str} {st : Stmt} {f : Addr} {fd : FuncData} {N ps : List Str} {k np : Nat} (F : Fun K x qual st f fd) (S : FnScope N ps (defScope st)) (hps : ps.length = np + 1) {ev : Nat → EvS} {m : OD → List OD → Option (OD × OD)}
    (hb : ∀ (n : Nat) (cdv : Value) (A : Around) (outer : List Env) (s : Shared) (H : Hp), fd.code = cdv → (A.deeper (envOfC qual (defScope st) s.heap.objs.size f cdv)).guards = some [] → Room k (A.deeper (envOfC qual (defScope st) s.heap.objs.size f cdv)) →
      SSs (CxD P w K mg base N qual st f cdv A outer s H) [0] (ev n) (defBody st))
    (hm : ∀ op os r op', os.length = np → m op os = some (r, op') → ∃ n res, ev n (startE N (op :: os)) = some res ∧ retP res = some (r, op')) : FnG P w K mg base (k + 1) f fd ps (spP K m np) := by
  refine Fun.okG F S (fun vs H Q E h => ?_) fun cdv A outer s H vs Q hcd hA hr h => ?_
  · obtain ⟨G, g, vp, vr, op, os, r, op', rfl, _, hl, _⟩ := h
    rw [List.length_cons, hl, hps]
  · obtain ⟨G, g, vp, vr, op, os, r, op', rfl, I, hl, e, kk⟩ := h
    have ho : os.length = np := by
      have := I.sl.len
      simp at this; omega
    obtain ⟨n, res, e1, e2⟩ := hm op os r op' ho e
    obtain ⟨t, p, q⟩ := hb n cdv A outer s H hcd hA hr
    have I2 : SI K G H (start N (vp :: vr)) (startE N (op :: os)) g := by
      have := I.nones (N.length - (vr.length + 1))
      unfold L2.start startE
      rw [List.length_cons, List.length_cons, ho, hl]
      rw [hl] at this
      exact this
    have h0 : (start N (vp :: vr))[0]? = some (some vp) := rfl
    refine ⟨t, p, q (start N (vp :: vr)) G H (startE N (op :: os)) g res _ I2.sl.len I2 e1 ?_⟩
    cases res with
    | nx os' =>
      intro σ' H' ⟨G', f', J, s', l', keep⟩
      simp only [retP] at e2
      split at e2
      · rename_i p0 e3
        cases e2
        obtain ⟨_, hh⟩ := (J.push (v := .non) .non).lastTwo l'
        obtain ⟨f2, J2, le⟩ := hh vp op' ((keep 0 (by simp)).trans h0) e3
        exact kk .non H' G' f2 J2 (s'.trans (Stp.less le))
      · cases e2
    | rt o os' =>
      intro v H' ⟨G', f', σ', J, s', l', keep⟩
      simp only [retP] at e2
      split at e2
      · rename_i p0 e3
        cases e2
        obtain ⟨_, hh⟩ := J.lastTwo l'
        obtain ⟨f2, J2, le⟩ := hh vp op' ((keep 0 (by simp)).trans h0) e3
        exact kk v H' G' f2 J2 (s'.trans (Stp.less le))
      · cases e2
    | bk _ => cases e2
    | ct _ => cases e2
end

/-! ### calls as expressions -/
section
variable {X : Cx} {k : Nat} {f : Addr} {fd : FuncData} {ps ks : List Str} {x : Str} {p pos : Pos} {e : Expr} {es : List Expr} {kws : List Keyword} {idx : List Nat} {ev : EvEs}
theorem se_call0 {m : List OD → Option OD} {n : Nat} (F : FnG X.prog X.w X.K X.mg X.base k f fd ps (sp0 X.K m n)) (hA : X.A.guards = some []) (hr : Room k X.A) (hm : X.mg x = some (.ref f)) (hk : PySem.W.keepIn X.K (.ref f) = true) (hb : Bd fd ps n n [] idx) (h : SEs X ev (e :: es))
    (hn : (e :: es).length = n := by rfl) (hg : Gl X x := by rfl) (hdb : (x == ("__debug__" : Str)) = false := by decide) (he : starEach (e :: es) X.env = (false, eval e X.env) :: starEach es X.env := by rfl) (hpl : (backTo pos (starEach es X.env)).any (·.1) = false := by rfl) :
    SE X (eFn0 m n idx ev) (.Call (.Name x p) (e :: es) [] pos) := by
  subst hn
  obtain ⟨ta, q1, q2⟩ := h
  exact ⟨_, pe_callG F hA hr hm hk hb q1 hg hdb he hpl, er_fn0 q2⟩
theorem se_callP {m : OD → List OD → Option (OD × OD)} {n : Nat} (F : FnG X.prog X.w X.K X.mg X.base k f fd ps (spP X.K m n)) (hA : X.A.guards = some []) (hr : Room k X.A) (hm : X.mg x = some (.ref f)) (hk : PySem.W.keepIn X.K (.ref f) = true) (hb : Bd fd ps (n + 1) (n + 1) [] (0 :: idx.map (· + 1))) (h : SEs X ev (e :: es))
    (hn : (e :: es).length = n + 1 := by rfl) (hg : Gl X x := by rfl) (hdb : (x == ("__debug__" : Str)) = false := by decide) (he : starEach (e :: es) X.env = (false, eval e X.env) :: starEach es X.env := by rfl) (hpl : (backTo pos (starEach es X.env)).any (·.1) = false := by rfl) :
    SE X (eFnP m (n + 1) idx ev) (.Call (.Name x p) (e :: es) [] pos) := by
  obtain ⟨ta, q1, q2⟩ := h
  have := pe_callG (p := p) (pos := pos) F hA hr hm hk (by rw [hn]; exact hb) q1 hg hdb he hpl
  rw [hn] at this
  exact ⟨_, this, er_fnP q2⟩
/-- keywords -/
def SKs (X : Cx) (ev : EvEs) (kws : List Keyword) : Prop := ∃ tk, PK X kws tk ∧ ERs X.K ev tk
theorem sk_nil : SKs X esNil [] := ⟨_, pk_nil, ers_nil⟩
theorem sk_cons {nm : Option Str} {kpos : Pos} {ea : EvE} (h : SE X ea e) (g : SKs X ev kws) : SKs X (esCons ea ev) (⟨nm, e, kpos⟩ :: kws) := by
  obtain ⟨te, p, q⟩ := h
  obtain ⟨tk, p', q'⟩ := g
  exact ⟨_, pk_cons p p', ers_cons q q'⟩
def esApp (n : Nat) (a b : EvEs) : EvEs := fun os => match a os with
  | some (rs, os1) => if rs.length = n then match b os1 with
    | some (qs, os2) => some (rs ++ qs, os2)
    | none => none else none
  | none => none
theorem ers_app {K : PySem.W.Frag} {n : Nat} {a b : EvEs} {ta tb : TA} (ha : ERs K a ta) (hb : ERs K b tb) : ERs K (esApp n a b) (tBoth n ta tb) := fun σ τ G H os θ f rs os' Q hl ht I e k => by
  unfold esApp at e
  split at e
  · rename_i r1 os1 e1
    split at e
    · rename_i hn
      split at e
      · rename_i r2 os2 e2
        cases e
        refine ha σ τ G H os θ f r1 os1 _ hl ht I e1 fun vs H1 k1 => ?_
        obtain ⟨G1, f1, I1, s1, a1, l1⟩ := k1
        refine ⟨by rw [a1.len]; exact hn, ?_⟩
        refine hb σ (τ ++ vs.map some) G1 H1 os1 (θ ++ r1.map RV.od) f1 r2 _ _ l1 (by simp [ht, a1.len]) (by simpa [List.append_assoc] using I1) e2 fun zs H2 k2 => ?_
        obtain ⟨G2, f2, I2, s2, a2, l2⟩ := k2
        exact k _ H2 ⟨G2, f2, by simpa [List.append_assoc] using I2, s1.trans s2, a1.app a2, l2⟩
      · cases e
    · cases e
  · cases e
theorem se_callk {m : List OD → Option OD} {n : Nat} {evk : EvEs} (F : FnG X.prog X.w X.K X.mg X.base k f fd ps (sp0 X.K m n)) (hA : X.A.guards = some []) (hr : Room k X.A) (hm : X.mg x = some (.ref f)) (hk : PySem.W.keepIn X.K (.ref f) = true) {np : Nat} (hb : Bd fd ps n np ks idx) (h : SEs X ev (e :: es)) (hkw : SKs X evk kws)
    (hn : (e :: es).length + kws.length = n := by rfl) (hnp : (e :: es).length = np := by rfl) (hg : Gl X x := by rfl) (hall : (backToKw pos (keywordEach kws X.env)).all (·.1.isSome) = true := by rfl) (hks : (backToKw pos (keywordEach kws X.env)).filterMap (·.1) = ks := by rfl)
    (hdb : (x == ("__debug__" : Str)) = false := by decide) (he : starEach (e :: es) X.env = (false, eval e X.env) :: starEach es X.env := by rfl)
    (hpl : ((backTo pos (starEach (e :: es) X.env)).any (·.1) || (backToKw pos (keywordEach kws X.env)).any (·.1.isNone)) = false := by rfl) :
    SE X (eFn0 m n idx (esApp np ev evk)) (.Call (.Name x p) (e :: es) kws pos) := by
  subst hn hnp
  obtain ⟨ta, q1, q2⟩ := h
  obtain ⟨tk, q3, q4⟩ := hkw
  exact ⟨_, pe_callGk F hA hr hm hk hb q1 q3 hg hall hks hdb he hpl, er_fn0 (ers_app q2 q4)⟩
theorem se_callk0 {m : List OD → Option OD} {n : Nat} {evk : EvEs} (F : FnG X.prog X.w X.K X.mg X.base k f fd ps (sp0 X.K m n)) (hA : X.A.guards = some []) (hr : Room k X.A) (hm : X.mg x = some (.ref f)) (hk : PySem.W.keepIn X.K (.ref f) = true) (hb : Bd fd ps n 0 ks idx) (hkw : SKs X evk kws)
    (hn : kws.length = n := by rfl) (hg : Gl X x := by rfl) (hall : (backToKw pos (keywordEach kws X.env)).all (·.1.isSome) = true := by rfl) (hks : (backToKw pos (keywordEach kws X.env)).filterMap (·.1) = ks := by rfl)
    (hdb : (x == ("__debug__" : Str)) = false := by decide)
    (hpl : ((backTo pos (starEach [] X.env)).any (·.1) || (backToKw pos (keywordEach kws X.env)).any (·.1.isNone)) = false := by rfl) :
    SE X (eFn0 m n idx evk) (.Call (.Name x p) [] kws pos) := by
  subst hn
  obtain ⟨tk, q3, q4⟩ := hkw
  exact ⟨_, pe_callGk0 F hA hr hm hk hb q3 hg hall hks hdb hpl, er_fn0 q4⟩
end
end DX
/-! DXComp: several names at once; list comprehensions; methods of texts. -/
namespace DX
open PySem PySem.Spec PyProof.Rows L2

section
variable {K : PySem.W.Frag} {X : Cx} {R : List Nat}
/-- what a value is once its slot is shared -/
def cv (os : En) : RV → Option OD
  | .tm o => some o
  | .al j => match os[j]? with
    | some (some (.sh d)) => some (.sh d)
    | _ => none
def cvs (os : En) : List RV → Option (List OD)
  | [] => some []
  | r :: rs => match cv os r, cvs os rs with
    | some o, some ods => some (o :: ods)
    | _, _ => none
theorem cvs_len {os : En} : ∀ {rs : List RV} {ods : List OD}, cvs os rs = some ods → ods.length = rs.length
  | [], ods, e => by cases e; rfl
  | r :: rs, ods, e => by
    unfold cvs at e
    split at e
    · rename_i o os' e1 e2
      cases e
      simp [cvs_len e2]
    · cases e
theorem settle_sl {G H : Hp} {os : En} {σ : L2.St} (hw : ∀ (i : Nat) (d : PyData), os[i]? = some (some (.sh d)) → ∃ v, σ[i]? = some (some v) ∧ Dx K G v d) :
    ∀ {vs : List V} {rs : List RV} {ods : List OD} {g : FP}, Als σ vs rs → SL K G H (vs.map some) (rs.map RV.od) g → cvs os rs = some ods → SL K G H (vs.map some) (ods.map some) g
  | _, _, _, _, .nil, s, e => by cases e; exact s
  | v :: vs, r :: rs, ods, g, .cons a q, s, e => by
    unfold cvs at e
    split at e
    · rename_i o os' e1 e2
      cases e
      cases r with
      | tm o' =>
        cases e1
        cases s with
        | val h s => exact .val h (settle_sl hw q s e2)
      | al j =>
        have e1 : (match os[j]? with | some (some (.sh d)) => some (OD.sh d) | _ => none) = some o := e1
        split at e1
        · rename_i d e3
          cases e1
          obtain ⟨v', h1, h2⟩ := hw j d e3
          have a : σ[j]? = some (some v) := a
          rw [a] at h1; cases h1
          cases s with
          | un s => exact (SL.val (f := fun _ => 0) (RO.sh h2) (settle_sl hw q s e2)).congr fun a => by (try dsimp only); omega
        · cases e1
    · cases e
theorem SI.settle {σ τ : List (Option V)} {G H : Hp} {os θ : En} {f : FP} {vs : List V} {rs : List RV} {ods : List OD} (I : SI K G H (σ ++ (τ ++ vs.map some)) (os ++ (θ ++ rs.map RV.od)) f) (hl : σ.length = os.length) (ht : τ.length = θ.length) (ha : Als σ vs rs)
    (e : cvs (hardAll os rs) rs = some ods) : ∃ G' f', SI K G' H (σ ++ (τ ++ vs.map some)) (hardAll os rs ++ (θ ++ ods.map some)) f' ∧ Stp G H f G' H f' := by
  obtain ⟨G1, f1, I1, s1⟩ := I.hards rs
  have hw : ∀ (i : Nat) (d : PyData), (hardAll os rs)[i]? = some (some (.sh d)) → ∃ v, σ[i]? = some (some v) ∧ Dx K G1 v d := fun i d h => by
    obtain ⟨v, q1, _, _, q2⟩ := I1.slotW (by rw [len_hardAll]; exact hl) i (.sh d) h
    exact ⟨v, q1, q2 rfl⟩
  have I1' := I1.sl
  rw [← List.append_assoc, ← List.append_assoc] at I1'
  obtain ⟨g, k, h1, h2, h3⟩ := SL.cut (by simp [hl, ht, len_hardAll]) I1'
  obtain ⟨k2, k3, k4⟩ := SL.app h1 (settle_sl hw ha h2 e)
  refine ⟨G1, f1, ⟨?_, I1.sub, I1.one, I1.hid, I1.tk⟩, s1⟩
  have := k3.congr (g := f1) fun a => by rw [k4, h3]
  simpa [List.append_assoc] using this

theorem SI.storeT {σ τ : List (Option V)} {G H : Hp} {os θ : En} {f : FP} {v : V} {o : OD} (I : SI K G H (σ ++ (τ ++ [some v])) (os ++ (θ ++ [some o])) f) (hl : σ.length = os.length) (ht : τ.length = θ.length) {i : Nat} (hi : i < os.length) :
    ∃ f', SI K G H (σ.set i (some v) ++ τ) (os.set i (some o) ++ θ) f' ∧ ∀ a, f' a ≤ f a := by
  rw [← List.append_assoc, ← List.append_assoc] at I
  obtain ⟨f', J, le⟩ := I.store (i := i) (by simp [hl, ht]) (by rw [List.length_append]; omega)
  rw [set_app (by omega), set_app hi] at J
  exact ⟨f', J, le⟩
/-! ### a, b = x, y -/
def sPar (R : List Nat) (i j : Nat) (ev : EvEs) : EvS := fun os => match ev os with
  | some (rs, os1) => match cvs (hardAll os1 rs) rs with
    | some [o1, o2] => if i ∈ R ∨ j ∈ R ∨ os1.length ≤ i ∨ os1.length ≤ j then none else some (.nx (((hardAll os1 rs).set i (some o1)).set j (some o2)))
    | _ => none
  | none => none
theorem sr_par {i j : Nat} {ev : EvEs} {ta : TA} (hij : i ≠ j) (h : ERs K ev ta) : SR K R (sPar R i j ev) (tPar i j ta) := fun σ G H os f res D hl I e k => by
  unfold sPar at e
  split at e
  · rename_i rs os1 e1
    split at e
    · rename_i o1 o2 e2
      split at e
      · cases e
      · rename_i c
        simp only [not_or, Nat.not_le] at c
        cases e
        refine h σ [] G H os [] f rs os1 _ hl rfl (by simpa using I) e1 fun vs H1 k1 => ?_
        obtain ⟨G1, f1, I1, s1, a1, l1⟩ := k1
        obtain ⟨G2, f2, I2, s2⟩ := I1.settle l1 rfl a1 e2
        have hn : vs.length = 2 := by rw [a1.len, ← cvs_len e2]; rfl
        match vs, hn with
        | [v, w], _ =>
          refine ⟨v, w, rfl, ?_⟩
          have l2 : σ.length = (hardAll os1 rs).length := by rw [len_hardAll]; exact l1
          have I2' : SI K G2 H1 ((σ ++ [some v]) ++ [some w]) ((hardAll os1 rs ++ [some o1]) ++ [some o2]) f2 := by simpa using I2
          obtain ⟨f3, I3, le3⟩ := I2'.store (i := j) (by simp [l2]) (by rw [List.length_append, len_hardAll]; omega)
          rw [set_app (by omega), set_app (by rw [len_hardAll]; omega)] at I3
          obtain ⟨f4, I4, le4⟩ := I3.store (i := i) (by simp [l2]) (by rw [List.length_set, len_hardAll]; omega)
          rw [List.set_comm _ _ (Ne.symm hij), List.set_comm _ _ (Ne.symm hij)] at I4
          refine k _ H1 ⟨G2, f4, I4, ((s1.trans s2).trans (Stp.less le3)).trans (Stp.less le4), by simp [l2], fun q hq => ?_⟩
          rw [List.getElem?_set_ne (fun z => by subst z; exact c.2.1 hq), List.getElem?_set_ne (fun z => by subst z; exact c.1 hq)]
    · cases e
  · cases e
theorem ss_par (i j : Nat) {x y : Str} {a b : Expr} {px py pt : Pos} {kt k2 pt2 pos} {ev : EvEs} (hc : X.calm = true) (hN : X.N.Nodup) (h : SEs X ev [a, b]) (hi : X.N[i]? = some x := by rfl) (hj : X.N[j]? = some y := by rfl) (hij : i ≠ j := by decide)
    (hx : X.env.scope.names.lookup x = some .local := by rfl) (hy : X.env.scope.names.lookup y = some .local := by rfl)
    (hw : swappedStores [.Tuple [.Name x px, .Name y py] kt pt] (.Tuple [a, b] k2 pt2) X.env = pure (some [x, y]) := by rfl)
    (hs : swapsWithSole [.Tuple [.Name x px, .Name y py] kt pt] (.Tuple [a, b] k2 pt2) pos.line X.env = pure false := by rfl) :
    SS X R (sPar R i j ev) (.Assign [.Tuple [.Name x px, .Name y py] kt pt] (.Tuple [a, b] k2 pt2) pos) := by
  obtain ⟨ta, p, q⟩ := h
  exact ⟨_, ps_par hc hN hi hj hij hx hy p hw hs, sr_par hij q⟩
def sPar3 (R : List Nat) (i j l : Nat) (ev : EvEs) : EvS := fun os => match ev os with
  | some (rs, os1) => match cvs (hardAll os1 rs) rs with
    | some [o1, o2, o3] => if i ∈ R ∨ j ∈ R ∨ l ∈ R ∨ os1.length ≤ i ∨ os1.length ≤ j ∨ os1.length ≤ l then none else some (.nx ((((hardAll os1 rs).set i (some o1)).set j (some o2)).set l (some o3)))
    | _ => none
  | none => none
theorem sr_par3 {i j l : Nat} {ev : EvEs} {ta : TA} (hij : i ≠ j) (hil : i ≠ l) (hjl : j ≠ l) (h : ERs K ev ta) : SR K R (sPar3 R i j l ev) (tPar3 i j l ta) := fun σ G H os f res D hl I e k => by
  unfold sPar3 at e
  split at e
  · rename_i rs os1 e1
    split at e
    · rename_i o1 o2 o3 e2
      split at e
      · cases e
      · rename_i c
        simp only [not_or, Nat.not_le] at c
        cases e
        refine h σ [] G H os [] f rs os1 _ hl rfl (by simpa using I) e1 fun vs H1 k1 => ?_
        obtain ⟨G1, f1, I1, s1, a1, l1⟩ := k1
        obtain ⟨G2, f2, I2, s2⟩ := I1.settle l1 rfl a1 e2
        have hn : vs.length = 3 := by rw [a1.len, ← cvs_len e2]; rfl
        match vs, hn with
        | [u, v, w], _ =>
          refine ⟨u, v, w, rfl, ?_⟩
          have l2 : σ.length = (hardAll os1 rs).length := by rw [len_hardAll]; exact l1
          obtain ⟨f3, I3, le3⟩ := (show SI K G2 H1 (σ ++ ([some u, some v] ++ [some w])) (hardAll os1 rs ++ ([some o1, some o2] ++ [some o3])) f2 by simpa using I2).storeT (i := l) l2 rfl (by rw [len_hardAll]; omega)
          obtain ⟨f4, I4, le4⟩ := (show SI K G2 H1 (σ.set l (some w) ++ ([some u] ++ [some v])) ((hardAll os1 rs).set l (some o3) ++ ([some o1] ++ [some o2])) f3 by simpa using I3).storeT (i := j) (by simp [l2]) rfl (by rw [List.length_set, len_hardAll]; omega)
          obtain ⟨f5, I5, le5⟩ := (show SI K G2 H1 ((σ.set l (some w)).set j (some v) ++ ([] ++ [some u])) (((hardAll os1 rs).set l (some o3)).set j (some o2) ++ ([] ++ [some o1])) f4 by simpa using I4).storeT (i := i) (by simp [l2]) rfl (by rw [List.length_set, List.length_set, len_hardAll]; omega)
          rw [List.append_nil, List.append_nil] at I5
          rw [show ((σ.set l (some w)).set j (some v)).set i (some u) = ((σ.set i (some u)).set j (some v)).set l (some w) by
              rw [List.set_comm _ _ (Ne.symm hij), List.set_comm _ _ (Ne.symm hil), List.set_comm _ _ (Ne.symm hjl)],
            show (((hardAll os1 rs).set l (some o3)).set j (some o2)).set i (some o1) = (((hardAll os1 rs).set i (some o1)).set j (some o2)).set l (some o3) by
              rw [List.set_comm _ _ (Ne.symm hij), List.set_comm _ _ (Ne.symm hil), List.set_comm _ _ (Ne.symm hjl)]] at I5
          refine k _ H1 ⟨G2, f5, I5, (((s1.trans s2).trans (Stp.less le3)).trans (Stp.less le4)).trans (Stp.less le5), by simp [l2], fun q hq => ?_⟩
          rw [List.getElem?_set_ne (fun z => by subst z; exact c.2.2.1 hq), List.getElem?_set_ne (fun z => by subst z; exact c.2.1 hq), List.getElem?_set_ne (fun z => by subst z; exact c.1 hq)]
    · cases e
  · cases e
theorem ss_par3 (i j l : Nat) {x y z : Str} {a b c : Expr} {px py pz pt pos : Pos} {kt k2 pt2} {ev : EvEs} (hc : X.calm = true) (hN : X.N.Nodup) (h : SEs X ev [a, b, c]) (hi : X.N[i]? = some x := by rfl) (hj : X.N[j]? = some y := by rfl) (hl : X.N[l]? = some z := by rfl)
    (hij : i ≠ j := by decide) (hil : i ≠ l := by decide) (hjl : j ≠ l := by decide)
    (hx : X.env.scope.names.lookup x = some .local := by rfl) (hy : X.env.scope.names.lookup y = some .local := by rfl) (hz : X.env.scope.names.lookup z = some .local := by rfl)
    (hw : swappedStores [.Tuple [.Name x px, .Name y py, .Name z pz] kt pt] (.Tuple [a, b, c] k2 pt2) X.env = pure (some [x, y, z]) := by rfl)
    (hs : swapsWithSole [.Tuple [.Name x px, .Name y py, .Name z pz] kt pt] (.Tuple [a, b, c] k2 pt2) pos.line X.env = pure false := by rfl) :
    SS X R (sPar3 R i j l ev) (.Assign [.Tuple [.Name x px, .Name y py, .Name z pz] kt pt] (.Tuple [a, b, c] k2 pt2) pos) := by
  obtain ⟨ta, p, q⟩ := h
  exact ⟨_, ps_par3 hc hN hi hj hl hij hil hjl hx hy hz p hw hs, sr_par3 hij hil hjl q⟩
end
end DX
/-! DXLc: list comprehensions. -/
namespace DX
open PySem PySem.Spec PyProof.Rows L2

section
variable {K : PySem.W.Frag} {X : Cx}
/-- the reading that an expression's worth stands for by itself -/
def TEof (K : PySem.W.Frag) (ev : EvE) : TE := fun σ H Q => ∃ (τ : List (Option V)) (G : Hp) (os θ : En) (f : FP) (r : RV) (os' : En), σ.length = os.length ∧ τ.length = θ.length ∧ SI K G H (σ ++ τ) (os ++ θ) f ∧ ev os = some (r, os') ∧ ∀ v H', Kont K σ τ G H f os' θ [v] [r] H' → Q v H'
def TTof (K : PySem.W.Frag) (ev : EvT) : TT := fun σ H Q => ∃ (τ : List (Option V)) (G : Hp) (os θ : En) (f : FP) (b : Bool) (os' : En), σ.length = os.length ∧ τ.length = θ.length ∧ SI K G H (σ ++ τ) (os ++ θ) f ∧ ev os = some (b, os') ∧ ∀ H', KontT K σ τ G H f os' θ H' → Q b H'
theorem er_of (ev : EvE) : ER K ev (TEof K ev) := fun σ τ G H os θ f r os' Q hl ht I e k => ⟨τ, G, os, θ, f, r, os', hl, ht, I, e, k⟩
theorem tr_of (ev : EvT) : TR K ev (TTof K ev) := fun σ τ G H os θ f b os' Q hl ht I e k => ⟨τ, G, os, θ, f, b, os', hl, ht, I, e, k⟩
theorem SE.pe {ev : EvE} {e : Expr} (h : SE X ev e) : PE X e (TEof X.K ev) := by
  obtain ⟨te, p, q⟩ := h
  exact ⟨fun pins s σ H Q I hq => by
    obtain ⟨τ, G, os, θ, f, r, os', a, b, c, d, k⟩ := hq
    exact p.run pins s σ H Q I (q σ τ G H os θ f r os' Q a b c d k)⟩
theorem STt.pt {ev : EvT} {e : Expr} (h : STt X ev e) : PT X e (TTof X.K ev) := by
  obtain ⟨te, p, q⟩ := h
  exact ⟨fun pins s σ H Q I hq => by
    obtain ⟨τ, G, os, θ, f, r, os', a, b, c, d, k⟩ := hq
    exact p.run pins s σ H Q I (q σ τ G H os θ f r os' Q a b c d k)⟩

def wipeE (os : En) : List Nat → En
  | [] => os
  | v :: vs => (wipeE os vs).set v none
theorem len_wipeE (os : En) : ∀ vs : List Nat, (wipeE os vs).length = os.length
  | [] => rfl
  | v :: vs => by unfold wipeE; rw [List.length_set, len_wipeE os vs]
theorem wipeE_none {os : En} {j : Nat} : ∀ {vs : List Nat}, j ∈ vs → ∀ o, (wipeE os vs)[j]? ≠ some (some o)
  | v :: vs, h, o, e => by
    unfold wipeE at e
    by_cases z : v = j
    · subst z
      by_cases q : v < (wipeE os vs).length
      · rw [List.getElem?_set_self q] at e; cases e
      · rw [List.getElem?_eq_none (by simpa using q)] at e; cases e
    · rw [List.getElem?_set_ne z] at e
      rcases List.mem_cons.mp h with y | y
      · exact z y.symm
      · exact wipeE_none y o e
theorem wipe_set {σ : L2.St} {i : Nat} {x : Option V} : ∀ {vs : List Nat}, i ∈ vs → wipe (σ.set i x) vs = wipe σ vs ∧ True
  | v :: vs, h => by
    refine ⟨?_, trivial⟩
    show (wipe (σ.set i x) vs).set v none = (wipe σ vs).set v none
    by_cases m : i ∈ vs
    · rw [(wipe_set m).1]
    · have hv : i = v := by
        rcases List.mem_cons.mp h with y | y
        · exact y
        · exact absurd y m
      subst hv
      have : ∀ {ws : List Nat}, i ∉ ws → wipe (σ.set i x) ws = (wipe σ ws).set i x := fun {ws} => by
        induction ws with
        | nil => intro _; rfl
        | cons w ws ih =>
          intro hw
          simp only [List.mem_cons, not_or] at hw
          show (wipe (σ.set i x) ws).set w none = ((wipe σ ws).set w none).set i x
          rw [ih hw.2, List.set_comm _ _ (fun z => hw.1 z)]
      rw [this m, List.set_set]
theorem wipe_get {σ : L2.St} {i : Nat} : ∀ {vs : List Nat}, i ∉ vs → (wipe σ vs)[i]? = σ[i]?
  | [], _ => rfl
  | v :: vs, h => by
    simp only [List.mem_cons, not_or] at h
    show ((wipe σ vs).set v none)[i]? = _
    rw [List.getElem?_set_ne (fun z => h.1 z.symm)]
    exact wipe_get h.2
/-- what is not said of a slot may be any -/
theorem SL.swap {G H : Hp} : ∀ {vs ws : List (Option V)} {os : En} {f : FP}, SL K G H vs os f → ws.length = vs.length → (∀ (i : Nat) (o : OD), os[i]? = some (some o) → ws[i]? = vs[i]?) → SL K G H ws os f
  | _, [], _, _, .nil, _, _ => .nil
  | _, w :: ws, _, _, .un r, l, h => .un (SL.swap r (by simpa using l) fun i o e => by simpa using h (i + 1) o (by simpa using e))
  | _, w :: ws, _, _, .val (v := v) (o := o) q r, l, h => by
    have := h 0 o rfl
    simp at this
    subst this
    exact .val q (SL.swap r (by simpa using l) fun i o e => by simpa using h (i + 1) o (by simpa using e))
/-- less is said -/
theorem SL.wiped {G H : Hp} {vs : List (Option V)} {os θ : En} {f : FP} (h : SL K G H vs (os ++ θ) f) : ∀ own : List Nat, ∃ g, SL K G H vs (wipeE os own ++ θ) g ∧ ∀ a, g a ≤ f a
  | [] => ⟨f, h, fun _ => Nat.le_refl _⟩
  | v :: own => by
    obtain ⟨g, h1, h2⟩ := SL.wiped h own
    by_cases q : v < (wipeE os own).length
    · cases e : (wipeE os own)[v]? with
      | none => rw [List.getElem?_eq_none_iff] at e; omega
      | some oo =>
        cases oo with
        | none =>
          refine ⟨g, ?_, h2⟩
          show SL K G H vs ((wipeE os own).set v none ++ θ) g
          rw [set_id e]; exact h1
        | some o =>
          obtain ⟨w, fo, fr, m1, m2, m3, m4⟩ := SL.out h1 (i := v) (o := o) (by rw [get_app q]; exact e)
          rw [set_app q] at m4
          exact ⟨fr, m4, fun a => by have := h2 a; have := m3 a; omega⟩
    · refine ⟨g, ?_, h2⟩
      show SL K G H vs ((wipeE os own).set v none ++ θ) g
      rw [List.set_eq_of_length_le (by omega)]; exact h1

/-- a comprehension's target: its own names alone change -/
def TGc (K : PySem.W.Frag) (own : List Nat) (tv : EvG) (g : TG) : Prop := ∀ (σ τ : List (Option V)) (G H : Hp) (os θ : En) (f : FP) (v : V) (d : PyData) (os' : En) (Q : L2.St → Hp → Prop),
  σ.length = os.length → τ.length = θ.length → SI K G H (σ ++ τ) (os ++ θ) f → Dx K G v d → tv d os = some os' →
  (∀ σ' f', wipe σ' own = wipe σ own → SI K G H (σ' ++ τ) (os' ++ θ) f' → (∀ a, f' a ≤ f a) → σ'.length = os'.length → Q σ' H) → g v σ H Q
theorem tgc_name {own : List Nat} {i : Nat} (h : i ∈ own) : TGc K own (gvName [] i) (gName i) := fun σ τ G H os θ f v d os' Q hl ht I hd e k => by
  unfold gvName at e
  split at e
  · cases e
  · rename_i c
    cases e
    simp only [List.not_mem_nil, false_or, Nat.not_le] at c
    have J : SI K G H (σ ++ (τ ++ [some v])) (os ++ (θ ++ [some (.sh d)])) f := by simpa [List.append_assoc] using I.push hd
    obtain ⟨f', I2, le⟩ := J.storeT hl ht c
    exact k _ f' (wipe_set h).1 I2 le (by simp [hl])
theorem tgc_two {own : List Nat} {i j : Nat} (h : i ∈ own) (h' : j ∈ own) : TGc K own (gvTup 2 (gvCons (gvName [] i) (gvCons (gvName [] j) gvNil))) (gTup K 2 (gCons (gName i) (gCons (gName j) gNil))) := fun σ τ G H os θ f v d os' Q hl ht I hd e k => by
  unfold gvTup at e
  split at e
  · rename_i ds
    split at e
    · rename_i c
      match ds, c with
      | [d1, d2], _ =>
        unfold gvCons at e
        simp only at e
        split at e
        · rename_i os1 e1
          split at e
          · rename_i os2 e2
            simp only [gvNil] at e
            cases e
            cases hd with
            | tup r1 r2 =>
              obtain ⟨v1, v2, rfl, q1, q2⟩ := dps2 r2
              refine ⟨_, _, rfl, sqT_sub I.sub r1, rfl, v1, _, rfl, ?_⟩
              refine tgc_name h σ τ G H os θ f v1 d1 os1 _ hl ht I q1 e1 fun σ1 f1 w1 I1 le1 l1 => ?_
              refine ⟨v2, _, rfl, ?_⟩
              refine tgc_name h' σ1 τ G H os1 θ f1 v2 d2 _ _ l1 ht I1 q2 e2 fun σ2 f2 w2 I2 le2 l2 => ?_
              exact ⟨rfl, k σ2 f2 (w2.trans w1) I2 (fun a => Nat.le_trans (le2 a) (le1 a)) l2⟩
          · cases e
        · cases e
    · cases e
  · cases e

/-! ### the comprehension -/
def lcF (own : List Nat) (tv : EvG) (c : EvT) (ev : EvE) : List PyData → En → List OD → Option (List OD × En)
  | [], os, acc => some (acc, os)
  | d :: ds, os, acc => match tv d os with
    | some os1 => match c os1 with
      | some (true, os2) => match ev os2 with
        | some (r, os3) => match cv (hard os3 r) r with
          | some o => if acc.length < sizeLine then lcF own tv c ev ds (wipeE (hard os3 r) own) (acc ++ [o]) else none
          | none => none
        | none => none
      | some (false, os2) => lcF own tv c ev ds (wipeE os2 own) acc
      | none => none
    | none => none
def eLc (own : List Nat) (it : EvI) (tv : EvG) (c : EvT) (ev : EvE) : EvE := fun os => match it os with
  | some (ds, os1) => match lcF own tv c ev ds (wipeE os1 own) [] with
    | some (acc, os2) => some (.tm (.lst acc), os2)
    | none => none
  | none => none
def cYes : EvT := fun os => some (true, os)
theorem tr_yes : TR K cYes tYes := fun σ τ G H os θ f b os' Q hl ht I e k => by
  cases e
  exact k H ⟨G, f, I, Stp.refl _ _ _, hl⟩
theorem er_lc {own : List Nat} {it : EvI} {tv : EvG} {c : EvT} {ev : EvE} {wi : TI} {g : TG} {tt : TT} {te : TE} (hi : IR K it wi) (hg : TGc K own tv g) (hc : TR K c tt) (he : ER K ev te) : ER K (eLc own it tv c ev) (tLc wi g tt te own) := fun σ τ G H os θ f r os' Q hl ht I e k => by
  unfold eLc at e
  split at e
  · rename_i ds os1 e1
    split at e
    · rename_i acc' os2 e2
      cases e
      refine hi σ τ G H os θ f ds os1 _ hl ht I e1 fun J H1 G1 f1 I1 s1 l1 itk => ?_
      intro D hD
      -- the new list on the stack
      obtain ⟨gw, Lw, lew⟩ := SL.wiped I1.sl own
      have Iw : SI K G1 H1 (σ ++ τ) (wipeE os1 own ++ θ) gw := I1.forget Lw lew
      obtain ⟨f2, I2, s2⟩ := Iw.pushNew (xs := []) (ds := []) .nil hD
      have hsw : ∀ {ws : List (Option V)} {os3 θ3 : En} {G3 H3 : Hp} {f3 : FP} {τ3 : List (Option V)} {σ3 : L2.St}, SI K G3 H3 (σ3 ++ τ3) (os3 ++ θ3) f3 → σ3.length = os3.length → ws.length = σ3.length → (∀ (j : Nat), j ∉ own → ws[j]? = σ3[j]?) → (∀ j ∈ own, ∀ o, os3[j]? ≠ some (some o)) → SI K G3 H3 (ws ++ τ3) (os3 ++ θ3) f3 :=
        fun {ws os3 θ3 G3 H3 f3 τ3 σ3} I3 l3 lw hw hn => ⟨I3.sl.swap (by simp [lw]) fun j o ej => by
          by_cases hj : j < os3.length
          · rw [get_app (by omega), get_app (by omega)]
            rw [get_app hj] at ej
            exact hw j fun m => hn j m o ej
          · rw [List.getElem?_append_right (by omega), List.getElem?_append_right (by omega), lw], I3.sub, I3.one, I3.hid, I3.tk⟩
      refine ⟨fun i m H' => m = ds.length - i ∧ i ≤ ds.length ∧ ∃ os3 acc G3 f3, SI K G3 H' (wipe σ own ++ (τ ++ [some (.ref D)])) (os3 ++ (θ ++ [some (.lst acc)])) f3 ∧ Stp G1 H1 f1 G3 H' f3 ∧ σ.length = os3.length ∧ (∀ j ∈ own, ∀ o, os3[j]? ≠ some (some o)) ∧ lcF own tv c ev (ds.drop i) os3 acc = some (acc', os'), ⟨ds.length, by simp, Nat.zero_le _, wipeE os1 own, [], G1, f2, ?_, (Stp.less lew).trans s2, by rw [len_wipeE]; exact l1, fun j hj => wipeE_none hj, by simpa using e2⟩, fun i m H' hW => ?_⟩
      · have I2' : SI K G1 (upd H1 D (.lst [])) (σ ++ (τ ++ [some (.ref D)])) (wipeE os1 own ++ (θ ++ [some (.lst [])])) f2 := by simpa [List.append_assoc] using I2
        exact hsw I2' (by rw [len_wipeE]; exact l1) (wipe_length _ _) (fun j hj => wipe_get hj) fun j hj => wipeE_none hj
      · obtain ⟨rfl, hle, os3, acc, G3, f3, I3, s3, l3, nn, e3⟩ := hW
        obtain ⟨j1, j2, j3⟩ := itk i G3 H' s3.gsub I3.sub
        by_cases hlt : i < ds.length
        · refine .inr ⟨j1 hlt, fun H'' => ∃ os4 acc4 G4 f4, SI K G4 H'' (wipe σ own ++ (τ ++ [some (.ref D)])) (os4 ++ (θ ++ [some (.lst acc4)])) f4 ∧ Stp G1 H1 f1 G4 H'' f4 ∧ σ.length = os4.length ∧ (∀ j ∈ own, ∀ o, os4[j]? ≠ some (some o)) ∧ lcF own tv c ev (ds.drop (i + 1)) os4 acc4 = some (acc', os'),
            fun H'' ⟨os4, acc4, G4, f4, q1, q2, q3, q4, q5⟩ => ⟨ds.length - (i + 1), by omega, rfl, hlt, os4, acc4, G4, f4, q1, q2, q3, q4, q5⟩, fun x H4 y => ?_⟩
          have hd : ds[i]? = some ds[i] := List.getElem?_eq_getElem hlt
          obtain ⟨G4, n4, hx⟩ := j3 x H4 _ hd y
          obtain ⟨I4, s4⟩ := I3.nw n4
          rw [List.drop_eq_getElem_cons hlt] at e3
          unfold lcF at e3
          split at e3
          · rename_i os5 e5
            refine hg (wipe σ own) (τ ++ [some (.ref D)]) G4 H4 os3 (θ ++ [some (.lst acc)]) f3 x ds[i] os5 _ (by rw [wipe_length]; exact l3) (by simp [ht]) I4 hx e5 fun σ5 f5 w5 I5 le5 l5 => ?_
            have wid : wipe (wipe σ own) own = wipe σ own := by
              apply List.ext_getElem?
              intro j
              by_cases hj : j ∈ own
              · have a1 : ∀ τ : L2.St, ∀ v, (wipe τ own)[j]? ≠ some (some v) := fun τ v z => (wipe_some z).2 hj
                cases z1 : (wipe (wipe σ own) own)[j]? with
                | none =>
                  have := List.getElem?_eq_none_iff.mp z1
                  rw [wipe_length] at this
                  rw [List.getElem?_eq_none this]
                | some a =>
                  cases a with
                  | some v => exact absurd z1 (a1 _ v)
                  | none =>
                    have := lt_of_get z1
                    rw [wipe_length] at this
                    cases z2 : (wipe σ own)[j]? with
                    | none => have := List.getElem?_eq_none_iff.mp z2; omega
                    | some b =>
                      cases b with
                      | some v => exact absurd z2 (a1 _ v)
                      | none => rfl
              · rw [wipe_get hj]
            refine ⟨by rw [w5, wid], ?_⟩
            have st5 : Stp G1 H1 f1 G4 H4 f5 := (s3.trans s4).trans (Stp.less le5)
            have hback : ∀ (j : Nat), j ∉ own → (wipe σ own)[j]? = σ5[j]? := fun j hj => by
              have : (wipe σ5 own)[j]? = (wipe (wipe σ own) own)[j]? := by rw [w5]
              rw [wipe_get hj, wipe_get hj] at this
              exact this.symm
            split at e3
            · rename_i os6 e6
              refine hc σ5 (τ ++ [some (.ref D)]) G4 H4 os5 (θ ++ [some (.lst acc)]) f5 true os6 _ l5 (by simp [ht]) I5 e6 fun H6 k6 => ?_
              obtain ⟨G6, f6, I6, s6, l6⟩ := k6
              rw [if_pos rfl]
              split at e3
              · rename_i r7 os7 e7
                split at e3
                · rename_i o e8
                  split at e3
                  · rename_i hsz
                    refine he σ5 (τ ++ [some (.ref D)]) G6 H6 os6 (θ ++ [some (.lst acc)]) f6 r7 os7 _ l6 (by simp [ht]) I6 e7 fun y7 H7 k7 => ?_
                    obtain ⟨G7, f7, I7, s7, a7, l7⟩ := k7
                    obtain ⟨G8, f8, I8, s8⟩ := I7.settle (ods := [o]) l7 (by simp [ht]) a7 (by
                      show (match cv (hard os7 r7) r7, cvs (hard os7 r7) [] with | some o, some ods => some (o :: ods) | _, _ => none) = some [o]
                      rw [e8]; rfl)
                    have I8' : SI K G8 H7 ((σ5 ++ (τ ++ [some (.ref D)])) ++ [some y7]) ((hard os7 r7 ++ (θ ++ [some (.lst acc)])) ++ [some o]) f8 := by simpa [List.append_assoc, hardAll] using I8
                    have hpos : (hard os7 r7 ++ (θ ++ [some (.lst acc)]))[(hard os7 r7).length + θ.length]? = some (some (.lst acc)) := by
                      rw [List.getElem?_append_right (by omega), List.getElem?_append_right (by omega)]
                      simp
                    obtain ⟨p, us, b1, b2, b3, f9, I9, s9⟩ := I8'.app (by simp [l7, ht, len_hard]) hpos
                    have ep : p = D := by
                      rw [List.getElem?_append_right (by rw [len_hard]; omega), List.getElem?_append_right (by rw [len_hard]; omega)] at b1
                      simp [len_hard, l7, ht] at b1
                      exact b1.symm
                    subst ep
                    refine ⟨us, b2, by rw [b3]; exact hsz, wipeE (hard os7 r7) own, acc ++ [o], G8, ?_⟩
                    have I9' : SI K G8 (upd H7 p (.lst (us ++ [y7]))) (σ5 ++ (τ ++ [some (.ref p)])) (hard os7 r7 ++ (θ ++ [some (.lst (acc ++ [o]))])) f9 := by
                      rw [List.set_append_right _ _ (by omega), List.set_append_right _ _ (by omega)] at I9
                      simpa using I9
                    obtain ⟨gA, LA, leA⟩ := SL.wiped I9'.sl own
                    have IA := I9'.forget LA leA
                    refine ⟨gA, hsw IA (by rw [len_wipeE, len_hard]; exact l7) (by rw [wipe_length]; have := congrArg List.length w5; rw [wipe_length, wipe_length, wipe_length] at this; exact this.symm) hback (fun j hj => wipeE_none hj), ?_, ?_, fun j hj => wipeE_none hj, e3⟩
                    · exact ((((st5.trans s6).trans s7).trans s8).trans s9).trans (Stp.less leA)
                    · rw [len_wipeE, len_hard, ← l7]
                      have := congrArg List.length w5; rw [wipe_length, wipe_length, wipe_length] at this; exact this.symm
                  · cases e3
                · cases e3
              · cases e3
            · rename_i os6 e6
              refine hc σ5 (τ ++ [some (.ref D)]) G4 H4 os5 (θ ++ [some (.lst acc)]) f5 false os6 _ l5 (by simp [ht]) I5 e6 fun H6 k6 => ?_
              obtain ⟨G6, f6, I6, s6, l6⟩ := k6
              rw [if_neg Bool.false_ne_true]
              obtain ⟨gA, LA, leA⟩ := SL.wiped I6.sl own
              have IA := I6.forget LA leA
              have l56 : σ.length = σ5.length := by have := congrArg List.length w5; rw [wipe_length, wipe_length, wipe_length] at this; exact this.symm
              exact ⟨wipeE os6 own, acc, G6, gA, hsw IA (by rw [len_wipeE]; exact l6) (by rw [wipe_length]; exact l56) hback (fun j hj => wipeE_none hj), (st5.trans s6).trans (Stp.less leA), by rw [len_wipeE, ← l6]; exact l56, fun j hj => wipeE_none hj, e3⟩
            · cases e3
          · cases e3
        · have ei : i = ds.length := by omega
          subst ei
          rw [List.drop_length] at e3
          cases e3
          refine .inl ⟨j2 (Nat.le_refl _), k _ H' ⟨G3, f3, ?_, s1.trans s3, .cons trivial .nil, l3⟩⟩
          have := hsw I3 (by rw [wipe_length]; exact l3) (ws := σ) (wipe_length _ _).symm (fun j hj => (wipe_get hj).symm) nn
          simpa [RV.od] using this
    · cases e
  · cases e
end
end DX
/-! DXSyn: comprehensions and methods of texts as they stand in a text. -/
namespace DX
open PySem PySem.Spec PyProof.Rows L2

section
variable {X : Cx} {R : List Nat} {elt iter c : Expr} {x : Str} {px pos : Pos} {scope : Scope} {i : Nat} {it : EvI} {ev : EvE} {cc : EvT}
theorem se_lc (i : Nat) (hc : X.calm = true) (hN : X.N.Nodup) (hi : SI' X (.Name x px) it iter) (he : ∀ (s : Shared) (H : Hp) (C : Addr) (cl : List (Str × Addr)) (fp : List Addr), SE (X.blk s H scope (compEnvC scope cl C X.env) fp) ev elt)
    (ok : BlkOk X.N X.env.scope scope [(x, i)] := by exact blkOk_by (by decide +kernel))
    (hg : ∀ (s : Shared) (H : Hp) (C : Addr) (cl : List (Str × Addr)) (fp : List Addr), PG (X.blk s H scope (compEnvC scope cl C X.env) fp) (.Name x px) (gName i) := by exact fun _ _ _ _ _ => pg_name (by assumption) rfl (Or.inl rfl))
    (hs : ∀ v, foldedSetIterable iter X.env v = pure v := by intro _; rfl) : SE X (eLc [i] it (gvName [] i) cYes ev) (.ListComp elt [⟨.Name x px, iter, [], 0⟩] scope pos) := by
  obtain ⟨wi, p, q⟩ := hi
  exact ⟨_, pe_lc (own := [(x, i)]) hc hN p ok hg (fun _ _ _ _ _ => pts_nil) (fun s H C cl fp => (he s H C cl fp).pe) hs, er_lc q (tgc_name (by simp)) tr_yes (er_of ev)⟩
theorem se_lcIf (i : Nat) (hc : X.calm = true) (hN : X.N.Nodup) (hi : SI' X (.Name x px) it iter) (ht : ∀ (s : Shared) (H : Hp) (C : Addr) (cl : List (Str × Addr)) (fp : List Addr), STt (X.blk s H scope (compEnvC scope cl C X.env) fp) cc c) (he : ∀ (s : Shared) (H : Hp) (C : Addr) (cl : List (Str × Addr)) (fp : List Addr), SE (X.blk s H scope (compEnvC scope cl C X.env) fp) ev elt)
    (ok : BlkOk X.N X.env.scope scope [(x, i)] := by exact blkOk_by (by decide +kernel))
    (hg : ∀ (s : Shared) (H : Hp) (C : Addr) (cl : List (Str × Addr)) (fp : List Addr), PG (X.blk s H scope (compEnvC scope cl C X.env) fp) (.Name x px) (gName i) := by exact fun _ _ _ _ _ => pg_name (by assumption) rfl (Or.inl rfl))
    (hs : ∀ v, foldedSetIterable iter X.env v = pure v := by intro _; rfl) : SE X (eLc [i] it (gvName [] i) cc ev) (.ListComp elt [⟨.Name x px, iter, [c], 0⟩] scope pos) := by
  obtain ⟨wi, p, q⟩ := hi
  exact ⟨_, pe_lc (own := [(x, i)]) hc hN p ok hg (fun s H C cl fp => pts_one (ht s H C cl fp).pt) (fun s H C cl fp => (he s H C cl fp).pe) hs, er_lc q (tgc_name (by simp)) (tr_of cc) (er_of ev)⟩
/-- y = [..] -/
theorem ss_setLc (j i : Nat) {y : Str} {py spos : Pos} (hc : X.calm = true) (hN : X.N.Nodup) (hi : SI' X (.Name x px) it iter) (he : ∀ (s : Shared) (H : Hp) (C : Addr) (cl : List (Str × Addr)) (fp : List Addr), SE (X.blk s H scope (compEnvC scope cl C X.env) fp) ev elt)
    (hy : X.N[j]? = some y := by rfl) (hyl : X.env.scope.names.lookup y = some .local := by rfl)
    (hsw : swapsWith (.ListComp elt [⟨.Name x px, iter, [], 0⟩] scope pos) (some (.Name y py)) spos.line X.env = pure true := by exact sw_true rfl rfl rfl (by decide +kernel))
    (ok : BlkOk X.N X.env.scope scope [(x, i)] := by exact blkOk_by (by decide +kernel))
    (hg : ∀ (s : Shared) (H : Hp) (C : Addr) (cl : List (Str × Addr)) (fp : List Addr), PG (X.blk s H scope (compEnvC scope cl C X.env) fp) (.Name x px) (gName i) := by exact fun _ _ _ _ _ => pg_name (by assumption) rfl (Or.inl rfl))
    (hs : ∀ v, foldedSetIterable iter X.env v = pure v := by intro _; rfl) : SS X R (sAsg R j (eLc [i] it (gvName [] i) cYes ev)) (.Assign [.Name y py] (.ListComp elt [⟨.Name x px, iter, [], 0⟩] scope pos) spos) := by
  obtain ⟨wi, p, q⟩ := hi
  exact ⟨_, ps_setLc (own := [(x, i)]) hc hN hy hyl hsw p ok hg (fun _ _ _ _ _ => pts_nil) (fun s H C cl fp => (he s H C cl fp).pe) hs, sr_asg (er_lc q (tgc_name (by simp)) tr_yes (er_of ev))⟩
theorem ss_setLcIf (j i : Nat) {y : Str} {py spos : Pos} (hc : X.calm = true) (hN : X.N.Nodup) (hi : SI' X (.Name x px) it iter) (ht : ∀ (s : Shared) (H : Hp) (C : Addr) (cl : List (Str × Addr)) (fp : List Addr), STt (X.blk s H scope (compEnvC scope cl C X.env) fp) cc c) (he : ∀ (s : Shared) (H : Hp) (C : Addr) (cl : List (Str × Addr)) (fp : List Addr), SE (X.blk s H scope (compEnvC scope cl C X.env) fp) ev elt)
    (hy : X.N[j]? = some y := by rfl) (hyl : X.env.scope.names.lookup y = some .local := by rfl)
    (hsw : swapsWith (.ListComp elt [⟨.Name x px, iter, [c], 0⟩] scope pos) (some (.Name y py)) spos.line X.env = pure true := by exact sw_true rfl rfl rfl (by decide +kernel))
    (ok : BlkOk X.N X.env.scope scope [(x, i)] := by exact blkOk_by (by decide +kernel))
    (hg : ∀ (s : Shared) (H : Hp) (C : Addr) (cl : List (Str × Addr)) (fp : List Addr), PG (X.blk s H scope (compEnvC scope cl C X.env) fp) (.Name x px) (gName i) := by exact fun _ _ _ _ _ => pg_name (by assumption) rfl (Or.inl rfl))
    (hs : ∀ v, foldedSetIterable iter X.env v = pure v := by intro _; rfl) : SS X R (sAsg R j (eLc [i] it (gvName [] i) cc ev)) (.Assign [.Name y py] (.ListComp elt [⟨.Name x px, iter, [c], 0⟩] scope pos) spos) := by
  obtain ⟨wi, p, q⟩ := hi
  exact ⟨_, ps_setLc (own := [(x, i)]) hc hN hy hyl hsw p ok hg (fun s H C cl fp => pts_one (ht s H C cl fp).pt) (fun s H C cl fp => (he s H C cl fp).pe) hs, sr_asg (er_lc q (tgc_name (by simp)) (tr_of cc) (er_of ev))⟩
end

/-! ### methods of texts -/
section
variable {K : PySem.W.Frag} {X : Cx}
def rM (r : V → List V → Hp → VK → Prop) : List V → Hp → VK → Prop := fun vs H Q => match vs with
  | x :: xs => r x xs H Q
  | [] => False
def eMtS (fn : List PyData → Option Op) (ea : EvE) (es : EvEs) : EvE := fun os => match ea os with
  | some (r, os1) => match r.rd os1 with
    | some (.str _) => match es os1 with
      | some (rs, os2) => match rdAll os2 (r :: rs) with
        | some ds => match fn ds with
          | some res => some (opOut os2 (r :: rs) res)
          | none => none
        | none => none
      | none => none
    | _ => none
  | none => none
theorem er_mt {fn : List PyData → Option Op} {ea : EvE} {es : EvEs} {te : TE} {ta : TA} {r : V → List V → Hp → VK → Prop} (ha : ER K ea te) (hs : ERs K es ta) (ok : OpOk K (rM r) fn) : ER K (eMtS fn ea es) (tBM K "str" r te ta) := fun σ τ G H os θ f r' os' Q hl ht I e k => by
  unfold eMtS at e
  split at e
  · rename_i r1 os1 e1
    split at e
    · rename_i z e2
      split at e
      · rename_i rs os2 e3
        split at e
        · rename_i ds e4
          split at e
          · rename_i res e5
            have e : opOut os2 (r1 :: rs) res = (r', os') := Option.some.inj e
            refine ha σ τ G H os θ f r1 os1 _ hl ht I e1 fun v H1 k1 => ?_
            have hv := k1.read1 ht e2
            cases hv
            refine ⟨rfl, ?_⟩
            obtain ⟨G1, f1, I1, s1, a1, l1⟩ := k1
            refine hs σ (τ ++ [some (.str z)]) G1 H1 os1 (θ ++ [r1.od]) f1 rs os2 _ l1 (by simp [ht]) I1 e3 fun vs H2 k2 => ?_
            obtain ⟨G2, f2, I2, s2, a2, l2⟩ := k2
            have kk : Kont K σ τ G H f os2 θ (.str z :: vs) (r1 :: rs) H2 := ⟨G2, f2, by simpa [List.append_assoc] using I2, s1.trans s2, by
              cases a1 with
              | cons a _ => exact .cons a a2, l2⟩
            exact op_fin ok ht kk e4 e5 e k
          · cases e
        · cases e
      · cases e
    · cases e
  · cases e
theorem se_mt {name : Str} {id : String} {r : V → List V → Hp → VK → Prop} {fn : List PyData → Option Op} {o e : Expr} {es : List Expr} {apos cpos : Pos} {ea : EvE} {ev : EvEs} (slot : Slot "str" name id) (hty : typeOf (.builtin id) = pure (.type "method_descriptor")) (hm : MtR X id r) (ok : OpOk X.K (rM r) fn)
    (ho : SE X ea o) (ha : SEs X ev (e :: es)) (hbase : attributeBase o name X.env (eval o X.env) = eval o X.env := by rfl)
    (hfew : ((backTo cpos (starEach (e :: es) X.env)).all (fun y => !y.1) && (backToKw cpos (keywordEach [] X.env)).all (fun y => y.1.isSome) && decide ((e :: es).length + ([] : List Keyword).length + (if ([] : List Keyword).isEmpty then 0 else 1) < 30)) = true := by rfl)
    (hline : (apos.endLine == cpos.line) = true := by rfl) (hs : starEach (e :: es) X.env = (false, eval e X.env) :: starEach es X.env := by rfl) (hp : (backTo cpos (starEach es X.env)).any (·.1) = false := by rfl) :
    SE X (eMtS fn ea ev) (.Call (.Attribute o name apos) (e :: es) [] cpos) := by
  obtain ⟨te, p1, q1⟩ := ho
  obtain ⟨ta, p2, q2⟩ := ha
  exact ⟨_, pe_bm PySem.F.plainAttrs_str slot hty hm p1 p2 hbase hfew hline hs hp, er_mt q1 q2 ok⟩
def opSplit : List PyData → Option Op
  | [.str a, .str b] => if (b.length == 0) = false ∧ (Txt.split a b).all (fun y => decide (y.length ≤ strMax)) = true then some (.nl ((Txt.split a b).map PyData.str)) else none
  | _ => none
theorem dx_strs {H : Hp} : ∀ ys : List Str, ys.all (fun y => decide (y.length ≤ strMax)) = true → DxAll K H (ys.map V.str) (ys.map PyData.str)
  | [], _ => .nil
  | y :: ys, h => by
    simp only [List.all_cons, Bool.and_eq_true, decide_eq_true_eq] at h
    exact .cons (.str y h.1) (dx_strs ys h.2)
theorem ok_split : OpOk K (rM (fun x xs H Q => ∃ a b, x = .str a ∧ xs = [.str b] ∧ (b.length == 0) = false ∧ a.length + 2 ≤ sizeLine ∧ rNewStrs (Txt.split a b) H Q)) opSplit where
  sc := fun ds d H vs Q e _ _ _ => by
    unfold opSplit at e
    split at e
    · split at e <;> cases e
    · cases e
  el := fun ds d G H vs Q e _ _ _ _ => by
    unfold opSplit at e
    split at e
    · split at e <;> cases e
    · cases e
  nl := fun ds es G H vs Q e s hd k => by
    unfold opSplit at e
    split at e
    · split at e
      · rename_i c
        cases e
        obtain ⟨v, w, rfl, a, b⟩ := dws2 hd
        have a := a.dx s
        have b := b.dx s
        cases b
        cases a with
        | str _ ca => exact ⟨_, _, rfl, rfl, c.1, strMax_le ca, fun p hp => k _ p (dx_strs _ c.2) hp⟩
      · cases e
    · cases e
  nt := fun ds es G H vs Q e _ _ _ => by
    unfold opSplit at e
    split at e
    · split at e <;> cases e
    · cases e
def opPartition : List PyData → Option Op
  | [.str a, .str b] => if (b.length == 0) = false ∧ (Txt.partition a b).1.length ≤ strMax ∧ (Txt.partition a b).2.1.length ≤ strMax ∧ (Txt.partition a b).2.2.length ≤ strMax then some (.nt [.str (Txt.partition a b).1, .str (Txt.partition a b).2.1, .str (Txt.partition a b).2.2]) else none
  | _ => none
theorem ok_partition : OpOk K (rM (fun x xs H Q => ∃ a b, x = .str a ∧ xs = [.str b] ∧ (b.length == 0) = false ∧ a.length ≤ sizeLine ∧ ∀ p, H p = none → Q (.ref p) (upd H p (.tup [.str (Txt.partition a b).1, .str (Txt.partition a b).2.1, .str (Txt.partition a b).2.2])))) opPartition where
  sc := fun ds d H vs Q e _ _ _ => by
    unfold opPartition at e
    split at e
    · split at e <;> cases e
    · cases e
  el := fun ds d G H vs Q e _ _ _ _ => by
    unfold opPartition at e
    split at e
    · split at e <;> cases e
    · cases e
  nl := fun ds es G H vs Q e _ _ _ => by
    unfold opPartition at e
    split at e
    · split at e <;> cases e
    · cases e
  nt := fun ds es G H vs Q e s hd k => by
    unfold opPartition at e
    split at e
    · split at e
      · rename_i c
        cases e
        obtain ⟨v, w, rfl, a, b⟩ := dws2 hd
        have a := a.dx s
        have b := b.dx s
        cases b
        cases a with
        | str _ ca => exact ⟨_, _, rfl, rfl, c.1, strMax_le' ca, fun p hp => k _ p (.cons (.str _ c.2.1) (.cons (.str _ c.2.2.1) (.cons (.str _ c.2.2.2) .nil))) hp⟩
      · cases e
    · cases e
theorem se_split {o e : Expr} {apos cpos : Pos} {ea : EvE} {ev : EvEs} (ho : SE X ea o) (ha : SEs X ev [e]) (hbase : attributeBase o "split" X.env (eval o X.env) = eval o X.env := by rfl)
    (hfew : ((backTo cpos (starEach [e] X.env)).all (fun y => !y.1) && (backToKw cpos (keywordEach [] X.env)).all (fun y => y.1.isSome) && decide ([e].length + ([] : List Keyword).length + (if ([] : List Keyword).isEmpty then 0 else 1) < 30)) = true := by rfl)
    (hline : (apos.endLine == cpos.line) = true := by rfl) (hs : starEach [e] X.env = (false, eval e X.env) :: starEach [] X.env := by rfl) : SE X (eMtS opSplit ea ev) (.Call (.Attribute o "split" apos) [e] [] cpos) :=
  se_mt PySem.F.slot_str_split PySem.F.type_str_split mt_split ok_split ho ha hbase hfew hline hs (by rfl)
theorem se_partition {o e : Expr} {apos cpos : Pos} {ea : EvE} {ev : EvEs} (ho : SE X ea o) (ha : SEs X ev [e]) (hbase : attributeBase o "partition" X.env (eval o X.env) = eval o X.env := by rfl)
    (hfew : ((backTo cpos (starEach [e] X.env)).all (fun y => !y.1) && (backToKw cpos (keywordEach [] X.env)).all (fun y => y.1.isSome) && decide ([e].length + ([] : List Keyword).length + (if ([] : List Keyword).isEmpty then 0 else 1) < 30)) = true := by rfl)
    (hline : (apos.endLine == cpos.line) = true := by rfl) (hs : starEach [e] X.env = (false, eval e X.env) :: starEach [] X.env := by rfl) : SE X (eMtS opPartition ea ev) (.Call (.Attribute o "partition" apos) [e] [] cpos) :=
  se_mt PySem.F.slot_str_partition PySem.F.type_str_partition mt_partition ok_partition ho ha hbase hfew hline hs (by rfl)
end
end DX
/-! DXEnd: the law's call. -/
namespace DX
open PySem PySem.Spec PyProof.Rows L2

section
variable {P : Program} {w : World} {K : PySem.W.Frag} {mg mb : Str → Option Value} {k : Nat} {fa a : Addr} {fd : FuncData} {x : Str} {sp : Sp} {s₁ : Shared} {vs : List Value} {ns : List Int}
/-- the end of the law's call -/
def LawEnd (s₁ : Shared) (r : Result) (s' : Shared) : Prop := r = .ok (.ret (.bool true)) ∧ OldK s₁.heap s'.heap ∧ s'.os = s₁.os ∧ AllBare s'.gens
abbrev TabsB (K : PySem.W.Frag) (mg : Str → Option Value) (base : Heap) : Prop := ∀ c P, PySem.W.codeHdIn K c P = true → TbK K P → GxR.TabB base mg c P
theorem run_at {H : Hp} (KX : K.In s₁.heap) (hns : s₁.heap.Ns mainGlobals mg) (hb : s₁.heap.Ns builtinsNs mb) (hbb : ∀ y : Str, y ≠ "__name__" → mb y = bootBuiltins y)
    (hlim : s₁.heap.NoLimit) (hg : s₁.gens = #[]) (hT : ∀ P, TbK K P → (∃ c, s₁.heap.TableAt c P #[]) ∧ K.lookup P = none)
    (hbm : ∃ (bm : Addr) (ob : Obj), mg "__builtins__" = some (.ref bm) ∧ bm ≠ builtinsNs ∧ s₁.heap.get? bm = some ob ∧ ob.cls = .type "module" ∧ ob.dict = some builtinsNs ∧ ob.data = .plain)
    (ha : s₁.heap.get? a = some { cls := .type "list", data := .seq vs.toArray }) (hr : Room k callerA)
    (F : ∀ base : Heap, K.In base → base.Ns mainGlobals mg → TabsB K mg base → FnG P w K mg base k fa fd [x] sp) (hbind : ∀ (s : Shared) (u : Value), BindsTo s fd ⟨[u], []⟩ [(x, u)])
    (hok : HOk P w H s₁.heap) (hA : ∀ b, H b ≠ none → b = a ∨ TbK K b) (hK : H a ≠ none → K.lookup a = none) (hO : ∀ b, H b = none ∨ H b = some (.tbl #[]) ∨ ∃ ob xs, H b = some (.frz ob (.lst xs))) (hO2 : ∀ b, H b = some (.tbl #[]) → TbK K b)
    (hS : sp [.ref a] H (fun v _ => v = .bl true) E0) :
    codeAny (model P w) callerA (.call (.ref fa) ⟨[.ref a], []⟩) (LawEnd s₁) s₁ := by
  have tobj : ∀ {b : Addr}, TbK K b → s₁.heap.get? b = some { cls := .none, data := .fields #[] } := fun {b} q => by
    obtain ⟨⟨c, _, e⟩, _⟩ := hT b q
    exact e
  have isA : ∀ {b : Addr} {u : HO}, H b = some u → b = a ∨ TbK K b := fun {b u} q => hA b (by rw [q]; exact Option.some_ne_none u)
  have old : ∀ {b : Addr} {o : Obj}, s₁.heap.get? b = some o → H b = none → (hidT s₁.heap H).get? b = some o := fun e n => hidT_get e n
  have noD : ∀ {b : Addr} {o : Obj}, s₁.heap.get? b = some o → (∀ vs n, o.data ≠ .seq vs n) → o.data ≠ .fields #[] → H b = none := fun {b o} e h1 h2 => by
    cases q : H b with
    | none => rfl
    | some u =>
      rcases isA q with e' | e'
      · rw [e', ha] at e
        cases e
        exact (h1 _ _ rfl).elim
      · rw [tobj e'] at e
        cases e
        exact (h2 rfl).elim
  have nod : ∀ {b : Addr} {o : Obj} {es : Array DictEntry} {ep : Nat}, s₁.heap.get? b = some o → o.data = .dict es ep → H b = none := fun {b o es ep} e d => by
    refine noD e (fun vs n z => ?_) fun z => ?_
    · rw [d] at z
      cases z
    · rw [d] at z
      cases z
  have nsK : ∀ {b : Addr} {m : Str → Option Value}, s₁.heap.Ns b m → (hidT s₁.heap H).Ns b m := by
    rintro b m ⟨o, es, ep, e, d, r⟩
    exact ⟨o, es, ep, old e (nod e d), d, r⟩
  have hKb : K.In (hidT s₁.heap H) := by
    intro b o e
    refine old (KX b o e) ?_
    cases q : H b with
    | none => rfl
    | some u =>
      rcases isA q with z | z
      · cases z
        rw [hK (by rw [q]; exact Option.some_ne_none u)] at e
        cases e
      · rw [(hT b z).2] at e
        cases e
  have TB : TabsB K mg (hidT s₁.heap H) := fun c P hc hP => by
    have hTp := tobj hP
    refine ⟨PySem.W.codeHd_of_K hKb hc, ?_, fun z => ?_⟩
    · obtain ⟨bm, ob, b1, b2, b3, b4, b5, b6⟩ := hbm
      have nG : bm ≠ mainGlobals := fun q => by
        obtain ⟨o, es, ep, e, hd, _⟩ := hns
        rw [q, e] at b3
        cases b3
        rw [hd] at b6
        cases b6
      have nP : bm ≠ P := fun q => by
        rw [q, hTp] at b3
        cases b3
        cases b6
      refine ⟨bm, ob, b1, b2, nG, nP, old b3 (noD b3 (fun vs n z => ?_) fun z => ?_), b4, b5, b6⟩
      · rw [b6] at z
        cases z
      · rw [b6] at z
        cases z
    · obtain ⟨o, es, ep, e, hd, _⟩ := hns
      rw [z, hTp] at e
      cases e
      cases hd
  obtain ⟨mc, m1, m2⟩ := hlim
  have e0 : Env0 P w K mg (hidT s₁.heap H) callerA [] s₁ H :=
    ⟨rfl, ⟨hKb, nsK hns, ⟨mb, nsK hb, hbb⟩, ⟨mc, nsK m1, m2⟩⟩, fun b o e => of_hidT e, Nat.le_of_eq (hidT_size _ _), trivial, fun b z => (List.not_mem_nil z).elim, hok, .of_eq hg⟩
  refine codeAny_mono ((F _ hKb (nsK hns) TB).run callerA [] s₁ H ⟨[.ref a], []⟩ [.ref a] [.ref a] _ rfl hr e0 (hbind s₁ (.ref a)) (.cons rfl .nil) hS) (fun r s' h => ?_)
  cases r with
  | error e => exact False.elim h
  | ok fl =>
    cases fl with
    | next => exact h.elim
    | brk => exact h.elim
    | cont => exact h.elim
    | ret u =>
      obtain ⟨v, H', os, bare, un, hok', r', q⟩ := h
      have q : v = .bl true := q
      subst q
      have eu : u = Value.bool true := r'
      subst eu
      have key : ∀ b o, s₁.heap.get? b = some o → s'.heap.get? b = some o ∨ (TbK K b ∧ H b = some (.tbl #[])) := fun b o e => by
        rcases hO b with z | z | ⟨ob, xs, z⟩
        · exact .inl (un.keep b o e z (fun z => (List.not_mem_nil z).elim) (fun z => (List.not_mem_nil z).elim))
        · exact .inr ⟨hO2 b z, z⟩
        · refine .inl ?_
          obtain ⟨e1, _⟩ := hok b _ z
          obtain ⟨e2, _⟩ := hok' b _ (un.frzs b ob _ z)
          rw [e] at e1
          cases e1
          exact e2
      refine ⟨rfl, ⟨fun b o e => ?_, fun b o e => ?_⟩, os, bare⟩
      · rcases key b o e with z | ⟨z, z2⟩
        · exact .inl z
        · obtain ⟨more, hm⟩ := un.tbls b #[] z2
          have hm' : s'.heap.get? b = some _ := hok' b _ hm
          obtain ⟨⟨c, ht⟩, _⟩ := hT b z
          rw [tobj z] at e
          cases e
          exact .inr (.inl ⟨ht.isCodeTable, rfl, #[], more, rfl, by rw [Array.empty_append] at hm' ⊢; exact hm'⟩)
      · rcases key b o e with z | ⟨z, z2⟩
        · exact ⟨o, z⟩
        · obtain ⟨more, hm⟩ := un.tbls b #[] z2
          exact ⟨_, hok' b _ hm⟩
open Classical in
/-- the heap that is tracked at the start -/
noncomputable def startH (K : PySem.W.Frag) (a : Addr) (u : Option HO) : Hp := fun b => if b = a then u else if TbK K b then some (.tbl #[]) else none
theorem run_script (KX : K.In s₁.heap) (hns : s₁.heap.Ns mainGlobals mg) (hb : s₁.heap.Ns builtinsNs mb) (hbb : ∀ y : Str, y ≠ "__name__" → mb y = bootBuiltins y)
    (hlim : s₁.heap.NoLimit) (hg : s₁.gens = #[]) (hT : ∀ P, TbK K P → (∃ c, s₁.heap.TableAt c P #[]) ∧ K.lookup P = none)
    (hbm : ∃ (bm : Addr) (ob : Obj), mg "__builtins__" = some (.ref bm) ∧ bm ≠ builtinsNs ∧ s₁.heap.get? bm = some ob ∧ ob.cls = .type "module" ∧ ob.dict = some builtinsNs ∧ ob.data = .plain)
    (ha : s₁.heap.get? a = some { cls := .type "list", data := .seq vs.toArray }) (hi : IntsAre vs ns) (hl : ns.length ≤ sizeLine) (hr : Room k callerA)
    (F : ∀ base : Heap, K.In base → base.Ns mainGlobals mg → TabsB K mg base → FnG P w K mg base k fa fd [x] sp) (hbind : ∀ (s : Shared) (u : Value), BindsTo s fd ⟨[u], []⟩ [(x, u)])
    (hsp : ∀ G H : Hp, SqL K G a (ns.map V.int) → Sub G H → (∀ P ps, G P ≠ some (.tbl ps)) → (∀ P ps, H P = some (.tbl ps) → ps = #[]) → (∀ P, TbK K P → H P = some (.tbl #[])) → sp [.ref a] H (fun v _ => v = .bl true) E0) :
    codeAny (model P w) callerA (.call (.ref fa) ⟨[.ref a], []⟩) (LawEnd s₁) s₁ := by
  have rv := vals_ints hi
  have tobj : ∀ {b : Addr}, TbK K b → s₁.heap.get? b = some { cls := .none, data := .fields #[] } := fun {b} q => by
    obtain ⟨⟨c, _, e⟩, _⟩ := hT b q
    exact e
  have na : ∀ {b : Addr}, TbK K b → b ≠ a := fun {b} q z => by
    have := tobj q
    rw [z, ha] at this
    cases this
  have key : ∀ (u : Option HO), (∀ v, u = some v → v = .frz { cls := .type "list", data := .seq vs.toArray } (.lst (ns.map V.int))) → (u ≠ none → K.lookup a = none) → SqL K (fun b => if b = a then u else none) a (ns.map V.int) → codeAny (model P w) callerA (.call (.ref fa) ⟨[.ref a], []⟩) (LawEnd s₁) s₁ := by
    intro u hu hK hS
    have atA : startH K a u a = u := if_pos rfl
    have atT : ∀ {b : Addr}, TbK K b → startH K a u b = some (.tbl #[]) := fun {b} q => (if_neg (na q)).trans (if_pos q)
    have atN : ∀ {b : Addr}, b ≠ a → ¬TbK K b → startH K a u b = none := fun {b} q r => (if_neg q).trans (if_neg r)
    refine run_at (H := startH K a u) KX hns hb hbb hlim hg hT hbm ha hr F hbind (fun b v z => ?_) (fun b z => ?_) (fun z => hK (by rw [← atA]; exact z)) (fun b => ?_) (fun b z => ?_) (hsp (fun b => if b = a then u else none) _ hS (fun b v z => ?_) (fun P ps z => ?_) (fun P ps z => ?_) fun P q => atT q)
    · by_cases q : b = a
      · subst q
        rw [atA] at z
        obtain rfl := hu v z
        exact ⟨ha, by rw [List.length_map]; exact hl, vs, _, rv, ha⟩
      · by_cases r : TbK K b
        · rw [atT r] at z; cases z
          exact tobj r
        · rw [atN q r] at z; cases z
    · by_cases q : b = a
      · exact .inl q
      · by_cases r : TbK K b
        · exact .inr r
        · exact absurd (atN q r) z
    · by_cases q : b = a
      · subst q
        rw [atA]
        cases hz : u with
        | none => exact .inl rfl
        | some v => rw [hu v hz]; exact .inr (.inr ⟨_, _, rfl⟩)
      · by_cases r : TbK K b
        · exact .inr (.inl (atT r))
        · exact .inl (atN q r)
    · by_cases q : b = a
      · subst q
        rw [atA] at z
        have := hu _ z
        cases this
      · by_cases r : TbK K b
        · exact r
        · rw [atN q r] at z; cases z
    · have z : (if b = a then u else none) = some v := z
      by_cases q : b = a
      · rw [if_pos q] at z
        rw [q, atA]; exact z
      · rw [if_neg q] at z; cases z
    · have z : (if P = a then u else none) = some (.tbl ps) := z
      by_cases q : P = a
      · rw [if_pos q] at z
        have := hu _ z
        cases this
      · rw [if_neg q] at z; cases z
    · by_cases q : P = a
      · subst q
        rw [atA] at z
        have := hu _ z
        cases this
      · by_cases r : TbK K P
        · rw [atT r] at z; cases z; rfl
        · rw [atN q r] at z; cases z
  cases hk : K.lookup a with
  | some o =>
    have e := KX a o hk
    rw [ha] at e
    cases e
    exact key none (fun v z => nomatch z) (fun z => absurd rfl z) (Or.inr ⟨_, vs.toArray, _, hk, rfl, rfl, rfl, by rw [List.size_toArray, hi.length]; exact hl, by simpa using rv⟩)
  | none => exact key (some (.frz { cls := .type "list", data := .seq vs.toArray } (.lst (ns.map V.int)))) (fun v z => by cases z; rfl) (fun _ => hk) (Or.inl (Or.inr ⟨_, if_pos rfl⟩))
end
theorem dx_ints {K : PySem.W.Frag} {H : Hp} : ∀ ns : List Int, DxAll K H (ns.map V.int) (ns.map PyData.int)
  | [] => .nil
  | n :: ns => .cons (.int n) (dx_ints ns)
/-- the defs of the top that have a table of their own: names holds them all -/
def tabsChk (K : PySem.W.Frag) (names : List Str) : Bool := match K.lookup mainGlobals with
  | some ⟨_, _, .dict es _, _⟩ => es.toList.all fun e => match e.key with
    | .str x _ => (match tabND K x with
      | some (_, P) => names.contains x && (K.lookup P).isNone
      | none => true)
    | _ => true
  | _ => true
theorem tabND_of {K : PySem.W.Frag} {x : Str} {f c P : Addr} {oc oq : Value} {od oe : Option Addr} {fd : FuncData} {vs : Array Value} {sl sm : Array (Option Value)} (a : PySem.W.nsIn K mainGlobals x = some (some (.ref f))) (l : K.lookup f = some ⟨oc, od, .func fd, sl⟩)
    (hd : fd.defaults = .none) (hc : fd.code = .ref c) (lc : K.lookup c = some ⟨oq, oe, .fields vs, sm⟩) (hi : (vs[11]? : Option Value) = some (.ref P)) : tabND K x = some (c, P) := by
  unfold tabND
  rw [a]
  simp only [l, hd, hc, lc, hi]
theorem isStr_key {e : DictEntry} {x : Str} (h : e.key.isStr x = true) : ∃ t, e.key = .str x t := by
  cases hk : e.key with
  | str y t =>
    rw [hk] at h
    exact ⟨t, by rw [show y = x by simpa [Value.isStr] using h]⟩
  | _ => rw [hk] at h; simp [Value.isStr] at h
theorem tabs_of {K : PySem.W.Frag} {names : List Str} (h : tabsChk K names = true) {x : Str} {c P : Addr} (e : tabND K x = some (c, P)) : x ∈ names ∧ K.lookup P = none := by
  have e0 := e
  unfold tabND at e
  split at e
  · rename_i f hf
    unfold PySem.W.nsIn at hf
    split at hf
    · rename_i oc od es ep sl hk
      split at hf
      · rename_i en hen
        have hm := List.mem_of_find?_eq_some hen
        obtain ⟨t, hkey⟩ := isStr_key (List.find?_some (p := fun e : DictEntry => e.key.isStr x) hen)
        unfold tabsChk at h
        rw [hk] at h
        have q := List.all_eq_true.mp h en hm
        simp only [hkey, e0, Bool.and_eq_true] at q
        exact ⟨by simpa using q.1, by simpa using q.2⟩
      · split at hf <;> cases hf
    · cases hf
  · cases e
theorem tab_empty {q : Program} {loose : List Str} {mean : ExcName → Option Value} {mg mb : Str → Option Value} {h : Heap} {K : PySem.W.Frag} {x : Str} {c P : Addr} (T : Top q loose mean mg mb h) (X : K.In h) (hr : (recsOf q).any (fun d => d.name == x) = true) (e : tabND K x = some (c, P)) : h.TableAt c P #[] := by
  obtain ⟨d, hd, hn⟩ := List.any_eq_true.mp hr
  have hn : d.name = x := beq_iff_eq.mp hn
  obtain ⟨a, o, fd, c', P', h1, h2, h3, h4, h5, h6⟩ := T.tab d hd
  rw [hn] at h1
  unfold tabND at e
  split at e
  · rename_i f hf
    rw [PySem.W.mg_of X T.g hf] at h1
    cases h1
    split at e
    · rename_i hfo
      have e2 := X _ _ hfo
      rw [h2] at e2
      cases e2
      cases h3
      split at e
      · rename_i c2 _ hc
        rw [h4] at hc
        cases hc
        split at e
        · rename_i hco
          have e3 := X _ _ hco
          split at e
          · rename_i P2 h11
            cases e
            obtain ⟨⟨oc, vc, f1, f2, f3, f4⟩, hP⟩ := h6
            rw [e3] at f1
            cases f1
            cases f3
            rw [h11] at f4
            cases f4
            exact ⟨⟨_, _, e3, f2, rfl, h11⟩, hP⟩
          · cases e
        · cases e
      · cases e
    · cases e
  · cases e
/-- the goal that the head leaves, from the law's contract -/
theorem walk_g {l : PySem.W.OpenLaw} {n k : Nat} {q : Program} {loose : List Str} {XP : (Str → Option Value) → Heap → Prop} {YP : World → Heap → Prop} {d : DefRec} {K : Params → PySem.W.Frag} {x : Str} {m : List OD → Option OD} (names : List Str)
    (hn : l.most = some n) (hn2 : n ≤ sizeLine) (hdf : d.params.defaults = []) (hr : Room k callerA) (hY : ∀ (w : World) (h : Heap), YP w h → (K w.params).In h)
    (hrec : (names.all fun x => (recsOf q).any fun d => d.name == x) = true) (htab : ∀ w : World, tabsChk (K w.params) names = true)
    (F : ∀ (w : World) (mg : Str → Option Value) (fa : Addr) (h : Heap), (K w.params).In h → h.Ns mainGlobals mg → mg d.name = some (.ref fa) → ∃ fd : FuncData, (∀ (s : Shared) (u : Value), BindsTo s fd ⟨[u], []⟩ [(x, u)]) ∧
      ∀ base : Heap, (K w.params).In base → base.Ns mainGlobals mg → TabsB (K w.params) mg base → FnG l.prog w (K w.params) mg base k fa fd [x] (sp0 (K w.params) m 1))
    (hm : ∀ ns : List Int, ns.length ≤ n → (∀ i ∈ ns, Builtin.Int.intBits i ≤ 1048576) → m [.sh (.list (ns.map PyData.int))] = some (.sh (.bool true))) :
    PySem.W.WalkO q loose XP YP l.row.toRowW d [] (fun f vs => PySem.call f vs) := by
  refine Att.attach_callB hn hdf (fun w s₀ s₁ mg mb fa o pm cd doc a vs ns G Y ho hd hcd hmg hobj hints hlen hbits hg => ?_)
  have KX := hY w _ Y
  obtain ⟨fd, hb, hF⟩ := F w mg fa _ KX G.T.g hmg
  have hT : ∀ P, TbK (K w.params) P → (∃ c, s₁.heap.TableAt c P #[]) ∧ (K w.params).lookup P = none := fun P ⟨x, c, e⟩ => by
    obtain ⟨h1, h2⟩ := tabs_of (htab w) e
    exact ⟨⟨c, tab_empty G.T KX (List.all_eq_true.mp hrec x h1) e⟩, h2⟩
  refine run_script KX G.T.g G.T.b G.T.builtins G.T.nolimit hg hT G.T.bmain hobj hints (Nat.le_trans hlen hn2) hr hF hb (fun G2 H hS hs h0 h1 h2 => ?_)
  refine ⟨G2, fun _ => 0, [.sh (.list (ns.map PyData.int))], .sh (.bool true), ⟨SL.shs (vs := [.ref a]) (ds := [_]) (.cons (.lst hS (dx_ints ns)) .nil), hs, fun _ => Nat.zero_le _, fun _ z => absurd rfl z, ⟨h0, fun P ps e => ?_, fun P hP => ⟨_, h2 P hP⟩⟩⟩, rfl, hm ns hlen hbits, fun v H' G' f' J s => ?_⟩
  · rw [h1 P ps e]
    exact (show TriplesOk ([] : List Value) by first | trivial | simp [TriplesOk])
  · obtain ⟨v', e1, e2⟩ := J.rd (i := 0) (o := .sh (.bool true)) rfl
    cases e1
    cases e2
    rfl
end DX
/-! DXShort: short names for what a printed proof says often. -/
namespace DX
open PySem PySem.Spec PyProof.Rows L2

section
variable {X : Cx} {a b : Expr} {ea eb : EvE} {pos : Pos} {k : Nat}
theorem hu64 (hr : Room k X.A) : X.A.units + 64 < cLine := hr.units
theorem hu65 (hr : Room k X.A) : X.A.units + 65 < cLine := by have := hr.un; omega
theorem se_lt (ha : SE X ea a) (hb : SE X eb b) (hm : behindInMarks .Lt b = false := by rfl) : SE X (eOp opLt (es2 ea eb)) (.Compare a [.Lt] [b] pos) := se_cmp or_lt ok_ord ha hb hm
theorem se_le (ha : SE X ea a) (hb : SE X eb b) (hm : behindInMarks .LtE b = false := by rfl) : SE X (eOp opLe (es2 ea eb)) (.Compare a [.LtE] [b] pos) := se_cmp or_le ok_ord ha hb hm
theorem se_gt (ha : SE X ea a) (hb : SE X eb b) (hm : behindInMarks .Gt b = false := by rfl) : SE X (eOp opGt (es2 ea eb)) (.Compare a [.Gt] [b] pos) := se_cmp or_gt ok_ord ha hb hm
theorem se_ge (ha : SE X ea a) (hb : SE X eb b) (hm : behindInMarks .GtE b = false := by rfl) : SE X (eOp opGe (es2 ea eb)) (.Compare a [.GtE] [b] pos) := se_cmp or_ge ok_ord ha hb hm
theorem se_eq (hr : Room k X.A) (ha : SE X ea a) (hb : SE X eb b) (hm : behindInMarks .Eq b = false := by rfl) : SE X (eOp opEq (es2 ea eb)) (.Compare a [.Eq] [b] pos) := se_cmp (or_eq (hu64 hr)) ok_eq ha hb hm
theorem se_ne (hr : Room k X.A) (ha : SE X ea a) (hb : SE X eb b) (hm : behindInMarks .NotEq b = false := by rfl) : SE X (eOp opNe (es2 ea eb)) (.Compare a [.NotEq] [b] pos) := se_cmp (or_ne (hu64 hr)) ok_ne ha hb hm
theorem se_in (hr : Room k X.A) (ha : SE X ea a) (hb : SE X eb b) (hm : behindInMarks .In b = false := by rfl) : SE X (eOp (opIn false) (es2 ea eb)) (.Compare a [.In] [b] pos) := se_cmp (or_in (hu65 hr)) ok_in ha hb hm
theorem se_ni (hr : Room k X.A) (ha : SE X ea a) (hb : SE X eb b) (hm : behindInMarks .NotIn b = false := by rfl) : SE X (eOp (opIn true) (es2 ea eb)) (.Compare a [.NotIn] [b] pos) := se_cmp (or_ni (hu65 hr)) ok_ni ha hb hm
theorem st_lt (ha : SE X ea a) (hb : SE X eb b) (hm : behindInMarks .Lt b = false := by rfl) : STt X (tBl (eOp opLt (es2 ea eb))) (.Compare a [.Lt] [b] pos) := st_cmp or_lt ok_ord ha hb hm
theorem st_le (ha : SE X ea a) (hb : SE X eb b) (hm : behindInMarks .LtE b = false := by rfl) : STt X (tBl (eOp opLe (es2 ea eb))) (.Compare a [.LtE] [b] pos) := st_cmp or_le ok_ord ha hb hm
theorem st_gt (ha : SE X ea a) (hb : SE X eb b) (hm : behindInMarks .Gt b = false := by rfl) : STt X (tBl (eOp opGt (es2 ea eb))) (.Compare a [.Gt] [b] pos) := st_cmp or_gt ok_ord ha hb hm
theorem st_ge (ha : SE X ea a) (hb : SE X eb b) (hm : behindInMarks .GtE b = false := by rfl) : STt X (tBl (eOp opGe (es2 ea eb))) (.Compare a [.GtE] [b] pos) := st_cmp or_ge ok_ord ha hb hm
theorem st_eq (hr : Room k X.A) (ha : SE X ea a) (hb : SE X eb b) (hm : behindInMarks .Eq b = false := by rfl) : STt X (tBl (eOp opEq (es2 ea eb))) (.Compare a [.Eq] [b] pos) := st_cmp (or_eq (hu64 hr)) ok_eq ha hb hm
theorem st_ne (hr : Room k X.A) (ha : SE X ea a) (hb : SE X eb b) (hm : behindInMarks .NotEq b = false := by rfl) : STt X (tBl (eOp opNe (es2 ea eb))) (.Compare a [.NotEq] [b] pos) := st_cmp (or_ne (hu64 hr)) ok_ne ha hb hm
theorem st_in (hr : Room k X.A) (ha : SE X ea a) (hb : SE X eb b) (hm : behindInMarks .In b = false := by rfl) : STt X (tBl (eOp (opIn false) (es2 ea eb))) (.Compare a [.In] [b] pos) := st_cmp (or_in (hu65 hr)) ok_in ha hb hm
theorem st_ni (hr : Room k X.A) (ha : SE X ea a) (hb : SE X eb b) (hm : behindInMarks .NotIn b = false := by rfl) : STt X (tBl (eOp (opIn true) (es2 ea eb))) (.Compare a [.NotIn] [b] pos) := st_cmp (or_ni (hu65 hr)) ok_ni ha hb hm
end
section
variable {X : Cx} {e : Expr} {es : List Expr} {ev : EvEs} {p pos : Pos} {k : Nat}
theorem se_len (hm : X.mg "len" = none) (h : SEs X ev [e]) (hg : Gl X "len" := by rfl) (he : starEach (e :: []) X.env = (false, eval e X.env) :: starEach [] X.env := by rfl) : SE X (eOp opLen ev) (.Call (.Name "len" p) [e] [] pos) := se_bf call_len ok_len hm h PySem.boot_len hg (by decide) (by decide) he rfl
theorem se_abs (hm : X.mg "abs" = none) (h : SEs X ev [e]) (hg : Gl X "abs" := by rfl) (he : starEach (e :: []) X.env = (false, eval e X.env) :: starEach [] X.env := by rfl) : SE X (eOp opAbs ev) (.Call (.Name "abs" p) [e] [] pos) := se_bf call_abs ok_abs hm h (by decide +kernel) hg (by decide) (by decide) he rfl
theorem se_all (hc : X.calm = true) (hm : X.mg "all" = none) (h : SEs X ev [e]) (hg : Gl X "all" := by rfl) (he : starEach (e :: []) X.env = (false, eval e X.env) :: starEach [] X.env := by rfl) : SE X (eOp (opAll fun bs => bs.all id) ev) (.Call (.Name "all" p) [e] [] pos) := se_bf (cr_all hc) ok_all hm h (by decide +kernel) hg (by decide) (by decide) he rfl
theorem se_any (hc : X.calm = true) (hm : X.mg "any" = none) (h : SEs X ev [e]) (hg : Gl X "any" := by rfl) (he : starEach (e :: []) X.env = (false, eval e X.env) :: starEach [] X.env := by rfl) : SE X (eOp (opAll fun bs => bs.any id) ev) (.Call (.Name "any" p) [e] [] pos) := se_bf (cr_any hc) ok_all hm h (by decide +kernel) hg (by decide) (by decide) he rfl
theorem se_repr (hA : X.A.guards = some []) (hr : Room k X.A) (hm : X.mg "repr" = none) (h : SEs X ev [e]) (hg : Gl X "repr" := by rfl) (he : starEach (e :: []) X.env = (false, eval e X.env) :: starEach [] X.env := by rfl) : SE X (eOp opRepr ev) (.Call (.Name "repr" p) [e] [] pos) := se_bf (call_repr hA (hu65 hr)) ok_repr hm h (by decide +kernel) hg (by decide) (by decide) he rfl
theorem se_int1 (hm : X.mg "int" = none) (h : SEs X ev [e]) (hg : Gl X "int" := by rfl) (he : starEach (e :: []) X.env = (false, eval e X.env) :: starEach [] X.env := by rfl) : SE X (eOp opInt ev) (.Call (.Name "int" p) [e] [] pos) := se_bt call_int1 ok_int hm h (by decide +kernel) hg (by decide) (by decide) he rfl
variable {f : Expr}
theorem se_max2 (hc : X.calm = true) (hm : X.mg "max" = none) (h : SEs X ev [e, f]) (hg : Gl X "max" := by rfl) (he : starEach (e :: [f]) X.env = (false, eval e X.env) :: starEach [f] X.env := by rfl) (hpl : (backTo pos (starEach [f] X.env)).any (·.1) = false := by rfl) : SE X (eOp opMax2 ev) (.Call (.Name "max" p) [e, f] [] pos) := se_bf (call_max2 hc) ok_max2 hm h (by decide +kernel) hg (by decide) (by decide) he hpl
theorem se_min2 (hc : X.calm = true) (hm : X.mg "min" = none) (h : SEs X ev [e, f]) (hg : Gl X "min" := by rfl) (he : starEach (e :: [f]) X.env = (false, eval e X.env) :: starEach [f] X.env := by rfl) (hpl : (backTo pos (starEach [f] X.env)).any (·.1) = false := by rfl) : SE X (eOp opMin2 ev) (.Call (.Name "min" p) [e, f] [] pos) := se_bf (call_min2 hc) ok_min2 hm h (by decide +kernel) hg (by decide) (by decide) he hpl
theorem se_divmod (hm : X.mg "divmod" = none) (h : SEs X ev [e, f]) (hg : Gl X "divmod" := by rfl) (he : starEach (e :: [f]) X.env = (false, eval e X.env) :: starEach [f] X.env := by rfl) (hpl : (backTo pos (starEach [f] X.env)).any (·.1) = false := by rfl) : SE X (eOp opDivmod ev) (.Call (.Name "divmod" p) [e, f] [] pos) := se_bf call_divmod ok_divmod hm h (by decide +kernel) hg (by decide) (by decide) he hpl
end
/-- how arguments come to a def's parameters, none of them left out -/
theorem Fun.bd {K : PySem.W.Frag} {x qual : Str} {st : Stmt} {f : Addr} {fd : FuncData} {ps ks : List Str} {n np : Nat} {idx : List Nat} (F : Fun K x qual st f fd)
    (h : ∀ (kV doc pm : Value) (an : Option Addr) (cdv ct : Value) (us : List Value), us.length = n → bindArgs (PySem.W.fnOf x qual (defArgs st) (defBody st) (defScope st) .none kV doc pm an cdv ct) ⟨us.take np, ks.zip (us.drop np)⟩ = pure (ps.zip (pk idx us))) : Bd fd ps n np ks idx := by
  obtain ⟨oc, od, kV, doc, pm, an, cdv, ct, osl, rfl, lk, hcd⟩ := F.ex
  exact fun s us hl => .of_eq (h kV doc pm an cdv ct us hl)
end DX
/-! DXNest: x[k].append(e), the inner list owned too. -/
namespace DX
open PySem PySem.Spec PyProof.Rows L2

section
variable {K : PySem.W.Frag} {X : Cx} {R : List Nat}
theorem ROs.inner {G H : Hp} : ∀ {vs : List V} {xs : List OD} {f : FP} {j : Nat} {ys : List OD}, ROs K G H vs xs f → xs[j]? = some (.lst ys) →
    ∃ (p : Addr) (us : List V) (g0 fr : FP), vs[j]? = some (.ref p) ∧ H p = some (.lst us) ∧ ROs K G H us ys g0 ∧ (∀ a, f a = (if a = p then 1 else 0) + g0 a + fr a) ∧
      ∀ (H' : Hp) (us' : List V) (ys' : List OD) (g' : FP), (∀ a xs, fr a ≠ 0 → H a = some (.lst xs) → H' a = some (.lst xs)) → H' p = some (.lst us') → ROs K G H' us' ys' g' →
        ∃ f', ROs K G H' vs (xs.set j (.lst ys')) f' ∧ ∀ a, f' a = (if a = p then 1 else 0) + g' a + fr a
  | _, _, _, _, _, .nil, h => by simp at h
  | _, _, _, 0, ys, .cons (g := g) q r, h => by
    simp at h; subst h
    cases q with
    | lst hp hr =>
      exact ⟨_, _, _, g, rfl, hp, hr, fun a => rfl, fun H' us' ys' g' k hp' q' => ⟨_, .cons (.lst hp' q') (r.mono (Sub.refl _) k), fun a => rfl⟩⟩
  | _, _, _, j + 1, ys, .cons (f := f₀) (g := g) q r, h => by
    obtain ⟨p, us, g0, fr, h1, h2, h3, h4, h5⟩ := ROs.inner (j := j) r (by simpa using h)
    refine ⟨p, us, g0, fun a => f₀ a + fr a, by simpa using h1, h2, h3, fun a => by (try dsimp only); rw [h4]; omega, fun H' us' ys' g' k hp' q' => ?_⟩
    obtain ⟨f', k1, k2⟩ := h5 H' us' ys' g' (fun a u z e => k a _ (by (try dsimp only); omega) e) hp' q'
    exact ⟨_, .cons (q.mono (Sub.refl _) fun a u z e => k a _ (by (try dsimp only); omega) e) k1, fun a => by (try dsimp only); rw [k2]; omega⟩
def sAppIx (i : Nat) (ek ev : EvE) : EvS := fun os => match os[i]? with
  | some (some (.lst _)) => match ek os with
    | some (rk, os1) => match rk.rd os1, os1[i]? with
      | some (.int k), some (some (.lst xs)) => match ixN xs.length k with
        | some j => match xs[j]? with
          | some (.lst ys) => match ev (os1.set i none) with
            | some (.tm o, os2) => match os2[i]? with
              | some none => if ys.length < sizeLine then some (.nx (os2.set i (some (.lst (xs.set j (.lst (ys ++ [o]))))))) else none
              | _ => none
            | _ => none
          | _ => none
        | none => none
      | _, _ => none
    | none => none
  | _ => none
theorem sr_appIx {i : Nat} {ek ev : EvE} {tk te : TE} (hk : ER K ek tk) (h : ER K ev te) : SR K R (sAppIx i ek ev) (tDrop (tBM K "list" rAppend (tOp (rIx K) (tVar i) tk) (tCons te tNil))) := fun σ G H os f res D hl I e k => by
  unfold sAppIx at e
  split at e
  · rename_i zs e0
    obtain ⟨v0, _, _, w1, w2, _⟩ := I.sl.at e0
    have w3 : ∃ p, v0 = .ref p := by
      cases w2 with
      | lst hp _ => exact ⟨_, rfl⟩
    obtain ⟨p0, rfl⟩ := w3
    split at e
    · rename_i rk os1 e1
      split at e
      · rename_i kk xs e2 e3
        split at e
        · rename_i j e4
          split at e
          · rename_i ys e5
            split at e
            · rename_i o os2 e6
              split at e
              · rename_i e7
                split at e
                · rename_i hsz
                  cases e
                  refine ⟨.ref p0, w1, ?_⟩
                  refine hk σ [] G H os [] f rk os1 _ hl rfl (by simpa using I) e1 fun vk H1 k1 => ?_
                  have hv := k1.read1 rfl e2
                  cases hv
                  obtain ⟨G1, f1, I1, s1, l1⟩ := k1.drop rfl
                  have I1 : SI K G1 H1 σ os1 f1 := by simpa using I1
                  obtain ⟨w, fo, fr, m1, m2, m3, m4⟩ := SL.out I1.sl e3
                  rw [w1] at m1; cases m1
                  cases m2 with
                  | lst hp0 hro =>
                    rename_i vs0 g00
                    obtain ⟨p, us, g0, fr1, n1, n2, n3, n4, n5⟩ := hro.inner e5
                    have hat : atI vs0 kk = some (.ref p) := by
                      unfold atI
                      rw [hro.len, e4]
                      exact n1
                    refine .inl ⟨p0, vs0, kk, .ref p, rfl, rfl, .inl (.inl hp0), hat, ?_⟩
                    refine ⟨.inl ⟨rfl, us, .inl (.inl n2)⟩, ?_⟩
                    have hf : ∀ a, f1 a = (if a = p0 then 1 else 0) + g00 a + fr a := fun a => by rw [m3]
                    have J1 : SI K G1 H1 σ (os1.set i none) fr := I1.forget m4 fun a => by rw [hf]; omega
                    refine h σ [] G1 H1 (os1.set i none) [] fr _ os2 _ (by simp [l1]) rfl (by simpa using J1) e6 fun v H2 k2 => ?_
                    obtain ⟨G2, f2, I2, s2, _, l2⟩ := k2
                    have I2 : SI K G2 H2 (σ ++ [some v]) (os2 ++ [some o]) f2 := by simpa [RV.od] using I2
                    obtain ⟨v', fv, f3, ev', qv, rs, hfv⟩ := I2.last l2
                    cases ev'
                    -- what is hidden stands still
                    have hz : ∀ a, (if a = p0 then 1 else 0) + g00 a ≠ 0 → fr a = 0 ∧ H1 a ≠ none ∧ f2 a = 0 ∧ G2 a = none := fun a z => by
                      have one := I1.one a
                      rw [hf] at one
                      have fz : fr a = 0 := by omega
                      have hl1 : H1 a ≠ none := I1.live a (by rw [hf]; omega)
                      refine ⟨fz, hl1, ?_, ?_⟩
                      · by_cases y : f2 a = 0
                        · exact y
                        · rcases s2.fnew a y with t | t
                          · exact absurd fz t
                          · exact absurd t hl1
                      · cases y : G2 a with
                        | none => rfl
                        | some u =>
                          rcases s2.gnew a (by rw [y]; simp) with t | t | t
                          · exact absurd (I1.hid a (by rw [hf]; omega)) t
                          · exact absurd t hl1
                          · exact absurd fz t
                    have keep2 : ∀ a xs, (if a = p0 then 1 else 0) + g00 a ≠ 0 → H1 a = some (.lst xs) → H2 a = some (.lst xs) := fun a xs z e => s2.keep a xs e (hz a z).1
                    have hro2 : ROs K G2 H2 vs0 xs g00 := hro.mono s2.gsub fun a u z e => keep2 a u (by omega) e
                    obtain ⟨p', us', g0', fr1', a1, a2, a3, a4, a5⟩ := hro2.inner e5
                    rw [n1] at a1; cases a1
                    have hp2 : H2 p = some (.lst us) := keep2 p _ (by rw [a4, if_pos (c := p = p) rfl]; omega) n2
                    rw [hp2] at a2; cases a2
                    have np : p ≠ p0 := fun z => by
                      have one := I1.one p0
                      rw [hf, if_pos rfl, a4, if_pos z.symm] at one
                      omega
                    refine ⟨p, us, v, rfl, rfl, hp2, by rw [n3.len]; exact hsz, ?_⟩
                    have out : ∀ a u, a ≠ p → H2 a = some u → (upd H2 p (.lst (us ++ [v]))) a = some u := fun a u z e => by rw [upd_ne z]; exact e
                    have onep : ∀ a, (if a = p0 then 1 else 0) + ((if a = p then 1 else 0) + g0' a + fr1' a) ≤ 1 := fun a => by have := I1.one a; rw [hf, a4] at this; omega
                    have q0 : g0' p = 0 ∧ fr1' p = 0 := by have := onep p; rw [if_pos (c := p = p) rfl] at this; omega
                    have zp := hz p (by rw [a4, if_pos (c := p = p) rfl]; omega)
                    have fvz : fv p = 0 ∧ f3 p = 0 := by
                      have := zp.2.2.1
                      rw [hfv] at this; omega
                    obtain ⟨gk, r1, r2⟩ := ROs.app (a3.mono (G' := G2) (H' := upd H2 p (.lst (us ++ [v]))) (Sub.refl _) fun a u z e => out a _ (fun y => by subst y; exact z q0.1) e)
                      (ROs.one (qv.mono (Sub.refl _) fun a u z e => out a _ (fun y => by subst y; exact z fvz.1) e))
                    obtain ⟨f6, b1, b2⟩ := a5 (upd H2 p (.lst (us ++ [v]))) (us ++ [v]) (ys ++ [o]) gk (fun a u z e => out a _ (fun y => by subst y; exact z q0.2) e) upd_same r1
                    have hp03 : (upd H2 p (.lst (us ++ [v]))) p0 = some (.lst vs0) := out p0 _ (Ne.symm np) (keep2 p0 _ (by rw [if_pos rfl]; omega) hp0)
                    have rs3 := rs.mono (G' := G2) (H' := upd H2 p (.lst (us ++ [v]))) (Sub.refl _) fun a u z e => out a _ (fun y => by subst y; exact z fvz.2) e
                    obtain ⟨f7, c1, c2⟩ := SL.into rs3 e7 w1 (.lst hp03 b1)
                    have c3 : ∀ a, f7 a = f3 a + ((if a = p0 then 1 else 0) + ((if a = p then 1 else 0) + (g0' a + fv a) + fr1' a)) := fun a => by rw [c2]; (try dsimp only); rw [b2, r2]
                    have c4 : ∀ a, f7 a = f2 a + ((if a = p0 then 1 else 0) + g00 a) := fun a => by rw [c3, hfv, a4]; omega
                    refine k σ _ ⟨G2, f7, ⟨c1, fun a u z => out a u (fun y => by subst y; rw [zp.2.2.2] at z; cases z) (I2.sub a u z), fun a => ?_, fun a z => ?_, I2.tk.lst' hp2⟩, s1.trans ⟨s2.gsub, fun a u z y => ?_, fun a z => ?_, fun a z => ?_, fun a z => ?_⟩, by simp [l2], fun _ _ => rfl⟩
                    · rw [c4]
                      by_cases y : (if a = p0 then 1 else 0) + g00 a = 0
                      · have := I2.one a; omega
                      · have t := hz a y
                        have := I1.one a; rw [hf] at this
                        omega
                    · by_cases y : (if a = p0 then 1 else 0) + g00 a = 0
                      · rw [c4, y] at z
                        exact I2.hid a (by omega)
                      · exact (hz a y).2.2.2
                    · refine out a _ (fun t => ?_) (s2.keep a _ z (by rw [hf] at y; omega))
                      subst t
                      rw [hf, a4, if_pos (c := a = a) rfl] at y
                      omega
                    · by_cases t : a = p
                      · subst t; rw [upd_same]; simp
                      · rw [upd_ne t]; exact s2.dom a z
                    · rcases s2.gnew a z with t | t | t
                      · exact .inl t
                      · exact .inr (.inl t)
                      · exact .inr (.inr (by rw [hf]; omega))
                    · rw [c4] at z
                      by_cases y : (if a = p0 then 1 else 0) + g00 a = 0
                      · rcases s2.fnew a (by omega) with t | t
                        · exact .inl (by rw [hf]; omega)
                        · exact .inr t
                      · exact .inl (by rw [hf]; omega)
                · cases e
              · cases e
            · cases e
          · cases e
        · cases e
      · cases e
    · cases e
  · cases e
theorem ss_appIx (i : Nat) {x : Str} {ie e : Expr} {ek ev : EvE} {px spos apos cpos pos : Pos} (hk : SE X ek ie) (h : SE X ev e) (hN : X.N[i]? = some x := by rfl) (hv : Vis X.env.scope x := by first | exact Or.inl rfl | exact Or.inr (Or.inl rfl) | exact Or.inr (Or.inr rfl))
    (hpi : PlainIx ie := by exact fun _ _ => rfl) (hd : (x == ("__debug__" : Str)) = false := by decide) (hcd : (x == ("__classdict__" : Str)) = false := by decide) (hst : starEach (e :: []) X.env = (false, eval e X.env) :: starEach [] X.env := by rfl)
    (hbase : attributeBase (.Subscript (.Name x px) ie spos) "append" X.env (eval (.Subscript (.Name x px) ie spos) X.env) = eval (.Subscript (.Name x px) ie spos) X.env := by rfl)
    (hfew : ((backTo cpos (starEach (e :: []) X.env)).all (fun x => !x.1) && (backToKw cpos (keywordEach [] X.env)).all (fun x => x.1.isSome) && decide ((e :: ([] : List Expr)).length + ([] : List Keyword).length + (if ([] : List Keyword).isEmpty then 0 else 1) < 30)) = true := by rfl)
    (hs : swapsWith (.Call (.Attribute (.Subscript (.Name x px) ie spos) "append" apos) [e] [] cpos) none pos.line X.env = pure false := by rfl) (hline : (apos.endLine == cpos.line) = true := by rfl) :
    SS X R (sAppIx i ek ev) (.Expr (.Call (.Attribute (.Subscript (.Name x px) ie spos) "append" apos) [e] [] cpos) pos) := by
  obtain ⟨te, p, q⟩ := h
  obtain ⟨tk, p', q'⟩ := hk
  exact ⟨_, ps_expr (pe_bm PySem.F.plainAttrs_list PySem.F.slot_list_append PySem.F.type_list_append mt_append (pe_ix ix_seq (pe_var hN hv hd hcd) p' hpi) (pa_cons p pa_nil hst) hbase hfew hline hst (by rfl)) hs, sr_appIx q' q⟩
end
end DX
/-! DXSimp: the worths as chains of bind, for simp. -/
namespace DX
open PySem PySem.Spec PyProof.Rows L2

def bool? : PyData → Option Bool
  | .bool b => some b
  | _ => none
def int? : PyData → Option Int
  | .int i => some i
  | _ => none
def str? : PyData → Option Str
  | .str x => some x
  | _ => none
section
variable {os : En} {R : List Nat} {i j l n : Nat}
theorem b_esCons {ea : EvE} {er : EvEs} : esCons ea er os = (ea os).bind fun p => (er p.2).bind fun q => some (p.1 :: q.1, q.2) := by
  unfold esCons
  cases ea os with
  | none => rfl
  | some p =>
    cases h : er p.2 with
    | none => simp [h]
    | some q => simp [h]
theorem b_opV {rs : List RV} {d : PyData} : opOut os rs (.val d) = cond (isSc d) (.tm (.sh d), os) (.tm (.sh d), softAll os rs) := by
  simp only [opOut]; cases isSc d <;> rfl
theorem b_opL {rs : List RV} {es : List PyData} : opOut os rs (.nl es) = (.tm (.lst (es.map OD.sh)), softAll os rs) := rfl
theorem b_opT {rs : List RV} {es : List PyData} : opOut os rs (.nt es) = (.tm (.sh (.tuple es)), softAll os rs) := rfl
theorem b_eOp {fn : List PyData → Option Op} {es : EvEs} : eOp fn es os = (es os).bind fun p => (rdAll p.2 p.1).bind fun ds => (fn ds).bind fun res => some (opOut p.2 p.1 res) := by
  unfold eOp
  cases es os with
  | none => rfl
  | some p =>
    simp only [Option.bind_some]
    cases rdAll p.2 p.1 with
    | none => rfl
    | some ds =>
      simp only [Option.bind_some]
      cases fn ds <;> rfl
theorem b_rdNil : rdAll os [] = some [] := rfl
theorem b_rdCons {r : RV} {rs : List RV} : rdAll os (r :: rs) = (r.rd os).bind fun d => (rdAll os rs).bind fun ds => some (d :: ds) := by
  show (match r.rd os, rdAll os rs with | some d, some ds => some (d :: ds) | _, _ => none) = _
  cases r.rd os <;> cases rdAll os rs <;> rfl
theorem b_rdT {o : OD} : (RV.tm o).rd os = some o.er := rfl
theorem b_rdA : (RV.al i).rd os = (os[i]?).bind fun s => s.bind fun o => some o.er := by
  show (match os[i]? with | some (some o) => some o.er | _ => none) = _
  cases os[i]? with
  | none => rfl
  | some s => cases s <;> rfl
theorem b_erS {d : PyData} : (OD.sh d).er = d := rfl
theorem b_erTp {xs : List OD} : (OD.tpl xs).er = .tuple (xs.map OD.er) := by show PyData.tuple (OD.ers xs) = _; rw [ers_map]
theorem b_erL {xs : List OD} : (OD.lst xs).er = .list (xs.map OD.er) := by show PyData.list (OD.ers xs) = _; rw [ers_map]
theorem b_eVar : eVar i os = (os[i]?).bind fun s => s.bind fun _ => some (.al i, os) := by
  unfold eVar
  cases os[i]? with
  | none => rfl
  | some s => cases s <;> rfl
theorem b_eC {d : PyData} : eC d os = some (.tm (.sh d), os) := rfl
theorem b_esNil : esNil os = some ([], os) := rfl
theorem b_tTru {ev : EvE} : tTru ev os = (ev os).bind fun p => (p.1.rd p.2).bind fun d => (trD d).bind fun b => some (b, p.2) := by
  unfold tTru
  cases ev os with
  | none => rfl
  | some p =>
    simp only [Option.bind_some]
    cases p.1.rd p.2 with
    | none => rfl
    | some d =>
      simp only [Option.bind_some]
      cases trD d <;> rfl
theorem b_tBl {ev : EvE} : tBl ev os = (ev os).bind fun p => (p.1.rd p.2).bind fun d => (bool? d).bind fun b => some (b, p.2) := by
  unfold tBl
  cases ev os with
  | none => rfl
  | some p =>
    simp only [Option.bind_some]
    cases p.1.rd p.2 with
    | none => rfl
    | some d => cases d <;> rfl
theorem b_tAnd {a b : EvT} : tAndD a b os = (a os).bind fun p => cond p.1 (b p.2) (some (false, p.2)) := by
  unfold tAndD
  cases a os with
  | none => rfl
  | some p => obtain ⟨c, q⟩ := p; cases c <;> rfl
theorem b_tOr {a b : EvT} : tOrD a b os = (a os).bind fun p => cond p.1 (some (true, p.2)) (b p.2) := by
  unfold tOrD
  cases a os with
  | none => rfl
  | some p => obtain ⟨c, q⟩ := p; cases c <;> rfl
theorem b_tNot {a : EvT} : tNotD a os = (a os).bind fun p => some (!p.1, p.2) := by
  unfold tNotD
  cases a os <;> rfl
theorem b_eAnd {a b : EvE} : eAnd a b os = (a os).bind fun p => (p.1.rd p.2).bind fun d => (trD d).bind fun c => cond c (b p.2) (some p) := by
  unfold eAnd
  cases a os with
  | none => rfl
  | some p =>
    simp only [Option.bind_some]
    cases p.1.rd p.2 with
    | none => rfl
    | some d =>
      simp only [Option.bind_some]
      cases trD d with
      | none => rfl
      | some c => cases c <;> rfl
theorem b_eOr {a b : EvE} : eOr a b os = (a os).bind fun p => (p.1.rd p.2).bind fun d => (trD d).bind fun c => cond c (some p) (b p.2) := by
  unfold eOr
  cases a os with
  | none => rfl
  | some p =>
    simp only [Option.bind_some]
    cases p.1.rd p.2 with
    | none => rfl
    | some d =>
      simp only [Option.bind_some]
      cases trD d with
      | none => rfl
      | some c => cases c <;> rfl
theorem b_eNot {a : EvE} : eNot a os = (a os).bind fun p => (p.1.rd p.2).bind fun d => (trD d).bind fun c => some (.tm (.sh (.bool (!c))), p.2) := by
  unfold eNot
  cases a os with
  | none => rfl
  | some p =>
    simp only [Option.bind_some]
    cases p.1.rd p.2 with
    | none => rfl
    | some d =>
      simp only [Option.bind_some]
      cases trD d <;> rfl
theorem b_eIf {t : EvT} {a b : EvE} : eIf t a b os = (t os).bind fun p => cond p.1 (a p.2) (b p.2) := by
  unfold eIf
  cases t os with
  | none => rfl
  | some p => obtain ⟨c, q⟩ := p; cases c <;> rfl
theorem b_eTup {es : EvEs} : eTup es os = (es os).bind fun p => (rdAll p.2 p.1).bind fun ds => cond (Nat.ble ds.length sizeLine) (some (.tm (.sh (.tuple ds)), hardAll p.2 p.1)) none := by
  unfold eTup
  cases es os with
  | none => rfl
  | some p =>
    simp only [Option.bind_some]
    cases rdAll p.2 p.1 with
    | none => rfl
    | some ds =>
      simp only [Option.bind_some]
      by_cases h : ds.length ≤ sizeLine
      · rw [if_pos h, Nat.ble_eq_true_of_le h]; rfl
      · rw [if_neg h, Bool.eq_false_iff.mpr fun z => h (Nat.le_of_ble_eq_true z)]; rfl
theorem b_eLst {es : EvEs} : eLst es os = (es os).bind fun p => (rdAll p.2 p.1).bind fun ds => cond (Nat.ble ds.length sizeLine) (some (.tm (.lst (ds.map OD.sh)), hardAll p.2 p.1)) none := by
  unfold eLst
  cases es os with
  | none => rfl
  | some p =>
    simp only [Option.bind_some]
    cases rdAll p.2 p.1 with
    | none => rfl
    | some ds =>
      simp only [Option.bind_some]
      by_cases h : ds.length ≤ sizeLine
      · rw [if_pos h, Nat.ble_eq_true_of_le h]; rfl
      · rw [if_neg h, Bool.eq_false_iff.mpr fun z => h (Nat.le_of_ble_eq_true z)]; rfl
theorem b_oSome {ev : EvE} : oSome ev os = (ev os).bind fun p => (p.1.rd p.2).bind fun d => (int? d).bind fun i => some (some i, p.2) := by
  unfold oSome
  cases ev os with
  | none => rfl
  | some p =>
    simp only [Option.bind_some]
    cases p.1.rd p.2 with
    | none => rfl
    | some d => cases d <;> rfl
theorem b_oNone : oNone os = some (none, os) := rfl
theorem b_eSl {ea : EvE} {el eh : EvO} : eSl ea el eh os = (ea os).bind fun p => (el p.2).bind fun a => (eh a.2).bind fun b => (rdAll b.2 [p.1]).bind fun ds => (opSl a.1 b.1 ds).bind fun res => some (opOut b.2 [p.1] res) := by
  unfold eSl
  cases ea os with
  | none => rfl
  | some p =>
    simp only [Option.bind_some]
    cases el p.2 with
    | none => rfl
    | some a =>
      simp only [Option.bind_some]
      cases eh a.2 with
      | none => rfl
      | some b =>
        simp only [Option.bind_some]
        cases rdAll b.2 [p.1] with
        | none => rfl
        | some ds =>
          simp only [Option.bind_some]
          cases opSl a.1 b.1 ds <;> rfl
theorem b_eMt {fn : List PyData → Option Op} {ea : EvE} {es : EvEs} : eMtS fn ea es os = (ea os).bind fun p => (p.1.rd p.2).bind fun d => (str? d).bind fun _ => (es p.2).bind fun q => (rdAll q.2 (p.1 :: q.1)).bind fun ds => (fn ds).bind fun res => some (opOut q.2 (p.1 :: q.1) res) := by
  unfold eMtS
  cases ea os with
  | none => rfl
  | some p =>
    simp only [Option.bind_some]
    cases p.1.rd p.2 with
    | none => rfl
    | some d =>
      cases d with
      | str x =>
        simp only [Option.bind_some, str?]
        cases es p.2 with
        | none => rfl
        | some q =>
          simp only [Option.bind_some]
          cases rdAll q.2 (p.1 :: q.1) with
          | none => rfl
          | some ds =>
            simp only [Option.bind_some]
            cases fn ds <;> rfl
      | _ => rfl
theorem b_fn0 {m : List OD → Option OD} {idx : List Nat} {es : EvEs} : eFn0 m n idx es os = (es os).bind fun p => (rdAll p.2 p.1).bind fun ds => cond (Nat.beq p.1.length n && Nat.beq (pk idx ds).length n) ((m ((pk idx ds).map OD.sh)).bind fun r => some (.tm r, cond (isSc r.er && r.isSh) p.2 (hardAll p.2 p.1))) none := by
  unfold eFn0
  cases es os with
  | none => rfl
  | some p =>
    simp only [Option.bind_some]
    cases rdAll p.2 p.1 with
    | none => rfl
    | some ds =>
      simp only [Option.bind_some]
      by_cases h : p.1.length = n ∧ (pk idx ds).length = n
      · rw [if_pos h, h.1, h.2, show Nat.beq n n = true from Nat.beq_refl n]
        cases m ((pk idx ds).map OD.sh) with
        | none => rfl
        | some r =>
          simp only [Option.bind_some]
          cases h1 : isSc r.er <;> cases h2 : r.isSh <;> rfl
      · rw [if_neg h]
        have : (Nat.beq p.1.length n && Nat.beq (pk idx ds).length n) = false := by
          rw [Bool.eq_false_iff]
          intro z
          obtain ⟨z1, z2⟩ := Bool.and_eq_true_iff.mp z
          exact h ⟨Nat.eq_of_beq_eq_true z1, Nat.eq_of_beq_eq_true z2⟩
        rw [this]; rfl
theorem b_sSeq {a b : EvS} : sSeq a b os = (a os).bind fun r => match r with | .nx os1 => b os1 | r => some r := by
  unfold sSeq
  cases a os with
  | none => rfl
  | some r => cases r <;> rfl
theorem b_sIf {t : EvT} {a b : EvS} : sIf t a b os = (t os).bind fun p => cond p.1 (a p.2) (b p.2) := by
  unfold sIf
  cases t os with
  | none => rfl
  | some p => obtain ⟨c, q⟩ := p; cases c <;> rfl
theorem b_sRet {ev : EvE} : sRet ev os = (ev os).bind fun p => (give p.2 p.1).bind fun q => some (.rt q.1 q.2) := by
  unfold sRet
  cases ev os with
  | none => rfl
  | some p =>
    simp only [Option.bind_some]
    cases give p.2 p.1 <;> rfl
def inR (R : List Nat) (i n : Nat) : Bool := R.any (Nat.beq i) || Nat.ble n i
theorem inR_iff : (i ∈ R ∨ n ≤ i) ↔ inR R i n = true := by
  unfold inR
  rw [Bool.or_eq_true, List.any_eq_true]
  constructor
  · rintro (h | h)
    · exact .inl ⟨i, h, Nat.beq_refl i⟩
    · exact .inr (Nat.ble_eq_true_of_le h)
  · rintro (⟨x, h1, h2⟩ | h)
    · have := Nat.eq_of_beq_eq_true h2; subst this; exact .inl h1
    · exact .inr (Nat.le_of_ble_eq_true h)
theorem b_inR {α : Type} {a b : α} : (if i ∈ R ∨ n ≤ i then a else b) = cond (inR R i n) a b := by
  by_cases h : i ∈ R ∨ n ≤ i
  · rw [if_pos h, inR_iff.mp h]; rfl
  · rw [if_neg h, Bool.eq_false_iff.mpr fun z => h (inR_iff.mpr z)]; rfl
theorem b_sAsg {ev : EvE} : sAsg R i ev os = (ev os).bind fun p => cond (inR R i p.2.length) none (match p.1 with
    | .tm o => some (.nx (p.2.set i (some o)))
    | .al j => (cv (hard p.2 (.al j)) (.al j)).bind fun o => some (.nx ((hard p.2 (.al j)).set i (some o)))) := by
  unfold sAsg
  cases ev os with
  | none => rfl
  | some p =>
    obtain ⟨r, os1⟩ := p
    simp only [Option.bind_some]
    rw [b_inR]
    congr 1
    cases r with
    | tm o => rfl
    | al j =>
      show (match (hard os1 (.al j))[j]? with | some (some (.sh d)) => some (Res.nx ((hard os1 (.al j)).set i (some (.sh d)))) | _ => none) = (match (hard os1 (.al j))[j]? with | some (some (.sh d)) => some (OD.sh d) | _ => none).bind _
      cases (hard os1 (.al j))[j]? with
      | none => rfl
      | some s =>
        cases s with
        | none => rfl
        | some o => cases o <;> rfl
theorem b_gvName {d : PyData} : gvName R i d os = cond (inR R i os.length) none (some (os.set i (some (.sh d)))) := by
  unfold gvName; rw [b_inR]
theorem b_gvNil : gvNil [] os = some os := rfl
theorem b_gvCons {a : EvG} {b : EvGs} {d : PyData} {ds : List PyData} : gvCons a b (d :: ds) os = (a d os).bind fun os1 => b ds os1 := by
  unfold gvCons
  simp only
  cases a d os <;> rfl
def tup? : PyData → Option (List PyData)
  | .tuple ds => some ds
  | _ => none
theorem b_gvTup {b : EvGs} {d : PyData} : gvTup n b d os = (tup? d).bind fun ds => cond (Nat.beq ds.length n) (b ds os) none := by
  unfold gvTup
  cases d with
  | tuple ds =>
    simp only [tup?, Option.bind_some]
    by_cases h : ds.length = n
    · rw [if_pos h, h, show Nat.beq n n = true from Nat.beq_refl n]; rfl
    · rw [if_neg h, Bool.eq_false_iff.mpr fun z => h (Nat.eq_of_beq_eq_true z)]; rfl
  | _ => rfl
def lst? : Option OD → Option (List OD)
  | some (.lst xs) => some xs
  | _ => none
theorem b_gvSub {ei : EvE} {d : PyData} : gvSub i ei d os = ((os[i]?).bind lst?).bind fun _ => (ei os).bind fun p => (p.1.rd p.2).bind fun k => (int? k).bind fun k => ((p.2[i]?).bind lst?).bind fun xs => (ixN xs.length k).bind fun j => some (p.2.set i (some (.lst (xs.set j (.sh d))))) := by
  unfold gvSub
  cases h0 : os[i]? with
  | none => rfl
  | some s =>
    cases s with
    | none => rfl
    | some o =>
      cases o with
      | sh _ => rfl
      | tpl _ => rfl
      | lst ys =>
        simp only [Option.bind_some, lst?]
        cases ei os with
        | none => rfl
        | some p =>
          simp only [Option.bind_some]
          cases p.1.rd p.2 with
          | none => rfl
          | some k =>
            cases k with
            | int kk =>
              simp only [Option.bind_some, int?]
              cases p.2[i]? with
              | none => rfl
              | some s2 =>
                cases s2 with
                | none => rfl
                | some o2 =>
                  cases o2 with
                  | sh _ => rfl
                  | tpl _ => rfl
                  | lst xs =>
                    simp only [Option.bind_some, lst?]
                    cases ixN xs.length kk <;> rfl
            | _ => rfl
theorem b_sAsgG {tv : EvG} {ev : EvE} : sAsgG tv ev os = (ev os).bind fun p => (p.1.rd p.2).bind fun d => (tv d (hard p.2 p.1)).bind fun os2 => some (.nx os2) := by
  unfold sAsgG
  cases ev os with
  | none => rfl
  | some p =>
    obtain ⟨r, os1⟩ := p
    simp only [Option.bind_some]
    rw [b_rdCons]
    cases r.rd os1 with
    | none => rfl
    | some d =>
      simp only [Option.bind_some, b_rdNil, hardAll]
      cases tv d (hard os1 r) <;> rfl
theorem b_sApp {ev : EvE} : sApp i ev os = ((os[i]?).bind lst?).bind fun _ => (ev os).bind fun p => (cv (hard p.2 p.1) p.1).bind fun o => (((hard p.2 p.1)[i]?).bind lst?).bind fun xs => cond (Nat.blt xs.length sizeLine) (some (.nx ((hard p.2 p.1).set i (some (.lst (xs ++ [o])))))) none := by
  unfold sApp
  have hb : ∀ (xs : List OD) (a : Option Res), (if xs.length < sizeLine then a else none) = cond (Nat.blt xs.length sizeLine) a none := fun xs a => by
    by_cases h : xs.length < sizeLine
    · rw [if_pos h, show Nat.blt xs.length sizeLine = true from Nat.ble_eq_true_of_le h]; rfl
    · rw [if_neg h, show Nat.blt xs.length sizeLine = false from Bool.eq_false_iff.mpr fun z => h (Nat.le_of_ble_eq_true z)]; rfl
  cases h0 : os[i]? with
  | none => rfl
  | some s =>
    cases s with
    | none => rfl
    | some o =>
      cases o with
      | sh _ => rfl
      | tpl _ => rfl
      | lst ys =>
        simp only [Option.bind_some, lst?]
        cases ev os with
        | none => rfl
        | some p =>
          obtain ⟨r, os1⟩ := p
          simp only [Option.bind_some]
          cases r with
          | tm o =>
            simp only [cv, hard, Option.bind_some]
            cases os1[i]? with
            | none => rfl
            | some s2 =>
              cases s2 with
              | none => rfl
              | some o2 =>
                cases o2 with
                | sh _ => rfl
                | tpl _ => rfl
                | lst xs => simp only [Option.bind_some, lst?]; exact hb xs _
          | al j =>
            have hc : cv (hard os1 (.al j)) (.al j) = (match (hard os1 (.al j))[j]? with | some (some (.sh d)) => some (OD.sh d) | _ => none) := rfl
            rw [hc]
            simp only
            cases (hard os1 (.al j))[j]? with
            | none => rfl
            | some s1 =>
              cases s1 with
              | none => rfl
              | some o1 =>
                cases o1 with
                | lst _ => rfl
                | tpl _ => rfl
                | sh d =>
                  simp only [Option.bind_some]
                  cases (hard os1 (.al j))[i]? with
                  | none => rfl
                  | some s2 =>
                    cases s2 with
                    | none => rfl
                    | some o2 =>
                      cases o2 with
                      | sh _ => rfl
                      | tpl _ => rfl
                      | lst xs => simp only [Option.bind_some, lst?]; exact hb xs _
theorem b_bindCond {α β : Type} {c : Bool} {x y : Option α} {f : α → Option β} : (cond c x y).bind f = cond c (x.bind f) (y.bind f) := by cases c <;> rfl
theorem b_condFst {α β : Type} {c : Bool} {x y : α × β} : (cond c x y).1 = cond c x.1 y.1 := by cases c <;> rfl
theorem b_condSnd {α β : Type} {c : Bool} {x y : α × β} : (cond c x y).2 = cond c x.2 y.2 := by cases c <;> rfl
theorem b_giveT {o : OD} : give os (.tm o) = some (o, os) := rfl
theorem b_sFor {it : EvI} {tv : EvG} {b : EvS} : sFor it tv b os = (it os).bind fun p => forF tv b p.1 p.2 := by
  unfold sFor
  cases it os <;> rfl
theorem b_iSq {ev : EvE} : iSq ev os = (ev os).bind fun p => (p.1.rd p.2).bind fun d => (itemsD d).bind fun ds => some (ds, hard p.2 p.1) := by
  unfold iSq
  cases ev os with
  | none => rfl
  | some p =>
    obtain ⟨r, os1⟩ := p
    simp only [Option.bind_some]
    rw [b_rdCons]
    cases r.rd os1 with
    | none => rfl
    | some d =>
      simp only [Option.bind_some, b_rdNil, hardAll]
      cases itemsD d <;> rfl
theorem b_iR1 {ev : EvE} : iR1 (es1 ev) os = (ev os).bind fun p => (p.1.rd p.2).bind fun d => (int? d).bind fun j => cond (fit62 j) (some (rangeD 0 j.toNat, p.2)) none := by
  unfold iR1
  rw [show es1 ev = esCons ev esNil from rfl, b_esCons]
  cases ev os with
  | none => rfl
  | some p =>
    obtain ⟨r, os1⟩ := p
    simp only [Option.bind_some, b_esNil, b_rdCons, b_rdNil]
    cases r.rd os1 with
    | none => rfl
    | some d =>
      cases d with
      | int j =>
        simp only [Option.bind_some, int?]
        cases fit62 j <;> rfl
      | _ => rfl
theorem b_eLc {own : List Nat} {it : EvI} {tv : EvG} {c : EvT} {ev : EvE} : eLc own it tv c ev os = (it os).bind fun p => (lcF own tv c ev p.1 (wipeE p.2 own) []).bind fun q => some (.tm (.lst q.1), q.2) := by
  unfold eLc
  cases it os with
  | none => rfl
  | some p =>
    simp only [Option.bind_some]
    cases lcF own tv c ev p.1 (wipeE p.2 own) [] <;> rfl
theorem b_lcNil {own : List Nat} {tv : EvG} {c : EvT} {ev : EvE} {acc : List OD} : lcF own tv c ev [] os acc = some (acc, os) := rfl
theorem b_lcCons {own : List Nat} {tv : EvG} {c : EvT} {ev : EvE} {acc : List OD} {d : PyData} {ds : List PyData} : lcF own tv c ev (d :: ds) os acc = (tv d os).bind fun os1 => (c os1).bind fun q => cond q.1
    ((ev q.2).bind fun p => (cv (hard p.2 p.1) p.1).bind fun o => cond (Nat.blt acc.length sizeLine) (lcF own tv c ev ds (wipeE (hard p.2 p.1) own) (acc ++ [o])) none) (lcF own tv c ev ds (wipeE q.2 own) acc) := by
  show (match tv d os with | some os1 => _ | none => none) = _
  cases tv d os with
  | none => rfl
  | some os1 =>
    simp only [Option.bind_some]
    cases c os1 with
    | none => rfl
    | some q =>
      obtain ⟨b, os2⟩ := q
      cases b with
      | false => rfl
      | true =>
        simp only [Option.bind_some, cond_true]
        cases ev os2 with
        | none => rfl
        | some p =>
          obtain ⟨r, os3⟩ := p
          simp only [Option.bind_some]
          cases cv (hard os3 r) r with
          | none => rfl
          | some o =>
            simp only [Option.bind_some]
            by_cases h : acc.length < sizeLine
            · rw [if_pos h, show Nat.blt acc.length sizeLine = true from Nat.ble_eq_true_of_le h]; rfl
            · rw [if_neg h, show Nat.blt acc.length sizeLine = false from Bool.eq_false_iff.mpr fun z => h (Nat.le_of_ble_eq_true z)]; rfl
end
end DX
/-! DXSimp2: what the operations give, kind by kind. -/
namespace DX
open PySem PySem.Spec PyProof.Rows L2

section
variable {os : En} {R : List Nat} {i j l n : Nat} {a b : Int} {x y z : Str} {c : Bool} {ds es : List PyData} {xs : List OD} {d : PyData} {o : OD}
theorem k_bool : bool? (.bool c) = some c := rfl
theorem k_int : int? (.int a) = some a := rfl
theorem k_str : str? (.str x) = some x := rfl
theorem k_tup : tup? (.tuple ds) = some ds := rfl
theorem k_lst : lst? (some (.lst xs)) = some xs := rfl
theorem k_itL : itemsD (.list ds) = some ds := rfl
theorem k_itT : itemsD (.tuple ds) = some ds := rfl
theorem k_itS : itemsD (.str x) = some (signs x) := rfl
theorem k_trN : trD .none = some false := rfl
theorem k_trB : trD (.bool c) = some c := rfl
theorem k_trI : trD (.int a) = some (a != 0) := rfl
theorem k_trS : trD (.str x) = some ((x.length : Int) != 0) := rfl
theorem k_trL : trD (.list ds) = some (!ds.isEmpty) := rfl
theorem k_trT : trD (.tuple ds) = some (!ds.isEmpty) := rfl
theorem k_scN : isSc .none = true := rfl
theorem k_scB : isSc (.bool c) = true := rfl
theorem k_scI : isSc (.int a) = true := rfl
theorem k_scS : isSc (.str x) = true := rfl
theorem k_scL : isSc (.list ds) = false := rfl
theorem k_scT : isSc (.tuple ds) = false := rfl
theorem k_shS : (OD.sh d).isSh = true := rfl
theorem k_shL : (OD.lst xs).isSh = false := rfl
theorem k_softT : soft os (.tm o) = os := rfl
theorem k_hardT : hard os (.tm o) = os := rfl
theorem k_cvT : cv os (.tm o) = some o := rfl
theorem k_softNil : softAll os [] = os := rfl
theorem k_softCons {r : RV} {rs : List RV} : softAll os (r :: rs) = softAll (soft os r) rs := rfl
theorem k_hardNil : hardAll os [] = os := rfl
theorem k_hardCons {r : RV} {rs : List RV} : hardAll os (r :: rs) = hardAll (hard os r) rs := rfl
/-- a shared slot stays as it is -/
theorem k_softA (h : os[i]? = some (some (.sh d))) : soft os (.al i) = os := by
  show (match os[i]? with | some (some o) => if o.flat then os else os.set i (some (.sh o.er)) | _ => os) = os
  rw [h]; rfl
theorem k_softF (h : os[i]? = some (some (.lst xs))) (hf : xs.all OD.isSh = true) : soft os (.al i) = os := by
  show (match os[i]? with | some (some o) => if o.flat then os else os.set i (some (.sh o.er)) | _ => os) = os
  rw [h]
  show (if (OD.lst xs).flat = true then os else _) = os
  rw [show (OD.lst xs).flat = xs.all OD.isSh from rfl, hf]; rfl
theorem k_hardA (h : os[i]? = some (some (.sh d))) : hard os (.al i) = os := by
  show (match os[i]? with | some (some (.lst xs)) => os.set i (some (.sh (OD.lst xs).er)) | some (some (.tpl xs)) => os.set i (some (.sh (OD.tpl xs).er)) | _ => os) = os
  rw [h]
theorem k_hardL (h : os[i]? = some (some (.lst xs))) : hard os (.al i) = os.set i (some (.sh (OD.lst xs).er)) := by
  show (match os[i]? with | some (some (.lst xs)) => os.set i (some (.sh (OD.lst xs).er)) | some (some (.tpl xs)) => os.set i (some (.sh (OD.tpl xs).er)) | _ => os) = _
  rw [h]
theorem k_cvA (h : os[i]? = some (some (.sh d))) : cv os (.al i) = some (.sh d) := by
  show (match os[i]? with | some (some (.sh d)) => some (OD.sh d) | _ => none) = _
  rw [h]
theorem k_giveA (h : os[i]? = some (some (.sh d))) : give os (.al i) = some (.sh d, os) := by
  show (match os[i]? with | some (some (.sh d)) => some (OD.sh d, os) | some (some (.lst xs)) => some (OD.lst xs, os.set i none) | some (some (.tpl xs)) => some (OD.tpl xs, os.set i none) | _ => none) = _
  rw [h]
theorem k_giveL (h : os[i]? = some (some (.lst xs))) : give os (.al i) = some (.lst xs, os.set i none) := by
  show (match os[i]? with | some (some (.sh d)) => some (OD.sh d, os) | some (some (.lst xs)) => some (OD.lst xs, os.set i none) | some (some (.tpl xs)) => some (OD.tpl xs, os.set i none) | _ => none) = _
  rw [h]
theorem k_seqN {b : EvS} : (match Res.nx os with | .nx os1 => b os1 | r => some r) = b os := rfl
theorem k_retR : retOf (.rt o os) = some o := rfl
theorem k_retN : retOf (.nx os) = some (.sh .none) := rfl
-- operations
theorem o_addI : opAdd [.int a, .int b] = some (.val (.int (a + b))) := rfl
theorem o_addS : opAdd [.str x, .str y] = cond (Nat.ble (x.length + y.length) strMax) (some (.val (.str (x ++ y)))) none := by
  simp only [opAdd]
  by_cases h : x.length + y.length ≤ strMax
  · rw [if_pos h, Nat.ble_eq_true_of_le h]; rfl
  · rw [if_neg h, Bool.eq_false_iff.mpr fun z => h (Nat.le_of_ble_eq_true z)]; rfl
theorem o_addL : opAdd [.list ds, .list es] = cond (Nat.ble (ds.length + es.length) sizeLine) (some (.nl (ds ++ es))) none := by
  simp only [opAdd]
  by_cases h : ds.length + es.length ≤ sizeLine
  · rw [if_pos h, Nat.ble_eq_true_of_le h]; rfl
  · rw [if_neg h, Bool.eq_false_iff.mpr fun z => h (Nat.le_of_ble_eq_true z)]; rfl
theorem o_sub : opSub [.int a, .int b] = some (.val (.int (a - b))) := rfl
theorem o_neg : opNeg [.int a] = some (.val (.int (-a))) := rfl
theorem o_ltI : opLt [.int a, .int b] = some (.val (.bool (decide (a < b)))) := rfl
theorem o_leI : opLe [.int a, .int b] = some (.val (.bool (decide (a ≤ b)))) := rfl
theorem o_gtI : opGt [.int a, .int b] = some (.val (.bool (decide (b < a)))) := rfl
theorem o_geI : opGe [.int a, .int b] = some (.val (.bool (decide (b ≤ a)))) := rfl
theorem o_lenS : opLen [.str x] = some (.val (.int x.length)) := rfl
theorem o_lenL : opLen [.list ds] = some (.val (.int ds.length)) := rfl
theorem o_lenT : opLen [.tuple ds] = some (.val (.int ds.length)) := rfl
theorem o_abs : opAbs [.int a] = some (.val (.int (if a < 0 then -a else a))) := rfl
theorem o_max : opMax2 [.int a, .int b] = some (.val (.int (if b > a then b else a))) := rfl
theorem o_int : opInt [.int a] = some (.val (.int a)) := rfl
theorem o_ixL : opIx [.list ds, .int a] = (atI ds a).bind fun d => some (.val d) := by
  simp only [opIx]; cases atI ds a <;> rfl
theorem o_ixT : opIx [.tuple ds, .int a] = (atI ds a).bind fun d => some (.val d) := by
  simp only [opIx]; cases atI ds a <;> rfl
theorem o_ixS : opIx [.str x, .int a] = (atI x.cps.toList a).bind fun c => some (.val (.str ⟨#[c]⟩)) := by
  simp only [opIx]; cases atI x.cps.toList a <;> rfl
theorem o_slS {lo hi : Option Int} : opSl lo hi [.str x] = some (.val (.str (cutS x lo hi))) := rfl
theorem o_slL {lo hi : Option Int} : opSl lo hi [.list ds] = some (.nl (cutD ds lo hi)) := rfl
theorem o_in1 {c : Nat} : opIn false [.str ⟨#[c]⟩, .str y] = some (.val (.bool (decide (c ∈ y.cps.toList)))) := rfl
theorem o_ni1 {c : Nat} : opIn true [.str ⟨#[c]⟩, .str y] = some (.val (.bool (!decide (c ∈ y.cps.toList)))) := rfl
theorem strs_map : ∀ ys : List Str, strs? (ys.map PyData.str) = some ys
  | [] => rfl
  | y :: ys => by simp only [List.map_cons, strs?, strs_map ys]
theorem o_eq (h1 : SeqAt.shaped d = true) {e : PyData} (h2 : SeqAt.shaped e = true) : opEq [d, e] = some (.val (.bool (PyData.eqv d e))) := by
  cases d <;> cases e <;> first | rfl | (simp only [opEq, h1, h2, Bool.and_self, if_true])
theorem o_ne (h1 : SeqAt.shaped d = true) {e : PyData} (h2 : SeqAt.shaped e = true) : opNe [d, e] = some (.val (.bool (!PyData.eqv d e))) := by
  cases d <;> cases e <;> first | rfl | (simp only [opNe, h1, h2, Bool.and_self, if_true])
theorem bools_map : ∀ ys : List Bool, bools? (ys.map PyData.bool) = some ys
  | [] => rfl
  | y :: ys => by simp only [List.map_cons, bools?, bools_map ys]
theorem o_all {f : List Bool → Bool} {ys : List Bool} : opAll f [.list (ys.map PyData.bool)] = some (.val (.bool (f ys))) := by
  simp only [opAll, bools_map]
theorem o_isi {s : String} {r : Bool} (h : kitB (tyN d) s = some r) (nd : ∀ kv, d ≠ .dict kv) : opIsi s [d] = some (.val (.bool r)) := by
  unfold opIsi
  split
  · rename_i q; cases q; exact absurd rfl (nd _)
  · rename_i q; cases q; rw [h]
  · rename_i q1 q2; exact absurd rfl (q2 d)
/-- which data are of a built-in class -/
def isiD (n : String) : PyData → Bool
  | .bool _ => n == "bool" || n == "int"
  | .int _ => n == "int"
  | .str _ => n == "str"
  | .list _ => n == "list"
  | .tuple _ => n == "tuple"
  | _ => false
theorem o_isiD {n : String} (hn : n = "bool" ∨ n = "int" ∨ n = "str" ∨ n = "list" ∨ n = "tuple") (nd : ∀ kv, d ≠ .dict kv) : opIsi n [d] = some (.val (.bool (isiD n d))) := by
  have T : ∀ m ∈ ["NoneType", "bool", "int", "str", "list", "tuple"], ∀ n ∈ ["bool", "int", "str", "list", "tuple"], (kitB m n).isSome = true ∧ kitB m n = some ((m == n) || (m == "bool" && n == "int")) := by decide +kernel
  have hn' : n ∈ ["bool", "int", "str", "list", "tuple"] := by simpa using hn
  have hm : tyN d ∈ ["NoneType", "bool", "int", "str", "list", "tuple"] := by
    cases d with
    | dict kv => exact absurd rfl (nd kv)
    | _ => simp [tyN]
  refine o_isi (((T _ hm _ hn').2).trans ?_) nd
  congr 1
  rcases hn with rfl | rfl | rfl | rfl | rfl <;> cases d <;> first | rfl | exact absurd rfl (nd _)
theorem b_sAug {fn : List PyData → Option Op} {ev : EvE} {d0 : PyData} {d1 : PyData} {r : RV} {os1 : En} (h0 : os[i]? = some (some (.sh d0))) (hs : isSc d0 = true) (hR : i ∉ R) (he : ev os = some (r, os1)) (hr : r.rd os1 = some d) (hf : fn [d0, d] = some (.val d1)) (h1 : isSc d1 = true) :
    sAug R i fn ev os = some (.nx (os1.set i (some (.sh d1)))) := by
  unfold sAug
  rw [h0]
  simp only [hs, hR, not_false_eq_true, and_self, if_true, he, hr, hf, h1]
end
end DX
/-! DXEnum: enumerate of a text. -/
namespace L2
open PySem PySem.Spec PyProof.Rows
/-- the signs of x, each in a new pair -/
def IteS (x : Str) : It :=
  ⟨fun i _ => i < x.cps.size, fun i H v H' => ∃ T c, v = .ref T ∧ H T = none ∧ H' = upd H T (.tup [.int (i : Nat), .str ⟨#[c]⟩]) ∧ x.cps[i]? = some c, fun i _ => x.cps.size ≤ i⟩
theorem draws_sign {prog : Program} {w : World} {A : Around} (hh : A.handled = none) (it : Addr) (x : Str) (t : Tok) :
    Draws prog w A it [it] x.cps.size (fun i v => ∃ c u, x.cps[i]? = some c ∧ v = .str ⟨#[c]⟩ u) (fun i h => h.IsStrIter it (strIterType x) x t i) := by
  unfold strIterType
  cases ha : x.cps.all (· < 128)
  · exact Draws.strWide hh it x t
  · exact Draws.strAscii hh it x t
theorem turn_enumS {P : Program} {w : World} {K : PySem.W.Frag} {elts : List Expr} {kk : Nat} {tpos : Pos} (x : Str) (t : Tok) (e it : Addr) :
    Turn P w K (.Tuple elts kk tpos) (IteS x) [e, it] e (fun i h => (∃ old, IsEnum h e it ((i : Nat) : Int) old) ∧ h.IsStrIter it (strIterType x) x t i ∧ e ≠ it ∧ i ≤ x.cps.size) where
  mem := by simp
  obj := fun i h st b hb => by
    obtain ⟨⟨old, he⟩, ⟨o, ho, hc, hd⟩, _, _⟩ := st
    have e' : b = e ∨ b = it := by simpa using hb
    rcases e' with z | z
    · rw [z]; exact ⟨_, he, fun v q => nomatch q⟩
    · rw [z]; exact ⟨o, ho, fun v q => by rw [hd] at q; cases q⟩
  keep := fun i h h' st k => let ⟨⟨old, he⟩, ⟨o, ho, r⟩, hne, hi⟩ := st; ⟨⟨old, k e (by simp) _ he⟩, ⟨o, k it (by simp) o ho, r⟩, hne, hi⟩
  item := by
    intro X hP hw hK hc i pins s σ H E I hf st hg
    subst hP hw hK
    obtain ⟨⟨old, he⟩, hit, hne, hin⟩ := st
    have hel : e < s.heap.objs.size := Heap.lt_size he
    have hil : it < s.heap.objs.size := by obtain ⟨_, q, _⟩ := hit; exact Heap.lt_size q
    refine wpAny_pyNext_enum_itemD (draws_sign (A := X.A.in1) (I.ok.hd hc) it x t) he hit hg hne (by simpa using hne) fun v h' tk hv ho hit' hT hsz hk => ?_
    obtain ⟨c, u, hcx, rfl⟩ := hv
    refine ⟨_, rfl, wpAny_letOwnedTupleGo_enum (s := { s with heap := h', toks := tk + 1 }) ho fun h'' he' sb => ?_⟩
    have hT2 : h''.get? s.heap.objs.size = some { cls := .type "tuple", data := .seq #[.int i tk, .str ⟨#[c]⟩ u] } := (sb.2 _ (Nat.ne_of_gt hel)).trans hT
    have new : ObjOk X.prog X.w (upd H s.heap.objs.size (.tup [.int (i : Nat), .str ⟨#[c]⟩])) h'' s.heap.objs.size (.tup [.int (i : Nat), .str ⟨#[c]⟩]) :=
      ⟨by show 2 ≤ sizeLine; decide, [.int i tk, .str ⟨#[c]⟩ u], .cons ⟨_, rfl⟩ (.cons ⟨_, rfl⟩ .nil), ⟨_, hT2, rfl, _, rfl⟩⟩
    have I1 : Inv X pins σ (upd H s.heap.objs.size (.tup [.int (i : Nat), .str ⟨#[c]⟩])) { s with heap := h'', toks := tk + 1 } :=
      I.turnedNew (ch := [e, it]) (fun b ob hb q => (sb.2 b (fun z => hb (by simp [z]))).trans (hk b ob (fun z => hb (by simp [z])) (fun z => hb (by simp [z])) q)) hf (Nat.le_refl _) new
    refine ⟨.ref s.heap.objs.size, _, I1, rfl, ⟨_, c, rfl, I.hok.fresh (Nat.le_refl _), rfl, hcx⟩, ⟨⟨Value.str ⟨#[c]⟩ u, ?_⟩, ?_, hne, hg⟩, fun b hb => ?_⟩
    · have e1 : ((i + 1 : Nat) : Int) = (i : Int) + 1 := by omega
      rw [e1]; exact he'
    · obtain ⟨o, ho2, r⟩ := hit'
      exact ⟨o, (sb.2 it (Ne.symm hne)).trans ho2, r⟩
    · have hb' : b < s.heap.objs.size := by
        have e' : b = e ∨ b = it := by simpa using hb
        rcases e' with z | z
        · rw [z]; exact hel
        · rw [z]; exact hil
      rw [upd_ne (Nat.ne_of_lt hb')]
      exact (hf b hb).1
  done := by
    intro X hP hw hK hc i pins s σ H E I hf st hg
    subst hP hw hK
    obtain ⟨⟨old, he⟩, hit, hne, hin⟩ := st
    obtain ⟨f0, f1, f2, f3, f4, f5⟩ := hf it (by simp)
    have hge : x.cps.size ≤ i := hg
    have e0 : i = x.cps.size := Nat.le_antisymm hin hge
    subst e0
    exact wpAny_pyNext_enum_endD (draws_sign (A := X.A.in1) (I.ok.hd hc) it x t) he hit fun h' eb => ⟨rfl, I.turned (t' := s.toks) (fun b o hb q => eb b o hb q) f0 f1 f3 f4 f5⟩
  self := fun A i s Q E st h => let ⟨⟨_, he⟩, _, _, _⟩ := st; wpAny_pyIter_enum he h
def iEnumS (ta : TA) : TI := fun σ H R => ta σ H fun vs H1 => ∃ x, vs = [.str x] ∧ R (IteS x) H1
theorem pi_enumS {X : Cx} {e : Expr} {ta : TA} {p pos tpos : Pos} {elts : List Expr} {kk : Nat} (hg : Gl X "enumerate") (hm : X.mg "enumerate" = none) (ha : PA X [e] ta) (hs : starEach [e] X.env = [(false, eval e X.env)] := by rfl) :
    PI X (.Tuple elts kk tpos) (.Call (.Name "enumerate" p) [e] [] pos) (iEnumS ta) := by
  refine ⟨fun pins s σ H R I h => ?_⟩
  refine Call_ (ld_blt I hg hm boot_enumerate (PyProof.Rows.callWith_type1 (thn (ha.run pos pins s σ H _ I h) fun us s1 ⟨vs, H1, I1, r1, q1⟩ => ?_) hs rfl))
  obtain ⟨x, ex, q⟩ := q1
  subst ex
  cases r1 with
  | cons r rr =>
    cases rr
    obtain ⟨t, rfl⟩ := r
    refine call_enumerate_str fun h' he hit hsz hk => wpAny_pyIter_enum he ?_
    have I2 : Inv X pins σ H1 { s1 with heap := h' } := I1.kept (t' := s1.toks) hk
    refine ⟨s1.heap.objs.size + 1, [s1.heap.objs.size + 1, s1.heap.objs.size], _, _, H1, rfl, I2, turn_enumS x t (s1.heap.objs.size + 1) s1.heap.objs.size, ⟨⟨.none, he⟩, hit, Nat.succ_ne_self _, Nat.zero_le _⟩, fun b hb => ?_, q⟩
    have e' : b = s1.heap.objs.size + 1 ∨ b = s1.heap.objs.size := by simpa using hb
    have hle : s1.heap.objs.size ≤ b := by
      rcases e' with z | z
      · rw [z]; exact Nat.le_add_right _ _
      · rw [z]; exact Nat.le_refl _
    exact I1.fpOk hle (I1.hok.fresh hle)
end L2
namespace DX
open PySem PySem.Spec PyProof.Rows L2
section
variable {K : PySem.W.Frag} {X : Cx}
def iEnS (ev : EvEs) : EvI := fun os => match ev os with
  | some (rs, os1) => match rdAll os1 rs with
    | some [.str x] => some (enumD 0 (signs x), hardAll os1 rs)
    | _ => none
  | none => none
theorem ir_enS {ev : EvEs} {ta : TA} (h : ERs K ev ta) : IR K (iEnS ev) (iEnumS ta) := fun σ τ G H os θ f ds os' Q hl ht I e k => by
  unfold iEnS at e
  split at e
  · rename_i rs os1 e1
    split at e
    · rename_i x e2
      cases e
      refine h σ τ G H os θ f rs _ _ hl ht I e1 fun vs H1 k1 => ?_
      obtain ⟨G1, f1, I1, s1, a1, l1⟩ := k1
      obtain ⟨G2, f2, I2, s2, hd⟩ := I1.popC l1 ht a1 e2
      obtain ⟨w, rfl, hw⟩ := dps1 hd
      cases hw
      have hln : (enumD 0 (signs x)).length = x.cps.size := by rw [enumD_len]; unfold signs; rw [List.length_map]; simp
      refine ⟨x, rfl, k _ H1 G2 f2 I2 (s1.trans s2) (by rw [len_hardAll]; exact l1) fun i G3 H3 g1 g2 => ⟨fun hi => ?_, fun hi => ?_, fun y H4 d hd z => ?_⟩⟩
      · show i < x.cps.size
        omega
      · show x.cps.size ≤ i
        omega
      · obtain ⟨T, c, rfl, hT, rfl, z1⟩ := z
        obtain ⟨d', h1, h2⟩ := enumD_get hd
        subst h2
        have : d' = .str ⟨#[c]⟩ := by
          unfold signs at h1
          rw [List.getElem?_map, Array.getElem?_toList, z1] at h1
          exact (Option.some.inj h1).symm
        subst this
        have := nw_pair (K := K) g2 (.int ((i : Nat) : Int)) (.str ⟨#[c]⟩ (by show 1 ≤ strMax; decide)) hT
        simpa using this
    · cases e
  · cases e
theorem si_enS {a : Expr} {ev : EvEs} {p pos tpos : Pos} {elts : List Expr} {kk : Nat} (hm : X.mg "enumerate" = none) (h : SEs X ev [a]) (hg : Gl X "enumerate" := by rfl) (hs : starEach [a] X.env = [(false, eval a X.env)] := by rfl) : SI' X (.Tuple elts kk tpos) (iEnS ev) (.Call (.Name "enumerate" p) [a] [] pos) := by
  obtain ⟨ta, q1, q2⟩ := h
  exact ⟨_, pi_enumS hg hm q1 hs, ir_enS q2⟩
/-- of a list or a text -/
def iEnA (ev : EvEs) : EvI := fun os => match iEn ev os with
  | some r => some r
  | none => iEnS ev os
theorem ir_or {a b : EvI} {ta tb : TI} (ha : IR K a ta) (hb : IR K b tb) : IR K (fun os => match a os with | some r => some r | none => b os) (fun σ H Q => ta σ H Q ∨ tb σ H Q) := fun σ τ G H os θ f ds os' Q hl ht I e k => by
  dsimp only at e
  split at e
  · rename_i r e1
    cases e
    exact .inl (ha σ τ G H os θ f ds os' Q hl ht I e1 k)
  · exact .inr (hb σ τ G H os θ f ds os' Q hl ht I e k)
theorem si_enA {a : Expr} {ev : EvEs} {p pos tpos : Pos} {elts : List Expr} {kk : Nat} (hm : X.mg "enumerate" = none) (h : SEs X ev [a]) (hg : Gl X "enumerate" := by rfl) (hs : starEach [a] X.env = [(false, eval a X.env)] := by rfl) : SI' X (.Tuple elts kk tpos) (iEnA ev) (.Call (.Name "enumerate" p) [a] [] pos) := by
  obtain ⟨ta, q1, q2⟩ := h
  exact ⟨_, pi_or (pi_enum hg hm q1 hs) (pi_enumS hg hm q1 hs), ir_or (ir_en q2) (ir_enS q2)⟩
end
end DX
/-! DXRun: loops and comprehensions by what a turn does; texts as lists of signs. -/
namespace DX
open PySem PySem.Spec PyProof.Rows L2

/-! ### texts -/
def S (l : List Nat) : Str := ⟨l.toArray⟩
theorem S_l (l : List Nat) : (S l).cps.toList = l := rfl
theorem S_len (l : List Nat) : (S l).length = l.length := rfl
theorem S_of (x : Str) : x = S x.cps.toList := rfl
theorem S_app (l m : List Nat) : S l ++ S m = S (l ++ m) := by
  show Str.mk (l.toArray ++ m.toArray) = Str.mk (l ++ m).toArray
  rw [List.append_toArray]
theorem S_one (c : Nat) : (⟨#[c]⟩ : Str) = S [c] := rfl
theorem S_inj {l m : List Nat} (h : S l = S m) : l = m := by
  have : (S l).cps.toList = (S m).cps.toList := by rw [h]
  exact this
def sgD (c : Nat) : PyData := .str (S [c])
theorem signs_S (l : List Nat) : signs (S l) = l.map sgD := rfl
theorem k_itSS {l : List Nat} : itemsD (.str (S l)) = some (l.map sgD) := rfl
theorem k_trSS {l : List Nat} : trD (.str (S l)) = some ((l.length : Int) != 0) := rfl

/-! ### comprehensions -/
def lcStep (own : List Nat) (tv : EvG) (c : EvT) (ev : EvE) (d : PyData) (os : En) : Option (Option OD × En) :=
  (tv d os).bind fun os1 => (c os1).bind fun q => cond q.1 ((ev q.2).bind fun p => (cv (hard p.2 p.1) p.1).bind fun o => some (some o, wipeE (hard p.2 p.1) own)) (some (none, wipeE q.2 own))
theorem lc_fold {own : List Nat} {tv : EvG} {c : EvT} {ev : EvE} {σ : Type} (E : σ → En) (F : PyData → σ → Option OD × σ) :
    ∀ (ds : List PyData) (s : σ) (acc : List OD), (∀ d s, d ∈ ds → lcStep own tv c ev d (E s) = some ((F d s).1, E (F d s).2)) → acc.length + ds.length ≤ sizeLine →
      ∃ s', lcF own tv c ev ds (E s) acc = some (acc ++ (ds.foldl (fun (p : List OD × σ) d => (p.1 ++ (F d p.2).1.toList, (F d p.2).2)) ([], s)).1, E s') ∧ s' = (ds.foldl (fun (p : List OD × σ) d => (p.1 ++ (F d p.2).1.toList, (F d p.2).2)) ([], s)).2 := by
  have sh : ∀ (ds : List PyData) (s : σ) (a : List OD), ds.foldl (fun (p : List OD × σ) d => (p.1 ++ (F d p.2).1.toList, (F d p.2).2)) (a, s) = (a ++ (ds.foldl (fun (p : List OD × σ) d => (p.1 ++ (F d p.2).1.toList, (F d p.2).2)) ([], s)).1, (ds.foldl (fun (p : List OD × σ) d => (p.1 ++ (F d p.2).1.toList, (F d p.2).2)) ([], s)).2) := by
    intro ds
    induction ds with
    | nil => intro s a; simp
    | cons d ds ih => intro s a; simp only [List.foldl_cons, List.nil_append]; rw [ih, ih (F d s).2 (F d s).1.toList]; simp [List.append_assoc]
  intro ds
  induction ds with
  | nil => intro s acc _ _; exact ⟨s, by simp [b_lcNil], rfl⟩
  | cons d ds ih =>
    intro s acc h hn
    have h1 := h d s List.mem_cons_self
    rw [b_lcCons]
    unfold lcStep at h1
    cases e1 : tv d (E s) with
    | none => rw [e1] at h1; cases h1
    | some os1 =>
      rw [e1] at h1
      simp only [Option.bind_some] at h1 ⊢
      cases e2 : c os1 with
      | none => rw [e2] at h1; cases h1
      | some q =>
        obtain ⟨b, os2⟩ := q
        rw [e2] at h1
        simp only [Option.bind_some] at h1 ⊢
        simp only [List.length_cons] at hn
        cases b with
        | false =>
          simp only [cond_false, Option.some.injEq, Prod.mk.injEq] at h1 ⊢
          obtain ⟨s', i1, i2⟩ := ih (F d s).2 acc (fun d s m => h d s (List.mem_cons_of_mem _ m)) (by omega)
          refine ⟨s', ?_, ?_⟩
          · rw [h1.2, i1]
            simp only [List.foldl_cons, List.nil_append]
            rw [sh ds _ (F d s).1.toList, ← h1.1]
            simp
          · rw [i2]
            simp only [List.foldl_cons, List.nil_append]
            rw [sh ds _ (F d s).1.toList]
        | true =>
          simp only [cond_true] at h1 ⊢
          cases e3 : ev os2 with
          | none => rw [e3] at h1; cases h1
          | some p =>
            rw [e3] at h1
            simp only [Option.bind_some] at h1 ⊢
            cases e4 : cv (hard p.2 p.1) p.1 with
            | none => rw [e4] at h1; cases h1
            | some o =>
              rw [e4] at h1
              simp only [Option.bind_some, Option.some.injEq, Prod.mk.injEq] at h1 ⊢
              have hb : Nat.blt acc.length sizeLine = true := Nat.ble_eq_true_of_le (by omega)
              rw [hb, cond_true]
              obtain ⟨s', i1, i2⟩ := ih (F d s).2 (acc ++ [o]) (fun d s m => h d s (List.mem_cons_of_mem _ m)) (by simp; omega)
              refine ⟨s', ?_, ?_⟩
              · rw [h1.2, i1]
                simp only [List.foldl_cons, List.nil_append]
                rw [sh ds _ (F d s).1.toList, ← h1.1]
                simp [List.append_assoc]
              · rw [i2]
                simp only [List.foldl_cons, List.nil_append]
                rw [sh ds _ (F d s).1.toList]
/-- a comprehension that leaves the slots as they are -/
theorem lc_all {own : List Nat} {tv : EvG} {c : EvT} {ev : EvE} {os : En} (f : PyData → Option OD) (ds : List PyData) (acc : List OD) (h : ∀ d, d ∈ ds → lcStep own tv c ev d os = some (f d, os)) (hn : acc.length + ds.length ≤ sizeLine) :
    lcF own tv c ev ds os acc = some (acc ++ ds.filterMap f, os) := by
  obtain ⟨s', h1, h2⟩ := lc_fold (own := own) (tv := tv) (c := c) (ev := ev) (σ := Unit) (fun _ => os) (fun d _ => (f d, ())) ds () acc (fun d _ m => h d m) hn
  rw [h1]
  congr 3
  clear h h1 h2 hn
  have : ∀ (ds : List PyData) (a : List OD), (ds.foldl (fun (p : List OD × Unit) d => (p.1 ++ (f d).toList, ())) (a, ())).1 = a ++ ds.filterMap f := by
    intro ds
    induction ds with
    | nil => intro a; simp
    | cons d ds ih =>
      intro a
      rw [List.foldl_cons, ih, List.filterMap_cons]
      cases f d <;> simp
  exact (this ds []).trans (List.nil_append _)

theorem lc_map {own : List Nat} {tv : EvG} {c : EvT} {ev : EvE} {os : En} {α : Type} (g : α → PyData) (f : α → Option OD) (xs : List α) (acc : List OD) (h : ∀ x, x ∈ xs → lcStep own tv c ev (g x) os = some (f x, os)) (hn : acc.length + xs.length ≤ sizeLine) :
    lcF own tv c ev (xs.map g) os acc = some (acc ++ xs.filterMap f, os) := by
  induction xs generalizing acc with
  | nil => simp [b_lcNil]
  | cons x xs ih =>
    have h1 := h x List.mem_cons_self
    have h2 : ∀ a : List OD, a.length + xs.length ≤ sizeLine → lcF own tv c ev (xs.map g) os a = some (a ++ xs.filterMap f, os) := fun a ha => ih a (fun y m => h y (List.mem_cons_of_mem _ m)) ha
    rw [List.map_cons, b_lcCons]
    simp only [List.length_cons] at hn
    unfold lcStep at h1
    cases e1 : tv (g x) os with
    | none => rw [e1] at h1; cases h1
    | some os1 =>
      rw [e1] at h1
      simp only [Option.bind_some] at h1 ⊢
      cases e2 : c os1 with
      | none => rw [e2] at h1; cases h1
      | some q =>
        obtain ⟨b, os2⟩ := q
        rw [e2] at h1
        simp only [Option.bind_some] at h1 ⊢
        cases b with
        | false =>
          simp only [cond_false, Option.some.injEq, Prod.mk.injEq] at h1 ⊢
          rw [h1.2, h2 acc (by omega), List.filterMap_cons, ← h1.1]
        | true =>
          simp only [cond_true] at h1 ⊢
          cases e3 : ev os2 with
          | none => rw [e3] at h1; cases h1
          | some p =>
            rw [e3] at h1
            simp only [Option.bind_some] at h1 ⊢
            cases e4 : cv (hard p.2 p.1) p.1 with
            | none => rw [e4] at h1; cases h1
            | some o =>
              rw [e4] at h1
              simp only [Option.bind_some, Option.some.injEq, Prod.mk.injEq] at h1 ⊢
              have hb : Nat.blt acc.length sizeLine = true := Nat.ble_eq_true_of_le (by omega)
              rw [hb, cond_true, h1.2, h2 _ (by simp; omega), List.filterMap_cons, ← h1.1]
              simp [List.append_assoc]
theorem fm_some {α β : Type} (f : α → β) : ∀ xs : List α, xs.filterMap (fun x => some (f x)) = xs.map f
  | [] => rfl
  | x :: xs => by rw [List.filterMap_cons, fm_some f xs]; rfl
theorem lc_mapS {own : List Nat} {tv : EvG} {c : EvT} {ev : EvE} {os : En} {α : Type} (g : α → PyData) (f : α → OD) (xs : List α) (h : ∀ x, x ∈ xs → lcStep own tv c ev (g x) os = some (some (f x), os)) (hn : xs.length ≤ sizeLine) :
    lcF own tv c ev (xs.map g) os [] = some (xs.map f, os) := by
  rw [lc_map g (fun x => some (f x)) xs [] h (by simpa using hn), fm_some]; rfl
theorem hm_of {ev : Nat → EvS} {os : En} {r : OD} (n : Nat) (h : (ev n os).bind retOf = some r) : ∃ n res, ev n os = some res ∧ retOf res = some r := by
  cases e : ev n os with
  | none => rw [e] at h; cases h
  | some res => rw [e] at h; exact ⟨n, res, e, h⟩
theorem hp_of {ev : Nat → EvS} {os : En} {r : OD × OD} (n : Nat) (h : (ev n os).bind retP = some r) : ∃ n res, ev n os = some res ∧ retP res = some r := by
  cases e : ev n os with
  | none => rw [e] at h; cases h
  | some res => rw [e] at h; exact ⟨n, res, e, h⟩

/-! ### for -/
def forStep (tv : EvG) (b : EvS) (d : PyData) (os : En) : Option Res := (tv d os).bind b
/-- I tells the slots by what is still to come; P tells the end -/
theorem for_inv {tv : EvG} {b : EvS} (I : List PyData → En → Prop) (P : Res → Prop) (h0 : ∀ os, I [] os → P (.nx os))
    (h : ∀ d ds os, I (d :: ds) os → ∃ r, forStep tv b d os = some r ∧ match r with
      | .nx os' => I ds os'
      | .ct os' => I ds os'
      | .bk os' => P (.nx os')
      | .rt o os' => P (.rt o os')) : ∀ ds os, I ds os → ∃ r, forF tv b ds os = some r ∧ P r
  | [], os, i => ⟨_, rfl, h0 os i⟩
  | d :: ds, os, i => by
    obtain ⟨r, h1, h2⟩ := h d ds os i
    unfold forStep at h1
    show ∃ r, (match tv d os with | some os1 => _ | none => none) = some r ∧ P r
    cases e1 : tv d os with
    | none => rw [e1] at h1; cases h1
    | some os1 =>
      rw [e1] at h1
      simp only [Option.bind_some] at h1
      dsimp only
      rw [h1]
      cases r with
      | nx os2 => exact for_inv I P h0 h ds os2 h2
      | ct os2 => exact for_inv I P h0 h ds os2 h2
      | bk os2 => exact ⟨_, rfl, h2⟩
      | rt o os2 => exact ⟨_, rfl, h2⟩

/-! ### while -/
/-- I n: at most n turns are still to come -/
theorem wh_inv {t : EvT} {b : EvS} (I : Nat → En → Prop) (P : Res → Prop)
    (h : ∀ n os, I n os → ∃ c os1, t os = some (c, os1) ∧ (c = false → P (.nx os1)) ∧ (c = true → ∃ r, b os1 = some r ∧ match r with
      | .nx os' => ∃ m, m < n ∧ I m os'
      | .ct os' => ∃ m, m < n ∧ I m os'
      | .bk os' => P (.nx os')
      | .rt o os' => P (.rt o os'))) : ∀ k n os, n < k → I n os → ∃ r, whF t b k os = some r ∧ P r
  | 0, _, _, hk, _ => absurd hk (Nat.not_lt_zero _)
  | k + 1, n, os, hk, i => by
    obtain ⟨c, os1, h1, h2, h3⟩ := h n os i
    show ∃ r, (match t os with | some (true, os1) => _ | some (false, os1) => some (Res.nx os1) | none => none) = some r ∧ P r
    rw [h1]
    cases c with
    | false => exact ⟨_, rfl, h2 rfl⟩
    | true =>
      obtain ⟨r, q1, q2⟩ := h3 rfl
      dsimp only
      rw [q1]
      cases r with
      | nx os2 => obtain ⟨m, hm, i2⟩ := q2; exact wh_inv I P h k m os2 (by omega) i2
      | ct os2 => obtain ⟨m, hm, i2⟩ := q2; exact wh_inv I P h k m os2 (by omega) i2
      | bk os2 => exact ⟨_, rfl, q2⟩
      | rt o os2 => exact ⟨_, rfl, q2⟩
theorem wh_eq {t : EvT} {b : EvS} {k : Nat} {os : En} {res : Res} (I : Nat → En → Prop) (n : Nat) (hk : n < k) (hi : I n os)
    (h : ∀ n os, I n os → ∃ c os1, t os = some (c, os1) ∧ (c = false → Res.nx os1 = res) ∧ (c = true → ∃ r, b os1 = some r ∧ match r with
      | .nx os' => ∃ m, m < n ∧ I m os'
      | .ct os' => ∃ m, m < n ∧ I m os'
      | .bk os' => Res.nx os' = res
      | .rt o os' => Res.rt o os' = res)) : whF t b k os = some res := by
  obtain ⟨r, h1, h2⟩ := wh_inv I (fun r => r = res) h k n os hk hi
  rw [h1, h2]
theorem for_eq {tv : EvG} {b : EvS} {ds : List PyData} {os : En} {res : Res} (I : List PyData → En → Prop) (hi : I ds os) (h0 : ∀ os, I [] os → Res.nx os = res)
    (h : ∀ d ds os, I (d :: ds) os → ∃ r, forStep tv b d os = some r ∧ match r with
      | .nx os' => I ds os'
      | .ct os' => I ds os'
      | .bk os' => Res.nx os' = res
      | .rt o os' => Res.rt o os' = res) : forF tv b ds os = some res := by
  obtain ⟨r, h1, h2⟩ := for_inv I (fun r => r = res) h0 h ds os hi
  rw [h1, h2]
theorem wh_bind {α β : Type} {t : EvT} {b : EvS} {k : Nat} {os : En} {f : Res → Option α} {g : α → Option β} {X : Option β} (I : Nat → En → Prop) (P : En → Prop) (n : Nat) (hk : n < k) (hi : I n os)
    (h : ∀ n os, I n os → ∃ c os1, t os = some (c, os1) ∧ (c = false → P os1) ∧ (c = true → ∃ os', b os1 = some (.nx os') ∧ ∃ m, m < n ∧ I m os'))
    (hf : ∀ os', P os' → (f (.nx os')).bind g = X) : ((whF t b k os).bind f).bind g = X := by
  obtain ⟨r, h1, h2⟩ := wh_inv I (fun r => ∃ os', r = .nx os' ∧ P os') (fun n os i => by
    obtain ⟨c, os1, q1, q2, q3⟩ := h n os i
    refine ⟨c, os1, q1, fun z => ⟨_, rfl, q2 z⟩, fun z => ?_⟩
    obtain ⟨os', z1, z2⟩ := q3 z
    exact ⟨_, z1, z2⟩) k n os hk hi
  obtain ⟨os', rfl, h3⟩ := h2
  rw [h1]
  exact hf os' h3
theorem for_bind {α β : Type} {tv : EvG} {b : EvS} {ds : List PyData} {os : En} {f : Res → Option α} {g : α → Option β} {X : Option β} (I : List PyData → En → Prop) (hi : I ds os)
    (h : ∀ d ds os, I (d :: ds) os → ∃ os', forStep tv b d os = some (.nx os') ∧ I ds os')
    (hf : ∀ os', I [] os' → (f (.nx os')).bind g = X) : ((forF tv b ds os).bind f).bind g = X := by
  obtain ⟨r, h1, h2⟩ := for_inv I (fun r => ∃ os', r = .nx os' ∧ I [] os') (fun os i => ⟨os, rfl, i⟩) (fun d ds os i => by
    obtain ⟨os', q1, q2⟩ := h d ds os i
    exact ⟨_, q1, q2⟩) ds os hi
  obtain ⟨os', rfl, h3⟩ := h2
  rw [h1]
  exact hf os' h3
end DX
/-! DXSimp3: more worths as chains of bind. -/
namespace DX
open PySem PySem.Spec PyProof.Rows L2
section
variable {os : En} {R : List Nat} {i j l n : Nat} {a b : Int} {x y z : Str} {c : Bool} {ds es : List PyData} {xs : List OD} {d : PyData} {o : OD}
theorem b_ifD {α : Type} {p : Prop} [h : Decidable p] {a b : α} : (if p then a else b) = cond (decide p) a b := by
  by_cases q : p <;> simp [q]
def al? : RV → Option Nat
  | .al j => some j
  | _ => none
theorem k_alA : al? (.al j) = some j := rfl
def hd? {α : Type} : List α → Option (α × List α)
  | a :: r => some (a, r)
  | [] => none
theorem k_hd {α : Type} {a : α} {r : List α} : hd? (a :: r) = some (a, r) := rfl
theorem k_jn : (some (some o) : Option (Option OD)).bind lst? = lst? (some o) := rfl
theorem b_fnP {m : OD → List OD → Option (OD × OD)} {idx : List Nat} {ev : EvEs} : eFnP m n idx ev os = (ev os).bind fun p => (hd? p.1).bind fun q => (al? q.1).bind fun j => (rdAll p.2 q.2).bind fun ds => (((hardAll p.2 q.2)[j]?).bind lst?).bind fun xs =>
    cond (Nat.beq (q.2.length + 1) n && Nat.beq ((pk idx ds).length + 1) n) ((m (.lst xs) ((pk idx ds).map OD.sh)).bind fun t => some (.tm t.1, (hardAll p.2 q.2).set j (some t.2))) none := by
  unfold eFnP
  cases ev os with
  | none => rfl
  | some p =>
    obtain ⟨rs, os1⟩ := p
    cases rs with
    | nil => rfl
    | cons r rs =>
      cases r with
      | tm o => rfl
      | al j =>
        simp only [Option.bind_some, hd?, al?]
        cases rdAll os1 rs with
        | none => rfl
        | some ds =>
          simp only [Option.bind_some]
          cases (hardAll os1 rs)[j]? with
          | none => rfl
          | some s =>
            cases s with
            | none => rfl
            | some o =>
              cases o with
              | sh _ => rfl
              | tpl _ => rfl
              | lst xs =>
                simp only [Option.bind_some, lst?]
                by_cases h : rs.length + 1 = n ∧ (pk idx ds).length + 1 = n
                · rw [if_pos h, h.1, h.2, show Nat.beq n n = true from Nat.beq_refl n]
                  simp only [Bool.and_self, cond_true]
                  cases m (.lst xs) ((pk idx ds).map OD.sh) with
                  | none => rfl
                  | some t => rfl
                · rw [if_neg h]
                  have : (Nat.beq (rs.length + 1) n && Nat.beq ((pk idx ds).length + 1) n) = false := by
                    rw [Bool.eq_false_iff]
                    intro z
                    obtain ⟨z1, z2⟩ := Bool.and_eq_true_iff.mp z
                    exact h ⟨Nat.eq_of_beq_eq_true z1, Nat.eq_of_beq_eq_true z2⟩
                  rw [this]; rfl
theorem b_cvsNil : cvs os [] = some [] := rfl
theorem b_cvsCons {r : RV} {rs : List RV} : cvs os (r :: rs) = (cv os r).bind fun o => (cvs os rs).bind fun ods => some (o :: ods) := by
  show (match cv os r, cvs os rs with | some o, some ods => some (o :: ods) | _, _ => none) = _
  cases cv os r <;> cases cvs os rs <;> rfl
def two? {α : Type} : List α → Option (α × α)
  | [a, b] => some (a, b)
  | _ => none
def three? {α : Type} : List α → Option (α × α × α)
  | [a, b, c] => some (a, b, c)
  | _ => none
theorem k_two {α : Type} {a b : α} : two? [a, b] = some (a, b) := rfl
theorem k_three {α : Type} {a b c : α} : three? [a, b, c] = some (a, b, c) := rfl
theorem b_sPar {ev : EvEs} : sPar R i j ev os = (ev os).bind fun p => (cvs (hardAll p.2 p.1) p.1).bind fun l => (two? l).bind fun t => cond (inR R i p.2.length || inR R j p.2.length) none (some (.nx (((hardAll p.2 p.1).set i (some t.1)).set j (some t.2)))) := by
  unfold sPar
  cases ev os with
  | none => rfl
  | some p =>
    obtain ⟨rs, os1⟩ := p
    simp only [Option.bind_some]
    cases cvs (hardAll os1 rs) rs with
    | none => rfl
    | some ods =>
      match ods with
      | [] => rfl
      | [_] => rfl
      | _ :: _ :: _ :: _ => rfl
      | [o1, o2] =>
        simp only [Option.bind_some, two?]
        by_cases h : i ∈ R ∨ j ∈ R ∨ os1.length ≤ i ∨ os1.length ≤ j
        · rw [if_pos h]
          have : (inR R i os1.length || inR R j os1.length) = true := by
            rw [Bool.or_eq_true, ← inR_iff, ← inR_iff]
            rcases h with h | h | h | h
            · exact .inl (.inl h)
            · exact .inr (.inl h)
            · exact .inl (.inr h)
            · exact .inr (.inr h)
          rw [this]; rfl
        · rw [if_neg h]
          have : (inR R i os1.length || inR R j os1.length) = false := by
            rw [Bool.eq_false_iff]
            intro z
            rw [Bool.or_eq_true, ← inR_iff, ← inR_iff] at z
            rcases z with (z | z) | (z | z)
            · exact h (.inl z)
            · exact h (.inr (.inr (.inl z)))
            · exact h (.inr (.inl z))
            · exact h (.inr (.inr (.inr z)))
          rw [this]; rfl
theorem b_sPar3 {ev : EvEs} : sPar3 R i j l ev os = (ev os).bind fun p => (cvs (hardAll p.2 p.1) p.1).bind fun q => (three? q).bind fun t => cond (inR R i p.2.length || inR R j p.2.length || inR R l p.2.length) none (some (.nx ((((hardAll p.2 p.1).set i (some t.1)).set j (some t.2.1)).set l (some t.2.2)))) := by
  unfold sPar3
  cases ev os with
  | none => rfl
  | some p =>
    obtain ⟨rs, os1⟩ := p
    simp only [Option.bind_some]
    cases cvs (hardAll os1 rs) rs with
    | none => rfl
    | some ods =>
      match ods with
      | [] => rfl
      | [_] => rfl
      | [_, _] => rfl
      | _ :: _ :: _ :: _ :: _ => rfl
      | [o1, o2, o3] =>
        simp only [Option.bind_some, three?]
        by_cases h : i ∈ R ∨ j ∈ R ∨ l ∈ R ∨ os1.length ≤ i ∨ os1.length ≤ j ∨ os1.length ≤ l
        · rw [if_pos h]
          have : (inR R i os1.length || inR R j os1.length || inR R l os1.length) = true := by
            rw [Bool.or_eq_true, Bool.or_eq_true, ← inR_iff, ← inR_iff, ← inR_iff]
            rcases h with h | h | h | h | h | h
            · exact .inl (.inl (.inl h))
            · exact .inl (.inr (.inl h))
            · exact .inr (.inl h)
            · exact .inl (.inl (.inr h))
            · exact .inl (.inr (.inr h))
            · exact .inr (.inr h)
          rw [this]; rfl
        · rw [if_neg h]
          have : (inR R i os1.length || inR R j os1.length || inR R l os1.length) = false := by
            rw [Bool.eq_false_iff]
            intro z
            rw [Bool.or_eq_true, Bool.or_eq_true, ← inR_iff, ← inR_iff, ← inR_iff] at z
            rcases z with ((z | z) | (z | z)) | (z | z)
            · exact h (.inl z)
            · exact h (.inr (.inr (.inr (.inl z))))
            · exact h (.inr (.inl z))
            · exact h (.inr (.inr (.inr (.inr (.inl z)))))
            · exact h (.inr (.inr (.inl z)))
            · exact h (.inr (.inr (.inr (.inr (.inr z)))))
          rw [this]; rfl
def list? : PyData → Option (List PyData)
  | .list ds => some ds
  | _ => none
theorem b_iEnA {ev : EvE} : iEnA (esCons ev esNil) os = (ev os).bind fun p => (p.1.rd p.2).bind fun d => (((list? d).or ((str? d).map signs))).bind fun ds => some (enumD 0 ds, hard p.2 p.1) := by
  unfold iEnA iEn iEnS
  rw [b_esCons]
  cases ev os with
  | none => rfl
  | some p =>
    obtain ⟨r, os1⟩ := p
    simp only [Option.bind_some, b_esNil, b_rdCons, b_rdNil]
    cases r.rd os1 with
    | none => rfl
    | some d => cases d <;> rfl
theorem k_list : list? (.list ds) = some ds := rfl
theorem b_sAppIx {ek ev : EvE} : sAppIx i ek ev os = ((os[i]?).bind lst?).bind fun _ => (ek os).bind fun p => (p.1.rd p.2).bind fun k => (int? k).bind fun k => ((p.2[i]?).bind lst?).bind fun xs => (ixN xs.length k).bind fun j => (lst? xs[j]?).bind fun ys =>
    (ev (p.2.set i none)).bind fun q => q.1.od.bind fun o => cond ((q.2[i]?).any Option.isNone && Nat.blt ys.length sizeLine) (some (.nx (q.2.set i (some (.lst (xs.set j (.lst (ys ++ [o])))))))) none := by
  unfold sAppIx
  cases h0 : os[i]? with
  | none => rfl
  | some s =>
    cases s with
    | none => rfl
    | some o =>
      cases o with
      | sh _ => rfl
      | tpl _ => rfl
      | lst ys =>
        simp only [Option.bind_some, lst?]
        cases ek os with
        | none => rfl
        | some p =>
          obtain ⟨rk, os1⟩ := p
          simp only [Option.bind_some]
          cases rk.rd os1 with
          | none => rfl
          | some k =>
            cases k with
            | int k =>
              simp only [Option.bind_some, int?]
              cases os1[i]? with
              | none => rfl
              | some s =>
                cases s with
                | none => rfl
                | some o =>
                  cases o with
                  | sh _ => rfl
                  | tpl _ => rfl
                  | lst xs =>
                    simp only [Option.bind_some, lst?]
                    cases ixN xs.length k with
                    | none => rfl
                    | some j =>
                      simp only [Option.bind_some]
                      cases xs[j]? with
                      | none => rfl
                      | some o =>
                        cases o with
                        | sh _ => rfl
                        | tpl _ => rfl
                        | lst ys =>
                          simp only [Option.bind_some]
                          cases ev (os1.set i none) with
                          | none => rfl
                          | some q =>
                            obtain ⟨r, os2⟩ := q
                            cases r with
                            | al _ => rfl
                            | tm o =>
                              simp only [Option.bind_some, RV.od]
                              cases os2[i]? with
                              | none => rfl
                              | some s =>
                                cases s with
                                | some _ => rfl
                                | none =>
                                  simp only [Option.any, Option.isNone, Bool.true_and]
                                  by_cases h : ys.length < sizeLine
                                  · rw [if_pos h, show Nat.blt ys.length sizeLine = true from Nat.ble_eq_true_of_le h]; rfl
                                  · rw [if_neg h, show Nat.blt ys.length sizeLine = false from Bool.eq_false_iff.mpr fun z => h (Nat.le_of_ble_eq_true z)]; rfl
            | _ => rfl
theorem k_odT : (RV.tm o).od = some o := rfl
def sh? : OD → Option PyData
  | .sh d => some d
  | _ => none
theorem k_sh : sh? (.sh d) = some d := rfl
theorem b_sAugI {ev : EvE} : sAug R i (opII (fun _ _ => true) fun i j => .int (i + j)) ev os = (os[i]?).bind fun s => s.bind fun o => (sh? o).bind fun d0 => (int? d0).bind fun a => cond (R.any (Nat.beq i)) none ((ev os).bind fun p => (p.1.rd p.2).bind fun d => (int? d).bind fun b => some (.nx (p.2.set i (some (.sh (.int (a + b))))))) := by
  unfold sAug
  cases h0 : os[i]? with
  | none => rfl
  | some s =>
    cases s with
    | none => rfl
    | some o =>
      cases o with
      | lst _ => rfl
      | tpl _ => rfl
      | sh d0 =>
        simp only [Option.bind_some, sh?]
        have hR : (R.any (Nat.beq i) = true) ↔ i ∈ R := by
          rw [List.any_eq_true]
          constructor
          · rintro ⟨x, h1, h2⟩
            have := Nat.eq_of_beq_eq_true h2; subst this; exact h1
          · exact fun h => ⟨i, h, Nat.beq_refl i⟩
        by_cases q : i ∈ R
        · rw [hR.mpr q, if_neg (fun z => z.2 q)]
          cases d0 <;> rfl
        · rw [Bool.eq_false_iff.mpr fun z => q (hR.mp z)]
          cases d0 with
          | int a =>
            rw [if_pos ⟨rfl, q⟩]
            simp only [int?, Option.bind_some, cond_false]
            cases ev os with
            | none => rfl
            | some p =>
              simp only [Option.bind_some]
              cases p.1.rd p.2 with
              | none => rfl
              | some d => cases d <;> rfl
          | none | bool _ | str _ =>
            rw [if_pos ⟨rfl, q⟩]
            simp only [int?, Option.bind_none]
            cases ev os with
            | none => rfl
            | some p =>
              dsimp only
              cases p.1.rd p.2 with
              | none => rfl
              | some d => cases d <;> rfl
          | list _ | tuple _ | dict _ =>
            rw [if_neg (fun z => nomatch z.1)]
            rfl
theorem o_mul : opMul [.int a, .int b] = cond (mulFits a b) (some (.val (.int (a * b)))) none := by
  show (if mulFits a b = true then _ else _) = _
  cases mulFits a b <;> rfl
theorem o_div : opDiv [.int a, .int b] = cond (divFits a b) (some (.val (.int (divV a b)))) none := by
  show (if divFits a b = true then _ else _) = _
  cases divFits a b <;> rfl
theorem o_mod : opMod [.int a, .int b] = cond (decide (0 < b)) (some (.val (.int (a % b)))) none := by
  show (if decide (0 < b) = true then _ else _) = _
  cases decide (0 < b) <;> rfl
theorem o_pow : opPow [.int a, .int b] = cond (powFits a b) (some (.val (.int (a ^ b.toNat)))) none := by
  show (if powFits a b = true then _ else _) = _
  cases powFits a b <;> rfl
theorem o_divmod : opDivmod [.int a, .int b] = cond (decide (0 < b ∧ b < 1073741824)) (some (.nt [.int (a / b), .int (a % b)])) none := by
  show (if 0 < b ∧ b < 1073741824 then _ else _) = _
  exact b_ifD
theorem o_split : opSplit [.str x, .str y] = cond (decide ((y.length == 0) = false ∧ (Txt.split x y).all (fun y => decide (y.length ≤ strMax)) = true)) (some (.nl ((Txt.split x y).map PyData.str))) none := by
  show (if (y.length == 0) = false ∧ (Txt.split x y).all (fun y => decide (y.length ≤ strMax)) = true then _ else _) = _
  exact b_ifD
theorem o_partition : opPartition [.str x, .str y] = cond (decide ((y.length == 0) = false ∧ (Txt.partition x y).1.length ≤ strMax ∧ (Txt.partition x y).2.1.length ≤ strMax ∧ (Txt.partition x y).2.2.length ≤ strMax)) (some (.nt [.str (Txt.partition x y).1, .str (Txt.partition x y).2.1, .str (Txt.partition x y).2.2])) none := by
  show (if (y.length == 0) = false ∧ (Txt.partition x y).1.length ≤ strMax ∧ (Txt.partition x y).2.1.length ≤ strMax ∧ (Txt.partition x y).2.2.length ≤ strMax then _ else _) = _
  exact b_ifD
theorem o_repr (h : (d.showable && !d.hasDict && decide (d.depth ≤ 64) && decide (d.shown.length ≤ strMax)) = true) : opRepr [d] = some (.val (.str d.shown)) := by
  show (if (d.showable && !d.hasDict && decide (d.depth ≤ 64) && decide (d.shown.length ≤ strMax)) = true then _ else _) = _
  rw [if_pos h]
theorem o_niT {ys : List Str} : opIn true [.str x, .tuple (ys.map PyData.str)] = some (.val (.bool (!ys.contains x))) := by
  show (match strs? (ys.map PyData.str) with | some xs => _ | none => none) = _
  rw [strs_map]; rfl
theorem o_inT {ys : List Str} : opIn false [.str x, .tuple (ys.map PyData.str)] = some (.val (.bool (ys.contains x))) := by
  show (match strs? (ys.map PyData.str) with | some xs => _ | none => none) = _
  rw [strs_map]; rfl
theorem o_inL (h1 : SeqAt.shaped d = true) (h2 : SeqAt.shaped (.list ds) = true) : opIn false [d, .list ds] = some (.val (.bool (ds.any fun z => PyData.eqv z d))) := by
  cases d <;> first | (cases h1; done) | (show (if (SeqAt.shaped _ && SeqAt.shaped (.list ds)) = true then _ else _) = _; rw [h1, h2]; rfl)
theorem o_niL (h1 : SeqAt.shaped d = true) (h2 : SeqAt.shaped (.list ds) = true) : opIn true [d, .list ds] = some (.val (.bool (!(ds.any fun z => PyData.eqv z d)))) := by
  cases d <;> first | (cases h1; done) | (show (if (SeqAt.shaped _ && SeqAt.shaped (.list ds)) = true then _ else _) = _; rw [h1, h2]; rfl)
theorem at_nat {α : Type} (xs : List α) (i : Nat) : atI xs (i : Int) = xs[i]? := by
  unfold atI ixN
  by_cases h : i < xs.length
  · rw [if_pos (by omega), if_pos (by omega)]; rfl
  · rw [if_pos (by omega), if_neg (by omega), List.getElem?_eq_none (by omega)]; rfl
theorem at_zero {α : Type} {c : α} {r : List α} : atI (c :: r) 0 = some c := at_nat (c :: r) 0
theorem at_0 {α : Type} {xs : List α} : atI xs 0 = xs[0]? := at_nat xs 0
theorem at_1 {α : Type} {xs : List α} : atI xs 1 = xs[1]? := at_nat xs 1
theorem at_2 {α : Type} {xs : List α} : atI xs 2 = xs[2]? := at_nat xs 2
theorem at_3 {α : Type} {xs : List α} : atI xs 3 = xs[3]? := at_nat xs 3
theorem at_4 {α : Type} {xs : List α} : atI xs 4 = xs[4]? := at_nat xs 4
theorem at_5 {α : Type} {xs : List α} : atI xs 5 = xs[5]? := at_nat xs 5
theorem ixN_nat {n i : Nat} (h : i < n) : ixN n (i : Int) = some i := by
  unfold ixN
  rw [if_pos (by omega), if_pos (by omega)]; rfl
def hardG : Option (Option OD) → En → Nat → En
  | some (some (.lst xs)), os, i => os.set i (some (.sh (OD.lst xs).er))
  | some (some (.tpl xs)), os, i => os.set i (some (.sh (OD.tpl xs).er))
  | _, os, _ => os
def softG : Option (Option OD) → En → Nat → En
  | some (some o), os, i => cond o.flat os (os.set i (some (.sh o.er)))
  | _, os, _ => os
def cvG : Option (Option OD) → Option OD
  | some (some (.sh d)) => some (.sh d)
  | _ => none
def giveG : Option (Option OD) → En → Nat → Option (OD × En)
  | some (some (.sh d)), os, _ => some (.sh d, os)
  | some (some (.lst xs)), os, i => some (.lst xs, os.set i none)
  | some (some (.tpl xs)), os, i => some (.tpl xs, os.set i none)
  | _, _, _ => none
theorem g_hard : hard os (.al i) = hardG os[i]? os i := by
  show (match os[i]? with | some (some (.lst xs)) => os.set i (some (.sh (OD.lst xs).er)) | some (some (.tpl xs)) => os.set i (some (.sh (OD.tpl xs).er)) | _ => os) = _
  cases os[i]? with
  | none => rfl
  | some s =>
    cases s with
    | none => rfl
    | some o => cases o <;> rfl
theorem g_soft : soft os (.al i) = softG os[i]? os i := by
  show (match os[i]? with | some (some o) => if o.flat then os else os.set i (some (.sh o.er)) | _ => os) = _
  cases os[i]? with
  | none => rfl
  | some s =>
    cases s with
    | none => rfl
    | some o =>
      show (if o.flat = true then os else _) = cond o.flat _ _
      cases o.flat <;> rfl
theorem g_cv : cv os (.al i) = cvG os[i]? := by
  show (match os[i]? with | some (some (.sh d)) => some (OD.sh d) | _ => none) = _
  cases os[i]? with
  | none => rfl
  | some s =>
    cases s with
    | none => rfl
    | some o => cases o <;> rfl
theorem g_give : give os (.al i) = giveG os[i]? os i := by
  show (match os[i]? with | some (some (.sh d)) => some (OD.sh d, os) | some (some (.lst xs)) => some (OD.lst xs, os.set i none) | some (some (.tpl xs)) => some (OD.tpl xs, os.set i none) | _ => none) = _
  cases os[i]? with
  | none => rfl
  | some s =>
    cases s with
    | none => rfl
    | some o => cases o <;> rfl
theorem g_hardS : hardG (some (some (.sh d))) os i = os := rfl
theorem g_hardL : hardG (some (some (.lst xs))) os i = os.set i (some (.sh (.list (xs.map OD.er)))) := by
  show os.set i (some (.sh (OD.lst xs).er)) = _
  rw [show (OD.lst xs).er = PyData.list (OD.ers xs) from rfl, ers_map]
theorem g_softS : softG (some (some (.sh d))) os i = os := rfl
theorem g_softL : softG (some (some (.lst xs))) os i = cond (xs.all OD.isSh) os (os.set i (some (.sh (.list (xs.map OD.er))))) := by
  show cond (xs.all OD.isSh) os (os.set i (some (.sh (OD.lst xs).er))) = _
  rw [show (OD.lst xs).er = PyData.list (OD.ers xs) from rfl, ers_map]
theorem g_hardTp : hardG (some (some (.tpl xs))) os i = os.set i (some (.sh (.tuple (xs.map OD.er)))) := by
  show os.set i (some (.sh (OD.tpl xs).er)) = _
  rw [show (OD.tpl xs).er = PyData.tuple (OD.ers xs) from rfl, ers_map]
theorem g_softTp : softG (some (some (.tpl xs))) os i = os.set i (some (.sh (.tuple (xs.map OD.er)))) := by
  show os.set i (some (.sh (OD.tpl xs).er)) = _
  rw [show (OD.tpl xs).er = PyData.tuple (OD.ers xs) from rfl, ers_map]
theorem g_giveTp : giveG (some (some (.tpl xs))) os i = some (.tpl xs, os.set i none) := rfl
theorem g_cvS : cvG (some (some (.sh d))) = some (.sh d) := rfl
theorem g_giveS : giveG (some (some (.sh d))) os i = some (.sh d, os) := rfl
theorem g_giveL : giveG (some (some (.lst xs))) os i = some (.lst xs, os.set i none) := rfl
theorem g_allSh {ds : List PyData} : (ds.map OD.sh).all OD.isSh = true := by
  rw [List.all_map]; exact List.all_eq_true.mpr fun _ _ => rfl
theorem g_erSh {ds : List PyData} : (ds.map OD.sh).map OD.er = ds := by
  rw [List.map_map]
  exact (List.map_congr_left fun _ _ => rfl).trans (List.map_id ds)
def memB (c : Nat) (l : List Nat) : Bool := decide (c ∈ l)
theorem o_in1S {c : Nat} : opIn false [.str (S [c]), .str y] = some (.val (.bool (memB c y.cps.toList))) := rfl
theorem o_ni1S {c : Nat} : opIn true [.str (S [c]), .str y] = some (.val (.bool (!memB c y.cps.toList))) := rfl
theorem o_ixSS {l : List Nat} : opIx [.str (S l), .int a] = (atI l a).bind fun c => some (.val (.str (S [c]))) := o_ixS
theorem o_allM {α : Type} {f : List Bool → Bool} {g : α → Bool} {ys : List α} : opAll f [.list ((ys.map fun x => OD.sh (.bool (g x))).map OD.er)] = some (.val (.bool (f (ys.map g)))) := by
  rw [List.map_map, show ys.map (OD.er ∘ fun x => OD.sh (.bool (g x))) = (ys.map g).map PyData.bool by rw [List.map_map]; rfl, o_all]
def escs : List PyData → EvEs
  | [] => esNil
  | d :: ds => esCons (eC d) (escs ds)
def tms (ds : List PyData) : List RV := ds.map fun d => .tm (.sh d)
theorem b_escs : ∀ {ds : List PyData}, escs ds os = some (tms ds, os)
  | [] => rfl
  | d :: ds => by
    show esCons (eC d) (escs ds) os = _
    rw [b_esCons, b_eC, Option.bind_some, b_escs]; rfl
theorem b_rdTms : ∀ {ds : List PyData}, rdAll os (tms ds) = some ds
  | [] => rfl
  | d :: ds => by
    show rdAll os (.tm (.sh d) :: tms ds) = _
    rw [b_rdCons, b_rdTms]; rfl
theorem b_hardTms : ∀ {ds : List PyData}, hardAll os (tms ds) = os
  | [] => rfl
  | d :: ds => by
    show hardAll (hard os (.tm (.sh d))) (tms ds) = _
    exact b_hardTms
theorem b_softTms : ∀ {ds : List PyData}, softAll os (tms ds) = os
  | [] => rfl
  | d :: ds => by
    show softAll (soft os (.tm (.sh d))) (tms ds) = _
    exact b_softTms
end
end DX
/-! DXText: split and partition at one sign; cuts. -/
namespace DX
open PySem PySem.Spec PyProof.Rows L2
def splitS (c : Nat) : List Nat → List (List Nat)
  | [] => [[]]
  | x :: r => if x = c then [] :: splitS c r else match splitS c r with
    | h :: t => (x :: h) :: t
    | [] => [[x]]
theorem splitS_ne (c : Nat) (l : List Nat) : splitS c l ≠ [] := by
  cases l with
  | nil => intro h; cases h
  | cons x r =>
    unfold splitS
    split
    · intro h; cases h
    · split <;> (intro h; cases h)
def befS (c : Nat) (l : List Nat) : List Nat := l.takeWhile fun x => x != c
theorem splitS_head (c : Nat) : ∀ l, (splitS c l).head? = some (befS c l)
  | [] => rfl
  | x :: r => by
    unfold splitS befS
    rw [List.takeWhile_cons]
    by_cases h : x = c
    · rw [if_pos h]; simp [h]
    · rw [if_neg h]
      have ih := splitS_head c r
      cases e : splitS c r with
      | nil => exact absurd e (splitS_ne c r)
      | cons a t =>
        rw [e] at ih
        have : a = befS c r := Option.some.inj ih
        subst this
        simp [h, befS]
theorem spl_S (c : Nat) : ∀ (l acc : List Nat), TL.spl [c] 0 acc l = match splitS c l with
    | h :: t => (acc ++ h) :: t
    | [] => []
  | [], acc => by simp [TL.spl, splitS]
  | x :: r, acc => by
    show (if TL.pre [c] (x :: r) = true then acc :: TL.spl [c] 0 [] r else TL.spl [c] 0 (acc ++ [x]) r) = _
    have hp : TL.pre [c] (x :: r) = decide (x = c) := by
      show ([x] == [c]) = _
      rw [Bool.eq_iff_iff]; simp
    rw [hp]
    unfold splitS
    by_cases h : x = c
    · rw [if_pos (decide_eq_true h), if_pos h, spl_S c r []]
      cases e : splitS c r with
      | nil => exact absurd e (splitS_ne c r)
      | cons a t => simp
    · rw [if_neg (by simpa using h), if_neg h, spl_S c r (acc ++ [x])]
      cases e : splitS c r with
      | nil => exact absurd e (splitS_ne c r)
      | cons a t => simp
theorem split_S (c : Nat) (hc : c < 256) (l : List Nat) : Txt.split (S l) (S [c]) = (splitS c l).map S := by
  refine TL.map_tl_inj ?_
  rw [TL.split_spl (S l) (S [c]) (by simp [TL.tl, S_l]) (TL.kind_ok (by show (#[c].all (· < 256)) = true; simp [hc]))]
  show TL.spl [c] 0 [] l = _
  rw [spl_S, List.map_map]
  have : ∀ ls : List (List Nat), ls.map (TL.tl ∘ S) = ls := fun ls => (List.map_congr_left fun _ _ => rfl).trans (List.map_id ls)
  rw [this]
  cases e : splitS c l with
  | nil => exact absurd e (splitS_ne c l)
  | cons a t => simp
theorem befS_mem {c : Nat} : ∀ {l : List Nat}, c ∉ befS c l
  | [] => by simp [befS]
  | x :: r => by
    unfold befS
    rw [List.takeWhile_cons]
    by_cases h : x = c
    · simp [h]
    · have := befS_mem (c := c) (l := r)
      unfold befS at this
      simp [h, this]
      exact fun q => h q.symm
theorem befS_all {c : Nat} : ∀ {l : List Nat}, c ∉ l → befS c l = l
  | [], _ => rfl
  | x :: r, h => by
    have ih := befS_all (c := c) (l := r) (fun q => h (List.mem_cons_of_mem _ q))
    have hx : (x != c) = true := by simp; intro q; exact h (by simp [q])
    unfold befS at ih ⊢
    rw [List.takeWhile_cons, hx, if_pos rfl, ih]
theorem part_S (c : Nat) (l : List Nat) : (Txt.partition (S l) (S [c])).1 = S (befS c l) ∧ (Txt.partition (S l) (S [c])).2.1.length ≤ 1 ∧ (Txt.partition (S l) (S [c])).2.2.length ≤ l.length := by
  by_cases h : c ∈ l
  · obtain ⟨t, ht⟩ : ∃ t, l = befS c l ++ c :: t := by
      have h1 := (List.takeWhile_append_dropWhile (p := fun x => x != c) (l := l)).symm
      cases e : l.dropWhile (fun x => x != c) with
      | nil =>
        rw [e, List.append_nil] at h1
        exact absurd (h1 ▸ h) befS_mem
      | cons y t =>
        have : (y != c) = false := by
          have := List.head?_dropWhile_not (fun x => x != c) l
          rw [e] at this
          simpa using this
        have : y = c := by simpa using this
        subst this
        exact ⟨t, by rw [e] at h1; exact h1⟩
    have e : S l = S (befS c l) ++ S [c] ++ S t := by
      rw [S_app, S_app, List.append_assoc]
      show S l = S (befS c l ++ c :: t)
      rw [← ht]
    have key := TL.partition_app (y := S [c]) (s := c) (S := []) rfl (a := S (befS c l)) (b := S t) befS_mem
    rw [← e] at key
    rw [key]
    refine ⟨rfl, Nat.le_refl 1, ?_⟩
    have hl : l.length = (befS c l ++ c :: t).length := by rw [← ht]
    simp only [List.length_append, List.length_cons] at hl
    show t.length ≤ l.length
    omega
  · have key := TL.partition_none (y := S [c]) (s := c) (S := []) rfl (a := S l) h
    rw [key]
    refine ⟨?_, Nat.zero_le 1, Nat.zero_le _⟩
    show S l = S (befS c l)
    rw [befS_all h]
theorem cut_nat (l : List Nat) {i j : Nat} (h : i ≤ j) : cutS (S l) (some (i : Int)) (some (j : Int)) = S ((l.drop i).take (j - i)) := by
  unfold cutS
  rw [HT.sIx_nat, HT.sIx_nat]
  show S ((l.drop (min i l.length)).take (min j l.length - min i l.length)) = _
  congr 1
  by_cases q : i ≤ l.length
  · rw [Nat.min_eq_left q]
    by_cases r : j ≤ l.length
    · rw [Nat.min_eq_left r]
    · rw [Nat.min_eq_right (by omega), List.take_of_length_le (by rw [List.length_drop]; omega), List.take_of_length_le (by rw [List.length_drop]; omega)]
  · rw [Nat.min_eq_right (by omega : l.length ≤ i), List.drop_of_length_le (Nat.le_refl _), List.drop_of_length_le (by omega)]
    simp
theorem cut_to (l : List Nat) (j : Nat) : cutS (S l) none (some (j : Int)) = S (l.take j) := by
  unfold cutS
  rw [HT.sIx_nat, HT.sIx_none]
  show S ((l.drop 0).take (min j l.length - 0)) = _
  rw [List.drop_zero, Nat.sub_zero]
  congr 1
  by_cases r : j ≤ l.length
  · rw [Nat.min_eq_left r]
  · rw [Nat.min_eq_right (by omega), List.take_of_length_le (Nat.le_refl _), List.take_of_length_le (by omega)]
theorem cut_from (l : List Nat) (i : Nat) : cutS (S l) (some (i : Int)) none = S (l.drop i) := by
  unfold cutS
  rw [HT.sIx_nat, HT.sIx_none]
  show S ((l.drop (min i l.length)).take (l.length - min i l.length)) = _
  congr 1
  by_cases r : i ≤ l.length
  · rw [Nat.min_eq_left r, List.take_of_length_le (by rw [List.length_drop]; exact Nat.le_refl _)]
  · rw [Nat.min_eq_right (by omega), List.drop_of_length_le (Nat.le_refl _), List.drop_of_length_le (by omega)]
    simp
theorem befS_len (c : Nat) : ∀ (l : List Nat), (befS c l).length ≤ l.length
  | [] => Nat.le_refl _
  | x :: r => by
    have ih := befS_len c r
    unfold befS at ih ⊢
    rw [List.takeWhile_cons]
    split
    · simp only [List.length_cons]; omega
    · exact Nat.zero_le _
theorem splitS_len (c : Nat) : ∀ l, (splitS c l).length ≤ l.length + 1
  | [] => Nat.le_refl _
  | x :: r => by
    have ih := splitS_len c r
    unfold splitS
    split
    · simp only [List.length_cons]; omega
    · split
      · rename_i h t e
        rw [e] at ih
        simp only [List.length_cons] at ih ⊢; omega
      · simp
theorem splitS_each (c : Nat) : ∀ (l p : List Nat), p ∈ splitS c l → p.length ≤ l.length
  | [], p, h => by
    simp [splitS] at h; subst h; exact Nat.le_refl _
  | x :: r, p, h => by
    have ih := splitS_each c r
    unfold splitS at h
    split at h
    · rcases List.mem_cons.mp h with q | q
      · subst q; exact Nat.zero_le _
      · have := ih p q; simp only [List.length_cons]; omega
    · split at h
      · rename_i a t e
        rcases List.mem_cons.mp h with q | q
        · subst q
          have := ih a (by rw [e]; exact List.mem_cons_self)
          simp only [List.length_cons]; omega
        · have := ih p (by rw [e]; exact List.mem_cons_of_mem _ q)
          simp only [List.length_cons]; omega
      · simp at h; subst h; simp
theorem S_beq (l m : List Nat) : (S l == S m) = decide (l = m) := by
  rw [Bool.eq_iff_iff, beq_iff_eq, decide_eq_true_eq]
  exact ⟨S_inj, fun h => by rw [h]⟩
theorem o_eqS {l m : List Nat} : opEq [.str (S l), .str (S m)] = some (.val (.bool (decide (l = m)))) := by
  rw [← S_beq]; rfl
theorem o_neS {l m : List Nat} : opNe [.str (S l), .str (S m)] = some (.val (.bool (!decide (l = m)))) := by
  rw [← S_beq]; rfl
theorem I_beq (a b : Int) : (a == b) = decide (a = b) := by
  rw [Bool.eq_iff_iff, beq_iff_eq, decide_eq_true_eq]
theorem o_eqI {a b : Int} : opEq [.int a, .int b] = some (.val (.bool (decide (a = b)))) := by
  rw [o_eq rfl rfl, ← I_beq]; rfl
theorem o_neI {a b : Int} : opNe [.int a, .int b] = some (.val (.bool (!decide (a = b)))) := by
  rw [o_ne rfl rfl, ← I_beq]; rfl
theorem z_ble0 : Nat.ble 0 sizeLine = true := by decide
theorem z_ble1 : Nat.ble 1 sizeLine = true := by decide
theorem z_ble2 : Nat.ble 2 sizeLine = true := by decide
theorem z_ble3 : Nat.ble 3 sizeLine = true := by decide
theorem z_ble4 : Nat.ble 4 sizeLine = true := by decide
theorem z_ble5 : Nat.ble 5 sizeLine = true := by decide
theorem z_ble6 : Nat.ble 6 sizeLine = true := by decide
theorem z_ble7 : Nat.ble 7 sizeLine = true := by decide
theorem z_ble8 : Nat.ble 8 sizeLine = true := by decide
theorem z_ble9 : Nat.ble 9 sizeLine = true := by decide
theorem z_ble10 : Nat.ble 10 sizeLine = true := by decide
theorem z_ble11 : Nat.ble 11 sizeLine = true := by decide
theorem z_ble12 : Nat.ble 12 sizeLine = true := by decide
theorem z_ble13 : Nat.ble 13 sizeLine = true := by decide
theorem z_ble14 : Nat.ble 14 sizeLine = true := by decide
theorem z_ble15 : Nat.ble 15 sizeLine = true := by decide
theorem z_ble16 : Nat.ble 16 sizeLine = true := by decide
theorem z_ble17 : Nat.ble 17 sizeLine = true := by decide
theorem z_ble18 : Nat.ble 18 sizeLine = true := by decide
theorem z_ble19 : Nat.ble 19 sizeLine = true := by decide
theorem z_ble20 : Nat.ble 20 sizeLine = true := by decide
theorem o_partS {c : Nat} {l : List Nat} (h : l.length ≤ strMax) : opPartition [.str (S l), .str (S [c])] = some (.nt [.str (S (befS c l)), .str (Txt.partition (S l) (S [c])).2.1, .str (Txt.partition (S l) (S [c])).2.2]) := by
  obtain ⟨p1, p2, p3⟩ := part_S c l
  have hb := befS_len c l
  have h1 : 1 ≤ strMax := by decide
  have e4 : decide (((S [c]).length == 0) = false ∧ (Txt.partition (S l) (S [c])).1.length ≤ strMax ∧ (Txt.partition (S l) (S [c])).2.1.length ≤ strMax ∧ (Txt.partition (S l) (S [c])).2.2.length ≤ strMax) = true :=
    decide_eq_true ⟨rfl, by rw [p1, S_len]; omega, by omega, by omega⟩
  rw [o_partition, e4, cond_true, p1]
theorem o_splitS {c : Nat} {l : List Nat} (hc : c < 256) (h : l.length ≤ strMax) : opSplit [.str (S l), .str (S [c])] = some (.nl ((splitS c l).map fun x => .str (S x))) := by
  have e : (splitS c l).map (PyData.str ∘ S) = (splitS c l).map fun x => .str (S x) := rfl
  have e4 : decide (((S [c]).length == 0) = false ∧ ((splitS c l).map S).all (fun y => decide (y.length ≤ strMax)) = true) = true := by
    refine decide_eq_true ⟨rfl, ?_⟩
    rw [List.all_map, List.all_eq_true]
    intro p hp
    have := splitS_each c l p hp
    exact decide_eq_true (by show p.length ≤ strMax; omega)
  rw [o_split, split_S c hc, e4, cond_true, List.map_map, e]
theorem layAll : ∀ ds : List PyData, PyData.canLayAll0 ds = ds.all PyData.canLay0
  | [] => rfl
  | d :: ds => by rw [List.all_cons, ← layAll ds]; rfl
theorem depthAll_le {n : Nat} : ∀ ds : List PyData, (∀ d ∈ ds, PyData.depth d ≤ n) → PyData.depthAll ds ≤ n
  | [], _ => Nat.zero_le _
  | d :: ds, h => by
    show max (PyData.depth d) (PyData.depthAll ds) ≤ n
    have h1 := h d List.mem_cons_self
    have h2 := depthAll_le ds fun e m => h e (List.mem_cons_of_mem _ m)
    omega
theorem shaped_list {ds : List PyData} (h : ∀ d ∈ ds, d.canLay0 = true ∧ d.depth ≤ 60) : SeqAt.shaped (.list ds) = true := by
  refine Bool.and_eq_true_iff.mpr ⟨?_, decide_eq_true ?_⟩
  · show PyData.canLayAll0 ds = true
    rw [layAll, List.all_eq_true]; exact fun d m => (h d m).1
  · show PyData.depthAll ds + 1 ≤ 64
    have := depthAll_le ds fun d m => (h d m).2
    omega
theorem shaped_tup {ds : List PyData} (h : ∀ d ∈ ds, d.canLay0 = true ∧ d.depth ≤ 60) : SeqAt.shaped (.tuple ds) = true := by
  refine Bool.and_eq_true_iff.mpr ⟨?_, decide_eq_true ?_⟩
  · show PyData.canLayAll0 ds = true
    rw [layAll, List.all_eq_true]; exact fun d m => (h d m).1
  · show PyData.depthAll ds + 1 ≤ 64
    have := depthAll_le ds fun d m => (h d m).2
    omega
def ascii (l : List Nat) : Bool := l.all fun c => Nat.blt c 128
theorem ascii_ok {l : List Nat} (h : ascii l = true) : PyData.canLay0 (.str (S l)) = true := by
  show PyData.strOk (S l) = true
  show ((l.toArray).all fun c => decide (c < 0x110000)) = true
  rw [List.all_toArray, List.all_eq_true]
  intro c m
  have : c < 128 := Nat.le_of_ble_eq_true (List.all_eq_true.mp h c m)
  exact decide_eq_true (by omega)
theorem ascii_mem {l : List Nat} (h : ascii l = true) {c : Nat} (m : c ∈ l) : c < 128 := Nat.le_of_ble_eq_true (List.all_eq_true.mp h c m)
theorem ascii_of {l : List Nat} (h : ∀ c ∈ l, c < 128) : ascii l = true := List.all_eq_true.mpr fun c m => Nat.ble_eq_true_of_le (h c m)
theorem ascii_app {l m : List Nat} (h1 : ascii l = true) (h2 : ascii m = true) : ascii (l ++ m) = true := by
  unfold ascii at *; rw [List.all_append, h1, h2]; rfl
theorem ascii_sub {l m : List Nat} (h1 : ascii l = true) (h2 : ∀ c ∈ m, c ∈ l) : ascii m = true := ascii_of fun c q => ascii_mem h1 (h2 c q)
theorem k_enS {l : List Nat} : ((list? (.str (S l))).or ((some (S l)).map signs)) = some (l.map sgD) := rfl
theorem k_enL {ds : List PyData} : ((list? (.list ds)).or ((str? (.list ds)).map signs)) = some ds := rfl
theorem atI_last {α : Type} {xs : List α} {a : α} (h : xs.getLast? = some a) : atI xs (-1) = some a := by
  have h0 : 0 < xs.length := by
    cases xs with
    | nil => cases h
    | cons _ _ => simp
  unfold atI ixN
  rw [if_neg (by omega), if_pos (by omega), Option.bind_some, show ((-1 : Int) + (xs.length : Nat)).toNat = xs.length - 1 by omega, ← List.getLast?_eq_getElem?]
  exact h
theorem ixN_last {n : Nat} (h : 0 < n) : ixN n (-1) = some (n - 1) := by
  unfold ixN
  rw [if_neg (by omega), if_pos (by omega), show ((-1 : Int) + (n : Nat)).toNat = n - 1 by omega]
theorem at_m1 {α : Type} {xs : List α} : atI xs (-1) = xs.getLast? := by
  cases h : xs.getLast? with
  | some a => exact atI_last h
  | none => rw [List.getLast?_eq_none_iff.mp h]; rfl
theorem ix_0 {n : Nat} : ixN n 0 = cond (Nat.blt 0 n) (some 0) none := by
  cases n with
  | zero => rfl
  | succ n => exact ixN_nat (i := 0) (Nat.succ_pos n)
theorem ix_1 {n : Nat} : ixN n 1 = cond (Nat.blt 1 n) (some 1) none := by
  by_cases h : 1 < n
  · rw [show Nat.blt 1 n = true from Nat.ble_eq_true_of_le h]; exact ixN_nat (i := 1) h
  · rw [show Nat.blt 1 n = false from Bool.eq_false_iff.mpr fun z => h (Nat.le_of_ble_eq_true z)]
    unfold ixN
    rw [if_pos (by decide), if_neg (by omega)]; rfl
theorem ix_m1 {n : Nat} : ixN n (-1) = cond (Nat.blt 0 n) (some (n - 1)) none := by
  cases n with
  | zero => rfl
  | succ n => exact ixN_last (Nat.succ_pos n)
theorem blt_00 : Nat.blt 0 0 = false := rfl
theorem blt_0s {n : Nat} : Nat.blt 0 (n + 1) = true := by show Nat.ble 1 (n + 1) = true; exact Nat.ble_eq_true_of_le (by omega)
theorem blt_12 : Nat.blt 1 2 = true := rfl
theorem blt_02 : Nat.blt 0 2 = true := rfl
theorem set_last {α : Type} {xs : List α} {a : α} (h : xs ≠ []) : xs.set (xs.length - 1) a = xs.dropLast ++ [a] := by
  conv => lhs; rw [← List.dropLast_concat_getLast h]
  rw [List.set_append_right _ _ (by simp)]
  simp
end DX
/-! DXRepr: data that repr shows within bounds. -/
namespace DX
open PySem PySem.Spec PyProof.Rows L2
mutual
def smB : PyData → Bool
  | .none | .bool _ => true
  | .int i => Nat.blt i.natAbs 1000000000000
  | .str x => PyData.strOk x
  | .list xs | .tuple xs => smAll xs
  | .dict _ => false
def smAll : List PyData → Bool
  | [] => true
  | x :: xs => smB x && smAll xs
end
theorem smAll_all : ∀ ds : List PyData, smAll ds = ds.all smB
  | [] => by rw [smAll]; rfl
  | d :: ds => by rw [List.all_cons, ← smAll_all ds, smAll]
mutual
theorem sm_lay : ∀ d : PyData, smB d = true → d.canLay0 = true
  | .none, _ => rfl
  | .bool _, _ => rfl
  | .int _, _ => rfl
  | .str x, h => by rw [smB] at h; rw [PyData.canLay0]; exact h
  | .list xs, h => by rw [smB] at h; rw [PyData.canLay0]; exact sm_layAll xs h
  | .tuple xs, h => by rw [smB] at h; rw [PyData.canLay0]; exact sm_layAll xs h
  | .dict _, h => by rw [smB] at h; cases h
theorem sm_layAll : ∀ ds : List PyData, smAll ds = true → PyData.canLayAll0 ds = true
  | [], _ => by rw [PyData.canLayAll0]
  | d :: ds, h => by
    rw [smAll, Bool.and_eq_true] at h
    rw [PyData.canLayAll0, sm_lay d h.1, sm_layAll ds h.2]; rfl
end
mutual
theorem sm_show : ∀ d : PyData, smB d = true → d.showable = true
  | .none, _ => rfl
  | .bool _, _ => rfl
  | .int i, h => by
    rw [smB] at h
    have h : i.natAbs < 1000000000000 := Nat.le_of_ble_eq_true h
    rw [PyData.showable]
    refine decide_eq_true ?_
    by_cases q : i.natAbs = 0
    · rw [q]; decide
    · have := (Nat.log2_lt q (k := 40)).mpr (by omega); omega
  | .str x, h => rfl
  | .list xs, h => by rw [smB] at h; rw [PyData.showable]; exact sm_showAll xs h
  | .tuple xs, h => by rw [smB] at h; rw [PyData.showable]; exact sm_showAll xs h
  | .dict _, h => by rw [smB] at h; cases h
theorem sm_showAll : ∀ ds : List PyData, smAll ds = true → PyData.showableAll ds = true
  | [], _ => by rw [PyData.showableAll]
  | d :: ds, h => by
    rw [smAll, Bool.and_eq_true] at h
    rw [PyData.showableAll, sm_show d h.1, sm_showAll ds h.2]; rfl
end
theorem short_int {i : Int} (h : i.natAbs < 1000000000000) : PyData.intsShort 13 (.int i) = true := by
  rw [PyData.intsShort]
  exact decide_eq_true (PyData.shown_int_le2 (by omega) (by omega))
mutual
theorem sm_short : ∀ d : PyData, smB d = true → d.intsShort 13 = true
  | .none, _ => rfl
  | .bool _, _ => rfl
  | .int i, h => short_int (by rw [smB] at h; exact Nat.le_of_ble_eq_true h)
  | .str x, h => rfl
  | .list xs, h => by rw [smB] at h; rw [PyData.intsShort]; exact sm_shortAll xs h
  | .tuple xs, h => by rw [smB] at h; rw [PyData.intsShort]; exact sm_shortAll xs h
  | .dict _, h => by rw [smB] at h; cases h
theorem sm_shortAll : ∀ ds : List PyData, smAll ds = true → PyData.intsShortAll 13 ds = true
  | [], _ => by rw [PyData.intsShortAll]
  | d :: ds, h => by
    rw [smAll, Bool.and_eq_true] at h
    rw [PyData.intsShortAll, sm_short d h.1, sm_shortAll ds h.2]; rfl
end
theorem o_reprS {d : PyData} (h : smB d = true) (hd : d.depth ≤ 64) (hw : d.weight ≤ 1048576) : opRepr [d] = some (.val (.str d.shown)) := by
  have hl := sm_lay d h
  refine o_repr ?_
  rw [sm_show d h, PyData.hasDict_of_canLay d hl, decide_eq_true hd]
  refine decide_eq_true (Nat.le_trans (shown_le13 ?_ (sm_short d h)) (by decide))
  show (PyData.canLay0 d && decide (PyData.depth d ≤ 64) && decide (PyData.weight d ≤ 2 ^ 20)) = true
  rw [hl, decide_eq_true hd, decide_eq_true (show PyData.weight d ≤ 2 ^ 20 by omega)]; rfl
theorem sm_list {ds : List PyData} (h : ∀ d ∈ ds, smB d = true) : smB (.list ds) = true := by
  rw [smB, smAll_all, List.all_eq_true]; exact h
theorem sm_tup {ds : List PyData} (h : ∀ d ∈ ds, smB d = true) : smB (.tuple ds) = true := by
  rw [smB, smAll_all, List.all_eq_true]; exact h
theorem sm_str {l : List Nat} (h : ascii l = true) : smB (.str (S l)) = true := by
  rw [smB]; exact ascii_ok h
theorem sm_int {i : Int} (h : i.natAbs < 1000000000000) : smB (.int i) = true := by
  rw [smB]; exact Nat.ble_eq_true_of_le h
theorem wt_int {i : Int} {k : Nat} (h : i.natAbs < 2 ^ k) : PyData.weight (.int i) ≤ k := by
  rw [PyData.weight]
  split
  · exact Nat.zero_le _
  · rename_i q
    have q : i.natAbs ≠ 0 := fun z => q (by rw [Int.natAbs_eq_zero.mp z]; rfl)
    have := (Nat.log2_lt q).mpr h
    omega
theorem wt_str (l : List Nat) : PyData.weight (.str (S l)) = l.length := rfl
end DX
/-! DXErr: defs that raise errors of their own classes; try. -/
namespace DX
open PySem PySem.Spec PyProof.Rows L2

/-- an error: its class's number, its own fields (the last stored first) -/
abbrev Er := Nat × List (Str × PyData)
/-- the dict of an error: none where it has no fields -/
def PayOk (K : PySem.W.Frag) (G : Hp) (x : Er) (d : Option Addr) : Prop := (x.2 = [] ∧ d = none) ∨ (x.2 ≠ [] ∧ ∃ (a : Addr) (vs : List (Str × V)), d = some a ∧ G a = some (.xd vs) ∧ vs.map Prod.fst = x.2.map Prod.fst ∧ DxAll K G (vs.map Prod.snd) (x.2.map Prod.snd))
def KontSX (K : PySem.W.Frag) (R : List Nat) (σ : L2.St) (G H : Hp) (f : FP) (os' : En) (x : Er) (d : Option Addr) (σ' : L2.St) (H' : Hp) : Prop :=
  ∃ G' f', SI K G' H' σ' os' f' ∧ Stp G H f G' H' f' ∧ σ'.length = os'.length ∧ (∀ i ∈ R, σ'[i]? = σ[i]?) ∧ PayOk K G' x d
theorem KontSX.step {K : PySem.W.Frag} {R : List Nat} {σ σ1 : L2.St} {G H G1 H1 : Hp} {f f1 : FP} {os' : En} {x : Er} {d : Option Addr} {σ' : L2.St} {H' : Hp} (k : KontSX K R σ1 G1 H1 f1 os' x d σ' H') (s : Stp G H f G1 H1 f1) (q : ∀ i ∈ R, σ1[i]? = σ[i]?) : KontSX K R σ G H f os' x d σ' H' := by
  obtain ⟨G', f', J, s', l, r, p⟩ := k
  exact ⟨G', f', J, s.trans s', l, fun i hi => (r i hi).trans (q i hi), p⟩
def KontTX (K : PySem.W.Frag) (σ : L2.St) (G H : Hp) (f : FP) (os' : En) (x : Er) (d : Option Addr) (H' : Hp) : Prop :=
  ∃ G' f', SI K G' H' σ os' f' ∧ Stp G H f G' H' f' ∧ σ.length = os'.length ∧ PayOk K G' x d
/-- where it raises: what, the slots -/
abbrev EvX := En → Option (Er × En)
def XSR (K : PySem.W.Frag) (C : Nat → Addr) (R : List Nat) (W : WX) (xv : EvX) (ts : TS) : Prop := ∀ (σ : L2.St) (G H : Hp) (os : En) (f : FP) (x : Er) (os' : En) (D : Ends),
  σ.length = os.length → SI K G H σ os f → xv os = some (x, os') → (∀ σ' H' d, KontSX K R σ G H f os' x d σ' H' → W (.ref (C x.1)) d σ' H') → ts D σ H
def XER (K : PySem.W.Frag) (C : Nat → Addr) (W : WX) (xv : EvX) (te : TE) : Prop := ∀ (σ : L2.St) (G H : Hp) (os : En) (f : FP) (x : Er) (os' : En) (Q : VK),
  σ.length = os.length → SI K G H σ os f → xv os = some (x, os') → (∀ H' d, KontTX K σ G H f os' x d H' → W (.ref (C x.1)) d σ H') → te σ H Q
def SEX (X : Cx) (C : Nat → Addr) (W : WX) (ev : EvE) (xv : EvX) (e : Expr) : Prop := ∃ te, PE X e te ∧ ER X.K ev te ∧ XER X.K C W xv te
def SXS (X : Cx) (C : Nat → Addr) (R : List Nat) (W : WX) (ev : EvS) (xv : EvX) (st : Stmt) : Prop := ∃ ts, PS X st ts ∧ SR X.K R ev ts ∧ XSR X.K C R W xv ts
def SXSs (X : Cx) (C : Nat → Addr) (R : List Nat) (W : WX) (ev : EvS) (xv : EvX) (st : List Stmt) : Prop := ∃ ts, PSs X st ts ∧ SR X.K R ev ts ∧ XSR X.K C R W xv ts
def xNo : EvX := fun _ => none
def xSeq (ea : EvS) (xa xb : EvX) : EvX := fun os => (xa os).or (match ea os with
  | some (.nx os1) => xb os1
  | _ => none)
def xIf (t : EvT) (xa xb : EvX) : EvX := fun os => match t os with
  | some (true, os1) => xa os1
  | some (false, os1) => xb os1
  | none => none
def xRaise (c : Nat) : EvX := fun os => some ((c, []), os)
section
variable {K : PySem.W.Frag} {X : Cx} {C : Nat → Addr} {R : List Nat} {W : WX}
theorem xsr_no {ts : TS} : XSR K C R W xNo ts := fun _ _ _ _ _ _ _ _ _ _ e => nomatch e
theorem sx_of {st : Stmt} {ev : EvS} (h : SS X R ev st) : SXS X C R W ev xNo st := by
  obtain ⟨t, p, q⟩ := h
  exact ⟨t, p, q, xsr_no⟩
theorem xsr_seq {a : EvS} {xa xb : EvX} {ta tb : TS} (ha : SR K R a ta) (hx : XSR K C R W xa ta) (hb : XSR K C R W xb tb) : XSR K C R W (xSeq a xa xb) (tSeq ta tb) := fun σ G H os f x os' D hl I e k => by
  unfold xSeq at e
  cases e1 : xa os with
  | some p =>
    rw [e1] at e
    cases e
    exact hx σ G H os f x os' { D with nx := tb D } hl I e1 k
  | none =>
    rw [e1] at e
    simp only [Option.none_or] at e
    cases ea : a os with
    | none => rw [ea] at e; cases e
    | some r1 =>
      rw [ea] at e
      cases r1 with
      | nx os1 =>
        exact ha σ G H os f _ { D with nx := tb D } hl I ea fun σ1 H1 k1 => by
          obtain ⟨G1, f1, I1, s1, l1, q1⟩ := k1
          exact hb σ1 G1 H1 os1 f1 x os' D l1 I1 e fun σ' H' d kk => k σ' H' d (kk.step s1 q1)
      | rt _ _ => cases e
      | bk _ => cases e
      | ct _ => cases e
theorem sx_ofs {st : List Stmt} {ev : EvS} (h : SSs X R ev st) : SXSs X C R W ev xNo st := by
  obtain ⟨t, p, q⟩ := h
  exact ⟨t, p, q, xsr_no⟩
theorem sx_nil : SXSs X C R W sNext xNo [] := ⟨_, pss_nil, sr_next, xsr_no⟩
theorem sx_cons {st : Stmt} {rest : List Stmt} {a b : EvS} {xa xb : EvX} (h : SXS X C R W a xa st) (g : SXSs X C R W b xb rest) : SXSs X C R W (sSeq a b) (xSeq a xa xb) (st :: rest) := by
  obtain ⟨t, p, q, z⟩ := h
  obtain ⟨u, p', q', z'⟩ := g
  exact ⟨_, pss_cons p p', sr_seq q q', xsr_seq q z z'⟩
theorem sx_one {st : Stmt} {a : EvS} {xa : EvX} (h : SXS X C R W a xa st) : SXSs X C R W a xa [st] := by
  obtain ⟨t, p, q, z⟩ := h
  exact ⟨_, pss_one p, q, z⟩
theorem xsr_if {t : EvT} {xa xb : EvX} {tt : TT} {ta tb : TS} (h : TR K t tt) (ha : XSR K C R W xa ta) (hb : XSR K C R W xb tb) : XSR K C R W (xIf t xa xb) (tIfS tt ta tb) := fun σ G H os f x os' D hl I e k => by
  unfold xIf at e
  split at e
  · rename_i os1 e1
    refine h σ [] G H os [] f true os1 _ hl rfl (by simpa using I) e1 fun H1 k1 => ?_
    obtain ⟨G1, f1, I1, s1, l1⟩ := k1
    rw [if_pos rfl]
    exact ha σ G1 H1 os1 f1 x os' D l1 (by simpa using I1) e fun σ' H' d kk => k σ' H' d (kk.step s1 fun _ _ => rfl)
  · rename_i os1 e1
    refine h σ [] G H os [] f false os1 _ hl rfl (by simpa using I) e1 fun H1 k1 => ?_
    obtain ⟨G1, f1, I1, s1, l1⟩ := k1
    rw [if_neg Bool.false_ne_true]
    exact hb σ G1 H1 os1 f1 x os' D l1 (by simpa using I1) e fun σ' H' d kk => k σ' H' d (kk.step s1 fun _ _ => rfl)
  · cases e
theorem sx_if {c : Expr} {a b : List Stmt} {t : EvT} {ea eb : EvS} {xa xb : EvX} {pos : Pos} (h : STt X t c) (ha : SXSs X C R W ea xa a) (hb : SXSs X C R W eb xb b) : SXS X C R W (sIf t ea eb) (xIf t xa xb) (.If c a b pos) := by
  obtain ⟨tt, p, q⟩ := h
  obtain ⟨ta, p1, q1, z1⟩ := ha
  obtain ⟨tb, p2, q2, z2⟩ := hb
  exact ⟨_, ps_if p p1 p2, sr_if q q1 q2, xsr_if q z1 z2⟩
theorem xsr_e {xv : EvX} {te : TE} {ts : TS} (h : XER K C W xv te) (hts : ∀ D σ H, (∀ Q : VK, te σ H Q) → ts D σ H) : XSR K C R W xv ts := fun σ G H os f x os' D hl I e k =>
  hts D σ H fun Q => h σ G H os f x os' Q hl I e fun H' d kk => by
    obtain ⟨G1, f1, I1, s1, l1, p1⟩ := kk
    exact k σ H' d ⟨G1, f1, I1, s1, l1, fun _ _ => rfl, p1⟩
theorem sx_ret {e : Expr} {ev : EvE} {xv : EvX} {pos : Pos} (h : SEX X C W ev xv e) : SXS X C R W (sRet ev) xv (.Return (some e) pos) := by
  obtain ⟨te, p, q, z⟩ := h
  exact ⟨_, ps_ret p, sr_ret q, xsr_e z fun D σ H hq => hq _⟩
theorem sx_expr {e : Expr} {ev : EvE} {xv : EvX} {pos : Pos} (h : SEX X C W ev xv e) (hs : swapsWith e none pos.line X.env = pure false := by rfl) : SXS X C R W (sExpr ev) xv (.Expr e pos) := by
  obtain ⟨te, p, q, z⟩ := h
  obtain ⟨t1, p1, q1⟩ := ss_expr (R := R) (pos := pos) ⟨te, p, q⟩ hs
  refine ⟨_, ps_expr p hs, fun σ G H os f res D hl I e k => ?_, xsr_e z fun D σ H hq => hq _⟩
  unfold sExpr at e
  split at e
  · rename_i r os1 e1
    cases e
    refine q σ [] G H os [] f r os1 _ hl rfl (by simpa using I) e1 fun v H1 k1 => ?_
    obtain ⟨G1, f1, I1, s1, l1⟩ := k1.drop rfl
    exact k σ H1 ⟨G1, f1, by simpa using I1, s1, l1, fun _ _ => rfl⟩
  · cases e
theorem sx_asg (i : Nat) {x : Str} {e : Expr} {ev : EvE} {xv : EvX} {pos' pos : Pos} (hN : X.N.Nodup) (h : SEX X C W ev xv e) (hi : X.N[i]? = some x := by rfl) (hx : Loc X.env.scope x := by first | exact Or.inl rfl | exact Or.inr rfl)
    (hs : swapsWith e (some (.Name x pos')) pos.line X.env = pure false := by rfl) (hf : X.fn x = true ∨ X.env.scope.names.lookup x = some .local := by first | exact .inl rfl | exact .inr rfl | assumption) : SXS X C R W (sAsg R i ev) xv (.Assign [.Name x pos'] e pos) := by
  obtain ⟨te, p, q, z⟩ := h
  exact ⟨_, ps_set hN hi hx p hs hf, sr_asg q, xsr_e z fun D σ H hq => hq _⟩

/-! ### raise -/
/-- what stands of a class of errors -/
structure ErrC (K : PySem.W.Frag) (mg : Str → Option Value) (x : Str) (a : Addr) (bmB : List Value) (newId : String) : Prop where
  g : mg x = some (.ref a)
  ex : PySem.W.excIn K a bmB newId = true
  kp : PySem.W.keepIn K (.ref a) = true
  sb : PySem.W.subIn K (.ref a) (.type "BaseException") = some true
  ty : PySem.W.typeIn K (.ref a) = some (.type "type")
theorem pmk_own0 {x : Str} {a : Addr} {bmB : List Value} {B newId initId : String} {p pos : Pos} (F : ExcBaseFacts B newId initId bmB) (T : ErrC X.K X.mg x a bmB newId) (hg : Gl X x)
    (hdb : (x == ("__debug__" : Str)) = false := by decide) : PMk X (.Call (.Name x p) [] [] pos) (fun _ H Q => Q (.ref a) none H) := by
  intro pins s σ H Q I h
  refine wpAny_Call_Name_kw (ld_glob I hg T.g ?_ hdb)
  refine PySem.W.callWith_K0 (first := []) I.kIn T.kp ?_
  show wpAny _ _ (call (.ref a) []) _ _ _
  obtain ⟨bm, N, nm, qn, bs, hdct, sn, sub, ab, col, dd, k0, k1, k2, k3, k5, mN, hC, hN, hni, OT⟩ := exc_obj I.kIn T.ex
  refine wpAny_call_exc_subT F OT hC hN hni (fun h' e hm => ?_) (by show 0 ≤ sizeLine; rw [sizeLine_eq]; omega)
  exact mk_of I hm (raises_own T.sb T.ty) h (I.hok.gone hm.new)
theorem sx_raise0 (c : Nat) {x : Str} {bmB : List Value} {B newId initId : String} {p pos pos' : Pos} (hc : X.calm = true) (tk : Takes X W) (F : ExcBaseFacts B newId initId bmB) (T : ErrC X.K X.mg x (C c) bmB newId) (hg : Gl X x := by rfl)
    (hdb : (x == ("__debug__" : Str)) = false := by decide) : SXS X C R W (fun _ => none) (xRaise c) (.Raise (some (.Call (.Name x p) [] [] pos)) none pos') :=
  ⟨_, ps_raise hc tk (pmk_own0 F T hg hdb), (by intro σ G H os f res D hl I e k; cases e), by
    intro σ G H os f x' os' D hl I e k
    cases e
    exact k σ H none ⟨G, f, I, Stp.refl _ _ _, hl, fun _ _ => rfl, .inl ⟨rfl, rfl⟩⟩⟩

/-! ### defs that may raise -/
structure FnX (P : Program) (w : World) (K : PySem.W.Frag) (mg : Str → Option Value) (base : Heap) (k : Nat) (f : Addr) (fd : FuncData) (ps : List Str) (sp : Sp) : Prop where
  len : ∀ vs H Q E, sp vs H Q E → vs.length = ps.length
  run : ∀ (A : Around) (outer : List Env) (s : Shared) (H : Hp) (args : Args) (us : List Value) (vs : List V) (Q : VK) (E : XK), A.guards = some [] → Room k A → Env0 P w K mg base A outer s H →
    BindsTo s fd args (ps.zip us) → Vals vs us → sp vs H Q E → codeAny (model P w) A (.call (.ref f) args) (CR (L2.CX P w) outer P w H s Q E) s
theorem FnX.mono {P : Program} {w : World} {K : PySem.W.Frag} {mg : Str → Option Value} {base : Heap} {j k : Nat} {f : Addr} {fd : FuncData} {ps : List Str} {sp : Sp} (F : FnX P w K mg base j f fd ps sp) (h : j ≤ k) : FnX P w K mg base k f fd ps sp :=
  ⟨F.len, fun A outer s H args us vs Q E hg hr => F.run A outer s H args us vs Q E hg (hr.mono h)⟩
/-- m: of the arguments the answer, or the class's number of what is raised -/
def spX (K : PySem.W.Frag) (C : Nat → Addr) (m : List OD → Option (OD ⊕ Er)) (n : Nat) : Sp := fun vs H Q E => ∃ G f os r, SI K G H (vs.map some) (os.map some) f ∧ vs.length = n ∧ m os = some r ∧ match r with
  | .inl o => ∀ v H' G' f', SI K G' H' [some v] [some o] f' → Stp G H f G' H' f' → Q v H'
  | .inr x => ∀ H' G' f' d, SI K G' H' [] [] f' → Stp G H f G' H' f' → PayOk K G' x d → E (.ref (C x.1)) d H'
def inL (m : List OD → Option (OD ⊕ Er)) : List OD → Option OD := fun os => match m os with
  | some (.inl o) => some o
  | _ => none
def inR' (m : List OD → Option (OD ⊕ Er)) : List OD → Option Er := fun os => match m os with
  | some (.inr x) => some x
  | _ => none
theorem inL_some {m : List OD → Option (OD ⊕ Er)} {os : List OD} {o : OD} (h : inL m os = some o) : m os = some (.inl o) := by
  unfold inL at h
  split at h
  · rename_i o' e; cases h; exact e
  · cases h
theorem inR_some {m : List OD → Option (OD ⊕ Er)} {os : List OD} {x : Er} (h : inR' m os = some x) : m os = some (.inr x) := by
  unfold inR' at h
  split at h
  · rename_i o' e; cases h; exact e
  · cases h
/-- where it does not raise it is a def as any other -/
theorem FnX.calm {P : Program} {w : World} {mg : Str → Option Value} {base : Heap} {k n : Nat} {f : Addr} {fd : FuncData} {ps : List Str} {m : List OD → Option (OD ⊕ Er)} (F : FnX P w K mg base k f fd ps (spX K C m n)) : FnG P w K mg base k f fd ps (sp0 K (inL m) n) := by
  have cv : ∀ vs H Q E, sp0 K (inL m) n vs H Q E → spX K C m n vs H Q E0 := fun vs H Q E h => by
    obtain ⟨G, f, os, r, I, hl, e, kk⟩ := h
    exact ⟨G, f, os, .inl r, I, hl, inL_some e, kk⟩
  refine ⟨fun vs H Q E h => F.len vs H Q E0 (cv vs H Q E h), fun A outer s H args us vs Q hg hr e0 hb rv h => ?_⟩
  refine codeAny_mono (F.run A outer s H args us vs Q E0 hg hr e0 hb rv (cv _ _ _ _ h)) fun r s' hq => ?_
  cases r with
  | ok fl => cases fl <;> exact hq
  | error e =>
    obtain ⟨_, _, _, _, _, _, _, _, _, _, _, _, z⟩ := (show L2.CX P w outer H s E0 e s' from hq)
    exact z.elim
theorem ok_fnX {P : Program} {w : World} {mg : Str → Option Value} {base : Heap} {x qual : Str} {st : Stmt} {f : Addr} {fd : FuncData} {N ps : List Str} {k : Nat} (F : Fun K x qual st f fd) (S : FnScope N ps (defScope st)) {ev : Nat → EvS} {xv : Nat → EvX} {m : List OD → Option (OD ⊕ Er)}
    (hb : ∀ (n : Nat) (cdv : Value) (A : Around) (outer : List Env) (s : Shared) (H : Hp) (E : XK), fd.code = cdv → (A.deeper (envOfC qual (defScope st) s.heap.objs.size f cdv)).guards = some [] → Room k (A.deeper (envOfC qual (defScope st) s.heap.objs.size f cdv)) →
      SXSs (cxOf (L2.CX P w) P w K mg base N qual (defScope st) f cdv A outer s H E) C [] (fun cls d _ H' => E cls d H') (ev n) (xv n) (defBody st))
    (hm : ∀ os r, os.length = ps.length → m os = some r → match r with
      | .inl o => ∃ n res, ev n (startE N os) = some res ∧ retOf res = some o
      | .inr x => ∃ n os', xv n (startE N os) = some (x, os')) : FnX P w K mg base (k + 1) f fd ps (spX K C m ps.length) := by
  have len : ∀ vs H Q E, spX K C m ps.length vs H Q E → vs.length = ps.length := fun vs H Q E h => by
    obtain ⟨G, g, os, r, _, hl, _⟩ := h
    exact hl
  obtain ⟨oc, od, kV, doc, pm, an, cdv, ct, osl, rfl, lk, hcd⟩ := F.ex
  refine ⟨len, fun A outer s H args us vs Q E hg hr e0 hbd r hsp => ?_⟩
  have hl := len _ _ _ _ hsp
  have KX : K.In s.heap := e0.mod.kin.keeps fun b o e => (e0.bs b o e).1
  have lim : s.heap.NoLimit := e0.mod.nolimit.keeps fun b o e => (e0.bs b o e).1
  have hkind : ∀ y ∈ ps.zip us, (defScope st).names.lookup y.1 = some .local ∨ ((defScope st).names.lookup y.1 = some .cell ∧ ((cellsFrom (s.heap.objs.size + 1) (defScope st).names []).lookup y.1).isSome = true) := fun ⟨n, v⟩ hy => by
    rcases S.par n (List.of_mem_zip hy).1 with q | q
    · exact .inl q
    · exact .inr ⟨q, PySem.W.cellsFrom_some _ _ _ (.inl q)⟩
  refine codeAny_call_function hr.depth (KX _ _ lk) rfl S.co S.gen rfl (PySem.W.codeRec_of KX hcd) (hbd _ _ _ _ ?_)
  refine wpAny_newFunctionEnv_cells S.kind hkind fun env he s1 x => ?_
  subst he
  refine ⟨lim.keeps x.toInCall.keep, codeAny_func ?_⟩
  obtain ⟨n0, hn0⟩ : ∃ n : Nat, (∃ t, PSs (cxOf (L2.CX P w) P w K mg base N qual (defScope st) f cdv A outer s H E) (defBody st) t ∧ t { nx := fun _ H' => Q .non H', rt := Q } (start N vs) H) := by
    obtain ⟨G, g, os, rr, I, hl2, em, kk⟩ := hsp
    have ho : os.length = ps.length := by
      have := I.sl.len
      simp at this; omega
    have I2 : SI K G H (start N vs) (startE N os) g := by
      have := I.nones (N.length - vs.length)
      unfold L2.start startE
      rw [ho, ← hl2]
      exact this
    have hmm := hm os rr ho em
    cases rr with
    | inl o =>
      obtain ⟨n, res, e1, e2⟩ := hmm
      obtain ⟨t, p, q, _⟩ := hb n cdv A outer s H E rfl (guards_deeper hg) (hr.deeper _)
      refine ⟨n, t, p, q (start N vs) G H (startE N os) g res _ I2.sl.len I2 e1 ?_⟩
      cases res with
      | nx os' =>
        cases e2
        intro σ' H' ⟨G', f', J, s', _, _⟩
        refine kk .non H' G' (fun _ => 0) ⟨(SL.val (RO.sh .non) .nil).congr fun _ => rfl, J.sub, fun _ => Nat.zero_le _, fun _ z => absurd rfl z, J.tk⟩ (s'.trans (Stp.less fun _ => Nat.zero_le _))
      | rt o os' =>
        cases e2
        intro v H' ⟨G', f', σ', J, s', l', _⟩
        obtain ⟨⟨f2, J2, le⟩, _⟩ := J.lastTwo l'
        exact kk v H' G' f2 J2 (s'.trans (Stp.less le))
      | bk _ => cases e2
      | ct _ => cases e2
    | inr x =>
      obtain ⟨n, os', e1⟩ := hmm
      obtain ⟨t, p, _, z⟩ := hb n cdv A outer s H E rfl (guards_deeper hg) (hr.deeper _)
      refine ⟨n, t, p, z (start N vs) G H (startE N os) g x os' _ I2.sl.len I2 e1 fun σ' H' d kq => ?_⟩
      obtain ⟨G', f', J, s', _, _, pz⟩ := kq
      exact kk H' G' (fun _ => 0) d ⟨.nil, J.sub, fun _ => Nat.zero_le _, fun _ z => absurd rfl z, J.tk⟩ (s'.trans (Stp.less fun _ => Nat.zero_le _)) pz
  obtain ⟨t, ht, hq⟩ := hn0
  have I : Inv (cxOf (L2.CX P w) P w K mg base N qual (defScope st) f cdv A outer s H E) [] (start N vs) H s1 := inv_start S hr.hd e0 hl r x
  refine wpAny_mono (ht.run [] s1 (start N vs) H _ I hq) (fun fl s' hs => ?_) fun e s' hs => hs
  cases fl with
  | ret u => obtain ⟨v, σ', H', J', r', q'⟩ := hs; exact ⟨v, H', J'.os, J'.bare, J'.base, J'.hok, r', q'⟩
  | next => obtain ⟨σ', H', J', q'⟩ := hs; exact ⟨V.non, H', J'.os, J'.bare, J'.base, J'.hok, rfl, q'⟩
  | brk => obtain ⟨_, _, _, q'⟩ := hs; exact q'.elim
  | cont => obtain ⟨_, _, _, q'⟩ := hs; exact q'.elim

/-! ### a call of such a def -/
def tCallX (sp : Sp) (E : L2.St → XK) (idx : List Nat) (n : Nat) (t : TA) : TE := fun σ H Q => t σ H fun vs H1 => vs.length = n ∧ sp (pk idx vs) H1 Q (E σ)
theorem run_gX {k : Nat} {f : Addr} {fd : FuncData} {ps : List Str} {sp : Sp} {pins : List (Addr × Obj)} {σ : L2.St} {H : Hp} {s : Shared} {Q : VK} {E : L2.St → XK} {args : Args} {us : List Value} {vs : List V}
    (F : FnX X.prog X.w X.K X.mg X.base k f fd ps sp) (hg : X.A.guards = some []) (hr : Room k X.A) (hb : BindsTo s fd args (ps.zip us)) (hx : PassesAt (L2.CX X.prog X.w) X σ (E σ)) (I : Inv X pins σ H s) (r : Vals vs us) (h : sp vs H Q (E σ)) :
    codeAny (model X.prog X.w) X.A (.call (.ref f) args) (fun r' s' => match r' with
      | .ok (.ret u) => EP X pins σ Q u s'
      | .ok _ => False
      | .error e => X.xe e s') s := by
  refine codeAny_mono (F.run X.A X.stack s H args us vs Q (E σ) hg hr I.env0 hb r h) (fun r' s' hq => ?_)
  cases r' with
  | error e => exact hx pins H s e s' I hq
  | ok fl =>
    cases fl with
    | ret u => exact I.after hq
    | next => exact hq
    | brk => exact hq
    | cont => exact hq
section
variable {k : Nat} {f : Addr} {fd : FuncData} {ps ks : List Str} {sp : Sp} {x : Str} {p pos : Pos} {e : Expr} {es : List Expr} {t : TA} {idx : List Nat} {E : L2.St → XK}
theorem pe_callX (F : FnX X.prog X.w X.K X.mg X.base k f fd ps sp) (hA : X.A.guards = some []) (hr : Room k X.A) (hm : X.mg x = some (.ref f)) (hk : PySem.W.keepIn X.K (.ref f) = true) (hb : Bd fd ps (e :: es).length (e :: es).length [] idx)
    (hx : ∀ σ, PassesAt (L2.CX X.prog X.w) X σ (E σ)) (ha : PA X (e :: es) t) (hg : Gl X x := by rfl) (hdb : (x == ("__debug__" : Str)) = false := by decide) (he : starEach (e :: es) X.env = (false, eval e X.env) :: starEach es X.env := by rfl) (hpl : (backTo pos (starEach es X.env)).any (·.1) = false := by rfl) :
    PE X (.Call (.Name x p) (e :: es) [] pos) (tCallX sp E idx (e :: es).length t) := by
  refine ⟨fun pins s σ H Q I h => ?_⟩
  refine wpAny_Call_Name_kw (ld_glob I hg hm ?_ hdb)
  refine PySem.W.callWith_K (h₀ := X.base) I.ok.mod.kin hk (thn (ha.run pos pins s σ H _ I h) fun us s1 ⟨vs, H1, I1, r, hn, q⟩ => ⟨I1.kIn, ?_⟩) he hpl
  have hn' : us.length = (e :: es).length := by rw [← r.length]; exact hn
  have b := hb s1 us hn'
  rw [List.take_of_length_le (by omega)] at b
  exact wpAny_call (run_gX F hA hr (by simpa using b) (hx σ) I1 (vals_pk r idx) q)
def xFn (m : List OD → Option (OD ⊕ Er)) (n : Nat) (idx : List Nat) (es : EvEs) : EvX := fun os => match es os with
  | some (rs, os1) => match rdAll os1 rs with
    | some ds => if rs.length = n ∧ (pk idx ds).length = n then match m ((pk idx ds).map OD.sh) with
      | some (.inr x) => some (x, hardAll os1 rs)
      | _ => none else none
    | none => none
  | none => none
theorem er_fnX {m : List OD → Option (OD ⊕ Er)} {n : Nat} {ev : EvEs} {ta : TA} (h : ERs K ev ta) : ER K (eFn0 (inL m) n idx ev) (tCallX (spX K C m n) E idx n ta) := fun σ τ G H os θ f r os' Q hl ht I e k => by
  unfold eFn0 at e
  split at e
  · rename_i rs os1 e1
    split at e
    · rename_i ds e2
      split at e
      · rename_i hn
        split at e
        · rename_i r1 e3
          refine h σ τ G H os θ f rs os1 _ hl ht I e1 fun vs H1 k1 => ?_
          obtain ⟨G1, f1, I1, s1, a1, l1⟩ := k1
          obtain ⟨G2, f2, I2, s2, hd⟩ := I1.popC l1 ht a1 e2
          obtain ⟨_, f3, I3, le3⟩ := I1.popA l1 ht a1 e2
          have hd' := dps_pk hd idx
          refine ⟨by rw [a1.len]; exact hn.1, G2, fun _ => 0, (pk idx ds).map OD.sh, .inl r1, ⟨SL.shs hd', I2.sub, fun _ => Nat.zero_le _, fun _ z => absurd rfl z, I2.tk⟩, by rw [dps_len hd']; exact hn.2, inL_some e3, fun v H' G' f' J s => ?_⟩
          split at e
          · rename_i c
            obtain ⟨d, rfl⟩ : ∃ d, r1 = .sh d := by
              cases r1 with
              | sh d => exact ⟨d, rfl⟩
              | lst _ => cases c.2
              | tpl _ => cases c.2
            cases e
            have sb : ∀ a xs, H1 a = some (.lst xs) → H' a = some (.lst xs) := fun a xs q => s.keep a xs q rfl
            have sg : Sub G1 H' := (s2.gsub.trans s.gsub).trans J.sub
            have hv : Dx K H' v d := by
              obtain ⟨v', q1, q2⟩ := J.rd (i := 0) (o := .sh d) rfl
              cases q1; exact q2
            refine k v H' ((Kont.sh l1 (I3.grow sg sb ⟨I3.tk.no, J.tk.ok, J.tk.tab⟩) (dp_sc hv c.1)).step ?_)
            exact s1.trans ⟨Sub.refl _, fun a o q _ => sb a o q, s.dom, fun a q => .inl q, fun a q => .inl (by have := le3 a; omega)⟩
          · cases e
            obtain ⟨f4, I4, e4, s4⟩ := I2.frame J s fun _ _ => rfl
            exact k v H' ⟨G', f4, by simpa [List.append_assoc, RV.od] using I4, (s1.trans s2).trans (s4 f2 fun x => by omega), .cons trivial .nil, by rw [len_hardAll]; exact l1⟩
        · cases e
      · cases e
    · cases e
  · cases e
theorem xer_fnX {m : List OD → Option (OD ⊕ Er)} {n : Nat} {ev : EvEs} {ta : TA} (h : ERs K ev ta) : XER K C W (xFn m n idx ev) (tCallX (spX K C m n) (WE W) idx n ta) := fun σ G H os f x os' Q hl I e k => by
  unfold xFn at e
  split at e
  · rename_i rs os1 e1
    split at e
    · rename_i ds e2
      split at e
      · rename_i hn
        split at e
        · rename_i x1 e3
          cases e
          refine h σ [] G H os [] f rs os1 _ hl rfl (by simpa using I) e1 fun vs H1 k1 => ?_
          obtain ⟨G1, f1, I1, s1, a1, l1⟩ := k1
          obtain ⟨G2, f2, I2, s2, hd⟩ := I1.popC l1 rfl a1 e2
          have hd' := dps_pk hd idx
          refine ⟨by rw [a1.len]; exact hn.1, G2, fun _ => 0, (pk idx ds).map OD.sh, .inr x, ⟨SL.shs hd', I2.sub, fun _ => Nat.zero_le _, fun _ z => absurd rfl z, I2.tk⟩, by rw [dps_len hd']; exact hn.2, e3, fun H' G' f' d J s pz => ?_⟩
          obtain ⟨f4, I4, e4, s4⟩ := I2.frame J s fun _ _ => rfl
          exact k H' d ⟨G', f4, by simpa using I4, (s1.trans s2).trans (s4 f2 fun x => by omega), by rw [len_hardAll]; exact l1, pz⟩
        · cases e
      · cases e
    · cases e
  · cases e
theorem sex_call {m : List OD → Option (OD ⊕ Er)} {n : Nat} {ev : EvEs} (tk : Takes X W) (F : FnX X.prog X.w X.K X.mg X.base k f fd ps (spX X.K C m n)) (hA : X.A.guards = some []) (hr : Room k X.A) (hm : X.mg x = some (.ref f)) (hk : PySem.W.keepIn X.K (.ref f) = true) (hb : Bd fd ps n n [] idx) (h : SEs X ev (e :: es))
    (hn : (e :: es).length = n := by rfl) (hg : Gl X x := by rfl) (hdb : (x == ("__debug__" : Str)) = false := by decide) (he : starEach (e :: es) X.env = (false, eval e X.env) :: starEach es X.env := by rfl) (hpl : (backTo pos (starEach es X.env)).any (·.1) = false := by rfl) :
    SEX X C W (eFn0 (inL m) n idx ev) (xFn m n idx ev) (.Call (.Name x p) (e :: es) [] pos) := by
  subst hn
  obtain ⟨ta, q1, q2⟩ := h
  exact ⟨_, pe_callX (E := WE W) F hA hr hm hk hb (fun σ => passAt tk σ) q1 hg hdb he hpl, er_fnX q2, xer_fnX q2⟩
end
end
end DX
namespace DX
open PySem PySem.Spec PyProof.Rows L2
/-! ### try: body, except c (as n): suite -/
/-- what an error's class answers to the class that a clause, or isinstance, names -/
def ErrsOk (K : PySem.W.Frag) (C : Nat → Addr) (nC : Nat) (sub : Nat → Nat → Bool) : Prop := ∀ i j, i < nC → j < nC → PySem.W.exmOne K (.ref (C i)) (.ref (C j)) = some (sub i j) ∧ PySem.W.kitOne K (.ref (C i)) (.ref (C j)) = some (sub i j)
/-- the error itself, as the suite's name holds it; p: where it and its dict lie -/
def excD (p : Nat × Nat) (x : Er) : PyData := match x.2 with
  | [] => .dict [(.int p.1, .int x.1)]
  | q :: fs => .dict [(.int p.1, .int x.1), (.int p.2, .tuple [.list ((q :: fs).map fun z => .str z.1), .list ((q :: fs).map Prod.snd)])]
/-- its dict -/
def dOf (p : Nat × Nat) (x : Er) : Option Addr := match x.2 with
  | [] => none
  | _ :: _ => some p.2
theorem pay_d {K : PySem.W.Frag} {G : Hp} {x : Er} {d : Option Addr} {a : Nat} (h : PayOk K G x d) : d = dOf (a, d.getD 0) x := by
  obtain ⟨e, fs⟩ := x
  rcases h with ⟨h1, rfl⟩ | ⟨h1, b, vs, rfl, _⟩
  · cases h1; rfl
  · cases fs with
    | nil => exact absurd rfl h1
    | cons _ _ => rfl
theorem excD_ok {K : PySem.W.Frag} {G : Hp} {x : Er} {d : Option Addr} {a : Addr} (h : PayOk K G x d) : Dx K G (.ref a) (excD (a, d.getD 0) x) := by
  obtain ⟨e, fs⟩ := x
  rcases h with ⟨h1, rfl⟩ | ⟨h1, b, vs, rfl, h2, h3, h4⟩
  · cases h1
    exact .exc a e
  · cases fs with
    | nil => exact absurd rfl h1
    | cons q fs =>
      have e3 : ((q :: fs).map fun z => PyData.str z.1) = vs.map fun z => PyData.str z.1 := by
        rw [show ((q :: fs).map fun z => PyData.str z.1) = ((q :: fs).map Prod.fst).map PyData.str by rw [List.map_map]; rfl, ← h3, List.map_map]; rfl
      show Dx K G (.ref a) (.dict [(.int a, .int e), (.int b, .tuple [.list ((q :: fs).map fun z => .str z.1), .list ((q :: fs).map Prod.snd)])])
      rw [e3]
      exact .exf h2 h4
open Classical in
noncomputable def suE (su : Er → Nat × Nat → EvS) (x : Er) : EvS := fun os => if h : ∃ res, ∀ a, su x a os = some res then some h.choose else none
theorem suE_eq {su : Er → Nat × Nat → EvS} {x : Er} {os : En} {res : Res} (h : ∀ a, su x a os = some res) : suE su x os = some res := by
  have e : ∃ res, ∀ a, su x a os = some res := ⟨res, h⟩
  unfold suE
  rw [dif_pos e]
  exact (e.choose_spec (0, 0)).symm.trans (h (0, 0))
theorem suE_of {su : Er → Nat × Nat → EvS} {x : Er} {os : En} {res : Res} (h : suE su x os = some res) (a : Nat × Nat) : su x a os = some res := by
  unfold suE at h
  split at h
  · rename_i e; cases h; exact e.choose_spec a
  · cases h
/-- su: what the suite does, by what was raised (its class's number, where it lies) -/
noncomputable def eTry (sub : Nat → Nat → Bool) (nC c : Nat) (ev : EvS) (xv : EvX) (su : Er → Nat × Nat → EvS) : EvS := fun os => match xv os with
  | some (x, os1) => if x.1 < nC ∧ sub x.1 c = true then suE su x os1 else none
  | none => ev os
def wipeR (i : Nat) : Res → Res
  | .nx os => .nx (os.set i none)
  | .rt o os => .rt o (os.set i none)
  | .bk os => .bk (os.set i none)
  | .ct os => .ct (os.set i none)
def suAs (i : Nat) (su : Er → Nat × Nat → EvS) (x : Er) (a : Nat × Nat) : EvS := fun os => if i < os.length then (su x a (os.set i (some (.sh (excD a x))))).map (wipeR i) else none
section
variable {X : Cx} {C : Nat → Addr} {R : List Nat} {sub : Nat → Nat → Bool} {nC c : Nat} {x n : Str} {body suite : List Stmt} {b₀ : Stmt} {np pos pos' : Pos} {ev : EvS} {xv : EvX} {su : Er → Nat × Nat → EvS}
theorem SI.unset {K : PySem.W.Frag} {G H : Hp} {σ : L2.St} {os : En} {f : FP} (I : SI K G H σ os f) {i : Nat} (hi : i < os.length) (v : Option V) : ∃ f', SI K G H (σ.set i v) (os.set i none) f' ∧ ∀ a, f' a ≤ f a := by
  obtain ⟨fr, h1, h2, _⟩ := SL.put i I.sl hi
  exact ⟨fr, I.forget (h2 v) h1, h1⟩
theorem SI.unset' {K : PySem.W.Frag} {G H : Hp} {σ : L2.St} {os : En} {f : FP} (I : SI K G H σ os f) (hl : σ.length = os.length) (i : Nat) : ∃ f', SI K G H (σ.set i none) (os.set i none) f' ∧ ∀ a, f' a ≤ f a := by
  by_cases hi : i < os.length
  · exact I.unset hi none
  · rw [List.set_eq_of_length_le (by omega), List.set_eq_of_length_le (by omega)]
    exact ⟨f, I, fun _ => Nat.le_refl _⟩
theorem SI.unsetR {K : PySem.W.Frag} {G H : Hp} {σ : L2.St} {os : En} {f : FP} {v : V} {o : OD} (I : SI K G H (σ ++ [some v]) (os ++ [some o]) f) (hl : σ.length = os.length) (i : Nat) : ∃ f', SI K G H (σ.set i none ++ [some v]) (os.set i none ++ [some o]) f' ∧ ∀ a, f' a ≤ f a := by
  by_cases hi : i < os.length
  · have := I.unset (i := i) (by simp; omega) none
    rw [set_app (by omega), set_app hi] at this
    exact this
  · rw [List.set_eq_of_length_le (by omega), List.set_eq_of_length_le (by omega)]
    exact ⟨f, I, fun _ => Nat.le_refl _⟩
theorem ss_try (hs : X.stack = X.env :: X.outer) (hf : X.env.frame = some X.env.locals) (hc : Names X x (.ref (C c))) (hC : ErrsOk X.K C nC sub) (hcn : c < nC)
    (hb : ∀ (W : WX) (pn : List (Addr × Obj)) (xe : Value → Shared → Prop), Takes (X.tr pn xe) W → PassesOwn (model X.prog X.w) X.A X.env xe → SXSs (X.tr pn xe) C R W ev xv body)
    (hsu : ∀ (e : Er) (p : Nat × Nat) (oe : Obj) (pn : List (Addr × Obj)), e.1 < nC → Zc (.ref (C e.1)) (dOf p e) oe → (∃ vs, oe.data = .fields vs) → SSs (X.suite p.1 ((p.1, oe) :: pn)) R (su e p) (b₀ :: suite)) :
    SS X R (eTry sub nC c ev xv su) (.Try body [.ExceptHandler (some (.Name x np)) none (b₀ :: suite) pos'] [] [] pos) := by
  have hb' := fun W pn xe tk po => hb W pn xe tk po
  -- the readings
  let tb : WX → TS := fun W D σ H => ∃ (G : Hp) (os : En) (f : FP), σ.length = os.length ∧ SI X.K G H σ os f ∧ ((∃ x os1, xv os = some (x, os1) ∧ ∀ σ' H' d, KontSX X.K R σ G H f os1 x d σ' H' → W (.ref (C x.1)) d σ' H') ∨ ∃ res, ev os = some res ∧ Post X.K R σ G H f D res)
  let ts : Addr → Value → Option Addr → TS := fun a cls d D σ H => ∃ e : Er, e.1 < nC ∧ cls = .ref (C e.1) ∧ d = dOf (a, d.getD 0) e ∧ ∃ (G : Hp) (os : En) (f : FP) (res : Res), σ.length = os.length ∧ SI X.K G H σ os f ∧ su e (a, d.getD 0) os = some res ∧ Post X.K R σ G H f D res
  have hbP : ∀ (W : WX) (pn : List (Addr × Obj)) (xe : Value → Shared → Prop), Takes (X.tr pn xe) W → PassesOwn (model X.prog X.w) X.A X.env xe → PSs (X.tr pn xe) body (tb W) := fun W pn xe tk po => by
    obtain ⟨t, p, q, z⟩ := hb' W pn xe tk po
    refine ⟨fun pins s σ H D I h => p.run pins s σ H D I ?_⟩
    obtain ⟨G, os, f, hl, J, h | h⟩ := h
    · obtain ⟨x, os1, e1, k⟩ := h
      exact z σ G H os f x os1 D hl J e1 k
    · obtain ⟨res, e1, k⟩ := h
      exact q σ G H os f res D hl J e1 k
  have hsP : ∀ (a : Addr) (oe : Obj) (cls : Value) (d : Option Addr) (pn : List (Addr × Obj)), Zc cls d oe → (∃ vs, oe.data = .fields vs) → PSs (X.suite a ((a, oe) :: pn)) (b₀ :: suite) (ts a cls d) := fun a oe cls d pn hz hv => by
    refine ⟨fun pins s σ H D I h => ?_⟩
    obtain ⟨e, he, rfl, hd, G, os, f, res, hl, J, e1, k⟩ := h
    obtain ⟨t, p, q⟩ := hsu e (a, d.getD 0) oe pn he (by rw [← hd]; exact hz) hv
    exact p.run pins s σ H D I (q σ G H os f res D hl J e1 k)
  refine ⟨_, ps_try_only hs hf hc (takes0 (X := X)) hbP hsP, fun σ G H os f res D hl I e k => ?_⟩
  unfold eTry at e
  split at e
  · rename_i y os1 e1
    split at e
    · rename_i hy
      refine ⟨G, os, f, hl, I, .inl ⟨y, os1, e1, fun σ' H' d kk => ?_⟩⟩
      refine ⟨true, by rw [← hy.2]; exact (hC y.1 c hy.1 hcn).1, fun _ a na => ?_, fun z => nomatch z⟩
      obtain ⟨G', f', J, s', l', r', pz⟩ := kk
      exact ⟨y, hy.1, rfl, pay_d pz, G', os1, f', res, l', J, suE_of e _, k.step s' r'⟩
    · cases e
  · exact ⟨G, os, f, hl, I, .inr ⟨res, e, k⟩⟩
theorem ss_tryAs (i : Nat) (hs : X.stack = X.env :: X.outer) (hf : X.env.frame = some X.env.locals) (hN : X.N.Nodup) (hc : Names X x (.ref (C c))) (hC : ErrsOk X.K C nC sub) (hcn : c < nC) (hR : i ∉ R)
    (hb : ∀ (W : WX) (pn : List (Addr × Obj)) (xe : Value → Shared → Prop), Takes (X.tr pn xe) W → PassesOwn (model X.prog X.w) X.A X.env xe → SXSs (X.tr pn xe) C R W ev xv body)
    (hsu : ∀ (e : Er) (p : Nat × Nat) (oe : Obj) (pn : List (Addr × Obj)), e.1 < nC → Zc (.ref (C e.1)) (dOf p e) oe → (∃ vs, oe.data = .fields vs) → SSs (X.suite p.1 ((p.1, oe) :: pn)) R (su e p) (b₀ :: suite))
    (hi : X.N[i]? = some n := by rfl) (hln : X.env.kindOf n = some .local := by rfl) :
    SS X R (eTry sub nC c ev xv (suAs i su)) (.Try body [.ExceptHandler (some (.Name x np)) (some n) (b₀ :: suite) pos'] [] [] pos) := by
  let tb : WX → TS := fun W D σ H => ∃ (G : Hp) (os : En) (f : FP), σ.length = os.length ∧ SI X.K G H σ os f ∧ ((∃ x os1, xv os = some (x, os1) ∧ ∀ σ' H' d, KontSX X.K R σ G H f os1 x d σ' H' → W (.ref (C x.1)) d σ' H') ∨ ∃ res, ev os = some res ∧ Post X.K R σ G H f D res)
  let ts : Addr → Value → Option Addr → TS := fun a cls d D σ H => ∃ e : Er, e.1 < nC ∧ cls = .ref (C e.1) ∧ d = dOf (a, d.getD 0) e ∧ ∃ (G : Hp) (os : En) (f : FP) (res : Res), σ.length = os.length ∧ SI X.K G H σ os f ∧ su e (a, d.getD 0) os = some res ∧ Post X.K R σ G H f D res
  have hbP : ∀ (W : WX) (pn : List (Addr × Obj)) (xe : Value → Shared → Prop), Takes (X.tr pn xe) W → PassesOwn (model X.prog X.w) X.A X.env xe → PSs (X.tr pn xe) body (tb W) := fun W pn xe tk po => by
    obtain ⟨t, p, q, z⟩ := hb W pn xe tk po
    refine ⟨fun pins s σ H D I h => p.run pins s σ H D I ?_⟩
    obtain ⟨G, os, f, hl, J, h | h⟩ := h
    · obtain ⟨x, os1, e1, k⟩ := h
      exact z σ G H os f x os1 D hl J e1 k
    · obtain ⟨res, e1, k⟩ := h
      exact q σ G H os f res D hl J e1 k
  have hsP : ∀ (a : Addr) (oe : Obj) (cls : Value) (d : Option Addr) (pn : List (Addr × Obj)), Zc cls d oe → (∃ vs, oe.data = .fields vs) → PSs (X.suite a ((a, oe) :: pn)) (b₀ :: suite) (ts a cls d) := fun a oe cls d pn hz hv => by
    refine ⟨fun pins s σ H D I h => ?_⟩
    obtain ⟨e, he, rfl, hd, G, os, f, res, hl, J, e1, k⟩ := h
    obtain ⟨t, p, q⟩ := hsu e (a, d.getD 0) oe pn he (by rw [← hd]; exact hz) hv
    exact p.run pins s σ H D I (q σ G H os f res D hl J e1 k)
  refine ⟨_, ps_try_as hs hf hN hi hln hc (takes0 (X := X)) hbP hsP, fun σ G H os f res D hl I e k => ?_⟩
  unfold eTry at e
  split at e
  · rename_i y os1 e1
    split at e
    · rename_i hy
      refine ⟨G, os, f, hl, I, .inl ⟨y, os1, e1, fun σ' H' d kk => ?_⟩⟩
      refine ⟨true, by rw [← hy.2]; exact (hC y.1 c hy.1 hcn).1, fun _ a na => ?_, fun z => nomatch z⟩
      have e := suE_of e (a, d.getD 0)
      unfold suAs at e
      split at e
      · rename_i hil
        obtain ⟨G', f', J, s', l', r', pz⟩ := kk
        cases es : su y (a, d.getD 0) (os1.set i (some (.sh (excD (a, d.getD 0) y)))) with
        | none => rw [es] at e; cases e
        | some res1 =>
          rw [es] at e
          have e : some (wipeR i res1) = some res := e
          cases e
          obtain ⟨f2, J2, le2⟩ := (J.push (excD_ok pz)).store l' hil
          have kR : ∀ j ∈ R, (σ'.set i (some (.ref a)))[j]? = σ[j]? := fun j hj => by
            rw [List.getElem?_set_ne (fun z => by subst z; exact hR hj)]
            exact r' j hj
          refine ⟨y, hy.1, rfl, pay_d pz, G', os1.set i (some (.sh (excD (a, d.getD 0) y))), f2, res1, by rw [List.length_set, List.length_set]; exact l', J2, es, ?_⟩
          have s2 := s'.trans (Stp.less le2)
          have fin : ∀ (os' : En) (σ2 : L2.St) (H2 : Hp), KontS X.K R (σ'.set i (some (.ref a))) G' H' f2 os' σ2 H2 → KontS X.K R σ G H f (os'.set i none) (σ2.set i none) H2 := fun os' σ2 H2 kk => by
            obtain ⟨G3, f3, J3, s3, l3, r3⟩ := kk
            obtain ⟨f4, J4, le4⟩ := J3.unset' l3 i
            refine ⟨G3, f4, J4, (s2.trans s3).trans (Stp.less le4), by rw [List.length_set, List.length_set]; exact l3, fun j hj => ?_⟩
            rw [List.getElem?_set_ne (fun z => by subst z; exact hR hj)]
            exact (r3 j hj).trans (kR j hj)
          cases res1 with
          | nx os' => exact fun σ2 H2 kk => k _ _ (fin os' σ2 H2 kk)
          | bk os' => exact fun σ2 H2 kk => k _ _ (fin os' σ2 H2 kk)
          | ct os' => exact fun σ2 H2 kk => k _ _ (fin os' σ2 H2 kk)
          | rt o os' =>
            intro v H2 kk
            obtain ⟨G3, f3, σ3, J3, s3, l3, r3⟩ := kk
            obtain ⟨f4, J4, le4⟩ := J3.unsetR l3 i
            refine k v H2 ⟨G3, f4, σ3.set i none, J4, (s2.trans s3).trans (Stp.less le4), by rw [List.length_set, List.length_set]; exact l3, fun j hj => ?_⟩
            rw [List.getElem?_set_ne (fun z => by subst z; exact hR hj)]
            exact (r3 j hj).trans (kR j hj)
      · cases e
    · cases e
  · exact ⟨G, os, f, hl, I, .inr ⟨res, e, k⟩⟩
/-- isinstance(e, T) in the suite -/
def opIsE (p : Nat × Nat) (e : Er) (b : Bool) : List PyData → Option Op
  | [.dict [(.int a', .int e')]] => if a' = (p.1 : Nat) ∧ e' = (e.1 : Nat) ∧ e.2.isEmpty = true then some (.val (.bool b)) else none
  | [.dict [(.int a', .int e'), (.int d', _)]] => if a' = (p.1 : Nat) ∧ e' = (e.1 : Nat) ∧ d' = (p.2 : Nat) then some (.val (.bool b)) else none
  | _ => none
theorem o_isE {a : Nat × Nat} {e : Er} {b : Bool} : opIsE a e b [excD a e] = some (.val (.bool b)) := by
  obtain ⟨e, fs⟩ := e
  cases fs with
  | nil =>
    show (if ((a.1 : Nat) : Int) = (a.1 : Nat) ∧ ((e : Nat) : Int) = (e : Nat) ∧ _ then _ else none) = _
    rw [if_pos ⟨rfl, rfl, rfl⟩]
  | cons q fs =>
    show (if ((a.1 : Nat) : Int) = (a.1 : Nat) ∧ ((e : Nat) : Int) = (e : Nat) ∧ ((a.2 : Nat) : Int) = (a.2 : Nat) then _ else none) = _
    rw [if_pos ⟨rfl, rfl, rfl⟩]
/-- the error's dict stands -/
def rIsF (K : PySem.W.Frag) (D a : Addr) (d : Option Addr) : List V → Hp → VK → Prop := fun xs H Q => (∀ dd, d = some dd → ∃ fs, H dd = some (.xd fs)) ∧ rIsE K D a xs H Q
theorem call_isF {X : Cx} {a D : Addr} {d : Option Addr} {oe : Obj} {pn : List (Addr × Obj)} (C : ExcC X.K D) (hz : Zc (.ref D) d oe) (hf : ∃ vs, oe.data = .fields vs) : CallR (X.suite a ((a, oe) :: pn)) (.builtin "isinstance") (rIsF X.K D a d) := by
  cases d with
  | none => exact fun pins s σ H xs us Q I r h => call_isE C hz hf pins s σ H xs us Q I r h.2
  | some dd =>
    intro pins s σ H xs us Q I r h
    obtain ⟨hd, c, cv, b, rfl, hcv, e, q⟩ := h
    obtain ⟨fs, ed⟩ := hd dd rfl
    have hx : ObjOk X.prog X.w H s.heap dd (.xd fs) := I.hok dd _ ed
    obtain ⟨mA, hns, _⟩ := hx
    obtain ⟨od, ho, _⟩ := lookIn_ns hns
    cases r with
    | cons rx rr =>
      cases rr with
      | cons rt rr =>
        cases rr
        cases rx
        have ec := hcv _ rt
        subst ec
        obtain ⟨hget, _⟩ := I.pin (a, oe) (List.mem_append.mpr (.inl List.mem_cons_self))
        obtain ⟨vs, hv⟩ := hf
        have J : PySem.W.InstAt s.heap a oe D (some od) := ⟨hget, hz.1, by unfold PySem.W.notCls; rw [hv] <;> rfl, by rw [hz.2]; exact ho⟩
        have hcl : (PySem.W.clsIn X.K D).isSome = true := by
          obtain ⟨cd, hc, _⟩ := PySem.W.any_some C.hd
          rw [hc]; rfl
        exact PySem.W.kia_one (PySem.W.kitx_exc (od := some od) hcl C.hg C.hk C.hs C.ha C.hn C.ht C.hm) I.kIn J e (fun z => nomatch z) fun tk => ⟨.bl b, H, I.kept (t' := tk) fun _ _ z => z, rfl, q⟩
theorem isE_sc {p : Nat × Nat} {e : Er} {b : Bool} {ds : List PyData} {res : Op} (h : opIsE p e b ds = some res) : ∃ d, res = .val d ∧ isSc d = true := by
  unfold opIsE at h
  split at h
  · split at h
    · cases h; exact ⟨_, rfl, rfl⟩
    · cases h
  · split at h
    · cases h; exact ⟨_, rfl, rfl⟩
    · cases h
  · cases h
theorem isE_rd {K : PySem.W.Frag} {p : Nat × Nat} {e : Er} {b : Bool} {D : Addr} {c : V} {cv : Value} (hcv : ∀ u, RelV c u → u = cv) (hk : PySem.W.kitOne K (.ref D) cv = some b) : OpOk K (r1 fun x H Q => rIsF K D p.1 (dOf p e) [x, c] H Q) (opIsE p e b) := .ofSc (fun ds res h => isE_sc h) fun ds dd H vs Q h hd k => by
    obtain ⟨a0, d0⟩ := p
    obtain ⟨e0, fs0⟩ := e
    unfold opIsE at h
    split at h
    · split at h
      · rename_i a' e' c1
        cases h
        obtain ⟨v, rfl, h⟩ := dps1 hd
        obtain ⟨c1, _, c3⟩ := c1
        have hfs : fs0 = [] := List.isEmpty_iff.mp c3
        subst hfs
        cases h with
        | exc a2 e2 =>
          have c1 : (a2 : Int) = (a0 : Nat) := c1
          have : a2 = a0 := by omega
          subst this
          exact ⟨(fun dd z => nomatch z), c, cv, b, rfl, hcv, hk, k _ (.bl _)⟩
      · cases h
    · split at h
      · rename_i a' e' d' y c1
        cases h
        obtain ⟨v, rfl, h⟩ := dps1 hd
        obtain ⟨c1, _, c3⟩ := c1
        cases h with
        | @exf a2 e2 d2 vs2 ds2 h1 h2 =>
          have c1 : (a2 : Int) = (a0 : Nat) := c1
          have : a2 = a0 := by omega
          subst this
          have c3 : (d2 : Int) = (d0 : Nat) := c3
          have : d2 = d0 := by omega
          subst this
          refine ⟨fun dd z => ?_, c, cv, b, rfl, hcv, hk, k _ (.bl _)⟩
          cases fs0 with
          | nil => cases z
          | cons _ _ => cases z; exact ⟨_, h1⟩
      · cases h
    · cases h
theorem se_isE {e : Er} {y : Nat} {p : Nat × Nat} {oe : Obj} {pn : List (Addr × Obj)} {tn : Str} {o : Expr} {ea : EvE} {p0 q pos : Pos} (hC : ErrsOk X.K C nC sub) (he : e.1 < nC) (hy : y < nC) (hE : ExcC X.K (C e.1)) (hz : Zc (.ref (C e.1)) (dOf p e) oe) (hf : ∃ vs, oe.data = .fields vs) (hm : X.mg "isinstance" = none) (hT : X.mg tn = some (.ref (C y)))
    (ha : SE (X.suite p.1 ((p.1, oe) :: pn)) ea o) (hg : Gl X "isinstance" := by rfl) (hg2 : Gl X tn := by rfl) (hd : (tn == ("__debug__" : Str)) = false := by decide)
    (hst : starEach (o :: [.Name tn q]) X.env = (false, eval o X.env) :: starEach [.Name tn q] X.env := by rfl) :
    SE (X.suite p.1 ((p.1, oe) :: pn)) (eOp (opIsE p e (sub e.1 y)) (es1 ea)) (.Call (.Name "isinstance" p0) [o, .Name tn q] [] pos) := by
  obtain ⟨ta, p1, q1⟩ := ha
  have := pe_callB (X := X.suite p.1 ((p.1, oe) :: pn)) (x := "isinstance") (p := p0) (pos := pos) (call_isF hE hz hf) hg hm (by decide +kernel) (pa_cons p1 (pa_cons (pe_glob (v := .ref (C y)) (pos := q) hg2 hT rfl hd) pa_nil) hst) (by decide) (by decide) hst (by rfl)
  refine ⟨_, this, ?_⟩
  exact er_op (r := r1 fun x H Q => rIsF X.K (C e.1) p.1 (dOf p e) [x, .ref (C y)] H Q) (ers_cons q1 ers_nil) (isE_rd (cv := .ref (C y)) (fun u hu => hu) (hC e.1 y he hy).2)
theorem se_isEB {e : Er} {p : Nat × Nat} {n : String} {b : Bool} {y : Str} {oe : Obj} {pn : List (Addr × Obj)} {o : Expr} {ea : EvE} {p0 q pos : Pos} (hE : ExcC X.K (C e.1)) (hz : Zc (.ref (C e.1)) (dOf p e) oe) (hf : ∃ vs, oe.data = .fields vs) (hm : X.mg "isinstance" = none) (hy : X.mg y = none) (hk : PySem.W.kitOne X.K (.ref (C e.1)) (.type n) = some b)
    (ha : SE (X.suite p.1 ((p.1, oe) :: pn)) ea o) (hvy : bootBuiltins y = some (.type n) := by decide +kernel) (hg : Gl X "isinstance" := by rfl) (hg2 : Gl X y := by rfl) (hny : y ≠ "__name__" := by decide) (hd : (y == ("__debug__" : Str)) = false := by decide)
    (hst : starEach (o :: [.Name y q]) X.env = (false, eval o X.env) :: starEach [.Name y q] X.env := by rfl) :
    SE (X.suite p.1 ((p.1, oe) :: pn)) (eOp (opIsE p e b) (es1 ea)) (.Call (.Name "isinstance" p0) [o, .Name y q] [] pos) := by
  obtain ⟨ta, p1, q1⟩ := ha
  have := pe_callB (X := X.suite p.1 ((p.1, oe) :: pn)) (x := "isinstance") (p := p0) (pos := pos) (call_isF hE hz hf) hg hm (by decide +kernel) (pa_cons p1 (pa_cons (pe_bltn (v := .ty n) (pos := q) hg2 hy hvy rfl hny hd) pa_nil) hst) (by decide) (by decide) hst (by rfl)
  refine ⟨_, this, ?_⟩
  exact er_op (r := r1 fun x H Q => rIsF X.K (C e.1) p.1 (dOf p e) [x, .ty n] H Q) (ers_cons q1 ers_nil) (isE_rd (cv := .type n) (fun u hu => hu) hk)
/-- e.f in the suite -/
def fldOf (f : Str) : List PyData → List PyData → Option PyData
  | .str n :: ns, d :: ds => if n = f then some d else fldOf f ns ds
  | _, _ => none
def opFld (p : Nat × Nat) (e : Er) (f : Str) : List PyData → Option Op
  | [.dict [(.int a', .int e'), (.int d', .tuple [.list ns, .list ds])]] => if a' = (p.1 : Nat) ∧ e' = (e.1 : Nat) ∧ d' = (p.2 : Nat) ∧ e.2.isEmpty = false then (fldOf f ns ds).map .val else none
  | _ => none
theorem o_fld {p : Nat × Nat} {e : Er} {f : Str} {d : PyData} (h0 : e.2.isEmpty = false) (h : fldOf f (e.2.map fun z => .str z.1) (e.2.map Prod.snd) = some d) : opFld p e f [excD p e] = some (.val d) := by
  obtain ⟨e, fs⟩ := e
  cases fs with
  | nil => cases h0
  | cons q fs =>
    show (if ((p.1 : Nat) : Int) = (p.1 : Nat) ∧ ((e : Nat) : Int) = (e : Nat) ∧ ((p.2 : Nat) : Int) = (p.2 : Nat) ∧ _ then _ else none) = _
    rw [if_pos ⟨rfl, rfl, rfl, rfl⟩, h]; rfl
theorem fld_dps {K : PySem.W.Frag} {H : Hp} {f : Str} : ∀ {vs : List (Str × V)} {ds : List PyData} {d : PyData}, DxAll K H (vs.map Prod.snd) ds → fldOf f (vs.map fun z => .str z.1) ds = some d → ∃ v, vs.lookup f = some v ∧ Dx K H v d
  | [], _, _, _, e => by simp [fldOf] at e
  | (n, v) :: vs, _, d, h, e => by
    cases h with
    | cons h r =>
      have e : (if n = f then some _ else fldOf f (vs.map fun z => .str z.1) _) = some d := e
      split at e
      · rename_i z
        cases e
        exact ⟨v, by rw [lookup_put, if_pos z.symm], h⟩
      · rename_i z
        obtain ⟨v', h1, h2⟩ := fld_dps r e
        exact ⟨v', by rw [lookup_put, if_neg (fun q => z q.symm)]; exact h1, h2⟩
def rFld (a : Addr) (d : Option Addr) (f : Str) : V → Hp → VK → Prop := fun x H Q => x = .ref a ∧ ∃ (dd : Addr) (fs : List (Str × V)) (v : V), d = some dd ∧ H dd = some (.xd fs) ∧ fs.lookup f = some v ∧ Q v H
theorem fld_rd {K : PySem.W.Frag} {p : Nat × Nat} {e : Er} {f : Str} {ds : List PyData} {d : PyData} {G : Hp} {vs : List V} (h : opFld p e f ds = some (.val d)) (hd : DxAll K G vs ds) : ∃ v fs, vs = [.ref p.1] ∧ dOf p e = some p.2 ∧ G p.2 = some (.xd fs) ∧ fs.lookup f = some v ∧ Dx K G v d := by
  obtain ⟨a0, d0⟩ := p
  obtain ⟨e0, fs0⟩ := e
  unfold opFld at h
  split at h
  · rename_i a' e' d' ns ds'
    split at h
    · rename_i c
      obtain ⟨c1, _, c3, c4⟩ := c
      obtain ⟨d1, h1, h2⟩ := Option.map_eq_some_iff.mp h
      cases h2
      obtain ⟨v, rfl, h⟩ := dps1 hd
      cases h with
      | @exf a2 e2 d2 vs2 ds2 z1 z2 =>
        have c1 : (a2 : Int) = (a0 : Nat) := c1
        have : a2 = a0 := by omega
        subst this
        have c3 : (d2 : Int) = (d0 : Nat) := c3
        have : d2 = d0 := by omega
        subst this
        obtain ⟨v, l1, l2⟩ := fld_dps z2 h1
        cases fs0 with
        | nil => cases c4
        | cons _ _ => exact ⟨v, _, rfl, rfl, z1, l1, l2⟩
    · cases h
  · cases h
theorem ok_fld {K : PySem.W.Frag} {p : Nat × Nat} {e : Er} {f : Str} : OpOk K (r1 fun x H Q => rFld p.1 (dOf p e) f x H Q) (opFld p e f) where
  sc := fun ds d H vs Q h _ hd k => by
    obtain ⟨v, fs, rfl, h1, h2, h3, h4⟩ := fld_rd h hd
    exact ⟨rfl, p.2, fs, v, h1, h2, h3, k v h4⟩
  el := fun ds d G H vs Q h z s hd k => by
    have hg : ds = ds → DxAll K G vs ds := fun _ => by
      unfold opFld at h
      split at h
      · cases hd with
        | cons a r =>
          cases r
          cases a with
          | sh q => exact .cons q .nil
      · cases h
    obtain ⟨v, fs, rfl, h1, h2, h3, h4⟩ := fld_rd h (hg rfl)
    exact ⟨rfl, p.2, fs, v, h1, s _ _ h2, h3, k v h4⟩
  nl := fun ds es G H vs Q h => by
    unfold opFld at h
    split at h
    · split at h
      · obtain ⟨_, _, z⟩ := Option.map_eq_some_iff.mp h
        cases z
      · cases h
    · cases h
  nt := fun ds es G H vs Q h => by
    unfold opFld at h
    split at h
    · split at h
      · obtain ⟨_, _, z⟩ := Option.map_eq_some_iff.mp h
        cases z
      · cases h
    · cases h
theorem se_fld {e : Er} {p : Nat × Nat} {oe : Obj} {pn : List (Addr × Obj)} {f : Str} {o : Expr} {ea : EvE} {pos : Pos} (hT : XfC X.K (C e.1)) (hno : PySem.W.findIn X.K (.ref (C e.1)) f = some none) (hz : Zc (.ref (C e.1)) (dOf p e) oe) (hf : ∃ vs, oe.data = .fields vs)
    (ha : SE (X.suite p.1 ((p.1, oe) :: pn)) ea o) (hb : attributeBase o f X.env (eval o X.env) = eval o X.env := by rfl) : SE (X.suite p.1 ((p.1, oe) :: pn)) (eOp (opFld p e f) (es1 ea)) (.Attribute o f pos) := by
  obtain ⟨ta, p1, q1⟩ := ha
  refine ⟨_, pe_xf (C := C e.1) hT hno hz hf p1 hb, ?_⟩
  refine fun σ τ G H os θ g r os' Q hl ht I ee k => ?_
  unfold eOp at ee
  split at ee
  · rename_i rs os1 e1
    split at ee
    · rename_i ds e2
      split at ee
      · rename_i res e3
        have ee : opOut os1 rs res = (r, os') := Option.some.inj ee
        refine (ers_cons q1 ers_nil) σ τ G H os θ g rs os1 (fun vs H1 => match vs with | [x] => x = .ref p.1 ∧ Value.ref (C e.1) = .ref (C e.1) ∧ ∃ (dd : Addr) (fs : List (Str × V)) (v : V), dOf p e = some dd ∧ H1 dd = some (.xd fs) ∧ fs.lookup f = some v ∧ Q v H1 | _ => False) hl ht I e1 fun vs H1 k1 => ?_
        have w : r1 (fun x H Q => rFld p.1 (dOf p e) f x H Q) vs H1 Q := op_fin ok_fld ht k1 e2 e3 ee k
        match vs, w with
        | [x], w => exact ⟨w.1, rfl, w.2⟩
      · cases ee
    · cases ee
  · cases ee
theorem kit_ref {K : PySem.W.Frag} {a c : Addr} {b : Bool} (hi : PySem.W.isClsIn K c = true) (ht : PySem.W.typeIn K (.ref c) = some (.type "type")) (hs : PySem.W.subIn K (.ref a) (.ref c) = some b) : PySem.W.kitCls K (.ref a) (.ref c) = some b := by
  have e2 : ((PySem.W.clsIn K c).isSome && PySem.W.typeIn K (.ref c) == some (.type "type")) = true := by
    have h2' : (PySem.W.clsIn K c).isSome = true := hi
    rw [h2', ht] <;> rfl
  show (if ((PySem.W.clsIn K c).isSome && PySem.W.typeIn K (.ref c) == some (.type "type")) = true then PySem.W.subIn K (.ref a) (.ref c) else none) = some b
  rw [if_pos e2]; exact hs
theorem errs_mk {K : PySem.W.Frag} {C : Nat → Addr} {nC : Nat} {sub : Nat → Nat → Bool} (hb : ∀ i, i < nC → PySem.W.subIn K (.ref (C i)) (.type "BaseException") = some true) (hi : ∀ i, i < nC → PySem.W.isClsIn K (C i) = true) (ht : ∀ i, i < nC → PySem.W.typeIn K (.ref (C i)) = some (.type "type"))
    (hs : ∀ i j, i < nC → j < nC → PySem.W.subIn K (.ref (C i)) (.ref (C j)) = some (sub i j)) (hr : ∀ i, i < nC → sub i i = true) : ErrsOk K C nC sub := fun i j h1 h2 => by
  have k := kit_ref (hi j h2) (ht j h2) (hs i j h1 h2)
  refine ⟨?_, ?_⟩
  · have e1 : (PySem.W.subIn K (.ref (C j)) (.type "BaseException") == some true) = true := by rw [hb j h2] <;> rfl
    show (if (PySem.W.subIn K (.ref (C j)) (.type "BaseException") == some true) = true then _ else none) = _
    rw [if_pos e1]; exact k
  · show (if ((Value.ref (C i)) == (Value.ref (C j))) = true then some true else _) = _
    split
    · rename_i z
      have z : Value.ref (C i) = Value.ref (C j) := eq_of_beq z
      injection z with z
      have e1 := hs i j h1 h2
      have e2 := hs i i h1 h1
      rw [← z] at e1
      rw [← e1, e2, hr i h1]
    · exact k
theorem errB_mk {K : PySem.W.Frag} {a : Addr} {T : String} {b : Bool} (hm : PySem.W.kitMeta T = true) (hs : PySem.W.subIn K (.ref a) (.type T) = some b) : PySem.W.kitOne K (.ref a) (.type T) = some b := by
  show (if ((Value.ref a) == (Value.type T)) = true then some true else (if PySem.W.kitMeta T = true then PySem.W.subIn K (.ref a) (.type T) else none)) = _
  rw [if_neg (by intro z; have := eq_of_beq z; cases this), if_pos hm]
  exact hs
end
end DX
/-! DXMore: gcd, texts of ints, f-strings, tuples of the top, comprehensions over pairs, calls without arguments. -/
namespace DX
open PySem PySem.Spec PyProof.Rows L2
section
variable {K : PySem.W.Frag} {X : Cx}
/-! ### gcd -/
def gcdI (a b : Int) : Int := ((Nat.gcd a.natAbs b.natAbs : Nat) : Int)
def opGcd := opII (fun _ _ => true) fun i j => .int (gcdI i j)
theorem ok_gcd : OpOk K rGcd opGcd := .ofSc (fun ds res e => by
    unfold opGcd opII at e
    split at e
    · rw [if_pos rfl] at e; cases e; exact ⟨_, rfl, rfl⟩
    · cases e) fun ds d H vs Q e hd k => by
    unfold opGcd opII at e
    split at e
    · rw [if_pos rfl] at e
      cases e
      obtain ⟨v, w, rfl, a, b⟩ := dps2 hd
      cases a; cases b
      exact ⟨_, _, rfl, k _ (.int _)⟩
    · cases e
theorem se_gcd {x : Str} {e f : Expr} {ev : EvEs} {p pos : Pos} (hm : X.mg x = some (.builtin "math.gcd")) (h : SEs X ev [e, f]) (hg : Gl X x := by rfl) (hdb : (x == ("__debug__" : Str)) = false := by decide)
    (he : starEach (e :: [f]) X.env = (false, eval e X.env) :: starEach [f] X.env := by rfl) (hpl : (backTo pos (starEach [f] X.env)).any (·.1) = false := by rfl) : SE X (eOp opGcd ev) (.Call (.Name x p) [e, f] [] pos) := by
  obtain ⟨ta, q1, q2⟩ := h
  exact ⟨_, pe_callBfun cr_gcd hg hm q1 hdb he hpl, er_op q2 ok_gcd⟩
theorem o_gcd {a b : Int} : opGcd [.int a, .int b] = some (.val (.int (gcdI a b))) := rfl

/-! ### str(int) -/
def strI (i : Int) : Str := toString i
def opStr : List PyData → Option Op
  | [.int i] => if Nat.blt i.natAbs.log2 1920 = true ∧ (strI i).length ≤ strMax then some (.val (.str (strI i))) else none
  | _ => none
theorem ok_str : OpOk K (fun xs H Q => ∃ i, xs = [.int i] ∧ i.natAbs.log2 < 1920 ∧ Q (.str (toString i)) H) opStr := .ofSc (fun ds res e => by
    unfold opStr at e
    split at e
    · split at e
      · cases e; exact ⟨_, rfl, rfl⟩
      · cases e
    · cases e) fun ds d H vs Q e hd k => by
    unfold opStr at e
    split at e
    · split at e
      · rename_i c
        cases e
        obtain ⟨v, rfl, a⟩ := dps1 hd
        cases a
        exact ⟨_, rfl, Nat.le_of_ble_eq_true c.1, k _ (.str _ c.2)⟩
      · cases e
    · cases e
theorem se_str1 {e : Expr} {ev : EvEs} {p pos : Pos} (hm : X.mg "str" = none) (h : SEs X ev [e]) (hg : Gl X "str" := by rfl) (he : starEach (e :: []) X.env = (false, eval e X.env) :: starEach [] X.env := by rfl) : SE X (eOp opStr ev) (.Call (.Name "str" p) [e] [] pos) := se_bt call_str_int ok_str hm h (by decide +kernel) hg (by decide) (by decide) he rfl

/-! ### tuples of the top -/
theorem se_globT {x : Str} {a : Addr} {d : PyData} {pos : Pos} (hm : X.mg x = some (.ref a)) (hd : ∀ H, Dx X.K H (.ref a) d) (hg : Gl X x := by rfl) (hdb : (x == ("__debug__" : Str)) = false := by decide) : SE X (eC d) (.Name x pos) :=
  ⟨_, pe_glob (v := .ref a) hg hm rfl hdb, er_c hd⟩
theorem dx_top2 {a : Addr} {o : Obj} {i j : Int} {t u : Tok} {n : Nat} (h : K.lookup a = some o) (hc : o.cls = .type "tuple") (hd : o.data = .seq #[.int i t, .int j u] n) (H : Hp) : Dx K H (.ref a) (.tuple [.int i, .int j]) :=
  .tup (.inr ⟨o, _, n, h, hc, hd, by show 2 ≤ sizeLine; decide, (show Vals [V.int i, V.int j] [Value.int i t, Value.int j u] from .cons ⟨t, rfl⟩ (.cons ⟨u, rfl⟩ .nil))⟩) (.cons (.int i) (.cons (.int j) .nil))

/-! ### a call without arguments -/
theorem pe_callG0 {k : Nat} {f : Addr} {fd : FuncData} {ps : List Str} {sp : Sp} {x : Str} {p pos : Pos} (F : FnG X.prog X.w X.K X.mg X.base k f fd ps sp) (hA : X.A.guards = some []) (hr : Room k X.A) (hm : X.mg x = some (.ref f)) (hk : PySem.W.keepIn X.K (.ref f) = true) (hb : Bd fd ps 0 0 [] [])
    (hg : Gl X x := by rfl) (hdb : (x == ("__debug__" : Str)) = false := by decide) : PE X (.Call (.Name x p) [] [] pos) (tCallG sp [] 0 tNil) := by
  refine ⟨fun pins s σ H Q I h => ?_⟩
  refine wpAny_Call_Name_kw (ld_glob I hg hm ?_ hdb)
  refine PySem.W.callWith_K0 (first := []) I.kIn hk ?_
  obtain ⟨_, q⟩ := h
  exact callG_core (np := 0) (ks := []) (us := []) (vs := []) F hA hr hb I .nil rfl q
theorem se_call00 {k : Nat} {f : Addr} {fd : FuncData} {ps : List Str} {x : Str} {p pos : Pos} {m : List OD → Option OD} (F : FnG X.prog X.w X.K X.mg X.base k f fd ps (sp0 X.K m 0)) (hA : X.A.guards = some []) (hr : Room k X.A) (hm : X.mg x = some (.ref f)) (hk : PySem.W.keepIn X.K (.ref f) = true) (hb : Bd fd ps 0 0 [] [])
    (hg : Gl X x := by rfl) (hdb : (x == ("__debug__" : Str)) = false := by decide) : SE X (eFn0 m 0 [] esNil) (.Call (.Name x p) [] [] pos) :=
  ⟨_, pe_callG0 F hA hr hm hk hb hg hdb, er_fn0 ers_nil⟩

/-! ### f-strings -/
/-- the parts: a text, or an int as a text -/
def txt? : PyData → Option Str
  | .str y => some y
  | .int i => if Nat.blt i.natAbs.log2 1920 = true ∧ (strI i).length ≤ strMax then some (strI i) else none
  | _ => none
def JR (K : PySem.W.Frag) (ev : Str → En → Option (Str × En)) (ts : List TE) : Prop := ∀ (acc : Str) (σ τ : List (Option V)) (G H : Hp) (os θ : En) (f : FP) (y : Str) (os' : En) (Q : Str → Hp → Prop),
  σ.length = os.length → τ.length = θ.length → SI K G H (σ ++ τ) (os ++ θ) f → ev acc os = some (y, os') → (∀ H', KontT K σ τ G H f os' θ H' → Q y H') → tJs ts acc σ H Q
def SJ (X : Cx) (ev : Str → En → Option (Str × En)) (es : List Expr) : Prop := ∃ ts, PJ X es ts ∧ JR X.K ev ts
def jNil : Str → En → Option (Str × En) := fun acc os => some (acc, os)
def jCons (ea : EvE) (er : Str → En → Option (Str × En)) : Str → En → Option (Str × En) := fun acc os => match ea os with
  | some (r, os1) => match r.rd os1 with
    | some d => match txt? d with
      | some y => if (acc ++ y).length ≤ strMax then er (acc ++ y) os1 else none
      | none => none
    | none => none
  | none => none
theorem sj_nil : SJ X jNil [] := ⟨[], .nil, fun acc σ τ G H os θ f y os' Q hl ht I e k => by
  cases e
  exact k H ⟨G, f, I, Stp.refl _ _ _, hl⟩⟩
theorem sj_fmt {e : Expr} {es : List Expr} {ea : EvE} {er : Str → En → Option (Str × En)} {pos : Pos} (h : SE X ea e) (g : SJ X er es) : SJ X (jCons ea er) (.FormattedValue e (-1) none pos :: es) := by
  obtain ⟨te, p, q⟩ := h
  obtain ⟨ts, p2, q2⟩ := g
  refine ⟨_, .cons (pe_fmt p) p2, fun acc σ τ G H os θ f y os' Q hl ht I e k => ?_⟩
  unfold jCons at e
  split at e
  · rename_i r os1 e1
    split at e
    · rename_i d e2
      split at e
      · rename_i z e3
        split at e
        · rename_i hz
          refine q σ τ G H os θ f r os1 _ hl ht I e1 fun v H1 k1 => ?_
          have hv := k1.read1 ht e2
          obtain ⟨G1, f1, I1, s1, l1⟩ := k1.drop ht
          have rest : tJs ts (acc ++ z) σ H1 Q := q2 (acc ++ z) σ τ G1 H1 os1 θ f1 y os' Q l1 ht I1 e fun H' kk => k H' (kk.step s1)
          cases hv with
          | str x hx =>
            cases e3
            exact .inl ⟨_, rfl, strMax_le' hx, _, rfl, strMax_le' hz, rest⟩
          | int i =>
            simp only [txt?] at e3
            split at e3
            · rename_i c
              cases e3
              exact .inr ⟨_, rfl, Nat.le_of_ble_eq_true c.1, _, rfl, strMax_le' hz, rest⟩
            · cases e3
          | _ => cases e3
        · cases e
      · cases e
    · cases e
  · cases e
theorem sj_str {x : Str} {j : Nat} {es : List Expr} {er : Str → En → Option (Str × En)} {pos : Pos} (g : SJ X er es) (hx : x.length ≤ strMax := by decide +kernel) : SJ X (jCons (eC (.str x)) er) (.Constant (.str x) j pos :: es) := by
  obtain ⟨ts, p2, q2⟩ := g
  refine ⟨_, .cons pe_str p2, fun acc σ τ G H os θ f y os' Q hl ht I e k => ?_⟩
  unfold jCons eC at e
  simp only [RV.rd, OD.er, txt?] at e
  split at e
  · rename_i hz
    exact ⟨_, rfl, strMax_le' hz, q2 (acc ++ x) σ τ G H os θ f y os' Q hl ht I e k⟩
  · cases e
def eJoin (ev : Str → En → Option (Str × En)) : EvE := fun os => match ev Str.empty os with
  | some (y, os1) => if y.length ≤ strMax then some (.tm (.sh (.str y)), os1) else none
  | none => none
theorem se_joined {v1 v2 : Expr} {rest : List Expr} {ev : Str → En → Option (Str × En)} {pos : Pos} (h : SJ X ev (v1 :: v2 :: rest)) : SE X (eJoin ev) (.JoinedStr (v1 :: v2 :: rest) pos) := by
  obtain ⟨ts, p, q⟩ := h
  refine ⟨_, pe_joined p, fun σ τ G H os θ f r os' Q hl ht I e k => ?_⟩
  unfold eJoin at e
  split at e
  · rename_i y os1 e1
    split at e
    · rename_i hy
      cases e
      refine q Str.empty σ τ G H os θ f y os' _ hl ht I e1 fun H' kk => ?_
      obtain ⟨G1, f1, I1, s1, l1⟩ := kk
      exact k _ H' ((Kont.sh l1 I1 (.str y hy)).step s1)
    · cases e
  · cases e

/-! ### comprehensions over pairs -/
section
variable {R : List Nat} {elt iter c : Expr} {x y : Str} {px py pt pos : Pos} {kt : Nat} {scope : Scope} {i j : Nat} {it : EvI} {ev : EvE} {cc : EvT}
abbrev gv2 (i j : Nat) : EvG := gvTup 2 (gvCons (gvName [] i) (gvCons (gvName [] j) gvNil))
abbrev tg2 (x y : Str) (px py pt : Pos) (kt : Nat) : Expr := .Tuple [.Name x px, .Name y py] kt pt
theorem se_lc2 (i j : Nat) (hc : X.calm = true) (hN : X.N.Nodup) (hi : SI' X (tg2 x y px py pt kt) it iter) (he : ∀ (s : Shared) (H : Hp) (C : Addr) (cl : List (Str × Addr)) (fp : List Addr), SE (X.blk s H scope (compEnvC scope cl C X.env) fp) ev elt)
    (ok : BlkOk X.N X.env.scope scope [(x, i), (y, j)])
    (hg : ∀ (s : Shared) (H : Hp) (C : Addr) (cl : List (Str × Addr)) (fp : List Addr), PG (X.blk s H scope (compEnvC scope cl C X.env) fp) (tg2 x y px py pt kt) (gTup X.K 2 (gCons (gName i) (gCons (gName j) gNil))))
    (hs : ∀ v, foldedSetIterable iter X.env v = pure v := by intro _; rfl) : SE X (eLc [i, j] it (gv2 i j) cYes ev) (.ListComp elt [⟨tg2 x y px py pt kt, iter, [], 0⟩] scope pos) := by
  obtain ⟨wi, p, q⟩ := hi
  exact ⟨_, pe_lc (own := [(x, i), (y, j)]) hc hN p ok hg (fun _ _ _ _ _ => pts_nil) (fun s H C cl fp => (he s H C cl fp).pe) hs, er_lc q (tgc_two (by simp) (by simp)) tr_yes (er_of ev)⟩
theorem se_lcIf2 (i j : Nat) (hc : X.calm = true) (hN : X.N.Nodup) (hi : SI' X (tg2 x y px py pt kt) it iter) (ht : ∀ (s : Shared) (H : Hp) (C : Addr) (cl : List (Str × Addr)) (fp : List Addr), STt (X.blk s H scope (compEnvC scope cl C X.env) fp) cc c) (he : ∀ (s : Shared) (H : Hp) (C : Addr) (cl : List (Str × Addr)) (fp : List Addr), SE (X.blk s H scope (compEnvC scope cl C X.env) fp) ev elt)
    (ok : BlkOk X.N X.env.scope scope [(x, i), (y, j)])
    (hg : ∀ (s : Shared) (H : Hp) (C : Addr) (cl : List (Str × Addr)) (fp : List Addr), PG (X.blk s H scope (compEnvC scope cl C X.env) fp) (tg2 x y px py pt kt) (gTup X.K 2 (gCons (gName i) (gCons (gName j) gNil))))
    (hs : ∀ v, foldedSetIterable iter X.env v = pure v := by intro _; rfl) : SE X (eLc [i, j] it (gv2 i j) cc ev) (.ListComp elt [⟨tg2 x y px py pt kt, iter, [c], 0⟩] scope pos) := by
  obtain ⟨wi, p, q⟩ := hi
  exact ⟨_, pe_lc (own := [(x, i), (y, j)]) hc hN p ok hg (fun s H C cl fp => pts_one (ht s H C cl fp).pt) (fun s H C cl fp => (he s H C cl fp).pe) hs, er_lc q (tgc_two (by simp) (by simp)) (tr_of cc) (er_of ev)⟩
end
end
end DX
/-! DXTpl: tuples whose items are owned. -/
namespace DX
open PySem PySem.Spec PyProof.Rows L2

section
variable {K : PySem.W.Frag} {X : Cx} {R : List Nat}
/-- the operands, moved out of their slots -/
def mvs (os : En) : List RV → Option (List OD × En)
  | [] => some ([], os)
  | r :: rs => match give os r with
    | some (o, os1) => match mvs os1 rs with
      | some (xs, os2) => some (o :: xs, os2)
      | none => none
    | none => none
def eTupO (es : EvEs) : EvE := fun os => match es os with
  | some (rs, os1) => match mvs os1 rs with
    | some (xs, os2) => if xs.length ≤ sizeLine then some (.tm (.tpl xs), os2) else none
    | none => none
  | none => none
theorem mvs_ok {G H : Hp} {σ : L2.St} : ∀ {vs : List V} {rs : List RV} {os os' : En} {xs : List OD} {f1 f2 : FP}, Als σ vs rs → SL K G H σ os f1 → SL K G H (vs.map some) (rs.map RV.od) f2 → mvs os rs = some (xs, os') →
    ∃ g f3, ROs K G H vs xs g ∧ SL K G H σ os' f3 ∧ os'.length = os.length ∧ ∀ a, g a + f3 a ≤ f1 a + f2 a
  | _, _, os, os', xs, f1, f2, .nil, h, _, e => by
    cases e
    exact ⟨_, f1, .nil, h, rfl, fun a => by (try dsimp only); omega⟩
  | v :: vs, r :: rs, os, os', xs, f1, f2, .cons a q, h, s, e => by
    unfold mvs at e
    split at e
    · rename_i o os1 e1
      split at e
      · rename_i ys os2 e2
        cases e
        cases r with
        | tm o' =>
          cases e1
          cases s with
          | val q1 s =>
            obtain ⟨g, f3, r1, r2, r3, r4⟩ := mvs_ok q h s e2
            exact ⟨_, f3, .cons q1 r1, r2, r3, fun a => by (try dsimp only); have := r4 a; omega⟩
        | al i =>
          cases s with
          | un s =>
            have hv : σ[i]? = some (some v) := a
            have e1 : (match os[i]? with | some (some (.sh d)) => some (OD.sh d, os) | some (some (.lst xs)) => some (OD.lst xs, os.set i none) | some (some (.tpl xs)) => some (OD.tpl xs, os.set i none) | _ => none) = some (o, os1) := e1
            split at e1
            · rename_i d e3
              cases e1
              obtain ⟨v', fo, fr, q2, q3, _⟩ := h.at e3
              rw [hv] at q2; cases q2
              obtain ⟨g, f3, r1, r2, r3, r4⟩ := mvs_ok q h s e2
              cases q3 with
              | sh q3 => exact ⟨_, f3, .cons (.sh q3) r1, r2, r3, fun a => by (try dsimp only); have := r4 a; omega⟩
            · rename_i zs e3
              cases e1
              obtain ⟨v', fo, fr, q2, q3, q4, q5⟩ := SL.out h e3
              rw [hv] at q2; cases q2
              obtain ⟨g, f3, r1, r2, r3, r4⟩ := mvs_ok q q5 s e2
              exact ⟨_, f3, .cons q3 r1, r2, by rw [r3, List.length_set], fun a => by (try dsimp only); have := r4 a; rw [q4 a]; omega⟩
            · rename_i zs e3
              cases e1
              obtain ⟨v', fo, fr, q2, q3, q4, q5⟩ := SL.out h e3
              rw [hv] at q2; cases q2
              obtain ⟨g, f3, r1, r2, r3, r4⟩ := mvs_ok q q5 s e2
              exact ⟨_, f3, .cons q3 r1, r2, by rw [r3, List.length_set], fun a => by (try dsimp only); have := r4 a; rw [q4 a]; omega⟩
            · cases e1
      · cases e
    · cases e
/-- a new tuple, its items as they are owned -/
theorem pushTpl {G H : Hp} {vs : List (Option V)} {os : En} {f h g : FP} {xs : List V} {ys : List OD} (I : ∀ a, f a ≤ 1) (hid : ∀ a, f a ≠ 0 → G a = none) (sub : Sub G H) (tk : TkOk K G H) (live : ∀ a, f a ≠ 0 → H a ≠ none) (hs : SL K G H vs os h) (q : ROs K G H xs ys g) (le : ∀ a, g a + h a ≤ f a) {p : Addr} (hp : H p = none) :
    ∃ k, SI K (upd G p (.tup xs)) (upd H p (.tup xs)) (vs ++ [some (.ref p)]) (os ++ [some (.tpl ys)]) k ∧ Stp G H f (upd G p (.tup xs)) (upd H p (.tup xs)) k := by
  have gp : G p = none := by
    cases hg : G p with
    | none => rfl
    | some u => have := sub p u hg; rw [hp] at this; cases this
  have sg : Sub G (upd G p (.tup xs)) := sub_upd (Sub.refl _) gp
  have sb : Sub H (upd H p (.tup xs)) := sub_upd (Sub.refl _) hp
  have hfp : f p = 0 := by
    by_cases e : f p = 0
    · exact e
    · exact absurd hp (live p e)
  have r : RO K (upd G p (.tup xs)) (upd H p (.tup xs)) (.ref p) (.tpl ys) g := .tpl (SqT.of upd_same) (q.mono sg fun a _ _ e => sb a _ e)
  obtain ⟨k, k1, k2⟩ := SL.app (hs.mono sg fun a _ _ e => sb a _ e) (SL.val r .nil)
  have kle : ∀ a, k a ≤ f a := fun a => by rw [k2]; (try dsimp only); have := le a; omega
  refine ⟨k, ⟨k1, sub_upd2 sub, fun a => Nat.le_trans (kle a) (I a), fun a z => ?_, tk.tup hp⟩, ⟨sg, fun a o e _ => sb a _ e, fun a e => ?_, fun a e => ?_, fun a z => .inl (by have := kle a; omega)⟩⟩
  · have z' : f a ≠ 0 := by have := kle a; omega
    rw [upd_ne (fun e => by subst e; exact z' hfp)]
    exact hid a z'
  · cases e' : H a with
    | none => exact absurd e' e
    | some u => rw [sb a u e']; simp
  · by_cases z : a = p
    · subst z; exact .inr (.inl hp)
    · rw [upd_ne z] at e; exact .inl e
theorem er_tupO {ev : EvEs} {ta : TA} (h : ERs K ev ta) : ER K (eTupO ev) (tTup ta) := fun σ τ G H os θ f r os' Q hl ht I e k => by
  unfold eTupO at e
  split at e
  · rename_i rs os1 e1
    split at e
    · rename_i xs os2 e2
      split at e
      · rename_i c
        cases e
        refine h σ τ G H os θ f rs os1 _ hl ht I e1 fun vs H1 k1 => ?_
        obtain ⟨G1, f1, I1, s1, a1, l1⟩ := k1
        obtain ⟨g1, k1, c1, c2, c3⟩ := SL.cut l1 I1.sl
        obtain ⟨g2, k2, c4, c5, c6⟩ := SL.cut ht c2
        obtain ⟨g, f3, m1, m2, m3, m4⟩ := mvs_ok a1 c1 c5 e2
        refine ⟨by rw [m1.len]; exact c, fun p hp => ?_⟩
        obtain ⟨h3, d1, d2⟩ := SL.app m2 c4
        obtain ⟨k4, I4, s4⟩ := pushTpl I1.one I1.hid I1.sub I1.tk I1.live d1 m1 (fun a => by rw [d2, c3, c6]; have := m4 a; omega) hp
        exact k _ _ ⟨_, k4, by simpa [List.append_assoc, RV.od] using I4, s1.trans s4, .cons trivial .nil, by rw [m3]; exact l1⟩
      · cases e
    · cases e
  · cases e
theorem se_tupO {es : List Expr} {ev : EvEs} {x1 pos} (h : SEs X ev es) : SE X (eTupO ev) (.Tuple es x1 pos) := by
  obtain ⟨ta, p, q⟩ := h
  exact ⟨_, pe_tup p, er_tupO q⟩
def sAppTp (i : Nat) (ek ev : EvE) : EvS := fun os => match os[i]? with
  | some (some (.tpl _)) => match ek os with
    | some (rk, os1) => match rk.rd os1, os1[i]? with
      | some (.int k), some (some (.tpl xs)) => match ixN xs.length k with
        | some j => match xs[j]? with
          | some (.lst ys) => match ev (os1.set i none) with
            | some (.tm o, os2) => match os2[i]? with
              | some none => if ys.length < sizeLine then some (.nx (os2.set i (some (.tpl (xs.set j (.lst (ys ++ [o]))))))) else none
              | _ => none
            | _ => none
          | _ => none
        | none => none
      | _, _ => none
    | none => none
  | _ => none
theorem sr_appTp {i : Nat} {ek ev : EvE} {tk te : TE} (hk : ER K ek tk) (h : ER K ev te) : SR K R (sAppTp i ek ev) (tDrop (tBM K "list" rAppend (tOp (rIx K) (tVar i) tk) (tCons te tNil))) := fun σ G H os f res D hl I e k => by
  unfold sAppTp at e
  split at e
  · rename_i zs e0
    obtain ⟨v0, _, _, w1, w2, _⟩ := I.sl.at e0
    have w3 : ∃ p, v0 = .ref p := by
      cases w2 with
      | tpl hp _ => exact ⟨_, rfl⟩
    obtain ⟨p0, rfl⟩ := w3
    split at e
    · rename_i rk os1 e1
      split at e
      · rename_i kk xs e2 e3
        split at e
        · rename_i j e4
          split at e
          · rename_i ys e5
            split at e
            · rename_i o os2 e6
              split at e
              · rename_i e7
                split at e
                · rename_i hsz
                  cases e
                  refine ⟨.ref p0, w1, ?_⟩
                  refine hk σ [] G H os [] f rk os1 _ hl rfl (by simpa using I) e1 fun vk H1 k1 => ?_
                  have hv := k1.read1 rfl e2
                  cases hv
                  obtain ⟨G1, f1, I1, s1, l1⟩ := k1.drop rfl
                  have I1 : SI K G1 H1 σ os1 f1 := by simpa using I1
                  obtain ⟨w, fo, fr, m1, m2, m3, m4⟩ := SL.out I1.sl e3
                  rw [w1] at m1; cases m1
                  cases m2 with
                  | tpl hp0 hro =>
                    rename_i vs0
                    obtain ⟨p, us, g0, fr1, n1, n2, n3, n4, n5⟩ := hro.inner e5
                    have hat : atI vs0 kk = some (.ref p) := by
                      unfold atI
                      rw [hro.len, e4]
                      exact n1
                    refine .inr (.inl ⟨p0, vs0, kk, .ref p, rfl, rfl, sqT_sub I1.sub hp0, hat, ?_⟩)
                    refine ⟨.inl ⟨rfl, us, .inl (.inl n2)⟩, ?_⟩
                    have hf : ∀ a, f1 a = fo a + fr a := m3
                    have J1 : SI K G1 H1 σ (os1.set i none) fr := I1.forget m4 fun a => by rw [hf]; omega
                    refine h σ [] G1 H1 (os1.set i none) [] fr _ os2 _ (by simp [l1]) rfl (by simpa using J1) e6 fun v H2 k2 => ?_
                    obtain ⟨G2, f2, I2, s2, _, l2⟩ := k2
                    have I2 : SI K G2 H2 (σ ++ [some v]) (os2 ++ [some o]) f2 := by simpa [RV.od] using I2
                    obtain ⟨v', fv, f3, ev', qv, rs, hfv⟩ := I2.last l2
                    cases ev'
                    -- what is hidden stands still
                    have hz : ∀ a, fo a ≠ 0 → fr a = 0 ∧ H1 a ≠ none ∧ f2 a = 0 ∧ G2 a = none := fun a z => by
                      have one := I1.one a
                      rw [hf] at one
                      have fz : fr a = 0 := by omega
                      have hl1 : H1 a ≠ none := I1.live a (by rw [hf]; omega)
                      refine ⟨fz, hl1, ?_, ?_⟩
                      · by_cases y : f2 a = 0
                        · exact y
                        · rcases s2.fnew a y with t | t
                          · exact absurd fz t
                          · exact absurd t hl1
                      · cases y : G2 a with
                        | none => rfl
                        | some u =>
                          rcases s2.gnew a (by rw [y]; simp) with t | t | t
                          · exact absurd (I1.hid a (by rw [hf]; omega)) t
                          · exact absurd t hl1
                          · exact absurd fz t
                    have keep2 : ∀ a xs, fo a ≠ 0 → H1 a = some (.lst xs) → H2 a = some (.lst xs) := fun a xs z e => s2.keep a xs e (hz a z).1
                    have hro2 : ROs K G2 H2 vs0 xs fo := hro.mono s2.gsub fun a u z e => keep2 a u (by omega) e
                    obtain ⟨p', us', g0', fr1', a1, a2, a3, a4, a5⟩ := hro2.inner e5
                    rw [n1] at a1; cases a1
                    have hp2 : H2 p = some (.lst us) := keep2 p _ (by rw [a4, if_pos (c := p = p) rfl]; omega) n2
                    rw [hp2] at a2; cases a2
                    refine ⟨p, us, v, rfl, rfl, hp2, by rw [n3.len]; exact hsz, ?_⟩
                    have out : ∀ a u, a ≠ p → H2 a = some u → (upd H2 p (.lst (us ++ [v]))) a = some u := fun a u z e => by rw [upd_ne z]; exact e
                    have onep : ∀ a, ((if a = p then 1 else 0) + g0' a + fr1' a) ≤ 1 := fun a => by have := I1.one a; rw [hf, a4] at this; omega
                    have q0 : g0' p = 0 ∧ fr1' p = 0 := by have := onep p; rw [if_pos (c := p = p) rfl] at this; omega
                    have zp := hz p (by rw [a4, if_pos (c := p = p) rfl]; omega)
                    have fvz : fv p = 0 ∧ f3 p = 0 := by
                      have := zp.2.2.1
                      rw [hfv] at this; omega
                    obtain ⟨gk, r1, r2⟩ := ROs.app (a3.mono (G' := G2) (H' := upd H2 p (.lst (us ++ [v]))) (Sub.refl _) fun a u z e => out a _ (fun y => by subst y; exact z q0.1) e)
                      (ROs.one (qv.mono (Sub.refl _) fun a u z e => out a _ (fun y => by subst y; exact z fvz.1) e))
                    obtain ⟨f6, b1, b2⟩ := a5 (upd H2 p (.lst (us ++ [v]))) (us ++ [v]) (ys ++ [o]) gk (fun a u z e => out a _ (fun y => by subst y; exact z q0.2) e) upd_same r1
                    have rs3 := rs.mono (G' := G2) (H' := upd H2 p (.lst (us ++ [v]))) (Sub.refl _) fun a u z e => out a _ (fun y => by subst y; exact z fvz.2) e
                    obtain ⟨f7, c1, c2⟩ := SL.into rs3 e7 w1 (.tpl (sqT_sub s2.gsub hp0) b1)
                    have c3 : ∀ a, f7 a = f3 a + ((if a = p then 1 else 0) + (g0' a + fv a) + fr1' a) := fun a => by rw [c2]; (try dsimp only); rw [b2, r2]
                    have c4 : ∀ a, f7 a = f2 a + fo a := fun a => by rw [c3, hfv, a4]; omega
                    refine k σ _ ⟨G2, f7, ⟨c1, fun a u z => out a u (fun y => by subst y; rw [zp.2.2.2] at z; cases z) (I2.sub a u z), fun a => ?_, fun a z => ?_, I2.tk.lst' hp2⟩, s1.trans ⟨s2.gsub, fun a u z y => ?_, fun a z => ?_, fun a z => ?_, fun a z => ?_⟩, by simp [l2], fun _ _ => rfl⟩
                    · rw [c4]
                      by_cases y : fo a = 0
                      · have := I2.one a; omega
                      · have t := hz a y
                        have := I1.one a; rw [hf] at this
                        omega
                    · by_cases y : fo a = 0
                      · rw [c4, y] at z
                        exact I2.hid a (by omega)
                      · exact (hz a y).2.2.2
                    · refine out a _ (fun t => ?_) (s2.keep a _ z (by rw [hf] at y; omega))
                      subst t
                      rw [hf, a4, if_pos (c := a = a) rfl] at y
                      omega
                    · by_cases t : a = p
                      · subst t; rw [upd_same]; simp
                      · rw [upd_ne t]; exact s2.dom a z
                    · rcases s2.gnew a z with t | t | t
                      · exact .inl t
                      · exact .inr (.inl t)
                      · exact .inr (.inr (by rw [hf]; omega))
                    · rw [c4] at z
                      by_cases y : fo a = 0
                      · rcases s2.fnew a (by omega) with t | t
                        · exact .inl (by rw [hf]; omega)
                        · exact .inr t
                      · exact .inl (by rw [hf]; omega)
                · cases e
              · cases e
            · cases e
          · cases e
        · cases e
      · cases e
    · cases e
  · cases e
theorem ss_appTp (i : Nat) {x : Str} {ie e : Expr} {ek ev : EvE} {px spos apos cpos pos : Pos} (hk : SE X ek ie) (h : SE X ev e) (hN : X.N[i]? = some x := by rfl) (hv : Vis X.env.scope x := by first | exact Or.inl rfl | exact Or.inr (Or.inl rfl) | exact Or.inr (Or.inr rfl))
    (hpi : PlainIx ie := by exact fun _ _ => rfl) (hd : (x == ("__debug__" : Str)) = false := by decide) (hcd : (x == ("__classdict__" : Str)) = false := by decide) (hst : starEach (e :: []) X.env = (false, eval e X.env) :: starEach [] X.env := by rfl)
    (hbase : attributeBase (.Subscript (.Name x px) ie spos) "append" X.env (eval (.Subscript (.Name x px) ie spos) X.env) = eval (.Subscript (.Name x px) ie spos) X.env := by rfl)
    (hfew : ((backTo cpos (starEach (e :: []) X.env)).all (fun x => !x.1) && (backToKw cpos (keywordEach [] X.env)).all (fun x => x.1.isSome) && decide ((e :: ([] : List Expr)).length + ([] : List Keyword).length + (if ([] : List Keyword).isEmpty then 0 else 1) < 30)) = true := by rfl)
    (hs : swapsWith (.Call (.Attribute (.Subscript (.Name x px) ie spos) "append" apos) [e] [] cpos) none pos.line X.env = pure false := by rfl) (hline : (apos.endLine == cpos.line) = true := by rfl) :
    SS X R (sAppTp i ek ev) (.Expr (.Call (.Attribute (.Subscript (.Name x px) ie spos) "append" apos) [e] [] cpos) pos) := by
  obtain ⟨te, p, q⟩ := h
  obtain ⟨tk, p', q'⟩ := hk
  exact ⟨_, ps_expr (pe_bm PySem.F.plainAttrs_list PySem.F.slot_list_append PySem.F.type_list_append mt_append (pe_ix ix_seq (pe_var hN hv hd hcd) p' hpi) (pa_cons p pa_nil hst) hbase hfew hline hst (by rfl)) hs, sr_appTp q' q⟩

def tpl? : Option OD → Option (List OD)
  | some (.tpl xs) => some xs
  | _ => none
theorem k_tpl {xs : List OD} : tpl? (some (.tpl xs)) = some xs := rfl
theorem k_shTp {xs : List OD} : (OD.tpl xs).isSh = false := rfl
theorem b_mvNil {os : En} : mvs os [] = some ([], os) := rfl
theorem b_mvCons {os : En} {r : RV} {rs : List RV} : mvs os (r :: rs) = (give os r).bind fun p => (mvs p.2 rs).bind fun q => some (p.1 :: q.1, q.2) := by
  show (match give os r with | some (o, os1) => _ | none => none) = _
  cases give os r with
  | none => rfl
  | some p =>
    simp only [Option.bind_some]
    cases mvs p.2 rs <;> rfl
theorem b_eTupO {os : En} {es : EvEs} : eTupO es os = (es os).bind fun p => (mvs p.2 p.1).bind fun q => cond (Nat.ble q.1.length sizeLine) (some (.tm (.tpl q.1), q.2)) none := by
  unfold eTupO
  cases es os with
  | none => rfl
  | some p =>
    simp only [Option.bind_some]
    cases mvs p.2 p.1 with
    | none => rfl
    | some q =>
      simp only [Option.bind_some]
      by_cases h : q.1.length ≤ sizeLine
      · rw [if_pos h, Nat.ble_eq_true_of_le h]; rfl
      · rw [if_neg h, Bool.eq_false_iff.mpr fun z => h (Nat.le_of_ble_eq_true z)]; rfl
theorem b_sAppTp {os : En} {i : Nat} {ek ev : EvE} : sAppTp i ek ev os = ((os[i]?).bind tpl?).bind fun _ => (ek os).bind fun p => (p.1.rd p.2).bind fun k => (int? k).bind fun k => ((p.2[i]?).bind tpl?).bind fun xs => (ixN xs.length k).bind fun j => (lst? xs[j]?).bind fun ys =>
    (ev (p.2.set i none)).bind fun q => q.1.od.bind fun o => cond ((q.2[i]?).any Option.isNone && Nat.blt ys.length sizeLine) (some (.nx (q.2.set i (some (.tpl (xs.set j (.lst (ys ++ [o])))))))) none := by
  unfold sAppTp
  cases h0 : os[i]? with
  | none => rfl
  | some s =>
    cases s with
    | none => rfl
    | some o =>
      cases o with
      | sh _ => rfl
      | lst _ => rfl
      | tpl ys =>
        simp only [Option.bind_some, tpl?]
        cases ek os with
        | none => rfl
        | some p =>
          obtain ⟨rk, os1⟩ := p
          simp only [Option.bind_some]
          cases rk.rd os1 with
          | none => rfl
          | some k =>
            cases k with
            | int k =>
              simp only [Option.bind_some, int?]
              cases os1[i]? with
              | none => rfl
              | some s =>
                cases s with
                | none => rfl
                | some o =>
                  cases o with
                  | sh _ => rfl
                  | lst _ => rfl
                  | tpl xs =>
                    simp only [Option.bind_some, tpl?]
                    cases ixN xs.length k with
                    | none => rfl
                    | some j =>
                      simp only [Option.bind_some, lst?]
                      cases xs[j]? with
                      | none => rfl
                      | some o =>
                        cases o with
                        | sh _ => rfl
                        | tpl _ => rfl
                        | lst ys =>
                          simp only [Option.bind_some]
                          cases ev (os1.set i none) with
                          | none => rfl
                          | some q =>
                            obtain ⟨r, os2⟩ := q
                            cases r with
                            | al _ => rfl
                            | tm o =>
                              simp only [Option.bind_some, RV.od]
                              cases os2[i]? with
                              | none => rfl
                              | some s =>
                                cases s with
                                | some _ => rfl
                                | none =>
                                  simp only [Option.any, Option.isNone, Bool.true_and]
                                  by_cases h : ys.length < sizeLine
                                  · rw [if_pos h, show Nat.blt ys.length sizeLine = true from Nat.ble_eq_true_of_le h]; rfl
                                  · rw [if_neg h, show Nat.blt ys.length sizeLine = false from Bool.eq_false_iff.mpr fun z => h (Nat.le_of_ble_eq_true z)]; rfl
            | _ => rfl

/-! ### an operation on a list display that dies with it: nothing is made shared -/
def sc? : Op → Option PyData
  | .val d => if isSc d then some d else none
  | _ => none
def eOpL (fn : List PyData → Option Op) (es : EvEs) : EvE := fun os => match es os with
  | some (rs, os1) => match rdAll os1 rs with
    | some ds => if ds.length ≤ sizeLine then match fn [.list ds] with
      | some res => match sc? res with
        | some d => some (.tm (.sh d), os1)
        | none => none
      | none => none
      else none
    | none => none
  | none => none
theorem er_opL {fn : List PyData → Option Op} {ev : EvEs} {ta : TA} {r : List V → Hp → VK → Prop} (h : ERs K ev ta) (ok : OpOk K r fn) : ER K (eOpL fn ev) (fun σ H Q => tCons (tLst ta) tNil σ H fun vs H1 => r vs H1 Q) := fun σ τ G H os θ f r' os' Q hl ht I e k => by
  unfold eOpL at e
  split at e
  · rename_i rs os1 e1
    split at e
    · rename_i ds e2
      split at e
      · rename_i c
        split at e
        · rename_i res e3
          split at e
          · rename_i d e4
            cases e
            have e5 : res = .val d ∧ isSc d = true := by
              cases res with
              | val d' =>
                have e4 : (if isSc d' = true then some d' else none) = some d := e4
                split at e4
                · rename_i z; cases e4; exact ⟨rfl, z⟩
                · cases e4
              | nl _ => cases e4
              | nt _ => cases e4
            obtain ⟨rfl, hc⟩ := e5
            refine h σ τ G H os θ f rs _ _ hl ht I e1 fun vs H1 k1 => ?_
            obtain ⟨G1, f1, I1, s1, a1, l1⟩ := k1
            obtain ⟨hd, f2, I2, le⟩ := I1.popA l1 ht a1 e2
            refine ⟨by rw [dps_len hd]; exact c, fun p hp => ?_⟩
            have sb : Sub H1 (upd H1 p (.lst vs)) := sub_upd (Sub.refl _) hp
            refine ok.sc [.list ds] d _ _ Q e3 hc (.cons (.lst (.inl (.inl upd_same)) (dps_sub sb hd)) .nil) fun v hv => k v _ ((Kont.sh l1 (I2.grow (I2.sub.trans sb) (fun a xs q => sb a _ q) (I2.tk.lst hp)) (dp_sc hv hc)).step ?_)
            exact (s1.trans (Stp.less le)).trans ⟨Sub.refl _, fun a o q _ => sb a _ q, fun a q => ne_of_sub sb q, fun a q => .inl q, fun a q => .inl q⟩
          · cases e
        · cases e
      · cases e
    · cases e
  · cases e
theorem se_reprL {k : Nat} {es : List Expr} {ev : EvEs} {p pl pos : Pos} (hA : X.A.guards = some []) (hr : Room k X.A) (hm : X.mg "repr" = none) (h : SEs X ev es) (hg : Gl X "repr" := by rfl) (he : starEach (Expr.List es pl :: []) X.env = (false, eval (Expr.List es pl) X.env) :: starEach [] X.env := by rfl) :
    SE X (eOpL opRepr ev) (.Call (.Name "repr" p) [.List es pl] [] pos) := by
  obtain ⟨ta, p1, q1⟩ := h
  have := pe_callB (X := X) (x := "repr") (p := p) (pos := pos) (call_repr hA (hu65 hr)) hg hm (by decide +kernel) (pa_cons (pe_lst p1) pa_nil he) (by decide) (by decide) he rfl
  exact ⟨_, this, er_opL q1 ok_repr⟩
theorem k_scOS {x : Str} : sc? (.val (.str x)) = some (.str x) := rfl
theorem b_eOpL {os : En} {fn : List PyData → Option Op} {es : EvEs} : eOpL fn es os = (es os).bind fun p => (rdAll p.2 p.1).bind fun ds => cond (Nat.ble ds.length sizeLine) ((fn [.list ds]).bind fun res => (sc? res).bind fun d => some (.tm (.sh d), p.2)) none := by
  unfold eOpL
  cases es os with
  | none => rfl
  | some p =>
    simp only [Option.bind_some]
    cases rdAll p.2 p.1 with
    | none => rfl
    | some ds =>
      simp only [Option.bind_some]
      by_cases h : ds.length ≤ sizeLine
      · rw [if_pos h, Nat.ble_eq_true_of_le h, cond_true]
        cases fn [.list ds] with
        | none => rfl
        | some res =>
          simp only [Option.bind_some]
          cases sc? res <;> rfl
      · rw [if_neg h, Bool.eq_false_iff.mpr fun z => h (Nat.le_of_ble_eq_true z)]; rfl
end
end DX
/-! DXExf: raise X(a, ..) of an own class whose __init__ stores its arguments; the built-in class at its root is any. -/
namespace DX
open PySem PySem.Spec PyProof.Rows L2

/-- what is known of such a class -/
structure OexB (K : PySem.W.Frag) (C : Addr) (B newId initId : String) (bmB : List Value) : Prop where
  cls : ∃ nm q N bs bm sn sub ab col dd k0 k1 k2 k3 k5, K.lookup C = some (excClassObj nm q C N bs bm true sn sub ab col dd k0 k1 k2 k3 k5 newId) ∧ PySem.W.excTail bmB bm = true
  F : ExcBaseFacts B newId initId bmB
  S : StoreFacts B bmB "object.__setattr__" "object"
  sa : PySem.W.findIn K (.ref C) "__setattr__" = some (some (.builtin "object.__setattr__"))
  exC : PySem.W.subIn K (.ref C) (.type "BaseException") = some true
  tyC : PySem.W.typeIn K (.ref C) = some (.type "type")
  kC : PySem.W.keepIn K (.ref C) = true
end DX
namespace DX
open PySem PySem.Spec PyProof.Rows PySem.W PySem.Calls Builtin Builtin.ObjectAttr
section
variable {prog : Program} {w : World} {A : Around} {E : Value → Shared → Prop} {R : Result → Shared → Prop} {hp : Heap} {g : Array GenState} {d : Drawn} {t : Nat} {os : OsState}
variable {K : W.Frag} {C x dx : Addr} {B newId initId : String} {bmB : List Value} {name : Str} {tk : Tok} {v : Value} {fv : Array Value}
theorem OexB.over (T : OexB K C B newId initId bmB) : excOver K C bmB = true ∧ ∃ cd, clsIn K C = some cd ∧ cd.hasDict = true := by
  obtain ⟨nm, q, N, bs, bm, sn, sub, ab, col, dd, k0, k1, k2, k3, k5, hC, hb⟩ := T.cls
  have hcl : clsIn K C = some { name := nm, bases := bs, mro := .ref C :: bm, ns := N, qualname := q, hasDict := true, slotNames := sn, subclasses := sub, abstract := ab, collection := col, hasDel := false } := by unfold clsIn; rw [hC] <;> rfl
  refine ⟨?_, _, hcl, rfl⟩
  unfold excOver
  rw [hcl]
  show (C == C && excTail bmB bm) = true
  rw [hb, beq_self_eq_true]; rfl
theorem taker_none (h : findIn K (.ref C) name = some none) : takerIn K C name = some none := by
  unfold takerIn
  rw [h]; rfl
/-- the first field: the error's dict is made -/
theorem put_first (T : OexB K C B newId initId bmB) (X : K.In hp) (hx : hp.get? x = some { cls := .ref C, data := .fields fv }) (ha : findIn K (.ref C) name = some none)
    (hq : ∀ h' tk' dx, (∀ b o, b ≠ x → hp.get? b = some o → h'.get? b = some o) → hp.objs.size ≤ dx → dx ≠ x → h'.get? x = some { cls := .ref C, dict := some dx, data := .fields fv } →
      h'.Ns1 dx (fun y => if y = name then some v else none) → R (.ok (.ret .none)) ⟨h', g, d, tk', os⟩) :
    codeAny (model prog w) A (.call (.builtin "object.__setattr__") ⟨[.ref x, .str name tk, v], []⟩) R ⟨hp, g, d, t, os⟩ := by
  obtain ⟨ho, cd, hcd, hh⟩ := T.over
  have hxs : x ≠ hp.objs.size := Nat.ne_of_lt (Heap.lt_size hx)
  have hcls : Looks (model prog w) hp (classData C) cd := looks_clsIn X hcd
  refine osa_openX (s := ⟨hp, g, d, t, os⟩) (od := none) T.S X ⟨hx, rfl, rfl, trivial⟩ ho (taker_none ha) fun b => ?_
  show wpAny _ _ (storeInOwnDict (.ref x) (.ref C) (.str name tk) name v b) _ _ _
  obtain ⟨nm, bs, mro, ns, qn, hd, sn, sb, ab, col, del⟩ := cd
  dsimp only at hh
  subst hh
  unfold storeInOwnDict ownDictForStores
  repeat (first | with_reducible refine PySem.HandSPX.store_in_new ?_ ?_ | with_reducible refine wpAny_loadPart_at hx ?_ | with_reducible refine hcls.at ?_ | wp_step)
  · exact ⟨_, #[], _, (Heap.get?_update_ne _ _ _ _ hxs.symm).trans (Heap.get?_push_at rfl rfl), rfl, fun e he => absurd he (by simp), fun _ => rfl⟩
  · intro h' tk' hn' hs
    have hx₁ : (hp.push { cls := .type "dict", data := .dict #[] }).get? x = some { cls := .ref C, data := .fields fv } := Heap.get?_push_of_some _ hx
    refine hq h' tk' hp.objs.size (fun b o hb ho => ?_) (Nat.le_refl _) hxs.symm ?_ hn'
    · exact (hs.2 b (Nat.ne_of_lt (Heap.lt_size ho))).trans ((Heap.get?_update_ne _ _ _ _ hb).trans (Heap.get?_push_of_some _ ho))
    · exact (hs.2 x hxs).trans (Heap.get?_update_self _ hx₁ rfl)
/-- a later field -/
theorem put_next {m0 : Str → Option Value} {nl : List Str} (T : OexB K C B newId initId bmB) (X : K.In hp) (hx : hp.get? x = some { cls := .ref C, dict := some dx, data := .fields fv }) (hns : hp.Ns1 dx m0) (hw : Within m0 nl) (hz : nl.length ≤ 1000)
    (ha : findIn K (.ref C) name = some none)
    (hq : ∀ h' tk', (∀ b o, b ≠ dx → hp.get? b = some o → h'.get? b = some o) → h'.Ns1 dx (fun y => if y = name then some v else m0 y) → R (.ok (.ret .none)) ⟨h', g, d, tk', os⟩) :
    codeAny (model prog w) A (.call (.builtin "object.__setattr__") ⟨[.ref x, .str name tk, v], []⟩) R ⟨hp, g, d, t, os⟩ := by
  obtain ⟨ho, cd, hcd, hh⟩ := T.over
  obtain ⟨oD, esD, epD, hoD, hdD, _⟩ := hns.count hw
  have hcls : Looks (model prog w) hp (classData C) cd := looks_clsIn X hcd
  refine osa_openX (s := ⟨hp, g, d, t, os⟩) (od := some oD) T.S X ⟨hx, rfl, rfl, hoD⟩ ho (taker_none ha) fun b => ?_
  show wpAny _ _ (storeInOwnDict (.ref x) (.ref C) (.str name tk) name v b) _ _ _
  obtain ⟨nm, bs, mro, ns, qn, hd, sn, sb, ab, col, del⟩ := cd
  dsimp only at hh
  subst hh
  unfold storeInOwnDict ownDictForStores
  repeat (first | with_reducible refine PySem.OEX.store_in_old hns hw hz ?_ | with_reducible refine wpAny_loadPart_at hx ?_ | with_reducible refine hcls.at ?_ | wp_step)
  intro h' tk' hn' hs
  exact hq h' tk' (fun b o hb ho => (hs.2 b hb).trans ho) hn'
end
end DX
namespace DX
open PySem PySem.Spec PyProof.Rows L2
section
variable {X : Cx} {pins : List (Addr × Obj)} {σ : L2.St} {H : Hp} {s : Shared} {a C dx : Addr} {f : Str} {y : V} {u : Value} {fs : List (Str × V)} {Q : Unit → Shared → Prop} {E : Value → Shared → Prop} {A : Around} {B newId initId : String} {bmB : List Value}
theorem set_first (T : OexB X.K C B newId initId bmB) (I : Inv X pins σ H s) (e : H a = some (exo a C none)) (hno : PySem.W.findIn X.K (.ref C) f = some none) (ry : RelV y u)
    (h : ∀ dx s', H dx = none → dx ≠ a → Inv X pins σ (upd (upd H dx (exd dx [(f, y)])) a (exo a C (some dx))) s' → Q () s') : wpAny (model X.prog X.w) A (setAttr (.ref a) f u) Q E s := by
  obtain ⟨t1, ho⟩ := exo_at I.hok e
  obtain ⟨hp, g, d, t, os⟩ := s
  refine PySem.W.set_plain I.kIn (ox := { cls := .ref C, dict := none, data := .fields #[.ref t1, .none, .none, .none, .bool false, .none] }) (od := none) ⟨ho, rfl, rfl, trivial⟩ T.sa ?_
  refine put_first T I.kIn ho hno fun h' tk' dx k dn dne hx hn => ?_
  have fresh : H dx = none := I.hok.fresh dn
  have ndx : ∀ {b : Addr} {o : Obj}, hp.get? b = some o → b ≠ dx := fun q => Nat.ne_of_lt (Nat.lt_of_lt_of_le (Heap.lt_size q) dn)
  have nab : ∀ {b : Addr}, H b = none → b ≠ a := fun n z => by rw [z, e] at n; cases n
  have U : Un X.fs [] H (upd (upd H dx (exd dx [(f, y)])) a (exo a C (some dx))) hp h' := {
    keep := fun b o q n _ _ => k b o (nab n) q
    slot := fun b o q n _ _ => ⟨o.slots, k b o (nab n) q⟩
    free := fun b o q n _ => by rw [upd_ne (nab n), upd_ne (ndx q)]; exact n
    there := fun b o q _ => by
      by_cases z : b = a
      · subst z; exact ⟨_, hx⟩
      · exact ⟨o, k b o z q⟩
    tups := fun b xs q => by rw [upd_ne (at_ne e q exo_tup), upd_ne (ne_of_none q fresh)]; exact q
    frzs := fun b o v q => by rw [upd_ne (at_ne e q exo_frz), upd_ne (ne_of_none q fresh)]; exact q
    tbls := fun b ps q => ⟨#[], by rw [upd_ne (at_ne e q exo_tbl), upd_ne (ne_of_none q fresh), q]; simp⟩ }
  refine h dx _ fresh dne (I.un (t' := tk') U fun b o q => ?_)
  by_cases hb : b = a
  · subst hb
    rw [upd_same] at q; cases q
    exact exo_ok hx
  rw [upd_ne hb] at q
  by_cases hd : b = dx
  · subst hd
    rw [upd_same] at q; cases q
    exact exd_ok hn (relO_put (fs := []) ry fun _ => trivial)
  rw [upd_ne hd] at q
  exact (I.hok b o q).stay (fun c v hc z => k c v (hc.elim (fun w => by rw [w]; exact hb) fun w => at_ne e w exo_own) z)
    (fun c hc => by rw [upd_ne (at_ne e hc exo_own), upd_ne (ne_of_none hc fresh)]; exact hc) (fun c xs hc => by rw [upd_ne (at_ne e hc exo_tup), upd_ne (ne_of_none hc fresh)]; exact hc)
theorem set_next (T : OexB X.K C B newId initId bmB) (I : Inv X pins σ H s) (e : H a = some (exo a C (some dx))) (ed : H dx = some (exd dx fs)) (hl : fs.length ≤ 900) (hno : PySem.W.findIn X.K (.ref C) f = some none) (ry : RelV y u)
    (h : ∀ s', Inv X pins σ (upd H dx (exd dx ((f, y) :: fs))) s' → Q () s') : wpAny (model X.prog X.w) A (setAttr (.ref a) f u) Q E s := by
  obtain ⟨t1, ho⟩ := exo_at I.hok e
  obtain ⟨mA, hns, rel⟩ := exd_at I.hok ed
  have hw := within_of rel
  obtain ⟨hp, g, d, t, os⟩ := s
  obtain ⟨oD, _, _, hoD, _, _⟩ := hns.count hw
  refine PySem.W.set_plain I.kIn (ox := { cls := .ref C, dict := some dx, data := .fields #[.ref t1, .none, .none, .none, .bool false, .none] }) (od := some oD) ⟨ho, rfl, rfl, hoD⟩ T.sa ?_
  refine put_next T I.kIn ho hns hw (by rw [List.length_map]; omega) hno fun h' tk' k hn => ?_
  obtain ⟨o, _, _, e', _⟩ := id hn
  exact h _ (I.write (t' := tk') (x := dx) (e := dx) (o := exd dx ((f, y) :: fs)) (by rw [ed]; trivial) (.inl rfl) k ⟨o, e'⟩ (exd_ok hn (relO_put ry rel)))
/-- self.f = e -/
def tPut (K : PySem.W.Frag) (f : Str) (to te : TE) : TS := fun D σ H => te σ H fun y H1 => to σ H1 fun x H2 => ∃ (a C : Addr) (B newId initId : String) (bmB : List Value), x = .ref a ∧ OexB K C B newId initId bmB ∧ PySem.W.findIn K (.ref C) f = some none ∧
  ((H2 a = some (exo a C none) ∧ ∀ dx, H2 dx = none → dx ≠ a → D.nx σ (upd (upd H2 dx (exd dx [(f, y)])) a (exo a C (some dx)))) ∨
    ∃ (dx : Addr) (fs : List (Str × V)), H2 a = some (exo a C (some dx)) ∧ H2 dx = some (exd dx fs) ∧ fs.length ≤ 900 ∧ D.nx σ (upd H2 dx (exd dx ((f, y) :: fs))))
theorem ps_put {o e : Expr} {to te : TE} {p' pos : Pos} (ho : PE X o to) (he : PE X e te) (hs : swapsWith e (some (.Attribute o f p')) pos.line X.env = pure false := by rfl) : PS X (.Assign [.Attribute o f p'] e pos) (tPut X.K f to te) := by
  refine ⟨fun pins s σ H D I h => ?_⟩
  refine plainObj_wpAny_Assign_Attribute (thn (he.run pins s σ H _ I h) fun v s1 ⟨y, H1, I1, r1, q1⟩ => thn (ho.run pins s1 σ H1 _ I1 q1) fun u s2 ⟨x, H2, I2, r2, a, C, B, newId, initId, bmB, ex, T, hno, q⟩ => ?_) hs
  subst ex
  obtain rfl : u = Value.ref a := r2
  rcases q with ⟨ea, q⟩ | ⟨dx, fs, ea, ed, hl, q⟩
  · exact set_first T I2 ea hno r1 fun dx s' n ne J => ⟨σ, _, J, q dx n ne⟩
  · exact set_next T I2 ea ed hl hno r1 fun s' J => ⟨σ, _, J, q⟩
/-! ### X(a, ..) made -/
/-- __init__ of such a class, all of it: at a the new error; fs: its fields, the last stored first -/
def spPut (K : PySem.W.Frag) (C : Addr) (n : Nat) (fld : List V → List (Str × V)) : Sp := fun vs H Q _ => ∃ (a : Addr) (ws : List V), vs = .ref a :: ws ∧ ws.length = n ∧ H a = some (exo a C none) ∧
  ∀ (d : Addr) (H2 : Hp), H d = none → d ≠ a → H2 a = some (exo a C (some d)) → H2 d = some (exd d (fld ws)) → (∀ b, b ≠ a → b ≠ d → H2 b = H b) → Q .non H2
theorem pmk_put {CX : CXT} {x : Str} {fI : Addr} {k n : Nat} {fd : FuncData} {ps : List Str} {fld : List V → List (Str × V)} {e : Expr} {es : List Expr} {ta : TA} {p pos : Pos} (T : OexB X.K C B newId initId bmB) (iC : PySem.W.findIn X.K (.ref C) "__init__" = some (some (.ref fI))) (tI : PySem.W.typeIn X.K (.ref fI) = some (.type "function"))
    (F1 : FnOk X.prog X.w X.K X.mg X.base CX k fI fd ps (spPut X.K C n fld)) (hr : Room (k + 1) X.A) (hb : Binds X.K fd ps []) (hx : Passes CX X (fun _ _ _ => False)) (hg : Gl X x) (hm : X.mg x = some (.ref C)) (ha : PA X (e :: es) ta) (hn : n ≤ 1000)
    (hdb : (x == ("__debug__" : Str)) = false := by decide) (he : starEach (e :: es) X.env = (false, eval e X.env) :: starEach es X.env := by rfl) (hpl : (backTo pos (starEach es X.env)).any (·.1) = false := by rfl) :
    PMk X (.Call (.Name x p) (e :: es) [] pos) (fun σ H Q => ta σ H fun vs H1 => vs.length = n ∧ ∀ d, H1 d = none → Q (.ref C) (some d) (upd H1 d (.xd (fld vs)))) := by
  intro pins s σ H Q I h
  obtain ⟨nm, q, N, bs, bm, sn, sub, ab, col, dd, k0, k1, k2, k3, k5, hC, hbm⟩ := T.cls
  refine wpAny_Call_Name_kw (ld_glob I hg hm ?_ hdb)
  refine PySem.W.callWith_K (h₀ := X.base) I.ok.mod.kin T.kC (thn (ha.run pos pins s σ H _ I h) fun us s1 ⟨vs, H1, I1, r1, hz, q1⟩ => ⟨I1.kIn, ?_⟩) he hpl
  show wpAny _ _ (call (.ref C) us) _ _ _
  obtain ⟨hp, g, dr, tk, os⟩ := s1
  have hsz : hp.objs.size ≤ hp.objs.size + 1 := Nat.le_succ _
  have hnew : H1 (hp.objs.size + 1) = none := I1.hok.fresh hsz
  have kk : ∀ b o, hp.get? b = some o → ((hp.push (PySem.W.kdv_tup us)).push (PySem.HandSPX.excO C hp.objs.size)).get? b = some o := fun b o e => Heap.get?_push_of_some _ (Heap.get?_push_of_some _ e)
  have hget : ((hp.push (PySem.W.kdv_tup us)).push (PySem.HandSPX.excO C hp.objs.size)).get? (hp.objs.size + 1) = some (PySem.HandSPX.excO C hp.objs.size) := by heap_get
  have I2 : Inv X pins σ (upd H1 (hp.objs.size + 1) (exo (hp.objs.size + 1) C none)) ⟨(hp.push (PySem.W.kdv_tup us)).push (PySem.HandSPX.excO C hp.objs.size), g, dr, tk, os⟩ :=
    I1.laid (t' := tk) (a := hp.objs.size + 1) (o := exo (hp.objs.size + 1) C none) (h' := (hp.push (PySem.W.kdv_tup us)).push (PySem.HandSPX.excO C hp.objs.size)) kk hsz (exo_ok hget)
  have r2 : Vals (V.ref (hp.objs.size + 1) :: vs) (Value.ref (hp.objs.size + 1) :: us) := .cons rfl r1
  have hsp : spPut X.K C n fld (V.ref (hp.objs.size + 1) :: vs) (upd H1 (hp.objs.size + 1) (exo (hp.objs.size + 1) C none))
      (fun v H2 => v = .non ∧ ∃ (d : Addr), H2 (hp.objs.size + 1) = some (exo (hp.objs.size + 1) C (some d)) ∧ H2 d = some (exd d (fld vs)) ∧ H1 d = none ∧ Q (.ref C) (some d) (upd (del H2 (hp.objs.size + 1)) d (.xd (fld vs)))) (fun _ _ _ => False) := by
    refine ⟨_, vs, rfl, hz, upd_same, fun d H2 hd hda h1 h2 h3 => ⟨rfl, d, h1, h2, ?_, ?_⟩⟩
    · rw [upd_ne hda] at hd; exact hd
    · rw [upd_ne hda] at hd
      have ee : upd (del H2 (hp.objs.size + 1)) d (.xd (fld vs)) = upd H1 d (.xd (fld vs)) := by
        funext b
        by_cases z : b = d
        · subst z; rw [upd_same, upd_same]
        · rw [upd_ne z, upd_ne z]
          by_cases z2 : b = hp.objs.size + 1
          · subst z2; rw [del_same, hnew]
          · rw [del_ne z2, h3 b z2 z, upd_ne z2]
      rw [ee]; exact q1 d hd
  have hl : (Value.ref (hp.objs.size + 1) :: us ++ []).length = ps.length := by
    rw [List.append_nil, ← r2.length]; exact F1.len _ _ _ _ hsp
  have hus : us.length ≤ sizeLine := by
    rw [← Paired.length r1, sizeLine_eq]; omega
  refine wpAny_call (PySem.HandSPX.call_own T.F (fun Y => PySem.W.excTail_contains Y bm hbm) (I1.kIn _ _ hC) (PySem.W.looks_findIn I1.kIn iC) (fun self => PySem.W.bind_fn I1.kIn self tI) hus
    (codeAny_mono (F1.run _ X.stack _ _ ⟨Value.ref (hp.objs.size + 1) :: us, []⟩ (Value.ref (hp.objs.size + 1) :: us) _ _ (fun _ _ _ => False) (hr.make C us []) (I2.env0.make C us []) (by simpa using hb _ (Value.ref (hp.objs.size + 1) :: us) I2.kIn hl) r2 hsp) fun r s' hq' => ?_))
  cases r with
  | error er => exact hx pins σ _ _ er s' I2 hq'
  | ok fl =>
    cases fl with
    | ret u =>
      obtain ⟨v, H2, os2, bare2, un2, hok2, rv, ev, d, ea, ed, hd1, q2⟩ := hq'
      subst ev
      obtain ⟨h2, g2, d2, t2, os'⟩ := s'
      exact ⟨rv, mk_end (raises_own T.exC T.tyC) I1 hsz kk un2 hok2 os2 bare2 ea ed hd1 q2⟩
    | next => exact False.elim hq'
    | brk => exact False.elim hq'
    | cont => exact False.elim hq'
end
end DX
namespace DX
open PySem PySem.Spec PyProof.Rows L2
section
variable {K : PySem.W.Frag} {C : Addr} {B newId initId : String} {bmB : List Value} {f1 f2 f3 : Str} {vs : List V} {H : Hp} {Q : VK} {E : XK}
def fldV {α : Type} (ns : List Str) (ws : List α) : List (Str × α) := (ns.zip ws).reverse
theorem put1_pure (T : OexB K C B newId initId bmB) (n1 : PySem.W.findIn K (.ref C) f1 = some none) {N : List Str} (hN : N.length = 2) (h : spPut K C 1 (fldV [f1]) vs H Q E) :
    tPut K f1 (tVar 0) (tVar 1) { nx := fun _ H' => Q .non H', rt := Q } (start N vs) H := by
  obtain ⟨a, ws, rfl, hl, ha, k⟩ := h
  match ws, hl with
  | [y], _ =>
    refine ⟨y, rfl, .ref a, rfl, a, C, _, _, _, _, rfl, T, n1, .inl ⟨ha, fun dx h1 h2 => ?_⟩⟩
    exact k dx _ h1 h2 upd_same (by rw [upd_ne h2, upd_same]; rfl) fun b h3 h4 => by rw [upd_ne h3, upd_ne h4]
theorem put2_pure (T : OexB K C B newId initId bmB) (n1 : PySem.W.findIn K (.ref C) f1 = some none) (n2 : PySem.W.findIn K (.ref C) f2 = some none) {N : List Str} (hN : N.length = 3) (h : spPut K C 2 (fldV [f1, f2]) vs H Q E) :
    tSeq (tPut K f1 (tVar 0) (tVar 1)) (tPut K f2 (tVar 0) (tVar 2)) { nx := fun _ H' => Q .non H', rt := Q } (start N vs) H := by
  obtain ⟨a, ws, rfl, hl, ha, k⟩ := h
  match ws, hl with
  | [y, z], _ =>
    refine ⟨y, rfl, .ref a, rfl, a, C, _, _, _, _, rfl, T, n1, .inl ⟨ha, fun dx h1 h2 => ?_⟩⟩
    refine ⟨z, rfl, .ref a, rfl, a, C, _, _, _, _, rfl, T, n2, .inr ⟨dx, [(f1, y)], upd_same, by rw [upd_ne h2, upd_same], (show 1 ≤ 900 by decide), ?_⟩⟩
    exact k dx _ h1 h2 (by rw [upd_ne (Ne.symm h2), upd_same]) (by rw [upd_same]; rfl) fun b h3 h4 => by rw [upd_ne h4, upd_ne h3, upd_ne h4]
end
/-- a shared thing is laid -/
theorem SI.layG {K : PySem.W.Frag} {G H : Hp} {vs : List (Option V)} {os : En} {f : FP} (I : SI K G H vs os f) {p : Addr} {u : HO} (hp : H p = none) (hu : ∀ ps, u ≠ .tbl ps := by intro _ z; exact HO.noConfusion z) : SI K (upd G p u) (upd H p u) vs os f ∧ Stp G H f (upd G p u) (upd H p u) f ∧ Sub G (upd G p u) := by
  have gp : G p = none := by
    cases hg : G p with
    | none => rfl
    | some u => have := I.sub p u hg; rw [hp] at this; cases this
  have sg : Sub G (upd G p u) := sub_upd (Sub.refl _) gp
  have sb : Sub H (upd H p u) := sub_upd (Sub.refl _) hp
  have hfp : f p = 0 := by
    by_cases e : f p = 0
    · exact e
    · exact absurd hp (I.live p e)
  refine ⟨⟨I.sl.mono sg fun a _ _ e => sb a _ e, sub_upd2 I.sub, I.one, fun a q => by
    rw [upd_ne (fun e => by subst e; exact q hfp)]; exact I.hid a q, (I.tk.putH (fun ps z => by rw [hp] at z; cases z) hu).putG hu⟩, ⟨sg, fun a o e _ => sb a _ e, fun a e => ?_, fun a e => ?_, fun a z => .inl z⟩, sg⟩
  · cases e' : H a with
    | none => exact absurd e' e
    | some u => rw [sb a u e']; simp
  · by_cases z : a = p
    · subst z; exact .inr (.inl hp)
    · rw [upd_ne z] at e; exact .inl e
theorem dps_rev {K : PySem.W.Frag} {H : Hp} : ∀ {vs : List V} {ds : List PyData}, DxAll K H vs ds → DxAll K H vs.reverse ds.reverse
  | _, _, .nil => .nil
  | _, _, .cons a r => by
    rw [List.reverse_cons, List.reverse_cons]
    exact dps_app (dps_rev r) (.cons a .nil)
theorem fldV_fst {α : Type} {ns : List Str} {ws : List α} (h : ws.length = ns.length) : (fldV ns ws).map Prod.fst = ns.reverse := by
  unfold fldV
  rw [List.map_reverse, List.map_fst_zip (by omega)]
theorem fldV_snd {α : Type} {ns : List Str} {ws : List α} (h : ws.length = ns.length) : (fldV ns ws).map Prod.snd = ws.reverse := by
  unfold fldV
  rw [List.map_reverse, List.map_snd_zip (by omega)]
/-- raise X(es), X number c, its fields ns -/
def xRaiseF (c : Nat) (ns : List Str) (es : EvEs) : EvX := fun os => match es os with
  | some (rs, os1) => match rdAll os1 rs with
    | some ds => if ds.length = ns.length then some ((c, fldV ns ds), hardAll os1 rs) else none
    | none => none
  | none => none
section
variable {X : Cx} {C : Nat → Addr} {R : List Nat} {W : WX}
theorem sx_raiseF (c : Nat) {ns : List Str} {x : Str} {fI : Addr} {k : Nat} {fd : FuncData} {ps : List Str} {B newId initId : String} {bmB : List Value} {e : Expr} {es : List Expr} {ev : EvEs} {p pos pos' : Pos} (hc : X.calm = true) (tk : Takes X W) (T : OexB X.K (C c) B newId initId bmB) (hm : X.mg x = some (.ref (C c)))
    (iC : PySem.W.findIn X.K (.ref (C c)) "__init__" = some (some (.ref fI))) (tI : PySem.W.typeIn X.K (.ref fI) = some (.type "function")) (F1 : FnOk X.prog X.w X.K X.mg X.base CX0 k fI fd ps (spPut X.K (C c) ns.length (fldV ns))) (hr : Room (k + 1) X.A) (hb : Binds X.K fd ps [])
    (h : SEs X ev (e :: es)) (hn : ns.length ≤ 1000 := by decide) (h0 : ns ≠ [] := by decide) (hg : Gl X x := by rfl) (hdb : (x == ("__debug__" : Str)) = false := by decide) (he : starEach (e :: es) X.env = (false, eval e X.env) :: starEach es X.env := by rfl) (hpl : (backTo pos (starEach es X.env)).any (·.1) = false := by rfl) :
    SXS X C R W (fun _ => none) (xRaiseF c ns ev) (.Raise (some (.Call (.Name x p) (e :: es) [] pos)) none pos') := by
  obtain ⟨ta, q1, q2⟩ := h
  refine ⟨_, ps_raise hc tk (pmk_put T iC tI F1 hr hb pass0 hg hm q1 hn hdb he hpl), (by intro σ G H os f res D hl I e k; cases e), ?_⟩
  intro σ G H os f x' os' D hl I e k
  unfold xRaiseF at e
  split at e
  · rename_i rs os1 e1
    split at e
    · rename_i ds e2
      split at e
      · rename_i hds
        cases e
        refine q2 σ [] G H os [] f rs os1 _ hl rfl (by simpa using I) e1 fun vs H1 k1 => ?_
        obtain ⟨G1, g1, I1, s1, a1, l1⟩ := k1
        obtain ⟨G2, g2, I2, s2, hd⟩ := I1.popC l1 rfl a1 e2
        have hv : vs.length = ns.length := by rw [dps_len hd]; exact hds
        refine ⟨hv, fun d hnew => ?_⟩
        obtain ⟨I3, s3, sg⟩ := I2.layG (u := .xd (fldV ns vs)) hnew
        refine k σ _ (some d) ⟨_, g2, by simpa using I3, (s1.trans s2).trans s3, by rw [len_hardAll]; exact l1, fun _ _ => rfl, .inr ⟨?_, d, fldV ns vs, rfl, upd_same, ?_, ?_⟩⟩
        · intro z
          have := congrArg (List.map Prod.fst) z
          rw [fldV_fst hds] at this
          exact h0 (List.reverse_eq_nil_iff.mp this)
        · rw [fldV_fst hv, fldV_fst hds]
        · rw [fldV_snd hv, fldV_snd hds]
          exact dps_rev (dps_sub sg hd)
      · cases e
    · cases e
  · cases e
end
theorem b_xRaiseF {c : Nat} {ns : List Str} {es : EvEs} {os : En} : xRaiseF c ns es os = (es os).bind fun p => (rdAll p.2 p.1).bind fun ds => cond (Nat.beq ds.length ns.length) (some ((c, fldV ns ds), hardAll p.2 p.1)) none := by
  unfold xRaiseF
  cases es os with
  | none => rfl
  | some p =>
    simp only [Option.bind_some]
    cases rdAll p.2 p.1 with
    | none => rfl
    | some ds =>
      simp only [Option.bind_some]
      by_cases h : ds.length = ns.length
      · rw [if_pos h, h, show Nat.beq ns.length ns.length = true from Nat.beq_refl _]; rfl
      · rw [if_neg h, Bool.eq_false_iff.mpr fun z => h (Nat.eq_of_beq_eq_true z)]; rfl
theorem xfC {K : PySem.W.Frag} {D : Addr} (E : ExcC K D) : XfC K D := ⟨E.hg, E.hk, E.hs, E.hd⟩
/-- what stands of a class of errors that has an __init__ of its own -/
structure ErrI (K : PySem.W.Frag) (mg : Str → Option Value) (x : Str) (a : Addr) (B newId initId : String) (bmB : List Value) (fI : Addr) : Prop where
  g : mg x = some (.ref a)
  T : OexB K a B newId initId bmB
  iC : PySem.W.findIn K (.ref a) "__init__" = some (some (.ref fI))
  tI : PySem.W.typeIn K (.ref fI) = some (.type "function")
theorem spPut_len {K : PySem.W.Frag} {C : Addr} {n : Nat} {fld : List V → List (Str × V)} {vs : List V} {H : Hp} {Q : VK} {E : XK} (h : spPut K C n fld vs H Q E) : vs.length = n + 1 := by
  obtain ⟨a, ws, rfl, hl, _⟩ := h
  rw [List.length_cons, hl]
end DX
/-! DXSeq: reversed in a for; list(x), tuple(x); lists that own their items. -/
namespace DX
open PySem PySem.Spec PyProof.Rows L2 RT
section
variable {K : PySem.W.Frag} {X : Cx} {R : List Nat}
def seqD : PyData → Option (List PyData)
  | .list ds => some ds
  | .tuple ds => some ds
  | _ => none
def iRvs (ev : EvE) : EvI := fun os => match ev os with
  | some (r, os1) => match rdAll os1 [r] with
    | some [d] => match seqD d with
      | some ds => some (ds.reverse, hardAll os1 [r])
      | none => none
    | _ => none
  | none => none
theorem rev_get {α : Type} {xs : List α} {i : Nat} (h : i < xs.length) : xs.reverse[i]? = xs[xs.length - 1 - i]? := List.getElem?_reverse h
theorem ir_rev {ev : EvE} {te : TE} (h : ER K ev te) : IR K (iRvs ev) (iRevA K te) := fun σ τ G H os θ f ds os' Q hl ht I e k => by
  unfold iRvs at e
  split at e
  · rename_i r os1 e1
    split at e
    · rename_i d e2
      split at e
      · rename_i ds' e3
        cases e
        refine h σ τ G H os θ f r os1 _ hl ht I e1 fun v H1 k1 => ?_
        obtain ⟨G1, f1, I1, s1, a1, l1⟩ := k1
        obtain ⟨G2, f2, I2, s2, hd⟩ := I1.popC l1 ht a1 e2
        obtain ⟨w, ew, hd⟩ := dps1 hd
        cases ew
        have s3 := s1.trans s2
        have l2 : σ.length = (hardAll os1 [r]).length := by rw [len_hardAll]; exact l1
        have back : ∀ {vs : List V} {xs : List PyData} {i : Nat} {x : V} {d : PyData} {G' : Hp}, DxAll K G' vs xs → xs.reverse[i]? = some d → vs[vs.length - 1 - i]? = some x → Dx K G' x d := fun {vs xs i x d G'} qs hd hx => by
          have hi : i < xs.length := by
            have := lt_of_get hd
            rwa [List.length_reverse] at this
          rw [rev_get hi] at hd
          obtain ⟨v, e5, e6⟩ := dps_get qs hd
          rw [← dps_len qs, hx] at e5
          cases e5; exact e6
        have there : ∀ {vs : List V} {xs : List PyData} {i : Nat} {G' : Hp}, DxAll K G' vs xs → i < xs.reverse.length → i < vs.length ∧ ∃ x, vs[vs.length - 1 - i]? = some x := fun {vs xs i G'} qs hi => by
          rw [List.length_reverse, ← dps_len qs] at hi
          exact ⟨hi, _, List.getElem?_eq_getElem (by omega)⟩
        cases d with
        | list xs =>
          cases e3
          cases hd with
          | lst q qs =>
            rename_i a vs
            refine ⟨a, vs, rfl, .inl ⟨sqL_sub I2.sub q, k _ H1 G2 f2 I2 s3 l2 fun i G3 H3 g1 g2 => ⟨fun hi => ?_, fun hi => ?_, fun x H4 d hd y => ?_⟩⟩⟩
            · obtain ⟨h1, x, h2⟩ := there qs hi
              exact ⟨h1, vs, x, sqL_sub (g1.trans g2) q, h2⟩
            · show vs.length ≤ i
              rw [List.length_reverse, ← dps_len qs] at hi; exact hi
            · obtain ⟨rfl, y⟩ := y
              exact ⟨G3, Nw.refl g2, dp_sub g1 (back qs hd (y vs (sqL_sub (g1.trans g2) q)))⟩
        | tuple xs =>
          cases e3
          cases hd with
          | tup q qs =>
            rename_i a vs
            refine ⟨a, vs, rfl, .inr ⟨sqT_sub I2.sub q, k _ H1 G2 f2 I2 s3 l2 fun i G3 H3 g1 g2 => ⟨fun hi => ?_, fun hi => ?_, fun x H4 d hd y => ?_⟩⟩⟩
            · obtain ⟨h1, x, h2⟩ := there qs hi
              exact ⟨h1, vs, x, sqT_sub (g1.trans g2) q, h2⟩
            · show vs.length ≤ i
              rw [List.length_reverse, ← dps_len qs] at hi; exact hi
            · obtain ⟨rfl, y⟩ := y
              exact ⟨G3, Nw.refl g2, dp_sub g1 (back qs hd (y vs (sqT_sub (g1.trans g2) q)))⟩
        | none => cases e3
        | bool _ => cases e3
        | int _ => cases e3
        | str _ => cases e3
        | dict _ => cases e3
      · cases e
    · cases e
  · cases e
theorem si_rev {tg l : Expr} {ev : EvE} {p pos : Pos} (hm : X.mg "reversed" = none) (h : SE X ev l) (hg : Gl X "reversed" := by rfl) (hs : starEach [l] X.env = (false, eval l X.env) :: starEach [] X.env := by rfl) : SI' X tg (iRvs ev) (.Call (.Name "reversed" p) [l] [] pos) := by
  obtain ⟨te, p1, q1⟩ := h
  exact ⟨_, pi_revA hg hm p1 hs, ir_rev q1⟩
theorem b_iRev {ev : EvE} {os : En} : iRvs ev os = (ev os).bind fun p => (p.1.rd p.2).bind fun d => (seqD d).bind fun ds => some (ds.reverse, hard p.2 p.1) := by
  unfold iRvs
  cases ev os with
  | none => rfl
  | some p =>
    obtain ⟨r, os1⟩ := p
    simp only [Option.bind_some]
    rw [b_rdCons]
    cases r.rd os1 with
    | none => rfl
    | some d =>
      simp only [Option.bind_some, b_rdNil, hardAll]
      cases seqD d <;> rfl
theorem k_sqdL {ds : List PyData} : seqD (.list ds) = some ds := rfl
theorem k_sqdT {ds : List PyData} : seqD (.tuple ds) = some ds := rfl

/-! ### list(x) -/
def opList : List PyData → Option Op
  | [.list ds] => some (.nl ds)
  | [.tuple ds] => some (.nl ds)
  | _ => none
def rList (K : PySem.W.Frag) : List V → Hp → VK → Prop := fun xs H Q => ∃ p ys, xs = [.ref p] ∧ (SqL K H p ys ∨ SqT K H p ys) ∧ ∀ l, H l = none → Q (.ref l) (upd H l (.lst ys))
theorem opList_nl {ds : List PyData} {res : Op} (h : opList ds = some res) : ∃ es, res = .nl es ∧ (ds = [.list es] ∨ ds = [.tuple es]) := by
  unfold opList at h
  split at h
  · cases h; exact ⟨_, rfl, .inl rfl⟩
  · cases h; exact ⟨_, rfl, .inr rfl⟩
  · cases h
theorem ok_list : OpOk K (rList K) opList where
  sc := fun ds d H vs Q h _ hd k => by
    obtain ⟨es, z, _⟩ := opList_nl h
    cases z
  el := fun ds d G H vs Q h z s hd k => by
    obtain ⟨es, z, _⟩ := opList_nl h
    cases z
  nl := fun ds es G H vs Q h s hd k => by
    obtain ⟨es', z, w⟩ := opList_nl h
    cases z
    rcases w with rfl | rfl
    · cases hd with
      | cons a r =>
        cases r
        cases a with
        | sh q =>
          cases q with
          | lst q qs => exact ⟨_, _, rfl, .inl (sqL_sub s q), fun l hl => k _ l qs hl⟩
        | own q qs => exact ⟨_, _, rfl, .inl (.inl (.inl q)), fun l hl => k _ l qs hl⟩
    · cases hd with
      | cons a r =>
        cases r
        cases a with
        | sh q =>
          cases q with
          | tup q qs => exact ⟨_, _, rfl, .inr (sqT_sub s q), fun l hl => k _ l qs hl⟩
  nt := fun ds es G H vs Q h s hd k => by
    obtain ⟨es', z, _⟩ := opList_nl h
    cases z
theorem se_list1 {e : Expr} {ev : EvEs} {p pos : Pos} (hm : X.mg "list" = none) (h : SEs X ev [e]) (hg : Gl X "list" := by rfl) (he : starEach (e :: []) X.env = (false, eval e X.env) :: starEach [] X.env := by rfl) : SE X (eOp opList ev) (.Call (.Name "list" p) [e] [] pos) :=
  se_bt call_list_of ok_list hm h (by decide +kernel) hg (by decide) (by decide) he rfl
theorem o_listL {ds : List PyData} : opList [.list ds] = some (.nl ds) := rfl
theorem o_listT {ds : List PyData} : opList [.tuple ds] = some (.nl ds) := rfl

/-! ### a list display that owns its items -/
def eLstO (es : EvEs) : EvE := fun os => match es os with
  | some (rs, os1) => match mvs os1 rs with
    | some (xs, os2) => if xs.length ≤ sizeLine then some (.tm (.lst xs), os2) else none
    | none => none
  | none => none
theorem pushLst {G H : Hp} {vs : List (Option V)} {os : En} {f h g : FP} {xs : List V} {ys : List OD} (one : ∀ a, f a ≤ 1) (hid : ∀ a, f a ≠ 0 → G a = none) (sub : Sub G H) (tk : TkOk K G H) (live : ∀ a, f a ≠ 0 → H a ≠ none) (hs : SL K G H vs os h) (q : ROs K G H xs ys g) (le : ∀ a, g a + h a ≤ f a) {p : Addr} (hp : H p = none) :
    ∃ k, SI K G (upd H p (.lst xs)) (vs ++ [some (.ref p)]) (os ++ [some (.lst ys)]) k ∧ Stp G H f G (upd H p (.lst xs)) k := by
  have sb : Sub H (upd H p (.lst xs)) := sub_upd (Sub.refl _) hp
  have hfp : f p = 0 := by
    by_cases e : f p = 0
    · exact e
    · exact absurd hp (live p e)
  have r : RO K G (upd H p (.lst xs)) (.ref p) (.lst ys) _ := .lst upd_same (q.mono (Sub.refl _) fun a _ _ e => sb a _ e)
  obtain ⟨k, k1, k2⟩ := SL.app (hs.mono (Sub.refl _) fun a _ _ e => sb a _ e) (SL.val r .nil)
  have k3 : ∀ a, k a = h a + ((if a = p then 1 else 0) + g a) := fun a => by rw [k2]; rfl
  refine ⟨k, ⟨k1, sub.trans sb, fun a => ?_, fun a z => ?_, tk.lst hp⟩, ⟨Sub.refl _, fun a o e _ => sb a _ e, fun a e => ?_, fun a e => .inl e, fun a z => ?_⟩⟩
  · rw [k3]
    have := one a
    have := le a
    by_cases e : a = p
    · subst e; rw [if_pos rfl]; omega
    · rw [if_neg e]; omega
  · rw [k3] at z
    by_cases e : a = p
    · subst e
      cases hg : G a with
      | none => rfl
      | some u => have := sub a u hg; rw [hp] at this; cases this
    · rw [if_neg e] at z
      exact hid a (by have := le a; omega)
  · cases e' : H a with
    | none => exact absurd e' e
    | some u => rw [sb a u e']; simp
  · rw [k3] at z
    by_cases e : a = p
    · subst e; exact .inr hp
    · rw [if_neg e] at z
      exact .inl (by have := le a; omega)
theorem er_lstO {ev : EvEs} {ta : TA} (h : ERs K ev ta) : ER K (eLstO ev) (tLst ta) := fun σ τ G H os θ f r os' Q hl ht I e k => by
  unfold eLstO at e
  split at e
  · rename_i rs os1 e1
    split at e
    · rename_i xs os2 e2
      split at e
      · rename_i c
        cases e
        refine h σ τ G H os θ f rs os1 _ hl ht I e1 fun vs H1 k1 => ?_
        obtain ⟨G1, f1, I1, s1, a1, l1⟩ := k1
        obtain ⟨g1, k1, c1, c2, c3⟩ := SL.cut l1 I1.sl
        obtain ⟨g2, k2, c4, c5, c6⟩ := SL.cut ht c2
        obtain ⟨g, f3, m1, m2, m3, m4⟩ := mvs_ok a1 c1 c5 e2
        refine ⟨by rw [m1.len]; exact c, fun p hp => ?_⟩
        obtain ⟨h3, d1, d2⟩ := SL.app m2 c4
        obtain ⟨k4, I4, s4⟩ := pushLst I1.one I1.hid I1.sub I1.tk I1.live d1 m1 (fun a => by rw [d2, c3, c6]; have := m4 a; omega) hp
        exact k _ _ ⟨_, k4, by simpa [List.append_assoc, RV.od] using I4, s1.trans s4, .cons trivial .nil, by rw [m3]; exact l1⟩
      · cases e
    · cases e
  · cases e
theorem se_lstO {es : List Expr} {ev : EvEs} {pos : Pos} (h : SEs X ev es) : SE X (eLstO ev) (.List es pos) := by
  obtain ⟨ta, p, q⟩ := h
  exact ⟨_, pe_lst p, er_lstO q⟩
theorem b_eLstO {os : En} {es : EvEs} : eLstO es os = (es os).bind fun p => (mvs p.2 p.1).bind fun q => cond (Nat.ble q.1.length sizeLine) (some (.tm (.lst q.1), q.2)) none := by
  unfold eLstO
  cases es os with
  | none => rfl
  | some p =>
    simp only [Option.bind_some]
    cases mvs p.2 p.1 with
    | none => rfl
    | some q =>
      simp only [Option.bind_some]
      by_cases h : q.1.length ≤ sizeLine
      · rw [if_pos h, Nat.ble_eq_true_of_le h]; rfl
      · rw [if_neg h, Bool.eq_false_iff.mpr fun z => h (Nat.le_of_ble_eq_true z)]; rfl
end
end DX
/-! DXSat: worths run forwards: what holds of what comes out. -/
namespace DX
open PySem PySem.Spec PyProof.Rows L2

/-- the turns that a while may take -/
def fuel : Nat := 2 ^ 5000
theorem fuel_of {n : Nat} (h : n < 2 ^ 4000) : n < fuel := Nat.lt_of_lt_of_le h (Nat.pow_le_pow_right (by decide) (by decide))
theorem fuel_lt {n : Nat} (h : n < 1000000000000) : n < fuel := fuel_of (Nat.lt_of_lt_of_le h (Nat.le_trans (show 1000000000000 ≤ 2 ^ 40 by decide) (Nat.pow_le_pow_right (by decide) (by decide))))
def Sat {α : Type} (x : Option α) (P : α → Prop) : Prop := ∃ a, x = some a ∧ P a
section
variable {α β : Type} {x y : Option α} {P Q : α → Prop}
theorem Sat.mono (h : Sat x P) (k : ∀ a, P a → Q a) : Sat x Q := by
  obtain ⟨a, e, p⟩ := h
  exact ⟨a, e, k a p⟩
theorem Sat.of {a : α} (h : x = some a) (p : P a) : Sat x P := ⟨a, h, p⟩
theorem z_some {a : α} : Sat (some a) P = P a := propext ⟨fun ⟨_, e, p⟩ => by cases e; exact p, fun p => ⟨_, rfl, p⟩⟩
theorem z_none : Sat (none : Option α) P = False := propext ⟨fun ⟨_, e, _⟩ => (nomatch e), False.elim⟩
/-- what follows, shut until its turn -/
def Then (f : β → Option α) (P : α → Prop) (b : β) : Prop := Sat (f b) P
theorem z_then {f : β → Option α} {b : β} : Then f P b = Sat (f b) P := rfl
theorem z_bind {x : Option β} {f : β → Option α} : Sat (x.bind f) P = Sat x (Then f P) := by
  cases x with
  | none => rw [Option.bind_none, z_none, z_none]
  | some b => rw [Option.bind_some, z_some]; rfl
def MapK (f : β → α) (P : α → Prop) (b : β) : Prop := P (f b)
theorem z_mapK {f : β → α} {b : β} : MapK f P b = P (f b) := rfl
theorem z_map {x : Option β} {f : β → α} : Sat (x.map f) P = Sat x (MapK f P) := by
  cases x with
  | none => rw [Option.map_none, z_none, z_none]
  | some b => rw [Option.map_some, z_some, z_some]; rfl
theorem z_guard {c : Bool} : Sat (cond c x none) P = (c = true ∧ Sat x P) := by
  cases c
  · exact propext ⟨fun h => by rw [cond_false, z_none] at h; exact h.elim, fun h => nomatch h.1⟩
  · exact propext ⟨fun h => ⟨rfl, h⟩, fun h => h.2⟩
theorem z_guardN {c : Bool} : Sat (cond c none x) P = (c = false ∧ Sat x P) := by
  cases c
  · exact propext ⟨fun h => ⟨rfl, h⟩, fun h => h.2⟩
  · exact propext ⟨fun h => by rw [cond_true, z_none] at h; exact h.elim, fun h => nomatch h.1⟩
theorem Sat.at {x : Option α} {a : α} (h : x = some a) (p : P a) : Sat x P := ⟨a, h, p⟩
theorem Sat.split {c : Bool} (h : c = true → Sat x P) (g : c = false → Sat y P) : Sat (cond c x y) P := by
  cases c
  · exact g rfl
  · exact h rfl
theorem Sat.splitD {p : Prop} [Decidable p] (h : p → Sat x P) (g : ¬p → Sat y P) : Sat (cond (decide p) x y) P := Sat.split (fun z => h (of_decide_eq_true z)) fun z => g (of_decide_eq_false z)
end
theorem k_condSomeP {α : Type} {c : Bool} {a b : α} {z : En} : cond c (some (a, z)) (some (b, z)) = some (cond c a b, z) := by cases c <;> rfl
theorem k_condNx {c : Bool} {a b : En} : cond c (some (Res.nx a)) (some (Res.nx b)) = some (Res.nx (cond c a b)) := by cases c <;> rfl
theorem k_condEn {c : Bool} {x y : Option OD} {xs ys : En} : cond c (x :: xs) (y :: ys) = cond c x y :: cond c xs ys := by cases c <;> rfl
theorem k_condSl {c : Bool} {a b : PyData} : cond c (some (OD.sh a)) (some (OD.sh b)) = some (OD.sh (cond c a b)) := by cases c <;> rfl
theorem k_condPair {α β : Type} {c : Bool} {a b : α} {z : β} : cond c (a, z) (b, z) = (cond c a b, z) := by cases c <;> rfl
theorem k_condTm {c : Bool} {a b : OD} : cond c (RV.tm a) (RV.tm b) = RV.tm (cond c a b) := by cases c <;> rfl
theorem k_condSh {c : Bool} {a b : PyData} : cond c (OD.sh a) (OD.sh b) = OD.sh (cond c a b) := by cases c <;> rfl
theorem k_condI {c : Bool} {a b : Int} : cond c (PyData.int a) (PyData.int b) = PyData.int (cond c a b) := by cases c <;> rfl
theorem k_condB {c a b : Bool} : cond c (PyData.bool a) (PyData.bool b) = PyData.bool (cond c a b) := by cases c <;> rfl
theorem k_condAnd {c b : Bool} : cond c b false = (c && b) := by cases c <;> rfl
theorem k_condOr {c b : Bool} : cond c true b = (c || b) := by cases c <;> rfl
theorem k_condNot {c : Bool} : cond c false true = !c := by cases c <;> rfl
/-- behind a statement comes b -/
def SeqK (b : EvS) (P : Res → Prop) (r : Res) : Prop := match r with
  | .nx os => Sat (b os) P
  | r => P r
section
variable {a b : EvS} {t : EvT} {P K : Res → Prop} {os : En} {o : OD}
theorem z_seqN : SeqK b P (.nx os) = Sat (b os) P := rfl
theorem z_seqR : SeqK b P (.rt o os) = P (.rt o os) := rfl
theorem z_seqB : SeqK b P (.bk os) = P (.bk os) := rfl
theorem z_seqC : SeqK b P (.ct os) = P (.ct os) := rfl
theorem z_sSeq : Sat (sSeq a b os) P = Sat (a os) (SeqK b P) := by
  rw [b_sSeq, z_bind]
  congr 1
  funext r
  rw [z_then]
  cases r with
  | nx os => rfl
  | rt o os => exact z_some
  | bk os => exact z_some
  | ct os => exact z_some
def IfK (a b : EvS) (P : Res → Prop) (p : Bool × En) : Prop := Sat (cond p.1 (a p.2) (b p.2)) P
theorem z_ifK {c : Bool} : IfK a b P (c, os) = Sat (cond c (a os) (b os)) P := rfl
theorem z_sIf : Sat (sIf t a b os) P = Sat (t os) (IfK a b P) := by rw [b_sIf, z_bind]; rfl
/-- behind a turn of a loop -/
def ForK (I : En → Prop) (K : Res → Prop) (r : Res) : Prop := match r with
  | .nx os => I os
  | .ct os => I os
  | .bk os => K (.nx os)
  | .rt o os => K (.rt o os)
theorem z_forN {I : En → Prop} : ForK I K (.nx os) = I os := rfl
theorem z_forC {I : En → Prop} : ForK I K (.ct os) = I os := rfl
theorem z_forB {I : En → Prop} : ForK I K (.bk os) = K (.nx os) := rfl
theorem z_forR {I : En → Prop} : ForK I K (.rt o os) = K (.rt o os) := rfl
theorem Sat.for {tv : EvG} {b : EvS} {ds : List PyData} {os : En} (I : List PyData → En → Prop) (h0 : I ds os) (h : ∀ d ds os, I (d :: ds) os → Sat (forStep tv b d os) (ForK (I ds) K)) (hK : ∀ os, I [] os → K (.nx os)) : Sat (forF tv b ds os) K := by
  obtain ⟨r, h1, h2⟩ := for_inv I K hK (fun d ds os i => by
    obtain ⟨r, e, p⟩ := h d ds os i
    refine ⟨r, e, ?_⟩
    cases r with
    | nx os => exact p
    | ct os => exact p
    | bk os => exact p
    | rt o os => exact p) ds os h0
  exact ⟨r, h1, h2⟩
theorem Sat.forM {α : Type} {tv : EvG} {b : EvS} {g : α → PyData} {os : En} (xs : List α) (I : List α → List α → En → Prop) (h0 : I [] xs os) (h : ∀ pre x post os, xs = pre ++ x :: post → I pre (x :: post) os → Sat (forStep tv b (g x) os) (ForK (I (pre ++ [x]) post) K))
    (hK : ∀ os, I xs [] os → K (.nx os)) : Sat (forF tv b (xs.map g) os) K := by
  refine Sat.for (fun ds os => ∃ pre post, xs = pre ++ post ∧ ds = post.map g ∧ I pre post os) ⟨[], xs, rfl, rfl, h0⟩ (fun d ds os ⟨pre, post, e1, e2, i⟩ => ?_) fun os ⟨pre, post, e1, e2, i⟩ => ?_
  · cases post with
    | nil => cases e2
    | cons x post =>
      rw [List.map_cons] at e2
      obtain ⟨rfl, rfl⟩ := List.cons.inj e2
      refine (h pre x post os e1 i).mono fun r hr => ?_
      have hx : xs = (pre ++ [x]) ++ post := by rw [e1, List.append_assoc]; rfl
      cases r with
      | nx os => exact ⟨pre ++ [x], post, hx, rfl, hr⟩
      | ct os => exact ⟨pre ++ [x], post, hx, rfl, hr⟩
      | bk os => exact hr
      | rt o os => exact hr
  · have : post = [] := by
      cases post with
      | nil => rfl
      | cons _ _ => cases e2
    subst this
    rw [List.append_nil] at e1
    subst e1
    exact hK os i
theorem Sat.while {t : EvT} {b : EvS} {k : Nat} {os : En} (I : Nat → En → Prop) (n : Nat) (hn : n < k) (h0 : I n os) (h : ∀ n os, I n os → Sat (t os) (fun p => (p.1 = false → K (.nx p.2)) ∧ (p.1 = true → Sat (b p.2) (ForK (fun os' => ∃ m, m < n ∧ I m os') K)))) : Sat (whF t b k os) K := by
  obtain ⟨r, h1, h2⟩ := wh_inv I K (fun n os i => by
    obtain ⟨p, e, q1, q2⟩ := h n os i
    refine ⟨p.1, p.2, e, q1, fun c => ?_⟩
    obtain ⟨r, e, z⟩ := q2 c
    refine ⟨r, e, ?_⟩
    cases r with
    | nx os => exact z
    | ct os => exact z
    | bk os => exact z
    | rt o os => exact z) k n os hn h0
  exact ⟨r, h1, h2⟩
end
theorem sat_lc {own : List Nat} {tv : EvG} {c : EvT} {ev : EvE} {K : List OD × En → Prop} (I : List PyData → List OD → En → Prop) (h : ∀ d ds acc os, I (d :: ds) acc os → Sat (lcStep own tv c ev d os) (fun r => I ds (acc ++ r.1.toList) r.2)) (hK : ∀ acc os, I [] acc os → K (acc, os)) :
    ∀ (ds : List PyData) (acc : List OD) (os : En), I ds acc os → acc.length + ds.length ≤ sizeLine → Sat (lcF own tv c ev ds os acc) K
  | [], acc, os, i, _ => ⟨(acc, os), rfl, hK acc os i⟩
  | d :: ds, acc, os, i, hn => by
    obtain ⟨r, h1, h2⟩ := h d ds acc os i
    rw [b_lcCons]
    simp only [List.length_cons] at hn
    unfold lcStep at h1
    cases e1 : tv d os with
    | none => rw [e1] at h1; cases h1
    | some os1 =>
      rw [e1] at h1
      simp only [Option.bind_some] at h1 ⊢
      cases e2 : c os1 with
      | none => rw [e2] at h1; cases h1
      | some q =>
        obtain ⟨b, os2⟩ := q
        rw [e2] at h1
        simp only [Option.bind_some] at h1 ⊢
        cases b with
        | false =>
          simp only [cond_false] at h1 ⊢
          cases h1
          exact sat_lc I h hK ds acc _ (by simpa using h2) (by omega)
        | true =>
          simp only [cond_true] at h1 ⊢
          cases e3 : ev os2 with
          | none => rw [e3] at h1; cases h1
          | some p =>
            rw [e3] at h1
            simp only [Option.bind_some] at h1 ⊢
            cases e4 : cv (hard p.2 p.1) p.1 with
            | none => rw [e4] at h1; cases h1
            | some o =>
              rw [e4] at h1
              simp only [Option.bind_some] at h1 ⊢
              cases h1
              have hb : Nat.blt acc.length sizeLine = true := Nat.ble_eq_true_of_le (by omega)
              rw [hb, cond_true]
              exact sat_lc I h hK ds (acc ++ [o]) _ (by simpa using h2) (by simp; omega)
theorem Sat.lc {own : List Nat} {tv : EvG} {c : EvT} {ev : EvE} {K : List OD × En → Prop} {ds : List PyData} {os : En} (I : List PyData → List OD → En → Prop) (h0 : I ds [] os) (hn : ds.length ≤ sizeLine) (h : ∀ d ds acc os, I (d :: ds) acc os → Sat (lcStep own tv c ev d os) (fun r => I ds (acc ++ r.1.toList) r.2)) (hK : ∀ acc os, I [] acc os → K (acc, os)) :
    Sat (lcF own tv c ev ds os []) K := sat_lc I h hK ds [] os h0 (by simpa using hn)
/-- each item by itself -/
theorem Sat.lcM {α : Type} {own : List Nat} {tv : EvG} {c : EvT} {ev : EvE} {K : List OD × En → Prop} {os : En} {g : α → PyData} {xs : List α} (f : α → OD) (hn : xs.length ≤ sizeLine) (h : ∀ x ∈ xs, Sat (lcStep own tv c ev (g x) os) (fun r => r = (some (f x), os))) (hK : K (xs.map f, os)) :
    Sat (lcF own tv c ev (xs.map g) os []) K := by
  refine ⟨_, lc_mapS g f xs (fun x m => ?_) hn, hK⟩
  obtain ⟨r, e, rfl⟩ := h x m
  exact e
theorem Sat.lcF {α : Type} {own : List Nat} {tv : EvG} {c : EvT} {ev : EvE} {K : List OD × En → Prop} {os : En} {g : α → PyData} {xs : List α} (f : α → Option OD) (hn : xs.length ≤ sizeLine) (h : ∀ x ∈ xs, Sat (lcStep own tv c ev (g x) os) (fun r => r = (f x, os))) (hK : K (xs.filterMap f, os)) :
    Sat (DX.lcF own tv c ev (xs.map g) os []) K := by
  refine ⟨_, (lc_map g f xs [] (fun x m => ?_) (by simpa using hn)).trans (by rw [List.nil_append]), hK⟩
  obtain ⟨r, e, rfl⟩ := h x m
  exact e
theorem k_condSelf {α : Type} {c : Bool} {a : α} : cond c a a = a := by cases c <;> rfl
theorem k_condAndL {c b : Bool} : cond c b c = (c && b) := by cases c <;> rfl
theorem k_condOrL {c b : Bool} : cond c c b = (c || b) := by cases c <;> rfl
theorem str_len (x y : Str) : (x ++ y).length = x.length + y.length := by
  rw [S_of x, S_of y, S_app]
  simp only [S_len, List.length_append]
theorem str_empty {x : Str} : Str.empty ++ x = x := by
  rw [S_of x, show Str.empty = S [] from rfl, S_app]; rfl
theorem b_jNil {acc : Str} {os : En} : jNil acc os = some (acc, os) := rfl
theorem b_jCons {acc : Str} {os : En} {ea : EvE} {er : Str → En → Option (Str × En)} : jCons ea er acc os = (ea os).bind fun p => (p.1.rd p.2).bind fun d => (txt? d).bind fun y => cond (Nat.ble (acc ++ y).length strMax) (er (acc ++ y) p.2) none := by
  unfold jCons
  cases ea os with
  | none => rfl
  | some p =>
    simp only [Option.bind_some]
    cases p.1.rd p.2 with
    | none => rfl
    | some d =>
      simp only [Option.bind_some]
      cases txt? d with
      | none => rfl
      | some y =>
        simp only [Option.bind_some]
        by_cases h : (acc ++ y).length ≤ strMax
        · rw [if_pos h, Nat.ble_eq_true_of_le h]; rfl
        · rw [if_neg h, Bool.eq_false_iff.mpr fun z => h (Nat.le_of_ble_eq_true z)]; rfl
theorem b_eJoin {ev : Str → En → Option (Str × En)} {os : En} : eJoin ev os = (ev Str.empty os).bind fun p => cond (Nat.ble p.1.length strMax) (some (.tm (.sh (.str p.1)), p.2)) none := by
  unfold eJoin
  cases ev Str.empty os with
  | none => rfl
  | some p =>
    simp only [Option.bind_some]
    by_cases h : p.1.length ≤ strMax
    · rw [if_pos h, Nat.ble_eq_true_of_le h]; rfl
    · rw [if_neg h, Bool.eq_false_iff.mpr fun z => h (Nat.le_of_ble_eq_true z)]; rfl
theorem t_str {x : Str} : txt? (.str x) = some x := rfl
theorem x_no {os : En} : xNo os = none := rfl
theorem x_raise {c : Nat} {os : En} : xRaise c os = some ((c, []), os) := rfl
theorem x_seqNo {ea : EvS} {xa : EvX} : xSeq ea xa xNo = xa := by
  funext os
  unfold xSeq
  cases xa os with
  | some p => rfl
  | none =>
    rw [Option.none_or]
    cases ea os with
    | none => rfl
    | some r => cases r <;> rfl
theorem b_xIf {t : EvT} {xa xb : EvX} {os : En} : xIf t xa xb os = (t os).bind fun p => cond p.1 (xa p.2) (xb p.2) := by
  unfold xIf
  cases t os with
  | none => rfl
  | some p => obtain ⟨c, q⟩ := p; cases c <;> rfl
def inr? (o : Option (OD ⊕ Er)) : Option Er := match o with
  | some (.inr x) => some x
  | _ => none
theorem x_inr {x : Er} : inr? (some (.inr x)) = some x := rfl
theorem x_inl {o : OD} : inr? (some (.inl o)) = none := rfl
theorem b_xFn {m : List OD → Option (OD ⊕ Er)} {n : Nat} {idx : List Nat} {es : EvEs} {os : En} : xFn m n idx es os = (es os).bind fun p => (rdAll p.2 p.1).bind fun ds => cond (Nat.beq p.1.length n && Nat.beq (pk idx ds).length n) ((inr? (m ((pk idx ds).map OD.sh))).bind fun x => some (x, hardAll p.2 p.1)) none := by
  unfold xFn
  cases es os with
  | none => rfl
  | some p =>
    simp only [Option.bind_some]
    cases rdAll p.2 p.1 with
    | none => rfl
    | some ds =>
      simp only [Option.bind_some]
      by_cases h : p.1.length = n ∧ (pk idx ds).length = n
      · rw [if_pos h, h.1, h.2, show Nat.beq n n = true from Nat.beq_refl n]
        cases m ((pk idx ds).map OD.sh) with
        | none => rfl
        | some r => cases r <;> rfl
      · rw [if_neg h]
        have : (Nat.beq p.1.length n && Nat.beq (pk idx ds).length n) = false := by
          rw [Bool.eq_false_iff]
          intro z
          obtain ⟨z1, z2⟩ := Bool.and_eq_true_iff.mp z
          exact h ⟨Nat.eq_of_beq_eq_true z1, Nat.eq_of_beq_eq_true z2⟩
        rw [this]; rfl
theorem eq_of_sat {α : Type} {x : Option α} {v : α} (h : Sat x (fun r => r = v)) : x = some v := by
  obtain ⟨a, e, rfl⟩ := h
  exact e
theorem inL_eq {m : List OD → Option (OD ⊕ Er)} {os : List OD} {o : OD} (h : m os = some (.inl o)) : inL m os = some o := by
  unfold inL
  rw [h]
-- what a def hands back
theorem r_P1 {o p : OD} {os : En} : retP (.rt o (some p :: os)) = some (o, p) := rfl
theorem r_P2 {p : OD} {os : En} : retP (.nx (some p :: os)) = some (.sh .none, p) := rfl
def mxOf (ev : EvS) (xv : EvX) (os : En) : Option (OD ⊕ Er) := match xv os with
  | some (x, _) => some (.inr x)
  | none => ((ev os).bind retOf).map .inl
theorem hmx_of {ev : Nat → EvS} {xv : Nat → EvX} {os : En} {r : OD ⊕ Er} (h : mxOf (ev fuel) (xv fuel) os = some r) : match r with
      | .inl o => ∃ n res, ev n os = some res ∧ retOf res = some o
      | .inr x => ∃ n os', xv n os = some (x, os') := by
  unfold mxOf at h
  split at h
  · rename_i x os' e
    cases h
    exact ⟨fuel, os', e⟩
  · cases e : (ev fuel os).bind retOf with
    | none => rw [e] at h; cases h
    | some o =>
      rw [e] at h
      cases h
      exact hm_of fuel e
theorem inL_mx {ev : EvS} {xv : EvX} {os : En} {o : OD} (h1 : xv os = none) (h2 : (ev os).bind retOf = some o) : mxOf ev xv os = some (.inl o) := by
  unfold mxOf
  rw [h1]
  show ((ev os).bind retOf).map Sum.inl = _
  rw [h2]; rfl
theorem inR_mx {ev : EvS} {xv : EvX} {os os' : En} {x : Er} (h1 : xv os = some (x, os')) : mxOf ev xv os = some (.inr x) := by
  unfold mxOf
  rw [h1]
/-! ### isinstance, by kinds -/
section
variable {a : Int} {x y : Str} {c : Bool} {ds es : List PyData} {d : PyData}
theorem i_boolN : opIsi "bool" [.none] = some (.val (.bool false)) := o_isiD (by simp) fun _ h => nomatch h
theorem i_boolB : opIsi "bool" [.bool c] = some (.val (.bool true)) := o_isiD (by simp) fun _ h => nomatch h
theorem i_boolI : opIsi "bool" [.int a] = some (.val (.bool false)) := o_isiD (by simp) fun _ h => nomatch h
theorem i_boolS : opIsi "bool" [.str x] = some (.val (.bool false)) := o_isiD (by simp) fun _ h => nomatch h
theorem i_boolL : opIsi "bool" [.list ds] = some (.val (.bool false)) := o_isiD (by simp) fun _ h => nomatch h
theorem i_boolT : opIsi "bool" [.tuple ds] = some (.val (.bool false)) := o_isiD (by simp) fun _ h => nomatch h
theorem i_intN : opIsi "int" [.none] = some (.val (.bool false)) := o_isiD (by simp) fun _ h => nomatch h
theorem i_intB : opIsi "int" [.bool c] = some (.val (.bool true)) := o_isiD (by simp) fun _ h => nomatch h
theorem i_intI : opIsi "int" [.int a] = some (.val (.bool true)) := o_isiD (by simp) fun _ h => nomatch h
theorem i_intS : opIsi "int" [.str x] = some (.val (.bool false)) := o_isiD (by simp) fun _ h => nomatch h
theorem i_intL : opIsi "int" [.list ds] = some (.val (.bool false)) := o_isiD (by simp) fun _ h => nomatch h
theorem i_intT : opIsi "int" [.tuple ds] = some (.val (.bool false)) := o_isiD (by simp) fun _ h => nomatch h
theorem i_strN : opIsi "str" [.none] = some (.val (.bool false)) := o_isiD (by simp) fun _ h => nomatch h
theorem i_strB : opIsi "str" [.bool c] = some (.val (.bool false)) := o_isiD (by simp) fun _ h => nomatch h
theorem i_strI : opIsi "str" [.int a] = some (.val (.bool false)) := o_isiD (by simp) fun _ h => nomatch h
theorem i_strS : opIsi "str" [.str x] = some (.val (.bool true)) := o_isiD (by simp) fun _ h => nomatch h
theorem i_strL : opIsi "str" [.list ds] = some (.val (.bool false)) := o_isiD (by simp) fun _ h => nomatch h
theorem i_strT : opIsi "str" [.tuple ds] = some (.val (.bool false)) := o_isiD (by simp) fun _ h => nomatch h
theorem i_listN : opIsi "list" [.none] = some (.val (.bool false)) := o_isiD (by simp) fun _ h => nomatch h
theorem i_listB : opIsi "list" [.bool c] = some (.val (.bool false)) := o_isiD (by simp) fun _ h => nomatch h
theorem i_listI : opIsi "list" [.int a] = some (.val (.bool false)) := o_isiD (by simp) fun _ h => nomatch h
theorem i_listS : opIsi "list" [.str x] = some (.val (.bool false)) := o_isiD (by simp) fun _ h => nomatch h
theorem i_listL : opIsi "list" [.list ds] = some (.val (.bool true)) := o_isiD (by simp) fun _ h => nomatch h
theorem i_listT : opIsi "list" [.tuple ds] = some (.val (.bool false)) := o_isiD (by simp) fun _ h => nomatch h
theorem i_tupleN : opIsi "tuple" [.none] = some (.val (.bool false)) := o_isiD (by simp) fun _ h => nomatch h
theorem i_tupleB : opIsi "tuple" [.bool c] = some (.val (.bool false)) := o_isiD (by simp) fun _ h => nomatch h
theorem i_tupleI : opIsi "tuple" [.int a] = some (.val (.bool false)) := o_isiD (by simp) fun _ h => nomatch h
theorem i_tupleS : opIsi "tuple" [.str x] = some (.val (.bool false)) := o_isiD (by simp) fun _ h => nomatch h
theorem i_tupleL : opIsi "tuple" [.list ds] = some (.val (.bool false)) := o_isiD (by simp) fun _ h => nomatch h
theorem i_tupleT : opIsi "tuple" [.tuple ds] = some (.val (.bool true)) := o_isiD (by simp) fun _ h => nomatch h
theorem o_neSelf : opNe [.str x, .str x] = some (.val (.bool false)) := by rw [S_of x, o_neS, decide_eq_true rfl]; rfl
theorem o_eqSelf : opEq [.str x, .str x] = some (.val (.bool true)) := by rw [S_of x, o_eqS, decide_eq_true rfl]
end
/-! ### repr of data with greater ints -/
mutual
def lgB : PyData → Bool
  | .none | .bool _ => true
  | .int i => Nat.blt i.natAbs (2 ^ 800)
  | .str x => PyData.strOk x
  | .list xs | .tuple xs => lgAll xs
  | .dict _ => false
def lgAll : List PyData → Bool
  | [] => true
  | x :: xs => lgB x && lgAll xs
end
theorem lgAll_all : ∀ ds : List PyData, lgAll ds = ds.all lgB
  | [] => by rw [lgAll]; rfl
  | d :: ds => by rw [List.all_cons, ← lgAll_all ds, lgAll]
theorem lg_pow : (2 : Nat) ^ 800 < 10 ^ 241 := by decide +kernel
theorem lg_int {i : Int} (h : i.natAbs < 2 ^ 800) : (PyData.shown (.int i)).length ≤ 242 := by
  have e := int_text_length_le10 (k := 241) (by decide) (Nat.lt_trans h lg_pow)
  show (Str.ofString (toString i)).length ≤ 242
  rw [PySem.ofString_length]; exact e
mutual
theorem lg_lay : ∀ d : PyData, lgB d = true → d.canLay0 = true ∧ d.showable = true ∧ d.intsShort 242 = true
  | .none, _ => ⟨rfl, rfl, rfl⟩
  | .bool _, _ => ⟨rfl, rfl, rfl⟩
  | .int i, h => by
    rw [lgB] at h
    have h : i.natAbs < 2 ^ 800 := Nat.le_of_ble_eq_true h
    refine ⟨rfl, ?_, ?_⟩
    · rw [PyData.showable]
      have := PySem.Flt.log2_lt_of (by decide) h
      exact decide_eq_true (by omega)
    · rw [PyData.intsShort]
      exact decide_eq_true (lg_int h)
  | .str x, h => by rw [lgB] at h; exact ⟨by rw [PyData.canLay0]; exact h, rfl, rfl⟩
  | .list xs, h => by rw [lgB] at h; rw [PyData.canLay0, PyData.showable, PyData.intsShort]; exact lg_layAll xs h
  | .tuple xs, h => by rw [lgB] at h; rw [PyData.canLay0, PyData.showable, PyData.intsShort]; exact lg_layAll xs h
  | .dict _, h => by rw [lgB] at h; cases h
theorem lg_layAll : ∀ ds : List PyData, lgAll ds = true → PyData.canLayAll0 ds = true ∧ PyData.showableAll ds = true ∧ PyData.intsShortAll 242 ds = true
  | [], _ => by rw [PyData.canLayAll0, PyData.showableAll, PyData.intsShortAll]; exact ⟨rfl, rfl, rfl⟩
  | d :: ds, h => by
    rw [lgAll, Bool.and_eq_true] at h
    obtain ⟨a1, a2, a3⟩ := lg_lay d h.1
    obtain ⟨b1, b2, b3⟩ := lg_layAll ds h.2
    rw [PyData.canLayAll0, PyData.showableAll, PyData.intsShortAll, a1, a2, a3, b1, b2, b3]
    exact ⟨rfl, rfl, rfl⟩
end
theorem o_reprL {d : PyData} (h : lgB d = true) (hd : d.depth ≤ 64) (hw : d.weight ≤ 60000) : opRepr [d] = some (.val (.str d.shown)) := by
  obtain ⟨h1, h2, h3⟩ := lg_lay d h
  refine o_repr ?_
  rw [h2, PyData.hasDict_of_canLay d h1, decide_eq_true hd]
  refine decide_eq_true ?_
  have := PyData.shown_le 242 (by decide) d (PyData.leavesShort_of_canLay0 242 d h1 h3)
  have e : (242 + 2) * d.weight ≤ 244 * 60000 := Nat.mul_le_mul_left _ hw
  refine Nat.le_trans this (Nat.le_trans (Nat.add_le_add_right e _) (by decide))
theorem strI_len {i : Int} (h : i.natAbs < 2 ^ 800) : (strI i).length ≤ 242 := lg_int h
theorem t_int {i : Int} (h : i.natAbs < 2 ^ 800) : txt? (.int i) = some (strI i) := by
  have h1 := PySem.Flt.log2_lt_of (by decide) h
  show (if Nat.blt i.natAbs.log2 1920 = true ∧ (strI i).length ≤ strMax then _ else _) = _
  rw [if_pos ⟨Nat.ble_eq_true_of_le (by omega), Nat.le_trans (strI_len h) (by decide)⟩]
theorem o_str {i : Int} (h : i.natAbs < 2 ^ 800) : opStr [.int i] = some (.val (.str (strI i))) := by
  have h1 := PySem.Flt.log2_lt_of (by decide) h
  show (if Nat.blt i.natAbs.log2 1920 = true ∧ (strI i).length ≤ strMax then _ else _) = _
  rw [if_pos ⟨Nat.ble_eq_true_of_le (by omega), Nat.le_trans (strI_len h) (by decide)⟩]
theorem b_sExpr {ev : EvE} {os : En} : sExpr ev os = (ev os).bind fun p => some (.nx p.2) := by
  unfold sExpr
  cases ev os <;> rfl
def ints2? : List PyData → Option (Int × Int)
  | [.int i, .int j] => some (i, j)
  | _ => none
theorem k_ints2 {i j : Int} : ints2? [.int i, .int j] = some (i, j) := rfl
theorem b_iR2 {ev : EvEs} {os : En} : iR2 ev os = (ev os).bind fun p => (rdAll p.2 p.1).bind fun ds => (ints2? ds).bind fun t => cond (fit62 t.1 && fit62 t.2) (some (rangeD t.1 (t.2 - t.1).toNat, p.2)) none := by
  unfold iR2
  cases ev os with
  | none => rfl
  | some p =>
    simp only [Option.bind_some]
    cases rdAll p.2 p.1 with
    | none => rfl
    | some ds =>
      simp only [Option.bind_some]
      unfold ints2?
      split
      · rename_i i j e
        cases e
        simp only [Option.bind_some]
        cases fit62 i && fit62 j <;> rfl
      · rename_i h
        split
        · rename_i i j
          exact absurd rfl (h i j)
        · rfl
end DX
set_option exponentiation.threshold 5000
/-! DXRp: data that repr carries, told by its parts. -/
namespace DX
open PySem PySem.Spec PyProof.Rows L2
theorem strOk_append (x y : Str) : PyData.strOk (x ++ y) = (PyData.strOk x && PyData.strOk y) := by
  show Array.all (x.cps ++ y.cps) _ = _
  rw [Array.all_append]; rfl
theorem strOk_ofString (s : String) : PyData.strOk (Str.ofString s) = true := by
  rw [Str.ofString_eq_byList]
  show Array.all (List.map Char.toNat s.toList).toArray (fun x => decide (x < 1114112)) = true
  rw [List.all_toArray, List.all_map]
  refine List.all_eq_true.mpr fun c _ => decide_eq_true ?_
  have := c.valid
  show c.val.toNat < 1114112
  rcases this with h | h
  · exact Nat.lt_trans h (by decide)
  · exact h.2
/-- data that repr carries -/
def Rp (k n : Nat) (d : PyData) : Prop := lgB d = true ∧ d.depth ≤ k ∧ d.weight ≤ n
theorem Rp.mono {k n k' n' : Nat} {d : PyData} (h : Rp k n d) (a : k ≤ k') (b : n ≤ n') : Rp k' n' d := ⟨h.1, Nat.le_trans h.2.1 a, Nat.le_trans h.2.2 b⟩
theorem Rp.intN {n : Nat} {i : Int} (h : i.natAbs < 2 ^ n) (hn : n ≤ 800 := by decide) (h0 : 0 < n := by decide) : Rp 1 (n + 2) (.int i) := by
  refine ⟨Nat.ble_eq_true_of_le (Nat.lt_of_lt_of_le h (Nat.pow_le_pow_right (by decide) hn)), ?_, ?_⟩
  · simp only [PyData.depth]; decide
  · simp only [PyData.weight]
    have := PySem.Flt.log2_lt_of h0 h
    split <;> omega
theorem Rp.int {i : Int} (h : i.natAbs < 2 ^ 800) : Rp 1 802 (.int i) := Rp.intN h
theorem Rp.str {x : Str} {n : Nat} (h : PyData.strOk x = true) (hn : x.length ≤ n) : Rp 1 (n + 1) (.str x) := by
  refine ⟨h, ?_, ?_⟩
  · simp only [PyData.depth]; decide
  · simp only [PyData.weight]; exact Nat.le_trans hn (Nat.le_succ n)
theorem all_depth {k : Nat} : ∀ {ds : List PyData}, (∀ d ∈ ds, d.depth ≤ k) → PyData.depthAll ds ≤ k
  | [], _ => by simp only [PyData.depthAll]; exact Nat.zero_le _
  | d :: ds, h => by
    simp only [PyData.depthAll]
    exact Nat.max_le.mpr ⟨h d List.mem_cons_self, all_depth fun x q => h x (List.mem_cons_of_mem _ q)⟩
theorem all_weight {n : Nat} : ∀ {ds : List PyData}, (∀ d ∈ ds, d.weight ≤ n) → PyData.weightAll ds ≤ ds.length * (n + 1)
  | [], _ => by simp only [PyData.weightAll]; exact Nat.zero_le _
  | d :: ds, h => by
    simp only [PyData.weightAll, List.length_cons, Nat.succ_mul]
    have := h d List.mem_cons_self
    have := all_weight (ds := ds) fun x q => h x (List.mem_cons_of_mem _ q)
    omega
theorem Rp.lst {k n : Nat} {ds : List PyData} (h : ∀ d ∈ ds, Rp k n d) : Rp (k + 1) (ds.length * (n + 1) + 1) (.list ds) := by
  refine ⟨?_, ?_, ?_⟩
  · rw [lgB, lgAll_all]; exact List.all_eq_true.mpr fun d q => (h d q).1
  · simp only [PyData.depth]
    have := all_depth fun d q => (h d q).2.1
    omega
  · simp only [PyData.weight]
    have := all_weight fun d q => (h d q).2.2
    omega
theorem Rp.tup {k n : Nat} {ds : List PyData} (h : ∀ d ∈ ds, Rp k n d) : Rp (k + 1) (ds.length * (n + 1) + 1) (.tuple ds) := by
  refine ⟨?_, ?_, ?_⟩
  · rw [lgB, lgAll_all]; exact List.all_eq_true.mpr fun d q => (h d q).1
  · simp only [PyData.depth]
    have := all_depth fun d q => (h d q).2.1
    omega
  · simp only [PyData.weight]
    have := all_weight fun d q => (h d q).2.2
    omega
theorem Rp.rep {k n : Nat} {d : PyData} (h : Rp k n d) (hk : k ≤ 64 := by decide) (hn : n ≤ 60000 := by decide) : opRepr [d] = some (.val (.str d.shown)) := o_reprL h.1 (Nat.le_trans h.2.1 hk) (Nat.le_trans h.2.2 hn)

theorem Rps.nil {k n : Nat} : ∀ d ∈ ([] : List PyData), Rp k n d := fun _ q => nomatch q
theorem Rps.cons {k n : Nat} {d : PyData} {ds : List PyData} (h : Rp k n d) (hs : ∀ d ∈ ds, Rp k n d) : ∀ x ∈ d :: ds, Rp k n x := fun x q => by
  rcases List.mem_cons.mp q with rfl | q
  · exact h
  · exact hs x q
end DX
/-! DXGen0: generator expressions that all, any walk: any element, any iterator. -/
namespace DX
open PySem PySem.Spec PyProof.Rows L2 GxR GenW

theorem over_gen {A : Around} {elt : Expr} {gs : List Comprehension} {scope : Scope} {pos : Pos} {it acc : Value} {env : Env} : A.over (.compLoop (.GeneratorExp elt gs scope pos) 0 it acc env) [] = A.deeper env := by
  first
    | rfl
    | (obtain ⟨hd, d, fr, gs, u⟩ := A; simp [Around.over, Around.deeper, marksOver, frameCount, unitsOf, envsOf, guardsOf, pushEnvs, pushGuards, Code.envs, Code.env?, Code.isFrame, Code.guards, Code.isGuard, Code.weight, Code.frames, Code.isCreation, Code.isCaller, Code.cUnits])
theorem over_gen1 {A : Around} {elt : Expr} {gs : List Comprehension} {scope : Scope} {pos : Pos} {it acc : Value} {env : Env} : A.over (.compStart (.GeneratorExp elt gs scope pos) 0 it acc env) [] = A.deeper env := by
  first
    | rfl
    | (obtain ⟨hd, d, fr, gs, u⟩ := A; simp [Around.over, Around.deeper, marksOver, frameCount, unitsOf, envsOf, guardsOf, pushEnvs, pushGuards, Code.envs, Code.env?, Code.isFrame, Code.guards, Code.isGuard, Code.weight, Code.frames, Code.isCreation, Code.isCaller, Code.cUnits])
abbrev genX (X : Cx) (s : Shared) (H : Hp) (env' : Env) (fp : List Addr) : Cx :=
  { X with A := X.A.in1.in1.deeper env', s_0 := s, H_0 := H, env := env', outer := X.stack, stack := env' :: X.stack, ex := fp, fn := fun _ => false, pn := [], xe := fun _ _ => False }
/-- the generator expression's own scope -/
structure GenOk (env : Env) (scope : Scope) : Prop where
  co : scope.isCoroutine = false
  cell : ∀ y ∈ scope.names, y.2 ≠ .cell
  dot : scope.names.lookup (".0" : Str) = some NameKind.local
section
variable {X : Cx} {pins : List (Addr × Obj)} {σ : L2.St} {H : Hp} {s : Shared}
theorem gen_start {scope : Scope} {own : List (Str × Nat)} {fp : List Addr} {h1 : Heap} {m0 : Str → Option Value} {code : Value} {g' : Array GenState} {t' : Nat} (I : Inv X pins σ H s) (ok : BlkOk X.N X.env.scope scope own) (hN : X.N.Nodup) (gk : GenOk X.env scope) (hfp : ∀ b ∈ fp, FpOk X pins H b ∧ b < s.heap.objs.size)
    (kp : ∀ b o, s.heap.get? b = some o → h1.get? b = some o) (hns : h1.Ns s.heap.objs.size m0) (hc : X.calm = true) (hg : AllBare g') :
    Inv (genX X s H (genEnv scope (cloFrom X.env.cells scope.names []) s.heap.objs.size code builtinsNs X.env) fp) [] (wipe σ (own.map (·.2))) H { s with heap := h1, gens := g', toks := t' } := by
  have hfree : ∀ y ∈ scope.names, y.2 = .free → ∃ c, X.env.cells.lookup y.1 = some c := fun y hy e => by
    rcases ok.free y hy e with k | k
    · exact I.ok.has _ (.inl k)
    · exact I.ok.has _ (.inr k)
  generalize hcenv : genEnv scope (cloFrom X.env.cells scope.names []) s.heap.objs.size code builtinsNs X.env = cenv
  have hL : cenv.locals = s.heap.objs.size := by rw [← hcenv]; rfl
  have hcl : cenv.cells = cloFrom X.env.cells scope.names [] := by rw [← hcenv]; rfl
  have hsc : cenv.scope = scope := by rw [← hcenv]; rfl
  have cm : ∀ {y c}, (y, c) ∈ cloFrom X.env.cells scope.names [] → X.env.cells.lookup y = some c ∧ c < s.heap.objs.size := fun {y c} hm => by
    rcases cloFrom_mem hm with hm | ⟨h1, rfl⟩
    · cases hm
    · obtain ⟨c, hc⟩ := hfree _ h1 rfl
      rw [hc]
      obtain ⟨w, z⟩ := I.cell _ _ hc
      exact ⟨rfl, z.lt⟩
  have mem : ∀ {y c}, cenv.cells.lookup y = some c → X.env.cells.lookup y = some c ∧ c < s.heap.objs.size := fun {y c} e => by
    rw [hcl] at e
    exact cm (PySem.mem_of_lookup e)
  have look : ∀ {y}, scope.names.lookup y = some .free → ∃ c, cenv.cells.lookup y = some c ∧ X.env.cells.lookup y = some c := fun {y} hl => by
    have hy : (y, NameKind.free) ∈ scope.names := PySem.mem_of_lookup hl
    obtain ⟨c', e'⟩ := mem_lookup (cloFrom_has (cells := X.env.cells) (acc := []) hy)
    rw [← hcl] at e'
    exact ⟨c', e', (mem e').1⟩
  have noc : ∀ {y}, scope.names.lookup y ≠ some .cell := fun {y} e => gk.cell _ (PySem.mem_of_lookup e) rfl
  have okB : (genX X s H cenv fp).Ok := by
    refine ⟨I.ok.mod, by show cenv.scope.kind = _; rw [hsc]; exact ok.kind, by show cenv.globals = _; rw [← hcenv]; exact I.ok.glob, by show cenv.builtins = _; rw [← hcenv]; rfl, by show s.heap.objs.size ≤ cenv.locals; rw [hL]; exact Nat.le_refl _,
      fun y z c e1 e2 => ?_, fun y hy => ?_, fun y c z e => ?_, fun z => (I.ok.hd z : X.A.handled = none), ?_, .inr ⟨rfl, by show cenv.frame = some cenv.locals; rw [← hcenv]; rfl⟩, fun b hb => ⟨?_, fun y c e z => ?_⟩, I.bs, Nat.le_trans I.ok.bsz I.sz, fun b o e hb => ?_, fun b hb z => ?_, I.stack, I.stkFree⟩
    · exact I.ok.inj y z c (mem e1).1 (mem e2).1
    · show ∃ c, cenv.cells.lookup y = some c
      have hy' : scope.names.lookup y = some .cell ∨ scope.names.lookup y = some .free := by
        rw [← hsc]; exact hy
      rcases hy' with hy | hy
      · exact absurd hy noc
      · obtain ⟨c, h1, _⟩ := look hy
        exact ⟨c, h1⟩
    · exact nomatch z
    · show (X.A.in1.in1.deeper cenv).frames = some (cenv :: X.stack)
      have : X.A.frames = some X.stack := I.ok.frames
      simp only [Around.deeper]
      first
        | rw [show X.A.in1.in1.frames = some X.stack from this]; rfl
        | simp [this]
    · show b ≠ cenv.locals
      rw [hL]; exact Nat.ne_of_lt (hfp b hb).2
    · exact (hfp b hb).1.2.2.2.2.1 y c (mem e).1 z
    · rcases (hfp b hb).1.2.2.2.1 with z | z
      · exact I.ok.noex b o e z
      · exact absurd (Nat.lt_of_lt_of_le (Heap.lt_size e) (Nat.le_trans I.ok.bsz z)) (Nat.lt_irrefl _)
    · rcases List.mem_cons.mp (I.stkSub b z) with z | z
      · exact (hfp b hb).1.2.1 z
      · exact (hfp b hb).1.2.2.1 z
  refine ⟨okB, rfl, hg, Un.kept kp, ⟨m0, ?_, fun i y av e1 e2 e3 => ?_⟩, fun y c e => ?_, ?_, fun y c e => ?_, fun p hp => ?_, I.hok.kept kp, by rw [wipe_length]; exact I.len⟩
  · show Heap.Ns _ cenv.locals _
    rw [hL]; exact hns
  · obtain ⟨e2, hne⟩ := wipe_some e2
    have e3 : Vis scope y := by rw [← hsc]; exact e3
    have hfr : scope.names.lookup y = some .free := by
      rcases e3 with e | e | e
      · have hh := ok.own _ (PySem.mem_of_lookup e) (.inl rfl)
        rcases hh with e' | e'
        · obtain ⟨p, hp, hpy⟩ := List.mem_map.mp e'
          have e3 := ok.ix p hp
          have : p.1 = y := hpy
          rw [this] at e3
          exact absurd (List.mem_map.mpr ⟨p, hp, nodup_ix hN e3 e1⟩) hne
        · exact absurd (List.mem_of_getElem? e1) e'
      · exact absurd e noc
      · exact e
    obtain ⟨m, hn, hl⟩ := I.loc
    have hvis : Vis X.env.scope y := (ok.free _ (PySem.mem_of_lookup hfr) rfl).elim (fun k => .inr (.inl k)) (fun k => .inr (.inr k))
    obtain ⟨w, r, q⟩ := hl i y av e1 e2 hvis
    refine ⟨w, r, .inr ⟨.inr (by show cenv.scope.names.lookup y = _; rw [hsc]; exact hfr), ?_⟩⟩
    obtain ⟨c, h1, h2⟩ := look hfr
    rcases q with ⟨k, _⟩ | ⟨_, c', e', z⟩
    · have k : X.env.scope.names.lookup y = some .local := k
      rcases ok.free _ (PySem.mem_of_lookup hfr) rfl with k' | k' <;> rw [show X.env.scope.names.lookup y = _ from k'] at k <;> cases k
    · rw [h2] at e'; cases e'
      exact ⟨c, h1, z.keeps kp⟩
  · obtain ⟨w, z⟩ := I.cell y c (mem e).1
    exact ⟨w, z.keeps kp⟩
  · show H cenv.locals = none
    rw [hL]; exact I.hok.fresh (Nat.le_refl _)
  · exact I.freeC y c (mem e).1
  · exact absurd (show p ∈ ([] : List (Addr × Obj)) ++ [] from hp) (by simp)
/-- while the generator sleeps or runs; pn: its own object -/
structure GnI (Y : Cx) (pn : List (Addr × Obj)) (fp : List Addr) (tn : Nat → Heap → Prop) (W : Nat → Nat → Hp → Prop) (σw : L2.St) (g i m : Nat) (H : Hp) (s : Shared) : Prop where
  inv : Inv Y pn σw H s
  tn : tn i s.heap
  nf : ∀ b ∈ fp, H b = none
  w : W i m H
  sz : g + 1 ≤ s.gens.size
/-- what comes out, and how it is woken -/
def gnY (Y : Cx) (pn : List (Addr × Obj)) (σw : L2.St) (g : Nat) (sa : Bool) (Qs : Hp → Prop) : Protocol := fun n s₀ v s κ => ∃ k H, v = .bool k ∧ Inv Y pn σw H s ∧ g + 1 ≤ s.gens.size ∧ (k = sa → Qs H) ∧
  (k ≠ sa → ∀ s'' : Shared, s''.heap = s.heap → s''.os = s.os → AllBare s''.gens → g + 1 ≤ s''.gens.size → κ (.send .none) s'')
def gnP (Y : Cx) (pn : List (Addr × Obj)) (σw : L2.St) (g : Nat) (Qd : Hp → Prop) (s₁ : Shared) : Prop := ∃ H, Inv Y pn σw H s₁ ∧ g + 1 ≤ s₁.gens.size ∧ Qd H
def gTurn (J : It) (gg : TG) (tt : TT) (te : TE) (σw : L2.St) (vs : List Nat) (sa : Bool) (W : Nat → Nat → Hp → Prop) (Qs Qd : Hp → Prop) : Prop := ∀ i m H, W i m H →
  (J.stop i H ∧ Qd H) ∨ (J.go i H ∧ ∃ Nx : Hp → Prop, (∀ H', Nx H' → ∃ m', m' < m ∧ W (i + 1) m' H') ∧ ∀ x H', J.yld i H x H' → gg x σw H' fun σ2 H2 => wipe σ2 vs = σw ∧ tt σ2 H2 fun b H3 =>
    if b = true then te σ2 H3 fun y H4 => ∃ k, y = .bl k ∧ (k = sa → Qs H4) ∧ (k ≠ sa → Nx H4) else Nx H3)
theorem inv_same {Y : Cx} {pn : List (Addr × Obj)} {σw : L2.St} {s'' : Shared} (I : Inv Y pn σw H s) (h : s''.heap = s.heap) (ho : s''.os = s.os) (hb : AllBare s''.gens) : Inv Y pn σw H s'' :=
  I.call' ho (by rw [h]; exact Un.kept fun _ _ e => e) (by rw [h]; exact I.hok) hb (ch := []) fun b hb => absurd hb (by simp)
theorem seg_gen {elt iter tg : Expr} {ifs : List Expr} {scope : Scope} {pos : Pos} {it : Addr} {fp : List Addr} {tn : Nat → Heap → Prop} {J : It} {W : Nat → Nat → Hp → Prop} {vs : List Nat} {gg : TG} {tt : TT} {te : TE} {sa : Bool} {Qs Qd : Hp → Prop} {cenv : Env} {pn : List (Addr × Obj)} {σw : L2.St} {g : Nat}
    (T : Turn X.prog X.w X.K tg J fp it tn) (hc : X.calm = true) (pg : PG (genX X s H cenv fp) tg gg) (pt : PTs (genX X s H cenv fp) ifs tt) (pe : PE (genX X s H cenv fp) elt te) (hco : cenv.scope.isCoroutine = false) (hpn : ∀ p ∈ pn, ∀ b ∈ fp, p.1 ≠ b)
    (turn : gTurn J gg tt te σw vs sa W Qs Qd) : ∀ (m n i : Nat) (s₀ s₁ : Shared) (H₁ : Hp), m < n → GnI (genX X s H cenv fp) pn fp tn W σw g i m H₁ s₁ →
      Seg (model X.prog X.w) X.A.in1.in1 (fun n s₀ r s₁ => r = .ok .next ∧ gnP (genX X s H cenv fp) pn σw g Qd s₁) (gnY (genX X s H cenv fp) pn σw g sa Qs) n s₀
        (.compLoop (.GeneratorExp elt [⟨tg, iter, ifs, 0⟩] scope pos) 0 (.ref it) .none cenv) ((model X.prog X.w).den (.compLoop (.GeneratorExp elt [⟨tg, iter, ifs, 0⟩] scope pos) 0 (.ref it) .none cenv)) [] s₁ := by
  have stat : ∀ {σ' : L2.St} {H' : Hp} {s' : Shared}, Inv (genX X s H cenv fp) pn σ' H' s' → (∀ b ∈ fp, H' b = none) → ∀ b ∈ fp, FpOk (genX X s H cenv fp) pn H' b := fun {σ' H' s'} I' hn b hb =>
    ⟨hn b hb, (I'.ok.exf b hb).1, I'.ok.exfs b hb, .inl hb, fun x c e => (I'.ok.exf b hb).2 x c e, fun p hp => hpn p (show p ∈ pn from hp) b hb⟩
  intro m
  induction m using Nat.strongRecOn with
  | ind m ih =>
    intro n i s₀ s₁ H₁ hmn G
    obtain ⟨n, rfl⟩ : ∃ k, n = k + 1 := ⟨n - 1, by omega⟩
    obtain ⟨I, st, nf, w, sz⟩ := G
    show Seg _ X.A.in1.in1 _ _ _ s₀ _ ((compTurn (.GeneratorExp elt [⟨tg, iter, ifs, 0⟩] scope pos) 0 (.ref it) .none cenv).onRaise (leaving cenv)) [] s₁
    rw [compTurn_gen, Sem.onRaise_eq_wrap]
    refine seg_bind_wrap (wpAny_standAt ?_)
    rcases turn i m H₁ w with ⟨stop, qd⟩ | ⟨go, Nx, hNx, step⟩
    · refine seg_bind_wrap ?_
      rw [over_gen]
      refine wpAny_gsz sz (thnF (T.done (genX X s H cenv fp) rfl rfl rfl hc i pn s₁ σw H₁ (fun _ _ => False) I (stat I nf) st stop) fun r s6 ⟨hr, I6⟩ hs6 => ?_)
      subst hr
      exact seg_end (.ok .next) ⟨rfl, H₁, I6, hs6, qd⟩
    · refine seg_bind_wrap ?_
      rw [over_gen]
      refine wpAny_gsz sz (thnF (T.item (genX X s H cenv fp) rfl rfl rfl hc i pn s₁ σw H₁ (fun _ _ => False) I (stat I nf) st go) fun r s6 ⟨u, hr, h6⟩ hs6 => ?_)
      subst hr
      refine seg_bind_wrap ?_
      rw [over_gen]
      refine wpAny_gsz hs6 (thnF h6 fun _ s7 ⟨x, H7, I7, r7, y7, st7, n7⟩ hs7 => ?_)
      have I7' := I7.pinned (stat I7 n7) (T.obj _ _ st7)
      refine seg_bind_wrap ?_
      rw [over_gen]
      refine wpAny_gsz hs7 (thnF (pg.run _ s7 _ H7 x u _ I7' r7 (step x H7 y7)) fun _ s8 ⟨σ8, H8, I8, hw8, q8⟩ hs8 => ?_)
      refine seg_bind_wrap ?_
      rw [over_gen]
      refine wpAny_gsz hs8 (thnF (pt.run _ s8 σ8 H8 _ I8 q8) fun b s9 ⟨H9, I9, q9⟩ hs9 => ?_)
      have fin : ∀ {s' s'' : Shared} {H' : Hp}, Inv (genX X s H cenv fp) (pn ++ pinsAt fp s7.heap) σ8 H' s' → g + 1 ≤ s''.gens.size → s''.heap = s'.heap → s''.os = s'.os → AllBare s''.gens → Nx H' → ∃ m', m' < m ∧ GnI (genX X s H cenv fp) pn fp tn W σw g (i + 1) m' H' s'' := fun {s' s'' H'} I' hz e1 e2 e3 nx => by
        obtain ⟨m', hm, w'⟩ := hNx H' nx
        have pin' : ∀ b ∈ fp, ∀ o, s7.heap.get? b = some o → s'.heap.get? b = some o ∧ H' b = none := fun b hb o e =>
          let z := I'.pin (b, o) (List.mem_append_right _ (List.mem_append_right _ (mem_pinsAt hb e)))
          ⟨z.1, z.2.1⟩
        have hl : σw.length = σ8.length := by rw [← hw8, wipe_length]
        have J1 : Inv (genX X s H cenv fp) pn σw H' s' := (I'.unpinned (pins := pn)).weak hl (fun j v e => by
          rw [← hw8] at e
          exact (wipe_some e).1)
        refine ⟨m', hm, inv_same J1 e1 e2 e3, by rw [e1]; exact T.keep _ _ _ st7 fun b hb o e => (pin' b hb o e).1, fun b hb => ?_, w', hz⟩
        obtain ⟨o, e, _⟩ := T.obj _ _ st7 b hb
        exact (pin' b hb o e).2
      cases b with
      | false =>
        simp only [Bool.false_eq_true, if_false] at q9 ⊢
        obtain ⟨m', hm, G'⟩ := fin (s'' := s9) I9 hs9 rfl rfl I9.bare q9
        exact seg_again rfl (ih m' hm (n + 1) (i + 1) s₀ s9 _ (by omega) G')
      | true =>
        simp only [if_true] at q9 ⊢
        have hy : ∀ v, yieldOut cenv v = yieldValue v := fun v => by simp only [yieldOut, hco, Bool.false_eq_true, if_false]
        simp only [hy]
        rw [Sem.bind_eq_wrap', Sem.bind_eq_wrap', Sem.wrap_wrap, Sem.wrap_wrap]
        refine seg_wrap ?_
        rw [over_gen]
        refine wpAny_gsz hs9 (thnF (pe.run _ s9 σ8 H9 _ I9 q9) fun z s10 ⟨yv, H10, I10, r10, k, ek, h1, h2⟩ hs10 => ?_)
        subst ek
        obtain rfl : z = .bool k := r10
        have hl : σw.length = σ8.length := by rw [← hw8, wipe_length]
        have J1 : Inv (genX X s H cenv fp) pn σw H10 s10 := (I10.unpinned (pins := pn)).weak hl (fun j v e => by
          rw [← hw8] at e
          exact (wipe_some e).1)
        refine seg_at (seg_yield rfl rfl rfl ⟨k, H10, rfl, J1, hs10, h1, fun hk s'' e1 e2 e3 e4 => ?_⟩)
        obtain ⟨m', hm, G'⟩ := fin (s'' := s'') I10 e4 e1 e2 e3 (h2 hk)
        exact seg_again rfl (ih m' hm n (i + 1) s'' s'' _ (by omega) G')
theorem bare_set {gens : Array GenState} {g : Nat} {x : GenState} (h : AllBare gens) (hx : x.bare = true) : AllBare (gens.setIfInBounds g x) := fun y hy => by
  obtain ⟨i, hi, rfl⟩ := Array.mem_iff_getElem.mp hy
  rw [Array.getElem_setIfInBounds (by simpa using hi)]
  split
  · exact hx
  · exact h _ (Array.getElem_mem _)
/-- the generator sleeps, n hand-outs at most are left -/
structure GnS (Y : Cx) (R : GenEnd) (P : Protocol) (B : Around) (pn : List (Addr × Obj)) (σw : L2.St) (g n : Nat) (H : Hp) (s : Shared) : Prop where
  inv : Inv Y pn σw H s
  sz : g + 1 ≤ s.gens.size
  go : ∃ gs, s.gens[g]? = some gs ∧ ∀ s'' : Shared, s''.heap = s.heap → s''.os = s.os → AllBare s''.gens → g + 1 ≤ s''.gens.size → gs.Goes (model Y.prog Y.w) B R P n (.send .none) s''
theorem gn_next {E : Value → Shared → Prop} {Y : Cx} {A : Around} {a : Addr} {g n : Nat} {pn : List (Addr × Obj)} {σw : L2.St} {sa : Bool} {Qs Qd : Hp → Prop} {o : Obj} {Q : Option Value → Shared → Prop} (hh : A.handled = none) (hroom : A.depth < recursionLimit) (hpn : (a, o) ∈ pn) (hg : ∀ h : Heap, h.get? a = some o → h.IsGen a g)
    (G : GnS Y (fun n s₀ r s₁ => r = .ok .next ∧ gnP Y pn σw g Qd s₁) (gnY Y pn σw g sa Qs) A.in1 pn σw g n H s)
    (hd : ∀ s' H', Inv Y pn σw H' s' → Qd H' → Q none s')
    (hs : ∀ s' H', Inv Y pn σw H' s' → Qs H' → Q (some (.bool sa)) s')
    (hn : ∀ s' H' m, m < n → GnS Y (fun n s₀ r s₁ => r = .ok .next ∧ gnP Y pn σw g Qd s₁) (gnY Y pn σw g sa Qs) A.in1 pn σw g m H' s' → Q (some (.bool !sa)) s') :
    wpAny (model Y.prog Y.w) A (pyNext (.ref a)) Q E s := by
  obtain ⟨I, sz, gs, hgs, hgo⟩ := G
  have ha := (I.pin (a, o) (List.mem_append_right _ hpn)).1
  have e1 : (s.setGen g .running).gens.size = s.gens.size := by simp [Shared.setGen]
  refine wpAny_pyNext_genexpQ (P := fun _ _ s₁ => gnP Y pn σw g Qd s₁) hh I.nolimit hroom (hg _ ha) hgs (hgo (s.setGen g .running) rfl rfl (bare_set I.bare rfl) (by rw [e1]; exact sz)) (fun v s₁ gs' hb hv => ?_) (fun s₁ hp h' hk => ?_)
  · obtain ⟨k, H', rfl, I', sz', h1, h2⟩ := hv
    have sz2 : g + 1 ≤ (s₁.setGen g gs').gens.size := by simp [Shared.setGen]; omega
    have I2 : Inv Y pn σw H' (s₁.setGen g gs') := inv_same I' rfl rfl (bare_set I'.bare hb)
    by_cases e : k = sa
    · subst e
      exact hs _ H' I2 (h1 rfl)
    · have ek : k = !sa := by cases k <;> cases sa <;> simp_all
      have h3 := h2 e
      cases n with
      | zero => exact False.elim (h3 (s₁.setGen g gs') rfl rfl I2.bare sz2)
      | succ m =>
        rw [ek]
        refine hn _ H' m (Nat.lt_succ_self _) ⟨I2, sz2, gs', ?_, fun s'' k1 k2 k3 k4 => h3 s'' k1 k2 k3 k4⟩
        simp [Shared.setGen, show g < s₁.gens.size by omega]
  · obtain ⟨H', I', sz', hq⟩ := hp
    refine hd _ H' ?_ hq
    have I2 : Inv Y pn σw H' (s₁.setGen g .finished) := inv_same I' rfl rfl (bare_set I'.bare rfl)
    exact I2.kept (t' := s₁.toks) hk
theorem gn_all {Y : Cx} {A : Around} {a : Addr} {g : Nat} {pn : List (Addr × Obj)} {σw : L2.St} {Qs Qd : Hp → Prop} {o : Obj} {R : Result → Shared → Prop} (hh : A.handled = none) (hroom : A.in1.depth < recursionLimit) (hpn : (a, o) ∈ pn) (hg : ∀ h : Heap, h.get? a = some o → h.IsGen a g)
    (hd : ∀ s' H', Inv Y pn σw H' s' → Qd H' → R (.ok (.ret (.bool true))) s') (hs : ∀ s' H', Inv Y pn σw H' s' → Qs H' → R (.ok (.ret (.bool false))) s') :
    ∀ (n : Nat) (s : Shared) (H : Hp), GnS Y (fun n s₀ r s₁ => r = .ok .next ∧ gnP Y pn σw g Qd s₁) (gnY Y pn σw g false Qs) A.in1.in1 pn σw g n H s → codeAny (model Y.prog Y.w) A (.builtin "all.loop" ⟨[.ref a], []⟩) R s := by
  intro n
  induction n using Nat.strongRecOn with
  | ind n ih =>
    intro s H G
    refine codeAny_builtin F.entry_all_loop ?_
    rw [Around.under_plainId F.plain_all_loop _]
    show wpAny _ A.in1 (pyNext (.ref a) >>= _) _ _ s
    refine wpAny_bind (gn_next (A := A.in1) hh hroom hpn hg G (fun s' H' I' q => ?_) (fun s' H' I' q => ?_) fun s' H' m hm G' => ?_)
    · exact wpAny_bind (wpAny_rule (wpAny_pure (hd s' H' I' q)))
    · refine wpAny_bind (wpAny_holding (wpAny_truthy_bool ?_))
      refine wpAny_bind (wpAny_letGo ?_)
      simp only [Bool.false_eq_true, if_false]
      exact wpAny_bind (wpAny_rule (wpAny_pure (hs s' H' I' q)))
    · refine wpAny_bind (wpAny_holding (wpAny_truthy_bool ?_))
      refine wpAny_bind (wpAny_letGo ?_)
      simp only [Bool.not_false, if_true]
      exact wpAny_pure ⟨plainId_quiet F.plain_all_loop _, ih m hm s' H' G'⟩
theorem gn_any {Y : Cx} {A : Around} {a : Addr} {g : Nat} {pn : List (Addr × Obj)} {σw : L2.St} {Qs Qd : Hp → Prop} {o : Obj} {R : Result → Shared → Prop} (hh : A.handled = none) (hroom : A.in1.depth < recursionLimit) (hpn : (a, o) ∈ pn) (hg : ∀ h : Heap, h.get? a = some o → h.IsGen a g)
    (hd : ∀ s' H', Inv Y pn σw H' s' → Qd H' → R (.ok (.ret (.bool false))) s') (hs : ∀ s' H', Inv Y pn σw H' s' → Qs H' → R (.ok (.ret (.bool true))) s') :
    ∀ (n : Nat) (s : Shared) (H : Hp), GnS Y (fun n s₀ r s₁ => r = .ok .next ∧ gnP Y pn σw g Qd s₁) (gnY Y pn σw g true Qs) A.in1.in1 pn σw g n H s → codeAny (model Y.prog Y.w) A (.builtin "any.loop" ⟨[.ref a], []⟩) R s := by
  intro n
  induction n using Nat.strongRecOn with
  | ind n ih =>
    intro s H G
    refine codeAny_builtin F.entry_any_loop ?_
    rw [Around.under_plainId F.plain_any_loop _]
    show wpAny _ A.in1 (pyNext (.ref a) >>= _) _ _ s
    refine wpAny_bind (gn_next (A := A.in1) hh hroom hpn hg G (fun s' H' I' q => ?_) (fun s' H' I' q => ?_) fun s' H' m hm G' => ?_)
    · exact wpAny_bind (wpAny_rule (wpAny_pure (hd s' H' I' q)))
    · refine wpAny_bind (wpAny_holding (wpAny_truthy_bool ?_))
      refine wpAny_bind (wpAny_letGo ?_)
      simp only [if_true]
      exact wpAny_bind (wpAny_rule (wpAny_pure (hs s' H' I' q)))
    · refine wpAny_bind (wpAny_holding (wpAny_truthy_bool ?_))
      refine wpAny_bind (wpAny_letGo ?_)
      simp only [Bool.not_true, Bool.false_eq_true, if_false]
      exact wpAny_pure ⟨plainId_quiet F.plain_any_loop _, ih m hm s' H' G'⟩
/-- H' is H, but the table at P has grown -/
def Grown (P : Addr) (H H' : Hp) : Prop := ∃ ps more : Array Value, H P = some (.tbl ps) ∧ H' = upd H P (.tbl (ps ++ more)) ∧ TriplesOk (ps ++ more).toList
/-- all(..), any(..): sa is what ends the walk -/
def tGenB (P : Addr) (sa : Bool) (wi : TI) (gg : TG) (tt : TT) (te : TE) (vs : List Nat) : TE := fun σ H Q => wi σ H fun J H1 => (∃ ps : Array Value, H1 P = some (.tbl ps) ∧ TriplesOk ps.toList) ∧ ∀ H1', Grown P H1 H1' →
  ∃ W : Nat → Nat → Hp → Prop, (∃ m, W 0 m H1') ∧ gTurn J gg tt te (wipe σ vs) vs sa W (fun H => Q (.bl sa) H) (fun H => Q (.bl !sa) H)
theorem seg_genStart' {elt iter tg : Expr} {ifs : List Expr} {scope : Scope} {pos : Pos} {it : Addr} {fp : List Addr} {tn : Nat → Heap → Prop} {J : It} {cenv : Env} {B : Around} {R : GenEnd} {Y : Protocol} {n : Nat} {s₀ : Shared}
    (T : Turn X.prog X.w X.K tg J fp it tn) (st : tn 0 s.heap)
    (loop : Seg (model X.prog X.w) B R Y n s₀ (.compLoop (.GeneratorExp elt [⟨tg, iter, ifs, 0⟩] scope pos) 0 (.ref it) .none cenv) ((model X.prog X.w).den (.compLoop (.GeneratorExp elt [⟨tg, iter, ifs, 0⟩] scope pos) 0 (.ref it) .none cenv)) [] s) :
    Seg (model X.prog X.w) B R Y n s₀ (.compStart (.GeneratorExp elt [⟨tg, iter, ifs, 0⟩] scope pos) 0 (.ref it) .none cenv) ((model X.prog X.w).den (.compStart (.GeneratorExp elt [⟨tg, iter, ifs, 0⟩] scope pos) 0 (.ref it) .none cenv)) [] s := by
  show Seg _ B _ _ _ s₀ _ ((compStart (.GeneratorExp elt [⟨tg, iter, ifs, 0⟩] scope pos) 0 (.ref it) .none cenv).onRaise (leaving cenv)) [] s
  unfold compStart
  rw [Sem.onRaise_eq_wrap]
  show Seg _ B _ _ _ s₀ _ ((ask >>= _).wrap _ _ _ _) [] s
  refine seg_bind_wrap (wpAny_askSetting ?_)
  split
  · exact seg_again rfl loop
  · first
      | exact seg_bind_wrap (wpAny_rule (seg_bind_wrap (wpAny_standAt (seg_bind_wrap (T.self _ 0 s _ _ st (seg_again rfl loop))))))
      | (refine seg_bind_wrap (wpAny_rule ?_); show Seg _ B _ _ _ s₀ _ ((standAt iter.pos >>= _).wrap _ _ _ _) [] s; exact seg_bind_wrap (wpAny_standAt (seg_bind_wrap (T.self _ 0 s _ _ st (seg_again rfl loop)))))
/-- the generator stands, asleep ahead of its first turn -/
def GenReady (X : Cx) (pins : List (Addr × Obj)) (σ : L2.St) (sa : Bool) (Q : VK) (a : Addr) (s5 : Shared) : Prop := ∃ (s3 : Shared) (H3 : Hp) (cenv : Env) (fp : List Addr) (pn : List (Addr × Obj)) (σw : L2.St) (g n : Nat) (o : Obj) (Qs Qd : Hp → Prop),
  (a, o) ∈ pn ∧ s5.heap.get? a = some o ∧ (∀ h : Heap, h.get? a = some o → h.IsGen a g) ∧ GnS (genX X s3 H3 cenv fp) (fun n s₀ r s₁ => r = .ok .next ∧ gnP (genX X s3 H3 cenv fp) pn σw g Qd s₁) (gnY (genX X s3 H3 cenv fp) pn σw g sa Qs) X.A.in1.in1 pn σw g n H3 s5 ∧
  (∀ s' H', Inv (genX X s3 H3 cenv fp) pn σw H' s' → Qd H' → EP X pins σ Q (.bool !sa) s') ∧ (∀ s' H', Inv (genX X s3 H3 cenv fp) pn σw H' s' → Qs H' → EP X pins σ Q (.bool sa) s')
theorem gen_eval {c P : Addr} {elt tg iter : Expr} {ifs : List Expr} {scope : Scope} {own : List (Str × Nat)} {gpos : Pos} {wi : TI} {gg : TG} {tt : TT} {te : TE} {sa : Bool} {k : Nat} {Q : VK} {Q' : Value → Shared → Prop}
    (hc : X.calm = true) (hN : X.N.Nodup) (hr : Room k X.A) (TB : TabB X.base X.mg c P) (hcode : X.env.code = .ref c) (gk : GenOk X.env scope) (hi : PI X tg iter wi) (ok : BlkOk X.N X.env.scope scope own)
    (hg : ∀ (s : Shared) (H : Hp) (C : Addr) (cl : List (Str × Addr)) (code : Value) (fp : List Addr), PG (genX X s H (genEnv scope cl C code builtinsNs X.env) fp) tg gg) (ht : ∀ (s : Shared) (H : Hp) (C : Addr) (cl : List (Str × Addr)) (code : Value) (fp : List Addr), PTs (genX X s H (genEnv scope cl C code builtinsNs X.env) fp) ifs tt)
    (he : ∀ (s : Shared) (H : Hp) (C : Addr) (cl : List (Str × Addr)) (code : Value) (fp : List Addr), PE (genX X s H (genEnv scope cl C code builtinsNs X.env) fp) elt te) (hs : ∀ v, genFold iter X.env v = pure v) (I : Inv X pins σ H s)
    (h : tGenB P sa wi gg tt te (own.map (·.2)) σ H Q) (hQ : ∀ a s5, GenReady X pins σ sa Q a s5 → Q' (.ref a) s5) :
    wpAny (model X.prog X.w) X.A (eval (.GeneratorExp elt [⟨tg, iter, ifs, 0⟩] scope gpos) X.env) Q' X.xe s := by
  have hfree : ∀ y ∈ scope.names, y.2 = .free → ∃ c, X.env.cells.lookup y.1 = some c := fun y hy e => by
    rcases ok.free y hy e with k | k
    · exact I.ok.has _ (.inl k)
    · exact I.ok.has _ (.inr k)
  refine wpAny_GeneratorExp_make gk.co (closure_ok hfree) gk.cell gk.dot ok.kind (by have := hr.dp; omega) (thn (hi.run pins s σ H _ I h) fun xv s1 hx => thn hx fun itv s2 h2 => ?_) hs
  obtain ⟨it, fp, tn, J, H2, rfl, I2, T, st2, f2, ⟨ps, hP, hto⟩, q⟩ := h2
  refine ⟨I2.nolimit, ?_⟩
  have hPs : s2.heap.get? P = some { cls := .none, data := .fields ps } := I2.hok P _ hP
  have cd : PySem.W.CodeHd s2.heap c P := TB.code.keeps I2.bk
  have cont : ∀ (code : Value) (h3 : Heap) (tk : Nat) (more : Array Value), Heap.ExtBut P s2.heap h3 → h3.get? P = some { cls := .none, data := .fields (ps ++ more) } → TriplesOk (ps ++ more).toList →
      wpAny (model X.prog X.w) X.A (builtinsFor X.env.globals X.env.builtins) (fun bi s₄ => ∀ h', h'.Ns s₄.heap.objs.size (fun y => if y = ".0" then some (.ref it) else none) → Heap.SameBut s₄.heap.objs.size (s₄.heap.push { cls := .type "frame", data := .dict #[] }) h' →
          Q' (.ref h'.objs.size) { s₄ with
            gens := s₄.gens.push (.fresh (.compStart (.GeneratorExp elt [⟨tg, iter, ifs, 0⟩] scope gpos) 0 (.ref it) .none (genEnv scope (cloFrom X.env.cells scope.names []) s₄.heap.objs.size code bi X.env))),
            toks := s₄.toks + 1 + 1 + 1,
            heap := h'.push { cls := .type "generator", data := .fields #[.int s₄.gens.size 0, .str "<genexpr>" (s₄.toks + 1), .str (X.env.qual ++ "<genexpr>") (s₄.toks + 1 + 1)] } }) X.xe { s2 with heap := h3, toks := tk } := by
    intro code h3 tk more hx hP3 ht3
    have keep3 : ∀ b u, b ≠ P → s2.heap.get? b = some u → h3.get? b = some u := fun b u hb e => hx b u hb e
    obtain ⟨bm, ob, e1, e2, e3, e4, e5, e6, e7, e8⟩ := TB.bm
    refine wpAny_builtinsFor (m := X.mg) (by rw [I2.ok.glob]; exact (I2.mod.glob.keeps I2.bk).extBut hx TB.gP) e1 e2 (keep3 _ _ e4 (I2.bk _ _ e5)) e6 e7 e8 ?_
    intro h' hn' hs'
    have I3 : Inv X pins σ (upd H2 P (.tbl (ps ++ more))) { s2 with heap := h3, toks := tk } := inv_tab (g' := s2.gens) (d' := s2.drawn) (t' := tk) I2 hP (fun b o hb e => keep3 b o hb e) hP3 I2.bare
    have qW := q _ ⟨ps, more, hP, rfl, ht3⟩
    generalize hH3 : upd H2 P (.tbl (ps ++ more)) = H3 at I3 qW
    obtain ⟨W, ⟨m0, w0⟩, turn⟩ := qW
    generalize hs3 : ({ s2 with heap := h3, toks := tk } : Shared) = s3 at I3 hn' hs' ⊢
    have e3h : s3.heap = h3 := by rw [← hs3]
    have neP : ∀ b ∈ fp, b ≠ P := fun b hb e => by
      have := (f2 b hb).1
      rw [e, hP] at this; cases this
    have f3 : ∀ b ∈ fp, FpOk X pins H3 b ∧ b < s3.heap.objs.size := fun b hb => by
      obtain ⟨o, e, _⟩ := T.obj _ _ st2 b hb
      refine ⟨⟨?_, (f2 b hb).2⟩, by rw [e3h]; exact Heap.lt_size (keep3 b o (neP b hb) e)⟩
      rw [← hH3, upd_ne (neP b hb)]
      exact (f2 b hb).1
    have hsz : h'.objs.size = s3.heap.objs.size + 1 := by rw [hs'.1, Heap.size_push]
    have keep' : ∀ b o, s3.heap.get? b = some o → h'.get? b = some o := fun b o e => hs'.extBut b o (Nat.ne_of_lt (Heap.lt_size e)) (Heap.get?_push_of_some _ e)
    generalize hob : ({ cls := .type "generator", data := .fields #[.int s3.gens.size 0, .str "<genexpr>" (s3.toks + 1), .str (X.env.qual ++ "<genexpr>") (s3.toks + 1 + 1)] } : Obj) = gob
    have kp5 : ∀ b o, s3.heap.get? b = some o → (h'.push gob).get? b = some o := fun b o e => Heap.get?_push_of_some _ (keep' b o e)
    have st5 : tn 0 (h'.push gob) := T.keep _ _ _ st2 fun b hb o e => kp5 b o (by rw [e3h]; exact keep3 b o (neP b hb) e)
    have I4 := gen_start (code := code) (g' := s3.gens.push (.fresh (.compStart (.GeneratorExp elt [⟨tg, iter, ifs, 0⟩] scope gpos) 0 (.ref it) .none (genEnv scope (cloFrom X.env.cells scope.names []) s3.heap.objs.size code builtinsNs X.env)))) (t' := s3.toks + 1 + 1 + 1) I3 ok hN gk f3 kp5 (hn'.push _) hc (I3.bare.push rfl)
    have pg := hg s3 H3 s3.heap.objs.size (cloFrom X.env.cells scope.names []) code fp
    have pt := ht s3 H3 s3.heap.objs.size (cloFrom X.env.cells scope.names []) code fp
    have pe := he s3 H3 s3.heap.objs.size (cloFrom X.env.cells scope.names []) code fp
    have hco : (genEnv scope (cloFrom X.env.cells scope.names []) s3.heap.objs.size code builtinsNs X.env).scope.isCoroutine = false := gk.co
    have hLc : (genEnv scope (cloFrom X.env.cells scope.names []) s3.heap.objs.size code builtinsNs X.env).locals = s3.heap.objs.size := rfl
    generalize genEnv scope (cloFrom X.env.cells scope.names []) s3.heap.objs.size code builtinsNs X.env = ce at I4 pg pt pe hco hLc ⊢
    have ga : (h'.push gob).get? h'.objs.size = some gob := Heap.get?_push_size _ (by rw [← hob]; rfl)
    have nA : H3 h'.objs.size = none := I3.hok.fresh (by rw [hsz]; exact Nat.le_succ _)
    have nst : h'.objs.size ∉ frs X.stack := fun z => by
      rcases List.mem_cons.mp (I3.stkSub _ z) with z | z
      · have := I3.lt; rw [← z, hsz] at this; exact Nat.lt_irrefl _ (Nat.lt_of_succ_lt this)
      · exact I3.nofs (by rw [hsz]; exact Nat.le_succ _) z
    have I5 : Inv (genX X s3 H3 ce fp) [(h'.objs.size, gob)] (wipe σ (own.map (·.2))) H3 { s3 with heap := h'.push gob, gens := s3.gens.push (.fresh (.compStart (.GeneratorExp elt [⟨tg, iter, ifs, 0⟩] scope gpos) 0 (.ref it) .none ce)), toks := s3.toks + 1 + 1 + 1 } :=
      I4.pins_of fun p hp => by
        obtain rfl := List.mem_singleton.mp hp
        exact ⟨ga, nA, by show h'.objs.size ≠ ce.locals; rw [hLc, hsz]; exact Nat.succ_ne_self _, nst, fun v z => by rw [← hob] at z; cases z⟩
    have back : ∀ s' H', Inv (genX X s3 H3 ce fp) [(h'.objs.size, gob)] (wipe σ (own.map (·.2))) H' s' → Inv X pins σ H' s' := fun s' H' I6 => I3.call' (ch := fp) I6.os I6.base I6.hok I6.bare fun b hb => ⟨(f3 b hb).1.2.2.2.1, (f3 b hb).1.2.1, (f3 b hb).1.2.2.2.2.1, (f3 b hb).1.2.2.2.2.2⟩
    have hpn : ∀ p ∈ [(h'.objs.size, gob)], ∀ b ∈ fp, p.1 ≠ b := fun p hp b hb z => by
      obtain rfl := List.mem_singleton.mp hp
      have := (f3 b hb).2
      rw [← z, hsz] at this
      exact Nat.lt_irrefl _ (Nat.lt_of_succ_lt this)
    have sz5 : s3.gens.size + 1 ≤ (s3.gens.push (.fresh (.compStart (.GeneratorExp elt [⟨tg, iter, ifs, 0⟩] scope gpos) 0 (.ref it) .none ce))).size := by rw [Array.size_push]; exact Nat.le_refl _
    refine hQ _ _ ⟨s3, H3, ce, fp, [(h'.objs.size, gob)], wipe σ (own.map (·.2)), s3.gens.size, m0 + 1, gob, (fun H => Q (.bl sa) H), (fun H => Q (.bl !sa) H), List.mem_singleton.mpr rfl, ga, fun h e => ⟨_, _, _, e, by rw [← hob], by rw [← hob], by rw [← hob]⟩, ⟨I5, sz5, _, Array.getElem?_push_size .., fun s'' k1 k2 k3 k4 => ⟨rfl, ?_⟩⟩,
      fun s' H' I6 qd => ⟨.bl _, H', back s' H' I6, rfl, qd⟩, fun s' H' I6 qd => ⟨.bl _, H', back s' H' I6, rfl, qd⟩⟩
    have st6 : tn 0 s''.heap := by rw [k1]; exact st5
    exact seg_genStart' T st6 (seg_gen T hc pg pt pe hco hpn turn m0 (m0 + 1) 0 s'' s'' H3 (Nat.lt_succ_self _) ⟨inv_same I5 k1 k2 k3, st6, fun b hb => (f3 b hb).1.1, w0, k4⟩)
  cases hf : codeAmong gpos ps.toList with
  | none =>
    refine wpAny_genexprCodeX hcode (cd.code hPs hto) (cd.tab hPs) hf fun c' h' tk hx hge hlt hco' _ htab' _ => ?_
    obtain ⟨o1, vs, f1, tf, fl, tg, inF, tx, tt, op, _, _, _, _, _, _, _, _, _, htr, _⟩ := hco'
    exact cont _ h' tk _ hx htab'.2 htr
  | some cv =>
    refine wpAny_genexprCode_hit hcode (cd.code hPs hto) hf ?_
    exact cont cv s2.heap s2.toks #[] (Heap.ExtBut.refl _ _) (by simpa using hPs) (by simpa using hto)
theorem GenReady.all {Q : VK} {a : Addr} {s5 : Shared} {k : Nat} {E : Value → Shared → Prop} (hr : Room (k + 1) X.A) (h : GenReady X pins σ false Q a s5) : wpAny (model X.prog X.w) X.A (call (.builtin "all") [.ref a]) (EP X pins σ Q) E s5 := by
  obtain ⟨s3, H3, cenv, fp, pn, σw, g, n, o, Qs, Qd, hpn, ha, hg, G, hd, hs⟩ := h
  refine call_function_tree F.kind_all F.plain_all F.entry_all (F.args_all1 _) ?_
  unfold Builtin.«all»
  refine wpAny_bind (m := oneArg "all" _) (wpAny_pure ?_)
  refine wpAny_bind (wpAny_pyIter_gen (hg _ ha) ?_)
  exact wpAny_pure ⟨plainId_quiet F.plain_all_loop _, gn_all (Y := genX X s3 H3 cenv fp) (A := X.A) hr.hd (by have := hr.in1.dp; omega) hpn hg hd hs n s5 H3 G⟩
theorem GenReady.any {Q : VK} {a : Addr} {s5 : Shared} {k : Nat} {E : Value → Shared → Prop} (hr : Room (k + 1) X.A) (h : GenReady X pins σ true Q a s5) : wpAny (model X.prog X.w) X.A (call (.builtin "any") [.ref a]) (EP X pins σ Q) E s5 := by
  obtain ⟨s3, H3, cenv, fp, pn, σw, g, n, o, Qs, Qd, hpn, ha, hg, G, hd, hs⟩ := h
  refine call_function_tree F.kind_any F.plain_any F.entry_any (F.args_any1 _) ?_
  unfold Builtin.«any»
  refine wpAny_bind (m := oneArg "any" _) (wpAny_pure ?_)
  refine wpAny_bind (wpAny_pyIter_gen (hg _ ha) ?_)
  exact wpAny_pure ⟨plainId_quiet F.plain_any_loop _, gn_any (Y := genX X s3 H3 cenv fp) (A := X.A) hr.hd (by have := hr.in1.dp; omega) hpn hg hd hs n s5 H3 G⟩
section
variable {c P : Addr} {elt tg iter : Expr} {ifs : List Expr} {scope : Scope} {own : List (Str × Nat)} {p pos gpos : Pos} {wi : TI} {gg : TG} {tt : TT} {te : TE} {k : Nat}
theorem pe_allG (hc : X.calm = true) (hN : X.N.Nodup) (hr : Room (k + 1) X.A) (hgl : Gl X "all") (hm : X.mg "all" = none) (TB : TabB X.base X.mg c P) (hcode : X.env.code = .ref c) (gk : GenOk X.env scope) (hi : PI X tg iter wi) (ok : BlkOk X.N X.env.scope scope own)
    (hg : ∀ (s : Shared) (H : Hp) (C : Addr) (cl : List (Str × Addr)) (code : Value) (fp : List Addr), PG (genX X s H (genEnv scope cl C code builtinsNs X.env) fp) tg gg) (ht : ∀ (s : Shared) (H : Hp) (C : Addr) (cl : List (Str × Addr)) (code : Value) (fp : List Addr), PTs (genX X s H (genEnv scope cl C code builtinsNs X.env) fp) ifs tt)
    (hee : ∀ (s : Shared) (H : Hp) (C : Addr) (cl : List (Str × Addr)) (code : Value) (fp : List Addr), PE (genX X s H (genEnv scope cl C code builtinsNs X.env) fp) elt te)
    (hs : ∀ v, genFold iter X.env v = pure v := by intro _; rfl)
    (he : starEach [.GeneratorExp elt [⟨tg, iter, ifs, 0⟩] scope gpos] X.env = (false, eval (.GeneratorExp elt [⟨tg, iter, ifs, 0⟩] scope gpos) X.env) :: starEach [] X.env := by rfl) :
    PE X (.Call (.Name "all" p) [.GeneratorExp elt [⟨tg, iter, ifs, 0⟩] scope gpos] [] pos) (tGenB P false wi gg tt te (own.map (·.2))) := by
  refine ⟨fun pins s σ H Q I h => ?_⟩
  refine wpAny_Call_Name_kw (ld_blt I hgl hm (show bootBuiltins "all" = some (.builtin "all") by decide +kernel) ?_)
  refine PyProof.Rows.callWith_builtin1 ?_ he (by rfl)
  rw [he]
  show wpAny _ _ (spliced ((false, eval (.GeneratorExp elt [⟨tg, iter, ifs, 0⟩] scope gpos) X.env) :: backTo pos (starEach [] X.env))) _ _ s
  refine Calls.spliced_cons (gen_eval (k := k + 1) hc hN hr TB hcode gk hi ok hg ht hee hs I h fun a s5 hR => ?_)
  refine Calls.spliced_nil ?_
  exact hR.all hr
theorem pe_anyG (hc : X.calm = true) (hN : X.N.Nodup) (hr : Room (k + 1) X.A) (hgl : Gl X "any") (hm : X.mg "any" = none) (TB : TabB X.base X.mg c P) (hcode : X.env.code = .ref c) (gk : GenOk X.env scope) (hi : PI X tg iter wi) (ok : BlkOk X.N X.env.scope scope own)
    (hg : ∀ (s : Shared) (H : Hp) (C : Addr) (cl : List (Str × Addr)) (code : Value) (fp : List Addr), PG (genX X s H (genEnv scope cl C code builtinsNs X.env) fp) tg gg) (ht : ∀ (s : Shared) (H : Hp) (C : Addr) (cl : List (Str × Addr)) (code : Value) (fp : List Addr), PTs (genX X s H (genEnv scope cl C code builtinsNs X.env) fp) ifs tt)
    (hee : ∀ (s : Shared) (H : Hp) (C : Addr) (cl : List (Str × Addr)) (code : Value) (fp : List Addr), PE (genX X s H (genEnv scope cl C code builtinsNs X.env) fp) elt te)
    (hs : ∀ v, genFold iter X.env v = pure v := by intro _; rfl)
    (he : starEach [.GeneratorExp elt [⟨tg, iter, ifs, 0⟩] scope gpos] X.env = (false, eval (.GeneratorExp elt [⟨tg, iter, ifs, 0⟩] scope gpos) X.env) :: starEach [] X.env := by rfl) :
    PE X (.Call (.Name "any" p) [.GeneratorExp elt [⟨tg, iter, ifs, 0⟩] scope gpos] [] pos) (tGenB P true wi gg tt te (own.map (·.2))) := by
  refine ⟨fun pins s σ H Q I h => ?_⟩
  refine wpAny_Call_Name_kw (ld_blt I hgl hm (show bootBuiltins "any" = some (.builtin "any") by decide +kernel) ?_)
  refine PyProof.Rows.callWith_builtin1 ?_ he (by rfl)
  rw [he]
  show wpAny _ _ (spliced ((false, eval (.GeneratorExp elt [⟨tg, iter, ifs, 0⟩] scope gpos) X.env) :: backTo pos (starEach [] X.env))) _ _ s
  refine Calls.spliced_cons (gen_eval (k := k + 1) hc hN hr TB hcode gk hi ok hg ht hee hs I h fun a s5 hR => ?_)
  refine Calls.spliced_nil ?_
  exact hR.any hr
end
end
end DX
/-! DXGen: all(..), any(..) of a generator expression. -/
namespace DX
open PySem PySem.Spec PyProof.Rows L2 GxR
section
variable {K : PySem.W.Frag} {X : Cx}
def agF (sa : Bool) (own : List Nat) (tv : EvG) (c : EvT) (ev : EvE) : List PyData → En → Option (Bool × En)
  | [], os => some (!sa, os)
  | d :: ds, os => match tv d os with
    | some os1 => match c os1 with
      | some (true, os2) => match ev os2 with
        | some (r, os3) => match r.rd os3 with
          | some (.bool k) => if k = sa then some (sa, wipeE os3 own) else agF sa own tv c ev ds (wipeE os3 own)
          | _ => none
        | none => none
      | some (false, os2) => agF sa own tv c ev ds (wipeE os2 own)
      | none => none
    | none => none
def eAg (sa : Bool) (own : List Nat) (it : EvI) (tv : EvG) (c : EvT) (ev : EvE) : EvE := fun os => match it os with
  | some (ds, os1) => match agF sa own tv c ev ds (wipeE os1 own) with
    | some (b, os2) => some (.tm (.sh (.bool b)), os2)
    | none => none
  | none => none
theorem SI.grown {G H H' : Hp} {vs : List (Option V)} {os : En} {f : FP} {P : Addr} (I : SI K G H vs os f) (g : Grown P H H') : SI K G H' vs os f ∧ Stp G H f G H' f := by
  obtain ⟨ps, more, hp, rfl, ht⟩ := g
  have kl : ∀ a xs, H a = some (.lst xs) → (upd H P (.tbl (ps ++ more))) a = some (.lst xs) := fun a xs e => by
    rw [upd_ne (fun z => by rw [z, hp] at e; cases e)]; exact e
  refine ⟨⟨I.sl.mono (Sub.refl _) fun a xs _ e => kl a xs e, fun a u e => ?_, I.one, I.hid, ⟨I.tk.no, fun P' ps' e => ?_, fun P' h => ?_⟩⟩, ⟨Sub.refl _, fun a xs e _ => kl a xs e, fun a e => ?_, fun a e => .inl e, fun a e => .inl e⟩⟩
  · have e1 := I.sub a u e
    rw [upd_ne (fun z => by
      rw [z] at e1 e
      rw [hp] at e1
      cases e1
      exact I.tk.no _ _ e)]
    exact e1
  · by_cases z : P' = P
    · subst z; rw [upd_same] at e; cases e; exact ht
    · rw [upd_ne z] at e; exact I.tk.ok P' ps' e
  · by_cases z : P' = P
    · subst z; exact ⟨_, upd_same⟩
    · rw [upd_ne z]; exact I.tk.tab P' h
  · by_cases z : a = P
    · subst z; rw [upd_same]; simp
    · rw [upd_ne z]; exact e
theorem wipe_wipe {σ : L2.St} {own : List Nat} : wipe (wipe σ own) own = wipe σ own := by
  apply List.ext_getElem?
  intro j
  by_cases hj : j ∈ own
  · have a1 : ∀ τ : L2.St, ∀ v, (wipe τ own)[j]? ≠ some (some v) := fun τ v z => (wipe_some z).2 hj
    cases z1 : (wipe (wipe σ own) own)[j]? with
    | none =>
      have := List.getElem?_eq_none_iff.mp z1
      rw [wipe_length] at this
      rw [List.getElem?_eq_none this]
    | some a =>
      cases a with
      | some v => exact absurd z1 (a1 _ v)
      | none =>
        have := lt_of_get z1
        rw [wipe_length] at this
        cases z2 : (wipe σ own)[j]? with
        | none => have := List.getElem?_eq_none_iff.mp z2; omega
        | some b =>
          cases b with
          | some v => exact absurd z2 (a1 _ v)
          | none => rfl
  · rw [wipe_get hj]
theorem er_ag {sa : Bool} {P : Addr} {own : List Nat} {it : EvI} {tv : EvG} {c : EvT} {ev : EvE} {wi : TI} {g : TG} {tt : TT} {te : TE} (hP : TbK K P) (hi : IR K it wi) (hg : TGc K own tv g) (hc : TR K c tt) (he : ER K ev te) : ER K (eAg sa own it tv c ev) (tGenB P sa wi g tt te own) := fun σ τ G H os θ f r os' Q hl ht I e k => by
  unfold eAg at e
  split at e
  · rename_i ds os1 e1
    split at e
    · rename_i b os2 e2
      cases e
      refine hi σ τ G H os θ f ds os1 _ hl ht I e1 fun J H1 G1 f1 I1 s1 l1 itk => ?_
      obtain ⟨ps, hps⟩ := I1.tk.tab P hP
      refine ⟨⟨ps, hps, I1.tk.ok P ps hps⟩, fun H1' gr => ?_⟩
      obtain ⟨I2, s2⟩ := I1.grown gr
      obtain ⟨gw, Lw, lew⟩ := SL.wiped I2.sl own
      have Iw : SI K G1 H1' (σ ++ τ) (wipeE os1 own ++ θ) gw := I2.forget Lw lew
      have hsw : ∀ {ws : List (Option V)} {os3 θ3 : En} {G3 H3 : Hp} {f3 : FP} {τ3 : List (Option V)} {σ3 : L2.St}, SI K G3 H3 (σ3 ++ τ3) (os3 ++ θ3) f3 → σ3.length = os3.length → ws.length = σ3.length → (∀ (j : Nat), j ∉ own → ws[j]? = σ3[j]?) → (∀ j ∈ own, ∀ o, os3[j]? ≠ some (some o)) → SI K G3 H3 (ws ++ τ3) (os3 ++ θ3) f3 :=
        fun {ws os3 θ3 G3 H3 f3 τ3 σ3} I3 l3 lw hw hn => ⟨I3.sl.swap (by simp [lw]) fun j o ej => by
          by_cases hj : j < os3.length
          · rw [get_app (by omega), get_app (by omega)]
            rw [get_app hj] at ej
            exact hw j fun m => hn j m o ej
          · rw [List.getElem?_append_right (by omega), List.getElem?_append_right (by omega), lw], I3.sub, I3.one, I3.hid, I3.tk⟩
      have ending : ∀ {H' G3 : Hp} {f3 : FP} {bb : Bool}, SI K G3 H' (wipe σ own ++ τ) (os' ++ θ) f3 → Stp G1 H1 f1 G3 H' f3 → σ.length = os'.length → (∀ j ∈ own, ∀ o, os'[j]? ≠ some (some o)) → bb = b → Q (.bl bb) H' := fun {H' G3 f3 bb} I3 s3 l3 nn hb => by
        subst hb
        have := hsw I3 (by rw [wipe_length]; exact l3) (ws := σ) (wipe_length _ _).symm (fun j hj => (wipe_get hj).symm) nn
        exact k _ H' ((Kont.sh l3 this (.bl bb)).step (s1.trans s3))
      refine ⟨fun i m H' => m = ds.length - i ∧ i ≤ ds.length ∧ ∃ os3 G3 f3, SI K G3 H' (wipe σ own ++ τ) (os3 ++ θ) f3 ∧ Stp G1 H1 f1 G3 H' f3 ∧ σ.length = os3.length ∧ (∀ j ∈ own, ∀ o, os3[j]? ≠ some (some o)) ∧ agF sa own tv c ev (ds.drop i) os3 = some (b, os'),
        ⟨ds.length, by simp, Nat.zero_le _, wipeE os1 own, G1, gw, ?_, s2.trans (Stp.less lew), by rw [len_wipeE]; exact l1, fun j hj => wipeE_none hj, by simpa using e2⟩, fun i m H' hW => ?_⟩
      · exact hsw Iw (by rw [len_wipeE]; exact l1) (wipe_length _ _) (fun j hj => wipe_get hj) fun j hj => wipeE_none hj
      · obtain ⟨rfl, hle, os3, G3, f3, I3, s3, l3, nn, e3⟩ := hW
        obtain ⟨j1, j2, j3⟩ := itk i G3 H' s3.gsub I3.sub
        by_cases hlt : i < ds.length
        · refine .inr ⟨j1 hlt, fun H'' => ∃ os4 G4 f4, SI K G4 H'' (wipe σ own ++ τ) (os4 ++ θ) f4 ∧ Stp G1 H1 f1 G4 H'' f4 ∧ σ.length = os4.length ∧ (∀ j ∈ own, ∀ o, os4[j]? ≠ some (some o)) ∧ agF sa own tv c ev (ds.drop (i + 1)) os4 = some (b, os'),
            fun H'' ⟨os4, G4, f4, q1, q2, q3, q4, q5⟩ => ⟨ds.length - (i + 1), by omega, rfl, hlt, os4, G4, f4, q1, q2, q3, q4, q5⟩, fun x H4 y => ?_⟩
          have hd : ds[i]? = some ds[i] := List.getElem?_eq_getElem hlt
          obtain ⟨G4, n4, hx⟩ := j3 x H4 _ hd y
          obtain ⟨I4, s4⟩ := I3.nw n4
          rw [List.drop_eq_getElem_cons hlt] at e3
          unfold agF at e3
          split at e3
          · rename_i os5 e5
            refine hg (wipe σ own) τ G4 H4 os3 θ f3 x ds[i] os5 _ (by rw [wipe_length]; exact l3) ht I4 hx e5 fun σ5 f5 w5 I5 le5 l5 => ?_
            refine ⟨by rw [w5, wipe_wipe], ?_⟩
            have st5 : Stp G1 H1 f1 G4 H4 f5 := (s3.trans s4).trans (Stp.less le5)
            have hback : ∀ (j : Nat), j ∉ own → (wipe σ own)[j]? = σ5[j]? := fun j hj => by
              have : (wipe σ5 own)[j]? = (wipe (wipe σ own) own)[j]? := by rw [w5]
              rw [wipe_get hj, wipe_get hj] at this
              exact this.symm
            have l56 : σ.length = σ5.length := by have := congrArg List.length w5; rw [wipe_length, wipe_length, wipe_length] at this; exact this.symm
            split at e3
            · rename_i os6 e6
              refine hc σ5 τ G4 H4 os5 θ f5 true os6 _ l5 ht I5 e6 fun H6 k6 => ?_
              obtain ⟨G6, f6, I6, s6, l6⟩ := k6
              rw [if_pos rfl]
              split at e3
              · rename_i r7 os7 e7
                split at e3
                · rename_i kk e8
                  refine he σ5 τ G6 H6 os6 θ f6 r7 os7 _ l6 ht I6 e7 fun y7 H7 k7 => ?_
                  have hv := k7.read1 ht e8
                  cases hv
                  obtain ⟨G7, f7, I7, s7, l7⟩ := k7.drop ht
                  obtain ⟨gA, LA, leA⟩ := SL.wiped I7.sl own
                  have IA := I7.forget LA leA
                  have IB := hsw IA (by rw [len_wipeE]; exact l7) (by rw [wipe_length]; exact l56) hback (fun j hj => wipeE_none hj)
                  have lB : σ.length = (wipeE os7 own).length := by rw [len_wipeE, ← l7]; exact l56
                  have stB := ((st5.trans s6).trans s7).trans (Stp.less leA)
                  refine ⟨kk, rfl, fun hk => ?_, fun hk => ?_⟩
                  · rw [if_pos hk] at e3
                    cases e3
                    exact ending IB stB lB (fun j hj => wipeE_none hj) rfl
                  · rw [if_neg hk] at e3
                    exact ⟨wipeE os7 own, G7, gA, IB, stB, lB, fun j hj => wipeE_none hj, e3⟩
                · cases e3
              · cases e3
            · rename_i os6 e6
              refine hc σ5 τ G4 H4 os5 θ f5 false os6 _ l5 ht I5 e6 fun H6 k6 => ?_
              obtain ⟨G6, f6, I6, s6, l6⟩ := k6
              rw [if_neg Bool.false_ne_true]
              obtain ⟨gA, LA, leA⟩ := SL.wiped I6.sl own
              have IA := I6.forget LA leA
              exact ⟨wipeE os6 own, G6, gA, hsw IA (by rw [len_wipeE]; exact l6) (by rw [wipe_length]; exact l56) hback (fun j hj => wipeE_none hj), (st5.trans s6).trans (Stp.less leA), by rw [len_wipeE, ← l6]; exact l56, fun j hj => wipeE_none hj, e3⟩
            · cases e3
          · cases e3
        · have ei : i = ds.length := by omega
          subst ei
          rw [List.drop_length] at e3
          have e3 : some (!sa, os3) = some (b, os') := e3
          cases e3
          exact .inl ⟨j2 (Nat.le_refl _), ending I3 s3 l3 nn rfl⟩
    · cases e
  · cases e
/-! ### as expressions -/
abbrev agN : Bool → Str
  | true => "any"
  | false => "all"
def genC (scope : Scope) : Bool := !scope.isCoroutine && (scope.names.all fun y => y.2 != .cell) && scope.names.lookup (".0" : Str) == some NameKind.local
theorem genOk_by {env : Env} {scope : Scope} (h : genC scope = true) : GenOk env scope := by
  unfold genC at h
  simp only [Bool.and_eq_true] at h
  obtain ⟨⟨h1, h2⟩, h3⟩ := h
  exact ⟨by simpa using h1, fun y hy => by simpa using List.all_eq_true.mp h2 y hy, by simpa using h3⟩
theorem guards_in1 {A : Around} (h : A.guards = some []) : A.in1.guards = some [] := by
  first
    | exact h
    | simpa [Around.in1] using h
theorem room_gen {k : Nat} {A : Around} {env : Env} (h : Room (k + 3) A) : Room k (A.in1.in1.deeper env) := h.in1.in1.deeper env
section
variable {c P : Addr} {elt tg iter : Expr} {ifs : List Expr} {scope : Scope} {own : List (Str × Nat)} {p pos gpos : Pos} {it : EvI} {tv : EvG} {cc : EvT} {ev : EvE} {gg : TG} {k : Nat}
theorem se_agG (sa : Bool) {tt : TT} (hc : X.calm = true) (hN : X.N.Nodup) (hA : X.A.guards = some []) (hr : Room (k + 3) X.A) (hm : X.mg (agN sa) = none) (TB : TabB X.base X.mg c P) (hcode : X.env.code = .ref c) (hP : TbK X.K P) (hi : SI' X tg it iter) (gk : GenOk X.env scope) (ok : BlkOk X.N X.env.scope scope own)
    (hg : ∀ (s : Shared) (H : Hp) (C : Addr) (cl : List (Str × Addr)) (code : Value) (fp : List Addr), PG (genX X s H (genEnv scope cl C code builtinsNs X.env) fp) tg gg) (hgT : TGc X.K (own.map (·.2)) tv gg)
    (ht : ∀ (s : Shared) (H : Hp) (C : Addr) (cl : List (Str × Addr)) (code : Value) (fp : List Addr), (genX X s H (genEnv scope cl C code builtinsNs X.env) fp).A.guards = some [] → Room k (genX X s H (genEnv scope cl C code builtinsNs X.env) fp).A → PTs (genX X s H (genEnv scope cl C code builtinsNs X.env) fp) ifs tt) (htT : TR X.K cc tt)
    (he : ∀ (s : Shared) (H : Hp) (C : Addr) (cl : List (Str × Addr)) (code : Value) (fp : List Addr), (genX X s H (genEnv scope cl C code builtinsNs X.env) fp).A.guards = some [] → Room k (genX X s H (genEnv scope cl C code builtinsNs X.env) fp).A → SE (genX X s H (genEnv scope cl C code builtinsNs X.env) fp) ev elt)
    (hgl : Gl X (agN sa)) (hs : ∀ v, genFold iter X.env v = pure v)
    (hst : starEach [.GeneratorExp elt [⟨tg, iter, ifs, 0⟩] scope gpos] X.env = (false, eval (.GeneratorExp elt [⟨tg, iter, ifs, 0⟩] scope gpos) X.env) :: starEach [] X.env) :
    SE X (eAg sa (own.map (·.2)) it tv cc ev) (.Call (.Name (agN sa) p) [.GeneratorExp elt [⟨tg, iter, ifs, 0⟩] scope gpos] [] pos) := by
  obtain ⟨wi, q1, q2⟩ := hi
  have hA' : ∀ env, (X.A.in1.in1.deeper env).guards = some [] := fun env => guards_deeper (guards_in1 (guards_in1 hA))
  cases sa with
  | false => exact ⟨_, pe_allG (k := k + 2) hc hN hr hgl hm TB hcode gk q1 ok hg (fun s H C cl code fp => ht s H C cl code fp (hA' _) (room_gen hr)) (fun s H C cl code fp => (he s H C cl code fp (hA' _) (room_gen hr)).pe) hs hst, er_ag hP q2 hgT htT (er_of ev)⟩
  | true => exact ⟨_, pe_anyG (k := k + 2) hc hN hr hgl hm TB hcode gk q1 ok hg (fun s H C cl code fp => ht s H C cl code fp (hA' _) (room_gen hr)) (fun s H C cl code fp => (he s H C cl code fp (hA' _) (room_gen hr)).pe) hs hst, er_ag hP q2 hgT htT (er_of ev)⟩
theorem se_ag1 (sa : Bool) (i : Nat) {x : Str} {px : Pos} (hc : X.calm = true) (hN : X.N.Nodup) (hA : X.A.guards = some []) (hr : Room (k + 3) X.A) (hm : X.mg (agN sa) = none) (TB : TabB X.base X.mg c P) (hcode : X.env.code = .ref c) (hP : TbK X.K P) (hi : SI' X (.Name x px) it iter) (gk : GenOk X.env scope) (ok : BlkOk X.N X.env.scope scope [(x, i)])
    (hg : ∀ (s : Shared) (H : Hp) (C : Addr) (cl : List (Str × Addr)) (code : Value) (fp : List Addr), PG (genX X s H (genEnv scope cl C code builtinsNs X.env) fp) (.Name x px) (gName i))
    (he : ∀ (s : Shared) (H : Hp) (C : Addr) (cl : List (Str × Addr)) (code : Value) (fp : List Addr), (genX X s H (genEnv scope cl C code builtinsNs X.env) fp).A.guards = some [] → Room k (genX X s H (genEnv scope cl C code builtinsNs X.env) fp).A → SE (genX X s H (genEnv scope cl C code builtinsNs X.env) fp) ev elt)
    (hgl : Gl X (agN sa) := by rfl) (hs : ∀ v, genFold iter X.env v = pure v := by intro _; rfl)
    (hst : starEach [.GeneratorExp elt [⟨.Name x px, iter, [], 0⟩] scope gpos] X.env = (false, eval (.GeneratorExp elt [⟨.Name x px, iter, [], 0⟩] scope gpos) X.env) :: starEach [] X.env := by rfl) :
    SE X (eAg sa [i] it (gvName [] i) cYes ev) (.Call (.Name (agN sa) p) [.GeneratorExp elt [⟨.Name x px, iter, [], 0⟩] scope gpos] [] pos) :=
  se_agG (own := [(x, i)]) sa hc hN hA hr hm TB hcode hP hi gk ok hg (tgc_name (by simp)) (fun _ _ _ _ _ _ _ _ => pts_nil) tr_yes he hgl hs hst
theorem se_ag1If (sa : Bool) (i : Nat) {x : Str} {px : Pos} {ct : Expr} (hc : X.calm = true) (hN : X.N.Nodup) (hA : X.A.guards = some []) (hr : Room (k + 3) X.A) (hm : X.mg (agN sa) = none) (TB : TabB X.base X.mg c P) (hcode : X.env.code = .ref c) (hP : TbK X.K P) (hi : SI' X (.Name x px) it iter) (gk : GenOk X.env scope) (ok : BlkOk X.N X.env.scope scope [(x, i)])
    (hg : ∀ (s : Shared) (H : Hp) (C : Addr) (cl : List (Str × Addr)) (code : Value) (fp : List Addr), PG (genX X s H (genEnv scope cl C code builtinsNs X.env) fp) (.Name x px) (gName i))
    (ht : ∀ (s : Shared) (H : Hp) (C : Addr) (cl : List (Str × Addr)) (code : Value) (fp : List Addr), (genX X s H (genEnv scope cl C code builtinsNs X.env) fp).A.guards = some [] → Room k (genX X s H (genEnv scope cl C code builtinsNs X.env) fp).A → STt (genX X s H (genEnv scope cl C code builtinsNs X.env) fp) cc ct)
    (he : ∀ (s : Shared) (H : Hp) (C : Addr) (cl : List (Str × Addr)) (code : Value) (fp : List Addr), (genX X s H (genEnv scope cl C code builtinsNs X.env) fp).A.guards = some [] → Room k (genX X s H (genEnv scope cl C code builtinsNs X.env) fp).A → SE (genX X s H (genEnv scope cl C code builtinsNs X.env) fp) ev elt)
    (hgl : Gl X (agN sa) := by rfl) (hs : ∀ v, genFold iter X.env v = pure v := by intro _; rfl)
    (hst : starEach [.GeneratorExp elt [⟨.Name x px, iter, [ct], 0⟩] scope gpos] X.env = (false, eval (.GeneratorExp elt [⟨.Name x px, iter, [ct], 0⟩] scope gpos) X.env) :: starEach [] X.env := by rfl) :
    SE X (eAg sa [i] it (gvName [] i) cc ev) (.Call (.Name (agN sa) p) [.GeneratorExp elt [⟨.Name x px, iter, [ct], 0⟩] scope gpos] [] pos) :=
  se_agG (own := [(x, i)]) sa hc hN hA hr hm TB hcode hP hi gk ok hg (tgc_name (by simp)) (fun s H C cl code fp a b => pts_one (ht s H C cl code fp a b).pt) (tr_of cc) he hgl hs hst
theorem se_ag2 (sa : Bool) (i j : Nat) {x y : Str} {px py pt : Pos} {kt : Nat} (hc : X.calm = true) (hN : X.N.Nodup) (hA : X.A.guards = some []) (hr : Room (k + 3) X.A) (hm : X.mg (agN sa) = none) (TB : TabB X.base X.mg c P) (hcode : X.env.code = .ref c) (hP : TbK X.K P) (hi : SI' X (tg2 x y px py pt kt) it iter) (gk : GenOk X.env scope) (ok : BlkOk X.N X.env.scope scope [(x, i), (y, j)])
    (hg : ∀ (s : Shared) (H : Hp) (C : Addr) (cl : List (Str × Addr)) (code : Value) (fp : List Addr), PG (genX X s H (genEnv scope cl C code builtinsNs X.env) fp) (tg2 x y px py pt kt) (gTup X.K 2 (gCons (gName i) (gCons (gName j) gNil))))
    (he : ∀ (s : Shared) (H : Hp) (C : Addr) (cl : List (Str × Addr)) (code : Value) (fp : List Addr), (genX X s H (genEnv scope cl C code builtinsNs X.env) fp).A.guards = some [] → Room k (genX X s H (genEnv scope cl C code builtinsNs X.env) fp).A → SE (genX X s H (genEnv scope cl C code builtinsNs X.env) fp) ev elt)
    (hgl : Gl X (agN sa) := by rfl) (hs : ∀ v, genFold iter X.env v = pure v := by intro _; rfl)
    (hst : starEach [.GeneratorExp elt [⟨tg2 x y px py pt kt, iter, [], 0⟩] scope gpos] X.env = (false, eval (.GeneratorExp elt [⟨tg2 x y px py pt kt, iter, [], 0⟩] scope gpos) X.env) :: starEach [] X.env := by rfl) :
    SE X (eAg sa [i, j] it (gv2 i j) cYes ev) (.Call (.Name (agN sa) p) [.GeneratorExp elt [⟨tg2 x y px py pt kt, iter, [], 0⟩] scope gpos] [] pos) :=
  se_agG (own := [(x, i), (y, j)]) sa hc hN hA hr hm TB hcode hP hi gk ok hg (tgc_two (by simp) (by simp)) (fun _ _ _ _ _ _ _ _ => pts_nil) tr_yes he hgl hs hst
end
end
end DX
/-! DXWid: tuple(x), t + u, xs * k, x in t, [::-1], isinstance of two classes, zip. -/
namespace HT
open PySem PySem.Spec PyProof.Rows
section
variable {prog : Program} {w : World} {A : Around} {E : Value → Shared → Prop} {s : Shared}
theorem adjust_rev (n : Nat) : Builtin.Slice.sliceAdjust none none (-1) (n : Int) = ((n : Int) - 1, -1) := by
  unfold Builtin.Slice.sliceAdjust
  simp
theorem places_rev (n : Nat) : Builtin.Slice.slicePlaces ((n : Int) - 1) (-1) (-1) = n := by
  unfold Builtin.Slice.slicePlaces
  simp
  omega
theorem sliceApplied_rev {sl : Addr} {vl vu vs : Value} {n : Nat} {Q : Int × Int × Nat → Shared → Prop} (hs : s.heap.IsSliceOf sl vl vu vs) (pl : IsPart vl none) (pu : IsPart vu none) (ps : IsPart vs (some (-1)))
    (h : Q ((n : Int) - 1, -1, n) s) : wpAny (model prog w) A (Builtin.Slice.sliceApplied (.ref sl) (pure (n : Int))) Q E s := by
  obtain ⟨os, hos, hcs, hds⟩ := id hs
  unfold Builtin.Slice.sliceApplied Builtin.Slice.sliceFields
  refine wpAny_bind (wpAny_bind (wpAny_field hos hds (x := vl) rfl (wpAny_bind (wpAny_field hos hds (x := vu) rfl (wpAny_bind (wpAny_field hos hds (x := vs) rfl (wpAny_pure ?_)))))))
  refine wpAny_bind (slicePart_ ps ?_)
  show wpAny _ _ (if ((-1 : Int) == 0) = true then _ else _) _ _ s
  rw [if_neg (by decide)]
  refine wpAny_bind (slicePart_ pl (wpAny_bind (slicePart_ pu (wpAny_bind (wpAny_pure ?_)))))
  show wpAny _ _ (match Builtin.Slice.sliceAdjust none none (-1) (n : Int) with | (lo, hi) => pure (lo, (-1 : Int), Builtin.Slice.slicePlaces lo hi (-1))) _ _ s
  rw [adjust_rev]
  show wpAny _ _ (pure ((n : Int) - 1, (-1 : Int), Builtin.Slice.slicePlaces ((n : Int) - 1) (-1) (-1))) _ _ s
  rw [places_rev]
  exact wpAny_pure h
theorem pick_rev (xs : Array Value) : ((List.range xs.size).filterMap fun (m : Nat) => xs[(((xs.size : Int) - 1) + (m : Int) * (-1)).toNat]?).toArray = xs.toList.reverse.toArray := by
  congr 1
  have key : ∀ k, k ≤ xs.size → (List.range k).filterMap (fun (m : Nat) => xs[(((xs.size : Int) - 1) + (m : Int) * (-1)).toNat]?) = xs.toList.reverse.take k := by
    intro k
    induction k with
    | zero => intro _; rfl
    | succ k ih =>
      intro hk
      have e1 : (((xs.size : Int) - 1) + (k : Int) * (-1)).toNat = xs.size - 1 - k := by omega
      have hl : k < xs.toList.reverse.length := by simp; omega
      have e2 : xs[xs.size - 1 - k]? = some xs.toList.reverse[k] := by
        rw [List.getElem_reverse, Array.getElem?_eq_getElem (by omega)]
        simp
      rw [List.range_succ, List.filterMap_append, ih (by omega), List.take_succ, List.getElem?_eq_getElem hl]
      simp only [List.filterMap_cons, List.filterMap_nil, e1, e2, Option.toList]
  rw [key _ (Nat.le_refl _), List.take_of_length_le (by simp)]
theorem getItem_tuple_rev {t sl : Addr} {items : Array Value} {vl vu vs : Value} {Q : Value → Shared → Prop} (ht : IsTup s.heap t items) (hs : s.heap.IsSliceOf sl vl vu vs) (pl : IsPart vl none) (pu : IsPart vu none) (ps : IsPart vs (some (-1)))
    (h : Q (.ref s.heap.objs.size) { s with heap := s.heap.push { cls := .type "tuple", data := .seq items.toList.reverse.toArray } })
    (hsz : items.size ≤ sizeLine) : wpAny (model prog w) A (getItem (.ref t) (.ref sl)) Q E s := by
  have htake : sizeOk (.seq items.toList.reverse.toArray) := by
    show items.toList.reverse.toArray.size ≤ sizeLine
    rw [List.size_toArray, List.length_reverse, Array.length_toList]
    exact hsz
  obtain ⟨os, hos, hcs, hds⟩ := id hs
  have hTs : s.TypeIs (.ref sl) "slice" := ⟨os, hos, hcs⟩
  unfold getItem
  try with_reducible refine wpAny_holding ?_
  first | refine wpAny_bind (wpAny_pure ?_) | skip
  refine wpAny_bind (wpAny_sequenceKey ht.typeIs (by decide) ?_)
  refine wpAny_bind (wpAny_callSpecial?_slot (name := Str.ofString "__getitem__") ht.typeIs PyProof.Rows.slot_tuple_getitem
    (wpAny_call_entry PyProof.Rows.slot_tuple_getitem ht.typeIs entry_tuple_getitem ?_ (args_tuple_getitem _ _)))
  show wpAny _ _ (Builtin.Tuple.tupleItemsOf (.ref t) >>= _) _ _ s
  refine wpAny_bind (tupleItemsOf_ ht ?_)
  refine wpAny_bind (wpAny_typeOf hTs ?_)
  rw [if_pos (by decide)]
  refine wpAny_bind (sliceApplied_rev hs pl pu ps ?_)
  have hno : ¬ ((((items.size : Int) - 1) == 0 && (-1 : Int) == 1 && items.size == items.size) = true) := by simp
  show wpAny _ _ (if (((items.size : Int) - 1) == 0 && (-1 : Int) == 1 && items.size == items.size) = true then _ else _) _ _ s
  rw [if_neg hno, pick_rev]
  first
    | exact wpAny_bind (m := Builtin.Tuple.tupleExact _) (wpAny_newObj_type (wpAny_pure ⟨_, rfl, wpAny_pure h⟩) htake)
    | exact wpAny_bind (m := Builtin.Tuple.tupleExact _) (wpAny_newObj_type (wpAny_bind (wpAny_pure (wpAny_pure ⟨_, rfl, wpAny_pure h⟩))) htake)
    | exact wpAny_bind (wpAny_bind (m := Builtin.Tuple.tupleExact _) (wpAny_newObj_type (wpAny_pure (wpAny_pure ⟨_, rfl, wpAny_pure h⟩)) htake))
    | exact wpAny_bind (wpAny_bind (m := Builtin.Tuple.tupleExact _) (wpAny_newObj_type (wpAny_pure ⟨_, rfl, wpAny_pure h⟩) htake))
end
end HT
namespace DX
open PySem PySem.Spec PyProof.Rows L2
section
variable {K : PySem.W.Frag} {X : Cx}
/-! ### one or the other -/
def opOr (f g : List PyData → Option Op) : List PyData → Option Op := fun ds => (f ds).or (g ds)
theorem opOr_some {f g : List PyData → Option Op} {ds : List PyData} {r : Op} (h : opOr f g ds = some r) : f ds = some r ∨ g ds = some r := by
  unfold opOr at h
  cases e : f ds with
  | some x => rw [e] at h; exact .inl h
  | none => rw [e] at h; exact .inr h
theorem OpOk.or {r r' : List V → Hp → VK → Prop} {f g : List PyData → Option Op} (a : OpOk K r f) (b : OpOk K r' g) : OpOk K (fun vs H Q => r vs H Q ∨ r' vs H Q) (opOr f g) where
  sc := fun ds d H vs Q e z hd k => (opOr_some e).imp (fun e => a.sc ds d H vs Q e z hd k) fun e => b.sc ds d H vs Q e z hd k
  el := fun ds d G H vs Q e z s hd k => (opOr_some e).imp (fun e => a.el ds d G H vs Q e z s hd k) fun e => b.el ds d G H vs Q e z s hd k
  nl := fun ds es G H vs Q e s hd k => (opOr_some e).imp (fun e => a.nl ds es G H vs Q e s hd k) fun e => b.nl ds es G H vs Q e s hd k
  nt := fun ds es G H vs Q e s hd k => (opOr_some e).imp (fun e => a.nt ds es G H vs Q e s hd k) fun e => b.nt ds es G H vs Q e s hd k
theorem OpOk.imp {r r' : List V → Hp → VK → Prop} {f : List PyData → Option Op} (a : OpOk K r f) (h : ∀ vs H Q, r vs H Q → r' vs H Q) : OpOk K r' f where
  sc := fun ds d H vs Q e z hd k => h _ _ _ (a.sc ds d H vs Q e z hd k)
  el := fun ds d G H vs Q e z s hd k => h _ _ _ (a.el ds d G H vs Q e z s hd k)
  nl := fun ds es G H vs Q e s hd k => h _ _ _ (a.nl ds es G H vs Q e s hd k)
  nt := fun ds es G H vs Q e s hd k => h _ _ _ (a.nt ds es G H vs Q e s hd k)
theorem OpOk.or2 {r r' : R2} {f g : List PyData → Option Op} (a : OpOk K (r2 r) f) (b : OpOk K (r2 r') g) : OpOk K (r2 fun x y H Q => r x y H Q ∨ r' x y H Q) (opOr f g) :=
  (a.or b).imp fun vs H Q h => by
    match vs with
    | [x, y] => exact h
    | [] => exact h.elim id id
    | [_] => exact h.elim id id
    | _ :: _ :: _ :: _ => exact h.elim id id
/-! ### tuple(x) -/
def opTup : List PyData → Option Op
  | [.list ds] => some (.nt ds)
  | [.tuple ds] => some (.val (.tuple ds))
  | _ => none
def rTup (K : PySem.W.Frag) : List V → Hp → VK → Prop := fun xs H Q => ∃ p ys, xs = [.ref p] ∧ ((SqL K H p ys ∧ ∀ l, H l = none → Q (.ref l) (upd H l (.tup ys))) ∨ (SqT K H p ys ∧ Q (.ref p) H))
theorem ok_tup : OpOk K (rTup K) opTup where
  sc := fun ds d H vs Q h z hd k => by
    unfold opTup at h
    split at h
    · cases h
    · cases h; cases z
    · cases h
  el := fun ds d G H vs Q h z s hd k => by
    unfold opTup at h
    split at h
    · cases h
    · cases h
      obtain ⟨v, rfl, a⟩ := dws1 hd
      cases a with
      | sh q =>
        have q0 := q
        cases q with
        | tup q1 qs => exact ⟨_, _, rfl, .inr ⟨sqT_sub s q1, k _ q0⟩⟩
    · cases h
  nl := fun ds es G H vs Q h s hd k => by
    unfold opTup at h
    split at h <;> cases h
  nt := fun ds es G H vs Q h s hd k => by
    unfold opTup at h
    split at h
    · cases h
      obtain ⟨v, rfl, a⟩ := dws1 hd
      obtain ⟨p, us, rfl, q, r⟩ := a.list s
      exact ⟨_, _, rfl, .inl ⟨q, fun l hl => k _ l r hl⟩⟩
    · cases h
    · cases h
theorem se_tuple1 {e : Expr} {ev : EvEs} {p pos : Pos} (hm : X.mg "tuple" = none) (h : SEs X ev [e]) (hg : Gl X "tuple" := by rfl) (he : starEach (e :: []) X.env = (false, eval e X.env) :: starEach [] X.env := by rfl) : SE X (eOp opTup ev) (.Call (.Name "tuple" p) [e] [] pos) :=
  se_bt call_tuple_of ok_tup hm h (by decide +kernel) hg (by decide) (by decide) he rfl
theorem o_tupL {ds : List PyData} : opTup [.list ds] = some (.nt ds) := rfl
theorem o_tupT {ds : List PyData} : opTup [.tuple ds] = some (.val (.tuple ds)) := rfl
/-! ### t + u -/
def opCatT : List PyData → Option Op
  | [.tuple a, .tuple b] => if a.length + b.length ≤ sizeLine then (match a, b with
    | [], b => some (.val (.tuple b))
    | a, [] => some (.val (.tuple a))
    | a, b => some (.nt (a ++ b))) else none
  | _ => none
theorem ok_catT : OpOk K (r2 (rCatA K)) opCatT where
  sc := fun ds d H vs Q h z hd k => by
    unfold opCatT at h
    split at h
    · split at h
      · split at h <;> cases h <;> cases z
      · cases h
    · cases h
  el := fun ds d G H vs Q h z s hd k => by
    unfold opCatT at h
    split at h
    · rename_i a b
      split at h
      · rename_i c
        obtain ⟨v, w, rfl, q1, q2⟩ := dws2 hd
        cases q1 with
        | sh q1 =>
          cases q2 with
          | sh q2 =>
            have k1 := q1; have k2 := q2
            cases q1 with
            | tup a1 b1 =>
              cases q2 with
              | tup a2 b2 =>
                refine ⟨_, _, _, _, rfl, rfl, sqT_sub s a1, sqT_sub s a2, by rw [dps_len b1, dps_len b2]; exact c, fun e => ?_, fun e1 e2 => ?_, fun e1 e2 => ?_⟩
                · subst e
                  cases b1
                  cases h
                  exact k _ k2
                · subst e2
                  cases b2
                  split at h
                  · rename_i e3
                    cases b1
                    exact absurd rfl e1
                  · cases h
                    exact k _ k1
                  · rename_i e3; exact (e3 rfl).elim
                · split at h
                  · cases b1
                    exact absurd rfl e1
                  · cases b2
                    exact absurd rfl e2
                  · cases h
      · cases h
    · cases h
  nl := fun ds es G H vs Q h s hd k => by
    unfold opCatT at h
    split at h
    · split at h
      · split at h <;> cases h
      · cases h
    · cases h
  nt := fun ds es G H vs Q h s hd k => by
    unfold opCatT at h
    split at h
    · rename_i a b
      split at h
      · rename_i c
        obtain ⟨v, w, rfl, q1, q2⟩ := dws2 hd
        obtain ⟨p1, v1, rfl, h1, _, d1⟩ := q1.tuple s
        obtain ⟨p2, v2, rfl, h2, _, d2⟩ := q2.tuple s
        refine ⟨_, _, _, _, rfl, rfl, h1, h2, by rw [dps_len d1, dps_len d2]; exact c, fun e => ?_, fun e1 e2 => ?_, fun e1 e2 => ?_⟩
        · subst e
          cases d1
          cases h
        · subst e2
          cases d2
          split at h
          · cases h
          · cases h
          · rename_i e3; exact (e3 rfl).elim
        · intro p hp
          split at h
          · cases h
          · cases h
          · cases h
            exact k _ p (dps_app d1 d2) hp
      · cases h
    · cases h
theorem se_addW {a b : Expr} {ea eb : EvE} {pos : Pos} (ha : SE X ea a) (hb : SE X eb b) : SE X (eOp (opOr opAdd opCatT) (es2 ea eb)) (.BinOp a .Add b pos) := by
  obtain ⟨ta, p1, q1⟩ := ha
  obtain ⟨tb, p2, q2⟩ := hb
  exact ⟨_, pe_op ((op_add.or (op_add_str.or op_catR)).or op_catA) p1 p2, er_op2 q1 q2 (ok_add.or2 ok_catT)⟩
/-! ### [..] * k -/
def eRepD (ea eb : EvE) : EvE := fun os => match ea os with
  | some (.tm (.lst xs), os1) => match eb os1 with
    | some (r, os2) => match r.rd os2 with
      | some (.int k) => if xs.all OD.isSh = true ∧ -(2 ^ 63) ≤ k ∧ k < 2 ^ 63 ∧ xs.length * k.toNat ≤ sizeLine then some (.tm (.lst ((List.replicate k.toNat (OD.ers xs)).flatten.map OD.sh)), os2) else none
      | _ => none
    | none => none
  | _ => none
theorem dps_rep {H : Hp} {vs : List V} {ds : List PyData} (h : DxAll K H vs ds) : ∀ k : Nat, DxAll K H (List.replicate k vs).flatten (List.replicate k ds).flatten
  | 0 => .nil
  | k + 1 => by rw [List.replicate_succ, List.replicate_succ, List.flatten_cons, List.flatten_cons]; exact dps_app h (dps_rep h k)
theorem er_repD {ea eb : EvE} {ta tb : TE} (ha : ER K ea ta) (hb : ER K eb tb) : ER K (eRepD ea eb) (tOp rRep ta tb) := fun σ τ G H os θ f r os' Q hl ht I e k => by
  unfold eRepD at e
  split at e
  · rename_i xs os1 e1
    split at e
    · rename_i r2 os2 e2
      split at e
      · rename_i kk e3
        split at e
        · rename_i c
          cases e
          refine ha σ τ G H os θ f _ os1 _ hl ht I e1 fun v H1 k1 => ?_
          obtain ⟨G1, f1, I1, s1, a1, l1⟩ := k1
          refine hb σ (τ ++ [some v]) G1 H1 os1 (θ ++ [some (.lst xs)]) f1 r2 _ _ l1 (by simp [ht]) (by simpa [RV.od] using I1) e2 fun w H2 k2 => ?_
          have hw := k2.read1 (by simp [ht]) e3
          cases hw
          obtain ⟨G2, f2, I2, s2, l2⟩ := k2.drop (by simp [ht])
          rw [← List.append_assoc, ← List.append_assoc] at I2
          obtain ⟨v', fo, fr, ev, hro, hsl, hf⟩ := I2.last (by simp [l2, ht])
          cases ev
          cases hro with
          | lst hp hr =>
            rename_i p us g0
            have hd := isSh_er (d := .none) c.1 hr
            have I3 := I2.forget hsl fun a => by rw [hf]; omega
            have st : Stp G H f G2 H2 fr := (s1.trans s2).trans (Stp.less fun a => by rw [hf]; omega)
            refine ⟨p, kk, us, rfl, rfl, hp, c.2.1, c.2.2.1, by rw [hr.len]; exact c.2.2.2, fun q hq => ?_⟩
            obtain ⟨f4, I4, s4⟩ := I3.pushNew (dps_rep hd kk.toNat) hq
            exact k _ _ ⟨G2, f4, by simpa [List.append_assoc, RV.od] using I4, st.trans s4, .cons trivial .nil, l2⟩
        · cases e
      · cases e
    · cases e
  · cases e
theorem se_repD {a b : Expr} {ea eb : EvE} {pos : Pos} (ha : SE X ea a) (hb : SE X eb b) : SE X (eRepD ea eb) (.BinOp a .Mult b pos) := by
  obtain ⟨ta, p1, q1⟩ := ha
  obtain ⟨tb, p2, q2⟩ := hb
  exact ⟨_, pe_op op_rep p1 p2, er_repD q1 q2⟩
/-! ### x in t, data of any depth -/
def opInT (neg : Bool) : List PyData → Option Op
  | [d, .tuple ds] => if (SeqAt.shaped d && SeqAt.shaped (.tuple ds)) = true then some (.val (.bool (if neg then !(ds.any fun z => PyData.eqv z d) else ds.any fun z => PyData.eqv z d))) else none
  | _ => none
def rInT (K : PySem.W.Frag) (neg : Bool) : R2 := fun x y H Q => ∃ d ds, Dp K H x d ∧ Dp K H y (.tuple ds) ∧ SeqAt.shaped d = true ∧ SeqAt.shaped (.tuple ds) = true ∧ Q (.bl (if neg then !(ds.any fun z => PyData.eqv z d) else ds.any fun z => PyData.eqv z d)) H
theorem op_inT (hu : X.A.units + 65 < cLine) : OpR X (compareOp .In) (rInT X.K false) := by
  intro pins s σ H x y v u Q I rx ry h
  obtain ⟨d, ds, hd, he, sd, se, q⟩ := h
  obtain ⟨as, r1⟩ := Dp.reads I d x v hd rx
  obtain ⟨bs, r2⟩ := Dp.reads I (.tuple ds) y u he ry
  exact SeqAt.in_tuple_reads r2 r1 (SeqAt.canLay_of_shaped se) (SeqAt.canLay_of_shaped sd) (room_in_shaped sd hu) ⟨.bl _, H, I, rfl, q⟩
theorem op_niT (hu : X.A.units + 65 < cLine) : OpR X (compareOp .NotIn) (rInT X.K true) := by
  intro pins s σ H x y v u Q I rx ry h
  obtain ⟨d, ds, hd, he, sd, se, q⟩ := h
  obtain ⟨as, r1⟩ := Dp.reads I d x v hd rx
  obtain ⟨bs, r2⟩ := Dp.reads I (.tuple ds) y u he ry
  exact SeqAt.notIn_tuple_reads r2 r1 (SeqAt.canLay_of_shaped se) (SeqAt.canLay_of_shaped sd) (room_in_shaped sd hu) ⟨.bl _, H, I, rfl, q⟩
theorem ok_inT {n : Bool} : OpOk K (r2 (rInT K n)) (opInT n) := .ofSc (fun ds res e => by
    unfold opInT at e
    split at e
    · split at e
      · cases e; exact ⟨_, rfl, rfl⟩
      · cases e
    · cases e) fun ds d H vs Q e hd k => by
  unfold opInT at e
  split at e
  · split at e
    · rename_i c
      cases e
      obtain ⟨v, w, rfl, a, b⟩ := dps2 hd
      obtain ⟨c1, c2⟩ := Bool.and_eq_true_iff.mp c
      exact ⟨_, _, a.dp (PyData.hasDict_of_canLay _ (Bool.and_eq_true_iff.mp c1).1), b.dp (PyData.hasDict_of_canLay _ (Bool.and_eq_true_iff.mp c2).1), c1, c2, k _ (.bl _)⟩
    · cases e
  · cases e
section
variable {a b : Expr} {ea eb : EvE} {pos : Pos} {k : Nat}
theorem se_inW (hr : Room k X.A) (ha : SE X ea a) (hb : SE X eb b) (hm : behindInMarks .In b = false := by rfl) : SE X (eOp (opOr (opIn false) (opInT false)) (es2 ea eb)) (.Compare a [.In] [b] pos) := se_cmp ((or_in (hu65 hr)).or (op_inT (hu65 hr))) (ok_in.or2 ok_inT) ha hb hm
theorem se_niW (hr : Room k X.A) (ha : SE X ea a) (hb : SE X eb b) (hm : behindInMarks .NotIn b = false := by rfl) : SE X (eOp (opOr (opIn true) (opInT true)) (es2 ea eb)) (.Compare a [.NotIn] [b] pos) := se_cmp ((or_ni (hu65 hr)).or (op_niT (hu65 hr))) (ok_ni.or2 ok_inT) ha hb hm
theorem st_inW (hr : Room k X.A) (ha : SE X ea a) (hb : SE X eb b) (hm : behindInMarks .In b = false := by rfl) : STt X (tBl (eOp (opOr (opIn false) (opInT false)) (es2 ea eb))) (.Compare a [.In] [b] pos) := st_cmp ((or_in (hu65 hr)).or (op_inT (hu65 hr))) (ok_in.or2 ok_inT) ha hb hm
theorem st_niW (hr : Room k X.A) (ha : SE X ea a) (hb : SE X eb b) (hm : behindInMarks .NotIn b = false := by rfl) : STt X (tBl (eOp (opOr (opIn true) (opInT true)) (es2 ea eb))) (.Compare a [.NotIn] [b] pos) := st_cmp ((or_ni (hu65 hr)).or (op_niT (hu65 hr))) (ok_ni.or2 ok_inT) ha hb hm
end
/-! ### xs[::-1] -/
def opRvs : List PyData → Option Op
  | [.list ds] => some (.nl ds.reverse)
  | [.tuple ds] => some (.nt ds.reverse)
  | _ => none
def rRvs (K : PySem.W.Frag) : V → Hp → VK → Prop := fun x H Q => ∃ a xs, x = .ref a ∧ ((SqL K H a xs ∧ ∀ p, H p = none → Q (.ref p) (upd H p (.lst xs.reverse))) ∨ (SqT K H a xs ∧ ∀ p, H p = none → Q (.ref p) (upd H p (.tup xs.reverse))))
theorem dps_rev' {H : Hp} {vs : List V} {ds : List PyData} (h : DxAll K H vs ds) : DxAll K H vs.reverse ds.reverse := dps_rev h
theorem ok_rvs : OpOk K (r1 (rRvs K)) opRvs where
  sc := fun ds d H vs Q h z hd k => by
    unfold opRvs at h
    split at h <;> cases h
  el := fun ds d G H vs Q h z s hd k => by
    unfold opRvs at h
    split at h <;> cases h
  nl := fun ds es G H vs Q h s hd k => by
    unfold opRvs at h
    split at h
    · cases h
      obtain ⟨v, rfl, a⟩ := dws1 hd
      obtain ⟨p, us, rfl, q, r⟩ := a.list s
      exact ⟨_, _, rfl, .inl ⟨q, fun l hl => k _ l (dps_rev r) hl⟩⟩
    · cases h
    · cases h
  nt := fun ds es G H vs Q h s hd k => by
    unfold opRvs at h
    split at h
    · cases h
    · cases h
      obtain ⟨v, rfl, a⟩ := dws1 hd
      obtain ⟨p, us, rfl, q, _, r⟩ := a.tuple s
      exact ⟨_, _, rfl, .inr ⟨q, fun l hl => k _ l (dps_rev r) hl⟩⟩
    · cases h
theorem pe_rvs {e : Expr} {te : TE} {k : Nat} {p1 p2 p3 pos : Pos} (he : PE X e te) : PE X (.Subscript e (.Slice none none (some (.UnaryOp .USub (.Constant (.int 1) k p1) p2)) p3) pos) (tUn (rRvs X.K) te) := by
  refine ⟨fun pins s σ H Q I h => ?_⟩
  refine Subscript_ (thn (he.run pins s σ H _ I h) fun v s1 ⟨x, H1, I1, r1, q1⟩ => ?_)
  obtain ⟨a, xs, ex, q1⟩ := q1
  subst ex
  cases r1
  have hst : PO X (some (.UnaryOp .USub (.Constant (.int 1) k p1) p2)) (tPart (tUn (rU fun i => .int (-i)) (tC (.int 1)))) := po_some (pe_un un_neg pe_int)
  refine wpAny_Slice (thn (po_none.run pins s1 σ H1 (fun o H2 => o = none ∧ H2 = H1) I1 ⟨rfl, rfl⟩) fun vl s2 ⟨l, H2, I2, pl, el, e2⟩ => ?_)
  subst el e2
  refine thn (po_none.run pins s2 σ H2 (fun o H3 => o = none ∧ H3 = H2) I2 ⟨rfl, rfl⟩) fun vu s3 ⟨u, H3, I3, pu, eu, e3⟩ => ?_
  subst eu e3
  refine thn (hst.run pins s3 σ H3 (fun o H4 => o = some (-1) ∧ H4 = H3) I3 ⟨1, rfl, -1, rfl, rfl, rfl⟩) fun vs s4 ⟨o, H4, I4, ps, eo, e4⟩ => ?_
  subst eo e4
  have I5 : Inv X pins σ H4 { s4 with heap := s4.heap.push { cls := .type "slice", data := .fields #[vl, vu, vs] } } := I4.kept (t' := s4.toks) fun b ob q => Heap.get?_push_of_some _ q
  show wpAny (model X.prog X.w) X.A (subscriptTail e (.Slice none none (some (.UnaryOp .USub (.Constant (.int 1) k p1) p2)) p3) (.ref a) (.ref s4.heap.objs.size)) (EP X pins σ Q) X.xe { s4 with heap := s4.heap.push { cls := .type "slice", data := .fields #[vl, vu, vs] } }
  rcases q1 with ⟨hx, q⟩ | ⟨hx, q⟩
  · obtain ⟨its, r, ht, hz⟩ := I5.list hx
    have hlen := r.length
    refine tail_any (ops := [.ref a, .ref s4.heap.objs.size]) ht.isList.typeIs (PySem.slot_list_getitem.lookup) ?_ (by with_unfolding_all rfl)
    refine wpAny_getItem_list_slice ht.isList (Heap.IsSliceOf.new _ vl vu vs) pl pu ps (by decide) ?_ (by rw [List.size_toArray]; omega)
    rw [PySem.W.krv_pick]
    refine ⟨.ref _, _, I5.laid (t' := s4.toks) (o := .lst xs.reverse) (fun b ob q => Heap.get?_push_of_some _ q) (Nat.le_refl _) ?_, rfl, q _ (I5.hok.fresh (Nat.le_refl _))⟩
    exact ⟨by rw [List.length_reverse]; exact hz, _, 0, r.reverse, Heap.get?_push_size _ rfl⟩
  · obtain ⟨its, r, ht, hz⟩ := I5.tuple hx
    have hlen := r.length
    refine tail_any (ops := [.ref a, .ref s4.heap.objs.size]) ht.typeIs (PyProof.Rows.slot_tuple_getitem.lookup) ?_ (by with_unfolding_all rfl)
    refine HT.getItem_tuple_rev ht (Heap.IsSliceOf.new _ vl vu vs) pl pu ps ?_ (by rw [List.size_toArray]; omega)
    refine ⟨.ref _, _, I5.laid (t' := s4.toks) (o := .tup xs.reverse) (fun b ob q => Heap.get?_push_of_some _ q) (Nat.le_refl _) ?_, rfl, q _ (I5.hok.fresh (Nat.le_refl _))⟩
    exact ⟨by rw [List.length_reverse]; exact hz, _, r.reverse, IsTup.new _ _⟩
theorem se_rvs {a : Expr} {ea : EvE} {k : Nat} {p1 p2 p3 pos : Pos} (ha : SE X ea a) : SE X (eOp opRvs (es1 ea)) (.Subscript a (.Slice none none (some (.UnaryOp .USub (.Constant (.int 1) k p1) p2)) p3) pos) := by
  obtain ⟨ta, p1, q1⟩ := ha
  exact ⟨_, pe_rvs p1, er_op1 q1 ok_rvs⟩
/-! ### isinstance(x, (T, U)) -/
def isi2 (n1 n2 : String) (d : PyData) : Option Bool := match d with
  | .dict _ => none
  | d => match kitB (tyN d) n1, kitB (tyN d) n2 with
    | some a, some b => some (a || b)
    | _, _ => none
def eIsi2 (n1 n2 : String) (ea : EvE) : EvE := fun os => match ea os with
  | some (r, os1) => match r.rd os1 with
    | some d => match isi2 n1 n2 d with
      | some b => some (.tm (.sh (.bool b)), os1)
      | none => none
    | none => none
  | none => none
theorem er_isi2 {n1 n2 : String} {ea : EvE} {te : TE} (h : ER K ea te) : ER K (eIsi2 n1 n2 ea) (tCB (rIsiT K) (tCons te (tCons (tTup (tCons (tC (.ty n1)) (tCons (tC (.ty n2)) tNil))) tNil))) := fun σ τ G H os θ f r os' Q hl ht I e k => by
  unfold eIsi2 at e
  split at e
  · rename_i r1 os1 e1
    split at e
    · rename_i d e2
      split at e
      · rename_i b e3
        cases e
        refine h σ τ G H os θ f r1 _ _ hl ht I e1 fun v H1 k1 => ?_
        have hv := k1.read1 ht e2
        obtain ⟨G1, f1, I1, s1, l1⟩ := k1.drop ht
        refine ⟨by show 2 ≤ sizeLine; decide, fun p hp => ?_⟩
        have sb : Sub H1 (upd H1 p (.tup [.ty n1, .ty n2])) := sub_upd (Sub.refl _) hp
        have fin : Q (.bl b) (upd H1 p (.tup [.ty n1, .ty n2])) := by
          refine k (.bl b) _ ((Kont.sh l1 (I1.grow (I1.sub.trans sb) (fun a xs q => sb a _ q) (I1.tk.putH (fun ps z => by rw [hp] at z; cases z) fun _ z => HO.noConfusion z)) (.bl b)).step ?_)
          exact s1.trans ⟨Sub.refl _, fun a o q _ => sb a _ q, fun a q => ne_of_sub sb q, fun a q => .inl q, fun a q => .inl q⟩
        unfold isi2 at e3
        split at e3
        · cases e3
        · rename_i _ nd
          split at e3
          · rename_i b1 b2 e4 e5
            cases e3
            refine ⟨v, p, [.ty n1, .ty n2], .type (tyN d), [.type n1, .type n2], _, rfl, upd_same, .cons (.ty n1) (.cons (.ty n2) .nil), ty_dx (dp_sub sb hv) (fun kv z => nd kv (by rw [z])), ?_, fin⟩
            unfold PySem.W.kitAny
            rw [kit_ty e4]
            cases b1 with
            | true => rfl
            | false =>
              show PySem.W.kitAny K _ [.type n2] = _
              unfold PySem.W.kitAny
              rw [kit_ty e5]
              cases b2 <;> rfl
          · cases e3
      · cases e
    · cases e
  · cases e
theorem se_isi2 {n1 n2 : String} {y1 y2 : Str} {a : Expr} {ea : EvE} {p q1 q2 tpos pos : Pos} {kt : Nat} (hm : X.mg "isinstance" = none) (h1 : X.mg y1 = none) (h2 : X.mg y2 = none) (ha : SE X ea a)
    (v1 : bootBuiltins y1 = some (.type n1) := by decide +kernel) (v2 : bootBuiltins y2 = some (.type n2) := by decide +kernel) (hg : Gl X "isinstance" := by rfl) (g1 : Gl X y1 := by rfl) (g2 : Gl X y2 := by rfl) (m1 : y1 ≠ "__name__" := by decide) (m2 : y2 ≠ "__name__" := by decide)
    (d1 : (y1 == ("__debug__" : Str)) = false := by decide) (d2 : (y2 == ("__debug__" : Str)) = false := by decide) (he : starEach (a :: [.Tuple [.Name y1 q1, .Name y2 q2] kt tpos]) X.env = (false, eval a X.env) :: starEach [.Tuple [.Name y1 q1, .Name y2 q2] kt tpos] X.env := by rfl)
    (hpl : (backTo pos (starEach [.Tuple [.Name y1 q1, .Name y2 q2] kt tpos] X.env)).any (·.1) = false := by rfl) (he2 : starEach (.Name y1 q1 :: [.Name y2 q2]) X.env = (false, eval (.Name y1 q1) X.env) :: starEach [.Name y2 q2] X.env := by rfl) (he3 : starEach (.Name y2 q2 :: []) X.env = (false, eval (.Name y2 q2) X.env) :: starEach [] X.env := by rfl)
    (he4 : starEach (.Tuple [.Name y1 q1, .Name y2 q2] kt tpos :: []) X.env = (false, eval (.Tuple [.Name y1 q1, .Name y2 q2] kt tpos) X.env) :: starEach [] X.env := by rfl) :
    SE X (eIsi2 n1 n2 ea) (.Call (.Name "isinstance" p) [a, .Tuple [.Name y1 q1, .Name y2 q2] kt tpos] [] pos) := by
  obtain ⟨ta, p1, r1⟩ := ha
  exact ⟨_, pe_callB (X := X) (x := "isinstance") (p := p) (pos := pos) call_isiT hg hm (by decide +kernel) (pa_cons p1 (pa_cons (pe_tup (pa_cons (pe_bltn (v := .ty n1) g1 h1 v1 rfl m1 d1) (pa_cons (pe_bltn (v := .ty n2) g2 h2 v2 rfl m2 d2) pa_nil he3) he2)) pa_nil he4) he) (by decide) (by decide) he hpl, er_isi2 r1⟩
/-! ### zip of two -/
def zipD (xs ys : List PyData) : List PyData := List.zipWith (fun a b => .tuple [a, b]) xs ys
theorem zipD_get {xs ys : List PyData} {i : Nat} {e : PyData} (h : (zipD xs ys)[i]? = some e) : ∃ a b, xs[i]? = some a ∧ ys[i]? = some b ∧ e = .tuple [a, b] := by
  unfold zipD at h
  rw [List.getElem?_zipWith] at h
  split at h
  · rename_i a b e1 e2
    exact ⟨a, b, e1, e2, (Option.some.inj h).symm⟩
  · cases h
def iZp (ev : EvEs) : EvI := fun os => match ev os with
  | some (rs, os1) => match rdAll os1 rs with
    | some [.list xs, .list ys] => some (zipD xs ys, hardAll os1 rs)
    | some [.tuple xs, .tuple ys] => some (zipD xs ys, hardAll os1 rs)
    | _ => none
  | none => none
theorem ir_zp {ev : EvEs} {ta : TA} (h : ERs K ev ta) : IR K (iZp ev) (RZ.iZipA K ta) := fun σ τ G H os θ f ds os' Q hl ht I e k => by
  unfold iZp at e
  split at e
  · rename_i rs os1 e1
    split at e
    · rename_i xs ys e2
      cases e
      refine h σ τ G H os θ f rs _ _ hl ht I e1 fun vs H1 k1 => ?_
      obtain ⟨G1, f1, I1, s1, a1, l1⟩ := k1
      obtain ⟨G2, f2, I2, s2, hd⟩ := I1.popC l1 ht a1 e2
      obtain ⟨v, w, rfl, hv, hw⟩ := dps2 hd
      cases hv with
      | lst q qs =>
        cases hw with
        | lst q' qs' =>
          rename_i a us b ws
          refine ⟨a, b, us, ws, rfl, .inl ⟨sqL_sub I2.sub q, sqL_sub I2.sub q', k _ H1 G2 f2 I2 (s1.trans s2) (by rw [len_hardAll]; exact l1) fun i G3 H3 g1 g2 => ⟨fun hi => ?_, fun hi => ?_, fun x H4 d hd y => ?_⟩⟩⟩
          · obtain ⟨da, db, z1, z2, _⟩ := zipD_get (List.getElem?_eq_getElem hi)
            obtain ⟨va, e5, _⟩ := dps_get qs z1
            obtain ⟨vb, e6, _⟩ := dps_get qs' z2
            exact ⟨us, ws, va, vb, sqL_sub (g1.trans g2) q, sqL_sub (g1.trans g2) q', e5, e6⟩
          · refine ⟨us, ws, sqL_sub (g1.trans g2) q, sqL_sub (g1.trans g2) q', ?_⟩
            rw [dps_len qs, dps_len qs']
            unfold zipD at hi
            rw [List.length_zipWith] at hi
            omega
          · obtain ⟨T, z1, z2, rfl, hT, rfl, y1, y2⟩ := y
            have y1 := y1 us (sqL_sub (g1.trans g2) q)
            have y2 := y2 ws (sqL_sub (g1.trans g2) q')
            obtain ⟨da, db, h1, h2, h3⟩ := zipD_get hd
            obtain ⟨va, e5, e6⟩ := dps_get qs h1
            obtain ⟨vb, e7, e8⟩ := dps_get qs' h2
            rw [y1] at e5; cases e5
            rw [y2] at e7; cases e7
            subst h3
            exact nw_pair (K := K) g2 (dp_sub g1 e6) (dp_sub g1 e8) hT
    · rename_i xs ys e2
      cases e
      refine h σ τ G H os θ f rs _ _ hl ht I e1 fun vs H1 k1 => ?_
      obtain ⟨G1, f1, I1, s1, a1, l1⟩ := k1
      obtain ⟨G2, f2, I2, s2, hd⟩ := I1.popC l1 ht a1 e2
      obtain ⟨v, w, rfl, hv, hw⟩ := dps2 hd
      cases hv with
      | tup q qs =>
        cases hw with
        | tup q' qs' =>
          rename_i a us b ws
          refine ⟨a, b, us, ws, rfl, .inr ⟨sqT_sub I2.sub q, sqT_sub I2.sub q', k _ H1 G2 f2 I2 (s1.trans s2) (by rw [len_hardAll]; exact l1) fun i G3 H3 g1 g2 => ⟨fun hi => ?_, fun hi => ?_, fun x H4 d hd y => ?_⟩⟩⟩
          · obtain ⟨da, db, z1, z2, _⟩ := zipD_get (List.getElem?_eq_getElem hi)
            obtain ⟨va, e5, _⟩ := dps_get qs z1
            obtain ⟨vb, e6, _⟩ := dps_get qs' z2
            exact ⟨us, ws, va, vb, sqT_sub (g1.trans g2) q, sqT_sub (g1.trans g2) q', e5, e6⟩
          · refine ⟨us, ws, sqT_sub (g1.trans g2) q, sqT_sub (g1.trans g2) q', ?_⟩
            rw [dps_len qs, dps_len qs']
            unfold zipD at hi
            rw [List.length_zipWith] at hi
            omega
          · obtain ⟨T, z1, z2, rfl, hT, rfl, y1, y2⟩ := y
            have y1 := y1 us (sqT_sub (g1.trans g2) q)
            have y2 := y2 ws (sqT_sub (g1.trans g2) q')
            obtain ⟨da, db, h1, h2, h3⟩ := zipD_get hd
            obtain ⟨va, e5, e6⟩ := dps_get qs h1
            obtain ⟨vb, e7, e8⟩ := dps_get qs' h2
            rw [y1] at e5; cases e5
            rw [y2] at e7; cases e7
            subst h3
            exact nw_pair (K := K) g2 (dp_sub g1 e6) (dp_sub g1 e8) hT
    · cases e
  · cases e
theorem si_zp {a b : Expr} {ev : EvEs} {p pos tpos : Pos} {elts : List Expr} {kk : Nat} (hm : X.mg "zip" = none) (h : SEs X ev [a, b]) (hg : Gl X "zip" := by rfl) (hs : starEach [a, b] X.env = (false, eval a X.env) :: starEach [b] X.env := by rfl) (hpl : (backTo pos (starEach [b] X.env)).any (·.1) = false := by rfl) :
    SI' X (.Tuple elts kk tpos) (iZp ev) (.Call (.Name "zip" p) [a, b] [] pos) := by
  obtain ⟨ta, q1, q2⟩ := h
  exact ⟨_, RZ.pi_zipA hg hm q1 hs hpl, ir_zp q2⟩
end
end DX
/-! DXSimp4: the worths of DXGen and DXWid, unfolded. -/
namespace DX
open PySem PySem.Spec PyProof.Rows L2
section
variable {os : En} {ds es : List PyData} {a b : Int} {x y : Str} {d e : PyData} {n : Nat}
theorem o_or {f g : List PyData → Option Op} : opOr f g ds = (f ds).or (g ds) := rfl
theorem o_addT : opAdd [.tuple ds, .tuple es] = none := rfl
theorem c_int : opCatT [.int a, .int b] = none := rfl
theorem c_str : opCatT [.str x, .str y] = none := rfl
theorem c_lst : opCatT [.list ds, .list es] = none := rfl
def catT (ds es : List PyData) : Op := match ds, es with
  | [], b => .val (.tuple b)
  | a, [] => .val (.tuple a)
  | a, b => .nt (a ++ b)
theorem o_catT : opCatT [.tuple ds, .tuple es] = cond (Nat.ble (ds.length + es.length) sizeLine) (some (catT ds es)) none := by
  unfold opCatT
  by_cases h : ds.length + es.length ≤ sizeLine
  · rw [Nat.ble_eq_true_of_le h]
    simp only [h, if_true, cond_true]
    cases ds with
    | nil => rfl
    | cons d ds => cases es <;> rfl
  · rw [Bool.eq_false_iff.mpr fun z => h (Nat.le_of_ble_eq_true z)]
    simp only [h, if_false, cond_false]
theorem b_catT {rs : List RV} : opOut os rs (catT ds es) = (.tm (.sh (.tuple (ds ++ es))), softAll os rs) := by
  cases ds with
  | nil => rfl
  | cons d ds =>
    cases es with
    | nil => rw [List.append_nil]; rfl
    | cons e es => rfl
def slT (lo hi : Option Int) (xs : List PyData) : Op := if HT.sIx xs.length 0 lo = 0 ∧ HT.sIx xs.length xs.length hi = xs.length then .val (.tuple xs) else .nt (cutD xs lo hi)
theorem o_slT {lo hi : Option Int} : opSl lo hi [.tuple ds] = some (slT lo hi ds) := by
  show (if _ then _ else _) = _
  unfold slT
  split <;> rfl
theorem b_slT {rs : List RV} {lo hi : Option Int} : opOut os rs (slT lo hi ds) = (.tm (.sh (.tuple (cutD ds lo hi))), softAll os rs) := by
  unfold slT
  split
  · rename_i h
    unfold cutD
    rw [h.1, h.2, Nat.sub_zero, List.drop_zero, List.take_length]; rfl
  · rfl
theorem o_rvsL : opRvs [.list ds] = some (.nl ds.reverse) := rfl
theorem o_rvsT : opRvs [.tuple ds] = some (.nt ds.reverse) := rfl
/-! ### [..] * k -/
def tmL? : RV → Option (List OD)
  | .tm (.lst xs) => some xs
  | _ => none
theorem k_tmL {xs : List OD} : tmL? (.tm (.lst xs)) = some xs := rfl
def repFits (xs : List OD) (k : Int) : Bool := decide (xs.all OD.isSh = true ∧ -(2 ^ 63) ≤ k ∧ k < 2 ^ 63 ∧ xs.length * k.toNat ≤ sizeLine)
def repD (xs : List OD) (k : Nat) : List OD := (List.replicate k (OD.ers xs)).flatten.map OD.sh
theorem b_eRepD {ea eb : EvE} : eRepD ea eb os = (ea os).bind fun p => (tmL? p.1).bind fun xs => (eb p.2).bind fun q => (q.1.rd q.2).bind fun d => (int? d).bind fun k => cond (repFits xs k) (some (.tm (.lst (repD xs k.toNat)), q.2)) none := by
  unfold eRepD
  cases ea os with
  | none => rfl
  | some p =>
    obtain ⟨r, os1⟩ := p
    cases r with
    | al i => rfl
    | tm o =>
      cases o with
      | sh d => rfl
      | tpl xs => rfl
      | lst xs =>
        simp only [Option.bind_some, k_tmL]
        cases eb os1 with
        | none => rfl
        | some q =>
          obtain ⟨r2, os2⟩ := q
          simp only [Option.bind_some]
          cases r2.rd os2 with
          | none => rfl
          | some d =>
            cases d with
            | int k =>
              simp only [Option.bind_some, k_int]
              unfold repFits
              split
              · rename_i h; rw [decide_eq_true h]; rfl
              · rename_i h; rw [decide_eq_false h]; rfl
            | _ => rfl
theorem ers_one : OD.ers [.sh d] = [d] := by
  simp [OD.ers, OD.er]
theorem repD_one {k : Nat} : repD [.sh d] k = List.replicate k (.sh d) := by
  unfold repD
  rw [ers_one]
  induction k with
  | zero => rfl
  | succ k ih => rw [List.replicate_succ, List.replicate_succ, List.flatten_cons, List.map_append, ih]; rfl
theorem repFits_one {k : Int} (h0 : -(2 ^ 63) ≤ k) (h : k < 1000000) : repFits [.sh d] k = true := by
  unfold repFits
  refine decide_eq_true ⟨rfl, h0, by omega, ?_⟩
  have : (1000000 : Nat) ≤ sizeLine := by decide +kernel
  simp only [List.length_cons, List.length_nil, Nat.zero_add, Nat.one_mul]
  omega
/-! ### isinstance of two -/
theorem b_eIsi2 {n1 n2 : String} {ea : EvE} : eIsi2 n1 n2 ea os = (ea os).bind fun p => (p.1.rd p.2).bind fun d => (isi2 n1 n2 d).bind fun b => some (.tm (.sh (.bool b)), p.2) := by
  unfold eIsi2
  cases ea os with
  | none => rfl
  | some p =>
    simp only [Option.bind_some]
    cases p.1.rd p.2 with
    | none => rfl
    | some d =>
      simp only [Option.bind_some]
      cases isi2 n1 n2 d <;> rfl
theorem j_of (hd : (match d with | .dict _ => false | _ => true) = true) {c c' : Bool} (h1 : kitB (tyN d) "list" = some c) (h2 : kitB (tyN d) "tuple" = some c') : isi2 "list" "tuple" d = some (c || c') := by
  cases d with
  | dict kv => cases hd
  | _ => unfold isi2; simp only [h1, h2]
theorem kit_of {s : String} {r : Bool} (h : opIsi s [d] = some (.val (.bool r))) : kitB (tyN d) s = some r := by
  unfold opIsi at h
  split at h
  · cases h
  · rename_i q1 q2
    cases q2
    split at h
    · rename_i e; cases h; exact e
    · cases h
  · cases h
theorem j_N : isi2 "list" "tuple" .none = some false := j_of rfl (kit_of i_listN) (kit_of i_tupleN)
theorem j_B {c : Bool} : isi2 "list" "tuple" (.bool c) = some false := j_of rfl (kit_of i_listB) (kit_of i_tupleB)
theorem j_I : isi2 "list" "tuple" (.int a) = some false := j_of rfl (kit_of i_listI) (kit_of i_tupleI)
theorem j_S : isi2 "list" "tuple" (.str x) = some false := j_of rfl (kit_of i_listS) (kit_of i_tupleS)
theorem j_L : isi2 "list" "tuple" (.list ds) = some true := j_of rfl (kit_of i_listL) (kit_of i_tupleL)
theorem j_T : isi2 "list" "tuple" (.tuple ds) = some true := j_of rfl (kit_of i_listT) (kit_of i_tupleT)
/-! ### zip -/
def zip? : List PyData → Option (List PyData)
  | [.list xs, .list ys] => some (zipD xs ys)
  | [.tuple xs, .tuple ys] => some (zipD xs ys)
  | _ => none
theorem k_zpL : zip? [.list ds, .list es] = some (zipD ds es) := rfl
theorem k_zpT : zip? [.tuple ds, .tuple es] = some (zipD ds es) := rfl
theorem b_iZp {ev : EvEs} : iZp ev os = (ev os).bind fun p => (rdAll p.2 p.1).bind fun ds => (zip? ds).bind fun z => some (z, hardAll p.2 p.1) := by
  unfold iZp
  cases ev os with
  | none => rfl
  | some p =>
    simp only [Option.bind_some]
    cases rdAll p.2 p.1 with
    | none => rfl
    | some ds =>
      simp only [Option.bind_some]
      unfold zip?
      split
      · rename_i e; cases e; rfl
      · rename_i e; cases e; rfl
      · rename_i h1 h2
        split
        · exact absurd rfl (h1 _ _)
        · exact absurd rfl (h2 _ _)
        · rfl
theorem zipD_map {α β : Type} {f : α → PyData} {g : β → PyData} : ∀ {xs : List α} {ys : List β}, zipD (xs.map f) (ys.map g) = (xs.zip ys).map fun p => .tuple [f p.1, g p.2]
  | [], _ => by simp [zipD]
  | _ :: _, [] => by simp [zipD]
  | x :: xs, y :: ys => by
    have := @zipD_map α β f g xs ys
    unfold zipD at this ⊢
    simp only [List.map_cons, List.zipWith_cons_cons, List.zip_cons_cons, this]
theorem zipD_self : ∀ {xs : List PyData}, zipD xs xs = xs.map fun d => .tuple [d, d]
  | [] => rfl
  | x :: xs => by
    have := @zipD_self xs
    unfold zipD at this ⊢
    simp only [List.map_cons, List.zipWith_cons_cons, this]
/-! ### all, any of a generator expression -/
theorem b_eAg {sa : Bool} {own : List Nat} {it : EvI} {tv : EvG} {c : EvT} {ev : EvE} : eAg sa own it tv c ev os = (it os).bind fun p => (agF sa own tv c ev p.1 (wipeE p.2 own)).bind fun q => some (.tm (.sh (.bool q.1)), q.2) := by
  unfold eAg
  cases it os with
  | none => rfl
  | some p =>
    simp only [Option.bind_some]
    cases agF sa own tv c ev p.1 (wipeE p.2 own) <;> rfl
def agStep (own : List Nat) (tv : EvG) (c : EvT) (ev : EvE) (d : PyData) (os : En) : Option (Option Bool × En) :=
  (tv d os).bind fun os1 => (c os1).bind fun q => cond q.1 ((ev q.2).bind fun p => (p.1.rd p.2).bind fun d => (bool? d).bind fun k => some (some k, wipeE p.2 own)) (some (none, wipeE q.2 own))
theorem ag_step {sa : Bool} {own : List Nat} {tv : EvG} {c : EvT} {ev : EvE} : agF sa own tv c ev (d :: ds) os = (agStep own tv c ev d os).bind fun r => match r.1 with
    | some k => if k = sa then some (sa, r.2) else agF sa own tv c ev ds r.2
    | none => agF sa own tv c ev ds r.2 := by
  rw [agF]
  unfold agStep
  cases tv d os with
  | none => rfl
  | some os1 =>
    simp only [Option.bind_some]
    cases c os1 with
    | none => rfl
    | some q =>
      obtain ⟨k, os2⟩ := q
      cases k with
      | false => simp only [Option.bind_some, cond_false]
      | true =>
        simp only [Option.bind_some, cond_true]
        cases ev os2 with
        | none => rfl
        | some p =>
          obtain ⟨r, os3⟩ := p
          simp only [Option.bind_some]
          cases r.rd os3 with
          | none => rfl
          | some d =>
            cases d with
            | bool k => simp only [Option.bind_some, k_bool]
            | _ => rfl
theorem Sat.agM {α : Type} {sa : Bool} {own : List Nat} {tv : EvG} {c : EvT} {ev : EvE} {K : Bool × En → Prop} {g : α → PyData} (f : α → Bool) : ∀ {xs : List α}, (∀ x ∈ xs, Sat (agStep own tv c ev (g x) os) (fun r => r = (some (f x), os))) → K (cond sa (xs.any f) (xs.all f), os) → Sat (agF sa own tv c ev (xs.map g) os) K
  | [], _, hK => by
    refine ⟨(!sa, os), rfl, ?_⟩
    cases sa <;> exact hK
  | x :: xs, h, hK => by
    obtain ⟨r, e, rfl⟩ := h x (List.mem_cons_self ..)
    rw [List.map_cons, ag_step, e]
    simp only [Option.bind_some]
    by_cases z : f x = sa
    · rw [if_pos z, z_some]
      cases sa with
      | false => simpa [z] using hK
      | true => simpa [z] using hK
    · rw [if_neg z]
      refine Sat.agM f (fun x m => h x (List.mem_cons_of_mem _ m)) ?_
      cases sa with
      | false => simpa [(Bool.not_eq_false _).mp z] using hK
      | true => simpa [(Bool.not_eq_true _).mp z] using hK
theorem z_agStep {own : List Nat} {tv : EvG} {c : EvT} {ev : EvE} : agStep own tv c ev d os = (tv d os).bind fun os1 => (c os1).bind fun q => cond q.1 ((ev q.2).bind fun p => (p.1.rd p.2).bind fun d => (bool? d).bind fun k => some (some k, wipeE p.2 own)) (some (none, wipeE q.2 own)) := rfl
theorem sh_bool {c : Bool} : SeqAt.shaped (.bool c) = true := rfl
theorem eqv_bool {c c' : Bool} : (PyData.bool c).eqv (.bool c') = (c == c') := by
  unfold PyData.eqv; cases c <;> cases c' <;> rfl
theorem o_eqB {c c' : Bool} : opEq [.bool c, .bool c'] = some (.val (.bool (c == c'))) := by rw [o_eq sh_bool sh_bool, eqv_bool]
theorem o_neB {c c' : Bool} : opNe [.bool c, .bool c'] = some (.val (.bool (!(c == c')))) := by rw [o_ne sh_bool sh_bool, eqv_bool]
theorem beq_tf : (true == false) = false := rfl
theorem beq_ft : (false == true) = false := rfl
theorem o_eqN : opEq [.none, .none] = some (.val (.bool true)) := by rw [o_eq rfl rfl]; unfold PyData.eqv; rfl
end
end DX
/-! DXLcV: a comprehension over a list of scalars that its slot goes on owning. -/
namespace DX
open PySem PySem.Spec PyProof.Rows L2
noncomputable section
variable {K : PySem.W.Frag} {X : Cx}
open Classical in
def chkO (xs : List OD) (s : Option (Option OD)) : Bool := decide (s = some (some (.lst xs)))
open Classical in
theorem chkO_eq {xs : List OD} {s : Option (Option OD)} (h : chkO xs s = true) : s = some (some (.lst xs)) := of_decide_eq_true h
open Classical in
theorem k_chk {xs : List OD} : chkO xs (some (some (.lst xs))) = true := decide_eq_true rfl
def chkV (iv : Nat) (xs : List OD) (tv : EvG) : EvG := fun d os => cond (chkO xs os[iv]?) (tv d os) none
theorem chkV_some {iv : Nat} {xs : List OD} {tv : EvG} {d : PyData} {os os' : En} (h : chkV iv xs tv d os = some os') : os[iv]? = some (some (.lst xs)) ∧ tv d os = some os' := by
  unfold chkV at h
  cases e : chkO xs os[iv]? with
  | true => rw [e] at h; exact ⟨chkO_eq e, h⟩
  | false => rw [e] at h; cases h
def lstO? (s : Option (Option OD)) : Option (List OD) := match s with
  | some (some (.lst xs)) => cond (xs.all OD.isSh) (some xs) none
  | _ => none
def eLcV (iv : Nat) (own : List Nat) (tv : EvG) (c : EvT) (ev : EvE) : EvE := fun os => (lstO? os[iv]?).bind fun xs => (lcF own (chkV iv xs tv) c ev (OD.ers xs) (wipeE os own) []).bind fun q => cond (chkO xs q.2[iv]?) (some (.tm (.lst q.1), q.2)) none
theorem lstO_some {s : Option (Option OD)} {xs : List OD} (h : lstO? s = some xs) : s = some (some (.lst xs)) ∧ xs.all OD.isSh = true := by
  unfold lstO? at h
  split at h
  · rename_i ys
    cases e : ys.all OD.isSh with
    | true => rw [e] at h; cases h; exact ⟨rfl, e⟩
    | false => rw [e] at h; cases h
  · cases h
theorem er_lcV {own : List Nat} {iv : Nat} {tv : EvG} {c : EvT} {ev : EvE} {g : TG} {tt : TT} {te : TE} (hni : iv ∉ own) (hg : TGc K own tv g) (hc : TR K c tt) (he : ER K ev te) : ER K (eLcV iv own tv c ev) (tLc (iList K (tVar iv)) g tt te own) := fun σ τ G H os θ f r os' Q hl ht I e k => by
  unfold eLcV at e
  cases e0 : lstO? os[iv]? with
  | none => rw [e0] at e; cases e
  | some xs =>
    rw [e0, Option.bind_some] at e
    obtain ⟨e1, hsh⟩ := lstO_some e0
    cases e2 : lcF own (chkV iv xs tv) c ev (OD.ers xs) (wipeE os own) [] with
    | none => rw [e2] at e; cases e
    | some q =>
      obtain ⟨acc', os''⟩ := q
      rw [e2, Option.bind_some] at e
      obtain ⟨hfin, ee⟩ : os''[iv]? = some (some (.lst xs)) ∧ (RV.tm (.lst acc'), os'') = (r, os') := by
        cases z : chkO xs os''[iv]? with
        | true => rw [z] at e; exact ⟨chkO_eq z, Option.some.inj e⟩
        | false => rw [z] at e; cases e
      cases ee
      obtain ⟨va, fo0, fr0, w1, w2, _, _⟩ := I.sl.at (i := iv) (o := .lst xs) (by rw [get_app (lt_of_get e1)]; exact e1)
      rw [get_app (by have := lt_of_get e1; omega)] at w1
      obtain ⟨a, us0, rfl, hp0⟩ : ∃ a us0, va = .ref a ∧ H a = some (.lst us0) := by
        cases w2 with
        | lst hp _ => exact ⟨_, _, rfl, hp⟩
      refine ⟨.ref a, w1, a, rfl, ⟨us0, .inl (.inl hp0)⟩, ?_⟩
      have H1e : H = H := rfl
      intro D hD
      -- the new list on the stack
      obtain ⟨gw, Lw, lew⟩ := SL.wiped I.sl own
      have Iw : SI K G H (σ ++ τ) (wipeE os own ++ θ) gw := I.forget Lw lew
      obtain ⟨f2, I2, s2⟩ := Iw.pushNew (xs := []) (ds := []) .nil hD
      have hsw : ∀ {ws : List (Option V)} {os3 θ3 : En} {G3 H3 : Hp} {f3 : FP} {τ3 : List (Option V)} {σ3 : L2.St}, SI K G3 H3 (σ3 ++ τ3) (os3 ++ θ3) f3 → σ3.length = os3.length → ws.length = σ3.length → (∀ (j : Nat), j ∉ own → ws[j]? = σ3[j]?) → (∀ j ∈ own, ∀ o, os3[j]? ≠ some (some o)) → SI K G3 H3 (ws ++ τ3) (os3 ++ θ3) f3 :=
        fun {ws os3 θ3 G3 H3 f3 τ3 σ3} I3 l3 lw hw hn => ⟨I3.sl.swap (by simp [lw]) fun j o ej => by
          by_cases hj : j < os3.length
          · rw [get_app (by omega), get_app (by omega)]
            rw [get_app hj] at ej
            exact hw j fun m => hn j m o ej
          · rw [List.getElem?_append_right (by omega), List.getElem?_append_right (by omega), lw], I3.sub, I3.one, I3.hid, I3.tk⟩
      refine ⟨fun i m H' => m = (OD.ers xs).length - i ∧ i ≤ (OD.ers xs).length ∧ ∃ os3 acc G3 f3, SI K G3 H' (wipe σ own ++ (τ ++ [some (.ref D)])) (os3 ++ (θ ++ [some (.lst acc)])) f3 ∧ Stp G H f G3 H' f3 ∧ σ.length = os3.length ∧ (∀ j ∈ own, ∀ o, os3[j]? ≠ some (some o)) ∧ lcF own (chkV iv xs tv) c ev ((OD.ers xs).drop i) os3 acc = some (acc', os'), ⟨(OD.ers xs).length, by simp, Nat.zero_le _, wipeE os own, [], G, f2, ?_, (Stp.less lew).trans s2, by rw [len_wipeE]; exact hl, fun j hj => wipeE_none hj, by simpa using e2⟩, fun i m H' hW => ?_⟩
      · have I2' : SI K G (upd H D (.lst [])) (σ ++ (τ ++ [some (.ref D)])) (wipeE os own ++ (θ ++ [some (.lst [])])) f2 := by simpa [List.append_assoc] using I2
        exact hsw I2' (by rw [len_wipeE]; exact hl) (wipe_length _ _) (fun j hj => wipe_get hj) fun j hj => wipeE_none hj
      · obtain ⟨rfl, hle, os3, acc, G3, f3, I3, s3, l3, nn, e3⟩ := hW
        have hat : os3[iv]? = some (some (.lst xs)) → ∃ us, H' a = some (.lst us) ∧ DxAll K G3 us (OD.ers xs) := fun hq => by
          obtain ⟨v3, fo3, fr3, y1, y2, _, _⟩ := I3.sl.at (i := iv) (o := .lst xs) (by rw [get_app (lt_of_get hq)]; exact hq)
          rw [get_app (by rw [wipe_length]; have := lt_of_get hq; omega), wipe_get hni, w1] at y1
          cases y1
          cases y2 with
          | lst hp hr => exact ⟨_, hp, isSh_er (d := .none) hsh hr⟩
        by_cases hlt : i < (OD.ers xs).length
        · have hq : os3[iv]? = some (some (.lst xs)) := by
            have e4 := e3
            rw [List.drop_eq_getElem_cons hlt] at e4
            unfold lcF at e4
            split at e4
            · rename_i os5 e5
              exact (chkV_some e5).1
            · cases e4
          obtain ⟨us, hp, hus⟩ := hat hq
          have jgo : ∃ ys y, SqL K H' a ys ∧ ys[i]? = some y := by
            obtain ⟨v, e5, _⟩ := dps_get hus (List.getElem?_eq_getElem hlt)
            exact ⟨us, v, .inl (.inl hp), e5⟩
          refine .inr ⟨jgo, fun H'' => ∃ os4 acc4 G4 f4, SI K G4 H'' (wipe σ own ++ (τ ++ [some (.ref D)])) (os4 ++ (θ ++ [some (.lst acc4)])) f4 ∧ Stp G H f G4 H'' f4 ∧ σ.length = os4.length ∧ (∀ j ∈ own, ∀ o, os4[j]? ≠ some (some o)) ∧ lcF own (chkV iv xs tv) c ev ((OD.ers xs).drop (i + 1)) os4 acc4 = some (acc', os'),
            fun H'' ⟨os4, acc4, G4, f4, q1, q2, q3, q4, q5⟩ => ⟨(OD.ers xs).length - (i + 1), by omega, rfl, hlt, os4, acc4, G4, f4, q1, q2, q3, q4, q5⟩, fun x H4 y => ?_⟩
          have hd : (OD.ers xs)[i]? = some (OD.ers xs)[i] := List.getElem?_eq_getElem hlt
          obtain ⟨ey, y⟩ := y
          have hx : Dx K G3 x (OD.ers xs)[i] := by
            obtain ⟨v, e5, e6⟩ := dps_get hus hd
            rw [y us (.inl (.inl hp))] at e5; cases e5
            exact e6
          rw [ey]
          have I4 := I3
          have s4 : Stp G3 H' f3 G3 H' f3 := Stp.refl _ _ _
          rw [List.drop_eq_getElem_cons hlt] at e3
          unfold lcF at e3
          split at e3
          · rename_i os5 e5
            refine hg (wipe σ own) (τ ++ [some (.ref D)]) G3 H' os3 (θ ++ [some (.lst acc)]) f3 x (OD.ers xs)[i] os5 _ (by rw [wipe_length]; exact l3) (by simp [ht]) I4 hx (chkV_some e5).2 fun σ5 f5 w5 I5 le5 l5 => ?_
            have wid : wipe (wipe σ own) own = wipe σ own := by
              apply List.ext_getElem?
              intro j
              by_cases hj : j ∈ own
              · have a1 : ∀ τ : L2.St, ∀ v, (wipe τ own)[j]? ≠ some (some v) := fun τ v z => (wipe_some z).2 hj
                cases z1 : (wipe (wipe σ own) own)[j]? with
                | none =>
                  have := List.getElem?_eq_none_iff.mp z1
                  rw [wipe_length] at this
                  rw [List.getElem?_eq_none this]
                | some a =>
                  cases a with
                  | some v => exact absurd z1 (a1 _ v)
                  | none =>
                    have := lt_of_get z1
                    rw [wipe_length] at this
                    cases z2 : (wipe σ own)[j]? with
                    | none => have := List.getElem?_eq_none_iff.mp z2; omega
                    | some b =>
                      cases b with
                      | some v => exact absurd z2 (a1 _ v)
                      | none => rfl
              · rw [wipe_get hj]
            refine ⟨by rw [w5, wid], ?_⟩
            have st5 : Stp G H f G3 H' f5 := (s3.trans s4).trans (Stp.less le5)
            have hback : ∀ (j : Nat), j ∉ own → (wipe σ own)[j]? = σ5[j]? := fun j hj => by
              have : (wipe σ5 own)[j]? = (wipe (wipe σ own) own)[j]? := by rw [w5]
              rw [wipe_get hj, wipe_get hj] at this
              exact this.symm
            split at e3
            · rename_i os6 e6
              refine hc σ5 (τ ++ [some (.ref D)]) G3 H' os5 (θ ++ [some (.lst acc)]) f5 true os6 _ l5 (by simp [ht]) I5 e6 fun H6 k6 => ?_
              obtain ⟨G6, f6, I6, s6, l6⟩ := k6
              rw [if_pos rfl]
              split at e3
              · rename_i r7 os7 e7
                split at e3
                · rename_i o e8
                  split at e3
                  · rename_i hsz
                    refine he σ5 (τ ++ [some (.ref D)]) G6 H6 os6 (θ ++ [some (.lst acc)]) f6 r7 os7 _ l6 (by simp [ht]) I6 e7 fun y7 H7 k7 => ?_
                    obtain ⟨G7, f7, I7, s7, a7, l7⟩ := k7
                    obtain ⟨G8, f8, I8, s8⟩ := I7.settle (ods := [o]) l7 (by simp [ht]) a7 (by
                      show (match cv (hard os7 r7) r7, cvs (hard os7 r7) [] with | some o, some ods => some (o :: ods) | _, _ => none) = some [o]
                      rw [e8]; rfl)
                    have I8' : SI K G8 H7 ((σ5 ++ (τ ++ [some (.ref D)])) ++ [some y7]) ((hard os7 r7 ++ (θ ++ [some (.lst acc)])) ++ [some o]) f8 := by simpa [List.append_assoc, hardAll] using I8
                    have hpos : (hard os7 r7 ++ (θ ++ [some (.lst acc)]))[(hard os7 r7).length + θ.length]? = some (some (.lst acc)) := by
                      rw [List.getElem?_append_right (by omega), List.getElem?_append_right (by omega)]
                      simp
                    obtain ⟨p, us, b1, b2, b3, f9, I9, s9⟩ := I8'.app (by simp [l7, ht, len_hard]) hpos
                    have ep : p = D := by
                      rw [List.getElem?_append_right (by rw [len_hard]; omega), List.getElem?_append_right (by rw [len_hard]; omega)] at b1
                      simp [len_hard, l7, ht] at b1
                      exact b1.symm
                    subst ep
                    refine ⟨us, b2, by rw [b3]; exact hsz, wipeE (hard os7 r7) own, acc ++ [o], G8, ?_⟩
                    have I9' : SI K G8 (upd H7 p (.lst (us ++ [y7]))) (σ5 ++ (τ ++ [some (.ref p)])) (hard os7 r7 ++ (θ ++ [some (.lst (acc ++ [o]))])) f9 := by
                      rw [List.set_append_right _ _ (by omega), List.set_append_right _ _ (by omega)] at I9
                      simpa using I9
                    obtain ⟨gA, LA, leA⟩ := SL.wiped I9'.sl own
                    have IA := I9'.forget LA leA
                    refine ⟨gA, hsw IA (by rw [len_wipeE, len_hard]; exact l7) (by rw [wipe_length]; have := congrArg List.length w5; rw [wipe_length, wipe_length, wipe_length] at this; exact this.symm) hback (fun j hj => wipeE_none hj), ?_, ?_, fun j hj => wipeE_none hj, e3⟩
                    · exact ((((st5.trans s6).trans s7).trans s8).trans s9).trans (Stp.less leA)
                    · rw [len_wipeE, len_hard, ← l7]
                      have := congrArg List.length w5; rw [wipe_length, wipe_length, wipe_length] at this; exact this.symm
                  · cases e3
                · cases e3
              · cases e3
            · rename_i os6 e6
              refine hc σ5 (τ ++ [some (.ref D)]) G3 H' os5 (θ ++ [some (.lst acc)]) f5 false os6 _ l5 (by simp [ht]) I5 e6 fun H6 k6 => ?_
              obtain ⟨G6, f6, I6, s6, l6⟩ := k6
              rw [if_neg Bool.false_ne_true]
              obtain ⟨gA, LA, leA⟩ := SL.wiped I6.sl own
              have IA := I6.forget LA leA
              have l56 : σ.length = σ5.length := by have := congrArg List.length w5; rw [wipe_length, wipe_length, wipe_length] at this; exact this.symm
              exact ⟨wipeE os6 own, acc, G6, gA, hsw IA (by rw [len_wipeE]; exact l6) (by rw [wipe_length]; exact l56) hback (fun j hj => wipeE_none hj), (st5.trans s6).trans (Stp.less leA), by rw [len_wipeE, ← l6]; exact l56, fun j hj => wipeE_none hj, e3⟩
            · cases e3
          · cases e3
        · have ei : i = (OD.ers xs).length := by omega
          subst ei
          rw [List.drop_length] at e3
          cases e3
          obtain ⟨us, hp, hus⟩ := hat hfin
          refine .inl ⟨⟨us, .inl (.inl hp), by rw [dps_len hus]; exact Nat.le_refl _⟩, k _ H' ⟨G3, f3, ?_, s3, .cons trivial .nil, l3⟩⟩
          have := hsw I3 (by rw [wipe_length]; exact l3) (ws := σ) (wipe_length _ _).symm (fun j hj => (wipe_get hj).symm) nn
          simpa [RV.od] using this
end
section
variable {X : Cx} {x y : Str} {px py : Pos} {elt c : Expr} {scope : Scope} {pos : Pos} {ev : EvE} {cc : EvT}
/-- [.. for x in y], y a local of its own -/
theorem se_lcV (i j : Nat) (hc : X.calm = true) (hN : X.N.Nodup) (he : ∀ (s : Shared) (H : Hp) (C : Addr) (cl : List (Str × Addr)) (fp : List Addr), SE (X.blk s H scope (compEnvC scope cl C X.env) fp) ev elt)
    (hj : X.N[j]? = some y := by rfl) (hv : Vis X.env.scope y := by first | exact Or.inl rfl | exact Or.inr (Or.inl rfl) | exact Or.inr (Or.inr rfl)) (hd : (y == ("__debug__" : Str)) = false := by decide) (hcd : (y == ("__classdict__" : Str)) = false := by decide) (hij : j ∉ [i] := by decide)
    (ok : BlkOk X.N X.env.scope scope [(x, i)] := by exact blkOk_by (by decide +kernel))
    (hg : ∀ (s : Shared) (H : Hp) (C : Addr) (cl : List (Str × Addr)) (fp : List Addr), PG (X.blk s H scope (compEnvC scope cl C X.env) fp) (.Name x px) (gName i) := by exact fun _ _ _ _ _ => pg_name (by assumption) rfl (Or.inl rfl))
    (hs : ∀ v, foldedSetIterable (.Name y py) X.env v = pure v := by intro _; rfl) : SE X (eLcV j [i] (gvName [] i) cYes ev) (.ListComp elt [⟨.Name x px, .Name y py, [], 0⟩] scope pos) :=
  ⟨_, pe_lc (own := [(x, i)]) hc hN (pi_list (pe_var hj hv hd hcd)) ok hg (fun _ _ _ _ _ => pts_nil) (fun s H C cl fp => (he s H C cl fp).pe) hs, er_lcV hij (tgc_name (by simp)) tr_yes (er_of ev)⟩
end
section
variable {os : En} {xs : List OD}
theorem k_lstO : lstO? (some (some (.lst xs))) = cond (xs.all OD.isSh) (some xs) none := rfl
theorem b_eLcV {iv : Nat} {own : List Nat} {tv : EvG} {c : EvT} {ev : EvE} : eLcV iv own tv c ev os = (lstO? os[iv]?).bind fun xs => (lcF own (chkV iv xs tv) c ev (xs.map OD.er) (wipeE os own) []).bind fun q => cond (chkO xs q.2[iv]?) (some (.tm (.lst q.1), q.2)) none := by
  unfold eLcV
  simp only [ers_map]
theorem b_chkV {iv : Nat} {tv : EvG} {d : PyData} : chkV iv xs tv d os = cond (chkO xs os[iv]?) (tv d os) none := rfl
end
/-! ### a call whose first argument, changed by the def, is a list made there and then -/
section
variable {K : PySem.W.Frag} {X : Cx}
def tmHd? : List RV → Option (List OD × List RV)
  | .tm (.lst xs) :: rs => some (xs, rs)
  | _ => none
theorem k_tmHd {xs : List OD} {rs : List RV} : tmHd? (.tm (.lst xs) :: rs) = some (xs, rs) := rfl
def eFnT (m : OD → List OD → Option (OD × OD)) (n : Nat) (idx : List Nat) (es : EvEs) : EvE := fun os => (es os).bind fun p => (tmHd? p.1).bind fun q => (rdAll p.2 q.2).bind fun ds =>
  cond (Nat.beq (q.2.length + 1) n && Nat.beq ((pk idx ds).length + 1) n) ((m (.lst q.1) ((pk idx ds).map OD.sh)).bind fun t => some (.tm t.1, hardAll p.2 q.2)) none
theorem b_fnT {m : OD → List OD → Option (OD × OD)} {n : Nat} {idx : List Nat} {es : EvEs} {os : En} : eFnT m n idx es os = (es os).bind fun p => (tmHd? p.1).bind fun q => (rdAll p.2 q.2).bind fun ds =>
  cond (Nat.beq (q.2.length + 1) n && Nat.beq ((pk idx ds).length + 1) n) ((m (.lst q.1) ((pk idx ds).map OD.sh)).bind fun t => some (.tm t.1, hardAll p.2 q.2)) none := rfl
theorem tmHd_some {rs : List RV} {q : List OD × List RV} (h : tmHd? rs = some q) : rs = .tm (.lst q.1) :: q.2 := by
  unfold tmHd? at h
  split at h
  · cases h; rfl
  · cases h
theorem er_fnT {m : OD → List OD → Option (OD × OD)} {n : Nat} {idx : List Nat} {ev : EvEs} {ta : TA} (h : ERs K ev ta) : ER K (eFnT m (n + 1) idx ev) (tCallG (spP K m n) (0 :: idx.map (· + 1)) (n + 1) ta) := fun σ τ G H os θ f r os' Q hl ht I e k => by
  unfold eFnT at e
  cases e1 : ev os with
  | none => rw [e1] at e; cases e
  | some pp =>
    obtain ⟨rs0, os1⟩ := pp
    rw [e1, Option.bind_some] at e
    cases e0 : tmHd? rs0 with
    | none => rw [e0] at e; cases e
    | some qq =>
      obtain ⟨xs, rs⟩ := qq
      have er0 := tmHd_some e0
      simp only at er0
      subst er0
      rw [e0, Option.bind_some] at e
      cases e2 : rdAll os1 rs with
      | none => rw [e2] at e; cases e
      | some ds =>
        rw [e2, Option.bind_some] at e
        cases hn : (Nat.beq (rs.length + 1) (n + 1) && Nat.beq ((pk idx ds).length + 1) (n + 1)) with
        | false => rw [hn] at e; cases e
        | true =>
          rw [hn, cond_true] at e
          obtain ⟨hn1, hn2⟩ := Bool.and_eq_true_iff.mp hn
          have hn1 := Nat.eq_of_beq_eq_true hn1
          have hn2 := Nat.eq_of_beq_eq_true hn2
          cases e3 : m (.lst xs) ((pk idx ds).map OD.sh) with
          | none => rw [e3] at e; cases e
          | some t =>
            obtain ⟨r1, p'⟩ := t
            rw [e3, Option.bind_some] at e
            cases e
            refine h σ τ G H os θ f _ os1 _ hl ht I e1 fun vs H1 k1 => ?_
            obtain ⟨G1, f1, I1, s1, a1, l1⟩ := k1
            cases a1 with
            | cons av ar =>
              rename_i vp vr
              have I1' : SI K G1 H1 (σ ++ ((τ ++ [some vp]) ++ vr.map some)) (os1 ++ ((θ ++ [some (.lst xs)]) ++ rs.map RV.od)) f1 := by simpa [RV.od, List.append_assoc] using I1
              obtain ⟨G2, f2, I2, s2, hd⟩ := I1'.popC l1 (by simp [ht]) ar e2
              have I2' : SI K G2 H1 ((σ ++ τ) ++ [some vp]) ((hardAll os1 rs ++ θ) ++ [some (.lst xs)]) f2 := by simpa [List.append_assoc] using I2
              obtain ⟨w, fo, fr, ew, m2, m4, m3⟩ := I2'.last (by simp [l1, ht, len_hardAll])
              cases ew
              have hd' := dps_pk hd idx
              have Irest : SI K G2 H1 (σ ++ τ) (hardAll os1 rs ++ θ) fr := I2'.forget m4 fun a => by rw [m3]; omega
              have Iarg : SI K G2 H1 (some vp :: (pk idx vr).map some) (some (.lst xs) :: ((pk idx ds).map OD.sh).map some) fo := by
                have q := SL.val m2 (SL.shs (H := H1) hd')
                exact I2'.forget (q.congr fun a => rfl) fun a => by rw [m3]; omega
              refine ⟨by simp [ar.len]; omega, G2, fo, vp, pk idx vr, .lst xs, (pk idx ds).map OD.sh, r1, p', pk_zero _ _ _, Iarg, by rw [dps_len hd']; omega, e3, fun v H' G' f' J s => ?_⟩
              obtain ⟨f4, I4, e5, s5⟩ := Irest.frame J s fun a z => by have := I2'.one a; rw [m3] at this; omega
              obtain ⟨q1, q2, t1, t2, t3⟩ := SL.cut (by simp [l1, ht, len_hardAll]) I4.sl
              cases t2 with
              | val u1 u2 =>
                rename_i g1 g2
                obtain ⟨k2, b3, b4⟩ := SL.app t1 u2
                have le : ∀ a, k2 a ≤ f4 a := fun a => by rw [b4, t3]; (try dsimp only); omega
                refine k v H' ⟨G', k2, ?_, ((s1.trans s2).trans (s5 f2 fun a => by rw [m3])).trans (Stp.less le), .cons trivial .nil, by rw [len_hardAll]; exact l1⟩
                have fin : SI K G' H' ((σ ++ τ) ++ [some v]) ((hardAll os1 rs ++ θ) ++ [some r1]) k2 := I4.forget b3 le
                simpa [List.append_assoc, RV.od] using fin
end
section
variable {X : Cx} {k : Nat} {f : Addr} {fd : FuncData} {ps ks : List Str} {x : Str} {p pos : Pos} {e : Expr} {es : List Expr} {kws : List Keyword} {idx : List Nat} {ev : EvEs}
theorem se_callT {m : OD → List OD → Option (OD × OD)} {n : Nat} (F : FnG X.prog X.w X.K X.mg X.base k f fd ps (spP X.K m n)) (hA : X.A.guards = some []) (hr : Room k X.A) (hm : X.mg x = some (.ref f)) (hk : PySem.W.keepIn X.K (.ref f) = true) (hb : Bd fd ps (n + 1) (n + 1) [] (0 :: idx.map (· + 1))) (h : SEs X ev (e :: es))
    (hn : (e :: es).length = n + 1 := by rfl) (hg : Gl X x := by rfl) (hdb : (x == ("__debug__" : Str)) = false := by decide) (he : starEach (e :: es) X.env = (false, eval e X.env) :: starEach es X.env := by rfl) (hpl : (backTo pos (starEach es X.env)).any (·.1) = false := by rfl) :
    SE X (eFnT m (n + 1) idx ev) (.Call (.Name x p) (e :: es) [] pos) := by
  obtain ⟨ta, q1, q2⟩ := h
  have := pe_callG (p := p) (pos := pos) F hA hr hm hk (by rw [hn]; exact hb) q1 hg hdb he hpl
  rw [hn] at this
  exact ⟨_, this, er_fnT q2⟩
end
end DX
/-! the worths of the defs (printed by gen.py). -/
namespace K55
open PySem PySem.Spec PyProof.Rows L2 DX
noncomputable section
def ev_is_integer (n : Nat) : EvS :=
  (sRet (eAnd (eOp (opIsi "int") (es1 (eVar 0))) (eNot (eOp (opIsi "bool") (es1 (eVar 0))))))
def mr_is_integer (os : List OD) : Option OD := (ev_is_integer fuel (startE ["value"] os)).bind retOf
def ev__law_pot (n : Nat) : EvS :=
  (sSeq (sAsg [] 2 (eIf (tBl (eOp opLt (es2 (eVar 1) (eOp opLen (esCons (eVar 0) esNil))))) (eOp opAbs (esCons (eOp opIx (es2 (eVar 0) (eVar 1))) esNil)) (eOp (opOr opAdd opCatT) (es2 (eOp opMul (es2 (eC (.int 613)) (eVar 1))) (eC (.int 577)))))) (sRet (eLst (esCons (eOp opMax2 (esCons (eC (.int 0)) (esCons (eOp opSub (es2 (eVar 2) (eOp opPow (es2 (eC (.int 10)) (eC (.int 18)))))) esNil))) (esCons (eOp (opOr opAdd opCatT) (es2 (eOp opMod (es2 (eOp opInt (esCons (eOp (opOr opAdd opCatT) (es2 (eOp (opOr opAdd opCatT) (es2 (eOp opMul (es2 (eOp opMod (es2 (eOp opInt (esCons (eVar 2) esNil)) (eC (.int 2147483549)))) (eC (.int 48271)))) (eOp opMul (es2 (eC (.int 9173)) (eVar 1))))) (eC (.int 37)))) esNil)) (eC (.int 2147483563)))) (eC (.int 1)))) esNil)))))
def mr__law_pot (os : List OD) : Option OD := (ev__law_pot fuel (startE ["_law_script", "_law_k", "_law_cell"] os)).bind retOf
def ev__law_draw (n : Nat) : EvS :=
  (sSeq (sIf (tBl (eOp opGt (es2 (eOp opIx (es2 (eVar 0) (eC (.int 0)))) (eC (.int 0))))) (sSeq (sAsgG (gvTup 2 (gvCons (gvSub 0 (eC (.int 0))) (gvCons (gvName [0] 2) gvNil))) (eOp opDivmod (esCons (eOp opIx (es2 (eVar 0) (eC (.int 0)))) (esCons (eVar 1) esNil)))) (sRet (eVar 2))) sNext) (sSeq (sAsgG (gvSub 0 (eC (.int 1))) (eOp opMod (es2 (eOp opInt (esCons (eOp (opOr opAdd opCatT) (es2 (eOp opMul (es2 (eOp opIx (es2 (eVar 0) (eC (.int 1)))) (eC (.int 39373)))) (eC (.int 9173)))) esNil)) (eC (.int 2147483587))))) (sRet (eOp opMod (es2 (eOp opInt (esCons (eOp opDiv (es2 (eOp opMod (es2 (eOp opInt (esCons (eOp opMul (es2 (eOp opIx (es2 (eVar 0) (eC (.int 1)))) (eOp opIx (es2 (eVar 0) (eC (.int 1)))))) esNil)) (eC (.int 2147483563)))) (eC (.int 23)))) esNil)) (eVar 1))))))
def mr__law_draw (o : OD) (os : List OD) : Option (OD × OD) := (ev__law_draw fuel (startE ["_law_pot_here", "_law_many", "_law_digit"] (o :: os))).bind retP
def ev__law_is (n : Nat) : EvS :=
  (sRet (eAnd (eOp (opIsi "bool") (es1 (eVar 0))) (eOp opEq (es2 (eVar 0) (eVar 1)))))
def mr__law_is (os : List OD) : Option OD := (ev__law_is fuel (startE ["_law_told", "_law_due"] os)).bind retOf
def ev__law_whole (n : Nat) : EvS :=
  (sRet (eAnd (eOp (opIsi "int") (es1 (eVar 0))) (eNot (eOp (opIsi "bool") (es1 (eVar 0))))))
def mr__law_whole (os : List OD) : Option OD := (ev__law_whole fuel (startE ["_law_value"] os)).bind retOf
def ev__law_one (n : Nat) : EvS :=
  (sRet (eOp opTup (esCons (eLc [3] (iR1 (esCons (eVar 0) esNil)) (gvName [] 3) cYes (eIf (tBl (eOp opEq (es2 (eVar 3) (eVar 1)))) (eVar 2) (eC (.int 0)))) esNil)))
def mr__law_one (os : List OD) : Option OD := (ev__law_one fuel (startE ["_law_many", "_law_at", "_law_worth", "_law_x"] os)).bind retOf
def ev__law_pick (n : Nat) : EvS :=
  (sRet (eOp opIx (es2 (eVar 1) (eFnP mr__law_draw 2 [0] (esCons (eVar 0) (esCons (eOp opLen (esCons (eVar 1) esNil)) esNil))))))
def mr__law_pick (o : OD) (os : List OD) : Option (OD × OD) := (ev__law_pick fuel (startE ["_law_pot_here", "_law_some"] (o :: os))).bind retP
def ev__law_is_numbers (n : Nat) : EvS :=
  (sSeq (sIf (tOrD (tNotD (tTru (eOp (opIsi "tuple") (es1 (eVar 0))))) (tBl (eOp opNe (es2 (eOp opLen (esCons (eVar 0) esNil)) (eVar 1))))) (sRet (eC (.bool false))) sNext) (sRet (eAnd (eOp (opAll fun bs => bs.all id) (esCons (eLc [2] (iSq (eVar 0)) (gvName [] 2) cYes (eFn0 mr__law_whole 1 [0] (esCons (eVar 2) esNil))) esNil)) (eOp (opAll fun bs => bs.any id) (esCons (eLc [2] (iSq (eVar 0)) (gvName [] 2) cYes (eOp opNe (es2 (eVar 2) (eC (.int 0))))) esNil)))))
def mr__law_is_numbers (os : List OD) : Option OD := (ev__law_is_numbers fuel (startE ["_law_value", "_law_many", "_law_x"] os)).bind retOf
def ev__law_name (n : Nat) : EvS :=
  (sSeq (sPar [0] 2 3 (esCons (eFnP mr__law_pick 2 [0] (esCons (eVar 0) (esCons (eC (.str "abcdefghijklmnopqrstuvwxyz")) esNil))) (esCons (eOp opStr (esCons (eFnP mr__law_draw 2 [0] (esCons (eVar 0) (esCons (eC (.int 10)) esNil))) esNil)) esNil))) (sRet (eFnP mr__law_pick 2 [0] (esCons (eVar 0) (esCons (eLst (esCons (eOp (opOr opAdd opCatT) (es2 (eVar 2) (eOp opStr (esCons (eVar 1) esNil)))) (esCons (eOp (opOr opAdd opCatT) (es2 (eOp (opOr opAdd opCatT) (es2 (eOp (opOr opAdd opCatT) (es2 (eVar 2) (eOp opStr (esCons (eVar 1) esNil)))) (eVar 3))) (eVar 2))) (esCons (eOp (opOr opAdd opCatT) (es2 (eOp (opOr opAdd opCatT) (es2 (eVar 2) (eVar 2))) (eOp opStr (esCons (eVar 1) esNil)))) (esCons (eOp (opOr opAdd opCatT) (es2 (eOp (opOr opAdd opCatT) (es2 (eOp (opOr opAdd opCatT) (es2 (eC (.str "z")) (eVar 2))) (eOp opStr (esCons (eVar 1) esNil)))) (eVar 3))) esNil))))) esNil)))))
def mr__law_name (o : OD) (os : List OD) : Option (OD × OD) := (ev__law_name fuel (startE ["_law_pot_here", "_law_k", "_law_l", "_law_x"] (o :: os))).bind retP
def ev__law_number (n : Nat) : EvS :=
  (sRet (eFnP mr__law_pick 2 [0] (esCons (eVar 0) (esCons (eLst (esCons (eC (.int 0)) (esCons (eC (.int 1)) (esCons (eOp opNeg (es1 (eC (.int 1)))) (esCons (eC (.int 1)) (esCons (eOp opNeg (es1 (eC (.int 1)))) (esCons (eC (.int 2)) (esCons (eOp opSub (es2 (eFnP mr__law_draw 2 [0] (esCons (eVar 0) (esCons (eC (.int 9)) esNil))) (eC (.int 4)))) esNil)))))))) esNil))))
def mr__law_number (o : OD) (os : List OD) : Option (OD × OD) := (ev__law_number fuel (startE ["_law_pot_here"] (o :: os))).bind retP
def ev__law_is_terms (n : Nat) : EvS :=
  (sSeq (sIf (tNotD (tTru (eOp (opIsi "list") (es1 (eVar 1))))) (sRet (eC (.bool false))) sNext) (sSeq (sAsg [] 2 (eOp opNeg (es1 (eC (.int 1))))) (sSeq (sFor (iSq (eVar 1)) (gvName [] 3) (sSeq (sIf (tOrD (tNotD (tTru (eOp (opIsi "tuple") (es1 (eVar 3))))) (tOrD (tBl (eOp opNe (es2 (eOp opLen (esCons (eVar 3) esNil)) (eC (.int 2))))) (tNotD (tTru (eFn0 mr__law_whole 1 [0] (esCons (eOp opIx (es2 (eVar 3) (eC (.int 0)))) esNil)))))) (sRet (eC (.bool false))) sNext) (sSeq (sIf (tOrD (tBl (eOp opLe (es2 (eOp opIx (es2 (eVar 3) (eC (.int 0)))) (eVar 2)))) (tOrD (tBl (eOp opGe (es2 (eOp opIx (es2 (eVar 3) (eC (.int 0)))) (eOp opIx (es2 (eVar 0) (eC (.int 1))))))) (tNotD (tTru (eFn0 mr__law_is_numbers 2 [0, 1] (esCons (eOp opIx (es2 (eVar 3) (eC (.int 1)))) (esCons (eOp opIx (es2 (eVar 0) (eC (.int 0)))) esNil))))))) (sRet (eC (.bool false))) sNext) (sAsg [] 2 (eOp opIx (es2 (eVar 3) (eC (.int 0)))))))) (sRet (eC (.bool true))))))
def mr__law_is_terms (os : List OD) : Option OD := (ev__law_is_terms fuel (startE ["_law_world_here", "_law_value", "_law_last", "_law_one_here"] os)).bind retOf
def ev__law_numbers (n : Nat) : EvS :=
  (sSeq (sAsg [0] 2 (eLc [3] (iR1 (esCons (eVar 1) esNil)) (gvName [] 3) cYes (eFnP mr__law_number 1 [] (esCons (eVar 0) esNil)))) (sSeq (sIf (tTru (eOp (opAll fun bs => bs.all id) (esCons (eLcV 2 [3] (gvName [] 3) cYes (eOp opEq (es2 (eVar 3) (eC (.int 0))))) esNil))) (sAsgG (gvSub 2 (eFnP mr__law_draw 2 [0] (esCons (eVar 0) (esCons (eVar 1) esNil)))) (eFnP mr__law_pick 2 [0] (esCons (eVar 0) (esCons (eLst (esCons (eC (.int 1)) (esCons (eOp opNeg (es1 (eC (.int 1)))) (esCons (eC (.int 2)) (esCons (eOp opNeg (es1 (eC (.int 3)))) esNil))))) esNil)))) sNext) (sRet (eOp opTup (esCons (eVar 2) esNil)))))
def mr__law_numbers (o : OD) (os : List OD) : Option (OD × OD) := (ev__law_numbers fuel (startE ["_law_pot_here", "_law_many", "_law_made", "_law_x"] (o :: os))).bind retP
def ev__law_row (n : Nat) : EvS :=
  (sRet (eTup (esCons (eOp opTup (esCons (eLc [2] (iR1 (esCons (eVar 1) esNil)) (gvName [] 2) cYes (eFnP mr__law_number 1 [] (esCons (eVar 0) esNil))) esNil)) (esCons (eOp opSub (es2 (eFnP mr__law_draw 2 [0] (esCons (eVar 0) (esCons (eC (.int 12)) esNil))) (eC (.int 3)))) esNil))))
def mr__law_row (o : OD) (os : List OD) : Option (OD × OD) := (ev__law_row fuel (startE ["_law_pot_here", "_law_many", "_law_x"] (o :: os))).bind retP
def ev__law_is_linear (n : Nat) : EvS :=
  (sSeq (sIf (tOrD (tNotD (tTru (eOp (opIsi "tuple") (es1 (eVar 1))))) (tBl (eOp opNe (es2 (eOp opLen (esCons (eVar 1) esNil)) (eC (.int 2)))))) (sRet (eC (.bool false))) sNext) (sRet (eAnd (eFn0 mr__law_is_terms 2 [0, 1] (esCons (eVar 0) (esCons (eOp opIx (es2 (eVar 1) (eC (.int 0)))) esNil))) (eFn0 mr__law_whole 1 [0] (esCons (eOp opIx (es2 (eVar 1) (eC (.int 1)))) esNil)))))
def mr__law_is_linear (os : List OD) : Option OD := (ev__law_is_linear fuel (startE ["_law_world_here", "_law_value"] os)).bind retOf
def ev__law_are_linears (n : Nat) : EvS :=
  (sSeq (sIf (tOrD (tNotD (tTru (eOp (opIsi "list") (es1 (eVar 1))))) (tBl (eOp opGt (es2 (eOp opLen (esCons (eVar 1) esNil)) (eVar 2))))) (sRet (eC (.bool false))) sNext) (sSeq (sFor (iSq (eVar 1)) (gvName [] 3) (sSeq (sIf (tOrD (tNotD (tTru (eOp (opIsi "tuple") (es1 (eVar 3))))) (tOrD (tBl (eOp opNe (es2 (eOp opLen (esCons (eVar 3) esNil)) (eC (.int 2))))) (tNotD (tTru (eFn0 mr__law_whole 1 [0] (esCons (eOp opIx (es2 (eVar 3) (eC (.int 1)))) esNil)))))) (sRet (eC (.bool false))) sNext) (sIf (tNotD (tTru (eFn0 mr__law_is_terms 2 [0, 1] (esCons (eVar 0) (esCons (eOp opIx (es2 (eVar 3) (eC (.int 0)))) esNil))))) (sRet (eC (.bool false))) sNext))) (sRet (eC (.bool true)))))
def mr__law_are_linears (os : List OD) : Option OD := (ev__law_are_linears fuel (startE ["_law_world_here", "_law_value", "_law_most", "_law_one_here"] os)).bind retOf
def ev_is_stand_numbers (n : Nat) : EvS :=
  (sSeq (sIf (tOrD (tNotD (tTru (eOp (opIsi "tuple") (es1 (eVar 1))))) (tBl (eOp opNe (es2 (eOp opLen (esCons (eVar 1) esNil)) (eOp opIx (es2 (eVar 0) (eC (.int 0)))))))) (sRet (eC (.bool false))) sNext) (sRet (eAnd (eAg false [2] (iSq (eVar 1)) (gvName [] 2) cYes (eFn0 mr_is_integer 1 [0] (esCons (eVar 2) esNil))) (eAg true [2] (iSq (eVar 1)) (gvName [] 2) cYes (eOp opNe (es2 (eVar 2) (eC (.int 0))))))))
def mr_is_stand_numbers (os : List OD) : Option OD := (ev_is_stand_numbers fuel (startE ["world", "value", "one"] os)).bind retOf
def cl__law_start_1 : List PyData := [(.int 0), (.int 0), (.int 0), (.int 1), (.int 2)]
def ev__law_start (n : Nat) : EvS :=
  (sSeq (sAsg [0] 2 (eLc [7] (iR1 (esCons (eFnP mr__law_pick 2 [0] (esCons (eVar 0) (esCons (eLst (escs cl__law_start_1)) esNil))) esNil)) (gvName [] 7) cYes (eFnP mr__law_row 2 [0] (esCons (eVar 0) (esCons (eVar 1) esNil))))) (sSeq (sFor (iR1 (esCons (eVar 1) esNil)) (gvName [0] 3) (sSeq (sPar [0] 5 6 (esCons (eOp opSub (es2 (eFnP mr__law_draw 2 [0] (esCons (eVar 0) (esCons (eC (.int 6)) esNil))) (eC (.int 3)))) (esCons (eFnP mr__law_draw 2 [0] (esCons (eVar 0) (esCons (eC (.int 6)) esNil))) esNil))) (sSeq (sAsg [0] 4 (eLst (esCons (eTup (esCons (eFn0 mr__law_one 3 [0, 1, 2] (esCons (eVar 1) (esCons (eVar 3) (esCons (eOp opNeg (es1 (eC (.int 1)))) esNil)))) (esCons (eOp opNeg (es1 (eVar 5))) esNil))) (esCons (eTup (esCons (eFn0 mr__law_one 3 [0, 1, 2] (esCons (eVar 1) (esCons (eVar 3) (esCons (eC (.int 1)) esNil)))) (esCons (eOp (opOr opAdd opCatT) (es2 (eVar 5) (eVar 6))) esNil))) esNil)))) (sAsg [0] 2 (eOp (opOr opAdd opCatT) (es2 (eVar 2) (eFnP mr__law_pick 2 [0] (esCons (eVar 0) (esCons (eLst (esCons (eLst esNil) (esCons (eSl (eVar 4) oNone (oSome (eC (.int 1)))) (esCons (eVar 4) (esCons (eVar 4) esNil))))) esNil))))))))) (sRet (eVar 2))))
def mr__law_start (o : OD) (os : List OD) : Option (OD × OD) := (ev__law_start fuel (startE ["_law_pot_here", "_law_many", "_law_rows", "_law_at", "_law_some", "_law_low", "_law_wide", "_law_x"] (o :: os))).bind retP
def ev__law_step (n : Nat) : EvS :=
  (sSeq (sPar [0] 3 4 (esCons (eFnP mr__law_draw 2 [0] (esCons (eVar 0) (esCons (eC (.int 6)) esNil))) (esCons (eLst esNil) esNil))) (sSeq (sIf (tBl (eOp opEq (es2 (eVar 3) (eC (.int 0))))) (sRet (eVar 4)) sNext) (sSeq (sIf (tBl (eOp opEq (es2 (eVar 3) (eC (.int 1))))) (sRet (eLc [9] (iR1 (esCons (eOp (opOr opAdd opCatT) (es2 (eC (.int 1)) (eFnP mr__law_draw 2 [0] (esCons (eVar 0) (esCons (eC (.int 2)) esNil))))) esNil)) (gvName [] 9) cYes (eFnP mr__law_row 2 [0] (esCons (eVar 0) (esCons (eOp opMul (es2 (eC (.int 2)) (eVar 1))) esNil))))) sNext) (sSeq (sFor (iR1 (esCons (eVar 1) esNil)) (gvName [0] 2) (sSeq (sAsg [0] 5 (eRepD (eLst (esCons (eC (.int 0)) esNil)) (eOp opMul (es2 (eC (.int 2)) (eVar 1))))) (sSeq (sAsgG (gvTup 2 (gvCons (gvSub 5 (eVar 2)) (gvCons (gvSub 5 (eOp (opOr opAdd opCatT) (es2 (eVar 1) (eVar 2)))) gvNil))) (eTup (esCons (eOp opNeg (es1 (eC (.int 1)))) (esCons (eC (.int 1)) esNil)))) (sSeq (sPar [0] 7 8 (esCons (eFnP mr__law_draw 2 [0] (esCons (eVar 0) (esCons (eC (.int 4)) esNil))) (esCons (eFnP mr__law_pick 2 [0] (esCons (eVar 0) (esCons (eLst (esCons (eC (.int 0)) (esCons (eC (.int 0)) (esCons (eC (.int 1)) (esCons (eC (.int 2)) (esCons (eC (.int 1)) (esCons (eC (.int 0)) (esCons (eC (.int 2)) (esCons (eOp opNeg (es1 (eC (.int 1)))) esNil))))))))) esNil))) esNil))) (sSeq (sAsg [0] 6 (eLst (esCons (eTup (esCons (eOp opTup (esCons (eVar 5) esNil)) (esCons (eVar 7) esNil))) (esCons (eTup (esCons (eOp opTup (esCons (eLc [9] (iSq (eVar 5)) (gvName [] 9) cYes (eOp opNeg (es1 (eVar 9)))) esNil)) (esCons (eVar 8) esNil))) esNil)))) (sAsg [0] 4 (eOp (opOr opAdd opCatT) (es2 (eVar 4) (eFnP mr__law_pick 2 [0] (esCons (eVar 0) (esCons (eLst (esCons (eVar 6) (esCons (eVar 6) (esCons (eSl (eVar 6) oNone (oSome (eC (.int 1)))) (esCons (eSl (eVar 6) (oSome (eC (.int 1))) oNone) esNil))))) esNil))))))))))) (sRet (eVar 4))))))
def mr__law_step (o : OD) (os : List OD) : Option (OD × OD) := (ev__law_step fuel (startE ["_law_pot_here", "_law_many", "_law_at", "_law_way", "_law_rows", "_law_up", "_law_some", "_law_a", "_law_b", "_law_x"] (o :: os))).bind retP
def ev__law_terms (n : Nat) : EvS :=
  (sSeq (sAsg [0] 2 (eLst esNil)) (sSeq (sFor (iR1 (esCons (eOp opIx (es2 (eVar 1) (eC (.int 1)))) esNil)) (gvName [0] 3) (sIf (tBl (eOp opLt (es2 (eFnP mr__law_draw 2 [0] (esCons (eVar 0) (esCons (eC (.int 3)) esNil))) (eC (.int 2))))) (sApp 2 (eTup (esCons (eVar 3) (esCons (eFnP mr__law_numbers 2 [0] (esCons (eVar 0) (esCons (eOp opIx (es2 (eVar 1) (eC (.int 0)))) esNil))) esNil)))) sNext)) (sRet (eVar 2))))
def mr__law_terms (o : OD) (os : List OD) : Option (OD × OD) := (ev__law_terms fuel (startE ["_law_pot_here", "_law_world_here", "_law_made", "_law_t"] (o :: os))).bind retP
def ev__law_is_saying (n : Nat) : EvS :=
  (sSeq (sIf (tOrD (tNotD (tTru (eOp (opIsi "tuple") (es1 (eVar 1))))) (tBl (eOp opNe (es2 (eOp opLen (esCons (eVar 1) esNil)) (eC (.int 2)))))) (sRet (eC (.bool false))) sNext) (sRet (eAnd (eOp (opOr (opIn false) (opInT false)) (es2 (eOp opIx (es2 (eVar 1) (eC (.int 0)))) (eTup (esCons (eC (.str "all")) (esCons (eC (.str "any")) esNil))))) (eFn0 mr__law_are_linears 3 [0, 1, 2] (esCons (eVar 0) (esCons (eOp opIx (es2 (eVar 1) (eC (.int 1)))) (esCons (eC (.int 8)) esNil)))))))
def mr__law_is_saying (os : List OD) : Option OD := (ev__law_is_saying fuel (startE ["_law_world_here", "_law_value"] os)).bind retOf
def ev__law_is_supposed (n : Nat) : EvS :=
  (sSeq (sIf (tAndD (tNotD (tTru (eOp (opIsi "list") (es1 (eVar 1))))) (tNotD (tTru (eOp (opIsi "tuple") (es1 (eVar 1)))))) (sRet (eC (.bool false))) sNext) (sRet (eFn0 mr__law_are_linears 3 [0, 1, 2] (esCons (eVar 0) (esCons (eOp opList (esCons (eVar 1) esNil)) (esCons (eC (.int 4)) esNil))))))
def mr__law_is_supposed (os : List OD) : Option OD := (ev__law_is_supposed fuel (startE ["_law_world_here", "_law_value"] os)).bind retOf
def ev_is_terms (n : Nat) : EvS :=
  (sSeq (sIf (tNotD (tTru (eOp (opIsi "list") (es1 (eVar 1))))) (sRet (eC (.bool false))) sNext) (sSeq (sAsg [] 2 (eOp opNeg (es1 (eC (.int 1))))) (sSeq (sFor (iSq (eVar 1)) (gvName [] 3) (sSeq (sIf (tOrD (tNotD (tTru (eOp (opIsi "tuple") (es1 (eVar 3))))) (tOrD (tBl (eOp opNe (es2 (eOp opLen (esCons (eVar 3) esNil)) (eC (.int 2))))) (tNotD (tTru (eFn0 mr_is_integer 1 [0] (esCons (eOp opIx (es2 (eVar 3) (eC (.int 0)))) esNil)))))) (sRet (eC (.bool false))) sNext) (sSeq (sIf (tOrD (tBl (eOp opLe (es2 (eOp opIx (es2 (eVar 3) (eC (.int 0)))) (eVar 2)))) (tOrD (tBl (eOp opGe (es2 (eOp opIx (es2 (eVar 3) (eC (.int 0)))) (eOp opIx (es2 (eVar 0) (eC (.int 1))))))) (tNotD (tTru (eFn0 mr_is_stand_numbers 2 [0, 1] (esCons (eVar 0) (esCons (eOp opIx (es2 (eVar 3) (eC (.int 1)))) esNil))))))) (sRet (eC (.bool false))) sNext) (sAsg [] 2 (eOp opIx (es2 (eVar 3) (eC (.int 0)))))))) (sRet (eC (.bool true))))))
def mr_is_terms (os : List OD) : Option OD := (ev_is_terms fuel (startE ["world", "value", "last", "one"] os)).bind retOf
def ev__law_world (n : Nat) : EvS :=
  (sSeq (sAsgG (gvTup 2 (gvCons (gvName [0] 6) (gvCons (gvName [0] 7) gvNil))) (eFnP mr__law_pick 2 [0] (esCons (eVar 0) (esCons (eVar 1) esNil)))) (sSeq (sAsg [0] 2 (eFnP mr__law_start 2 [0] (esCons (eVar 0) (esCons (eVar 6) esNil)))) (sSeq (sAsg [0] 3 (eLc [10] (iR1 (esCons (eOp opSub (es2 (eVar 7) (eC (.int 1)))) esNil)) (gvName [] 10) cYes (eFnP mr__law_step 2 [0] (esCons (eVar 0) (esCons (eVar 6) esNil))))) (sSeq (sAsg [0] 4 (eLst esNil)) (sSeq (sFor (iR1 (esCons (eOp (opOr opAdd opCatT) (es2 (eC (.int 1)) (eFnP mr__law_draw 2 [0] (esCons (eVar 0) (esCons (eC (.int 3)) esNil))))) esNil)) (gvName [0] 5) (sSeq (sAsg [0] 8 (eFnP mr__law_pick 2 [0] (esCons (eVar 0) (esCons (eLst (esCons (eTup (esCons (eC (.int 0)) (esCons (eC (.int 1)) esNil))) (esCons (eTup (esCons (eC (.int 1)) (esCons (eC (.int 1)) esNil))) (esCons (eTup (esCons (eC (.int 1)) (esCons (eC (.int 2)) esNil))) (esCons (eTup (esCons (eC (.int 2)) (esCons (eC (.int 1)) esNil))) (esCons (eTup (esCons (eC (.int 7)) (esCons (eC (.int 3)) esNil))) (esCons (eTup (esCons (eC (.int 4)) (esCons (eC (.int 1)) esNil))) (esCons (eTup (esCons (eC (.int 3)) (esCons (eC (.int 1)) esNil))) esNil)))))))) esNil)))) (sSeq (sAsg [0] 9 (eFnP mr__law_pick 2 [0] (esCons (eVar 0) (esCons (eLst (esCons (eFn0 mr__law_one 3 [0, 1, 2] (esCons (eVar 6) (esCons (eC (.int 0)) (esCons (eC (.int 1)) esNil)))) (esCons (eFnP mr__law_numbers 2 [0] (esCons (eVar 0) (esCons (eVar 6) esNil))) esNil))) esNil)))) (sApp 4 (eTup (esCons (eFnP mr__law_name 2 [0] (esCons (eVar 0) (esCons (eVar 5) esNil))) (esCons (eVar 9) (esCons (eVar 8) esNil)))))))) (sRet (eTup (esCons (eVar 6) (esCons (eVar 7) (esCons (eVar 2) (esCons (eVar 3) (esCons (eVar 4) esNil))))))))))))
def mr__law_world (o : OD) (os : List OD) : Option (OD × OD) := (ev__law_world fuel (startE ["_law_pot_here", "_law_sizes", "_law_start_here", "_law_steps", "_law_sensors", "_law_k", "_law_many", "_law_moments", "_law_slack", "_law_numbers_here", "_law_x"] (o :: os))).bind retP
def ev__law_linear (n : Nat) : EvS :=
  (sRet (eTup (esCons (eFnP mr__law_terms 2 [0] (esCons (eVar 0) (esCons (eVar 1) esNil))) (esCons (eOp opSub (es2 (eFnP mr__law_draw 2 [0] (esCons (eVar 0) (esCons (eC (.int 15)) esNil))) (eC (.int 5)))) esNil))))
def mr__law_linear (o : OD) (os : List OD) : Option (OD × OD) := (ev__law_linear fuel (startE ["_law_pot_here", "_law_world_here"] (o :: os))).bind retP
def ev_is_linear (n : Nat) : EvS :=
  (sSeq (sIf (tOrD (tNotD (tTru (eOp (opIsi "tuple") (es1 (eVar 1))))) (tBl (eOp opNe (es2 (eOp opLen (esCons (eVar 1) esNil)) (eC (.int 2)))))) (sRet (eC (.bool false))) sNext) (sRet (eAnd (eFn0 mr_is_terms 2 [0, 1] (esCons (eVar 0) (esCons (eOp opIx (es2 (eVar 1) (eC (.int 0)))) esNil))) (eFn0 mr_is_integer 1 [0] (esCons (eOp opIx (es2 (eVar 1) (eC (.int 1)))) esNil)))))
def mr_is_linear (os : List OD) : Option OD := (ev_is_linear fuel (startE ["world", "value"] os)).bind retOf
def ev_is_saying (n : Nat) : EvS :=
  (sSeq (sIf (tOrD (tNotD (tTru (eOp (opIsi "tuple") (es1 (eVar 1))))) (tBl (eOp opNe (es2 (eOp opLen (esCons (eVar 1) esNil)) (eC (.int 2)))))) (sRet (eC (.bool false))) sNext) (sSeq (sIf (tOrD (tNotD (tTru (eOp (opIsi "str") (es1 (eOp opIx (es2 (eVar 1) (eC (.int 0)))))))) (tAndD (tBl (eOp opNe (es2 (eOp opIx (es2 (eVar 1) (eC (.int 0)))) (eC (.str "all"))))) (tBl (eOp opNe (es2 (eOp opIx (es2 (eVar 1) (eC (.int 0)))) (eC (.str "any"))))))) (sRet (eC (.bool false))) sNext) (sSeq (sIf (tOrD (tNotD (tTru (eOp (opIsi "list") (es1 (eOp opIx (es2 (eVar 1) (eC (.int 1)))))))) (tBl (eOp opGt (es2 (eOp opLen (esCons (eOp opIx (es2 (eVar 1) (eC (.int 1)))) esNil)) (eC (.int 8)))))) (sRet (eC (.bool false))) sNext) (sRet (eAg false [2] (iSq (eOp opIx (es2 (eVar 1) (eC (.int 1))))) (gvName [] 2) cYes (eFn0 mr_is_linear 2 [0, 1] (esCons (eVar 0) (esCons (eVar 2) esNil))))))))
def mr_is_saying (os : List OD) : Option OD := (ev_is_saying fuel (startE ["world", "value", "one"] os)).bind retOf
def ev_is_supposed (n : Nat) : EvS :=
  (sSeq (sIf (tOrD (tNotD (tTru (eIsi2 "list" "tuple" (eVar 1)))) (tBl (eOp opGt (es2 (eOp opLen (esCons (eVar 1) esNil)) (eC (.int 4)))))) (sRet (eC (.bool false))) sNext) (sRet (eAg false [2] (iSq (eVar 1)) (gvName [] 2) cYes (eFn0 mr_is_linear 2 [0, 1] (esCons (eVar 0) (esCons (eVar 2) esNil))))))
def mr_is_supposed (os : List OD) : Option OD := (ev_is_supposed fuel (startE ["world", "value", "one"] os)).bind retOf
def ev__law_judged (n : Nat) : EvS :=
  (sSeq (sIf (tNotD (tTru (eFn0 mr__law_is 2 [0, 1] (esCons (eFn0 mr_is_terms 2 [0, 1] (esCons (eVar 0) (esCons (eVar 1) esNil))) (esCons (eFn0 mr__law_is_terms 2 [0, 1] (esCons (eVar 0) (esCons (eVar 1) esNil))) esNil))))) (sRet (eC (.bool false))) sNext) (sSeq (sIf (tNotD (tTru (eFn0 mr__law_is 2 [0, 1] (esCons (eFn0 mr_is_linear 2 [0, 1] (esCons (eVar 0) (esCons (eVar 1) esNil))) (esCons (eFn0 mr__law_is_linear 2 [0, 1] (esCons (eVar 0) (esCons (eVar 1) esNil))) esNil))))) (sRet (eC (.bool false))) sNext) (sSeq (sIf (tNotD (tTru (eFn0 mr__law_is 2 [0, 1] (esCons (eFn0 mr_is_saying 2 [0, 1] (esCons (eVar 0) (esCons (eVar 1) esNil))) (esCons (eFn0 mr__law_is_saying 2 [0, 1] (esCons (eVar 0) (esCons (eVar 1) esNil))) esNil))))) (sRet (eC (.bool false))) sNext) (sRet (eFn0 mr__law_is 2 [0, 1] (esCons (eFn0 mr_is_supposed 2 [1, 0] (esCons (eVar 1) (esCons (eVar 0) esNil))) (esCons (eFn0 mr__law_is_supposed 2 [0, 1] (esCons (eVar 0) (esCons (eVar 1) esNil))) esNil)))))))
def mr__law_judged (os : List OD) : Option OD := (ev__law_judged fuel (startE ["_law_world_here", "_law_value"] os)).bind retOf
def ev__law_same (mS : List OD → Option OD) (n : Nat) : EvS :=
  (sSeq (sIf (tBl (eOp opNe (es2 (eOp (opIsi "list") (es1 (eVar 0))) (eOp (opIsi "list") (es1 (eVar 1)))))) (sRet (eC (.bool false))) sNext) (sSeq (sIf (tBl (eOp opNe (es2 (eOp (opIsi "tuple") (es1 (eVar 0))) (eOp (opIsi "tuple") (es1 (eVar 1)))))) (sRet (eC (.bool false))) sNext) (sSeq (sIf (tBl (eOp opNe (es2 (eOp (opIsi "bool") (es1 (eVar 0))) (eOp (opIsi "bool") (es1 (eVar 1)))))) (sRet (eC (.bool false))) sNext) (sSeq (sIf (tOrD (tTru (eOp (opIsi "list") (es1 (eVar 1)))) (tTru (eOp (opIsi "tuple") (es1 (eVar 1))))) (sRet (eAnd (eOp opEq (es2 (eOp opLen (esCons (eVar 0) esNil)) (eOp opLen (esCons (eVar 1) esNil)))) (eOp (opAll fun bs => bs.all id) (esCons (eLc [2, 3] (iZp (esCons (eVar 0) (esCons (eVar 1) esNil))) (gv2 2 3) cYes (eFn0 mS 2 [0, 1] (esCons (eVar 2) (esCons (eVar 3) esNil)))) esNil)))) sNext) (sRet (eOp opEq (es2 (eVar 0) (eVar 1))))))))
def mrR__law_same : Nat → List OD → Option OD
  | 0, _ => none
  | d + 1, os => (ev__law_same (mrR__law_same d) fuel (startE ["_law_one_here", "_law_two", "_law_a", "_law_b"] os)).bind retOf
abbrev mr__law_same : List OD → Option OD := mrR__law_same 40
def ev__law_copy (mS : List OD → Option OD) (n : Nat) : EvS :=
  (sSeq (sIf (tTru (eOp (opIsi "list") (es1 (eVar 0)))) (sRet (eLc [1] (iSq (eVar 0)) (gvName [] 1) cYes (eFn0 mS 1 [0] (esCons (eVar 1) esNil)))) sNext) (sSeq (sIf (tTru (eOp (opIsi "tuple") (es1 (eVar 0)))) (sRet (eOp opTup (esCons (eLc [1] (iSq (eVar 0)) (gvName [] 1) cYes (eFn0 mS 1 [0] (esCons (eVar 1) esNil))) esNil))) sNext) (sRet (eVar 0))))
def mrR__law_copy : Nat → List OD → Option OD
  | 0, _ => none
  | d + 1, os => (ev__law_copy (mrR__law_copy d) fuel (startE ["_law_value", "_law_one_here"] os)).bind retOf
abbrev mr__law_copy : List OD → Option OD := mrR__law_copy 40
def ev__law_bent (mS : OD → List OD → Option (OD × OD)) (n : Nat) : EvS :=
  (sSeq (sAsg [0] 3 (eIf (tOrD (tTru (eOp (opIsi "list") (es1 (eVar 1)))) (tTru (eOp (opIsi "tuple") (es1 (eVar 1))))) (eOp opLen (esCons (eVar 1) esNil)) (eC (.int 0)))) (sSeq (sIf (tAndD (tBl (eOp opGt (es2 (eVar 3) (eC (.int 0))))) (tAndD (tBl (eOp opGt (es2 (eVar 2) (eC (.int 0))))) (tBl (eOp opGt (es2 (eFnP mr__law_draw 2 [0] (esCons (eVar 0) (esCons (eC (.int 6)) esNil))) (eC (.int 0))))))) (sSeq (sAsg [0] 4 (eFnP mr__law_draw 2 [0] (esCons (eVar 0) (esCons (eVar 3) esNil)))) (sSeq (sAsg [0] 5 (eOp opList (esCons (eVar 1) esNil))) (sSeq (sAsgG (gvSub 5 (eVar 4)) (eFnP mS 3 [0, 1] (esCons (eVar 0) (esCons (eOp opIx (es2 (eVar 1) (eVar 4))) (esCons (eOp opSub (es2 (eVar 2) (eC (.int 1)))) esNil))))) (sRet (eIf (tTru (eOp (opIsi "tuple") (es1 (eVar 1)))) (eOp opTup (esCons (eVar 5) esNil)) (eVar 5)))))) sNext) (sSeq (sIf (tTru (eOp (opIsi "list") (es1 (eVar 1)))) (sSeq (sAsg [0] 6 (eLst (esCons (eOp opTup (esCons (eVar 1) esNil)) (esCons (eOp (opOr opAdd opCatT) (es2 (eVar 1) (eSl (eVar 1) oNone (oSome (eC (.int 1)))))) (esCons (eSl (eVar 1) oNone (oSome (eOp opNeg (es1 (eC (.int 1)))))) (esCons (eC .none) (esCons (eOp opRvs (es1 (eVar 1))) (esCons (eLst esNil) esNil)))))))) (sRet (eFnP mr__law_pick 2 [0] (esCons (eVar 0) (esCons (eVar 6) esNil))))) sNext) (sSeq (sIf (tTru (eOp (opIsi "tuple") (es1 (eVar 1)))) (sSeq (sAsg [0] 6 (eLst (esCons (eOp opList (esCons (eVar 1) esNil)) (esCons (eOp (opOr opAdd opCatT) (es2 (eVar 1) (eSl (eVar 1) oNone (oSome (eC (.int 1)))))) (esCons (eSl (eVar 1) oNone (oSome (eOp opNeg (es1 (eC (.int 1)))))) (esCons (eC .none) (esCons (eOp opRvs (es1 (eVar 1))) (esCons (eTup esNil) esNil)))))))) (sRet (eFnP mr__law_pick 2 [0] (esCons (eVar 0) (esCons (eVar 6) esNil))))) sNext) (sSeq (sIf (tTru (eOp (opIsi "int") (es1 (eVar 1)))) (sRet (eFnP mr__law_pick 2 [0] (esCons (eVar 0) (esCons (eLst (esCons (eOp (opOr opAdd opCatT) (es2 (eVar 1) (eC (.int 1)))) (esCons (eOp opSub (es2 (eVar 1) (eC (.int 1)))) (esCons (eOp opNeg (es1 (eVar 1))) (esCons (eOp opEq (es2 (eVar 1) (eC (.int 1)))) (esCons (eC .none) (esCons (eOp opMul (es2 (eC (.int 2)) (eVar 1))) (esCons (eC (.str "1")) esNil)))))))) esNil)))) sNext) (sSeq (sIf (tTru (eOp (opIsi "str") (es1 (eVar 1)))) (sRet (eFnP mr__law_pick 2 [0] (esCons (eVar 0) (esCons (eLst (esCons (eC (.str "clash")) (esCons (eOp (opOr opAdd opCatT) (es2 (eVar 1) (eC (.str "x")))) (esCons (eC (.str "")) (esCons (eSl (eVar 1) oNone (oSome (eOp opNeg (es1 (eC (.int 1)))))) (esCons (eC .none) (esCons (eC (.str "Zed")) esNil))))))) esNil)))) sNext) (sRet (eFnP mr__law_pick 2 [0] (esCons (eVar 0) (esCons (eLst (esCons (eC (.int 0)) (esCons (eLst esNil) (esCons (eTup esNil) (esCons (eC (.str "")) (esCons (eC (.bool true)) esNil)))))) esNil))))))))))
def mrR__law_bent : Nat → OD → List OD → Option (OD × OD)
  | 0, _, _ => none
  | d + 1, o, os => (ev__law_bent (mrR__law_bent d) fuel (startE ["_law_pot_here", "_law_value", "_law_deep", "_law_many", "_law_at", "_law_new", "_law_some"] (o :: os))).bind retP
abbrev mr__law_bent : OD → List OD → Option (OD × OD) := mrR__law_bent 40
def cl__law_values_1 : List PyData := [(.int 0), (.int 1), (.int 3), (.int 4), (.int 5)]
def ev__law_values (n : Nat) : EvS :=
  (sSeq (sAsg [0] 2 (eLc [8] (iR1 (esCons (eC (.int 9)) esNil)) (gvName [] 8) cYes (eFnP mr__law_linear 2 [0] (esCons (eVar 0) (esCons (eVar 1) esNil))))) (sSeq (sAsg [0] 3 (eSl (eVar 2) oNone (oSome (eFnP mr__law_pick 2 [0] (esCons (eVar 0) (esCons (eLst (esCons (eC (.int 0)) (esCons (eC (.int 1)) (esCons (eC (.int 2)) (esCons (eC (.int 4)) (esCons (eC (.int 8)) (esCons (eC (.int 9)) (esCons (eFnP mr__law_draw 2 [0] (esCons (eVar 0) (esCons (eC (.int 10)) esNil))) esNil)))))))) esNil)))))) (sSeq (sAsg [0] 4 (eSl (eVar 2) (oSome (eOp opSub (es2 (eC (.int 9)) (eFnP mr__law_pick 2 [0] (esCons (eVar 0) (esCons (eLst (escs cl__law_values_1)) esNil)))))) oNone)) (sSeq (sAsg [0] 5 (eTup (esCons (eFnP mr__law_pick 2 [0] (esCons (eVar 0) (esCons (eLst (esCons (eC (.str "all")) (esCons (eC (.str "any")) esNil))) esNil))) (esCons (eVar 3) esNil)))) (sSeq (sAsg [0] 6 (eLst (esCons (eVar 5) (esCons (eVar 4) (esCons (eOp opTup (esCons (eVar 4) esNil)) (esCons (eOp opIx (es2 (eVar 2) (eC (.int 0)))) (esCons (eOp opIx (es2 (eOp opIx (es2 (eVar 2) (eC (.int 0)))) (eC (.int 0)))) (esCons (eTup (esCons (eC (.str "all")) (esCons (eVar 4) esNil))) (esCons (eOp opIx (es2 (eOp opIx (es2 (eVar 2) (eC (.int 1)))) (eC (.int 0)))) esNil))))))))) (sSeq (sAsg [0] 7 (eLc [9] (iSq (eOp (opOr opAdd opCatT) (es2 (eVar 6) (eVar 6)))) (gvName [] 9) cYes (eFnP mr__law_bent 3 [0, 1] (esCons (eVar 0) (esCons (eVar 9) (esCons (eC (.int 8)) esNil)))))) (sRet (eOp (opOr opAdd opCatT) (es2 (eOp (opOr opAdd opCatT) (es2 (eVar 6) (eVar 7))) (eLst (esCons (eC .none) (esCons (eC (.bool true)) (esCons (eC (.int 0)) (esCons (eC (.str "any")) (esCons (eLst esNil) (esCons (eTup esNil) (esCons (eTup (esCons (eLst esNil) (esCons (eC (.int 0)) esNil))) (esCons (eTup (esCons (eLst esNil) (esCons (eC (.bool true)) esNil))) (esCons (eTup (esCons (eC (.str "any")) (esCons (eLst esNil) esNil))) (esCons (eLst (esCons (eTup esNil) esNil)) esNil))))))))))))))))))))
def mr__law_values (o : OD) (os : List OD) : Option (OD × OD) := (ev__law_values fuel (startE ["_law_pot_here", "_law_world_here", "_law_linears", "_law_some", "_law_few", "_law_saying", "_law_right", "_law_bent_here", "_law_x", "_law_value"] (o :: os))).bind retP
def ev_law (n : Nat) : EvS :=
  (sSeq (sFor (iR1 (esCons (eC (.int 3)) esNil)) (gvName [] 1) (sSeq (sAsg [] 2 (eFn0 mr__law_pot 2 [0, 1] (esCons (eVar 0) (esCons (eOp opMul (es2 (eC (.int 3)) (eVar 1))) esNil)))) (sSeq (sAsg [] 3 (eFnP mr__law_world 2 [0] (esCons (eVar 2) (esCons (eLst (esCons (eTup (esCons (eC (.int 1)) (esCons (eC (.int 1)) esNil))) (esCons (eTup (esCons (eC (.int 1)) (esCons (eC (.int 2)) esNil))) (esCons (eTup (esCons (eC (.int 2)) (esCons (eC (.int 2)) esNil))) (esCons (eTup (esCons (eC (.int 1)) (esCons (eC (.int 8)) esNil))) (esCons (eTup (esCons (eC (.int 2)) (esCons (eC (.int 8)) esNil))) (esCons (eTup (esCons (eC (.int 2)) (esCons (eC (.int 3)) esNil))) (esCons (eTup (esCons (eC (.int 1)) (esCons (eC (.int 5)) esNil))) esNil)))))))) esNil)))) (sSeq (sAsg [] 4 (eFn0 mr__law_copy 1 [0] (esCons (eVar 3) esNil))) (sSeq (sFor (iSq (eFnT mr__law_values 2 [0] (esCons (eFn0 mr__law_pot 2 [0, 1] (esCons (eVar 0) (esCons (eOp (opOr opAdd opCatT) (es2 (eOp opMul (es2 (eC (.int 3)) (eVar 1))) (eC (.int 1)))) esNil))) (esCons (eVar 3) esNil)))) (gvName [] 5) (sSeq (sAsg [] 6 (eFn0 mr__law_copy 1 [0] (esCons (eVar 5) esNil))) (sIf (tOrD (tNotD (tTru (eFn0 mr__law_judged 2 [0, 1] (esCons (eVar 3) (esCons (eVar 5) esNil))))) (tNotD (tTru (eFn0 mr__law_same 2 [0, 1] (esCons (eVar 5) (esCons (eVar 6) esNil)))))) (sRet (eC (.bool false))) sNext))) (sIf (tNotD (tTru (eFn0 mr__law_same 2 [0, 1] (esCons (eVar 3) (esCons (eVar 4) esNil))))) (sRet (eC (.bool false))) sNext)))))) (sRet (eC (.bool true))))
def mr_law (os : List OD) : Option OD := (ev_law fuel (startE ["_law_script", "_law_k", "_law_pot_here", "_law_world_here", "_law_shown", "_law_value", "_law_kept"] os)).bind retOf
end
end K55
set_option exponentiation.threshold 5000
namespace K55
open PySem PySem.Spec PyProof.Rows L2 DX
-- DXSIMP begin
local macro_rules | `(tactic| walk_at "dx") => `(tactic| simp only [b_escs, b_fnT, k_tmHd, k_lstO, k_chk, b_eLcV, b_chkV, beq_self_eq_true, beq_tf, beq_ft, o_or, o_addT, c_int, c_str, c_lst, o_catT, b_catT, o_slT, b_slT, o_rvsL, o_rvsT, k_tmL, b_eRepD, b_eIsi2, j_N, j_B, j_I, j_S, j_L, j_T, k_zpL, k_zpT, b_iZp, b_eAg, z_agStep, o_eqB, o_neB, o_eqN, o_tupL, o_tupT, Option.some_or, Option.none_or, Option.or_none, b_rdTms, b_hardTms, b_softTms, b_esCons, b_opV, b_opL, b_opT, b_eOp, b_rdNil, b_rdCons, b_rdT, b_rdA, b_erS, b_erL, b_eVar, b_eC, b_esNil, b_tTru, b_tBl, b_tAnd, b_tOr, b_tNot, b_eAnd, b_eOr, b_eNot, b_eIf, b_eTup, b_eLst, b_eTupO, b_iR2, k_ints2, b_sExpr, b_eLstO, b_xRaiseF, b_iRev, k_sqdL, k_sqdT, o_listL, o_listT, b_eOpL, k_scOS, b_mvNil, b_mvCons, b_sAppTp, b_erTp, g_hardTp, g_softTp, g_giveTp, k_tpl, k_shTp, b_oSome, b_oNone, b_eSl, b_eMt, b_fn0, b_fnP, b_sRet, b_sAsg, b_gvName, b_gvNil, b_gvCons, b_gvTup, b_gvSub, b_sAsgG, b_sApp, b_sPar, b_sPar3, b_sAppIx, b_sAugI, b_cvsNil, b_cvsCons, b_bindCond, b_condFst, b_condSnd, b_giveT, b_sFor, b_iSq, b_iR1, b_iEnA, wipeE, cYes, at_zero, k_bool, k_int, k_str, k_tup, k_lst, k_list, k_itL, k_itT, k_itSS, k_trN, k_trB, k_trI, k_trSS, k_trL, k_trT, k_scN, k_scB, k_scI, k_scS, k_scL, k_scT, k_shS, k_shL, k_softT, k_hardT, k_cvT, k_softNil, k_softCons, k_hardNil, k_hardCons, g_hard, g_soft, g_cv, g_give, g_hardS, g_hardL, g_softS, g_softL, g_cvS, g_giveS, g_giveL, g_allSh, g_erSh, List.all_cons, List.all_nil, k_retR, k_retN, k_alA, k_hd, k_two, k_three, k_sh, k_odT, k_enS, k_enL, o_addI, o_addS, o_addL, o_sub, o_neg, o_ltI, o_leI, o_gtI, o_geI, o_lenS, o_lenL, o_lenT, o_abs, o_max, o_int, o_ixL, o_ixT, o_ixSS, o_slS, o_slL, o_in1S, o_ni1S, o_eqS, o_neS, o_eqI, o_neI, o_mul, o_div, o_mod, o_pow, o_divmod, z_ble0, z_ble1, z_ble2, z_ble3, z_ble4, z_ble5, z_ble6, z_ble7, z_ble8, z_ble9, z_ble10, z_ble13, z_ble17, S_l, S_len, S_app, es1, es2, startE, sNext, pk, DX.inR, Nat.beq, Nat.ble, List.any_cons, List.any_nil, List.filterMap_cons, List.filterMap_nil, Option.bind_some, Option.bind_none, cond_true, cond_false, decide_true, decide_false, List.map_cons, List.map_nil, List.length_cons, List.length_nil, List.length_map, List.length_set, List.getElem?_cons_zero, List.getElem?_cons_succ, List.cons_append, List.nil_append, List.set_cons_zero, List.set_cons_succ, List.replicate, Nat.reduceAdd, Nat.reduceSub, Nat.zero_add, Int.toNat_natCast, Bool.not_true, Bool.not_false, Bool.or_self, Bool.or_false, Bool.false_or, Bool.and_self, Bool.and_true, Bool.true_and, Bool.and_false, Bool.false_and, Bool.true_or, Bool.or_true, z_some, z_none, z_bind, z_then, z_map, z_mapK, b_eLc, lcStep, forStep, at_0, at_1, at_2, at_3, at_4, at_5, at_m1, ix_0, ix_1, ix_m1, blt_00, blt_0s, blt_12, blt_02, z_ifK, z_guard, z_guardN, z_seqN, z_seqR, z_seqB, z_seqC, z_sSeq, z_sIf, z_forN, z_forC, z_forB, z_forR, r_P1, r_P2, k_condSomeP, k_condNx, k_condEn, k_condSl, k_condPair, k_condTm, k_condSh, k_condI, k_condB, k_condAnd, k_condOr, k_condNot, o_gcd, k_condAndL, k_condOrL, b_jNil, b_jCons, b_eJoin, t_str, str_len, str_empty, Int.cast_ofNat_Int, Int.reduceEq, Int.reduceLT, Int.reduceLE, Int.reduceNeg, Int.reduceAdd, Int.reduceSub, Int.reduceMul, Int.reduceToNat, Int.reducePow, Nat.reduceLT, Nat.reduceLeDiff, Nat.reduceEqDiff, Nat.reduceMul, k_condSelf, x_no, x_raise, x_seqNo, b_xIf, x_inr, x_inl, b_xFn, o_neSelf, o_eqSelf, i_boolN, i_boolB, i_boolI, i_boolS, i_boolL, i_boolT, i_intN, i_intB, i_intI, i_intS, i_intL, i_intT, i_strN, i_strB, i_strI, i_strS, i_strL, i_strT, i_listN, i_listB, i_listI, i_listS, i_listL, i_listT, i_tupleN, i_tupleB, i_tupleI, i_tupleS, i_tupleL, i_tupleT, at_nat, decide_eq_true_eq, decide_eq_false_iff_not, Nat.ble_eq, and_true, true_and, Option.map_some, Option.isSome_some])
local macro_rules | `(tactic| walk_at "dxs") => `(tactic| simp only [b_escs, b_fnT, k_tmHd, k_lstO, k_chk, b_eLcV, b_chkV, beq_self_eq_true, beq_tf, beq_ft, o_or, o_addT, c_int, c_str, c_lst, o_catT, b_catT, o_slT, b_slT, o_rvsL, o_rvsT, k_tmL, b_eRepD, b_eIsi2, j_N, j_B, j_I, j_S, j_L, j_T, k_zpL, k_zpT, b_iZp, b_eAg, z_agStep, o_eqB, o_neB, o_eqN, o_tupL, o_tupT, Option.some_or, Option.none_or, Option.or_none, b_rdTms, b_hardTms, b_softTms, b_esCons, b_opV, b_opL, b_opT, b_eOp, b_rdNil, b_rdCons, b_rdT, b_rdA, b_erS, b_erL, b_eVar, b_eC, b_esNil, b_tTru, b_tBl, b_tAnd, b_tOr, b_tNot, b_eAnd, b_eOr, b_eNot, b_eIf, b_eTup, b_eLst, b_eTupO, b_iR2, k_ints2, b_sExpr, b_eLstO, b_xRaiseF, b_iRev, k_sqdL, k_sqdT, o_listL, o_listT, b_eOpL, k_scOS, b_mvNil, b_mvCons, b_sAppTp, b_erTp, g_hardTp, g_softTp, g_giveTp, k_tpl, k_shTp, b_oSome, b_oNone, b_eSl, b_eMt, b_fn0, b_fnP, b_sRet, b_sAsg, b_gvName, b_gvNil, b_gvCons, b_gvTup, b_gvSub, b_sAsgG, b_sApp, b_sPar, b_sPar3, b_sAppIx, b_sAugI, b_cvsNil, b_cvsCons, b_bindCond, b_condFst, b_condSnd, b_giveT, b_sFor, b_iSq, b_iR1, b_iEnA, wipeE, cYes, at_zero, k_bool, k_int, k_str, k_tup, k_lst, k_list, k_itL, k_itT, k_itSS, k_trN, k_trB, k_trI, k_trSS, k_trL, k_trT, k_scN, k_scB, k_scI, k_scS, k_scL, k_scT, k_shS, k_shL, k_softT, k_hardT, k_cvT, k_softNil, k_softCons, k_hardNil, k_hardCons, g_hard, g_soft, g_cv, g_give, g_hardS, g_hardL, g_softS, g_softL, g_cvS, g_giveS, g_giveL, g_allSh, g_erSh, List.all_cons, List.all_nil, k_retR, k_retN, k_alA, k_hd, k_two, k_three, k_sh, k_odT, k_enS, k_enL, o_addI, o_addS, o_addL, o_sub, o_neg, o_ltI, o_leI, o_gtI, o_geI, o_lenS, o_lenL, o_lenT, o_abs, o_max, o_int, o_ixL, o_ixT, o_ixSS, o_slS, o_slL, o_in1S, o_ni1S, o_eqS, o_neS, o_eqI, o_neI, o_mul, o_div, o_mod, o_pow, o_divmod, z_ble0, z_ble1, z_ble2, z_ble3, z_ble4, z_ble5, z_ble6, z_ble7, z_ble8, z_ble9, z_ble10, z_ble13, z_ble17, S_l, S_len, S_app, es1, es2, startE, sNext, pk, DX.inR, Nat.beq, Nat.ble, List.any_cons, List.any_nil, List.filterMap_cons, List.filterMap_nil, Option.bind_some, Option.bind_none, cond_true, cond_false, decide_true, decide_false, List.map_cons, List.map_nil, List.length_cons, List.length_nil, List.length_map, List.length_set, List.getElem?_cons_zero, List.getElem?_cons_succ, List.cons_append, List.nil_append, List.set_cons_zero, List.set_cons_succ, List.replicate, Nat.reduceAdd, Nat.reduceSub, Nat.zero_add, Int.toNat_natCast, Bool.not_true, Bool.not_false, Bool.or_self, Bool.or_false, Bool.false_or, Bool.and_self, Bool.and_true, Bool.true_and, Bool.and_false, Bool.false_and, Bool.true_or, Bool.or_true, z_some, z_none, z_bind, z_then, z_map, z_mapK, b_eLc, lcStep, forStep, at_0, at_1, at_2, at_3, at_4, at_5, at_m1, ix_0, ix_1, ix_m1, blt_00, blt_0s, blt_12, blt_02, z_ifK, z_guard, z_guardN, z_seqN, z_seqR, z_seqB, z_seqC, z_sSeq, z_sIf, z_forN, z_forC, z_forB, z_forR, r_P1, r_P2, k_condSomeP, k_condNx, k_condEn, k_condSl, k_condPair, k_condTm, k_condSh, k_condI, k_condB, k_condAnd, k_condOr, k_condNot, o_gcd, k_condAndL, k_condOrL, b_jNil, b_jCons, b_eJoin, t_str, str_len, str_empty, Int.cast_ofNat_Int, Int.reduceEq, Int.reduceLT, Int.reduceLE, Int.reduceNeg, Int.reduceAdd, Int.reduceSub, Int.reduceMul, Int.reduceToNat, Int.reducePow, Nat.reduceLT, Nat.reduceLeDiff, Nat.reduceEqDiff, Nat.reduceMul, k_condSelf, x_no, x_raise, x_seqNo, b_xIf, x_inr, x_inl, b_xFn, o_neSelf, o_eqSelf, i_boolN, i_boolB, i_boolI, i_boolS, i_boolL, i_boolT, i_intN, i_intB, i_intI, i_intS, i_intL, i_intT, i_strN, i_strB, i_strI, i_strS, i_strL, i_strT, i_listN, i_listB, i_listI, i_listS, i_listL, i_listT, i_tupleN, i_tupleB, i_tupleI, i_tupleS, i_tupleL, i_tupleT, at_nat, decide_eq_true_eq, decide_eq_false_iff_not, Nat.ble_eq, and_true, true_and, Option.map_some, Option.isSome_some, *])
-- DXSIMP end
theorem Sat.lcL {own : List Nat} {tv : EvG} {c : EvT} {ev : EvE} {K : List OD × En → Prop} {os : En} {xs : List PyData} (f : PyData → OD) (hn : xs.length ≤ sizeLine) (h : ∀ x ∈ xs, Sat (lcStep own tv c ev x os) (fun r => r = (some (f x), os))) (hK : K (xs.map f, os)) :
    Sat (lcF own tv c ev xs os []) K := by
  have e : xs = xs.map id := (List.map_id xs).symm
  rw [e]
  exact Sat.lcM f hn h hK
theorem Sat.agL {sa : Bool} {own : List Nat} {tv : EvG} {c : EvT} {ev : EvE} {os : En} {K : Bool × En → Prop} {xs : List PyData} (f : PyData → Bool) (h : ∀ x ∈ xs, Sat (agStep own tv c ev x os) (fun r => r = (some (f x), os))) (hK : K (cond sa (xs.any f) (xs.all f), os)) : Sat (agF sa own tv c ev xs os) K := by
  have e : xs = xs.map id := (List.map_id xs).symm
  rw [e]
  exact Sat.agM f h hK
inductive Gd (n : Nat) : Nat → PyData → Prop
  | non {h} : Gd n h .none
  | bool {h c} : Gd n h (.bool c)
  | int {h i} (a : i.natAbs ≤ n) : Gd n h (.int i)
  | str {h x} (a : PyData.strOk x = true) (b : x.length ≤ n) : Gd n h (.str x)
  | list {h ds} (a : ds.length ≤ n) (b : ∀ d ∈ ds, Gd n h d) : Gd n (h + 1) (.list ds)
  | tuple {h ds} (a : ds.length ≤ n) (b : ∀ d ∈ ds, Gd n h d) : Gd n (h + 1) (.tuple ds)
theorem Gd.mono {n m : Nat} (hm : n ≤ m) : ∀ {h k : Nat} {d : PyData}, h ≤ k → Gd n h d → Gd m k d := by
  intro h k d hk g
  induction g generalizing k with
  | non => exact .non
  | bool => exact .bool
  | int a => exact .int (Nat.le_trans a hm)
  | str a b => exact .str a (Nat.le_trans b hm)
  | list a b ih =>
    cases k with
    | zero => omega
    | succ k => exact .list (Nat.le_trans a hm) fun d q => ih d q (by omega)
  | tuple a b ih =>
    cases k with
    | zero => omega
    | succ k => exact .tuple (Nat.le_trans a hm) fun d q => ih d q (by omega)
theorem Gd.lay {n h : Nat} {d : PyData} (g : Gd n h d) : d.canLay0 = true ∧ d.depth ≤ h + 1 := by
  have dl : ∀ (k : Nat) (ds : List PyData), (∀ d ∈ ds, d.canLay0 = true ∧ d.depth ≤ k) → PyData.canLayAll0 ds = true ∧ PyData.depthAll ds ≤ k := by
    intro k ds
    induction ds with
    | nil => intro _; rw [PyData.canLayAll0, PyData.depthAll]; exact ⟨rfl, Nat.zero_le _⟩
    | cons d ds ih =>
      intro H
      obtain ⟨a1, a2⟩ := H d (List.mem_cons_self ..)
      obtain ⟨b1, b2⟩ := ih fun d q => H d (List.mem_cons_of_mem _ q)
      rw [PyData.canLayAll0, PyData.depthAll, a1, b1]
      exact ⟨rfl, Nat.max_le.mpr ⟨a2, b2⟩⟩
  induction g with
  | non => exact ⟨rfl, by rw [PyData.depth]; omega⟩
  | bool => exact ⟨rfl, by rw [PyData.depth]; omega⟩
  | int a => exact ⟨rfl, by rw [PyData.depth]; omega⟩
  | str a b => exact ⟨by rw [PyData.canLay0]; exact a, by rw [PyData.depth]; omega⟩
  | list a b ih =>
    obtain ⟨p, q⟩ := dl _ _ ih
    rw [PyData.canLay0, PyData.depth]
    exact ⟨p, by omega⟩
  | tuple a b ih =>
    obtain ⟨p, q⟩ := dl _ _ ih
    rw [PyData.canLay0, PyData.depth]
    exact ⟨p, by omega⟩
theorem Gd.shaped {n h : Nat} {d : PyData} (g : Gd n h d) (hh : h ≤ 60) : SeqAt.shaped d = true := by
  obtain ⟨a, b⟩ := g.lay
  unfold SeqAt.shaped
  rw [a, Bool.true_and]
  exact decide_eq_true (by omega)
/-! ### what the judges tell -/
def isInt : PyData → Bool
  | .int _ => true
  | _ => false
def nz : PyData → Bool
  | .int i => !decide (i = 0)
  | _ => true
def numsB (m : Int) : PyData → Bool
  | .tuple ds => decide ((ds.length : Int) = m) && (ds.all isInt && ds.any nz)
  | _ => false
theorem numsB_t {m : Int} {ds : List PyData} : numsB m (.tuple ds) = (decide ((ds.length : Int) = m) && (ds.all isInt && ds.any nz)) := rfl
def termsF (m mo : Int) : Int → List PyData → Bool
  | _, [] => true
  | last, .tuple [.int t, v] :: r => !decide (t ≤ last) && (!decide (mo ≤ t) && (numsB m v && termsF m mo t r))
  | _, _ :: _ => false
def termsB (m mo : Int) : PyData → Bool
  | .list ds => termsF m mo (-1) ds
  | _ => false
def linB (m mo : Int) : PyData → Bool
  | .tuple [v, d] => termsB m mo v && isInt d
  | _ => false
def linsB (m mo : Int) (most : Int) (ds : List PyData) : Bool := !decide (most < (ds.length : Int)) && ds.all (linB m mo)
def sayB (m mo : Int) : PyData → Bool
  | .tuple [.str x, .list ds] => (x == "all" || x == "any") && linsB m mo 8 ds
  | _ => false
def supB (m mo : Int) : PyData → Bool
  | .list ds => linsB m mo 4 ds
  | .tuple ds => linsB m mo 4 ds
  | _ => false
variable {n h : Nat}
theorem size_of {n k : Nat} (hk : k ≤ n) (hn : n ≤ 1000000) : k ≤ sizeLine := Nat.le_trans (Nat.le_trans hk hn) (by decide +kernel)
theorem e_is_integer {d : PyData} (g : Gd n h d) : mr_is_integer [.sh d] = some (.sh (.bool (isInt d))) := by
  refine eq_of_sat ?_
  unfold mr_is_integer ev_is_integer
  cases g <;> walk_at "dx" <;> rfl
theorem e_whole {d : PyData} (g : Gd n h d) : mr__law_whole [.sh d] = some (.sh (.bool (isInt d))) := by
  refine eq_of_sat ?_
  unfold mr__law_whole ev__law_whole
  cases g <;> walk_at "dx" <;> rfl
theorem e_is {c c' : Bool} : mr__law_is [.sh (.bool c), .sh (.bool c')] = some (.sh (.bool (c == c'))) := by
  refine eq_of_sat ?_
  unfold mr__law_is ev__law_is
  walk_at "dx"
theorem all_int {ds : List PyData} (h : ds.all isInt = true) : ∀ d ∈ ds, ∃ i, d = .int i := fun d q => by
  have := List.all_eq_true.mp h d q
  cases d with
  | int i => exact ⟨i, rfl⟩
  | _ => cases this
theorem e_stand {m : Int} {ws : List PyData} {d : PyData} (g : Gd n h d) : mr_is_stand_numbers [.sh (.tuple (.int m :: ws)), .sh d] = some (.sh (.bool (numsB m d))) := by
  refine eq_of_sat ?_
  unfold mr_is_stand_numbers ev_is_stand_numbers
  cases g with
  | tuple a b =>
    rename_i ds
    rw [numsB_t]
    by_cases hl : (ds.length : Int) = m
    · rw [decide_eq_true hl]
      walk_at "dx"
      rw [decide_eq_true hl]
      walk_at "dx"
      refine Sat.agL isInt (fun d q => ?_) ?_
      · rw [z_agStep]
        walk_at "dx"
        rw [e_is_integer (b d q)]
        walk_at "dx"
      · walk_at "dx"
        refine Sat.split (fun h => ?_) fun h => ?_
        · walk_at "dx"
          rw [h]
          refine Sat.agL nz (fun d q => ?_) ?_
          · rw [z_agStep]
            obtain ⟨i, rfl⟩ := all_int h d q
            walk_at "dx"
            rfl
          · walk_at "dx"
        · walk_at "dx"
          rw [h]; rfl
    · rw [decide_eq_false hl]
      walk_at "dx"
      rw [decide_eq_false hl]
      walk_at "dx"
  | _ => walk_at "dx"; rfl
theorem e_law_numbers {m : Int} {d : PyData} (g : Gd n h d) (hn : n ≤ 1000000) : mr__law_is_numbers [.sh d, .sh (.int m)] = some (.sh (.bool (numsB m d))) := by
  refine eq_of_sat ?_
  unfold mr__law_is_numbers ev__law_is_numbers
  cases g with
  | tuple a b =>
    rename_i ds
    rw [numsB_t]
    by_cases hl : (ds.length : Int) = m
    · rw [decide_eq_true hl]
      walk_at "dx"
      rw [decide_eq_true hl]
      walk_at "dx"
      refine Sat.lcL (fun d => .sh (.bool (isInt d))) (size_of a hn) (fun d q => ?_) ?_
      · walk_at "dx"
        rw [e_whole (b d q)]
        walk_at "dx"
      · rw [z_then]
        walk_at "dx"
        rw [o_allM]
        walk_at "dx"
        refine Sat.split (fun h => ?_) fun h => ?_
        · replace h : ds.all isInt = true := by simpa using h
          walk_at "dx"
          rw [h]
          refine Sat.lcL (fun d => .sh (.bool (nz d))) (size_of a hn) (fun d q => ?_) ?_
          · obtain ⟨i, rfl⟩ := all_int h d q
            walk_at "dx"
            rfl
          · rw [z_then]
            walk_at "dx"
            rw [o_allM]
            walk_at "dx"
            simp
        · replace h : ds.all isInt = false := by simpa using h
          walk_at "dx"
          rw [h, Bool.false_and]
          simpa using h
    · rw [decide_eq_false hl]
      walk_at "dx"
      rw [decide_eq_false hl]
      walk_at "dx"
  | _ => walk_at "dx"; rfl
theorem two_of {ds : List PyData} (hl : (ds.length : Int) = 2) : ∃ a b, ds = [a, b] := by
  match ds, hl with
  | [a, b], _ => exact ⟨a, b, rfl⟩
  | [], h => simp at h
  | [_], h => simp at h
  | _ :: _ :: _ :: _, h => simp at h; omega
theorem termsF_not {m mo last : Int} {d : PyData} {ds : List PyData} (h : ∀ t v, d ≠ .tuple [.int t, v]) : termsF m mo last (d :: ds) = false := by
  unfold termsF
  split
  · rename_i e; cases e
  · rename_i e; cases e; exact absurd rfl (h _ _)
  · rfl
theorem termsF_t {m mo last t : Int} {v : PyData} {ds : List PyData} : termsF m mo last (.tuple [.int t, v] :: ds) = (!decide (t ≤ last) && (!decide (mo ≤ t) && (numsB m v && termsF m mo t ds))) := rfl
theorem kinds {d : PyData} (g : Gd n h d) : (∃ x v, d = .tuple [x, v] ∧ Gd n h x ∧ Gd n h v) ∨ (∃ ds : List PyData, d = .tuple ds ∧ ¬(ds.length : Int) = 2) ∨ (opIsi "tuple" [d] = some (.val (.bool false)) ∧ ∀ ds, d ≠ .tuple ds) := by
  cases g with
  | tuple a b =>
    rename_i h ds
    by_cases hl : (ds.length : Int) = 2
    · obtain ⟨x, v, rfl⟩ := two_of hl
      exact .inl ⟨x, v, rfl, (b x (List.mem_cons_self ..)).mono (Nat.le_refl _) (Nat.le_succ _), (b v (List.mem_cons_of_mem _ (List.mem_cons_self ..))).mono (Nat.le_refl _) (Nat.le_succ _)⟩
    · exact .inr (.inl ⟨ds, rfl, hl⟩)
  | non => exact .inr (.inr ⟨i_tupleN, fun _ e => by cases e⟩)
  | bool => exact .inr (.inr ⟨i_tupleB, fun _ e => by cases e⟩)
  | int => exact .inr (.inr ⟨i_tupleI, fun _ e => by cases e⟩)
  | str => exact .inr (.inr ⟨i_tupleS, fun _ e => by cases e⟩)
  | list => exact .inr (.inr ⟨i_tupleL, fun _ e => by cases e⟩)
theorem ints_or {d : PyData} : (∃ i, d = .int i) ∨ isInt d = false := by
  cases d with
  | int i => exact .inl ⟨i, rfl⟩
  | _ => exact .inr rfl
theorem e_is_terms {m mo : Int} {ws : List PyData} {d : PyData} (g : Gd n h d) : mr_is_terms [.sh (.tuple (.int m :: .int mo :: ws)), .sh d] = some (.sh (.bool (termsB m mo d))) := by
  refine eq_of_sat ?_
  unfold mr_is_terms ev_is_terms
  cases g with
  | list a b =>
    rename_i h ds
    walk_at "dx"
    rw [show termsB m mo (.list ds) = termsF m mo (-1) ds from rfl]
    refine Sat.for (fun es os => ∃ last z, os = [some (.sh (.tuple (.int m :: .int mo :: ws))), some (.sh (.list ds)), some (.sh (.int last)), z] ∧ (∀ d ∈ es, Gd n h d) ∧ termsF m mo last es = termsF m mo (-1) ds) ⟨_, _, rfl, b, rfl⟩ (fun d es os ⟨last, z, e1, e2, e3⟩ => ?_) fun os ⟨last, z, e1, e2, e3⟩ => ?_
    · subst e1
      rw [← e3]
      have bs : ∀ d ∈ es, Gd n h d := fun d q => e2 d (List.mem_cons_of_mem _ q)
      rcases kinds (e2 d (List.mem_cons_self ..)) with ⟨x, v, rfl, gx, gv⟩ | ⟨ts, rfl, hl⟩ | ⟨hk, hd⟩
      · rcases @ints_or x with ⟨i, rfl⟩ | hi
        · rw [termsF_t]
          walk_at "dx"
          rw [e_is_integer gx, show isInt (.int i) = true from rfl]
          walk_at "dx"
          refine Sat.split (fun h1 => ?_) fun h1 => ?_
          · rw [h1]; walk_at "dx"
          · rw [h1]
            refine Sat.split (fun h2 => ?_) fun h2 => ?_
            · rw [h2]; walk_at "dx"
            · rw [h2, e_stand gv]
              walk_at "dx"
              refine Sat.split (fun h3 => ?_) fun h3 => ?_
              · rw [show numsB m v = false by simpa using h3]; walk_at "dx"
              · rw [show numsB m v = true by simpa using h3]; walk_at "dx"
                exact ⟨i, _, rfl, bs, rfl⟩
        · rw [termsF_not (fun t v e => by cases e; cases hi)]
          walk_at "dx"
          rw [e_is_integer gx, hi]
          walk_at "dx"
      · rw [termsF_not (fun t v e => by cases e; exact hl rfl)]
        walk_at "dx"
        rw [decide_eq_false hl]
        walk_at "dx"
      · rw [termsF_not (fun t v e => hd _ e)]
        walk_at "dx"
        rw [hk]
        walk_at "dx"
    · subst e1
      walk_at "dx"
      rw [← e3]; rfl
  | _ => walk_at "dx"; rfl
theorem e_law_terms {m mo : Int} {ws : List PyData} {d : PyData} (g : Gd n h d) (hn : n ≤ 1000000) : mr__law_is_terms [.sh (.tuple (.int m :: .int mo :: ws)), .sh d] = some (.sh (.bool (termsB m mo d))) := by
  refine eq_of_sat ?_
  unfold mr__law_is_terms ev__law_is_terms
  cases g with
  | list a b =>
    rename_i h ds
    walk_at "dx"
    rw [show termsB m mo (.list ds) = termsF m mo (-1) ds from rfl]
    refine Sat.for (fun es os => ∃ last z, os = [some (.sh (.tuple (.int m :: .int mo :: ws))), some (.sh (.list ds)), some (.sh (.int last)), z] ∧ (∀ d ∈ es, Gd n h d) ∧ termsF m mo last es = termsF m mo (-1) ds) ⟨_, _, rfl, b, rfl⟩ (fun d es os ⟨last, z, e1, e2, e3⟩ => ?_) fun os ⟨last, z, e1, e2, e3⟩ => ?_
    · subst e1
      rw [← e3]
      have bs : ∀ d ∈ es, Gd n h d := fun d q => e2 d (List.mem_cons_of_mem _ q)
      rcases kinds (e2 d (List.mem_cons_self ..)) with ⟨x, v, rfl, gx, gv⟩ | ⟨ts, rfl, hl⟩ | ⟨hk, hd⟩
      · rcases @ints_or x with ⟨i, rfl⟩ | hi
        · rw [termsF_t]
          walk_at "dx"
          rw [e_whole gx, show isInt (.int i) = true from rfl]
          walk_at "dx"
          refine Sat.split (fun h1 => ?_) fun h1 => ?_
          · rw [h1]; walk_at "dx"
          · rw [h1]
            refine Sat.split (fun h2 => ?_) fun h2 => ?_
            · rw [h2]; walk_at "dx"
            · rw [h2, e_law_numbers gv hn]
              walk_at "dx"
              refine Sat.split (fun h3 => ?_) fun h3 => ?_
              · rw [show numsB m v = false by simpa using h3]; walk_at "dx"
              · rw [show numsB m v = true by simpa using h3]; walk_at "dx"
                exact ⟨i, _, rfl, bs, rfl⟩
        · rw [termsF_not (fun t v e => by cases e; cases hi)]
          walk_at "dx"
          rw [e_whole gx, hi]
          walk_at "dx"
      · rw [termsF_not (fun t v e => by cases e; exact hl rfl)]
        walk_at "dx"
        rw [decide_eq_false hl]
        walk_at "dx"
      · rw [termsF_not (fun t v e => hd _ e)]
        walk_at "dx"
        rw [hk]
        walk_at "dx"
    · subst e1
      walk_at "dx"
      rw [← e3]; rfl
  | _ => walk_at "dx"; rfl
theorem linB_t {m mo : Int} {x v : PyData} : linB m mo (.tuple [x, v]) = (termsB m mo x && isInt v) := rfl
theorem linB_not {m mo : Int} {d : PyData} (h : ∀ x v, d ≠ .tuple [x, v]) : linB m mo d = false := by
  unfold linB
  split
  · exact absurd rfl (h _ _)
  · rfl
theorem e_is_linear {m mo : Int} {ws : List PyData} {d : PyData} (g : Gd n h d) : mr_is_linear [.sh (.tuple (.int m :: .int mo :: ws)), .sh d] = some (.sh (.bool (linB m mo d))) := by
  refine eq_of_sat ?_
  unfold mr_is_linear ev_is_linear
  rcases kinds g with ⟨x, v, rfl, gx, gv⟩ | ⟨ts, rfl, hl⟩ | ⟨hk, hd⟩
  · rw [linB_t]
    walk_at "dx"
    rw [e_is_terms gx]
    walk_at "dx"
    refine Sat.split (fun h1 => ?_) fun h1 => ?_
    · rw [e_is_integer gv, h1]
      walk_at "dx"
    · rw [h1]
      walk_at "dx"
  · rw [linB_not fun x v e => by cases e; exact hl rfl]
    walk_at "dx"
    rw [decide_eq_false hl]
    walk_at "dx"
  · rw [linB_not fun x v e => hd _ e]
    walk_at "dx"
    rw [hk]
    walk_at "dx"
theorem e_law_linear {m mo : Int} {ws : List PyData} {d : PyData} (g : Gd n h d) (hn : n ≤ 1000000) : mr__law_is_linear [.sh (.tuple (.int m :: .int mo :: ws)), .sh d] = some (.sh (.bool (linB m mo d))) := by
  refine eq_of_sat ?_
  unfold mr__law_is_linear ev__law_is_linear
  rcases kinds g with ⟨x, v, rfl, gx, gv⟩ | ⟨ts, rfl, hl⟩ | ⟨hk, hd⟩
  · rw [linB_t]
    walk_at "dx"
    rw [e_law_terms gx hn]
    walk_at "dx"
    refine Sat.split (fun h1 => ?_) fun h1 => ?_
    · rw [e_whole gv, h1]
      walk_at "dx"
    · rw [h1]
      walk_at "dx"
  · rw [linB_not fun x v e => by cases e; exact hl rfl]
    walk_at "dx"
    rw [decide_eq_false hl]
    walk_at "dx"
  · rw [linB_not fun x v e => hd _ e]
    walk_at "dx"
    rw [hk]
    walk_at "dx"
end K55
set_option exponentiation.threshold 5000
namespace K55
open PySem PySem.Spec PyProof.Rows L2 DX
-- DXSIMP begin
local macro_rules | `(tactic| walk_at "dx") => `(tactic| simp only [b_escs, b_fnT, k_tmHd, k_lstO, k_chk, b_eLcV, b_chkV, beq_self_eq_true, beq_tf, beq_ft, o_or, o_addT, c_int, c_str, c_lst, o_catT, b_catT, o_slT, b_slT, o_rvsL, o_rvsT, k_tmL, b_eRepD, b_eIsi2, j_N, j_B, j_I, j_S, j_L, j_T, k_zpL, k_zpT, b_iZp, b_eAg, z_agStep, o_eqB, o_neB, o_eqN, o_tupL, o_tupT, Option.some_or, Option.none_or, Option.or_none, b_rdTms, b_hardTms, b_softTms, b_esCons, b_opV, b_opL, b_opT, b_eOp, b_rdNil, b_rdCons, b_rdT, b_rdA, b_erS, b_erL, b_eVar, b_eC, b_esNil, b_tTru, b_tBl, b_tAnd, b_tOr, b_tNot, b_eAnd, b_eOr, b_eNot, b_eIf, b_eTup, b_eLst, b_eTupO, b_iR2, k_ints2, b_sExpr, b_eLstO, b_xRaiseF, b_iRev, k_sqdL, k_sqdT, o_listL, o_listT, b_eOpL, k_scOS, b_mvNil, b_mvCons, b_sAppTp, b_erTp, g_hardTp, g_softTp, g_giveTp, k_tpl, k_shTp, b_oSome, b_oNone, b_eSl, b_eMt, b_fn0, b_fnP, b_sRet, b_sAsg, b_gvName, b_gvNil, b_gvCons, b_gvTup, b_gvSub, b_sAsgG, b_sApp, b_sPar, b_sPar3, b_sAppIx, b_sAugI, b_cvsNil, b_cvsCons, b_bindCond, b_condFst, b_condSnd, b_giveT, b_sFor, b_iSq, b_iR1, b_iEnA, wipeE, cYes, at_zero, k_bool, k_int, k_str, k_tup, k_lst, k_list, k_itL, k_itT, k_itSS, k_trN, k_trB, k_trI, k_trSS, k_trL, k_trT, k_scN, k_scB, k_scI, k_scS, k_scL, k_scT, k_shS, k_shL, k_softT, k_hardT, k_cvT, k_softNil, k_softCons, k_hardNil, k_hardCons, g_hard, g_soft, g_cv, g_give, g_hardS, g_hardL, g_softS, g_softL, g_cvS, g_giveS, g_giveL, g_allSh, g_erSh, List.all_cons, List.all_nil, k_retR, k_retN, k_alA, k_hd, k_two, k_three, k_sh, k_odT, k_enS, k_enL, o_addI, o_addS, o_addL, o_sub, o_neg, o_ltI, o_leI, o_gtI, o_geI, o_lenS, o_lenL, o_lenT, o_abs, o_max, o_int, o_ixL, o_ixT, o_ixSS, o_slS, o_slL, o_in1S, o_ni1S, o_eqS, o_neS, o_eqI, o_neI, o_mul, o_div, o_mod, o_pow, o_divmod, z_ble0, z_ble1, z_ble2, z_ble3, z_ble4, z_ble5, z_ble6, z_ble7, z_ble8, z_ble9, z_ble10, z_ble13, z_ble17, S_l, S_len, S_app, es1, es2, startE, sNext, pk, DX.inR, Nat.beq, Nat.ble, List.any_cons, List.any_nil, List.filterMap_cons, List.filterMap_nil, Option.bind_some, Option.bind_none, cond_true, cond_false, decide_true, decide_false, List.map_cons, List.map_nil, List.length_cons, List.length_nil, List.length_map, List.length_set, List.getElem?_cons_zero, List.getElem?_cons_succ, List.cons_append, List.nil_append, List.set_cons_zero, List.set_cons_succ, List.replicate, Nat.reduceAdd, Nat.reduceSub, Nat.zero_add, Int.toNat_natCast, Bool.not_true, Bool.not_false, Bool.or_self, Bool.or_false, Bool.false_or, Bool.and_self, Bool.and_true, Bool.true_and, Bool.and_false, Bool.false_and, Bool.true_or, Bool.or_true, z_some, z_none, z_bind, z_then, z_map, z_mapK, b_eLc, lcStep, forStep, at_0, at_1, at_2, at_3, at_4, at_5, at_m1, ix_0, ix_1, ix_m1, blt_00, blt_0s, blt_12, blt_02, z_ifK, z_guard, z_guardN, z_seqN, z_seqR, z_seqB, z_seqC, z_sSeq, z_sIf, z_forN, z_forC, z_forB, z_forR, r_P1, r_P2, k_condSomeP, k_condNx, k_condEn, k_condSl, k_condPair, k_condTm, k_condSh, k_condI, k_condB, k_condAnd, k_condOr, k_condNot, o_gcd, k_condAndL, k_condOrL, b_jNil, b_jCons, b_eJoin, t_str, str_len, str_empty, Int.cast_ofNat_Int, Int.reduceEq, Int.reduceLT, Int.reduceLE, Int.reduceNeg, Int.reduceAdd, Int.reduceSub, Int.reduceMul, Int.reduceToNat, Int.reducePow, Nat.reduceLT, Nat.reduceLeDiff, Nat.reduceEqDiff, Nat.reduceMul, k_condSelf, x_no, x_raise, x_seqNo, b_xIf, x_inr, x_inl, b_xFn, o_neSelf, o_eqSelf, i_boolN, i_boolB, i_boolI, i_boolS, i_boolL, i_boolT, i_intN, i_intB, i_intI, i_intS, i_intL, i_intT, i_strN, i_strB, i_strI, i_strS, i_strL, i_strT, i_listN, i_listB, i_listI, i_listS, i_listL, i_listT, i_tupleN, i_tupleB, i_tupleI, i_tupleS, i_tupleL, i_tupleT, at_nat, decide_eq_true_eq, decide_eq_false_iff_not, Nat.ble_eq, and_true, true_and, Option.map_some, Option.isSome_some])
local macro_rules | `(tactic| walk_at "dxs") => `(tactic| simp only [b_escs, b_fnT, k_tmHd, k_lstO, k_chk, b_eLcV, b_chkV, beq_self_eq_true, beq_tf, beq_ft, o_or, o_addT, c_int, c_str, c_lst, o_catT, b_catT, o_slT, b_slT, o_rvsL, o_rvsT, k_tmL, b_eRepD, b_eIsi2, j_N, j_B, j_I, j_S, j_L, j_T, k_zpL, k_zpT, b_iZp, b_eAg, z_agStep, o_eqB, o_neB, o_eqN, o_tupL, o_tupT, Option.some_or, Option.none_or, Option.or_none, b_rdTms, b_hardTms, b_softTms, b_esCons, b_opV, b_opL, b_opT, b_eOp, b_rdNil, b_rdCons, b_rdT, b_rdA, b_erS, b_erL, b_eVar, b_eC, b_esNil, b_tTru, b_tBl, b_tAnd, b_tOr, b_tNot, b_eAnd, b_eOr, b_eNot, b_eIf, b_eTup, b_eLst, b_eTupO, b_iR2, k_ints2, b_sExpr, b_eLstO, b_xRaiseF, b_iRev, k_sqdL, k_sqdT, o_listL, o_listT, b_eOpL, k_scOS, b_mvNil, b_mvCons, b_sAppTp, b_erTp, g_hardTp, g_softTp, g_giveTp, k_tpl, k_shTp, b_oSome, b_oNone, b_eSl, b_eMt, b_fn0, b_fnP, b_sRet, b_sAsg, b_gvName, b_gvNil, b_gvCons, b_gvTup, b_gvSub, b_sAsgG, b_sApp, b_sPar, b_sPar3, b_sAppIx, b_sAugI, b_cvsNil, b_cvsCons, b_bindCond, b_condFst, b_condSnd, b_giveT, b_sFor, b_iSq, b_iR1, b_iEnA, wipeE, cYes, at_zero, k_bool, k_int, k_str, k_tup, k_lst, k_list, k_itL, k_itT, k_itSS, k_trN, k_trB, k_trI, k_trSS, k_trL, k_trT, k_scN, k_scB, k_scI, k_scS, k_scL, k_scT, k_shS, k_shL, k_softT, k_hardT, k_cvT, k_softNil, k_softCons, k_hardNil, k_hardCons, g_hard, g_soft, g_cv, g_give, g_hardS, g_hardL, g_softS, g_softL, g_cvS, g_giveS, g_giveL, g_allSh, g_erSh, List.all_cons, List.all_nil, k_retR, k_retN, k_alA, k_hd, k_two, k_three, k_sh, k_odT, k_enS, k_enL, o_addI, o_addS, o_addL, o_sub, o_neg, o_ltI, o_leI, o_gtI, o_geI, o_lenS, o_lenL, o_lenT, o_abs, o_max, o_int, o_ixL, o_ixT, o_ixSS, o_slS, o_slL, o_in1S, o_ni1S, o_eqS, o_neS, o_eqI, o_neI, o_mul, o_div, o_mod, o_pow, o_divmod, z_ble0, z_ble1, z_ble2, z_ble3, z_ble4, z_ble5, z_ble6, z_ble7, z_ble8, z_ble9, z_ble10, z_ble13, z_ble17, S_l, S_len, S_app, es1, es2, startE, sNext, pk, DX.inR, Nat.beq, Nat.ble, List.any_cons, List.any_nil, List.filterMap_cons, List.filterMap_nil, Option.bind_some, Option.bind_none, cond_true, cond_false, decide_true, decide_false, List.map_cons, List.map_nil, List.length_cons, List.length_nil, List.length_map, List.length_set, List.getElem?_cons_zero, List.getElem?_cons_succ, List.cons_append, List.nil_append, List.set_cons_zero, List.set_cons_succ, List.replicate, Nat.reduceAdd, Nat.reduceSub, Nat.zero_add, Int.toNat_natCast, Bool.not_true, Bool.not_false, Bool.or_self, Bool.or_false, Bool.false_or, Bool.and_self, Bool.and_true, Bool.true_and, Bool.and_false, Bool.false_and, Bool.true_or, Bool.or_true, z_some, z_none, z_bind, z_then, z_map, z_mapK, b_eLc, lcStep, forStep, at_0, at_1, at_2, at_3, at_4, at_5, at_m1, ix_0, ix_1, ix_m1, blt_00, blt_0s, blt_12, blt_02, z_ifK, z_guard, z_guardN, z_seqN, z_seqR, z_seqB, z_seqC, z_sSeq, z_sIf, z_forN, z_forC, z_forB, z_forR, r_P1, r_P2, k_condSomeP, k_condNx, k_condEn, k_condSl, k_condPair, k_condTm, k_condSh, k_condI, k_condB, k_condAnd, k_condOr, k_condNot, o_gcd, k_condAndL, k_condOrL, b_jNil, b_jCons, b_eJoin, t_str, str_len, str_empty, Int.cast_ofNat_Int, Int.reduceEq, Int.reduceLT, Int.reduceLE, Int.reduceNeg, Int.reduceAdd, Int.reduceSub, Int.reduceMul, Int.reduceToNat, Int.reducePow, Nat.reduceLT, Nat.reduceLeDiff, Nat.reduceEqDiff, Nat.reduceMul, k_condSelf, x_no, x_raise, x_seqNo, b_xIf, x_inr, x_inl, b_xFn, o_neSelf, o_eqSelf, i_boolN, i_boolB, i_boolI, i_boolS, i_boolL, i_boolT, i_intN, i_intB, i_intI, i_intS, i_intL, i_intT, i_strN, i_strB, i_strI, i_strS, i_strL, i_strT, i_listN, i_listB, i_listI, i_listS, i_listL, i_listT, i_tupleN, i_tupleB, i_tupleI, i_tupleS, i_tupleL, i_tupleT, at_nat, decide_eq_true_eq, decide_eq_false_iff_not, Nat.ble_eq, and_true, true_and, Option.map_some, Option.isSome_some, *])
-- DXSIMP end
variable {n h : Nat}
def isAA : PyData → Bool
  | .str x => x == "all" || x == "any"
  | _ => false
def linsV (m mo most : Int) : PyData → Bool
  | .list ds => linsB m mo most ds
  | _ => false
def saysB (m mo : Int) : PyData → Bool
  | .tuple [x, v] => isAA x && linsV m mo 8 v
  | _ => false
theorem saysB_t {m mo : Int} {x v : PyData} : saysB m mo (.tuple [x, v]) = (isAA x && linsV m mo 8 v) := rfl
theorem saysB_not {m mo : Int} {d : PyData} (h : ∀ x v, d ≠ .tuple [x, v]) : saysB m mo d = false := by
  unfold saysB
  split
  · exact absurd rfl (h _ _)
  · rfl
theorem linsV_l {m mo most : Int} {ds : List PyData} : linsV m mo most (.list ds) = (!decide (most < (ds.length : Int)) && ds.all (linB m mo)) := rfl
theorem all_not {p : PyData → Bool} {d : PyData} {pre post : List PyData} (h : p d = false) : (pre ++ d :: post).all p = false := by
  rw [List.all_append, List.all_cons, h, Bool.false_and, Bool.and_false]
theorem e_are {m mo most : Int} {ws : List PyData} {d : PyData} (g : Gd n h d) (hn : n ≤ 1000000) : mr__law_are_linears [.sh (.tuple (.int m :: .int mo :: ws)), .sh d, .sh (.int most)] = some (.sh (.bool (linsV m mo most d))) := by
  refine eq_of_sat ?_
  unfold mr__law_are_linears ev__law_are_linears
  cases g with
  | list a b =>
    rename_i h ds
    rw [linsV_l]
    walk_at "dx"
    refine Sat.split (fun h1 => ?_) fun h1 => ?_
    · rw [h1]; walk_at "dx"
    · rw [h1]
      walk_at "dx"
      refine Sat.for (fun es os => ∃ z, os = [some (.sh (.tuple (.int m :: .int mo :: ws))), some (.sh (.list ds)), some (.sh (.int most)), z] ∧ (∀ d ∈ es, Gd n h d) ∧ es.all (linB m mo) = ds.all (linB m mo)) ⟨_, rfl, b, rfl⟩ (fun d es os ⟨z, e1, e2, e3⟩ => ?_) fun os ⟨z, e1, e2, e3⟩ => ?_
      · subst e1
        rw [← e3]
        have bs : ∀ d ∈ es, Gd n h d := fun d q => e2 d (List.mem_cons_of_mem _ q)
        rw [List.all_cons]
        rcases kinds (e2 d (List.mem_cons_self ..)) with ⟨x, v, rfl, gx, gv⟩ | ⟨ts, rfl, hl⟩ | ⟨hk, hd⟩
        · rw [linB_t]
          walk_at "dx"
          rw [e_whole gv]
          walk_at "dx"
          refine Sat.split (fun h2 => ?_) fun h2 => ?_
          · rw [show isInt v = false by simpa using h2]; walk_at "dx"
          · rw [show isInt v = true by simpa using h2]; walk_at "dx"
            rw [e_law_terms gx hn]
            walk_at "dx"
            refine Sat.split (fun h3 => ?_) fun h3 => ?_
            · rw [show termsB m mo x = false by simpa using h3]; walk_at "dx"
            · rw [show termsB m mo x = true by simpa using h3]; walk_at "dx"
              exact ⟨_, rfl, bs⟩
        · rw [linB_not fun x v e => by cases e; exact hl rfl]
          walk_at "dx"
          rw [decide_eq_false hl]
          walk_at "dx"
        · rw [linB_not fun x v e => hd _ e]
          walk_at "dx"
          rw [hk]
          walk_at "dx"
      · subst e1
        walk_at "dx"
        rw [← e3]; rfl
  | _ => walk_at "dx"; rfl
theorem strs_aa : DX.strs? [.str "all", .str "any"] = some [("all" : Str), ("any" : Str)] := rfl
theorem o_neStr {x y : Str} : opNe [.str x, .str y] = some (.val (.bool (!(x == y)))) := rfl
theorem sh_aa : SeqAt.shaped (.tuple [.str "all", .str "any"]) = true := by decide +kernel
theorem o_inDeep {d : PyData} (sd : SeqAt.shaped d = true) (h1 : opIn false [d, .tuple [.str "all", .str "any"]] = none) (h2 : ∀ x, PyData.eqv (.str x) d = false) : opOr (opIn false) (opInT false) [d, .tuple [.str "all", .str "any"]] = some (.val (.bool false)) := by
  rw [o_or, h1, Option.none_or]
  show (if (SeqAt.shaped d && SeqAt.shaped (.tuple [.str "all", .str "any"])) = true then _ else _) = _
  rw [sd, sh_aa, Bool.and_self, if_pos rfl]
  simp [h2]
theorem o_aa {d : PyData} (g : Gd n h d) (hh : h ≤ 60) : opOr (opIn false) (opInT false) [d, .tuple [.str "all", .str "any"]] = some (.val (.bool (isAA d))) := by
  have sd := g.shaped hh
  cases g with
  | str a b =>
    rename_i x
    show (match DX.strs? [.str "all", .str "any"] with | some xs => some (Op.val (.bool (if false = true then !xs.contains x else xs.contains x))) | none => none).or _ = _
    rw [strs_aa]
    show some (Op.val (.bool (List.contains [("all" : Str), ("any" : Str)] x))) = _
    simp [isAA, List.contains, List.elem]
    cases x == "all" <;> cases x == "any" <;> rfl
  | non => exact o_inDeep sd rfl fun x => by unfold PyData.eqv; rfl
  | bool => exact o_inDeep sd rfl fun x => by unfold PyData.eqv; rfl
  | int => exact o_inDeep sd rfl fun x => by unfold PyData.eqv; rfl
  | list => exact o_inDeep sd rfl fun x => by unfold PyData.eqv; rfl
  | tuple => exact o_inDeep sd rfl fun x => by unfold PyData.eqv; rfl
theorem e_law_saying {m mo : Int} {ws : List PyData} {d : PyData} (g : Gd n h d) (hn : n ≤ 1000000) (hh : h ≤ 60) : mr__law_is_saying [.sh (.tuple (.int m :: .int mo :: ws)), .sh d] = some (.sh (.bool (saysB m mo d))) := by
  refine eq_of_sat ?_
  unfold mr__law_is_saying ev__law_is_saying
  rcases kinds g with ⟨x, v, rfl, gx, gv⟩ | ⟨ts, rfl, hl⟩ | ⟨hk, hd⟩
  · rw [saysB_t]
    have ha := o_aa gx hh
    rw [o_or] at ha
    walk_at "dx"
    rw [ha]
    walk_at "dx"
    refine Sat.split (fun h1 => ?_) fun h1 => ?_
    · rw [e_are gv hn, h1]
      walk_at "dx"
    · rw [h1]
      walk_at "dx"
  · rw [saysB_not fun x v e => by cases e; exact hl rfl]
    walk_at "dx"
    rw [decide_eq_false hl]
    walk_at "dx"
  · rw [saysB_not fun x v e => hd _ e]
    walk_at "dx"
    rw [hk]
    walk_at "dx"
theorem e_says {m mo : Int} {ws : List PyData} {d : PyData} (g : Gd n h d) (hn : n ≤ 1000000) : mr_is_saying [.sh (.tuple (.int m :: .int mo :: ws)), .sh d] = some (.sh (.bool (saysB m mo d))) := by
  refine eq_of_sat ?_
  unfold mr_is_saying ev_is_saying
  rcases kinds g with ⟨x, v, rfl, gx, gv⟩ | ⟨ts, rfl, hl⟩ | ⟨hk, hd⟩
  · rw [saysB_t]
    cases gx with
    | str a b =>
      rename_i x
      walk_at "dx"
      rw [o_neStr]
      walk_at "dx"
      refine Sat.split (fun h1 => ?_) fun h1 => ?_
      · rw [o_neStr]
        walk_at "dx"
        replace h1 : (x == "all") = false := by simpa using h1
        refine Sat.split (fun h2 => ?_) fun h2 => ?_
        · replace h2 : (x == "any") = false := by simpa using h2
          rw [show isAA (.str x) = false by simp only [isAA, h1, h2, Bool.or_self]]
          walk_at "dx"
        · replace h2 : (x == "any") = true := by simpa using h2
          rw [show isAA (.str x) = true by simp [isAA, h2]]
          walk_at "dx"
          cases gv with
          | list a' b' =>
            rename_i ds
            rw [linsV_l]
            walk_at "dx"
            refine Sat.split (fun h3 => ?_) fun h3 => ?_
            · rw [h3]; walk_at "dx"
            · rw [h3]; walk_at "dx"
              refine Sat.agL (linB m mo) (fun d q => ?_) ?_
              · rw [z_agStep]
                walk_at "dx"
                rw [e_is_linear (b' d q)]
                walk_at "dx"
              · walk_at "dx"
          | _ => walk_at "dx"; rfl
      · replace h1 : (x == "all") = true := by simpa using h1
        rw [show isAA (.str x) = true by simp [isAA, h1]]
        walk_at "dx"
        cases gv with
        | list a' b' =>
          rename_i ds
          rw [linsV_l]
          walk_at "dx"
          refine Sat.split (fun h3 => ?_) fun h3 => ?_
          · rw [h3]; walk_at "dx"
          · rw [h3]; walk_at "dx"
            refine Sat.agL (linB m mo) (fun d q => ?_) ?_
            · rw [z_agStep]
              walk_at "dx"
              rw [e_is_linear (b' d q)]
              walk_at "dx"
            · walk_at "dx"
        | _ => walk_at "dx"; rfl
    | _ => walk_at "dx"; rfl
  · rw [saysB_not fun x v e => by cases e; exact hl rfl]
    walk_at "dx"
    rw [decide_eq_false hl]
    walk_at "dx"
  · rw [saysB_not fun x v e => hd _ e]
    walk_at "dx"
    rw [hk]
    walk_at "dx"
end K55
set_option exponentiation.threshold 5000
namespace K55
open PySem PySem.Spec PyProof.Rows L2 DX
-- DXSIMP begin
local macro_rules | `(tactic| walk_at "dx") => `(tactic| simp only [b_escs, b_fnT, k_tmHd, k_lstO, k_chk, b_eLcV, b_chkV, beq_self_eq_true, beq_tf, beq_ft, o_or, o_addT, c_int, c_str, c_lst, o_catT, b_catT, o_slT, b_slT, o_rvsL, o_rvsT, k_tmL, b_eRepD, b_eIsi2, j_N, j_B, j_I, j_S, j_L, j_T, k_zpL, k_zpT, b_iZp, b_eAg, z_agStep, o_eqB, o_neB, o_eqN, o_tupL, o_tupT, Option.some_or, Option.none_or, Option.or_none, b_rdTms, b_hardTms, b_softTms, b_esCons, b_opV, b_opL, b_opT, b_eOp, b_rdNil, b_rdCons, b_rdT, b_rdA, b_erS, b_erL, b_eVar, b_eC, b_esNil, b_tTru, b_tBl, b_tAnd, b_tOr, b_tNot, b_eAnd, b_eOr, b_eNot, b_eIf, b_eTup, b_eLst, b_eTupO, b_iR2, k_ints2, b_sExpr, b_eLstO, b_xRaiseF, b_iRev, k_sqdL, k_sqdT, o_listL, o_listT, b_eOpL, k_scOS, b_mvNil, b_mvCons, b_sAppTp, b_erTp, g_hardTp, g_softTp, g_giveTp, k_tpl, k_shTp, b_oSome, b_oNone, b_eSl, b_eMt, b_fn0, b_fnP, b_sRet, b_sAsg, b_gvName, b_gvNil, b_gvCons, b_gvTup, b_gvSub, b_sAsgG, b_sApp, b_sPar, b_sPar3, b_sAppIx, b_sAugI, b_cvsNil, b_cvsCons, b_bindCond, b_condFst, b_condSnd, b_giveT, b_sFor, b_iSq, b_iR1, b_iEnA, wipeE, cYes, at_zero, k_bool, k_int, k_str, k_tup, k_lst, k_list, k_itL, k_itT, k_itSS, k_trN, k_trB, k_trI, k_trSS, k_trL, k_trT, k_scN, k_scB, k_scI, k_scS, k_scL, k_scT, k_shS, k_shL, k_softT, k_hardT, k_cvT, k_softNil, k_softCons, k_hardNil, k_hardCons, g_hard, g_soft, g_cv, g_give, g_hardS, g_hardL, g_softS, g_softL, g_cvS, g_giveS, g_giveL, g_allSh, g_erSh, List.all_cons, List.all_nil, k_retR, k_retN, k_alA, k_hd, k_two, k_three, k_sh, k_odT, k_enS, k_enL, o_addI, o_addS, o_addL, o_sub, o_neg, o_ltI, o_leI, o_gtI, o_geI, o_lenS, o_lenL, o_lenT, o_abs, o_max, o_int, o_ixL, o_ixT, o_ixSS, o_slS, o_slL, o_in1S, o_ni1S, o_eqS, o_neS, o_eqI, o_neI, o_mul, o_div, o_mod, o_pow, o_divmod, z_ble0, z_ble1, z_ble2, z_ble3, z_ble4, z_ble5, z_ble6, z_ble7, z_ble8, z_ble9, z_ble10, z_ble13, z_ble17, S_l, S_len, S_app, es1, es2, startE, sNext, pk, DX.inR, Nat.beq, Nat.ble, List.any_cons, List.any_nil, List.filterMap_cons, List.filterMap_nil, Option.bind_some, Option.bind_none, cond_true, cond_false, decide_true, decide_false, List.map_cons, List.map_nil, List.length_cons, List.length_nil, List.length_map, List.length_set, List.getElem?_cons_zero, List.getElem?_cons_succ, List.cons_append, List.nil_append, List.set_cons_zero, List.set_cons_succ, List.replicate, Nat.reduceAdd, Nat.reduceSub, Nat.zero_add, Int.toNat_natCast, Bool.not_true, Bool.not_false, Bool.or_self, Bool.or_false, Bool.false_or, Bool.and_self, Bool.and_true, Bool.true_and, Bool.and_false, Bool.false_and, Bool.true_or, Bool.or_true, z_some, z_none, z_bind, z_then, z_map, z_mapK, b_eLc, lcStep, forStep, at_0, at_1, at_2, at_3, at_4, at_5, at_m1, ix_0, ix_1, ix_m1, blt_00, blt_0s, blt_12, blt_02, z_ifK, z_guard, z_guardN, z_seqN, z_seqR, z_seqB, z_seqC, z_sSeq, z_sIf, z_forN, z_forC, z_forB, z_forR, r_P1, r_P2, k_condSomeP, k_condNx, k_condEn, k_condSl, k_condPair, k_condTm, k_condSh, k_condI, k_condB, k_condAnd, k_condOr, k_condNot, o_gcd, k_condAndL, k_condOrL, b_jNil, b_jCons, b_eJoin, t_str, str_len, str_empty, Int.cast_ofNat_Int, Int.reduceEq, Int.reduceLT, Int.reduceLE, Int.reduceNeg, Int.reduceAdd, Int.reduceSub, Int.reduceMul, Int.reduceToNat, Int.reducePow, Nat.reduceLT, Nat.reduceLeDiff, Nat.reduceEqDiff, Nat.reduceMul, k_condSelf, x_no, x_raise, x_seqNo, b_xIf, x_inr, x_inl, b_xFn, o_neSelf, o_eqSelf, i_boolN, i_boolB, i_boolI, i_boolS, i_boolL, i_boolT, i_intN, i_intB, i_intI, i_intS, i_intL, i_intT, i_strN, i_strB, i_strI, i_strS, i_strL, i_strT, i_listN, i_listB, i_listI, i_listS, i_listL, i_listT, i_tupleN, i_tupleB, i_tupleI, i_tupleS, i_tupleL, i_tupleT, at_nat, decide_eq_true_eq, decide_eq_false_iff_not, Nat.ble_eq, and_true, true_and, Option.map_some, Option.isSome_some])
local macro_rules | `(tactic| walk_at "dxs") => `(tactic| simp only [b_escs, b_fnT, k_tmHd, k_lstO, k_chk, b_eLcV, b_chkV, beq_self_eq_true, beq_tf, beq_ft, o_or, o_addT, c_int, c_str, c_lst, o_catT, b_catT, o_slT, b_slT, o_rvsL, o_rvsT, k_tmL, b_eRepD, b_eIsi2, j_N, j_B, j_I, j_S, j_L, j_T, k_zpL, k_zpT, b_iZp, b_eAg, z_agStep, o_eqB, o_neB, o_eqN, o_tupL, o_tupT, Option.some_or, Option.none_or, Option.or_none, b_rdTms, b_hardTms, b_softTms, b_esCons, b_opV, b_opL, b_opT, b_eOp, b_rdNil, b_rdCons, b_rdT, b_rdA, b_erS, b_erL, b_eVar, b_eC, b_esNil, b_tTru, b_tBl, b_tAnd, b_tOr, b_tNot, b_eAnd, b_eOr, b_eNot, b_eIf, b_eTup, b_eLst, b_eTupO, b_iR2, k_ints2, b_sExpr, b_eLstO, b_xRaiseF, b_iRev, k_sqdL, k_sqdT, o_listL, o_listT, b_eOpL, k_scOS, b_mvNil, b_mvCons, b_sAppTp, b_erTp, g_hardTp, g_softTp, g_giveTp, k_tpl, k_shTp, b_oSome, b_oNone, b_eSl, b_eMt, b_fn0, b_fnP, b_sRet, b_sAsg, b_gvName, b_gvNil, b_gvCons, b_gvTup, b_gvSub, b_sAsgG, b_sApp, b_sPar, b_sPar3, b_sAppIx, b_sAugI, b_cvsNil, b_cvsCons, b_bindCond, b_condFst, b_condSnd, b_giveT, b_sFor, b_iSq, b_iR1, b_iEnA, wipeE, cYes, at_zero, k_bool, k_int, k_str, k_tup, k_lst, k_list, k_itL, k_itT, k_itSS, k_trN, k_trB, k_trI, k_trSS, k_trL, k_trT, k_scN, k_scB, k_scI, k_scS, k_scL, k_scT, k_shS, k_shL, k_softT, k_hardT, k_cvT, k_softNil, k_softCons, k_hardNil, k_hardCons, g_hard, g_soft, g_cv, g_give, g_hardS, g_hardL, g_softS, g_softL, g_cvS, g_giveS, g_giveL, g_allSh, g_erSh, List.all_cons, List.all_nil, k_retR, k_retN, k_alA, k_hd, k_two, k_three, k_sh, k_odT, k_enS, k_enL, o_addI, o_addS, o_addL, o_sub, o_neg, o_ltI, o_leI, o_gtI, o_geI, o_lenS, o_lenL, o_lenT, o_abs, o_max, o_int, o_ixL, o_ixT, o_ixSS, o_slS, o_slL, o_in1S, o_ni1S, o_eqS, o_neS, o_eqI, o_neI, o_mul, o_div, o_mod, o_pow, o_divmod, z_ble0, z_ble1, z_ble2, z_ble3, z_ble4, z_ble5, z_ble6, z_ble7, z_ble8, z_ble9, z_ble10, z_ble13, z_ble17, S_l, S_len, S_app, es1, es2, startE, sNext, pk, DX.inR, Nat.beq, Nat.ble, List.any_cons, List.any_nil, List.filterMap_cons, List.filterMap_nil, Option.bind_some, Option.bind_none, cond_true, cond_false, decide_true, decide_false, List.map_cons, List.map_nil, List.length_cons, List.length_nil, List.length_map, List.length_set, List.getElem?_cons_zero, List.getElem?_cons_succ, List.cons_append, List.nil_append, List.set_cons_zero, List.set_cons_succ, List.replicate, Nat.reduceAdd, Nat.reduceSub, Nat.zero_add, Int.toNat_natCast, Bool.not_true, Bool.not_false, Bool.or_self, Bool.or_false, Bool.false_or, Bool.and_self, Bool.and_true, Bool.true_and, Bool.and_false, Bool.false_and, Bool.true_or, Bool.or_true, z_some, z_none, z_bind, z_then, z_map, z_mapK, b_eLc, lcStep, forStep, at_0, at_1, at_2, at_3, at_4, at_5, at_m1, ix_0, ix_1, ix_m1, blt_00, blt_0s, blt_12, blt_02, z_ifK, z_guard, z_guardN, z_seqN, z_seqR, z_seqB, z_seqC, z_sSeq, z_sIf, z_forN, z_forC, z_forB, z_forR, r_P1, r_P2, k_condSomeP, k_condNx, k_condEn, k_condSl, k_condPair, k_condTm, k_condSh, k_condI, k_condB, k_condAnd, k_condOr, k_condNot, o_gcd, k_condAndL, k_condOrL, b_jNil, b_jCons, b_eJoin, t_str, str_len, str_empty, Int.cast_ofNat_Int, Int.reduceEq, Int.reduceLT, Int.reduceLE, Int.reduceNeg, Int.reduceAdd, Int.reduceSub, Int.reduceMul, Int.reduceToNat, Int.reducePow, Nat.reduceLT, Nat.reduceLeDiff, Nat.reduceEqDiff, Nat.reduceMul, k_condSelf, x_no, x_raise, x_seqNo, b_xIf, x_inr, x_inl, b_xFn, o_neSelf, o_eqSelf, i_boolN, i_boolB, i_boolI, i_boolS, i_boolL, i_boolT, i_intN, i_intB, i_intI, i_intS, i_intL, i_intT, i_strN, i_strB, i_strI, i_strS, i_strL, i_strT, i_listN, i_listB, i_listI, i_listS, i_listL, i_listT, i_tupleN, i_tupleB, i_tupleI, i_tupleS, i_tupleL, i_tupleT, at_nat, decide_eq_true_eq, decide_eq_false_iff_not, Nat.ble_eq, and_true, true_and, Option.map_some, Option.isSome_some, *])
-- DXSIMP end
variable {n h : Nat}
def supsB (m mo : Int) : PyData → Bool
  | .list ds => linsB m mo 4 ds
  | .tuple ds => linsB m mo 4 ds
  | _ => false
theorem supsB_l {m mo : Int} {ds : List PyData} : supsB m mo (.list ds) = (!decide (4 < (ds.length : Int)) && ds.all (linB m mo)) := rfl
theorem supsB_t {m mo : Int} {ds : List PyData} : supsB m mo (.tuple ds) = (!decide (4 < (ds.length : Int)) && ds.all (linB m mo)) := rfl
theorem e_sups {m mo : Int} {ws : List PyData} {d : PyData} (g : Gd n h d) : mr_is_supposed [.sh (.tuple (.int m :: .int mo :: ws)), .sh d] = some (.sh (.bool (supsB m mo d))) := by
  refine eq_of_sat ?_
  unfold mr_is_supposed ev_is_supposed
  cases g with
  | list a b =>
    rename_i h ds
    rw [supsB_l]
    walk_at "dx"
    refine Sat.split (fun h3 => ?_) fun h3 => ?_
    · rw [h3]; walk_at "dx"
    · rw [h3]; walk_at "dx"
      refine Sat.agL (linB m mo) (fun d q => ?_) ?_
      · rw [z_agStep]
        walk_at "dx"
        rw [e_is_linear (b d q)]
        walk_at "dx"
      · walk_at "dx"
  | tuple a b =>
    rename_i h ds
    rw [supsB_t]
    walk_at "dx"
    refine Sat.split (fun h3 => ?_) fun h3 => ?_
    · rw [h3]; walk_at "dx"
    · rw [h3]; walk_at "dx"
      refine Sat.agL (linB m mo) (fun d q => ?_) ?_
      · rw [z_agStep]
        walk_at "dx"
        rw [e_is_linear (b d q)]
        walk_at "dx"
      · walk_at "dx"
  | _ => walk_at "dx"; rfl
theorem e_law_sups {m mo : Int} {ws : List PyData} {d : PyData} (g : Gd n h d) (hn : n ≤ 1000000) : mr__law_is_supposed [.sh (.tuple (.int m :: .int mo :: ws)), .sh d] = some (.sh (.bool (supsB m mo d))) := by
  refine eq_of_sat ?_
  unfold mr__law_is_supposed ev__law_is_supposed
  cases g with
  | list a b =>
    rename_i h ds
    rw [supsB_l]
    walk_at "dx"
    rw [e_are (.list a b) hn]
    walk_at "dx"
    rfl
  | tuple a b =>
    rename_i h ds
    rw [supsB_t]
    walk_at "dx"
    rw [e_are (.list a b) hn]
    walk_at "dx"
    rfl
  | _ => walk_at "dx"; rfl
theorem e_judged {m mo : Int} {ws : List PyData} {d : PyData} (g : Gd n h d) (hn : n ≤ 1000000) (hh : h ≤ 60) : mr__law_judged [.sh (.tuple (.int m :: .int mo :: ws)), .sh d] = some (.sh (.bool true)) := by
  refine eq_of_sat ?_
  unfold mr__law_judged ev__law_judged
  walk_at "dx"
  rw [e_is_terms g]
  walk_at "dx"
  rw [e_law_terms g hn]
  walk_at "dx"
  rw [e_is, beq_self_eq_true]
  walk_at "dx"
  rw [e_is_linear g]
  walk_at "dx"
  rw [e_law_linear g hn]
  walk_at "dx"
  rw [e_is, beq_self_eq_true]
  walk_at "dx"
  rw [e_says g hn]
  walk_at "dx"
  rw [e_law_saying g hn hh]
  walk_at "dx"
  rw [e_is, beq_self_eq_true]
  walk_at "dx"
  rw [e_sups g]
  walk_at "dx"
  rw [e_law_sups g hn]
  walk_at "dx"
  rw [e_is, beq_self_eq_true]
  walk_at "dx"
/-! ### copies -/
def cpy : PyData → OD
  | .list ds => .lst (ds.attach.map fun d => cpy d.1)
  | d => .sh d
decreasing_by
  have := List.sizeOf_lt_of_mem d.2
  simp; omega
theorem cpy_l {ds : List PyData} : cpy (.list ds) = .lst (ds.map cpy) := by
  rw [cpy]
  congr 1
  exact List.attach_map_val (f := cpy) ..
theorem cpy_t {ds : List PyData} : cpy (.tuple ds) = .sh (.tuple ds) := by rw [cpy]; intro _ h; cases h
theorem map_cpy {ds : List PyData} (ih : ∀ d ∈ ds, (cpy d).er = d) : (ds.map cpy).map OD.er = ds := by
  rw [List.map_map]
  exact (List.map_congr_left fun d q => ih d q).trans (List.map_id' ds)
theorem cpy_er {d : PyData} (g : Gd n h d) : (cpy d).er = d := by
  induction g with
  | list a b ih =>
    rename_i h ds
    rw [cpy_l, b_erL, map_cpy ih]
  | _ => rw [cpy]; rfl; all_goals (intro _ h; cases h)
theorem e_copy {d : PyData} (g : Gd n h d) (hn : n ≤ 1000000) : ∀ {k : Nat}, h < k → mrR__law_copy k [.sh d] = some (cpy d) := by
  induction g with
  | list a b ih =>
    rename_i h ds
    intro k hk
    obtain ⟨k, rfl⟩ : ∃ k', k = k' + 1 := ⟨k - 1, by omega⟩
    refine eq_of_sat ?_
    unfold mrR__law_copy ev__law_copy
    walk_at "dx"
    refine Sat.lcL cpy (size_of a hn) (fun d q => ?_) ?_
    · walk_at "dx"
      rw [ih d q (by omega)]
      walk_at "dx"
    · rw [z_then]
      walk_at "dx"
      rw [cpy_l]
  | tuple a b ih =>
    rename_i h ds
    intro k hk
    obtain ⟨k, rfl⟩ : ∃ k', k = k' + 1 := ⟨k - 1, by omega⟩
    refine eq_of_sat ?_
    unfold mrR__law_copy ev__law_copy
    walk_at "dx"
    refine Sat.lcL cpy (size_of a hn) (fun d q => ?_) ?_
    · walk_at "dx"
      rw [ih d q (by omega)]
      walk_at "dx"
    · rw [z_then]
      walk_at "dx"
      rw [cpy_t, map_cpy fun d q => cpy_er (b d q)]
  | _ =>
    intro k hk
    obtain ⟨k, rfl⟩ : ∃ k', k = k' + 1 := ⟨k - 1, by omega⟩
    refine eq_of_sat ?_
    unfold mrR__law_copy ev__law_copy
    walk_at "dx"
    rw [cpy]
    all_goals (intro _ h; cases h)
theorem e_same {d : PyData} (g : Gd n h d) (hn : n ≤ 1000000) : ∀ {k : Nat}, h < k → mrR__law_same k [.sh d, .sh d] = some (.sh (.bool true)) := by
  induction g with
  | list a b ih =>
    rename_i h ds
    intro k hk
    obtain ⟨k, rfl⟩ : ∃ k', k = k' + 1 := ⟨k - 1, by omega⟩
    refine eq_of_sat ?_
    unfold mrR__law_same ev__law_same
    walk_at "dx"
    rw [zipD_self]
    refine Sat.lcM (fun _ => .sh (.bool true)) (size_of a hn) (fun d q => ?_) ?_
    · walk_at "dx"
      rw [ih d q (by omega)]
      walk_at "dx"
    · rw [z_then]
      walk_at "dx"
      rw [o_allM (g := fun _ => true)]
      walk_at "dx"
      simp
  | tuple a b ih =>
    rename_i h ds
    intro k hk
    obtain ⟨k, rfl⟩ : ∃ k', k = k' + 1 := ⟨k - 1, by omega⟩
    refine eq_of_sat ?_
    unfold mrR__law_same ev__law_same
    walk_at "dx"
    rw [zipD_self]
    refine Sat.lcM (fun _ => .sh (.bool true)) (size_of a hn) (fun d q => ?_) ?_
    · walk_at "dx"
      rw [ih d q (by omega)]
      walk_at "dx"
    · rw [z_then]
      walk_at "dx"
      rw [o_allM (g := fun _ => true)]
      walk_at "dx"
      simp
  | _ =>
    intro k hk
    obtain ⟨k, rfl⟩ : ∃ k', k = k' + 1 := ⟨k - 1, by omega⟩
    refine eq_of_sat ?_
    unfold mrR__law_same ev__law_same
    walk_at "dx"
    try rw [decide_eq_true rfl]
end K55
set_option exponentiation.threshold 5000
namespace K55
open PySem PySem.Spec PyProof.Rows L2 DX
-- DXSIMP begin
local macro_rules | `(tactic| walk_at "dx") => `(tactic| simp only [b_escs, b_fnT, k_tmHd, k_lstO, k_chk, b_eLcV, b_chkV, beq_self_eq_true, beq_tf, beq_ft, o_or, o_addT, c_int, c_str, c_lst, o_catT, b_catT, o_slT, b_slT, o_rvsL, o_rvsT, k_tmL, b_eRepD, b_eIsi2, j_N, j_B, j_I, j_S, j_L, j_T, k_zpL, k_zpT, b_iZp, b_eAg, z_agStep, o_eqB, o_neB, o_eqN, o_tupL, o_tupT, Option.some_or, Option.none_or, Option.or_none, b_rdTms, b_hardTms, b_softTms, b_esCons, b_opV, b_opL, b_opT, b_eOp, b_rdNil, b_rdCons, b_rdT, b_rdA, b_erS, b_erL, b_eVar, b_eC, b_esNil, b_tTru, b_tBl, b_tAnd, b_tOr, b_tNot, b_eAnd, b_eOr, b_eNot, b_eIf, b_eTup, b_eLst, b_eTupO, b_iR2, k_ints2, b_sExpr, b_eLstO, b_xRaiseF, b_iRev, k_sqdL, k_sqdT, o_listL, o_listT, b_eOpL, k_scOS, b_mvNil, b_mvCons, b_sAppTp, b_erTp, g_hardTp, g_softTp, g_giveTp, k_tpl, k_shTp, b_oSome, b_oNone, b_eSl, b_eMt, b_fn0, b_fnP, b_sRet, b_sAsg, b_gvName, b_gvNil, b_gvCons, b_gvTup, b_gvSub, b_sAsgG, b_sApp, b_sPar, b_sPar3, b_sAppIx, b_sAugI, b_cvsNil, b_cvsCons, b_bindCond, b_condFst, b_condSnd, b_giveT, b_sFor, b_iSq, b_iR1, b_iEnA, wipeE, cYes, at_zero, k_bool, k_int, k_str, k_tup, k_lst, k_list, k_itL, k_itT, k_itSS, k_trN, k_trB, k_trI, k_trSS, k_trL, k_trT, k_scN, k_scB, k_scI, k_scS, k_scL, k_scT, k_shS, k_shL, k_softT, k_hardT, k_cvT, k_softNil, k_softCons, k_hardNil, k_hardCons, g_hard, g_soft, g_cv, g_give, g_hardS, g_hardL, g_softS, g_softL, g_cvS, g_giveS, g_giveL, g_allSh, g_erSh, List.all_cons, List.all_nil, k_retR, k_retN, k_alA, k_hd, k_two, k_three, k_sh, k_odT, k_enS, k_enL, o_addI, o_addS, o_addL, o_sub, o_neg, o_ltI, o_leI, o_gtI, o_geI, o_lenS, o_lenL, o_lenT, o_abs, o_max, o_int, o_ixL, o_ixT, o_ixSS, o_slS, o_slL, o_in1S, o_ni1S, o_eqS, o_neS, o_eqI, o_neI, o_mul, o_div, o_mod, o_pow, o_divmod, z_ble0, z_ble1, z_ble2, z_ble3, z_ble4, z_ble5, z_ble6, z_ble7, z_ble8, z_ble9, z_ble10, z_ble13, z_ble17, S_l, S_len, S_app, es1, es2, startE, sNext, pk, DX.inR, Nat.beq, Nat.ble, List.any_cons, List.any_nil, List.filterMap_cons, List.filterMap_nil, Option.bind_some, Option.bind_none, cond_true, cond_false, decide_true, decide_false, List.map_cons, List.map_nil, List.length_cons, List.length_nil, List.length_map, List.length_set, List.getElem?_cons_zero, List.getElem?_cons_succ, List.cons_append, List.nil_append, List.set_cons_zero, List.set_cons_succ, List.replicate, Nat.reduceAdd, Nat.reduceSub, Nat.zero_add, Int.toNat_natCast, Bool.not_true, Bool.not_false, Bool.or_self, Bool.or_false, Bool.false_or, Bool.and_self, Bool.and_true, Bool.true_and, Bool.and_false, Bool.false_and, Bool.true_or, Bool.or_true, z_some, z_none, z_bind, z_then, z_map, z_mapK, b_eLc, lcStep, forStep, at_0, at_1, at_2, at_3, at_4, at_5, at_m1, ix_0, ix_1, ix_m1, blt_00, blt_0s, blt_12, blt_02, z_ifK, z_guard, z_guardN, z_seqN, z_seqR, z_seqB, z_seqC, z_sSeq, z_sIf, z_forN, z_forC, z_forB, z_forR, r_P1, r_P2, k_condSomeP, k_condNx, k_condEn, k_condSl, k_condPair, k_condTm, k_condSh, k_condI, k_condB, k_condAnd, k_condOr, k_condNot, o_gcd, k_condAndL, k_condOrL, b_jNil, b_jCons, b_eJoin, t_str, str_len, str_empty, Int.cast_ofNat_Int, Int.reduceEq, Int.reduceLT, Int.reduceLE, Int.reduceNeg, Int.reduceAdd, Int.reduceSub, Int.reduceMul, Int.reduceToNat, Int.reducePow, Nat.reduceLT, Nat.reduceLeDiff, Nat.reduceEqDiff, Nat.reduceMul, k_condSelf, x_no, x_raise, x_seqNo, b_xIf, x_inr, x_inl, b_xFn, o_neSelf, o_eqSelf, i_boolN, i_boolB, i_boolI, i_boolS, i_boolL, i_boolT, i_intN, i_intB, i_intI, i_intS, i_intL, i_intT, i_strN, i_strB, i_strI, i_strS, i_strL, i_strT, i_listN, i_listB, i_listI, i_listS, i_listL, i_listT, i_tupleN, i_tupleB, i_tupleI, i_tupleS, i_tupleL, i_tupleT, at_nat, decide_eq_true_eq, decide_eq_false_iff_not, Nat.ble_eq, and_true, true_and, Option.map_some, Option.isSome_some])
local macro_rules | `(tactic| walk_at "dxs") => `(tactic| simp only [b_escs, b_fnT, k_tmHd, k_lstO, k_chk, b_eLcV, b_chkV, beq_self_eq_true, beq_tf, beq_ft, o_or, o_addT, c_int, c_str, c_lst, o_catT, b_catT, o_slT, b_slT, o_rvsL, o_rvsT, k_tmL, b_eRepD, b_eIsi2, j_N, j_B, j_I, j_S, j_L, j_T, k_zpL, k_zpT, b_iZp, b_eAg, z_agStep, o_eqB, o_neB, o_eqN, o_tupL, o_tupT, Option.some_or, Option.none_or, Option.or_none, b_rdTms, b_hardTms, b_softTms, b_esCons, b_opV, b_opL, b_opT, b_eOp, b_rdNil, b_rdCons, b_rdT, b_rdA, b_erS, b_erL, b_eVar, b_eC, b_esNil, b_tTru, b_tBl, b_tAnd, b_tOr, b_tNot, b_eAnd, b_eOr, b_eNot, b_eIf, b_eTup, b_eLst, b_eTupO, b_iR2, k_ints2, b_sExpr, b_eLstO, b_xRaiseF, b_iRev, k_sqdL, k_sqdT, o_listL, o_listT, b_eOpL, k_scOS, b_mvNil, b_mvCons, b_sAppTp, b_erTp, g_hardTp, g_softTp, g_giveTp, k_tpl, k_shTp, b_oSome, b_oNone, b_eSl, b_eMt, b_fn0, b_fnP, b_sRet, b_sAsg, b_gvName, b_gvNil, b_gvCons, b_gvTup, b_gvSub, b_sAsgG, b_sApp, b_sPar, b_sPar3, b_sAppIx, b_sAugI, b_cvsNil, b_cvsCons, b_bindCond, b_condFst, b_condSnd, b_giveT, b_sFor, b_iSq, b_iR1, b_iEnA, wipeE, cYes, at_zero, k_bool, k_int, k_str, k_tup, k_lst, k_list, k_itL, k_itT, k_itSS, k_trN, k_trB, k_trI, k_trSS, k_trL, k_trT, k_scN, k_scB, k_scI, k_scS, k_scL, k_scT, k_shS, k_shL, k_softT, k_hardT, k_cvT, k_softNil, k_softCons, k_hardNil, k_hardCons, g_hard, g_soft, g_cv, g_give, g_hardS, g_hardL, g_softS, g_softL, g_cvS, g_giveS, g_giveL, g_allSh, g_erSh, List.all_cons, List.all_nil, k_retR, k_retN, k_alA, k_hd, k_two, k_three, k_sh, k_odT, k_enS, k_enL, o_addI, o_addS, o_addL, o_sub, o_neg, o_ltI, o_leI, o_gtI, o_geI, o_lenS, o_lenL, o_lenT, o_abs, o_max, o_int, o_ixL, o_ixT, o_ixSS, o_slS, o_slL, o_in1S, o_ni1S, o_eqS, o_neS, o_eqI, o_neI, o_mul, o_div, o_mod, o_pow, o_divmod, z_ble0, z_ble1, z_ble2, z_ble3, z_ble4, z_ble5, z_ble6, z_ble7, z_ble8, z_ble9, z_ble10, z_ble13, z_ble17, S_l, S_len, S_app, es1, es2, startE, sNext, pk, DX.inR, Nat.beq, Nat.ble, List.any_cons, List.any_nil, List.filterMap_cons, List.filterMap_nil, Option.bind_some, Option.bind_none, cond_true, cond_false, decide_true, decide_false, List.map_cons, List.map_nil, List.length_cons, List.length_nil, List.length_map, List.length_set, List.getElem?_cons_zero, List.getElem?_cons_succ, List.cons_append, List.nil_append, List.set_cons_zero, List.set_cons_succ, List.replicate, Nat.reduceAdd, Nat.reduceSub, Nat.zero_add, Int.toNat_natCast, Bool.not_true, Bool.not_false, Bool.or_self, Bool.or_false, Bool.false_or, Bool.and_self, Bool.and_true, Bool.true_and, Bool.and_false, Bool.false_and, Bool.true_or, Bool.or_true, z_some, z_none, z_bind, z_then, z_map, z_mapK, b_eLc, lcStep, forStep, at_0, at_1, at_2, at_3, at_4, at_5, at_m1, ix_0, ix_1, ix_m1, blt_00, blt_0s, blt_12, blt_02, z_ifK, z_guard, z_guardN, z_seqN, z_seqR, z_seqB, z_seqC, z_sSeq, z_sIf, z_forN, z_forC, z_forB, z_forR, r_P1, r_P2, k_condSomeP, k_condNx, k_condEn, k_condSl, k_condPair, k_condTm, k_condSh, k_condI, k_condB, k_condAnd, k_condOr, k_condNot, o_gcd, k_condAndL, k_condOrL, b_jNil, b_jCons, b_eJoin, t_str, str_len, str_empty, Int.cast_ofNat_Int, Int.reduceEq, Int.reduceLT, Int.reduceLE, Int.reduceNeg, Int.reduceAdd, Int.reduceSub, Int.reduceMul, Int.reduceToNat, Int.reducePow, Nat.reduceLT, Nat.reduceLeDiff, Nat.reduceEqDiff, Nat.reduceMul, k_condSelf, x_no, x_raise, x_seqNo, b_xIf, x_inr, x_inl, b_xFn, o_neSelf, o_eqSelf, i_boolN, i_boolB, i_boolI, i_boolS, i_boolL, i_boolT, i_intN, i_intB, i_intI, i_intS, i_intL, i_intT, i_strN, i_strB, i_strI, i_strS, i_strL, i_strT, i_listN, i_listB, i_listI, i_listS, i_listL, i_listT, i_tupleN, i_tupleB, i_tupleI, i_tupleS, i_tupleL, i_tupleT, at_nat, decide_eq_true_eq, decide_eq_false_iff_not, Nat.ble_eq, and_true, true_and, Option.map_some, Option.isSome_some, *])
-- DXSIMP end
abbrev potO (a b : Int) : OD := .lst [.sh (.int a), .sh (.int b)]
def Pk (b : Int) : Prop := 0 ≤ b ∧ b < 2147483604
theorem mulFits_of {a b : Int} (ha : a.natAbs < 2 ^ 4000) (hb : b.natAbs < 2 ^ 4000) : mulFits a b = true := by
  have h1 := PySem.Flt.log2_lt_of (by decide) ha
  have h2 := PySem.Flt.log2_lt_of (by decide) hb
  exact decide_eq_true (by omega)
theorem mulFits_small {a b : Int} (ha : a.natAbs < 2 ^ 64) (hb : b.natAbs < 2 ^ 64) : mulFits a b = true :=
  mulFits_of (Nat.lt_of_lt_of_le ha (Nat.pow_le_pow_right (by decide) (by decide))) (Nat.lt_of_lt_of_le hb (Nat.pow_le_pow_right (by decide) (by decide)))
theorem divFits_of {a b : Int} (h0 : b ≠ 0) (hb : b.natAbs < 2 ^ 4000) : divFits a b = true := by
  have h2 := PySem.Flt.log2_lt_of (by decide) hb
  exact decide_eq_true ⟨h0, by omega⟩
theorem divFits_small {a b : Int} (h0 : b ≠ 0) (hb : b.natAbs < 2 ^ 64) : divFits a b = true := divFits_of h0 (Nat.lt_of_lt_of_le hb (Nat.pow_le_pow_right (by decide) (by decide)))
theorem emod_lt {a b : Int} (h : 0 < b) : 0 ≤ a % b ∧ a % b < b := ⟨Int.emod_nonneg _ (by omega), Int.emod_lt_of_pos _ h⟩
theorem atI_nat {α : Type} {xs : List α} {k : Nat} {x : α} (h : xs[k]? = some x) : atI xs (k : Int) = some x := by
  rw [at_nat]; exact h
theorem sp_pot {ns : List Int} {k : Nat} (hk : k < 1000) : Sat (mr__law_pot [.sh (.list (ns.map PyData.int)), .sh (.int k)]) (fun r => ∃ a b, r = potO a b ∧ Pk b) := by
  unfold mr__law_pot ev__law_pot
  have m1 : ∀ c : Int, 0 ≤ c % 2147483549 ∧ c % 2147483549 < 2147483549 := fun c => emod_lt (by decide)
  have m2 : ∀ c : Int, 0 ≤ c % 2147483563 ∧ c % 2147483563 < 2147483563 := fun c => emod_lt (by decide)
  have fin : ∀ c : Int, 0 ≤ c % 2147483563 + 1 ∧ c % 2147483563 + 1 < 2147483604 := fun c => by have := m2 c; omega
  have f1 : mulFits 613 (k : Int) = true := mulFits_small (by decide) (by omega)
  have f2 : mulFits 9173 (k : Int) = true := mulFits_small (by decide) (by omega)
  have f3 : ∀ c : Int, mulFits (c % 2147483549) 48271 = true := fun c => mulFits_small (by have := m1 c; omega) (by decide)
  have p18 : powFits 10 18 = true := by decide
  walk_at "dx"
  rw [f1]
  walk_at "dx"
  refine Sat.splitD (fun h => ?_) fun h => ?_
  · obtain ⟨c, hc⟩ : ∃ c : Int, (ns.map PyData.int)[k]? = some (.int c) := by
      rw [List.getElem?_map]
      have : k < ns.length := by omega
      rw [List.getElem?_eq_getElem this]
      exact ⟨_, rfl⟩
    walk_at "dx"
    rw [hc]
    walk_at "dx"
    rw [f3, f2, p18]
    walk_at "dx"
    exact ⟨_, _, rfl, fin _⟩
  · walk_at "dx"
    rw [f3, f2, p18]
    walk_at "dx"
    exact ⟨_, _, rfl, fin _⟩
/-- a draw: a number below n, the pot behind it -/
def Dr (n : Int) (r : OD × OD) : Prop := ∃ v a b : Int, r = (.sh (.int v), potO a b) ∧ 0 ≤ v ∧ v < n ∧ Pk b
theorem sp_draw {a b n : Int} (hb : Pk b) (hn : 0 < n) (hn2 : n < 1073741824) : Sat (mr__law_draw (potO a b) [.sh (.int n)]) (Dr n) := by
  unfold mr__law_draw ev__law_draw
  obtain ⟨hb1, hb2⟩ := hb
  walk_at "dx"
  refine Sat.splitD (fun ha => ?_) fun ha => ?_
  · walk_at "dx"
    exact ⟨⟨hn, hn2⟩, _, _, _, rfl, (emod_lt hn).1, (emod_lt hn).2, hb1, hb2⟩
  · walk_at "dx"
    obtain ⟨m1, m2⟩ := emod_lt (a := b * 39373 + 9173) (b := 2147483587) (by decide)
    obtain ⟨m3, m4⟩ := emod_lt (a := (b * 39373 + 9173) % 2147483587 * ((b * 39373 + 9173) % 2147483587)) (b := 2147483563) (by decide)
    refine ⟨mulFits_small (by omega) (by decide), mulFits_small (by omega) (by omega), divFits_small (by decide) (by decide), hn, _, _, _, rfl, (emod_lt hn).1, (emod_lt hn).2, m1, by omega⟩
theorem sp_pick {a b : Int} {ds : List PyData} (hb : Pk b) (h0 : 0 < ds.length) (h1 : ds.length < 1073741824) : Sat (mr__law_pick (potO a b) [.sh (.list ds)]) (fun r => ∃ d a b, r = (.sh d, potO a b) ∧ d ∈ ds ∧ Pk b) := by
  unfold mr__law_pick ev__law_pick
  walk_at "dx"
  refine (sp_draw hb (n := (ds.length : Nat)) (by omega) (by omega)).mono fun r ⟨v, a', b', e, hv0, hv1, hb'⟩ => ?_
  subst e
  obtain ⟨k, rfl⟩ : ∃ k : Nat, v = k := ⟨v.toNat, by omega⟩
  have hk : k < ds.length := by omega
  walk_at "dx"
  refine Sat.at (List.getElem?_eq_getElem hk) ?_
  walk_at "dx"
  exact ⟨_, _, _, rfl, List.getElem_mem hk, hb'⟩
theorem sp_pickS {a b : Int} {x : Str} (hb : Pk b) (h0 : 0 < x.length) (h1 : x.length < 1073741824) : Sat (mr__law_pick (potO a b) [.sh (.str x)]) (fun r => ∃ c a b, r = (.sh (.str (S [c])), potO a b) ∧ c ∈ x.cps.toList ∧ Pk b) := by
  unfold mr__law_pick ev__law_pick
  walk_at "dx"
  refine (sp_draw hb (n := (x.length : Nat)) (by omega) (by omega)).mono fun r ⟨v, a', b', e, hv0, hv1, hb'⟩ => ?_
  subst e
  obtain ⟨k, rfl⟩ : ∃ k : Nat, v = k := ⟨v.toNat, by omega⟩
  have hk : k < x.cps.toList.length := by
    have : x.cps.toList.length = x.length := Array.length_toList
    omega
  walk_at "dx"
  rw [o_ixS, atI_nat (List.getElem?_eq_getElem hk)]
  walk_at "dx"
  exact ⟨_, _, _, rfl, List.getElem_mem hk, hb'⟩
/-! ### what the world is made of -/
/-- a number -/
def NumR (k : Nat) (r : OD × OD) : Prop := ∃ i a b : Int, r = (.sh (.int i), potO a b) ∧ i.natAbs ≤ k ∧ Pk b
theorem sp_number {a b : Int} (hb : Pk b) : Sat (mr__law_number (potO a b) []) (NumR 4) := by
  unfold mr__law_number ev__law_number
  walk_at "dx"
  refine (sp_draw hb (n := 9) (by decide) (by decide)).mono fun r ⟨v, a', b', e, hv0, hv1, hb'⟩ => ?_
  subst e
  walk_at "dx"
  refine (sp_pick hb' (by simp) (by simp)).mono fun r ⟨d, a2, b2, e, hd, hb2⟩ => ?_
  subst e
  walk_at "dx"
  simp only [List.mem_cons, List.not_mem_nil, or_false] at hd
  rcases hd with rfl | rfl | rfl | rfl | rfl | rfl | rfl <;> exact ⟨_, _, _, rfl, by omega, hb2⟩
/-- data that is bounded -/
def GdR (n k : Nat) (r : OD × OD) : Prop := ∃ o, ∃ a b : Int, r = (o, potO a b) ∧ Gd n k o.er ∧ Pk b
/-- bounded data of whole numbers and texts alone -/
inductive Gi (n : Nat) : Nat → PyData → Prop
  | int {h i} (a : i.natAbs ≤ n) : Gi n h (.int i)
  | str {h x} (a : PyData.strOk x = true) (b : x.length ≤ n) : Gi n h (.str x)
  | list {h ds} (a : ds.length ≤ n) (b : ∀ d ∈ ds, Gi n h d) : Gi n (h + 1) (.list ds)
  | tuple {h ds} (a : ds.length ≤ n) (b : ∀ d ∈ ds, Gi n h d) : Gi n (h + 1) (.tuple ds)
theorem Gi.gd {n h : Nat} {d : PyData} (g : Gi n h d) : Gd n h d := by
  induction g with
  | int a => exact .int a
  | str a b => exact .str a b
  | list a b ih => exact .list a ih
  | tuple a b ih => exact .tuple a ih
theorem Gi.mono {n : Nat} : ∀ {h k : Nat} {d : PyData}, h ≤ k → Gi n h d → Gi n k d := by
  intro h k d hk g
  induction g generalizing k with
  | int a => exact .int a
  | str a b => exact .str a b
  | list a b ih =>
    cases k with
    | zero => omega
    | succ k => exact .list a fun d q => ih d q (by omega)
  | tuple a b ih =>
    cases k with
    | zero => omega
    | succ k => exact .tuple a fun d q => ih d q (by omega)
def GiS (n k : Nat) (r : OD × OD) : Prop := ∃ d, ∃ a b : Int, r = (.sh d, potO a b) ∧ Gi n k d ∧ Pk b
def GiR (n k : Nat) (r : OD × OD) : Prop := ∃ o, ∃ a b : Int, r = (o, potO a b) ∧ Gi n k o.er ∧ Pk b
theorem gi_ints {n k m : Nat} {l : List Int} (h : ∀ i ∈ l, i.natAbs ≤ k) (hk : k ≤ n) (hl : l.length ≤ n) : Gi n (m + 1) (.tuple (l.map PyData.int)) := by
  refine .tuple (by simpa using hl) fun d q => ?_
  obtain ⟨i, qi, rfl⟩ := List.mem_map.mp q
  exact .int (Nat.le_trans (h i qi) hk)
theorem gi_two {n k : Nat} {x y : PyData} (h1 : Gi n k x) (h2 : Gi n k y) (hn : 2 ≤ n := by decide) : Gi n (k + 1) (.tuple [x, y]) := by
  refine .tuple hn fun d q => ?_
  simp only [List.mem_cons, List.not_mem_nil, or_false] at q
  rcases q with rfl | rfl
  · exact h1
  · exact h2
theorem gi_lst {n k : Nat} {l : List OD} (h : ∀ o ∈ l, Gi n k o.er) (hl : l.length ≤ n) : Gi n (k + 1) (OD.lst l).er := by
  rw [b_erL]
  refine .list (by simpa using hl) fun d q => ?_
  obtain ⟨o, q', rfl⟩ := List.mem_map.mp q
  exact h o q'
/-- shared data that is bounded -/
def GdS (n k : Nat) (r : OD × OD) : Prop := ∃ d, ∃ a b : Int, r = (.sh d, potO a b) ∧ Gd n k d ∧ Pk b
def ShG (n k : Nat) (o : OD) : Prop := ∃ d, o = .sh d ∧ Gd n k d
theorem shs_of {n k : Nat} : ∀ {acc : List OD}, (∀ o ∈ acc, ShG n k o) → ∃ ds : List PyData, acc = ds.map OD.sh ∧ ds.length = acc.length ∧ ∀ d ∈ ds, Gd n k d
  | [], _ => ⟨[], rfl, rfl, fun _ q => nomatch q⟩
  | o :: acc, h => by
    obtain ⟨i, rfl, hi⟩ := h o (List.mem_cons_self ..)
    obtain ⟨l, rfl, hl, hp⟩ := shs_of fun o q => h o (List.mem_cons_of_mem _ q)
    refine ⟨i :: l, rfl, by simp, fun j q => ?_⟩
    rcases List.mem_cons.mp q with rfl | q
    · exact hi
    · exact hp j q
theorem gd_ints {n k m : Nat} {l : List Int} (h : ∀ i ∈ l, i.natAbs ≤ k) (hk : k ≤ n) (hl : l.length ≤ n) : Gd n (m + 1) (.tuple (l.map PyData.int)) := by
  refine .tuple (by simpa using hl) fun d q => ?_
  obtain ⟨i, qi, rfl⟩ := List.mem_map.mp q
  exact .int (Nat.le_trans (h i qi) hk)
theorem er_ints {l : List Int} : (l.map fun i => OD.sh (.int i)).map OD.er = l.map PyData.int := by rw [List.map_map]; rfl
theorem lc_pot {own : List Nat} {tv : EvG} {c : EvT} {ev : EvE} {rest : En} {ds : List PyData} {a b : Int} {K : List OD × En → Prop} (P : OD → Prop) (hn : ds.length ≤ sizeLine) (hb : Pk b)
    (h : ∀ d ∈ ds, ∀ a b : Int, Pk b → Sat (lcStep own tv c ev d (some (potO a b) :: rest)) (fun r => ∃ o, ∃ a b : Int, r = (some o, some (potO a b) :: rest) ∧ P o ∧ Pk b))
    (hK : ∀ acc : List OD, ∀ a b : Int, acc.length = ds.length → (∀ o ∈ acc, P o) → Pk b → K (acc, some (potO a b) :: rest)) : Sat (lcF own tv c ev ds (some (potO a b) :: rest) []) K := by
  refine Sat.lc (fun es acc os => ∃ a b : Int, os = some (potO a b) :: rest ∧ Pk b ∧ acc.length + es.length = ds.length ∧ (∀ o ∈ acc, P o) ∧ ∀ d ∈ es, d ∈ ds) ⟨a, b, rfl, hb, by simp, (fun _ q => nomatch q), fun _ q => q⟩ hn (fun d es acc os ⟨a, b, e, hb, hl, hp, hs⟩ => ?_) fun acc os ⟨a, b, e, hb, hl, hp, hs⟩ => ?_
  · subst e
    refine (h d (hs d (List.mem_cons_self ..)) a b hb).mono fun r ⟨o, a', b', e, po, hb'⟩ => ?_
    subst e
    refine ⟨a', b', rfl, hb', by simp at hl ⊢; omega, fun o' q => ?_, fun d' q => hs d' (List.mem_cons_of_mem _ q)⟩
    rcases List.mem_append.mp q with q | q
    · exact hp o' q
    · simp at q; exact q ▸ po
  · subst e
    exact hK acc a b (by simpa using hl) hp hb
def IntR (k : Nat) (o : OD) : Prop := ∃ i : Int, o = .sh (.int i) ∧ i.natAbs ≤ k
theorem ints_of {k : Nat} : ∀ {acc : List OD}, (∀ o ∈ acc, IntR k o) → ∃ l : List Int, acc = l.map (fun i => OD.sh (.int i)) ∧ l.length = acc.length ∧ ∀ i ∈ l, i.natAbs ≤ k
  | [], _ => ⟨[], rfl, rfl, fun _ q => nomatch q⟩
  | o :: acc, h => by
    obtain ⟨i, rfl, hi⟩ := h o (List.mem_cons_self ..)
    obtain ⟨l, rfl, hl, hp⟩ := ints_of fun o q => h o (List.mem_cons_of_mem _ q)
    refine ⟨i :: l, rfl, by simp, fun j q => ?_⟩
    rcases List.mem_cons.mp q with rfl | q
    · exact hi
    · exact hp j q
theorem sz (x : Nat) (h : x ≤ 1000000) : x ≤ sizeLine := Nat.le_trans h (by decide +kernel)
theorem fit_of {k : Int} (h : k.natAbs < 1000000) : fit62 k = true := fit62_of (by omega)
theorem gd_two {n k : Nat} {x y : PyData} (h1 : Gd n k x) (h2 : Gd n k y) (hn : 2 ≤ n := by decide) : Gd n (k + 1) (.tuple [x, y]) := by
  refine .tuple hn fun d q => ?_
  simp only [List.mem_cons, List.not_mem_nil, or_false] at q
  rcases q with rfl | rfl
  · exact h1
  · exact h2
theorem gd_three {n k : Nat} {x y z : PyData} (h1 : Gd n k x) (h2 : Gd n k y) (h3 : Gd n k z) (hn : 3 ≤ n := by decide) : Gd n (k + 1) (.tuple [x, y, z]) := by
  refine .tuple hn fun d q => ?_
  simp only [List.mem_cons, List.not_mem_nil, or_false] at q
  rcases q with rfl | rfl | rfl
  · exact h1
  · exact h2
  · exact h3
theorem mem_range {lo : Int} {k : Nat} {d : PyData} (q : d ∈ rangeD lo k) : ∃ j : Int, d = .int j := by
  unfold rangeD at q
  obtain ⟨j, _, rfl⟩ := List.mem_map.mp q
  exact ⟨_, rfl⟩
theorem sp_row {a b : Int} {k : Nat} (hk : k ≤ 100) (hb : Pk b) : Sat (mr__law_row (potO a b) [.sh (.int k)]) (GdS 2000 2) := by
  unfold mr__law_row ev__law_row
  walk_at "dx"
  refine ⟨fit_of (by omega), lc_pot (IntR 4) (by rw [rangeD_len]; exact sz _ (by omega)) hb (fun d q a b hb => ?_) fun acc a b hl hp hb => ?_⟩
  · walk_at "dx"
    refine (sp_number hb).mono fun r ⟨i, a', b', e, hi, hb'⟩ => ?_
    subst e
    walk_at "dx"
    exact ⟨_, _, _, rfl, ⟨_, rfl, hi⟩, hb'⟩
  · obtain ⟨l, rfl, hll, hi⟩ := ints_of hp
    rw [rangeD_len] at hl
    rw [z_then]
    walk_at "dx"
    rw [er_ints]
    refine (sp_draw hb (n := 12) (by decide) (by decide)).mono fun r ⟨v, a', b', e, hv0, hv1, hb'⟩ => ?_
    subst e
    walk_at "dx"
    refine ⟨_, _, _, rfl, ?_, hb'⟩
    exact gd_two (gd_ints hi (by decide) (by omega)) (.int (by omega))
def oneL (k i v : Int) : List Int := (List.range k.toNat).map fun j => cond (decide ((0 : Int) + (j : Nat) = i)) v 0
theorem oneL_len {k i v : Int} : (oneL k i v).length = k.toNat := by unfold oneL; simp
theorem oneL_le {k i v : Int} : ∀ x ∈ oneL k i v, x.natAbs ≤ v.natAbs := fun x q => by
  unfold oneL at q
  obtain ⟨j, _, rfl⟩ := List.mem_map.mp q
  cases decide ((0 : Int) + (j : Nat) = i)
  · exact Nat.zero_le _
  · exact Nat.le_refl _
theorem e_one {k i v : Int} (hk : k.natAbs ≤ 100) : mr__law_one [.sh (.int k), .sh (.int i), .sh (.int v)] = some (.sh (.tuple ((oneL k i v).map PyData.int))) := by
  refine eq_of_sat ?_
  unfold mr__law_one ev__law_one
  walk_at "dx"
  refine ⟨fit_of (by omega), ?_⟩
  refine Sat.lcL (fun d => .sh (match d with | .int j => .int (cond (decide (j = i)) v 0) | _ => .none)) (by rw [rangeD_len]; exact sz _ (by omega)) (fun d q => ?_) ?_
  · obtain ⟨j, rfl⟩ := mem_range q
    walk_at "dx"
    cases decide (j = i) <;> walk_at "dx"
  · rw [z_then]
    walk_at "dx"
    unfold oneL rangeD
    rw [List.map_map, List.map_map, List.map_map]
    rfl
end K55
set_option exponentiation.threshold 5000
namespace K55
open PySem PySem.Spec PyProof.Rows L2 DX
-- DXSIMP begin
local macro_rules | `(tactic| walk_at "dx") => `(tactic| simp only [b_escs, b_fnT, k_tmHd, k_lstO, k_chk, b_eLcV, b_chkV, beq_self_eq_true, beq_tf, beq_ft, o_or, o_addT, c_int, c_str, c_lst, o_catT, b_catT, o_slT, b_slT, o_rvsL, o_rvsT, k_tmL, b_eRepD, b_eIsi2, j_N, j_B, j_I, j_S, j_L, j_T, k_zpL, k_zpT, b_iZp, b_eAg, z_agStep, o_eqB, o_neB, o_eqN, o_tupL, o_tupT, Option.some_or, Option.none_or, Option.or_none, b_rdTms, b_hardTms, b_softTms, b_esCons, b_opV, b_opL, b_opT, b_eOp, b_rdNil, b_rdCons, b_rdT, b_rdA, b_erS, b_erL, b_eVar, b_eC, b_esNil, b_tTru, b_tBl, b_tAnd, b_tOr, b_tNot, b_eAnd, b_eOr, b_eNot, b_eIf, b_eTup, b_eLst, b_eTupO, b_iR2, k_ints2, b_sExpr, b_eLstO, b_xRaiseF, b_iRev, k_sqdL, k_sqdT, o_listL, o_listT, b_eOpL, k_scOS, b_mvNil, b_mvCons, b_sAppTp, b_erTp, g_hardTp, g_softTp, g_giveTp, k_tpl, k_shTp, b_oSome, b_oNone, b_eSl, b_eMt, b_fn0, b_fnP, b_sRet, b_sAsg, b_gvName, b_gvNil, b_gvCons, b_gvTup, b_gvSub, b_sAsgG, b_sApp, b_sPar, b_sPar3, b_sAppIx, b_sAugI, b_cvsNil, b_cvsCons, b_bindCond, b_condFst, b_condSnd, b_giveT, b_sFor, b_iSq, b_iR1, b_iEnA, wipeE, cYes, at_zero, k_bool, k_int, k_str, k_tup, k_lst, k_list, k_itL, k_itT, k_itSS, k_trN, k_trB, k_trI, k_trSS, k_trL, k_trT, k_scN, k_scB, k_scI, k_scS, k_scL, k_scT, k_shS, k_shL, k_softT, k_hardT, k_cvT, k_softNil, k_softCons, k_hardNil, k_hardCons, g_hard, g_soft, g_cv, g_give, g_hardS, g_hardL, g_softS, g_softL, g_cvS, g_giveS, g_giveL, g_allSh, g_erSh, List.all_cons, List.all_nil, k_retR, k_retN, k_alA, k_hd, k_two, k_three, k_sh, k_odT, k_enS, k_enL, o_addI, o_addS, o_addL, o_sub, o_neg, o_ltI, o_leI, o_gtI, o_geI, o_lenS, o_lenL, o_lenT, o_abs, o_max, o_int, o_ixL, o_ixT, o_ixSS, o_slS, o_slL, o_in1S, o_ni1S, o_eqS, o_neS, o_eqI, o_neI, o_mul, o_div, o_mod, o_pow, o_divmod, z_ble0, z_ble1, z_ble2, z_ble3, z_ble4, z_ble5, z_ble6, z_ble7, z_ble8, z_ble9, z_ble10, z_ble13, z_ble17, S_l, S_len, S_app, es1, es2, startE, sNext, pk, DX.inR, Nat.beq, Nat.ble, List.any_cons, List.any_nil, List.filterMap_cons, List.filterMap_nil, Option.bind_some, Option.bind_none, cond_true, cond_false, decide_true, decide_false, List.map_cons, List.map_nil, List.length_cons, List.length_nil, List.length_map, List.length_set, List.getElem?_cons_zero, List.getElem?_cons_succ, List.cons_append, List.nil_append, List.set_cons_zero, List.set_cons_succ, List.replicate, Nat.reduceAdd, Nat.reduceSub, Nat.zero_add, Int.toNat_natCast, Bool.not_true, Bool.not_false, Bool.or_self, Bool.or_false, Bool.false_or, Bool.and_self, Bool.and_true, Bool.true_and, Bool.and_false, Bool.false_and, Bool.true_or, Bool.or_true, z_some, z_none, z_bind, z_then, z_map, z_mapK, b_eLc, lcStep, forStep, at_0, at_1, at_2, at_3, at_4, at_5, at_m1, ix_0, ix_1, ix_m1, blt_00, blt_0s, blt_12, blt_02, z_ifK, z_guard, z_guardN, z_seqN, z_seqR, z_seqB, z_seqC, z_sSeq, z_sIf, z_forN, z_forC, z_forB, z_forR, r_P1, r_P2, k_condSomeP, k_condNx, k_condEn, k_condSl, k_condPair, k_condTm, k_condSh, k_condI, k_condB, k_condAnd, k_condOr, k_condNot, o_gcd, k_condAndL, k_condOrL, b_jNil, b_jCons, b_eJoin, t_str, str_len, str_empty, Int.cast_ofNat_Int, Int.reduceEq, Int.reduceLT, Int.reduceLE, Int.reduceNeg, Int.reduceAdd, Int.reduceSub, Int.reduceMul, Int.reduceToNat, Int.reducePow, Nat.reduceLT, Nat.reduceLeDiff, Nat.reduceEqDiff, Nat.reduceMul, k_condSelf, x_no, x_raise, x_seqNo, b_xIf, x_inr, x_inl, b_xFn, o_neSelf, o_eqSelf, i_boolN, i_boolB, i_boolI, i_boolS, i_boolL, i_boolT, i_intN, i_intB, i_intI, i_intS, i_intL, i_intT, i_strN, i_strB, i_strI, i_strS, i_strL, i_strT, i_listN, i_listB, i_listI, i_listS, i_listL, i_listT, i_tupleN, i_tupleB, i_tupleI, i_tupleS, i_tupleL, i_tupleT, at_nat, decide_eq_true_eq, decide_eq_false_iff_not, Nat.ble_eq, and_true, true_and, Option.map_some, Option.isSome_some])
local macro_rules | `(tactic| walk_at "dxs") => `(tactic| simp only [b_escs, b_fnT, k_tmHd, k_lstO, k_chk, b_eLcV, b_chkV, beq_self_eq_true, beq_tf, beq_ft, o_or, o_addT, c_int, c_str, c_lst, o_catT, b_catT, o_slT, b_slT, o_rvsL, o_rvsT, k_tmL, b_eRepD, b_eIsi2, j_N, j_B, j_I, j_S, j_L, j_T, k_zpL, k_zpT, b_iZp, b_eAg, z_agStep, o_eqB, o_neB, o_eqN, o_tupL, o_tupT, Option.some_or, Option.none_or, Option.or_none, b_rdTms, b_hardTms, b_softTms, b_esCons, b_opV, b_opL, b_opT, b_eOp, b_rdNil, b_rdCons, b_rdT, b_rdA, b_erS, b_erL, b_eVar, b_eC, b_esNil, b_tTru, b_tBl, b_tAnd, b_tOr, b_tNot, b_eAnd, b_eOr, b_eNot, b_eIf, b_eTup, b_eLst, b_eTupO, b_iR2, k_ints2, b_sExpr, b_eLstO, b_xRaiseF, b_iRev, k_sqdL, k_sqdT, o_listL, o_listT, b_eOpL, k_scOS, b_mvNil, b_mvCons, b_sAppTp, b_erTp, g_hardTp, g_softTp, g_giveTp, k_tpl, k_shTp, b_oSome, b_oNone, b_eSl, b_eMt, b_fn0, b_fnP, b_sRet, b_sAsg, b_gvName, b_gvNil, b_gvCons, b_gvTup, b_gvSub, b_sAsgG, b_sApp, b_sPar, b_sPar3, b_sAppIx, b_sAugI, b_cvsNil, b_cvsCons, b_bindCond, b_condFst, b_condSnd, b_giveT, b_sFor, b_iSq, b_iR1, b_iEnA, wipeE, cYes, at_zero, k_bool, k_int, k_str, k_tup, k_lst, k_list, k_itL, k_itT, k_itSS, k_trN, k_trB, k_trI, k_trSS, k_trL, k_trT, k_scN, k_scB, k_scI, k_scS, k_scL, k_scT, k_shS, k_shL, k_softT, k_hardT, k_cvT, k_softNil, k_softCons, k_hardNil, k_hardCons, g_hard, g_soft, g_cv, g_give, g_hardS, g_hardL, g_softS, g_softL, g_cvS, g_giveS, g_giveL, g_allSh, g_erSh, List.all_cons, List.all_nil, k_retR, k_retN, k_alA, k_hd, k_two, k_three, k_sh, k_odT, k_enS, k_enL, o_addI, o_addS, o_addL, o_sub, o_neg, o_ltI, o_leI, o_gtI, o_geI, o_lenS, o_lenL, o_lenT, o_abs, o_max, o_int, o_ixL, o_ixT, o_ixSS, o_slS, o_slL, o_in1S, o_ni1S, o_eqS, o_neS, o_eqI, o_neI, o_mul, o_div, o_mod, o_pow, o_divmod, z_ble0, z_ble1, z_ble2, z_ble3, z_ble4, z_ble5, z_ble6, z_ble7, z_ble8, z_ble9, z_ble10, z_ble13, z_ble17, S_l, S_len, S_app, es1, es2, startE, sNext, pk, DX.inR, Nat.beq, Nat.ble, List.any_cons, List.any_nil, List.filterMap_cons, List.filterMap_nil, Option.bind_some, Option.bind_none, cond_true, cond_false, decide_true, decide_false, List.map_cons, List.map_nil, List.length_cons, List.length_nil, List.length_map, List.length_set, List.getElem?_cons_zero, List.getElem?_cons_succ, List.cons_append, List.nil_append, List.set_cons_zero, List.set_cons_succ, List.replicate, Nat.reduceAdd, Nat.reduceSub, Nat.zero_add, Int.toNat_natCast, Bool.not_true, Bool.not_false, Bool.or_self, Bool.or_false, Bool.false_or, Bool.and_self, Bool.and_true, Bool.true_and, Bool.and_false, Bool.false_and, Bool.true_or, Bool.or_true, z_some, z_none, z_bind, z_then, z_map, z_mapK, b_eLc, lcStep, forStep, at_0, at_1, at_2, at_3, at_4, at_5, at_m1, ix_0, ix_1, ix_m1, blt_00, blt_0s, blt_12, blt_02, z_ifK, z_guard, z_guardN, z_seqN, z_seqR, z_seqB, z_seqC, z_sSeq, z_sIf, z_forN, z_forC, z_forB, z_forR, r_P1, r_P2, k_condSomeP, k_condNx, k_condEn, k_condSl, k_condPair, k_condTm, k_condSh, k_condI, k_condB, k_condAnd, k_condOr, k_condNot, o_gcd, k_condAndL, k_condOrL, b_jNil, b_jCons, b_eJoin, t_str, str_len, str_empty, Int.cast_ofNat_Int, Int.reduceEq, Int.reduceLT, Int.reduceLE, Int.reduceNeg, Int.reduceAdd, Int.reduceSub, Int.reduceMul, Int.reduceToNat, Int.reducePow, Nat.reduceLT, Nat.reduceLeDiff, Nat.reduceEqDiff, Nat.reduceMul, k_condSelf, x_no, x_raise, x_seqNo, b_xIf, x_inr, x_inl, b_xFn, o_neSelf, o_eqSelf, i_boolN, i_boolB, i_boolI, i_boolS, i_boolL, i_boolT, i_intN, i_intB, i_intI, i_intS, i_intL, i_intT, i_strN, i_strB, i_strI, i_strS, i_strL, i_strT, i_listN, i_listB, i_listI, i_listS, i_listL, i_listT, i_tupleN, i_tupleB, i_tupleI, i_tupleS, i_tupleL, i_tupleT, at_nat, decide_eq_true_eq, decide_eq_false_iff_not, Nat.ble_eq, and_true, true_and, Option.map_some, Option.isSome_some, *])
-- DXSIMP end
theorem set_ints {l : List Int} {k : Nat} {x : Int} : (l.map fun i => OD.sh (.int i)).set k (.sh (.int x)) = (l.set k x).map fun i => OD.sh (.int i) := by
  rw [List.map_set]
theorem ints_sh {l : List Int} : (l.map fun i => OD.sh (.int i)).all OD.isSh = true := by
  rw [List.all_map]; exact List.all_eq_true.mpr fun _ _ => rfl
theorem mem_set {α : Type} {l : List α} {k : Nat} {x y : α} (h : y ∈ l.set k x) : y = x ∨ y ∈ l := by
  rcases List.mem_or_eq_of_mem_set h with h | h
  · exact .inr h
  · exact .inl h
theorem sp_numbers {a b : Int} {k : Nat} (h0 : 0 < k) (hk : k ≤ 100) (hb : Pk b) : Sat (mr__law_numbers (potO a b) [.sh (.int k)]) (GiS 2000 1) := by
  unfold mr__law_numbers ev__law_numbers
  walk_at "dx"
  refine ⟨fit_of (by omega), lc_pot (IntR 4) (by rw [rangeD_len]; exact sz _ (by omega)) hb (fun d q a b hb => ?_) fun acc a b hl hp hb => ?_⟩
  · walk_at "dx"
    refine (sp_number hb).mono fun r ⟨i, a', b', e, hi, hb'⟩ => ?_
    subst e
    walk_at "dx"
    exact ⟨_, _, _, rfl, ⟨_, rfl, hi⟩, hb'⟩
  · obtain ⟨l, rfl, hll, hi⟩ := ints_of hp
    rw [rangeD_len] at hl
    have hlk : l.length = k := hll.trans hl
    rw [z_then]
    walk_at "dx"
    refine ⟨ints_sh, ?_⟩
    rw [er_ints]
    refine Sat.lcM (g := PyData.int) (fun i => .sh (.bool (decide (i = 0)))) (sz _ (by omega)) (fun i q => ?_) ?_
    · walk_at "dx"
    · rw [z_then]
      walk_at "dx"
      rw [o_allM]
      walk_at "dx"
      refine Sat.split (fun h1 => ?_) fun h1 => ?_
      · walk_at "dx"
        refine (sp_pick hb (by simp) (by simp)).mono fun r ⟨d, a2, b2, e, hd, hb2⟩ => ?_
        subst e
        walk_at "dx"
        refine (sp_draw hb2 (n := (k : Nat)) (by omega) (by omega)).mono fun r ⟨v, a3, b3, e, hv0, hv1, hb3⟩ => ?_
        subst e
        obtain ⟨w, rfl⟩ : ∃ w : Nat, v = w := ⟨v.toNat, by omega⟩
        walk_at "dx"
        simp only [List.mem_cons, List.not_mem_nil, or_false] at hd
        obtain ⟨x, rfl, hx⟩ : ∃ x : Int, d = .int x ∧ x.natAbs ≤ 4 := by
          rcases hd with rfl | rfl | rfl | rfl <;> exact ⟨_, rfl, by decide⟩
        rw [ixN_nat (by omega)]
        walk_at "dx"
        rw [set_ints, er_ints]
        refine ⟨_, _, _, rfl, gi_ints (k := 4) (fun j q => ?_) (by decide) (by rw [List.length_set]; omega), hb3⟩
        rcases mem_set q with rfl | q
        · exact hx
        · exact hi j q
      · walk_at "dx"
        rw [er_ints]
        exact ⟨_, _, _, rfl, gi_ints hi (by decide) (by omega), hb⟩
theorem gd_lst {n k : Nat} {l : List OD} (h : ∀ o ∈ l, Gd n k o.er) (hl : l.length ≤ n) : Gd n (k + 1) (OD.lst l).er := by
  rw [b_erL]
  refine .list (by simpa using hl) fun d q => ?_
  obtain ⟨o, q', rfl⟩ := List.mem_map.mp q
  exact h o q'
theorem sp_linear0 {a b : Int} {m mo : Nat} {ws : List PyData} (h1 : 0 < m ∧ m ≤ 2) (h2 : mo ≤ 8) (hb : Pk b) : Sat (mr__law_terms (potO a b) [.sh (.tuple (.int m :: .int mo :: ws))]) (GiR 2000 3) := by
  unfold mr__law_terms ev__law_terms
  walk_at "dx"
  refine ⟨fit_of (by omega), ?_⟩
  refine Sat.for (fun es os => ∃ (a b : Int) (l : List OD) (z : Option OD), os = [some (potO a b), some (.sh (.tuple (.int m :: .int mo :: ws))), some (.lst l), z] ∧ Pk b ∧ (∀ o ∈ l, Gi 2000 2 o.er) ∧ l.length + es.length ≤ mo ∧ ∀ d ∈ es, ∃ j : Int, d = .int j ∧ j.natAbs ≤ 8) ⟨a, b, [], _, rfl, hb, (fun _ q => nomatch q), by rw [rangeD_len]; simp, fun d q => ?_⟩ (fun d es os ⟨a, b, l, z, e, hb, hl, hn, hs⟩ => ?_) fun os ⟨a, b, l, z, e, hb, hl, hn, hs⟩ => ?_
  · unfold rangeD at q
    obtain ⟨j, q', rfl⟩ := List.mem_map.mp q
    have := List.mem_range.mp q'
    exact ⟨_, rfl, by omega⟩
  · subst e
    obtain ⟨j, rfl, hj⟩ := hs d (List.mem_cons_self ..)
    walk_at "dx"
    refine (sp_draw hb (n := 3) (by decide) (by decide)).mono fun r ⟨v, a2, b2, e, hv0, hv1, hb2⟩ => ?_
    subst e
    walk_at "dx"
    refine Sat.split (fun h3 => ?_) fun h3 => ?_
    · walk_at "dx"
      refine (sp_numbers h1.1 (by omega) hb2).mono fun r ⟨o, a3, b3, e, ho, hb3⟩ => ?_
      subst e
      walk_at "dx"
      refine ⟨Nat.ble_eq_true_of_le (sz _ (by simp at hn; omega)), a3, b3, _, _, rfl, hb3, fun o' q => ?_, by simp at hn ⊢; omega, fun d q => hs d (List.mem_cons_of_mem _ q)⟩
      rcases List.mem_append.mp q with q | q
      · exact hl o' q
      · simp only [List.mem_cons, List.not_mem_nil, or_false] at q
        subst q
        exact gi_two (.int (by omega)) ho
    · walk_at "dx"
      exact ⟨a2, b2, _, _, rfl, hb2, hl, by simp at hn ⊢; omega, fun d q => hs d (List.mem_cons_of_mem _ q)⟩
  · subst e
    walk_at "dx"
    refine ⟨_, _, _, rfl, gi_lst hl (by simp at hn; omega), hb⟩
theorem sp_linear {a b : Int} {m mo : Nat} {ws : List PyData} (h1 : 0 < m ∧ m ≤ 2) (h2 : mo ≤ 8) (hb : Pk b) : Sat (mr__law_linear (potO a b) [.sh (.tuple (.int m :: .int mo :: ws))]) (fun r => ∃ (x y : PyData) (a b : Int), r = (.sh (.tuple [x, y]), potO a b) ∧ Gi 2000 3 x ∧ Gi 2000 3 y ∧ Pk b) := by
  unfold mr__law_linear ev__law_linear
  walk_at "dx"
  refine (sp_linear0 h1 h2 hb).mono fun r ⟨o, a3, b3, e, ho, hb3⟩ => ?_
  subst e
  walk_at "dx"
  refine (sp_draw hb3 (n := 15) (by decide) (by decide)).mono fun r ⟨v, a2, b2, e, hv0, hv1, hb2⟩ => ?_
  subst e
  walk_at "dx"
  exact ⟨_, _, _, _, rfl, ho, .int (by omega), hb2⟩
end K55
set_option exponentiation.threshold 5000
namespace K55
open PySem PySem.Spec PyProof.Rows L2 DX
-- DXSIMP begin
local macro_rules | `(tactic| walk_at "dx") => `(tactic| simp only [b_escs, b_fnT, k_tmHd, k_lstO, k_chk, b_eLcV, b_chkV, beq_self_eq_true, beq_tf, beq_ft, o_or, o_addT, c_int, c_str, c_lst, o_catT, b_catT, o_slT, b_slT, o_rvsL, o_rvsT, k_tmL, b_eRepD, b_eIsi2, j_N, j_B, j_I, j_S, j_L, j_T, k_zpL, k_zpT, b_iZp, b_eAg, z_agStep, o_eqB, o_neB, o_eqN, o_tupL, o_tupT, Option.some_or, Option.none_or, Option.or_none, b_rdTms, b_hardTms, b_softTms, b_esCons, b_opV, b_opL, b_opT, b_eOp, b_rdNil, b_rdCons, b_rdT, b_rdA, b_erS, b_erL, b_eVar, b_eC, b_esNil, b_tTru, b_tBl, b_tAnd, b_tOr, b_tNot, b_eAnd, b_eOr, b_eNot, b_eIf, b_eTup, b_eLst, b_eTupO, b_iR2, k_ints2, b_sExpr, b_eLstO, b_xRaiseF, b_iRev, k_sqdL, k_sqdT, o_listL, o_listT, b_eOpL, k_scOS, b_mvNil, b_mvCons, b_sAppTp, b_erTp, g_hardTp, g_softTp, g_giveTp, k_tpl, k_shTp, b_oSome, b_oNone, b_eSl, b_eMt, b_fn0, b_fnP, b_sRet, b_sAsg, b_gvName, b_gvNil, b_gvCons, b_gvTup, b_gvSub, b_sAsgG, b_sApp, b_sPar, b_sPar3, b_sAppIx, b_sAugI, b_cvsNil, b_cvsCons, b_bindCond, b_condFst, b_condSnd, b_giveT, b_sFor, b_iSq, b_iR1, b_iEnA, wipeE, cYes, at_zero, k_bool, k_int, k_str, k_tup, k_lst, k_list, k_itL, k_itT, k_itSS, k_trN, k_trB, k_trI, k_trSS, k_trL, k_trT, k_scN, k_scB, k_scI, k_scS, k_scL, k_scT, k_shS, k_shL, k_softT, k_hardT, k_cvT, k_softNil, k_softCons, k_hardNil, k_hardCons, g_hard, g_soft, g_cv, g_give, g_hardS, g_hardL, g_softS, g_softL, g_cvS, g_giveS, g_giveL, g_allSh, g_erSh, List.all_cons, List.all_nil, k_retR, k_retN, k_alA, k_hd, k_two, k_three, k_sh, k_odT, k_enS, k_enL, o_addI, o_addS, o_addL, o_sub, o_neg, o_ltI, o_leI, o_gtI, o_geI, o_lenS, o_lenL, o_lenT, o_abs, o_max, o_int, o_ixL, o_ixT, o_ixSS, o_slS, o_slL, o_in1S, o_ni1S, o_eqS, o_neS, o_eqI, o_neI, o_mul, o_div, o_mod, o_pow, o_divmod, z_ble0, z_ble1, z_ble2, z_ble3, z_ble4, z_ble5, z_ble6, z_ble7, z_ble8, z_ble9, z_ble10, z_ble13, z_ble17, S_l, S_len, S_app, es1, es2, startE, sNext, pk, DX.inR, Nat.beq, Nat.ble, List.any_cons, List.any_nil, List.filterMap_cons, List.filterMap_nil, Option.bind_some, Option.bind_none, cond_true, cond_false, decide_true, decide_false, List.map_cons, List.map_nil, List.length_cons, List.length_nil, List.length_map, List.length_set, List.getElem?_cons_zero, List.getElem?_cons_succ, List.cons_append, List.nil_append, List.set_cons_zero, List.set_cons_succ, List.replicate, Nat.reduceAdd, Nat.reduceSub, Nat.zero_add, Int.toNat_natCast, Bool.not_true, Bool.not_false, Bool.or_self, Bool.or_false, Bool.false_or, Bool.and_self, Bool.and_true, Bool.true_and, Bool.and_false, Bool.false_and, Bool.true_or, Bool.or_true, z_some, z_none, z_bind, z_then, z_map, z_mapK, b_eLc, lcStep, forStep, at_0, at_1, at_2, at_3, at_4, at_5, at_m1, ix_0, ix_1, ix_m1, blt_00, blt_0s, blt_12, blt_02, z_ifK, z_guard, z_guardN, z_seqN, z_seqR, z_seqB, z_seqC, z_sSeq, z_sIf, z_forN, z_forC, z_forB, z_forR, r_P1, r_P2, k_condSomeP, k_condNx, k_condEn, k_condSl, k_condPair, k_condTm, k_condSh, k_condI, k_condB, k_condAnd, k_condOr, k_condNot, o_gcd, k_condAndL, k_condOrL, b_jNil, b_jCons, b_eJoin, t_str, str_len, str_empty, Int.cast_ofNat_Int, Int.reduceEq, Int.reduceLT, Int.reduceLE, Int.reduceNeg, Int.reduceAdd, Int.reduceSub, Int.reduceMul, Int.reduceToNat, Int.reducePow, Nat.reduceLT, Nat.reduceLeDiff, Nat.reduceEqDiff, Nat.reduceMul, k_condSelf, x_no, x_raise, x_seqNo, b_xIf, x_inr, x_inl, b_xFn, o_neSelf, o_eqSelf, i_boolN, i_boolB, i_boolI, i_boolS, i_boolL, i_boolT, i_intN, i_intB, i_intI, i_intS, i_intL, i_intT, i_strN, i_strB, i_strI, i_strS, i_strL, i_strT, i_listN, i_listB, i_listI, i_listS, i_listL, i_listT, i_tupleN, i_tupleB, i_tupleI, i_tupleS, i_tupleL, i_tupleT, at_nat, decide_eq_true_eq, decide_eq_false_iff_not, Nat.ble_eq, and_true, true_and, Option.map_some, Option.isSome_some])
local macro_rules | `(tactic| walk_at "dxs") => `(tactic| simp only [b_escs, b_fnT, k_tmHd, k_lstO, k_chk, b_eLcV, b_chkV, beq_self_eq_true, beq_tf, beq_ft, o_or, o_addT, c_int, c_str, c_lst, o_catT, b_catT, o_slT, b_slT, o_rvsL, o_rvsT, k_tmL, b_eRepD, b_eIsi2, j_N, j_B, j_I, j_S, j_L, j_T, k_zpL, k_zpT, b_iZp, b_eAg, z_agStep, o_eqB, o_neB, o_eqN, o_tupL, o_tupT, Option.some_or, Option.none_or, Option.or_none, b_rdTms, b_hardTms, b_softTms, b_esCons, b_opV, b_opL, b_opT, b_eOp, b_rdNil, b_rdCons, b_rdT, b_rdA, b_erS, b_erL, b_eVar, b_eC, b_esNil, b_tTru, b_tBl, b_tAnd, b_tOr, b_tNot, b_eAnd, b_eOr, b_eNot, b_eIf, b_eTup, b_eLst, b_eTupO, b_iR2, k_ints2, b_sExpr, b_eLstO, b_xRaiseF, b_iRev, k_sqdL, k_sqdT, o_listL, o_listT, b_eOpL, k_scOS, b_mvNil, b_mvCons, b_sAppTp, b_erTp, g_hardTp, g_softTp, g_giveTp, k_tpl, k_shTp, b_oSome, b_oNone, b_eSl, b_eMt, b_fn0, b_fnP, b_sRet, b_sAsg, b_gvName, b_gvNil, b_gvCons, b_gvTup, b_gvSub, b_sAsgG, b_sApp, b_sPar, b_sPar3, b_sAppIx, b_sAugI, b_cvsNil, b_cvsCons, b_bindCond, b_condFst, b_condSnd, b_giveT, b_sFor, b_iSq, b_iR1, b_iEnA, wipeE, cYes, at_zero, k_bool, k_int, k_str, k_tup, k_lst, k_list, k_itL, k_itT, k_itSS, k_trN, k_trB, k_trI, k_trSS, k_trL, k_trT, k_scN, k_scB, k_scI, k_scS, k_scL, k_scT, k_shS, k_shL, k_softT, k_hardT, k_cvT, k_softNil, k_softCons, k_hardNil, k_hardCons, g_hard, g_soft, g_cv, g_give, g_hardS, g_hardL, g_softS, g_softL, g_cvS, g_giveS, g_giveL, g_allSh, g_erSh, List.all_cons, List.all_nil, k_retR, k_retN, k_alA, k_hd, k_two, k_three, k_sh, k_odT, k_enS, k_enL, o_addI, o_addS, o_addL, o_sub, o_neg, o_ltI, o_leI, o_gtI, o_geI, o_lenS, o_lenL, o_lenT, o_abs, o_max, o_int, o_ixL, o_ixT, o_ixSS, o_slS, o_slL, o_in1S, o_ni1S, o_eqS, o_neS, o_eqI, o_neI, o_mul, o_div, o_mod, o_pow, o_divmod, z_ble0, z_ble1, z_ble2, z_ble3, z_ble4, z_ble5, z_ble6, z_ble7, z_ble8, z_ble9, z_ble10, z_ble13, z_ble17, S_l, S_len, S_app, es1, es2, startE, sNext, pk, DX.inR, Nat.beq, Nat.ble, List.any_cons, List.any_nil, List.filterMap_cons, List.filterMap_nil, Option.bind_some, Option.bind_none, cond_true, cond_false, decide_true, decide_false, List.map_cons, List.map_nil, List.length_cons, List.length_nil, List.length_map, List.length_set, List.getElem?_cons_zero, List.getElem?_cons_succ, List.cons_append, List.nil_append, List.set_cons_zero, List.set_cons_succ, List.replicate, Nat.reduceAdd, Nat.reduceSub, Nat.zero_add, Int.toNat_natCast, Bool.not_true, Bool.not_false, Bool.or_self, Bool.or_false, Bool.false_or, Bool.and_self, Bool.and_true, Bool.true_and, Bool.and_false, Bool.false_and, Bool.true_or, Bool.or_true, z_some, z_none, z_bind, z_then, z_map, z_mapK, b_eLc, lcStep, forStep, at_0, at_1, at_2, at_3, at_4, at_5, at_m1, ix_0, ix_1, ix_m1, blt_00, blt_0s, blt_12, blt_02, z_ifK, z_guard, z_guardN, z_seqN, z_seqR, z_seqB, z_seqC, z_sSeq, z_sIf, z_forN, z_forC, z_forB, z_forR, r_P1, r_P2, k_condSomeP, k_condNx, k_condEn, k_condSl, k_condPair, k_condTm, k_condSh, k_condI, k_condB, k_condAnd, k_condOr, k_condNot, o_gcd, k_condAndL, k_condOrL, b_jNil, b_jCons, b_eJoin, t_str, str_len, str_empty, Int.cast_ofNat_Int, Int.reduceEq, Int.reduceLT, Int.reduceLE, Int.reduceNeg, Int.reduceAdd, Int.reduceSub, Int.reduceMul, Int.reduceToNat, Int.reducePow, Nat.reduceLT, Nat.reduceLeDiff, Nat.reduceEqDiff, Nat.reduceMul, k_condSelf, x_no, x_raise, x_seqNo, b_xIf, x_inr, x_inl, b_xFn, o_neSelf, o_eqSelf, i_boolN, i_boolB, i_boolI, i_boolS, i_boolL, i_boolT, i_intN, i_intB, i_intI, i_intS, i_intL, i_intT, i_strN, i_strB, i_strI, i_strS, i_strL, i_strT, i_listN, i_listB, i_listI, i_listS, i_listL, i_listT, i_tupleN, i_tupleB, i_tupleI, i_tupleS, i_tupleL, i_tupleT, at_nat, decide_eq_true_eq, decide_eq_false_iff_not, Nat.ble_eq, and_true, true_and, Option.map_some, Option.isSome_some, *])
-- DXSIMP end
theorem szS (x : Nat) (h : x ≤ 1000000) : Nat.ble x strMax = true := Nat.ble_eq_true_of_le (Nat.le_trans h (by decide +kernel))
theorem szM (x : Nat) (h : x ≤ 1000000) : x ≤ strMax := Nat.le_trans h (by decide +kernel)
theorem szL (x : Nat) (h : x ≤ 1000000) : Nat.ble x sizeLine = true := Nat.ble_eq_true_of_le (Nat.le_trans h (by decide +kernel))
theorem strOk_mem {x : Str} (h : PyData.strOk x = true) {c : Nat} (q : c ∈ x.cps.toList) : PyData.strOk (S [c]) = true := by
  unfold PyData.strOk at h ⊢
  rw [Array.all_eq_true_iff_forall_mem] at h
  have := h c (Array.mem_def.mpr q)
  simpa [S] using this
def StO (k : Nat) (x : Str) : Prop := PyData.strOk x = true ∧ x.length ≤ k
theorem StO.app {k l : Nat} {x y : Str} (h : StO k x) (g : StO l y) : StO (k + l) (x ++ y) := by
  refine ⟨by rw [strOk_append, h.1, g.1]; rfl, ?_⟩
  rw [str_len]
  have := h.2
  have := g.2
  omega
theorem StO.int {i : Int} (h : i.natAbs < 2 ^ 800) : StO 242 (strI i) := ⟨strOk_ofString _, strI_len h⟩
theorem StO.gd {k n m : Nat} {x : Str} (h : StO k x) (hk : k ≤ n) : Gd n m (.str x) := .str h.1 (Nat.le_trans h.2 hk)
theorem small {i : Int} (h : i.natAbs < 1000000) : i.natAbs < 2 ^ 800 := Nat.lt_of_lt_of_le h (Nat.le_trans (show 1000000 ≤ 2 ^ 20 by decide) (Nat.pow_le_pow_right (by decide) (by decide)))
theorem sp_name {a b : Int} {k : Nat} (hk : k ≤ 100) (hb : Pk b) : Sat (mr__law_name (potO a b) [.sh (.int k)]) (GdS 2000 1) := by
  unfold mr__law_name ev__law_name
  walk_at "dx"
  refine (sp_pickS hb (by decide +kernel) (by decide +kernel)).mono fun r ⟨c, a2, b2, e, hc, hb2⟩ => ?_
  subst e
  have h1 : StO 1 (S [c]) := ⟨strOk_mem (by decide +kernel) hc, Nat.le_refl _⟩
  walk_at "dx"
  refine (sp_draw hb2 (n := 10) (by decide) (by decide)).mono fun r ⟨v, a3, b3, e, hv0, hv1, hb3⟩ => ?_
  subst e
  have hx : StO 242 (strI v) := .int (small (by omega))
  have hkk : StO 242 (strI k) := .int (small (by omega))
  walk_at "dx"
  have s1 : opStr [.int v] = some (.val (.str (strI v))) := o_str (small (by omega))
  have s2 : opStr [.int (k : Int)] = some (.val (.str (strI k))) := o_str (small (by omega))
  rw [s1]
  walk_at "dx"
  clear hc hv0 hv1 hb
  clear hb2
  walk_at "dxs"
  have l1 := hx.2
  have l2 := hkk.2
  have lz : (Str.ofString "z").length = 1 := by decide +kernel
  refine ⟨szM _ (by omega), szM _ (by omega), szM _ (by omega), szM _ (by omega), szM _ (by omega), szM _ (by omega), szM _ (by omega), szM _ (by omega), szM _ (by omega), ?_⟩
  refine (sp_pick hb3 (by simp) (by simp)).mono fun r ⟨d, a2, b2, e, hd, hb2⟩ => ?_
  subst e
  walk_at "dx"
  refine ⟨_, _, _, rfl, ?_, hb2⟩
  have hz : StO 1 (Str.ofString "z") := ⟨strOk_ofString _, by omega⟩
  have h2 : StO 2 (S [c, c]) := by rw [show S [c, c] = S [c] ++ S [c] from (S_app [c] [c]).symm]; exact h1.app h1
  simp only [List.mem_cons, List.not_mem_nil, or_false] at hd
  rcases hd with rfl | rfl | rfl | rfl
  · exact (h1.app hkk).gd (by decide)
  · exact (((h1.app hkk).app hx).app h1).gd (by decide)
  · exact (h2.app hkk).gd (by decide)
  · exact (((hz.app h1).app hkk).app hx).gd (by decide)
/-- rows -/
def RowsR (k : Nat) (r : OD × OD) : Prop := ∃ (l : List PyData) (a b : Int), r = (.lst (l.map OD.sh), potO a b) ∧ (∀ d ∈ l, Gd 2000 2 d) ∧ l.length ≤ k ∧ Pk b
theorem one_gd {m : Nat} {i v : Int} (hm : m ≤ 100) (hv : v.natAbs ≤ 100) : Gd 2000 1 (.tuple ((oneL (m : Int) i v).map PyData.int)) := gd_ints (k := 100) (fun x q => Nat.le_trans (oneL_le x q) hv) (by decide) (by rw [oneL_len]; omega)
theorem er_sh {l : List PyData} : (l.map OD.sh).map OD.er = l := by
  rw [List.map_map]
  exact (List.map_congr_left fun _ _ => rfl).trans (List.map_id l)
theorem range_mem {k : Nat} {d : PyData} (q : d ∈ rangeD 0 k) : ∃ j : Nat, d = .int j ∧ j < k := by
  unfold rangeD at q
  obtain ⟨j, q', rfl⟩ := List.mem_map.mp q
  exact ⟨j, by rw [Int.zero_add], List.mem_range.mp q'⟩
theorem mem_cut {xs : List PyData} {lo hi : Option Int} {d : PyData} (q : d ∈ DX.cutD xs lo hi) : d ∈ xs := by
  unfold DX.cutD at q
  exact List.mem_of_mem_drop (List.mem_of_mem_take q)
theorem len_cut {xs : List PyData} {lo hi : Option Int} : (DX.cutD xs lo hi).length ≤ xs.length := by
  unfold DX.cutD
  rw [List.length_take, List.length_drop]
  omega
theorem two_rows {x y : PyData} {k : Nat} (h1 : Gd 2000 k x) (h2 : Gd 2000 k y) : ∀ d ∈ [x, y], Gd 2000 k d := fun d q => by
  simp only [List.mem_cons, List.not_mem_nil, or_false] at q
  rcases q with rfl | rfl
  · exact h1
  · exact h2
theorem rows_of {x y d : PyData} {k : Nat} {lo hi : Option Int} (h1 : Gd 2000 k x) (h2 : Gd 2000 k y) (h : d ∈ [.list [], .list (DX.cutD [x, y] lo hi), .list [x, y], .list [x, y]]) : ∃ ds, d = .list ds ∧ (∀ d ∈ ds, Gd 2000 k d) ∧ ds.length ≤ 2 := by
  simp only [List.mem_cons, List.not_mem_nil, or_false] at h
  rcases h with rfl | rfl | rfl | rfl
  · exact ⟨_, rfl, (fun _ q => nomatch q), by simp⟩
  · exact ⟨_, rfl, fun d q => two_rows h1 h2 d (mem_cut q), Nat.le_trans len_cut (by simp)⟩
  · exact ⟨_, rfl, two_rows h1 h2, by simp⟩
  · exact ⟨_, rfl, two_rows h1 h2, by simp⟩
theorem sp_start {a b : Int} {m : Nat} (hm : 0 < m ∧ m ≤ 2) (hb : Pk b) : Sat (mr__law_start (potO a b) [.sh (.int m)]) (RowsR 10) := by
  unfold mr__law_start ev__law_start
  walk_at "dx"
  refine ⟨sz _ (by decide), ?_⟩
  refine (sp_pick hb (by decide) (by decide)).mono fun r ⟨d, a2, b2, e, hd, hb2⟩ => ?_
  subst e
  obtain ⟨j, rfl, hj0, hj⟩ : ∃ j : Int, d = .int j ∧ 0 ≤ j ∧ j ≤ 2 := by
    simp only [cl__law_start_1, List.mem_cons, List.not_mem_nil, or_false] at hd
    rcases hd with rfl | rfl | rfl | rfl | rfl <;> exact ⟨_, rfl, by decide, by decide⟩
  walk_at "dx"
  refine ⟨fit_of (by omega), lc_pot (ShG 2000 2) (by rw [rangeD_len]; exact sz _ (by omega)) hb2 (fun d q a b hb => ?_) fun acc a b hl hp hb => ?_⟩
  · walk_at "dx"
    refine (sp_row (by omega) hb).mono fun r ⟨o, a3, b3, e, ho, hb3⟩ => ?_
    subst e
    walk_at "dx"
    exact ⟨_, _, _, rfl, ⟨_, rfl, ho⟩, hb3⟩
  · rw [rangeD_len] at hl
    obtain ⟨rs, rfl, hrl, hrs⟩ := shs_of hp
    rw [z_then]
    walk_at "dx"
    refine ⟨fit_of (by omega), ?_⟩
    refine Sat.for (fun es os => ∃ (a b : Int) (l : List PyData) (z3 z4 z5 z6 : Option OD), os = [some (potO a b), some (.sh (.int m)), some (.lst (l.map OD.sh)), z3, z4, z5, z6, none] ∧ Pk b ∧ (∀ d ∈ l, Gd 2000 2 d) ∧ l.length + 2 * es.length ≤ 6 ∧ ∀ d ∈ es, ∃ j : Nat, d = .int j ∧ j < m) ⟨a, b, rs, _, _, _, _, rfl, hb, hrs, by rw [rangeD_len]; omega, fun d q => ?_⟩ (fun d es os ⟨a, b, l, z3, z4, z5, z6, e, hb, hg, hn, hs⟩ => ?_) fun os ⟨a, b, l, z3, z4, z5, z6, e, hb, hg, hn, hs⟩ => ?_
    · exact range_mem q
    · subst e
      obtain ⟨j, rfl, hj⟩ := hs d (List.mem_cons_self ..)
      walk_at "dx"
      refine (sp_draw hb (n := 6) (by decide) (by decide)).mono fun r ⟨v, a2, b2, e, hv0, hv1, hb2⟩ => ?_
      subst e
      walk_at "dx"
      refine (sp_draw hb2 (n := 6) (by decide) (by decide)).mono fun r ⟨w, a3, b3, e, hw0, hw1, hb3⟩ => ?_
      subst e
      walk_at "dx"
      rw [e_one (by omega)]
      walk_at "dx"
      rw [e_one (by omega)]
      walk_at "dx"
      have p1 : Gd 2000 2 (.tuple [.tuple ((oneL (m : Int) (j : Int) (-1)).map PyData.int), .int (-(v - 3))]) := gd_two (one_gd (by omega) (by decide)) (.int (by omega))
      have p2 : Gd 2000 2 (.tuple [.tuple ((oneL (m : Int) (j : Int) 1).map PyData.int), .int (v - 3 + w)]) := gd_two (one_gd (by omega) (by decide)) (.int (by omega))
      refine (sp_pick hb3 (by simp) (by simp)).mono fun r ⟨d, a4, b4, e, hd, hb4⟩ => ?_
      subst e
      obtain ⟨ds, rfl, hds, hdl⟩ := rows_of p1 p2 hd
      walk_at "dx"
      simp only [List.length_cons] at hn
      refine ⟨sz _ (by omega), a4, b4, l ++ ds, _, _, _, _, rfl, hb4, fun d q => ?_, by rw [List.length_append]; omega, fun d q => hs d (List.mem_cons_of_mem _ q)⟩
      rcases List.mem_append.mp q with q | q
      · exact hg d q
      · exact hds d q
    · subst e
      walk_at "dx"
      exact ⟨l, _, _, rfl, hg, by simp at hn; omega, hb⟩
end K55
set_option exponentiation.threshold 5000
namespace K55
open PySem PySem.Spec PyProof.Rows L2 DX
-- DXSIMP begin
local macro_rules | `(tactic| walk_at "dx") => `(tactic| simp only [b_escs, b_fnT, k_tmHd, k_lstO, k_chk, b_eLcV, b_chkV, beq_self_eq_true, beq_tf, beq_ft, o_or, o_addT, c_int, c_str, c_lst, o_catT, b_catT, o_slT, b_slT, o_rvsL, o_rvsT, k_tmL, b_eRepD, b_eIsi2, j_N, j_B, j_I, j_S, j_L, j_T, k_zpL, k_zpT, b_iZp, b_eAg, z_agStep, o_eqB, o_neB, o_eqN, o_tupL, o_tupT, Option.some_or, Option.none_or, Option.or_none, b_rdTms, b_hardTms, b_softTms, b_esCons, b_opV, b_opL, b_opT, b_eOp, b_rdNil, b_rdCons, b_rdT, b_rdA, b_erS, b_erL, b_eVar, b_eC, b_esNil, b_tTru, b_tBl, b_tAnd, b_tOr, b_tNot, b_eAnd, b_eOr, b_eNot, b_eIf, b_eTup, b_eLst, b_eTupO, b_iR2, k_ints2, b_sExpr, b_eLstO, b_xRaiseF, b_iRev, k_sqdL, k_sqdT, o_listL, o_listT, b_eOpL, k_scOS, b_mvNil, b_mvCons, b_sAppTp, b_erTp, g_hardTp, g_softTp, g_giveTp, k_tpl, k_shTp, b_oSome, b_oNone, b_eSl, b_eMt, b_fn0, b_fnP, b_sRet, b_sAsg, b_gvName, b_gvNil, b_gvCons, b_gvTup, b_gvSub, b_sAsgG, b_sApp, b_sPar, b_sPar3, b_sAppIx, b_sAugI, b_cvsNil, b_cvsCons, b_bindCond, b_condFst, b_condSnd, b_giveT, b_sFor, b_iSq, b_iR1, b_iEnA, wipeE, cYes, at_zero, k_bool, k_int, k_str, k_tup, k_lst, k_list, k_itL, k_itT, k_itSS, k_trN, k_trB, k_trI, k_trSS, k_trL, k_trT, k_scN, k_scB, k_scI, k_scS, k_scL, k_scT, k_shS, k_shL, k_softT, k_hardT, k_cvT, k_softNil, k_softCons, k_hardNil, k_hardCons, g_hard, g_soft, g_cv, g_give, g_hardS, g_hardL, g_softS, g_softL, g_cvS, g_giveS, g_giveL, g_allSh, g_erSh, List.all_cons, List.all_nil, k_retR, k_retN, k_alA, k_hd, k_two, k_three, k_sh, k_odT, k_enS, k_enL, o_addI, o_addS, o_addL, o_sub, o_neg, o_ltI, o_leI, o_gtI, o_geI, o_lenS, o_lenL, o_lenT, o_abs, o_max, o_int, o_ixL, o_ixT, o_ixSS, o_slS, o_slL, o_in1S, o_ni1S, o_eqS, o_neS, o_eqI, o_neI, o_mul, o_div, o_mod, o_pow, o_divmod, z_ble0, z_ble1, z_ble2, z_ble3, z_ble4, z_ble5, z_ble6, z_ble7, z_ble8, z_ble9, z_ble10, z_ble13, z_ble17, S_l, S_len, S_app, es1, es2, startE, sNext, pk, DX.inR, Nat.beq, Nat.ble, List.any_cons, List.any_nil, List.filterMap_cons, List.filterMap_nil, Option.bind_some, Option.bind_none, cond_true, cond_false, decide_true, decide_false, List.map_cons, List.map_nil, List.length_cons, List.length_nil, List.length_map, List.length_set, List.getElem?_cons_zero, List.getElem?_cons_succ, List.cons_append, List.nil_append, List.set_cons_zero, List.set_cons_succ, List.replicate, Nat.reduceAdd, Nat.reduceSub, Nat.zero_add, Int.toNat_natCast, Bool.not_true, Bool.not_false, Bool.or_self, Bool.or_false, Bool.false_or, Bool.and_self, Bool.and_true, Bool.true_and, Bool.and_false, Bool.false_and, Bool.true_or, Bool.or_true, z_some, z_none, z_bind, z_then, z_map, z_mapK, b_eLc, lcStep, forStep, at_0, at_1, at_2, at_3, at_4, at_5, at_m1, ix_0, ix_1, ix_m1, blt_00, blt_0s, blt_12, blt_02, z_ifK, z_guard, z_guardN, z_seqN, z_seqR, z_seqB, z_seqC, z_sSeq, z_sIf, z_forN, z_forC, z_forB, z_forR, r_P1, r_P2, k_condSomeP, k_condNx, k_condEn, k_condSl, k_condPair, k_condTm, k_condSh, k_condI, k_condB, k_condAnd, k_condOr, k_condNot, o_gcd, k_condAndL, k_condOrL, b_jNil, b_jCons, b_eJoin, t_str, str_len, str_empty, Int.cast_ofNat_Int, Int.reduceEq, Int.reduceLT, Int.reduceLE, Int.reduceNeg, Int.reduceAdd, Int.reduceSub, Int.reduceMul, Int.reduceToNat, Int.reducePow, Nat.reduceLT, Nat.reduceLeDiff, Nat.reduceEqDiff, Nat.reduceMul, k_condSelf, x_no, x_raise, x_seqNo, b_xIf, x_inr, x_inl, b_xFn, o_neSelf, o_eqSelf, i_boolN, i_boolB, i_boolI, i_boolS, i_boolL, i_boolT, i_intN, i_intB, i_intI, i_intS, i_intL, i_intT, i_strN, i_strB, i_strI, i_strS, i_strL, i_strT, i_listN, i_listB, i_listI, i_listS, i_listL, i_listT, i_tupleN, i_tupleB, i_tupleI, i_tupleS, i_tupleL, i_tupleT, at_nat, decide_eq_true_eq, decide_eq_false_iff_not, Nat.ble_eq, and_true, true_and, Option.map_some, Option.isSome_some])
local macro_rules | `(tactic| walk_at "dxs") => `(tactic| simp only [b_escs, b_fnT, k_tmHd, k_lstO, k_chk, b_eLcV, b_chkV, beq_self_eq_true, beq_tf, beq_ft, o_or, o_addT, c_int, c_str, c_lst, o_catT, b_catT, o_slT, b_slT, o_rvsL, o_rvsT, k_tmL, b_eRepD, b_eIsi2, j_N, j_B, j_I, j_S, j_L, j_T, k_zpL, k_zpT, b_iZp, b_eAg, z_agStep, o_eqB, o_neB, o_eqN, o_tupL, o_tupT, Option.some_or, Option.none_or, Option.or_none, b_rdTms, b_hardTms, b_softTms, b_esCons, b_opV, b_opL, b_opT, b_eOp, b_rdNil, b_rdCons, b_rdT, b_rdA, b_erS, b_erL, b_eVar, b_eC, b_esNil, b_tTru, b_tBl, b_tAnd, b_tOr, b_tNot, b_eAnd, b_eOr, b_eNot, b_eIf, b_eTup, b_eLst, b_eTupO, b_iR2, k_ints2, b_sExpr, b_eLstO, b_xRaiseF, b_iRev, k_sqdL, k_sqdT, o_listL, o_listT, b_eOpL, k_scOS, b_mvNil, b_mvCons, b_sAppTp, b_erTp, g_hardTp, g_softTp, g_giveTp, k_tpl, k_shTp, b_oSome, b_oNone, b_eSl, b_eMt, b_fn0, b_fnP, b_sRet, b_sAsg, b_gvName, b_gvNil, b_gvCons, b_gvTup, b_gvSub, b_sAsgG, b_sApp, b_sPar, b_sPar3, b_sAppIx, b_sAugI, b_cvsNil, b_cvsCons, b_bindCond, b_condFst, b_condSnd, b_giveT, b_sFor, b_iSq, b_iR1, b_iEnA, wipeE, cYes, at_zero, k_bool, k_int, k_str, k_tup, k_lst, k_list, k_itL, k_itT, k_itSS, k_trN, k_trB, k_trI, k_trSS, k_trL, k_trT, k_scN, k_scB, k_scI, k_scS, k_scL, k_scT, k_shS, k_shL, k_softT, k_hardT, k_cvT, k_softNil, k_softCons, k_hardNil, k_hardCons, g_hard, g_soft, g_cv, g_give, g_hardS, g_hardL, g_softS, g_softL, g_cvS, g_giveS, g_giveL, g_allSh, g_erSh, List.all_cons, List.all_nil, k_retR, k_retN, k_alA, k_hd, k_two, k_three, k_sh, k_odT, k_enS, k_enL, o_addI, o_addS, o_addL, o_sub, o_neg, o_ltI, o_leI, o_gtI, o_geI, o_lenS, o_lenL, o_lenT, o_abs, o_max, o_int, o_ixL, o_ixT, o_ixSS, o_slS, o_slL, o_in1S, o_ni1S, o_eqS, o_neS, o_eqI, o_neI, o_mul, o_div, o_mod, o_pow, o_divmod, z_ble0, z_ble1, z_ble2, z_ble3, z_ble4, z_ble5, z_ble6, z_ble7, z_ble8, z_ble9, z_ble10, z_ble13, z_ble17, S_l, S_len, S_app, es1, es2, startE, sNext, pk, DX.inR, Nat.beq, Nat.ble, List.any_cons, List.any_nil, List.filterMap_cons, List.filterMap_nil, Option.bind_some, Option.bind_none, cond_true, cond_false, decide_true, decide_false, List.map_cons, List.map_nil, List.length_cons, List.length_nil, List.length_map, List.length_set, List.getElem?_cons_zero, List.getElem?_cons_succ, List.cons_append, List.nil_append, List.set_cons_zero, List.set_cons_succ, List.replicate, Nat.reduceAdd, Nat.reduceSub, Nat.zero_add, Int.toNat_natCast, Bool.not_true, Bool.not_false, Bool.or_self, Bool.or_false, Bool.false_or, Bool.and_self, Bool.and_true, Bool.true_and, Bool.and_false, Bool.false_and, Bool.true_or, Bool.or_true, z_some, z_none, z_bind, z_then, z_map, z_mapK, b_eLc, lcStep, forStep, at_0, at_1, at_2, at_3, at_4, at_5, at_m1, ix_0, ix_1, ix_m1, blt_00, blt_0s, blt_12, blt_02, z_ifK, z_guard, z_guardN, z_seqN, z_seqR, z_seqB, z_seqC, z_sSeq, z_sIf, z_forN, z_forC, z_forB, z_forR, r_P1, r_P2, k_condSomeP, k_condNx, k_condEn, k_condSl, k_condPair, k_condTm, k_condSh, k_condI, k_condB, k_condAnd, k_condOr, k_condNot, o_gcd, k_condAndL, k_condOrL, b_jNil, b_jCons, b_eJoin, t_str, str_len, str_empty, Int.cast_ofNat_Int, Int.reduceEq, Int.reduceLT, Int.reduceLE, Int.reduceNeg, Int.reduceAdd, Int.reduceSub, Int.reduceMul, Int.reduceToNat, Int.reducePow, Nat.reduceLT, Nat.reduceLeDiff, Nat.reduceEqDiff, Nat.reduceMul, k_condSelf, x_no, x_raise, x_seqNo, b_xIf, x_inr, x_inl, b_xFn, o_neSelf, o_eqSelf, i_boolN, i_boolB, i_boolI, i_boolS, i_boolL, i_boolT, i_intN, i_intB, i_intI, i_intS, i_intL, i_intT, i_strN, i_strB, i_strI, i_strS, i_strL, i_strT, i_listN, i_listB, i_listI, i_listS, i_listL, i_listT, i_tupleN, i_tupleB, i_tupleI, i_tupleS, i_tupleL, i_tupleT, at_nat, decide_eq_true_eq, decide_eq_false_iff_not, Nat.ble_eq, and_true, true_and, Option.map_some, Option.isSome_some, *])
-- DXSIMP end
theorem rows_of2 {x y d : PyData} {k : Nat} {l1 h1 l2 h2 : Option Int} (g1 : Gd 2000 k x) (g2 : Gd 2000 k y) (h : d ∈ [.list [x, y], .list [x, y], .list (DX.cutD [x, y] l1 h1), .list (DX.cutD [x, y] l2 h2)]) : ∃ ds, d = .list ds ∧ (∀ d ∈ ds, Gd 2000 k d) ∧ ds.length ≤ 2 := by
  simp only [List.mem_cons, List.not_mem_nil, or_false] at h
  rcases h with rfl | rfl | rfl | rfl
  · exact ⟨_, rfl, two_rows g1 g2, by simp⟩
  · exact ⟨_, rfl, two_rows g1 g2, by simp⟩
  · exact ⟨_, rfl, fun d q => two_rows g1 g2 d (mem_cut q), Nat.le_trans len_cut (by simp)⟩
  · exact ⟨_, rfl, fun d q => two_rows g1 g2 d (mem_cut q), Nat.le_trans len_cut (by simp)⟩
theorem gd_sh {n k : Nat} {l : List PyData} (h : ∀ d ∈ l, Gd n k d) : ∀ o ∈ l.map OD.sh, Gd n k o.er := fun o q => by
  obtain ⟨d, q', rfl⟩ := List.mem_map.mp q
  exact h d q'
theorem rep_ints {m : Nat} : repD [OD.sh (.int 0)] (2 * (m : Int)).toNat = (List.replicate (2 * m) (0 : Int)).map fun i => OD.sh (.int i) := by
  rw [repD_one, List.map_replicate]
  congr 1
theorem sp_step {a b : Int} {m : Nat} (hm : 0 < m ∧ m ≤ 2) (hb : Pk b) : Sat (mr__law_step (potO a b) [.sh (.int m)]) (GdR 2000 3) := by
  unfold mr__law_step ev__law_step
  walk_at "dx"
  refine (sp_draw hb (n := 6) (by decide) (by decide)).mono fun r ⟨v, a2, b2, e, hv0, hv1, hb2⟩ => ?_
  subst e
  walk_at "dx"
  refine Sat.split (fun h3 => ?_) fun h3 => ?_
  · walk_at "dx"
    exact ⟨_, _, _, rfl, gd_lst (fun _ q => nomatch q) (by simp), hb2⟩
  · walk_at "dx"
    refine Sat.split (fun h4 => ?_) fun h4 => ?_
    · walk_at "dx"
      refine (sp_draw hb2 (n := 2) (by decide) (by decide)).mono fun r ⟨w, a3, b3, e, hw0, hw1, hb3⟩ => ?_
      subst e
      walk_at "dx"
      refine ⟨fit_of (by omega), lc_pot (ShG 2000 2) (by rw [rangeD_len]; exact sz _ (by omega)) hb3 (fun d q a b hb => ?_) fun acc a b hl hp hb => ?_⟩
      · have f1 : mulFits 2 (m : Int) = true := mulFits_small (by decide) (by omega)
        walk_at "dx"
        rw [f1]
        walk_at "dx"
        refine (sp_row (k := 2 * m) (by omega) hb).mono fun r ⟨o, a3, b3, e, ho, hb3⟩ => ?_
        subst e
        walk_at "dx"
        exact ⟨_, _, _, rfl, ⟨_, rfl, ho⟩, hb3⟩
      · rw [rangeD_len] at hl
        obtain ⟨rs, rfl, hrl, hrs⟩ := shs_of hp
        rw [z_then]
        walk_at "dx"
        exact ⟨_, _, _, rfl, gd_lst (gd_sh hrs) (by rw [List.length_map]; omega), hb⟩
    · walk_at "dx"
      refine ⟨fit_of (by omega), ?_⟩
      refine Sat.for (fun es os => ∃ (a b : Int) (l : List PyData) (z3 z5 z6 z7 z8 : Option OD), os = [some (potO a b), some (.sh (.int m)), z3, some (.sh (.int v)), some (.lst (l.map OD.sh)), z5, z6, z7, z8, none] ∧ Pk b ∧ (∀ d ∈ l, Gd 2000 2 d) ∧ l.length + 2 * es.length ≤ 6 ∧ ∀ d ∈ es, ∃ j : Nat, d = .int j ∧ j < m) ⟨a2, b2, [], _, _, _, _, _, rfl, hb2, (fun _ q => nomatch q), by rw [rangeD_len]; simp; omega, fun d q => ?_⟩ (fun d es os ⟨a, b, l, z3, z5, z6, z7, z8, e, hb, hg, hn, hs⟩ => ?_) fun os ⟨a, b, l, z3, z5, z6, z7, z8, e, hb, hg, hn, hs⟩ => ?_
      · exact range_mem q
      · subst e
        obtain ⟨j, rfl, hj⟩ := hs d (List.mem_cons_self ..)
        have f1 : mulFits 2 (m : Int) = true := mulFits_small (by decide) (by omega)
        walk_at "dx"
        rw [f1]
        walk_at "dx"
        rw [rep_ints]
        refine ⟨repFits_one (by omega) (by omega), ?_⟩
        rw [ixN_nat (show j < _ by rw [List.length_map, List.length_replicate]; omega)]
        walk_at "dx"
        rw [set_ints]
        rw [show (m : Int) + (j : Int) = ((m + j : Nat) : Int) by omega]
        rw [ixN_nat (show m + j < _ by rw [List.length_replicate]; omega)]
        walk_at "dx"
        rw [set_ints]
        obtain ⟨u, hu⟩ : ∃ u, u = ((List.replicate (2 * m) (0 : Int)).set j (-1)).set (m + j) 1 := ⟨_, rfl⟩
        have hul : u.length = 2 * m := by rw [hu, List.length_set, List.length_set, List.length_replicate]
        have hui : ∀ i ∈ u, i.natAbs ≤ 1 := fun i q => by
          rw [hu] at q
          rcases mem_set q with rfl | q
          · decide
          · rcases mem_set q with rfl | q
            · decide
            · rw [List.eq_of_mem_replicate q]; decide
        rw [← hu]
        refine (sp_draw hb (n := 4) (by decide) (by decide)).mono fun r ⟨w, a3, b3, e, hw0, hw1, hb3⟩ => ?_
        subst e
        walk_at "dx"
        refine (sp_pick hb3 (by simp) (by simp)).mono fun r ⟨d, a4, b4, e, hd, hb4⟩ => ?_
        subst e
        obtain ⟨x, rfl, hx⟩ : ∃ x : Int, d = .int x ∧ x.natAbs ≤ 4 := by
          simp only [List.mem_cons, List.not_mem_nil, or_false] at hd
          rcases hd with rfl | rfl | rfl | rfl | rfl | rfl | rfl | rfl <;> exact ⟨_, rfl, by decide⟩
        walk_at "dx"
        rw [ints_sh, er_ints]
        walk_at "dx"
        rw [er_ints]
        refine Sat.lcM (g := PyData.int) (fun i => .sh (.int (-i))) (sz _ (by omega)) (fun i q => ?_) ?_
        · walk_at "dx"
        · rw [z_then]
          walk_at "dx"
          rw [show ((u.map fun i => OD.sh (.int (-i))).map OD.er) = (u.map fun i => -i).map PyData.int by rw [List.map_map, List.map_map]; rfl]
          have p1 : Gd 2000 2 (.tuple [.tuple (u.map PyData.int), .int w]) := gd_two (gd_ints hui (by decide) (by omega)) (.int (by omega))
          have p2 : Gd 2000 2 (.tuple [.tuple ((u.map fun i => -i).map PyData.int), .int x]) := gd_two (gd_ints (k := 1) (fun i q => by obtain ⟨y, q', rfl⟩ := List.mem_map.mp q; rw [Int.natAbs_neg]; exact hui y q') (by decide) (by rw [List.length_map]; omega)) (.int (by omega))
          refine (sp_pick hb4 (by simp) (by simp)).mono fun r ⟨d, a5, b5, e, hd, hb5⟩ => ?_
          subst e
          obtain ⟨ds, rfl, hds, hdl⟩ := rows_of2 p1 p2 hd
          walk_at "dx"
          simp only [List.length_cons] at hn
          refine ⟨sz _ (by omega), a5, b5, l ++ ds, _, _, _, _, _, rfl, hb5, fun d q => ?_, by rw [List.length_append]; omega, fun d q => hs d (List.mem_cons_of_mem _ q)⟩
          rcases List.mem_append.mp q with q | q
          · exact hg d q
          · exact hds d q
      · subst e
        walk_at "dx"
        exact ⟨_, _, _, rfl, gd_lst (gd_sh hg) (by rw [List.length_map]; simp at hn; omega), hb⟩
end K55
set_option exponentiation.threshold 5000
namespace K55
open PySem PySem.Spec PyProof.Rows L2 DX
-- DXSIMP begin
local macro_rules | `(tactic| walk_at "dx") => `(tactic| simp only [b_escs, b_fnT, k_tmHd, k_lstO, k_chk, b_eLcV, b_chkV, beq_self_eq_true, beq_tf, beq_ft, o_or, o_addT, c_int, c_str, c_lst, o_catT, b_catT, o_slT, b_slT, o_rvsL, o_rvsT, k_tmL, b_eRepD, b_eIsi2, j_N, j_B, j_I, j_S, j_L, j_T, k_zpL, k_zpT, b_iZp, b_eAg, z_agStep, o_eqB, o_neB, o_eqN, o_tupL, o_tupT, Option.some_or, Option.none_or, Option.or_none, b_rdTms, b_hardTms, b_softTms, b_esCons, b_opV, b_opL, b_opT, b_eOp, b_rdNil, b_rdCons, b_rdT, b_rdA, b_erS, b_erL, b_eVar, b_eC, b_esNil, b_tTru, b_tBl, b_tAnd, b_tOr, b_tNot, b_eAnd, b_eOr, b_eNot, b_eIf, b_eTup, b_eLst, b_eTupO, b_iR2, k_ints2, b_sExpr, b_eLstO, b_xRaiseF, b_iRev, k_sqdL, k_sqdT, o_listL, o_listT, b_eOpL, k_scOS, b_mvNil, b_mvCons, b_sAppTp, b_erTp, g_hardTp, g_softTp, g_giveTp, k_tpl, k_shTp, b_oSome, b_oNone, b_eSl, b_eMt, b_fn0, b_fnP, b_sRet, b_sAsg, b_gvName, b_gvNil, b_gvCons, b_gvTup, b_gvSub, b_sAsgG, b_sApp, b_sPar, b_sPar3, b_sAppIx, b_sAugI, b_cvsNil, b_cvsCons, b_bindCond, b_condFst, b_condSnd, b_giveT, b_sFor, b_iSq, b_iR1, b_iEnA, wipeE, cYes, at_zero, k_bool, k_int, k_str, k_tup, k_lst, k_list, k_itL, k_itT, k_itSS, k_trN, k_trB, k_trI, k_trSS, k_trL, k_trT, k_scN, k_scB, k_scI, k_scS, k_scL, k_scT, k_shS, k_shL, k_softT, k_hardT, k_cvT, k_softNil, k_softCons, k_hardNil, k_hardCons, g_hard, g_soft, g_cv, g_give, g_hardS, g_hardL, g_softS, g_softL, g_cvS, g_giveS, g_giveL, g_allSh, g_erSh, List.all_cons, List.all_nil, k_retR, k_retN, k_alA, k_hd, k_two, k_three, k_sh, k_odT, k_enS, k_enL, o_addI, o_addS, o_addL, o_sub, o_neg, o_ltI, o_leI, o_gtI, o_geI, o_lenS, o_lenL, o_lenT, o_abs, o_max, o_int, o_ixL, o_ixT, o_ixSS, o_slS, o_slL, o_in1S, o_ni1S, o_eqS, o_neS, o_eqI, o_neI, o_mul, o_div, o_mod, o_pow, o_divmod, z_ble0, z_ble1, z_ble2, z_ble3, z_ble4, z_ble5, z_ble6, z_ble7, z_ble8, z_ble9, z_ble10, z_ble13, z_ble17, S_l, S_len, S_app, es1, es2, startE, sNext, pk, DX.inR, Nat.beq, Nat.ble, List.any_cons, List.any_nil, List.filterMap_cons, List.filterMap_nil, Option.bind_some, Option.bind_none, cond_true, cond_false, decide_true, decide_false, List.map_cons, List.map_nil, List.length_cons, List.length_nil, List.length_map, List.length_set, List.getElem?_cons_zero, List.getElem?_cons_succ, List.cons_append, List.nil_append, List.set_cons_zero, List.set_cons_succ, List.replicate, Nat.reduceAdd, Nat.reduceSub, Nat.zero_add, Int.toNat_natCast, Bool.not_true, Bool.not_false, Bool.or_self, Bool.or_false, Bool.false_or, Bool.and_self, Bool.and_true, Bool.true_and, Bool.and_false, Bool.false_and, Bool.true_or, Bool.or_true, z_some, z_none, z_bind, z_then, z_map, z_mapK, b_eLc, lcStep, forStep, at_0, at_1, at_2, at_3, at_4, at_5, at_m1, ix_0, ix_1, ix_m1, blt_00, blt_0s, blt_12, blt_02, z_ifK, z_guard, z_guardN, z_seqN, z_seqR, z_seqB, z_seqC, z_sSeq, z_sIf, z_forN, z_forC, z_forB, z_forR, r_P1, r_P2, k_condSomeP, k_condNx, k_condEn, k_condSl, k_condPair, k_condTm, k_condSh, k_condI, k_condB, k_condAnd, k_condOr, k_condNot, o_gcd, k_condAndL, k_condOrL, b_jNil, b_jCons, b_eJoin, t_str, str_len, str_empty, Int.cast_ofNat_Int, Int.reduceEq, Int.reduceLT, Int.reduceLE, Int.reduceNeg, Int.reduceAdd, Int.reduceSub, Int.reduceMul, Int.reduceToNat, Int.reducePow, Nat.reduceLT, Nat.reduceLeDiff, Nat.reduceEqDiff, Nat.reduceMul, k_condSelf, x_no, x_raise, x_seqNo, b_xIf, x_inr, x_inl, b_xFn, o_neSelf, o_eqSelf, i_boolN, i_boolB, i_boolI, i_boolS, i_boolL, i_boolT, i_intN, i_intB, i_intI, i_intS, i_intL, i_intT, i_strN, i_strB, i_strI, i_strS, i_strL, i_strT, i_listN, i_listB, i_listI, i_listS, i_listL, i_listT, i_tupleN, i_tupleB, i_tupleI, i_tupleS, i_tupleL, i_tupleT, at_nat, decide_eq_true_eq, decide_eq_false_iff_not, Nat.ble_eq, and_true, true_and, Option.map_some, Option.isSome_some])
local macro_rules | `(tactic| walk_at "dxs") => `(tactic| simp only [b_escs, b_fnT, k_tmHd, k_lstO, k_chk, b_eLcV, b_chkV, beq_self_eq_true, beq_tf, beq_ft, o_or, o_addT, c_int, c_str, c_lst, o_catT, b_catT, o_slT, b_slT, o_rvsL, o_rvsT, k_tmL, b_eRepD, b_eIsi2, j_N, j_B, j_I, j_S, j_L, j_T, k_zpL, k_zpT, b_iZp, b_eAg, z_agStep, o_eqB, o_neB, o_eqN, o_tupL, o_tupT, Option.some_or, Option.none_or, Option.or_none, b_rdTms, b_hardTms, b_softTms, b_esCons, b_opV, b_opL, b_opT, b_eOp, b_rdNil, b_rdCons, b_rdT, b_rdA, b_erS, b_erL, b_eVar, b_eC, b_esNil, b_tTru, b_tBl, b_tAnd, b_tOr, b_tNot, b_eAnd, b_eOr, b_eNot, b_eIf, b_eTup, b_eLst, b_eTupO, b_iR2, k_ints2, b_sExpr, b_eLstO, b_xRaiseF, b_iRev, k_sqdL, k_sqdT, o_listL, o_listT, b_eOpL, k_scOS, b_mvNil, b_mvCons, b_sAppTp, b_erTp, g_hardTp, g_softTp, g_giveTp, k_tpl, k_shTp, b_oSome, b_oNone, b_eSl, b_eMt, b_fn0, b_fnP, b_sRet, b_sAsg, b_gvName, b_gvNil, b_gvCons, b_gvTup, b_gvSub, b_sAsgG, b_sApp, b_sPar, b_sPar3, b_sAppIx, b_sAugI, b_cvsNil, b_cvsCons, b_bindCond, b_condFst, b_condSnd, b_giveT, b_sFor, b_iSq, b_iR1, b_iEnA, wipeE, cYes, at_zero, k_bool, k_int, k_str, k_tup, k_lst, k_list, k_itL, k_itT, k_itSS, k_trN, k_trB, k_trI, k_trSS, k_trL, k_trT, k_scN, k_scB, k_scI, k_scS, k_scL, k_scT, k_shS, k_shL, k_softT, k_hardT, k_cvT, k_softNil, k_softCons, k_hardNil, k_hardCons, g_hard, g_soft, g_cv, g_give, g_hardS, g_hardL, g_softS, g_softL, g_cvS, g_giveS, g_giveL, g_allSh, g_erSh, List.all_cons, List.all_nil, k_retR, k_retN, k_alA, k_hd, k_two, k_three, k_sh, k_odT, k_enS, k_enL, o_addI, o_addS, o_addL, o_sub, o_neg, o_ltI, o_leI, o_gtI, o_geI, o_lenS, o_lenL, o_lenT, o_abs, o_max, o_int, o_ixL, o_ixT, o_ixSS, o_slS, o_slL, o_in1S, o_ni1S, o_eqS, o_neS, o_eqI, o_neI, o_mul, o_div, o_mod, o_pow, o_divmod, z_ble0, z_ble1, z_ble2, z_ble3, z_ble4, z_ble5, z_ble6, z_ble7, z_ble8, z_ble9, z_ble10, z_ble13, z_ble17, S_l, S_len, S_app, es1, es2, startE, sNext, pk, DX.inR, Nat.beq, Nat.ble, List.any_cons, List.any_nil, List.filterMap_cons, List.filterMap_nil, Option.bind_some, Option.bind_none, cond_true, cond_false, decide_true, decide_false, List.map_cons, List.map_nil, List.length_cons, List.length_nil, List.length_map, List.length_set, List.getElem?_cons_zero, List.getElem?_cons_succ, List.cons_append, List.nil_append, List.set_cons_zero, List.set_cons_succ, List.replicate, Nat.reduceAdd, Nat.reduceSub, Nat.zero_add, Int.toNat_natCast, Bool.not_true, Bool.not_false, Bool.or_self, Bool.or_false, Bool.false_or, Bool.and_self, Bool.and_true, Bool.true_and, Bool.and_false, Bool.false_and, Bool.true_or, Bool.or_true, z_some, z_none, z_bind, z_then, z_map, z_mapK, b_eLc, lcStep, forStep, at_0, at_1, at_2, at_3, at_4, at_5, at_m1, ix_0, ix_1, ix_m1, blt_00, blt_0s, blt_12, blt_02, z_ifK, z_guard, z_guardN, z_seqN, z_seqR, z_seqB, z_seqC, z_sSeq, z_sIf, z_forN, z_forC, z_forB, z_forR, r_P1, r_P2, k_condSomeP, k_condNx, k_condEn, k_condSl, k_condPair, k_condTm, k_condSh, k_condI, k_condB, k_condAnd, k_condOr, k_condNot, o_gcd, k_condAndL, k_condOrL, b_jNil, b_jCons, b_eJoin, t_str, str_len, str_empty, Int.cast_ofNat_Int, Int.reduceEq, Int.reduceLT, Int.reduceLE, Int.reduceNeg, Int.reduceAdd, Int.reduceSub, Int.reduceMul, Int.reduceToNat, Int.reducePow, Nat.reduceLT, Nat.reduceLeDiff, Nat.reduceEqDiff, Nat.reduceMul, k_condSelf, x_no, x_raise, x_seqNo, b_xIf, x_inr, x_inl, b_xFn, o_neSelf, o_eqSelf, i_boolN, i_boolB, i_boolI, i_boolS, i_boolL, i_boolT, i_intN, i_intB, i_intI, i_intS, i_intL, i_intT, i_strN, i_strB, i_strI, i_strS, i_strL, i_strT, i_listN, i_listB, i_listI, i_listS, i_listL, i_listT, i_tupleN, i_tupleB, i_tupleI, i_tupleS, i_tupleL, i_tupleT, at_nat, decide_eq_true_eq, decide_eq_false_iff_not, Nat.ble_eq, and_true, true_and, Option.map_some, Option.isSome_some, *])
-- DXSIMP end
/-- the world: how many numbers, how many moments, and what hangs on them -/
def WorldR (r : OD × OD) : Prop := ∃ (m mo : Nat) (ws : List PyData) (a b : Int), r = (.sh (.tuple (.int m :: .int mo :: ws)), potO a b) ∧ (0 < m ∧ m ≤ 2) ∧ mo ≤ 8 ∧ Gd 2000 5 (.tuple (.int m :: .int mo :: ws)) ∧ Pk b
def sizesD : List PyData := [.tuple [.int 1, .int 1], .tuple [.int 1, .int 2], .tuple [.int 2, .int 2], .tuple [.int 1, .int 8], .tuple [.int 2, .int 8], .tuple [.int 2, .int 3], .tuple [.int 1, .int 5]]
theorem sizes_of {d : PyData} (h : d ∈ sizesD) : ∃ m mo : Nat, d = .tuple [.int m, .int mo] ∧ (0 < m ∧ m ≤ 2) ∧ 0 < mo ∧ mo ≤ 8 := by
  simp only [sizesD, List.mem_cons, List.not_mem_nil, or_false] at h
  rcases h with rfl | rfl | rfl | rfl | rfl | rfl | rfl
  · exact ⟨1, 1, rfl, by decide, by decide⟩
  · exact ⟨1, 2, rfl, by decide, by decide⟩
  · exact ⟨2, 2, rfl, by decide, by decide⟩
  · exact ⟨1, 8, rfl, by decide, by decide⟩
  · exact ⟨2, 8, rfl, by decide, by decide⟩
  · exact ⟨2, 3, rfl, by decide, by decide⟩
  · exact ⟨1, 5, rfl, by decide, by decide⟩
theorem gd_lsts {n k : Nat} {l : List OD} (h : ∀ o ∈ l, Gd n k o.er) (hl : l.length ≤ n) : Gd n (k + 1) (.list (l.map OD.er)) := by
  have := gd_lst h hl
  rwa [b_erL] at this
theorem sp_world {a b : Int} (hb : Pk b) : Sat (mr__law_world (potO a b) [.sh (.list sizesD)]) WorldR := by
  unfold mr__law_world ev__law_world
  walk_at "dx"
  refine (sp_pick hb (by decide) (by decide)).mono fun r ⟨d, a2, b2, e, hd, hb2⟩ => ?_
  subst e
  obtain ⟨m, mo, rfl, hm, hmo, hmo2⟩ := sizes_of hd
  walk_at "dx"
  refine (sp_start hm hb2).mono fun r ⟨l, a3, b3, e, hl, hll, hb3⟩ => ?_
  subst e
  walk_at "dx"
  refine ⟨fit_of (by omega), lc_pot (fun o => Gd 2000 3 o.er) (by rw [rangeD_len]; exact sz _ (by omega)) hb3 (fun d q a b hb => ?_) fun acc a4 b4 hal hp hb4 => ?_⟩
  · walk_at "dx"
    refine (sp_step hm hb).mono fun r ⟨o, a3, b3, e, ho, hb3⟩ => ?_
    subst e
    walk_at "dx"
    exact ⟨_, _, _, rfl, ho, hb3⟩
  · rw [rangeD_len] at hal
    rw [z_then]
    walk_at "dx"
    refine (sp_draw hb4 (n := 3) (by decide) (by decide)).mono fun r ⟨w, a3, b3, e, hw0, hw1, hb3⟩ => ?_
    subst e
    walk_at "dx"
    refine ⟨fit_of (by omega), ?_⟩
    refine Sat.for (fun es os => ∃ (a b : Int) (S T l : List OD) (z5 z8 z9 : Option OD), os = [some (potO a b), some (.sh (.list sizesD)), some (.lst S), some (.lst T), some (.lst l), z5, some (.sh (.int m)), some (.sh (.int mo)), z8, z9, none] ∧ Pk b ∧ Gd 2000 3 (OD.lst S).er ∧ Gd 2000 4 (OD.lst T).er ∧ (∀ o ∈ l, Gd 2000 3 o.er) ∧ l.length + es.length ≤ 3 ∧ ∀ d ∈ es, ∃ j : Nat, d = .int j ∧ j < 3) ⟨_, _, _, _, [], _, _, _, rfl, hb3, ?_, ?_, (fun _ q => nomatch q), by rw [rangeD_len]; simp; omega, fun d q => ?_⟩ (fun d es os ⟨a, b, S, T, l, z5, z8, z9, e, hb, hS, hT, hg, hn, hs⟩ => ?_) fun os ⟨a, b, S, T, l, z5, z8, z9, e, hb, hS, hT, hg, hn, hs⟩ => ?_
    · exact gd_lst (gd_sh hl) (by rw [List.length_map]; omega)
    · exact gd_lst hp (by omega)
    · obtain ⟨j, rfl, hj⟩ := range_mem q
      exact ⟨j, rfl, by omega⟩
    · subst e
      obtain ⟨j, rfl, hj⟩ := hs d (List.mem_cons_self ..)
      walk_at "dx"
      refine (sp_pick hb (by simp) (by simp)).mono fun r ⟨d, a4, b4, e, hd, hb4⟩ => ?_
      subst e
      have gd : Gd 2000 1 d := by
        simp only [List.mem_cons, List.not_mem_nil, or_false] at hd
        rcases hd with rfl | rfl | rfl | rfl | rfl | rfl | rfl <;> exact gd_two (.int (by decide)) (.int (by decide))
      walk_at "dx"
      rw [e_one (by omega)]
      walk_at "dx"
      refine (sp_numbers hm.1 (by omega) hb4).mono fun r ⟨d2, a5, b5, e, hd2, hb5⟩ => ?_
      subst e
      walk_at "dx"
      refine (sp_pick hb5 (by simp) (by simp)).mono fun r ⟨d3, a6, b6, e, hd3, hb6⟩ => ?_
      subst e
      have g3 : Gd 2000 1 d3 := by
        simp only [List.mem_cons, List.not_mem_nil, or_false] at hd3
        rcases hd3 with rfl | rfl
        · exact one_gd (by omega) (by decide)
        · exact hd2.gd
      walk_at "dx"
      refine (sp_name (by omega) hb6).mono fun r ⟨d4, a7, b7, e, hd4, hb7⟩ => ?_
      subst e
      walk_at "dx"
      simp only [List.length_cons] at hn
      rw [b_erL] at hS hT
      refine ⟨Nat.ble_eq_true_of_le (sz _ (by omega)), a7, b7, S, T, _, _, _, _, rfl, hb7, hS, hT, fun o q => ?_, by rw [List.length_append]; simp; omega, fun d q => hs d (List.mem_cons_of_mem _ q)⟩
      rcases List.mem_append.mp q with q | q
      · exact hg o q
      · simp only [List.mem_cons, List.not_mem_nil, or_false] at q
        subst q
        exact gd_three (hd4.mono (by decide) (by decide)) (g3.mono (by decide) (by decide)) (gd.mono (by decide) (by decide))
    · subst e
      walk_at "dx"
      rw [b_erL] at hS hT
      refine ⟨m, mo, _, _, _, rfl, hm, hmo2, .tuple (by simp) fun d q => ?_, hb⟩
      simp only [List.mem_cons, List.not_mem_nil, or_false] at q
      rcases q with rfl | rfl | rfl | rfl | rfl
      · exact .int (by omega)
      · exact .int (by omega)
      · exact hS.mono (by decide) (by decide)
      · exact hT
      · exact gd_lsts hg (by omega)
end K55
set_option exponentiation.threshold 5000
namespace K55
open PySem PySem.Spec PyProof.Rows L2 DX
-- DXSIMP begin
local macro_rules | `(tactic| walk_at "dx") => `(tactic| simp only [b_escs, b_fnT, k_tmHd, k_lstO, k_chk, b_eLcV, b_chkV, beq_self_eq_true, beq_tf, beq_ft, o_or, o_addT, c_int, c_str, c_lst, o_catT, b_catT, o_slT, b_slT, o_rvsL, o_rvsT, k_tmL, b_eRepD, b_eIsi2, j_N, j_B, j_I, j_S, j_L, j_T, k_zpL, k_zpT, b_iZp, b_eAg, z_agStep, o_eqB, o_neB, o_eqN, o_tupL, o_tupT, Option.some_or, Option.none_or, Option.or_none, b_rdTms, b_hardTms, b_softTms, b_esCons, b_opV, b_opL, b_opT, b_eOp, b_rdNil, b_rdCons, b_rdT, b_rdA, b_erS, b_erL, b_eVar, b_eC, b_esNil, b_tTru, b_tBl, b_tAnd, b_tOr, b_tNot, b_eAnd, b_eOr, b_eNot, b_eIf, b_eTup, b_eLst, b_eTupO, b_iR2, k_ints2, b_sExpr, b_eLstO, b_xRaiseF, b_iRev, k_sqdL, k_sqdT, o_listL, o_listT, b_eOpL, k_scOS, b_mvNil, b_mvCons, b_sAppTp, b_erTp, g_hardTp, g_softTp, g_giveTp, k_tpl, k_shTp, b_oSome, b_oNone, b_eSl, b_eMt, b_fn0, b_fnP, b_sRet, b_sAsg, b_gvName, b_gvNil, b_gvCons, b_gvTup, b_gvSub, b_sAsgG, b_sApp, b_sPar, b_sPar3, b_sAppIx, b_sAugI, b_cvsNil, b_cvsCons, b_bindCond, b_condFst, b_condSnd, b_giveT, b_sFor, b_iSq, b_iR1, b_iEnA, wipeE, cYes, at_zero, k_bool, k_int, k_str, k_tup, k_lst, k_list, k_itL, k_itT, k_itSS, k_trN, k_trB, k_trI, k_trSS, k_trL, k_trT, k_scN, k_scB, k_scI, k_scS, k_scL, k_scT, k_shS, k_shL, k_softT, k_hardT, k_cvT, k_softNil, k_softCons, k_hardNil, k_hardCons, g_hard, g_soft, g_cv, g_give, g_hardS, g_hardL, g_softS, g_softL, g_cvS, g_giveS, g_giveL, g_allSh, g_erSh, List.all_cons, List.all_nil, k_retR, k_retN, k_alA, k_hd, k_two, k_three, k_sh, k_odT, k_enS, k_enL, o_addI, o_addS, o_addL, o_sub, o_neg, o_ltI, o_leI, o_gtI, o_geI, o_lenS, o_lenL, o_lenT, o_abs, o_max, o_int, o_ixL, o_ixT, o_ixSS, o_slS, o_slL, o_in1S, o_ni1S, o_eqS, o_neS, o_eqI, o_neI, o_mul, o_div, o_mod, o_pow, o_divmod, z_ble0, z_ble1, z_ble2, z_ble3, z_ble4, z_ble5, z_ble6, z_ble7, z_ble8, z_ble9, z_ble10, z_ble13, z_ble17, S_l, S_len, S_app, es1, es2, startE, sNext, pk, DX.inR, Nat.beq, Nat.ble, List.any_cons, List.any_nil, List.filterMap_cons, List.filterMap_nil, Option.bind_some, Option.bind_none, cond_true, cond_false, decide_true, decide_false, List.map_cons, List.map_nil, List.length_cons, List.length_nil, List.length_map, List.length_set, List.getElem?_cons_zero, List.getElem?_cons_succ, List.cons_append, List.nil_append, List.set_cons_zero, List.set_cons_succ, List.replicate, Nat.reduceAdd, Nat.reduceSub, Nat.zero_add, Int.toNat_natCast, Bool.not_true, Bool.not_false, Bool.or_self, Bool.or_false, Bool.false_or, Bool.and_self, Bool.and_true, Bool.true_and, Bool.and_false, Bool.false_and, Bool.true_or, Bool.or_true, z_some, z_none, z_bind, z_then, z_map, z_mapK, b_eLc, lcStep, forStep, at_0, at_1, at_2, at_3, at_4, at_5, at_m1, ix_0, ix_1, ix_m1, blt_00, blt_0s, blt_12, blt_02, z_ifK, z_guard, z_guardN, z_seqN, z_seqR, z_seqB, z_seqC, z_sSeq, z_sIf, z_forN, z_forC, z_forB, z_forR, r_P1, r_P2, k_condSomeP, k_condNx, k_condEn, k_condSl, k_condPair, k_condTm, k_condSh, k_condI, k_condB, k_condAnd, k_condOr, k_condNot, o_gcd, k_condAndL, k_condOrL, b_jNil, b_jCons, b_eJoin, t_str, str_len, str_empty, Int.cast_ofNat_Int, Int.reduceEq, Int.reduceLT, Int.reduceLE, Int.reduceNeg, Int.reduceAdd, Int.reduceSub, Int.reduceMul, Int.reduceToNat, Int.reducePow, Nat.reduceLT, Nat.reduceLeDiff, Nat.reduceEqDiff, Nat.reduceMul, k_condSelf, x_no, x_raise, x_seqNo, b_xIf, x_inr, x_inl, b_xFn, o_neSelf, o_eqSelf, i_boolN, i_boolB, i_boolI, i_boolS, i_boolL, i_boolT, i_intN, i_intB, i_intI, i_intS, i_intL, i_intT, i_strN, i_strB, i_strI, i_strS, i_strL, i_strT, i_listN, i_listB, i_listI, i_listS, i_listL, i_listT, i_tupleN, i_tupleB, i_tupleI, i_tupleS, i_tupleL, i_tupleT, at_nat, decide_eq_true_eq, decide_eq_false_iff_not, Nat.ble_eq, and_true, true_and, Option.map_some, Option.isSome_some])
local macro_rules | `(tactic| walk_at "dxs") => `(tactic| simp only [b_escs, b_fnT, k_tmHd, k_lstO, k_chk, b_eLcV, b_chkV, beq_self_eq_true, beq_tf, beq_ft, o_or, o_addT, c_int, c_str, c_lst, o_catT, b_catT, o_slT, b_slT, o_rvsL, o_rvsT, k_tmL, b_eRepD, b_eIsi2, j_N, j_B, j_I, j_S, j_L, j_T, k_zpL, k_zpT, b_iZp, b_eAg, z_agStep, o_eqB, o_neB, o_eqN, o_tupL, o_tupT, Option.some_or, Option.none_or, Option.or_none, b_rdTms, b_hardTms, b_softTms, b_esCons, b_opV, b_opL, b_opT, b_eOp, b_rdNil, b_rdCons, b_rdT, b_rdA, b_erS, b_erL, b_eVar, b_eC, b_esNil, b_tTru, b_tBl, b_tAnd, b_tOr, b_tNot, b_eAnd, b_eOr, b_eNot, b_eIf, b_eTup, b_eLst, b_eTupO, b_iR2, k_ints2, b_sExpr, b_eLstO, b_xRaiseF, b_iRev, k_sqdL, k_sqdT, o_listL, o_listT, b_eOpL, k_scOS, b_mvNil, b_mvCons, b_sAppTp, b_erTp, g_hardTp, g_softTp, g_giveTp, k_tpl, k_shTp, b_oSome, b_oNone, b_eSl, b_eMt, b_fn0, b_fnP, b_sRet, b_sAsg, b_gvName, b_gvNil, b_gvCons, b_gvTup, b_gvSub, b_sAsgG, b_sApp, b_sPar, b_sPar3, b_sAppIx, b_sAugI, b_cvsNil, b_cvsCons, b_bindCond, b_condFst, b_condSnd, b_giveT, b_sFor, b_iSq, b_iR1, b_iEnA, wipeE, cYes, at_zero, k_bool, k_int, k_str, k_tup, k_lst, k_list, k_itL, k_itT, k_itSS, k_trN, k_trB, k_trI, k_trSS, k_trL, k_trT, k_scN, k_scB, k_scI, k_scS, k_scL, k_scT, k_shS, k_shL, k_softT, k_hardT, k_cvT, k_softNil, k_softCons, k_hardNil, k_hardCons, g_hard, g_soft, g_cv, g_give, g_hardS, g_hardL, g_softS, g_softL, g_cvS, g_giveS, g_giveL, g_allSh, g_erSh, List.all_cons, List.all_nil, k_retR, k_retN, k_alA, k_hd, k_two, k_three, k_sh, k_odT, k_enS, k_enL, o_addI, o_addS, o_addL, o_sub, o_neg, o_ltI, o_leI, o_gtI, o_geI, o_lenS, o_lenL, o_lenT, o_abs, o_max, o_int, o_ixL, o_ixT, o_ixSS, o_slS, o_slL, o_in1S, o_ni1S, o_eqS, o_neS, o_eqI, o_neI, o_mul, o_div, o_mod, o_pow, o_divmod, z_ble0, z_ble1, z_ble2, z_ble3, z_ble4, z_ble5, z_ble6, z_ble7, z_ble8, z_ble9, z_ble10, z_ble13, z_ble17, S_l, S_len, S_app, es1, es2, startE, sNext, pk, DX.inR, Nat.beq, Nat.ble, List.any_cons, List.any_nil, List.filterMap_cons, List.filterMap_nil, Option.bind_some, Option.bind_none, cond_true, cond_false, decide_true, decide_false, List.map_cons, List.map_nil, List.length_cons, List.length_nil, List.length_map, List.length_set, List.getElem?_cons_zero, List.getElem?_cons_succ, List.cons_append, List.nil_append, List.set_cons_zero, List.set_cons_succ, List.replicate, Nat.reduceAdd, Nat.reduceSub, Nat.zero_add, Int.toNat_natCast, Bool.not_true, Bool.not_false, Bool.or_self, Bool.or_false, Bool.false_or, Bool.and_self, Bool.and_true, Bool.true_and, Bool.and_false, Bool.false_and, Bool.true_or, Bool.or_true, z_some, z_none, z_bind, z_then, z_map, z_mapK, b_eLc, lcStep, forStep, at_0, at_1, at_2, at_3, at_4, at_5, at_m1, ix_0, ix_1, ix_m1, blt_00, blt_0s, blt_12, blt_02, z_ifK, z_guard, z_guardN, z_seqN, z_seqR, z_seqB, z_seqC, z_sSeq, z_sIf, z_forN, z_forC, z_forB, z_forR, r_P1, r_P2, k_condSomeP, k_condNx, k_condEn, k_condSl, k_condPair, k_condTm, k_condSh, k_condI, k_condB, k_condAnd, k_condOr, k_condNot, o_gcd, k_condAndL, k_condOrL, b_jNil, b_jCons, b_eJoin, t_str, str_len, str_empty, Int.cast_ofNat_Int, Int.reduceEq, Int.reduceLT, Int.reduceLE, Int.reduceNeg, Int.reduceAdd, Int.reduceSub, Int.reduceMul, Int.reduceToNat, Int.reducePow, Nat.reduceLT, Nat.reduceLeDiff, Nat.reduceEqDiff, Nat.reduceMul, k_condSelf, x_no, x_raise, x_seqNo, b_xIf, x_inr, x_inl, b_xFn, o_neSelf, o_eqSelf, i_boolN, i_boolB, i_boolI, i_boolS, i_boolL, i_boolT, i_intN, i_intB, i_intI, i_intS, i_intL, i_intT, i_strN, i_strB, i_strI, i_strS, i_strL, i_strT, i_listN, i_listB, i_listI, i_listS, i_listL, i_listT, i_tupleN, i_tupleB, i_tupleI, i_tupleS, i_tupleL, i_tupleT, at_nat, decide_eq_true_eq, decide_eq_false_iff_not, Nat.ble_eq, and_true, true_and, Option.map_some, Option.isSome_some, *])
-- DXSIMP end
noncomputable def bentT : EvS := (sSeq (sIf (tTru (eOp (opIsi "list") (es1 (eVar 1)))) (sSeq (sAsg [0] 6 (eLst (esCons (eOp opTup (esCons (eVar 1) esNil)) (esCons (eOp (opOr opAdd opCatT) (es2 (eVar 1) (eSl (eVar 1) oNone (oSome (eC (.int 1)))))) (esCons (eSl (eVar 1) oNone (oSome (eOp opNeg (es1 (eC (.int 1)))))) (esCons (eC .none) (esCons (eOp opRvs (es1 (eVar 1))) (esCons (eLst esNil) esNil)))))))) (sRet (eFnP mr__law_pick 2 [0] (esCons (eVar 0) (esCons (eVar 6) esNil))))) sNext) (sSeq (sIf (tTru (eOp (opIsi "tuple") (es1 (eVar 1)))) (sSeq (sAsg [0] 6 (eLst (esCons (eOp opList (esCons (eVar 1) esNil)) (esCons (eOp (opOr opAdd opCatT) (es2 (eVar 1) (eSl (eVar 1) oNone (oSome (eC (.int 1)))))) (esCons (eSl (eVar 1) oNone (oSome (eOp opNeg (es1 (eC (.int 1)))))) (esCons (eC .none) (esCons (eOp opRvs (es1 (eVar 1))) (esCons (eTup esNil) esNil)))))))) (sRet (eFnP mr__law_pick 2 [0] (esCons (eVar 0) (esCons (eVar 6) esNil))))) sNext) (sSeq (sIf (tTru (eOp (opIsi "int") (es1 (eVar 1)))) (sRet (eFnP mr__law_pick 2 [0] (esCons (eVar 0) (esCons (eLst (esCons (eOp (opOr opAdd opCatT) (es2 (eVar 1) (eC (.int 1)))) (esCons (eOp opSub (es2 (eVar 1) (eC (.int 1)))) (esCons (eOp opNeg (es1 (eVar 1))) (esCons (eOp opEq (es2 (eVar 1) (eC (.int 1)))) (esCons (eC .none) (esCons (eOp opMul (es2 (eC (.int 2)) (eVar 1))) (esCons (eC (.str "1")) esNil)))))))) esNil)))) sNext) (sSeq (sIf (tTru (eOp (opIsi "str") (es1 (eVar 1)))) (sRet (eFnP mr__law_pick 2 [0] (esCons (eVar 0) (esCons (eLst (esCons (eC (.str "clash")) (esCons (eOp (opOr opAdd opCatT) (es2 (eVar 1) (eC (.str "x")))) (esCons (eC (.str "")) (esCons (eSl (eVar 1) oNone (oSome (eOp opNeg (es1 (eC (.int 1)))))) (esCons (eC .none) (esCons (eC (.str "Zed")) esNil))))))) esNil)))) sNext) (sRet (eFnP mr__law_pick 2 [0] (esCons (eVar 0) (esCons (eLst (esCons (eC (.int 0)) (esCons (eLst esNil) (esCons (eTup esNil) (esCons (eC (.str "")) (esCons (eC (.bool true)) esNil)))))) esNil))))))))
theorem bent_eq (mS : OD → List OD → Option (OD × OD)) (n : Nat) : ev__law_bent mS n = (sSeq (sAsg [0] 3 (eIf (tOrD (tTru (eOp (opIsi "list") (es1 (eVar 1)))) (tTru (eOp (opIsi "tuple") (es1 (eVar 1))))) (eOp opLen (esCons (eVar 1) esNil)) (eC (.int 0)))) (sSeq (sIf (tAndD (tBl (eOp opGt (es2 (eVar 3) (eC (.int 0))))) (tAndD (tBl (eOp opGt (es2 (eVar 2) (eC (.int 0))))) (tBl (eOp opGt (es2 (eFnP mr__law_draw 2 [0] (esCons (eVar 0) (esCons (eC (.int 6)) esNil))) (eC (.int 0))))))) (sSeq (sAsg [0] 4 (eFnP mr__law_draw 2 [0] (esCons (eVar 0) (esCons (eVar 3) esNil)))) (sSeq (sAsg [0] 5 (eOp opList (esCons (eVar 1) esNil))) (sSeq (sAsgG (gvSub 5 (eVar 4)) (eFnP mS 3 [0, 1] (esCons (eVar 0) (esCons (eOp opIx (es2 (eVar 1) (eVar 4))) (esCons (eOp opSub (es2 (eVar 2) (eC (.int 1)))) esNil))))) (sRet (eIf (tTru (eOp (opIsi "tuple") (es1 (eVar 1)))) (eOp opTup (esCons (eVar 5) esNil)) (eVar 5)))))) sNext) bentT)) := rfl
theorem gd_up {n h : Nat} {d : PyData} (g : Gi n h d) : Gd (2 * n) (h + 1) d := g.gd.mono (by omega) (by omega)
theorem gd_up0 {n h : Nat} {d : PyData} (g : Gi n h d) : Gd (2 * n) h d := g.gd.mono (by omega) (Nat.le_refl _)
theorem strOk_cut {x : Str} {lo hi : Option Int} (h : PyData.strOk x = true) : PyData.strOk (cutS x lo hi) = true := by
  unfold PyData.strOk at h ⊢
  rw [Array.all_eq_true_iff_forall_mem] at h ⊢
  intro c q
  refine h c (Array.mem_def.mpr ?_)
  have q' := Array.mem_def.mp q
  unfold cutS at q'
  exact List.mem_of_mem_drop (List.mem_of_mem_take (by simpa using q'))
theorem bent_leaf {n h : Nat} {d : PyData} (hd : d ∈ [PyData.int 0, .list [], .tuple [], .str "", .bool true]) : Gd n (h + 1) d := by
  simp only [List.mem_cons, List.not_mem_nil, or_false] at hd
  rcases hd with rfl | rfl | rfl | rfl | rfl
  · exact .int (Nat.zero_le _)
  · exact .list (Nat.zero_le _) fun _ q => nomatch q
  · exact .tuple (Nat.zero_le _) fun _ q => nomatch q
  · exact .str (strOk_ofString _) (Nat.le_trans (show (Str.ofString "").length ≤ 0 by decide +kernel) (Nat.zero_le _))
  · exact .bool
theorem sp_tail {n h : Nat} {v : PyData} {a b dp z : Int} (g : Gi n h v) (hn : 8 ≤ n ∧ n ≤ 100000) (hb : Pk b) : Sat (bentT [some (potO a b), some (.sh v), some (.sh (.int dp)), some (.sh (.int z)), none, none, none]) (Then retP (GdR (2 * n) (h + 1))) := by
  unfold bentT
  cases g with
  | list x y =>
    rename_i h ds
    have hs : ds.length ≤ 1000000 := by omega
    have cl : ∀ lo hi, (DX.cutD ds lo hi).length ≤ ds.length := fun _ _ => len_cut
    walk_at "dx"
    refine ⟨sz _ (by have := cl none (some 1); omega), ?_⟩
    refine (sp_pick hb (by simp) (by simp)).mono fun r ⟨d, a2, b2, e, hd, hb2⟩ => ?_
    subst e
    walk_at "dx"
    refine ⟨_, _, _, rfl, ?_, hb2⟩
    rw [b_erS]
    refine Gd.mono (Nat.le_refl _) (Nat.le_succ _) ?_
    have y' : ∀ d ∈ ds, Gd (2 * n) h d := fun d q => gd_up0 (y d q)
    simp only [List.mem_cons, List.not_mem_nil, or_false] at hd
    rcases hd with rfl | rfl | rfl | rfl | rfl | rfl
    · exact .tuple (by omega) y'
    · refine .list (by rw [List.length_append]; have := cl none (some 1); omega) fun d q => ?_
      rcases List.mem_append.mp q with q | q
      · exact y' d q
      · exact y' d (mem_cut q)
    · exact .list (by have := cl none (some (-1)); omega) fun d q => y' d (mem_cut q)
    · exact .non
    · exact .list (by rw [List.length_reverse]; omega) fun d q => y' d (List.mem_reverse.mp q)
    · exact .list (by simp) fun _ q => nomatch q
  | tuple x y =>
    rename_i h ds
    have hs : ds.length ≤ 1000000 := by omega
    have cl : ∀ lo hi, (DX.cutD ds lo hi).length ≤ ds.length := fun _ _ => len_cut
    walk_at "dx"
    refine ⟨sz _ (by have := cl none (some 1); omega), ?_⟩
    refine (sp_pick hb (by simp) (by simp)).mono fun r ⟨d, a2, b2, e, hd, hb2⟩ => ?_
    subst e
    walk_at "dx"
    refine ⟨_, _, _, rfl, ?_, hb2⟩
    rw [b_erS]
    refine Gd.mono (Nat.le_refl _) (Nat.le_succ _) ?_
    have y' : ∀ d ∈ ds, Gd (2 * n) h d := fun d q => gd_up0 (y d q)
    simp only [List.mem_cons, List.not_mem_nil, or_false] at hd
    rcases hd with rfl | rfl | rfl | rfl | rfl | rfl
    · exact .list (by omega) y'
    · refine .tuple (by rw [List.length_append]; have := cl none (some 1); omega) fun d q => ?_
      rcases List.mem_append.mp q with q | q
      · exact y' d q
      · exact y' d (mem_cut q)
    · exact .tuple (by have := cl none (some (-1)); omega) fun d q => y' d (mem_cut q)
    · exact .non
    · exact .tuple (by rw [List.length_reverse]; omega) fun d q => y' d (List.mem_reverse.mp q)
    · exact .tuple (by simp) fun _ q => nomatch q
  | int x =>
    rename_i i
    have f1 : mulFits 2 i = true := mulFits_small (by decide) (by omega)
    walk_at "dx"
    rw [f1]
    walk_at "dx"
    refine (sp_pick hb (by simp) (by simp)).mono fun r ⟨d, a2, b2, e, hd, hb2⟩ => ?_
    subst e
    walk_at "dx"
    refine ⟨_, _, _, rfl, ?_, hb2⟩
    rw [b_erS]
    simp only [List.mem_cons, List.not_mem_nil, or_false] at hd
    rcases hd with rfl | rfl | rfl | rfl | rfl | rfl | rfl
    · exact .int (by omega)
    · exact .int (by omega)
    · exact .int (by omega)
    · exact .bool
    · exact .non
    · exact .int (by omega)
    · exact .str (strOk_ofString _) (Nat.le_trans (show (Str.ofString "1").length ≤ 1 by decide +kernel) (by omega))
  | str x y =>
    walk_at "dx"
    have lx : (Str.ofString "x").length = 1 := by decide +kernel
    refine ⟨szM _ (by omega), ?_⟩
    refine (sp_pick hb (by simp) (by simp)).mono fun r ⟨d, a2, b2, e, hd, hb2⟩ => ?_
    subst e
    walk_at "dx"
    refine ⟨_, _, _, rfl, ?_, hb2⟩
    rw [b_erS]
    simp only [List.mem_cons, List.not_mem_nil, or_false] at hd
    rcases hd with rfl | rfl | rfl | rfl | rfl | rfl
    · exact .str (strOk_ofString _) (Nat.le_trans (show (Str.ofString "clash").length ≤ 5 by decide +kernel) (by omega))
    · exact .str (by rw [strOk_append, x, strOk_ofString]; rfl) (by rw [str_len]; omega)
    · exact .str (strOk_ofString _) (Nat.le_trans (show (Str.ofString "").length ≤ 0 by decide +kernel) (Nat.zero_le _))
    · exact .str (strOk_cut x) (Nat.le_trans (cutS_length _ _ _) (by omega))
    · exact .non
    · exact .str (strOk_ofString _) (Nat.le_trans (show (Str.ofString "Zed").length ≤ 3 by decide +kernel) (by omega))
theorem gd_er {n k : Nat} {l : List OD} (h : ∀ o ∈ l, Gd n k o.er) : ∀ d ∈ l.map OD.er, Gd n k d := fun o q => by
  obtain ⟨d, q', rfl⟩ := List.mem_map.mp q
  exact h d q'
theorem sp_bent {n h : Nat} {v : PyData} (g : Gi n h v) (hn : 8 ≤ n ∧ n ≤ 100000) : ∀ {k : Nat} {a b dp : Int}, h < k → Pk b → Sat (mrR__law_bent k (potO a b) [.sh v, .sh (.int dp)]) (GdR (2 * n) (h + 1)) := by
  induction g with
  | list x y ih =>
    rename_i h ds
    intro k a1 b1 dp hk hb
    obtain ⟨k, rfl⟩ : ∃ k', k = k' + 1 := ⟨k - 1, by omega⟩
    unfold mrR__law_bent
    rw [bent_eq]
    walk_at "dx"
    have tl := fun (a b : Int) (hb : Pk b) => sp_tail (a := a) (dp := dp) (z := (ds.length : Int)) (Gi.list x y) hn hb
    refine Sat.split (fun h1 => ?_) fun h1 => ?_
    · refine Sat.split (fun h2 => ?_) fun h2 => ?_
      · walk_at "dx"
        refine (sp_draw hb (n := 6) (by decide) (by decide)).mono fun r ⟨v, a2, b2, e, hv0, hv1, hb2⟩ => ?_
        subst e
        walk_at "dx"
        refine Sat.split (fun h3 => ?_) fun h3 => ?_
        · walk_at "dx"
          have hl : 0 < ds.length := by have := of_decide_eq_true h1; omega
          refine (sp_draw hb2 (n := (ds.length : Nat)) (by omega) (by omega)).mono fun r ⟨w, a3, b3, e, hw0, hw1, hb3⟩ => ?_
          subst e
          obtain ⟨j, rfl⟩ : ∃ j : Nat, w = j := ⟨w.toNat, by omega⟩
          have hj : j < ds.length := by omega
          walk_at "dx"
          refine Sat.at (List.getElem?_eq_getElem hj) ?_
          walk_at "dx"
          refine (ih ds[j] (List.getElem_mem hj) (by omega) hb3).mono fun r ⟨o, a4, b4, e, ho, hb4⟩ => ?_
          subst e
          walk_at "dx"
          rw [ixN_nat hj]
          walk_at "dx"
          refine ⟨_, _, _, rfl, gd_lst (fun o' q => ?_) (by rw [List.length_set, List.length_map]; omega), hb4⟩
          rcases mem_set q with rfl | q
          · exact ho
          · exact gd_sh (fun d q => gd_up (y d q)) o' q
        · walk_at "dx"
          exact tl a2 b2 hb2
      · walk_at "dx"
        exact tl a1 b1 hb
    · walk_at "dx"
      exact tl a1 b1 hb
  | tuple x y ih =>
    rename_i h ds
    intro k a1 b1 dp hk hb
    obtain ⟨k, rfl⟩ : ∃ k', k = k' + 1 := ⟨k - 1, by omega⟩
    unfold mrR__law_bent
    rw [bent_eq]
    walk_at "dx"
    have tl := fun (a b : Int) (hb : Pk b) => sp_tail (a := a) (dp := dp) (z := (ds.length : Int)) (Gi.tuple x y) hn hb
    refine Sat.split (fun h1 => ?_) fun h1 => ?_
    · refine Sat.split (fun h2 => ?_) fun h2 => ?_
      · walk_at "dx"
        refine (sp_draw hb (n := 6) (by decide) (by decide)).mono fun r ⟨v, a2, b2, e, hv0, hv1, hb2⟩ => ?_
        subst e
        walk_at "dx"
        refine Sat.split (fun h3 => ?_) fun h3 => ?_
        · walk_at "dx"
          have hl : 0 < ds.length := by have := of_decide_eq_true h1; omega
          refine (sp_draw hb2 (n := (ds.length : Nat)) (by omega) (by omega)).mono fun r ⟨w, a3, b3, e, hw0, hw1, hb3⟩ => ?_
          subst e
          obtain ⟨j, rfl⟩ : ∃ j : Nat, w = j := ⟨w.toNat, by omega⟩
          have hj : j < ds.length := by omega
          walk_at "dx"
          refine Sat.at (List.getElem?_eq_getElem hj) ?_
          walk_at "dx"
          refine (ih ds[j] (List.getElem_mem hj) (by omega) hb3).mono fun r ⟨o, a4, b4, e, ho, hb4⟩ => ?_
          subst e
          walk_at "dx"
          rw [ixN_nat hj]
          walk_at "dx"
          refine ⟨_, _, _, rfl, .tuple (by rw [List.length_map, List.length_set, List.length_map]; omega) (gd_er fun o' q => ?_), hb4⟩
          rcases mem_set q with rfl | q
          · exact ho
          · exact gd_sh (fun d q => gd_up (y d q)) o' q
        · walk_at "dx"
          exact tl a2 b2 hb2
      · walk_at "dx"
        exact tl a1 b1 hb
    · walk_at "dx"
      exact tl a1 b1 hb
  | int a =>
    intro k a1 b1 dp hk hb
    obtain ⟨k, rfl⟩ : ∃ k', k = k' + 1 := ⟨k - 1, by omega⟩
    unfold mrR__law_bent
    rw [bent_eq]
    walk_at "dx"
    exact sp_tail (Gi.int a) hn hb
  | str a b =>
    intro k a1 b1 dp hk hb
    obtain ⟨k, rfl⟩ : ∃ k', k = k' + 1 := ⟨k - 1, by omega⟩
    unfold mrR__law_bent
    rw [bent_eq]
    walk_at "dx"
    exact sp_tail (Gi.str a b) hn hb
end K55
set_option exponentiation.threshold 5000
namespace K55
open PySem PySem.Spec PyProof.Rows L2 DX
-- DXSIMP begin
local macro_rules | `(tactic| walk_at "dx") => `(tactic| simp only [b_escs, b_fnT, k_tmHd, k_lstO, k_chk, b_eLcV, b_chkV, beq_self_eq_true, beq_tf, beq_ft, o_or, o_addT, c_int, c_str, c_lst, o_catT, b_catT, o_slT, b_slT, o_rvsL, o_rvsT, k_tmL, b_eRepD, b_eIsi2, j_N, j_B, j_I, j_S, j_L, j_T, k_zpL, k_zpT, b_iZp, b_eAg, z_agStep, o_eqB, o_neB, o_eqN, o_tupL, o_tupT, Option.some_or, Option.none_or, Option.or_none, b_rdTms, b_hardTms, b_softTms, b_esCons, b_opV, b_opL, b_opT, b_eOp, b_rdNil, b_rdCons, b_rdT, b_rdA, b_erS, b_erL, b_eVar, b_eC, b_esNil, b_tTru, b_tBl, b_tAnd, b_tOr, b_tNot, b_eAnd, b_eOr, b_eNot, b_eIf, b_eTup, b_eLst, b_eTupO, b_iR2, k_ints2, b_sExpr, b_eLstO, b_xRaiseF, b_iRev, k_sqdL, k_sqdT, o_listL, o_listT, b_eOpL, k_scOS, b_mvNil, b_mvCons, b_sAppTp, b_erTp, g_hardTp, g_softTp, g_giveTp, k_tpl, k_shTp, b_oSome, b_oNone, b_eSl, b_eMt, b_fn0, b_fnP, b_sRet, b_sAsg, b_gvName, b_gvNil, b_gvCons, b_gvTup, b_gvSub, b_sAsgG, b_sApp, b_sPar, b_sPar3, b_sAppIx, b_sAugI, b_cvsNil, b_cvsCons, b_bindCond, b_condFst, b_condSnd, b_giveT, b_sFor, b_iSq, b_iR1, b_iEnA, wipeE, cYes, at_zero, k_bool, k_int, k_str, k_tup, k_lst, k_list, k_itL, k_itT, k_itSS, k_trN, k_trB, k_trI, k_trSS, k_trL, k_trT, k_scN, k_scB, k_scI, k_scS, k_scL, k_scT, k_shS, k_shL, k_softT, k_hardT, k_cvT, k_softNil, k_softCons, k_hardNil, k_hardCons, g_hard, g_soft, g_cv, g_give, g_hardS, g_hardL, g_softS, g_softL, g_cvS, g_giveS, g_giveL, g_allSh, g_erSh, List.all_cons, List.all_nil, k_retR, k_retN, k_alA, k_hd, k_two, k_three, k_sh, k_odT, k_enS, k_enL, o_addI, o_addS, o_addL, o_sub, o_neg, o_ltI, o_leI, o_gtI, o_geI, o_lenS, o_lenL, o_lenT, o_abs, o_max, o_int, o_ixL, o_ixT, o_ixSS, o_slS, o_slL, o_in1S, o_ni1S, o_eqS, o_neS, o_eqI, o_neI, o_mul, o_div, o_mod, o_pow, o_divmod, z_ble0, z_ble1, z_ble2, z_ble3, z_ble4, z_ble5, z_ble6, z_ble7, z_ble8, z_ble9, z_ble10, z_ble13, z_ble17, S_l, S_len, S_app, es1, es2, startE, sNext, pk, DX.inR, Nat.beq, Nat.ble, List.any_cons, List.any_nil, List.filterMap_cons, List.filterMap_nil, Option.bind_some, Option.bind_none, cond_true, cond_false, decide_true, decide_false, List.map_cons, List.map_nil, List.length_cons, List.length_nil, List.length_map, List.length_set, List.getElem?_cons_zero, List.getElem?_cons_succ, List.cons_append, List.nil_append, List.set_cons_zero, List.set_cons_succ, List.replicate, Nat.reduceAdd, Nat.reduceSub, Nat.zero_add, Int.toNat_natCast, Bool.not_true, Bool.not_false, Bool.or_self, Bool.or_false, Bool.false_or, Bool.and_self, Bool.and_true, Bool.true_and, Bool.and_false, Bool.false_and, Bool.true_or, Bool.or_true, z_some, z_none, z_bind, z_then, z_map, z_mapK, b_eLc, lcStep, forStep, at_0, at_1, at_2, at_3, at_4, at_5, at_m1, ix_0, ix_1, ix_m1, blt_00, blt_0s, blt_12, blt_02, z_ifK, z_guard, z_guardN, z_seqN, z_seqR, z_seqB, z_seqC, z_sSeq, z_sIf, z_forN, z_forC, z_forB, z_forR, r_P1, r_P2, k_condSomeP, k_condNx, k_condEn, k_condSl, k_condPair, k_condTm, k_condSh, k_condI, k_condB, k_condAnd, k_condOr, k_condNot, o_gcd, k_condAndL, k_condOrL, b_jNil, b_jCons, b_eJoin, t_str, str_len, str_empty, Int.cast_ofNat_Int, Int.reduceEq, Int.reduceLT, Int.reduceLE, Int.reduceNeg, Int.reduceAdd, Int.reduceSub, Int.reduceMul, Int.reduceToNat, Int.reducePow, Nat.reduceLT, Nat.reduceLeDiff, Nat.reduceEqDiff, Nat.reduceMul, k_condSelf, x_no, x_raise, x_seqNo, b_xIf, x_inr, x_inl, b_xFn, o_neSelf, o_eqSelf, i_boolN, i_boolB, i_boolI, i_boolS, i_boolL, i_boolT, i_intN, i_intB, i_intI, i_intS, i_intL, i_intT, i_strN, i_strB, i_strI, i_strS, i_strL, i_strT, i_listN, i_listB, i_listI, i_listS, i_listL, i_listT, i_tupleN, i_tupleB, i_tupleI, i_tupleS, i_tupleL, i_tupleT, at_nat, decide_eq_true_eq, decide_eq_false_iff_not, Nat.ble_eq, and_true, true_and, Option.map_some, Option.isSome_some])
local macro_rules | `(tactic| walk_at "dxs") => `(tactic| simp only [b_escs, b_fnT, k_tmHd, k_lstO, k_chk, b_eLcV, b_chkV, beq_self_eq_true, beq_tf, beq_ft, o_or, o_addT, c_int, c_str, c_lst, o_catT, b_catT, o_slT, b_slT, o_rvsL, o_rvsT, k_tmL, b_eRepD, b_eIsi2, j_N, j_B, j_I, j_S, j_L, j_T, k_zpL, k_zpT, b_iZp, b_eAg, z_agStep, o_eqB, o_neB, o_eqN, o_tupL, o_tupT, Option.some_or, Option.none_or, Option.or_none, b_rdTms, b_hardTms, b_softTms, b_esCons, b_opV, b_opL, b_opT, b_eOp, b_rdNil, b_rdCons, b_rdT, b_rdA, b_erS, b_erL, b_eVar, b_eC, b_esNil, b_tTru, b_tBl, b_tAnd, b_tOr, b_tNot, b_eAnd, b_eOr, b_eNot, b_eIf, b_eTup, b_eLst, b_eTupO, b_iR2, k_ints2, b_sExpr, b_eLstO, b_xRaiseF, b_iRev, k_sqdL, k_sqdT, o_listL, o_listT, b_eOpL, k_scOS, b_mvNil, b_mvCons, b_sAppTp, b_erTp, g_hardTp, g_softTp, g_giveTp, k_tpl, k_shTp, b_oSome, b_oNone, b_eSl, b_eMt, b_fn0, b_fnP, b_sRet, b_sAsg, b_gvName, b_gvNil, b_gvCons, b_gvTup, b_gvSub, b_sAsgG, b_sApp, b_sPar, b_sPar3, b_sAppIx, b_sAugI, b_cvsNil, b_cvsCons, b_bindCond, b_condFst, b_condSnd, b_giveT, b_sFor, b_iSq, b_iR1, b_iEnA, wipeE, cYes, at_zero, k_bool, k_int, k_str, k_tup, k_lst, k_list, k_itL, k_itT, k_itSS, k_trN, k_trB, k_trI, k_trSS, k_trL, k_trT, k_scN, k_scB, k_scI, k_scS, k_scL, k_scT, k_shS, k_shL, k_softT, k_hardT, k_cvT, k_softNil, k_softCons, k_hardNil, k_hardCons, g_hard, g_soft, g_cv, g_give, g_hardS, g_hardL, g_softS, g_softL, g_cvS, g_giveS, g_giveL, g_allSh, g_erSh, List.all_cons, List.all_nil, k_retR, k_retN, k_alA, k_hd, k_two, k_three, k_sh, k_odT, k_enS, k_enL, o_addI, o_addS, o_addL, o_sub, o_neg, o_ltI, o_leI, o_gtI, o_geI, o_lenS, o_lenL, o_lenT, o_abs, o_max, o_int, o_ixL, o_ixT, o_ixSS, o_slS, o_slL, o_in1S, o_ni1S, o_eqS, o_neS, o_eqI, o_neI, o_mul, o_div, o_mod, o_pow, o_divmod, z_ble0, z_ble1, z_ble2, z_ble3, z_ble4, z_ble5, z_ble6, z_ble7, z_ble8, z_ble9, z_ble10, z_ble13, z_ble17, S_l, S_len, S_app, es1, es2, startE, sNext, pk, DX.inR, Nat.beq, Nat.ble, List.any_cons, List.any_nil, List.filterMap_cons, List.filterMap_nil, Option.bind_some, Option.bind_none, cond_true, cond_false, decide_true, decide_false, List.map_cons, List.map_nil, List.length_cons, List.length_nil, List.length_map, List.length_set, List.getElem?_cons_zero, List.getElem?_cons_succ, List.cons_append, List.nil_append, List.set_cons_zero, List.set_cons_succ, List.replicate, Nat.reduceAdd, Nat.reduceSub, Nat.zero_add, Int.toNat_natCast, Bool.not_true, Bool.not_false, Bool.or_self, Bool.or_false, Bool.false_or, Bool.and_self, Bool.and_true, Bool.true_and, Bool.and_false, Bool.false_and, Bool.true_or, Bool.or_true, z_some, z_none, z_bind, z_then, z_map, z_mapK, b_eLc, lcStep, forStep, at_0, at_1, at_2, at_3, at_4, at_5, at_m1, ix_0, ix_1, ix_m1, blt_00, blt_0s, blt_12, blt_02, z_ifK, z_guard, z_guardN, z_seqN, z_seqR, z_seqB, z_seqC, z_sSeq, z_sIf, z_forN, z_forC, z_forB, z_forR, r_P1, r_P2, k_condSomeP, k_condNx, k_condEn, k_condSl, k_condPair, k_condTm, k_condSh, k_condI, k_condB, k_condAnd, k_condOr, k_condNot, o_gcd, k_condAndL, k_condOrL, b_jNil, b_jCons, b_eJoin, t_str, str_len, str_empty, Int.cast_ofNat_Int, Int.reduceEq, Int.reduceLT, Int.reduceLE, Int.reduceNeg, Int.reduceAdd, Int.reduceSub, Int.reduceMul, Int.reduceToNat, Int.reducePow, Nat.reduceLT, Nat.reduceLeDiff, Nat.reduceEqDiff, Nat.reduceMul, k_condSelf, x_no, x_raise, x_seqNo, b_xIf, x_inr, x_inl, b_xFn, o_neSelf, o_eqSelf, i_boolN, i_boolB, i_boolI, i_boolS, i_boolL, i_boolT, i_intN, i_intB, i_intI, i_intS, i_intL, i_intT, i_strN, i_strB, i_strI, i_strS, i_strL, i_strT, i_listN, i_listB, i_listI, i_listS, i_listL, i_listT, i_tupleN, i_tupleB, i_tupleI, i_tupleS, i_tupleL, i_tupleT, at_nat, decide_eq_true_eq, decide_eq_false_iff_not, Nat.ble_eq, and_true, true_and, Option.map_some, Option.isSome_some, *])
-- DXSIMP end
def LinO (o : OD) : Prop := ∃ x y, o = .sh (.tuple [x, y]) ∧ Gi 2000 3 x ∧ Gi 2000 3 y
theorem lins_of : ∀ {acc : List OD}, (∀ o ∈ acc, LinO o) → ∃ ds : List PyData, acc = ds.map OD.sh ∧ ds.length = acc.length ∧ ∀ d ∈ ds, ∃ x y, d = .tuple [x, y] ∧ Gi 2000 3 x ∧ Gi 2000 3 y
  | [], _ => ⟨[], rfl, rfl, fun _ q => nomatch q⟩
  | o :: acc, h => by
    obtain ⟨x, y, rfl, hi⟩ := h o (List.mem_cons_self ..)
    obtain ⟨l, rfl, hl, hp⟩ := lins_of fun o q => h o (List.mem_cons_of_mem _ q)
    refine ⟨_ :: l, rfl, by simp, fun j q => ?_⟩
    rcases List.mem_cons.mp q with rfl | q
    · exact ⟨x, y, rfl, hi⟩
    · exact hp j q
theorem sp_values {a b : Int} {m mo : Nat} {ws : List PyData} (hm : 0 < m ∧ m ≤ 2) (hmo : mo ≤ 8) (hb : Pk b) : Sat (mr__law_values (potO a b) [.sh (.tuple (.int m :: .int mo :: ws))]) (fun r => ∃ (l : List OD) (a b : Int), r = (.lst l, potO a b) ∧ (∀ o ∈ l, Gd 4000 8 o.er) ∧ l.length ≤ 100 ∧ Pk b) := by
  unfold mr__law_values ev__law_values
  walk_at "dx"
  refine ⟨fit_of (by decide), lc_pot LinO (by rw [rangeD_len]; exact sz _ (by decide)) hb (fun d q a b hb => ?_) fun acc a b hl hp hb => ?_⟩
  · walk_at "dx"
    refine (sp_linear hm hmo hb).mono fun r ⟨x, y, a3, b3, e, hx, hy, hb3⟩ => ?_
    subst e
    walk_at "dx"
    exact ⟨_, _, _, rfl, ⟨_, _, rfl, hx, hy⟩, hb3⟩
  · rw [rangeD_len] at hl
    obtain ⟨ds, rfl, hdl, hds⟩ := lins_of hp
    rw [z_then]
    walk_at "dx"
    refine (sp_draw hb (n := 10) (by decide) (by decide)).mono fun r ⟨v, a2, b2, e, hv0, hv1, hb2⟩ => ?_
    subst e
    walk_at "dx"
    refine (sp_pick hb2 (by simp) (by simp)).mono fun r ⟨d, a3, b3, e, hd, hb3⟩ => ?_
    subst e
    obtain ⟨j, rfl, hj0, hj⟩ : ∃ j : Int, d = .int j ∧ 0 ≤ j ∧ j ≤ 9 := by
      simp only [List.mem_cons, List.not_mem_nil, or_false] at hd
      rcases hd with rfl | rfl | rfl | rfl | rfl | rfl | rfl <;> exact ⟨_, rfl, by omega, by omega⟩
    walk_at "dx"
    refine ⟨sz _ (by decide), ?_⟩
    refine (sp_pick hb3 (by decide) (by decide)).mono fun r ⟨d, a4, b4, e, hd, hb4⟩ => ?_
    subst e
    obtain ⟨w, rfl, hw0, hw⟩ : ∃ j : Int, d = .int j ∧ 0 ≤ j ∧ j ≤ 5 := by
      simp only [cl__law_values_1, List.mem_cons, List.not_mem_nil, or_false] at hd
      rcases hd with rfl | rfl | rfl | rfl | rfl <;> exact ⟨_, rfl, by omega, by omega⟩
    walk_at "dx"
    refine (sp_pick hb4 (by simp) (by simp)).mono fun r ⟨d, a5, b5, e, hd5, hb5⟩ => ?_
    subst e
    obtain ⟨q, rfl, hq⟩ : ∃ q : Str, d = .str q ∧ StO 3 q := by
      simp only [List.mem_cons, List.not_mem_nil, or_false] at hd5
      rcases hd5 with rfl | rfl
      · exact ⟨_, rfl, strOk_ofString _, by decide +kernel⟩
      · exact ⟨_, rfl, strOk_ofString _, by decide +kernel⟩
    walk_at "dx"
    have hd9 : ds.length = 9 := hdl.trans hl
    obtain ⟨x0, y0, h0, gx0, gy0⟩ := hds _ (List.getElem_mem (show 0 < ds.length by omega))
    obtain ⟨x1, y1, h1, gx1, gy1⟩ := hds _ (List.getElem_mem (show 1 < ds.length by omega))
    have k0 : ds[0]? = some (.tuple [x0, y0]) := by rw [List.getElem?_eq_getElem (by omega), h0]
    have k1 : ds[1]? = some (.tuple [x1, y1]) := by rw [List.getElem?_eq_getElem (by omega), h1]
    rw [k0]
    walk_at "dx"
    rw [k0]
    walk_at "dx"
    rw [k1]
    walk_at "dx"
    have gd : ∀ d ∈ ds, Gi 2000 4 d := fun d q => by
      obtain ⟨x, y, rfl, gx, gy⟩ := hds d q
      exact gi_two gx gy
    have gc : ∀ lo hi, Gi 2000 5 (.list (DX.cutD ds lo hi)) := fun lo hi => .list (by have := len_cut (xs := ds) (lo := lo) (hi := hi); omega) fun d q => gd d (mem_cut q)
    have gct : ∀ lo hi, Gi 2000 5 (.tuple (DX.cutD ds lo hi)) := fun lo hi => .tuple (by have := len_cut (xs := ds) (lo := lo) (hi := hi); omega) fun d q => gd d (mem_cut q)
    have ga : Gi 2000 6 (.tuple [.str "all", .list (DX.cutD ds (some (9 - w)) none)]) := gi_two (.str (strOk_ofString _) (by decide +kernel)) (gc _ _)
    have gs : Gi 2000 6 (.tuple [.str q, .list (DX.cutD ds none (some j))]) := gi_two (.str hq.1 (Nat.le_trans hq.2 (by decide))) (gc _ _)
    have g0 : Gi 2000 6 (.tuple [x0, y0]) := (gi_two gx0 gy0).mono (by decide)
    have gx0' : Gi 2000 6 x0 := gx0.mono (by decide)
    have gx1' : Gi 2000 6 x1 := gx1.mono (by decide)
    have gc' := fun lo hi => (gc lo hi).mono (show 5 ≤ 6 by decide)
    have gct' := fun lo hi => (gct lo hi).mono (show 5 ≤ 6 by decide)
    refine ⟨sz _ (by decide), lc_pot (fun o => Gd 4000 7 o.er) (sz _ (by simp)) hb5 (fun d q2 a b hb => ?_) fun acc a6 b6 hal hp6 hb6 => ?_⟩
    · have gg : Gi 2000 6 d := by
        simp only [List.mem_cons, List.not_mem_nil, or_false] at q2
        rcases q2 with rfl | rfl | rfl | rfl | rfl | rfl | rfl | rfl | rfl | rfl | rfl | rfl | rfl | rfl
        · exact gs
        · exact gc' _ _
        · exact gct' _ _
        · exact g0
        · exact gx0'
        · exact ga
        · exact gx1'
        · exact gs
        · exact gc' _ _
        · exact gct' _ _
        · exact g0
        · exact gx0'
        · exact ga
        · exact gx1'
      walk_at "dx"
      refine (sp_bent gg (by decide) (by decide) hb).mono fun r ⟨o, a3, b3, e, ho, hb3⟩ => ?_
      subst e
      walk_at "dx"
      exact ⟨_, _, _, rfl, ho, hb3⟩
    · rw [z_then]
      walk_at "dx"
      simp only [List.length_cons, List.length_nil] at hal
      refine ⟨sz _ (by omega), sz _ (by omega), _, a6, b6, rfl, fun o q2 => ?_, by simp; omega, hb6⟩
      have up : ∀ {d : PyData}, Gi 2000 6 d → Gd 4000 8 (OD.sh d).er := fun g => g.gd.mono (by decide) (by decide)
      simp only [List.mem_cons] at q2
      rcases q2 with rfl | rfl | rfl | rfl | rfl | rfl | rfl | q2
      · exact up gs
      · exact up (gc' _ _)
      · exact up (gct' _ _)
      · exact up g0
      · exact up gx0'
      · exact up ga
      · exact up gx1'
      · obtain ⟨d, q3, rfl⟩ := List.mem_map.mp q2
        rw [b_erS]
        rcases List.mem_append.mp q3 with q3 | q3
        · exact (gd_er hp6 d q3).mono (by decide) (by decide)
        · have nl : Gd 4000 6 (.list []) := .list (Nat.zero_le _) fun _ q => nomatch q
          have an : Gd 4000 6 (.str "any") := .str (strOk_ofString _) (by decide +kernel)
          have e0 : Gd 4000 6 (.tuple []) := .tuple (Nat.zero_le _) fun _ q => nomatch q
          simp only [List.mem_cons, List.not_mem_nil, or_false] at q3
          rcases q3 with rfl | rfl | rfl | rfl | rfl | rfl | rfl | rfl | rfl | rfl
          · exact .non
          · exact .bool
          · exact .int (Nat.zero_le _)
          · exact an.mono (by decide) (by decide)
          · exact nl.mono (by decide) (by decide)
          · exact e0.mono (by decide) (by decide)
          · exact (gd_two nl (.int (Nat.zero_le _))).mono (by decide) (by decide)
          · exact (gd_two nl .bool).mono (by decide) (by decide)
          · exact (gd_two an nl).mono (by decide) (by decide)
          · refine Gd.mono (Nat.le_refl _) (show 7 ≤ 8 by decide) (.list (by simp) fun d q => ?_)
            simp only [List.mem_cons, List.not_mem_nil, or_false] at q
            subst q
            exact e0
end K55
set_option exponentiation.threshold 5000
namespace K55
open PySem PySem.Spec PyProof.Rows L2 DX
-- DXSIMP begin
local macro_rules | `(tactic| walk_at "dx") => `(tactic| simp only [b_escs, b_fnT, k_tmHd, k_lstO, k_chk, b_eLcV, b_chkV, beq_self_eq_true, beq_tf, beq_ft, o_or, o_addT, c_int, c_str, c_lst, o_catT, b_catT, o_slT, b_slT, o_rvsL, o_rvsT, k_tmL, b_eRepD, b_eIsi2, j_N, j_B, j_I, j_S, j_L, j_T, k_zpL, k_zpT, b_iZp, b_eAg, z_agStep, o_eqB, o_neB, o_eqN, o_tupL, o_tupT, Option.some_or, Option.none_or, Option.or_none, b_rdTms, b_hardTms, b_softTms, b_esCons, b_opV, b_opL, b_opT, b_eOp, b_rdNil, b_rdCons, b_rdT, b_rdA, b_erS, b_erL, b_eVar, b_eC, b_esNil, b_tTru, b_tBl, b_tAnd, b_tOr, b_tNot, b_eAnd, b_eOr, b_eNot, b_eIf, b_eTup, b_eLst, b_eTupO, b_iR2, k_ints2, b_sExpr, b_eLstO, b_xRaiseF, b_iRev, k_sqdL, k_sqdT, o_listL, o_listT, b_eOpL, k_scOS, b_mvNil, b_mvCons, b_sAppTp, b_erTp, g_hardTp, g_softTp, g_giveTp, k_tpl, k_shTp, b_oSome, b_oNone, b_eSl, b_eMt, b_fn0, b_fnP, b_sRet, b_sAsg, b_gvName, b_gvNil, b_gvCons, b_gvTup, b_gvSub, b_sAsgG, b_sApp, b_sPar, b_sPar3, b_sAppIx, b_sAugI, b_cvsNil, b_cvsCons, b_bindCond, b_condFst, b_condSnd, b_giveT, b_sFor, b_iSq, b_iR1, b_iEnA, wipeE, cYes, at_zero, k_bool, k_int, k_str, k_tup, k_lst, k_list, k_itL, k_itT, k_itSS, k_trN, k_trB, k_trI, k_trSS, k_trL, k_trT, k_scN, k_scB, k_scI, k_scS, k_scL, k_scT, k_shS, k_shL, k_softT, k_hardT, k_cvT, k_softNil, k_softCons, k_hardNil, k_hardCons, g_hard, g_soft, g_cv, g_give, g_hardS, g_hardL, g_softS, g_softL, g_cvS, g_giveS, g_giveL, g_allSh, g_erSh, List.all_cons, List.all_nil, k_retR, k_retN, k_alA, k_hd, k_two, k_three, k_sh, k_odT, k_enS, k_enL, o_addI, o_addS, o_addL, o_sub, o_neg, o_ltI, o_leI, o_gtI, o_geI, o_lenS, o_lenL, o_lenT, o_abs, o_max, o_int, o_ixL, o_ixT, o_ixSS, o_slS, o_slL, o_in1S, o_ni1S, o_eqS, o_neS, o_eqI, o_neI, o_mul, o_div, o_mod, o_pow, o_divmod, z_ble0, z_ble1, z_ble2, z_ble3, z_ble4, z_ble5, z_ble6, z_ble7, z_ble8, z_ble9, z_ble10, z_ble13, z_ble17, S_l, S_len, S_app, es1, es2, startE, sNext, pk, DX.inR, Nat.beq, Nat.ble, List.any_cons, List.any_nil, List.filterMap_cons, List.filterMap_nil, Option.bind_some, Option.bind_none, cond_true, cond_false, decide_true, decide_false, List.map_cons, List.map_nil, List.length_cons, List.length_nil, List.length_map, List.length_set, List.getElem?_cons_zero, List.getElem?_cons_succ, List.cons_append, List.nil_append, List.set_cons_zero, List.set_cons_succ, List.replicate, Nat.reduceAdd, Nat.reduceSub, Nat.zero_add, Int.toNat_natCast, Bool.not_true, Bool.not_false, Bool.or_self, Bool.or_false, Bool.false_or, Bool.and_self, Bool.and_true, Bool.true_and, Bool.and_false, Bool.false_and, Bool.true_or, Bool.or_true, z_some, z_none, z_bind, z_then, z_map, z_mapK, b_eLc, lcStep, forStep, at_0, at_1, at_2, at_3, at_4, at_5, at_m1, ix_0, ix_1, ix_m1, blt_00, blt_0s, blt_12, blt_02, z_ifK, z_guard, z_guardN, z_seqN, z_seqR, z_seqB, z_seqC, z_sSeq, z_sIf, z_forN, z_forC, z_forB, z_forR, r_P1, r_P2, k_condSomeP, k_condNx, k_condEn, k_condSl, k_condPair, k_condTm, k_condSh, k_condI, k_condB, k_condAnd, k_condOr, k_condNot, o_gcd, k_condAndL, k_condOrL, b_jNil, b_jCons, b_eJoin, t_str, str_len, str_empty, Int.cast_ofNat_Int, Int.reduceEq, Int.reduceLT, Int.reduceLE, Int.reduceNeg, Int.reduceAdd, Int.reduceSub, Int.reduceMul, Int.reduceToNat, Int.reducePow, Nat.reduceLT, Nat.reduceLeDiff, Nat.reduceEqDiff, Nat.reduceMul, k_condSelf, x_no, x_raise, x_seqNo, b_xIf, x_inr, x_inl, b_xFn, o_neSelf, o_eqSelf, i_boolN, i_boolB, i_boolI, i_boolS, i_boolL, i_boolT, i_intN, i_intB, i_intI, i_intS, i_intL, i_intT, i_strN, i_strB, i_strI, i_strS, i_strL, i_strT, i_listN, i_listB, i_listI, i_listS, i_listL, i_listT, i_tupleN, i_tupleB, i_tupleI, i_tupleS, i_tupleL, i_tupleT, at_nat, decide_eq_true_eq, decide_eq_false_iff_not, Nat.ble_eq, and_true, true_and, Option.map_some, Option.isSome_some])
local macro_rules | `(tactic| walk_at "dxs") => `(tactic| simp only [b_escs, b_fnT, k_tmHd, k_lstO, k_chk, b_eLcV, b_chkV, beq_self_eq_true, beq_tf, beq_ft, o_or, o_addT, c_int, c_str, c_lst, o_catT, b_catT, o_slT, b_slT, o_rvsL, o_rvsT, k_tmL, b_eRepD, b_eIsi2, j_N, j_B, j_I, j_S, j_L, j_T, k_zpL, k_zpT, b_iZp, b_eAg, z_agStep, o_eqB, o_neB, o_eqN, o_tupL, o_tupT, Option.some_or, Option.none_or, Option.or_none, b_rdTms, b_hardTms, b_softTms, b_esCons, b_opV, b_opL, b_opT, b_eOp, b_rdNil, b_rdCons, b_rdT, b_rdA, b_erS, b_erL, b_eVar, b_eC, b_esNil, b_tTru, b_tBl, b_tAnd, b_tOr, b_tNot, b_eAnd, b_eOr, b_eNot, b_eIf, b_eTup, b_eLst, b_eTupO, b_iR2, k_ints2, b_sExpr, b_eLstO, b_xRaiseF, b_iRev, k_sqdL, k_sqdT, o_listL, o_listT, b_eOpL, k_scOS, b_mvNil, b_mvCons, b_sAppTp, b_erTp, g_hardTp, g_softTp, g_giveTp, k_tpl, k_shTp, b_oSome, b_oNone, b_eSl, b_eMt, b_fn0, b_fnP, b_sRet, b_sAsg, b_gvName, b_gvNil, b_gvCons, b_gvTup, b_gvSub, b_sAsgG, b_sApp, b_sPar, b_sPar3, b_sAppIx, b_sAugI, b_cvsNil, b_cvsCons, b_bindCond, b_condFst, b_condSnd, b_giveT, b_sFor, b_iSq, b_iR1, b_iEnA, wipeE, cYes, at_zero, k_bool, k_int, k_str, k_tup, k_lst, k_list, k_itL, k_itT, k_itSS, k_trN, k_trB, k_trI, k_trSS, k_trL, k_trT, k_scN, k_scB, k_scI, k_scS, k_scL, k_scT, k_shS, k_shL, k_softT, k_hardT, k_cvT, k_softNil, k_softCons, k_hardNil, k_hardCons, g_hard, g_soft, g_cv, g_give, g_hardS, g_hardL, g_softS, g_softL, g_cvS, g_giveS, g_giveL, g_allSh, g_erSh, List.all_cons, List.all_nil, k_retR, k_retN, k_alA, k_hd, k_two, k_three, k_sh, k_odT, k_enS, k_enL, o_addI, o_addS, o_addL, o_sub, o_neg, o_ltI, o_leI, o_gtI, o_geI, o_lenS, o_lenL, o_lenT, o_abs, o_max, o_int, o_ixL, o_ixT, o_ixSS, o_slS, o_slL, o_in1S, o_ni1S, o_eqS, o_neS, o_eqI, o_neI, o_mul, o_div, o_mod, o_pow, o_divmod, z_ble0, z_ble1, z_ble2, z_ble3, z_ble4, z_ble5, z_ble6, z_ble7, z_ble8, z_ble9, z_ble10, z_ble13, z_ble17, S_l, S_len, S_app, es1, es2, startE, sNext, pk, DX.inR, Nat.beq, Nat.ble, List.any_cons, List.any_nil, List.filterMap_cons, List.filterMap_nil, Option.bind_some, Option.bind_none, cond_true, cond_false, decide_true, decide_false, List.map_cons, List.map_nil, List.length_cons, List.length_nil, List.length_map, List.length_set, List.getElem?_cons_zero, List.getElem?_cons_succ, List.cons_append, List.nil_append, List.set_cons_zero, List.set_cons_succ, List.replicate, Nat.reduceAdd, Nat.reduceSub, Nat.zero_add, Int.toNat_natCast, Bool.not_true, Bool.not_false, Bool.or_self, Bool.or_false, Bool.false_or, Bool.and_self, Bool.and_true, Bool.true_and, Bool.and_false, Bool.false_and, Bool.true_or, Bool.or_true, z_some, z_none, z_bind, z_then, z_map, z_mapK, b_eLc, lcStep, forStep, at_0, at_1, at_2, at_3, at_4, at_5, at_m1, ix_0, ix_1, ix_m1, blt_00, blt_0s, blt_12, blt_02, z_ifK, z_guard, z_guardN, z_seqN, z_seqR, z_seqB, z_seqC, z_sSeq, z_sIf, z_forN, z_forC, z_forB, z_forR, r_P1, r_P2, k_condSomeP, k_condNx, k_condEn, k_condSl, k_condPair, k_condTm, k_condSh, k_condI, k_condB, k_condAnd, k_condOr, k_condNot, o_gcd, k_condAndL, k_condOrL, b_jNil, b_jCons, b_eJoin, t_str, str_len, str_empty, Int.cast_ofNat_Int, Int.reduceEq, Int.reduceLT, Int.reduceLE, Int.reduceNeg, Int.reduceAdd, Int.reduceSub, Int.reduceMul, Int.reduceToNat, Int.reducePow, Nat.reduceLT, Nat.reduceLeDiff, Nat.reduceEqDiff, Nat.reduceMul, k_condSelf, x_no, x_raise, x_seqNo, b_xIf, x_inr, x_inl, b_xFn, o_neSelf, o_eqSelf, i_boolN, i_boolB, i_boolI, i_boolS, i_boolL, i_boolT, i_intN, i_intB, i_intI, i_intS, i_intL, i_intT, i_strN, i_strB, i_strI, i_strS, i_strL, i_strT, i_listN, i_listB, i_listI, i_listS, i_listL, i_listT, i_tupleN, i_tupleB, i_tupleI, i_tupleS, i_tupleL, i_tupleT, at_nat, decide_eq_true_eq, decide_eq_false_iff_not, Nat.ble_eq, and_true, true_and, Option.map_some, Option.isSome_some, *])
-- DXSIMP end
theorem law_holds : ∀ ns : List Int, ns.length ≤ 63 → (∀ i ∈ ns, Builtin.Int.intBits i ≤ 1048576) → mr_law [.sh (.list (ns.map PyData.int))] = some (.sh (.bool true)) := by
  intro ns h1 h2
  refine eq_of_sat ?_
  unfold mr_law ev_law
  walk_at "dx"
  refine ⟨fit_of (by decide), ?_⟩
  refine Sat.for (fun es os => ∃ (z1 z2 z3 z4 z5 z6 : Option OD), os = [some (.sh (.list (ns.map PyData.int))), z1, z2, z3, z4, z5, z6] ∧ ∀ d ∈ es, ∃ j : Nat, d = .int j ∧ j < 3) ⟨_, _, _, _, _, _, rfl, fun d q => range_mem q⟩ (fun d es os ⟨z1, z2, z3, z4, z5, z6, e, hs⟩ => ?_) fun os ⟨z1, z2, z3, z4, z5, z6, e, hs⟩ => ?_
  · subst e
    have hs' := hs
    obtain ⟨j, rfl, hj⟩ := hs d (List.mem_cons_self ..)
    have f3 : mulFits 3 (j : Int) = true := mulFits_small (by decide) (by omega)
    walk_at "dx"
    rw [f3]
    walk_at "dx"
    rw [show (3 : Int) * (j : Int) = ((3 * j : Nat) : Int) by omega]
    refine (sp_pot (k := 3 * j) (by omega)).mono fun r ⟨a, b, e, hb⟩ => ?_
    subst e
    walk_at "dx"
    refine (sp_world hb).mono fun r ⟨m, mo, ws, a2, b2, e, hm, hmo, hw, hb2⟩ => ?_
    subst e
    walk_at "dx"
    have cw : mr__law_copy [.sh (.tuple (.int m :: .int mo :: ws))] = some (.sh (.tuple (.int m :: .int mo :: ws))) := (e_copy hw (by decide) (by decide)).trans (by rw [cpy_t])
    rw [cw]
    walk_at "dx"
    rw [f3]
    walk_at "dx"
    rw [show (3 : Int) * (j : Int) + 1 = ((3 * j + 1 : Nat) : Int) by omega]
    refine (sp_pot (k := 3 * j + 1) (by omega)).mono fun r ⟨a3, b3, e, hb3⟩ => ?_
    subst e
    walk_at "dx"
    refine (sp_values hm hmo hb3).mono fun r ⟨l, a4, b4, e, hl, hll, hb4⟩ => ?_
    subst e
    walk_at "dx"
    refine Sat.for (fun es os => ∃ (z5 z6 : Option OD), os = [some (.sh (.list (ns.map PyData.int))), some (.sh (.int j)), some (potO a2 b2), some (.sh (.tuple (.int m :: .int mo :: ws))), some (.sh (.tuple (.int m :: .int mo :: ws))), z5, z6] ∧ ∀ d ∈ es, Gd 4000 8 d) ⟨_, _, rfl, gd_er hl⟩ (fun d es os ⟨z5, z6, e, hs⟩ => ?_) fun os ⟨z5, z6, e, hs⟩ => ?_
    · subst e
      have gd := hs d (List.mem_cons_self ..)
      have cd : mr__law_copy [.sh d] = some (cpy d) := e_copy gd (by decide) (by decide)
      walk_at "dx"
      rw [cd]
      walk_at "dx"
      rw [e_judged gd (by decide) (by decide)]
      walk_at "dx"
      have sd : mr__law_same [.sh d, .sh d] = some (.sh (.bool true)) := e_same gd (by decide) (by decide)
      rw [cpy_er gd, sd]
      walk_at "dx"
      exact ⟨_, _, rfl, fun d q => hs d (List.mem_cons_of_mem _ q)⟩
    · subst e
      walk_at "dx"
      have sw : mr__law_same [.sh (.tuple (.int m :: .int mo :: ws)), .sh (.tuple (.int m :: .int mo :: ws))] = some (.sh (.bool true)) := e_same hw (by decide) (by decide)
      rw [sw]
      walk_at "dx"
      exact ⟨_, _, _, _, _, _, rfl, fun d q => hs' d (List.mem_cons_of_mem _ q)⟩
  · subst e
    walk_at "dx"
end K55
/-! the walk (printed by genwalk.py). -/
namespace K55
open PySem PySem.Spec PyProof.Rows L2 DX
def topS (i : Nat) : Stmt := PySem.Challenge.pw_allreadings_k55_any_value_as_terms_and_s.main.body.getD i (.Pass ⟨0, 0, 0, 0⟩)
abbrev s_is_integer : Stmt := topS 1
abbrev s_is_stand_numbers : Stmt := topS 5
abbrev s_is_terms : Stmt := topS 6
abbrev s_is_linear : Stmt := topS 7
abbrev s_is_saying : Stmt := topS 8
abbrev s_is_supposed : Stmt := topS 9
abbrev s__law_pot : Stmt := topS 11
abbrev s__law_draw : Stmt := topS 12
abbrev s__law_pick : Stmt := topS 13
abbrev s__law_same : Stmt := topS 14
abbrev s__law_copy : Stmt := topS 15
abbrev s__law_is : Stmt := topS 16
abbrev s__law_whole : Stmt := topS 17
abbrev s__law_name : Stmt := topS 18
abbrev s__law_number : Stmt := topS 19
abbrev s__law_numbers : Stmt := topS 20
abbrev s__law_row : Stmt := topS 21
abbrev s__law_one : Stmt := topS 22
abbrev s__law_start : Stmt := topS 23
abbrev s__law_step : Stmt := topS 24
abbrev s__law_world : Stmt := topS 25
abbrev s__law_bent : Stmt := topS 26
abbrev s__law_terms : Stmt := topS 27
abbrev s__law_linear : Stmt := topS 28
abbrev s__law_is_numbers : Stmt := topS 29
abbrev s__law_is_terms : Stmt := topS 30
abbrev s__law_is_linear : Stmt := topS 31
abbrev s__law_are_linears : Stmt := topS 32
abbrev s__law_is_saying : Stmt := topS 33
abbrev s__law_is_supposed : Stmt := topS 34
abbrev s__law_values : Stmt := topS 35
abbrev s__law_judged : Stmt := topS 36
abbrev s_law : Stmt := topS 37
theorem sc_is_integer : FnScope ["value"] ["value"] (defScope s_is_integer) := ⟨rfl, rfl, rfl, by decide +kernel, rfl, by decide +kernel, by decide +kernel⟩
theorem sc_is_stand_numbers : FnScope ["world", "value", "one"] ["world", "value"] (defScope s_is_stand_numbers) := ⟨rfl, rfl, rfl, by decide +kernel, rfl, by decide +kernel, by decide +kernel⟩
theorem sc_is_terms : FnScope ["world", "value", "last", "one"] ["world", "value"] (defScope s_is_terms) := ⟨rfl, rfl, rfl, by decide +kernel, rfl, by decide +kernel, by decide +kernel⟩
theorem sc_is_linear : FnScope ["world", "value"] ["world", "value"] (defScope s_is_linear) := ⟨rfl, rfl, rfl, by decide +kernel, rfl, by decide +kernel, by decide +kernel⟩
theorem sc_is_saying : FnScope ["world", "value", "one"] ["world", "value"] (defScope s_is_saying) := ⟨rfl, rfl, rfl, by decide +kernel, rfl, by decide +kernel, by decide +kernel⟩
theorem sc_is_supposed : FnScope ["world", "value", "one"] ["world", "value"] (defScope s_is_supposed) := ⟨rfl, rfl, rfl, by decide +kernel, rfl, by decide +kernel, by decide +kernel⟩
theorem sc__law_pot : FnScope ["_law_script", "_law_k", "_law_cell"] ["_law_script", "_law_k"] (defScope s__law_pot) := ⟨rfl, rfl, rfl, by decide +kernel, rfl, by decide +kernel, by decide +kernel⟩
theorem sc__law_draw : FnScope ["_law_pot_here", "_law_many", "_law_digit"] ["_law_pot_here", "_law_many"] (defScope s__law_draw) := ⟨rfl, rfl, rfl, by decide +kernel, rfl, by decide +kernel, by decide +kernel⟩
theorem sc__law_pick : FnScope ["_law_pot_here", "_law_some"] ["_law_pot_here", "_law_some"] (defScope s__law_pick) := ⟨rfl, rfl, rfl, by decide +kernel, rfl, by decide +kernel, by decide +kernel⟩
theorem sc__law_same : FnScope ["_law_one_here", "_law_two", "_law_a", "_law_b"] ["_law_one_here", "_law_two"] (defScope s__law_same) := ⟨rfl, rfl, rfl, by decide +kernel, rfl, by decide +kernel, by decide +kernel⟩
theorem sc__law_copy : FnScope ["_law_value", "_law_one_here"] ["_law_value"] (defScope s__law_copy) := ⟨rfl, rfl, rfl, by decide +kernel, rfl, by decide +kernel, by decide +kernel⟩
theorem sc__law_is : FnScope ["_law_told", "_law_due"] ["_law_told", "_law_due"] (defScope s__law_is) := ⟨rfl, rfl, rfl, by decide +kernel, rfl, by decide +kernel, by decide +kernel⟩
theorem sc__law_whole : FnScope ["_law_value"] ["_law_value"] (defScope s__law_whole) := ⟨rfl, rfl, rfl, by decide +kernel, rfl, by decide +kernel, by decide +kernel⟩
theorem sc__law_name : FnScope ["_law_pot_here", "_law_k", "_law_l", "_law_x"] ["_law_pot_here", "_law_k"] (defScope s__law_name) := ⟨rfl, rfl, rfl, by decide +kernel, rfl, by decide +kernel, by decide +kernel⟩
theorem sc__law_number : FnScope ["_law_pot_here"] ["_law_pot_here"] (defScope s__law_number) := ⟨rfl, rfl, rfl, by decide +kernel, rfl, by decide +kernel, by decide +kernel⟩
theorem sc__law_numbers : FnScope ["_law_pot_here", "_law_many", "_law_made", "_law_x"] ["_law_pot_here", "_law_many"] (defScope s__law_numbers) := ⟨rfl, rfl, rfl, by decide +kernel, rfl, by decide +kernel, by decide +kernel⟩
theorem sc__law_row : FnScope ["_law_pot_here", "_law_many", "_law_x"] ["_law_pot_here", "_law_many"] (defScope s__law_row) := ⟨rfl, rfl, rfl, by decide +kernel, rfl, by decide +kernel, by decide +kernel⟩
theorem sc__law_one : FnScope ["_law_many", "_law_at", "_law_worth", "_law_x"] ["_law_many", "_law_at", "_law_worth"] (defScope s__law_one) := ⟨rfl, rfl, rfl, by decide +kernel, rfl, by decide +kernel, by decide +kernel⟩
theorem sc__law_start : FnScope ["_law_pot_here", "_law_many", "_law_rows", "_law_at", "_law_some", "_law_low", "_law_wide", "_law_x"] ["_law_pot_here", "_law_many"] (defScope s__law_start) := ⟨rfl, rfl, rfl, by decide +kernel, rfl, by decide +kernel, by decide +kernel⟩
theorem sc__law_step : FnScope ["_law_pot_here", "_law_many", "_law_at", "_law_way", "_law_rows", "_law_up", "_law_some", "_law_a", "_law_b", "_law_x"] ["_law_pot_here", "_law_many"] (defScope s__law_step) := ⟨rfl, rfl, rfl, by decide +kernel, rfl, by decide +kernel, by decide +kernel⟩
theorem sc__law_world : FnScope ["_law_pot_here", "_law_sizes", "_law_start_here", "_law_steps", "_law_sensors", "_law_k", "_law_many", "_law_moments", "_law_slack", "_law_numbers_here", "_law_x"] ["_law_pot_here", "_law_sizes"] (defScope s__law_world) := ⟨rfl, rfl, rfl, by decide +kernel, rfl, by decide +kernel, by decide +kernel⟩
theorem sc__law_bent : FnScope ["_law_pot_here", "_law_value", "_law_deep", "_law_many", "_law_at", "_law_new", "_law_some"] ["_law_pot_here", "_law_value", "_law_deep"] (defScope s__law_bent) := ⟨rfl, rfl, rfl, by decide +kernel, rfl, by decide +kernel, by decide +kernel⟩
theorem sc__law_terms : FnScope ["_law_pot_here", "_law_world_here", "_law_made", "_law_t"] ["_law_pot_here", "_law_world_here"] (defScope s__law_terms) := ⟨rfl, rfl, rfl, by decide +kernel, rfl, by decide +kernel, by decide +kernel⟩
theorem sc__law_linear : FnScope ["_law_pot_here", "_law_world_here"] ["_law_pot_here", "_law_world_here"] (defScope s__law_linear) := ⟨rfl, rfl, rfl, by decide +kernel, rfl, by decide +kernel, by decide +kernel⟩
theorem sc__law_is_numbers : FnScope ["_law_value", "_law_many", "_law_x"] ["_law_value", "_law_many"] (defScope s__law_is_numbers) := ⟨rfl, rfl, rfl, by decide +kernel, rfl, by decide +kernel, by decide +kernel⟩
theorem sc__law_is_terms : FnScope ["_law_world_here", "_law_value", "_law_last", "_law_one_here"] ["_law_world_here", "_law_value"] (defScope s__law_is_terms) := ⟨rfl, rfl, rfl, by decide +kernel, rfl, by decide +kernel, by decide +kernel⟩
theorem sc__law_is_linear : FnScope ["_law_world_here", "_law_value"] ["_law_world_here", "_law_value"] (defScope s__law_is_linear) := ⟨rfl, rfl, rfl, by decide +kernel, rfl, by decide +kernel, by decide +kernel⟩
theorem sc__law_are_linears : FnScope ["_law_world_here", "_law_value", "_law_most", "_law_one_here"] ["_law_world_here", "_law_value", "_law_most"] (defScope s__law_are_linears) := ⟨rfl, rfl, rfl, by decide +kernel, rfl, by decide +kernel, by decide +kernel⟩
theorem sc__law_is_saying : FnScope ["_law_world_here", "_law_value"] ["_law_world_here", "_law_value"] (defScope s__law_is_saying) := ⟨rfl, rfl, rfl, by decide +kernel, rfl, by decide +kernel, by decide +kernel⟩
theorem sc__law_is_supposed : FnScope ["_law_world_here", "_law_value"] ["_law_world_here", "_law_value"] (defScope s__law_is_supposed) := ⟨rfl, rfl, rfl, by decide +kernel, rfl, by decide +kernel, by decide +kernel⟩
theorem sc__law_values : FnScope ["_law_pot_here", "_law_world_here", "_law_linears", "_law_some", "_law_few", "_law_saying", "_law_right", "_law_bent_here", "_law_x", "_law_value"] ["_law_pot_here", "_law_world_here"] (defScope s__law_values) := ⟨rfl, rfl, rfl, by decide +kernel, rfl, by decide +kernel, by decide +kernel⟩
theorem sc__law_judged : FnScope ["_law_world_here", "_law_value"] ["_law_world_here", "_law_value"] (defScope s__law_judged) := ⟨rfl, rfl, rfl, by decide +kernel, rfl, by decide +kernel, by decide +kernel⟩
theorem sc_law : FnScope ["_law_script", "_law_k", "_law_pot_here", "_law_world_here", "_law_shown", "_law_value", "_law_kept"] ["_law_script"] (defScope s_law) := ⟨rfl, rfl, rfl, by decide +kernel, rfl, by decide +kernel, by decide +kernel⟩
/-- what stands behind the top -/
structure Txt (K : PySem.W.Frag) (mg : Str → Option Value) where
  a_is_integer : Addr
  d_is_integer : FuncData
  F_is_integer : Fun K "is_integer" "is_integer" s_is_integer a_is_integer d_is_integer
  g_is_integer : mg "is_integer" = some (.ref a_is_integer)
  a_is_stand_numbers : Addr
  d_is_stand_numbers : FuncData
  F_is_stand_numbers : Fun K "is_stand_numbers" "is_stand_numbers" s_is_stand_numbers a_is_stand_numbers d_is_stand_numbers
  g_is_stand_numbers : mg "is_stand_numbers" = some (.ref a_is_stand_numbers)
  a_is_terms : Addr
  d_is_terms : FuncData
  F_is_terms : Fun K "is_terms" "is_terms" s_is_terms a_is_terms d_is_terms
  g_is_terms : mg "is_terms" = some (.ref a_is_terms)
  a_is_linear : Addr
  d_is_linear : FuncData
  F_is_linear : Fun K "is_linear" "is_linear" s_is_linear a_is_linear d_is_linear
  g_is_linear : mg "is_linear" = some (.ref a_is_linear)
  a_is_saying : Addr
  d_is_saying : FuncData
  F_is_saying : Fun K "is_saying" "is_saying" s_is_saying a_is_saying d_is_saying
  g_is_saying : mg "is_saying" = some (.ref a_is_saying)
  a_is_supposed : Addr
  d_is_supposed : FuncData
  F_is_supposed : Fun K "is_supposed" "is_supposed" s_is_supposed a_is_supposed d_is_supposed
  g_is_supposed : mg "is_supposed" = some (.ref a_is_supposed)
  a__law_pot : Addr
  d__law_pot : FuncData
  F__law_pot : Fun K "_law_pot" "_law_pot" s__law_pot a__law_pot d__law_pot
  g__law_pot : mg "_law_pot" = some (.ref a__law_pot)
  a__law_draw : Addr
  d__law_draw : FuncData
  F__law_draw : Fun K "_law_draw" "_law_draw" s__law_draw a__law_draw d__law_draw
  g__law_draw : mg "_law_draw" = some (.ref a__law_draw)
  a__law_pick : Addr
  d__law_pick : FuncData
  F__law_pick : Fun K "_law_pick" "_law_pick" s__law_pick a__law_pick d__law_pick
  g__law_pick : mg "_law_pick" = some (.ref a__law_pick)
  a__law_same : Addr
  d__law_same : FuncData
  F__law_same : Fun K "_law_same" "_law_same" s__law_same a__law_same d__law_same
  g__law_same : mg "_law_same" = some (.ref a__law_same)
  a__law_copy : Addr
  d__law_copy : FuncData
  F__law_copy : Fun K "_law_copy" "_law_copy" s__law_copy a__law_copy d__law_copy
  g__law_copy : mg "_law_copy" = some (.ref a__law_copy)
  a__law_is : Addr
  d__law_is : FuncData
  F__law_is : Fun K "_law_is" "_law_is" s__law_is a__law_is d__law_is
  g__law_is : mg "_law_is" = some (.ref a__law_is)
  a__law_whole : Addr
  d__law_whole : FuncData
  F__law_whole : Fun K "_law_whole" "_law_whole" s__law_whole a__law_whole d__law_whole
  g__law_whole : mg "_law_whole" = some (.ref a__law_whole)
  a__law_name : Addr
  d__law_name : FuncData
  F__law_name : Fun K "_law_name" "_law_name" s__law_name a__law_name d__law_name
  g__law_name : mg "_law_name" = some (.ref a__law_name)
  a__law_number : Addr
  d__law_number : FuncData
  F__law_number : Fun K "_law_number" "_law_number" s__law_number a__law_number d__law_number
  g__law_number : mg "_law_number" = some (.ref a__law_number)
  a__law_numbers : Addr
  d__law_numbers : FuncData
  F__law_numbers : Fun K "_law_numbers" "_law_numbers" s__law_numbers a__law_numbers d__law_numbers
  g__law_numbers : mg "_law_numbers" = some (.ref a__law_numbers)
  a__law_row : Addr
  d__law_row : FuncData
  F__law_row : Fun K "_law_row" "_law_row" s__law_row a__law_row d__law_row
  g__law_row : mg "_law_row" = some (.ref a__law_row)
  a__law_one : Addr
  d__law_one : FuncData
  F__law_one : Fun K "_law_one" "_law_one" s__law_one a__law_one d__law_one
  g__law_one : mg "_law_one" = some (.ref a__law_one)
  a__law_start : Addr
  d__law_start : FuncData
  F__law_start : Fun K "_law_start" "_law_start" s__law_start a__law_start d__law_start
  g__law_start : mg "_law_start" = some (.ref a__law_start)
  a__law_step : Addr
  d__law_step : FuncData
  F__law_step : Fun K "_law_step" "_law_step" s__law_step a__law_step d__law_step
  g__law_step : mg "_law_step" = some (.ref a__law_step)
  a__law_world : Addr
  d__law_world : FuncData
  F__law_world : Fun K "_law_world" "_law_world" s__law_world a__law_world d__law_world
  g__law_world : mg "_law_world" = some (.ref a__law_world)
  a__law_bent : Addr
  d__law_bent : FuncData
  F__law_bent : Fun K "_law_bent" "_law_bent" s__law_bent a__law_bent d__law_bent
  g__law_bent : mg "_law_bent" = some (.ref a__law_bent)
  a__law_terms : Addr
  d__law_terms : FuncData
  F__law_terms : Fun K "_law_terms" "_law_terms" s__law_terms a__law_terms d__law_terms
  g__law_terms : mg "_law_terms" = some (.ref a__law_terms)
  a__law_linear : Addr
  d__law_linear : FuncData
  F__law_linear : Fun K "_law_linear" "_law_linear" s__law_linear a__law_linear d__law_linear
  g__law_linear : mg "_law_linear" = some (.ref a__law_linear)
  a__law_is_numbers : Addr
  d__law_is_numbers : FuncData
  F__law_is_numbers : Fun K "_law_is_numbers" "_law_is_numbers" s__law_is_numbers a__law_is_numbers d__law_is_numbers
  g__law_is_numbers : mg "_law_is_numbers" = some (.ref a__law_is_numbers)
  a__law_is_terms : Addr
  d__law_is_terms : FuncData
  F__law_is_terms : Fun K "_law_is_terms" "_law_is_terms" s__law_is_terms a__law_is_terms d__law_is_terms
  g__law_is_terms : mg "_law_is_terms" = some (.ref a__law_is_terms)
  a__law_is_linear : Addr
  d__law_is_linear : FuncData
  F__law_is_linear : Fun K "_law_is_linear" "_law_is_linear" s__law_is_linear a__law_is_linear d__law_is_linear
  g__law_is_linear : mg "_law_is_linear" = some (.ref a__law_is_linear)
  a__law_are_linears : Addr
  d__law_are_linears : FuncData
  F__law_are_linears : Fun K "_law_are_linears" "_law_are_linears" s__law_are_linears a__law_are_linears d__law_are_linears
  g__law_are_linears : mg "_law_are_linears" = some (.ref a__law_are_linears)
  a__law_is_saying : Addr
  d__law_is_saying : FuncData
  F__law_is_saying : Fun K "_law_is_saying" "_law_is_saying" s__law_is_saying a__law_is_saying d__law_is_saying
  g__law_is_saying : mg "_law_is_saying" = some (.ref a__law_is_saying)
  a__law_is_supposed : Addr
  d__law_is_supposed : FuncData
  F__law_is_supposed : Fun K "_law_is_supposed" "_law_is_supposed" s__law_is_supposed a__law_is_supposed d__law_is_supposed
  g__law_is_supposed : mg "_law_is_supposed" = some (.ref a__law_is_supposed)
  a__law_values : Addr
  d__law_values : FuncData
  F__law_values : Fun K "_law_values" "_law_values" s__law_values a__law_values d__law_values
  g__law_values : mg "_law_values" = some (.ref a__law_values)
  a__law_judged : Addr
  d__law_judged : FuncData
  F__law_judged : Fun K "_law_judged" "_law_judged" s__law_judged a__law_judged d__law_judged
  g__law_judged : mg "_law_judged" = some (.ref a__law_judged)
  a_law : Addr
  d_law : FuncData
  F_law : Fun K "law" "law" s_law a_law d_law
  g_law : mg "law" = some (.ref a_law)
  co_is_stand_numbers : Addr
  ta_is_stand_numbers : Addr
  cc_is_stand_numbers : d_is_stand_numbers.code = .ref co_is_stand_numbers
  hd_is_stand_numbers : PySem.W.codeHdIn K co_is_stand_numbers ta_is_stand_numbers = true
  tb_is_stand_numbers : TbK K ta_is_stand_numbers
  co_is_saying : Addr
  ta_is_saying : Addr
  cc_is_saying : d_is_saying.code = .ref co_is_saying
  hd_is_saying : PySem.W.codeHdIn K co_is_saying ta_is_saying = true
  tb_is_saying : TbK K ta_is_saying
  co_is_supposed : Addr
  ta_is_supposed : Addr
  cc_is_supposed : d_is_supposed.code = .ref co_is_supposed
  hd_is_supposed : PySem.W.codeHdIn K co_is_supposed ta_is_supposed = true
  tb_is_supposed : TbK K ta_is_supposed
  t_MOST_LINEARS : Tok
  c_MOST_LINEARS : mg "MOST_LINEARS" = some (.int 8 t_MOST_LINEARS)
  t_MOST_SUPPOSED : Tok
  c_MOST_SUPPOSED : mg "MOST_SUPPOSED" = some (.int 4 t_MOST_SUPPOSED)
  m_abs : mg "abs" = none
  m_all : mg "all" = none
  m_any : mg "any" = none
  m_bool : mg "bool" = none
  m_divmod : mg "divmod" = none
  m_int : mg "int" = none
  m_isinstance : mg "isinstance" = none
  m_len : mg "len" = none
  m_list : mg "list" = none
  m_max : mg "max" = none
  m_range : mg "range" = none
  m_str : mg "str" = none
  m_tuple : mg "tuple" = none
  m_zip : mg "zip" = none
section
variable {P : Program} {w : World} {K : PySem.W.Frag} {mg : Str → Option Value} {base : Heap}
theorem ok_is_integer (T : Txt K mg) (TB : TabsB K mg base) : FnG P w K mg base 1 T.a_is_integer T.d_is_integer ["value"] (sp0 K mr_is_integer 1) :=
  ok_fn0 T.F_is_integer sc_is_integer (fun n cdv A outer s H hcd hA hr =>
    (ss_one (ss_ret (se_and (se_isi (n := "int") T.m_isinstance T.m_int (se_var 0)) (se_one (se_not (se_isi (n := "bool") T.m_isinstance T.m_bool (se_var 0)))))))) fun os r _ h => hm_of fuel h
theorem ok__law_pot (T : Txt K mg) (TB : TabsB K mg base) : FnG P w K mg base 1 T.a__law_pot T.d__law_pot ["_law_script", "_law_k"] (sp0 K mr__law_pot 2) :=
  ok_fn0 T.F__law_pot sc__law_pot (fun n cdv A outer s H hcd hA hr =>
    (ss_cons' (ss_asg 2 sc__law_pot.nd (se_if (st_lt (se_var 1) (se_len T.m_len (ss_cons (se_var 0) ss_nil))) (se_abs T.m_abs (ss_cons (se_ix (se_var 0) (se_var 1)) ss_nil)) (se_addW (se_mul se_int (se_var 1)) se_int)))
    (ss_one (ss_ret (se_lst (ss_cons (se_max2 rfl T.m_max (ss_cons se_int (ss_cons (se_sub (se_var 2) (se_pow se_int se_int)) ss_nil))) (ss_cons (se_addW (se_mod (se_int1 T.m_int (ss_cons (se_addW (se_addW (se_mul (se_mod (se_int1 T.m_int (ss_cons (se_var 2) ss_nil)) se_int) se_int) (se_mul se_int (se_var 1))) se_int) ss_nil)) se_int) se_int) ss_nil))))))) fun os r _ h => hm_of fuel h
theorem ok__law_draw (T : Txt K mg) (TB : TabsB K mg base) : FnG P w K mg base 1 T.a__law_draw T.d__law_draw ["_law_pot_here", "_law_many"] (spP K mr__law_draw 1) :=
  ok_fnP T.F__law_draw sc__law_draw rfl (fun n cdv A outer s H hcd hA hr =>
    (ss_cons' (ss_if (st_gt (se_ix (se_var 0) se_int) se_int) (ss_cons' (ss_asgG (sg_tup (n := 2) rfl (sgs_cons (sg_sub 0 se_int) (sgs_cons (sg_name 2 sc__law_draw.nd) sgs_nil))) (se_divmod T.m_divmod (ss_cons (se_ix (se_var 0) se_int) (ss_cons (se_var 1) ss_nil))))
    (ss_one (ss_ret (se_var 2)))) ss_nil')
    (ss_cons' (ss_asgG (sg_sub 0 se_int) (se_mod (se_int1 T.m_int (ss_cons (se_addW (se_mul (se_ix (se_var 0) se_int) se_int) se_int) ss_nil)) se_int))
    (ss_one (ss_ret (se_mod (se_int1 T.m_int (ss_cons (se_div (se_mod (se_int1 T.m_int (ss_cons (se_mul (se_ix (se_var 0) se_int) (se_ix (se_var 0) se_int)) ss_nil)) se_int) se_int) ss_nil)) (se_var 1))))))) fun op os r op' _ h => hp_of fuel h
theorem ok__law_is (T : Txt K mg) (TB : TabsB K mg base) : FnG P w K mg base 1 T.a__law_is T.d__law_is ["_law_told", "_law_due"] (sp0 K mr__law_is 2) :=
  ok_fn0 T.F__law_is sc__law_is (fun n cdv A outer s H hcd hA hr =>
    (ss_one (ss_ret (se_and (se_isi (n := "bool") T.m_isinstance T.m_bool (se_var 0)) (se_one (se_eq hr (se_var 0) (se_var 1))))))) fun os r _ h => hm_of fuel h
theorem ok__law_whole (T : Txt K mg) (TB : TabsB K mg base) : FnG P w K mg base 1 T.a__law_whole T.d__law_whole ["_law_value"] (sp0 K mr__law_whole 1) :=
  ok_fn0 T.F__law_whole sc__law_whole (fun n cdv A outer s H hcd hA hr =>
    (ss_one (ss_ret (se_and (se_isi (n := "int") T.m_isinstance T.m_int (se_var 0)) (se_one (se_not (se_isi (n := "bool") T.m_isinstance T.m_bool (se_var 0)))))))) fun os r _ h => hm_of fuel h
theorem ok__law_one (T : Txt K mg) (TB : TabsB K mg base) : FnG P w K mg base 1 T.a__law_one T.d__law_one ["_law_many", "_law_at", "_law_worth"] (sp0 K mr__law_one 3) :=
  ok_fn0 T.F__law_one sc__law_one (fun n cdv A outer s H hcd hA hr =>
    (ss_one (ss_ret (se_tuple1 T.m_tuple (ss_cons (se_lc 3 rfl sc__law_one.nd (si_r1 T.m_range (ss_cons (se_var 0) ss_nil)) (fun _ _ _ _ _ => (se_if (st_eq hr (se_var 3) (se_var 1)) (se_var 2) se_int)) (ok := blkOk_by (N := ["_law_many", "_law_at", "_law_worth", "_law_x"]) (sc := defScope s__law_one) (by decide +kernel)) (hg := fun _ _ _ _ _ => pg_name sc__law_one.nd rfl (Or.inl rfl))) ss_nil))))) fun os r _ h => hm_of fuel h
theorem ok__law_pick (T : Txt K mg) (TB : TabsB K mg base) : FnG P w K mg base 2 T.a__law_pick T.d__law_pick ["_law_pot_here", "_law_some"] (spP K mr__law_pick 1) :=
  ok_fnP T.F__law_pick sc__law_pick rfl (fun n cdv A outer s H hcd hA hr =>
    (ss_one (ss_ret (se_ix (se_var 1) (se_callP (idx := [0]) (ok__law_draw T TB) hA (hr.mono (by first | decide | (simp only [Nat.add_eq]; omega))) T.g__law_draw T.F__law_draw.kp (Fun.bd T.F__law_draw fun _ _ _ _ _ _ us hl => match us, hl with | [_, _], _ => rfl) (ss_cons (se_var 0) (ss_cons (se_len T.m_len (ss_cons (se_var 1) ss_nil)) ss_nil))))))) fun op os r op' _ h => hp_of fuel h
theorem ok__law_is_numbers (T : Txt K mg) (TB : TabsB K mg base) : FnG P w K mg base 2 T.a__law_is_numbers T.d__law_is_numbers ["_law_value", "_law_many"] (sp0 K mr__law_is_numbers 2) :=
  ok_fn0 T.F__law_is_numbers sc__law_is_numbers (fun n cdv A outer s H hcd hA hr =>
    (ss_cons' (ss_if (STw.t (st_or (st_not (st_tru (se_isi (n := "tuple") T.m_isinstance T.m_tuple (se_var 0)))) (st_or1 (st_ne hr (se_len T.m_len (ss_cons (se_var 0) ss_nil)) (se_var 1))))) (ss_one (ss_ret se_bl)) ss_nil')
    (ss_one (ss_ret (se_and (se_all rfl T.m_all (ss_cons (se_lc 2 rfl sc__law_is_numbers.nd (si_sq (se_var 0)) (fun _ _ _ _ _ => (se_call0 (idx := [0]) (ok__law_whole T TB) hA (hr.mono (by first | decide | (simp only [Nat.add_eq]; omega))) T.g__law_whole T.F__law_whole.kp (Fun.bd T.F__law_whole fun _ _ _ _ _ _ us hl => match us, hl with | [_], _ => rfl) (ss_cons (se_var 2) ss_nil))) (ok := blkOk_by (N := ["_law_value", "_law_many", "_law_x"]) (sc := defScope s__law_is_numbers) (by decide +kernel)) (hg := fun _ _ _ _ _ => pg_name sc__law_is_numbers.nd rfl (Or.inl rfl))) ss_nil)) (se_one (se_any rfl T.m_any (ss_cons (se_lc 2 rfl sc__law_is_numbers.nd (si_sq (se_var 0)) (fun _ _ _ _ _ => (se_ne hr (se_var 2) se_int)) (ok := blkOk_by (N := ["_law_value", "_law_many", "_law_x"]) (sc := defScope s__law_is_numbers) (by decide +kernel)) (hg := fun _ _ _ _ _ => pg_name sc__law_is_numbers.nd rfl (Or.inl rfl))) ss_nil)))))))) fun os r _ h => hm_of fuel h
theorem ok__law_name (T : Txt K mg) (TB : TabsB K mg base) : FnG P w K mg base 3 T.a__law_name T.d__law_name ["_law_pot_here", "_law_k"] (spP K mr__law_name 1) :=
  ok_fnP T.F__law_name sc__law_name rfl (fun n cdv A outer s H hcd hA hr =>
    (ss_cons' (ss_par 2 3 rfl sc__law_name.nd (ss_cons (se_callP (idx := [0]) (ok__law_pick T TB) hA (hr.mono (by first | decide | (simp only [Nat.add_eq]; omega))) T.g__law_pick T.F__law_pick.kp (Fun.bd T.F__law_pick fun _ _ _ _ _ _ us hl => match us, hl with | [_, _], _ => rfl) (ss_cons (se_var 0) (ss_cons se_str ss_nil))) (ss_cons (se_str1 T.m_str (ss_cons (se_callP (idx := [0]) (ok__law_draw T TB) hA (hr.mono (by first | decide | (simp only [Nat.add_eq]; omega))) T.g__law_draw T.F__law_draw.kp (Fun.bd T.F__law_draw fun _ _ _ _ _ _ us hl => match us, hl with | [_, _], _ => rfl) (ss_cons (se_var 0) (ss_cons se_int ss_nil))) ss_nil)) ss_nil)))
    (ss_one (ss_ret (se_callP (idx := [0]) (ok__law_pick T TB) hA (hr.mono (by first | decide | (simp only [Nat.add_eq]; omega))) T.g__law_pick T.F__law_pick.kp (Fun.bd T.F__law_pick fun _ _ _ _ _ _ us hl => match us, hl with | [_, _], _ => rfl) (ss_cons (se_var 0) (ss_cons (se_lst (ss_cons (se_addW (se_var 2) (se_str1 T.m_str (ss_cons (se_var 1) ss_nil))) (ss_cons (se_addW (se_addW (se_addW (se_var 2) (se_str1 T.m_str (ss_cons (se_var 1) ss_nil))) (se_var 3)) (se_var 2)) (ss_cons (se_addW (se_addW (se_var 2) (se_var 2)) (se_str1 T.m_str (ss_cons (se_var 1) ss_nil))) (ss_cons (se_addW (se_addW (se_addW se_str (se_var 2)) (se_str1 T.m_str (ss_cons (se_var 1) ss_nil))) (se_var 3)) ss_nil))))) ss_nil))))))) fun op os r op' _ h => hp_of fuel h
theorem ok__law_number (T : Txt K mg) (TB : TabsB K mg base) : FnG P w K mg base 3 T.a__law_number T.d__law_number ["_law_pot_here"] (spP K mr__law_number 0) :=
  ok_fnP T.F__law_number sc__law_number rfl (fun n cdv A outer s H hcd hA hr =>
    (ss_one (ss_ret (se_callP (idx := [0]) (ok__law_pick T TB) hA (hr.mono (by first | decide | (simp only [Nat.add_eq]; omega))) T.g__law_pick T.F__law_pick.kp (Fun.bd T.F__law_pick fun _ _ _ _ _ _ us hl => match us, hl with | [_, _], _ => rfl) (ss_cons (se_var 0) (ss_cons (se_lst (ss_cons se_int (ss_cons se_int (ss_cons (se_neg se_int) (ss_cons se_int (ss_cons (se_neg se_int) (ss_cons se_int (ss_cons (se_sub (se_callP (idx := [0]) (ok__law_draw T TB) hA (hr.mono (by first | decide | (simp only [Nat.add_eq]; omega))) T.g__law_draw T.F__law_draw.kp (Fun.bd T.F__law_draw fun _ _ _ _ _ _ us hl => match us, hl with | [_, _], _ => rfl) (ss_cons (se_var 0) (ss_cons se_int ss_nil))) se_int) ss_nil)))))))) ss_nil)))))) fun op os r op' _ h => hp_of fuel h
theorem ok__law_is_terms (T : Txt K mg) (TB : TabsB K mg base) : FnG P w K mg base 3 T.a__law_is_terms T.d__law_is_terms ["_law_world_here", "_law_value"] (sp0 K mr__law_is_terms 2) :=
  ok_fn0 T.F__law_is_terms sc__law_is_terms (fun n cdv A outer s H hcd hA hr =>
    (ss_cons' (ss_if (st_not (st_tru (se_isi (n := "list") T.m_isinstance T.m_list (se_var 1)))) (ss_one (ss_ret se_bl)) ss_nil')
    (ss_cons' (ss_asg 2 sc__law_is_terms.nd (se_neg se_int))
    (ss_cons' (ss_for rfl PassesOwn.never (si_sq (se_var 1)) (sg_name 3 sc__law_is_terms.nd) (ss_cons' (ss_if (STw.t (st_or (st_not (st_tru (se_isi (n := "tuple") T.m_isinstance T.m_tuple (se_var 3)))) (st_or (st_ne hr (se_len T.m_len (ss_cons (se_var 3) ss_nil)) se_int) (st_or1 (st_not (st_tru (se_call0 (idx := [0]) (ok__law_whole T TB) hA (hr.mono (by first | decide | (simp only [Nat.add_eq]; omega))) T.g__law_whole T.F__law_whole.kp (Fun.bd T.F__law_whole fun _ _ _ _ _ _ us hl => match us, hl with | [_], _ => rfl) (ss_cons (se_ix (se_var 3) se_int) ss_nil)))))))) (ss_one (ss_ret se_bl)) ss_nil')
    (ss_cons' (ss_if (STw.t (st_or (st_le (se_ix (se_var 3) se_int) (se_var 2)) (st_or (st_ge (se_ix (se_var 3) se_int) (se_ix (se_var 0) se_int)) (st_or1 (st_not (st_tru (se_call0 (idx := [0, 1]) (ok__law_is_numbers T TB) hA (hr.mono (by first | decide | (simp only [Nat.add_eq]; omega))) T.g__law_is_numbers T.F__law_is_numbers.kp (Fun.bd T.F__law_is_numbers fun _ _ _ _ _ _ us hl => match us, hl with | [_, _], _ => rfl) (ss_cons (se_ix (se_var 3) se_int) (ss_cons (se_ix (se_var 0) se_int) ss_nil))))))))) (ss_one (ss_ret se_bl)) ss_nil')
    (ss_one (ss_asg 2 sc__law_is_terms.nd (se_ix (se_var 3) se_int))))))
    (ss_one (ss_ret se_bl)))))) fun os r _ h => hm_of fuel h
theorem ok__law_numbers (T : Txt K mg) (TB : TabsB K mg base) : FnG P w K mg base 4 T.a__law_numbers T.d__law_numbers ["_law_pot_here", "_law_many"] (spP K mr__law_numbers 1) :=
  ok_fnP T.F__law_numbers sc__law_numbers rfl (fun n cdv A outer s H hcd hA hr =>
    (ss_cons' (ss_setLc 2 3 rfl sc__law_numbers.nd (si_r1 T.m_range (ss_cons (se_var 1) ss_nil)) (fun _ _ _ _ _ => (se_callP (idx := []) (ok__law_number T TB) hA (hr.mono (by first | decide | (simp only [Nat.add_eq]; omega))) T.g__law_number T.F__law_number.kp (Fun.bd T.F__law_number fun _ _ _ _ _ _ us hl => match us, hl with | [_], _ => rfl) (ss_cons (se_var 0) ss_nil))) (ok := blkOk_by (N := ["_law_pot_here", "_law_many", "_law_made", "_law_x"]) (sc := defScope s__law_numbers) (by decide +kernel)) (hg := fun _ _ _ _ _ => pg_name sc__law_numbers.nd rfl (Or.inl rfl)))
    (ss_cons' (ss_if (st_tru (se_all rfl T.m_all (ss_cons (se_lcV 3 2 rfl sc__law_numbers.nd (fun _ _ _ _ _ => (se_eq hr (se_var 3) se_int)) (ok := blkOk_by (N := ["_law_pot_here", "_law_many", "_law_made", "_law_x"]) (sc := defScope s__law_numbers) (by decide +kernel)) (hg := fun _ _ _ _ _ => pg_name sc__law_numbers.nd rfl (Or.inl rfl))) ss_nil))) (ss_one (ss_asgG (sg_sub 2 (se_callP (idx := [0]) (ok__law_draw T TB) hA (hr.mono (by first | decide | (simp only [Nat.add_eq]; omega))) T.g__law_draw T.F__law_draw.kp (Fun.bd T.F__law_draw fun _ _ _ _ _ _ us hl => match us, hl with | [_, _], _ => rfl) (ss_cons (se_var 0) (ss_cons (se_var 1) ss_nil)))) (se_callP (idx := [0]) (ok__law_pick T TB) hA (hr.mono (by first | decide | (simp only [Nat.add_eq]; omega))) T.g__law_pick T.F__law_pick.kp (Fun.bd T.F__law_pick fun _ _ _ _ _ _ us hl => match us, hl with | [_, _], _ => rfl) (ss_cons (se_var 0) (ss_cons (se_lst (ss_cons se_int (ss_cons (se_neg se_int) (ss_cons se_int (ss_cons (se_neg se_int) ss_nil))))) ss_nil))))) ss_nil')
    (ss_one (ss_ret (se_tuple1 T.m_tuple (ss_cons (se_var 2) ss_nil))))))) fun op os r op' _ h => hp_of fuel h
theorem ok__law_row (T : Txt K mg) (TB : TabsB K mg base) : FnG P w K mg base 4 T.a__law_row T.d__law_row ["_law_pot_here", "_law_many"] (spP K mr__law_row 1) :=
  ok_fnP T.F__law_row sc__law_row rfl (fun n cdv A outer s H hcd hA hr =>
    (ss_one (ss_ret (se_tup (ss_cons (se_tuple1 T.m_tuple (ss_cons (se_lc 2 rfl sc__law_row.nd (si_r1 T.m_range (ss_cons (se_var 1) ss_nil)) (fun _ _ _ _ _ => (se_callP (idx := []) (ok__law_number T TB) hA (hr.mono (by first | decide | (simp only [Nat.add_eq]; omega))) T.g__law_number T.F__law_number.kp (Fun.bd T.F__law_number fun _ _ _ _ _ _ us hl => match us, hl with | [_], _ => rfl) (ss_cons (se_var 0) ss_nil))) (ok := blkOk_by (N := ["_law_pot_here", "_law_many", "_law_x"]) (sc := defScope s__law_row) (by decide +kernel)) (hg := fun _ _ _ _ _ => pg_name sc__law_row.nd rfl (Or.inl rfl))) ss_nil)) (ss_cons (se_sub (se_callP (idx := [0]) (ok__law_draw T TB) hA (hr.mono (by first | decide | (simp only [Nat.add_eq]; omega))) T.g__law_draw T.F__law_draw.kp (Fun.bd T.F__law_draw fun _ _ _ _ _ _ us hl => match us, hl with | [_, _], _ => rfl) (ss_cons (se_var 0) (ss_cons se_int ss_nil))) se_int) ss_nil)))))) fun op os r op' _ h => hp_of fuel h
theorem ok__law_is_linear (T : Txt K mg) (TB : TabsB K mg base) : FnG P w K mg base 4 T.a__law_is_linear T.d__law_is_linear ["_law_world_here", "_law_value"] (sp0 K mr__law_is_linear 2) :=
  ok_fn0 T.F__law_is_linear sc__law_is_linear (fun n cdv A outer s H hcd hA hr =>
    (ss_cons' (ss_if (STw.t (st_or (st_not (st_tru (se_isi (n := "tuple") T.m_isinstance T.m_tuple (se_var 1)))) (st_or1 (st_ne hr (se_len T.m_len (ss_cons (se_var 1) ss_nil)) se_int)))) (ss_one (ss_ret se_bl)) ss_nil')
    (ss_one (ss_ret (se_and (se_call0 (idx := [0, 1]) (ok__law_is_terms T TB) hA (hr.mono (by first | decide | (simp only [Nat.add_eq]; omega))) T.g__law_is_terms T.F__law_is_terms.kp (Fun.bd T.F__law_is_terms fun _ _ _ _ _ _ us hl => match us, hl with | [_, _], _ => rfl) (ss_cons (se_var 0) (ss_cons (se_ix (se_var 1) se_int) ss_nil))) (se_one (se_call0 (idx := [0]) (ok__law_whole T TB) hA (hr.mono (by first | decide | (simp only [Nat.add_eq]; omega))) T.g__law_whole T.F__law_whole.kp (Fun.bd T.F__law_whole fun _ _ _ _ _ _ us hl => match us, hl with | [_], _ => rfl) (ss_cons (se_ix (se_var 1) se_int) ss_nil)))))))) fun os r _ h => hm_of fuel h
theorem ok__law_are_linears (T : Txt K mg) (TB : TabsB K mg base) : FnG P w K mg base 4 T.a__law_are_linears T.d__law_are_linears ["_law_world_here", "_law_value", "_law_most"] (sp0 K mr__law_are_linears 3) :=
  ok_fn0 T.F__law_are_linears sc__law_are_linears (fun n cdv A outer s H hcd hA hr =>
    (ss_cons' (ss_if (STw.t (st_or (st_not (st_tru (se_isi (n := "list") T.m_isinstance T.m_list (se_var 1)))) (st_or1 (st_gt (se_len T.m_len (ss_cons (se_var 1) ss_nil)) (se_var 2))))) (ss_one (ss_ret se_bl)) ss_nil')
    (ss_cons' (ss_for rfl PassesOwn.never (si_sq (se_var 1)) (sg_name 3 sc__law_are_linears.nd) (ss_cons' (ss_if (STw.t (st_or (st_not (st_tru (se_isi (n := "tuple") T.m_isinstance T.m_tuple (se_var 3)))) (st_or (st_ne hr (se_len T.m_len (ss_cons (se_var 3) ss_nil)) se_int) (st_or1 (st_not (st_tru (se_call0 (idx := [0]) (ok__law_whole T TB) hA (hr.mono (by first | decide | (simp only [Nat.add_eq]; omega))) T.g__law_whole T.F__law_whole.kp (Fun.bd T.F__law_whole fun _ _ _ _ _ _ us hl => match us, hl with | [_], _ => rfl) (ss_cons (se_ix (se_var 3) se_int) ss_nil)))))))) (ss_one (ss_ret se_bl)) ss_nil')
    (ss_one (ss_if (st_not (st_tru (se_call0 (idx := [0, 1]) (ok__law_is_terms T TB) hA (hr.mono (by first | decide | (simp only [Nat.add_eq]; omega))) T.g__law_is_terms T.F__law_is_terms.kp (Fun.bd T.F__law_is_terms fun _ _ _ _ _ _ us hl => match us, hl with | [_, _], _ => rfl) (ss_cons (se_var 0) (ss_cons (se_ix (se_var 3) se_int) ss_nil))))) (ss_one (ss_ret se_bl)) ss_nil'))))
    (ss_one (ss_ret se_bl))))) fun os r _ h => hm_of fuel h
theorem ok_is_stand_numbers (T : Txt K mg) (TB : TabsB K mg base) : FnG P w K mg base 5 T.a_is_stand_numbers T.d_is_stand_numbers ["world", "value"] (sp0 K mr_is_stand_numbers 2) :=
  ok_fn0 T.F_is_stand_numbers sc_is_stand_numbers (fun n cdv A outer s H hcd hA hr =>
    (ss_cons' (ss_if (STw.t (st_or (st_not (st_tru (se_isi (n := "tuple") T.m_isinstance T.m_tuple (se_var 1)))) (st_or1 (st_ne hr (se_len T.m_len (ss_cons (se_var 1) ss_nil)) (se_ix (se_var 0) se_int))))) (ss_one (ss_ret se_bl)) ss_nil')
    (ss_one (ss_ret (se_and (se_ag1 false 2 (k := 1) rfl sc_is_stand_numbers.nd hA (hr.mono (by first | decide | (simp only [Nat.add_eq]; omega))) T.m_all (TB _ _ T.hd_is_stand_numbers T.tb_is_stand_numbers) (hcd.symm.trans T.cc_is_stand_numbers) T.tb_is_stand_numbers (si_sq (se_var 1)) (genOk_by (by decide +kernel)) (blkOk_by (N := ["world", "value", "one"]) (sc := defScope s_is_stand_numbers) (by decide +kernel)) (fun _ _ _ _ _ _ => pg_name sc_is_stand_numbers.nd rfl (Or.inl rfl)) (fun _ _ _ _ _ _ hA hr => (se_call0 (idx := [0]) (ok_is_integer T TB) hA (hr.mono (by first | decide | (simp only [Nat.add_eq]; omega))) T.g_is_integer T.F_is_integer.kp (Fun.bd T.F_is_integer fun _ _ _ _ _ _ us hl => match us, hl with | [_], _ => rfl) (ss_cons (se_var 2) ss_nil)))) (se_one (se_ag1 true 2 (k := 0) rfl sc_is_stand_numbers.nd hA (hr.mono (by first | decide | (simp only [Nat.add_eq]; omega))) T.m_any (TB _ _ T.hd_is_stand_numbers T.tb_is_stand_numbers) (hcd.symm.trans T.cc_is_stand_numbers) T.tb_is_stand_numbers (si_sq (se_var 1)) (genOk_by (by decide +kernel)) (blkOk_by (N := ["world", "value", "one"]) (sc := defScope s_is_stand_numbers) (by decide +kernel)) (fun _ _ _ _ _ _ => pg_name sc_is_stand_numbers.nd rfl (Or.inl rfl)) (fun _ _ _ _ _ _ hA hr => (se_ne hr (se_var 2) se_int))))))))) fun os r _ h => hm_of fuel h
theorem ok__law_start (T : Txt K mg) (TB : TabsB K mg base) : FnG P w K mg base 5 T.a__law_start T.d__law_start ["_law_pot_here", "_law_many"] (spP K mr__law_start 1) :=
  ok_fnP T.F__law_start sc__law_start rfl (fun n cdv A outer s H hcd hA hr =>
    (ss_cons' (ss_setLc 2 7 rfl sc__law_start.nd (si_r1 T.m_range (ss_cons (se_callP (idx := [0]) (ok__law_pick T TB) hA (hr.mono (by first | decide | (simp only [Nat.add_eq]; omega))) T.g__law_pick T.F__law_pick.kp (Fun.bd T.F__law_pick fun _ _ _ _ _ _ us hl => match us, hl with | [_, _], _ => rfl) (ss_cons (se_var 0) (ss_cons (se_lst (ss_cons se_int (ss_cons se_int (ss_cons se_int (ss_cons se_int (ss_cons se_int ss_nil)))))) ss_nil))) ss_nil)) (fun _ _ _ _ _ => (se_callP (idx := [0]) (ok__law_row T TB) hA (hr.mono (by first | decide | (simp only [Nat.add_eq]; omega))) T.g__law_row T.F__law_row.kp (Fun.bd T.F__law_row fun _ _ _ _ _ _ us hl => match us, hl with | [_, _], _ => rfl) (ss_cons (se_var 0) (ss_cons (se_var 1) ss_nil)))) (ok := blkOk_by (N := ["_law_pot_here", "_law_many", "_law_rows", "_law_at", "_law_some", "_law_low", "_law_wide", "_law_x"]) (sc := defScope s__law_start) (by decide +kernel)) (hg := fun _ _ _ _ _ => pg_name sc__law_start.nd rfl (Or.inl rfl)))
    (ss_cons' (ss_for rfl PassesOwn.never (si_r1 T.m_range (ss_cons (se_var 1) ss_nil)) (sg_name 3 sc__law_start.nd) (ss_cons' (ss_par 5 6 rfl sc__law_start.nd (ss_cons (se_sub (se_callP (idx := [0]) (ok__law_draw T TB) hA (hr.mono (by first | decide | (simp only [Nat.add_eq]; omega))) T.g__law_draw T.F__law_draw.kp (Fun.bd T.F__law_draw fun _ _ _ _ _ _ us hl => match us, hl with | [_, _], _ => rfl) (ss_cons (se_var 0) (ss_cons se_int ss_nil))) se_int) (ss_cons (se_callP (idx := [0]) (ok__law_draw T TB) hA (hr.mono (by first | decide | (simp only [Nat.add_eq]; omega))) T.g__law_draw T.F__law_draw.kp (Fun.bd T.F__law_draw fun _ _ _ _ _ _ us hl => match us, hl with | [_, _], _ => rfl) (ss_cons (se_var 0) (ss_cons se_int ss_nil))) ss_nil)))
    (ss_cons' (ss_asg 4 sc__law_start.nd (se_lst (ss_cons (se_tup (ss_cons (se_call0 (idx := [0, 1, 2]) (ok__law_one T TB) hA (hr.mono (by first | decide | (simp only [Nat.add_eq]; omega))) T.g__law_one T.F__law_one.kp (Fun.bd T.F__law_one fun _ _ _ _ _ _ us hl => match us, hl with | [_, _, _], _ => rfl) (ss_cons (se_var 1) (ss_cons (se_var 3) (ss_cons (se_neg se_int) ss_nil)))) (ss_cons (se_neg (se_var 5)) ss_nil))) (ss_cons (se_tup (ss_cons (se_call0 (idx := [0, 1, 2]) (ok__law_one T TB) hA (hr.mono (by first | decide | (simp only [Nat.add_eq]; omega))) T.g__law_one T.F__law_one.kp (Fun.bd T.F__law_one fun _ _ _ _ _ _ us hl => match us, hl with | [_, _, _], _ => rfl) (ss_cons (se_var 1) (ss_cons (se_var 3) (ss_cons se_int ss_nil)))) (ss_cons (se_addW (se_var 5) (se_var 6)) ss_nil))) ss_nil))))
    (ss_one (ss_asg 2 sc__law_start.nd (se_addW (se_var 2) (se_callP (idx := [0]) (ok__law_pick T TB) hA (hr.mono (by first | decide | (simp only [Nat.add_eq]; omega))) T.g__law_pick T.F__law_pick.kp (Fun.bd T.F__law_pick fun _ _ _ _ _ _ us hl => match us, hl with | [_, _], _ => rfl) (ss_cons (se_var 0) (ss_cons (se_lst (ss_cons (se_lst ss_nil) (ss_cons (se_sl (se_var 4) so_none (so_some se_int)) (ss_cons (se_var 4) (ss_cons (se_var 4) ss_nil))))) ss_nil)))))))))
    (ss_one (ss_ret (se_var 2)))))) fun op os r op' _ h => hp_of fuel h
theorem ok__law_step (T : Txt K mg) (TB : TabsB K mg base) : FnG P w K mg base 5 T.a__law_step T.d__law_step ["_law_pot_here", "_law_many"] (spP K mr__law_step 1) :=
  ok_fnP T.F__law_step sc__law_step rfl (fun n cdv A outer s H hcd hA hr =>
    (ss_cons' (ss_par 3 4 rfl sc__law_step.nd (ss_cons (se_callP (idx := [0]) (ok__law_draw T TB) hA (hr.mono (by first | decide | (simp only [Nat.add_eq]; omega))) T.g__law_draw T.F__law_draw.kp (Fun.bd T.F__law_draw fun _ _ _ _ _ _ us hl => match us, hl with | [_, _], _ => rfl) (ss_cons (se_var 0) (ss_cons se_int ss_nil))) (ss_cons (se_lst ss_nil) ss_nil)))
    (ss_cons' (ss_if (st_eq hr (se_var 3) se_int) (ss_one (ss_ret (se_var 4))) ss_nil')
    (ss_cons' (ss_if (st_eq hr (se_var 3) se_int) (ss_one (ss_ret (se_lc 9 rfl sc__law_step.nd (si_r1 T.m_range (ss_cons (se_addW se_int (se_callP (idx := [0]) (ok__law_draw T TB) hA (hr.mono (by first | decide | (simp only [Nat.add_eq]; omega))) T.g__law_draw T.F__law_draw.kp (Fun.bd T.F__law_draw fun _ _ _ _ _ _ us hl => match us, hl with | [_, _], _ => rfl) (ss_cons (se_var 0) (ss_cons se_int ss_nil)))) ss_nil)) (fun _ _ _ _ _ => (se_callP (idx := [0]) (ok__law_row T TB) hA (hr.mono (by first | decide | (simp only [Nat.add_eq]; omega))) T.g__law_row T.F__law_row.kp (Fun.bd T.F__law_row fun _ _ _ _ _ _ us hl => match us, hl with | [_, _], _ => rfl) (ss_cons (se_var 0) (ss_cons (se_mul se_int (se_var 1)) ss_nil)))) (ok := blkOk_by (N := ["_law_pot_here", "_law_many", "_law_at", "_law_way", "_law_rows", "_law_up", "_law_some", "_law_a", "_law_b", "_law_x"]) (sc := defScope s__law_step) (by decide +kernel)) (hg := fun _ _ _ _ _ => pg_name sc__law_step.nd rfl (Or.inl rfl))))) ss_nil')
    (ss_cons' (ss_for rfl PassesOwn.never (si_r1 T.m_range (ss_cons (se_var 1) ss_nil)) (sg_name 2 sc__law_step.nd) (ss_cons' (ss_asg 5 sc__law_step.nd (se_repD (se_lst (ss_cons se_int ss_nil)) (se_mul se_int (se_var 1))))
    (ss_cons' (ss_asgG (sg_tup (n := 2) rfl (sgs_cons (sg_sub 5 (se_var 2)) (sgs_cons (sg_sub 5 (se_addW (se_var 1) (se_var 2))) sgs_nil))) (se_tup (ss_cons (se_neg se_int) (ss_cons se_int ss_nil))))
    (ss_cons' (ss_par 7 8 rfl sc__law_step.nd (ss_cons (se_callP (idx := [0]) (ok__law_draw T TB) hA (hr.mono (by first | decide | (simp only [Nat.add_eq]; omega))) T.g__law_draw T.F__law_draw.kp (Fun.bd T.F__law_draw fun _ _ _ _ _ _ us hl => match us, hl with | [_, _], _ => rfl) (ss_cons (se_var 0) (ss_cons se_int ss_nil))) (ss_cons (se_callP (idx := [0]) (ok__law_pick T TB) hA (hr.mono (by first | decide | (simp only [Nat.add_eq]; omega))) T.g__law_pick T.F__law_pick.kp (Fun.bd T.F__law_pick fun _ _ _ _ _ _ us hl => match us, hl with | [_, _], _ => rfl) (ss_cons (se_var 0) (ss_cons (se_lst (ss_cons se_int (ss_cons se_int (ss_cons se_int (ss_cons se_int (ss_cons se_int (ss_cons se_int (ss_cons se_int (ss_cons (se_neg se_int) ss_nil))))))))) ss_nil))) ss_nil)))
    (ss_cons' (ss_asg 6 sc__law_step.nd (se_lst (ss_cons (se_tup (ss_cons (se_tuple1 T.m_tuple (ss_cons (se_var 5) ss_nil)) (ss_cons (se_var 7) ss_nil))) (ss_cons (se_tup (ss_cons (se_tuple1 T.m_tuple (ss_cons (se_lc 9 rfl sc__law_step.nd (si_sq (se_var 5)) (fun _ _ _ _ _ => (se_neg (se_var 9))) (ok := blkOk_by (N := ["_law_pot_here", "_law_many", "_law_at", "_law_way", "_law_rows", "_law_up", "_law_some", "_law_a", "_law_b", "_law_x"]) (sc := defScope s__law_step) (by decide +kernel)) (hg := fun _ _ _ _ _ => pg_name sc__law_step.nd rfl (Or.inl rfl))) ss_nil)) (ss_cons (se_var 8) ss_nil))) ss_nil))))
    (ss_one (ss_asg 4 sc__law_step.nd (se_addW (se_var 4) (se_callP (idx := [0]) (ok__law_pick T TB) hA (hr.mono (by first | decide | (simp only [Nat.add_eq]; omega))) T.g__law_pick T.F__law_pick.kp (Fun.bd T.F__law_pick fun _ _ _ _ _ _ us hl => match us, hl with | [_, _], _ => rfl) (ss_cons (se_var 0) (ss_cons (se_lst (ss_cons (se_var 6) (ss_cons (se_var 6) (ss_cons (se_sl (se_var 6) so_none (so_some se_int)) (ss_cons (se_sl (se_var 6) (so_some se_int) so_none) ss_nil))))) ss_nil)))))))))))
    (ss_one (ss_ret (se_var 4)))))))) fun op os r op' _ h => hp_of fuel h
theorem ok__law_terms (T : Txt K mg) (TB : TabsB K mg base) : FnG P w K mg base 5 T.a__law_terms T.d__law_terms ["_law_pot_here", "_law_world_here"] (spP K mr__law_terms 1) :=
  ok_fnP T.F__law_terms sc__law_terms rfl (fun n cdv A outer s H hcd hA hr =>
    (ss_cons' (ss_asg 2 sc__law_terms.nd (se_lst ss_nil))
    (ss_cons' (ss_for rfl PassesOwn.never (si_r1 T.m_range (ss_cons (se_ix (se_var 1) se_int) ss_nil)) (sg_name 3 sc__law_terms.nd) (ss_one (ss_if (st_lt (se_callP (idx := [0]) (ok__law_draw T TB) hA (hr.mono (by first | decide | (simp only [Nat.add_eq]; omega))) T.g__law_draw T.F__law_draw.kp (Fun.bd T.F__law_draw fun _ _ _ _ _ _ us hl => match us, hl with | [_, _], _ => rfl) (ss_cons (se_var 0) (ss_cons se_int ss_nil))) se_int) (ss_one (ss_app 2 (se_tup (ss_cons (se_var 3) (ss_cons (se_callP (idx := [0]) (ok__law_numbers T TB) hA (hr.mono (by first | decide | (simp only [Nat.add_eq]; omega))) T.g__law_numbers T.F__law_numbers.kp (Fun.bd T.F__law_numbers fun _ _ _ _ _ _ us hl => match us, hl with | [_, _], _ => rfl) (ss_cons (se_var 0) (ss_cons (se_ix (se_var 1) se_int) ss_nil))) ss_nil))))) ss_nil')))
    (ss_one (ss_ret (se_var 2)))))) fun op os r op' _ h => hp_of fuel h
theorem ok__law_is_saying (T : Txt K mg) (TB : TabsB K mg base) : FnG P w K mg base 5 T.a__law_is_saying T.d__law_is_saying ["_law_world_here", "_law_value"] (sp0 K mr__law_is_saying 2) :=
  ok_fn0 T.F__law_is_saying sc__law_is_saying (fun n cdv A outer s H hcd hA hr =>
    (ss_cons' (ss_if (STw.t (st_or (st_not (st_tru (se_isi (n := "tuple") T.m_isinstance T.m_tuple (se_var 1)))) (st_or1 (st_ne hr (se_len T.m_len (ss_cons (se_var 1) ss_nil)) se_int)))) (ss_one (ss_ret se_bl)) ss_nil')
    (ss_one (ss_ret (se_and (se_inW hr (se_ix (se_var 1) se_int) (se_tup (ss_cons se_str (ss_cons se_str ss_nil)))) (se_one (se_call0 (idx := [0, 1, 2]) (ok__law_are_linears T TB) hA (hr.mono (by first | decide | (simp only [Nat.add_eq]; omega))) T.g__law_are_linears T.F__law_are_linears.kp (Fun.bd T.F__law_are_linears fun _ _ _ _ _ _ us hl => match us, hl with | [_, _, _], _ => rfl) (ss_cons (se_var 0) (ss_cons (se_ix (se_var 1) se_int) (ss_cons se_int ss_nil)))))))))) fun os r _ h => hm_of fuel h
theorem ok__law_is_supposed (T : Txt K mg) (TB : TabsB K mg base) : FnG P w K mg base 5 T.a__law_is_supposed T.d__law_is_supposed ["_law_world_here", "_law_value"] (sp0 K mr__law_is_supposed 2) :=
  ok_fn0 T.F__law_is_supposed sc__law_is_supposed (fun n cdv A outer s H hcd hA hr =>
    (ss_cons' (ss_if (STw.t (st_and (st_not (st_tru (se_isi (n := "list") T.m_isinstance T.m_list (se_var 1)))) (st_and1 (st_not (st_tru (se_isi (n := "tuple") T.m_isinstance T.m_tuple (se_var 1))))))) (ss_one (ss_ret se_bl)) ss_nil')
    (ss_one (ss_ret (se_call0 (idx := [0, 1, 2]) (ok__law_are_linears T TB) hA (hr.mono (by first | decide | (simp only [Nat.add_eq]; omega))) T.g__law_are_linears T.F__law_are_linears.kp (Fun.bd T.F__law_are_linears fun _ _ _ _ _ _ us hl => match us, hl with | [_, _, _], _ => rfl) (ss_cons (se_var 0) (ss_cons (se_list1 T.m_list (ss_cons (se_var 1) ss_nil)) (ss_cons se_int ss_nil)))))))) fun os r _ h => hm_of fuel h
theorem ok_is_terms (T : Txt K mg) (TB : TabsB K mg base) : FnG P w K mg base 6 T.a_is_terms T.d_is_terms ["world", "value"] (sp0 K mr_is_terms 2) :=
  ok_fn0 T.F_is_terms sc_is_terms (fun n cdv A outer s H hcd hA hr =>
    (ss_cons' (ss_if (st_not (st_tru (se_isi (n := "list") T.m_isinstance T.m_list (se_var 1)))) (ss_one (ss_ret se_bl)) ss_nil')
    (ss_cons' (ss_asg 2 sc_is_terms.nd (se_neg se_int))
    (ss_cons' (ss_for rfl PassesOwn.never (si_sq (se_var 1)) (sg_name 3 sc_is_terms.nd) (ss_cons' (ss_if (STw.t (st_or (st_not (st_tru (se_isi (n := "tuple") T.m_isinstance T.m_tuple (se_var 3)))) (st_or (st_ne hr (se_len T.m_len (ss_cons (se_var 3) ss_nil)) se_int) (st_or1 (st_not (st_tru (se_call0 (idx := [0]) (ok_is_integer T TB) hA (hr.mono (by first | decide | (simp only [Nat.add_eq]; omega))) T.g_is_integer T.F_is_integer.kp (Fun.bd T.F_is_integer fun _ _ _ _ _ _ us hl => match us, hl with | [_], _ => rfl) (ss_cons (se_ix (se_var 3) se_int) ss_nil)))))))) (ss_one (ss_ret se_bl)) ss_nil')
    (ss_cons' (ss_if (STw.t (st_or (st_le (se_ix (se_var 3) se_int) (se_var 2)) (st_or (st_ge (se_ix (se_var 3) se_int) (se_ix (se_var 0) se_int)) (st_or1 (st_not (st_tru (se_call0 (idx := [0, 1]) (ok_is_stand_numbers T TB) hA (hr.mono (by first | decide | (simp only [Nat.add_eq]; omega))) T.g_is_stand_numbers T.F_is_stand_numbers.kp (Fun.bd T.F_is_stand_numbers fun _ _ _ _ _ _ us hl => match us, hl with | [_, _], _ => rfl) (ss_cons (se_var 0) (ss_cons (se_ix (se_var 3) se_int) ss_nil))))))))) (ss_one (ss_ret se_bl)) ss_nil')
    (ss_one (ss_asg 2 sc_is_terms.nd (se_ix (se_var 3) se_int))))))
    (ss_one (ss_ret se_bl)))))) fun os r _ h => hm_of fuel h
theorem ok__law_world (T : Txt K mg) (TB : TabsB K mg base) : FnG P w K mg base 6 T.a__law_world T.d__law_world ["_law_pot_here", "_law_sizes"] (spP K mr__law_world 1) :=
  ok_fnP T.F__law_world sc__law_world rfl (fun n cdv A outer s H hcd hA hr =>
    (ss_cons' (ss_asgG (sg_tup (n := 2) rfl (sgs_cons (sg_name 6 sc__law_world.nd) (sgs_cons (sg_name 7 sc__law_world.nd) sgs_nil))) (se_callP (idx := [0]) (ok__law_pick T TB) hA (hr.mono (by first | decide | (simp only [Nat.add_eq]; omega))) T.g__law_pick T.F__law_pick.kp (Fun.bd T.F__law_pick fun _ _ _ _ _ _ us hl => match us, hl with | [_, _], _ => rfl) (ss_cons (se_var 0) (ss_cons (se_var 1) ss_nil))))
    (ss_cons' (ss_asg 2 sc__law_world.nd (se_callP (idx := [0]) (ok__law_start T TB) hA (hr.mono (by first | decide | (simp only [Nat.add_eq]; omega))) T.g__law_start T.F__law_start.kp (Fun.bd T.F__law_start fun _ _ _ _ _ _ us hl => match us, hl with | [_, _], _ => rfl) (ss_cons (se_var 0) (ss_cons (se_var 6) ss_nil))))
    (ss_cons' (ss_setLc 3 10 rfl sc__law_world.nd (si_r1 T.m_range (ss_cons (se_sub (se_var 7) se_int) ss_nil)) (fun _ _ _ _ _ => (se_callP (idx := [0]) (ok__law_step T TB) hA (hr.mono (by first | decide | (simp only [Nat.add_eq]; omega))) T.g__law_step T.F__law_step.kp (Fun.bd T.F__law_step fun _ _ _ _ _ _ us hl => match us, hl with | [_, _], _ => rfl) (ss_cons (se_var 0) (ss_cons (se_var 6) ss_nil)))) (ok := blkOk_by (N := ["_law_pot_here", "_law_sizes", "_law_start_here", "_law_steps", "_law_sensors", "_law_k", "_law_many", "_law_moments", "_law_slack", "_law_numbers_here", "_law_x"]) (sc := defScope s__law_world) (by decide +kernel)) (hg := fun _ _ _ _ _ => pg_name sc__law_world.nd rfl (Or.inl rfl)))
    (ss_cons' (ss_asg 4 sc__law_world.nd (se_lst ss_nil))
    (ss_cons' (ss_for rfl PassesOwn.never (si_r1 T.m_range (ss_cons (se_addW se_int (se_callP (idx := [0]) (ok__law_draw T TB) hA (hr.mono (by first | decide | (simp only [Nat.add_eq]; omega))) T.g__law_draw T.F__law_draw.kp (Fun.bd T.F__law_draw fun _ _ _ _ _ _ us hl => match us, hl with | [_, _], _ => rfl) (ss_cons (se_var 0) (ss_cons se_int ss_nil)))) ss_nil)) (sg_name 5 sc__law_world.nd) (ss_cons' (ss_asg 8 sc__law_world.nd (se_callP (idx := [0]) (ok__law_pick T TB) hA (hr.mono (by first | decide | (simp only [Nat.add_eq]; omega))) T.g__law_pick T.F__law_pick.kp (Fun.bd T.F__law_pick fun _ _ _ _ _ _ us hl => match us, hl with | [_, _], _ => rfl) (ss_cons (se_var 0) (ss_cons (se_lst (ss_cons (se_tup (ss_cons se_int (ss_cons se_int ss_nil))) (ss_cons (se_tup (ss_cons se_int (ss_cons se_int ss_nil))) (ss_cons (se_tup (ss_cons se_int (ss_cons se_int ss_nil))) (ss_cons (se_tup (ss_cons se_int (ss_cons se_int ss_nil))) (ss_cons (se_tup (ss_cons se_int (ss_cons se_int ss_nil))) (ss_cons (se_tup (ss_cons se_int (ss_cons se_int ss_nil))) (ss_cons (se_tup (ss_cons se_int (ss_cons se_int ss_nil))) ss_nil)))))))) ss_nil))))
    (ss_cons' (ss_asg 9 sc__law_world.nd (se_callP (idx := [0]) (ok__law_pick T TB) hA (hr.mono (by first | decide | (simp only [Nat.add_eq]; omega))) T.g__law_pick T.F__law_pick.kp (Fun.bd T.F__law_pick fun _ _ _ _ _ _ us hl => match us, hl with | [_, _], _ => rfl) (ss_cons (se_var 0) (ss_cons (se_lst (ss_cons (se_call0 (idx := [0, 1, 2]) (ok__law_one T TB) hA (hr.mono (by first | decide | (simp only [Nat.add_eq]; omega))) T.g__law_one T.F__law_one.kp (Fun.bd T.F__law_one fun _ _ _ _ _ _ us hl => match us, hl with | [_, _, _], _ => rfl) (ss_cons (se_var 6) (ss_cons se_int (ss_cons se_int ss_nil)))) (ss_cons (se_callP (idx := [0]) (ok__law_numbers T TB) hA (hr.mono (by first | decide | (simp only [Nat.add_eq]; omega))) T.g__law_numbers T.F__law_numbers.kp (Fun.bd T.F__law_numbers fun _ _ _ _ _ _ us hl => match us, hl with | [_, _], _ => rfl) (ss_cons (se_var 0) (ss_cons (se_var 6) ss_nil))) ss_nil))) ss_nil))))
    (ss_one (ss_app 4 (se_tup (ss_cons (se_callP (idx := [0]) (ok__law_name T TB) hA (hr.mono (by first | decide | (simp only [Nat.add_eq]; omega))) T.g__law_name T.F__law_name.kp (Fun.bd T.F__law_name fun _ _ _ _ _ _ us hl => match us, hl with | [_, _], _ => rfl) (ss_cons (se_var 0) (ss_cons (se_var 5) ss_nil))) (ss_cons (se_var 9) (ss_cons (se_var 8) ss_nil)))))))))
    (ss_one (ss_ret (se_tup (ss_cons (se_var 6) (ss_cons (se_var 7) (ss_cons (se_var 2) (ss_cons (se_var 3) (ss_cons (se_var 4) ss_nil)))))))))))))) fun op os r op' _ h => hp_of fuel h
theorem ok__law_linear (T : Txt K mg) (TB : TabsB K mg base) : FnG P w K mg base 6 T.a__law_linear T.d__law_linear ["_law_pot_here", "_law_world_here"] (spP K mr__law_linear 1) :=
  ok_fnP T.F__law_linear sc__law_linear rfl (fun n cdv A outer s H hcd hA hr =>
    (ss_one (ss_ret (se_tup (ss_cons (se_callP (idx := [0]) (ok__law_terms T TB) hA (hr.mono (by first | decide | (simp only [Nat.add_eq]; omega))) T.g__law_terms T.F__law_terms.kp (Fun.bd T.F__law_terms fun _ _ _ _ _ _ us hl => match us, hl with | [_, _], _ => rfl) (ss_cons (se_var 0) (ss_cons (se_var 1) ss_nil))) (ss_cons (se_sub (se_callP (idx := [0]) (ok__law_draw T TB) hA (hr.mono (by first | decide | (simp only [Nat.add_eq]; omega))) T.g__law_draw T.F__law_draw.kp (Fun.bd T.F__law_draw fun _ _ _ _ _ _ us hl => match us, hl with | [_, _], _ => rfl) (ss_cons (se_var 0) (ss_cons se_int ss_nil))) se_int) ss_nil)))))) fun op os r op' _ h => hp_of fuel h
theorem ok_is_linear (T : Txt K mg) (TB : TabsB K mg base) : FnG P w K mg base 7 T.a_is_linear T.d_is_linear ["world", "value"] (sp0 K mr_is_linear 2) :=
  ok_fn0 T.F_is_linear sc_is_linear (fun n cdv A outer s H hcd hA hr =>
    (ss_cons' (ss_if (STw.t (st_or (st_not (st_tru (se_isi (n := "tuple") T.m_isinstance T.m_tuple (se_var 1)))) (st_or1 (st_ne hr (se_len T.m_len (ss_cons (se_var 1) ss_nil)) se_int)))) (ss_one (ss_ret se_bl)) ss_nil')
    (ss_one (ss_ret (se_and (se_call0 (idx := [0, 1]) (ok_is_terms T TB) hA (hr.mono (by first | decide | (simp only [Nat.add_eq]; omega))) T.g_is_terms T.F_is_terms.kp (Fun.bd T.F_is_terms fun _ _ _ _ _ _ us hl => match us, hl with | [_, _], _ => rfl) (ss_cons (se_var 0) (ss_cons (se_ix (se_var 1) se_int) ss_nil))) (se_one (se_call0 (idx := [0]) (ok_is_integer T TB) hA (hr.mono (by first | decide | (simp only [Nat.add_eq]; omega))) T.g_is_integer T.F_is_integer.kp (Fun.bd T.F_is_integer fun _ _ _ _ _ _ us hl => match us, hl with | [_], _ => rfl) (ss_cons (se_ix (se_var 1) se_int) ss_nil)))))))) fun os r _ h => hm_of fuel h
theorem ok_is_saying (T : Txt K mg) (TB : TabsB K mg base) : FnG P w K mg base 11 T.a_is_saying T.d_is_saying ["world", "value"] (sp0 K mr_is_saying 2) :=
  ok_fn0 T.F_is_saying sc_is_saying (fun n cdv A outer s H hcd hA hr =>
    (ss_cons' (ss_if (STw.t (st_or (st_not (st_tru (se_isi (n := "tuple") T.m_isinstance T.m_tuple (se_var 1)))) (st_or1 (st_ne hr (se_len T.m_len (ss_cons (se_var 1) ss_nil)) se_int)))) (ss_one (ss_ret se_bl)) ss_nil')
    (ss_cons' (ss_if (STw.t (st_or (st_not (st_tru (se_isi (n := "str") T.m_isinstance T.m_str (se_ix (se_var 1) se_int)))) (st_or1 (STw.t (st_and (st_ne hr (se_ix (se_var 1) se_int) se_str) (st_and1 (st_ne hr (se_ix (se_var 1) se_int) se_str))))))) (ss_one (ss_ret se_bl)) ss_nil')
    (ss_cons' (ss_if (STw.t (st_or (st_not (st_tru (se_isi (n := "list") T.m_isinstance T.m_list (se_ix (se_var 1) se_int)))) (st_or1 (st_gt (se_len T.m_len (ss_cons (se_ix (se_var 1) se_int) ss_nil)) (se_globI T.c_MOST_LINEARS))))) (ss_one (ss_ret se_bl)) ss_nil')
    (ss_one (ss_ret (se_ag1 false 2 (k := 7) rfl sc_is_saying.nd hA (hr.mono (by first | decide | (simp only [Nat.add_eq]; omega))) T.m_all (TB _ _ T.hd_is_saying T.tb_is_saying) (hcd.symm.trans T.cc_is_saying) T.tb_is_saying (si_sq (se_ix (se_var 1) se_int)) (genOk_by (by decide +kernel)) (blkOk_by (N := ["world", "value", "one"]) (sc := defScope s_is_saying) (by decide +kernel)) (fun _ _ _ _ _ _ => pg_name sc_is_saying.nd rfl (Or.inl rfl)) (fun _ _ _ _ _ _ hA hr => (se_call0 (idx := [0, 1]) (ok_is_linear T TB) hA (hr.mono (by first | decide | (simp only [Nat.add_eq]; omega))) T.g_is_linear T.F_is_linear.kp (Fun.bd T.F_is_linear fun _ _ _ _ _ _ us hl => match us, hl with | [_, _], _ => rfl) (ss_cons (se_var 0) (ss_cons (se_var 2) ss_nil))))))))))) fun os r _ h => hm_of fuel h
theorem ok_is_supposed (T : Txt K mg) (TB : TabsB K mg base) : FnG P w K mg base 11 T.a_is_supposed T.d_is_supposed ["world", "value"] (sp0 K mr_is_supposed 2) :=
  ok_fn0 T.F_is_supposed sc_is_supposed (fun n cdv A outer s H hcd hA hr =>
    (ss_cons' (ss_if (STw.t (st_or (st_not (st_tru (se_isi2 (n1 := "list") (n2 := "tuple") T.m_isinstance T.m_list T.m_tuple (se_var 1)))) (st_or1 (st_gt (se_len T.m_len (ss_cons (se_var 1) ss_nil)) (se_globI T.c_MOST_SUPPOSED))))) (ss_one (ss_ret se_bl)) ss_nil')
    (ss_one (ss_ret (se_ag1 false 2 (k := 7) rfl sc_is_supposed.nd hA (hr.mono (by first | decide | (simp only [Nat.add_eq]; omega))) T.m_all (TB _ _ T.hd_is_supposed T.tb_is_supposed) (hcd.symm.trans T.cc_is_supposed) T.tb_is_supposed (si_sq (se_var 1)) (genOk_by (by decide +kernel)) (blkOk_by (N := ["world", "value", "one"]) (sc := defScope s_is_supposed) (by decide +kernel)) (fun _ _ _ _ _ _ => pg_name sc_is_supposed.nd rfl (Or.inl rfl)) (fun _ _ _ _ _ _ hA hr => (se_call0 (idx := [0, 1]) (ok_is_linear T TB) hA (hr.mono (by first | decide | (simp only [Nat.add_eq]; omega))) T.g_is_linear T.F_is_linear.kp (Fun.bd T.F_is_linear fun _ _ _ _ _ _ us hl => match us, hl with | [_, _], _ => rfl) (ss_cons (se_var 0) (ss_cons (se_var 2) ss_nil))))))))) fun os r _ h => hm_of fuel h
theorem ok__law_judged (T : Txt K mg) (TB : TabsB K mg base) : FnG P w K mg base 12 T.a__law_judged T.d__law_judged ["_law_world_here", "_law_value"] (sp0 K mr__law_judged 2) :=
  ok_fn0 T.F__law_judged sc__law_judged (fun n cdv A outer s H hcd hA hr =>
    (ss_cons' (ss_if (st_not (st_tru (se_call0 (idx := [0, 1]) (ok__law_is T TB) hA (hr.mono (by first | decide | (simp only [Nat.add_eq]; omega))) T.g__law_is T.F__law_is.kp (Fun.bd T.F__law_is fun _ _ _ _ _ _ us hl => match us, hl with | [_, _], _ => rfl) (ss_cons (se_call0 (idx := [0, 1]) (ok_is_terms T TB) hA (hr.mono (by first | decide | (simp only [Nat.add_eq]; omega))) T.g_is_terms T.F_is_terms.kp (Fun.bd T.F_is_terms fun _ _ _ _ _ _ us hl => match us, hl with | [_, _], _ => rfl) (ss_cons (se_var 0) (ss_cons (se_var 1) ss_nil))) (ss_cons (se_call0 (idx := [0, 1]) (ok__law_is_terms T TB) hA (hr.mono (by first | decide | (simp only [Nat.add_eq]; omega))) T.g__law_is_terms T.F__law_is_terms.kp (Fun.bd T.F__law_is_terms fun _ _ _ _ _ _ us hl => match us, hl with | [_, _], _ => rfl) (ss_cons (se_var 0) (ss_cons (se_var 1) ss_nil))) ss_nil))))) (ss_one (ss_ret se_bl)) ss_nil')
    (ss_cons' (ss_if (st_not (st_tru (se_call0 (idx := [0, 1]) (ok__law_is T TB) hA (hr.mono (by first | decide | (simp only [Nat.add_eq]; omega))) T.g__law_is T.F__law_is.kp (Fun.bd T.F__law_is fun _ _ _ _ _ _ us hl => match us, hl with | [_, _], _ => rfl) (ss_cons (se_call0 (idx := [0, 1]) (ok_is_linear T TB) hA (hr.mono (by first | decide | (simp only [Nat.add_eq]; omega))) T.g_is_linear T.F_is_linear.kp (Fun.bd T.F_is_linear fun _ _ _ _ _ _ us hl => match us, hl with | [_, _], _ => rfl) (ss_cons (se_var 0) (ss_cons (se_var 1) ss_nil))) (ss_cons (se_call0 (idx := [0, 1]) (ok__law_is_linear T TB) hA (hr.mono (by first | decide | (simp only [Nat.add_eq]; omega))) T.g__law_is_linear T.F__law_is_linear.kp (Fun.bd T.F__law_is_linear fun _ _ _ _ _ _ us hl => match us, hl with | [_, _], _ => rfl) (ss_cons (se_var 0) (ss_cons (se_var 1) ss_nil))) ss_nil))))) (ss_one (ss_ret se_bl)) ss_nil')
    (ss_cons' (ss_if (st_not (st_tru (se_call0 (idx := [0, 1]) (ok__law_is T TB) hA (hr.mono (by first | decide | (simp only [Nat.add_eq]; omega))) T.g__law_is T.F__law_is.kp (Fun.bd T.F__law_is fun _ _ _ _ _ _ us hl => match us, hl with | [_, _], _ => rfl) (ss_cons (se_call0 (idx := [0, 1]) (ok_is_saying T TB) hA (hr.mono (by first | decide | (simp only [Nat.add_eq]; omega))) T.g_is_saying T.F_is_saying.kp (Fun.bd T.F_is_saying fun _ _ _ _ _ _ us hl => match us, hl with | [_, _], _ => rfl) (ss_cons (se_var 0) (ss_cons (se_var 1) ss_nil))) (ss_cons (se_call0 (idx := [0, 1]) (ok__law_is_saying T TB) hA (hr.mono (by first | decide | (simp only [Nat.add_eq]; omega))) T.g__law_is_saying T.F__law_is_saying.kp (Fun.bd T.F__law_is_saying fun _ _ _ _ _ _ us hl => match us, hl with | [_, _], _ => rfl) (ss_cons (se_var 0) (ss_cons (se_var 1) ss_nil))) ss_nil))))) (ss_one (ss_ret se_bl)) ss_nil')
    (ss_one (ss_ret (se_call0 (idx := [0, 1]) (ok__law_is T TB) hA (hr.mono (by first | decide | (simp only [Nat.add_eq]; omega))) T.g__law_is T.F__law_is.kp (Fun.bd T.F__law_is fun _ _ _ _ _ _ us hl => match us, hl with | [_, _], _ => rfl) (ss_cons (se_callk0 (ks := ["value", "world"]) (idx := [1, 0]) (ok_is_supposed T TB) hA (hr.mono (by first | decide | (simp only [Nat.add_eq]; omega))) T.g_is_supposed T.F_is_supposed.kp (Fun.bd T.F_is_supposed fun _ _ _ _ _ _ us hl => match us, hl with | [_, _], _ => rfl) (sk_cons (se_var 1) (sk_cons (se_var 0) sk_nil))) (ss_cons (se_call0 (idx := [0, 1]) (ok__law_is_supposed T TB) hA (hr.mono (by first | decide | (simp only [Nat.add_eq]; omega))) T.g__law_is_supposed T.F__law_is_supposed.kp (Fun.bd T.F__law_is_supposed fun _ _ _ _ _ _ us hl => match us, hl with | [_, _], _ => rfl) (ss_cons (se_var 0) (ss_cons (se_var 1) ss_nil))) ss_nil))))))))) fun os r _ h => hm_of fuel h
theorem okR__law_same (T : Txt K mg) (TB : TabsB K mg base) : ∀ d : Nat, FnG P w K mg base (0 + d) T.a__law_same T.d__law_same ["_law_one_here", "_law_two"] (sp0 K (mrR__law_same d) 2)
  | 0 => FnG.none fun vs H Q E h => by obtain ⟨_, _, _, _, _, _, h, _⟩ := h; cases h
  | d + 1 => ok_fn0 (ev := ev__law_same (mrR__law_same d)) T.F__law_same sc__law_same (fun n cdv A outer s H hcd hA hr =>
    (ss_cons' (ss_if (st_ne hr (se_isi (n := "list") T.m_isinstance T.m_list (se_var 0)) (se_isi (n := "list") T.m_isinstance T.m_list (se_var 1))) (ss_one (ss_ret se_bl)) ss_nil')
    (ss_cons' (ss_if (st_ne hr (se_isi (n := "tuple") T.m_isinstance T.m_tuple (se_var 0)) (se_isi (n := "tuple") T.m_isinstance T.m_tuple (se_var 1))) (ss_one (ss_ret se_bl)) ss_nil')
    (ss_cons' (ss_if (st_ne hr (se_isi (n := "bool") T.m_isinstance T.m_bool (se_var 0)) (se_isi (n := "bool") T.m_isinstance T.m_bool (se_var 1))) (ss_one (ss_ret se_bl)) ss_nil')
    (ss_cons' (ss_if (STw.t (st_or (st_tru (se_isi (n := "list") T.m_isinstance T.m_list (se_var 1))) (st_or1 (st_tru (se_isi (n := "tuple") T.m_isinstance T.m_tuple (se_var 1)))))) (ss_one (ss_ret (se_and (se_eq hr (se_len T.m_len (ss_cons (se_var 0) ss_nil)) (se_len T.m_len (ss_cons (se_var 1) ss_nil))) (se_one (se_all rfl T.m_all (ss_cons (se_lc2 2 3 rfl sc__law_same.nd (si_zp T.m_zip (ss_cons (se_var 0) (ss_cons (se_var 1) ss_nil))) (fun _ _ _ _ _ => (se_call0 (idx := [0, 1]) (okR__law_same T TB d) hA (hr.mono (by first | decide | (simp only [Nat.add_eq]; omega))) T.g__law_same T.F__law_same.kp (Fun.bd T.F__law_same fun _ _ _ _ _ _ us hl => match us, hl with | [_, _], _ => rfl) (ss_cons (se_var 2) (ss_cons (se_var 3) ss_nil)))) (blkOk_by (N := ["_law_one_here", "_law_two", "_law_a", "_law_b"]) (sc := defScope s__law_same) (by decide +kernel)) (fun _ _ _ _ _ => pg_tup rfl (pgs_cons (pg_name sc__law_same.nd rfl (Or.inl rfl)) (pgs_cons (pg_name sc__law_same.nd rfl (Or.inl rfl)) pgs_nil)))) ss_nil)))))) ss_nil')
    (ss_one (ss_ret (se_eq hr (se_var 0) (se_var 1))))))))) fun os r _ h => hm_of fuel h
theorem ok__law_same (T : Txt K mg) (TB : TabsB K mg base) : FnG P w K mg base 40 T.a__law_same T.d__law_same ["_law_one_here", "_law_two"] (sp0 K mr__law_same 2) := okR__law_same T TB 40
theorem okR__law_copy (T : Txt K mg) (TB : TabsB K mg base) : ∀ d : Nat, FnG P w K mg base (0 + d) T.a__law_copy T.d__law_copy ["_law_value"] (sp0 K (mrR__law_copy d) 1)
  | 0 => FnG.none fun vs H Q E h => by obtain ⟨_, _, _, _, _, _, h, _⟩ := h; cases h
  | d + 1 => ok_fn0 (ev := ev__law_copy (mrR__law_copy d)) T.F__law_copy sc__law_copy (fun n cdv A outer s H hcd hA hr =>
    (ss_cons' (ss_if (st_tru (se_isi (n := "list") T.m_isinstance T.m_list (se_var 0))) (ss_one (ss_ret (se_lc 1 rfl sc__law_copy.nd (si_sq (se_var 0)) (fun _ _ _ _ _ => (se_call0 (idx := [0]) (okR__law_copy T TB d) hA (hr.mono (by first | decide | (simp only [Nat.add_eq]; omega))) T.g__law_copy T.F__law_copy.kp (Fun.bd T.F__law_copy fun _ _ _ _ _ _ us hl => match us, hl with | [_], _ => rfl) (ss_cons (se_var 1) ss_nil))) (ok := blkOk_by (N := ["_law_value", "_law_one_here"]) (sc := defScope s__law_copy) (by decide +kernel)) (hg := fun _ _ _ _ _ => pg_name sc__law_copy.nd rfl (Or.inl rfl))))) ss_nil')
    (ss_cons' (ss_if (st_tru (se_isi (n := "tuple") T.m_isinstance T.m_tuple (se_var 0))) (ss_one (ss_ret (se_tuple1 T.m_tuple (ss_cons (se_lc 1 rfl sc__law_copy.nd (si_sq (se_var 0)) (fun _ _ _ _ _ => (se_call0 (idx := [0]) (okR__law_copy T TB d) hA (hr.mono (by first | decide | (simp only [Nat.add_eq]; omega))) T.g__law_copy T.F__law_copy.kp (Fun.bd T.F__law_copy fun _ _ _ _ _ _ us hl => match us, hl with | [_], _ => rfl) (ss_cons (se_var 1) ss_nil))) (ok := blkOk_by (N := ["_law_value", "_law_one_here"]) (sc := defScope s__law_copy) (by decide +kernel)) (hg := fun _ _ _ _ _ => pg_name sc__law_copy.nd rfl (Or.inl rfl))) ss_nil)))) ss_nil')
    (ss_one (ss_ret (se_var 0)))))) fun os r _ h => hm_of fuel h
theorem ok__law_copy (T : Txt K mg) (TB : TabsB K mg base) : FnG P w K mg base 40 T.a__law_copy T.d__law_copy ["_law_value"] (sp0 K mr__law_copy 1) := okR__law_copy T TB 40
theorem okR__law_bent (T : Txt K mg) (TB : TabsB K mg base) : ∀ d : Nat, FnG P w K mg base (2 + d) T.a__law_bent T.d__law_bent ["_law_pot_here", "_law_value", "_law_deep"] (spP K (mrR__law_bent d) 2)
  | 0 => FnG.none fun vs H Q E h => by obtain ⟨_, _, _, _, _, _, _, _, _, _, _, h, _⟩ := h; cases h
  | d + 1 => ok_fnP (ev := ev__law_bent (mrR__law_bent d)) T.F__law_bent sc__law_bent rfl (fun n cdv A outer s H hcd hA hr =>
    (ss_cons' (ss_asg 3 sc__law_bent.nd (se_if (STw.t (st_or (st_tru (se_isi (n := "list") T.m_isinstance T.m_list (se_var 1))) (st_or1 (st_tru (se_isi (n := "tuple") T.m_isinstance T.m_tuple (se_var 1)))))) (se_len T.m_len (ss_cons (se_var 1) ss_nil)) se_int))
    (ss_cons' (ss_if (STw.t (st_and (st_gt (se_var 3) se_int) (st_and (st_gt (se_var 2) se_int) (st_and1 (st_gt (se_callP (idx := [0]) (ok__law_draw T TB) hA (hr.mono (by first | decide | (simp only [Nat.add_eq]; omega))) T.g__law_draw T.F__law_draw.kp (Fun.bd T.F__law_draw fun _ _ _ _ _ _ us hl => match us, hl with | [_, _], _ => rfl) (ss_cons (se_var 0) (ss_cons se_int ss_nil))) se_int))))) (ss_cons' (ss_asg 4 sc__law_bent.nd (se_callP (idx := [0]) (ok__law_draw T TB) hA (hr.mono (by first | decide | (simp only [Nat.add_eq]; omega))) T.g__law_draw T.F__law_draw.kp (Fun.bd T.F__law_draw fun _ _ _ _ _ _ us hl => match us, hl with | [_, _], _ => rfl) (ss_cons (se_var 0) (ss_cons (se_var 3) ss_nil))))
    (ss_cons' (ss_asg 5 sc__law_bent.nd (se_list1 T.m_list (ss_cons (se_var 1) ss_nil)))
    (ss_cons' (ss_asgG (sg_sub 5 (se_var 4)) (se_callP (idx := [0, 1]) (okR__law_bent T TB d) hA (hr.mono (by first | decide | (simp only [Nat.add_eq]; omega))) T.g__law_bent T.F__law_bent.kp (Fun.bd T.F__law_bent fun _ _ _ _ _ _ us hl => match us, hl with | [_, _, _], _ => rfl) (ss_cons (se_var 0) (ss_cons (se_ix (se_var 1) (se_var 4)) (ss_cons (se_sub (se_var 2) se_int) ss_nil)))))
    (ss_one (ss_ret (se_if (st_tru (se_isi (n := "tuple") T.m_isinstance T.m_tuple (se_var 1))) (se_tuple1 T.m_tuple (ss_cons (se_var 5) ss_nil)) (se_var 5))))))) ss_nil')
    (ss_cons' (ss_if (st_tru (se_isi (n := "list") T.m_isinstance T.m_list (se_var 1))) (ss_cons' (ss_asg 6 sc__law_bent.nd (se_lst (ss_cons (se_tuple1 T.m_tuple (ss_cons (se_var 1) ss_nil)) (ss_cons (se_addW (se_var 1) (se_sl (se_var 1) so_none (so_some se_int))) (ss_cons (se_sl (se_var 1) so_none (so_some (se_neg se_int))) (ss_cons se_non (ss_cons (se_rvs (se_var 1)) (ss_cons (se_lst ss_nil) ss_nil))))))))
    (ss_one (ss_ret (se_callP (idx := [0]) (ok__law_pick T TB) hA (hr.mono (by first | decide | (simp only [Nat.add_eq]; omega))) T.g__law_pick T.F__law_pick.kp (Fun.bd T.F__law_pick fun _ _ _ _ _ _ us hl => match us, hl with | [_, _], _ => rfl) (ss_cons (se_var 0) (ss_cons (se_var 6) ss_nil)))))) ss_nil')
    (ss_cons' (ss_if (st_tru (se_isi (n := "tuple") T.m_isinstance T.m_tuple (se_var 1))) (ss_cons' (ss_asg 6 sc__law_bent.nd (se_lst (ss_cons (se_list1 T.m_list (ss_cons (se_var 1) ss_nil)) (ss_cons (se_addW (se_var 1) (se_sl (se_var 1) so_none (so_some se_int))) (ss_cons (se_sl (se_var 1) so_none (so_some (se_neg se_int))) (ss_cons se_non (ss_cons (se_rvs (se_var 1)) (ss_cons (se_tup ss_nil) ss_nil))))))))
    (ss_one (ss_ret (se_callP (idx := [0]) (ok__law_pick T TB) hA (hr.mono (by first | decide | (simp only [Nat.add_eq]; omega))) T.g__law_pick T.F__law_pick.kp (Fun.bd T.F__law_pick fun _ _ _ _ _ _ us hl => match us, hl with | [_, _], _ => rfl) (ss_cons (se_var 0) (ss_cons (se_var 6) ss_nil)))))) ss_nil')
    (ss_cons' (ss_if (st_tru (se_isi (n := "int") T.m_isinstance T.m_int (se_var 1))) (ss_one (ss_ret (se_callP (idx := [0]) (ok__law_pick T TB) hA (hr.mono (by first | decide | (simp only [Nat.add_eq]; omega))) T.g__law_pick T.F__law_pick.kp (Fun.bd T.F__law_pick fun _ _ _ _ _ _ us hl => match us, hl with | [_, _], _ => rfl) (ss_cons (se_var 0) (ss_cons (se_lst (ss_cons (se_addW (se_var 1) se_int) (ss_cons (se_sub (se_var 1) se_int) (ss_cons (se_neg (se_var 1)) (ss_cons (se_eq hr (se_var 1) se_int) (ss_cons se_non (ss_cons (se_mul se_int (se_var 1)) (ss_cons se_str ss_nil)))))))) ss_nil))))) ss_nil')
    (ss_cons' (ss_if (st_tru (se_isi (n := "str") T.m_isinstance T.m_str (se_var 1))) (ss_one (ss_ret (se_callP (idx := [0]) (ok__law_pick T TB) hA (hr.mono (by first | decide | (simp only [Nat.add_eq]; omega))) T.g__law_pick T.F__law_pick.kp (Fun.bd T.F__law_pick fun _ _ _ _ _ _ us hl => match us, hl with | [_, _], _ => rfl) (ss_cons (se_var 0) (ss_cons (se_lst (ss_cons se_str (ss_cons (se_addW (se_var 1) se_str) (ss_cons se_str (ss_cons (se_sl (se_var 1) so_none (so_some (se_neg se_int))) (ss_cons se_non (ss_cons se_str ss_nil))))))) ss_nil))))) ss_nil')
    (ss_one (ss_ret (se_callP (idx := [0]) (ok__law_pick T TB) hA (hr.mono (by first | decide | (simp only [Nat.add_eq]; omega))) T.g__law_pick T.F__law_pick.kp (Fun.bd T.F__law_pick fun _ _ _ _ _ _ us hl => match us, hl with | [_, _], _ => rfl) (ss_cons (se_var 0) (ss_cons (se_lst (ss_cons se_int (ss_cons (se_lst ss_nil) (ss_cons (se_tup ss_nil) (ss_cons se_str (ss_cons se_bl ss_nil)))))) ss_nil)))))))))))) fun op os r op' _ h => hp_of fuel h
theorem ok__law_bent (T : Txt K mg) (TB : TabsB K mg base) : FnG P w K mg base 42 T.a__law_bent T.d__law_bent ["_law_pot_here", "_law_value", "_law_deep"] (spP K mr__law_bent 2) := okR__law_bent T TB 40
theorem ok__law_values (T : Txt K mg) (TB : TabsB K mg base) : FnG P w K mg base 43 T.a__law_values T.d__law_values ["_law_pot_here", "_law_world_here"] (spP K mr__law_values 1) :=
  ok_fnP T.F__law_values sc__law_values rfl (fun n cdv A outer s H hcd hA hr =>
    (ss_cons' (ss_setLc 2 8 rfl sc__law_values.nd (si_r1 T.m_range (ss_cons se_int ss_nil)) (fun _ _ _ _ _ => (se_callP (idx := [0]) (ok__law_linear T TB) hA (hr.mono (by first | decide | (simp only [Nat.add_eq]; omega))) T.g__law_linear T.F__law_linear.kp (Fun.bd T.F__law_linear fun _ _ _ _ _ _ us hl => match us, hl with | [_, _], _ => rfl) (ss_cons (se_var 0) (ss_cons (se_var 1) ss_nil)))) (ok := blkOk_by (N := ["_law_pot_here", "_law_world_here", "_law_linears", "_law_some", "_law_few", "_law_saying", "_law_right", "_law_bent_here", "_law_x", "_law_value"]) (sc := defScope s__law_values) (by decide +kernel)) (hg := fun _ _ _ _ _ => pg_name sc__law_values.nd rfl (Or.inl rfl)))
    (ss_cons' (ss_asg 3 sc__law_values.nd (se_sl (se_var 2) so_none (so_some (se_callP (idx := [0]) (ok__law_pick T TB) hA (hr.mono (by first | decide | (simp only [Nat.add_eq]; omega))) T.g__law_pick T.F__law_pick.kp (Fun.bd T.F__law_pick fun _ _ _ _ _ _ us hl => match us, hl with | [_, _], _ => rfl) (ss_cons (se_var 0) (ss_cons (se_lst (ss_cons se_int (ss_cons se_int (ss_cons se_int (ss_cons se_int (ss_cons se_int (ss_cons se_int (ss_cons (se_callP (idx := [0]) (ok__law_draw T TB) hA (hr.mono (by first | decide | (simp only [Nat.add_eq]; omega))) T.g__law_draw T.F__law_draw.kp (Fun.bd T.F__law_draw fun _ _ _ _ _ _ us hl => match us, hl with | [_, _], _ => rfl) (ss_cons (se_var 0) (ss_cons se_int ss_nil))) ss_nil)))))))) ss_nil))))))
    (ss_cons' (ss_asg 4 sc__law_values.nd (se_sl (se_var 2) (so_some (se_sub se_int (se_callP (idx := [0]) (ok__law_pick T TB) hA (hr.mono (by first | decide | (simp only [Nat.add_eq]; omega))) T.g__law_pick T.F__law_pick.kp (Fun.bd T.F__law_pick fun _ _ _ _ _ _ us hl => match us, hl with | [_, _], _ => rfl) (ss_cons (se_var 0) (ss_cons (se_lst (ss_cons se_int (ss_cons se_int (ss_cons se_int (ss_cons se_int (ss_cons se_int ss_nil)))))) ss_nil))))) so_none))
    (ss_cons' (ss_asg 5 sc__law_values.nd (se_tup (ss_cons (se_callP (idx := [0]) (ok__law_pick T TB) hA (hr.mono (by first | decide | (simp only [Nat.add_eq]; omega))) T.g__law_pick T.F__law_pick.kp (Fun.bd T.F__law_pick fun _ _ _ _ _ _ us hl => match us, hl with | [_, _], _ => rfl) (ss_cons (se_var 0) (ss_cons (se_lst (ss_cons se_str (ss_cons se_str ss_nil))) ss_nil))) (ss_cons (se_var 3) ss_nil))))
    (ss_cons' (ss_asg 6 sc__law_values.nd (se_lst (ss_cons (se_var 5) (ss_cons (se_var 4) (ss_cons (se_tuple1 T.m_tuple (ss_cons (se_var 4) ss_nil)) (ss_cons (se_ix (se_var 2) se_int) (ss_cons (se_ix (se_ix (se_var 2) se_int) se_int) (ss_cons (se_tup (ss_cons se_str (ss_cons (se_var 4) ss_nil))) (ss_cons (se_ix (se_ix (se_var 2) se_int) se_int) ss_nil)))))))))
    (ss_cons' (ss_setLc 7 9 rfl sc__law_values.nd (si_sq (se_addW (se_var 6) (se_var 6))) (fun _ _ _ _ _ => (se_callP (idx := [0, 1]) (ok__law_bent T TB) hA (hr.mono (by first | decide | (simp only [Nat.add_eq]; omega))) T.g__law_bent T.F__law_bent.kp (Fun.bd T.F__law_bent fun _ _ _ _ _ _ us hl => match us, hl with | [_, _, _], _ => rfl) (ss_cons (se_var 0) (ss_cons (se_var 9) (ss_cons se_int ss_nil))))) (ok := blkOk_by (N := ["_law_pot_here", "_law_world_here", "_law_linears", "_law_some", "_law_few", "_law_saying", "_law_right", "_law_bent_here", "_law_x", "_law_value"]) (sc := defScope s__law_values) (by decide +kernel)) (hg := fun _ _ _ _ _ => pg_name sc__law_values.nd rfl (Or.inl rfl)))
    (ss_one (ss_ret (se_addW (se_addW (se_var 6) (se_var 7)) (se_lst (ss_cons se_non (ss_cons se_bl (ss_cons se_int (ss_cons se_str (ss_cons (se_lst ss_nil) (ss_cons (se_tup ss_nil) (ss_cons (se_tup (ss_cons (se_lst ss_nil) (ss_cons se_int ss_nil))) (ss_cons (se_tup (ss_cons (se_lst ss_nil) (ss_cons se_bl ss_nil))) (ss_cons (se_tup (ss_cons se_str (ss_cons (se_lst ss_nil) ss_nil))) (ss_cons (se_lst (ss_cons (se_tup ss_nil) ss_nil)) ss_nil))))))))))))))))))))) fun op os r op' _ h => hp_of fuel h
theorem ok_law (T : Txt K mg) (TB : TabsB K mg base) : FnG P w K mg base 44 T.a_law T.d_law ["_law_script"] (sp0 K mr_law 1) :=
  ok_fn0 T.F_law sc_law (fun n cdv A outer s H hcd hA hr =>
    (ss_cons' (ss_for rfl PassesOwn.never (si_r1 T.m_range (ss_cons se_int ss_nil)) (sg_name 1 sc_law.nd) (ss_cons' (ss_asg 2 sc_law.nd (se_call0 (idx := [0, 1]) (ok__law_pot T TB) hA (hr.mono (by first | decide | (simp only [Nat.add_eq]; omega))) T.g__law_pot T.F__law_pot.kp (Fun.bd T.F__law_pot fun _ _ _ _ _ _ us hl => match us, hl with | [_, _], _ => rfl) (ss_cons (se_var 0) (ss_cons (se_mul se_int (se_var 1)) ss_nil))))
    (ss_cons' (ss_asg 3 sc_law.nd (se_callP (idx := [0]) (ok__law_world T TB) hA (hr.mono (by first | decide | (simp only [Nat.add_eq]; omega))) T.g__law_world T.F__law_world.kp (Fun.bd T.F__law_world fun _ _ _ _ _ _ us hl => match us, hl with | [_, _], _ => rfl) (ss_cons (se_var 2) (ss_cons (se_lst (ss_cons (se_tup (ss_cons se_int (ss_cons se_int ss_nil))) (ss_cons (se_tup (ss_cons se_int (ss_cons se_int ss_nil))) (ss_cons (se_tup (ss_cons se_int (ss_cons se_int ss_nil))) (ss_cons (se_tup (ss_cons se_int (ss_cons se_int ss_nil))) (ss_cons (se_tup (ss_cons se_int (ss_cons se_int ss_nil))) (ss_cons (se_tup (ss_cons se_int (ss_cons se_int ss_nil))) (ss_cons (se_tup (ss_cons se_int (ss_cons se_int ss_nil))) ss_nil)))))))) ss_nil))))
    (ss_cons' (ss_asg 4 sc_law.nd (se_call0 (idx := [0]) (ok__law_copy T TB) hA (hr.mono (by first | decide | (simp only [Nat.add_eq]; omega))) T.g__law_copy T.F__law_copy.kp (Fun.bd T.F__law_copy fun _ _ _ _ _ _ us hl => match us, hl with | [_], _ => rfl) (ss_cons (se_var 3) ss_nil)))
    (ss_cons' (ss_for rfl PassesOwn.never (si_sq (se_callT (idx := [0]) (ok__law_values T TB) hA (hr.mono (by first | decide | (simp only [Nat.add_eq]; omega))) T.g__law_values T.F__law_values.kp (Fun.bd T.F__law_values fun _ _ _ _ _ _ us hl => match us, hl with | [_, _], _ => rfl) (ss_cons (se_call0 (idx := [0, 1]) (ok__law_pot T TB) hA (hr.mono (by first | decide | (simp only [Nat.add_eq]; omega))) T.g__law_pot T.F__law_pot.kp (Fun.bd T.F__law_pot fun _ _ _ _ _ _ us hl => match us, hl with | [_, _], _ => rfl) (ss_cons (se_var 0) (ss_cons (se_addW (se_mul se_int (se_var 1)) se_int) ss_nil))) (ss_cons (se_var 3) ss_nil)))) (sg_name 5 sc_law.nd) (ss_cons' (ss_asg 6 sc_law.nd (se_call0 (idx := [0]) (ok__law_copy T TB) hA (hr.mono (by first | decide | (simp only [Nat.add_eq]; omega))) T.g__law_copy T.F__law_copy.kp (Fun.bd T.F__law_copy fun _ _ _ _ _ _ us hl => match us, hl with | [_], _ => rfl) (ss_cons (se_var 5) ss_nil)))
    (ss_one (ss_if (STw.t (st_or (st_not (st_tru (se_call0 (idx := [0, 1]) (ok__law_judged T TB) hA (hr.mono (by first | decide | (simp only [Nat.add_eq]; omega))) T.g__law_judged T.F__law_judged.kp (Fun.bd T.F__law_judged fun _ _ _ _ _ _ us hl => match us, hl with | [_, _], _ => rfl) (ss_cons (se_var 3) (ss_cons (se_var 5) ss_nil))))) (st_or1 (st_not (st_tru (se_call0 (idx := [0, 1]) (ok__law_same T TB) hA (hr.mono (by first | decide | (simp only [Nat.add_eq]; omega))) T.g__law_same T.F__law_same.kp (Fun.bd T.F__law_same fun _ _ _ _ _ _ us hl => match us, hl with | [_, _], _ => rfl) (ss_cons (se_var 5) (ss_cons (se_var 6) ss_nil)))))))) (ss_one (ss_ret se_bl)) ss_nil'))))
    (ss_one (ss_if (st_not (st_tru (se_call0 (idx := [0, 1]) (ok__law_same T TB) hA (hr.mono (by first | decide | (simp only [Nat.add_eq]; omega))) T.g__law_same T.F__law_same.kp (Fun.bd T.F__law_same fun _ _ _ _ _ _ us hl => match us, hl with | [_, _], _ => rfl) (ss_cons (se_var 3) (ss_cons (se_var 4) ss_nil))))) (ss_one (ss_ret se_bl)) ss_nil')))))))
    (ss_one (ss_ret se_bl)))) fun os r _ h => hm_of fuel h
end
theorem all_mk {l : PySem.W.OpenLaw} {w : World} {K : PySem.W.Frag} {h : Heap} {mg : Str → Option Value} {fa f0 f1 f2 f3 f4 f5 f6 f7 f8 f9 f10 f11 f12 f13 f14 f15 f16 f17 f18 f19 f20 f21 f22 f23 f24 f25 f26 f27 f28 f29 f30 f31 f32 : Addr} (X : K.In h) (G : h.Ns mainGlobals mg) (hfa : mg "law" = some (.ref fa))
    {od0 an0 od1 an1 od2 an2 od3 an3 od4 an4 od5 an5 od6 an6 od7 an7 od8 an8 od9 an9 od10 an10 od11 an11 od12 an12 od13 an13 od14 an14 od15 an15 od16 an16 od17 an17 od18 an18 od19 an19 od20 an20 od21 an21 od22 an22 od23 an23 od24 an24 od25 an25 od26 an26 od27 an27 od28 an28 od29 an29 od30 an30 od31 an31 od32 an32 : Option Addr} {sl0 sl1 sl2 sl3 sl4 sl5 sl6 sl7 sl8 sl9 sl10 sl11 sl12 sl13 sl14 sl15 sl16 sl17 sl18 sl19 sl20 sl21 sl22 sl23 sl24 sl25 sl26 sl27 sl28 sl29 sl30 sl31 sl32 : Array (Option Value)} {oc0 kV0 dc0 pm0 cd0 ct0 oc1 kV1 dc1 pm1 cd1 ct1 oc2 kV2 dc2 pm2 cd2 ct2 oc3 kV3 dc3 pm3 cd3 ct3 oc4 kV4 dc4 pm4 cd4 ct4 oc5 kV5 dc5 pm5 cd5 ct5 oc6 kV6 dc6 pm6 cd6 ct6 oc7 kV7 dc7 pm7 cd7 ct7 oc8 kV8 dc8 pm8 cd8 ct8 oc9 kV9 dc9 pm9 cd9 ct9 oc10 kV10 dc10 pm10 cd10 ct10 oc11 kV11 dc11 pm11 cd11 ct11 oc12 kV12 dc12 pm12 cd12 ct12 oc13 kV13 dc13 pm13 cd13 ct13 oc14 kV14 dc14 pm14 cd14 ct14 oc15 kV15 dc15 pm15 cd15 ct15 oc16 kV16 dc16 pm16 cd16 ct16 oc17 kV17 dc17 pm17 cd17 ct17 oc18 kV18 dc18 pm18 cd18 ct18 oc19 kV19 dc19 pm19 cd19 ct19 oc20 kV20 dc20 pm20 cd20 ct20 oc21 kV21 dc21 pm21 cd21 ct21 oc22 kV22 dc22 pm22 cd22 ct22 oc23 kV23 dc23 pm23 cd23 ct23 oc24 kV24 dc24 pm24 cd24 ct24 oc25 kV25 dc25 pm25 cd25 ct25 oc26 kV26 dc26 pm26 cd26 ct26 oc27 kV27 dc27 pm27 cd27 ct27 oc28 kV28 dc28 pm28 cd28 ct28 oc29 kV29 dc29 pm29 cd29 ct29 oc30 kV30 dc30 pm30 cd30 ct30 oc31 kV31 dc31 pm31 cd31 ct31 oc32 kV32 dc32 pm32 cd32 ct32 : Value}
    (a0 : PySem.W.nsIn K mainGlobals "is_integer" = some (some (.ref f0)))
    (l0 : K.lookup f0 = some ⟨oc0, od0, .func (PySem.W.fnOf "is_integer" "is_integer" (defArgs s_is_integer) (defBody s_is_integer) (defScope s_is_integer) .none kV0 dc0 pm0 an0 cd0 ct0), sl0⟩)
    (c0 : PySem.W.codeIn K cd0 "is_integer" = true)
    (k0 : PySem.W.keepIn K (.ref f0) = true)
    (a1 : PySem.W.nsIn K mainGlobals "is_stand_numbers" = some (some (.ref f1)))
    (l1 : K.lookup f1 = some ⟨oc1, od1, .func (PySem.W.fnOf "is_stand_numbers" "is_stand_numbers" (defArgs s_is_stand_numbers) (defBody s_is_stand_numbers) (defScope s_is_stand_numbers) .none kV1 dc1 pm1 an1 cd1 ct1), sl1⟩)
    (c1 : PySem.W.codeIn K cd1 "is_stand_numbers" = true)
    (k1 : PySem.W.keepIn K (.ref f1) = true)
    (a2 : PySem.W.nsIn K mainGlobals "is_terms" = some (some (.ref f2)))
    (l2 : K.lookup f2 = some ⟨oc2, od2, .func (PySem.W.fnOf "is_terms" "is_terms" (defArgs s_is_terms) (defBody s_is_terms) (defScope s_is_terms) .none kV2 dc2 pm2 an2 cd2 ct2), sl2⟩)
    (c2 : PySem.W.codeIn K cd2 "is_terms" = true)
    (k2 : PySem.W.keepIn K (.ref f2) = true)
    (a3 : PySem.W.nsIn K mainGlobals "is_linear" = some (some (.ref f3)))
    (l3 : K.lookup f3 = some ⟨oc3, od3, .func (PySem.W.fnOf "is_linear" "is_linear" (defArgs s_is_linear) (defBody s_is_linear) (defScope s_is_linear) .none kV3 dc3 pm3 an3 cd3 ct3), sl3⟩)
    (c3 : PySem.W.codeIn K cd3 "is_linear" = true)
    (k3 : PySem.W.keepIn K (.ref f3) = true)
    (a4 : PySem.W.nsIn K mainGlobals "is_saying" = some (some (.ref f4)))
    (l4 : K.lookup f4 = some ⟨oc4, od4, .func (PySem.W.fnOf "is_saying" "is_saying" (defArgs s_is_saying) (defBody s_is_saying) (defScope s_is_saying) .none kV4 dc4 pm4 an4 cd4 ct4), sl4⟩)
    (c4 : PySem.W.codeIn K cd4 "is_saying" = true)
    (k4 : PySem.W.keepIn K (.ref f4) = true)
    (a5 : PySem.W.nsIn K mainGlobals "is_supposed" = some (some (.ref f5)))
    (l5 : K.lookup f5 = some ⟨oc5, od5, .func (PySem.W.fnOf "is_supposed" "is_supposed" (defArgs s_is_supposed) (defBody s_is_supposed) (defScope s_is_supposed) .none kV5 dc5 pm5 an5 cd5 ct5), sl5⟩)
    (c5 : PySem.W.codeIn K cd5 "is_supposed" = true)
    (k5 : PySem.W.keepIn K (.ref f5) = true)
    (a6 : PySem.W.nsIn K mainGlobals "_law_pot" = some (some (.ref f6)))
    (l6 : K.lookup f6 = some ⟨oc6, od6, .func (PySem.W.fnOf "_law_pot" "_law_pot" (defArgs s__law_pot) (defBody s__law_pot) (defScope s__law_pot) .none kV6 dc6 pm6 an6 cd6 ct6), sl6⟩)
    (c6 : PySem.W.codeIn K cd6 "_law_pot" = true)
    (k6 : PySem.W.keepIn K (.ref f6) = true)
    (a7 : PySem.W.nsIn K mainGlobals "_law_draw" = some (some (.ref f7)))
    (l7 : K.lookup f7 = some ⟨oc7, od7, .func (PySem.W.fnOf "_law_draw" "_law_draw" (defArgs s__law_draw) (defBody s__law_draw) (defScope s__law_draw) .none kV7 dc7 pm7 an7 cd7 ct7), sl7⟩)
    (c7 : PySem.W.codeIn K cd7 "_law_draw" = true)
    (k7 : PySem.W.keepIn K (.ref f7) = true)
    (a8 : PySem.W.nsIn K mainGlobals "_law_pick" = some (some (.ref f8)))
    (l8 : K.lookup f8 = some ⟨oc8, od8, .func (PySem.W.fnOf "_law_pick" "_law_pick" (defArgs s__law_pick) (defBody s__law_pick) (defScope s__law_pick) .none kV8 dc8 pm8 an8 cd8 ct8), sl8⟩)
    (c8 : PySem.W.codeIn K cd8 "_law_pick" = true)
    (k8 : PySem.W.keepIn K (.ref f8) = true)
    (a9 : PySem.W.nsIn K mainGlobals "_law_same" = some (some (.ref f9)))
    (l9 : K.lookup f9 = some ⟨oc9, od9, .func (PySem.W.fnOf "_law_same" "_law_same" (defArgs s__law_same) (defBody s__law_same) (defScope s__law_same) .none kV9 dc9 pm9 an9 cd9 ct9), sl9⟩)
    (c9 : PySem.W.codeIn K cd9 "_law_same" = true)
    (k9 : PySem.W.keepIn K (.ref f9) = true)
    (a10 : PySem.W.nsIn K mainGlobals "_law_copy" = some (some (.ref f10)))
    (l10 : K.lookup f10 = some ⟨oc10, od10, .func (PySem.W.fnOf "_law_copy" "_law_copy" (defArgs s__law_copy) (defBody s__law_copy) (defScope s__law_copy) .none kV10 dc10 pm10 an10 cd10 ct10), sl10⟩)
    (c10 : PySem.W.codeIn K cd10 "_law_copy" = true)
    (k10 : PySem.W.keepIn K (.ref f10) = true)
    (a11 : PySem.W.nsIn K mainGlobals "_law_is" = some (some (.ref f11)))
    (l11 : K.lookup f11 = some ⟨oc11, od11, .func (PySem.W.fnOf "_law_is" "_law_is" (defArgs s__law_is) (defBody s__law_is) (defScope s__law_is) .none kV11 dc11 pm11 an11 cd11 ct11), sl11⟩)
    (c11 : PySem.W.codeIn K cd11 "_law_is" = true)
    (k11 : PySem.W.keepIn K (.ref f11) = true)
    (a12 : PySem.W.nsIn K mainGlobals "_law_whole" = some (some (.ref f12)))
    (l12 : K.lookup f12 = some ⟨oc12, od12, .func (PySem.W.fnOf "_law_whole" "_law_whole" (defArgs s__law_whole) (defBody s__law_whole) (defScope s__law_whole) .none kV12 dc12 pm12 an12 cd12 ct12), sl12⟩)
    (c12 : PySem.W.codeIn K cd12 "_law_whole" = true)
    (k12 : PySem.W.keepIn K (.ref f12) = true)
    (a13 : PySem.W.nsIn K mainGlobals "_law_name" = some (some (.ref f13)))
    (l13 : K.lookup f13 = some ⟨oc13, od13, .func (PySem.W.fnOf "_law_name" "_law_name" (defArgs s__law_name) (defBody s__law_name) (defScope s__law_name) .none kV13 dc13 pm13 an13 cd13 ct13), sl13⟩)
    (c13 : PySem.W.codeIn K cd13 "_law_name" = true)
    (k13 : PySem.W.keepIn K (.ref f13) = true)
    (a14 : PySem.W.nsIn K mainGlobals "_law_number" = some (some (.ref f14)))
    (l14 : K.lookup f14 = some ⟨oc14, od14, .func (PySem.W.fnOf "_law_number" "_law_number" (defArgs s__law_number) (defBody s__law_number) (defScope s__law_number) .none kV14 dc14 pm14 an14 cd14 ct14), sl14⟩)
    (c14 : PySem.W.codeIn K cd14 "_law_number" = true)
    (k14 : PySem.W.keepIn K (.ref f14) = true)
    (a15 : PySem.W.nsIn K mainGlobals "_law_numbers" = some (some (.ref f15)))
    (l15 : K.lookup f15 = some ⟨oc15, od15, .func (PySem.W.fnOf "_law_numbers" "_law_numbers" (defArgs s__law_numbers) (defBody s__law_numbers) (defScope s__law_numbers) .none kV15 dc15 pm15 an15 cd15 ct15), sl15⟩)
    (c15 : PySem.W.codeIn K cd15 "_law_numbers" = true)
    (k15 : PySem.W.keepIn K (.ref f15) = true)
    (a16 : PySem.W.nsIn K mainGlobals "_law_row" = some (some (.ref f16)))
    (l16 : K.lookup f16 = some ⟨oc16, od16, .func (PySem.W.fnOf "_law_row" "_law_row" (defArgs s__law_row) (defBody s__law_row) (defScope s__law_row) .none kV16 dc16 pm16 an16 cd16 ct16), sl16⟩)
    (c16 : PySem.W.codeIn K cd16 "_law_row" = true)
    (k16 : PySem.W.keepIn K (.ref f16) = true)
    (a17 : PySem.W.nsIn K mainGlobals "_law_one" = some (some (.ref f17)))
    (l17 : K.lookup f17 = some ⟨oc17, od17, .func (PySem.W.fnOf "_law_one" "_law_one" (defArgs s__law_one) (defBody s__law_one) (defScope s__law_one) .none kV17 dc17 pm17 an17 cd17 ct17), sl17⟩)
    (c17 : PySem.W.codeIn K cd17 "_law_one" = true)
    (k17 : PySem.W.keepIn K (.ref f17) = true)
    (a18 : PySem.W.nsIn K mainGlobals "_law_start" = some (some (.ref f18)))
    (l18 : K.lookup f18 = some ⟨oc18, od18, .func (PySem.W.fnOf "_law_start" "_law_start" (defArgs s__law_start) (defBody s__law_start) (defScope s__law_start) .none kV18 dc18 pm18 an18 cd18 ct18), sl18⟩)
    (c18 : PySem.W.codeIn K cd18 "_law_start" = true)
    (k18 : PySem.W.keepIn K (.ref f18) = true)
    (a19 : PySem.W.nsIn K mainGlobals "_law_step" = some (some (.ref f19)))
    (l19 : K.lookup f19 = some ⟨oc19, od19, .func (PySem.W.fnOf "_law_step" "_law_step" (defArgs s__law_step) (defBody s__law_step) (defScope s__law_step) .none kV19 dc19 pm19 an19 cd19 ct19), sl19⟩)
    (c19 : PySem.W.codeIn K cd19 "_law_step" = true)
    (k19 : PySem.W.keepIn K (.ref f19) = true)
    (a20 : PySem.W.nsIn K mainGlobals "_law_world" = some (some (.ref f20)))
    (l20 : K.lookup f20 = some ⟨oc20, od20, .func (PySem.W.fnOf "_law_world" "_law_world" (defArgs s__law_world) (defBody s__law_world) (defScope s__law_world) .none kV20 dc20 pm20 an20 cd20 ct20), sl20⟩)
    (c20 : PySem.W.codeIn K cd20 "_law_world" = true)
    (k20 : PySem.W.keepIn K (.ref f20) = true)
    (a21 : PySem.W.nsIn K mainGlobals "_law_bent" = some (some (.ref f21)))
    (l21 : K.lookup f21 = some ⟨oc21, od21, .func (PySem.W.fnOf "_law_bent" "_law_bent" (defArgs s__law_bent) (defBody s__law_bent) (defScope s__law_bent) .none kV21 dc21 pm21 an21 cd21 ct21), sl21⟩)
    (c21 : PySem.W.codeIn K cd21 "_law_bent" = true)
    (k21 : PySem.W.keepIn K (.ref f21) = true)
    (a22 : PySem.W.nsIn K mainGlobals "_law_terms" = some (some (.ref f22)))
    (l22 : K.lookup f22 = some ⟨oc22, od22, .func (PySem.W.fnOf "_law_terms" "_law_terms" (defArgs s__law_terms) (defBody s__law_terms) (defScope s__law_terms) .none kV22 dc22 pm22 an22 cd22 ct22), sl22⟩)
    (c22 : PySem.W.codeIn K cd22 "_law_terms" = true)
    (k22 : PySem.W.keepIn K (.ref f22) = true)
    (a23 : PySem.W.nsIn K mainGlobals "_law_linear" = some (some (.ref f23)))
    (l23 : K.lookup f23 = some ⟨oc23, od23, .func (PySem.W.fnOf "_law_linear" "_law_linear" (defArgs s__law_linear) (defBody s__law_linear) (defScope s__law_linear) .none kV23 dc23 pm23 an23 cd23 ct23), sl23⟩)
    (c23 : PySem.W.codeIn K cd23 "_law_linear" = true)
    (k23 : PySem.W.keepIn K (.ref f23) = true)
    (a24 : PySem.W.nsIn K mainGlobals "_law_is_numbers" = some (some (.ref f24)))
    (l24 : K.lookup f24 = some ⟨oc24, od24, .func (PySem.W.fnOf "_law_is_numbers" "_law_is_numbers" (defArgs s__law_is_numbers) (defBody s__law_is_numbers) (defScope s__law_is_numbers) .none kV24 dc24 pm24 an24 cd24 ct24), sl24⟩)
    (c24 : PySem.W.codeIn K cd24 "_law_is_numbers" = true)
    (k24 : PySem.W.keepIn K (.ref f24) = true)
    (a25 : PySem.W.nsIn K mainGlobals "_law_is_terms" = some (some (.ref f25)))
    (l25 : K.lookup f25 = some ⟨oc25, od25, .func (PySem.W.fnOf "_law_is_terms" "_law_is_terms" (defArgs s__law_is_terms) (defBody s__law_is_terms) (defScope s__law_is_terms) .none kV25 dc25 pm25 an25 cd25 ct25), sl25⟩)
    (c25 : PySem.W.codeIn K cd25 "_law_is_terms" = true)
    (k25 : PySem.W.keepIn K (.ref f25) = true)
    (a26 : PySem.W.nsIn K mainGlobals "_law_is_linear" = some (some (.ref f26)))
    (l26 : K.lookup f26 = some ⟨oc26, od26, .func (PySem.W.fnOf "_law_is_linear" "_law_is_linear" (defArgs s__law_is_linear) (defBody s__law_is_linear) (defScope s__law_is_linear) .none kV26 dc26 pm26 an26 cd26 ct26), sl26⟩)
    (c26 : PySem.W.codeIn K cd26 "_law_is_linear" = true)
    (k26 : PySem.W.keepIn K (.ref f26) = true)
    (a27 : PySem.W.nsIn K mainGlobals "_law_are_linears" = some (some (.ref f27)))
    (l27 : K.lookup f27 = some ⟨oc27, od27, .func (PySem.W.fnOf "_law_are_linears" "_law_are_linears" (defArgs s__law_are_linears) (defBody s__law_are_linears) (defScope s__law_are_linears) .none kV27 dc27 pm27 an27 cd27 ct27), sl27⟩)
    (c27 : PySem.W.codeIn K cd27 "_law_are_linears" = true)
    (k27 : PySem.W.keepIn K (.ref f27) = true)
    (a28 : PySem.W.nsIn K mainGlobals "_law_is_saying" = some (some (.ref f28)))
    (l28 : K.lookup f28 = some ⟨oc28, od28, .func (PySem.W.fnOf "_law_is_saying" "_law_is_saying" (defArgs s__law_is_saying) (defBody s__law_is_saying) (defScope s__law_is_saying) .none kV28 dc28 pm28 an28 cd28 ct28), sl28⟩)
    (c28 : PySem.W.codeIn K cd28 "_law_is_saying" = true)
    (k28 : PySem.W.keepIn K (.ref f28) = true)
    (a29 : PySem.W.nsIn K mainGlobals "_law_is_supposed" = some (some (.ref f29)))
    (l29 : K.lookup f29 = some ⟨oc29, od29, .func (PySem.W.fnOf "_law_is_supposed" "_law_is_supposed" (defArgs s__law_is_supposed) (defBody s__law_is_supposed) (defScope s__law_is_supposed) .none kV29 dc29 pm29 an29 cd29 ct29), sl29⟩)
    (c29 : PySem.W.codeIn K cd29 "_law_is_supposed" = true)
    (k29 : PySem.W.keepIn K (.ref f29) = true)
    (a30 : PySem.W.nsIn K mainGlobals "_law_values" = some (some (.ref f30)))
    (l30 : K.lookup f30 = some ⟨oc30, od30, .func (PySem.W.fnOf "_law_values" "_law_values" (defArgs s__law_values) (defBody s__law_values) (defScope s__law_values) .none kV30 dc30 pm30 an30 cd30 ct30), sl30⟩)
    (c30 : PySem.W.codeIn K cd30 "_law_values" = true)
    (k30 : PySem.W.keepIn K (.ref f30) = true)
    (a31 : PySem.W.nsIn K mainGlobals "_law_judged" = some (some (.ref f31)))
    (l31 : K.lookup f31 = some ⟨oc31, od31, .func (PySem.W.fnOf "_law_judged" "_law_judged" (defArgs s__law_judged) (defBody s__law_judged) (defScope s__law_judged) .none kV31 dc31 pm31 an31 cd31 ct31), sl31⟩)
    (c31 : PySem.W.codeIn K cd31 "_law_judged" = true)
    (k31 : PySem.W.keepIn K (.ref f31) = true)
    (a32 : PySem.W.nsIn K mainGlobals "law" = some (some (.ref f32)))
    (l32 : K.lookup f32 = some ⟨oc32, od32, .func (PySem.W.fnOf "law" "law" (defArgs s_law) (defBody s_law) (defScope s_law) .none kV32 dc32 pm32 an32 cd32 ct32), sl32⟩)
    (c32 : PySem.W.codeIn K cd32 "law" = true)
    (k32 : PySem.W.keepIn K (.ref f32) = true)
    {go1 gt1 : Addr} {gd1 : Option Addr} {gq1 : Value} {gv1 : Array Value} {gs1 : Array (Option Value)}
    (ge1 : cd1 = .ref go1)
    (gl1 : K.lookup go1 = some ⟨gq1, gd1, .fields gv1, gs1⟩)
    (gi1 : (gv1[11]? : Option Value) = some (.ref gt1))
    (gh1 : PySem.W.codeHdIn K go1 gt1 = true)
    {go4 gt4 : Addr} {gd4 : Option Addr} {gq4 : Value} {gv4 : Array Value} {gs4 : Array (Option Value)}
    (ge4 : cd4 = .ref go4)
    (gl4 : K.lookup go4 = some ⟨gq4, gd4, .fields gv4, gs4⟩)
    (gi4 : (gv4[11]? : Option Value) = some (.ref gt4))
    (gh4 : PySem.W.codeHdIn K go4 gt4 = true)
    {go5 gt5 : Addr} {gd5 : Option Addr} {gq5 : Value} {gv5 : Array Value} {gs5 : Array (Option Value)}
    (ge5 : cd5 = .ref go5)
    (gl5 : K.lookup go5 = some ⟨gq5, gd5, .fields gv5, gs5⟩)
    (gi5 : (gv5[11]? : Option Value) = some (.ref gt5))
    (gh5 : PySem.W.codeHdIn K go5 gt5 = true)
    {t0 : Tok}
    (n0 : PySem.W.nsIn K mainGlobals "MOST_LINEARS" = some (some (.int 8 t0)))
    {t1 : Tok}
    (n1 : PySem.W.nsIn K mainGlobals "MOST_SUPPOSED" = some (some (.int 4 t1)))
    (z0 : PySem.W.nsIn K mainGlobals "abs" = some none)
    (z1 : PySem.W.nsIn K mainGlobals "all" = some none)
    (z2 : PySem.W.nsIn K mainGlobals "any" = some none)
    (z3 : PySem.W.nsIn K mainGlobals "bool" = some none)
    (z4 : PySem.W.nsIn K mainGlobals "divmod" = some none)
    (z5 : PySem.W.nsIn K mainGlobals "int" = some none)
    (z6 : PySem.W.nsIn K mainGlobals "isinstance" = some none)
    (z7 : PySem.W.nsIn K mainGlobals "len" = some none)
    (z8 : PySem.W.nsIn K mainGlobals "list" = some none)
    (z9 : PySem.W.nsIn K mainGlobals "max" = some none)
    (z10 : PySem.W.nsIn K mainGlobals "range" = some none)
    (z11 : PySem.W.nsIn K mainGlobals "str" = some none)
    (z12 : PySem.W.nsIn K mainGlobals "tuple" = some none)
    (z13 : PySem.W.nsIn K mainGlobals "zip" = some none)
    : ∃ fd : FuncData, (∀ (s : Shared) (v : Value), BindsTo s fd ⟨[v], []⟩ [("_law_script", v)]) ∧ ∀ base : Heap, K.In base → base.Ns mainGlobals mg → TabsB K mg base → FnG l.prog w K mg base 44 fa fd ["_law_script"] (sp0 K mr_law 1) := by
  have e := hfa.symm.trans (PySem.W.mg_of X G a32)
  cases e
  exact ⟨_, fun s v => .of_eq rfl, fun base _ _ TB => ok_law (⟨_, _, fun_mk (st := s_is_integer) l0 c0 k0, PySem.W.mg_of X G a0,
    _, _, fun_mk (st := s_is_stand_numbers) l1 c1 k1, PySem.W.mg_of X G a1,
    _, _, fun_mk (st := s_is_terms) l2 c2 k2, PySem.W.mg_of X G a2,
    _, _, fun_mk (st := s_is_linear) l3 c3 k3, PySem.W.mg_of X G a3,
    _, _, fun_mk (st := s_is_saying) l4 c4 k4, PySem.W.mg_of X G a4,
    _, _, fun_mk (st := s_is_supposed) l5 c5 k5, PySem.W.mg_of X G a5,
    _, _, fun_mk (st := s__law_pot) l6 c6 k6, PySem.W.mg_of X G a6,
    _, _, fun_mk (st := s__law_draw) l7 c7 k7, PySem.W.mg_of X G a7,
    _, _, fun_mk (st := s__law_pick) l8 c8 k8, PySem.W.mg_of X G a8,
    _, _, fun_mk (st := s__law_same) l9 c9 k9, PySem.W.mg_of X G a9,
    _, _, fun_mk (st := s__law_copy) l10 c10 k10, PySem.W.mg_of X G a10,
    _, _, fun_mk (st := s__law_is) l11 c11 k11, PySem.W.mg_of X G a11,
    _, _, fun_mk (st := s__law_whole) l12 c12 k12, PySem.W.mg_of X G a12,
    _, _, fun_mk (st := s__law_name) l13 c13 k13, PySem.W.mg_of X G a13,
    _, _, fun_mk (st := s__law_number) l14 c14 k14, PySem.W.mg_of X G a14,
    _, _, fun_mk (st := s__law_numbers) l15 c15 k15, PySem.W.mg_of X G a15,
    _, _, fun_mk (st := s__law_row) l16 c16 k16, PySem.W.mg_of X G a16,
    _, _, fun_mk (st := s__law_one) l17 c17 k17, PySem.W.mg_of X G a17,
    _, _, fun_mk (st := s__law_start) l18 c18 k18, PySem.W.mg_of X G a18,
    _, _, fun_mk (st := s__law_step) l19 c19 k19, PySem.W.mg_of X G a19,
    _, _, fun_mk (st := s__law_world) l20 c20 k20, PySem.W.mg_of X G a20,
    _, _, fun_mk (st := s__law_bent) l21 c21 k21, PySem.W.mg_of X G a21,
    _, _, fun_mk (st := s__law_terms) l22 c22 k22, PySem.W.mg_of X G a22,
    _, _, fun_mk (st := s__law_linear) l23 c23 k23, PySem.W.mg_of X G a23,
    _, _, fun_mk (st := s__law_is_numbers) l24 c24 k24, PySem.W.mg_of X G a24,
    _, _, fun_mk (st := s__law_is_terms) l25 c25 k25, PySem.W.mg_of X G a25,
    _, _, fun_mk (st := s__law_is_linear) l26 c26 k26, PySem.W.mg_of X G a26,
    _, _, fun_mk (st := s__law_are_linears) l27 c27 k27, PySem.W.mg_of X G a27,
    _, _, fun_mk (st := s__law_is_saying) l28 c28 k28, PySem.W.mg_of X G a28,
    _, _, fun_mk (st := s__law_is_supposed) l29 c29 k29, PySem.W.mg_of X G a29,
    _, _, fun_mk (st := s__law_values) l30 c30 k30, PySem.W.mg_of X G a30,
    _, _, fun_mk (st := s__law_judged) l31 c31 k31, PySem.W.mg_of X G a31,
    _, _, fun_mk (st := s_law) l32 c32 k32, PySem.W.mg_of X G a32,
    go1, gt1, ge1, gh1, ⟨_, _, tabND_of a1 l1 rfl ge1 gl1 gi1⟩,
    go4, gt4, ge4, gh4, ⟨_, _, tabND_of a4 l4 rfl ge4 gl4 gi4⟩,
    go5, gt5, ge5, gh5, ⟨_, _, tabND_of a5 l5 rfl ge5 gl5 gi5⟩,
    t0, PySem.W.mg_of X G n0,
    t1, PySem.W.mg_of X G n1,
    PySem.W.mg_none_of X G z0,
    PySem.W.mg_none_of X G z1,
    PySem.W.mg_none_of X G z2,
    PySem.W.mg_none_of X G z3,
    PySem.W.mg_none_of X G z4,
    PySem.W.mg_none_of X G z5,
    PySem.W.mg_none_of X G z6,
    PySem.W.mg_none_of X G z7,
    PySem.W.mg_none_of X G z8,
    PySem.W.mg_none_of X G z9,
    PySem.W.mg_none_of X G z10,
    PySem.W.mg_none_of X G z11,
    PySem.W.mg_none_of X G z12,
    PySem.W.mg_none_of X G z13⟩ : Txt K mg) TB⟩
def names : List Str := [("is_integer" : Str), ("is_stand_numbers" : Str), ("is_terms" : Str), ("is_linear" : Str), ("is_saying" : Str), ("is_supposed" : Str), ("_law_pot" : Str), ("_law_draw" : Str), ("_law_pick" : Str), ("_law_same" : Str), ("_law_copy" : Str), ("_law_is" : Str), ("_law_whole" : Str), ("_law_name" : Str), ("_law_number" : Str), ("_law_numbers" : Str), ("_law_row" : Str), ("_law_one" : Str), ("_law_start" : Str), ("_law_step" : Str), ("_law_world" : Str), ("_law_bent" : Str), ("_law_terms" : Str), ("_law_linear" : Str), ("_law_is_numbers" : Str), ("_law_is_terms" : Str), ("_law_is_linear" : Str), ("_law_are_linears" : Str), ("_law_is_saying" : Str), ("_law_is_supposed" : Str), ("_law_values" : Str), ("_law_judged" : Str), ("law" : Str)]
end K55
open PySem PySem.W PyProof.Rows
set_option maxRecDepth 100000 in
set_option maxHeartbeats 0 in
theorem PySem.Challenge.cw_allreadings_k55_any_value_as_terms_and_s_holds : PySem.Challenge.rw_allreadings_k55_any_value_as_terms_and_s.Holds := by
  w_on; o_law; k_head; (case hw => w_witness2)
  k_fill
  refine DX.walk_g (l := PySem.Challenge.rw_allreadings_k55_any_value_as_terms_and_s) (n := 63) (k := 44) (x := "_law_script") (m := K55.mr_law) K55.names rfl (by decide) rfl ⟨rfl, by decide, by decide⟩ (fun w h Y => PySem.W.kIn_of Y) ?R ?Tc ?F K55.law_holds
  case R => decide +kernel
  case Tc => intro w; kernel_rfl
  case F =>
    intro w mg fa h KX G hmg
    refine' K55.all_mk KX G hmg ?a0 ?l0 ?c0 ?k0 ?a1 ?l1 ?c1 ?k1 ?a2 ?l2 ?c2 ?k2 ?a3 ?l3 ?c3 ?k3 ?a4 ?l4 ?c4 ?k4 ?a5 ?l5 ?c5 ?k5 ?a6 ?l6 ?c6 ?k6 ?a7 ?l7 ?c7 ?k7 ?a8 ?l8 ?c8 ?k8 ?a9 ?l9 ?c9 ?k9 ?a10 ?l10 ?c10 ?k10 ?a11 ?l11 ?c11 ?k11 ?a12 ?l12 ?c12 ?k12 ?a13 ?l13 ?c13 ?k13 ?a14 ?l14 ?c14 ?k14 ?a15 ?l15 ?c15 ?k15 ?a16 ?l16 ?c16 ?k16 ?a17 ?l17 ?c17 ?k17 ?a18 ?l18 ?c18 ?k18 ?a19 ?l19 ?c19 ?k19 ?a20 ?l20 ?c20 ?k20 ?a21 ?l21 ?c21 ?k21 ?a22 ?l22 ?c22 ?k22 ?a23 ?l23 ?c23 ?k23 ?a24 ?l24 ?c24 ?k24 ?a25 ?l25 ?c25 ?k25 ?a26 ?l26 ?c26 ?k26 ?a27 ?l27 ?c27 ?k27 ?a28 ?l28 ?c28 ?k28 ?a29 ?l29 ?c29 ?k29 ?a30 ?l30 ?c30 ?k30 ?a31 ?l31 ?c31 ?k31 ?a32 ?l32 ?c32 ?k32 ?ge1 ?gl1 ?gi1 ?gh1 ?ge4 ?gl4 ?gi4 ?gh4 ?ge5 ?gl5 ?gi5 ?gh5 ?n0 ?n1 ?z0 ?z1 ?z2 ?z3 ?z4 ?z5 ?z6 ?z7 ?z8 ?z9 ?z10 ?z11 ?z12 ?z13
    (case a0 => k_is)
    (case l0 => k_is)
    (case c0 => k_is)
    (case k0 => k_is)
    (case a1 => k_is)
    (case l1 => k_is)
    (case c1 => k_is)
    (case k1 => k_is)
    (case a2 => k_is)
    (case l2 => k_is)
    (case c2 => k_is)
    (case k2 => k_is)
    (case a3 => k_is)
    (case l3 => k_is)
    (case c3 => k_is)
    (case k3 => k_is)
    (case a4 => k_is)
    (case l4 => k_is)
    (case c4 => k_is)
    (case k4 => k_is)
    (case a5 => k_is)
    (case l5 => k_is)
    (case c5 => k_is)
    (case k5 => k_is)
    (case a6 => k_is)
    (case l6 => k_is)
    (case c6 => k_is)
    (case k6 => k_is)
    (case a7 => k_is)
    (case l7 => k_is)
    (case c7 => k_is)
    (case k7 => k_is)
    (case a8 => k_is)
    (case l8 => k_is)
    (case c8 => k_is)
    (case k8 => k_is)
    (case a9 => k_is)
    (case l9 => k_is)
    (case c9 => k_is)
    (case k9 => k_is)
    (case a10 => k_is)
    (case l10 => k_is)
    (case c10 => k_is)
    (case k10 => k_is)
    (case a11 => k_is)
    (case l11 => k_is)
    (case c11 => k_is)
    (case k11 => k_is)
    (case a12 => k_is)
    (case l12 => k_is)
    (case c12 => k_is)
    (case k12 => k_is)
    (case a13 => k_is)
    (case l13 => k_is)
    (case c13 => k_is)
    (case k13 => k_is)
    (case a14 => k_is)
    (case l14 => k_is)
    (case c14 => k_is)
    (case k14 => k_is)
    (case a15 => k_is)
    (case l15 => k_is)
    (case c15 => k_is)
    (case k15 => k_is)
    (case a16 => k_is)
    (case l16 => k_is)
    (case c16 => k_is)
    (case k16 => k_is)
    (case a17 => k_is)
    (case l17 => k_is)
    (case c17 => k_is)
    (case k17 => k_is)
    (case a18 => k_is)
    (case l18 => k_is)
    (case c18 => k_is)
    (case k18 => k_is)
    (case a19 => k_is)
    (case l19 => k_is)
    (case c19 => k_is)
    (case k19 => k_is)
    (case a20 => k_is)
    (case l20 => k_is)
    (case c20 => k_is)
    (case k20 => k_is)
    (case a21 => k_is)
    (case l21 => k_is)
    (case c21 => k_is)
    (case k21 => k_is)
    (case a22 => k_is)
    (case l22 => k_is)
    (case c22 => k_is)
    (case k22 => k_is)
    (case a23 => k_is)
    (case l23 => k_is)
    (case c23 => k_is)
    (case k23 => k_is)
    (case a24 => k_is)
    (case l24 => k_is)
    (case c24 => k_is)
    (case k24 => k_is)
    (case a25 => k_is)
    (case l25 => k_is)
    (case c25 => k_is)
    (case k25 => k_is)
    (case a26 => k_is)
    (case l26 => k_is)
    (case c26 => k_is)
    (case k26 => k_is)
    (case a27 => k_is)
    (case l27 => k_is)
    (case c27 => k_is)
    (case k27 => k_is)
    (case a28 => k_is)
    (case l28 => k_is)
    (case c28 => k_is)
    (case k28 => k_is)
    (case a29 => k_is)
    (case l29 => k_is)
    (case c29 => k_is)
    (case k29 => k_is)
    (case a30 => k_is)
    (case l30 => k_is)
    (case c30 => k_is)
    (case k30 => k_is)
    (case a31 => k_is)
    (case l31 => k_is)
    (case c31 => k_is)
    (case k31 => k_is)
    (case a32 => k_is)
    (case l32 => k_is)
    (case c32 => k_is)
    (case k32 => k_is)
    (case ge1 => rfl)
    (case gl1 => k_is)
    (case gi1 => rfl)
    (case gh1 => kernel_rfl)
    (case ge4 => rfl)
    (case gl4 => k_is)
    (case gi4 => rfl)
    (case gh4 => kernel_rfl)
    (case ge5 => rfl)
    (case gl5 => k_is)
    (case gi5 => rfl)
    (case gh5 => kernel_rfl)
    (case n0 => k_is)
    (case n1 => k_is)
    (case z0 => k_is)
    (case z1 => k_is)
    (case z2 => k_is)
    (case z3 => k_is)
    (case z4 => k_is)
    (case z5 => k_is)
    (case z6 => k_is)
    (case z7 => k_is)
    (case z8 => k_is)
    (case z9 => k_is)
    (case z10 => k_is)
    (case z11 => k_is)
    (case z12 => k_is)
    (case z13 => k_is)
