import PyProof.Rows.All
import Wide.All
import OpenK.AllK
import Wide.FinOn
import HandS.ForMost
import HandS.Codes
import HandS.WideBits
import HandS.Deep
import HandS.TupAny
import HandS.SortInts
import HandS.IsInst
import HandS.Conv
import HandS.More
import HandS.Walk
import HandS.Style
import HandS.DictComp
import PyProof.DictUpdate
import KE.GoesMore
import KE.IntBitsLaws
import HandS.SortRule
import HandS.ListItems
import HandS.ExcOwn
import KE.KItemsList
import HandS.ExcSuper
import HandS.WordsExc
import HandS.TryMany
import KE.KExcSuper
import KE.KExcIs
import HandS.Flow
import HandS.Zip
import HandS.ExcIs
import HandS.ExcField
import HandS.SetFor
import HandS.Strs
import HandS.EndBits
import PySem.Challenge.RW_eatenorders_k40_whole_plays_counted_and
set_option Elab.async false
set_option linter.all false
set_option maxRecDepth 100000
-- Fw1
set_option maxHeartbeats 4000000
/-! Fw1: worlds, data, what a slot holds; judgements of expressions by data. -/
namespace G
open PySem PySem.Spec PyProof.Rows L2

/-! ### data -/
inductive D where
  | non | bl (b : Bool) | int (i : Int) | str (x : Str) | lst (xs : List D) | tup (xs : List D) | dct (ks : List Int) (vs : List D) | frd (ks : List Int) (vs : List D)

mutual
def Rp (F : Hp) : D → V → Prop
  | .non, v => v = .non
  | .bl b, v => v = .bl b
  | .int i, v => v = .int i
  | .str x, v => v = .str x
  | .lst ds, v => ∃ a xs, v = .ref a ∧ F a = some (.lst xs) ∧ RpA F ds xs
  | .tup ds, v => ∃ a xs, v = .ref a ∧ F a = some (.tup xs) ∧ RpA F ds xs
  | .dct ks ds, v => ∃ a ps, v = .ref a ∧ Rd F a (.dK ps) ∧ ps.map (·.1) = ks.map Sum.inl ∧ RpA F ds (ps.map (·.2))
  | .frd ks ds, v => ∃ a ps od, v = .ref a ∧ F a = some (.frz od (.dK ps)) ∧ ps.map (·.1) = ks.map Sum.inl ∧ RpA F ds (ps.map (·.2))
def RpA (F : Hp) : List D → List V → Prop
  | [], xs => xs = []
  | d :: ds, xs => ∃ v vs, xs = v :: vs ∧ Rp F d v ∧ RpA F ds vs
end
theorem rd_same {F F' : Hp} {a : Addr} {u : HO} (e : Same F F') (h : Rd F a u) : Rd F' a u := by
  rcases h with h | ⟨o, h⟩
  · exact .inl (e _ _ h)
  · exact .inr ⟨o, e _ _ h⟩
mutual
theorem Rp.mono {F F' : Hp} (e : Same F F') : ∀ (d : D) (v : V), Rp F d v → Rp F' d v
  | .non, _, h => h
  | .bl _, _, h => h
  | .int _, _, h => h
  | .str _, _, h => h
  | .lst ds, _, ⟨a, xs, hv, ha, hs⟩ => ⟨a, xs, hv, e _ _ ha, RpA.mono e ds xs hs⟩
  | .tup ds, _, ⟨a, xs, hv, ha, hs⟩ => ⟨a, xs, hv, e _ _ ha, RpA.mono e ds xs hs⟩
  | .dct ks ds, _, ⟨a, ps, hv, ha, hk, hs⟩ => ⟨a, ps, hv, rd_same e ha, hk, RpA.mono e ds _ hs⟩
  | .frd ks ds, _, ⟨a, ps, od, hv, ha, hk, hs⟩ => ⟨a, ps, od, hv, e _ _ ha, hk, RpA.mono e ds _ hs⟩
theorem RpA.mono {F F' : Hp} (e : Same F F') : ∀ (ds : List D) (vs : List V), RpA F ds vs → RpA F' ds vs
  | [], _, h => h
  | d :: ds, _, ⟨v, vs, hx, hd, hs⟩ => ⟨v, vs, hx, Rp.mono e d v hd, RpA.mono e ds vs hs⟩
end
theorem RpA.len {F : Hp} : ∀ {ds : List D} {vs : List V}, RpA F ds vs → vs.length = ds.length
  | [], _, h => by
    cases h
    rfl
  | d :: ds, _, ⟨v, vs, hx, hd, hs⟩ => by
    rw [hx, List.length_cons, List.length_cons, hs.len]
theorem RpA.get {F : Hp} : ∀ {ds : List D} {vs : List V} {i : Nat} {v : V}, RpA F ds vs → vs[i]? = some v → ∃ d, ds[i]? = some d ∧ Rp F d v
  | [], _, i, v, h, e => by
    cases h
    simp at e
  | d :: ds, _, 0, w, ⟨v, vs, hx, hd, hs⟩, e => by
    rw [hx] at e
    simp at e
    subst e
    exact ⟨d, rfl, hd⟩
  | d :: ds, _, i + 1, w, ⟨v, vs, hx, hd, hs⟩, e => by
    rw [hx] at e
    obtain ⟨d', h1, h2⟩ := RpA.get (i := i) (v := w) hs (by simpa using e)
    exact ⟨d', by simpa using h1, h2⟩
theorem RpA.get' {F : Hp} : ∀ {ds : List D} {vs : List V} {i : Nat} {d : D}, RpA F ds vs → ds[i]? = some d → ∃ v, vs[i]? = some v ∧ Rp F d v
  | [], _, i, v, h, e => by
    simp at e
  | d :: ds, _, 0, w, ⟨v, vs, hx, hd, hs⟩, e => by
    rw [hx]
    simp at e
    subst e
    exact ⟨v, rfl, hd⟩
  | d :: ds, _, i + 1, w, ⟨v, vs, hx, hd, hs⟩, e => by
    rw [hx]
    obtain ⟨d', h1, h2⟩ := RpA.get' (i := i) (d := w) hs (by simpa using e)
    exact ⟨d', by simpa using h1, h2⟩
theorem RpA.app {F : Hp} : ∀ {ds es : List D} {vs ws : List V}, RpA F ds vs → RpA F es ws → RpA F (ds ++ es) (vs ++ ws)
  | [], _, _, _, h, h' => by
    cases h
    exact h'
  | d :: ds, _, _, _, ⟨v, vs, hx, hd, hs⟩, h' => by
    subst hx
    exact ⟨v, _, rfl, hd, RpA.app hs h'⟩
theorem RpA.one {F : Hp} {d : D} {v : V} (h : Rp F d v) : RpA F [d] [v] := ⟨v, [], rfl, h, rfl⟩
theorem RpA.set {F : Hp} : ∀ {ds : List D} {vs : List V} {i : Nat} {d : D} {v : V}, RpA F ds vs → Rp F d v → RpA F (ds.set i d) (vs.set i v)
  | [], _, _, _, _, h, _ => by
    cases h
    rfl
  | _ :: ds, _, 0, d, w, ⟨v, vs, hx, hd, hs⟩, h' => by
    subst hx
    exact ⟨w, vs, rfl, h', hs⟩
  | _ :: ds, _, i + 1, d, w, ⟨v, vs, hx, hd, hs⟩, h' => by
    subst hx
    exact ⟨v, _, rfl, hd, RpA.set hs h'⟩
theorem RpA.take {F : Hp} : ∀ {ds : List D} {vs : List V} (n : Nat), RpA F ds vs → RpA F (ds.take n) (vs.take n)
  | _, _, 0, _ => by
    rw [List.take_zero, List.take_zero]
    exact rfl
  | [], _, _ + 1, h => by
    cases h
    rfl
  | _ :: ds, _, n + 1, ⟨v, vs, hx, hd, hs⟩ => by
    subst hx
    exact ⟨v, _, rfl, hd, RpA.take n hs⟩
theorem RpA.drop {F : Hp} : ∀ {ds : List D} {vs : List V} (n : Nat), RpA F ds vs → RpA F (ds.drop n) (vs.drop n)
  | _, _, 0, h => h
  | [], _, _ + 1, h => by
    cases h
    rfl
  | _ :: ds, _, n + 1, ⟨v, vs, hx, hd, hs⟩ => by
    subst hx
    exact RpA.drop n hs
theorem RpA.rev {F : Hp} : ∀ {ds : List D} {vs : List V}, RpA F ds vs → RpA F ds.reverse vs.reverse
  | [], _, h => by
    cases h
    rfl
  | d :: ds, _, ⟨v, vs, hx, hd, hs⟩ => by
    subst hx
    rw [List.reverse_cons, List.reverse_cons]
    exact RpA.app (RpA.rev hs) (.one hd)
theorem RpA.eraseIdx {F : Hp} : ∀ {ds : List D} {vs : List V} (n : Nat), RpA F ds vs → RpA F (ds.eraseIdx n) (vs.eraseIdx n)
  | [], _, _, h => by
    cases h
    rfl
  | _ :: ds, _, 0, ⟨v, vs, hx, hd, hs⟩ => by
    subst hx
    exact hs
  | _ :: ds, _, n + 1, ⟨v, vs, hx, hd, hs⟩ => by
    subst hx
    exact ⟨v, _, rfl, hd, RpA.eraseIdx n hs⟩
theorem RpA.ints {F : Hp} : ∀ {ns : List Int} {vs : List V}, RpA F (ns.map D.int) vs → vs = ns.map V.int
  | [], _, h => h
  | n :: ns, _, ⟨v, vs, hx, hd, hs⟩ => by
    subst hx
    rw [List.map_cons, ← RpA.ints hs]
    exact congrArg (· :: vs) hd
theorem RpA.ints_mk {F : Hp} : ∀ (ns : List Int), RpA F (ns.map D.int) (ns.map V.int)
  | [] => rfl
  | n :: ns => ⟨_, _, rfl, rfl, RpA.ints_mk ns⟩
theorem RpA.bls {F : Hp} : ∀ {ns : List Bool} {vs : List V}, RpA F (ns.map D.bl) vs → vs = ns.map V.bl
  | [], _, h => h
  | n :: ns, _, ⟨v, vs, hx, hd, hs⟩ => by
    subst hx
    rw [List.map_cons, ← RpA.bls hs]
    exact congrArg (· :: vs) hd
theorem RpA.ofP {F : Hp} : ∀ {ds : List D} {vs : List V}, vs.length = ds.length → (∀ (i : Nat) (d : D) (v : V), ds[i]? = some d → vs[i]? = some v → Rp F d v) → RpA F ds vs
  | [], [], _, _ => rfl
  | d :: ds, v :: vs, hl, h => ⟨v, vs, rfl, h 0 d v rfl rfl, RpA.ofP (by simpa using hl) fun i d' v' a b => h (i + 1) d' v' (by simpa using a) (by simpa using b)⟩
  | [], _ :: _, hl, _ => by simp at hl
  | _ :: _, [], hl, _ => by simp at hl

/-! ### worlds: F is what data stands on, H all that is tracked -/
structure Wd where
  F : Hp
  H : Hp
  ok : Same F H
/-- more is there, nothing has changed -/
structure Ext (W W2 : Wd) : Prop where
  h : Same W.H W2.H
  f : Same W.F W2.F
  n : ∀ a, W.F a = none → W2.F a ≠ none → W.H a = none
/-- .. but what stands at t -/
structure Le (t : Option Addr) (W W2 : Wd) : Prop where
  h : ∀ a o, W.H a = some o → some a ≠ t → W2.H a = some o
  f : Same W.F W2.F
  n : ∀ a, W.F a = none → W2.F a ≠ none → W.H a = none
/-- .. data alone -/
structure Grow (W W2 : Wd) : Prop where
  f : Same W.F W2.F
  n : ∀ a, W.F a = none → W2.F a ≠ none → W.H a = none
theorem Ext.refl (W : Wd) : Ext W W := ⟨fun _ _ h => h, fun _ _ h => h, fun _ h h' => (h' h).elim⟩
theorem Ext.trans {W W1 W2 : Wd} (a : Ext W W1) (b : Ext W1 W2) : Ext W W2 := ⟨a.h.trans b.h, a.f.trans b.f, fun c h1 h2 => by
  cases e : W1.F c with
  | none => exact a.h.free (b.n c e h2)
  | some o => exact a.n c h1 (by rw [e]; exact fun z => nomatch z)⟩
theorem Le.refl (t : Option Addr) (W : Wd) : Le t W W := ⟨fun _ _ h _ => h, fun _ _ h => h, fun _ h h' => (h' h).elim⟩
theorem Ext.le {W W2 : Wd} (t : Option Addr) (a : Ext W W2) : Le t W W2 := ⟨fun b o h _ => a.h b o h, a.f, a.n⟩
theorem Ext.grow {W W2 : Wd} (a : Ext W W2) : Grow W W2 := ⟨a.f, a.n⟩
theorem Le.grow {t : Option Addr} {W W2 : Wd} (a : Le t W W2) : Grow W W2 := ⟨a.f, a.n⟩
theorem Grow.refl (W : Wd) : Grow W W := ⟨fun _ _ h => h, fun _ h h' => (h' h).elim⟩
/-- t itself is there -/
def Tv (t : Option Addr) (W : Wd) : Prop := ∀ a, t = some a → W.F a = none ∧ ∃ o, W.H a = some o
theorem Le.free {t : Option Addr} {W W2 : Wd} (a : Le t W W2) (hv : Tv t W2) {c : Addr} (h : W2.H c = none) : W.H c = none := by
  cases e : W.H c with
  | none => rfl
  | some o =>
    by_cases hc : t = some c
    · obtain ⟨_, o', ho⟩ := hv c hc
      rw [ho] at h
      cases h
    · rw [a.h c o e (fun z => hc z.symm)] at h
      cases h
theorem Le.trans {t : Option Addr} {W W1 W2 : Wd} (a : Le t W W1) (hv : Tv t W1) (b : Le t W1 W2) : Le t W W2 := ⟨fun c o h ne => b.h c o (a.h c o h ne) ne, a.f.trans b.f, fun c h1 h2 => by
  cases e : W1.F c with
  | none => exact a.free hv (b.n c e h2)
  | some o => exact a.n c h1 (by rw [e]; exact fun z => nomatch z)⟩
theorem Le.ext {t : Option Addr} {W W1 W2 : Wd} (a : Le t W W1) (hv : Tv t W1) (b : Ext W1 W2) : Le t W W2 := a.trans hv (b.le t)
theorem Le.ext0 {W W2 : Wd} (a : Le none W W2) : Ext W W2 := ⟨fun c o h => a.h c o h (fun z => nomatch z), a.f, a.n⟩
theorem Tv.ext {t : Option Addr} {W W2 : Wd} (h : Tv t W) (e : Ext W W2) : Tv t W2 := fun a ha => by
  obtain ⟨h1, o, h2⟩ := h a ha
  refine ⟨?_, o, e.h a o h2⟩
  cases q : W2.F a with
  | none => rfl
  | some u =>
    have := e.n a h1 (by rw [q]; exact fun z => nomatch z)
    rw [h2] at this
    cases this
/-- an address that is not data stays so -/
theorem Ext.nf {W W2 : Wd} (e : Ext W W2) {a : Addr} {o : HO} (h1 : W.F a = none) (h2 : W.H a = some o) : W2.F a = none := by
  cases q : W2.F a with
  | none => rfl
  | some u =>
    have := e.n a h1 (by rw [q]; exact fun z => nomatch z)
    rw [h2] at this
    cases this

/-! ### owned objects, slots -/
inductive B where
  | L (xs : List D) | Dc (ks : List Int) (vs : List D)
inductive O where
  | one (b : B) | many (bs : List B)
inductive Slot where
  | un | pu (d : D) | ow (o : O) | vol (P : HO → Prop) | scr (ns : List Int)
def BR (F : Hp) (o : HO) : B → Prop
  | .L ds => ∃ xs, o = .lst xs ∧ RpA F ds xs
  | .Dc ks ds => ∃ ps, o = .dK ps ∧ ps.map (·.1) = ks.map Sum.inl ∧ RpA F ds (ps.map (·.2))
theorem BR.mono {F F' : Hp} (e : Same F F') {o : HO} : ∀ {b : B}, BR F o b → BR F' o b
  | .L _, ⟨xs, h, hs⟩ => ⟨xs, h, RpA.mono e _ _ hs⟩
  | .Dc _ _, ⟨ps, h, hk, hs⟩ => ⟨ps, h, hk, RpA.mono e _ _ hs⟩
def OwR (W : Wd) (own : Addr → Prop) : O → V → Prop
  | .one b, v => ∃ p o, v = .ref p ∧ own p ∧ W.H p = some o ∧ BR W.F o b
  | .many bs, v => ∃ p ps, v = .ref p ∧ own p ∧ (∀ q ∈ ps, own q) ∧ (p :: ps).Nodup ∧ W.H p = some (.lst (ps.map V.ref)) ∧ ps.length = bs.length ∧ ∀ (i : Nat) (q : Addr) (b : B), ps[i]? = some q → bs[i]? = some b → ∃ o, W.H q = some o ∧ BR W.F o b
theorem OwR.ext {W W2 : Wd} (e : Ext W W2) {own : Addr → Prop} : ∀ {o : O} {v : V}, OwR W own o v → OwR W2 own o v
  | .one b, v, ⟨p, o, h1, h2, h3, h4⟩ => ⟨p, o, h1, h2, e.h _ _ h3, h4.mono e.f⟩
  | .many bs, v, ⟨p, ps, h1, h2, h3, h4, h5, h6, h7⟩ => ⟨p, ps, h1, h2, h3, h4, e.h _ _ h5, h6, fun i q b a c => by
      obtain ⟨o, x, y⟩ := h7 i q b a c
      exact ⟨o, e.h _ _ x, y.mono e.f⟩⟩
def SlR (K : PySem.W.Frag) (t : Option Addr) (W : Wd) (own : Addr → Prop) : Slot → Option (Option V) → Prop
  | .un, _ => True
  | .pu d, x => ∃ v, x = some (some v) ∧ Rp W.F d v
  | .ow o, x => ∃ v, x = some (some v) ∧ OwR W own o v
  | .vol P, x => ∃ a o, x = some (some (.ref a)) ∧ t = some a ∧ W.H a = some o ∧ P o
  | .scr ns, x => ∃ a, x = some (some (.ref a)) ∧ SqL K W.F a (ns.map V.int)
theorem sql_same {K : PySem.W.Frag} {H H' : Hp} {a : Addr} {xs : List V} (e : Same H H') (h : SqL K H a xs) : SqL K H' a xs := e.seq h
theorem SlR.ext {K : PySem.W.Frag} {t : Option Addr} {W W2 : Wd} (e : Ext W W2) {own : Addr → Prop} : ∀ {s : Slot} {x : Option (Option V)}, SlR K t W own s x → SlR K t W2 own s x
  | .un, _, _ => trivial
  | .pu d, _, ⟨v, h1, h2⟩ => ⟨v, h1, h2.mono e.f⟩
  | .ow o, _, ⟨v, h1, h2⟩ => ⟨v, h1, h2.ext e⟩
  | .vol P, _, ⟨a, o, h1, h2, h3, h4⟩ => ⟨a, o, h1, h2, e.h _ _ h3, h4⟩
  | .scr ns, _, ⟨a, h1, h2⟩ => ⟨a, h1, sql_same e.f h2⟩
abbrev Ctx := List Slot
structure Env (K : PySem.W.Frag) (t : Option Addr) (W0 W : Wd) (σ : L2.St) (Γ : Ctx) : Prop where
  len : σ.length = Γ.length
  own : ∃ ow : Nat → Addr → Prop, (∀ i j a, ow i a → ow j a → i = j) ∧ (∀ i a, ow i a → W.F a = none ∧ W0.H a = none ∧ ∃ o, W.H a = some o) ∧ ∀ (i : Nat) (s : Slot), Γ[i]? = some s → SlR K t W (ow i) s (σ[i]?)
  tv0 : Tv t W0
  tv : Tv t W
theorem Env.ext {K : PySem.W.Frag} {t : Option Addr} {W0 W W2 : Wd} {σ : L2.St} {Γ : Ctx} (h : Env K t W0 W σ Γ) (e : Ext W W2) : Env K t W0 W2 σ Γ := by
  obtain ⟨hl, ⟨ow, h1, h2, h3⟩, ht0, ht⟩ := h
  refine ⟨hl, ⟨ow, h1, fun i a ha => ?_, fun i s hs => (h3 i s hs).ext e⟩, ht0, ht.ext e⟩
  obtain ⟨x, y, o, z⟩ := h2 i a ha
  exact ⟨e.nf x z, y, o, e.h _ _ z⟩
/-- a slot's data -/
theorem Env.pu {K : PySem.W.Frag} {t : Option Addr} {W0 W : Wd} {σ : L2.St} {Γ : Ctx} (h : Env K t W0 W σ Γ) {i : Nat} {d : D} (hi : Γ[i]? = some (.pu d)) : ∃ v, σ[i]? = some (some v) ∧ Rp W.F d v := by
  obtain ⟨_, ⟨ow, _, _, h3⟩, _, _⟩ := h
  exact h3 i _ hi
theorem Env.scr {K : PySem.W.Frag} {t : Option Addr} {W0 W : Wd} {σ : L2.St} {Γ : Ctx} (h : Env K t W0 W σ Γ) {i : Nat} {ns : List Int} (hi : Γ[i]? = some (.scr ns)) : ∃ a, σ[i]? = some (some (.ref a)) ∧ SqL K W.F a (ns.map V.int) := by
  obtain ⟨_, ⟨ow, _, _, h3⟩, _, _⟩ := h
  exact h3 i _ hi
theorem Env.vol {K : PySem.W.Frag} {t : Option Addr} {W0 W : Wd} {σ : L2.St} {Γ : Ctx} (h : Env K t W0 W σ Γ) {i : Nat} {P : HO → Prop} (hi : Γ[i]? = some (.vol P)) : ∃ a o, σ[i]? = some (some (.ref a)) ∧ t = some a ∧ W.H a = some o ∧ P o := by
  obtain ⟨_, ⟨ow, _, _, h3⟩, _, _⟩ := h
  exact h3 i _ hi
/-- a slot gets data -/
theorem Env.setPu {K : PySem.W.Frag} {t : Option Addr} {W0 W : Wd} {σ : L2.St} {Γ : Ctx} (h : Env K t W0 W σ Γ) (i : Nat) {d : D} {v : V} (hv : Rp W.F d v) : Env K t W0 W (σ.set i (some v)) (Γ.set i (.pu d)) := by
  obtain ⟨hl, ⟨ow, h1, h2, h3⟩, ht0, ht⟩ := h
  refine ⟨by rw [List.length_set, List.length_set, hl], ⟨fun j a => j ≠ i ∧ ow j a, fun j k a p q => h1 j k a p.2 q.2, fun j a p => h2 j a p.2, fun j s hs => ?_⟩, ht0, ht⟩
  by_cases e : i = j
  · subst e
    have hlt : i < (Γ.set i (.pu d)).length := (List.getElem?_eq_some_iff.mp hs).1
    rw [List.length_set] at hlt
    rw [List.getElem?_set_self hlt] at hs
    cases hs
    rw [List.getElem?_set_self (by rw [hl]; exact hlt)]
    exact ⟨v, rfl, hv⟩
  · rw [List.getElem?_set_ne e] at hs ⊢
    have q := h3 j s hs
    cases s with
    | un => trivial
    | pu d => exact q
    | vol P => exact q
    | scr ns => exact q
    | ow o =>
      obtain ⟨w, x, y⟩ := q
      refine ⟨w, x, ?_⟩
      cases o with
      | one b =>
        obtain ⟨p, o, y1, y2, y3, y4⟩ := y
        exact ⟨p, o, y1, ⟨fun z => e z.symm, y2⟩, y3, y4⟩
      | many bs =>
        obtain ⟨p, ps, y1, y2, y3, y4⟩ := y
        exact ⟨p, ps, y1, ⟨fun z => e z.symm, y2⟩, fun q hq => ⟨fun z => e z.symm, y3 q hq⟩, y4⟩
/-- less is known -/
def Slot.le : Slot → Slot → Prop := fun s s' => s' = .un ∨ s' = s
theorem Env.weak {K : PySem.W.Frag} {t : Option Addr} {W0 W : Wd} {σ : L2.St} {Γ Γ' : Ctx} (h : Env K t W0 W σ Γ) (hl : Γ'.length = Γ.length) (hw : ∀ (i : Nat) (s' : Slot), Γ'[i]? = some s' → s' = .un ∨ Γ[i]? = some s') : Env K t W0 W σ Γ' := by
  obtain ⟨hl', ⟨ow, h1, h2, h3⟩, ht0, ht⟩ := h
  refine ⟨by rw [hl', hl], ⟨ow, h1, h2, fun i s hs => ?_⟩, ht0, ht⟩
  rcases hw i s hs with e | e
  · subst e
    trivial
  · exact h3 i s e
end G
-- Fw2
set_option maxHeartbeats 4000000
/-! Fw2: expressions by data. -/
namespace G
open PySem PySem.Spec PyProof.Rows L2

/-! ### the weakest readings -/
@[irreducible] def wE (X : Cx) (e : Expr) : TE := fun σ H Q => ∀ (pins : List (Addr × Obj)) (s : Shared), Inv X pins σ H s → wpAny (model X.prog X.w) X.A (eval e X.env) (EP X pins σ Q) X.xe s
@[irreducible] def wT (X : Cx) (e : Expr) : TT := fun σ H Q => ∀ (pins : List (Addr × Obj)) (s : Shared), Inv X pins σ H s → wpAny (model X.prog X.w) X.A (isTrue e X.env (eval e X.env)) (TP X pins σ Q) X.xe s
@[irreducible] def wW (X : Cx) (e : Expr) : TT := fun σ H Q => ∀ (whole : Sem Value) (pins : List (Addr × Obj)) (s : Shared), Inv X pins σ H s → wpAny (model X.prog X.w) X.A (isTrue e X.env whole) (TP X pins σ Q) X.xe s
@[irreducible] def wA (X : Cx) (es : List Expr) : TA := fun σ H Q => ∀ (pos : Pos) (pins : List (Addr × Obj)) (s : Shared), Inv X pins σ H s → wpAny (model X.prog X.w) X.A (spliced (backTo pos (starEach es X.env))) (AP X pins σ Q) X.xe s
@[irreducible] def wS (X : Cx) (st : Stmt) : TS := fun D σ H => ∀ (pins : List (Addr × Obj)) (s : Shared), Inv X pins σ H s → wpAny (model X.prog X.w) X.A (exec st X.env) (SP X pins D) X.xe s
@[irreducible] def wSs (X : Cx) (st : List Stmt) : TS := fun D σ H => ∀ (pins : List (Addr × Obj)) (s : Shared), Inv X pins σ H s → wpAny (model X.prog X.w) X.A (execs st X.env) (SP X pins D) X.xe s
theorem pe_w (X : Cx) (e : Expr) : PE X e (wE X e) := ⟨fun pins s σ H Q I h => by unfold wE at h; exact h pins s I⟩
theorem pt_w (X : Cx) (e : Expr) : PT X e (wT X e) := ⟨fun pins s σ H Q I h => by unfold wT at h; exact h pins s I⟩
theorem pw_w (X : Cx) (e : Expr) : PW X e (wW X e) := ⟨fun whole pins s σ H Q I h => by unfold wW at h; exact h whole pins s I⟩
theorem pa_w (X : Cx) (es : List Expr) : PA X es (wA X es) := ⟨fun pos pins s σ H Q I h => by unfold wA at h; exact h pos pins s I⟩
theorem ps_w (X : Cx) (st : Stmt) : PS X st (wS X st) := ⟨fun pins s σ H Q I h => by unfold wS at h; exact h pins s I⟩
theorem pss_w (X : Cx) (st : List Stmt) : PSs X st (wSs X st) := ⟨fun pins s σ H Q I h => by unfold wSs at h; exact h pins s I⟩
section
variable {X : Cx} {σ : L2.St} {H : Hp}
theorem wE_of {e : Expr} {te : TE} {Q : VK} (h : PE X e te) (q : te σ H Q) : wE X e σ H Q := by unfold wE; exact fun pins s I => h.run pins s σ H Q I q
theorem wT_of {e : Expr} {te : TT} {Q : Bool → Hp → Prop} (h : PT X e te) (q : te σ H Q) : wT X e σ H Q := by unfold wT; exact fun pins s I => h.run pins s σ H Q I q
theorem wW_of {e : Expr} {Q : Bool → Hp → Prop} (h : ∀ (whole : Sem Value) (pins : List (Addr × Obj)) (s : Shared), Inv X pins σ H s → wpAny (model X.prog X.w) X.A (isTrue e X.env whole) (TP X pins σ Q) X.xe s) : wW X e σ H Q := by unfold wW; exact h
theorem wA_of {es : List Expr} {ta : TA} {Q : List V → Hp → Prop} (h : PA X es ta) (q : ta σ H Q) : wA X es σ H Q := by unfold wA; exact fun pos pins s I => h.run pos pins s σ H Q I q
theorem wS_of {st : Stmt} {t : TS} {De : Ends} (h : PS X st t) (q : t De σ H) : wS X st De σ H := by unfold wS; exact fun pins s I => h.run pins s σ H De I q
theorem wSs_of {st : List Stmt} {t : TS} {De : Ends} (h : PSs X st t) (q : t De σ H) : wSs X st De σ H := by unfold wSs; exact fun pins s I => h.run pins s σ H De I q
end

/-! ### what may be read now -/
def Rq (W : Wd) : D → V → Prop
  | .non, v => v = .non
  | .bl b, v => v = .bl b
  | .int i, v => v = .int i
  | .str x, v => v = .str x
  | .lst ds, v => ∃ a xs, v = .ref a ∧ W.H a = some (.lst xs) ∧ RpA W.F ds xs
  | .tup ds, v => ∃ a xs, v = .ref a ∧ W.F a = some (.tup xs) ∧ RpA W.F ds xs
  | .dct ks ds, v => ∃ a ps, v = .ref a ∧ Rd W.H a (.dK ps) ∧ ps.map (·.1) = ks.map Sum.inl ∧ RpA W.F ds (ps.map (·.2))
  | .frd ks ds, v => Rp W.F (.frd ks ds) v
theorem Rp.rq {W : Wd} : ∀ {d : D} {v : V}, Rp W.F d v → Rq W d v
  | .non, _, h => h
  | .bl _, _, h => h
  | .int _, _, h => h
  | .str _, _, h => h
  | .lst ds, _, ⟨a, xs, hv, ha, hs⟩ => ⟨a, xs, hv, W.ok _ _ ha, hs⟩
  | .tup ds, _, ⟨a, xs, hv, ha, hs⟩ => ⟨a, xs, hv, ha, hs⟩
  | .dct ks ds, _, ⟨a, ps, hv, ha, hk, hs⟩ => ⟨a, ps, hv, rd_same W.ok ha, hk, hs⟩
  | .frd ks ds, _, h => h
theorem Rq.ext {W W2 : Wd} (e : Ext W W2) : ∀ {d : D} {v : V}, Rq W d v → Rq W2 d v
  | .non, _, h => h
  | .bl _, _, h => h
  | .int _, _, h => h
  | .str _, _, h => h
  | .lst ds, _, ⟨a, xs, hv, ha, hs⟩ => ⟨a, xs, hv, e.h _ _ ha, hs.mono e.f⟩
  | .tup ds, _, ⟨a, xs, hv, ha, hs⟩ => ⟨a, xs, hv, e.f _ _ ha, hs.mono e.f⟩
  | .dct ks ds, _, ⟨a, ps, hv, ha, hk, hs⟩ => ⟨a, ps, hv, rd_same e.h ha, hk, hs.mono e.f⟩
  | .frd ks ds, _, h => Rp.mono e.f _ _ h

/-! ### judgements -/
abbrev VP := Wd → Wd → V → Prop
def Ev (X : Cx) (e : Expr) (Γ : Ctx) (P : VP) : Prop :=
  ∀ (t : Option Addr) (W0 W : Wd) (σ : L2.St), Le t W0 W → Env X.K t W0 W σ Γ → ∀ Q : VK, (∀ v W2, Ext W W2 → P W W2 v → Q v W2.H) → wE X e σ W.H Q
abbrev EvX (X : Cx) (e : Expr) (Γ : Ctx) (d : D) : Prop := Ev X e Γ fun _ W2 v => Rp W2.F d v
abbrev RdX (X : Cx) (e : Expr) (Γ : Ctx) (d : D) : Prop := Ev X e Γ fun _ W2 v => Rq W2 d v
/-- a new object of its own -/
def Fresh (b : B) : VP := fun W W2 v => ∃ p o, v = .ref p ∧ W2.F p = none ∧ W.H p = none ∧ W2.H p = some o ∧ BR W2.F o b
abbrev EvO (X : Cx) (e : Expr) (Γ : Ctx) (b : B) : Prop := Ev X e Γ (Fresh b)
def EvA (X : Cx) (es : List Expr) (Γ : Ctx) (ds : List D) : Prop :=
  ∀ (t : Option Addr) (W0 W : Wd) (σ : L2.St), Le t W0 W → Env X.K t W0 W σ Γ → ∀ Q : List V → Hp → Prop, (∀ vs W2, Ext W W2 → RpA W2.F ds vs → Q vs W2.H) → wA X es σ W.H Q
def EvT (X : Cx) (e : Expr) (Γ : Ctx) (b : Bool) : Prop :=
  ∀ (t : Option Addr) (W0 W : Wd) (σ : L2.St), Le t W0 W → Env X.K t W0 W σ Γ → ∀ Q : Bool → Hp → Prop, (∀ W2, Ext W W2 → Q b W2.H) → wT X e σ W.H Q
def EvW (X : Cx) (e : Expr) (Γ : Ctx) (b : Bool) : Prop :=
  ∀ (t : Option Addr) (W0 W : Wd) (σ : L2.St), Le t W0 W → Env X.K t W0 W σ Γ → ∀ Q : Bool → Hp → Prop, (∀ W2, Ext W W2 → Q b W2.H) → wW X e σ W.H Q
def B.d : B → D
  | .L xs => .lst xs
  | .Dc ks vs => .dct ks vs
theorem BR.rq {W : Wd} {p : Addr} {o : HO} (h : W.H p = some o) : ∀ {b : B}, BR W.F o b → Rq W b.d (.ref p)
  | .L ds, ⟨xs, e, hs⟩ => ⟨p, xs, rfl, by rw [h, e], hs⟩
  | .Dc ks ds, ⟨ps, e, hk, hs⟩ => ⟨p, ps, rfl, .inl (by rw [h, e]), hk, hs⟩
theorem BR.rp {F : Hp} {p : Addr} {o : HO} (h : F p = some o) : ∀ {b : B}, BR F o b → Rp F b.d (.ref p)
  | .L ds, ⟨xs, e, hs⟩ => ⟨p, xs, rfl, by rw [h, e], hs⟩
  | .Dc ks ds, ⟨ps, e, hk, hs⟩ => ⟨p, ps, rfl, .inl (by rw [h, e]), hk, hs⟩
/-- an own object becomes data -/
def Wd.put (W : Wd) (p : Addr) (o : HO) (h : W.H p = some o) : Wd := ⟨upd W.F p o, W.H, fun a u ha => by
  by_cases e : a = p
  · subst e
    rw [upd_same] at ha
    cases ha
    exact h
  · rw [upd_ne e] at ha
    exact W.ok _ _ ha⟩
theorem same_put {F : Hp} {p : Addr} {o : HO} (h : F p = none) : Same F (upd F p o) := fun a u ha => by
  rw [upd_ne (ne_of_none ha h)]
  exact ha
theorem Ext.put {W W2 : Wd} (e : Ext W W2) {p : Addr} {o : HO} (h : W2.H p = some o) (h1 : W2.F p = none) (h2 : W.H p = none) : Ext W (W2.put p o h) :=
  ⟨e.h, e.f.trans (same_put h1), fun a q1 q2 => by
    by_cases z : a = p
    · subst z
      exact h2
    · have q2' : upd W2.F p o a ≠ none := q2
      rw [upd_ne z] at q2'
      exact e.n a q1 q2'⟩
section
variable {X : Cx} {Γ : Ctx} {e a b c : Expr} {es : List Expr} {pos p : Pos} {d d1 d2 d3 : D}
theorem Ev.imp {P P' : VP} (h : Ev X e Γ P) (i : ∀ W W2 v, Ext W W2 → P W W2 v → P' W W2 v) : Ev X e Γ P' := fun t W0 W σ l E Q q => h t W0 W σ l E Q fun v W2 x y => q v W2 x (i _ _ _ x y)
theorem EvX.rd (h : EvX X e Γ d) : RdX X e Γ d := h.imp fun _ _ _ _ => Rp.rq
theorem EvO.rd {o : B} (h : EvO X e Γ o) : RdX X e Γ o.d := h.imp fun _ _ _ _ ⟨p, o, hv, _, _, h3, h4⟩ => by
  subst hv
  exact h4.rq h3
theorem EvO.ev {o : B} (h : EvO X e Γ o) : EvX X e Γ o.d := fun t W0 W σ l E Q q => h t W0 W σ l E Q fun v W2 x ⟨p, o, hv, h1, h2, h3, h4⟩ => by
  subst hv
  refine q _ (W2.put p o h3) (x.put h3 h1 h2) ((h4.mono (same_put h1)).rp ?_)
  exact upd_same
theorem Ev.eq {P : VP} {e' : Expr} (h : Ev X e Γ P) (q : e = e') : Ev X e' Γ P := q ▸ h
theorem EvX.to (h : EvX X e Γ d) (q : d = d1) : EvX X e Γ d1 := q ▸ h
theorem RdX.to (h : RdX X e Γ d) (q : d = d1) : RdX X e Γ d1 := q ▸ h
theorem EvT.to {k k' : Bool} (h : EvT X e Γ k) (q : k = k') : EvT X e Γ k' := q ▸ h
/-- constants -/
theorem x_int {i : Int} {j} : EvX X (.Constant (.int i) j pos) Γ (.int i) := fun t W0 W σ l E Q q => wE_of pe_int (q _ W (.refl _) rfl)
theorem x_bl {k : Bool} {j} : EvX X (.Constant (.bool k) j pos) Γ (.bl k) := fun t W0 W σ l E Q q => wE_of pe_bl (q _ W (.refl _) rfl)
theorem x_non {j} : EvX X (.Constant .none j pos) Γ .non := fun t W0 W σ l E Q q => wE_of pe_non (q _ W (.refl _) rfl)
theorem x_str {x : Str} {j} : EvX X (.Constant (.str x) j pos) Γ (.str x) := fun t W0 W σ l E Q q => wE_of pe_str (q _ W (.refl _) rfl)
/-- names -/
theorem x_nm (i : Nat) {x : Str} (hΓ : Γ[i]? = some (.pu d) := by rfl) (hN : X.N[i]? = some x := by rfl) (hv : Vis X.env.scope x := by first | exact Or.inl rfl | exact Or.inr (Or.inl rfl) | exact Or.inr (Or.inr rfl))
    (hd : (x == ("__debug__" : Str)) = false := by decide) (hcd : (x == ("__classdict__" : Str)) = false := by decide) : EvX X (.Name x pos) Γ d := fun t W0 W σ l E Q q => by
  obtain ⟨v, h1, h2⟩ := E.pu hΓ
  exact wE_of (pe_var hN hv hd hcd) ⟨v, h1, q v W (.refl _) h2⟩
theorem x_ow (i : Nat) {x : Str} {o : B} (hΓ : Γ[i]? = some (.ow (.one o)) := by rfl) (hN : X.N[i]? = some x := by rfl) (hv : Vis X.env.scope x := by first | exact Or.inl rfl | exact Or.inr (Or.inl rfl) | exact Or.inr (Or.inr rfl))
    (hd : (x == ("__debug__" : Str)) = false := by decide) (hcd : (x == ("__classdict__" : Str)) = false := by decide) : RdX X (.Name x pos) Γ o.d := fun t W0 W σ l E Q q => by
  obtain ⟨_, ⟨ow, _, _, h3⟩, _, _⟩ := E
  obtain ⟨v, h1, p, ob, hv2, _, h4, h5⟩ := h3 i _ hΓ
  subst hv2
  exact wE_of (pe_var hN hv hd hcd) ⟨_, h1, q _ W (.refl _) (h5.rq h4)⟩
/-- a global's int -/
theorem x_gi {x : Str} {u : Value} {i : Int} (hm : X.mg x = some u) (r : RelV (.int i) u) (hg : Gl X x := by rfl) (hd : (x == ("__debug__" : Str)) = false := by decide) : EvX X (.Name x pos) Γ (.int i) := fun t W0 W σ l E Q q => wE_of (pe_glob hg hm r hd) (q _ W (.refl _) rfl)

/-! ### operations on two values -/
def OpD (X : Cx) (f : Value → Value → Sem Value) (d1 d2 d : D) : Prop := ∃ r, OpR X f r ∧ ∀ (W : Wd) (v1 v2 : V), Rq W d1 v1 → Rq W d2 v2 → ∀ Q : VK, (∀ v W2, Ext W W2 → Rp W2.F d v → Q v W2.H) → r v1 v2 W.H Q
def OpO (X : Cx) (f : Value → Value → Sem Value) (d1 d2 : D) (o : B) : Prop := ∃ r, OpR X f r ∧ ∀ (W : Wd) (v1 v2 : V), Rq W d1 v1 → Rq W d2 v2 → ∀ Q : VK, (∀ v W2, Ext W W2 → Fresh o W W2 v → Q v W2.H) → r v1 v2 W.H Q
theorem x_op {op : Operator} (h1 : RdX X a Γ d1) (h2 : RdX X b Γ d2) (ho : OpD X (binaryOp op) d1 d2 d) : EvX X (.BinOp a op b pos) Γ d := fun t W0 W σ l E Q q => by
  obtain ⟨r, hr, hq⟩ := ho
  refine wE_of (pe_op hr (pe_w X a) (pe_w X b)) (h1 t W0 W σ l E _ fun v1 W1 e1 r1 => h2 t W0 W1 σ (l.ext E.tv e1) (E.ext e1) _ fun v2 W2 e2 r2 => ?_)
  exact hq W2 v1 v2 (r1.ext e2) r2 Q fun v W3 e3 r3 => q v W3 (e1.trans (e2.trans e3)) r3
theorem o_op {op : Operator} {o : B} (h1 : RdX X a Γ d1) (h2 : RdX X b Γ d2) (ho : OpO X (binaryOp op) d1 d2 o) : EvO X (.BinOp a op b pos) Γ o := fun t W0 W σ l E Q q => by
  obtain ⟨r, hr, hq⟩ := ho
  refine wE_of (pe_op hr (pe_w X a) (pe_w X b)) (h1 t W0 W σ l E _ fun v1 W1 e1 r1 => h2 t W0 W1 σ (l.ext E.tv e1) (E.ext e1) _ fun v2 W2 e2 r2 => ?_)
  refine hq W2 v1 v2 (r1.ext e2) r2 Q fun v W3 e3 r3 => q v W3 (e1.trans (e2.trans e3)) ?_
  obtain ⟨p, ob, hv, a1, a2, a3, a4⟩ := r3
  exact ⟨p, ob, hv, a1, (e1.trans e2).h.free a2, a3, a4⟩
theorem x_cmp {op : CmpOp} (h1 : RdX X a Γ d1) (h2 : RdX X b Γ d2) (ho : OpD X (compareOp op) d1 d2 d) (hm : behindInMarks op b = false := by first | exact nobehind _ (by decide) (by decide) | rfl) : EvX X (.Compare a [op] [b] pos) Γ d := fun t W0 W σ l E Q q => by
  obtain ⟨r, hr, hq⟩ := ho
  refine wE_of (pe_cmpR hr (pe_w X a) (pe_w X b) hm) (h1 t W0 W σ l E _ fun v1 W1 e1 r1 => h2 t W0 W1 σ (l.ext E.tv e1) (E.ext e1) _ fun v2 W2 e2 r2 => ?_)
  exact hq W2 v1 v2 (r1.ext e2) r2 Q fun v W3 e3 r3 => q v W3 (e1.trans (e2.trans e3)) r3
theorem t_cmp {op : CmpOp} {k : Bool} (h1 : RdX X a Γ d1) (h2 : RdX X b Γ d2) (ho : OpD X (compareOp op) d1 d2 (.bl k)) (hm : behindInMarks op b = false := by first | exact nobehind _ (by decide) (by decide) | rfl) : EvT X (.Compare a [op] [b] pos) Γ k := fun t W0 W σ l E Q q => by
  obtain ⟨r, hr, hq⟩ := ho
  refine wT_of (pt_cmpR hr (pe_w X a) (pe_w X b) hm) (h1 t W0 W σ l E _ fun v1 W1 e1 r1 => h2 t W0 W1 σ (l.ext E.tv e1) (E.ext e1) _ fun v2 W2 e2 r2 => ?_)
  refine hq W2 v1 v2 (r1.ext e2) r2 _ fun v W3 e3 r3 => ⟨k, r3, q W3 (e1.trans (e2.trans e3))⟩
theorem x_un {op : UnaryOp} {i j : Int} {r : V → Hp → VK → Prop} (hr : UnR X (unaryOp op) r) (hq : ∀ (H : Hp) (Q : VK), Q (.int j) H → r (.int i) H Q) (h : EvX X a Γ (.int i)) : EvX X (.UnaryOp op a pos) Γ (.int j) := fun t W0 W σ l E Q q =>
  wE_of (pe_un hr (pe_w X a)) (h t W0 W σ l E _ fun v W1 e1 r1 => by
    have r1 : v = .int i := r1
    subst r1
    exact hq _ _ (q _ W1 e1 rfl))
theorem x_neg {i : Int} (h : EvX X a Γ (.int i)) : EvX X (.UnaryOp .USub a pos) Γ (.int (-i)) := x_un un_neg (fun _ _ q => ⟨i, rfl, q⟩) h
theorem x_inv {i : Int} (h : EvX X a Γ (.int i)) : EvX X (.UnaryOp .Invert a pos) Γ (.int (Builtin.bitNot i)) := x_un un_inv (fun _ _ q => ⟨i, rfl, q⟩) h
section
variable {i j : Int}
theorem opd_0 {f : Value → Value → Sem Value} {g : Int → Int → V} {z : D} (ho : OpR X f (rI0 g)) (hz : ∀ F, Rp F z (g i j)) : OpD X f (.int i) (.int j) z := ⟨_, ho, fun W v1 v2 h1 h2 Q q => by
  cases h1
  cases h2
  exact ⟨i, j, rfl, rfl, q _ W (.refl _) (hz _)⟩⟩
theorem opd_I {f : Value → Value → Sem Value} {C : Int → Int → Prop} {g : Int → Int → V} {z : D} (ho : OpR X f (rI C g)) (hc : C i j) (hz : ∀ F, Rp F z (g i j)) : OpD X f (.int i) (.int j) z := ⟨_, ho, fun W v1 v2 h1 h2 Q q => by
  cases h1
  cases h2
  exact ⟨i, j, rfl, rfl, hc, q _ W (.refl _) (hz _)⟩⟩
theorem d_add : OpD X (binaryOp .Add) (.int i) (.int j) (.int (i + j)) := opd_0 op_add fun _ => rfl
theorem d_sub : OpD X (binaryOp .Sub) (.int i) (.int j) (.int (i - j)) := opd_0 op_sub fun _ => rfl
theorem d_and : OpD X (binaryOp .BitAnd) (.int i) (.int j) (.int (Builtin.bitAnd i j)) := opd_0 op_and fun _ => rfl
theorem d_or : OpD X (binaryOp .BitOr) (.int i) (.int j) (.int (Builtin.bitOr i j)) := opd_0 op_or fun _ => rfl
theorem d_mul (h : CMulX i j) : OpD X (binaryOp .Mult) (.int i) (.int j) (.int (i * j)) := opd_I op_mulX h fun _ => rfl
theorem d_mod (h : 0 < j) : OpD X (binaryOp .Mod) (.int i) (.int j) (.int (i % j)) := opd_I op_mod h fun _ => rfl
theorem d_fdiv (h : CDivW i j) : OpD X (binaryOp .FloorDiv) (.int i) (.int j) (.int (i / j)) := opd_I op_fdivW h fun _ => rfl
theorem d_shl (h : CShl i j) : OpD X (binaryOp .LShift) (.int i) (.int j) (.int (i * 2 ^ j.toNat)) := opd_I op_shlW h fun _ => rfl
theorem d_shr (h : 0 ≤ j) : OpD X (binaryOp .RShift) (.int i) (.int j) (.int (i / 2 ^ j.toNat)) := opd_I op_shr h fun _ => rfl
theorem d_pow (h : 0 ≤ j ∧ j ≤ 1000000 ∧ i.natAbs < 2 ^ 64) : OpD X (binaryOp .Pow) (.int i) (.int j) (.int (i ^ j.toNat)) := opd_I op_pow h fun _ => rfl
theorem d_lt : OpD X (compareOp .Lt) (.int i) (.int j) (.bl (decide (i < j))) := opd_0 op_lt fun _ => rfl
theorem d_le : OpD X (compareOp .LtE) (.int i) (.int j) (.bl (decide (i ≤ j))) := opd_0 op_le fun _ => rfl
theorem d_gt : OpD X (compareOp .Gt) (.int i) (.int j) (.bl (decide (j < i))) := opd_0 op_gt fun _ => rfl
theorem d_ge : OpD X (compareOp .GtE) (.int i) (.int j) (.bl (decide (j ≤ i))) := opd_0 op_ge fun _ => rfl
theorem d_eq : OpD X (compareOp .Eq) (.int i) (.int j) (.bl (decide (i = j))) := ⟨_, op_eq, fun W v1 v2 h1 h2 Q q => by
  cases h1
  cases h2
  refine ⟨rfl, ?_⟩
  have e : decide (V.int i = V.int j) = decide (i = j) := by
    by_cases z : i = j
    · subst z
      simp
    · have z2 : ¬ V.int i = V.int j := fun y => z (V.int.inj y)
      rw [decide_eq_false z, decide_eq_false z2]
  rw [e]
  exact q _ W (.refl _) rfl⟩
theorem d_ne : OpD X (compareOp .NotEq) (.int i) (.int j) (.bl (!decide (i = j))) := ⟨_, op_ne, fun W v1 v2 h1 h2 Q q => by
  cases h1
  cases h2
  refine ⟨rfl, ?_⟩
  have e : decide (V.int i = V.int j) = decide (i = j) := by
    by_cases z : i = j
    · subst z
      simp
    · have z2 : ¬ V.int i = V.int j := fun y => z (V.int.inj y)
      rw [decide_eq_false z, decide_eq_false z2]
  rw [e]
  exact q _ W (.refl _) rfl⟩
theorem d_eqB {k m : Bool} : OpD X (compareOp .Eq) (.bl k) (.bl m) (.bl (k == m)) := ⟨_, op_eq, fun W v1 v2 h1 h2 Q q => by
  cases h1
  cases h2
  refine ⟨rfl, ?_⟩
  have e : decide (V.bl k = V.bl m) = (k == m) := by cases k <;> cases m <;> rfl
  rw [e]
  exact q _ W (.refl _) rfl⟩
theorem d_neB {k m : Bool} : OpD X (compareOp .NotEq) (.bl k) (.bl m) (.bl (k != m)) := ⟨_, op_ne, fun W v1 v2 h1 h2 Q q => by
  cases h1
  cases h2
  refine ⟨rfl, ?_⟩
  have e : (!decide (V.bl k = V.bl m)) = (k != m) := by cases k <;> cases m <;> rfl
  rw [e]
  exact q _ W (.refl _) rfl⟩
theorem d_eqS {k m : Str} : OpD X (compareOp .Eq) (.str k) (.str m) (.bl (decide (k = m))) := ⟨_, op_eq, fun W v1 v2 h1 h2 Q q => by
  cases h1
  cases h2
  refine ⟨rfl, ?_⟩
  have e : decide (V.str k = V.str m) = decide (k = m) := by
    by_cases z : k = m
    · subst z
      simp
    · have z2 : ¬ V.str k = V.str m := fun y => z (V.str.inj y)
      rw [decide_eq_false z, decide_eq_false z2]
  rw [e]
  exact q _ W (.refl _) rfl⟩
end
/-- is None -/
def isNonD : D → Bool
  | .non => true
  | _ => false
theorem d_isN : OpD X (compareOp .Is) d .non (.bl (isNonD d)) := ⟨_, op_isN, fun W v1 v2 h1 h2 Q q => by
  cases h2
  refine ⟨rfl, ?_⟩
  have e : decide (v1 = V.non) = isNonD d := by
    cases d with
    | non =>
      cases h1
      rfl
    | bl b =>
      cases h1
      rfl
    | int b =>
      cases h1
      rfl
    | str b =>
      cases h1
      rfl
    | lst b =>
      obtain ⟨_, _, e, _⟩ := h1
      subst e
      rfl
    | tup b =>
      obtain ⟨_, _, e, _⟩ := h1
      subst e
      rfl
    | dct b c =>
      obtain ⟨_, _, e, _⟩ := h1
      subst e
      rfl
    | frd b c =>
      obtain ⟨_, _, _, e, _⟩ := h1
      subst e
      rfl
  rw [e]
  exact q _ W (.refl _) rfl⟩
/-- two comparisons in a chain -/
theorem x_chain {op op' : CmpOp} {k m : Bool} (h1 : EvX X a Γ d1) (h2 : EvX X b Γ d2) (ho : OpD X (compareOp op) d1 d2 (.bl k)) (h3 : k = true → EvX X c Γ d3) (ho' : k = true → OpD X (compareOp op') d2 d3 (.bl m)) (r' : R2) (hr' : OpR X (compareOp op') r')
    (hq' : k = true → ∀ (W : Wd) (v1 v2 : V), Rq W d2 v1 → Rq W d3 v2 → ∀ Q : VK, (∀ v W2, Ext W W2 → Rp W2.F (.bl m) v → Q v W2.H) → r' v1 v2 W.H Q)
    (hm : lastMarks [op, op'] [b, c] = false := by with_unfolding_all rfl) : EvX X (.Compare a [op, op'] [b, c] pos) Γ (.bl (k && m)) := fun t W0 W σ l E Q q => by
  obtain ⟨r, hr, hq⟩ := ho
  refine wE_of (pe_chain hr hr' (pe_w X a) (pe_w X b) (pe_w X c) hm) (h1 t W0 W σ l E _ fun v1 W1 e1 r1 => h2 t W0 W1 σ (l.ext E.tv e1) (E.ext e1) _ fun v2 W2 e2 r2 => ?_)
  refine hq W2 v1 v2 (r1.rq.ext e2) r2.rq _ fun v W3 e3 r3 => ⟨k, r3, ?_⟩
  have e13 := e1.trans (e2.trans e3)
  cases k with
  | false => exact iteF (q _ W3 e13 rfl)
  | true =>
    refine iteT (h3 rfl t W0 W3 σ (l.ext E.tv e13) (E.ext e13) _ fun v4 W4 e4 r4 => ?_)
    exact hq' rfl W4 v2 v4 (r2.rq.ext (e3.trans e4)) r4.rq Q fun v W5 e5 r5 => q v W5 (e13.trans (e4.trans e5)) r5
/-! ### and, or, not; tests -/
theorem x_one {op} {h : EvX X a Γ d} : EvX X (.BoolOp op [a] pos) Γ d := fun t W0 W σ l E Q q => wE_of (pe_one (pe_w X a)) (h t W0 W σ l E Q q)
theorem x_and {k m : Bool} (h1 : EvX X a Γ (.bl k)) (h2 : k = true → EvX X (.BoolOp .And (b :: es) pos) Γ (.bl m)) : EvX X (.BoolOp .And (a :: b :: es) pos) Γ (.bl (k && m)) := fun t W0 W σ l E Q q =>
  wE_of (pe_and (pe_w X a) (pe_w X _)) (h1 t W0 W σ l E _ fun v1 W1 e1 r1 => ⟨k, r1, by
    cases k with
    | false => exact iteF (q _ W1 e1 rfl)
    | true => exact iteT (h2 rfl t W0 W1 σ (l.ext E.tv e1) (E.ext e1) _ fun v W2 e2 r2 => q v W2 (e1.trans e2) r2)⟩)
theorem x_or {k m : Bool} (h1 : EvX X a Γ (.bl k)) (h2 : k = false → EvX X (.BoolOp .Or (b :: es) pos) Γ (.bl m)) : EvX X (.BoolOp .Or (a :: b :: es) pos) Γ (.bl (k || m)) := fun t W0 W σ l E Q q =>
  wE_of (pe_or (pe_w X a) (pe_w X _)) (h1 t W0 W σ l E _ fun v1 W1 e1 r1 => ⟨k, r1, by
    cases k with
    | true => exact iteT (q _ W1 e1 rfl)
    | false => exact iteF (h2 rfl t W0 W1 σ (l.ext E.tv e1) (E.ext e1) _ fun v W2 e2 r2 => q v W2 (e1.trans e2) r2)⟩)
theorem x_not {k : Bool} (h1 : EvX X a Γ (.bl k)) : EvX X (.UnaryOp .Not a pos) Γ (.bl (!k)) := fun t W0 W σ l E Q q =>
  wE_of (pe_not (pe_w X a)) (h1 t W0 W σ l E _ fun v1 W1 e1 r1 => ⟨k, r1, q _ W1 e1 rfl⟩)
theorem t_val {k : Bool} (h : EvX X e Γ (.bl k)) (he : ∀ whole, isTrue e X.env whole = (do let v ← whole; standAt e.pos; holding [v] (truthy v)) := by intro _; rfl) : EvT X e Γ k := fun t W0 W σ l E Q q =>
  wT_of (pt_val (pe_w X e) he) (h t W0 W σ l E _ fun v1 W1 e1 r1 => ⟨k, r1, q W1 e1⟩)
theorem t_not {k : Bool} (h : EvT X a Γ k) : EvT X (.UnaryOp .Not a pos) Γ (!k) := fun t W0 W σ l E Q q =>
  wT_of (pt_not (pt_w X a)) (h t W0 W σ l E _ fun W1 e1 => q W1 e1)
theorem EvW.t {k : Bool} (h : EvW X e Γ k) : EvT X e Γ k := fun t W0 W σ l E Q q => wT_of (PW.pt (pw_w X e)) (h t W0 W σ l E Q q)
theorem w_and1 {k : Bool} (h : EvT X a Γ k) : EvW X (.BoolOp .And [a] pos) Γ k := fun t W0 W σ l E Q q => by unfold wW; exact fun whole pins s I => (pw_and1 (pt_w X a)).run whole pins s σ W.H Q I (h t W0 W σ l E Q q)
theorem w_or1 {k : Bool} (h : EvT X a Γ k) : EvW X (.BoolOp .Or [a] pos) Γ k := fun t W0 W σ l E Q q => by unfold wW; exact fun whole pins s I => (pw_or1 (pt_w X a)).run whole pins s σ W.H Q I (h t W0 W σ l E Q q)
theorem w_and {k m : Bool} (h1 : EvT X a Γ k) (h2 : k = true → EvW X (.BoolOp .And (b :: es) pos) Γ m) : EvW X (.BoolOp .And (a :: b :: es) pos) Γ (k && m) := fun t W0 W σ l E Q q => wW_of fun whole pins s I =>
  (pw_and (pt_w X a) (pw_w X _)).run whole pins s σ W.H Q I (h1 t W0 W σ l E _ fun W1 e1 => by
    cases k with
    | false => exact iteF (q W1 e1)
    | true => exact iteT (h2 rfl t W0 W1 σ (l.ext E.tv e1) (E.ext e1) _ fun W2 e2 => q W2 (e1.trans e2)))
theorem w_or {k m : Bool} (h1 : EvT X a Γ k) (h2 : k = false → EvW X (.BoolOp .Or (b :: es) pos) Γ m) : EvW X (.BoolOp .Or (a :: b :: es) pos) Γ (k || m) := fun t W0 W σ l E Q q => wW_of fun whole pins s I =>
  (pw_or (pt_w X a) (pw_w X _)).run whole pins s σ W.H Q I (h1 t W0 W σ l E _ fun W1 e1 => by
    cases k with
    | true => exact iteT (q W1 e1)
    | false => exact iteF (h2 rfl t W0 W1 σ (l.ext E.tv e1) (E.ext e1) _ fun W2 e2 => q W2 (e1.trans e2)))
theorem x_if {k : Bool} {P : VP} (hP : ∀ W W1 W2 v, Ext W W1 → P W1 W2 v → P W W2 v) (h : EvT X c Γ k) (h1 : k = true → Ev X a Γ P) (h2 : k = false → Ev X b Γ P) : Ev X (.IfExp c a b pos) Γ P := fun t W0 W σ l E Q q =>
  wE_of (pe_ifExp (pt_w X c) (pe_w X a) (pe_w X b)) (h t W0 W σ l E _ fun W1 e1 => by
    cases k with
    | true => exact iteT (h1 rfl t W0 W1 σ (l.ext E.tv e1) (E.ext e1) _ fun v W2 e2 r2 => q v W2 (e1.trans e2) (hP _ _ _ _ e1 r2))
    | false => exact iteF (h2 rfl t W0 W1 σ (l.ext E.tv e1) (E.ext e1) _ fun v W2 e2 r2 => q v W2 (e1.trans e2) (hP _ _ _ _ e1 r2)))
theorem x_ifX {k : Bool} (h : EvT X c Γ k) (h1 : k = true → EvX X a Γ d) (h2 : k = false → EvX X b Γ d) : EvX X (.IfExp c a b pos) Γ d := x_if (fun _ _ _ _ _ h => h) h h1 h2
theorem x_ifO {k : Bool} {o : B} (h : EvT X c Γ k) (h1 : k = true → EvO X a Γ o) (h2 : k = false → EvO X b Γ o) : EvO X (.IfExp c a b pos) Γ o := x_if (fun _ _ _ _ e ⟨p, u, a1, a2, a3, a4⟩ => ⟨p, u, a1, a2, e.h.free a3, a4⟩) h h1 h2
/-! ### arguments, displays -/
theorem a_nil : EvA X [] Γ [] := fun t W0 W σ l E Q q => wA_of pa_nil (q _ W (.refl _) rfl)
theorem a_cons {ds : List D} (h : EvX X e Γ d) (hr : EvA X es Γ ds) (hs : starEach (e :: es) X.env = (false, eval e X.env) :: starEach es X.env := by rfl) : EvA X (e :: es) Γ (d :: ds) := fun t W0 W σ l E Q q =>
  wA_of (pa_cons (pe_w X e) (pa_w X es) hs) (h t W0 W σ l E _ fun v W1 e1 r1 => hr t W0 W1 σ (l.ext E.tv e1) (E.ext e1) _ fun vs W2 e2 r2 => q _ W2 (e1.trans e2) ⟨v, vs, rfl, r1.mono e2.f, r2⟩)
/-- a new object that nothing else knows -/
theorem lay {W : Wd} {p : Addr} {o : HO} (hp : W.H p = none) : ∃ W2 : Wd, W2.H = upd W.H p o ∧ W2.F = W.F ∧ Ext W W2 :=
  ⟨⟨W.F, upd W.H p o, W.ok.trans (same_put hp)⟩, rfl, rfl, ⟨same_put hp, fun _ _ h => h, fun _ h h' => (h' h).elim⟩⟩
theorem layF {W : Wd} {p : Addr} {o : HO} (hp : W.H p = none) : ∃ W2 : Wd, W2.H = upd W.H p o ∧ W2.F = upd W.F p o ∧ Ext W W2 := by
  have hf : W.F p = none := by
    cases e : W.F p with
    | none => rfl
    | some u =>
      rw [W.ok _ _ e] at hp
      cases hp
  refine ⟨⟨upd W.F p o, upd W.H p o, fun a u h => ?_⟩, rfl, rfl, ⟨same_put hp, same_put hf, fun a h h' => ?_⟩⟩
  · by_cases z : a = p
    · subst z
      rw [upd_same] at h ⊢
      exact h
    · rw [upd_ne z] at h ⊢
      exact W.ok _ _ h
  · by_cases z : a = p
    · subst z
      exact hp
    · have h2 : upd W.F p o a ≠ none := h'
      rw [upd_ne z] at h2
      exact (h2 h).elim
theorem F_none {W : Wd} {p : Addr} (hp : W.H p = none) : W.F p = none := by
  cases e : W.F p with
  | none => rfl
  | some u =>
    rw [W.ok _ _ e] at hp
    cases hp
theorem lst_fresh {W : Wd} {ds : List D} {xs : List V} {Q : VK} (h : RpA W.F ds xs) (q : ∀ v W2, Ext W W2 → Fresh (.L ds) W W2 v → Q v W2.H) : ∀ p, W.H p = none → Q (.ref p) (upd W.H p (.lst xs)) := fun p hp => by
  obtain ⟨W2, e1, e2, e3⟩ := lay (o := .lst xs) hp
  rw [← e1]
  exact q _ W2 e3 ⟨p, .lst xs, rfl, by rw [e2]; exact F_none hp, hp, by rw [e1]; exact upd_same, xs, rfl, by rw [e2]; exact h⟩
theorem tup_new {W : Wd} {ds : List D} {xs : List V} {Q : VK} (h : RpA W.F ds xs) (q : ∀ v W2, Ext W W2 → Rp W2.F (.tup ds) v → Q v W2.H) : ∀ p, W.H p = none → Q (.ref p) (upd W.H p (.tup xs)) := fun p hp => by
  obtain ⟨W2, e1, e2, e3⟩ := layF (o := .tup xs) hp
  rw [← e1]
  exact q _ W2 e3 ⟨p, xs, rfl, by rw [e2]; exact upd_same, by rw [e2]; exact h.mono (same_put (F_none hp))⟩
theorem Fresh.back {W W1 W2 : Wd} {o : B} {v : V} (e : Ext W W1) (h : Fresh o W1 W2 v) : Fresh o W W2 v := by
  obtain ⟨p, u, a1, a2, a3, a4⟩ := h
  exact ⟨p, u, a1, a2, e.h.free a3, a4⟩
theorem x_tup {ds : List D} {k : Nat} (h : EvA X es Γ ds) (hl : ds.length ≤ 100000 := by first | decide | (simp; done)) : EvX X (.Tuple es k pos) Γ (.tup ds) := fun t W0 W σ l E Q q =>
  wE_of (pe_tup (pa_w X es)) (h t W0 W σ l E _ fun vs W1 e1 r1 => ⟨by rw [r1.len]; exact Nat.le_trans hl (by decide), tup_new r1 fun v W2 e2 r2 => q v W2 (e1.trans e2) r2⟩)
theorem o_lst {ds : List D} (h : EvA X es Γ ds) (hl : ds.length ≤ 100000 := by first | decide | (simp; done)) : EvO X (.List es pos) Γ (.L ds) := fun t W0 W σ l E Q q =>
  wE_of (pe_lst (pa_w X es)) (h t W0 W σ l E _ fun vs W1 e1 r1 => ⟨by rw [r1.len]; exact Nat.le_trans hl (by decide), lst_fresh r1 fun v W2 e2 r2 => q v W2 (e1.trans e2) (r2.back e1)⟩)
theorem o_dct0 : EvO X (.Dict [] [] pos) Γ (.Dc [] []) := fun t W0 W σ l E Q q => wE_of pe_dnewK fun p hp => by
  obtain ⟨W2, e1, e2, e3⟩ := lay (o := .dK []) hp
  rw [← e1]
  exact q _ W2 e3 ⟨p, .dK [], rfl, by rw [e2]; exact F_none hp, hp, by rw [e1]; exact upd_same, [], rfl, rfl, rfl⟩
end
end G
-- Fw3
set_option maxHeartbeats 4000000
/-! Fw3: subscripts, in, dicts, calls of built-ins by data. -/
namespace G
open PySem PySem.Spec PyProof.Rows L2

/-- the names of built-ins that the module leaves alone -/
structure Bn (mg : Str → Option Value) : Prop where
  all : mg "all" = none
  abs : mg "abs" = none
  any : mg "any" = none
  bool : mg "bool" = none
  dict : mg "dict" = none
  enumerate : mg "enumerate" = none
  int : mg "int" = none
  isinstance : mg "isinstance" = none
  len : mg "len" = none
  list : mg "list" = none
  min : mg "min" = none
  range : mg "range" = none
  set : mg "set" = none
  sorted : mg "sorted" = none
  str : mg "str" = none
  sum : mg "sum" = none
  tuple : mg "tuple" = none
  zip : mg "zip" = none
  ValueError : mg "ValueError" = none

/-! ### what data says of items -/
theorem ixN_len {n m : Nat} (h : n = m) (i : Int) : ixN n i = ixN m i := by rw [h]
theorem atI_rp {F : Hp} {ds : List D} {xs : List V} (h : RpA F ds xs) {i : Int} {d : D} (e : atI ds i = some d) : ∃ v, atI xs i = some v ∧ Rp F d v := by
  unfold atI at e ⊢
  rw [h.len]
  cases q : ixN ds.length i with
  | none =>
    rw [q] at e
    cases e
  | some j =>
    rw [q] at e
    exact h.get' e
def dget : List Int → List D → Int → Option D
  | k :: ks, d :: ds, i => if k = i then some d else dget ks ds i
  | _, _, _ => none
theorem valV_rp {F : Hp} (i : Int) : ∀ {ks : List Int} {ds : List D} {ps : List (Key × V)}, ps.map (·.1) = ks.map Sum.inl → RpA F ds (ps.map (·.2)) →
    (match dget ks ds i with | some d => ∃ v, valV ps (Sum.inl i) = some v ∧ Rp F d v | none => valV ps (Sum.inl i) = none)
  | [], ds, ps, hk, hd => by
    have e : ps = [] := by
      cases ps with
      | nil => rfl
      | cons a b => cases hk
    subst e
    have e2 : dget [] ds i = none := by
      cases ds <;> rfl
    rw [e2]
    rfl
  | k :: ks, [], ps, hk, hd => by
    cases ps with
    | nil => cases hk
    | cons a b => cases hd
  | k :: ks, d :: ds, ps, hk, hd => by
    cases ps with
    | nil => cases hk
    | cons a b =>
      obtain ⟨v, vs, e, hv, hs⟩ := hd
      rw [List.map_cons] at e
      cases e
      have hk2 : a.1 :: b.map (·.1) = Sum.inl k :: ks.map Sum.inl := hk
      have e1 : a.1 = Sum.inl k := (List.cons.inj hk2).1
      have e2 := (List.cons.inj hk2).2
      have ih := valV_rp i e2 hs
      show (match (if k = i then some d else dget ks ds i) with | some d => ∃ v, valV (a :: b) (Sum.inl i) = some v ∧ Rp F d v | none => valV (a :: b) (Sum.inl i) = none)
      by_cases z : k = i
      · rw [if_pos z]
        exact ⟨a.2, valV_pos (by rw [e1, z]), hv⟩
      · rw [if_neg z, valV_neg (show ¬ a.1 = Sum.inl i from fun y => z (by rw [e1] at y; exact Sum.inl.inj y))]
        exact ih
theorem valV_some {F : Hp} {i : Int} {ks : List Int} {ds : List D} {ps : List (Key × V)} {d : D} (h1 : ps.map (·.1) = ks.map Sum.inl) (h2 : RpA F ds (ps.map (·.2))) (h : dget ks ds i = some d) : ∃ v, valV ps (Sum.inl i) = some v ∧ Rp F d v := by
  have q := valV_rp i h1 h2
  rw [h] at q
  exact q
theorem valV_none {F : Hp} {i : Int} {ks : List Int} {ds : List D} {ps : List (Key × V)} (h1 : ps.map (·.1) = ks.map Sum.inl) (h2 : RpA F ds (ps.map (·.2))) (h : dget ks ds i = none) : valV ps (Sum.inl i) = none := by
  have q := valV_rp i h1 h2
  rw [h] at q
  exact q
theorem valV_isSome {F : Hp} {i : Int} {ks : List Int} {ds : List D} {ps : List (Key × V)} (h1 : ps.map (·.1) = ks.map Sum.inl) (h2 : RpA F ds (ps.map (·.2))) : (valV ps (Sum.inl i)).isSome = (dget ks ds i).isSome := by
  cases e : dget ks ds i with
  | none =>
    rw [valV_none h1 h2 e]
    rfl
  | some d =>
    obtain ⟨v, hv, _⟩ := valV_some h1 h2 e
    rw [hv]
    rfl

section
variable {X : Cx} {Γ : Ctx} {e a b c : Expr} {es : List Expr} {pos p apos : Pos} {d d1 d2 d3 : D}
/-! ### subscripts -/
theorem x_ixL {ds : List D} {i : Int} (h1 : RdX X a Γ (.lst ds)) (h2 : EvX X b Γ (.int i)) (h : atI ds i = some d) (hs : PlainIx b := by exact fun _ _ => rfl) : EvX X (.Subscript a b pos) Γ d := fun t W0 W σ l E Q q =>
  wE_of (pe_ix ix_list (pe_w X a) (pe_w X b) hs) (h1 t W0 W σ l E _ fun v1 W1 e1 r1 => h2 t W0 W1 σ (l.ext E.tv e1) (E.ext e1) _ fun v2 W2 e2 r2 => by
    obtain ⟨p, xs, hv, hp, hx⟩ := r1.ext e2
    subst hv
    have r2 : v2 = .int i := r2
    subst r2
    obtain ⟨v, hv, rv⟩ := atI_rp hx h
    exact ⟨p, xs, i, v, rfl, rfl, SqL.of hp, hv, q v W2 (e1.trans e2) rv⟩)
theorem x_ixT {ds : List D} {i : Int} (h1 : RdX X a Γ (.tup ds)) (h2 : EvX X b Γ (.int i)) (h : atI ds i = some d) (hs : PlainIx b := by exact fun _ _ => rfl) : EvX X (.Subscript a b pos) Γ d := fun t W0 W σ l E Q q =>
  wE_of (pe_ix ix_tup (pe_w X a) (pe_w X b) hs) (h1 t W0 W σ l E _ fun v1 W1 e1 r1 => h2 t W0 W1 σ (l.ext E.tv e1) (E.ext e1) _ fun v2 W2 e2 r2 => by
    obtain ⟨p, xs, hv, hp, hx⟩ := r1.ext e2
    subst hv
    have r2 : v2 = .int i := r2
    subst r2
    obtain ⟨v, hv, rv⟩ := atI_rp hx h
    exact ⟨p, xs, i, v, rfl, rfl, SqT.of (W2.ok _ _ hp), hv, q v W2 (e1.trans e2) rv⟩)
theorem x_ixD {ks : List Int} {ds : List D} {i : Int} (hu : X.A.units + 1 < cLine) (h1 : RdX X a Γ (.dct ks ds)) (h2 : EvX X b Γ (.int i)) (h : dget ks ds i = some d) (hs : NoSl b := by exact fun _ _ => rfl) : EvX X (.Subscript a b pos) Γ d := fun t W0 W σ l E Q q =>
  wE_of (pe_dget hu (pe_w X a) (pe_w X b) hs) (h1 t W0 W σ l E _ fun v1 W1 e1 r1 => h2 t W0 W1 σ (l.ext E.tv e1) (E.ext e1) _ fun v2 W2 e2 r2 => by
    obtain ⟨p, ps, hv, hp, hk, hx⟩ := r1.ext e2
    subst hv
    have r2 : v2 = .int i := r2
    subst r2
    obtain ⟨v, hv, rv⟩ := valV_some hk hx h
    exact ⟨p, v, rfl, .inl ⟨ps, Sum.inl i, hp, rfl, hv.symm⟩, q v W2 (e1.trans e2) rv⟩)
/-- a[k], a script -/
theorem x_ixS (i : Nat) {x : Str} {ns : List Int} {k n : Int} (hΓ : Γ[i]? = some (.scr ns)) (h2 : EvX X b Γ (.int k)) (h : atI ns k = some n) (hN : X.N[i]? = some x := by rfl) (hv : Vis X.env.scope x := by first | exact Or.inl rfl | exact Or.inr (Or.inl rfl) | exact Or.inr (Or.inr rfl))
    (hd : (x == ("__debug__" : Str)) = false := by decide) (hcd : (x == ("__classdict__" : Str)) = false := by decide) (hs : PlainIx b := by exact fun _ _ => rfl) : EvX X (.Subscript (.Name x p) b pos) Γ (.int n) := fun t W0 W σ l E Q q => by
  obtain ⟨q0, h3, h4⟩ := E.scr hΓ
  refine wE_of (pe_ix ix_list (pe_var hN hv hd hcd) (pe_w X b) hs) ⟨_, h3, h2 t W0 W σ l E _ fun v2 W2 e2 r2 => ?_⟩
  have r2 : v2 = .int k := r2
  subst r2
  refine ⟨q0, ns.map V.int, k, .int n, rfl, rfl, sql_same W2.ok (sql_same e2.f h4), ?_, q _ W2 e2 rfl⟩
  unfold atI at h ⊢
  rw [List.length_map]
  cases z : ixN ns.length k with
  | none =>
    rw [z] at h
    cases h
  | some j =>
    rw [z] at h
    have h5 : ns[j]? = some n := h
    show (ns.map V.int)[j]? = some (.int n)
    rw [List.getElem?_map, h5]
    rfl
/-- len of a script -/
theorem x_lenS (T : Bn X.mg) (i : Nat) {x : Str} {ns : List Int} (hΓ : Γ[i]? = some (.scr ns)) (hN : X.N[i]? = some x := by rfl) (hv : Vis X.env.scope x := by first | exact Or.inl rfl | exact Or.inr (Or.inl rfl) | exact Or.inr (Or.inr rfl))
    (hd : (x == ("__debug__" : Str)) = false := by decide) (hcd : (x == ("__classdict__" : Str)) = false := by decide) (hg : Gl X "len" := by rfl) : EvX X (.Call (.Name "len" p) [.Name x apos] [] pos) Γ (.int (ns.length : Int)) := fun t W0 W σ l E Q q => by
  obtain ⟨q0, h3, h4⟩ := E.scr hΓ
  refine wE_of (pe_callB call_len_seq hg T.len boot_len (pa_cons (pe_var hN hv hd hcd) pa_nil)) ⟨_, h3, ⟨q0, ns.map V.int, rfl, .inl (sql_same W.ok h4), ?_⟩⟩
  rw [List.length_map]
  exact q _ W (.refl _) rfl
/-! ### slices -/
def EvP (X : Cx) (o : Option Expr) (Γ : Ctx) (z : Option Int) : Prop := (o = none ∧ z = none) ∨ ∃ e i, o = some e ∧ z = some i ∧ EvX X e Γ (.int i)
theorem p_none : EvP X none Γ none := .inl ⟨rfl, rfl⟩
theorem p_some {i : Int} (h : EvX X e Γ (.int i)) : EvP X (some e) Γ (some i) := .inr ⟨e, i, rfl, rfl, h⟩
theorem EvP.run {o : Option Expr} {z : Option Int} (h : EvP X o Γ z) : ∃ to, PO X o to ∧ ∀ (t : Option Addr) (W0 W : Wd) (σ : L2.St), Le t W0 W → Env X.K t W0 W σ Γ → ∀ Q : Option Int → Hp → Prop, (∀ W2, Ext W W2 → Q z W2.H) → to σ W.H Q := by
  rcases h with ⟨rfl, rfl⟩ | ⟨e, i, rfl, rfl, h⟩
  · exact ⟨_, po_none, fun t W0 W σ l E Q q => q W (.refl _)⟩
  · exact ⟨_, po_some (pe_w X e), fun t W0 W σ l E Q q => h t W0 W σ l E _ fun v W2 e2 r2 => ⟨i, r2, q W2 e2⟩⟩
def cutD {α : Type} (xs : List α) (lo hi : Option Int) : List α := (xs.drop (HT.sIx xs.length 0 lo)).take (HT.sIx xs.length xs.length hi - HT.sIx xs.length 0 lo)
theorem cut_rp {F : Hp} {ds : List D} {xs : List V} (h : RpA F ds xs) (lo hi : Option Int) : RpA F (cutD ds lo hi) (cutV xs lo hi) := by
  unfold cutD cutV
  rw [h.len]
  exact (h.drop _).take _
theorem cut_all {α : Type} {xs : List α} {lo hi : Option Int} (h : HT.sIx xs.length 0 lo = 0 ∧ HT.sIx xs.length xs.length hi = xs.length) : cutD xs lo hi = xs := by
  unfold cutD
  rw [h.1, h.2, List.drop_zero, Nat.sub_zero, List.take_length]
theorem x_slT {ds : List D} {lo hi : Option Expr} {zl zh : Option Int} {p2 : Pos} (h : RdX X a Γ (.tup ds)) (hl : EvP X lo Γ zl) (hh : EvP X hi Γ zh) : EvX X (.Subscript a (.Slice lo hi none p2) pos) Γ (.tup (cutD ds zl zh)) := fun t W0 W σ l E Q q => by
  obtain ⟨tl, pl, ql⟩ := hl.run
  obtain ⟨th, ph, qh⟩ := hh.run
  refine wE_of (pe_slice sl_tupA (pe_w X a) pl ph) (h t W0 W σ l E _ fun v1 W1 e1 r1 => ql t W0 W1 σ (l.ext E.tv e1) (E.ext e1) _ fun W2 e2 => qh t W0 W2 σ (l.ext E.tv (e1.trans e2)) (E.ext (e1.trans e2)) _ fun W3 e3 => ?_)
  obtain ⟨p, xs, hv, hp, hx⟩ := r1.ext (e2.trans e3)
  subst hv
  have e13 := e1.trans (e2.trans e3)
  refine ⟨p, xs, rfl, SqT.of (W3.ok _ _ hp), fun z => ?_, fun _ => tup_new (cut_rp hx zl zh) fun v W4 e4 r4 => q v W4 (e13.trans e4) r4⟩
  rw [hx.len] at z
  refine q _ W3 e13 ?_
  rw [cut_all z]
  exact ⟨p, xs, rfl, hp, hx⟩
theorem o_slS (i : Nat) {x : Str} {ns : List Int} {lo hi : Option Expr} {zl zh : Option Int} {p2 : Pos} (hΓ : Γ[i]? = some (.scr ns)) (hl : EvP X lo Γ zl) (hh : EvP X hi Γ zh) (hN : X.N[i]? = some x := by rfl) (hv : Vis X.env.scope x := by first | exact Or.inl rfl | exact Or.inr (Or.inl rfl) | exact Or.inr (Or.inr rfl))
    (hd : (x == ("__debug__" : Str)) = false := by decide) (hcd : (x == ("__classdict__" : Str)) = false := by decide) : EvO X (.Subscript (.Name x p) (.Slice lo hi none p2) pos) Γ (.L ((cutD ns zl zh).map D.int)) := fun t W0 W σ l E Q q => by
  obtain ⟨tl, pl, ql⟩ := hl.run
  obtain ⟨th, ph, qh⟩ := hh.run
  obtain ⟨q0, h3, h4⟩ := E.scr hΓ
  refine wE_of (pe_slice sl_list (pe_var hN hv hd hcd) pl ph) ⟨_, h3, ql t W0 W σ l E _ fun W2 e2 => qh t W0 W2 σ (l.ext E.tv e2) (E.ext e2) _ fun W3 e3 => ?_⟩
  have e13 := e2.trans e3
  refine ⟨q0, ns.map V.int, rfl, sql_same W3.ok (sql_same e13.f h4), lst_fresh ?_ fun v W4 e4 r4 => q v W4 (e13.trans e4) (r4.back e13)⟩
  have z : cutV (ns.map V.int) zl zh = (cutD ns zl zh).map V.int := by
    unfold cutV cutD
    rw [List.length_map, List.map_take, List.map_drop]
  rw [z]
  exact RpA.ints_mk _
/-! ### in -/
theorem inV_int {i : Int} : ∀ ns : List Int, inV (.int i) (ns.map V.int) = decide (i ∈ ns)
  | [] => by simp [inV]
  | n :: ns => by
    have ih := inV_int (i := i) ns
    unfold inV at ih ⊢
    rw [List.map_cons, List.any_cons, ih]
    show ((n == i) || decide (i ∈ ns)) = decide (i ∈ n :: ns)
    by_cases z : n = i
    · subst z
      simp
    · have z2 : (n == i) = false := by simpa using z
      have z3 : ¬ i = n := fun y => z y.symm
      rw [z2, Bool.false_or]
      simp [List.mem_cons, z3]
theorem flat_ints (ns : List Int) : (ns.map V.int).all flatV = true := by
  induction ns with
  | nil => rfl
  | cons n ns ih =>
    rw [List.map_cons, List.all_cons, ih]
    rfl
theorem d_inT {i : Int} {ns : List Int} : OpD X (compareOp .In) (.int i) (.tup (ns.map D.int)) (.bl (decide (i ∈ ns))) := ⟨_, op_in_seq, fun W v1 v2 h1 h2 Q q => by
  cases h1
  obtain ⟨p, xs, hv, hp, hx⟩ := h2
  subst hv
  have ex := hx.ints
  subst ex
  refine ⟨p, _, rfl, .inr (SqT.of (W.ok _ _ hp)), rfl, flat_ints ns, ?_⟩
  show Q (.bl (inV (.int i) (ns.map V.int))) W.H
  rw [inV_int]
  exact q _ W (.refl _) rfl⟩
theorem x_inD {ks : List Int} {ds : List D} {i : Int} (hu : X.A.units + 1 < cLine) (h2 : EvX X b Γ (.int i)) (h1 : RdX X a Γ (.dct ks ds)) (hm : behindInMarks .In a = false := by rfl) : EvX X (.Compare b [.In] [a] pos) Γ (.bl (dget ks ds i).isSome) := fun t W0 W σ l E Q q =>
  wE_of (pe_cmp (pc_din hu (pe_w X b) (pe_w X a)) hm) (h2 t W0 W σ l E _ fun v2 W1 e1 r2 => h1 t W0 W1 σ (l.ext E.tv e1) (E.ext e1) _ fun v1 W2 e2 r1 => by
    obtain ⟨p, ps, hv, hp, hk, hx⟩ := r1
    subst hv
    have r2 : v2 = .int i := r2
    subst r2
    refine ⟨p, valV ps (Sum.inl i), rfl, .inl ⟨ps, Sum.inl i, hp, rfl, rfl⟩, ?_⟩
    rw [valV_isSome hk hx]
    exact q _ W2 (e1.trans e2) rfl)
theorem x_niD {ks : List Int} {ds : List D} {i : Int} (hu : X.A.units + 1 < cLine) (h2 : EvX X b Γ (.int i)) (h1 : RdX X a Γ (.dct ks ds)) (hm : behindInMarks .NotIn a = false := by rfl) : EvX X (.Compare b [.NotIn] [a] pos) Γ (.bl (!(dget ks ds i).isSome)) := fun t W0 W σ l E Q q =>
  wE_of (pe_cmp (pc_dnotin hu (pe_w X b) (pe_w X a)) hm) (h2 t W0 W σ l E _ fun v2 W1 e1 r2 => h1 t W0 W1 σ (l.ext E.tv e1) (E.ext e1) _ fun v1 W2 e2 r1 => by
    obtain ⟨p, ps, hv, hp, hk, hx⟩ := r1
    subst hv
    have r2 : v2 = .int i := r2
    subst r2
    refine ⟨p, valV ps (Sum.inl i), rfl, .inl ⟨ps, Sum.inl i, hp, rfl, rfl⟩, ?_⟩
    rw [valV_isSome hk hx]
    exact q _ W2 (e1.trans e2) rfl)
theorem t_of_cmp {ops : List CmpOp} {cs : List Expr} {op : CmpOp} {te : TE} {k : Bool} (h : EvX X (.Compare b [op] [a] pos) Γ (.bl k)) (hp : ∃ te, PC X op b a te ∧ ∀ (t : Option Addr) (W0 W : Wd) (σ : L2.St), Le t W0 W → Env X.K t W0 W σ Γ → ∀ Q : VK, (∀ v W2, Ext W W2 → Rp W2.F (.bl k) v → Q v W2.H) → te σ W.H Q) (hm : behindInMarks op a = false) : EvT X (.Compare b [op] [a] pos) Γ k := fun t W0 W σ l E Q q => by
  obtain ⟨te, h1, h2⟩ := hp
  exact wT_of (pt_cmp h1 hm) (h2 t W0 W σ l E _ fun v W2 e2 r2 => ⟨k, r2, q W2 e2⟩)
theorem t_inD {ks : List Int} {ds : List D} {i : Int} (hu : X.A.units + 1 < cLine) (h2 : EvX X b Γ (.int i)) (h1 : RdX X a Γ (.dct ks ds)) (hm : behindInMarks .In a = false := by rfl) : EvT X (.Compare b [.In] [a] pos) Γ (dget ks ds i).isSome := fun t W0 W σ l E Q q =>
  wT_of (pt_cmp (pc_din hu (pe_w X b) (pe_w X a)) hm) (h2 t W0 W σ l E _ fun v2 W1 e1 r2 => h1 t W0 W1 σ (l.ext E.tv e1) (E.ext e1) _ fun v1 W2 e2 r1 => by
    obtain ⟨p, ps, hv, hp, hk, hx⟩ := r1
    subst hv
    have r2 : v2 = .int i := r2
    subst r2
    refine ⟨p, valV ps (Sum.inl i), rfl, .inl ⟨ps, Sum.inl i, hp, rfl, rfl⟩, _, rfl, ?_⟩
    rw [valV_isSome hk hx]
    exact q W2 (e1.trans e2))
theorem t_niD {ks : List Int} {ds : List D} {i : Int} (hu : X.A.units + 1 < cLine) (h2 : EvX X b Γ (.int i)) (h1 : RdX X a Γ (.dct ks ds)) (hm : behindInMarks .NotIn a = false := by rfl) : EvT X (.Compare b [.NotIn] [a] pos) Γ (!(dget ks ds i).isSome) := fun t W0 W σ l E Q q =>
  wT_of (pt_cmp (pc_dnotin hu (pe_w X b) (pe_w X a)) hm) (h2 t W0 W σ l E _ fun v2 W1 e1 r2 => h1 t W0 W1 σ (l.ext E.tv e1) (E.ext e1) _ fun v1 W2 e2 r1 => by
    obtain ⟨p, ps, hv, hp, hk, hx⟩ := r1
    subst hv
    have r2 : v2 = .int i := r2
    subst r2
    refine ⟨p, valV ps (Sum.inl i), rfl, .inl ⟨ps, Sum.inl i, hp, rfl, rfl⟩, _, rfl, ?_⟩
    rw [valV_isSome hk hx]
    exact q W2 (e1.trans e2))
/-! ### lists and tuples put together -/
theorem o_cat {ds es' : List D} (hz : ds.length + es'.length ≤ 100000) : OpO X (binaryOp .Add) (.lst ds) (.lst es') (.L (ds ++ es')) := ⟨_, op_cat, fun W v1 v2 h1 h2 Q q => by
  obtain ⟨p, xs, hv, hp, hx⟩ := h1
  obtain ⟨p', ys, hv', hp', hy⟩ := h2
  subst hv hv'
  exact ⟨p, p', xs, ys, rfl, rfl, hp, hp', by rw [hx.len, hy.len]; exact Nat.le_trans hz (by decide), lst_fresh (hx.app hy) q⟩⟩
theorem d_catT {ds es' : List D} (hz : ds.length + es'.length ≤ 100000) : OpD X (binaryOp .Add) (.tup ds) (.tup es') (.tup (ds ++ es')) := ⟨_, op_catA, fun W v1 v2 h1 h2 Q q => by
  obtain ⟨p, xs, hv, hp, hx⟩ := h1
  obtain ⟨p', ys, hv', hp', hy⟩ := h2
  subst hv hv'
  refine ⟨p, p', xs, ys, rfl, rfl, SqT.of (W.ok _ _ hp), SqT.of (W.ok _ _ hp'), by rw [hx.len, hy.len]; exact Nat.le_trans hz (by decide), fun z => ?_, fun _ z => ?_, fun _ _ => tup_new (hx.app hy) q⟩
  · subst z
    have : ds = [] := List.eq_nil_of_length_eq_zero (by rw [← hx.len]; rfl)
    subst this
    exact q _ W (.refl _) ⟨p', ys, rfl, hp', hy⟩
  · subst z
    have : es' = [] := List.eq_nil_of_length_eq_zero (by rw [← hy.len]; rfl)
    subst this
    exact q _ W (.refl _) ⟨p, xs, rfl, hp, by rw [List.append_nil]; exact hx⟩⟩
/-! ### calls of built-ins -/
theorem one_b {id : String} {x : Str} {r : List V → Hp → VK → Prop} {P : VP} (hc : CallR X (.builtin id) r) (hm : X.mg x = none) (hv : bootBuiltins x = some (.builtin id)) (hg : Gl X x) (h : RdX X e Γ d)
    (hP : ∀ W W1 W2 v, Ext W W1 → P W1 W2 v → P W W2 v)
    (hq : ∀ (W : Wd) (v : V), Rq W d v → ∀ Q : VK, (∀ v W2, Ext W W2 → P W W2 v → Q v W2.H) → r [v] W.H Q) (hn : x ≠ "__name__" := by decide) (hdb : (x == ("__debug__" : Str)) = false := by decide)
    (he : starEach [e] X.env = (false, eval e X.env) :: starEach [] X.env := by rfl) : Ev X (.Call (.Name x p) [e] [] pos) Γ P := fun t W0 W σ l E Q q =>
  wE_of (pe_callB hc hg hm hv (pa_cons (pe_w X e) pa_nil he) hn hdb he rfl) (h t W0 W σ l E _ fun v W1 e1 r1 => hq W1 v r1 Q fun v2 W2 e2 r2 => q v2 W2 (e1.trans e2) (hP _ _ _ _ e1 r2))
theorem one_t {T : String} {x : Str} {r : List V → Hp → VK → Prop} {P : VP} (hc : CallR X (.type T) r) (hm : X.mg x = none) (hv : bootBuiltins x = some (.type T)) (hg : Gl X x) (h : RdX X e Γ d)
    (hP : ∀ W W1 W2 v, Ext W W1 → P W1 W2 v → P W W2 v)
    (hq : ∀ (W : Wd) (v : V), Rq W d v → ∀ Q : VK, (∀ v W2, Ext W W2 → P W W2 v → Q v W2.H) → r [v] W.H Q) (hn : x ≠ "__name__" := by decide) (hdb : (x == ("__debug__" : Str)) = false := by decide)
    (he : starEach [e] X.env = (false, eval e X.env) :: starEach [] X.env := by rfl) : Ev X (.Call (.Name x p) [e] [] pos) Γ P := fun t W0 W σ l E Q q =>
  wE_of (pe_callTy hc hg hm hv (pa_cons (pe_w X e) pa_nil he) hn hdb he rfl) (h t W0 W σ l E _ fun v W1 e1 r1 => hq W1 v r1 Q fun v2 W2 e2 r2 => q v2 W2 (e1.trans e2) (hP _ _ _ _ e1 r2))
theorem rp_same {d : D} : ∀ W W1 W2 v, Ext W W1 → (fun (_ W2 : Wd) v => Rp W2.F d v) W1 W2 v → (fun (_ W2 : Wd) v => Rp W2.F d v) W W2 v := fun _ _ _ _ _ h => h
theorem fr_same {o : B} : ∀ W W1 W2 v, Ext W W1 → Fresh o W1 W2 v → Fresh o W W2 v := fun _ _ _ _ e h => h.back e
theorem x_lenL (T : Bn X.mg) {ds : List D} (h : RdX X e Γ (.lst ds)) (hg : Gl X "len" := by rfl) (he : starEach [e] X.env = (false, eval e X.env) :: starEach [] X.env := by rfl) : EvX X (.Call (.Name "len" p) [e] [] pos) Γ (.int (ds.length : Int)) :=
  one_b call_len_seq T.len boot_len hg h rp_same (fun W v r Q q => by
    obtain ⟨p, xs, hv, hp, hx⟩ := r
    subst hv
    refine ⟨p, xs, rfl, .inl (SqL.of hp), ?_⟩
    rw [hx.len]
    exact q _ W (.refl _) rfl) (by decide) (by decide) he
theorem x_lenT (T : Bn X.mg) {ds : List D} (h : RdX X e Γ (.tup ds)) (hg : Gl X "len" := by rfl) (he : starEach [e] X.env = (false, eval e X.env) :: starEach [] X.env := by rfl) : EvX X (.Call (.Name "len" p) [e] [] pos) Γ (.int (ds.length : Int)) :=
  one_b call_len_seq T.len boot_len hg h rp_same (fun W v r Q q => by
    obtain ⟨p, xs, hv, hp, hx⟩ := r
    subst hv
    refine ⟨p, xs, rfl, .inr (SqT.of (W.ok _ _ hp)), ?_⟩
    rw [hx.len]
    exact q _ W (.refl _) rfl) (by decide) (by decide) he
theorem x_sum (T : Bn X.mg) (hcl : X.calm = true) {ns : List Int} (h : RdX X e Γ (.lst (ns.map D.int))) (hg : Gl X "sum" := by rfl) (he : starEach [e] X.env = (false, eval e X.env) :: starEach [] X.env := by rfl) : EvX X (.Call (.Name "sum" p) [e] [] pos) Γ (.int ns.sum) :=
  one_b (cr_sum hcl) T.sum boot_sum hg h rp_same (fun W v r Q q => by
    obtain ⟨p, xs, hv, hp, hx⟩ := r
    subst hv
    have ex := hx.ints
    subst ex
    exact ⟨p, ns, rfl, SqL.of hp, q _ W (.refl _) rfl⟩) (by decide) (by decide) he
theorem x_all (T : Bn X.mg) (hcl : X.calm = true) {bs : List Bool} (h : RdX X e Γ (.lst (bs.map D.bl))) (hg : Gl X "all" := by rfl) (he : starEach [e] X.env = (false, eval e X.env) :: starEach [] X.env := by rfl) : EvX X (.Call (.Name "all" p) [e] [] pos) Γ (.bl (bs.all id)) :=
  one_b (cr_all hcl) T.all boot_all hg h rp_same (fun W v r Q q => by
    obtain ⟨p, xs, hv, hp, hx⟩ := r
    subst hv
    have ex := hx.bls
    subst ex
    exact ⟨p, bs, rfl, SqL.of hp, q _ W (.refl _) rfl⟩) (by decide) (by decide) he
theorem x_any (T : Bn X.mg) (hcl : X.calm = true) {bs : List Bool} (h : RdX X e Γ (.lst (bs.map D.bl))) (hg : Gl X "any" := by rfl) (he : starEach [e] X.env = (false, eval e X.env) :: starEach [] X.env := by rfl) (hb : bootBuiltins "any" = some (.builtin "any") := by decide +kernel) : EvX X (.Call (.Name "any" p) [e] [] pos) Γ (.bl (bs.any id)) :=
  one_b (cr_any hcl) T.any hb hg h rp_same (fun W v r Q q => by
    obtain ⟨p, xs, hv, hp, hx⟩ := r
    subst hv
    have ex := hx.bls
    subst ex
    exact ⟨p, bs, rfl, SqL.of hp, q _ W (.refl _) rfl⟩) (by decide) (by decide) he
theorem perm_sorted : ∀ {l m : List Int}, l.Perm m → l.Pairwise (· ≤ ·) → m.Pairwise (· ≤ ·) → l = m
  | [], m, h, _, _ => by rw [List.nil_perm.mp h]
  | a :: l, [], h, _, _ => by
    have := h.length_eq
    simp at this
  | a :: l, b :: m, h, h1, h2 => by
    have ha := (List.pairwise_cons.mp h1).1
    have hb := (List.pairwise_cons.mp h2).1
    have x1 : a ≤ b := by
      have : b ∈ a :: l := h.symm.subset List.mem_cons_self
      rcases List.mem_cons.mp this with e | e
      · omega
      · exact ha b e
    have x2 : b ≤ a := by
      have : a ∈ b :: m := h.subset List.mem_cons_self
      rcases List.mem_cons.mp this with e | e
      · omega
      · exact hb a e
    have e : a = b := by omega
    subst e
    rw [perm_sorted ((List.perm_cons a).mp h) (List.pairwise_cons.mp h1).2 (List.pairwise_cons.mp h2).2]
theorem o_sorted (T : Bn X.mg) {ns ms : List Int} (h : RdX X e Γ (.lst (ns.map D.int))) (hp : ms.Perm ns) (hs : ms.Pairwise (· ≤ ·)) (hg : Gl X "sorted" := by rfl) (he : starEach [e] X.env = (false, eval e X.env) :: starEach [] X.env := by rfl) : EvO X (.Call (.Name "sorted" p) [e] [] pos) Γ (.L (ms.map D.int)) :=
  one_b cr_sortedI T.sorted boot_sorted hg h fr_same (fun W v r Q q => by
    obtain ⟨p, xs, hv, hp2, hx⟩ := r
    subst hv
    have ex := hx.ints
    subst ex
    refine ⟨p, ns, rfl, SqL.of hp2, fun ns' p2 h1 h2 h3 => ?_⟩
    have e2 : ns' = ms := perm_sorted (h1.trans hp.symm) h2 hs
    subst e2
    exact lst_fresh (RpA.ints_mk _) q p2 h3) (by decide) (by decide) he
theorem o_sortedD (T : Bn X.mg) (hcl : X.calm = true) {ks ms : List Int} {ds : List D} (h : RdX X e Γ (.dct ks ds)) (hl : ks.length < 64) (hp : ms.Perm ks) (hs : ms.Pairwise (· ≤ ·)) (hg : Gl X "sorted" := by rfl) (he : starEach [e] X.env = (false, eval e X.env) :: starEach [] X.env := by rfl) : EvO X (.Call (.Name "sorted" p) [e] [] pos) Γ (.L (ms.map D.int)) :=
  one_b (call_sortedDI hcl) T.sorted boot_sorted hg h fr_same (fun W v r Q q => by
    obtain ⟨p, ps, hv, hp2, hk, hx⟩ := r
    subst hv
    refine ⟨p, ps, ks, rfl, hp2, hk, hl, fun ns' p2 h1 h2 h3 => ?_⟩
    have e2 : ns' = ms := perm_sorted (h1.trans hp.symm) h2 hs
    subst e2
    exact lst_fresh (RpA.ints_mk _) q p2 h3) (by decide) (by decide) he
theorem x_tupleL (T : Bn X.mg) {ds : List D} (h : RdX X e Γ (.lst ds)) (hg : Gl X "tuple" := by rfl) (he : starEach [e] X.env = (false, eval e X.env) :: starEach [] X.env := by rfl) : EvX X (.Call (.Name "tuple" p) [e] [] pos) Γ (.tup ds) :=
  one_t call_tuple_of T.tuple boot_tuple hg h rp_same (fun W v r Q q => by
    obtain ⟨p, xs, hv, hp, hx⟩ := r
    subst hv
    exact ⟨p, xs, rfl, .inl ⟨SqL.of hp, tup_new hx q⟩⟩) (by decide) (by decide) he
theorem o_listL (T : Bn X.mg) {ds : List D} (h : RdX X e Γ (.lst ds)) (hg : Gl X "list" := by rfl) (he : starEach [e] X.env = (false, eval e X.env) :: starEach [] X.env := by rfl) : EvO X (.Call (.Name "list" p) [e] [] pos) Γ (.L ds) :=
  one_t call_list_of T.list boot_list hg h fr_same (fun W v r Q q => by
    obtain ⟨p, xs, hv, hp, hx⟩ := r
    subst hv
    exact ⟨p, xs, rfl, .inl (SqL.of hp), lst_fresh hx q⟩) (by decide) (by decide) he
theorem o_listT (T : Bn X.mg) {ds : List D} (h : RdX X e Γ (.tup ds)) (hg : Gl X "list" := by rfl) (he : starEach [e] X.env = (false, eval e X.env) :: starEach [] X.env := by rfl) : EvO X (.Call (.Name "list" p) [e] [] pos) Γ (.L ds) :=
  one_t call_list_of T.list boot_list hg h fr_same (fun W v r Q q => by
    obtain ⟨p, xs, hv, hp, hx⟩ := r
    subst hv
    exact ⟨p, xs, rfl, .inr (SqT.of (W.ok _ _ hp)), lst_fresh hx q⟩) (by decide) (by decide) he
theorem x_intI (T : Bn X.mg) {i : Int} (h : RdX X e Γ (.int i)) (hg : Gl X "int" := by rfl) (he : starEach [e] X.env = (false, eval e X.env) :: starEach [] X.env := by rfl) : EvX X (.Call (.Name "int" p) [e] [] pos) Γ (.int i) :=
  one_t call_int1 T.int boot_int hg h rp_same (fun W v r Q q => by
    cases r
    exact .inl ⟨i, rfl, q _ W (.refl _) rfl⟩) (by decide) (by decide) he
theorem x_intB (T : Bn X.mg) {k : Bool} (h : RdX X e Γ (.bl k)) (hg : Gl X "int" := by rfl) (he : starEach [e] X.env = (false, eval e X.env) :: starEach [] X.env := by rfl) : EvX X (.Call (.Name "int" p) [e] [] pos) Γ (.int (if k then 1 else 0)) :=
  one_t call_int1 T.int boot_int hg h rp_same (fun W v r Q q => by
    cases r
    exact .inr ⟨k, rfl, q _ W (.refl _) rfl⟩) (by decide) (by decide) he
theorem x_abs (T : Bn X.mg) {i : Int} (h : RdX X e Γ (.int i)) (hg : Gl X "abs" := by rfl) (he : starEach [e] X.env = (false, eval e X.env) :: starEach [] X.env := by rfl) : EvX X (.Call (.Name "abs" p) [e] [] pos) Γ (.int (if i < 0 then -i else i)) :=
  one_b call_abs T.abs boot_abs hg h rp_same (fun W v r Q q => by
    cases r
    exact ⟨i, rfl, q _ W (.refl _) rfl⟩) (by decide) (by decide) he
theorem x_min2 (T : Bn X.mg) (hcl : X.calm = true) {i j : Int} (h1 : EvX X a Γ (.int i)) (h2 : EvX X b Γ (.int j)) (hg : Gl X "min" := by rfl) (he : starEach [a, b] X.env = (false, eval a X.env) :: starEach [b] X.env := by rfl) (he2 : starEach [b] X.env = (false, eval b X.env) :: starEach [] X.env := by rfl)
    (hpl : (backTo pos (starEach [b] X.env)).any (·.1) = false := by rfl) : EvX X (.Call (.Name "min" p) [a, b] [] pos) Γ (.int (if j < i then j else i)) := fun t W0 W σ l E Q q =>
  wE_of (pe_callB (call_min2 hcl) hg T.min boot_min (pa_cons (pe_w X a) (pa_cons (pe_w X b) pa_nil he2) he) (by decide) (by decide) he hpl) (h1 t W0 W σ l E _ fun v1 W1 e1 r1 => h2 t W0 W1 σ (l.ext E.tv e1) (E.ext e1) _ fun v2 W2 e2 r2 => by
    have r1 : v1 = .int i := r1
    have r2 : v2 = .int j := r2
    subst r1 r2
    exact ⟨i, j, rfl, q _ W2 (e1.trans e2) rfl⟩)
/-! ### isinstance -/
def tyD : D → String
  | .non => "NoneType"
  | .bl _ => "bool"
  | .int _ => "int"
  | .str _ => "str"
  | .lst _ => "list"
  | .tup _ => "tuple"
  | .dct _ _ => "dict"
  | .frd _ _ => "dict"
theorem Rq.ty {K : PySem.W.Frag} {W : Wd} : ∀ {d : D} {v : V}, Rq W d v → TyX K W.H v (.type (tyD d))
  | .non, _, h => by cases h; exact .base .non
  | .bl b, _, h => by cases h; exact .base (.bl b)
  | .int i, _, h => by cases h; exact .base (.int i)
  | .str i, _, h => by cases h; exact .base (.str i)
  | .lst ds, _, ⟨a, xs, hv, hp, _⟩ => by subst hv; exact .base (.lst hp)
  | .tup ds, _, ⟨a, xs, hv, hp, _⟩ => by subst hv; exact .base (.tup (W.ok _ _ hp))
  | .dct ks ds, _, ⟨a, ps, hv, hp, _⟩ => by
    subst hv
    rcases hp with hp | ⟨o, hp⟩
    · exact .base (.dK hp)
    · exact .fDict hp
  | .frd ks ds, _, ⟨a, xs, od, hv, hp, _⟩ => by
    subst hv
    exact .fDict (W.ok _ _ hp)
theorem x_isi (T : Bn X.mg) {x : Str} {n : String} {r : Bool} (h : RdX X e Γ d) (hx : bootBuiltins x = some (.type n)) (hm : X.mg x = none) (hk : kitB (tyD d) n = some r) (hg : Gl X "isinstance" := by rfl) (hgx : Gl X x := by rfl) (hn : x ≠ "__name__" := by decide) (hdb : (x == ("__debug__" : Str)) = false := by decide)
    (he : starEach [e, .Name x apos] X.env = (false, eval e X.env) :: starEach [.Name x apos] X.env := by rfl) : EvX X (.Call (.Name "isinstance" p) [e, .Name x apos] [] pos) Γ (.bl r) := fun t W0 W σ l E Q q =>
  wE_of (pe_callB call_isi hg T.isinstance boot_isinstance (pa_cons (pe_w X e) (pa_cons (pe_bltn (v := .ty n) hgx hm hx rfl hn hdb) pa_nil) he) (by decide) (by decide) he rfl) (h t W0 W σ l E _ fun v W1 e1 r1 =>
    ⟨v, .ty n, _, _, r, rfl, .ty n, r1.ty, kit_ty hk, q _ W1 e1 rfl⟩)
theorem x_isi2 (T : Bn X.mg) {x y : Str} {n m : String} {r : Bool} {tk : Nat} {tpos xp yp : Pos} (h : RdX X e Γ d) (hx : bootBuiltins x = some (.type n)) (hm : X.mg x = none) (hy : bootBuiltins y = some (.type m)) (hmy : X.mg y = none)
    (hk : PySem.W.kitAny X.K (.type (tyD d)) [.type n, .type m] = some r) (hg : Gl X "isinstance" := by rfl) (hgx : Gl X x := by rfl) (hgy : Gl X y := by rfl) (hn : x ≠ "__name__" := by decide) (hdb : (x == ("__debug__" : Str)) = false := by decide) (hn2 : y ≠ "__name__" := by decide) (hdb2 : (y == ("__debug__" : Str)) = false := by decide)
    (he : starEach [e, .Tuple [.Name x xp, .Name y yp] tk tpos] X.env = (false, eval e X.env) :: starEach [.Tuple [.Name x xp, .Name y yp] tk tpos] X.env := by rfl) : EvX X (.Call (.Name "isinstance" p) [e, .Tuple [.Name x xp, .Name y yp] tk tpos] [] pos) Γ (.bl r) := fun t W0 W σ l E Q q =>
  wE_of (pe_callB call_isiT hg T.isinstance boot_isinstance (pa_cons (pe_w X e) (pa_cons (pe_tup (pa_cons (pe_bltn (v := .ty n) hgx hm hx rfl hn hdb) (pa_cons (pe_bltn (v := .ty m) hgy hmy hy rfl hn2 hdb2) pa_nil))) pa_nil) he) (by decide) (by decide) he rfl) (h t W0 W σ l E _ fun v W1 e1 r1 => by
    refine ⟨by show 2 ≤ sizeLine; decide, fun p hp => ?_⟩
    obtain ⟨W2, q1, q2, q3⟩ := lay (o := .tup [.ty n, .ty m]) hp
    show rIsiT X.K [v, .ref p] _ Q
    rw [← q1]
    exact ⟨v, p, _, _, _, r, rfl, by rw [q1]; exact upd_same, .cons (.ty n) (.cons (.ty m) .nil), (r1.ext q3).ty, hk, q _ W2 (e1.trans q3) rfl⟩)
/-! ### methods -/
theorem x_bits {i : Int} (h : EvX X a Γ (.int i)) (hbase : attributeBase a "bit_length" X.env (eval a X.env) = eval a X.env := by rfl) (hline : (apos.endLine == pos.line) = true := by rfl) : EvX X (.Call (.Attribute a "bit_length" apos) [] [] pos) Γ (.int (Builtin.Int.intBits i : Nat)) := fun t W0 W σ l E Q q =>
  wE_of (pe_bits (pe_w X a) hbase hline) (h t W0 W σ l E _ fun v W1 e1 r1 => ⟨i, r1, q _ W1 e1 rfl⟩)
theorem x_get2 {ks : List Int} {ds : List D} {i : Int} (hu : X.A.units + 1 < cLine) (h1 : RdX X a Γ (.dct ks ds)) (h2 : EvX X b Γ (.int i)) (h3 : EvX X c Γ d) (m : M2 X a "get" apos b c pos := by exact ⟨rfl, rfl, rfl, rfl⟩) : EvX X (.Call (.Attribute a "get" apos) [b, c] [] pos) Γ ((dget ks ds i).getD d) := fun t W0 W σ l E Q q =>
  wE_of (pe_dget2 hu (pe_w X a) (pe_w X b) (pe_w X c) m) (h1 t W0 W σ l E _ fun v1 W1 e1 r1 => by
    obtain ⟨p, ps, hv, hp, hk, hx⟩ := _root_.id r1
    subst hv
    refine ⟨p, rfl, .inl ⟨ps, hp⟩, h2 t W0 W1 σ (l.ext E.tv e1) (E.ext e1) _ fun v2 W2 e2 r2 => h3 t W0 W2 σ (l.ext E.tv (e1.trans e2)) (E.ext (e1.trans e2)) _ fun v3 W3 e3 r3 => ?_⟩
    have r2 : v2 = .int i := r2
    subst r2
    have e23 := e2.trans e3
    refine ⟨valV ps (Sum.inl i), .inl ⟨ps, Sum.inl i, rd_same e23.h hp, rfl, rfl⟩, ?_⟩
    cases z : dget ks ds i with
    | none =>
      rw [valV_none hk hx z]
      rw [z] at q
      exact q _ W3 (e1.trans e23) r3
    | some d' =>
      obtain ⟨v, hv, rv⟩ := valV_some hk hx z
      rw [hv]
      rw [z] at q
      exact q _ W3 (e1.trans e23) (rv.mono e23.f))
end
end G
-- Fw4
set_option maxHeartbeats 4000000
/-! Fw4: more of Env; effects on the box; components. -/
namespace G
open PySem PySem.Spec PyProof.Rows L2

/-! ### more of Env -/
section
variable {K : PySem.W.Frag} {t : Option Addr} {W0 W W2 : Wd} {σ σ' τ : L2.St} {Γ Γ' Δ : Ctx}
theorem SlR.own {own own' : Addr → Prop} (h : ∀ a, own a → own' a) : ∀ {s : Slot} {x : Option (Option V)}, SlR K t W own s x → SlR K t W own' s x
  | .un, _, _ => trivial
  | .pu d, _, q => q
  | .vol P, _, q => q
  | .scr ns, _, q => q
  | .ow (.one b), _, ⟨v, x, p, o, y1, y2, y3, y4⟩ => ⟨v, x, p, o, y1, h _ y2, y3, y4⟩
  | .ow (.many bs), _, ⟨v, x, p, ps, y1, y2, y3, y4⟩ => ⟨v, x, p, ps, y1, h _ y2, fun q hq => h _ (y3 q hq), y4⟩
theorem Env.map (h : Env K t W0 W σ Γ) (φ : Nat → Nat) (hφ : ∀ i j, φ i = φ j → i = j) (hl : σ'.length = Γ'.length) (hm : ∀ (j : Nat) (s : Slot), Γ'[j]? = some s → s = .un ∨ (Γ[φ j]? = some s ∧ σ'[j]? = σ[φ j]?)) : Env K t W0 W σ' Γ' := by
  obtain ⟨_, ⟨ow, h1, h2, h3⟩, ht0, ht⟩ := h
  refine ⟨hl, ⟨fun j => ow (φ j), fun i j a p q => hφ _ _ (h1 _ _ a p q), fun i a p => h2 _ a p, fun j s hs => ?_⟩, ht0, ht⟩
  rcases hm j s hs with e | ⟨e1, e2⟩
  · subst e
    trivial
  · rw [e2]
    exact h3 _ s e1
/-- a value more, that nothing else owns -/
theorem Env.snocG (h : Env K t W0 W σ Γ) (l : Le t W0 W) (e : Ext W W2) {s : Slot} {x : Option V} (new : Addr → Prop) (hn : ∀ a, new a → W.H a = none ∧ W2.F a = none ∧ ∃ o, W2.H a = some o) (hs : SlR K t W2 new s (some x)) : Env K t W0 W2 (σ ++ [x]) (Γ ++ [s]) := by
  have htv := h.tv
  obtain ⟨hl, ⟨ow, h1, h2, h3⟩, ht0, ht⟩ := h
  refine ⟨by rw [List.length_append, List.length_append, hl]; rfl, ⟨fun j a => if j = Γ.length then new a else ow j a ∧ j < Γ.length, fun j k a q r => ?_, fun j a q => ?_, fun j s' hs' => ?_⟩, ht0, ht.ext e⟩
  · dsimp only at q r
    by_cases e1 : j = Γ.length
    · by_cases e2 : k = Γ.length
      · rw [e1, e2]
      · rw [if_pos e1] at q
        rw [if_neg e2] at r
        obtain ⟨_, _, o, z⟩ := h2 k a r.1
        rw [(hn a q).1] at z
        cases z
    · by_cases e2 : k = Γ.length
      · rw [if_neg e1] at q
        rw [if_pos e2] at r
        obtain ⟨_, _, o, z⟩ := h2 j a q.1
        rw [(hn a r).1] at z
        cases z
      · rw [if_neg e1] at q
        rw [if_neg e2] at r
        exact h1 j k a q.1 r.1
  · dsimp only at q
    by_cases e1 : j = Γ.length
    · rw [if_pos e1] at q
      obtain ⟨z1, z2, z3⟩ := hn a q
      exact ⟨z2, l.free htv z1, z3⟩
    · rw [if_neg e1] at q
      obtain ⟨z1, z2, o, z3⟩ := h2 j a q.1
      exact ⟨e.nf z1 z3, z2, o, e.h _ _ z3⟩
  · by_cases e1 : j = Γ.length
    · subst e1
      rw [List.getElem?_append_right (Nat.le_refl _), Nat.sub_self] at hs'
      have e2 : s = s' := Option.some.inj hs'
      subst e2
      rw [List.getElem?_append_right (by rw [hl]; exact Nat.le_refl _), hl, Nat.sub_self]
      exact hs.own fun a ha => by dsimp only; rw [if_pos rfl]; exact ha
    · have hlt : j < Γ.length := by
        have := (List.getElem?_eq_some_iff.mp hs').1
        rw [List.length_append, List.length_singleton] at this
        omega
      rw [List.getElem?_append_left hlt] at hs'
      rw [List.getElem?_append_left (by rw [hl]; exact hlt)]
      exact ((h3 j s' hs').ext e).own fun a ha => by dsimp only; rw [if_neg e1]; exact ⟨ha, hlt⟩
theorem Env.snocPu (h : Env K t W0 W σ Γ) (l : Le t W0 W) {d : D} {v : V} (hv : Rp W.F d v) : Env K t W0 W (σ ++ [some v]) (Γ ++ [.pu d]) :=
  h.snocG l (.refl W) (fun _ => False) (fun _ z => z.elim) ⟨v, rfl, hv⟩
theorem Env.snocOw (h : Env K t W0 W σ Γ) (l : Le t W0 W) (e : Ext W W2) {b : B} {v : V} (hv : Fresh b W W2 v) : Env K t W0 W2 (σ ++ [some v]) (Γ ++ [.ow (.one b)]) := by
  obtain ⟨p, o, rfl, h1, h2, h3, h4⟩ := hv
  exact h.snocG l e (fun a => a = p) (fun a z => by subst z; exact ⟨h2, h1, o, h3⟩) ⟨_, rfl, p, o, rfl, rfl, h3, h4⟩
/-- a value goes to its slot -/
theorem Env.mv {x : Option V} {s : Slot} (h : Env K t W0 W (σ ++ x :: τ) (Γ ++ s :: Δ)) (hl : σ.length = Γ.length) {i : Nat} (hi : i < Γ.length) : Env K t W0 W (σ.set i x ++ τ) (Γ.set i s ++ Δ) := by
  have hlen := h.len
  refine h.map (fun j => if j = i then Γ.length else if j < Γ.length then j else j + 1) (fun j k e => ?_) ?_ fun j s' hs' => .inr ?_
  · have e : (if j = i then Γ.length else if j < Γ.length then j else j + 1) = (if k = i then Γ.length else if k < Γ.length then k else k + 1) := e
    split at e <;> split at e <;> (try split at e) <;> (try split at e) <;> omega
  · rw [List.length_append, List.length_append] at hlen ⊢
    rw [List.length_set, List.length_set]
    simp only [List.length_cons] at hlen
    omega
  · by_cases e1 : j = i
    · subst e1
      rw [if_pos rfl]
      rw [List.getElem?_append_left (by rw [List.length_set]; exact hi), List.getElem?_set_self hi] at hs'
      rw [List.getElem?_append_right (Nat.le_refl _), Nat.sub_self, List.getElem?_append_left (by rw [List.length_set, hl]; exact hi), List.getElem?_set_self (by rw [hl]; exact hi)]
      rw [List.getElem?_append_right (by rw [hl]; exact Nat.le_refl _), hl, Nat.sub_self]
      exact ⟨hs', rfl⟩
    · rw [if_neg e1]
      by_cases e2 : j < Γ.length
      · rw [if_pos e2]
        rw [List.getElem?_append_left (by rw [List.length_set]; exact e2), List.getElem?_set_ne (fun z => e1 z.symm)] at hs'
        rw [List.getElem?_append_left e2, List.getElem?_append_left (by rw [List.length_set, hl]; exact e2), List.getElem?_set_ne (fun z => e1 z.symm), List.getElem?_append_left (by rw [hl]; exact e2)]
        exact ⟨hs', rfl⟩
      · rw [if_neg e2]
        have e3 : Γ.length ≤ j := Nat.le_of_not_lt e2
        rw [List.getElem?_append_right (by rw [List.length_set]; exact e3), List.length_set] at hs'
        rw [List.getElem?_append_right (by omega), List.getElem?_append_right (by rw [List.length_set, hl]; exact e3), List.length_set, List.getElem?_append_right (by rw [hl]; omega), hl]
        have e4 : j + 1 - Γ.length = (j - Γ.length) + 1 := by omega
        rw [e4, List.getElem?_cons_succ, List.getElem?_cons_succ]
        exact ⟨hs', rfl⟩
theorem Env.mv1 {x : Option V} {s : Slot} (h : Env K t W0 W (σ ++ [x]) (Γ ++ [s])) (hl : σ.length = Γ.length) {i : Nat} (hi : i < Γ.length) : Env K t W0 W (σ.set i x) (Γ.set i s) := by
  have q := h.mv hl hi
  rw [List.append_nil, List.append_nil] at q
  exact q
theorem Env.pre (h : Env K t W0 W (σ ++ τ) (Γ ++ Δ)) (hl : σ.length = Γ.length) : Env K t W0 W σ Γ := by
  refine h.map (fun j => j) (fun _ _ e => e) hl fun j s hs => .inr ?_
  have hlt := (List.getElem?_eq_some_iff.mp hs).1
  rw [List.getElem?_append_left hlt, List.getElem?_append_left (by rw [hl]; exact hlt)]
  exact ⟨hs, rfl⟩
theorem Env.setUn (h : Env K t W0 W σ Γ) (i : Nat) (x : Option V) : Env K t W0 W (σ.set i x) (Γ.set i .un) := by
  refine h.map (fun j => j) (fun _ _ e => e) (by rw [List.length_set, List.length_set, h.len]) fun j s hs => ?_
  by_cases e : i = j
  · subst e
    have hlt := (List.getElem?_eq_some_iff.mp hs).1
    rw [List.length_set] at hlt
    rw [List.getElem?_set_self hlt] at hs
    exact .inl (Option.some.inj hs).symm
  · rw [List.getElem?_set_ne e] at hs
    rw [List.getElem?_set_ne e]
    exact .inr ⟨hs, rfl⟩
def wipeC (Γ : Ctx) : List Nat → Ctx
  | [] => Γ
  | v :: vs => (wipeC Γ vs).set v .un
theorem Env.wipe (h : Env K t W0 W σ Γ) : ∀ vs : List Nat, Env K t W0 W (L2.wipe σ vs) (wipeC Γ vs)
  | [] => h
  | v :: vs => (Env.wipe h vs).setUn v none
theorem wipe_at {σ : L2.St} {v : Nat} : ∀ {vs : List Nat}, v ∈ vs → v < σ.length → (L2.wipe σ vs)[v]? = some none
  | [], h, _ => by cases h
  | u :: us, h, hl => by
    show ((L2.wipe σ us).set u none)[v]? = some none
    by_cases e : u = v
    · subst e
      rw [List.getElem?_set_self (by rw [wipe_length]; exact hl)]
    · rw [List.getElem?_set_ne e]
      exact wipe_at (by rcases List.mem_cons.mp h with z | z; exact (e z.symm).elim; exact z) hl
theorem wipe_set {σ : L2.St} {v : Nat} {x : Option V} : ∀ {vs : List Nat}, v ∈ vs → L2.wipe (σ.set v x) vs = L2.wipe σ vs
  | [], h => by cases h
  | u :: us, h => by
    show (L2.wipe (σ.set v x) us).set u none = (L2.wipe σ us).set u none
    by_cases e : v ∈ us
    · rw [wipe_set e]
    · have e2 : v = u := by
        rcases List.mem_cons.mp h with z | z
        · exact z
        · exact (e z).elim
      subst e2
      have e3 : L2.wipe (σ.set v x) us = (L2.wipe σ us).set v x := by
        clear h
        induction us with
        | nil => rfl
        | cons w ws ih =>
          show (L2.wipe (σ.set v x) ws).set w none = ((L2.wipe σ ws).set w none).set v x
          have q : v ≠ w := fun z => e (by rw [z]; exact List.mem_cons_self)
          rw [ih (fun z => e (List.mem_cons_of_mem _ z)), List.set_comm _ _ q]
      rw [e3, List.set_set]
theorem wipe_wipe {σ : L2.St} : ∀ {vs : List Nat}, L2.wipe (L2.wipe σ vs) vs = L2.wipe σ vs := by
  intro vs
  have aux : ∀ (us : List Nat), (∀ u ∈ us, u ∈ vs) → ∀ σ : L2.St, L2.wipe (L2.wipe σ us) vs = L2.wipe σ vs := by
    intro us
    induction us with
    | nil => intro _ σ; rfl
    | cons u us ih =>
      intro h σ
      show L2.wipe ((L2.wipe σ us).set u none) vs = _
      rw [wipe_set (h u List.mem_cons_self)]
      exact ih (fun w hw => h w (List.mem_cons_of_mem _ hw)) σ
  exact aux vs (fun u h => h) σ
/-- slots known less well -/
inductive Wk : Ctx → Ctx → Prop
  | nil : Wk [] []
  | un {s : Slot} {Γ Γ' : Ctx} : Wk Γ Γ' → Wk (s :: Γ) (.un :: Γ')
  | same {s : Slot} {Γ Γ' : Ctx} : Wk Γ Γ' → Wk (s :: Γ) (s :: Γ')
theorem Wk.len (h : Wk Γ Γ') : Γ'.length = Γ.length := by
  induction h with
  | nil => rfl
  | un _ ih => rw [List.length_cons, List.length_cons, ih]
  | same _ ih => rw [List.length_cons, List.length_cons, ih]
theorem Wk.get (h : Wk Γ Γ') : ∀ (i : Nat) (s' : Slot), Γ'[i]? = some s' → s' = .un ∨ Γ[i]? = some s' := by
  induction h with
  | nil => intro i s h; simp at h
  | un _ ih =>
    intro i s h
    cases i with
    | zero => exact .inl (Option.some.inj h).symm
    | succ i => exact ih i s (by simpa using h)
  | same _ ih =>
    intro i s h
    cases i with
    | zero => exact .inr h
    | succ i => exact ih i s (by simpa using h)
theorem Env.wk (h : Env K t W0 W σ Γ) (w : Wk Γ Γ') : Env K t W0 W σ Γ' := h.weak w.len w.get
theorem Wk.refl : ∀ Γ : Ctx, Wk Γ Γ
  | [] => .nil
  | _ :: Γ => .same (Wk.refl Γ)

/-! ### the box of draws -/
def Tin (κ : Nat) (o : HO) : Prop := ∃ a b c : Int, o = .lst [.int a, .int b, .int c] ∧ 0 ≤ a ∧ 0 ≤ b ∧ b < 2 ^ 62 ∧ 0 ≤ c ∧ c ≤ κ
def VolR (t : Option Addr) (W : Wd) (κ : Nat) : Prop := ∀ a, t = some a → ∃ o, W.H a = some o ∧ Tin κ o
def Slot.sv (κ : Nat) : Slot → Slot
  | .vol _ => .vol (Tin κ)
  | s => s
def sv (κ : Nat) (Γ : Ctx) : Ctx := Γ.map (Slot.sv κ)
theorem sv_len (κ : Nat) (Γ : Ctx) : (sv κ Γ).length = Γ.length := List.length_map ..
theorem sv_app (κ : Nat) (Γ Δ : Ctx) : sv κ (Γ ++ Δ) = sv κ Γ ++ sv κ Δ := List.map_append
theorem Tv.le (h : Tv t W) (l : Le t W W2) {κ : Nat} (v : VolR t W2 κ) : Tv t W2 := fun a ha => by
  obtain ⟨h1, o, h2⟩ := h a ha
  obtain ⟨o', h3, _⟩ := v a ha
  refine ⟨?_, o', h3⟩
  cases q : W2.F a with
  | none => rfl
  | some u =>
    have := l.n a h1 (by rw [q]; exact fun z => nomatch z)
    rw [h2] at this
    cases this
/-- behind an effect -/
theorem Env.le (h : Env K t W0 W σ Γ) (l0 : Le t W0 W) (l : Le t W W2) {κ : Nat} (v : VolR t W2 κ) : Env K t W0 W2 σ (sv κ Γ) := by
  have htv := h.tv
  have ht2 := h.tv.le l v
  obtain ⟨hl, ⟨ow, h1, h2, h3⟩, ht0, ht⟩ := h
  have nt : ∀ i a, ow i a → some a ≠ t := fun i a ha z => by
    obtain ⟨_, q, _⟩ := h2 i a ha
    obtain ⟨_, o, q2⟩ := ht0 a z.symm
    rw [q] at q2
    cases q2
  refine ⟨by rw [sv_len, hl], ⟨ow, h1, fun i a ha => ?_, fun i s hs => ?_⟩, ht0, ht2⟩
  · obtain ⟨q1, q2, o, q3⟩ := h2 i a ha
    refine ⟨?_, q2, o, l.h a o q3 (nt i a ha)⟩
    cases q : W2.F a with
    | none => rfl
    | some u =>
      have := l.n a q1 (by rw [q]; exact fun z => nomatch z)
      rw [q3] at this
      cases this
  · unfold sv at hs
    rw [List.getElem?_map] at hs
    cases e : Γ[i]? with
    | none =>
      rw [e] at hs
      cases hs
    | some s0 =>
      rw [e] at hs
      have es : s = Slot.sv κ s0 := (Option.some.inj hs).symm
      subst es
      have q := h3 i s0 e
      cases s0 with
      | un => trivial
      | pu d =>
        obtain ⟨w, x, y⟩ := q
        exact ⟨w, x, y.mono l.f⟩
      | scr ns =>
        obtain ⟨w, x, y⟩ := q
        exact ⟨w, x, sql_same l.f y⟩
      | vol P =>
        obtain ⟨a, o, x, ta, _, _⟩ := q
        obtain ⟨o', y1, y2⟩ := v a ta
        exact ⟨a, o', x, ta, y1, y2⟩
      | ow o =>
        cases o with
        | one b =>
          obtain ⟨w, x, p, o, y1, y2, y3, y4⟩ := q
          exact ⟨w, x, p, o, y1, y2, l.h _ _ y3 (nt i p y2), y4.mono l.f⟩
        | many bs =>
          obtain ⟨w, x, p, ps, y1, y2, y3, y4, y5, y6, y7⟩ := q
          refine ⟨w, x, p, ps, y1, y2, y3, y4, l.h _ _ y5 (nt i p y2), y6, fun j q' b a c => ?_⟩
          obtain ⟨o, z1, z2⟩ := y7 j q' b a c
          exact ⟨o, l.h _ _ z1 (nt i q' (y3 _ (List.mem_of_getElem? a))), z2.mono l.f⟩
theorem Env.volR (h : Env K t W0 W σ Γ) {i κ : Nat} (hi : Γ[i]? = some (.vol (Tin κ))) : VolR t W κ := fun a ha => by
  obtain ⟨a', o, _, h2, h3, h4⟩ := h.vol hi
  rw [ha] at h2
  cases h2
  exact ⟨o, h3, h4⟩
theorem VolR.ext {κ : Nat} (h : VolR t W κ) (e : Ext W W2) : VolR t W2 κ := fun a ha => by
  obtain ⟨o, h1, h2⟩ := h a ha
  exact ⟨o, e.h _ _ h1, h2⟩
end

/-! ### expressions with an effect on the box -/
def EvG (X : Cx) (e : Expr) (Γ : Ctx) (R : D → Nat → Prop) : Prop :=
  ∀ (t : Option Addr) (W0 W : Wd) (σ : L2.St), Le t W0 W → Env X.K t W0 W σ Γ → ∀ Q : VK, (∀ v d W2 κ, Le t W W2 → VolR t W2 κ → Rp W2.F d v → R d κ → Q v W2.H) → wE X e σ W.H Q
def EvTG (X : Cx) (e : Expr) (Γ : Ctx) (R : Bool → Nat → Prop) : Prop :=
  ∀ (t : Option Addr) (W0 W : Wd) (σ : L2.St), Le t W0 W → Env X.K t W0 W σ Γ → ∀ Q : Bool → Hp → Prop, (∀ b W2 κ, Le t W W2 → VolR t W2 κ → R b κ → Q b W2.H) → wT X e σ W.H Q
def EvWG (X : Cx) (e : Expr) (Γ : Ctx) (R : Bool → Nat → Prop) : Prop :=
  ∀ (t : Option Addr) (W0 W : Wd) (σ : L2.St), Le t W0 W → Env X.K t W0 W σ Γ → ∀ Q : Bool → Hp → Prop, (∀ b W2 κ, Le t W W2 → VolR t W2 κ → R b κ → Q b W2.H) → wW X e σ W.H Q
/-- a list of expressions: each gives data or a new object -/
def EvC (X : Cx) (es : List Expr) (Γ : Ctx) (R : List Slot → Nat → Prop) : Prop :=
  ∀ (t : Option Addr) (W0 W : Wd) (σ τ : L2.St) (Δ : Ctx), Le t W0 W → σ.length = Γ.length → Env X.K t W0 W (σ ++ τ) (Γ ++ Δ) → ∀ Q : List V → Hp → Prop,
    (∀ vs ss W2 κ, Le t W W2 → Env X.K t W0 W2 (σ ++ (τ ++ vs.map some)) (sv κ Γ ++ (sv κ Δ ++ ss)) → vs.length = ss.length → R ss κ → Q vs W2.H) → wA X es σ W.H Q
section
variable {X : Cx} {Γ : Ctx} {e a b c : Expr} {es : List Expr} {pos p : Pos} {d d1 d2 d3 : D} {κ : Nat}
theorem EvX.g {i : Nat} (hi : Γ[i]? = some (.vol (Tin κ))) (h : EvX X e Γ d) : EvG X e Γ fun d' κ' => d' = d ∧ κ' = κ := fun t W0 W σ l E Q q => h t W0 W σ l E Q fun v W2 e2 r2 => q v d W2 κ (e2.le t) ((E.volR hi).ext e2) r2 ⟨rfl, rfl⟩
theorem EvG.imp {R R' : D → Nat → Prop} (h : EvG X e Γ R) (i : ∀ d κ, R d κ → R' d κ) : EvG X e Γ R' := fun t W0 W σ l E Q q => h t W0 W σ l E Q fun v d W2 κ x y z w => q v d W2 κ x y z (i _ _ w)
/-- an operation, an effect on the right -/
theorem g_opR {op : Operator} {R R' : D → Nat → Prop} (h1 : EvX X a Γ d1) (h2 : EvG X b Γ R) (ho : ∀ d2 κ, R d2 κ → ∃ d, OpD X (binaryOp op) d1 d2 d ∧ R' d κ) : EvG X (.BinOp a op b pos) Γ R' := fun t W0 W σ l E Q q => by
  unfold wE
  refine fun pins s I => ?_
  refine wpAny_BinOp (binT (pe_w X a) (pe_w X b) I (R := fun x y H2 => ∃ W1 W2 d2 κ d, H2 = W2.H ∧ Le t W W2 ∧ VolR t W2 κ ∧ Rp W2.F d1 x ∧ Rp W2.F d2 y ∧ OpD X (binaryOp op) d1 d2 d ∧ R' d κ ∧ W1 = W2) (h1 t W0 W σ l E _ fun v1 W1 e1 r1 => h2 t W0 W1 σ (l.ext E.tv e1) (E.ext e1) _ fun v2 d2 W2 κ l2 y r2 z => ?_) fun v u s2 x y H2 I2 rx ry q2 => ?_)
  · obtain ⟨d, h3, h4⟩ := ho d2 κ z
    exact ⟨W2, W2, d2, κ, d, rfl, (e1.le t).trans (E.ext e1).tv l2, y, r1.mono l2.f, r2, h3, h4, rfl⟩
  · obtain ⟨_, W2, d2, κ, d, rfl, l2, yv, r1, r2, ⟨r, hr, hq⟩, h4, _⟩ := q2
    exact hr pins s2 σ W2.H x y v u Q I2 rx ry (hq W2 x y r1.rq r2.rq Q fun v W3 e3 r3 => q v d W3 κ ((l2.trans (Tv.le E.tv l2 yv) (e3.le t))) (yv.ext e3) r3 h4)
end
end G
-- Fw5
set_option maxHeartbeats 4000000
/-! Fw5: statements, loops, comprehensions, calls by data. -/
namespace G
open PySem PySem.Spec PyProof.Rows L2

@[irreducible] def wG (X : Cx) (tg : Expr) : TG := fun v σ H Q => ∀ (pins : List (Addr × Obj)) (s : Shared) (u : Value), Inv X pins σ H s → RelV v u → wpAny (model X.prog X.w) X.A (assign tg X.env u) (fun _ s' => ∃ σ' H', Inv X pins σ' H' s' ∧ Q σ' H') X.xe s
theorem pg_w (X : Cx) (tg : Expr) : PG X tg (wG X tg) := ⟨fun pins s σ H v u Q I r h => by unfold wG at h; exact h pins s u I r⟩
theorem wG_of {X : Cx} {tg : Expr} {g : TG} {v : V} {σ : L2.St} {H : Hp} {Q : L2.St → Hp → Prop} (h : PG X tg g) (q : g v σ H Q) : wG X tg v σ H Q := by unfold wG; exact fun pins s u I r => h.run pins s σ H v u Q I r q
structure Post where
  nx : Ctx → Prop := fun _ => False
  rt : D → Ctx → Prop := fun _ _ => False
  bk : Ctx → Prop := fun _ => False
  ct : Ctx → Prop := fun _ => False
  /-- of the entry -/
  en : Option Addr → Wd → Prop := fun _ _ => True
def Hr (X : Cx) (sts : List Stmt) (Γ : Ctx) (P : Post) : Prop :=
  ∀ (t : Option Addr) (W0 W : Wd) (σ : L2.St), P.en t W0 → Le t W0 W → Env X.K t W0 W σ Γ → ∀ De : Ends,
    (∀ σ2 W2 Γ2, Le t W0 W2 → Same W.F W2.F → Env X.K t W0 W2 σ2 Γ2 → P.nx Γ2 → De.nx σ2 W2.H) →
    (∀ v d σ2 W2 Γ2, Le t W0 W2 → Same W.F W2.F → Env X.K t W0 W2 σ2 Γ2 → Rp W2.F d v → P.rt d Γ2 → De.rt v W2.H) →
    (∀ σ2 W2 Γ2, Le t W0 W2 → Same W.F W2.F → Env X.K t W0 W2 σ2 Γ2 → P.bk Γ2 → De.bk σ2 W2.H) →
    (∀ σ2 W2 Γ2, Le t W0 W2 → Same W.F W2.F → Env X.K t W0 W2 σ2 Γ2 → P.ct Γ2 → De.ct σ2 W2.H) → wSs X sts De σ W.H
def HrS (X : Cx) (st : Stmt) (Γ : Ctx) (P : Post) : Prop :=
  ∀ (t : Option Addr) (W0 W : Wd) (σ : L2.St), P.en t W0 → Le t W0 W → Env X.K t W0 W σ Γ → ∀ De : Ends,
    (∀ σ2 W2 Γ2, Le t W0 W2 → Same W.F W2.F → Env X.K t W0 W2 σ2 Γ2 → P.nx Γ2 → De.nx σ2 W2.H) →
    (∀ v d σ2 W2 Γ2, Le t W0 W2 → Same W.F W2.F → Env X.K t W0 W2 σ2 Γ2 → Rp W2.F d v → P.rt d Γ2 → De.rt v W2.H) →
    (∀ σ2 W2 Γ2, Le t W0 W2 → Same W.F W2.F → Env X.K t W0 W2 σ2 Γ2 → P.bk Γ2 → De.bk σ2 W2.H) →
    (∀ σ2 W2 Γ2, Le t W0 W2 → Same W.F W2.F → Env X.K t W0 W2 σ2 Γ2 → P.ct Γ2 → De.ct σ2 W2.H) → wS X st De σ W.H
section
variable {X : Cx} {Γ Γ' : Ctx} {e a b c tg iter : Expr} {es : List Expr} {st : Stmt} {rest body : List Stmt} {pos p pos' apos : Pos} {d d1 d2 d3 : D} {P : Post}
theorem hr_cons {M : Ctx → Prop} (h : HrS X st Γ { P with nx := M }) (k : ∀ Γ', M Γ' → Hr X rest Γ' P) : Hr X (st :: rest) Γ P := fun t W0 W σ en l E De q1 q2 q3 q4 =>
  wSs_of (pss_cons (ps_w X st) (pss_w X rest)) (h t W0 W σ en l E { De with nx := wSs X rest De } (fun σ2 W2 Γ2 l2 f2 E2 m => k Γ2 m t W0 W2 σ2 en l2 E2 De (fun σ3 W3 Γ3 l3 f3 => q1 σ3 W3 Γ3 l3 (f2.trans f3)) (fun v d σ3 W3 Γ3 l3 f3 => q2 v d σ3 W3 Γ3 l3 (f2.trans f3)) (fun σ3 W3 Γ3 l3 f3 => q3 σ3 W3 Γ3 l3 (f2.trans f3)) (fun σ3 W3 Γ3 l3 f3 => q4 σ3 W3 Γ3 l3 (f2.trans f3))) q2 q3 q4)
theorem hr_nil (Γ' : Ctx) (w : Wk Γ Γ') (h : P.nx Γ') : Hr X [] Γ P := fun t W0 W σ en l E De q1 q2 q3 q4 => wSs_of pss_nil (q1 σ W Γ' l (.refl _) (E.wk w) h)
theorem hr_step (h : ∀ (t : Option Addr) (W0 W : Wd) (σ : L2.St), Le t W0 W → Env X.K t W0 W σ Γ → ∀ De : Ends, (∀ σ2 W2, Le t W0 W2 → Same W.F W2.F → Env X.K t W0 W2 σ2 Γ' → De.nx σ2 W2.H) → wS X st De σ W.H) (k : Hr X rest Γ' P) : Hr X (st :: rest) Γ P :=
  hr_cons (M := fun Γ2 => Γ2 = Γ') (fun t W0 W σ _ l E De q1 _ _ _ => h t W0 W σ l E De fun σ2 W2 l2 f2 E2 => q1 σ2 W2 Γ' l2 f2 E2 rfl) fun Γ2 e => by
    subst e
    exact k
theorem hr_wk (Γ' : Ctx) (w : Wk Γ Γ') (h : Hr X rest Γ' P) : Hr X rest Γ P := fun t W0 W σ en l E De q1 q2 q3 q4 => h t W0 W σ en l (E.wk w) De q1 q2 q3 q4
theorem hr_eq (h : Hr X rest Γ' P) (e : Γ = Γ') : Hr X rest Γ P := by
  subst e
  exact h
theorem Hr.post {P' : Post} (h : Hr X rest Γ P) (h1 : ∀ Γ, P.nx Γ → P'.nx Γ) (h2 : ∀ d Γ, P.rt d Γ → P'.rt d Γ) (h3 : ∀ Γ, P.bk Γ → P'.bk Γ) (h4 : ∀ Γ, P.ct Γ → P'.ct Γ) (h5 : ∀ t W0, P'.en t W0 → P.en t W0 := by exact fun _ _ z => z) : Hr X rest Γ P' := fun t W0 W σ en l E De q1 q2 q3 q4 =>
  h t W0 W σ (h5 _ _ en) l E De (fun σ2 W2 Γ2 a b c m => q1 σ2 W2 Γ2 a b c (h1 _ m)) (fun v d σ2 W2 Γ2 a b c r m => q2 v d σ2 W2 Γ2 a b c r (h2 _ _ m)) (fun σ2 W2 Γ2 a b c m => q3 σ2 W2 Γ2 a b c (h3 _ m)) (fun σ2 W2 Γ2 a b c m => q4 σ2 W2 Γ2 a b c (h4 _ m))
/-! ### targets -/
def TgX (X : Cx) (tg : Expr) (d : D) (Γ Γ' : Ctx) (vs : List Nat) : Prop :=
  ∀ (t : Option Addr) (W0 W : Wd) (σ : L2.St) (v : V), Le t W0 W → Env X.K t W0 W σ Γ → Rp W.F d v → ∀ Q : L2.St → Hp → Prop, (∀ σ' W2, Ext W W2 → Env X.K t W0 W2 σ' Γ' → L2.wipe σ' vs = L2.wipe σ vs → Q σ' W2.H) → wG X tg v σ W.H Q
theorem tg_nm (i : Nat) {x : Str} {vs : List Nat} (hN : X.N.Nodup) (hi : X.N[i]? = some x := by rfl) (hx : Loc X.env.scope x := by first | exact Or.inl rfl | exact Or.inr rfl) (hf : X.fn x = true ∨ X.env.scope.names.lookup x = some .local := by first | exact .inl rfl | exact .inr rfl)
    (hv : vs = [] ∨ i ∈ vs := by first | exact .inl rfl | exact .inr (by decide)) (hnil : vs ≠ [] := by exact List.cons_ne_nil _ _) : TgX X (.Name x pos) d Γ (Γ.set i (.pu d)) vs := fun t W0 W σ v l E r Q q => by
  have hm : i ∈ vs := by
    rcases hv with z | z
    · exact (hnil z).elim
    · exact z
  exact wG_of (pg_name hN hi hx hf) (q _ W (.refl _) (E.setPu i r) (wipe_set hm))
/-- targets of a for: what the slots were does not matter -/
theorem tg_fn (i : Nat) {x : Str} (hN : X.N.Nodup) (hi : X.N[i]? = some x := by rfl) (hx : Loc X.env.scope x := by first | exact Or.inl rfl | exact Or.inr rfl) (hf : X.fn x = true ∨ X.env.scope.names.lookup x = some .local := by first | exact .inl rfl | exact .inr rfl) : TgX X (.Name x pos) d Γ (Γ.set i (.pu d)) [i] :=
  tg_nm i hN hi hx hf (.inr List.mem_cons_self) (List.cons_ne_nil _ _)
theorem tg_pr (i j : Nat) {x y : Str} {k : Nat} {px py : Pos} {vs : List Nat} (hc : X.calm = true) (hN : X.N.Nodup) (hi : X.N[i]? = some x := by rfl) (hj : X.N[j]? = some y := by rfl) (hx : Loc X.env.scope x := by first | exact Or.inl rfl | exact Or.inr rfl) (hy : Loc X.env.scope y := by first | exact Or.inl rfl | exact Or.inr rfl)
    (hf : X.fn x = true ∨ X.env.scope.names.lookup x = some .local := by first | exact .inl rfl | exact .inr rfl) (hf2 : X.fn y = true ∨ X.env.scope.names.lookup y = some .local := by first | exact .inl rfl | exact .inr rfl) (hv : i ∈ vs := by decide) (hv2 : j ∈ vs := by decide) :
    TgX X (.Tuple [.Name x px, .Name y py] k pos) (.tup [d1, d2]) Γ ((Γ.set i (.pu d1)).set j (.pu d2)) vs := fun t W0 W σ v l E r Q q => by
  obtain ⟨q0, xs, rfl, hp, v1, vs1, rfl, r1, v2, vs2, rfl, r2, hn⟩ := r
  have e3 : vs2 = [] := hn
  subst e3
  refine wG_of (pg_tup hc (pgs_cons (pg_name hN hi hx hf) (pgs_cons (pg_name hN hj hy hf2) pgs_nil))) ⟨q0, _, rfl, SqT.of (W.ok _ _ hp), rfl, _, _, rfl, _, _, rfl, rfl, ?_⟩
  exact q _ W (.refl _) ((E.setPu i r1).setPu j r2) (by rw [wipe_set hv2, wipe_set hv])
/-! ### what is walked -/
def WalkD (J : It) (W1 : Wd) (ds : List D) : Prop :=
  ∃ (Gh : Hp → Prop) (Y : Nat → Hp → V → Hp → Prop), Walk J ds.length Gh Y ∧ (∀ W' : Wd, Same W1.F W'.F → Gh W'.H) ∧ ∀ (i : Nat) (x : V) (W' : Wd) (H' : Hp), i < ds.length → Same W1.F W'.F → Y i W'.H x H' → ∃ W'' : Wd, W''.H = H' ∧ Ext W' W'' ∧ ∃ d, ds[i]? = some d ∧ Rp W''.F d x
def ItX (X : Cx) (tg iter : Expr) (Γ : Ctx) (ds : List D) : Prop :=
  ∃ wi, PI X tg iter wi ∧ ∀ (t : Option Addr) (W0 W : Wd) (σ : L2.St), Le t W0 W → Env X.K t W0 W σ Γ → ∀ R : It → Hp → Prop, (∀ J W1, Ext W W1 → WalkD J W1 ds → R J W1.H) → wi σ W.H R
theorem walkD_at {K : PySem.W.Frag} {J : It} {W1 : Wd} {ds : List D} {xs : List V} (hx : RpA W1.F ds xs) (Gh : Hp → Prop) (w : Walk J xs.length Gh (YAt xs)) (hg : ∀ W' : Wd, Same W1.F W'.F → Gh W'.H) : WalkD J W1 ds := by
  refine ⟨Gh, YAt xs, by rw [← hx.len]; exact w, hg, fun i x W' H' hi s y => ?_⟩
  obtain ⟨e, y⟩ := y
  obtain ⟨d, h1, h2⟩ := hx.get y
  exact ⟨W', e.symm, .refl _, d, h1, h2.mono s⟩
theorem it_list {ds : List D} (h : EvX X e Γ (.lst ds)) : ItX X tg e Γ ds := ⟨_, pi_list (pe_w X e), fun t W0 W σ l E R q => h t W0 W σ l E _ fun v W1 e1 r1 => by
  obtain ⟨p, xs, hv, hp, hx⟩ := r1
  subst hv
  exact ⟨p, rfl, ⟨xs, SqL.of (W1.ok _ _ hp)⟩, q _ W1 e1 (walkD_at (K := X.K) hx _ (walk_list (K := X.K)) fun W' s => SqL.of (W'.ok _ _ (s _ _ hp)))⟩⟩
theorem it_tup {ds : List D} (h : EvX X e Γ (.tup ds)) : ItX X tg e Γ ds := ⟨_, pi_tup (pe_w X e), fun t W0 W σ l E R q => h t W0 W σ l E _ fun v W1 e1 r1 => by
  obtain ⟨p, xs, hv, hp, hx⟩ := r1
  subst hv
  exact ⟨p, rfl, ⟨xs, SqT.of (W1.ok _ _ hp)⟩, q _ W1 e1 (walkD_at (K := X.K) hx _ (walk_tup (K := X.K)) fun W' s => SqT.of (W'.ok _ _ (s _ _ hp)))⟩⟩
/-- lo, lo + c, ..: n of them -/
def rngD (lo c : Int) (n : Nat) : List Int := (List.range n).map fun (i : Nat) => lo + (i : Int) * c
theorem rngD_len (lo c : Int) (n : Nat) : (rngD lo c n).length = n := by unfold rngD; rw [List.length_map, List.length_range]
theorem rngD_get {lo c : Int} {n i : Nat} (h : i < n) : (rngD lo c n)[i]? = some (lo + (i : Int) * c) := by
  unfold rngD
  rw [List.getElem?_map, List.getElem?_range h]
  rfl
theorem walkD_rng {J : It} {W1 : Wd} {lo c : Int} {n : Nat} (Y : Nat → Hp → V → Hp → Prop) (w : Walk J n (fun _ => True) Y) (hy : ∀ i H x H', Y i H x H' → H' = H ∧ x = .int (lo + (i : Int) * c)) : WalkD J W1 ((rngD lo c n).map D.int) := by
  have e : ((rngD lo c n).map D.int).length = n := by rw [List.length_map, rngD_len]
  refine ⟨fun _ => True, Y, by rw [e]; exact w, fun _ _ => trivial, fun i x W' H' hi s y => ?_⟩
  rw [e] at hi
  obtain ⟨e1, e2⟩ := hy _ _ _ _ y
  exact ⟨W', e1.symm, .refl _, .int (lo + (i : Int) * c), by rw [List.getElem?_map, rngD_get hi]; rfl, e2⟩
theorem it_rng1 (T : Bn X.mg) {j : Int} (h : EvX X a Γ (.int j)) (hj : -(2 ^ 62) ≤ j ∧ j < 2 ^ 62) (hg : Gl X "range" := by rfl) (hs : starEach [a] X.env = [(false, eval a X.env)] := by rfl) (hs2 : starEach [a] X.env = (false, eval a X.env) :: starEach [] X.env := by rfl) : ItX X tg (.Call (.Name "range" p) [a] [] pos) Γ ((rngD 0 1 j.toNat).map D.int) :=
  ⟨_, pi_range1 hg T.range (pa_cons (pe_w X a) pa_nil hs2) hs, fun t W0 W σ l E R q => h t W0 W σ l E _ fun v W1 e1 r1 => ⟨j, by rw [show v = .int j from r1], hj.1, hj.2, q _ W1 e1 (walkD_rng _ walk_range fun i H x H' y => ⟨y.1, by rw [y.2, Int.mul_one]⟩)⟩⟩
theorem it_rng2 (T : Bn X.mg) {i j : Int} (h1 : EvX X a Γ (.int i)) (h2 : EvX X b Γ (.int j)) (hj : -(2 ^ 62) ≤ i ∧ i < 2 ^ 62 ∧ -(2 ^ 62) ≤ j ∧ j < 2 ^ 62) (hg : Gl X "range" := by rfl) (hs : starEach [a, b] X.env = [(false, eval a X.env), (false, eval b X.env)] := by rfl) (hs2 : starEach [a, b] X.env = (false, eval a X.env) :: starEach [b] X.env := by rfl) (hs3 : starEach [b] X.env = (false, eval b X.env) :: starEach [] X.env := by rfl) :
    ItX X tg (.Call (.Name "range" p) [a, b] [] pos) Γ ((rngD i 1 (j - i).toNat).map D.int) :=
  ⟨_, pi_range2 hg T.range (pa_cons (pe_w X a) (pa_cons (pe_w X b) pa_nil hs3) hs2) hs hs3, fun t W0 W σ l E R q => h1 t W0 W σ l E _ fun v W1 e1 r1 => h2 t W0 W1 σ (l.ext E.tv e1) (E.ext e1) _ fun v2 W2 e2 r2 => ⟨i, j, by rw [show v = .int i from r1, show v2 = .int j from r2], hj, q _ W2 (e1.trans e2) (walkD_rng _ walk_range fun i H x H' y => ⟨y.1, by rw [y.2, Int.mul_one]⟩)⟩⟩
/-! ### statements -/
theorem hr_asg (i : Nat) {x : Str} (hN : X.N.Nodup) (h : EvX X e Γ d) (k : Hr X rest (Γ.set i (.pu d)) P) (hi : X.N[i]? = some x := by rfl) (hx : Loc X.env.scope x := by first | exact Or.inl rfl | exact Or.inr rfl) (hs : swapsWith e (some (.Name x pos')) pos.line X.env = pure false := by rfl) (hf : X.fn x = true ∨ X.env.scope.names.lookup x = some .local := by first | exact .inl rfl | exact .inr rfl) :
    Hr X (.Assign [.Name x pos'] e pos :: rest) Γ P := hr_step (fun t W0 W σ l E De q =>
  wS_of (ps_set hN hi hx (pe_w X e) hs hf) (h t W0 W σ l E _ fun v W1 e1 r1 => q _ W1 (l.ext E.tv e1) e1.f ((E.ext e1).setPu i r1))) k
theorem hr_own (i : Nat) {x : Str} {o : B} (hN : X.N.Nodup) (h : EvO X e Γ o) (k : Hr X rest (Γ.set i (.ow (.one o))) P) (hi : X.N[i]? = some x := by rfl) (hx : Loc X.env.scope x := by first | exact Or.inl rfl | exact Or.inr rfl) (hs : swapsWith e (some (.Name x pos')) pos.line X.env = pure false := by rfl) (hf : X.fn x = true ∨ X.env.scope.names.lookup x = some .local := by first | exact .inl rfl | exact .inr rfl)
    (hlt : i < Γ.length := by exact Nat.le_of_ble_eq_true rfl) : Hr X (.Assign [.Name x pos'] e pos :: rest) Γ P := hr_step (fun t W0 W σ l E De q =>
  wS_of (ps_set hN hi hx (pe_w X e) hs hf) (h t W0 W σ l E _ fun v W1 e1 r1 => q _ W1 (l.ext E.tv e1) e1.f ((E.snocOw l e1 r1).mv1 E.len hlt))) k
/-- a, b = e of a pair that stands there -/
theorem hr_unp2 (i j : Nat) {x y : Str} {k0 : Nat} {px py : Pos} (hc : X.calm = true) (hN : X.N.Nodup) (h : EvX X e Γ (.tup [d1, d2])) (k : Hr X rest ((Γ.set i (.pu d1)).set j (.pu d2)) P) (hi : X.N[i]? = some x := by rfl) (hj : X.N[j]? = some y := by rfl) (hx : Loc X.env.scope x := by first | exact Or.inl rfl | exact Or.inr rfl) (hy : Loc X.env.scope y := by first | exact Or.inl rfl | exact Or.inr rfl)
    (hf : X.fn x = true ∨ X.env.scope.names.lookup x = some .local := by first | exact .inl rfl | exact .inr rfl) (hf2 : X.fn y = true ∨ X.env.scope.names.lookup y = some .local := by first | exact .inl rfl | exact .inr rfl) (hs : swapsWithSole [.Tuple [.Name x px, .Name y py] k0 pos'] e pos.line X.env = pure false := by rfl) (hw : swappedStores [.Tuple [.Name x px, .Name y py] k0 pos'] e X.env = pure none := by rfl) :
    Hr X (.Assign [.Tuple [.Name x px, .Name y py] k0 pos'] e pos :: rest) Γ P := hr_step (fun t W0 W σ l E De q =>
  wS_of (ps_asg (pe_w X e) (pg_w X _) hs hw) (h t W0 W σ l E _ fun v W1 e1 r1 => tg_pr i j hc hN hi hj hx hy hf hf2 (vs := [i, j]) (by simp) (by simp) t W0 W1 σ v (l.ext E.tv e1) (E.ext e1) r1 _ fun σ' W2 e2 E2 _ => q _ W2 (l.ext E.tv (e1.trans e2)) (e1.f.trans e2.f) E2)) k
theorem hr_ret (h : EvX X e Γ d) (q : P.rt d Γ) : Hr X (.Return (some e) pos :: rest) Γ P := hr_cons (M := fun _ => False) (fun t W0 W σ _ l E De _ q2 _ _ =>
  wS_of (ps_ret (pe_w X e)) (h t W0 W σ l E _ fun v W1 e1 r1 => q2 v d σ W1 Γ (l.ext E.tv e1) e1.f (E.ext e1) r1 q)) fun _ z => z.elim
theorem hr_expr (h : EvX X e Γ d) (k : Hr X rest Γ P) (hs : swapsWith e none pos.line X.env = pure false := by rfl) : Hr X (.Expr e pos :: rest) Γ P := hr_step (fun t W0 W σ l E De q =>
  wS_of (ps_expr (pe_w X e) hs) (h t W0 W σ l E _ fun v W1 e1 r1 => q _ W1 (l.ext E.tv e1) e1.f (E.ext e1))) k
theorem hr_break (q : P.bk Γ) : Hr X (.Break pos :: rest) Γ P := hr_cons (M := fun _ => False) (fun t W0 W σ _ l E De _ _ q3 _ => wS_of ps_break (q3 σ W Γ l (.refl _) E q)) fun _ z => z.elim
theorem hr_if {M : Ctx → Prop} {bt bf : List Stmt} {k : Bool} (h : EvT X c Γ k) (h1 : k = true → Hr X bt Γ { P with nx := M }) (h2 : k = false → Hr X bf Γ { P with nx := M }) (h3 : ∀ Γ', M Γ' → Hr X rest Γ' P) : Hr X (.If c bt bf pos :: rest) Γ P :=
  hr_cons (M := M) (fun t W0 W σ en l E De q1 q2 q3 q4 => wS_of (ps_if (pt_w X c) (pss_w X bt) (pss_w X bf)) (h t W0 W σ l E _ fun W1 e1 => by
    cases k with
    | true => exact iteT (h1 rfl t W0 W1 σ en (l.ext E.tv e1) (E.ext e1) De (fun σ2 W2 Γ2 a b => q1 σ2 W2 Γ2 a (e1.f.trans b)) (fun v d σ2 W2 Γ2 a b => q2 v d σ2 W2 Γ2 a (e1.f.trans b)) (fun σ2 W2 Γ2 a b => q3 σ2 W2 Γ2 a (e1.f.trans b)) (fun σ2 W2 Γ2 a b => q4 σ2 W2 Γ2 a (e1.f.trans b)))
    | false => exact iteF (h2 rfl t W0 W1 σ en (l.ext E.tv e1) (E.ext e1) De (fun σ2 W2 Γ2 a b => q1 σ2 W2 Γ2 a (e1.f.trans b)) (fun v d σ2 W2 Γ2 a b => q2 v d σ2 W2 Γ2 a (e1.f.trans b)) (fun σ2 W2 Γ2 a b => q3 σ2 W2 Γ2 a (e1.f.trans b)) (fun σ2 W2 Γ2 a b => q4 σ2 W2 Γ2 a (e1.f.trans b))))) h3
/-- an if whose suite leaves (return, break); no else -/
theorem hr_iflv {bt : List Stmt} {k : Bool} (h : EvT X c Γ k) (h1 : k = true → Hr X bt Γ { P with nx := fun _ => False }) (h2 : k = false → Hr X rest Γ P) : Hr X (.If c bt [] pos :: rest) Γ P :=
  hr_if (M := fun Γ' => k = false ∧ Γ' = Γ) h (fun z => (h1 z).post (fun _ q => q.elim) (fun _ _ q => q) (fun _ q => q) (fun _ q => q)) (fun z => hr_nil Γ (.refl _) ⟨z, rfl⟩) fun Γ' ⟨z, e⟩ => by
    subst e
    exact h2 z
/-- a test that is false -/
theorem hr_ifF {bt : List Stmt} (h : EvT X c Γ false) (h2 : Hr X rest Γ P) : Hr X (.If c bt [] pos :: rest) Γ P := hr_iflv h (fun z => Bool.noConfusion z) fun _ => h2
theorem hr_for {ds : List D} (I : Nat → Ctx → Prop) (M : Ctx → Prop) (hp : PassesOwn (model X.prog X.w) X.A X.env X.xe) (hc : X.calm = true) (hit : ItX X tg iter Γ ds) (Γ0 : Ctx) (w0 : Wk Γ Γ0) (h0 : I 0 Γ0)
    (hs : ∀ (i : Nat) (d : D) (Γi : Ctx), ds[i]? = some d → I i Γi → ∃ Γ1 vs, TgX X tg d Γi Γ1 vs ∧ Hr X body Γ1 { P with nx := I (i + 1), ct := I (i + 1), bk := M }) (hd : ∀ Γ', I ds.length Γ' → Hr X rest Γ' P) (hb : ∀ Γ', M Γ' → Hr X rest Γ' P) (hfs : ∀ x, foldedSetIterable iter X.env x = pure x := by intro _; rfl) : Hr X (.For tg iter body [] pos :: rest) Γ P :=
  hr_cons (M := fun Γ' => I ds.length Γ' ∨ M Γ') (fun t W0 W σ en l E De q1 q2 q3 q4 => by
    obtain ⟨wi, hpi, hwi⟩ := hit
    refine wS_of (ps_for hp hc hpi (pg_w X tg) (pss_w X body) hfs) (hwi t W0 W σ l E _ fun J W1 e1 wd => ?_)
    obtain ⟨Gh, Y, w, hG, hY⟩ := wd
    refine for_it w (fun i σ' H' => ∃ (W' : Wd) (Γi : Ctx), W'.H = H' ∧ Le t W0 W' ∧ Same W1.F W'.F ∧ Env X.K t W0 W' σ' Γi ∧ I i Γi) ⟨W1, Γ0, rfl, l.ext E.tv e1, .refl _, (E.ext e1).wk w0, h0⟩ ?_ ?_ ?_
    · rintro i σ' H' _ ⟨W', Γi, rfl, _, s, _, _⟩
      exact hG W' s
    · rintro i x σ' H' H'' hi ⟨W', Γi, rfl, l', s, E', hI⟩ y
      obtain ⟨W'', rfl, e2, d, hd1, rd⟩ := hY i x W' H'' hi s y
      obtain ⟨Γ1, vs, tgx, hbody⟩ := hs i d Γi hd1 hI
      refine tgx t W0 W'' σ' x (l'.ext E'.tv e2) (E'.ext e2) rd _ fun σ3 W3 e3 E3 _ => ?_
      have s3 : Same W1.F W3.F := s.trans (e2.f.trans e3.f)
      refine hbody t W0 W3 σ3 en ((l'.ext E'.tv e2).ext (E'.ext e2).tv e3) E3 _ (fun σ4 W4 Γ4 a b c m => ⟨W4, Γ4, rfl, a, s3.trans b, c, m⟩) (fun v d σ4 W4 Γ4 a b c r m => q2 v d σ4 W4 Γ4 a (e1.f.trans (s3.trans b)) c r m) (fun σ4 W4 Γ4 a b c m => q1 σ4 W4 Γ4 a (e1.f.trans (s3.trans b)) c (.inr m)) (fun σ4 W4 Γ4 a b c m => ⟨W4, Γ4, rfl, a, s3.trans b, c, m⟩)
    · rintro σ' H' ⟨W', Γi, rfl, l', s, E', hI⟩
      exact q1 σ' W' Γi l' (e1.f.trans s) E' (.inl hI)) fun Γ' h => h.elim (hd Γ') (hb Γ')
/-- a for that folds -/
theorem hr_fold {α S : Type} (enc : α → D) (xs : List α) (ctx : S → Ctx) (step : S → α → S) (s0 : S) (J : List α → S → Prop) (hp : PassesOwn (model X.prog X.w) X.A X.env X.xe) (hc : X.calm = true) (hit : ItX X tg iter Γ (xs.map enc)) (w0 : Wk Γ (ctx s0)) (j0 : J [] s0)
    (hs : ∀ (pre : List α) (x : α) (post : List α) (s : S), xs = pre ++ x :: post → J pre s → J (pre ++ [x]) (step s x) ∧ ∃ Γ1 vs, TgX X tg (enc x) (ctx s) Γ1 vs ∧ Hr X body Γ1 { P with nx := fun Γ' => Γ' = ctx (step s x), ct := fun Γ' => Γ' = ctx (step s x), bk := fun _ => False })
    (hd : J xs (xs.foldl step s0) → Hr X rest (ctx (xs.foldl step s0)) P) (hfs : ∀ x, foldedSetIterable iter X.env x = pure x := by intro _; rfl) : Hr X (.For tg iter body [] pos :: rest) Γ P :=
  hr_for (fun i Γ' => Γ' = ctx ((xs.take i).foldl step s0) ∧ J (xs.take i) ((xs.take i).foldl step s0)) (fun _ => False) hp hc hit _ w0 ⟨rfl, j0⟩ (fun i d Γi hi hI => by
    obtain ⟨rfl, hj⟩ := hI
    rw [List.getElem?_map] at hi
    cases e : xs[i]? with
    | none =>
      rw [e] at hi
      cases hi
    | some x =>
      rw [e] at hi
      have ed : enc x = d := Option.some.inj hi
      subst ed
      obtain ⟨hlt, ex⟩ := List.getElem?_eq_some_iff.mp e
      have e1 : xs = xs.take i ++ x :: xs.drop (i + 1) := by
        rw [← ex, List.getElem_cons_drop, List.take_append_drop]
      have e2 : xs.take (i + 1) = xs.take i ++ [x] := by rw [List.take_add_one, e]; rfl
      have e3 : (xs.take (i + 1)).foldl step s0 = step ((xs.take i).foldl step s0) x := by rw [e2, List.foldl_append]; rfl
      obtain ⟨j1, Γ1, vs, tgx, hb⟩ := hs _ x _ _ e1 hj
      refine ⟨Γ1, vs, tgx, hb.post (fun Γ' z => ?_) (fun _ _ z => z) (fun _ z => z) (fun Γ' z => ?_)⟩
      · refine ⟨by rw [e3]; exact z, ?_⟩
        rw [e3, e2]
        exact j1
      · refine ⟨by rw [e3]; exact z, ?_⟩
        rw [e3, e2]
        exact j1) (fun Γ' hI => by
    obtain ⟨rfl, hj⟩ := hI
    rw [List.length_map, List.take_length] at hj ⊢
    exact hd hj) (fun _ z => z.elim) hfs
theorem hr_while (I : Nat → Ctx → Prop) (M : Ctx → Prop) (m0 : Nat) (hp : PassesOwn (model X.prog X.w) X.A X.env X.xe) (Γ0 : Ctx) (w0 : Wk Γ Γ0) (h0 : I m0 Γ0)
    (hs : ∀ (m : Nat) (Γm : Ctx), I m Γm → ∃ k, EvT X c Γm k ∧ (k = true → Hr X body Γm { P with nx := fun Γ' => ∃ m', m' < m ∧ I m' Γ', ct := fun Γ' => ∃ m', m' < m ∧ I m' Γ', bk := M }) ∧ (k = false → Hr X rest Γm P)) (hb : ∀ Γ', M Γ' → Hr X rest Γ' P) : Hr X (.While c body [] pos :: rest) Γ P :=
  hr_cons (M := fun Γ' => Hr X rest Γ' P) (fun t W0 W σ en l E De q1 q2 q3 q4 => by
    refine wS_of (ps_while hp (pt_w X c) (pss_w X body)) ⟨fun m σ' H' => ∃ (W' : Wd) (Γm : Ctx), W'.H = H' ∧ Le t W0 W' ∧ Same W.F W'.F ∧ Env X.K t W0 W' σ' Γm ∧ I m Γm, ⟨m0, W, Γ0, rfl, l, .refl _, E.wk w0, h0⟩, ?_⟩
    rintro m σ' H' ⟨W', Γm, rfl, l', s, E', hI⟩
    obtain ⟨k, ht, h1, h2⟩ := hs m Γm hI
    refine ht t W0 W' σ' l' E' _ fun W1 e1 => ?_
    have s1 : Same W.F W1.F := s.trans e1.f
    cases k with
    | false => exact iteF (q1 σ' W1 Γm (l'.ext E'.tv e1) s1 (E'.ext e1) (h2 rfl))
    | true =>
      refine iteT ⟨fun σ2 H2 => ∃ m', m' < m ∧ ∃ (W' : Wd) (Γm : Ctx), W'.H = H2 ∧ Le t W0 W' ∧ Same W.F W'.F ∧ Env X.K t W0 W' σ2 Γm ∧ I m' Γm, fun _ _ z => z, ?_⟩
      exact h1 rfl t W0 W1 σ' en (l'.ext E'.tv e1) (E'.ext e1) _ (fun σ4 W4 Γ4 a b c ⟨m', lt, hm⟩ => ⟨m', lt, W4, Γ4, rfl, a, s1.trans b, c, hm⟩) (fun v d σ4 W4 Γ4 a b c r m => q2 v d σ4 W4 Γ4 a (s1.trans b) c r m) (fun σ4 W4 Γ4 a b c m => q1 σ4 W4 Γ4 a (s1.trans b) c (hb Γ4 m)) (fun σ4 W4 Γ4 a b c ⟨m', lt, hm⟩ => ⟨m', lt, W4, Γ4, rfl, a, s1.trans b, c, hm⟩)) fun _ z => z
end
end G
-- Fw6
set_option maxHeartbeats 4000000
/-! Fw6: comprehensions; owned objects changed; defs by contract. -/
namespace G
open PySem PySem.Spec PyProof.Rows L2

abbrev bX (X : Cx) (scope : Scope) (s : Shared) (H : Hp) (C : Addr) (cl : List (Str × Addr)) (fp : List Addr) : Cx := X.blk s H scope (compEnvC scope cl C X.env) fp
def gB (X : Cx) (scope : Scope) (tg : Expr) : TG := fun v σ H Q => ∀ s H0 C cl fp, wG (bX X scope s H0 C cl fp) tg v σ H Q
def eB (X : Cx) (scope : Scope) (e : Expr) : TE := fun σ H Q => ∀ s H0 C cl fp, wE (bX X scope s H0 C cl fp) e σ H Q
def tsB (X : Cx) (scope : Scope) : List Expr → TT
  | [] => tYes
  | [c] => fun σ H Q => ∀ s H0 C cl fp, wT (bX X scope s H0 C cl fp) c σ H Q
  | _ => fun _ _ _ => False
theorem gB_ok (X : Cx) (scope : Scope) (tg : Expr) (s H0 C cl fp) : PG (bX X scope s H0 C cl fp) tg (gB X scope tg) := ⟨fun pins s' σ H v u Q I r h => (pg_w _ _).run pins s' σ H v u Q I r (h s H0 C cl fp)⟩
theorem eB_ok (X : Cx) (scope : Scope) (e : Expr) (s H0 C cl fp) : PE (bX X scope s H0 C cl fp) e (eB X scope e) := ⟨fun pins s' σ H Q I h => (pe_w _ _).run pins s' σ H Q I (h s H0 C cl fp)⟩
theorem tsB_ok (X : Cx) (scope : Scope) : ∀ (ifs : List Expr) (s H0 C cl fp), PTs (bX X scope s H0 C cl fp) ifs (tsB X scope ifs)
  | [], _, _, _, _, _ => pts_nil
  | [c], s, H0, C, cl, fp => pts_one ⟨fun pins s' σ H Q I h => (pt_w _ _).run pins s' σ H Q I (h s H0 C cl fp)⟩
  | _ :: _ :: _, _, _, _, _, _ => ⟨fun _ _ _ _ _ _ h => h.elim⟩
inductive EvTs (X : Cx) (scope : Scope) : List Expr → Ctx → Bool → Prop
  | nil {Γ : Ctx} : EvTs X scope [] Γ true
  | one {Γ : Ctx} {c : Expr} {k : Bool} (h : ∀ s H0 C cl fp, EvT (bX X scope s H0 C cl fp) c Γ k) : EvTs X scope [c] Γ k
theorem tsB_run {X : Cx} {scope : Scope} {ifs : List Expr} {Γ : Ctx} {k : Bool} (h : EvTs X scope ifs Γ k) {t : Option Addr} {W0 W : Wd} {σ : L2.St} (l : Le t W0 W) (E : Env X.K t W0 W σ Γ) {Q : Bool → Hp → Prop} (q : ∀ W2, Ext W W2 → Q k W2.H) : tsB X scope ifs σ W.H Q := by
  cases h with
  | nil => exact q W (.refl _)
  | one z => exact fun s H0 C cl fp => z s H0 C cl fp t W0 W σ l E Q q
section
variable {X : Cx} {Γ Γ' : Ctx} {e a b c tg iter elt : Expr} {es ifs : List Expr} {st : Stmt} {rest body : List Stmt} {pos p pos' apos spos : Pos} {d d1 d2 d3 : D} {P : Post} {scope : Scope} {own : List (Str × Nat)}
/-- the reading of a comprehension -/
theorem lc_read {α : Type} {enc : α → D} {xs : List α} {wi : TI} (hwi : ∀ (t : Option Addr) (W0 W : Wd) (σ : L2.St), Le t W0 W → Env X.K t W0 W σ Γ → ∀ R : It → Hp → Prop, (∀ J W1, Ext W W1 → WalkD J W1 (xs.map enc) → R J W1.H) → wi σ W.H R)
    (f : α → Bool) (g : α → D) (hl : xs.length ≤ 100000)
    (h : ∀ x ∈ xs, ∃ Γ1, (∀ s H0 C cl fp, TgX (bX X scope s H0 C cl fp) tg (enc x) (wipeC Γ (own.map (·.2))) Γ1 (own.map (·.2))) ∧ EvTs X scope ifs Γ1 (f x) ∧ (f x = true → ∀ s H0 C cl fp, EvX (bX X scope s H0 C cl fp) elt Γ1 (g x)))
    (t : Option Addr) (W0 W : Wd) (σ : L2.St) (l : Le t W0 W) (E : Env X.K t W0 W σ Γ) (Q : VK) (q : ∀ v W2, Ext W W2 → Fresh (.L ((xs.filter f).map g)) W W2 v → Q v W2.H) : tLc wi (gB X scope tg) (tsB X scope ifs) (eB X scope elt) (own.map (·.2)) σ W.H Q := by
  refine hwi t W0 W σ l E _ fun J W1 e1 wd D hD => ?_
  obtain ⟨Gh, Y, w, hG, hY⟩ := wd
  rw [List.length_map] at w
  have l1 := l.ext E.tv e1
  refine lc_it w (fun i H' => ∃ (W' : Wd) (acc : List V), W'.H = H' ∧ Ext W1 W' ∧ W'.F D = none ∧ W'.H D = some (.lst acc) ∧ RpA W'.F (((xs.take i).filter f).map g) acc) ?_ ?_ ?_ ?_
  · obtain ⟨W2, z1, z2, z3⟩ := lay (o := .lst []) hD
    exact ⟨W2, [], z1, z3, by rw [z2]; exact F_none hD, by rw [z1]; exact upd_same, rfl⟩
  · rintro i H' _ ⟨W', acc, rfl, x1, _, _, _⟩
    exact hG W' x1.f
  · rintro i x H' H'' hi ⟨W', acc, rfl, x1, x2, x3, x4⟩ y
    obtain ⟨W'', rfl, e2, d, hd, rd⟩ := hY i x W' H'' (by rw [List.length_map]; exact hi) x1.f y
    rw [List.getElem?_map] at hd
    have hx : xs[i]? = some xs[i] := List.getElem?_eq_getElem hi
    rw [hx] at hd
    have ed : enc xs[i] = d := Option.some.inj hd
    subst ed
    obtain ⟨Γ1, hb1, hb2, hb3⟩ := h xs[i] (List.getElem_mem hi)
    have e12 := e1.trans (x1.trans e2)
    have l2 := l.ext E.tv e12
    have E2 : Env X.K t W0 W'' (L2.wipe σ (own.map (·.2))) (wipeC Γ (own.map (·.2))) := (E.ext e12).wipe _
    have e2n : W''.F D = none := e2.nf x2 x3
    have e2h := e2.h _ _ x3
    have etk : xs.take (i + 1) = xs.take i ++ [xs[i]] := by rw [List.take_add_one, hx]; rfl
    intro s H0 C cl fp
    refine hb1 s H0 C cl fp t W0 W'' _ x l2 E2 rd _ fun σ' W3 e3 E3 hw => ⟨by rw [hw, wipe_wipe], ?_⟩
    refine tsB_run hb2 (l2.ext E2.tv e3) E3 fun W4 e4 => ?_
    have e24 := e3.trans e4
    cases hf : f xs[i] with
    | false =>
      refine iteF ⟨W4, acc, rfl, x1.trans (e2.trans e24), e24.nf e2n e2h, e24.h _ _ e2h, ?_⟩
      rw [etk, List.filter_append, List.map_append, List.filter_cons, if_neg (by rw [hf]; exact Bool.false_ne_true)]
      show RpA _ (_ ++ []) _
      rw [List.append_nil]
      exact x4.mono (e2.trans e24).f
    | true =>
      refine iteT ?_
      intro s H0 C cl fp
      refine hb3 hf s H0 C cl fp t W0 W4 σ' ((l2.ext E2.tv e3).ext E3.tv e4) (E3.ext e4) _ fun v W5 e5 r5 => ?_
      have e25 := e24.trans e5
      have hH := e25.h _ _ e2h
      have hF := e25.nf e2n e2h
      have hlen : acc.length ≤ xs.length := by
        rw [x4.len, List.length_map]
        refine Nat.le_trans (List.length_filter_le _ _) ?_
        rw [List.length_take]
        exact Nat.min_le_right _ _
      refine ⟨acc, hH, Nat.lt_of_le_of_lt (Nat.le_trans hlen hl) (by decide), ⟨W5.F, upd W5.H D (.lst (acc ++ [v])), fun a u ha => ?_⟩, acc ++ [v], rfl, ?_, hF, upd_same, ?_⟩
      · rw [upd_ne (fun z => by subst z; rw [hF] at ha; cases ha)]
        exact W5.ok _ _ ha
      · have x5 := x1.trans (e2.trans e25)
        refine ⟨fun a u ha => ?_, x5.f, x5.n⟩
        show upd W5.H D _ a = _
        rw [upd_ne (ne_of_none ha hD)]
        exact x5.h _ _ ha
      · rw [etk, List.filter_append, List.map_append, List.filter_cons, if_pos hf]
        exact (x4.mono (e2.trans e25).f).app (.one r5)
  · rintro H' ⟨W', acc, rfl, x1, x2, x3, x4⟩
    refine q _ W' (e1.trans x1) ⟨D, _, rfl, x2, e1.h.free hD, x3, acc, rfl, ?_⟩
    rw [List.take_length] at x4
    exact x4
theorem o_lc {α : Type} (own : List (Str × Nat)) (enc : α → D) (xs : List α) (f : α → Bool) (g : α → D) (hc : X.calm = true) (hN : X.N.Nodup) (hit : ItX X tg iter Γ (xs.map enc)) (ok : blkC X.N X.env.scope scope own = true) (hl : xs.length ≤ 100000)
    (h : ∀ x ∈ xs, ∃ Γ1, (∀ s H0 C cl fp, TgX (bX X scope s H0 C cl fp) tg (enc x) (wipeC Γ (own.map (·.2))) Γ1 (own.map (·.2))) ∧ EvTs X scope ifs Γ1 (f x) ∧ (f x = true → ∀ s H0 C cl fp, EvX (bX X scope s H0 C cl fp) elt Γ1 (g x)))
    (hs : ∀ x, foldedSetIterable iter X.env x = pure x := by intro _; rfl) : EvO X (.ListComp elt [⟨tg, iter, ifs, 0⟩] scope pos) Γ (.L ((xs.filter f).map g)) := by
  obtain ⟨wi, hpi, hwi⟩ := hit
  exact fun t W0 W σ l E Q q => wE_of (pe_lc hc hN hpi (blkOk_by ok) (gB_ok X scope tg) (tsB_ok X scope ifs) (eB_ok X scope elt) hs) (lc_read hwi f g hl h t W0 W σ l E Q q)
/-- name = [..] on one line -/
theorem hr_lc {α : Type} (i : Nat) {y : Str} (own : List (Str × Nat)) (enc : α → D) (xs : List α) (f : α → Bool) (g : α → D) (hc : X.calm = true) (hN : X.N.Nodup) (hit : ItX X tg iter Γ (xs.map enc)) (ok : blkC X.N X.env.scope scope own = true) (hl : xs.length ≤ 100000)
    (hsw : swapsWith (.ListComp elt [⟨tg, iter, ifs, 0⟩] scope pos) (some (.Name y pos')) spos.line X.env = pure true)
    (h : ∀ x ∈ xs, ∃ Γ1, (∀ s H0 C cl fp, TgX (bX X scope s H0 C cl fp) tg (enc x) (wipeC Γ (own.map (·.2))) Γ1 (own.map (·.2))) ∧ EvTs X scope ifs Γ1 (f x) ∧ (f x = true → ∀ s H0 C cl fp, EvX (bX X scope s H0 C cl fp) elt Γ1 (g x)))
    (k : Hr X rest (Γ.set i (.ow (.one (.L ((xs.filter f).map g))))) P)
    (hy : X.N[i]? = some y := by rfl) (hyl : X.env.scope.names.lookup y = some .local := by rfl) (hlt : i < Γ.length := by exact Nat.le_of_ble_eq_true rfl)
    (hs : ∀ x, foldedSetIterable iter X.env x = pure x := by intro _; rfl) : Hr X (.Assign [.Name y pos'] (.ListComp elt [⟨tg, iter, ifs, 0⟩] scope pos) spos :: rest) Γ P := hr_step (fun t W0 W σ l E De q => by
  obtain ⟨wi, hpi, hwi⟩ := hit
  refine wS_of (ps_setLc hc hN hy hyl hsw hpi (blkOk_by ok) (gB_ok X scope tg) (tsB_ok X scope ifs) (eB_ok X scope elt) hs) ?_
  exact lc_read hwi f g hl h t W0 W σ l E _ fun v W2 e2 r2 => q _ W2 (l.ext E.tv e2) e2.f ((E.snocOw l e2 r2).mv1 E.len hlt)) k

/-! ### owned objects change -/
/-- slot i's object at p becomes o' -/
theorem Env.mut {K : PySem.W.Frag} {t : Option Addr} {W0 W : Wd} {σ : L2.St} {b b' : B} (E : Env K t W0 W σ Γ) (l : Le t W0 W) {i : Nat} (hi : Γ[i]? = some (.ow (.one b))) : ∃ p o, σ[i]? = some (some (.ref p)) ∧ W.H p = some o ∧ W.F p = none ∧ BR W.F o b ∧
    ∀ o', BR W.F o' b' → ∃ W2 : Wd, W2.H = upd W.H p o' ∧ W2.F = W.F ∧ Le t W0 W2 ∧ Env K t W0 W2 σ (Γ.set i (.ow (.one b'))) := by
  obtain ⟨hl, ⟨ow, h1, h2, h3⟩, ht0, ht⟩ := E
  obtain ⟨v, hv, p, o, rfl, hp, ho, hb⟩ := h3 i _ hi
  obtain ⟨q1, q2, _⟩ := h2 i p hp
  refine ⟨p, o, hv, ho, q1, hb, fun o' hb' => ?_⟩
  have hok : Same W.F (upd W.H p o') := fun a u ha => by
    rw [upd_ne (fun z => by subst z; rw [q1] at ha; cases ha)]
    exact W.ok _ _ ha
  refine ⟨⟨W.F, upd W.H p o', hok⟩, rfl, rfl, ⟨fun a u ha ne => ?_, l.f, l.n⟩, by rw [List.length_set]; exact hl, ⟨ow, h1, fun j a ha => ?_, fun j s hs => ?_⟩, ht0, fun a ha => ?_⟩
  · show upd W.H p o' a = _
    rw [upd_ne (ne_of_none ha q2)]
    exact l.h a u ha ne
  · obtain ⟨z1, z2, u, z3⟩ := h2 j a ha
    refine ⟨z1, z2, ?_⟩
    show ∃ o, upd W.H p o' a = some o
    by_cases e : a = p
    · subst e
      exact ⟨_, upd_same⟩
    · exact ⟨u, by rw [upd_ne e]; exact z3⟩
  · by_cases e : i = j
    · subst e
      have hlt := (List.getElem?_eq_some_iff.mp hs).1
      rw [List.length_set] at hlt
      rw [List.getElem?_set_self hlt] at hs
      cases hs
      exact ⟨_, hv, p, o', rfl, hp, upd_same, hb'⟩
    · rw [List.getElem?_set_ne e] at hs
      have q := h3 j s hs
      have np : ∀ a, ow j a → a ≠ p := fun a ha z => e (h1 i j a (by rw [z]; exact hp) ha)
      cases s with
      | un => trivial
      | pu d => exact q
      | scr ns => exact q
      | vol Pv =>
        obtain ⟨a, u, x, ta, y1, y2⟩ := q
        refine ⟨a, u, x, ta, ?_, y2⟩
        show upd W.H p o' a = _
        rw [upd_ne (fun z => by
          obtain ⟨_, u', z2⟩ := ht0 a ta
          rw [z, q2] at z2
          cases z2)]
        exact y1
      | ow o2 =>
        cases o2 with
        | one b2 =>
          obtain ⟨w, x, p2, u, y1, y2, y3, y4⟩ := q
          exact ⟨w, x, p2, u, y1, y2, by show upd W.H p o' p2 = _; rw [upd_ne (np _ y2)]; exact y3, y4⟩
        | many bs =>
          obtain ⟨w, x, p2, ps, y1, y2, y3, y4, y5, y6, y7⟩ := q
          refine ⟨w, x, p2, ps, y1, y2, y3, y4, by show upd W.H p o' p2 = _; rw [upd_ne (np _ y2)]; exact y5, y6, fun m q' b' a1 a2 => ?_⟩
          obtain ⟨u, z1, z2⟩ := y7 m q' b' a1 a2
          exact ⟨u, by show upd W.H p o' q' = _; rw [upd_ne (np _ (y3 _ (List.mem_of_getElem? a1)))]; exact z1, z2⟩
  · obtain ⟨z1, u, z2⟩ := ht a ha
    refine ⟨z1, ?_⟩
    show ∃ o, upd W.H p o' a = some o
    by_cases e : a = p
    · subst e
      exact ⟨_, upd_same⟩
    · exact ⟨u, by rw [upd_ne e]; exact z2⟩
/-- an own object becomes data -/
theorem hr_frz (i : Nat) {o : B} (hi : Γ[i]? = some (.ow (.one o)) := by rfl) (k : Hr X rest (Γ.set i (.pu o.d)) P) : Hr X rest Γ P := fun t W0 W σ en l E De q1 q2 q3 q4 => by
  have l0 := l
  have E0 := E
  obtain ⟨hl, ⟨ow, h1, h2, h3⟩, ht0, ht⟩ := E
  obtain ⟨v, hv, p, ob, rfl, hp, ho, hb⟩ := h3 i _ hi
  obtain ⟨z1, z2, _⟩ := h2 i p hp
  have s0 : Same W.F (upd W.F p ob) := same_put z1
  have hpt : ∀ a, t = some a → a ≠ p := fun a ha z => by
    obtain ⟨_, u', z3⟩ := ht0 a ha
    rw [z, z2] at z3
    cases z3
  have E' : Env X.K t W0 (W.put p ob ho) σ (Γ.set i (.pu o.d)) := by
    refine ⟨by rw [List.length_set]; exact hl, ⟨fun j a => j ≠ i ∧ ow j a, fun j k a x y => h1 j k a x.2 y.2, fun j a x => ?_, fun j s hs => ?_⟩, ht0, fun a ha => ?_⟩
    · obtain ⟨y1, y2, u, y3⟩ := h2 j a x.2
      have np : a ≠ p := fun z => x.1 (h1 j i a x.2 (by rw [z]; exact hp))
      exact ⟨by show upd W.F p ob a = none; rw [upd_ne np]; exact y1, y2, u, y3⟩
    · by_cases e : i = j
      · subst e
        have hlt := (List.getElem?_eq_some_iff.mp hs).1
        rw [List.length_set] at hlt
        rw [List.getElem?_set_self hlt] at hs
        cases hs
        exact ⟨_, hv, (hb.mono s0).rp upd_same⟩
      · rw [List.getElem?_set_ne e] at hs
        have q := h3 j s hs
        cases s with
        | un => trivial
        | pu d =>
          obtain ⟨w, x, y⟩ := q
          exact ⟨w, x, y.mono s0⟩
        | scr ns =>
          obtain ⟨w, x, y⟩ := q
          exact ⟨w, x, sql_same s0 y⟩
        | vol Pv => exact q
        | ow o2 =>
          cases o2 with
          | one b2 =>
            obtain ⟨w, x, p2, u, y1, y2, y3, y4⟩ := q
            exact ⟨w, x, p2, u, y1, ⟨fun z => e z.symm, y2⟩, y3, y4.mono s0⟩
          | many bs =>
            obtain ⟨w, x, p2, ps, y1, y2, y3, y4, y5, y6, y7⟩ := q
            refine ⟨w, x, p2, ps, y1, ⟨fun z => e z.symm, y2⟩, fun q' hq => ⟨fun z => e z.symm, y3 q' hq⟩, y4, y5, y6, fun m q' b' a1 a2 => ?_⟩
            obtain ⟨u, w1, w2⟩ := y7 m q' b' a1 a2
            exact ⟨u, w1, w2.mono s0⟩
    · obtain ⟨y1, y2⟩ := ht a ha
      exact ⟨by show upd W.F p ob a = none; rw [upd_ne (hpt a ha)]; exact y1, y2⟩
  have l' : Le t W0 (W.put p ob ho) := ⟨l.h, l.f.trans s0, fun a y1 y2 => by
    by_cases e : a = p
    · subst e
      exact z2
    · have y3 : upd W.F p ob a ≠ none := y2
      rw [upd_ne e] at y3
      exact l.n a y1 y3⟩
  exact k t W0 (W.put p ob ho) σ en l' E' De (fun σ2 W2 Γ2 a b => q1 σ2 W2 Γ2 a (s0.trans b)) (fun v d σ2 W2 Γ2 a b => q2 v d σ2 W2 Γ2 a (s0.trans b)) (fun σ2 W2 Γ2 a b => q3 σ2 W2 Γ2 a (s0.trans b)) (fun σ2 W2 Γ2 a b => q4 σ2 W2 Γ2 a (s0.trans b))
theorem ixN_nat {n j : Nat} (hj : j < n) : ixN n (j : Int) = some j := by
  unfold ixN
  rw [if_pos (by omega), if_pos (by omega)]
  simp
/-- xs[j] = e, xs one's own -/
theorem hr_setL (i : Nat) {x : Str} {xs : List D} {j : Nat} {px : Pos} (he : EvX X e Γ d) (hb : EvX X b Γ (.int (j : Int))) (k : Hr X rest (Γ.set i (.ow (.one (.L (xs.set j d))))) P) (hj : j < xs.length) (hi : Γ[i]? = some (.ow (.one (.L xs))) := by rfl) (hN : X.N[i]? = some x := by rfl) (hv : Vis X.env.scope x := by first | exact Or.inl rfl | exact Or.inr (Or.inl rfl) | exact Or.inr (Or.inr rfl))
    (hd : (x == ("__debug__" : Str)) = false := by decide) (hcd : (x == ("__classdict__" : Str)) = false := by decide) (hs : swapsWithSole [.Subscript (.Name x px) b pos'] e pos.line X.env = pure false := by rfl) (hw : swappedStores [.Subscript (.Name x px) b pos'] e X.env = pure none := by rfl)
    (ha : ∀ v, assign (.Subscript (.Name x px) b pos') X.env v = (do
      let ov ← holding [v] (eval (.Name x px) X.env)
      let iv ← holding [v, ov] (eval b X.env)
      standAt pos'
      holding [v, ov, iv] (setItem ov iv v)
      release [v, ov, iv] []) := by intro _; rfl) :
    Hr X (.Assign [.Subscript (.Name x px) b pos'] e pos :: rest) Γ P := hr_step (fun t W0 W σ l E De q =>
  wS_of (ps_asg (pe_w X e) (pg_sub (pe_var hN hv hd hcd) (pe_w X b) set_list ha) hs hw) (he t W0 W σ l E _ fun v W1 e1 r1 => by
    have E1 := E.ext e1
    have l1 := l.ext E.tv e1
    obtain ⟨p0, _, hσ, _⟩ := E1.mut (b' := .L []) l1 hi
    refine ⟨_, hσ, hb t W0 W1 σ l1 E1 _ fun v2 W2 e2 r2 => ?_⟩
    have r2 : v2 = .int (j : Int) := r2
    subst r2
    obtain ⟨p, o, hσ2, ho, _, ⟨xs', rfl, hx⟩, up⟩ := (E1.ext e2).mut (b' := .L (xs.set j d)) (l1.ext E1.tv e2) hi
    rw [hσ] at hσ2
    cases hσ2
    obtain ⟨W3, z1, z2, z3, z4⟩ := up (.lst (xs'.set j v)) ⟨_, rfl, hx.set (r1.mono e2.f)⟩
    refine ⟨_, xs', (j : Int), j, rfl, rfl, ho, ixN_nat (by rw [hx.len]; exact hj), ?_⟩
    rw [← z1]
    exact q σ W3 z3 (by rw [z2]; exact e1.f.trans e2.f) z4)) k
/-- xs.append(e), xs one's own -/
theorem hr_app (i : Nat) {x : Str} {xs : List D} {px cpos : Pos} (he : EvX X e Γ d) (k : Hr X rest (Γ.set i (.ow (.one (.L (xs ++ [d]))))) P) (hz : xs.length < 100000) (hi : Γ[i]? = some (.ow (.one (.L xs))) := by rfl) (hN : X.N[i]? = some x := by rfl) (hv : Vis X.env.scope x := by first | exact Or.inl rfl | exact Or.inr (Or.inl rfl) | exact Or.inr (Or.inr rfl))
    (hd : (x == ("__debug__" : Str)) = false := by decide) (hcd : (x == ("__classdict__" : Str)) = false := by decide) (hsw : swapsWith (.Call (.Attribute (.Name x px) "append" apos) [e] [] cpos) none pos.line X.env = pure false := by rfl)
    (hbase : attributeBase (.Name x px) "append" X.env (eval (.Name x px) X.env) = eval (.Name x px) X.env := by rfl)
    (hfew : ((backTo cpos (starEach [e] X.env)).all (fun x => !x.1) && (backToKw cpos (keywordEach [] X.env)).all (fun x => x.1.isSome)
      && decide (([e] : List Expr).length + ([] : List Keyword).length + (if ([] : List Keyword).isEmpty then 0 else 1) < 30)) = true := by rfl)
    (hline : (apos.endLine == cpos.line) = true := by rfl) (hst : starEach [e] X.env = (false, eval e X.env) :: starEach [] X.env := by rfl) :
    Hr X (.Expr (.Call (.Attribute (.Name x px) "append" apos) [e] [] cpos) pos :: rest) Γ P := hr_step (fun t W0 W σ l E De q => by
  obtain ⟨p0, _, hσ, ho0, _, ⟨xs0, rfl, hx0⟩, _⟩ := E.mut (b' := .L []) l hi
  refine wS_of (ps_expr (pe_bm PySem.F.plainAttrs_list PySem.F.slot_list_append PySem.F.type_list_append mt_append (pe_var hN hv hd hcd) (pa_cons (pe_w X e) pa_nil hst) hbase hfew hline hst rfl) hsw) ⟨_, hσ, .inl ⟨rfl, _, SqL.of ho0⟩, he t W0 W σ l E _ fun v W1 e1 r1 => ?_⟩
  obtain ⟨p, o, hσ2, ho, _, ⟨xs', rfl, hx⟩, up⟩ := (E.ext e1).mut (b' := .L (xs ++ [d])) (l.ext E.tv e1) hi
  rw [hσ] at hσ2
  cases hσ2
  obtain ⟨W3, z1, z2, z3, z4⟩ := up (.lst (xs' ++ [v])) ⟨_, rfl, hx.app (.one r1)⟩
  refine ⟨_, xs', v, rfl, rfl, ho, Nat.lt_trans (by rw [hx.len]; exact hz) (by decide), ?_⟩
  show De.nx σ (upd W1.H _ (.lst (xs' ++ [v])))
  rw [← z1]
  exact q σ W3 z3 (by rw [z2]; exact e1.f) z4) k
/-- d[k] = v, d one's own -/
def dput : List Int → List D → Int → D → List Int × List D
  | k :: ks, d :: ds, i, z => if k = i then (k :: ks, z :: ds) else (k :: (dput ks ds i z).1, d :: (dput ks ds i z).2)
  | ks, ds, i, z => (ks ++ [i], ds ++ [z])
theorem any_key {ps : List (Key × V)} {ks : List Int} (h : ps.map (·.1) = ks.map Sum.inl) (i : Int) : (ps.any fun kv => decide (kv.1 = Sum.inl i)) = decide (i ∈ ks) := by
  induction ps generalizing ks with
  | nil =>
    cases ks with
    | nil => rfl
    | cons k ks => cases h
  | cons a b ih =>
    cases ks with
    | nil => cases h
    | cons k ks =>
      have h2 : a.1 :: b.map (·.1) = Sum.inl k :: ks.map Sum.inl := h
      have e1 : a.1 = Sum.inl k := (List.cons.inj h2).1
      rw [List.any_cons, ih (List.cons.inj h2).2, e1]
      by_cases z : k = i
      · subst z
        simp
      · have z1 : ¬ (Sum.inl k : Key) = Sum.inl i := fun y => z (Sum.inl.inj y)
        have z2 : ¬ i = k := fun y => z y.symm
        simp [z1, z2]
theorem dput_new {z : D} {i : Int} : ∀ {ks : List Int} {ds : List D}, i ∉ ks → ks.length = ds.length → dput ks ds i z = (ks ++ [i], ds ++ [z])
  | [], [], _, _ => rfl
  | k :: ks, d :: ds, h, hl => by
    unfold dput
    rw [if_neg (fun y => h (by rw [y]; exact List.mem_cons_self)), dput_new (fun y => h (List.mem_cons_of_mem _ y)) (by simpa using hl)]
    rfl
  | [], _ :: _, _, hl => by simp at hl
  | _ :: _, [], _, hl => by simp at hl
theorem map_no {v : V} {i : Int} : ∀ {ps : List (Key × V)} {ks : List Int}, ps.map (·.1) = ks.map Sum.inl → i ∉ ks → ps.map (fun kv => if kv.1 = Sum.inl i then (kv.1, v) else kv) = ps
  | [], _, _, _ => rfl
  | a :: b, [], h, _ => by cases h
  | a :: b, k :: ks, h, n => by
    have h2 : a.1 :: b.map (·.1) = Sum.inl k :: ks.map Sum.inl := h
    have e1 : a.1 = Sum.inl k := (List.cons.inj h2).1
    rw [List.map_cons, map_no (List.cons.inj h2).2 (fun z => n (List.mem_cons_of_mem _ z)), if_neg]
    intro z
    rw [e1] at z
    exact n (by rw [Sum.inl.inj z]; exact List.mem_cons_self)
theorem putK_rp {F : Hp} {z : D} {v : V} (hv : Rp F z v) (i : Int) : ∀ {ks : List Int} {ds : List D} {ps : List (Key × V)}, ps.map (·.1) = ks.map Sum.inl → RpA F ds (ps.map (·.2)) → ks.Nodup →
    (putK ps (Sum.inl i) v).map (·.1) = (dput ks ds i z).1.map Sum.inl ∧ RpA F (dput ks ds i z).2 ((putK ps (Sum.inl i) v).map (·.2)) := by
  intro ks ds ps hk hd hn
  have hl : ks.length = ds.length := by
    have h1 := congrArg List.length hk
    have h2 := hd.len
    rw [List.length_map, List.length_map] at h1
    rw [List.length_map] at h2
    omega
  unfold putK
  rw [any_key hk]
  by_cases hm : i ∈ ks
  · rw [if_pos (decide_eq_true hm)]
    clear hl
    induction ks generalizing ds ps with
    | nil => cases hm
    | cons k ks ih =>
      cases ps with
      | nil => cases hk
      | cons a b =>
        have h2 : a.1 :: b.map (·.1) = Sum.inl k :: ks.map Sum.inl := hk
        have e1 : a.1 = Sum.inl k := (List.cons.inj h2).1
        have e2 := (List.cons.inj h2).2
        cases ds with
        | nil =>
          cases hd
        | cons d ds =>
          obtain ⟨w, ws, ew, hw, hs⟩ := hd
          rw [List.map_cons] at ew
          cases ew
          obtain ⟨n1, n2⟩ := List.nodup_cons.mp hn
          rw [List.map_cons]
          unfold dput
          by_cases e : k = i
          · subst e
            rw [if_pos rfl, if_pos e1]
            rw [map_no e2 n1]
            exact ⟨hk, v, _, rfl, hv, hs⟩
          · rw [if_neg e, if_neg (fun y => e (by rw [e1] at y; exact Sum.inl.inj y))]
            have hm2 : i ∈ ks := by
              rcases List.mem_cons.mp hm with y | y
              · exact (e y.symm).elim
              · exact y
            obtain ⟨r1, r2⟩ := ih e2 hs n2 hm2
            refine ⟨?_, a.2, _, rfl, hw, r2⟩
            rw [List.map_cons, r1, e1]
            rfl
  · rw [if_neg (by rw [decide_eq_false hm]; exact Bool.false_ne_true), dput_new hm hl]
    refine ⟨?_, ?_⟩
    · rw [List.map_append, hk, List.map_append]
      rfl
    · rw [List.map_append]
      exact hd.app (.one hv)
theorem dput_len (z : D) (i : Int) : ∀ (ks : List Int) (ds : List D), ks.length = ds.length → (dput ks ds i z).1.length ≤ ks.length + 1
  | [], [], _ => by simp [dput]
  | k :: ks, d :: ds, h => by
    unfold dput
    by_cases e : k = i
    · rw [if_pos e]
      simp
    · rw [if_neg e]
      have := dput_len z i ks ds (by simpa using h)
      simp only [List.length_cons]
      omega
  | [], _ :: _, h => by simp at h
  | _ :: _, [], h => by simp at h
/-- x[b] = e, x one's own dict -/
theorem hr_setD (i : Nat) {x : Str} {ks : List Int} {ds : List D} {j : Int} {px : Pos} (hu : X.A.units + 1 < cLine) (he : EvX X e Γ d) (hb : EvX X b Γ (.int j)) (k : Hr X rest (Γ.set i (.ow (.one (.Dc (dput ks ds j d).1 (dput ks ds j d).2)))) P) (hn : ks.Nodup) (hj : ks.length < 100000) (hi : Γ[i]? = some (.ow (.one (.Dc ks ds))) := by rfl) (hN : X.N[i]? = some x := by rfl) (hv : Vis X.env.scope x := by first | exact Or.inl rfl | exact Or.inr (Or.inl rfl) | exact Or.inr (Or.inr rfl))
    (hd : (x == ("__debug__" : Str)) = false := by decide) (hcd : (x == ("__classdict__" : Str)) = false := by decide) (hs : swapsWith e (some (.Subscript (.Name x px) b pos')) pos.line X.env = pure false := by rfl) :
    Hr X (.Assign [.Subscript (.Name x px) b pos'] e pos :: rest) Γ P := hr_step (fun t W0 W σ l E De q =>
  wS_of (ps_dput hu (pe_var hN hv hd hcd) (pe_w X b) (pe_w X e) hs) (he t W0 W σ l E _ fun v W1 e1 r1 => by
    have E1 := E.ext e1
    have l1 := l.ext E.tv e1
    obtain ⟨p0, _, hσ, _⟩ := E1.mut (b' := .L []) l1 hi
    refine ⟨_, hσ, hb t W0 W1 σ l1 E1 _ fun v2 W2 e2 r2 => ?_⟩
    have r2 : v2 = .int j := r2
    subst r2
    obtain ⟨p, o, hσ2, ho, _, ⟨ps, rfl, hk, hx⟩, up⟩ := (E1.ext e2).mut (b' := .Dc (dput ks ds j d).1 (dput ks ds j d).2) (l1.ext E1.tv e2) hi
    rw [hσ] at hσ2
    cases hσ2
    obtain ⟨y1, y2⟩ := putK_rp (r1.mono e2.f) j hk hx hn
    obtain ⟨W3, z1, z2, z3, z4⟩ := up (.dK (putK ps (Sum.inl j) v)) ⟨_, rfl, y1, y2⟩
    have hlen : ps.length = ks.length := by
      have := congrArg List.length hk
      rw [List.length_map, List.length_map] at this
      exact this
    refine ⟨_, W3.H, rfl, .inl ⟨ps, Sum.inl j, ho, rfl, by rw [hlen]; exact Nat.lt_trans hj (by decide), z1⟩, ?_⟩
    exact q σ W3 z3 (by rw [z2]; exact e1.f.trans e2.f) z4)) k
end
end G
-- Fw7
set_option maxHeartbeats 4000000
/-! Fw7: defs by contract, the text by places. -/
namespace G
open PySem PySem.Spec PyProof.Rows L2

def topS (i : Nat) : Stmt := PySem.Challenge.pw_eatenorders_k40_whole_plays_counted_and.main.body.getD i (.Pass ⟨0, 0, 0, 0⟩)

/-- a def that may be called by its name -/
structure Cal (P : Program) (w : World) (K : PySem.W.Frag) (mg : Str → Option Value) (base : Heap) (k : Nat) (x : Str) (sp : Sp) : Prop where
  ex : ∃ (f : Addr) (fd : FuncData) (ps : List Str), FnOk P w K mg base CX0 k f fd ps sp ∧ mg x = some (.ref f) ∧ PySem.W.keepIn K (.ref f) = true ∧ L2.Binds K fd ps []
/-- a def's promise: R of the arguments and the result -/
def spF (R : List D → D → Prop) : Sp := fun vs H Q _ => ∃ (W : Wd) (ds : List D) (d : D), W.H = H ∧ RpA W.F ds vs ∧ R ds d ∧ ∀ v W2, Ext W W2 → Rp W2.F d v → Q v W2.H
/-- the def of the text that stands there -/
structure Df (K : PySem.W.Frag) (mg : Str → Option Value) (x : Str) (st : Stmt) (ps : List Str) : Prop where
  ex : ∃ f fd, Fun K x x st f fd ∧ mg x = some (.ref f) ∧ Binds K fd ps []
abbrev bdX (P : Program) (w : World) (K : PySem.W.Frag) (mg : Str → Option Value) (base : Heap) (N : List Str) (x : Str) (st : Stmt) (f : Addr) (cdv : Value) (A : Around) (outer : List PySem.Env) (s : Shared) (H : Hp) (E : XK) : Cx :=
  (cxOf CX0 P w K mg base N x (defScope st) f cdv A outer s H E).nox
def ctx0 (n : Nat) (ds : List D) : Ctx := ds.map Slot.pu ++ List.replicate (n - ds.length) .un
def ctxN : List Str → List D → Ctx
  | [], _ => []
  | _ :: N, d :: ds => .pu d :: ctxN N ds
  | _ :: N, [] => .un :: ctxN N []
theorem ctxN_nil : ∀ N : List Str, ctxN N [] = List.replicate N.length .un
  | [] => rfl
  | _ :: N => by
    show Slot.un :: ctxN N [] = _
    rw [ctxN_nil N]
    rfl
theorem ctxN_eq : ∀ {N : List Str} {ds : List D}, ds.length ≤ N.length → ctx0 N.length ds = ctxN N ds
  | N, [], _ => by
    rw [ctxN_nil]
    rfl
  | [], _ :: _, h => by simp at h
  | x :: N, d :: ds, h => by
    have ih := ctxN_eq (N := N) (ds := ds) (by simpa using h)
    show _ = Slot.pu d :: ctxN N ds
    rw [← ih]
    unfold ctx0
    rw [List.length_cons, List.length_cons, Nat.add_sub_add_right]
    rfl
theorem env_start {K : PySem.W.Frag} {W : Wd} {N : List Str} {ds : List D} {vs : List V} (h : RpA W.F ds vs) (hl : ds.length ≤ N.length) : Env K none W W (L2.start N vs) (ctx0 N.length ds) := by
  have hv := h.len
  refine ⟨?_, ⟨fun _ _ => False, fun _ _ _ z _ => z.elim, fun _ _ z => z.elim, fun i s hs => ?_⟩, fun a z => (by cases z), fun a z => (by cases z)⟩
  · unfold L2.start ctx0
    rw [List.length_append, List.length_append, List.length_map, List.length_map, List.length_replicate, List.length_replicate, hv]
  · unfold ctx0 at hs
    unfold L2.start
    by_cases hi : i < ds.length
    · rw [List.getElem?_append_left (by rw [List.length_map]; exact hi), List.getElem?_map] at hs
      rw [List.getElem?_append_left (by rw [List.length_map, hv]; exact hi), List.getElem?_map]
      have e : ds[i]? = some ds[i] := List.getElem?_eq_getElem hi
      rw [e] at hs
      have es : s = .pu ds[i] := (Option.some.inj hs).symm
      subst es
      obtain ⟨v, h1, h2⟩ := h.get' e
      rw [h1]
      exact ⟨v, rfl, h2⟩
    · rw [List.getElem?_append_right (by rw [List.length_map]; omega)] at hs
      have e := List.mem_of_getElem? hs
      have es := (List.mem_replicate.mp e).2
      subst es
      trivial
section
variable {P : Program} {w : World} {K : PySem.W.Frag} {mg : Str → Option Value} {base : Heap} {x : Str} {st : Stmt} {N ps : List Str} {k : Nat} {R : List D → D → Prop}
theorem mk_cal (D0 : Df K mg x st ps) (S : FnScope N ps (defScope st)) (hps : ps.length ≤ N.length) (len : ∀ ds d, R ds d → ds.length = ps.length)
    (body : ∀ (f : Addr) (cdv : Value) (A : Around) (outer : List PySem.Env) (s : Shared) (H : Hp) (E : XK), Room k (bdX P w K mg base N x st f cdv A outer s H E).A → ∀ ds d, R ds d →
      Hr (bdX P w K mg base N x st f cdv A outer s H E) (defBody st) (ctxN N ds) { rt := fun d' _ => d' = d, nx := fun _ => d = .non }) : Cal P w K mg base (k + 1) x (spF R) := by
  obtain ⟨f, fd, F, hm, hb⟩ := D0.ex
  refine ⟨f, fd, ps, F.ok S (fun vs H Q E h => ?_) (fun cdv A outer s H vs Q E hr h => ?_), hm, F.kp, hb⟩
  · obtain ⟨W, ds, d, _, h1, h2, _⟩ := h
    rw [h1.len, len ds d h2]
  · obtain ⟨W, ds, d, rfl, h1, h2, h3⟩ := h
    refine ⟨_, pss_w _ _, body f cdv A outer s W.H E hr ds d h2 none W W _ trivial (.refl _ _) (ctxN_eq (N := N) (ds := ds) (by rw [len ds d h2]; exact hps) ▸ env_start h1 (by rw [len ds d h2]; exact hps)) _ (fun σ2 W2 Γ2 l2 _ E2 e => ?_) (fun v d' σ2 W2 Γ2 l2 _ E2 r2 e => ?_) (fun _ _ _ _ _ _ z => z.elim) (fun _ _ _ _ _ _ z => z.elim)⟩
    · have e : d = .non := e
      subst e
      exact h3 .non W2 l2.ext0 rfl
    · have e : d' = d := e
      subst e
      exact h3 v W2 l2.ext0 r2
end
section
variable {X : Cx} {Γ : Ctx} {e : Expr} {es : List Expr} {pos p : Pos} {d : D} {k j : Nat} {x : Str} {R : List D → D → Prop}
theorem x_call {ds : List D} (c : Cal X.prog X.w X.K X.mg X.base k x (spF R)) (hr : Room j X.A) (hk : k ≤ j) (ha : EvA X (e :: es) Γ ds) (hR : R ds d) (hg : Gl X x := by rfl)
    (hdb : (x == ("__debug__" : Str)) = false := by decide) (he : starEach (e :: es) X.env = (false, eval e X.env) :: starEach es X.env := by rfl) (hpl : (backTo pos (starEach es X.env)).any (·.1) = false := by rfl) :
    EvX X (.Call (.Name x p) (e :: es) [] pos) Γ d := fun t W0 W σ l E Q q => by
  obtain ⟨f, fd, ps, F, hm, kp, b⟩ := c.ex
  exact wE_of (pe_call F (hr.mono hk) hg hm kp b .nil pass0 (pa_w X _) hdb he hpl) (ha t W0 W σ l E _ fun vs W1 e1 r1 => ⟨W1, ds, d, rfl, by rw [List.append_nil]; exact r1, hR, fun v W2 e2 r2 => q v W2 (e1.trans e2) r2⟩)
end
end G
-- Fw8
set_option maxHeartbeats 4000000
/-! Fw8: rules that the layer lacks: chains of any length, t[::-1] of a tuple, d.update(d2), tuple(range(a, b, c)), lists of own objects. -/
namespace G
open PySem PySem.Spec PyProof.Rows L2
/-! ### t[::-1] of a tuple -/
section
variable {prog : Program} {w : World} {A : Around} {E : Value → Shared → Prop} {s : Shared}
theorem sliceApplied_rev {sl : Addr} {vl vu vs : Value} {n : Nat} {Q : Int × Int × Nat → Shared → Prop} (hs : s.heap.IsSliceOf sl vl vu vs) (pl : IsPart vl none) (pu : IsPart vu none) (ps : IsPart vs (some (-1)))
    (h : Q ((n : Int) - 1, -1, n) s) : wpAny (model prog w) A (Builtin.Slice.sliceApplied (.ref sl) (pure (n : Int))) Q E s := by
  obtain ⟨os, hos, hcs, hds⟩ := id hs
  unfold Builtin.Slice.sliceApplied Builtin.Slice.sliceFields
  refine wpAny_bind (wpAny_bind (wpAny_field hos hds (x := vl) rfl (wpAny_bind (wpAny_field hos hds (x := vu) rfl (wpAny_bind (wpAny_field hos hds (x := vs) rfl (wpAny_pure ?_)))))))
  refine wpAny_bind (HT.slicePart_ ps ?_)
  show wpAny _ _ (if ((-1 : Int) == 0) = true then _ else _) _ _ s
  rw [if_neg (by decide)]
  refine wpAny_bind (HT.slicePart_ pl (wpAny_bind (HT.slicePart_ pu (wpAny_bind (wpAny_pure ?_)))))
  show wpAny _ _ (match Builtin.Slice.sliceAdjust none none (-1) (n : Int) with | (lo, hi) => pure (lo, (-1 : Int), Builtin.Slice.slicePlaces lo hi (-1))) _ _ s
  have e1 : Builtin.Slice.sliceAdjust none none (-1) (n : Int) = ((n : Int) - 1, -1) := by
    unfold Builtin.Slice.sliceAdjust
    simp
  rw [e1]
  show wpAny _ _ (pure ((n : Int) - 1, (-1 : Int), Builtin.Slice.slicePlaces ((n : Int) - 1) (-1) (-1))) _ _ s
  have e2 : Builtin.Slice.slicePlaces ((n : Int) - 1) (-1) (-1) = n := by
    unfold Builtin.Slice.slicePlaces
    have h1 : ¬ ((-1 : Int) > 0) := by decide
    simp only [h1, if_false]
    rw [show (- -1 : Int) = 1 by decide, Int.ediv_one]
    split <;> omega
  rw [e2]
  exact wpAny_pure h
theorem pick_rev (xs : Array Value) : ((List.range xs.size).filterMap fun (m : Nat) => xs[(((xs.size : Int) - 1) + (m : Int) * (-1)).toNat]?).toArray = xs.toList.reverse.toArray := by
  have e3 : (List.range xs.size).filterMap (fun (m : Nat) => xs[(((xs.size : Int) - 1) + (m : Int) * (-1)).toNat]?) = ((List.range xs.size).map fun k => xs.size - 1 - k).filterMap (xs[·]?) := by
    rw [List.filterMap_map]
    have aux : ∀ l : List Nat, (∀ m ∈ l, m < xs.size) → l.filterMap (fun (m : Nat) => xs[(((xs.size : Int) - 1) + (m : Int) * (-1)).toNat]?) = l.filterMap ((fun x => xs[x]?) ∘ fun k => xs.size - 1 - k) := by
      intro l
      induction l with
      | nil => intro _; rfl
      | cons m l ih =>
        intro h
        have e4 : (((xs.size : Int) - 1) + (m : Int) * (-1)).toNat = xs.size - 1 - m := by
          have := h m List.mem_cons_self
          omega
        rw [List.filterMap_cons, List.filterMap_cons, ih (fun m hm => h m (List.mem_cons_of_mem _ hm)), e4]
        rfl
    exact aux _ fun m hm => List.mem_range.mp hm
  rw [e3, PySem.W.krv_range, List.filterMap_reverse, PySem.W.krv_all]
theorem getItem_tuple_rev {t sl : Addr} {items : Array Value} {vl vu vs : Value} {Q : Value → Shared → Prop} (ht : IsTup s.heap t items) (hs : s.heap.IsSliceOf sl vl vu vs) (pl : IsPart vl none) (pu : IsPart vu none) (ps : IsPart vs (some (-1)))
    (h : Q (.ref s.heap.objs.size) { s with heap := s.heap.push { cls := .type "tuple", data := .seq items.toList.reverse.toArray } })
    (hsz : items.size ≤ sizeLine) : wpAny (model prog w) A (getItem (.ref t) (.ref sl)) Q E s := by
  have htake : sizeOk (.seq items.toList.reverse.toArray) := by
    show items.toList.reverse.toArray.size ≤ sizeLine
    rw [List.size_toArray, List.length_reverse, Array.length_toList]
    exact hsz
  obtain ⟨os, hos, hcs, hds⟩ := id hs
  have hTs : s.TypeIs (.ref sl) "slice" := ⟨os, hos, hcs⟩
  unfold getItem
  try with_reducible refine wpAny_holding ?_
  first | refine wpAny_bind (wpAny_pure ?_) | skip
  refine wpAny_bind (wpAny_sequenceKey ht.typeIs (by decide) ?_)
  refine wpAny_bind (wpAny_callSpecial?_slot (name := Str.ofString "__getitem__") ht.typeIs PyProof.Rows.slot_tuple_getitem
    (wpAny_call_entry PyProof.Rows.slot_tuple_getitem ht.typeIs entry_tuple_getitem ?_ (args_tuple_getitem _ _)))
  show wpAny _ _ (Builtin.Tuple.tupleItemsOf (.ref t) >>= _) _ _ s
  refine wpAny_bind (tupleItemsOf_ ht ?_)
  refine wpAny_bind (wpAny_typeOf hTs ?_)
  rw [if_pos (by decide)]
  refine wpAny_bind (sliceApplied_rev hs pl pu ps ?_)
  have hno : ¬ ((((items.size : Int) - 1) == 0 && (-1 : Int) == 1 && items.size == items.size) = true) := by
    intro q
    rw [Bool.and_eq_true, Bool.and_eq_true] at q
    exact absurd q.1.2 (by decide)
  show wpAny _ _ (if (((items.size : Int) - 1) == 0 && (-1 : Int) == 1 && items.size == items.size) = true then _ else _) _ _ s
  rw [if_neg hno, pick_rev]
  first
    | exact wpAny_bind (m := Builtin.Tuple.tupleExact _) (wpAny_newObj_type (wpAny_pure ⟨_, rfl, wpAny_pure h⟩) htake)
    | exact wpAny_bind (m := Builtin.Tuple.tupleExact _) (wpAny_newObj_type (wpAny_bind (wpAny_pure (wpAny_pure ⟨_, rfl, wpAny_pure h⟩))) htake)
    | exact wpAny_bind (wpAny_bind (m := Builtin.Tuple.tupleExact _) (wpAny_newObj_type (wpAny_pure (wpAny_pure ⟨_, rfl, wpAny_pure h⟩)) htake))
    | exact wpAny_bind (wpAny_bind (m := Builtin.Tuple.tupleExact _) (wpAny_newObj_type (wpAny_pure ⟨_, rfl, wpAny_pure h⟩) htake))
end
section
variable {X : Cx}
def tRevT (K : PySem.W.Frag) (te : TE) : TE := fun σ H Q => te σ H fun x H1 => ∃ a xs, x = .ref a ∧ SqT K H1 a xs ∧ ∀ p, H1 p = none → Q (.ref p) (upd H1 p (.tup xs.reverse))
theorem pe_revT {e : Expr} {te : TE} {k : Nat} {p1 p2 p3 pos : Pos} (he : PE X e te) : PE X (.Subscript e (.Slice none none (some (.UnaryOp .USub (.Constant (.int 1) k p1) p2)) p3) pos) (tRevT X.K te) := by
  refine ⟨fun pins s σ H Q I h => ?_⟩
  refine Subscript_ (thn (he.run pins s σ H _ I h) fun v s1 ⟨x, H1, I1, r1, q1⟩ => ?_)
  obtain ⟨a, xs, ex, hx, q⟩ := q1
  subst ex
  cases r1
  have hst : PO X (some (.UnaryOp .USub (.Constant (.int 1) k p1) p2)) (tPart (tUn (rU fun i => .int (-i)) (tC (.int 1)))) := po_some (pe_un un_neg pe_int)
  refine wpAny_Slice (thn (po_none.run pins s1 σ H1 (fun o H2 => o = none ∧ H2 = H1) I1 ⟨rfl, rfl⟩) fun vl s2 ⟨l, H2, I2, pl, el, e2⟩ => ?_)
  subst el e2
  refine thn (po_none.run pins s2 σ H2 (fun o H3 => o = none ∧ H3 = H2) I2 ⟨rfl, rfl⟩) fun vu s3 ⟨u, H3, I3, pu, eu, e3⟩ => ?_
  subst eu e3
  refine thn (hst.run pins s3 σ H3 (fun o H4 => o = some (-1) ∧ H4 = H3) I3 ⟨1, rfl, -1, rfl, rfl, rfl⟩) fun vs s4 ⟨o, H4, I4, ps, eo, e4⟩ => ?_
  subst eo e4
  have I5 : Inv X pins σ H4 { s4 with heap := s4.heap.push { cls := .type "slice", data := .fields #[vl, vu, vs] } } := I4.kept (t' := s4.toks) fun b ob q => Heap.get?_push_of_some _ q
  obtain ⟨its, r, ht, hz⟩ := I5.tuple hx
  have hlen := r.length
  show wpAny (model X.prog X.w) X.A (subscriptTail e (.Slice none none (some (.UnaryOp .USub (.Constant (.int 1) k p1) p2)) p3) (.ref a) (.ref s4.heap.objs.size)) (EP X pins σ Q) X.xe { s4 with heap := s4.heap.push { cls := .type "slice", data := .fields #[vl, vu, vs] } }
  refine tail_any (ops := [.ref a, .ref s4.heap.objs.size]) ht.typeIs PyProof.Rows.slot_tuple_getitem.lookup ?_ (by with_unfolding_all rfl)
  refine getItem_tuple_rev ht (Heap.IsSliceOf.new _ vl vu vs) pl pu ps ?_ (by rw [List.size_toArray]; omega)
  refine ⟨.ref _, _, I5.laid (t' := s4.toks) (o := .tup xs.reverse) (fun b ob q => Heap.get?_push_of_some _ q) (Nat.le_refl _) ?_, rfl, q _ (I5.hok.fresh (Nat.le_refl _))⟩
  exact ⟨by rw [List.length_reverse]; exact hz, _, r.reverse, ⟨_, Heap.get?_push_size _ rfl, rfl, 0, rfl⟩⟩
/-! ### a compare chain -/
def Ch (X : Cx) (pos : Pos) (ops : List CmpOp) (rs : List Expr) (Γ : Ctx) (d : D) (k : Bool) : Prop :=
  ∀ (t : Option Addr) (W0 W : Wd) (σ : L2.St) (v : V), Le t W0 W → Env X.K t W0 W σ Γ → Rq W d v → ∀ Q : VK, (∀ v' W2, Ext W W2 → Rp W2.F (.bl k) v' → Q v' W2.H) →
    ∀ (pins : List (Addr × Obj)) (s : Shared) (u : Value), Inv X pins σ W.H s → RelV v u → wpAny (model X.prog X.w) X.A (compareChain pos u ops (evalEach rs X.env)) (EP X pins σ Q) X.xe s
variable {Γ : Ctx} {a b c : Expr} {rs : List Expr} {pos : Pos} {d d2 : D} {k m : Bool} {op op' : CmpOp} {ops : List CmpOp}
theorem ch_last (h : EvX X b Γ d2) (ho : OpD X (compareOp op) d d2 (.bl k)) : Ch X pos [op] [b] Γ d k := fun t W0 W σ v l E r Q q pins s u I rv => by
  obtain ⟨ro, hr, hq⟩ := ho
  exact chain_last (thn ((pe_w _ _).run pins s σ W.H _ I (h t W0 W σ l E (fun y H2 => ∃ W2, H2 = W2.H ∧ Ext W W2 ∧ Rp W2.F d2 y) (fun v2 W2 e2 r2 => ⟨W2, rfl, e2, r2⟩))) fun w' s2 ⟨y, H2, I2, ry, W2, e, e2, r2⟩ => by
    subst e
    exact hr pins s2 σ W2.H v y u w' Q I2 rv ry (hq W2 v y (r.ext e2) r2.rq Q fun v' W3 e3 r3 => q v' W3 (e2.trans e3) r3))
theorem ch_link (h : EvX X b Γ d2) (ho : OpD X (compareOp op) d d2 (.bl m)) (hk : m = true → Ch X pos (op' :: ops) (c :: rs) Γ d2 k) : Ch X pos (op :: op' :: ops) (b :: c :: rs) Γ d (m && k) := fun t W0 W σ v l E r Q q pins s u I rv => by
  obtain ⟨ro, hr, hq⟩ := ho
  refine chain_link (thn ((pe_w _ _).run pins s σ W.H _ I (h t W0 W σ l E (fun y H2 => ∃ W2, H2 = W2.H ∧ Ext W W2 ∧ Rp W2.F d2 y) (fun v2 W2 e2 r2 => ⟨W2, rfl, e2, r2⟩))) fun w' s2 ⟨y, H2, I2, ry, W2, e, e2, r2⟩ => ?_)
  subst e
  refine thn (hr pins s2 σ W2.H v y u w' (fun z H3 => ∃ W3, H3 = W3.H ∧ Ext W2 W3 ∧ Rp W3.F (.bl m) z) I2 rv ry (hq W2 v y (r.ext e2) r2.rq _ fun v' W3 e3 r3 => ⟨W3, rfl, e3, r3⟩)) fun z s3 ⟨vz, H3, I3, rz, W3, e, e3, r3⟩ => ?_
  subst e
  have r3 : vz = .bl m := r3
  subst r3
  cases rz
  refine wpAny_truthy_bool ?_
  have e23 := e2.trans e3
  cases m with
  | false => exact ite_ff ⟨.bl false, W3.H, I3, rfl, q _ W3 e23 rfl⟩
  | true => exact ite_tt (hk rfl t W0 W3 σ y (l.ext E.tv e23) (E.ext e23) (r2.rq.ext e3) Q (fun v' W4 e4 r4 => q v' W4 (e23.trans e4) r4) pins s3 w' I3 ry)
theorem x_ch {r1 r2 : Expr} (h : EvX X a Γ d) (hc : Ch X pos (op :: op' :: ops) (r1 :: r2 :: rs) Γ d k) (hm : lastMarks (op :: op' :: ops) (r1 :: r2 :: rs) = false := by with_unfolding_all rfl) : EvX X (.Compare a (op :: op' :: ops) (r1 :: r2 :: rs) pos) Γ (.bl k) := fun t W0 W σ l E Q q => by
  unfold wE
  intro pins s I
  refine Compare_chain (thn ((pe_w _ _).run pins s σ W.H _ I (h t W0 W σ l E (fun y H2 => ∃ W2, H2 = W2.H ∧ Ext W W2 ∧ Rp W2.F d y) (fun v2 W2 e2 r2 => ⟨W2, rfl, e2, r2⟩))) fun u s2 ⟨y, H2, I2, ry, W2, e, e2, r2⟩ => ?_) hm
  subst e
  exact hc t W0 W2 σ y (l.ext E.tv e2) (E.ext e2) r2.rq Q (fun v' W4 e4 r4 => q v' W4 (e2.trans e4) r4) pins s2 u I2 ry
theorem x_revT {e : Expr} {kk : Nat} {p1 p2 p3 : Pos} {ds : List D} (h : RdX X e Γ (.tup ds)) : EvX X (.Subscript e (.Slice none none (some (.UnaryOp .USub (.Constant (.int 1) kk p1) p2)) p3) pos) Γ (.tup ds.reverse) := fun t W0 W σ l E Q q =>
  wE_of (pe_revT (pe_w X e)) (h t W0 W σ l E _ fun v W1 e1 r1 => by
    obtain ⟨p, xs, hv, hp, hx⟩ := r1
    subst hv
    exact ⟨p, xs, rfl, SqT.of (W1.ok _ _ hp), tup_new hx.rev fun v W2 e2 r2 => q v W2 (e1.trans e2) r2⟩)
/-! ### range(a, b, -1) -/
theorem it_rngD {tg : Expr} {p : Pos} (T : Bn X.mg) {i j : Int} (h1 : EvX X a Γ (.int i)) (h2 : EvX X b Γ (.int j)) (h3 : EvX X c Γ (.int (-1))) (hj : -(2 ^ 62) ≤ i ∧ i < 2 ^ 62 ∧ -(2 ^ 62) ≤ j ∧ j < 2 ^ 62) (hg : Gl X "range" := by rfl)
    (hs : starEach [a, b, c] X.env = (false, eval a X.env) :: starEach [b, c] X.env := by rfl) (hs2 : starEach [b, c] X.env = (false, eval b X.env) :: starEach [c] X.env := by rfl) (hs3 : starEach [c] X.env = (false, eval c X.env) :: starEach [] X.env := by rfl) (hpl : (backTo pos (starEach [b, c] X.env)).any (·.1) = false := by rfl) :
    ItX X tg (.Call (.Name "range" p) [a, b, c] [] pos) Γ ((rngD i (-1) (i - j).toNat).map D.int) :=
  ⟨_, pi_range3 hg T.range (pa_cons (pe_w X a) (pa_cons (pe_w X b) (pa_cons (pe_w X c) pa_nil hs3) hs2) hs) hs hpl, fun t W0 W σ l E R q => h1 t W0 W σ l E _ fun v W1 e1 r1 => h2 t W0 W1 σ (l.ext E.tv e1) (E.ext e1) _ fun v2 W2 e2 r2 => h3 t W0 W2 σ (l.ext E.tv (e1.trans e2)) (E.ext (e1.trans e2)) _ fun v3 W3 e3 r3 =>
    ⟨i, j, -1, _, by rw [show v = .int i from r1, show v2 = .int j from r2, show v3 = .int (-1) from r3], .neg hj.1 hj.2.1 hj.2.2.1 hj.2.2.2, q _ W3 (e1.trans (e2.trans e3)) (walkD_rng _ walk_rangeC fun i H x H' y => y)⟩⟩
theorem walkD_enum {K : PySem.W.Frag} {W1 : Wd} {p : Addr} {ds : List D} {xs : List V} (hx : RpA W1.F ds xs) (hp : W1.F p = some (.lst xs)) (ids : List D) (hi : ∀ (i : Nat) (d : D), ds[i]? = some d → ids[i]? = some (D.tup [.int ((i : Nat) : Int), d])) (hl : ids.length = ds.length) : WalkD (Ite K p) W1 ids := by
  refine ⟨_, _, by rw [hl, ← hx.len]; exact walk_enum (K := K) (a := p) (xs := xs), fun W' s => SqL.of (W'.ok _ _ (s _ _ hp)), fun i v W' H' hlt s y => ?_⟩
  obtain ⟨T, x, z, rfl, hn, rfl, ex, ez⟩ := y
  cases ex
  obtain ⟨d, h1, h2⟩ := hx.get ez
  obtain ⟨W2, e1, e2, e3⟩ := layF (o := .tup [.int (i : Nat), z]) hn
  refine ⟨W2, e1, e3, D.tup [.int ((i : Nat) : Int), d], hi i d h1, T, _, rfl, by rw [e2]; exact upd_same, .int (i : Nat), [z], rfl, rfl, z, [], rfl, h2.mono (s.trans e3.f), rfl⟩
def enumD (ds : List D) : List D := ds.zipIdx.map fun x => .tup [.int (x.2 : Nat), x.1]
theorem enumD_get {ds : List D} {i : Nat} {d : D} (h : ds[i]? = some d) : (enumD ds)[i]? = some (.tup [.int (i : Nat), d]) := by
  unfold enumD
  rw [List.getElem?_map, List.getElem?_zipIdx, h]
  simp
theorem enumD_len (ds : List D) : (enumD ds).length = ds.length := by
  unfold enumD
  rw [List.length_map, List.length_zipIdx]
theorem it_enumL {elts : List Expr} {kk : Nat} {tpos p : Pos} (T : Bn X.mg) {ds : List D} (h : EvX X a Γ (.lst ds)) (hg : Gl X "enumerate" := by rfl) (hs : starEach [a] X.env = (false, eval a X.env) :: starEach [] X.env := by rfl) : ItX X (.Tuple elts kk tpos) (.Call (.Name "enumerate" p) [a] [] pos) Γ (enumD ds) :=
  ⟨_, pi_enum hg T.enumerate (pa_cons (pe_w X a) pa_nil hs) hs, fun t W0 W σ l E R q => h t W0 W σ l E _ fun v W1 e1 r1 => by
    obtain ⟨p, xs, hv, hp, hx⟩ := r1
    subst hv
    exact ⟨p, xs, rfl, SqL.of (W1.ok _ _ hp), q _ W1 e1 (walkD_enum hx hp _ (fun i d => enumD_get) (enumD_len ds))⟩⟩
end
end G
-- Fw9
set_option maxHeartbeats 4000000
/-! Fw9: lists of own objects; d.update(d2). -/
namespace G
open PySem PySem.Spec PyProof.Rows L2
section
variable {X : Cx} {Γ Γ' : Ctx} {e a b c tg iter elt : Expr} {es ifs : List Expr} {st : Stmt} {rest body : List Stmt} {pos p pos' apos spos cpos : Pos} {d d1 d2 d3 : D} {P : Post} {scope : Scope} {own : List (Str × Nat)}
/-! ### d.update(d2) -/
def rUpd : V → List V → Hp → VK → Prop := fun x xs H Q => ∃ (a b : Addr) (kvs more : List (Key × V)), x = .ref a ∧ xs = [.ref b] ∧ a ≠ b ∧ H a = some (.dK kvs) ∧ H b = some (.dK more) ∧ kvs.length + more.length ≤ sizeLine ∧ Q .non (upd H a (.dK (mergeK kvs more)))
theorem mt_update : MtR X "dict.update" rUpd := by
  intro pins s σ H x xs v us Q I rx r h
  obtain ⟨a, b, kvs, more, rfl, rfl, ne, ha, hb, hz, q⟩ := h
  obtain ⟨u, rfl, ru⟩ := vals1 r
  cases rx
  cases ru
  obtain ⟨z1, n1, vs1, rel1, d1⟩ := dk_of I.hok ha
  obtain ⟨z2, n2, vs2, rel2, d2⟩ := dk_of I.hok hb
  refine call_meetsIn PySem.F.slot_dict_update d1.typeIs PySem.F.entry_dict_update (PySem.F.args_dict_update_2 _ _) (meets_dict_update (mixKind X.prog X.w) a b ne n2) ⟨vs1, vs2, d1, d2, by rw [← rel1.length, ← rel2.length]; exact hz, fun h' d1' d2' sb => ?_⟩
  have he : ∃ q, h'.get? a = some q := let ⟨q, _, _, hq, _⟩ := d1'; ⟨q, hq⟩
  have hl : (mergeK kvs more).length ≤ sizeLine := Nat.le_trans (length_mergeK more kvs) hz
  refine ⟨.non, upd H a (.dK (mergeK kvs more)), ?_, rfl, q⟩
  exact d_write I (by rw [ha]; exact True.intro) sb he (dk_new hl n1 (KV.merge rel2 rel1) d1')
/-! ### lists of own objects -/
def FreshM (bs : List B) : VP := fun W W2 v => ∃ (p : Addr) (ps : List Addr), v = .ref p ∧ (p :: ps).Nodup ∧ (∀ q ∈ p :: ps, W2.F q = none ∧ W.H q = none) ∧ W2.H p = some (.lst (ps.map V.ref)) ∧ ps.length = bs.length ∧ ∀ (i : Nat) (q : Addr) (b : B), ps[i]? = some q → bs[i]? = some b → ∃ o, W2.H q = some o ∧ BR W2.F o b
theorem lcM_read {α : Type} {enc : α → D} {xs : List α} {wi : TI} (hwi : ∀ (t : Option Addr) (W0 W : Wd) (σ : L2.St), Le t W0 W → Env X.K t W0 W σ Γ → ∀ R : It → Hp → Prop, (∀ J W1, Ext W W1 → WalkD J W1 (xs.map enc) → R J W1.H) → wi σ W.H R)
    (g : α → B) (hl : xs.length ≤ 100000)
    (h : ∀ x ∈ xs, ∃ Γ1, (∀ s H0 C cl fp, TgX (bX X scope s H0 C cl fp) tg (enc x) (wipeC Γ (own.map (·.2))) Γ1 (own.map (·.2))) ∧ ∀ s H0 C cl fp, EvO (bX X scope s H0 C cl fp) elt Γ1 (g x))
    (t : Option Addr) (W0 W : Wd) (σ : L2.St) (l : Le t W0 W) (E : Env X.K t W0 W σ Γ) (Q : VK) (q : ∀ v W2, Ext W W2 → FreshM (xs.map g) W W2 v → Q v W2.H) : tLc wi (gB X scope tg) (tsB X scope []) (eB X scope elt) (own.map (·.2)) σ W.H Q := by
  refine hwi t W0 W σ l E _ fun J W1 e1 wd D hD => ?_
  obtain ⟨Gh, Y, w, hG, hY⟩ := wd
  rw [List.length_map] at w
  have l1 := l.ext E.tv e1
  refine lc_it w (fun i H' => ∃ (W' : Wd) (ps : List Addr), W'.H = H' ∧ Ext W1 W' ∧ (D :: ps).Nodup ∧ (∀ q ∈ D :: ps, W'.F q = none ∧ W1.H q = none) ∧ W'.H D = some (.lst (ps.map V.ref)) ∧ ps.length = i ∧ ∀ (j : Nat) (q : Addr) (b : B), ps[j]? = some q → (xs.map g)[j]? = some b → ∃ o, W'.H q = some o ∧ BR W'.F o b) ?_ ?_ ?_ ?_
  · obtain ⟨W2, z1, z2, z3⟩ := lay (o := .lst []) hD
    refine ⟨W2, [], z1, z3, by simp, fun q hq => ?_, by rw [z1]; exact upd_same, rfl, fun j q b h => by simp at h⟩
    have : q = D := by simpa using hq
    subst this
    exact ⟨by rw [z2]; exact F_none hD, hD⟩
  · rintro i H' _ ⟨W', ps, rfl, x1, _⟩
    exact hG W' x1.f
  · rintro i x H' H'' hi ⟨W', ps, rfl, x1, x2, x3, x4, x5, x6⟩ y
    obtain ⟨W'', rfl, e2, d, hd, rd⟩ := hY i x W' H'' (by rw [List.length_map]; exact hi) x1.f y
    rw [List.getElem?_map] at hd
    have hx : xs[i]? = some xs[i] := List.getElem?_eq_getElem hi
    rw [hx] at hd
    have ed : enc xs[i] = d := Option.some.inj hd
    subst ed
    obtain ⟨Γ1, hb1, hb3⟩ := h xs[i] (List.getElem_mem hi)
    have e12 := e1.trans (x1.trans e2)
    have l2 := l.ext E.tv e12
    have E2 : Env X.K t W0 W'' (L2.wipe σ (own.map (·.2))) (wipeC Γ (own.map (·.2))) := (E.ext e12).wipe _
    intro s H0 C cl fp
    refine hb1 s H0 C cl fp t W0 W'' _ x l2 E2 rd _ fun σ' W3 e3 E3 hw => ⟨by rw [hw, wipe_wipe], ?_⟩
    show eB X scope elt σ' W3.H _
    intro s H0 C cl fp
    refine hb3 s H0 C cl fp t W0 W3 σ' (l2.ext E2.tv e3) E3 _ fun v W5 e5 hfr => ?_
    obtain ⟨q0, o0, rfl, a1, a2, a3, a4⟩ := hfr
    have e25 := e2.trans (e3.trans e5)
    have hF : ∀ q ∈ D :: ps, W5.F q = none := fun q hq => by
      have hq' : ∃ o, W'.H q = some o := by
        rcases List.mem_cons.mp hq with z | z
        · exact ⟨_, by rw [z]; exact x4⟩
        · obtain ⟨j, hj, ej⟩ := List.mem_iff_getElem.mp z
          have e6 : ps[j]? = some q := by rw [List.getElem?_eq_getElem hj, ej]
          have hj2 : j < (xs.map g).length := by rw [List.length_map]; omega
          obtain ⟨o, ho, _⟩ := x6 j q _ e6 (List.getElem?_eq_getElem hj2)
          exact ⟨o, ho⟩
      obtain ⟨o, ho⟩ := hq'
      exact e25.nf (x3 q hq).1 ho
    have hH := e25.h _ _ x4
    have hq0 : q0 ∉ D :: ps := fun hq => by
      have hq' : ∃ o, W'.H q0 = some o := by
        rcases List.mem_cons.mp hq with z | z
        · exact ⟨_, by rw [z]; exact x4⟩
        · obtain ⟨j, hj, ej⟩ := List.mem_iff_getElem.mp z
          have e6 : ps[j]? = some q0 := by rw [List.getElem?_eq_getElem hj, ej]
          have hj2 : j < (xs.map g).length := by rw [List.length_map]; omega
          obtain ⟨o, ho, _⟩ := x6 j q0 _ e6 (List.getElem?_eq_getElem hj2)
          exact ⟨o, ho⟩
      obtain ⟨o, ho⟩ := hq'
      have := (e2.trans e3).h _ _ ho
      rw [a2] at this
      cases this
    have hDq : q0 ≠ D := fun z => hq0 (by rw [z]; exact List.mem_cons_self)
    have x5' := x1.trans e25
    refine ⟨ps.map V.ref, hH, Nat.lt_of_lt_of_le (by rw [List.length_map, x5]; exact hi) (Nat.le_trans hl (by decide)), ⟨W5.F, upd W5.H D (.lst (ps.map V.ref ++ [.ref q0])), fun a u ha => ?_⟩, ps ++ [q0], rfl, ?_, ?_, fun q hq => ?_, ?_, ?_, fun j q b hq hb => ?_⟩
    · rw [upd_ne (fun z => by subst z; rw [hF _ List.mem_cons_self] at ha; cases ha)]
      exact W5.ok _ _ ha
    · refine ⟨fun a u ha => ?_, x5'.f, x5'.n⟩
      show upd W5.H D _ a = _
      rw [upd_ne (ne_of_none ha hD)]
      exact x5'.h _ _ ha
    · rw [← List.cons_append]
      exact List.nodup_append.mpr ⟨x2, by simp, fun a ha b hb e => hq0 (by simp at hb; rw [← hb, ← e]; exact ha)⟩
    · rw [← List.cons_append] at hq
      rcases List.mem_append.mp hq with z | z
      · exact ⟨hF q z, (x3 q z).2⟩
      · have : q = q0 := by simpa using z
        subst this
        exact ⟨a1, (x1.trans (e2.trans e3)).h.free a2⟩
    · show upd W5.H D _ D = _
      rw [upd_same, List.map_append]
      rfl
    · rw [List.length_append, x5]
      rfl
    · show ∃ o, upd W5.H D _ q = some o ∧ BR W5.F o b
      by_cases ej : j < ps.length
      · rw [List.getElem?_append_left ej] at hq
        obtain ⟨o, z1, z2⟩ := x6 j q b hq hb
        have hm := List.mem_of_getElem? hq
        have nq : q ≠ D := fun z => (List.nodup_cons.mp x2).1 (by rw [← z]; exact hm)
        exact ⟨o, by rw [upd_ne nq]; exact e25.h _ _ z1, z2.mono e25.f⟩
      · rw [List.getElem?_append_right (Nat.le_of_not_lt ej)] at hq
        have hj0 : j - ps.length = 0 := by
          have := (List.getElem?_eq_some_iff.mp hq).1
          simpa using this
        rw [hj0] at hq
        have hq2 : q = q0 := (Option.some.inj hq).symm
        subst hq2
        have hji : j = i := by omega
        subst hji
        rw [List.getElem?_map, hx] at hb
        have hb2 : b = g xs[j] := (Option.some.inj hb).symm
        subst hb2
        exact ⟨o0, by rw [upd_ne hDq]; exact a3, a4⟩
  · rintro H' ⟨W', ps, rfl, x1, x2, x3, x4, x5, x6⟩
    exact q _ W' (e1.trans x1) ⟨D, ps, rfl, x2, fun q hq => ⟨(x3 q hq).1, e1.h.free (x3 q hq).2⟩, x4, by rw [x5, List.length_map], x6⟩
theorem Env.snocM {K : PySem.W.Frag} {t : Option Addr} {W0 W W2 : Wd} {σ : L2.St} (h : Env K t W0 W σ Γ) (l : Le t W0 W) (e : Ext W W2) {bs : List B} {v : V} (hv : FreshM bs W W2 v) : Env K t W0 W2 (σ ++ [some v]) (Γ ++ [.ow (.many bs)]) := by
  obtain ⟨p, ps, rfl, h1, h2, h3, h4, h5⟩ := hv
  refine h.snocG l e (fun a => a ∈ p :: ps) (fun a z => ⟨(h2 a z).2, (h2 a z).1, ?_⟩) ⟨_, rfl, p, ps, rfl, List.mem_cons_self, fun q hq => List.mem_cons_of_mem _ hq, h1, h3, h4, h5⟩
  rcases List.mem_cons.mp z with y | y
  · exact ⟨_, by rw [y]; exact h3⟩
  · obtain ⟨j, hj, ej⟩ := List.mem_iff_getElem.mp y
    have e6 : ps[j]? = some a := by rw [List.getElem?_eq_getElem hj, ej]
    have hj2 : j < bs.length := by omega
    obtain ⟨o, ho, _⟩ := h5 j a _ e6 (List.getElem?_eq_getElem hj2)
    exact ⟨o, ho⟩
/-- name = [fresh object for ..] -/
theorem hr_lcM {α : Type} (i : Nat) {y : Str} (own : List (Str × Nat)) (enc : α → D) (xs : List α) (g : α → B) (hc : X.calm = true) (hN : X.N.Nodup) (hit : ItX X tg iter Γ (xs.map enc)) (ok : blkC X.N X.env.scope scope own = true) (hl : xs.length ≤ 100000)
    (hsw : swapsWith (.ListComp elt [⟨tg, iter, [], 0⟩] scope pos) (some (.Name y pos')) spos.line X.env = pure true)
    (h : ∀ x ∈ xs, ∃ Γ1, (∀ s H0 C cl fp, TgX (bX X scope s H0 C cl fp) tg (enc x) (wipeC Γ (own.map (·.2))) Γ1 (own.map (·.2))) ∧ ∀ s H0 C cl fp, EvO (bX X scope s H0 C cl fp) elt Γ1 (g x))
    (k : Hr X rest (Γ.set i (.ow (.many (xs.map g)))) P)
    (hy : X.N[i]? = some y := by rfl) (hyl : X.env.scope.names.lookup y = some .local := by rfl) (hlt : i < Γ.length := by exact Nat.le_of_ble_eq_true rfl)
    (hs : ∀ x, foldedSetIterable iter X.env x = pure x := by intro _; rfl) : Hr X (.Assign [.Name y pos'] (.ListComp elt [⟨tg, iter, [], 0⟩] scope pos) spos :: rest) Γ P := hr_step (fun t W0 W σ l E De q => by
  obtain ⟨wi, hpi, hwi⟩ := hit
  refine wS_of (ps_setLc hc hN hy hyl hsw hpi (blkOk_by ok) (gB_ok X scope tg) (tsB_ok X scope []) (eB_ok X scope elt) hs) ?_
  exact lcM_read hwi g hl h t W0 W σ l E _ fun v W2 e2 r2 => q _ W2 (l.ext E.tv e2) e2.f ((E.snocM l e2 r2).mv1 E.len hlt)) k
/-- the object at p of slot i changes -/
theorem env_upd {K : PySem.W.Frag} {t : Option Addr} {W0 W : Wd} {σ : L2.St} {ow : Nat → Addr → Prop} {i : Nat} {p : Addr} {s' : Slot} (l : Le t W0 W) (hl : σ.length = Γ.length) (h1 : ∀ i j a, ow i a → ow j a → i = j) (h2 : ∀ i a, ow i a → W.F a = none ∧ W0.H a = none ∧ ∃ o, W.H a = some o) (h3 : ∀ (i : Nat) (s : Slot), Γ[i]? = some s → SlR K t W (ow i) s (σ[i]?)) (ht0 : Tv t W0) (ht : Tv t W)
    (hp : ow i p) (o' : HO) : ∃ W2 : Wd, W2.H = upd W.H p o' ∧ W2.F = W.F ∧ Le t W0 W2 ∧ (SlR K t W2 (ow i) s' (σ[i]?) → Env K t W0 W2 σ (Γ.set i s')) := by
  obtain ⟨q1, q2, _⟩ := h2 i p hp
  have hok : Same W.F (upd W.H p o') := fun a u ha => by
    rw [upd_ne (fun z => by subst z; rw [q1] at ha; cases ha)]
    exact W.ok _ _ ha
  refine ⟨⟨W.F, upd W.H p o', hok⟩, rfl, rfl, ⟨fun a u ha ne => ?_, l.f, l.n⟩, fun hs' => ⟨by rw [List.length_set]; exact hl, ⟨ow, h1, fun j a ha => ?_, fun j s hs => ?_⟩, ht0, fun a ha => ?_⟩⟩
  · show upd W.H p o' a = _
    rw [upd_ne (ne_of_none ha q2)]
    exact l.h a u ha ne
  · obtain ⟨z1, z2, u, z3⟩ := h2 j a ha
    refine ⟨z1, z2, ?_⟩
    show ∃ o, upd W.H p o' a = some o
    by_cases e : a = p
    · subst e
      exact ⟨_, upd_same⟩
    · exact ⟨u, by rw [upd_ne e]; exact z3⟩
  · by_cases e : i = j
    · subst e
      have hlt := (List.getElem?_eq_some_iff.mp hs).1
      rw [List.length_set] at hlt
      rw [List.getElem?_set_self hlt] at hs
      cases hs
      exact hs'
    · rw [List.getElem?_set_ne e] at hs
      have q := h3 j s hs
      have np : ∀ a, ow j a → a ≠ p := fun a ha z => e (h1 i j a (by rw [z]; exact hp) ha)
      cases s with
      | un => trivial
      | pu d => exact q
      | scr ns => exact q
      | vol Pv =>
        obtain ⟨a, u, x, ta, y1, y2⟩ := q
        refine ⟨a, u, x, ta, ?_, y2⟩
        show upd W.H p o' a = _
        rw [upd_ne (fun z => by
          obtain ⟨_, u', z2⟩ := ht0 a ta
          rw [z, q2] at z2
          cases z2)]
        exact y1
      | ow o2 =>
        cases o2 with
        | one b2 =>
          obtain ⟨w, x, p2, u, y1, y2, y3, y4⟩ := q
          exact ⟨w, x, p2, u, y1, y2, by show upd W.H p o' p2 = _; rw [upd_ne (np _ y2)]; exact y3, y4⟩
        | many bs =>
          obtain ⟨w, x, p2, ps, y1, y2, y3, y4, y5, y6, y7⟩ := q
          refine ⟨w, x, p2, ps, y1, y2, y3, y4, by show upd W.H p o' p2 = _; rw [upd_ne (np _ y2)]; exact y5, y6, fun m q' b' a1 a2 => ?_⟩
          obtain ⟨u, z1, z2⟩ := y7 m q' b' a1 a2
          exact ⟨u, by show upd W.H p o' q' = _; rw [upd_ne (np _ (y3 _ (List.mem_of_getElem? a1)))]; exact z1, z2⟩
  · obtain ⟨z1, u, z2⟩ := ht a ha
    refine ⟨z1, ?_⟩
    show ∃ o, upd W.H p o' a = some o
    by_cases e : a = p
    · subst e
      exact ⟨_, upd_same⟩
    · exact ⟨u, by rw [upd_ne e]; exact z2⟩
/-- slot i's j-th object changes -/
theorem Env.mutM {K : PySem.W.Frag} {t : Option Addr} {W0 W : Wd} {σ : L2.St} {bs : List B} {b b' : B} (E : Env K t W0 W σ Γ) (l : Le t W0 W) {i j : Nat} (hi : Γ[i]? = some (.ow (.many bs))) (hj : bs[j]? = some b) : ∃ (p : Addr) (ps : List Addr) (q : Addr) (o : HO), σ[i]? = some (some (.ref p)) ∧ W.H p = some (.lst (ps.map V.ref)) ∧ ps[j]? = some q ∧ (∀ (m : Nat) (q' : Addr) (b' : B), ps[m]? = some q' → bs[m]? = some b' → ∃ o, W.H q' = some o ∧ BR W.F o b') ∧ ps.length = bs.length ∧ ps.Nodup ∧ W.H q = some o ∧ BR W.F o b ∧
    ∀ o', BR W.F o' b' → ∃ W2 : Wd, W2.H = upd W.H q o' ∧ W2.F = W.F ∧ Le t W0 W2 ∧ Env K t W0 W2 σ (Γ.set i (.ow (.many (bs.set j b')))) := by
  obtain ⟨hl, ⟨ow, h1, h2, h3⟩, ht0, ht⟩ := E
  obtain ⟨v, hv, p, ps, rfl, hp, hps, hnd, hH, hlen, hall⟩ := h3 i _ hi
  have hjl := (List.getElem?_eq_some_iff.mp hj).1
  have hq : ps[j]? = some (ps[j]'(by omega)) := List.getElem?_eq_getElem (by omega)
  obtain ⟨o, ho, hb⟩ := hall j _ b hq hj
  have hown := hps _ (List.mem_of_getElem? hq)
  obtain ⟨n1, n2⟩ := List.nodup_cons.mp hnd
  refine ⟨p, ps, _, o, hv, hH, hq, hall, hlen, n2, ho, hb, fun o' hb' => ?_⟩
  obtain ⟨W2, z1, z2, z3, z4⟩ := env_upd (s' := .ow (.many (bs.set j b'))) l hl h1 h2 h3 ht0 ht hown o'
  refine ⟨W2, z1, z2, z3, z4 ⟨_, hv, p, ps, rfl, hp, hps, hnd, ?_, by rw [List.length_set]; exact hlen, fun m q' b2 e1 e2 => ?_⟩⟩
  · rw [z1, upd_ne (fun z => n1 (by rw [z]; exact List.mem_of_getElem? hq))]
    exact hH
  · rw [z1, z2]
    by_cases e : j = m
    · subst e
      rw [List.getElem?_set_self hjl] at e2
      cases e2
      rw [hq] at e1
      cases e1
      exact ⟨o', upd_same, hb'⟩
    · rw [List.getElem?_set_ne e] at e2
      obtain ⟨u, y1, y2⟩ := hall m q' b2 e1 e2
      refine ⟨u, ?_, y2⟩
      rw [upd_ne (fun z => e ?_)]
      · exact y1
      · subst z
        exact nd_ix n2 hq e1
/-- xs[j][k] = e, a list of own dicts -/
theorem hr_setND (i : Nat) {x : Str} {bs : List B} {ks : List Int} {ds : List D} {j : Nat} {n : Int} {px pa : Pos} (hu : X.A.units + 1 < cLine) (he : EvX X e Γ d) (ha : EvX X a Γ (.int (j : Int))) (hb : EvX X b Γ (.int n)) (k : Hr X rest (Γ.set i (.ow (.many (bs.set j (.Dc (dput ks ds n d).1 (dput ks ds n d).2))))) P) (hj : bs[j]? = some (.Dc ks ds)) (hn : ks.Nodup) (hz : ks.length < 100000)
    (hi : Γ[i]? = some (.ow (.many bs)) := by rfl) (hN : X.N[i]? = some x := by rfl) (hv : Vis X.env.scope x := by first | exact Or.inl rfl | exact Or.inr (Or.inl rfl) | exact Or.inr (Or.inr rfl))
    (hd : (x == ("__debug__" : Str)) = false := by decide) (hcd : (x == ("__classdict__" : Str)) = false := by decide) (hs : swapsWith e (some (.Subscript (.Subscript (.Name x px) a pa) b pos')) pos.line X.env = pure false := by rfl) (hpl : PlainIx a := by exact fun _ _ => rfl) :
    Hr X (.Assign [.Subscript (.Subscript (.Name x px) a pa) b pos'] e pos :: rest) Γ P := hr_step (fun t W0 W σ l E De q =>
  wS_of (ps_dput hu (pe_ix ix_list (pe_var hN hv hd hcd) (pe_w X a) hpl) (pe_w X b) (pe_w X e) hs) (he t W0 W σ l E _ fun v W1 e1 r1 => by
    have E1 := E.ext e1
    have l1 := l.ext E.tv e1
    obtain ⟨p, ps, q0, o, hσ, hH, hq, _⟩ := E1.mutM (b' := .L []) l1 hi hj
    refine ⟨_, hσ, ha t W0 W1 σ l1 E1 _ fun v2 W2 e2 r2 => ?_⟩
    have r2 : v2 = .int (j : Int) := r2
    subst r2
    refine ⟨p, ps.map V.ref, (j : Int), .ref q0, rfl, rfl, SqL.of (e2.h _ _ hH), ?_, ?_⟩
    · unfold atI
      rw [ixN_nat (by rw [List.length_map]; exact (List.getElem?_eq_some_iff.mp hq).1)]
      show (ps.map V.ref)[j]? = _
      rw [List.getElem?_map, hq]
      rfl
    · have E2 := E1.ext e2
      have l2 := l1.ext E1.tv e2
      refine hb t W0 W2 σ l2 E2 _ fun v3 W3 e3 r3 => ?_
      have r3 : v3 = .int n := r3
      subst r3
      obtain ⟨p', ps', q', o', hσ', hH', hq', _, _, _, ho', ⟨kps, rfl, hk, hx⟩, up⟩ := (E2.ext e3).mutM (b' := .Dc (dput ks ds n d).1 (dput ks ds n d).2) (l2.ext E2.tv e3) hi hj
      rw [hσ] at hσ'
      cases hσ'
      have e23 := e2.trans e3
      have hH2 := e23.h _ _ hH
      rw [hH2] at hH'
      have hps : ps' = ps := by
        have z := HO.lst.inj (Option.some.inj hH')
        exact (List.map_inj_right (fun _ _ h => V.ref.inj h)).mp z.symm
      subst hps
      rw [hq] at hq'
      cases hq'
      obtain ⟨y1, y2⟩ := putK_rp (r1.mono e23.f) n hk hx hn
      obtain ⟨W4, z1, z2, z3, z4⟩ := up (.dK (putK kps (Sum.inl n) v)) ⟨_, rfl, y1, y2⟩
      have hlen : kps.length = ks.length := by
        have := congrArg List.length hk
        rw [List.length_map, List.length_map] at this
        exact this
      refine ⟨_, W4.H, rfl, .inl ⟨kps, Sum.inl n, ho', rfl, by rw [hlen]; exact Nat.lt_trans hz (by decide), z1⟩, ?_⟩
      exact q σ W4 z3 (by rw [z2]; exact e1.f.trans e23.f) z4)) k
/-- xs[j].append(e), a list of own lists -/
theorem hr_appN (i : Nat) {x : Str} {bs : List B} {xs : List D} {j : Nat} {px pa : Pos} (ha : EvX X a Γ (.int (j : Int))) (he : EvX X e Γ d) (k : Hr X rest (Γ.set i (.ow (.many (bs.set j (.L (xs ++ [d])))))) P) (hj : bs[j]? = some (.L xs)) (hz : xs.length < 100000)
    (hi : Γ[i]? = some (.ow (.many bs)) := by rfl) (hN : X.N[i]? = some x := by rfl) (hv : Vis X.env.scope x := by first | exact Or.inl rfl | exact Or.inr (Or.inl rfl) | exact Or.inr (Or.inr rfl))
    (hd : (x == ("__debug__" : Str)) = false := by decide) (hcd : (x == ("__classdict__" : Str)) = false := by decide) (hsw : swapsWith (.Call (.Attribute (.Subscript (.Name x px) a pa) "append" apos) [e] [] cpos) none pos.line X.env = pure false := by rfl)
    (hbase : attributeBase (.Subscript (.Name x px) a pa) "append" X.env (eval (.Subscript (.Name x px) a pa) X.env) = eval (.Subscript (.Name x px) a pa) X.env := by rfl)
    (hfew : ((backTo cpos (starEach [e] X.env)).all (fun x => !x.1) && (backToKw cpos (keywordEach [] X.env)).all (fun x => x.1.isSome)
      && decide (([e] : List Expr).length + ([] : List Keyword).length + (if ([] : List Keyword).isEmpty then 0 else 1) < 30)) = true := by rfl)
    (hline : (apos.endLine == cpos.line) = true := by rfl) (hst : starEach [e] X.env = (false, eval e X.env) :: starEach [] X.env := by rfl) (hpl : PlainIx a := by exact fun _ _ => rfl) :
    Hr X (.Expr (.Call (.Attribute (.Subscript (.Name x px) a pa) "append" apos) [e] [] cpos) pos :: rest) Γ P := hr_step (fun t W0 W σ l E De q => by
  obtain ⟨p, ps, q0, o, hσ, hH, hq, _⟩ := E.mutM (b' := .L []) l hi hj
  refine wS_of (ps_expr (pe_bm PySem.F.plainAttrs_list PySem.F.slot_list_append PySem.F.type_list_append mt_append (pe_ix ix_list (pe_var hN hv hd hcd) (pe_w X a) hpl) (pa_cons (pe_w X e) pa_nil hst) hbase hfew hline hst rfl) hsw) ⟨_, hσ, ha t W0 W σ l E _ fun v2 W2 e2 r2 => ?_⟩
  have r2 : v2 = .int (j : Int) := r2
  subst r2
  refine ⟨p, ps.map V.ref, (j : Int), .ref q0, rfl, rfl, SqL.of (e2.h _ _ hH), ?_, ?_⟩
  · unfold atI
    rw [ixN_nat (by rw [List.length_map]; exact (List.getElem?_eq_some_iff.mp hq).1)]
    show (ps.map V.ref)[j]? = _
    rw [List.getElem?_map, hq]
    rfl
  · have E2 := E.ext e2
    have l2 := l.ext E.tv e2
    obtain ⟨p1, ps1, q1, o1, hσ1, hH1, hq1, _, _, _, ho1, ⟨xs1, rfl, hx1⟩, _⟩ := E2.mutM (b' := .L []) l2 hi hj
    rw [hσ] at hσ1
    cases hσ1
    rw [e2.h _ _ hH] at hH1
    have hps : ps1 = ps := (List.map_inj_right (fun _ _ h => V.ref.inj h)).mp (HO.lst.inj (Option.some.inj hH1)).symm
    subst hps
    rw [hq] at hq1
    cases hq1
    refine ⟨.inl ⟨rfl, _, SqL.of ho1⟩, he t W0 W2 σ l2 E2 _ fun v3 W3 e3 r3 => ?_⟩
    obtain ⟨p', ps', q', o', hσ', hH', hq', _, _, _, ho', ⟨xs', rfl, hx⟩, up⟩ := (E2.ext e3).mutM (b' := .L (xs ++ [d])) (l2.ext E2.tv e3) hi hj
    rw [hσ] at hσ'
    cases hσ'
    have e23 := e2.trans e3
    rw [e23.h _ _ hH] at hH'
    have hps : ps' = ps1 := (List.map_inj_right (fun _ _ h => V.ref.inj h)).mp (HO.lst.inj (Option.some.inj hH')).symm
    subst hps
    rw [hq] at hq'
    cases hq'
    obtain ⟨W4, z1, z2, z3, z4⟩ := up (.lst (xs' ++ [v3])) ⟨_, rfl, hx.app (.one r3)⟩
    refine ⟨_, xs', v3, rfl, rfl, ho', Nat.lt_trans (by rw [hx.len]; exact hz) (by decide), ?_⟩
    show De.nx σ (upd W3.H _ (.lst (xs' ++ [v3])))
    rw [← z1]
    exact q σ W4 z3 (by rw [z2]; exact e23.f) z4) k
end
end G
-- P1
set_option maxHeartbeats 4000000
/-! P1: plain.py -/
namespace G
open PySem PySem.Spec PyProof.Rows L2
def isNum : D → Bool
  | .int _ => true
  | _ => false
def isIntB : D → Bool
  | .int _ => true
  | .bl _ => true
  | _ => false
def isBlB : D → Bool
  | .bl _ => true
  | _ => false
def isStrB : D → Bool
  | .str _ => true
  | _ => false
def isTupB : D → Bool
  | .tup _ => true
  | _ => false
def isLstB : D → Bool
  | .lst _ => true
  | _ => false
theorem kit_int (d : D) : kitB (tyD d) "int" = some (isIntB d) := by
  cases d
  · show kitB "NoneType" "int" = some false; decide +kernel
  · show kitB "bool" "int" = some true; decide +kernel
  · show kitB "int" "int" = some true; decide +kernel
  · show kitB "str" "int" = some false; decide +kernel
  · show kitB "list" "int" = some false; decide +kernel
  · show kitB "tuple" "int" = some false; decide +kernel
  · show kitB "dict" "int" = some false; decide +kernel
  · show kitB "dict" "int" = some false; decide +kernel
theorem kit_bool (d : D) : kitB (tyD d) "bool" = some (isBlB d) := by
  cases d
  · show kitB "NoneType" "bool" = some false; decide +kernel
  · show kitB "bool" "bool" = some true; decide +kernel
  · show kitB "int" "bool" = some false; decide +kernel
  · show kitB "str" "bool" = some false; decide +kernel
  · show kitB "list" "bool" = some false; decide +kernel
  · show kitB "tuple" "bool" = some false; decide +kernel
  · show kitB "dict" "bool" = some false; decide +kernel
  · show kitB "dict" "bool" = some false; decide +kernel
theorem kit_str (d : D) : kitB (tyD d) "str" = some (isStrB d) := by
  cases d
  · show kitB "NoneType" "str" = some false; decide +kernel
  · show kitB "bool" "str" = some false; decide +kernel
  · show kitB "int" "str" = some false; decide +kernel
  · show kitB "str" "str" = some true; decide +kernel
  · show kitB "list" "str" = some false; decide +kernel
  · show kitB "tuple" "str" = some false; decide +kernel
  · show kitB "dict" "str" = some false; decide +kernel
  · show kitB "dict" "str" = some false; decide +kernel
theorem kit_tuple (d : D) : kitB (tyD d) "tuple" = some (isTupB d) := by
  cases d
  · show kitB "NoneType" "tuple" = some false; decide +kernel
  · show kitB "bool" "tuple" = some false; decide +kernel
  · show kitB "int" "tuple" = some false; decide +kernel
  · show kitB "str" "tuple" = some false; decide +kernel
  · show kitB "list" "tuple" = some false; decide +kernel
  · show kitB "tuple" "tuple" = some true; decide +kernel
  · show kitB "dict" "tuple" = some false; decide +kernel
  · show kitB "dict" "tuple" = some false; decide +kernel
theorem kit_list (d : D) : kitB (tyD d) "list" = some (isLstB d) := by
  cases d
  · show kitB "NoneType" "list" = some false; decide +kernel
  · show kitB "bool" "list" = some false; decide +kernel
  · show kitB "int" "list" = some false; decide +kernel
  · show kitB "str" "list" = some false; decide +kernel
  · show kitB "list" "list" = some true; decide +kernel
  · show kitB "tuple" "list" = some false; decide +kernel
  · show kitB "dict" "list" = some false; decide +kernel
  · show kitB "dict" "list" = some false; decide +kernel
theorem kit_two {K : PySem.W.Frag} {t n m : String} {p q : Bool} (h1 : kitB t n = some p) (h2 : kitB t m = some q) : PySem.W.kitAny K (.type t) [.type n, .type m] = some (p || q) := by
  have h0 : PySem.W.kitAny K (.type t) [.type m] = some q := kitAny_cons (kit_ty h2) (fun z => by subst z; rfl) (fun z => z)
  refine kitAny_cons (kit_ty h1) (fun z => ?_) (fun z => ?_)
  · subst z
    exact h0
  · subst z
    rfl
section
variable {P : Program} {w : World} {K : PySem.W.Frag} {mg : Str → Option Value} {base : Heap}
def R_is_number : List D → D → Prop := fun ds d => ∃ x, ds = [x] ∧ d = .bl (isNum x)
theorem sc6 : FnScope ["thing"] ["thing"] (defScope (topS 6)) := ⟨rfl, rfl, rfl, by decide +kernel, rfl, by decide +kernel, by decide +kernel⟩
theorem ok_is_number (T : Bn mg) (D0 : Df K mg "is_number" (topS 6) ["thing"]) : Cal P w K mg base 1 "is_number" (spF R_is_number) :=
  mk_cal D0 sc6 (by decide) (fun ds d ⟨x, h, _⟩ => by rw [h]; rfl) fun f cdv A outer s H E hr ds d ⟨x, h1, h2⟩ => by
    subst h1 h2
    refine hr_ret (x_and (x_isi T (x_nm 0).rd boot_int T.int (kit_int x)) fun _ => x_one (h := x_not (x_isi T (x_nm 0).rd PyProof.Rows.boot_bool T.bool (kit_bool x)))) ?_
    cases x <;> rfl
def R_is_from : List D → D → Prop := fun ds d => ∃ x k, ds = [x, .int k] ∧ d = .bl (match x with | .int i => decide (k ≤ i) | _ => false)
theorem sc7 : FnScope ["thing", "least"] ["thing", "least"] (defScope (topS 7)) := ⟨rfl, rfl, rfl, by decide +kernel, rfl, by decide +kernel, by decide +kernel⟩
theorem ok_is_from (D0 : Df K mg "is_from" (topS 7) ["thing", "least"]) (c1 : Cal P w K mg base 1 "is_number" (spF R_is_number)) : Cal P w K mg base 2 "is_from" (spF R_is_from) :=
  mk_cal D0 sc7 (by decide) (fun ds d ⟨x, k, h, _⟩ => by rw [h]; rfl) fun f cdv A outer s H E hr ds d ⟨x, k, h1, h2⟩ => by
    subst h1 h2
    cases x with
    | int i => exact hr_ret (x_and (x_call c1 hr (by decide) (a_cons (x_nm 0) a_nil) ⟨_, rfl, rfl⟩) fun _ => x_one (h := x_cmp (x_nm 0).rd (x_nm 1).rd d_ge)) rfl
    | _ => exact hr_ret (x_and (m := true) (x_call c1 hr (by decide) (a_cons (x_nm 0) a_nil) ⟨_, rfl, rfl⟩) fun z => (by cases z)) rfl
end
end G
-- P2
set_option maxHeartbeats 4000000
/-! P2: the rest of plain.py -/
namespace G
open PySem PySem.Spec PyProof.Rows L2
theorem _root_.L2.Room.u0 {k : Nat} {A : Around} (r : Room k A) : A.units < cLine := by have := r.un; omega
theorem _root_.L2.Room.u1 {k : Nat} {A : Around} (r : Room k A) : A.units + 1 < cLine := by have := r.un; omega
theorem _root_.L2.Room.u64 {k : Nat} {A : Around} (r : Room k A) : A.units + 64 < cLine := by have := r.un; omega
theorem _root_.L2.Room.u65 {k : Nat} {A : Around} (r : Room k A) : A.units + 65 < cLine := by have := r.un; omega
/-! ### nested data -/
def leafB : D → Bool
  | .lst _ => false
  | .tup _ => false
  | .dct _ _ => false
  | .frd _ _ => false
  | _ => true
def Okd : Nat → D → Prop
  | 0, x => leafB x = true
  | m + 1, x => leafB x = true ∨ ∃ ds, (x = .lst ds ∨ x = .tup ds) ∧ ds.length ≤ 100000 ∧ ∀ e ∈ ds, Okd m e
mutual
def tupD : D → D
  | .lst ds => .tup (tupDs ds)
  | .tup ds => .tup (tupDs ds)
  | d => d
def tupDs : List D → List D
  | [] => []
  | d :: ds => tupD d :: tupDs ds
end
mutual
def lstD : D → D
  | .lst ds => .lst (lstDs ds)
  | .tup ds => .lst (lstDs ds)
  | d => d
def lstDs : List D → List D
  | [] => []
  | d :: ds => lstD d :: lstDs ds
end
theorem tupDs_map : ∀ ds : List D, tupDs ds = ds.map tupD
  | [] => by rw [tupDs]; rfl
  | d :: ds => by rw [tupDs, tupDs_map ds]; rfl
theorem lstDs_map : ∀ ds : List D, lstDs ds = ds.map lstD
  | [] => by rw [lstDs]; rfl
  | d :: ds => by rw [lstDs, lstDs_map ds]; rfl
section
variable {X : Cx} {Γ : Ctx} {e : Expr} {d : D}
theorem rl {ds : List D} (h : EvO X e Γ (.L ds)) : RdX X e Γ (.lst ds) := EvO.rd h
theorem xl {ds : List D} (h : EvO X e Γ (.L ds)) : EvX X e Γ (.lst ds) := EvO.ev h
theorem rx (h : EvX X e Γ d) : RdX X e Γ d := EvX.rd h
end
theorem map_id' {α : Type} (xs : List α) : xs.map (fun x => x) = xs := List.map_id' xs
theorem filt_true {α : Type} (xs : List α) : xs.filter (fun _ => true) = xs := List.filter_eq_self.mpr fun _ _ => rfl
section
variable {P : Program} {w : World} {K : PySem.W.Frag} {mg : Str → Option Value} {base : Heap}
def R_is_within : List D → D → Prop := fun ds d => ∃ i a b : Int, ds = [.int i, .int a, .int b] ∧ d = .bl (decide (a ≤ i) && decide (i ≤ b))
theorem sc8 : FnScope ["thing", "least", "most"] ["thing", "least", "most"] (defScope (topS 8)) := ⟨rfl, rfl, rfl, by decide +kernel, rfl, by decide +kernel, by decide +kernel⟩
theorem ok_is_within (D0 : Df K mg "is_within" (topS 8) ["thing", "least", "most"]) (c1 : Cal P w K mg base 1 "is_number" (spF R_is_number)) : Cal P w K mg base 2 "is_within" (spF R_is_within) :=
  mk_cal D0 sc8 (by decide) (fun ds d ⟨i, a, b, h, _⟩ => by rw [h]; rfl) fun f cdv A outer s H E hr ds d ⟨i, a, b, h1, h2⟩ => by
    subst h1 h2
    refine hr_ret (x_and (x_call c1 hr (by decide) (a_cons (x_nm 0) a_nil) ⟨.int i, rfl, rfl⟩) fun _ => x_one (h := x_ch (x_nm 1) (ch_link (x_nm 0) d_le fun _ => ch_last (x_nm 2) d_le))) ?_
    rfl
def R_is_long : List D → D → Prop := fun ds d => ∃ (xs : List D) (n : Int), ds = [.tup xs, .int n] ∧ d = .bl (decide ((xs.length : Int) = n))
theorem sc9 : FnScope ["thing", "length"] ["thing", "length"] (defScope (topS 9)) := ⟨rfl, rfl, rfl, by decide +kernel, rfl, by decide +kernel, by decide +kernel⟩
theorem ok_is_long (T : Bn mg) (D0 : Df K mg "is_long" (topS 9) ["thing", "length"]) : Cal P w K mg base 1 "is_long" (spF R_is_long) :=
  mk_cal D0 sc9 (by decide) (fun ds d ⟨x, k, h, _⟩ => by rw [h]; rfl) fun f cdv A outer s H E hr ds d ⟨xs, n, h1, h2⟩ => by
    subst h1 h2
    exact hr_ret (x_and (x_isi T (x_nm 0).rd boot_tuple T.tuple (kit_tuple (.tup xs))) fun _ => x_one (h := x_cmp (x_lenT T (x_nm 0).rd).rd (x_nm 1).rd d_eq)) rfl
def R_tupled (m : Nat) : List D → D → Prop := fun ds d => ∃ x, ds = [x] ∧ Okd m x ∧ d = tupD x
theorem sc10 : FnScope ["value", "own"] ["value"] (defScope (topS 10)) := ⟨rfl, rfl, rfl, by decide +kernel, rfl, by decide +kernel, by decide +kernel⟩
theorem leaf_tupD {x : D} (h : leafB x = true) : tupD x = x := by cases x <;> first | rfl | cases h
theorem leaf_lstD {x : D} (h : leafB x = true) : lstD x = x := by cases x <;> first | rfl | cases h
theorem leaf_lt {x : D} (h : leafB x = true) : (isLstB x || isTupB x) = false := by cases x <;> first | rfl | cases h
theorem ok_tupled (T : Bn mg) (D0 : Df K mg "tupled" (topS 10) ["value"]) : ∀ m : Nat, Cal P w K mg base (m + 1) "tupled" (spF (R_tupled m))
  | 0 => mk_cal D0 sc10 (by decide) (fun ds d ⟨x, h, _⟩ => by rw [h]; rfl) fun f cdv A outer s H E hr ds d ⟨x, h1, h2, h3⟩ => by
    subst h1 h3
    have h2 : leafB x = true := h2
    rw [leaf_tupD h2]
    refine hr_ret (x_ifX (k := false) (t_val ((x_isi2 T (x_nm 0).rd boot_list T.list boot_tuple T.tuple (kit_two (kit_list x) (kit_tuple x))).to ?_)) (fun z => by cases z) fun _ => x_nm 0) rfl
    rw [leaf_lt h2]
  | m + 1 => mk_cal D0 sc10 (by decide) (fun ds d ⟨x, h, _⟩ => by rw [h]; rfl) fun f cdv A outer s H E hr ds d ⟨x, h1, h2, h3⟩ => by
    subst h1 h3
    rcases h2 with h2 | ⟨ys, h2, h3, h4⟩
    · rw [leaf_tupD h2]
      refine hr_ret (x_ifX (k := false) (t_val ((x_isi2 T (x_nm 0).rd boot_list T.list boot_tuple T.tuple (kit_two (kit_list x) (kit_tuple x))).to ?_)) (fun z => by cases z) fun _ => x_nm 0) rfl
      rw [leaf_lt h2]
    · have c := ok_tupled T D0 m
      have e : tupD x = .tup ((ys.filter fun _ => true).map tupD) := by
        rw [filt_true, ← tupDs_map]
        rcases h2 with h2 | h2 <;> rw [h2, tupD]
      rw [e]
      refine hr_ret (x_ifX (k := true) (t_val ((x_isi2 T (x_nm 0).rd boot_list T.list boot_tuple T.tuple (kit_two (kit_list x) (kit_tuple x))).to ?_)) (fun _ => ?_) (fun z => by cases z)) rfl
      · rcases h2 with h2 | h2 <;> rw [h2] <;> rfl
      · refine x_tupleL T (rl (o_lc [("own", 1)] (fun z : D => z) ys (fun _ => true) tupD rfl sc10.nd ?_ (by rfl) h3 fun z hz => ⟨_, fun s H0 C cl fp => tg_fn 1 sc10.nd, .nil, fun _ s H0 C cl fp => x_call c hr (Nat.le_refl _) (a_cons (x_nm 1) a_nil) ⟨z, rfl, h4 z hz, rfl⟩⟩))
        rw [map_id']
        rcases h2 with h2 | h2
        · subst h2
          exact it_list (x_nm 0)
        · subst h2
          exact it_tup (x_nm 0)
end
end G
-- Fw10
set_option maxHeartbeats 4000000
/-! Fw10: naturals as data; walks over ranges of naturals; pairs compared; data compared. -/
namespace G
open PySem PySem.Spec PyProof.Rows L2
abbrev Pr := Nat × Nat
def nD (n : Nat) : D := .int (n : Int)
def prD (p : Pr) : D := .tup [nD p.1, nD p.2]
def tsD (ts : List Pr) : D := .tup (ts.map prD)
def nsD (ns : List Nat) : D := .tup (ns.map nD)
def ordD (n : Nat) (ts : List Pr) : D := .tup [nD n, tsD ts]
/-- a dict of True's -/
def trB (ks : List Nat) : B := .Dc (ks.map Int.ofNat) (ks.map fun _ => .bl true)
def trD (ks : List Nat) : D := .dct (ks.map Int.ofNat) (ks.map fun _ => .bl true)
/-- a dict of numbers -/
def cnB (m : List Pr) : B := .Dc (m.map fun x => (x.1 : Int)) (m.map fun x => nD x.2)
def cnD (m : List Pr) : D := .dct (m.map fun x => (x.1 : Int)) (m.map fun x => nD x.2)
theorem atI_nat {α : Type} {xs : List α} {k : Nat} {d : α} (h : xs[k]? = some d) : atI xs (k : Int) = some d := by
  unfold atI
  rw [ixN_nat (List.getElem?_eq_some_iff.mp h).1]
  exact h
theorem atI_of {α : Type} {xs : List α} {i : Int} {k : Nat} {d : α} (e : i = (k : Int)) (h : xs[k]? = some d) : atI xs i = some d := by
  rw [e]
  exact atI_nat h
theorem atI_map {α β : Type} {xs : List α} (f : α → β) {k : Nat} {d : α} (h : xs[k]? = some d) : atI (xs.map f) (k : Int) = some (f d) := atI_nat (by rw [List.getElem?_map, h]; rfl)
theorem rngD_nat (n : Nat) : rngD 0 1 n = (List.range n).map Int.ofNat := by
  unfold rngD
  refine List.map_congr_left fun i _ => ?_
  show (0 : Int) + (i : Int) * 1 = (i : Int)
  omega
section
variable {X : Cx} {Γ : Ctx} {e a b c tg iter : Expr} {es : List Expr} {pos p apos : Pos} {d d1 d2 d3 : D}
theorem it_rN (T : Bn X.mg) {j : Int} {n : Nat} (h : EvX X a Γ (.int j)) (hn : j.toNat = n := by rfl) (hj : -(2 ^ 62) ≤ j ∧ j < 2 ^ 62 := by omega) (hg : Gl X "range" := by rfl) (hs : starEach [a] X.env = [(false, eval a X.env)] := by rfl) (hs2 : starEach [a] X.env = (false, eval a X.env) :: starEach [] X.env := by rfl) :
    ItX X tg (.Call (.Name "range" p) [a] [] pos) Γ ((List.range n).map nD) := by
  have q := it_rng1 (tg := tg) (p := p) (pos := pos) T h hj hg hs hs2
  rw [hn, rngD_nat, List.map_map] at q
  exact q
theorem it_r2N (T : Bn X.mg) {i j : Int} (lo n : Nat) (h1 : EvX X a Γ (.int i)) (h2 : EvX X b Γ (.int j)) (ei : i = (lo : Int) := by rfl) (hn : (j - i).toNat = n := by rfl) (hj : -(2 ^ 62) ≤ i ∧ i < 2 ^ 62 ∧ -(2 ^ 62) ≤ j ∧ j < 2 ^ 62 := by omega) (hg : Gl X "range" := by rfl) (hs : starEach [a, b] X.env = [(false, eval a X.env), (false, eval b X.env)] := by rfl) (hs2 : starEach [a, b] X.env = (false, eval a X.env) :: starEach [b] X.env := by rfl) (hs3 : starEach [b] X.env = (false, eval b X.env) :: starEach [] X.env := by rfl) :
    ItX X tg (.Call (.Name "range" p) [a, b] [] pos) Γ ((List.range n).map fun k => nD (lo + k)) := by
  have q := it_rng2 (tg := tg) (p := p) (pos := pos) T h1 h2 hj hg hs hs2 hs3
  rw [hn] at q
  unfold rngD at q
  rw [List.map_map] at q
  have e : (List.range n).map (D.int ∘ fun (k : Nat) => i + (k : Int) * 1) = (List.range n).map fun k => nD (lo + k) := by
    refine List.map_congr_left fun k _ => ?_
    show D.int (i + (k : Int) * 1) = D.int ((lo + k : Nat) : Int)
    congr 1
    omega
  rw [e] at q
  exact q
theorem rev_range (n : Nat) : (List.range n).map (fun (k : Nat) => (n : Int) - 1 + (k : Int) * (-1)) = (List.range n).reverse.map Int.ofNat := by
  refine List.ext_getElem? fun i => ?_
  by_cases h : i < n
  · rw [List.getElem?_map, List.getElem?_map, List.getElem?_range h, List.getElem?_reverse (by rw [List.length_range]; exact h), List.length_range, List.getElem?_range (by omega)]
    show some ((n : Int) - 1 + (i : Int) * (-1)) = some ((n - 1 - i : Nat) : Int)
    congr 1
    omega
  · rw [List.getElem?_eq_none (by rw [List.length_map, List.length_range]; omega), List.getElem?_eq_none (by rw [List.length_map, List.length_reverse, List.length_range]; omega)]
/-- range(n - 1, -1, -1) -/
theorem it_dN (T : Bn X.mg) {i : Int} (n : Nat) (h1 : EvX X a Γ (.int i)) (h2 : EvX X b Γ (.int (-1))) (h3 : EvX X c Γ (.int (-1))) (ei : i = (n : Int) - 1) (hj : n < 2 ^ 62) (hg : Gl X "range" := by rfl)
    (hs : starEach [a, b, c] X.env = (false, eval a X.env) :: starEach [b, c] X.env := by rfl) (hs2 : starEach [b, c] X.env = (false, eval b X.env) :: starEach [c] X.env := by rfl) (hs3 : starEach [c] X.env = (false, eval c X.env) :: starEach [] X.env := by rfl) (hpl : (backTo pos (starEach [b, c] X.env)).any (·.1) = false := by rfl) :
    ItX X tg (.Call (.Name "range" p) [a, b, c] [] pos) Γ ((List.range n).reverse.map nD) := by
  have q := it_rngD (tg := tg) (p := p) (pos := pos) T h1 h2 h3 (by omega) hg hs hs2 hs3 hpl
  subst ei
  have e : ((n : Int) - 1 - -1).toNat = n := by omega
  rw [e] at q
  unfold rngD at q
  rw [rev_range, List.map_map] at q
  exact q
/-! ### pairs and data compared -/
theorem lexLt2 (x1 x2 y1 y2 : Int) : HT.lexLt [x1, x2] [y1, y2] = decide (x1 < y1 ∨ (x1 = y1 ∧ x2 < y2)) := by
  by_cases h1 : x1 < y1
  · have e : ¬ x1 = y1 := by omega
    simp [HT.lexLt, h1, e]
  · by_cases h2 : x1 = y1
    · subst h2
      by_cases h3 : x2 < y2
      · have e : ¬ x2 = y2 := by omega
        simp [HT.lexLt, h3, e]
      · simp [HT.lexLt, h3]
    · simp [HT.lexLt, h1, h2]
theorem d_ltP (hu : X.A.units < cLine) {x y : Pr} : OpD X (compareOp .Lt) (prD x) (prD y) (.bl (decide (x.1 < y.1 ∨ (x.1 = y.1 ∧ x.2 < y.2)))) := ⟨_, op_ltT hu, fun W v1 v2 h1 h2 Q q => by
  obtain ⟨p1, xs, rfl, hp1, hx⟩ := h1
  obtain ⟨p2, ys, rfl, hp2, hy⟩ := h2
  have ex := RpA.ints (ns := [(x.1 : Int), (x.2 : Int)]) hx
  have ey := RpA.ints (ns := [(y.1 : Int), (y.2 : Int)]) hy
  subst ex ey
  refine ⟨p1, p2, _, _, rfl, rfl, SqT.of (W.ok _ _ hp1), SqT.of (W.ok _ _ hp2), ?_⟩
  rw [lexLt2]
  refine (fun z => ?_) (q (.bl (decide (x.1 < y.1 ∨ (x.1 = y.1 ∧ x.2 < y.2)))) W (.refl _) rfl)
  have e : decide ((x.1 : Int) < (y.1 : Int) ∨ ((x.1 : Int) = (y.1 : Int) ∧ (x.2 : Int) < (y.2 : Int))) = decide (x.1 < y.1 ∨ (x.1 = y.1 ∧ x.2 < y.2)) := by
    apply decide_eq_decide.mpr
    omega
  rw [e]
  exact z⟩
mutual
def pyD : D → PyData
  | .non => .none
  | .bl b => .bool b
  | .int i => .int i
  | .str x => .str x
  | .lst ds => .list (pyDs ds)
  | .tup ds => .tuple (pyDs ds)
  | .dct _ _ => .none
  | .frd _ _ => .none
def pyDs : List D → List PyData
  | [] => []
  | d :: ds => pyD d :: pyDs ds
end
mutual
/-- no dict in it -/
def noDc : D → Bool
  | .dct _ _ => false
  | .frd _ _ => false
  | .lst ds => noDcs ds
  | .tup ds => noDcs ds
  | _ => true
def noDcs : List D → Bool
  | [] => true
  | d :: ds => noDc d && noDcs ds
end
mutual
theorem rp_dp {K : PySem.W.Frag} {W : Wd} : ∀ (d : D) (v : V), noDc d = true → Rp W.F d v → Dp K W.H v (pyD d)
  | .non, _, _, h => by cases h; exact .non
  | .bl b, _, _, h => by cases h; exact .bl b
  | .int i, _, _, h => by cases h; exact .int i
  | .str x, _, _, h => by cases h; exact .str x
  | .lst ds, _, n, ⟨a, xs, hv, ha, hs⟩ => by
    subst hv
    exact .lst (SqL.of (W.ok _ _ ha)) (rp_dps ds xs (by rw [noDc] at n; exact n) hs)
  | .tup ds, _, n, ⟨a, xs, hv, ha, hs⟩ => by
    subst hv
    exact .tup (SqT.of (W.ok _ _ ha)) (rp_dps ds xs (by rw [noDc] at n; exact n) hs)
  | .dct _ _, _, n, _ => by simp [noDc] at n
  | .frd _ _, _, n, _ => by simp [noDc] at n
theorem rp_dps {K : PySem.W.Frag} {W : Wd} : ∀ (ds : List D) (vs : List V), noDcs ds = true → RpA W.F ds vs → DpAll K W.H vs (pyDs ds)
  | [], _, _, h => by cases h; exact .nil
  | d :: ds, _, n, ⟨v, vs, hx, hd, hs⟩ => by
    subst hx
    rw [noDcs, Bool.and_eq_true] at n
    exact .cons (rp_dp d v n.1 hd) (rp_dps ds vs n.2 hs)
end
theorem rq_dp {K : PySem.W.Frag} {W : Wd} : ∀ {d : D} {v : V}, noDc d = true → Rq W d v → Dp K W.H v (pyD d)
  | .non, _, _, h => by cases h; exact .non
  | .bl b, _, _, h => by cases h; exact .bl b
  | .int i, _, _, h => by cases h; exact .int i
  | .str x, _, _, h => by cases h; exact .str x
  | .lst ds, _, n, ⟨a, xs, hv, ha, hs⟩ => by
    subst hv
    exact .lst (SqL.of ha) (rp_dps ds xs (by rw [noDc] at n; exact n) hs)
  | .tup ds, _, n, ⟨a, xs, hv, ha, hs⟩ => by
    subst hv
    exact .tup (SqT.of (W.ok _ _ ha)) (rp_dps ds xs (by rw [noDc] at n; exact n) hs)
  | .dct _ _, _, n, _ => by simp [noDc] at n
  | .frd _ _, _, n, _ => by simp [noDc] at n
theorem d_eqP (hu : X.A.units + 64 < cLine) (n1 : noDc d1 = true) (n2 : noDc d2 = true) (s1 : SeqAt.shaped (pyD d1) = true) (s2 : SeqAt.shaped (pyD d2) = true) {k : Bool} (e : PyData.eqv (pyD d1) (pyD d2) = k) : OpD X (compareOp .Eq) d1 d2 (.bl k) := ⟨_, op_eqD hu, fun W v1 v2 h1 h2 Q q =>
  ⟨pyD d1, pyD d2, rq_dp n1 h1, rq_dp n2 h2, s1, s2, by rw [e]; exact q _ W (.refl _) rfl⟩⟩
theorem pyDs_map : ∀ ds : List D, pyDs ds = ds.map pyD
  | [] => by rw [pyDs]; rfl
  | d :: ds => by rw [pyDs, pyDs_map ds]; rfl
theorem noDcs_all : ∀ ds : List D, noDcs ds = ds.all noDc
  | [] => by rw [noDcs]; rfl
  | d :: ds => by rw [noDcs, noDcs_all ds]; rfl
theorem noDc_tsD (ts : List Pr) : noDc (tsD ts) = true := by
  unfold tsD
  rw [noDc, noDcs_all, List.all_map, List.all_eq_true]
  intro x _
  rfl
theorem lay_all (f : Pr → PyData) (h : ∀ x, (f x).canLay0 = true) : ∀ ts : List Pr, PyData.canLayAll0 (ts.map f) = true
  | [] => by simp [PyData.canLayAll0]
  | t :: ts => by simp [PyData.canLayAll0, h t, lay_all f h ts]
theorem dep_all (f : Pr → PyData) (h : ∀ x, (f x).depth ≤ 1) : ∀ ts : List Pr, PyData.depthAll (ts.map f) ≤ 2
  | [] => by simp [PyData.depthAll]
  | t :: ts => by
    have h1 := h t
    have h2 := dep_all f h ts
    simp only [List.map_cons, PyData.depthAll]
    omega
theorem sh_tsD (ts : List Pr) : SeqAt.shaped (pyD (tsD ts)) = true := by
  have e : pyD (tsD ts) = .tuple (ts.map fun x => PyData.tuple [.int x.1, .int x.2]) := by
    unfold tsD
    rw [pyD, pyDs_map, List.map_map]
    rfl
  rw [e]
  have h1 := lay_all (fun x => PyData.tuple [.int x.1, .int x.2]) (fun x => by simp [PyData.canLay0, PyData.canLayAll0]) ts
  have h2 := dep_all (fun x => PyData.tuple [.int x.1, .int x.2]) (fun x => by simp [PyData.depth, PyData.depthAll]) ts
  refine Bool.and_eq_true_iff.mpr ⟨?_, decide_eq_true ?_⟩
  · rw [PyData.canLay0]
    exact h1
  · rw [PyData.depth]
    exact Nat.le_trans (Nat.add_le_add_right h2 1) (by decide)
theorem d_eqTs (hu : X.A.units + 64 < cLine) {ts : List Pr} : OpD X (compareOp .Eq) (tsD ts) (tsD ts) (.bl true) :=
  d_eqP hu (noDc_tsD ts) (noDc_tsD ts) (sh_tsD ts) (sh_tsD ts) (SeqAt.eqv_refl _ (Bool.and_eq_true_iff.mp (sh_tsD ts)).1)
end
end G
-- Fw11
set_option maxHeartbeats 4000000
/-! Fw11: assignments to several names; lists of own objects become data; update, extend; dict comprehensions; op=. -/
namespace G
open PySem PySem.Spec PyProof.Rows L2
/-- expressions to values that stand behind the names: no effect -/
def EvK (X : Cx) (es : List Expr) (Γ : Ctx) (ss : List Slot) : Prop :=
  ∀ (t : Option Addr) (W0 W : Wd) (σ τ : L2.St) (Δ : Ctx), Le t W0 W → σ.length = Γ.length → Env X.K t W0 W (σ ++ τ) (Γ ++ Δ) → ∀ Q : List V → Hp → Prop,
    (∀ vs W2, Ext W W2 → Env X.K t W0 W2 (σ ++ (τ ++ vs.map some)) (Γ ++ (Δ ++ ss)) → vs.length = ss.length → Q vs W2.H) → wA X es σ W.H Q
@[irreducible] def wGs (X : Cx) (tgs : List Expr) : TGs := fun vs σ H Q => ∀ (pins : List (Addr × Obj)) (s : Shared) (us : List Value), Inv X pins σ H s → Vals vs us → wpAny (model X.prog X.w) X.A (assignInOrder ((assignEach tgs X.env).map (·.2)) us) (fun _ s' => ∃ σ' H', Inv X pins σ' H' s' ∧ Q σ' H') X.xe s
theorem pgs_w (X : Cx) (tgs : List Expr) : PGs X tgs (wGs X tgs) := ⟨fun pins s σ H vs us Q I r h => by unfold wGs at h; exact h pins s us I r⟩
/-- the values go to the names -/
def TgK (X : Cx) (tgs : List Expr) (ss : List Slot) (Γ Γ' : Ctx) : Prop :=
  ∀ (t : Option Addr) (W0 W : Wd) (σ : L2.St) (vs : List V), Le t W0 W → σ.length = Γ.length → vs.length = ss.length → Env X.K t W0 W (σ ++ vs.map some) (Γ ++ ss) → ∀ Q : L2.St → Hp → Prop, (∀ σ', Env X.K t W0 W σ' Γ' → Q σ' W.H) → wGs X tgs vs σ W.H Q
section
variable {X : Cx} {Γ Γ' : Ctx} {e a b c tg iter elt kx vx : Expr} {es tgs : List Expr} {st : Stmt} {rest body : List Stmt} {pos p pos' apos spos cpos px : Pos} {d d1 d2 d3 : D} {P : Post} {scope : Scope} {own : List (Str × Nat)} {ss : List Slot}
theorem app_nil3 (σ τ : L2.St) : σ ++ (τ ++ ([] : List V).map some) = σ ++ τ := by simp
theorem k_nil : EvK X [] Γ [] := fun t W0 W σ τ Δ l hl E Q q => wA_of pa_nil (q [] W (.refl _) (by simpa using E) rfl)
theorem k_x (h : EvX X e Γ d) (hr : EvK X es Γ ss) (hs : starEach (e :: es) X.env = (false, eval e X.env) :: starEach es X.env := by rfl) : EvK X (e :: es) Γ (.pu d :: ss) := fun t W0 W σ τ Δ l hl E Q q =>
  wA_of (pa_cons (pe_w X e) (pa_w X es) hs) (h t W0 W σ l (E.pre hl) _ fun v W1 e1 r1 => by
    have E1 := (E.ext e1).snocPu (l.ext E.tv e1) r1
    rw [List.append_assoc, List.append_assoc] at E1
    refine hr t W0 W1 σ (τ ++ [some v]) (Δ ++ [.pu d]) (l.ext E.tv e1) hl E1 _ fun vs W2 e2 E2 hv => q (v :: vs) W2 (e1.trans e2) ?_ (by rw [List.length_cons, List.length_cons, hv])
    rw [List.append_assoc, List.append_assoc] at E2
    exact E2)
theorem k_o {o : B} (h : EvO X e Γ o) (hr : EvK X es Γ ss) (hs : starEach (e :: es) X.env = (false, eval e X.env) :: starEach es X.env := by rfl) : EvK X (e :: es) Γ (.ow (.one o) :: ss) := fun t W0 W σ τ Δ l hl E Q q =>
  wA_of (pa_cons (pe_w X e) (pa_w X es) hs) (h t W0 W σ l (E.pre hl) _ fun v W1 e1 r1 => by
    have E1 := E.snocOw l e1 r1
    rw [List.append_assoc, List.append_assoc] at E1
    refine hr t W0 W1 σ (τ ++ [some v]) (Δ ++ [.ow (.one o)]) (l.ext E.tv e1) hl E1 _ fun vs W2 e2 E2 hv => q (v :: vs) W2 (e1.trans e2) ?_ (by rw [List.length_cons, List.length_cons, hv])
    rw [List.append_assoc, List.append_assoc] at E2
    exact E2)
theorem tk_nil : TgK X [] [] Γ Γ := fun t W0 W σ vs l hl hv E Q q => by
  unfold wGs
  intro pins s us I r
  have e : vs = [] := List.eq_nil_of_length_eq_zero hv
  subst e
  rw [List.map_nil, List.append_nil, List.append_nil] at E
  exact pgs_nil.run pins s σ W.H [] us Q I r ⟨rfl, q σ E⟩
theorem tk_cons (i : Nat) {x : Str} {s : Slot} (hN : X.N.Nodup) (h : TgK X tgs ss (Γ.set i s) Γ') (hi : X.N[i]? = some x := by rfl) (hx : Loc X.env.scope x := by first | exact Or.inl rfl | exact Or.inr rfl) (hf : X.fn x = true ∨ X.env.scope.names.lookup x = some .local := by first | exact .inl rfl | exact .inr rfl) (hlt : i < Γ.length := by exact Nat.le_of_ble_eq_true rfl)
    (hs : (assignEach (.Name x px :: tgs) X.env).map (·.2) = assign (.Name x px) X.env :: (assignEach tgs X.env).map (·.2) := by rfl) : TgK X (.Name x px :: tgs) (s :: ss) Γ Γ' := fun t W0 W σ vs l hl hv E Q q => by
  unfold wGs
  intro pins s' us I r
  cases vs with
  | nil => simp at hv
  | cons v vs =>
    refine (pgs_cons (pg_name hN hi hx hf) (pgs_w X tgs) hs).run pins s' σ W.H (v :: vs) us Q I r ⟨v, vs, rfl, ?_⟩
    rw [List.map_cons] at E
    exact h t W0 W (σ.set i (some v)) vs l (by rw [List.length_set, List.length_set, hl]) (by simpa using hv) (E.mv hl hlt) Q q
/-- a, b = x, y stored from the right -/
theorem hr_par (i j : Nat) {x y : Str} {s1 s2 : Slot} {py pt pt2 : Pos} {kt k2 : Nat} (hc : X.calm = true) (hN : X.N.Nodup) (h : EvK X [a, b] Γ [s1, s2]) (k : Hr X rest ((Γ.set i s1).set j s2) P) (hi : X.N[i]? = some x := by rfl) (hj : X.N[j]? = some y := by rfl) (hij : i ≠ j := by decide)
    (hx : X.env.scope.names.lookup x = some .local := by rfl) (hy : X.env.scope.names.lookup y = some .local := by rfl) (hl1 : i < Γ.length := by exact Nat.le_of_ble_eq_true rfl) (hl2 : j < Γ.length := by exact Nat.le_of_ble_eq_true rfl)
    (hw : swappedStores [.Tuple [.Name x px, .Name y py] kt pt] (.Tuple [a, b] k2 pt2) X.env = pure (some [x, y]) := by rfl)
    (hs : swapsWithSole [.Tuple [.Name x px, .Name y py] kt pt] (.Tuple [a, b] k2 pt2) pos.line X.env = pure false := by rfl) :
    Hr X (.Assign [.Tuple [.Name x px, .Name y py] kt pt] (.Tuple [a, b] k2 pt2) pos :: rest) Γ P := hr_step (fun t W0 W σ l E De q =>
  wS_of (ps_par hc hN hi hj hij hx hy (pa_w X _) hw hs) (h t W0 W σ [] [] l E.len (by rw [List.append_nil, List.append_nil]; exact E) _ fun vs W2 e2 E2 hv => by
    match vs, hv with
    | [v, w], _ =>
      refine ⟨v, w, rfl, q _ W2 (l.ext E.tv e2) e2.f ?_⟩
      have E3 : Env X.K t W0 W2 (σ ++ some v :: [some w]) (Γ ++ s1 :: [s2]) := E2
      exact (E3.mv E.len hl1).mv1 (by rw [List.length_set, List.length_set, E.len]) (by rw [List.length_set]; exact hl2))) k
/-- a, b, .. = x, y, .. by way of a tuple -/
theorem hr_asgT {n k1 k2 : Nat} {pt pt2 : Pos} (hc : X.calm = true) (h : EvK X es Γ ss) (ht : TgK X tgs ss Γ Γ') (k : Hr X rest Γ' P) (hl : ss.length = n := by rfl) (hn : (assignEach tgs X.env).length = n := by rfl) (hst : (assignEach tgs X.env).findIdx? (·.1) = none := by rfl) (hsm : n ≤ 1000 := by exact Nat.le_of_ble_eq_true rfl)
    (hs : swapsWithSole [.Tuple tgs k1 pt] (.Tuple es k2 pt2) pos.line X.env = pure false := by rfl) (hw : swappedStores [.Tuple tgs k1 pt] (.Tuple es k2 pt2) X.env = pure none := by rfl) :
    Hr X (.Assign [.Tuple tgs k1 pt] (.Tuple es k2 pt2) pos :: rest) Γ P := hr_step (fun t W0 W σ l E De q =>
  wS_of (ps_asg (pe_tup (pa_w X es)) (pg_tup hc (pgs_w X tgs) hn hst) hs hw) (h t W0 W σ [] [] l E.len (by rw [List.append_nil, List.append_nil]; exact E) _ fun vs W2 e2 E2 hv => by
    refine ⟨by rw [hv, hl]; exact Nat.le_trans hsm (by decide), fun p hp => ?_⟩
    obtain ⟨W3, z1, z2, z3⟩ := lay (o := .tup vs) hp
    rw [← z1]
    have e3 := e2.trans z3
    refine ⟨p, vs, rfl, SqT.of (by rw [z1]; exact upd_same), by rw [hv, hl], ?_⟩
    exact ht t W0 W3 σ vs (l.ext E.tv e3) E.len hv (E2.ext z3) _ fun σ' E' => q σ' W3 (l.ext E.tv e3) e3.f E')) k
theorem env_pus {K : PySem.W.Frag} {t : Option Addr} {W0 W : Wd} : ∀ {ds : List D} {vs : List V} {σ : L2.St} {Γ : Ctx}, RpA W.F ds vs → Le t W0 W → Env K t W0 W σ Γ → Env K t W0 W (σ ++ vs.map some) (Γ ++ ds.map Slot.pu)
  | [], _, _, _, h, _, E => by
    cases h
    simpa using E
  | d :: ds, _, σ, Γ, ⟨v, vs, hx, hd, hs⟩, l, E => by
    subst hx
    have q := env_pus hs l (E.snocPu l hd)
    rw [List.append_assoc, List.append_assoc] at q
    exact q
/-- a, b, .. = a tuple that stands -/
theorem hr_unp {n k1 : Nat} {pt : Pos} {ds : List D} (hc : X.calm = true) (h : EvX X e Γ (.tup ds)) (ht : TgK X tgs (ds.map Slot.pu) Γ Γ') (k : Hr X rest Γ' P) (hl : ds.length = n := by rfl) (hn : (assignEach tgs X.env).length = n := by rfl) (hst : (assignEach tgs X.env).findIdx? (·.1) = none := by rfl)
    (hs : swapsWithSole [.Tuple tgs k1 pt] e pos.line X.env = pure false := by rfl) (hw : swappedStores [.Tuple tgs k1 pt] e X.env = pure none := by rfl) :
    Hr X (.Assign [.Tuple tgs k1 pt] e pos :: rest) Γ P := hr_step (fun t W0 W σ l E De q =>
  wS_of (ps_asg (pe_w X e) (pg_tup hc (pgs_w X tgs) hn hst) hs hw) (h t W0 W σ l E _ fun v W2 e2 r2 => by
    obtain ⟨p, vs, rfl, hp, hx⟩ := r2
    refine ⟨p, vs, rfl, SqT.of (W2.ok _ _ hp), by rw [hx.len, hl], ?_⟩
    exact ht t W0 W2 σ vs (l.ext E.tv e2) E.len (by rw [List.length_map, hx.len]) (env_pus hx (l.ext E.tv e2) (E.ext e2)) _ fun σ' E' => q σ' W2 (l.ext E.tv e2) e2.f E')) k
/-! ### name op= e -/
theorem hr_aug (i : Nat) {x : Str} {op : Operator} {ti : TIp} {m j r : Int} (hN : X.N.Nodup) (ho : PIp X op ti) (hq : ∀ (H : Hp) (Q : VK), Q (.int r) H → ti (.int m) (.int j) H Q) (h : EvX X e Γ (.int j)) (k : Hr X rest (Γ.set i (.pu (.int r))) P) (hg : Γ[i]? = some (.pu (.int m)) := by rfl) (hi : X.N[i]? = some x := by rfl) (hx : Loc X.env.scope x := by first | exact Or.inl rfl | exact Or.inr rfl) (hf : X.fn x = true ∨ X.env.scope.names.lookup x = some .local := by first | exact .inl rfl | exact .inr rfl) :
    Hr X (.AugAssign (.Name x pos') op e pos :: rest) Γ P := hr_step (fun t W0 W σ l E De q => by
  obtain ⟨v, hv, rv⟩ := E.pu hg
  have rv : v = .int m := rv
  subst rv
  refine wS_of (ps_aug hN hi hx (pe_w X e) ho hf) ⟨_, hv, h t W0 W σ l E _ fun v2 W2 e2 r2 => ?_⟩
  have r2 : v2 = .int j := r2
  subst r2
  exact hq _ _ (q _ W2 (l.ext E.tv e2) e2.f ((E.ext e2).setPu i (d := .int r) rfl))) k
/-! ### many own objects become data -/
theorem env_frz {K : PySem.W.Frag} {t : Option Addr} {W0 W : Wd} {σ : L2.St} {ow : Nat → Addr → Prop} (l : Le t W0 W) (hl : σ.length = Γ.length) (h1 : ∀ i j a, ow i a → ow j a → i = j) (h2 : ∀ i a, ow i a → W.F a = none ∧ W0.H a = none ∧ ∃ o, W.H a = some o) (h3 : ∀ (i : Nat) (s : Slot), Γ[i]? = some s → SlR K t W (ow i) s (σ[i]?)) (ht0 : Tv t W0) (ht : Tv t W)
    {i : Nat} {p : Addr} {o : HO} (hp : ow i p) (ho : W.H p = some o) : ∃ W2 : Wd, W2.H = W.H ∧ Same W.F W2.F ∧ W2.F p = some o ∧ Le t W0 W2 ∧ (∀ a, a ≠ p → W2.F a = W.F a) ∧
      (∀ i' a, (ow i' a ∧ a ≠ p) → W2.F a = none ∧ W0.H a = none ∧ ∃ o, W2.H a = some o) ∧ (∀ (j : Nat) (s : Slot), j ≠ i → Γ[j]? = some s → SlR K t W2 (fun a => ow j a ∧ a ≠ p) s (σ[j]?)) ∧ Tv t W2 := by
  obtain ⟨z1, z2, _⟩ := h2 i p hp
  have s0 : Same W.F (upd W.F p o) := same_put z1
  have hpt : ∀ a, t = some a → a ≠ p := fun a ha z => by
    obtain ⟨_, u', z3⟩ := ht0 a ha
    rw [z, z2] at z3
    cases z3
  refine ⟨W.put p o ho, rfl, s0, upd_same, ⟨l.h, l.f.trans s0, fun a y1 y2 => ?_⟩, fun a ha => upd_ne ha, fun i' a x => ?_, fun j s hj hs => ?_, fun a ha => ?_⟩
  · by_cases e : a = p
    · subst e
      exact z2
    · have y3 : upd W.F p o a ≠ none := y2
      rw [upd_ne e] at y3
      exact l.n a y1 y3
  · obtain ⟨y1, y2, u, y3⟩ := h2 i' a x.1
    exact ⟨by show upd W.F p o a = none; rw [upd_ne x.2]; exact y1, y2, u, y3⟩
  · have np : ∀ a, ow j a → a ≠ p := fun a ha z => hj (h1 j i a ha (by rw [z]; exact hp))
    have q := h3 j s hs
    cases s with
    | un => trivial
    | pu d =>
      obtain ⟨w, x, y⟩ := q
      exact ⟨w, x, y.mono s0⟩
    | scr ns =>
      obtain ⟨w, x, y⟩ := q
      exact ⟨w, x, sql_same s0 y⟩
    | vol Pv => exact q
    | ow o2 =>
      cases o2 with
      | one b2 =>
        obtain ⟨w, x, p2, u, y1, y2, y3, y4⟩ := q
        exact ⟨w, x, p2, u, y1, ⟨y2, np _ y2⟩, y3, y4.mono s0⟩
      | many bs =>
        obtain ⟨w, x, p2, ps, y1, y2, y3, y4, y5, y6, y7⟩ := q
        refine ⟨w, x, p2, ps, y1, ⟨y2, np _ y2⟩, fun q' hq => ⟨y3 q' hq, np _ (y3 q' hq)⟩, y4, y5, y6, fun m q' b' a1 a2 => ?_⟩
        obtain ⟨u, w1, w2⟩ := y7 m q' b' a1 a2
        exact ⟨u, w1, w2.mono s0⟩
  · obtain ⟨y1, y2⟩ := ht a ha
    exact ⟨by show upd W.F p o a = none; rw [upd_ne (hpt a ha)]; exact y1, y2⟩
theorem bd_rp {F : Hp} {p : Addr} {o : HO} (h : F p = some o) {b : B} (hb : BR F o b) : Rp F b.d (.ref p) := hb.rp h
theorem frz_many {K : PySem.W.Frag} {t : Option Addr} {W0 : Wd} {σ : L2.St} {i : Nat} : ∀ (ps : List Addr) (bs : List B) (W : Wd) (ow : Nat → Addr → Prop), Le t W0 W → σ.length = Γ.length → (∀ i j a, ow i a → ow j a → i = j) → (∀ i a, ow i a → W.F a = none ∧ W0.H a = none ∧ ∃ o, W.H a = some o) →
    (∀ (j : Nat) (s : Slot), j ≠ i → Γ[j]? = some s → SlR K t W (ow j) s (σ[j]?)) → Tv t W0 → Tv t W → ps.Nodup → (∀ q ∈ ps, ow i q) → ps.length = bs.length → (∀ (m : Nat) (q : Addr) (b : B), ps[m]? = some q → bs[m]? = some b → ∃ o, W.H q = some o ∧ BR W.F o b) →
    ∃ (W2 : Wd) (ow2 : Nat → Addr → Prop), W2.H = W.H ∧ Same W.F W2.F ∧ Le t W0 W2 ∧ (∀ i j a, ow2 i a → ow2 j a → i = j) ∧ (∀ i a, ow2 i a → W2.F a = none ∧ W0.H a = none ∧ ∃ o, W2.H a = some o) ∧ (∀ (j : Nat) (s : Slot), j ≠ i → Γ[j]? = some s → SlR K t W2 (ow2 j) s (σ[j]?)) ∧ Tv t W2 ∧ (∀ a, ow i a → a ∉ ps → ow2 i a) ∧ RpA W2.F (bs.map B.d) (ps.map V.ref)
  | [], bs, W, ow, l, hl, h1, h2, h3, ht0, ht, hn, hp, hlen, hb => by
    have e : bs = [] := List.eq_nil_of_length_eq_zero hlen.symm
    subst e
    exact ⟨W, ow, rfl, .refl _, l, h1, h2, h3, ht, fun a h _ => h, rfl⟩
  | p :: ps, bs, W, ow, l, hl, h1, h2, h3, ht0, ht, hn, hp, hlen, hb => by
    cases bs with
    | nil => simp at hlen
    | cons b bs =>
      obtain ⟨n1, n2⟩ := List.nodup_cons.mp hn
      obtain ⟨o, ho, hbo⟩ := hb 0 p b rfl rfl
      have hpp := hp p List.mem_cons_self
      have h3' : ∀ (j : Nat) (s : Slot), (Γ.set i .un)[j]? = some s → SlR K t W (ow j) s (σ[j]?) := fun j s hs => by
        by_cases e : i = j
        · subst e
          have hlt := (List.getElem?_eq_some_iff.mp hs).1
          rw [List.length_set] at hlt
          rw [List.getElem?_set_self hlt] at hs
          cases hs
          trivial
        · rw [List.getElem?_set_ne e] at hs
          exact h3 j s (fun z => e z.symm) hs
      obtain ⟨W1, c1, c2, c3, c4, c5, c6, c7, c8⟩ := env_frz (Γ := Γ.set i .un) l (by rw [List.length_set]; exact hl) h1 h2 h3' ht0 ht hpp ho
      obtain ⟨W2, ow2, d1, d2, d3, d4, d5, d6, d7, d8, d9⟩ := frz_many ps bs W1 (fun j a => ow j a ∧ a ≠ p) c4 hl (fun i j a x y => h1 i j a x.1 y.1) c6 (fun j s hj hs => c7 j s hj (by rw [List.getElem?_set_ne (fun z => hj z.symm)]; exact hs)) ht0 c8 n2
        (fun q hq => ⟨hp q (List.mem_cons_of_mem _ hq), fun z => n1 (by rw [← z]; exact hq)⟩) (by simpa using hlen) (fun m q b' x y => by
          obtain ⟨o', y1, y2⟩ := hb (m + 1) q b' (by simpa using x) (by simpa using y)
          exact ⟨o', by rw [c1]; exact y1, y2.mono c2⟩)
      refine ⟨W2, ow2, by rw [d1, c1], c2.trans d2, d3, d4, d5, d6, d7, fun a ha hm => d8 a ⟨ha, fun z => hm (by rw [z]; exact List.mem_cons_self)⟩ (fun z => hm (List.mem_cons_of_mem _ z)), ?_⟩
      exact ⟨_, _, rfl, (hbo.mono (c2.trans d2)).rp (d2 _ _ c3), d9⟩
theorem hr_frzM (i : Nat) {bs : List B} (k : Hr X rest (Γ.set i (.pu (.lst (bs.map B.d)))) P) (hi : Γ[i]? = some (.ow (.many bs)) := by rfl) : Hr X rest Γ P := fun t W0 W σ en l E De q1 q2 q3 q4 => by
  obtain ⟨hl, ⟨ow, h1, h2, h3⟩, ht0, ht⟩ := E
  obtain ⟨v, hv, p, ps, rfl, hp, hps, hnd, hH, hlen, hall⟩ := h3 i _ hi
  obtain ⟨n1, n2⟩ := List.nodup_cons.mp hnd
  obtain ⟨W1, ow1, d1, d2, d3, d4, d5, d6, d7, d8, d9⟩ := frz_many (K := X.K) (i := i) ps bs W ow l hl h1 h2 (fun j s _ hs => h3 j s hs) ht0 ht n2 hps hlen hall
  have hpo := d8 p hp n1
  have h3' : ∀ (j : Nat) (s : Slot), (Γ.set i .un)[j]? = some s → SlR X.K t W1 (ow1 j) s (σ[j]?) := fun j s hs => by
    by_cases e : i = j
    · subst e
      have hlt := (List.getElem?_eq_some_iff.mp hs).1
      rw [List.length_set] at hlt
      rw [List.getElem?_set_self hlt] at hs
      cases hs
      trivial
    · rw [List.getElem?_set_ne e] at hs
      exact d6 j s (fun z => e z.symm) hs
  obtain ⟨W2, c1, c2, c3, c4, c5, c6, c7, c8⟩ := env_frz (Γ := Γ.set i .un) (K := X.K) (i := i) (p := p) (o := .lst (ps.map V.ref)) d3 (by rw [List.length_set]; exact hl) d4 d5 h3' ht0 d7 hpo (by rw [d1]; exact hH)
  have sF : Same W.F W2.F := d2.trans c2
  have hlt : i < Γ.length := (List.getElem?_eq_some_iff.mp hi).1
  have E' : Env X.K t W0 W2 σ (Γ.set i (.pu (.lst (bs.map B.d)))) := by
    refine ⟨by rw [List.length_set]; exact hl, ⟨fun j a => (ow1 j a ∧ a ≠ p) ∧ j ≠ i, fun j k a x y => d4 j k a x.1.1 y.1.1, fun j a x => c6 j a x.1, fun j s hs => ?_⟩, ht0, c8⟩
    by_cases e : i = j
    · subst e
      rw [List.getElem?_set_self hlt] at hs
      cases hs
      exact ⟨_, hv, p, _, rfl, c3, d9.mono c2⟩
    · rw [List.getElem?_set_ne e] at hs
      exact (c7 j s (fun z => e z.symm) (by rw [List.getElem?_set_ne e]; exact hs)).own fun a ha => ⟨ha, fun z => e z.symm⟩
  have hH2 : W2.H = W.H := by rw [c1, d1]
  have hres := k t W0 W2 σ en c4 E' De (fun σ2 W3 Γ2 a b => q1 σ2 W3 Γ2 a (sF.trans b)) (fun v d σ2 W3 Γ2 a b => q2 v d σ2 W3 Γ2 a (sF.trans b)) (fun σ2 W3 Γ2 a b => q3 σ2 W3 Γ2 a (sF.trans b)) (fun σ2 W3 Γ2 a b => q4 σ2 W3 Γ2 a (sF.trans b))
  rw [hH2] at hres
  exact hres
/-! ### xs.extend(ys) -/
theorem hr_ext (i : Nat) {x : Str} {xs ys : List D} (he : EvX X e Γ (.lst ys)) (k : Hr X rest (Γ.set i (.ow (.one (.L (xs ++ ys))))) P) (hz : xs.length + ys.length ≤ 100000) (hi : Γ[i]? = some (.ow (.one (.L xs))) := by rfl) (hN : X.N[i]? = some x := by rfl) (hv : Vis X.env.scope x := by first | exact Or.inl rfl | exact Or.inr (Or.inl rfl) | exact Or.inr (Or.inr rfl))
    (hd : (x == ("__debug__" : Str)) = false := by decide) (hcd : (x == ("__classdict__" : Str)) = false := by decide) (hsw : swapsWith (.Call (.Attribute (.Name x px) "extend" apos) [e] [] cpos) none pos.line X.env = pure false := by rfl)
    (hbase : attributeBase (.Name x px) "extend" X.env (eval (.Name x px) X.env) = eval (.Name x px) X.env := by rfl)
    (hfew : ((backTo cpos (starEach [e] X.env)).all (fun x => !x.1) && (backToKw cpos (keywordEach [] X.env)).all (fun x => x.1.isSome)
      && decide (([e] : List Expr).length + ([] : List Keyword).length + (if ([] : List Keyword).isEmpty then 0 else 1) < 30)) = true := by rfl)
    (hline : (apos.endLine == cpos.line) = true := by rfl) (hst : starEach [e] X.env = (false, eval e X.env) :: starEach [] X.env := by rfl) :
    Hr X (.Expr (.Call (.Attribute (.Name x px) "extend" apos) [e] [] cpos) pos :: rest) Γ P := hr_step (fun t W0 W σ l E De q => by
  obtain ⟨p0, _, hσ, ho0, _, ⟨xs0, rfl, hx0⟩, _⟩ := E.mut (b' := .L []) l hi
  refine wS_of (ps_expr (pe_bm PySem.F.plainAttrs_list PySem.F.slot_list_extend PySem.F.type_list_extend mt_extend (pe_var hN hv hd hcd) (pa_cons (pe_w X e) pa_nil hst) hbase hfew hline hst rfl) hsw) ⟨_, hσ, .inl ⟨rfl, _, SqL.of ho0⟩, he t W0 W σ l E _ fun v W1 e1 r1 => ?_⟩
  obtain ⟨b, zs, rfl, hb, hzs⟩ := r1
  obtain ⟨p, o, hσ2, ho, _, ⟨xs', rfl, hx⟩, up⟩ := (E.ext e1).mut (b' := .L (xs ++ ys)) (l.ext E.tv e1) hi
  rw [hσ] at hσ2
  cases hσ2
  obtain ⟨W3, z1, z2, z3, z4⟩ := up (.lst (xs' ++ zs)) ⟨_, rfl, hx.app hzs⟩
  refine ⟨_, b, xs', zs, rfl, rfl, ho, W1.ok _ _ hb, by rw [hx.len, hzs.len]; exact Nat.le_trans hz (by decide), ?_⟩
  show De.nx σ (upd W1.H _ (.lst (xs' ++ zs)))
  rw [← z1]
  exact q σ W3 z3 (by rw [z2]; exact e1.f) z4) k
/-! ### {k: v for ..}, new keys -/
theorem dc_walk {J : It} {n : Nat} {Gh : Hp → Prop} {Y : Nat → Hp → V → Hp → Prop} (w : Walk J n Gh Y) {g : TG} {tt : TT} {tk tv : TE} {vs : List Nat} {σ : L2.St} {H1 : Hp} {D : Addr} {Qd : Hp → Prop} (Pv : Nat → Hp → Prop) (h0 : Pv 0 (upd H1 D (.dK []))) (hG : ∀ i H, i ≤ n → Pv i H → Gh H)
    (hs : ∀ i x H H', i < n → Pv i H → Y i H x H' → g x (L2.wipe σ vs) H' fun σ2 H2 => L2.wipe σ2 vs = L2.wipe σ vs ∧ tt σ2 H2 fun b H3 =>
      if b = true then tk σ2 H3 fun y H4 => tv σ2 H4 fun z H5 => ∃ kvs k, y = kV k ∧ H5 D = some (.dK kvs) ∧ kvs.length < sizeLine ∧ Pv (i + 1) (upd H5 D (.dK (putK kvs k z))) else Pv (i + 1) H3) (hd : ∀ H, Pv n H → Qd H) :
    ∃ Wm : Nat → Nat → Hp → Prop, (∃ m, Wm 0 m (upd H1 D (.dK []))) ∧ ∀ i m H, Wm i m H →
      (J.stop i H ∧ Qd H) ∨ (J.go i H ∧ ∃ Nx : Hp → Prop, (∀ H', Nx H' → ∃ m', m' < m ∧ Wm (i + 1) m' H') ∧ ∀ x H', J.yld i H x H' → g x (L2.wipe σ vs) H' fun σ2 H2 => L2.wipe σ2 vs = L2.wipe σ vs ∧ tt σ2 H2 fun b H3 =>
        if b = true then tk σ2 H3 fun y H4 => tv σ2 H4 fun z H5 => ∃ kvs k, y = kV k ∧ H5 D = some (.dK kvs) ∧ kvs.length < sizeLine ∧ Nx (upd H5 D (.dK (putK kvs k z))) else Nx H3) := by
  refine ⟨fun i m H => m = n - i ∧ i ≤ n ∧ Pv i H, ⟨n, by simp, Nat.zero_le _, h0⟩, ?_⟩
  rintro i m H ⟨rfl, hi, p⟩
  have q := hG i H hi p
  by_cases hlt : i < n
  · exact .inr ⟨w.goes i H hlt q, Pv (i + 1), fun H' p' => ⟨n - (i + 1), by omega, rfl, hlt, p'⟩, fun x H' y => hs i x H H' hlt p (w.yields i H x H' hlt q y)⟩
  · have e : i = n := by omega
    subst e
    exact .inl ⟨w.stops H q, hd H p⟩
theorem putK_newV {kvs : List (Key × V)} {k : Key} {v : V} (h : k ∉ kvs.map (·.1)) : putK kvs k v = kvs ++ [(k, v)] := by
  unfold putK
  rw [if_neg]
  intro z
  rw [List.any_eq_true] at z
  obtain ⟨x, hx, e⟩ := z
  exact h (by rw [← of_decide_eq_true e]; exact List.mem_map_of_mem hx)
theorem o_dc {α : Type} (own : List (Str × Nat)) (enc : α → D) (xs : List α) (gk : α → Int) (gv : α → D) (hc : X.calm = true) (hN : X.N.Nodup) (hit : ItX X tg iter Γ (xs.map enc)) (ok : blkC X.N X.env.scope scope own = true) (hl : xs.length ≤ 100000) (hnd : (xs.map gk).Nodup)
    (h : ∀ x ∈ xs, ∃ Γ1, (∀ s H0 C cl fp, TgX (bX X scope s H0 C cl fp) tg (enc x) (wipeC Γ (own.map (·.2))) Γ1 (own.map (·.2))) ∧ (∀ s H0 C cl fp, EvX (bX X scope s H0 C cl fp) kx Γ1 (.int (gk x))) ∧ (∀ s H0 C cl fp, EvX (bX X scope s H0 C cl fp) vx Γ1 (gv x)))
    (hs : ∀ x, foldedSetIterable iter X.env x = pure x := by intro _; rfl) : EvO X (.DictComp kx vx [⟨tg, iter, [], 0⟩] scope pos) Γ (.Dc (xs.map gk) (xs.map gv)) := fun t W0 W σ l E Q q => by
  obtain ⟨wi, hpi, hwi⟩ := hit
  refine wE_of (pe_dc hc hN hpi (blkOk_by ok) (gB_ok X scope tg) (tsB_ok X scope []) (eB_ok X scope kx) (eB_ok X scope vx) hs) (hwi t W0 W σ l E _ fun J W1 e1 wd D hD => ?_)
  obtain ⟨Gh, Y, w, hG, hY⟩ := wd
  rw [List.length_map] at w
  refine dc_walk w (fun i H' => ∃ (W' : Wd) (kvs : List (Key × V)), W'.H = H' ∧ Ext W1 W' ∧ W'.F D = none ∧ W'.H D = some (.dK kvs) ∧ kvs.map (·.1) = ((xs.take i).map gk).map Sum.inl ∧ RpA W'.F ((xs.take i).map gv) (kvs.map (·.2))) ?_ ?_ ?_ ?_
  · obtain ⟨W2, z1, z2, z3⟩ := lay (o := .dK []) hD
    exact ⟨W2, [], z1, z3, by rw [z2]; exact F_none hD, by rw [z1]; exact upd_same, rfl, rfl⟩
  · rintro i H' _ ⟨W', kvs, rfl, x1, _⟩
    exact hG W' x1.f
  · rintro i x H' H'' hi ⟨W', kvs, rfl, x1, x2, x3, x4, x5⟩ y
    obtain ⟨W'', rfl, e2, d, hd, rd⟩ := hY i x W' H'' (by rw [List.length_map]; exact hi) x1.f y
    rw [List.getElem?_map] at hd
    have hx : xs[i]? = some xs[i] := List.getElem?_eq_getElem hi
    rw [hx] at hd
    have ed : enc xs[i] = d := Option.some.inj hd
    subst ed
    obtain ⟨Γ1, hb1, hb2, hb3⟩ := h xs[i] (List.getElem_mem hi)
    have e12 := e1.trans (x1.trans e2)
    have l2 := l.ext E.tv e12
    have E2 : Env X.K t W0 W'' (L2.wipe σ (own.map (·.2))) (wipeC Γ (own.map (·.2))) := (E.ext e12).wipe _
    have e2n : W''.F D = none := e2.nf x2 x3
    have e2h := e2.h _ _ x3
    have etk : xs.take (i + 1) = xs.take i ++ [xs[i]] := by rw [List.take_add_one, hx]; rfl
    intro s H0 C cl fp
    refine hb1 s H0 C cl fp t W0 W'' _ x l2 E2 rd _ fun σ' W3 e3 E3 hw => ⟨by rw [hw, wipe_wipe], ?_⟩
    show eB X scope kx σ' W3.H _
    intro s H0 C cl fp
    refine hb2 s H0 C cl fp t W0 W3 σ' (l2.ext E2.tv e3) E3 _ fun v1 W4 e4 r4 => ?_
    intro s H0 C cl fp
    refine hb3 s H0 C cl fp t W0 W4 σ' ((l2.ext E2.tv e3).ext E3.tv e4) (E3.ext e4) _ fun v2 W5 e5 r5 => ?_
    have e25 := e3.trans (e4.trans e5)
    have hH := e25.h _ _ e2h
    have hF := e25.nf e2n e2h
    have hkl : kvs.length ≤ xs.length := by
      have := congrArg List.length x4
      rw [List.length_map, List.length_map, List.length_map, List.length_take] at this
      rw [this]
      exact Nat.min_le_right _ _
    have hnew : (Sum.inl (gk xs[i]) : Key) ∉ kvs.map (·.1) := by
      rw [x4]
      intro z
      obtain ⟨m, hm, em⟩ := List.mem_map.mp z
      have em2 : m = gk xs[i] := Sum.inl.inj em
      subst em2
      have e6 : (xs.map gk).take (i + 1) = (xs.take i).map gk ++ [gk xs[i]] := by rw [← List.map_take, etk, List.map_append]; rfl
      have := (List.take_sublist (i + 1) (xs.map gk)).nodup hnd
      rw [e6] at this
      exact (List.nodup_append.mp this).2.2 _ hm _ (List.mem_singleton.mpr rfl) rfl
    have r4 : v1 = .int (gk xs[i]) := r4
    subst r4
    refine ⟨kvs, Sum.inl (gk xs[i]), rfl, hH, Nat.lt_of_le_of_lt (Nat.le_trans hkl hl) (by decide), ⟨W5.F, upd W5.H D (.dK (putK kvs (Sum.inl (gk xs[i])) v2)), fun a u ha => ?_⟩, kvs ++ [(Sum.inl (gk xs[i]), v2)], rfl, ?_, hF, ?_, ?_, ?_⟩
    · rw [upd_ne (fun z => by subst z; rw [hF] at ha; cases ha)]
      exact W5.ok _ _ ha
    · have x5 := x1.trans (e2.trans e25)
      refine ⟨fun a u ha => ?_, x5.f, x5.n⟩
      show upd W5.H D _ a = _
      rw [upd_ne (ne_of_none ha hD)]
      exact x5.h _ _ ha
    · show upd W5.H D _ D = _
      rw [upd_same, putK_newV hnew]
    · rw [etk, List.map_append, x4, List.map_append, List.map_append]
      rfl
    · rw [etk, List.map_append, List.map_append]
      exact (x5.mono (e2.trans e25).f).app (.one r5)
  · rintro H' ⟨W', kvs, rfl, x1, x2, x3, x4, x5⟩
    refine q _ W' (e1.trans x1) ⟨D, _, rfl, x2, e1.h.free hD, x3, kvs, rfl, ?_, ?_⟩
    · rw [List.take_length] at x4
      exact x4
    · rw [List.take_length] at x5
      exact x5
end
end G
-- M1
/-! M1: what orders.py computes, on naturals. -/
namespace G
def ins (ks : List Nat) (i : Nat) : List Nat := if i ∈ ks then ks else ks ++ [i]
def updK (ks ms : List Nat) : List Nat := ms.foldl ins ks
def insO (x : Nat) : List Nat → List Nat
  | [] => [x]
  | y :: ys => if x ≤ y then x :: y :: ys else y :: insO x ys
def srt : List Nat → List Nat
  | [] => []
  | x :: xs => insO x (srt xs)
theorem mem_ins {ks : List Nat} {i x : Nat} : x ∈ ins ks i ↔ x ∈ ks ∨ x = i := by
  unfold ins
  by_cases h : i ∈ ks
  · rw [if_pos h]
    constructor
    · exact .inl
    · rintro (h' | rfl)
      · exact h'
      · exact h
  · rw [if_neg h]
    simp
theorem ins_nodup {ks : List Nat} {i : Nat} (h : ks.Nodup) : (ins ks i).Nodup := by
  unfold ins
  by_cases e : i ∈ ks
  · rw [if_pos e]
    exact h
  · rw [if_neg e]
    refine List.nodup_append.mpr ⟨h, by simp, fun a ha b hb z => e ?_⟩
    have : b = i := by simpa using hb
    rw [← this, ← z]
    exact ha
theorem mem_updK {ms ks : List Nat} {x : Nat} : x ∈ updK ks ms ↔ x ∈ ks ∨ x ∈ ms := by
  unfold updK
  induction ms generalizing ks with
  | nil => simp
  | cons m ms ih =>
    rw [List.foldl_cons, ih, mem_ins]
    simp only [List.mem_cons]
    constructor
    · rintro ((h | h) | h)
      · exact .inl h
      · exact .inr (.inl h)
      · exact .inr (.inr h)
    · rintro (h | h | h)
      · exact .inl (.inl h)
      · exact .inl (.inr h)
      · exact .inr h
theorem updK_nodup {ms ks : List Nat} (h : ks.Nodup) : (updK ks ms).Nodup := by
  unfold updK
  induction ms generalizing ks with
  | nil => exact h
  | cons m ms ih => exact ih (ins_nodup h)
theorem insO_perm (x : Nat) : ∀ ys, (insO x ys).Perm (x :: ys)
  | [] => .refl _
  | y :: ys => by
    unfold insO
    by_cases h : x ≤ y
    · rw [if_pos h]
    · rw [if_neg h]
      exact ((insO_perm x ys).cons y).trans (.swap x y ys)
theorem srt_perm : ∀ xs, (srt xs).Perm xs
  | [] => .refl _
  | x :: xs => (insO_perm x (srt xs)).trans ((srt_perm xs).cons x)
theorem insO_sorted {x : Nat} : ∀ {ys : List Nat}, ys.Pairwise (· ≤ ·) → (insO x ys).Pairwise (· ≤ ·)
  | [], _ => by simp [insO]
  | y :: ys, h => by
    obtain ⟨h1, h2⟩ := List.pairwise_cons.mp h
    unfold insO
    by_cases e : x ≤ y
    · rw [if_pos e]
      refine List.pairwise_cons.mpr ⟨fun a ha => ?_, h⟩
      rcases List.mem_cons.mp ha with z | z
      · rw [z]; exact e
      · exact Nat.le_trans e (h1 a z)
    · rw [if_neg e]
      refine List.pairwise_cons.mpr ⟨fun a ha => ?_, insO_sorted h2⟩
      rcases List.mem_cons.mp ((insO_perm x ys).mem_iff.mp ha) with z | z
      · rw [z]; omega
      · exact h1 a z
theorem srt_sorted : ∀ xs, (srt xs).Pairwise (· ≤ ·)
  | [] => .nil
  | x :: xs => insO_sorted (srt_sorted xs)
theorem mem_srt {xs : List Nat} {x : Nat} : x ∈ srt xs ↔ x ∈ xs := (srt_perm xs).mem_iff
theorem srt_strict {xs : List Nat} (h : xs.Nodup) : (srt xs).Pairwise (· < ·) := by
  have h1 := srt_sorted xs
  have h2 : (srt xs).Pairwise (· ≠ ·) := (srt_perm xs).symm.nodup h
  exact (h1.and h2).imp fun ⟨a, b⟩ => Nat.lt_of_le_of_ne a b
theorem strict_uniq : ∀ {l m : List Nat}, l.Pairwise (· < ·) → m.Pairwise (· < ·) → (∀ x, x ∈ l ↔ x ∈ m) → l = m
  | [], [], _, _, _ => rfl
  | [], b :: m, _, _, h => by
    have := (h b).mpr List.mem_cons_self
    cases this
  | a :: l, [], _, _, h => by
    have := (h a).mp List.mem_cons_self
    cases this
  | a :: l, b :: m, h1, h2, h => by
    obtain ⟨a1, a2⟩ := List.pairwise_cons.mp h1
    obtain ⟨b1, b2⟩ := List.pairwise_cons.mp h2
    have x1 : b ≤ a := by
      rcases List.mem_cons.mp ((h a).mp List.mem_cons_self) with e | e
      · omega
      · exact Nat.le_of_lt (b1 a e)
    have x2 : a ≤ b := by
      rcases List.mem_cons.mp ((h b).mpr List.mem_cons_self) with e | e
      · omega
      · exact Nat.le_of_lt (a1 b e)
    have e : a = b := by omega
    subst e
    rw [strict_uniq a2 b2 fun x => ?_]
    constructor
    · intro hx
      rcases List.mem_cons.mp ((h x).mp (List.mem_cons_of_mem _ hx)) with z | z
      · have := a1 x hx
        omega
      · exact z
    · intro hx
      rcases List.mem_cons.mp ((h x).mpr (List.mem_cons_of_mem _ hx)) with z | z
      · have := b1 x hx
        omega
      · exact z
theorem range_strict (n : Nat) : (List.range n).Pairwise (· < ·) := List.pairwise_lt_range
/-- as many as there are below m -/
theorem strict_len : ∀ {l : List Nat} {lo m : Nat}, l.Pairwise (· < ·) → (∀ x ∈ l, lo ≤ x ∧ x < m) → lo ≤ m → l.length + lo ≤ m
  | [], lo, m, _, _, h => by simpa using h
  | a :: l, lo, m, h, hb, hm => by
    obtain ⟨a1, a2⟩ := List.pairwise_cons.mp h
    obtain ⟨c1, c2⟩ := hb a List.mem_cons_self
    have := strict_len (l := l) (lo := a + 1) (m := m) a2 (fun x hx => ⟨a1 x hx, (hb x (List.mem_cons_of_mem _ hx)).2⟩) c2
    rw [List.length_cons]
    omega
theorem nodup_len {ks : List Nat} {m : Nat} (h : ks.Nodup) (hb : ∀ x ∈ ks, x < m) : ks.length ≤ m := by
  have := strict_len (lo := 0) (srt_strict h) (fun x hx => ⟨Nat.zero_le _, hb x (mem_srt.mp hx)⟩) (Nat.zero_le m)
  rw [(srt_perm ks).length_eq] at this
  simpa using this
def row (f : List (List Nat)) (i : Nat) : List Nat := (f[i]?).getD []
theorem row_get {f : List (List Nat)} {i : Nat} (h : i < f.length) : f[i]? = some (row f i) := by
  unfold row
  rw [List.getElem?_eq_getElem h]
  rfl
theorem row_set {f : List (List Nat)} {i j : Nat} {r : List Nat} : row (f.set i r) j = if i = j ∧ i < f.length then r else row f j := by
  unfold row
  by_cases e : i = j
  · subst e
    by_cases h : i < f.length
    · rw [if_pos ⟨rfl, h⟩, List.getElem?_set_self h]
      rfl
    · rw [if_neg (fun z => h z.2), List.getElem?_eq_none (by rw [List.length_set]; omega), List.getElem?_eq_none (by omega)]
  · rw [if_neg (fun z => e z.1), List.getElem?_set_ne e]
theorem row_rep (m i : Nat) : row (List.replicate m []) i = [] := by
  unfold row
  by_cases h : i < m
  · rw [List.getElem?_replicate, if_pos h]
    rfl
  · rw [List.getElem?_eq_none (by simpa using h)]
    rfl
theorem row_map {f : List (List Nat)} {g : List Nat → List Nat} (h : g [] = []) (i : Nat) : row (f.map g) i = g (row f i) := by
  unfold row
  rw [List.getElem?_map]
  cases f[i]? with
  | none => exact h.symm
  | some _ => rfl
def dirStep (f : List (List Nat)) (p : Nat × Nat) : List (List Nat) := f.set p.1 (ins (row f p.1) p.2)
def dirK (m : Nat) (ps : List (Nat × Nat)) : List (List Nat) := ps.foldl dirStep (List.replicate m [])
def directs (m : Nat) (ps : List (Nat × Nat)) : List (List Nat) := (dirK m ps).map srt
def upsIn (piece : Nat) (f : List (List Nat)) (h : Nat) : List (List Nat) := f.set piece (updK (row f piece) (row f h))
def upsStep (dirs : List (List Nat)) (f : List (List Nat)) (piece : Nat) : List (List Nat) := (row dirs piece).foldl (upsIn piece) (f.set piece (ins (row f piece) piece))
def upsF (dirs : List (List Nat)) : List (List Nat) := (List.range dirs.length).reverse.foldl (upsStep dirs) (List.replicate dirs.length [])
def folB (dirs ups : List (List Nat)) (low high : Nat) : Bool := ((row dirs low).filter (fun near => !decide (near = high))).any fun near => decide (high ∈ row ups near)
def tiesStep (dirs ups : List (List Nat)) (acc : List (Nat × Nat)) (x : List Nat × Nat) : List (Nat × Nat) := acc ++ (x.1.filter fun high => !folB dirs ups x.2 high).map fun high => (x.2, high)
def tiesBy (dirs : List (List Nat)) : List (Nat × Nat) := dirs.zipIdx.foldl (tiesStep dirs (upsF dirs)) []
def namesStep (ks : List Nat) (p : Nat × Nat) : List Nat := ins (ins ks p.1) p.2
def namesOf (ps : List (Nat × Nat)) : List Nat := ps.foldl namesStep []
def rowOf (ps : List (Nat × Nat)) : List Nat := srt (namesOf ps)
def relab (r : List Nat) (p : Nat × Nat) : Nat × Nat := (r.idxOf p.1, r.idxOf p.2)
def unlab (r : List Nat) (p : Nat × Nat) : Nat × Nat := (r.getD p.1 0, r.getD p.2 0)
def tiesOf (ps : List (Nat × Nat)) : List (Nat × Nat) := (tiesBy (directs (rowOf ps).length (ps.map (relab (rowOf ps))))).map (unlab (rowOf ps))
theorem foldl_inv {α S : Type} {step : S → α → S} (J : S → Prop) : ∀ (xs : List α) (s : S), J s → (∀ s x, x ∈ xs → J s → J (step s x)) → J (xs.foldl step s)
  | [], s, h, _ => h
  | x :: xs, s, h, hs => foldl_inv J xs (step s x) (hs s x List.mem_cons_self h) fun s y hy => hs s y (List.mem_cons_of_mem _ hy)
theorem dirK_len (m : Nat) (ps : List (Nat × Nat)) : (dirK m ps).length = m := by
  refine foldl_inv (fun f : List (List Nat) => f.length = m) ps _ (List.length_replicate ..) fun f p _ h => ?_
  show (f.set _ _).length = m
  rw [List.length_set]
  exact h
/-- the rows so far -/
def DirOk (m : Nat) (f : List (List Nat)) : Prop := f.length = m ∧ ∀ i, (row f i).Nodup ∧ ∀ h ∈ row f i, i < h ∧ h < m
theorem dirOk0 (m : Nat) : DirOk m (List.replicate m []) := ⟨List.length_replicate .., fun i => by rw [row_rep]; exact ⟨.nil, fun _ h => by cases h⟩⟩
theorem dirOk_step {m : Nat} {f : List (List Nat)} {p : Nat × Nat} (h : DirOk m f) (hp : p.1 < p.2 ∧ p.2 < m) : DirOk m (dirStep f p) := by
  refine ⟨by unfold dirStep; rw [List.length_set]; exact h.1, fun i => ?_⟩
  unfold dirStep
  rw [row_set]
  by_cases e : p.1 = i ∧ p.1 < f.length
  · rw [if_pos e]
    refine ⟨ins_nodup (h.2 _).1, fun x hx => ?_⟩
    rcases mem_ins.mp hx with z | z
    · rw [← e.1]
      exact (h.2 _).2 x z
    · rw [z, ← e.1]
      exact hp
  · rw [if_neg e]
    exact h.2 i
theorem dirK_ok {m : Nat} {ps : List (Nat × Nat)} (h : ∀ p ∈ ps, p.1 < p.2 ∧ p.2 < m) : DirOk m (dirK m ps) :=
  foldl_inv (DirOk m) ps _ (dirOk0 m) fun f p hp hf => dirOk_step hf (h p hp)
theorem dirOk_len {m : Nat} {f : List (List Nat)} (h : DirOk m f) (i : Nat) : (row f i).length ≤ m := nodup_len (h.2 i).1 fun x hx => ((h.2 i).2 x hx).2
theorem directs_ok {m : Nat} {ps : List (Nat × Nat)} (h : ∀ p ∈ ps, p.1 < p.2 ∧ p.2 < m) : DirOk m (directs m ps) := by
  have q := dirK_ok h
  refine ⟨by unfold directs; rw [List.length_map]; exact q.1, fun i => ?_⟩
  unfold directs
  rw [row_map rfl]
  exact ⟨(srt_perm _).symm.nodup (q.2 i).1, fun x hx => (q.2 i).2 x (mem_srt.mp hx)⟩
/-- ups_by: rows of names below m -/
def UpsOk (m : Nat) (f : List (List Nat)) : Prop := f.length = m ∧ ∀ i, (row f i).Nodup ∧ ∀ h ∈ row f i, h < m
theorem upsOk0 (m : Nat) : UpsOk m (List.replicate m []) := ⟨List.length_replicate .., fun i => by rw [row_rep]; exact ⟨.nil, fun _ h => by cases h⟩⟩
theorem upsOk_len {m : Nat} {f : List (List Nat)} (h : UpsOk m f) (i : Nat) : (row f i).length ≤ m := nodup_len (h.2 i).1 fun x hx => (h.2 i).2 x hx
theorem upsOk_set {m : Nat} {f : List (List Nat)} {i : Nat} {r : List Nat} (h : UpsOk m f) (hr : r.Nodup) (hb : ∀ x ∈ r, x < m) : UpsOk m (f.set i r) := by
  refine ⟨by rw [List.length_set]; exact h.1, fun j => ?_⟩
  rw [row_set]
  split
  · exact ⟨hr, hb⟩
  · exact h.2 j
theorem upsOk_1 {m : Nat} {f : List (List Nat)} {i : Nat} (h : UpsOk m f) (hi : i < m) : UpsOk m (f.set i (ins (row f i) i)) :=
  upsOk_set h (ins_nodup (h.2 i).1) fun x hx => by
    rcases mem_ins.mp hx with z | z
    · exact (h.2 i).2 x z
    · rw [z]; exact hi
theorem upsOk_2 {m : Nat} {f : List (List Nat)} {i j : Nat} (h : UpsOk m f) : UpsOk m (upsIn i f j) :=
  upsOk_set h (updK_nodup (h.2 i).1) fun x hx => by
    rcases mem_updK.mp hx with z | z
    · exact (h.2 i).2 x z
    · exact (h.2 j).2 x z
theorem upsOk_step {m : Nat} {dirs f : List (List Nat)} {i : Nat} (h : UpsOk m f) (hi : i < m) : UpsOk m (upsStep dirs f i) :=
  foldl_inv (UpsOk m) _ _ (upsOk_1 h hi) fun _ _ _ => upsOk_2
theorem upsF_ok (dirs : List (List Nat)) : UpsOk dirs.length (upsF dirs) :=
  foldl_inv (UpsOk dirs.length) _ _ (upsOk0 _) fun f x hx hf => upsOk_step hf (by simpa using hx)
/-- names -/
def NamOk (m : Nat) (ks : List Nat) : Prop := ks.Nodup ∧ ∀ x ∈ ks, x < m
theorem namOk_step {m : Nat} {ks : List Nat} {p : Nat × Nat} (h : NamOk m ks) (hp : p.1 < m ∧ p.2 < m) : NamOk m (namesStep ks p) :=
  ⟨ins_nodup (ins_nodup h.1), fun x hx => by
    rcases mem_ins.mp hx with z | z
    · rcases mem_ins.mp z with z | z
      · exact h.2 x z
      · rw [z]; exact hp.1
    · rw [z]; exact hp.2⟩
theorem namOk_len {m : Nat} {ks : List Nat} (h : NamOk m ks) : ks.length ≤ m := nodup_len h.1 h.2
theorem namOk {m : Nat} {ps : List (Nat × Nat)} (h : ∀ p ∈ ps, p.1 < m ∧ p.2 < m) : NamOk m (namesOf ps) :=
  foldl_inv (NamOk m) ps _ ⟨.nil, fun _ h => by cases h⟩ fun ks p hp hk => namOk_step hk (h p hp)
theorem mem_names {ps : List (Nat × Nat)} {x : Nat} : x ∈ namesOf ps ↔ ∃ p ∈ ps, x = p.1 ∨ x = p.2 := by
  have aux : ∀ (ps : List (Nat × Nat)) (ks : List Nat), x ∈ ps.foldl namesStep ks ↔ x ∈ ks ∨ ∃ p ∈ ps, x = p.1 ∨ x = p.2 := by
    intro ps
    induction ps with
    | nil => intro ks; simp
    | cons p ps ih =>
      intro ks
      rw [List.foldl_cons, ih]
      unfold namesStep
      rw [mem_ins, mem_ins]
      constructor
      · rintro (((h | h) | h) | ⟨q, hq, h⟩)
        · exact .inl h
        · exact .inr ⟨p, List.mem_cons_self, .inl h⟩
        · exact .inr ⟨p, List.mem_cons_self, .inr h⟩
        · exact .inr ⟨q, List.mem_cons_of_mem _ hq, h⟩
      · rintro (h | ⟨q, hq, h⟩)
        · exact .inl (.inl (.inl h))
        · rcases List.mem_cons.mp hq with z | z
          · subst z
            rcases h with h | h
            · exact .inl (.inl (.inr h))
            · exact .inl (.inr h)
          · exact .inr ⟨q, z, h⟩
  unfold namesOf
  rw [aux ps []]
  simp
theorem rowOf_strict {m : Nat} {ps : List (Nat × Nat)} (h : ∀ p ∈ ps, p.1 < m ∧ p.2 < m) : (rowOf ps).Pairwise (· < ·) := srt_strict (namOk h).1
theorem rowOf_len {m : Nat} {ps : List (Nat × Nat)} (h : ∀ p ∈ ps, p.1 < m ∧ p.2 < m) : (rowOf ps).length ≤ m := by
  unfold rowOf
  rw [(srt_perm _).length_eq]
  exact namOk_len (namOk h)
theorem mem_row {ps : List (Nat × Nat)} {p : Nat × Nat} (h : p ∈ ps) : p.1 ∈ rowOf ps ∧ p.2 ∈ rowOf ps :=
  ⟨mem_srt.mpr (mem_names.mpr ⟨p, h, .inl rfl⟩), mem_srt.mpr (mem_names.mpr ⟨p, h, .inr rfl⟩)⟩
theorem idx_get {r : List Nat} {x : Nat} (h : x ∈ r) : r[r.idxOf x]? = some x := by
  have hl : r.idxOf x < r.length := List.idxOf_lt_length_of_mem h
  rw [List.getElem?_eq_getElem hl, List.getElem_idxOf]
theorem strict_get {r : List Nat} (h : r.Pairwise (· < ·)) {i j a b : Nat} (ha : r[i]? = some a) (hb : r[j]? = some b) (hij : i < j) : a < b := by
  obtain ⟨h1, e1⟩ := List.getElem?_eq_some_iff.mp ha
  obtain ⟨h2, e2⟩ := List.getElem?_eq_some_iff.mp hb
  have := List.pairwise_iff_getElem.mp h i j h1 h2 hij
  rw [← e1, ← e2]
  exact this
theorem idx_lt {r : List Nat} (h : r.Pairwise (· < ·)) {a b : Nat} (ha : a ∈ r) (hb : b ∈ r) (hab : a < b) : r.idxOf a < r.idxOf b := by
  have e1 := idx_get ha
  have e2 := idx_get hb
  rcases Nat.lt_trichotomy (r.idxOf a) (r.idxOf b) with z | z | z
  · exact z
  · rw [z, e2] at e1
    cases e1
    omega
  · have := strict_get h e2 e1 z
    omega
theorem relab_ok {m : Nat} {ps : List (Nat × Nat)} (h : ∀ p ∈ ps, p.1 < p.2 ∧ p.2 < m) : ∀ p ∈ ps.map (relab (rowOf ps)), p.1 < p.2 ∧ p.2 < (rowOf ps).length := by
  intro p hp
  obtain ⟨q, hq, e⟩ := List.mem_map.mp hp
  subst e
  obtain ⟨h1, h2⟩ := mem_row hq
  have hs : (rowOf ps).Pairwise (· < ·) := rowOf_strict (m := m) fun p hp => by have := h p hp; omega
  exact ⟨idx_lt hs h1 h2 (h q hq).1, List.idxOf_lt_length_of_mem h2⟩
end G
-- Fw12
set_option maxHeartbeats 4000000
/-! Fw12: dicts of True's and of numbers; found[i].update(found[j]). -/
namespace G
open PySem PySem.Spec PyProof.Rows L2
theorem dput_tr (i : Nat) : ∀ ks : List Nat, dput (ks.map Int.ofNat) (ks.map fun _ => D.bl true) (i : Int) (.bl true) = ((ins ks i).map Int.ofNat, (ins ks i).map fun _ => D.bl true)
  | [] => rfl
  | k :: ks => by
    have ih := dput_tr i ks
    rw [List.map_cons, List.map_cons]
    unfold dput
    by_cases e : k = i
    · subst e
      have e2 : ins (k :: ks) k = k :: ks := by unfold ins; rw [if_pos List.mem_cons_self]
      rw [if_pos (show Int.ofNat k = (k : Int) from rfl), e2]
      rfl
    · have e3 : ¬ Int.ofNat k = (i : Int) := fun z => e (Int.ofNat.inj z)
      rw [if_neg e3, ih]
      have e2 : ins (k :: ks) i = k :: ins ks i := by
        unfold ins
        by_cases h : i ∈ ks
        · rw [if_pos h, if_pos (List.mem_cons_of_mem _ h)]
        · rw [if_neg h, if_neg (fun z => h (by rcases List.mem_cons.mp z with y | y; exact (e y.symm).elim; exact y))]
          rfl
      rw [e2]
      rfl
theorem dget_tr (i : Nat) : ∀ ks : List Nat, dget (ks.map Int.ofNat) (ks.map fun _ => D.bl true) (i : Int) = if i ∈ ks then some (.bl true) else none
  | [] => rfl
  | k :: ks => by
    have ih := dget_tr i ks
    rw [List.map_cons, List.map_cons]
    unfold dget
    by_cases e : k = i
    · subst e
      rw [if_pos (show Int.ofNat k = (k : Int) from rfl), if_pos List.mem_cons_self]
    · rw [if_neg (show ¬ Int.ofNat k = (i : Int) from fun z => e (Int.ofNat.inj z)), ih]
      by_cases h : i ∈ ks
      · rw [if_pos h, if_pos (List.mem_cons_of_mem _ h)]
      · rw [if_neg h, if_neg (fun z => h (by rcases List.mem_cons.mp z with y | y; exact (e y.symm).elim; exact y))]
theorem dget_trS (i : Nat) (ks : List Nat) : (dget (ks.map Int.ofNat) (ks.map fun _ => D.bl true) (i : Int)).isSome = decide (i ∈ ks) := by
  rw [dget_tr]
  by_cases h : i ∈ ks
  · rw [if_pos h, decide_eq_true h]
    rfl
  · rw [if_neg h, decide_eq_false h]
    rfl
theorem dget_cn (k : Nat) : ∀ m : List (Nat × Nat), dget (m.map fun x => (x.1 : Int)) (m.map fun x => nD x.2) (k : Int) = (m.lookup k).map nD
  | [] => rfl
  | x :: m => by
    have ih := dget_cn k m
    rw [List.map_cons, List.map_cons]
    unfold dget
    rw [List.lookup_cons]
    by_cases e : x.1 = k
    · have e2 : (k == x.1) = true := by simpa using e.symm
      rw [if_pos (by rw [e]), e2]
      rfl
    · have e2 : (k == x.1) = false := by simpa using fun z => e z.symm
      rw [if_neg (show ¬ (x.1 : Int) = (k : Int) from fun z => e (Int.ofNat.inj z)), e2, ih]
theorem dput_cn {k v : Nat} {m : List (Nat × Nat)} (h : k ∉ m.map (·.1)) : dput (m.map fun x => (x.1 : Int)) (m.map fun x => nD x.2) (k : Int) (nD v) = ((m ++ [(k, v)]).map (fun x => (x.1 : Int)), (m ++ [(k, v)]).map fun x => nD x.2) := by
  rw [dput_new (fun z => h ?_) (by rw [List.length_map, List.length_map]), List.map_append, List.map_append]
  · rfl
  · obtain ⟨x, hx, e⟩ := List.mem_map.mp z
    have e2 : x.1 = k := Int.ofNat.inj e
    rw [← e2]
    exact List.mem_map_of_mem hx
theorem ofNat_nodup {ks : List Nat} (h : ks.Nodup) : (ks.map Int.ofNat).Nodup := by
  rw [List.nodup_iff_pairwise_ne, List.pairwise_map]
  exact h.imp fun hab z => hab (Int.ofNat.inj z)
section
variable {F : Hp}
theorem tr_vals : ∀ {ks : List Nat} {vs : List V}, RpA F (ks.map fun _ => D.bl true) vs → ∀ v ∈ vs, v = .bl true
  | [], _, h, v, hv => by
    cases h
    cases hv
  | k :: ks, _, ⟨w, ws, e, hw, hs⟩, v, hv => by
    subst e
    rcases List.mem_cons.mp hv with z | z
    · rw [z]
      exact hw
    · exact tr_vals hs v z
theorem merge_tr : ∀ {ms ks : List Nat} {kvs more : List (Key × V)}, ks.Nodup → kvs.map (·.1) = (ks.map Int.ofNat).map Sum.inl → RpA F (ks.map fun _ => D.bl true) (kvs.map (·.2)) → more.map (·.1) = (ms.map Int.ofNat).map Sum.inl → RpA F (ms.map fun _ => D.bl true) (more.map (·.2)) →
    (mergeK kvs more).map (·.1) = ((updK ks ms).map Int.ofNat).map Sum.inl ∧ RpA F ((updK ks ms).map fun _ => D.bl true) ((mergeK kvs more).map (·.2))
  | [], ks, kvs, more, hn, h1, h2, h3, h4 => by
    have e : more = [] := by
      cases more with
      | nil => rfl
      | cons a b => cases h3
    subst e
    exact ⟨h1, h2⟩
  | m :: ms, ks, kvs, more, hn, h1, h2, h3, h4 => by
    cases more with
    | nil => cases h3
    | cons a b =>
      obtain ⟨w, ws, e, hw, hs⟩ := h4
      rw [List.map_cons] at e
      cases e
      have h5 : a.1 :: b.map (·.1) = Sum.inl (Int.ofNat m) :: (ms.map Int.ofNat).map Sum.inl := h3
      have e1 : a.1 = Sum.inl (Int.ofNat m) := (List.cons.inj h5).1
      have e2 : a.2 = .bl true := hw
      obtain ⟨q1, q2⟩ := putK_rp (F := F) (z := D.bl true) (v := a.2) hw (Int.ofNat m) h1 h2 (ofNat_nodup hn)
      rw [show Int.ofNat m = (m : Int) from rfl, dput_tr] at q1 q2
      have q := merge_tr (ms := ms) (ks := ins ks m) (kvs := putK kvs (Sum.inl (m : Int)) a.2) (more := b) (ins_nodup hn) q1 q2 (List.cons.inj h5).2 hs
      have e3 : mergeK kvs (a :: b) = mergeK (putK kvs (Sum.inl (m : Int)) a.2) b := by
        unfold mergeK
        rw [List.foldl_cons, e1]
        rfl
      rw [e3]
      exact q
end
section
variable {X : Cx} {Γ Γ' : Ctx} {e a b c : Expr} {rest : List Stmt} {pos p pos' apos cpos px : Pos} {d : D} {P : Post}
/-- xs[j].update(xs[m]): dicts of True's -/
theorem hr_updN (i : Nat) {x : Str} {bs : List B} {ks ms : List Nat} {j m : Nat} {pa px2 pb : Pos} (ha : EvX X a Γ (nD j)) (hb : EvX X b Γ (nD m)) (k : Hr X rest (Γ.set i (.ow (.many (bs.set j (trB (updK ks ms)))))) P) (hj : bs[j]? = some (trB ks)) (hm : bs[m]? = some (trB ms)) (hne : j ≠ m) (hn : ks.Nodup) (hz : ks.length + ms.length ≤ 100000)
    (hi : Γ[i]? = some (.ow (.many bs)) := by rfl) (hN : X.N[i]? = some x := by rfl) (hv : Vis X.env.scope x := by first | exact Or.inl rfl | exact Or.inr (Or.inl rfl) | exact Or.inr (Or.inr rfl))
    (hd : (x == ("__debug__" : Str)) = false := by decide) (hcd : (x == ("__classdict__" : Str)) = false := by decide) (hsw : swapsWith (.Call (.Attribute (.Subscript (.Name x px) a pa) "update" apos) [.Subscript (.Name x px2) b pb] [] cpos) none pos.line X.env = pure false := by rfl)
    (hbase : attributeBase (.Subscript (.Name x px) a pa) "update" X.env (eval (.Subscript (.Name x px) a pa) X.env) = eval (.Subscript (.Name x px) a pa) X.env := by rfl)
    (hfew : ((backTo cpos (starEach [.Subscript (.Name x px2) b pb] X.env)).all (fun x => !x.1) && (backToKw cpos (keywordEach [] X.env)).all (fun x => x.1.isSome)
      && decide (([.Subscript (.Name x px2) b pb] : List Expr).length + ([] : List Keyword).length + (if ([] : List Keyword).isEmpty then 0 else 1) < 30)) = true := by rfl)
    (hline : (apos.endLine == cpos.line) = true := by rfl) (hst : starEach [.Subscript (.Name x px2) b pb] X.env = (false, eval (.Subscript (.Name x px2) b pb) X.env) :: starEach [] X.env := by rfl) (hpl : PlainIx a := by exact fun _ _ => rfl) (hpl2 : PlainIx b := by exact fun _ _ => rfl) :
    Hr X (.Expr (.Call (.Attribute (.Subscript (.Name x px) a pa) "update" apos) [.Subscript (.Name x px2) b pb] [] cpos) pos :: rest) Γ P := hr_step (fun t W0 W σ l E De q => by
  obtain ⟨p, ps, q0, o, hσ, hH, hq, hall, hlen, hnd, _⟩ := E.mutM (b' := .L []) l hi hj
  have hml : m < ps.length := by rw [hlen]; exact (List.getElem?_eq_some_iff.mp hm).1
  have hqm : ps[m]? = some ps[m] := List.getElem?_eq_getElem hml
  have at_ : ∀ (n : Nat) (q1 : Addr), ps[n]? = some q1 → atI (ps.map V.ref) (n : Int) = some (.ref q1) := fun n q1 h => atI_map V.ref h
  refine wS_of (ps_expr (pe_bm PySem.F.plainAttrs_dict PySem.F.slot_dict_update PySem.F.type_dict_update mt_update (pe_ix ix_list (pe_var hN hv hd hcd) (pe_w X a) hpl) (pa_cons (pe_ix ix_list (pe_var hN hv hd hcd) (pe_w X b) hpl2) pa_nil hst) hbase hfew hline hst rfl) hsw) ⟨_, hσ, ha t W0 W σ l E _ fun v2 W2 e2 r2 => ?_⟩
  have r2 : v2 = .int (j : Int) := r2
  subst r2
  refine ⟨p, ps.map V.ref, (j : Int), .ref q0, rfl, rfl, SqL.of (e2.h _ _ hH), at_ j q0 hq, ?_⟩
  have E2 := E.ext e2
  have l2 := l.ext E.tv e2
  obtain ⟨oj, hoj, ⟨kps, rfl, hkj, hxj⟩⟩ := hall j q0 _ hq hj
  refine ⟨.inr (.inr (.inl ⟨rfl, .inl ⟨kps, e2.h _ _ hoj⟩⟩)), ?_⟩
  refine ⟨_, hσ, hb t W0 W2 σ l2 E2 _ fun v3 W3 e3 r3 => ?_⟩
  have r3 : v3 = .int (m : Int) := r3
  subst r3
  have e23 := e2.trans e3
  refine ⟨p, ps.map V.ref, (m : Int), .ref ps[m], rfl, rfl, SqL.of (e23.h _ _ hH), at_ m _ hqm, ?_⟩
  obtain ⟨om, hom, ⟨mps, rfl, hkm, hxm⟩⟩ := hall m _ _ hqm hm
  obtain ⟨p', ps', q', o', hσ', hH', hq', hall', _, _, ho', ⟨kps', rfl, hk, hx⟩, up⟩ := (E2.ext e3).mutM (b' := trB (updK ks ms)) (l2.ext E2.tv e3) hi hj
  rw [hσ] at hσ'
  cases hσ'
  rw [e23.h _ _ hH] at hH'
  have hps : ps' = ps := (List.map_inj_right (fun _ _ h => V.ref.inj h)).mp (HO.lst.inj (Option.some.inj hH')).symm
  subst hps
  rw [hq] at hq'
  cases hq'
  obtain ⟨om', hom', ⟨mps', rfl, hkm', hxm'⟩⟩ := hall' m _ _ hqm hm
  obtain ⟨y1, y2⟩ := merge_tr hn hk hx hkm' hxm'
  obtain ⟨W4, z1, z2, z3, z4⟩ := up (.dK (mergeK kps' mps')) ⟨_, rfl, y1, y2⟩
  have hl1 : kps'.length = ks.length := by
    have := congrArg List.length hk
    simpa using this
  have hl2 : mps'.length = ms.length := by
    have := congrArg List.length hkm'
    simpa using this
  refine ⟨_, _, kps', mps', rfl, rfl, fun z => hne (nd_ix hnd hq (by rw [z]; exact hqm)), ho', hom', by rw [hl1, hl2]; exact Nat.le_trans hz (by decide), ?_⟩
  show De.nx σ (upd W3.H _ (.dK (mergeK kps' mps')))
  rw [← z1]
  exact q σ W4 z3 (by rw [z2]; exact e23.f) z4) k
end
end G
-- P3
set_option maxHeartbeats 4000000
/-! P3: ascends, are_numbers; orders.py, first part -/
namespace G
open PySem PySem.Spec PyProof.Rows L2
def plt (x y : Pr) : Prop := x.1 < y.1 ∨ (x.1 = y.1 ∧ x.2 < y.2)
def rowD (r : List Nat) : D := .lst (r.map nD)
theorem map_ofNat (r : List Nat) : (r.map Int.ofNat).map D.int = r.map nD := by rw [List.map_map]; rfl
theorem map_bls {α : Type} (xs : List α) (f : α → Bool) : xs.map (fun x => D.bl (f x)) = (xs.map f).map D.bl := by rw [List.map_map]; rfl
section
variable {X : Cx} {Γ Γ' : Ctx} {e a b c : Expr} {rest : List Stmt} {pos p pos' apos cpos px : Pos} {d d1 : D} {P : Post} {i j : Int}
theorem xt (h : EvX X e Γ d) (q : d = d1) : EvX X e Γ d1 := EvX.to h q
theorem x_owL (i : Nat) {x : Str} {ds : List D} (hΓ : Γ[i]? = some (.ow (.one (.L ds))) := by rfl) (hN : X.N[i]? = some x := by rfl) (hv : Vis X.env.scope x := by first | exact Or.inl rfl | exact Or.inr (Or.inl rfl) | exact Or.inr (Or.inr rfl))
    (hd : (x == ("__debug__" : Str)) = false := by decide) (hcd : (x == ("__classdict__" : Str)) = false := by decide) : RdX X (.Name x pos) Γ (.lst ds) := x_ow (o := .L ds) i hΓ hN hv hd hcd
theorem x_owD (i : Nat) {x : Str} {ks : List Int} {ds : List D} (hΓ : Γ[i]? = some (.ow (.one (.Dc ks ds))) := by rfl) (hN : X.N[i]? = some x := by rfl) (hv : Vis X.env.scope x := by first | exact Or.inl rfl | exact Or.inr (Or.inl rfl) | exact Or.inr (Or.inr rfl))
    (hd : (x == ("__debug__" : Str)) = false := by decide) (hcd : (x == ("__classdict__" : Str)) = false := by decide) : RdX X (.Name x pos) Γ (.dct ks ds) := x_ow (o := .Dc ks ds) i hΓ hN hv hd hcd
theorem rt (h : RdX X e Γ d) (q : d = d1) : RdX X e Γ d1 := RdX.to h q
theorem d_ltY (h : i < j) : OpD X (compareOp .Lt) (.int i) (.int j) (.bl true) := by
  have q := @d_lt X i j
  rwa [decide_eq_true h] at q
theorem d_leY (h : i ≤ j) : OpD X (compareOp .LtE) (.int i) (.int j) (.bl true) := by
  have q := @d_le X i j
  rwa [decide_eq_true h] at q
theorem d_geY (h : j ≤ i) : OpD X (compareOp .GtE) (.int i) (.int j) (.bl true) := by
  have q := @d_ge X i j
  rwa [decide_eq_true h] at q
theorem d_ltP' (hu : X.A.units < cLine) {x y : Pr} (h : plt x y) : OpD X (compareOp .Lt) (prD x) (prD y) (.bl true) := by
  have q := @d_ltP X hu x y
  rwa [decide_eq_true (show x.1 < y.1 ∨ (x.1 = y.1 ∧ x.2 < y.2) from h)] at q
/-- found[j][n] = True -/
theorem hr_setTr (i : Nat) {x : Str} {f : List (List Nat)} {j n : Nat} {px pa pb : Pos} {kk : Nat} (hu : X.A.units + 1 < cLine) (ha : EvX X a Γ (nD j)) (hb : EvX X b Γ (nD n)) (k : Hr X rest (Γ.set i (.ow (.many ((f.set j (ins (row f j) n)).map trB)))) P) (hj : j < f.length) (hn : (row f j).Nodup) (hz : (row f j).length < 100000)
    (hi : Γ[i]? = some (.ow (.many (f.map trB))) := by rfl) (hN : X.N[i]? = some x := by rfl) (hv : Vis X.env.scope x := by first | exact Or.inl rfl | exact Or.inr (Or.inl rfl) | exact Or.inr (Or.inr rfl))
    (hd : (x == ("__debug__" : Str)) = false := by decide) (hcd : (x == ("__classdict__" : Str)) = false := by decide) (hs : swapsWith (.Constant (.bool true) kk pb) (some (.Subscript (.Subscript (.Name x px) a pa) b pos')) pos.line X.env = pure false := by rfl) (hpl : PlainIx a := by exact fun _ _ => rfl) :
    Hr X (.Assign [.Subscript (.Subscript (.Name x px) a pa) b pos'] (.Constant (.bool true) kk pb) pos :: rest) Γ P := by
  refine hr_setND i (ks := (row f j).map Int.ofNat) (ds := (row f j).map fun _ => .bl true) hu x_bl ha hb ?_ (by rw [List.getElem?_map, row_get hj]; rfl) (ofNat_nodup hn) (by rw [List.length_map]; exact hz) hi hN hv hd hcd hs hpl
  rw [dput_tr]
  refine hr_eq k ?_
  rw [List.map_set]
  rfl
/-- found[j].update(found[m]) -/
theorem hr_updTr (i : Nat) {x : Str} {f : List (List Nat)} {j m : Nat} {pa px2 pb : Pos} (ha : EvX X a Γ (nD j)) (hb : EvX X b Γ (nD m)) (k : Hr X rest (Γ.set i (.ow (.many ((upsIn j f m).map trB)))) P) (hj : j < f.length) (hm : m < f.length) (hne : j ≠ m) (hn : (row f j).Nodup) (hz : (row f j).length + (row f m).length ≤ 100000)
    (hi : Γ[i]? = some (.ow (.many (f.map trB))) := by rfl) (hN : X.N[i]? = some x := by rfl) (hv : Vis X.env.scope x := by first | exact Or.inl rfl | exact Or.inr (Or.inl rfl) | exact Or.inr (Or.inr rfl))
    (hd : (x == ("__debug__" : Str)) = false := by decide) (hcd : (x == ("__classdict__" : Str)) = false := by decide) (hsw : swapsWith (.Call (.Attribute (.Subscript (.Name x px) a pa) "update" apos) [.Subscript (.Name x px2) b pb] [] cpos) none pos.line X.env = pure false := by rfl)
    (hbase : attributeBase (.Subscript (.Name x px) a pa) "update" X.env (eval (.Subscript (.Name x px) a pa) X.env) = eval (.Subscript (.Name x px) a pa) X.env := by rfl)
    (hfew : ((backTo cpos (starEach [.Subscript (.Name x px2) b pb] X.env)).all (fun x => !x.1) && (backToKw cpos (keywordEach [] X.env)).all (fun x => x.1.isSome)
      && decide (([.Subscript (.Name x px2) b pb] : List Expr).length + ([] : List Keyword).length + (if ([] : List Keyword).isEmpty then 0 else 1) < 30)) = true := by rfl)
    (hline : (apos.endLine == cpos.line) = true := by rfl) (hst : starEach [.Subscript (.Name x px2) b pb] X.env = (false, eval (.Subscript (.Name x px2) b pb) X.env) :: starEach [] X.env := by rfl) (hpl : PlainIx a := by exact fun _ _ => rfl) (hpl2 : PlainIx b := by exact fun _ _ => rfl) :
    Hr X (.Expr (.Call (.Attribute (.Subscript (.Name x px) a pa) "update" apos) [.Subscript (.Name x px2) b pb] [] cpos) pos :: rest) Γ P := by
  refine hr_updN i ha hb ?_ (by rw [List.getElem?_map, row_get hj]; rfl) (by rw [List.getElem?_map, row_get hm]; rfl) hne hn hz hi hN hv hd hcd hsw hbase hfew hline hst hpl hpl2
  refine hr_eq k ?_
  unfold upsIn
  rw [List.map_set]
end
section
variable {P : Program} {w : World} {K : PySem.W.Frag} {mg : Str → Option Value} {base : Heap}
def R_ascends : List D → D → Prop := fun ds d => d = .bl true ∧ ((∃ ns : List Nat, ns.Pairwise (· < ·) ∧ ns.length ≤ 100000 ∧ ds = [nsD ns]) ∨ ∃ ts : List Pr, ts.Pairwise plt ∧ ts.length ≤ 100000 ∧ ds = [tsD ts])
theorem sc11 : FnScope ["row", "k"] ["row"] (defScope (topS 11)) := ⟨rfl, rfl, rfl, by decide +kernel, rfl, by decide +kernel, by decide +kernel⟩
theorem all_yes (n : Nat) : (List.map (fun (_ : Nat) => D.bl true) ((List.range n).filter fun _ => true)) = ((List.replicate n true).map D.bl) := by
  rw [filt_true, List.map_const', List.length_range, List.map_replicate]
theorem ok_ascends (T : Bn mg) (D0 : Df K mg "ascends" (topS 11) ["row"]) : Cal P w K mg base 1 "ascends" (spF R_ascends) :=
  mk_cal D0 sc11 (by decide) (fun ds d ⟨_, h⟩ => by rcases h with ⟨_, _, _, h⟩ | ⟨_, _, _, h⟩ <;> rw [h] <;> rfl) fun f cdv A outer s H E hr ds d ⟨h1, h2⟩ => by
    subst h1
    rcases h2 with ⟨ns, hs, hl, rfl⟩ | ⟨ts, hs, hl, rfl⟩
    · refine hr_ret ((x_all T rfl (bs := List.replicate (ns.length - 1) true) ((rl (o_lc [("k", 1)] nD (List.range (ns.length - 1)) (fun _ => true) (fun _ => .bl true) rfl sc11.nd (it_rN T (j := (ns.length : Int) - 1) ?_ (by omega) (by omega)) (by rfl) (by rw [List.length_range]; omega) fun k hk => ⟨_, fun s H0 C cl fp => tg_fn 1 sc11.nd, .nil, fun _ s H0 C cl fp => ?_⟩)).to (by rw [all_yes]))).to (d1 := .bl true) (by simp)) rfl
      · exact (x_op (x_lenT T (x_nm 0).rd).rd x_int.rd d_sub).to (by rw [List.length_map])
      · have hk2 : k + 1 < ns.length := by have := List.mem_range.mp hk; omega
        exact x_cmp (d1 := nD ns[k]) (d2 := nD ns[k + 1]) (rx (x_ixT (x_nm 0).rd (x_nm 1) (atI_map nD (List.getElem?_eq_getElem (by omega))))) (rx (x_ixT (x_nm 0).rd (x_op (x_nm 1).rd x_int.rd d_add) (atI_map (k := k + 1) nD (List.getElem?_eq_getElem hk2)))) (d_ltY (by
          have := List.pairwise_iff_getElem.mp hs k (k + 1) (by omega) hk2 (by omega)
          omega))
    · refine hr_ret ((x_all T rfl (bs := List.replicate (ts.length - 1) true) ((rl (o_lc [("k", 1)] nD (List.range (ts.length - 1)) (fun _ => true) (fun _ => .bl true) rfl sc11.nd (it_rN T (j := (ts.length : Int) - 1) ?_ (by omega) (by omega)) (by rfl) (by rw [List.length_range]; omega) fun k hk => ⟨_, fun s H0 C cl fp => tg_fn 1 sc11.nd, .nil, fun _ s H0 C cl fp => ?_⟩)).to (by rw [all_yes]))).to (d1 := .bl true) (by simp)) rfl
      · exact (x_op (x_lenT T (x_nm 0).rd).rd x_int.rd d_sub).to (by rw [List.length_map])
      · have hk2 : k + 1 < ts.length := by have := List.mem_range.mp hk; omega
        exact x_cmp (d1 := prD ts[k]) (d2 := prD ts[k + 1]) (rx (x_ixT (x_nm 0).rd (x_nm 1) (atI_map prD (List.getElem?_eq_getElem (by omega))))) (rx (x_ixT (x_nm 0).rd (x_op (x_nm 1).rd x_int.rd d_add) (atI_map (k := k + 1) prD (List.getElem?_eq_getElem hk2)))) (d_ltP' (by exact hr.u0) (List.pairwise_iff_getElem.mp hs k (k + 1) (by omega) hk2 (by omega)))
def R_are_numbers : List D → D → Prop := fun ds d => ∃ ns : List Int, ns.length ≤ 100000 ∧ ds = [.tup (ns.map D.int)] ∧ d = .bl true
theorem sc12 : FnScope ["thing", "own"] ["thing"] (defScope (topS 12)) := ⟨rfl, rfl, rfl, by decide +kernel, rfl, by decide +kernel, by decide +kernel⟩
theorem ok_are_numbers (T : Bn mg) (D0 : Df K mg "are_numbers" (topS 12) ["thing"]) (c1 : Cal P w K mg base 1 "is_number" (spF R_is_number)) : Cal P w K mg base 2 "are_numbers" (spF R_are_numbers) :=
  mk_cal D0 sc12 (by decide) (fun ds d ⟨x, _, h, _⟩ => by rw [h]; rfl) fun f cdv A outer s H E hr ds d ⟨ns, hl, h1, h2⟩ => by
    subst h1 h2
    refine hr_ret (x_and (m := true) (x_isi T (x_nm 0).rd boot_tuple T.tuple (kit_tuple (.tup (ns.map D.int)))) fun _ => x_one (h := xt (x_all T rfl (bs := List.replicate ns.length true) (rt (rl (o_lc [("own", 1)] D.int ns (fun _ => true) (fun _ => .bl true) rfl sc12.nd (it_tup (x_nm 0)) (by rfl) hl fun i hi => ⟨_, fun s H0 C cl fp => tg_fn 1 sc12.nd, .nil, fun _ s H0 C cl fp => x_call c1 hr (Nat.le_refl _) (a_cons (x_nm 1) a_nil) ⟨.int i, rfl, rfl⟩⟩)) ?_)) (by simp))) rfl
    rw [filt_true, List.map_const', List.map_replicate]
def R_is_pair_of : List D → D → Prop := fun ds d => ∃ (m : Nat) (p : Pr), p.1 < p.2 ∧ p.2 < m ∧ ds = [nD m, prD p] ∧ d = .bl true
theorem sc14 : FnScope ["many", "thing"] ["many", "thing"] (defScope (topS 14)) := ⟨rfl, rfl, rfl, by decide +kernel, rfl, by decide +kernel, by decide +kernel⟩
theorem ok_is_pair_of (D0 : Df K mg "is_pair_of" (topS 14) ["many", "thing"]) (c1 : Cal P w K mg base 1 "is_long" (spF R_is_long)) (c2 : Cal P w K mg base 2 "are_numbers" (spF R_are_numbers)) : Cal P w K mg base 3 "is_pair_of" (spF R_is_pair_of) :=
  mk_cal D0 sc14 (by decide) (fun ds d ⟨_, _, _, _, h, _⟩ => by rw [h]; rfl) fun f cdv A outer s H E hr ds d ⟨m, p, l1, l2, h1, h2⟩ => by
    subst h1 h2
    refine hr_ret (x_and (k := true) (m := true) (x_call c1 hr (by decide) (a_cons (x_nm 1) (a_cons x_int a_nil)) ⟨[nD p.1, nD p.2], 2, rfl, rfl⟩) fun _ => x_and (k := true) (m := true) (x_call c2 hr (by decide) (a_cons (x_nm 1) a_nil) ⟨[(p.1 : Int), (p.2 : Int)], Nat.le_of_ble_eq_true rfl, rfl, rfl⟩) fun _ => x_one (h := ?_)) rfl
    exact x_ch (k := true && (true && true)) x_int (ch_link (d2 := nD p.1) (x_ixT (x_nm 1).rd x_int (by rfl)) (d_leY (by omega)) fun _ => ch_link (d2 := nD p.2) (x_ixT (x_nm 1).rd x_int (by rfl)) (d_ltY (by omega)) fun _ => ch_last (x_nm 0) (d_ltY (by omega)))
def R_directs_by : List D → D → Prop := fun ds d => ∃ (m : Nat) (ps : List Pr), m ≤ 60 ∧ (∀ p ∈ ps, p.1 < p.2 ∧ p.2 < m) ∧ ds = [nD m, .lst (ps.map prD)] ∧ d = .lst ((directs m ps).map rowD)
theorem sc15 : FnScope ["many", "pairs", "found", "low", "high", "_", "row"] ["many", "pairs"] (defScope (topS 15)) := ⟨rfl, rfl, rfl, by decide +kernel, rfl, by decide +kernel, by decide +kernel⟩
theorem rep_tr (m : Nat) : (List.range m).map (fun _ => B.Dc [] []) = (List.replicate m ([] : List Nat)).map trB := by
  rw [List.map_const', List.length_range, List.map_replicate]
  rfl
theorem ok_directs_by (T : Bn mg) (D0 : Df K mg "directs_by" (topS 15) ["many", "pairs"]) : Cal P w K mg base 1 "directs_by" (spF R_directs_by) :=
  mk_cal D0 sc15 (by decide) (fun ds d ⟨_, _, _, _, h, _⟩ => by rw [h]; rfl) fun f cdv A outer s H E hr ds d ⟨m, ps, hm, hp, h1, h2⟩ => by
    subst h1 h2
    refine hr_lcM 2 [("_", 5)] nD (List.range m) (fun _ => .Dc [] []) rfl sc15.nd (it_rN T (x_nm 0)) (by rfl) (by rw [List.length_range]; omega) (by rfl) (fun k hk => ⟨_, fun s H0 C cl fp => tg_fn 5 sc15.nd, fun s H0 C cl fp => o_dct0⟩) ?_
    rw [rep_tr]
    refine hr_fold prD ps (fun (g : List (List Nat)) => [.pu (nD m), .pu (.lst (ps.map prD)), .ow (.many (g.map trB)), .un, .un, .un, .un]) dirStep (List.replicate m []) (fun _ g => DirOk m g) PassesOwn.never rfl (it_list (x_nm 1)) (.same (.same (.same (.same (.same (.same (.same .nil))))))) (dirOk0 m) (fun pre p post g e hg => ?_) (fun hg => ?_)
    · have hpm := hp p (by rw [e]; simp)
      refine ⟨dirOk_step hg hpm, _, [3, 4], tg_pr 3 4 rfl sc15.nd, ?_⟩
      refine hr_setTr 2 hr.u1 (x_nm 3) (x_nm 4) (hr_nil _ (.same (.same (.same (.un (.un (.un (.un .nil))))))) rfl) (by rw [hg.1]; omega) (hg.2 _).1 (by have := dirOk_len hg p.1; omega)
    · refine hr_frzM 2 ?_
      refine hr_ret ((xl (o_lc [("row", 6)] trD (dirK m ps) (fun _ => true) (fun r => rowD (srt r)) rfl sc15.nd (it_list ((x_nm 2).to (by rw [List.map_map]; rfl))) (by rfl) (by rw [dirK_len]; omega) fun r hr2 => ⟨_, fun s H0 C cl fp => tg_fn 6 sc15.nd, .nil, fun _ s H0 C cl fp => ?_⟩)).to (by rw [filt_true])) (by unfold directs; rw [List.map_map]; rfl)
      obtain ⟨i, hi, ei⟩ := List.mem_iff_getElem.mp hr2
      have er : row (dirK m ps) i = r := by unfold row; rw [List.getElem?_eq_getElem hi, ei]; rfl
      have hlen := dirOk_len hg i
      have hnd := (hg.2 i).1
      rw [show ps.foldl dirStep (List.replicate m []) = dirK m ps from rfl, er] at hlen hnd
      exact (xl (o_sortedD T rfl (ks := r.map Int.ofNat) (ms := (srt r).map Int.ofNat) (x_nm 6).rd (by rw [List.length_map]; omega) ((srt_perm r).map _) (by
        rw [List.pairwise_map]
        exact (srt_sorted r).imp fun h => Int.ofNat_le.mpr h))).to (by rw [map_ofNat]; rfl)
end
end G
-- M2
/-! M2: more of what orders.py computes. -/
namespace G
theorem lookup_zip : ∀ (r : List Nat) (o k : Nat), k ∈ r → (r.zipIdx o).lookup k = some (r.idxOf k + o)
  | [], _, _, h => by cases h
  | a :: r, o, k, h => by
    rw [List.zipIdx_cons, List.lookup_cons]
    by_cases e : k = a
    · subst e
      simp
    · have e2 : (k == a) = false := by simpa using e
      have hm : k ∈ r := by
        rcases List.mem_cons.mp h with z | z
        · exact (e z).elim
        · exact z
      rw [e2]
      show (r.zipIdx (o + 1)).lookup k = _
      rw [lookup_zip r (o + 1) k hm, List.idxOf_cons]
      have e3 : (a == k) = false := by simpa using fun z => e z.symm
      rw [e3]
      simp
      omega
theorem ties_fold_mem {dirs ups : List (List Nat)} {t : Nat × Nat} : ∀ (zs : List (List Nat × Nat)) (acc : List (Nat × Nat)), t ∈ zs.foldl (tiesStep dirs ups) acc ↔ t ∈ acc ∨ ∃ z ∈ zs, t.1 = z.2 ∧ t.2 ∈ z.1 ∧ folB dirs ups t.1 t.2 = false
  | [], acc => by simp
  | z :: zs, acc => by
    rw [List.foldl_cons, ties_fold_mem zs]
    unfold tiesStep
    rw [List.mem_append, List.mem_map]
    constructor
    · rintro ((h | ⟨x, hx, e⟩) | ⟨y, hy, h⟩)
      · exact .inl h
      · rw [List.mem_filter] at hx
        subst e
        exact .inr ⟨z, List.mem_cons_self, rfl, hx.1, by simpa using hx.2⟩
      · exact .inr ⟨y, List.mem_cons_of_mem _ hy, h⟩
    · rintro (h | ⟨y, hy, h1, h2, h3⟩)
      · exact .inl (.inl h)
      · rcases List.mem_cons.mp hy with e | e
        · subst e
          refine .inl (.inr ⟨t.2, List.mem_filter.mpr ⟨h2, ?_⟩, ?_⟩)
          · rw [← h1, h3]
            rfl
          · rw [← h1]
        · exact .inr ⟨y, e, h1, h2, h3⟩
theorem mem_zip {f : List (List Nat)} {z : List Nat × Nat} (h : z ∈ f.zipIdx) : z.2 < f.length ∧ z.1 = row f z.2 := by
  have q := List.mem_zipIdx' (x := z.1) (i := z.2) (xs := f) h
  obtain ⟨q1, q2⟩ := q
  refine ⟨q1, ?_⟩
  unfold row
  rw [List.getElem?_eq_getElem q1, q2]
  rfl
theorem tiesBy_mem {dirs : List (List Nat)} {t : Nat × Nat} (h : t ∈ tiesBy dirs) : t.1 < dirs.length ∧ t.2 ∈ row dirs t.1 := by
  unfold tiesBy at h
  rw [ties_fold_mem] at h
  rcases h with h | ⟨z, hz, h1, h2, _⟩
  · cases h
  · obtain ⟨q1, q2⟩ := mem_zip hz
    rw [h1]
    exact ⟨q1, by rw [← q2]; exact h2⟩
theorem ties_len {dirs ups : List (List Nat)} {m : Nat} : ∀ (zs : List (List Nat × Nat)) (acc : List (Nat × Nat)), (∀ z ∈ zs, z.1.length ≤ m) → (zs.foldl (tiesStep dirs ups) acc).length ≤ acc.length + zs.length * m
  | [], acc, _ => by simp
  | z :: zs, acc, h => by
    rw [List.foldl_cons]
    have h1 := ties_len (dirs := dirs) (ups := ups) zs (tiesStep dirs ups acc z) (fun y hy => h y (List.mem_cons_of_mem _ hy))
    have h2 : (tiesStep dirs ups acc z).length ≤ acc.length + m := by
      unfold tiesStep
      rw [List.length_append, List.length_map]
      have := List.length_filter_le (fun high => !folB dirs ups z.2 high) z.1
      have := h z List.mem_cons_self
      omega
    rw [List.length_cons, Nat.add_mul]
    omega
theorem tiesBy_len {m : Nat} {dirs : List (List Nat)} (h : DirOk m dirs) : (tiesBy dirs).length ≤ m * m := by
  have q := ties_len (dirs := dirs) (ups := upsF dirs) (m := m) dirs.zipIdx [] (fun z hz => by rw [(mem_zip hz).2]; exact dirOk_len h _)
  rw [List.length_zipIdx, h.1, List.length_nil, Nat.zero_add] at q
  exact q
end G
-- P4
set_option maxHeartbeats 4000000
/-! P4: orders.py, the rest -/
namespace G
open PySem PySem.Spec PyProof.Rows L2
section
variable {X : Cx} {Γ Γ' : Ctx} {e a b c : Expr} {rest : List Stmt} {pos p pos' apos cpos px : Pos} {d d1 : D} {P : Post} {i j : Int}
/-- named[n] = True -/
theorem hr_setTr1 (i : Nat) {x : Str} {ks : List Nat} {n : Nat} {px pb : Pos} {kk : Nat} (hu : X.A.units + 1 < cLine) (hb : EvX X b Γ (nD n)) (k : Hr X rest (Γ.set i (.ow (.one (trB (ins ks n))))) P) (hn : ks.Nodup) (hz : ks.length < 100000)
    (hi : Γ[i]? = some (.ow (.one (trB ks))) := by rfl) (hN : X.N[i]? = some x := by rfl) (hv : Vis X.env.scope x := by first | exact Or.inl rfl | exact Or.inr (Or.inl rfl) | exact Or.inr (Or.inr rfl))
    (hd : (x == ("__debug__" : Str)) = false := by decide) (hcd : (x == ("__classdict__" : Str)) = false := by decide) (hs : swapsWith (.Constant (.bool true) kk pb) (some (.Subscript (.Name x px) b pos')) pos.line X.env = pure false := by rfl) :
    Hr X (.Assign [.Subscript (.Name x px) b pos'] (.Constant (.bool true) kk pb) pos :: rest) Γ P := by
  refine hr_setD i (ks := ks.map Int.ofNat) (ds := ks.map fun _ => .bl true) hu x_bl hb ?_ (ofNat_nodup hn) (by rw [List.length_map]; exact hz) hi hN hv hd hcd hs
  rw [dput_tr]
  exact k
theorem zip_map {α : Type} (f : α → D) (xs : List α) : enumD (xs.map f) = xs.zipIdx.map fun x => .tup [nD x.2, f x.1] := by
  unfold enumD
  rw [List.zipIdx_map, List.map_map]
  rfl
theorem trDs (g : List (List Nat)) : (g.map trB).map B.d = g.map trD := by rw [List.map_map]; rfl
end
section
variable {P : Program} {w : World} {K : PySem.W.Frag} {mg : Str → Option Value} {base : Heap}
def R_ups_by : List D → D → Prop := fun ds d => ∃ dirs : List (List Nat), dirs.length ≤ 60 ∧ DirOk dirs.length dirs ∧ ds = [.lst (dirs.map rowD)] ∧ d = .lst ((upsF dirs).map trD)
theorem sc16 : FnScope ["directs", "found", "piece", "high", "_"] ["directs"] (defScope (topS 16)) := ⟨rfl, rfl, rfl, by decide +kernel, rfl, by decide +kernel, by decide +kernel⟩
theorem ok_ups_by (T : Bn mg) (D0 : Df K mg "ups_by" (topS 16) ["directs"]) : Cal P w K mg base 1 "ups_by" (spF R_ups_by) :=
  mk_cal D0 sc16 (by decide) (fun ds d ⟨_, _, _, h, _⟩ => by rw [h]; rfl) fun f cdv A outer s H E hr ds d ⟨dirs, hm, hp, h1, h2⟩ => by
    subst h1 h2
    refine hr_lcM 1 [("_", 4)] rowD dirs (fun _ => .Dc [] []) rfl sc16.nd (it_list (x_nm 0)) (by rfl) (by omega) (by rfl) (fun k hk => ⟨_, fun s H0 C cl fp => tg_fn 4 sc16.nd, fun s H0 C cl fp => o_dct0⟩) ?_
    rw [show dirs.map (fun _ => B.Dc [] []) = (List.replicate dirs.length ([] : List Nat)).map trB by rw [List.map_const', List.map_replicate]; rfl]
    refine hr_fold nD (List.range dirs.length).reverse (fun (g : List (List Nat)) => [.pu (.lst (dirs.map rowD)), .ow (.many (g.map trB)), .un, .un, .un]) (upsStep dirs) (List.replicate dirs.length []) (fun _ g => UpsOk dirs.length g) PassesOwn.never rfl (it_dN T dirs.length (x_op (x_lenL T (x_nm 0).rd).rd x_int.rd d_sub) (x_neg x_int) (x_neg x_int) (by rw [List.length_map]) (by omega)) (.same (.same (.same (.same (.same .nil))))) (upsOk0 _) (fun pre piece post g e hg => ?_) (fun hg => ?_)
    · have hpm : piece < dirs.length := by
        have : piece ∈ (List.range dirs.length).reverse := by rw [e]; simp
        simpa using this
      refine ⟨upsOk_step hg hpm, _, [2], tg_fn 2 sc16.nd, ?_⟩
      refine hr_setTr 1 hr.u1 (x_nm 2) (x_nm 2) ?_ (by rw [hg.1]; exact hpm) (hg.2 _).1 (by have := upsOk_len hg piece; omega)
      refine hr_fold nD (row dirs piece) (fun (g : List (List Nat)) => [.pu (.lst (dirs.map rowD)), .ow (.many (g.map trB)), .pu (nD piece), .un, .un]) (upsIn piece) (g.set piece (ins (row g piece) piece)) (fun _ g => UpsOk dirs.length g) PassesOwn.never rfl (it_list (x_ixL (x_nm 0).rd (x_nm 2) (atI_map rowD (row_get hpm)))) (.same (.same (.same (.same (.same .nil))))) (upsOk_1 hg hpm) (fun pre2 high post2 g2 e2 hg2 => ?_) (fun hg2 => ?_)
      · have hh := (hp.2 piece).2 high (by rw [e2]; simp)
        refine ⟨upsOk_2 hg2, _, [3], tg_fn 3 sc16.nd, ?_⟩
        refine hr_updTr 1 (x_nm 2) (x_nm 3) (hr_nil _ (.same (.same (.same (.un (.un .nil))))) rfl) (by rw [hg2.1]; exact hpm) (by rw [hg2.1]; exact hh.2) (by omega) (hg2.2 _).1 (by have := upsOk_len hg2 piece; have := upsOk_len hg2 high; omega)
      · exact hr_nil _ (.same (.same (.un (.un (.un .nil))))) rfl
    · refine hr_frzM 1 ?_
      exact hr_ret (x_nm 1) (by rw [trDs]; rfl)
def R_follows_by : List D → D → Prop := fun ds d => ∃ (dirs ups : List (List Nat)) (low high : Nat), low < dirs.length ∧ (∀ n ∈ row dirs low, n < ups.length) ∧ (row dirs low).length ≤ 60 ∧ ds = [.lst (dirs.map rowD), .lst (ups.map trD), nD low, nD high] ∧ d = .bl (folB dirs ups low high)
theorem sc17 : FnScope ["directs", "ups", "low", "high", "near"] ["directs", "ups", "low", "high"] (defScope (topS 17)) := ⟨rfl, rfl, rfl, by decide +kernel, rfl, by decide +kernel, by decide +kernel⟩
theorem ok_follows_by (T : Bn mg) (D0 : Df K mg "follows_by" (topS 17) ["directs", "ups", "low", "high"]) : Cal P w K mg base 1 "follows_by" (spF R_follows_by) :=
  mk_cal D0 sc17 (by decide) (fun ds d ⟨_, _, _, _, _, _, _, h, _⟩ => by rw [h]; rfl) fun f cdv A outer s H E hr ds d ⟨dirs, ups, low, high, hl, hn, hz, h1, h2⟩ => by
    subst h1 h2
    refine hr_ret (xt (x_any T rfl (bs := ((row dirs low).filter (fun near => !decide (near = high))).map fun near => decide (high ∈ row ups near)) (rt (rl (o_lc [("near", 4)] nD (row dirs low) (fun near => !decide (near = high)) (fun near => .bl (decide (high ∈ row ups near))) rfl sc17.nd (it_list (x_ixL (x_nm 0).rd (x_nm 2) (atI_map rowD (row_get hl)))) (by rfl) (by omega) fun near hk => ⟨_, fun s H0 C cl fp => tg_fn 4 sc17.nd, .one fun s H0 C cl fp => EvT.to (t_cmp (x_nm 4).rd (x_nm 3).rd d_ne) ?_, fun _ s H0 C cl fp => ?_⟩)) (by rw [map_bls]))) (by unfold folB; rw [List.any_map]; rfl)) rfl
    · congr 1
      apply decide_eq_decide.mpr
      exact ⟨fun h => Int.ofNat.inj h, fun h => by rw [h]⟩
    · exact xt (x_inD (by exact hr.u1) (x_nm 3) (rx (x_ixL (d := trD (row ups near)) (x_nm 1).rd (x_nm 4) (atI_map trD (row_get (hn near hk)))))) (by rw [dget_trS])
def R_ties_by : List D → D → Prop := fun ds d => ∃ dirs : List (List Nat), dirs.length ≤ 60 ∧ DirOk dirs.length dirs ∧ ds = [.lst (dirs.map rowD)] ∧ d = tsD (tiesBy dirs)
theorem sc18 : FnScope ["directs", "ups", "found", "low", "highs", "high"] ["directs"] (defScope (topS 18)) := ⟨rfl, rfl, rfl, by decide +kernel, rfl, by decide +kernel, by decide +kernel⟩
theorem ok_ties_by (T : Bn mg) (D0 : Df K mg "ties_by" (topS 18) ["directs"]) (c1 : Cal P w K mg base 1 "ups_by" (spF R_ups_by)) (c2 : Cal P w K mg base 1 "follows_by" (spF R_follows_by)) : Cal P w K mg base 2 "ties_by" (spF R_ties_by) :=
  mk_cal D0 sc18 (by decide) (fun ds d ⟨_, _, _, h, _⟩ => by rw [h]; rfl) fun f cdv A outer s H E hr ds d ⟨dirs, hm, hp, h1, h2⟩ => by
    subst h1 h2
    refine hr_asgT rfl (k_x (x_call c1 hr (by decide) (a_cons (x_nm 0) a_nil) ⟨dirs, hm, hp, rfl, rfl⟩) (k_o (o_lst a_nil) k_nil)) (tk_cons 1 sc18.nd (tk_cons 2 sc18.nd tk_nil)) ?_
    refine hr_fold (fun (x : List Nat × Nat) => .tup [nD x.2, rowD x.1]) dirs.zipIdx (fun (g : List Pr) => [.pu (.lst (dirs.map rowD)), .pu (.lst ((upsF dirs).map trD)), .ow (.one (.L (g.map prD))), .un, .un, .un]) (tiesStep dirs (upsF dirs)) [] (fun pre g => g.length ≤ pre.length * 60) PassesOwn.never rfl (zip_map rowD dirs ▸ it_enumL T (x_nm 0)) (.same (.same (.same (.same (.same (.same .nil)))))) (by simp) (fun pre x post g e hg => ?_) (fun hg => ?_)
    · have hx := mem_zip (f := dirs) (z := x) (by rw [e]; simp)
      have hpre : pre.length ≤ 60 := by
        have := congrArg List.length e
        rw [List.length_zipIdx, List.length_append, List.length_cons] at this
        omega
      have hrl : x.1.length ≤ 60 := by rw [hx.2]; exact Nat.le_trans (dirOk_len hp _) hm
      have hfl := List.length_filter_le (fun high => !folB dirs (upsF dirs) x.2 high) x.1
      refine ⟨?_, _, [3, 4], tg_pr 3 4 rfl sc18.nd, ?_⟩
      · unfold tiesStep
        rw [List.length_append, List.length_map, List.length_append, List.length_singleton, Nat.add_mul]
        omega
      · refine hr_ext 2 (xl (o_lc [("high", 5)] nD x.1 (fun high => !folB dirs (upsF dirs) x.2 high) (fun high => prD (x.2, high)) rfl sc18.nd (it_list (x_nm 4)) (by rfl) (by omega) fun high hk => ⟨_, fun s H0 C cl fp => tg_fn 5 sc18.nd, .one fun s H0 C cl fp => t_not (t_val (x_call c2 hr (by decide) (a_cons (x_nm 0) (a_cons (x_nm 1) (a_cons (x_nm 3) (a_cons (x_nm 5) a_nil)))) ⟨dirs, upsF dirs, x.2, high, hx.1, fun n hn => ?_, by rw [← hx.2]; exact hrl, rfl, rfl⟩)), fun _ s H0 C cl fp => x_tup (a_cons (x_nm 3) (a_cons (x_nm 5) a_nil)) (Nat.le_of_ble_eq_true rfl)⟩)) (hr_nil _ (.same (.same (.same (.un (.un (.un .nil)))))) ?_) ?_
        · rw [(upsF_ok dirs).1]
          exact ((hp.2 _).2 n hn).2
        · show _ = [Slot.pu (.lst (dirs.map rowD)), .pu (.lst ((upsF dirs).map trD)), .ow (.one (.L ((tiesStep dirs (upsF dirs) g x).map prD))), .un, .un, .un]
          unfold tiesStep
          rw [List.map_append, List.map_map]
          rfl
        · rw [List.length_map, List.length_map]
          have : pre.length * 60 ≤ 3600 := by omega
          omega
    · exact hr_ret (x_tupleL T (x_owL 2)) rfl
end
end G
-- P5
set_option maxHeartbeats 4000000
/-! P5: ties_of, follow_none, is_order, sure_order -/
namespace G
open PySem PySem.Spec PyProof.Rows L2
theorem zip_fst (r : List Nat) : ∀ o, (r.zipIdx o).map (fun x => (x.1 : Int)) = r.map Int.ofNat := by
  induction r with
  | nil => intro o; rfl
  | cons a r ih =>
    intro o
    rw [List.zipIdx_cons, List.map_cons, List.map_cons, ih]
    rfl
theorem getD_get {r : List Nat} {i : Nat} (h : i < r.length) : r[i]? = some (r.getD i 0) := by
  rw [List.getElem?_eq_getElem h, List.getD_eq_getElem?_getD, List.getElem?_eq_getElem h]
  rfl
def OkTs (m : Nat) (ps : List Pr) : Prop := (∀ p ∈ ps, p.1 < p.2 ∧ p.2 < m) ∧ ps.length ≤ 100000
section
variable {P : Program} {w : World} {K : PySem.W.Frag} {mg : Str → Option Value} {base : Heap}
def R_ties_of : List D → D → Prop := fun ds d => ∃ ps : List Pr, OkTs 60 ps ∧ ds = [tsD ps] ∧ d = tsD (tiesOf ps)
theorem sc19 : FnScope ["pairs", "named", "low", "high", "row", "places", "ties", "place", "piece"] ["pairs"] (defScope (topS 19)) := ⟨rfl, rfl, rfl, by decide +kernel, rfl, by decide +kernel, by decide +kernel⟩
theorem ok_ties_of (T : Bn mg) (D0 : Df K mg "ties_of" (topS 19) ["pairs"]) (c1 : Cal P w K mg base 1 "directs_by" (spF R_directs_by)) (c2 : Cal P w K mg base 2 "ties_by" (spF R_ties_by)) : Cal P w K mg base 3 "ties_of" (spF R_ties_of) :=
  mk_cal D0 sc19 (by decide) (fun ds d ⟨_, _, h, _⟩ => by rw [h]; rfl) fun f cdv A outer s H E hr ds d ⟨ps, hp, h1, h2⟩ => by
    subst h1 h2
    have hpm : ∀ p ∈ ps, p.1 < 60 ∧ p.2 < 60 := fun p h => by have := hp.1 p h; omega
    have hrs := rowOf_strict hpm
    have hrl := rowOf_len hpm
    have hrn := relab_ok hp.1
    refine hr_own 1 sc19.nd o_dct0 ?_
    refine hr_fold prD ps (fun (ks : List Nat) => [.pu (tsD ps), .ow (.one (trB ks)), .un, .un, .un, .un, .un, .un, .un]) namesStep [] (fun _ ks => NamOk 60 ks) PassesOwn.never rfl (it_tup (x_nm 0)) (.same (.same (.same (.same (.same (.same (.same (.same (.same .nil))))))))) ⟨.nil, fun _ h => by cases h⟩ (fun pre p post ks e hk => ?_) (fun hk => ?_)
    · have hpp := hpm p (by rw [e]; simp)
      have hl := namOk_len hk
      refine ⟨namOk_step hk hpp, _, [2, 3], tg_pr 2 3 rfl sc19.nd, ?_⟩
      refine hr_setTr1 1 hr.u1 (x_nm 2) ?_ hk.1 (by omega)
      refine hr_setTr1 1 hr.u1 (x_nm 3) ?_ (ins_nodup hk.1) ?_
      · exact hr_nil _ (.same (.same (.un (.un (.same (.same (.same (.same (.same .nil))))))))) rfl
      · have : (ins ks p.1).length ≤ ks.length + 1 := by
          unfold ins
          split
          · omega
          · rw [List.length_append]; exact Nat.le_refl _
        omega
    · have hl := namOk_len hk
      refine hr_own 4 sc19.nd (o_sortedD T rfl (ks := (namesOf ps).map Int.ofNat) (ms := (rowOf ps).map Int.ofNat) (x_owD 1) (by rw [List.length_map]; exact Nat.lt_of_le_of_lt hl (by decide)) ((srt_perm _).map _) (by
        rw [List.pairwise_map]
        exact (srt_sorted _).imp fun h => Int.ofNat_le.mpr h)) ?_
      rw [map_ofNat]
      refine hr_frz 4 rfl ?_
      refine hr_eq (Γ' := [.pu (tsD ps), .ow (.one (trB (namesOf ps))), .un, .un, .pu (rowD (rowOf ps)), .un, .un, .un, .un]) ?_ rfl
      generalize hr0 : rowOf ps = r at *
      refine hr_own 5 sc19.nd (o_dc [("place", 7), ("piece", 8)] (fun (x : Nat × Nat) => .tup [nD x.2, nD x.1]) r.zipIdx (fun x => (x.1 : Int)) (fun x => nD x.2) rfl sc19.nd (zip_map nD r ▸ it_enumL T (x_nm 4)) (by rfl) (by rw [List.length_zipIdx]; omega) (by rw [zip_fst]; exact ofNat_nodup (hrs.imp fun h => Nat.ne_of_lt h)) fun x hx => ⟨_, fun s H0 C cl fp => tg_pr 7 8 rfl sc19.nd, fun s H0 C cl fp => x_nm 8, fun s H0 C cl fp => x_nm 7⟩) ?_
      refine hr_frz 5 rfl ?_
      refine hr_eq (Γ' := [.pu (tsD ps), .ow (.one (trB (namesOf ps))), .un, .un, .pu (rowD r), .pu (cnD r.zipIdx), .un, .un, .un]) ?_ rfl
      have hlk : ∀ p ∈ ps, dget (r.zipIdx.map fun x => (x.1 : Int)) (r.zipIdx.map fun x => nD x.2) (p.1 : Int) = some (nD (relab r p).1) ∧ dget (r.zipIdx.map fun x => (x.1 : Int)) (r.zipIdx.map fun x => nD x.2) (p.2 : Int) = some (nD (relab r p).2) := fun p h => by
        obtain ⟨m1, m2⟩ := mem_row h
        rw [hr0] at m1 m2
        rw [dget_cn, dget_cn, lookup_zip r 0 _ m1, lookup_zip r 0 _ m2]
        exact ⟨rfl, rfl⟩
      have hdo := directs_ok (m := r.length) hrn
      have hdl : (directs r.length (ps.map (relab r))).length = r.length := hdo.1
      refine hr_asg 6 sc19.nd (x_call c2 hr (by decide) (a_cons (x_call c1 hr (by decide) (a_cons (xt (x_lenL T (x_nm 4).rd) (by rw [List.length_map]; rfl)) (a_cons (xt (xl (o_lc [("low", 2), ("high", 3)] prD ps (fun _ => true) (fun p => prD (relab r p)) rfl sc19.nd (it_tup (x_nm 0)) (by rfl) hp.2 fun p hpp => ⟨_, fun s H0 C cl fp => tg_pr 2 3 rfl sc19.nd, .nil, fun _ s H0 C cl fp => ?_⟩)) (by rw [filt_true]; show D.lst (ps.map (prD ∘ relab r)) = _; rw [← List.map_map])) a_nil)) ⟨r.length, ps.map (relab r), hrl, hrn, rfl, rfl⟩) a_nil) ⟨directs r.length (ps.map (relab r)), by rw [hdl]; exact hrl, by rw [hdl]; exact hdo, rfl, rfl⟩) ?_
      · exact x_tup (a_cons (x_ixD (by exact hr.u1) (x_nm 5).rd (x_nm 2) (hlk p hpp).1) (a_cons (x_ixD (by exact hr.u1) (x_nm 5).rd (x_nm 3) (hlk p hpp).2) a_nil)) (Nat.le_of_ble_eq_true rfl)
      · have htl := tiesBy_len hdo
        have : r.length * r.length ≤ 60 * 60 := Nat.mul_le_mul hrl hrl
        refine hr_ret (x_tupleL T (rl (o_lc [("low", 2), ("high", 3)] prD (tiesBy (directs r.length (ps.map (relab r)))) (fun _ => true) (fun t => prD (unlab r t)) rfl sc19.nd (it_tup (x_nm 6)) (by rfl) (by omega) fun t ht => ⟨_, fun s H0 C cl fp => tg_pr 2 3 rfl sc19.nd, .nil, fun _ s H0 C cl fp => ?_⟩))) ?_
        · obtain ⟨t1, t2⟩ := tiesBy_mem ht
          rw [hdl] at t1
          have t3 := ((hdo.2 t.1).2 t.2 t2).2
          exact x_tup (a_cons (x_ixL (x_nm 4).rd (x_nm 2) (atI_map nD (getD_get t1))) (a_cons (x_ixL (x_nm 4).rd (x_nm 3) (atI_map nD (getD_get t3))) a_nil)) (Nat.le_of_ble_eq_true rfl)
        · show D.tup _ = tsD (tiesOf ps)
          rw [filt_true]
          unfold tiesOf tsD
          rw [hr0, List.map_map]
          rfl
def R_follow_none : List D → D → Prop := fun ds d => ∃ ps : List Pr, OkTs 60 ps ∧ tiesOf ps = ps ∧ ds = [tsD ps] ∧ d = .bl true
theorem sc20 : FnScope ["ties"] ["ties"] (defScope (topS 20)) := ⟨rfl, rfl, rfl, by decide +kernel, rfl, by decide +kernel, by decide +kernel⟩
theorem ok_follow_none (D0 : Df K mg "follow_none" (topS 20) ["ties"]) (c1 : Cal P w K mg base 3 "ties_of" (spF R_ties_of)) : Cal P w K mg base 4 "follow_none" (spF R_follow_none) :=
  mk_cal D0 sc20 (by decide) (fun ds d ⟨_, _, _, h, _⟩ => by rw [h]; rfl) fun f cdv A outer s H E hr ds d ⟨ps, hp, he, h1, h2⟩ => by
    subst h1 h2
    exact hr_ret (x_cmp (rx (x_call c1 hr (by decide) (a_cons (x_nm 0) a_nil) ⟨ps, hp, rfl, by rw [he]⟩)) (x_nm 0).rd (d_eqTs hr.u64)) rfl
/-- what is_order asks -/
structure GoodO (n : Nat) (ts : List Pr) : Prop where
  n60 : n ≤ 60
  prs : ∀ p ∈ ts, p.1 < p.2 ∧ p.2 < n
  srt : ts.Pairwise plt
  few : ts.length ≤ 100000
  own : tiesOf ts = ts
theorem GoodO.ok {n : Nat} {ts : List Pr} (g : GoodO n ts) : OkTs 60 ts := ⟨fun p h => by have := g.prs p h; have := g.n60; omega, g.few⟩
def R_is_order : List D → D → Prop := fun ds d => ∃ (n : Nat) (ts : List Pr), GoodO n ts ∧ ds = [ordD n ts] ∧ d = .bl true
theorem sc21 : FnScope ["thing", "own"] ["thing"] (defScope (topS 21)) := ⟨rfl, rfl, rfl, by decide +kernel, rfl, by decide +kernel, by decide +kernel⟩
theorem ok_is_order (T : Bn mg) (D0 : Df K mg "is_order" (topS 21) ["thing"]) (c1 : Cal P w K mg base 1 "is_long" (spF R_is_long)) (c2 : Cal P w K mg base 2 "is_from" (spF R_is_from)) (c3 : Cal P w K mg base 3 "is_pair_of" (spF R_is_pair_of)) (c4 : Cal P w K mg base 1 "ascends" (spF R_ascends)) (c5 : Cal P w K mg base 4 "follow_none" (spF R_follow_none)) : Cal P w K mg base 5 "is_order" (spF R_is_order) :=
  mk_cal D0 sc21 (by decide) (fun ds d ⟨_, _, _, h, _⟩ => by rw [h]; rfl) fun f cdv A outer s H E hr ds d ⟨n, ts, g, h1, h2⟩ => by
    subst h1 h2
    refine hr_ifF (EvW.t (w_or (k := false) (m := false) (t_not (k := true) (t_val (x_call c1 hr (by decide) (a_cons (x_nm 0) (a_cons x_int a_nil)) ⟨[nD n, tsD ts], 2, rfl, rfl⟩))) fun _ => w_or (k := false) (m := false) (t_not (k := true) (t_val (x_call c2 hr (by decide) (a_cons (x_ixT (x_nm 0).rd x_int rfl) (a_cons x_int a_nil)) ⟨nD n, 0, rfl, ?_⟩))) fun _ => w_or1 (t_not (k := true) (t_val (x_isi T (d := tsD ts) (rx (x_ixT (x_nm 0).rd x_int rfl)) boot_tuple T.tuple (kit_tuple (tsD ts))))))) ?_
    · show D.bl true = D.bl (decide ((0 : Int) ≤ (n : Int)))
      rw [decide_eq_true (by omega)]
    · refine hr_ifF (EvW.t (w_or (k := false) (m := false) (t_not (k := true) (t_val (xt (x_all T rfl (bs := List.replicate ts.length true) (rt (rl (o_lc [("own", 1)] prD ts (fun _ => true) (fun _ => .bl true) rfl sc21.nd (it_tup (x_ixT (x_nm 0).rd x_int rfl)) (by rfl) g.few fun p hp => ⟨_, fun s H0 C cl fp => tg_fn 1 sc21.nd, .nil, fun _ s H0 C cl fp => x_call c3 hr (by decide) (a_cons (x_ixT (x_nm 0).rd x_int rfl) (a_cons (x_nm 1) a_nil)) ⟨n, p, (g.prs p hp).1, (g.prs p hp).2, rfl, rfl⟩⟩)) ?_)) ?_))) fun _ => w_or1 (t_not (k := true) (t_val (x_call c4 hr (by decide) (a_cons (x_ixT (x_nm 0).rd x_int rfl) a_nil) ⟨rfl, .inr ⟨ts, g.srt, g.few, rfl⟩⟩))))) ?_
      · rw [filt_true, List.map_const', List.map_replicate]
      · simp
      · exact hr_ret (x_call c5 hr (by decide) (a_cons (x_ixT (x_nm 0).rd x_int rfl) a_nil) ⟨ts, g.ok, g.own, rfl, rfl⟩) rfl
def R_sure_order : List D → D → Prop := fun ds d => ∃ (x : D) (n : Nat) (ts : List Pr), GoodO n ts ∧ Okd 3 x ∧ tupD x = ordD n ts ∧ ds = [x] ∧ d = ordD n ts
theorem sc22 : FnScope ["order", "own"] ["order"] (defScope (topS 22)) := ⟨rfl, rfl, rfl, by decide +kernel, rfl, by decide +kernel, by decide +kernel⟩
theorem ok_sure_order (D0 : Df K mg "sure_order" (topS 22) ["order"]) (c1 : Cal P w K mg base 4 "tupled" (spF (R_tupled 3))) (c2 : Cal P w K mg base 5 "is_order" (spF R_is_order)) : Cal P w K mg base 6 "sure_order" (spF R_sure_order) :=
  mk_cal D0 sc22 (by decide) (fun ds d ⟨_, _, _, _, _, _, h, _⟩ => by rw [h]; rfl) fun f cdv A outer s H E hr ds d ⟨x, n, ts, g, hx, ht, h1, h2⟩ => by
    subst h1 h2
    refine hr_asg 1 sc22.nd (x_call c1 hr (by decide) (a_cons (x_nm 0) a_nil) ⟨x, rfl, hx, ht.symm⟩) ?_
    refine hr_ifF (t_not (k := true) (t_val (x_call c2 hr (by decide) (a_cons (x_nm 1) a_nil) ⟨n, ts, g, rfl, rfl⟩))) ?_
    exact hr_ret (x_nm 1) rfl
end
end G
-- Fw13
set_option maxHeartbeats 4000000
/-! Fw13: enumerate over a tuple. -/
namespace G
open PySem PySem.Spec PyProof.Rows L2
/-- what enumerate(v) makes -/
abbrev enO (it : Addr) : Obj := { cls := .type "enumerate", data := .fields #[.none, .bool false, .ref it, rawInt 0, .none, .none] }
theorem enum_new1 {v : Value} {ob : Obj} {Hs : Heap → Prop} (Bg : Begins v ob Hs) :
    Meets (Builtin.«enumerate.__new__» ⟨[.type "enumerate", v], []⟩) (fun _ R s => Hs s.heap ∧ R (.ok (.ret (.ref (s.heap.push ob).objs.size))) { s with heap := (s.heap.push ob).push (enO s.heap.objs.size) }) :=
  .of_wp fun prog w A R sh hyp => by
    obtain ⟨hp, gs, dr, tk, os⟩ := sh
    obtain ⟨hs1, hyp⟩ := hyp
    have kSub := sub_enumerate
    have kIter : ∀ {A' : Around} {E Q : Value → Shared → Prop}, Q (.ref hp.objs.size) ⟨hp.push ob, gs, dr, tk, os⟩ → wpAny (model prog w) A' (pyIter v) Q E ⟨hp, gs, dr, tk, os⟩ := fun kq => Bg.iter prog w _ _ ⟨hp, gs, dr, tk, os⟩ _ hs1 kq
    wp_walk using kIter
    refine wpAny_stack_any fun sk => wpAny_pure ?_
    split
    · rename_i cq _ _ _ _ _
      cases (cq == Value.type "enumerate") <;> (wp_walk using kIter; exact ⟨_, rfl, hyp⟩)
    · wp_walk using kIter
      exact ⟨_, rfl, hyp⟩
theorem enum_call1 {prog : Program} {w : World} {A : Around} {E : Value → Shared → Prop} {s : Shared} {v : Value} {ob : Obj} {Hs : Heap → Prop} {Q : Value → Shared → Prop} (Bg : Begins v ob Hs) (hs1 : Hs s.heap)
    (hq : ∀ h', IsEnum h' (s.heap.objs.size + 1) s.heap.objs.size 0 .none → h'.get? s.heap.objs.size = some ob → (∀ b u, s.heap.get? b = some u → h'.get? b = some u) → Q (.ref (s.heap.objs.size + 1)) { s with heap := h' }) :
    wpAny (model prog w) A (call (.type "enumerate") [v]) Q E s := by
  have hz : (s.heap.push ob).objs.size = s.heap.objs.size + 1 := Heap.size_push ..
  have hen : IsEnum ((s.heap.push ob).push (enO s.heap.objs.size)) (s.heap.objs.size + 1) s.heap.objs.size 0 .none := by
    rw [← hz]
    exact Heap.get?_push_size _ rfl
  refine callType_new F.called_enumerate (by decide) (F.typeCall_enumerate_1 _) (F.newCall_enumerate_1 _) (fun z => F.args_object_init_2 z _) F.entry_enumerate_new (enum_new1 Bg) ⟨hs1, ?_⟩
  show _ ∧ _
  rw [hz]
  exact ⟨⟨_, hen, rfl⟩, hq _ hen (Heap.get?_push_of_some _ (Heap.get?_push_size _ Bg.free)) fun b u y => Heap.get?_push_of_some _ (Heap.get?_push_of_some _ y)⟩
/-- the tuple at a, each item in a new pair -/
def IteT (K : PySem.W.Frag) (a : Addr) : It :=
  ⟨fun i H => ∃ (xs : List V) (x : V), SqT K H a xs ∧ xs[i]? = some x, fun i H v H' => ∃ T x, v = .ref T ∧ H T = none ∧ H' = upd H T (.tup [.int (i : Nat), x]) ∧ ∀ xs, SqT K H a xs → xs[i]? = some x, fun i H => ∃ xs : List V, SqT K H a xs ∧ xs.length ≤ i⟩
theorem turn_enumT {P : Program} {w : World} {K : PySem.W.Frag} {elts : List Expr} {kk : Nat} {tpos : Pos} (a en it : Addr) (hai : a ≠ it) (hae : a ≠ en) :
    Turn P w K (.Tuple elts kk tpos) (IteT K a) [en, it] en (fun i h => (∃ old, IsEnum h en it ((i : Nat) : Int) old) ∧ h.IsTupleIter it a i ∧ en ≠ it) where
  mem := by simp
  obj := fun i h st b hb => by
    obtain ⟨⟨old, hen⟩, ⟨ob, hob, hc, hd⟩, _⟩ := st
    have hb2 : b = en ∨ b = it := by simpa using hb
    rcases hb2 with z | z
    · subst z; exact ⟨_, hen, fun v q => nomatch q⟩
    · subst z; exact ⟨ob, hob, fun v q => by rw [hd] at q; cases q⟩
  keep := fun i h h' st k => let ⟨⟨old, hen⟩, hi, hne⟩ := st; ⟨⟨old, k en (by simp) _ hen⟩, hi.at fun o q => k it (by simp) o q, hne⟩
  item := by
    intro X hP hw hK hcalm i pins s σ H E I hf st hg
    subst hP hw hK
    obtain ⟨⟨old, hen⟩, hit, hne⟩ := st
    obtain ⟨xs, x, hq, hx⟩ := hg
    obtain ⟨its, rv, pt, hz⟩ := I.tuple hq
    obtain ⟨u, hu, ru⟩ := rv.get hx
    have hel : en < s.heap.objs.size := Heap.lt_size hen
    have hil : it < s.heap.objs.size := by
      obtain ⟨_, q, _⟩ := hit
      exact Heap.lt_size q
    have hil2 : i < its.toArray.size := by
      have := (List.getElem?_eq_some_iff.mp hu).1
      simpa using this
    refine wpAny_pyNext_enum_itemD (Draws.tuple (A := X.A.in1) (show X.A.in1.handled = none from I.ok.hd hcalm) it a hai its.toArray) hen (show Heap.IsTupleIter s.heap it a i ∧ Heap.IsTuple s.heap a its.toArray from ⟨hit, pt⟩) hil2 hne (by simp only [List.mem_cons, List.not_mem_nil, or_false, not_or]; exact ⟨hne, fun z => hae z.symm⟩) fun y h' tk hPx ho hst' hT hsz hk => ?_
    have ey : y = u := by
      have h1 : its.toArray[i]? = some u := by simpa using hu
      rw [h1] at hPx
      exact (Option.some.inj hPx).symm
    subst ey
    refine ⟨_, rfl, wpAny_letOwnedTupleGo_enum (s := { s with heap := h', toks := tk + 1 }) ho fun h'' hen' sb => ?_⟩
    have hT2 : h''.get? s.heap.objs.size = some { cls := .type "tuple", data := .seq #[.int i tk, y] } := (sb.2 _ (Nat.ne_of_gt hel)).trans hT
    have new : ObjOk X.prog X.w (upd H s.heap.objs.size (.tup [.int (i : Nat), x])) h'' s.heap.objs.size (.tup [.int (i : Nat), x]) := ⟨by show 2 ≤ sizeLine; decide, [.int i tk, y], .cons ⟨_, rfl⟩ (.cons ru .nil), ⟨_, hT2, rfl, _, rfl⟩⟩
    have I1 : Inv X pins σ (upd H s.heap.objs.size (.tup [.int (i : Nat), x])) { s with heap := h'', toks := tk + 1 } := I.turnedNew (ch := [en, it]) (fun b ob hb q => (sb.2 b (fun z => hb (by simp [z]))).trans (hk b ob (fun z => hb (by simp [z])) (fun z => hb (by simp [z])) q)) hf (Nat.le_refl _) new
    have hnx : IsEnum h'' en it ((i + 1 : Nat) : Int) y := by
      rw [show ((i + 1 : Nat) : Int) = (i : Int) + 1 by omega]
      exact hen'
    refine ⟨.ref s.heap.objs.size, _, I1, rfl, ⟨_, x, rfl, I.hok.fresh (Nat.le_refl _), rfl, fun ys hy => by rw [I.tuple_inj hy hq]; exact hx⟩, ⟨⟨y, hnx⟩, hst'.1.at fun o q => (sb.2 it (Ne.symm hne)).trans q, hne⟩, fun b hb => ?_⟩
    have hlt : b < s.heap.objs.size := by
      have hb2 : b = en ∨ b = it := by simpa using hb
      rcases hb2 with z | z
      · exact z ▸ hel
      · exact z ▸ hil
    rw [upd_ne (Nat.ne_of_lt hlt)]
    exact (hf b hb).1
  done := by
    intro X hP hw hK hcalm i pins s σ H E I hf st hg
    subst hP hw hK
    obtain ⟨⟨old, hen⟩, hit, hne⟩ := st
    obtain ⟨xs, hq, hx⟩ := hg
    obtain ⟨its, rv, pt, hz⟩ := I.tuple hq
    obtain ⟨f0, f1, f2, f3, f4, f5⟩ := hf it (by simp)
    have hl := rv.length
    have hT : s.TypeIs (.ref en) "enumerate" := ⟨_, hen, rfl⟩
    unfold pyNext
    refine wpAny_bind (wpAny_attempt (wpAny_callSpecial?_slot hT F.slot_enumerate_next (wpAny_call_entry F.slot_enumerate_next hT F.entry_enumerate_next ?_ (F.args_enumerate_next_1 _))))
    show wpAny _ _ (field (.ref en) 2 >>= _) _ _ s
    refine wpAny_bind (wpAny_field hen rfl (x := .ref it) rfl (wpAny_bind (wpAny_nextOf_tuple_end (I.ok.hd hcalm) hit pt (by simp; omega) fun h' x hx2 hx' => ?_)))
    obtain ⟨o, ho, hc⟩ := hx'
    refine wpAny_bind (wpAny_isInstance (T := "StopIteration") (b := true) ⟨o, ho, hc⟩ isSubtype_stop (wpAny_pure ?_))
    exact ⟨rfl, I.turned (t' := s.toks) (fun b o hb q => hx2 b o hb q) f0 f1 f3 f4 f5⟩
  self := fun A i s Q E st h => let ⟨⟨_, hen⟩, _⟩ := st; wpAny_pyIter_enum hen h
def iEnumT (K : PySem.W.Frag) (ta : TA) : TI := fun σ H R => ta σ H fun vs H1 => ∃ a xs, vs = [.ref a] ∧ SqT K H1 a xs ∧ R (IteT K a) H1
theorem pi_enumT {X : Cx} {e : Expr} {ta : TA} {p pos tpos : Pos} {elts : List Expr} {kk : Nat} (hg : Gl X "enumerate") (hm : X.mg "enumerate" = none) (ha : PA X [e] ta) (hs : starEach [e] X.env = [(false, eval e X.env)] := by rfl) : PI X (.Tuple elts kk tpos) (.Call (.Name "enumerate" p) [e] [] pos) (iEnumT X.K ta) := by
  refine ⟨fun pins s σ H R I h => ?_⟩
  refine Call_ (ld_blt I hg hm boot_enumerate (PyProof.Rows.callWith_type1 (thn (ha.run pos pins s σ H _ I h) fun us s1 ⟨vs, H1, I1, r1, q1⟩ => ?_) hs rfl))
  obtain ⟨a, xs, rfl, hq, q⟩ := q1
  obtain ⟨u, rfl, ru⟩ := vals1 r1
  cases ru
  obtain ⟨its, rv, pt, hz⟩ := I1.tuple hq
  have hal : a < s1.heap.objs.size := by
    obtain ⟨_, z, _⟩ := pt
    exact Heap.lt_size z
  refine enum_call1 (begins_tuple a its.toArray) pt fun h' hen hit hk => wpAny_pyIter_enum hen ?_
  have I2 : Inv X pins σ H1 { s1 with heap := h' } := I1.kept (t' := s1.toks) hk
  refine ⟨_, [s1.heap.objs.size + 1, s1.heap.objs.size], _, _, H1, rfl, I2, turn_enumT a (s1.heap.objs.size + 1) s1.heap.objs.size (Nat.ne_of_lt hal) (Nat.ne_of_lt (Nat.lt_succ_of_lt hal)), ⟨⟨.none, hen⟩, ⟨_, hit, rfl, rfl⟩, Nat.succ_ne_self _⟩, fun b hb => ?_, q⟩
  have hle : s1.heap.objs.size ≤ b := by
    have hb2 : b = s1.heap.objs.size + 1 ∨ b = s1.heap.objs.size := by simpa using hb
    rcases hb2 with z | z
    · exact z ▸ Nat.le_succ _
    · exact z ▸ Nat.le_refl _
  exact I1.fpOk hle (I1.hok.fresh hle)
theorem walk_enumT {K : PySem.W.Frag} {a : Addr} {xs : List V} : Walk (IteT K a) xs.length (fun H => SqT K H a xs) (YPair (fun i => some (.int (i : Nat))) (fun i => xs[i]?)) := by
  refine ⟨fun i _ hi q => ⟨xs, xs[i], q, by simp [hi]⟩, fun _ q => ⟨xs, q, Nat.le_refl _⟩, fun i H v H' hi q y => ?_⟩
  obtain ⟨T, x, e, h1, h2, h3⟩ := y
  exact ⟨T, _, x, e, h1, h2, rfl, h3 xs q⟩
section
variable {X : Cx} {Γ : Ctx} {e a : Expr}
theorem it_enumT {elts : List Expr} {kk : Nat} {tpos p pos : Pos} (T : Bn X.mg) {ds : List D} (h : EvX X a Γ (.tup ds)) (hg : Gl X "enumerate" := by rfl) (hs : starEach [a] X.env = (false, eval a X.env) :: starEach [] X.env := by rfl) (hs2 : starEach [a] X.env = [(false, eval a X.env)] := by rfl) : ItX X (.Tuple elts kk tpos) (.Call (.Name "enumerate" p) [a] [] pos) Γ (enumD ds) :=
  ⟨_, pi_enumT hg T.enumerate (pa_cons (pe_w X a) pa_nil hs) hs2, fun t W0 W σ l E R q => h t W0 W σ l E _ fun v W1 e1 r1 => by
    obtain ⟨p, xs, rfl, hp, hx⟩ := r1
    refine ⟨p, xs, rfl, SqT.of (W1.ok _ _ hp), q _ W1 e1 ⟨_, _, by rw [enumD_len, ← hx.len]; exact walk_enumT (K := X.K) (a := p) (xs := xs), fun W' s => SqT.of (W'.ok _ _ (s _ _ hp)), fun i v W' H' hlt s y => ?_⟩⟩
    obtain ⟨T2, x, z, rfl, hn, rfl, ex, ez⟩ := y
    cases ex
    obtain ⟨d, h1, h2⟩ := hx.get ez
    obtain ⟨W2, e1, e2, e3⟩ := layF (o := .tup [.int (i : Nat), z]) hn
    exact ⟨W2, e1, e3, D.tup [.int ((i : Nat) : Int), d], enumD_get h1, T2, _, rfl, by rw [e2]; exact upd_same, .int (i : Nat), [z], rfl, rfl, z, [], rfl, h2.mono (s.trans e3.f), rfl⟩⟩
end
end G
-- M3
/-! M3: what bites.py computes. -/
namespace G
def goneStep (ks : List Nat) (p : Nat × Nat) : List Nat := if p.1 ∈ ks then ins ks p.2 else ks
def goneF (ts : List (Nat × Nat)) (ps : List Nat) : List Nat := ts.foldl goneStep (updK [] ps)
def behF (n : Nat) (ts : List (Nat × Nat)) (ps : List Nat) : List Nat := (List.range n).filter fun x => !decide (x ∈ goneF ts ps)
theorem goneStep_nodup {ks : List Nat} {p : Nat × Nat} (h : ks.Nodup) : (goneStep ks p).Nodup := by
  unfold goneStep
  split
  · exact ins_nodup h
  · exact h
theorem goneStep_b {m : Nat} {ks : List Nat} {p : Nat × Nat} (h : NamOk m ks) (hp : p.2 < m) : NamOk m (goneStep ks p) := by
  refine ⟨goneStep_nodup h.1, fun x hx => ?_⟩
  unfold goneStep at hx
  split at hx
  · rcases mem_ins.mp hx with z | z
    · exact h.2 x z
    · rw [z]; exact hp
  · exact h.2 x hx
theorem upd_ok {m : Nat} {ps : List Nat} (h : ∀ x ∈ ps, x < m) : NamOk m (updK [] ps) :=
  ⟨updK_nodup .nil, fun x hx => by
    rcases mem_updK.mp hx with z | z
    · cases z
    · exact h x z⟩
end G
-- P6
set_option maxHeartbeats 4000000
/-! P6: bites.py -/
namespace G
open PySem PySem.Spec PyProof.Rows L2
section
variable {X : Cx} {Γ Γ' : Ctx} {e a b c : Expr} {rest : List Stmt} {pos p pos' apos cpos px p2 pos2 : Pos} {d d1 : D} {P : Post} {i j : Int}
theorem nsD_int (ns : List Nat) : nsD ns = .tup ((ns.map Int.ofNat).map D.int) := by rw [map_ofNat]; rfl
theorem d_inN {i : Nat} {ns : List Nat} : OpD X (compareOp .In) (nD i) (nsD ns) (.bl (decide (i ∈ ns))) := by
  have q := d_inT (X := X) (i := (i : Int)) (ns := ns.map Int.ofNat)
  rw [← nsD_int] at q
  have e : decide ((i : Int) ∈ ns.map Int.ofNat) = decide (i ∈ ns) := by
    apply decide_eq_decide.mpr
    constructor
    · intro h
      obtain ⟨x, hx, ex⟩ := List.mem_map.mp h
      rw [← Int.ofNat.inj ex]
      exact hx
    · exact fun h => List.mem_map_of_mem h
  rw [e] at q
  exact q
/-- tuple(range(n)) -/
theorem x_tupR (T : Bn X.mg) (hc : X.calm = true) {n : Nat} (h : EvX X a Γ (nD n)) (hn : n ≤ 100000) (hg : Gl X "tuple" := by rfl) (hg2 : Gl X "range" := by rfl) (na : starEach [a] X.env = (false, eval a X.env) :: starEach [] X.env := by rfl) (ne : starEach [.Call (.Name "range" p2) [a] [] pos2] X.env = (false, eval (.Call (.Name "range" p2) [a] [] pos2) X.env) :: starEach [] X.env := by rfl) : EvX X (.Call (.Name "tuple" p) [.Call (.Name "range" p2) [a] [] pos2] [] pos) Γ (nsD (List.range n)) := fun t W0 W σ l E Q q =>
  wE_of (pe_tupRg hc hg T.tuple (prg_1 hg2 T.range (pe_w X a) na) ne) (h t W0 W σ l E _ fun v W1 e1 r1 => ⟨(n : Int), r1, RgOk.of_le (by omega) (by omega) (by omega) (by omega), tup_new (by
    have e : rgV 0 (n : Int) = ((List.range n).map Int.ofNat).map V.int := by
      unfold rgV
      rw [show ((n : Int) - 0).toNat = n by omega, List.map_map]
      refine List.map_congr_left fun k _ => ?_
      show V.int (0 + (k : Int)) = V.int (k : Int)
      rw [Int.zero_add]
    rw [e, ← map_ofNat]
    exact RpA.ints_mk _) fun v2 W2 e2 r2 => q v2 W2 (e1.trans e2) r2⟩)
def tpD (k : Nat) : D := .tup [nD k, .bl true]
theorem merge0_tr (F : Hp) (ks : List Nat) : (mergeK [] (ks.map fun k => ((Sum.inl (Int.ofNat k) : Key), V.bl true))).map (·.1) = ((updK [] ks).map Int.ofNat).map Sum.inl ∧ RpA F ((updK [] ks).map fun _ => D.bl true) ((mergeK [] (ks.map fun k => ((Sum.inl (Int.ofNat k) : Key), V.bl true))).map (·.2)) := by
  refine merge_tr (ks := []) (kvs := []) .nil rfl rfl (by rw [List.map_map, List.map_map]; rfl) ?_
  rw [List.map_map]
  induction ks with
  | nil => exact rfl
  | cons k ks ih => exact ⟨_, _, rfl, rfl, ih⟩
theorem pairs_tp {K : PySem.W.Frag} {W : Wd} : ∀ {ks : List Nat} {xs : List V}, RpA W.F (ks.map tpD) xs → ∃ ps : List Addr, xs = ps.map V.ref ∧ Paired (fun (p : Addr) (kv : Key × V) => SqT K W.H p [kV kv.1, kv.2]) ps (ks.map fun k => ((Sum.inl (Int.ofNat k) : Key), V.bl true))
  | [], _, h => by
    cases h
    exact ⟨[], rfl, .nil⟩
  | k :: ks, _, ⟨v, vs, hx, hd, hs⟩ => by
    obtain ⟨ps, e, hp⟩ := pairs_tp (K := K) hs
    obtain ⟨q, ys, rfl, hq, v1, vs1, rfl, r1, v2, vs2, rfl, r2, hn⟩ := hd
    have hn : vs2 = [] := hn
    have r1 : v1 = .int (k : Int) := r1
    have r2 : v2 = .bl true := r2
    subst hn r1 r2
    subst e
    exact ⟨q :: ps, hx, .cons (SqT.of (W.ok _ _ hq)) hp⟩
/-- dict([(k, True), ..]) -/
theorem o_dictP (T : Bn X.mg) (hc : X.calm = true) {ks : List Nat} (h : EvX X e Γ (.lst (ks.map tpD))) (hg : Gl X "dict" := by rfl) (he : starEach [e] X.env = (false, eval e X.env) :: starEach [] X.env := by rfl) (hb : bootBuiltins "dict" = some (.type "dict") := by decide +kernel) : EvO X (.Call (.Name "dict" p) [e] [] pos) Γ (trB (updK [] ks)) := fun t W0 W σ l E Q q =>
  wE_of (pe_callTy (call_dictP hc) hg T.dict hb (pa_cons (pe_w X e) pa_nil he) (by decide) (by decide) he rfl) (h t W0 W σ l E _ fun v W1 e1 r1 => by
    obtain ⟨p, xs, rfl, hp, hx⟩ := r1
    obtain ⟨ps, rfl, hps⟩ := pairs_tp (K := X.K) (W := W1) hx
    refine ⟨p, ps, _, rfl, SqL.of (W1.ok _ _ hp), hps, fun r hr => ?_⟩
    obtain ⟨W2, z1, z2, z3⟩ := lay (o := .dK (mergeK [] (ks.map fun k => ((Sum.inl (Int.ofNat k) : Key), V.bl true)))) hr
    rw [← z1]
    refine q _ W2 (e1.trans z3) ⟨r, _, rfl, by rw [z2]; exact F_none hr, e1.h.free hr, by rw [z1]; exact upd_same, _, rfl, merge0_tr _ _⟩)
theorem cut_take {α : Type} (f : α → D) (xs : List α) (i : Nat) : cutD (xs.map f) none (some (i : Int)) = (xs.take i).map f := by
  unfold cutD
  rw [HT.sIx_none, HT.sIx_nat, List.drop_zero, Nat.sub_zero, List.map_take, List.length_map]
  by_cases h : i ≤ xs.length
  · rw [Nat.min_eq_left h]
  · rw [Nat.min_eq_right (by omega), List.take_of_length_le (by rw [List.length_map]; omega), List.take_of_length_le (by rw [List.length_map]; omega)]
end
section
variable {P : Program} {w : World} {K : PySem.W.Frag} {mg : Str → Option Value} {base : Heap}
/-- pieces of an order -/
def PcOk (n : Nat) (ps : List Nat) : Prop := (∀ x ∈ ps, x < n) ∧ ps.length ≤ 1000
def R_are_pieces_in : List D → D → Prop := fun ds d => ∃ (n : Nat) (ts : List Pr) (ps : List Nat), PcOk n ps ∧ ds = [ordD n ts, nsD ps] ∧ d = .bl true
theorem sc24 : FnScope ["order", "thing", "own"] ["order", "thing"] (defScope (topS 24)) := ⟨rfl, rfl, rfl, by decide +kernel, rfl, by decide +kernel, by decide +kernel⟩
theorem ok_are_pieces_in (T : Bn mg) (D0 : Df K mg "are_pieces_in" (topS 24) ["order", "thing"]) (c1 : Cal P w K mg base 2 "is_within" (spF R_is_within)) : Cal P w K mg base 3 "are_pieces_in" (spF R_are_pieces_in) :=
  mk_cal D0 sc24 (by decide) (fun ds d ⟨_, _, _, _, h, _⟩ => by rw [h]; rfl) fun f cdv A outer s H E hr ds d ⟨n, ts, ps, hp, h1, h2⟩ => by
    subst h1 h2
    refine hr_ret (x_and (k := true) (m := true) (x_isi T (x_nm 1).rd boot_tuple T.tuple (kit_tuple (nsD ps))) fun _ => x_one (h := xt (x_all T rfl (bs := List.replicate ps.length true) (rt (rl (o_lc [("own", 2)] nD ps (fun _ => true) (fun _ => .bl true) rfl sc24.nd (it_tup (x_nm 1)) (by rfl) (by have := hp.2; omega) fun x hx => ⟨_, fun s H0 C cl fp => tg_fn 2 sc24.nd, .nil, fun _ s H0 C cl fp => x_call c1 hr (by decide) (a_cons (x_nm 2) (a_cons x_int (a_cons (x_op (d1 := nD n) (rx (x_ixT (x_nm 0).rd x_int rfl)) x_int.rd d_sub) a_nil))) ⟨x, 0, (n : Int) - 1, rfl, ?_⟩⟩)) ?_)) ?_)) rfl
    · have := hp.1 x hx
      rw [decide_eq_true (show (0 : Int) ≤ x by omega), decide_eq_true (show (x : Int) ≤ n - 1 by omega)]
      rfl
    · rw [filt_true, List.map_const', List.map_replicate]
    · simp
/-- a left: ascending, closed below -/
structure LeftOk (n : Nat) (ts : List Pr) (ps : List Nat) : Prop where
  pc : PcOk n ps
  asc : ps.Pairwise (· < ·)
  cl : ∀ p ∈ ts, p.2 ∈ ps → p.1 ∈ ps
def R_is_left_in : List D → D → Prop := fun ds d => ∃ (n : Nat) (ts : List Pr) (ps : List Nat), LeftOk n ts ps ∧ ts.length ≤ 100000 ∧ ds = [ordD n ts, nsD ps] ∧ d = .bl true
theorem sc25 : FnScope ["order", "thing", "low", "high"] ["order", "thing"] (defScope (topS 25)) := ⟨rfl, rfl, rfl, by decide +kernel, rfl, by decide +kernel, by decide +kernel⟩
theorem ok_is_left_in (T : Bn mg) (D0 : Df K mg "is_left_in" (topS 25) ["order", "thing"]) (c1 : Cal P w K mg base 3 "are_pieces_in" (spF R_are_pieces_in)) (c2 : Cal P w K mg base 1 "ascends" (spF R_ascends)) : Cal P w K mg base 4 "is_left_in" (spF R_is_left_in) :=
  mk_cal D0 sc25 (by decide) (fun ds d ⟨_, _, _, _, _, h, _⟩ => by rw [h]; rfl) fun f cdv A outer s H E hr ds d ⟨n, ts, ps, g, ht, h1, h2⟩ => by
    subst h1 h2
    refine hr_ifF (EvW.t (w_or (k := false) (m := false) (t_not (k := true) (t_val (x_call c1 hr (by decide) (a_cons (x_nm 0) (a_cons (x_nm 1) a_nil)) ⟨n, ts, ps, g.pc, rfl, rfl⟩))) fun _ => w_or1 (t_not (k := true) (t_val (x_call c2 hr (by decide) (a_cons (x_nm 1) a_nil) ⟨rfl, .inl ⟨ps, g.asc, by have := g.pc.2; omega, rfl⟩⟩))))) ?_
    refine hr_ret (xt (x_all T rfl (bs := List.replicate (ts.filter fun p => decide (p.2 ∈ ps)).length true) (rt (rl (o_lc [("low", 2), ("high", 3)] prD ts (fun p => decide (p.2 ∈ ps)) (fun _ => .bl true) rfl sc25.nd (it_tup (x_ixT (x_nm 0).rd x_int rfl)) (by rfl) ht fun p hp => ⟨_, fun s H0 C cl fp => tg_pr 2 3 rfl sc25.nd, .one fun s H0 C cl fp => t_cmp (x_nm 3).rd (x_nm 1).rd d_inN, fun hm s H0 C cl fp => xt (x_cmp (x_nm 2).rd (x_nm 1).rd d_inN) ?_⟩)) ?_)) ?_) rfl
    · rw [decide_eq_true (g.cl p hp (of_decide_eq_true hm))]
    · rw [List.map_const', List.map_replicate]
    · simp
def R_sure_left : List D → D → Prop := fun ds d => ∃ (n : Nat) (ts : List Pr) (ps : List Nat) (x : D), LeftOk n ts ps ∧ ts.length ≤ 100000 ∧ Okd 1 x ∧ tupD x = nsD ps ∧ ds = [ordD n ts, x] ∧ d = nsD ps
theorem sc26 : FnScope ["order", "left", "own"] ["order", "left"] (defScope (topS 26)) := ⟨rfl, rfl, rfl, by decide +kernel, rfl, by decide +kernel, by decide +kernel⟩
theorem ok_sure_left (D0 : Df K mg "sure_left" (topS 26) ["order", "left"]) (c1 : Cal P w K mg base 2 "tupled" (spF (R_tupled 1))) (c2 : Cal P w K mg base 4 "is_left_in" (spF R_is_left_in)) : Cal P w K mg base 5 "sure_left" (spF R_sure_left) :=
  mk_cal D0 sc26 (by decide) (fun ds d ⟨_, _, _, _, _, _, _, _, h, _⟩ => by rw [h]; rfl) fun f cdv A outer s H E hr ds d ⟨n, ts, ps, x, g, hl, hx, ht, h1, h2⟩ => by
    subst h1 h2
    refine hr_asg 2 sc26.nd (x_call c1 hr (by decide) (a_cons (x_nm 1) a_nil) ⟨x, rfl, hx, ht.symm⟩) ?_
    refine hr_ifF (t_not (k := true) (t_val (x_call c2 hr (by decide) (a_cons (x_nm 0) (a_cons (x_nm 2) a_nil)) ⟨n, ts, ps, g, hl, rfl, rfl⟩))) ?_
    exact hr_ret (x_nm 2) rfl
def R_whole : List D → D → Prop := fun ds d => ∃ (n : Nat) (ts : List Pr), n ≤ 1000 ∧ ds = [ordD n ts] ∧ d = nsD (List.range n)
theorem sc27 : FnScope ["order"] ["order"] (defScope (topS 27)) := ⟨rfl, rfl, rfl, by decide +kernel, rfl, by decide +kernel, by decide +kernel⟩
theorem ok_whole (T : Bn mg) (D0 : Df K mg "whole" (topS 27) ["order"]) : Cal P w K mg base 1 "whole" (spF R_whole) :=
  mk_cal D0 sc27 (by decide) (fun ds d ⟨_, _, _, h, _⟩ => by rw [h]; rfl) fun f cdv A outer s H E hr ds d ⟨n, ts, g, h1, h2⟩ => by
    subst h1 h2
    exact hr_ret (x_tupR T rfl (x_ixT (x_nm 0).rd x_int rfl) (by omega)) rfl
def R_gone_by : List D → D → Prop := fun ds d => ∃ (n : Nat) (ts : List Pr) (ps : List Nat), n ≤ 60 ∧ (∀ p ∈ ts, p.2 < n) ∧ PcOk n ps ∧ ds = [ordD n ts, nsD ps] ∧ d = trD (goneF ts ps)
theorem sc28 : FnScope ["order", "pieces", "gone", "low", "high", "piece"] ["order", "pieces"] (defScope (topS 28)) := ⟨rfl, rfl, rfl, by decide +kernel, rfl, by decide +kernel, by decide +kernel⟩
theorem ok_gone_by (T : Bn mg) (D0 : Df K mg "gone_by" (topS 28) ["order", "pieces"]) : Cal P w K mg base 1 "gone_by" (spF R_gone_by) :=
  mk_cal D0 sc28 (by decide) (fun ds d ⟨_, _, _, _, _, _, h, _⟩ => by rw [h]; rfl) fun f cdv A outer s H E hr ds d ⟨n, ts, ps, hn, ht, g, h1, h2⟩ => by
    subst h1 h2
    refine hr_own 2 sc28.nd (o_dictP T rfl (ks := ps) (xt (xl (o_lc [("piece", 5)] nD ps (fun _ => true) tpD rfl sc28.nd (it_tup (x_nm 1)) (by rfl) (by have := g.2; omega) fun x hx => ⟨_, fun s H0 C cl fp => tg_fn 5 sc28.nd, .nil, fun _ s H0 C cl fp => x_tup (a_cons (x_nm 5) (a_cons x_bl a_nil)) (Nat.le_of_ble_eq_true rfl)⟩)) (by rw [filt_true]))) ?_
    refine hr_fold prD ts (fun (ks : List Nat) => [.pu (ordD n ts), .pu (nsD ps), .ow (.one (trB ks)), .un, .un, .un]) goneStep (updK [] ps) (fun _ ks => NamOk n ks) PassesOwn.never rfl (it_tup (x_ixT (x_nm 0).rd x_int rfl)) (.same (.same (.same (.same (.same (.same .nil)))))) (upd_ok g.1) (fun pre p post ks e hk => ?_) (fun hk => ?_)
    · have hp := ht p (by rw [e]; simp)
      have hl := namOk_len hk
      refine ⟨goneStep_b hk hp, _, [3, 4], tg_pr 3 4 rfl sc28.nd, ?_⟩
      refine hr_if (k := decide (p.1 ∈ ks)) (M := fun Γ' => Γ' = [.pu (ordD n ts), .pu (nsD ps), .ow (.one (trB (goneStep ks p))), .un, .un, .un]) (EvT.to (t_inD hr.u1 (x_nm 3) (x_owD 2)) (dget_trS _ _)) (fun hm => ?_) (fun hm => ?_) fun Γ' e => hr_nil _ (.refl _) e
      · refine hr_setTr1 2 hr.u1 (x_nm 4) ?_ hk.1 (by omega)
        refine hr_nil _ (.same (.same (.same (.un (.un (.same .nil)))))) ?_
        show _ = [Slot.pu (ordD n ts), .pu (nsD ps), .ow (.one (trB (goneStep ks p))), .un, .un, .un]
        unfold goneStep
        rw [if_pos (of_decide_eq_true hm)]
      · refine hr_nil _ (.same (.same (.same (.un (.un (.same .nil)))))) ?_
        show _ = [Slot.pu (ordD n ts), .pu (nsD ps), .ow (.one (trB (goneStep ks p))), .un, .un, .un]
        unfold goneStep
        rw [if_neg (of_decide_eq_false hm)]
    · refine hr_frz 2 rfl ?_
      exact hr_ret (x_nm 2) rfl
/-- no piece is gone already -/
def FreshP (ts : List Pr) (ps : List Nat) : Prop := ∀ (i x : Nat), ps[i]? = some x → x ∉ goneF ts (ps.take i)
def R_flaw_in : List D → D → Prop := fun ds d => ∃ (n : Nat) (ts : List Pr) (ps : List Nat), n ≤ 60 ∧ (∀ p ∈ ts, p.2 < n) ∧ PcOk n ps ∧ FreshP ts ps ∧ ds = [ordD n ts, nsD ps] ∧ d = .non
theorem sc29 : FnScope ["order", "pieces", "place", "piece"] ["order", "pieces"] (defScope (topS 29)) := ⟨rfl, rfl, rfl, by decide +kernel, rfl, by decide +kernel, by decide +kernel⟩
theorem ok_flaw_in (T : Bn mg) (D0 : Df K mg "flaw_in" (topS 29) ["order", "pieces"]) (c1 : Cal P w K mg base 1 "gone_by" (spF R_gone_by)) : Cal P w K mg base 2 "flaw_in" (spF R_flaw_in) :=
  mk_cal D0 sc29 (by decide) (fun ds d ⟨_, _, _, _, _, _, _, h, _⟩ => by rw [h]; rfl) fun f cdv A outer s H E hr ds d ⟨n, ts, ps, hn, ht, g, hf, h1, h2⟩ => by
    subst h1 h2
    refine hr_fold (fun (x : Nat × Nat) => .tup [nD x.2, nD x.1]) ps.zipIdx (fun (_ : Unit) => [.pu (ordD n ts), .pu (nsD ps), .un, .un]) (fun _ _ => ()) () (fun _ _ => True) PassesOwn.never rfl (zip_map nD ps ▸ it_enumT T (x_nm 1)) (.same (.same (.same (.same .nil)))) trivial (fun pre x post _ e _ => ?_) (fun _ => ?_)
    · obtain ⟨hx1, hx2⟩ := List.mem_zipIdx' (x := x.1) (i := x.2) (xs := ps) (by rw [e]; simp)
      have hx : ps[x.2]? = some x.1 := by rw [List.getElem?_eq_getElem hx1, hx2]
      refine ⟨trivial, _, [2, 3], tg_pr 2 3 rfl sc29.nd, ?_⟩
      refine hr_ifF (EvT.to (t_inD hr.u1 (x_nm 3) (rx (x_call c1 hr (by decide) (a_cons (x_nm 0) (a_cons (xt (x_slT (x_nm 1).rd p_none (p_some (x_nm 2))) (show _ = nsD (ps.take x.2) by rw [cut_take]; rfl)) a_nil)) ⟨n, ts, ps.take x.2, hn, ht, ⟨fun y hy => g.1 y (List.mem_of_mem_take hy), by rw [List.length_take]; have := g.2; omega⟩, rfl, rfl⟩))) ?_) ?_
      · rw [dget_trS, decide_eq_false (hf _ _ hx)]
      · exact hr_nil _ (.same (.same (.un (.un .nil)))) rfl
    · exact hr_ret x_non rfl
def R_behind_in : List D → D → Prop := fun ds d => ∃ (n : Nat) (ts : List Pr) (ps : List Nat), n ≤ 60 ∧ (∀ p ∈ ts, p.2 < n) ∧ PcOk n ps ∧ ds = [ordD n ts, nsD ps] ∧ d = nsD (behF n ts ps)
theorem sc30 : FnScope ["order", "play", "gone", "own"] ["order", "play"] (defScope (topS 30)) := ⟨rfl, rfl, rfl, by decide +kernel, rfl, by decide +kernel, by decide +kernel⟩
theorem ok_behind_in (T : Bn mg) (D0 : Df K mg "behind_in" (topS 30) ["order", "play"]) (c1 : Cal P w K mg base 1 "gone_by" (spF R_gone_by)) (c2 : Cal P w K mg base 1 "whole" (spF R_whole)) : Cal P w K mg base 2 "behind_in" (spF R_behind_in) :=
  mk_cal D0 sc30 (by decide) (fun ds d ⟨_, _, _, _, _, _, h, _⟩ => by rw [h]; rfl) fun f cdv A outer s H E hr ds d ⟨n, ts, ps, hn, ht, g, h1, h2⟩ => by
    subst h1 h2
    refine hr_asg 2 sc30.nd (x_call c1 hr (by decide) (a_cons (x_nm 0) (a_cons (x_nm 1) a_nil)) ⟨n, ts, ps, hn, ht, g, rfl, rfl⟩) ?_
    exact hr_ret (x_tupleL T (rl (o_lc [("own", 3)] nD (List.range n) (fun x => !decide (x ∈ goneF ts ps)) nD rfl sc30.nd (it_tup (x_call c2 hr (by decide) (a_cons (x_nm 0) a_nil) ⟨n, ts, by omega, rfl, rfl⟩)) (by rfl) (by rw [List.length_range]; omega) fun x hx => ⟨_, fun s H0 C cl fp => tg_fn 3 sc30.nd, .one fun s H0 C cl fp => EvT.to (t_niD (by exact hr.u1) (x_nm 3) (x_nm 2).rd) (by rw [dget_trS]), fun _ s H0 C cl fp => x_nm 3⟩))) rfl
def R_is_play_in : List D → D → Prop := fun ds d => ∃ (n : Nat) (ts : List Pr) (ps : List Nat), n ≤ 60 ∧ (∀ p ∈ ts, p.2 < n) ∧ PcOk n ps ∧ FreshP ts ps ∧ ds = [ordD n ts, nsD ps] ∧ d = .bl true
theorem sc31 : FnScope ["order", "thing"] ["order", "thing"] (defScope (topS 31)) := ⟨rfl, rfl, rfl, by decide +kernel, rfl, by decide +kernel, by decide +kernel⟩
theorem ok_is_play_in (D0 : Df K mg "is_play_in" (topS 31) ["order", "thing"]) (c1 : Cal P w K mg base 3 "are_pieces_in" (spF R_are_pieces_in)) (c2 : Cal P w K mg base 2 "flaw_in" (spF R_flaw_in)) : Cal P w K mg base 4 "is_play_in" (spF R_is_play_in) :=
  mk_cal D0 sc31 (by decide) (fun ds d ⟨_, _, _, _, _, _, _, h, _⟩ => by rw [h]; rfl) fun f cdv A outer s H E hr ds d ⟨n, ts, ps, hn, ht, g, hf, h1, h2⟩ => by
    subst h1 h2
    exact hr_ret (x_and (k := true) (m := true) (x_call c1 hr (by decide) (a_cons (x_nm 0) (a_cons (x_nm 1) a_nil)) ⟨n, ts, ps, g, rfl, rfl⟩) fun _ => x_one (h := x_cmp (rx (x_call c2 hr (by decide) (a_cons (x_nm 0) (a_cons (x_nm 1) a_nil)) ⟨n, ts, ps, hn, ht, g, hf, rfl, rfl⟩)) x_non.rd d_isN)) rfl
def R_sure_play : List D → D → Prop := fun ds d => ∃ (n : Nat) (ts : List Pr) (ps : List Nat) (x : D), n ≤ 60 ∧ (∀ p ∈ ts, p.2 < n) ∧ PcOk n ps ∧ FreshP ts ps ∧ Okd 1 x ∧ tupD x = nsD ps ∧ ds = [ordD n ts, x] ∧ d = nsD ps
theorem sc32 : FnScope ["order", "play", "own"] ["order", "play"] (defScope (topS 32)) := ⟨rfl, rfl, rfl, by decide +kernel, rfl, by decide +kernel, by decide +kernel⟩
theorem ok_sure_play (D0 : Df K mg "sure_play" (topS 32) ["order", "play"]) (c1 : Cal P w K mg base 2 "tupled" (spF (R_tupled 1))) (c2 : Cal P w K mg base 4 "is_play_in" (spF R_is_play_in)) : Cal P w K mg base 5 "sure_play" (spF R_sure_play) :=
  mk_cal D0 sc32 (by decide) (fun ds d ⟨_, _, _, _, _, _, _, _, _, _, h, _⟩ => by rw [h]; rfl) fun f cdv A outer s H E hr ds d ⟨n, ts, ps, x, hn, hl, g, hf, hx, ht, h1, h2⟩ => by
    subst h1 h2
    refine hr_asg 2 sc32.nd (x_call c1 hr (by decide) (a_cons (x_nm 1) a_nil) ⟨x, rfl, hx, ht.symm⟩) ?_
    refine hr_ifF (t_not (k := true) (t_val (x_call c2 hr (by decide) (a_cons (x_nm 0) (a_cons (x_nm 2) a_nil)) ⟨n, ts, ps, hn, hl, g, hf, rfl, rfl⟩))) ?_
    exact hr_ret (x_nm 2) rfl
end
end G
-- M4
/-! M4: what worths.py and replies.py compute. -/
namespace G
/-- b & ~t -/
def mns (b t : Nat) : Nat := b ^^^ (b &&& t)
theorem mns_bit (b t i : Nat) : (mns b t).testBit i = (b.testBit i && !t.testBit i) := by
  unfold mns
  rw [Nat.testBit_xor, Nat.testBit_and]
  cases b.testBit i <;> cases t.testBit i <;> rfl
def bitsF (ps : List Nat) : Nat := (ps.map fun p => 2 ^ p).sum
def pcsF (b : Nat) : List Nat := (List.range 64).filter fun p => b.testBit p
theorem mem_pcs {b p : Nat} : p ∈ pcsF b ↔ p < 64 ∧ b.testBit p = true := by
  unfold pcsF
  rw [List.mem_filter, List.mem_range]
theorem bit_lt {b n p : Nat} (h : b < 2 ^ n) (hp : b.testBit p = true) : p < n := by
  rcases Nat.lt_or_ge p n with z | z
  · exact z
  · rw [Nat.testBit_lt_two_pow (Nat.lt_of_lt_of_le h (Nat.pow_le_pow_right (by decide) z))] at hp
    cases hp
theorem filter_range {n m : Nat} {f : Nat → Bool} (h : n ≤ m) (hf : ∀ p, n ≤ p → f p = false) : (List.range m).filter f = (List.range n).filter f := by
  obtain ⟨k, rfl⟩ := Nat.le.dest h
  induction k with
  | zero => rfl
  | succ k ih =>
    rw [← Nat.add_assoc, List.range_succ, List.filter_append, ih (by omega)]
    have e : f (n + k) = false := hf _ (by omega)
    rw [List.filter_cons, e]
    simp
theorem pcs_range {b n : Nat} (hn : n ≤ 64) (h : b < 2 ^ n) : pcsF b = (List.range n).filter fun p => b.testBit p :=
  filter_range hn fun p hp => Nat.testBit_lt_two_pow (Nat.lt_of_lt_of_le h (Nat.pow_le_pow_right (by decide) hp))
theorem pcs_strict (b : Nat) : (pcsF b).Pairwise (· < ·) := (range_strict 64).filter _
theorem pcs_len (b : Nat) : (pcsF b).length ≤ 64 := by
  have := List.length_filter_le (fun p => b.testBit p) (List.range 64)
  rw [List.length_range] at this
  exact this
def topStep (f : List Nat) (p : Nat × Nat) : List Nat := f.set p.1 (f.getD p.1 0 ||| f.getD p.2 0)
def topsF (n : Nat) (ts : List (Nat × Nat)) : List Nat := ts.reverse.foldl topStep ((List.range n).map fun p => 2 ^ p)
theorem topStep_len (f : List Nat) (p : Nat × Nat) : (topStep f p).length = f.length := List.length_set ..
theorem topsF_len (n : Nat) (ts : List (Nat × Nat)) : (topsF n ts).length = n :=
  foldl_inv (fun f : List Nat => f.length = n) ts.reverse _ (by simp) fun f p _ h => by
    rw [topStep_len]
    exact h
def lowStep (f : List (List Nat)) (p : Nat × Nat) : List (List Nat) := f.set p.2 (row f p.2 ++ [p.1])
def lowsF (n : Nat) (ts : List (Nat × Nat)) : List (List Nat) := ts.foldl lowStep (List.replicate n [])
theorem lowStep_len (f : List (List Nat)) (p : Nat × Nat) : (lowStep f p).length = f.length := List.length_set ..
theorem lowsF_len (n : Nat) (ts : List (Nat × Nat)) : (lowsF n ts).length = n :=
  foldl_inv (fun f : List (List Nat) => f.length = n) ts _ (by simp) fun f p _ h => by
    rw [lowStep_len]
    exact h
/-- under piece k -/
def undF (ts : List (Nat × Nat)) (k : Nat) : List Nat := (ts.filter fun p => decide (p.2 = k)).map (·.1)
theorem row_low {n : Nat} {ts : List (Nat × Nat)} (h : ∀ p ∈ ts, p.2 < n) (k : Nat) : row (lowsF n ts) k = undF ts k := by
  have aux : ∀ (ts : List (Nat × Nat)) (f : List (List Nat)), f.length = n → (∀ p ∈ ts, p.2 < n) → row (ts.foldl lowStep f) k = row f k ++ undF ts k := by
    intro ts
    induction ts with
    | nil => intro f _ _; unfold undF; simp
    | cons p ts ih =>
      intro f hf hp
      rw [List.foldl_cons, ih _ (by rw [lowStep_len]; exact hf) fun q hq => hp q (List.mem_cons_of_mem _ hq)]
      unfold lowStep undF
      rw [row_set, List.filter_cons]
      by_cases e : p.2 = k
      · rw [if_pos ⟨e, by rw [hf]; exact hp p List.mem_cons_self⟩, if_pos (decide_eq_true e), List.map_cons, List.append_assoc, e]
        rfl
      · rw [if_neg (fun z => e z.1), if_neg (by rw [decide_eq_false e]; exact Bool.false_ne_true)]
  unfold lowsF
  rw [aux ts _ (by simp) h, row_rep, List.nil_append]
def lefStep (ts : List (Nat × Nat)) (found : List Nat) (k : Nat) : List Nat := found ++ (found.filter fun b => decide (b &&& bitsF (undF ts k) = bitsF (undF ts k))).map fun b => b ||| 2 ^ k
def lefsU (ts : List (Nat × Nat)) (k : Nat) : List Nat := (List.range k).foldl (lefStep ts) [0]
def leftsF (n : Nat) (ts : List (Nat × Nat)) : List Nat := srt (lefsU ts n)
theorem lefsU_succ (ts : List (Nat × Nat)) (k : Nat) : lefsU ts (k + 1) = lefStep ts (lefsU ts k) k := by
  unfold lefsU
  rw [List.range_succ, List.foldl_append]
  rfl
/-- few enough at each step -/
def FewOk (n : Nat) (ts : List (Nat × Nat)) : Prop := ∀ k, k ≤ n → (lefsU ts k).length ≤ 2000
theorem range_pre {n : Nat} {pre post : List Nat} {x : Nat} (h : List.range n = pre ++ x :: post) : pre = List.range pre.length ∧ x = pre.length ∧ x < n := by
  have hl := congrArg List.length h
  rw [List.length_range, List.length_append, List.length_cons] at hl
  have e1 : pre = List.range pre.length := by
    have := congrArg (List.take pre.length) h
    rw [List.take_left, List.take_range, Nat.min_eq_left (by omega)] at this
    exact this.symm
  have e2 : x = pre.length := by
    have h2 : (List.range n)[pre.length]? = some x := by rw [h]; simp
    rw [List.getElem?_range (by omega)] at h2
    exact (Option.some.inj h2).symm
  exact ⟨e1, e2, by omega⟩
/-! ### counts -/
def cntV (tops : List Nat) (m : List (Nat × Nat)) (b : Nat) : Nat := if 0 < b then ((pcsF b).map fun p => (m.lookup (mns b (tops.getD p 0))).getD 0).sum else 1
def cntStep (tops : List Nat) (m : List (Nat × Nat)) (b : Nat) : List (Nat × Nat) := m ++ [(b, cntV tops m b)]
def cntF (n : Nat) (ts : List (Nat × Nat)) : List (Nat × Nat) := (leftsF n ts).foldl (cntStep (topsF n ts)) []
theorem lookup_mem {m : List (Nat × Nat)} {k : Nat} (h : k ∈ m.map (·.1)) : ∃ v, m.lookup k = some v := by
  induction m with
  | nil => cases h
  | cons x m ih =>
    rw [List.lookup_cons]
    by_cases e : k = x.1
    · rw [show (k == x.1) = true by simpa using e]
      exact ⟨_, rfl⟩
    · rw [show (k == x.1) = false by simpa using e]
      rcases List.mem_cons.mp h with z | z
      · exact (e z).elim
      · exact ih z
/-- the lefts are there in order, and each is built from earlier ones -/
structure CloOk (n : Nat) (ts : List (Nat × Nat)) : Prop where
  asc : (leftsF n ts).Pairwise (· < ·)
  lt : ∀ b ∈ leftsF n ts, b < 2 ^ 60
  sub : ∀ pre b post, leftsF n ts = pre ++ b :: post → ∀ p ∈ pcsF b, p < n ∧ mns b ((topsF n ts).getD p 0) ∈ pre
theorem cnt_keys {tops : List Nat} : ∀ (bs : List Nat) (m : List (Nat × Nat)), (bs.foldl (cntStep tops) m).map (·.1) = m.map (·.1) ++ bs
  | [], m => by simp
  | b :: bs, m => by
    rw [List.foldl_cons, cnt_keys bs]
    unfold cntStep
    rw [List.map_append, List.append_assoc]
    rfl
end G
-- M5
/-! M5: lengths. -/
namespace G
def putC : List (Nat × Nat) → Nat → Nat → List (Nat × Nat)
  | [], k, v => [(k, v)]
  | x :: m, k, v => if x.1 = k then (k, v) :: m else x :: putC m k v
theorem putC_keys (k v : Nat) : ∀ m : List (Nat × Nat), (putC m k v).map (·.1) = ins (m.map (·.1)) k
  | [] => rfl
  | x :: m => by
    have ih := putC_keys k v m
    unfold putC
    by_cases e : x.1 = k
    · rw [if_pos e]
      unfold ins
      rw [if_pos (by rw [List.map_cons, e]; exact List.mem_cons_self), List.map_cons, List.map_cons, e]
    · rw [if_neg e, List.map_cons, ih]
      unfold ins
      by_cases h : k ∈ m.map (·.1)
      · rw [if_pos h, if_pos (by rw [List.map_cons]; exact List.mem_cons_of_mem _ h)]
        rfl
      · rw [if_neg h, if_neg (fun z => h (by rw [List.map_cons] at z; rcases List.mem_cons.mp z with y | y; exact (e y.symm).elim; exact y))]
        rfl
def putStep (m : List (Nat × Nat)) (x : Nat × Nat) : List (Nat × Nat) := putC m (x.1 + 1) ((m.lookup (x.1 + 1)).getD 0 + x.2)
def putL (m ls : List (Nat × Nat)) : List (Nat × Nat) := ls.foldl putStep m
def lenIn (tops : List Nat) (M : List (Nat × List (Nat × Nat))) (b : Nat) (m : List (Nat × Nat)) (p : Nat) : List (Nat × Nat) := putL m ((M.lookup (mns b (tops.getD p 0))).getD [])
def lenV (tops : List Nat) (M : List (Nat × List (Nat × Nat))) (b : Nat) : List (Nat × Nat) := (pcsF b).foldl (lenIn tops M b) (if b = 0 then [(0, 1)] else [])
def lenStep (tops : List Nat) (M : List (Nat × List (Nat × Nat))) (b : Nat) : List (Nat × List (Nat × Nat)) := M ++ [(b, lenV tops M b)]
def lefIn (n : Nat) (ts : List (Nat × Nat)) (start : Nat) : List Nat := (leftsF n ts).filter fun b => decide (mns b start = 0)
def lenF (n : Nat) (ts : List (Nat × Nat)) (start : Nat) : List (Nat × List (Nat × Nat)) := (lefIn n ts start).foldl (lenStep (topsF n ts)) []
/-- keys once each, below k -/
def KeyOk (k : Nat) (m : List (Nat × Nat)) : Prop := (m.map (·.1)).Nodup ∧ ∀ x ∈ m.map (·.1), x < k
theorem KeyOk.len {k : Nat} {m : List (Nat × Nat)} (h : KeyOk k m) : m.length ≤ k := by
  have := nodup_len h.1 h.2
  rw [List.length_map] at this
  exact this
theorem KeyOk.mono {k k' : Nat} {m : List (Nat × Nat)} (h : KeyOk k m) (hk : k ≤ k') : KeyOk k' m := ⟨h.1, fun x hx => Nat.lt_of_lt_of_le (h.2 x hx) hk⟩
theorem putC_ok {k i v : Nat} {m : List (Nat × Nat)} (h : KeyOk k m) (hi : i < k) : KeyOk k (putC m i v) := by
  unfold KeyOk
  rw [putC_keys]
  refine ⟨ins_nodup h.1, fun x hx => ?_⟩
  rcases mem_ins.mp hx with z | z
  · exact h.2 x z
  · rw [z]; exact hi
theorem putL_ok {k : Nat} {m ls : List (Nat × Nat)} (h : KeyOk (k + 1) m) (hl : KeyOk k ls) : KeyOk (k + 1) (putL m ls) :=
  foldl_inv (KeyOk (k + 1)) ls m h fun m x hx hm => putC_ok hm (by
    have := hl.2 x.1 (List.mem_map_of_mem hx)
    omega)
theorem lookupL {m : List (Nat × List (Nat × Nat))} {k : Nat} (h : k ∈ m.map (·.1)) : ∃ v, m.lookup k = some v ∧ ∃ x ∈ m, x.2 = v ∧ x.1 = k := by
  induction m with
  | nil => cases h
  | cons x m ih =>
    rw [List.lookup_cons]
    by_cases e : k = x.1
    · rw [show (k == x.1) = true by simpa using e]
      exact ⟨_, rfl, x, List.mem_cons_self, rfl, e.symm⟩
    · rw [show (k == x.1) = false by simpa using e]
      rcases List.mem_cons.mp h with z | z
      · exact (e z).elim
      · obtain ⟨v, h1, y, hy, h2⟩ := ih z
        exact ⟨v, h1, y, List.mem_cons_of_mem _ hy, h2⟩
theorem lookup_nodup {ls : List (Nat × Nat)} (h : (ls.map (·.1)).Nodup) {x : Nat × Nat} (hx : x ∈ ls) : ls.lookup x.1 = some x.2 := by
  induction ls with
  | nil => cases hx
  | cons y ls ih =>
    rw [List.map_cons] at h
    obtain ⟨h1, h2⟩ := List.nodup_cons.mp h
    rw [List.lookup_cons]
    rcases List.mem_cons.mp hx with e | e
    · subst e
      simp
    · have : x.1 ≠ y.1 := fun z => h1 (by rw [← z]; exact List.mem_map_of_mem e)
      rw [show (x.1 == y.1) = false by simpa using this]
      exact ih h2 e
theorem len_keys {tops : List Nat} : ∀ (bs : List Nat) (M : List (Nat × List (Nat × Nat))), (bs.foldl (lenStep tops) M).map (·.1) = M.map (·.1) ++ bs
  | [], M => by simp
  | b :: bs, M => by
    rw [List.foldl_cons, len_keys bs]
    unfold lenStep
    rw [List.map_append, List.append_assoc]
    rfl
theorem filter_split {f : Nat → Bool} : ∀ {l pre post : List Nat} {b : Nat}, l.filter f = pre ++ b :: post → ∃ pre2 post2, l = pre2 ++ b :: post2 ∧ pre2.filter f = pre
  | [], pre, post, b, h => by
    cases pre <;> cases h
  | a :: l, pre, post, b, h => by
    rw [List.filter_cons] at h
    by_cases e : f a = true
    · rw [if_pos e] at h
      cases pre with
      | nil =>
        have := (List.cons.inj h).1
        subst this
        exact ⟨[], l, rfl, rfl⟩
      | cons c pre =>
        obtain ⟨h1, h2⟩ := List.cons.inj h
        subst h1
        obtain ⟨p2, q2, e1, e2⟩ := filter_split h2
        exact ⟨a :: p2, q2, by rw [e1]; rfl, by rw [List.filter_cons, if_pos e, e2]⟩
    · rw [if_neg e] at h
      obtain ⟨p2, q2, e1, e2⟩ := filter_split h
      exact ⟨a :: p2, q2, by rw [e1]; rfl, by rw [List.filter_cons, if_neg e, e2]⟩
theorem mns_sub {b t s : Nat} (h : mns b s = 0) : mns (mns b t) s = 0 := by
  refine Nat.eq_of_testBit_eq fun i => ?_
  have hi : (mns b s).testBit i = false := by rw [h]; exact Nat.zero_testBit i
  rw [mns_bit] at hi
  rw [mns_bit, mns_bit, Nat.zero_testBit]
  revert hi
  cases b.testBit i <;> cases t.testBit i <;> cases s.testBit i <;> decide
theorem lefIn_sub {n : Nat} {ts : List (Nat × Nat)} (c : CloOk n ts) {start : Nat} {pre post : List Nat} {b : Nat} (h : lefIn n ts start = pre ++ b :: post) : ∀ p ∈ pcsF b, p < n ∧ mns b ((topsF n ts).getD p 0) ∈ pre := fun p hp => by
  have hb : b ∈ lefIn n ts start := by rw [h]; simp
  have hb2 := of_decide_eq_true (List.mem_filter.mp hb).2
  obtain ⟨p2, q2, e1, e2⟩ := filter_split h
  obtain ⟨h1, h2⟩ := c.sub p2 b q2 e1 p hp
  refine ⟨h1, ?_⟩
  rw [← e2]
  exact List.mem_filter.mpr ⟨h2, decide_eq_true (mns_sub hb2)⟩
/-- odd lengths -/
def wonF (L : List (Nat × Nat)) : Nat := ((L.filter fun x => decide (x.1 % 2 = 1)).map (·.2)).sum
end G
-- Fw14
set_option maxHeartbeats 4000000
/-! Fw14: truth of ints; {a: b}; own dicts locked for good; walks over them; a dict handed in and changed. -/
namespace G
open PySem PySem.Spec PyProof.Rows L2
abbrev fdD (m : List Pr) : D := .frd (m.map fun x => (x.1 : Int)) (m.map fun x => nD x.2)
section
variable {X : Cx} {Γ Γ' : Ctx} {e a b c tg : Expr} {rest : List Stmt} {pos p pos' apos cpos px p1 p2 : Pos} {d d1 : D} {P : Post} {i j : Int}
theorem t_int {i : Int} (h : EvX X e Γ (.int i)) (he : ∀ whole, isTrue e X.env whole = (do let v ← whole; standAt e.pos; holding [v] (truthy v)) := by intro _; rfl) : EvT X e Γ (i != 0) := fun t W0 W σ l E Q q =>
  wT_of (pt_truth (pe_w X e) he) (h t W0 W σ l E _ fun v W1 e1 r1 => ⟨i != 0, by
    have r1 : v = .int i := r1
    subst r1
    exact rfl, q W1 e1⟩)
/-- {a: b} of numbers -/
theorem o_dct1 {m n k1 k2 : Nat} : EvO X (.Dict [some (.Constant (.int (m : Int)) k1 p1)] [.Constant (.int (n : Int)) k2 p2] pos) Γ (.Dc [(m : Int)] [nD n]) := fun t W0 W σ l E Q q =>
  wE_of (pe_disp (pps_cons pe_int pe_int pps_nil) rfl rfl (List.cons_ne_nil _ _) (Nat.le_of_ble_eq_true rfl)) fun p hp => ⟨upd_same, [(Sum.inl (m : Int), V.int n)], rfl, Nat.le_of_ble_eq_true rfl, by
    have e : upd (upd W.H p (.dK [])) p (.dK (mergeK [] [(Sum.inl (m : Int), V.int n)])) = upd W.H p (.dK [(Sum.inl (m : Int), V.int n)]) := by
      funext b
      by_cases z : b = p
      · subst z
        rw [upd_same, upd_same]
        rfl
      · rw [upd_ne z, upd_ne z, upd_ne z]
    rw [e]
    obtain ⟨W2, z1, z2, z3⟩ := lay (o := .dK [(Sum.inl (m : Int), V.int n)]) hp
    rw [← z1]
    exact q _ W2 z3 ⟨p, _, rfl, by rw [z2]; exact F_none hp, hp, by rw [z1]; exact upd_same, _, rfl, rfl, _, _, rfl, rfl, rfl⟩⟩
/-- locked data may be read as a dict -/
theorem fd_dct {F : Hp} {ks : List Int} {ds : List D} {v : V} (h : Rp F (.frd ks ds) v) : Rp F (.dct ks ds) v := by
  obtain ⟨a, ps, od, h1, h2, h3, h4⟩ := h
  exact ⟨a, ps, h1, .inr ⟨od, h2⟩, h3, h4⟩
theorem x_fd {ks : List Int} {ds : List D} (h : EvX X e Γ (.frd ks ds)) : EvX X e Γ (.dct ks ds) := h.imp fun _ _ _ _ => fd_dct
/-- an own dict is locked for good -/
theorem hr_frzL (i : Nat) {ks : List Int} {ds : List D} (hi : Γ[i]? = some (.ow (.one (.Dc ks ds))) := by rfl) (k : Hr X rest (Γ.set i (.pu (.frd ks ds))) P) : Hr X rest Γ P := fun t W0 W σ en l E De q1 q2 q3 q4 => by
  unfold wSs
  intro pins st I
  obtain ⟨hl, ⟨ow, h1, h2, h3⟩, ht0, ht⟩ := E
  obtain ⟨v, hv, p, ob, rfl, hp, ho, hb⟩ := h3 i _ hi
  obtain ⟨z1, z2, _⟩ := h2 i p hp
  obtain ⟨ps, rfl, hk, hx⟩ := hb
  obtain ⟨od, I2⟩ := I.lock ho trivial
  have s0 : Same W.F (upd W.F p (.frz od (.dK ps))) := same_put z1
  have hpt : ∀ a, t = some a → a ≠ p := fun a ha z => by
    obtain ⟨_, u', z3⟩ := ht0 a ha
    rw [z, z2] at z3
    cases z3
  have hok : Same (upd W.F p (.frz od (.dK ps))) (upd W.H p (.frz od (.dK ps))) := fun a u h => by
    by_cases z : a = p
    · subst z
      rw [upd_same] at h ⊢
      exact h
    · rw [upd_ne z] at h ⊢
      exact W.ok _ _ h
  have nx : ∀ {a : Addr} {o : HO}, a ≠ p → W.H a = some o → upd W.H p (.frz od (.dK ps)) a = some o := fun ha h => by
    rw [upd_ne ha]
    exact h
  have E' : Env X.K t W0 ⟨_, _, hok⟩ σ (Γ.set i (.pu (.frd ks ds))) := by
    refine ⟨by rw [List.length_set]; exact hl, ⟨fun j a => j ≠ i ∧ ow j a, fun j k a x y => h1 j k a x.2 y.2, fun j a x => ?_, fun j s hs => ?_⟩, ht0, fun a ha => ?_⟩
    · obtain ⟨y1, y2, u, y3⟩ := h2 j a x.2
      have np : a ≠ p := fun z => x.1 (h1 j i a x.2 (by rw [z]; exact hp))
      exact ⟨by show upd W.F p _ a = none; rw [upd_ne np]; exact y1, y2, u, nx np y3⟩
    · by_cases e : i = j
      · subst e
        have hlt := (List.getElem?_eq_some_iff.mp hs).1
        rw [List.length_set] at hlt
        rw [List.getElem?_set_self hlt] at hs
        cases hs
        exact ⟨_, hv, p, ps, od, rfl, upd_same, hk, hx.mono s0⟩
      · rw [List.getElem?_set_ne e] at hs
        have q := h3 j s hs
        have np : ∀ a, ow j a → a ≠ p := fun a ha z => e (h1 i j a (by rw [z]; exact hp) ha)
        cases s with
        | un => trivial
        | pu d =>
          obtain ⟨w, x, y⟩ := q
          exact ⟨w, x, y.mono s0⟩
        | scr ns =>
          obtain ⟨w, x, y⟩ := q
          exact ⟨w, x, sql_same s0 y⟩
        | vol Pv =>
          obtain ⟨a, u, x, ta, y1, y2⟩ := q
          exact ⟨a, u, x, ta, nx (hpt a ta) y1, y2⟩
        | ow o2 =>
          cases o2 with
          | one b2 =>
            obtain ⟨w, x, p2, u, y1, y2, y3, y4⟩ := q
            exact ⟨w, x, p2, u, y1, ⟨fun z => e z.symm, y2⟩, nx (np _ y2) y3, y4.mono s0⟩
          | many bs =>
            obtain ⟨w, x, p2, ps2, y1, y2, y3, y4, y5, y6, y7⟩ := q
            refine ⟨w, x, p2, ps2, y1, ⟨fun z => e z.symm, y2⟩, fun q' hq => ⟨fun z => e z.symm, y3 q' hq⟩, y4, nx (np _ y2) y5, y6, fun m q' b' a1 a2 => ?_⟩
            obtain ⟨u, w1, w2⟩ := y7 m q' b' a1 a2
            exact ⟨u, nx (np _ (y3 _ (List.mem_of_getElem? a1))) w1, w2.mono s0⟩
    · obtain ⟨y1, u, y2⟩ := ht a ha
      exact ⟨by show upd W.F p _ a = none; rw [upd_ne (hpt a ha)]; exact y1, u, nx (hpt a ha) y2⟩
  have l' : Le t W0 ⟨_, _, hok⟩ := ⟨fun a u h ne => nx (ne_of_none h z2) (l.h a u h ne), l.f.trans s0, fun a y1 y2 => by
    by_cases e : a = p
    · subst e
      exact z2
    · have y3 : upd W.F p (.frz od (.dK ps)) a ≠ none := y2
      rw [upd_ne e] at y3
      exact l.n a y1 y3⟩
  exact (pss_w _ _).run pins st σ _ De I2 (k t W0 ⟨_, _, hok⟩ σ en l' E' De (fun σ2 W2 Γ2 a b => q1 σ2 W2 Γ2 a (s0.trans b)) (fun v d σ2 W2 Γ2 a b => q2 v d σ2 W2 Γ2 a (s0.trans b)) (fun σ2 W2 Γ2 a b => q3 σ2 W2 Γ2 a (s0.trans b)) (fun σ2 W2 Γ2 a b => q4 σ2 W2 Γ2 a (s0.trans b)))
/-- for k in d, d locked -/
theorem it_frd {ks : List Int} {ds : List D} (h : EvX X e Γ (.frd ks ds)) : ItX X tg e Γ (ks.map D.int) := ⟨_, pi_keys (pe_w X e), fun t W0 W σ l E R q => h t W0 W σ l E _ fun v W1 e1 r1 => by
  obtain ⟨p, ps, od, rfl, hp, hk, hx⟩ := r1
  have hlen : (ks.map D.int).length = ps.length := by
    have := congrArg List.length hk
    rw [List.length_map, List.length_map] at this
    rw [List.length_map, this]
  refine ⟨p, od, rfl, .inl ⟨ps, W1.ok _ _ hp, q _ W1 e1 ⟨_, _, by rw [hlen]; exact walk_keys, fun W' s => W'.ok _ _ (s _ _ hp), fun i x W' H' hlt s y => ?_⟩⟩⟩
  obtain ⟨rfl, k, w, h1, rfl⟩ := y
  have h2 : (ps.map (·.1))[i]? = some k := by rw [List.getElem?_map, h1]; rfl
  rw [hk, List.getElem?_map] at h2
  cases h3 : ks[i]? with
  | none =>
    rw [h3] at h2
    cases h2
  | some n =>
    rw [h3] at h2
    have h4 : Sum.inl n = k := Option.some.inj h2
    subst h4
    exact ⟨W', rfl, .refl _, .int n, by rw [List.getElem?_map, h3]; rfl, rfl⟩⟩
/-! ### a dict of numbers that was handed in -/
def cnK (m : List Pr) : List (Key × V) := m.map fun x => (Sum.inl (x.1 : Int), V.int x.2)
def cnO (m : List Pr) : HO := .dK (cnK m)
theorem cnK_keys (m : List Pr) : (cnK m).map (·.1) = (m.map fun x => (x.1 : Int)).map Sum.inl := by unfold cnK; rw [List.map_map, List.map_map]; rfl
theorem cnK_vals (F : Hp) : ∀ m : List Pr, RpA F (m.map fun x => nD x.2) ((cnK m).map (·.2))
  | [] => rfl
  | x :: m => ⟨_, _, rfl, rfl, cnK_vals F m⟩
theorem br_cn (F : Hp) (m : List Pr) : BR F (cnO m) (cnB m) := ⟨cnK m, rfl, cnK_keys m, cnK_vals F m⟩
theorem cn_ints {F : Hp} : ∀ {m : List Pr} {ps : List (Key × V)}, ps.map (·.1) = (m.map fun x => (x.1 : Int)).map Sum.inl → RpA F (m.map fun x => nD x.2) (ps.map (·.2)) → ps = cnK m
  | [], [], _, _ => rfl
  | [], _ :: _, h, _ => by cases h
  | _ :: _, [], h, _ => by cases h
  | x :: m, q :: ps, h, ⟨v, vs, hx, hd, hs⟩ => by
    rw [List.map_cons] at hx
    cases hx
    have h2 : q.1 :: ps.map (·.1) = Sum.inl (x.1 : Int) :: (m.map fun x => (x.1 : Int)).map Sum.inl := h
    have e1 := (List.cons.inj h2).1
    have e2 : q.2 = .int (x.2 : Int) := hd
    rw [cn_ints (List.cons.inj h2).2 hs]
    show q :: cnK m = (Sum.inl (x.1 : Int), V.int x.2) :: cnK m
    rw [← e1, ← e2]
theorem x_volD (i : Nat) {x : Str} {m : List Pr} (hΓ : Γ[i]? = some (.vol (· = cnO m)) := by rfl) (hN : X.N[i]? = some x := by rfl) (hv : Vis X.env.scope x := by first | exact Or.inl rfl | exact Or.inr (Or.inl rfl) | exact Or.inr (Or.inr rfl))
    (hd : (x == ("__debug__" : Str)) = false := by decide) (hcd : (x == ("__classdict__" : Str)) = false := by decide) : RdX X (.Name x pos) Γ (cnD m) := fun t W0 W σ l E Q q => by
  obtain ⟨a, o, h1, _, h2, h3⟩ := E.vol hΓ
  subst h3
  exact wE_of (pe_var hN hv hd hcd) ⟨_, h1, q _ W (.refl _) ⟨a, cnK m, rfl, .inl h2, cnK_keys m, cnK_vals _ m⟩⟩
def Slot.svP (P : HO → Prop) : Slot → Slot
  | .vol _ => .vol P
  | s => s
def svP (P : HO → Prop) (Γ : Ctx) : Ctx := Γ.map (Slot.svP P)
theorem Env.leP {K : PySem.W.Frag} {t : Option Addr} {W0 W W2 : Wd} {σ : L2.St} {Pv : HO → Prop} (h : Env K t W0 W σ Γ) (l : Le t W W2) (v : ∀ a, t = some a → ∃ o, W2.H a = some o ∧ Pv o) : Env K t W0 W2 σ (svP Pv Γ) := by
  obtain ⟨hl, ⟨ow, h1, h2, h3⟩, ht0, ht⟩ := h
  have nf : ∀ (a : Addr) (o : HO), W.F a = none → W.H a = some o → W2.F a = none := fun a o x1 x2 => by
    cases q : W2.F a with
    | none => rfl
    | some u =>
      have := l.n a x1 (by rw [q]; exact fun z => nomatch z)
      rw [x2] at this
      cases this
  have nt : ∀ i a, ow i a → some a ≠ t := fun i a ha z => by
    obtain ⟨_, q, _⟩ := h2 i a ha
    obtain ⟨_, o, q2⟩ := ht0 a z.symm
    rw [q] at q2
    cases q2
  refine ⟨by unfold svP; rw [List.length_map]; exact hl, ⟨ow, h1, fun i a ha => ?_, fun i s hs => ?_⟩, ht0, fun a ha => ?_⟩
  · obtain ⟨q1, q2, o, q3⟩ := h2 i a ha
    exact ⟨nf a o q1 q3, q2, o, l.h a o q3 (nt i a ha)⟩
  · unfold svP at hs
    rw [List.getElem?_map] at hs
    cases e : Γ[i]? with
    | none =>
      rw [e] at hs
      cases hs
    | some s0 =>
      rw [e] at hs
      have es : s = Slot.svP Pv s0 := (Option.some.inj hs).symm
      subst es
      have q := h3 i s0 e
      cases s0 with
      | un => trivial
      | pu d =>
        obtain ⟨w, x, y⟩ := q
        exact ⟨w, x, y.mono l.f⟩
      | scr ns =>
        obtain ⟨w, x, y⟩ := q
        exact ⟨w, x, sql_same l.f y⟩
      | vol P0 =>
        obtain ⟨a, o, x, ta, _, _⟩ := q
        obtain ⟨o', y1, y2⟩ := v a ta
        exact ⟨a, o', x, ta, y1, y2⟩
      | ow o =>
        cases o with
        | one b =>
          obtain ⟨w, x, p, o, y1, y2, y3, y4⟩ := q
          exact ⟨w, x, p, o, y1, y2, l.h _ _ y3 (nt i p y2), y4.mono l.f⟩
        | many bs =>
          obtain ⟨w, x, p, ps, y1, y2, y3, y4, y5, y6, y7⟩ := q
          refine ⟨w, x, p, ps, y1, y2, y3, y4, l.h _ _ y5 (nt i p y2), y6, fun j q' b a c => ?_⟩
          obtain ⟨o, z1, z2⟩ := y7 j q' b a c
          exact ⟨o, l.h _ _ z1 (nt i q' (y3 _ (List.mem_of_getElem? a))), z2.mono l.f⟩
  · obtain ⟨y1, o, y2⟩ := ht a ha
    obtain ⟨o', y3, _⟩ := v a ha
    exact ⟨nf a o y1 y2, o', y3⟩
theorem dput_cnG (k v : Nat) : ∀ m : List Pr, dput (m.map fun x => (x.1 : Int)) (m.map fun x => nD x.2) (k : Int) (nD v) = ((putC m k v).map (fun x => (x.1 : Int)), (putC m k v).map fun x => nD x.2)
  | [] => rfl
  | x :: m => by
    have ih := dput_cnG k v m
    rw [List.map_cons, List.map_cons]
    unfold dput putC
    by_cases e : x.1 = k
    · rw [if_pos (show (x.1 : Int) = (k : Int) by rw [e]), if_pos e, List.map_cons, List.map_cons, e]
    · rw [if_neg (show ¬ (x.1 : Int) = (k : Int) from fun z => e (Int.ofNat.inj z)), if_neg e, ih]
      rfl
theorem putK_cn {m : List Pr} {k v : Nat} (h : (m.map (·.1)).Nodup) : putK (cnK m) (Sum.inl (k : Int)) (.int (v : Int)) = cnK (putC m k v) := by
  have hn : (m.map fun x => (x.1 : Int)).Nodup := by
    have := ofNat_nodup h
    rw [List.map_map] at this
    exact this
  obtain ⟨q1, q2⟩ := putK_rp (F := fun _ => none) (z := nD v) (v := .int (v : Int)) rfl (k : Int) (cnK_keys m) (cnK_vals _ m) hn
  rw [dput_cnG] at q1 q2
  exact cn_ints q1 q2
theorem hr_setV (i : Nat) {x : Str} {m : List Pr} {k v : Nat} (hu : X.A.units + 1 < cLine) (he : EvX X e Γ (nD v)) (hb : EvX X b Γ (nD k)) (kk : Hr X rest (svP (· = cnO (putC m k v)) Γ) P) (hn : (m.map (·.1)).Nodup) (hz : m.length < 100000) (hi : Γ[i]? = some (.vol (· = cnO m)) := by rfl) (hN : X.N[i]? = some x := by rfl) (hv : Vis X.env.scope x := by first | exact Or.inl rfl | exact Or.inr (Or.inl rfl) | exact Or.inr (Or.inr rfl))
    (hd : (x == ("__debug__" : Str)) = false := by decide) (hcd : (x == ("__classdict__" : Str)) = false := by decide) (hs : swapsWith e (some (.Subscript (.Name x px) b pos')) pos.line X.env = pure false := by rfl) :
    Hr X (.Assign [.Subscript (.Name x px) b pos'] e pos :: rest) Γ P := hr_step (fun t W0 W σ l E De q =>
  wS_of (ps_dput hu (pe_var hN hv hd hcd) (pe_w X b) (pe_w X e) hs) (he t W0 W σ l E _ fun v1 W1 e1 r1 => by
    have E1 := E.ext e1
    have l1 := l.ext E.tv e1
    obtain ⟨a, o, hσ, ta, hH, ho⟩ := E1.vol hi
    subst ho
    refine ⟨_, hσ, hb t W0 W1 σ l1 E1 _ fun v2 W2 e2 r2 => ?_⟩
    have r1 : v1 = .int (v : Int) := r1
    have r2 : v2 = .int (k : Int) := r2
    subst r1 r2
    have hH2 := e2.h _ _ hH
    have E2 := E1.ext e2
    have l2 := l1.ext E1.tv e2
    have hF : W2.F a = none := (E2.tv a ta).1
    have hok : Same W2.F (upd W2.H a (cnO (putC m k v))) := fun b u hb => by
      rw [upd_ne (fun z => by rw [z, hF] at hb; cases hb)]
      exact W2.ok _ _ hb
    have lw : Le t W2 ⟨W2.F, _, hok⟩ := ⟨fun b u hb ne => by show upd W2.H a _ b = _; rw [upd_ne (fun z => ne (by rw [z, ta]))]; exact hb, fun _ _ z => z, fun _ z1 z2 => (z2 z1).elim⟩
    have E3 := E2.leP (Pv := (· = cnO (putC m k v))) lw fun b hb => ⟨_, by
      rw [ta] at hb
      cases hb
      exact upd_same, rfl⟩
    refine ⟨a, upd W2.H a (cnO (putC m k v)), rfl, .inl ⟨cnK m, Sum.inl (k : Int), hH2, rfl, by unfold cnK; rw [List.length_map]; exact Nat.lt_trans hz (by decide), ?_⟩, q σ ⟨W2.F, _, hok⟩ (l2.trans E2.tv lw) (e1.f.trans e2.f) E3⟩
    rw [putK_cn hn]
    rfl)) kk
/-- slot i's object is handed on and comes back changed -/
theorem Env.mutLe {K : PySem.W.Frag} {t : Option Addr} {W0 W : Wd} {σ : L2.St} {b0 b' : B} (E : Env K t W0 W σ Γ) (l : Le t W0 W) {i : Nat} (hi : Γ[i]? = some (.ow (.one b0))) : ∃ p o, σ[i]? = some (some (.ref p)) ∧ W.H p = some o ∧ W.F p = none ∧ BR W.F o b0 ∧
    ∀ (W2 : Wd) (o' : HO), Le (some p) W W2 → W2.H p = some o' → BR W2.F o' b' → Le t W0 W2 ∧ Env K t W0 W2 σ (Γ.set i (.ow (.one b'))) := by
  obtain ⟨hl, ⟨ow, h1, h2, h3⟩, ht0, ht⟩ := E
  obtain ⟨v, hv, p, o, rfl, hp, ho, hb⟩ := h3 i _ hi
  obtain ⟨q1, q2, _⟩ := h2 i p hp
  refine ⟨p, o, hv, ho, q1, hb, fun W2 o' lw ho' hb' => ?_⟩
  have nf : ∀ (a : Addr) (o : HO), W.F a = none → W.H a = some o → W2.F a = none := fun a o x1 x2 => by
    cases q : W2.F a with
    | none => rfl
    | some u =>
      have := lw.n a x1 (by rw [q]; exact fun z => nomatch z)
      rw [x2] at this
      cases this
  have kp : ∀ (a : Addr) (o : HO), a ≠ p → W.H a = some o → W2.H a = some o := fun a o x1 x2 => lw.h a o x2 fun z => x1 (Option.some.inj z)
  have hpt : ∀ a, t = some a → a ≠ p := fun a ha z => by
    obtain ⟨_, u', z3⟩ := ht0 a ha
    rw [z, q2] at z3
    cases z3
  refine ⟨⟨fun a u ha ne => kp a u (ne_of_none ha q2) (l.h a u ha ne), l.f.trans lw.f, fun a y1 y2 => ?_⟩, by rw [List.length_set]; exact hl, ⟨ow, h1, fun j a ha => ?_, fun j s hs => ?_⟩, ht0, fun a ha => ?_⟩
  · cases e : W.F a with
    | none => exact l.free ht (lw.n a e y2)
    | some o => exact l.n a y1 (by rw [e]; exact fun z => nomatch z)
  · obtain ⟨z1, z2, u, z3⟩ := h2 j a ha
    refine ⟨nf a u z1 z3, z2, ?_⟩
    by_cases e : a = p
    · rw [e]
      exact ⟨_, ho'⟩
    · exact ⟨u, kp a u e z3⟩
  · by_cases e : i = j
    · subst e
      have hlt := (List.getElem?_eq_some_iff.mp hs).1
      rw [List.length_set] at hlt
      rw [List.getElem?_set_self hlt] at hs
      cases hs
      exact ⟨_, hv, p, o', rfl, hp, ho', hb'⟩
    · rw [List.getElem?_set_ne e] at hs
      have q := h3 j s hs
      have np : ∀ a, ow j a → a ≠ p := fun a ha z => e (h1 i j a (by rw [z]; exact hp) ha)
      cases s with
      | un => trivial
      | pu d =>
        obtain ⟨w, x, y⟩ := q
        exact ⟨w, x, y.mono lw.f⟩
      | scr ns =>
        obtain ⟨w, x, y⟩ := q
        exact ⟨w, x, sql_same lw.f y⟩
      | vol Pv =>
        obtain ⟨a, u, x, ta, y1, y2⟩ := q
        exact ⟨a, u, x, ta, kp a u (hpt a ta) y1, y2⟩
      | ow o2 =>
        cases o2 with
        | one b2 =>
          obtain ⟨w, x, p2, u, y1, y2, y3, y4⟩ := q
          exact ⟨w, x, p2, u, y1, y2, kp _ _ (np _ y2) y3, y4.mono lw.f⟩
        | many bs =>
          obtain ⟨w, x, p2, ps, y1, y2, y3, y4, y5, y6, y7⟩ := q
          refine ⟨w, x, p2, ps, y1, y2, y3, y4, kp _ _ (np _ y2) y5, y6, fun m q' b' a1 a2 => ?_⟩
          obtain ⟨u, z1, z2⟩ := y7 m q' b' a1 a2
          exact ⟨u, kp _ _ (np _ (y3 _ (List.mem_of_getElem? a1))) z1, z2.mono lw.f⟩
  · obtain ⟨z1, u, z2⟩ := ht a ha
    exact ⟨nf a u z1 z2, u, kp a u (hpt a ha) z2⟩
end
end G
-- Fw15
set_option maxHeartbeats 4000000
/-! Fw15: naturals as bit sets. -/
namespace G
open PySem PySem.Spec PyProof.Rows L2
theorem mns_le (b t : Nat) : mns b t + (b &&& t) = b := by
  have h := nat_or_add_and (mns b t) (b &&& t)
  have e1 : mns b t &&& (b &&& t) = 0 := by
    refine Nat.eq_of_testBit_eq fun i => ?_
    rw [Nat.testBit_and, mns_bit, Nat.testBit_and]
    cases b.testBit i <;> cases t.testBit i <;> simp
  have e2 : mns b t ||| (b &&& t) = b := by
    refine Nat.eq_of_testBit_eq fun i => ?_
    rw [Nat.testBit_or, mns_bit, Nat.testBit_and]
    cases b.testBit i <;> cases t.testBit i <;> rfl
  omega
theorem and_int (a b : Nat) : Builtin.bitAnd (a : Int) (b : Int) = ((a &&& b : Nat) : Int) := by rw [bitAnd_pp (by omega) (by omega), Int.toNat_natCast, Int.toNat_natCast]
theorem mns_int (b t : Nat) : Builtin.bitAnd (b : Int) (Builtin.bitNot (t : Int)) = (mns b t : Int) := by
  rw [bitAnd_not, and_int]
  have := mns_le b t
  omega
theorem or_int (a b : Nat) : Builtin.bitOr (a : Int) (b : Int) = ((a ||| b : Nat) : Int) := by
  rw [bitOr_and, and_int]
  have := nat_or_add_and a b
  omega
theorem dec_nat (a b : Nat) : decide ((a : Int) = (b : Int)) = decide (a = b) := decide_eq_decide.mpr ⟨fun h => Int.ofNat.inj h, fun h => by rw [h]⟩
theorem dec_lt (a b : Nat) : decide ((a : Int) < (b : Int)) = decide (a < b) := decide_eq_decide.mpr (by omega)
section
variable {X : Cx} {Γ Γ' : Ctx} {e a b c tg : Expr} {rest : List Stmt} {pos p pos' apos cpos px p1 p2 : Pos} {d d1 : D} {P : Post}
theorem OpD.to {f : Value → Value → Sem Value} {d1 d2 d3 d4 : D} (h : OpD X f d1 d2 d3) (e : d3 = d4) : OpD X f d1 d2 d4 := e ▸ h
theorem d_andN {m n : Nat} : OpD X (binaryOp .BitAnd) (nD m) (nD n) (nD (m &&& n)) := d_and.to (by rw [and_int]; rfl)
theorem d_orN {m n : Nat} : OpD X (binaryOp .BitOr) (nD m) (nD n) (nD (m ||| n)) := d_or.to (by rw [or_int]; rfl)
theorem d_addN {m n : Nat} : OpD X (binaryOp .Add) (nD m) (nD n) (nD (m + n)) := d_add.to rfl
theorem d_eqN {m n : Nat} : OpD X (compareOp .Eq) (nD m) (nD n) (.bl (decide (m = n))) := d_eq.to (by rw [dec_nat])
theorem d_neN {m n : Nat} : OpD X (compareOp .NotEq) (nD m) (nD n) (.bl (!decide (m = n))) := d_ne.to (by rw [dec_nat])
theorem d_ltN {m n : Nat} : OpD X (compareOp .Lt) (nD m) (nD n) (.bl (decide (m < n))) := d_lt.to (by rw [dec_lt])
theorem d_gtN {m n : Nat} : OpD X (compareOp .Gt) (nD m) (nD n) (.bl (decide (n < m))) := d_gt.to (by rw [dec_lt])
theorem x_mns {m n : Nat} (h1 : RdX X a Γ (nD m)) (h2 : EvX X b Γ (nD n)) : EvX X (.BinOp a .BitAnd (.UnaryOp .Invert b p1) pos) Γ (nD (mns m n)) :=
  x_op h1 (x_inv h2).rd (d_and.to (by rw [mns_int]; rfl))
theorem x_shl1 {k n : Nat} (h : EvX X b Γ (nD n)) (hn : n ≤ 100000) : EvX X (.BinOp (.Constant (.int 1) k p1) .LShift b pos) Γ (nD (2 ^ n)) :=
  x_op x_int.rd h.rd ((d_shl (X := X) (i := 1) (j := (n : Int)) ⟨by omega, by
    have : Builtin.Int.intBits 1 = 1 := by decide +kernel
    rw [this]
    omega⟩).to (by
      show D.int (1 * 2 ^ ((n : Int)).toNat) = D.int ((2 ^ n : Nat) : Int)
      rw [Int.one_mul, Int.toNat_natCast, Int.natCast_pow]
      rfl))
theorem t_bit {k m n : Nat} (h1 : EvX X a Γ (nD m)) (h2 : EvX X b Γ (nD n)) : EvT X (.BinOp (.BinOp a .RShift b p1) .BitAnd (.Constant (.int 1) k p2) pos) Γ (m.testBit n) := by
  have e1 : (m : Int) / 2 ^ ((n : Int)).toNat = ((m / 2 ^ n : Nat) : Int) := by
    rw [Int.toNat_natCast]
    norm_cast
  have q : EvX X (.BinOp (.BinOp a .RShift b p1) .BitAnd (.Constant (.int 1) k p2) pos) Γ (nD ((m / 2 ^ n) &&& 1)) := x_op (rx (x_op h1.rd h2.rd ((d_shr (X := X) (i := (m : Int)) (j := (n : Int)) (by omega)).to (by rw [e1]; rfl)))) (x_int (i := ((1 : Nat) : Int))).rd (d_andN (m := m / 2 ^ n) (n := 1))
  refine EvT.to (t_int q) ?_
  rw [Nat.and_one_is_mod, Nat.testBit_eq_decide_div_mod_eq]
  have h3 : m / 2 ^ n % 2 < 2 := Nat.mod_lt _ (by decide)
  by_cases h4 : m / 2 ^ n % 2 = 1
  · rw [h4]
    rfl
  · have h5 : m / 2 ^ n % 2 = 0 := by omega
    rw [h5]
    rfl
theorem pcs_bits {m : Nat} (h : m < 2 ^ 64) : (List.range (Builtin.Int.intBits (m : Int))).filter (fun p => m.testBit p) = pcsF m := by
  have h1 : Builtin.Int.intBits (m : Int) ≤ 64 := intBits_le_iff.mpr (by rw [Int.natAbs_natCast]; exact h)
  have h2 : m < 2 ^ Builtin.Int.intBits (m : Int) := by
    have := intBits_le_iff.mp (Nat.le_refl (Builtin.Int.intBits (m : Int)))
    rw [Int.natAbs_natCast] at this
    exact this
  exact (pcs_range h1 h2).symm
/-- found[j].append(e), lists of numbers -/
def lsB (r : List Nat) : B := .L (r.map nD)
theorem hr_appTr (i : Nat) {x : Str} {f : List (List Nat)} {j n : Nat} {pa : Pos} (ha : EvX X a Γ (nD j)) (he : EvX X e Γ (nD n)) (k : Hr X rest (Γ.set i (.ow (.many ((f.set j (row f j ++ [n])).map lsB)))) P) (hj : j < f.length) (hz : (row f j).length < 100000)
    (hi : Γ[i]? = some (.ow (.many (f.map lsB))) := by rfl) (hN : X.N[i]? = some x := by rfl) (hv : Vis X.env.scope x := by first | exact Or.inl rfl | exact Or.inr (Or.inl rfl) | exact Or.inr (Or.inr rfl))
    (hd : (x == ("__debug__" : Str)) = false := by decide) (hcd : (x == ("__classdict__" : Str)) = false := by decide) (hsw : swapsWith (.Call (.Attribute (.Subscript (.Name x px) a pa) "append" apos) [e] [] cpos) none pos.line X.env = pure false := by rfl)
    (hbase : attributeBase (.Subscript (.Name x px) a pa) "append" X.env (eval (.Subscript (.Name x px) a pa) X.env) = eval (.Subscript (.Name x px) a pa) X.env := by rfl)
    (hfew : ((backTo cpos (starEach [e] X.env)).all (fun x => !x.1) && (backToKw cpos (keywordEach [] X.env)).all (fun x => x.1.isSome)
      && decide (([e] : List Expr).length + ([] : List Keyword).length + (if ([] : List Keyword).isEmpty then 0 else 1) < 30)) = true := by rfl)
    (hline : (apos.endLine == cpos.line) = true := by rfl) (hst : starEach [e] X.env = (false, eval e X.env) :: starEach [] X.env := by rfl) (hpl : PlainIx a := by exact fun _ _ => rfl) :
    Hr X (.Expr (.Call (.Attribute (.Subscript (.Name x px) a pa) "append" apos) [e] [] cpos) pos :: rest) Γ P := by
  refine hr_appN i (xs := (row f j).map nD) ha he ?_ (by rw [List.getElem?_map, row_get hj]; rfl) (by rw [List.length_map]; exact hz) hi hN hv hd hcd hsw hbase hfew hline hst hpl
  refine hr_eq k ?_
  rw [List.map_set]
  unfold lsB
  rw [List.map_append]
  rfl
end
end G
-- P7
set_option maxHeartbeats 4000000
/-! P7: worths.py, papers.py -/
namespace G
open PySem PySem.Spec PyProof.Rows L2
theorem xt2 {X : Cx} {Γ : Ctx} {e : Expr} {ds es : List D} (h : EvO X e Γ (.L ds)) (q : ds = es) : EvO X e Γ (.L es) := q ▸ h
theorem sum_ofNat (l : List Nat) : (l.map Int.ofNat).sum = (l.sum : Int) := by
  induction l with
  | nil => rfl
  | cons a l ih =>
    rw [List.map_cons, List.sum_cons, List.sum_cons, ih]
    exact (Int.natCast_add a l.sum).symm
theorem getD_atI {f : List Nat} {i : Nat} (h : i < f.length) : atI (f.map nD) (i : Int) = some (nD (f.getD i 0)) := atI_map nD (getD_get h)
section
variable {P : Program} {w : World} {K : PySem.W.Frag} {mg : Str → Option Value} {base : Heap}
def R_bits_for : List D → D → Prop := fun ds d => ∃ ps : List Nat, (∀ x ∈ ps, x ≤ 1000) ∧ ps.length ≤ 100000 ∧ (ds = [rowD ps] ∨ ds = [nsD ps]) ∧ d = nD (bitsF ps)
theorem sc35 : FnScope ["pieces", "piece"] ["pieces"] (defScope (topS 35)) := ⟨rfl, rfl, rfl, by decide +kernel, rfl, by decide +kernel, by decide +kernel⟩
theorem ok_bits_for (T : Bn mg) (D0 : Df K mg "bits_for" (topS 35) ["pieces"]) : Cal P w K mg base 1 "bits_for" (spF R_bits_for) :=
  mk_cal D0 sc35 (by decide) (fun ds d ⟨_, _, _, h, _⟩ => by rcases h with h | h <;> rw [h] <;> rfl) fun f cdv A outer s H E hr ds d ⟨ps, hp, hl, h1, h2⟩ => by
    subst h2
    rcases h1 with h1 | h1
    · subst h1
      refine hr_ret (xt (x_sum T rfl (ns := (ps.map fun p => 2 ^ p).map Int.ofNat) (rt (rl (o_lc [("piece", 1)] nD ps (fun _ => true) (fun p => nD (2 ^ p)) rfl sc35.nd (it_list (x_nm 0)) (by rfl) hl fun x hx => ⟨_, fun s H0 C cl fp => tg_fn 1 sc35.nd, .nil, fun _ s H0 C cl fp => x_shl1 (x_nm 1) (by have := hp x hx; omega)⟩)) ?_)) ?_) rfl
      · rw [filt_true, map_ofNat, List.map_map]
        rfl
      · rw [sum_ofNat]
        rfl
    · subst h1
      refine hr_ret (xt (x_sum T rfl (ns := (ps.map fun p => 2 ^ p).map Int.ofNat) (rt (rl (o_lc [("piece", 1)] nD ps (fun _ => true) (fun p => nD (2 ^ p)) rfl sc35.nd (it_tup (x_nm 0)) (by rfl) hl fun x hx => ⟨_, fun s H0 C cl fp => tg_fn 1 sc35.nd, .nil, fun _ s H0 C cl fp => x_shl1 (x_nm 1) (by have := hp x hx; omega)⟩)) ?_)) ?_) rfl
      · rw [filt_true, map_ofNat, List.map_map]
        rfl
      · rw [sum_ofNat]
        rfl
def R_pieces_for : List D → D → Prop := fun ds d => ∃ b : Nat, b < 2 ^ 64 ∧ ds = [nD b] ∧ d = nsD (pcsF b)
theorem sc36 : FnScope ["bits", "piece"] ["bits"] (defScope (topS 36)) := ⟨rfl, rfl, rfl, by decide +kernel, rfl, by decide +kernel, by decide +kernel⟩
theorem ok_pieces_for (T : Bn mg) (D0 : Df K mg "pieces_for" (topS 36) ["bits"]) : Cal P w K mg base 1 "pieces_for" (spF R_pieces_for) :=
  mk_cal D0 sc36 (by decide) (fun ds d ⟨_, _, h, _⟩ => by rw [h]; rfl) fun f cdv A outer s H E hr ds d ⟨b, hb, h1, h2⟩ => by
    subst h1 h2
    have hbl : Builtin.Int.intBits (b : Int) ≤ 64 := intBits_le_iff.mpr (by rw [Int.natAbs_natCast]; exact hb)
    refine hr_ret (x_tupleL T (rl (o_lc [("piece", 1)] nD (List.range (Builtin.Int.intBits (b : Int))) (fun p => b.testBit p) nD rfl sc36.nd (it_rN T (x_bits (x_nm 0)) (by rw [Int.toNat_natCast]) (by omega)) (by rfl) (by rw [List.length_range]; omega) fun x hx => ⟨_, fun s H0 C cl fp => tg_fn 1 sc36.nd, .one fun s H0 C cl fp => t_bit (x_nm 0) (x_nm 1), fun _ s H0 C cl fp => x_nm 1⟩))) ?_
    rw [pcs_bits hb]
    rfl
/-- the order's ties are pairs of its pieces -/
def PrsOk (n : Nat) (ts : List Pr) : Prop := n ≤ 60 ∧ (∀ p ∈ ts, p.1 < p.2 ∧ p.2 < n) ∧ ts.length ≤ 100000
theorem GoodO.prsOk {n : Nat} {ts : List Pr} (g : GoodO n ts) : PrsOk n ts := ⟨g.n60, g.prs, g.few⟩
def R_tops : List D → D → Prop := fun ds d => ∃ (n : Nat) (ts : List Pr), PrsOk n ts ∧ ds = [ordD n ts] ∧ d = rowD (topsF n ts)
theorem sc37 : FnScope ["order", "found", "low", "high", "piece"] ["order"] (defScope (topS 37)) := ⟨rfl, rfl, rfl, by decide +kernel, rfl, by decide +kernel, by decide +kernel⟩
theorem ok_tops (T : Bn mg) (D0 : Df K mg "tops_by_bits" (topS 37) ["order"]) : Cal P w K mg base 1 "tops_by_bits" (spF R_tops) :=
  mk_cal D0 sc37 (by decide) (fun ds d ⟨_, _, _, h, _⟩ => by rw [h]; rfl) fun f cdv A outer s H E hr ds d ⟨n, ts, ⟨hn, hp, hl⟩, h1, h2⟩ => by
    subst h1 h2
    refine hr_lc 1 [("piece", 4)] nD (List.range n) (fun _ => true) (fun p => nD (2 ^ p)) rfl sc37.nd (it_rN T (x_ixT (d := nD n) (x_nm 0).rd x_int rfl)) (by rfl) (by rw [List.length_range]; omega) (by rfl) (fun x hx => ⟨_, fun s H0 C cl fp => tg_fn 4 sc37.nd, .nil, fun _ s H0 C cl fp => x_shl1 (x_nm 4) (by have := List.mem_range.mp hx; omega)⟩) ?_
    rw [show ((List.range n).filter fun _ => true).map (fun p => nD (2 ^ p)) = ((List.range n).map fun p => 2 ^ p).map nD by rw [filt_true, List.map_map]; rfl]
    refine hr_fold prD ts.reverse (fun (g : List Nat) => [.pu (ordD n ts), .ow (.one (.L (g.map nD))), .un, .un, .un]) topStep ((List.range n).map fun p => 2 ^ p) (fun _ g => g.length = n) PassesOwn.never rfl (it_tup (xt (x_revT (x_ixT (d := tsD ts) (x_nm 0).rd x_int rfl).rd) (by rw [List.map_reverse]))) (.same (.same (.same (.same (.same .nil))))) (by simp) (fun pre p post g e hg => ?_) (fun hg => ?_)
    · have hpm := hp p (by have : p ∈ ts.reverse := by rw [e]; simp
                           simpa using this)
      refine ⟨by rw [topStep_len]; exact hg, _, [2, 3], tg_pr 2 3 rfl sc37.nd, ?_⟩
      refine hr_setL 1 (xs := g.map nD) (j := p.1) (d := nD (g.getD p.1 0 ||| g.getD p.2 0)) (x_op (rx (x_ixL (ds := g.map nD) (x_owL 1) (x_nm 2) (getD_atI (by rw [hg]; omega)))) (rx (x_ixL (ds := g.map nD) (x_owL 1) (x_nm 3) (getD_atI (by rw [hg]; omega)))) d_orN) (x_nm 2) (hr_nil _ (.same (.same (.un (.un (.same .nil))))) ?_) (by rw [List.length_map, hg]; omega)
      show _ = [Slot.pu (ordD n ts), .ow (.one (.L ((topStep g p).map nD))), .un, .un, .un]
      unfold topStep
      rw [List.map_set]
    · refine hr_frz 1 rfl ?_
      exact hr_ret (x_nm 1) rfl
def R_lefts : List D → D → Prop := fun ds d => ∃ (n : Nat) (ts : List Pr), PrsOk n ts ∧ FewOk n ts ∧ ds = [ordD n ts] ∧ d = rowD (leftsF n ts)
theorem sc38 : FnScope ["order", "lows", "low", "high", "found", "piece", "under", "_", "bits"] ["order"] (defScope (topS 38)) := ⟨rfl, rfl, rfl, by decide +kernel, rfl, by decide +kernel, by decide +kernel⟩
theorem lsDs (g : List (List Nat)) : (g.map lsB).map B.d = g.map rowD := by rw [List.map_map]; rfl
theorem low_bound {n : Nat} : ∀ {ts : List Pr} {f : List (List Nat)}, (∀ j, (row f j).length ≤ n) → ∀ j, (row (ts.foldl lowStep f) j).length ≤ n + ts.length
  | [], f, h, j => by simpa using h j
  | p :: ts, f, h, j => by
    rw [List.foldl_cons]
    have := low_bound (n := n + 1) (ts := ts) (f := lowStep f p) (fun i => by
      unfold lowStep
      rw [row_set]
      split
      · have := h p.2
        rw [List.length_append, List.length_singleton]
        omega
      · have := h i
        omega) j
    rw [List.length_cons]
    omega
theorem und_bound {n : Nat} {ts : List Pr} (hp : ∀ p ∈ ts, p.1 < p.2 ∧ p.2 < n) (k : Nat) : (∀ x ∈ undF ts k, x < n) ∧ (undF ts k).length ≤ ts.length := by
  refine ⟨fun x hx => ?_, ?_⟩
  · obtain ⟨q, hq, e⟩ := List.mem_map.mp hx
    have := hp q (List.mem_filter.mp hq).1
    omega
  · unfold undF
    rw [List.length_map]
    exact List.length_filter_le _ _
theorem ok_lefts (T : Bn mg) (hF : ∃ u, mg "FEW" = some u ∧ RelV (.int 2000) u) (D0 : Df K mg "lefts_by_bits" (topS 38) ["order"]) (c1 : Cal P w K mg base 1 "bits_for" (spF R_bits_for)) : Cal P w K mg base 2 "lefts_by_bits" (spF R_lefts) :=
  mk_cal D0 sc38 (by decide) (fun ds d ⟨_, _, _, _, h, _⟩ => by rw [h]; rfl) fun f cdv A outer s H E hr ds d ⟨n, ts, ⟨hn, hp, hl⟩, hfew, h1, h2⟩ => by
    subst h1 h2
    obtain ⟨u, hmF, ruF⟩ := hF
    refine hr_lcM 1 [("_", 7)] nD (List.range n) (fun _ => .L []) rfl sc38.nd (it_rN T (x_ixT (d := nD n) (x_nm 0).rd x_int rfl)) (by rfl) (by rw [List.length_range]; omega) (by rfl) (fun k hk => ⟨_, fun s H0 C cl fp => tg_fn 7 sc38.nd, fun s H0 C cl fp => o_lst a_nil⟩) ?_
    rw [show (List.range n).map (fun _ => B.L []) = (List.replicate n ([] : List Nat)).map lsB by rw [List.map_const', List.length_range, List.map_replicate]; rfl]
    refine hr_fold prD ts (fun (g : List (List Nat)) => [.pu (ordD n ts), .ow (.many (g.map lsB)), .un, .un, .un, .un, .un, .un, .un]) lowStep (List.replicate n []) (fun pre g => g.length = n ∧ ∀ j, (row g j).length ≤ pre.length) PassesOwn.never rfl (it_tup (x_ixT (d := tsD ts) (x_nm 0).rd x_int rfl)) (.same (.same (.same (.same (.same (.same (.same (.same (.same .nil))))))))) ⟨by simp, fun j => by rw [row_rep]; simp⟩ (fun pre p post g e hg => ?_) (fun hg => ?_)
    · have hpm := hp p (by rw [e]; simp)
      have hpl : pre.length < ts.length := by rw [e, List.length_append, List.length_cons]; omega
      refine ⟨⟨by rw [lowStep_len]; exact hg.1, fun j => ?_⟩, _, [2, 3], tg_pr 2 3 rfl sc38.nd, ?_⟩
      · unfold lowStep
        rw [row_set, List.length_append, List.length_singleton]
        split
        · have := hg.2 p.2
          rw [List.length_append, List.length_singleton]
          omega
        · have := hg.2 j
          omega
      · exact hr_appTr 1 (x_nm 3) (x_nm 2) (hr_nil _ (.same (.same (.un (.un (.same (.same (.same (.same (.same .nil))))))))) rfl) (by rw [hg.1]; omega) (by have := hg.2 p.2; omega)
    · refine hr_frzM 1 ?_
      rw [lsDs]
      refine hr_own 4 sc38.nd (o_lst (a_cons (x_int (i := ((0 : Nat) : Int))) a_nil)) ?_
      refine hr_frz 4 rfl ?_
      refine hr_fold nD (List.range n) (fun (g : List Nat) => [.pu (ordD n ts), .pu (.lst ((lowsF n ts).map rowD)), .un, .un, .pu (rowD g), .un, .un, .un, .un]) (lefStep ts) [0] (fun pre g => g = pre.foldl (lefStep ts) [0]) PassesOwn.never rfl (it_rN T (x_ixT (d := nD n) (x_nm 0).rd x_int rfl)) (.same (.same (.same (.same (.same (.same (.same (.same (.same .nil))))))))) rfl (fun pre k post g e hg => ?_) (fun hg => ?_)
      · obtain ⟨r1, r2, r3⟩ := range_pre e
        have hg2 : g = lefsU ts k := by rw [hg, r1, ← r2]; rfl
        have hgl : g.length ≤ 2000 := by rw [hg2]; exact hfew k (by omega)
        have hsl : (lefStep ts g k).length ≤ 2000 := by rw [hg2, ← lefsU_succ]; exact hfew (k + 1) (by omega)
        obtain ⟨u1, u2⟩ := und_bound hp k
        have hrow := row_low (fun p h => (hp p h).2) k
        have hfl := List.length_filter_le (fun b => decide (b &&& bitsF (undF ts k) = bitsF (undF ts k))) g
        refine ⟨by rw [List.foldl_append, ← hg]; rfl, _, [5], tg_fn 5 sc38.nd, ?_⟩
        refine hr_asg 6 sc38.nd (x_call c1 hr (by decide) (a_cons (x_ixL (d := rowD (undF ts k)) (x_nm 1).rd (x_nm 5) (by rw [← hrow]; exact atI_map rowD (row_get (by rw [lowsF_len]; exact r3)))) a_nil) ⟨undF ts k, fun x hx => by have := u1 x hx; omega, by omega, .inl rfl, rfl⟩) ?_
        refine hr_own 4 sc38.nd (o_op (x_nm 4).rd (rl (o_lc [("bits", 8)] nD g (fun b => decide (b &&& bitsF (undF ts k) = bitsF (undF ts k))) (fun b => nD (b ||| 2 ^ k)) rfl sc38.nd (it_list (x_nm 4)) (by rfl) (by omega) fun b hb => ⟨_, fun s H0 C cl fp => tg_fn 8 sc38.nd, .one fun s H0 C cl fp => t_cmp (rx (x_op (x_nm 8).rd (x_nm 6).rd d_andN)) (x_nm 6).rd d_eqN, fun _ s H0 C cl fp => x_op (x_nm 8).rd (rx (x_shl1 (x_nm 5) (by omega))) d_orN⟩)) (o_cat (by rw [List.length_map, List.length_map]; omega))) ?_
        refine hr_frz 4 rfl ?_
        refine hr_eq (Γ' := [.pu (ordD n ts), .pu (.lst ((lowsF n ts).map rowD)), .un, .un, .pu (rowD (lefStep ts g k)), .pu (nD k), .pu (nD (bitsF (undF ts k))), .un, .un]) ?_ ?_
        · refine hr_ifF (EvT.to (t_cmp (rx (x_lenL T (ds := (lefStep ts g k).map nD) (x_nm 4).rd)) (rx (x_gi hmF ruF)) d_gt) ?_) ?_
          · rw [List.length_map]
            exact decide_eq_false (by omega)
          · exact hr_nil _ (.same (.same (.same (.same (.same (.un (.un (.same (.same .nil))))))))) rfl
        · show [Slot.pu (ordD n ts), .pu (.lst ((lowsF n ts).map rowD)), .un, .un, .pu (.lst (g.map nD ++ (g.filter fun b => decide (b &&& bitsF (undF ts k) = bitsF (undF ts k))).map fun b => nD (b ||| 2 ^ k))), .pu (nD k), .pu (nD (bitsF (undF ts k))), .un, .un] = _
          unfold rowD lefStep
          rw [List.map_append, List.map_map]
          rfl
      · refine hr_ret (xl (xt2 (o_sorted T (ns := (lefsU ts n).map Int.ofNat) (ms := (leftsF n ts).map Int.ofNat) (rt (x_nm 4 (d := rowD (lefsU ts n))).rd (by unfold rowD; rw [map_ofNat])) ((srt_perm _).map _) (by
          rw [List.pairwise_map]
          exact (srt_sorted _).imp fun h => Int.ofNat_le.mpr h)) (map_ofNat _))) rfl
def R_start_in : List D → D → Prop := fun ds d => ∃ (n : Nat) (ts : List Pr) (ps : List Nat) (x y : D), GoodO n ts ∧ FewOk n ts ∧ LeftOk n ts ps ∧ Okd 3 x ∧ tupD x = ordD n ts ∧ Okd 1 y ∧ tupD y = nsD ps ∧ ds = [x, y] ∧ d = .tup [ordD n ts, nD (bitsF ps)]
theorem sc40 : FnScope ["order", "left", "own", "lot"] ["order", "left"] (defScope (topS 40)) := ⟨rfl, rfl, rfl, by decide +kernel, rfl, by decide +kernel, by decide +kernel⟩
theorem ok_start_in (D0 : Df K mg "start_in" (topS 40) ["order", "left"]) (c1 : Cal P w K mg base 6 "sure_order" (spF R_sure_order)) (c2 : Cal P w K mg base 5 "sure_left" (spF R_sure_left)) (c3 : Cal P w K mg base 2 "lefts_by_bits" (spF R_lefts)) (c4 : Cal P w K mg base 1 "bits_for" (spF R_bits_for)) : Cal P w K mg base 7 "start_in" (spF R_start_in) :=
  mk_cal D0 sc40 (by decide) (fun ds d ⟨_, _, _, _, _, _, _, _, _, _, _, _, h, _⟩ => by rw [h]; rfl) fun f cdv A outer s H E hr ds d ⟨n, ts, ps, x, y, g, hf, hl, hx, ex, hy, ey, h1, h2⟩ => by
    subst h1 h2
    refine hr_asg 2 sc40.nd (x_call c1 hr (by decide) (a_cons (x_nm 0) a_nil) ⟨x, n, ts, g, hx, ex, rfl, rfl⟩) ?_
    refine hr_asg 3 sc40.nd (x_call c2 hr (by decide) (a_cons (x_nm 2) (a_cons (x_nm 1) a_nil)) ⟨n, ts, ps, y, hl, g.few, hy, ey, rfl, rfl⟩) ?_
    refine hr_expr (x_call c3 hr (by decide) (a_cons (x_nm 2) a_nil) ⟨n, ts, g.prsOk, hf, rfl, rfl⟩) ?_
    exact hr_ret (x_tup (a_cons (x_nm 2) (a_cons (x_call c4 hr (by decide) (a_cons (x_nm 3) a_nil) ⟨ps, fun z hz => by have := hl.pc.1 z hz; have := g.n60; omega, by have := hl.pc.2; omega, .inr rfl, rfl⟩) a_nil)) (Nat.le_of_ble_eq_true rfl)) rfl
end
end G
-- P8
set_option maxHeartbeats 4000000
/-! P8: replies.py, first part -/
namespace G
open PySem PySem.Spec PyProof.Rows L2
/-- put_longer's promise: the first dict changes -/
def spPL : Sp := fun vs H Q _ => ∃ (W : Wd) (a : Addr) (v : V) (m ls : List Pr) (k : Nat), W.H = H ∧ vs = [.ref a, v] ∧ W.F a = none ∧ W.H a = some (cnO m) ∧ Rp W.F (fdD ls) v ∧ KeyOk (k + 1) m ∧ KeyOk k ls ∧ k ≤ 5000 ∧ ∀ W2 : Wd, Le (some a) W W2 → W2.H a = some (cnO (putL m ls)) → Q .non W2.H
section
variable {X : Cx} {Γ Γ' : Ctx} {e a b c tg : Expr} {rest : List Stmt} {pos p pos' apos cpos px p1 p2 : Pos} {d d1 : D} {P : Post}
/-- put_longer(sums, e) -/
theorem hr_callPL (i : Nat) {x : Str} {m ls : List Pr} {k j kk : Nat} (c : Cal X.prog X.w X.K X.mg X.base k "put_longer" spPL) (hr : Room j X.A) (hk : k ≤ j) (he : EvX X e Γ (fdD ls)) (h1 : KeyOk (kk + 1) m) (h2 : KeyOk kk ls) (h3 : kk ≤ 5000) (kr : Hr X rest (Γ.set i (.ow (.one (cnB (putL m ls))))) P)
    (hi : Γ[i]? = some (.ow (.one (cnB m))) := by rfl) (hN : X.N[i]? = some x := by rfl) (hv : Vis X.env.scope x := by first | exact Or.inl rfl | exact Or.inr (Or.inl rfl) | exact Or.inr (Or.inr rfl))
    (hd : (x == ("__debug__" : Str)) = false := by decide) (hcd : (x == ("__classdict__" : Str)) = false := by decide) (hg : Gl X "put_longer" := by rfl) (hst : starEach [.Name x px, e] X.env = (false, eval (.Name x px) X.env) :: starEach [e] X.env := by rfl) (hst2 : starEach [e] X.env = (false, eval e X.env) :: starEach [] X.env := by rfl) (hpl : (backTo cpos (starEach [e] X.env)).any (·.1) = false := by rfl)
    (hsw : swapsWith (.Call (.Name "put_longer" p) [.Name x px, e] [] cpos) none pos.line X.env = pure false := by rfl) : Hr X (.Expr (.Call (.Name "put_longer" p) [.Name x px, e] [] cpos) pos :: rest) Γ P := hr_step (fun t W0 W σ l E De q => by
  obtain ⟨f, fd, ps, F, hm, kp, bd⟩ := c.ex
  obtain ⟨p0, _, hσ, _⟩ := E.mutLe (b' := .L []) l hi
  refine wS_of (ps_expr (pe_call F (hr.mono hk) hg hm kp bd .nil pass0 (pa_cons (pe_var hN hv hd hcd) (pa_cons (pe_w X e) pa_nil hst2) hst) (by decide) hst hpl) hsw) ⟨_, hσ, he t W0 W σ l E _ fun v W1 e1 r1 => ?_⟩
  obtain ⟨p', o, hσ', hH, hF, ⟨kvs, rfl, hk1, hk2⟩, up⟩ := (E.ext e1).mutLe (b' := cnB (putL m ls)) (l.ext E.tv e1) hi
  rw [hσ] at hσ'
  cases hσ'
  have ek := cn_ints hk1 hk2
  subst ek
  refine ⟨W1, p0, v, m, ls, kk, rfl, rfl, hF, hH, r1, h1, h2, h3, fun W2 lw hW => ?_⟩
  obtain ⟨l2, E2⟩ := up W2 _ lw hW (br_cn _ _)
  exact q σ W2 l2 (e1.f.trans lw.f) E2) kr
end
section
variable {P : Program} {w : World} {K : PySem.W.Frag} {mg : Str → Option Value} {base : Heap}
def R_behind_play : List D → D → Prop := fun ds d => ∃ (n : Nat) (ts : List Pr) (ps : List Nat) (x y : D), GoodO n ts ∧ FewOk n ts ∧ PcOk n ps ∧ FreshP ts ps ∧ Okd 3 x ∧ tupD x = ordD n ts ∧ Okd 1 y ∧ tupD y = nsD ps ∧ ds = [x, y] ∧ d = .tup [ordD n ts, nsD ps, nD (bitsF (behF n ts ps))]
theorem sc42 : FnScope ["order", "play", "own", "trip"] ["order", "play"] (defScope (topS 42)) := ⟨rfl, rfl, rfl, by decide +kernel, rfl, by decide +kernel, by decide +kernel⟩
theorem behF_ok (n : Nat) (ts : List Pr) (ps : List Nat) : (∀ x ∈ behF n ts ps, x < n) ∧ (behF n ts ps).length ≤ n := by
  refine ⟨fun x hx => ?_, ?_⟩
  · unfold behF at hx
    exact List.mem_range.mp (List.mem_filter.mp hx).1
  · have := List.length_filter_le (fun x => !decide (x ∈ goneF ts ps)) (List.range n)
    rw [List.length_range] at this
    exact this
theorem ok_behind_play (D0 : Df K mg "behind_play" (topS 42) ["order", "play"]) (c1 : Cal P w K mg base 6 "sure_order" (spF R_sure_order)) (c2 : Cal P w K mg base 5 "sure_play" (spF R_sure_play)) (c3 : Cal P w K mg base 2 "lefts_by_bits" (spF R_lefts)) (c4 : Cal P w K mg base 1 "bits_for" (spF R_bits_for)) (c5 : Cal P w K mg base 2 "behind_in" (spF R_behind_in)) : Cal P w K mg base 7 "behind_play" (spF R_behind_play) :=
  mk_cal D0 sc42 (by decide) (fun ds d ⟨_, _, _, _, _, _, _, _, _, _, _, _, _, h, _⟩ => by rw [h]; rfl) fun f cdv A outer s H E hr ds d ⟨n, ts, ps, x, y, g, hf, hp, hfr, hx, ex, hy, ey, h1, h2⟩ => by
    subst h1 h2
    have hn := g.n60
    have hp2 : ∀ p ∈ ts, p.2 < n := fun p h => (g.prs p h).2
    refine hr_asg 2 sc42.nd (x_call c1 hr (by decide) (a_cons (x_nm 0) a_nil) ⟨x, n, ts, g, hx, ex, rfl, rfl⟩) ?_
    refine hr_asg 3 sc42.nd (x_call c2 hr (by decide) (a_cons (x_nm 2) (a_cons (x_nm 1) a_nil)) ⟨n, ts, ps, y, hn, hp2, hp, hfr, hy, ey, rfl, rfl⟩) ?_
    refine hr_expr (x_call c3 hr (by decide) (a_cons (x_nm 2) a_nil) ⟨n, ts, g.prsOk, hf, rfl, rfl⟩) ?_
    obtain ⟨b1, b2⟩ := behF_ok n ts ps
    exact hr_ret (x_tup (a_cons (x_nm 2) (a_cons (x_nm 3) (a_cons (x_call c4 hr (by decide) (a_cons (x_call c5 hr (by decide) (a_cons (x_nm 2) (a_cons (x_nm 3) a_nil)) ⟨n, ts, ps, hn, hp2, hp, rfl, rfl⟩) a_nil) ⟨behF n ts ps, fun z hz => by have := b1 z hz; omega, by omega, .inr rfl, rfl⟩) a_nil))) (Nat.le_of_ble_eq_true rfl)) rfl
def R_counts : List D → D → Prop := fun ds d => ∃ (n : Nat) (ts : List Pr), PrsOk n ts ∧ FewOk n ts ∧ CloOk n ts ∧ ds = [ordD n ts] ∧ d = cnD (cntF n ts)
theorem sc43 : FnScope ["order", "tops", "found", "bits", "piece"] ["order"] (defScope (topS 43)) := ⟨rfl, rfl, rfl, by decide +kernel, rfl, by decide +kernel, by decide +kernel⟩
theorem lefts_len {n : Nat} {ts : List Pr} (h : FewOk n ts) : (leftsF n ts).length ≤ 2000 := by
  unfold leftsF
  rw [(srt_perm _).length_eq]
  exact h n (Nat.le_refl _)
theorem ok_counts (T : Bn mg) (D0 : Df K mg "counts_in" (topS 43) ["order"]) (c1 : Cal P w K mg base 1 "tops_by_bits" (spF R_tops)) (c2 : Cal P w K mg base 2 "lefts_by_bits" (spF R_lefts)) (c3 : Cal P w K mg base 1 "pieces_for" (spF R_pieces_for)) : Cal P w K mg base 3 "counts_in" (spF R_counts) :=
  mk_cal D0 sc43 (by decide) (fun ds d ⟨_, _, _, _, _, h, _⟩ => by rw [h]; rfl) fun f cdv A outer s H E hr ds d ⟨n, ts, hp, hfew, hc, h1, h2⟩ => by
    subst h1 h2
    have hll := lefts_len hfew
    refine hr_asgT rfl (k_x (x_call c1 hr (by decide) (a_cons (x_nm 0) a_nil) ⟨n, ts, hp, rfl, rfl⟩) (k_o o_dct0 k_nil)) (tk_cons 1 sc43.nd (tk_cons 2 sc43.nd tk_nil)) ?_
    refine hr_fold nD (leftsF n ts) (fun (m : List Pr) => [.pu (ordD n ts), .pu (rowD (topsF n ts)), .ow (.one (cnB m)), .un, .un]) (cntStep (topsF n ts)) [] (fun pre m => m.map (·.1) = pre) PassesOwn.never rfl (it_list (x_call c2 hr (by decide) (a_cons (x_nm 0) a_nil) ⟨n, ts, hp, hfew, rfl, rfl⟩)) (.same (.same (.same (.same (.same .nil))))) rfl (fun pre b post m e hm => ?_) (fun hm => ?_)
    · have hsub := hc.sub pre b post e
      have hb60 := hc.lt b (by rw [e]; simp)
      have hbn : b ∉ m.map (·.1) := by
        rw [hm]
        have := hc.asc
        rw [e] at this
        intro z
        have := (List.pairwise_append.mp this).2.2 b z b List.mem_cons_self
        omega
      have hml : m.length ≤ 2000 := by
        have h3 := congrArg List.length hm
        have h4 := congrArg List.length e
        rw [List.length_map] at h3
        rw [List.length_append, List.length_cons] at h4
        omega
      refine ⟨by unfold cntStep; rw [List.map_append, hm]; rfl, _, [3], tg_fn 3 sc43.nd, ?_⟩
      refine hr_setD 2 (ks := m.map fun x => (x.1 : Int)) (ds := m.map fun x => nD x.2) (d := nD (cntV (topsF n ts) m b)) hr.u1 (x_ifX (k := decide (0 < b)) (t_cmp (x_nm 3).rd (x_int (i := ((0 : Nat) : Int))).rd d_gtN) (fun h => ?_) (fun h => ?_)) (x_nm 3) (hr_nil _ (.same (.same (.same (.un (.same .nil))))) ?_) ?_ (by rw [List.length_map]; omega)
      · refine xt (x_sum T rfl (ns := ((pcsF b).map fun p => (m.lookup (mns b ((topsF n ts).getD p 0))).getD 0).map Int.ofNat) (rt (rl (o_lc [("piece", 4)] nD (pcsF b) (fun _ => true) (fun p => nD ((m.lookup (mns b ((topsF n ts).getD p 0))).getD 0)) rfl sc43.nd (it_tup (x_call c3 hr (by decide) (a_cons (x_nm 3) a_nil) ⟨b, Nat.lt_of_lt_of_le hb60 (by decide), rfl, rfl⟩)) (by rfl) (by have := pcs_len b; omega) fun p hp2 => ⟨_, fun s H0 C cl fp => tg_fn 4 sc43.nd, .nil, fun _ s H0 C cl fp => ?_⟩)) ?_)) ?_
        · obtain ⟨q1, q2⟩ := hsub p hp2
          rw [← hm] at q2
          obtain ⟨v, hv⟩ := lookup_mem q2
          exact x_ixD (by exact hr.u1) (x_owD 2) (x_mns (x_nm 3).rd (x_ixL (x_nm 1).rd (x_nm 4) (getD_atI (by rw [topsF_len]; exact q1)))) (by rw [dget_cn, hv]; rfl)
        · rw [filt_true, map_ofNat, List.map_map]
          rfl
        · rw [sum_ofNat]
          unfold cntV
          rw [if_pos (of_decide_eq_true h)]
          rfl
      · refine xt (x_int (i := ((1 : Nat) : Int))) ?_
        unfold cntV
        rw [if_neg (of_decide_eq_false h)]
        rfl
      · show _ = [Slot.pu (ordD n ts), .pu (rowD (topsF n ts)), .ow (.one (cnB (cntStep (topsF n ts) m b))), .un, .un]
        rw [dput_cn hbn]
        rfl
      · have := ofNat_nodup (ks := m.map (·.1)) (by
          rw [hm]
          have := hc.asc
          rw [e] at this
          exact ((List.pairwise_append.mp this).1).imp fun h => Nat.ne_of_lt h)
        rw [List.map_map] at this
        exact this
    · refine hr_frz 2 rfl ?_
      exact hr_ret (x_nm 2) rfl
theorem sc44 : FnScope ["sums", "lengths", "length"] ["sums", "lengths"] (defScope (topS 44)) := ⟨rfl, rfl, rfl, by decide +kernel, rfl, by decide +kernel, by decide +kernel⟩
theorem ok_put_longer (D0 : Df K mg "put_longer" (topS 44) ["sums", "lengths"]) : Cal P w K mg base 1 "put_longer" spPL := by
  obtain ⟨f, fd, F, hm, hb⟩ := D0.ex
  refine ⟨f, fd, _, F.ok sc44 (fun vs H Q E h => ?_) (fun cdv A outer s H vs Q E hr h => ?_), hm, F.kp, hb⟩
  · obtain ⟨W, a, v, m, ls, k, _, rfl, _⟩ := h
    rfl
  · obtain ⟨W, a, v, m, ls, kk, rfl, rfl, hF, hH, hv, k1, k2, k3, hq⟩ := h
    refine ⟨_, pss_w _ _, (?_ : Hr (bdX P w K mg base ["sums", "lengths", "length"] "put_longer" (topS 44) f cdv A outer s W.H E) (defBody (topS 44)) [.vol (· = cnO m), .pu (fdD ls), .un] { nx := fun Γ' => Γ'[0]? = some (.vol (· = cnO (putL m ls))) }) (some a) W W _ trivial (.refl _ _) ?_ _ (fun σ2 W2 Γ2 l2 _ E2 e => ?_) (fun _ _ _ _ _ _ _ _ _ z => z.elim) (fun _ _ _ _ _ _ z => z.elim) (fun _ _ _ _ _ _ z => z.elim)⟩
    · refine hr_fold (fun x : Pr => nD x.1) ls (fun (m2 : List Pr) => [.vol (· = cnO m2), .pu (fdD ls), .un]) putStep m (fun _ m2 => KeyOk (kk + 1) m2) PassesOwn.never rfl ?_ (.same (.same (.same .nil))) k1 (fun pre x post m2 e hm2 => ?_) (fun hm2 => ?_)
      · have q := it_frd (tg := .Name "length" ⟨0, 0, 0, 0⟩) (X := bdX P w K mg base ["sums", "lengths", "length"] "put_longer" (topS 44) f cdv A outer s W.H E) (Γ := [.vol (· = cnO m), .pu (fdD ls), .un]) (e := .Name "lengths" ⟨0, 0, 0, 0⟩) (x_nm 1)
        have e : (ls.map fun x : Pr => nD x.1) = (ls.map fun x => (x.1 : Int)).map D.int := by rw [List.map_map]; rfl
        rw [e]
        exact it_frd (x_nm 1)
      · have hx : x ∈ ls := by rw [e]; simp
        have hxk := k2.2 x.1 (List.mem_map_of_mem hx)
        refine ⟨putC_ok hm2 (by omega), _, [2], tg_fn 2 sc44.nd, ?_⟩
        refine hr_setV 0 (m := m2) (k := x.1 + 1) (v := (m2.lookup (x.1 + 1)).getD 0 + x.2) hr.u1 (x_op (d1 := nD ((m2.lookup (x.1 + 1)).getD 0)) (d2 := nD x.2) (rx (xt (x_get2 (i := ((x.1 + 1 : Nat) : Int)) (d := nD 0) hr.u1 (x_volD 0) (x_op (x_nm 2).rd (x_int (i := ((1 : Nat) : Int))).rd d_addN) (x_int (i := ((0 : Nat) : Int)))) ?_)) (rx (x_ixD hr.u1 (rx (x_fd (x_nm 1))) (x_nm 2) ?_)) d_addN) (x_op (x_nm 2).rd (x_int (i := ((1 : Nat) : Int))).rd d_addN) ?_ hm2.1 (by have := hm2.len; omega)
        · rw [dget_cn]
          cases m2.lookup (x.1 + 1) <;> rfl
        · rw [dget_cn, lookup_nodup k2.1 hx]
          rfl
        · exact hr_nil _ (.same (.same (.un .nil))) rfl
      · exact hr_nil _ (.refl _) rfl
    · refine ⟨rfl, ⟨fun _ _ => False, fun _ _ _ z _ => z.elim, fun _ _ z => z.elim, fun i s hs => ?_⟩, fun b hb => ?_, fun b hb => ?_⟩
      · match i, hs with
        | 0, hs =>
          cases hs
          exact ⟨a, cnO m, rfl, rfl, hH, rfl⟩
        | 1, hs =>
          cases hs
          exact ⟨v, rfl, hv⟩
        | 2, hs =>
          cases hs
          trivial
      · cases hb
        exact ⟨hF, _, hH⟩
      · cases hb
        exact ⟨hF, _, hH⟩
    · obtain ⟨a', o, _, ta, h3, h4⟩ := E2.vol e
      cases ta
      subst h4
      exact hq W2 l2 h3
/-- found: bits to locked dicts -/
def lnB (M : List (Nat × List Pr)) : B := .Dc (M.map fun x => (x.1 : Int)) (M.map fun x => fdD x.2)
theorem dget_ln (k : Nat) : ∀ m : List (Nat × List Pr), dget (m.map fun x => (x.1 : Int)) (m.map fun x => fdD x.2) (k : Int) = (m.lookup k).map fdD
  | [] => rfl
  | x :: m => by
    have ih := dget_ln k m
    rw [List.map_cons, List.map_cons]
    unfold dget
    rw [List.lookup_cons]
    by_cases e : x.1 = k
    · have e2 : (k == x.1) = true := by simpa using e.symm
      rw [if_pos (by rw [e]), e2]
      rfl
    · have e2 : (k == x.1) = false := by simpa using fun z => e z.symm
      rw [if_neg (show ¬ (x.1 : Int) = (k : Int) from fun z => e (Int.ofNat.inj z)), e2, ih]
theorem dput_ln {k : Nat} {v : List Pr} {m : List (Nat × List Pr)} (h : k ∉ m.map (·.1)) : dput (m.map fun x => (x.1 : Int)) (m.map fun x => fdD x.2) (k : Int) (fdD v) = ((m ++ [(k, v)]).map (fun x => (x.1 : Int)), (m ++ [(k, v)]).map fun x => fdD x.2) := by
  rw [dput_new (fun z => h ?_) (by rw [List.length_map, List.length_map]), List.map_append, List.map_append]
  · rfl
  · obtain ⟨x, hx, e⟩ := List.mem_map.mp z
    have e2 : x.1 = k := Int.ofNat.inj e
    rw [← e2]
    exact List.mem_map_of_mem hx
def R_lengths : List D → D → Prop := fun ds d => ∃ (n : Nat) (ts : List Pr) (start : Nat), PrsOk n ts ∧ FewOk n ts ∧ CloOk n ts ∧ start ∈ leftsF n ts ∧ ds = [ordD n ts, nD start] ∧ d = fdD (((lenF n ts start).lookup start).getD [])
theorem sc45 : FnScope ["order", "start", "tops", "found", "bits", "sums", "piece", "own"] ["order", "start"] (defScope (topS 45)) := ⟨rfl, rfl, rfl, by decide +kernel, rfl, by decide +kernel, by decide +kernel⟩
theorem ok_lengths (T : Bn mg) (D0 : Df K mg "lengths_in" (topS 45) ["order", "start"]) (c1 : Cal P w K mg base 1 "tops_by_bits" (spF R_tops)) (c2 : Cal P w K mg base 2 "lefts_by_bits" (spF R_lefts)) (c3 : Cal P w K mg base 1 "pieces_for" (spF R_pieces_for)) (c4 : Cal P w K mg base 1 "put_longer" spPL) : Cal P w K mg base 3 "lengths_in" (spF R_lengths) :=
  mk_cal D0 sc45 (by decide) (fun ds d ⟨_, _, _, _, _, _, _, h, _⟩ => by rw [h]; rfl) fun f cdv A outer s H E hr ds d ⟨n, ts, sta, hp, hfew, hc, hst, h1, h2⟩ => by
    subst h1 h2
    have hll := lefts_len hfew
    have hil : (lefIn n ts sta).length ≤ 2000 := Nat.le_trans (List.length_filter_le _ _) hll
    have hasc : (lefIn n ts sta).Pairwise (· < ·) := hc.asc.filter _
    refine hr_par 2 3 rfl sc45.nd (k_x (x_call c1 hr (by decide) (a_cons (x_nm 0) a_nil) ⟨n, ts, hp, rfl, rfl⟩) (k_o o_dct0 k_nil)) ?_
    refine hr_fold nD (lefIn n ts sta) (fun (M : List (Nat × List Pr)) => [.pu (ordD n ts), .pu (nD sta), .pu (rowD (topsF n ts)), .ow (.one (lnB M)), .un, .un, .un, .un]) (lenStep (topsF n ts)) [] (fun pre M => M.map (·.1) = pre ∧ ∀ x ∈ M, KeyOk (pre.length + 1) x.2) PassesOwn.never rfl (it_list (xl (o_lc [("own", 7)] nD (leftsF n ts) (fun b => decide (mns b sta = 0)) nD rfl sc45.nd (it_list (x_call c2 hr (by decide) (a_cons (x_nm 0) a_nil) ⟨n, ts, hp, hfew, rfl, rfl⟩)) (by rfl) (by omega) fun b hb => ⟨_, fun s H0 C cl fp => tg_fn 7 sc45.nd, .one fun s H0 C cl fp => t_cmp (rx (x_mns (x_nm 7).rd (x_nm 1))) (x_int (i := ((0 : Nat) : Int))).rd d_eqN, fun _ s H0 C cl fp => x_nm 7⟩))) (.same (.same (.same (.same (.same (.same (.same (.same .nil)))))))) ⟨rfl, fun _ h => by cases h⟩ (fun pre b post M e hM => ?_) (fun hM => ?_)
    · have hsub := lefIn_sub hc e
      have hbm : b ∈ lefIn n ts sta := by rw [e]; simp
      have hb60 := hc.lt b (List.mem_filter.mp hbm).1
      have hbn : b ∉ M.map (·.1) := by
        rw [hM.1]
        rw [e] at hasc
        intro z
        have := (List.pairwise_append.mp hasc).2.2 b z b List.mem_cons_self
        omega
      have hpl : pre.length < 2000 := by
        have h4 := congrArg List.length e
        rw [List.length_append, List.length_cons] at h4
        omega
      have hml : M.length ≤ 2000 := by
        have h3 := congrArg List.length hM.1
        rw [List.length_map] at h3
        omega
      have hlk : ∀ p ∈ pcsF b, ∃ v, M.lookup (mns b ((topsF n ts).getD p 0)) = some v ∧ KeyOk (pre.length + 1) v := fun p hp2 => by
        obtain ⟨_, q2⟩ := hsub p hp2
        rw [← hM.1] at q2
        obtain ⟨v, h3, x, hx, h4, _⟩ := lookupL q2
        exact ⟨v, h3, h4 ▸ hM.2 x hx⟩
      have h00 : KeyOk (pre.length + 2) (if b = 0 then [(0, 1)] else []) := by
        split
        · exact ⟨by simp, by simp⟩
        · exact ⟨.nil, fun _ h => by cases h⟩
      have hkV : ∀ qs : List Nat, (∀ p ∈ qs, p ∈ pcsF b) → KeyOk (pre.length + 2) (qs.foldl (lenIn (topsF n ts) M b) (if b = 0 then [(0, 1)] else [])) := fun qs hqs =>
        foldl_inv (KeyOk (pre.length + 2)) qs _ h00 fun m p hp2 hm => by
          obtain ⟨v, h3, h4⟩ := hlk p (hqs p hp2)
          unfold lenIn
          rw [h3]
          exact putL_ok hm h4
      refine ⟨⟨by unfold lenStep; rw [List.map_append, hM.1]; rfl, fun x hx => ?_⟩, _, [4], tg_fn 4 sc45.nd, ?_⟩
      · rw [List.length_append, List.length_singleton]
        unfold lenStep at hx
        rcases List.mem_append.mp hx with z | z
        · exact (hM.2 x z).mono (by omega)
        · have : x = (b, lenV (topsF n ts) M b) := by simpa using z
          rw [this]
          exact hkV _ fun _ h => h
      · refine hr_own 5 sc45.nd (x_ifO (k := decide (b = 0)) (o := cnB (if b = 0 then [(0, 1)] else [])) (t_cmp (x_nm 4).rd (x_int (i := ((0 : Nat) : Int))).rd d_eqN) (fun h => ?_) (fun h => ?_)) ?_
        · rw [if_pos (of_decide_eq_true h)]
          exact o_dct1 (m := 0) (n := 1)
        · rw [if_neg (of_decide_eq_false h)]
          exact o_dct0
        · refine hr_fold nD (pcsF b) (fun (m : List Pr) => [.pu (ordD n ts), .pu (nD sta), .pu (rowD (topsF n ts)), .ow (.one (lnB M)), .pu (nD b), .ow (.one (cnB m)), .un, .un]) (lenIn (topsF n ts) M b) (if b = 0 then [(0, 1)] else []) (fun _ m => KeyOk (pre.length + 2) m) PassesOwn.never rfl (it_tup (x_call c3 hr (by decide) (a_cons (x_nm 4) a_nil) ⟨b, Nat.lt_of_lt_of_le hb60 (by decide), rfl, rfl⟩)) (.same (.same (.same (.same (.same (.same (.same (.same .nil)))))))) h00 (fun pre2 p post2 m e2 hm => ?_) (fun hm => ?_)
          · have hp2 : p ∈ pcsF b := by rw [e2]; simp
            obtain ⟨v, h3, h4⟩ := hlk p hp2
            have hps := (hsub p hp2).1
            have e3 : lenIn (topsF n ts) M b m p = putL m v := by unfold lenIn; rw [h3]; rfl
            refine ⟨by rw [e3]; exact putL_ok hm h4, _, [6], tg_fn 6 sc45.nd, ?_⟩
            refine hr_callPL 5 (m := m) (ls := v) (kk := pre.length + 1) c4 hr (by decide) (x_ixD (by exact hr.u1) (x_owD 3) (x_mns (x_nm 4).rd (x_ixL (x_nm 2).rd (x_nm 6) (getD_atI (by rw [topsF_len]; exact hps)))) (by rw [dget_ln, h3]; rfl)) hm h4 (by omega) (hr_nil _ (.same (.same (.same (.same (.same (.same (.un (.same .nil)))))))) ?_)
            show _ = [Slot.pu (ordD n ts), .pu (nD sta), .pu (rowD (topsF n ts)), .ow (.one (lnB M)), .pu (nD b), .ow (.one (cnB (lenIn (topsF n ts) M b m p))), .un, .un]
            rw [e3]
          · refine hr_frzL 5 rfl ?_
            refine hr_setD 3 (ks := M.map fun x => (x.1 : Int)) (ds := M.map fun x => fdD x.2) (d := fdD (lenV (topsF n ts) M b)) hr.u1 (x_nm 5) (x_nm 4) (hr_nil _ (.same (.same (.same (.same (.un (.un (.un (.same .nil)))))))) ?_) ?_ (by rw [List.length_map]; omega)
            · show _ = [Slot.pu (ordD n ts), .pu (nD sta), .pu (rowD (topsF n ts)), .ow (.one (lnB (lenStep (topsF n ts) M b))), .un, .un, .un, .un]
              rw [dput_ln hbn]
              rfl
            · have := ofNat_nodup (ks := M.map (·.1)) (by
                rw [hM.1]
                rw [e] at hasc
                exact ((List.pairwise_append.mp hasc).1).imp fun h => Nat.ne_of_lt h)
              rw [List.map_map] at this
              exact this
    · have hin : sta ∈ (lenF n ts sta).map (·.1) := by
        unfold lenF
        rw [len_keys]
        refine List.mem_append_right _ (List.mem_filter.mpr ⟨hst, decide_eq_true ?_⟩)
        refine Nat.eq_of_testBit_eq fun i => ?_
        rw [mns_bit, Nat.zero_testBit]
        cases sta.testBit i <;> rfl
      obtain ⟨v, hv, _⟩ := lookupL hin
      refine hr_ret (x_ixD (by exact hr.u1) (x_owD 3) (x_nm 1) (show _ = some (fdD (((lenF n ts sta).lookup sta).getD [])) from ?_)) rfl
      show dget ((lenF n ts sta).map fun x => (x.1 : Int)) ((lenF n ts sta).map fun x => fdD x.2) (sta : Int) = _
      rw [dget_ln, hv]
      rfl
/-- an order, a left of it, as they are handed in -/
structure InOk (n : Nat) (ts : List Pr) (ps : List Nat) (x y : D) : Prop where
  go : GoodO n ts
  fe : FewOk n ts
  cl : CloOk n ts
  le : LeftOk n ts ps
  sm : bitsF ps ∈ leftsF n ts
  x3 : Okd 3 x
  xe : tupD x = ordD n ts
  y1 : Okd 1 y
  ye : tupD y = nsD ps
def R_how_many : List D → D → Prop := fun ds d => ∃ (n : Nat) (ts : List Pr) (ps : List Nat) (x y : D), InOk n ts ps x y ∧ ds = [x, y] ∧ d = nD (((cntF n ts).lookup (bitsF ps)).getD 0)
theorem sc46 : FnScope ["order", "left", "own", "start"] ["order", "left"] (defScope (topS 46)) := ⟨rfl, rfl, rfl, by decide +kernel, rfl, by decide +kernel, by decide +kernel⟩
theorem ok_how_many (D0 : Df K mg "how_many_plays" (topS 46) ["order", "left"]) (c1 : Cal P w K mg base 7 "start_in" (spF R_start_in)) (c2 : Cal P w K mg base 3 "counts_in" (spF R_counts)) : Cal P w K mg base 8 "how_many_plays" (spF R_how_many) :=
  mk_cal D0 sc46 (by decide) (fun ds d ⟨_, _, _, _, _, _, h, _⟩ => by rw [h]; rfl) fun f cdv A outer s H E hr ds d ⟨n, ts, ps, x, y, g, h1, h2⟩ => by
    subst h1 h2
    refine hr_unp rfl (x_call c1 hr (by decide) (a_cons (x_nm 0) (a_cons (x_nm 1) a_nil)) ⟨n, ts, ps, x, y, g.go, g.fe, g.le, g.x3, g.xe, g.y1, g.ye, rfl, rfl⟩) (tk_cons 2 sc46.nd (tk_cons 3 sc46.nd tk_nil)) ?_
    have hin : bitsF ps ∈ (cntF n ts).map (·.1) := by
      unfold cntF
      rw [cnt_keys]
      exact g.sm
    obtain ⟨v, hv⟩ := lookup_mem hin
    refine hr_ret (x_ixD (d := nD (((cntF n ts).lookup (bitsF ps)).getD 0)) (by exact hr.u1) (rx (x_call c2 hr (by decide) (a_cons (x_nm 2) a_nil) ⟨n, ts, g.go.prsOk, g.fe, g.cl, rfl, rfl⟩)) (x_nm 3) ?_) rfl
    rw [dget_cn, hv]
    rfl
def R_won : List D → D → Prop := fun ds d => ∃ (n : Nat) (ts : List Pr) (ps : List Nat) (x y : D), InOk n ts ps x y ∧ (∃ k, k ≤ 5000 ∧ KeyOk k (((lenF n ts (bitsF ps)).lookup (bitsF ps)).getD [])) ∧ ds = [x, y] ∧ d = nD (wonF (((lenF n ts (bitsF ps)).lookup (bitsF ps)).getD []))
theorem sc48 : FnScope ["order", "left", "own", "start", "lengths", "length"] ["order", "left"] (defScope (topS 48)) := ⟨rfl, rfl, rfl, by decide +kernel, rfl, by decide +kernel, by decide +kernel⟩
theorem ok_won (T : Bn mg) (D0 : Df K mg "plays_won" (topS 48) ["order", "left"]) (c1 : Cal P w K mg base 7 "start_in" (spF R_start_in)) (c2 : Cal P w K mg base 3 "lengths_in" (spF R_lengths)) : Cal P w K mg base 8 "plays_won" (spF R_won) :=
  mk_cal D0 sc48 (by decide) (fun ds d ⟨_, _, _, _, _, _, _, h, _⟩ => by rw [h]; rfl) fun f cdv A outer s H E hr ds d ⟨n, ts, ps, x, y, g, ⟨k, hk5, hk⟩, h1, h2⟩ => by
    subst h1 h2
    refine hr_unp rfl (x_call c1 hr (by decide) (a_cons (x_nm 0) (a_cons (x_nm 1) a_nil)) ⟨n, ts, ps, x, y, g.go, g.fe, g.le, g.x3, g.xe, g.y1, g.ye, rfl, rfl⟩) (tk_cons 2 sc48.nd (tk_cons 3 sc48.nd tk_nil)) ?_
    refine hr_asg 4 sc48.nd (x_call c2 hr (by decide) (a_cons (x_nm 2) (a_cons (x_nm 3) a_nil)) ⟨n, ts, bitsF ps, g.go.prsOk, g.fe, g.cl, g.sm, rfl, rfl⟩) ?_
    generalize hL : ((lenF n ts (bitsF ps)).lookup (bitsF ps)).getD [] = L at *
    refine hr_ret (xt (x_sum T rfl (ns := ((L.filter fun x => decide (x.1 % 2 = 1)).map (·.2)).map Int.ofNat) (rt (rl (o_lc [("length", 5)] (fun x : Pr => nD x.1) L (fun x => decide (x.1 % 2 = 1)) (fun x => nD x.2) rfl sc48.nd ?_ (by rfl) (by have := hk.len; omega) fun x hx => ⟨_, fun s H0 C cl fp => tg_fn 5 sc48.nd, .one fun s H0 C cl fp => EvT.to (t_cmp (rx (x_op (x_nm 5).rd (x_int (i := 2)).rd (d_mod (by decide)))) (x_int (i := 1)).rd d_eq) ?_, fun _ s H0 C cl fp => x_ixD (by exact hr.u1) (rx (x_fd (x_nm 4))) (x_nm 5) ?_⟩)) ?_)) ?_) rfl
    · have e : (L.map fun x : Pr => nD x.1) = (L.map fun x => (x.1 : Int)).map D.int := by rw [List.map_map]; rfl
      rw [e]
      exact it_frd (x_nm 4)
    · apply decide_eq_decide.mpr
      omega
    · rw [dget_cn, lookup_nodup hk.1 hx]
      rfl
    · rw [map_ofNat, List.map_map]
      rfl
    · rw [sum_ofNat]
      rfl
end
end G
-- M6
/-! M6: the whole plays. -/
namespace G
def plays (tops : List Nat) : Nat → Nat → List (List Nat)
  | 0, _ => [[]]
  | f + 1, b => if b = 0 then [[]] else (pcsF b).flatMap fun p => (plays tops f (mns b (tops.getD p 0))).map (p :: ·)
/-- the whole plays from b -/
def playsF (n : Nat) (ts : List (Nat × Nat)) (b : Nat) : List (List Nat) := plays (topsF n ts) 64 b
/-- those that begin with p -/
def begF (n : Nat) (ts : List (Nat × Nat)) (b p : Nat) : List (List Nat) := (playsF n ts (mns b ((topsF n ts).getD p 0))).map (p :: ·)
/-- what is wanted of an order -/
structure PlayOk (n : Nat) (ts : List (Nat × Nat)) : Prop where
  full : 2 ^ n - 1 ∈ leftsF n ts
  zero : playsF n ts 0 = [[]]
  step : ∀ b ∈ leftsF n ts, b ≠ 0 → playsF n ts b = (pcsF b).flatMap (begF n ts b)
  sub : ∀ b ∈ leftsF n ts, ∀ p ∈ pcsF b, p < n ∧ mns b ((topsF n ts).getD p 0) ∈ leftsF n ts ∧ mns b ((topsF n ts).getD p 0) < b
  cnt : ∀ b ∈ leftsF n ts, (cntF n ts).lookup b = some (playsF n ts b).length
theorem flat_get {α β : Type} {g : α → List β} : ∀ {xs : List α} {i l : Nat} {p : α}, xs[i]? = some p → l < (g p).length → (xs.flatMap g)[l + ((xs.take i).flatMap g).length]? = (g p)[l]?
  | [], i, l, p, h, _ => by simp at h
  | a :: xs, 0, l, p, h, hl => by
    have e : a = p := by simpa using h
    subst e
    rw [List.flatMap_cons, List.take_zero]
    show (g a ++ _)[l + 0]? = _
    rw [Nat.add_zero, List.getElem?_append_left hl]
  | a :: xs, i + 1, l, p, h, hl => by
    have ih := flat_get (g := g) (xs := xs) (i := i) (l := l) (p := p) (by simpa using h) hl
    rw [List.take_succ_cons, List.flatMap_cons, List.flatMap_cons, List.length_append, List.getElem?_append_right (by omega)]
    rw [← ih]
    congr 1
    omega
theorem flat_take {α β : Type} {g : α → List β} {xs : List α} {i : Nat} {p : α} (h : xs[i]? = some p) : ((xs.take (i + 1)).flatMap g).length = ((xs.take i).flatMap g).length + (g p).length := by
  rw [List.take_add_one, h, List.flatMap_append, List.length_append]
  simp
/-- where a play stands among those of b -/
theorem seg {h : Nat → List (List Nat)} : ∀ {xs : List Nat} {j t : Nat} {r : List Nat}, xs.Pairwise (· < ·) → (xs.flatMap fun p => (h p).map (p :: ·))[j]? = some (t :: r) →
    t ∈ xs ∧ ∃ j2, (h t)[j2]? = some r ∧ j = ((xs.filter fun p => decide (p < t)).flatMap fun p => (h p).map (p :: ·)).length + j2
  | [], j, t, r, _, e => by simp at e
  | a :: xs, j, t, r, hs, e => by
    obtain ⟨h1, h2⟩ := List.pairwise_cons.mp hs
    rw [List.flatMap_cons] at e
    by_cases hj : j < ((h a).map (a :: ·)).length
    · rw [List.getElem?_append_left hj, List.getElem?_map] at e
      cases q : (h a)[j]? with
      | none =>
        rw [q] at e
        cases e
      | some r2 =>
        rw [q] at e
        have e2 : a :: r2 = t :: r := Option.some.inj e
        obtain ⟨e3, e4⟩ := List.cons.inj e2
        subst e3 e4
        refine ⟨List.mem_cons_self, j, q, ?_⟩
        have e5 : (a :: xs).filter (fun p => decide (p < a)) = [] := by
          refine List.filter_eq_nil_iff.mpr fun p hp => ?_
          rcases List.mem_cons.mp hp with z | z
          · rw [z]; simp
          · have := h1 p z
            simp
            omega
        rw [e5]
        simp
    · rw [List.getElem?_append_right (by omega)] at e
      obtain ⟨m1, j2, m2, m3⟩ := seg h2 e
      have hat := h1 t m1
      refine ⟨List.mem_cons_of_mem _ m1, j2, m2, ?_⟩
      rw [List.filter_cons, if_pos (by simpa using hat), List.flatMap_cons, List.length_append]
      omega
theorem begs_len {h : Nat → List (List Nat)} : ∀ xs : List Nat, (xs.flatMap fun p => (h p).map (p :: ·)).length = (xs.map fun p => (h p).length).sum
  | [] => rfl
  | a :: xs => by rw [List.flatMap_cons, List.length_append, begs_len xs, List.length_map, List.map_cons, List.sum_cons]
end G
-- P9
set_option maxHeartbeats 4000000
/-! P9: play_drawn, play_number where they answer -/
namespace G
open PySem PySem.Spec PyProof.Rows L2
theorem full_int (n : Nat) : ((2 ^ n : Nat) : Int) - 1 = ((2 ^ n - 1 : Nat) : Int) := by
  have : 0 < 2 ^ n := Nat.two_pow_pos n
  omega
section
variable {X : Cx} {Γ : Ctx} {a b : Expr} {pos p1 p2 p3 : Pos}
/-- (1 << e) - 1 -/
theorem x_full {n k j : Nat} (h : EvX X b Γ (nD n)) (hn : n ≤ 100000) : EvX X (.BinOp (.BinOp (.Constant (.int 1) k p1) .LShift b p2) .Sub (.Constant (.int 1) j p3) pos) Γ (nD (2 ^ n - 1)) :=
  x_op (rx (x_shl1 h hn)) (x_int (i := 1)).rd (d_sub.to (by
    show D.int (((2 ^ n : Nat) : Int) - 1) = _
    rw [full_int]
    rfl))
end
/-- all that is asked of an order -/
structure NetOk (n : Nat) (ts : List Pr) : Prop where
  go : GoodO n ts
  fe : FewOk n ts
  cl : CloOk n ts
  pl : PlayOk n ts
section
variable {P : Program} {w : World} {K : PySem.W.Frag} {mg : Str → Option Value} {base : Heap}
theorem NetOk.dget {n : Nat} {ts : List Pr} (N : NetOk n ts) {b : Nat} (hb : b ∈ leftsF n ts) : dget ((cntF n ts).map fun x => (x.1 : Int)) ((cntF n ts).map fun x => nD x.2) (b : Int) = some (nD (playsF n ts b).length) := by
  rw [dget_cn, N.pl.cnt b hb]
  rfl
def R_drawn : List D → D → Prop := fun ds d => ∃ (n : Nat) (ts : List Pr) (x : D) (k : Nat) (play : List Nat), NetOk n ts ∧ Okd 3 x ∧ tupD x = ordD n ts ∧ (playsF n ts (2 ^ n - 1))[k]? = some play ∧ play.length ≤ 1000 ∧ ds = [x, nD k] ∧ d = nsD play
theorem sc49 : FnScope ["order", "number", "own", "counts", "tops", "bits", "left", "found", "chosen", "piece"] ["order", "number"] (defScope (topS 49)) := ⟨rfl, rfl, rfl, by decide +kernel, rfl, by decide +kernel, by decide +kernel⟩
theorem ok_drawn (D0 : Df K mg "play_drawn" (topS 49) ["order", "number"]) (c1 : Cal P w K mg base 6 "sure_order" (spF R_sure_order)) (c2 : Cal P w K mg base 1 "is_number" (spF R_is_number)) (c3 : Cal P w K mg base 3 "counts_in" (spF R_counts)) (c4 : Cal P w K mg base 1 "tops_by_bits" (spF R_tops)) (c5 : Cal P w K mg base 2 "is_within" (spF R_is_within)) (c6 : Cal P w K mg base 1 "pieces_for" (spF R_pieces_for)) : Cal P w K mg base 7 "play_drawn" (spF R_drawn) :=
  mk_cal D0 sc49 (by decide) (fun ds d ⟨_, _, _, _, _, _, _, _, _, _, h, _⟩ => by rw [h]; rfl) fun f cdv A outer s H E hr ds d ⟨n, ts, x, k, play, N, hx, ex, hk, hpl, h1, h2⟩ => by
    subst h1 h2
    have hn := N.go.n60
    have hkl := (List.getElem?_eq_some_iff.mp hk).1
    refine hr_asg 2 sc49.nd (x_call c1 hr (by decide) (a_cons (x_nm 0) a_nil) ⟨x, n, ts, N.go, hx, ex, rfl, rfl⟩) ?_
    refine hr_ifF (t_not (k := true) (t_val (x_call c2 hr (by decide) (a_cons (x_nm 1) a_nil) ⟨nD k, rfl, rfl⟩))) ?_
    refine hr_asgT rfl (k_x (x_call c3 hr (by decide) (a_cons (x_nm 2) a_nil) ⟨n, ts, N.go.prsOk, N.fe, N.cl, rfl, rfl⟩) (k_x (x_call c4 hr (by decide) (a_cons (x_nm 2) a_nil) ⟨n, ts, N.go.prsOk, rfl, rfl⟩) (k_x (x_full (x_ixT (d := nD n) (x_nm 2).rd x_int rfl) (by omega)) (k_x (x_nm 1) (k_x (x_tup a_nil (Nat.le_of_ble_eq_true rfl)) k_nil))))) (tk_cons 3 sc49.nd (tk_cons 4 sc49.nd (tk_cons 5 sc49.nd (tk_cons 6 sc49.nd (tk_cons 7 sc49.nd tk_nil))))) ?_
    refine hr_ifF (t_not (k := true) (t_val (x_call c5 hr (by decide) (a_cons (x_nm 1) (a_cons x_int (a_cons (x_op (rx (x_ixD (d := nD (playsF n ts (2 ^ n - 1)).length) hr.u1 (x_nm 3).rd (x_nm 5) (N.dget N.pl.full))) (x_int (i := 1)).rd d_sub) a_nil))) ⟨k, 0, ((playsF n ts (2 ^ n - 1)).length : Int) - 1, rfl, ?_⟩))) ?_
    · rw [decide_eq_true (show (0 : Int) ≤ k by omega), decide_eq_true (show (k : Int) ≤ ((playsF n ts (2 ^ n - 1)).length : Int) - 1 by omega)]
      rfl
    · refine hr_while (fun m Γ' => ∃ (b l : Nat) (g r : List Nat), m = b ∧ b ∈ leftsF n ts ∧ (playsF n ts b)[l]? = some r ∧ g ++ r = play ∧ Γ' = [.pu x, .pu (nD k), .pu (ordD n ts), .pu (cnD (cntF n ts)), .pu (rowD (topsF n ts)), .pu (nD b), .pu (nD l), .pu (nsD g), .un, .un]) (fun _ => False) (2 ^ n - 1) PassesOwn.never _ (.same (.same (.same (.same (.same (.same (.same (.same (.same (.same .nil)))))))))) ⟨2 ^ n - 1, k, [], play, rfl, N.pl.full, hk, rfl, rfl⟩ (fun m Γm hI => ?_) (fun _ z => z.elim)
      obtain ⟨b, l, g, r, rfl, hb, hl, hg, rfl⟩ := hI
      have hb60 := N.cl.lt m hb
      refine ⟨decide (0 < m), t_cmp (x_nm 5).rd (x_int (i := ((0 : Nat) : Int))).rd d_gtN, fun hm => ?_, fun hm => ?_⟩
      · have hm0 : m ≠ 0 := by have := of_decide_eq_true hm; omega
        have hst := N.pl.step m hb hm0
        refine hr_asg 8 sc49.nd (x_int (i := ((0 : Nat) : Int))) ?_
        refine hr_for (fun i Γ' => ∃ l2 : Nat, l = l2 + (((pcsF m).take i).flatMap (begF n ts m)).length ∧ Γ' = [.pu x, .pu (nD k), .pu (ordD n ts), .pu (cnD (cntF n ts)), .pu (rowD (topsF n ts)), .pu (nD m), .pu (nD l2), .pu (nsD g), .un, .un])
          (fun Γ' => ∃ (i p l2 : Nat), (pcsF m)[i]? = some p ∧ l = l2 + (((pcsF m).take i).flatMap (begF n ts m)).length ∧ l2 < (begF n ts m p).length ∧ Γ' = [.pu x, .pu (nD k), .pu (ordD n ts), .pu (cnD (cntF n ts)), .pu (rowD (topsF n ts)), .pu (nD m), .pu (nD l2), .pu (nsD g), .pu (nD p), .pu (nD p)])
          PassesOwn.never rfl (it_tup (x_call c6 hr (by decide) (a_cons (x_nm 5) a_nil) ⟨m, Nat.lt_of_lt_of_le hb60 (by decide), rfl, rfl⟩)) _ (.same (.same (.same (.same (.same (.same (.same (.same (.un (.same .nil)))))))))) ⟨l, by simp, rfl⟩ (fun i d Γi hi hI => ?_) (fun Γ' hI => ?_) (fun Γ' hM => ?_)
        · rw [List.getElem?_map] at hi
          cases hp : (pcsF m)[i]? with
          | none =>
            rw [hp] at hi
            cases hi
          | some p =>
            rw [hp] at hi
            have ed : nD p = d := Option.some.inj hi
            subst ed
            obtain ⟨l2, hl2, rfl⟩ := hI
            obtain ⟨s1, s2, s3⟩ := N.pl.sub m hb p (List.mem_of_getElem? hp)
            refine ⟨_, [9], tg_fn 9 sc49.nd, ?_⟩
            refine hr_asg 8 sc49.nd (x_nm 9) ?_
            refine hr_iflv (k := decide (l2 < (begF n ts m p).length)) (EvT.to (t_cmp (x_nm 6).rd (rx (x_ixD (d := nD (playsF n ts (mns m ((topsF n ts).getD p 0))).length) hr.u1 (x_nm 3).rd (x_mns (x_nm 5).rd (x_ixL (x_nm 4).rd (x_nm 9) (getD_atI (by rw [topsF_len]; exact s1)))) (N.dget s2))) d_ltN) (by unfold begF; rw [List.length_map])) (fun hlt => ?_) (fun hlt => ?_)
            · exact hr_break ⟨i, p, l2, hp, hl2, of_decide_eq_true hlt, rfl⟩
            · have hge : (begF n ts m p).length ≤ l2 := Nat.le_of_not_lt (of_decide_eq_false hlt)
              have hbl : (begF n ts m p).length = (playsF n ts (mns m ((topsF n ts).getD p 0))).length := by unfold begF; rw [List.length_map]
              refine hr_aug 6 (m := (l2 : Int)) (j := ((playsF n ts (mns m ((topsF n ts).getD p 0))).length : Int)) (r := ((l2 - (begF n ts m p).length : Nat) : Int)) sc49.nd ip_sub (fun H Q q => ⟨_, _, rfl, rfl, ?_⟩) (x_ixD (d := nD (playsF n ts (mns m ((topsF n ts).getD p 0))).length) hr.u1 (x_nm 3).rd (x_mns (x_nm 5).rd (x_ixL (x_nm 4).rd (x_nm 9) (getD_atI (by rw [topsF_len]; exact s1)))) (N.dget s2)) (hr_nil _ (.same (.same (.same (.same (.same (.same (.same (.same (.un (.un .nil)))))))))) ⟨l2 - (begF n ts m p).length, ?_, rfl⟩)
              · show Q (V.int ((l2 : Int) - ((playsF n ts (mns m ((topsF n ts).getD p 0))).length : Int))) H
                rw [show (l2 : Int) - ((playsF n ts (mns m ((topsF n ts).getD p 0))).length : Int) = ((l2 - (begF n ts m p).length : Nat) : Int) by omega]
                exact q
              · rw [flat_take hp]
                omega
        · obtain ⟨l2, hl2, rfl⟩ := hI
          exfalso
          have := (List.getElem?_eq_some_iff.mp hl).1
          rw [hst] at this
          rw [List.length_map, List.take_length] at hl2
          omega
        · obtain ⟨i, p, l2, hp, hl2, hlt, rfl⟩ := hM
          obtain ⟨s1, s2, s3⟩ := N.pl.sub m hb p (List.mem_of_getElem? hp)
          have hget := flat_get (g := begF n ts m) hp hlt
          rw [← hl2, ← hst, hl] at hget
          unfold begF at hget
          rw [List.getElem?_map] at hget
          cases hr2 : (playsF n ts (mns m ((topsF n ts).getD p 0)))[l2]? with
          | none =>
            rw [hr2] at hget
            cases hget
          | some r2 =>
            rw [hr2] at hget
            have er : r = p :: r2 := Option.some.inj hget
            subst er
            have hgl : g.length ≤ 1000 := by
              have := congrArg List.length hg
              rw [List.length_append] at this
              omega
            refine hr_par 7 5 rfl sc49.nd (k_x (x_op (x_nm 7).rd (rx (x_tup (a_cons (x_nm 8) a_nil) (Nat.le_of_ble_eq_true rfl))) (d_catT (by rw [List.length_map]; show _ + 1 ≤ _; omega))) (k_x (x_mns (x_nm 5).rd (x_ixL (x_nm 4).rd (x_nm 8) (getD_atI (by rw [topsF_len]; exact s1)))) k_nil)) (hr_nil _ (.same (.same (.same (.same (.same (.same (.same (.same (.un (.un .nil)))))))))) ⟨mns m ((topsF n ts).getD p 0), s3, _, l2, g ++ [p], r2, rfl, s2, hr2, by rw [← hg]; simp, ?_⟩)
            unfold nsD
            rw [List.map_append]
            rfl
      · have hm0 : m = 0 := by have := of_decide_eq_false hm; omega
        subst hm0
        rw [N.pl.zero] at hl
        have er : r = [] := by
          cases l with
          | zero => exact (Option.some.inj hl).symm
          | succ l => simp at hl
        subst er
        rw [List.append_nil] at hg
        subst hg
        exact hr_ret (x_nm 7) rfl
def R_number : List D → D → Prop := fun ds d => ∃ (n : Nat) (ts : List Pr) (x y : D) (k : Nat) (play : List Nat), NetOk n ts ∧ Okd 3 x ∧ tupD x = ordD n ts ∧ Okd 1 y ∧ tupD y = nsD play ∧ (playsF n ts (2 ^ n - 1))[k]? = some play ∧ PcOk n play ∧ FreshP ts play ∧ behF n ts play = [] ∧ ds = [x, y] ∧ d = nD k
theorem sc50 : FnScope ["order", "play", "own", "trip", "behind", "counts", "tops", "bits", "number", "taken", "piece"] ["order", "play"] (defScope (topS 50)) := ⟨rfl, rfl, rfl, by decide +kernel, rfl, by decide +kernel, by decide +kernel⟩
def numStep (n : Nat) (ts : List Pr) (s : Nat × Nat) (t : Nat) : Nat × Nat := (mns s.1 ((topsF n ts).getD t 0), s.2 + (((pcsF s.1).filter fun p => decide (p < t)).map fun p => (playsF n ts (mns s.1 ((topsF n ts).getD p 0))).length).sum)
theorem ok_number (T : Bn mg) (D0 : Df K mg "play_number" (topS 50) ["order", "play"]) (c1 : Cal P w K mg base 7 "behind_play" (spF R_behind_play)) (c3 : Cal P w K mg base 3 "counts_in" (spF R_counts)) (c4 : Cal P w K mg base 1 "tops_by_bits" (spF R_tops)) (c6 : Cal P w K mg base 1 "pieces_for" (spF R_pieces_for)) : Cal P w K mg base 8 "play_number" (spF R_number) :=
  mk_cal D0 sc50 (by decide) (fun ds d ⟨_, _, _, _, _, _, _, _, _, _, _, _, _, _, _, h, _⟩ => by rw [h]; rfl) fun f cdv A outer s H E hr ds d ⟨n, ts, x, y, k, play, N, hx, ex, hy, ey, hk, hpc, hfr, hbe, h1, h2⟩ => by
    subst h1 h2
    have hn := N.go.n60
    refine hr_unp rfl (x_call c1 hr (by decide) (a_cons (x_nm 0) (a_cons (x_nm 1) a_nil)) ⟨n, ts, play, x, y, N.go, N.fe, hpc, hfr, hx, ex, hy, ey, rfl, rfl⟩) (tk_cons 2 sc50.nd (tk_cons 3 sc50.nd (tk_cons 4 sc50.nd tk_nil))) ?_
    rw [hbe]
    refine hr_ifF (EvT.to (t_cmp (x_nm 4).rd (x_int (i := ((0 : Nat) : Int))).rd d_gtN) rfl) ?_
    refine hr_asgT rfl (k_x (x_call c3 hr (by decide) (a_cons (x_nm 2) a_nil) ⟨n, ts, N.go.prsOk, N.fe, N.cl, rfl, rfl⟩) (k_x (x_call c4 hr (by decide) (a_cons (x_nm 2) a_nil) ⟨n, ts, N.go.prsOk, rfl, rfl⟩) (k_x (x_full (x_ixT (d := nD n) (x_nm 2).rd x_int rfl) (by omega)) (k_x (x_int (i := ((0 : Nat) : Int))) k_nil)))) (tk_cons 5 sc50.nd (tk_cons 6 sc50.nd (tk_cons 7 sc50.nd (tk_cons 8 sc50.nd tk_nil)))) ?_
    refine hr_fold nD play (fun (s : Nat × Nat) => [.pu x, .pu y, .pu (ordD n ts), .pu (nsD play), .un, .pu (cnD (cntF n ts)), .pu (rowD (topsF n ts)), .pu (nD s.1), .pu (nD s.2), .un, .un]) (numStep n ts) (2 ^ n - 1, 0) (fun pre s => ∃ (j : Nat) (post : List Nat), play = pre ++ post ∧ s.1 ∈ leftsF n ts ∧ (playsF n ts s.1)[j]? = some post ∧ s.2 + j = k) PassesOwn.never rfl (it_tup (x_nm 3)) (.same (.same (.same (.same (.un (.same (.same (.same (.same (.same (.same .nil))))))))))) ⟨k, play, rfl, N.pl.full, hk, by simp⟩ (fun pre t post s e hs => ?_) (fun hs => ?_)
    · obtain ⟨b, num⟩ := s
      obtain ⟨j, post2, e2, hb, hj, hjk⟩ := hs
      have e3 : post2 = t :: post := by
        have := e2.symm.trans e
        exact List.append_cancel_left this
      subst e3
      have hb : b ∈ leftsF n ts := hb
      have hj : (playsF n ts b)[j]? = some (t :: post) := hj
      have hjk : num + j = k := hjk
      have hb60 := N.cl.lt b hb
      have hb0 : b ≠ 0 := fun z => by
        rw [z, N.pl.zero] at hj
        cases j with
        | zero => cases hj
        | succ j => simp at hj
      rw [N.pl.step b hb hb0] at hj
      obtain ⟨m1, j2, m2, m3⟩ := seg (h := fun p => playsF n ts (mns b ((topsF n ts).getD p 0))) (pcs_strict b) hj
      obtain ⟨s1, s2, _⟩ := N.pl.sub b hb t m1
      rw [begs_len] at m3
      refine ⟨⟨j2, post, by rw [e]; simp, s2, m2, ?_⟩, _, [9], tg_fn 9 sc50.nd, ?_⟩
      · show num + (((pcsF b).filter fun p => decide (p < t)).map fun p => (playsF n ts (mns b ((topsF n ts).getD p 0))).length).sum + j2 = k
        rw [← hjk, m3]
        omega
      · refine hr_aug 8 (m := (num : Int)) (j := (((((pcsF b).filter fun p => decide (p < t)).map fun p => (playsF n ts (mns b ((topsF n ts).getD p 0))).length).sum : Nat) : Int)) (r := ((numStep n ts (b, num) t).2 : Int)) sc50.nd ip_add (fun H Q q => ⟨_, _, rfl, rfl, ?_⟩) (xt (x_sum T rfl (ns := (((pcsF b).filter fun p => decide (p < t)).map fun p => (playsF n ts (mns b ((topsF n ts).getD p 0))).length).map Int.ofNat) (rt (rl (o_lc [("piece", 10)] nD (pcsF b) (fun p => decide (p < t)) (fun p => nD (playsF n ts (mns b ((topsF n ts).getD p 0))).length) rfl sc50.nd (it_tup (x_call c6 hr (by decide) (a_cons (x_nm 7) a_nil) ⟨b, Nat.lt_of_lt_of_le hb60 (by decide), rfl, rfl⟩)) (by rfl) (by have := pcs_len b; omega) fun p hp => ⟨_, fun s H0 C cl fp => tg_fn 10 sc50.nd, .one fun s H0 C cl fp => t_cmp (x_nm 10).rd (x_nm 9).rd d_ltN, fun _ s H0 C cl fp => x_ixD (by exact hr.u1) (x_nm 5).rd (x_mns (x_nm 7).rd (x_ixL (x_nm 6).rd (x_nm 10) (getD_atI (by rw [topsF_len]; exact (N.pl.sub b hb p hp).1)))) (N.dget (N.pl.sub b hb p hp).2.1)⟩)) ?_)) ?_) ?_
        · exact q
        · rw [map_ofNat, List.map_map]
          rfl
        · rw [sum_ofNat]
        · refine hr_asg 7 sc50.nd (x_mns (x_nm 7).rd (x_ixL (x_nm 6).rd (x_nm 9) (getD_atI (by rw [topsF_len]; exact s1)))) ?_
          exact hr_nil _ (.same (.same (.same (.same (.same (.same (.same (.same (.same (.un (.same .nil))))))))))) rfl
    · obtain ⟨j, post, e2, hb, hj, hjk⟩ := hs
      have e3 : post = [] := by
        have := congrArg List.length e2
        rw [List.length_append] at this
        exact List.eq_nil_of_length_eq_zero (by omega)
      subst e3
      have ek : (play.foldl (numStep n ts) (2 ^ n - 1, 0)).2 = k := by
        generalize play.foldl (numStep n ts) (2 ^ n - 1, 0) = s at *
        obtain ⟨b, num⟩ := s
        have hb : b ∈ leftsF n ts := hb
        have hj : (playsF n ts b)[j]? = some [] := hj
        have hjk : num + j = k := hjk
        by_cases hb0 : b = 0
        · rw [hb0, N.pl.zero] at hj
          cases j with
          | zero => omega
          | succ j => simp at hj
        · exfalso
          rw [N.pl.step b hb hb0] at hj
          have hm := List.mem_of_getElem? hj
          obtain ⟨p, _, hp⟩ := List.mem_flatMap.mp hm
          unfold begF at hp
          obtain ⟨q, _, hq⟩ := List.mem_map.mp hp
          cases hq
      refine hr_ret (x_nm 8) ?_
      show nD _ = nD k
      rw [ek]
end
end G
-- Fw16
set_option maxHeartbeats 4000000
/-! Fw16: sorted(d.items()), d a locked dict of numbers. -/
namespace G
open PySem PySem.Spec PyProof.Rows L2
/-- the pair at an address -/
def pairAt : List Addr → List Pr → Addr → Int × Int
  | a :: as, p :: L, x => if x = a then ((p.1 : Int), (p.2 : Int)) else pairAt as L x
  | _, _, _ => (0, 0)
theorem pairAt_map : ∀ {as : List Addr} {L : List Pr}, as.Nodup → as.length = L.length → as.map (pairAt as L) = L.map fun p => ((p.1 : Int), (p.2 : Int))
  | [], [], _, _ => rfl
  | [], _ :: _, _, h => by simp at h
  | _ :: _, [], _, h => by simp at h
  | a :: as, p :: L, hn, hl => by
    obtain ⟨n1, n2⟩ := List.nodup_cons.mp hn
    rw [List.map_cons, List.map_cons, ← pairAt_map n2 (by simpa using hl)]
    have e1 : pairAt (a :: as) (p :: L) a = ((p.1 : Int), (p.2 : Int)) := by
      unfold pairAt
      rw [if_pos rfl]
    have e2 : as.map (pairAt (a :: as) (p :: L)) = as.map (pairAt as L) := List.map_congr_left fun x hx => by
      show (if x = a then _ else _) = _
      rw [if_neg (fun z => n1 (by rw [← z]; exact hx))]
    rw [e1, e2]
theorem pairAt_get : ∀ {as : List Addr} {L : List Pr} {j : Nat} {a : Addr} {p : Pr}, as.Nodup → as[j]? = some a → L[j]? = some p → pairAt as L a = ((p.1 : Int), (p.2 : Int))
  | a :: as, p :: L, 0, x, q, hn, h1, h2 => by
    have e1 : a = x := by simpa using h1
    have e2 : p = q := by simpa using h2
    subst e1 e2
    show (if a = a then _ else _) = _
    rw [if_pos rfl]
  | a :: as, p :: L, j + 1, x, q, hn, h1, h2 => by
    obtain ⟨n1, n2⟩ := List.nodup_cons.mp hn
    have h1' : as[j]? = some x := by simpa using h1
    show (if x = a then _ else _) = _
    rw [if_neg (fun z => n1 (by rw [← z]; exact List.mem_of_getElem? h1'))]
    exact pairAt_get n2 h1' (by simpa using h2)
  | [], _, _, _, _, _, h1, _ => by simp at h1
  | _ :: _, [], _, _, _, _, _, h2 => by simp at h2
def valAt (as : List Addr) (L : List Pr) : Value → Int × Int
  | .ref a => pairAt as L a
  | _ => (0, 0)
theorem plt_uniq : ∀ {l m : List (Int × Int)}, l.Perm m → l.Pairwise (fun x y => SrtO.lexB y x = false) → m.Pairwise (fun x y => SrtO.lexB x y = true) → l = m
  | [], m, h, _, _ => by rw [List.nil_perm.mp h]
  | a :: l, [], h, _, _ => by
    have := h.length_eq
    simp at this
  | a :: l, b :: m, h, h1, h2 => by
    obtain ⟨a1, a2⟩ := List.pairwise_cons.mp h1
    obtain ⟨b1, b2⟩ := List.pairwise_cons.mp h2
    have e : a = b := by
      rcases List.mem_cons.mp (h.subset List.mem_cons_self : a ∈ b :: m) with e | e
      · exact e
      · rcases List.mem_cons.mp (h.symm.subset List.mem_cons_self : b ∈ a :: l) with e2 | e2
        · exact e2.symm
        · have x1 := b1 a e
          have x2 := a1 b e2
          rw [x2] at x1
          cases x1
    subst e
    rw [plt_uniq ((List.perm_cons a).mp h) a2 b2]
theorem putT_paired {H : Hp} : ∀ {as : List Addr} {kvs : List (Key × V)}, as.length = kvs.length → as.Nodup → ∀ {j : Nat} {a : Addr} {q : Key × V}, as[j]? = some a → kvs[j]? = some q → LiI.putT H as kvs a = some (.tup [kV q.1, q.2]) := fun {as kvs} hl hn {j a q} h1 h2 => by
  obtain ⟨y, e1, e2⟩ := LiI.paired_get (LiI.putT_at as kvs H hl hn) h1
  rw [h2] at e1
  cases e1
  exact e2
/-- the pairs and the sorted list are tracked -/
theorem sorted_laid {X : Cx} {pins : List (Addr × Obj)} {σ : L2.St} {H : Hp} {s : Shared} {h' : Heap} {tk : Nat} {L : List Pr} {vs : List (Key × Value)} {acc : List Value} {c : Nat} {as bs : List Addr} {S : Addr} (I : Inv X pins σ H s) (hz : L.length ≤ sizeLine) (kv : KV (cnK L) vs)
    (hk : ∀ b o, s.heap.get? b = some o → h'.get? b = some o) (hS : h'.get? S = some (seqObj "list" acc.toArray c)) (newS : H S = none) (hSo : ∀ b o, s.heap.get? b = some o → b ≠ S) (hSn : S ∉ as) (hl : as.length = vs.length) (hG : PySem.W.KdxG (mixKind X.prog X.w) vs s.heap.objs.size h' as) (hacc : acc = bs.map Value.ref) (hbl : bs.length ≤ sizeLine) :
    ∃ H' : Hp, (∀ b o, H b = some o → H' b = some o) ∧ H S = none ∧ (∀ t ∈ as, H t = none) ∧ H' S = some (.lst (bs.map V.ref)) ∧ (∀ (j : Nat) (a : Addr) (p : Pr), as[j]? = some a → L[j]? = some p → H' a = some (.tup [.int (p.1 : Int), .int (p.2 : Int)])) ∧ Inv X pins σ H' { s with heap := h', toks := tk } := by
  have lk : (cnK L).length = vs.length := Paired.length kv
  have lc : (cnK L).length = L.length := by unfold cnK; rw [List.length_map]
  have nd : as.Nodup := List.Pairwise.imp (fun {a b} (h : a < b) => Nat.ne_of_lt h) hG.rise
  have new : ∀ t ∈ as, H t = none := fun t ht => I.hok.fresh (Nat.le_of_lt (hG.above t ht))
  have atJ : ∀ {j : Nat} {a : Addr} {q : Key × V}, as[j]? = some a → (cnK L)[j]? = some q → LiI.putT (upd H S (.lst (bs.map V.ref))) as (cnK L) a = some (.tup [kV q.1, q.2]) := putT_paired (by omega) nd
  have off : ∀ b, b ∉ as → b ≠ S → LiI.putT (upd H S (.lst (bs.map V.ref))) as (cnK L) b = H b := fun b h1 h2 => by rw [LiI.putT_off as (cnK L) _ h1, upd_ne h2]
  have kp : ∀ b u, H b = some u → (LiI.putT (upd H S (.lst (bs.map V.ref))) as (cnK L)) b = some u := fun b u e => by
    rw [off b (fun z => by rw [new b z] at e; cases e) (fun z => by rw [z, newS] at e; cases e)]
    exact e
  have eS : LiI.putT (upd H S (.lst (bs.map V.ref))) as (cnK L) S = some (.lst (bs.map V.ref)) := by rw [LiI.putT_off as (cnK L) _ hSn, upd_same]
  have low : ∀ b o, s.heap.get? b = some o → b ∉ as ∧ b ≠ S := fun b o e => ⟨fun z => absurd (Heap.lt_size e) (Nat.not_lt.mpr (Nat.le_of_lt (hG.above b z))), hSo b o e⟩
  refine ⟨LiI.putT (upd H S (.lst (bs.map V.ref))) as (cnK L), kp, newS, new, eS, fun j a p h1 h2 => ?_, ?_⟩
  · have h3 : (cnK L)[j]? = some (Sum.inl (p.1 : Int), V.int p.2) := by
      unfold cnK
      rw [List.getElem?_map, h2]
      rfl
    exact atJ h1 h3
  · refine I.call' (ch := []) rfl ⟨fun b o q _ _ _ => hk b o q, fun b o q _ _ _ => ⟨o.slots, hk b o q⟩, fun b o q n _ => ?_, fun b o q _ => ⟨o, hk b o q⟩, fun b xs q => kp b _ q, fun b o u q => kp b _ q, fun b ps q => ⟨#[], by rw [kp b _ q]; simp⟩⟩ (fun b u q => ?_) I.bare fun b z => by simp at z
    · obtain ⟨z1, z2⟩ := low b o q
      rw [off b z1 z2]
      exact n
    · by_cases hb : b ∈ as
      · obtain ⟨j, hj, ej⟩ := List.mem_iff_getElem.mp hb
        have e1 : as[j]? = some b := by rw [List.getElem?_eq_getElem hj, ej]
        have hj2 : j < (cnK L).length := by omega
        have e3 := atJ e1 (List.getElem?_eq_getElem hj2)
        rw [e3] at q
        cases q
        obtain ⟨key, k, x, f1, f2, f3⟩ := hG.pairs j b e1
        obtain ⟨qv, g1, g2, g3⟩ := LiI.paired_get kv (List.getElem?_eq_getElem hj2)
        rw [f1] at g1
        cases g1
        have rk : RelV (kV ((cnK L)[j]).1) key := by
          rw [g2]
          exact relV_key (show keyIs k key = true from f2)
        exact ⟨by show 2 ≤ sizeLine; decide, [key, x], .cons rk (.cons g3 .nil), ⟨_, f3, rfl, _, rfl⟩⟩
      · by_cases hb2 : b = S
        · subst hb2
          rw [eS] at q
          cases q
          exact ⟨by rw [List.length_map]; exact hbl, acc, c, by rw [hacc]; exact LiI.vals_refs bs, hS⟩
        · rw [off b hb hb2] at q
          exact (I.hok b u q).stay (fun d v _ y => hk d v y) (fun d y => kp d _ y) fun d xs y => kp d _ y
def tSortedItems (te : TE) : TE := fun σ H Q => te σ H fun x H1 => ∃ (d : Addr) (L L' : List Pr), x = .ref d ∧ Rd H1 d (.dK (cnK L)) ∧ L'.Perm L ∧ L'.Pairwise plt ∧
  ∀ (H' : Hp) (p : Addr) (bs : List Addr), (∀ b o, H1 b = some o → H' b = some o) → H1 p = none → (∀ t ∈ bs, H1 t = none) → p ∉ bs → H' p = some (.lst (bs.map V.ref)) → bs.length = L'.length → (∀ (j : Nat) (a : Addr) (q : Pr), bs[j]? = some a → L'[j]? = some q → H' a = some (.tup [.int (q.1 : Int), .int (q.2 : Int)])) → Q (.ref p) H'
theorem perm_refs {as : List Addr} : ∀ {out : List Value}, out.Perm (as.map Value.ref) → ∃ bs : List Addr, out = bs.map Value.ref ∧ bs.Perm as := fun {out} h => by
  have h1 : ∀ v ∈ out, ∃ a, v = Value.ref a := fun v hv => by
    obtain ⟨a, _, e⟩ := List.mem_map.mp (h.subset hv)
    exact ⟨a, e.symm⟩
  have h2 : ∃ bs : List Addr, out = bs.map Value.ref := by
    clear h
    induction out with
    | nil => exact ⟨[], rfl⟩
    | cons v vs ih =>
      obtain ⟨a, e⟩ := h1 v List.mem_cons_self
      obtain ⟨bs, e2⟩ := ih fun u hu => h1 u (List.mem_cons_of_mem _ hu)
      exact ⟨a :: bs, by rw [e, e2]; rfl⟩
  obtain ⟨bs, rfl⟩ := h2
  refine ⟨bs, rfl, ?_⟩
  have h3 := h.map (fun v => match v with | Value.ref a => a | _ => (0 : Addr))
  rw [List.map_map, List.map_map] at h3
  have e : ∀ l : List Addr, l.map ((fun v => match v with | Value.ref a => a | _ => (0 : Addr)) ∘ Value.ref) = l := fun l => by
    induction l with
    | nil => rfl
    | cons a l ih => rw [List.map_cons, ih]; rfl
  rw [e, e] at h3
  exact h3
theorem pe_sortedItems {X : Cx} {e : Expr} {te : TE} {p apos cpos pos : Pos} (hc : X.calm = true) (he : PE X e te) (hg : Gl X "sorted") (hm : X.mg "sorted" = none) (hbase : attributeBase e "items" X.env (eval e X.env) = eval e X.env := by rfl) (hline : (apos.endLine == cpos.line) = true := by rfl)
    (hs : starEach [.Call (.Attribute e "items" apos) [] [] cpos] X.env = (false, eval (.Call (.Attribute e "items" apos) [] [] cpos) X.env) :: starEach [] X.env := by rfl) : PE X (.Call (.Name "sorted" p) [.Call (.Attribute e "items" apos) [] [] cpos] [] pos) (tSortedItems te) := by
  refine ⟨fun pins s σ H Q I hq => ?_⟩
  refine wpAny_Call_Name_kw (ld_blt I hg hm boot_sorted (PyProof.Rows.callWith_builtin1 ?_ hs rfl))
  rw [hs]
  refine Calls.spliced_cons ?_
  refine wpAny_Call_method (T := "dict") (id := "dict.items") hbase rfl hline F.plainAttrs_dict F.slot_dict_items F.type_dict_items (thn (he.run pins s σ H _ I hq) fun u s1 ⟨x, H1, I1, rx, d, L, L', ex, hd, hp, hw, q⟩ => ?_)
  subst ex
  obtain rfl : u = Value.ref d := rx
  obtain ⟨hz, hs0, vs, kv, hdo⟩ := dk_rd I1.hok hd
  obtain ⟨ep, hat⟩ := hdo.dictAt
  have lk : (cnK L).length = vs.length := Paired.length kv
  have lc : (cnK L).length = L.length := by unfold cnK; rw [List.length_map]
  have I2 : Inv X pins σ H1 { s1 with heap := s1.heap.push { cls := .type "dict_items", data := .fields #[.ref d] } } := I1.kept (t' := s1.toks) fun b ob q => Heap.get?_push_of_some _ q
  refine ⟨hdo.typeIs, hdo.mapOf.noDict, ?_⟩
  refine method_meetsIn F.slot_dict_items F.entry_dict_items rfl (PySem.evalArgs_none ⟨rfl, hdo.typeIs, F.args_dict_items_1 _, _, meets_dict_items (mixKind X.prog X.w) d hs0, ⟨vs, hdo⟩, ?_⟩)
  refine Calls.spliced_nil (Calls.call_function_entry PyProof.Rows.kind_sorted PyProof.Rows.plain_sorted PyProof.Rows.entry_sorted (PyProof.Rows.args_sorted1 _) ?_)
  unfold Builtin.«sorted»
  refine wpAny_bind (m := checkCount "sorted" 1 1 _) (wpAny_pure (wpAny_bind (PySem.W.kdx_collect (A := X.A.in1) (knd := mixKind X.prog X.w) (kvs := vs) (ep := ep) (I1.ok.hd hc) ⟨_, Heap.get?_push_size _ rfl, rfl, rfl⟩ (hat.push _) (by omega) fun h1 tk as hk hl hG => ?_)))
  have hal : (as.map Value.ref).length = L.length := by rw [List.length_map]; omega
  have nd : as.Nodup := List.Pairwise.imp (fun {a b} (h : a < b) => Nat.ne_of_lt h) hG.rise
  refine wpAny_bind (wpAny_newList ?_ (by omega))
  have hoL : (h1.push (seqObj "list" (as.map Value.ref).toArray 0)).get? h1.objs.size = some (seqObj "list" (as.map Value.ref).toArray 0) := Heap.get?_push_size _ rfl
  have hlow : ∀ t ∈ as, t < h1.objs.size := fun t ht => hG.there ht
  have hprs : ∀ v ∈ as.map Value.ref, Srt.IsPair (h1.push (seqObj "list" (as.map Value.ref).toArray 0)) v (valAt as L v).1 (valAt as L v).2 := fun v hv => by
    obtain ⟨a, ha, rfl⟩ := List.mem_map.mp hv
    obtain ⟨j, hj, ej⟩ := List.mem_iff_getElem.mp ha
    have e1 : as[j]? = some a := by rw [List.getElem?_eq_getElem hj, ej]
    have hjL : j < L.length := by rw [List.length_map] at hal; omega
    have e2 : L[j]? = some L[j] := List.getElem?_eq_getElem hjL
    obtain ⟨key, k, x, f1, f2, f3⟩ := hG.pairs j a e1
    have e3 : (cnK L)[j]? = some (Sum.inl (L[j].1 : Int), V.int L[j].2) := by
      unfold cnK
      rw [List.getElem?_map, e2]
      rfl
    obtain ⟨qv, g1, g2, g3⟩ := LiI.paired_get kv e3
    rw [f1] at g1
    cases g1
    have ek : Sum.inl (L[j].1 : Int) = k := g2
    subst ek
    obtain ⟨tx, rfl⟩ := (show RelV (.int (L[j].2 : Int)) x from g3)
    have ev : valAt as L (.ref a) = ((L[j].1 : Int), (L[j].2 : Int)) := pairAt_get nd e1 e2
    rw [ev]
    rcases keyIs_shape (show keyIs (Sum.inl (L[j].1 : Int)) key = true from f2) with ⟨i, t, e4, rfl⟩ | ⟨z, t, e4, _⟩
    · cases e4
      exact ⟨a, _, t, tx, 0, rfl, Heap.get?_push_of_some _ f3, rfl, rfl⟩
    · cases e4
  show wpAny _ _ _ _ _ { s1 with heap := h1.push (seqObj "list" (as.map Value.ref).toArray 0), toks := tk }
  refine wpAny_bind (wpAny_holding (wpAny_call_entry PyProof.Rows.slot_list_sort ⟨_, hoL, rfl⟩ PyProof.Rows.entry_list_sort
    (SrtO.list_sort_ord (s := { s1 with heap := h1.push (seqObj "list" (as.map Value.ref).toArray 0), toks := tk }) (SrtO.swo_lex (valAt as L)) hoL (by omega) (fun h2 => SrtO.pairs_sortableO (by omega) hprs fun o ho hcl => by
      have ho2 : some o = some (seqObj "list" (as.map Value.ref).toArray 0) := ho.symm.trans hoL
      cases ho2
      exact absurd (Value.type.inj hcl) (by decide)) fun out hsr hst => ⟨_, rfl, ?_⟩) (PyProof.Rows.args_list_sort _)))
  obtain ⟨bs, rfl, hbp⟩ := perm_refs hst.perm
  obtain ⟨e9, he9⟩ := PyProof.Rows.sortedHeap_at (vs := as.map Value.ref) (out := (bs.map Value.ref).toArray) hoL
  have kept : ∀ b o, h1.get? b = some o → (PyProof.Rows.sortedHeap (h1.push (seqObj "list" (as.map Value.ref).toArray 0)) h1.objs.size (as.map Value.ref) (bs.map Value.ref).toArray).get? b = some o := fun b o e => by
    have hb : b < h1.objs.size := Heap.lt_size e
    rw [PyProof.Rows.sortedHeap_old (Nat.ne_of_lt hb) (by rw [size_push']; exact Nat.lt_succ_of_lt hb)]
    exact Heap.get?_push_of_some _ e
  have hbl : bs.length = L.length := by rw [hbp.length_eq]; rw [List.length_map] at hal; exact hal
  have hso : ∀ b o, s1.heap.get? b = some o → b ≠ h1.objs.size := fun b o e z => absurd (Heap.lt_size (hk b o (Heap.get?_push_of_some _ e))) (by rw [z]; exact Nat.lt_irrefl _)
  have hsn : H1 h1.objs.size = none := I1.hok.gone (by
    cases z : s1.heap.get? h1.objs.size with
    | none => rfl
    | some o => exact (hso _ o z rfl).elim)
  have hG2 : PySem.W.KdxG (mixKind X.prog X.w) vs s1.heap.objs.size (PyProof.Rows.sortedHeap (h1.push (seqObj "list" (as.map Value.ref).toArray 0)) h1.objs.size (as.map Value.ref) (bs.map Value.ref).toArray) as := ⟨hG.rise, fun a ha => Nat.lt_of_le_of_lt (by show _ ≤ (s1.heap.push _).objs.size; rw [Heap.size_push]; exact Nat.le_succ _) (hG.above a ha), fun j a ha => by
    obtain ⟨key, k, x, f1, f2, f3⟩ := hG.pairs j a ha
    exact ⟨key, k, x, f1, f2, kept _ _ f3⟩⟩
  obtain ⟨H', k1, k2, k3, k4, k5, J⟩ := sorted_laid (tk := tk) (bs := bs) I1 (by omega) kv (fun b o e => kept b o (hk b o (Heap.get?_push_of_some _ e))) he9 hsn hso (fun z => Nat.lt_irrefl _ (hlow _ z)) (by rw [List.length_map] at hal; omega) hG2 rfl (by omega)
  have hL2 : bs.map (pairAt as L) = L'.map fun p => ((p.1 : Int), (p.2 : Int)) := by
    refine plt_uniq ?_ ?_ ?_
    · refine (hbp.map _).trans ?_
      rw [pairAt_map nd (by rw [List.length_map] at hal; omega)]
      exact (hp.map _).symm
    · have hsr2 : (bs.map Value.ref).Pairwise fun x y => SrtO.lexB (valAt as L y) (valAt as L x) = false := hsr
      rw [List.pairwise_map] at hsr2
      rw [List.pairwise_map]
      exact hsr2
    · rw [List.pairwise_map]
      refine hw.imp fun {x y} h => SrtO.lexB_iff.mpr ?_
      show (x.1 : Int) < y.1 ∨ ((x.1 : Int) = y.1 ∧ (x.2 : Int) < y.2)
      rcases h with h | h <;> omega
  refine wpAny_pure ⟨_, rfl, .ref h1.objs.size, H', J, rfl, q H' _ bs k1 k2 (fun t ht => k3 t (hbp.subset ht)) (fun z => Nat.lt_irrefl _ (hlow _ (hbp.subset z))) k4 (by rw [hbl, ← hp.length_eq]) fun j a p hj1 hj2 => ?_⟩
  have ha : a ∈ as := hbp.subset (List.mem_of_getElem? hj1)
  obtain ⟨i, hi, ei⟩ := List.mem_iff_getElem.mp ha
  have e1 : as[i]? = some a := by rw [List.getElem?_eq_getElem hi, ei]
  have hiL : i < L.length := by rw [List.length_map] at hal; omega
  have e2 : L[i]? = some L[i] := List.getElem?_eq_getElem hiL
  have e3 : (bs.map (pairAt as L))[j]? = some (pairAt as L a) := by rw [List.getElem?_map, hj1]; rfl
  rw [hL2, List.getElem?_map, hj2, pairAt_get nd e1 e2] at e3
  have e4 : ((p.1 : Int), (p.2 : Int)) = ((L[i].1 : Int), (L[i].2 : Int)) := Option.some.inj e3
  have e5 := k5 i a _ e1 e2
  rw [e5, (Prod.mk.inj e4).1, (Prod.mk.inj e4).2]
section
variable {X : Cx} {Γ : Ctx} {e : Expr} {p apos cpos pos : Pos}
theorem rpa_prs {F : Hp} : ∀ {bs : List Addr} {L : List Pr}, bs.length = L.length → (∀ (j : Nat) (a : Addr) (q : Pr), bs[j]? = some a → L[j]? = some q → F a = some (.tup [.int (q.1 : Int), .int (q.2 : Int)])) → RpA F (L.map prD) (bs.map V.ref)
  | [], [], _, _ => rfl
  | [], _ :: _, h, _ => by simp at h
  | _ :: _, [], h, _ => by simp at h
  | b :: bs, q :: L, hl, h => ⟨_, _, rfl, ⟨b, _, rfl, h 0 b q rfl rfl, _, _, rfl, rfl, _, _, rfl, rfl, rfl⟩, rpa_prs (by simpa using hl) fun j a q h1 h2 => h (j + 1) a q (by simpa using h1) (by simpa using h2)⟩
theorem o_sortedItems (T : Bn X.mg) (hc : X.calm = true) {L L' : List Pr} (h : EvX X e Γ (fdD L)) (hp : L'.Perm L) (hw : L'.Pairwise plt) (hg : Gl X "sorted" := by rfl) (hbase : attributeBase e "items" X.env (eval e X.env) = eval e X.env := by rfl) (hline : (apos.endLine == cpos.line) = true := by rfl)
    (hs : starEach [.Call (.Attribute e "items" apos) [] [] cpos] X.env = (false, eval (.Call (.Attribute e "items" apos) [] [] cpos) X.env) :: starEach [] X.env := by rfl) : EvO X (.Call (.Name "sorted" p) [.Call (.Attribute e "items" apos) [] [] cpos] [] pos) Γ (.L (L'.map prD)) := fun t W0 W σ l E Q q =>
  wE_of (pe_sortedItems hc (pe_w X e) hg T.sorted hbase hline hs) (h t W0 W σ l E _ fun v W1 e1 r1 => by
    obtain ⟨a, ps, od, rfl, ha, hk, hx⟩ := r1
    have eps := cn_ints hk hx
    subst eps
    refine ⟨a, L, L', rfl, .inr ⟨od, W1.ok _ _ ha⟩, hp, hw, fun H' p bs k1 k2 k3 k4 k5 k6 k7 => ?_⟩
    have hF : ∀ b ∈ bs, W1.F b = none := fun b hb => F_none (k3 b hb)
    have hok : Same (fun b => if b ∈ bs then H' b else W1.F b) H' := fun b u hb => by
      by_cases z : b ∈ bs
      · simpa [z] using hb
      · have hb : W1.F b = some u := by simpa [z] using hb
        exact k1 _ _ (W1.ok _ _ hb)
    have sF : Same W1.F (fun b => if b ∈ bs then H' b else W1.F b) := fun b u hb => by
      have z : b ∉ bs := fun z => by rw [hF b z] at hb; cases hb
      show (if b ∈ bs then H' b else W1.F b) = some u
      rw [if_neg z]
      exact hb
    have x2 : Ext W1 ⟨_, H', hok⟩ := ⟨k1, sF, fun b hb1 hb2 => by
      by_cases z : b ∈ bs
      · exact k3 b z
      · have hb2 : (if b ∈ bs then H' b else W1.F b) ≠ none := hb2
        rw [if_neg z] at hb2
        exact (hb2 hb1).elim⟩
    refine q (.ref p) ⟨_, H', hok⟩ (e1.trans x2) ⟨p, _, rfl, ?_, e1.h.free k2, k5, _, rfl, ?_⟩
    · show (if p ∈ bs then H' p else W1.F p) = none
      rw [if_neg k4]
      exact F_none k2
    · refine rpa_prs k6 fun j b q h1 h2 => ?_
      show (if b ∈ bs then H' b else W1.F b) = _
      rw [if_pos (List.mem_of_getElem? h1)]
      exact k7 j b q h1 h2)
end
end G
-- P10
set_option maxHeartbeats 4000000
/-! P10: plays_by_length -/
namespace G
open PySem PySem.Spec PyProof.Rows L2
section
variable {P : Program} {w : World} {K : PySem.W.Frag} {mg : Str → Option Value} {base : Heap}
def R_by_length : List D → D → Prop := fun ds d => ∃ (n : Nat) (ts : List Pr) (ps : List Nat) (x y : D) (L' : List Pr), InOk n ts ps x y ∧ L'.Perm (((lenF n ts (bitsF ps)).lookup (bitsF ps)).getD []) ∧ L'.Pairwise plt ∧ ds = [x, y] ∧ d = tsD L'
theorem sc47 : FnScope ["order", "left", "own", "start"] ["order", "left"] (defScope (topS 47)) := ⟨rfl, rfl, rfl, by decide +kernel, rfl, by decide +kernel, by decide +kernel⟩
theorem ok_by_length (T : Bn mg) (D0 : Df K mg "plays_by_length" (topS 47) ["order", "left"]) (c1 : Cal P w K mg base 7 "start_in" (spF R_start_in)) (c2 : Cal P w K mg base 3 "lengths_in" (spF R_lengths)) : Cal P w K mg base 8 "plays_by_length" (spF R_by_length) :=
  mk_cal D0 sc47 (by decide) (fun ds d ⟨_, _, _, _, _, _, _, _, _, h, _⟩ => by rw [h]; rfl) fun f cdv A outer s H E hr ds d ⟨n, ts, ps, x, y, L', g, hp, hw, h1, h2⟩ => by
    subst h1 h2
    refine hr_unp rfl (x_call c1 hr (by decide) (a_cons (x_nm 0) (a_cons (x_nm 1) a_nil)) ⟨n, ts, ps, x, y, g.go, g.fe, g.le, g.x3, g.xe, g.y1, g.ye, rfl, rfl⟩) (tk_cons 2 sc47.nd (tk_cons 3 sc47.nd tk_nil)) ?_
    exact hr_ret (x_tupleL T (rl (o_sortedItems T rfl (L' := L') (x_call c2 hr (by decide) (a_cons (x_nm 2) (a_cons (x_nm 3) a_nil)) ⟨n, ts, bitsF ps, g.go.prsOk, g.fe, g.cl, g.sm, rfl, rfl⟩) hp hw))) rfl
end
end G
-- Fx1
set_option maxHeartbeats 4000000
/-! Fx1: the two errors: CanNot() and Broken(number). -/
namespace PySem
namespace BrkX
open PySem.W PySem.Calls PyProof.Rows PySem.HandSPX
/-! ### the text of Broken.__init__ -/
def classBody : Stmt → List Stmt
  | .ClassDef _ _ _ b _ _ _ _ _ _ _ => b
  | _ => []
def brkInit : Stmt := (classBody (_root_.G.topS 1)).headD (.Pass ⟨0, 0, 0, 0⟩)
def iA : Arguments := L2.defArgs brkInit
def iB : List Stmt := L2.defBody brkInit
def iS : Scope := L2.defScope brkInit
abbrev veTail : List Value := [.type "ValueError", .type "Exception", .type "BaseException", .type "object"]
theorem ve_along (K : Frag) : alongIn K "__init__" veTail = some (some (.builtin "ValueError.__init__")) := by kernel_rfl
/-- what the written part says of Broken, at C, and of its __init__, at fI -/
structure BrkTxt (prog : Program) (K : Frag) (mg : Str → Option Value) (C fI : Addr) : Prop where
  gC : mg "Broken" = some (.ref C)
  cls : ∃ nm q N bs sn sub ab col dd k0 k1 k2 k3 k5, K.lookup C = some (excClassObj nm q C N bs veTail true sn sub ab col dd k0 k1 k2 k3 k5 "ValueError.__new__")
  sa : findIn K (.ref C) "__setattr__" = some (some (.builtin "object.__setattr__"))
  ga : findIn K (.ref C) "__getattribute__" = some (some (.builtin "BaseException.__getattribute__"))
  gg : findIn K (.ref C) "__getattr__" = some none
  noN : findIn K (.ref C) "number" = some none
  iC : findIn K (.ref C) "__init__" = some (some (.ref fI))
  tC : typeIn K (.ref fI) = some (.type "function")
  kC : keepIn K (.ref C) = true
  exC : subIn K (.ref C) (.type "BaseException") = some true
  tyC : typeIn K (.ref C) = some (.type "type")
  hdC : hasDictIn K C = true
  ve : subIn K (.ref C) (.type "ValueError") = some true
  mC : mroIn K C (.ref C) = some true
  noS : mg "super" = none
  tp : nsIn K cStatics "thirdparty.any" = some none
  top : (prog.main.scope.names.lookup ("super" : Str)).isSome = false
  fn : ∃ (oc : Value) (od : Option Addr) (kV doc pm : Value) (an : Option Addr) (cda cc : Addr) (ct : Value) (osl : Array (Option Value)) (ccl : Value) (cdd : Option Addr) (vs : Array Value) (ccs : Array (Option Value)) (file : Str) (tf : Tok) (cl : Value) (cld : Option Addr) (csl : Array (Option Value)),
    K.lookup fI = some ⟨oc, od, .func (ksFn "__init__" "Broken.__init__" iA iB iS .none kV doc pm an (.ref cda) ct cc), osl⟩ ∧ codeIn K (.ref cda) "Broken.__init__" = true ∧
    K.lookup cda = some ⟨ccl, cdd, .fields vs, ccs⟩ ∧ vs[2]? = some (.str file tf) ∧ ((prog.main.file : Str) == file) = true ∧ K.lookup cc = some ⟨cl, cld, .cell (some (.ref C)), csl⟩
theorem one_size (v : Value) : [v].length ≤ sizeLine := by
  rw [sizeLine_eq]
  exact (by decide : 1 ≤ 16777216)
theorem kept_but {K : Frag} {h h' : Heap} {x : Addr} (X : K.In h) (hx : K.lookup x = none) (k : ∀ b o, b ≠ x → h.get? b = some o → h'.get? b = some o) : K.In h' := fun a o e =>
  k a o (fun z => by rw [z, hx] at e; cases e) (X a o e)
/-- what __init__ leaves of a fresh exception at x -/
structure InitEnd (h h' : Heap) (x C dx t1 : Addr) (v : Value) : Prop where
  keep : ∀ b o, b ≠ x → h.get? b = some o → h'.get? b = some o
  obj : h'.get? x = some { cls := .ref C, dict := some dx, data := .fields #[.ref t1, .none, .none, .none, .bool false, .none] }
  dbig : h.objs.size ≤ dx
  dne : dx ≠ x
  ns : h'.Ns1 dx (fun y => if y = "number" then some v else none)
/-- a made Broken -/
structure OwnMade (h h' : Heap) (e C d : Addr) (v : Value) : Prop where
  keep : ∀ b o, h.get? b = some o → h'.get? b = some o
  new : h.objs.size ≤ e
  obj : ∃ oe vs, h'.get? e = some oe ∧ oe.cls = .ref C ∧ oe.dict = some d ∧ oe.data = .fields vs ∧ vs[1]? = some .none
  dbig : h.objs.size ≤ d
  dne : d ≠ e
  ns : h'.Ns1 d (fun y => if y = "number" then some v else none)
section
variable {prog : Program} {w : World} {A : Around} {E : Value → Shared → Prop} {R : Result → Shared → Prop} {s : Shared} {K : Frag} {mg : Str → Option Value} {C fI : Addr}
/-- the wrapper of ValueError.__init__ is called -/
theorem call_mw {u e t0 : Addr} {v : Value} {hp : Heap} {g : Array GenState} {d : Drawn} {tk : Nat} {os : OsState} {nm q : Str} {N : Addr} {bs bm : List Value} {hdct : Bool} {sn : List Str} {sub : List Value} {ab : Bool} {col : Option Bool} {dd : Option Addr} {k0 k1 k2 k3 k5 : Option Value} {Q : Value → Shared → Prop}
    (hC : hp.get? C = some (excClassObj nm q C N bs bm hdct sn sub ab col dd k0 k1 k2 k3 k5 "ValueError.__new__")) (he : hp.get? e = some (excO C t0)) (hu : hp.get? u = some (kxs_mw "ValueError.__init__" e))
    (hq : ∀ h' t1, (∀ b o, b ≠ e → hp.get? b = some o → h'.get? b = some o) → h'.get? e = some (excO C t1) → hp.objs.size ≤ h'.objs.size → Q .none ⟨h', g, d, tk, os⟩) :
    wpAny (model prog w) A (call (.ref u) [v]) Q E ⟨hp, g, d, tk, os⟩ := by
  refine wpAny_call (codeAny_of_tree ?_)
  show wpAny _ A.in1 (callAny (.ref u) ⟨[v], []⟩) _ _ _
  simp only [callAny]
  refine wpAny_bind (wpAny_load hu ?_)
  simp only [kxs_mw, show (Value.type "method-wrapper" == Value.type "method" || Value.type "method-wrapper" == Value.type "builtin_function_or_method" || Value.type "method-wrapper" == Value.type "method-wrapper") = true by decide, if_true]
  refine KFB.if_so (by decide) ?_
  refine wpAny_bind (check_bound_init F.excBase_ValueError.toExcCallFacts hC he rfl ?_)
  refine wpAny_bind (wpAny_pure (wpAny_pure ?_))
  refine ⟨plainId_quiet F.excBase_ValueError.init.plain _, codeAny_builtin F.excBase_ValueError.initEntry ?_⟩
  refine exc_init_tree (cls := .ref C) (t0 := t0) (dv := none) (c2 := .none) (c3 := .none) (b4 := .bool false) he (one_size v) fun h' k' e' t' => hq h' hp.objs.size k' e' (Nat.le_of_lt (Heap.lt_size t'))
theorem brk_init (T : BrkTxt prog K mg C fI) {x t0 : Addr} {v : Value} {mb : Str → Option Value} (X : K.In s.heap) (hlim : s.heap.NoLimit) (hG : s.heap.Ns mainGlobals mg) (hBl : s.heap.Ns builtinsNs mb) (hmb : ∀ y : Str, y ≠ "__name__" → mb y = bootBuiltins y) (hx : s.heap.get? x = some (excO C t0)) (hnx : K.lookup x = none) (hxg : x ≠ mainGlobals) (hxb : x ≠ builtinsNs) (hroom : A.depth < recursionLimit)
    (hq : ∀ h' tk dx t1, InitEnd s.heap h' x C dx t1 v → R (.ok (.ret .none)) { s with heap := h', toks := tk }) :
    codeAny (model prog w) A (.call (.ref fI) ⟨[.ref x, v], []⟩) R s := by
  obtain ⟨oc, od, kV, doc, pm, an, cda, cc, ct, osl, ccl, cdd, vs, ccs, file, tf, cl, cld, csl, ho, hcd, hcda, hvs, hfile, hcc⟩ := T.fn
  obtain ⟨nm, q, N, bs, sn, sub, ab, col, dd, k0, k1, k2, k3, k5, hC⟩ := T.cls
  have hcl : clsIn K C = some { name := nm, bases := bs, mro := .ref C :: veTail, ns := N, qualname := q, hasDict := true, slotNames := sn, subclasses := sub, abstract := ab, collection := col, hasDel := false } := by unfold clsIn; rw [hC] <;> rfl
  refine ks_codeAny_call_defAt (fd := ksFn "__init__" "Broken.__init__" iA iB iS .none kV doc pm an (.ref cda) ct cc) (body := iB) (binds := [("self", .ref x), ("number", v)]) hroom (X _ _ ho) rfl hlim (codeRec_of X hcd) rfl (BindsTo.of_eq (by first | rfl | with_unfolding_all rfl)) (show ∀ y ∈ iS.names, y.2 ≠ .cell by decide) (fun y hy => ?_) (fun h₁ hn k => ?_) rfl rfl rfl
  · rcases List.mem_cons.mp hy with e | e
    · subst e
      rfl
    · have e2 : y = (("number" : Str), v) := by simpa using e
      subst e2
      rfl
  obtain ⟨hp, g, d, tk, os⟩ := s
  have hxL : hp.objs.size ≠ x := Nat.ne_of_gt (Heap.lt_size hx)
  have X₁ : K.In h₁ := X.keeps k
  have hx₁ := k _ _ hx
  have I₁ : InstAt h₁ x (excO C t0) C none := ⟨hx₁, rfl, rfl, trivial⟩
  show _root_.PySem.wpAt (model prog w) _ (.func iB (ksEnv "Broken.__init__" iS hp.objs.size fI (.ref cda) cc)) (execs iB (ksEnv "Broken.__init__" iS hp.objs.size fI (.ref cda) cc)) _ _ _
  refine ks_wpAt_execs_cons (ks_wpAt_Expr_any (ks_wpAt_MethodCall (ks_wpAt_super_base (by rfl) (by rfl) (by decide) rfl (X₁ _ _ ho) rfl rfl rfl (X₁ _ _ hcda) rfl hvs hfile T.top ?_)))
  refine ks_loadName_global rfl (by rfl) (loadGlobal_builtin (hG.keeps k) T.noS (hBl.keeps k) ((hmb "super" (by decide)).trans (by decide +kernel)) ⟨rfl, ?_⟩)
  refine wpAny_loadName_free rfl (by rfl) rfl ⟨_, X₁ _ _ hcc, rfl⟩ ?_
  refine wpAny_loadName_local rfl (by rfl) hn (by first | rfl | with_unfolding_all rfl | kernel_rfl) ?_
  refine ks_wpAny_isType_cls (X₁ _ _ hC) rfl ⟨rfl, ?_⟩
  refine ks_wpAny_call_super (X₁ _ _ hC) rfl hx₁ rfl (fun c e => by cases e) (looks_mroIn X₁ T.mC) fun h₂ hso k₂ => ?_
  -- the bound __init__
  have X₂ : K.In h₂ := X₁.keeps k₂
  have hx₂ := k₂ _ _ hx₁
  have I₂ : InstAt h₂ x (excO C t0) C none := ⟨hx₂, rfl, rfl, trivial⟩
  have hn₂ := hn.keeps k₂
  have hz₂ : h₁.objs.size ≤ h₂.objs.size := Nat.le_of_lt (Heap.lt_size hso)
  refine kxs_getMethod kxs_ValueError hso (looks_opaque X₂ T.tp) (l₀ := .ref C :: veTail) (fun A Q E s k q => wpAny_bind ((looks_clsIn X₂ hcl) A _ E s k (wpAny_pure q))) (ESX.drop_own C veTail) X₂ (ve_along K) (I₂.type.andThen (looks_subIn X₂ T.ve)) (ks_ne X₂ I₂ hcl) (by decide) ?_
  -- its call
  have hu : (h₂.push (kxs_mw "ValueError.__init__" x)).get? h₂.objs.size = some (kxs_mw "ValueError.__init__" x) := Heap.get?_push_size _ rfl
  have k₃ : ∀ b o, h₂.get? b = some o → (h₂.push (kxs_mw "ValueError.__init__" x)).get? b = some o := fun b o e => Heap.get?_push_of_some _ e
  have hn₃ := hn₂.keeps k₃
  have X₃ : K.In (h₂.push (kxs_mw "ValueError.__init__" x)) := X₂.keeps k₃
  refine kxs_callWith (i := "ValueError.__init__") (x := x) rfl (evalArgs_plain ?_)
  refine Calls.spliced_cons (ESX.ldL hn₃ (v := v) (by first | rfl | with_unfolding_all rfl | kernel_rfl) (Calls.spliced_nil ⟨hu, ?_⟩) rfl (by rfl))
  refine call_mw (X₃ _ _ hC) (k₃ _ _ hx₂) hu fun h₄ t1 k₄ hx₄ hz₄ => ?_
  -- self.number = number
  have nL : hp.objs.size ≠ x := hxL
  have X₄ : K.In h₄ := kept_but X₃ hnx k₄
  have hn₄ : h₄.Ns hp.objs.size (fun y => [(("self" : Str), Value.ref x), (("number" : Str), v)].reverse.lookup y) := hn₃.at fun o e => k₄ _ o nL e
  refine wpAt_of_wpAny ?_
  refine wpAny_execs_cons (plainObj_wpAny_Assign_Attribute ?_)
  refine ESX.ldL hn₄ (v := v) (by first | rfl | with_unfolding_all rfl | kernel_rfl) (ESX.ldL hn₄ (v := .ref x) (by first | rfl | with_unfolding_all rfl | kernel_rfl) ?_ rfl (by rfl)) rfl (by rfl)
  refine set_plain X₄ (ox := excO C t1) (od := none) ⟨hx₄, rfl, rfl, trivial⟩ T.sa ?_
  refine exc_osa X₄ hx₄ hcl (show refsVE (.ref C :: veTail) = true by first | rfl | decide +kernel | kernel_rfl) rfl T.noN (fun h₅ tk₅ dx k₅ dn dne hx₅ hn₅ => ?_)
  have z : hp.objs.size < h₁.objs.size := hn.lt
  have z2 : h₂.objs.size < (h₂.push (kxs_mw "ValueError.__init__" x)).objs.size := Heap.lt_size hu
  refine wpAny_execs_nil (hq h₅ tk₅ dx t1 ⟨fun b o hb e => k₅ b o hb (k₄ b o hb (k₃ b o (k₂ b o (k b o e)))), hx₅, ?_, dne, hn₅⟩)
  exact Nat.le_trans (Nat.le_of_lt z) (Nat.le_trans hz₂ (Nat.le_trans (Nat.le_of_lt z2) (Nat.le_trans hz₄ dn)))
end
end BrkX
end PySem
-- Fx2
set_option maxHeartbeats 4000000
/-! Fx2: Broken(number) and CanNot() made. -/
namespace PySem
namespace BrkX
open PySem.W PySem.Calls PyProof.Rows PySem.HandSPX
section
variable {prog : Program} {w : World} {A : Around} {E : Value → Shared → Prop} {R : Result → Shared → Prop} {s : Shared} {K : Frag} {mg : Str → Option Value} {C fI : Addr}
theorem brk_made (T : BrkTxt prog K mg C fI) {v : Value} {mb : Str → Option Value} (X : K.In s.heap) (hlim : s.heap.NoLimit) (hG : s.heap.Ns mainGlobals mg) (hBl : s.heap.Ns builtinsNs mb) (hmb : ∀ y : Str, y ≠ "__name__" → mb y = bootBuiltins y) (hroom : A.depth + 1 < recursionLimit)
    (hq : ∀ h' tk e d, OwnMade s.heap h' e C d v → R (.ok (.ret (.ref e))) { s with heap := h', toks := tk }) :
    codeAny (model prog w) A (.call (.ref C) ⟨[v], []⟩) R s := by
  obtain ⟨nm, q, N, bs, sn, sub, ab, col, dd, k0, k1, k2, k3, k5, hC⟩ := T.cls
  obtain ⟨hp, g, dr, tk, os⟩ := s
  have k : ∀ b o, hp.get? b = some o → ((hp.push (kdv_tup [v])).push (excO C hp.objs.size)).get? b = some o := fun b o e => Heap.get?_push_of_some _ (Heap.get?_push_of_some _ e)
  have hget : ((hp.push (kdv_tup [v])).push (excO C hp.objs.size)).get? (hp.objs.size + 1) = some (excO C hp.objs.size) := by heap_get
  have hnx : K.lookup (hp.objs.size + 1) = none := by
    cases e : K.lookup (hp.objs.size + 1) with
    | none => rfl
    | some o =>
      have z : hp.get? (hp.objs.size + 1) = some o := X _ _ e
      exact absurd (Nat.lt_of_succ_lt (Heap.lt_size z)) (Nat.lt_irrefl _)
  have big : ∀ b o, hp.get? b = some o → hp.objs.size + 1 ≠ b := fun b o e z => by
    have := Heap.lt_size e
    rw [← z] at this
    exact absurd (Nat.lt_of_succ_lt this) (Nat.lt_irrefl _)
  refine call_own F.excBase_ValueError (fun X => refsVE_contains X veTail (by first | rfl | decide +kernel | kernel_rfl)) (X _ _ hC) (looks_findIn X T.iC) (fun self => bind_fn X self T.tC) (one_size v) ?_
  refine brk_init (s := ⟨(hp.push (kdv_tup [v])).push (excO C hp.objs.size), g, dr, tk, os⟩) T (X.keeps k) (hlim.keeps k) (hG.keeps k) (hBl.keeps k) hmb hget hnx ?_ ?_ ?_ fun h' tk' dx t1 ⟨k', hx, dn, dne, hns⟩ => ?_
  · obtain ⟨_, _, _, hg, _⟩ := hG
    exact big _ _ hg
  · obtain ⟨_, _, _, hg, _⟩ := hBl
    exact big _ _ hg
  · show A.depth + 1 < recursionLimit
    exact hroom
  · have old : ∀ b o, hp.get? b = some o → h'.get? b = some o := fun b o e => k' b o (Nat.ne_of_lt (Nat.lt_succ_of_lt (Heap.lt_size e))) (k b o e)
    have z : hp.objs.size + 1 + 1 ≤ dx := by
      first
        | (simpa only [Heap.size_push] using dn)
        | exact dn
        | (have q := dn; rw [Heap.size_push, Heap.size_push] at q; exact q)
    exact ⟨rfl, hq h' tk' (hp.objs.size + 1) dx ⟨old, Nat.le_succ _, ⟨_, _, hx, rfl, rfl, rfl, rfl⟩, Nat.le_trans (Nat.le_trans (Nat.le_succ _) (Nat.le_succ _)) z, dne, hns⟩⟩
end
end BrkX
end PySem
namespace G
open PySem PySem.Spec PyProof.Rows L2
theorem relO_brk {v : V} {v' : Value} (r : RelV v v') (f : Str) : RelO (List.lookup f [(("number" : Str), v)]) (if f = "number" then some v' else none) := by
  by_cases hw : f = "number"
  · subst hw
    rw [if_pos rfl]
    have q : List.lookup ("number" : Str) [(("number" : Str), v)] = some v := by simp [List.lookup]
    rw [q]
    exact r
  · rw [if_neg hw]
    have qw : (f == ("number" : Str)) = false := by simpa using hw
    have q2 : List.lookup f [(("number" : Str), v)] = none := by simp [List.lookup, qw]
    rw [q2]
    trivial
section
variable {X : Cx} {C fI : Addr}
/-- Broken(e) -/
def tMkBrk (C : Addr) (ta : TA) : L2.St → Hp → XK → Prop := fun σ H Q => ta σ H fun vs H1 => ∃ v, vs = [v] ∧ ∀ d, H1 d = none → Q (.ref C) (some d) (upd H1 d (.xd [(("number" : Str), v)]))
theorem pmk_brk {a : Expr} {ta : TA} {p pos : Pos} {k : Nat} (T : PySem.BrkX.BrkTxt X.prog X.K X.mg C fI) (hr : Room k X.A) (ha : PA X [a] ta) (hg : Gl X "Broken" := by rfl)
    (he : starEach (a :: []) X.env = (false, eval a X.env) :: starEach [] X.env := by rfl) (hpl : (backTo pos (starEach [] X.env)).any (·.1) = false := by rfl) :
    PMk X (.Call (.Name "Broken" p) [a] [] pos) (tMkBrk C ta) := by
  intro pins s σ H Q I h
  refine wpAny_Call_Name_kw (ld_glob I hg T.gC ?_)
  refine PySem.W.callWith_K (h₀ := X.base) I.ok.mod.kin T.kC (thn (ha.run pos pins s σ H _ I h) fun us s1 hh => ?_) he hpl
  obtain ⟨vs, H1, I1, r1, v, ev, q1⟩ := hh
  subst ev
  refine ⟨I1.kIn, ?_⟩
  cases r1 with
  | cons rv rn =>
    rename_i v' us'
    cases rn
    show wpAny _ _ (call (.ref C) [v']) _ _ _
    have hlim := I1.nolimit
    obtain ⟨mb, b1, b2⟩ := I1.mod.blt
    have hGl := I1.mod.glob.keeps I1.bk
    have hBl := b1.keeps I1.bk
    obtain ⟨hp, g, d, tk, os⟩ := s1
    refine wpAny_call (PySem.BrkX.brk_made T I1.kIn hlim hGl hBl b2 (by have := hr.dp; omega) fun h' tk' e d M => ?_)
    show MkP X pins σ Q (.ref e) ⟨h', g, _, tk', os⟩
    obtain ⟨oe, fv, hoe, hc, hd, hdat, h1⟩ := M.obj
    have hns := M.ns
    obtain ⟨G', g1, g2⟩ := restrict h' fun b => decide (b ≠ e)
    have gk : ∀ b, b ≠ e → G'.get? b = h'.get? b := fun b hb => g1 b (decide_eq_true hb)
    have ge : G'.get? e = none := g2 e (by simp)
    have old : ∀ b o, hp.get? b = some o → G'.get? b = some o := fun b o q => (gk b (Nat.ne_of_lt (Nat.lt_of_lt_of_le (Heap.lt_size q) M.new))).trans (M.keep b o q)
    have ob : ObjOk X.prog X.w (upd H1 d (.xd [(("number" : Str), v)])) G' d (.xd [(("number" : Str), v)]) :=
      ⟨_, hns.at (fun o q => (gk d M.dne).trans q), fun f => relO_brk rv f⟩
    have J := I1.laid (t' := tk') old M.dbig ob
    refine ⟨e, oe, fv, ⟨G', g, _, tk', os⟩, _, .ref C, some d, rfl, J, fun b o q => ?_, ge, hoe, ⟨hc, hd⟩, hdat, h1, ?_, rfl, I1.bare, raises_own T.exC T.tyC, q1 d (I1.hok.fresh M.dbig)⟩
    · by_cases hb : b = e
      · have q' : G'.get? b = some o := q
        rw [hb, ge] at q'; cases q'
      · exact (gk b hb).symm.trans q
    · rw [upd_ne (Ne.symm M.dne)]
      exact I1.hok.fresh M.new
/-- CanNot(): no argument -/
theorem pmk_own0 {C : Addr} {bmB : List Value} {B newId initId : String} {x : Str} {p pos : Pos} (Fb : ExcBaseFacts B newId initId bmB) (q : PySem.W.excIn X.K C bmB newId = true) (gC : X.mg x = some (.ref C)) (kC : PySem.W.keepIn X.K (.ref C) = true) (r : Raises X (.ref C)) (hg : Gl X x) (hdb : (x == ("__debug__" : Str)) = false := by decide) :
    PMk X (.Call (.Name x p) [] [] pos) (fun _ H Q => Q (.ref C) none H) := by
  intro pins s σ H Q I h
  refine wpAny_Call_Name_kw (ld_glob I hg gC (PySem.W.callWith_K0 I.kIn kC ?_) hdb)
  show wpAny _ _ (call (.ref C) []) _ _ _
  obtain ⟨bm, N, nm, qn, bs, hdct, sn, sub, ab, col, dd, k0, k1, k2, k3, k5, mN, hC, hN, hni, T⟩ := exc_obj I.kIn q
  refine wpAny_call_exc_subT Fb T hC hN hni (fun h' e hm => ?_) (Nat.zero_le _)
  exact mk_of I hm r h (I.hok.gone hm.new)
end
end G
-- Fx3
set_option maxHeartbeats 4000000
/-! Fx3: several clauses 'except x as n', one name in all of them. -/
namespace G
open PySem PySem.Spec PyProof.Rows L2
/-- the ends behind a clause: its name goes -/
def goneE (D : Ends) (i : Nat) : Ends := { nx := fun σ' H' => D.nx (σ'.set i none) H', rt := D.rt, bk := fun σ' H' => D.bk (σ'.set i none) H', ct := fun σ' H' => D.ct (σ'.set i none) H' }
/-- what the clauses wish, one after the other; none is left over -/
def wAll (K : PySem.W.Frag) (i : Nat) (D : Ends) : List (Value × (Addr → Value → Option Addr → TS)) → WX
  | [] => fun _ _ _ _ => False
  | (c, ts) :: rs => fun cls d σ H => ∃ yes, PySem.W.exmOne K cls c = some yes ∧ (yes = true → ∀ a, H a = none → ts a cls d (goneE D i) (σ.set i (some (.ref a))) H) ∧ (yes = false → wAll K i D rs cls d σ H)
inductive HdsAs (X : Cx) (n : Str) : List ExceptHandler → List (Value × (Addr → Value → Option Addr → TS)) → Prop
  | nil : HdsAs X n [] []
  | cons {x : Str} {c : Value} {ts : Addr → Value → Option Addr → TS} {st : Stmt} {sts : List Stmt} {np hp : Pos} {hds : List ExceptHandler} {rs : List (Value × (Addr → Value → Option Addr → TS))} (hc : Names X x c)
      (hsu : ∀ (a : Addr) (oe : Obj) (cls : Value) (d : Option Addr) (pn : List (Addr × Obj)), Zc cls d oe → (∃ vs, oe.data = .fields vs) → PSs (X.suite a ((a, oe) :: pn)) (st :: sts) (ts a cls d)) (r : HdsAs X n hds rs) :
      HdsAs X n (.ExceptHandler (some (.Name x np)) (some n) (st :: sts) hp :: hds) ((c, ts) :: rs)
section
variable {X : Cx} {n : Str} {i : Nat} {body : List Stmt} {hd0 : ExceptHandler} {hds0 : List ExceptHandler} {rs0 : List (Value × (Addr → Value → Option Addr → TS))} {pos : Pos} {tb : WX → TS}
theorem ps_try_ases (hstk : X.stack = X.env :: X.outer) (hfrm : X.env.frame = some X.env.locals) (hN : X.N.Nodup) (hi : X.N[i]? = some n) (hln : X.env.kindOf n = some .local)
    (hbd : ∀ (Wx : WX) (pn : List (Addr × Obj)) (xe : Value → Shared → Prop), Takes (X.tr pn xe) Wx → PassesOwn (model X.prog X.w) X.A X.env xe → PSs (X.tr pn xe) body (tb Wx))
    (hhs : HdsAs X n (hd0 :: hds0) rs0) : PS X (.Try body (hd0 :: hds0) [] [] pos) (fun D σ H => tb (wAll X.K i D rs0) D σ H) := by
  refine ⟨fun pins s σ H D I hyp => ?_⟩
  have xok := I.ok
  have hfrs : X.A.frames = some (X.env :: X.outer) := by rw [xok.frames, hstk]
  have hnl : Loc X.env.scope n := .inl hln
  refine wpAny_Try_except (wpAny_mono ((hbd (wAll X.K i D rs0) (X.pn ++ pins) (fun ev sa => wpAny (model X.prog X.w) X.A (noteFrame ev X.env) (fun _ sb => wpAny (model X.prog X.w) X.A (setFlight ev none) (fun _ sc =>
    wpAny (model X.prog X.w) X.A (handleBy ev X.env (hd0 :: hds0)) (SP X pins D) X.xe sc) X.xe sb) X.xe sa) (fun u s' xx => ?_) PassesOwn.looking).run [] s σ H D (I.toTry _) hyp) (fun fl s1 hsp => ?_) (fun ev s1 hev => hev))
  · obtain ⟨a, B, sI, pins', σ', H', cls, d, rfl, J', nb, up, sky, na, os, ag, wish⟩ := xx
    have J : Inv X pins σ' H' sI := J'.ofTry xok
    have sky2 : Sky B (X.env :: X.outer) a (Zc cls d) X.env.locals s'.heap := hstk ▸ sky
    show wpAny (model X.prog X.w) X.A (noteFrame (.ref a) X.env) _ _ _
    refine Sky.land Zc.steady hfrs hfrm sky2 fun h3 fl3 up3 => ?_
    have J3 : Inv X pins σ' H' { s' with heap := h3 } := J.landed nb fl3.1 (up.trans up3) os ag
    obtain ⟨oe3, vs3, he3, hz3, hd3⟩ := fl3.there
    have nfrs : a ∉ frs (X.env :: X.outer) := fun hm => by
      obtain ⟨_, o2, e2, hnf⟩ := fl3.2.2.1.mem hm
      rw [he3] at e2
      cases e2
      exact hnf _ hd3
    have nlc : a ≠ X.env.locals := fun z => nfrs (List.mem_filterMap.mpr ⟨X.env, List.mem_cons_self, by rw [hfrm, z]⟩)
    have nfs : a ∉ X.fs := fun hm => by
      obtain ⟨ee, hee, q⟩ := List.mem_filterMap.mp hm
      exact nfrs (List.mem_filterMap.mpr ⟨ee, List.mem_cons_of_mem _ hee, q⟩)
    have S3 := J3.suite he3 hd3 na nlc nfs
    have each : ∀ {hds : List ExceptHandler} {rs : List (Value × (Addr → Value → Option Addr → TS))}, HdsAs X n hds rs → wAll X.K i D rs cls d σ' H' → wpAny (model X.prog X.w) X.A (handleBy (.ref a) X.env hds) (SP X pins D) X.xe { s' with heap := h3 } := by
      intro hds rs hk
      induction hk with
      | nil => exact fun z => z.elim
      | @cons x c ts st sts np hp hds rs hc hsu r ih =>
        rintro ⟨yes, hyes, hthen, helse⟩
        have lty : PySem.W.Looks (model X.prog X.w) h3 (typeOf (.ref a)) cls := fun A Q E s k q => wpAny_typeOf_ref (k _ _ he3) (by rw [hz3.1]; exact q)
        have lmt := PySem.W.exm_one (M := model X.prog X.w) (J3.kIn) lty hyes
        have named : ∀ {Q E : Value → Shared → Prop}, Q c { s' with heap := h3 } → wpAny (model X.prog X.w) (X.A.mark (some (.ref a))) (eval (.Name x np) X.env) Q E { s' with heap := h3 } := fun {Q E} q => by
          obtain ⟨hgl, hdb, hm | ⟨hm, hv, hnn⟩⟩ := hc
          · exact ld_glob (X := X.suite a ((a, oe3) :: (X.pn ++ pins))) S3 hgl hm q hdb
          · exact ld_blt (X := X.suite a ((a, oe3) :: (X.pn ++ pins))) S3 hgl hm hv q hnn hdb
        refine wpAny_handleBy_cons (codeAny_handlers_test (named (lmt.here ?_))) (fun q => nomatch q)
        cases yes with
        | false => exact ih (helse rfl)
        | true =>
          refine codeAny_handlers_suite_as (HandSPX.lands_againZ fl3 fun h4 fl4 up4 => ?_)
          have J4 : Inv X pins σ' H' { s' with heap := h4 } := J.landed nb fl4.1 ((up.trans up3).trans up4) os ag
          obtain ⟨oe4, vs4, he4, hz4, hd4⟩ := fl4.there
          have S4 := J4.suite he4 hd4 na nlc nfs
          refine store_ok (X := X.suite a ((a, oe4) :: (X.pn ++ pins))) (v := .ref a) S4 hN hi hnl rfl (fun s5 S5 => ?_) (.inr hln)
          refine wpAny_mono ((hsu a oe4 cls d (X.pn ++ pins) hz4 ⟨_, hd4⟩).run [] s5 _ H' _ S5 (hthen rfl a na)) (fun fl s6 hsp => ?_) (fun _ _ z => z.elim)
          have after : ∀ {σ6 : L2.St} {H6 : Hp} {Q : Shared → Prop}, Inv (X.suite a ((a, oe4) :: (X.pn ++ pins))) [] σ6 H6 s6 → (∀ s7, Inv X pins (σ6.set i none) H6 s7 → Q s7) → wpAny (model X.prog X.w) X.A (do bindName X.env n .none; unbindBehindTheSuite X.env n hp) (fun _ s7 => Q s7) X.xe s6 := fun {σ6 H6 Q} S6 hq => gone_ok (S6.unsuite xok) hN hi hln hq
          cases fl with
          | next =>
            obtain ⟨_, _, S6, q6⟩ := hsp
            exact after S6 fun _ J7 => ⟨_, _, J7, q6⟩
          | brk =>
            obtain ⟨_, _, S6, q6⟩ := hsp
            exact after S6 fun _ J7 => ⟨_, _, J7, q6⟩
          | cont =>
            obtain ⟨_, _, S6, q6⟩ := hsp
            exact after S6 fun _ J7 => ⟨_, _, J7, q6⟩
          | ret u =>
            obtain ⟨_, _, _, S6, r6, q6⟩ := hsp
            exact after S6 fun _ J7 => ⟨_, _, _, J7, r6, q6⟩
    exact each hhs wish
  · cases fl with
    | next =>
      obtain ⟨_, _, J2, q⟩ := hsp
      exact wpAny_execs_nil ⟨_, _, J2.ofTry xok, q⟩
    | brk =>
      obtain ⟨_, _, J2, q⟩ := hsp
      exact ⟨_, _, J2.ofTry xok, q⟩
    | cont =>
      obtain ⟨_, _, J2, q⟩ := hsp
      exact ⟨_, _, J2.ofTry xok, q⟩
    | ret u =>
      obtain ⟨_, _, _, J2, r, q⟩ := hsp
      exact ⟨_, _, _, J2.ofTry xok, r, q⟩
end
end G
-- Fx4
set_option maxHeartbeats 4000000
/-! Fx4: play_drawn and play_number where they refuse. -/
namespace G
open PySem PySem.Spec PyProof.Rows L2
abbrev veT : List Value := [.type "ValueError", .type "Exception", .type "BaseException", .type "object"]
structure CanTxt (K : PySem.W.Frag) (mg : Str → Option Value) (C : Addr) : Prop where
  gC : mg "CanNot" = some (.ref C)
  q : PySem.W.excIn K C veT "ValueError.__new__" = true
  kC : PySem.W.keepIn K (.ref C) = true
  exC : PySem.W.subIn K (.ref C) (.type "BaseException") = some true
  tyC : PySem.W.typeIn K (.ref C) = some (.type "type")
/-- a def that may raise -/
structure CalX (P : Program) (w : World) (K : PySem.W.Frag) (mg : Str → Option Value) (base : Heap) (k : Nat) (x : Str) (sp : Sp) : Prop where
  ex : ∃ (f : Addr) (fd : FuncData) (ps : List Str), FnOk P w K mg base (L2.CX P w) k f fd ps sp ∧ mg x = some (.ref f) ∧ PySem.W.keepIn K (.ref f) = true ∧ L2.Binds K fd ps []
abbrev rX (P : Program) (w : World) (K : PySem.W.Frag) (mg : Str → Option Value) (base : Heap) (N : List Str) (x : Str) (st : Stmt) (f : Addr) (cdv : Value) (A : Around) (outer : List PySem.Env) (s : Shared) (H : Hp) (E : XK) : Cx := cxOf (L2.CX P w) P w K mg base N x (defScope st) f cdv A outer s H E
/-- it raises, R of the arguments and the way out -/
def spR (R : List D → Wd → XK → Prop) : Sp := fun vs H Q E => ∃ (W : Wd) (ds : List D), W.H = H ∧ RpA W.F ds vs ∧ R ds W E
section
variable {P : Program} {w : World} {K : PySem.W.Frag} {mg : Str → Option Value} {base : Heap} {x : Str} {st : Stmt} {N ps : List Str} {k : Nat} {R : List D → Wd → XK → Prop}
theorem mk_calX (D0 : Df K mg x st ps) (S : FnScope N ps (defScope st)) (hps : ps.length ≤ N.length) (len : ∀ ds W E, R ds W E → ds.length = ps.length)
    (body : ∀ (f : Addr) (cdv : Value) (A : Around) (outer : List PySem.Env) (s : Shared) (H : Hp) (E : XK), Room k (rX P w K mg base N x st f cdv A outer s H E).A → Takes (rX P w K mg base N x st f cdv A outer s H E) (fun cls d _ H' => E cls d H') → ∀ ds W, R ds W E →
      Hr (rX P w K mg base N x st f cdv A outer s H E) (defBody st) (ctxN N ds) { en := fun t W0 => t = none ∧ W0 = W }) : CalX P w K mg base (k + 1) x (spR R) := by
  obtain ⟨f, fd, F, hm, hb⟩ := D0.ex
  refine ⟨f, fd, ps, F.okX S (fun vs H Q E h => ?_) (fun cdv A outer s H vs Q E hr h => ?_), hm, F.kp, hb⟩
  · obtain ⟨W, ds, _, h1, h2⟩ := h
    rw [h1.len, len ds W E h2]
  · obtain ⟨W, ds, rfl, h1, h2⟩ := h
    refine ⟨_, pss_w _ _, body f cdv A outer s W.H E hr (takes_of rfl rfl rfl rfl) ds W h2 none W W _ ⟨rfl, rfl⟩ (.refl _ _) (ctxN_eq (N := N) (ds := ds) (by rw [len ds W E h2]; exact hps) ▸ env_start h1 (by rw [len ds W E h2]; exact hps)) _ (fun _ _ _ _ _ _ z => z.elim) (fun _ _ _ _ _ _ _ _ _ z => z.elim) (fun _ _ _ _ _ _ z => z.elim) (fun _ _ _ _ _ _ z => z.elim)⟩
end
section
variable {X : Cx} {Γ : Ctx} {e a : Expr} {rest : List Stmt} {pos p : Pos} {P : Post}
theorem hr_raise {Wx : WX} {tm : L2.St → Hp → XK → Prop} (hc : X.calm = true) (tk : Takes X Wx) (hm : PMk X e tm) (h : ∀ (t : Option Addr) (W0 W : Wd) (σ : L2.St), P.en t W0 → Le t W0 W → Env X.K t W0 W σ Γ → tm σ W.H fun cls d H' => Wx cls d σ H') : Hr X (.Raise (some e) none pos :: rest) Γ P :=
  hr_cons (M := fun _ => False) (fun t W0 W σ en l E De _ _ _ _ => wS_of (ps_raise hc tk hm) (h t W0 W σ en l E)) fun _ z => z.elim
end
section
variable {P : Program} {w : World} {K : PySem.W.Frag} {mg : Str → Option Value} {base : Heap} {C fI C0 : Addr}
def R_brk (C : Addr) : List D → Wd → XK → Prop := fun ds W E => ∃ (n : Nat) (ts : List Pr) (x : D) (i : Int), NetOk n ts ∧ Okd 3 x ∧ tupD x = ordD n ts ∧ (i < 0 ∨ ((playsF n ts (2 ^ n - 1)).length : Int) ≤ i) ∧ ds = [x, .int i] ∧
  ∀ W2 : Wd, Ext W W2 → ∀ d, W2.H d = none → E (.ref C) (some d) (upd W2.H d (.xd [(("number" : Str), .int i)]))
theorem ok_drawnX (Tx : PySem.BrkX.BrkTxt P K mg C fI) (D0 : Df K mg "play_drawn" (topS 49) ["order", "number"]) (c1 : Cal P w K mg base 6 "sure_order" (spF R_sure_order)) (c2 : Cal P w K mg base 1 "is_number" (spF R_is_number)) (c3 : Cal P w K mg base 3 "counts_in" (spF R_counts)) (c4 : Cal P w K mg base 1 "tops_by_bits" (spF R_tops)) (c5 : Cal P w K mg base 2 "is_within" (spF R_is_within)) : CalX P w K mg base 7 "play_drawn" (spR (R_brk C)) :=
  mk_calX D0 sc49 (by decide) (fun ds W E ⟨_, _, _, _, _, _, _, _, h, _⟩ => by rw [h]; rfl) fun f cdv A outer s H E hr tk ds W ⟨n, ts, x, i, N, hx, ex, hi, h1, hE⟩ => by
    subst h1
    have hn := N.go.n60
    refine hr_asg 2 sc49.nd (x_call c1 hr (by decide) (a_cons (x_nm 0) a_nil) ⟨x, n, ts, N.go, hx, ex, rfl, rfl⟩) ?_
    refine hr_ifF (t_not (k := true) (t_val (x_call c2 hr (by decide) (a_cons (x_nm 1) a_nil) ⟨.int i, rfl, rfl⟩))) ?_
    refine hr_asgT rfl (k_x (x_call c3 hr (by decide) (a_cons (x_nm 2) a_nil) ⟨n, ts, N.go.prsOk, N.fe, N.cl, rfl, rfl⟩) (k_x (x_call c4 hr (by decide) (a_cons (x_nm 2) a_nil) ⟨n, ts, N.go.prsOk, rfl, rfl⟩) (k_x (x_full (x_ixT (d := nD n) (x_nm 2).rd x_int rfl) (by omega)) (k_x (x_nm 1) (k_x (x_tup a_nil (Nat.le_of_ble_eq_true rfl)) k_nil))))) (tk_cons 3 sc49.nd (tk_cons 4 sc49.nd (tk_cons 5 sc49.nd (tk_cons 6 sc49.nd (tk_cons 7 sc49.nd tk_nil))))) ?_
    refine hr_iflv (k := true) (t_not (k := false) (t_val (x_call c5 hr (by decide) (a_cons (x_nm 1) (a_cons x_int (a_cons (x_op (rx (x_ixD (d := nD (playsF n ts (2 ^ n - 1)).length) hr.u1 (x_nm 3).rd (x_nm 5) (N.dget N.pl.full))) (x_int (i := 1)).rd d_sub) a_nil))) ⟨i, 0, ((playsF n ts (2 ^ n - 1)).length : Int) - 1, rfl, ?_⟩))) (fun _ => ?_) (fun z => by cases z)
    · rcases hi with hi | hi
      · rw [decide_eq_false (show ¬ (0 : Int) ≤ i by omega)]
        rfl
      · rw [decide_eq_false (show ¬ i ≤ ((playsF n ts (2 ^ n - 1)).length : Int) - 1 by omega), Bool.and_false]
    · refine hr_raise rfl tk (pmk_brk Tx hr (pa_w _ _)) fun t W0 W1 σ en l E1 => ?_
      obtain ⟨rfl, rfl⟩ := en
      exact (a_cons (x_nm 1 (d := .int i)) a_nil) none W0 W1 σ l E1 _ fun vs W2 e2 r2 => by
        obtain ⟨v, vs2, rfl, hv, hn2⟩ := r2
        have hn2 : vs2 = [] := hn2
        have hv : v = .int i := hv
        subst hn2 hv
        exact ⟨_, rfl, fun d hd => hE W2 (l.ext0.trans e2) d hd⟩
theorem bits_pos {ps : List Nat} (h : ps ≠ []) : 0 < bitsF ps := by
  cases ps with
  | nil => exact (h rfl).elim
  | cons p ps =>
    unfold bitsF
    rw [List.map_cons, List.sum_cons]
    have : 0 < 2 ^ p := Nat.two_pow_pos p
    omega
def R_can (C0 : Addr) : List D → Wd → XK → Prop := fun ds W E => ∃ (n : Nat) (ts : List Pr) (ps : List Nat) (x y : D), GoodO n ts ∧ FewOk n ts ∧ PcOk n ps ∧ FreshP ts ps ∧ behF n ts ps ≠ [] ∧ Okd 3 x ∧ tupD x = ordD n ts ∧ Okd 1 y ∧ tupD y = nsD ps ∧ ds = [x, y] ∧
  ∀ W2 : Wd, Ext W W2 → E (.ref C0) none W2.H
theorem ok_numberX (Tx : CanTxt K mg C0) (D0 : Df K mg "play_number" (topS 50) ["order", "play"]) (c1 : Cal P w K mg base 7 "behind_play" (spF R_behind_play)) : CalX P w K mg base 8 "play_number" (spR (R_can C0)) :=
  mk_calX D0 sc50 (by decide) (fun ds W E ⟨_, _, _, _, _, _, _, _, _, _, _, _, _, _, h, _⟩ => by rw [h]; rfl) fun f cdv A outer s H E hr tk ds W ⟨n, ts, ps, x, y, g, hf, hpc, hfr, hbe, hx, ex, hy, ey, h1, hE⟩ => by
    subst h1
    refine hr_unp rfl (x_call c1 hr (by decide) (a_cons (x_nm 0) (a_cons (x_nm 1) a_nil)) ⟨n, ts, ps, x, y, g, hf, hpc, hfr, hx, ex, hy, ey, rfl, rfl⟩) (tk_cons 2 sc50.nd (tk_cons 3 sc50.nd (tk_cons 4 sc50.nd tk_nil))) ?_
    refine hr_iflv (k := true) (EvT.to (t_cmp (x_nm 4).rd (x_int (i := ((0 : Nat) : Int))).rd d_gtN) (decide_eq_true (bits_pos hbe))) (fun _ => ?_) (fun z => by cases z)
    refine hr_raise rfl tk (pmk_own0 PySem.F.excBase_ValueError Tx.q Tx.gC Tx.kC (raises_own Tx.exC Tx.tyC) (by rfl)) fun t W0 W1 σ en l E1 => ?_
    obtain ⟨rfl, rfl⟩ := en
    exact hE W1 l.ext0
end
end G
-- Fe1
set_option maxHeartbeats 4000000
/-! Fe1: expressions and statements with an effect on the box of draws. -/
namespace G
open PySem PySem.Spec PyProof.Rows L2
/-- several expressions, effects from left to right -/
def EvAG (X : Cx) (es : List Expr) (Γ : Ctx) (R : List D → Nat → Prop) : Prop :=
  ∀ (t : Option Addr) (W0 W : Wd) (σ : L2.St), Le t W0 W → Env X.K t W0 W σ Γ → ∀ Q : List V → Hp → Prop, (∀ vs ds W2 κ, Le t W W2 → VolR t W2 κ → RpA W2.F ds vs → R ds κ → Q vs W2.H) → wA X es σ W.H Q
section
variable {X : Cx} {Γ Γ' : Ctx} {e a b c tg iter elt : Expr} {es ifs tgs : List Expr} {st : Stmt} {rest body : List Stmt} {pos p pos' apos spos : Pos} {d d1 d2 d3 : D} {P : Post} {scope : Scope} {own : List (Str × Nat)} {κ : Nat} {R : D → Nat → Prop}
theorem Env.tv2 {K : PySem.W.Frag} {t : Option Addr} {W0 W W2 : Wd} {σ : L2.St} (E : Env K t W0 W σ Γ) (l : Le t W W2) {κ : Nat} (y : VolR t W2 κ) : Tv t W2 := E.tv.le l y
theorem EvX.gR {i : Nat} (hi : Γ[i]? = some (.vol (Tin κ))) (h : EvX X e Γ d) (r : R d κ) : EvG X e Γ R := (EvX.g hi h).imp fun d' κ' z => by
  obtain ⟨z1, z2⟩ := z
  subst z1 z2
  exact r
theorem EvT.gR {i : Nat} {k : Bool} {R : Bool → Nat → Prop} (hi : Γ[i]? = some (.vol (Tin κ))) (h : EvT X e Γ k) (r : R k κ) : EvTG X e Γ R := fun t W0 W σ l E Q q => h t W0 W σ l E Q fun W2 e2 => q k W2 κ (e2.le t) ((E.volR hi).ext e2) r
theorem ag_nil {R : List D → Nat → Prop} {i : Nat} (hi : Γ[i]? = some (.vol (Tin κ))) (r : R [] κ) : EvAG X [] Γ R := fun t W0 W σ l E Q q => wA_of pa_nil (q [] [] W κ (.refl _ _) (E.volR hi) rfl r)
theorem EvA.gR {R : List D → Nat → Prop} {ds : List D} {i : Nat} (hi : Γ[i]? = some (.vol (Tin κ))) (h : EvA X es Γ ds) (r : R ds κ) : EvAG X es Γ R := fun t W0 W σ l E Q q => h t W0 W σ l E Q fun vs W2 e2 r2 => q vs ds W2 κ (e2.le t) ((E.volR hi).ext e2) r2 r
theorem ag_cons {R : List D → Nat → Prop} {R1 : D → Nat → Prop} (h : EvG X e Γ R1) (hr : ∀ d κ, R1 d κ → EvAG X es (sv κ Γ) fun ds κ' => R (d :: ds) κ') (hs : starEach (e :: es) X.env = (false, eval e X.env) :: starEach es X.env := by rfl) : EvAG X (e :: es) Γ R := fun t W0 W σ l E Q q =>
  wA_of (pa_cons (pe_w X e) (pa_w X es) hs) (h t W0 W σ l E _ fun v d W1 κ l1 y1 r1 z1 => hr d κ z1 t W0 W1 σ (l.trans E.tv l1) (E.le l l1 y1) _ fun vs ds W2 κ' l2 y2 r2 z2 => q (v :: vs) (d :: ds) W2 κ' (l1.trans (E.tv2 l1 y1) l2) y2 ⟨v, vs, rfl, r1.mono l2.f, r2⟩ z2)
/-- the rest has no effect -/
theorem ag_consX {R : List D → Nat → Prop} {R1 : D → Nat → Prop} (h : EvG X e Γ R1) (hr : ∀ d κ, R1 d κ → ∃ ds, EvA X es (sv κ Γ) ds ∧ R (d :: ds) κ) (hs : starEach (e :: es) X.env = (false, eval e X.env) :: starEach es X.env := by rfl) : EvAG X (e :: es) Γ R := fun t W0 W σ l E Q q =>
  wA_of (pa_cons (pe_w X e) (pa_w X es) hs) (h t W0 W σ l E _ fun v d W1 κ l1 y1 r1 z1 => by
    obtain ⟨ds, h2, z2⟩ := hr d κ z1
    exact h2 t W0 W1 σ (l.trans E.tv l1) (E.le l l1 y1) _ fun vs W2 e2 r2 => q (v :: vs) (d :: ds) W2 κ (l1.trans (E.tv2 l1 y1) (e2.le t)) (y1.ext e2) ⟨v, vs, rfl, r1.mono e2.f, r2⟩ z2)
theorem g_op {op : Operator} {R1 : D → Nat → Prop} (h1 : EvG X a Γ R1) (h2 : ∀ d1 κ, R1 d1 κ → EvG X b (sv κ Γ) fun d2 κ' => ∃ d, OpD X (binaryOp op) d1 d2 d ∧ R d κ') : EvG X (.BinOp a op b pos) Γ R := fun t W0 W σ l E Q q => by
  unfold wE
  refine fun pins s I => wpAny_BinOp (binT (pe_w X a) (pe_w X b) I (R := fun x y H2 => ∃ W2 d1 d2 κ d, H2 = W2.H ∧ Le t W W2 ∧ VolR t W2 κ ∧ Rp W2.F d1 x ∧ Rp W2.F d2 y ∧ OpD X (binaryOp op) d1 d2 d ∧ R d κ) (h1 t W0 W σ l E _ fun v1 d1 W1 κ1 l1 y1 r1 z1 => h2 d1 κ1 z1 t W0 W1 σ (l.trans E.tv l1) (E.le l l1 y1) _ fun v2 d2 W2 κ l2 y2 r2 z2 => ?_) fun v u s2 x y H2 I2 rx ry q2 => ?_)
  · obtain ⟨d, h3, h4⟩ := z2
    exact ⟨W2, d1, d2, κ, d, rfl, l1.trans (E.tv2 l1 y1) l2, y2, r1.mono l2.f, r2, h3, h4⟩
  · obtain ⟨W2, d1, d2, κ, d, rfl, l2, yv, r1, r2, ⟨r, hr, hq⟩, h4⟩ := q2
    exact hr pins s2 σ W2.H x y v u Q I2 rx ry (hq W2 x y r1.rq r2.rq Q fun v W3 e3 r3 => q v d W3 κ (l2.trans (Tv.le E.tv l2 yv) (e3.le t)) (yv.ext e3) r3 h4)
theorem tg_cmp {op : CmpOp} {R1 : D → Nat → Prop} {Rb : Bool → Nat → Prop} (h1 : EvG X a Γ R1) (h2 : ∀ d1 κ, R1 d1 κ → ∃ d2 k, EvX X b (sv κ Γ) d2 ∧ OpD X (compareOp op) d1 d2 (.bl k) ∧ Rb k κ) (hm : behindInMarks op b = false := by first | exact nobehind _ (by decide) (by decide) | rfl) : EvTG X (.Compare a [op] [b] pos) Γ Rb := fun t W0 W σ l E Q q => by
  let r0 : R2 := fun x y H Q' => ∀ (pins : List (Addr × Obj)) (s : Shared) (σ' : L2.St) (u v : Value), Inv X pins σ' H s → RelV x u → RelV y v → wpAny (model X.prog X.w) X.A (compareOp op u v) (EP X pins σ' Q') X.xe s
  have ho : OpR X (compareOp op) r0 := fun pins s σ' H x y v u Q' I rx ry h => h pins s σ' v u I rx ry
  refine wT_of (pt_cmpR ho (pe_w X a) (pe_w X b) hm) (h1 t W0 W σ l E _ fun v1 d1 W1 κ l1 y1 r1 z1 => ?_)
  obtain ⟨d2, k, hb, ⟨r, hr, hq⟩, z2⟩ := h2 d1 κ z1
  refine hb t W0 W1 σ (l.trans E.tv l1) (E.le l l1 y1) _ fun v2 W2 e2 r2 => ?_
  intro pins s σ' u v I rx ry
  exact hr pins s σ' W2.H v1 v2 u v _ I rx ry (hq W2 v1 v2 (r1.rq.ext e2) r2.rq _ fun v W3 e3 r3 => ⟨k, r3, q k W3 κ (l1.trans (E.tv2 l1 y1) ((e2.trans e3).le t)) (y1.ext (e2.trans e3)) z2⟩)
theorem wg_and1 {Rb : Bool → Nat → Prop} (h : EvTG X a Γ Rb) : EvWG X (.BoolOp .And [a] pos) Γ Rb := fun t W0 W σ l E Q q => wW_of fun whole pins s I => (pw_and1 (pt_w X a)).run whole pins s σ W.H Q I (h t W0 W σ l E Q q)
/-- and: the first without an effect -/
theorem wg_and {i : Nat} {k : Bool} {Rb : Bool → Nat → Prop} (hi : Γ[i]? = some (.vol (Tin κ))) (h1 : EvT X a Γ k) (hk : k = false → Rb false κ) (h2 : k = true → EvWG X (.BoolOp .And (b :: es) pos) Γ Rb) : EvWG X (.BoolOp .And (a :: b :: es) pos) Γ Rb := fun t W0 W σ l E Q q => wW_of fun whole pins s I =>
  (pw_and (pt_w X a) (pw_w X _)).run whole pins s σ W.H Q I (h1 t W0 W σ l E _ fun W1 e1 => by
    cases k with
    | false => exact iteF (q false W1 κ (e1.le t) ((E.volR hi).ext e1) (hk rfl))
    | true => exact iteT (h2 rfl t W0 W1 σ (l.ext E.tv e1) (E.ext e1) _ fun b W2 κ' l2 => q b W2 κ' ((e1.le t).trans (E.ext e1).tv l2)))
theorem EvWG.t {Rb : Bool → Nat → Prop} (h : EvWG X e Γ Rb) : EvTG X e Γ Rb := fun t W0 W σ l E Q q => wT_of (PW.pt (pw_w X e)) (h t W0 W σ l E Q q)
theorem g_if {Rb : Bool → Nat → Prop} (h : EvTG X c Γ Rb) (h1 : ∀ κ, Rb true κ → EvG X a (sv κ Γ) R) (h2 : ∀ κ, Rb false κ → EvG X b (sv κ Γ) R) : EvG X (.IfExp c a b pos) Γ R := fun t W0 W σ l E Q q =>
  wE_of (pe_ifExp (pt_w X c) (pe_w X a) (pe_w X b)) (h t W0 W σ l E _ fun k W1 κ l1 y1 z1 => by
    cases k with
    | true => exact iteT (h1 κ z1 t W0 W1 σ (l.trans E.tv l1) (E.le l l1 y1) _ fun v d W2 κ' l2 => q v d W2 κ' (l1.trans (E.tv2 l1 y1) l2))
    | false => exact iteF (h2 κ z1 t W0 W1 σ (l.trans E.tv l1) (E.le l l1 y1) _ fun v d W2 κ' l2 => q v d W2 κ' (l1.trans (E.tv2 l1 y1) l2)))
theorem g_ixL {R1 : D → Nat → Prop} {ds : List D} (h1 : EvX X a Γ (.lst ds)) (h2 : EvG X b Γ fun d κ => ∃ (i : Int) (x : D), d = .int i ∧ atI ds i = some x ∧ R x κ) (hs : PlainIx b := by exact fun _ _ => rfl) : EvG X (.Subscript a b pos) Γ R := fun t W0 W σ l E Q q =>
  wE_of (pe_ix ix_list (pe_w X a) (pe_w X b) hs) (h1 t W0 W σ l E _ fun v1 W1 e1 r1 => h2 t W0 W1 σ (l.ext E.tv e1) (E.ext e1) _ fun v2 d2 W2 κ l2 y2 r2 z2 => by
    obtain ⟨i, x, rfl, hx, hR⟩ := z2
    obtain ⟨p, xs, hv, hp, hxs⟩ := r1.mono l2.f
    subst hv
    have r2 : v2 = .int i := r2
    subst r2
    obtain ⟨v, hv, rv⟩ := atI_rp hxs hx
    exact ⟨p, xs, i, v, rfl, rfl, SqL.of (W2.ok _ _ hp), hv, q v x W2 κ ((e1.le t).trans (E.ext e1).tv l2) y2 rv hR⟩)
theorem g_ixT {R1 : D → Nat → Prop} {ds : List D} (h1 : EvX X a Γ (.tup ds)) (h2 : EvG X b Γ fun d κ => ∃ (i : Int) (x : D), d = .int i ∧ atI ds i = some x ∧ R x κ) (hs : PlainIx b := by exact fun _ _ => rfl) : EvG X (.Subscript a b pos) Γ R := fun t W0 W σ l E Q q =>
  wE_of (pe_ix ix_tup (pe_w X a) (pe_w X b) hs) (h1 t W0 W σ l E _ fun v1 W1 e1 r1 => h2 t W0 W1 σ (l.ext E.tv e1) (E.ext e1) _ fun v2 d2 W2 κ l2 y2 r2 z2 => by
    obtain ⟨i, x, rfl, hx, hR⟩ := z2
    obtain ⟨p, xs, hv, hp, hxs⟩ := r1.mono l2.f
    subst hv
    have r2 : v2 = .int i := r2
    subst r2
    obtain ⟨v, hv, rv⟩ := atI_rp hxs hx
    exact ⟨p, xs, i, v, rfl, rfl, SqT.of (W2.ok _ _ hp), hv, q v x W2 κ ((e1.le t).trans (E.ext e1).tv l2) y2 rv hR⟩)
theorem g_tup {k : Nat} (h : EvAG X es Γ fun ds κ => ds.length ≤ 100000 ∧ R (.tup ds) κ) : EvG X (.Tuple es k pos) Γ R := fun t W0 W σ l E Q q =>
  wE_of (pe_tup (pa_w X es)) (h t W0 W σ l E _ fun vs ds W1 κ l1 y1 r1 z1 => ⟨by rw [r1.len]; exact Nat.le_trans z1.1 (by decide), tup_new r1 fun v W2 e2 r2 => q v _ W2 κ (l1.trans (E.tv2 l1 y1) (e2.le t)) (y1.ext e2) r2 z1.2⟩)
/-- + of lists -/
theorem g_cat {R1 : D → Nat → Prop} {ds : List D} (h1 : EvX X a Γ (.lst ds)) (h2 : EvG X b Γ fun d κ => ∃ es', d = .lst es' ∧ ds.length + es'.length ≤ 100000 ∧ R (.lst (ds ++ es')) κ) : EvG X (.BinOp a .Add b pos) Γ R := fun t W0 W σ l E Q q => by
  refine wE_of (pe_op op_cat (pe_w X a) (pe_w X b)) (h1 t W0 W σ l E _ fun v1 W1 e1 r1 => h2 t W0 W1 σ (l.ext E.tv e1) (E.ext e1) _ fun v2 d2 W2 κ l2 y2 r2 z2 => ?_)
  obtain ⟨es', rfl, hz, hR⟩ := z2
  obtain ⟨p, xs, hv, hp, hx⟩ := r1.mono l2.f
  obtain ⟨p', ys, hv', hp', hy⟩ := r2
  subst hv hv'
  refine ⟨p, p', xs, ys, rfl, rfl, W2.ok _ _ hp, W2.ok _ _ hp', by rw [hx.len, hy.len]; exact Nat.le_trans hz (by decide), fun p0 hp0 => ?_⟩
  obtain ⟨W3, z1, z2, z3⟩ := layF (o := .lst (xs ++ ys)) hp0
  rw [← z1]
  have s0 : Same W2.F W3.F := z3.f
  exact q _ (.lst (ds ++ es')) W3 κ (((e1.le t).trans (E.ext e1).tv l2).trans (Tv.le E.tv ((e1.le t).trans (E.ext e1).tv l2) y2) (z3.le t)) (y2.ext z3) ⟨p0, _, rfl, by rw [z2]; exact upd_same, (hx.app hy).mono s0⟩ hR
/-! ### statements -/
theorem hr_stepG {M : Ctx → Prop} (h : ∀ (t : Option Addr) (W0 W : Wd) (σ : L2.St), Le t W0 W → Env X.K t W0 W σ Γ → ∀ De : Ends, (∀ σ2 W2 Γ2, Le t W0 W2 → Same W.F W2.F → Env X.K t W0 W2 σ2 Γ2 → M Γ2 → De.nx σ2 W2.H) → wS X st De σ W.H) (k : ∀ Γ2, M Γ2 → Hr X rest Γ2 P) : Hr X (st :: rest) Γ P :=
  hr_cons (M := M) (fun t W0 W σ _ l E De q1 _ _ _ => h t W0 W σ l E De fun σ2 W2 Γ2 l2 f2 E2 m => q1 σ2 W2 Γ2 l2 f2 E2 m) k
theorem hr_asgG (i : Nat) {x : Str} (hN : X.N.Nodup) (h : EvG X e Γ R) (k : ∀ d κ, R d κ → Hr X rest ((sv κ Γ).set i (.pu d)) P) (hi : X.N[i]? = some x := by rfl) (hx : Loc X.env.scope x := by first | exact Or.inl rfl | exact Or.inr rfl) (hs : swapsWith e (some (.Name x pos')) pos.line X.env = pure false := by rfl) (hf : X.fn x = true ∨ X.env.scope.names.lookup x = some .local := by first | exact .inl rfl | exact .inr rfl) :
    Hr X (.Assign [.Name x pos'] e pos :: rest) Γ P := hr_stepG (M := fun Γ2 => ∃ d κ, R d κ ∧ Γ2 = (sv κ Γ).set i (.pu d)) (fun t W0 W σ l E De q =>
  wS_of (ps_set hN hi hx (pe_w X e) hs hf) (h t W0 W σ l E _ fun v d W1 κ l1 y1 r1 z1 => q _ W1 _ (l.trans E.tv l1) l1.f ((E.le l l1 y1).setPu i r1) ⟨d, κ, z1, rfl⟩)) fun Γ2 ⟨d, κ, z, e⟩ => by
    subst e
    exact k d κ z
theorem hr_retG (h : EvG X e Γ R) (q : ∀ d κ, R d κ → P.rt d (sv κ Γ)) : Hr X (.Return (some e) pos :: rest) Γ P := hr_cons (M := fun _ => False) (fun t W0 W σ _ l E De _ q2 _ _ =>
  wS_of (ps_ret (pe_w X e)) (h t W0 W σ l E _ fun v d W1 κ l1 y1 r1 z1 => q2 v d σ W1 _ (l.trans E.tv l1) l1.f (E.le l l1 y1) r1 (q d κ z1))) fun _ z => z.elim
theorem hr_ifG {M : Ctx → Prop} {bt bf : List Stmt} {Rb : Bool → Nat → Prop} (h : EvTG X c Γ Rb) (h1 : ∀ κ, Rb true κ → Hr X bt (sv κ Γ) { P with nx := M }) (h2 : ∀ κ, Rb false κ → Hr X bf (sv κ Γ) { P with nx := M }) (h3 : ∀ Γ', M Γ' → Hr X rest Γ' P) : Hr X (.If c bt bf pos :: rest) Γ P :=
  hr_cons (M := M) (fun t W0 W σ en l E De q1 q2 q3 q4 => wS_of (ps_if (pt_w X c) (pss_w X bt) (pss_w X bf)) (h t W0 W σ l E _ fun k W1 κ l1 y1 z1 => by
    have E1 := E.le l l1 y1
    have l2 := l.trans E.tv l1
    cases k with
    | true => exact iteT (h1 κ z1 t W0 W1 σ en l2 E1 De (fun σ2 W2 Γ2 a b => q1 σ2 W2 Γ2 a (l1.f.trans b)) (fun v d σ2 W2 Γ2 a b => q2 v d σ2 W2 Γ2 a (l1.f.trans b)) (fun σ2 W2 Γ2 a b => q3 σ2 W2 Γ2 a (l1.f.trans b)) (fun σ2 W2 Γ2 a b => q4 σ2 W2 Γ2 a (l1.f.trans b)))
    | false => exact iteF (h2 κ z1 t W0 W1 σ en l2 E1 De (fun σ2 W2 Γ2 a b => q1 σ2 W2 Γ2 a (l1.f.trans b)) (fun v d σ2 W2 Γ2 a b => q2 v d σ2 W2 Γ2 a (l1.f.trans b)) (fun σ2 W2 Γ2 a b => q3 σ2 W2 Γ2 a (l1.f.trans b)) (fun σ2 W2 Γ2 a b => q4 σ2 W2 Γ2 a (l1.f.trans b))))) h3
/-- a, b, .. = x, y, .. by way of a tuple, effects -/
theorem hr_asgTG {n k1 k2 : Nat} {pt pt2 : Pos} {Rs : List D → Nat → Prop} (hc : X.calm = true) (h : EvAG X es Γ Rs) (k : ∀ ds κ, Rs ds κ → ds.length = n ∧ ∃ Γ', TgK X tgs (ds.map Slot.pu) (sv κ Γ) Γ' ∧ Hr X rest Γ' P) (hn : (assignEach tgs X.env).length = n := by rfl) (hst : (assignEach tgs X.env).findIdx? (·.1) = none := by rfl) (hsm : n ≤ 1000 := by exact Nat.le_of_ble_eq_true rfl)
    (hs : swapsWithSole [.Tuple tgs k1 pt] (.Tuple es k2 pt2) pos.line X.env = pure false := by rfl) (hw : swappedStores [.Tuple tgs k1 pt] (.Tuple es k2 pt2) X.env = pure none := by rfl) :
    Hr X (.Assign [.Tuple tgs k1 pt] (.Tuple es k2 pt2) pos :: rest) Γ P := hr_stepG (M := fun Γ2 => Hr X rest Γ2 P) (fun t W0 W σ l E De q =>
  wS_of (ps_asg (pe_tup (pa_w X es)) (pg_tup hc (pgs_w X tgs) hn hst) hs hw) (h t W0 W σ l E _ fun vs ds W2 κ l2 y2 r2 z2 => by
    obtain ⟨hl, Γ', ht, kk⟩ := k ds κ z2
    refine ⟨by rw [r2.len, hl]; exact Nat.le_trans hsm (by decide), fun p hp => ?_⟩
    obtain ⟨W3, z1, z2, z3⟩ := lay (o := .tup vs) hp
    rw [← z1]
    have E2 := E.le l l2 y2
    have l3 := (l.trans E.tv l2).ext E2.tv z3
    refine ⟨p, vs, rfl, SqT.of (by rw [z1]; exact upd_same), by rw [r2.len, hl], ?_⟩
    exact ht t W0 W3 σ vs l3 E2.len (by rw [List.length_map, r2.len]) (env_pus (r2.mono z3.f) l3 (E2.ext z3)) _ fun σ' E' => q σ' W3 Γ' l3 (l2.f.trans z3.f) E' kk)) fun _ z => z
/-- a, b = x, y stored from the right, effects -/
theorem hr_parG (i j : Nat) {x y : Str} {px py pt pt2 : Pos} {kt k2 : Nat} {Rs : List D → Nat → Prop} (hc : X.calm = true) (hN : X.N.Nodup) (h : EvAG X [a, b] Γ Rs) (k : ∀ ds κ, Rs ds κ → ∃ d1 d2, ds = [d1, d2] ∧ Hr X rest (((sv κ Γ).set i (.pu d1)).set j (.pu d2)) P) (hi : X.N[i]? = some x := by rfl) (hj : X.N[j]? = some y := by rfl) (hij : i ≠ j := by decide)
    (hx : X.env.scope.names.lookup x = some .local := by rfl) (hy : X.env.scope.names.lookup y = some .local := by rfl) (hl1 : i < Γ.length := by exact Nat.le_of_ble_eq_true rfl) (hl2 : j < Γ.length := by exact Nat.le_of_ble_eq_true rfl)
    (hw : swappedStores [.Tuple [.Name x px, .Name y py] kt pt] (.Tuple [a, b] k2 pt2) X.env = pure (some [x, y]) := by rfl)
    (hs : swapsWithSole [.Tuple [.Name x px, .Name y py] kt pt] (.Tuple [a, b] k2 pt2) pos.line X.env = pure false := by rfl) :
    Hr X (.Assign [.Tuple [.Name x px, .Name y py] kt pt] (.Tuple [a, b] k2 pt2) pos :: rest) Γ P := hr_stepG (M := fun Γ2 => Hr X rest Γ2 P) (fun t W0 W σ l E De q =>
  wS_of (ps_par hc hN hi hj hij hx hy (pa_w X _) hw hs) (h t W0 W σ l E _ fun vs ds W2 κ l2 y2 r2 z2 => by
    obtain ⟨d1, d2, rfl, kk⟩ := k ds κ z2
    obtain ⟨v1, vs1, rfl, h1, v2, vs2, rfl, h2, h3⟩ := r2
    have h3 : vs2 = [] := h3
    subst h3
    exact ⟨v1, v2, rfl, q _ W2 _ (l.trans E.tv l2) l2.f (((E.le l l2 y2).setPu i h1).setPu j h2) kk⟩)) fun _ z => z
end
end G
-- Fe2
set_option maxHeartbeats 4000000
/-! Fe2: comprehensions that draw; defs that draw; the box's items. -/
namespace G
open PySem PySem.Spec PyProof.Rows L2
def StepG (X : Cx) (scope : Scope) : List Expr → Expr → Ctx → (Nat → Prop) → (D → Nat → Prop) → Prop
  | [], elt, Γ1, _, Ps => ∀ s H0 C cl fp, EvG (bX X scope s H0 C cl fp) elt Γ1 Ps
  | [c], elt, Γ1, Pn, Ps => ∀ s H0 C cl fp, EvTG (bX X scope s H0 C cl fp) c Γ1 fun b κ1 => if b = true then (∀ s H0 C cl fp, EvG (bX X scope s H0 C cl fp) elt (sv κ1 Γ1) Ps) else Pn κ1
  | _ :: _ :: _, _, _, _, _ => False
theorem Le.at {t : Option Addr} {W W2 : Wd} (l : Le t W W2) {D : Addr} {o : HO} (ht : some D ≠ t) (h1 : W.F D = none) (h2 : W.H D = some o) : W2.F D = none ∧ W2.H D = some o := by
  refine ⟨?_, l.h _ _ h2 ht⟩
  cases q : W2.F D with
  | none => rfl
  | some u =>
    have := l.n D h1 (by rw [q]; exact fun z => nomatch z)
    rw [h2] at this
    cases this
section
variable {X : Cx} {Γ Γ' : Ctx} {e a b c tg iter elt : Expr} {es ifs tgs : List Expr} {st : Stmt} {rest body : List Stmt} {pos p py pos' apos spos : Pos} {d d1 d2 d3 : D} {P : Post} {scope : Scope} {own : List (Str × Nat)} {κ : Nat} {R : D → Nat → Prop}
theorem lcG_read {α : Type} {enc : α → D} {xs : List α} {wi : TI} (hwi : ∀ (t : Option Addr) (W0 W : Wd) (σ : L2.St), Le t W0 W → Env X.K t W0 W σ Γ → ∀ R : It → Hp → Prop, (∀ J W1, Ext W W1 → WalkD J W1 (xs.map enc) → R J W1.H) → wi σ W.H R)
    (I : Nat → List D → Nat → Prop) (hl : xs.length ≤ 100000) {i0 : Nat} (hi0 : Γ[i0]? = some (.vol (Tin κ))) (h0 : I 0 [] κ) (hlen : ∀ j acc κ, I j acc κ → acc.length ≤ j)
    (h : ∀ j x acc κ, xs[j]? = some x → I j acc κ → ∃ Γ1, (∀ s H0 C cl fp, TgX (bX X scope s H0 C cl fp) tg (enc x) (wipeC (sv κ Γ) (own.map (·.2))) Γ1 (own.map (·.2))) ∧ StepG X scope ifs elt Γ1 (fun κ' => I (j + 1) acc κ') fun d κ' => I (j + 1) (acc ++ [d]) κ')
    (t : Option Addr) (W0 W : Wd) (σ : L2.St) (l : Le t W0 W) (E : Env X.K t W0 W σ Γ) (Q : VK) (q : ∀ acc κ', I xs.length acc κ' → ∀ v W2, Le t W W2 → VolR t W2 κ' → Rp W2.F (.lst acc) v → Q v W2.H) : tLc wi (gB X scope tg) (tsB X scope ifs) (eB X scope elt) (own.map (·.2)) σ W.H Q := by
  refine hwi t W0 W σ l E _ fun J W1 e1 wd Da hD => ?_
  obtain ⟨Gh, Y, w, hG, hY⟩ := wd
  rw [List.length_map] at w
  have E1 := E.ext e1
  have l1 := l.ext E.tv e1
  have htD : some Da ≠ t := fun z => by
    obtain ⟨_, o, ho⟩ := E1.tv Da z.symm
    rw [hD] at ho
    cases ho
  refine lc_it w (fun i H' => ∃ (W' : Wd) (acc : List D) (av : List V) (κ' : Nat), W'.H = H' ∧ Le t W1 W' ∧ VolR t W' κ' ∧ W'.F Da = none ∧ W'.H Da = some (.lst av) ∧ RpA W'.F acc av ∧ I i acc κ') ?_ ?_ ?_ ?_
  · obtain ⟨W2, z1, z2, z3⟩ := lay (o := .lst []) hD
    exact ⟨W2, [], [], κ, z1, z3.le t, ((E.volR hi0).ext e1).ext z3, by rw [z2]; exact F_none hD, by rw [z1]; exact upd_same, rfl, h0⟩
  · rintro i H' _ ⟨W', acc, av, κ', rfl, x1, _⟩
    exact hG W' x1.f
  · rintro i x H' H'' hi ⟨W', acc, av, κ', rfl, x1, y1, x2, x3, x4, hI⟩ y
    obtain ⟨W'', rfl, e2, d, hd, rd⟩ := hY i x W' H'' (by rw [List.length_map]; exact hi) x1.f y
    rw [List.getElem?_map] at hd
    have hx : xs[i]? = some xs[i] := List.getElem?_eq_getElem hi
    rw [hx] at hd
    have ed : enc xs[i] = d := Option.some.inj hd
    subst ed
    obtain ⟨Γ1, hb1, hb2⟩ := h i xs[i] acc κ' hx hI
    have lw : Le t W1 W'' := x1.trans (E1.tv2 x1 y1) (e2.le t)
    have yw := y1.ext e2
    have E2 := (E1.le l1 lw yw).wipe (own.map (·.2))
    have l2 := l1.trans E1.tv lw
    have e2n : W''.F Da = none := e2.nf x2 x3
    have e2h := e2.h _ _ x3
    have hav : av.length ≤ xs.length := by
      rw [x4.len]
      exact Nat.le_trans (hlen _ _ _ hI) (Nat.le_of_lt hi)
    -- the item is put behind
    have put : ∀ (W5 : Wd) (d : D) (v : V) (κ5 : Nat), Le t W'' W5 → VolR t W5 κ5 → Rp W5.F d v → I (i + 1) (acc ++ [d]) κ5 → ∃ av, W5.H Da = some (.lst av) ∧ av.length < sizeLine ∧ ∃ (W' : Wd) (acc : List D) (av2 : List V) (κ' : Nat), W'.H = upd W5.H Da (.lst (av ++ [v])) ∧ Le t W1 W' ∧ VolR t W' κ' ∧ W'.F Da = none ∧ W'.H Da = some (.lst av2) ∧ RpA W'.F acc av2 ∧ I (i + 1) acc κ' := fun W5 d v κ5 l5 y5 r5 hI5 => by
      obtain ⟨hF, hH⟩ := l5.at htD e2n e2h
      have l15 := lw.trans (E1.tv2 lw yw) l5
      refine ⟨av, hH, Nat.lt_of_le_of_lt (Nat.le_trans hav hl) (by decide), ⟨W5.F, upd W5.H Da (.lst (av ++ [v])), fun a u ha => ?_⟩, acc ++ [d], av ++ [v], κ5, rfl, ⟨fun a u ha ne => ?_, l15.f, l15.n⟩, fun a ha => ?_, hF, upd_same, (x4.mono (e2.f.trans l5.f)).app (.one r5), hI5⟩
      · rw [upd_ne (fun z => by subst z; rw [hF] at ha; cases ha)]
        exact W5.ok _ _ ha
      · show upd W5.H Da _ a = _
        rw [upd_ne (ne_of_none ha hD)]
        exact l15.h _ _ ha ne
      · obtain ⟨o, z1, z2⟩ := y5 a ha
        refine ⟨o, ?_, z2⟩
        show upd W5.H Da _ a = _
        rw [upd_ne (fun z => htD (by rw [← z, ha]))]
        exact z1
    intro s H0 C cl fp
    refine hb1 s H0 C cl fp t W0 W'' _ x l2 E2 rd _ fun σ' W3 e3 E3 hw => ⟨by rw [hw, wipe_wipe], ?_⟩
    have l3 := l2.ext E2.tv e3
    have y3 := yw.ext e3
    match ifs, hb2 with
    | [], hb2 =>
      unfold tsB tYes
      show _root_.ite (true = true) _ _
      refine iteT ?_
      intro s H0 C cl fp
      refine hb2 s H0 C cl fp t W0 W3 σ' l3 E3 _ fun v d W5 κ5 l5 y5 r5 z5 => ?_
      exact put W5 d v κ5 ((e3.le t).trans E3.tv l5) y5 r5 z5
    | [c], hb2 =>
      show tsB X scope [c] σ' W3.H _
      intro s H0 C cl fp
      refine hb2 s H0 C cl fp t W0 W3 σ' l3 E3 _ fun bb W4 κ4 l4 y4 z4 => ?_
      have l24 : Le t W'' W4 := (e3.le t).trans E3.tv l4
      cases bb with
      | false =>
        have z4 : I (i + 1) acc κ4 := z4
        obtain ⟨hF, hH⟩ := l24.at htD e2n e2h
        exact iteF ⟨W4, acc, av, κ4, rfl, lw.trans (E1.tv2 lw yw) l24, y4, hF, hH, x4.mono (e2.f.trans l24.f), z4⟩
      | true =>
        refine iteT ?_
        intro s H0 C cl fp
        have z4' : ∀ s H0 C cl fp, EvG (bX X scope s H0 C cl fp) elt (sv κ4 Γ1) (fun d κ' => I (i + 1) (acc ++ [d]) κ') := z4
        refine z4' s H0 C cl fp t W0 W4 σ' (l3.trans E3.tv l4) (E3.le l3 l4 y4) _ fun v d W5 κ5 l5 y5 r5 z5 => ?_
        exact put W5 d v κ5 (l24.trans (E3.tv2 l4 y4) l5) y5 r5 z5
    | _ :: _ :: _, hb2 => exact hb2.elim
  · rintro H' ⟨W', acc, av, κ', rfl, x1, y1, x2, x3, x4, hI⟩
    have s0 : Same W'.F (upd W'.F Da (.lst av)) := same_put x2
    refine q acc κ' hI (.ref Da) (W'.put Da _ x3) ⟨fun a u ha ne => x1.h a u (e1.h _ _ ha) ne, e1.f.trans (x1.f.trans s0), fun a z1 z2 => ?_⟩ y1 ⟨Da, av, rfl, upd_same, x4.mono s0⟩
    by_cases e : a = Da
    · subst e
      exact e1.h.free hD
    · have z3 : upd W'.F Da _ a ≠ none := z2
      rw [upd_ne e] at z3
      cases e3 : W1.F a with
      | none => exact e1.h.free (x1.n a e3 z3)
      | some o => exact e1.n a z1 (by rw [e3]; exact fun z => nomatch z)
theorem g_lc {α : Type} (own : List (Str × Nat)) (enc : α → D) (xs : List α) (I : Nat → List D → Nat → Prop) (hc : X.calm = true) (hN : X.N.Nodup) (hit : ItX X tg iter Γ (xs.map enc)) (ok : blkC X.N X.env.scope scope own = true) (hl : xs.length ≤ 100000) {i0 : Nat} (hi0 : Γ[i0]? = some (.vol (Tin κ))) (h0 : I 0 [] κ) (hlen : ∀ j acc κ, I j acc κ → acc.length ≤ j)
    (h : ∀ j x acc κ, xs[j]? = some x → I j acc κ → ∃ Γ1, (∀ s H0 C cl fp, TgX (bX X scope s H0 C cl fp) tg (enc x) (wipeC (sv κ Γ) (own.map (·.2))) Γ1 (own.map (·.2))) ∧ StepG X scope ifs elt Γ1 (fun κ' => I (j + 1) acc κ') fun d κ' => I (j + 1) (acc ++ [d]) κ')
    (hd : ∀ acc κ', I xs.length acc κ' → R (.lst acc) κ') (hs : ∀ x, foldedSetIterable iter X.env x = pure x := by intro _; rfl) : EvG X (.ListComp elt [⟨tg, iter, ifs, 0⟩] scope pos) Γ R := by
  obtain ⟨wi, hpi, hwi⟩ := hit
  exact fun t W0 W σ l E Q q => wE_of (pe_lc hc hN hpi (blkOk_by ok) (gB_ok X scope tg) (tsB_ok X scope ifs) (eB_ok X scope elt) hs) (lcG_read hwi I hl hi0 h0 hlen h t W0 W σ l E Q fun acc κ' hI v W2 l2 y2 r2 => q v _ W2 κ' l2 y2 r2 (hd acc κ' hI))
theorem hr_lcG {α : Type} (i : Nat) {y : Str} (own : List (Str × Nat)) (enc : α → D) (xs : List α) (I : Nat → List D → Nat → Prop) (hc : X.calm = true) (hN : X.N.Nodup) (hit : ItX X tg iter Γ (xs.map enc)) (ok : blkC X.N X.env.scope scope own = true) (hl : xs.length ≤ 100000) {i0 : Nat} (hi0 : Γ[i0]? = some (.vol (Tin κ))) (h0 : I 0 [] κ) (hlen : ∀ j acc κ, I j acc κ → acc.length ≤ j)
    (hsw : swapsWith (.ListComp elt [⟨tg, iter, ifs, 0⟩] scope pos) (some (.Name y pos')) spos.line X.env = pure true)
    (h : ∀ j x acc κ, xs[j]? = some x → I j acc κ → ∃ Γ1, (∀ s H0 C cl fp, TgX (bX X scope s H0 C cl fp) tg (enc x) (wipeC (sv κ Γ) (own.map (·.2))) Γ1 (own.map (·.2))) ∧ StepG X scope ifs elt Γ1 (fun κ' => I (j + 1) acc κ') fun d κ' => I (j + 1) (acc ++ [d]) κ')
    (k : ∀ acc κ', I xs.length acc κ' → Hr X rest ((sv κ' Γ).set i (.pu (.lst acc))) P)
    (hy : X.N[i]? = some y := by rfl) (hyl : X.env.scope.names.lookup y = some .local := by rfl) (hs : ∀ x, foldedSetIterable iter X.env x = pure x := by intro _; rfl) : Hr X (.Assign [.Name y pos'] (.ListComp elt [⟨tg, iter, ifs, 0⟩] scope pos) spos :: rest) Γ P :=
  hr_stepG (M := fun Γ2 => ∃ acc κ', I xs.length acc κ' ∧ Γ2 = (sv κ' Γ).set i (.pu (.lst acc))) (fun t W0 W σ l E De q => by
    obtain ⟨wi, hpi, hwi⟩ := hit
    refine wS_of (ps_setLc hc hN hy hyl hsw hpi (blkOk_by ok) (gB_ok X scope tg) (tsB_ok X scope ifs) (eB_ok X scope elt) hs) ?_
    exact lcG_read hwi I hl hi0 h0 hlen h t W0 W σ l E _ fun acc κ' hI v W2 l2 y2 r2 => q _ W2 _ (l.trans E.tv l2) l2.f ((E.le l l2 y2).setPu i r2) ⟨acc, κ', hI, rfl⟩) fun Γ2 ⟨acc, κ', hI, e⟩ => by
      subst e
      exact k acc κ' hI
/-! ### defs that draw -/
def spT (Pre : List D → Nat → Prop) (R : List D → Nat → D → Nat → Prop) : Sp := fun vs H Q _ => ∃ (W : Wd) (a : Addr) (o : HO) (ws : List V) (ds : List D) (κ : Nat), W.H = H ∧ vs = .ref a :: ws ∧ RpA W.F ds ws ∧ W.F a = none ∧ W.H a = some o ∧ Tin κ o ∧ Pre ds κ ∧
  ∀ v d W2 κ', Le (some a) W W2 → VolR (some a) W2 κ' → Rp W2.F d v → R ds κ d κ' → Q v W2.H
theorem env_startT {K : PySem.W.Frag} {W : Wd} {x : Str} {N : List Str} {ds : List D} {ws : List V} {a : Addr} {o : HO} {κ : Nat} (h : RpA W.F ds ws) (hl : ds.length ≤ N.length) (hF : W.F a = none) (hH : W.H a = some o) (ht : Tin κ o) : Env K (some a) W W (L2.start (x :: N) (.ref a :: ws)) (.vol (Tin κ) :: ctxN N ds) := by
  have E0 := env_start (K := K) h hl
  rw [ctxN_eq hl] at E0
  obtain ⟨hl0, ⟨ow, _, _, h3⟩, _, _⟩ := E0
  have es : L2.start (x :: N) (.ref a :: ws) = some (.ref a) :: L2.start N ws := by
    unfold L2.start
    simp
  have tv : Tv (some a) W := fun b hb => by
    cases hb
    exact ⟨hF, o, hH⟩
  have np : ∀ (N : List Str) (ds : List D) (j : Nat) (s : Slot), (ctxN N ds)[j]? = some s → s = .un ∨ ∃ d, s = .pu d := by
    intro N
    induction N with
    | nil =>
      intro ds j s hs
      simp [ctxN] at hs
    | cons y N ih =>
      intro ds j s hs
      cases ds with
      | nil =>
        cases j with
        | zero => exact .inl (Option.some.inj hs).symm
        | succ j => exact ih [] j s (by simpa [ctxN] using hs)
      | cons d ds =>
        cases j with
        | zero => exact .inr ⟨d, (Option.some.inj hs).symm⟩
        | succ j => exact ih ds j s (by simpa [ctxN] using hs)
  rw [es]
  refine ⟨by rw [List.length_cons, List.length_cons, hl0], ⟨fun _ _ => False, fun _ _ _ z _ => z.elim, fun _ _ z => z.elim, fun i s hs => ?_⟩, tv, tv⟩
  cases i with
  | zero =>
    have : s = .vol (Tin κ) := (Option.some.inj hs).symm
    subst this
    exact ⟨a, o, rfl, rfl, hH, ht⟩
  | succ i =>
    have hs2 : (ctxN N ds)[i]? = some s := by simpa using hs
    have q := h3 i s hs2
    show SlR K (some a) W _ s ((L2.start N ws)[i]?)
    rcases np N ds i s hs2 with e | ⟨d, e⟩
    · subst e
      trivial
    · subst e
      exact q
end
section
variable {P : Program} {w : World} {K : PySem.W.Frag} {mg : Str → Option Value} {base : Heap} {x y0 : Str} {st : Stmt} {N ps : List Str} {k : Nat} {Pre : List D → Nat → Prop} {R : List D → Nat → D → Nat → Prop}
theorem mk_calT (D0 : Df K mg x st ps) (S : FnScope (y0 :: N) ps (defScope st)) (hps : ps.length ≤ N.length + 1) (len : ∀ ds κ, Pre ds κ → ds.length + 1 = ps.length)
    (body : ∀ (f : Addr) (cdv : Value) (A : Around) (outer : List PySem.Env) (s : Shared) (H : Hp) (E : XK), Room k (bdX P w K mg base (y0 :: N) x st f cdv A outer s H E).A → ∀ ds κ, Pre ds κ →
      Hr (bdX P w K mg base (y0 :: N) x st f cdv A outer s H E) (defBody st) (.vol (Tin κ) :: ctxN N ds) { rt := fun d Γ' => ∃ κ', Γ'[0]? = some (.vol (Tin κ')) ∧ R ds κ d κ' }) : Cal P w K mg base (k + 1) x (spT Pre R) := by
  obtain ⟨f, fd, F, hm, hb⟩ := D0.ex
  refine ⟨f, fd, ps, F.ok S (fun vs H Q E h => ?_) (fun cdv A outer s H vs Q E hr h => ?_), hm, F.kp, hb⟩
  · obtain ⟨W, a, o, ws, ds, κ, _, rfl, h1, _, _, _, h2, _⟩ := h
    rw [List.length_cons, h1.len, len ds κ h2]
  · obtain ⟨W, a, o, ws, ds, κ, rfl, rfl, h1, hF, hH, ht, h2, h3⟩ := h
    have hle : ds.length ≤ N.length := by
      have := len ds κ h2
      omega
    refine ⟨_, pss_w _ _, body f cdv A outer s W.H E hr ds κ h2 (some a) W W _ trivial (.refl _ _) (env_startT h1 hle hF hH ht) _ (fun _ _ _ _ _ _ z => z.elim) (fun v d' σ2 W2 Γ2 l2 _ E2 r2 z => ?_) (fun _ _ _ _ _ _ z => z.elim) (fun _ _ _ _ _ _ z => z.elim)⟩
    obtain ⟨κ', z1, z2⟩ := z
    exact h3 v d' W2 κ' l2 (E2.volR z1) r2 z2
end
section
variable {X : Cx} {Γ Γ' : Ctx} {e a b c tg iter elt : Expr} {es ifs tgs : List Expr} {st : Stmt} {rest body : List Stmt} {pos p py pos' apos spos : Pos} {d d1 d2 d3 : D} {P : Post} {scope : Scope} {own : List (Str × Nat)} {κ k j : Nat} {R : D → Nat → Prop} {x y : Str}
theorem g_callT {Pre : List D → Nat → Prop} {Rf : List D → Nat → D → Nat → Prop} {ds : List D} (i : Nat) (c : Cal X.prog X.w X.K X.mg X.base k x (spT Pre Rf)) (hr : Room j X.A) (hk : k ≤ j) (ha : EvA X es Γ ds) (hP : Pre ds κ) (hR : ∀ d κ', Rf ds κ d κ' → R d κ') (hi : Γ[i]? = some (.vol (Tin κ)) := by rfl) (hN : X.N[i]? = some y := by rfl) (hv : Vis X.env.scope y := by first | exact Or.inl rfl | exact Or.inr (Or.inl rfl) | exact Or.inr (Or.inr rfl))
    (hd : (y == ("__debug__" : Str)) = false := by decide) (hcd : (y == ("__classdict__" : Str)) = false := by decide) (hg : Gl X x := by rfl) (hdb : (x == ("__debug__" : Str)) = false := by decide) (he : starEach (.Name y py :: es) X.env = (false, eval (.Name y py) X.env) :: starEach es X.env := by rfl) (hpl : (backTo pos (starEach es X.env)).any (·.1) = false := by rfl) :
    EvG X (.Call (.Name x p) (.Name y py :: es) [] pos) Γ R := fun t W0 W σ l E Q q => by
  obtain ⟨f, fd, ps, F, hm, kp, bb⟩ := c.ex
  obtain ⟨a0, o, hσ, ta, _⟩ := E.vol hi
  subst ta
  refine wE_of (pe_call F (hr.mono hk) hg hm kp bb .nil pass0 (pa_cons (pe_var hN hv hd hcd) (pa_w X es) he) hdb he hpl) ⟨_, hσ, ha (some a0) W0 W σ l E _ fun vs W1 e1 r1 => ?_⟩
  obtain ⟨a1, o1, _, ta1, hH1, hT1⟩ := (E.ext e1).vol hi
  cases ta1
  exact ⟨W1, a0, o1, vs, ds, κ, rfl, by rw [List.append_nil], r1, ((E.ext e1).tv a0 rfl).1, hH1, hT1, hP, fun v d W2 κ' l2 y2 r2 z2 => q v d W2 κ' ((e1.le _).trans (E.ext e1).tv l2) y2 r2 (hR d κ' z2)⟩
theorem g_call {Rf : List D → D → Prop} (c : Cal X.prog X.w X.K X.mg X.base k x (spF Rf)) (hr : Room j X.A) (hk : k ≤ j) (ha : EvAG X (e :: es) Γ fun ds κ => ∃ d, Rf ds d ∧ R d κ) (hg : Gl X x := by rfl) (hdb : (x == ("__debug__" : Str)) = false := by decide) (he : starEach (e :: es) X.env = (false, eval e X.env) :: starEach es X.env := by rfl) (hpl : (backTo pos (starEach es X.env)).any (·.1) = false := by rfl) :
    EvG X (.Call (.Name x p) (e :: es) [] pos) Γ R := fun t W0 W σ l E Q q => by
  obtain ⟨f, fd, ps, F, hm, kp, bb⟩ := c.ex
  refine wE_of (pe_call F (hr.mono hk) hg hm kp bb .nil pass0 (pa_w X _) hdb he hpl) (ha t W0 W σ l E _ fun vs ds W1 κ l1 y1 r1 ⟨d, z1, z2⟩ => ⟨W1, ds, d, rfl, by rw [List.append_nil]; exact r1, z1, fun v W2 e2 r2 => q v d W2 κ (l1.trans (E.tv2 l1 y1) (e2.le t)) (y1.ext e2) r2 z2⟩)
/-! ### the box by its items -/
abbrev tinO (a b c : Int) : HO := .lst [.int a, .int b, .int c]
theorem hr_openV (i : Nat) (k : ∀ a b c : Int, 0 ≤ a → 0 ≤ b → b < 2 ^ 62 → 0 ≤ c → c ≤ κ → Hr X rest (Γ.set i (.vol (· = tinO a b c))) P) (hi : Γ[i]? = some (.vol (Tin κ)) := by rfl) : Hr X rest Γ P := fun t W0 W σ en l E De q1 q2 q3 q4 => by
  obtain ⟨hl, ⟨ow, h1, h2, h3⟩, ht0, ht⟩ := E
  obtain ⟨a, o, x1, x2, x3, a0, b0, c0, rfl, y1, y2, y3, y4, y5⟩ := h3 i _ hi
  refine k a0 b0 c0 y1 y2 y3 y4 y5 t W0 W σ en l ⟨by rw [List.length_set]; exact hl, ⟨ow, h1, h2, fun j s hs => ?_⟩, ht0, ht⟩ De q1 q2 q3 q4
  by_cases e : i = j
  · subst e
    have hlt := (List.getElem?_eq_some_iff.mp hs).1
    rw [List.length_set] at hlt
    rw [List.getElem?_set_self hlt] at hs
    cases hs
    exact ⟨a, _, x1, x2, x3, rfl⟩
  · rw [List.getElem?_set_ne e] at hs
    exact h3 j s hs
theorem hr_closeV (i : Nat) {a b c : Int} (κ : Nat) (k : Hr X rest (Γ.set i (.vol (Tin κ))) P) (f : 0 ≤ a ∧ 0 ≤ b ∧ b < 2 ^ 62 ∧ 0 ≤ c ∧ c ≤ κ) (hi : Γ[i]? = some (.vol (· = tinO a b c)) := by rfl) : Hr X rest Γ P := fun t W0 W σ en l E De q1 q2 q3 q4 => by
  obtain ⟨hl, ⟨ow, h1, h2, h3⟩, ht0, ht⟩ := E
  obtain ⟨q, o, x1, x2, x3, rfl⟩ := h3 i _ hi
  refine k t W0 W σ en l ⟨by rw [List.length_set]; exact hl, ⟨ow, h1, h2, fun j s hs => ?_⟩, ht0, ht⟩ De q1 q2 q3 q4
  by_cases e : i = j
  · subst e
    have hlt := (List.getElem?_eq_some_iff.mp hs).1
    rw [List.length_set] at hlt
    rw [List.getElem?_set_self hlt] at hs
    cases hs
    exact ⟨q, _, x1, x2, x3, a, b, c, rfl, f⟩
  · rw [List.getElem?_set_ne e] at hs
    exact h3 j s hs
theorem x_ixV (i : Nat) {a0 b0 c0 j v : Int} {jc : _} {jp : Pos} (h : atI [a0, b0, c0] j = some v) (hi : Γ[i]? = some (.vol (· = tinO a0 b0 c0)) := by rfl) (hN : X.N[i]? = some x := by rfl) (hv : Vis X.env.scope x := by first | exact Or.inl rfl | exact Or.inr (Or.inl rfl) | exact Or.inr (Or.inr rfl))
    (hd : (x == ("__debug__" : Str)) = false := by decide) (hcd : (x == ("__classdict__" : Str)) = false := by decide) : EvX X (.Subscript (.Name x p) (.Constant (.int j) jc jp) pos) Γ (.int v) := fun t W0 W σ l E Q q => by
  obtain ⟨a, o, hσ, ta, hH, rfl⟩ := E.vol hi
  refine wE_of (pe_ix ix_list (pe_var hN hv hd hcd) pe_int (fun _ _ => rfl)) ⟨_, hσ, ?_⟩
  refine ⟨a, [.int a0, .int b0, .int c0], j, .int v, rfl, rfl, SqL.of hH, ?_, q _ W (.refl _) rfl⟩
  have e : ([.int a0, .int b0, .int c0] : List V) = [a0, b0, c0].map V.int := rfl
  rw [e]
  unfold atI at h ⊢
  rw [List.length_map]
  cases z : ixN [a0, b0, c0].length j with
  | none =>
    rw [z] at h
    cases h
  | some m =>
    rw [z] at h
    have h5 : [a0, b0, c0][m]? = some v := h
    show ([a0, b0, c0].map V.int)[m]? = some (.int v)
    rw [List.getElem?_map, h5]
    rfl
/-- box[j] = e -/
theorem hr_setB (i : Nat) {a0 b0 c0 v : Int} {j : Nat} {a1 b1 c1 : Int} {jc : _} {jp px : Pos} (he : EvX X e Γ (.int v)) (k : Hr X rest (svP (· = tinO a1 b1 c1) Γ) P) (hj : j < 3) (e1 : [a0, b0, c0].set j v = [a1, b1, c1]) (hi : Γ[i]? = some (.vol (· = tinO a0 b0 c0)) := by rfl) (hN : X.N[i]? = some x := by rfl) (hv : Vis X.env.scope x := by first | exact Or.inl rfl | exact Or.inr (Or.inl rfl) | exact Or.inr (Or.inr rfl))
    (hd : (x == ("__debug__" : Str)) = false := by decide) (hcd : (x == ("__classdict__" : Str)) = false := by decide) (hs : swapsWithSole [.Subscript (.Name x px) (.Constant (.int (j : Int)) jc jp) pos'] e pos.line X.env = pure false := by rfl) (hw : swappedStores [.Subscript (.Name x px) (.Constant (.int (j : Int)) jc jp) pos'] e X.env = pure none := by rfl)
    (ha : ∀ v, assign (.Subscript (.Name x px) (.Constant (.int (j : Int)) jc jp) pos') X.env v = (do
      let ov ← holding [v] (eval (.Name x px) X.env)
      let iv ← holding [v, ov] (eval (.Constant (.int (j : Int)) jc jp) X.env)
      standAt pos'
      holding [v, ov, iv] (setItem ov iv v)
      release [v, ov, iv] []) := by intro _; rfl) :
    Hr X (.Assign [.Subscript (.Name x px) (.Constant (.int (j : Int)) jc jp) pos'] e pos :: rest) Γ P := hr_step (fun t W0 W σ l E De q =>
  wS_of (ps_asg (pe_w X e) (pg_sub (pe_var hN hv hd hcd) pe_int set_list ha) hs hw) (he t W0 W σ l E _ fun v1 W1 e1' r1 => by
    have r1 : v1 = .int v := r1
    subst r1
    have E1 := E.ext e1'
    have l1 := l.ext E.tv e1'
    obtain ⟨a, o, hσ, ta, hH, rfl⟩ := E1.vol hi
    have hF : W1.F a = none := (E1.tv a ta).1
    have hok : Same W1.F (upd W1.H a (tinO a1 b1 c1)) := fun b u hb => by
      rw [upd_ne (fun z => by rw [z, hF] at hb; cases hb)]
      exact W1.ok _ _ hb
    have lw : Le t W1 ⟨W1.F, _, hok⟩ := ⟨fun b u hb ne => by show upd W1.H a _ b = _; rw [upd_ne (fun z => ne (by rw [z, ta]))]; exact hb, fun _ _ z => z, fun _ z1 z2 => (z2 z1).elim⟩
    have E3 := E1.leP (Pv := (· = tinO a1 b1 c1)) lw fun b hb => ⟨_, by
      rw [ta] at hb
      cases hb
      exact upd_same, rfl⟩
    refine ⟨_, hσ, a, [.int a0, .int b0, .int c0], (j : Int), j, rfl, rfl, hH, ixN_nat (by show j < 3; exact hj), ?_⟩
    have e2 : ([.int a0, .int b0, .int c0] : List V).set j (.int v) = [.int a1, .int b1, .int c1] := by
      have := congrArg (List.map V.int) e1
      rw [List.map_set] at this
      exact this
    rw [e2]
    exact q σ ⟨W1.F, _, hok⟩ (l1.trans E1.tv lw) e1'.f E3)) k
end
end G
-- L1
set_option maxHeartbeats 4000000
/-! L1: the law's box of draws. -/
namespace G
open PySem PySem.Spec PyProof.Rows L2
theorem cmul {i j : Int} (a b : Nat) (h1 : i.natAbs < 2 ^ a) (h2 : j.natAbs < 2 ^ b) (h : a + b ≤ 134217728) : CMulX i j := by
  have x := PyProof.Rows.intBits_le h1
  have y := PyProof.Rows.intBits_le h2
  unfold CMulX
  omega
theorem cdiv {i j : Int} (h : 0 < j) (h2 : j < 2 ^ 62) : CDivW i j := by
  refine ⟨h, ?_⟩
  have h3 : j.natAbs < 2 ^ 62 := by omega
  have : j.natAbs.log2 < 62 := (Nat.log2_lt (by omega)).mpr h3
  omega
section
variable {P : Program} {w : World} {K : PySem.W.Frag} {mg : Str → Option Value} {base : Heap}
def TkPre : List D → Nat → Prop := fun ds κ => ∃ m : Nat, ds = [nD m] ∧ 0 < m ∧ m ≤ 2 ^ 40 ∧ κ ≤ 100000
def TkR : List D → Nat → D → Nat → Prop := fun ds κ d κ' => ∀ m : Nat, ds = [nD m] → ∃ i : Nat, i < m ∧ d = nD i ∧ κ' ≤ κ + 1
theorem nD_inj {m n : Nat} (h : nD m = nD n) : m = n := Int.ofNat.inj (D.int.inj h)
theorem sc53 : FnScope ["_law_tin", "_law_below_so", "_law_drawn_so", "_law_once_so", "_law_wide_so", "_law_twice_so"] ["_law_tin", "_law_below_so"] (defScope (topS 53)) := ⟨rfl, rfl, rfl, by decide +kernel, rfl, by decide +kernel, by decide +kernel⟩
theorem mod_nat {a : Int} {m : Nat} (h : 0 < m) : ∃ i : Nat, i < m ∧ D.int (a % (m : Int)) = nD i := by
  have h1 : 0 ≤ a % (m : Int) := Int.emod_nonneg _ (by omega)
  have h2 : a % (m : Int) < m := Int.emod_lt_of_pos _ (by omega)
  refine ⟨(a % (m : Int)).toNat, by omega, ?_⟩
  show D.int _ = D.int _
  rw [Int.toNat_of_nonneg h1]
theorem ok_take (T : Bn mg) (D0 : Df K mg "_law_take" (topS 53) ["_law_tin", "_law_below_so"]) : Cal P w K mg base 1 "_law_take" (spT TkPre TkR) :=
  mk_calT D0 sc53 (by decide) (fun ds κ ⟨m, h, _⟩ => by rw [h]; rfl) fun f cdv A outer s H E hr ds κ ⟨m, h1, hm, hm2, hk⟩ => by
    subst h1
    have hmI : (0 : Int) < (m : Int) := by omega
    have rt : ∀ (i : Nat) κ', i < m → κ' ≤ κ + 1 → TkR [nD m] κ (nD i) κ' := fun i κ' hi hk' m' e => ⟨i, by
      have := nD_inj (List.cons.inj e).1
      omega, rfl, hk'⟩
    refine hr_openV 0 fun a b c ha hb hb2 hc hc2 => ?_
    refine hr_iflv (k := decide (0 < a)) (t_cmp (EvX.rd (x_ixV (v := a) 0 rfl)) x_int.rd d_gt) (fun hg => ?_) (fun _ => ?_)
    · refine hr_asg 2 sc53.nd (x_op (EvX.rd (x_intI T (EvX.rd (x_ixV (v := a) 0 rfl)))) (x_nm 1 (d := .int (m : Int))).rd (d_mod hmI)) ?_
      refine hr_setB 0 (j := 0) (a1 := a / (m : Int)) (b1 := b) (c1 := c) (x_op (EvX.rd (x_ixV (v := a) 0 rfl)) (x_nm 1 (d := .int (m : Int))).rd (d_fdiv (cdiv hmI (by omega)))) ?_ (by decide) rfl
      obtain ⟨i, hi, ei⟩ := mod_nat (a := a) hm
      refine hr_closeV 0 (a := a / (m : Int)) (b := b) (c := c) κ (hr_ret (x_nm 2 (d := .int (a % (m : Int)))) ⟨κ, rfl, ?_⟩) ⟨Int.ediv_nonneg ha (by omega), hb, hb2, hc, hc2⟩
      rw [ei]
      exact rt i κ hi (by omega)
    · have hc' : c + 1 ≤ 100001 := by omega
      refine hr_setB 0 (j := 2) (a1 := a) (b1 := b) (c1 := c + 1) (x_op (EvX.rd (x_ixV (v := c) 0 rfl)) x_int.rd d_add) ?_ (by decide) rfl
      have m1 : CMulX 48271 (c + 1) := cmul 64 64 (by omega) (by omega) (by decide)
      have m2 : CMulX (b + 48271 * (c + 1)) (39373 + (c + 1)) := cmul 64 64 (by omega) (by omega) (by decide)
      have hu0 : 0 ≤ ((b + 48271 * (c + 1)) * (39373 + (c + 1))) % 2147483647 := Int.emod_nonneg _ (by decide)
      have hu1 : ((b + 48271 * (c + 1)) * (39373 + (c + 1))) % 2147483647 < 2147483647 := Int.emod_lt_of_pos _ (by decide)
      refine hr_asg 3 sc53.nd (d := .int (((b + 48271 * (c + 1)) * (39373 + (c + 1))) % 2147483647)) (x_op (EvX.rd (x_intI T (EvX.rd (x_op (EvX.rd (x_op (EvX.rd (x_ixV (v := b) 0 rfl)) (EvX.rd (x_op x_int.rd (EvX.rd (x_ixV (v := c + 1) 0 rfl)) (d_mul m1))) d_add)) (EvX.rd (x_op x_int.rd (EvX.rd (x_ixV (v := c + 1) 0 rfl)) d_add)) (d_mul m2))))) x_int.rd (d_mod (by decide))) ?_
      generalize ((b + 48271 * (c + 1)) * (39373 + (c + 1))) % 2147483647 = u at hu0 hu1
      have hv0 : 0 ≤ u % 40009 := Int.emod_nonneg _ (by decide)
      have hv1 : u % 40009 < 40009 := Int.emod_lt_of_pos _ (by decide)
      refine hr_asg 4 sc53.nd (d := .int (u % 40009 + 7)) (x_op (EvX.rd (x_op (EvX.rd (x_intI T (x_nm 3 (d := .int u)).rd)) x_int.rd (d_mod (by decide)))) x_int.rd d_add) ?_
      generalize u % 40009 = v at hv0 hv1
      have hd0 : 0 ≤ b / 1000003 := Int.ediv_nonneg hb (by decide)
      have hd1 : b / 1000003 < 2 ^ 62 := by omega
      have m3 : CMulX (u + (c + 1) + b / 1000003) (v + 7) := cmul 64 64 (by omega) (by omega) (by decide)
      have hw0 : 0 ≤ ((u + (c + 1) + b / 1000003) * (v + 7)) % 2147483629 := Int.emod_nonneg _ (by decide)
      have hw1 : ((u + (c + 1) + b / 1000003) * (v + 7)) % 2147483629 < 2147483629 := Int.emod_lt_of_pos _ (by decide)
      refine hr_asg 5 sc53.nd (d := .int (((u + (c + 1) + b / 1000003) * (v + 7)) % 2147483629)) (x_op (EvX.rd (x_intI T (EvX.rd (x_op (EvX.rd (x_op (EvX.rd (x_op (x_nm 3 (d := .int u)).rd (EvX.rd (x_ixV (v := c + 1) 0 rfl)) d_add)) (EvX.rd (x_op (EvX.rd (x_ixV (v := b) 0 rfl)) x_int.rd (d_fdiv (cdiv (by decide) (by decide))))) d_add)) (x_nm 4 (d := .int (v + 7))).rd (d_mul m3))))) x_int.rd (d_mod (by decide))) ?_
      generalize ((u + (c + 1) + b / 1000003) * (v + 7)) % 2147483629 = y at hw0 hw1
      have m4 : CMulX y 48271 := cmul 64 64 (by omega) (by omega) (by decide)
      obtain ⟨i, hi, ei⟩ := mod_nat (a := (y * 48271 + u) % 2147483587 / 64) hm
      refine hr_closeV 0 (a := a) (b := b) (c := c + 1) (κ + 1) (hr_ret (d := .int (((y * 48271 + u) % 2147483587 / 64) % (m : Int))) (x_op (EvX.rd (x_intI T (EvX.rd (x_op (EvX.rd (x_op (EvX.rd (x_intI T (EvX.rd (x_op (EvX.rd (x_op (x_nm 5 (d := .int y)).rd x_int.rd (d_mul m4))) (x_nm 3 (d := .int u)).rd d_add)))) x_int.rd (d_mod (by decide)))) x_int.rd (d_fdiv (cdiv (by decide) (by decide))))))) (x_nm 1 (d := .int (m : Int))).rd (d_mod hmI)) ⟨κ + 1, rfl, ?_⟩) ⟨ha, hb, hb2, by omega, by omega⟩
      rw [ei]
      exact rt i (κ + 1) hi (Nat.le_refl _)
/-! _law_of, _law_pick -/
def OfPre : List D → Nat → Prop := fun ds κ => ∃ xs : List D, (ds = [.lst xs] ∨ ds = [.tup xs]) ∧ 0 < xs.length ∧ xs.length ≤ 2 ^ 40 ∧ κ ≤ 100000
def OfR : List D → Nat → D → Nat → Prop := fun ds κ d κ' => ∀ xs : List D, (ds = [.lst xs] ∨ ds = [.tup xs]) → d ∈ xs ∧ κ' ≤ κ + 1
theorem sc55 : FnScope ["_law_tin", "_law_goods_so"] ["_law_tin", "_law_goods_so"] (defScope (topS 55)) := ⟨rfl, rfl, rfl, by decide +kernel, rfl, by decide +kernel, by decide +kernel⟩
theorem ok_of (T : Bn mg) (D0 : Df K mg "_law_of" (topS 55) ["_law_tin", "_law_goods_so"]) (c1 : Cal P w K mg base 1 "_law_take" (spT TkPre TkR)) : Cal P w K mg base 2 "_law_of" (spT OfPre OfR) :=
  mk_calT D0 sc55 (by decide) (fun ds κ ⟨m, h, _⟩ => by rcases h with h | h <;> (rw [h]; rfl)) fun f cdv A outer s H E hr ds κ ⟨xs, h1, hm, hm2, hk⟩ => by
    have key : ∀ d κ', TkR [nD xs.length] κ d κ' → ∃ (i : Int) (x : D), d = .int i ∧ atI xs i = some x ∧ x ∈ xs ∧ κ' ≤ κ + 1 := fun d κ' h => by
      obtain ⟨i, hi, e, hk'⟩ := h _ rfl
      subst e
      exact ⟨(i : Int), xs[i], rfl, atI_nat (List.getElem?_eq_getElem hi), List.getElem_mem hi, hk'⟩
    rcases h1 with h1 | h1
    · subst h1
      refine hr_retG (R := fun x κ' => x ∈ xs ∧ κ' ≤ κ + 1) (g_ixL (R1 := fun _ _ => True) (x_nm 1) (g_callT 0 c1 hr (by decide) (a_cons (x_lenL T (x_nm 1).rd) a_nil) ⟨xs.length, rfl, hm, hm2, hk⟩ key)) fun d κ' z => ⟨κ', rfl, fun ys e => ?_⟩
      rcases e with e | e
      · obtain rfl := D.lst.inj (List.cons.inj e).1
        exact z
      · cases e
    · subst h1
      refine hr_retG (R := fun x κ' => x ∈ xs ∧ κ' ≤ κ + 1) (g_ixT (R1 := fun _ _ => True) (x_nm 1) (g_callT 0 c1 hr (by decide) (a_cons (x_lenT T (x_nm 1).rd) a_nil) ⟨xs.length, rfl, hm, hm2, hk⟩ key)) fun d κ' z => ⟨κ', rfl, fun ys e => ?_⟩
      rcases e with e | e
      · cases e
      · obtain rfl := D.tup.inj (List.cons.inj e).1
        exact z
end
end G
-- La2
set_option maxHeartbeats 4000000
/-! La2: found.append(pool.pop(..)); _law_pick. -/
namespace G
open PySem PySem.Spec PyProof.Rows L2
theorem sv_ow {Γ : Ctx} {i κ : Nat} {o : O} (h : Γ[i]? = some (.ow o)) : (sv κ Γ)[i]? = some (.ow o) := by
  unfold sv
  rw [List.getElem?_map, h]
  rfl
section
variable {X : Cx} {Γ Γ' : Ctx} {e a b c te : Expr} {es : List Expr} {rest : List Stmt} {pos p py pos' apos apos2 cpos cpos2 px pp : Pos} {P : Post} {κ : Nat}
theorem hr_popApp (i j : Nat) {x y : Str} {xs ys : List D} {R : Nat → Nat → Prop} (h : EvG X te Γ fun d κ => ∃ m : Nat, d = nD m ∧ m < xs.length ∧ R m κ) (k : ∀ (m κ : Nat) (z : D), xs[m]? = some z → R m κ → Hr X rest (((sv κ Γ).set j (.ow (.one (.L (xs.eraseIdx m))))).set i (.ow (.one (.L (ys ++ [z]))))) P)
    (hz : xs.length < 2 ^ 62) (hz2 : ys.length < 100000) (hij : j ≠ i := by decide) (hi : Γ[i]? = some (.ow (.one (.L ys))) := by rfl) (hj : Γ[j]? = some (.ow (.one (.L xs))) := by rfl) (hN : X.N[i]? = some x := by rfl) (hN2 : X.N[j]? = some y := by rfl) (hv : Vis X.env.scope x := by first | exact Or.inl rfl | exact Or.inr (Or.inl rfl) | exact Or.inr (Or.inr rfl)) (hv2 : Vis X.env.scope y := by first | exact Or.inl rfl | exact Or.inr (Or.inl rfl) | exact Or.inr (Or.inr rfl))
    (hd : (x == ("__debug__" : Str)) = false := by decide) (hcd : (x == ("__classdict__" : Str)) = false := by decide) (hd2 : (y == ("__debug__" : Str)) = false := by decide) (hcd2 : (y == ("__classdict__" : Str)) = false := by decide)
    (hsw : swapsWith (.Call (.Attribute (.Name x px) "append" apos) [.Call (.Attribute (.Name y pp) "pop" apos2) [te] [] cpos2] [] cpos) none pos.line X.env = pure false := by rfl)
    (hbase : attributeBase (.Name x px) "append" X.env (eval (.Name x px) X.env) = eval (.Name x px) X.env := by rfl)
    (hfew : ((backTo cpos (starEach [.Call (.Attribute (.Name y pp) "pop" apos2) [te] [] cpos2] X.env)).all (fun x => !x.1) && (backToKw cpos (keywordEach [] X.env)).all (fun x => x.1.isSome)
      && decide (([.Call (.Attribute (.Name y pp) "pop" apos2) [te] [] cpos2] : List Expr).length + ([] : List Keyword).length + (if ([] : List Keyword).isEmpty then 0 else 1) < 30)) = true := by rfl)
    (hline : (apos.endLine == cpos.line) = true := by rfl) (hst : starEach [.Call (.Attribute (.Name y pp) "pop" apos2) [te] [] cpos2] X.env = (false, eval (.Call (.Attribute (.Name y pp) "pop" apos2) [te] [] cpos2) X.env) :: starEach [] X.env := by rfl)
    (hbase2 : attributeBase (.Name y pp) "pop" X.env (eval (.Name y pp) X.env) = eval (.Name y pp) X.env := by rfl)
    (hfew2 : ((backTo cpos2 (starEach [te] X.env)).all (fun x => !x.1) && (backToKw cpos2 (keywordEach [] X.env)).all (fun x => x.1.isSome)
      && decide (([te] : List Expr).length + ([] : List Keyword).length + (if ([] : List Keyword).isEmpty then 0 else 1) < 30)) = true := by rfl)
    (hline2 : (apos2.endLine == cpos2.line) = true := by rfl) (hst2 : starEach [te] X.env = (false, eval te X.env) :: starEach [] X.env := by rfl) :
    Hr X (.Expr (.Call (.Attribute (.Name x px) "append" apos) [.Call (.Attribute (.Name y pp) "pop" apos2) [te] [] cpos2] [] cpos) pos :: rest) Γ P :=
  hr_stepG (M := fun Γ2 => Hr X rest Γ2 P) (fun t W0 W σ l E De q => by
    obtain ⟨p0, _, hσ, ho0, _, ⟨xs0, rfl, hx0⟩, _⟩ := E.mut (b' := .L []) l hi
    obtain ⟨p1, _, hσ1, ho1, _, ⟨xs1, rfl, hx1⟩, _⟩ := E.mut (b' := .L []) l hj
    refine wS_of (ps_expr (pe_bm PySem.F.plainAttrs_list PySem.F.slot_list_append PySem.F.type_list_append mt_append (pe_var hN hv hd hcd) (pa_cons (pe_bm PySem.F.plainAttrs_list PySem.F.slot_list_pop PySem.F.type_list_pop mt_popAt (pe_var hN2 hv2 hd2 hcd2) (pa_cons (pe_w X te) pa_nil hst2) hbase2 hfew2 hline2 hst2 rfl) pa_nil hst) hbase hfew hline hst rfl) hsw)
      ⟨_, hσ, .inl ⟨rfl, _, SqL.of ho0⟩, ⟨_, hσ1, .inl ⟨rfl, _, SqL.of ho1⟩, h t W0 W σ l E _ fun v d W1 κ l1 y1 r1 z1 => ?_⟩⟩
    obtain ⟨m, rfl, hm, hR⟩ := z1
    have r1 : v = .int (m : Int) := r1
    subst r1
    have E1 := E.le l l1 y1
    have l2 := l.trans E.tv l1
    obtain ⟨p2, o2, hσ2, ho2, _, ⟨xs2, rfl, hx2⟩, up⟩ := E1.mut (b' := .L (xs.eraseIdx m)) l2 (sv_ow hj)
    rw [hσ1] at hσ2
    cases hσ2
    have hm2 : m < xs2.length := by rw [hx2.len]; exact hm
    obtain ⟨z, hz1, rz⟩ := hx2.get (List.getElem?_eq_getElem hm2)
    obtain ⟨W2, z1, z2, z3, z4⟩ := up (.lst (xs2.eraseIdx m)) ⟨_, rfl, hx2.eraseIdx m⟩
    refine ⟨_, xs2, (m : Int), m, xs2[m], rfl, rfl, ho2, by omega, ?_, ?_, List.getElem?_eq_getElem hm2, ?_⟩
    · rw [hx2.len] at hm2
      omega
    · exact (ixN_seq (ixN_nat hm2)).1
    · rw [← z1]
      have hi2 : ((sv κ Γ).set j (.ow (.one (.L (xs.eraseIdx m)))))[i]? = some (.ow (.one (.L ys))) := by
        rw [List.getElem?_set_ne hij]
        exact sv_ow hi
      obtain ⟨p3, o3, hσ3, ho3, _, ⟨ys3, rfl, hy3⟩, up3⟩ := z4.mut (b' := .L (ys ++ [z])) z3 hi2
      rw [hσ] at hσ3
      cases hσ3
      have rz2 : Rp W2.F z xs2[m] := by rw [z2]; exact rz
      obtain ⟨W3, w1, w2, w3, w4⟩ := up3 (.lst (ys3 ++ [xs2[m]])) ⟨_, rfl, hy3.app (.one rz2)⟩
      refine ⟨_, ys3, xs2[m], rfl, rfl, ho3, Nat.lt_trans (by rw [hy3.len]; exact hz2) (by decide), ?_⟩
      show De.nx σ (upd W2.H _ (.lst (ys3 ++ [xs2[m]])))
      rw [← w1]
      exact q σ W3 _ w3 (by rw [w2, z2]; exact l1.f) w4 (k m κ z hz1 hR)) fun _ z => z
end
section
variable {P : Program} {w : World} {K : PySem.W.Frag} {mg : Str → Option Value} {base : Heap}
def PkPre : List D → Nat → Prop := fun ds κ => ∃ xs : List D, ds = [.lst xs, nD 3] ∧ xs.length ≤ 2 ^ 40 ∧ κ ≤ 90000
def PkR : List D → Nat → D → Nat → Prop := fun ds κ d κ' => ∀ xs : List D, ds = [.lst xs, nD 3] → ∃ ys : List D, d = .lst ys ∧ (∀ y ∈ ys, y ∈ xs) ∧ ys.length ≤ 3 ∧ κ' ≤ κ + 3
theorem sc56 : FnScope ["_law_tin", "_law_goods_so", "_law_count_so", "_law_pool_so", "_law_found", "_law_lap"] ["_law_tin", "_law_goods_so", "_law_count_so"] (defScope (topS 56)) := ⟨rfl, rfl, rfl, by decide +kernel, rfl, by decide +kernel, by decide +kernel⟩
theorem ok_pick (T : Bn mg) (D0 : Df K mg "_law_pick" (topS 56) ["_law_tin", "_law_goods_so", "_law_count_so"]) (c1 : Cal P w K mg base 1 "_law_take" (spT TkPre TkR)) : Cal P w K mg base 2 "_law_pick" (spT PkPre PkR) :=
  mk_calT D0 sc56 (by decide) (fun ds κ ⟨m, h, _⟩ => by rw [h]; rfl) fun f cdv A outer s H E hr ds κ ⟨xs, h1, hm2, hk⟩ => by
    subst h1
    refine hr_par 3 4 rfl sc56.nd (k_o (o_listL T (x_nm 1).rd) (k_o (o_lst a_nil (Nat.le_of_ble_eq_true rfl)) k_nil)) ?_
    refine hr_for (fun j Γ' => ∃ (pl fo : List D) (κ' : Nat), pl.length + j = xs.length ∧ fo.length = j ∧ (∀ y ∈ pl, y ∈ xs) ∧ (∀ y ∈ fo, y ∈ xs) ∧ κ' ≤ κ + j ∧ Γ' = [.vol (Tin κ'), .pu (.lst xs), .pu (nD 3), .ow (.one (.L pl)), .ow (.one (.L fo)), .un]) (fun _ => False) PassesOwn.never rfl
      (it_rN T (n := min 3 xs.length) (x_min2 T rfl (x_intI T (x_nm 2).rd) (x_lenL T (x_owL 3))) ?_ ?_) _ (Wk.refl _) ⟨xs, [], κ, rfl, rfl, fun _ h => h, fun _ h => (nomatch h), Nat.le_refl _, rfl⟩ (fun j d Γi hi hI => ?_) (fun Γ' hI => ?_) (fun _ z => z.elim)
    · show (if (xs.length : Int) < ((3 : Nat) : Int) then (xs.length : Int) else ((3 : Nat) : Int)).toNat = _
      split <;> omega
    · show -(2 ^ 62) ≤ (if (xs.length : Int) < ((3 : Nat) : Int) then (xs.length : Int) else ((3 : Nat) : Int)) ∧ (if (xs.length : Int) < ((3 : Nat) : Int) then (xs.length : Int) else ((3 : Nat) : Int)) < 2 ^ 62
      split <;> omega
    · obtain ⟨pl, fo, κ', g1, g2, g3, g4, g5, rfl⟩ := hI
      have hj : j < min 3 xs.length := by
        have := (List.getElem?_eq_some_iff.mp hi).1
        simpa using this
      refine ⟨_, [5], tg_fn 5 sc56.nd, ?_⟩
      refine hr_popApp 4 3 (xs := pl) (ys := fo) (R := fun m κ2 => κ2 ≤ κ' + 1) (g_callT (κ := κ') 0 c1 hr (by decide) (a_cons (x_lenL T (x_owL 3)) a_nil) ⟨pl.length, rfl, by omega, by omega, by omega⟩ (fun d κ2 h => by
        obtain ⟨m, h1, h2, h3⟩ := h _ rfl
        exact ⟨m, h2, h1, h3⟩)) (fun m κ2 z hz hR => ?_) (by omega) (by omega)
      have hm := (List.getElem?_eq_some_iff.mp hz).1
      refine hr_nil _ (.same (.same (.same (.same (.same (.un .nil)))))) ⟨pl.eraseIdx m, fo ++ [z], κ2, ?_, ?_, fun y hy => g3 y (List.mem_of_mem_eraseIdx hy), fun y hy => ?_, by omega, rfl⟩
      · rw [List.length_eraseIdx, if_pos hm]
        omega
      · rw [List.length_append, g2]
        rfl
      · rcases List.mem_append.mp hy with q | q
        · exact g4 y q
        · rw [List.mem_singleton.mp q]
          exact g3 _ (List.mem_of_getElem? hz)
    · obtain ⟨pl, fo, κ', g1, g2, g3, g4, g5, rfl⟩ := hI
      rw [List.length_map, List.length_range] at g1 g2 g5
      refine hr_frz 4 (o := .L fo) rfl (hr_ret (d := .lst fo) (x_nm 4) ⟨κ', rfl, fun ys e => ?_⟩)
      obtain rfl := D.lst.inj (List.cons.inj e).1
      exact ⟨fo, rfl, g4, by omega, by omega⟩
end
end G
-- La3
set_option maxHeartbeats 4000000
/-! La3: the script: _law_cells, _law_box. -/
namespace G
open PySem PySem.Spec PyProof.Rows L2
section
variable {X : Cx} {Γ Γ' : Ctx} {e a b c te : Expr} {es : List Expr} {rest : List Stmt} {pos p py pos' : Pos} {P : Post}
theorem o_or {xs ys : List D} (h : EvO X a Γ (.L xs)) (hb : xs = [] → EvO X b Γ (.L ys)) : EvO X (.BoolOp .Or [a, b] pos) Γ (.L (if xs.isEmpty then ys else xs)) := fun t W0 W σ l E Q q =>
  wE_of (pe_orT (pe_w X a) (pe_one (pe_w X b))) (h t W0 W σ l E _ fun v W1 e1 r1 => by
    obtain ⟨p, o, rfl, f1, f2, f3, xs', rfl, hx⟩ := _root_.id r1
    have hem : xs'.isEmpty = xs.isEmpty := by
      have := hx.len
      cases xs <;> cases xs' <;> first | rfl | (simp at this)
    refine ⟨!xs'.isEmpty, .inl ⟨xs', SqL.of f3, rfl⟩, ?_⟩
    rw [hem]
    cases xs with
    | nil => exact iteF (hb rfl t W0 W1 σ (l.ext E.tv e1) (E.ext e1) _ fun v2 W2 e2 r2 => q v2 W2 (e1.trans e2) (r2.back e1))
    | cons x xs => exact iteT (q _ W1 e1 r1))
end
def spS (K : PySem.W.Frag) (R : List Int → List D → D → Prop) : Sp := fun vs H Q _ => ∃ (W : Wd) (a : Addr) (ns : List Int) (ws : List V) (ds : List D) (d : D), W.H = H ∧ vs = .ref a :: ws ∧ SqL K W.F a (ns.map V.int) ∧ RpA W.F ds ws ∧ R ns ds d ∧ ∀ v W2, Ext W W2 → Rp W2.F d v → Q v W2.H
theorem ctx_pu : ∀ (N : List Str) (ds : List D) (j : Nat) (s : Slot), (ctxN N ds)[j]? = some s → s = .un ∨ ∃ d, s = .pu d
  | [], ds, j, s, hs => by simp [ctxN] at hs
  | y :: N, [], j, s, hs => by
    cases j with
    | zero => exact .inl (Option.some.inj hs).symm
    | succ j => exact ctx_pu N [] j s (by simpa [ctxN] using hs)
  | y :: N, d :: ds, j, s, hs => by
    cases j with
    | zero => exact .inr ⟨d, (Option.some.inj hs).symm⟩
    | succ j => exact ctx_pu N ds j s (by simpa [ctxN] using hs)
theorem env_startS {K : PySem.W.Frag} {W : Wd} {x : Str} {N : List Str} {ds : List D} {ws : List V} {a : Addr} {ns : List Int} (h : RpA W.F ds ws) (hl : ds.length ≤ N.length) (hs : SqL K W.F a (ns.map V.int)) : Env K none W W (L2.start (x :: N) (.ref a :: ws)) (.scr ns :: ctxN N ds) := by
  have E0 := env_start (K := K) h hl
  rw [ctxN_eq hl] at E0
  obtain ⟨hl0, ⟨ow, _, _, h3⟩, _, _⟩ := E0
  have es : L2.start (x :: N) (.ref a :: ws) = some (.ref a) :: L2.start N ws := by
    unfold L2.start
    simp
  rw [es]
  refine ⟨by rw [List.length_cons, List.length_cons, hl0], ⟨fun _ _ => False, fun _ _ _ z _ => z.elim, fun _ _ z => z.elim, fun i s hs2 => ?_⟩, fun a z => (by cases z), fun a z => (by cases z)⟩
  cases i with
  | zero =>
    have : s = .scr ns := (Option.some.inj hs2).symm
    subst this
    exact ⟨a, rfl, hs⟩
  | succ i =>
    have hs3 : (ctxN N ds)[i]? = some s := by simpa using hs2
    have q := h3 i s hs3
    show SlR K none W _ s ((L2.start N ws)[i]?)
    rcases ctx_pu N ds i s hs3 with e | ⟨d, e⟩
    · subst e
      trivial
    · subst e
      exact q
section
variable {P : Program} {w : World} {K : PySem.W.Frag} {mg : Str → Option Value} {base : Heap} {x y0 : Str} {st : Stmt} {N ps : List Str} {k : Nat} {R : List Int → List D → D → Prop}
theorem mk_calS (D0 : Df K mg x st ps) (S : FnScope (y0 :: N) ps (defScope st)) (hps : ps.length ≤ N.length + 1) (len : ∀ ns ds d, R ns ds d → ds.length + 1 = ps.length)
    (body : ∀ (f : Addr) (cdv : Value) (A : Around) (outer : List PySem.Env) (s : Shared) (H : Hp) (E : XK), Room k (bdX P w K mg base (y0 :: N) x st f cdv A outer s H E).A → ∀ ns ds d, R ns ds d →
      Hr (bdX P w K mg base (y0 :: N) x st f cdv A outer s H E) (defBody st) (.scr ns :: ctxN N ds) { rt := fun d' _ => d' = d }) : Cal P w K mg base (k + 1) x (spS K R) := by
  obtain ⟨f, fd, F, hm, hb⟩ := D0.ex
  refine ⟨f, fd, ps, F.ok S (fun vs H Q E h => ?_) (fun cdv A outer s H vs Q E hr h => ?_), hm, F.kp, hb⟩
  · obtain ⟨W, a, ns, ws, ds, d, _, rfl, _, h1, h2, _⟩ := h
    rw [List.length_cons, h1.len, len ns ds d h2]
  · obtain ⟨W, a, ns, ws, ds, d, rfl, rfl, hS, h1, h2, h3⟩ := h
    have hle : ds.length ≤ N.length := by
      have := len ns ds d h2
      omega
    refine ⟨_, pss_w _ _, body f cdv A outer s W.H E hr ns ds d h2 none W W _ trivial (.refl _ _) (env_startS h1 hle hS) _ (fun _ _ _ _ _ _ z => z.elim) (fun v d' σ2 W2 Γ2 l2 _ E2 r2 e => ?_) (fun _ _ _ _ _ _ z => z.elim) (fun _ _ _ _ _ _ z => z.elim)⟩
    have e : d' = d := e
    subst e
    exact h3 v W2 l2.ext0 r2
end
section
variable {X : Cx} {Γ : Ctx} {e : Expr} {es : List Expr} {pos p py : Pos} {d : D} {k j : Nat} {x y : Str} {R : List Int → List D → D → Prop}
theorem x_callS {ns : List Int} {ds : List D} (i : Nat) (c : Cal X.prog X.w X.K X.mg X.base k x (spS X.K R)) (hr : Room j X.A) (hk : k ≤ j) (ha : EvA X es Γ ds) (hR : R ns ds d) (hi : Γ[i]? = some (.scr ns) := by rfl) (hN : X.N[i]? = some y := by rfl) (hv : Vis X.env.scope y := by first | exact Or.inl rfl | exact Or.inr (Or.inl rfl) | exact Or.inr (Or.inr rfl))
    (hd : (y == ("__debug__" : Str)) = false := by decide) (hcd : (y == ("__classdict__" : Str)) = false := by decide) (hg : Gl X x := by rfl) (hdb : (x == ("__debug__" : Str)) = false := by decide) (he : starEach (.Name y py :: es) X.env = (false, eval (.Name y py) X.env) :: starEach es X.env := by rfl) (hpl : (backTo pos (starEach es X.env)).any (·.1) = false := by rfl) :
    EvX X (.Call (.Name x p) (.Name y py :: es) [] pos) Γ d := fun t W0 W σ l E Q q => by
  obtain ⟨f, fd, ps, F, hm, kp, bb⟩ := c.ex
  obtain ⟨a0, hσ, hS⟩ := E.scr hi
  exact wE_of (pe_call F (hr.mono hk) hg hm kp bb .nil pass0 (pa_cons (pe_var hN hv hd hcd) (pa_w X es) he) hdb he hpl) ⟨_, hσ, ha t W0 W σ l E _ fun vs W1 e1 r1 => ⟨W1, a0, ns, vs, ds, d, rfl, by rw [List.append_nil], sql_same e1.f hS, r1, hR, fun v W2 e2 r2 => q v W2 (e1.trans e2) r2⟩⟩
end
/-! ### cells -/
def cellSt (c : Int) (x : Int × Nat) : Int := c + x.1 * ((x.2 : Int) + 2)
def cell0 (ns : List Int) : List Int := if (cutD ns none (some 1)).isEmpty then [0] else cutD ns none (some 1)
def cellF (ns : List Int) : Int := ((cutD ns (some 1) (some 63)).zipIdx).foldl cellSt ((cell0 ns).getD 0 0)
def NsOk (ns : List Int) : Prop := ns.length ≤ 63 ∧ ∀ z ∈ ns, z.natAbs < 2 ^ 1048576
theorem cell0_one (ns : List Int) : cell0 ns = [(cell0 ns).getD 0 0] := by
  have h : (cutD ns none (some 1)).length ≤ 1 := by
    unfold cutD
    rw [List.length_take]
    have : HT.sIx ns.length ns.length (some 1) - HT.sIx ns.length 0 none ≤ 1 := by
      show HT.sIx ns.length ns.length (some 1) - 0 ≤ 1
      unfold HT.sIx
      simp
      omega
    omega
  unfold cell0
  generalize cutD ns none (some 1) = l at h
  match l, h with
  | [], _ => rfl
  | [x], _ => rfl
theorem cut_mem {α : Type} {xs : List α} {lo hi : Option Int} {x : α} (h : x ∈ cutD xs lo hi) : x ∈ xs := List.mem_of_mem_drop (List.mem_of_mem_take h)
theorem cut_len {α : Type} (xs : List α) (lo hi : Option Int) : (cutD xs lo hi).length ≤ xs.length := by
  unfold cutD
  rw [List.length_take, List.length_drop]
  omega
theorem enum_ints (ns : List Int) : enumD (ns.map D.int) = ns.zipIdx.map fun x => D.tup [.int (x.2 : Nat), .int x.1] := by
  unfold enumD
  rw [List.zipIdx_map, List.map_map]
  rfl
theorem zip_bound {ns : List Int} {pre post : List (Int × Nat)} {x : Int × Nat} (h : ns.zipIdx = pre ++ x :: post) : x.1 ∈ ns ∧ x.2 = pre.length ∧ pre.length < ns.length := by
  have hl := congrArg List.length h
  rw [List.length_zipIdx, List.length_append, List.length_cons] at hl
  have hg : ns.zipIdx[pre.length]? = some x := by rw [h]; simp
  rw [List.getElem?_zipIdx] at hg
  have hlt : pre.length < ns.length := by omega
  rw [List.getElem?_eq_getElem hlt] at hg
  have e : (ns[pre.length], 0 + pre.length) = x := Option.some.inj hg
  subst e
  exact ⟨List.getElem_mem hlt, by simp, hlt⟩
section
variable {P : Program} {w : World} {K : PySem.W.Frag} {mg : Str → Option Value} {base : Heap}
def R_cells : List Int → List D → D → Prop := fun ns ds d => NsOk ns ∧ ds = [nD 1] ∧ d = .lst [.int (cellF ns)]
theorem sc54 : FnScope ["_law_script", "_law_most_so", "_law_cells_so", "_law_k", "_law_bit_so", "_law_at_so"] ["_law_script", "_law_most_so"] (defScope (topS 54)) := ⟨rfl, rfl, rfl, by decide +kernel, rfl, by decide +kernel, by decide +kernel⟩
theorem ok_cells (T : Bn mg) (D0 : Df K mg "_law_cells" (topS 54) ["_law_script", "_law_most_so"]) : Cal P w K mg base 1 "_law_cells" (spS K R_cells) :=
  mk_calS D0 sc54 (by decide) (fun ns ds d h => by rw [h.2.1]; rfl) fun f cdv A outer s H E hr ns ds d ⟨hns, h1, h2⟩ => by
    subst h1 h2
    refine hr_own 2 (o := .L [.int ((cell0 ns).getD 0 0)]) sc54.nd (xt2 (o_or (ys := [.int 0]) (o_listL T (EvO.rd (o_slS 0 (zl := none) (zh := some 1) rfl p_none (p_some (x_nm 1 (d := .int 1)))))) fun _ => o_lst (a_cons x_int a_nil) (Nat.le_of_ble_eq_true rfl)) ?_) ?_
    · have e := cell0_one ns
      have e2 : (if ((cutD ns none (some 1)).map D.int).isEmpty then [D.int 0] else (cutD ns none (some 1)).map D.int) = (cell0 ns).map D.int := by
        unfold cell0
        cases cutD ns none (some 1) with
        | nil => rfl
        | cons a b => rfl
      rw [e2]
      conv => lhs; rw [e]
      rfl
    · refine hr_fold (fun x : Int × Nat => D.tup [.int (x.2 : Nat), .int x.1]) (cutD ns (some 1) (some 63)).zipIdx (fun c : Int => [.scr ns, .pu (nD 1), .ow (.one (.L [.int c])), .un, .un, .un]) cellSt ((cell0 ns).getD 0 0) (fun _ _ => True) PassesOwn.never rfl
        (by rw [← enum_ints]; exact it_enumL T (EvO.ev (o_slS 0 (zl := some 1) (zh := some 63) rfl (p_some (x_nm 1 (d := .int 1))) (p_some x_int)))) (Wk.refl _) trivial (fun pre x post c hx _ => ⟨trivial, _, [3, 4], tg_pr 3 4 rfl sc54.nd, ?_⟩) fun _ => ?_
      · obtain ⟨m1, m2, m3⟩ := zip_bound hx
        have hb := hns.2 x.1 (cut_mem m1)
        have hk : x.2 < 63 := by
          have := cut_len ns (some 1) (some 63)
          have := hns.1
          omega
        refine hr_asg 5 sc54.nd (d := nD 0) (x_op (EvX.rd (x_intI T (x_nm 3 (d := .int (x.2 : Nat))).rd)) (x_nm 1 (d := .int 1)).rd ((d_mod (by decide)).to (by rw [Int.emod_one]; rfl))) ?_
        refine hr_setL 2 (xs := [.int c]) (j := 0) (d := .int (cellSt c x)) (x_op (EvX.rd (x_ixL (x_owL 2) (x_nm 5 (d := nD 0)) rfl)) (EvX.rd (x_op (x_nm 4 (d := .int x.1)).rd (EvX.rd (x_op (x_nm 3 (d := .int (x.2 : Nat))).rd x_int.rd d_add)) (d_mul (cmul 1048576 64 hb (by omega) (by decide))))) d_add) (x_nm 5 (d := nD 0)) ?_ (Nat.le_of_ble_eq_true rfl)
        exact hr_nil _ (.same (.same (.same (.un (.un (.un .nil)))))) rfl
      · exact hr_frz 2 (o := .L [.int (cellF ns)]) rfl (hr_ret (x_nm 2) rfl)
end
end G
-- Fw17
set_option maxHeartbeats 4000000
/-! Fw17: argument lists, each shape once. -/
namespace G
open PySem PySem.Spec PyProof.Rows L2
section
variable {env : PySem.Env} {rest es ds : List Expr} {a b c : Expr} {p : Pos} {k : Nat} {x : Str} {u : Const}
theorem st_con : starEach (.Constant u k p :: rest) env = (false, eval (.Constant u k p) env) :: starEach rest env := rfl
theorem st_nm : starEach (.Name x p :: rest) env = (false, eval (.Name x p) env) :: starEach rest env := rfl
theorem st_tup : starEach (.Tuple es k p :: rest) env = (false, eval (.Tuple es k p) env) :: starEach rest env := rfl
theorem st_lst : starEach (.List es p :: rest) env = (false, eval (.List es p) env) :: starEach rest env := rfl
theorem st_call {ks : List Keyword} : starEach (.Call a es ks p :: rest) env = (false, eval (.Call a es ks p) env) :: starEach rest env := rfl
theorem st_bin {op : Operator} : starEach (.BinOp a op b p :: rest) env = (false, eval (.BinOp a op b p) env) :: starEach rest env := rfl
theorem st_un {op : UnaryOp} : starEach (.UnaryOp op a p :: rest) env = (false, eval (.UnaryOp op a p) env) :: starEach rest env := rfl
theorem st_sub : starEach (.Subscript a b p :: rest) env = (false, eval (.Subscript a b p) env) :: starEach rest env := rfl
theorem st_lc {gs : List Comprehension} {sc : Scope} : starEach (.ListComp a gs sc p :: rest) env = (false, eval (.ListComp a gs sc p) env) :: starEach rest env := rfl
theorem st_attr : starEach (.Attribute a x p :: rest) env = (false, eval (.Attribute a x p) env) :: starEach rest env := rfl
theorem st_if : starEach (.IfExp a b c p :: rest) env = (false, eval (.IfExp a b c p) env) :: starEach rest env := rfl
theorem st_cmp {ops : List CmpOp} : starEach (.Compare a ops es p :: rest) env = (false, eval (.Compare a ops es p) env) :: starEach rest env := rfl
end
section
variable {X : Cx} {Γ : Ctx} {e a b : Expr} {es : List Expr} {pos p1 p2 p3 : Pos} {d : D} {ds : List D} {k k2 k3 : Nat}
theorem ac (h : EvX X e Γ d) (hr : EvA X es Γ ds) (hs : starEach (e :: es) X.env = (false, eval e X.env) :: starEach es X.env := by first | exact st_con | exact st_nm | exact st_call | exact st_tup | exact st_lst | exact st_bin | exact st_sub | exact st_lc | exact st_un | exact st_attr | exact st_if | exact st_cmp) : EvA X (e :: es) Γ (d :: ds) := a_cons h hr hs
theorem x_pr {i j : Nat} (h1 : EvX X a Γ (nD i)) (h2 : EvX X b Γ (nD j)) (hs : starEach [a, b] X.env = (false, eval a X.env) :: starEach [b] X.env := by first | exact st_con | exact st_nm | exact st_call | exact st_bin | exact st_sub) (hs2 : starEach [b] X.env = (false, eval b X.env) :: starEach [] X.env := by first | exact st_con | exact st_nm | exact st_call | exact st_bin | exact st_sub) : EvX X (.Tuple [a, b] k pos) Γ (prD (i, j)) := by
  have h : EvA X [a, b] Γ [nD i, nD j] := a_cons h1 (a_cons h2 a_nil hs2) hs
  exact x_tup h (by show 2 ≤ 100000; omega)
theorem x_cN {i : Nat} : EvX X (.Constant (.int (i : Int)) k p1) Γ (nD i) := x_int
theorem x_prC {i j : Nat} : EvX X (.Tuple [.Constant (.int (i : Int)) k p1, .Constant (.int (j : Int)) k2 p2] k3 pos) Γ (prD (i, j)) := x_pr x_cN x_cN st_con st_con
end
end G
-- La4
set_option maxHeartbeats 4000000
/-! La4: the law's own reckoning: ups, bits, pieces, lefts, chain, counts. -/
namespace G
open PySem PySem.Spec PyProof.Rows L2
section
variable {X : Cx} {Γ : Ctx} {a b : Expr} {pos p1 p2 p3 p4 : Pos} {k k2 : _}
/-- a >> b & 1 == 1 -/
theorem t_bit1 {m n : Nat} (h1 : EvX X a Γ (nD m)) (h2 : EvX X b Γ (nD n)) : EvT X (.Compare (.BinOp (.BinOp a .RShift b p1) .BitAnd (.Constant (.int 1) k p2) p3) [.Eq] [.Constant (.int 1) k2 p4] pos) Γ (m.testBit n) := by
  have e1 : (m : Int) / 2 ^ ((n : Int)).toNat = ((m / 2 ^ n : Nat) : Int) := by
    rw [Int.toNat_natCast]
    norm_cast
  have q : EvX X (.BinOp (.BinOp a .RShift b p1) .BitAnd (.Constant (.int 1) k p2) p3) Γ (nD ((m / 2 ^ n) &&& 1)) := x_op (rx (x_op h1.rd h2.rd ((d_shr (X := X) (i := (m : Int)) (j := (n : Int)) (by omega)).to (by rw [e1]; rfl)))) (x_int (i := ((1 : Nat) : Int))).rd (d_andN (m := m / 2 ^ n) (n := 1))
  refine EvT.to (t_cmp (rx q) (x_int (i := ((1 : Nat) : Int))).rd d_eqN) ?_
  rw [Nat.and_one_is_mod, Nat.testBit_eq_decide_div_mod_eq]
end
section
variable {P : Program} {w : World} {K : PySem.W.Frag} {mg : Str → Option Value} {base : Heap}
theorem sc60 : FnScope ["_law_net_here", "_law_found", "_law_low_so", "_law_high_so", "_law_k"] ["_law_net_here"] (defScope (topS 60)) := ⟨rfl, rfl, rfl, by decide +kernel, rfl, by decide +kernel, by decide +kernel⟩
theorem ok_lups (T : Bn mg) (D0 : Df K mg "_law_ups" (topS 60) ["_law_net_here"]) : Cal P w K mg base 1 "_law_ups" (spF R_tops) :=
  mk_cal D0 sc60 (by decide) (fun ds d ⟨_, _, _, h, _⟩ => by rw [h]; rfl) fun f cdv A outer s H E hr ds d ⟨n, ts, ⟨hn, hp, hl⟩, h1, h2⟩ => by
    subst h1 h2
    refine hr_lc 1 [("_law_k", 4)] nD (List.range n) (fun _ => true) (fun p => nD (2 ^ p)) rfl sc60.nd (it_rN T (x_ixT (d := nD n) (x_nm 0).rd x_int rfl)) (by rfl) (by rw [List.length_range]; omega) (by rfl) (fun x hx => ⟨_, fun s H0 C cl fp => tg_fn 4 sc60.nd, .nil, fun _ s H0 C cl fp => x_shl1 (x_nm 4) (by have := List.mem_range.mp hx; omega)⟩) ?_
    rw [show ((List.range n).filter fun _ => true).map (fun p => nD (2 ^ p)) = ((List.range n).map fun p => 2 ^ p).map nD by rw [filt_true, List.map_map]; rfl]
    refine hr_fold prD ts.reverse (fun (g : List Nat) => [.pu (ordD n ts), .ow (.one (.L (g.map nD))), .un, .un, .un]) topStep ((List.range n).map fun p => 2 ^ p) (fun _ g => g.length = n) PassesOwn.never rfl (it_tup (xt (x_revT (x_ixT (d := tsD ts) (x_nm 0).rd x_int rfl).rd) (by rw [List.map_reverse]))) (.same (.same (.same (.same (.same .nil))))) (by simp) (fun pre p post g e hg => ?_) (fun hg => ?_)
    · have hpm := hp p (by have : p ∈ ts.reverse := by rw [e]; simp
                           simpa using this)
      refine ⟨by rw [topStep_len]; exact hg, _, [2, 3], tg_pr 2 3 rfl sc60.nd, ?_⟩
      refine hr_setL 1 (xs := g.map nD) (j := p.1) (d := nD (g.getD p.1 0 ||| g.getD p.2 0)) (x_op (rx (x_ixL (ds := g.map nD) (x_owL 1) (x_nm 2) (getD_atI (by rw [hg]; omega)))) (rx (x_ixL (ds := g.map nD) (x_owL 1) (x_nm 3) (getD_atI (by rw [hg]; omega)))) d_orN) (x_nm 2) (hr_nil _ (.same (.same (.un (.un (.same .nil))))) ?_) (by rw [List.length_map, hg]; omega)
      show _ = [Slot.pu (ordD n ts), .ow (.one (.L ((topStep g p).map nD))), .un, .un, .un]
      unfold topStep
      rw [List.map_set]
    · refine hr_frz 1 rfl ?_
      exact hr_ret (x_nm 1) rfl
def R_lbits : List D → D → Prop := fun ds d => ∃ ps : List Nat, (∀ x ∈ ps, x ≤ 1000) ∧ ps.length ≤ 100000 ∧ ds = [rowD ps] ∧ d = nD (bitsF ps)
theorem sc61 : FnScope ["_law_pieces_so", "_law_own"] ["_law_pieces_so"] (defScope (topS 61)) := ⟨rfl, rfl, rfl, by decide +kernel, rfl, by decide +kernel, by decide +kernel⟩
theorem ok_lbits (T : Bn mg) (D0 : Df K mg "_law_bits" (topS 61) ["_law_pieces_so"]) : Cal P w K mg base 1 "_law_bits" (spF R_lbits) :=
  mk_cal D0 sc61 (by decide) (fun ds d ⟨_, _, _, h, _⟩ => by rw [h]; rfl) fun f cdv A outer s H E hr ds d ⟨ps, hp, hl, h1, h2⟩ => by
    subst h1 h2
    refine hr_ret (xt (x_sum T rfl (ns := (ps.map fun p => 2 ^ p).map Int.ofNat) (rt (rl (o_lc [("_law_own", 1)] nD ps (fun _ => true) (fun p => nD (2 ^ p)) rfl sc61.nd (it_list (x_nm 0)) (by rfl) hl fun x hx => ⟨_, fun s H0 C cl fp => tg_fn 1 sc61.nd, .nil, fun _ s H0 C cl fp => x_shl1 (x_nm 1) (by have := hp x hx; omega)⟩)) ?_)) ?_) rfl
    · rw [filt_true, map_ofNat, List.map_map]
      rfl
    · rw [sum_ofNat]
      rfl
theorem sc62 : FnScope ["_law_bits_so", "_law_k"] ["_law_bits_so"] (defScope (topS 62)) := ⟨rfl, rfl, rfl, by decide +kernel, rfl, by decide +kernel, by decide +kernel⟩
theorem ok_lpieces (T : Bn mg) (D0 : Df K mg "_law_pieces" (topS 62) ["_law_bits_so"]) : Cal P w K mg base 1 "_law_pieces" (spF R_pieces_for) :=
  mk_cal D0 sc62 (by decide) (fun ds d ⟨_, _, h, _⟩ => by rw [h]; rfl) fun f cdv A outer s H E hr ds d ⟨b, hb, h1, h2⟩ => by
    subst h1 h2
    have hbl : Builtin.Int.intBits (b : Int) ≤ 64 := intBits_le_iff.mpr (by rw [Int.natAbs_natCast]; exact hb)
    refine hr_ret (x_tupleL T (rl (o_lc [("_law_k", 1)] nD (List.range (Builtin.Int.intBits (b : Int))) (fun p => b.testBit p) nD rfl sc62.nd (it_rN T (x_bits (x_nm 0)) (by rw [Int.toNat_natCast]) (by omega)) (by rfl) (by rw [List.length_range]; omega) fun x hx => ⟨_, fun s H0 C cl fp => tg_fn 1 sc62.nd, .one fun s H0 C cl fp => ?_, fun _ s H0 C cl fp => x_nm 1⟩))) ?_
    · exact t_bit1 (x_nm 0) (x_nm 1)
    · rw [pcs_bits hb]
      rfl
theorem sc63 : FnScope ["_law_net_here", "_law_found", "_law_k", "_law_under_so", "_law_low_so", "_law_high_so", "_law_own"] ["_law_net_here"] (defScope (topS 63)) := ⟨rfl, rfl, rfl, by decide +kernel, rfl, by decide +kernel, by decide +kernel⟩
theorem ok_llefts (T : Bn mg) (D0 : Df K mg "_law_lefts" (topS 63) ["_law_net_here"]) (c1 : Cal P w K mg base 1 "_law_bits" (spF R_lbits)) : Cal P w K mg base 2 "_law_lefts" (spF R_lefts) :=
  mk_cal D0 sc63 (by decide) (fun ds d ⟨_, _, _, _, h, _⟩ => by rw [h]; rfl) fun f cdv A outer s H E hr ds d ⟨n, ts, ⟨hn, hp, hl⟩, hfew, h1, h2⟩ => by
    subst h1 h2
    refine hr_own 1 sc63.nd (o_lst (a_cons (x_int (i := ((0 : Nat) : Int))) a_nil)) ?_
    refine hr_frz 1 rfl ?_
    refine hr_fold nD (List.range n) (fun (g : List Nat) => [.pu (ordD n ts), .pu (rowD g), .un, .un, .un, .un, .un]) (lefStep ts) [0] (fun pre g => g = pre.foldl (lefStep ts) [0]) PassesOwn.never rfl (it_rN T (x_ixT (d := nD n) (x_nm 0).rd x_int rfl)) (.same (.same (.same (.same (.same (.same (.same .nil))))))) rfl (fun pre k post g e hg => ?_) (fun hg => ?_)
    · obtain ⟨r1, r2, r3⟩ := range_pre e
      have hg2 : g = lefsU ts k := by rw [hg, r1, ← r2]; rfl
      have hgl : g.length ≤ 2000 := by rw [hg2]; exact hfew k (by omega)
      have hsl : (lefStep ts g k).length ≤ 2000 := by rw [hg2, ← lefsU_succ]; exact hfew (k + 1) (by omega)
      obtain ⟨u1, u2⟩ := und_bound hp k
      have hfl := List.length_filter_le (fun b => decide (b &&& bitsF (undF ts k) = bitsF (undF ts k))) g
      refine ⟨by rw [List.foldl_append, ← hg]; rfl, _, [2], tg_fn 2 sc63.nd, ?_⟩
      refine hr_asg 3 sc63.nd (x_call c1 hr (by decide) (a_cons (xl (xt2 (o_lc [("_law_low_so", 4), ("_law_high_so", 5)] prD ts (fun p => decide (p.2 = k)) (fun p => nD p.1) rfl sc63.nd (it_tup (x_ixT (d := tsD ts) (x_nm 0).rd x_int rfl)) (by rfl) hl fun p hp2 => ⟨_, fun s H0 C cl fp => tg_pr 4 5 rfl sc63.nd, .one fun s H0 C cl fp => t_cmp (x_nm 5).rd (x_nm 2).rd d_eqN, fun _ s H0 C cl fp => x_nm 4⟩) (show _ = (undF ts k).map nD by unfold undF; rw [List.map_map]; rfl))) a_nil) ⟨undF ts k, fun x hx => by have := u1 x hx; omega, by omega, rfl, rfl⟩) ?_
      refine hr_own 1 sc63.nd (o_op (x_nm 1).rd (rl (o_lc [("_law_own", 6)] nD g (fun b => decide (b &&& bitsF (undF ts k) = bitsF (undF ts k))) (fun b => nD (b ||| 2 ^ k)) rfl sc63.nd (it_list (x_nm 1)) (by rfl) (by omega) fun b hb => ⟨_, fun s H0 C cl fp => tg_fn 6 sc63.nd, .one fun s H0 C cl fp => t_cmp (rx (x_op (x_nm 6).rd (x_nm 3).rd d_andN)) (x_nm 3).rd d_eqN, fun _ s H0 C cl fp => x_op (x_nm 6).rd (rx (x_shl1 (x_nm 2) (by omega))) d_orN⟩)) (o_cat (by rw [List.length_map, List.length_map]; omega))) ?_
      refine hr_frz 1 rfl ?_
      refine hr_nil _ (.same (.same (.un (.un (.un (.un (.un .nil))))))) ?_
      show [Slot.pu (ordD n ts), .pu (.lst (g.map nD ++ (g.filter fun b => decide (b &&& bitsF (undF ts k) = bitsF (undF ts k))).map fun b => nD (b ||| 2 ^ k))), .un, .un, .un, .un, .un] = [Slot.pu (ordD n ts), .pu (rowD (lefStep ts g k)), .un, .un, .un, .un, .un]
      unfold rowD lefStep
      rw [List.map_append, List.map_map]
      rfl
    · refine hr_ret (xl (xt2 (o_sorted T (ns := (lefsU ts n).map Int.ofNat) (ms := (leftsF n ts).map Int.ofNat) (rt (x_nm 1 (d := rowD (lefsU ts n))).rd (by unfold rowD; rw [map_ofNat])) ((srt_perm _).map _) (by
          rw [List.pairwise_map]
          exact (srt_sorted _).imp fun h => Int.ofNat_le.mpr h)) (map_ofNat _))) rfl
def chT (m : Nat) : List Pr := (List.range (m - 1)).map fun k => (k, k + 1)
def R_chain : List D → D → Prop := fun ds d => ∃ m : Nat, 1 ≤ m ∧ m ≤ 60 ∧ ds = [nD m] ∧ d = ordD m (chT m)
theorem sc64 : FnScope ["_law_many_so", "_law_k"] ["_law_many_so"] (defScope (topS 64)) := ⟨rfl, rfl, rfl, by decide +kernel, rfl, by decide +kernel, by decide +kernel⟩
theorem ok_chain (T : Bn mg) (D0 : Df K mg "_law_chain" (topS 64) ["_law_many_so"]) : Cal P w K mg base 1 "_law_chain" (spF R_chain) :=
  mk_cal D0 sc64 (by decide) (fun ds d ⟨_, _, _, h, _⟩ => by rw [h]; rfl) fun f cdv A outer s H E hr ds d ⟨m, hm1, hm, h1, h2⟩ => by
    subst h1 h2
    refine hr_ret (x_tup (a_cons (x_nm 0) (a_cons (x_tupleL T (rl (o_lc [("_law_k", 1)] nD (List.range (m - 1)) (fun _ => true) (fun k => prD (k, k + 1)) rfl sc64.nd (it_rN T (x_op (x_nm 0).rd (x_int (i := ((1 : Nat) : Int))).rd d_sub) (by omega)) (by rfl) (by rw [List.length_range]; omega) fun x hx => ⟨_, fun s H0 C cl fp => tg_fn 1 sc64.nd, .nil, fun _ s H0 C cl fp => x_tup (a_cons (x_nm 1) (a_cons (x_op (x_nm 1).rd (x_int (i := ((1 : Nat) : Int))).rd (d_add.to rfl)) a_nil)) (Nat.le_of_ble_eq_true rfl)⟩))) a_nil)) (Nat.le_of_ble_eq_true rfl)) ?_
    rw [filt_true]
    show D.tup [nD m, .tup _] = ordD m (chT m)
    unfold ordD tsD chT
    rw [List.map_map]
    rfl
theorem sc71 : FnScope [] [] (defScope (topS 71)) := ⟨rfl, rfl, rfl, by decide +kernel, rfl, by decide +kernel, by decide +kernel⟩
theorem sc72 : FnScope [] [] (defScope (topS 72)) := ⟨rfl, rfl, rfl, by decide +kernel, rfl, by decide +kernel, by decide +kernel⟩
def enT : List Pr := [(0, 2), (1, 2), (1, 3)]
def veT2 : List Pr := [(0, 1), (0, 2)]
def R_en : List D → D → Prop := fun ds d => ds = [] ∧ d = ordD 4 enT
def R_vee : List D → D → Prop := fun ds d => ds = [] ∧ d = ordD 3 veT2
theorem ok_en (D0 : Df K mg "_law_en" (topS 71) []) : Cal P w K mg base 1 "_law_en" (spF R_en) :=
  mk_cal D0 sc71 (by decide) (fun ds d h => by rw [h.1]; rfl) fun f cdv A outer s H E hr ds d ⟨h1, h2⟩ => by
    subst h1 h2
    refine hr_ret (d := ordD 4 enT) ?_ ?_
    · have e4 : ∀ {Γ : Ctx} {Y : Cx} {k : Nat} {p : Pos}, EvX Y (.Constant (.int 4) k p) Γ (nD 4) := x_int
      refine x_tup (ds := [nD 4, tsD enT]) ?_ (by show 2 ≤ 100000; omega)
      refine a_cons (d := nD 4) (ds := [tsD enT]) e4 ?_ rfl
      refine a_cons (d := tsD enT) (ds := []) ?_ a_nil rfl
      refine x_tup (ds := [prD (0, 2), prD (1, 2), prD (1, 3)]) ?_ (by show 3 ≤ 100000; omega)
      refine a_cons (d := prD (0, 2)) (ds := [prD (1, 2), prD (1, 3)]) (x_prC (i := 0) (j := 2)) ?_ rfl
      refine a_cons (d := prD (1, 2)) (ds := [prD (1, 3)]) (x_prC (i := 1) (j := 2)) ?_ rfl
      exact a_cons (d := prD (1, 3)) (ds := []) (x_prC (i := 1) (j := 3)) a_nil rfl
    · rfl
theorem ok_vee (D0 : Df K mg "_law_vee" (topS 72) []) : Cal P w K mg base 1 "_law_vee" (spF R_vee) :=
  mk_cal D0 sc72 (by decide) (fun ds d h => by rw [h.1]; rfl) fun f cdv A outer s H E hr ds d ⟨h1, h2⟩ => by
    subst h1 h2
    refine hr_ret (d := ordD 3 veT2) ?_ ?_
    · have e3 : ∀ {Γ : Ctx} {Y : Cx} {k : Nat} {p : Pos}, EvX Y (.Constant (.int 3) k p) Γ (nD 3) := x_int
      refine x_tup (ds := [nD 3, tsD veT2]) ?_ (by show 2 ≤ 100000; omega)
      refine a_cons (d := nD 3) (ds := [tsD veT2]) e3 ?_ rfl
      refine a_cons (d := tsD veT2) (ds := []) ?_ a_nil rfl
      refine x_tup (ds := [prD (0, 1), prD (0, 2)]) ?_ (by show 2 ≤ 100000; omega)
      refine a_cons (d := prD (0, 1)) (ds := [prD (0, 2)]) (x_prC (i := 0) (j := 1)) ?_ rfl
      exact a_cons (d := prD (0, 2)) (ds := []) (x_prC (i := 0) (j := 2)) a_nil rfl
    · rfl
end
end G
-- La5
set_option maxHeartbeats 4000000
/-! La5: the law's counts, number, whole plays, lists. -/
namespace G
open PySem PySem.Spec PyProof.Rows L2
theorem lefs_zero (ts : List Pr) (k : Nat) : 0 ∈ lefsU ts k := by
  unfold lefsU
  induction k with
  | zero => simp
  | succ k ih =>
    rw [List.range_succ, List.foldl_append]
    exact List.mem_append_left _ ih
theorem lefts_head {n : Nat} {ts : List Pr} (c : CloOk n ts) : ∃ r, leftsF n ts = 0 :: r := by
  have h0 : 0 ∈ leftsF n ts := mem_srt.mpr (lefs_zero ts n)
  have ha := c.asc
  cases e : leftsF n ts with
  | nil =>
    rw [e] at h0
    cases h0
  | cons a r =>
    rw [e] at h0 ha
    rcases List.mem_cons.mp h0 with z | z
    · exact ⟨r, by rw [← z]⟩
    · have := (List.pairwise_cons.mp ha).1 0 z
      omega
def lcStep (tops : List Nat) (m : List Pr) (b : Nat) : List Pr := if 0 < b then cntStep tops m b else m
def numF (n : Nat) (ts : List Pr) : Nat → List Nat → Nat
  | _, [] => 0
  | b, p :: ps => (((pcsF b).filter fun k => decide (k < p)).map fun k => (playsF n ts (mns b ((topsF n ts).getD k 0))).length).sum + numF n ts (mns b ((topsF n ts).getD p 0)) ps
def TripOk (n : Nat) (ts : List Pr) : Nat → List Nat → Prop
  | _, [] => True
  | b, p :: ps => p ∈ pcsF b ∧ TripOk n ts (mns b ((topsF n ts).getD p 0)) ps
section
variable {P : Program} {w : World} {K : PySem.W.Frag} {mg : Str → Option Value} {base : Heap}
theorem sc75 : FnScope ["_law_net_here", "_law_up_so", "_law_found", "_law_here_so", "_law_k"] ["_law_net_here"] (defScope (topS 75)) := ⟨rfl, rfl, rfl, by decide +kernel, rfl, by decide +kernel, by decide +kernel⟩
theorem ok_lcounts (T : Bn mg) (D0 : Df K mg "_law_counts" (topS 75) ["_law_net_here"]) (c1 : Cal P w K mg base 1 "_law_ups" (spF R_tops)) (c2 : Cal P w K mg base 2 "_law_lefts" (spF R_lefts)) (c3 : Cal P w K mg base 1 "_law_pieces" (spF R_pieces_for)) : Cal P w K mg base 3 "_law_counts" (spF R_counts) :=
  mk_cal D0 sc75 (by decide) (fun ds d ⟨_, _, _, _, _, h, _⟩ => by rw [h]; rfl) fun f cdv A outer s H E hr ds d ⟨n, ts, hp, hfew, hc, h1, h2⟩ => by
    subst h1 h2
    have hll := lefts_len hfew
    obtain ⟨r0, er0⟩ := lefts_head hc
    refine hr_asgT rfl (k_x (x_call c1 hr (by decide) (a_cons (x_nm 0) a_nil) ⟨n, ts, hp, rfl, rfl⟩) (k_o (o_dct1 (m := 0) (n := 1)) k_nil)) (tk_cons 1 sc75.nd (tk_cons 2 sc75.nd tk_nil)) ?_
    refine hr_fold nD (leftsF n ts) (fun (m : List Pr) => [.pu (ordD n ts), .pu (rowD (topsF n ts)), .ow (.one (cnB m)), .un, .un]) (lcStep (topsF n ts)) [(0, 1)] (fun pre m => (pre = [] ∧ m = [(0, 1)]) ∨ (pre ≠ [] ∧ m = pre.foldl (cntStep (topsF n ts)) [])) PassesOwn.never rfl (it_list (x_call c2 hr (by decide) (a_cons (x_nm 0) a_nil) ⟨n, ts, hp, hfew, rfl, rfl⟩)) (.same (.same (.same (.same (.same .nil))))) (.inl ⟨rfl, rfl⟩) (fun pre b post m e hm => ?_) (fun hm => ?_)
    · have hsub := hc.sub pre b post e
      have hb60 := hc.lt b (by rw [e]; simp)
      have hasc := hc.asc
      rw [e] at hasc
      have hlt : ∀ x ∈ pre, x < b := fun x hx => (List.pairwise_append.mp hasc).2.2 x hx b List.mem_cons_self
      rcases Nat.eq_zero_or_pos b with hb0 | hb0
      · -- the first
        have hpre : pre = [] := by
          cases pre with
          | nil => rfl
          | cons x pre =>
            have := hlt x List.mem_cons_self
            omega
        have em : m = [(0, 1)] := by
          rcases hm with hm | hm
          · exact hm.2
          · exact (hm.1 hpre).elim
        refine ⟨.inr ⟨by simp, ?_⟩, _, [3], tg_fn 3 sc75.nd, ?_⟩
        · subst hb0 hpre em
          rfl
        · refine hr_ifF ((t_cmp (x_nm 3).rd (x_int (i := ((0 : Nat) : Int))).rd d_gtN).to (decide_eq_false (by omega))) (hr_nil _ (.same (.same (.same (.un (.same .nil))))) ?_)
          subst hb0 em
          rfl
      · have hpre : pre ≠ [] := fun z => by
          rw [er0, z] at e
          have := (List.cons.inj e).1
          omega
        have em : m = pre.foldl (cntStep (topsF n ts)) [] := by
          rcases hm with hm | hm
          · exact (hpre hm.1).elim
          · exact hm.2
        have hmk : m.map (·.1) = pre := by
          rw [em, cnt_keys]
          rfl
        have hbn : b ∉ m.map (·.1) := by
          rw [hmk]
          intro z
          have := hlt b z
          omega
        have hml : m.length ≤ 2000 := by
          have h3 := congrArg List.length hmk
          have h4 := congrArg List.length e
          rw [List.length_map] at h3
          rw [List.length_append, List.length_cons] at h4
          omega
        have est : lcStep (topsF n ts) m b = cntStep (topsF n ts) m b := if_pos hb0
        refine ⟨.inr ⟨by simp, by rw [est, List.foldl_append, em]; rfl⟩, _, [3], tg_fn 3 sc75.nd, ?_⟩
        refine hr_if (M := fun Γ' => Γ' = [.pu (ordD n ts), .pu (rowD (topsF n ts)), .ow (.one (cnB (lcStep (topsF n ts) m b))), .un, .un]) ((t_cmp (x_nm 3).rd (x_int (i := ((0 : Nat) : Int))).rd d_gtN).to (decide_eq_true hb0)) (fun _ => ?_) (fun z => by cases z) (fun Γ' z => hr_nil Γ' (Wk.refl _) z)
        refine hr_setD 2 (ks := m.map fun x => (x.1 : Int)) (ds := m.map fun x => nD x.2) (d := nD (cntV (topsF n ts) m b)) hr.u1 ?_ (x_nm 3) (hr_nil _ (.same (.same (.same (.un (.same .nil))))) ?_) ?_ (by rw [List.length_map]; omega)
        · refine xt (x_sum T rfl (ns := ((pcsF b).map fun p => (m.lookup (mns b ((topsF n ts).getD p 0))).getD 0).map Int.ofNat) (rt (rl (o_lc [("_law_k", 4)] nD (pcsF b) (fun _ => true) (fun p => nD ((m.lookup (mns b ((topsF n ts).getD p 0))).getD 0)) rfl sc75.nd (it_tup (x_call c3 hr (by decide) (a_cons (x_nm 3) a_nil) ⟨b, Nat.lt_of_lt_of_le hb60 (by decide), rfl, rfl⟩)) (by rfl) (by have := pcs_len b; omega) fun p hp2 => ⟨_, fun s H0 C cl fp => tg_fn 4 sc75.nd, .nil, fun _ s H0 C cl fp => ?_⟩)) ?_)) ?_
          · obtain ⟨q1, q2⟩ := hsub p hp2
            rw [← hmk] at q2
            obtain ⟨v, hv⟩ := lookup_mem q2
            exact x_ixD (by exact hr.u1) (x_owD 2) (x_mns (x_nm 3).rd (x_ixL (x_nm 1).rd (x_nm 4) (getD_atI (by rw [topsF_len]; exact q1)))) (by rw [dget_cn, hv]; rfl)
          · rw [filt_true, map_ofNat, List.map_map]
            rfl
          · rw [sum_ofNat]
            unfold cntV
            rw [if_pos hb0]
            rfl
        · show _ = [Slot.pu (ordD n ts), .pu (rowD (topsF n ts)), .ow (.one (cnB (lcStep (topsF n ts) m b))), .un, .un]
          rw [est, dput_cn hbn]
          rfl
        · have := ofNat_nodup (ks := m.map (·.1)) (by
            rw [hmk]
            exact ((List.pairwise_append.mp hasc).1).imp fun h => Nat.ne_of_lt h)
          rw [List.map_map] at this
          exact this
    · have em : (leftsF n ts).foldl (lcStep (topsF n ts)) [(0, 1)] = cntF n ts := by
        rcases hm with hm | hm
        · rw [er0] at hm
          cases hm.1
        · exact hm.2
      rw [em]
      refine hr_frz 2 (o := cnB (cntF n ts)) rfl ?_
      exact hr_ret (d := cnD (cntF n ts)) (x_nm 2) rfl
def R_numso : List D → D → Prop := fun ds d => ∃ (n : Nat) (ts : List Pr) (ps : List Nat), NetOk n ts ∧ TripOk n ts (2 ^ n - 1) ps ∧ ds = [ordD n ts, cnD (cntF n ts), nsD ps] ∧ d = nD (numF n ts (2 ^ n - 1) ps)
theorem sc76 : FnScope ["_law_net_here", "_law_counts_so", "_law_trip_so", "_law_up_so", "_law_here_so", "_law_found", "_law_own", "_law_k"] ["_law_net_here", "_law_counts_so", "_law_trip_so"] (defScope (topS 76)) := ⟨rfl, rfl, rfl, by decide +kernel, rfl, by decide +kernel, by decide +kernel⟩
/-- the state after some pieces -/
def numSt (n : Nat) (ts : List Pr) (s : Nat × Nat) (p : Nat) : Nat × Nat := (mns s.1 ((topsF n ts).getD p 0), s.2 + (((pcsF s.1).filter fun k => decide (k < p)).map fun k => (playsF n ts (mns s.1 ((topsF n ts).getD k 0))).length).sum)
theorem num_fold (n : Nat) (ts : List Pr) : ∀ (ps : List Nat) (b a : Nat), (ps.foldl (numSt n ts) (b, a)).2 = a + numF n ts b ps
  | [], b, a => rfl
  | p :: ps, b, a => by
    rw [List.foldl_cons]
    unfold numF
    rw [show numSt n ts (b, a) p = (mns b ((topsF n ts).getD p 0), a + (((pcsF b).filter fun k => decide (k < p)).map fun k => (playsF n ts (mns b ((topsF n ts).getD k 0))).length).sum) from rfl, num_fold n ts ps]
    omega
theorem trip_fold {n : Nat} {ts : List Pr} (N : NetOk n ts) : ∀ (pre : List Nat) (p : Nat) (post : List Nat) (s : Nat × Nat), s.1 ∈ leftsF n ts → TripOk n ts s.1 (pre ++ p :: post) → (pre.foldl (numSt n ts) s).1 ∈ leftsF n ts ∧ p ∈ pcsF (pre.foldl (numSt n ts) s).1
  | [], p, post, s, hs, h => ⟨hs, h.1⟩
  | q :: pre, p, post, s, hs, h => by
    rw [List.foldl_cons]
    exact trip_fold N pre p post (numSt n ts s q) (N.pl.sub _ hs q h.1).2.1 h.2
theorem ok_lnum (T : Bn mg) (D0 : Df K mg "_law_number_so" (topS 76) ["_law_net_here", "_law_counts_so", "_law_trip_so"]) (c1 : Cal P w K mg base 1 "_law_ups" (spF R_tops)) (c3 : Cal P w K mg base 1 "_law_pieces" (spF R_pieces_for)) : Cal P w K mg base 2 "_law_number_so" (spF R_numso) :=
  mk_cal D0 sc76 (by decide) (fun ds d ⟨_, _, _, _, _, h, _⟩ => by rw [h]; rfl) fun f cdv A outer s H E hr ds d ⟨n, ts, ps, N, ht, h1, h2⟩ => by
    subst h1 h2
    have hn := N.go.n60
    refine hr_asgT rfl (k_x (x_call c1 hr (by decide) (a_cons (x_nm 0) a_nil) ⟨n, ts, N.go.prsOk, rfl, rfl⟩) (k_x (x_full (x_ixT (d := nD n) (x_nm 0).rd x_int rfl) (by omega)) (k_x (x_int (i := ((0 : Nat) : Int))) k_nil))) (tk_cons 3 sc76.nd (tk_cons 4 sc76.nd (tk_cons 5 sc76.nd tk_nil))) ?_
    refine hr_fold nD ps (fun (s : Nat × Nat) => [.pu (ordD n ts), .pu (cnD (cntF n ts)), .pu (nsD ps), .pu (rowD (topsF n ts)), .pu (nD s.1), .pu (nD s.2), .un, .un]) (numSt n ts) (2 ^ n - 1, 0) (fun pre s => s = pre.foldl (numSt n ts) (2 ^ n - 1, 0)) PassesOwn.never rfl (it_tup (x_nm 2)) (.same (.same (.same (.same (.same (.same (.same (.same .nil)))))))) rfl (fun pre p post s e hs => ?_) (fun hs => ?_)
    · obtain ⟨hb, hp⟩ := trip_fold N pre p post (2 ^ n - 1, 0) N.pl.full (by rw [← e]; exact ht)
      rw [← hs] at hb hp
      obtain ⟨b, a⟩ := s
      have hb : b ∈ leftsF n ts := hb
      have hp : p ∈ pcsF b := hp
      have hb60 := N.cl.lt b hb
      have hps := N.pl.sub b hb p hp
      refine ⟨by rw [List.foldl_append, ← hs]; rfl, _, [6], tg_fn 6 sc76.nd, ?_⟩
      refine hr_asg 5 sc76.nd (d := nD (a + (((pcsF b).filter fun k => decide (k < p)).map fun k => (playsF n ts (mns b ((topsF n ts).getD k 0))).length).sum)) (x_op (x_nm 5).rd (rx (xt (x_sum T rfl (ns := (((pcsF b).filter fun k => decide (k < p)).map fun k => (playsF n ts (mns b ((topsF n ts).getD k 0))).length).map Int.ofNat) (rt (rl (o_lc [("_law_k", 7)] nD (pcsF b) (fun k => decide (k < p)) (fun k => nD (playsF n ts (mns b ((topsF n ts).getD k 0))).length) rfl sc76.nd (it_tup (x_call c3 hr (by decide) (a_cons (x_nm 4) a_nil) ⟨b, Nat.lt_of_lt_of_le hb60 (by decide), rfl, rfl⟩)) (by rfl) (by have := pcs_len b; omega) fun k hk => ⟨_, fun s H0 C cl fp => tg_fn 7 sc76.nd, .one fun s H0 C cl fp => t_cmp (x_nm 7).rd (x_nm 6).rd d_ltN, fun _ s H0 C cl fp => ?_⟩)) ?_)) ?_)) d_addN) ?_
      · obtain ⟨q1, q2, _⟩ := N.pl.sub b hb k hk
        exact x_ixD (by exact hr.u1) (x_nm 1).rd (x_mns (x_nm 4).rd (x_ixL (x_nm 3).rd (x_nm 7) (getD_atI (by rw [topsF_len]; exact q1)))) (N.dget q2)
      · rw [map_ofNat, List.map_map]
        rfl
      · rw [sum_ofNat]
        rfl
      · refine hr_asg 4 sc76.nd (x_mns (x_nm 4).rd (x_ixL (x_nm 3).rd (x_nm 6) (getD_atI (by rw [topsF_len]; exact hps.1)))) ?_
        exact hr_nil _ (.same (.same (.same (.same (.same (.same (.un (.same .nil)))))))) rfl
    · refine hr_ret (x_nm 5) ?_
      show nD (ps.foldl (numSt n ts) (2 ^ n - 1, 0)).2 = _
      rw [num_fold, Nat.zero_add]
/-! lists -/
def R_lists (m : Nat) : List D → D → Prop := fun ds d => ∃ x, ds = [x] ∧ Okd m x ∧ d = lstD x
theorem sc57 : FnScope ["_law_matter", "_law_bit"] ["_law_matter"] (defScope (topS 57)) := ⟨rfl, rfl, rfl, by decide +kernel, rfl, by decide +kernel, by decide +kernel⟩
theorem ok_lists (T : Bn mg) (D0 : Df K mg "_law_lists" (topS 57) ["_law_matter"]) : ∀ m : Nat, Cal P w K mg base (m + 1) "_law_lists" (spF (R_lists m))
  | 0 => mk_cal D0 sc57 (by decide) (fun ds d ⟨x, h, _⟩ => by rw [h]; rfl) fun f cdv A outer s H E hr ds d ⟨x, h1, h2, h3⟩ => by
    subst h1 h3
    have h2 : leafB x = true := h2
    rw [leaf_lstD h2]
    refine hr_ret (x_ifX (k := false) (t_val ((x_isi2 T (x_nm 0).rd boot_list T.list boot_tuple T.tuple (kit_two (kit_list x) (kit_tuple x))).to ?_)) (fun z => by cases z) fun _ => x_nm 0) rfl
    rw [leaf_lt h2]
  | m + 1 => mk_cal D0 sc57 (by decide) (fun ds d ⟨x, h, _⟩ => by rw [h]; rfl) fun f cdv A outer s H E hr ds d ⟨x, h1, h2, h3⟩ => by
    subst h1 h3
    rcases h2 with h2 | ⟨ys, h2, h3, h4⟩
    · rw [leaf_lstD h2]
      refine hr_ret (x_ifX (k := false) (t_val ((x_isi2 T (x_nm 0).rd boot_list T.list boot_tuple T.tuple (kit_two (kit_list x) (kit_tuple x))).to ?_)) (fun z => by cases z) fun _ => x_nm 0) rfl
      rw [leaf_lt h2]
    · have c := ok_lists T D0 m
      have e : lstD x = .lst ((ys.filter fun _ => true).map lstD) := by
        rw [filt_true, ← lstDs_map]
        rcases h2 with h2 | h2 <;> rw [h2, lstD]
      rw [e]
      refine hr_ret (x_ifX (k := true) (t_val ((x_isi2 T (x_nm 0).rd boot_list T.list boot_tuple T.tuple (kit_two (kit_list x) (kit_tuple x))).to ?_)) (fun _ => ?_) (fun z => by cases z)) rfl
      · rcases h2 with h2 | h2 <;> rw [h2] <;> rfl
      · refine xl (o_lc [("_law_bit", 1)] (fun z : D => z) ys (fun _ => true) lstD rfl sc57.nd ?_ (by rfl) h3 fun z hz => ⟨_, fun s H0 C cl fp => tg_fn 1 sc57.nd, .nil, fun _ s H0 C cl fp => x_call c hr (Nat.le_refl _) (a_cons (x_nm 1) a_nil) ⟨z, rfl, h4 z hz, rfl⟩⟩)
        rw [map_id']
        rcases h2 with h2 | h2
        · subst h2
          exact it_list (x_nm 0)
        · subst h2
          exact it_tup (x_nm 0)
end
end G
-- M7
/-! M7: bits, paths, what the lefts are. -/
namespace G
theorem bit_add {p : Nat} : ∀ {x : Nat} (i : Nat), x.testBit p = false → (2 ^ p + x).testBit i = (decide (p = i) || x.testBit i) := by
  induction p with
  | zero =>
    intro x i h
    rw [Nat.testBit_zero] at h
    have hx : x % 2 ≠ 1 := of_decide_eq_false h
    cases i with
    | zero =>
      rw [Nat.testBit_zero]
      have : (2 ^ 0 + x) % 2 = 1 := by
        rw [Nat.pow_zero]
        omega
      rw [decide_eq_true this]
      rfl
    | succ i =>
      rw [Nat.testBit_succ, Nat.testBit_succ]
      have : (2 ^ 0 + x) / 2 = x / 2 := by
        rw [Nat.pow_zero]
        omega
      rw [this]
      simp
  | succ p ih =>
    intro x i h
    rw [Nat.testBit_succ] at h
    cases i with
    | zero =>
      rw [Nat.testBit_zero, Nat.testBit_zero]
      have : (2 ^ (p + 1) + x) % 2 = x % 2 := by
        rw [Nat.pow_succ]
        omega
      rw [this]
      simp
    | succ i =>
      rw [Nat.testBit_succ, Nat.testBit_succ]
      have : (2 ^ (p + 1) + x) / 2 = 2 ^ p + x / 2 := by
        rw [Nat.pow_succ]
        omega
      rw [this, ih i h]
      have e : decide (p + 1 = i + 1) = decide (p = i) := by
        by_cases z : p = i
        · subst z; simp
        · rw [decide_eq_false z, decide_eq_false (by omega)]
      rw [e]
theorem bitsF_bit : ∀ {ps : List Nat}, ps.Nodup → ∀ i, (bitsF ps).testBit i = decide (i ∈ ps)
  | [], _, i => by
    show (0 : Nat).testBit i = _
    rw [Nat.zero_testBit]
    simp
  | p :: ps, h, i => by
    obtain ⟨h1, h2⟩ := List.nodup_cons.mp h
    have ih := bitsF_bit h2
    show (2 ^ p + bitsF ps).testBit i = _
    rw [bit_add i (by rw [ih p]; exact decide_eq_false h1), ih i]
    by_cases e : p = i
    · subst e
      simp
    · have e2 : ¬ i = p := fun z => e z.symm
      simp [e, e2]
theorem mns_leN (b t : Nat) : mns b t ≤ b := by
  have e : mns b t = b &&& mns b t := by
    refine Nat.eq_of_testBit_eq fun i => ?_
    rw [Nat.testBit_and, mns_bit]
    cases b.testBit i <;> cases t.testBit i <;> rfl
  rw [e]
  exact Nat.and_le_left
theorem mns_lt {b t p : Nat} (h : b.testBit p = true) (ht : t.testBit p = true) : mns b t < b := by
  refine Nat.lt_of_le_of_ne (mns_leN b t) fun e => ?_
  have := congrArg (fun x => Nat.testBit x p) e
  simp only [mns_bit, h, ht] at this
  cases this
/-! ### paths -/
abbrev Pq := Nat × Nat
inductive Path (ts : List Pq) : Nat → Nat → Prop
  | refl (a : Nat) : Path ts a a
  | step {a c b : Nat} : (a, c) ∈ ts → Path ts c b → Path ts a b
theorem Path.le {ts : List Pq} (hp : ∀ p ∈ ts, p.1 < p.2) {a b : Nat} (h : Path ts a b) : a ≤ b := by
  induction h with
  | refl a => exact Nat.le_refl a
  | step hm _ ih =>
    have := hp _ hm
    exact Nat.le_trans (Nat.le_of_lt this) ih
theorem Path.trans {ts : List Pq} {a b c : Nat} (h : Path ts a b) (h2 : Path ts b c) : Path ts a c := by
  induction h with
  | refl a => exact h2
  | step hm _ ih => exact .step hm (ih h2)
theorem Path.mono {ts us : List Pq} (h : ∀ p ∈ ts, p ∈ us) {a b : Nat} (q : Path ts a b) : Path us a b := by
  induction q with
  | refl a => exact .refl a
  | step hm _ ih => exact .step (h _ hm) ih
theorem Path.up {p : Pq} {r : List Pq} (hp : ∀ q ∈ p :: r, q.1 < q.2) {a b : Nat} (h : Path (p :: r) a b) : p.1 < a → Path r a b := by
  induction h with
  | refl a => exact fun _ => .refl a
  | step hm _ ih =>
    intro ha
    have := hp _ hm
    rcases List.mem_cons.mp hm with e | e
    · rw [← e] at ha
      exact absurd ha (Nat.lt_irrefl _)
    · exact .step e (ih (Nat.lt_trans ha this))
/-- sorted by the lower piece -/
def Asc1 (ts : List Pq) : Prop := ts.Pairwise fun p q => p.1 ≤ q.1
theorem tops_cons (n : Nat) (p : Pq) (r : List Pq) : topsF n (p :: r) = topStep (topsF n r) p := by
  unfold topsF
  rw [List.reverse_cons, List.foldl_append]
  rfl
theorem tops_bit {n : Nat} : ∀ {ts : List Pq}, Asc1 ts → (∀ p ∈ ts, p.1 < p.2 ∧ p.2 < n) → ∀ {a : Nat}, a < n → ∀ q, ((topsF n ts).getD a 0).testBit q = true ↔ Path ts a q
  | [], _, _, a, ha, q => by
    have e : (topsF n []).getD a 0 = 2 ^ a := by
      unfold topsF
      simp [List.getD, List.getElem?_range ha]
    rw [e, Nat.testBit_two_pow]
    constructor
    · intro h
      have : a = q := by simpa using h
      subst this
      exact .refl a
    · intro h
      cases h with
      | refl => simp
      | step hm _ => cases hm
  | p :: r, hs, hp, a, ha, q => by
    obtain ⟨h1, h2⟩ := List.pairwise_cons.mp hs
    have hp2 : ∀ q ∈ r, q.1 < q.2 ∧ q.2 < n := fun q hq => hp q (List.mem_cons_of_mem _ hq)
    have hpl : ∀ q ∈ p :: r, q.1 < q.2 := fun q hq => (hp q hq).1
    have ih := fun {a : Nat} (ha : a < n) => tops_bit h2 hp2 ha
    have hpp := hp p List.mem_cons_self
    have hx : p.1 < n := by omega
    rw [tops_cons]
    unfold topStep
    by_cases e : p.1 = a
    · subst e
      have e2 : (((topsF n r).set p.1 ((topsF n r).getD p.1 0 ||| (topsF n r).getD p.2 0))).getD p.1 0 = (topsF n r).getD p.1 0 ||| (topsF n r).getD p.2 0 := by
        simp [List.getD, List.getElem?_set_self (show p.1 < (topsF n r).length by rw [topsF_len]; exact hx)]
      rw [e2, Nat.testBit_or, Bool.or_eq_true, ih hx q, ih hpp.2 q]
      constructor
      · rintro (h | h)
        · exact h.mono fun z hz => List.mem_cons_of_mem _ hz
        · exact .step (c := p.2) List.mem_cons_self (h.mono fun z hz => List.mem_cons_of_mem _ hz)
      · intro h
        cases h with
        | refl => exact .inl (.refl _)
        | step hm hq =>
          have := hpl _ hm
          rcases List.mem_cons.mp hm with z | z
          · right
            rw [← z] at this ⊢
            have hq2 := hq.up (p := p) (r := r) hpl (by rw [← z]; exact this)
            exact hq2
          · exact .inl (.step z (hq.up hpl this))
    · have e2 : (((topsF n r).set p.1 ((topsF n r).getD p.1 0 ||| (topsF n r).getD p.2 0))).getD a 0 = (topsF n r).getD a 0 := by
        simp [List.getD, List.getElem?_set_ne e]
      rw [e2, ih ha q]
      constructor
      · exact fun h => h.mono fun z hz => List.mem_cons_of_mem _ hz
      · intro h
        rcases Nat.lt_or_ge p.1 a with z | z
        · exact h.up hpl z
        · cases h with
          | refl => exact .refl _
          | step hm hq =>
            rcases List.mem_cons.mp hm with w | w
            · exact (e (by rw [← w])).elim
            · have := h1 _ w
              have h3 : p.1 ≤ a := this
              omega
end G
-- M8
/-! M8: the lefts are the sets closed below; counts are numbers of plays. -/
namespace G
/-- closed below -/
def Cl (ts : List Pq) (b : Nat) : Prop := ∀ p ∈ ts, b.testBit p.2 = true → b.testBit p.1 = true
theorem Cl.path {ts : List Pq} {b : Nat} (h : Cl ts b) {x y : Nat} (q : Path ts x y) : b.testBit y = true → b.testBit x = true := by
  induction q with
  | refl a => exact fun h => h
  | step hm _ ih => exact fun z => h _ hm (ih z)
/-- sorted strictly -/
def AscS (ts : List Pq) : Prop := ts.Pairwise fun p q => p.1 < q.1 ∨ (p.1 = q.1 ∧ p.2 < q.2)
theorem AscS.asc1 {ts : List Pq} (h : AscS ts) : Asc1 ts := h.imp fun h => by
  rcases h with h | h
  · exact Nat.le_of_lt h
  · exact Nat.le_of_eq h.1
theorem und_nodup {ts : List Pq} (h : AscS ts) (k : Nat) : (undF ts k).Nodup := by
  unfold undF
  refine List.pairwise_map.mpr ?_
  refine (List.Pairwise.and_mem.mp (h.filter _)).imp fun {p q} z => ?_
  obtain ⟨h1, h2, h3⟩ := z
  have e1 : p.2 = k := of_decide_eq_true (List.mem_filter.mp h1).2
  have e2 : q.2 = k := of_decide_eq_true (List.mem_filter.mp h2).2
  rcases h3 with h3 | h3
  · exact Nat.ne_of_lt h3
  · omega
theorem mem_und {ts : List Pq} {k x : Nat} : x ∈ undF ts k ↔ (x, k) ∈ ts := by
  unfold undF
  rw [List.mem_map]
  constructor
  · rintro ⟨p, hp, e⟩
    obtain ⟨h1, h2⟩ := List.mem_filter.mp hp
    have h3 := of_decide_eq_true h2
    have : p = (x, k) := by rw [← e, ← h3]
    rw [← this]
    exact h1
  · intro h
    exact ⟨(x, k), List.mem_filter.mpr ⟨h, by simp⟩, rfl⟩
theorem und_all {ts : List Pq} (h : AscS ts) (k b : Nat) : b &&& bitsF (undF ts k) = bitsF (undF ts k) ↔ ∀ x, (x, k) ∈ ts → b.testBit x = true := by
  constructor
  · intro e x hx
    have := congrArg (fun z => Nat.testBit z x) e
    simp only [Nat.testBit_and, bitsF_bit (und_nodup h k), decide_eq_true (mem_und.mpr hx), Bool.and_true] at this
    exact this
  · intro hx
    refine Nat.eq_of_testBit_eq fun i => ?_
    rw [Nat.testBit_and, bitsF_bit (und_nodup h k)]
    by_cases z : i ∈ undF ts k
    · rw [hx i (mem_und.mp z)]
      simp
    · rw [decide_eq_false z]
      simp
theorem or_bit (b k i : Nat) : (b ||| 2 ^ k).testBit i = (b.testBit i || decide (k = i)) := by
  rw [Nat.testBit_or, Nat.testBit_two_pow]
theorem lt_of_bits {b n : Nat} (h : ∀ i, n ≤ i → b.testBit i = false) : b < 2 ^ n := Nat.lt_pow_two_of_testBit b h
theorem bit_hi {b n i : Nat} (h : b < 2 ^ n) (hi : n ≤ i) : b.testBit i = false := Nat.testBit_lt_two_pow (Nat.lt_of_lt_of_le h (Nat.pow_le_pow_right (by decide) hi))
theorem mem_lefsU {ts : List Pq} (hs : AscS ts) (hp : ∀ p ∈ ts, p.1 < p.2) : ∀ (k b : Nat), b ∈ lefsU ts k ↔ b < 2 ^ k ∧ Cl ts b
  | 0, b => by
    show b ∈ [0] ↔ _
    rw [List.mem_singleton]
    constructor
    · intro e
      subst e
      exact ⟨by decide, fun p _ h => by rw [Nat.zero_testBit] at h; cases h⟩
    · rintro ⟨h, _⟩
      rw [Nat.pow_zero] at h
      omega
  | k + 1, b => by
    have ih := mem_lefsU hs hp k
    rw [lefsU_succ]
    unfold lefStep
    rw [List.mem_append, List.mem_map]
    constructor
    · rintro (h | ⟨c, hc, e⟩)
      · obtain ⟨h1, h2⟩ := (ih b).mp h
        exact ⟨Nat.lt_of_lt_of_le h1 (Nat.pow_le_pow_right (by decide) (Nat.le_succ k)), h2⟩
      · obtain ⟨h1, h2⟩ := List.mem_filter.mp hc
        obtain ⟨h3, h4⟩ := (ih c).mp h1
        have h5 := (und_all hs k c).mp (of_decide_eq_true h2)
        subst e
        refine ⟨lt_of_bits fun i hi => ?_, fun p hpm hb => ?_⟩
        · rw [or_bit, bit_hi h3 (by omega), decide_eq_false (by omega)]
          rfl
        · rw [or_bit] at hb ⊢
          rcases Bool.or_eq_true _ _ ▸ hb with z | z
          · rw [h4 p hpm z]
            rfl
          · have e2 : k = p.2 := of_decide_eq_true z
            rw [h5 p.1 (by rw [e2]; exact hpm)]
            rfl
    · rintro ⟨h1, h2⟩
      by_cases hb : b.testBit k = true
      · right
        refine ⟨mns b (2 ^ k), List.mem_filter.mpr ⟨(ih _).mpr ⟨lt_of_bits fun i hi => ?_, fun p hpm hx => ?_⟩, decide_eq_true ((und_all hs k _).mpr fun x hx => ?_)⟩, ?_⟩
        · rw [mns_bit, Nat.testBit_two_pow]
          rcases Nat.lt_or_eq_of_le hi with z | z
          · rw [bit_hi h1 z]
            rfl
          · rw [decide_eq_true z]
            simp
        · rw [mns_bit, Nat.testBit_two_pow] at hx ⊢
          obtain ⟨z1, z2⟩ := Bool.and_eq_true_iff.mp hx
          have h3 := bit_lt h1 z1
          have h4 := hp p hpm
          rw [h2 p hpm z1, decide_eq_false (by omega)]
          rfl
        · have h4 : x < k := hp _ hx
          rw [mns_bit, Nat.testBit_two_pow, h2 (x, k) hx hb, decide_eq_false (by omega)]
          rfl
        · refine Nat.eq_of_testBit_eq fun i => ?_
          rw [or_bit, mns_bit, Nat.testBit_two_pow]
          by_cases e : k = i
          · subst e
            rw [hb]
            simp
          · rw [decide_eq_false e]
            simp
      · left
        refine (ih b).mpr ⟨lt_of_bits fun i hi => ?_, h2⟩
        rcases Nat.lt_or_eq_of_le hi with z | z
        · exact bit_hi h1 z
        · rw [← z]
          exact Bool.eq_false_iff.mpr hb
theorem lefsU_nodup {ts : List Pq} (hs : AscS ts) (hp : ∀ p ∈ ts, p.1 < p.2) : ∀ k, (lefsU ts k).Nodup
  | 0 => by
    show [0].Nodup
    simp
  | k + 1 => by
    have ih := lefsU_nodup hs hp k
    have hl : ∀ x ∈ lefsU ts k, x.testBit k = false := fun x hx => bit_hi ((mem_lefsU hs hp k x).mp hx).1 (Nat.le_refl k)
    rw [lefsU_succ]
    unfold lefStep
    refine List.nodup_append.mpr ⟨ih, List.pairwise_map.mpr ((List.Pairwise.and_mem.mp (ih.filter _)).imp fun {x y} z e => ?_), fun x hx y hy e => ?_⟩
    · obtain ⟨z1, z2, z3⟩ := z
      refine z3 (Nat.eq_of_testBit_eq fun i => ?_)
      have := congrArg (fun v => Nat.testBit v i) e
      simp only [or_bit] at this
      by_cases q : k = i
      · subst q
        rw [hl x (List.mem_filter.mp z1).1, hl y (List.mem_filter.mp z2).1]
      · rw [decide_eq_false q] at this
        simpa using this
    · obtain ⟨c, _, ec⟩ := List.mem_map.mp hy
      have h1 := hl x hx
      rw [e, ← ec, or_bit] at h1
      simp at h1
theorem lefsU_len {ts : List Pq} : ∀ k, (lefsU ts k).length ≤ 2 ^ k
  | 0 => Nat.le_refl 1
  | k + 1 => by
    have ih := lefsU_len (ts := ts) k
    rw [lefsU_succ]
    unfold lefStep
    rw [List.length_append, List.length_map]
    have := List.length_filter_le (fun b => decide (b &&& bitsF (undF ts k) = bitsF (undF ts k))) (lefsU ts k)
    rw [Nat.pow_succ]
    omega
theorem few_small {n : Nat} (ts : List Pq) (h : n ≤ 10) : FewOk n ts := fun k hk => Nat.le_trans (lefsU_len k) (Nat.le_trans (Nat.pow_le_pow_right (by decide) (Nat.le_trans hk h)) (by decide))
/-- a net: sorted pairs of pieces -/
structure Net (n : Nat) (ts : List Pq) : Prop where
  n60 : n ≤ 60
  prs : ∀ p ∈ ts, p.1 < p.2 ∧ p.2 < n
  asc : AscS ts
theorem Net.lt {n : Nat} {ts : List Pq} (N : Net n ts) : ∀ p ∈ ts, p.1 < p.2 := fun p hp => (N.prs p hp).1
theorem Net.mem {n : Nat} {ts : List Pq} (N : Net n ts) {b : Nat} : b ∈ leftsF n ts ↔ b < 2 ^ n ∧ Cl ts b := by
  unfold leftsF
  rw [mem_srt]
  exact mem_lefsU N.asc N.lt n b
theorem Net.top {n : Nat} {ts : List Pq} (N : Net n ts) {a : Nat} (ha : a < n) (q : Nat) : ((topsF n ts).getD a 0).testBit q = true ↔ Path ts a q := tops_bit N.asc.asc1 N.prs ha q
theorem Net.step {n : Nat} {ts : List Pq} (N : Net n ts) {b p : Nat} (hb : b ∈ leftsF n ts) (hp : p ∈ pcsF b) : p < n ∧ mns b ((topsF n ts).getD p 0) ∈ leftsF n ts ∧ mns b ((topsF n ts).getD p 0) < b := by
  obtain ⟨h1, h2⟩ := N.mem.mp hb
  have hbit := (mem_pcs.mp hp).2
  have hpn := bit_lt h1 hbit
  refine ⟨hpn, N.mem.mpr ⟨Nat.lt_of_le_of_lt (mns_leN _ _) h1, fun q hq z => ?_⟩, mns_lt hbit ((N.top hpn p).mpr (.refl p))⟩
  rw [mns_bit] at z ⊢
  obtain ⟨z1, z2⟩ := Bool.and_eq_true_iff.mp z
  have z3 : ((topsF n ts).getD p 0).testBit q.1 = false := by
    refine Bool.eq_false_iff.mpr fun w => ?_
    have := (N.top hpn q.2).mpr (((N.top hpn q.1).mp w).trans (.step hq (.refl _)))
    rw [this] at z2
    cases z2
  rw [h2 q hq z1, z3]
  rfl
theorem Net.clo {n : Nat} {ts : List Pq} (N : Net n ts) : CloOk n ts where
  asc := srt_strict (lefsU_nodup N.asc N.lt n)
  lt := fun b hb => Nat.lt_of_lt_of_le (N.mem.mp hb).1 (Nat.pow_le_pow_right (by decide) N.n60)
  sub := fun pre b post e p hp => by
    have hb : b ∈ leftsF n ts := by rw [e]; simp
    obtain ⟨h1, h2, h3⟩ := N.step hb hp
    refine ⟨h1, ?_⟩
    have ha : (leftsF n ts).Pairwise (· < ·) := srt_strict (lefsU_nodup N.asc N.lt n)
    rw [e] at h2 ha
    rcases List.mem_append.mp h2 with z | z
    · exact z
    · rcases List.mem_cons.mp z with w | w
      · omega
      · have := (List.pairwise_cons.mp (List.pairwise_append.mp ha).2.1).1 _ w
        omega
/-! ### plays -/
theorem pcs_lt {b t p : Nat} (hp : p ∈ pcsF b) (ht : t.testBit p = true) : (pcsF (mns b t)).length < (pcsF b).length := by
  have e : pcsF (mns b t) = (pcsF b).filter fun i => !t.testBit i := by
    unfold pcsF
    rw [List.filter_filter]
    congr 1
    funext i
    rw [mns_bit]
    cases b.testBit i <;> cases t.testBit i <;> rfl
  rw [e]
  refine Nat.lt_of_le_of_ne (List.length_filter_le _ _) fun z => ?_
  have := List.length_filter_eq_length_iff.mp z p hp
  rw [ht] at this
  cases this
theorem flat_congr {α β : Type} {f g : α → List β} : ∀ {xs : List α}, (∀ x ∈ xs, f x = g x) → xs.flatMap f = xs.flatMap g
  | [], _ => rfl
  | x :: xs, h => by
    rw [List.flatMap_cons, List.flatMap_cons, h x List.mem_cons_self, flat_congr fun y hy => h y (List.mem_cons_of_mem _ hy)]
theorem plays_fuel {n : Nat} {ts : List Pq} (N : Net n ts) : ∀ (f g b : Nat), b ∈ leftsF n ts → (pcsF b).length < f → (pcsF b).length < g → plays (topsF n ts) f b = plays (topsF n ts) g b
  | 0, _, _, _, h, _ => by omega
  | _ + 1, 0, _, _, _, h => by omega
  | f + 1, g + 1, b, hb, h1, h2 => by
    unfold plays
    by_cases e : b = 0
    · rw [if_pos e, if_pos e]
    · rw [if_neg e, if_neg e]
      refine flat_congr fun p hp => ?_
      obtain ⟨q1, q2, q3⟩ := N.step hb hp
      have := pcs_lt hp ((N.top q1 p).mpr (.refl p))
      rw [plays_fuel N f g _ q2 (by omega) (by omega)]
end G
-- M9
/-! M9: every net has its plays. -/
namespace G
theorem Net.pcs60 {n : Nat} {ts : List Pq} (N : Net n ts) {b : Nat} (hb : b ∈ leftsF n ts) : (pcsF b).length ≤ n := by
  have h60 := N.n60
  rw [pcs_range (by omega) (N.mem.mp hb).1]
  have := List.length_filter_le (fun p => b.testBit p) (List.range n)
  rw [List.length_range] at this
  exact this
theorem Net.whole {n : Nat} {ts : List Pq} (N : Net n ts) : 2 ^ n - 1 ∈ leftsF n ts := by
  refine N.mem.mpr ⟨?_, fun p hp _ => ?_⟩
  · have := Nat.two_pow_pos n
    omega
  · have := N.prs p hp
    rw [Nat.testBit_two_pow_sub_one]
    exact decide_eq_true (by omega)
theorem plays_zero (tops : List Nat) (f : Nat) : plays tops f 0 = [[]] := by
  cases f with
  | zero => rfl
  | succ f =>
    unfold plays
    rw [if_pos rfl]
theorem Net.unf {n : Nat} {ts : List Pq} (N : Net n ts) {b : Nat} (hb : b ∈ leftsF n ts) (h0 : b ≠ 0) : playsF n ts b = (pcsF b).flatMap (begF n ts b) := by
  have h60 := N.n60
  unfold playsF
  rw [show (64 : Nat) = 63 + 1 from rfl]
  unfold plays
  rw [if_neg h0]
  refine flat_congr fun p hp => ?_
  obtain ⟨q1, q2, q3⟩ := N.step hb hp
  have h1 := N.pcs60 q2
  unfold begF playsF
  rw [plays_fuel N 63 64 _ q2 (by omega) (by omega)]
theorem lookup_some {m : List Pq} {k v : Nat} (h : m.lookup k = some v) : ∃ x ∈ m, x.1 = k := by
  induction m with
  | nil => cases h
  | cons x m ih =>
    rw [List.lookup_cons] at h
    by_cases e : k = x.1
    · exact ⟨x, List.mem_cons_self, e.symm⟩
    · rw [show (k == x.1) = false by simpa using e] at h
      obtain ⟨y, hy, ey⟩ := ih h
      exact ⟨y, List.mem_cons_of_mem _ hy, ey⟩
theorem cnt_lookup {n : Nat} {ts : List Pq} (N : Net n ts) : ∀ (post pre : List Nat) (m : List Pq), leftsF n ts = pre ++ post → m.map (·.1) = pre → (∀ b ∈ pre, m.lookup b = some (playsF n ts b).length) → ∀ b ∈ leftsF n ts, (post.foldl (cntStep (topsF n ts)) m).lookup b = some (playsF n ts b).length
  | [], pre, m, e, _, h => fun b hb => h b (by rw [e, List.append_nil] at hb; exact hb)
  | c :: post, pre, m, e, hk, h => by
    have hc : c ∈ leftsF n ts := by rw [e]; simp
    have hasc := N.clo.asc
    rw [e] at hasc
    have hnot : c ∉ pre := fun z => by
      have := (List.pairwise_append.mp hasc).2.2 c z c List.mem_cons_self
      omega
    rw [List.foldl_cons]
    refine cnt_lookup N post (pre ++ [c]) _ (by rw [e]; simp) (by unfold cntStep; rw [List.map_append, hk]; rfl) fun b hb => ?_
    have hval : cntV (topsF n ts) m c = (playsF n ts c).length := by
      unfold cntV
      by_cases h0 : c = 0
      · subst h0
        rw [if_neg (by omega)]
        unfold playsF
        rw [plays_zero]
        rfl
      · rw [if_pos (by omega), N.unf hc h0]
        unfold begF
        rw [begs_len]
        congr 1
        refine List.map_congr_left fun p hp => ?_
        rw [h _ (N.clo.sub pre c post e p hp).2]
        rfl
    unfold cntStep
    rw [List.lookup_append]
    rcases List.mem_append.mp hb with z | z
    · rw [h b z]
      rfl
    · have e2 := List.mem_singleton.mp z
      subst e2
      have e3 : m.lookup b = none := by
        cases q : m.lookup b with
        | none => rfl
        | some v =>
          obtain ⟨x, hx, ex⟩ := lookup_some q
          exact (hnot (by rw [← hk, ← ex]; exact List.mem_map_of_mem hx)).elim
      rw [e3, hval]
      simp
theorem Net.play {n : Nat} {ts : List Pq} (N : Net n ts) : PlayOk n ts where
  full := N.whole
  zero := by
    unfold playsF
    exact plays_zero _ _
  step := fun b hb h0 => N.unf hb h0
  sub := fun b hb p hp => N.step hb hp
  cnt := fun b hb => by
    unfold cntF
    exact cnt_lookup N (leftsF n ts) [] [] rfl rfl (fun _ h => by cases h) b hb
end G
-- M10
/-! M10: where a trip stands among the whole plays. -/
namespace G
def endB (n : Nat) (ts : List Pr) : Nat → List Nat → Nat
  | b, [] => b
  | b, p :: ps => endB n ts (mns b ((topsF n ts).getD p 0)) ps
theorem filt_take : ∀ {xs : List Nat} {i p : Nat}, xs.Pairwise (· < ·) → xs[i]? = some p → xs.filter (fun k => decide (k < p)) = xs.take i
  | [], _, _, _, h => by simp at h
  | x :: xs, 0, p, hs, h => by
    have e : x = p := by simpa using h
    subst e
    rw [List.take_zero]
    refine List.filter_eq_nil_iff.mpr fun k hk => ?_
    rcases List.mem_cons.mp hk with z | z
    · rw [z]; simp
    · have := (List.pairwise_cons.mp hs).1 k z
      simp
      omega
  | x :: xs, i + 1, p, hs, h => by
    obtain ⟨h1, h2⟩ := List.pairwise_cons.mp hs
    have hp : xs[i]? = some p := by simpa using h
    have := h1 p (List.mem_of_getElem? hp)
    rw [List.filter_cons, if_pos (by simpa using this), filt_take h2 hp, List.take_succ_cons]
theorem trip_at {n : Nat} {ts : List Pr} (N : Net n ts) : ∀ (ps : List Nat) (b : Nat), b ∈ leftsF n ts → TripOk n ts b ps → endB n ts b ps = 0 → (playsF n ts b)[numF n ts b ps]? = some ps
  | [], b, hb, _, he => by
    have he : b = 0 := he
    subst he
    unfold playsF
    rw [plays_zero]
    rfl
  | p :: ps, b, hb, ht, he => by
    obtain ⟨hp, ht2⟩ := ht
    obtain ⟨q1, q2, q3⟩ := N.step hb hp
    have ih := trip_at N ps _ q2 ht2 he
    obtain ⟨i, hi⟩ := List.mem_iff_getElem?.mp hp
    have hb0 : b ≠ 0 := by omega
    have hl := (List.getElem?_eq_some_iff.mp ih).1
    rw [N.unf hb hb0]
    have e := flat_get (g := begF n ts b) (xs := pcsF b) (i := i) (l := numF n ts (mns b ((topsF n ts).getD p 0)) ps) (p := p) hi (by unfold begF; rw [List.length_map]; exact hl)
    have e2 : numF n ts b (p :: ps) = numF n ts (mns b ((topsF n ts).getD p 0)) ps + (((pcsF b).take i).flatMap (begF n ts b)).length := by
      show (((pcsF b).filter fun k => decide (k < p)).map fun k => (playsF n ts (mns b ((topsF n ts).getD k 0))).length).sum + _ = _
      rw [filt_take (pcs_strict b) hi]
      unfold begF
      rw [begs_len]
      omega
    rw [e2, e]
    unfold begF
    rw [List.getElem?_map, ih]
    rfl
/-- a whole play is a trip to the end -/
theorem play_trip {n : Nat} {ts : List Pr} (N : Net n ts) : ∀ (ps : List Nat) (b : Nat), b ∈ leftsF n ts → ps ∈ playsF n ts b → TripOk n ts b ps ∧ endB n ts b ps = 0
  | ps, b, hb, hm => by
    by_cases h0 : b = 0
    · subst h0
      unfold playsF at hm
      rw [plays_zero] at hm
      have := List.mem_singleton.mp hm
      subst this
      exact ⟨trivial, rfl⟩
    · rw [N.unf hb h0] at hm
      obtain ⟨p, hp, hm2⟩ := List.mem_flatMap.mp hm
      unfold begF at hm2
      obtain ⟨r, hr, e⟩ := List.mem_map.mp hm2
      subst e
      obtain ⟨q1, q2, q3⟩ := N.step hb hp
      obtain ⟨h1, h2⟩ := play_trip N r _ q2 hr
      exact ⟨⟨hp, h1⟩, h2⟩
termination_by ps => ps.length
theorem TripOk.lt {n : Nat} {ts : List Pr} (N : Net n ts) : ∀ (ps : List Nat) (b : Nat), b ∈ leftsF n ts → TripOk n ts b ps → ps.length ≤ (pcsF b).length ∧ ∀ x ∈ ps, x < n
  | [], b, hb, _ => ⟨Nat.zero_le _, fun _ h => by cases h⟩
  | p :: ps, b, hb, ht => by
    obtain ⟨hp, ht2⟩ := ht
    obtain ⟨q1, q2, q3⟩ := N.step hb hp
    obtain ⟨h1, h2⟩ := TripOk.lt N ps _ q2 ht2
    have := pcs_lt hp ((N.top q1 p).mpr (.refl p))
    refine ⟨by rw [List.length_cons]; omega, fun x hx => ?_⟩
    rcases List.mem_cons.mp hx with z | z
    · rw [z]; exact q1
    · exact h2 x z
end G
-- M11
/-! M11: what is gone; trips are fresh; what stays behind. -/
namespace G
theorem gone_fold {x : Nat} : ∀ {ts : List Pr} {ks : List Nat}, Asc1 ts → (∀ p ∈ ts, p.1 < p.2) → (x ∈ ts.foldl goneStep ks ↔ ∃ a ∈ ks, Path ts a x)
  | [], ks, _, _ => by
    constructor
    · exact fun h => ⟨x, h, .refl x⟩
    · rintro ⟨a, ha, h⟩
      cases h with
      | refl => exact ha
      | step hm _ => cases hm
  | p :: r, ks, hs, hp => by
    obtain ⟨h1, h2⟩ := List.pairwise_cons.mp hs
    have hp2 : ∀ q ∈ r, q.1 < q.2 := fun q hq => hp q (List.mem_cons_of_mem _ hq)
    rw [List.foldl_cons, gone_fold h2 hp2]
    constructor
    · rintro ⟨a, ha, h⟩
      have h' : Path (p :: r) a x := h.mono fun z hz => List.mem_cons_of_mem _ hz
      unfold goneStep at ha
      split at ha
      · rename_i hm
        rcases mem_ins.mp ha with z | z
        · exact ⟨a, z, h'⟩
        · subst z
          exact ⟨p.1, hm, .step (c := p.2) List.mem_cons_self h'⟩
      · exact ⟨a, ha, h'⟩
    · rintro ⟨a, ha, h⟩
      have keep : ∀ z, z ∈ ks → z ∈ goneStep ks p := fun z hz => by
        unfold goneStep
        split
        · exact mem_ins.mpr (.inl hz)
        · exact hz
      rcases Nat.lt_trichotomy p.1 a with z | z | z
      · exact ⟨a, keep a ha, h.up hp z⟩
      · cases h with
        | refl => exact ⟨_, keep _ ha, .refl _⟩
        | step hm hq =>
          have := hp _ hm
          have hq2 := hq.up hp (by rw [z]; exact this)
          rcases List.mem_cons.mp hm with w | w
          · refine ⟨p.2, ?_, by rw [← w] ; exact hq2⟩
            unfold goneStep
            rw [if_pos (by rw [z]; exact ha)]
            exact mem_ins.mpr (.inr rfl)
          · exact ⟨a, keep a ha, .step w hq2⟩
      · cases h with
        | refl => exact ⟨_, keep _ ha, .refl _⟩
        | step hm hq =>
          rcases List.mem_cons.mp hm with w | w
          · have := congrArg Prod.fst w
            have this : a = p.1 := this
            omega
          · have := h1 _ w
            have this : p.1 ≤ a := this
            omega
theorem mem_gone {n : Nat} {ts : List Pr} (N : Net n ts) {ps : List Nat} {x : Nat} : x ∈ goneF ts ps ↔ ∃ a ∈ ps, Path ts a x := by
  unfold goneF
  rw [gone_fold N.asc.asc1 N.lt]
  constructor
  · rintro ⟨a, ha, h⟩
    rcases mem_updK.mp ha with z | z
    · cases z
    · exact ⟨a, z, h⟩
  · rintro ⟨a, ha, h⟩
    exact ⟨a, mem_updK.mpr (.inr ha), h⟩
theorem end_bit {n : Nat} {ts : List Pr} (N : Net n ts) {x : Nat} : ∀ (ps : List Nat) (b : Nat), b ∈ leftsF n ts → TripOk n ts b ps → ((endB n ts b ps).testBit x = true ↔ b.testBit x = true ∧ ¬ ∃ a ∈ ps, Path ts a x)
  | [], b, _, _ => by
    show b.testBit x = true ↔ _
    simp
  | p :: ps, b, hb, ht => by
    obtain ⟨hp, ht2⟩ := ht
    obtain ⟨q1, q2, q3⟩ := N.step hb hp
    show (endB n ts (mns b ((topsF n ts).getD p 0)) ps).testBit x = true ↔ _
    rw [end_bit N ps _ q2 ht2, mns_bit, Bool.and_eq_true]
    have e : (!((topsF n ts).getD p 0).testBit x) = true ↔ ¬ Path ts p x := by
      rw [← N.top q1 x]
      cases ((topsF n ts).getD p 0).testBit x <;> simp
    rw [e]
    constructor
    · rintro ⟨⟨h1, h2⟩, h3⟩
      refine ⟨h1, ?_⟩
      rintro ⟨a, ha, h⟩
      rcases List.mem_cons.mp ha with z | z
      · exact h2 (by rw [← z]; exact h)
      · exact h3 ⟨a, z, h⟩
    · rintro ⟨h1, h2⟩
      exact ⟨⟨h1, fun z => h2 ⟨p, List.mem_cons_self, z⟩⟩, fun ⟨a, ha, h⟩ => h2 ⟨a, List.mem_cons_of_mem _ ha, h⟩⟩
theorem trip_take {n : Nat} {ts : List Pr} (N : Net n ts) : ∀ (ps : List Nat) (b i x : Nat), b ∈ leftsF n ts → TripOk n ts b ps → ps[i]? = some x → TripOk n ts b (ps.take i) ∧ x ∈ pcsF (endB n ts b (ps.take i))
  | [], _, _, _, _, _, h => by simp at h
  | p :: ps, b, 0, x, hb, ht, h => by
    have e : p = x := by simpa using h
    subst e
    exact ⟨trivial, ht.1⟩
  | p :: ps, b, i + 1, x, hb, ht, h => by
    obtain ⟨hp, ht2⟩ := ht
    obtain ⟨q1, q2, q3⟩ := N.step hb hp
    obtain ⟨h1, h2⟩ := trip_take N ps _ i x q2 ht2 (by simpa using h)
    rw [List.take_succ_cons]
    exact ⟨⟨hp, h1⟩, h2⟩
theorem trip_fresh {n : Nat} {ts : List Pr} (N : Net n ts) {ps : List Nat} {b : Nat} (hb : b ∈ leftsF n ts) (ht : TripOk n ts b ps) : FreshP ts ps := fun i x h z => by
  obtain ⟨h1, h2⟩ := trip_take N ps b i x hb ht h
  have h3 := ((end_bit N (x := x) _ b hb h1).mp (mem_pcs.mp h2).2).2
  exact h3 ((mem_gone N).mp z)
theorem beh_end {n : Nat} {ts : List Pr} (N : Net n ts) {ps : List Nat} (ht : TripOk n ts (2 ^ n - 1) ps) : behF n ts ps = pcsF (endB n ts (2 ^ n - 1) ps) := by
  refine strict_uniq ((range_strict n).filter _) (pcs_strict _) fun x => ?_
  have e := end_bit N (x := x) ps _ N.whole ht
  have h60 := N.n60
  unfold behF
  rw [List.mem_filter, mem_pcs, e, List.mem_range, Nat.testBit_two_pow_sub_one, ← mem_gone N]
  constructor
  · rintro ⟨h1, h2⟩
    exact ⟨by omega, decide_eq_true h1, by simpa using h2⟩
  · rintro ⟨_, h1, h2⟩
    exact ⟨of_decide_eq_true h1, by simpa using h2⟩
theorem beh_whole {n : Nat} {ts : List Pr} (N : Net n ts) {ps : List Nat} (ht : TripOk n ts (2 ^ n - 1) ps) (he : endB n ts (2 ^ n - 1) ps = 0) : behF n ts ps = [] := by
  rw [beh_end N ht, he]
  rfl
/-- a trip cut short leaves pieces -/
theorem beh_cut {n : Nat} {ts : List Pr} (N : Net n ts) {ps : List Nat} {i x : Nat} (ht : TripOk n ts (2 ^ n - 1) ps) (h : ps[i]? = some x) : TripOk n ts (2 ^ n - 1) (ps.take i) ∧ behF n ts (ps.take i) ≠ [] := by
  obtain ⟨h1, h2⟩ := trip_take N ps _ i x N.whole ht h
  refine ⟨h1, fun z => ?_⟩
  rw [beh_end N h1] at z
  rw [z] at h2
  cases h2
end G
-- M12
/-! M12: the ties of a normal net are its own. -/
namespace G
/-- none of them follows from others -/
def Irr (ts : List Pq) : Prop := ∀ p ∈ ts, ∀ c, (p.1, c) ∈ ts → c ≠ p.2 → ¬ Path ts c p.2
theorem mem_dirF {m a x : Nat} : ∀ (ps : List Pq) (f : List (List Nat)), f.length = m → (∀ p ∈ ps, p.1 < m) → (x ∈ row (ps.foldl dirStep f) a ↔ x ∈ row f a ∨ (a, x) ∈ ps)
  | [], f, _, _ => by simp
  | p :: ps, f, hf, h => by
    rw [List.foldl_cons, mem_dirF ps (dirStep f p) (by unfold dirStep; rw [List.length_set]; exact hf) (fun q hq => h q (List.mem_cons_of_mem _ hq))]
    have hp := h p List.mem_cons_self
    unfold dirStep
    rw [row_set, List.mem_cons]
    obtain ⟨p1, p2⟩ := p
    have hp : p1 < m := hp
    by_cases e : p1 = a
    · rw [if_pos ⟨e, by show p1 < f.length; omega⟩, mem_ins]
      subst e
      constructor
      · rintro ((z | z) | z)
        · exact .inl z
        · exact .inr (.inl (by rw [z]))
        · exact .inr (.inr z)
      · rintro (z | z | z)
        · exact .inl (.inl z)
        · exact .inl (.inr (Prod.mk.inj z).2)
        · exact .inr z
    · rw [if_neg (fun z => e z.1)]
      constructor
      · rintro (z | z)
        · exact .inl z
        · exact .inr (.inr z)
      · rintro (z | z | z)
        · exact .inl z
        · exact (e (Prod.mk.inj z).1.symm).elim
        · exact .inr z
theorem mem_directs {m a x : Nat} {ps : List Pq} (h : ∀ p ∈ ps, p.1 < p.2 ∧ p.2 < m) : x ∈ row (directs m ps) a ↔ (a, x) ∈ ps := by
  unfold directs
  rw [row_map rfl, mem_srt]
  unfold dirK
  rw [mem_dirF (m := m) ps _ (List.length_replicate ..) (fun p hp => by have := h p hp; omega), row_rep]
  simp
theorem directs_len (m : Nat) (ps : List Pq) : (directs m ps).length = m := by
  unfold directs
  rw [List.length_map, dirK_len]
theorem mem_upsIn {m j x : Nat} : ∀ (hs : List Nat) (f : List (List Nat)), f.length = m → j < m → (∀ h ∈ hs, h ≠ j) → (x ∈ row (hs.foldl (upsIn j) f) j ↔ x ∈ row f j ∨ ∃ h ∈ hs, x ∈ row f h) ∧ (∀ a, a ≠ j → row (hs.foldl (upsIn j) f) a = row f a) ∧ (hs.foldl (upsIn j) f).length = m
  | [], f, hf, _, _ => ⟨by simp, fun _ _ => rfl, hf⟩
  | h :: hs, f, hf, hj, hne => by
    rw [List.foldl_cons]
    obtain ⟨i1, i2, i3⟩ := mem_upsIn (m := m) (j := j) (x := x) hs (upsIn j f h) (by unfold upsIn; rw [List.length_set]; exact hf) hj (fun y hy => hne y (List.mem_cons_of_mem _ hy))
    have r1 : row (upsIn j f h) j = updK (row f j) (row f h) := by
      unfold upsIn
      rw [row_set, if_pos ⟨rfl, by omega⟩]
    have r2 : ∀ a, a ≠ j → row (upsIn j f h) a = row f a := fun a ha => by
      unfold upsIn
      rw [row_set, if_neg (fun z => ha z.1.symm)]
    refine ⟨?_, fun a ha => by rw [i2 a ha, r2 a ha], i3⟩
    rw [i1, r1, mem_updK]
    constructor
    · rintro ((z | z) | ⟨y, hy, z⟩)
      · exact .inl z
      · exact .inr ⟨h, List.mem_cons_self, z⟩
      · rw [r2 y (hne y (List.mem_cons_of_mem _ hy))] at z
        exact .inr ⟨y, List.mem_cons_of_mem _ hy, z⟩
    · rintro (z | ⟨y, hy, z⟩)
      · exact .inl (.inl z)
      · rcases List.mem_cons.mp hy with e | e
        · subst e
          exact .inl (.inr z)
        · refine .inr ⟨y, e, ?_⟩
          rw [r2 y (hne y hy)]
          exact z
theorem path_first {ts : List Pq} {a x : Nat} : Path ts a x ↔ x = a ∨ ∃ h, (a, h) ∈ ts ∧ Path ts h x := by
  constructor
  · intro h
    cases h with
    | refl => exact .inl rfl
    | step hm hq => exact .inr ⟨_, hm, hq⟩
  · rintro (e | ⟨h, hm, hq⟩)
    · subst e
      exact .refl _
    · exact .step hm hq
theorem mem_upsF {m : Nat} {dirs : List (List Nat)} {ps : List Pq} (hl : dirs.length = m) (hp : ∀ p ∈ ps, p.1 < p.2 ∧ p.2 < m) (hd : ∀ a x, x ∈ row dirs a ↔ (a, x) ∈ ps) : ∀ a, a < m → ∀ x, (x ∈ row (upsF dirs) a ↔ Path ps a x) := by
  have key : ∀ (j : Nat) (f : List (List Nat)), j ≤ m → f.length = m → (∀ a, j ≤ a → a < m → ∀ x, (x ∈ row f a ↔ Path ps a x)) → (∀ a, a < j → row f a = []) → ∀ a, a < m → ∀ x, (x ∈ row ((List.range j).reverse.foldl (upsStep dirs) f) a ↔ Path ps a x) := by
    intro j
    induction j with
    | zero =>
      intro f _ _ h1 _ a ha x
      exact h1 a (Nat.zero_le _) ha x
    | succ j ih =>
      intro f hj hf h1 h2 a ha x
      rw [List.range_succ, List.reverse_append]
      show x ∈ row ((List.range j).reverse.foldl (upsStep dirs) (upsStep dirs f j)) a ↔ _
      have hne : ∀ h ∈ row dirs j, h ≠ j := fun h hh => by
        have := hp _ ((hd j h).mp hh)
        have : j < h := this.1
        omega
      have r0 : row (f.set j (ins (row f j) j)) j = [j] := by
        rw [row_set, if_pos ⟨rfl, by omega⟩, h2 j (Nat.lt_succ_self j)]
        rfl
      have r1 : ∀ a, a ≠ j → row (f.set j (ins (row f j) j)) a = row f a := fun a ha => by
        rw [row_set, if_neg (fun z => ha z.1.symm)]
      have L := fun x => mem_upsIn (m := m) (j := j) (x := x) (row dirs j) (f.set j (ins (row f j) j)) (by rw [List.length_set]; exact hf) (by omega) hne
      refine ih (upsStep dirs f j) (by omega) (L x).2.2 (fun a haj ham x => ?_) (fun a haj => ?_) a ha x
      · by_cases e : a = j
        · subst e
          refine (L x).1.trans ?_
          rw [r0, path_first, List.mem_singleton]
          constructor
          · rintro (z | ⟨h, hh, z⟩)
            · exact .inl z
            · have hh2 := (hd a h).mp hh
              have hb := hp _ hh2
              have hb1 : a < h := hb.1
              have hb2 : h < m := hb.2
              rw [r1 h (by omega)] at z
              exact .inr ⟨h, hh2, (h1 h (by omega) hb2 x).mp z⟩
          · rintro (z | ⟨h, hh, z⟩)
            · exact .inl z
            · have hb := hp _ hh
              have hb1 : a < h := hb.1
              have hb2 : h < m := hb.2
              refine .inr ⟨h, (hd a h).mpr hh, ?_⟩
              rw [r1 h (by omega)]
              exact (h1 h (by omega) hb2 x).mpr z
        · have e2 : row (upsStep dirs f j) a = row f a := by
            rw [← r1 a e]
            exact (L x).2.1 a e
          rw [e2]
          exact h1 a (by omega) ham x
      · have e : a ≠ j := by omega
        have e2 : row (upsStep dirs f j) a = row f a := by
          rw [← r1 a e]
          exact (L x).2.1 a e
        rw [e2]
        exact h2 a (by omega)
  intro a ha x
  unfold upsF
  rw [hl]
  exact key m _ (Nat.le_refl m) (List.length_replicate ..) (fun a h1 h2 => by omega) (fun a _ => row_rep m a) a ha x
theorem fol_true {m : Nat} {ps : List Pq} (hp : ∀ p ∈ ps, p.1 < p.2 ∧ p.2 < m) {low high : Nat} : folB (directs m ps) (upsF (directs m ps)) low high = true ↔ ∃ near, (low, near) ∈ ps ∧ near ≠ high ∧ Path ps near high := by
  unfold folB
  rw [List.any_eq_true]
  have U := mem_upsF (directs_len m ps) hp (fun a x => mem_directs hp)
  constructor
  · rintro ⟨near, h1, h2⟩
    rw [List.mem_filter, mem_directs hp] at h1
    have hb : near < m := (hp _ h1.1).2
    exact ⟨near, h1.1, by simpa using h1.2, (U near hb high).mp (of_decide_eq_true h2)⟩
  · rintro ⟨near, h1, h2, h3⟩
    have hb : near < m := (hp _ h1).2
    refine ⟨near, ?_, decide_eq_true ((U near hb high).mpr h3)⟩
    rw [List.mem_filter, mem_directs hp]
    exact ⟨h1, by simpa using h2⟩
theorem irr_fol {m : Nat} {ps : List Pq} (hp : ∀ p ∈ ps, p.1 < p.2 ∧ p.2 < m) (hi : Irr ps) {t : Pq} (ht : t ∈ ps) : folB (directs m ps) (upsF (directs m ps)) t.1 t.2 = false := by
  cases e : folB (directs m ps) (upsF (directs m ps)) t.1 t.2 with
  | false => rfl
  | true =>
    obtain ⟨near, h1, h2, h3⟩ := (fol_true hp).mp e
    exact (hi t ht near h1 h2 h3).elim
theorem mem_tiesBy {m : Nat} {ps : List Pq} (hp : ∀ p ∈ ps, p.1 < p.2 ∧ p.2 < m) (hi : Irr ps) {t : Pq} : t ∈ tiesBy (directs m ps) ↔ t ∈ ps := by
  unfold tiesBy
  rw [ties_fold_mem]
  constructor
  · rintro (h | ⟨z, hz, h1, h2, h3⟩)
    · cases h
    · obtain ⟨z1, z2⟩ := mem_zip hz
      rw [z2, mem_directs hp, ← h1] at h2
      exact h2
  · intro h
    have hb := hp _ h
    have hr : t.2 ∈ row (directs m ps) t.1 := (mem_directs hp).mpr h
    have hl : t.1 < (directs m ps).length := by rw [directs_len]; omega
    refine .inr ⟨(row (directs m ps) t.1, t.1), ?_, rfl, hr, irr_fol hp hi h⟩
    rw [List.mem_iff_getElem?]
    refine ⟨t.1, ?_⟩
    rw [List.getElem?_zipIdx, row_get hl]
    simp
theorem ties_asc {dirs ups : List (List Nat)} : ∀ (f : List (List Nat)) (o : Nat) (acc : List Pq), (∀ r ∈ f, r.Pairwise (· < ·)) → AscS acc → (∀ t ∈ acc, t.1 < o) → AscS ((f.zipIdx o).foldl (tiesStep dirs ups) acc)
  | [], o, acc, _, h, _ => h
  | a :: f, o, acc, hf, h, ho => by
    rw [List.zipIdx_cons, List.foldl_cons]
    have ha := hf a List.mem_cons_self
    refine ties_asc f (o + 1) _ (fun r hr => hf r (List.mem_cons_of_mem _ hr)) ?_ ?_
    · unfold tiesStep
      unfold AscS
      rw [List.pairwise_append]
      refine ⟨h, ?_, fun x hx y hy => ?_⟩
      · rw [List.pairwise_map]
        exact (ha.sublist (List.filter_sublist ..)).imp fun z => .inr ⟨rfl, z⟩
      · obtain ⟨q, hq, e⟩ := List.mem_map.mp hy
        subst e
        exact .inl (ho x hx)
    · intro t ht
      unfold tiesStep at ht
      rcases List.mem_append.mp ht with z | z
      · have := ho t z
        omega
      · obtain ⟨q, hq, e⟩ := List.mem_map.mp z
        subst e
        exact Nat.lt_succ_self o
theorem tiesBy_asc {m : Nat} {ps : List Pq} (hp : ∀ p ∈ ps, p.1 < p.2 ∧ p.2 < m) : AscS (tiesBy (directs m ps)) := by
  unfold tiesBy
  refine ties_asc _ 0 [] (fun r hr => ?_) .nil (fun _ h => by cases h)
  unfold directs at hr
  obtain ⟨q, hq, e⟩ := List.mem_map.mp hr
  subst e
  obtain ⟨i, hi⟩ := List.mem_iff_getElem?.mp hq
  have e2 : q = row (dirK m ps) i := by
    unfold row
    rw [hi]
    rfl
  rw [e2]
  exact srt_strict ((dirK_ok hp).2 i).1
theorem uniq_of {α : Type} {r : α → α → Prop} (as : ∀ a b, r a b → r b a → False) : ∀ {l m : List α}, l.Pairwise r → m.Pairwise r → (∀ x, x ∈ l ↔ x ∈ m) → l = m
  | [], [], _, _, _ => rfl
  | [], b :: m, _, _, h => by
    have := (h b).mpr List.mem_cons_self
    cases this
  | a :: l, [], _, _, h => by
    have := (h a).mp List.mem_cons_self
    cases this
  | a :: l, b :: m, h1, h2, h => by
    obtain ⟨p1, p2⟩ := List.pairwise_cons.mp h1
    obtain ⟨q1, q2⟩ := List.pairwise_cons.mp h2
    have e : a = b := by
      rcases List.mem_cons.mp ((h a).mp List.mem_cons_self) with z | z
      · exact z
      · rcases List.mem_cons.mp ((h b).mpr List.mem_cons_self) with y | y
        · exact y.symm
        · exact (as a b (p1 b y) (q1 a z)).elim
    subst e
    have t : l = m := uniq_of as p2 q2 fun x => by
      constructor
      · intro z
        rcases List.mem_cons.mp ((h x).mp (List.mem_cons_of_mem _ z)) with y | y
        · subst y
          exact (as x x (p1 x z) (p1 x z)).elim
        · exact y
      · intro z
        rcases List.mem_cons.mp ((h x).mpr (List.mem_cons_of_mem _ z)) with y | y
        · subst y
          exact (as x x (q1 x z) (q1 x z)).elim
        · exact y
    rw [t]
def lexP (p q : Pq) : Prop := p.1 < q.1 ∨ (p.1 = q.1 ∧ p.2 < q.2)
theorem lexP_as (p q : Pq) (h : lexP p q) (h2 : lexP q p) : False := by
  unfold lexP at h h2
  omega
/-! ### names and back -/
def unR (r : List Nat) (i : Nat) : Nat := r.getD i 0
theorem un_idx {r : List Nat} {a : Nat} (h : a ∈ r) : unR r (r.idxOf a) = a := by
  unfold unR
  rw [List.getD, idx_get h]
  rfl
theorem un_relab {ps : List Pq} {p : Pq} (h : p ∈ ps) : unlab (rowOf ps) (relab (rowOf ps) p) = p := by
  obtain ⟨h1, h2⟩ := mem_row h
  show (unR _ _, unR _ _) = p
  rw [show (relab (rowOf ps) p).1 = (rowOf ps).idxOf p.1 from rfl, show (relab (rowOf ps) p).2 = (rowOf ps).idxOf p.2 from rfl, un_idx h1, un_idx h2]
theorem path_un {ps : List Pq} {x y : Nat} (h : Path (ps.map (relab (rowOf ps))) x y) : Path ps (unR (rowOf ps) x) (unR (rowOf ps) y) := by
  induction h with
  | refl a => exact .refl _
  | step hm _ ih =>
    obtain ⟨p, hp, e⟩ := List.mem_map.mp hm
    have e2 := un_relab hp
    rw [e] at e2
    refine .step (c := unR (rowOf ps) _) ?_ ih
    have e3 : (unR (rowOf ps) _, unR (rowOf ps) _) = p := e2
    rw [e3]
    exact hp
theorem irr_relab {ps : List Pq} (hi : Irr ps) : Irr (ps.map (relab (rowOf ps))) := by
  intro q hq c hc hne hpth
  obtain ⟨p, hp, rfl⟩ := List.mem_map.mp hq
  obtain ⟨p', hp', e⟩ := List.mem_map.mp hc
  obtain ⟨a1, a2⟩ := mem_row hp
  obtain ⟨b1, b2⟩ := mem_row hp'
  have e1 : (rowOf ps).idxOf p'.1 = (rowOf ps).idxOf p.1 := (Prod.mk.inj e).1
  have e2 : (rowOf ps).idxOf p'.2 = c := (Prod.mk.inj e).2
  have e3 : p'.1 = p.1 := by rw [← un_idx b1, e1, un_idx a1]
  have hpt := path_un hpth
  rw [← e2, un_idx b2, show (relab (rowOf ps) p).2 = (rowOf ps).idxOf p.2 from rfl, un_idx a2] at hpt
  refine hi p hp p'.2 ?_ (fun z => hne ?_) hpt
  · rw [← e3]
    exact hp'
  · rw [← e2, z]
    rfl
theorem ties_own {m : Nat} {ps : List Pq} (hp : ∀ p ∈ ps, p.1 < p.2 ∧ p.2 < m) (ha : AscS ps) (hi : Irr ps) : tiesOf ps = ps := by
  have hr := relab_ok hp
  have hs := rowOf_strict (ps := ps) (m := m) fun p h => by have := hp p h; omega
  have hi2 := irr_relab hi
  have hm := fun t => mem_tiesBy hr hi2 (t := t)
  have as := tiesBy_asc hr
  unfold tiesOf
  refine uniq_of (r := lexP) lexP_as ?_ ha fun t => ?_
  · rw [List.pairwise_map]
    refine List.Pairwise.imp_of_mem (fun {x y} hx hy h => ?_) as
    obtain ⟨p, hpp, rfl⟩ := List.mem_map.mp ((hm x).mp hx)
    obtain ⟨q, hqq, rfl⟩ := List.mem_map.mp ((hm y).mp hy)
    rw [un_relab hpp, un_relab hqq]
    obtain ⟨a1, a2⟩ := mem_row hpp
    obtain ⟨b1, b2⟩ := mem_row hqq
    rcases h with h | ⟨h1, h2⟩
    · exact .inl (strict_get hs (idx_get a1) (idx_get b1) h)
    · refine .inr ⟨?_, strict_get hs (idx_get a2) (idx_get b2) h2⟩
      have h1 : (rowOf ps).idxOf p.1 = (rowOf ps).idxOf q.1 := h1
      rw [← un_idx a1, h1, un_idx b1]
  · rw [List.mem_map]
    constructor
    · rintro ⟨q, hq, rfl⟩
      obtain ⟨p, hpp, rfl⟩ := List.mem_map.mp ((hm q).mp hq)
      rw [un_relab hpp]
      exact hpp
    · intro h
      exact ⟨relab (rowOf ps) t, (hm _).mpr (List.mem_map.mpr ⟨t, h, rfl⟩), un_relab h⟩
theorem asc_few {m : Nat} {ps : List Pq} (hm : m ≤ 60) (hp : ∀ p ∈ ps, p.1 < p.2 ∧ p.2 < m) (ha : AscS ps) : ps.length ≤ 3600 := by
  have h : (ps.map fun p => p.1 * 60 + p.2).Pairwise (· < ·) := by
    rw [List.pairwise_map]
    refine List.Pairwise.imp_of_mem (fun {x y} hx hy h => ?_) ha
    have := hp x hx
    have := hp y hy
    omega
  have := strict_len (lo := 0) (m := 3600) h (fun x hx => by
    obtain ⟨p, hpp, rfl⟩ := List.mem_map.mp hx
    have := hp p hpp
    omega) (by omega)
  rw [List.length_map] at this
  omega
/-- a normal net -/
structure NF (n : Nat) (ts : List Pq) : Prop extends Net n ts where
  irr : Irr ts
end G
-- M13
/-! M13: _law_net makes normal nets; two beside one another. -/
namespace G
def orRow (low : Nat) (f : List Nat) (p : Pq) : List Nat := if p.1 = low then f.set low (f.getD low 0 ||| f.getD p.2 0) else f
def abvStep (ps : List Pq) (f : List Nat) (low : Nat) : List Nat := ps.foldl (orRow low) f
def abvF (n : Nat) (ps : List Pq) : List Nat := (List.range n).reverse.foldl (abvStep ps) ((List.range n).map fun p => 2 ^ p)
def ovrF (n : Nat) (A : List Nat) (low : Nat) : List Nat := ((List.range (n - (low + 1))).filter fun k => (A.getD low 0).testBit (low + 1 + k)).map fun k => low + 1 + k
def cvrB (A : List Nat) (ov : List Nat) (o : Nat) : Bool := (ov.filter fun i => !decide (i = o) && (A.getD i 0).testBit o).isEmpty
def netRow (n : Nat) (A : List Nat) (low : Nat) : List Pq := ((ovrF n A low).filter (cvrB A (ovrF n A low))).map fun o => (low, o)
def netStep (n : Nat) (A : List Nat) (ts : List Pq) (low : Nat) : List Pq := ts ++ netRow n A low
def netT (n : Nat) (ps : List Pq) : List Pq := (List.range n).foldl (netStep n (abvF n ps)) []
theorem orRow_len (low : Nat) (f : List Nat) (p : Pq) : (orRow low f p).length = f.length := by
  unfold orRow
  split
  · rw [List.length_set]
  · rfl
theorem getD_set {f : List Nat} {i j v : Nat} (h : i < f.length) : (f.set i v).getD j 0 = if i = j then v else f.getD j 0 := by
  by_cases e : i = j
  · subst e
    rw [if_pos rfl, List.getD, List.getElem?_set_self h]
    rfl
  · rw [if_neg e, List.getD, List.getElem?_set_ne e]
    rfl
theorem or_rows {m j q : Nat} : ∀ (ps : List Pq) (f : List Nat), f.length = m → j < m → (∀ p ∈ ps, p.1 < p.2) → (((ps.foldl (orRow j) f).getD j 0).testBit q = true ↔ (f.getD j 0).testBit q = true ∨ ∃ h, (j, h) ∈ ps ∧ (f.getD h 0).testBit q = true) ∧ (∀ a, a ≠ j → (ps.foldl (orRow j) f).getD a 0 = f.getD a 0) ∧ (ps.foldl (orRow j) f).length = m
  | [], f, hf, _, _ => ⟨by simp, fun _ _ => rfl, hf⟩
  | p :: ps, f, hf, hj, hlt => by
    rw [List.foldl_cons]
    obtain ⟨i1, i2, i3⟩ := or_rows (q := q) ps (orRow j f p) (by rw [orRow_len]; exact hf) hj (fun y hy => hlt y (List.mem_cons_of_mem _ hy))
    have hp := hlt p List.mem_cons_self
    have r2 : ∀ a, a ≠ j → (orRow j f p).getD a 0 = f.getD a 0 := fun a ha => by
      unfold orRow
      split
      · rw [getD_set (by omega), if_neg (fun z => ha z.symm)]
      · rfl
    refine ⟨?_, fun a ha => by rw [i2 a ha, r2 a ha], i3⟩
    rw [i1]
    have hh : ∀ h, (j, h) ∈ ps → (orRow j f p).getD h 0 = f.getD h 0 := fun h hm => r2 h (by
      have := hlt _ (List.mem_cons_of_mem _ hm)
      have : j < h := this
      omega)
    obtain ⟨p1, p2⟩ := p
    have hp : p1 < p2 := hp
    by_cases e : p1 = j
    · subst e
      have r1 : (orRow p1 f (p1, p2)).getD p1 0 = f.getD p1 0 ||| f.getD p2 0 := by
        unfold orRow
        rw [if_pos rfl, getD_set (by omega), if_pos rfl]
      rw [r1, Nat.testBit_or, Bool.or_eq_true]
      constructor
      · rintro ((z | z) | ⟨h, hm, z⟩)
        · exact .inl z
        · exact .inr ⟨p2, List.mem_cons_self, z⟩
        · rw [hh h hm] at z
          exact .inr ⟨h, List.mem_cons_of_mem _ hm, z⟩
      · rintro (z | ⟨h, hm, z⟩)
        · exact .inl (.inl z)
        · rcases List.mem_cons.mp hm with y | y
          · have y2 : h = p2 := (Prod.mk.inj y).2
            subst y2
            exact .inl (.inr z)
          · refine .inr ⟨h, y, ?_⟩
            rw [hh h y]
            exact z
    · have r1 : (orRow j f (p1, p2)) = f := by
        unfold orRow
        rw [if_neg e]
      rw [r1]
      constructor
      · rintro (z | ⟨h, hm, z⟩)
        · exact .inl z
        · exact .inr ⟨h, List.mem_cons_of_mem _ hm, z⟩
      · rintro (z | ⟨h, hm, z⟩)
        · exact .inl z
        · rcases List.mem_cons.mp hm with y | y
          · exact (e (Prod.mk.inj y).1.symm).elim
          · exact .inr ⟨h, y, z⟩
theorem abv_bit {n : Nat} {ps : List Pq} (hp : ∀ p ∈ ps, p.1 < p.2 ∧ p.2 < n) : ∀ a, a < n → ∀ q, (((abvF n ps).getD a 0).testBit q = true ↔ Path ps a q) := by
  have key : ∀ (j : Nat) (f : List Nat), j ≤ n → f.length = n → (∀ a, j ≤ a → a < n → ∀ q, ((f.getD a 0).testBit q = true ↔ Path ps a q)) → (∀ a, a < j → f.getD a 0 = 2 ^ a) → ∀ a, a < n → ∀ q, ((((List.range j).reverse.foldl (abvStep ps) f).getD a 0).testBit q = true ↔ Path ps a q) := by
    intro j
    induction j with
    | zero =>
      intro f _ _ h1 _ a ha x
      exact h1 a (Nat.zero_le _) ha x
    | succ j ih =>
      intro f hj hf h1 h2 a ha q
      rw [List.range_succ, List.reverse_append]
      show (((List.range j).reverse.foldl (abvStep ps) (abvStep ps f j)).getD a 0).testBit q = true ↔ _
      have L := fun q => or_rows (q := q) ps f hf (show j < n by omega) (fun p h => (hp p h).1)
      refine ih (abvStep ps f j) (by omega) (L q).2.2 (fun a haj ham q => ?_) (fun a haj => ?_) a ha q
      · by_cases e : a = j
        · subst e
          refine (L q).1.trans ?_
          rw [h2 a (Nat.lt_succ_self a), Nat.testBit_two_pow, path_first]
          constructor
          · rintro (z | ⟨h, hm, z⟩)
            · exact .inl (of_decide_eq_true z).symm
            · have hb := hp _ hm
              have hb1 : a < h := hb.1
              exact .inr ⟨h, hm, (h1 h (by omega) hb.2 q).mp z⟩
          · rintro (z | ⟨h, hm, z⟩)
            · exact .inl (decide_eq_true z.symm)
            · have hb := hp _ hm
              have hb1 : a < h := hb.1
              exact .inr ⟨h, hm, (h1 h (by omega) hb.2 q).mpr z⟩
        · rw [show (abvStep ps f j).getD a 0 = f.getD a 0 from (L q).2.1 a e]
          exact h1 a (by omega) ham q
      · rw [show (abvStep ps f j).getD a 0 = f.getD a 0 from (L q).2.1 a (by omega)]
        exact h2 a (by omega)
  intro a ha q
  unfold abvF
  refine key n _ (Nat.le_refl n) (by simp) (fun a h1 h2 => by omega) (fun a h => ?_) a ha q
  simp [List.getD, List.getElem?_range h]
theorem mem_ovr {n low o : Nat} {A : List Nat} : o ∈ ovrF n A low ↔ low < o ∧ o < n ∧ (A.getD low 0).testBit o = true := by
  unfold ovrF
  rw [List.mem_map]
  constructor
  · rintro ⟨k, hk, rfl⟩
    rw [List.mem_filter, List.mem_range] at hk
    exact ⟨by omega, by omega, hk.2⟩
  · rintro ⟨h1, h2, h3⟩
    refine ⟨o - (low + 1), ?_, by omega⟩
    rw [List.mem_filter, List.mem_range]
    refine ⟨by omega, ?_⟩
    rw [show low + 1 + (o - (low + 1)) = o by omega]
    exact h3
theorem ovr_asc (n : Nat) (A : List Nat) (low : Nat) : (ovrF n A low).Pairwise (· < ·) := by
  unfold ovrF
  rw [List.pairwise_map]
  exact ((range_strict _).sublist (List.filter_sublist ..)).imp fun h => by omega
theorem fold_app {α β : Type} (g : α → List β) : ∀ (xs : List α) (acc : List β), xs.foldl (fun s x => s ++ g x) acc = acc ++ xs.flatMap g
  | [], acc => by simp
  | x :: xs, acc => by rw [List.foldl_cons, fold_app g xs, List.flatMap_cons, List.append_assoc]
theorem netT_eq (n : Nat) (ps : List Pq) : netT n ps = (List.range n).flatMap (netRow n (abvF n ps)) := by
  unfold netT
  exact (fold_app _ _ _).trans (List.nil_append _)
theorem mem_net {n : Nat} {ps : List Pq} (hp : ∀ p ∈ ps, p.1 < p.2 ∧ p.2 < n) {t : Pq} : t ∈ netT n ps ↔ t.1 < t.2 ∧ t.2 < n ∧ Path ps t.1 t.2 ∧ ∀ c, t.1 < c → c < n → c ≠ t.2 → Path ps t.1 c → ¬ Path ps c t.2 := by
  have B := abv_bit hp
  rw [netT_eq, List.mem_flatMap]
  have key : ∀ low o, low < n → (o ∈ (ovrF n (abvF n ps) low).filter (cvrB (abvF n ps) (ovrF n (abvF n ps) low)) ↔ low < o ∧ o < n ∧ Path ps low o ∧ ∀ c, low < c → c < n → c ≠ o → Path ps low c → ¬ Path ps c o) := fun low o hlow => by
    rw [List.mem_filter, mem_ovr, B low hlow o]
    unfold cvrB
    rw [List.isEmpty_iff, List.filter_eq_nil_iff]
    constructor
    · rintro ⟨⟨h1, h2, h3⟩, h4⟩
      refine ⟨h1, h2, h3, fun c c1 c2 c3 c4 c5 => h4 c (mem_ovr.mpr ⟨c1, c2, (B low hlow c).mpr c4⟩) ?_⟩
      rw [Bool.and_eq_true]
      exact ⟨by simpa using c3, (B c c2 o).mpr c5⟩
    · rintro ⟨h1, h2, h3, h4⟩
      refine ⟨⟨h1, h2, h3⟩, fun c hc z => ?_⟩
      rw [mem_ovr, B low hlow c] at hc
      rw [Bool.and_eq_true] at z
      exact h4 c hc.1 hc.2.1 (by simpa using z.1) hc.2.2 ((B c hc.2.1 o).mp z.2)
  constructor
  · rintro ⟨low, hl, hm⟩
    rw [List.mem_range] at hl
    unfold netRow at hm
    obtain ⟨o, ho, rfl⟩ := List.mem_map.mp hm
    exact (key low o hl).mp ho
  · intro h
    have hl : t.1 < n := by omega
    refine ⟨t.1, List.mem_range.mpr hl, ?_⟩
    unfold netRow
    exact List.mem_map.mpr ⟨t.2, (key t.1 t.2 hl).mpr h, rfl⟩
theorem net_asc (n : Nat) (ps : List Pq) : AscS (netT n ps) := by
  unfold AscS
  rw [netT_eq, List.pairwise_flatMap]
  refine ⟨fun low _ => ?_, ?_⟩
  · unfold netRow
    rw [List.pairwise_map]
    exact ((ovr_asc _ _ _).sublist (List.filter_sublist ..)).imp fun z => .inr ⟨rfl, z⟩
  · refine (range_strict n).imp fun {a b} h x hx y hy => ?_
    unfold netRow at hx hy
    obtain ⟨o, _, rfl⟩ := List.mem_map.mp hx
    obtain ⟨o2, _, rfl⟩ := List.mem_map.mp hy
    exact .inl h
theorem net_nf {n : Nat} {ps : List Pq} (hn : n ≤ 60) (hp : ∀ p ∈ ps, p.1 < p.2 ∧ p.2 < n) : NF n (netT n ps) := by
  have M := fun t => mem_net hp (t := t)
  have sub : ∀ {a b : Nat}, Path (netT n ps) a b → Path ps a b := fun {a b} h => by
    induction h with
    | refl a => exact .refl a
    | step hm _ ih => exact ((M _).mp hm).2.2.1.trans ih
  refine ⟨⟨hn, fun p h => ⟨((M p).mp h).1, ((M p).mp h).2.1⟩, net_asc n ps⟩, fun p h c hc hne hpt => ?_⟩
  have h1 := (M p).mp h
  have h2 := (M _).mp hc
  exact h1.2.2.2 c h2.1 h2.2.1 hne h2.2.2.1 (sub hpt)
theorem net_few {n : Nat} {ps : List Pq} (hn : n ≤ 60) (hp : ∀ p ∈ ps, p.1 < p.2 ∧ p.2 < n) : (netT n ps).length ≤ 3600 := asc_few hn (net_nf hn hp).prs (net_asc n ps)
/-! ### two beside one another -/
def shT (k : Nat) (ts : List Pq) : List Pq := ts.map fun p => (p.1 + k, p.2 + k)
theorem mem_sh {k : Nat} {ts : List Pq} {a b : Nat} : (a, b) ∈ shT k ts ↔ ∃ x y, (x, y) ∈ ts ∧ a = x + k ∧ b = y + k := by
  unfold shT
  rw [List.mem_map]
  constructor
  · rintro ⟨p, hp, e⟩
    exact ⟨p.1, p.2, hp, (Prod.mk.inj e).1.symm, (Prod.mk.inj e).2.symm⟩
  · rintro ⟨x, y, h, e1, e2⟩
    exact ⟨(x, y), h, by rw [e1, e2]⟩
theorem path_near {n : Nat} {t1 t2 : List Pq} (h1 : ∀ p ∈ t1, p.1 < p.2 ∧ p.2 < n) {a b : Nat} (h : Path (t1 ++ shT n t2) a b) : a < n → Path t1 a b := by
  induction h with
  | refl a => exact fun _ => .refl a
  | step hm _ ih =>
    intro ha
    rcases List.mem_append.mp hm with z | z
    · exact .step z (ih (h1 _ z).2)
    · obtain ⟨x, y, _, e, _⟩ := mem_sh.mp z
      omega
theorem path_far {n : Nat} {t1 t2 : List Pq} (h1 : ∀ p ∈ t1, p.1 < p.2 ∧ p.2 < n) {a b : Nat} (h : Path (t1 ++ shT n t2) a b) : ∀ x, a = x + n → ∃ y, b = y + n ∧ Path t2 x y := by
  induction h with
  | refl a => exact fun x e => ⟨x, e, .refl x⟩
  | step hm _ ih =>
    intro x e
    rcases List.mem_append.mp hm with z | z
    · have := h1 _ z
      omega
    · obtain ⟨x2, y2, hxy, e1, e2⟩ := mem_sh.mp z
      have ex : x2 = x := by omega
      subst ex
      obtain ⟨y, ey, hp⟩ := ih y2 e2
      exact ⟨y, ey, .step hxy hp⟩
theorem nf_aside {n1 n2 : Nat} {t1 t2 : List Pq} (h1 : NF n1 t1) (h2 : NF n2 t2) (hn : n1 + n2 ≤ 60) : NF (n1 + n2) (t1 ++ shT n1 t2) := by
  refine ⟨⟨hn, fun p hp => ?_, ?_⟩, fun p hp c hc hne hpt => ?_⟩
  · rcases List.mem_append.mp hp with z | z
    · have := h1.prs p z
      omega
    · obtain ⟨x, y, hxy, e1, e2⟩ := mem_sh.mp (show (p.1, p.2) ∈ _ from z)
      have := h2.prs _ hxy
      have h3 : x < y := this.1
      have h4 : y < n2 := this.2
      omega
  · unfold AscS
    rw [List.pairwise_append]
    refine ⟨h1.asc, ?_, fun p hp q hq => ?_⟩
    · unfold shT
      rw [List.pairwise_map]
      refine h2.asc.imp fun {a b} h => ?_
      show a.1 + n1 < b.1 + n1 ∨ a.1 + n1 = b.1 + n1 ∧ a.2 + n1 < b.2 + n1
      omega
    · obtain ⟨x, y, hxy, e1, e2⟩ := mem_sh.mp (show (q.1, q.2) ∈ _ from hq)
      have := h1.prs p hp
      omega
  · rcases List.mem_append.mp hp with z | z
    · have hb := h1.prs p z
      rcases List.mem_append.mp hc with y | y
      · have hcb := (h1.prs _ y).2
        exact h1.irr p z c y hne (path_near h1.prs hpt hcb)
      · obtain ⟨x, w, _, e, _⟩ := mem_sh.mp y
        omega
    · obtain ⟨x, y, hxy, e1, e2⟩ := mem_sh.mp (show (p.1, p.2) ∈ _ from z)
      rcases List.mem_append.mp hc with w | w
      · have := (h1.prs _ w)
        have h3 : p.1 < c := this.1
        have h4 : c < n1 := this.2
        omega
      · obtain ⟨x2, c2, hxc, f1, f2⟩ := mem_sh.mp w
        have ex : x2 = x := by omega
        subst ex
        obtain ⟨y2, ey, hpp⟩ := path_far h1.prs hpt c2 f2
        have ey2 : y2 = y := by omega
        subst ey2
        refine h2.irr (x2, y2) hxy c2 hxc (fun q => hne ?_) hpp
        have q : c2 = y2 := q
        omega
end G
-- M14
/-! M14: the dicts of lengths count plays. -/
namespace G
def val (m : List Pq) (k : Nat) : Nat := (m.lookup k).getD 0
theorem val_cons (x : Pq) (m : List Pq) (k : Nat) : val (x :: m) k = if x.1 = k then x.2 else val m k := by
  unfold val
  rw [List.lookup_cons]
  by_cases e : x.1 = k
  · rw [if_pos e, show (k == x.1) = true by simpa using e.symm]
    rfl
  · rw [if_neg e, show (k == x.1) = false by simpa using fun z : k = x.1 => e z.symm]
theorem val_putC (k v l : Nat) : ∀ m : List Pq, val (putC m k v) l = if k = l then v else val m l
  | [] => by
    show val [(k, v)] l = _
    rw [val_cons]
  | x :: m => by
    unfold putC
    by_cases e : x.1 = k
    · rw [if_pos e, val_cons, val_cons]
      by_cases z : k = l
      · rw [if_pos z, if_pos z]
      · rw [if_neg z, if_neg z, if_neg (fun y => z (e.symm.trans y))]
    · rw [if_neg e, val_cons, val_cons, val_putC k v l m]
      by_cases z : k = l
      · rw [if_pos z, if_neg (fun y => e (y.trans z.symm))]
        rw [if_pos z]
      · rw [if_neg z, if_neg z]
def shf (ls : List Pq) (l : Nat) : Nat := ((ls.filter fun x => decide (x.1 + 1 = l)).map (·.2)).sum
theorem shf_cons (x : Pq) (ls : List Pq) (l : Nat) : shf (x :: ls) l = (if x.1 + 1 = l then x.2 else 0) + shf ls l := by
  unfold shf
  rw [List.filter_cons]
  by_cases e : x.1 + 1 = l
  · rw [if_pos (decide_eq_true e), if_pos e]
    rfl
  · rw [if_neg (by simpa using e), if_neg e, Nat.zero_add]
theorem val_putL (l : Nat) : ∀ (ls m : List Pq), val (putL m ls) l = val m l + shf ls l
  | [], m => rfl
  | x :: ls, m => by
    show val (putL (putStep m x) ls) l = _
    rw [val_putL l ls, shf_cons]
    unfold putStep
    rw [val_putC]
    by_cases e : x.1 + 1 = l
    · rw [if_pos e, if_pos e, ← e]
      show val m (x.1 + 1) + x.2 + _ = _
      omega
    · rw [if_neg e, if_neg e]
      omega
theorem val_none {m : List Pq} {k : Nat} (h : k ∉ m.map (·.1)) : val m k = 0 := by
  unfold val
  cases q : m.lookup k with
  | none => rfl
  | some v =>
    obtain ⟨x, hx, ex⟩ := lookup_some q
    exact (h (by rw [← ex]; exact List.mem_map_of_mem hx)).elim
theorem shf_succ (l : Nat) : ∀ {ls : List Pq}, (ls.map (·.1)).Nodup → shf ls (l + 1) = val ls l
  | [], _ => rfl
  | x :: ls, h => by
    rw [List.map_cons] at h
    obtain ⟨h1, h2⟩ := List.nodup_cons.mp h
    rw [shf_cons, val_cons, shf_succ l h2]
    by_cases e : x.1 = l
    · rw [if_pos (by omega), if_pos e, val_none (by rw [← e]; exact h1)]
      rfl
    · rw [if_neg (by omega), if_neg e]
      omega
theorem shf_zero : ∀ ls : List Pq, shf ls 0 = 0
  | [] => rfl
  | x :: ls => by
    rw [shf_cons, if_neg (by omega), shf_zero ls]
/-- plays of that length -/
def cL (xs : List (List Nat)) (l : Nat) : Nat := xs.countP fun p => decide (p.length = l)
structure LenOk (L : List Pq) (xs : List (List Nat)) : Prop where
  nd : (L.map (·.1)).Nodup
  pos : ∀ x ∈ L, 0 < x.2
  vl : ∀ l, val L l = cL xs l
theorem putC_pos {k v : Nat} (hv : 0 < v) : ∀ {m : List Pq}, (∀ x ∈ m, 0 < x.2) → ∀ x ∈ putC m k v, 0 < x.2
  | [], _, x, hx => by
    rw [List.mem_singleton.mp hx]
    exact hv
  | y :: m, h, x, hx => by
    unfold putC at hx
    by_cases e : y.1 = k
    · rw [if_pos e] at hx
      rcases List.mem_cons.mp hx with z | z
      · rw [z]
        exact hv
      · exact h x (List.mem_cons_of_mem _ z)
    · rw [if_neg e] at hx
      rcases List.mem_cons.mp hx with z | z
      · rw [z]
        exact h y List.mem_cons_self
      · exact putC_pos hv (fun q hq => h q (List.mem_cons_of_mem _ hq)) x z
theorem putL_pos : ∀ {ls m : List Pq}, (∀ x ∈ ls, 0 < x.2) → (∀ x ∈ m, 0 < x.2) → ∀ x ∈ putL m ls, 0 < x.2
  | [], m, _, h => h
  | y :: ls, m, hl, h => by
    show ∀ x ∈ putL (putStep m y) ls, 0 < x.2
    refine putL_pos (fun q hq => hl q (List.mem_cons_of_mem _ hq)) (putC_pos ?_ h)
    have := hl y List.mem_cons_self
    omega
theorem putL_nodup : ∀ {ls m : List Pq}, (m.map (·.1)).Nodup → ((putL m ls).map (·.1)).Nodup
  | [], m, h => h
  | y :: ls, m, h => by
    show ((putL (putStep m y) ls).map (·.1)).Nodup
    refine putL_nodup ?_
    unfold putStep
    rw [putC_keys]
    exact ins_nodup h
theorem cL_app (xs ys : List (List Nat)) (l : Nat) : cL (xs ++ ys) l = cL xs l + cL ys l := List.countP_append
theorem cL_beg (p : Nat) (xs : List (List Nat)) (l : Nat) : cL (xs.map (p :: ·)) l = xs.countP fun q => decide (q.length + 1 = l) := by
  unfold cL
  rw [List.countP_map]
  rfl
theorem cL_sh {L : List Pq} {xs : List (List Nat)} (h : LenOk L xs) (p l : Nat) : cL (xs.map (p :: ·)) l = shf L l := by
  rw [cL_beg]
  cases l with
  | zero =>
    rw [shf_zero, List.countP_eq_zero]
    intro a _
    simp
  | succ l =>
    rw [shf_succ l h.nd, h.vl l]
    unfold cL
    refine List.countP_congr fun a _ => ?_
    simp
theorem lenOk_put {m L : List Pq} {xs ys : List (List Nat)} {p : Nat} (h : LenOk m xs) (h2 : LenOk L ys) : LenOk (putL m L) (xs ++ ys.map (p :: ·)) :=
  ⟨putL_nodup h.nd, putL_pos h2.pos h.pos, fun l => by rw [val_putL, h.vl l, cL_app, cL_sh h2]⟩
theorem lenOk_nil : LenOk [] [] := ⟨.nil, (fun _ h => nomatch h), fun l => rfl⟩
theorem lenOk_zero : LenOk [(0, 1)] [[]] := ⟨by simp, fun x h => by rw [List.mem_singleton.mp h]; exact Nat.one_pos, fun l => by
  rw [val_cons]
  cases l with
  | zero => rfl
  | succ l => rfl⟩
theorem lenOk_in {n : Nat} {ts : List Pq} {M : List (Nat × List Pq)} {b : Nat} : ∀ (ps : List Nat) (m : List Pq) (xs : List (List Nat)), LenOk m xs → (∀ p ∈ ps, ∃ L, M.lookup (mns b ((topsF n ts).getD p 0)) = some L ∧ LenOk L (playsF n ts (mns b ((topsF n ts).getD p 0)))) → LenOk (ps.foldl (lenIn (topsF n ts) M b) m) (xs ++ ps.flatMap (begF n ts b))
  | [], m, xs, h, _ => by
    rw [List.flatMap_nil, List.append_nil]
    exact h
  | p :: ps, m, xs, h, hp => by
    rw [List.foldl_cons, List.flatMap_cons, ← List.append_assoc]
    refine lenOk_in ps _ _ ?_ fun q hq => hp q (List.mem_cons_of_mem _ hq)
    obtain ⟨L, h1, h2⟩ := hp p List.mem_cons_self
    unfold lenIn begF
    rw [h1]
    exact lenOk_put h h2
theorem len_lookup {n : Nat} {ts : List Pq} (N : Net n ts) {start : Nat} : ∀ (post pre : List Nat) (M : List (Nat × List Pq)), lefIn n ts start = pre ++ post → M.map (·.1) = pre → (∀ b ∈ pre, ∃ L, M.lookup b = some L ∧ LenOk L (playsF n ts b)) → ∀ b ∈ lefIn n ts start, ∃ L, (post.foldl (lenStep (topsF n ts)) M).lookup b = some L ∧ LenOk L (playsF n ts b)
  | [], pre, m, e, _, h => fun b hb => h b (by rw [e, List.append_nil] at hb; exact hb)
  | c :: post, pre, M, e, hk, h => by
    have hc2 : c ∈ lefIn n ts start := by rw [e]; simp
    have hc : c ∈ leftsF n ts := (List.mem_filter.mp hc2).1
    have hasc : (lefIn n ts start).Pairwise (· < ·) := N.clo.asc.sublist (List.filter_sublist ..)
    rw [e] at hasc
    have hnot : c ∉ pre := fun z => by
      have := (List.pairwise_append.mp hasc).2.2 c z c List.mem_cons_self
      omega
    rw [List.foldl_cons]
    refine len_lookup N post (pre ++ [c]) _ (by rw [e]; simp) (by unfold lenStep; rw [List.map_append, hk]; rfl) fun b hb => ?_
    have hval : LenOk (lenV (topsF n ts) M c) (playsF n ts c) := by
      unfold lenV
      by_cases h0 : c = 0
      · subst h0
        rw [if_pos rfl]
        have e0 : pcsF 0 = [] := by
          unfold pcsF
          rw [List.filter_eq_nil_iff]
          intro a _
          simp
        rw [e0]
        unfold playsF
        rw [plays_zero]
        exact lenOk_zero
      · rw [if_neg h0, N.unf hc h0]
        exact lenOk_in (pcsF c) [] [] lenOk_nil fun p hp => h _ (lefIn_sub N.clo e p hp).2
    unfold lenStep
    rw [List.lookup_append]
    rcases List.mem_append.mp hb with z | z
    · obtain ⟨L, h1, h2⟩ := h b z
      exact ⟨L, by rw [h1]; rfl, h2⟩
    · have e2 := List.mem_singleton.mp z
      subst e2
      have e3 : M.lookup b = none := by
        cases q : M.lookup b with
        | none => rfl
        | some v =>
          have : b ∈ M.map (·.1) := by
            clear h hk hval
            induction M with
            | nil => cases q
            | cons x M ih =>
              rw [List.lookup_cons] at q
              by_cases e : b = x.1
              · rw [List.map_cons, e]
                exact List.mem_cons_self
              · rw [show (b == x.1) = false by simpa using e] at q
                exact List.mem_cons_of_mem _ (ih q)
          rw [hk] at this
          exact (hnot this).elim
      refine ⟨_, ?_, hval⟩
      rw [e3]
      simp
theorem len_ok {n : Nat} {ts : List Pq} (N : Net n ts) {start : Nat} (hs : start ∈ leftsF n ts) : LenOk (((lenF n ts start).lookup start).getD []) (playsF n ts start) := by
  have h0 : mns start start = 0 := by
    unfold mns
    rw [Nat.and_self, Nat.xor_self]
  obtain ⟨L, h1, h2⟩ := len_lookup N (lefIn n ts start) [] [] rfl rfl (fun _ h => by cases h) start (List.mem_filter.mpr ⟨hs, decide_eq_true h0⟩)
  unfold lenF
  rw [h1]
  exact h2
theorem plays_len (tops : List Nat) : ∀ (f b : Nat), ∀ p ∈ plays tops f b, p.length ≤ f
  | 0, b, p, h => by
    rw [show plays tops 0 b = [[]] from rfl] at h
    rw [List.mem_singleton.mp h]
    exact Nat.le_refl 0
  | f + 1, b, p, h => by
    unfold plays at h
    split at h
    · rw [List.mem_singleton.mp h]
      exact Nat.zero_le _
    · obtain ⟨q, _, h2⟩ := List.mem_flatMap.mp h
      obtain ⟨r, hr, rfl⟩ := List.mem_map.mp h2
      have := plays_len tops f _ r hr
      rw [List.length_cons]
      omega
theorem LenOk.mem {L : List Pq} {xs : List (List Nat)} (h : LenOk L xs) {x : Pq} : x ∈ L ↔ 0 < x.2 ∧ x.2 = cL xs x.1 := by
  constructor
  · intro hx
    refine ⟨h.pos x hx, ?_⟩
    have := h.vl x.1
    unfold val at this
    rw [lookup_nodup h.nd hx] at this
    exact this
  · rintro ⟨h1, h2⟩
    have := h.vl x.1
    unfold val at this
    cases q : L.lookup x.1 with
    | none =>
      rw [q] at this
      have : 0 = cL xs x.1 := this
      omega
    | some v =>
      rw [q] at this
      have : v = cL xs x.1 := this
      obtain ⟨y, hy, ey⟩ := lookup_some q
      have h3 := lookup_nodup h.nd hy
      rw [ey, q] at h3
      have h4 : v = y.2 := Option.some.inj h3
      have : x = y := Prod.ext ey.symm (by omega)
      rw [this]
      exact hy
theorem LenOk.key {L : List Pq} {xs : List (List Nat)} (h : LenOk L xs) {k : Nat} : k ∈ L.map (·.1) ↔ ∃ p ∈ xs, p.length = k := by
  rw [List.mem_map]
  constructor
  · rintro ⟨x, hx, rfl⟩
    obtain ⟨h1, h2⟩ := h.mem.mp hx
    rw [h2] at h1
    obtain ⟨p, hp, e⟩ := List.countP_pos_iff.mp h1
    exact ⟨p, hp, of_decide_eq_true e⟩
  · rintro ⟨p, hp, rfl⟩
    refine ⟨(p.length, cL xs p.length), h.mem.mpr ⟨?_, rfl⟩, rfl⟩
    exact List.countP_pos_iff.mpr ⟨p, hp, decide_eq_true rfl⟩
theorem len_key {n : Nat} {ts : List Pq} (N : Net n ts) {start : Nat} (hs : start ∈ leftsF n ts) : KeyOk 65 (((lenF n ts start).lookup start).getD []) := by
  have h := len_ok N hs
  refine ⟨h.nd, fun k hk => ?_⟩
  obtain ⟨p, hp, rfl⟩ := h.key.mp hk
  have := plays_len _ _ _ p hp
  omega
/-- the sorted list of lengths with counts -/
def byLen (xs : List (List Nat)) (ks : List Nat) : List Pq := ks.map fun k => (k, cL xs k)
theorem byLen_perm {L : List Pq} {xs : List (List Nat)} (h : LenOk L xs) {ks : List Nat} (hk : ks.Pairwise (· < ·)) (hm : ∀ k, k ∈ ks ↔ ∃ p ∈ xs, p.length = k) : (byLen xs ks).Perm L := by
  have n1 : (byLen xs ks).Nodup := by
    unfold byLen List.Nodup
    rw [List.pairwise_map]
    exact hk.imp fun h e => by
      have := (Prod.mk.inj e).1
      omega
  have n2 : L.Nodup := by
    have := h.nd
    unfold List.Nodup at this ⊢
    rw [List.pairwise_map] at this
    exact this.imp fun h e => h (by rw [e])
  refine (List.perm_ext_iff_of_nodup n1 n2).mpr fun x => ?_
  rw [h.mem]
  unfold byLen
  rw [List.mem_map]
  constructor
  · rintro ⟨k, hk2, rfl⟩
    obtain ⟨p, hp, e⟩ := (hm k).mp hk2
    exact ⟨List.countP_pos_iff.mpr ⟨p, hp, decide_eq_true e⟩, rfl⟩
  · rintro ⟨h1, h2⟩
    rw [h2] at h1
    obtain ⟨p, hp, e⟩ := List.countP_pos_iff.mp h1
    exact ⟨x.1, (hm x.1).mpr ⟨p, hp, of_decide_eq_true e⟩, by rw [← h2]⟩
theorem byLen_asc (xs : List (List Nat)) {ks : List Nat} (hk : ks.Pairwise (· < ·)) : (byLen xs ks).Pairwise fun x y => x.1 < y.1 ∨ (x.1 = y.1 ∧ x.2 < y.2) := by
  unfold byLen
  rw [List.pairwise_map]
  exact hk.imp fun h => .inl h
/-! ### odd lengths -/
theorem ind_sum {a : Nat} : ∀ {ks : List Nat}, ks.Nodup → (ks.map fun k => if a = k then 1 else 0).sum = if a ∈ ks then 1 else 0
  | [], _ => by simp
  | k :: ks, h => by
    obtain ⟨h1, h2⟩ := List.nodup_cons.mp h
    rw [List.map_cons, List.sum_cons, ind_sum h2]
    by_cases e : a = k
    · subst e
      rw [if_pos rfl, if_neg h1, if_pos List.mem_cons_self]
    · rw [if_neg e, Nat.zero_add]
      by_cases z : a ∈ ks
      · rw [if_pos z, if_pos (List.mem_cons_of_mem _ z)]
      · rw [if_neg z, if_neg (fun y => by rcases List.mem_cons.mp y with q | q; exact e q; exact z q)]
theorem sum_add (g h : Nat → Nat) : ∀ l : List Nat, (l.map fun k => g k + h k).sum = (l.map g).sum + (l.map h).sum
  | [] => rfl
  | a :: l => by
    rw [List.map_cons, List.map_cons, List.map_cons, List.sum_cons, List.sum_cons, List.sum_cons, sum_add g h l]
    omega
theorem cnt_sum (f : Nat → Bool) {ks : List Nat} (hk : ks.Nodup) : ∀ xs : List (List Nat), (∀ p ∈ xs, p.length ∈ ks) → ((ks.filter f).map fun k => cL xs k).sum = xs.countP fun p => f p.length
  | [], _ => by
    have : (fun k => cL [] k) = fun _ => 0 := rfl
    rw [this]
    have z : ∀ l : List Nat, (l.map fun _ => 0).sum = 0 := fun l => by
      induction l with
      | nil => rfl
      | cons a l ih => rw [List.map_cons, List.sum_cons, ih]
    exact z _
  | p :: xs, h => by
    have e : (fun k => cL (p :: xs) k) = fun k => cL xs k + if p.length = k then 1 else 0 := by
      funext k
      unfold cL
      rw [List.countP_cons]
      by_cases z : p.length = k
      · rw [if_pos z, if_pos (decide_eq_true z)]
      · rw [if_neg z, if_neg (by simpa using z)]
    rw [e, sum_add, cnt_sum f hk xs (fun q hq => h q (List.mem_cons_of_mem _ hq)), ind_sum (hk.sublist (List.filter_sublist ..)), List.countP_cons]
    congr 1
    have hp := h p List.mem_cons_self
    by_cases z : f p.length = true
    · rw [if_pos z, if_pos (List.mem_filter.mpr ⟨hp, z⟩)]
    · rw [if_neg z, if_neg (fun y => z (List.mem_filter.mp y).2)]
theorem won_odd {L : List Pq} {xs : List (List Nat)} (h : LenOk L xs) : wonF L = xs.countP fun p => decide (p.length % 2 = 1) := by
  rw [← cnt_sum (fun k => decide (k % 2 = 1)) h.nd xs (fun p hp => h.key.mpr ⟨p, hp, rfl⟩)]
  unfold wonF
  rw [List.filter_map, List.map_map]
  congr 1
  refine List.map_congr_left fun x hx => ?_
  exact (h.mem.mp (List.mem_filter.mp hx).1).2
end G
-- M15
/-! M15: chains. -/
namespace G
theorem mem_ch {m a b : Nat} : (a, b) ∈ chT m ↔ b = a + 1 ∧ b < m := by
  unfold chT
  rw [List.mem_map]
  constructor
  · rintro ⟨k, hk, e⟩
    rw [List.mem_range] at hk
    have e1 := (Prod.mk.inj e).1
    have e2 := (Prod.mk.inj e).2
    omega
  · rintro ⟨h1, h2⟩
    exact ⟨a, List.mem_range.mpr (by omega), by rw [h1]⟩
theorem nf_chain {m : Nat} (hm : m ≤ 60) : NF m (chT m) := by
  refine ⟨⟨hm, fun p hp => ?_, ?_⟩, fun p hp c hc hne _ => ?_⟩
  · have h := mem_ch.mp (show (p.1, p.2) ∈ chT m from hp)
    omega
  · unfold AscS chT
    rw [List.pairwise_map]
    exact (range_strict _).imp fun h => .inl h
  · have h := mem_ch.mp (show (p.1, p.2) ∈ chT m from hp)
    have h2 := mem_ch.mp hc
    omega
theorem path_ch {m a b : Nat} (h : Path (chT m) a b) : a ≤ b ∧ (b = a ∨ b < m) := by
  induction h with
  | refl a => exact ⟨Nat.le_refl a, .inl rfl⟩
  | step hm _ ih =>
    have := mem_ch.mp hm
    omega
theorem ch_path {m a : Nat} : ∀ d, a + d < m → Path (chT m) a (a + d)
  | 0, _ => .refl a
  | d + 1, h => (ch_path d (by omega)).trans (.step (c := a + d + 1) (mem_ch.mpr ⟨rfl, by omega⟩) (.refl _))
theorem top_ch {m p : Nat} (hm : m ≤ 60) (hp : p < m) (q : Nat) : ((topsF m (chT m)).getD p 0).testBit q = true ↔ p ≤ q ∧ q < m := by
  rw [(nf_chain hm).top hp q]
  constructor
  · intro h
    have := path_ch h
    omega
  · rintro ⟨h1, h2⟩
    have := ch_path (m := m) (a := p) (q - p) (by omega)
    rw [show p + (q - p) = q by omega] at this
    exact this
theorem full_bit (i q : Nat) : (2 ^ i - 1).testBit q = decide (q < i) := Nat.testBit_two_pow_sub_one i q
theorem full_lt (i : Nat) : 2 ^ i - 1 < 2 ^ i := by
  have := Nat.two_pow_pos i
  omega
theorem mns_ch {m i p : Nat} (hm : m ≤ 60) (hi : i ≤ m) (hp : p < i) : mns (2 ^ i - 1) ((topsF m (chT m)).getD p 0) = 2 ^ p - 1 := by
  refine Nat.eq_of_testBit_eq fun q => ?_
  rw [mns_bit, full_bit, full_bit]
  have h := top_ch (q := q) hm (show p < m by omega)
  cases e : ((topsF m (chT m)).getD p 0).testBit q with
  | true =>
    have := h.mp e
    rw [decide_eq_false (show ¬ q < p by omega)]
    simp
  | false =>
    have hn : ¬ (p ≤ q ∧ q < m) := fun z => by rw [h.mpr z] at e; cases e
    by_cases z : q < p
    · rw [decide_eq_true z, decide_eq_true (show q < i by omega)]
      rfl
    · rw [decide_eq_false z, decide_eq_false (show ¬ q < i by omega)]
      rfl
theorem pcs_full {i : Nat} (hi : i ≤ 60) : pcsF (2 ^ i - 1) = List.range i := by
  rw [pcs_range (n := i) (by omega) (full_lt i), List.filter_eq_self]
  intro a ha
  rw [full_bit]
  exact decide_eq_true (List.mem_range.mp ha)
theorem full_in {m i : Nat} (hm : m ≤ 60) (hi : i ≤ m) : 2 ^ i - 1 ∈ leftsF m (chT m) := by
  rw [(nf_chain hm).mem]
  refine ⟨Nat.lt_of_lt_of_le (full_lt i) (Nat.pow_le_pow_right (by decide) hi), fun p hp h => ?_⟩
  rw [full_bit] at h ⊢
  have h2 := of_decide_eq_true h
  have := mem_ch.mp (show (p.1, p.2) ∈ chT m from hp)
  exact decide_eq_true (by omega)
theorem und_ch {m k : Nat} (hk : k < m) : ∀ x, x ∈ undF (chT m) k ↔ x + 1 = k := fun x => by
  rw [mem_und, mem_ch]
  omega
theorem lefsU_ch {m : Nat} (hm : m ≤ 60) : ∀ k, k ≤ m → lefsU (chT m) k = (List.range (k + 1)).map fun i => 2 ^ i - 1
  | 0, _ => rfl
  | k + 1, hk => by
    rw [lefsU_succ, lefsU_ch hm k (by omega)]
    unfold lefStep
    have e : ((List.range (k + 1)).map fun i => 2 ^ i - 1).filter (fun b => decide (b &&& bitsF (undF (chT m) k) = bitsF (undF (chT m) k))) = [2 ^ k - 1] := by
      rw [List.filter_map, List.range_succ, List.filter_append]
      have hP : ∀ i, (decide ((2 ^ i - 1) &&& bitsF (undF (chT m) k) = bitsF (undF (chT m) k))) = true ↔ k ≤ i := fun i => by
        rw [decide_eq_true_iff, und_all (nf_chain hm).asc]
        constructor
        · intro h
          rcases Nat.eq_zero_or_pos k with z | z
          · omega
          · have := h (k - 1) (mem_ch.mpr ⟨by omega, by omega⟩)
            rw [full_bit] at this
            have := of_decide_eq_true this
            omega
        · intro h x hx
          have := mem_ch.mp hx
          rw [full_bit]
          exact decide_eq_true (by omega)
      have e1 : (List.range k).filter ((fun b => decide (b &&& bitsF (undF (chT m) k) = bitsF (undF (chT m) k))) ∘ fun i => 2 ^ i - 1) = [] := by
        rw [List.filter_eq_nil_iff]
        intro a ha z
        have := (hP a).mp z
        have := List.mem_range.mp ha
        omega
      rw [e1, List.nil_append]
      have e2 : [k].filter ((fun b => decide (b &&& bitsF (undF (chT m) k) = bitsF (undF (chT m) k))) ∘ fun i => 2 ^ i - 1) = [k] := by
        rw [List.filter_eq_self]
        intro a ha
        rw [List.mem_singleton.mp ha]
        exact (hP k).mpr (Nat.le_refl k)
      rw [e2]
      rfl
    rw [e, List.range_succ (n := k + 1), List.map_append]
    congr 1
    show [(2 ^ k - 1) ||| 2 ^ k] = [2 ^ (k + 1) - 1]
    congr 1
    refine Nat.eq_of_testBit_eq fun q => ?_
    rw [or_bit, full_bit, full_bit]
    by_cases z : q < k
    · rw [decide_eq_true z, decide_eq_true (show q < k + 1 by omega)]
      rfl
    · rw [decide_eq_false z]
      by_cases y : k = q
      · rw [decide_eq_true y, decide_eq_true (show q < k + 1 by omega)]
        rfl
      · rw [decide_eq_false y, decide_eq_false (show ¬ q < k + 1 by omega)]
        rfl
theorem few_ch {m : Nat} (hm : m ≤ 60) : FewOk m (chT m) := fun k hk => by
  rw [lefsU_ch hm k hk, List.length_map, List.length_range]
  omega
/-! ### how many plays -/
def cP (m : Nat) (f : Nat → Bool) (i : Nat) : Nat := (playsF m (chT m) (2 ^ i - 1)).countP fun p => f p.length
theorem count_flat {α β : Type} (P : β → Bool) (g : α → List β) : ∀ l : List α, (l.flatMap g).countP P = (l.map fun a => (g a).countP P).sum
  | [] => rfl
  | a :: l => by rw [List.flatMap_cons, List.countP_append, count_flat P g l, List.map_cons, List.sum_cons]
theorem cP_zero (m : Nat) (f : Nat → Bool) : cP m f 0 = if f 0 = true then 1 else 0 := by
  unfold cP playsF
  rw [show 2 ^ 0 - 1 = 0 from rfl, plays_zero, List.countP_cons]
  show 0 + _ = _
  rw [Nat.zero_add]
  rfl
theorem cP_sum {m i : Nat} (hm : m ≤ 60) (hi : i + 1 ≤ m) (f : Nat → Bool) : cP m f (i + 1) = ((List.range (i + 1)).map fun p => cP m (fun l => f (l + 1)) p).sum := by
  have h0 : 2 ^ (i + 1) - 1 ≠ 0 := by
    have := Nat.two_pow_pos i
    rw [Nat.pow_succ]
    omega
  unfold cP
  rw [(nf_chain hm).unf (full_in hm hi) h0, pcs_full (by omega), count_flat]
  congr 1
  refine List.map_congr_left fun p hp => ?_
  unfold begF
  rw [mns_ch hm hi (List.mem_range.mp hp), List.countP_map]
  rfl
theorem cP_succ {m i : Nat} (hm : m ≤ 60) (hi : i + 2 ≤ m) (f : Nat → Bool) : cP m f (i + 2) = cP m f (i + 1) + cP m (fun l => f (l + 1)) (i + 1) := by
  rw [cP_sum hm hi, cP_sum hm (by omega), List.range_succ, List.map_append, List.sum_append]
  simp
theorem cP_one {m : Nat} (hm : m ≤ 60) (hi : 1 ≤ m) (f : Nat → Bool) : cP m f 1 = if f 1 = true then 1 else 0 := by
  rw [cP_sum (i := 0) hm hi]
  show cP m (fun l => f (l + 1)) 0 + 0 = _
  rw [cP_zero]
  rfl
theorem c_all {m : Nat} (hm : m ≤ 60) : ∀ i, i + 1 ≤ m → cP m (fun _ => true) (i + 1) = 2 ^ i
  | 0, h => by
    rw [cP_one hm h]
    rfl
  | i + 1, h => by
    rw [cP_succ hm h, c_all hm i (by omega), Nat.pow_succ]
    omega
theorem c_len (m i : Nat) : (playsF m (chT m) (2 ^ i - 1)).length = cP m (fun _ => true) i := by
  unfold cP
  rw [List.countP_true]
def oddB (l : Nat) : Bool := decide (l % 2 = 1)
def evnB (l : Nat) : Bool := decide (l % 2 = 0)
theorem odd_succ : (fun l => oddB (l + 1)) = evnB := by
  funext l
  unfold oddB evnB
  by_cases z : l % 2 = 0
  · rw [decide_eq_true z, decide_eq_true (by omega)]
  · rw [decide_eq_false z, decide_eq_false (by omega)]
theorem evn_succ : (fun l => evnB (l + 1)) = oddB := by
  funext l
  unfold oddB evnB
  by_cases z : l % 2 = 1
  · rw [decide_eq_true z, decide_eq_true (by omega)]
  · rw [decide_eq_false z, decide_eq_false (by omega)]
theorem c_oe {m : Nat} (hm : m ≤ 60) : ∀ i, i + 2 ≤ m → cP m oddB (i + 2) = 2 ^ i ∧ cP m evnB (i + 2) = 2 ^ i
  | 0, h => by
    rw [cP_succ hm h, cP_succ hm h, odd_succ, evn_succ, cP_one hm (by omega), cP_one hm (by omega)]
    decide
  | i + 1, h => by
    obtain ⟨h1, h2⟩ := c_oe hm i (by omega)
    rw [cP_succ hm h, cP_succ hm h, odd_succ, evn_succ, h1, h2, Nat.pow_succ]
    omega
/-! ### the play downward -/
def down (k : Nat) : List Nat := (List.range (k + 1)).reverse
theorem down_cons (j : Nat) : (List.range (j + 1)).reverse = j :: (List.range j).reverse := by
  rw [List.range_succ, List.reverse_append]
  rfl
theorem trip_dn {m : Nat} (hm : m ≤ 60) : ∀ (j i : Nat), j ≤ i → i ≤ m → TripOk m (chT m) (2 ^ i - 1) (List.range j).reverse
  | 0, _, _, _ => trivial
  | j + 1, i, h1, h2 => by
    rw [down_cons]
    refine ⟨?_, ?_⟩
    · rw [pcs_full (by omega)]
      exact List.mem_range.mpr h1
    · rw [mns_ch hm h2 h1]
      exact trip_dn hm j j (Nat.le_refl j) (by omega)
theorem end_dn {m : Nat} (hm : m ≤ 60) : ∀ j, j ≤ m → endB m (chT m) (2 ^ j - 1) (List.range j).reverse = 0
  | 0, _ => rfl
  | j + 1, h => by
    rw [down_cons]
    show endB m (chT m) (mns (2 ^ (j + 1) - 1) ((topsF m (chT m)).getD j 0)) _ = 0
    rw [mns_ch hm h (Nat.lt_succ_self j)]
    exact end_dn hm j (by omega)
theorem end_down {m k : Nat} (hm : m ≤ 60) (hk : k < m) : endB m (chT m) (2 ^ m - 1) (down k) = 0 := by
  unfold down
  rw [down_cons]
  show endB m (chT m) (mns (2 ^ m - 1) ((topsF m (chT m)).getD k 0)) _ = 0
  rw [mns_ch hm (Nat.le_refl m) hk]
  exact end_dn hm k (by omega)
theorem sum_c {m : Nat} (hm : m ≤ 60) {k : Nat} (hk : k < m) : ((List.range k).map fun p => cP m (fun _ => true) p).sum = if k = 0 then 0 else 2 ^ (k - 1) := by
  cases k with
  | zero => rfl
  | succ k =>
    rw [← cP_sum (f := fun _ => true) hm (by omega), c_all hm k (by omega)]
    rfl
theorem num_dn {m : Nat} (hm : m ≤ 60) : ∀ (j i : Nat), j ≤ i → i ≤ m → numF m (chT m) (2 ^ i - 1) (List.range j).reverse + 1 = if j = 0 then 1 else 2 ^ (j - 1)
  | 0, _, _, _ => rfl
  | j + 1, i, h1, h2 => by
    rw [down_cons]
    unfold numF
    rw [mns_ch hm h2 h1, pcs_full (by omega)]
    have e : (List.range i).filter (fun k => decide (k < j)) = List.range j := by
      rw [filter_range (n := j) (m := i) (by omega) (fun p hp => decide_eq_false (by omega)), List.filter_eq_self]
      intro a ha
      exact decide_eq_true (List.mem_range.mp ha)
    rw [e]
    have e2 : ((List.range j).map fun k => (playsF m (chT m) (mns (2 ^ i - 1) ((topsF m (chT m)).getD k 0))).length) = (List.range j).map fun p => cP m (fun _ => true) p := by
      refine List.map_congr_left fun p hp => ?_
      rw [mns_ch hm h2 (by have := List.mem_range.mp hp; omega), c_len]
    rw [e2, sum_c hm (by omega)]
    have ih := num_dn hm j j (Nat.le_refl j) (by omega)
    rw [Nat.add_assoc, ih, if_neg (Nat.succ_ne_zero j)]
    cases j with
    | zero => rfl
    | succ j =>
      rw [if_neg (Nat.succ_ne_zero j), if_neg (Nat.succ_ne_zero j)]
      show 2 ^ (j + 1 - 1) + 2 ^ (j + 1 - 1) = 2 ^ (j + 1 + 1 - 1)
      rw [show j + 1 - 1 = j by omega, show j + 1 + 1 - 1 = j + 1 by omega, Nat.pow_succ]
      omega
theorem num_down {m k : Nat} (hm : m ≤ 60) (hk : k < m) : numF m (chT m) (2 ^ m - 1) (down k) = 2 ^ k - 1 := by
  have h := num_dn hm (k + 1) m hk (Nat.le_refl m)
  rw [if_neg (Nat.succ_ne_zero k), Nat.add_sub_cancel] at h
  unfold down
  omega
theorem down_at {m k : Nat} (hm : m ≤ 60) (hk : k < m) : (playsF m (chT m) (2 ^ m - 1))[2 ^ k - 1]? = some (down k) := by
  rw [← num_down hm hk]
  exact trip_at (nf_chain hm).toNet (down k) _ (full_in hm (Nat.le_refl m)) (trip_dn hm (k + 1) m hk (Nat.le_refl m)) (end_down hm hk)
end G
-- La6
set_option maxHeartbeats 4000000
/-! La6: _law_net. -/
namespace G
open PySem PySem.Spec PyProof.Rows L2
theorem eqv_nil : ∀ ds : List D, PyData.eqv (pyD (.lst ds)) (pyD (.lst [])) = ds.isEmpty
  | [] => by simp [pyD, pyDs, PyData.eqv, PyData.eqvAll]
  | d :: ds => by simp [pyD, pyDs, PyData.eqv, PyData.eqvAll]
theorem lay_ints : ∀ ns : List Nat, PyData.canLayAll0 (ns.map fun n : Nat => PyData.int (n : Int)) = true
  | [] => by simp [PyData.canLayAll0]
  | n :: ns => by simp [PyData.canLayAll0, PyData.canLay0, lay_ints ns]
theorem dep_ints : ∀ ns : List Nat, PyData.depthAll (ns.map fun n : Nat => PyData.int (n : Int)) ≤ 1
  | [] => by simp [PyData.depthAll]
  | n :: ns => by
    have h2 := dep_ints ns
    simp only [List.map_cons, PyData.depthAll, PyData.depth]
    omega
theorem pyD_ints (ns : List Nat) : pyDs (ns.map nD) = ns.map fun n : Nat => PyData.int (n : Int) := by
  rw [pyDs_map, List.map_map]
  rfl
theorem sh_ints (ns : List Nat) : SeqAt.shaped (pyD (.lst (ns.map nD))) = true := by
  rw [pyD, pyD_ints]
  refine Bool.and_eq_true_iff.mpr ⟨?_, decide_eq_true ?_⟩
  · rw [PyData.canLay0]
    exact lay_ints ns
  · rw [PyData.depth]
    have := dep_ints ns
    omega
theorem noDc_ints (ns : List Nat) : noDc (.lst (ns.map nD)) = true := by
  rw [noDc, noDcs_all, List.all_eq_true]
  intro d hd
  obtain ⟨n, _, rfl⟩ := List.mem_map.mp hd
  rfl
theorem d_eqE {X : Cx} (hu : X.A.units + 64 < cLine) {ns : List Nat} : OpD X (compareOp .Eq) (.lst (ns.map nD)) (.lst []) (.bl ns.isEmpty) := by
  refine d_eqP hu (noDc_ints ns) rfl (sh_ints ns) (sh_ints []) ?_
  refine (eqv_nil _).trans ?_
  cases ns <;> rfl
theorem fold_flt {α β : Type} (P : α → Bool) (g : α → β) : ∀ (l : List α) (acc : List β), l.foldl (fun s x => if P x = true then s ++ [g x] else s) acc = acc ++ (l.filter P).map g
  | [], acc => by simp
  | a :: l, acc => by
    rw [List.foldl_cons, fold_flt P g l, List.filter_cons]
    by_cases e : P a = true
    · rw [if_pos e, if_pos e, List.map_cons, List.append_assoc]
      rfl
    · rw [if_neg e, if_neg e]
theorem ovr_len (n : Nat) (A : List Nat) (low : Nat) : (ovrF n A low).length ≤ n := by
  unfold ovrF
  rw [List.length_map]
  have h := List.length_filter_le (fun k => (A.getD low 0).testBit (low + 1 + k)) (List.range (n - (low + 1)))
  rw [List.length_range] at h
  omega
theorem abv_len {n : Nat} (ps : List Pr) : (abvF n ps).length = n := by
  unfold abvF
  refine foldl_inv (fun f : List Nat => f.length = n) _ _ (by simp) fun f low _ hf => ?_
  exact foldl_inv (fun f : List Nat => f.length = n) ps f hf fun f p _ hf => by rw [orRow_len]; exact hf
section
variable {P : Program} {w : World} {K : PySem.W.Frag} {mg : Str → Option Value} {base : Heap}
def R_net : List D → D → Prop := fun ds d => ∃ (n : Nat) (ps : List Pr), n ≤ 60 ∧ (∀ p ∈ ps, p.1 < p.2 ∧ p.2 < n) ∧ ps.length ≤ 100000 ∧ ds = [nD n, .lst (ps.map prD)] ∧ d = ordD n (netT n ps)
theorem sc59 : FnScope ["_law_many_so", "_law_pairs_so", "_law_above_so", "_law_low_so", "_law_pair_so", "_law_ties_so", "_law_own", "_law_over_so", "_law_k", "_law_its"] ["_law_many_so", "_law_pairs_so"] (defScope (topS 59)) := ⟨rfl, rfl, rfl, by decide +kernel, rfl, by decide +kernel, by decide +kernel⟩
theorem ok_net (T : Bn mg) (D0 : Df K mg "_law_net" (topS 59) ["_law_many_so", "_law_pairs_so"]) : Cal P w K mg base 1 "_law_net" (spF R_net) :=
  mk_cal D0 sc59 (by decide) (fun ds d ⟨_, _, _, _, _, h, _⟩ => by rw [h]; rfl) fun f cdv A outer s H E hr ds d ⟨n, ps, hn, hp, hl, h1, h2⟩ => by
    subst h1 h2
    refine hr_own 2 sc59.nd (o_lc [("_law_k", 8)] nD (List.range n) (fun _ => true) (fun p => nD (2 ^ p)) rfl sc59.nd (it_rN T (x_nm 0)) (by rfl) (by rw [List.length_range]; omega) (fun x hx => ⟨_, fun s H0 C cl fp => tg_fn 8 sc59.nd, .nil, fun _ s H0 C cl fp => x_shl1 (x_nm 8) (by have := List.mem_range.mp hx; omega)⟩)) ?_
    rw [show ((List.range n).filter fun _ => true).map (fun p => nD (2 ^ p)) = ((List.range n).map fun p => 2 ^ p).map nD by rw [filt_true, List.map_map]; rfl]
    refine hr_fold nD (List.range n).reverse (fun (g : List Nat) => [.pu (nD n), .pu (.lst (ps.map prD)), .ow (.one (.L (g.map nD))), .un, .un, .un, .un, .un, .un, .un]) (abvStep ps) ((List.range n).map fun p => 2 ^ p) (fun _ g => g.length = n) PassesOwn.never rfl
      (it_dN T n (x_op (x_nm 0).rd (x_int (i := 1)).rd d_sub) (x_neg x_int) (x_neg x_int) rfl (by omega)) (Wk.refl _) (by simp) (fun pre low post g e hg => ?_) (fun hg => ?_)
    · have hlow : low < n := by
        have : low ∈ (List.range n).reverse := by rw [e]; simp
        exact List.mem_range.mp (List.mem_reverse.mp this)
      refine ⟨foldl_inv (fun f : List Nat => f.length = n) ps g hg fun f p _ hf => by rw [orRow_len]; exact hf, _, [3], tg_fn 3 sc59.nd, ?_⟩
      refine hr_fold prD ps (fun (g : List Nat) => [.pu (nD n), .pu (.lst (ps.map prD)), .ow (.one (.L (g.map nD))), .pu (nD low), .un, .un, .un, .un, .un, .un]) (orRow low) g (fun _ g => g.length = n) PassesOwn.never rfl (it_list (x_nm 1)) (Wk.refl _) hg (fun pre2 p post2 g2 e2 hg2 => ?_) (fun hg2 => ?_)
      · have hpm := hp p (by rw [e2]; simp)
        refine ⟨by rw [orRow_len]; exact hg2, _, [4], tg_fn 4 sc59.nd, ?_⟩
        refine hr_if (M := fun Γ' => Γ' = [.pu (nD n), .pu (.lst (ps.map prD)), .ow (.one (.L ((orRow low g2 p).map nD))), .pu (nD low), .un, .un, .un, .un, .un, .un]) (t_cmp (x_ixT (d := nD p.1) (x_nm 4 (d := prD p)).rd (x_int (i := 0)) rfl).rd (x_nm 3).rd d_eqN) (fun z => ?_) (fun z => ?_) (fun Γ' z => hr_nil Γ' (Wk.refl _) z)
        · have z2 := of_decide_eq_true z
          refine hr_setL 2 (xs := g2.map nD) (j := low) (d := nD (g2.getD low 0 ||| g2.getD p.2 0)) (x_op (rx (x_ixL (ds := g2.map nD) (x_owL 2) (x_nm 3) (getD_atI (by omega)))) (rx (x_ixL (ds := g2.map nD) (x_owL 2) (x_ixT (d := nD p.2) (x_nm 4 (d := prD p)).rd (x_int (i := 1)) rfl) (getD_atI (by omega)))) d_orN) (x_nm 3) (hr_nil _ (.same (.same (.same (.same (.un (.same (.same (.same (.same (.same .nil)))))))))) ?_) (by rw [List.length_map]; omega)
          show _ = [Slot.pu (nD n), .pu (.lst (ps.map prD)), .ow (.one (.L ((orRow low g2 p).map nD))), .pu (nD low), .un, .un, .un, .un, .un, .un]
          unfold orRow
          rw [if_pos z2, List.map_set]
        · have z2 := of_decide_eq_false z
          refine hr_nil _ (.same (.same (.same (.same (.un (.same (.same (.same (.same (.same .nil)))))))))) ?_
          show _ = [Slot.pu (nD n), .pu (.lst (ps.map prD)), .ow (.one (.L ((orRow low g2 p).map nD))), .pu (nD low), .un, .un, .un, .un, .un, .un]
          unfold orRow
          rw [if_neg z2]
      · exact hr_nil _ (.same (.same (.same (.un (.same (.same (.same (.same (.same (.same .nil)))))))))) rfl
    · refine hr_frz 2 (o := .L ((abvF n ps).map nD)) rfl ?_
      have hA : (abvF n ps).length = n := abv_len ps
      generalize eA : abvF n ps = A at hA
      refine hr_own 5 (o := .L []) sc59.nd (o_lst a_nil (Nat.le_of_ble_eq_true rfl)) ?_
      refine hr_fold nD (List.range n) (fun (ts : List Pr) => [.pu (nD n), .pu (.lst (ps.map prD)), .pu (rowD A), .un, .un, .ow (.one (.L (ts.map prD))), .un, .un, .un, .un]) (netStep n A) [] (fun pre ts => ts.length ≤ pre.length * 60) PassesOwn.never rfl (it_rN T (x_nm 0)) (Wk.refl _) (Nat.zero_le _) (fun pre low post ts e hts => ?_) (fun hts => ?_)
      · obtain ⟨r1, r2, r3⟩ := range_pre e
        have hov := ovr_len n A low
        have hrow : (netRow n A low).length ≤ 60 := by
          unfold netRow
          rw [List.length_map]
          have := List.length_filter_le (cvrB A (ovrF n A low)) (ovrF n A low)
          omega
        have hpre : pre.length < 60 := by omega
        refine ⟨by unfold netStep; rw [List.length_append, List.length_append]; show _ ≤ (pre.length + 1) * 60; omega, _, [3], tg_fn 3 sc59.nd, ?_⟩
        refine hr_lc 7 [("_law_own", 6)] (fun k => nD (low + 1 + k)) (List.range (n - (low + 1))) (fun k => (A.getD low 0).testBit (low + 1 + k)) (fun k => nD (low + 1 + k)) rfl sc59.nd (it_r2N T (low + 1) (n - (low + 1)) (x_op (x_nm 3).rd (x_int (i := ((1 : Nat) : Int))).rd d_add) (x_nm 0) (by omega) (by omega)) (by rfl) (by rw [List.length_range]; omega) (by rfl) (fun x hx => ⟨_, fun s H0 C cl fp => tg_fn 6 sc59.nd, .one fun s H0 C cl fp => t_bit1 (x_ixL (d := nD (A.getD low 0)) (x_nm 2).rd (x_nm 3) (getD_atI (by omega))) (x_nm 6), fun _ s H0 C cl fp => x_nm 6⟩) ?_
        rw [show ((List.range (n - (low + 1))).filter fun k => (A.getD low 0).testBit (low + 1 + k)).map (fun k => nD (low + 1 + k)) = (ovrF n A low).map nD by unfold ovrF; rw [List.map_map]; rfl]
        refine hr_frz 7 (o := .L ((ovrF n A low).map nD)) rfl ?_
        have hmem : ∀ i ∈ ovrF n A low, low < i ∧ i < n := fun i hi => by
          have := mem_ovr.mp hi
          omega
        generalize eO : ovrF n A low = ov at hov hmem
        refine hr_fold nD ov (fun (ts : List Pr) => [.pu (nD n), .pu (.lst (ps.map prD)), .pu (rowD A), .pu (nD low), .un, .ow (.one (.L (ts.map prD))), .un, .pu (rowD ov), .un, .un]) (fun ts o => if cvrB A ov o = true then ts ++ [(low, o)] else ts) ts (fun pre2 ts2 => ts2.length ≤ ts.length + pre2.length) PassesOwn.never rfl (it_list (x_nm 7)) (Wk.refl _) (Nat.le_refl _) (fun pre2 o post2 ts2 e2 hts2 => ?_) (fun hts2 => ?_)
        · have ho := hmem o (by rw [e2]; simp)
          have hpl : pre2.length ≤ 60 := by
            have := congrArg List.length e2
            rw [List.length_append] at this
            omega
          refine ⟨by split <;> (simp only [List.length_append, List.length_cons, List.length_nil]; omega), _, [6], tg_fn 6 sc59.nd, ?_⟩
          refine hr_if (k := cvrB A ov o) (M := fun Γ' => Γ' = [.pu (nD n), .pu (.lst (ps.map prD)), .pu (rowD A), .pu (nD low), .un, .ow (.one (.L ((if cvrB A ov o = true then ts2 ++ [(low, o)] else ts2).map prD))), .un, .pu (rowD ov), .un, .un]) ?_ (fun z => ?_) (fun z => ?_) (fun Γ' z => hr_nil Γ' (Wk.refl _) z)
          · refine t_cmp (d1 := .lst ((ov.filter fun i => !decide (i = o) && (A.getD i 0).testBit o).map nD)) (d2 := .lst []) (rl (o_lc [("_law_its", 9)] nD ov (fun i => !decide (i = o) && (A.getD i 0).testBit o) nD rfl sc59.nd (it_list (x_nm 7)) (by rfl) (by omega) fun i hi => ⟨_, fun s H0 C cl fp => tg_fn 9 sc59.nd, .one fun s H0 C cl fp => ?_, fun _ s H0 C cl fp => x_nm 9⟩)) (rl (o_lst a_nil (Nat.le_of_ble_eq_true rfl))) (d_eqE hr.u64)
            have hi2 := hmem i hi
            exact EvW.t (w_and (t_cmp (x_nm 9).rd (x_nm 6).rd d_neN) fun _ => w_and1 (t_bit1 (x_ixL (d := nD (A.getD i 0)) (x_nm 2).rd (x_nm 9) (getD_atI (by omega))) (x_nm 6)))
          · refine hr_app 5 (xs := ts2.map prD) (d := prD (low, o)) (x_pr (x_nm 3) (x_nm 6)) (hr_nil _ (.same (.same (.same (.same (.same (.same (.un (.same (.same (.same .nil)))))))))) ?_) (by rw [List.length_map]; omega)
            show _ = [Slot.pu (nD n), .pu (.lst (ps.map prD)), .pu (rowD A), .pu (nD low), .un, .ow (.one (.L ((if cvrB A ov o = true then ts2 ++ [(low, o)] else ts2).map prD))), .un, .pu (rowD ov), .un, .un]
            rw [if_pos z, List.map_append]
            rfl
          · refine hr_nil _ (.same (.same (.same (.same (.same (.same (.un (.same (.same (.same .nil)))))))))) ?_
            show _ = [Slot.pu (nD n), .pu (.lst (ps.map prD)), .pu (rowD A), .pu (nD low), .un, .ow (.one (.L ((if cvrB A ov o = true then ts2 ++ [(low, o)] else ts2).map prD))), .un, .pu (rowD ov), .un, .un]
            rw [if_neg (by rw [z]; exact Bool.false_ne_true)]
        · refine hr_nil _ (.same (.same (.same (.un (.same (.same (.same (.un (.same (.same .nil)))))))))) ?_
          show _ = [Slot.pu (nD n), .pu (.lst (ps.map prD)), .pu (rowD A), .un, .un, .ow (.one (.L ((netStep n A ts low).map prD))), .un, .un, .un, .un]
          rw [fold_flt]
          unfold netStep netRow
          rw [eO]
      · have eN : (List.range n).foldl (netStep n A) [] = netT n ps := by
          rw [← eA]
          rfl
        rw [eN]
        refine hr_ret (d := ordD n (netT n ps)) (x_tup (ds := [nD n, tsD (netT n ps)]) (a_cons (x_nm 0) (a_cons (x_tupleL T (x_owL 5)) a_nil)) (by show 2 ≤ 100000; omega)) ?_
        rfl
end
end G
-- La7
set_option maxHeartbeats 4000000
/-! La7: _law_aside, _law_heap, _law_loose_net, _law_order. -/
namespace G
open PySem PySem.Spec PyProof.Rows L2
def overT (a b : Nat) : List Pr := (List.range a).flatMap fun low => (List.range b).map fun k => (low, a + k)
theorem mem_over {a b : Nat} {p : Pr} : p ∈ overT a b ↔ p.1 < a ∧ a ≤ p.2 ∧ p.2 < a + b := by
  unfold overT
  rw [List.mem_flatMap]
  constructor
  · rintro ⟨low, hl, hm⟩
    obtain ⟨k, hk, rfl⟩ := List.mem_map.mp hm
    rw [List.mem_range] at hl hk
    show low < a ∧ a ≤ a + k ∧ a + k < a + b
    omega
  · rintro ⟨h1, h2, h3⟩
    refine ⟨p.1, List.mem_range.mpr h1, List.mem_map.mpr ⟨p.2 - a, List.mem_range.mpr (by omega), ?_⟩⟩
    exact Prod.ext rfl (by show a + (p.2 - a) = p.2; omega)
def ovStep (a b : Nat) (acc : List Pr) (low : Nat) : List Pr := acc ++ (List.range b).map fun k => (low, a + k)
section
variable {P : Program} {w : World} {K : PySem.W.Frag} {mg : Str → Option Value} {base : Heap}
def R_aside : List D → D → Prop := fun ds d => ∃ (n1 n2 : Nat) (t1 t2 : List Pr), t1.length + t2.length ≤ 100000 ∧ ds = [ordD n1 t1, ordD n2 t2] ∧ d = ordD (n1 + n2) (t1 ++ shT n1 t2)
theorem sc65 : FnScope ["_law_near", "_law_far", "_law_own"] ["_law_near", "_law_far"] (defScope (topS 65)) := ⟨rfl, rfl, rfl, by decide +kernel, rfl, by decide +kernel, by decide +kernel⟩
theorem ok_aside (T : Bn mg) (D0 : Df K mg "_law_aside" (topS 65) ["_law_near", "_law_far"]) : Cal P w K mg base 1 "_law_aside" (spF R_aside) :=
  mk_cal D0 sc65 (by decide) (fun ds d ⟨_, _, _, _, _, h, _⟩ => by rw [h]; rfl) fun f cdv A outer s H E hr ds d ⟨n1, n2, t1, t2, hl, h1, h2⟩ => by
    subst h1 h2
    refine hr_ret (d := ordD (n1 + n2) (t1 ++ shT n1 t2)) ?_ rfl
    refine x_tup (ds := [nD (n1 + n2), tsD (t1 ++ shT n1 t2)]) ?_ (by show 2 ≤ 100000; omega)
    refine a_cons (d := nD (n1 + n2)) (ds := [tsD (t1 ++ shT n1 t2)]) ?_ ?_ rfl
    · exact x_op (x_ixT (d := nD n1) (x_nm 0).rd x_int rfl).rd (x_ixT (d := nD n2) (x_nm 1).rd x_int rfl).rd d_addN
    · refine a_cons (d := tsD (t1 ++ shT n1 t2)) (ds := []) ?_ a_nil rfl
      refine x_op (d1 := tsD t1) (d2 := tsD (shT n1 t2)) (x_ixT (d := tsD t1) (x_nm 0).rd x_int rfl).rd ?_ ?_
      · refine rx (x_tupleL T (rl (xt2 (o_lc [("_law_own", 2)] prD t2 (fun _ => true) (fun p => prD (p.1 + n1, p.2 + n1)) rfl sc65.nd (it_tup (x_ixT (d := tsD t2) (x_nm 1).rd x_int rfl)) (by rfl) (by omega) fun p hp => ⟨_, fun s H0 C cl fp => tg_fn 2 sc65.nd, .nil, fun _ s H0 C cl fp => ?_⟩) ?_)))
        · refine x_pr ?_ ?_
          · exact x_op (x_ixT (d := nD p.1) (x_nm 2 (d := prD p)).rd x_int rfl).rd (x_ixT (d := nD n1) (x_nm 0).rd x_int rfl).rd d_addN
          · exact x_op (x_ixT (d := nD p.2) (x_nm 2 (d := prD p)).rd x_int rfl).rd (x_ixT (d := nD n1) (x_nm 0).rd x_int rfl).rd d_addN
        · rw [filt_true]
          unfold shT
          rw [List.map_map]
          rfl
      · refine (d_catT (X := _) (ds := t1.map prD) (es' := (shT n1 t2).map prD) (by rw [List.length_map, List.length_map]; unfold shT; rw [List.length_map]; omega)).to ?_
        unfold tsD
        rw [List.map_append]
/-- two nets, drawn -/
def R_heap : List D → D → Prop := fun ds d => ∃ (n1 n2 : Nat) (t1 t2 : List Pr), NF n1 t1 ∧ NF n2 t2 ∧ n1 + n2 ≤ 60 ∧ ds = [ordD n1 t1, ordD n2 t2] ∧ d = ordD (n1 + n2) (netT (n1 + n2) (t1 ++ shT n1 t2 ++ overT n1 n2))
theorem over_len (a b : Nat) : ∀ l : List Nat, (l.flatMap fun low => (List.range b).map fun k => (low, a + k)).length = l.length * b
  | [] => by simp
  | x :: l => by
    rw [List.flatMap_cons, List.length_append, over_len a b l, List.length_map, List.length_range, List.length_cons, Nat.succ_mul]
    omega
theorem sc66 : FnScope ["_law_near", "_law_far", "_law_whole_so", "_law_over_so", "_law_low_so", "_law_k"] ["_law_near", "_law_far"] (defScope (topS 66)) := ⟨rfl, rfl, rfl, by decide +kernel, rfl, by decide +kernel, by decide +kernel⟩
theorem ok_heap (T : Bn mg) (D0 : Df K mg "_law_heap" (topS 66) ["_law_near", "_law_far"]) (c1 : Cal P w K mg base 1 "_law_aside" (spF R_aside)) (c2 : Cal P w K mg base 1 "_law_net" (spF R_net)) : Cal P w K mg base 2 "_law_heap" (spF R_heap) :=
  mk_cal D0 sc66 (by decide) (fun ds d ⟨_, _, _, _, _, _, _, h, _⟩ => by rw [h]; rfl) fun f cdv A outer s H E hr ds d ⟨n1, n2, t1, t2, N1, N2, hn, h1, h2⟩ => by
    subst h1 h2
    have f1 := asc_few N1.n60 N1.prs N1.asc
    have f2 := asc_few N2.n60 N2.prs N2.asc
    refine hr_asg 2 sc66.nd (d := ordD (n1 + n2) (t1 ++ shT n1 t2)) (x_call c1 hr (by decide) (a_cons (x_nm 0) (a_cons (x_nm 1) a_nil)) ⟨n1, n2, t1, t2, by omega, rfl, rfl⟩) ?_
    refine hr_own 3 (o := .L []) sc66.nd (o_lst a_nil (Nat.le_of_ble_eq_true rfl)) ?_
    refine hr_frz 3 (o := .L []) rfl ?_
    refine hr_fold nD (List.range n1) (fun (g : List Pr) => [.pu (ordD n1 t1), .pu (ordD n2 t2), .pu (ordD (n1 + n2) (t1 ++ shT n1 t2)), .pu (.lst (g.map prD)), .un, .un]) (ovStep n1 n2) [] (fun pre g => g.length = pre.length * n2) PassesOwn.never rfl (it_rN T (x_ixT (d := nD n1) (x_nm 0).rd x_int rfl)) (Wk.refl _) (by simp) (fun pre low post g e hg => ?_) (fun hg => ?_)
    · obtain ⟨r1, r2, r3⟩ := range_pre e
      have hgl : g.length ≤ 3600 := by
        rw [hg]
        exact Nat.le_trans (Nat.mul_le_mul (show pre.length ≤ 60 by omega) (show n2 ≤ 60 by omega)) (by decide)
      refine ⟨by unfold ovStep; rw [List.length_append, List.length_map, List.length_range, List.length_append, hg]; show _ = (pre.length + 1) * n2; rw [Nat.succ_mul], _, [4], tg_fn 4 sc66.nd, ?_⟩
      refine hr_own 3 (o := .L ((ovStep n1 n2 g low).map prD)) sc66.nd (xt2 (o_op (x_nm 3).rd (rl (o_lc [("_law_k", 5)] nD (List.range n2) (fun _ => true) (fun k => prD (low, n1 + k)) rfl sc66.nd (it_rN T (x_ixT (d := nD n2) (x_nm 1).rd x_int rfl)) (by rfl) (by rw [List.length_range]; omega) fun k hk => ⟨_, fun s H0 C cl fp => tg_fn 5 sc66.nd, .nil, fun _ s H0 C cl fp => x_pr (x_nm 4) (x_op (x_ixT (d := nD n1) (x_nm 0).rd x_int rfl).rd (x_nm 5).rd d_addN)⟩)) (o_cat (by rw [List.length_map, List.length_map, filt_true, List.length_range]; omega))) ?_) ?_
      · unfold ovStep
        rw [filt_true, List.map_append, List.map_map]
        rfl
      · refine hr_frz 3 rfl ?_
        exact hr_nil _ (.same (.same (.same (.same (.un (.same .nil)))))) rfl
    · have eo : (List.range n1).foldl (ovStep n1 n2) [] = overT n1 n2 := (fold_app (fun low => (List.range n2).map fun k => (low, n1 + k)) _ _).trans (List.nil_append _)
      rw [eo] at hg ⊢
      rw [List.length_range] at hg
      have hol : (overT n1 n2).length ≤ 3600 := by
        rw [hg]
        exact Nat.le_trans (Nat.mul_le_mul (show n1 ≤ 60 by omega) (show n2 ≤ 60 by omega)) (by decide)
      have hsl : (shT n1 t2).length = t2.length := by
        unfold shT
        rw [List.length_map]
      refine hr_ret (x_call c2 hr (by decide) (a_cons (x_ixT (d := nD (n1 + n2)) (x_nm 2).rd x_int rfl) (a_cons (ds := []) (d := .lst ((t1 ++ shT n1 t2 ++ overT n1 n2).map prD)) (xl (xt2 (o_op (rl (o_listT T (x_ixT (d := tsD (t1 ++ shT n1 t2)) (x_nm 2).rd x_int rfl).rd)) (x_nm 3).rd (o_cat ?_)) ?_)) a_nil)) ⟨n1 + n2, t1 ++ shT n1 t2 ++ overT n1 n2, hn, ?_, ?_, rfl, rfl⟩) rfl
      · rw [List.length_map, List.length_map, List.length_append]
        omega
      · simp only [List.map_append]
      · intro p hp
        rcases List.mem_append.mp hp with z | z
        · exact (nf_aside N1 N2 hn).prs p z
        · have := mem_over.mp z
          omega
      · rw [List.length_append, List.length_append]
        omega
end
end G
-- La8
set_option maxHeartbeats 4000000
/-! La8: _law_loose_net, _law_order. -/
namespace G
open PySem PySem.Spec PyProof.Rows L2
section
variable {P : Program} {w : World} {K : PySem.W.Frag} {mg : Str → Option Value} {base : Heap}
/-- a drawn net of n pieces -/
def NetPre (top : Nat) : List D → Nat → Prop := fun ds κ => ∃ m : Nat, ds = [nD m] ∧ 1 ≤ m ∧ m ≤ top ∧ κ ≤ 50000
def LooseR : List D → Nat → D → Nat → Prop := fun ds κ d κ' => ∀ m : Nat, ds = [nD m] → ∃ ts, NF m ts ∧ d = ordD m ts ∧ κ' ≤ κ + 101
def PrsB (m : Nat) (qs : List Pr) : Prop := ∀ p ∈ qs, p.1 < p.2 ∧ p.2 < m
theorem sc68 : FnScope ["_law_tin", "_law_many_so", "_law_chance_so", "_law_pairs_so", "_law_high_so", "_law_low_so"] ["_law_tin", "_law_many_so"] (defScope (topS 68)) := ⟨rfl, rfl, rfl, by decide +kernel, rfl, by decide +kernel, by decide +kernel⟩
theorem ok_loose (T : Bn mg) (D0 : Df K mg "_law_loose_net" (topS 68) ["_law_tin", "_law_many_so"]) (c1 : Cal P w K mg base 1 "_law_take" (spT TkPre TkR)) (c2 : Cal P w K mg base 1 "_law_net" (spF R_net)) : Cal P w K mg base 2 "_law_loose_net" (spT (NetPre 10) LooseR) :=
  mk_calT D0 sc68 (by decide) (fun ds κ ⟨m, h, _⟩ => by rw [h]; rfl) fun f cdv A outer s H E hr ds κ ⟨m, h1, hm1, hm, hk⟩ => by
    subst h1
    refine hr_asgTG (Rs := fun ds κ' => ∃ c : Nat, ds = [nD (2 + c), .lst []] ∧ c < 4 ∧ κ' ≤ κ + 1) rfl (ag_consX (R1 := fun d κ' => ∃ c : Nat, d = nD (2 + c) ∧ c < 4 ∧ κ' ≤ κ + 1) (g_opR x_int (g_callT 0 c1 hr (by decide) (a_cons (x_int (i := ((4 : Nat) : Int))) a_nil) ⟨4, rfl, by decide, by decide, by omega⟩ (fun d κ' h => h 4 rfl)) fun d2 κ' ⟨c, hc, e, hk'⟩ => ⟨nD (2 + c), by rw [e]; exact d_addN (m := 2), c, rfl, hc, hk'⟩) fun d κ' ⟨c, e, hc, hk'⟩ => ⟨[.lst []], a_cons (EvO.ev (o_lst a_nil (Nat.le_of_ble_eq_true rfl))) a_nil, c, by rw [e], hc, hk'⟩) fun ds κ1 ⟨c, e, hc, hk1⟩ => ?_
    subst e
    refine ⟨rfl, _, tk_cons 2 sc68.nd (tk_cons 3 sc68.nd tk_nil), ?_⟩
    refine hr_for (fun j Γ' => ∃ (qs : List Pr) (κ' : Nat), PrsB m qs ∧ qs.length ≤ j * 10 ∧ κ' ≤ κ1 + j * 10 ∧ Γ' = [.vol (Tin κ'), .pu (nD m), .pu (nD (2 + c)), .pu (.lst (qs.map prD)), .un, .un]) (fun _ => False) PassesOwn.never rfl (it_rN T (x_nm 1)) _ (Wk.refl _) ⟨[], κ1, (fun _ h => nomatch h), Nat.zero_le _, Nat.le_refl _, rfl⟩ (fun j d Γi hi hI => ?_) (fun Γ' hI => ?_) (fun _ z => z.elim)
    · obtain ⟨qs, κ', g1, g2, g3, rfl⟩ := hI
      have hj := (List.getElem?_eq_some_iff.mp hi).1
      rw [List.length_map, List.length_range] at hj
      have ed : d = nD j := by
        rw [List.getElem?_map, List.getElem?_range hj] at hi
        exact (Option.some.inj hi).symm
      subst ed
      refine ⟨_, [4], tg_fn 4 sc68.nd, ?_⟩
      refine hr_asgG 3 sc68.nd (R := fun d κ2 => ∃ qs2 : List Pr, d = .lst (qs2.map prD) ∧ PrsB m qs2 ∧ qs2.length ≤ (j + 1) * 10 ∧ κ2 ≤ κ1 + (j + 1) * 10) (g_cat (R1 := fun _ _ => True) (x_nm 3) (g_lc (κ := κ') [("_law_low_so", 5)] nD (List.range j) (fun i acc κ2 => ∃ rs : List Pr, acc = rs.map prD ∧ PrsB m rs ∧ rs.length ≤ i ∧ κ2 ≤ κ' + i) rfl sc68.nd (it_rN T (x_nm 4)) (by rfl) (by rw [List.length_range]; omega) (i0 := 0) rfl ⟨[], rfl, (fun _ h => nomatch h), Nat.le_refl _, Nat.le_refl _⟩ (fun i acc κ2 ⟨rs, e, _, h, _⟩ => by rw [e, List.length_map]; exact h) (fun i x acc κ2 hx ⟨rs, e, r1, r2, r3⟩ => ?_) fun acc κ2 ⟨rs, e, r1, r2, r3⟩ => ?_)) fun d κ2 ⟨qs2, e, q1, q2, q3⟩ => ?_
      · have hij := (List.getElem?_eq_some_iff.mp hx).1
        rw [List.length_range] at hij
        have ex : x = i := by
          rw [List.getElem?_range hij] at hx
          exact (Option.some.inj hx).symm
        subst ex e
        refine ⟨_, fun s H0 C cl fp => tg_fn 5 sc68.nd, fun s H0 C cl fp => ?_⟩
        refine tg_cmp (R1 := fun d κ3 => (∃ v : Nat, d = nD v) ∧ κ3 ≤ κ2 + 1) (g_callT (κ := κ2) 0 c1 hr (by decide) (a_cons (x_nm 2) a_nil) ⟨2 + c, rfl, by omega, by omega, by omega⟩ (fun d κ3 h => by
          obtain ⟨v, _, e, hk3⟩ := h _ rfl
          exact ⟨⟨v, e⟩, hk3⟩)) fun d κ3 ⟨⟨v, e⟩, hk3⟩ => ⟨nD 0, decide (v = 0), x_int, by rw [e]; exact d_eqN, ?_⟩
        split
        · intro s H0 C cl fp
          refine EvX.gR (d := prD (x, j)) (κ := κ3) (i := 0) rfl (x_pr (x_nm 5) (x_nm 4)) ⟨rs ++ [(x, j)], by rw [List.map_append]; rfl, fun p hp => ?_, by rw [List.length_append, List.length_singleton]; omega, by omega⟩
          rcases List.mem_append.mp hp with z | z
          · exact r1 p z
          · rw [List.mem_singleton.mp z]
            exact ⟨hij, hj⟩
        · exact ⟨rs, rfl, r1, by omega, by omega⟩
      · subst e
        rw [List.length_range] at r2 r3
        refine ⟨_, rfl, by rw [List.length_map, List.length_map]; omega, qs ++ rs, by rw [List.map_append], fun p hp => ?_, by rw [List.length_append]; omega, by omega⟩
        rcases List.mem_append.mp hp with z | z
        · exact g1 p z
        · exact r1 p z
      · subst e
        exact hr_nil _ (.same (.same (.same (.same (.un (.same .nil)))))) ⟨qs2, κ2, q1, q2, q3, rfl⟩
    · obtain ⟨qs, κ', g1, g2, g3, rfl⟩ := hI
      rw [List.length_map, List.length_range] at g2 g3
      refine hr_ret (d := ordD m (netT m qs)) (x_call c2 hr (by decide) (a_cons (x_nm 1) (a_cons (x_nm 3) a_nil)) ⟨m, qs, by omega, g1, by omega, rfl, rfl⟩) ⟨κ', rfl, fun m' e => ?_⟩
      have em : m = m' := nD_inj (List.cons.inj e).1
      subst em
      exact ⟨netT m qs, net_nf (by omega) g1, rfl, by omega⟩
end
end G
-- La9
set_option maxHeartbeats 4000000
/-! La9: _law_order, _law_some_start. -/
namespace G
open PySem PySem.Spec PyProof.Rows L2
section
variable {P : Program} {w : World} {K : PySem.W.Frag} {mg : Str → Option Value} {base : Heap}
/-- a drawn order of at most m pieces -/
def DrawnO (m : Nat) (d : D) : Prop := ∃ (n : Nat) (ts : List Pr), NF n ts ∧ 1 ≤ n ∧ n ≤ m ∧ d = ordD n ts
def OrdPre : List D → Nat → Prop := fun ds κ => ∃ m : Nat, ds = [nD m] ∧ 4 ≤ m ∧ m ≤ 10 ∧ κ ≤ 40000
def OrdR : List D → Nat → D → Nat → Prop := fun ds κ d κ' => ∀ m : Nat, ds = [nD m] → DrawnO m d ∧ κ' ≤ κ + 400
theorem sc67 : FnScope ["_law_tin", "_law_most_so", "_law_many_so", "_law_kind_so", "_law_cut_so", "_law_near", "_law_far", "_law_more_so", "_law_k"] ["_law_tin", "_law_most_so"] (defScope (topS 67)) := ⟨rfl, rfl, rfl, by decide +kernel, rfl, by decide +kernel, by decide +kernel⟩
theorem ord_fin {m n κ κ' : Nat} {ts : List Pr} (N : NF n ts) (h1 : 1 ≤ n) (h2 : n ≤ m) (h3 : κ' ≤ κ + 400) : OrdR [nD m] κ (ordD n ts) κ' := fun m' e => by
  have em : m = m' := nD_inj (List.cons.inj e).1
  subst em
  exact ⟨⟨n, ts, N, h1, h2, rfl⟩, h3⟩
theorem inN2 {X : Cx} {k : Nat} : OpD X (compareOp .In) (nD k) (.tup [nD 1, nD 2]) (.bl (decide (k = 1) || decide (k = 2))) := by
  refine (d_inN (i := k) (ns := [1, 2])).to ?_
  congr 1
  simp
theorem prs_bn {n : Nat} {rs : List Pr} {k v : Nat} (h : PrsB n rs) (h1 : v < k) (h2 : k < n) : PrsB n (rs ++ [(v, k)]) := fun p hp => by
  rcases List.mem_append.mp hp with z | z
  · exact h p z
  · rw [List.mem_singleton.mp z]
    exact ⟨h1, h2⟩
theorem ok_order (T : Bn mg) (D0 : Df K mg "_law_order" (topS 67) ["_law_tin", "_law_most_so"]) (c1 : Cal P w K mg base 1 "_law_take" (spT TkPre TkR)) (c2 : Cal P w K mg base 1 "_law_net" (spF R_net)) (c3 : Cal P w K mg base 2 "_law_loose_net" (spT (NetPre 10) LooseR)) (c4 : Cal P w K mg base 1 "_law_aside" (spF R_aside)) (c5 : Cal P w K mg base 2 "_law_heap" (spF R_heap)) : Cal P w K mg base 3 "_law_order" (spT OrdPre OrdR) :=
  mk_calT D0 sc67 (by decide) (fun ds κ ⟨m, h, _⟩ => by rw [h]; rfl) fun f cdv A outer s H E hr ds κ ⟨m, h1, hm1, hm, hk⟩ => by
    subst h1
    refine hr_parG 2 3 (Rs := fun ds κ' => ∃ c k : Nat, ds = [nD (1 + c), nD k] ∧ c < m ∧ k < 8 ∧ κ' ≤ κ + 2) rfl sc67.nd (ag_cons (R1 := fun d κ' => ∃ c : Nat, d = nD (1 + c) ∧ c < m ∧ κ' ≤ κ + 1) (g_opR x_int (g_callT 0 c1 hr (by decide) (a_cons (x_nm 1) a_nil) ⟨m, rfl, by omega, by omega, by omega⟩ (fun d κ' h => h m rfl)) fun d2 κ' ⟨c, hc, e, hk'⟩ => ⟨nD (1 + c), by rw [e]; exact d_addN (m := 1), c, rfl, hc, hk'⟩) fun d κ' ⟨c, e, hc, hk'⟩ => ag_cons (R1 := fun d κ2 => ∃ k : Nat, d = nD k ∧ k < 8 ∧ κ2 ≤ κ' + 1) (g_callT (κ := κ') 0 c1 hr (by decide) (a_cons (x_int (i := ((8 : Nat) : Int))) a_nil) ⟨8, rfl, by decide, by decide, by omega⟩ (fun d κ' h => by
        obtain ⟨k, h1, h2, h3⟩ := h 8 rfl
        exact ⟨k, h2, h1, h3⟩)) fun d2 κ2 ⟨k, e2, h8, hk2⟩ => ag_nil (κ := κ2) (i := 0) rfl ⟨c, k, by rw [e, e2], hc, h8, by omega⟩) fun ds κ1 ⟨c, kd, e, hc, hkd, hk1⟩ => ⟨_, _, e, ?_⟩
    refine hr_ifG (M := fun Γ' => ∃ n κ2 : Nat, 1 ≤ n ∧ n ≤ m ∧ κ2 ≤ κ + 4 ∧ Γ' = [.vol (Tin κ2), .pu (nD m), .pu (nD n), .pu (nD kd), .un, .un, .un, .un, .un]) (Rb := fun _ κ2 => κ2 ≤ κ + 3) (EvWG.t (wg_and (κ := κ1) (i := 0) (k := decide (1 + c < m)) rfl (t_cmp (x_nm 2).rd (x_nm 1).rd d_ltN) (fun _ => by omega) fun _ => wg_and1 (tg_cmp (R1 := fun d κ2 => (∃ v : Nat, d = nD v) ∧ κ2 ≤ κ1 + 1) (g_callT (κ := κ1) 0 c1 hr (by decide) (a_cons (x_int (i := ((3 : Nat) : Int))) a_nil) ⟨3, rfl, by decide, by decide, by omega⟩ (fun d κ3 h => by
        obtain ⟨v, _, e, hk3⟩ := h 3 rfl
        exact ⟨⟨v, e⟩, hk3⟩)) fun d κ3 ⟨⟨v, e⟩, hk3⟩ => ⟨nD 0, decide (0 < v), x_int, by rw [e]; exact d_gtN, by omega⟩))) (fun κ2 hk2 => ?_) (fun κ2 hk2 => ?_) (fun Γ' hΓ => ?_)
    · refine hr_asgG 2 sc67.nd (R := fun d κ3 => ∃ v : Nat, d = nD (m - v) ∧ v < 2 ∧ κ3 ≤ κ2 + 1) (g_opR (x_nm 1) (g_callT (κ := κ2) 0 c1 hr (by decide) (a_cons (x_int (i := ((2 : Nat) : Int))) a_nil) ⟨2, rfl, by decide, by decide, by omega⟩ (fun d κ' h => h 2 rfl)) fun d2 κ' ⟨v, hv, e, hk'⟩ => ⟨nD (m - v), by
        rw [e]
        exact d_sub.to (by show D.int ((m : Int) - (v : Int)) = D.int ((m - v : Nat) : Int); rw [Int.ofNat_sub (by omega)]), v, rfl, hv, hk'⟩) fun d κ3 ⟨v, e, hv, hk3⟩ => ?_
      subst e
      exact hr_nil _ (Wk.refl _) ⟨m - v, κ3, by omega, by omega, by omega, rfl⟩
    · exact hr_nil _ (Wk.refl _) ⟨1 + c, κ2, by omega, by omega, by omega, rfl⟩
    · obtain ⟨n, κ2, hn1, hn, hk2, rfl⟩ := hΓ
      -- a tree
      refine hr_iflv (k := decide (kd = 0)) (t_cmp (x_nm 3).rd (x_int (i := ((0 : Nat) : Int))).rd d_eqN) (fun _ => ?_) (fun _ => ?_)
      · refine hr_retG (R := OrdR [nD m] κ) (g_call c2 hr (by decide) (ag_cons (R1 := fun d κ3 => d = nD n ∧ κ3 = κ2) (EvX.g (i := 0) rfl (x_nm 2)) fun d κ3 ⟨e, e3⟩ => ag_cons (R1 := fun d κ4 => ∃ rs : List Pr, d = .lst (rs.map prD) ∧ PrsB n rs ∧ rs.length ≤ 20 ∧ κ4 ≤ κ2 + 10) ?_ fun d4 κ4 ⟨rs, e4, r1, r2, r3⟩ => ag_nil (κ := κ4) (i := 0) rfl ⟨ordD n (netT n rs), ⟨n, rs, by omega, r1, by omega, by rw [e, e4], rfl⟩, ord_fin (net_nf (by omega) r1) hn1 hn (by omega)⟩)) fun d κ3 h => ⟨κ3, rfl, h⟩
        subst e3
        refine g_lc (κ := κ3) [("_law_k", 8)] (fun k => nD (1 + k)) (List.range (n - 1)) (fun i acc κ4 => ∃ rs : List Pr, acc = rs.map prD ∧ PrsB n rs ∧ rs.length ≤ i ∧ κ4 ≤ κ3 + i) rfl sc67.nd (it_r2N T 1 (n - 1) x_int (x_nm 2) rfl (by omega) (by omega)) (by rfl) (by rw [List.length_range]; omega) (i0 := 0) rfl ⟨[], rfl, (fun _ h => nomatch h), Nat.le_refl _, Nat.le_refl _⟩ (fun i acc κ2 ⟨rs, e, _, h, _⟩ => by rw [e, List.length_map]; exact h) (fun i x acc κ4 hx ⟨rs, e, r1, r2, r3⟩ => ?_) fun acc κ4 ⟨rs, e, r1, r2, r3⟩ => ⟨rs, by rw [e], r1, by rw [List.length_range] at r2; omega, by rw [List.length_range] at r3; omega⟩
        have hij := (List.getElem?_eq_some_iff.mp hx).1
        rw [List.length_range] at hij
        have ex : x = i := by
          rw [List.getElem?_range hij] at hx
          exact (Option.some.inj hx).symm
        subst ex e
        refine ⟨_, fun s H0 C cl fp => tg_fn 8 sc67.nd, fun s H0 C cl fp => ?_⟩
        refine g_tup (ag_consX (R1 := fun d κ5 => ∃ v : Nat, d = nD v ∧ v < 1 + x ∧ κ5 ≤ κ4 + 1) (g_callT (κ := κ4) 0 c1 hr (by decide) (a_cons (x_nm 8) a_nil) ⟨1 + x, rfl, by omega, by omega, by omega⟩ (fun d κ5 h => by
          obtain ⟨v, h1, h2, h3⟩ := h _ rfl
          exact ⟨v, h2, h1, h3⟩)) fun d κ5 ⟨v, e, hv, hk5⟩ => ⟨[nD (1 + x)], a_cons (x_nm 8) a_nil, ?_, rs ++ [(v, 1 + x)], ?_, prs_bn r1 hv (by omega), ?_, ?_⟩)
        · show 2 ≤ 100000
          omega
        · rw [e, List.map_append]
          rfl
        · rw [List.length_append, List.length_singleton]
          omega
        · omega
      -- two
      · refine hr_iflv (k := (decide (kd = 1) || decide (kd = 2)) && decide (3 < n)) (EvW.t (w_and (t_cmp (x_nm 3).rd (rx (x_tup (ds := [nD 1, nD 2]) (a_cons x_int (a_cons x_int a_nil)) (by show 2 ≤ 100000; omega))) inN2) fun _ => w_and1 (t_cmp (x_nm 2).rd (x_int (i := ((3 : Nat) : Int))).rd d_gtN))) (fun hz => ?_) (fun _ => ?_)
        · rw [Bool.and_eq_true, Bool.or_eq_true] at hz
          have hn3 := of_decide_eq_true hz.2
          refine hr_asgG 4 sc67.nd (R := fun d κ3 => ∃ v : Nat, d = nD (2 + v) ∧ v < n - 3 ∧ κ3 ≤ κ2 + 1) (g_opR x_int (g_callT (κ := κ2) 0 c1 hr (by decide) (a_cons (x_op (x_nm 2).rd (x_int (i := ((3 : Nat) : Int))).rd (d_sub.to (by show D.int ((n : Int) - 3) = D.int ((n - 3 : Nat) : Int); congr 1; omega))) a_nil) ⟨n - 3, rfl, by omega, by omega, by omega⟩ (fun d κ' h => h _ rfl)) fun d2 κ' ⟨v, hv, e, hk'⟩ => ⟨nD (2 + v), by rw [e]; exact d_addN (m := 2), v, rfl, hv, hk'⟩) fun d κ3 ⟨v, e, hv, hk3⟩ => ?_
          subst e
          generalize ecut : 2 + v = cut at hv
          have hcut : 2 ≤ cut ∧ cut + 2 ≤ n := by omega
          clear ecut
          refine hr_parG 5 6 (Rs := fun ds κ5 => ∃ t1 t2 : List Pr, ds = [ordD cut t1, ordD (n - cut) t2] ∧ NF cut t1 ∧ NF (n - cut) t2 ∧ κ5 ≤ κ3 + 202) rfl sc67.nd (ag_cons (R1 := fun d κ4 => ∃ t1 : List Pr, d = ordD cut t1 ∧ NF cut t1 ∧ κ4 ≤ κ3 + 101) (g_callT (κ := κ3) 0 c3 hr (by decide) (a_cons (x_nm 4) a_nil) ⟨cut, rfl, by omega, by omega, by omega⟩ (fun d κ' h => by
            obtain ⟨ts, h1, h2, h3⟩ := h _ rfl
            exact ⟨ts, h2, h1, h3⟩)) fun d κ4 ⟨t1, e1, N1, hk4⟩ => ag_cons (R1 := fun d κ5 => ∃ t2 : List Pr, d = ordD (n - cut) t2 ∧ NF (n - cut) t2 ∧ κ5 ≤ κ4 + 101) (g_callT (κ := κ4) 0 c3 hr (by decide) (a_cons (x_op (x_nm 2).rd (x_nm 4).rd (d_sub.to (by show D.int ((n : Int) - (cut : Int)) = D.int ((n - cut : Nat) : Int); congr 1; omega))) a_nil) ⟨n - cut, rfl, by omega, by omega, by omega⟩ (fun d κ' h => by
            obtain ⟨ts, h1, h2, h3⟩ := h _ rfl
            exact ⟨ts, h2, h1, h3⟩)) fun d κ5 ⟨t2, e2, N2, hk5⟩ => ag_nil (κ := κ5) (i := 0) rfl ⟨t1, t2, by rw [e1, e2], N1, N2, by omega⟩) fun ds κ5 ⟨t1, t2, e, N1, N2, hk5⟩ => ⟨_, _, e, ?_⟩
          have hnn : cut + (n - cut) = n := by omega
          have f1 := asc_few N1.n60 N1.prs N1.asc
          have f2 := asc_few N2.n60 N2.prs N2.asc
          have NA := nf_aside N1 N2 (by omega)
          have NH : NF (cut + (n - cut)) (netT (cut + (n - cut)) (t1 ++ shT cut t2 ++ overT cut (n - cut))) := net_nf (by omega) fun p hp => by
            rcases List.mem_append.mp hp with z | z
            · exact NA.prs p z
            · have := mem_over.mp z
              omega
          rw [hnn] at NA NH
          refine hr_ret (d := ordD n (if decide (kd = 1) = true then t1 ++ shT cut t2 else netT n (t1 ++ shT cut t2 ++ overT cut (n - cut)))) (x_ifX (k := decide (kd = 1)) (t_cmp (x_nm 3).rd (x_int (i := ((1 : Nat) : Int))).rd d_eqN) (fun z => ?_) fun z => ?_) ⟨κ5, rfl, ?_⟩
          · rw [if_pos z]
            exact x_call c4 hr (by decide) (a_cons (x_nm 5) (a_cons (x_nm 6) a_nil)) ⟨cut, n - cut, t1, t2, by omega, rfl, by rw [hnn]⟩
          · rw [if_neg (by rw [z]; exact Bool.false_ne_true)]
            exact x_call c5 hr (by decide) (a_cons (x_nm 5) (a_cons (x_nm 6) a_nil)) ⟨cut, n - cut, t1, t2, N1, N2, by omega, rfl, by rw [hnn]⟩
          · refine ord_fin ?_ hn1 hn (by omega)
            split
            · exact NA
            · exact NH
        -- an N and more
        · refine hr_iflv (k := decide (kd = 3) && decide (3 < n)) (EvW.t (w_and (t_cmp (x_nm 3).rd (x_int (i := ((3 : Nat) : Int))).rd d_eqN) fun _ => w_and1 (t_cmp (x_nm 2).rd (x_int (i := ((3 : Nat) : Int))).rd d_gtN))) (fun hz => ?_) (fun _ => ?_)
          · rw [Bool.and_eq_true] at hz
            have hn3 := of_decide_eq_true hz.2
            refine hr_lcG (κ := κ2) 7 [("_law_k", 8)] (fun k => nD (4 + k)) (List.range (n - 4)) (fun i acc κ4 => ∃ rs : List Pr, acc = rs.map prD ∧ PrsB n rs ∧ rs.length ≤ i ∧ κ4 ≤ κ2 + i * 2) rfl sc67.nd (it_r2N T 4 (n - 4) x_int (x_nm 2) rfl (by omega) (by omega)) (by rfl) (by rw [List.length_range]; omega) (i0 := 0) rfl ⟨[], rfl, (fun _ h => nomatch h), Nat.le_refl _, Nat.le_refl _⟩ (fun i acc κ2 ⟨rs, e, _, h, _⟩ => by rw [e, List.length_map]; exact h) (by rfl) (fun i x acc κ4 hx ⟨rs, e, r1, r2, r3⟩ => ?_) fun acc κ4 ⟨rs, e, r1, r2, r3⟩ => ?_
            · have hij := (List.getElem?_eq_some_iff.mp hx).1
              rw [List.length_range] at hij
              have ex : x = i := by
                rw [List.getElem?_range hij] at hx
                exact (Option.some.inj hx).symm
              subst ex e
              refine ⟨_, fun s H0 C cl fp => tg_fn 8 sc67.nd, fun s H0 C cl fp => ?_⟩
              refine tg_cmp (R1 := fun d κ3 => (∃ v : Nat, d = nD v) ∧ κ3 ≤ κ4 + 1) (g_callT (κ := κ4) 0 c1 hr (by decide) (a_cons (x_int (i := ((3 : Nat) : Int))) a_nil) ⟨3, rfl, by decide, by decide, by omega⟩ (fun d κ3 h => by
                obtain ⟨v, _, e, hk3⟩ := h 3 rfl
                exact ⟨⟨v, e⟩, hk3⟩)) fun d κ3 ⟨⟨v, e⟩, hk3⟩ => ⟨nD 0, decide (0 < v), x_int, by rw [e]; exact d_gtN, ?_⟩
              split
              · intro s H0 C cl fp
                refine g_tup (ag_consX (R1 := fun d κ5 => ∃ v : Nat, d = nD v ∧ v < 4 + x ∧ κ5 ≤ κ3 + 1) (g_callT (κ := κ3) 0 c1 hr (by decide) (a_cons (x_nm 8) a_nil) ⟨4 + x, rfl, by omega, by omega, by omega⟩ (fun d κ5 h => by
                  obtain ⟨v, h1, h2, h3⟩ := h _ rfl
                  exact ⟨v, h2, h1, h3⟩)) fun d κ5 ⟨v, e, hv, hk5⟩ => ⟨[nD (4 + x)], a_cons (x_nm 8) a_nil, ?_, rs ++ [(v, 4 + x)], ?_, prs_bn r1 hv (by omega), ?_, ?_⟩)
                · show 2 ≤ 100000
                  omega
                · rw [e, List.map_append]
                  rfl
                · rw [List.length_append, List.length_singleton]
                  omega
                · omega
              · exact ⟨rs, rfl, r1, by omega, by omega⟩
            · subst e
              rw [List.length_range] at r2 r3
              have hb : PrsB n (enT ++ rs) := fun p hp => by
                rcases List.mem_append.mp hp with z | z
                · have h : p = (0, 2) ∨ p = (1, 2) ∨ p = (1, 3) := by simpa [enT] using z
                  rcases h with h | h | h <;> rw [h] <;> (show _ < _ ∧ _ < n; omega)
                · exact r1 p z
              refine hr_ret (d := ordD n (netT n (enT ++ rs))) (x_call c2 hr (by decide) (a_cons (x_nm 2) (a_cons (d := .lst ((enT ++ rs).map prD)) (ds := []) ?_ a_nil)) ⟨n, enT ++ rs, by omega, hb, ?_, rfl, rfl⟩) ⟨κ4, rfl, ord_fin (net_nf (by omega) hb) hn1 hn (by omega)⟩
              · have h0 : ∀ (i j : Nat) {Γ : Ctx} {Y : Cx} {k1 k2 k3 : Nat} {p1 p2 p3 : Pos}, EvX Y (.Tuple [.Constant (.int (i : Int)) k1 p1, .Constant (.int (j : Int)) k2 p2] k3 p3) Γ (prD (i, j)) := fun i j => x_prC
                refine xl (xt2 (o_op (d1 := .lst (enT.map prD)) (d2 := .lst (rs.map prD)) (rl (ds := enT.map prD) ?_) (x_nm 7).rd (o_cat ?_)) ?_)
                · refine o_lst (ds := enT.map prD) ?_ (by show 3 ≤ 100000; omega)
                  refine a_cons (d := prD (0, 2)) (ds := [prD (1, 2), prD (1, 3)]) (h0 0 2) ?_ rfl
                  refine a_cons (d := prD (1, 2)) (ds := [prD (1, 3)]) (h0 1 2) ?_ rfl
                  exact a_cons (d := prD (1, 3)) (ds := []) (h0 1 3) a_nil rfl
                · rw [List.length_map, List.length_map]
                  show 3 + rs.length ≤ 100000
                  omega
                · rw [List.map_append]
              · rw [List.length_append]
                show 3 + rs.length ≤ 100000
                omega
          · refine hr_retG (R := OrdR [nD m] κ) (g_callT (κ := κ2) 0 c3 hr (by decide) (a_cons (x_nm 2) a_nil) ⟨n, rfl, hn1, by omega, by omega⟩ fun d κ3 h => ?_) fun d κ3 h => ⟨κ3, rfl, h⟩
            obtain ⟨ts, N, e, h3⟩ := h _ rfl
            rw [e]
            exact ord_fin N hn1 hn (by omega)
end
end G
-- La10
set_option maxHeartbeats 4000000
/-! La10: _law_some_start, _law_whole. -/
namespace G
open PySem PySem.Spec PyProof.Rows L2
theorem NF.prsOk {n : Nat} {ts : List Pr} (N : NF n ts) : PrsOk n ts := ⟨N.n60, N.prs, by have := asc_few N.n60 N.prs N.asc; omega⟩
theorem NF.good {n : Nat} {ts : List Pr} (N : NF n ts) : GoodO n ts := ⟨N.n60, N.prs, N.asc, by have := asc_few N.n60 N.prs N.asc; omega, ties_own N.prs N.asc N.irr⟩
theorem NF.netOk {n : Nat} {ts : List Pr} (N : NF n ts) (f : FewOk n ts) : NetOk n ts := ⟨N.good, f, N.clo, N.play⟩
theorem NF.small {n : Nat} {ts : List Pr} (N : NF n ts) (h : n ≤ 10) : NetOk n ts := N.netOk (few_small ts h)
theorem atI_last {xs : List Nat} (h : xs ≠ []) : ∃ b, b ∈ xs ∧ atI (xs.map nD) (-1) = some (nD b) := by
  have hl : 0 < xs.length := List.length_pos_iff.mpr h
  refine ⟨xs[xs.length - 1], List.getElem_mem _, ?_⟩
  unfold atI ixN
  rw [if_neg (by decide), List.length_map, if_pos (by omega)]
  have e : ((-1 : Int) + (xs.length : Int)).toNat = xs.length - 1 := by omega
  show (xs.map nD)[((-1 : Int) + (xs.length : Int)).toNat]? = _
  rw [e, List.getElem?_map, List.getElem?_eq_getElem (by omega)]
  rfl
/-- no more than m! -/
def fac : Nat → Nat
  | 0 => 1
  | m + 1 => (m + 1) * fac m
theorem fac_mono {a b : Nat} (h : a ≤ b) : fac a ≤ fac b := by
  induction b with
  | zero =>
    have : a = 0 := by omega
    subst this
    exact Nat.le_refl _
  | succ b ih =>
    rcases Nat.lt_or_ge a (b + 1) with z | z
    · have h2 := ih (by omega)
      show fac a ≤ (b + 1) * fac b
      exact Nat.le_trans h2 (Nat.le_mul_of_pos_left _ (Nat.succ_pos b))
    · have : a = b + 1 := by omega
      subst this
      exact Nat.le_refl _
theorem flat_le {g : Nat → List (List Nat)} {c : Nat} : ∀ {l : List Nat}, (∀ p ∈ l, (g p).length ≤ c) → (l.flatMap g).length ≤ l.length * c
  | [], _ => by simp
  | a :: l, h => by
    rw [List.flatMap_cons, List.length_append, List.length_cons, Nat.succ_mul]
    have h1 := h a List.mem_cons_self
    have h2 := flat_le (l := l) fun p hp => h p (List.mem_cons_of_mem _ hp)
    omega
theorem plays_fac {n : Nat} {ts : List Pr} (N : Net n ts) : ∀ (m b : Nat), b ∈ leftsF n ts → (pcsF b).length ≤ m → (playsF n ts b).length ≤ fac m
  | m, b, hb, h => by
    by_cases h0 : b = 0
    · subst h0
      unfold playsF
      rw [plays_zero]
      exact fac_mono (Nat.zero_le m)
    · rw [N.unf hb h0]
      cases m with
      | zero =>
        have : pcsF b = [] := List.eq_nil_of_length_eq_zero (by omega)
        rw [this]
        exact Nat.zero_le _
      | succ m =>
        refine Nat.le_trans (flat_le (c := fac m) fun p hp => ?_) (Nat.mul_le_mul_right (fac m) h)
        unfold begF
        rw [List.length_map]
        obtain ⟨h1, h2, h3⟩ := N.step hb hp
        have ht : ((topsF n ts).getD p 0).testBit p = true := (N.top h1 p).mpr (.refl p)
        have := pcs_lt hp ht
        exact plays_fac N m _ h2 (by omega)
section
variable {P : Program} {w : World} {K : PySem.W.Frag} {mg : Str → Option Value} {base : Heap}
def StPre : List D → Nat → Prop := fun ds κ => ∃ (n : Nat) (ts : List Pr), ds = [ordD n ts] ∧ NF n ts ∧ n ≤ 10 ∧ κ ≤ 50000
def StR : List D → Nat → D → Nat → Prop := fun ds κ d κ' => ∀ (n : Nat) (ts : List Pr), ds = [ordD n ts] → ∃ b ∈ leftsF n ts, d = nD b ∧ κ' ≤ κ + 2
theorem tsD_inj {t1 t2 : List Pr} (h : tsD t1 = tsD t2) : t1 = t2 := by
  have h2 : t1.map prD = t2.map prD := D.tup.inj h
  clear h
  induction t1 generalizing t2 with
  | nil =>
    cases t2 with
    | nil => rfl
    | cons b t2 => simp at h2
  | cons a t1 ih =>
    cases t2 with
    | nil => simp at h2
    | cons b t2 =>
      rw [List.map_cons, List.map_cons] at h2
      obtain ⟨h3, h4⟩ := List.cons.inj h2
      have h5 := D.tup.inj h3
      have h6 := nD_inj (List.cons.inj h5).1
      have h7 := nD_inj (List.cons.inj (List.cons.inj h5).2).1
      rw [ih h4, Prod.ext h6 h7]
theorem ordD_inj {n1 n2 : Nat} {t1 t2 : List Pr} (h : ordD n1 t1 = ordD n2 t2) : n1 = n2 ∧ t1 = t2 := by
  have h2 := D.tup.inj h
  exact ⟨nD_inj (List.cons.inj h2).1, tsD_inj (List.cons.inj (List.cons.inj h2).2).1⟩
theorem sc70 : FnScope ["_law_tin", "_law_net_here", "_law_lefts_so"] ["_law_tin", "_law_net_here"] (defScope (topS 70)) := ⟨rfl, rfl, rfl, by decide +kernel, rfl, by decide +kernel, by decide +kernel⟩
theorem ok_start (T : Bn mg) (D0 : Df K mg "_law_some_start" (topS 70) ["_law_tin", "_law_net_here"]) (c1 : Cal P w K mg base 2 "_law_lefts" (spF R_lefts)) (c2 : Cal P w K mg base 1 "_law_take" (spT TkPre TkR)) (c3 : Cal P w K mg base 2 "_law_of" (spT OfPre OfR)) : Cal P w K mg base 3 "_law_some_start" (spT StPre StR) :=
  mk_calT D0 sc70 (by decide) (fun ds κ ⟨n, ts, h, _⟩ => by rw [h]; rfl) fun f cdv A outer s H E hr ds κ ⟨n, ts, h1, N, hn, hk⟩ => by
    subst h1
    have fe := few_small ts hn
    have hll := lefts_len fe
    have hne : leftsF n ts ≠ [] := fun z => by
      have := N.whole
      rw [z] at this
      cases this
    obtain ⟨b, hb, eb⟩ := atI_last hne
    refine hr_asg 2 sc70.nd (d := rowD (leftsF n ts)) (x_call c1 hr (by decide) (a_cons (x_nm 1) a_nil) ⟨n, ts, N.prsOk, fe, rfl, rfl⟩) ?_
    refine hr_retG (R := fun d κ' => ∃ b ∈ leftsF n ts, d = nD b ∧ κ' ≤ κ + 2) (g_if (Rb := fun _ κ' => κ' ≤ κ + 1) (tg_cmp (R1 := fun d κ2 => (∃ v : Nat, d = nD v) ∧ κ2 ≤ κ + 1) (g_callT (κ := κ) 0 c2 hr (by decide) (a_cons (x_int (i := ((2 : Nat) : Int))) a_nil) ⟨2, rfl, by decide, by decide, by omega⟩ (fun d κ3 h => by
      obtain ⟨v, _, e, hk3⟩ := h 2 rfl
      exact ⟨⟨v, e⟩, hk3⟩)) fun d κ3 ⟨⟨v, e⟩, hk3⟩ => ⟨nD 0, decide (v = 0), x_int, by rw [e]; exact d_eqN, hk3⟩) (fun κ2 hk2 => ?_) fun κ2 hk2 => ?_) fun d κ' h => ⟨κ', rfl, fun n2 ts2 e => ?_⟩
    · exact EvX.gR (κ := κ2) (i := 0) rfl (x_ixL (x_nm 2).rd (x_neg x_int) eb) ⟨b, hb, rfl, by omega⟩
    · refine g_callT (κ := κ2) 0 c3 hr (by decide) (a_cons (x_nm 2) a_nil) ⟨(leftsF n ts).map nD, .inl rfl, ?_, ?_, by omega⟩ fun d κ3 h => ?_
      · rw [List.length_map]
        exact List.length_pos_iff.mpr hne
      · rw [List.length_map]
        omega
      · obtain ⟨h1, h2⟩ := h _ (.inl rfl)
        obtain ⟨b, hb, e⟩ := List.mem_map.mp h1
        exact ⟨b, hb, e.symm, by omega⟩
    · obtain ⟨e1, e2⟩ := ordD_inj (List.cons.inj e).1
      subst e1 e2
      exact h
def plD (xs : List (List Nat)) : D := .lst (xs.map nsD)
def whStep (n : Nat) (ts : List Pr) (b : Nat) (acc : List (List Nat)) (p : Nat) : List (List Nat) := acc ++ begF n ts b p
def R_whole2 (m : Nat) : List D → D → Prop := fun ds d => ∃ (n : Nat) (ts : List Pr) (b : Nat), NF n ts ∧ n ≤ 6 ∧ b ∈ leftsF n ts ∧ (pcsF b).length ≤ m ∧ ds = [ordD n ts, nD b] ∧ d = plD (playsF n ts b)
theorem sc69 : FnScope ["_law_net_here", "_law_start_so", "_law_up_so", "_law_found", "_law_k", "_law_own"] ["_law_net_here", "_law_start_so"] (defScope (topS 69)) := ⟨rfl, rfl, rfl, by decide +kernel, rfl, by decide +kernel, by decide +kernel⟩
theorem pcs_pos {b : Nat} (hb : b < 2 ^ 60) (h0 : b ≠ 0) : 0 < (pcsF b).length := by
  rcases Nat.eq_zero_or_pos (pcsF b).length with z | z
  · exfalso
    have e := List.eq_nil_of_length_eq_zero z
    refine h0 (Nat.eq_of_testBit_eq fun i => ?_)
    rw [Nat.zero_testBit]
    cases q : b.testBit i with
    | false => rfl
    | true =>
      have hi := bit_lt hb q
      have : i ∈ pcsF b := mem_pcs.mpr ⟨by omega, q⟩
      rw [e] at this
      cases this
  · exact z
theorem lwhole_step (T : Bn mg) (D0 : Df K mg "_law_whole" (topS 69) ["_law_net_here", "_law_start_so"]) (c1 : Cal P w K mg base 1 "_law_ups" (spF R_tops)) (c2 : Cal P w K mg base 1 "_law_pieces" (spF R_pieces_for)) (m : Nat) (cm : ∀ j, m = j + 1 → Cal P w K mg base (j + 2) "_law_whole" (spF (R_whole2 j))) : Cal P w K mg base (m + 2) "_law_whole" (spF (R_whole2 m)) :=
  mk_cal D0 sc69 (by decide) (fun ds d ⟨_, _, _, _, _, _, _, h, _⟩ => by rw [h]; rfl) fun f cdv A outer s H E hr ds d ⟨n, ts, b, N, hn, hb, hm, h1, h2⟩ => by
    subst h1 h2
    have hb60 := N.clo.lt b hb
    have hpl := plays_fac N.toNet 6 b hb (by have := N.pcs60 hb; omega)
    refine hr_iflv (k := decide (b = 0)) (t_cmp (x_nm 1).rd (x_int (i := ((0 : Nat) : Int))).rd d_eqN) (fun z => ?_) (fun z => ?_)
    · have z2 := of_decide_eq_true z
      subst z2
      refine hr_ret (d := plD (playsF n ts 0)) (xl (xt2 (o_lst (ds := [.tup []]) (a_cons (x_tup a_nil (Nat.le_of_ble_eq_true rfl)) a_nil) (Nat.le_of_ble_eq_true rfl)) ?_)) rfl
      unfold playsF
      rw [plays_zero]
      rfl
    · have h0 := of_decide_eq_false z
      have hp0 := pcs_pos hb60 h0
      obtain ⟨j, ej⟩ : ∃ j, m = j + 1 := ⟨m - 1, by omega⟩
      subst ej
      have cm := cm j rfl
      refine hr_par 2 3 rfl sc69.nd (k_x (x_call c1 hr (Nat.le_add_left _ _) (a_cons (x_nm 0) a_nil) ⟨n, ts, N.prsOk, rfl, rfl⟩) (k_o (o := .L []) (o_lst a_nil (Nat.le_of_ble_eq_true rfl)) k_nil)) ?_
      refine hr_frz 3 (o := .L []) rfl ?_
      rw [N.unf hb h0] at hpl ⊢
      refine hr_fold nD (pcsF b) (fun (acc : List (List Nat)) => [.pu (ordD n ts), .pu (nD b), .pu (rowD (topsF n ts)), .pu (plD acc), .un, .un]) (whStep n ts b) [] (fun pre acc => acc = pre.flatMap (begF n ts b)) PassesOwn.never rfl (it_tup (x_call c2 hr (Nat.le_add_left _ _) (a_cons (x_nm 1) a_nil) ⟨b, Nat.lt_of_lt_of_le hb60 (by decide), rfl, rfl⟩)) (Wk.refl _) rfl (fun pre p post acc e hg => ?_) (fun hg => ?_)
      · have hp : p ∈ pcsF b := by rw [e]; simp
        obtain ⟨q1, q2, q3⟩ := N.step hb hp
        have ht : ((topsF n ts).getD p 0).testBit p = true := (N.top q1 p).mpr (.refl p)
        have hlt := pcs_lt hp ht
        have hb2 : (playsF n ts (mns b ((topsF n ts).getD p 0))).length ≤ 720 := plays_fac N.toNet 6 _ q2 (by have := N.pcs60 q2; omega)
        have hacc : acc.length ≤ 720 := by
          rw [e, List.flatMap_append, List.length_append] at hpl
          have h720 : fac 6 = 720 := rfl
          rw [hg]
          omega
        refine ⟨by unfold whStep; rw [hg, List.flatMap_append]; simp, _, [4], tg_fn 4 sc69.nd, ?_⟩
        refine hr_own 3 (o := .L ((whStep n ts b acc p).map nsD)) sc69.nd (xt2 (o_op (x_nm 3).rd (rl (o_lc [("_law_own", 5)] nsD (playsF n ts (mns b ((topsF n ts).getD p 0))) (fun _ => true) (fun q => nsD (p :: q)) rfl sc69.nd (it_list (x_call cm hr (Nat.le_refl _) (a_cons (x_nm 0) (a_cons (x_mns (x_nm 1).rd (x_ixL (x_nm 2).rd (x_nm 4) (getD_atI (by rw [topsF_len]; exact q1)))) a_nil)) ⟨n, ts, mns b ((topsF n ts).getD p 0), N, hn, q2, by omega, rfl, rfl⟩)) (by rfl) (by omega) fun q hq => ⟨_, fun s H0 C cl fp => tg_fn 5 sc69.nd, .nil, fun _ s H0 C cl fp => ?_⟩)) (o_cat ?_)) ?_) ?_
        · have hql := plays_len _ _ _ q hq
          refine x_op (d1 := .tup [nD p]) (rx (x_tup (ds := [nD p]) (a_cons (x_nm 4) a_nil) (Nat.le_of_ble_eq_true rfl))) (x_nm 5).rd (d_catT (ds := [nD p]) (es' := q.map nD) ?_)
          rw [List.length_map]
          show 1 + q.length ≤ 100000
          omega
        · rw [List.length_map, List.length_map, filt_true]
          omega
        · unfold whStep begF
          rw [filt_true, List.map_append, List.map_map]
          rfl
        · refine hr_frz 3 rfl ?_
          exact hr_nil _ (.same (.same (.same (.same (.un (.same .nil)))))) rfl
      · rw [hg]
        exact hr_ret (d := plD ((pcsF b).flatMap (begF n ts b))) (x_nm 3) rfl
theorem ok_lwhole (T : Bn mg) (D0 : Df K mg "_law_whole" (topS 69) ["_law_net_here", "_law_start_so"]) (c1 : Cal P w K mg base 1 "_law_ups" (spF R_tops)) (c2 : Cal P w K mg base 1 "_law_pieces" (spF R_pieces_for)) : ∀ m : Nat, Cal P w K mg base (m + 2) "_law_whole" (spF (R_whole2 m))
  | 0 => lwhole_step T D0 c1 c2 0 fun j e => (by omega)
  | m + 1 => lwhole_step T D0 c1 c2 (m + 1) fun j e => by
    have e2 : m = j := by omega
    subst e2
    exact ok_lwhole T D0 c1 c2 m
end
end G
-- La11
set_option maxHeartbeats 4000000
/-! La11: zip of two; _law_same. -/
namespace G
open PySem PySem.Spec PyProof.Rows L2
def twD (d : D) : D := .tup [d, d]
theorem tw_get {ds : List D} {i : Nat} {d : D} (h : ds[i]? = some d) : (ds.map twD)[i]? = some (twD d) := by
  rw [List.getElem?_map, h]
  rfl
theorem wd_zipL {K : PySem.W.Frag} {W1 : Wd} {p q : Addr} {ds : List D} {xs ys : List V} (hx : RpA W1.F ds xs) (hy : RpA W1.F ds ys) (hp : W1.F p = some (.lst xs)) (hq : W1.F q = some (.lst ys)) : WalkD (Itz K p q) W1 (ds.map twD) := by
  refine ⟨_, _, walk_zip (K := K) (a := p) (b := q) (xs := xs) (ys := ys) (by rw [List.length_map, hx.len, hy.len, Nat.min_self]), fun W' s => ⟨SqL.of (W'.ok _ _ (s _ _ hp)), SqL.of (W'.ok _ _ (s _ _ hq))⟩, fun i v W' H' hlt s y => ?_⟩
  obtain ⟨T2, x, z, rfl, hn, rfl, ex, ez⟩ := y
  obtain ⟨d, h1, h2⟩ := hx.get ex
  obtain ⟨d2, g1, g2⟩ := hy.get ez
  rw [h1] at g1
  cases g1
  obtain ⟨W2, e1, e2, e3⟩ := layF (o := .tup [x, z]) hn
  exact ⟨W2, e1, e3, twD d, tw_get h1, T2, _, rfl, by rw [e2]; exact upd_same, x, [z], rfl, h2.mono (s.trans e3.f), z, [], rfl, g2.mono (s.trans e3.f), rfl⟩
theorem walk_zT {K : PySem.W.Frag} {a b : Addr} {xs ys : List V} {n : Nat} (h1 : n = xs.length) (h2 : n = ys.length) : Walk (RZ.ItzT K a b) n (fun H => SqT K H a xs ∧ SqT K H b ys) (YPair (fun i => xs[i]?) (fun i => ys[i]?)) := by
  refine ⟨fun i H hi q => ⟨xs, ys, xs[i], ys[i], q.1, q.2, List.getElem?_eq_getElem (by omega), List.getElem?_eq_getElem (by omega)⟩, fun H q => ⟨xs, ys, q.1, q.2, .inl (by omega)⟩, fun i H v H' hi q y => ?_⟩
  obtain ⟨T2, x, z, g1, g2, g3, g4, g5⟩ := y
  exact ⟨T2, x, z, g1, g2, g3, g4 xs q.1, g5 ys q.2⟩
theorem wd_zipT {K : PySem.W.Frag} {W1 : Wd} {p q : Addr} {ds : List D} {xs ys : List V} (hx : RpA W1.F ds xs) (hy : RpA W1.F ds ys) (hp : W1.F p = some (.tup xs)) (hq : W1.F q = some (.tup ys)) : WalkD (RZ.ItzT K p q) W1 (ds.map twD) := by
  refine ⟨_, _, walk_zT (K := K) (a := p) (b := q) (xs := xs) (ys := ys) (by rw [List.length_map, hx.len]) (by rw [List.length_map, hy.len]), fun W' s => ⟨SqT.of (W'.ok _ _ (s _ _ hp)), SqT.of (W'.ok _ _ (s _ _ hq))⟩, fun i v W' H' hlt s y => ?_⟩
  obtain ⟨T2, x, z, rfl, hn, rfl, ex, ez⟩ := y
  obtain ⟨d, h1, h2⟩ := hx.get ex
  obtain ⟨d2, g1, g2⟩ := hy.get ez
  rw [h1] at g1
  cases g1
  obtain ⟨W2, e1, e2, e3⟩ := layF (o := .tup [x, z]) hn
  exact ⟨W2, e1, e3, twD d, tw_get h1, T2, _, rfl, by rw [e2]; exact upd_same, x, [z], rfl, h2.mono (s.trans e3.f), z, [], rfl, g2.mono (s.trans e3.f), rfl⟩
section
variable {X : Cx} {Γ : Ctx} {e a b : Expr}
theorem it_zip {elts : List Expr} {kk : Nat} {tpos p pos : Pos} (T : Bn X.mg) {ds : List D} {x : D} (h : EvA X [a, b] Γ [x, x]) (hx : x = .lst ds ∨ x = .tup ds) (hg : Gl X "zip" := by rfl) (hs : starEach [a, b] X.env = (false, eval a X.env) :: starEach [b] X.env := by rfl) (hpl : (backTo pos (starEach [b] X.env)).any (·.1) = false := by rfl) : ItX X (.Tuple elts kk tpos) (.Call (.Name "zip" p) [a, b] [] pos) Γ (ds.map twD) :=
  ⟨_, RZ.pi_zipA hg T.zip (pa_w X [a, b]) hs hpl, fun t W0 W σ l E R q => h t W0 W σ l E _ fun vs W1 e1 r1 => by
    obtain ⟨v1, vs1, rfl, r1, v2, vs2, rfl, r2, r3⟩ := r1
    cases r3
    rcases hx with hx | hx
    · subst hx
      obtain ⟨p1, xs1, rfl, hp1, hx1⟩ := r1
      obtain ⟨p2, xs2, rfl, hp2, hx2⟩ := r2
      exact ⟨p1, p2, xs1, xs2, rfl, .inl ⟨SqL.of (W1.ok _ _ hp1), SqL.of (W1.ok _ _ hp2), q _ W1 e1 (wd_zipL hx1 hx2 hp1 hp2)⟩⟩
    · subst hx
      obtain ⟨p1, xs1, rfl, hp1, hx1⟩ := r1
      obtain ⟨p2, xs2, rfl, hp2, hx2⟩ := r2
      exact ⟨p1, p2, xs1, xs2, rfl, .inr ⟨SqT.of (W1.ok _ _ hp1), SqT.of (W1.ok _ _ hp2), q _ W1 e1 (wd_zipT hx1 hx2 hp1 hp2)⟩⟩⟩
end
/-- numbers, truth values, texts -/
def slB : D → Bool
  | .bl _ => true
  | .int _ => true
  | .str _ => true
  | _ => false
def Sd : Nat → D → Prop
  | 0, x => slB x = true
  | m + 1, x => slB x = true ∨ ∃ ds, (x = .lst ds ∨ x = .tup ds) ∧ ds.length ≤ 100000 ∧ ∀ e ∈ ds, Sd m e
section
variable {P : Program} {w : World} {K : PySem.W.Frag} {mg : Str → Option Value} {base : Heap}
def R_same (m : Nat) : List D → D → Prop := fun ds d => ∃ x, Sd m x ∧ ds = [x, x] ∧ d = .bl true
theorem sc58 : FnScope ["_law_got", "_law_due", "_law_mine", "_law_its"] ["_law_got", "_law_due"] (defScope (topS 58)) := ⟨rfl, rfl, rfl, by decide +kernel, rfl, by decide +kernel, by decide +kernel⟩
theorem same_step (T : Bn mg) (D0 : Df K mg "_law_same" (topS 58) ["_law_got", "_law_due"]) (m : Nat) (cm : ∀ j, m = j + 1 → Cal P w K mg base (j + 1) "_law_same" (spF (R_same j))) : Cal P w K mg base (m + 1) "_law_same" (spF (R_same m)) :=
  mk_cal D0 sc58 (by decide) (fun ds d ⟨_, _, h, _⟩ => by rw [h]; rfl) fun f cdv A outer s H E hr ds d ⟨x, h1, h2, h3⟩ => by
    subst h2 h3
    have hcase : slB x = true ∨ ∃ j ds, m = j + 1 ∧ (x = .lst ds ∨ x = .tup ds) ∧ ds.length ≤ 100000 ∧ ∀ e ∈ ds, Sd j e := by
      cases m with
      | zero => exact .inl h1
      | succ m =>
        rcases h1 with z | ⟨ds, z1, z2, z3⟩
        · exact .inl z
        · exact .inr ⟨m, ds, rfl, z1, z2, z3⟩
    have eqB : ∀ k : Bool, (k == k) = true := fun k => by cases k <;> rfl
    have neB : ∀ k : Bool, (k != k) = false := fun k => by cases k <;> rfl
    rcases hcase with hx | ⟨j, ys, rfl, hy, hl, hm⟩
    · have hx1 : (isLstB x || isTupB x) = false := by cases x <;> first | rfl | (cases hx)
      refine hr_iflv (k := false) (t_val ((x_isi2 T (x_nm 1).rd boot_list T.list boot_tuple T.tuple (kit_two (kit_list x) (kit_tuple x))).to (by rw [hx1]))) (fun z => by cases z) (fun _ => ?_)
      refine hr_iflv (k := isNonD x || (isBlB x || isStrB x)) (EvW.t (w_or (t_cmp (x_nm 1).rd x_non.rd d_isN) fun _ => w_or1 (t_val (x_isi2 T (x_nm 1).rd boot_bool T.bool boot_str T.str (kit_two (kit_bool x) (kit_str x)))))) (fun hz => ?_) (fun hz => ?_)
      · refine hr_ret (d := .bl (true && (true && true))) (x_and (k := true) ?_ fun _ => x_and (k := true) ?_ fun _ => x_one (h := ?_)) rfl
        · cases x with
          | bl k => exact x_cmp (x_nm 0).rd (x_nm 1).rd (d_eqB.to (by rw [eqB]))
          | str k => exact x_cmp (x_nm 0).rd (x_nm 1).rd (d_eqS.to (by rw [decide_eq_true rfl]))
          | int i => cases hz
          | non => cases hx
          | lst _ => cases hx
          | tup _ => cases hx
          | dct _ _ => cases hx
          | frd _ _ => cases hx
        · exact x_cmp (x_isi T (x_nm 0).rd boot_bool T.bool (kit_bool x)).rd (x_isi T (x_nm 1).rd boot_bool T.bool (kit_bool x)).rd (d_eqB.to (by rw [eqB]))
        · have hn : isNonD x = false := by cases x <;> first | rfl | (cases hx)
          exact x_cmp (EvX.rd (x_cmp (x_nm 0).rd x_non.rd d_isN)) (EvX.rd (x_cmp (x_nm 1).rd x_non.rd d_isN)) (d_eqB.to (by rw [eqB]))
      · have hi : ∃ i, x = .int i := by
          cases x with
          | int i => exact ⟨i, rfl⟩
          | bl k => cases hz
          | str k => cases hz
          | non => cases hx
          | lst _ => cases hx
          | tup _ => cases hx
          | dct _ _ => cases hx
          | frd _ _ => cases hx
        obtain ⟨i, rfl⟩ := hi
        refine hr_ret (d := .bl (true && (true && true))) (x_and (k := true) (x_isi T (x_nm 0).rd boot_int T.int (kit_int (.int i))) fun _ => x_and (k := true) (x_not (k := false) (x_isi T (x_nm 0).rd boot_bool T.bool (kit_bool (.int i)))) fun _ => x_one (h := ?_)) rfl
        exact x_cmp (x_nm 0).rd (x_nm 1).rd (d_eq.to (by rw [decide_eq_true rfl]))
    · have c := cm j rfl
      have hx1 : (isLstB x || isTupB x) = true := by rcases hy with h | h <;> rw [h] <;> rfl
      refine hr_iflv (k := true) (t_val ((x_isi2 T (x_nm 1).rd boot_list T.list boot_tuple T.tuple (kit_two (kit_list x) (kit_tuple x))).to (by rw [hx1]))) (fun _ => ?_) (fun z => by cases z)
      refine hr_ifF ((EvW.t (w_or (k := false) (m := false) (t_cmp (x_isi T (x_nm 0).rd boot_list T.list (kit_list x)).rd (x_isi T (x_nm 1).rd boot_list T.list (kit_list x)).rd (d_neB.to (by rw [neB]))) fun _ => w_or1 (t_cmp (x_isi T (x_nm 0).rd boot_tuple T.tuple (kit_tuple x)).rd (x_isi T (x_nm 1).rd boot_tuple T.tuple (kit_tuple x)).rd (d_neB.to (by rw [neB])))))) ?_
      refine hr_ret (d := .bl (true && true)) (x_and (k := true) ?_ fun _ => x_one (h := ?_)) rfl
      · rcases hy with h | h
        · subst h
          exact x_cmp (x_lenL T (x_nm 0).rd).rd (x_lenL T (x_nm 1).rd).rd (d_eq.to (by rw [decide_eq_true rfl]))
        · subst h
          exact x_cmp (x_lenT T (x_nm 0).rd).rd (x_lenT T (x_nm 1).rd).rd (d_eq.to (by rw [decide_eq_true rfl]))
      · refine xt (x_all T rfl (bs := ys.map fun _ => true) (rt (rl (o_lc [("_law_mine", 2), ("_law_its", 3)] twD ys (fun _ => true) (fun _ => .bl true) rfl sc58.nd (it_zip T (a_cons (x_nm 0) (a_cons (x_nm 1) a_nil)) hy) (by rfl) hl fun y hy2 => ⟨_, fun s H0 C cl fp => tg_pr 2 3 rfl sc58.nd, .nil, fun _ s H0 C cl fp => x_call c hr (Nat.le_refl _) (a_cons (x_nm 2) (a_cons (x_nm 3) a_nil)) ⟨y, hm y hy2, rfl, rfl⟩⟩)) ?_)) ?_
        · rw [filt_true, List.map_map]
          rfl
        · congr 1
          rw [List.all_map, List.all_eq_true]
          intro y _
          rfl
theorem ok_same (T : Bn mg) (D0 : Df K mg "_law_same" (topS 58) ["_law_got", "_law_due"]) : ∀ m : Nat, Cal P w K mg base (m + 1) "_law_same" (spF (R_same m))
  | 0 => same_step T D0 0 fun j e => (by omega)
  | m + 1 => same_step T D0 (m + 1) fun j e => by
    have e2 : m = j := by omega
    subst e2
    exact ok_same T D0 m
end
end G
-- La12
set_option maxHeartbeats 4000000
/-! La12: _law_heard. -/
namespace G
open PySem PySem.Spec PyProof.Rows L2
/-! ### isinstance of a caught error that has a dict -/
def rIsB (K : PySem.W.Frag) (C a dd : Addr) : List V → Hp → VK → Prop := fun xs H Q => ∃ (c : V) (cv : Value) (b : Bool) (fs : List (Str × V)), xs = [.ref a, c] ∧ (∀ u, RelV c u → u = cv) ∧ PySem.W.kitOne K (.ref C) cv = some b ∧ H dd = some (.xd fs) ∧ Q (.bl b) H
theorem call_isB {X : Cx} {a C dd : Addr} {oe : Obj} {pn : List (Addr × Obj)} (F : ExcC X.K C) (hz : Zc (.ref C) (some dd) oe) (hf : ∃ vs, oe.data = .fields vs) : CallR (X.suite a ((a, oe) :: pn)) (.builtin "isinstance") (rIsB X.K C a dd) := by
  intro pins s σ H xs us Q I r h
  obtain ⟨c, cv, b, fs, rfl, hcv, e, hd, q⟩ := h
  cases r with
  | cons rx rr =>
    cases rr with
    | cons rt rr =>
      cases rr
      cases rx
      have ec := hcv _ rt
      subst ec
      obtain ⟨hget, _⟩ := I.pin (a, oe) (List.mem_append_left _ List.mem_cons_self)
      obtain ⟨vs, hv⟩ := hf
      obtain ⟨mA, hns, _⟩ := (show ObjOk X.prog X.w H s.heap dd (.xd fs) from I.hok dd _ hd)
      obtain ⟨od, ho, _⟩ := lookIn_ns hns
      have J : PySem.W.InstAt s.heap a oe C (some od) := ⟨hget, hz.1, by unfold PySem.W.notCls; rw [hv] <;> rfl, by rw [hz.2]; exact ho⟩
      have hcl : (PySem.W.clsIn X.K C).isSome = true := by
        obtain ⟨cd, hc, _⟩ := PySem.W.any_some F.hd
        rw [hc]
        rfl
      exact PySem.W.kia_one (PySem.W.kitx_exc hcl F.hg F.hk F.hs F.ha F.hn F.ht F.hm) I.kIn J e (fun z => nomatch z) fun tk => ⟨.bl b, H, I.tok _, rfl, q⟩
/-! ### a callee out of a pair -/
section
variable {X : Cx} {CX : CXT} {k : Nat} {f f0 f1 : Addr} {fd : FuncData} {ps : List Str} {sp : Sp} {E : XK} {x0 x1 : Str} {p0 p1 p2 p3 pos : Pos} {kk : Nat} {b e : Expr} {es : List Expr} {Γ : Ctx} {ds : List D} {dd : Int}
theorem pe_callSub {a : Expr} {tf : TE} {t : TA} (F : FnOk X.prog X.w X.K X.mg X.base CX k f fd ps sp) (hr : Room k X.A) (hk : PySem.W.keepIn X.K (.ref f) = true) (hb : Binds X.K fd ps []) (hx : Passes CX X E) (hf : PE X (.Subscript a b p3) tf) (ha : PA X (e :: es) t)
    (he : starEach (e :: es) X.env = (false, eval e X.env) :: starEach es X.env := by rfl) (hpl : (backTo pos (starEach es X.env)).any (·.1) = false := by rfl) :
    PE X (.Call (.Subscript a b p3) (e :: es) [] pos) (fun σ H Q => tf σ H fun v H1 => v = .ref f ∧ t σ H1 fun vs H2 => sp (vs ++ []) H2 Q E) := by
  refine ⟨fun pins s σ H Q I h => ?_⟩
  refine wpAny_bind (thn (hf.run pins s σ H _ I h) fun u s1 hh => ?_)
  obtain ⟨v, H1, I1, r1, ev, q1⟩ := hh
  subst ev
  obtain rfl : u = Value.ref f := r1
  refine PySem.W.callWith_K (h₀ := X.base) I1.ok.mod.kin hk (thn (ha.run pos pins s1 σ H1 _ I1 q1) fun us s2 hh => ?_) he hpl
  obtain ⟨vs, H2, I2, r2, q2⟩ := hh
  exact ⟨I2.kIn, run_fn F hr hb .nil hx I2 r2 q2⟩
theorem sub_call (F : FnOk X.prog X.w X.K X.mg X.base CX k f fd ps sp) (hr : Room k X.A) (hk : PySem.W.keepIn X.K (.ref f) = true) (hb : Binds X.K fd ps []) (hx : Passes CX X E) (g0 : X.mg x0 = some (.ref f0)) (g1 : X.mg x1 = some (.ref f1)) (l0 : Gl X x0) (l1 : Gl X x1) (d0 : (x0 == ("__debug__" : Str)) = false) (d1 : (x1 == ("__debug__" : Str)) = false)
    (hd : EvX X b Γ (.int dd)) (hi : atI [V.ref f0, V.ref f1] dd = some (.ref f)) (ha : EvA X (e :: es) Γ ds) (hs : PlainIx b) (hst : starEach [.Name x0 p0, .Name x1 p1] X.env = (false, eval (.Name x0 p0) X.env) :: starEach [.Name x1 p1] X.env) (hst1 : starEach [.Name x1 p1] X.env = (false, eval (.Name x1 p1) X.env) :: starEach [] X.env)
    (he : starEach (e :: es) X.env = (false, eval e X.env) :: starEach es X.env) (hpl : (backTo pos (starEach es X.env)).any (·.1) = false)
    {t : Option Addr} {W0 W : Wd} {σ : L2.St} (l : Le t W0 W) (Ev0 : Env X.K t W0 W σ Γ) {Q : VK} (q : ∀ vs W2, Ext W W2 → RpA W2.F ds vs → sp (vs ++ []) W2.H Q E) : wE X (.Call (.Subscript (.Tuple [.Name x0 p0, .Name x1 p1] kk p2) b p3) (e :: es) [] pos) σ W.H Q := by
  refine wE_of (pe_callSub F hr hk hb hx (pe_ix ix_tup (pe_tup (pa_cons (pe_glob (v := .ref f0) l0 g0 rfl d0) (pa_cons (pe_glob (v := .ref f1) l1 g1 rfl d1) pa_nil hst1) hst)) (pe_w X b) hs) (pa_w X (e :: es)) he hpl) ?_
  refine ⟨by show 2 ≤ sizeLine; decide, fun p hp => ?_⟩
  obtain ⟨W1, e1, e2, e3⟩ := layF (o := .tup [.ref f0, .ref f1]) hp
  rw [← e1]
  refine hd t W0 W1 σ (l.ext Ev0.tv e3) (Ev0.ext e3) _ fun v2 W2 x2 r2 => ?_
  have r2 : v2 = .int dd := r2
  subst r2
  refine ⟨p, [.ref f0, .ref f1], dd, .ref f, rfl, rfl, SqT.of (x2.h _ _ (by rw [e1]; exact upd_same)), hi, rfl, ?_⟩
  refine ha t W0 W2 σ (l.ext Ev0.tv (e3.trans x2)) (Ev0.ext (e3.trans x2)) _ fun vs W3 x3 r3 => q vs W3 (e3.trans (x2.trans x3)) r3
end
theorem passesL {X : Cx} {W : WX} {E : XK} (tk : Takes X W) (hW : ∀ cls d σ H', σ.length = X.N.length → E cls d H' → W cls d σ H') : Passes (L2.CX X.prog X.w) X E :=
  fun _ σ _ _ e s' I c => tk e s' (XE.of_call I (fun cls d H' h => hW cls d σ H' I.len h) c)
/-- what the classes say to the clauses -/
structure HdTxt (K : PySem.W.Frag) (mg : Str → Option Value) (C C0 : Addr) : Prop where
  gC : mg "Broken" = some (.ref C)
  g0 : mg "CanNot" = some (.ref C0)
  e1 : ExcC K C
  e0 : ExcC K C0
  x1 : XfC K C
  n1 : PySem.W.findIn K (.ref C) "number" = some none
  m10 : PySem.W.exmOne K (.ref C) (.ref C0) = some false
  m11 : PySem.W.exmOne K (.ref C) (.ref C) = some true
  m00 : PySem.W.exmOne K (.ref C0) (.ref C0) = some true
  k1 : PySem.W.kitOne K (.ref C) (.type "ValueError") = some true
  k0 : PySem.W.kitOne K (.ref C0) (.type "ValueError") = some true
theorem boot_VE : bootBuiltins "ValueError" = some (.type "ValueError") := by decide +kernel
section
variable {P : Program} {w : World} {K : PySem.W.Frag} {mg : Str → Option Value} {base : Heap} {C C0 : Addr}
def slipS (e : Expr) (pos : Pos) : Stmt := .Return (some e) pos
/-- a suite's wish: whatever is pinned -/
def sui (X : Cx) (sts : List Stmt) : Addr → Value → Option Addr → TS := fun a cls d De σ H => ∀ (oe : Obj) (pn : List (Addr × Obj)), Zc cls d oe → (∃ vs, oe.data = .fields vs) → wSs (X.suite a ((a, oe) :: pn)) sts De σ H
theorem sui_ok {X : Cx} (sts : List Stmt) (a : Addr) (oe : Obj) (cls : Value) (d : Option Addr) (pn : List (Addr × Obj)) (hz : Zc cls d oe) (hf : ∃ vs, oe.data = .fields vs) : PSs (X.suite a ((a, oe) :: pn)) sts (sui X sts a cls d) :=
  ⟨fun pins s σ H D I h => (pss_w _ _).run pins s σ H D I (h oe pn hz hf)⟩
/-- the tried body's wish -/
def trw (X : Cx) (sts : List Stmt) : WX → TS := fun Wx De σ H => ∀ (pn : List (Addr × Obj)) (xe : Value → Shared → Prop), Takes (X.tr pn xe) Wx → PassesOwn (model X.prog X.w) X.A X.env xe → wSs (X.tr pn xe) sts De σ H
theorem trw_ok {X : Cx} (sts : List Stmt) (Wx : WX) (pn : List (Addr × Obj)) (xe : Value → Shared → Prop) (tk : Takes (X.tr pn xe) Wx) (po : PassesOwn (model X.prog X.w) X.A X.env xe) : PSs (X.tr pn xe) sts (trw X sts Wx) :=
  ⟨fun pins s σ H D I h => (pss_w _ _).run pins s σ H D I (h pn xe tk po)⟩
/-- a new list of known items -/
theorem lst_at {W : Wd} {ds : List D} {xs : List V} (h : RpA W.F ds xs) {p : Addr} (hp : W.H p = none) : ∃ W2 : Wd, W2.H = upd W.H p (.lst xs) ∧ Ext W W2 ∧ Rp W2.F (.lst ds) (.ref p) := by
  obtain ⟨W2, e1, e2, e3⟩ := layF (o := .lst xs) hp
  exact ⟨W2, e1, e3, p, xs, rfl, by rw [e2]; exact upd_same, h.mono e3.f⟩
def R_heard : List D → D → Prop := fun ds d =>
  (∃ (x y : D), R_drawn [x, y] d ∧ ds = [.int 0, x, y]) ∨
  (∃ (n : Nat) (ts : List Pr) (x : D) (i : Int), NetOk n ts ∧ Okd 3 x ∧ tupD x = ordD n ts ∧ (i < 0 ∨ ((playsF n ts (2 ^ n - 1)).length : Int) ≤ i) ∧ ds = [.int 0, x, .int i] ∧ d = .lst [.str "broken", .int i, .bl true]) ∨
  (∃ (x y : D), R_number [x, y] d ∧ ds = [.int 1, x, y]) ∨
  (∃ (n : Nat) (ts : List Pr) (ps : List Nat) (x y : D), GoodO n ts ∧ FewOk n ts ∧ PcOk n ps ∧ FreshP ts ps ∧ behF n ts ps ≠ [] ∧ Okd 3 x ∧ tupD x = ordD n ts ∧ Okd 1 y ∧ tupD y = nsD ps ∧ ds = [.int 1, x, y] ∧ d = .lst [.str "can not", .bl true])
theorem sc73 : FnScope ["_law_door_so", "_law_net_here", "_law_matter", "slip_so"] ["_law_door_so", "_law_net_here", "_law_matter"] (defScope (topS 73)) := ⟨rfl, rfl, rfl, by decide +kernel, rfl, by decide +kernel, by decide +kernel⟩
theorem heard_len {ds : List D} {d : D} (h : R_heard ds d) : ds.length = 3 := by
  rcases h with ⟨_, _, _, h⟩ | ⟨_, _, _, _, _, _, _, _, h, _⟩ | ⟨_, _, _, h⟩ | ⟨_, _, _, _, _, _, _, _, _, _, _, _, _, _, h, _⟩ <;> rw [h] <;> rfl
theorem ok_heard (T : Bn mg) (Tx : HdTxt K mg C C0) (D0 : Df K mg "_law_heard" (topS 73) ["_law_door_so", "_law_net_here", "_law_matter"]) (c1 : Cal P w K mg base 7 "play_drawn" (spF R_drawn)) (c2 : CalX P w K mg base 7 "play_drawn" (spR (R_brk C))) (c3 : Cal P w K mg base 8 "play_number" (spF R_number)) (c4 : CalX P w K mg base 8 "play_number" (spR (R_can C0))) : Cal P w K mg base 9 "_law_heard" (spF R_heard) :=
  mk_cal D0 sc73 (by decide) (fun ds d h => heard_len h) fun f cdv A outer s H E hr ds d hR => by
    refine hr_cons (M := fun _ => False) (fun t W0 W σ en l Ev De q1 q2 q3 q4 => ?_) (fun _ z => z.elim)
    refine wS_of (ps_try_ases (i := 3) (tb := trw _ _) (n := "slip_so") rfl rfl sc73.nd rfl rfl (fun Wx pn xe tk po => trw_ok _ Wx pn xe tk po) (.cons (c := .ref C0) ⟨rfl, rfl, .inl Tx.g0⟩ (sui_ok _) (.cons (c := .ref C) ⟨rfl, rfl, .inl Tx.gC⟩ (sui_ok _) .nil))) ?_
    intro pn xe tk po
    refine wSs_of (pss_one (ps_ret (pe_w _ _))) ?_
    show wE _ _ σ W.H De.rt
    obtain ⟨fD, fdD, psD, FD, hmD, kpD, bbD⟩ := c1.ex
    obtain ⟨fN, fdN, psN, FN, hmN, kpN, bbN⟩ := c3.ex
    rcases hR with ⟨x, y, hR1, rfl⟩ | ⟨n, ts, x, i, hN, h3, he, hi, rfl, rfl⟩ | ⟨x, y, hR1, rfl⟩ | ⟨n, ts, qs, x, y, hG, hF, hP, hFr, hB, h3, he, h1, he2, rfl, rfl⟩
    · refine sub_call (X := L2.Cx.tr (bdX P w K mg base ["_law_door_so", "_law_net_here", "_law_matter", "slip_so"] "_law_heard" (topS 73) f cdv A outer s H E) pn xe) (CX := CX0) (E := E0) (dd := 0) FD (hr.mono (by decide)) kpD bbD pass0 hmD hmN rfl rfl (by decide) (by decide) (x_nm 0) rfl (a_cons (x_nm 1) (a_cons (x_nm 2) a_nil)) (fun _ _ => rfl) rfl rfl rfl rfl l Ev (fun vs W2 e2 r2 => ?_)
      exact ⟨W2, [x, y], d, rfl, by rw [List.append_nil]; exact r2, hR1, fun v W3 e3 r3 => q2 v d σ W3 _ (l.ext Ev.tv (e2.trans e3)) (e2.trans e3).f (Ev.ext (e2.trans e3)) r3 rfl⟩
    · obtain ⟨fX, fdX, psX, FX, hmX, kpX, bbX⟩ := c2.ex
      refine sub_call (X := L2.Cx.tr (bdX P w K mg base ["_law_door_so", "_law_net_here", "_law_matter", "slip_so"] "_law_heard" (topS 73) f cdv A outer s H E) pn xe) (CX := L2.CX P w) (dd := 0) FX (hr.mono (by decide)) kpX bbX (passesL (E := fun cls d H' => ∀ σ' : L2.St, σ'.length = 4 → wAll K 3 De _ cls d σ' H') tk fun cls d σ' H' hl h => h σ' hl) hmX hmN rfl rfl (by decide) (by decide) (x_nm 0) rfl (a_cons (x_nm 1) (a_cons (x_nm 2) a_nil)) (fun _ _ => rfl) rfl rfl rfl rfl l Ev (fun vs W2 e2 r2 => ?_)
      refine ⟨W2, [x, .int i], rfl, by rw [List.append_nil]; exact r2, n, ts, x, i, hN, h3, he, hi, rfl, fun W3 e3 dd hdd σ' hl => ?_⟩
      refine ⟨false, Tx.m10, (fun z => nomatch z), fun _ => ⟨true, Tx.m11, fun _ a ha => ?_, fun z => nomatch z⟩⟩
      obtain ⟨W4, f1, f2, f3⟩ := lay (o := .xd [(("number" : Str), V.int i)]) hdd
      rw [← f1] at ha ⊢
      intro oe pn2 hz hf
      have hs3 : (σ'.set 3 (some (V.ref a)))[3]? = some (some (V.ref a)) := List.getElem?_set_self (by omega)
      have hxd : W4.H dd = some (.xd [(("number" : Str), V.int i)]) := by rw [f1]; exact upd_same
      refine wSs_of (pss_one (ps_ret (pe_lst (pa_cons pe_str (pa_cons (pe_xf Tx.x1 Tx.n1 hz hf (pe_var (i := 3) rfl (.inl rfl))) (pa_cons (pe_callB (call_isB Tx.e1 hz hf) rfl T.isinstance boot_isinstance (pa_cons (pe_var (i := 3) rfl (.inl rfl)) (pa_cons (pe_bltn (v := .ty "ValueError") rfl T.ValueError boot_VE rfl) pa_nil))) pa_nil)))))) ?_
      refine ⟨_, hs3, rfl, rfl, dd, _, .int i, rfl, hxd, rfl, ?_⟩
      refine ⟨_, hs3, .ty "ValueError", .type "ValueError", true, _, rfl, fun u ru => ?_, Tx.k1, hxd, ?_⟩
      · exact ru
      · refine ⟨by show 3 ≤ sizeLine; decide, fun p hp => ?_⟩
        obtain ⟨W5, g1, g2, g3⟩ := lst_at (ds := [.str "broken", .int i, .bl true]) (xs := [.str "broken", .int i, .bl true]) ⟨_, _, rfl, rfl, _, _, rfl, rfl, _, _, rfl, rfl, rfl⟩ hp
        have ee := e2.trans (e3.trans (f3.trans g2))
        show De.rt _ (upd W4.H p (.lst [.str "broken", .int i, .bl true]))
        rw [← g1]
        exact q2 _ _ σ W5 _ (l.ext Ev.tv ee) ee.f (Ev.ext ee) g3 rfl
    · refine sub_call (X := L2.Cx.tr (bdX P w K mg base ["_law_door_so", "_law_net_here", "_law_matter", "slip_so"] "_law_heard" (topS 73) f cdv A outer s H E) pn xe) (CX := CX0) (E := E0) (dd := 1) FN (hr.mono (by decide)) kpN bbN pass0 hmD hmN rfl rfl (by decide) (by decide) (x_nm 0) rfl (a_cons (x_nm 1) (a_cons (x_nm 2) a_nil)) (fun _ _ => rfl) rfl rfl rfl rfl l Ev (fun vs W2 e2 r2 => ?_)
      exact ⟨W2, [x, y], d, rfl, by rw [List.append_nil]; exact r2, hR1, fun v W3 e3 r3 => q2 v d σ W3 _ (l.ext Ev.tv (e2.trans e3)) (e2.trans e3).f (Ev.ext (e2.trans e3)) r3 rfl⟩
    · obtain ⟨fX, fdX, psX, FX, hmX, kpX, bbX⟩ := c4.ex
      refine sub_call (X := L2.Cx.tr (bdX P w K mg base ["_law_door_so", "_law_net_here", "_law_matter", "slip_so"] "_law_heard" (topS 73) f cdv A outer s H E) pn xe) (CX := L2.CX P w) (dd := 1) FX (hr.mono (by decide)) kpX bbX (passesL (E := fun cls d H' => ∀ σ' : L2.St, σ'.length = 4 → wAll K 3 De _ cls d σ' H') tk fun cls d σ' H' hl h => h σ' hl) hmD hmX rfl rfl (by decide) (by decide) (x_nm 0) rfl (a_cons (x_nm 1) (a_cons (x_nm 2) a_nil)) (fun _ _ => rfl) rfl rfl rfl rfl l Ev (fun vs W2 e2 r2 => ?_)
      refine ⟨W2, [x, y], rfl, by rw [List.append_nil]; exact r2, n, ts, qs, x, y, hG, hF, hP, hFr, hB, h3, he, h1, he2, rfl, fun W3 e3 σ' hl => ?_⟩
      refine ⟨true, Tx.m00, fun _ a ha => ?_, fun z => nomatch z⟩
      intro oe pn2 hz hf
      have hs3 : (σ'.set 3 (some (V.ref a)))[3]? = some (some (V.ref a)) := List.getElem?_set_self (by omega)
      refine wSs_of (pss_one (ps_ret (pe_lst (pa_cons pe_str (pa_cons (pe_callB (call_isE Tx.e0 hz hf) rfl T.isinstance boot_isinstance (pa_cons (pe_var (i := 3) rfl (.inl rfl)) (pa_cons (pe_bltn (v := .ty "ValueError") rfl T.ValueError boot_VE rfl) pa_nil))) pa_nil))))) ?_
      refine ⟨_, hs3, .ty "ValueError", .type "ValueError", true, rfl, fun u ru => ?_, Tx.k0, ?_⟩
      · exact ru
      · refine ⟨by show 2 ≤ sizeLine; decide, fun p hp => ?_⟩
        obtain ⟨W5, g1, g2, g3⟩ := lst_at (ds := [.str "can not", .bl true]) (xs := [.str "can not", .bl true]) ⟨_, _, rfl, rfl, _, _, rfl, rfl, rfl⟩ hp
        have ee := e2.trans (e3.trans g2)
        show De.rt _ (upd W3.H p (.lst [.str "can not", .bl true]))
        rw [← g1]
        exact q2 _ _ σ W5 _ (l.ext Ev.tv ee) ee.f (Ev.ext ee) g3 rfl
end
end G
-- Fw18
set_option maxHeartbeats 8000000
/-! Fw18: sorted(set(xs)), xs.count(k), xs.index(t). -/
namespace G
open PySem PySem.Spec PyProof.Rows L2
/-- the new set -/
abbrev nsO (w : World) : Obj := { cls := .type "set", dict := none, data := .set #[] 0 (.fresh 0 0 (!w.params.followText "set-order")) }
section
variable {P : Program} {w : World} {A : Around} {E : Value → Shared → Prop} {s : Shared}
/-- the first half: type.__call__ reaches set.__init__ -/
theorem set_lst {l : Addr} {items : Array Value} (ns : List Int) {Q : Value → Shared → Prop} (hh : A.handled = none) (hl : s.heap.IsList l items) (hit : IntsAre items.toList ns) (hb : ns.length + 1 < scanBound)
    (h : ∀ (h' : Heap) (tk c : Nat), SetR w h' s.heap.objs.size (fun j => decide (j ∈ ns)) c → c ≤ ns.length → (∀ b o, s.heap.get? b = some o → h'.get? b = some o) → Q (.ref s.heap.objs.size) { s with heap := h', toks := tk }) :
    wpAny (model P w) A (call (.type "set") [.ref l]) Q E s := by
  have len : items.size = ns.length := by rw [← IntsAre.length hit, Array.length_toList]
  obtain ⟨mc, mt, hmro⟩ := F.called_set.mro
  have f1 := F.called_set.made
  have f2 := F.called_set.sub
  have f3 := F.called_set.notType
  have f4 := F.called_set.canCreate
  have f5 := F.typeCall_set_1 (.ref l)
  refine wpAny_call (codeAny_of_tree ?_)
  show wpAny _ _ (callAny (.type "set") _) _ _ _
  refine wpAny_pure ⟨Code.quiet_builtin _ (by decide +kernel), codeAny_builtin F.entry_type_call ?_⟩
  rw [Around.under_plain (weight_type_call_type "set" [.ref l] []) rfl]
  repeat (any_goals (first | assumption | wp_step))
  refine codeAny_mono (code_set_led1 (.ref l) (E := E) (Q₁ := fun v z => v = .ref s.heap.objs.size ∧ z = { s with heap := s.heap.push (nsO w) }) ⟨rfl, rfl⟩) fun r1 z1 g1 => ?_
  match r1, g1 with
  | .error _, g1 => exact g1
  | .ok (.ret _), g1 =>
    obtain ⟨rfl, rfl⟩ := g1
    have new1 : (s.heap.push (nsO w)).get? s.heap.objs.size = some (nsO w) := Heap.get?_push_size _ rfl
    have ty1 : Shared.TypeIs { s with heap := s.heap.push (nsO w) } (.ref s.heap.objs.size) "set" := ⟨_, new1, rfl⟩
    have f6 := F.called_set.init.lookup
    have f7 := F.called_set.init.bind (.ref s.heap.objs.size)
    repeat (any_goals (first | assumption | wp_step))
    refine codeAny_mono (codeAny_call_builtin (R := wants (fun v z => v = .none ∧ ∃ h' tk c, z = { s with heap := h', toks := tk } ∧ SetR w h' s.heap.objs.size (fun j => decide (j ∈ ns)) c ∧ c ≤ ns.length ∧ ∀ b o, s.heap.get? b = some o → h'.get? b = some o) E) F.called_set.init.plain F.entry_set_init (check_set_init_1 ty1 ?_)) fun r2 z2 g2 => ?_
    · obtain ⟨⟨lc, ld, lda, lsl⟩, hol, e1, n, e2⟩ := hl
      simp only at e1 e2
      subst e1 e2
      have hol1 : (s.heap.push (nsO w)).get? l = some { cls := .type "list", dict := ld, data := .seq items n, slots := lsl } := Heap.get?_push_of_some _ hol
      have lis : (s.heap.push (nsO w)).IsList l items := ⟨_, hol1, rfl, n, rfl⟩
      have f8 := F.sub_list_set
      have f9 := F.sub_list_frozenset
      have f10 : (Value.type "list" == Value.type "dict") = false := by decide
      unfold Builtin.«set.__init__» noKeywords Builtin.Frozenset.updateFrom
      generalize hgen : pyIter = G0
      wp_walk
      subst hgen
      refine wpAny_pyIter_list lis (wpAny_bind (wpAny_runValue ?_))
      have lt1 : l < s.heap.objs.size := Heap.lt_size hol
      have sz : (s.heap.push (nsO w)).objs.size = s.heap.objs.size + 1 := Heap.size_push ..
      have ne1 : l ≠ (s.heap.push (nsO w)).objs.size := by
        rw [sz]
        exact Nat.ne_of_lt (Nat.lt_succ_of_lt lt1)
      have nin : s.heap.objs.size ∉ [(s.heap.push (nsO w)).objs.size, l] := by
        intro z
        rcases List.mem_cons.mp z with z | z
        · rw [sz] at z
          exact absurd z (Nat.ne_of_lt (Nat.lt_succ_self _))
        · have z2 := List.mem_singleton.mp z
          exact absurd z2 (Nat.ne_of_gt lt1)
      have val : ∀ (i : Nat) (v : Value), items[i]? = some v → ∃ k t, ns[i]? = some k ∧ v = .int k t := fun i v hv => by
        have hi : i < ns.length := by rw [← len]; exact (Array.getElem?_eq_some_iff.mp hv).1
        obtain ⟨t, e⟩ := IntsAre.int_at hit i v (by rw [Array.getElem?_toList]; exact hv)
        refine ⟨ns[i], t, List.getElem?_eq_getElem hi, ?_⟩
        rw [e, List.getD_eq_getElem?_getD, List.getElem?_eq_getElem hi] <;> rfl
      refine set_update_ints ((Walks.list (by simp [hh]) _ l ne1 items).toS) s.heap.objs.size nin ns len hb val (items.size - 0) 0 _ (by omega) (Nat.zero_le _) ⟨⟨_, Heap.get?_push_size _ rfl, rfl, rfl⟩, lis.push _⟩ ⟨0, Nat.le_refl 0, setR_new_at (Heap.get?_push_of_some _ new1)⟩ fun z3 c hm hc hS => ?_
      obtain ⟨h3, g3, d3, t3, o3⟩ := z3
      have e3 : g3 = s.gens := hm.gens
      have e4 : d3 = s.drawn := hm.drawn
      have e5 : o3 = s.os := hm.os
      subst e3 e4 e5
      show wpAny _ _ _ _ _ _
      refine wpAny_pure ?_
      show wpAny _ _ (ret Value.none) _ _ _
      rw [len] at hc
      refine wpAny_pure ⟨rfl, h3, t3, c, rfl, hS, hc, fun b o e => ?_⟩
      have hb0 : b < s.heap.objs.size := Heap.lt_size e
      refine hm.heap b o (fun z => ?_) (Heap.get?_push_of_some _ (Heap.get?_push_of_some _ e))
      rcases List.mem_cons.mp z with z | z
      · exact absurd z (Nat.ne_of_lt hb0)
      · have z2 := List.mem_singleton.mp z
        have z3 : (s.heap.push (nsO w)).objs.size = s.heap.objs.size + 1 := Heap.size_push ..
        rw [z3] at z2
        exact absurd z2 (Nat.ne_of_lt (Nat.lt_succ_of_lt hb0))
    · match r2, g2 with
      | .error _, g2 => exact g2
      | .ok (.ret _), g2 =>
        obtain ⟨rfl, h', tk, c, rfl, hS, hc, hk⟩ := g2
        repeat (any_goals (first | assumption | wp_step))
        exact h _ _ _ hS hc hk
end
end G
-- Fw19
set_option maxHeartbeats 4000000
/-! Fw19: sorted(set(xs)), xs.count(k), xs.index(t) by data. -/
namespace G
open PySem PySem.Spec PyProof.Rows L2
section
variable {X : Cx}
/-- set(xs), xs of small numbers -/
def rSetL (K : PySem.W.Frag) (w : World) : List V → Hp → VK → Prop := fun xs H Q => ∃ (l : Addr) (ns : List Nat), xs = [.ref l] ∧ SqL K H l ((ns.map Int.ofNat).map V.int) ∧ ns.length ≤ 1000 ∧ (∀ k ∈ ns, k < 62) ∧ ∀ p c, H p = none → c < 64 → Q (.ref p) (upd H p (SetO w p (fun j => decide (j ∈ ns.map Int.ofNat)) c))
theorem cr_setL (hc : X.calm = true) : CallR X (.type "set") (rSetL X.K X.w) := by
  intro pins s σ H xs us Q I r h
  obtain ⟨l, ns, rfl, hl, hz, hb, q⟩ := h
  rw [Vals.ref1 r]
  obtain ⟨its, rv, pl, _⟩ := I.list hl
  have hn : H s.heap.objs.size = none := I.hok.fresh (Nat.le_refl _)
  refine set_lst (P := X.prog) (w := X.w) (ns.map Int.ofNat) (I.ok.hd hc) pl.isList (by simpa using ints_of_vals rv) (by rw [List.length_map]; unfold scanBound; omega) fun h' tk c R _ k => ?_
  have hc64 : c < 64 := by
    obtain ⟨o, es, ep, t, ho, hx, hd, g, nd, hm, hs, hf, hn, _⟩ := R
    have hmem : ∀ k ∈ es.toList.map keyOf, ∃ n ∈ ns, k = (n : Int) := fun k hk => by
      have := of_decide_eq_true ((hm k).mpr hk)
      obtain ⟨n, hn, e⟩ := List.mem_map.mp this
      exact ⟨n, hn, e.symm⟩
    have nd2 : ((es.toList.map keyOf).map Int.toNat).Nodup := by
      unfold List.Nodup at nd ⊢
      rw [List.pairwise_map]
      refine List.Pairwise.imp_of_mem (fun {a b} ha hb2 h e => h ?_) nd
      obtain ⟨m, _, e1⟩ := hmem a ha
      obtain ⟨n, _, e2⟩ := hmem b hb2
      subst e1 e2
      have e : m = n := e
      rw [e]
    have := nodup_len (m := 62) nd2 fun x hx => by
      obtain ⟨k, hk, rfl⟩ := List.mem_map.mp hx
      obtain ⟨n, hn2, e⟩ := hmem k hk
      subst e
      exact hb n hn2
    rw [List.length_map, List.length_map, Array.length_toList] at this
    omega
  exact ⟨.ref s.heap.objs.size, upd H s.heap.objs.size (SetO X.w s.heap.objs.size (fun j => decide (j ∈ ns.map Int.ofNat)) c), I.laid (t' := tk) k (Nat.le_refl _) (setO_new R), rfl, q _ c hn hc64⟩
end
theorem boot_setT : bootBuiltins "set" = some (.type "set") := by decide +kernel
section
variable {X : Cx} {Γ : Ctx} {e a b : Expr} {pos p p2 apos pos2 : Pos} {d : D}
theorem o_sortedSet (T : Bn X.mg) (hc : X.calm = true) {ns ks : List Nat} (h : RdX X e Γ (.lst (ns.map nD))) (hz : ns.length ≤ 1000) (hb : ∀ k ∈ ns, k < 62) (hk : ks.Pairwise (· < ·)) (hm : ∀ k, k ∈ ks ↔ k ∈ ns) (hg : Gl X "sorted" := by rfl) (hg2 : Gl X "set" := by rfl) (he : starEach [e] X.env = (false, eval e X.env) :: starEach [] X.env := by rfl)
    (he2 : starEach [.Call (.Name "set" p2) [e] [] pos2] X.env = (false, eval (.Call (.Name "set" p2) [e] [] pos2) X.env) :: starEach [] X.env := by first | exact st_call | rfl) : EvO X (.Call (.Name "sorted" p) [.Call (.Name "set" p2) [e] [] pos2] [] pos) Γ (.L (ks.map nD)) := fun t W0 W σ l E Q q =>
  wE_of (pe_callB (cr_sortedSet hc) hg T.sorted boot_sorted (pa_cons (pe_callTy (cr_setL hc) hg2 T.set boot_setT (pa_cons (pe_w X e) pa_nil he) (by decide) (by decide) he rfl) pa_nil he2) (by decide) (by decide) he2 rfl) (h t W0 W σ l E _ fun v W1 e1 r1 => by
    obtain ⟨a0, xs, rfl, ha, hx⟩ := r1
    have ex : xs = (ns.map Int.ofNat).map V.int := RpA.ints (by rw [map_ofNat]; exact hx)
    subst ex
    refine ⟨a0, ns, rfl, SqL.of ha, hz, hb, fun p3 c hp hc64 => ?_⟩
    obtain ⟨W2, f1, f2, f3⟩ := lay (o := SetO X.w p3 (fun j => decide (j ∈ ns.map Int.ofNat)) c) hp
    rw [← f1]
    refine ⟨p3, _, c, rfl, by rw [f1]; exact upd_same, hc64, fun os p4 ho hmm _ hp4 => ?_⟩
    have eo : os = ks.map Int.ofNat := by
      refine uniq_of (r := (· < ·)) (fun a b h1 h2 => by omega) ho ?_ fun x => ?_
      · rw [List.pairwise_map]
        exact hk.imp fun h => Int.ofNat_lt.mpr h
      · rw [hmm x, decide_eq_true_iff, List.mem_map, List.mem_map]
        constructor
        · rintro ⟨n, h1, h2⟩
          exact ⟨n, (hm n).mpr h1, h2⟩
        · rintro ⟨n, h1, h2⟩
          exact ⟨n, (hm n).mp h1, h2⟩
    subst eo
    refine lst_fresh (W := W2) (ds := ks.map nD) (xs := (ks.map Int.ofNat).map V.int) ?_ (fun v W3 e3 r3 => q v W3 (e1.trans (f3.trans e3)) (r3.back (e1.trans f3))) p4 hp4
    have := RpA.ints_mk (F := W2.F) (ks.map Int.ofNat)
    rw [map_ofNat] at this
    exact this)
theorem count_ofNat (k : Nat) : ∀ ns : List Nat, (ns.map Int.ofNat).count (k : Int) = ns.count k
  | [] => rfl
  | n :: ns => by
    rw [List.map_cons, List.count_cons, List.count_cons, count_ofNat k ns]
    congr 1
    by_cases e : n = k
    · subst e
      simp
    · simp [e]
      omega
/-- xs.count(k) -/
theorem x_count {ns : List Nat} {k : Nat} (h1 : RdX X a Γ (.lst (ns.map nD))) (h2 : EvX X b Γ (nD k)) (hbase : attributeBase a "count" X.env (eval a X.env) = eval a X.env := by rfl)
    (hfew : ((backTo pos (starEach [b] X.env)).all (fun x => !x.1) && (backToKw pos (keywordEach [] X.env)).all (fun x => x.1.isSome)
      && decide (([b] : List Expr).length + ([] : List Keyword).length + (if ([] : List Keyword).isEmpty then 0 else 1) < 30)) = true := by rfl)
    (hline : (apos.endLine == pos.line) = true := by rfl) (hst : starEach [b] X.env = (false, eval b X.env) :: starEach [] X.env := by rfl) : EvX X (.Call (.Attribute a "count" apos) [b] [] pos) Γ (nD (ns.count k)) := fun t W0 W σ l E Q q =>
  wE_of (pe_bm PySem.F.plainAttrs_list PySem.F.slot_list_count PySem.F.type_list_count mt_lcount (pe_w X a) (pa_cons (pe_w X b) pa_nil hst) hbase hfew hline hst rfl) (h1 t W0 W σ l E _ fun v W1 e1 r1 => by
    obtain ⟨a0, xs, rfl, ha, hx⟩ := r1
    have ex : xs = (ns.map Int.ofNat).map V.int := RpA.ints (by rw [map_ofNat]; exact hx)
    subst ex
    refine ⟨.inl ⟨rfl, _, SqL.of ha⟩, h2 t W0 W1 σ (l.ext E.tv e1) (E.ext e1) _ fun v2 W2 e2 r2 => ?_⟩
    have r2 : v2 = .int (k : Int) := r2
    subst r2
    refine ⟨a0, ns.map Int.ofNat, (k : Int), rfl, rfl, SqL.of (e2.h _ _ ha), q _ W2 (e1.trans e2) ?_⟩
    rw [count_ofNat]
    rfl)
end
end G
-- La13
set_option maxHeartbeats 4000000
/-! La13: xs.index(t), t[:-1]. -/
namespace G
open PySem PySem.Spec PyProof.Rows L2
def iP (q : List Nat) : PyData := .tuple (q.map fun n : Nat => PyData.int (n : Int))
theorem pyD_nsD (q : List Nat) : pyD (nsD q) = iP q := by
  unfold nsD iP
  rw [pyD, pyD_ints]
theorem eqv_ints : ∀ p q : List Nat, PyData.eqvAll (p.map fun n : Nat => PyData.int (n : Int)) (q.map fun n : Nat => PyData.int (n : Int)) = decide (p = q)
  | [], [] => by simp [PyData.eqvAll]
  | [], b :: q => by simp [PyData.eqvAll]
  | a :: p, [] => by simp [PyData.eqvAll]
  | a :: p, b :: q => by
    rw [List.map_cons, List.map_cons, PyData.eqvAll, eqv_ints p q, PyData.eqv]
    by_cases e : a = b
    · subst e
      simp
    · have e2 : ((a : Int) == (b : Int)) = false := by
        rw [beq_eq_false_iff_ne]
        omega
      rw [e2, Bool.false_and]
      symm
      exact decide_eq_false fun z => e (List.cons.inj z).1
theorem eqv_iP (p q : List Nat) : PyData.eqv (iP p) (iP q) = decide (p = q) := by
  unfold iP
  rw [PyData.eqv]
  exact eqv_ints p q
theorem lay_iP (q : List Nat) : (iP q).canLay0 = true := by
  unfold iP
  rw [PyData.canLay0]
  exact lay_ints q
theorem dep_iP (q : List Nat) : (iP q).depth ≤ 2 := by
  unfold iP
  rw [PyData.depth]
  have := dep_ints q
  omega
theorem lay_iPs : ∀ xs : List (List Nat), PyData.canLayAll0 (xs.map iP) = true
  | [] => by simp [PyData.canLayAll0]
  | x :: xs => by simp [PyData.canLayAll0, lay_iP, lay_iPs xs]
theorem dep_iPs : ∀ xs : List (List Nat), PyData.depthAll (xs.map iP) ≤ 2
  | [] => by simp [PyData.depthAll]
  | x :: xs => by
    have h1 := dep_iP x
    have h2 := dep_iPs xs
    simp only [List.map_cons, PyData.depthAll]
    omega
theorem pyD_plD (xs : List (List Nat)) : pyD (plD xs) = .list (xs.map iP) := by
  unfold plD
  rw [pyD, pyDs_map, List.map_map]
  congr 1
  refine List.map_congr_left fun q _ => ?_
  exact pyD_nsD q
theorem sh_iP (q : List Nat) : SeqAt.shaped (iP q) = true := Bool.and_eq_true_iff.mpr ⟨lay_iP q, decide_eq_true (by have := dep_iP q; omega)⟩
theorem sh_iPs (xs : List (List Nat)) : SeqAt.shaped (.list (xs.map iP)) = true := by
  refine Bool.and_eq_true_iff.mpr ⟨?_, decide_eq_true ?_⟩
  · rw [PyData.canLay0]
    exact lay_iPs xs
  · rw [PyData.depth]
    have := dep_iPs xs
    omega
theorem noDc_nsD (q : List Nat) : noDc (nsD q) = true := by
  unfold nsD
  rw [noDc, noDcs_all, List.all_eq_true]
  intro d hd
  obtain ⟨n, _, rfl⟩ := List.mem_map.mp hd
  rfl
theorem noDc_plD (xs : List (List Nat)) : noDc (plD xs) = true := by
  unfold plD
  rw [noDc, noDcs_all, List.all_eq_true]
  intro d hd
  obtain ⟨n, _, rfl⟩ := List.mem_map.mp hd
  exact noDc_nsD n
theorem first_at {α : Type} [DecidableEq α] {p : α} : ∀ {xs : List α}, p ∈ xs → ∃ j : Nat, xs[j]? = some p ∧ ∀ m : Nat, m < j → xs[m]? ≠ some p
  | a :: xs, h => by
    by_cases e : a = p
    · exact ⟨0, by rw [e]; rfl, fun m hm => by omega⟩
    · rcases List.mem_cons.mp h with z | z
      · exact (e z.symm).elim
      · obtain ⟨j, h1, h2⟩ := first_at z
        refine ⟨j + 1, by simpa using h1, fun m hm => ?_⟩
        cases m with
        | zero =>
          intro z2
          exact e (Option.some.inj z2)
        | succ m =>
          have := h2 m (by omega)
          simpa using this
section
variable {X : Cx} {Γ : Ctx} {e a b : Expr} {pos p p2 apos pos2 : Pos} {d : D}
/-- xs.index(t), xs a list of tuples of numbers -/
theorem x_indexT (hu : X.A.units + 65 < cLine) {xs : List (List Nat)} {q : List Nat} {j : Nat} (h1 : RdX X a Γ (plD xs)) (h2 : EvX X b Γ (nsD q)) (hj : xs[j]? = some q) (hno : ∀ m : Nat, m < j → xs[m]? ≠ some q) (hbase : attributeBase a "index" X.env (eval a X.env) = eval a X.env := by rfl)
    (hfew : ((backTo pos (starEach [b] X.env)).all (fun x => !x.1) && (backToKw pos (keywordEach [] X.env)).all (fun x => x.1.isSome)
      && decide (([b] : List Expr).length + ([] : List Keyword).length + (if ([] : List Keyword).isEmpty then 0 else 1) < 30)) = true := by rfl)
    (hline : (apos.endLine == pos.line) = true := by rfl) (hst : starEach [b] X.env = (false, eval b X.env) :: starEach [] X.env := by rfl) : EvX X (.Call (.Attribute a "index" apos) [b] [] pos) Γ (nD j) := fun t W0 W σ l E Q qq =>
  wE_of (pe_bm PySem.F.plainAttrs_list PySem.F.slot_list_index PySem.F.type_list_index (mt_indexD hu) (pe_w X a) (pa_cons (pe_w X b) pa_nil hst) hbase hfew hline hst rfl) (h1 t W0 W σ l E _ fun v W1 e1 r1 => by
    have r0 : Rq W1 (.lst (xs.map nsD)) v := r1
    obtain ⟨a0, vs, rfl, ha, hx⟩ := r0
    refine ⟨.inl ⟨rfl, _, SqL.of ha⟩, h2 t W0 W1 σ (l.ext E.tv e1) (E.ext e1) _ fun v2 W2 e2 r2 => ?_⟩
    have dl := rq_dp (K := X.K) (noDc_plD xs) (r1.ext e2)
    have dq := rp_dp (K := X.K) _ _ (noDc_nsD q) r2
    rw [pyD_plD] at dl
    rw [pyD_nsD] at dq
    refine ⟨a0, v2, iP q, xs.map iP, j, iP q, rfl, rfl, dl, dq, sh_iPs xs, sh_iP q, ?_, ?_, fun m z hm hz => ?_, qq _ W2 (e1.trans e2) rfl⟩
    · rw [List.getElem?_map, hj]
      rfl
    · rw [eqv_iP]
      exact decide_eq_true rfl
    · rw [List.getElem?_map] at hz
      cases hy : xs[m]? with
      | none =>
        rw [hy] at hz
        cases hz
      | some y =>
        rw [hy] at hz
        have ez : iP y = z := Option.some.inj hz
        rw [← ez, eqv_iP]
        exact decide_eq_false fun z2 => hno m hm (by rw [hy, z2]))
theorem cut_last (q : List Nat) : cutD (q.map nD) none (some (-1)) = (q.take (q.length - 1)).map nD := by
  unfold cutD
  have e1 : HT.sIx (q.map nD).length 0 none = 0 := rfl
  have e2 : HT.sIx (q.map nD).length (q.map nD).length (some (-1)) = q.length - 1 := by
    rw [List.length_map]
    unfold HT.sIx
    simp
    omega
  rw [e1, e2, List.drop_zero, Nat.sub_zero, List.map_take]
/-- t[:-1] -/
theorem x_butlast {q : List Nat} {k : Nat} {p3 : Pos} (h : RdX X a Γ (nsD q)) : EvX X (.Subscript a (.Slice none (some (.UnaryOp .USub (.Constant (.int 1) k p) p2)) none p3) pos) Γ (nsD (q.take (q.length - 1))) :=
  xt (x_slT (zl := none) (zh := some (-1)) h p_none (p_some (x_neg x_int))) (by rw [cut_last]; rfl)
end
end G
-- M16
set_option maxHeartbeats 4000000
/-! M16: data that is handed in; what is due. -/
namespace G
open PySem PySem.Spec PyProof.Rows L2
theorem okd_nD (m n : Nat) : Okd m (nD n) := by
  cases m with
  | zero => rfl
  | succ m => exact .inl rfl
theorem okd_prD (m : Nat) (p : Pr) : Okd (m + 1) (prD p) := .inr ⟨_, .inr rfl, by show 2 ≤ 100000; omega, fun e he => by
  rcases List.mem_cons.mp he with z | z
  · rw [z]
    exact okd_nD _ _
  · rw [List.mem_singleton.mp z]
    exact okd_nD _ _⟩
theorem okd_ordD (n : Nat) {ts : List Pr} (h : ts.length ≤ 100000) : Okd 3 (ordD n ts) := .inr ⟨_, .inr rfl, by show 2 ≤ 100000; omega, fun e he => by
  rcases List.mem_cons.mp he with z | z
  · rw [z]
    exact okd_nD _ _
  · rw [List.mem_singleton.mp z]
    refine .inr ⟨_, .inr rfl, by rw [List.length_map]; exact h, fun e he => ?_⟩
    obtain ⟨p, _, rfl⟩ := List.mem_map.mp he
    exact okd_prD 0 p⟩
theorem okd_nsD {ps : List Nat} (h : ps.length ≤ 100000) : Okd 1 (nsD ps) := .inr ⟨_, .inr rfl, by rw [List.length_map]; exact h, fun e he => by
  obtain ⟨p, _, rfl⟩ := List.mem_map.mp he
  rfl⟩
theorem okd_nsL {ps : List Nat} (h : ps.length ≤ 100000) : Okd 1 (.lst (ps.map nD)) := .inr ⟨_, .inl rfl, by rw [List.length_map]; exact h, fun e he => by
  obtain ⟨p, _, rfl⟩ := List.mem_map.mp he
  rfl⟩
theorem tup_nD (n : Nat) : tupD (nD n) = nD n := leaf_tupD rfl
theorem tup_prD (p : Pr) : tupD (prD p) = prD p := by
  unfold prD
  rw [tupD, tupDs_map]
  simp only [List.map_cons, List.map_nil, tup_nD]
theorem tup_nsD (ps : List Nat) : tupD (nsD ps) = nsD ps := by
  unfold nsD
  rw [tupD, tupDs_map, List.map_map]
  exact congrArg D.tup (List.map_congr_left fun p _ => tup_nD p)
theorem tup_nsL (ps : List Nat) : tupD (.lst (ps.map nD)) = nsD ps := by
  unfold nsD
  rw [tupD, tupDs_map, List.map_map]
  exact congrArg D.tup (List.map_congr_left fun p _ => tup_nD p)
theorem tup_tsD (ts : List Pr) : tupD (tsD ts) = tsD ts := by
  unfold tsD
  rw [tupD, tupDs_map, List.map_map]
  exact congrArg D.tup (List.map_congr_left fun p _ => tup_prD p)
theorem tup_ordD (n : Nat) (ts : List Pr) : tupD (ordD n ts) = ordD n ts := by
  unfold ordD
  rw [tupD, tupDs_map]
  simp only [List.map_cons, List.map_nil, tup_nD, tup_tsD]
theorem lst_nD (n : Nat) : lstD (nD n) = nD n := leaf_lstD rfl
/-- an order in lists -/
def softD (n : Nat) (ts : List Pr) : D := .lst [nD n, .lst (ts.map fun p => .lst [nD p.1, nD p.2])]
theorem lst_ordD (n : Nat) (ts : List Pr) : lstD (ordD n ts) = softD n ts := by
  have e1 : ∀ p : Pr, lstD (prD p) = .lst [nD p.1, nD p.2] := fun p => by
    unfold prD
    rw [lstD, lstDs_map]
    simp only [List.map_cons, List.map_nil, lst_nD]
  have e2 : lstD (tsD ts) = .lst (ts.map fun p => .lst [nD p.1, nD p.2]) := by
    unfold tsD
    rw [lstD, lstDs_map, List.map_map]
    exact congrArg D.lst (List.map_congr_left fun p _ => e1 p)
  unfold ordD softD
  rw [lstD, lstDs_map]
  simp only [List.map_cons, List.map_nil, lst_nD, e2]
theorem okd_soft (n : Nat) {ts : List Pr} (h : ts.length ≤ 100000) : Okd 3 (softD n ts) := .inr ⟨_, .inl rfl, by show 2 ≤ 100000; omega, fun e he => by
  rcases List.mem_cons.mp he with z | z
  · rw [z]
    exact okd_nD _ _
  · rw [List.mem_singleton.mp z]
    refine .inr ⟨_, .inl rfl, by rw [List.length_map]; exact h, fun e he => ?_⟩
    obtain ⟨p, _, rfl⟩ := List.mem_map.mp he
    exact .inr ⟨_, .inl rfl, by show 2 ≤ 100000; omega, fun e he => by
      rcases List.mem_cons.mp he with z | z
      · rw [z]
        exact okd_nD _ _
      · rw [List.mem_singleton.mp z]
        exact okd_nD _ _⟩⟩
theorem tup_soft (n : Nat) (ts : List Pr) : tupD (softD n ts) = ordD n ts := by
  have e1 : ∀ p : Pr, tupD (.lst [nD p.1, nD p.2]) = prD p := fun p => by
    unfold prD
    rw [tupD, tupDs_map]
    simp only [List.map_cons, List.map_nil, tup_nD]
  have e2 : tupD (.lst (ts.map fun p => .lst [nD p.1, nD p.2])) = tsD ts := by
    unfold tsD
    rw [tupD, tupDs_map, List.map_map]
    exact congrArg D.tup (List.map_congr_left fun p _ => e1 p)
  unfold softD ordD
  rw [tupD, tupDs_map]
  simp only [List.map_cons, List.map_nil, tup_nD, e2]
/-! ### a left by its pieces -/
theorem bits_pcs {b : Nat} (h : b < 2 ^ 60) : bitsF (pcsF b) = b := by
  refine Nat.eq_of_testBit_eq fun i => ?_
  rw [bitsF_bit ((pcs_strict b).imp fun h => Nat.ne_of_lt h) i]
  cases e : b.testBit i with
  | true =>
    have := bit_lt h e
    exact decide_eq_true (mem_pcs.mpr ⟨by omega, e⟩)
  | false =>
    refine decide_eq_false fun z => ?_
    rw [(mem_pcs.mp z).2] at e
    cases e
theorem pcs_left {n : Nat} {ts : List Pr} (N : Net n ts) {b : Nat} (hb : b ∈ leftsF n ts) : LeftOk n ts (pcsF b) where
  pc := ⟨fun x hx => (N.step hb hx).1, by have := pcs_len b; omega⟩
  asc := pcs_strict b
  cl := fun p hp h => by
    obtain ⟨_, hc⟩ := N.mem.mp hb
    have h2 := hc p hp (mem_pcs.mp h).2
    have := N.prs p hp
    have := (mem_pcs.mp h).1
    exact mem_pcs.mpr ⟨by omega, h2⟩
theorem in_ok {n : Nat} {ts : List Pr} (O : NetOk n ts) (N : Net n ts) {b : Nat} (hb : b ∈ leftsF n ts) {x y : D} (x3 : Okd 3 x) (xe : tupD x = ordD n ts) (y1 : Okd 1 y) (ye : tupD y = nsD (pcsF b)) : InOk n ts (pcsF b) x y :=
  ⟨O.go, O.fe, O.cl, pcs_left N hb, by rw [bits_pcs (N.clo.lt b hb)]; exact hb, x3, xe, y1, ye⟩
/-- counted -/
theorem how_due {n : Nat} {ts : List Pr} (O : NetOk n ts) (N : Net n ts) {b : Nat} (hb : b ∈ leftsF n ts) {x y : D} (x3 : Okd 3 x) (xe : tupD x = ordD n ts) (y1 : Okd 1 y) (ye : tupD y = nsD (pcsF b)) : R_how_many [x, y] (nD (playsF n ts b).length) :=
  ⟨n, ts, pcsF b, x, y, in_ok O N hb x3 xe y1 ye, rfl, by rw [bits_pcs (N.clo.lt b hb), N.play.cnt b hb]; rfl⟩
/-- won ones -/
theorem won_due {n : Nat} {ts : List Pr} (O : NetOk n ts) (N : Net n ts) {b : Nat} (hb : b ∈ leftsF n ts) {x y : D} (x3 : Okd 3 x) (xe : tupD x = ordD n ts) (y1 : Okd 1 y) (ye : tupD y = nsD (pcsF b)) : R_won [x, y] (nD ((playsF n ts b).countP fun p => decide (p.length % 2 = 1))) := by
  have e := bits_pcs (N.clo.lt b hb)
  refine ⟨n, ts, pcsF b, x, y, in_ok O N hb x3 xe y1 ye, ⟨65, by omega, by rw [e]; exact len_key N hb⟩, rfl, ?_⟩
  rw [e, won_odd (len_ok N hb)]
/-- by length -/
theorem len_due {n : Nat} {ts : List Pr} (O : NetOk n ts) (N : Net n ts) {b : Nat} (hb : b ∈ leftsF n ts) {x y : D} (x3 : Okd 3 x) (xe : tupD x = ordD n ts) (y1 : Okd 1 y) (ye : tupD y = nsD (pcsF b)) {ks : List Nat} (hk : ks.Pairwise (· < ·)) (hm : ∀ k, k ∈ ks ↔ ∃ p ∈ playsF n ts b, p.length = k) : R_by_length [x, y] (tsD (byLen (playsF n ts b) ks)) := by
  have e := bits_pcs (N.clo.lt b hb)
  refine ⟨n, ts, pcsF b, x, y, _, in_ok O N hb x3 xe y1 ye, ?_, byLen_asc _ hk, rfl, rfl⟩
  rw [e]
  exact byLen_perm (len_ok N hb) hk hm
/-! ### plays as trips -/
structure WholeP (n : Nat) (ts : List Pr) (p : List Nat) : Prop where
  pc : PcOk n p
  fr : FreshP ts p
  be : behF n ts p = []
  l : p.length ≤ 64
theorem whole_p {n : Nat} {ts : List Pr} (N : Net n ts) {p : List Nat} (h : p ∈ playsF n ts (2 ^ n - 1)) : WholeP n ts p := by
  obtain ⟨h1, h2⟩ := play_trip N p _ N.whole h
  obtain ⟨h3, h4⟩ := TripOk.lt N p _ N.whole h1
  have h5 := plays_len _ _ _ p h
  exact ⟨⟨h4, by omega⟩, trip_fresh N N.whole h1, beh_whole N h1 h2, h5⟩
structure CutP (n : Nat) (ts : List Pr) (p : List Nat) : Prop where
  pc : PcOk n p
  fr : FreshP ts p
  be : behF n ts p ≠ []
theorem cut_p {n : Nat} {ts : List Pr} (N : Net n ts) {p : List Nat} (h : p ∈ playsF n ts (2 ^ n - 1)) (hp : p ≠ []) : CutP n ts (p.take (p.length - 1)) := by
  obtain ⟨h1, h2⟩ := play_trip N p _ N.whole h
  have hl : 0 < p.length := List.length_pos_iff.mpr hp
  obtain ⟨g1, g2⟩ := beh_cut N (i := p.length - 1) (x := p[p.length - 1]) h1 (List.getElem?_eq_getElem (by omega))
  obtain ⟨h3, h4⟩ := TripOk.lt N _ _ N.whole g1
  have h5 := plays_len _ _ _ p h
  refine ⟨⟨h4, ?_⟩, trip_fresh N N.whole g1, g2⟩
  rw [List.length_take]
  omega
theorem play_ne {n : Nat} {ts : List Pr} (N : Net n ts) (hn : 1 ≤ n) {p : List Nat} (h : p ∈ playsF n ts (2 ^ n - 1)) : p ≠ [] := by
  intro e
  subst e
  have h0 : 2 ^ n - 1 ≠ 0 := by
    have := Nat.pow_le_pow_right (show 0 < 2 by decide) hn
    omega
  rw [N.unf N.whole h0] at h
  obtain ⟨q, _, h2⟩ := List.mem_flatMap.mp h
  obtain ⟨r, _, e⟩ := List.mem_map.mp h2
  cases e
/-- there is one -/
theorem play_some {n : Nat} {ts : List Pr} (N : Net n ts) : ∀ (m b : Nat), b ∈ leftsF n ts → (pcsF b).length ≤ m → 0 < (playsF n ts b).length
  | m, b, hb, h => by
    by_cases h0 : b = 0
    · subst h0
      unfold playsF
      rw [plays_zero]
      exact Nat.one_pos
    · have hp0 := pcs_pos (N.clo.lt b hb) h0
      cases m with
      | zero => omega
      | succ m =>
        rw [N.unf hb h0]
        have hm : (pcsF b)[0] ∈ pcsF b := List.getElem_mem hp0
        obtain ⟨h1, h2, h3⟩ := N.step hb hm
        have ht : ((topsF n ts).getD (pcsF b)[0] 0).testBit (pcsF b)[0] = true := (N.top h1 _).mpr (.refl _)
        have hl := pcs_lt hm ht
        have ih := play_some N m _ h2 (by omega)
        rw [List.length_flatMap]
        have : 0 < (begF n ts b (pcsF b)[0]).length := by
          unfold begF
          rw [List.length_map]
          exact ih
        exact Nat.lt_of_lt_of_le this (le_sum _ (List.mem_map.mpr ⟨_, hm, rfl⟩))
where
  le_sum {x : Nat} : ∀ l : List Nat, x ∈ l → x ≤ l.sum
    | a :: l, h => by
      rw [List.sum_cons]
      rcases List.mem_cons.mp h with z | z
      · omega
      · have := le_sum l z
        omega
theorem count_len (xs : List (List Nat)) (k : Nat) : (xs.map List.length).count k = cL xs k := by
  unfold cL List.count
  rw [List.countP_map]
  refine List.countP_congr fun p _ => ?_
  simp
theorem odd_len (xs : List (List Nat)) : ((xs.map List.length).filter fun k => decide (k % 2 = 1)).length = xs.countP fun p => decide (p.length % 2 = 1) := by
  rw [← List.countP_eq_length_filter, List.countP_map]
  rfl
/-! ### like kinds at every depth -/
theorem sd_nD (m n : Nat) : Sd m (nD n) := by
  cases m with
  | zero => rfl
  | succ m => exact .inl rfl
theorem sd_mono : ∀ {m : Nat} {x : D}, Sd m x → Sd (m + 1) x
  | 0, x, h => .inl h
  | m + 1, x, h => by
    rcases h with h | ⟨ds, h1, h2, h3⟩
    · exact .inl h
    · exact .inr ⟨ds, h1, h2, fun e he => sd_mono (h3 e he)⟩
theorem sd_nsD (m : Nat) {ps : List Nat} (h : ps.length ≤ 100000) : Sd (m + 1) (nsD ps) := .inr ⟨_, .inr rfl, by rw [List.length_map]; exact h, fun e he => by
  obtain ⟨p, _, rfl⟩ := List.mem_map.mp he
  exact sd_nD _ _⟩
theorem sd_tsD (m : Nat) {ps : List Pr} (h : ps.length ≤ 100000) : Sd (m + 2) (tsD ps) := .inr ⟨_, .inr rfl, by rw [List.length_map]; exact h, fun e he => by
  obtain ⟨p, _, rfl⟩ := List.mem_map.mp he
  refine .inr ⟨_, .inr rfl, by show 2 ≤ 100000; omega, fun e he => ?_⟩
  rcases List.mem_cons.mp he with z | z
  · rw [z]
    exact sd_nD _ _
  · rw [List.mem_singleton.mp z]
    exact sd_nD _ _⟩
theorem sd_lst (m : Nat) {ds : List D} (h : ds.length ≤ 100000) (h2 : ∀ e ∈ ds, Sd m e) : Sd (m + 1) (.lst ds) := .inr ⟨_, .inl rfl, h, h2⟩
theorem sd_sl (m : Nat) {x : D} (h : slB x = true) : Sd m x := by
  cases m with
  | zero => exact h
  | succ m => exact .inl h
def brkD (v : Int) : D := .lst [.str "broken", .int v, .bl true]
def canD : D := .lst [.str "can not", .bl true]
theorem sd_brk (m : Nat) (v : Int) : Sd (m + 1) (brkD v) := sd_lst m (by show 3 ≤ 100000; omega) fun e he => by
  have h : e = .str "broken" ∨ e = .int v ∨ e = .bl true := by simpa using he
  rcases h with h | h | h <;> (rw [h]; exact sd_sl _ rfl)
theorem sd_can (m : Nat) : Sd (m + 1) canD := sd_lst m (by show 2 ≤ 100000; omega) fun e he => by
  have h : e = .str "can not" ∨ e = .bl true := by simpa using he
  rcases h with h | h <;> (rw [h]; exact sd_sl _ rfl)
end G
-- La14
set_option maxHeartbeats 4000000
/-! La14: for over a drawn list; _law_right. -/
namespace G
open PySem PySem.Spec PyProof.Rows L2
section
variable {X : Cx} {Γ : Ctx} {e a b c tg iter : Expr} {rest body : List Stmt} {pos p : Pos} {d d1 d2 : D} {P : Post}
theorem opo_d {f : Value → Value → Sem Value} {o : B} (h : OpO X f d1 d2 o) : OpD X f d1 d2 o.d := by
  obtain ⟨r, hr, hq⟩ := h
  refine ⟨r, hr, fun W v1 v2 h1 h2 Q q => hq W v1 v2 h1 h2 Q fun v W2 e2 hf => ?_⟩
  obtain ⟨p, o, rfl, g1, g2, g3, g4⟩ := hf
  exact q _ (W2.put p o g3) (e2.put g3 g1 g2) ((g4.mono (same_put g1)).rp upd_same)
theorem d_catL {ds es' : List D} (hz : ds.length + es'.length ≤ 100000) : OpD X (binaryOp .Add) (.lst ds) (.lst es') (.lst (ds ++ es')) := opo_d (o_cat hz)
theorem hr_forG {R : List D → Nat → Prop} (I : List D → Nat → Ctx → Prop) (M : Ctx → Prop) (hp : PassesOwn (model X.prog X.w) X.A X.env X.xe) (hc : X.calm = true) (h : EvG X iter Γ fun d κ => ∃ ds, d = .lst ds ∧ R ds κ)
    (h0 : ∀ ds κ, R ds κ → ∃ Γ0, Wk (sv κ Γ) Γ0 ∧ I ds 0 Γ0) (hs : ∀ ds κ, R ds κ → ∀ (i : Nat) (d : D) (Γi : Ctx), ds[i]? = some d → I ds i Γi → ∃ Γ1 vs, TgX X tg d Γi Γ1 vs ∧ Hr X body Γ1 { P with nx := I ds (i + 1), ct := I ds (i + 1), bk := fun _ => False })
    (hm : ∀ ds κ, R ds κ → ∀ Γ', I ds ds.length Γ' → M Γ') (hd : ∀ Γ', M Γ' → Hr X rest Γ' P) (hfs : ∀ x, foldedSetIterable iter X.env x = pure x := by intro _; rfl) : Hr X (.For tg iter body [] pos :: rest) Γ P :=
  hr_cons (M := M) (fun t W0 W σ en l E De q1 q2 q3 q4 => by
    refine wS_of (ps_for hp hc (pi_list (pe_w X iter)) (pg_w X tg) (pss_w X body) hfs) (h t W0 W σ l E _ fun v d W1 κ l1 y1 r1 z1 => ?_)
    obtain ⟨ds, rfl, hR⟩ := z1
    obtain ⟨p, xs, hv, hpp, hx⟩ := r1
    subst hv
    have E1 := E.le l l1 y1
    have l2 := l.trans E.tv l1
    obtain ⟨Γ0, w0, i0⟩ := h0 ds κ hR
    refine ⟨p, rfl, ⟨xs, SqL.of (W1.ok _ _ hpp)⟩, ?_⟩
    obtain ⟨Gh, Y, w, hG, hY⟩ := walkD_at (K := X.K) hx _ (walk_list (K := X.K) (a := p)) fun W' s => SqL.of (W'.ok _ _ (s _ _ hpp))
    refine for_it w (fun i σ' H' => ∃ (W' : Wd) (Γi : Ctx), W'.H = H' ∧ Le t W0 W' ∧ Same W1.F W'.F ∧ Env X.K t W0 W' σ' Γi ∧ I ds i Γi) ⟨W1, Γ0, rfl, l2, .refl _, E1.wk w0, i0⟩ ?_ ?_ ?_
    · rintro i σ' H' _ ⟨W', Γi, rfl, _, s, _, _⟩
      exact hG W' s
    · rintro i x σ' H' H'' hi ⟨W', Γi, rfl, l', s, E', hI⟩ y
      obtain ⟨W'', rfl, e2, d, hd1, rd⟩ := hY i x W' H'' hi s y
      obtain ⟨Γ1, vs, tgx, hbody⟩ := hs ds κ hR i d Γi hd1 hI
      refine tgx t W0 W'' σ' x (l'.ext E'.tv e2) (E'.ext e2) rd _ fun σ3 W3 e3 E3 _ => ?_
      have s3 : Same W1.F W3.F := s.trans (e2.f.trans e3.f)
      refine hbody t W0 W3 σ3 en ((l'.ext E'.tv e2).ext (E'.ext e2).tv e3) E3 _ (fun σ4 W4 Γ4 a b c m => ⟨W4, Γ4, rfl, a, s3.trans b, c, m⟩) (fun v d σ4 W4 Γ4 a b c r m => q2 v d σ4 W4 Γ4 a (l1.f.trans (s3.trans b)) c r m) (fun σ4 W4 Γ4 a b c m => m.elim) (fun σ4 W4 Γ4 a b c m => ⟨W4, Γ4, rfl, a, s3.trans b, c, m⟩)
    · rintro σ' H' ⟨W', Γi, rfl, l', s, E', hI⟩
      exact q1 σ' W' Γi l' (l1.f.trans s) E' (hm ds κ hR Γi hI)) hd
end
end G
-- La15
set_option maxHeartbeats 4000000
/-! La15: _law_right. -/
namespace G
open PySem PySem.Spec PyProof.Rows L2
/-- what a number of a play gives -/
def hvD (xs : List (List Nat)) (v : Nat) : D := if v < xs.length then nsD (xs.getD v []) else brkD (v : Int)
theorem sd_hv {xs : List (List Nat)} (h : ∀ p ∈ xs, p.length ≤ 64) (v : Nat) : Sd 1 (hvD xs v) := by
  unfold hvD
  split
  · rename_i hv
    refine sd_nsD 0 ?_
    have := h _ (List.getElem_mem hv)
    rw [List.getD_eq_getElem?_getD, List.getElem?_eq_getElem hv]
    show xs[v].length ≤ 100000
    omega
  · exact sd_brk 0 _
def UnPre : List D → Nat → Prop := fun ds κ => ds = [] ∧ κ ≤ 1000
def UnR : List D → Nat → D → Nat → Prop := fun _ _ d _ => d = .bl true
theorem heard_num {n : Nat} {ts : List Pr} (O : NetOk n ts) {x : D} (x3 : Okd 3 x) (xe : tupD x = ordD n ts) (hl : ∀ p ∈ playsF n ts (2 ^ n - 1), p.length ≤ 64) (v : Nat) : R_heard [.int 0, x, nD v] (hvD (playsF n ts (2 ^ n - 1)) v) := by
  unfold hvD
  split
  · rename_i hv
    refine .inl ⟨x, nD v, ⟨n, ts, x, v, (playsF n ts (2 ^ n - 1))[v], O, x3, xe, List.getElem?_eq_getElem hv, ?_, rfl, ?_⟩, rfl⟩
    · have := hl _ (List.getElem_mem hv)
      omega
    · rw [List.getD_eq_getElem?_getD, List.getElem?_eq_getElem hv]
      rfl
  · rename_i hv
    exact .inr (.inl ⟨n, ts, x, (v : Int), O, x3, xe, .inr (by omega), rfl, rfl⟩)
theorem heard_play {n : Nat} {ts : List Pr} (O : NetOk n ts) (N : Net n ts) {x y : D} (x3 : Okd 3 x) (xe : tupD x = ordD n ts) {p : List Nat} (hp : p ∈ playsF n ts (2 ^ n - 1)) (y1 : Okd 1 y) (ye : tupD y = nsD p) {k : Nat} (hk : (playsF n ts (2 ^ n - 1))[k]? = some p) : R_heard [.int 1, x, y] (nD k) :=
  .inr (.inr (.inl ⟨x, y, ⟨n, ts, x, y, k, p, O, x3, xe, y1, ye, hk, (whole_p N hp).pc, (whole_p N hp).fr, (whole_p N hp).be, rfl, rfl⟩, rfl⟩))
theorem heard_cut {n : Nat} {ts : List Pr} (O : NetOk n ts) (N : Net n ts) (hn : 1 ≤ n) {x : D} (x3 : Okd 3 x) (xe : tupD x = ordD n ts) {p : List Nat} (hp : p ∈ playsF n ts (2 ^ n - 1)) : R_heard [.int 1, x, nsD (p.take (p.length - 1))] canD := by
  have c := cut_p N hp (play_ne N hn hp)
  have h2 := (whole_p N hp).l
  exact .inr (.inr (.inr ⟨n, ts, p.take (p.length - 1), x, _, O.go, O.fe, c.pc, c.fr, c.be, x3, xe, okd_nsD (by rw [List.length_take]; omega), tup_nsD _, rfl, rfl⟩))
section
variable {P : Program} {w : World} {K : PySem.W.Frag} {mg : Str → Option Value} {base : Heap}
/-- what the law's checks call -/
structure Cls (P : Program) (w : World) (K : PySem.W.Frag) (mg : Str → Option Value) (base : Heap) : Prop where
  take : Cal P w K mg base 1 "_law_take" (spT TkPre TkR)
  of : Cal P w K mg base 2 "_law_of" (spT OfPre OfR)
  pick : Cal P w K mg base 2 "_law_pick" (spT PkPre PkR)
  order : Cal P w K mg base 3 "_law_order" (spT OrdPre OrdR)
  start : Cal P w K mg base 3 "_law_some_start" (spT StPre StR)
  lists : Cal P w K mg base 4 "_law_lists" (spF (R_lists 3))
  pieces : Cal P w K mg base 1 "_law_pieces" (spF R_pieces_for)
  whole : Cal P w K mg base 8 "_law_whole" (spF (R_whole2 6))
  how : Cal P w K mg base 8 "how_many_plays" (spF R_how_many)
  bylen : Cal P w K mg base 8 "plays_by_length" (spF R_by_length)
  won : Cal P w K mg base 8 "plays_won" (spF R_won)
  heard : Cal P w K mg base 9 "_law_heard" (spF R_heard)
  same : Cal P w K mg base 4 "_law_same" (spF (R_same 3))
  ups : Cal P w K mg base 1 "_law_ups" (spF R_tops)
  counts : Cal P w K mg base 3 "_law_counts" (spF R_counts)
  num : Cal P w K mg base 2 "_law_number_so" (spF R_numso)
  chain : Cal P w K mg base 1 "_law_chain" (spF R_chain)
  en : Cal P w K mg base 1 "_law_en" (spF R_en)
  vee : Cal P w K mg base 1 "_law_vee" (spF R_vee)
theorem sc77 : FnScope ["_law_tin", "_law_net_here", "_law_soft_so", "_law_start_so", "_law_lot_so", "_law_all_so", "_law_trips_so", "_law_every_so", "_law_own", "_law_sizes_so", "_law_got", "_law_due", "_law_numbers_so", "_law_lap"] ["_law_tin"] (defScope (topS 77)) := ⟨rfl, rfl, rfl, by decide +kernel, rfl, by decide +kernel, by decide +kernel⟩
theorem ok_right (T : Bn mg) (D0 : Df K mg "_law_right" (topS 77) ["_law_tin"]) (c : Cls P w K mg base) : Cal P w K mg base 10 "_law_right" (spT UnPre UnR) :=
  mk_calT D0 sc77 (by decide) (fun ds κ ⟨h, _⟩ => by rw [h]; rfl) fun f cdv A outer s H E hr ds κ ⟨h1, hk⟩ => by
    subst h1
    refine hr_asgG 1 sc77.nd (R := fun d κ1 => DrawnO 5 d ∧ κ1 ≤ κ + 400) (g_callT 0 c.order hr (by decide) (a_cons (x_int (i := ((5 : Nat) : Int))) a_nil) ⟨5, rfl, by decide, by decide, by omega⟩ (fun d κ' h => h 5 rfl)) fun d κ1 ⟨⟨n, ts, N, hn1, hn, e⟩, hk1⟩ => ?_
    subst e
    have O := N.small (by omega)
    have hfew := asc_few N.n60 N.prs N.asc
    have hE := N.whole
    refine hr_asgTG (Rs := fun ds κ2 => ∃ b ∈ leftsF n ts, ds = [softD n ts, nD b] ∧ κ2 ≤ κ1 + 2) rfl (ag_cons (R1 := fun d κ' => d = softD n ts ∧ κ' = κ1) (EvX.g (i := 0) rfl (xt (x_call c.lists hr (by decide) (a_cons (x_nm 1) a_nil) ⟨ordD n ts, rfl, okd_ordD n (by omega), rfl⟩) (lst_ordD n ts))) fun d κ' ⟨e, e'⟩ => ag_cons (R1 := fun d κ2 => ∃ b ∈ leftsF n ts, d = nD b ∧ κ2 ≤ κ1 + 2) (g_callT (κ := κ') 0 c.start hr (by decide) (a_cons (x_nm 1) a_nil) ⟨n, ts, rfl, N, by omega, by omega⟩ (fun d κ2 h => by
        obtain ⟨b, hb, h1, h2⟩ := h n ts rfl
        exact ⟨b, hb, h1, by omega⟩)) fun d2 κ2 ⟨b, hb, e2, hk2⟩ => ag_nil (κ := κ2) (i := 0) rfl ⟨b, hb, by rw [e, e2], hk2⟩) fun ds κ2 ⟨b, hb, e, hk2⟩ => ?_
    subst e
    refine ⟨rfl, _, tk_cons 2 sc77.nd (tk_cons 3 sc77.nd tk_nil), ?_⟩
    refine hr_eq (Γ' := [.vol (Tin κ2), .pu (ordD n ts), .pu (softD n ts), .pu (nD b), .un, .un, .un, .un, .un, .un, .un, .un, .un, .un]) ?_ rfl
    have hb60 := N.clo.lt b hb
    have hpb := N.pcs60 hb
    have hpe := N.pcs60 hE
    refine hr_par 4 5 rfl sc77.nd (k_x (x_call c.pieces hr (by decide) (a_cons (x_nm 3) a_nil) ⟨b, Nat.lt_of_lt_of_le hb60 (by decide), rfl, rfl⟩) (k_x (x_full (x_ixT (d := nD n) (x_nm 1).rd x_int rfl) (by omega)) k_nil)) ?_
    refine hr_asgT rfl (k_x (x_call c.whole hr (by decide) (a_cons (x_nm 1) (a_cons (x_nm 3) a_nil)) ⟨n, ts, b, N, by omega, hb, by omega, rfl, rfl⟩) (k_x (x_call c.whole hr (by decide) (a_cons (x_nm 1) (a_cons (x_nm 5) a_nil)) ⟨n, ts, 2 ^ n - 1, N, by omega, hE, by omega, rfl, rfl⟩) k_nil)) (tk_cons 6 sc77.nd (tk_cons 7 sc77.nd tk_nil)) ?_
    have hb720 : (playsF n ts b).length ≤ 720 := plays_fac N.toNet 6 b hb (by omega)
    have hE720 : (playsF n ts (2 ^ n - 1)).length ≤ 720 := plays_fac N.toNet 6 _ hE (by omega)
    have hEpos : 0 < (playsF n ts (2 ^ n - 1)).length := play_some N.toNet 6 _ hE (by omega)
    have hbl : ∀ p ∈ playsF n ts b, p.length ≤ 6 := fun p hp => by
      obtain ⟨h1, h2⟩ := play_trip N.toNet p b hb hp
      have := (TripOk.lt N.toNet p b hb h1).1
      omega
    have hEl : ∀ p ∈ playsF n ts (2 ^ n - 1), p.length ≤ 64 := plays_len _ _ _
    have dH := fun {x y : D} => how_due O N.toNet hb (x := x) (y := y)
    have dW := fun {x y : D} => won_due O N.toNet hb (x := x) (y := y)
    have dL := fun {x y : D} {ks : List Nat} => len_due O N.toNet hb (x := x) (y := y) (ks := ks)
    have hN := fun v => heard_num O (okd_soft n (ts := ts) (by omega)) (tup_soft n ts) hEl v
    have hP := fun {p : List Nat} {k : Nat} (hp : p ∈ playsF n ts (2 ^ n - 1)) (hkk : (playsF n ts (2 ^ n - 1))[k]? = some p) => heard_play O N.toNet (x := ordD n ts) (y := .lst (p.map nD)) (okd_ordD n (by omega)) (tup_ordD n ts) hp (okd_nsL (by have := hEl p hp; omega)) (tup_nsL p) hkk
    have hC := fun {p : List Nat} (hp : p ∈ playsF n ts (2 ^ n - 1)) => heard_cut O N.toNet hn1 (okd_soft n (ts := ts) (by omega)) (tup_soft n ts) hp
    generalize eX : playsF n ts b = xs at *
    generalize eY : playsF n ts (2 ^ n - 1) = ys at *
    refine hr_eq (Γ' := [.vol (Tin κ2), .pu (ordD n ts), .pu (softD n ts), .pu (nD b), .pu (nsD (pcsF b)), .pu (nD (2 ^ n - 1)), .pu (plD xs), .pu (plD ys), .un, .un, .un, .un, .un, .un]) ?_ rfl
    refine hr_own 9 (o := .L ((xs.map List.length).map nD)) sc77.nd (xt2 (o_lc [("_law_own", 8)] nsD xs (fun _ => true) (fun p => nD p.length) rfl sc77.nd (it_list (x_nm 6)) (by rfl) (by omega) fun p hp => ⟨_, fun s H0 C cl fp => tg_fn 8 sc77.nd, .nil, fun _ s H0 C cl fp => xt (x_lenT T (ds := p.map nD) (x_nm 8).rd) (by rw [List.length_map]; rfl)⟩) (by rw [filt_true, List.map_map]; rfl)) ?_
    refine hr_frz 9 rfl ?_
    refine hr_eq (Γ' := [.vol (Tin κ2), .pu (ordD n ts), .pu (softD n ts), .pu (nD b), .pu (nsD (pcsF b)), .pu (nD (2 ^ n - 1)), .pu (plD xs), .pu (plD ys), .un, .pu (.lst ((xs.map List.length).map nD)), .un, .un, .un, .un]) ?_ rfl
    obtain ⟨ks, hk1', hk2'⟩ : ∃ ks : List Nat, ks.Pairwise (· < ·) ∧ ∀ k, k ∈ ks ↔ k ∈ xs.map List.length := ⟨srt (updK [] (xs.map List.length)), srt_strict (updK_nodup (by simp)), fun k => by rw [mem_srt, mem_updK]; simp⟩
    have hkm : ∀ k, k ∈ ks ↔ ∃ p ∈ xs, p.length = k := fun k => by rw [hk2' k, List.mem_map]
    have hks : ks.length ≤ 100000 := by
      have := strict_len (lo := 0) (m := 7) hk1' (fun x hx => by
        obtain ⟨p, hp, rfl⟩ := (hkm x).mp hx
        have := hbl p hp
        omega) (by omega)
      omega
    have hcl : ∀ k, (xs.map List.length).count k = cL xs k := count_len xs
    have hodd := odd_len xs
    generalize eS : xs.map List.length = ss at *
    have hsl : ss.length ≤ 720 := by rw [← eS, List.length_map]; exact hb720
    have hss : ∀ k ∈ ss, k < 62 := fun k hk => by
      obtain ⟨p, hp, rfl⟩ := List.mem_map.mp (eS ▸ hk)
      have := hbl p hp
      omega
    generalize eW : xs.countP (fun p => decide (p.length % 2 = 1)) = wn at *
    have hdl : ∀ {x y : D}, Okd 3 x → tupD x = ordD n ts → Okd 1 y → tupD y = nsD (pcsF b) → R_by_length [x, y] (tsD (byLen xs ks)) := fun a1 a2 a3 a4 => dL a1 a2 a3 a4 hk1' hkm
    have hpl : (pcsF b).length ≤ 64 := pcs_len b
    refine hr_own 10 (o := .L [nD xs.length, tsD (byLen xs ks), nD wn]) sc77.nd (o_lst (ac (x_call c.how hr (by decide) (a_cons (x_nm 2) (a_cons (x_nm 4) a_nil)) (dH (okd_soft n (by omega)) (tup_soft n ts) (okd_nsD (by omega)) (tup_nsD _))) (ac (x_call c.bylen hr (by decide) (a_cons (x_nm 1) (a_cons (xl (o_listT T (x_nm 4).rd)) a_nil)) (hdl (okd_ordD n (by omega)) (tup_ordD n ts) (okd_nsL (by omega)) (tup_nsL _))) (ac (x_call c.won hr (by decide) (a_cons (x_nm 2) (a_cons (x_nm 4) a_nil)) (dW (okd_soft n (by omega)) (tup_soft n ts) (okd_nsD (by omega)) (tup_nsD _))) a_nil))) (by show 3 ≤ 100000; omega)) ?_
    refine hr_own 11 (o := .L [nD xs.length, tsD (byLen xs ks), nD wn]) sc77.nd (o_lst (ac (d := nD xs.length) ?_ (ac (d := tsD (byLen xs ks)) ?_ (ac (d := nD wn) ?_ a_nil))) (by show 3 ≤ 100000; omega)) ?_
    · exact xt (x_lenL T (ds := xs.map nsD) (x_nm 6).rd) (by rw [List.length_map]; rfl)
    · refine x_tupleL T (rl (xt2 (o_lc [("_law_own", 8)] nD ks (fun _ => true) (fun k => prD (k, cL xs k)) rfl sc77.nd (it_list (xl (o_sortedSet T rfl (ns := ss) (x_nm 9).rd (by omega) hss hk1' hk2'))) (by rfl) hks fun k hk => ⟨_, fun s H0 C cl fp => tg_fn 8 sc77.nd, .nil, fun _ s H0 C cl fp => x_pr (x_nm 8) (xt (x_count (ns := ss) (x_nm 9).rd (x_nm 8)) (by rw [hcl]))⟩) ?_))
      rw [filt_true]
      unfold byLen
      rw [List.map_map]
      rfl
    · refine xt (x_lenL T (ds := (ss.filter fun k => decide (k % 2 = 1)).map nD) (rl (o_lc [("_law_own", 8)] nD ss (fun k => decide (k % 2 = 1)) nD rfl sc77.nd (it_list (x_nm 9)) (by rfl) (by omega) fun k hk => ⟨_, fun s H0 C cl fp => tg_fn 8 sc77.nd, .one fun s H0 C cl fp => ?_, fun _ s H0 C cl fp => x_nm 8⟩))) ?_
      · exact t_cmp (rx (x_op (rx (x_intI T (x_nm 8).rd)) x_int.rd ((d_mod (j := 2) (by decide)).to (show D.int ((k : Int) % 2) = nD (k % 2) by unfold nD; congr 1)))) (x_int (i := ((1 : Nat) : Int))).rd d_eqN
      · rw [List.length_map, hodd]
        rfl
    -- numbers
    refine hr_eq (Γ' := [.vol (Tin κ2), .pu (ordD n ts), .pu (softD n ts), .pu (nD b), .pu (nsD (pcsF b)), .pu (nD (2 ^ n - 1)), .pu (plD xs), .pu (plD ys), .un, .pu (.lst (ss.map nD)), .ow (.one (.L [nD xs.length, tsD (byLen xs ks), nD wn])), .ow (.one (.L [nD xs.length, tsD (byLen xs ks), nD wn])), .un, .un]) ?_ rfl
    have eLen : ∀ {Γ : Ctx} {Y : Cx} {e : Expr}, EvX Y e Γ (.int ((ys.map nsD).length : Int)) → EvX Y e Γ (nD ys.length) := fun h => xt h (by rw [List.length_map]; rfl)
    refine hr_asgG 12 sc77.nd (R := fun d κ3 => ∃ nums : List Nat, d = .lst (nums.map nD) ∧ nums.length ≤ 4 ∧ κ3 ≤ κ2 + 3) (g_op (R1 := fun d κ3 => ∃ nums : List Nat, d = .lst (nums.map nD) ∧ nums.length ≤ 3 ∧ κ3 ≤ κ2 + 3) (g_lc (κ := κ2) [("_law_lap", 13)] nD (List.range 3) (fun i acc κ3 => ∃ nums : List Nat, acc = nums.map nD ∧ nums.length ≤ i ∧ κ3 ≤ κ2 + i) rfl sc77.nd (it_rN T (x_int (i := ((3 : Nat) : Int)))) (by rfl) (by rw [List.length_range]; omega) (i0 := 0) rfl ⟨[], rfl, Nat.le_refl _, Nat.le_refl _⟩ (fun i acc κ3 ⟨rs, e, h, _⟩ => by rw [e, List.length_map]; exact h) (fun i x acc κ3 hx ⟨rs, e, r2, r3⟩ => ?_) fun acc κ3 ⟨rs, e, r2, r3⟩ => ⟨rs, by rw [e], by rw [List.length_range] at r2; exact r2, by rw [List.length_range] at r3; exact r3⟩) fun d1 κ3 ⟨rs, e, r2, r3⟩ => ?_) fun d κ3 ⟨nums, e, hnl, hk3⟩ => ?_
    · have hij := (List.getElem?_eq_some_iff.mp hx).1
      rw [List.length_range] at hij
      subst e
      refine ⟨_, fun s H0 C cl fp => tg_fn 13 sc77.nd, fun s H0 C cl fp => ?_⟩
      exact g_callT (κ := κ3) 0 c.take hr (by decide) (a_cons (x_op (rx (eLen (x_lenL T (ds := ys.map nsD) (x_nm 7).rd))) (x_int (i := ((1 : Nat) : Int))).rd d_addN) a_nil) ⟨ys.length + 1, rfl, by omega, by omega, by omega⟩ (fun d κ4 h => by
        obtain ⟨v, h1, h2, h3⟩ := h _ rfl
        exact ⟨rs ++ [v], by rw [h2, List.map_append]; rfl, by rw [List.length_append, List.length_singleton]; omega, by omega⟩)
    · subst e
      have h1 : ∀ {Γ : Ctx} {Y : Cx} {e1 : Expr} {p1 p2 : Pos} {k1 : Nat}, EvX Y e1 Γ (nD ys.length) → EvX Y (.BinOp e1 .Sub (.Constant (.int 1) k1 p1) p2) Γ (nD (ys.length - 1)) := fun h => x_op h.rd (x_int (i := ((1 : Nat) : Int))).rd (d_sub.to (by show D.int ((ys.length : Int) - (1 : Nat)) = D.int ((ys.length - 1 : Nat) : Int); congr 1; omega))
      refine EvX.gR (κ := κ3) (i := 0) (d := .lst [nD (ys.length - 1)]) rfl (xl (o_lst (ac (h1 (eLen (x_lenL T (ds := ys.map nsD) (x_nm 7).rd))) a_nil) (by show 1 ≤ 100000; omega))) ⟨.lst (rs.map nD ++ [nD (ys.length - 1)]), d_catL (by rw [List.length_map]; show rs.length + 1 ≤ 100000; omega), rs ++ [ys.length - 1], by rw [List.map_append]; rfl, by rw [List.length_append, List.length_singleton]; omega, r3⟩
    · subst e
      refine hr_eq (Γ' := [.vol (Tin κ3), .pu (ordD n ts), .pu (softD n ts), .pu (nD b), .pu (nsD (pcsF b)), .pu (nD (2 ^ n - 1)), .pu (plD xs), .pu (plD ys), .un, .pu (.lst (ss.map nD)), .ow (.one (.L [nD xs.length, tsD (byLen xs ks), nD wn])), .ow (.one (.L [nD xs.length, tsD (byLen xs ks), nD wn])), .pu (.lst (nums.map nD)), .un]) ?_ rfl
      refine hr_app 10 (xs := [nD xs.length, tsD (byLen xs ks), nD wn]) (d := .lst (nums.map (hvD ys))) (xl (xt2 (o_lc [("_law_own", 8)] nD nums (fun _ => true) (hvD ys) rfl sc77.nd (it_list (x_nm 12)) (by rfl) (by omega) fun v hv => ⟨_, fun s H0 C cl fp => tg_fn 8 sc77.nd, .nil, fun _ s H0 C cl fp => x_call c.heard hr (by decide) (ac x_int (ac (x_nm 2) (ac (x_nm 8) a_nil))) (hN v)⟩) (by rw [filt_true]))) ?_ (by show 3 < 100000; omega)
      refine hr_app 11 (xs := [nD xs.length, tsD (byLen xs ks), nD wn]) (d := .lst (nums.map (hvD ys))) (xl (xt2 (o_lc [("_law_own", 8)] nD nums (fun _ => true) (hvD ys) rfl sc77.nd (it_list (x_nm 12)) (by rfl) (by omega) fun v hv => ⟨_, fun s H0 C cl fp => tg_fn 8 sc77.nd, .nil, fun _ s H0 C cl fp => ?_⟩) (by rw [filt_true]))) ?_ (by show 3 < 100000; omega)
      · refine x_ifX (k := decide (v < ys.length)) (t_cmp (x_nm 8).rd (rx (eLen (x_lenL T (ds := ys.map nsD) (x_nm 7).rd))) d_ltN) (fun z => ?_) (fun z => ?_)
        · have z2 := of_decide_eq_true z
          refine x_ixL (ds := ys.map nsD) (x_nm 7).rd (x_nm 8) ?_
          unfold hvD
          rw [if_pos z2, List.getD_eq_getElem?_getD, List.getElem?_eq_getElem z2]
          exact atI_map nsD (List.getElem?_eq_getElem z2)
        · have z2 := of_decide_eq_false z
          unfold hvD
          rw [if_neg z2]
          exact xl (o_lst (ac x_str (ac (x_nm 8) (ac x_bl a_nil))) (by show 3 ≤ 100000; omega))
      · refine hr_frz 10 rfl ?_
        refine hr_frz 11 rfl ?_
        have hg0 : ∀ e ∈ [nD xs.length, tsD (byLen xs ks), nD wn] ++ [D.lst (nums.map (hvD ys))], Sd 2 e := fun e he => by
          have h : e = nD xs.length ∨ e = tsD (byLen xs ks) ∨ e = nD wn ∨ e = D.lst (nums.map (hvD ys)) := by simpa using he
          rcases h with h | h | h | h
          · rw [h]
            exact sd_nD _ _
          · rw [h]
            refine sd_tsD 0 ?_
            unfold byLen
            rw [List.length_map]
            exact hks
          · rw [h]
            exact sd_nD _ _
          · rw [h]
            refine sd_lst 1 (by rw [List.length_map]; omega) fun e he => ?_
            obtain ⟨v, _, rfl⟩ := List.mem_map.mp he
            exact sd_hv hEl v
        have hgl : ([nD xs.length, tsD (byLen xs ks), nD wn] ++ [D.lst (nums.map (hvD ys))]).length = 4 := rfl
        generalize [nD xs.length, tsD (byLen xs ks), nD wn] ++ [D.lst (nums.map (hvD ys))] = gd0 at hg0 hgl ⊢
        refine hr_eq (Γ' := [.vol (Tin κ3), .pu (ordD n ts), .pu (softD n ts), .pu (nD b), .pu (nsD (pcsF b)), .pu (nD (2 ^ n - 1)), .pu (plD xs), .pu (plD ys), .un, .pu (.lst (ss.map nD)), .pu (.lst gd0), .pu (.lst gd0), .pu (.lst (nums.map nD)), .un]) ?_ rfl
        refine hr_forG (R := fun ds κ4 => ds.length ≤ 3 ∧ ∀ y ∈ ds, ∃ p ∈ ys, y = nsD p) (fun ds j Γ' => ∃ (gd : List D) (κ4 : Nat), (∀ e ∈ gd, Sd 2 e) ∧ gd.length ≤ 4 + 2 * j ∧ Γ' = [.vol (Tin κ4), .pu (ordD n ts), .pu (softD n ts), .un, .un, .un, .un, .pu (plD ys), .un, .un, .pu (.lst gd), .pu (.lst gd), .un, .un]) (fun Γ' => ∃ (gd : List D) (κ4 : Nat), (∀ e ∈ gd, Sd 2 e) ∧ gd.length ≤ 10 ∧ Γ' = [.vol (Tin κ4), .pu (ordD n ts), .pu (softD n ts), .un, .un, .un, .un, .pu (plD ys), .un, .un, .pu (.lst gd), .pu (.lst gd), .un, .un]) PassesOwn.never rfl
          (g_callT (κ := κ3) 0 c.pick hr (by decide) (a_cons (x_nm 7) (a_cons (x_int (i := ((3 : Nat) : Int))) a_nil)) ⟨ys.map nsD, rfl, by rw [List.length_map]; omega, by omega⟩ (fun d κ4 h => by
            obtain ⟨zs, h1, h2, h3, _⟩ := h _ rfl
            refine ⟨zs, h1, h3, fun y hy => ?_⟩
            obtain ⟨p, hp, e⟩ := List.mem_map.mp (h2 y hy)
            exact ⟨p, hp, e.symm⟩)) (fun ds κ4 ⟨h1, h2⟩ => ⟨_, .same (.same (.same (.un (.un (.un (.un (.same (.same (.un (.same (.same (.un (.same .nil))))))))))))), gd0, κ4, hg0, by omega, rfl⟩) (fun ds κ4 ⟨h1, h2⟩ j d Γi hd hI => ?_) (fun ds κ4 ⟨h1, h2⟩ Γ' ⟨gd, κ5, g1, g2, g3⟩ => ⟨gd, κ5, g1, by omega, g3⟩) (fun Γ' hM => ?_)
        · obtain ⟨gd, κ5, g1, g2, rfl⟩ := hI
          have hj := (List.getElem?_eq_some_iff.mp hd).1
          obtain ⟨p, hp, rfl⟩ := h2 d (List.mem_of_getElem? hd)
          obtain ⟨j', hj1, hj2⟩ := first_at hp
          have hgd : ∀ e ∈ gd ++ [nD j', canD], Sd 2 e := fun e he => by
            rcases List.mem_append.mp he with z | z
            · exact g1 e z
            · have h : e = nD j' ∨ e = canD := by simpa using z
              rcases h with h | h <;> rw [h]
              · exact sd_nD _ _
              · exact sd_can 1
          have hgl2 : (gd ++ [nD j', canD]).length ≤ 4 + 2 * (j + 1) := by
            rw [List.length_append]
            show gd.length + 2 ≤ _
            omega
          have hz2 : gd.length + [nD j', canD].length ≤ 100000 := by
            show gd.length + 2 ≤ 100000
            omega
          refine ⟨_, [8], tg_fn 8 sc77.nd, ?_⟩
          refine hr_own 10 (o := .L (gd ++ [nD j', canD])) sc77.nd (o_op (x_nm 10).rd (rl (o_lst (ds := [nD j', canD]) (ac (x_call c.heard hr (by decide) (ac x_int (ac (x_nm 1) (ac (xl (o_listT T (x_nm 8).rd)) a_nil))) (hP hp hj1)) (ac (x_call c.heard hr (by decide) (ac x_int (ac (x_nm 2) (ac (x_butlast (x_nm 8).rd) a_nil))) (hC hp)) a_nil)) (by show 2 ≤ 100000; omega))) (o_cat hz2)) ?_
          refine hr_frz 10 rfl ?_
          refine hr_own 11 (o := .L (gd ++ [nD j', canD])) sc77.nd (o_op (x_nm 11).rd (rl (o_lst (ds := [nD j', canD]) (ac (x_indexT hr.u65 (xs := ys) (x_nm 7).rd (x_nm 8) hj1 hj2) (ac (xl (o_lst (ac x_str (ac x_bl a_nil)) (by show 2 ≤ 100000; omega))) a_nil)) (by show 2 ≤ 100000; omega))) (o_cat hz2)) ?_
          refine hr_frz 11 rfl ?_
          exact hr_nil _ (.same (.same (.same (.same (.same (.same (.same (.same (.un (.same (.same (.same (.same (.same .nil)))))))))))))) ⟨_, κ5, hgd, hgl2, rfl⟩
        · obtain ⟨gd, κ4, g1, g2, rfl⟩ := hM
          exact hr_ret (d := .bl true) (x_call c.same hr (by decide) (a_cons (x_nm 10) (a_cons (x_nm 11) a_nil)) ⟨.lst gd, sd_lst 2 (by omega) g1, rfl, rfl⟩) ⟨κ4, rfl, rfl⟩
end
end G
-- Fw20
set_option maxHeartbeats 4000000
/-! Fw20: tuple(range(a, b, -1)); a call without arguments; a def that hands out a list of its own; a list of one's own as the box. -/
namespace G
open PySem PySem.Spec PyProof.Rows L2
section
variable {X : Cx} {a b c : Expr} {p p2 pos pos2 : Pos}
def dnV (i : Int) (n : Nat) : List V := (List.range n).map fun k : Nat => V.int (i + (k : Int) * (-1))
theorem vals_dn {i : Int} {n : Nat} {acc : Array Value} (h : ItemsOf (fun j v => ∃ t, v = .int (i + j * (-1)) t) acc n) : Vals (dnV i n) acc.toList := by
  have e : acc.toList.length = n := by rw [Array.length_toList]; exact h.1
  unfold dnV
  rw [← e]
  refine vals_of_get acc.toList _ fun j u hj => ?_
  obtain ⟨t, rfl⟩ := h.2 j u (by rw [← hj, Array.getElem?_toList])
  exact ⟨t, rfl⟩
def tDn (ta : TA) : TE := fun σ H Q => ta σ H fun vs H1 => ∃ i j, vs = [V.int i, .int j, .int (-1)] ∧ (-(2 ^ 62) ≤ i ∧ i < 2 ^ 62 ∧ -(2 ^ 62) ≤ j ∧ j < 2 ^ 62) ∧ (i - j).toNat ≤ 100000 ∧ ∀ q, H1 q = none → Q (.ref q) (upd H1 q (.tup (dnV i (i - j).toNat)))
theorem rg_dn {ta : TA} (hg : Gl X "range") (hm : X.mg "range" = none) (ha : PA X [a, b, c] ta) (hs : starEach [a, b, c] X.env = (false, eval a X.env) :: starEach [b, c] X.env) (hpl : (backTo pos2 (starEach [b, c] X.env)).any (·.1) = false)
    {pins : List (Addr × Obj)} {s : Shared} {σ : L2.St} {H : Hp} {Q : VK} (I : Inv X pins σ H s) (h : tDn ta σ H Q) : wpAny (model X.prog X.w) X.A (eval (.Call (.Name "range" p2) [a, b, c] [] pos2) X.env) (fun x s' => ∃ r i j t u v H', x = .ref r ∧ IsRange s'.heap r i j (-1) t u v ∧ Inv X pins σ H' s' ∧ (-(2 ^ 62) ≤ i ∧ i < 2 ^ 62 ∧ -(2 ^ 62) ≤ j ∧ j < 2 ^ 62) ∧ (i - j).toNat ≤ 100000 ∧ ∀ q, H' q = none → Q (.ref q) (upd H' q (.tup (dnV i (i - j).toNat)))) X.xe s := by
  refine Call_ (ld_blt I hg hm boot_range (PyProof.Rows.callWith_type1 (thn (ha.run pos2 pins s σ H _ I h) fun us s1 hh => ?_) hs hpl))
  obtain ⟨vs, H1, I1, r1, i, j, rfl, hb, hn, q⟩ := hh
  cases r1 with
  | cons g1 r2 =>
    cases r2 with
    | cons g2 r3 =>
      cases r3 with
      | cons g3 r4 =>
        cases r4
        obtain ⟨t1, rfl⟩ := g1
        obtain ⟨t2, rfl⟩ := g2
        obtain ⟨t3, rfl⟩ := g3
        obtain ⟨c0, c1, c2, c3⟩ := RgC.neg hb.1 hb.2.1 hb.2.2.1 hb.2.2.2
        exact call_range_3 c0 ⟨_, i, j, t1, t2, t3, H1, rfl, IsRange.new _ _ _ _ _ _ _, I1.kept (t' := s1.toks) fun b o e => Heap.get?_push_of_some _ e, hb, hn, q⟩ (.inl (PyProof.noPylong_small c1))
theorem pe_tupDn {ta : TA} (hc : X.calm = true) (hg : Gl X "tuple") (hm : X.mg "tuple" = none) (hg2 : Gl X "range") (hm2 : X.mg "range" = none) (ha : PA X [a, b, c] ta) (hs : starEach [a, b, c] X.env = (false, eval a X.env) :: starEach [b, c] X.env) (hpl : (backTo pos2 (starEach [b, c] X.env)).any (·.1) = false)
    (na : starEach [.Call (.Name "range" p2) [a, b, c] [] pos2] X.env = (false, eval (.Call (.Name "range" p2) [a, b, c] [] pos2) X.env) :: starEach [] X.env) : PE X (.Call (.Name "tuple" p) [.Call (.Name "range" p2) [a, b, c] [] pos2] [] pos) (tDn ta) := by
  refine ⟨fun pins s σ H Q I h => ?_⟩
  refine Call_ (ld_blt I hg hm boot_tuple (PyProof.Rows.callWith_type1 (args_cons (thn (rg_dn hg2 hm2 ha hs hpl I h) fun x s1 hh => args_nil ?_) na) na))
  obtain ⟨r, i, j, t, u, v, H1, rfl, hr, I1, hb, hn, q⟩ := hh
  obtain ⟨_, _, c2, c3⟩ := RgC.neg hb.1 hb.2.1 hb.2.2.1 hb.2.2.2
  refine call_tuple_range (n := (i - j).toNat) (I1.ok.hd hc) hr c2 c3 (Nat.le_trans hn (by decide)) fun h' tk acc hk hi => ?_
  have I2 : Inv X pins σ H1 { s1 with heap := h', toks := tk } := I1.kept hk
  have hl : (dnV i (i - j).toNat).length ≤ sizeLine := by
    unfold dnV
    rw [List.length_map, List.length_range]
    exact Nat.le_trans hn (by decide)
  have hob : IsTup (h'.push { cls := .type "tuple", data := .seq acc }) h'.objs.size acc := IsTup.new _ _
  refine ⟨.ref h'.objs.size, upd H1 h'.objs.size (.tup (dnV i (i - j).toNat)), I2.laid (t' := tk) (fun c o e => Heap.get?_push_of_some _ e) (Nat.le_refl _) (show ObjOk X.prog X.w _ _ _ (.tup (dnV i (i - j).toNat)) from ⟨hl, acc.toList, vals_dn hi, ?_⟩), rfl, q _ (I2.hok.fresh (Nat.le_refl _))⟩
  rw [Array.toArray_toList]
  exact hob
end
section
variable {X : Cx} {Γ : Ctx} {a b c : Expr} {p p2 pos pos2 : Pos}
/-- tuple(range(k, -1, -1)) -/
theorem x_tupDn (T : Bn X.mg) (hc : X.calm = true) {k : Nat} {d : Int} (h1 : EvX X a Γ (.int d)) (h2 : EvX X b Γ (.int (-1))) (h3 : EvX X c Γ (.int (-1))) (hd : d = (k : Int)) (hk : k ≤ 1000) (hg : Gl X "tuple" := by rfl) (hg2 : Gl X "range" := by rfl) (hs : starEach [a, b, c] X.env = (false, eval a X.env) :: starEach [b, c] X.env := by rfl) (hs2 : starEach [b, c] X.env = (false, eval b X.env) :: starEach [c] X.env := by rfl) (hs3 : starEach [c] X.env = (false, eval c X.env) :: starEach [] X.env := by rfl) (hpl : (backTo pos2 (starEach [b, c] X.env)).any (·.1) = false := by rfl)
    (na : starEach [.Call (.Name "range" p2) [a, b, c] [] pos2] X.env = (false, eval (.Call (.Name "range" p2) [a, b, c] [] pos2) X.env) :: starEach [] X.env := by exact st_call) : EvX X (.Call (.Name "tuple" p) [.Call (.Name "range" p2) [a, b, c] [] pos2] [] pos) Γ (nsD (List.range (k + 1)).reverse) := fun t W0 W σ l E Q q =>
  wE_of (pe_tupDn hc hg T.tuple hg2 T.range (pa_cons (pe_w X a) (pa_cons (pe_w X b) (pa_cons (pe_w X c) pa_nil hs3) hs2) hs) hs hpl na) (h1 t W0 W σ l E _ fun v W1 e1 r1 => h2 t W0 W1 σ (l.ext E.tv e1) (E.ext e1) _ fun v2 W2 e2 r2 => h3 t W0 W2 σ (l.ext E.tv (e1.trans e2)) (E.ext (e1.trans e2)) _ fun v3 W3 e3 r3 => by
    subst hd
    refine ⟨(k : Int), -1, by rw [show v = .int (k : Int) from r1, show v2 = .int (-1) from r2, show v3 = .int (-1) from r3], ⟨by omega, by omega, by omega, by omega⟩, by omega, tup_new ?_ fun v4 W4 e4 r4 => q v4 W4 (e1.trans (e2.trans (e3.trans e4))) r4⟩
    have e : dnV (k : Int) ((k : Int) - (-1)).toNat = ((List.range (k + 1)).reverse.map Int.ofNat).map V.int := by
      rw [show ((k : Int) - (-1)).toNat = k + 1 by omega, ← rev_range (k + 1), List.map_map]
      unfold dnV
      refine List.map_congr_left fun m _ => ?_
      show V.int ((k : Int) + (m : Int) * (-1)) = V.int (((k + 1 : Nat) : Int) - 1 + (m : Int) * (-1))
      congr 1
      omega
    rw [e, ← map_ofNat]
    exact RpA.ints_mk _)
/-- a call without arguments -/
theorem x_call0 {k j : Nat} {x : Str} {R : List D → D → Prop} {d : D} (cl : Cal X.prog X.w X.K X.mg X.base k x (spF R)) (hr : Room j X.A) (hk : k ≤ j) (hR : R [] d) (hg : Gl X x := by rfl) (hdb : (x == ("__debug__" : Str)) = false := by decide) : EvX X (.Call (.Name x p) [] [] pos) Γ d := fun t W0 W σ l E Q q => by
  obtain ⟨f, fd, ps, F, hm, kp, bb⟩ := cl.ex
  exact wE_of (pe_call0 F (hr.mono hk) hg hm kp bb .nil pass0 hdb) ⟨W, [], d, rfl, rfl, hR, fun v W2 e2 r2 => q v W2 e2 r2⟩
end
end G
-- La16
set_option maxHeartbeats 4000000
/-! La16: _law_great_right. -/
namespace G
open PySem PySem.Spec PyProof.Rows L2
theorem endB_app {n : Nat} {ts : List Pr} (p : Nat) : ∀ (ps : List Nat) (b : Nat), endB n ts b (ps ++ [p]) = mns (endB n ts b ps) ((topsF n ts).getD p 0)
  | [], b => rfl
  | q :: ps, b => endB_app p ps _
theorem trip_app {n : Nat} {ts : List Pr} {p : Nat} : ∀ {ps : List Nat} {b : Nat}, TripOk n ts b ps → p ∈ pcsF (endB n ts b ps) → TripOk n ts b (ps ++ [p])
  | [], b, _, h => ⟨h, trivial⟩
  | q :: ps, b, ⟨h1, h2⟩, h => ⟨h1, trip_app h2 h⟩
theorem end_left {n : Nat} {ts : List Pr} (N : Net n ts) : ∀ (ps : List Nat) (b : Nat), b ∈ leftsF n ts → TripOk n ts b ps → endB n ts b ps ∈ leftsF n ts
  | [], b, h, _ => h
  | q :: ps, b, h, ⟨h1, h2⟩ => end_left N ps _ (N.step h h1).2.1 h2
theorem atI_snoc (ps : List Nat) (p : Nat) : atI ((ps ++ [p]).map nD) (-1) = some (nD p) := by
  unfold atI ixN
  rw [if_neg (by decide), List.length_map, List.length_append, List.length_singleton, if_pos (by omega)]
  have e : ((-1 : Int) + ((ps.length + 1 : Nat) : Int)).toNat = ps.length := by omega
  show ((ps ++ [p]).map nD)[((-1 : Int) + ((ps.length + 1 : Nat) : Int)).toNat]? = _
  rw [e, List.getElem?_map, List.getElem?_append_right (Nat.le_refl _)]
  simp
/-- what is asked of a whole trip -/
theorem heard_trip {n : Nat} {ts : List Pr} (O : NetOk n ts) (N : Net n ts) {x y : D} (x3 : Okd 3 x) (xe : tupD x = ordD n ts) {ps : List Nat} (ht : TripOk n ts (2 ^ n - 1) ps) (he : endB n ts (2 ^ n - 1) ps = 0) (y1 : Okd 1 y) (ye : tupD y = nsD ps) : R_heard [.int 1, x, y] (nD (numF n ts (2 ^ n - 1) ps)) := by
  have h := trip_at N ps _ N.whole ht he
  exact heard_play O N x3 xe (List.mem_of_getElem? h) y1 ye h
theorem heard_back {n : Nat} {ts : List Pr} (O : NetOk n ts) (N : Net n ts) {x : D} (x3 : Okd 3 x) (xe : tupD x = ordD n ts) {ps : List Nat} (ht : TripOk n ts (2 ^ n - 1) ps) (he : endB n ts (2 ^ n - 1) ps = 0) : R_heard [.int 0, x, nD (numF n ts (2 ^ n - 1) ps)] (nsD ps) := by
  have h := trip_at N ps _ N.whole ht he
  refine .inl ⟨x, _, ⟨n, ts, x, _, ps, O, x3, xe, h, ?_, rfl, rfl⟩, rfl⟩
  have := plays_len _ _ _ ps (List.mem_of_getElem? h)
  omega
theorem pcs_whole {n : Nat} (hn : n ≤ 60) : nsD (pcsF (2 ^ n - 1)) = nsD (List.range n) := by rw [pcs_full hn]
theorem chain_ok {m : Nat} (hm : m ≤ 60) : NetOk m (chT m) := (nf_chain hm).netOk (few_ch hm)
theorem down_len (k : Nat) : (down k).length = k + 1 := by
  unfold down
  rw [List.length_reverse, List.length_range]
theorem chT_len (m : Nat) : (chT m).length ≤ m := by
  unfold chT
  rw [List.length_map, List.length_range]
  omega
theorem heard_dn {m k : Nat} (hm : m ≤ 60) (hk : k < m) : R_heard [.int 0, ordD m (chT m), nD (2 ^ k - 1)] (nsD (down k)) :=
  .inl ⟨_, _, ⟨m, chT m, _, 2 ^ k - 1, down k, chain_ok hm, okd_ordD m (by have := chT_len m; omega), tup_ordD m _, down_at hm hk, by rw [down_len]; omega, rfl, rfl⟩, rfl⟩
theorem heard_up {m k : Nat} (hm : m ≤ 60) (hk : k < m) : R_heard [.int 1, ordD m (chT m), nsD (down k)] (nD (2 ^ k - 1)) :=
  heard_play (chain_ok hm) (nf_chain hm).toNet (okd_ordD m (by have := chT_len m; omega)) (tup_ordD m _) (List.mem_of_getElem? (down_at hm hk)) (okd_nsD (by rw [down_len]; omega)) (tup_nsD _) (down_at hm hk)
section
variable {P : Program} {w : World} {K : PySem.W.Frag} {mg : Str → Option Value} {base : Heap}
theorem sc78 : FnScope ["_law_tin", "_law_net_here", "_law_counts_so", "_law_up_so", "_law_here_so", "_law_trip_so", "_law_lap", "_law_due", "_law_got", "_law_many_so", "_law_long_so", "_law_k", "_law_down_so"] ["_law_tin"] (defScope (topS 78)) := ⟨rfl, rfl, rfl, by decide +kernel, rfl, by decide +kernel, by decide +kernel⟩
theorem ok_great (T : Bn mg) (D0 : Df K mg "_law_great_right" (topS 78) ["_law_tin"]) (c : Cls P w K mg base) : Cal P w K mg base 10 "_law_great_right" (spT UnPre UnR) :=
  mk_calT D0 sc78 (by decide) (fun ds κ ⟨h, _⟩ => by rw [h]; rfl) fun f cdv A outer s H E hr ds κ ⟨h1, hk⟩ => by
    subst h1
    refine hr_asgG 1 sc78.nd (R := fun d κ1 => DrawnO 8 d ∧ κ1 ≤ κ + 400) (g_callT 0 c.order hr (by decide) (a_cons (x_int (i := ((8 : Nat) : Int))) a_nil) ⟨8, rfl, by decide, by decide, by omega⟩ (fun d κ' h => h 8 rfl)) fun d κ1 ⟨⟨n, ts, N, hn1, hn, e⟩, hk1⟩ => ?_
    subst e
    have O := N.small (by omega)
    have hfew := asc_few N.n60 N.prs N.asc
    have hE := N.whole
    have hpe := N.pcs60 hE
    refine hr_eq (Γ' := [.vol (Tin κ1), .pu (ordD n ts), .un, .un, .un, .un, .un, .un, .un, .un, .un, .un, .un]) ?_ rfl
    refine hr_asgT rfl (k_x (x_call c.counts hr (by decide) (a_cons (x_nm 1) a_nil) ⟨n, ts, N.prsOk, O.fe, O.cl, rfl, rfl⟩) (k_x (x_call c.ups hr (by decide) (a_cons (x_nm 1) a_nil) ⟨n, ts, N.prsOk, rfl, rfl⟩) (k_x (x_full (x_ixT (d := nD n) (x_nm 1).rd x_int rfl) (by omega)) (k_x (x_tup a_nil (Nat.le_of_ble_eq_true rfl)) k_nil)))) (tk_cons 2 sc78.nd (tk_cons 3 sc78.nd (tk_cons 4 sc78.nd (tk_cons 5 sc78.nd tk_nil)))) ?_
    refine hr_eq (Γ' := [.vol (Tin κ1), .pu (ordD n ts), .pu (cnD (cntF n ts)), .pu (rowD (topsF n ts)), .pu (nD (2 ^ n - 1)), .pu (nsD []), .un, .un, .un, .un, .un, .un, .un]) ?_ rfl
    refine hr_for (fun j Γ' => ∃ (ps : List Nat) (κ2 : Nat), TripOk n ts (2 ^ n - 1) ps ∧ ps.length ≤ j ∧ (endB n ts (2 ^ n - 1) ps = 0 ∨ (pcsF (endB n ts (2 ^ n - 1) ps)).length + j ≤ n) ∧ κ2 ≤ κ1 + j ∧ Γ' = [.vol (Tin κ2), .pu (ordD n ts), .pu (cnD (cntF n ts)), .pu (rowD (topsF n ts)), .pu (nD (endB n ts (2 ^ n - 1) ps)), .pu (nsD ps), .un, .un, .un, .un, .un, .un, .un]) (fun _ => False) PassesOwn.never rfl (it_rN T (x_ixT (d := nD n) (x_nm 1).rd x_int rfl)) _ (Wk.refl _) ⟨[], κ1, trivial, Nat.le_refl _, .inr hpe, Nat.le_refl _, rfl⟩ (fun j d Γi hd hI => ?_) (fun Γ' hI => ?_) (fun _ z => z.elim)
    · obtain ⟨ps, κ2, ht, hpl, hprog, hk2, rfl⟩ := hI
      have hj := (List.getElem?_eq_some_iff.mp hd).1
      rw [List.length_map, List.length_range] at hj
      have hb := end_left N.toNet _ _ hE ht
      have hb60 := N.clo.lt _ hb
      refine ⟨_, [6], tg_fn 6 sc78.nd, ?_⟩
      generalize eb : endB n ts (2 ^ n - 1) ps = b at hb hb60 hprog ⊢
      refine hr_if (k := decide (0 < b)) (M := fun Γ' => ∃ (ps : List Nat) (κ2 : Nat), TripOk n ts (2 ^ n - 1) ps ∧ ps.length ≤ j + 1 ∧ (endB n ts (2 ^ n - 1) ps = 0 ∨ (pcsF (endB n ts (2 ^ n - 1) ps)).length + (j + 1) ≤ n) ∧ κ2 ≤ κ1 + (j + 1) ∧ Γ' = [.vol (Tin κ2), .pu (ordD n ts), .pu (cnD (cntF n ts)), .pu (rowD (topsF n ts)), .pu (nD (endB n ts (2 ^ n - 1) ps)), .pu (nsD ps), .un, .un, .un, .un, .un, .un, .un]) (t_cmp (x_nm 4).rd (x_int (i := ((0 : Nat) : Int))).rd d_gtN) (fun z => ?_) (fun z => ?_) (fun Γ' h => hr_nil Γ' (Wk.refl _) h)
      · have h0 := of_decide_eq_true z
        have hp0 := pcs_pos hb60 (by omega)
        refine hr_asgG 5 sc78.nd (R := fun d κ3 => ∃ p ∈ pcsF b, d = nsD (ps ++ [p]) ∧ κ3 ≤ κ2 + 1) (g_opR (x_nm 5) (g_tup (R := fun d κ3 => ∃ p ∈ pcsF b, d = .tup [nD p] ∧ κ3 ≤ κ2 + 1) (ag_consX (R1 := fun d κ3 => ∃ p ∈ pcsF b, d = nD p ∧ κ3 ≤ κ2 + 1) (g_callT (κ := κ2) 0 c.of hr (by decide) (a_cons (x_call c.pieces hr (by decide) (a_cons (x_nm 4) a_nil) ⟨b, Nat.lt_of_lt_of_le hb60 (by decide), rfl, rfl⟩) a_nil) ⟨(pcsF b).map nD, .inr rfl, by rw [List.length_map]; exact hp0, by rw [List.length_map]; have := pcs_len b; omega, by omega⟩ (fun d κ3 h => by
          obtain ⟨h1, h2⟩ := h _ (.inr rfl)
          obtain ⟨p, hp, e⟩ := List.mem_map.mp h1
          exact ⟨p, hp, e.symm, h2⟩)) fun d κ3 ⟨p, hp, e, hk3⟩ => ⟨[], a_nil, Nat.le_of_ble_eq_true rfl, p, hp, by rw [e], hk3⟩)) fun d κ3 ⟨p, hp, e, hk3⟩ => ⟨nsD (ps ++ [p]), by
            rw [e]
            exact (d_catT (ds := ps.map nD) (es' := [nD p]) (by rw [List.length_map]; show ps.length + 1 ≤ 100000; omega)).to (by unfold nsD; rw [List.map_append]; rfl), p, hp, rfl, hk3⟩) fun d κ3 ⟨p, hp, e, hk3⟩ => ?_
        subst e
        obtain ⟨q1, q2, q3⟩ := N.step hb hp
        have htp : ((topsF n ts).getD p 0).testBit p = true := (N.top q1 p).mpr (.refl p)
        have hlt := pcs_lt hp htp
        refine hr_asg 4 sc78.nd (x_mns (x_nm 4).rd (x_ixL (ds := (topsF n ts).map nD) (x_nm 3).rd (x_ixT (d := nD p) (x_nm 5 (d := nsD (ps ++ [p]))).rd (x_neg x_int) (atI_snoc ps p)) (getD_atI (by rw [topsF_len]; exact q1)))) ?_
        refine hr_nil _ (.same (.same (.same (.same (.same (.same (.un (.same (.same (.same (.same (.same (.same .nil))))))))))))) ⟨ps ++ [p], κ3, trip_app ht (by rw [eb]; exact hp), by rw [List.length_append, List.length_singleton]; omega, ?_, by omega, ?_⟩
        · rw [endB_app, eb]
          rcases hprog with h | h
          · omega
          · right
            omega
        · rw [endB_app, eb]
          rfl
      · have h0 := of_decide_eq_false z
        refine hr_nil _ (.same (.same (.same (.same (.same (.same (.un (.same (.same (.same (.same (.same (.same .nil))))))))))))) ⟨ps, κ2, ht, by omega, .inl (by rw [eb]; omega), by omega, ?_⟩
        rw [eb]
    · obtain ⟨ps, κ2, ht, hpl, hprog, hk2, rfl⟩ := hI
      rw [List.length_map, List.length_range] at hpl hprog hk2
      have hb := end_left N.toNet _ _ hE ht
      have he : endB n ts (2 ^ n - 1) ps = 0 := by
        rcases hprog with h | h
        · exact h
        · rcases Nat.eq_zero_or_pos (endB n ts (2 ^ n - 1) ps) with z | z
          · exact z
          · have := pcs_pos (N.clo.lt _ hb) (by omega)
            omega
      have hw := pcs_whole (n := n) (by omega)
      have hln : (List.range n).length ≤ 100000 := by
        rw [List.length_range]
        omega
      have hp64 : ps.length ≤ 100000 := by omega
      have d1 := heard_trip O N.toNet (x := ordD n ts) (y := nsD ps) (okd_ordD n (by omega)) (tup_ordD n ts) ht he (okd_nsD hp64) (tup_nsD ps)
      have d2 := heard_back O N.toNet (x := softD n ts) (okd_soft n (by omega)) (tup_soft n ts) ht he
      have d3 := how_due O N.toNet hE (x := ordD n ts) (y := nsD (List.range n)) (okd_ordD n (by omega)) (tup_ordD n ts) (okd_nsD hln) (by rw [hw]; exact tup_nsD _)
      have d4 := O.dget hE
      have dn : R_numso [ordD n ts, cnD (cntF n ts), nsD ps] (nD (numF n ts (2 ^ n - 1) ps)) := ⟨n, ts, ps, O, ht, rfl, rfl⟩
      generalize numF n ts (2 ^ n - 1) ps = k at d1 d2 dn
      generalize (playsF n ts (2 ^ n - 1)).length = L at d3 d4
      refine hr_asg 7 sc78.nd (x_call c.num hr (by decide) (a_cons (x_nm 1) (a_cons (x_nm 2) (a_cons (x_nm 5) a_nil))) dn) ?_
      refine hr_own 8 (o := .L [nD k, nsD ps, nD L]) sc78.nd (o_lst (ac (x_call c.heard hr (by decide) (ac x_int (ac (x_nm 1) (ac (x_nm 5) a_nil))) d1) (ac (x_call c.heard hr (by decide) (ac x_int (ac (xt (x_call c.lists hr (by decide) (a_cons (x_nm 1) a_nil) ⟨ordD n ts, rfl, okd_ordD n (by omega), rfl⟩) (lst_ordD n ts)) (ac (x_nm 7) a_nil))) d2) (ac (x_call c.how hr (by decide) (ac (x_nm 1) (ac (x_tupR T rfl (x_ixT (d := nD n) (x_nm 1).rd x_int rfl) (by omega)) a_nil)) d3) a_nil))) (by show 3 ≤ 100000; omega)) ?_
      refine hr_frz 8 rfl ?_
      have hsd : Sd 3 (.lst [nD k, nsD ps, nD L]) := sd_lst 2 (by show 3 ≤ 100000; omega) fun e he => by
        have h : e = nD k ∨ e = nsD ps ∨ e = nD L := by simpa using he
        rcases h with h | h | h <;> rw [h]
        · exact sd_nD _ _
        · exact sd_nsD 1 hp64
        · exact sd_nD _ _
      refine hr_ifF (t_not (k := true) (t_val (x_call c.same hr (by decide) (ac (x_nm 8) (ac (xl (o_lst (ds := [nD k, nsD ps, nD L]) (ac (x_nm 7) (ac (x_nm 5) (ac (x_ixD (by exact hr.u1) (x_nm 2).rd (x_full (x_ixT (d := nD n) (x_nm 1).rd x_int rfl) (by omega)) d4) a_nil))) (by show 3 ≤ 100000; omega))) a_nil)) ⟨_, hsd, rfl, rfl⟩))) ?_
      refine hr_eq (Γ' := [.vol (Tin κ2), .pu (ordD n ts), .pu (cnD (cntF n ts)), .pu (rowD (topsF n ts)), .pu (nD (endB n ts (2 ^ n - 1) ps)), .pu (nsD ps), .un, .pu (nD k), .pu (.lst [nD k, nsD ps, nD L]), .un, .un, .un, .un]) ?_ rfl
      refine hr_asgG 9 sc78.nd (R := fun d κ3 => ∃ m : Nat, d = nD m ∧ 55 ≤ m ∧ m ≤ 60 ∧ κ3 ≤ κ2 + 1) (g_opR (x_int (i := ((55 : Nat) : Int))) (g_callT (κ := κ2) 0 c.take hr (by decide) (a_cons (x_int (i := ((6 : Nat) : Int))) a_nil) ⟨6, rfl, by decide, by decide, by omega⟩ (fun d κ' h => h 6 rfl)) fun d2 κ' ⟨v, hv, e, hk'⟩ => ⟨nD (55 + v), by rw [e]; exact d_addN (m := 55), 55 + v, rfl, by omega, by omega, hk'⟩) fun d κ3 ⟨m, e, hm1, hm2, hk3⟩ => ?_
      subst e
      refine hr_parG 10 11 (Rs := fun ds κ4 => ∃ k2 : Nat, ds = [ordD m (chT m), nD k2] ∧ k2 < m - 1 ∧ κ4 ≤ κ3 + 1) rfl sc78.nd (ag_cons (R1 := fun d κ' => d = ordD m (chT m) ∧ κ' = κ3) (EvX.g (i := 0) rfl (x_call c.chain hr (by decide) (a_cons (x_nm 9) a_nil) ⟨m, by omega, hm2, rfl, rfl⟩)) fun d κ' ⟨e, e'⟩ => ag_cons (R1 := fun d κ4 => ∃ k2 : Nat, d = nD k2 ∧ k2 < m - 1 ∧ κ4 ≤ κ3 + 1) (g_callT (κ := κ') 0 c.take hr (by decide) (a_cons (x_op (x_nm 9).rd (x_int (i := ((1 : Nat) : Int))).rd (d_sub.to (show D.int ((m : Int) - ((1 : Nat) : Int)) = D.int ((m - 1 : Nat) : Int) by congr 1; omega))) a_nil) ⟨m - 1, rfl, by omega, by omega, by omega⟩ (fun d κ4 h => by
          obtain ⟨v, h1, h2, h3⟩ := h _ rfl
          exact ⟨v, h2, h1, by omega⟩)) fun d2 κ4 ⟨k2, e2, hk2', hk4⟩ => ag_nil (κ := κ4) (i := 0) rfl ⟨k2, by rw [e, e2], hk2', hk4⟩) fun ds κ4 ⟨k2, e, hk2', hk4⟩ => ⟨_, _, e, ?_⟩
      refine hr_eq (Γ' := [.vol (Tin κ4), .pu (ordD n ts), .pu (cnD (cntF n ts)), .pu (rowD (topsF n ts)), .pu (nD (endB n ts (2 ^ n - 1) ps)), .pu (nsD ps), .un, .pu (nD k), .pu (.lst [nD k, nsD ps, nD L]), .pu (nD m), .pu (ordD m (chT m)), .pu (nD k2), .un]) ?_ rfl
      refine hr_asg 12 sc78.nd (d := nsD (down k2)) (x_tupDn T rfl (x_nm 11) (x_neg x_int) (x_neg x_int) rfl (by omega)) ?_
      refine hr_own 8 (o := .L [nsD (down k2), nD (2 ^ k2 - 1)]) sc78.nd (o_lst (ac (x_call c.heard hr (by decide) (ac x_int (ac (x_nm 10) (ac (x_full (x_nm 11) (by omega)) a_nil))) (heard_dn hm2 (by omega))) (ac (x_call c.heard hr (by decide) (ac x_int (ac (x_nm 10) (ac (x_nm 12) a_nil))) (heard_up hm2 (by omega))) a_nil)) (by show 2 ≤ 100000; omega)) ?_
      refine hr_frz 8 rfl ?_
      have hsd2 : Sd 3 (.lst [nsD (down k2), nD (2 ^ k2 - 1)]) := sd_lst 2 (by show 2 ≤ 100000; omega) fun e he => by
        have h : e = nsD (down k2) ∨ e = nD (2 ^ k2 - 1) := by simpa using he
        rcases h with h | h <;> rw [h]
        · exact sd_nsD 1 (by rw [down_len]; omega)
        · exact sd_nD _ _
      refine hr_ret (d := .bl true) (x_call c.same hr (by decide) (ac (x_nm 8) (ac (xl (o_lst (ds := [nsD (down k2), nD (2 ^ k2 - 1)]) (ac (x_nm 12) (ac (x_full (x_nm 11) (by omega)) a_nil)) (by show 2 ≤ 100000; omega))) a_nil)) ⟨_, hsd2, rfl, rfl⟩) ⟨κ4, rfl, rfl⟩
end
end G
-- M17
set_option maxHeartbeats 4000000
/-! M17: what stands written by hand. -/
namespace G
open PySem PySem.Spec PyProof.Rows L2
theorem nf_vee : NF 3 veT2 := by
  have h := net_nf (n := 3) (ps := veT2) (by omega) (by decide)
  rw [show netT 3 veT2 = veT2 by decide +kernel] at h
  exact h
theorem nf_en : NF 4 enT := by
  have h := net_nf (n := 4) (ps := enT) (by omega) (by decide)
  rw [show netT 4 enT = enT by decide +kernel] at h
  exact h
theorem nf_none : NF 0 [] := net_nf (n := 0) (ps := []) (by omega) (fun _ h => nomatch h)
def veeY : List (List Nat) := [[0], [1, 0], [1, 2, 0], [2, 0], [2, 1, 0]]
theorem plays_vee : playsF 3 veT2 (2 ^ 3 - 1) = veeY := by decide +kernel
theorem plays_none : playsF 0 [] (2 ^ 0 - 1) = [[]] := by decide +kernel
theorem mem_len {xs : List (List Nat)} {ks : List Nat} (h1 : ∀ k ∈ ks, ∃ p ∈ xs, p.length = k) (h2 : ∀ p ∈ xs, p.length ∈ ks) (k : Nat) : k ∈ ks ↔ ∃ p ∈ xs, p.length = k :=
  ⟨h1 k, fun ⟨p, hp, e⟩ => e ▸ h2 p hp⟩
theorem zero_in {n : Nat} {ts : List Pr} : 0 ∈ leftsF n ts := mem_srt.mpr (lefs_zero ts n)
theorem pcs_zero : pcsF 0 = [] := by decide +kernel
theorem okd_o {n : Nat} {ts : List Pr} (N : NF n ts) : Okd 3 (ordD n ts) := okd_ordD n (by have := asc_few N.n60 N.prs N.asc; omega)
theorem how_vee : R_how_many [ordD 3 veT2, nsD [0, 1, 2]] (nD 5) := by
  have h := how_due (nf_vee.small (by omega)) nf_vee.toNet nf_vee.whole (x := ordD 3 veT2) (y := nsD [0, 1, 2]) (okd_o nf_vee) (tup_ordD 3 _) (okd_nsD (by decide)) (by rw [show pcsF (2 ^ 3 - 1) = [0, 1, 2] by decide +kernel]; exact tup_nsD _)
  rw [plays_vee] at h
  exact h
theorem len_vee : R_by_length [ordD 3 veT2, nsD [0, 1, 2]] (tsD [(1, 1), (2, 2), (3, 2)]) := by
  have h := len_due (nf_vee.small (by omega)) nf_vee.toNet nf_vee.whole (x := ordD 3 veT2) (y := nsD [0, 1, 2]) (okd_o nf_vee) (tup_ordD 3 _) (okd_nsD (by decide)) (by rw [show pcsF (2 ^ 3 - 1) = [0, 1, 2] by decide +kernel]; exact tup_nsD _) (ks := [1, 2, 3]) (by decide) (by rw [plays_vee]; exact mem_len (by decide) (by decide))
  rw [plays_vee, show byLen veeY [1, 2, 3] = [(1, 1), (2, 2), (3, 2)] by decide +kernel] at h
  exact h
theorem won_vee : R_won [ordD 3 veT2, nsD [0, 1, 2]] (nD 3) := by
  have h := won_due (nf_vee.small (by omega)) nf_vee.toNet nf_vee.whole (x := ordD 3 veT2) (y := nsD [0, 1, 2]) (okd_o nf_vee) (tup_ordD 3 _) (okd_nsD (by decide)) (by rw [show pcsF (2 ^ 3 - 1) = [0, 1, 2] by decide +kernel]; exact tup_nsD _)
  rw [plays_vee, show (veeY.countP fun p => decide (p.length % 2 = 1)) = 3 by decide +kernel] at h
  exact h
theorem pcs_en : pcsF (2 ^ 4 - 1) = [0, 1, 2, 3] := by decide +kernel
theorem len_en : R_by_length [ordD 4 enT, nsD [0, 1, 2, 3]] (tsD [(2, 2), (3, 5), (4, 5)]) := by
  have h := len_due (nf_en.small (by omega)) nf_en.toNet nf_en.whole (x := ordD 4 enT) (y := nsD [0, 1, 2, 3]) (okd_o nf_en) (tup_ordD 4 _) (okd_nsD (by decide)) (by rw [pcs_en]; exact tup_nsD _) (ks := [2, 3, 4]) (by decide) (mem_len (by decide +kernel) (by decide +kernel))
  rw [show byLen (playsF 4 enT (2 ^ 4 - 1)) [2, 3, 4] = [(2, 2), (3, 5), (4, 5)] by decide +kernel] at h
  exact h
theorem won_en : R_won [ordD 4 enT, nsD [0, 1, 2, 3]] (nD 5) := by
  have h := won_due (nf_en.small (by omega)) nf_en.toNet nf_en.whole (x := ordD 4 enT) (y := nsD [0, 1, 2, 3]) (okd_o nf_en) (tup_ordD 4 _) (okd_nsD (by decide)) (by rw [pcs_en]; exact tup_nsD _)
  rw [show ((playsF 4 enT (2 ^ 4 - 1)).countP fun p => decide (p.length % 2 = 1)) = 5 by decide +kernel] at h
  exact h
theorem len_en0 : R_by_length [ordD 4 enT, nsD []] (tsD [(0, 1)]) := by
  have h := len_due (nf_en.small (by omega)) nf_en.toNet (b := 0) zero_in (x := ordD 4 enT) (y := nsD []) (okd_o nf_en) (tup_ordD 4 _) (okd_nsD (by decide)) (by rw [pcs_zero]; exact tup_nsD _) (ks := [0]) (by decide) (mem_len (by decide +kernel) (by decide +kernel))
  rw [show byLen (playsF 4 enT 0) [0] = [(0, 1)] by decide +kernel] at h
  exact h
theorem won_en0 : R_won [ordD 4 enT, nsD []] (nD 0) := by
  have h := won_due (nf_en.small (by omega)) nf_en.toNet (b := 0) zero_in (x := ordD 4 enT) (y := nsD []) (okd_o nf_en) (tup_ordD 4 _) (okd_nsD (by decide)) (by rw [pcs_zero]; exact tup_nsD _)
  rw [show ((playsF 4 enT 0).countP fun p => decide (p.length % 2 = 1)) = 0 by decide +kernel] at h
  exact h
theorem how_none : R_how_many [ordD 0 [], nsD []] (nD 1) := by
  have h := how_due (nf_none.small (by omega)) nf_none.toNet (b := 0) zero_in (x := ordD 0 []) (y := nsD []) (okd_o nf_none) (tup_ordD 0 _) (okd_nsD (by decide)) (by rw [pcs_zero]; exact tup_nsD _)
  rw [show (playsF 0 [] 0).length = 1 by decide +kernel] at h
  exact h
/-- a number of any sign -/
def hvI (xs : List (List Nat)) (v : Int) : D := if 0 ≤ v ∧ v < xs.length then nsD (xs.getD v.toNat []) else brkD v
theorem heard_int {n : Nat} {ts : List Pr} (O : NetOk n ts) {x : D} (x3 : Okd 3 x) (xe : tupD x = ordD n ts) {xs : List (List Nat)} (hx : playsF n ts (2 ^ n - 1) = xs) (hl : ∀ p ∈ xs, p.length ≤ 64) (v : Int) : R_heard [.int 0, x, .int v] (hvI xs v) := by
  unfold hvI
  by_cases h : 0 ≤ v ∧ v < xs.length
  · rw [if_pos h]
    have e : v = ((v.toNat : Nat) : Int) := by omega
    have hv : v.toNat < xs.length := by omega
    have := heard_num O x3 xe (by rw [hx]; exact hl) v.toNat
    unfold hvD at this
    rw [hx, if_pos hv] at this
    rw [e]
    exact this
  · rw [if_neg h]
    exact .inr (.inl ⟨n, ts, x, v, O, x3, xe, by rw [hx]; omega, rfl, rfl⟩)
def veeT : List (List Nat) := [[0], [1, 0], [1, 2, 0], [2, 0], [2, 1, 0], [], [1]]
def hvP (p : List Nat) : D := if p ∈ veeY then nD (veeY.idxOf p) else canD
theorem heard_vee {p : List Nat} (hp : p ∈ veeT) : R_heard [.int 1, ordD 3 veT2, nsD p] (hvP p) := by
  unfold hvP
  by_cases h : p ∈ veeY
  · rw [if_pos h]
    have hp2 : p ∈ playsF 3 veT2 (2 ^ 3 - 1) := by rw [plays_vee]; exact h
    have hl := (whole_p nf_vee.toNet hp2).l
    exact heard_play (nf_vee.small (by omega)) nf_vee.toNet (okd_o nf_vee) (tup_ordD 3 _) hp2 (okd_nsD (by omega)) (tup_nsD _) (by
      rw [plays_vee]
      have hi := List.idxOf_lt_length_iff.mpr h
      rw [List.getElem?_eq_getElem hi]
      congr 1
      exact List.getElem_idxOf hi)
  · rw [if_neg h]
    have hp3 : p = [] ∨ p = [1] := by
      simp only [veeT, List.mem_cons, List.not_mem_nil, or_false] at hp
      simp only [veeY, List.mem_cons, List.not_mem_nil, or_false] at h
      rcases hp with e | e | e | e | e | e | e
      · exact (h (.inl e)).elim
      · exact (h (.inr (.inl e))).elim
      · exact (h (.inr (.inr (.inl e)))).elim
      · exact (h (.inr (.inr (.inr (.inl e))))).elim
      · exact (h (.inr (.inr (.inr (.inr e))))).elim
      · exact .inl e
      · exact .inr e
    have O := nf_vee.small (by omega)
    rcases hp3 with e | e
    · subst e
      exact .inr (.inr (.inr ⟨3, veT2, [], _, _, O.go, O.fe, ⟨(fun _ h => nomatch h), by decide⟩, (fun i x h => by simp at h), by decide +kernel, okd_o nf_vee, tup_ordD 3 _, okd_nsD (by decide), tup_nsD _, rfl, rfl⟩))
    · subst e
      refine .inr (.inr (.inr ⟨3, veT2, [1], _, _, O.go, O.fe, ⟨by decide, by decide⟩, (fun i x h => ?_), by decide +kernel, okd_o nf_vee, tup_ordD 3 _, okd_nsD (by decide), tup_nsD _, rfl, rfl⟩))
      cases i with
      | zero =>
        show x ∉ goneF veT2 []
        have e0 : goneF veT2 [] = [] := by decide +kernel
        rw [e0]
        exact fun z => nomatch z
      | succ i => simp at h
theorem heard_none0 : R_heard [.int 1, ordD 0 [], nsD []] (nD 0) :=
  heard_play (nf_none.small (by omega)) nf_none.toNet (okd_o nf_none) (tup_ordD 0 _) (by rw [plays_none]; simp) (okd_nsD (by decide)) (tup_nsD _) (by rw [plays_none]; rfl)
/-! ### the chain of thirty -/
theorem c30 : (playsF 30 (chT 30) (2 ^ 30 - 1)).length = 2 ^ 29 := by rw [c_len, c_all (m := 30) (by omega) 29 (by omega)]
theorem range_len {n : Nat} : (List.range n).length = n := List.length_range
theorem how_30 : R_how_many [ordD 30 (chT 30), nsD (List.range 30)] (nD (2 ^ 29)) := by
  have N := nf_chain (m := 30) (by omega)
  have h := how_due (chain_ok (m := 30) (by omega)) N.toNet N.whole (x := ordD 30 (chT 30)) (y := nsD (List.range 30)) (okd_o N) (tup_ordD 30 _) (okd_nsD (by rw [range_len]; omega)) (by rw [pcs_full (by omega)]; exact tup_nsD _)
  rw [c30] at h
  exact h
theorem won_30 : R_won [ordD 30 (chT 30), nsD (List.range 30)] (nD (2 ^ 28)) := by
  have N := nf_chain (m := 30) (by omega)
  have h := won_due (chain_ok (m := 30) (by omega)) N.toNet N.whole (x := ordD 30 (chT 30)) (y := nsD (List.range 30)) (okd_o N) (tup_ordD 30 _) (okd_nsD (by rw [range_len]; omega)) (by rw [pcs_full (by omega)]; exact tup_nsD _)
  rw [show ((playsF 30 (chT 30) (2 ^ 30 - 1)).countP fun p => decide (p.length % 2 = 1)) = cP 30 oddB 30 from rfl, (c_oe (m := 30) (by omega) 28 (by omega)).1] at h
  exact h
theorem brk_30 : R_heard [.int 0, ordD 30 (chT 30), nD (2 ^ 29)] (brkD ((2 ^ 29 : Nat) : Int)) :=
  .inr (.inl ⟨30, chT 30, _, _, chain_ok (by omega), okd_o (nf_chain (by omega)), tup_ordD 30 _, .inr (by rw [c30]; omega), rfl, rfl⟩)
end G
-- La17
set_option maxHeartbeats 4000000
/-! La17: _law_by_hand_right. -/
namespace G
open PySem PySem.Spec PyProof.Rows L2
def G1 : List D := [nD 5, tsD [(1, 1), (2, 2), (3, 2)], tsD [(2, 2), (3, 5), (4, 5)], tsD [(0, 1)], .lst [nD 3, nD 5, nD 0]]
def G2 : List D := [.lst [brkD (-1), nsD [0], nsD [1, 0], nsD [1, 2, 0], nsD [2, 0], nsD [2, 1, 0], brkD 5], .lst [nD 0, nD 1, nD 2, nD 3, nD 4, canD, canD]]
def G3 : List D := [nsD [], brkD 1, nD 0, nD 1]
def G4 : List D := [nD (2 ^ 29), nsD (down 29), nD (2 ^ 29 - 1), brkD ((2 ^ 29 : Nat) : Int), nD (2 ^ 28)]
theorem sd_G1 : ∀ e ∈ G1, Sd 2 e := fun e he => by
  have h : e = nD 5 ∨ e = tsD [(1, 1), (2, 2), (3, 2)] ∨ e = tsD [(2, 2), (3, 5), (4, 5)] ∨ e = tsD [(0, 1)] ∨ e = .lst [nD 3, nD 5, nD 0] := by simpa [G1] using he
  rcases h with h | h | h | h | h <;> rw [h]
  · exact sd_nD _ _
  · exact sd_tsD 0 (by decide)
  · exact sd_tsD 0 (by decide)
  · exact sd_tsD 0 (by decide)
  · refine sd_lst 1 (by decide) fun e he => ?_
    have h : e = nD 3 ∨ e = nD 5 ∨ e = nD 0 := by simpa using he
    rcases h with h | h | h <;> (rw [h]; exact sd_nD _ _)
theorem sd_G2 : ∀ e ∈ G2, Sd 2 e := fun e he => by
  have h : e = .lst [brkD (-1), nsD [0], nsD [1, 0], nsD [1, 2, 0], nsD [2, 0], nsD [2, 1, 0], brkD 5] ∨ e = .lst [nD 0, nD 1, nD 2, nD 3, nD 4, canD, canD] := by simpa [G2] using he
  rcases h with h | h <;> rw [h]
  · refine sd_lst 1 (by decide) fun e he => ?_
    have h : e = brkD (-1) ∨ e = nsD [0] ∨ e = nsD [1, 0] ∨ e = nsD [1, 2, 0] ∨ e = nsD [2, 0] ∨ e = nsD [2, 1, 0] ∨ e = brkD 5 := by simpa using he
    rcases h with h | h | h | h | h | h | h <;> rw [h]
    · exact sd_brk 0 _
    · exact sd_nsD 0 (by decide)
    · exact sd_nsD 0 (by decide)
    · exact sd_nsD 0 (by decide)
    · exact sd_nsD 0 (by decide)
    · exact sd_nsD 0 (by decide)
    · exact sd_brk 0 _
  · refine sd_lst 1 (by decide) fun e he => ?_
    have h : e = nD 0 ∨ e = nD 1 ∨ e = nD 2 ∨ e = nD 3 ∨ e = nD 4 ∨ e = canD := by simpa using he
    rcases h with h | h | h | h | h | h <;> rw [h]
    · exact sd_nD _ _
    · exact sd_nD _ _
    · exact sd_nD _ _
    · exact sd_nD _ _
    · exact sd_nD _ _
    · exact sd_can 0
theorem sd_G3 : ∀ e ∈ G3, Sd 2 e := fun e he => by
  have h : e = nsD [] ∨ e = brkD 1 ∨ e = nD 0 ∨ e = nD 1 := by simpa [G3] using he
  rcases h with h | h | h | h <;> rw [h]
  · exact sd_nsD 1 (by decide)
  · exact sd_brk 1 _
  · exact sd_nD _ _
  · exact sd_nD _ _
theorem sd_G4 : ∀ e ∈ G4, Sd 2 e := fun e he => by
  unfold G4 at he
  rcases List.mem_cons.mp he with h | he
  · rw [h]
    exact sd_nD _ _
  rcases List.mem_cons.mp he with h | he
  · rw [h]
    exact sd_nsD 1 (by rw [down_len]; omega)
  rcases List.mem_cons.mp he with h | he
  · rw [h]
    exact sd_nD _ _
  rcases List.mem_cons.mp he with h | he
  · rw [h]
    exact sd_brk 1 _
  rw [List.mem_singleton.mp he]
  exact sd_nD _ _
theorem sd_all : Sd 3 (.lst (G1 ++ G2 ++ G3 ++ G4)) := sd_lst 2 (by show 16 ≤ 100000; omega) fun e he => by
  rcases List.mem_append.mp he with h | h
  · rcases List.mem_append.mp h with h | h
    · rcases List.mem_append.mp h with h | h
      · exact sd_G1 e h
      · exact sd_G2 e h
    · exact sd_G3 e h
  · exact sd_G4 e h
section
variable {X : Cx} {Γ : Ctx} {p1 p2 p3 p4 p5 : Pos} {k1 k2 k3 k4 k5 : Nat} {a b c d : Nat}
theorem x_n1 : EvX X (.Tuple [.Constant (.int (a : Int)) k1 p1] k5 p5) Γ (nsD [a]) := x_tup (ac x_cN a_nil) (by show 1 ≤ 100000; omega)
theorem x_n2 : EvX X (.Tuple [.Constant (.int (a : Int)) k1 p1, .Constant (.int (b : Int)) k2 p2] k5 p5) Γ (nsD [a, b]) := x_tup (ac x_cN (ac x_cN a_nil)) (by show 2 ≤ 100000; omega)
theorem x_n3 : EvX X (.Tuple [.Constant (.int (a : Int)) k1 p1, .Constant (.int (b : Int)) k2 p2, .Constant (.int (c : Int)) k3 p3] k5 p5) Γ (nsD [a, b, c]) := x_tup (ac x_cN (ac x_cN (ac x_cN a_nil))) (by show 3 ≤ 100000; omega)
theorem x_n4 : EvX X (.Tuple [.Constant (.int (a : Int)) k1 p1, .Constant (.int (b : Int)) k2 p2, .Constant (.int (c : Int)) k3 p3, .Constant (.int (d : Int)) k4 p4] k5 p5) Γ (nsD [a, b, c, d]) := x_tup (ac x_cN (ac x_cN (ac x_cN (ac x_cN a_nil)))) (by show 4 ≤ 100000; omega)
theorem x_n0 : EvX X (.Tuple [] k5 p5) Γ (nsD []) := x_tup a_nil (by show 0 ≤ 100000; omega)
theorem x_can : EvX X (.List [.Constant (.str "can not") k1 p1, .Constant (.bool true) k2 p2] p5) Γ canD := xl (o_lst (ac x_str (ac x_bl a_nil)) (by show 2 ≤ 100000; omega))
end
end G
-- La18
set_option maxHeartbeats 4000000
/-! La18: _law_by_hand_right, the walk. -/
namespace G
open PySem PySem.Spec PyProof.Rows L2
theorem hv7 : ((rngD (-1) 1 7).filter fun _ => true).map (hvI veeY) = [brkD (-1), nsD [0], nsD [1, 0], nsD [1, 2, 0], nsD [2, 0], nsD [2, 1, 0], brkD 5] := rfl
theorem hp7 : (veeT.filter fun _ => true).map hvP = [nD 0, nD 1, nD 2, nD 3, nD 4, canD, canD] := rfl
theorem vee_l : ∀ p ∈ veeY, p.length ≤ 64 := by decide
section
variable {X : Cx} {Γ : Ctx} {p1 p2 p3 p5 p6 : Pos} {k1 k2 k3 : Nat} {i : Int} {e : Expr}
theorem x_brk (h : EvX X e Γ (.int i)) (hs : starEach [e, .Constant (.bool true) k2 p2] X.env = (false, eval e X.env) :: starEach [.Constant (.bool true) k2 p2] X.env := by first | exact st_con | exact st_un | exact st_bin) : EvX X (.List [.Constant (.str "broken") k1 p1, e, .Constant (.bool true) k2 p2] p5) Γ (brkD i) := xl (o_lst (ds := [.str "broken", .int i, .bl true]) (ac x_str (ac h (ac x_bl a_nil) hs)) (by show 3 ≤ 100000; omega))
theorem x_pw {n : Nat} (hn : n ≤ 1000) : EvX X (.BinOp (.Constant (.int 2) k1 p1) .Pow (.Constant (.int (n : Int)) k2 p2) p3) Γ (nD (2 ^ n)) :=
  x_op (x_int (i := 2)).rd (x_int (i := (n : Int))).rd ((d_pow ⟨by omega, by omega, by decide⟩).to (by
    show D.int ((2 : Int) ^ (n : Int).toNat) = D.int ((2 ^ n : Nat) : Int)
    rw [Int.toNat_natCast]
    congr 1))
theorem x_pw1 {n : Nat} (h : EvX X e Γ (nD (2 ^ n))) : EvX X (.BinOp e .Sub (.Constant (.int 1) k1 p1) p2) Γ (nD (2 ^ n - 1)) :=
  x_op h.rd (x_int (i := ((1 : Nat) : Int))).rd (d_sub.to (by
    have := Nat.two_pow_pos n
    show D.int (((2 ^ n : Nat) : Int) - ((1 : Nat) : Int)) = D.int ((2 ^ n - 1 : Nat) : Int)
    rw [Int.ofNat_sub (by omega)]))
end
section
variable {P : Program} {w : World} {K : PySem.W.Frag} {mg : Str → Option Value} {base : Heap}
def R_hand : List D → D → Prop := fun ds d => ds = [] ∧ d = .bl true
theorem sc74 : FnScope ["_law_vee_here", "_law_en_here", "_law_none_so", "_law_got", "_law_due", "_law_long_so", "_law_down_so", "_law_own"] [] (defScope (topS 74)) := ⟨rfl, rfl, rfl, by decide +kernel, rfl, by decide +kernel, by decide +kernel⟩
theorem ok_hand (T : Bn mg) (D0 : Df K mg "_law_by_hand_right" (topS 74) []) (c : Cls P w K mg base) : Cal P w K mg base 10 "_law_by_hand_right" (spF R_hand) :=
  mk_cal D0 sc74 (by decide) (fun ds d h => by rw [h.1]; rfl) fun f cdv A outer s H E hr ds d ⟨h1, h2⟩ => by
    subst h1 h2
    refine hr_asgT rfl (k_x (x_call0 c.vee hr (by decide) ⟨rfl, rfl⟩) (k_x (x_call0 c.en hr (by decide) ⟨rfl, rfl⟩) (k_x (d := ordD 0 []) (x_tup (ds := [nD 0, tsD []]) (ac (x_cN (i := 0)) (ac (x_tup (ds := []) a_nil (by show 0 ≤ 100000; omega)) a_nil)) (by show 2 ≤ 100000; omega)) k_nil))) (tk_cons 0 sc74.nd (tk_cons 1 sc74.nd (tk_cons 2 sc74.nd tk_nil))) ?_
    refine hr_eq (Γ' := [.pu (ordD 3 veT2), .pu (ordD 4 enT), .pu (ordD 0 []), .un, .un, .un, .un, .un]) ?_ rfl
    -- counted
    refine hr_own 3 (o := .L G1) sc74.nd (o_lst (ds := G1) ?_ (by show 5 ≤ 100000; omega)) ?_
    · refine ac (x_call c.how hr (by decide) (ac (x_nm 0) (ac (x_n3 (a := 0) (b := 1) (c := 2)) a_nil)) how_vee) ?_
      refine ac (x_call c.bylen hr (by decide) (ac (x_nm 0) (ac (x_n3 (a := 0) (b := 1) (c := 2)) a_nil)) len_vee) ?_
      refine ac (x_call c.bylen hr (by decide) (ac (x_nm 1) (ac (x_n4 (a := 0) (b := 1) (c := 2) (d := 3)) a_nil)) len_en) ?_
      refine ac (x_call c.bylen hr (by decide) (ac (x_nm 1) (ac x_n0 a_nil)) len_en0) ?_
      refine ac (xl (o_lst (ds := [nD 3, nD 5, nD 0]) ?_ (by show 3 ≤ 100000; omega))) a_nil
      refine ac (x_call c.won hr (by decide) (ac (x_nm 0) (ac (x_n3 (a := 0) (b := 1) (c := 2)) a_nil)) won_vee) ?_
      refine ac (x_call c.won hr (by decide) (ac (x_nm 1) (ac (x_n4 (a := 0) (b := 1) (c := 2) (d := 3)) a_nil)) won_en) ?_
      exact ac (x_call c.won hr (by decide) (ac (x_nm 1) (ac x_n0 a_nil)) won_en0) a_nil
    refine hr_frz 3 rfl ?_
    refine hr_own 4 (o := .L G1) sc74.nd (o_lst (ds := G1) ?_ (by show 5 ≤ 100000; omega)) ?_
    · refine ac (x_cN (i := 5)) ?_
      refine ac (d := tsD [(1, 1), (2, 2), (3, 2)]) (x_tup (ds := [prD (1, 1), prD (2, 2), prD (3, 2)]) (ac (x_prC (i := 1) (j := 1)) (ac (x_prC (i := 2) (j := 2)) (ac (x_prC (i := 3) (j := 2)) a_nil))) (by show 3 ≤ 100000; omega)) ?_
      refine ac (d := tsD [(2, 2), (3, 5), (4, 5)]) (x_tup (ds := [prD (2, 2), prD (3, 5), prD (4, 5)]) (ac (x_prC (i := 2) (j := 2)) (ac (x_prC (i := 3) (j := 5)) (ac (x_prC (i := 4) (j := 5)) a_nil))) (by show 3 ≤ 100000; omega)) ?_
      refine ac (d := tsD [(0, 1)]) (x_tup (ds := [prD (0, 1)]) (ac (x_prC (i := 0) (j := 1)) a_nil) (by show 1 ≤ 100000; omega)) ?_
      exact ac (xl (o_lst (ds := [nD 3, nD 5, nD 0]) (ac (x_cN (i := 3)) (ac (x_cN (i := 5)) (ac (x_cN (i := 0)) a_nil))) (by show 3 ≤ 100000; omega))) a_nil
    refine hr_frz 4 rfl ?_
    refine hr_eq (Γ' := [.pu (ordD 3 veT2), .pu (ordD 4 enT), .pu (ordD 0 []), .pu (.lst G1), .pu (.lst G1), .un, .un, .un]) ?_ rfl
    -- by number
    refine hr_own 3 (o := .L (G1 ++ G2)) sc74.nd (o_op (x_nm 3).rd (rl (o_lst (ds := G2) ?_ (by show 2 ≤ 100000; omega))) (o_cat (by show 7 ≤ 100000; omega))) ?_
    · refine ac (xl (xt2 (o_lc [("_law_own", 7)] D.int (rngD (-1) 1 7) (fun _ => true) (hvI veeY) rfl sc74.nd (it_rng2 T (i := -1) (j := 6) (x_neg x_int) x_int (by omega)) (by rfl) (by rw [rngD_len]; omega) fun v hv => ⟨_, fun s H0 C cl fp => tg_fn 7 sc74.nd, .nil, fun _ s H0 C cl fp => x_call c.heard hr (by decide) (ac x_int (ac (x_nm 0) (ac (x_nm 7) a_nil))) (heard_int (nf_vee.small (by omega)) (okd_o nf_vee) (tup_ordD 3 _) plays_vee vee_l v)⟩) hv7)) ?_
      refine ac (xl (xt2 (o_lc [("_law_own", 7)] nsD veeT (fun _ => true) hvP rfl sc74.nd (it_tup (x_tup (ds := veeT.map nsD) ?_ (by show 7 ≤ 100000; omega))) (by rfl) (by show 7 ≤ 100000; omega) fun p hp => ⟨_, fun s H0 C cl fp => tg_fn 7 sc74.nd, .nil, fun _ s H0 C cl fp => x_call c.heard hr (by decide) (ac x_int (ac (x_nm 0) (ac (x_nm 7) a_nil))) (heard_vee hp)⟩) hp7)) a_nil
      exact ac (x_n1 (a := 0)) (ac (x_n2 (a := 1) (b := 0)) (ac (x_n3 (a := 1) (b := 2) (c := 0)) (ac (x_n2 (a := 2) (b := 0)) (ac (x_n3 (a := 2) (b := 1) (c := 0)) (ac x_n0 (ac (x_n1 (a := 1)) a_nil))))))
    refine hr_frz 3 rfl ?_
    refine hr_own 4 (o := .L (G1 ++ G2)) sc74.nd (o_op (x_nm 4).rd (rl (o_lst (ds := G2) ?_ (by show 2 ≤ 100000; omega))) (o_cat (by show 7 ≤ 100000; omega))) ?_
    · refine ac (xl (o_lst (ds := [brkD (-1), nsD [0], nsD [1, 0], nsD [1, 2, 0], nsD [2, 0], nsD [2, 1, 0], brkD 5]) ?_ (by show 7 ≤ 100000; omega))) ?_
      · exact ac (x_brk (x_neg x_int)) (ac (x_n1 (a := 0)) (ac (x_n2 (a := 1) (b := 0)) (ac (x_n3 (a := 1) (b := 2) (c := 0)) (ac (x_n2 (a := 2) (b := 0)) (ac (x_n3 (a := 2) (b := 1) (c := 0)) (ac (x_brk x_int) a_nil))))))
      · exact ac (xl (o_lst (ds := [nD 0, nD 1, nD 2, nD 3, nD 4, canD, canD]) (ac (x_cN (i := 0)) (ac (x_cN (i := 1)) (ac (x_cN (i := 2)) (ac (x_cN (i := 3)) (ac (x_cN (i := 4)) (ac x_can (ac x_can a_nil))))))) (by show 7 ≤ 100000; omega))) a_nil
    refine hr_frz 4 rfl ?_
    refine hr_eq (Γ' := [.pu (ordD 3 veT2), .pu (ordD 4 enT), .pu (ordD 0 []), .pu (.lst (G1 ++ G2)), .pu (.lst (G1 ++ G2)), .un, .un, .un]) ?_ rfl
    -- the empty order
    refine hr_own 3 (o := .L (G1 ++ G2 ++ G3)) sc74.nd (o_op (x_nm 3).rd (rl (o_lst (ds := G3) ?_ (by show 4 ≤ 100000; omega))) (o_cat (by show 11 ≤ 100000; omega))) ?_
    · have O0 := nf_none.small (by omega)
      have h0 := heard_int O0 (okd_o nf_none) (tup_ordD 0 _) plays_none (by decide) 0
      have h1 := heard_int O0 (okd_o nf_none) (tup_ordD 0 _) plays_none (by decide) 1
      exact ac (d := nsD []) (x_call c.heard hr (by decide) (ac x_int (ac (x_nm 2) (ac x_int a_nil))) h0) (ac (d := brkD 1) (x_call c.heard hr (by decide) (ac x_int (ac (x_nm 2) (ac x_int a_nil))) h1) (ac (x_call c.heard hr (by decide) (ac x_int (ac (x_nm 2) (ac x_n0 a_nil))) heard_none0) (ac (x_call c.how hr (by decide) (ac (x_nm 2) (ac x_n0 a_nil)) how_none) a_nil)))
    refine hr_frz 3 rfl ?_
    refine hr_own 4 (o := .L (G1 ++ G2 ++ G3)) sc74.nd (o_op (x_nm 4).rd (rl (o_lst (ds := G3) (ac x_n0 (ac (x_brk x_int) (ac (x_cN (i := 0)) (ac (x_cN (i := 1)) a_nil)))) (by show 4 ≤ 100000; omega))) (o_cat (by show 11 ≤ 100000; omega))) ?_
    refine hr_frz 4 rfl ?_
    refine hr_eq (Γ' := [.pu (ordD 3 veT2), .pu (ordD 4 enT), .pu (ordD 0 []), .pu (.lst (G1 ++ G2 ++ G3)), .pu (.lst (G1 ++ G2 ++ G3)), .un, .un, .un]) ?_ rfl
    -- a chain of thirty
    refine hr_par 5 6 rfl sc74.nd (k_x (x_call c.chain hr (by decide) (ac (x_cN (i := 30)) a_nil) ⟨30, by omega, by omega, rfl, rfl⟩) (k_x (d := nsD (down 29)) (x_tupDn T rfl (d := 29) (k := 29) x_int (x_neg x_int) (x_neg x_int) rfl (by omega)) k_nil)) ?_
    refine hr_eq (Γ' := [.pu (ordD 3 veT2), .pu (ordD 4 enT), .pu (ordD 0 []), .pu (.lst (G1 ++ G2 ++ G3)), .pu (.lst (G1 ++ G2 ++ G3)), .pu (ordD 30 (chT 30)), .pu (nsD (down 29)), .un]) ?_ rfl
    refine hr_own 3 (o := .L (G1 ++ G2 ++ G3 ++ G4)) sc74.nd (o_op (x_nm 3).rd (rl (o_lst (ds := G4) ?_ (by show 5 ≤ 100000; omega))) (o_cat (by show 16 ≤ 100000; omega))) ?_
    · refine ac (x_call c.how hr (by decide) (ac (x_nm 5) (ac (x_tupR T rfl (x_cN (i := 30)) (by omega)) a_nil)) how_30) ?_
      refine ac (x_call c.heard hr (by decide) (ac x_int (ac (x_nm 5) (ac (x_pw1 (x_pw (n := 29) (by omega))) a_nil))) (heard_dn (m := 30) (k := 29) (by omega) (by omega))) ?_
      refine ac (x_call c.heard hr (by decide) (ac x_int (ac (x_nm 5) (ac (x_nm 6) a_nil))) (heard_up (m := 30) (k := 29) (by omega) (by omega))) ?_
      refine ac (x_call c.heard hr (by decide) (ac x_int (ac (x_nm 5) (ac (x_pw (n := 29) (by omega)) a_nil))) brk_30) ?_
      exact ac (x_call c.won hr (by decide) (ac (x_nm 5) (ac (x_tupR T rfl (x_cN (i := 30)) (by omega)) a_nil)) won_30) a_nil
    refine hr_frz 3 rfl ?_
    refine hr_ret (d := .bl true) (x_call c.same hr (by decide) (ac (x_nm 3) (ac (d := .lst (G1 ++ G2 ++ G3 ++ G4)) (xl (o_op (x_nm 4).rd (rl (o_lst (ds := G4) ?_ (by show 5 ≤ 100000; omega))) (o_cat (by show 16 ≤ 100000; omega)))) a_nil)) ⟨_, sd_all, rfl, rfl⟩) rfl
    exact ac (x_pw (n := 29) (by omega)) (ac (x_nm 6) (ac (x_pw1 (x_pw (n := 29) (by omega))) (ac (x_brk (x_pw (n := 29) (by omega))) (ac (x_pw (n := 28) (by omega)) a_nil))))
end
end G
-- La19
set_option maxHeartbeats 4000000
/-! La19: _law_box; the box; law. -/
namespace G
open PySem PySem.Spec PyProof.Rows L2
/-! ### cells are bounded -/
theorem cell_le {B : Nat} : ∀ (l : List (Int × Nat)) (c : Int), (∀ x ∈ l, x.1.natAbs ≤ B ∧ x.2 < 63) → (l.foldl cellSt c).natAbs ≤ c.natAbs + l.length * (B * 65)
  | [], c, _ => by simp
  | x :: l, c, h => by
    rw [List.foldl_cons]
    have h1 := cell_le l (cellSt c x) fun y hy => h y (List.mem_cons_of_mem _ hy)
    obtain ⟨h2, h3⟩ := h x List.mem_cons_self
    have h4 : (cellSt c x).natAbs ≤ c.natAbs + B * 65 := by
      unfold cellSt
      refine Nat.le_trans (Int.natAbs_add_le _ _) (Nat.add_le_add_left ?_ _)
      rw [Int.natAbs_mul]
      exact Nat.mul_le_mul h2 (by omega)
    rw [List.length_cons, Nat.succ_mul]
    omega
theorem cell_fit {ns : List Int} (h : NsOk ns) : (cellF ns).natAbs < 2 ^ 1048600 := by
  have hB : ∀ z ∈ ns, z.natAbs ≤ 2 ^ 1048576 := fun z hz => Nat.le_of_lt (h.2 z hz)
  generalize hP : 2 ^ 1048576 = B at hB
  have hc : ((cell0 ns).getD 0 0).natAbs ≤ B := by
    unfold cell0
    split
    · exact Nat.zero_le _
    · rename_i hne
      cases e : cutD ns none (some 1) with
      | nil => exact Nat.zero_le _
      | cons a r => exact hB a (cut_mem (by rw [e]; exact List.mem_cons_self))
  have hl := cut_len ns (some 1) (some 63)
  have h1 := h.1
  have h2 := cell_le (B := B) ((cutD ns (some 1) (some 63)).zipIdx) ((cell0 ns).getD 0 0) fun x hx => by
    obtain ⟨i, hi⟩ := List.mem_iff_getElem?.mp hx
    rw [List.getElem?_zipIdx] at hi
    cases e : (cutD ns (some 1) (some 63))[i]? with
    | none =>
      rw [e] at hi
      cases hi
    | some z =>
      rw [e] at hi
      have ex : (z, 0 + i) = x := Option.some.inj hi
      subst ex
      refine ⟨hB z (cut_mem (List.mem_of_getElem? e)), ?_⟩
      have := (List.getElem?_eq_some_iff.mp e).1
      show 0 + i < 63
      omega
  rw [List.length_zipIdx] at h2
  have h3 : (cutD ns (some 1) (some 63)).length * (B * 65) ≤ 63 * (B * 65) := Nat.mul_le_mul_right _ (by omega)
  have h4 : (cellF ns).natAbs ≤ B + 63 * (B * 65) := by
    unfold cellF
    omega
  have h5 : 2 ^ 1048600 = B * 16777216 := by
    rw [← hP, show (1048600 : Nat) = 1048576 + 24 by omega, Nat.pow_add]
  have h6 : 0 < B := by
    rw [← hP]
    exact Nat.two_pow_pos _
  rw [h5]
  omega
/-! ### a list of its own handed out -/
def spO (R : List D → B → Prop) : Sp := fun vs H Q _ => ∃ (W : Wd) (ds : List D) (b : B), W.H = H ∧ RpA W.F ds vs ∧ R ds b ∧ ∀ v W2, Ext W W2 → Fresh b W W2 v → Q v W2.H
def boxF (z : Int) : List Int := [(if z < 0 then -z else z) * (if decide ((10 : Int) ^ 18 ≤ (if z < 0 then -z else z)) = true then 1 else 0), z % 2305843009213693951 + 39373 * 0 + 5323040, 0]
def R_box : List D → B → Prop := fun ds b => ∃ z : Int, z.natAbs < 2 ^ 1048600 ∧ ds = [.lst [.int z], nD 0] ∧ b = .L ((boxF z).map D.int)
section
variable {X : Cx} {Γ : Ctx} {e : Expr} {es : List Expr} {pos p : Pos} {k j : Nat} {x : Str} {R : List D → B → Prop} {b : B}
theorem o_call {ds : List D} (c : Cal X.prog X.w X.K X.mg X.base k x (spO R)) (hr : Room j X.A) (hk : k ≤ j) (ha : EvA X (e :: es) Γ ds) (hR : R ds b) (hg : Gl X x := by rfl)
    (hdb : (x == ("__debug__" : Str)) = false := by decide) (he : starEach (e :: es) X.env = (false, eval e X.env) :: starEach es X.env := by first | exact st_call | rfl) (hpl : (backTo pos (starEach es X.env)).any (·.1) = false := by rfl) :
    EvO X (.Call (.Name x p) (e :: es) [] pos) Γ b := fun t W0 W σ l E Q q => by
  obtain ⟨f, fd, ps, F, hm, kp, bb⟩ := c.ex
  exact wE_of (pe_call F (hr.mono hk) hg hm kp bb .nil pass0 (pa_w X _) hdb he hpl) (ha t W0 W σ l E _ fun vs W1 e1 r1 => ⟨W1, ds, b, rfl, by rw [List.append_nil]; exact r1, hR, fun v W2 e2 r2 => q v W2 (e1.trans e2) (r2.back e1)⟩)
end
section
variable {X : Cx} {Γ : Ctx} {e : Expr} {t : Option Addr} {W0 W : Wd} {σ : L2.St} {Q : VK}
theorem ite01 (b : Bool) : (if b = true then (1 : Int) else 0) = 0 ∨ (if b = true then (1 : Int) else 0) = 1 := by cases b <;> simp
theorem evx_use {d : D} (l : Le t W0 W) (E : Env X.K t W0 W σ Γ) (h : EvX X e Γ d) (q : ∀ v W2, Ext W W2 → Rp W2.F d v → Q v W2.H) : wE X e σ W.H Q := h t W0 W σ l E Q q
theorem evo_use {b : B} (l : Le t W0 W) (E : Env X.K t W0 W σ Γ) (h : EvO X e Γ b) (q : ∀ v W2, Ext W W2 → Fresh b W W2 v → Q v W2.H) : wE X e σ W.H Q := h t W0 W σ l E Q q
end
section
variable {P : Program} {w : World} {K : PySem.W.Frag} {mg : Str → Option Value} {base : Heap}
theorem sc52 : FnScope ["_law_script", "_law_k", "_law_bit_so"] ["_law_script", "_law_k"] (defScope (topS 52)) := ⟨rfl, rfl, rfl, by decide +kernel, rfl, by decide +kernel, by decide +kernel⟩
theorem ok_box (T : Bn mg) (D0 : Df K mg "_law_box" (topS 52) ["_law_script", "_law_k"]) : Cal P w K mg base 1 "_law_box" (spO R_box) := by
  obtain ⟨f, fd, F, hm, hb⟩ := D0.ex
  refine ⟨f, fd, ["_law_script", "_law_k"], F.ok sc52 (fun vs H Q E h => ?_) (fun cdv A outer s H vs Q E hr h => ?_), hm, F.kp, hb⟩
  · obtain ⟨W, ds, b, _, h1, ⟨z, _, h2, _⟩, _⟩ := h
    rw [h1.len, h2]
    rfl
  · obtain ⟨W, ds, b, rfl, h1, ⟨z, hz, rfl, rfl⟩, h3⟩ := h
    refine ⟨_, pss_w _ _, ?_⟩
    have hr : Room 0 (bdX P w K mg base ["_law_script", "_law_k", "_law_bit_so"] "_law_box" (topS 52) f cdv A outer s W.H E).A := hr
    have E0 : Env K none W W _ (ctx0 3 [.lst [.int z], nD 0]) := env_start (N := ["_law_script", "_law_k", "_law_bit_so"]) h1 (by show 2 ≤ 3; omega)
    have E0 : Env K none W W _ [.pu (.lst [.int z]), .pu (nD 0), .un] := E0
    refine wSs_of (pss_cons (ps_set (i := 2) sc52.nd rfl (.inl rfl) (pe_w _ _) rfl (.inr rfl)) (pss_one (ps_ret (pe_w _ _)))) ?_
    show wE _ _ _ _ _
    refine evx_use (d := .int z) (Le.refl _ _) E0 ?_ fun v W1 e1 r1 => ?_
    · refine x_ifX (k := true) ((t_cmp (x_nm 1).rd (EvX.rd (x_lenL T (ds := [.int z]) (x_nm 0).rd)) d_lt).to (decide_eq_true (by show (0 : Int) < 1; omega))) (fun _ => x_ixL (ds := [.int z]) (x_nm 0).rd (x_nm 1) rfl) (fun z => by cases z)
    · have E1 := (E0.ext e1).setPu 2 r1
      show wE _ _ _ _ _
      refine evo_use (b := .L ((boxF z).map D.int)) ((Le.refl _ _).ext E0.tv e1) E1 ?_ fun v2 W2 e2 fr => h3 v2 W2 (e1.trans e2) (fr.back e1)
      have hab : (if z < 0 then -z else z).natAbs < 2 ^ 1048600 := by
        split <;> omega
      have hab0 : 0 ≤ (if z < 0 then -z else z) := by split <;> omega
      have hxa : ∀ {k : Int}, k = 0 ∨ k = 1 → CMulX (if z < 0 then -z else z) k := fun {k} hk => cmul 1048600 1 hab (by rcases hk with e | e <;> rw [e] <;> decide) (by decide)
      refine o_lst (ds := (boxF z).map D.int) (ac ?_ (ac ?_ (ac x_int a_nil))) (by show 3 ≤ 100000; omega)
      · refine x_op (EvX.rd (x_abs T (x_nm 2 (d := .int z)).rd)) (EvX.rd (x_intB T (EvX.rd (x_cmp (EvX.rd (x_abs T (x_nm 2 (d := .int z)).rd)) (EvX.rd (x_op (x_int (i := 10)).rd (x_int (i := 18)).rd (d_pow ⟨by omega, by omega, by decide⟩))) d_ge)))) (d_mul (hxa (ite01 _)))
      · exact x_op (EvX.rd (x_op (EvX.rd (x_op (EvX.rd (x_intI T (x_nm 2 (d := .int z)).rd)) x_int.rd (d_mod (by decide)))) (EvX.rd (x_op x_int.rd (x_nm 1 (d := .int 0)).rd (d_mul (cmul 64 64 (by decide) (by decide) (by decide))))) d_add)) x_int.rd d_add
end
end G
-- La20
set_option maxHeartbeats 4000000
/-! La20: a list of one's own as the box; law. -/
namespace G
open PySem PySem.Spec PyProof.Rows L2
theorem env_un {K : PySem.W.Frag} {W0 W2 : Wd} {σ2 : L2.St} {t : Option Addr} {W : Wd} {Γ2 : Ctx} (E2 : Env K t W W2 σ2 Γ2) : Env K none W0 W2 σ2 (Γ2.map fun _ => Slot.un) := by
  refine ⟨by rw [List.length_map]; exact E2.len, ⟨fun _ _ => False, fun _ _ _ z _ => z.elim, fun _ _ z => z.elim, fun i s hs => ?_⟩, fun a z => (by cases z), fun a z => (by cases z)⟩
  rw [List.getElem?_map] at hs
  cases e : Γ2[i]? with
  | none =>
    rw [e] at hs
    cases hs
  | some u =>
    rw [e] at hs
    have : s = .un := (Option.some.inj hs).symm
    subst this
    trivial
section
variable {X : Cx} {Γ Γ' : Ctx} {rest : List Stmt} {Rt : D → Prop} {en : Option Addr → Wd → Prop}
theorem hr_boxed (i : Nat) {a b c : Int} {κ : Nat} (hi : Γ[i]? = some (.ow (.one (.L [.int a, .int b, .int c])))) (f : 0 ≤ a ∧ 0 ≤ b ∧ b < 2 ^ 62 ∧ 0 ≤ c ∧ c ≤ κ) (hen : ∀ t W0, en t W0 → t = none) (hl : Γ'.length = Γ.length) (hΓ : ∀ (j : Nat) (s : Slot), Γ'[j]? = some s → s = .un ∨ (j = i ∧ s = .vol (Tin κ)))
    (k : Hr X rest Γ' { rt := fun d _ => Rt d }) : Hr X rest Γ { rt := fun d _ => Rt d, en := en } := fun t W0 W σ hn l E De q1 q2 q3 q4 => by
  have ht := hen t W0 hn
  subst ht
  obtain ⟨hl0, ⟨ow, h1, h2, h3⟩, _, _⟩ := E
  obtain ⟨v, hv, p, o, rfl, hp, ho, xs, rfl, hx⟩ := h3 i _ hi
  obtain ⟨g1, g2, _⟩ := h2 i p hp
  have ex : xs = [.int a, .int b, .int c] := by
    have hx2 : RpA W.F ([a, b, c].map D.int) xs := hx
    exact RpA.ints hx2
  subst ex
  have htv : Tv (some p) W := fun a z => by
    cases z
    exact ⟨g1, _, ho⟩
  have E2 : Env X.K (some p) W W σ Γ' := ⟨by rw [hl0, hl], ⟨fun _ _ => False, fun _ _ _ z _ => z.elim, fun _ _ z => z.elim, fun j s hs => by
    rcases hΓ j s hs with e | ⟨e1, e2⟩
    · subst e
      trivial
    · subst e1 e2
      exact ⟨p, _, hv, rfl, ho, a, b, c, rfl, f⟩⟩, htv, htv⟩
  have le : ∀ {W2 : Wd}, Le (some p) W W2 → Le none W0 W2 := fun {W2} l2 => by
    refine ⟨fun x u hu _ => ?_, l.f.trans l2.f, fun x n1 n2 => ?_⟩
    · have hx1 := l.h x u hu (fun z => nomatch z)
      refine l2.h x u hx1 fun z => ?_
      cases z
      rw [g2] at hu
      cases hu
    · cases e : W.F x with
      | some u => exact l.n x n1 (by rw [e]; exact fun z => nomatch z)
      | none =>
        have hz := l2.n x e n2
        cases e2 : W0.H x with
        | none => rfl
        | some u =>
          rw [l.h x u e2 (fun z => nomatch z)] at hz
          cases hz
  exact k (some p) W W σ trivial (.refl _ _) E2 De (fun _ _ _ _ _ _ z => z.elim) (fun v d σ2 W2 Γ2 l2 s2 E3 r m => q2 v d σ2 W2 _ (le l2) s2 (env_un E3) r m) (fun _ _ _ _ _ _ z => z.elim) (fun _ _ _ _ _ _ z => z.elim)
end
/-- what the law itself calls -/
structure Top (P : Program) (w : World) (K : PySem.W.Frag) (mg : Str → Option Value) (base : Heap) : Prop where
  cells : Cal P w K mg base 1 "_law_cells" (spS K R_cells)
  box : Cal P w K mg base 1 "_law_box" (spO R_box)
  take : Cal P w K mg base 1 "_law_take" (spT TkPre TkR)
  hand : Cal P w K mg base 10 "_law_by_hand_right" (spF R_hand)
  great : Cal P w K mg base 10 "_law_great_right" (spT UnPre UnR)
  right : Cal P w K mg base 10 "_law_right" (spT UnPre UnR)
section
variable {P : Program} {w : World} {K : PySem.W.Frag} {mg : Str → Option Value} {base : Heap}
def R_law : List Int → List D → D → Prop := fun ns ds d => NsOk ns ∧ ds = [] ∧ d = .bl true
theorem sc79 : FnScope ["_law_script", "_law_tin"] ["_law_script"] (defScope (topS 79)) := ⟨rfl, rfl, rfl, by decide +kernel, rfl, by decide +kernel, by decide +kernel⟩
theorem box_ok (z : Int) : ∃ a b : Int, boxF z = [a, b, 0] ∧ 0 ≤ a ∧ 0 ≤ b ∧ b < 2 ^ 62 := by
  refine ⟨_, _, rfl, ?_, ?_, ?_⟩
  · have hab0 : 0 ≤ (if z < 0 then -z else z) := by split <;> omega
    rcases ite01 (decide ((10 : Int) ^ 18 ≤ (if z < 0 then -z else z))) with e | e <;> rw [e] <;> omega
  · have := Int.emod_nonneg z (show (2305843009213693951 : Int) ≠ 0 by decide)
    omega
  · have := Int.emod_lt_of_pos z (show (0 : Int) < 2305843009213693951 by decide)
    omega
theorem law_fn {fa : Addr} {fd : FuncData} (T : Bn mg) (F : L2.Fun K "law" "law" (topS 79) fa fd) (c : Top P w K mg base) : FnOk P w K mg base CX0 30 fa fd ["_law_script"] (spS K R_law) :=
  F.ok sc79 (fun vs H Q E h => by
    obtain ⟨W, a, ns, ws, ds, d, _, rfl, _, h1, ⟨_, h2, _⟩, _⟩ := h
    rw [List.length_cons, h1.len, h2]
    rfl) fun cdv A outer s H vs Q E hr h => by
    obtain ⟨W, a, ns, ws, ds, d, rfl, rfl, hS, h1, ⟨hns, rfl, rfl⟩, h3⟩ := h
    obtain ⟨ba, bb, eb, b1, b2, b3⟩ := box_ok (cellF ns)
    have body : Hr (bdX P w K mg base ["_law_script", "_law_tin"] "law" (topS 79) fa cdv A outer s W.H E) (defBody (topS 79)) [.scr ns, .un] { rt := fun d' _ => d' = .bl true, en := fun t W0 => t = none ∧ W0 = W } := by
      refine hr_own 1 (o := .L [.int ba, .int bb, .int 0]) sc79.nd (xt2 (o_call c.box hr (by decide) (ac (x_callS 0 c.cells hr (by decide) (a_cons (x_int (i := ((1 : Nat) : Int))) a_nil) ⟨hns, rfl, rfl⟩) (ac (x_cN (i := 0)) a_nil)) ⟨cellF ns, cell_fit hns, rfl, rfl⟩) (by rw [eb]; rfl)) ?_
      refine hr_ifF (t_not (k := true) (t_val (x_call0 c.hand hr (by decide) ⟨rfl, rfl⟩))) ?_
      refine hr_boxed (Rt := fun d' => d' = .bl true) (κ := 0) (Γ' := [.un, .vol (Tin 0)]) 1 rfl ⟨b1, b2, b3, Int.le_refl _, Int.le_refl _⟩ (fun t W0 h => h.1) rfl (fun j s hs => ?_) ?_
      · match j, hs with
        | 0, hs => exact .inl (Option.some.inj hs).symm
        | 1, hs => exact .inr ⟨rfl, (Option.some.inj hs).symm⟩
        | j + 2, hs => cases hs
      · refine hr_retG (R := fun d κ => d = .bl true) (g_if (Rb := fun _ κ' => κ' ≤ 1) (tg_cmp (R1 := fun d κ2 => (∃ v : Nat, d = nD v) ∧ κ2 ≤ 1) (g_callT (κ := 0) 1 c.take hr (by decide) (a_cons (x_int (i := ((5 : Nat) : Int))) a_nil) ⟨5, rfl, by decide, by decide, by omega⟩ (fun d κ3 h => by
          obtain ⟨v, _, e, hk3⟩ := h 5 rfl
          exact ⟨⟨v, e⟩, by omega⟩)) fun d κ3 ⟨⟨v, e⟩, hk3⟩ => ⟨nD 0, decide (v = 0), x_int, by rw [e]; exact d_eqN, hk3⟩) (fun κ2 hk2 => ?_) fun κ2 hk2 => ?_) fun d κ' h => h
        · exact g_callT (κ := κ2) 1 c.great hr (by decide) a_nil ⟨rfl, by omega⟩ fun d κ3 h => h
        · exact g_callT (κ := κ2) 1 c.right hr (by decide) a_nil ⟨rfl, by omega⟩ fun d κ3 h => h
    refine ⟨_, pss_w _ _, body none W W _ ⟨rfl, rfl⟩ (.refl _ _) (env_startS (x := "_law_script") (N := ["_law_tin"]) h1 (by show 0 ≤ 1; omega) hS) _ (fun _ _ _ _ _ _ z => z.elim) (fun v d' σ2 W2 Γ2 l2 _ E2 r2 e => ?_) (fun _ _ _ _ _ _ z => z.elim) (fun _ _ _ _ _ _ z => z.elim)⟩
    have e : d' = .bl true := e
    subst e
    exact h3 v W2 l2.ext0 r2
end
end G
-- Ed1
set_option maxHeartbeats 4000000
/-! Ed1: every def by its contract, put together (printed by gen_end.py). -/
namespace G
open PySem PySem.Spec PyProof.Rows L2
/-- the defs of the text -/
structure Dfs (K : PySem.W.Frag) (mg : Str → Option Value) : Prop where
  d6 : Df K mg "is_number" (topS 6) ["thing"]
  d7 : Df K mg "is_from" (topS 7) ["thing", "least"]
  d8 : Df K mg "is_within" (topS 8) ["thing", "least", "most"]
  d9 : Df K mg "is_long" (topS 9) ["thing", "length"]
  d10 : Df K mg "tupled" (topS 10) ["value"]
  d11 : Df K mg "ascends" (topS 11) ["row"]
  d12 : Df K mg "are_numbers" (topS 12) ["thing"]
  d14 : Df K mg "is_pair_of" (topS 14) ["many", "thing"]
  d15 : Df K mg "directs_by" (topS 15) ["many", "pairs"]
  d16 : Df K mg "ups_by" (topS 16) ["directs"]
  d17 : Df K mg "follows_by" (topS 17) ["directs", "ups", "low", "high"]
  d18 : Df K mg "ties_by" (topS 18) ["directs"]
  d19 : Df K mg "ties_of" (topS 19) ["pairs"]
  d20 : Df K mg "follow_none" (topS 20) ["ties"]
  d21 : Df K mg "is_order" (topS 21) ["thing"]
  d22 : Df K mg "sure_order" (topS 22) ["order"]
  d24 : Df K mg "are_pieces_in" (topS 24) ["order", "thing"]
  d25 : Df K mg "is_left_in" (topS 25) ["order", "thing"]
  d26 : Df K mg "sure_left" (topS 26) ["order", "left"]
  d27 : Df K mg "whole" (topS 27) ["order"]
  d28 : Df K mg "gone_by" (topS 28) ["order", "pieces"]
  d29 : Df K mg "flaw_in" (topS 29) ["order", "pieces"]
  d30 : Df K mg "behind_in" (topS 30) ["order", "play"]
  d31 : Df K mg "is_play_in" (topS 31) ["order", "thing"]
  d32 : Df K mg "sure_play" (topS 32) ["order", "play"]
  d35 : Df K mg "bits_for" (topS 35) ["pieces"]
  d36 : Df K mg "pieces_for" (topS 36) ["bits"]
  d37 : Df K mg "tops_by_bits" (topS 37) ["order"]
  d38 : Df K mg "lefts_by_bits" (topS 38) ["order"]
  d40 : Df K mg "start_in" (topS 40) ["order", "left"]
  d42 : Df K mg "behind_play" (topS 42) ["order", "play"]
  d43 : Df K mg "counts_in" (topS 43) ["order"]
  d44 : Df K mg "put_longer" (topS 44) ["sums", "lengths"]
  d45 : Df K mg "lengths_in" (topS 45) ["order", "start"]
  d46 : Df K mg "how_many_plays" (topS 46) ["order", "left"]
  d47 : Df K mg "plays_by_length" (topS 47) ["order", "left"]
  d48 : Df K mg "plays_won" (topS 48) ["order", "left"]
  d49 : Df K mg "play_drawn" (topS 49) ["order", "number"]
  d50 : Df K mg "play_number" (topS 50) ["order", "play"]
  d52 : Df K mg "_law_box" (topS 52) ["_law_script", "_law_k"]
  d53 : Df K mg "_law_take" (topS 53) ["_law_tin", "_law_below_so"]
  d54 : Df K mg "_law_cells" (topS 54) ["_law_script", "_law_most_so"]
  d55 : Df K mg "_law_of" (topS 55) ["_law_tin", "_law_goods_so"]
  d56 : Df K mg "_law_pick" (topS 56) ["_law_tin", "_law_goods_so", "_law_count_so"]
  d57 : Df K mg "_law_lists" (topS 57) ["_law_matter"]
  d58 : Df K mg "_law_same" (topS 58) ["_law_got", "_law_due"]
  d59 : Df K mg "_law_net" (topS 59) ["_law_many_so", "_law_pairs_so"]
  d60 : Df K mg "_law_ups" (topS 60) ["_law_net_here"]
  d61 : Df K mg "_law_bits" (topS 61) ["_law_pieces_so"]
  d62 : Df K mg "_law_pieces" (topS 62) ["_law_bits_so"]
  d63 : Df K mg "_law_lefts" (topS 63) ["_law_net_here"]
  d64 : Df K mg "_law_chain" (topS 64) ["_law_many_so"]
  d65 : Df K mg "_law_aside" (topS 65) ["_law_near", "_law_far"]
  d66 : Df K mg "_law_heap" (topS 66) ["_law_near", "_law_far"]
  d68 : Df K mg "_law_loose_net" (topS 68) ["_law_tin", "_law_many_so"]
  d67 : Df K mg "_law_order" (topS 67) ["_law_tin", "_law_most_so"]
  d69 : Df K mg "_law_whole" (topS 69) ["_law_net_here", "_law_start_so"]
  d70 : Df K mg "_law_some_start" (topS 70) ["_law_tin", "_law_net_here"]
  d71 : Df K mg "_law_en" (topS 71) []
  d72 : Df K mg "_law_vee" (topS 72) []
  d75 : Df K mg "_law_counts" (topS 75) ["_law_net_here"]
  d76 : Df K mg "_law_number_so" (topS 76) ["_law_net_here", "_law_counts_so", "_law_trip_so"]
  d73 : Df K mg "_law_heard" (topS 73) ["_law_door_so", "_law_net_here", "_law_matter"]
  d74 : Df K mg "_law_by_hand_right" (topS 74) []
  d77 : Df K mg "_law_right" (topS 77) ["_law_tin"]
  d78 : Df K mg "_law_great_right" (topS 78) ["_law_tin"]
section
variable {P : Program} {w : World} {K : PySem.W.Frag} {mg : Str → Option Value} {base : Heap} {C C0 fI : Addr}
theorem all_top (T : Bn mg) (D : Dfs K mg) (hF : ∃ u, mg "FEW" = some u ∧ RelV (.int 2000) u) (Tb : PySem.BrkX.BrkTxt P K mg C fI) (Tc : CanTxt K mg C0) (Th : HdTxt K mg C C0) : Top P w K mg base := by
  have c6 := ok_is_number (P := P) (w := w) (base := base) T D.d6
  have c7 := ok_is_from (P := P) (w := w) (base := base)  D.d7 c6
  have c8 := ok_is_within (P := P) (w := w) (base := base)  D.d8 c6
  have c9 := ok_is_long (P := P) (w := w) (base := base) T D.d9
  have c10 := ok_tupled (P := P) (w := w) (base := base) T D.d10
  have c11 := ok_ascends (P := P) (w := w) (base := base) T D.d11
  have c12 := ok_are_numbers (P := P) (w := w) (base := base) T D.d12 c6
  have c14 := ok_is_pair_of (P := P) (w := w) (base := base)  D.d14 c9 c12
  have c15 := ok_directs_by (P := P) (w := w) (base := base) T D.d15
  have c16 := ok_ups_by (P := P) (w := w) (base := base) T D.d16
  have c17 := ok_follows_by (P := P) (w := w) (base := base) T D.d17
  have c18 := ok_ties_by (P := P) (w := w) (base := base) T D.d18 c16 c17
  have c19 := ok_ties_of (P := P) (w := w) (base := base) T D.d19 c15 c18
  have c20 := ok_follow_none (P := P) (w := w) (base := base)  D.d20 c19
  have c21 := ok_is_order (P := P) (w := w) (base := base) T D.d21 c9 c7 c14 c11 c20
  have c22 := ok_sure_order (P := P) (w := w) (base := base)  D.d22 (c10 3) c21
  have c24 := ok_are_pieces_in (P := P) (w := w) (base := base) T D.d24 c8
  have c25 := ok_is_left_in (P := P) (w := w) (base := base) T D.d25 c24 c11
  have c26 := ok_sure_left (P := P) (w := w) (base := base)  D.d26 (c10 1) c25
  have c27 := ok_whole (P := P) (w := w) (base := base) T D.d27
  have c28 := ok_gone_by (P := P) (w := w) (base := base) T D.d28
  have c29 := ok_flaw_in (P := P) (w := w) (base := base) T D.d29 c28
  have c30 := ok_behind_in (P := P) (w := w) (base := base) T D.d30 c28 c27
  have c31 := ok_is_play_in (P := P) (w := w) (base := base)  D.d31 c24 c29
  have c32 := ok_sure_play (P := P) (w := w) (base := base)  D.d32 (c10 1) c31
  have c35 := ok_bits_for (P := P) (w := w) (base := base) T D.d35
  have c36 := ok_pieces_for (P := P) (w := w) (base := base) T D.d36
  have c37 := ok_tops (P := P) (w := w) (base := base) T D.d37
  have c38 := ok_lefts (P := P) (w := w) (base := base) T hF D.d38 c35
  have c40 := ok_start_in (P := P) (w := w) (base := base)  D.d40 c22 c26 c38 c35
  have c42 := ok_behind_play (P := P) (w := w) (base := base)  D.d42 c22 c32 c38 c35 c30
  have c43 := ok_counts (P := P) (w := w) (base := base) T D.d43 c37 c38 c36
  have c44 := ok_put_longer (P := P) (w := w) (base := base)  D.d44
  have c45 := ok_lengths (P := P) (w := w) (base := base) T D.d45 c37 c38 c36 c44
  have c46 := ok_how_many (P := P) (w := w) (base := base)  D.d46 c40 c43
  have c47 := ok_by_length (P := P) (w := w) (base := base) T D.d47 c40 c45
  have c48 := ok_won (P := P) (w := w) (base := base) T D.d48 c40 c45
  have c49 := ok_drawn (P := P) (w := w) (base := base)  D.d49 c22 c6 c43 c37 c8 c36
  have c50 := ok_number (P := P) (w := w) (base := base) T D.d50 c42 c43 c37 c36
  have c52 := ok_box (P := P) (w := w) (base := base) T D.d52
  have c53 := ok_take (P := P) (w := w) (base := base) T D.d53
  have c54 := ok_cells (P := P) (w := w) (base := base) T D.d54
  have c55 := ok_of (P := P) (w := w) (base := base) T D.d55 c53
  have c56 := ok_pick (P := P) (w := w) (base := base) T D.d56 c53
  have c57 := ok_lists (P := P) (w := w) (base := base) T D.d57
  have c58 := ok_same (P := P) (w := w) (base := base) T D.d58
  have c59 := ok_net (P := P) (w := w) (base := base) T D.d59
  have c60 := ok_lups (P := P) (w := w) (base := base) T D.d60
  have c61 := ok_lbits (P := P) (w := w) (base := base) T D.d61
  have c62 := ok_lpieces (P := P) (w := w) (base := base) T D.d62
  have c63 := ok_llefts (P := P) (w := w) (base := base) T D.d63 c61
  have c64 := ok_chain (P := P) (w := w) (base := base) T D.d64
  have c65 := ok_aside (P := P) (w := w) (base := base) T D.d65
  have c66 := ok_heap (P := P) (w := w) (base := base) T D.d66 c65 c59
  have c68 := ok_loose (P := P) (w := w) (base := base) T D.d68 c53 c59
  have c67 := ok_order (P := P) (w := w) (base := base) T D.d67 c53 c59 c68 c65 c66
  have c69 := ok_lwhole (P := P) (w := w) (base := base) T D.d69 c60 c62
  have c70 := ok_start (P := P) (w := w) (base := base) T D.d70 c63 c53 c55
  have c71 := ok_en (P := P) (w := w) (base := base)  D.d71
  have c72 := ok_vee (P := P) (w := w) (base := base)  D.d72
  have c75 := ok_lcounts (P := P) (w := w) (base := base) T D.d75 c60 c63 c62
  have c76 := ok_lnum (P := P) (w := w) (base := base) T D.d76 c60 c62
  have cDX := ok_drawnX (P := P) (w := w) (base := base) Tb D.d49 c22 c6 c43 c37 c8
  have cNX := ok_numberX (P := P) (w := w) (base := base) Tc D.d50 c42
  have c73 := ok_heard T Th D.d73 c49 cDX c50 cNX
  have cl : Cls P w K mg base := ⟨c53, c55, c56, c67, c70, c57 3, c62, c69 6, c46, c47, c48, c73, c58 3, c60, c75, c76, c64, c71, c72⟩
  exact ⟨c54, c52, c53, ok_hand T D.d74 cl, ok_great T D.d78 cl, ok_right T D.d77 cl⟩
end
end G
-- Ed2
set_option maxHeartbeats 4000000
/-! Ed2: the facts that the end asks (printed by gen_end2.py). -/
namespace G
open PySem PySem.Spec PyProof.Rows L2
section
variable {K : PySem.W.Frag} {h : Heap} {mg : Str → Option Value} {f : Addr} {od an : Option Addr} {sl : Array (Option Value)} {oc kV dc pm cd ct : Value}
theorem df_of {x : Str} {st : Stmt} {ps : List Str} (X : K.In h) (G0 : h.Ns mainGlobals mg) (a : PySem.W.nsIn K mainGlobals x = some (some (.ref f))) (l : K.lookup f = some ⟨oc, od, .func (PySem.W.fnOf x x (defArgs st) (defBody st) (defScope st) .none kV dc pm an cd ct), sl⟩) (c : PySem.W.codeIn K cd x = true) (k : PySem.W.keepIn K (.ref f) = true)
    (b : ∀ (kV doc pm : Value) (an : Option Addr) (cdv ct : Value) (us : List Value), us.length = ps.length → bindArgs (PySem.W.fnOf x x (defArgs st) (defBody st) (defScope st) .none kV doc pm an cdv ct) ⟨us, []⟩ = pure (ps.zip us)) : Df K mg x st ps :=
  ⟨f, _, fun_mk l c k, PySem.W.mg_of X G0 a, (fun_mk l c k).binds b⟩
theorem mk6 (X : K.In h) (G0 : h.Ns mainGlobals mg) (a : PySem.W.nsIn K mainGlobals "is_number" = some (some (.ref f))) (l : K.lookup f = some ⟨oc, od, .func (PySem.W.fnOf "is_number" "is_number" (defArgs (topS 6)) (defBody (topS 6)) (defScope (topS 6)) .none kV dc pm an cd ct), sl⟩) (c : PySem.W.codeIn K cd "is_number" = true) (k : PySem.W.keepIn K (.ref f) = true) : Df K mg "is_number" (topS 6) ["thing"] :=
  df_of X G0 a l c k (fun _ _ _ _ _ _ us hl => match us, hl with | [_], _ => rfl)
theorem mk7 (X : K.In h) (G0 : h.Ns mainGlobals mg) (a : PySem.W.nsIn K mainGlobals "is_from" = some (some (.ref f))) (l : K.lookup f = some ⟨oc, od, .func (PySem.W.fnOf "is_from" "is_from" (defArgs (topS 7)) (defBody (topS 7)) (defScope (topS 7)) .none kV dc pm an cd ct), sl⟩) (c : PySem.W.codeIn K cd "is_from" = true) (k : PySem.W.keepIn K (.ref f) = true) : Df K mg "is_from" (topS 7) ["thing", "least"] :=
  df_of X G0 a l c k (fun _ _ _ _ _ _ us hl => match us, hl with | [_, _], _ => rfl)
theorem mk8 (X : K.In h) (G0 : h.Ns mainGlobals mg) (a : PySem.W.nsIn K mainGlobals "is_within" = some (some (.ref f))) (l : K.lookup f = some ⟨oc, od, .func (PySem.W.fnOf "is_within" "is_within" (defArgs (topS 8)) (defBody (topS 8)) (defScope (topS 8)) .none kV dc pm an cd ct), sl⟩) (c : PySem.W.codeIn K cd "is_within" = true) (k : PySem.W.keepIn K (.ref f) = true) : Df K mg "is_within" (topS 8) ["thing", "least", "most"] :=
  df_of X G0 a l c k (fun _ _ _ _ _ _ us hl => match us, hl with | [_, _, _], _ => rfl)
theorem mk9 (X : K.In h) (G0 : h.Ns mainGlobals mg) (a : PySem.W.nsIn K mainGlobals "is_long" = some (some (.ref f))) (l : K.lookup f = some ⟨oc, od, .func (PySem.W.fnOf "is_long" "is_long" (defArgs (topS 9)) (defBody (topS 9)) (defScope (topS 9)) .none kV dc pm an cd ct), sl⟩) (c : PySem.W.codeIn K cd "is_long" = true) (k : PySem.W.keepIn K (.ref f) = true) : Df K mg "is_long" (topS 9) ["thing", "length"] :=
  df_of X G0 a l c k (fun _ _ _ _ _ _ us hl => match us, hl with | [_, _], _ => rfl)
theorem mk10 (X : K.In h) (G0 : h.Ns mainGlobals mg) (a : PySem.W.nsIn K mainGlobals "tupled" = some (some (.ref f))) (l : K.lookup f = some ⟨oc, od, .func (PySem.W.fnOf "tupled" "tupled" (defArgs (topS 10)) (defBody (topS 10)) (defScope (topS 10)) .none kV dc pm an cd ct), sl⟩) (c : PySem.W.codeIn K cd "tupled" = true) (k : PySem.W.keepIn K (.ref f) = true) : Df K mg "tupled" (topS 10) ["value"] :=
  df_of X G0 a l c k (fun _ _ _ _ _ _ us hl => match us, hl with | [_], _ => rfl)
theorem mk11 (X : K.In h) (G0 : h.Ns mainGlobals mg) (a : PySem.W.nsIn K mainGlobals "ascends" = some (some (.ref f))) (l : K.lookup f = some ⟨oc, od, .func (PySem.W.fnOf "ascends" "ascends" (defArgs (topS 11)) (defBody (topS 11)) (defScope (topS 11)) .none kV dc pm an cd ct), sl⟩) (c : PySem.W.codeIn K cd "ascends" = true) (k : PySem.W.keepIn K (.ref f) = true) : Df K mg "ascends" (topS 11) ["row"] :=
  df_of X G0 a l c k (fun _ _ _ _ _ _ us hl => match us, hl with | [_], _ => rfl)
theorem mk12 (X : K.In h) (G0 : h.Ns mainGlobals mg) (a : PySem.W.nsIn K mainGlobals "are_numbers" = some (some (.ref f))) (l : K.lookup f = some ⟨oc, od, .func (PySem.W.fnOf "are_numbers" "are_numbers" (defArgs (topS 12)) (defBody (topS 12)) (defScope (topS 12)) .none kV dc pm an cd ct), sl⟩) (c : PySem.W.codeIn K cd "are_numbers" = true) (k : PySem.W.keepIn K (.ref f) = true) : Df K mg "are_numbers" (topS 12) ["thing"] :=
  df_of X G0 a l c k (fun _ _ _ _ _ _ us hl => match us, hl with | [_], _ => rfl)
theorem mk14 (X : K.In h) (G0 : h.Ns mainGlobals mg) (a : PySem.W.nsIn K mainGlobals "is_pair_of" = some (some (.ref f))) (l : K.lookup f = some ⟨oc, od, .func (PySem.W.fnOf "is_pair_of" "is_pair_of" (defArgs (topS 14)) (defBody (topS 14)) (defScope (topS 14)) .none kV dc pm an cd ct), sl⟩) (c : PySem.W.codeIn K cd "is_pair_of" = true) (k : PySem.W.keepIn K (.ref f) = true) : Df K mg "is_pair_of" (topS 14) ["many", "thing"] :=
  df_of X G0 a l c k (fun _ _ _ _ _ _ us hl => match us, hl with | [_, _], _ => rfl)
theorem mk15 (X : K.In h) (G0 : h.Ns mainGlobals mg) (a : PySem.W.nsIn K mainGlobals "directs_by" = some (some (.ref f))) (l : K.lookup f = some ⟨oc, od, .func (PySem.W.fnOf "directs_by" "directs_by" (defArgs (topS 15)) (defBody (topS 15)) (defScope (topS 15)) .none kV dc pm an cd ct), sl⟩) (c : PySem.W.codeIn K cd "directs_by" = true) (k : PySem.W.keepIn K (.ref f) = true) : Df K mg "directs_by" (topS 15) ["many", "pairs"] :=
  df_of X G0 a l c k (fun _ _ _ _ _ _ us hl => match us, hl with | [_, _], _ => rfl)
theorem mk16 (X : K.In h) (G0 : h.Ns mainGlobals mg) (a : PySem.W.nsIn K mainGlobals "ups_by" = some (some (.ref f))) (l : K.lookup f = some ⟨oc, od, .func (PySem.W.fnOf "ups_by" "ups_by" (defArgs (topS 16)) (defBody (topS 16)) (defScope (topS 16)) .none kV dc pm an cd ct), sl⟩) (c : PySem.W.codeIn K cd "ups_by" = true) (k : PySem.W.keepIn K (.ref f) = true) : Df K mg "ups_by" (topS 16) ["directs"] :=
  df_of X G0 a l c k (fun _ _ _ _ _ _ us hl => match us, hl with | [_], _ => rfl)
theorem mk17 (X : K.In h) (G0 : h.Ns mainGlobals mg) (a : PySem.W.nsIn K mainGlobals "follows_by" = some (some (.ref f))) (l : K.lookup f = some ⟨oc, od, .func (PySem.W.fnOf "follows_by" "follows_by" (defArgs (topS 17)) (defBody (topS 17)) (defScope (topS 17)) .none kV dc pm an cd ct), sl⟩) (c : PySem.W.codeIn K cd "follows_by" = true) (k : PySem.W.keepIn K (.ref f) = true) : Df K mg "follows_by" (topS 17) ["directs", "ups", "low", "high"] :=
  df_of X G0 a l c k (fun _ _ _ _ _ _ us hl => match us, hl with | [_, _, _, _], _ => rfl)
theorem mk18 (X : K.In h) (G0 : h.Ns mainGlobals mg) (a : PySem.W.nsIn K mainGlobals "ties_by" = some (some (.ref f))) (l : K.lookup f = some ⟨oc, od, .func (PySem.W.fnOf "ties_by" "ties_by" (defArgs (topS 18)) (defBody (topS 18)) (defScope (topS 18)) .none kV dc pm an cd ct), sl⟩) (c : PySem.W.codeIn K cd "ties_by" = true) (k : PySem.W.keepIn K (.ref f) = true) : Df K mg "ties_by" (topS 18) ["directs"] :=
  df_of X G0 a l c k (fun _ _ _ _ _ _ us hl => match us, hl with | [_], _ => rfl)
theorem mk19 (X : K.In h) (G0 : h.Ns mainGlobals mg) (a : PySem.W.nsIn K mainGlobals "ties_of" = some (some (.ref f))) (l : K.lookup f = some ⟨oc, od, .func (PySem.W.fnOf "ties_of" "ties_of" (defArgs (topS 19)) (defBody (topS 19)) (defScope (topS 19)) .none kV dc pm an cd ct), sl⟩) (c : PySem.W.codeIn K cd "ties_of" = true) (k : PySem.W.keepIn K (.ref f) = true) : Df K mg "ties_of" (topS 19) ["pairs"] :=
  df_of X G0 a l c k (fun _ _ _ _ _ _ us hl => match us, hl with | [_], _ => rfl)
theorem mk20 (X : K.In h) (G0 : h.Ns mainGlobals mg) (a : PySem.W.nsIn K mainGlobals "follow_none" = some (some (.ref f))) (l : K.lookup f = some ⟨oc, od, .func (PySem.W.fnOf "follow_none" "follow_none" (defArgs (topS 20)) (defBody (topS 20)) (defScope (topS 20)) .none kV dc pm an cd ct), sl⟩) (c : PySem.W.codeIn K cd "follow_none" = true) (k : PySem.W.keepIn K (.ref f) = true) : Df K mg "follow_none" (topS 20) ["ties"] :=
  df_of X G0 a l c k (fun _ _ _ _ _ _ us hl => match us, hl with | [_], _ => rfl)
theorem mk21 (X : K.In h) (G0 : h.Ns mainGlobals mg) (a : PySem.W.nsIn K mainGlobals "is_order" = some (some (.ref f))) (l : K.lookup f = some ⟨oc, od, .func (PySem.W.fnOf "is_order" "is_order" (defArgs (topS 21)) (defBody (topS 21)) (defScope (topS 21)) .none kV dc pm an cd ct), sl⟩) (c : PySem.W.codeIn K cd "is_order" = true) (k : PySem.W.keepIn K (.ref f) = true) : Df K mg "is_order" (topS 21) ["thing"] :=
  df_of X G0 a l c k (fun _ _ _ _ _ _ us hl => match us, hl with | [_], _ => rfl)
theorem mk22 (X : K.In h) (G0 : h.Ns mainGlobals mg) (a : PySem.W.nsIn K mainGlobals "sure_order" = some (some (.ref f))) (l : K.lookup f = some ⟨oc, od, .func (PySem.W.fnOf "sure_order" "sure_order" (defArgs (topS 22)) (defBody (topS 22)) (defScope (topS 22)) .none kV dc pm an cd ct), sl⟩) (c : PySem.W.codeIn K cd "sure_order" = true) (k : PySem.W.keepIn K (.ref f) = true) : Df K mg "sure_order" (topS 22) ["order"] :=
  df_of X G0 a l c k (fun _ _ _ _ _ _ us hl => match us, hl with | [_], _ => rfl)
theorem mk24 (X : K.In h) (G0 : h.Ns mainGlobals mg) (a : PySem.W.nsIn K mainGlobals "are_pieces_in" = some (some (.ref f))) (l : K.lookup f = some ⟨oc, od, .func (PySem.W.fnOf "are_pieces_in" "are_pieces_in" (defArgs (topS 24)) (defBody (topS 24)) (defScope (topS 24)) .none kV dc pm an cd ct), sl⟩) (c : PySem.W.codeIn K cd "are_pieces_in" = true) (k : PySem.W.keepIn K (.ref f) = true) : Df K mg "are_pieces_in" (topS 24) ["order", "thing"] :=
  df_of X G0 a l c k (fun _ _ _ _ _ _ us hl => match us, hl with | [_, _], _ => rfl)
theorem mk25 (X : K.In h) (G0 : h.Ns mainGlobals mg) (a : PySem.W.nsIn K mainGlobals "is_left_in" = some (some (.ref f))) (l : K.lookup f = some ⟨oc, od, .func (PySem.W.fnOf "is_left_in" "is_left_in" (defArgs (topS 25)) (defBody (topS 25)) (defScope (topS 25)) .none kV dc pm an cd ct), sl⟩) (c : PySem.W.codeIn K cd "is_left_in" = true) (k : PySem.W.keepIn K (.ref f) = true) : Df K mg "is_left_in" (topS 25) ["order", "thing"] :=
  df_of X G0 a l c k (fun _ _ _ _ _ _ us hl => match us, hl with | [_, _], _ => rfl)
theorem mk26 (X : K.In h) (G0 : h.Ns mainGlobals mg) (a : PySem.W.nsIn K mainGlobals "sure_left" = some (some (.ref f))) (l : K.lookup f = some ⟨oc, od, .func (PySem.W.fnOf "sure_left" "sure_left" (defArgs (topS 26)) (defBody (topS 26)) (defScope (topS 26)) .none kV dc pm an cd ct), sl⟩) (c : PySem.W.codeIn K cd "sure_left" = true) (k : PySem.W.keepIn K (.ref f) = true) : Df K mg "sure_left" (topS 26) ["order", "left"] :=
  df_of X G0 a l c k (fun _ _ _ _ _ _ us hl => match us, hl with | [_, _], _ => rfl)
theorem mk27 (X : K.In h) (G0 : h.Ns mainGlobals mg) (a : PySem.W.nsIn K mainGlobals "whole" = some (some (.ref f))) (l : K.lookup f = some ⟨oc, od, .func (PySem.W.fnOf "whole" "whole" (defArgs (topS 27)) (defBody (topS 27)) (defScope (topS 27)) .none kV dc pm an cd ct), sl⟩) (c : PySem.W.codeIn K cd "whole" = true) (k : PySem.W.keepIn K (.ref f) = true) : Df K mg "whole" (topS 27) ["order"] :=
  df_of X G0 a l c k (fun _ _ _ _ _ _ us hl => match us, hl with | [_], _ => rfl)
theorem mk28 (X : K.In h) (G0 : h.Ns mainGlobals mg) (a : PySem.W.nsIn K mainGlobals "gone_by" = some (some (.ref f))) (l : K.lookup f = some ⟨oc, od, .func (PySem.W.fnOf "gone_by" "gone_by" (defArgs (topS 28)) (defBody (topS 28)) (defScope (topS 28)) .none kV dc pm an cd ct), sl⟩) (c : PySem.W.codeIn K cd "gone_by" = true) (k : PySem.W.keepIn K (.ref f) = true) : Df K mg "gone_by" (topS 28) ["order", "pieces"] :=
  df_of X G0 a l c k (fun _ _ _ _ _ _ us hl => match us, hl with | [_, _], _ => rfl)
theorem mk29 (X : K.In h) (G0 : h.Ns mainGlobals mg) (a : PySem.W.nsIn K mainGlobals "flaw_in" = some (some (.ref f))) (l : K.lookup f = some ⟨oc, od, .func (PySem.W.fnOf "flaw_in" "flaw_in" (defArgs (topS 29)) (defBody (topS 29)) (defScope (topS 29)) .none kV dc pm an cd ct), sl⟩) (c : PySem.W.codeIn K cd "flaw_in" = true) (k : PySem.W.keepIn K (.ref f) = true) : Df K mg "flaw_in" (topS 29) ["order", "pieces"] :=
  df_of X G0 a l c k (fun _ _ _ _ _ _ us hl => match us, hl with | [_, _], _ => rfl)
theorem mk30 (X : K.In h) (G0 : h.Ns mainGlobals mg) (a : PySem.W.nsIn K mainGlobals "behind_in" = some (some (.ref f))) (l : K.lookup f = some ⟨oc, od, .func (PySem.W.fnOf "behind_in" "behind_in" (defArgs (topS 30)) (defBody (topS 30)) (defScope (topS 30)) .none kV dc pm an cd ct), sl⟩) (c : PySem.W.codeIn K cd "behind_in" = true) (k : PySem.W.keepIn K (.ref f) = true) : Df K mg "behind_in" (topS 30) ["order", "play"] :=
  df_of X G0 a l c k (fun _ _ _ _ _ _ us hl => match us, hl with | [_, _], _ => rfl)
theorem mk31 (X : K.In h) (G0 : h.Ns mainGlobals mg) (a : PySem.W.nsIn K mainGlobals "is_play_in" = some (some (.ref f))) (l : K.lookup f = some ⟨oc, od, .func (PySem.W.fnOf "is_play_in" "is_play_in" (defArgs (topS 31)) (defBody (topS 31)) (defScope (topS 31)) .none kV dc pm an cd ct), sl⟩) (c : PySem.W.codeIn K cd "is_play_in" = true) (k : PySem.W.keepIn K (.ref f) = true) : Df K mg "is_play_in" (topS 31) ["order", "thing"] :=
  df_of X G0 a l c k (fun _ _ _ _ _ _ us hl => match us, hl with | [_, _], _ => rfl)
theorem mk32 (X : K.In h) (G0 : h.Ns mainGlobals mg) (a : PySem.W.nsIn K mainGlobals "sure_play" = some (some (.ref f))) (l : K.lookup f = some ⟨oc, od, .func (PySem.W.fnOf "sure_play" "sure_play" (defArgs (topS 32)) (defBody (topS 32)) (defScope (topS 32)) .none kV dc pm an cd ct), sl⟩) (c : PySem.W.codeIn K cd "sure_play" = true) (k : PySem.W.keepIn K (.ref f) = true) : Df K mg "sure_play" (topS 32) ["order", "play"] :=
  df_of X G0 a l c k (fun _ _ _ _ _ _ us hl => match us, hl with | [_, _], _ => rfl)
theorem mk35 (X : K.In h) (G0 : h.Ns mainGlobals mg) (a : PySem.W.nsIn K mainGlobals "bits_for" = some (some (.ref f))) (l : K.lookup f = some ⟨oc, od, .func (PySem.W.fnOf "bits_for" "bits_for" (defArgs (topS 35)) (defBody (topS 35)) (defScope (topS 35)) .none kV dc pm an cd ct), sl⟩) (c : PySem.W.codeIn K cd "bits_for" = true) (k : PySem.W.keepIn K (.ref f) = true) : Df K mg "bits_for" (topS 35) ["pieces"] :=
  df_of X G0 a l c k (fun _ _ _ _ _ _ us hl => match us, hl with | [_], _ => rfl)
theorem mk36 (X : K.In h) (G0 : h.Ns mainGlobals mg) (a : PySem.W.nsIn K mainGlobals "pieces_for" = some (some (.ref f))) (l : K.lookup f = some ⟨oc, od, .func (PySem.W.fnOf "pieces_for" "pieces_for" (defArgs (topS 36)) (defBody (topS 36)) (defScope (topS 36)) .none kV dc pm an cd ct), sl⟩) (c : PySem.W.codeIn K cd "pieces_for" = true) (k : PySem.W.keepIn K (.ref f) = true) : Df K mg "pieces_for" (topS 36) ["bits"] :=
  df_of X G0 a l c k (fun _ _ _ _ _ _ us hl => match us, hl with | [_], _ => rfl)
theorem mk37 (X : K.In h) (G0 : h.Ns mainGlobals mg) (a : PySem.W.nsIn K mainGlobals "tops_by_bits" = some (some (.ref f))) (l : K.lookup f = some ⟨oc, od, .func (PySem.W.fnOf "tops_by_bits" "tops_by_bits" (defArgs (topS 37)) (defBody (topS 37)) (defScope (topS 37)) .none kV dc pm an cd ct), sl⟩) (c : PySem.W.codeIn K cd "tops_by_bits" = true) (k : PySem.W.keepIn K (.ref f) = true) : Df K mg "tops_by_bits" (topS 37) ["order"] :=
  df_of X G0 a l c k (fun _ _ _ _ _ _ us hl => match us, hl with | [_], _ => rfl)
theorem mk38 (X : K.In h) (G0 : h.Ns mainGlobals mg) (a : PySem.W.nsIn K mainGlobals "lefts_by_bits" = some (some (.ref f))) (l : K.lookup f = some ⟨oc, od, .func (PySem.W.fnOf "lefts_by_bits" "lefts_by_bits" (defArgs (topS 38)) (defBody (topS 38)) (defScope (topS 38)) .none kV dc pm an cd ct), sl⟩) (c : PySem.W.codeIn K cd "lefts_by_bits" = true) (k : PySem.W.keepIn K (.ref f) = true) : Df K mg "lefts_by_bits" (topS 38) ["order"] :=
  df_of X G0 a l c k (fun _ _ _ _ _ _ us hl => match us, hl with | [_], _ => rfl)
theorem mk40 (X : K.In h) (G0 : h.Ns mainGlobals mg) (a : PySem.W.nsIn K mainGlobals "start_in" = some (some (.ref f))) (l : K.lookup f = some ⟨oc, od, .func (PySem.W.fnOf "start_in" "start_in" (defArgs (topS 40)) (defBody (topS 40)) (defScope (topS 40)) .none kV dc pm an cd ct), sl⟩) (c : PySem.W.codeIn K cd "start_in" = true) (k : PySem.W.keepIn K (.ref f) = true) : Df K mg "start_in" (topS 40) ["order", "left"] :=
  df_of X G0 a l c k (fun _ _ _ _ _ _ us hl => match us, hl with | [_, _], _ => rfl)
theorem mk42 (X : K.In h) (G0 : h.Ns mainGlobals mg) (a : PySem.W.nsIn K mainGlobals "behind_play" = some (some (.ref f))) (l : K.lookup f = some ⟨oc, od, .func (PySem.W.fnOf "behind_play" "behind_play" (defArgs (topS 42)) (defBody (topS 42)) (defScope (topS 42)) .none kV dc pm an cd ct), sl⟩) (c : PySem.W.codeIn K cd "behind_play" = true) (k : PySem.W.keepIn K (.ref f) = true) : Df K mg "behind_play" (topS 42) ["order", "play"] :=
  df_of X G0 a l c k (fun _ _ _ _ _ _ us hl => match us, hl with | [_, _], _ => rfl)
theorem mk43 (X : K.In h) (G0 : h.Ns mainGlobals mg) (a : PySem.W.nsIn K mainGlobals "counts_in" = some (some (.ref f))) (l : K.lookup f = some ⟨oc, od, .func (PySem.W.fnOf "counts_in" "counts_in" (defArgs (topS 43)) (defBody (topS 43)) (defScope (topS 43)) .none kV dc pm an cd ct), sl⟩) (c : PySem.W.codeIn K cd "counts_in" = true) (k : PySem.W.keepIn K (.ref f) = true) : Df K mg "counts_in" (topS 43) ["order"] :=
  df_of X G0 a l c k (fun _ _ _ _ _ _ us hl => match us, hl with | [_], _ => rfl)
theorem mk44 (X : K.In h) (G0 : h.Ns mainGlobals mg) (a : PySem.W.nsIn K mainGlobals "put_longer" = some (some (.ref f))) (l : K.lookup f = some ⟨oc, od, .func (PySem.W.fnOf "put_longer" "put_longer" (defArgs (topS 44)) (defBody (topS 44)) (defScope (topS 44)) .none kV dc pm an cd ct), sl⟩) (c : PySem.W.codeIn K cd "put_longer" = true) (k : PySem.W.keepIn K (.ref f) = true) : Df K mg "put_longer" (topS 44) ["sums", "lengths"] :=
  df_of X G0 a l c k (fun _ _ _ _ _ _ us hl => match us, hl with | [_, _], _ => rfl)
theorem mk45 (X : K.In h) (G0 : h.Ns mainGlobals mg) (a : PySem.W.nsIn K mainGlobals "lengths_in" = some (some (.ref f))) (l : K.lookup f = some ⟨oc, od, .func (PySem.W.fnOf "lengths_in" "lengths_in" (defArgs (topS 45)) (defBody (topS 45)) (defScope (topS 45)) .none kV dc pm an cd ct), sl⟩) (c : PySem.W.codeIn K cd "lengths_in" = true) (k : PySem.W.keepIn K (.ref f) = true) : Df K mg "lengths_in" (topS 45) ["order", "start"] :=
  df_of X G0 a l c k (fun _ _ _ _ _ _ us hl => match us, hl with | [_, _], _ => rfl)
theorem mk46 (X : K.In h) (G0 : h.Ns mainGlobals mg) (a : PySem.W.nsIn K mainGlobals "how_many_plays" = some (some (.ref f))) (l : K.lookup f = some ⟨oc, od, .func (PySem.W.fnOf "how_many_plays" "how_many_plays" (defArgs (topS 46)) (defBody (topS 46)) (defScope (topS 46)) .none kV dc pm an cd ct), sl⟩) (c : PySem.W.codeIn K cd "how_many_plays" = true) (k : PySem.W.keepIn K (.ref f) = true) : Df K mg "how_many_plays" (topS 46) ["order", "left"] :=
  df_of X G0 a l c k (fun _ _ _ _ _ _ us hl => match us, hl with | [_, _], _ => rfl)
theorem mk47 (X : K.In h) (G0 : h.Ns mainGlobals mg) (a : PySem.W.nsIn K mainGlobals "plays_by_length" = some (some (.ref f))) (l : K.lookup f = some ⟨oc, od, .func (PySem.W.fnOf "plays_by_length" "plays_by_length" (defArgs (topS 47)) (defBody (topS 47)) (defScope (topS 47)) .none kV dc pm an cd ct), sl⟩) (c : PySem.W.codeIn K cd "plays_by_length" = true) (k : PySem.W.keepIn K (.ref f) = true) : Df K mg "plays_by_length" (topS 47) ["order", "left"] :=
  df_of X G0 a l c k (fun _ _ _ _ _ _ us hl => match us, hl with | [_, _], _ => rfl)
theorem mk48 (X : K.In h) (G0 : h.Ns mainGlobals mg) (a : PySem.W.nsIn K mainGlobals "plays_won" = some (some (.ref f))) (l : K.lookup f = some ⟨oc, od, .func (PySem.W.fnOf "plays_won" "plays_won" (defArgs (topS 48)) (defBody (topS 48)) (defScope (topS 48)) .none kV dc pm an cd ct), sl⟩) (c : PySem.W.codeIn K cd "plays_won" = true) (k : PySem.W.keepIn K (.ref f) = true) : Df K mg "plays_won" (topS 48) ["order", "left"] :=
  df_of X G0 a l c k (fun _ _ _ _ _ _ us hl => match us, hl with | [_, _], _ => rfl)
theorem mk49 (X : K.In h) (G0 : h.Ns mainGlobals mg) (a : PySem.W.nsIn K mainGlobals "play_drawn" = some (some (.ref f))) (l : K.lookup f = some ⟨oc, od, .func (PySem.W.fnOf "play_drawn" "play_drawn" (defArgs (topS 49)) (defBody (topS 49)) (defScope (topS 49)) .none kV dc pm an cd ct), sl⟩) (c : PySem.W.codeIn K cd "play_drawn" = true) (k : PySem.W.keepIn K (.ref f) = true) : Df K mg "play_drawn" (topS 49) ["order", "number"] :=
  df_of X G0 a l c k (fun _ _ _ _ _ _ us hl => match us, hl with | [_, _], _ => rfl)
theorem mk50 (X : K.In h) (G0 : h.Ns mainGlobals mg) (a : PySem.W.nsIn K mainGlobals "play_number" = some (some (.ref f))) (l : K.lookup f = some ⟨oc, od, .func (PySem.W.fnOf "play_number" "play_number" (defArgs (topS 50)) (defBody (topS 50)) (defScope (topS 50)) .none kV dc pm an cd ct), sl⟩) (c : PySem.W.codeIn K cd "play_number" = true) (k : PySem.W.keepIn K (.ref f) = true) : Df K mg "play_number" (topS 50) ["order", "play"] :=
  df_of X G0 a l c k (fun _ _ _ _ _ _ us hl => match us, hl with | [_, _], _ => rfl)
theorem mk52 (X : K.In h) (G0 : h.Ns mainGlobals mg) (a : PySem.W.nsIn K mainGlobals "_law_box" = some (some (.ref f))) (l : K.lookup f = some ⟨oc, od, .func (PySem.W.fnOf "_law_box" "_law_box" (defArgs (topS 52)) (defBody (topS 52)) (defScope (topS 52)) .none kV dc pm an cd ct), sl⟩) (c : PySem.W.codeIn K cd "_law_box" = true) (k : PySem.W.keepIn K (.ref f) = true) : Df K mg "_law_box" (topS 52) ["_law_script", "_law_k"] :=
  df_of X G0 a l c k (fun _ _ _ _ _ _ us hl => match us, hl with | [_, _], _ => rfl)
theorem mk53 (X : K.In h) (G0 : h.Ns mainGlobals mg) (a : PySem.W.nsIn K mainGlobals "_law_take" = some (some (.ref f))) (l : K.lookup f = some ⟨oc, od, .func (PySem.W.fnOf "_law_take" "_law_take" (defArgs (topS 53)) (defBody (topS 53)) (defScope (topS 53)) .none kV dc pm an cd ct), sl⟩) (c : PySem.W.codeIn K cd "_law_take" = true) (k : PySem.W.keepIn K (.ref f) = true) : Df K mg "_law_take" (topS 53) ["_law_tin", "_law_below_so"] :=
  df_of X G0 a l c k (fun _ _ _ _ _ _ us hl => match us, hl with | [_, _], _ => rfl)
theorem mk54 (X : K.In h) (G0 : h.Ns mainGlobals mg) (a : PySem.W.nsIn K mainGlobals "_law_cells" = some (some (.ref f))) (l : K.lookup f = some ⟨oc, od, .func (PySem.W.fnOf "_law_cells" "_law_cells" (defArgs (topS 54)) (defBody (topS 54)) (defScope (topS 54)) .none kV dc pm an cd ct), sl⟩) (c : PySem.W.codeIn K cd "_law_cells" = true) (k : PySem.W.keepIn K (.ref f) = true) : Df K mg "_law_cells" (topS 54) ["_law_script", "_law_most_so"] :=
  df_of X G0 a l c k (fun _ _ _ _ _ _ us hl => match us, hl with | [_, _], _ => rfl)
theorem mk55 (X : K.In h) (G0 : h.Ns mainGlobals mg) (a : PySem.W.nsIn K mainGlobals "_law_of" = some (some (.ref f))) (l : K.lookup f = some ⟨oc, od, .func (PySem.W.fnOf "_law_of" "_law_of" (defArgs (topS 55)) (defBody (topS 55)) (defScope (topS 55)) .none kV dc pm an cd ct), sl⟩) (c : PySem.W.codeIn K cd "_law_of" = true) (k : PySem.W.keepIn K (.ref f) = true) : Df K mg "_law_of" (topS 55) ["_law_tin", "_law_goods_so"] :=
  df_of X G0 a l c k (fun _ _ _ _ _ _ us hl => match us, hl with | [_, _], _ => rfl)
theorem mk56 (X : K.In h) (G0 : h.Ns mainGlobals mg) (a : PySem.W.nsIn K mainGlobals "_law_pick" = some (some (.ref f))) (l : K.lookup f = some ⟨oc, od, .func (PySem.W.fnOf "_law_pick" "_law_pick" (defArgs (topS 56)) (defBody (topS 56)) (defScope (topS 56)) .none kV dc pm an cd ct), sl⟩) (c : PySem.W.codeIn K cd "_law_pick" = true) (k : PySem.W.keepIn K (.ref f) = true) : Df K mg "_law_pick" (topS 56) ["_law_tin", "_law_goods_so", "_law_count_so"] :=
  df_of X G0 a l c k (fun _ _ _ _ _ _ us hl => match us, hl with | [_, _, _], _ => rfl)
theorem mk57 (X : K.In h) (G0 : h.Ns mainGlobals mg) (a : PySem.W.nsIn K mainGlobals "_law_lists" = some (some (.ref f))) (l : K.lookup f = some ⟨oc, od, .func (PySem.W.fnOf "_law_lists" "_law_lists" (defArgs (topS 57)) (defBody (topS 57)) (defScope (topS 57)) .none kV dc pm an cd ct), sl⟩) (c : PySem.W.codeIn K cd "_law_lists" = true) (k : PySem.W.keepIn K (.ref f) = true) : Df K mg "_law_lists" (topS 57) ["_law_matter"] :=
  df_of X G0 a l c k (fun _ _ _ _ _ _ us hl => match us, hl with | [_], _ => rfl)
theorem mk58 (X : K.In h) (G0 : h.Ns mainGlobals mg) (a : PySem.W.nsIn K mainGlobals "_law_same" = some (some (.ref f))) (l : K.lookup f = some ⟨oc, od, .func (PySem.W.fnOf "_law_same" "_law_same" (defArgs (topS 58)) (defBody (topS 58)) (defScope (topS 58)) .none kV dc pm an cd ct), sl⟩) (c : PySem.W.codeIn K cd "_law_same" = true) (k : PySem.W.keepIn K (.ref f) = true) : Df K mg "_law_same" (topS 58) ["_law_got", "_law_due"] :=
  df_of X G0 a l c k (fun _ _ _ _ _ _ us hl => match us, hl with | [_, _], _ => rfl)
theorem mk59 (X : K.In h) (G0 : h.Ns mainGlobals mg) (a : PySem.W.nsIn K mainGlobals "_law_net" = some (some (.ref f))) (l : K.lookup f = some ⟨oc, od, .func (PySem.W.fnOf "_law_net" "_law_net" (defArgs (topS 59)) (defBody (topS 59)) (defScope (topS 59)) .none kV dc pm an cd ct), sl⟩) (c : PySem.W.codeIn K cd "_law_net" = true) (k : PySem.W.keepIn K (.ref f) = true) : Df K mg "_law_net" (topS 59) ["_law_many_so", "_law_pairs_so"] :=
  df_of X G0 a l c k (fun _ _ _ _ _ _ us hl => match us, hl with | [_, _], _ => rfl)
theorem mk60 (X : K.In h) (G0 : h.Ns mainGlobals mg) (a : PySem.W.nsIn K mainGlobals "_law_ups" = some (some (.ref f))) (l : K.lookup f = some ⟨oc, od, .func (PySem.W.fnOf "_law_ups" "_law_ups" (defArgs (topS 60)) (defBody (topS 60)) (defScope (topS 60)) .none kV dc pm an cd ct), sl⟩) (c : PySem.W.codeIn K cd "_law_ups" = true) (k : PySem.W.keepIn K (.ref f) = true) : Df K mg "_law_ups" (topS 60) ["_law_net_here"] :=
  df_of X G0 a l c k (fun _ _ _ _ _ _ us hl => match us, hl with | [_], _ => rfl)
theorem mk61 (X : K.In h) (G0 : h.Ns mainGlobals mg) (a : PySem.W.nsIn K mainGlobals "_law_bits" = some (some (.ref f))) (l : K.lookup f = some ⟨oc, od, .func (PySem.W.fnOf "_law_bits" "_law_bits" (defArgs (topS 61)) (defBody (topS 61)) (defScope (topS 61)) .none kV dc pm an cd ct), sl⟩) (c : PySem.W.codeIn K cd "_law_bits" = true) (k : PySem.W.keepIn K (.ref f) = true) : Df K mg "_law_bits" (topS 61) ["_law_pieces_so"] :=
  df_of X G0 a l c k (fun _ _ _ _ _ _ us hl => match us, hl with | [_], _ => rfl)
theorem mk62 (X : K.In h) (G0 : h.Ns mainGlobals mg) (a : PySem.W.nsIn K mainGlobals "_law_pieces" = some (some (.ref f))) (l : K.lookup f = some ⟨oc, od, .func (PySem.W.fnOf "_law_pieces" "_law_pieces" (defArgs (topS 62)) (defBody (topS 62)) (defScope (topS 62)) .none kV dc pm an cd ct), sl⟩) (c : PySem.W.codeIn K cd "_law_pieces" = true) (k : PySem.W.keepIn K (.ref f) = true) : Df K mg "_law_pieces" (topS 62) ["_law_bits_so"] :=
  df_of X G0 a l c k (fun _ _ _ _ _ _ us hl => match us, hl with | [_], _ => rfl)
theorem mk63 (X : K.In h) (G0 : h.Ns mainGlobals mg) (a : PySem.W.nsIn K mainGlobals "_law_lefts" = some (some (.ref f))) (l : K.lookup f = some ⟨oc, od, .func (PySem.W.fnOf "_law_lefts" "_law_lefts" (defArgs (topS 63)) (defBody (topS 63)) (defScope (topS 63)) .none kV dc pm an cd ct), sl⟩) (c : PySem.W.codeIn K cd "_law_lefts" = true) (k : PySem.W.keepIn K (.ref f) = true) : Df K mg "_law_lefts" (topS 63) ["_law_net_here"] :=
  df_of X G0 a l c k (fun _ _ _ _ _ _ us hl => match us, hl with | [_], _ => rfl)
theorem mk64 (X : K.In h) (G0 : h.Ns mainGlobals mg) (a : PySem.W.nsIn K mainGlobals "_law_chain" = some (some (.ref f))) (l : K.lookup f = some ⟨oc, od, .func (PySem.W.fnOf "_law_chain" "_law_chain" (defArgs (topS 64)) (defBody (topS 64)) (defScope (topS 64)) .none kV dc pm an cd ct), sl⟩) (c : PySem.W.codeIn K cd "_law_chain" = true) (k : PySem.W.keepIn K (.ref f) = true) : Df K mg "_law_chain" (topS 64) ["_law_many_so"] :=
  df_of X G0 a l c k (fun _ _ _ _ _ _ us hl => match us, hl with | [_], _ => rfl)
theorem mk65 (X : K.In h) (G0 : h.Ns mainGlobals mg) (a : PySem.W.nsIn K mainGlobals "_law_aside" = some (some (.ref f))) (l : K.lookup f = some ⟨oc, od, .func (PySem.W.fnOf "_law_aside" "_law_aside" (defArgs (topS 65)) (defBody (topS 65)) (defScope (topS 65)) .none kV dc pm an cd ct), sl⟩) (c : PySem.W.codeIn K cd "_law_aside" = true) (k : PySem.W.keepIn K (.ref f) = true) : Df K mg "_law_aside" (topS 65) ["_law_near", "_law_far"] :=
  df_of X G0 a l c k (fun _ _ _ _ _ _ us hl => match us, hl with | [_, _], _ => rfl)
theorem mk66 (X : K.In h) (G0 : h.Ns mainGlobals mg) (a : PySem.W.nsIn K mainGlobals "_law_heap" = some (some (.ref f))) (l : K.lookup f = some ⟨oc, od, .func (PySem.W.fnOf "_law_heap" "_law_heap" (defArgs (topS 66)) (defBody (topS 66)) (defScope (topS 66)) .none kV dc pm an cd ct), sl⟩) (c : PySem.W.codeIn K cd "_law_heap" = true) (k : PySem.W.keepIn K (.ref f) = true) : Df K mg "_law_heap" (topS 66) ["_law_near", "_law_far"] :=
  df_of X G0 a l c k (fun _ _ _ _ _ _ us hl => match us, hl with | [_, _], _ => rfl)
theorem mk68 (X : K.In h) (G0 : h.Ns mainGlobals mg) (a : PySem.W.nsIn K mainGlobals "_law_loose_net" = some (some (.ref f))) (l : K.lookup f = some ⟨oc, od, .func (PySem.W.fnOf "_law_loose_net" "_law_loose_net" (defArgs (topS 68)) (defBody (topS 68)) (defScope (topS 68)) .none kV dc pm an cd ct), sl⟩) (c : PySem.W.codeIn K cd "_law_loose_net" = true) (k : PySem.W.keepIn K (.ref f) = true) : Df K mg "_law_loose_net" (topS 68) ["_law_tin", "_law_many_so"] :=
  df_of X G0 a l c k (fun _ _ _ _ _ _ us hl => match us, hl with | [_, _], _ => rfl)
theorem mk67 (X : K.In h) (G0 : h.Ns mainGlobals mg) (a : PySem.W.nsIn K mainGlobals "_law_order" = some (some (.ref f))) (l : K.lookup f = some ⟨oc, od, .func (PySem.W.fnOf "_law_order" "_law_order" (defArgs (topS 67)) (defBody (topS 67)) (defScope (topS 67)) .none kV dc pm an cd ct), sl⟩) (c : PySem.W.codeIn K cd "_law_order" = true) (k : PySem.W.keepIn K (.ref f) = true) : Df K mg "_law_order" (topS 67) ["_law_tin", "_law_most_so"] :=
  df_of X G0 a l c k (fun _ _ _ _ _ _ us hl => match us, hl with | [_, _], _ => rfl)
theorem mk69 (X : K.In h) (G0 : h.Ns mainGlobals mg) (a : PySem.W.nsIn K mainGlobals "_law_whole" = some (some (.ref f))) (l : K.lookup f = some ⟨oc, od, .func (PySem.W.fnOf "_law_whole" "_law_whole" (defArgs (topS 69)) (defBody (topS 69)) (defScope (topS 69)) .none kV dc pm an cd ct), sl⟩) (c : PySem.W.codeIn K cd "_law_whole" = true) (k : PySem.W.keepIn K (.ref f) = true) : Df K mg "_law_whole" (topS 69) ["_law_net_here", "_law_start_so"] :=
  df_of X G0 a l c k (fun _ _ _ _ _ _ us hl => match us, hl with | [_, _], _ => rfl)
theorem mk70 (X : K.In h) (G0 : h.Ns mainGlobals mg) (a : PySem.W.nsIn K mainGlobals "_law_some_start" = some (some (.ref f))) (l : K.lookup f = some ⟨oc, od, .func (PySem.W.fnOf "_law_some_start" "_law_some_start" (defArgs (topS 70)) (defBody (topS 70)) (defScope (topS 70)) .none kV dc pm an cd ct), sl⟩) (c : PySem.W.codeIn K cd "_law_some_start" = true) (k : PySem.W.keepIn K (.ref f) = true) : Df K mg "_law_some_start" (topS 70) ["_law_tin", "_law_net_here"] :=
  df_of X G0 a l c k (fun _ _ _ _ _ _ us hl => match us, hl with | [_, _], _ => rfl)
theorem mk71 (X : K.In h) (G0 : h.Ns mainGlobals mg) (a : PySem.W.nsIn K mainGlobals "_law_en" = some (some (.ref f))) (l : K.lookup f = some ⟨oc, od, .func (PySem.W.fnOf "_law_en" "_law_en" (defArgs (topS 71)) (defBody (topS 71)) (defScope (topS 71)) .none kV dc pm an cd ct), sl⟩) (c : PySem.W.codeIn K cd "_law_en" = true) (k : PySem.W.keepIn K (.ref f) = true) : Df K mg "_law_en" (topS 71) [] :=
  df_of X G0 a l c k (fun _ _ _ _ _ _ us hl => match us, hl with | [], _ => rfl)
theorem mk72 (X : K.In h) (G0 : h.Ns mainGlobals mg) (a : PySem.W.nsIn K mainGlobals "_law_vee" = some (some (.ref f))) (l : K.lookup f = some ⟨oc, od, .func (PySem.W.fnOf "_law_vee" "_law_vee" (defArgs (topS 72)) (defBody (topS 72)) (defScope (topS 72)) .none kV dc pm an cd ct), sl⟩) (c : PySem.W.codeIn K cd "_law_vee" = true) (k : PySem.W.keepIn K (.ref f) = true) : Df K mg "_law_vee" (topS 72) [] :=
  df_of X G0 a l c k (fun _ _ _ _ _ _ us hl => match us, hl with | [], _ => rfl)
theorem mk75 (X : K.In h) (G0 : h.Ns mainGlobals mg) (a : PySem.W.nsIn K mainGlobals "_law_counts" = some (some (.ref f))) (l : K.lookup f = some ⟨oc, od, .func (PySem.W.fnOf "_law_counts" "_law_counts" (defArgs (topS 75)) (defBody (topS 75)) (defScope (topS 75)) .none kV dc pm an cd ct), sl⟩) (c : PySem.W.codeIn K cd "_law_counts" = true) (k : PySem.W.keepIn K (.ref f) = true) : Df K mg "_law_counts" (topS 75) ["_law_net_here"] :=
  df_of X G0 a l c k (fun _ _ _ _ _ _ us hl => match us, hl with | [_], _ => rfl)
theorem mk76 (X : K.In h) (G0 : h.Ns mainGlobals mg) (a : PySem.W.nsIn K mainGlobals "_law_number_so" = some (some (.ref f))) (l : K.lookup f = some ⟨oc, od, .func (PySem.W.fnOf "_law_number_so" "_law_number_so" (defArgs (topS 76)) (defBody (topS 76)) (defScope (topS 76)) .none kV dc pm an cd ct), sl⟩) (c : PySem.W.codeIn K cd "_law_number_so" = true) (k : PySem.W.keepIn K (.ref f) = true) : Df K mg "_law_number_so" (topS 76) ["_law_net_here", "_law_counts_so", "_law_trip_so"] :=
  df_of X G0 a l c k (fun _ _ _ _ _ _ us hl => match us, hl with | [_, _, _], _ => rfl)
theorem mk73 (X : K.In h) (G0 : h.Ns mainGlobals mg) (a : PySem.W.nsIn K mainGlobals "_law_heard" = some (some (.ref f))) (l : K.lookup f = some ⟨oc, od, .func (PySem.W.fnOf "_law_heard" "_law_heard" (defArgs (topS 73)) (defBody (topS 73)) (defScope (topS 73)) .none kV dc pm an cd ct), sl⟩) (c : PySem.W.codeIn K cd "_law_heard" = true) (k : PySem.W.keepIn K (.ref f) = true) : Df K mg "_law_heard" (topS 73) ["_law_door_so", "_law_net_here", "_law_matter"] :=
  df_of X G0 a l c k (fun _ _ _ _ _ _ us hl => match us, hl with | [_, _, _], _ => rfl)
theorem mk74 (X : K.In h) (G0 : h.Ns mainGlobals mg) (a : PySem.W.nsIn K mainGlobals "_law_by_hand_right" = some (some (.ref f))) (l : K.lookup f = some ⟨oc, od, .func (PySem.W.fnOf "_law_by_hand_right" "_law_by_hand_right" (defArgs (topS 74)) (defBody (topS 74)) (defScope (topS 74)) .none kV dc pm an cd ct), sl⟩) (c : PySem.W.codeIn K cd "_law_by_hand_right" = true) (k : PySem.W.keepIn K (.ref f) = true) : Df K mg "_law_by_hand_right" (topS 74) [] :=
  df_of X G0 a l c k (fun _ _ _ _ _ _ us hl => match us, hl with | [], _ => rfl)
theorem mk77 (X : K.In h) (G0 : h.Ns mainGlobals mg) (a : PySem.W.nsIn K mainGlobals "_law_right" = some (some (.ref f))) (l : K.lookup f = some ⟨oc, od, .func (PySem.W.fnOf "_law_right" "_law_right" (defArgs (topS 77)) (defBody (topS 77)) (defScope (topS 77)) .none kV dc pm an cd ct), sl⟩) (c : PySem.W.codeIn K cd "_law_right" = true) (k : PySem.W.keepIn K (.ref f) = true) : Df K mg "_law_right" (topS 77) ["_law_tin"] :=
  df_of X G0 a l c k (fun _ _ _ _ _ _ us hl => match us, hl with | [_], _ => rfl)
theorem mk78 (X : K.In h) (G0 : h.Ns mainGlobals mg) (a : PySem.W.nsIn K mainGlobals "_law_great_right" = some (some (.ref f))) (l : K.lookup f = some ⟨oc, od, .func (PySem.W.fnOf "_law_great_right" "_law_great_right" (defArgs (topS 78)) (defBody (topS 78)) (defScope (topS 78)) .none kV dc pm an cd ct), sl⟩) (c : PySem.W.codeIn K cd "_law_great_right" = true) (k : PySem.W.keepIn K (.ref f) = true) : Df K mg "_law_great_right" (topS 78) ["_law_tin"] :=
  df_of X G0 a l c k (fun _ _ _ _ _ _ us hl => match us, hl with | [_], _ => rfl)
end
theorem bn_of {K : PySem.W.Frag} {h : Heap} {mg : Str → Option Value} (X : K.In h) (G0 : h.Ns mainGlobals mg) (z0 : PySem.W.nsIn K mainGlobals "all" = some none) (z1 : PySem.W.nsIn K mainGlobals "abs" = some none) (z2 : PySem.W.nsIn K mainGlobals "any" = some none) (z3 : PySem.W.nsIn K mainGlobals "bool" = some none) (z4 : PySem.W.nsIn K mainGlobals "dict" = some none) (z5 : PySem.W.nsIn K mainGlobals "enumerate" = some none) (z6 : PySem.W.nsIn K mainGlobals "int" = some none) (z7 : PySem.W.nsIn K mainGlobals "isinstance" = some none) (z8 : PySem.W.nsIn K mainGlobals "len" = some none) (z9 : PySem.W.nsIn K mainGlobals "list" = some none) (z10 : PySem.W.nsIn K mainGlobals "min" = some none) (z11 : PySem.W.nsIn K mainGlobals "range" = some none) (z12 : PySem.W.nsIn K mainGlobals "set" = some none) (z13 : PySem.W.nsIn K mainGlobals "sorted" = some none) (z14 : PySem.W.nsIn K mainGlobals "str" = some none) (z15 : PySem.W.nsIn K mainGlobals "sum" = some none) (z16 : PySem.W.nsIn K mainGlobals "tuple" = some none) (z17 : PySem.W.nsIn K mainGlobals "zip" = some none) (z18 : PySem.W.nsIn K mainGlobals "ValueError" = some none) : Bn mg :=
  ⟨PySem.W.mg_none_of X G0 z0, PySem.W.mg_none_of X G0 z1, PySem.W.mg_none_of X G0 z2, PySem.W.mg_none_of X G0 z3, PySem.W.mg_none_of X G0 z4, PySem.W.mg_none_of X G0 z5, PySem.W.mg_none_of X G0 z6, PySem.W.mg_none_of X G0 z7, PySem.W.mg_none_of X G0 z8, PySem.W.mg_none_of X G0 z9, PySem.W.mg_none_of X G0 z10, PySem.W.mg_none_of X G0 z11, PySem.W.mg_none_of X G0 z12, PySem.W.mg_none_of X G0 z13, PySem.W.mg_none_of X G0 z14, PySem.W.mg_none_of X G0 z15, PySem.W.mg_none_of X G0 z16, PySem.W.mg_none_of X G0 z17, PySem.W.mg_none_of X G0 z18⟩
theorem exc_of {K : PySem.W.Frag} {C : Addr} (ga : PySem.W.findIn K (.ref C) "__getattribute__" = some (some (.builtin "BaseException.__getattribute__"))) (gg : PySem.W.findIn K (.ref C) "__getattr__" = some none) (eC : PySem.W.subIn K (.ref C) (.type "BaseException") = some true) (hC : PySem.W.hasDictIn K C = true)
    (cl0 : PySem.W.findIn K (.ref C) "__class__" = some (some (.builtin "object.__class__"))) (cn0 : PySem.W.specialIn K (.builtin "object.__class__") "__get__" = some (some (.builtin "getset_descriptor.__get__"))) (ct0 : PySem.W.takesIn K (.builtin "object.__class__") = some true) (mO : PySem.W.mroIn K C (.type "object") = some true) : ExcC K C :=
  ⟨ga, gg, eC, hC, cl0, cn0, ct0, mO⟩
theorem end_of {l : PySem.W.OpenLaw} {w : World} {K : PySem.W.Frag} {h : Heap} {mg : Str → Option Value} {fa C f1 cc cda N C0 f : Addr} (X : K.In h) (G0 : h.Ns mainGlobals mg) (hfa : mg "law" = some (.ref fa)) (T : Bn mg) (D : Dfs K mg)
    {nm qn : Str} {bs : List Value} {sn : List Str} {sub : List Value} {ab : Bool} {col : Option Bool} {dd : Option Addr} {m0 m1 m2 m3 m5 : Option Value}
    {od1 an1 odc cdd : Option Addr} {sl1 slc ccs : Array (Option Value)} {oc1 kV1 dc1 pm1 ct1 occ ccl : Value} {vs : Array Value} {file : Str} {tf tk : Tok}
    {od an : Option Addr} {sl : Array (Option Value)} {oc kV dc pm cd ct : Value}
    (aC : PySem.W.nsIn K mainGlobals "Broken" = some (some (.ref C)))
    (xL : K.lookup C = some (excClassObj nm qn C N bs [.type "ValueError", .type "Exception", .type "BaseException", .type "object"] true sn sub ab col dd m0 m1 m2 m3 m5 "ValueError.__new__"))
    (sa : PySem.W.findIn K (.ref C) "__setattr__" = some (some (.builtin "object.__setattr__"))) (ga : PySem.W.findIn K (.ref C) "__getattribute__" = some (some (.builtin "BaseException.__getattribute__"))) (gg : PySem.W.findIn K (.ref C) "__getattr__" = some none) (nb : PySem.W.findIn K (.ref C) "number" = some none)
    (a1 : PySem.W.findIn K (.ref C) "__init__" = some (some (.ref f1))) (t1 : PySem.W.typeIn K (.ref f1) = some (.type "function"))
    (l1 : K.lookup f1 = some ⟨oc1, od1, .func (PySem.W.ksFn "__init__" "Broken.__init__" PySem.BrkX.iA PySem.BrkX.iB PySem.BrkX.iS .none kV1 dc1 pm1 an1 (.ref cda) ct1 cc), sl1⟩) (c1 : PySem.W.codeIn K (.ref cda) "Broken.__init__" = true)
    (lc : K.lookup cc = some ⟨occ, odc, .cell (some (.ref C)), slc⟩)
    (ld : K.lookup cda = some ⟨ccl, cdd, .fields vs, ccs⟩) (lv : vs[2]? = some (.str file tf)) (lf : ((l.prog.main.file : Str) == file) = true)
    (kC : PySem.W.keepIn K (.ref C) = true) (eC : PySem.W.subIn K (.ref C) (.type "BaseException") = some true) (tC : PySem.W.typeIn K (.ref C) = some (.type "type")) (hC : PySem.W.hasDictIn K C = true)
    (vE : PySem.W.subIn K (.ref C) (.type "ValueError") = some true) (mC : PySem.W.mroIn K C (.ref C) = some true) (mO : PySem.W.mroIn K C (.type "object") = some true)
    (cl0 : PySem.W.findIn K (.ref C) "__class__" = some (some (.builtin "object.__class__"))) (cn0 : PySem.W.specialIn K (.builtin "object.__class__") "__get__" = some (some (.builtin "getset_descriptor.__get__"))) (ct0 : PySem.W.takesIn K (.builtin "object.__class__") = some true)
    (aE : PySem.W.nsIn K mainGlobals "CanNot" = some (some (.ref C0))) (xE : PySem.W.excIn K C0 [.type "ValueError", .type "Exception", .type "BaseException", .type "object"] "ValueError.__new__" = true) (kE : PySem.W.keepIn K (.ref C0) = true)
    (gaE : PySem.W.findIn K (.ref C0) "__getattribute__" = some (some (.builtin "BaseException.__getattribute__"))) (ggE : PySem.W.findIn K (.ref C0) "__getattr__" = some none) (eE : PySem.W.subIn K (.ref C0) (.type "BaseException") = some true) (tE : PySem.W.typeIn K (.ref C0) = some (.type "type")) (hE : PySem.W.hasDictIn K C0 = true)
    (clE : PySem.W.findIn K (.ref C0) "__class__" = some (some (.builtin "object.__class__"))) (mOE : PySem.W.mroIn K C0 (.type "object") = some true)
    (sCE : PySem.W.subIn K (.ref C) (.ref C0) = some false) (sCC : PySem.W.subIn K (.ref C) (.ref C) = some true) (sEE : PySem.W.subIn K (.ref C0) (.ref C0) = some true)
    (nS : PySem.W.nsIn K mainGlobals "super" = some none) (tp : PySem.W.nsIn K _root_.PySem.cStatics "thirdparty.any" = some none) (hsup : (l.prog.main.scope.names.lookup ("super" : Str)).isSome = false)
    (kk : PySem.W.kitOne K (.ref C) (.type "ValueError") = some true) (kk0 : PySem.W.kitOne K (.ref C0) (.type "ValueError") = some true)
    (aF : PySem.W.nsIn K mainGlobals "FEW" = some (some (.int 2000 tk)))
    (a : PySem.W.nsIn K mainGlobals "law" = some (some (.ref f))) (l' : K.lookup f = some ⟨oc, od, .func (PySem.W.fnOf "law" "law" (defArgs (topS 79)) (defBody (topS 79)) (defScope (topS 79)) .none kV dc pm an cd ct), sl⟩) (c : PySem.W.codeIn K cd "law" = true) (k : PySem.W.keepIn K (.ref f) = true) :
    ∃ fd : FuncData, (∀ (s : Shared) (v : Value), BindsTo s fd ⟨[v], []⟩ [("_law_script", v)]) ∧ ∀ base : Heap, K.In base → base.Ns mainGlobals mg → FnOk l.prog w K mg base CX0 30 fa fd ["_law_script"] (spS K R_law) := by
  have e := hfa.symm.trans (PySem.W.mg_of X G0 a)
  cases e
  have gC := PySem.W.mg_of X G0 aC
  have gE := PySem.W.mg_of X G0 aE
  have Tb : PySem.BrkX.BrkTxt l.prog K mg C f1 := ⟨gC, ⟨_, _, _, _, _, _, _, _, _, _, _, _, _, _, xL⟩, sa, ga, gg, nb, a1, t1, kC, eC, tC, hC, vE, mC, PySem.W.mg_none_of X G0 nS, tp, hsup, ⟨_, _, _, _, _, _, _, _, _, _, _, _, _, _, _, _, _, _, _, l1, c1, ld, lv, lf, lc⟩⟩
  have Tc : CanTxt K mg C0 := ⟨gE, xE, kE, eE, tE⟩
  have Th : HdTxt K mg C C0 := ⟨gC, gE, exc_of ga gg eC hC cl0 cn0 ct0 mO, exc_of gaE ggE eE hE clE cn0 ct0 mOE, ⟨ga, gg, eC, hC⟩, nb, PySem.W.exm_ref eE hE tE sCE, PySem.W.exm_ref eC hC tC sCC, PySem.W.exm_ref eE hE tE sEE, kk, kk0⟩
  exact ⟨PySem.W.fnOf "law" "law" (defArgs (topS 79)) (defBody (topS 79)) (defScope (topS 79)) .none kV dc pm an cd ct, fun s v => .of_eq rfl, fun base _ _ => law_fn T (fun_mk l' c k) (all_top T D ⟨_, PySem.W.mg_of X G0 aF, tk, rfl⟩ Tb Tc Th)⟩
end G
-- Ed3
set_option maxHeartbeats 4000000
/-! Ed3: the outermost call, with the law's own contract. -/
namespace G
open PySem PySem.Spec PyProof.Rows L2
theorem walk_law {l : PySem.W.OpenLaw} {q : Program} {loose : List Str} {XP : (Str → Option Value) → Heap → Prop} {YP : World → Heap → Prop} {d : DefRec} {K : Params → PySem.W.Frag}
    (hn : l.most = some 63) (hdf : d.params.defaults = []) (hr : Room 30 callerA)
    (hY : ∀ (w : World) (h : Heap), YP w h → (K w.params).In h)
    (F : ∀ (w : World) (mg : Str → Option Value) (fa : Addr) (h : Heap), (K w.params).In h → h.Ns mainGlobals mg → mg d.name = some (.ref fa) →
      ∃ fd : FuncData, (∀ (s : Shared) (u : Value), BindsTo s fd ⟨[u], []⟩ [("_law_script", u)]) ∧
        ∀ base : Heap, (K w.params).In base → base.Ns mainGlobals mg → FnOk l.prog w (K w.params) mg base CX0 30 fa fd ["_law_script"] (spS (K w.params) R_law)) :
    PySem.W.WalkO q loose XP YP l.row.toRowW d [] (fun f vs => PySem.call f vs) := by
  refine L2.walk_ofB (n := 63) (k := 30) (l := l) (x := "_law_script") (CX := fun _ => CX0) (sp := fun w => spS (K w.params) R_law) hn (by decide) hdf hr hY F ?S (fun _ _ _ _ _ z => z)
  intro w H a ns hl hb hO hS
  exact ⟨⟨H, H, fun _ _ h => h⟩, a, ns, [], [], .bl true, rfl, rfl, hS, rfl, ⟨⟨hl, fun z hz => _root_.PySem.intBits_le_iff.mp (hb z hz)⟩, rfl, rfl⟩, fun v W2 _ r => r⟩
end G
-- EndF
open PySem PySem.W PyProof.Rows
set_option maxRecDepth 100000 in
set_option maxHeartbeats 0 in
theorem PySem.Challenge.cw_eatenorders_k40_whole_plays_counted_and_holds : PySem.Challenge.rw_eatenorders_k40_whole_plays_counted_and.Holds := by
  w_on; o_law; k_head; (case hw => w_witness2)
  k_fill
  refine _root_.G.walk_law (l := PySem.Challenge.rw_eatenorders_k40_whole_plays_counted_and) rfl rfl ⟨rfl, by decide, by decide⟩ (fun w h Y => PySem.W.kIn_of Y) ?F
  case F =>
    intro w mg fa h KX G0 hmg
    refine' _root_.G.end_of (l := PySem.Challenge.rw_eatenorders_k40_whole_plays_counted_and) KX G0 hmg ?TB ⟨?D6, ?D7, ?D8, ?D9, ?D10, ?D11, ?D12, ?D14, ?D15, ?D16, ?D17, ?D18, ?D19, ?D20, ?D21, ?D22, ?D24, ?D25, ?D26, ?D27, ?D28, ?D29, ?D30, ?D31, ?D32, ?D35, ?D36, ?D37, ?D38, ?D40, ?D42, ?D43, ?D44, ?D45, ?D46, ?D47, ?D48, ?D49, ?D50, ?D52, ?D53, ?D54, ?D55, ?D56, ?D57, ?D58, ?D59, ?D60, ?D61, ?D62, ?D63, ?D64, ?D65, ?D66, ?D68, ?D67, ?D69, ?D70, ?D71, ?D72, ?D75, ?D76, ?D73, ?D74, ?D77, ?D78⟩ ?aC ?xL ?sa ?ga ?gg ?nb ?a1 ?t1 ?l1 ?c1 ?lc ?ld ?lv ?lf ?kC ?eC ?tC ?hC ?vE ?mC ?mO ?cl0 ?cn0 ?ct0 ?aE ?xE ?kE ?gaE ?ggE ?eE ?tE ?hE ?clE ?mOE ?sCE ?sCC ?sEE ?nS ?tp ?hsup ?kk ?kk0 ?aF ?Za ?Zl ?Zc ?Zk
    case TB =>
      refine' _root_.G.bn_of KX G0 ?z0 ?z1 ?z2 ?z3 ?z4 ?z5 ?z6 ?z7 ?z8 ?z9 ?z10 ?z11 ?z12 ?z13 ?z14 ?z15 ?z16 ?z17 ?z18
      all_goals k_is
    case D6 =>
      refine' _root_.G.mk6 KX G0 ?a ?l ?c ?k
      (case a => k_is); (case l => k_is); (case c => k_is); (case k => k_is)
    case D7 =>
      refine' _root_.G.mk7 KX G0 ?a ?l ?c ?k
      (case a => k_is); (case l => k_is); (case c => k_is); (case k => k_is)
    case D8 =>
      refine' _root_.G.mk8 KX G0 ?a ?l ?c ?k
      (case a => k_is); (case l => k_is); (case c => k_is); (case k => k_is)
    case D9 =>
      refine' _root_.G.mk9 KX G0 ?a ?l ?c ?k
      (case a => k_is); (case l => k_is); (case c => k_is); (case k => k_is)
    case D10 =>
      refine' _root_.G.mk10 KX G0 ?a ?l ?c ?k
      (case a => k_is); (case l => k_is); (case c => k_is); (case k => k_is)
    case D11 =>
      refine' _root_.G.mk11 KX G0 ?a ?l ?c ?k
      (case a => k_is); (case l => k_is); (case c => k_is); (case k => k_is)
    case D12 =>
      refine' _root_.G.mk12 KX G0 ?a ?l ?c ?k
      (case a => k_is); (case l => k_is); (case c => k_is); (case k => k_is)
    case D14 =>
      refine' _root_.G.mk14 KX G0 ?a ?l ?c ?k
      (case a => k_is); (case l => k_is); (case c => k_is); (case k => k_is)
    case D15 =>
      refine' _root_.G.mk15 KX G0 ?a ?l ?c ?k
      (case a => k_is); (case l => k_is); (case c => k_is); (case k => k_is)
    case D16 =>
      refine' _root_.G.mk16 KX G0 ?a ?l ?c ?k
      (case a => k_is); (case l => k_is); (case c => k_is); (case k => k_is)
    case D17 =>
      refine' _root_.G.mk17 KX G0 ?a ?l ?c ?k
      (case a => k_is); (case l => k_is); (case c => k_is); (case k => k_is)
    case D18 =>
      refine' _root_.G.mk18 KX G0 ?a ?l ?c ?k
      (case a => k_is); (case l => k_is); (case c => k_is); (case k => k_is)
    case D19 =>
      refine' _root_.G.mk19 KX G0 ?a ?l ?c ?k
      (case a => k_is); (case l => k_is); (case c => k_is); (case k => k_is)
    case D20 =>
      refine' _root_.G.mk20 KX G0 ?a ?l ?c ?k
      (case a => k_is); (case l => k_is); (case c => k_is); (case k => k_is)
    case D21 =>
      refine' _root_.G.mk21 KX G0 ?a ?l ?c ?k
      (case a => k_is); (case l => k_is); (case c => k_is); (case k => k_is)
    case D22 =>
      refine' _root_.G.mk22 KX G0 ?a ?l ?c ?k
      (case a => k_is); (case l => k_is); (case c => k_is); (case k => k_is)
    case D24 =>
      refine' _root_.G.mk24 KX G0 ?a ?l ?c ?k
      (case a => k_is); (case l => k_is); (case c => k_is); (case k => k_is)
    case D25 =>
      refine' _root_.G.mk25 KX G0 ?a ?l ?c ?k
      (case a => k_is); (case l => k_is); (case c => k_is); (case k => k_is)
    case D26 =>
      refine' _root_.G.mk26 KX G0 ?a ?l ?c ?k
      (case a => k_is); (case l => k_is); (case c => k_is); (case k => k_is)
    case D27 =>
      refine' _root_.G.mk27 KX G0 ?a ?l ?c ?k
      (case a => k_is); (case l => k_is); (case c => k_is); (case k => k_is)
    case D28 =>
      refine' _root_.G.mk28 KX G0 ?a ?l ?c ?k
      (case a => k_is); (case l => k_is); (case c => k_is); (case k => k_is)
    case D29 =>
      refine' _root_.G.mk29 KX G0 ?a ?l ?c ?k
      (case a => k_is); (case l => k_is); (case c => k_is); (case k => k_is)
    case D30 =>
      refine' _root_.G.mk30 KX G0 ?a ?l ?c ?k
      (case a => k_is); (case l => k_is); (case c => k_is); (case k => k_is)
    case D31 =>
      refine' _root_.G.mk31 KX G0 ?a ?l ?c ?k
      (case a => k_is); (case l => k_is); (case c => k_is); (case k => k_is)
    case D32 =>
      refine' _root_.G.mk32 KX G0 ?a ?l ?c ?k
      (case a => k_is); (case l => k_is); (case c => k_is); (case k => k_is)
    case D35 =>
      refine' _root_.G.mk35 KX G0 ?a ?l ?c ?k
      (case a => k_is); (case l => k_is); (case c => k_is); (case k => k_is)
    case D36 =>
      refine' _root_.G.mk36 KX G0 ?a ?l ?c ?k
      (case a => k_is); (case l => k_is); (case c => k_is); (case k => k_is)
    case D37 =>
      refine' _root_.G.mk37 KX G0 ?a ?l ?c ?k
      (case a => k_is); (case l => k_is); (case c => k_is); (case k => k_is)
    case D38 =>
      refine' _root_.G.mk38 KX G0 ?a ?l ?c ?k
      (case a => k_is); (case l => k_is); (case c => k_is); (case k => k_is)
    case D40 =>
      refine' _root_.G.mk40 KX G0 ?a ?l ?c ?k
      (case a => k_is); (case l => k_is); (case c => k_is); (case k => k_is)
    case D42 =>
      refine' _root_.G.mk42 KX G0 ?a ?l ?c ?k
      (case a => k_is); (case l => k_is); (case c => k_is); (case k => k_is)
    case D43 =>
      refine' _root_.G.mk43 KX G0 ?a ?l ?c ?k
      (case a => k_is); (case l => k_is); (case c => k_is); (case k => k_is)
    case D44 =>
      refine' _root_.G.mk44 KX G0 ?a ?l ?c ?k
      (case a => k_is); (case l => k_is); (case c => k_is); (case k => k_is)
    case D45 =>
      refine' _root_.G.mk45 KX G0 ?a ?l ?c ?k
      (case a => k_is); (case l => k_is); (case c => k_is); (case k => k_is)
    case D46 =>
      refine' _root_.G.mk46 KX G0 ?a ?l ?c ?k
      (case a => k_is); (case l => k_is); (case c => k_is); (case k => k_is)
    case D47 =>
      refine' _root_.G.mk47 KX G0 ?a ?l ?c ?k
      (case a => k_is); (case l => k_is); (case c => k_is); (case k => k_is)
    case D48 =>
      refine' _root_.G.mk48 KX G0 ?a ?l ?c ?k
      (case a => k_is); (case l => k_is); (case c => k_is); (case k => k_is)
    case D49 =>
      refine' _root_.G.mk49 KX G0 ?a ?l ?c ?k
      (case a => k_is); (case l => k_is); (case c => k_is); (case k => k_is)
    case D50 =>
      refine' _root_.G.mk50 KX G0 ?a ?l ?c ?k
      (case a => k_is); (case l => k_is); (case c => k_is); (case k => k_is)
    case D52 =>
      refine' _root_.G.mk52 KX G0 ?a ?l ?c ?k
      (case a => k_is); (case l => k_is); (case c => k_is); (case k => k_is)
    case D53 =>
      refine' _root_.G.mk53 KX G0 ?a ?l ?c ?k
      (case a => k_is); (case l => k_is); (case c => k_is); (case k => k_is)
    case D54 =>
      refine' _root_.G.mk54 KX G0 ?a ?l ?c ?k
      (case a => k_is); (case l => k_is); (case c => k_is); (case k => k_is)
    case D55 =>
      refine' _root_.G.mk55 KX G0 ?a ?l ?c ?k
      (case a => k_is); (case l => k_is); (case c => k_is); (case k => k_is)
    case D56 =>
      refine' _root_.G.mk56 KX G0 ?a ?l ?c ?k
      (case a => k_is); (case l => k_is); (case c => k_is); (case k => k_is)
    case D57 =>
      refine' _root_.G.mk57 KX G0 ?a ?l ?c ?k
      (case a => k_is); (case l => k_is); (case c => k_is); (case k => k_is)
    case D58 =>
      refine' _root_.G.mk58 KX G0 ?a ?l ?c ?k
      (case a => k_is); (case l => k_is); (case c => k_is); (case k => k_is)
    case D59 =>
      refine' _root_.G.mk59 KX G0 ?a ?l ?c ?k
      (case a => k_is); (case l => k_is); (case c => k_is); (case k => k_is)
    case D60 =>
      refine' _root_.G.mk60 KX G0 ?a ?l ?c ?k
      (case a => k_is); (case l => k_is); (case c => k_is); (case k => k_is)
    case D61 =>
      refine' _root_.G.mk61 KX G0 ?a ?l ?c ?k
      (case a => k_is); (case l => k_is); (case c => k_is); (case k => k_is)
    case D62 =>
      refine' _root_.G.mk62 KX G0 ?a ?l ?c ?k
      (case a => k_is); (case l => k_is); (case c => k_is); (case k => k_is)
    case D63 =>
      refine' _root_.G.mk63 KX G0 ?a ?l ?c ?k
      (case a => k_is); (case l => k_is); (case c => k_is); (case k => k_is)
    case D64 =>
      refine' _root_.G.mk64 KX G0 ?a ?l ?c ?k
      (case a => k_is); (case l => k_is); (case c => k_is); (case k => k_is)
    case D65 =>
      refine' _root_.G.mk65 KX G0 ?a ?l ?c ?k
      (case a => k_is); (case l => k_is); (case c => k_is); (case k => k_is)
    case D66 =>
      refine' _root_.G.mk66 KX G0 ?a ?l ?c ?k
      (case a => k_is); (case l => k_is); (case c => k_is); (case k => k_is)
    case D68 =>
      refine' _root_.G.mk68 KX G0 ?a ?l ?c ?k
      (case a => k_is); (case l => k_is); (case c => k_is); (case k => k_is)
    case D67 =>
      refine' _root_.G.mk67 KX G0 ?a ?l ?c ?k
      (case a => k_is); (case l => k_is); (case c => k_is); (case k => k_is)
    case D69 =>
      refine' _root_.G.mk69 KX G0 ?a ?l ?c ?k
      (case a => k_is); (case l => k_is); (case c => k_is); (case k => k_is)
    case D70 =>
      refine' _root_.G.mk70 KX G0 ?a ?l ?c ?k
      (case a => k_is); (case l => k_is); (case c => k_is); (case k => k_is)
    case D71 =>
      refine' _root_.G.mk71 KX G0 ?a ?l ?c ?k
      (case a => k_is); (case l => k_is); (case c => k_is); (case k => k_is)
    case D72 =>
      refine' _root_.G.mk72 KX G0 ?a ?l ?c ?k
      (case a => k_is); (case l => k_is); (case c => k_is); (case k => k_is)
    case D75 =>
      refine' _root_.G.mk75 KX G0 ?a ?l ?c ?k
      (case a => k_is); (case l => k_is); (case c => k_is); (case k => k_is)
    case D76 =>
      refine' _root_.G.mk76 KX G0 ?a ?l ?c ?k
      (case a => k_is); (case l => k_is); (case c => k_is); (case k => k_is)
    case D73 =>
      refine' _root_.G.mk73 KX G0 ?a ?l ?c ?k
      (case a => k_is); (case l => k_is); (case c => k_is); (case k => k_is)
    case D74 =>
      refine' _root_.G.mk74 KX G0 ?a ?l ?c ?k
      (case a => k_is); (case l => k_is); (case c => k_is); (case k => k_is)
    case D77 =>
      refine' _root_.G.mk77 KX G0 ?a ?l ?c ?k
      (case a => k_is); (case l => k_is); (case c => k_is); (case k => k_is)
    case D78 =>
      refine' _root_.G.mk78 KX G0 ?a ?l ?c ?k
      (case a => k_is); (case l => k_is); (case c => k_is); (case k => k_is)
    (case aC => first | k_is | rfl | decide +kernel)
    (case xL => first | k_is | rfl | decide +kernel)
    (case sa => first | k_is | rfl | decide +kernel)
    (case ga => first | k_is | rfl | decide +kernel)
    (case gg => first | k_is | rfl | decide +kernel)
    (case nb => first | k_is | rfl | decide +kernel)
    (case a1 => first | k_is | rfl | decide +kernel)
    (case t1 => first | k_is | rfl | decide +kernel)
    (case l1 => first | k_is | rfl | decide +kernel)
    (case c1 => first | k_is | rfl | decide +kernel)
    (case lc => first | k_is | rfl | decide +kernel)
    (case ld => first | k_is | rfl | decide +kernel)
    (case lv => first | rfl | decide +kernel)
    (case lf => first | rfl | decide +kernel)
    (case kC => first | k_is | rfl | decide +kernel)
    (case eC => first | k_is | rfl | decide +kernel)
    (case tC => first | k_is | rfl | decide +kernel)
    (case hC => first | k_is | rfl | decide +kernel)
    (case vE => first | k_is | rfl | decide +kernel)
    (case mC => first | k_is | rfl | decide +kernel)
    (case mO => first | k_is | rfl | decide +kernel)
    (case cl0 => first | k_is | rfl | decide +kernel)
    (case cn0 => first | k_is | rfl | decide +kernel)
    (case ct0 => first | k_is | rfl | decide +kernel)
    (case aE => first | k_is | rfl | decide +kernel)
    (case xE => k_exc)
    (case kE => first | k_is | rfl | decide +kernel)
    (case gaE => first | k_is | rfl | decide +kernel)
    (case ggE => first | k_is | rfl | decide +kernel)
    (case eE => first | k_is | rfl | decide +kernel)
    (case tE => first | k_is | rfl | decide +kernel)
    (case hE => first | k_is | rfl | decide +kernel)
    (case clE => first | k_is | rfl | decide +kernel)
    (case mOE => first | k_is | rfl | decide +kernel)
    (case sCE => first | k_is | rfl | decide +kernel)
    (case sCC => first | k_is | rfl | decide +kernel)
    (case sEE => first | k_is | rfl | decide +kernel)
    (case nS => first | k_is | rfl | decide +kernel)
    (case tp => first | k_is | rfl | decide +kernel)
    (case hsup => first | rfl | decide +kernel)
    (case kk => first | rfl | decide +kernel)
    (case kk0 => first | rfl | decide +kernel)
    (case aF => first | k_is | rfl | decide +kernel)
    (case Za => first | k_is | rfl | decide +kernel)
    (case Zl => first | k_is | rfl | decide +kernel)
    (case Zc => first | k_is | rfl | decide +kernel)
    (case Zk => first | k_is | rfl | decide +kernel)
