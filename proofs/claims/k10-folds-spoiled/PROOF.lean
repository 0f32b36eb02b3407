import PyProof.Rows.All
import Wide.All
import OpenK.AllK
import Wide.FinOn
import HandS.ForMost
import HandS.Walk
import HandS.Wide
import HandS.Deep
import HandS.FStr
import HandS.RevRange
import HandS.Conv
import HandS.SetKeys
import HandS.IsInst
import HandS.DictComp
import HandS.ListItems
import HandS.GenList
import PyProof.Rows.SetFrom
import HandS.SetFor
import HandS.TupSets
import HandS.SetBool
import HandS.TupAny
import HandS.Style
import HandS.TupLe
import HandS.StrMore
import HandS.Rev
import HandS.Zip
import HandS.More
import KE.GoesEnum
import HandS.DictEq
import HandS.Steps
import HandS.Defaults
import PySem.Challenge.RW_mappedtwice_k10_folds_spoiled
import PyProof.Rows.StrCase
set_option Elab.async false
set_option linter.all false
section
set_option maxRecDepth 100000
set_option maxHeartbeats 1000000
/-! A layer of my own: what is known of a program's data, apart from the heap. -/
namespace Dl
open PySem L2

/-! ### growth: G is the part that never changes, H the whole; M may be changed -/
structure Gr (M : List Addr) (G H G' H' : Hp) : Prop where
  gg : Same G G'
  gh : Same G' H'
  hh : ∀ a o, a ∉ M → H a = some o → H' a = some o
  fr : ∀ a, H a ≠ none → G a = none → G' a = none
  al : ∀ a, H a ≠ none → H' a ≠ none
section
variable {M M' : List Addr} {G H G1 H1 G2 H2 : Hp} {p : Addr} {o : HO}
theorem Gr.refl (s : Same G H) : Gr M G H G H := ⟨Same.refl G, s, fun _ _ _ h => h, fun _ _ h => h, fun _ h => h⟩
theorem Gr.trans' (a : Gr M G H G1 H1) (b : Gr M' G1 H1 G2 H2) (h : ∀ x ∈ M', x ∈ M ∨ H x = none) : Gr M G H G2 H2 := by
  refine ⟨a.gg.trans b.gg, b.gh, fun x u hx e => b.hh x u (fun hm => ?_) (a.hh x u hx e), fun x hx e => b.fr x (a.al x hx) (a.fr x hx e), fun x hx => b.al x (a.al x hx)⟩
  rcases h x hm with z | z
  · exact hx z
  · rw [z] at e; cases e
theorem Gr.trans (a : Gr M G H G1 H1) (b : Gr M G1 H1 G2 H2) : Gr M G H G2 H2 := a.trans' b fun _ h => .inl h
theorem Gr.wide (a : Gr M G H G1 H1) (h : ∀ x ∈ M, x ∈ M') : Gr M' G H G1 H1 :=
  ⟨a.gg, a.gh, fun x u hx e => a.hh x u (fun z => hx (h x z)) e, a.fr, a.al⟩
theorem nn_of {a : Addr} (h : H a = some o) : H a ≠ none := by rw [h]; exact fun z => nomatch z
theorem some_of {a : Addr} (h : H a ≠ none) : ∃ u, H a = some u := by
  cases e : H a with
  | none => exact absurd e h
  | some u => exact ⟨u, rfl⟩
theorem none_sub {a : Addr} (s : Same G H) (h : H a = none) : G a = none := by
  cases e : G a with
  | none => rfl
  | some u => rw [s a u e] at h; cases h
theorem same_new (h : G p = none) : Same G (upd G p o) := fun b u e => by rw [upd_ne (ne_of_none e h)]; exact e
theorem same_upd2 (s : Same G H) : Same (upd G p o) (upd H p o) := fun b u e => by
  by_cases hb : b = p
  · subst hb; rw [upd_same] at e ⊢; exact e
  · rw [upd_ne hb] at e ⊢; exact s b u e
theorem same_keep (s : Same G H) (h : G p = none) : Same G (upd H p o) := fun b u e => by
  rw [upd_ne (ne_of_none e h)]; exact s b u e
/-- a new object that will never change -/
theorem Gr.new (s : Same G H) (h : H p = none) : Gr M G H (upd G p o) (upd H p o) := by
  refine ⟨same_new (none_sub s h), same_upd2 s, fun x u _ e => by rw [upd_ne (ne_of_none e h)]; exact e, fun x hx e => ?_, fun x hx => ?_⟩
  · rw [upd_ne (fun z => hx (by rw [z]; exact h))]; exact e
  · rw [upd_ne (fun z => hx (by rw [z]; exact h))]; exact hx
/-- a new object that may change -/
theorem Gr.own (s : Same G H) (h : H p = none) : Gr M G H G (upd H p o) := by
  refine ⟨Same.refl G, same_keep s (none_sub s h), fun x u _ e => by rw [upd_ne (ne_of_none e h)]; exact e, fun x _ e => e, fun x hx => ?_⟩
  rw [upd_ne (fun z => hx (by rw [z]; exact h))]; exact hx
/-- an object of one's own changed -/
theorem Gr.mut (a : Gr M G H G1 H1) (h : p ∈ M ∨ H p = none) (hg : G1 p = none) : Gr M G H G1 (upd H1 p o) := by
  refine ⟨a.gg, same_keep a.gh hg, fun x u hx e => ?_, a.fr, fun x hx => ?_⟩
  · have n : x ≠ p := fun z => by
      rcases h with h | h
      · exact hx (by rw [z]; exact h)
      · rw [z, h] at e; cases e
    rw [upd_ne n]; exact a.hh x u hx e
  · by_cases n : x = p
    · rw [n, upd_same]; exact fun z => nomatch z
    · rw [upd_ne n]; exact a.al x hx
/-- an object of one's own is not changed any more -/
theorem Gr.freeze (a : Gr M G H G1 H1) (h : H p = none) (hs : Same G H) (ho : H1 p = some o) (hg : G1 p = none) : Gr M G H (upd G1 p o) H1 := by
  refine ⟨a.gg.trans (same_new hg), fun b u e => ?_, a.hh, fun x hx e => ?_, a.al⟩
  · by_cases hb : b = p
    · subst hb; rw [upd_same] at e; rw [ho]; exact e
    · rw [upd_ne hb] at e; exact a.gh b u e
  · rw [upd_ne (fun z => hx (by rw [z]; exact h))]; exact a.fr x hx e
/-- going back to what was known earlier -/
theorem Gr.back (a : Gr M G H G1 H1) (b : Gr M' G1 H1 G2 H2) (h : ∀ x ∈ M', x ∈ M ∨ H x = none) (hm : ∀ x u, G1 x = some u → H2 x = some u) : Gr M G H G1 H2 :=
  ⟨a.gg, hm, (a.trans' b h).hh, a.fr, (a.trans' b h).al⟩
end

/-! ### what else is known throughout (the law's drawing pool) -/
structure Fx where
  P : List Addr
  J : Hp → Hp → Prop
  st : ∀ G H G' H', Same G G' → (∀ a ∈ P, H' a = H a ∧ (G a = none → G' a = none)) → J G H → J G' H'
  al : ∀ G H, J G H → ∀ a ∈ P, H a ≠ none ∧ G a = none
def F0 : Fx := ⟨[], fun _ _ => True, fun _ _ _ _ _ _ h => h, fun _ _ _ _ h => nomatch h⟩
theorem Fx.pure (F : Fx) {G H G' H' : Hp} (g : Gr [] G H G' H') (h : F.J G H) : F.J G' H' := by
  refine F.st G H G' H' g.gg (fun a ha => ?_) h
  obtain ⟨h1, h2⟩ := F.al G H h a ha
  obtain ⟨u, e⟩ := some_of h1
  exact ⟨by rw [e]; exact g.hh a u (by simp) e, g.fr a h1⟩
theorem Fx.loc (F : Fx) {G H : Hp} {p : Addr} {o : HO} (hp : p ∉ F.P) (h : F.J G H) : F.J G (upd H p o) :=
  F.st G H G _ (Same.refl G) (fun a ha => ⟨upd_ne (fun z => hp (by rw [← z]; exact ha)), fun z => z⟩) h
theorem Fx.new (F : Fx) {G H : Hp} {p : Addr} {o : HO} (s : Same G H) (hp : H p = none) (h : F.J G H) : F.J (upd G p o) (upd H p o) := F.pure (Gr.new s hp) h
theorem Fx.offP (F : Fx) {G H : Hp} {p : Addr} (h : F.J G H) (hp : H p = none) : p ∉ F.P := fun z => (F.al G H h p z).1 hp

/-! ### what is known of a value -/
structure Know where
  p : V → Hp → Prop
  mono : ∀ {v : V} {G G' : Hp}, Same G G' → p v G → p v G'
mutual
theorem dp_mono {K : PySem.W.Frag} {G G' : Hp} (s : Same G G') : ∀ {v : V} {d : PyData}, Dp K G v d → Dp K G' v d
  | _, _, .non => .non
  | _, _, .bl b => .bl b
  | _, _, .int i => .int i
  | _, _, .str x => .str x
  | _, _, .lst h r => .lst (s.seq h) (dpAll_mono s r)
  | _, _, .tup h r => .tup (by
      rcases h with (h | ⟨o, h⟩) | h
      · exact .inl (.inl (s _ _ h))
      · exact .inl (.inr ⟨o, s _ _ h⟩)
      · exact .inr h) (dpAll_mono s r)
theorem dpAll_mono {K : PySem.W.Frag} {G G' : Hp} (s : Same G G') : ∀ {vs : List V} {ds : List PyData}, DpAll K G vs ds → DpAll K G' vs ds
  | _, _, .nil => .nil
  | _, _, .cons a b => .cons (dp_mono s a) (dpAll_mono s b)
end
theorem seqT_mono {K : PySem.W.Frag} {G G' : Hp} {a : Addr} {xs : List V} (s : Same G G') (h : SqT K G a xs) : SqT K G' a xs := by
  rcases h with (h | ⟨o, h⟩) | h
  · exact .inl (.inl (s _ _ h))
  · exact .inl (.inr ⟨o, s _ _ h⟩)
  · exact .inr h
def AllK (G : Hp) (vs : List V) (ks : List Know) : Prop := Paired (fun v (k : Know) => k.p v G) vs ks
theorem AllK.mono {G G' : Hp} (s : Same G G') : ∀ {vs : List V} {ks : List Know}, AllK G vs ks → AllK G' vs ks
  | _, _, .nil => .nil
  | _, _, .cons (b := k) a b => .cons (k.mono s a) (AllK.mono s b)
theorem AllK.length {G : Hp} {vs : List V} {ks : List Know} (h : AllK G vs ks) : vs.length = ks.length := Paired.length h
theorem AllK.get {G : Hp} : ∀ {vs : List V} {ks : List Know} {i : Nat} {k : Know}, AllK G vs ks → ks[i]? = some k → ∃ v, vs[i]? = some v ∧ k.p v G
  | _, _, _, _, .nil, e => by simp at e
  | _, _, 0, _, .cons r _, e => by simp at e; subst e; exact ⟨_, rfl, r⟩
  | _, _, i + 1, k, .cons _ t, e => by
    obtain ⟨v, h1, h2⟩ := AllK.get (i := i) (k := k) t (by simpa using e)
    exact ⟨v, by simpa using h1, h2⟩
theorem AllK.getV {G : Hp} : ∀ {vs : List V} {ks : List Know} {i : Nat} {v : V}, AllK G vs ks → vs[i]? = some v → ∃ k, ks[i]? = some k ∧ k.p v G
  | _, _, _, _, .nil, e => by simp at e
  | _, _, 0, _, .cons r _, e => by simp at e; subst e; exact ⟨_, rfl, r⟩
  | _, _, i + 1, v, .cons _ t, e => by
    obtain ⟨k, h1, h2⟩ := AllK.getV (i := i) (v := v) t (by simpa using e)
    exact ⟨k, by simpa using h1, h2⟩
theorem AllK.app {G : Hp} : ∀ {vs ws : List V} {ks ls : List Know}, AllK G vs ks → AllK G ws ls → AllK G (vs ++ ws) (ks ++ ls)
  | _, _, _, _, .nil, s => s
  | _, _, _, _, .cons a b, s => .cons a (AllK.app b s)
theorem AllK.snoc {G : Hp} {vs : List V} {ks : List Know} {v : V} {k : Know} (h : AllK G vs ks) (r : k.p v G) : AllK G (vs ++ [v]) (ks ++ [k]) := h.app (.cons r .nil)
theorem AllK.take {G : Hp} : ∀ {vs : List V} {ks : List Know} (n : Nat), AllK G vs ks → AllK G (vs.take n) (ks.take n)
  | _, _, 0, _ => .nil
  | _, _, _ + 1, .nil => .nil
  | _, _, n + 1, .cons a b => .cons a (AllK.take n b)
theorem AllK.drop {G : Hp} : ∀ {vs : List V} {ks : List Know} (n : Nat), AllK G vs ks → AllK G (vs.drop n) (ks.drop n)
  | _, _, 0, h => h
  | _, _, _ + 1, .nil => .nil
  | _, _, n + 1, .cons _ b => AllK.drop n b
theorem AllK.set {G : Hp} {v : V} {k : Know} (r : k.p v G) : ∀ {vs : List V} {ks : List Know} (i : Nat), AllK G vs ks → AllK G (vs.set i v) (ks.set i k)
  | _, _, _, .nil => .nil
  | _, _, 0, .cons _ b => .cons r b
  | _, _, i + 1, .cons a b => .cons a (AllK.set r i b)
theorem AllK.cut {G : Hp} {vs : List V} {ks : List Know} (h : AllK G vs ks) (lo hi : Option Int) :
    AllK G (cutV vs lo hi) ((ks.drop (HT.sIx ks.length 0 lo)).take (HT.sIx ks.length ks.length hi - HT.sIx ks.length 0 lo)) := by
  unfold cutV
  rw [h.length]
  exact (h.drop _).take _

/-- data of any depth -/
def dat (K : PySem.W.Frag) (d : PyData) : Know := ⟨fun v G => Dp K G v d, fun s h => dp_mono s h⟩
/-- one of several -/
def exK {α : Type} (S : α → Know) : Know := ⟨fun v G => ∃ x, (S x).p v G, fun s ⟨x, h⟩ => ⟨x, (S x).mono s h⟩⟩
/-- with a fact -/
def andK (A : Prop) (k : Know) : Know := ⟨fun v G => A ∧ k.p v G, fun s ⟨a, h⟩ => ⟨a, k.mono s h⟩⟩
/-- just this value -/
def valK (v : V) : Know := ⟨fun u _ => u = v, fun _ h => h⟩
/-- a list, a tuple of things -/
def listK (ks : List Know) : Know := ⟨fun v G => ∃ a vs, v = .ref a ∧ G a = some (.lst vs) ∧ AllK G vs ks, fun s ⟨a, vs, e, h, r⟩ => ⟨a, vs, e, s _ _ h, r.mono s⟩⟩
/-- .. that may also be locked or a constant (the script) -/
def seqK (K : PySem.W.Frag) (ks : List Know) : Know := ⟨fun v G => ∃ a vs, v = .ref a ∧ SqL K G a vs ∧ AllK G vs ks, fun s ⟨a, vs, e, h, r⟩ => ⟨a, vs, e, s.seq h, r.mono s⟩⟩
def tupK (K : PySem.W.Frag) (ks : List Know) : Know := ⟨fun v G => ∃ a vs, v = .ref a ∧ SqT K G a vs ∧ AllK G vs ks, fun s ⟨a, vs, e, h, r⟩ => ⟨a, vs, e, seqT_mono s h, r.mono s⟩⟩
theorem allK_dat1 {K : PySem.W.Frag} {G : Hp} : ∀ (ds : List PyData) (vs : List V), AllK G vs (ds.map (dat K)) → DpAll K G vs ds
  | [], _, .nil => .nil
  | _ :: ds, _ :: vs, .cons a b => .cons a (allK_dat1 ds vs b)
theorem allK_dat2 {K : PySem.W.Frag} {G : Hp} : ∀ {ds : List PyData} {vs : List V}, DpAll K G vs ds → AllK G vs (ds.map (dat K))
  | _, _, .nil => .nil
  | _, _, .cons a b => .cons a (allK_dat2 b)
theorem allK_dat {K : PySem.W.Frag} {G : Hp} {vs : List V} {ds : List PyData} : AllK G vs (ds.map (dat K)) ↔ DpAll K G vs ds := ⟨allK_dat1 ds vs, allK_dat2⟩
theorem tupK_dat {K : PySem.W.Frag} {G : Hp} {v : V} {ds : List PyData} : (tupK K (ds.map (dat K))).p v G ↔ (dat K (.tuple ds)).p v G := by
  constructor
  · rintro ⟨a, vs, rfl, h, r⟩
    exact .tup h (allK_dat.mp r)
  · intro h
    cases h with
    | tup h r => exact ⟨_, _, rfl, h, allK_dat.mpr r⟩
/-- what is known says that it is the data d -/
def IsD (K : PySem.W.Frag) (k : Know) (d : PyData) : Prop := ∀ v G, k.p v G → Dp K G v d
theorem isd_int {K : PySem.W.Frag} {i : Int} : IsD K (valK (.int i)) (.int i) := fun v G h => by
  have e : v = .int i := h
  subst e; exact .int i
theorem isd_str {K : PySem.W.Frag} {i : Str} : IsD K (valK (.str i)) (.str i) := fun v G h => by
  have e : v = .str i := h
  subst e; exact .str i
theorem isd_bl {K : PySem.W.Frag} {i : Bool} : IsD K (valK (.bl i)) (.bool i) := fun v G h => by
  have e : v = .bl i := h
  subst e; exact .bl i
theorem isd_non {K : PySem.W.Frag} : IsD K (valK .non) .none := fun v G h => by
  have e : v = .non := h
  subst e; exact .non
theorem isd_all {K : PySem.W.Frag} {α : Type} {f : α → Know} {g : α → PyData} : ∀ (xs : List α), (∀ x, x ∈ xs → IsD K (f x) (g x)) → ∀ vs G, AllK G vs (xs.map f) → DpAll K G vs (xs.map g)
  | [], _, _, _, .nil => .nil
  | x :: xs, h, _, G, .cons a b => .cons (h x List.mem_cons_self _ G a) (isd_all xs (fun y hy => h y (List.mem_cons_of_mem _ hy)) _ G b)
theorem isd_list {K : PySem.W.Frag} {α : Type} {f : α → Know} {g : α → PyData} {xs : List α} (h : ∀ x, x ∈ xs → IsD K (f x) (g x)) : IsD K (listK (xs.map f)) (.list (xs.map g)) := fun v G ⟨a, vs, e, ha, r⟩ => by
  subst e; exact .lst (.inl (.inl ha)) (isd_all xs h _ G r)
theorem isd_tup {K : PySem.W.Frag} {α : Type} {f : α → Know} {g : α → PyData} {xs : List α} (h : ∀ x, x ∈ xs → IsD K (f x) (g x)) : IsD K (tupK K (xs.map f)) (.tuple (xs.map g)) := fun v G ⟨a, vs, e, ha, r⟩ => by
  subst e; exact .tup ha (isd_all xs h _ G r)
theorem isd_dat {K : PySem.W.Frag} {d : PyData} : IsD K (dat K d) d := fun _ _ h => h
theorem isd_pair {K : PySem.W.Frag} {k l : Know} {d e : PyData} (h1 : IsD K k d) (h2 : IsD K l e) : IsD K (tupK K [k, l]) (.tuple [d, e]) := fun v G ⟨a, vs, eq, ha, r⟩ => by
  subst eq
  refine .tup ha ?_
  cases r with
  | cons a b => cases b with
    | cons b c => cases c; exact .cons (h1 _ G a) (.cons (h2 _ G b) .nil)
theorem dat_int {K : PySem.W.Frag} {G : Hp} {v : V} {i : Int} : (dat K (.int i)).p v G ↔ v = .int i := ⟨fun h => by cases h; rfl, fun e => by subst e; exact .int i⟩
theorem dat_str {K : PySem.W.Frag} {G : Hp} {v : V} {x : Str} : (dat K (.str x)).p v G ↔ v = .str x := ⟨fun h => by cases h; rfl, fun e => by subst e; exact .str x⟩
theorem dat_bl {K : PySem.W.Frag} {G : Hp} {v : V} {b : Bool} : (dat K (.bool b)).p v G ↔ v = .bl b := ⟨fun h => by cases h; rfl, fun e => by subst e; exact .bl b⟩
theorem dat_non {K : PySem.W.Frag} {G : Hp} {v : V} : (dat K .none).p v G ↔ v = .non := ⟨fun h => by cases h; rfl, fun e => by subst e; exact .non⟩

/-! ### the slots, the objects of one's own -/
abbrev Env := List (Option Know)
def EnvK (G : Hp) : Env → St → Prop
  | [], [] => True
  | o :: δ, x :: σ => (∀ k, o = some k → ∃ v, x = some v ∧ k.p v G) ∧ EnvK G δ σ
  | _, _ => False
section
variable {G G' H H' : Hp}
theorem EnvK.mono (s : Same G G') : ∀ {δ : Env} {σ : St}, EnvK G δ σ → EnvK G' δ σ
  | [], [], _ => trivial
  | _ :: _, _ :: _, ⟨h, r⟩ => ⟨fun k e => by obtain ⟨v, h1, h2⟩ := h k e; exact ⟨v, h1, k.mono s h2⟩, EnvK.mono s r⟩
  | [], _ :: _, h => h.elim
  | _ :: _, [], h => h.elim
theorem EnvK.get : ∀ {δ : Env} {σ : St} {i : Nat} {k : Know}, EnvK G δ σ → δ[i]? = some (some k) → ∃ v, σ[i]? = some (some v) ∧ k.p v G
  | [], [], _, _, _, e => by simp at e
  | _ :: _, _ :: _, 0, k, ⟨h, _⟩, e => by
    obtain ⟨v, h1, h2⟩ := h k (by simpa using e)
    exact ⟨v, by simp [h1], h2⟩
  | _ :: _, _ :: _, i + 1, k, ⟨_, r⟩, e => by
    obtain ⟨v, h1, h2⟩ := EnvK.get (i := i) (k := k) r (by simpa using e)
    exact ⟨v, by simpa using h1, h2⟩
  | [], _ :: _, _, _, h, _ => h.elim
  | _ :: _, [], _, _, h, _ => h.elim
theorem EnvK.set {v : V} {k : Know} (q : k.p v G) : ∀ {δ : Env} {σ : St} (i : Nat), EnvK G δ σ → EnvK G (δ.set i (some k)) (σ.set i (some v))
  | [], [], _, _ => trivial
  | _ :: _, _ :: _, 0, ⟨_, r⟩ => ⟨fun k' e => by
      have e' : k = k' := Option.some.inj e
      subst e'
      exact ⟨v, rfl, q⟩, r⟩
  | _ :: _, _ :: _, i + 1, ⟨h, r⟩ => ⟨h, EnvK.set q i r⟩
  | [], _ :: _, _, h => h.elim
  | _ :: _, [], _, h => h.elim
theorem EnvK.forget : ∀ {δ : Env} {σ : St} (i : Nat) (x : Option V), EnvK G δ σ → EnvK G (δ.set i none) (σ.set i x)
  | [], [], _, _, _ => trivial
  | _ :: _, _ :: _, 0, _, ⟨_, r⟩ => ⟨fun _ e => (nomatch e), r⟩
  | _ :: _, _ :: _, i + 1, x, ⟨h, r⟩ => ⟨h, EnvK.forget i x r⟩
  | [], _ :: _, _, _, h => h.elim
  | _ :: _, [], _, _, h => h.elim
/-- the same slots, less known -/
def LeE (A : Prop) : Env → Env → Prop
  | [], [] => True
  | o :: δ, u :: ε => (∀ k, u = some k → ∃ k', o = some k' ∧ (A → ∀ v G, k'.p v G → k.p v G)) ∧ LeE A δ ε
  | _, _ => False
theorem LeE.env : ∀ {δ ε : Env} {σ : St}, LeE True δ ε → EnvK G δ σ → EnvK G ε σ
  | [], [], [], _, _ => trivial
  | _ :: _, _ :: _, _ :: _, ⟨l, lr⟩, ⟨h, r⟩ => ⟨fun k e => by
      obtain ⟨k', e', f⟩ := l k e
      obtain ⟨v, h1, h2⟩ := h k' e'
      exact ⟨v, h1, f trivial v G h2⟩, LeE.env lr r⟩
  | [], [], _ :: _, _, h => h.elim
  | _ :: _, _ :: _, [], _, h => h.elim
  | [], _ :: _, _, l, _ => l.elim
  | _ :: _, [], _, l, _ => l.elim
theorem LeE.refl {A : Prop} : ∀ δ : Env, LeE A δ δ
  | [] => trivial
  | o :: δ => ⟨fun k e => ⟨k, e, fun _ _ _ h => h⟩, LeE.refl δ⟩
theorem LeE.keep {A : Prop} {k : Know} {δ ε : Env} (l : LeE A δ ε) : LeE A (some k :: δ) (some k :: ε) := ⟨fun k' e => ⟨k', by rw [e], fun _ _ _ h => h⟩, l⟩
theorem LeE.drop {A : Prop} {o : Option Know} {δ ε : Env} (l : LeE A δ ε) : LeE A (o :: δ) (none :: ε) := ⟨fun _ e => (nomatch e), l⟩
theorem LeE.imp {A : Prop} {k k' : Know} {δ ε : Env} (h : ∀ v G, k.p v G → k'.p v G) (l : LeE A δ ε) : LeE A (some k :: δ) (some k' :: ε) :=
  ⟨fun q e => by
      have e' : k' = q := Option.some.inj e
      subst e'
      exact ⟨k, rfl, fun _ v G z => h v G z⟩, l⟩
theorem LeE.nil {A : Prop} : LeE A [] [] := trivial
def wipeE (δ : Env) : List Nat → Env
  | [] => δ
  | v :: vs => (wipeE δ vs).set v none
theorem EnvK.wipe {δ : Env} {σ : St} (h : EnvK G δ σ) : ∀ vs : List Nat, EnvK G (wipeE δ vs) (L2.wipe σ vs)
  | [] => h
  | v :: vs => (EnvK.wipe h vs).forget v none

inductive MO where
  | lst (ks : List Know)
  | dct (kvs : List (Key × Know))
def MO.ok (G : Hp) : MO → HO → Prop
  | .lst ks, o => ∃ vs, o = .lst vs ∧ AllK G vs ks
  | .dct kvs, o => ∃ vs, o = .dK vs ∧ Paired (fun (p : Key × V) (q : Key × Know) => p.1 = q.1 ∧ q.2.p p.2 G) vs kvs
theorem MO.ok_mono (s : Same G G') : ∀ {m : MO} {o : HO}, m.ok G o → m.ok G' o
  | .lst _, _, ⟨vs, e, h⟩ => ⟨vs, e, h.mono s⟩
  | .dct _, _, ⟨vs, e, h⟩ => ⟨vs, e, Paired.mapP h fun _ q z => ⟨z.1, q.2.mono s z.2⟩⟩
abbrev Mu := List (Addr × MO)
structure OwnK (F : Fx) (G H : Hp) (μ : Mu) : Prop where
  nd : (μ.map (·.1)).Nodup
  has : ∀ a m, (a, m) ∈ μ → G a = none ∧ a ∉ F.P ∧ ∃ o, H a = some o ∧ m.ok G o
structure Stt (F : Fx) (G H : Hp) (δ : Env) (μ : Mu) (σ : St) : Prop where
  sub : Same G H
  j : F.J G H
  env : EnvK G δ σ
  own : OwnK F G H μ
variable {F : Fx} {δ ε : Env} {μ : Mu} {σ : St}
theorem OwnK.step (g : Gr F.P G H G' H') (h : OwnK F G H μ) : OwnK F G' H' μ := by
  refine ⟨h.nd, fun a m hm => ?_⟩
  obtain ⟨h1, h2, o, h3, h4⟩ := h.has a m hm
  exact ⟨g.fr a (nn_of h3) h1, h2, o, g.hh a o h2 h3, MO.ok_mono g.gg h4⟩
theorem Stt.step (h : Stt F G H δ μ σ) (g : Gr F.P G H G' H') (j : F.J G' H') : Stt F G' H' δ μ σ := ⟨g.gh, j, h.env.mono g.gg, h.own.step g⟩
theorem Stt.setS {v : V} {k : Know} (h : Stt F G H δ μ σ) (i : Nat) (q : k.p v G) : Stt F G H (δ.set i (some k)) μ (σ.set i (some v)) := ⟨h.sub, h.j, h.env.set q i, h.own⟩
theorem OwnK.nil : OwnK F G H [] := ⟨List.nodup_nil, fun _ _ h => nomatch h⟩
end
end Dl
end
section
set_option maxRecDepth 100000
set_option maxHeartbeats 1000000
namespace Dl
open PySem L2

/-! ### judgements -/
section
variable (F : Fx)
/-- an expression: its value is known as k -/
def Ek (te : TE) (δ : Env) (μ : Mu) (k : Know) : Prop :=
  ∀ G H σ, Stt F G H δ μ σ → ∀ Q : VK, (∀ v G' H', Gr F.P G H G' H' → F.J G' H' → k.p v G' → Q v H') → te σ H Q
/-- a new object of one's own -/
def EN (te : TE) (δ : Env) (μ : Mu) (m : MO) : Prop :=
  ∀ G H σ, Stt F G H δ μ σ → ∀ Q : VK, (∀ a o G' H', H a = none → G' a = none → a ∉ F.P → H' a = some o → m.ok G' o → Gr F.P G H G' H' → F.J G' H' → Q (.ref a) H') → te σ H Q
def ETk (tt : TT) (δ : Env) (μ : Mu) (P : Bool → Prop) : Prop :=
  ∀ G H σ, Stt F G H δ μ σ → ∀ Q : Bool → Hp → Prop, (∀ b G' H', Gr F.P G H G' H' → F.J G' H' → P b → Q b H') → tt σ H Q
def EAk (ta : TA) (δ : Env) (μ : Mu) (ks : List Know) : Prop :=
  ∀ G H σ, Stt F G H δ μ σ → ∀ Q : List V → Hp → Prop, (∀ vs G' H', Gr F.P G H G' H' → F.J G' H' → AllK G' vs ks → Q vs H') → ta σ H Q
def EOk (to : TO) (δ : Env) (μ : Mu) (o : Option Int) : Prop :=
  ∀ G H σ, Stt F G H δ μ σ → ∀ Q : Option Int → Hp → Prop, (∀ G' H', Gr F.P G H G' H' → F.J G' H' → Q o H') → to σ H Q
/-- by values -/
def Rk (μ : Mu) (r : R2) (k1 k2 k : Know) : Prop :=
  ∀ G H x y, Same G H → F.J G H → OwnK F G H μ → k1.p x G → k2.p y G → ∀ Q : VK, (∀ v G' H', Gr F.P G H G' H' → F.J G' H' → k.p v G' → Q v H') → r x y H Q
def RNk (μ : Mu) (r : R2) (k1 k2 : Know) (m : MO) : Prop :=
  ∀ G H x y, Same G H → F.J G H → OwnK F G H μ → k1.p x G → k2.p y G → ∀ Q : VK, (∀ a o G' H', H a = none → G' a = none → a ∉ F.P → H' a = some o → m.ok G' o → Gr F.P G H G' H' → F.J G' H' → Q (.ref a) H') → r x y H Q
def CRk (μ : Mu) (r : List V → Hp → VK → Prop) (ks : List Know) (k : Know) : Prop :=
  ∀ G H vs, Same G H → F.J G H → OwnK F G H μ → AllK G vs ks → ∀ Q : VK, (∀ v G' H', Gr F.P G H G' H' → F.J G' H' → k.p v G' → Q v H') → r vs H Q
def CNk (μ : Mu) (r : List V → Hp → VK → Prop) (ks : List Know) (m : MO) : Prop :=
  ∀ G H vs, Same G H → F.J G H → OwnK F G H μ → AllK G vs ks → ∀ Q : VK, (∀ a o G' H', H a = none → G' a = none → a ∉ F.P → H' a = some o → m.ok G' o → Gr F.P G H G' H' → F.J G' H' → Q (.ref a) H') → r vs H Q
/-- a list that may be read: it never changes, or it is one's own -/
def Rd (μ : Mu) (k : Know) (ks : List Know) : Prop := ∀ G H v, Same G H → OwnK F G H μ → k.p v G → ∃ a vs, v = .ref a ∧ H a = some (.lst vs) ∧ AllK G vs ks
end
section
variable {F : Fx} {δ : Env} {μ : Mu} {K : PySem.W.Frag} {ta tb te : TE} {k k1 k2 k' : Know} {r : R2} {m : MO}

theorem rd_list {ks : List Know} : Rd F μ (listK ks) ks := fun G H v s _ ⟨a, vs, e, h, r⟩ => ⟨a, vs, e, s _ _ h, r⟩
theorem rd_own {a : Addr} {ks : List Know} (h : (a, MO.lst ks) ∈ μ) : Rd F μ (valK (.ref a)) ks := fun G H v s o e => by
  obtain ⟨_, _, u, h1, vs, h2, h3⟩ := o.has a _ h
  subst h2
  exact ⟨a, vs, e, h1, h3⟩

theorem ek_weak (h : Ek F te δ μ k) (w : ∀ v G, k.p v G → k'.p v G) : Ek F te δ μ k' := fun G H σ st Q q => h G H σ st Q fun v G' H' g j p => q v G' H' g j (w v G' p)
theorem ek_eq (h : Ek F te δ μ k) (e : k = k') : Ek F te δ μ k' := e ▸ h
/-- what is new is not changed any more -/
theorem en_ek {ks : List Know} (h : EN F te δ μ (.lst ks)) : Ek F te δ μ (listK ks) := fun G H σ st Q q =>
  h G H σ st Q fun a o G' H' h1 h2 hp h3 h4 g j => by
    obtain ⟨vs, e, r⟩ := h4
    subst e
    have s1 : Same G' (upd G' a (.lst vs)) := same_new h2
    refine q (.ref a) (upd G' a (.lst vs)) H' (g.freeze h1 st.sub h3 h2) (F.st _ _ _ _ s1 (fun b hb => ⟨rfl, fun z => ?_⟩) j) ⟨a, vs, rfl, upd_same, r.mono s1⟩
    rw [upd_ne (fun e => hp (by rw [← e]; exact hb))]; exact z
theorem ek_var {i : Nat} (h : δ[i]? = some (some k)) : Ek F (tVar i) δ μ k := fun G H σ st Q q => by
  obtain ⟨v, e, p⟩ := st.env.get h
  exact ⟨v, e, q v G H (.refl st.sub) st.j p⟩
theorem ek_c {v : V} : Ek F (tC v) δ μ (valK v) := fun G H σ st Q q => q v G H (.refl st.sub) st.j rfl
theorem ek_op (ha : Ek F ta δ μ k1) (hb : Ek F tb δ μ k2) (hr : Rk F μ r k1 k2 k) : Ek F (tOp r ta tb) δ μ k := fun G H σ st Q q =>
  ha G H σ st _ fun x G1 H1 g1 j1 p1 => hb G1 H1 σ (st.step g1 j1) _ fun y G2 H2 g2 j2 p2 =>
    hr G2 H2 x y g2.gh j2 ((st.step g1 j1).own.step g2) (k1.mono g2.gg p1) p2 Q fun v G3 H3 g3 j3 p3 => q v G3 H3 ((g1.trans g2).trans g3) j3 p3
theorem en_op (ha : Ek F ta δ μ k1) (hb : Ek F tb δ μ k2) (hr : RNk F μ r k1 k2 m) : EN F (tOp r ta tb) δ μ m := fun G H σ st Q q =>
  ha G H σ st _ fun x G1 H1 g1 j1 p1 => hb G1 H1 σ (st.step g1 j1) _ fun y G2 H2 g2 j2 p2 =>
    hr G2 H2 x y g2.gh j2 ((st.step g1 j1).own.step g2) (k1.mono g2.gg p1) p2 Q fun a o G3 H3 h1 h2 hp h3 h4 g3 j3 =>
      q a o G3 H3 (by
        cases e : H a with
        | none => rfl
        | some u => exact absurd h1 (g2.al a (g1.al a (by rw [e]; exact fun z => nomatch z)))) h2 hp h3 h4 ((g1.trans g2).trans g3) j3
theorem ek_un {r : V → Hp → VK → Prop} (ha : Ek F ta δ μ k1) (hr : ∀ G H x, Same G H → k1.p x G → ∀ Q : VK, (∀ v, k.p v G → Q v H) → r x H Q) : Ek F (tUn r ta) δ μ k := fun G H σ st Q q =>
  ha G H σ st _ fun x G1 H1 g1 j1 p1 => hr G1 H1 x g1.gh p1 Q fun v p => q v G1 H1 g1 j1 p

/-! ### one of several -/
theorem rk_exl {α : Type} {S T : α → Know} (h : ∀ x, Rk F μ r (S x) k2 (T x)) : Rk F μ r (exK S) k2 (exK T) := fun G H x y s j o ⟨z, hz⟩ p2 Q q =>
  h z G H x y s j o hz p2 Q fun v G' H' g j p => q v G' H' g j ⟨z, p⟩
theorem rk_exr {α : Type} {S T : α → Know} (h : ∀ x, Rk F μ r k1 (S x) (T x)) : Rk F μ r k1 (exK S) (exK T) := fun G H x y s j o p1 ⟨z, hz⟩ Q q =>
  h z G H x y s j o p1 hz Q fun v G' H' g j p => q v G' H' g j ⟨z, p⟩

/-! ### ints -/
theorem rk_I0 {g : Int → Int → V} {i j : Int} : Rk F μ (rI0 g) (valK (.int i)) (valK (.int j)) (valK (g i j)) := fun G H x y s jj o p1 p2 Q q => by
  have e1 : x = .int i := p1
  have e2 : y = .int j := p2
  subst e1 e2
  exact ⟨i, j, rfl, rfl, q _ G H (.refl s) jj rfl⟩
theorem rk_I {C : Int → Int → Prop} {g : Int → Int → V} {i j : Int} (hc : C i j) : Rk F μ (rI C g) (valK (.int i)) (valK (.int j)) (valK (g i j)) := fun G H x y s jj o p1 p2 Q q => by
  have e1 : x = .int i := p1
  have e2 : y = .int j := p2
  subst e1 e2
  exact ⟨i, j, rfl, rfl, hc, q _ G H (.refl s) jj rfl⟩
theorem rk_eq {u w : V} (h : scal u w = true) : Rk F μ rEq (valK u) (valK w) (valK (.bl (decide (u = w)))) := fun G H x y s jj o p1 p2 Q q => by
  have e1 : x = u := p1
  have e2 : y = w := p2
  subst e1 e2
  exact ⟨h, q _ G H (.refl s) jj rfl⟩
theorem rk_ne {u w : V} (h : scal u w = true) : Rk F μ rNe (valK u) (valK w) (valK (.bl (!decide (u = w)))) := fun G H x y s jj o p1 p2 Q q => by
  have e1 : x = u := p1
  have e2 : y = w := p2
  subst e1 e2
  exact ⟨h, q _ G H (.refl s) jj rfl⟩
/-- == of data -/
theorem rk_eqD {d e : PyData} (h1 : IsD K k1 d) (h2 : IsD K k2 e) (s1 : SeqAt.shaped d = true) (s2 : SeqAt.shaped e = true) : Rk F μ (rEqD K) k1 k2 (valK (.bl (PyData.eqv d e))) := fun G H x y s jj o p1 p2 Q q =>
  ⟨d, e, dp_mono s (h1 x G p1), dp_mono s (h2 y G p2), s1, s2, q _ G H (.refl s) jj rfl⟩
theorem rk_neD {d e : PyData} (h1 : IsD K k1 d) (h2 : IsD K k2 e) (s1 : SeqAt.shaped d = true) (s2 : SeqAt.shaped e = true) : Rk F μ (rNeD K) k1 k2 (valK (.bl (!PyData.eqv d e))) := fun G H x y s jj o p1 p2 Q q =>
  ⟨d, e, dp_mono s (h1 x G p1), dp_mono s (h2 y G p2), s1, s2, q _ G H (.refl s) jj rfl⟩

/-! ### subscripts -/
theorem seq_of_rd {G H : Hp} {a : Addr} {vs : List V} (h : H a = some (.lst vs)) : SqL K H a vs := .inl (.inl h)
theorem atI_get {xs : List V} {i : Int} {j : Nat} {v : V} (hi : ixN xs.length i = some j) (h : xs[j]? = some v) : atI xs i = some v := by
  unfold atI
  rw [hi]
  exact h
theorem rk_ixL {ks : List Know} {i : Int} {j : Nat} (hr : Rd F μ k1 ks) (hi : ixN ks.length i = some j) (hk : ks[j]? = some k) : Rk F μ (rIxL K) k1 (valK (.int i)) k := fun G H x y s jj o p1 p2 Q q => by
  obtain ⟨a, vs, rfl, h, rr⟩ := hr G H x s o p1
  have e2 : y = .int i := p2
  subst e2
  obtain ⟨v, hv, p⟩ := rr.get hk
  exact ⟨a, vs, i, v, rfl, rfl, .inl (.inl h), atI_get (by rw [rr.length]; exact hi) hv, q v G H (.refl s) jj p⟩
theorem rk_ixT {ks : List Know} {i : Int} {j : Nat} (hi : ixN ks.length i = some j) (hk : ks[j]? = some k) : Rk F μ (rIxT K) (tupK K ks) (valK (.int i)) k := fun G H x y s jj o p1 p2 Q q => by
  obtain ⟨a, vs, rfl, h, rr⟩ := p1
  have e2 : y = .int i := p2
  subst e2
  obtain ⟨v, hv, p⟩ := rr.get hk
  exact ⟨a, vs, i, v, rfl, rfl, seqT_mono s h, atI_get (by rw [rr.length]; exact hi) hv, q v G H (.refl s) jj p⟩
theorem rk_ixS {z : Str} {i : Int} {c : Nat} (hz : z.length ≤ sizeLine) (hc : atI z.cps.toList i = some c) : Rk F μ rIxS (valK (.str z)) (valK (.int i)) (valK (.str ⟨#[c]⟩)) := fun G H x y s jj o p1 p2 Q q => by
  have e1 : x = .str z := p1
  have e2 : y = .int i := p2
  subst e1 e2
  exact ⟨z, i, c, rfl, rfl, hz, hc, q _ G H (.refl s) jj rfl⟩
theorem ixN_nat {n j : Nat} (h : j < n) : ixN n (j : Int) = some j := by
  unfold ixN
  rw [if_pos (Int.natCast_nonneg j), if_pos (by omega)]
  rfl
theorem ixN_last {n : Nat} (h : 0 < n) : ixN n (-1) = some (n - 1) := by
  unfold ixN
  rw [if_neg (by omega), if_pos (by omega)]
  congr 1
  omega
theorem ixN_int {n : Nat} {i : Int} (h0 : 0 ≤ i) (h : i < n) : ixN n i = some i.toNat := by
  unfold ixN
  rw [if_pos h0, if_pos h]

/-! ### displays, slices, + and * of lists -/
theorem ea_nil : EAk F tNil δ μ [] := fun G H σ st Q q => q [] G H (.refl st.sub) st.j .nil
theorem ea_cons {t : TA} {ks : List Know} (h : Ek F te δ μ k) (hr : EAk F t δ μ ks) : EAk F (tCons te t) δ μ (k :: ks) := fun G H σ st Q q =>
  h G H σ st _ fun x G1 H1 g1 j1 p1 => hr G1 H1 σ (st.step g1 j1) _ fun vs G2 H2 g2 j2 p2 => q _ G2 H2 (g1.trans g2) j2 (.cons (k.mono g2.gg p1) p2)
theorem back_none {M : List Addr} {G H G1 H1 : Hp} {a : Addr} (g : Gr M G H G1 H1) (h : H1 a = none) : H a = none := by
  cases e : H a with
  | none => rfl
  | some u => exact absurd h (g.al a (by rw [e]; exact fun z => nomatch z))
theorem en_lst {t : TA} {ks : List Know} (h : EAk F t δ μ ks) (hl : ks.length ≤ sizeLine) : EN F (tLst t) δ μ (.lst ks) := fun G H σ st Q q =>
  h G H σ st _ fun vs G1 H1 g1 j1 p1 => ⟨by rw [p1.length]; exact hl, fun a ha => q a _ G1 _ (back_none g1 ha) (none_sub g1.gh ha) (F.offP j1 ha) upd_same ⟨vs, rfl, p1⟩ (g1.trans (Gr.own g1.gh ha)) (F.loc (F.offP j1 ha) j1)⟩
theorem ek_tup {t : TA} {ks : List Know} (h : EAk F t δ μ ks) (hl : ks.length ≤ sizeLine) : Ek F (tTup t) δ μ (tupK K ks) := fun G H σ st Q q =>
  h G H σ st _ fun vs G1 H1 g1 j1 p1 => ⟨by rw [p1.length]; exact hl, fun a ha => q (.ref a) (upd G1 a (.tup vs)) _ (g1.trans (Gr.new g1.gh ha)) (F.new g1.gh ha j1) ⟨a, vs, rfl, .inl (.inl upd_same), p1.mono (same_new (none_sub g1.gh ha))⟩⟩
def cutK (ks : List Know) (lo hi : Option Int) : List Know := (ks.drop (HT.sIx ks.length 0 lo)).take (HT.sIx ks.length ks.length hi - HT.sIx ks.length 0 lo)
theorem eo_none : EOk F tNoPart δ μ none := fun G H σ st Q q => q G H (.refl st.sub) st.j
theorem eo_some {i : Int} (h : Ek F te δ μ (valK (.int i))) : EOk F (tPart te) δ μ (some i) := fun G H σ st Q q =>
  h G H σ st _ fun x G1 H1 g1 j1 p1 => ⟨i, p1, q G1 H1 g1 j1⟩
theorem en_new1 {G H G1 H1 : Hp} {Q : VK} {vs : List V} {ks : List Know} (g1 : Gr F.P G H G1 H1) (j1 : F.J G1 H1) (r : AllK G1 vs ks)
    (q : ∀ a o G' H', H a = none → G' a = none → a ∉ F.P → H' a = some o → (MO.lst ks).ok G' o → Gr F.P G H G' H' → F.J G' H' → Q (.ref a) H') : ∀ a, H1 a = none → Q (.ref a) (upd H1 a (.lst vs)) := fun a ha =>
  q a _ G1 _ (back_none g1 ha) (none_sub g1.gh ha) (F.offP j1 ha) upd_same ⟨vs, rfl, r⟩ (g1.trans (Gr.own g1.gh ha)) (F.loc (F.offP j1 ha) j1)
theorem en_slL {tl th : TO} {ks : List Know} {lo hi : Option Int} (hr : Rd F μ k1 ks) (h : Ek F te δ μ k1) (hl : EOk F tl δ μ lo) (hh : EOk F th δ μ hi) : EN F (tSl (rSlL K) te tl th) δ μ (.lst (cutK ks lo hi)) := fun G H σ st Q q =>
  h G H σ st _ fun x G1 H1 g1 j1 p1 => hl G1 H1 σ (st.step g1 j1) _ fun G2 H2 g2 j2 => hh G2 H2 σ ((st.step g1 j1).step g2 j2) _ fun G3 H3 g3 j3 => by
    obtain ⟨a, vs, rfl, ha, rr⟩ := hr G3 H3 x g3.gh (((st.step g1 j1).step g2 j2).own.step g3) (k1.mono (g2.gg.trans g3.gg) p1)
    exact ⟨a, vs, rfl, .inl (.inl ha), en_new1 ((g1.trans g2).trans g3) j3 (rr.cut lo hi) q⟩
/-- of the script -/
theorem en_slQ {tl th : TO} {ks : List Know} {lo hi : Option Int} (h : Ek F te δ μ (seqK K ks)) (hl : EOk F tl δ μ lo) (hh : EOk F th δ μ hi) : EN F (tSl (rSlL K) te tl th) δ μ (.lst (cutK ks lo hi)) := fun G H σ st Q q =>
  h G H σ st _ fun x G1 H1 g1 j1 p1 => hl G1 H1 σ (st.step g1 j1) _ fun G2 H2 g2 j2 => hh G2 H2 σ ((st.step g1 j1).step g2 j2) _ fun G3 H3 g3 j3 => by
    obtain ⟨a, vs, rfl, ha, rr⟩ := (seqK K ks).mono (g2.gg.trans g3.gg) p1
    exact ⟨a, vs, rfl, g3.gh.seq ha, en_new1 ((g1.trans g2).trans g3) j3 (rr.cut lo hi) q⟩
theorem rn_cat {ks ls : List Know} (h1 : Rd F μ k1 ks) (h2 : Rd F μ k2 ls) (hl : ks.length + ls.length ≤ sizeLine) : RNk F μ rCat k1 k2 (.lst (ks ++ ls)) := fun G H x y s j o p1 p2 Q q => by
  obtain ⟨a, vs, rfl, ha, r1⟩ := h1 G H x s o p1
  obtain ⟨b, ws, rfl, hb, r2⟩ := h2 G H y s o p2
  exact ⟨a, b, vs, ws, rfl, rfl, ha, hb, by rw [r1.length, r2.length]; exact hl, en_new1 (.refl s) j (r1.app r2) q⟩
theorem allK_rep {G : Hp} {vs : List V} {ks : List Know} (h : AllK G vs ks) : ∀ n, AllK G (List.replicate n vs).flatten (List.replicate n ks).flatten
  | 0 => .nil
  | n + 1 => by
    rw [List.replicate_succ, List.replicate_succ, List.flatten_cons, List.flatten_cons]
    exact h.app (allK_rep h n)
theorem rn_rep {ks : List Know} {n : Int} (h1 : Rd F μ k1 ks) (hn : n < 16777216) (hl : ks.length * n.toNat ≤ sizeLine) (h0 : 0 ≤ n) : RNk F μ rRep k1 (valK (.int n)) (.lst (List.replicate n.toNat ks).flatten) := fun G H x y s j o p1 p2 Q q => by
  obtain ⟨a, vs, rfl, ha, r1⟩ := h1 G H x s o p1
  have e2 : y = .int n := p2
  subst e2
  exact ⟨a, n, vs, rfl, rfl, ha, by omega, by omega, by rw [r1.length]; exact hl, en_new1 (.refl s) j (allK_rep r1 _) q⟩

/-! ### texts -/
theorem rk_addS {a b : Str} {g : R2} (hg : g = fun x y H Q => ∃ i j, x = .str i ∧ y = .str j ∧ i.length + j.length ≤ sizeLine ∧ Q (.str (i ++ j)) H) (h : a.length + b.length ≤ sizeLine) : Rk F μ g (valK (.str a)) (valK (.str b)) (valK (.str (a ++ b))) := fun G H x y s jj o p1 p2 Q q => by
  have e1 : x = .str a := p1
  have e2 : y = .str b := p2
  subst e1 e2 hg
  exact ⟨a, b, rfl, rfl, h, q _ G H (.refl s) jj rfl⟩

/-! ### built-in calls -/
theorem ek_cb {rr : List V → Hp → VK → Prop} {t : TA} {ks : List Know} (h : EAk F t δ μ ks) (hr : CRk F μ rr ks k) : Ek F (tCB rr t) δ μ k := fun G H σ st Q q =>
  h G H σ st _ fun vs G1 H1 g1 j1 p1 => hr G1 H1 vs g1.gh j1 ((st.step g1 j1).own) p1 Q fun v G2 H2 g2 j2 p2 => q v G2 H2 (g1.trans g2) j2 p2
theorem en_cb {rr : List V → Hp → VK → Prop} {t : TA} {ks : List Know} (h : EAk F t δ μ ks) (hr : CNk F μ rr ks m) : EN F (tCB rr t) δ μ m := fun G H σ st Q q =>
  h G H σ st _ fun vs G1 H1 g1 j1 p1 => hr G1 H1 vs g1.gh j1 ((st.step g1 j1).own) p1 Q fun a o G2 H2 h1 h2 hp h3 h4 g2 j2 => q a o G2 H2 (back_none g1 h1) h2 hp h3 h4 (g1.trans g2) j2
theorem allK1 {G : Hp} {vs : List V} (h : AllK G vs [k]) : ∃ v, vs = [v] ∧ k.p v G := by
  cases h with
  | cons a b => cases b; exact ⟨_, rfl, a⟩
theorem allK2 {G : Hp} {vs : List V} (h : AllK G vs [k1, k2]) : ∃ v u, vs = [v, u] ∧ k1.p v G ∧ k2.p u G := by
  cases h with
  | cons a b => cases b with
    | cons b c => cases c; exact ⟨_, _, rfl, a, b⟩
def rAbs : List V → Hp → VK → Prop := fun xs H Q => ∃ i, xs = [.int i] ∧ Q (.int (if i < 0 then -i else i)) H
def rInt : List V → Hp → VK → Prop := fun xs H Q => (∃ i, xs = [.int i] ∧ Q (.int i) H) ∨ ∃ b, xs = [.bl b] ∧ Q (.int (if b then 1 else 0)) H
def rStrI : List V → Hp → VK → Prop := fun xs H Q => ∃ i, xs = [.int i] ∧ i.natAbs.log2 < 1920 ∧ Q (.str (toString i)) H
def rLenQ (K : PySem.W.Frag) : List V → Hp → VK → Prop := fun xs H Q => ∃ p ys, xs = [.ref p] ∧ (SqL K H p ys ∨ SqT K H p ys) ∧ Q (.int ys.length) H
def rLenS : List V → Hp → VK → Prop := fun xs H Q => ∃ z, xs = [.str z] ∧ z.length ≤ sizeLine ∧ Q (.int z.length) H
def rListQ (K : PySem.W.Frag) : List V → Hp → VK → Prop := fun xs H Q => ∃ p ys, xs = [.ref p] ∧ (SqL K H p ys ∨ SqT K H p ys) ∧ ∀ l, H l = none → Q (.ref l) (upd H l (.lst ys))
def rTupQ (K : PySem.W.Frag) : List V → Hp → VK → Prop := fun xs H Q => ∃ p ys, xs = [.ref p] ∧ ((SqL K H p ys ∧ ∀ l, H l = none → Q (.ref l) (upd H l (.tup ys))) ∨ (SqT K H p ys ∧ Q (.ref p) H))
section
variable {X : Cx}
theorem cx_abs : CallR X (.builtin "abs") rAbs := call_abs
theorem cx_int : CallR X (.type "int") rInt := call_int1
theorem cx_strI : CallR X (.type "str") rStrI := call_str_int
theorem cx_len : CallR X (.builtin "len") (rLenQ X.K) := call_len_seq
theorem cx_lenS : CallR X (.builtin "len") rLenS := call_len_str
theorem cx_list : CallR X (.type "list") (rListQ X.K) := call_list_of
theorem cx_tup : CallR X (.type "tuple") (rTupQ X.K) := call_tuple_of
end
theorem cr_abs1 {i : Int} : CRk F μ rAbs [valK (.int i)] (valK (.int (if i < 0 then -i else i))) := fun G H vs s j o p Q q => by
  obtain ⟨v, rfl, e⟩ := allK1 p
  have e : v = .int i := e
  subst e
  exact ⟨i, rfl, q _ G H (.refl s) j rfl⟩
theorem cr_int1 {i : Int} : CRk F μ rInt [valK (.int i)] (valK (.int i)) := fun G H vs s j o p Q q => by
  obtain ⟨v, rfl, e⟩ := allK1 p
  have e : v = .int i := e
  subst e
  exact .inl ⟨i, rfl, q _ G H (.refl s) j rfl⟩
theorem cr_strI {i : Int} (h : i.natAbs.log2 < 1920) : CRk F μ rStrI [valK (.int i)] (valK (.str (toString i))) := fun G H vs s j o p Q q => by
  obtain ⟨v, rfl, e⟩ := allK1 p
  have e : v = .int i := e
  subst e
  exact ⟨i, rfl, h, q _ G H (.refl s) j rfl⟩
theorem cr_len {ks : List Know} (hr : Rd F μ k1 ks) : CRk F μ (rLenQ K) [k1] (valK (.int (ks.length : Int))) := fun G H vs s j o p Q q => by
  obtain ⟨v, rfl, p'⟩ := allK1 p
  obtain ⟨a, ws, rfl, ha, rr⟩ := hr G H v s o p'
  exact ⟨a, ws, rfl, .inl (.inl (.inl ha)), q _ G H (.refl s) j (by rw [rr.length]; rfl)⟩
theorem cr_lenT {ks : List Know} : CRk F μ (rLenQ K) [tupK K ks] (valK (.int (ks.length : Int))) := fun G H vs s j o p Q q => by
  obtain ⟨v, rfl, p'⟩ := allK1 p
  obtain ⟨a, ws, rfl, ha, rr⟩ := p'
  exact ⟨a, ws, rfl, .inr (seqT_mono s ha), q _ G H (.refl s) j (by rw [rr.length]; rfl)⟩
theorem cr_lenS {z : Str} (h : z.length ≤ sizeLine) : CRk F μ rLenS [valK (.str z)] (valK (.int (z.length : Int))) := fun G H vs s j o p Q q => by
  obtain ⟨v, rfl, e⟩ := allK1 p
  have e : v = .str z := e
  subst e
  exact ⟨z, rfl, h, q _ G H (.refl s) j rfl⟩
theorem cn_list {ks : List Know} (hr : Rd F μ k1 ks) : CNk F μ (rListQ K) [k1] (.lst ks) := fun G H vs s j o p Q q => by
  obtain ⟨v, rfl, p'⟩ := allK1 p
  obtain ⟨a, ws, rfl, ha, rr⟩ := hr G H v s o p'
  exact ⟨a, ws, rfl, .inl (.inl (.inl ha)), en_new1 (.refl s) j rr q⟩
theorem cn_listT {ks : List Know} : CNk F μ (rListQ K) [tupK K ks] (.lst ks) := fun G H vs s j o p Q q => by
  obtain ⟨v, rfl, p'⟩ := allK1 p
  obtain ⟨a, ws, rfl, ha, rr⟩ := p'
  exact ⟨a, ws, rfl, .inr (seqT_mono s ha), en_new1 (.refl s) j rr q⟩
theorem cr_tup {ks : List Know} (hr : Rd F μ k1 ks) : CRk F μ (rTupQ K) [k1] (tupK K ks) := fun G H vs s j o p Q q => by
  obtain ⟨v, rfl, p'⟩ := allK1 p
  obtain ⟨a, ws, rfl, ha, rr⟩ := hr G H v s o p'
  exact ⟨a, ws, rfl, .inl ⟨.inl (.inl ha), fun l hl => q _ (upd G l (.tup ws)) _ (Gr.new s hl) (F.new s hl j) ⟨l, ws, rfl, .inl (.inl upd_same), rr.mono (same_new (none_sub s hl))⟩⟩⟩

/-! ### tests -/
variable {t u : TT} {P P' : Bool → Prop}
theorem et_weak (h : ETk F t δ μ P) (w : ∀ b, P b → P' b) : ETk F t δ μ P' := fun G H σ st Q q => h G H σ st Q fun b G' H' g j p => q b G' H' g j (w b p)
theorem et_test {b : Bool} (h : Ek F te δ μ (valK (.bl b))) : ETk F (tTest te) δ μ (· = b) := fun G H σ st Q q =>
  h G H σ st _ fun v G' H' g j p => ⟨b, p, q b G' H' g j rfl⟩
theorem et_testx {α : Type} {S : α → Know} {P : Bool → Prop} (h : Ek F te δ μ (exK S)) (hs : ∀ x v G, (S x).p v G → ∃ b, v = .bl b ∧ P b) : ETk F (tTest te) δ μ P := fun G H σ st Q q =>
  h G H σ st _ fun v G' H' g j ⟨x, p⟩ => by
    obtain ⟨b, e, hb⟩ := hs x v G' p
    exact ⟨b, e, q b G' H' g j hb⟩
theorem et_B {b : Bool} (h : Ek F te δ μ (valK (.bl b))) : ETk F (tB te) δ μ (· = b) := fun G H σ st Q q =>
  h G H σ st _ fun v G' H' g j p => ⟨b, p, q b G' H' g j rfl⟩
theorem et_not {b : Bool} (h : ETk F t δ μ (· = b)) : ETk F (tNot t) δ μ (· = !b) := fun G H σ st Q q =>
  h G H σ st _ fun c G' H' g j p => q _ G' H' g j (by rw [p])
theorem et_and {a b : Bool} (h1 : ETk F t δ μ (· = a)) (h2 : a = true → ETk F u δ μ (· = b)) : ETk F (tAnd t u) δ μ (· = (a && b)) := fun G H σ st Q q =>
  h1 G H σ st _ fun c G1 H1 g1 j1 p1 => by
    subst p1
    cases c with
    | true => exact h2 rfl G1 H1 σ (st.step g1 j1) Q fun d G2 H2 g2 j2 p2 => q d G2 H2 (g1.trans g2) j2 (by rw [p2]; rfl)
    | false => exact q false G1 H1 g1 j1 rfl
theorem et_or {a b : Bool} (h1 : ETk F t δ μ (· = a)) (h2 : a = false → ETk F u δ μ (· = b)) : ETk F (tOr t u) δ μ (· = (a || b)) := fun G H σ st Q q =>
  h1 G H σ st _ fun c G1 H1 g1 j1 p1 => by
    subst p1
    cases c with
    | false => exact h2 rfl G1 H1 σ (st.step g1 j1) Q fun d G2 H2 g2 j2 p2 => q d G2 H2 (g1.trans g2) j2 (by rw [p2]; rfl)
    | true => exact q true G1 H1 g1 j1 rfl
/-- of unknown outcome -/
theorem et_and' {P1 P2 : Bool → Prop} (h1 : ETk F t δ μ P1) (h2 : P1 true → ETk F u δ μ P2) : ETk F (tAnd t u) δ μ (fun b => (b = true → P1 true ∧ P2 true) ∧ (b = false → P1 false ∨ (P1 true ∧ P2 false))) := fun G H σ st Q q =>
  h1 G H σ st _ fun c G1 H1 g1 j1 p1 => by
    cases c with
    | true => exact h2 p1 G1 H1 σ (st.step g1 j1) Q fun d G2 H2 g2 j2 p2 => q d G2 H2 (g1.trans g2) j2 ⟨fun e => ⟨p1, by rw [← e]; exact p2⟩, fun e => .inr ⟨p1, by rw [← e]; exact p2⟩⟩
    | false => exact q false G1 H1 g1 j1 ⟨fun e => (nomatch e), fun _ => .inl p1⟩
theorem ek_andV {a b : Bool} (h1 : Ek F ta δ μ (valK (.bl a))) (h2 : a = true → Ek F tb δ μ (valK (.bl b))) : Ek F (tAndV ta tb) δ μ (valK (.bl (a && b))) := fun G H σ st Q q =>
  h1 G H σ st _ fun c G1 H1 g1 j1 p1 => by
    have p1 : c = .bl a := p1
    subst p1
    refine ⟨a, rfl, ?_⟩
    cases a with
    | true => exact h2 rfl G1 H1 σ (st.step g1 j1) Q fun d G2 H2 g2 j2 p2 => q d G2 H2 (g1.trans g2) j2 p2
    | false => exact q _ G1 H1 g1 j1 rfl
end
end Dl
end
section
set_option maxRecDepth 100000
set_option maxHeartbeats 1000000
namespace Dl
open PySem L2

/-! ### statements: from a base -/
structure Bs where
  M : List Addr
  G0 : Hp
  H0 : Hp
def Bs.mine (B : Bs) (a : Addr) : Prop := a ∈ B.M ∨ B.H0 a = none
structure AtG (F : Fx) (B : Bs) (δ : Env) (μ : Mu) (σ : St) (G H : Hp) : Prop where
  s0 : Same B.G0 B.H0
  gr : Gr B.M B.G0 B.H0 G H
  st : Stt F G H δ μ σ
  fp : ∀ a ∈ F.P, B.mine a
  ow : ∀ a m, (a, m) ∈ μ → B.mine a
def At (F : Fx) (B : Bs) (δ : Env) (μ : Mu) (σ : St) (H : Hp) : Prop := ∃ G, AtG F B δ μ σ G H
def To (F : Fx) (B : Bs) (δ : Env) (μ : Mu) (n : St → Hp → Prop) : Prop := ∀ σ H, At F B δ μ σ H → n σ H
abbrev Tr (F : Fx) (B : Bs) (δ : Env) (μ : Mu) (t : TS) (D : Ends) : Prop := To F B δ μ (t D)
/-- what is wanted at a return -/
def Rt (F : Fx) (B : Bs) (post : V → Hp → Hp → Prop) (rt : VK) : Prop := ∀ v G H, Gr B.M B.G0 B.H0 G H → F.J G H → post v G H → rt v H
/-- a later base -/
structure BLe (B B' : Bs) : Prop where
  gr : ∀ G H, Gr B'.M B'.G0 B'.H0 G H → Gr B.M B.G0 B.H0 G H
  mn : ∀ a, B'.mine a → B.mine a
  s0 : Same B.G0 B.H0
theorem BLe.refl {B : Bs} (h : Same B.G0 B.H0) : BLe B B := ⟨fun _ _ g => g, fun _ h => h, h⟩
theorem BLe.trans {B B' B'' : Bs} (a : BLe B B') (b : BLe B' B'') : BLe B B'' := ⟨fun G H g => a.gr G H (b.gr G H g), fun x h => a.mn x (b.mn x h), a.s0⟩
section
variable {F : Fx} {B B' : Bs} {δ δ' ε : Env} {μ μ' : Mu} {σ : St} {G H : Hp} {k : Know} {m : MO} {D : Ends} {te : TE} {n : St → Hp → Prop} {post : V → Hp → Hp → Prop} {rt : VK}
theorem AtG.up (l : BLe B B') (h : AtG F B' δ μ σ G H) : AtG F B δ μ σ G H := ⟨l.s0, l.gr _ _ h.gr, h.st, fun a ha => l.mn a (h.fp a ha), fun a m hm => l.mn a (h.ow a m hm)⟩
theorem At.up (l : BLe B B') (h : At F B' δ μ σ H) : At F B δ μ σ H := let ⟨G, q⟩ := h; ⟨G, q.up l⟩
theorem Rt.up (l : BLe B B') (h : Rt F B post rt) : Rt F B' post rt := fun v G H g j p => h v G H (l.gr G H g) j p
theorem To.up (l : BLe B B') (h : To F B δ μ n) : To F B' δ μ n := fun σ H q => h σ H (q.up l)
theorem AtG.step {G' H' : Hp} (h : AtG F B δ μ σ G H) (g : Gr F.P G H G' H') (j : F.J G' H') : AtG F B δ μ σ G' H' :=
  ⟨h.s0, h.gr.trans' g h.fp, h.st.step g j, h.fp, h.ow⟩
theorem AtG.setS {v : V} (h : AtG F B δ μ σ G H) (i : Nat) (q : k.p v G) : AtG F B (δ.set i (some k)) μ (σ.set i (some v)) G H := ⟨h.s0, h.gr, h.st.setS i q, h.fp, h.ow⟩
/-- less known -/
theorem AtG.weak (h : AtG F B δ μ σ G H) (l : LeE True δ ε) : AtG F B ε μ σ G H := ⟨h.s0, h.gr, ⟨h.st.sub, h.st.j, l.env h.st.env, h.st.own⟩, h.fp, h.ow⟩
theorem to_weak (l : LeE True δ ε) (h : To F B ε μ n) : To F B δ μ n := fun σ H ⟨G, q⟩ => h σ H ⟨G, q.weak l⟩
theorem AtG.drop (h : AtG F B δ μ σ G H) (hs : List.Sublist μ' μ) : AtG F B δ μ' σ G H := ⟨h.s0, h.gr, ⟨h.st.sub, h.st.j, h.st.env, ⟨h.st.own.nd.sublist (hs.map _), fun a m hm => h.st.own.has a m (hs.subset hm)⟩⟩, h.fp, fun a m hm => h.ow a m (hs.subset hm)⟩
theorem to_drop (hs : List.Sublist μ' μ) (h : To F B δ μ' n) : To F B δ μ n := fun σ H ⟨G, q⟩ => h σ H ⟨G, q.drop hs⟩

theorem tr_seq {t u : TS} (h : Tr F B δ μ t { D with nx := u D }) : Tr F B δ μ (tSeq t u) D := h
theorem s_asg {i : Nat} (h : Ek F te δ μ k) (q : To F B (δ.set i (some k)) μ D.nx) : Tr F B δ μ (tAsg te (gName i)) D := fun σ H ⟨G, a⟩ =>
  h G H σ a.st _ fun v G' H' g j p => q _ _ ⟨G', (a.step g j).setS i p⟩
theorem q_asg {i : Nat} {u : TS} (h : Ek F te δ μ k) (q : Tr F B (δ.set i (some k)) μ u D) : Tr F B δ μ (tSeq (tAsg te (gName i)) u) D := s_asg (D := { D with nx := u D }) h q
theorem s_asgx {i : Nat} {α : Type} {S : α → Know} (h : Ek F te δ μ (exK S)) (q : ∀ x, To F B (δ.set i (some (S x))) μ D.nx) : Tr F B δ μ (tAsg te (gName i)) D := fun σ H ⟨G, a⟩ =>
  h G H σ a.st _ fun v G' H' g j ⟨x, p⟩ => q x _ _ ⟨G', (a.step g j).setS i p⟩
theorem q_asgx {i : Nat} {α : Type} {S : α → Know} {u : TS} (h : Ek F te δ μ (exK S)) (q : ∀ x, Tr F B (δ.set i (some (S x))) μ u D) : Tr F B δ μ (tSeq (tAsg te (gName i)) u) D := s_asgx (D := { D with nx := u D }) h q
/-- a new object joins -/
theorem AtG.join {G' H' : Hp} {a : Addr} {o : HO} (h : AtG F B δ μ σ G H) (h1 : H a = none) (h2 : G' a = none) (hp : a ∉ F.P) (h3 : H' a = some o) (h4 : m.ok G' o) (g : Gr F.P G H G' H') (j : F.J G' H') : AtG F B δ ((a, m) :: μ) σ G' H' := by
  have q := h.step g j
  refine ⟨q.s0, q.gr, ⟨q.st.sub, q.st.j, q.st.env, ⟨?_, fun b u hm => ?_⟩⟩, q.fp, fun b u hm => ?_⟩
  · rw [List.map_cons, List.nodup_cons]
    refine ⟨fun hm => ?_, q.st.own.nd⟩
    obtain ⟨p, hp1, hp2⟩ := List.mem_map.mp hm
    obtain ⟨_, _, u, hu, _⟩ := h.st.own.has p.1 p.2 hp1
    rw [show p.1 = a from hp2, h1] at hu
    cases hu
  · rcases List.mem_cons.mp hm with e | hm
    · cases e; exact ⟨h2, hp, o, h3, h4⟩
    · exact q.st.own.has b u hm
  · rcases List.mem_cons.mp hm with e | hm
    · cases e; exact .inr (back_none h.gr h1)
    · exact q.ow b u hm
theorem s_new {i : Nat} (h : EN F te δ μ m) (q : ∀ a, To F B (δ.set i (some (valK (.ref a)))) ((a, m) :: μ) D.nx) : Tr F B δ μ (tAsg te (gName i)) D := fun σ H ⟨G, z⟩ =>
  h G H σ z.st _ fun a o G' H' h1 h2 hp h3 h4 g j => q a _ _ ⟨G', (z.join h1 h2 hp h3 h4 g j).setS i rfl⟩
theorem q_new {i : Nat} {u : TS} (h : EN F te δ μ m) (q : ∀ a, Tr F B (δ.set i (some (valK (.ref a)))) ((a, m) :: μ) u D) : Tr F B δ μ (tSeq (tAsg te (gName i)) u) D := s_new (D := { D with nx := u D }) h q
theorem s_drop (h : Ek F te δ μ k) (q : To F B δ μ D.nx) : Tr F B δ μ (tDrop te) D := fun σ H ⟨G, a⟩ =>
  h G H σ a.st _ fun v G' H' g j p => q _ _ ⟨G', a.step g j⟩
/-- an object of one's own is not changed any more -/
theorem AtG.freeze {a : Addr} {o : HO} (h : AtG F B δ ((a, m) :: μ) σ G H) (ho : H a = some o) (hn : B.H0 a = none) : AtG F B δ μ σ (upd G a o) H := by
  obtain ⟨h1, hp, _⟩ := h.st.own.has a m List.mem_cons_self
  have nd := h.st.own.nd
  rw [List.map_cons, List.nodup_cons] at nd
  have s1 : Same G (upd G a o) := same_new h1
  have off : ∀ b, b ≠ a → (upd G a o) b = G b := fun b hb => upd_ne hb
  refine ⟨h.s0, h.gr.freeze hn h.s0 ho h1, ⟨fun b u e => ?_, F.st _ _ _ _ s1 (fun b hb => ⟨rfl, fun z => ?_⟩) h.st.j, h.st.env.mono s1, ⟨nd.2, fun b u hm => ?_⟩⟩, h.fp, fun b u hm => h.ow b u (List.mem_cons_of_mem _ hm)⟩
  · by_cases hb : b = a
    · rw [hb, upd_same] at e; rw [hb, ho]; exact e
    · rw [off b hb] at e; exact h.st.sub b u e
  · rw [off b (fun e => hp (by rw [← e]; exact hb))]; exact z
  · obtain ⟨z1, z2, u', z3, z4⟩ := h.st.own.has b u (List.mem_cons_of_mem _ hm)
    have hb : b ≠ a := fun e => nd.1 (List.mem_map.mpr ⟨(b, u), hm, e⟩)
    exact ⟨by rw [off b hb]; exact z1, z2, u', z3, MO.ok_mono s1 z4⟩
theorem to_freeze {a : Addr} {ks : List Know} {i : Nat} (hi : δ[i]? = some (some (valK (.ref a)))) (hn : B.H0 a = none) (h : To F B (δ.set i (some (listK ks))) μ n) : To F B δ ((a, .lst ks) :: μ) n := fun σ H ⟨G, z⟩ => by
  obtain ⟨h1, hp, o, ho, vs, e, r⟩ := z.st.own.has a _ List.mem_cons_self
  subst e
  have z2 := z.freeze ho hn
  obtain ⟨v, hv, e⟩ := z2.st.env.get hi
  have e : v = .ref a := e
  subst e
  have q := z2.setS i (v := .ref a) (k := listK ks) ⟨a, vs, rfl, upd_same, r.mono (same_new h1)⟩
  have hs : σ.set i (some (.ref a)) = σ := by
    apply List.ext_getElem?
    intro j
    by_cases hj : i = j
    · subst hj
      rw [List.getElem?_set_self (List.getElem?_eq_some_iff.mp hv).1, hv]
    · rw [List.getElem?_set_ne hj]
  rw [hs] at q
  exact h σ H ⟨_, q⟩
/-- what is said of a slot, said otherwise -/
theorem to_open {α : Type} {S : α → Know} {i : Nat} (hi : δ[i]? = some (some (exK S))) (h : ∀ x, To F B (δ.set i (some (S x))) μ n) : To F B δ μ n := fun σ H ⟨G, z⟩ => by
  obtain ⟨v, hv, x, p⟩ := z.st.env.get hi
  have q := z.setS i (v := v) (k := S x) p
  have hs : σ.set i (some v) = σ := by
    apply List.ext_getElem?
    intro j
    by_cases hj : i = j
    · subst hj
      rw [List.getElem?_set_self (List.getElem?_eq_some_iff.mp hv).1, hv]
    · rw [List.getElem?_set_ne hj]
  rw [hs] at q
  exact h x σ H ⟨_, q⟩

/-! ### changing one's own -/
theorem OwnK.put {a : Addr} {o : HO} (h : OwnK F G H μ) (i : Nat) (hi : μ[i]?.map (·.1) = some a) (ok : m.ok G o) : OwnK F G (upd H a o) (μ.set i (a, m)) := by
  have hk : (μ.set i (a, m)).map (·.1) = μ.map (·.1) := by
    apply List.ext_getElem?
    intro j
    rw [List.map_set]
    by_cases hj : i = j
    · subst hj
      have hl : i < (μ.map (·.1)).length := by
        cases e : μ[i]? with
        | none => rw [e] at hi; cases hi
        | some p => rw [List.length_map]; exact (List.getElem?_eq_some_iff.mp e).1
      rw [List.getElem?_set_self hl, List.getElem?_map, hi]
    · rw [List.getElem?_set_ne hj]
  refine ⟨by rw [hk]; exact h.nd, fun b u hm => ?_⟩
  have ha : ∃ u, (a, u) ∈ μ := by
    cases e : μ[i]? with
    | none => rw [e] at hi; cases hi
    | some p =>
      rw [e] at hi
      have e1 : p.1 = a := Option.some.inj hi
      exact ⟨p.2, by rw [← e1]; exact List.mem_of_getElem? e⟩
  obtain ⟨u0, hu0⟩ := ha
  obtain ⟨j, hj⟩ := List.getElem?_of_mem hm
  by_cases hij : i = j
  · subst hij
    obtain ⟨hl, _⟩ := List.getElem?_eq_some_iff.mp hj
    rw [List.length_set] at hl
    rw [List.getElem?_set_self hl] at hj
    cases hj
    obtain ⟨h1, h2, _⟩ := h.has a u0 hu0
    exact ⟨h1, h2, o, upd_same, ok⟩
  · rw [List.getElem?_set_ne hij] at hj
    obtain ⟨h1, h2, w, h3, h4⟩ := h.has b u (List.mem_of_getElem? hj)
    have hb : b ≠ a := fun e => by
      have k1 : (μ.map (·.1))[j]? = some a := by rw [List.getElem?_map, hj, ← e]; rfl
      have k2 : (μ.map (·.1))[i]? = some a := by rw [List.getElem?_map]; exact hi
      exact hij (nd_ix h.nd k2 k1)
    exact ⟨h1, h2, w, by rw [upd_ne hb]; exact h3, h4⟩
theorem AtG.put {a : Addr} {o : HO} (h : AtG F B δ μ σ G H) (i : Nat) (hi : μ[i]?.map (·.1) = some a) (ok : m.ok G o) : AtG F B δ (μ.set i (a, m)) σ G (upd H a o) := by
  have ha : ∃ u, (a, u) ∈ μ := by
    cases e : μ[i]? with
    | none => rw [e] at hi; cases hi
    | some p =>
      rw [e] at hi
      have e1 : p.1 = a := Option.some.inj hi
      exact ⟨p.2, by rw [← e1]; exact List.mem_of_getElem? e⟩
  obtain ⟨u0, hu0⟩ := ha
  obtain ⟨h1, h2, _⟩ := h.st.own.has a u0 hu0
  refine ⟨h.s0, h.gr.mut (h.ow a u0 hu0) h1, ⟨same_keep h.st.sub h1, F.loc h2 h.st.j, h.st.env, h.st.own.put i hi ok⟩, h.fp, fun b u hm => ?_⟩
  have : b ∈ (μ.set i (a, m)).map (·.1) := List.mem_map.mpr ⟨(b, u), hm, rfl⟩
  obtain ⟨j, hj⟩ := List.getElem?_of_mem hm
  by_cases hij : i = j
  · subst hij
    obtain ⟨hl, _⟩ := List.getElem?_eq_some_iff.mp hj
    rw [List.length_set] at hl
    rw [List.getElem?_set_self hl] at hj
    cases hj
    exact h.ow a u0 hu0
  · rw [List.getElem?_set_ne hij] at hj
    exact h.ow b u (List.mem_of_getElem? hj)
/-- xs.append(e) -/
theorem s_app {K : PySem.W.Frag} {to : TE} {a : Addr} {ks : List Know} (i : Nat) (hi : μ[i]? = some (a, .lst ks)) (hx : Ek F to δ μ (valK (.ref a))) (h : Ek F te δ μ k) (hl : ks.length < sizeLine)
    (q : To F B δ (μ.set i (a, .lst (ks ++ [k]))) D.nx) : Tr F B δ μ (tDrop (tBM K "list" rAppend to (tCons te tNil))) D := fun σ H ⟨G, z⟩ =>
  hx G H σ z.st _ fun x G1 H1 g1 j1 e => by
    have e : x = .ref a := e
    subst e
    have z1 := z.step g1 j1
    obtain ⟨_, _, o, ho, vs, e, r⟩ := z1.st.own.has a _ (List.mem_of_getElem? hi)
    subst e
    refine ⟨.inl ⟨rfl, vs, .inl (.inl ho)⟩, ?_⟩
    refine h G1 H1 σ z1.st _ fun y G2 H2 g2 j2 p2 => ?_
    have z2 := z1.step g2 j2
    obtain ⟨_, _, o, ho, vs, e, r⟩ := z2.st.own.has a _ (List.mem_of_getElem? hi)
    subst e
    refine ⟨a, vs, y, rfl, rfl, ho, by rw [r.length]; exact hl, ?_⟩
    exact q _ _ ⟨G2, z2.put i (by rw [hi]; rfl) ⟨_, rfl, r.snoc p2⟩⟩
theorem q_app {K : PySem.W.Frag} {to : TE} {a : Addr} {ks : List Know} {u : TS} (i : Nat) (hi : μ[i]? = some (a, .lst ks)) (hx : Ek F to δ μ (valK (.ref a))) (h : Ek F te δ μ k) (hl : ks.length < sizeLine)
    (q : Tr F B δ (μ.set i (a, .lst (ks ++ [k]))) u D) : Tr F B δ μ (tSeq (tDrop (tBM K "list" rAppend to (tCons te tNil))) u) D := s_app (D := { D with nx := u D }) i hi hx h hl q
/-- xs[i] = e -/
theorem s_setL {to ti : TE} {a : Addr} {ks : List Know} {z : Int} {j : Nat} (i : Nat) (hi : μ[i]? = some (a, .lst ks)) (h : Ek F te δ μ k) (hx : Ek F to δ μ (valK (.ref a))) (hz : Ek F ti δ μ (valK (.int z))) (hj : ixN ks.length z = some j)
    (q : To F B δ (μ.set i (a, .lst (ks.set j k))) D.nx) : Tr F B δ μ (tAsg te (gSub to ti rSetL)) D := fun σ H ⟨G, w⟩ =>
  h G H σ w.st _ fun y G1 H1 g1 j1 p1 => hx G1 H1 σ (w.step g1 j1).st _ fun x G2 H2 g2 j2 e2 => hz G2 H2 σ ((w.step g1 j1).step g2 j2).st _ fun v G3 H3 g3 j3 e3 => by
    have e2 : x = .ref a := e2
    have e3 : v = .int z := e3
    subst e2 e3
    have w3 := ((w.step g1 j1).step g2 j2).step g3 j3
    obtain ⟨_, _, o, ho, vs, e, r⟩ := w3.st.own.has a _ (List.mem_of_getElem? hi)
    subst e
    exact ⟨a, vs, z, j, rfl, rfl, ho, by rw [r.length]; exact hj, q _ _ ⟨G3, w3.put i (by rw [hi]; rfl) ⟨_, rfl, AllK.set (k.mono (g2.gg.trans g3.gg) p1) j r⟩⟩⟩
theorem q_setL {to ti : TE} {a : Addr} {ks : List Know} {z : Int} {j : Nat} {u : TS} (i : Nat) (hi : μ[i]? = some (a, .lst ks)) (h : Ek F te δ μ k) (hx : Ek F to δ μ (valK (.ref a))) (hz : Ek F ti δ μ (valK (.int z))) (hj : ixN ks.length z = some j)
    (q : Tr F B δ (μ.set i (a, .lst (ks.set j k))) u D) : Tr F B δ μ (tSeq (tAsg te (gSub to ti rSetL)) u) D := s_setL (D := { D with nx := u D }) i hi h hx hz hj q
/-- x op= e of ints -/
theorem s_aug {f : Int → Int → Int} {i : Nat} {a b : Int} (hx : δ[i]? = some (some (valK (.int a)))) (h : Ek F te δ μ (valK (.int b))) (q : To F B (δ.set i (some (valK (.int (f a b))))) μ D.nx) : Tr F B δ μ (tAug i te (ipI f)) D := fun σ H ⟨G, z⟩ => by
  obtain ⟨v, hv, e⟩ := z.st.env.get hx
  have e : v = .int a := e
  subst e
  refine ⟨.int a, hv, h G H σ z.st _ fun y G1 H1 g1 j1 e1 => ?_⟩
  have e1 : y = .int b := e1
  subst e1
  exact ⟨a, b, rfl, rfl, q _ _ ⟨G1, (z.step g1 j1).setS i rfl⟩⟩
theorem q_aug {f : Int → Int → Int} {i : Nat} {a b : Int} {u : TS} (hx : δ[i]? = some (some (valK (.int a)))) (h : Ek F te δ μ (valK (.int b))) (q : Tr F B (δ.set i (some (valK (.int (f a b))))) μ u D) : Tr F B δ μ (tSeq (tAug i te (ipI f)) u) D := s_aug (D := { D with nx := u D }) hx h q

/-! ### return, if -/
theorem s_ret (hR : Rt F B post D.rt) (h : Ek F te δ μ k) (hp : ∀ v G H, k.p v G → post v G H) : Tr F B δ μ (tRet te) D := fun σ H ⟨G, z⟩ =>
  h G H σ z.st _ fun v G1 H1 g1 j1 p => hR v G1 H1 (z.step g1 j1).gr j1 (hp v G1 H1 p)
/-- a new object is handed back -/
theorem s_retN (hR : Rt F B post D.rt) (h : EN F te δ μ m) (hp : ∀ a o G H, B.H0 a = none → G a = none → a ∉ F.P → H a = some o → m.ok G o → post (.ref a) G H) : Tr F B δ μ (tRet te) D := fun σ H ⟨G, z⟩ =>
  h G H σ z.st _ fun a o G1 H1 h1 h2 hp' h3 h4 g1 j1 => hR _ G1 H1 (z.step g1 j1).gr j1 (hp a o G1 H1 (back_none z.gr h1) h2 hp' h3 h4)
/-- one's own is handed back -/
theorem s_retO {a : Addr} (hR : Rt F B post D.rt) (h : Ek F te δ μ (valK (.ref a))) (hm : (a, m) ∈ μ) (hp : ∀ o G H, G a = none → a ∉ F.P → H a = some o → m.ok G o → post (.ref a) G H) : Tr F B δ μ (tRet te) D := fun σ H ⟨G, z⟩ =>
  h G H σ z.st _ fun v G1 H1 g1 j1 e => by
    have e : v = .ref a := e
    subst e
    obtain ⟨h1, h2, o, h3, h4⟩ := (z.step g1 j1).st.own.has a m hm
    exact hR _ G1 H1 (z.step g1 j1).gr j1 (hp o G1 H1 h1 h2 h3 h4)
theorem s_if {P : Bool → Prop} {c : TT} {t u : TS} (h : ETk F c δ μ P) (h1 : P true → Tr F B δ μ t D) (h2 : P false → Tr F B δ μ u D) : Tr F B δ μ (tIfS c t u) D := fun σ H ⟨G, z⟩ =>
  h G H σ z.st _ fun b G1 H1 g1 j1 p => by
    cases b with
    | true => exact iteT (h1 p σ H1 ⟨G1, z.step g1 j1⟩)
    | false => exact iteF (h2 p σ H1 ⟨G1, z.step g1 j1⟩)
theorem q_if {P : Bool → Prop} {c : TT} {t u w : TS} (h : ETk F c δ μ P) (h1 : P true → Tr F B δ μ t { D with nx := w D }) (h2 : P false → Tr F B δ μ u { D with nx := w D }) : Tr F B δ μ (tSeq (tIfS c t u) w) D := s_if (D := { D with nx := w D }) h h1 h2
theorem s_next (q : To F B δ μ D.nx) : Tr F B δ μ tNext D := q

/-! ### loops -/
/-- a target takes what is known as k -/
def Gk (g : TG) (k : Know) (δ δ' : Env) : Prop := ∀ G H σ v, Same G H → k.p v G → EnvK G δ σ → ∀ Q : St → Hp → Prop, (∀ σ', EnvK G δ' σ' → Q σ' H) → g v σ H Q
theorem gk_name {i : Nat} : Gk (gName i) k δ (δ.set i (some k)) := fun G H σ v _ p e Q q => q _ (e.set p i)
theorem gk_pair {K : PySem.W.Frag} {i j : Nat} {k1 k2 : Know} : Gk (gTup K 2 (gCons (gName i) (gCons (gName j) gNil))) (tupK K [k1, k2]) δ ((δ.set i (some k1)).set j (some k2)) := fun G H σ v s ⟨a, vs, e, h, r⟩ en Q q => by
  subst e
  obtain ⟨x, y, rfl, p1, p2⟩ := allK2 r
  exact ⟨a, _, rfl, seqT_mono s h, rfl, x, _, rfl, y, _, rfl, rfl, q _ ((en.set p1 i).set p2 j)⟩
/-- what is walked: n turns, the i-th gives kn i -/
def EI (F : Fx) (wi : TI) (δ : Env) (μ : Mu) (n : Nat) (kn : Nat → Know) : Prop :=
  ∀ G H σ, Stt F G H δ μ σ → ∀ R : It → Hp → Prop, (∀ J G' H' Gd Y, Gr F.P G H G' H' → F.J G' H' → Walk J n Gd Y → (∀ H2, Same G' H2 → Gd H2) →
    (∀ i H2 x H3 G2, i < n → Same G' G2 → Same G2 H2 → Y i H2 x H3 → ∃ G3, Gr [] G2 H2 G3 H3 ∧ (kn i).p x G3) → R J H') → wi σ H R
theorem ei_list {K : PySem.W.Frag} {ks : List Know} (h : Ek F te δ μ (listK ks)) : EI F (iList K te) δ μ ks.length (fun i => (ks[i]?).getD k) := fun G H σ st R q =>
  h G H σ st _ fun x G1 H1 g1 j1 p => by
    obtain ⟨a, vs, rfl, ha, r⟩ := p
    refine ⟨a, rfl, ⟨vs, .inl (.inl (g1.gh _ _ ha))⟩, ?_⟩
    rw [← r.length] at q
    refine q _ G1 H1 (fun H => SqL K H a vs) (YAt vs) g1 j1 walk_list (fun H2 s => .inl (.inl (s _ _ ha))) fun i H2 x H3 G2 hi s1 s2 y => ?_
    obtain ⟨e, hx⟩ := y
    subst e
    obtain ⟨k', hk, pk⟩ := r.getV hx
    exact ⟨G2, .refl s2, by show ((ks[i]?).getD k).p x G2; rw [hk]; exact k'.mono s1 pk⟩
theorem ei_seq {K : PySem.W.Frag} {ks : List Know} (h : Ek F te δ μ (seqK K ks)) : EI F (iList K te) δ μ ks.length (fun i => (ks[i]?).getD k) := fun G H σ st R q =>
  h G H σ st _ fun x G1 H1 g1 j1 p => by
    obtain ⟨a, vs, rfl, ha, r⟩ := p
    refine ⟨a, rfl, ⟨vs, g1.gh.seq ha⟩, ?_⟩
    rw [← r.length] at q
    refine q _ G1 H1 (fun H => SqL K H a vs) (YAt vs) g1 j1 walk_list (fun H2 s => s.seq ha) fun i H2 x H3 G2 hi s1 s2 y => ?_
    obtain ⟨e, hx⟩ := y
    subst e
    obtain ⟨k', hk, pk⟩ := r.getV hx
    exact ⟨G2, .refl s2, by show ((ks[i]?).getD k).p x G2; rw [hk]; exact k'.mono s1 pk⟩
theorem ei_tup {K : PySem.W.Frag} {ks : List Know} (h : Ek F te δ μ (tupK K ks)) : EI F (iTup K te) δ μ ks.length (fun i => (ks[i]?).getD k) := fun G H σ st R q =>
  h G H σ st _ fun x G1 H1 g1 j1 p => by
    obtain ⟨a, vs, rfl, ha, r⟩ := p
    refine ⟨a, rfl, ⟨vs, seqT_mono g1.gh ha⟩, ?_⟩
    rw [← r.length] at q
    refine q _ G1 H1 (fun H => SqT K H a vs) (YAt vs) g1 j1 walk_tup (fun H2 s => seqT_mono s ha) fun i H2 x H3 G2 hi s1 s2 y => ?_
    obtain ⟨e, hx⟩ := y
    subst e
    obtain ⟨k', hk, pk⟩ := r.getV hx
    exact ⟨G2, .refl s2, by show ((ks[i]?).getD k).p x G2; rw [hk]; exact k'.mono s1 pk⟩
theorem ei_rng1 {ta : TA} {n : Int} (h : EAk F ta δ μ [valK (.int n)]) (hn : n < 2 ^ 62) (h0 : -(2 ^ 62) ≤ n) : EI F (iRng1 ta) δ μ n.toNat (fun i => valK (.int (i : Int))) := fun G H σ st R q =>
  h G H σ st _ fun vs G1 H1 g1 j1 p => by
    obtain ⟨v, rfl, e⟩ := allK1 p
    have e : v = .int n := e
    subst e
    refine ⟨n, rfl, h0, hn, ?_⟩
    refine q _ G1 H1 (fun _ => True) (YFn fun i => .int (0 + (i : Int))) g1 j1 walk_range (fun _ _ => trivial) fun i H2 x H3 G2 hi s1 s2 y => ?_
    obtain ⟨e, hx⟩ := y
    subst e
    exact ⟨G2, .refl s2, by rw [hx]; show V.int (0 + (i : Int)) = V.int (i : Int); rw [Int.zero_add]⟩
theorem ei_rng2 {ta : TA} {a n : Int} (h : EAk F ta δ μ [valK (.int a), valK (.int n)]) (hn : n < 2 ^ 62) (h0 : -(2 ^ 62) ≤ n) (ha : a < 2 ^ 62) (ha0 : -(2 ^ 62) ≤ a) : EI F (iRng2 ta) δ μ (n - a).toNat (fun i => valK (.int (a + (i : Int)))) := fun G H σ st R q =>
  h G H σ st _ fun vs G1 H1 g1 j1 p => by
    obtain ⟨v, u, rfl, e, e'⟩ := allK2 p
    have e : v = .int a := e
    have e' : u = .int n := e'
    subst e e'
    refine ⟨a, n, rfl, ⟨ha0, ha, h0, hn⟩, ?_⟩
    refine q _ G1 H1 (fun _ => True) (YFn fun i => .int (a + (i : Int))) g1 j1 walk_range (fun _ _ => trivial) fun i H2 x H3 G2 hi s1 s2 y => ?_
    obtain ⟨e, hx⟩ := y
    subst e
    exact ⟨G2, .refl s2, by rw [hx]; rfl⟩
/-- enumerate(xs) -/
theorem ei_enum {K : PySem.W.Frag} {wi : TE → TI} {ks : List Know} (hw : wi te = fun σ H R => te σ H fun x H1 => ∃ a xs, x = .ref a ∧ SqL K H1 a xs ∧ R (Ite K a) H1) (h : Ek F te δ μ (listK ks)) : EI F (wi te) δ μ ks.length (fun i => tupK K [valK (.int (i : Int)), (ks[i]?).getD k]) := by
  rw [hw]
  refine fun G H σ st R q => h G H σ st _ fun x G1 H1 g1 j1 p => ?_
  obtain ⟨a, vs, rfl, ha, r⟩ := p
  refine ⟨a, vs, rfl, .inl (.inl (g1.gh _ _ ha)), ?_⟩
  rw [← r.length] at q
  refine q _ G1 H1 (fun H => SqL K H a vs) (YPair (fun i => some (.int (i : Nat))) (fun i => vs[i]?)) g1 j1 walk_enum (fun H2 s => .inl (.inl (s _ _ ha))) fun i H2 x H3 G2 hi s1 s2 y => ?_
  obtain ⟨T, u, w, rfl, hT, rfl, e1, e2⟩ := y
  cases e1
  obtain ⟨k', hk, pk⟩ := r.getV e2
  refine ⟨upd G2 T (.tup [.int (i : Nat), w]), Gr.new s2 hT, T, [.int (i : Nat), w], rfl, .inl (.inl upd_same), .cons rfl (.cons ?_ .nil)⟩
  rw [hk]
  exact k'.mono (s1.trans (same_new (none_sub s2 hT))) pk

/-- the base moved to where one stands -/
def Bs.at_ (B : Bs) (F : Fx) (μ : Mu) (G H : Hp) : Bs := ⟨F.P ++ μ.map (·.1), G, H⟩
theorem AtG.rebase (h : AtG F B δ μ σ G H) : AtG F (B.at_ F μ G H) δ μ σ G H ∧ BLe B (B.at_ F μ G H) := by
  have mn : ∀ a, a ∈ F.P ++ μ.map (·.1) → B.mine a := fun a ha => by
    rcases List.mem_append.mp ha with ha | ha
    · exact h.fp a ha
    · obtain ⟨p, hp, e⟩ := List.mem_map.mp ha
      exact e ▸ h.ow p.1 p.2 hp
  refine ⟨⟨h.st.sub, .refl h.st.sub, h.st, fun a ha => .inl (List.mem_append_left _ ha), fun a m hm => .inl (List.mem_append_right _ (List.mem_map.mpr ⟨(a, m), hm, rfl⟩))⟩, fun G2 H2 g => h.gr.trans' g mn, fun a ha => ?_, h.s0⟩
  rcases ha with ha | ha
  · exact mn a ha
  · exact .inr (back_none h.gr ha)
/-- a for: what holds ahead of the i-th turn is I i b, for some b -/
theorem s_for {wi : TI} {g : TG} {tb : TS} {n : Nat} {kn : Nat → Know} {β : Type} (I : Nat → β → Env × Mu) (hs : EI F wi δ μ n kn) (b0 : β)
    (h0 : ∀ B' : Bs, BLe B B' → ∀ σ H, At F B' δ μ σ H → At F B' (I 0 b0).1 (I 0 b0).2 σ H)
    (ht : ∀ B' : Bs, BLe B B' → ∀ i b, i < n → ∃ δ', Gk g (kn i) (I i b).1 δ' ∧
      ∀ N : St → Hp → Prop, (∀ b', To F B' (I (i + 1) b').1 (I (i + 1) b').2 N) → Tr F B' δ' (I i b).2 tb { D with nx := N, ct := N, bk := D.nx })
    (hd : ∀ b, To F B (I n b).1 (I n b).2 D.nx) : Tr F B δ μ (tFor wi g tb) D := fun σ H ⟨G, z⟩ =>
  hs G H σ z.st _ fun J G1 H1 Gd Y g1 j1 W hGd hY => by
    obtain ⟨z1, l⟩ := (z.step g1 j1).rebase
    refine for_it W (fun i σ H => ∃ b, At F (B.at_ F μ G1 H1) (I i b).1 (I i b).2 σ H) ⟨b0, h0 _ l _ _ ⟨G1, z1⟩⟩ (fun i σ H _ ⟨b, G2, z2⟩ => hGd H (z2.gr.gg.trans z2.st.sub)) ?_ (fun σ H ⟨b, z2⟩ => hd b σ H (z2.up l))
    rintro i x σ H H' hi ⟨b, G2, z2⟩ y
    obtain ⟨G3, g3, p⟩ := hY i H x H' G2 hi z2.gr.gg z2.st.sub y
    have z3 := z2.step (g3.wide fun _ h => nomatch h) (F.pure g3 z2.st.j)
    obtain ⟨δ', hg, hb⟩ := ht _ l i b hi
    exact hg G3 H' σ x z3.st.sub p z3.st.env _ fun σ' e' => hb _ (fun b' σ'' H'' z' => ⟨b', z'⟩) σ' H' ⟨G3, z3.s0, z3.gr, ⟨z3.st.sub, z3.st.j, e', z3.st.own⟩, z3.fp, z3.ow⟩
theorem s_while {c : TT} {tb : TS} {β : Type} (I : β → Env × Mu) (w : β → Nat) (b0 : β) (h0 : ∀ σ H, At F B δ μ σ H → At F B (I b0).1 (I b0).2 σ H)
    (ht : ∀ b, ∃ P : Bool → Prop, ETk F c (I b).1 (I b).2 P ∧ (P true → ∀ N : St → Hp → Prop, (∀ b', w b' < w b → To F B (I b').1 (I b').2 N) → Tr F B (I b).1 (I b).2 tb { D with nx := N, ct := N, bk := D.nx }) ∧ (P false → To F B (I b).1 (I b).2 D.nx)) : Tr F B δ μ (tWhile c tb) D := fun σ H z => by
  refine ⟨fun m σ H => ∃ b, w b = m ∧ At F B (I b).1 (I b).2 σ H, ⟨_, b0, rfl, h0 σ H z⟩, ?_⟩
  rintro m σ H ⟨b, rfl, G1, z1⟩
  obtain ⟨P, hc, hT, hF⟩ := ht b
  refine hc G1 H σ z1.st _ fun d G2 H2 g2 j2 p => ?_
  cases d with
  | true => exact iteT ⟨fun σ H => ∃ b', w b' < w b ∧ At F B (I b').1 (I b').2 σ H, fun σ' H' ⟨b', h1, h2⟩ => ⟨w b', h1, b', rfl, h2⟩, hT p _ (fun b' hb' σ' H' q => ⟨b', hb', q⟩) σ H2 ⟨G2, z1.step g2 j2⟩⟩
  | false => exact iteF (hF p σ H2 ⟨G2, z1.step g2 j2⟩)

/-! ### comprehensions -/
theorem wipe_one {σ : St} {j : Nat} {x : Option V} : L2.wipe ((L2.wipe σ [j]).set j x) [j] = L2.wipe σ [j] := by
  show ((σ.set j none).set j x).set j none = σ.set j none
  rw [List.set_set, List.set_set]
theorem wipe_two {σ : St} {i j : Nat} {x y : Option V} : L2.wipe (((L2.wipe σ [i, j]).set i x).set j y) [i, j] = L2.wipe σ [i, j] := by
  show (((((σ.set j none).set i none).set i x).set j y).set j none).set i none = (σ.set j none).set i none
  by_cases h : i = j
  · subst h; simp [List.set_set]
  · rw [List.set_set, List.set_set, List.set_comm _ _ h, List.set_set (l := σ), List.set_set]
/-- a target that wipes clean -/
def Gw (g : TG) (vs : List Nat) : Prop := ∀ σ v H (Q : St → Hp → Prop), g v (L2.wipe σ vs) H Q → g v (L2.wipe σ vs) H fun σ2 H2 => L2.wipe σ2 vs = L2.wipe σ vs ∧ Q σ2 H2
theorem gw_name {j : Nat} : Gw (gName j) [j] := fun σ v H Q q => ⟨wipe_one, q⟩
theorem gw_pair {K : PySem.W.Frag} {i j : Nat} : Gw (gTup K 2 (gCons (gName i) (gCons (gName j) gNil))) [i, j] := fun σ v H Q ⟨a, xs, e1, e2, e3, x, r, e4, y, r', e5, e6, q⟩ => ⟨a, xs, e1, e2, e3, x, r, e4, y, r', e5, e6, wipe_two, q⟩
/-- how many of the first turns are kept, and what they give -/
def outs (keep : Nat → Bool) (out : Nat → Know) (n : Nat) : List Know := ((List.range n).filter keep).map out
theorem outs_len (keep : Nat → Bool) (out : Nat → Know) (n : Nat) : (outs keep out n).length ≤ n := by
  unfold outs
  rw [List.length_map]
  have := List.length_filter_le keep (List.range n)
  rw [List.length_range] at this
  exact this
theorem outs_yes {keep : Nat → Bool} {out : Nat → Know} {n : Nat} (h : keep n = true) : outs keep out (n + 1) = outs keep out n ++ [out n] := by
  unfold outs
  rw [List.range_succ, List.filter_append, List.map_append, List.filter_cons, if_pos h]
  rfl
theorem outs_no {keep : Nat → Bool} {out : Nat → Know} {n : Nat} (h : keep n = false) : outs keep out (n + 1) = outs keep out n := by
  unfold outs
  rw [List.range_succ, List.filter_append, List.map_append, List.filter_cons, if_neg (by rw [h]; decide)]
  show _ ++ [] = _
  rw [List.append_nil]
theorem outs_all {out : Nat → Know} {n : Nat} : outs (fun _ => true) out n = (List.range n).map out := by
  unfold outs
  rw [List.filter_eq_self.mpr (fun _ _ => rfl)]
theorem en_lc {wi : TI} {g : TG} {tt : TT} {vs : List Nat} {n : Nat} {kn : Nat → Know} (keep : Nat → Bool) (out : Nat → Know) (hs : EI F wi δ μ n kn) (hn : n ≤ sizeLine) (hw : Gw g vs)
    (he : ∀ i, i < n → ∃ δ', Gk g (kn i) (wipeE δ vs) δ' ∧ ETk F tt δ' μ (· = keep i) ∧ (keep i = true → Ek F te δ' μ (out i))) : EN F (tLc wi g tt te vs) δ μ (.lst (outs keep out n)) := fun G H σ st Q q =>
  hs G H σ st _ fun J G1 H1 Gd Y g1 j1 W hGd hY L hL => by
    have st1 := st.step g1 j1
    have nL : L ∉ F.P := F.offP j1 hL
    refine lc_it W (fun i H2 => ∃ G2 acc, Gr F.P G1 H1 G2 H2 ∧ F.J G2 H2 ∧ H2 L = some (.lst acc) ∧ G2 L = none ∧ AllK G2 acc (outs keep out i)) ?_ (fun i H2 _ ⟨G2, acc, g2, _⟩ => hGd H2 (g2.gg.trans g2.gh)) ?_ ?_
    · exact ⟨G1, [], Gr.own g1.gh hL, F.loc nL j1, upd_same, none_sub g1.gh hL, .nil⟩
    · rintro i x H2 H3 hi ⟨G2, acc, g2, j2, hA, hG, r⟩ y
      obtain ⟨G3, g3, p⟩ := hY i H2 x H3 G2 hi g2.gg g2.gh y
      have j3 := F.pure g3 j2
      have g3' : Gr F.P G2 H2 G3 H3 := g3.wide fun _ h => nomatch h
      have st3 := (st1.step g2 j2).step g3' j3
      obtain ⟨δ', hg, ht, hx⟩ := he i hi
      refine hw _ _ _ _ (hg G3 H3 _ x g3.gh p (st3.env.wipe vs) _ fun σ' e' => ?_)
      have st4 : Stt F G3 H3 δ' μ σ' := ⟨st3.sub, st3.j, e', st3.own⟩
      refine ht G3 H3 σ' st4 _ fun b G4 H4 g4 j4 eb => ?_
      have hA4 : H4 L = some (.lst acc) := g4.hh L _ nL (g3'.hh L _ nL hA)
      have hG4 : G4 L = none := g4.fr L (nn_of (g3'.hh L _ nL hA)) (g3'.fr L (nn_of hA) hG)
      have r4 : AllK G4 acc (outs keep out i) := r.mono (g3.gg.trans g4.gg)
      cases b with
      | true =>
        refine iteT (hx eb.symm G4 H4 σ' (st4.step g4 j4) _ fun y G5 H5 g5 j5 p5 => ?_)
        have hA5 : H5 L = some (.lst acc) := g5.hh L _ nL hA4
        have hG5 : G5 L = none := g5.fr L (nn_of hA4) hG4
        refine ⟨acc, hA5, ?_, G5, acc ++ [y], ?_, F.loc nL j5, upd_same, hG5, ?_⟩
        · rw [r4.length]
          have := outs_len keep out i
          omega
        · exact (((g2.trans g3').trans g4).trans g5).mut (.inr hL) hG5
        · rw [outs_yes eb.symm]
          exact (r4.mono g5.gg).snoc p5
      | false =>
        refine iteF ⟨G4, acc, (g2.trans g3').trans g4, j4, hA4, hG4, ?_⟩
        rw [outs_no eb.symm]
        exact r4
    · rintro H2 ⟨G2, acc, g2, j2, hA, hG, r⟩
      exact q L _ G2 H2 (back_none g1 hL) hG nL hA ⟨acc, rfl, r⟩ (g1.trans g2) j2
theorem et_yes : ETk F tYes δ μ (· = true) := fun G H σ st Q q => q true G H (.refl st.sub) st.j rfl
end

/-! ### defs -/
def spF {ι : Type} (FX : ι → Fx) (ks : ι → List Know) (post : ι → Hp → V → Hp → Hp → Prop) : Sp := fun vs H Q _ =>
  ∃ x G, Same G H ∧ (FX x).J G H ∧ AllK G vs (ks x) ∧ ∀ v G' H', Gr (FX x).P G H G' H' → (FX x).J G' H' → post x H v G' H' → Q v H'
/-- the value is known as k; a new object is handed back -/
def pK (k : Know) : Hp → V → Hp → Hp → Prop := fun _ v G' _ => k.p v G'
def pN (m : MO) : Hp → V → Hp → Hp → Prop := fun H v G' H' => ∃ a o, v = .ref a ∧ H a = none ∧ G' a = none ∧ H' a = some o ∧ m.ok G' o
section
variable {F : Fx} {δ : Env} {μ : Mu} {t : TA} {k : Know} {m : MO} {ι : Type} {FX : ι → Fx} {ks : ι → List Know} {post : ι → Hp → V → Hp → Hp → Prop} {E : XK}
/-- a def that draws nothing -/
theorem ek_call (x : ι) (hF : FX x = F0) (ha : EAk F t δ μ (ks x)) (hp : ∀ H v G' H', post x H v G' H' → k.p v G') : Ek F (tCall (spF FX ks post) [] E t) δ μ k := fun G H σ st Q q =>
  ha G H σ st _ fun vs G1 H1 g1 j1 p1 => by
    refine ⟨x, G1, g1.gh, by rw [hF]; trivial, by rw [List.append_nil]; exact p1, fun v G2 H2 g2 _ p2 => ?_⟩
    rw [hF] at g2
    have g2' : Gr [] G1 H1 G2 H2 := g2
    exact q v G2 H2 (g1.trans (g2'.wide fun _ h => nomatch h)) (F.pure g2' j1) (hp _ _ _ _ p2)
theorem en_call (x : ι) (hF : FX x = F0) (ha : EAk F t δ μ (ks x)) (hp : ∀ H v G' H', post x H v G' H' → pN m H v G' H') : EN F (tCall (spF FX ks post) [] E t) δ μ m := fun G H σ st Q q =>
  ha G H σ st _ fun vs G1 H1 g1 j1 p1 => by
    refine ⟨x, G1, g1.gh, by rw [hF]; trivial, by rw [List.append_nil]; exact p1, fun v G2 H2 g2 _ p2 => ?_⟩
    rw [hF] at g2
    have g2' : Gr [] G1 H1 G2 H2 := g2
    obtain ⟨a, o, rfl, h1, h2, h3, h4⟩ := hp _ _ _ _ p2
    exact q a o G2 H2 (back_none g1 h1) h2 (F.offP j1 h1) h3 h4 (g1.trans (g2'.wide fun _ h => nomatch h)) (F.pure g2' j1)
/-- one that draws from the same pool -/
theorem ek_callF (x : ι) (hF : FX x = F) (ha : EAk F t δ μ (ks x)) (hp : ∀ H v G' H', post x H v G' H' → k.p v G') : Ek F (tCall (spF FX ks post) [] E t) δ μ k := fun G H σ st Q q =>
  ha G H σ st _ fun vs G1 H1 g1 j1 p1 => by
    subst hF
    exact ⟨x, G1, g1.gh, j1, by rw [List.append_nil]; exact p1, fun v G2 H2 g2 j2 p2 => q v G2 H2 (g1.trans g2) j2 (hp _ _ _ _ p2)⟩
theorem en_callF (x : ι) (hF : FX x = F) (ha : EAk F t δ μ (ks x)) (hp : ∀ H v G' H', post x H v G' H' → pN m H v G' H') : EN F (tCall (spF FX ks post) [] E t) δ μ m := fun G H σ st Q q =>
  ha G H σ st _ fun vs G1 H1 g1 j1 p1 => by
    subst hF
    refine ⟨x, G1, g1.gh, j1, by rw [List.append_nil]; exact p1, fun v G2 H2 g2 j2 p2 => ?_⟩
    obtain ⟨a, o, rfl, h1, h2, h3, h4⟩ := hp _ _ _ _ p2
    exact q a o G2 H2 (back_none g1 h1) h2 (Fx.offP _ j1 h1) h3 h4 (g1.trans g2) j2
end
/-- a def of the text, where it stands -/
structure FnAt (K : PySem.W.Frag) (mg : Str → Option Value) (x : Str) (st : Stmt) (ps : List Str) (f : Addr) (fd : FuncData) : Prop where
  F : Fun K x x st f fd
  b : Binds K fd ps []
  g : mg x = some (.ref f)
def env0 (ks : List Know) (n : Nat) : Env := ks.map some ++ List.replicate n none
theorem envK_none {G : Hp} : ∀ (n : Nat), EnvK G (List.replicate n none) (List.replicate n none)
  | 0 => trivial
  | n + 1 => ⟨fun _ e => (nomatch e), envK_none n⟩
theorem envK_start {G : Hp} (n : Nat) : ∀ {vs : List V} {ks : List Know}, AllK G vs ks → EnvK G (ks.map some ++ List.replicate n none) (vs.map some ++ List.replicate n none)
  | _, _, .nil => envK_none n
  | _, _, .cons (a := v) (b := k) a b => ⟨fun k' e => by
      have e' : k = k' := Option.some.inj e
      subst e'
      exact ⟨v, rfl, a⟩, envK_start n b⟩
section
variable {P : Program} {w : World} {K : PySem.W.Frag} {mg : Str → Option Value} {base : Heap}
/-- a def keeps its promise: its body's term t, and what t says -/
theorem ok_fn {ι : Type} {FX : ι → Fx} {ks : ι → List Know} {post : ι → Hp → V → Hp → Hp → Prop} {x qual : Str} {st : Stmt} {f : Addr} {fd : FuncData} {N ps : List Str} {j : Nat} {t : TS}
    (F : Fun K x qual st f fd) (S : FnScope N ps (defScope st)) (hks : ∀ x, (ks x).length = ps.length)
    (hd : ∀ (cdv : Value) (A : Around) (outer : List PySem.Env) (s : Shared) (H : Hp) (E : XK), Room j (A.deeper (PyProof.Rows.envOfC qual (defScope st) s.heap.objs.size f cdv)) → PSs (cxOf CX0 P w K mg base N qual (defScope st) f cdv A outer s H E).nox (defBody st) t)
    (hb : ∀ (x : ι) (G0 H0 : Hp) (Q : VK), Rt (FX x) ⟨(FX x).P, G0, H0⟩ (post x H0) Q → Tr (FX x) ⟨(FX x).P, G0, H0⟩ (env0 (ks x) (N.length - ps.length)) [] t { nx := fun _ H' => Q .non H', rt := Q }) :
    FnOk P w K mg base CX0 (j + 1) f fd ps (spF FX ks post) := by
  refine F.ok S (fun vs H Q E h => ?_) (fun cdv A outer s H vs Q E hr h => ?_)
  · obtain ⟨x, G, _, _, r, _⟩ := h
    rw [r.length, hks]
  · obtain ⟨x, G, s0, j0, r, q⟩ := h
    refine ⟨t, hd cdv A outer s H E hr, hb x G H Q (fun v G' H' g j' p => q v G' H' g j' p) _ _ ⟨G, s0, .refl s0, ⟨s0, j0, ?_, OwnK.nil⟩, fun a ha => .inl ha, fun _ _ h => nomatch h⟩⟩
    unfold L2.start env0
    rw [show N.length - vs.length = N.length - ps.length by rw [r.length, hks]]
    exact envK_start _ r
end
end Dl
end
section
set_option maxRecDepth 100000
set_option maxHeartbeats 2000000
namespace Dl
open PySem PySem.Spec L2

/-! ### more rules by values, under names of my own -/
def rAddStr : R2 := fun x y H Q => ∃ i j, x = .str i ∧ y = .str j ∧ i.length + j.length ≤ sizeLine ∧ Q (.str (i ++ j)) H
def rIsNon : R2 := fun x y H Q => y = .non ∧ Q (.bl (decide (x = .non))) H
def rNotNon : R2 := fun x y H Q => y = .non ∧ Q (.bl (!decide (x = .non))) H
def rLenV (K : PySem.W.Frag) : List V → Hp → VK → Prop := fun xs H Q => ∃ x n, xs = [x] ∧ LenV K x H n ∧ Q (.int (n : Nat)) H
def rJoinQ (K : PySem.W.Frag) : V → List V → Hp → VK → Prop := fun x xs H Q => ∃ a p, ∃ ys : List Str, x = .str a ∧ xs = [.ref p] ∧ (SqL K H p (ys.map V.str) ∨ SqT K H p (ys.map V.str)) ∧
    (ys.map (·.length)).sum + ys.length * a.length ≤ 16777216 ∧ Q (.str (Txt.join a ys)) H
def tJoined (ts : List TE) : TE := fun σ H Q => tJs ts Str.empty σ H fun out H1 => Q (.str out) H1
section
variable {X : Cx}
theorem ox_addS : OpR X (binaryOp .Add) rAddStr := op_add_str
theorem ox_isN : OpR X (compareOp .Is) rIsNon := op_isN
theorem ox_notN : OpR X (compareOp .IsNot) rNotNon := op_notN
theorem cx_lenV : CallR X (.builtin "len") (rLenV X.K) := call_len
theorem mx_join : MtR X "str.join" (rJoinQ X.K) := mt_join
theorem pj_nil : PJ X [] [] := .nil
theorem pj_cons {e : Expr} {t : TE} {es : List Expr} {ts : List TE} (h : PE X e t) (r : PJ X es ts) : PJ X (e :: es) (t :: ts) := .cons h r
theorem pe_joinedT {v1 v2 : Expr} {rest : List Expr} {ts : List TE} {pos : Pos} (h : PJ X (v1 :: v2 :: rest) ts) : PE X (.JoinedStr (v1 :: v2 :: rest) pos) (tJoined ts) := pe_joined h
/-- xs.count(x), data of any depth -/
def rCountD (K : PySem.W.Frag) : V → List V → Hp → VK → Prop := fun x xs H Q => ∃ (a : Addr) (y : V) (d : PyData) (ds : List PyData), x = V.ref a ∧ xs = [y] ∧ Dp K H (V.ref a) (.list ds) ∧ Dp K H y d ∧
  SeqAt.shaped (.list ds) = true ∧ SeqAt.shaped d = true ∧ Q (.int ((ds.countP fun z => PyData.eqv z d : Nat) : Int)) H
theorem mx_count (hu : X.A.units + 64 < cLine) (hu2 : X.A.units + 65 < cLine := by assumption) : MtR X "list.count" (rCountD X.K) := by
  intro pins s σ H x xs v us Q I rx rxs h
  obtain ⟨a, y, d, ds, rfl, rfl, hl, hy, sl, sd, q⟩ := h
  cases rx
  cases rxs with
  | cons ry rt =>
    rename_i w1 w2
    cases rt
    obtain ⟨bs, r1⟩ := Dp.reads I d y w1 hy ry
    have lay : PyData.canLayAll0 ds = true := SeqAt.canLay_of_shaped sl
    have room : X.A.units + 1 + min (PyData.depthAll ds) d.depth < cLine := PyProof.Rows.room_in_shaped sd hu2
    cases hl with
    | lst hs ha =>
      obtain ⟨its, rv, ⟨⟨cls, dd, data, sls⟩, n, ho, hc, hdn, hdt⟩, hlen⟩ := I.list hs
      simp only at hc hdt
      subst hc hdt
      obtain ⟨as, h4⟩ := Dp.readsAll I ds _ its ha rv
      have em : its.map (SeqAt.readOf s.heap) = ds := SeqAt.readsAll_map ds its as lay h4
      have hq := SeqAt.items_eqAt (vs := its.toArray) (show ReadsAll s.heap its.toArray.toList ds as from h4) r1 lay (SeqAt.canLay_of_shaped sd) room
      have ec : its.toArray.toList.countP (fun u => PyData.eqv (SeqAt.readOf s.heap u) d) = ds.countP fun z => PyData.eqv z d := by
        rw [← em, List.countP_map]
        rfl
      refine call_meets PySem.F.slot_list_count ⟨_, ho, rfl⟩ PySem.F.entry_list_count (PySem.F.args_list_count_2 _ _)
        (SeqAt.list_countAt a its.toArray n dd sls w1 (fun u => PyData.eqv (SeqAt.readOf s.heap u) d)) ⟨ho, hq, ?_⟩
      refine ⟨.int ((ds.countP fun z => PyData.eqv z d : Nat) : Int), H, I.tok _, ⟨s.toks, ?_⟩, q⟩
      rw [← ec]
end

/-! ### set(xs) of a list or a tuple of texts -/
def inK (ks : Nat → Key) (n : Nat) (k : Key) : Bool := (List.range n).any fun j => decide (ks j = k)
theorem inK_succ (ks : Nat → Key) (n : Nat) (k : Key) : inK ks (n + 1) k = (inK ks n k || decide (k = ks n)) := by
  unfold inK
  rw [List.range_succ, List.any_append, List.any_cons, List.any_nil, Bool.or_false]
  congr 1
  by_cases h : k = ks n
  · subst h; simp
  · rw [decide_eq_false h, decide_eq_false (fun z => h z.symm)]
theorem inK_iff {ks : Nat → Key} {n : Nat} {k : Key} : inK ks n k = true ↔ ∃ j, j < n ∧ ks j = k := by
  unfold inK
  rw [List.any_eq_true]
  constructor
  · rintro ⟨j, hj, e⟩; exact ⟨j, List.mem_range.mp hj, of_decide_eq_true e⟩
  · rintro ⟨j, hj, e⟩; exact ⟨j, List.mem_range.mpr hj, decide_eq_true e⟩
@[reducible] def sObj (led : Bool) : Obj := { cls := .type "set", dict := none, data := .set #[] 0 (.fresh 0 0 led) }
section
variable {P : Program} {w : World} {A : Around} {E : Value → Shared → Prop} {s : Shared}
theorem setof_at {h h' : Heap} {a : Addr} {S : Key → Bool} {c : Nat} (x : h.SetOf (mixKind P w) a S c) (k : ∀ o, h.get? a = some o → h'.get? a = some o) : h'.SetOf (mixKind P w) a S c := by
  obtain ⟨o, es, ep, t, ho, r⟩ := x
  exact ⟨o, es, ep, t, k o ho, r⟩
theorem set_upd {I : Addr} {fp wr : List Addr} {Gm : Array GenState → Array GenState → Prop} {n : Nat} {Pv : Nat → Value → Prop} {Sv : Nat → Shared → Prop} {R : Result → Shared → Prop}
    (W : WalksS P w A.in1 I fp wr Gm n Pv Sv) (z : Addr) (hz : z ∉ fp) (ks : Nat → Key) (hv : ∀ i v, Pv i v → keyIs (ks i) v = true ∧ v.scannable = true) (hb : n + 1 < scanBound) :
    ∀ (m i : Nat) (s : Shared), n - i = m → i ≤ n → Sv i s → (∃ c, c ≤ i ∧ s.heap.SetOf (mixKind P w) z (inK ks i) c) →
      (∀ s' c, Moved (z :: wr) Gm s s' → c ≤ n → s'.heap.SetOf (mixKind P w) z (inK ks n) c → R (.ok (.ret .none)) s') →
      codeAny (model P w) A (.builtin "set.update.loop" ⟨[.ref z, .ref I], []⟩) R s := by
  have hzw : z ∉ wr := fun q => hz (W.sub _ q)
  have up : ∀ b ∈ wr, b ∈ z :: wr := fun b q => List.mem_cons_of_mem _ q
  intro m
  induction m with
  | zero =>
    intro i s e1 e2 hst ⟨c, hc, hS⟩ hR
    obtain rfl : i = n := by omega
    refine codeAny_builtin PyProof.Rows.F.entry_set_update_loop ?_
    rw [Around.under_plainId PyProof.Rows.F.plain_set_update_loop _]
    show wpAny _ A.in1 (pyNext (.ref I) >>= _) _ _ s
    refine wpAny_bind (W.done s _ _ hst fun s2 mv => ?_)
    show wpAny _ A.in1 (ret Value.none) _ _ s2
    exact wpAny_pure (hR s2 c (mv.mono up) hc (setof_at hS fun o q => mv.heap z o hzw q))
  | succ m ih =>
    intro i s e1 e2 hst ⟨c, hc, hS⟩ hR
    have hi : i < n := by omega
    refine codeAny_builtin PyProof.Rows.F.entry_set_update_loop ?_
    rw [Around.under_plainId PyProof.Rows.F.plain_set_update_loop _]
    show wpAny _ A.in1 (pyNext (.ref I) >>= _) _ _ s
    refine wpAny_bind (W.item i s _ _ hi hst fun v s2 hP st2 mv => ?_)
    obtain ⟨hk, hsc⟩ := hv i v hP
    have hS2 : s2.heap.SetOf (mixKind P w) z (inK ks i) c := setof_at hS fun o q => mv.heap z o hzw q
    show wpAny _ A.in1 (holding [v] (setAdd z v) >>= _) _ _ s2
    refine wpAny_bind (wpAny_holding ?_)
    unfold setAdd
    refine wpAny_holding (wpAny_bind ((mixKind P w).pyHash (k := ks i) hk ?_))
    refine wpAny_setAddHashed_of (knd := mixKind P w) (s := { s2 with toks := s2.toks + 1 }) hk hsc hS2 (by omega) fun h3 sb hS3 => ?_
    refine wpAny_pure ⟨plainId_quiet PyProof.Rows.F.plain_set_update_loop _, ih (i + 1) _ (by omega) hi (W.frame _ s2 _ _ st2 (Nat.le_succ _) fun b q o e => ?_) ⟨if inK ks i (ks i) then c else c + 1, by split <;> omega, ?_⟩ fun s4 c4 mv4 hc4 hS4 => ?_⟩
    · rw [sb.2 b (fun q2 : b = z => hz (by rw [← q2]; exact q))]; exact e
    · have ef : inK ks (i + 1) = fun k' => inK ks i k' || decide (k' = ks i) := funext fun k' => inK_succ ks i k'
      rw [ef]
      exact hS3
    · refine hR s4 c4 (Moved.trans W.gtrans ((mv.mono up).then_heap (Nat.le_succ _) fun b o q e => ?_) mv4) hc4 hS4
      rw [sb.2 b (fun q2 : b = z => q (by rw [q2]; exact List.mem_cons_self))]; exact e
theorem setof_new {h : Heap} {a : Addr} {led : Bool} {ks : Nat → Key} (ho : h.get? a = some (sObj led)) : h.SetOf (mixKind P w) a (inK ks 0) 0 := by
  exact ⟨sObj led, #[], 0, .fresh 0 0 led, ho, ⟨rfl, rfl, rfl⟩, rfl, fun e he => absurd he (by simp), fun k => ⟨fun q => (nomatch q), fun ⟨e, he, _⟩ => absurd he (by simp)⟩, by decide, by rfl, rfl⟩
theorem grown2 {h : Heap} {o1 o2 : Obj} {b : Addr} {o : Obj} (e : h.get? b = some o) : ((h.push o1).push o2).get? b = some o := Heap.get?_push_of_some _ (Heap.get?_push_of_some _ e)
/-- what a new set knows -/
def SetSaid (s : Shared) (ks : Nat → Key) (n : Nat) (h2 : Heap) : Prop := ∃ c, c ≤ n ∧ h2.SetOf (mixKind P w) s.heap.objs.size (inK ks n) c ∧ ∀ b o, s.heap.get? b = some o → h2.get? b = some o
set_option maxHeartbeats 8000000 in
theorem call_setL {l : Addr} {items : Array Value} (ks : Nat → Key) {Q : Value → Shared → Prop} (hh : A.handled = none) (hl : s.heap.IsList l items)
    (hv : ∀ i v, items[i]? = some v → keyIs (ks i) v = true ∧ v.scannable = true) (hb : items.size + 1 < scanBound)
    (h : ∀ h2 tk, SetSaid (P := P) (w := w) s ks items.size h2 → Q (.ref s.heap.objs.size) { s with heap := h2, toks := tk }) : wpAny (model P w) A (call (.type "set") [.ref l]) Q E s := by
  obtain ⟨cc, tl, hmro⟩ := PySem.F.called_set.mro
  have hmade := PySem.F.called_set.made
  have hsub := PySem.F.called_set.sub
  refine wpAny_call (codeAny_of_tree ?_)
  show wpAny _ _ (callAny (.type "set") _) _ _ _
  refine wpAny_pure ⟨Code.quiet_builtin _ (by decide +kernel), codeAny_builtin PySem.F.entry_type_call ?_⟩
  rw [Around.under_plain (weight_type_call_type "set" [.ref l] []) rfl]
  have h1 := PySem.F.called_set.notType
  have h2 := PySem.F.called_set.canCreate
  have hct := PySem.F.typeCall_set_1 (.ref l)
  repeat (any_goals (first | assumption | wp_step))
  refine codeAny_mono (PySem.code_set_new_1 (.ref l) (E := E) (Q₁ := fun obj s1 => ∃ led : Bool, obj = .ref s.heap.objs.size ∧ s1 = { s with heap := s.heap.push (sObj led) }) fun led => ⟨led, rfl, rfl⟩) fun r s1 hr => ?_
  cases r with
  | error e => exact hr
  | ok fl =>
    cases fl with
    | ret obj =>
      obtain ⟨led, rfl, rfl⟩ := hr
      have gS : (s.heap.push (sObj led)).get? s.heap.objs.size = some (sObj led) := Heap.get?_push_size _ rfl
      have hT : Shared.TypeIs { s with heap := s.heap.push (sObj led) } (.ref s.heap.objs.size) "set" := ⟨_, gS, rfl⟩
      have hli := PySem.F.called_set.init.lookup
      have hbi := PySem.F.called_set.init.bind (.ref s.heap.objs.size)
      repeat (any_goals (first | assumption | wp_step))
      refine codeAny_mono (codeAny_call_builtin (R := wants (fun r s2 => r = .none ∧ ∃ h3 tk, s2 = { s with heap := h3, toks := tk } ∧ SetSaid (P := P) (w := w) s ks items.size h3) E) PySem.F.called_set.init.plain PySem.F.entry_set_init (PySem.check_set_init_1 hT ?_)) fun r2 s2 hr2 => ?_
      · obtain ⟨ol, hol, hcl, nl, hdl⟩ := hl
        obtain ⟨ocls, odict, odata, osl⟩ := ol
        simp only at hcl hdl
        subst hcl; subst hdl
        have gl : (s.heap.push (sObj led)).get? l = some { cls := .type "list", dict := odict, data := .seq items nl, slots := osl } := Heap.get?_push_of_some _ hol
        have hsls := PySem.F.sub_list_set
        have hslf := PySem.F.sub_list_frozenset
        have hne : (Value.type "list" == Value.type "dict") = false := by decide
        have il : (s.heap.push (sObj led)).IsList l items := ⟨_, gl, rfl, nl, rfl⟩
        unfold Builtin.«set.__init__» noKeywords Builtin.Frozenset.updateFrom
        generalize hPI : pyIter = PI
        wp_walk
        subst hPI
        refine wpAny_pyIter_list il ?_
        refine wpAny_bind (wpAny_runValue ?_)
        have lS : l < s.heap.objs.size := Heap.lt_size hol
        have h3 : A.in1.in1.in1.handled = none := by simp [hh]
        have neI : l ≠ (s.heap.push (sObj led)).objs.size := by
          rw [Heap.size_push]; exact Nat.ne_of_lt (Nat.lt_succ_of_lt lS)
        have off : s.heap.objs.size ∉ [(s.heap.push (sObj led)).objs.size, l] := by
          rw [Heap.size_push]; simp only [List.mem_cons, List.mem_singleton, List.not_mem_nil, or_false, not_or]
          exact ⟨Nat.ne_of_lt (Nat.lt_succ_self _), Nat.ne_of_gt lS⟩
        refine set_upd ((Walks.list h3 _ l neI items).toS) s.heap.objs.size off ks hv hb (items.size - 0) 0 _ (by omega) (Nat.zero_le _)
          ⟨⟨_, Heap.get?_push_size _ rfl, rfl, rfl⟩, (il.push _)⟩ ⟨0, Nat.le_refl 0, setof_new (led := led) (Heap.get?_push_of_some _ gS)⟩ ?_
        intro s4 c mv hc hS
        obtain ⟨h5, g5, d5, t5, o5⟩ := s4
        obtain rfl : g5 = s.gens := mv.gens
        obtain rfl : d5 = s.drawn := mv.drawn
        obtain rfl : o5 = s.os := mv.os
        show wpAny _ _ _ _ _ _
        refine wpAny_pure ?_
        show wpAny _ _ (ret Value.none) _ _ _
        refine wpAny_pure ⟨rfl, h5, t5, rfl, c, hc, hS, fun b o e => ?_⟩
        have hb0 : b < s.heap.objs.size := Heap.lt_size e
        refine mv.heap b o ?_ (grown2 e)
        rw [Heap.size_push]
        simp only [List.mem_cons, List.mem_singleton, List.not_mem_nil, or_false, not_or]
        exact ⟨Nat.ne_of_lt hb0, Nat.ne_of_lt (Nat.lt_succ_of_lt hb0)⟩
      · cases r2 with
        | error e => exact hr2
        | ok f2 =>
          cases f2 with
          | ret r =>
            obtain ⟨rfl, h5, tk, rfl, hS⟩ := hr2
            repeat (any_goals (first | assumption | wp_step))
            exact h _ _ hS
          | _ => exact hr2.elim
    | _ => exact hr.elim
set_option maxHeartbeats 8000000 in
theorem call_setT {l : Addr} {items : Array Value} (ks : Nat → Key) {Q : Value → Shared → Prop} (hh : A.handled = none) (hl : s.heap.IsTuple l items)
    (hv : ∀ i v, items[i]? = some v → keyIs (ks i) v = true ∧ v.scannable = true) (hb : items.size + 1 < scanBound)
    (h : ∀ h2 tk, SetSaid (P := P) (w := w) s ks items.size h2 → Q (.ref s.heap.objs.size) { s with heap := h2, toks := tk }) : wpAny (model P w) A (call (.type "set") [.ref l]) Q E s := by
  obtain ⟨cc, tl, hmro⟩ := PySem.F.called_set.mro
  have hmade := PySem.F.called_set.made
  have hsub := PySem.F.called_set.sub
  refine wpAny_call (codeAny_of_tree ?_)
  show wpAny _ _ (callAny (.type "set") _) _ _ _
  refine wpAny_pure ⟨Code.quiet_builtin _ (by decide +kernel), codeAny_builtin PySem.F.entry_type_call ?_⟩
  rw [Around.under_plain (weight_type_call_type "set" [.ref l] []) rfl]
  have h1 := PySem.F.called_set.notType
  have h2 := PySem.F.called_set.canCreate
  have hct := PySem.F.typeCall_set_1 (.ref l)
  repeat (any_goals (first | assumption | wp_step))
  refine codeAny_mono (PySem.code_set_new_1 (.ref l) (E := E) (Q₁ := fun obj s1 => ∃ led : Bool, obj = .ref s.heap.objs.size ∧ s1 = { s with heap := s.heap.push (sObj led) }) fun led => ⟨led, rfl, rfl⟩) fun r s1 hr => ?_
  cases r with
  | error e => exact hr
  | ok fl =>
    cases fl with
    | ret obj =>
      obtain ⟨led, rfl, rfl⟩ := hr
      have gS : (s.heap.push (sObj led)).get? s.heap.objs.size = some (sObj led) := Heap.get?_push_size _ rfl
      have hT : Shared.TypeIs { s with heap := s.heap.push (sObj led) } (.ref s.heap.objs.size) "set" := ⟨_, gS, rfl⟩
      have hli := PySem.F.called_set.init.lookup
      have hbi := PySem.F.called_set.init.bind (.ref s.heap.objs.size)
      repeat (any_goals (first | assumption | wp_step))
      refine codeAny_mono (codeAny_call_builtin (R := wants (fun r s2 => r = .none ∧ ∃ h3 tk, s2 = { s with heap := h3, toks := tk } ∧ SetSaid (P := P) (w := w) s ks items.size h3) E) PySem.F.called_set.init.plain PySem.F.entry_set_init (PySem.check_set_init_1 hT ?_)) fun r2 s2 hr2 => ?_
      · obtain ⟨ol, hol, hcl, nl, hdl⟩ := hl
        obtain ⟨ocls, odict, odata, osl⟩ := ol
        simp only at hcl hdl
        subst hcl; subst hdl
        have gl : (s.heap.push (sObj led)).get? l = some { cls := .type "tuple", dict := odict, data := .seq items nl, slots := osl } := Heap.get?_push_of_some _ hol
        have hsls := PySem.F.sub_tuple_set
        have hslf := PySem.F.sub_tuple_frozenset
        have hne : (Value.type "tuple" == Value.type "dict") = false := by decide
        have il : (s.heap.push (sObj led)).IsTuple l items := ⟨_, gl, rfl, nl, rfl⟩
        unfold Builtin.«set.__init__» noKeywords Builtin.Frozenset.updateFrom
        generalize hPI : pyIter = PI
        wp_walk
        subst hPI
        refine wpAny_pyIter_tuple il ?_
        refine wpAny_bind (wpAny_runValue ?_)
        have lS : l < s.heap.objs.size := Heap.lt_size hol
        have h3 : A.in1.in1.in1.handled = none := by simp [hh]
        have neI : l ≠ (s.heap.push (sObj led)).objs.size := by
          rw [Heap.size_push]; exact Nat.ne_of_lt (Nat.lt_succ_of_lt lS)
        have off : s.heap.objs.size ∉ [(s.heap.push (sObj led)).objs.size, l] := by
          rw [Heap.size_push]; simp only [List.mem_cons, List.mem_singleton, List.not_mem_nil, or_false, not_or]
          exact ⟨Nat.ne_of_lt (Nat.lt_succ_self _), Nat.ne_of_gt lS⟩
        refine set_upd ((Walks.tuple h3 _ l neI items).toS) s.heap.objs.size off ks hv hb (items.size - 0) 0 _ (by omega) (Nat.zero_le _)
          ⟨⟨_, Heap.get?_push_size _ rfl, rfl, rfl⟩, (il.push _)⟩ ⟨0, Nat.le_refl 0, setof_new (led := led) (Heap.get?_push_of_some _ gS)⟩ ?_
        intro s4 c mv hc hS
        obtain ⟨h5, g5, d5, t5, o5⟩ := s4
        obtain rfl : g5 = s.gens := mv.gens
        obtain rfl : d5 = s.drawn := mv.drawn
        obtain rfl : o5 = s.os := mv.os
        show wpAny _ _ _ _ _ _
        refine wpAny_pure ?_
        show wpAny _ _ (ret Value.none) _ _ _
        refine wpAny_pure ⟨rfl, h5, t5, rfl, c, hc, hS, fun b o e => ?_⟩
        have hb0 : b < s.heap.objs.size := Heap.lt_size e
        refine mv.heap b o ?_ (grown2 e)
        rw [Heap.size_push]
        simp only [List.mem_cons, List.mem_singleton, List.not_mem_nil, or_false, not_or]
        exact ⟨Nat.ne_of_lt hb0, Nat.ne_of_lt (Nat.lt_succ_of_lt hb0)⟩
      · cases r2 with
        | error e => exact hr2
        | ok f2 =>
          cases f2 with
          | ret r =>
            obtain ⟨rfl, h5, tk, rfl, hS⟩ := hr2
            repeat (any_goals (first | assumption | wp_step))
            exact h _ _ hS
          | _ => exact hr2.elim
    | _ => exact hr.elim
end
/-- .. over the layer: a set of texts -/
def strSet (P : Program) (w : World) (xs : List Str) (a : Addr) (o : HO) : Prop := ∃ c, o = SetK P w a (fun k => xs.any fun x => decide (k = Sum.inr x)) c
def rSetS (K : PySem.W.Frag) (P : Program) (w : World) : List V → Hp → VK → Prop := fun vs H Q => ∃ (a : Addr) (xs : List Str), vs = [V.ref a] ∧ (SqL K H a (xs.map V.str) ∨ SqT K H a (xs.map V.str)) ∧ xs.length < 1000 ∧
  ∀ p o, H p = none → strSet P w xs p o → Q (.ref p) (upd H p o)
theorem vals_strs {xs : List Str} {its : List Value} (r : Vals (xs.map V.str) its) (i : Nat) (v : Value) (h : its[i]? = some v) : keyIs (Sum.inr (xs.getD i Str.empty)) v = true ∧ v.scannable = true := by
  have hl := r.length
  have hi := (List.getElem?_eq_some_iff.mp h).1
  rw [List.length_map] at hl
  have hx : (xs.map V.str)[i]? = some (V.str (xs.getD i Str.empty)) := by
    rw [List.getElem?_map, List.getD_eq_getElem?_getD, List.getElem?_eq_getElem (by omega)]
    rfl
  obtain ⟨u, hu, t, e⟩ := r.get hx
  rw [h] at hu
  cases hu
  subst e
  exact ⟨keyIs_str _ t, rfl⟩
theorem inK_strs (xs : List Str) : inK (fun i => Sum.inr (xs.getD i Str.empty)) xs.length = fun k => xs.any fun x => decide (k = Sum.inr x) := by
  funext k
  rw [Bool.eq_iff_iff, inK_iff, List.any_eq_true]
  constructor
  · rintro ⟨j, hj, e⟩
    refine ⟨xs[j], List.getElem_mem hj, decide_eq_true ?_⟩
    rw [← e, List.getD_eq_getElem?_getD, List.getElem?_eq_getElem hj]
    rfl
  · rintro ⟨x, hx, e⟩
    obtain ⟨j, hj, ej⟩ := List.getElem_of_mem hx
    refine ⟨j, hj, ?_⟩
    rw [of_decide_eq_true e, List.getD_eq_getElem?_getD, List.getElem?_eq_getElem hj, ← ej]
    rfl
theorem cx_setS {X : Cx} (hc : X.calm = true) : CallR X (.type "set") (rSetS X.K X.prog X.w) := by
  intro pins s σ H vs us Q I r h
  obtain ⟨a, xs, rfl, ha, hl, q⟩ := h
  obtain ⟨u, rfl, ru⟩ := vals1 r
  cases ru
  have fin : ∀ h2 tk, SetSaid (P := X.prog) (w := X.w) s (fun i => Sum.inr (xs.getD i Str.empty)) xs.length h2 → EP X pins σ Q (.ref s.heap.objs.size) { s with heap := h2, toks := tk } := by
    rintro h2 tk ⟨c, hc', hS, kp⟩
    rw [inK_strs] at hS
    have hn : H s.heap.objs.size = none := I.hok.fresh (Nat.le_refl _)
    exact ⟨.ref _, _, I.laid (t' := tk) kp (Nat.le_refl _) (setK_new hS), rfl, q _ _ hn ⟨c, rfl⟩⟩
  rcases ha with ha | ha
  · obtain ⟨its, rv, pl, hz⟩ := I.list ha
    have e := rv.length
    rw [List.length_map] at e
    have e2 : its.toArray.size = xs.length := by simp [e]
    refine call_setL (fun i => Sum.inr (xs.getD i Str.empty)) (I.ok.hd hc) pl.isList (fun i v hv => vals_strs rv i v (by simpa using hv)) (by rw [e2]; unfold scanBound; omega) fun h2 tk hS => ?_
    rw [e2] at hS
    exact fin h2 tk hS
  · obtain ⟨its, rv, pl, hz⟩ := I.tuple ha
    have e := rv.length
    rw [List.length_map] at e
    have e2 : its.toArray.size = xs.length := by simp [e]
    refine call_setT (fun i => Sum.inr (xs.getD i Str.empty)) (I.ok.hd hc) pl (fun i v hv => vals_strs rv i v (by simpa using hv)) (by rw [e2]; unfold scanBound; omega) fun h2 tk hS => ?_
    rw [e2] at hS
    exact fin h2 tk hS
end Dl
end
section
set_option maxRecDepth 100000
set_option maxHeartbeats 1000000
namespace Dl
open PySem L2
section
variable {F : Fx} {B : Bs} {δ : Env} {μ : Mu} {K : PySem.W.Frag} {ta tb te : TE} {k k1 k2 k' : Know} {r : R2} {m : MO} {σ : L2.St} {H : Hp} {D : Ends} {post : V → Hp → Hp → Prop} {n : L2.St → Hp → Prop}

/-! ### short names -/
abbrev iK (i : Int) : Know := valK (.int i)
abbrev sK (x : Str) : Know := valK (.str x)
abbrev bK (b : Bool) : Know := valK (.bl b)
abbrev intsK (xs : List Int) : Know := listK (xs.map iK)
abbrev strsK (xs : List Str) : Know := listK (xs.map sK)
theorem allK_val {α : Type} {f : α → V} {G : Hp} : ∀ {xs : List α} {vs : List V}, AllK G vs (xs.map fun x => valK (f x)) → vs = xs.map f
  | [], _, .nil => rfl
  | x :: xs, v :: vs, .cons a b => by
    have e : v = f x := a
    rw [e, allK_val b, List.map_cons]
theorem allK_of_val {α : Type} {f : α → V} {G : Hp} : ∀ (xs : List α), AllK G (xs.map f) (xs.map fun x => valK (f x))
  | [] => .nil
  | _ :: xs => .cons rfl (allK_of_val xs)

/-! ### texts -/
theorem rk_strs {a b : Str} (h : a.length + b.length ≤ sizeLine) : Rk F μ rAddStr (sK a) (sK b) (sK (a ++ b)) := rk_addS rfl h
theorem ek_slS {tl th : TO} {z : Str} {lo hi : Option Int} (h : Ek F te δ μ (sK z)) (hl : EOk F tl δ μ lo) (hh : EOk F th δ μ hi) (hz : z.length ≤ sizeLine) : Ek F (tSl rSlS te tl th) δ μ (sK (cutS z lo hi)) := fun G H σ st Q q =>
  h G H σ st _ fun x G1 H1 g1 j1 p1 => hl G1 H1 σ (st.step g1 j1) _ fun G2 H2 g2 j2 => hh G2 H2 σ ((st.step g1 j1).step g2 j2) _ fun G3 H3 g3 j3 => ⟨z, p1, hz, q _ G3 H3 ((g1.trans g2).trans g3) j3 rfl⟩
theorem ek_join {z : Str} {ys : List Str} (h : Ek F ta δ μ (sK z)) (he : Ek F te δ μ (strsK ys)) (hz : (ys.map (·.length)).sum + ys.length * z.length ≤ 16777216) : Ek F (tM1 (rJoinQ K) ta te) δ μ (sK (Txt.join z ys)) := fun G H σ st Q q =>
  h G H σ st _ fun x G1 H1 g1 j1 p1 => ⟨⟨z, p1⟩, he G1 H1 σ (st.step g1 j1) _ fun y G2 H2 g2 j2 p2 => by
    obtain ⟨a, vs, rfl, ha, r⟩ := p2
    have e := allK_val r
    subst e
    exact ⟨z, a, ys, p1, rfl, .inl (.inl (.inl (g2.gh _ _ ha))), hz, q _ G2 H2 (g1.trans g2) j2 rfl⟩⟩
/-- .. of texts that are drawn -/
theorem ek_joinx {z : Str} {α : Type} {ys : α → List Str} (h : Ek F ta δ μ (sK z)) (he : Ek F te δ μ (exK fun x => strsK (ys x))) (hz : ∀ x, ((ys x).map (·.length)).sum + (ys x).length * z.length ≤ 16777216) : Ek F (tM1 (rJoinQ K) ta te) δ μ (exK fun x => sK (Txt.join z (ys x))) := fun G H σ st Q q =>
  h G H σ st _ fun x G1 H1 g1 j1 p1 => ⟨⟨z, p1⟩, he G1 H1 σ (st.step g1 j1) _ fun y G2 H2 g2 j2 ⟨u, p2⟩ => by
    obtain ⟨a, vs, rfl, ha, r⟩ := p2
    have e := allK_val r
    subst e
    exact ⟨z, a, ys u, p1, rfl, .inl (.inl (.inl (g2.gh _ _ ha))), hz u, q _ G2 H2 (g1.trans g2) j2 ⟨u, rfl⟩⟩⟩
/-- f'..' -/
def ETs (F : Fx) (ts : List TE) (δ : Env) (μ : Mu) (acc out : Str) : Prop := ∀ G H σ, Stt F G H δ μ σ → ∀ Q : Str → Hp → Prop, (∀ G' H', Gr F.P G H G' H' → F.J G' H' → Q out H') → tJs ts acc σ H Q
theorem ets_nil {acc : Str} : ETs F [] δ μ acc acc := fun G H σ st Q q => q G H (.refl st.sub) st.j
theorem ets_cons {ts : List TE} {acc y out : Str} (h : Ek F te δ μ (sK y)) (hz : (acc ++ y).length ≤ sizeLine) (hr : ETs F ts δ μ (acc ++ y) out) : ETs F (te :: ts) δ μ acc out := fun G H σ st Q q =>
  h G H σ st _ fun x G1 H1 g1 j1 p1 => ⟨y, p1, hz, hr G1 H1 σ (st.step g1 j1) _ fun G2 H2 g2 j2 => q G2 H2 (g1.trans g2) j2⟩
theorem ek_joined {ts : List TE} {out : Str} (h : ETs F ts δ μ Str.empty out) : Ek F (tJoined ts) δ μ (sK out) := fun G H σ st Q q => h G H σ st _ fun G1 H1 g1 j1 => q _ G1 H1 g1 j1 rfl
theorem ek_fmtI {i : Int} (h : Ek F te δ μ (iK i)) (hi : i.natAbs.log2 < 1920) : Ek F (tFmt te) δ μ (sK (toString i)) := fun G H σ st Q q =>
  h G H σ st _ fun x G1 H1 g1 j1 p1 => .inr ⟨i, p1, hi, q _ G1 H1 g1 j1 rfl⟩

/-! ### in -/
theorem flatV_all {α : Type} {f : α → V} (h : ∀ x, flatV (f x) = true) (xs : List α) : (xs.map f).all flatV = true := by
  rw [List.all_map, List.all_eq_true]
  exact fun x _ => h x
theorem rk_in {α : Type} {f : α → V} {neg : Bool} {v : V} {xs : List α} (hr : Rd F μ k2 (xs.map fun x => valK (f x))) (hv : flatV v = true) (hf : ∀ x, flatV (f x) = true) : Rk F μ (rIn K neg) (valK v) k2 (bK (if neg then !inV v (xs.map f) else inV v (xs.map f))) := fun G H x y s j o p1 p2 Q q => by
  obtain ⟨a, vs, rfl, ha, rr⟩ := hr G H y s o p2
  have e := allK_val rr
  subst e
  have e1 : x = v := p1
  subst e1
  exact ⟨a, xs.map f, rfl, .inl (.inl (.inl ha)), hv, flatV_all hf xs, q _ G H (.refl s) j rfl⟩
theorem inV_str {x : Str} {xs : List Str} : inV (.str x) (xs.map V.str) = decide (x ∈ xs) := by
  unfold inV
  rw [List.any_map]
  rw [Bool.eq_iff_iff, List.any_eq_true, decide_eq_true_iff]
  constructor
  · rintro ⟨y, hy, e⟩
    have e : eqV (.str y) (.str x) = true := e
    have : y = x := by simpa [eqV] using e
    exact this ▸ hy
  · intro h
    exact ⟨x, h, by simp [eqV]⟩
theorem rk_inS {x : Str} {xs : List Str} (hr : Rd F μ k2 (xs.map sK)) : Rk F μ (rIn K false) (sK x) k2 (bK (decide (x ∈ xs))) := by
  have h := rk_in (K := K) (neg := false) (v := .str x) (f := V.str) hr rfl (fun _ => rfl)
  rw [if_neg Bool.false_ne_true, inV_str] at h
  exact h
theorem rk_niS {x : Str} {xs : List Str} (hr : Rd F μ k2 (xs.map sK)) : Rk F μ (rIn K true) (sK x) k2 (bK (!decide (x ∈ xs))) := by
  have h := rk_in (K := K) (neg := true) (v := .str x) (f := V.str) hr rfl (fun _ => rfl)
  rw [if_pos rfl, inV_str] at h
  exact h
/-! ### sets of texts -/
def setKn (P : Program) (w : World) (xs : List Str) : Know := ⟨fun v G => ∃ a o, v = .ref a ∧ G a = some o ∧ strSet P w xs a o, fun s ⟨a, o, e, h, q⟩ => ⟨a, o, e, s _ _ h, q⟩⟩
theorem rk_inSet {P : Program} {w : World} {x : Str} {xs : List Str} {neg : Bool} : Rk F μ (rSInK P w neg) (sK x) (setKn P w xs) (bK (if neg then !decide (x ∈ xs) else decide (x ∈ xs))) := fun G H u y s j o p1 p2 Q q => by
  obtain ⟨a, ob, rfl, ha, c, e⟩ := p2
  subst e
  have e1 : u = .str x := p1
  subst e1
  refine ⟨.inr x, a, _, c, rfl, rfl, s _ _ ha, q _ G H (.refl s) j ?_⟩
  have e2 : (xs.any fun z => decide ((Sum.inr x : Key) = Sum.inr z)) = decide (x ∈ xs) := by
    rw [Bool.eq_iff_iff, List.any_eq_true, decide_eq_true_iff]
    constructor
    · rintro ⟨z, hz, e⟩
      have := Sum.inr.inj (of_decide_eq_true e)
      exact this ▸ hz
    · intro h
      exact ⟨x, h, decide_eq_true rfl⟩
  rw [e2]
  rfl
theorem cr_setL {P : Program} {w : World} {xs : List Str} (hr : Rd F μ k1 (xs.map sK)) (hl : xs.length < 1000) : CRk F μ (rSetS K P w) [k1] (setKn P w xs) := fun G H vs s j o p Q q => by
  obtain ⟨v, rfl, p'⟩ := allK1 p
  obtain ⟨a, ws, rfl, ha, rr⟩ := hr G H v s o p'
  have e := allK_val rr
  subst e
  exact ⟨a, xs, rfl, .inl (.inl (.inl ha)), hl, fun p ob hp hs => q _ (upd G p ob) _ (Gr.new s hp) (F.new s hp j) ⟨p, ob, rfl, upd_same, hs⟩⟩
theorem cr_setT {P : Program} {w : World} {xs : List Str} (hl : xs.length < 1000) : CRk F μ (rSetS K P w) [tupK K (xs.map sK)] (setKn P w xs) := fun G H vs s j o p Q q => by
  obtain ⟨v, rfl, p'⟩ := allK1 p
  obtain ⟨a, ws, rfl, ha, rr⟩ := p'
  have e := allK_val rr
  subst e
  exact ⟨a, xs, rfl, .inr (seqT_mono s ha), hl, fun p ob hp hs => q _ (upd G p ob) _ (Gr.new s hp) (F.new s hp j) ⟨p, ob, rfl, upd_same, hs⟩⟩

/-! ### max, sum, range backwards, isinstance, index -/
theorem cr_maxL {ns : List Int} {m : Int} (hr : Rd F μ k1 (ns.map iK)) (h0 : 0 < ns.length) (hm : ∀ z, z ∈ ns → (∀ y, y ∈ ns → y ≤ z) → z = m) : CRk F μ (rMax K) [k1] (iK m) := fun G H vs s j o p Q q => by
  obtain ⟨v, rfl, p'⟩ := allK1 p
  obtain ⟨a, ws, rfl, ha, rr⟩ := hr G H v s o p'
  have e := allK_val rr
  subst e
  refine ⟨a, ns, rfl, .inl (.inl ha), h0, fun z h1 h2 => ?_⟩
  rw [hm z h1 h2]
  exact q _ G H (.refl s) j rfl
theorem cr_sumL {ns : List Int} (hr : Rd F μ k1 (ns.map iK)) : CRk F μ (rSum K) [k1] (iK ns.sum) := fun G H vs s j o p Q q => by
  obtain ⟨v, rfl, p'⟩ := allK1 p
  obtain ⟨a, ws, rfl, ha, rr⟩ := hr G H v s o p'
  have e := allK_val rr
  subst e
  exact ⟨a, ns, rfl, .inl (.inl ha), q _ G H (.refl s) j rfl⟩
theorem ei_revR {n : Nat} (h : Ek F te δ μ (iK (n : Int))) (hn : (n : Int) < 2 ^ 62) : EI F (iRevR (tRg1 te)) δ μ n (fun i => iK ((n : Int) - 1 - (i : Int))) := fun G H σ st R q =>
  h G H σ st _ fun v G1 H1 g1 j1 e => by
    have e : v = .int n := e
    subst e
    refine ⟨n, rfl, by omega, by omega, by omega, hn, ?_⟩
    have e1 : ((n : Int) - 0).toNat = n := by omega
    rw [e1]
    refine q _ G1 H1 (fun _ => True) (YFn fun i => .int (0 + (n : Int) - 1 + (i : Nat) * -1)) g1 j1 walk_rangeC (fun _ _ => trivial) fun i H2 x H3 G2 hi s1 s2 y => ?_
    obtain ⟨e, hx⟩ := y
    subst e
    refine ⟨G2, .refl s2, ?_⟩
    rw [hx]
    show V.int (0 + (n : Int) - 1 + (i : Nat) * -1) = V.int ((n : Int) - 1 - (i : Int))
    congr 1
    omega
theorem cr_isi {v : V} {t : Value} {c : String} {b : Bool} (hty : ∀ G : Hp, TyX K G v t) (hk : PySem.W.kitOne K t (.type c) = some b) : CRk F μ (rIsi K) [valK v, valK (.ty c)] (bK b) := fun G H vs s j o p Q q => by
  obtain ⟨x, y, rfl, e1, e2⟩ := allK2 p
  have e1 : x = v := e1
  have e2 : y = .ty c := e2
  subst e1 e2
  exact ⟨x, _, t, .type c, b, rfl, ClsV.ty c, hty H, hk, q _ G H (.refl s) j rfl⟩
theorem ek_bmL {rr : V → List V → Hp → VK → Prop} {t : TA} {ks ls : List Know} (hr : Rd F μ k1 ks) (ho : Ek F ta δ μ k1) (ha : EAk F t δ μ ls)
    (h : ∀ G H x vs, Same G H → F.J G H → OwnK F G H μ → k1.p x G → AllK G vs ls → ∀ Q : VK, (∀ v G' H', Gr F.P G H G' H' → F.J G' H' → k.p v G' → Q v H') → rr x vs H Q) : Ek F (tBM K "list" rr ta t) δ μ k := fun G H σ st Q q =>
  ho G H σ st _ fun x G1 H1 g1 j1 p1 => by
    have st1 := st.step g1 j1
    obtain ⟨a, ws, rfl, hA, _⟩ := hr G1 H1 x g1.gh st1.own p1
    refine ⟨.inl ⟨rfl, ws, .inl (.inl hA)⟩, ?_⟩
    exact ha G1 H1 σ st1 _ fun vs G2 H2 g2 j2 p2 => h G2 H2 _ vs g2.gh j2 (st1.own.step g2) (k1.mono g2.gg p1) p2 Q fun v G3 H3 g3 j3 p3 => q v G3 H3 ((g1.trans g2).trans g3) j3 p3
theorem ek_indexS {x : Str} {xs : List Str} {j : Nat} (hr : Rd F μ k1 (xs.map sK)) (ho : Ek F ta δ μ k1) (he : Ek F te δ μ (sK x)) (hj : xs[j]? = some x) (hno : ∀ m y, m < j → xs[m]? = some y → y ≠ x) : Ek F (tBM K "list" (rIndex K) ta (tCons te tNil)) δ μ (iK (j : Int)) :=
  ek_bmL hr ho (ea_cons he ea_nil) fun G H u vs s jj o p1 p2 Q q => by
    obtain ⟨v, rfl, e⟩ := allK1 p2
    have e : v = .str x := e
    subst e
    obtain ⟨a, ws, rfl, ha, rr⟩ := hr G H u s o p1
    have e := allK_val rr
    subst e
    refine ⟨a, xs.map V.str, .str x, j, .str x, rfl, rfl, .inl (.inl ha), rfl, flatV_all (fun _ => rfl) xs, by rw [List.getElem?_map, hj]; rfl, by simp [eqV], fun m z hm hz => ?_, q _ G H (.refl s) jj rfl⟩
    rw [List.getElem?_map] at hz
    cases e : xs[m]? with
    | none => rw [e] at hz; cases hz
    | some y =>
      rw [e] at hz
      cases hz
      have := hno m y hm e
      simp [eqV, this]
theorem ek_countD {d : PyData} {α : Type} {f : α → Know} {g : α → PyData} {xs : List α} (hr : Rd F μ k1 (xs.map f)) (hd : ∀ x, x ∈ xs → IsD K (f x) (g x)) (ho : Ek F ta δ μ k1) (he : Ek F te δ μ k) (h2 : IsD K k d) (s1 : SeqAt.shaped (.list (xs.map g)) = true) (s2 : SeqAt.shaped d = true) :
    Ek F (tBM K "list" (rCountD K) ta (tCons te tNil)) δ μ (iK (((xs.map g).countP fun z => PyData.eqv z d : Nat) : Int)) :=
  ek_bmL hr ho (ea_cons he ea_nil) fun G H u vs s jj o p1 p2 Q q => by
    obtain ⟨v, rfl, e⟩ := allK1 p2
    obtain ⟨a, ws, rfl, ha, rr⟩ := hr G H u s o p1
    exact ⟨a, v, d, xs.map g, rfl, rfl, .lst (.inl (.inl ha)) (dpAll_mono s (isd_all xs hd _ _ rr)), dp_mono s (h2 v G e), s1, s2, q _ G H (.refl s) jj rfl⟩
/-! ### enumerate -/
theorem ei_enumL {ks : List Know} {d : Know} (h : Ek F te δ μ (listK ks)) : EI F (iEnum K (tCons te tNil)) δ μ ks.length (fun i => tupK K [iK (i : Int), (ks[i]?).getD d]) := fun G H σ st R q =>
  h G H σ st _ fun x G1 H1 g1 j1 p => by
    obtain ⟨a, vs, rfl, ha, r⟩ := p
    refine ⟨a, vs, rfl, .inl (.inl (g1.gh _ _ ha)), ?_⟩
    rw [← r.length] at q
    refine q _ G1 H1 (fun H => SqL K H a vs) (YPair (fun i => some (.int (i : Nat))) (fun i => vs[i]?)) g1 j1 walk_enum (fun H2 s => .inl (.inl (s _ _ ha))) fun i H2 x H3 G2 hi s1 s2 y => ?_
    obtain ⟨T, u, w, rfl, hT, rfl, e1, e2⟩ := y
    cases e1
    obtain ⟨k', hk, pk⟩ := r.getV e2
    refine ⟨upd G2 T (.tup [.int (i : Nat), w]), Gr.new s2 hT, T, [.int (i : Nat), w], rfl, .inl (.inl upd_same), .cons rfl (.cons ?_ .nil)⟩
    rw [hk]
    exact k'.mono (s1.trans (same_new (none_sub s2 hT))) pk
/-! ### returns that look at the whole state -/
theorem s_retS (hR : Rt F B post D.rt) (h : Ek F te δ μ k) (hp : ∀ v G H σ, Stt F G H δ μ σ → k.p v G → post v G H) : Tr F B δ μ (tRet te) D := fun σ H ⟨G, z⟩ =>
  h G H σ z.st _ fun v G1 H1 g1 j1 p => hR v G1 H1 (z.step g1 j1).gr j1 (hp v G1 H1 σ (z.step g1 j1).st p)
end

/-! ### the drawing pool -/
structure Pl where
  p : Addr
  c : Addr
  l : Addr
  t : Addr
structure PoolIs (cs ls : List Int) (k : Int) : Prop where
  n0 : 0 < cs.length
  ln : ls.length = cs.length
  c0 : ∀ x ∈ cs, 0 ≤ x
  l0 : ∀ x ∈ ls, 0 ≤ x
  k0 : 0 ≤ k
def PoolJ (pl : Pl) (G H : Hp) : Prop := pl.l ≠ pl.t ∧ G pl.p = some (.lst [.ref pl.c, .ref pl.l, .ref pl.t]) ∧ G pl.l = none ∧ G pl.t = none ∧
  ∃ cs ls k, PoolIs cs ls k ∧ G pl.c = some (.lst (cs.map V.int)) ∧ H pl.l = some (.lst (ls.map V.int)) ∧ H pl.t = some (.lst [.int k])
def FP (pl : Pl) : Fx := ⟨[pl.l, pl.t], PoolJ pl, fun G H G' H' s h ⟨e, a, b, c, cs, ls, k, i, x, y, z⟩ => by
    obtain ⟨l1, l2⟩ := h pl.l (by simp)
    obtain ⟨t1, t2⟩ := h pl.t (by simp)
    exact ⟨e, s _ _ a, l2 b, t2 c, cs, ls, k, i, s _ _ x, by rw [l1]; exact y, by rw [t1]; exact z⟩,
  fun G H ⟨e, a, b, c, cs, ls, k, i, x, y, z⟩ q hq => by
    rcases List.mem_cons.mp hq with rfl | hq
    · exact ⟨nn_of y, b⟩
    · rw [List.mem_singleton.mp hq]; exact ⟨nn_of z, c⟩⟩
abbrev poolK (pl : Pl) : Know := valK (.ref pl.p)
/-- at this very place -/
def atK (a : Addr) (k : Know) : Know := ⟨fun v G => v = .ref a ∧ k.p v G, fun s ⟨e, h⟩ => ⟨e, k.mono s h⟩⟩
theorem rd_at {F : Fx} {μ : Mu} {a : Addr} {ks : List Know} : Rd F μ (atK a (listK ks)) ks := fun G H v s _ ⟨_, a, vs, e, h, r⟩ => ⟨a, vs, e, s _ _ h, r⟩
/-- the pool opened -/
def poolOpen (cs : List Int) (pl : Pl) : Know := atK pl.p (listK [atK pl.c (intsK cs), valK (.ref pl.l), valK (.ref pl.t)])
section
variable {pl : Pl} {B : Bs} {δ : Env} {n : L2.St → Hp → Prop} {post : V → Hp → Hp → Prop} {rt : VK}
theorem to_poolOpen {i : Nat} (hi : δ[i]? = some (some (poolK pl))) (h : ∀ cs ls k, PoolIs cs ls k → To F0 B (δ.set i (some (poolOpen cs pl))) [(pl.l, .lst (ls.map iK)), (pl.t, .lst [iK k])] n) : To (FP pl) B δ [] n := fun σ H ⟨G, z⟩ => by
  obtain ⟨e, a, b, c, cs, ls, k, i', x, y, w⟩ := z.st.j
  obtain ⟨v, hv, ev⟩ := z.st.env.get hi
  have ev : v = .ref pl.p := ev
  subst ev
  have q := z.setS i (v := .ref pl.p) (k := poolOpen cs pl) ⟨rfl, pl.p, _, rfl, a, .cons ⟨rfl, pl.c, _, rfl, x, allK_of_val cs⟩ (.cons rfl (.cons rfl .nil))⟩
  have hs : σ.set i (some (.ref pl.p)) = σ := by
    apply List.ext_getElem?
    intro j
    by_cases hj : i = j
    · subst hj
      rw [List.getElem?_set_self (List.getElem?_eq_some_iff.mp hv).1, hv]
    · rw [List.getElem?_set_ne hj]
  rw [hs] at q
  refine h cs ls k i' σ H ⟨G, q.s0, q.gr, ⟨q.st.sub, trivial, q.st.env, ⟨?_, fun r u hm => ?_⟩⟩, fun r hr => absurd hr (by simp [F0]), fun r u hm => ?_⟩
  · simp [e]
  · rcases List.mem_cons.mp hm with hm | hm
    · cases hm; exact ⟨b, by simp [F0], _, y, _, rfl, allK_of_val ls⟩
    · cases List.mem_singleton.mp hm; exact ⟨c, by simp [F0], _, w, _, rfl, .cons rfl .nil⟩
  · rcases List.mem_cons.mp hm with hm | hm
    · cases hm; exact z.fp _ (by simp [FP])
    · cases List.mem_singleton.mp hm; exact z.fp _ (by simp [FP])
theorem rt_poolOpen (h : Rt (FP pl) B post rt) : Rt F0 B (fun v G H => PoolJ pl G H ∧ post v G H) rt := fun v G H g _ q => h v G H g q.1 q.2
/-- the pool closed again -/
theorem pool_close {σ : L2.St} {G H : Hp} {i : Nat} {cs ls : List Int} {k : Int} (hp : PoolIs cs ls k) (st : Stt F0 G H δ [(pl.l, .lst (ls.map iK)), (pl.t, .lst [iK k])] σ) (hi : δ[i]? = some (some (poolOpen cs pl))) : PoolJ pl G H := by
  obtain ⟨v, hv, e, a, vs, e', ha, r⟩ := st.env.get hi
  subst e
  cases e'
  cases r with
  | cons r1 r => cases r with
    | cons r2 r => cases r with
      | cons r3 r =>
        cases r
        rename_i v1 v2 v3
        obtain ⟨e1, c', ws, e1', hc, rc⟩ := r1
        have e2 : v2 = .ref pl.l := r2
        have e3 : v3 = .ref pl.t := r3
        subst e1 e2 e3
        cases e1'
        have ec := allK_val rc
        subst ec
        obtain ⟨l1, _, o1, l3, vs1, l4, l5⟩ := st.own.has pl.l _ List.mem_cons_self
        obtain ⟨t1, _, o2, t3, vs2, t4, t5⟩ := st.own.has pl.t _ (List.mem_cons_of_mem _ List.mem_cons_self)
        subst l4 t4
        have q1 := allK_val l5
        subst q1
        have q2 : vs2 = [.int k] := allK_val (xs := [k]) (f := V.int) t5
        subst q2
        have nd := st.own.nd
        refine ⟨fun e => ?_, ha, l1, t1, cs, ls, k, hp, hc, l3, t3⟩
        simp [e] at nd
end
end Dl
end
section
set_option maxRecDepth 100000
set_option maxHeartbeats 1000000
namespace Dl
open PySem L2
section
variable {X : Cx} {CX : CXT} {E : XK} {k : Nat} {f : Addr} {fd : FuncData} {ps ks : List Str} {sp : Sp} {x : Str} {p pos : Pos} {kws : List Keyword} {tk : TA} {g : List Value → List Value → List Value} {gV : List V → List V → List V}
/-- f(k=e, ..), nothing by place -/
theorem pe_callK0 (F : FnOk X.prog X.w X.K X.mg X.base CX k f fd ps sp) (hr : Room k X.A) (hg : Gl X x) (hm : X.mg x = some (.ref f)) (hk : PySem.W.keepIn X.K (.ref f) = true) (hb : KBinds X.K fd ps ks g gV) (hx : Passes CX X E)
    (hkw : PK X kws tk) (h1 : (backToKw pos (keywordEach kws X.env)).all (·.1.isSome) = true := by rfl) (h2 : (backToKw pos (keywordEach kws X.env)).filterMap (·.1) = ks := by rfl)
    (hdb : (x == ("__debug__" : Str)) = false := by decide) (h3 : (backToKw pos (keywordEach kws X.env)).any (·.1.isNone) = false := by rfl) :
    PE X (.Call (.Name x p) [] kws pos) (tCallK sp gV E tNil tk) := by
  refine ⟨fun pins s σ H Q I h => ?_⟩
  refine wpAny_Call_Name_kw (ld_glob I hg hm ?_ hdb)
  refine PySem.W.callWith_KW0 (h₀ := X.base) I.ok.mod.kin hk h1 (thn (hkw.run pos pins s σ H _ I h) fun ws s2 ⟨zs, H2, I2, rz, q2⟩ => ?_) h3
  rw [h2]
  exact ⟨I2.kIn, run_fnk F hr hb hx I2 .nil rz q2⟩
end
section
variable {F : Fx} {B : Bs} {δ : Env} {μ : Mu} {k : Know} {D : Ends} {te : TE}
/-- an if without else, something behind it -/
theorem q_when {P : Bool → Prop} {c : TT} {t w : TS} (h : ETk F c δ μ P) (h1 : P true → Tr F B δ μ t { D with nx := w D }) (h2 : P false → Tr F B δ μ w D) : Tr F B δ μ (tSeq (tIfS c t tNext) w) D := s_if (D := { D with nx := w D }) h h1 h2
/-- if c: x = e, something behind it -/
theorem q_whenAsg {P : Bool → Prop} {c : TT} {w : TS} {i : Nat} (h : ETk F c δ μ P) (h1 : P true → Ek F te δ μ k) (h2 : P true → Tr F B (δ.set i (some k)) μ w D) (h3 : P false → Tr F B δ μ w D) : Tr F B δ μ (tSeq (tIfS c (tAsg te (gName i)) tNext) w) D :=
  s_if (D := { D with nx := w D }) h (fun p => s_asg (D := { D with nx := w D }) (h1 p) (h2 p)) h3
end
section
variable {F : Fx} {B : Bs} {δ : Env} {μ : Mu} {k : Know} {D : Ends} {te : TE} {K : PySem.W.Frag}
/-- a for, with a word C of the turn's number and the state -/
theorem s_forC {wi : TI} {g : TG} {tb : TS} {n : Nat} {kn : Nat → Know} {β : Type} (I : β → Env × Mu) (C : Nat → β → Prop) (hs : EI F wi δ μ n kn) (b0 : β) (c0 : C 0 b0)
    (h0 : LeE True δ (I b0).1) (h0' : μ = (I b0).2)
    (ht : ∀ B' : Bs, BLe B B' → ∀ i b, i < n → C i b → ∃ δ', Gk g (kn i) (I b).1 δ' ∧
      ∀ N : St → Hp → Prop, (∀ b', C (i + 1) b' → To F B' (I b').1 (I b').2 N) → Tr F B' δ' (I b).2 tb { D with nx := N, ct := N, bk := D.nx })
    (hd : ∀ b, C n b → To F B (I b).1 (I b).2 D.nx) : Tr F B δ μ (tFor wi g tb) D := fun σ H ⟨G, z⟩ =>
  hs G H σ z.st _ fun J G1 H1 Gd Y g1 j1 W hGd hY => by
    obtain ⟨z1, l⟩ := (z.step g1 j1).rebase
    refine for_it W (fun i σ H => ∃ b, C i b ∧ At F (B.at_ F μ G1 H1) (I b).1 (I b).2 σ H) ⟨b0, c0, G1, h0' ▸ z1.weak h0⟩ (fun i σ H _ ⟨b, _, G2, z2⟩ => hGd H (z2.gr.gg.trans z2.st.sub)) ?_ (fun σ H ⟨b, cb, z2⟩ => hd b cb σ H (z2.up l))
    rintro i x σ H H' hi ⟨b, cb, G2, z2⟩ y
    obtain ⟨G3, g3, p⟩ := hY i H x H' G2 hi z2.gr.gg z2.st.sub y
    have z3 := z2.step (g3.wide fun _ h => nomatch h) (F.pure g3 z2.st.j)
    obtain ⟨δ', hg, hb⟩ := ht _ l i b hi cb
    exact hg G3 H' σ x z3.st.sub p z3.st.env _ fun σ' e' => hb _ (fun b' cb' σ'' H'' z' => ⟨b', cb', z'⟩) σ' H' ⟨G3, z3.s0, z3.gr, ⟨z3.st.sub, z3.st.j, e', z3.st.own⟩, z3.fp, z3.ow⟩
/-- .. whose target is a name -/
theorem s_forN {wi : TI} {tb : TS} {n : Nat} {kn : Nat → Know} {j : Nat} {β : Type} (I : β → Env × Mu) (C : Nat → β → Prop) (hs : EI F wi δ μ n kn) (b0 : β) (c0 : C 0 b0)
    (h0 : LeE True δ (I b0).1) (h0' : μ = (I b0).2)
    (ht : ∀ B' : Bs, BLe B B' → ∀ i b, i < n → C i b → ∀ N : St → Hp → Prop, (∀ b', C (i + 1) b' → To F B' (I b').1 (I b').2 N) → Tr F B' ((I b).1.set j (some (kn i))) (I b).2 tb { D with nx := N, ct := N, bk := D.nx })
    (hd : ∀ b, C n b → To F B (I b).1 (I b).2 D.nx) : Tr F B δ μ (tFor wi (gName j) tb) D :=
  s_forC I C hs b0 c0 h0 h0' (fun B' l i b hi cb => ⟨_, gk_name, ht B' l i b hi cb⟩) hd
theorem q_forN {wi : TI} {tb w : TS} {n : Nat} {kn : Nat → Know} {j : Nat} {β : Type} (I : β → Env × Mu) (C : Nat → β → Prop) (hs : EI F wi δ μ n kn) (b0 : β) (c0 : C 0 b0)
    (h0 : LeE True δ (I b0).1) (h0' : μ = (I b0).2)
    (ht : ∀ B' : Bs, BLe B B' → ∀ i b, i < n → C i b → ∀ N : St → Hp → Prop, (∀ b', C (i + 1) b' → To F B' (I b').1 (I b').2 N) → Tr F B' ((I b).1.set j (some (kn i))) (I b).2 tb { D with nx := N, ct := N, bk := w D })
    (hd : ∀ b, C n b → Tr F B (I b).1 (I b).2 w D) : Tr F B δ μ (tSeq (tFor wi (gName j) tb) w) D := s_forN (D := { D with nx := w D }) I C hs b0 c0 h0 h0' ht hd
/-- a list of things of one kind -/
theorem listK_ex {α : Type} {S : α → Know} : ∀ (n : Nat) {v : V} {G : Hp}, (listK (List.replicate n (exK S))).p v G → (exK fun xs : {xs : List α // xs.length = n} => listK (xs.1.map S)).p v G := by
  have key : ∀ (n : Nat) (vs : List V) (G : Hp), AllK G vs (List.replicate n (exK S)) → ∃ xs : List α, xs.length = n ∧ AllK G vs (xs.map S) := by
    intro n
    induction n with
    | zero => intro vs G h; cases h; exact ⟨[], rfl, .nil⟩
    | succ n ih =>
      intro vs G h
      rw [List.replicate_succ] at h
      cases h with
      | cons a b =>
        obtain ⟨x, p⟩ := a
        obtain ⟨xs, e, r⟩ := ih _ _ b
        exact ⟨x :: xs, by rw [List.length_cons, e], .cons p r⟩
  rintro n v G ⟨a, vs, e, h, r⟩
  obtain ⟨xs, e2, r2⟩ := key n vs G r
  exact ⟨⟨xs, e2⟩, a, vs, e, h, r2⟩
theorem outs_rep (k : Know) (n : Nat) : outs (fun _ => true) (fun _ => k) n = List.replicate n k := by
  rw [outs_all]
  apply List.ext_getElem?
  intro i
  rw [List.getElem?_map, List.getElem?_replicate]
  by_cases h : i < n
  · rw [List.getElem?_range h, if_pos h]; rfl
  · rw [List.getElem?_eq_none (by rw [List.length_range]; omega), if_neg h]; rfl
/-- [e for k in range(n)], e drawn anew at each turn -/
theorem ek_lcDrawn {ta : TA} {j n : Nat} {α : Type} {S : α → Know} (h : EAk F ta δ μ [valK (.int (n : Int))]) (hn : n ≤ 1000000) (he : ∀ i, i < n → Ek F te ((wipeE δ [j]).set j (some (valK (.int (i : Int))))) μ (exK S)) :
    Ek F (tLc (iRng1 ta) (gName j) tYes te [j]) δ μ (exK fun xs : {xs : List α // xs.length = n} => listK (xs.1.map S)) := by
  have h1 := ei_rng1 (F := F) (δ := δ) (μ := μ) h (by omega) (by omega)
  rw [Int.toNat_natCast] at h1
  have h2 := en_lc (fun _ => true) (fun _ => exK S) h1 (Nat.le_trans hn (by decide)) gw_name (fun i hi => ⟨_, gk_name, et_yes, fun _ => he i hi⟩)
  rw [outs_rep] at h2
  exact ek_weak (en_ek h2) fun v G p => listK_ex n p
/-! ### subscripts and lengths of either kind -/
theorem rk_ixDraw {ks : List Know} {many : Int} {S : {r : Int // 0 ≤ r ∧ r < (ks.length : Int)} → Know} (hS : ∀ r, S r = ks.get ⟨r.1.toNat, by have := r.2; omega⟩) {f : {r : Int // 0 ≤ r ∧ r < (ks.length : Int)} → Know} (hf : ∀ r, f r = valK (.int r.1)) : Rk F μ (rIx K) (listK ks) (exK f) (exK S) :=
  rk_exr fun r => by
    rw [hf]
    intro G H x y s jj o p1 p2 Q q
    have hr : r.1.toNat < ks.length := by have := r.2; omega
    have := rk_ixL (F := F) (μ := μ) (K := K) (k := ks.get ⟨r.1.toNat, hr⟩) (ks := ks) (i := r.1) (j := r.1.toNat) (k1 := listK ks) rd_list (ixN_int r.2.1 r.2.2) (by rw [List.getElem?_eq_getElem hr]; rfl) G H x y s jj o p1 p2 Q (fun v G' H' g j p => q v G' H' g j (by rw [hS]; exact p))
    exact .inl this
end
end Dl
end
section
/-! Sorted lists without doubles, by any strict order: plain mathematics. -/
namespace Sx
/-- a strict order, as tests -/
structure Ord {α : Type} (lt : α → α → Bool) : Prop where
  irr : ∀ a, lt a a = false
  tr : ∀ a b c, lt a b = true → lt b c = true → lt a c = true
  tot : ∀ a b, a ≠ b → lt a b = true ∨ lt b a = true
section
variable {α : Type} [DecidableEq α] {lt : α → α → Bool}
def insU (lt : α → α → Bool) (x : α) : List α → List α
  | [] => [x]
  | y :: ys => if x = y then y :: ys else if lt x y = true then x :: y :: ys else y :: insU lt x ys
/-- the different ones, ascending -/
def sortU (lt : α → α → Bool) : List α → List α
  | [] => []
  | x :: xs => insU lt x (sortU lt xs)
/-- strictly ascending -/
def Asc (lt : α → α → Bool) (l : List α) : Prop := l.Pairwise (fun a b => lt a b = true)
theorem mem_insU {x z : α} : ∀ {ys : List α}, z ∈ insU lt x ys ↔ z = x ∨ z ∈ ys
  | [] => by simp [insU]
  | y :: ys => by
    unfold insU
    split
    · rename_i h; subst h; simp
    · split
      · simp
      · rw [List.mem_cons, mem_insU, List.mem_cons]
        constructor
        · rintro (h | h | h)
          · exact .inr (.inl h)
          · exact .inl h
          · exact .inr (.inr h)
        · rintro (h | h | h)
          · exact .inr (.inl h)
          · exact .inl h
          · exact .inr (.inr h)
theorem mem_sortU {z : α} : ∀ {xs : List α}, z ∈ sortU lt xs ↔ z ∈ xs
  | [] => Iff.rfl
  | x :: xs => by
    show z ∈ insU lt x (sortU lt xs) ↔ _
    rw [mem_insU, mem_sortU, List.mem_cons]
theorem insU_asc (O : Ord lt) (x : α) : ∀ {ys : List α}, Asc lt ys → Asc lt (insU lt x ys)
  | [], _ => List.pairwise_singleton _ _
  | y :: ys, h => by
    obtain ⟨h1, h2⟩ := List.pairwise_cons.mp h
    unfold insU
    split
    · exact h
    · rename_i hne
      split
      · rename_i hlt
        refine List.pairwise_cons.mpr ⟨fun z hz => ?_, h⟩
        rcases List.mem_cons.mp hz with rfl | hz
        · exact hlt
        · exact O.tr _ _ _ hlt (h1 z hz)
      · rename_i hlt
        refine List.pairwise_cons.mpr ⟨fun z hz => ?_, insU_asc O x h2⟩
        rcases mem_insU.mp hz with rfl | hz
        · rcases O.tot _ _ hne with h | h
          · exact absurd h hlt
          · exact h
        · exact h1 z hz
theorem sortU_asc (O : Ord lt) : ∀ xs : List α, Asc lt (sortU lt xs)
  | [] => List.Pairwise.nil
  | x :: xs => insU_asc O x (sortU_asc O xs)
theorem asc_nodup (O : Ord lt) {l : List α} (h : Asc lt l) : l.Nodup := List.Pairwise.imp (fun {a b} q e => by subst e; rw [O.irr] at q; cases q) h
/-- two ascending lists of the same members are one -/
theorem asc_ext (O : Ord lt) : ∀ {a b : List α}, Asc lt a → Asc lt b → (∀ z, z ∈ a ↔ z ∈ b) → a = b
  | [], [], _, _, _ => rfl
  | [], y :: ys, _, _, h => absurd ((h y).mpr List.mem_cons_self) (by simp)
  | x :: xs, [], _, _, h => absurd ((h x).mp List.mem_cons_self) (by simp)
  | x :: xs, y :: ys, ha, hb, h => by
    obtain ⟨a1, a2⟩ := List.pairwise_cons.mp ha
    obtain ⟨b1, b2⟩ := List.pairwise_cons.mp hb
    have e : x = y := by
      rcases List.mem_cons.mp ((h x).mp List.mem_cons_self) with e | hx
      · exact e
      · rcases List.mem_cons.mp ((h y).mpr List.mem_cons_self) with e | hy
        · exact e.symm
        · have p := O.tr _ _ _ (a1 y hy) (b1 x hx)
          rw [O.irr] at p; cases p
    subst e
    rw [asc_ext O a2 b2 fun z => ?_]
    constructor
    · intro hz
      rcases List.mem_cons.mp ((h z).mp (List.mem_cons_of_mem _ hz)) with e | q
      · subst e; have p := a1 _ hz; rw [O.irr] at p; cases p
      · exact q
    · intro hz
      rcases List.mem_cons.mp ((h z).mpr (List.mem_cons_of_mem _ hz)) with e | q
      · subst e; have p := b1 _ hz; rw [O.irr] at p; cases p
      · exact q
theorem sortU_of (O : Ord lt) {l xs : List α} (h : Asc lt l) (hm : ∀ z, z ∈ l ↔ z ∈ xs) : l = sortU lt xs := asc_ext O h (sortU_asc O xs) fun z => (hm z).trans mem_sortU.symm
theorem sortU_congr (O : Ord lt) {xs ys : List α} (h : ∀ z, z ∈ xs ↔ z ∈ ys) : sortU lt xs = sortU lt ys := asc_ext O (sortU_asc O xs) (sortU_asc O ys) fun z => by rw [mem_sortU, mem_sortU]; exact h z
theorem insU_len (x : α) : ∀ ys : List α, (insU lt x ys).length ≤ ys.length + 1
  | [] => Nat.le_refl _
  | y :: ys => by
    unfold insU
    split
    · exact Nat.le_succ _
    · split
      · exact Nat.le_refl _
      · rw [List.length_cons, List.length_cons]; exact Nat.succ_le_succ (insU_len x ys)
theorem sortU_len : ∀ xs : List α, (sortU lt xs).length ≤ xs.length
  | [] => Nat.le_refl _
  | x :: xs => Nat.le_trans (insU_len x _) (Nat.succ_le_succ (sortU_len xs))

/-! ### a rank among finitely many -/
def rank (lt : α → α → Bool) (l : List α) (x : α) : Int := ((l.filter fun y => lt y x).length : Nat)
theorem rank_le (O : Ord lt) (l : List α) {x y : α} (h : lt y x = false) : rank lt l x ≤ rank lt l y := by
  unfold rank
  have key : (l.filter fun z => lt z x).length ≤ (l.filter fun z => lt z y).length := by
    induction l with
    | nil => exact Nat.le_refl _
    | cons z l ih =>
      rw [List.filter_cons, List.filter_cons]
      by_cases c : lt z x = true
      · have d : lt z y = true := by
          by_cases e : x = y
          · subst e; exact c
          · rcases O.tot _ _ e with q | q
            · exact O.tr _ _ _ c q
            · rw [h] at q; cases q
        rw [if_pos c, if_pos d]; exact Nat.succ_le_succ ih
      · rw [if_neg c]
        split
        · exact Nat.le_succ_of_le ih
        · exact ih
  exact Int.ofNat_le.mpr key
theorem rank_lt (O : Ord lt) {l : List α} {x y : α} (hx : x ∈ l) (h : lt x y = true) : rank lt l x < rank lt l y := by
  unfold rank
  have key : ∀ l : List α, x ∈ l → (l.filter fun z => lt z x).length < (l.filter fun z => lt z y).length := by
    intro l
    induction l with
    | nil => intro q; cases q
    | cons z l ih =>
      intro q
      rw [List.filter_cons, List.filter_cons]
      have mono : (l.filter fun z => lt z x).length ≤ (l.filter fun z => lt z y).length := by
        have nb : lt y x = false := by
          cases c : lt y x with
          | false => rfl
          | true => have p := O.tr _ _ _ h c; rw [O.irr] at p; cases p
        have p := rank_le O l nb
        unfold rank at p
        exact Int.ofNat_le.mp p
      rcases List.mem_cons.mp q with e | q
      · subst e
        rw [if_neg (by rw [O.irr]; exact Bool.false_ne_true), if_pos h]
        exact Nat.lt_succ_of_le mono
      · have p := ih q
        by_cases c : lt z x = true
        · rw [if_pos c, if_pos (O.tr _ _ _ c h)]; exact Nat.succ_lt_succ p
        · rw [if_neg c]
          split
          · exact Nat.lt_succ_of_lt p
          · exact p
  exact Int.ofNat_lt.mpr (key l hx)
theorem rank_dec (O : Ord lt) {l : List α} {x y : α} (hx : x ∈ l) : decide (rank lt l x < rank lt l y) = lt x y := by
  cases c : lt x y with
  | true => exact decide_eq_true (rank_lt O hx c)
  | false =>
    refine decide_eq_false fun q => ?_
    have p := rank_le O l (x := y) (y := x) c
    omega
/-- ranks that do not fall, no doubles: ascending -/
theorem asc_of_rank (O : Ord lt) {l m : List α} (hm : ∀ z, z ∈ m → z ∈ l) (nd : m.Nodup) (h : m.Pairwise fun a b => rank lt l a ≤ rank lt l b) : Asc lt m := by
  refine List.Pairwise.imp_of_mem (fun {a b} ha hb q => ?_) (List.pairwise_and_iff.mpr ⟨h, nd⟩)
  rcases O.tot _ _ q.2 with p | p
  · exact p
  · have r := rank_lt O (hm b hb) p
    have q1 := q.1
    omega
end

/-! ### lists of things, by the things -/
def lexB {α : Type} [DecidableEq α] (lt : α → α → Bool) : List α → List α → Bool
  | [], [] => false
  | [], _ :: _ => true
  | _ :: _, [] => false
  | x :: xs, y :: ys => if x = y then lexB lt xs ys else lt x y
theorem lexB_ord {α : Type} [DecidableEq α] {lt : α → α → Bool} (O : Ord lt) : Ord (lexB lt) where
  irr := fun a => by
    induction a with
    | nil => rfl
    | cons x xs ih => unfold lexB; rw [if_pos rfl]; exact ih
  tr := fun a => by
    induction a with
    | nil =>
      intro b c h1 h2
      cases b with
      | nil => exact h2
      | cons y ys =>
        cases c with
        | nil => simp [lexB] at h2
        | cons z zs => rfl
    | cons x xs ih =>
      intro b c h1 h2
      cases b with
      | nil => simp [lexB] at h1
      | cons y ys =>
        cases c with
        | nil => simp [lexB] at h2
        | cons z zs =>
          unfold lexB at h1 h2 ⊢
          by_cases e1 : x = y
          · rw [if_pos e1] at h1
            by_cases e2 : y = z
            · rw [if_pos e2] at h2; rw [if_pos (e1.trans e2)]; exact ih _ _ h1 h2
            · rw [if_neg e2] at h2; subst e1; rw [if_neg e2]; exact h2
          · rw [if_neg e1] at h1
            by_cases e2 : y = z
            · subst e2; rw [if_neg e1]; exact h1
            · rw [if_neg e2] at h2
              have p := O.tr _ _ _ h1 h2
              rw [if_neg (fun e => by subst e; rw [O.irr] at p; cases p)]; exact p
  tot := fun a => by
    induction a with
    | nil =>
      intro b h
      cases b with
      | nil => exact absurd rfl h
      | cons y ys => exact .inl rfl
    | cons x xs ih =>
      intro b h
      cases b with
      | nil => exact .inr rfl
      | cons y ys =>
        unfold lexB
        by_cases e : x = y
        · subst e
          rw [if_pos rfl, if_pos rfl]
          exact ih ys fun q => h (by rw [q])
        · rw [if_neg e, if_neg (fun q => e q.symm)]
          exact O.tot _ _ e
end Sx
end
section
set_option maxRecDepth 100000
set_option maxHeartbeats 2000000
/-! Sets of texts that can be sorted. -/
namespace Sx
open PySem PySem.Spec PyProof.Rows L2

def ltS (x y : Str) : Bool := decide (x.cps.toList < y.cps.toList)
theorem str_ext {x y : Str} (h : x.cps.toList = y.cps.toList) : x = y := by
  cases x; cases y
  have e := Array.toList_inj.mp h
  simp only at e
  rw [e]
theorem ltS_ord : Ord ltS where
  irr := fun a => decide_eq_false (List.lt_irrefl _)
  tr := fun a b c h1 h2 => decide_eq_true (List.lt_trans (of_decide_eq_true h1) (of_decide_eq_true h2))
  tot := fun a b h => by
    unfold ltS
    by_cases c : a.cps.toList < b.cps.toList
    · exact .inl (decide_eq_true c)
    · by_cases d : b.cps.toList < a.cps.toList
      · exact .inr (decide_eq_true d)
      · exact absurd (str_ext (List.le_antisymm (List.not_lt.mp d) (List.not_lt.mp c))) h
theorem rising_pw : ∀ (p : Str) (l : List Str), risingS p l = true → (p :: l).Pairwise (fun a b => ltS b a = false)
  | p, [], _ => List.pairwise_singleton _ _
  | p, x :: r, h => by
    have h' : (!ltCps x.cps.toList p.cps.toList && risingS x r) = true := h
    rw [Bool.and_eq_true] at h'
    have ih := rising_pw x r h'.2
    have e : ltS x p = false := by
      have q := h'.1
      rw [ltCps_eq] at q
      unfold ltS
      simpa using q
    refine List.pairwise_cons.mpr ⟨fun z hz => ?_, ih⟩
    rcases List.mem_cons.mp hz with rfl | hz
    · exact e
    · have q := (List.pairwise_cons.mp ih).1 z hz
      cases c : ltS z p with
      | false => rfl
      | true =>
        by_cases ez : z = x
        · subst ez; rw [e] at c; cases c
        · rcases ltS_ord.tot _ _ ez with k | k
          · rw [q] at k; cases k
          · have := ltS_ord.tr _ _ _ k c
            rw [e] at this; cases this
theorem asc_sortedS {ys : List Str} (nd : ys.Nodup) (h : sortedS ys = true) : Asc ltS ys := by
  have pw : ys.Pairwise (fun a b => ltS b a = false) := by
    cases ys with
    | nil => exact List.Pairwise.nil
    | cons p l => exact rising_pw p l h
  refine List.Pairwise.imp (fun {a b} q => ?_) (List.pairwise_and_iff.mpr ⟨pw, nd⟩)
  rcases ltS_ord.tot _ _ q.2 with k | k
  · exact k
  · rw [q.1] at k; cases k

/-! ### the set -/
def txOf (e : Int × Value) : Str := match e.2 with | .str x _ => x | _ => Str.empty
def IsTx (w : World) (e : Int × Value) : Prop := ∃ x tk, e.2 = Value.str x tk ∧ e.1 = hashStr w x
structure SetX0 (w : World) (es : Array (Int × Value)) (t : SetTable) (xs : List Str) : Prop where
  tx : ∀ e ∈ es.toList, IsTx w e
  pm : (es.toList.map txOf).Perm xs
  nd : xs.Nodup
  sm : es.size < scanBound
  ft : t.fits es.size = true
  rs : Ris t.place.toList
  ld : w.params.followText "set-order" = true ∨ t.led = true
def SetX (w : World) (h : Heap) (a : Addr) (xs : List Str) : Prop := ∃ o es ep t, h.get? a = some o ∧ o.ExactSet ∧ o.data = .set es ep t ∧ SetX0 w es t xs
section
variable {P : Program} {w : World} {A : Around} {E : Value → Shared → Prop} {s : Shared} {a : Addr} {xs : List Str} {es : Array (Int × Value)} {t : SetTable} {h h' : Heap}
theorem SetX0.size (R : SetX0 w es t xs) : es.size = xs.length := by
  have q := R.pm.length_eq
  rw [List.length_map, Array.length_toList] at q
  exact q
theorem SetX.mono (R : SetX w h a xs) (k : ∀ o, h.get? a = some o → h'.get? a = some o) : SetX w h' a xs := by
  obtain ⟨o, es, ep, t, ho, r⟩ := R
  exact ⟨o, es, ep, t, k o ho, r⟩
theorem SetX0.elems (R : SetX0 w es t xs) : ElemsOf (PySem.strKind P w) es.toList := fun e he => by
  obtain ⟨x, tk, e1, e2⟩ := R.tx e he
  exact ⟨⟨x, by rw [e1]; exact strKind_is P w x tk, e2⟩, by rw [e1]; rfl⟩
theorem tx_is {e : Int × Value} (g : IsTx w e) (x : Str) : (PySem.strKind P w).is x e.2 = true ↔ txOf e = x := by
  obtain ⟨y, tk, e1, _⟩ := g
  have e2 : txOf e = y := by unfold txOf; rw [e1]
  rw [e2, e1]
  constructor
  · intro q
    exact (PySem.strKind P w).inj _ _ _ (strKind_is P w y tk) q
  · intro q
    rw [← q]; exact strKind_is P w y tk
theorem SetX0.mem (R : SetX0 w es t xs) (x : Str) : x ∈ xs ↔ ∃ e ∈ es.toList, (PySem.strKind P w).is x e.2 = true := by
  rw [← R.pm.mem_iff, List.mem_map]
  constructor
  · rintro ⟨e, he, q⟩; exact ⟨e, he, (tx_is (R.tx e he) x).mpr q⟩
  · rintro ⟨e, he, q⟩; exact ⟨e, he, (tx_is (R.tx e he) x).mp q⟩
/-- the table laid into the heap -/
theorem tail_ok {g : Bool → Sem Unit} (hg : ∀ (b : Bool) (s1 : Shared) (Q' : Unit → Shared → Prop), Q' () s1 → wpAny (model P w) A (g b) Q' E s1)
    {o : Obj} {ep : Nat} (ho : s.heap.get? a = some o) (hex : o.ExactSet) (hd : o.data = .set es ep t) {es1 : Array (Int × Value)} {t2 : SetTable} {ys : List Str} (R1 : SetX0 w es1 t2 ys) {wd : Bool} {R : Option Bool → Shared → Prop}
    (hR : ∀ h2, Heap.SameBut a s.heap h2 → SetX w h2 a ys → R (some true) { s with heap := h2 }) :
    wpAny (model P w) A (do
        storeSet a es1 t2
        if (!wd && t2.tooFull) = true then do
            g (relayAll t2 es1 (SetTable.grown es1.size)).2.2
            storeSet a (relayAll t2 es1 (SetTable.grown es1.size)).1 (relayAll t2 es1 (SetTable.grown es1.size)).2.1
            pure (some true)
          else pure (some true)) R E s := by
  refine wpAny_bind (wpAny_storeSet_of ho hd ?_ (fits_of_scanBound R1.sm))
  have o1 := store_at (es' := es1) (t' := t2) ho hd
  have b1 := Heap.SameBut.update s.heap a (Obj.putSet es1 t2)
  split
  · have pm := relayAll_perm t2 es1 (SetTable.grown es1.size)
    have f3 := relayAll_fits t2 es1 (SetTable.grown es1.size)
    have r3 := relayAll_ris t2 es1 (SetTable.grown es1.size)
    have l3 := relayAll_led t2 es1 (SetTable.grown es1.size)
    generalize relayAll t2 es1 (SetTable.grown es1.size) = Z at pm f3 r3 l3 ⊢
    obtain ⟨es2, t3, gave⟩ := Z
    dsimp only at pm f3 r3 l3 ⊢
    have sz : es2.size = es1.size := by rw [← Array.length_toList, pm.length_eq, Array.length_toList]
    have R2 : SetX0 w es2 t3 ys := ⟨fun e he => R1.tx e (pm.mem_iff.mp he), (pm.map txOf).trans R1.pm, R1.nd, by rw [sz]; exact R1.sm, f3, r3, R1.ld.imp id fun z => l3.trans z⟩
    refine wpAny_bind (hg _ _ _ ?_)
    refine wpAny_bind (wpAny_storeSet_of o1 rfl ?_ (fits_of_scanBound R2.sm))
    exact wpAny_pure (hR _ (b1.trans (Heap.SameBut.update _ a _)) ⟨_, es2, _, t3, store_at o1 rfl, hex, rfl, R2⟩)
  · exact wpAny_pure (hR _ b1 ⟨_, es1, _, t2, o1, hex, rfl, R1⟩)
def putU (x : Str) (xs : List Str) : List Str := if x ∈ xs then xs else x :: xs
theorem mem_putU {x z : Str} : z ∈ putU x xs ↔ z = x ∨ z ∈ xs := by
  unfold putU
  split
  · rename_i h
    exact ⟨.inr, fun q => q.elim (fun e => by rw [e]; exact h) id⟩
  · exact List.mem_cons
theorem putU_len {x : Str} : (putU x xs).length ≤ xs.length + 1 := by
  unfold putU
  split
  · exact Nat.le_succ _
  · exact Nat.le_refl _
set_option maxHeartbeats 4000000 in
/-- one text put in -/
theorem add_tx {x : Str} {tk : Tok} {Q : Bool → Shared → Prop} (R : SetX w s.heap a xs) (room : xs.length + 1 < scanBound)
    (hQ : ∀ b h2, Heap.SameBut a s.heap h2 → SetX w h2 a (putU x xs) → Q b { s with heap := h2 }) : wpAny (model P w) A (setAddHashed a (.str x tk) ((PySem.strKind P w).hash x)) Q E s := by
  obtain ⟨o, es, ep, t, ho, hex, hd, R⟩ := R
  have hk : (PySem.strKind P w).is x (.str x tk) = true := strKind_is P w x tk
  have hsc : (Value.str x tk).scannable = true := rfl
  have el : ElemsOf (PySem.strKind P w) es.toList := R.elems
  unfold setAddHashed setAddHashedIn
  refine wpAny_holding (wpAny_bind (wpAny_setState_of ho hd R.ft ?_))
  dsimp only
  rw [byScan_of hsc R.sm el]
  simp only [↓reduceIte]
  unfold setAddByScan
  refine wpAny_bind (wpAny_bind (wpAny_rule (wpAny_bind (wpAny_setScan_of hk ho hd R.ft el ?_))))
  cases hf : List.findIdx? (fun e => (PySem.strKind P w).is x e.2) es.toList with
  | some j =>
    dsimp only
    obtain ⟨hj, pj, _⟩ := List.findIdx?_eq_some_iff_getElem.mp hf
    have hm : x ∈ xs := (R.mem (P := P) x).mpr ⟨es.toList[j], List.getElem_mem hj, pj⟩
    refine wpAny_pure (wpAny_pure (hQ _ s.heap (Heap.SameBut.refl a s.heap) ?_))
    unfold putU
    rw [if_pos hm]
    exact ⟨o, es, ep, t, ho, hex, hd, R⟩
  | none =>
    dsimp only
    have hm : x ∉ xs := fun z => by
      obtain ⟨e, he, q⟩ := (R.mem (P := P) x).mp z
      have c := List.findIdx?_eq_none_iff.mp hf e he
      rw [q] at c; cases c
    have eP : putU x xs = x :: xs := if_neg hm
    have gw : ∀ (b : Bool) {s1 : Shared} {Q' : Unit → Shared → Prop}, Q' () s1 → wpAny (model P w) A (match b with | true => rule "set.scan.the-table-gave-way" | false => pure ()) Q' E s1 :=
      fun b s1 Q' q => by cases b <;> first | exact wpAny_pure q | exact wpAny_rule q
    have pm := layNew_perm t es ((PySem.strKind P w).hash x) (.str x tk)
    have f1 := layNew_fits t es ((PySem.strKind P w).hash x) (.str x tk)
    have r1 := layNew_ris t es ((PySem.strKind P w).hash x) (.str x tk) R.rs
    have l1 := layNew_led t es ((PySem.strKind P w).hash x) (.str x tk)
    generalize layNew t es ((PySem.strKind P w).hash x) (.str x tk) = Z at pm f1 r1 l1 ⊢
    obtain ⟨es1, t1, wd, gave⟩ := Z
    dsimp only at pm f1 r1 l1 ⊢
    rw [Array.toList_push] at pm
    have pc : es1.toList.Perm (((PySem.strKind P w).hash x, Value.str x tk) :: es.toList) := pm.trans (List.perm_append_singleton _ _)
    have sz : es1.size = xs.length + 1 := by rw [← Array.length_toList, pc.length_eq, List.length_cons, Array.length_toList, R.size]
    have R1 : ∀ t2 : SetTable, t2.fits es1.size = true → Ris t2.place.toList → t2.led = t1.led → SetX0 w es1 t2 (x :: xs) := fun t2 g1 g2 g3 =>
      ⟨fun e he => by
        rcases List.mem_cons.mp (pc.mem_iff.mp he) with z | z
        · rw [z]; exact ⟨x, tk, rfl, rfl⟩
        · exact R.tx e z, (pc.map txOf).trans (List.Perm.cons x R.pm), List.nodup_cons.mpr ⟨hm, R.nd⟩, by rw [sz]; exact room, g1, g2, R.ld.imp id fun z => g3.trans (l1.trans z)⟩
    have fin : ∀ h2, Heap.SameBut a s.heap h2 → SetX w h2 a (x :: xs) → Q true { s with heap := h2 } := fun h2 sb r => hQ true h2 sb (by rw [eP]; exact r)
    refine wpAny_bind (gw _ ?_)
    split
    · refine wpAny_bind ?_
      rw [hashByValue_scannable 8 hsc]
      refine wpAny_pure (tail_ok ?_ ho hex hd (R1 _ ?_ ?_ ?_) ?_)
      · intro b s1 Q' q; cases b <;> first | exact wpAny_pure q | exact wpAny_rule q
      · first | (split <;> first | exact f1 | exact SetTable.fits_plain_off f1) | exact f1
      · first | (split <;> exact r1) | exact r1
      · first | (split <;> rfl) | rfl
      · intro h2 sb r; dsimp only; exact wpAny_pure (fin h2 sb r)
    · refine wpAny_bind (wpAny_pure ?_)
      simp only [↓reduceIte]
      refine tail_ok ?_ ho hex hd (R1 _ f1 r1 rfl) ?_
      · intro b s1 Q' q; cases b <;> first | exact wpAny_pure q | exact wpAny_rule q
      · intro h2 sb r; dsimp only; exact wpAny_pure (fin h2 sb r)
abbrev freshSet (w : World) : Obj := { cls := .type "set", dict := none, data := .set #[] 0 (.fresh 0 0 (!w.params.followText "set-order")) }
theorem setX_new (ho : h.get? a = some (freshSet w)) : SetX w h a [] :=
  ⟨_, #[], 0, _, ho, ⟨rfl, rfl, rfl⟩, rfl, ⟨fun e he => absurd he (by simp), List.Perm.nil, List.nodup_nil, by decide, by rfl, List.Pairwise.nil, by
    show _ ∨ (!w.params.followText "set-order") = true
    cases w.params.followText "set-order"
    · exact .inr rfl
    · exact .inl rfl⟩⟩
set_option maxHeartbeats 4000000 in
/-- sorted(set) -/
theorem sorted_tx {Q : Value → Shared → Prop} (R : SetX w s.heap a xs) (hh : A.handled = none) (h64 : xs.length < 64)
    (hQ : ∀ s2 p (out : Array Value) (c : Nat) (ys : List Str), (∀ b o, s.heap.get? b = some o → s2.heap.get? b = some o) → s2.gens = s.gens → s2.os = s.os → s.heap.objs.size ≤ p →
      s2.heap.get? p = some (seqObj "list" out c) → StrsAre out.toList ys → ys.Perm xs → sortedS ys = true → Q (.ref p) s2) :
    wpAny (model P w) A (call (.builtin "sorted") [.ref a]) Q E s := by
  obtain ⟨o, es, ep, t, ho, hex, hd, R⟩ := R
  refine Calls.call_function_entry kind_sorted plain_sorted entry_sorted (args_sorted1 _) ?_
  unfold Builtin.«sorted»
  refine wpAny_bind (m := checkCount "sorted" 1 1 _) (wpAny_pure ?_)
  refine wpAny_bind (collect_set (A := A.in1) hh ⟨o, ho, hex.1, hd⟩ R.ft R.sm R.rs R.ld fun s1 vs k1 hz g1 o1 pm => ?_)
  have hl : vs.length = xs.length := by rw [pm.length_eq, List.length_map, Array.length_toList]; exact R.size
  have all : ∀ v ∈ vs, ∃ x tk, v = Value.str x tk := fun v hv => by
    obtain ⟨e, he, q⟩ := List.mem_map.mp (pm.mem_iff.mp hv)
    obtain ⟨x, tk, e1, _⟩ := R.tx e he
    exact ⟨x, tk, q.symm.trans e1⟩
  have hS : StrsAre vs (vs.map strOf) := strsAre_map vs all
  have pk : (vs.map strOf).Perm xs := by
    have q := pm.map strOf
    rw [List.map_map] at q
    refine q.trans ?_
    have e : es.toList.map (strOf ∘ fun e => e.2) = es.toList.map txOf := List.map_congr_left fun e he => by
      obtain ⟨x, tk, e1, _⟩ := R.tx e he
      show strOf e.2 = txOf e
      unfold txOf
      rw [e1]; rfl
    rw [e]; exact R.pm
  refine wpAny_bind (wpAny_newList ?_ (by rw [hl, sizeLine_eq]; omega))
  have hoL : (s1.heap.push (seqObj "list" vs.toArray 0)).get? s1.heap.objs.size = some (seqObj "list" vs.toArray 0) := Heap.get?_push_size _ rfl
  refine wpAny_bind (wpAny_holding (wpAny_call_entry slot_list_sort ⟨_, hoL, rfl⟩ entry_list_sort
    (list_sort_treeK strKind_oneLt hoL hS.keysOf (fun v₁ v₂ rest e => keyKind_strs (by rw [← e]; exact hS)) (by rw [hl]; exact h64) fun st hp hs => ⟨_, rfl, ?_⟩) (args_list_sort _)))
  obtain ⟨ys, a1, a2, a3⟩ := sorted_out_str hS hp hs
  obtain ⟨c, hc⟩ := sortedHeap_at (vs := vs) (out := (arrOf st).map (·.2)) hoL
  refine wpAny_pure ⟨_, rfl, hQ _ s1.heap.objs.size _ c ys (fun b u e => ?_) g1 o1 hz hc a1 (a2.trans pk) a3⟩
  have q := k1 b u e
  have lt := Heap.lt_size q
  show (sortedHeap (s1.heap.push (seqObj "list" vs.toArray 0)) s1.heap.objs.size vs ((arrOf st).map (·.2))).get? b = some u
  rw [sortedHeap_old (Nat.ne_of_lt lt) (by rw [size_push']; exact Nat.lt_succ_of_lt lt)]
  exact Heap.get?_push_of_some _ q
end
end Sx
end
section
set_option maxRecDepth 100000
set_option maxHeartbeats 2000000
/-! set(xs) of a list or a tuple, whatever the items: by one step for an item. -/
namespace Sx
open PySem PySem.Spec PyProof.Rows L2
section
variable {P : Program} {w : World} {A : Around} {E : Value → Shared → Prop} {s : Shared}
/-- what holds of the set at z behind i items: Pm i heap; a step puts the item in -/
structure Steps (P : Program) (w : World) (A : Around) (s : Shared) (z : Addr) (items : Array Value) (Pm : Nat → Heap → Prop) : Prop where
  start : ∀ h : Heap, h.get? z = some (freshSet w) → (∀ b o, s.heap.get? b = some o → h.get? b = some o) → Pm 0 h
  stay : ∀ i (h h' : Heap), Pm i h → (∀ b o, h.get? b = some o → b ≤ z → h'.get? b = some o) → Pm i h'
  step : ∀ (B : Around) (E' : Value → Shared → Prop) (i : Nat) (v : Value) (s1 : Shared) (Q : Bool → Shared → Prop), B.units ≤ A.units + 8 → items[i]? = some v → Pm i s1.heap → (∀ b o, s.heap.get? b = some o → s1.heap.get? b = some o) →
    (∀ b h2 tk, s1.toks ≤ tk → Heap.SameBut z s1.heap h2 → Pm (i + 1) h2 → Q b { s1 with heap := h2, toks := tk }) → wpAny (model P w) B (setAdd z v) Q E' s1
variable {z : Addr} {items : Array Value} {Pm : Nat → Heap → Prop}
theorem upd_loop {A' : Around} {I : Addr} {fp wr : List Addr} {Gm : Array GenState → Array GenState → Prop} {n : Nat} {Pv : Nat → Value → Prop} {Sv : Nat → Shared → Prop} {R : Result → Shared → Prop}
    (W : WalksS P w A'.in1 I fp wr Gm n Pv Sv) (hz : z ∉ fp) (hwz : ∀ b ∈ wr, z < b) (hv : ∀ i v, Pv i v → items[i]? = some v) (hu : A'.in1.units ≤ A.units + 8) (S : Steps P w A s z items Pm) (hs : ∀ b ∈ wr, s.heap.get? b = none) (hsz : s.heap.get? z = none) :
    ∀ (m i : Nat) (s1 : Shared), n - i = m → i ≤ n → Sv i s1 → Pm i s1.heap → (∀ b o, s.heap.get? b = some o → s1.heap.get? b = some o) →
      (∀ s2, Moved (z :: wr) Gm s1 s2 → Pm n s2.heap → (∀ b o, s.heap.get? b = some o → s2.heap.get? b = some o) → R (.ok (.ret .none)) s2) →
      codeAny (model P w) A' (.builtin "set.update.loop" ⟨[.ref z, .ref I], []⟩) R s1 := by
  have hzw : z ∉ wr := fun q => hz (W.sub _ q)
  have up : ∀ b ∈ wr, b ∈ z :: wr := fun b q => List.mem_cons_of_mem _ q
  have keep : ∀ {s1 s2 : Shared}, Moved wr Gm s1 s2 → (∀ b o, s.heap.get? b = some o → s1.heap.get? b = some o) → ∀ b o, s.heap.get? b = some o → s2.heap.get? b = some o := fun mv k b o e =>
    mv.heap b o (fun q => by rw [hs b q] at e; cases e) (k b o e)
  have stay : ∀ {s1 s2 : Shared} {i : Nat}, Moved wr Gm s1 s2 → Pm i s1.heap → Pm i s2.heap := fun mv p => S.stay _ _ _ p fun b o e hb => mv.heap b o (fun q => Nat.lt_irrefl _ (Nat.lt_of_lt_of_le (hwz b q) hb)) e
  intro m
  induction m with
  | zero =>
    intro i s1 e1 e2 hst hp hk hR
    obtain rfl : i = n := by omega
    refine codeAny_builtin PyProof.Rows.F.entry_set_update_loop ?_
    rw [Around.under_plainId PyProof.Rows.F.plain_set_update_loop _]
    show wpAny _ A'.in1 (pyNext (.ref I) >>= _) _ _ s1
    refine wpAny_bind (W.done s1 _ _ hst fun s2 mv => ?_)
    show wpAny _ A'.in1 (ret Value.none) _ _ s2
    exact wpAny_pure (hR s2 (mv.mono up) (stay mv hp) (keep mv hk))
  | succ m ih =>
    intro i s1 e1 e2 hst hp hk hR
    have hi : i < n := by omega
    refine codeAny_builtin PyProof.Rows.F.entry_set_update_loop ?_
    rw [Around.under_plainId PyProof.Rows.F.plain_set_update_loop _]
    show wpAny _ A'.in1 (pyNext (.ref I) >>= _) _ _ s1
    refine wpAny_bind (W.item i s1 _ _ hi hst fun v s2 hP st2 mv => ?_)
    show wpAny _ A'.in1 (holding [v] (setAdd z v) >>= _) _ _ s2
    refine wpAny_bind (wpAny_holding (S.step _ _ i v s2 _ hu (hv i v hP) (stay mv hp) (keep mv hk) fun b h3 tk htk sb hp3 => ?_))
    have k3 : ∀ b o, s.heap.get? b = some o → h3.get? b = some o := fun b o e => (sb.2 b (fun q => by rw [q, hsz] at e; cases e)).trans (keep mv hk b o e)
    refine wpAny_pure ⟨plainId_quiet PyProof.Rows.F.plain_set_update_loop _, ih (i + 1) _ (by omega) hi (W.frame _ s2 _ _ st2 htk fun b q o e => ?_) hp3 k3 fun s4 mv4 hp4 k4 => ?_⟩
    · rw [sb.2 b (fun q2 : b = z => hz (by rw [← q2]; exact q))]; exact e
    · refine hR s4 (Moved.trans W.gtrans ((mv.mono up).then_heap htk fun b o q e => ?_) mv4) hp4 k4
      rw [sb.2 b (fun q2 : b = z => q (by rw [q2]; exact List.mem_cons_self))]; exact e
set_option maxHeartbeats 8000000 in
theorem call_set_listG {l : Addr} {Q : Value → Shared → Prop} (hh : A.handled = none) (hl : s.heap.IsList l items) (S : Steps P w A s s.heap.objs.size items Pm)
    (h : ∀ h2 tk, Pm items.size h2 → (∀ b o, s.heap.get? b = some o → h2.get? b = some o) → Q (.ref s.heap.objs.size) { s with heap := h2, toks := tk }) : wpAny (model P w) A (call (.type "set") [.ref l]) Q E s := by
  obtain ⟨cc, tl, hmro⟩ := PySem.F.called_set.mro
  have hmade := PySem.F.called_set.made
  have hsub := PySem.F.called_set.sub
  refine wpAny_call (codeAny_of_tree ?_)
  show wpAny _ _ (callAny (.type "set") _) _ _ _
  refine wpAny_pure ⟨Code.quiet_builtin _ (by decide +kernel), codeAny_builtin PySem.F.entry_type_call ?_⟩
  rw [Around.under_plain (weight_type_call_type "set" [.ref l] []) rfl]
  have h1 := PySem.F.called_set.notType
  have h2 := PySem.F.called_set.canCreate
  have hct := PySem.F.typeCall_set_1 (.ref l)
  repeat (any_goals (first | assumption | wp_step))
  refine codeAny_mono (code_set_led1 (.ref l) (E := E) (Q₁ := fun obj s1 => obj = .ref s.heap.objs.size ∧ s1 = { s with heap := s.heap.push (freshSet w) }) ⟨rfl, rfl⟩) fun r s1 hr => ?_
  cases r with
  | error e => exact hr
  | ok fl =>
    cases fl with
    | ret obj =>
      obtain ⟨rfl, rfl⟩ := hr
      have gS : (s.heap.push (freshSet w)).get? s.heap.objs.size = some (freshSet w) := Heap.get?_push_size _ rfl
      have hT : Shared.TypeIs { s with heap := s.heap.push (freshSet w) } (.ref s.heap.objs.size) "set" := ⟨_, gS, rfl⟩
      have hli := PySem.F.called_set.init.lookup
      have hbi := PySem.F.called_set.init.bind (.ref s.heap.objs.size)
      repeat (any_goals (first | assumption | wp_step))
      refine codeAny_mono (codeAny_call_builtin (R := wants (fun r s2 => r = .none ∧ ∃ h3 tk, s2 = { s with heap := h3, toks := tk } ∧ Pm items.size h3 ∧ ∀ b o, s.heap.get? b = some o → h3.get? b = some o) E) PySem.F.called_set.init.plain PySem.F.entry_set_init (PySem.check_set_init_1 hT ?_)) fun r2 s2 hr2 => ?_
      · obtain ⟨ol, hol, hcl, nl, hdl⟩ := hl
        obtain ⟨ocls, odict, odata, osl⟩ := ol
        simp only at hcl hdl
        subst hcl; subst hdl
        have gl : (s.heap.push (freshSet w)).get? l = some { cls := .type "list", dict := odict, data := .seq items nl, slots := osl } := Heap.get?_push_of_some _ hol
        have hsls := PySem.F.sub_list_set
        have hslf := PySem.F.sub_list_frozenset
        have hne : (Value.type "list" == Value.type "dict") = false := by decide
        have il : (s.heap.push (freshSet w)).IsList l items := ⟨_, gl, rfl, nl, rfl⟩
        unfold Builtin.«set.__init__» noKeywords Builtin.Frozenset.updateFrom
        generalize hPI : pyIter = PI
        wp_walk
        subst hPI
        refine wpAny_pyIter_list il ?_
        refine wpAny_bind (wpAny_runValue ?_)
        have lS : l < s.heap.objs.size := Heap.lt_size hol
        have h3 : A.in1.in1.in1.handled = none := by simp [hh]
        have neI : l ≠ (s.heap.push (freshSet w)).objs.size := by
          rw [Heap.size_push]; exact Nat.ne_of_lt (Nat.lt_succ_of_lt lS)
        have off : s.heap.objs.size ∉ [(s.heap.push (freshSet w)).objs.size, l] := by
          rw [Heap.size_push]; simp only [List.mem_cons, List.mem_singleton, List.not_mem_nil, or_false, not_or]
          exact ⟨Nat.ne_of_lt (Nat.lt_succ_self _), Nat.ne_of_gt lS⟩
        have none_of : ∀ b, s.heap.objs.size ≤ b → s.heap.get? b = none := fun b hb => by
          cases q : s.heap.get? b with
          | none => rfl
          | some o => exact absurd (Nat.lt_of_lt_of_le (Heap.lt_size q) hb) (Nat.lt_irrefl _)
        refine upd_loop (s := s) (A := A) (items := items) (Pm := Pm) ((Walks.list h3 _ l neI items).toS) off (fun b hb => by rw [List.mem_singleton.mp hb, Heap.size_push]; exact Nat.lt_succ_self _) (fun i v hv => hv) ?hu S (fun b hb => none_of b (by rw [List.mem_singleton.mp hb, Heap.size_push]; exact Nat.le_succ _)) (none_of _ (Nat.le_refl _))
          (items.size - 0) 0 _ (by omega) (Nat.zero_le _) ⟨⟨_, Heap.get?_push_size _ rfl, rfl, rfl⟩, (il.push _)⟩ (S.start _ (Heap.get?_push_of_some _ gS) fun b o e => Dl.grown2 e) (fun b o e => Dl.grown2 e) ?hR
        case hu => first | (show A.units + 3 ≤ A.units + 8; omega) | (show A.units + 1 + 1 + 1 ≤ A.units + 8; omega) | (show A.units ≤ A.units + 8; omega)
        case hR =>
          intro s4 mv hp hk
          obtain ⟨h5, g5, d5, t5, o5⟩ := s4
          obtain rfl : g5 = s.gens := mv.gens
          obtain rfl : d5 = s.drawn := mv.drawn
          obtain rfl : o5 = s.os := mv.os
          show wpAny _ _ _ _ _ _
          refine wpAny_pure ?_
          show wpAny _ _ (ret Value.none) _ _ _
          exact wpAny_pure ⟨rfl, h5, t5, rfl, hp, hk⟩
      · cases r2 with
        | error e => exact hr2
        | ok f2 =>
          cases f2 with
          | ret r =>
            obtain ⟨rfl, h5, tk, rfl, hS, hk⟩ := hr2
            repeat (any_goals (first | assumption | wp_step))
            exact h _ _ hS hk
          | _ => exact hr2.elim
    | _ => exact hr.elim
set_option maxHeartbeats 8000000 in
theorem call_set_tupG {l : Addr} {Q : Value → Shared → Prop} (hh : A.handled = none) (hl : s.heap.IsTuple l items) (S : Steps P w A s s.heap.objs.size items Pm)
    (h : ∀ h2 tk, Pm items.size h2 → (∀ b o, s.heap.get? b = some o → h2.get? b = some o) → Q (.ref s.heap.objs.size) { s with heap := h2, toks := tk }) : wpAny (model P w) A (call (.type "set") [.ref l]) Q E s := by
  obtain ⟨cc, tl, hmro⟩ := PySem.F.called_set.mro
  have hmade := PySem.F.called_set.made
  have hsub := PySem.F.called_set.sub
  refine wpAny_call (codeAny_of_tree ?_)
  show wpAny _ _ (callAny (.type "set") _) _ _ _
  refine wpAny_pure ⟨Code.quiet_builtin _ (by decide +kernel), codeAny_builtin PySem.F.entry_type_call ?_⟩
  rw [Around.under_plain (weight_type_call_type "set" [.ref l] []) rfl]
  have h1 := PySem.F.called_set.notType
  have h2 := PySem.F.called_set.canCreate
  have hct := PySem.F.typeCall_set_1 (.ref l)
  repeat (any_goals (first | assumption | wp_step))
  refine codeAny_mono (code_set_led1 (.ref l) (E := E) (Q₁ := fun obj s1 => obj = .ref s.heap.objs.size ∧ s1 = { s with heap := s.heap.push (freshSet w) }) ⟨rfl, rfl⟩) fun r s1 hr => ?_
  cases r with
  | error e => exact hr
  | ok fl =>
    cases fl with
    | ret obj =>
      obtain ⟨rfl, rfl⟩ := hr
      have gS : (s.heap.push (freshSet w)).get? s.heap.objs.size = some (freshSet w) := Heap.get?_push_size _ rfl
      have hT : Shared.TypeIs { s with heap := s.heap.push (freshSet w) } (.ref s.heap.objs.size) "set" := ⟨_, gS, rfl⟩
      have hli := PySem.F.called_set.init.lookup
      have hbi := PySem.F.called_set.init.bind (.ref s.heap.objs.size)
      repeat (any_goals (first | assumption | wp_step))
      refine codeAny_mono (codeAny_call_builtin (R := wants (fun r s2 => r = .none ∧ ∃ h3 tk, s2 = { s with heap := h3, toks := tk } ∧ Pm items.size h3 ∧ ∀ b o, s.heap.get? b = some o → h3.get? b = some o) E) PySem.F.called_set.init.plain PySem.F.entry_set_init (PySem.check_set_init_1 hT ?_)) fun r2 s2 hr2 => ?_
      · obtain ⟨ol, hol, hcl, nl, hdl⟩ := hl
        obtain ⟨ocls, odict, odata, osl⟩ := ol
        simp only at hcl hdl
        subst hcl; subst hdl
        have gl : (s.heap.push (freshSet w)).get? l = some { cls := .type "tuple", dict := odict, data := .seq items nl, slots := osl } := Heap.get?_push_of_some _ hol
        have hsls := PySem.F.sub_tuple_set
        have hslf := PySem.F.sub_tuple_frozenset
        have hne : (Value.type "tuple" == Value.type "dict") = false := by decide
        have il : (s.heap.push (freshSet w)).IsTuple l items := ⟨_, gl, rfl, nl, rfl⟩
        unfold Builtin.«set.__init__» noKeywords Builtin.Frozenset.updateFrom
        generalize hPI : pyIter = PI
        wp_walk
        subst hPI
        refine wpAny_pyIter_tuple il ?_
        refine wpAny_bind (wpAny_runValue ?_)
        have lS : l < s.heap.objs.size := Heap.lt_size hol
        have h3 : A.in1.in1.in1.handled = none := by simp [hh]
        have neI : l ≠ (s.heap.push (freshSet w)).objs.size := by
          rw [Heap.size_push]; exact Nat.ne_of_lt (Nat.lt_succ_of_lt lS)
        have off : s.heap.objs.size ∉ [(s.heap.push (freshSet w)).objs.size, l] := by
          rw [Heap.size_push]; simp only [List.mem_cons, List.mem_singleton, List.not_mem_nil, or_false, not_or]
          exact ⟨Nat.ne_of_lt (Nat.lt_succ_self _), Nat.ne_of_gt lS⟩
        have none_of : ∀ b, s.heap.objs.size ≤ b → s.heap.get? b = none := fun b hb => by
          cases q : s.heap.get? b with
          | none => rfl
          | some o => exact absurd (Nat.lt_of_lt_of_le (Heap.lt_size q) hb) (Nat.lt_irrefl _)
        refine upd_loop (s := s) (A := A) (items := items) (Pm := Pm) ((Walks.tuple h3 _ l neI items).toS) off (fun b hb => by rw [List.mem_singleton.mp hb, Heap.size_push]; exact Nat.lt_succ_self _) (fun i v hv => hv) ?hu S (fun b hb => none_of b (by rw [List.mem_singleton.mp hb, Heap.size_push]; exact Nat.le_succ _)) (none_of _ (Nat.le_refl _))
          (items.size - 0) 0 _ (by omega) (Nat.zero_le _) ⟨⟨_, Heap.get?_push_size _ rfl, rfl, rfl⟩, (il.push _)⟩ (S.start _ (Heap.get?_push_of_some _ gS) fun b o e => Dl.grown2 e) (fun b o e => Dl.grown2 e) ?hR
        case hu => first | (show A.units + 3 ≤ A.units + 8; omega) | (show A.units + 1 + 1 + 1 ≤ A.units + 8; omega) | (show A.units ≤ A.units + 8; omega)
        case hR =>
          intro s4 mv hp hk
          obtain ⟨h5, g5, d5, t5, o5⟩ := s4
          obtain rfl : g5 = s.gens := mv.gens
          obtain rfl : d5 = s.drawn := mv.drawn
          obtain rfl : o5 = s.os := mv.os
          show wpAny _ _ _ _ _ _
          refine wpAny_pure ?_
          show wpAny _ _ (ret Value.none) _ _ _
          exact wpAny_pure ⟨rfl, h5, t5, rfl, hp, hk⟩
      · cases r2 with
        | error e => exact hr2
        | ok f2 =>
          cases f2 with
          | ret r =>
            obtain ⟨rfl, h5, tk, rfl, hS, hk⟩ := hr2
            repeat (any_goals (first | assumption | wp_step))
            exact h _ _ hS hk
          | _ => exact hr2.elim
    | _ => exact hr.elim
end
end Sx
end
section
set_option maxRecDepth 100000
set_option maxHeartbeats 2000000
/-! set(xs) and sorted(set) of texts, as rules. -/
namespace Sx
open PySem PySem.Spec PyProof.Rows L2
def SetXO (w : World) (a : Addr) (xs : List Str) : HO := .ext fun h => SetX w h a xs
section
variable {P : Program} {w : World} {A : Around} {E : Value → Shared → Prop} {s : Shared} {H : Hp} {h : Heap} {a : Addr}
theorem setXO_ok {xs : List Str} (R : SetX w h a xs) : ObjOk P w H h a (SetXO w a xs) := by
  have ⟨o, _, _, _, ho, _⟩ := R
  exact ⟨R, ⟨o, ho⟩, fun h1 h2 p k => SetX.mono p k⟩
/-- setAdd of a text -/
theorem setAdd_tx {xs : List Str} {x : Str} {tk : Tok} {Q : Bool → Shared → Prop} (R : SetX w s.heap a xs) (room : xs.length + 1 < scanBound)
    (hQ : ∀ b h2, Heap.SameBut a s.heap h2 → SetX w h2 a (putU x xs) → Q b { s with heap := h2, toks := s.toks + 1 }) : wpAny (model P w) A (setAdd a (.str x tk)) Q E s := by
  unfold setAdd
  refine wpAny_holding (wpAny_bind ((PySem.strKind P w).pyHash (k := x) (strKind_is P w x tk) ?_))
  exact add_tx (s := { s with toks := s.toks + 1 }) R room hQ
structure TookX (w : World) (a : Addr) (xs : List Str) (i : Nat) (h : Heap) : Prop where
  ex : ∃ ys, SetX w h a ys ∧ (∀ x, x ∈ ys ↔ x ∈ xs.take i) ∧ ys.Nodup ∧ ys.length ≤ i
theorem TookX.next {xs ys : List Str} {i : Nat} {x : Str} {h : Heap} (hx : xs[i]? = some x) (R : SetX w h a (putU x ys)) (hm : ∀ x, x ∈ ys ↔ x ∈ xs.take i) (nd : ys.Nodup) (hl : ys.length ≤ i) : TookX w a xs (i + 1) h := by
  refine ⟨_, R, fun z => ?_, ?_, Nat.le_trans putU_len (Nat.succ_le_succ hl)⟩
  · rw [mem_putU, take_next hx, List.mem_append, List.mem_singleton, hm]
    exact Or.comm
  · unfold putU
    split
    · exact nd
    · rename_i q; exact List.nodup_cons.mpr ⟨q, nd⟩
theorem steps_tx {xs : List Str} {items : Array Value} (hv : ∀ (i : Nat) (v : Value), items[i]? = some v → ∃ (x : Str) (tk : Tok), xs[i]? = some x ∧ v = Value.str x tk) (hl : xs.length + 1 < scanBound) : Steps P w A s a items (TookX w a xs) where
  start := fun h ho _ => ⟨[], setX_new ho, fun x => by simp, List.nodup_nil, Nat.zero_le _⟩
  stay := fun i h h' ⟨ys, R, r⟩ k => ⟨ys, R.mono fun o e => k a o e (Nat.le_refl _), r⟩
  step := fun B E' i v s1 Q hu hi ⟨ys, R, hm, nd, hle⟩ kp hQ => by
    obtain ⟨x, tk, hx, rfl⟩ := hv i v hi
    have hil : i < xs.length := (List.getElem?_eq_some_iff.mp hx).1
    exact setAdd_tx R (by omega) fun b h2 sb R2 => hQ b h2 _ (Nat.le_succ _) sb (TookX.next hx R2 hm nd hle)
def rSetX (K : PySem.W.Frag) (w : World) : List V → Hp → VK → Prop := fun vs H Q => ∃ (l : Addr) (xs : List Str), vs = [V.ref l] ∧ (SqL K H l (xs.map V.str) ∨ SqT K H l (xs.map V.str)) ∧ xs.length < 1000 ∧
  ∀ p ys, H p = none → (∀ x, x ∈ ys ↔ x ∈ xs) → ys.Nodup → ys.length ≤ xs.length → Q (.ref p) (upd H p (SetXO w p ys))
theorem strs_items {xs : List Str} {its : List Value} (r : Vals (xs.map V.str) its) (i : Nat) (v : Value) (h : its[i]? = some v) : ∃ x tk, xs[i]? = some x ∧ v = Value.str x tk := by
  have hl := r.length
  have hi := (List.getElem?_eq_some_iff.mp h).1
  rw [List.length_map] at hl
  have hx : (xs.map V.str)[i]? = some (V.str (xs[i]'(by omega))) := by rw [List.getElem?_map, List.getElem?_eq_getElem (by omega)]; rfl
  obtain ⟨u, hu, t, e⟩ := r.get hx
  rw [h] at hu
  cases hu
  exact ⟨_, t, List.getElem?_eq_getElem (by omega), e⟩
theorem cx_setX {X : Cx} (hc : X.calm = true) : CallR X (.type "set") (rSetX X.K X.w) := by
  intro pins s σ H vs us Q I r h
  obtain ⟨l, xs, rfl, ha, hl, q⟩ := h
  obtain ⟨u, rfl, ru⟩ := vals1 r
  cases ru
  have hn : H s.heap.objs.size = none := I.hok.fresh (Nat.le_refl _)
  have fin : ∀ n h2 tk, n = xs.length → TookX X.w s.heap.objs.size xs n h2 → (∀ b o, s.heap.get? b = some o → h2.get? b = some o) → EP X pins σ Q (.ref s.heap.objs.size) { s with heap := h2, toks := tk } := by
    rintro n h2 tk rfl ⟨ys, R, hm, nd, hle⟩ kp
    rw [List.take_length] at hm
    exact ⟨.ref _, _, I.laid (t' := tk) kp (Nat.le_refl _) (setXO_ok R), rfl, q _ ys hn hm nd hle⟩
  rcases ha with ha | ha
  · obtain ⟨its, rv, pl, hz⟩ := I.list ha
    have e := rv.length
    rw [List.length_map] at e
    exact call_set_listG (I.ok.hd hc) pl.isList (steps_tx (xs := xs) (fun i v hv => strs_items rv i v (by simpa using hv)) (by unfold scanBound; omega)) fun h2 tk hp kp => fin _ h2 tk (by simp [e]) hp kp
  · obtain ⟨its, rv, pl, hz⟩ := I.tuple ha
    have e := rv.length
    rw [List.length_map] at e
    exact call_set_tupG (I.ok.hd hc) pl (steps_tx (xs := xs) (fun i v hv => strs_items rv i v (by simpa using hv)) (by unfold scanBound; omega)) fun h2 tk hp kp => fin _ h2 tk (by simp [e]) hp kp
/-- what sorted leaves, tracked -/
def rSortX (w : World) : List V → Hp → VK → Prop := fun vs H Q => ∃ (a : Addr) (ys : List Str), vs = [V.ref a] ∧ H a = some (SetXO w a ys) ∧ ys.length < 64 ∧ ∀ p, H p = none → Q (.ref p) (upd H p (.lst ((sortU ltS ys).map V.str)))
theorem cx_sortX {X : Cx} (hc : X.calm = true) : CallR X (.builtin "sorted") (rSortX X.w) := by
  intro pins s σ H vs us Q I r h
  obtain ⟨a, ys, rfl, ha, h64, q⟩ := h
  have R : SetX X.w s.heap a ys := (I.hok a _ ha).1
  have nd : ys.Nodup := by
    obtain ⟨_, _, _, _, _, _, _, R0⟩ := R
    exact R0.nd
  rw [Vals.ref1 r]
  refine sorted_tx R (I.ok.hd hc) h64 fun s2 p out c zs k g o hp hg hout pm so => ?_
  have ez : zs = sortU ltS ys := sortU_of ltS_ord (asc_sortedS (pm.nodup_iff.mpr nd) so) fun z => pm.mem_iff
  subst ez
  have hn : H p = none := I.hok.fresh hp
  have hlen : ((sortU ltS ys).map V.str).length ≤ sizeLine := by rw [List.length_map, pm.length_eq, sizeLine_eq]; omega
  have J : Inv X pins σ (upd H p (.lst ((sortU ltS ys).map V.str))) { s with heap := s2.heap, gens := s2.gens, drawn := s2.drawn, toks := s2.toks } :=
    I.call (ch := []) (Un.laid k hp hn) (I.hok.laid k hp ⟨hlen, out.toList, c, vals_of_strs hout, hg⟩) (by rw [g]; exact I.bare) (fun _ z => nomatch z)
  have e : s2 = { s with heap := s2.heap, gens := s2.gens, drawn := s2.drawn, toks := s2.toks } := by
    cases s2; cases s; cases o; rfl
  rw [e]
  exact ⟨.ref p, _, J, rfl, q p hn⟩
end
end Sx
end
section
set_option maxRecDepth 100000
set_option maxHeartbeats 4000000
/-! Sets of tuples of ints and texts. -/
namespace Sx
open PySem PySem.Spec PyProof.Rows L2
abbrev TKy (P : Program) (w : World) (h : Heap) (k : List Key) (b : Addr) : Prop := IsTupleKey (mixKind P w) h k b
abbrev hsK (P : Program) (w : World) (k : List Key) : Int := tupleKeyHash (mixKind P w) k
/-- an int or a text -/
def Sc (v : Value) : Prop := (∃ i t, v = Value.int i t) ∨ ∃ x t, v = Value.str x t
section
variable {P : Program} {w : World} {A : Around} {E : Value → Shared → Prop} {s : Shared}
theorem items_sc {k : List Key} {vs : List Value} (h : ItemsAre (mixKind P w) k vs) : ∀ v ∈ vs, Sc v := by
  induction h with
  | nil => intro v hv; cases hv
  | cons h1 _ ih =>
    intro v hv
    rcases List.mem_cons.mp hv with rfl | hv
    · rcases keyIs_shape h1 with ⟨i, t, _, e⟩ | ⟨x, t, _, e⟩
      · exact .inl ⟨i, t, e⟩
      · exact .inr ⟨x, t, e⟩
    · exact ih v hv
theorem sc_class {v : Value} (h : Sc v) (n : Nat) : ofAClassStatement n v = pure false := by
  rcases h with ⟨i, t, rfl⟩ | ⟨x, t, rfl⟩ <;> cases n <;> rfl
theorem sc_hash {v : Value} (h : Sc v) (n : Nat) : ∃ b, hashByValue n v = pure b := by
  rcases h with ⟨i, t, rfl⟩ | ⟨x, t, rfl⟩
  · exact ⟨true, by cases n <;> rfl⟩
  · exact ⟨false, by cases n <;> rfl⟩
theorem tup_class {k : List Key} {b : Addr} {Q : Bool → Shared → Prop} (hk : TKy P w s.heap k b) (h : Q false s) : wpAny (model P w) A (ofAClassStatement 8 (.ref b)) Q E s := by
  have hT := hk.typeIs
  obtain ⟨o, items, n, ho, _, hd, hi⟩ := hk
  unfold ofAClassStatement
  refine wpAny_bind (wpAny_typeOf hT ?_)
  dsimp only
  have e : (("tuple" : String) == "tuple") = true := by decide
  simp only [e, if_true, Bool.not_true, Bool.false_eq_true, if_false]
  try refine wpAny_bind (wpAny_pure ?_)
  try simp only [Bool.not_true, Bool.false_eq_true, if_false]
  show wpAny _ _ (seqItems? (.ref b) >>= _) _ _ s
  refine wpAny_bind (wpAny_seqItems ho hd ?_)
  dsimp only
  refine wpAny_bind ?_
  show wpAny _ _ (forIn items _ _) _ _ s
  rw [← Array.forIn_toList]
  refine wpAny_forIn_list _ (fun rest r s1 => r.1 = none ∧ s1 = s ∧ ∀ v ∈ rest, Sc v) _ ?_ ?_ _ _ ⟨rfl, rfl, items_sc hi⟩
  · rintro v rest r s1 ⟨hr, rfl, all⟩
    rw [sc_class (all v List.mem_cons_self)]
    refine wpAny_bind (wpAny_pure ?_)
    simp only [Bool.false_eq_true, if_false]
    exact wpAny_pure ⟨rfl, rfl, fun u hu => all u (List.mem_cons_of_mem _ hu)⟩
  · rintro ⟨r1, r2⟩ s1 ⟨hr, rfl, _⟩
    simp only at hr
    subst hr
    exact wpAny_pure h
theorem tup_hashBy {k : List Key} {b : Addr} {Q : Bool → Shared → Prop} (hk : TKy P w s.heap k b) (h : ∀ c, Q c s) : wpAny (model P w) A (hashByValue 8 (.ref b)) Q E s := by
  have hT := hk.typeIs
  obtain ⟨o, items, n, ho, _, hd, hi⟩ := hk
  unfold hashByValue
  refine wpAny_bind (wpAny_specialOf hT F.slot_tuple_hash.lookup ?_)
  show wpAny _ _ (seqItems? (.ref b) >>= _) _ _ s
  refine wpAny_bind (wpAny_seqItems ho hd ?_)
  refine wpAny_bind ?_
  show wpAny _ _ (forIn items _ _) _ _ s
  rw [← Array.forIn_toList]
  refine wpAny_forIn_list _ (fun rest r s1 => s1 = s ∧ (∀ v ∈ rest, Sc v) ∧ (r.1 = none ∨ (rest = [] ∧ ∃ c, r.1 = some c))) _ ?_ ?_ _ _ ⟨rfl, items_sc hi, .inl rfl⟩
  · rintro v rest r s1 ⟨rfl, all, hr⟩
    obtain ⟨c, ec⟩ := sc_hash (all v List.mem_cons_self) 7
    rw [ec]
    refine wpAny_bind (wpAny_pure ?_)
    cases c with
    | true =>
      simp only [Bool.not_true, Bool.false_eq_true, if_false]
      exact wpAny_pure ⟨rfl, fun u hu => all u (List.mem_cons_of_mem _ hu), .inl rfl⟩
    | false =>
      simp only [Bool.not_false, if_true]
      exact wpAny_pure (wpAny_pure (h false))
  · rintro ⟨r1, r2⟩ s1 ⟨rfl, _, hr⟩
    rcases hr with hr | ⟨_, c, hr⟩
    · simp only at hr
      subst hr
      exact wpAny_pure (h true)
    · simp only at hr
      subst hr
      exact wpAny_pure (h c)
/-- a search among tuples shows nothing -/
theorem tup_seen {k : List Key} {b : Addr} {Q : Bool → Shared → Prop} (hk : TKy P w s.heap k b) {ys : List Value} (hy : ∀ y ∈ ys, ∃ k' c, y = Value.ref c ∧ TKy P w s.heap k' c) (h : Q false s) :
    wpAny (model P w) A (searchCouldBeSeen (.ref b) ys) Q E s := by
  unfold searchCouldBeSeen
  refine wpAny_bind ?_
  refine wpAny_forIn_list _ (fun rest r s1 => r.1 = none ∧ s1 = s ∧ ∀ y ∈ rest, ∃ k' c, y = Value.ref c ∧ TKy P w s.heap k' c) _ ?_ ?_ _ _ ⟨rfl, rfl, hy⟩
  · rintro v rest r s1 ⟨hr, rfl, all⟩
    obtain ⟨k', c, rfl, hc⟩ := all v List.mem_cons_self
    have more : ∀ y ∈ rest, ∃ k' c, y = Value.ref c ∧ TKy P w s1.heap k' c := fun u hu => all u (List.mem_cons_of_mem _ hu)
    dsimp only
    by_cases hv : (b == c || (carriedByValue (.ref b) && carriedByValue (.ref c))) = true
    · exact wp_if_pos hv (wpAny_pure ⟨rfl, rfl, more⟩)
    · refine wp_if_neg hv (wpAny_bind (wpAny_eqIsQuiet_tuple hk ?_))
      simp only [Bool.not_true, Bool.false_eq_true, if_false]
      refine wpAny_bind (wpAny_eqIsQuiet_tuple hc ?_)
      simp only [Bool.not_true, Bool.false_eq_true, if_false]
      refine wpAny_bind (tup_class hk ?_)
      simp only [Bool.false_eq_true, if_false]
      refine wpAny_bind (tup_class hc ?_)
      simp only [Bool.false_eq_true, if_false]
      exact wpAny_pure ⟨rfl, rfl, more⟩
  · rintro ⟨r1, r2⟩ s1 ⟨hr, rfl, _⟩
    simp only at hr
    subst hr
    exact wpAny_pure h

/-! ### the set -/
abbrev Ent := Addr × List Key
def entK (P : Program) (w : World) (p : Ent) : Int × Value := (hsK P w p.2, Value.ref p.1)
structure SetT0 (P : Program) (w : World) (L : List Ent) (es : Array (Int × Value)) (t : SetTable) : Prop where
  rows : es.toList = L.map (entK P w)
  tab : TabOk t (L.map fun p => hsK P w p.2)
  nd : (L.map (·.2)).Nodup
  led : w.params.followText "set-order" = true ∨ t.led = true
  room : L.length * 5 < t.mask * 3
  few : L.length < 64
def SetT (P : Program) (w : World) (h : Heap) (a : Addr) (L : List Ent) : Prop := ∃ o es ep t, h.get? a = some o ∧ o.ExactSet ∧ o.data = .set es ep t ∧ SetT0 P w L es t
variable {L : List Ent} {es : Array (Int × Value)} {t : SetTable} {a : Addr} {h h' : Heap}
theorem SetT0.size (R : SetT0 P w L es t) : es.size = L.length := by
  have q := congrArg List.length R.rows
  rw [Array.length_toList, List.length_map] at q
  exact q
theorem fits_tab {hs : List Int} (T : TabOk t hs) (hl : hs.length ≤ t.mask) : t.fits hs.length = true := by
  have h1 := T.sz
  unfold SetTable.fits SetTable.fill
  rw [T.dm, Bool.and_eq_true, beq_iff_eq, decide_eq_true_eq]
  show t.place.size = hs.length ∧ t.place.size + 0 ≤ t.mask
  omega
theorem SetT0.fits (R : SetT0 P w L es t) : t.fits es.size = true := by
  have q := fits_tab R.tab (by rw [List.length_map]; have := R.room; omega)
  rw [List.length_map] at q
  rw [R.size]; exact q
theorem SetT0.entry (R : SetT0 P w L es t) {i : Nat} {p : Ent} (hp : L[i]? = some p) : es[i]? = some (entK P w p) := by
  rw [← Array.getElem?_toList, R.rows, List.getElem?_map, hp]; rfl
theorem no_way (T : MaskOk t.mask) : ¬ t.gaveWay = true := by
  unfold SetTable.gaveWay
  rw [mask_odd T]; decide
/-- a plain flag does not matter -/
theorem tab_plain {hs : List Int} (T : TabOk t hs) (b : Bool) : TabOk { t with plain := b } hs := ⟨T.ris, T.dm, T.sz, T.mok, T.bd, T.reach⟩

/-! ### searching -/
abbrev prb (m : Nat) (x : Int) (c : Nat) : SetTable.Probe := nth m (runAt m (SetTable.bits x % (m + 1)) (SetTable.bits x)) c
theorem prb_add (m : Nat) (x : Int) (c q : Nat) : nth m (prb m x c) q = prb m x (c + q) := (nth_add m c _ q).symm
theorem prb_dummy (m : Nat) (x : Int) (c : Nat) : (prb m x c).dummy = none := by
  have key : ∀ (n : Nat) (p : SetTable.Probe), p.dummy = none → (nth m p n).dummy = none := by
    intro n
    induction n with
    | zero => exact fun p h => h
    | succ n ih =>
      intro p hp
      refine ih (adv m p) ?_
      unfold adv
      split <;> exact hp
  exact key c _ rfl
theorem hunt {o : Obj} {ep : Nat} (ho : s.heap.get? a = some o) (hd : o.data = .set es ep t) (R : SetT0 P w L es t) (ht : ∀ p ∈ L, TKy P w s.heap p.2 p.1) {x : Addr} {k : List Key} (hx : TKy P w s.heap k x) (hu : A.units < cLine) {N : Nat}
    (hN : N < 10 * SetTable.turns t.mask) (free : way t.mask (hsK P w k) N ∉ t.place.toList) (full : ∀ c, c < N → way t.mask (hsK P w k) c ∈ t.place.toList) {Q : SetFound → Shared → Prop}
    (hin : k ∈ L.map (·.2) → Q (.there none) s) (hout : k ∉ L.map (·.2) → Q (.free (way t.mask (hsK P w k) N) false) s) :
    ∀ (f c : Nat) (st : Option SetTable.Probe), st.getD (t.probeStart (hsK P w k)) = prb t.mask (hsK P w k) c → c ≤ N → N - c < f →
      (∀ (i : Nat) p, L[i]? = some p → p.2 = k → ∃ c', c ≤ c' ∧ c' < N ∧ t.place.toList[i]? = some (way t.mask (hsK P w k) c')) →
      wpAny (model P w) A (setSearchFrom a (.ref x) (hsK P w k) true f st) Q E s := by
  intro f
  induction f with
  | zero => intro c st _ _ hf _; exact absurd hf (Nat.not_lt_zero _)
  | succ f ih =>
    intro c st hst hc hf hre
    rw [setSearchFrom_succ]
    refine wpAny_bind (wpAny_setState_of ho hd R.fits ?_)
    dsimp only
    refine wp_if_neg (no_way R.tab.mok) ?_
    try refine wpAny_bind (wpAny_pure ?_)
    have hashAt : ∀ (i : Nat) p, L[i]? = some p → (es[i]?.map (·.1)).getD 0 = hsK P w p.2 := fun i p hp => by rw [R.entry hp]; rfl
    have ew : ∀ q, (nth t.mask (prb t.mask (hsK P w k) c) q).j = way t.mask (hsK P w k) (c + q) := fun q => congrArg SetTable.Probe.j (prb_add _ _ c q)
    rcases go_spec t R.tab.ris R.tab.dm (fun i => (es[i]?.map (·.1)).getD 0) (hsK P w k) (10 * SetTable.turns t.mask) (N - c) (prb t.mask (hsK P w k) c) (prb_dummy _ _ c) (by omega)
      (fun q hq => by rw [ew]; exact full (c + q) (by omega)) (by rw [ew, show c + (N - c) = N by omega]; exact free) with ⟨q, i, hq, hi, hh, hno, hpr⟩ | ⟨hno, hpr⟩
    · have hpr2 : t.probe (fun i => (es[i]?.map (·.1)).getD 0) (hsK P w k) (st.getD (t.probeStart (hsK P w k))) = some (.candidate (way t.mask (hsK P w k) (c + q)) i (prb t.mask (hsK P w k) (c + (q + 1)))) := by
        rw [hst, ← ew, ← prb_add]; exact hpr
      rw [hpr2]
      dsimp only
      rw [ew] at hi
      have hil : i < L.length := by
        have h1 := (List.getElem?_eq_some_iff.mp hi).1
        have h2 := R.tab.sz
        rw [List.length_map] at h2
        rw [Array.length_toList] at h1
        omega
      obtain ⟨p, hp⟩ : ∃ p, L[i]? = some p := ⟨_, List.getElem?_eq_getElem hil⟩
      have hm : p ∈ L := List.mem_of_getElem? hp
      have next : wpAny (model P w) A (searchRest a (.ref x) (hsK P w k) true f es t (way t.mask (hsK P w k) (c + q)) i (prb t.mask (hsK P w k) (c + (q + 1)))) Q E s := by
        unfold searchRest
        rw [R.entry hp]
        dsimp only [entK]
        refine wpAny_bind (wpAny_holding (wpAny_eqBool_tuple hu (ht p hm) hx ?_))
        refine wpAny_bind (wpAny_setState_of ho hd R.fits ?_)
        dsimp only
        by_cases hkk : p.2 = k
        · exact wp_if_pos (by simp [hkk]) (wpAny_pure (hin (List.mem_map.mpr ⟨p, hm, hkk⟩)))
        · refine wp_if_neg (by simp [hkk]) ?_
          try refine wpAny_bind (wpAny_pure ?_)
          rw [sameMem]
          dsimp only
          have hsl : t.slot (way t.mask (hsK P w k) (c + q)) = .live i := slot_live R.tab.ris hi
          simp only [if_true, hsl, R.entry hp, entK]
          refine wpAny_bind (wpAny_isSame_ref_self (wpAny_bind (wpAny_pure ?_)))
          simp only [if_true]
          refine wp_if_neg (by simp [hkk]) (ih (c + (q + 1)) _ rfl (by omega) (by omega) fun i0 p0 h0 hk0 => ?_)
          obtain ⟨c', a1, a2, a3⟩ := hre i0 p0 h0 hk0
          refine ⟨c', ?_, a2, a3⟩
          rcases Nat.lt_trichotomy c' (c + q) with z | z | z
          · refine absurd ((hashAt i0 p0 h0).trans (congrArg (hsK P w) hk0)) (hno (c' - c) i0 (by omega) ?_)
            rw [ew, show c + (c' - c) = c' by omega]; exact a3
          · rw [z] at a3
            have s0 := slot_live R.tab.ris a3
            rw [hsl] at s0
            injection s0 with s0
            rw [← s0, hp] at h0
            exact absurd ((congrArg Prod.snd (Option.some.inj h0)).trans hk0) hkk
          · omega
      by_cases hl : t.led = true
      · refine wp_if_neg (by simp [hl]) ?_
        try refine wpAny_bind (wpAny_pure ?_)
        exact next
      · refine wp_if_pos (by simp [hl]) (wpAny_bind (tup_seen hx (fun y hy => ?_) ?_))
        · obtain ⟨e, he, ee⟩ := List.mem_map.mp hy
          have he1 : e ∈ es.toList := by
            have q : e ∈ es ∧ e.1 = hsK P w k := by simpa using he
            simpa using q.1
          rw [R.rows] at he1
          obtain ⟨p2, hp2, e2⟩ := List.mem_map.mp he1
          exact ⟨p2.2, p2.1, by rw [← ee, ← e2]; rfl, ht p2 hp2⟩
        · refine wp_if_neg (by decide) ?_
          try refine wpAny_bind (wpAny_pure ?_)
          exact next
    · have hpr2 : t.probe (fun i => (es[i]?.map (·.1)).getD 0) (hsK P w k) (st.getD (t.probeStart (hsK P w k))) = some (.empty (way t.mask (hsK P w k) N) none) := by
        have e2 : way t.mask (hsK P w k) N = (nth t.mask (prb t.mask (hsK P w k) c) (N - c)).j := by rw [ew, show c + (N - c) = N by omega]
        rw [hst, e2]; exact hpr
      rw [hpr2]
      dsimp only
      refine wpAny_pure (hout fun hm => ?_)
      obtain ⟨p0, h0, hk0⟩ := List.mem_map.mp hm
      obtain ⟨i0, h00⟩ := List.getElem?_of_mem h0
      obtain ⟨c', a1, a2, a3⟩ := hre i0 p0 h00 hk0
      refine hno (c' - c) i0 (by omega) (by rw [ew, show c + (c' - c) = c' by omega]; exact a3) ?_
      exact (hashAt i0 p0 h00).trans (congrArg (hsK P w) hk0)
theorem hunt0 {o : Obj} {ep : Nat} (ho : s.heap.get? a = some o) (hd : o.data = .set es ep t) (R : SetT0 P w L es t) (ht : ∀ p ∈ L, TKy P w s.heap p.2 p.1) {x : Addr} {k : List Key} (hx : TKy P w s.heap k x) (hu : A.units < cLine) {Q : SetFound → Shared → Prop}
    (hin : k ∈ L.map (·.2) → Q (.there none) s)
    (hout : ∀ N, k ∉ L.map (·.2) → way t.mask (hsK P w k) N ∉ t.place.toList → (∀ c, c < N → way t.mask (hsK P w k) c ∈ t.place.toList) → Q (.free (way t.mask (hsK P w k) N) false) s) :
    wpAny (model P w) A (setSearch a (.ref x) (hsK P w k) true) Q E s := by
  have hroom := R.room
  obtain ⟨N, hN, free, full⟩ := R.tab.first (by rw [List.length_map]; omega) (hsK P w k)
  have big : N < 100000 := by
    have : 10 * SetTable.turns t.mask ≤ 1420 := by
      unfold SetTable.turns
      rcases R.tab.mok with e | e | e <;> omega
    omega
  unfold setSearch
  refine hunt ho hd R ht hx hu hN free full hin (fun hn => hout N hn free full) 100000 0 none rfl (Nat.zero_le _) (by omega) fun i p hp hk => ?_
  have hi : (L.map fun p => hsK P w p.2)[i]? = some (hsK P w k) := by rw [List.getElem?_map, hp, ← hk]; rfl
  have hil : i < t.place.toList.length := by
    have h1 := (List.getElem?_eq_some_iff.mp hp).1
    have h2 := R.tab.sz
    rw [List.length_map] at h2
    rw [Array.length_toList]
    omega
  have hj := List.getElem?_eq_getElem hil
  obtain ⟨c, hc, e⟩ := R.tab.before free hi hj
  exact ⟨c, Nat.zero_le _, hc, by rw [hj, e]⟩
end
end Sx
end
section
set_option maxRecDepth 100000
set_option maxHeartbeats 4000000
namespace Sx
open PySem PySem.Spec PyProof.Rows L2
section
variable {P : Program} {w : World} {A : Around} {E : Value → Shared → Prop} {s : Shared}
variable {L : List Ent} {es : Array (Int × Value)} {t : SetTable} {a : Addr} {h h' : Heap}
theorem key_else {k : List Key} {b : Addr} {o : Obj} {ep : Nat} (hb : TKy P w h k b) (ho : h.get? a = some o) (hd : o.data = .set es ep t) (sb : Heap.SameBut a h h') : TKy P w h' k b := by
  obtain ⟨o2, items, n, ho2, hc, hd2, hi⟩ := hb
  refine ⟨o2, items, n, (sb.2 b fun e => ?_).trans ho2, hc, hd2, hi⟩
  subst e
  rw [ho] at ho2
  cases ho2
  rw [hd] at hd2
  exact nomatch hd2
theorem key_keep {k : List Key} {b : Addr} (x : TKy P w h k b) (kp : ∀ c o, h.get? c = some o → h'.get? c = some o) : TKy P w h' k b := by
  obtain ⟨o, items, n, ho, r⟩ := x
  exact ⟨o, items, n, kp b o ho, r⟩
/-- the entries in another order -/
theorem reordered (hr : es.toList = L.map (entK P w)) {order : Array Nat} (hp : order.toList.Perm (List.range L.length)) :
    ∃ L2 : List Ent, (order.filterMap (es[·]?)).toList = L2.map (entK P w) ∧ L2.Perm L ∧ (L2.map fun p => hsK P w p.2) = order.toList.map fun i => (es.map (·.1)).getD i 0 := by
  have hs : ∀ i : Nat, es[i]? = (L[i]?).map (entK P w) := fun i => by rw [← Array.getElem?_toList, hr, List.getElem?_map]
  refine ⟨order.toList.filterMap fun i => L[i]?, ?_, ?_, ?_⟩
  · have e : (order.filterMap (es[·]?)).toList = order.toList.filterMap fun i => es[i]? := by
      first | exact Array.toList_filterMap | simp
    rw [e, List.map_filterMap]
    exact congrArg (fun g => List.filterMap g order.toList) (funext hs)
  · have h1 := hp.filterMap fun i => L[i]?
    refine h1.trans ?_
    have key : ∀ n, n ≤ L.length → (List.range n).filterMap (fun i => L[i]?) = L.take n := by
      intro n
      induction n with
      | zero => intro _; rfl
      | succ n ih =>
        intro hn
        have hg : L[n]? = some L[n] := List.getElem?_eq_getElem hn
        rw [List.range_succ, List.filterMap_append, ih (Nat.le_of_lt hn), take_next hg, List.filterMap_cons_some hg]; rfl
    rw [key L.length (Nat.le_refl _), List.take_length]
  · have hlt : ∀ i ∈ order.toList, i < L.length := fun i hi => List.mem_range.mp (hp.mem_iff.mp hi)
    generalize order.toList = l at hlt
    induction l with
    | nil => rfl
    | cons i l ih =>
      have hi := hlt i List.mem_cons_self
      have hg : L[i]? = some L[i] := List.getElem?_eq_getElem hi
      rw [List.filterMap_cons_some hg, List.map_cons, List.map_cons, ih fun j hj => hlt j (List.mem_cons_of_mem _ hj)]
      congr 1
      have e2 : (es.map (·.1))[i]? = some (hsK P w L[i].2) := by rw [Array.getElem?_map, hs, hg]; rfl
      rw [Array.getD_eq_getD_getElem?, e2]; rfl
/-- laid anew, larger -/
theorem relay {o : Obj} {ep : Nat} (ho : s.heap.get? a = some o) (hex : o.ExactSet) (hd : o.data = .set es ep t) (hr : es.toList = L.map (entK P w)) (hft : t.fits es.size = true) (nd : (L.map (·.2)).Nodup) (ld : w.params.followText "set-order" = true ∨ t.led = true) (few : L.length < 64)
    {wanted M : Nat} (hw : SetTable.sizeAbove wanted - 1 = M) (hM : MaskOk M) (hw2 : SetTable.sizeAbove wanted ≤ 128) (hn : L.length * 5 < M * 3) {Q : Unit → Shared → Prop}
    (hQ : ∀ h2 L2, Heap.SameBut a s.heap h2 → SetT P w h2 a L2 → L2.Perm L → Q () { s with heap := h2 }) : wpAny (model P w) A (setRelay a wanted) Q E s := by
  have sz : es.size = L.length := by
    have q := congrArg List.length hr
    rw [Array.length_toList, List.length_map] at q
    exact q
  obtain ⟨t2, order, e, hp, T, em, el, _, ed⟩ := relaid_ok t (hs := es.map (·.1)) (wanted := wanted) hw hM (by rw [Array.size_map, sz]; omega)
  rw [Array.size_map, sz] at hp
  obtain ⟨L2, r1, r2, r3⟩ := reordered (P := P) (w := w) hr hp
  rw [← r3] at T
  have s2 : (order.filterMap (es[·]?)).size = es.size := by
    have q := congrArg List.length r1
    rw [Array.length_toList, List.length_map, r2.length_eq] at q
    rw [q, sz]
  rw [setRelay_eq]
  refine wpAny_bind (wpAny_setState_of ho hd hft ?_)
  dsimp only
  refine wp_if_neg (by rw [sizeLine_eq]; omega) ?_
  try refine wpAny_bind (wpAny_pure ?_)
  rw [e]
  dsimp only
  refine wpAny_bind (wp_if_neg (by rw [s2]; simp) ?_)
  try refine wpAny_bind (wpAny_pure ?_)
  refine wpAny_pure ?_
  dsimp only
  refine wpAny_storeSet_of ho hd ?_ (by rw [s2, sz, sizeLine_eq]; omega)
  exact hQ _ L2 (Heap.SameBut.update ..) ⟨_, _, _, t2, store_at ho hd, ⟨hex.1, hex.2.1, hex.2.2⟩, rfl, r1, T, (r2.map (·.2)).nodup_iff.mpr nd, by rw [el]; exact ld, by rw [r2.length_eq, em]; exact hn, by rw [r2.length_eq]; exact few⟩ r2
theorem fill_ok {hs : List Int} (T : TabOk t hs) : t.fill = hs.length := by
  unfold SetTable.fill
  rw [T.dm, T.sz]; rfl
theorem bcase {b : Bool} {α : Type} {x y : α} {p : α → Prop} (h1 : b = true → p x) (h2 : b = false → p y) : p (if b = true then x else y) := by
  cases b
  · rw [if_neg Bool.false_ne_true]; exact h2 rfl
  · rw [if_pos rfl]; exact h1 rfl
set_option maxHeartbeats 8000000 in
/-- one tuple put in -/
theorem add_tp (R : SetT P w s.heap a L) (ht : ∀ p ∈ L, TKy P w s.heap p.2 p.1) {x : Addr} {k : List Key} (hx : TKy P w s.heap k x) (hu : A.units < cLine) (few : L.length + 1 < 64) {Q : Bool → Shared → Prop}
    (hQ : ∀ b h2 L2, Heap.SameBut a s.heap h2 → SetT P w h2 a L2 → (k ∈ L.map (·.2) → L2 = L) → (k ∉ L.map (·.2) → L2.Perm ((x, k) :: L)) → Q b { s with heap := h2 }) : wpAny (model P w) A (setAddHashed a (.ref x) (hsK P w k)) Q E s := by
  obtain ⟨o, es, ep, t, ho, hex, hd, R⟩ := R
  have sz := R.size
  have room := R.room
  unfold setAddHashed
  refine wpAny_holding ?_
  rw [show (100000 : Nat) = 99999 + 1 from rfl, setAddHashedIn_succ]
  refine wpAny_bind (wpAny_setState_of ho hd R.fits ?_)
  dsimp only
  refine wp_if_neg (by simp [byScan, Value.scannable]) ?_
  try refine wpAny_bind (wpAny_pure ?_)
  refine wpAny_bind (hunt0 ho hd R ht hx hu (fun hm => ?_) fun N hm hN hb => ?_)
  · dsimp only
    exact wpAny_pure (hQ false s.heap L (Heap.SameBut.refl a s.heap) ⟨o, es, ep, t, ho, hex, hd, R⟩ (fun _ => rfl) fun z => absurd hm z)
  · dsimp only
    refine wpAny_bind (wpAny_setState_of ho hd R.fits ?_)
    dsimp only
    obtain ⟨q1, q2, q3, q4, q5, q6, q7, q8, q9⟩ := R.tab.put hN hb
    generalize hpt : t.put (way t.mask (hsK P w k) N) = pt at q1 q3 q4 q5 q6 q7 q8 q9 ⊢
    obtain ⟨t1, p⟩ := pt
    dsimp only at q1 q3 q4 q5 q6 q7 q8 q9 ⊢
    subst q1
    -- with either flag
    have go : ∀ t2 : SetTable, TabOk t2 ((L.map fun p => hsK P w p.2).take (SetTable.below t.place (way t.mask (hsK P w k) N)) ++ hsK P w k :: (L.map fun p => hsK P w p.2).drop (SetTable.below t.place (way t.mask (hsK P w k) N))) → t2.mask = t.mask → t2.led = t.led →
        wpAny (model P w) A (do
          storeSet a (SetTable.insertAt es (SetTable.below t.place (way t.mask (hsK P w k) N)) (hsK P w k, Value.ref x)) t2
          if (!false && t2.tooFull) = true then do
            setRelay a (SetTable.grown (es.size + 1))
            pure true
          else pure true) Q E s := by
      intro t2 T2 m2 l2
      have hin : (SetTable.insertAt es (SetTable.below t.place (way t.mask (hsK P w k) N)) (hsK P w k, Value.ref x)).toList = (L.take (SetTable.below t.place (way t.mask (hsK P w k) N)) ++ (x, k) :: L.drop (SetTable.below t.place (way t.mask (hsK P w k) N))).map (entK P w) := by
        rw [SetTable.toList_insertAt, R.rows, List.map_append, List.map_cons, List.map_take, List.map_drop]; rfl
      generalize SetTable.below t.place (way t.mask (hsK P w k) N) = j at q2 q3 T2 hin ⊢
      have pm := put_perm L j (x, k)
      have hlen : (L.take j ++ (x, k) :: L.drop j).length = L.length + 1 := pm.length_eq
      have hhs : (L.take j ++ (x, k) :: L.drop j).map (fun p => hsK P w p.2) = (L.map fun p => hsK P w p.2).take j ++ hsK P w k :: (L.map fun p => hsK P w p.2).drop j := by
        rw [List.map_append, List.map_cons, List.map_take, List.map_drop]
      rw [← hhs] at T2
      have nd1 : ((L.take j ++ (x, k) :: L.drop j).map (·.2)).Nodup := by
        refine (pm.map (·.2)).nodup_iff.mpr ?_
        rw [List.map_cons]
        exact List.nodup_cons.mpr ⟨hm, R.nd⟩
      have hes : (SetTable.insertAt es j (hsK P w k, Value.ref x)).size = L.length + 1 := by
        have q := congrArg List.length hin
        rw [Array.length_toList, List.length_map, hlen] at q
        exact q
      generalize SetTable.insertAt es j (hsK P w k, Value.ref x) = es1 at hin hes ⊢
      generalize L.take j ++ (x, k) :: L.drop j = L1 at pm hlen T2 nd1 hin
      have ld1 : w.params.followText "set-order" = true ∨ t2.led = true := by rw [l2]; exact R.led
      have fl : t2.fill = L.length + 1 := by rw [fill_ok T2, List.length_map, hlen]
      refine wpAny_bind (wpAny_storeSet_of ho hd ?_ (by rw [hes, sizeLine_eq]; omega))
      have sb : Heap.SameBut a s.heap (s.heap.update a (Obj.putSet es1 t2)) := Heap.SameBut.update ..
      have o1 := store_at (es' := es1) (t' := t2) ho hd
      generalize s.heap.update a (Obj.putSet es1 t2) = h1 at sb o1 ⊢
      by_cases hf : t2.tooFull = true
      · have full : (L.length + 1) * 5 ≥ t2.mask * 3 := by
          have q := hf
          unfold SetTable.tooFull at q
          rw [decide_eq_true_eq, fl] at q
          exact q
        rw [m2] at full
        have two : (t.mask = 7 ∧ L.length = 4) ∨ (t.mask = 31 ∧ L.length = 18) := by
          rcases R.tab.mok with e | e | e
          · left; rw [e] at full room; exact ⟨e, by omega⟩
          · right; rw [e] at full room; exact ⟨e, by omega⟩
          · exfalso; rw [e] at full; omega
        have ft1 : t2.fits es1.size = true := by
          have q := fits_tab T2 (by rw [List.length_map, hlen, m2]; rcases two with ⟨e, e2⟩ | ⟨e, e2⟩ <;> omega)
          rw [List.length_map, hlen] at q
          rw [hes]; exact q
        rw [sz]
        have fin : ∀ M, SetTable.sizeAbove (SetTable.grown (L.length + 1)) - 1 = M → MaskOk M → SetTable.sizeAbove (SetTable.grown (L.length + 1)) ≤ 128 → (L.length + 1) * 5 < M * 3 →
            wpAny (model P w) A (setRelay a (SetTable.grown (L.length + 1))) (fun _ s' => wpAny (model P w) A (pure true) Q E s') E { s with heap := h1 } := fun M g1 g2 g3 g4 => by
          refine relay (s := { s with heap := h1 }) o1 ⟨hex.1, hex.2.1, hex.2.2⟩ rfl hin ft1 nd1 ld1 (by rw [hlen]; exact few) g1 g2 g3 (by rw [hlen]; exact g4) ?_
          intro h2 L2 sb2 R2 pm2
          exact wpAny_pure (hQ true h2 L2 (sb.trans sb2) R2 (fun z => absurd z hm) fun _ => pm2.trans pm)
        refine wp_if_pos (by simp [hf]) (wpAny_bind ?_)
        rcases two with ⟨_, e2⟩ | ⟨_, e2⟩
        · exact fin 31 (by rw [e2, size_20]) (.inr (.inl rfl)) (by rw [e2, size_20]; decide) (by omega)
        · exact fin 127 (by rw [e2, size_76]) (.inr (.inr rfl)) (by rw [e2, size_76]; decide) (by omega)
      · refine wp_if_neg (by simp [hf]) (wpAny_pure (hQ true h1 L1 sb ⟨_, es1, _, t2, o1, ⟨hex.1, hex.2.1, hex.2.2⟩, rfl, hin, T2, nd1, ld1, ?_, by rw [hlen]; exact few⟩ (fun z => absurd z hm) fun _ => pm))
        have q := hf
        unfold SetTable.tooFull at q
        rw [decide_eq_true_eq, fl] at q
        rw [hlen]; omega
    by_cases hpl : t1.plain = true
    · refine wp_if_pos hpl (wpAny_bind (tup_hashBy hx fun c => ?_))
      refine go (if c = true then t1 else { t1 with plain := false }) ?_ ?_ ?_
      · cases c
        · exact tab_plain q3 false
        · exact q3
      · cases c <;> exact q4
      · cases c <;> exact q5
    · refine wp_if_neg hpl (wpAny_bind (wpAny_pure ?_))
      simp only [if_true]
      exact go t1 q3 q4 q5
theorem setT_new (ho : h.get? a = some (freshSet w)) : SetT P w h a [] :=
  ⟨_, #[], 0, _, ho, ⟨rfl, rfl, rfl⟩, rfl, rfl, ⟨List.Pairwise.nil, rfl, rfl, .inl rfl, fun x hx => (by cases hx), fun i h j hi => (by simp at hi)⟩, List.nodup_nil, by
    show _ ∨ (!w.params.followText "set-order") = true
    cases w.params.followText "set-order"
    · exact .inr rfl
    · exact .inl rfl, (by show 0 * 5 < 7 * 3; decide), (by show 0 < 64; decide)⟩
theorem SetT.mono (R : SetT P w h a L) (k : ∀ o, h.get? a = some o → h'.get? a = some o) : SetT P w h' a L := by
  obtain ⟨o, es, ep, t, ho, r⟩ := R
  exact ⟨o, es, ep, t, k o ho, r⟩
/-- what the set has of the first i items -/
structure TookT (P : Program) (w : World) (a : Addr) (ks : List Ent) (i : Nat) (h : Heap) : Prop where
  ex : ∃ L, SetT P w h a L ∧ (∀ p ∈ L, p ∈ ks.take i) ∧ (∀ p ∈ ks.take i, p.2 ∈ L.map (·.2)) ∧ L.length ≤ i
theorem steps_tp {ks : List Ent} {items : Array Value} (hv : ∀ (i : Nat) (v : Value), items[i]? = some v → ∃ p, ks[i]? = some p ∧ v = Value.ref p.1) (hk : ∀ p ∈ ks, TKy P w s.heap p.2 p.1) (hl : ks.length < 64) (hu : A.units + 8 < cLine) : Steps P w A s a items (TookT P w a ks) where
  start := fun h ho _ => ⟨[], setT_new ho, fun p hp => (by cases hp), fun p hp => (by simp at hp), Nat.zero_le _⟩
  stay := fun i h h' ⟨L, R, r⟩ k => ⟨L, R.mono fun o e => k a o e (Nat.le_refl _), r⟩
  step := fun B E' i v s1 Q hB hi ⟨L, R, h1, h2, hle⟩ kp hQ => by
    obtain ⟨p, hp, rfl⟩ := hv i v hi
    have hil : i < ks.length := (List.getElem?_eq_some_iff.mp hp).1
    have there : ∀ q ∈ ks, TKy P w s1.heap q.2 q.1 := fun q hq => key_keep (hk q hq) kp
    have hx := there p (List.mem_of_getElem? hp)
    unfold setAdd
    refine wpAny_holding (wpAny_bind (wpAny_pyHash_tuple (by omega) hx ?_))
    refine add_tp (s := { s1 with toks := s1.toks + (p.2.length + 1) }) R (fun q hq => there q (List.mem_of_mem_take (h1 q hq))) hx (by omega) (by omega) fun b h3 L2 sb R2 c1 c2 => ?_
    refine hQ b h3 _ (Nat.le_add_right _ _) sb ⟨L2, R2, ?_⟩
    rcases Classical.em (p.2 ∈ L.map (·.2)) with c | c
    · rw [c1 c]
      refine ⟨fun q hq => ?_, fun q hq => ?_, Nat.le_succ_of_le hle⟩
      · rw [take_next hp]; exact List.mem_append_left _ (h1 q hq)
      · rw [take_next hp] at hq
        rcases List.mem_append.mp hq with z | z
        · exact h2 q z
        · rw [List.mem_singleton.mp z]; exact c
    · have pm := c2 c
      refine ⟨fun q hq => ?_, fun q hq => ?_, by rw [pm.length_eq]; exact Nat.succ_le_succ hle⟩
      · rw [take_next hp]
        rcases List.mem_cons.mp (pm.mem_iff.mp hq) with e | z
        · rw [e]; exact List.mem_append_right _ (List.mem_singleton.mpr rfl)
        · exact List.mem_append_left _ (h1 q z)
      · rw [(pm.map (·.2)).mem_iff, List.map_cons]
        rw [take_next hp] at hq
        rcases List.mem_append.mp hq with z | z
        · exact List.mem_cons_of_mem _ (h2 q z)
        · rw [List.mem_singleton.mp z]; exact List.mem_cons_self
end
end Sx
end
section
set_option maxRecDepth 100000
set_option maxHeartbeats 4000000
/-! sorted of tuples of texts. -/
namespace Sx
open PySem PySem.Spec PyProof.Rows L2
abbrev ltR : List Str → List Str → Bool := lexB ltS
theorem ltR_ord : Ord ltR := lexB_ord ltS_ord
abbrev Rw := Addr × List Str
def toE (q : Rw) : Ent := (q.1, q.2.map Sum.inr)
section
variable {P : Program} {w : World} {A : Around} {E : Value → Shared → Prop} {s : Shared}
theorem inr_inj {a b : List Str} (h : a.map (Sum.inr : Str → Key) = b.map Sum.inr) : a = b := by
  induction a generalizing b with
  | nil => cases b with
    | nil => rfl
    | cons y ys => simp at h
  | cons x xs ih => cases b with
    | nil => simp at h
    | cons y ys =>
      rw [List.map_cons, List.map_cons] at h
      injection h with h1 h2
      rw [Sum.inr.inj h1, ih h2]
/-- the values are these texts -/
theorem strs_of_items {k : List Str} {vs : List Value} (h : ItemsAre (mixKind P w) (k.map Sum.inr) vs) : StrsAre vs k := by
  induction k generalizing vs with
  | nil => cases h; exact .nil
  | cons x k ih =>
    cases h with
    | cons h1 h2 =>
      obtain ⟨t, e⟩ := Value.isStrOf_shape (x := x) h1
      subst e
      exact .cons x t (ih h2)
theorem one_str {c : Bool} {x y : Str} {t u : Tok} {Q : Bool → Shared → Prop} (h : Q (ltS x y) s) : wpAny (model P w) A (oneLt' c (.str x t) (.str y u)) Q E s := by
  cases c with
  | true => exact oneLt_str h
  | false => exact PySem.W.kat_one _ _ (PyProof.Rows.lt_str (Q := PySem.W.BoolBack Q) h)
theorem lex_strs {b : Bool} {Q : Bool → Shared → Prop} {fin : Bool} {xs ys : List Value} {ns ms : List Str} (i : Nat) (hx : StrsAre xs ns) (hy : StrsAre ys ms) (hf : fin = decide (ns.length < ms.length)) (h : Q (ltR ns ms) s) : PySem.W.KatLex P w A b fin Q (xs.zip ys) i s := by
  induction hx generalizing ys ms i with
  | nil =>
    cases hy with
    | nil =>
      have e : fin = false := by rw [hf]; exact decide_eq_false (Nat.lt_irrefl _)
      subst e
      exact PySem.W.kat_nil h
    | cons q u hy =>
      have e : fin = true := by rw [hf]; exact decide_eq_true (by simp)
      subst e
      exact PySem.W.kat_nil h
  | @cons p t xs ns hx ih =>
    cases hy with
    | nil =>
      have e : fin = false := by rw [hf]; exact decide_eq_false (by simp)
      subst e
      exact PySem.W.kat_nil h
    | @cons q u ys ms hy =>
      show PySem.W.KatLex P w A b fin Q ((Value.str p t, Value.str q u) :: xs.zip ys) i s
      refine PySem.W.kat_cons (wpAny_eqBool_str ?_)
      by_cases e : p = q
      · subst e
        rw [decide_eq_true rfl]
        have d : ltR (p :: ns) (p :: ms) = ltR ns ms := if_pos rfl
        rw [d] at h
        refine PySem.W.kat_yes ?_
        have hf2 : fin = decide (ns.length < ms.length) := by rw [hf]; exact decide_eq_decide.mpr (by simp)
        first
          | exact ih (i + 1) hy hf2 h
          | exact ih _ _ (i + 1) hy hf2 h
      · rw [decide_eq_false e]
        have d : ltR (p :: ns) (q :: ms) = ltS p q := if_neg e
        rw [d] at h
        exact PySem.W.kat_no (one_str h)
/-- the value is a tuple of these texts -/
def TupS (P : Program) (w : World) (h : Heap) (v : Value) (q : Rw) : Prop := v = .ref q.1 ∧ TKy P w h (q.2.map Sum.inr) q.1
theorem firsts_s {h : Heap} : ∀ (vs : List Value), (∀ v ∈ vs, ∃ q, TupS P w h v q ∧ q.2 ≠ []) → ∃ fs, PySem.W.KatTups h vs fs ∧ fs.length = vs.length ∧ ∀ f ∈ fs, ∃ x t, f = Value.str x t
  | [], _ => ⟨[], PySem.W.KatTups.nil, rfl, fun f hf => by simp at hf⟩
  | v :: vs, x => by
    obtain ⟨fs, k, hl, hi⟩ := firsts_s vs fun u hu => x u (List.mem_cons_of_mem _ hu)
    obtain ⟨⟨a, ns⟩, ⟨rfl, o, items, n, ho, hc, hd, ht⟩, hne⟩ := x v List.mem_cons_self
    have hS := strs_of_items ht
    cases ns with
    | nil => exact absurd rfl hne
    | cons y ys =>
      generalize e : items.toList = l at hS
      cases hS with
      | cons _ t hr =>
        rename_i rest
        refine ⟨.str y t :: fs, PySem.W.KatTups.cons ho hc hd ?_ k, by simp [hl], fun f hf => ?_⟩
        · have z := congrArg (fun l : List Value => l[0]?) e
          simpa using z
        · rcases List.mem_cons.mp hf with rfl | hf
          · exact ⟨y, t, rfl⟩
          · exact hi f hf
/-- the key of an address, by a list -/
def atF (f : List Rw) (b : Addr) : List Str := ((f.find? fun q => decide (q.1 = b)).map (·.2)).getD []
theorem atF_of {f : List Rw} (inj : ∀ q ∈ f, ∀ r ∈ f, q.1 = r.1 → q = r) {q : Rw} (hq : q ∈ f) : atF f q.1 = q.2 := by
  unfold atF
  cases e : f.find? fun r => decide (r.1 = q.1) with
  | none =>
    have := List.find?_eq_none.mp e q hq
    simp at this
  | some r =>
    have h1 := List.mem_of_find?_eq_some e
    have h2 := List.find?_some e
    simp only [decide_eq_true_eq] at h2
    rw [inj r h1 q hq h2]; rfl
def rkF (f : List Rw) : Value → Int
  | .ref b => rank ltR (f.map (·.2)) (atF f b)
  | _ => 0
theorem kind_s {f : List Rw} {vs : List Value} (h2 : 2 ≤ vs.length) (hv : ∀ v ∈ vs, ∃ q ∈ f, TupS P w s.heap v q) (hne : ∀ q ∈ f, q.2 ≠ []) (inj : ∀ q ∈ f, ∀ r ∈ f, q.1 = r.1 → q = r) (Q : SortKind → Shared → Prop)
    (h : ∀ κ, TS.Cmp P w A s κ (pairsOf vs) (rkF f) → Q κ s) : wpAny (model P w) A (keyKind' vs.toArray) Q E s := by
  obtain ⟨fs, k, hl, hi⟩ := firsts_s (P := P) (w := w) vs fun v hm => by
    obtain ⟨q, hq, ht⟩ := hv v hm
    exact ⟨q, ht, hne q hq⟩
  refine PySem.W.kat_kind (T := Value.type "str") k (by omega) (fun g hg => ?_) rfl (h _ ?_)
  · obtain ⟨x, t, rfl⟩ := hi g hg
    exact PySem.W.Looks.of_pure rfl
  · intro p q hp hq Q' E' hQ
    rw [pairsOf_toList] at hp hq
    obtain ⟨a, ha, ea, ta⟩ := hv _ (mem_zip_self hp).2
    obtain ⟨b, hb, eb, tb⟩ := hv _ (mem_zip_self hq).2
    rw [ea, eb] at hQ ⊢
    have hQ2 : Q' (ltR a.2 b.2) s := by
      have e : decide (rkF f (.ref a.1) < rkF f (.ref b.1)) = ltR a.2 b.2 := by
        show decide (rank ltR (f.map (·.2)) (atF f a.1) < rank ltR (f.map (·.2)) (atF f b.1)) = _
        rw [atF_of inj ha, atF_of inj hb]
        exact rank_dec ltR_ord (List.mem_map.mpr ⟨a, ha, rfl⟩)
      rw [← e]; exact hQ
    obtain ⟨o, xs, n, ho, hc, hd, it⟩ := ta
    obtain ⟨o', ys, n', ho', hc', hd', it'⟩ := tb
    have s1 := strs_of_items it
    have s2 := strs_of_items it'
    refine PySem.W.kat_lt ho hd ho' hd' (lex_strs 0 s1 s2 ?_ hQ2)
    have l1 := StrsAre.len_eq s1
    have l2 := StrsAre.len_eq s2
    rw [Array.length_toList] at l1 l2
    rw [l1, l2]
/-- list.sort of them -/
theorem sort_s {a : Addr} {f : List Rw} {vs : List Value} {n : Nat} {Q : Value → Shared → Prop} (ho : s.heap.get? a = some (seqObj "list" vs.toArray n)) (h64 : vs.length < 64) (hv : ∀ v ∈ vs, ∃ q ∈ f, TupS P w s.heap v q) (hne : ∀ q ∈ f, q.2 ≠ []) (inj : ∀ q ∈ f, ∀ r ∈ f, q.1 = r.1 → q = r)
    (h : ∀ out : Array Value, out.toList.Perm vs → out.toList.Pairwise (fun u v => rkF f u ≤ rkF f v) → Q .none { s with heap := sortedHeap s.heap a vs out }) :
    wpAny (model P w) A (call (.builtin "list.sort") [.ref a]) Q E s := by
  refine wpAny_call_entry slot_list_sort ⟨_, ho, rfl⟩ entry_list_sort ?_ (args_list_sort _)
  refine SK.plain_sort (r := rkF f) ho h64 (fun h2 Q' hQ' => ?_) fun ps out h1 h2 h3 => ?_
  · refine kind_s (s := { s with heap := TS.midHeap s.heap a vs }) h2 (fun v hm => ?_) hne inj Q' hQ'
    obtain ⟨q, hq, e, ob, items, m, hob, hc, r⟩ := hv v hm
    refine ⟨q, hq, e, ob, items, m, TS.midHeap_old (fun z => ?_) hob, hc, r⟩
    rw [z, ho] at hob
    cases hob
    have c2 : Value.type "list" = Value.type "tuple" := hc
    injection c2 with c3
    exact absurd c3 (by decide)
  · obtain ⟨p1, p2⟩ := TS.out_rank h1 h2 h3
    exact ⟨_, rfl, h out p1 p2⟩
set_option maxHeartbeats 8000000 in
/-- sorted of a set of them -/
theorem sorted_tp {a : Addr} {f : List Rw} {Q : Value → Shared → Prop} (R : SetT P w s.heap a (f.map toE)) (ht : ∀ q ∈ f, TKy P w s.heap (q.2.map Sum.inr) q.1) (hne : ∀ q ∈ f, q.2 ≠ []) (hh : A.handled = none)
    (hQ : ∀ s2 p (out : Array Value) (c : Nat) (g : List Rw), (∀ b o, s.heap.get? b = some o → s2.heap.get? b = some o) → s2.gens = s.gens → s2.os = s.os → s.heap.objs.size ≤ p → s2.heap.get? p = some (seqObj "list" out c) →
      out.toList = g.map (fun q => Value.ref q.1) → (∀ q ∈ g, q ∈ f) → g.map (·.2) = sortU ltR (f.map (·.2)) → Q (.ref p) s2) :
    wpAny (model P w) A (call (.builtin "sorted") [.ref a]) Q E s := by
  obtain ⟨o, es, ep, t, ho, hex, hd, R⟩ := R
  have few := R.few
  rw [List.length_map] at few
  have ndk : (f.map (·.2)).Nodup := by
    have q := R.nd
    rw [List.map_map] at q
    have e : (f.map ((·.2) ∘ toE)) = (f.map (·.2)).map (fun k => k.map (Sum.inr : Str → Key)) := by rw [List.map_map]; rfl
    rw [e] at q
    exact nodup_of_map q
  have inj : ∀ q ∈ f, ∀ r ∈ f, q.1 = r.1 → q = r := fun q hq r hr e => by
    have a1 := ht q hq
    have a2 := ht r hr
    rw [e] at a1
    exact Prod.ext e (inr_inj (a1.inj a2))
  have ndr : (f.map fun q => Value.ref q.1).Nodup := by
    refine List.pairwise_map.mpr (List.Pairwise.imp_of_mem (fun {q r} hq hr hn e => ?_) (nodup_of_map ndk))
    injection e with e
    exact hn (inj q hq r hr e)
  refine Calls.call_function_entry kind_sorted plain_sorted entry_sorted (args_sorted1 _) ?_
  unfold Builtin.«sorted»
  refine wpAny_bind (m := checkCount "sorted" 1 1 _) (wpAny_pure ?_)
  refine wpAny_bind (collect_set (A := A.in1) hh ⟨o, ho, hex.1, hd⟩ R.fits (by rw [R.size, List.length_map]; unfold scanBound; omega) R.tab.ris R.led fun s1 vs k1 hz g1 o1 pm => ?_)
  have pm2 : vs.Perm (f.map fun q => Value.ref q.1) := by
    rw [R.rows, List.map_map, List.map_map] at pm
    exact pm
  have hl : vs.length = f.length := by rw [pm2.length_eq, List.length_map]
  refine wpAny_bind (wpAny_newList ?_ (by rw [hl, sizeLine_eq]; omega))
  have hoL : (s1.heap.push (seqObj "list" vs.toArray 0)).get? s1.heap.objs.size = some (seqObj "list" vs.toArray 0) := Heap.get?_push_size _ rfl
  refine wpAny_bind (wpAny_holding (sort_s (P := P) (w := w) (f := f) (s := { s1 with heap := s1.heap.push (seqObj "list" vs.toArray 0) }) hoL (by rw [hl]; exact few) (fun v hv => ?_) hne inj fun out a1 a2 => ?_))
  · obtain ⟨q, hq, e⟩ := List.mem_map.mp (pm2.mem_iff.mp hv)
    exact ⟨q, hq, e.symm, key_keep (ht q hq) fun b u eb => Heap.get?_push_of_some _ (k1 b u eb)⟩
  · obtain ⟨c, hc⟩ := sortedHeap_at (vs := vs) (out := out) hoL
    have pout : out.toList.Perm (f.map fun q => Value.ref q.1) := a1.trans pm2
    -- the entries in that order
    have ord : ∀ l : List Value, (∀ v ∈ l, v ∈ f.map fun q => Value.ref q.1) → ∃ g : List Rw, l = g.map (fun q => Value.ref q.1) ∧ ∀ q ∈ g, q ∈ f := by
      intro l
      induction l with
      | nil => exact fun _ => ⟨[], rfl, fun q hq => by cases hq⟩
      | cons v l ih =>
        intro hv
        obtain ⟨g, e1, e2⟩ := ih fun u hu => hv u (List.mem_cons_of_mem _ hu)
        obtain ⟨q, hq, e⟩ := List.mem_map.mp (hv v List.mem_cons_self)
        refine ⟨q :: g, by rw [List.map_cons, e, e1], fun r hr => ?_⟩
        rcases List.mem_cons.mp hr with z | z
        · rw [z]; exact hq
        · exact e2 r z
    obtain ⟨g, eg, hg⟩ := ord out.toList fun v hv => pout.mem_iff.mp hv
    have ndg : (g.map fun q => Value.ref q.1).Nodup := by rw [← eg]; exact pout.nodup_iff.mpr ndr
    have mem : ∀ q, q ∈ g ↔ q ∈ f := fun q => ⟨hg q, fun hq => by
      have h1 : Value.ref q.1 ∈ out.toList := pout.mem_iff.mpr (List.mem_map.mpr ⟨q, hq, rfl⟩)
      rw [eg] at h1
      obtain ⟨r, hr, e⟩ := List.mem_map.mp h1
      injection e with e
      rw [← inj r (hg r hr) q hq e]; exact hr⟩
    have ndgk : (g.map (·.2)).Nodup := by
      refine List.pairwise_map.mpr (List.Pairwise.imp_of_mem (fun {q r} hq hr hn e => ?_) (nodup_of_map ndg))
      have ij : ∀ q ∈ f, ∀ r ∈ f, q.2 = r.2 → q = r := by
        intro q hq r hr e
        obtain ⟨i, hi, ei⟩ := List.getElem_of_mem hq
        obtain ⟨j, hj, ej⟩ := List.getElem_of_mem hr
        have h1 : (f.map (·.2))[i]'(by rw [List.length_map]; exact hi) = (f.map (·.2))[j]'(by rw [List.length_map]; exact hj) := by
          rw [List.getElem_map, List.getElem_map, ei, ej]; exact e
        have h2 := (List.getElem_inj ndk).mp h1
        subst h2
        rw [← ei, ← ej]
      exact hn (ij q (hg q hq) r (hg r hr) e)
    have asc : g.map (·.2) = sortU ltR (f.map (·.2)) := by
      refine sortU_of ltR_ord (asc_of_rank ltR_ord (l := f.map (·.2)) (fun z hz => ?_) ndgk ?_) fun z => ?_
      · obtain ⟨q, hq, e⟩ := List.mem_map.mp hz
        exact List.mem_map.mpr ⟨q, hg q hq, e⟩
      · rw [eg] at a2
        refine List.pairwise_map.mpr (List.Pairwise.imp_of_mem (fun {q r} hq hr le => ?_) (List.pairwise_map.mp a2))
        have le2 : rank ltR (f.map (·.2)) (atF f q.1) ≤ rank ltR (f.map (·.2)) (atF f r.1) := le
        rw [atF_of inj (hg q hq), atF_of inj (hg r hr)] at le2
        exact le2
      · rw [List.mem_map, List.mem_map]
        exact ⟨fun ⟨q, hq, e⟩ => ⟨q, (mem q).mp hq, e⟩, fun ⟨q, hq, e⟩ => ⟨q, (mem q).mpr hq, e⟩⟩
    refine wpAny_pure ⟨_, rfl, hQ _ s1.heap.objs.size out c g (fun b u e => ?_) g1 o1 hz hc eg hg asc⟩
    have q := k1 b u e
    have lt := Heap.lt_size q
    show (sortedHeap (s1.heap.push (seqObj "list" vs.toArray 0)) s1.heap.objs.size vs out).get? b = some u
    rw [sortedHeap_old (Nat.ne_of_lt lt) (by rw [size_push']; exact Nat.lt_succ_of_lt lt)]
    exact Heap.get?_push_of_some _ q
end
end Sx
end
section
set_option maxRecDepth 100000
set_option maxHeartbeats 4000000
/-! sets of tuples of texts, sorted: rules, and what the layer knows of them. -/
namespace Sx
open PySem PySem.Spec PyProof.Rows L2
def TpO (P : Program) (w : World) (a : Addr) (L : List Ent) : HO := .ext fun h => SetT P w h a L
section
variable {P : Program} {w : World} {H : Hp} {h : Heap} {a : Addr} {L : List Ent}
theorem tpO_ok (R : SetT P w h a L) : ObjOk P w H h a (TpO P w a L) := by
  have ⟨o, _, _, _, ho, _⟩ := R
  exact ⟨R, ⟨o, ho⟩, fun h1 h2 p k => SetT.mono p k⟩
theorem items_keys : ∀ {k : List Key} {us : List Value}, Vals (k.map kV) us → ItemsAre (mixKind P w) k us
  | [], _, .nil => .nil
  | .inl n :: k, _, .cons r t => by
    obtain ⟨tk, rfl⟩ := r
    exact .cons (keyIs_int n tk) (items_keys t)
  | .inr x :: k, _, .cons r t => by
    obtain ⟨tk, rfl⟩ := r
    exact .cons (keyIs_str x tk) (items_keys t)
theorem vals_ref {α : Type} {f : α → Addr} : ∀ {ks : List α} {us : List Value}, Vals (ks.map fun p => V.ref (f p)) us → us = ks.map fun p => Value.ref (f p)
  | [], _, .nil => rfl
  | _ :: ks, _, .cons r t => by cases r; rw [vals_ref t]; rfl
theorem ref_vals {α : Type} {f : α → Addr} : ∀ (ks : List α), Vals (ks.map fun p => V.ref (f p)) (ks.map fun p => Value.ref (f p))
  | [] => .nil
  | _ :: ks => .cons rfl (ref_vals ks)
end
section
variable {X : Cx} {pins : List (Addr × Obj)} {σ : L2.St} {H : Hp} {s : Shared}
theorem inv_key {b : Addr} {k : List Key} (I : Inv X pins σ H s) (h : SqT X.K H b (k.map kV)) : TKy X.prog X.w s.heap k b := by
  obtain ⟨its, r, ⟨o, ho, hc, n, hd⟩, _⟩ := I.tuple h
  exact ⟨o, its.toArray, n, ho, hc, hd, by simpa using items_keys r⟩
def rSetT (K : PySem.W.Frag) (P : Program) (w : World) : List V → Hp → VK → Prop := fun vs H Q => ∃ (l : Addr) (ks : List Ent), vs = [V.ref l] ∧ (SqL K H l (ks.map fun p => V.ref p.1) ∨ SqT K H l (ks.map fun p => V.ref p.1)) ∧ (∀ p ∈ ks, SqT K H p.1 (p.2.map kV)) ∧ ks.length < 64 ∧
  ∀ a L, H a = none → (∀ p ∈ L, p ∈ ks) → (∀ p ∈ ks, p.2 ∈ L.map (·.2)) → Q (.ref a) (upd H a (TpO P w a L))
theorem cx_setT (hc : X.calm = true) (hu : X.A.units + 64 < cLine) : CallR X (.type "set") (rSetT X.K X.prog X.w) := by
  intro pins s σ H xs us Q I r h
  obtain ⟨l, ks, rfl, hl, hk, hf, q⟩ := h
  rw [Vals.ref1 r]
  have hn : H s.heap.objs.size = none := I.hok.fresh (Nat.le_refl _)
  have fin : ∀ n h2 tk, n = ks.length → TookT X.prog X.w s.heap.objs.size ks n h2 → (∀ b o, s.heap.get? b = some o → h2.get? b = some o) → EP X pins σ Q (.ref s.heap.objs.size) { s with heap := h2, toks := tk } := by
    rintro n h2 tk rfl ⟨L, R, c1, c2, _⟩ kp
    rw [List.take_length] at c1 c2
    exact ⟨.ref _, _, I.laid (t' := tk) kp (Nat.le_refl _) (tpO_ok R), rfl, q _ L hn c1 c2⟩
  have hat : ∀ its : List Value, its = (ks.map fun p => Value.ref p.1) → ∀ (i : Nat) (v : Value), its.toArray[i]? = some v → ∃ p, ks[i]? = some p ∧ v = Value.ref p.1 := fun its e i v hv => by
    have q : its[i]? = some v := by simpa using hv
    rw [e, List.getElem?_map] at q
    cases c : ks[i]? with
    | none => rw [c] at q; cases q
    | some p => rw [c] at q; exact ⟨p, rfl, (Option.some.inj q).symm⟩
  rcases hl with hl | hl
  · obtain ⟨its, rv, pl, hz⟩ := I.list hl
    have e := vals_ref rv
    exact call_set_listG (I.ok.hd hc) pl.isList (steps_tp (ks := ks) (hat its e) (fun p hp => inv_key I (hk p hp)) hf (by omega)) fun h2 tk hp kp => fin _ h2 tk (by rw [e]; simp) hp kp
  · obtain ⟨its, rv, pl, hz⟩ := I.tuple hl
    have e := vals_ref rv
    exact call_set_tupG (I.ok.hd hc) pl (steps_tp (ks := ks) (hat its e) (fun p hp => inv_key I (hk p hp)) hf (by omega)) fun h2 tk hp kp => fin _ h2 tk (by rw [e]; simp) hp kp
def rSortT (K : PySem.W.Frag) (P : Program) (w : World) : List V → Hp → VK → Prop := fun vs H Q => ∃ (a : Addr) (f : List Rw), vs = [V.ref a] ∧ H a = some (TpO P w a (f.map toE)) ∧ (∀ q ∈ f, SqT K H q.1 (q.2.map V.str)) ∧ (∀ q ∈ f, q.2 ≠ []) ∧
  ∀ (g : List Rw) (p : Addr), g.map (·.2) = sortU ltR (f.map (·.2)) → (∀ q ∈ g, q ∈ f) → H p = none → Q (.ref p) (upd H p (.lst (g.map fun q => V.ref q.1)))
theorem key_str (k : List Str) : (k.map (Sum.inr : Str → Key)).map kV = k.map V.str := by rw [List.map_map]; rfl
theorem cx_sortT (hc : X.calm = true) : CallR X (.builtin "sorted") (rSortT X.K X.prog X.w) := by
  intro pins s σ H vs us Q I r h
  obtain ⟨a, f, rfl, ha, hk, hne, q⟩ := h
  have R : SetT X.prog X.w s.heap a (f.map toE) := (I.hok a _ ha).1
  have few : f.length < 64 := by
    obtain ⟨_, _, _, _, _, _, _, R0⟩ := R
    have z := R0.few
    rw [List.length_map] at z
    exact z
  rw [Vals.ref1 r]
  refine sorted_tp R (fun q hq => inv_key I (by rw [key_str]; exact hk q hq)) hne (I.ok.hd hc) fun s2 p out c g k eg o hp hg hout hsub hs => ?_
  have hlg : g.length ≤ f.length := by
    have z := congrArg List.length hs
    rw [List.length_map] at z
    rw [z]
    refine Nat.le_trans (sortU_len _) (by rw [List.length_map]; exact Nat.le_refl _)
  have hn : H p = none := I.hok.fresh hp
  have hlen : (g.map fun q => V.ref q.1).length ≤ sizeLine := by rw [List.length_map, sizeLine_eq]; omega
  have J : Inv X pins σ (upd H p (.lst (g.map fun q => V.ref q.1))) { s with heap := s2.heap, gens := s2.gens, drawn := s2.drawn, toks := s2.toks } :=
    I.call (ch := []) (Un.laid k hp hn) (I.hok.laid k hp ⟨hlen, out.toList, c, by rw [hout]; exact ref_vals g, hg⟩) (by rw [eg]; exact I.bare) (fun _ z => nomatch z)
  have e : s2 = { s with heap := s2.heap, gens := s2.gens, drawn := s2.drawn, toks := s2.toks } := by
    cases s2; cases s; cases o; rfl
  rw [e]
  exact ⟨.ref p, _, J, rfl, q g p hs hsub hn⟩
end
end Sx
namespace Dl
open PySem L2 Sx
variable {F : Fx} {B : Bs} {δ : Env} {μ : Mu} {K : PySem.W.Frag} {P : Program} {w : World} {k1 : Know}
/-- a tuple of texts -/
abbrev rowK (K : PySem.W.Frag) (r : List Str) : Know := tupK K (r.map sK)
/-- a set of texts, of tuples of texts -/
def setXK (w : World) (xs : List Str) : Know := ⟨fun v G => ∃ (a : Addr) (ys : List Str), v = .ref a ∧ G a = some (SetXO w a ys) ∧ (∀ x, x ∈ ys ↔ x ∈ xs) ∧ ys.length ≤ xs.length, fun s ⟨a, ys, e, h, q⟩ => ⟨a, ys, e, s _ _ h, q⟩⟩
def setTK (K : PySem.W.Frag) (P : Program) (w : World) (rows : List (List Str)) : Know := ⟨fun v G => ∃ (a : Addr) (f : List Rw), v = .ref a ∧ G a = some (TpO P w a (f.map toE)) ∧ (∀ q ∈ f, SqT K G q.1 (q.2.map V.str)) ∧ ∀ r : List Str, r ∈ f.map (fun q : Rw => q.2) ↔ r ∈ rows,
  fun s ⟨a, f, e, h, q, m⟩ => ⟨a, f, e, s _ _ h, fun p hp => seqT_mono s (q p hp), m⟩⟩
/-- lists or tuples that do not change any more -/
def sqK (b : Bool) (K : PySem.W.Frag) (ks : List Know) : Know := if b then listK ks else tupK K ks
theorem sq_seq {b : Bool} {ks : List Know} {v : V} {G H : Hp} (s : Same G H) (h : (sqK b K ks).p v G) : ∃ a vs, v = .ref a ∧ (SqL K H a vs ∨ SqT K H a vs) ∧ AllK G vs ks := by
  cases b with
  | true =>
    obtain ⟨a, vs, e, h1, h2⟩ : (listK ks).p v G := h
    exact ⟨a, vs, e, .inl (.inl (.inl (s _ _ h1))), h2⟩
  | false =>
    obtain ⟨a, vs, e, h1, h2⟩ : (tupK K ks).p v G := h
    exact ⟨a, vs, e, .inr (seqT_mono s h1), h2⟩
theorem rows_at {G : Hp} : ∀ {rows : List (List Str)} {vs : List V}, AllK G vs (rows.map (rowK K)) → ∃ f : List Rw, vs = f.map (fun q => V.ref q.1) ∧ f.map (·.2) = rows ∧ ∀ q ∈ f, SqT K G q.1 (q.2.map V.str)
  | [], _, .nil => ⟨[], rfl, rfl, fun q hq => by cases hq⟩
  | r :: rows, _, .cons a b => by
    obtain ⟨f, e1, e2, e3⟩ := rows_at b
    obtain ⟨p, us, rfl, hp, hr⟩ := a
    have eu := allK_val (f := V.str) hr
    subst eu
    refine ⟨(p, r) :: f, by rw [e1]; rfl, by rw [List.map_cons, e2], fun q hq => ?_⟩
    rcases List.mem_cons.mp hq with e | hq
    · rw [e]; exact hp
    · exact e3 q hq
theorem rows_back {G : Hp} : ∀ (f : List Rw), (∀ q ∈ f, SqT K G q.1 (q.2.map V.str)) → AllK G (f.map fun q => V.ref q.1) ((f.map (·.2)).map (rowK K))
  | [], _ => .nil
  | q :: f, h => .cons ⟨q.1, q.2.map V.str, rfl, h q List.mem_cons_self, allK_of_val q.2⟩ (rows_back f fun p hp => h p (List.mem_cons_of_mem _ hp))
theorem cr_setX {b : Bool} {xs : List Str} (hl : xs.length < 1000) : CRk F μ (rSetX K w) [sqK b K (xs.map sK)] (setXK w xs) := fun G H vs s j o p Q q => by
  obtain ⟨v, rfl, p'⟩ := allK1 p
  obtain ⟨a, ws, rfl, ha, rr⟩ := sq_seq s p'
  have e := allK_val rr
  subst e
  exact ⟨a, xs, rfl, ha, hl, fun p ys hp hm nd hle => q _ (upd G p _) _ (Gr.new s hp) (F.new s hp j) ⟨p, ys, rfl, upd_same, hm, hle⟩⟩
theorem cn_sortX {xs : List Str} (hl : xs.length < 64) : CNk F μ (rSortX w) [setXK w xs] (.lst ((sortU ltS xs).map sK)) := fun G H vs s j o p Q q => by
  obtain ⟨v, rfl, a, ys, rfl, ha, hm, hle⟩ := allK1 p
  refine ⟨a, ys, rfl, s _ _ ha, by omega, ?_⟩
  rw [sortU_congr ltS_ord hm]
  exact en_new1 (.refl s) j (allK_of_val _) q
theorem cr_setT2 {b : Bool} {rows : List (List Str)} (hl : rows.length < 64) : CRk F μ (rSetT K P w) [sqK b K (rows.map (rowK K))] (setTK K P w rows) := fun G H vs s j o p Q q => by
  obtain ⟨v, rfl, p'⟩ := allK1 p
  obtain ⟨a, ws, rfl, ha, rr⟩ := sq_seq s p'
  obtain ⟨f, e1, e2, e3⟩ := rows_at rr
  have e4 : ws = (f.map toE).map fun p => V.ref p.1 := by rw [e1, List.map_map]; rfl
  have hk : ∀ p ∈ f.map toE, SqT K H p.1 (p.2.map kV) := fun p hp => by
    obtain ⟨q, hq, rfl⟩ := List.mem_map.mp hp
    show SqT K H q.1 ((q.2.map (Sum.inr : Str → Key)).map kV)
    rw [key_str]; exact seqT_mono s (e3 q hq)
  have hlen : (f.map toE).length < 64 := by
    have z := congrArg List.length e2
    rw [List.length_map] at z
    rw [List.length_map, z]; exact hl
  refine ⟨a, f.map toE, rfl, by rw [← e4]; exact ha, hk, hlen, fun p L hp h1 h2 => ?_⟩
  -- the members again as rows
  obtain ⟨g, hg⟩ : ∃ g : List Rw, L = g.map toE ∧ ∀ q ∈ g, q ∈ f := by
    clear h2
    induction L with
    | nil => exact ⟨[], rfl, fun q hq => by cases hq⟩
    | cons y L ih =>
      obtain ⟨g, e, hg⟩ := ih fun p hp => h1 p (List.mem_cons_of_mem _ hp)
      obtain ⟨q, hq, ey⟩ := List.mem_map.mp (h1 y List.mem_cons_self)
      refine ⟨q :: g, by rw [List.map_cons, ey, e], fun r hr => ?_⟩
      rcases List.mem_cons.mp hr with z | z
      · rw [z]; exact hq
      · exact hg r z
  obtain ⟨rfl, hg⟩ := hg
  refine q _ (upd G p _) _ (Gr.new s hp) (F.new s hp j) ⟨p, g, rfl, upd_same, fun q hq => seqT_mono (same_new (none_sub s hp)) (e3 q (hg q hq)), fun r => ?_⟩
  rw [← e2]
  constructor
  · intro hr
    obtain ⟨q, hq, e⟩ := List.mem_map.mp hr
    exact List.mem_map.mpr ⟨q, hg q hq, e⟩
  · intro hr
    obtain ⟨q, hq, e⟩ := List.mem_map.mp hr
    have z := h2 (toE q) (List.mem_map.mpr ⟨q, hq, rfl⟩)
    rw [List.map_map] at z
    obtain ⟨q2, hq2, e2⟩ := List.mem_map.mp z
    exact List.mem_map.mpr ⟨q2, hq2, (inr_inj e2).trans e⟩
theorem cn_sortT {rows : List (List Str)} (hne : ∀ r ∈ rows, r ≠ []) : CNk F μ (rSortT K P w) [setTK K P w rows] (.lst ((sortU ltR rows).map (rowK K))) := fun G H vs s j o p Q q => by
  obtain ⟨v, rfl, a, f, rfl, ha, hk, hm⟩ := allK1 p
  refine ⟨a, f, rfl, s _ _ ha, fun q hq => seqT_mono s (hk q hq), fun q hq => hne _ ((hm _).mp (List.mem_map.mpr ⟨q, hq, rfl⟩)), fun g p hs hsub hp => ?_⟩
  have e : sortU ltR (f.map (·.2)) = sortU ltR rows := sortU_congr ltR_ord hm
  have r := rows_back (K := K) (G := G) g fun q hq => hk q (hsub q hq)
  rw [hs, e] at r
  exact en_new1 (.refl s) j r q p hp
end Dl
end
section
set_option maxRecDepth 100000
set_option maxHeartbeats 4000000
/-! {elt for a in xs for b in ys}, elt a text: the set that sorted can read. -/
namespace Sx
open PySem PySem.Spec PyProof.Rows L2
abbrev sc2 (elt t0 i0 : Expr) (ifs0 : List Expr) (t1 i1 : Expr) (ifs1 : List Expr) (scope : Scope) (pos : Pos) : Expr := .SetComp elt [⟨t0, i0, ifs0, 0⟩, ⟨t1, i1, ifs1, 0⟩] scope pos
section
variable {prog : Program} {w : World} {A : Around} {R : Result → Shared → Prop} {s : Shared} {env : PySem.Env}
variable {elt t0 i0 t1 i1 : Expr} {ifs0 ifs1 : List Expr} {scope : Scope} {pos : Pos} {it acc : Value}
theorem turn_out : compTurn (sc2 elt t0 i0 ifs0 t1 i1 ifs1 scope pos) 0 it acc env = (do
    standAt i0.pos
    match ← pyNext it with
    | none => pure (.done .next)
    | some v =>
      letOwnedTupleGo t0 it v
      assign t0 env v
      let mut ok := true
      for c in ifs0 do
        if ok then ok ← isTrue c env (eval c env)
      if ok then
        let x ← eval i1 env
        standAt i1.pos
        let x ← foldedSetIterable i1 env x
        let _ ← runOwn (.compStart (sc2 elt t0 i0 ifs0 t1 i1 ifs1 scope pos) 1 (← holding [x] (pyIter x)) acc env) env
      again (.compLoop (sc2 elt t0 i0 ifs0 t1 i1 ifs1 scope pos) 0 it acc env)) := by rfl
theorem turn_in : compTurn (sc2 elt t0 i0 ifs0 t1 i1 ifs1 scope pos) 1 it acc env = (do
    standAt i1.pos
    match ← pyNext it with
    | none => pure (.done .next)
    | some v =>
      letOwnedTupleGo t1 it v
      assign t1 env v
      let mut ok := true
      for c in ifs1 do
        if ok then ok ← isTrue c env (eval c env)
      if ok then
        (do let v ← eval elt env; standAt elt.pos; let _ ← call (.builtin "set.add") [acc, v])
      again (.compLoop (sc2 elt t0 i0 ifs0 t1 i1 ifs1 scope pos) 1 it acc env)) := by rfl
abbrev Wp (prog : Program) (w : World) (A : Around) (env : PySem.Env) (R : Result → Shared → Prop) {α : Type} (m : Sem α) (Q : α → Shared → Prop) (s : Shared) : Prop := wpAny (model prog w) A m Q (notedBy (model prog w) A env fun e s' => R (.error e) s') s
abbrev testsOf (ifs : List Expr) (env : PySem.Env) : Sem Bool := forIn ifs true fun c r => if r = true then do let ok ← isTrue c env (eval c env); pure (ForInStep.yield ok) else pure (ForInStep.yield r)
theorem loop_out (hs : ∀ x, foldedSetIterable i1 env x = pure x) (I : Nat → Shared → Prop)
    (turn : ∀ n s, I n s → Wp prog w A env R (pyNext it) (fun r s1 => match r with
      | none => R (.ok .next) s1
      | some v => Wp prog w A env R (letOwnedTupleGo t0 it v) (fun _ s2 => Wp prog w A env R (assign t0 env v) (fun _ s3 => Wp prog w A env R (testsOf ifs0 env) (fun ok s4 =>
            if ok = true then Wp prog w A env R (eval i1 env) (fun x s5 => Wp prog w A env R (pyIter x) (fun j s6 =>
              codeAny (model prog w) A (.compStart (sc2 elt t0 i0 ifs0 t1 i1 ifs1 scope pos) 1 j acc env) (fun r s' => match r with
                | .ok _ => ∃ m, m < n ∧ I m s'
                | .error _ => False) s6) s5) s4
            else ∃ m, m < n ∧ I m s4) s3) s2) s1) s)
    (n : Nat) (h : I n s) : codeAny (model prog w) A (.compLoop (sc2 elt t0 i0 ifs0 t1 i1 ifs1 scope pos) 0 it acc env) R s := by
  refine codeAny_loop rfl I (fun n s hI => ?_) n h
  show wpAny _ A ((compTurn (sc2 elt t0 i0 ifs0 t1 i1 ifs1 scope pos) 0 it acc env).onRaise (fun x => do noteFrame x env; theTreesLotGoes x)) _ _ s
  refine wpAny_noted ?_
  rw [turn_out]
  refine wpAny_bind (wpAny_standAt (wpAny_bind (wpAny_mono (turn n s hI) (fun r s1 h1 => ?_) fun _ _ z => z)))
  cases r with
  | none => exact wpAny_pure h1
  | some v =>
    refine wpAny_bind (wpAny_mono h1 (fun _ s2 h2 => wpAny_bind (wpAny_mono h2 (fun _ s3 h3 => wpAny_bind (wpAny_mono h3 (fun ok s4 h4 => ?_) fun _ _ z => z)) fun _ _ z => z)) fun _ _ z => z)
    cases ok with
    | false => exact wpAny_pure ⟨rfl, h4⟩
    | true =>
      refine wpAny_bind (wpAny_mono h4 (fun x s5 h5 => wpAny_bind (wpAny_standAt (wpAny_bind (wpAny_of_eq (hs x) (wpAny_bind (wpAny_holding (wpAny_mono h5 (fun j s6 h6 => ?_) fun _ _ z => z))))))) fun _ _ z => z)
      refine wpAny_bind (wpAny_runOwn ?_)
      rw [Around.mark_none]
      refine codeAny_mono h6 fun r s' hr => ?_
      cases r with
      | ok f => first | exact wpAny_pure ⟨rfl, hr⟩ | exact wpAny_bind (wpAny_pure (wpAny_pure ⟨rfl, hr⟩))
      | error e => exact hr.elim
theorem loop_in (I : Nat → Shared → Prop)
    (turn : ∀ n s, I n s → Wp prog w A env R (pyNext it) (fun r s1 => match r with
      | none => R (.ok .next) s1
      | some v => Wp prog w A env R (letOwnedTupleGo t1 it v) (fun _ s2 => Wp prog w A env R (assign t1 env v) (fun _ s3 => Wp prog w A env R (testsOf ifs1 env) (fun ok s4 =>
            if ok = true then Wp prog w A env R (eval elt env) (fun x s5 => Wp prog w A env R (call (.builtin "set.add") [acc, x]) (fun _ s6 => ∃ m, m < n ∧ I m s6) s5) s4
            else ∃ m, m < n ∧ I m s4) s3) s2) s1) s)
    (n : Nat) (h : I n s) : codeAny (model prog w) A (.compLoop (sc2 elt t0 i0 ifs0 t1 i1 ifs1 scope pos) 1 it acc env) R s := by
  refine codeAny_loop rfl I (fun n s hI => ?_) n h
  show wpAny _ A ((compTurn (sc2 elt t0 i0 ifs0 t1 i1 ifs1 scope pos) 1 it acc env).onRaise (fun x => do noteFrame x env; theTreesLotGoes x)) _ _ s
  refine wpAny_noted ?_
  rw [turn_in]
  refine wpAny_bind (wpAny_standAt (wpAny_bind (wpAny_mono (turn n s hI) (fun r s1 h1 => ?_) fun _ _ z => z)))
  cases r with
  | none => exact wpAny_pure h1
  | some v =>
    refine wpAny_bind (wpAny_mono h1 (fun _ s2 h2 => wpAny_bind (wpAny_mono h2 (fun _ s3 h3 => wpAny_bind (wpAny_mono h3 (fun ok s4 h4 => ?_) fun _ _ z => z)) fun _ _ z => z)) fun _ _ z => z)
    cases ok with
    | false => exact wpAny_pure ⟨rfl, h4⟩
    | true => exact wpAny_bind (wpAny_bind (wpAny_mono h4 (fun x s5 h5 => wpAny_bind (wpAny_standAt (wpAny_bind (wpAny_mono h5 (fun _ s6 h6 => wpAny_pure (wpAny_pure ⟨rfl, h6⟩)) fun _ _ z => z)))) fun _ _ z => z))
theorem start1 (h0 : codeAny (model prog w) A (.compLoop (sc2 elt t0 i0 ifs0 t1 i1 ifs1 scope pos) 1 it acc env) R s)
    (h : Wp prog w A env R (pyIter it) (fun j s' => codeAny (model prog w) A (.compLoop (sc2 elt t0 i0 ifs0 t1 i1 ifs1 scope pos) 1 j acc env) R s') s) :
    codeAny (model prog w) A (.compStart (sc2 elt t0 i0 ifs0 t1 i1 ifs1 scope pos) 1 it acc env) R s := by
  refine codeAny_of_tree ?_
  show wpAny _ _ ((compStart (sc2 elt t0 i0 ifs0 t1 i1 ifs1 scope pos) 1 it acc env).onRaise (fun x => do noteFrame x env; standAt theWindowsPlace)) _ _ s
  refine wpAny_notedAt ?_
  unfold compStart
  show wpAny _ _ (ask >>= _) _ _ s
  refine wpAny_bind (wpAny_askSetting (wpAny_ite ?_))
  split
  · first
      | exact wpAny_bind (wpAny_pure (wpAny_pure (And.intro rfl h0)))
      | exact wpAny_pure (And.intro rfl h0)
  · first
      | exact wpAny_bind (wpAny_rule (wpAny_bind (wpAny_standAt (wpAny_bind (wpAny_mono h (fun j s' z => wpAny_pure (And.intro rfl z)) fun _ _ x => x)))))
      | (refine wpAny_bind (wpAny_rule ?_); show wpAny _ _ (standAt i1.pos >>= _) _ _ s; exact wpAny_bind (wpAny_standAt (wpAny_bind (wpAny_mono h (fun j s' z => wpAny_pure (And.intro rfl z)) fun _ _ x => x))))
end
section
variable {X : Cx}
/-- set.add of a text -/
theorem add_ok {pins : List (Addr × Obj)} {σ : L2.St} {H : Hp} {s : Shared} {E : Value → Shared → Prop} {D : Addr} {ys : List Str} {x : Str} {tk : Tok} {Q : Value → Shared → Prop} (I : Inv X pins σ H s) (hD : H D = some (SetXO X.w D ys)) (room : ys.length + 1 < scanBound)
    (h : ∀ s', Inv X pins σ (upd H D (SetXO X.w D (putU x ys))) s' → Q .none s') : wpAny (model X.prog X.w) X.A (call (.builtin "set.add") [.ref D, .str x tk]) Q E s := by
  have R : SetX X.w s.heap D ys := (I.hok D _ hD).1
  obtain ⟨o, es, ep, t, ho, hex, hd, R0⟩ := id R
  refine wpAny_call_entry F.slot_set_add ⟨o, ho, hex.1⟩ F.entry_set_add ?_ (F.args_set_add_2 _ _)
  unfold Builtin.«set.add» Builtin.Frozenset.oneOther
  simp only [List.isEmpty_nil, bind_assoc]
  unfold Builtin.Frozenset.addrOf
  refine wpAny_bind (wpAny_pure ?_)
  try dsimp only
  refine wpAny_bind (wpAny_pure ?_)
  try dsimp only
  refine wpAny_bind (setAdd_tx R room fun b h2 sb new => ?_)
  show wpAny _ _ (ret Value.none) _ _ _
  have he : ∃ u, h2.get? D = some u := by
    obtain ⟨o, _, _, _, ho, _⟩ := id new
    exact ⟨o, ho⟩
  exact wpAny_pure ⟨_, rfl, h _ (I.write (e := D) (t' := s.toks + 1) (by rw [hD]; trivial) (.inl rfl) (fun b u hb hu => (sb.2 b hb).trans hu) he (setXO_ok new))⟩
/-- the reading: D is the new set -/
def tSc2 (w : World) (wi : TI) (g : TG) (tt : TT) (wi1 : TI) (g1 : TG) (tt1 : TT) (te : TE) (vs vs1 : List Nat) : TE := fun σ H Q => wi σ H fun J H1 => ∀ D, H1 D = none → ∃ W : Nat → Nat → Hp → Prop, (∃ m, W 0 m (upd H1 D (SetXO w D []))) ∧ ∀ i m H, W i m H →
  (J.stop i H ∧ Q (.ref D) H) ∨ (J.go i H ∧ ∃ Nx : Hp → Prop, (∀ H', Nx H' → ∃ m', m' < m ∧ W (i + 1) m' H') ∧ ∀ x H', J.yld i H x H' → g x (L2.wipe σ vs) H' fun σ2 H2 => L2.wipe σ2 vs = L2.wipe σ vs ∧ tt σ2 H2 fun b H3 =>
    if b = true then wi1 σ2 H3 fun J1 H4 => ∃ W1 : Nat → Nat → Hp → Prop, (∃ m, W1 0 m H4) ∧ ∀ j k H, W1 j k H →
      (J1.stop j H ∧ Nx H) ∨ (J1.go j H ∧ ∃ Nx1 : Hp → Prop, (∀ H', Nx1 H' → ∃ k', k' < k ∧ W1 (j + 1) k' H') ∧ ∀ x H', J1.yld j H x H' → g1 x (L2.wipe σ2 vs1) H' fun σ3 H5 => L2.wipe σ3 vs1 = L2.wipe σ2 vs1 ∧ tt1 σ3 H5 fun b H6 =>
        if b = true then te σ3 H6 fun y H7 => ∃ (z : Str) (ys : List Str), y = .str z ∧ H7 D = some (SetXO w D ys) ∧ ys.length + 1 < scanBound ∧ Nx1 (upd H7 D (SetXO w D (putU z ys))) else Nx1 H6)
    else Nx H3)
set_option maxHeartbeats 8000000 in
theorem pe_sc2 {elt tg iter tg1 iter1 : Expr} {ifs ifs1 : List Expr} {scope : Scope} {own : List (Str × Nat)} {vs1 : List Nat} {pos : Pos} {wi wi1 : TI} {g g1 : TG} {tt tt1 : TT} {te : TE} (hc : X.calm = true) (hN : X.N.Nodup) (hi : PI X tg iter wi) (ok : BlkOk X.N X.env.scope scope own) (hv : ∀ i ∈ vs1, i ∈ own.map (·.2))
    (hg : ∀ (s : Shared) (H : Hp) (C : Addr) (cl : List (Str × Addr)) (fp : List Addr), PG (X.blk s H scope (compEnvC scope cl C X.env) fp) tg g) (ht : ∀ (s : Shared) (H : Hp) (C : Addr) (cl : List (Str × Addr)) (fp : List Addr), PTs (X.blk s H scope (compEnvC scope cl C X.env) fp) ifs tt)
    (hi1 : ∀ (s : Shared) (H : Hp) (C : Addr) (cl : List (Str × Addr)) (fp : List Addr), PI (X.blk s H scope (compEnvC scope cl C X.env) fp) tg1 iter1 wi1)
    (hg1 : ∀ (s : Shared) (H : Hp) (C : Addr) (cl : List (Str × Addr)) (fp : List Addr), PG (X.blk s H scope (compEnvC scope cl C X.env) fp) tg1 g1) (ht1 : ∀ (s : Shared) (H : Hp) (C : Addr) (cl : List (Str × Addr)) (fp : List Addr), PTs (X.blk s H scope (compEnvC scope cl C X.env) fp) ifs1 tt1)
    (he : ∀ (s : Shared) (H : Hp) (C : Addr) (cl : List (Str × Addr)) (fp : List Addr), PE (X.blk s H scope (compEnvC scope cl C X.env) fp) elt te) (hs : ∀ x, foldedSetIterable iter X.env x = pure x := by intro _; rfl) (hs1 : ∀ env x, foldedSetIterable iter1 env x = pure x := by intro _ _; rfl) :
    PE X (sc2 elt tg iter ifs tg1 iter1 ifs1 scope pos) (tSc2 X.w wi g tt wi1 g1 tt1 te (own.map (·.2)) vs1) := by
  refine ⟨fun pins s σ H Q I h => ?_⟩
  rw [PpSet.eval_SetComp]
  have hfree : ∀ y ∈ scope.names, y.2 = .free → ∃ c, X.env.cells.lookup y.1 = some c := fun y hy e => (ok.free y hy e).elim (fun k => I.ok.has _ (.inl k)) fun k => I.ok.has _ (.inr k)
  refine wpAny_comprehension_free (use := none) rfl hs (closure_ok hfree) ok.kind (fun y hy e => by rw [ok.uniq y hy, e])
    (thn (hi.run pins s σ H _ I h) fun xv s1 hx => thn hx fun itv s2 h2 => ?_)
  obtain ⟨it, fp, tn, J, H2, e, I2, T, st2, f2, q⟩ := h2
  subst e
  refine PpSet.newSet_ok (newEnv_comp ?_)
  generalize hD : s2.heap.objs.size = D
  obtain ⟨W, ⟨m0, w0⟩, turn⟩ := q D (I2.hok.fresh (Nat.le_of_eq hD))
  -- the set is laid
  generalize hs3 : ({ s2 with heap := s2.heap.push (freshSet X.w) } : Shared) = s3
  have h3 : s3.heap = s2.heap.push (freshSet X.w) := by rw [← hs3]
  have I3 : Inv X pins σ (upd H2 D (SetXO X.w D [])) s3 := by
    rw [← hs3]
    refine I2.laid (t' := s2.toks) (fun b o e => Heap.get?_push_of_some _ e) (Nat.le_of_eq hD) (setXO_ok (setX_new ?_))
    rw [← hD]
    exact Heap.get?_push_size _ rfl
  have f3 : ∀ b ∈ fp, FpOk X pins (upd H2 D (SetXO X.w D [])) b ∧ b < s3.heap.objs.size := fun b hb => by
    obtain ⟨o, e, _⟩ := T.obj _ _ st2 b hb
    have lt := Heap.lt_size e
    refine ⟨⟨?_, (f2 b hb).2⟩, by rw [h3, Heap.size_push]; exact Nat.lt_succ_of_lt lt⟩
    rw [upd_ne (by rw [← hD]; exact Nat.ne_of_lt lt)]
    exact (f2 b hb).1
  have st3 : tn 0 s3.heap := T.keep _ _ _ st2 fun b _ o e => by rw [h3]; exact Heap.get?_push_of_some _ e
  have I4 := block_start I3 ok hN f3
  generalize hcl : cellsFrom (s3.heap.objs.size + 1) scope.names (cloFrom X.env.cells scope.names []) = cl at I4 ⊢
  have pg := hg s3 (upd H2 D (SetXO X.w D [])) s3.heap.objs.size cl fp
  have pt := ht s3 (upd H2 D (SetXO X.w D [])) s3.heap.objs.size cl fp
  have pe := he s3 (upd H2 D (SetXO X.w D [])) s3.heap.objs.size cl fp
  have pi1 := hi1 s3 (upd H2 D (SetXO X.w D [])) s3.heap.objs.size cl fp
  have pg1 := hg1 s3 (upd H2 D (SetXO X.w D [])) s3.heap.objs.size cl fp
  have pt1 := ht1 s3 (upd H2 D (SetXO X.w D [])) s3.heap.objs.size cl fp
  have nfp : ∀ b ∈ fp, (upd H2 D (SetXO X.w D [])) b = none := fun b hb => (f3 b hb).1.1
  show codeAny _ _ (.compStart (sc2 elt tg iter ifs tg1 iter1 ifs1 scope pos) 0 (.ref it) (.ref D) (compEnvC scope cl s3.heap.objs.size X.env)) (compPost (model X.prog X.w) X.A X.xe none (EP X pins σ Q) (.ref D) s3.heap.objs.size) { s3 with heap := pushCells (s3.heap.push { cls := .type "dict", data := .dict #[] }) scope.names }
  generalize hce : compEnvC scope cl s3.heap.objs.size X.env = ce at I4 pg pt pe pi1 pg1 pt1 ⊢
  have cL : ce.locals = s3.heap.objs.size := by subst hce; rfl
  generalize hH3 : upd H2 D (SetXO X.w D []) = H3 at I3 I4 pg pt pe pi1 pg1 pt1 w0 nfp f3
  generalize hs4 : ({ s3 with heap := pushCells (s3.heap.push { cls := .type "dict", data := .dict #[] }) scope.names } : Shared) = s4 at I4 ⊢
  have st4 : tn 0 s4.heap := T.keep _ _ _ st3 fun b _ o e => by rw [← hs4]; exact pushCells_keeps _ _ _ _ (Heap.get?_push_of_some _ e)
  have stat : ∀ {σ' : L2.St} {H' : Hp} {s' : Shared}, Inv (X.blk s3 H3 scope ce fp) [] σ' H' s' → (∀ b ∈ fp, H' b = none) → ∀ b ∈ fp, FpOk (X.blk s3 H3 scope ce fp) [] H' b := fun {σ' H' s'} I' hn b hb =>
    ⟨hn b hb, (I'.ok.exf b hb).1, I'.ok.exfs b hb, .inl hb, fun x c e => (I'.ok.exf b hb).2 x c e, fun p hp => absurd (show p ∈ ([] : List (Addr × Obj)) ++ [] from hp) (by simp)⟩
  -- what holds ahead of the i-th turn
  let Wt : Nat → Shared → Prop := fun n s' => ∃ i H', Inv (X.blk s3 H3 scope ce fp) [] (L2.wipe σ (own.map (·.2))) H' s' ∧ tn i s'.heap ∧ (∀ b ∈ fp, H' b = none) ∧ W i n H'
  have loop : codeAny (model X.prog X.w) X.A (.compLoop (sc2 elt tg iter ifs tg1 iter1 ifs1 scope pos) 0 (.ref it) (.ref D) ce) (compPost (model X.prog X.w) X.A X.xe none (EP X pins σ Q) (.ref D) s3.heap.objs.size) s4 := by
    refine loop_out (hs1 ce) Wt ?_ m0 ⟨0, H3, I4, st4, nfp, w0⟩
    rintro n s5 ⟨i, H5, I5, st5, n5, w5⟩
    rcases turn i n H5 w5 with ⟨stop, qq⟩ | ⟨go, Nx, hNx, step⟩
    · refine thnF (T.done (X.blk s3 H3 scope ce fp) rfl rfl rfl hc i [] s5 _ H5 (fun _ _ => False) I5 (stat I5 n5) st5 stop) fun r s6 ⟨hr, I6⟩ => ?_
      subst hr
      have I7 : Inv X pins σ H5 s6 := I3.call' (ch := fp) I6.os I6.base I6.hok I6.bare fun b hb => ⟨(f3 b hb).1.2.2.2.1, (f3 b hb).1.2.1, (f3 b hb).1.2.2.2.2.1, (f3 b hb).1.2.2.2.2.2⟩
      have nC : H5 s3.heap.objs.size = none := by
        have z : H5 ce.locals = none := I6.free
        rw [cL] at z; exact z
      obtain ⟨m, hn, _⟩ := I6.loc
      have hn : s6.heap.Ns ce.locals m := hn
      rw [cL] at hn
      refine ⟨m, hn, fun h7 sb => ?_⟩
      obtain ⟨f0, f1, f2, f3, f4, f5⟩ := I3.fpOk (Nat.le_refl _) nC
      exact ⟨.ref D, H5, I7.turned (t' := s6.toks) (fun b o hb e => (sb.2 b hb).trans e) f0 f1 f3 f4 f5, rfl, qq⟩
    · refine thnF (T.item (X.blk s3 H3 scope ce fp) rfl rfl rfl hc i [] s5 _ H5 (fun _ _ => False) I5 (stat I5 n5) st5 go) fun r s6 ⟨u, hr, h6⟩ => ?_
      subst hr
      refine thnF h6 fun _ s7 ⟨x, H7, I7, r7, y7, st7, n7⟩ => ?_
      have I7' := I7.pinned (stat I7 n7) (T.obj _ _ st7)
      refine thnF (pg.run _ s7 _ H7 x u _ I7' r7 (step x H7 y7)) fun _ s8 ⟨σ8, H8, I8, hw8, q8⟩ => ?_
      refine thnF (pt.run _ s8 σ8 H8 _ I8 q8) fun b s9 ⟨H9, I9, q9⟩ => ?_
      -- a turn's end
      have fin : ∀ {σ9 : L2.St} {s' : Shared} {H' : Hp}, Inv (X.blk s3 H3 scope ce fp) ([] ++ pinsAt fp s7.heap) σ9 H' s' → (L2.wipe σ (own.map (·.2))).length = σ9.length → (∀ (j : Nat) v, (L2.wipe σ (own.map (·.2)))[j]? = some (some v) → σ9[j]? = some (some v)) → Nx H' → ∃ m, m < n ∧ Wt m s' := fun {σ9 s' H'} I' hl hk nx => by
        obtain ⟨m', hm, w'⟩ := hNx H' nx
        have pin' : ∀ b ∈ fp, ∀ o, s7.heap.get? b = some o → s'.heap.get? b = some o ∧ H' b = none := fun b hb o e =>
          let z := I'.pin (b, o) (List.mem_append_right _ (List.mem_append_right _ (mem_pinsAt hb e)))
          ⟨z.1, z.2.1⟩
        refine ⟨m', hm, i + 1, H', (I'.unpinned (pins := [])).weak hl hk, T.keep _ _ _ st7 fun b hb o e => (pin' b hb o e).1, fun b hb => ?_, w'⟩
        obtain ⟨o, e, _⟩ := T.obj _ _ st7 b hb
        exact (pin' b hb o e).2
      have hl8 : (L2.wipe σ (own.map (·.2))).length = σ8.length := by rw [← hw8, wipe_length]
      have hk8 : ∀ (j : Nat) v, (L2.wipe σ (own.map (·.2)))[j]? = some (some v) → σ8[j]? = some (some v) := fun j v e => by
        rw [← hw8] at e; exact (wipe_some e).1
      have hk9 : ∀ (j : Nat) v, (L2.wipe σ (own.map (·.2)))[j]? = some (some v) → (L2.wipe σ8 vs1)[j]? = some (some v) := fun j v e => by
        rw [← hw8] at e
        obtain ⟨e1, e2⟩ := wipe_some e
        rw [wipe_out fun z => e2 (hv j z)]; exact e1
      cases b with
      | false =>
        simp only [Bool.false_eq_true, if_false] at q9 ⊢
        exact fin I9 hl8 hk8 q9
      | true =>
        simp only [if_true] at q9 ⊢
        refine thnF (pi1.run _ s9 σ8 H9 _ I9 q9) fun xv s10 hx => thnF hx fun itv s11 h11 => ?_
        obtain ⟨it1, fp1, tn1, J1, H11, e1, I11, T1, st11, f11, W1, ⟨m1, w1⟩, turn1⟩ := h11
        subst e1
        have stat1 : ∀ {H' : Hp}, (∀ b ∈ fp1, H' b = none) → ∀ b ∈ fp1, FpOk (X.blk s3 H3 scope ce fp) ([] ++ pinsAt fp s7.heap) H' b := fun hn b hb => ⟨hn b hb, (f11 b hb).2⟩
        have loop1 : codeAny (model X.prog X.w) X.A (.compLoop (sc2 elt tg iter ifs tg1 iter1 ifs1 scope pos) 1 (.ref it1) (.ref D) ce)
            (fun r s' => match r with
              | .ok _ => ∃ m, m < n ∧ Wt m s'
              | .error _ => False) s11 := by
          refine loop_in (fun k s' => ∃ j H', Inv (X.blk s3 H3 scope ce fp) ([] ++ pinsAt fp s7.heap) (L2.wipe σ8 vs1) H' s' ∧ tn1 j s'.heap ∧ (∀ b ∈ fp1, H' b = none) ∧ W1 j k H') ?_ m1 ⟨0, H11, I11.weak (wipe_length _ _) (fun j v e => (wipe_some e).1), st11, fun b hb => (f11 b hb).1, w1⟩
          rintro k s12 ⟨j, H12, I12, st12, n12, w12⟩
          rcases turn1 j k H12 w12 with ⟨stop1, nx1⟩ | ⟨go1, Nx1, hNx1, step1⟩
          · refine thnF (T1.done (X.blk s3 H3 scope ce fp) rfl rfl rfl hc j _ s12 (L2.wipe σ8 vs1) H12 (fun _ _ => False) I12 (stat1 n12) st12 stop1) fun r s13 ⟨hr, I13⟩ => ?_
            subst hr
            exact fin I13 (hl8.trans (wipe_length σ8 vs1).symm) hk9 nx1
          · refine thnF (T1.item (X.blk s3 H3 scope ce fp) rfl rfl rfl hc j _ s12 (L2.wipe σ8 vs1) H12 (fun _ _ => False) I12 (stat1 n12) st12 go1) fun r s13 ⟨u1, hr, h13⟩ => ?_
            subst hr
            refine thnF h13 fun _ s14 ⟨x1, H14, I14, r14, y14, st14, n14⟩ => ?_
            have I14' := I14.pinned (stat1 n14) (T1.obj _ _ st14)
            refine thnF (pg1.run _ s14 (L2.wipe σ8 vs1) H14 x1 u1 _ I14' r14 (step1 x1 H14 y14)) fun _ s15 ⟨σ15, H15, I15, hw15, q15⟩ => ?_
            refine thnF (pt1.run _ s15 σ15 H15 _ I15 q15) fun b1 s16 ⟨H16, I16, q16⟩ => ?_
            have fin1 : ∀ {s' : Shared} {H' : Hp}, Inv (X.blk s3 H3 scope ce fp) (([] ++ pinsAt fp s7.heap) ++ pinsAt fp1 s14.heap) σ15 H' s' → Nx1 H' → ∃ m, m < k ∧ ∃ j H', Inv (X.blk s3 H3 scope ce fp) ([] ++ pinsAt fp s7.heap) (L2.wipe σ8 vs1) H' s' ∧ tn1 j s'.heap ∧ (∀ b ∈ fp1, H' b = none) ∧ W1 j m H' := fun {s' H'} I' nx => by
              obtain ⟨m', hm, w'⟩ := hNx1 H' nx
              have pin' : ∀ b ∈ fp1, ∀ o, s14.heap.get? b = some o → s'.heap.get? b = some o ∧ H' b = none := fun b hb o e =>
                let z := I'.pin (b, o) (List.mem_append_right _ (List.mem_append_right _ (mem_pinsAt hb e)))
                ⟨z.1, z.2.1⟩
              refine ⟨m', hm, j + 1, H', I'.unpinned.weak (by rw [← hw15, wipe_length]) (fun j v e => by rw [← hw15] at e; exact (wipe_some e).1), T1.keep _ _ _ st14 fun b hb o e => (pin' b hb o e).1, fun b hb => ?_, w'⟩
              obtain ⟨o, e, _⟩ := T1.obj _ _ st14 b hb
              exact (pin' b hb o e).2
            cases b1 with
            | false =>
              simp only [Bool.false_eq_true, if_false] at q16 ⊢
              exact fin1 I16 q16
            | true =>
              simp only [if_true] at q16 ⊢
              refine thnF (pe.run _ s16 σ15 H16 _ I16 q16) fun z s17 ⟨yv, H17, I17, r17, tx, ys, ey, hD17, hz17, nx⟩ => ?_
              subst ey
              obtain ⟨tk, rfl⟩ := r17
              exact add_ok (X := X.blk s3 H3 scope ce fp) I17 hD17 hz17 fun s18 I18 => fin1 I18 nx
        exact start1 loop1 (T1.self X.A 0 _ _ _ st11 loop1)
  exact PpSet.codeAny_compStart_set loop (T.self X.A 0 _ _ _ st4 loop)
end
end Sx
end
section
set_option maxRecDepth 100000
set_option maxHeartbeats 2000000
namespace Dl
open PySem L2 Sx
/-- a walk, whatever the turn does -/
theorem it_go {J : It} {n : Nat} {Gd : Hp → Prop} {Y : Nat → Hp → V → Hp → Prop} (w : Walk J n Gd Y) {Qd : Hp → Prop} {Body : (Hp → Prop) → V → Hp → Prop} {Hs : Hp} (Pv : Nat → Hp → Prop) (h0 : Pv 0 Hs) (hG : ∀ i H, i ≤ n → Pv i H → Gd H)
    (hs : ∀ i x H H', i < n → Pv i H → Y i H x H' → Body (Pv (i + 1)) x H') (hd : ∀ H, Pv n H → Qd H) :
    ∃ W : Nat → Nat → Hp → Prop, (∃ m, W 0 m Hs) ∧ ∀ i m H, W i m H → (J.stop i H ∧ Qd H) ∨ (J.go i H ∧ ∃ Nx : Hp → Prop, (∀ H', Nx H' → ∃ m', m' < m ∧ W (i + 1) m' H') ∧ ∀ x H', J.yld i H x H' → Body Nx x H') := by
  refine ⟨fun i m H => m = n - i ∧ i ≤ n ∧ Pv i H, ⟨n, by simp, Nat.zero_le _, h0⟩, ?_⟩
  rintro i m H ⟨rfl, hi, p⟩
  have q := hG i H hi p
  by_cases lt : i < n
  · exact .inr ⟨w.goes i H lt q, Pv (i + 1), fun H' p' => ⟨n - (i + 1), by omega, rfl, lt, p'⟩, fun x H' y => hs i x H H' lt p (w.yields i H x H' lt q y)⟩
  · have e : i = n := by omega
    subst e
    exact .inl ⟨w.stops H q, hd H p⟩
section
variable {F : Fx} {δ : Env} {μ : Mu} {te : TE} {w : World}
/-- the texts of the first i rounds -/
def upTo (T : Nat → List Str) (i : Nat) : List Str := (List.range i).flatMap T
theorem upTo_succ (T : Nat → List Str) (i : Nat) : upTo T (i + 1) = upTo T i ++ T i := by
  unfold upTo
  rw [List.range_succ, List.flatMap_append, List.flatMap_cons, List.flatMap_nil, List.append_nil]
theorem upTo_le {T : Nat → List Str} {i n : Nat} (h : i ≤ n) : (upTo T i).length ≤ (upTo T n).length := by
  induction n with
  | zero => rw [Nat.le_zero.mp h]; exact Nat.le_refl _
  | succ n ih =>
    rcases Nat.lt_or_ge i (n + 1) with c | c
    · rw [upTo_succ, List.length_append]
      have := ih (Nat.le_of_lt_succ c)
      omega
    · rw [Nat.le_antisymm h c]; exact Nat.le_refl _
/-- a set being filled, at D -/
def Fil (F : Fx) (G1 H1 : Hp) (w : World) (D : Addr) (xs : List Str) (H : Hp) : Prop := ∃ G2 ys, Gr F.P G1 H1 G2 H ∧ F.J G2 H ∧ H D = some (SetXO w D ys) ∧ G2 D = none ∧ (∀ x, x ∈ ys ↔ x ∈ xs) ∧ ys.length ≤ xs.length
/-- {e for a in .. for b in ..} of texts -/
theorem ek_sc2 {wi wi1 : TI} {g g1 : TG} {tt tt1 : TT} {vs vs1 : List Nat} {n : Nat} {kn : Nat → Know} (T : Nat → List Str) (hs : EI F wi δ μ n kn) (hn : (upTo T n).length < 4000) (hw : Gw g vs)
    (he : ∀ i, i < n → ∃ δ', Gk g (kn i) (wipeE δ vs) δ' ∧ ETk F tt δ' μ (· = true) ∧ ∃ kn1, EI F wi1 δ' μ (T i).length kn1 ∧ Gw g1 vs1 ∧
      ∀ j x, (T i)[j]? = some x → ∃ δ'', Gk g1 (kn1 j) (wipeE δ' vs1) δ'' ∧ ETk F tt1 δ'' μ (· = true) ∧ Ek F te δ'' μ (sK x)) :
    Ek F (tSc2 w wi g tt wi1 g1 tt1 te vs vs1) δ μ (setXK w (upTo T n)) := fun G H σ st Q q =>
  hs G H σ st _ fun J G1 H1 Gd Y g1' j1 W hGd hY D hD => by
    have st1 := st.step g1' j1
    have nD : D ∉ F.P := F.offP j1 hD
    refine it_go W (fun i H2 => Fil F G1 H1 w D (upTo T i) H2) ?_ (fun i H2 _ ⟨G2, ys, g2, _⟩ => hGd H2 (g2.gg.trans g2.gh)) ?_ ?_
    · exact ⟨G1, [], Gr.own g1'.gh hD, F.loc nD j1, upd_same, none_sub g1'.gh hD, fun x => Iff.rfl, Nat.le_refl _⟩
    · rintro i x H2 H3 hi ⟨G2, ys, g2, j2, hA, hG, hm, hle⟩ y
      obtain ⟨G3, g3, p⟩ := hY i H2 x H3 G2 hi g2.gg g2.gh y
      have j3 := F.pure g3 j2
      have g3' : Gr F.P G2 H2 G3 H3 := g3.wide fun _ h => nomatch h
      have st3 := (st1.step g2 j2).step g3' j3
      obtain ⟨δ', hg, ht, kn1, hs1, hw1, hin⟩ := he i hi
      refine hw _ _ _ _ (hg G3 H3 _ x g3.gh p (st3.env.wipe vs) _ fun σ2 e2 => ?_)
      have st4 : Stt F G3 H3 δ' μ σ2 := ⟨st3.sub, st3.j, e2, st3.own⟩
      refine ht G3 H3 σ2 st4 _ fun b G4 H4 g4 j4 eb => ?_
      rw [eb]
      refine iteT ?_
      have hA4 : H4 D = some (SetXO w D ys) := g4.hh D _ nD (g3'.hh D _ nD hA)
      have hG4 : G4 D = none := g4.fr D (nn_of (g3'.hh D _ nD hA)) (g3'.fr D (nn_of hA) hG)
      refine hs1 G4 H4 σ2 (st4.step g4 j4) _ fun J1 G5 H5 Gd1 Y1 g5 j5 W1 hGd1 hY1 => ?_
      have hA5 : H5 D = some (SetXO w D ys) := g5.hh D _ nD hA4
      have hG5 : G5 D = none := g5.fr D (nn_of hA4) hG4
      have gg : Gr F.P G1 H1 G5 H5 := ((g2.trans g3').trans g4).trans g5
      have st5 := (st4.step g4 j4).step g5 j5
      refine it_go W1 (fun j H6 => ∃ G6 zs, Gr F.P G1 H1 G6 H6 ∧ Same G5 G6 ∧ F.J G6 H6 ∧ H6 D = some (SetXO w D zs) ∧ G6 D = none ∧ (∀ z, z ∈ zs ↔ z ∈ upTo T i ++ (T i).take j) ∧ zs.length ≤ (upTo T i).length + j ∧ Stt F G6 H6 δ' μ σ2) ?_ (fun j H6 _ ⟨G6, zs, g6, s6, _⟩ => hGd1 H6 (s6.trans g6.gh)) ?_ ?_
      · exact ⟨G5, ys, gg, .refl _, j5, hA5, hG5, fun z => by rw [List.take_zero, List.append_nil]; exact hm z, hle, st5⟩
      · rintro j u H6 H7 hj ⟨G6, zs, g6, s6, j6, hA6, hG6, hm6, hl6, st6⟩ y1
        obtain ⟨G7, g7, p7⟩ := hY1 j H6 u H7 G6 hj s6 g6.gh y1
        have g7' : Gr F.P G6 H6 G7 H7 := g7.wide fun _ h => nomatch h
        have j7 := F.pure g7 j6
        have st7 := st6.step g7' j7
        have hx : (T i)[j]? = some (T i)[j] := List.getElem?_eq_getElem hj
        obtain ⟨δ'', hg1, ht1, hx1⟩ := hin j _ hx
        refine hw1 _ _ _ _ (hg1 G7 H7 _ u g7.gh p7 (st7.env.wipe vs1) _ fun σ3 e3 => ?_)
        have st8 : Stt F G7 H7 δ'' μ σ3 := ⟨st7.sub, st7.j, e3, st7.own⟩
        refine ht1 G7 H7 σ3 st8 _ fun b G8 H8 g8 j8 eb => ?_
        rw [eb]
        refine iteT (hx1 G8 H8 σ3 (st8.step g8 j8) _ fun y G9 H9 g9 j9 p9 => ?_)
        have hA9 : H9 D = some (SetXO w D zs) := g9.hh D _ nD (g8.hh D _ nD (g7'.hh D _ nD hA6))
        have hG7 : G7 D = none := g7'.fr D (nn_of hA6) hG6
        have hG8 : G8 D = none := g8.fr D (nn_of (g7'.hh D _ nD hA6)) hG7
        have hG9 : G9 D = none := g9.fr D (nn_of (g8.hh D _ nD (g7'.hh D _ nD hA6))) hG8
        have hlen : zs.length < 4000 := by
          have h1 := upTo_le (T := T) (i := i + 1) (n := n) hi
          rw [upTo_succ, List.length_append] at h1
          omega
        have st10 := st7.step (g8.trans g9) j9
        refine ⟨_, zs, p9, hA9, by unfold scanBound; omega, G9, putU _ zs, (((g6.trans g7').trans g8).trans g9).mut (.inr hD) hG9, (s6.trans (g7'.gg.trans (g8.gg.trans g9.gg))), F.loc nD j9, upd_same, hG9, fun z => ?_, Nat.le_trans putU_len (by omega), ?_⟩
        · rw [mem_putU, hm6, take_next hx, List.mem_append, List.mem_append, List.mem_append, List.mem_singleton]
          constructor
          · rintro (h | h | h)
            · exact .inr (.inr h)
            · exact .inl h
            · exact .inr (.inl h)
          · rintro (h | h | h)
            · exact .inr (.inl h)
            · exact .inr (.inr h)
            · exact .inl h
        · refine ⟨same_keep st10.sub hG9, F.loc nD j9, st10.env, st10.own.nd, fun a m hm => ?_⟩
          obtain ⟨z1, z2, o, z3, z4⟩ := st10.own.has a m hm
          refine ⟨z1, z2, o, ?_, z4⟩
          rw [upd_ne (fun e => ?_)]
          · exact z3
          · subst e
            obtain ⟨_, _, o2, z5, _⟩ := st1.own.has a m hm
            rw [hD] at z5; cases z5
      · rintro H6 ⟨G6, zs, g6, s6, j6, hA6, hG6, hm6, hl6, st6⟩
        rw [List.take_length] at hm6
        exact ⟨G6, zs, g6, j6, hA6, hG6, by rw [upTo_succ]; exact hm6, by rw [upTo_succ, List.length_append]; exact hl6⟩
    · rintro H2 ⟨G2, ys, g2, j2, hA, hG, hm, hle⟩
      have s1 : Same G2 (upd G2 D (SetXO w D ys)) := same_new hG
      refine q (.ref D) _ H2 ((g1'.trans g2).freeze (back_none g1' hD) st.sub hA hG) (F.st _ _ _ _ s1 (fun b hb => ⟨rfl, fun z => ?_⟩) j2) ⟨D, ys, rfl, upd_same, hm, hle⟩
      rw [upd_ne (fun e => nD (by rw [← e]; exact hb))]; exact z
end
end Dl
end
section
set_option maxRecDepth 100000
set_option maxHeartbeats 2000000
/-! Mirrors: what a def computes, as a wish of plain data. -/
namespace Dl
open PySem L2 Sx
/-- a computation: what is wanted of its value, and when that holds -/
def W (α : Type) : Type := (α → Prop) → Prop
def ret {α : Type} (a : α) : W α := fun Q => Q a
def bnd {α β : Type} (m : W α) (f : α → W β) : W β := fun Q => m fun a => f a Q
def rgd {α : Type} (p : Prop) (a : α) : W α := fun Q => p ∧ Q a
def gte {α : Type} (b : Bool) (x y : W α) : W α := fun Q => if b = true then x Q else y Q
theorem ret_app {α : Type} (a : α) (Q : α → Prop) : ret a Q = Q a := rfl
theorem bnd_app {α β : Type} (m : W α) (f : α → W β) (Q : β → Prop) : bnd m f Q = m fun a => f a Q := rfl
theorem bnd_ret {α β : Type} (a : α) (f : α → W β) : bnd (ret a) f = f a := rfl
theorem bnd_bnd {α β γ : Type} (m : W α) (f : α → W β) (g : β → W γ) : bnd (bnd m f) g = bnd m fun a => bnd (f a) g := rfl
theorem bnd_rgd {α β : Type} {p : Prop} (h : p) (a : α) (f : α → W β) : bnd (rgd p a) f = f a := funext fun Q => propext ⟨fun q => q.2, fun q => ⟨h, q⟩⟩
theorem rgd_of {α : Type} {p : Prop} (h : p) (a : α) : rgd p a = ret a := funext fun Q => propext ⟨fun q => q.2, fun q => ⟨h, q⟩⟩
theorem gte_true {α : Type} (x y : W α) : gte true x y = x := rfl
theorem gte_false {α : Type} (x y : W α) : gte false x y = y := rfl
theorem bnd_gte {α β : Type} (b : Bool) (x y : W α) (f : α → W β) : bnd (gte b x y) f = gte b (bnd x f) (bnd y f) := by cases b <;> rfl
/-! ### loops -/
def loopW {α σ ρ : Type} (body : α → σ → (σ → W ρ) → W ρ) (rest : σ → W ρ) : List α → σ → W ρ
  | [], s => rest s
  | x :: xs, s => body x s (loopW body rest xs)
/-- a loop that is never left in its middle -/
def foldW {α σ : Type} (body : α → σ → W σ) : List α → σ → W σ
  | [], s => ret s
  | x :: xs, s => bnd (body x s) (foldW body xs)
def whileN {σ ρ : Type} (c : σ → W Bool) (body : σ → (σ → W ρ) → W ρ) (rest : σ → W ρ) : Nat → σ → W ρ
  | 0, _ => fun _ => False
  | n + 1, s => bnd (c s) fun b => gte b (body s (whileN c body rest n)) (rest s)
def whileW {σ ρ : Type} (c : σ → W Bool) (body : σ → (σ → W ρ) → W ρ) (rest : σ → W ρ) (s : σ) : W ρ := fun Q => ∃ n, whileN c body rest n s Q
/-- [e for x in xs if t] -/
def lcW {α β : Type} (t : α → W Bool) (e : α → W β) : List α → W (List β)
  | [] => ret []
  | x :: xs => bnd (t x) fun b => gte b (bnd (e x) fun y => bnd (lcW t e xs) fun ys => ret (y :: ys)) (lcW t e xs)
/-! ### items -/
def ixNat (n : Nat) (i : Int) : Option Nat := ixN n i
def ixW {α : Type} (xs : List α) (i : Int) : W α := fun Q => ∃ j x, ixN xs.length i = some j ∧ xs[j]? = some x ∧ Q x
/-- one drawn -/
def pickW (many : Int) : W Int := fun Q => many ≤ 1000000 ∧ ∀ r : Int, 0 ≤ r → (r < many ∨ (many < 2 ∧ r = 0)) → Q r
def oneW {α : Type} (xs : List α) : W α := fun Q => xs ≠ [] ∧ xs.length ≤ 1000000 ∧ ∀ x ∈ xs, Q x
def oneC (z : Str) : W Str := fun Q => 0 < z.length ∧ z.length ≤ 1000000 ∧ ∀ c ∈ TL.tl z, Q ⟨#[c]⟩

/-! ### judgements -/
section
variable (F : Fx)
def Ex {α : Type} (te : TE) (δ : Env) (μ : Mu) (m : W α) (f : α → Know) : Prop :=
  ∀ G H σ, Stt F G H δ μ σ → ∀ P : α → Prop, m P → ∀ Q : VK, (∀ a v G' H', P a → Gr F.P G H G' H' → F.J G' H' → (f a).p v G' → Q v H') → te σ H Q
/-- a new object of one's own -/
def EXn {α : Type} (te : TE) (δ : Env) (μ : Mu) (m : W α) (f : α → MO) : Prop :=
  ∀ G H σ, Stt F G H δ μ σ → ∀ P : α → Prop, m P → ∀ Q : VK, (∀ x a o G' H', P x → H a = none → G' a = none → a ∉ F.P → H' a = some o → (f x).ok G' o → Gr F.P G H G' H' → F.J G' H' → Q (.ref a) H') → te σ H Q
def Et (tt : TT) (δ : Env) (μ : Mu) (m : W Bool) : Prop :=
  ∀ G H σ, Stt F G H δ μ σ → ∀ P : Bool → Prop, m P → ∀ Q : Bool → Hp → Prop, (∀ b G' H', P b → Gr F.P G H G' H' → F.J G' H' → Q b H') → tt σ H Q
def EA {α : Type} (ta : TA) (δ : Env) (μ : Mu) (m : W α) (f : α → List Know) : Prop :=
  ∀ G H σ, Stt F G H δ μ σ → ∀ P : α → Prop, m P → ∀ Q : List V → Hp → Prop, (∀ a vs G' H', P a → Gr F.P G H G' H' → F.J G' H' → AllK G' vs (f a) → Q vs H') → ta σ H Q
def Rx {α : Type} (μ : Mu) (r : R2) (k1 k2 : Know) (m : W α) (f : α → Know) : Prop :=
  ∀ G H x y, Same G H → F.J G H → OwnK F G H μ → k1.p x G → k2.p y G → ∀ P : α → Prop, m P → ∀ Q : VK, (∀ a v G' H', P a → Gr F.P G H G' H' → F.J G' H' → (f a).p v G' → Q v H') → r x y H Q
def Cx1 {α : Type} (μ : Mu) (r : List V → Hp → VK → Prop) (ks : List Know) (m : W α) (f : α → Know) : Prop :=
  ∀ G H vs, Same G H → F.J G H → OwnK F G H μ → AllK G vs ks → ∀ P : α → Prop, m P → ∀ Q : VK, (∀ a v G' H', P a → Gr F.P G H G' H' → F.J G' H' → (f a).p v G' → Q v H') → r vs H Q
/-- what is walked: the items of a list -/
def EIx {α : Type} (wi : TI) (δ : Env) (μ : Mu) (m : W (List α)) (f : α → Know) : Prop :=
  ∀ G H σ, Stt F G H δ μ σ → ∀ P : List α → Prop, m P → ∀ R : It → Hp → Prop, (∀ xs J G' H' Gd Y, P xs → Gr F.P G H G' H' → F.J G' H' → Walk J xs.length Gd Y → (∀ H2, Same G' H2 → Gd H2) →
    (∀ i H2 x H3 G2 y, xs[i]? = some y → Same G' G2 → Same G2 H2 → Y i H2 x H3 → ∃ G3, Gr [] G2 H2 G3 H3 ∧ (f y).p x G3) → R J H') → wi σ H R
end
section
variable {F : Fx} {δ : Env} {μ : Mu} {K : PySem.W.Frag} {ta tb te : TE} {k k1 k2 : Know} {r : R2}
variable {α β γ : Type} {fa : α → Know} {fb : β → Know} {fc : γ → Know} {a : α} {b : β} {c : γ} {ma : W α} {mb : W β} {mc : W γ} {p : Prop}
theorem x_p (h : Ek F te δ μ (fa a)) : Ex F te δ μ (ret a) fa := fun G H σ st P hp Q q => h G H σ st Q fun v G' H' g j pv => q a v G' H' hp g j pv
theorem x_g (h : p → Ek F te δ μ (fa a)) : Ex F te δ μ (rgd p a) fa := fun G H σ st P hp Q q => h hp.1 G H σ st Q fun v G' H' g j pv => q a v G' H' hp.2 g j pv
theorem p_x (h : Ex F te δ μ (ret a) fa) : Ek F te δ μ (fa a) := fun G H σ st Q q => h G H σ st (fun x => x = a) rfl Q fun x v G' H' e g j pv => q v G' H' g j (by rw [← e]; exact pv)
theorem x_eq {m m' : W α} (h : Ex F te δ μ m fa) (e : m' = m) : Ex F te δ μ m' fa := e ▸ h
theorem x_kn {m : W α} {f' : α → Know} (h : Ex F te δ μ m fa) (e : ∀ x, fa x = f' x) : Ex F te δ μ m f' := (funext e : fa = f') ▸ h
theorem x_map {m : W α} {g : α → β} (h : Ex F te δ μ m fa) (e : ∀ x v G, (fa x).p v G → (fb (g x)).p v G) : Ex F te δ μ (bnd m fun x => ret (g x)) fb := fun G H σ st P hp Q q =>
  h G H σ st (fun x => P (g x)) hp Q fun x v G' H' px g' j pv => q (g x) v G' H' px g' j (e x v G' pv)
/-- a binary rule -/
theorem x_op {m : α → β → W γ} (ha : Ex F ta δ μ ma fa) (hb : Ex F tb δ μ mb fb) (hr : ∀ x y, Rx F μ r (fa x) (fb y) (m x y) fc) : Ex F (tOp r ta tb) δ μ (bnd ma fun x => bnd mb fun y => m x y) fc := fun G H σ st P hp Q q =>
  ha G H σ st _ hp _ fun x v G1 H1 p1 g1 j1 v1 => hb G1 H1 σ (st.step g1 j1) _ p1 _ fun y w G2 H2 p2 g2 j2 v2 =>
    hr x y G2 H2 v w g2.gh j2 ((st.step g1 j1).own.step g2) ((fa x).mono g2.gg v1) v2 P p2 Q fun z u G3 H3 p3 g3 j3 v3 => q z u G3 H3 p3 ((g1.trans g2).trans g3) j3 v3
theorem rx_p (h : Rk F μ r k1 k2 (fc c)) : Rx F μ r k1 k2 (ret c) fc := fun G H x y s j o p1 p2 P hp Q q => h G H x y s j o p1 p2 Q fun v G' H' g j' pv => q c v G' H' hp g j' pv
theorem rx_g (h : p → Rk F μ r k1 k2 (fc c)) : Rx F μ r k1 k2 (rgd p c) fc := fun G H x y s j o p1 p2 P hp Q q => h hp.1 G H x y s j o p1 p2 Q fun v G' H' g j' pv => q c v G' H' hp.2 g j' pv
theorem x_un {r : V → Hp → VK → Prop} {g : α → γ} (h : Ex F te δ μ ma fa) (hr : ∀ x G H v, Same G H → (fa x).p v G → ∀ Q : VK, (∀ u, (fc (g x)).p u G → Q u H) → r v H Q) : Ex F (tUn r te) δ μ (bnd ma fun x => ret (g x)) fc := fun G H σ st P hp Q q =>
  h G H σ st _ hp _ fun x v G1 H1 p1 g1 j1 v1 => hr x G1 H1 v g1.gh v1 Q fun u pu => q _ u G1 H1 p1 g1 j1 pu
/-! arguments -/
theorem a_nil : EA F tNil δ μ (ret ()) (fun _ => []) := fun G H σ st P hp Q q => q () [] G H hp (.refl st.sub) st.j .nil
theorem a_cons {t : TA} {f : β → List Know} (h : Ex F te δ μ ma fa) (hr : EA F t δ μ mb f) : EA F (tCons te t) δ μ (bnd ma fun x => bnd mb fun y => ret (x, y)) (fun z => fa z.1 :: f z.2) := fun G H σ st P hp Q q =>
  h G H σ st _ hp _ fun x v G1 H1 p1 g1 j1 v1 => hr G1 H1 σ (st.step g1 j1) _ p1 _ fun y vs G2 H2 p2 g2 j2 v2 => q (x, y) _ G2 H2 p2 (g1.trans g2) j2 (.cons ((fa x).mono g2.gg v1) v2)
theorem x_cb {rr : List V → Hp → VK → Prop} {t : TA} {f : α → List Know} {m : α → W γ} (h : EA F t δ μ ma f) (hr : ∀ x, Cx1 F μ rr (f x) (m x) fc) : Ex F (tCB rr t) δ μ (bnd ma m) fc := fun G H σ st P hp Q q =>
  h G H σ st _ hp _ fun x vs G1 H1 p1 g1 j1 v1 => hr x G1 H1 vs g1.gh j1 (st.step g1 j1).own v1 P p1 Q fun z u G2 H2 p2 g2 j2 v2 => q z u G2 H2 p2 (g1.trans g2) j2 v2
theorem c_p {rr : List V → Hp → VK → Prop} {ks : List Know} (h : CRk F μ rr ks (fc c)) : Cx1 F μ rr ks (ret c) fc := fun G H vs s j o p1 P hp Q q => h G H vs s j o p1 Q fun v G' H' g j' pv => q c v G' H' hp g j' pv
theorem c_g {rr : List V → Hp → VK → Prop} {ks : List Know} (h : p → CRk F μ rr ks (fc c)) : Cx1 F μ rr ks (rgd p c) fc := fun G H vs s j o p1 P hp Q q => h hp.1 G H vs s j o p1 Q fun v G' H' g j' pv => q c v G' H' hp.2 g j' pv
/-- what is new and is not changed any more -/
theorem cr_frz {rr : List V → Hp → VK → Prop} {ks : List Know} {ls : List Know} (h : CNk F μ rr ks (.lst ls)) : CRk F μ rr ks (listK ls) := fun G H vs s j o p Q q =>
  h G H vs s j o p Q fun a ob G' H' h1 h2 hp h3 h4 g j' => by
    obtain ⟨ws, e, r⟩ := h4
    subst e
    have s1 : Same G' (upd G' a (.lst ws)) := same_new h2
    refine q (.ref a) (upd G' a (.lst ws)) H' (g.freeze h1 s h3 h2) (F.st _ _ _ _ s1 (fun b hb => ⟨rfl, fun z => ?_⟩) j') ⟨a, ws, rfl, upd_same, r.mono s1⟩
    rw [upd_ne (fun e => hp (by rw [← e]; exact hb))]; exact z
theorem rk_frz {ls : List Know} (h : RNk F μ r k1 k2 (.lst ls)) : Rk F μ r k1 k2 (listK ls) := fun G H x y s j o p1 p2 Q q =>
  h G H x y s j o p1 p2 Q fun a ob G' H' h1 h2 hp h3 h4 g j' => by
    obtain ⟨ws, e, r⟩ := h4
    subst e
    have s1 : Same G' (upd G' a (.lst ws)) := same_new h2
    refine q (.ref a) (upd G' a (.lst ws)) H' (g.freeze h1 s h3 h2) (F.st _ _ _ _ s1 (fun b hb => ⟨rfl, fun z => ?_⟩) j') ⟨a, ws, rfl, upd_same, r.mono s1⟩
    rw [upd_ne (fun e => hp (by rw [← e]; exact hb))]; exact z
/-- new objects -/
theorem n_p {f : α → MO} (h : EN F te δ μ (f a)) : EXn F te δ μ (ret a) f := fun G H σ st P hp Q q => h G H σ st Q fun x o G' H' h1 h2 h3 h4 h5 g j => q a x o G' H' hp h1 h2 h3 h4 h5 g j
theorem n_g {f : α → MO} (h : p → EN F te δ μ (f a)) : EXn F te δ μ (rgd p a) f := fun G H σ st P hp Q q => h hp.1 G H σ st Q fun x o G' H' h1 h2 h3 h4 h5 g j => q a x o G' H' hp.2 h1 h2 h3 h4 h5 g j
theorem n_x {f : α → List Know} (h : EXn F te δ μ ma (fun x => .lst (f x))) : Ex F te δ μ ma (fun x => listK (f x)) := fun G H σ st P hp Q q =>
  h G H σ st P hp Q fun x a o G' H' px h1 h2 hp' h3 h4 g j => by
    obtain ⟨ws, e, r⟩ := h4
    subst e
    have s1 : Same G' (upd G' a (.lst ws)) := same_new h2
    refine q x (.ref a) (upd G' a (.lst ws)) H' px (g.freeze h1 st.sub h3 h2) (F.st _ _ _ _ s1 (fun b hb => ⟨rfl, fun z => ?_⟩) j) ⟨a, ws, rfl, upd_same, r.mono s1⟩
    rw [upd_ne (fun e => hp' (by rw [← e]; exact hb))]; exact z
/-! tests -/
theorem t_test {m : W Bool} (h : Ex F te δ μ m bK) : Et F (tTest te) δ μ m := fun G H σ st P hp Q q => h G H σ st P hp _ fun b v G' H' pb g j pv => ⟨b, pv, q b G' H' pb g j⟩
theorem t_B {m : W Bool} (h : Ex F te δ μ m bK) : Et F (tB te) δ μ m := fun G H σ st P hp Q q => h G H σ st P hp _ fun b v G' H' pb g j pv => ⟨b, pv, q b G' H' pb g j⟩
theorem t_not {t : TT} {m : W Bool} (h : Et F t δ μ m) : Et F (tNot t) δ μ (bnd m fun b => ret (!b)) := fun G H σ st P hp Q q => h G H σ st _ hp _ fun b G' H' pb g j => q (!b) G' H' pb g j
theorem t_and {t u : TT} {m n : W Bool} (h1 : Et F t δ μ m) (h2 : Et F u δ μ n) : Et F (tAnd t u) δ μ (bnd m fun b => gte b n (ret false)) := fun G H σ st P hp Q q =>
  h1 G H σ st _ hp _ fun b G1 H1 pb g1 j1 => by
    cases b with
    | true => exact h2 G1 H1 σ (st.step g1 j1) P pb Q fun c G2 H2 pc g2 j2 => q c G2 H2 pc (g1.trans g2) j2
    | false => exact q false G1 H1 pb g1 j1
theorem t_or {t u : TT} {m n : W Bool} (h1 : Et F t δ μ m) (h2 : Et F u δ μ n) : Et F (tOr t u) δ μ (bnd m fun b => gte b (ret true) n) := fun G H σ st P hp Q q =>
  h1 G H σ st _ hp _ fun b G1 H1 pb g1 j1 => by
    cases b with
    | false => exact h2 G1 H1 σ (st.step g1 j1) P pb Q fun c G2 H2 pc g2 j2 => q c G2 H2 pc (g1.trans g2) j2
    | true => exact q true G1 H1 pb g1 j1
theorem t_yes : Et F tYes δ μ (ret true) := fun G H σ st P hp Q q => q true G H hp (.refl st.sub) st.j
theorem x_andV {m n : W Bool} (h1 : Ex F ta δ μ m bK) (h2 : Ex F tb δ μ n bK) : Ex F (tAndV ta tb) δ μ (bnd m fun b => gte b n (ret false)) bK := fun G H σ st P hp Q q =>
  h1 G H σ st _ hp _ fun b v G1 H1 pb g1 j1 e => by
    have e : v = .bl b := e
    subst e
    refine ⟨b, rfl, ?_⟩
    cases b with
    | true => exact h2 G1 H1 σ (st.step g1 j1) P pb Q fun c u G2 H2 pc g2 j2 pu => q c u G2 H2 pc (g1.trans g2) j2 pu
    | false => exact q false _ G1 H1 pb g1 j1 rfl
theorem x_if {t : TT} {m : W Bool} {x y : W α} (h : Et F t δ μ m) (h1 : Ex F ta δ μ x fa) (h2 : Ex F tb δ μ y fa) : Ex F (tIf t ta tb) δ μ (bnd m fun b => gte b x y) fa := fun G H σ st P hp Q q =>
  h G H σ st _ hp _ fun b G1 H1 pb g1 j1 => by
    cases b with
    | true => exact iteT (h1 G1 H1 σ (st.step g1 j1) P pb Q fun c u G2 H2 pc g2 j2 pu => q c u G2 H2 pc (g1.trans g2) j2 pu)
    | false => exact iteF (h2 G1 H1 σ (st.step g1 j1) P pb Q fun c u G2 H2 pc g2 j2 pu => q c u G2 H2 pc (g1.trans g2) j2 pu)
end
/-! ### calls of defs -/
def spW {A ρ : Type} (FX : A → Fx) (ks : A → List Know) (m : A → W ρ) (f : ρ → Know) : Sp := fun vs H Q _ =>
  ∃ (x : A) (P : ρ → Prop) (G : Hp), Same G H ∧ (FX x).J G H ∧ AllK G vs (ks x) ∧ m x P ∧ ∀ a v G' H', P a → Gr (FX x).P G H G' H' → (FX x).J G' H' → (f a).p v G' → Q v H'
section
variable {F : Fx} {δ : Env} {μ : Mu} {A ρ α : Type} {FX : A → Fx} {ks : A → List Know} {m : A → W ρ} {f : ρ → Know} {E : XK} {t : TA} {ma : W α} {g : α → A} {kf : α → List Know}
theorem x_call0 (hF : ∀ x, FX x = F0) (ha : EA F t δ μ ma kf) (hk : ∀ a, kf a = ks (g a)) : Ex F (tCall (spW FX ks m f) [] E t) δ μ (bnd ma fun a => m (g a)) f := fun G H σ st P hp Q q =>
  ha G H σ st _ hp _ fun a vs G1 H1 pa g1 j1 v1 => by
    refine ⟨g a, P, G1, g1.gh, by rw [hF]; trivial, by rw [List.append_nil, ← hk]; exact v1, pa, fun y v G2 H2 py g2 _ pv => ?_⟩
    rw [hF] at g2
    have g2' : Gr [] G1 H1 G2 H2 := g2
    exact q y v G2 H2 py (g1.trans (g2'.wide fun _ h => nomatch h)) (F.pure g2' j1) pv
theorem x_callF (ha : EA F t δ μ ma kf) (hF : ∀ a, FX (g a) = F) (hk : ∀ a, kf a = ks (g a)) : Ex F (tCall (spW FX ks m f) [] E t) δ μ (bnd ma fun a => m (g a)) f := fun G H σ st P hp Q q =>
  ha G H σ st _ hp _ fun a vs G1 H1 pa g1 j1 v1 => by
    refine ⟨g a, P, G1, g1.gh, by rw [hF]; exact j1, by rw [List.append_nil, ← hk]; exact v1, pa, fun y v G2 H2 py g2 j2 pv => ?_⟩
    rw [hF] at g2 j2
    exact q y v G2 H2 py (g1.trans g2) j2 pv
end
end Dl
end
section
set_option maxRecDepth 100000
set_option maxHeartbeats 2000000
/-! Mirrors: statements, loops, comprehensions, defs. -/
namespace Dl
open PySem L2 Sx
section
variable {F : Fx} {B : Bs} {δ : Env} {μ : Mu} {K : PySem.W.Frag} {te : TE} {D : Ends} {u w : TS}
variable {α β σ' ρ : Type} {f : α → Know} {m : W α} {g : α → W ρ} {P : ρ → Prop}
/-- what is wanted at a return -/
abbrev RtW (F : Fx) (B : Bs) (f : ρ → Know) (P : ρ → Prop) (rt : VK) : Prop := Rt F B (fun v G _ => ∃ a, P a ∧ (f a).p v G) rt
theorem w_asg {i : Nat} (hm : bnd m g P) (h : Ex F te δ μ m f) (q : ∀ a, g a P → To F B (δ.set i (some (f a))) μ D.nx) : Tr F B δ μ (tAsg te (gName i)) D := fun σ H ⟨G, z⟩ =>
  h G H σ z.st _ hm _ fun a v G' H' pa g' j pv => q a pa _ _ ⟨G', (z.step g' j).setS i pv⟩
theorem v_asg {i : Nat} (hm : bnd m g P) (h : Ex F te δ μ m f) (q : ∀ a, g a P → Tr F B (δ.set i (some (f a))) μ u D) : Tr F B δ μ (tSeq (tAsg te (gName i)) u) D := w_asg (D := { D with nx := u D }) hm h q
theorem w_new {i : Nat} {fo : α → MO} (hm : bnd m g P) (h : EXn F te δ μ m fo) (q : ∀ x a, B.H0 a = none → g x P → To F B (δ.set i (some (valK (.ref a)))) ((a, fo x) :: μ) D.nx) : Tr F B δ μ (tAsg te (gName i)) D := fun σ H ⟨G, z⟩ =>
  h G H σ z.st _ hm _ fun x a o G' H' px h1 h2 hp h3 h4 g' j => q x a (back_none z.gr h1) px _ _ ⟨G', (z.join h1 h2 hp h3 h4 g' j).setS i rfl⟩
theorem v_new {i : Nat} {fo : α → MO} (hm : bnd m g P) (h : EXn F te δ μ m fo) (q : ∀ x a, B.H0 a = none → g x P → Tr F B (δ.set i (some (valK (.ref a)))) ((a, fo x) :: μ) u D) : Tr F B δ μ (tSeq (tAsg te (gName i)) u) D := w_new (D := { D with nx := u D }) hm h q
theorem w_tgt {gt : TG} {dl : α → Env} (hm : bnd m g P) (h : Ex F te δ μ m f) (hg : ∀ x, Gk gt (f x) δ (dl x)) (q : ∀ a, g a P → To F B (dl a) μ D.nx) : Tr F B δ μ (tAsg te gt) D := fun σ H ⟨G, z⟩ =>
  h G H σ z.st _ hm _ fun a v G' H' pa g' j pv => by
    have z1 := z.step g' j
    exact hg a G' H' σ v z1.st.sub pv z1.st.env _ fun σ2 e2 => q a pa _ _ ⟨G', z1.s0, z1.gr, ⟨z1.st.sub, z1.st.j, e2, z1.st.own⟩, z1.fp, z1.ow⟩
theorem v_tgt {gt : TG} {dl : α → Env} (hm : bnd m g P) (h : Ex F te δ μ m f) (hg : ∀ x, Gk gt (f x) δ (dl x)) (q : ∀ a, g a P → Tr F B (dl a) μ u D) : Tr F B δ μ (tSeq (tAsg te gt) u) D := w_tgt (D := { D with nx := u D }) hm h hg q
theorem w_drop (hm : bnd m g P) (h : Ex F te δ μ m f) (q : ∀ a, g a P → To F B δ μ D.nx) : Tr F B δ μ (tDrop te) D := fun σ H ⟨G, z⟩ =>
  h G H σ z.st _ hm _ fun a v G' H' pa g' j _ => q a pa _ _ ⟨G', z.step g' j⟩
theorem v_drop (hm : bnd m g P) (h : Ex F te δ μ m f) (q : ∀ a, g a P → Tr F B δ μ u D) : Tr F B δ μ (tSeq (tDrop te) u) D := w_drop (D := { D with nx := u D }) hm h q
theorem w_ret {fr : ρ → Know} {mr : W ρ} (hR : RtW F B fr P D.rt) (hm : mr P) (h : Ex F te δ μ mr fr) : Tr F B δ μ (tRet te) D := fun σ H ⟨G, z⟩ =>
  h G H σ z.st _ hm _ fun a v G' H' pa g' j pv => hR v G' H' (z.step g' j).gr j ⟨a, pa, pv⟩
theorem w_retN {fr : Unit → Know} {P : Unit → Prop} (hR : RtW F B fr P D.rt) (hm : ret () P) (h : ∀ G, (fr ()).p .non G) : Tr F B δ μ tRetN D := fun σ H ⟨G, z⟩ => hR .non G H z.gr z.st.j ⟨(), hm, h G⟩
theorem w_fall {fr : Unit → Know} {P : Unit → Prop} {rt : VK} (hR : RtW F B fr P rt) (hm : ret () P) (h : ∀ G, (fr ()).p .non G) : To F B δ μ (fun _ H' => rt .non H') := fun σ H ⟨G, z⟩ => hR .non G H z.gr z.st.j ⟨(), hm, h G⟩
theorem w_if {c : TT} {t u : TS} {mc : W Bool} {x y : W ρ} (hm : bnd mc (fun b => gte b x y) P) (h : Et F c δ μ mc) (h1 : x P → Tr F B δ μ t D) (h2 : y P → Tr F B δ μ u D) : Tr F B δ μ (tIfS c t u) D := fun σ H ⟨G, z⟩ =>
  h G H σ z.st _ hm _ fun b G' H' pb g' j => by
    cases b with
    | true => exact iteT (h1 pb σ H' ⟨G', z.step g' j⟩)
    | false => exact iteF (h2 pb σ H' ⟨G', z.step g' j⟩)
theorem v_if {c : TT} {t u : TS} {mc : W Bool} {x y : W ρ} (hm : bnd mc (fun b => gte b x y) P) (h : Et F c δ μ mc) (h1 : x P → Tr F B δ μ t { D with nx := w D }) (h2 : y P → Tr F B δ μ u { D with nx := w D }) : Tr F B δ μ (tSeq (tIfS c t u) w) D := w_if (D := { D with nx := w D }) hm h h1 h2
/-- the else's way goes on behind -/
theorem v_when {c : TT} {t : TS} {mc : W Bool} {x y : W ρ} (hm : bnd mc (fun b => gte b x y) P) (h : Et F c δ μ mc) (h1 : x P → Tr F B δ μ t { D with nx := w D }) (h2 : y P → Tr F B δ μ w D) : Tr F B δ μ (tSeq (tIfS c t tNext) w) D := w_if (D := { D with nx := w D }) hm h h1 h2
/-- both ways meet again -/
theorem w_ifJ {c : TT} {t u : TS} {mc : W Bool} {x y : W σ'} {k : σ' → W ρ} (env : σ' → Env × Mu) (hm : bnd (bnd mc fun b => gte b x y) k P) (h : Et F c δ μ mc)
    (h1 : ∀ N : St → Hp → Prop, (∀ s, k s P → To F B (env s).1 (env s).2 N) → bnd x k P → Tr F B δ μ t { D with nx := N })
    (h2 : ∀ N : St → Hp → Prop, (∀ s, k s P → To F B (env s).1 (env s).2 N) → bnd y k P → Tr F B δ μ u { D with nx := N }) (hk : ∀ s, k s P → To F B (env s).1 (env s).2 D.nx) : Tr F B δ μ (tIfS c t u) D := fun σ H ⟨G, z⟩ =>
  h G H σ z.st _ hm _ fun b G' H' pb g' j => by
    cases b with
    | true => exact iteT (h1 D.nx hk pb σ H' ⟨G', z.step g' j⟩)
    | false => exact iteF (h2 D.nx hk pb σ H' ⟨G', z.step g' j⟩)
theorem v_ifJ {c : TT} {t u : TS} {mc : W Bool} {x y : W σ'} {k : σ' → W ρ} (env : σ' → Env × Mu) (hm : bnd (bnd mc fun b => gte b x y) k P) (h : Et F c δ μ mc)
    (h1 : ∀ N : St → Hp → Prop, (∀ s, k s P → To F B (env s).1 (env s).2 N) → bnd x k P → Tr F B δ μ t { D with nx := N })
    (h2 : ∀ N : St → Hp → Prop, (∀ s, k s P → To F B (env s).1 (env s).2 N) → bnd y k P → Tr F B δ μ u { D with nx := N }) (hk : ∀ s, k s P → Tr F B (env s).1 (env s).2 w D) : Tr F B δ μ (tSeq (tIfS c t u) w) D := w_ifJ (D := { D with nx := w D }) env hm h h1 h2 hk
/-- a block's end -/
theorem w_next {env : σ' → Env × Mu} {N : St → Hp → Prop} {k : σ' → W ρ} {s : σ'} (hN : ∀ s, k s P → To F B (env s).1 (env s).2 N) (hm : k s P) (l : LeE True δ (env s).1) (e : (env s).2 = μ := by rfl) : To F B δ μ N := by
  subst e
  exact to_weak l (hN s hm)
theorem t_next {D : Ends} (h : To F B δ μ D.nx) : Tr F B δ μ tNext D := h

/-! ### for -/
theorem w_for {wi : TI} {gt : TG} {tb : TS} {mx : W (List α)} {body : α → σ' → (σ' → W ρ) → W ρ} {rest : σ' → W ρ} {s0 : σ'} (env : σ' → Env × Mu) (dl : σ' → α → Env) (hm : bnd mx (fun xs => loopW body rest xs s0) P) (hs : EIx F wi δ μ mx f)
    (h0 : LeE True δ (env s0).1) (h0' : μ = (env s0).2) (hg : ∀ s x, Gk gt (f x) (env s).1 (dl s x))
    (ht : ∀ B' : Bs, BLe B B' → ∀ x s (k : σ' → W ρ) (N : St → Hp → Prop), (∀ s', k s' P → To F B' (env s').1 (env s').2 N) → (∀ s', rest s' P → To F B' (env s').1 (env s').2 D.nx) → body x s k P → Tr F B' (dl s x) (env s).2 tb { D with nx := N, ct := N, bk := D.nx })
    (hd : ∀ s, rest s P → To F B (env s).1 (env s).2 D.nx) : Tr F B δ μ (tFor wi gt tb) D := fun σ H ⟨G, z⟩ =>
  hs G H σ z.st _ hm _ fun xs J G1 H1 Gd Y pxs g1 j1 W hGd hY => by
    obtain ⟨z1, l⟩ := (z.step g1 j1).rebase
    refine for_it W (fun i σ H => ∃ s, loopW body rest (xs.drop i) s P ∧ At F (B.at_ F μ G1 H1) (env s).1 (env s).2 σ H) ⟨s0, pxs, G1, h0' ▸ z1.weak h0⟩ (fun i σ H _ ⟨s, _, G2, z2⟩ => hGd H (z2.gr.gg.trans z2.st.sub)) ?_ (fun σ H ⟨s, cs, z2⟩ => hd s (by rw [List.drop_length] at cs; exact cs) σ H (z2.up l))
    rintro i x σ H H' hi ⟨s, cs, G2, z2⟩ y
    have hx : xs[i]? = some xs[i] := List.getElem?_eq_getElem hi
    obtain ⟨G3, g3, p⟩ := hY i H x H' G2 _ hx z2.gr.gg z2.st.sub y
    have z3 := z2.step (g3.wide fun _ h => nomatch h) (F.pure g3 z2.st.j)
    rw [List.drop_eq_getElem_cons hi] at cs
    exact hg s xs[i] G3 H' σ x z3.st.sub p z3.st.env _ fun σ2 e2 => ht _ l _ s _ _ (fun s' ps σ3 H3 z' => ⟨s', ps, z'⟩) (fun s' ps => (show To F B (env s').1 (env s').2 D.nx from hd s' ps).up l) cs σ2 H' ⟨G3, z3.s0, z3.gr, ⟨z3.st.sub, z3.st.j, e2, z3.st.own⟩, z3.fp, z3.ow⟩
theorem v_for {wi : TI} {gt : TG} {tb : TS} {mx : W (List α)} {body : α → σ' → (σ' → W ρ) → W ρ} {rest : σ' → W ρ} {s0 : σ'} (env : σ' → Env × Mu) (dl : σ' → α → Env) (hm : bnd mx (fun xs => loopW body rest xs s0) P) (hs : EIx F wi δ μ mx f)
    (h0 : LeE True δ (env s0).1) (h0' : μ = (env s0).2) (hg : ∀ s x, Gk gt (f x) (env s).1 (dl s x))
    (ht : ∀ B' : Bs, BLe B B' → ∀ x s (k : σ' → W ρ) (N : St → Hp → Prop), (∀ s', k s' P → To F B' (env s').1 (env s').2 N) → (∀ s', rest s' P → To F B' (env s').1 (env s').2 (w D)) → body x s k P → Tr F B' (dl s x) (env s).2 tb { D with nx := N, ct := N, bk := w D })
    (hd : ∀ s, rest s P → Tr F B (env s).1 (env s).2 w D) : Tr F B δ μ (tSeq (tFor wi gt tb) w) D := w_for (D := { D with nx := w D }) env dl hm hs h0 h0' hg ht hd

/-! ### while -/
theorem w_while {c : TT} {tb : TS} {mc : σ' → W Bool} {body : σ' → (σ' → W ρ) → W ρ} {rest : σ' → W ρ} {s0 : σ'} (env : σ' → Env × Mu) (hm : whileW mc body rest s0 P) (hc : ∀ s, Et F c (env s).1 (env s).2 (mc s))
    (h0 : LeE True δ (env s0).1) (h0' : μ = (env s0).2)
    (ht : ∀ s (k : σ' → W ρ) (N : St → Hp → Prop), (∀ s', k s' P → To F B (env s').1 (env s').2 N) → (∀ s', rest s' P → To F B (env s').1 (env s').2 D.nx) → body s k P → Tr F B (env s).1 (env s).2 tb { D with nx := N, ct := N, bk := D.nx })
    (hd : ∀ s, rest s P → To F B (env s).1 (env s).2 D.nx) : Tr F B δ μ (tWhile c tb) D := fun σ H ⟨G, z⟩ => by
  obtain ⟨n, hn⟩ := hm
  refine ⟨fun m σ H => ∃ s, whileN mc body rest m s P ∧ At F B (env s).1 (env s).2 σ H, ⟨n, s0, hn, G, h0' ▸ z.weak h0⟩, ?_⟩
  rintro m σ H ⟨s, cs, G1, z1⟩
  cases m with
  | zero => exact absurd cs id
  | succ m =>
    refine hc s G1 H σ z1.st _ cs _ fun b G2 H2 pb g2 j2 => ?_
    cases b with
    | true => exact iteT ⟨fun σ H => ∃ s, whileN mc body rest m s P ∧ At F B (env s).1 (env s).2 σ H, fun σ' H' h => ⟨m, Nat.lt_succ_self _, h⟩, ht s _ _ (fun s' ps σ3 H3 z' => ⟨s', ps, z'⟩) hd pb σ H2 ⟨G2, z1.step g2 j2⟩⟩
    | false => exact iteF (hd s pb σ H2 ⟨G2, z1.step g2 j2⟩)
theorem v_while {c : TT} {tb : TS} {mc : σ' → W Bool} {body : σ' → (σ' → W ρ) → W ρ} {rest : σ' → W ρ} {s0 : σ'} (env : σ' → Env × Mu) (hm : whileW mc body rest s0 P) (hc : ∀ s, Et F c (env s).1 (env s).2 (mc s))
    (h0 : LeE True δ (env s0).1) (h0' : μ = (env s0).2)
    (ht : ∀ s (k : σ' → W ρ) (N : St → Hp → Prop), (∀ s', k s' P → To F B (env s').1 (env s').2 N) → (∀ s', rest s' P → To F B (env s').1 (env s').2 (w D)) → body s k P → Tr F B (env s).1 (env s).2 tb { D with nx := N, ct := N, bk := w D })
    (hd : ∀ s, rest s P → Tr F B (env s).1 (env s).2 w D) : Tr F B δ μ (tSeq (tWhile c tb) w) D := w_while (D := { D with nx := w D }) env hm hc h0 h0' ht hd

/-! ### comprehensions -/
def lcG {α β : Type} (t : α → W Bool) (e : α → W β) (xs : List α) : W (List β) := fun Q => xs.length ≤ sizeLine ∧ lcW t e xs Q
theorem n_lc {wi : TI} {gt : TG} {tt : TT} {vs : List Nat} {mx : W (List α)} {t : α → W Bool} {e : α → W β} {fe : β → Know} (dl : α → Env) (hs : EIx F wi δ μ mx f) (hw : Gw gt vs) (hg : ∀ x, Gk gt (f x) (wipeE δ vs) (dl x)) (ht : ∀ x, Et F tt (dl x) μ (t x)) (he : ∀ x, Ex F te (dl x) μ (e x) fe) :
    EXn F (tLc wi gt tt te vs) δ μ (bnd mx (lcG t e)) (fun ys => .lst (ys.map fe)) := fun G H σ st P hp Q q =>
  hs G H σ st _ hp _ fun xs J G1 H1 Gd Y pxs g1 j1 W hGd hY L hL => by
    obtain ⟨hlen, pxs⟩ := pxs
    have st1 := st.step g1 j1
    have nL : L ∉ F.P := F.offP j1 hL
    refine lc_it W (fun i H2 => ∃ G2 acc ys, Gr F.P G1 H1 G2 H2 ∧ F.J G2 H2 ∧ H2 L = some (.lst acc) ∧ G2 L = none ∧ AllK G2 acc (ys.map fe) ∧ ys.length ≤ i ∧ lcW t e (xs.drop i) (fun zs => P (ys ++ zs))) ?_ (fun i H2 _ ⟨G2, acc, ys, g2, _⟩ => hGd H2 (g2.gg.trans g2.gh)) ?_ ?_
    · exact ⟨G1, [], [], Gr.own g1.gh hL, F.loc nL j1, upd_same, none_sub g1.gh hL, .nil, Nat.le_refl _, pxs⟩
    · rintro i x H2 H3 hi ⟨G2, acc, ys, g2, j2, hA, hG, r, hy, cs⟩ y
      have hx : xs[i]? = some xs[i] := List.getElem?_eq_getElem hi
      obtain ⟨G3, g3, p⟩ := hY i H2 x H3 G2 _ hx g2.gg g2.gh y
      have j3 := F.pure g3 j2
      have g3' : Gr F.P G2 H2 G3 H3 := g3.wide fun _ h => nomatch h
      have st3 := (st1.step g2 j2).step g3' j3
      rw [List.drop_eq_getElem_cons hi] at cs
      refine hw _ _ _ _ (hg xs[i] G3 H3 _ x g3.gh p (st3.env.wipe vs) _ fun σ2 e2 => ?_)
      have st4 : Stt F G3 H3 (dl xs[i]) μ σ2 := ⟨st3.sub, st3.j, e2, st3.own⟩
      refine ht _ G3 H3 σ2 st4 _ cs _ fun b G4 H4 pb g4 j4 => ?_
      have hA4 : H4 L = some (.lst acc) := g4.hh L _ nL (g3'.hh L _ nL hA)
      have hG4 : G4 L = none := g4.fr L (nn_of (g3'.hh L _ nL hA)) (g3'.fr L (nn_of hA) hG)
      have r4 : AllK G4 acc (ys.map fe) := r.mono (g3.gg.trans g4.gg)
      cases b with
      | true =>
        refine iteT (he _ G4 H4 σ2 (st4.step g4 j4) _ pb _ fun z v G5 H5 pz g5 j5 pv => ?_)
        have hA5 : H5 L = some (.lst acc) := g5.hh L _ nL hA4
        have hG5 : G5 L = none := g5.fr L (nn_of hA4) hG4
        refine ⟨acc, hA5, ?_, G5, acc ++ [v], ys ++ [z], ?_, F.loc nL j5, upd_same, hG5, ?_, ?_, ?_⟩
        · rw [r4.length, List.length_map]; omega
        · exact (((g2.trans g3').trans g4).trans g5).mut (.inr hL) hG5
        · rw [List.map_append]; exact (r4.mono g5.gg).snoc pv
        · rw [List.length_append]; exact Nat.succ_le_succ hy
        · have e : (fun zs => P ((ys ++ [z]) ++ zs)) = fun zs => P (ys ++ (z :: zs)) := funext fun zs => by rw [List.append_assoc]; rfl
          rw [e]; exact pz
      | false => exact iteF ⟨G4, acc, ys, (g2.trans g3').trans g4, j4, hA4, hG4, r4, Nat.le_succ_of_le hy, pb⟩
    · rintro H2 ⟨G2, acc, ys, g2, j2, hA, hG, r, hy, cs⟩
      rw [List.drop_length] at cs
      have cs : P (ys ++ []) := cs
      rw [List.append_nil] at cs
      exact q ys L _ G2 H2 cs (back_none g1 hL) hG nL hA ⟨acc, rfl, r⟩ (g1.trans g2) j2
/-! ### what is walked -/
theorem i_list {K : PySem.W.Frag} {m : W (List α)} (h : Ex F te δ μ m (fun xs => listK (xs.map f))) : EIx F (iList K te) δ μ m f := fun G H σ st P hp R q =>
  h G H σ st _ hp _ fun xs v G1 H1 px g1 j1 pv => by
    obtain ⟨a, vs, rfl, ha, r⟩ := pv
    refine ⟨a, rfl, ⟨vs, .inl (.inl (g1.gh _ _ ha))⟩, ?_⟩
    have hl := r.length
    rw [List.length_map] at hl
    refine q xs _ G1 H1 (fun H => SqL K H a vs) (YAt vs) px g1 j1 (hl ▸ walk_list) (fun H2 s => .inl (.inl (s _ _ ha))) fun i H2 x H3 G2 y hy s1 s2 yy => ?_
    obtain ⟨e, hx⟩ := yy
    subst e
    obtain ⟨k', hk, pk⟩ := r.getV hx
    rw [List.getElem?_map, hy] at hk
    cases hk
    exact ⟨G2, .refl s2, (f y).mono s1 pk⟩
theorem i_tup {K : PySem.W.Frag} {m : W (List α)} (h : Ex F te δ μ m (fun xs => tupK K (xs.map f))) : EIx F (iTup K te) δ μ m f := fun G H σ st P hp R q =>
  h G H σ st _ hp _ fun xs v G1 H1 px g1 j1 pv => by
    obtain ⟨a, vs, rfl, ha, r⟩ := pv
    refine ⟨a, rfl, ⟨vs, seqT_mono g1.gh ha⟩, ?_⟩
    have hl := r.length
    rw [List.length_map] at hl
    refine q xs _ G1 H1 (fun H => SqT K H a vs) (YAt vs) px g1 j1 (hl ▸ walk_tup) (fun H2 s => seqT_mono s ha) fun i H2 x H3 G2 y hy s1 s2 yy => ?_
    obtain ⟨e, hx⟩ := yy
    subst e
    obtain ⟨k', hk, pk⟩ := r.getV hx
    rw [List.getElem?_map, hy] at hk
    cases hk
    exact ⟨G2, .refl s2, (f y).mono s1 pk⟩
def rngL (lo : Int) (n : Nat) : List Int := (List.range n).map fun i => lo + ((i : Nat) : Int)
theorem rngL_len (lo : Int) (n : Nat) : (rngL lo n).length = n := by unfold rngL; rw [List.length_map, List.length_range]
theorem rngL_get {lo : Int} {n i : Nat} {y : Int} (h : (rngL lo n)[i]? = some y) : y = lo + (i : Int) := by
  unfold rngL at h
  rw [List.getElem?_map] at h
  have hi : i < n := by
    have := (List.getElem?_eq_some_iff.mp (show ((List.range n).map fun i => lo + ((i : Nat) : Int))[i]? = some y by rw [List.getElem?_map]; exact h)).1
    rw [List.length_map, List.length_range] at this
    exact this
  rw [List.getElem?_range hi] at h
  exact (Option.some.inj h).symm
def rng1 (n : Int) : W (List Int) := fun Q => -(2 ^ 62) ≤ n ∧ n < 2 ^ 62 ∧ Q (rngL 0 n.toNat)
def rng2 (a b : Int) : W (List Int) := fun Q => (-(2 ^ 62) ≤ a ∧ a < 2 ^ 62 ∧ -(2 ^ 62) ≤ b ∧ b < 2 ^ 62) ∧ Q (rngL a (b - a).toNat)
theorem i_rng1 {m : W Int} (h : Ex F te δ μ m iK) : EIx F (iRng1 (tCons te tNil)) δ μ (bnd m rng1) iK := fun G H σ st P hp R q =>
  h G H σ st _ hp _ fun n v G1 H1 ⟨h0, h1, px⟩ g1 j1 pv => by
    have pv : v = .int n := pv
    subst pv
    refine ⟨n, rfl, h0, h1, ?_⟩
    refine q _ _ G1 H1 (fun _ => True) (YFn fun i => .int (0 + (i : Int))) px g1 j1 (by rw [rngL_len]; exact walk_range) (fun _ _ => trivial) fun i H2 x H3 G2 y hy s1 s2 yy => ?_
    obtain ⟨e, hx⟩ := yy
    subst e
    exact ⟨G2, .refl s2, by rw [hx, rngL_get hy]; rfl⟩
theorem i_rng2 {m n : W Int} {tf : TE} (h1 : Ex F te δ μ m iK) (h2 : Ex F tf δ μ n iK) : EIx F (iRng2 (tCons te (tCons tf tNil))) δ μ (bnd m fun a => bnd n fun b => rng2 a b) iK := fun G H σ st P hp R q =>
  h1 G H σ st _ hp _ fun a v G1 H1 pa g1 j1 pv => h2 G1 H1 σ (st.step g1 j1) _ pa _ fun b u G2 H2 ⟨hb, px⟩ g2 j2 pu => by
    have pv : v = .int a := pv
    have pu : u = .int b := pu
    subst pv pu
    refine ⟨a, b, rfl, hb, ?_⟩
    refine q _ _ G2 H2 (fun _ => True) (YFn fun i => .int (a + (i : Int))) px (g1.trans g2) j2 (by rw [rngL_len]; exact walk_range) (fun _ _ => trivial) fun i H3 x H4 G3 y hy s1 s2 yy => ?_
    obtain ⟨e, hx⟩ := yy
    subst e
    exact ⟨G3, .refl s2, by rw [hx, rngL_get hy]; rfl⟩
/-- a text, sign by sign -/
theorem i_str {m : W Str} (h : Ex F te δ μ m sK) : EIx F (iStr te) δ μ (bnd m fun z => ret (TL.tl z)) (fun c => sK ⟨#[c]⟩) := fun G H σ st P hp R q =>
  h G H σ st _ hp _ fun z v G1 H1 px g1 j1 pv => by
    have pv : v = .str z := pv
    subst pv
    refine ⟨z, rfl, ?_⟩
    refine q (TL.tl z) _ G1 H1 (fun _ => True) (fun i H v H' => H' = H ∧ ∃ c, z.cps[i]? = some c ∧ v = .str ⟨#[c]⟩) px g1 j1 (by show Walk _ z.cps.toList.length _ _; rw [Array.length_toList]; exact walk_str) (fun _ _ => trivial) fun i H2 x H3 G2 y hy s1 s2 yy => ?_
    obtain ⟨e, c, hc, hx⟩ := yy
    subst e hx
    have hy : z.cps.toList[i]? = some y := hy
    rw [Array.getElem?_toList, hc] at hy
    cases hy
    exact ⟨G2, .refl s2, rfl⟩
end
/-! ### defs -/
section
variable {P : Program} {w : World} {K : PySem.W.Frag} {mg : Str → Option Value} {base : Heap}
theorem ok_fnW {A ρ : Type} {FX : A → Fx} {ks : A → List Know} {m : A → W ρ} {f : ρ → Know} {x qual : Str} {st : Stmt} {fa : Addr} {fd : FuncData} {N ps : List Str} {j : Nat} {t : TS}
    (F : Fun K x qual st fa fd) (S : FnScope N ps (defScope st)) (hks : ∀ x, (ks x).length = ps.length)
    (hd : ∀ (cdv : Value) (A : Around) (outer : List PySem.Env) (s : Shared) (H : Hp) (E : XK), Room j (A.deeper (PyProof.Rows.envOfC qual (defScope st) s.heap.objs.size fa cdv)) → PSs (cxOf CX0 P w K mg base N qual (defScope st) fa cdv A outer s H E).nox (defBody st) t)
    (hb : ∀ (x : A) (Pr : ρ → Prop) (G0 H0 : Hp) (Q : VK), m x Pr → RtW (FX x) ⟨(FX x).P, G0, H0⟩ f Pr Q → Tr (FX x) ⟨(FX x).P, G0, H0⟩ (env0 (ks x) (N.length - ps.length)) [] t { nx := fun _ H' => Q .non H', rt := Q }) :
    FnOk P w K mg base CX0 (j + 1) fa fd ps (spW FX ks m f) := by
  refine F.ok S (fun vs H Q E h => ?_) (fun cdv A outer s H vs Q E hr h => ?_)
  · obtain ⟨x, Pr, G, _, _, r, _⟩ := h
    rw [r.length, hks]
  · obtain ⟨x, Pr, G, s0, j0, r, hm, q⟩ := h
    refine ⟨t, hd cdv A outer s H E hr, hb x Pr G H Q hm (fun v G' H' g j' ⟨a, pa, pv⟩ => q a v G' H' pa g j' pv) _ _ ⟨G, s0, .refl s0, ⟨s0, j0, ?_, OwnK.nil⟩, fun a ha => .inl ha, fun _ _ h => nomatch h⟩⟩
    unfold L2.start env0
    rw [show N.length - vs.length = N.length - ps.length by rw [r.length, hks]]
    exact envK_start _ r
end
end Dl
end
section
set_option maxRecDepth 100000
set_option maxHeartbeats 2000000
/-! Mirrors: kinds of data, and the operations on them. -/
namespace Dl
open PySem L2 Sx
/-! ### kinds -/
section
variable {α β γ κ : Type}
def eL (f : α → Know) (xs : List α) : Know := listK (xs.map f)
def eT (K : PySem.W.Frag) (f : α → Know) (xs : List α) : Know := tupK K (xs.map f)
/-- a tuple of texts that the program made -/
def eR (r : List Str) : Know := ⟨fun v G => ∃ a, v = .ref a ∧ G a = some (.tup (r.map V.str)), fun s ⟨a, e, h⟩ => ⟨a, e, s _ _ h⟩⟩
def eP (K : PySem.W.Frag) (f : α → Know) (g : β → Know) (p : α × β) : Know := tupK K [f p.1, g p.2]
structure T3 (α β γ : Type) where
  a : α
  b : β
  c : γ
def eP3 (K : PySem.W.Frag) (f : α → Know) (g : β → Know) (h : γ → Know) (p : T3 α β γ) : Know := tupK K [f p.a, g p.b, h p.c]
def eO (f : α → Know) : Option α → Know
  | none => valK .non
  | some x => f x
def eU (_ : Unit) : Know := valK .non
/-- lists or tuples -/
def eS (K : PySem.W.Frag) (f : α → Know) (p : Bool × List α) : Know := sqK p.1 K (p.2.map f)
theorem row_tup {K : PySem.W.Frag} {r : List Str} {v : V} {G : Hp} (h : (eR r).p v G) : (eT K sK r).p v G := by
  obtain ⟨a, e, h⟩ := h
  exact ⟨a, _, e, .inl (.inl h), allK_of_val r⟩
end
section
variable {F : Fx} {δ : Env} {μ : Mu} {K : PySem.W.Frag} {ta tb tc te : TE} {k k1 k2 : Know} {r : R2}
variable {α β γ : Type} {f : α → Know} {g : β → Know} {a : α} {ma : W α} {mb : W β}
theorem x_var {i : Nat} (h : δ[i]? = some (some (f a))) : Ex F (tVar i) δ μ (ret a) f := x_p (ek_var h)
theorem x_int {i : Int} : Ex F (tC (.int i)) δ μ (ret i) iK := x_p ek_c
theorem x_str {z : Str} : Ex F (tC (.str z)) δ μ (ret z) sK := x_p ek_c
theorem x_bl {b : Bool} : Ex F (tC (.bl b)) δ μ (ret b) bK := x_p ek_c
theorem x_non : Ex F (tC .non) δ μ (ret ()) eU := x_p ek_c
theorem x_noneO : Ex F (tC .non) δ μ (ret none) (eO f) := x_p (ek_c (v := .non))
theorem x_someO {m : W α} (h : Ex F te δ μ m f) : Ex F te δ μ (bnd m fun x => ret (some x)) (eO f) := x_map h fun _ _ _ p => p
/-! whole numbers -/
theorem r_addI {i j : Int} : Rx F μ (rI0 fun i j => .int (i + j)) (iK i) (iK j) (ret (i + j)) iK := rx_p rk_I0
theorem r_subI {i j : Int} : Rx F μ (rI0 fun i j => .int (i - j)) (iK i) (iK j) (ret (i - j)) iK := rx_p rk_I0
def mulG (i j : Int) : W Int := rgd (CMul i j) (i * j)
theorem r_mulI {i j : Int} : Rx F μ (rI CMul fun i j => .int (i * j)) (iK i) (iK j) (mulG i j) iK := rx_g rk_I
def divG (i j : Int) : W Int := rgd (CDiv i j) (i / j)
theorem r_divI {i j : Int} : Rx F μ (rI CDiv fun i j => .int (i / j)) (iK i) (iK j) (divG i j) iK := rx_g rk_I
def modG (i j : Int) : W Int := rgd (0 < j) (i % j)
theorem r_modI {i j : Int} : Rx F μ (rI (fun _ j => 0 < j) fun i j => .int (i % j)) (iK i) (iK j) (modG i j) iK := rx_g fun h => rk_I (C := fun _ j => 0 < j) h
theorem r_ltI {i j : Int} : Rx F μ (rI0 fun i j => .bl (decide (i < j))) (iK i) (iK j) (ret (decide (i < j))) bK := rx_p rk_I0
theorem r_leI {i j : Int} : Rx F μ (rI0 fun i j => .bl (decide (i ≤ j))) (iK i) (iK j) (ret (decide (i ≤ j))) bK := rx_p rk_I0
theorem r_gtI {i j : Int} : Rx F μ (rI0 fun i j => .bl (decide (j < i))) (iK i) (iK j) (ret (decide (j < i))) bK := rx_p rk_I0
theorem r_geI {i j : Int} : Rx F μ (rI0 fun i j => .bl (decide (j ≤ i))) (iK i) (iK j) (ret (decide (j ≤ i))) bK := rx_p rk_I0
/-! == of numbers, texts, truth values -/
theorem rk_cast {b c : Bool} {k1 k2 : Know} (h : Rk F μ r k1 k2 (bK b)) (e : b = c) : Rk F μ r k1 k2 (bK c) := e ▸ h
theorem dec_int {i j : Int} : decide (V.int i = V.int j) = decide (i = j) := decide_eq_decide.mpr ⟨fun h => V.int.inj h, fun h => by rw [h]⟩
theorem dec_str {i j : Str} : decide (V.str i = V.str j) = decide (i = j) := decide_eq_decide.mpr ⟨fun h => V.str.inj h, fun h => by rw [h]⟩
theorem dec_bl {i j : Bool} : decide (V.bl i = V.bl j) = decide (i = j) := decide_eq_decide.mpr ⟨fun h => V.bl.inj h, fun h => by rw [h]⟩
theorem r_eqI {i j : Int} : Rx F μ rEq (iK i) (iK j) (ret (decide (i = j))) bK := rx_p (rk_cast (rk_eq rfl) dec_int)
theorem r_neI {i j : Int} : Rx F μ rNe (iK i) (iK j) (ret (!decide (i = j))) bK := rx_p (rk_cast (rk_ne rfl) (congrArg not dec_int))
theorem r_eqS {i j : Str} : Rx F μ rEq (sK i) (sK j) (ret (decide (i = j))) bK := rx_p (rk_cast (rk_eq rfl) dec_str)
theorem r_neS {i j : Str} : Rx F μ rNe (sK i) (sK j) (ret (!decide (i = j))) bK := rx_p (rk_cast (rk_ne rfl) (congrArg not dec_str))
theorem r_eqB {i j : Bool} : Rx F μ rEq (bK i) (bK j) (ret (decide (i = j))) bK := rx_p (rk_cast (rk_eq rfl) dec_bl)
theorem r_neB {i j : Bool} : Rx F μ rNe (bK i) (bK j) (ret (!decide (i = j))) bK := rx_p (rk_cast (rk_ne rfl) (congrArg not dec_bl))
theorem r_eqOI {i : Option Int} {j : Int} : Rx F μ rEq (eO iK i) (iK j) (ret (decide (i = some j))) bK := by
  cases i with
  | none => exact rx_p (rk_cast (rk_eq (u := .non) (w := .int j) rfl) (by rw [decide_eq_false (fun h => nomatch h), decide_eq_false (fun h => nomatch h)]))
  | some i => exact rx_p (rk_cast (rk_eq (u := .int i) (w := .int j) rfl) (dec_int.trans (decide_eq_decide.mpr ⟨fun h => by rw [h], fun h => Option.some.inj h⟩)))
theorem r_isB {i j : Bool} : Rx F μ rIsB (bK i) (bK j) (ret (decide (i = j))) bK := fun G H x y s jj o p1 p2 P hp Q q => by
  have e1 : x = .bl i := p1
  have e2 : y = .bl j := p2
  subst e1 e2
  exact ⟨i, j, rfl, rfl, q _ _ G H hp (.refl s) jj rfl⟩
/-- x is None -/
def OffN (f : α → Know) : Prop := ∀ x v G, (f x).p v G → v ≠ .non
theorem off_int : OffN iK := fun x v G h e => by have h : v = .int x := h; rw [h] at e; cases e
theorem off_eL : OffN (eL f) := fun x v G ⟨a, _, e, _⟩ z => by rw [e] at z; cases z
theorem r_isN (hf : OffN f) {x : Option α} : Rx F μ rIsNon (eO f x) (valK .non) (ret x.isNone) bK := fun G H u y s jj o p1 p2 P hp Q q => by
  refine ⟨p2, ?_⟩
  cases x with
  | none => exact q true _ G H hp (.refl s) jj (by have e : u = .non := p1; rw [decide_eq_true e]; rfl)
  | some x => exact q false _ G H hp (.refl s) jj (by rw [decide_eq_false (hf x u G p1)]; rfl)
theorem r_notN (hf : OffN f) {x : Option α} : Rx F μ rNotNon (eO f x) (valK .non) (ret x.isSome) bK := fun G H u y s jj o p1 p2 P hp Q q => by
  refine ⟨p2, ?_⟩
  cases x with
  | none => exact q false _ G H hp (.refl s) jj (by have e : u = .non := p1; rw [decide_eq_true e]; rfl)
  | some x => exact q true _ G H hp (.refl s) jj (by rw [decide_eq_false (hf x u G p1)]; rfl)
/-! texts -/
def catS (a b : Str) : W Str := rgd (a.length + b.length ≤ sizeLine) (a ++ b)
theorem r_catS {a b : Str} : Rx F μ rAddStr (sK a) (sK b) (catS a b) sK := rx_g rk_strs
theorem c_lenS {z : Str} : Cx1 F μ rLenS [sK z] (rgd (z.length ≤ sizeLine) ((z.length : Nat) : Int)) iK := c_g cr_lenS
theorem c_strI {i : Int} : Cx1 F μ rStrI [iK i] (rgd (i.natAbs.log2 < 1920) (toString i : Str)) sK := c_g cr_strI
theorem c_int1 {i : Int} : Cx1 F μ rInt [iK i] (ret i) iK := c_p cr_int1
def ixS (z : Str) (i : Int) : W Str := fun Q => z.length ≤ sizeLine ∧ ∃ c, atI z.cps.toList i = some c ∧ Q ⟨#[c]⟩
theorem r_ixS {z : Str} {i : Int} : Rx F μ rIxS (sK z) (iK i) (ixS z i) sK := fun G H x y s j o p1 p2 P ⟨hz, c, hc, hp⟩ Q q => rk_ixS hz hc G H x y s j o p1 p2 Q fun v G' H' g j' pv => q _ v G' H' hp g j' pv
def EOx (F : Fx) (to : TO) (δ : Env) (μ : Mu) (m : W (Option Int)) : Prop :=
  ∀ G H σ, Stt F G H δ μ σ → ∀ P : Option Int → Prop, m P → ∀ Q : Option Int → Hp → Prop, (∀ o G' H', P o → Gr F.P G H G' H' → F.J G' H' → Q o H') → to σ H Q
theorem o_none : EOx F tNoPart δ μ (ret none) := fun G H σ st P hp Q q => q none G H hp (.refl st.sub) st.j
theorem o_some {m : W Int} (h : Ex F te δ μ m iK) : EOx F (tPart te) δ μ (bnd m fun i => ret (some i)) := fun G H σ st P hp Q q =>
  h G H σ st _ hp _ fun i v G1 H1 p1 g1 j1 e => ⟨i, e, q _ G1 H1 p1 g1 j1⟩
theorem x_slS {tl th : TO} {m : W Str} {ml mh : W (Option Int)} (h : Ex F te δ μ m sK) (hl : EOx F tl δ μ ml) (hh : EOx F th δ μ mh) : Ex F (tSl rSlS te tl th) δ μ (bnd m fun z => bnd ml fun lo => bnd mh fun hi => rgd (z.length ≤ sizeLine) (cutS z lo hi)) sK := fun G H σ st P hp Q q =>
  h G H σ st _ hp _ fun z v G1 H1 p1 g1 j1 e => hl G1 H1 σ (st.step g1 j1) _ p1 _ fun lo G2 H2 p2 g2 j2 => hh G2 H2 σ ((st.step g1 j1).step g2 j2) _ p2 _ fun hi G3 H3 p3 g3 j3 => ⟨z, e, p3.1, q _ _ G3 H3 p3.2 ((g1.trans g2).trans g3) j3 rfl⟩
def joinG (z : Str) (ys : List Str) : W Str := rgd ((ys.map (·.length)).sum + ys.length * z.length ≤ 16777216) (Txt.join z ys)
theorem x_join {m : W Str} {n : W (List Str)} (h : Ex F ta δ μ m sK) (he : Ex F te δ μ n (eL sK)) : Ex F (tM1 (rJoinQ K) ta te) δ μ (bnd m fun z => bnd n fun ys => joinG z ys) sK := fun G H σ st P hp Q q =>
  h G H σ st _ hp _ fun z x G1 H1 pz g1 j1 p1 => ⟨⟨z, p1⟩, he G1 H1 σ (st.step g1 j1) _ pz _ fun ys y G2 H2 py g2 j2 p2 => by
    obtain ⟨a, vs, rfl, ha, r⟩ := p2
    have e := allK_val r
    subst e
    exact ⟨z, a, ys, p1, rfl, .inl (.inl (.inl (g2.gh _ _ ha))), py.1, q _ _ G2 H2 py.2 (g1.trans g2) j2 rfl⟩⟩
/-! lists -/
theorem n_nil : EXn F (tLst tNil) δ μ (ret ([] : List α)) (fun xs => .lst (xs.map f)) := n_p (en_lst ea_nil (Nat.zero_le _))
theorem n_lst {t : TA} {fl : β → List Know} {h : β → List α} {m : W β} (ha : EA F t δ μ m fl) (e : ∀ x, fl x = (h x).map f) (hl : ∀ x, (h x).length ≤ 1000) : EXn F (tLst t) δ μ (bnd m fun x => ret (h x)) (fun xs => .lst (xs.map f)) := fun G H σ st P hp Q q =>
  ha G H σ st _ hp _ fun x vs G1 H1 p1 g1 j1 r => by
    rw [e] at r
    refine ⟨by rw [r.length, List.length_map]; exact Nat.le_trans (hl x) (by decide), fun a ha => q (h x) a _ G1 _ p1 (back_none g1 ha) (none_sub g1.gh ha) (F.offP j1 ha) upd_same ⟨vs, rfl, r⟩ (g1.trans (Gr.own g1.gh ha)) (F.loc (F.offP j1 ha) j1)⟩
def catL (xs ys : List α) : W (List α) := rgd (xs.length + ys.length ≤ sizeLine) (xs ++ ys)
theorem n_catL {m n : W (List α)} (ha : Ex F ta δ μ m (eL f)) (hb : Ex F tb δ μ n (eL f)) : EXn F (tOp rCat ta tb) δ μ (bnd m fun x => bnd n fun y => catL x y) (fun xs => .lst (xs.map f)) := fun G H σ st P hp Q q =>
  ha G H σ st _ hp _ fun x v G1 H1 p1 g1 j1 v1 => hb G1 H1 σ (st.step g1 j1) _ p1 _ fun y w G2 H2 p2 g2 j2 v2 => by
    refine rn_cat (F := F) (μ := μ) (k1 := eL f x) (k2 := eL f y) (ks := x.map f) (ls := y.map f) rd_list rd_list (by rw [List.length_map, List.length_map]; exact p2.1) G2 H2 v w g2.gh j2 ((st.step g1 j1).own.step g2) ((eL f x).mono g2.gg v1) v2 Q fun a o G' H' h1 h2 h3 h4 h5 g3 j3 => ?_
    rw [← List.map_append] at h5
    exact q (x ++ y) a o G' H' p2.2 (back_none (g1.trans g2) h1) h2 h3 h4 h5 ((g1.trans g2).trans g3) j3
def cutL (xs : List α) (lo hi : Option Int) : List α := (xs.drop (HT.sIx xs.length 0 lo)).take (HT.sIx xs.length xs.length hi - HT.sIx xs.length 0 lo)
theorem cutK_map {xs : List α} {lo hi : Option Int} : cutK (xs.map f) lo hi = (cutL xs lo hi).map f := by
  unfold cutK cutL
  rw [List.length_map, List.map_take, List.map_drop]
theorem n_slL {tl th : TO} {m : W (List α)} {ml mh : W (Option Int)} (h : Ex F te δ μ m (eL f)) (hl : EOx F tl δ μ ml) (hh : EOx F th δ μ mh) : EXn F (tSl (rSlL K) te tl th) δ μ (bnd m fun xs => bnd ml fun lo => bnd mh fun hi => ret (cutL xs lo hi)) (fun xs => .lst (xs.map f)) := fun G H σ st P hp Q q =>
  h G H σ st _ hp _ fun xs x G1 H1 p1 g1 j1 v1 => hl G1 H1 σ (st.step g1 j1) _ p1 _ fun lo G2 H2 p2 g2 j2 => hh G2 H2 σ ((st.step g1 j1).step g2 j2) _ p2 _ fun hi G3 H3 p3 g3 j3 => by
    obtain ⟨a, vs, rfl, ha, rr⟩ := (eL f xs).mono (g2.gg.trans g3.gg) v1
    have rr2 := rr.cut lo hi
    rw [show ((xs.map f).drop (HT.sIx (xs.map f).length 0 lo)).take (HT.sIx (xs.map f).length (xs.map f).length hi - HT.sIx (xs.map f).length 0 lo) = (cutL xs lo hi).map f from cutK_map] at rr2
    refine ⟨a, vs, rfl, .inl (.inl (g3.gh _ _ ha)), fun b hb => ?_⟩
    exact q (cutL xs lo hi) b _ G3 _ p3 (back_none ((g1.trans g2).trans g3) hb) (none_sub g3.gh hb) (F.offP j3 hb) upd_same ⟨_, rfl, rr2⟩ (((g1.trans g2).trans g3).trans (Gr.own g3.gh hb)) (F.loc (F.offP j3 hb) j3)
theorem allK_rev {G : Hp} : ∀ {vs : List V} {ks : List Know}, AllK G vs ks → AllK G vs.reverse ks.reverse
  | _, _, .nil => .nil
  | _, _, .cons a b => by rw [List.reverse_cons, List.reverse_cons]; exact (allK_rev b).snoc a
theorem n_revL {m : W (List α)} (h : Ex F te δ μ m (eL f)) : EXn F (tRevL K te) δ μ (bnd m fun xs => ret xs.reverse) (fun xs => .lst (xs.map f)) := fun G H σ st P hp Q q =>
  h G H σ st _ hp _ fun xs x G1 H1 p1 g1 j1 ⟨a, vs, e, ha, r⟩ => by
    refine ⟨a, vs, e, .inl (.inl (g1.gh _ _ ha)), fun b hb => ?_⟩
    refine q xs.reverse b _ G1 _ p1 (back_none g1 hb) (none_sub g1.gh hb) (F.offP j1 hb) upd_same ⟨_, rfl, ?_⟩ (g1.trans (Gr.own g1.gh hb)) (F.loc (F.offP j1 hb) j1)
    rw [List.map_reverse]; exact allK_rev r
theorem r_ixL {xs : List α} {i : Int} : Rx F μ (rIxL K) (eL f xs) (iK i) (ixW xs i) f := fun G H x y s j o p1 p2 P ⟨n, z, hn, hz, hp⟩ Q q =>
  rk_ixL (ks := xs.map f) (j := n) rd_list (by rw [List.length_map]; exact hn) (by rw [List.getElem?_map, hz]; rfl) G H x y s j o p1 p2 Q fun v G' H' g j' pv => q z v G' H' hp g j' pv
theorem c_lenL {xs : List α} : Cx1 F μ (rLenQ K) [eL f xs] (ret ((xs.length : Nat) : Int)) iK := c_p (by
  have h := cr_len (F := F) (μ := μ) (K := K) (ks := xs.map f) (k1 := eL f xs) rd_list
  rw [List.length_map] at h; exact h)
theorem c_lenT {xs : List α} : Cx1 F μ (rLenQ K) [eT K f xs] (ret ((xs.length : Nat) : Int)) iK := c_p (by
  have h := cr_lenT (F := F) (μ := μ) (K := K) (ks := xs.map f)
  rw [List.length_map] at h; exact h)
theorem c_lenR {xs : List Str} : Cx1 F μ (rLenQ K) [eR xs] (ret ((xs.length : Nat) : Int)) iK := fun G H vs s j o p P hp Q q => by
  obtain ⟨v, rfl, p'⟩ := allK1 p
  exact c_lenT (K := K) (f := sK) (xs := xs) G H _ s j o (.cons (row_tup p') .nil) P hp Q q
theorem c_lenS2 {p : Bool × List α} : Cx1 F μ (rLenQ K) [eS K f p] (ret ((p.2.length : Nat) : Int)) iK := fun G H vs s j o p1 P hp Q q => by
  obtain ⟨v, rfl, p'⟩ := allK1 p1
  obtain ⟨a, ws, rfl, ha, r⟩ := sq_seq s p'
  refine ⟨a, ws, rfl, ha, ?_⟩
  have e := r.length
  rw [List.length_map] at e
  exact q _ _ G H hp (.refl s) j (by rw [e]; rfl)
theorem n_listL {m : W (List α)} (h : Ex F te δ μ m (eL f)) : EXn F (tCB (rListQ K) (tCons te tNil)) δ μ m (fun xs => .lst (xs.map f)) := fun G H σ st P hp Q q =>
  h G H σ st _ hp _ fun xs v G1 H1 p1 g1 j1 v1 => by
    obtain ⟨a, ws, rfl, ha, rr⟩ := v1
    exact ⟨a, ws, rfl, .inl (.inl (.inl (g1.gh _ _ ha))), fun b hb => q xs b _ G1 _ p1 (back_none g1 hb) (none_sub g1.gh hb) (F.offP j1 hb) upd_same ⟨_, rfl, rr⟩ (g1.trans (Gr.own g1.gh hb)) (F.loc (F.offP j1 hb) j1)⟩
/-! tuples -/
theorem r_ixT {xs : List α} {i : Int} : Rx F μ (rIxT K) (eT K f xs) (iK i) (ixW xs i) f := fun G H x y s j o p1 p2 P ⟨n, z, hn, hz, hp⟩ Q q =>
  rk_ixT (ks := xs.map f) (j := n) (by rw [List.length_map]; exact hn) (by rw [List.getElem?_map, hz]; rfl) G H x y s j o p1 p2 Q fun v G' H' g j' pv => q z v G' H' hp g j' pv
theorem r_ixR {xs : List Str} {i : Int} : Rx F μ (rIxT K) (eR xs) (iK i) (ixW xs i) sK := fun G H x y s j o p1 p2 P hp Q q => r_ixT (f := sK) (xs := xs) G H x y s j o (row_tup p1) p2 P hp Q q
theorem r_ixS2 {p : Bool × List α} {i : Int} : Rx F μ (rIx K) (eS K f p) (iK i) (ixW p.2 i) f := fun G H x y s j o p1 p2 P ⟨n, z, hn, hz, hp⟩ Q q => by
  have e2 : y = .int i := p2
  subst e2
  obtain ⟨a, ws, rfl, ha, rr⟩ := sq_seq s p1
  obtain ⟨v, hv, pv⟩ := rr.get (i := n) (k := f z) (by rw [List.getElem?_map, hz]; rfl)
  have hat : atI ws i = some v := atI_get (by rw [rr.length, List.length_map]; exact hn) hv
  rcases ha with ha | ha
  · exact .inl ⟨a, ws, i, v, rfl, rfl, ha, hat, q z v G H hp (.refl s) j pv⟩
  · exact .inr (.inl ⟨a, ws, i, v, rfl, rfl, ha, hat, q z v G H hp (.refl s) j pv⟩)
theorem x_tup2 {m : W α} {n : W β} (h1 : Ex F ta δ μ m f) (h2 : Ex F tb δ μ n g) : Ex F (tTup (tCons ta (tCons tb tNil))) δ μ (bnd m fun x => bnd n fun y => ret (x, y)) (eP K f g) := fun G H σ st P hp Q q =>
  h1 G H σ st _ hp _ fun x v G1 H1 p1 g1 j1 v1 => h2 G1 H1 σ (st.step g1 j1) _ p1 _ fun y w G2 H2 p2 g2 j2 v2 =>
    ⟨by show 2 ≤ sizeLine; decide, fun a ha => q (x, y) (.ref a) (upd G2 a (.tup [v, w])) _ p2 ((g1.trans g2).trans (Gr.new g2.gh ha)) (F.new g2.gh ha j2) ⟨a, _, rfl, .inl (.inl upd_same), AllK.mono (same_new (none_sub g2.gh ha)) (.cons ((f x).mono g2.gg v1) (.cons v2 .nil))⟩⟩
theorem x_row2 {m n : W Str} (h1 : Ex F ta δ μ m sK) (h2 : Ex F tb δ μ n sK) : Ex F (tTup (tCons ta (tCons tb tNil))) δ μ (bnd m fun x => bnd n fun y => ret [x, y]) eR := fun G H σ st P hp Q q =>
  h1 G H σ st _ hp _ fun x v G1 H1 p1 g1 j1 v1 => h2 G1 H1 σ (st.step g1 j1) _ p1 _ fun y w G2 H2 p2 g2 j2 v2 =>
    ⟨by show 2 ≤ sizeLine; decide, fun a ha => q [x, y] (.ref a) (upd G2 a (.tup [v, w])) _ p2 ((g1.trans g2).trans (Gr.new g2.gh ha)) (F.new g2.gh ha j2) ⟨a, rfl, by
      have e1 : v = .str x := v1
      have e2 : w = .str y := v2
      rw [upd_same, e1, e2]; rfl⟩⟩
/-- tuple(xs), xs a list -/
theorem x_tupL {m : W (List α)} (h : Ex F te δ μ m (eL f)) : Ex F (tCB (rTupQ K) (tCons te tNil)) δ μ m (eT K f) := fun G H σ st P hp Q q =>
  h G H σ st _ hp _ fun xs v G1 H1 p1 g1 j1 ⟨a, ws, e, ha, rr⟩ => by
    subst e
    exact ⟨a, ws, rfl, .inl ⟨.inl (.inl (g1.gh _ _ ha)), fun l hl => q xs _ (upd G1 l (.tup ws)) _ p1 (g1.trans (Gr.new g1.gh hl)) (F.new g1.gh hl j1) ⟨l, ws, rfl, .inl (.inl upd_same), rr.mono (same_new (none_sub g1.gh hl))⟩⟩⟩
theorem x_rowL {m : W (List Str)} (h : Ex F te δ μ m (eL sK)) : Ex F (tCB (rTupQ K) (tCons te tNil)) δ μ m eR := fun G H σ st P hp Q q =>
  h G H σ st _ hp _ fun xs v G1 H1 p1 g1 j1 ⟨a, ws, e, ha, rr⟩ => by
    subst e
    have e := allK_val rr
    subst e
    exact ⟨a, _, rfl, .inl ⟨.inl (.inl (g1.gh _ _ ha)), fun l hl => q xs _ (upd G1 l (.tup _)) _ p1 (g1.trans (Gr.new g1.gh hl)) (F.new g1.gh hl j1) ⟨l, rfl, upd_same⟩⟩⟩
theorem cutV_str {xs : List Str} {lo hi : Option Int} : cutV (xs.map V.str) lo hi = (cutL xs lo hi).map V.str := by
  unfold cutV cutL
  rw [List.length_map, List.map_take, List.map_drop]
theorem x_slR {tl th : TO} {m : W (List Str)} {ml mh : W (Option Int)} (h : Ex F te δ μ m eR) (hl : EOx F tl δ μ ml) (hh : EOx F th δ μ mh) : Ex F (tSl (rSlA K) te tl th) δ μ (bnd m fun xs => bnd ml fun lo => bnd mh fun hi => ret (cutL xs lo hi)) eR := fun G H σ st P hp Q q =>
  h G H σ st _ hp _ fun xs x G1 H1 p1 g1 j1 v1 => hl G1 H1 σ (st.step g1 j1) _ p1 _ fun lo G2 H2 p2 g2 j2 => hh G2 H2 σ ((st.step g1 j1).step g2 j2) _ p2 _ fun hi G3 H3 p3 g3 j3 => by
    obtain ⟨a, rfl, ha⟩ := (eR xs).mono (g2.gg.trans g3.gg) v1
    refine ⟨a, _, rfl, .inl (.inl (g3.gh _ _ ha)), fun hw => ?_, fun _ p hpn => ?_⟩
    · rw [List.length_map] at hw
      have e : cutL xs lo hi = xs := by unfold cutL; rw [hw.1, hw.2, List.drop_zero, Nat.sub_zero, List.take_length]
      exact q _ _ G3 H3 p3 ((g1.trans g2).trans g3) j3 ⟨a, rfl, by rw [e]; exact ha⟩
    · exact q _ _ (upd G3 p _) _ p3 (((g1.trans g2).trans g3).trans (Gr.new g3.gh hpn)) (F.new g3.gh hpn j3) ⟨p, rfl, by rw [upd_same, cutV_str]⟩
def catR (x y : List Str) : W (List Str) := rgd (x ≠ [] ∧ x.length + y.length ≤ sizeLine) (x ++ y)
theorem r_catR {x y : List Str} : Rx F μ (rCatT K) (eR x) (eR y) (catR x y) eR := fun G H u v s j o p1 p2 P hp Q q => by
  obtain ⟨a, rfl, ha⟩ := p1
  obtain ⟨b, rfl, hb⟩ := p2
  obtain ⟨⟨h1, h2⟩, hp⟩ := hp
  refine ⟨a, b, _, _, rfl, rfl, .inl (.inl (s _ _ ha)), .inl (.inl (s _ _ hb)), fun e => h1 (List.map_eq_nil_iff.mp e), by rw [List.length_map, List.length_map]; exact h2, fun e => ?_, fun _ p hpn => ?_⟩
  · have e : y = [] := List.map_eq_nil_iff.mp e
    subst e
    exact q _ _ G H hp (.refl s) j ⟨a, rfl, by rw [List.append_nil]; exact ha⟩
  · exact q _ _ (upd G p _) _ hp (Gr.new s hpn) (F.new s hpn j) ⟨p, rfl, by rw [upd_same, List.map_append]⟩
theorem i_row {m : W (List Str)} (h : Ex F te δ μ m eR) : EIx F (iTup K te) δ μ m sK := i_tup (x_kn (f' := fun xs => tupK K (xs.map sK)) (fun G H σ st P hp Q q => h G H σ st P hp Q fun a v G' H' pa g j pv => q a v G' H' pa g j (row_tup (K := K) pv) : Ex F te δ μ m (eT K sK)) fun _ => rfl)
theorem i_eL {m : W (List α)} (h : Ex F te δ μ m (eL f)) : EIx F (iList K te) δ μ m f := i_list h
theorem i_eT {m : W (List α)} (h : Ex F te δ μ m (eT K f)) : EIx F (iTup K te) δ μ m f := i_tup h
theorem x_sqL {m : W (List α)} (h : Ex F te δ μ m (eL f)) : Ex F te δ μ (bnd m fun xs => ret (true, xs)) (eS K f) := x_map h fun _ _ _ p => p
theorem x_sqT {m : W (List α)} (h : Ex F te δ μ m (eT K f)) : Ex F te δ μ (bnd m fun xs => ret (false, xs)) (eS K f) := x_map h fun _ _ _ p => p
theorem n_eL {m : W (List α)} (h : EXn F te δ μ m (fun xs => .lst (xs.map f))) : Ex F te δ μ m (eL f) := n_x h
theorem g_pair {i j : Nat} {p : α × β} : Gk (gTup K 2 (gCons (gName i) (gCons (gName j) gNil))) (eP K f g p) δ ((δ.set i (some (f p.1))).set j (some (g p.2))) := gk_pair
end
end Dl
end
section
set_option maxRecDepth 100000
set_option maxHeartbeats 2000000
/-! Mirrors: == and in of data, sets and sorted, dicts. -/
namespace Dl
open PySem L2 Sx
/-! ### what == may look at -/
structure DT {α : Type} [DecidableEq α] (K : PySem.W.Frag) (f : α → Know) (g : α → PyData) (ok : α → Prop) (n : Nat) : Prop where
  isd : ∀ x, IsD K (f x) (g x)
  eqv : ∀ x y, PyData.eqv (g x) (g y) = decide (x = y)
  shp : ∀ x, ok x → (g x).canLay0 = true ∧ (g x).depth ≤ n
def okS (x : Str) : Prop := PyData.strOk x = true
def okL {α : Type} (ok : α → Prop) (xs : List α) : Prop := ∀ x ∈ xs, ok x
def okP {α β : Type} (ok : α → Prop) (ok2 : β → Prop) (p : α × β) : Prop := ok p.1 ∧ ok2 p.2
def okT {α : Type} (_ : α) : Prop := True
theorem beq_dec {α : Type} [BEq α] [LawfulBEq α] [DecidableEq α] (a b : α) : (a == b) = decide (a = b) := by
  by_cases h : a = b
  · rw [decide_eq_true h, h]; exact beq_self_eq_true b
  · rw [decide_eq_false h]; exact beq_eq_false_iff_ne.mpr h
section
variable {K : PySem.W.Frag} {α β : Type} [DecidableEq α] [DecidableEq β] {f : α → Know} {g : α → PyData} {ok : α → Prop} {n m : Nat} {f2 : β → Know} {g2 : β → PyData} {ok2 : β → Prop}
theorem dt_int : DT K iK .int okT 0 := ⟨fun _ => isd_int, fun x y => by rw [PyData.eqv]; exact beq_dec x y, fun _ _ => ⟨rfl, Nat.le_refl _⟩⟩
theorem dt_bool : DT K bK .bool okT 0 := ⟨fun _ => isd_bl, fun x y => by rw [PyData.eqv]; exact beq_dec x y, fun _ _ => ⟨rfl, Nat.le_refl _⟩⟩
theorem dt_str : DT K sK .str okS 0 := ⟨fun _ => isd_str, fun x y => by rw [PyData.eqv]; exact beq_dec x y, fun x h => ⟨h, Nat.zero_le _⟩⟩
theorem eqvAll_map (h : ∀ x y, PyData.eqv (g x) (g y) = decide (x = y)) : ∀ xs ys : List α, PyData.eqvAll (xs.map g) (ys.map g) = decide (xs = ys)
  | [], [] => by simp [PyData.eqvAll]
  | [], _ :: _ => by simp [PyData.eqvAll]
  | _ :: _, [] => by simp [PyData.eqvAll]
  | x :: xs, y :: ys => by
    rw [List.map_cons, List.map_cons, PyData.eqvAll, h, eqvAll_map h xs ys]
    by_cases h1 : x = y <;> by_cases h2 : xs = ys <;> simp [h1, h2]
theorem lay_map : ∀ xs : List α, (∀ x ∈ xs, (g x).canLay0 = true) → PyData.canLayAll0 (xs.map g) = true
  | [], _ => rfl
  | x :: xs, h => by
    rw [List.map_cons]
    show ((g x).canLay0 && PyData.canLayAll0 (xs.map g)) = true
    rw [h x List.mem_cons_self, lay_map xs fun y hy => h y (List.mem_cons_of_mem _ hy)]
    rfl
theorem dep_map : ∀ xs : List α, (∀ x ∈ xs, (g x).depth ≤ n) → PyData.depthAll (xs.map g) ≤ n
  | [], _ => Nat.zero_le _
  | x :: xs, h => by
    rw [List.map_cons]
    show max (g x).depth (PyData.depthAll (xs.map g)) ≤ n
    exact Nat.max_le.mpr ⟨h x List.mem_cons_self, dep_map xs fun y hy => h y (List.mem_cons_of_mem _ hy)⟩
theorem dt_list (d : DT K f g ok n) : DT K (eL f) (fun xs => .list (xs.map g)) (okL ok) (n + 1) :=
  ⟨fun xs => isd_list fun x _ => d.isd x, fun xs ys => by rw [PyData.eqv]; exact eqvAll_map d.eqv xs ys, fun xs h => ⟨lay_map xs fun x hx => (d.shp x (h x hx)).1, Nat.succ_le_succ (dep_map xs fun x hx => (d.shp x (h x hx)).2)⟩⟩
theorem dt_tup (d : DT K f g ok n) : DT K (eT K f) (fun xs => .tuple (xs.map g)) (okL ok) (n + 1) :=
  ⟨fun xs => isd_tup fun x _ => d.isd x, fun xs ys => by rw [PyData.eqv]; exact eqvAll_map d.eqv xs ys, fun xs h => ⟨lay_map xs fun x hx => (d.shp x (h x hx)).1, Nat.succ_le_succ (dep_map xs fun x hx => (d.shp x (h x hx)).2)⟩⟩
theorem dt_row : DT K eR (fun xs : List Str => .tuple (xs.map .str)) (okL okS) 1 :=
  ⟨fun xs v G h => (dt_tup (K := K) dt_str).isd xs v G (row_tup h), (dt_tup (K := K) dt_str).eqv, (dt_tup (K := K) dt_str).shp⟩
theorem dt_pair (d : DT K f g ok n) (e : DT K f2 g2 ok2 m) : DT K (eP K f f2) (fun p => .tuple [g p.1, g2 p.2]) (okP ok ok2) (max n m + 1) :=
  ⟨fun p => isd_pair (d.isd p.1) (e.isd p.2), fun p q => by
    rw [PyData.eqv, PyData.eqvAll, PyData.eqvAll, PyData.eqvAll, d.eqv, e.eqv]
    obtain ⟨p1, p2⟩ := p
    obtain ⟨q1, q2⟩ := q
    by_cases h1 : p1 = q1 <;> by_cases h2 : p2 = q2 <;> simp [h1, h2], fun p h => by
    have h1 := d.shp p.1 h.1
    have h2 := e.shp p.2 h.2
    refine ⟨?_, ?_⟩
    · show (_ && (_ && true)) = true
      rw [h1.1, h2.1]; rfl
    · show max _ (max _ 0) + 1 ≤ _
      omega⟩
theorem DT.shaped (d : DT K f g ok n) {x : α} (h : ok x) (hn : n ≤ 64 := by decide) : SeqAt.shaped (g x) = true := by
  have q := d.shp x h
  unfold SeqAt.shaped
  rw [q.1, decide_eq_true (Nat.le_trans q.2 hn)]
  rfl
def eqG (ok : α → Prop) (x y : α) : W Bool := rgd (ok x ∧ ok y) (decide (x = y))
def neG (ok : α → Prop) (x y : α) : W Bool := rgd (ok x ∧ ok y) (!decide (x = y))
def inG (ok : α → Prop) (x : α) (xs : List α) : W Bool := rgd (ok x ∧ okL ok xs) (decide (x ∈ xs))
def niG (ok : α → Prop) (x : α) (xs : List α) : W Bool := rgd (ok x ∧ okL ok xs) (!decide (x ∈ xs))
variable {F : Fx} {δ : Env} {μ : Mu} {ta te : TE}
theorem r_eqD (d : DT K f g ok n) {x y : α} (hn : n ≤ 64 := by decide) : Rx F μ (rEqD K) (f x) (f y) (eqG ok x y) bK := rx_g fun h => rk_cast (rk_eqD (d.isd x) (d.isd y) (d.shaped h.1 hn) (d.shaped h.2 hn)) (d.eqv x y)
theorem r_neD (d : DT K f g ok n) {x y : α} (hn : n ≤ 64 := by decide) : Rx F μ (rNeD K) (f x) (f y) (neG ok x y) bK := rx_g fun h => rk_cast (rk_neD (d.isd x) (d.isd y) (d.shaped h.1 hn) (d.shaped h.2 hn)) (congrArg not (d.eqv x y))
theorem any_dec (d : DT K f g ok n) {x : α} {xs : List α} : ((xs.map g).any fun z => PyData.eqv z (g x)) = decide (x ∈ xs) := by
  rw [List.any_map, Bool.eq_iff_iff, List.any_eq_true, decide_eq_true_iff]
  constructor
  · rintro ⟨z, hz, e⟩
    have e : PyData.eqv (g z) (g x) = true := e
    rw [d.eqv] at e
    exact of_decide_eq_true e ▸ hz
  · intro h
    exact ⟨x, h, by show PyData.eqv (g x) (g x) = true; rw [d.eqv]; exact decide_eq_true rfl⟩
theorem r_inD (d : DT K f g ok n) {x : α} {xs : List α} (hn : n + 1 ≤ 64 := by decide) : Rx F μ (rInD K) (f x) (eL f xs) (inG ok x xs) bK := fun G H u v s j o p1 p2 P ⟨h, hp⟩ Q q => by
  refine ⟨g x, xs.map g, dp_mono s (d.isd x u G p1), dp_mono s ((dt_list d).isd xs v G p2), d.shaped h.1 (by omega), (dt_list d).shaped h.2 hn, ?_⟩
  rw [any_dec d]
  exact q _ _ G H hp (.refl s) j rfl
theorem r_niD (d : DT K f g ok n) {x : α} {xs : List α} (hn : n + 1 ≤ 64 := by decide) : Rx F μ (rNotInD K) (f x) (eL f xs) (niG ok x xs) bK := fun G H u v s j o p1 p2 P ⟨h, hp⟩ Q q => by
  refine ⟨g x, xs.map g, dp_mono s (d.isd x u G p1), dp_mono s ((dt_list d).isd xs v G p2), d.shaped h.1 (by omega), (dt_list d).shaped h.2 hn, ?_⟩
  rw [any_dec d]
  exact q _ _ G H hp (.refl s) j rfl
theorem r_inS {x : Str} {xs : List Str} : Rx F μ (rIn K false) (sK x) (eL sK xs) (ret (decide (x ∈ xs))) bK := rx_p (rk_inS rd_list)
theorem r_niS {x : Str} {xs : List Str} : Rx F μ (rIn K true) (sK x) (eL sK xs) (ret (!decide (x ∈ xs))) bK := rx_p (rk_niS rd_list)
end
/-! a sign in a text -/
section
variable {F : Fx} {δ : Env} {μ : Mu} {K : PySem.W.Frag} {ta te tf : TE} {P : Program} {w : World}
def rInSg : R2 := fun x y H Q => ∃ (c : Nat) (z : Str), x = .str ⟨#[c]⟩ ∧ y = .str z ∧ Q (.bl (decide (c ∈ z.cps.toList))) H
def rNiSg : R2 := fun x y H Q => ∃ (c : Nat) (z : Str), x = .str ⟨#[c]⟩ ∧ y = .str z ∧ Q (.bl (!decide (c ∈ z.cps.toList))) H
theorem ox_inSg {X : Cx} : OpR X (compareOp .In) rInSg := op_in_sign
theorem ox_niSg {X : Cx} : OpR X (compareOp .NotIn) rNiSg := op_notIn_sign
abbrev cK (c : Nat) : Know := sK ⟨#[c]⟩
theorem r_inSg {c : Nat} {z : Str} : Rx F μ rInSg (cK c) (sK z) (ret (decide (c ∈ TL.tl z))) bK := fun G H x y s j o p1 p2 P hp Q q => ⟨c, z, p1, p2, q _ _ G H hp (.refl s) j rfl⟩
theorem r_niSg {c : Nat} {z : Str} : Rx F μ rNiSg (cK c) (sK z) (ret (!decide (c ∈ TL.tl z))) bK := fun G H x y s j o p1 p2 P hp Q q => ⟨c, z, p1, p2, q _ _ G H hp (.refl s) j rfl⟩
/-! ### sets and sorted -/
/-- a set of tuples of texts -/
def eRS (P : Program) (w : World) (rows : List (List Str)) : Know := ⟨fun v G => ∃ (a : Addr) (f : List Rw), v = .ref a ∧ G a = some (TpO P w a (f.map toE)) ∧ (∀ q ∈ f, G q.1 = some (.tup (q.2.map V.str))) ∧ ∀ r : List Str, r ∈ f.map (fun q : Rw => q.2) ↔ r ∈ rows,
  fun s ⟨a, f, e, h, q, m⟩ => ⟨a, f, e, s _ _ h, fun p hp => s _ _ (q p hp), m⟩⟩
theorem eR_at {G : Hp} : ∀ {rows : List (List Str)} {vs : List V}, AllK G vs (rows.map eR) → ∃ f : List Rw, vs = f.map (fun q => V.ref q.1) ∧ f.map (fun q : Rw => q.2) = rows ∧ ∀ q ∈ f, G q.1 = some (.tup (q.2.map V.str))
  | [], _, .nil => ⟨[], rfl, rfl, fun q hq => by cases hq⟩
  | r :: rows, _, .cons a b => by
    obtain ⟨f, e1, e2, e3⟩ := eR_at b
    obtain ⟨p, rfl, hp⟩ := a
    refine ⟨(p, r) :: f, by rw [e1]; rfl, by rw [List.map_cons, e2], fun q hq => ?_⟩
    rcases List.mem_cons.mp hq with e | hq
    · rw [e]; exact hp
    · exact e3 q hq
theorem eR_back {G : Hp} : ∀ (f : List Rw), (∀ q ∈ f, G q.1 = some (.tup (q.2.map V.str))) → AllK G (f.map fun q => V.ref q.1) ((f.map fun q : Rw => q.2).map eR)
  | [], _ => .nil
  | q :: f, h => .cons ⟨q.1, rfl, h q List.mem_cons_self⟩ (eR_back f fun p hp => h p (List.mem_cons_of_mem _ hp))
/-- set(rows) -/
theorem set_rows {rows : List (List Str)} {G H : Hp} {ws : List V} {a : Addr} {Pr : List (List Str) → Prop} (s : Same G H) (j : F.J G H) (hl : rows.length < 64) (ha : SqL K H a ws ∨ SqT K H a ws) (rr : AllK G ws (rows.map eR)) (hp : Pr rows) (Q : VK) (q : ∀ x v G' H', Pr x → Gr F.P G H G' H' → F.J G' H' → (eRS P w x).p v G' → Q v H') : rSetT K P w [V.ref a] H Q := by
  obtain ⟨f, e1, e2, e3⟩ := eR_at rr
  have e4 : ws = (f.map toE).map fun p => V.ref p.1 := by rw [e1, List.map_map]; rfl
  have hk : ∀ p ∈ f.map toE, SqT K H p.1 (p.2.map kV) := fun p hp => by
    obtain ⟨q, hq, rfl⟩ := List.mem_map.mp hp
    show SqT K H q.1 ((q.2.map (Sum.inr : Str → Key)).map kV)
    rw [key_str]; exact .inl (.inl (s _ _ (e3 q hq)))
  have hlen : (f.map toE).length < 64 := by
    have z := congrArg List.length e2
    rw [List.length_map] at z
    rw [List.length_map, z]; exact hl
  refine ⟨a, f.map toE, rfl, by rw [← e4]; exact ha, hk, hlen, fun p L hpn h1 h2 => ?_⟩
  obtain ⟨g, hg⟩ : ∃ g : List Rw, L = g.map toE ∧ ∀ q ∈ g, q ∈ f := by
    clear h2
    induction L with
    | nil => exact ⟨[], rfl, fun q hq => by cases hq⟩
    | cons y L ih =>
      obtain ⟨g, e, hg⟩ := ih fun p hp => h1 p (List.mem_cons_of_mem _ hp)
      obtain ⟨q, hq, ey⟩ := List.mem_map.mp (h1 y List.mem_cons_self)
      refine ⟨q :: g, by rw [List.map_cons, ey, e], fun r hr => ?_⟩
      rcases List.mem_cons.mp hr with z | z
      · rw [z]; exact hq
      · exact hg r z
  obtain ⟨rfl, hg⟩ := hg
  refine q rows _ (upd G p _) _ hp (Gr.new s hpn) (F.new s hpn j) ⟨p, g, rfl, upd_same, fun q hq => same_new (none_sub s hpn) _ _ (e3 q (hg q hq)), fun r => ?_⟩
  rw [← e2]
  constructor
  · intro hr
    obtain ⟨q, hq, e⟩ := List.mem_map.mp hr
    exact List.mem_map.mpr ⟨q, hg q hq, e⟩
  · intro hr
    obtain ⟨q, hq, e⟩ := List.mem_map.mp hr
    have z := h2 (toE q) (List.mem_map.mpr ⟨q, hq, rfl⟩)
    rw [List.map_map] at z
    obtain ⟨q2, hq2, e2⟩ := List.mem_map.mp z
    exact List.mem_map.mpr ⟨q2, hq2, (inr_inj e2).trans e⟩
def setG {α : Type} (n : Nat) (xs : List α) : W (List α) := rgd (xs.length < n) xs
theorem c_setRL {rows : List (List Str)} : Cx1 F μ (rSetT K P w) [eL eR rows] (setG 64 rows) (eRS P w) := fun G H vs s j o p Pr ⟨hl, hp⟩ Q q => by
  obtain ⟨v, rfl, a, ws, rfl, ha, rr⟩ := allK1 p
  exact set_rows s j hl (.inl (.inl (.inl (s _ _ ha)))) rr hp Q q
theorem c_setRS {rows : Bool × List (List Str)} : Cx1 F μ (rSetT K P w) [eS K eR rows] (setG 64 rows.2) (eRS P w) := fun G H vs s j o p Pr ⟨hl, hp⟩ Q q => by
  obtain ⟨v, rfl, p'⟩ := allK1 p
  obtain ⟨a, ws, rfl, ha, rr⟩ := sq_seq s p'
  exact set_rows s j hl ha rr hp Q q
def sortRG (rows : List (List Str)) : W (List (List Str)) := rgd (∀ r ∈ rows, r ≠ []) (sortU ltR rows)
theorem c_sortR {rows : List (List Str)} : Cx1 F μ (rSortT K P w) [eRS P w rows] (sortRG rows) (eL eR) := fun G H vs s j o p Pr ⟨hne, hp⟩ Q q => by
  obtain ⟨v, rfl, a, f, rfl, ha, hk, hm⟩ := allK1 p
  refine ⟨a, f, rfl, s _ _ ha, fun q hq => .inl (.inl (s _ _ (hk q hq))), fun q hq => hne _ ((hm _).mp (List.mem_map.mpr ⟨q, hq, rfl⟩)), fun g p hs hsub hpn => ?_⟩
  have e : sortU ltR (f.map (·.2)) = sortU ltR rows := sortU_congr ltR_ord hm
  have r := eR_back (G := G) g fun q hq => hk q (hsub q hq)
  rw [hs, e] at r
  exact q _ _ (upd G p _) _ hp (Gr.new s hpn) (F.new s hpn j) ⟨p, _, rfl, upd_same, r.mono (same_new (none_sub s hpn))⟩
theorem c_setSL {xs : List Str} : Cx1 F μ (rSetX K w) [eL sK xs] (setG 1000 xs) (setXK w) := c_g fun h => cr_setX (b := true) h
theorem c_setSR {xs : List Str} : Cx1 F μ (rSetX K w) [eR xs] (setG 1000 xs) (setXK w) := fun G H vs s j o p Pr hp Q q => by
  obtain ⟨v, rfl, p'⟩ := allK1 p
  exact c_g (F := F) (μ := μ) (fun h => cr_setX (K := K) (w := w) (b := false) (xs := xs) h) G H _ s j o (.cons (row_tup p') .nil) Pr hp Q q
theorem c_sortS {xs : List Str} : Cx1 F μ (rSortX w) [setXK w xs] (rgd (xs.length < 64) (sortU ltS xs)) (eL sK) := c_g fun h => cr_frz (cn_sortX h)
end
end Dl
end
section
set_option maxRecDepth 100000
set_option maxHeartbeats 2000000
/-! Mirrors: dicts with texts as keys; own objects. -/
namespace Dl
open PySem L2 Sx
section
variable {κ α β : Type} [DecidableEq κ]
def dGet (d : List (κ × α)) (k : κ) : Option α := (d.find? fun p => decide (p.1 = k)).map (·.2)
def dPut (d : List (κ × α)) (k : κ) (v : α) : List (κ × α) := if (d.any fun p => decide (p.1 = k)) = true then d.map (fun p => if p.1 = k then (p.1, v) else p) else d ++ [(k, v)]
def dDel (d : List (κ × α)) (k : κ) : List (κ × α) := d.filter fun p => decide (p.1 ≠ k)
def dgetW (d : List (κ × α)) (k : κ) : W α := fun Q => ∃ v, dGet d k = some v ∧ Q v
def dputG (d : List (κ × α)) (k : κ) (v : α) : W (List (κ × α)) := rgd (d.length < sizeLine) (dPut d k v)
end
section
variable {α : Type} {f : α → Know} {G G' H : Hp}
def PrD (f : α → Know) (G : Hp) (kvs : List (Key × V)) (d : List (Str × α)) : Prop := Paired (fun (p : Key × V) (q : Str × α) => p.1 = Sum.inr q.1 ∧ (f q.2).p p.2 G) kvs d
theorem PrD.mono {kvs : List (Key × V)} {d : List (Str × α)} (s : Same G G') (h : PrD f G kvs d) : PrD f G' kvs d := Paired.mapP h fun _ q z => ⟨z.1, (f q.2).mono s z.2⟩
def moD (f : α → Know) (d : List (Str × α)) : MO := .dct (d.map fun q => (Sum.inr q.1, f q.2))
theorem paired_mapR {α β γ : Type} {F : α → β → Prop} {h : γ → β} : ∀ {xs : List α} {ys : List γ}, Paired F xs (ys.map h) ↔ Paired (fun a c => F a (h c)) xs ys := by
  intro xs ys
  constructor
  · intro p
    induction ys generalizing xs with
    | nil => cases p; exact .nil
    | cons y ys ih => cases p with
      | cons a b => exact .cons a (ih b)
  · intro p
    induction ys generalizing xs with
    | nil => cases p; exact .nil
    | cons y ys ih => cases p with
      | cons a b => exact .cons a (ih b)
theorem moD_ok {d : List (Str × α)} {o : HO} : (moD f d).ok G o ↔ ∃ kvs, o = .dK kvs ∧ PrD f G kvs d := by
  constructor
  · rintro ⟨vs, e, p⟩; exact ⟨vs, e, paired_mapR.mp p⟩
  · rintro ⟨vs, e, p⟩; exact ⟨vs, e, paired_mapR.mpr p⟩
def eD (f : α → Know) (d : List (Str × α)) : Know := ⟨fun v G => ∃ a kvs, v = .ref a ∧ G a = some (.dK kvs) ∧ PrD f G kvs d, fun s ⟨a, kvs, e, h, p⟩ => ⟨a, kvs, e, s _ _ h, p.mono s⟩⟩
theorem PrD.get {kvs : List (Key × V)} {d : List (Str × α)} (h : PrD f G kvs d) (k : Str) : (dGet d k = none ∧ valV kvs (Sum.inr k) = none) ∨ ∃ x v, dGet d k = some x ∧ valV kvs (Sum.inr k) = some v ∧ (f x).p v G := by
  unfold PrD at h
  induction h with
  | nil => exact .inl ⟨rfl, rfl⟩
  | @cons p q kvs d a b ih =>
    obtain ⟨e, pv⟩ := a
    by_cases c : q.1 = k
    · refine .inr ⟨q.2, p.2, ?_, valV_pos (by rw [e, c]), pv⟩
      unfold dGet
      rw [List.find?_cons_of_pos (by simpa using c)]; rfl
    · have c2 : ¬ p.1 = Sum.inr k := fun z => c (Sum.inr.inj (e.symm.trans z))
      have e1 : dGet (q :: d) k = dGet d k := by
        unfold dGet
        rw [List.find?_cons_of_neg (by simpa using c)]
      rw [e1, valV_neg c2]
      exact ih
theorem PrD.length {kvs : List (Key × V)} {d : List (Str × α)} (h : PrD f G kvs d) : kvs.length = d.length := Paired.length h
theorem PrD.any {kvs : List (Key × V)} {d : List (Str × α)} (h : PrD f G kvs d) (k : Str) : (kvs.any fun kv => decide (kv.1 = Sum.inr k)) = d.any fun p => decide (p.1 = k) := by
  unfold PrD at h
  induction h with
  | nil => rfl
  | @cons p q kvs d a b ih =>
    rw [List.any_cons, List.any_cons, ih, a.1]
    congr 1
    exact decide_eq_decide.mpr ⟨fun z => Sum.inr.inj z, fun z => by rw [z]⟩
theorem PrD.put {kvs : List (Key × V)} {d : List (Str × α)} {k : Str} {x : α} {v : V} (h : PrD f G kvs d) (pv : (f x).p v G) : PrD f G (putK kvs (Sum.inr k) v) (dPut d k x) := by
  unfold putK dPut
  rw [h.any k]
  unfold PrD at h ⊢
  split
  · rename_i hh
    clear hh
    induction h with
    | nil => exact .nil
    | @cons p q kvs d a b ih =>
      refine .cons ?_ ih
      dsimp only
      by_cases c : q.1 = k
      · rw [if_pos c, if_pos (by rw [a.1, c])]; exact ⟨a.1, pv⟩
      · rw [if_neg c, if_neg (fun z => c (Sum.inr.inj (a.1.symm.trans z)))]; exact a
  · rename_i hh
    clear hh
    induction h with
    | nil => exact .cons ⟨rfl, pv⟩ .nil
    | cons a b ih => exact .cons a ih
theorem PrD.del {kvs : List (Key × V)} {d : List (Str × α)} (h : PrD f G kvs d) (k : Str) : PrD f G (dropK kvs (Sum.inr k)) (dDel d k) := by
  unfold dropK dDel
  unfold PrD at h ⊢
  induction h with
  | nil => exact .nil
  | @cons p q kvs d a b ih =>
    by_cases c : q.1 = k
    · rw [List.filter_cons_of_neg (by simp [a.1, c]), List.filter_cons_of_neg (by simp [c])]; exact ih
    · rw [List.filter_cons_of_pos (by simp [a.1]; exact c), List.filter_cons_of_pos (by simp; exact c)]; exact .cons a ih
theorem PrD.keys {kvs : List (Key × V)} {d : List (Str × α)} (h : PrD f G kvs d) : kvs.map (·.1) = (d.map (·.1)).map Sum.inr := by
  unfold PrD at h
  induction h with
  | nil => rfl
  | cons a b ih => rw [List.map_cons, List.map_cons, List.map_cons, ih, a.1]
end
/-- a dict that may be read -/
def DRd {α : Type} (F : Fx) (μ : Mu) (k : Know) (f : α → Know) (d : List (Str × α)) : Prop := ∀ G H v, Same G H → OwnK F G H μ → k.p v G → ∃ a kvs, v = .ref a ∧ H a = some (.dK kvs) ∧ PrD f G kvs d
section
variable {F : Fx} {B : Bs} {δ : Env} {μ : Mu} {K : PySem.W.Frag} {td ty tv tx te : TE} {D : Ends} {u : TS}
variable {α β A ρ : Type} {f : α → Know} {m : W A} {fk : A → Know} {dd : A → List (Str × α)} {mk : W Str} {P : ρ → Prop}
theorem drd_eD {d : List (Str × α)} : DRd F μ (eD f d) f d := fun G H v s _ ⟨a, kvs, e, h, p⟩ => ⟨a, kvs, e, s _ _ h, p⟩
theorem drd_own {a : Addr} {d : List (Str × α)} (h : (a, moD f d) ∈ μ) : DRd F μ (valK (.ref a)) f d := fun G H v s o e => by
  obtain ⟨_, _, ob, h1, h2⟩ := o.has a _ h
  obtain ⟨kvs, e2, p⟩ := moD_ok.mp h2
  subst e2
  exact ⟨a, kvs, e, h1, p⟩
/-- a name whose object is one's own -/
theorem x_own {i : Nat} {a : Addr} (h : δ[i]? = some (some (valK (.ref a)))) : Ex F (tVar i) δ μ (ret ()) (fun _ => valK (.ref a)) := x_p (fa := fun _ : Unit => valK (.ref a)) (ek_var h)
theorem x_dgetV (hd : Ex F td δ μ m fk) (hr : ∀ x, DRd F μ (fk x) f (dd x)) (hk : Ex F ty δ μ mk sK) : Ex F (tDGet td ty) δ μ (bnd m fun x => bnd mk fun k => dgetW (dd x) k) f := fun G H σ st P hp Q q =>
  hd G H σ st _ hp _ fun x v G1 H1 p1 g1 j1 v1 => hk G1 H1 σ (st.step g1 j1) _ p1 _ fun k y G2 H2 ⟨z, hz, pz⟩ g2 j2 e => by
    have e : y = .str k := e
    subst e
    obtain ⟨a, kvs, rfl, ha, pr⟩ := hr x G2 H2 v g2.gh (((st.step g1 j1).own).step g2) ((fk x).mono g2.gg v1)
    rcases pr.get k with ⟨c, _⟩ | ⟨x2, w, c1, c2, pv⟩
    · rw [c] at hz; cases hz
    · rw [c1] at hz; cases hz
      exact ⟨a, w, rfl, .inl ⟨kvs, Sum.inr k, .inl ha, rfl, c2.symm⟩, q _ w G2 H2 pz (g1.trans g2) j2 pv⟩
theorem x_dget2 {mz : W α} (hd : Ex F td δ μ m fk) (hr : ∀ x, DRd F μ (fk x) f (dd x)) (hk : Ex F ty δ μ mk sK) (hz : Ex F tx δ μ mz f) : Ex F (tDGet2 td ty tx) δ μ (bnd m fun x => bnd mk fun k => bnd mz fun z => ret ((dGet (dd x) k).getD z)) f := fun G H σ st P hp Q q =>
  hd G H σ st _ hp _ fun x v G1 H1 p1 g1 j1 v1 => by
    obtain ⟨a, kvs, rfl, ha, pr⟩ := hr x G1 H1 v g1.gh ((st.step g1 j1).own) v1
    refine ⟨a, rfl, .inl ⟨kvs, .inl ha⟩, ?_⟩
    refine hk G1 H1 σ (st.step g1 j1) _ p1 _ fun k y G2 H2 p2 g2 j2 e => hz G2 H2 σ ((st.step g1 j1).step g2 j2) _ p2 _ fun z w G3 H3 p3 g3 j3 pw => ?_
    have e : y = .str k := e
    subst e
    obtain ⟨a2, kvs2, ea, ha2, pr2⟩ := hr x G3 H3 (.ref a) g3.gh ((((st.step g1 j1).step g2 j2).own).step g3) ((fk x).mono (g2.gg.trans g3.gg) v1)
    cases ea
    rcases pr2.get k with ⟨c, c2⟩ | ⟨x2, w2, c1, c2, pv⟩
    · refine ⟨none, .inl ⟨kvs2, Sum.inr k, .inl ha2, rfl, c2.symm⟩, q _ w G3 H3 p3 ((g1.trans g2).trans g3) j3 ?_⟩
      rw [c]; exact pw
    · refine ⟨some w2, .inl ⟨kvs2, Sum.inr k, .inl ha2, rfl, c2.symm⟩, q _ w2 G3 H3 p3 ((g1.trans g2).trans g3) j3 ?_⟩
      rw [c1]; exact pv
theorem x_din (hk : Ex F ty δ μ mk sK) (hd : Ex F td δ μ m fk) (hr : ∀ x, DRd F μ (fk x) f (dd x)) : Ex F (tDIn ty td) δ μ (bnd mk fun k => bnd m fun x => ret (dGet (dd x) k).isSome) bK := fun G H σ st P hp Q q =>
  hk G H σ st _ hp _ fun k y G1 H1 p1 g1 j1 e => hd G1 H1 σ (st.step g1 j1) _ p1 _ fun x v G2 H2 p2 g2 j2 v2 => by
    have e : y = .str k := e
    subst e
    obtain ⟨a, kvs, rfl, ha, pr⟩ := hr x G2 H2 v g2.gh (((st.step g1 j1).own).step g2) v2
    refine ⟨a, _, rfl, .inl ⟨kvs, Sum.inr k, .inl ha, rfl, rfl⟩, q _ _ G2 H2 p2 (g1.trans g2) j2 ?_⟩
    show V.bl _ = V.bl _
    rcases pr.get k with ⟨c, c2⟩ | ⟨x2, w, c1, c2, _⟩
    · rw [c, c2]; rfl
    · rw [c1, c2]; rfl
theorem x_dni (hk : Ex F ty δ μ mk sK) (hd : Ex F td δ μ m fk) (hr : ∀ x, DRd F μ (fk x) f (dd x)) : Ex F (tDNotIn ty td) δ μ (bnd mk fun k => bnd m fun x => ret (!(dGet (dd x) k).isSome)) bK := fun G H σ st P hp Q q =>
  hk G H σ st _ hp _ fun k y G1 H1 p1 g1 j1 e => hd G1 H1 σ (st.step g1 j1) _ p1 _ fun x v G2 H2 p2 g2 j2 v2 => by
    have e : y = .str k := e
    subst e
    obtain ⟨a, kvs, rfl, ha, pr⟩ := hr x G2 H2 v g2.gh (((st.step g1 j1).own).step g2) v2
    refine ⟨a, _, rfl, .inl ⟨kvs, Sum.inr k, .inl ha, rfl, rfl⟩, q _ _ G2 H2 p2 (g1.trans g2) j2 ?_⟩
    show V.bl _ = V.bl _
    rcases pr.get k with ⟨c, c2⟩ | ⟨x2, w, c1, c2, _⟩
    · rw [c, c2]; rfl
    · rw [c1, c2]; rfl
/-! new dicts -/
theorem n_dnew : EXn F tDNewK δ μ (ret ([] : List (Str × α))) (moD f) := fun G H σ st P hp Q q p hpn =>
  q [] p _ G _ hp hpn (none_sub st.sub hpn) (F.offP st.j hpn) upd_same (moD_ok.mpr ⟨[], rfl, .nil⟩) (Gr.own st.sub hpn) (F.loc (F.offP st.j hpn) st.j)
def rDictD : List V → Hp → VK → Prop := fun xs H Q => ∃ (a : Addr) (kvs : List (Key × V)), xs = [.ref a] ∧ L2.Rd H a (.dK kvs) ∧ ∀ p, H p = none → Q (.ref p) (upd H p (.dK kvs))
theorem cx_dictD {X : Cx} : CallR X (.type "dict") rDictD := call_dictD
theorem n_dcopy (hd : Ex F td δ μ m fk) (hr : ∀ x, DRd F μ (fk x) f (dd x)) : EXn F (tCB rDictD (tCons td tNil)) δ μ (bnd m fun x => ret (dd x)) (moD f) := fun G H σ st P hp Q q =>
  hd G H σ st _ hp _ fun x v G1 H1 p1 g1 j1 v1 => by
    obtain ⟨a, kvs, rfl, ha, pr⟩ := hr x G1 H1 v g1.gh ((st.step g1 j1).own) v1
    exact ⟨a, kvs, rfl, .inl ha, fun p hpn => q _ p _ G1 _ p1 (back_none g1 hpn) (none_sub g1.gh hpn) (F.offP j1 hpn) upd_same (moD_ok.mpr ⟨kvs, rfl, pr⟩) (g1.trans (Gr.own g1.gh hpn)) (F.loc (F.offP j1 hpn) j1)⟩
/-- what is new and is not changed any more -/
theorem n_eD {md : W (List (Str × α))} (h : EXn F te δ μ md (moD f)) : Ex F te δ μ md (eD f) := fun G H σ st P hp Q q =>
  h G H σ st P hp Q fun x a o G' H' px h1 h2 hp' h3 h4 g j => by
    obtain ⟨kvs, e, pr⟩ := moD_ok.mp h4
    subst e
    have s1 : Same G' (upd G' a (.dK kvs)) := same_new h2
    refine q x (.ref a) (upd G' a (.dK kvs)) H' px (g.freeze h1 st.sub h3 h2) (F.st _ _ _ _ s1 (fun b hb => ⟨rfl, fun z => ?_⟩) j) ⟨a, kvs, rfl, upd_same, pr.mono s1⟩
    rw [upd_ne (fun e => hp' (by rw [← e]; exact hb))]; exact z
/-! list(d), sorted(d), list(d.items()) -/
def rListDk : List V → Hp → VK → Prop := fun xs H Q => ∃ (a : Addr) (kvs : List (Key × V)), xs = [.ref a] ∧ L2.Rd H a (.dK kvs) ∧ ∀ p, H p = none → Q (.ref p) (upd H p (.lst (kvs.map fun kv => kV kv.1)))
theorem cx_listDk {X : Cx} (hc : X.calm = true) : CallR X (.type "list") rListDk := call_listD hc
theorem n_keys (hd : Ex F td δ μ m fk) (hr : ∀ x, DRd F μ (fk x) f (dd x)) : EXn F (tCB rListDk (tCons td tNil)) δ μ (bnd m fun x => ret ((dd x).map fun q => q.1)) (fun xs => .lst (xs.map sK)) := fun G H σ st P hp Q q =>
  hd G H σ st _ hp _ fun x v G1 H1 p1 g1 j1 v1 => by
    obtain ⟨a, kvs, rfl, ha, pr⟩ := hr x G1 H1 v g1.gh ((st.step g1 j1).own) v1
    refine ⟨a, kvs, rfl, .inl ha, fun p hpn => q _ p _ G1 _ p1 (back_none g1 hpn) (none_sub g1.gh hpn) (F.offP j1 hpn) upd_same ⟨_, rfl, ?_⟩ (g1.trans (Gr.own g1.gh hpn)) (F.loc (F.offP j1 hpn) j1)⟩
    have e : (kvs.map fun kv => kV kv.1) = (((dd x).map fun q => q.1)).map V.str := by
      have k := pr.keys
      rw [show (kvs.map fun kv => kV kv.1) = (kvs.map (·.1)).map kV by rw [List.map_map]; rfl, k, List.map_map]; rfl
    rw [e]; exact allK_of_val _
def rSortDk : List V → Hp → VK → Prop := fun xs H Q => ∃ (a : Addr) (kvs : List (Key × V)) (ks : List Str), xs = [.ref a] ∧ L2.Rd H a (.dK kvs) ∧ kvs.map (·.1) = ks.map Sum.inr ∧ ks.length < 64 ∧
    ∀ (ys : List Str) (p : Addr), ys.Perm ks → PyProof.Rows.sortedS ys = true → H p = none → Q (.ref p) (upd H p (.lst (ys.map V.str)))
theorem cx_sortDk {X : Cx} (hc : X.calm = true) : CallR X (.builtin "sorted") rSortDk := call_sortedD hc
def sortDG (d : List (Str × α)) : W (List Str) := rgd ((d.map fun q => q.1).Nodup ∧ d.length < 64) (sortU ltS (d.map fun q => q.1))
theorem n_sortD (hd : Ex F td δ μ m fk) (hr : ∀ x, DRd F μ (fk x) f (dd x)) : EXn F (tCB rSortDk (tCons td tNil)) δ μ (bnd m fun x => sortDG (dd x)) (fun xs => .lst (xs.map sK)) := fun G H σ st P hp Q q =>
  hd G H σ st _ hp _ fun x v G1 H1 ⟨⟨nd, hl⟩, p1⟩ g1 j1 v1 => by
    obtain ⟨a, kvs, rfl, ha, pr⟩ := hr x G1 H1 v g1.gh ((st.step g1 j1).own) v1
    refine ⟨a, kvs, _, rfl, .inl ha, pr.keys, by rw [List.length_map]; exact hl, fun ys p pm so hpn => ?_⟩
    have e : ys = sortU ltS ((dd x).map fun q => q.1) := sortU_of ltS_ord (asc_sortedS (pm.nodup_iff.mpr nd) so) fun z => pm.mem_iff
    subst e
    exact q _ p _ G1 _ p1 (back_none g1 hpn) (none_sub g1.gh hpn) (F.offP j1 hpn) upd_same ⟨_, rfl, allK_of_val _⟩ (g1.trans (Gr.own g1.gh hpn)) (F.loc (F.offP j1 hpn) j1)
/-! what is new to the base -/
def fzN (G H H' : Hp) : Hp := fun b => if H b = none then H' b else G b
theorem fzN_new {G H H' : Hp} {b : Addr} (h : H b = none) : fzN G H H' b = H' b := if_pos h
theorem gr_fzN {M : List Addr} {G H H' : Hp} (s : Same G H) (hs : Same H H') : Gr M G H (fzN G H H') H' := by
  refine ⟨fun b o e => ?_, fun b o e => ?_, fun a o _ e => hs a o e, fun a ha e => ?_, fun a ha => ?_⟩
  · unfold fzN
    rw [if_neg (by rw [s b o e]; exact fun z => nomatch z)]; exact e
  · unfold fzN at e
    split at e
    · exact e
    · exact hs _ _ (s _ _ e)
  · unfold fzN
    rw [if_neg ha]; exact e
  · obtain ⟨o, e⟩ := some_of ha
    rw [hs a o e]; exact fun z => nomatch z
theorem j_fzN {G H H' : Hp} (s : Same G H) (hs : Same H H') (j : F.J G H) : F.J (fzN G H H') H' :=
  F.st G H _ _ (gr_fzN (M := []) s hs).gg (fun a ha => by
    obtain ⟨h1, h2⟩ := F.al G H j a ha
    obtain ⟨o, e⟩ := some_of h1
    exact ⟨by rw [e]; exact hs a o e, fun z => (gr_fzN (M := []) s hs).fr a h1 z⟩) j
/-- list(d.items()), of a dict that does not change any more -/
theorem x_items {md : W (List (Str × α))} (h : Ex F td δ μ md (eD f)) : Ex F (LiI.tListItems td) δ μ md (eL (eP K sK f)) := fun G H σ st P hp Q q =>
  h G H σ st _ hp _ fun d v G1 H1 p1 g1 j1 pe => by
    obtain ⟨a, kvs, e, ha, pr⟩ := pe
    refine ⟨a, kvs, e, g1.gh _ _ ha, fun H' p ts hsm n1 n2 n3 e1 e2 => q d (.ref p) _ H' p1 (g1.trans (gr_fzN g1.gh hsm)) (j_fzN g1.gh hsm j1) ⟨p, _, rfl, by rw [fzN_new n1]; exact e1, ?_⟩⟩
    have gg : Same G1 (fzN G1 H1 H') := (gr_fzN (M := []) g1.gh hsm).gg
    clear e1 ha p1 q hp n3
    unfold PrD at pr
    induction pr generalizing ts with
    | nil => cases e2; exact .nil
    | @cons x y kvs d a b ih =>
      cases e2 with
      | @cons t _ ts _ h1 h2 =>
        refine .cons ⟨t, _, rfl, .inl (.inl (by rw [fzN_new (n2 t List.mem_cons_self)]; exact h1)), .cons ?_ (.cons ((f y.2).mono gg a.2) .nil)⟩ (ih _ (fun t' ht => n2 t' (List.mem_cons_of_mem _ ht)) h2)
        rw [a.1]; exact rfl
/-! ### changing one's own dict -/
theorem w_dput {a : Addr} {d : List (Str × α)} {mv : W α} {g : List (Str × α) → W ρ} (i : Nat) (hi : μ[i]? = some (a, moD f d)) (hm : bnd mv (fun v => bnd mk fun k => bnd (dputG d k v) g) P) (hv : Ex F tv δ μ mv f) (hd : Ex F td δ μ (ret ()) fun _ => valK (.ref a)) (hk : Ex F ty δ μ mk sK)
    (q : ∀ d', g d' P → To F B δ (μ.set i (a, moD f d')) D.nx) : Tr F B δ μ (sDPut td ty tv) D := fun σ H ⟨G, z⟩ =>
  hv G H σ z.st _ hm _ fun x v G1 H1 p1 g1 j1 v1 => hd G1 H1 σ (z.step g1 j1).st (fun _ => bnd mk (fun k => bnd (dputG d k x) g) P) p1 _ fun _ w G2 H2 p2 g2 j2 e2 => hk G2 H2 σ ((z.step g1 j1).step g2 j2).st _ p2 _ fun k y G3 H3 ⟨hl, p3⟩ g3 j3 e3 => by
    have e2 : w = .ref a := e2
    have e3 : y = .str k := e3
    subst e2 e3
    have z3 := ((z.step g1 j1).step g2 j2).step g3 j3
    obtain ⟨_, _, o, ho, ok⟩ := z3.st.own.has a _ (List.mem_of_getElem? hi)
    obtain ⟨kvs, e, pr⟩ := moD_ok.mp ok
    subst e
    refine ⟨a, _, rfl, .inl ⟨kvs, Sum.inr k, ho, rfl, by rw [pr.length]; exact hl, rfl⟩, ?_⟩
    exact q _ p3 _ _ ⟨G3, z3.put i (by rw [hi]; rfl) (moD_ok.mpr ⟨_, rfl, pr.put ((f x).mono (g2.gg.trans g3.gg) v1)⟩)⟩
theorem v_dput {a : Addr} {d : List (Str × α)} {mv : W α} {g : List (Str × α) → W ρ} (i : Nat) (hi : μ[i]? = some (a, moD f d)) (hm : bnd mv (fun v => bnd mk fun k => bnd (dputG d k v) g) P) (hv : Ex F tv δ μ mv f) (hd : Ex F td δ μ (ret ()) fun _ => valK (.ref a)) (hk : Ex F ty δ μ mk sK)
    (q : ∀ d', g d' P → Tr F B δ (μ.set i (a, moD f d')) u D) : Tr F B δ μ (tSeq (sDPut td ty tv) u) D := w_dput (D := { D with nx := u D }) i hi hm hv hd hk q
def dpopG (d : List (Str × α)) (k : Str) : W (List (Str × α)) := rgd ((dGet d k).isSome = true) (dDel d k)
/-- d.pop(k), as a statement -/
theorem w_dpop {a : Addr} {d : List (Str × α)} {g : List (Str × α) → W ρ} (i : Nat) (hi : μ[i]? = some (a, moD f d)) (hm : bnd mk (fun k => bnd (dpopG d k) g) P) (hd : Ex F td δ μ (ret ()) fun _ => valK (.ref a)) (hk : Ex F ty δ μ mk sK)
    (q : ∀ d', g d' P → To F B δ (μ.set i (a, moD f d')) D.nx) : Tr F B δ μ (tDrop (tDPop1 td ty)) D := fun σ H ⟨G, z⟩ =>
  hd G H σ z.st (fun _ => bnd mk (fun k => bnd (dpopG d k) g) P) hm _ fun _ w G2 H2 p2 g2 j2 e2 => by
    have e2 : w = .ref a := e2
    subst e2
    have z2 := z.step g2 j2
    obtain ⟨_, _, o, ho, ok⟩ := z2.st.own.has a _ (List.mem_of_getElem? hi)
    obtain ⟨kvs, e, pr⟩ := moD_ok.mp ok
    subst e
    refine ⟨a, rfl, .inl ⟨kvs, .inl ho⟩, hk G2 H2 σ z2.st _ p2 _ fun k y G3 H3 ⟨hs, p3⟩ g3 j3 e3 => ?_⟩
    have e3 : y = .str k := e3
    subst e3
    have z3 := z2.step g3 j3
    obtain ⟨_, _, o, ho3, ok3⟩ := z3.st.own.has a _ (List.mem_of_getElem? hi)
    obtain ⟨kvs3, e, pr3⟩ := moD_ok.mp ok3
    subst e
    rcases pr3.get k with ⟨c, _⟩ | ⟨x2, w, c1, c2, _⟩
    · rw [c] at hs; cases hs
    · exact ⟨kvs3, Sum.inr k, w, ho3, rfl, c2, q _ p3 _ _ ⟨G3, z3.put i (by rw [hi]; rfl) (moD_ok.mpr ⟨_, rfl, pr3.del k⟩)⟩⟩
theorem v_dpop {a : Addr} {d : List (Str × α)} {g : List (Str × α) → W ρ} (i : Nat) (hi : μ[i]? = some (a, moD f d)) (hm : bnd mk (fun k => bnd (dpopG d k) g) P) (hd : Ex F td δ μ (ret ()) fun _ => valK (.ref a)) (hk : Ex F ty δ μ mk sK)
    (q : ∀ d', g d' P → Tr F B δ (μ.set i (a, moD f d')) u D) : Tr F B δ μ (tSeq (tDrop (tDPop1 td ty)) u) D := w_dpop (D := { D with nx := u D }) i hi hm hd hk q
/-! ### changing one's own list -/
def appG (xs : List α) (x : α) : W (List α) := rgd (xs.length < sizeLine) (xs ++ [x])
theorem w_app {a : Addr} {xs : List α} {mx : W α} {g : List α → W ρ} (i : Nat) (hi : μ[i]? = some (a, .lst (xs.map f))) (hm : bnd mx (fun x => bnd (appG xs x) g) P) (hd : Ex F td δ μ (ret ()) fun _ => valK (.ref a)) (hv : Ex F tv δ μ mx f)
    (q : ∀ ys, g ys P → To F B δ (μ.set i (a, .lst (ys.map f))) D.nx) : Tr F B δ μ (tDrop (tBM K "list" rAppend td (tCons tv tNil))) D := fun σ H ⟨G, z⟩ =>
  hd G H σ z.st (fun _ => bnd mx (fun x => bnd (appG xs x) g) P) hm _ fun _ w G1 H1 p1 g1 j1 e => by
    have e : w = .ref a := e
    subst e
    have z1 := z.step g1 j1
    obtain ⟨_, _, o, ho, vs, e, r⟩ := z1.st.own.has a _ (List.mem_of_getElem? hi)
    subst e
    refine ⟨.inl ⟨rfl, vs, .inl (.inl ho)⟩, ?_⟩
    refine hv G1 H1 σ z1.st _ p1 _ fun x y G2 H2 ⟨hl, p2⟩ g2 j2 pv => ?_
    have z2 := z1.step g2 j2
    obtain ⟨_, _, o, ho, vs, e, r⟩ := z2.st.own.has a _ (List.mem_of_getElem? hi)
    subst e
    refine ⟨a, vs, y, rfl, rfl, ho, by rw [r.length, List.length_map]; exact hl, ?_⟩
    refine q _ p2 _ _ ⟨G2, z2.put i (by rw [hi]; rfl) ⟨_, rfl, ?_⟩⟩
    rw [List.map_append]; exact r.snoc pv
theorem v_app {a : Addr} {xs : List α} {mx : W α} {g : List α → W ρ} (i : Nat) (hi : μ[i]? = some (a, .lst (xs.map f))) (hm : bnd mx (fun x => bnd (appG xs x) g) P) (hd : Ex F td δ μ (ret ()) fun _ => valK (.ref a)) (hv : Ex F tv δ μ mx f)
    (q : ∀ ys, g ys P → Tr F B δ (μ.set i (a, .lst (ys.map f))) u D) : Tr F B δ μ (tSeq (tDrop (tBM K "list" rAppend td (tCons tv tNil))) u) D := w_app (D := { D with nx := u D }) i hi hm hd hv q
def setLG (xs : List α) (i : Int) (x : α) : W (List α) := fun Q => ∃ j, ixN xs.length i = some j ∧ Q (xs.set j x)
theorem w_setL {a : Addr} {xs : List α} {mx : W α} {mi : W Int} {g : List α → W ρ} (i : Nat) (hi : μ[i]? = some (a, .lst (xs.map f))) (hm : bnd mx (fun x => bnd mi fun z => bnd (setLG xs z x) g) P) (hv : Ex F tv δ μ mx f) (hd : Ex F td δ μ (ret ()) fun _ => valK (.ref a)) (hz : Ex F ty δ μ mi iK)
    (q : ∀ ys, g ys P → To F B δ (μ.set i (a, .lst (ys.map f))) D.nx) : Tr F B δ μ (tAsg tv (gSub td ty rSetL)) D := fun σ H ⟨G, w⟩ =>
  hv G H σ w.st _ hm _ fun x y G1 H1 p1 g1 j1 pv => hd G1 H1 σ (w.step g1 j1).st (fun _ => bnd mi (fun z => bnd (setLG xs z x) g) P) p1 _ fun _ u G2 H2 p2 g2 j2 e2 => hz G2 H2 σ ((w.step g1 j1).step g2 j2).st _ p2 _ fun z v G3 H3 ⟨j, hj, p3⟩ g3 j3 e3 => by
    have e2 : u = .ref a := e2
    have e3 : v = .int z := e3
    subst e2 e3
    have w3 := ((w.step g1 j1).step g2 j2).step g3 j3
    obtain ⟨_, _, o, ho, vs, e, r⟩ := w3.st.own.has a _ (List.mem_of_getElem? hi)
    subst e
    refine ⟨a, vs, z, j, rfl, rfl, ho, by rw [r.length, List.length_map]; exact hj, q _ p3 _ _ ⟨G3, w3.put i (by rw [hi]; rfl) ⟨_, rfl, ?_⟩⟩⟩
    rw [List.map_set]; exact AllK.set ((f x).mono (g2.gg.trans g3.gg) pv) j r
theorem v_setL {a : Addr} {xs : List α} {mx : W α} {mi : W Int} {g : List α → W ρ} (i : Nat) (hi : μ[i]? = some (a, .lst (xs.map f))) (hm : bnd mx (fun x => bnd mi fun z => bnd (setLG xs z x) g) P) (hv : Ex F tv δ μ mx f) (hd : Ex F td δ μ (ret ()) fun _ => valK (.ref a)) (hz : Ex F ty δ μ mi iK)
    (q : ∀ ys, g ys P → Tr F B δ (μ.set i (a, .lst (ys.map f))) u D) : Tr F B δ μ (tSeq (tAsg tv (gSub td ty rSetL)) u) D := w_setL (D := { D with nx := u D }) i hi hm hv hd hz q
/-! ### an object of one's own that is not changed any more -/
theorem AtG.front {σ : St} {G H : Hp} (h : AtG F B δ μ σ G H) {μ' : Mu} (hp : List.Perm μ' μ) : AtG F B δ μ' σ G H :=
  ⟨h.s0, h.gr, ⟨h.st.sub, h.st.j, h.st.env, ⟨(hp.map _).nodup_iff.mpr h.st.own.nd, fun a m hm => h.st.own.has a m (hp.mem_iff.mp hm)⟩⟩, h.fp, fun a m hm => h.ow a m (hp.mem_iff.mp hm)⟩
theorem perm_front {α : Type} : ∀ (l : List α) (i : Nat) (x : α), l[i]? = some x → List.Perm (x :: l.eraseIdx i) l
  | [], i, x, h => by simp at h
  | y :: l, 0, x, h => by
    have e : y = x := by simpa using h
    subst e; exact List.Perm.refl _
  | y :: l, i + 1, x, h => by
    have := perm_front l i x (by simpa using h)
    exact (List.Perm.swap y x _).trans (List.Perm.cons y this)
theorem slot_same {σ : St} {i : Nat} {v : V} (hv : σ[i]? = some (some v)) : σ.set i (some v) = σ := by
  apply List.ext_getElem?
  intro j
  by_cases hj : i = j
  · subst hj
    rw [List.getElem?_set_self (List.getElem?_eq_some_iff.mp hv).1, hv]
  · rw [List.getElem?_set_ne hj]
theorem to_fz {n : St → Hp → Prop} {a : Addr} {xs : List α} (j : Nat) (i : Nat) (hj : μ[j]? = some (a, .lst (xs.map f))) (hi : δ[i]? = some (some (valK (.ref a)))) (hn : B.H0 a = none) (h : To F B (δ.set i (some (eL f xs))) (μ.eraseIdx j) n) : To F B δ μ n := fun σ H ⟨G, z⟩ => by
  have z1 := z.front (perm_front μ j _ hj)
  obtain ⟨h1, hp, o, ho, vs, e, r⟩ := z1.st.own.has a _ List.mem_cons_self
  subst e
  have z2 := z1.freeze ho hn
  obtain ⟨v, hv, e⟩ := z2.st.env.get hi
  have e : v = .ref a := e
  subst e
  have q := z2.setS i (v := .ref a) (k := eL f xs) ⟨a, vs, rfl, upd_same, r.mono (same_new h1)⟩
  rw [slot_same hv] at q
  exact h σ H ⟨_, q⟩
theorem to_fzD {n : St → Hp → Prop} {a : Addr} {d : List (Str × α)} (j : Nat) (i : Nat) (hj : μ[j]? = some (a, moD f d)) (hi : δ[i]? = some (some (valK (.ref a)))) (hn : B.H0 a = none) (h : To F B (δ.set i (some (eD f d))) (μ.eraseIdx j) n) : To F B δ μ n := fun σ H ⟨G, z⟩ => by
  have z1 := z.front (perm_front μ j _ hj)
  obtain ⟨h1, hp, o, ho, ok⟩ := z1.st.own.has a _ List.mem_cons_self
  obtain ⟨kvs, e, pr⟩ := moD_ok.mp ok
  subst e
  have z2 := z1.freeze ho hn
  obtain ⟨v, hv, e⟩ := z2.st.env.get hi
  have e : v = .ref a := e
  subst e
  have q := z2.setS i (v := .ref a) (k := eD f d) ⟨a, kvs, rfl, upd_same, pr.mono (same_new h1)⟩
  rw [slot_same hv] at q
  exact h σ H ⟨_, q⟩
end
end Dl
end
section
set_option maxRecDepth 100000
set_option maxHeartbeats 2000000
/-! enumerate of a tuple, list.extend with a tuple, {row: e for row in rows} with tuples as keys. -/
namespace Sx
open PySem PySem.Spec PyProof.Rows L2
/-! ### enumerate(tuple) -/
def IteT (K : PySem.W.Frag) (a : Addr) : It :=
  ⟨fun i H => ∃ (xs : List V) (x : V), SqT K H a xs ∧ xs[i]? = some x, fun i H v H' => ∃ T x, v = .ref T ∧ H T = none ∧ H' = upd H T (.tup [.int (i : Nat), x]) ∧ ∀ xs, SqT K H a xs → xs[i]? = some x, fun i H => ∃ xs : List V, SqT K H a xs ∧ xs.length ≤ i⟩
theorem wpAny_pyNext_enum_endT {prog : Program} {w : World} {A : Around} {E : Value → Shared → Prop} {s : Shared} {e it l : Addr} {i : Nat} {items : Array Value} {old : Value} {Q : Option Value → Shared → Prop} (hh : A.handled = none)
    (he : IsEnum s.heap e it i old) (hit : s.heap.IsTupleIter it l i) (hl : s.heap.IsTuple l items) (hx : items[i]? = none)
    (hQ : ∀ h', Heap.ExtBut it s.heap h' → Q none { s with heap := h' }) : wpAny (model prog w) A (pyNext (.ref e)) Q E s := by
  have hT : s.TypeIs (.ref e) "enumerate" := ⟨_, he, rfl⟩
  unfold pyNext
  refine wpAny_bind (wpAny_attempt (wpAny_callSpecial?_slot (name := Str.ofString "__next__") hT F.slot_enumerate_next
    (wpAny_call_entry F.slot_enumerate_next hT F.entry_enumerate_next ?_ (F.args_enumerate_next_1 _))))
  show wpAny _ _ (field (.ref e) 2 >>= _) _ _ _
  refine wpAny_bind (wpAny_field he rfl (x := .ref it) rfl (wpAny_bind (wpAny_nextOf_tuple_end hh hit hl hx fun h' x he' hx' => ?_)))
  obtain ⟨o, ho, hc⟩ := hx'
  exact wpAny_bind (wpAny_isInstance (T := "StopIteration") (b := true) ⟨o, ho, hc⟩ isSubtype_stop (wpAny_pure (hQ _ he')))
theorem turn_enumT {P : Program} {w : World} {K : PySem.W.Frag} {elts : List Expr} {kk : Nat} {tpos : Pos} (a e it : Addr) :
    Turn P w K (.Tuple elts kk tpos) (IteT K a) [e, it] e (fun i h => (∃ old, IsEnum h e it ((i : Nat) : Int) old) ∧ h.IsTupleIter it a i ∧ e ≠ it ∧ a ≠ it ∧ a ≠ e) where
  mem := List.mem_cons_self
  obj := fun i h st b hb => by
    obtain ⟨⟨old, he⟩, ⟨o, ho, hc, hd⟩, _⟩ := st
    rcases (show b = e ∨ b = it by simpa using hb) with z | z
    · rw [z]; exact ⟨_, he, fun v q => nomatch q⟩
    · rw [z]; exact ⟨o, ho, fun v q => by rw [hd] at q; cases q⟩
  keep := fun i h h' st k => let ⟨⟨old, he⟩, hi, hne⟩ := st; ⟨⟨old, k e (by simp) _ he⟩, hi.at fun o q => k it (by simp) o q, hne⟩
  item := by
    intro X hP hw hK hc i pins s σ H E I hf st hg
    subst hP hw hK
    obtain ⟨⟨old, he⟩, hit, hne, hai, hae⟩ := st
    obtain ⟨xs, x, hq, hx⟩ := hg
    obtain ⟨its, rv, p, hz⟩ := I.tuple hq
    obtain ⟨u, hu, ru⟩ := rv.get hx
    have hel : e < s.heap.objs.size := Heap.lt_size he
    have hil : it < s.heap.objs.size := by obtain ⟨_, q, _⟩ := hit; exact Heap.lt_size q
    have hii : i < its.toArray.size := by
      have := (List.getElem?_eq_some_iff.mp hu).1
      simpa using this
    refine wpAny_pyNext_enum_itemD (Draws.tuple (prog := X.prog) (w := X.w) (A := X.A.in1) (show X.A.in1.handled = none from I.ok.hd hc) it a hai its.toArray) he ⟨hit, p⟩ hii hne (by
      simp only [List.mem_cons, List.not_mem_nil, or_false, not_or]; exact ⟨hne, fun z => hae z.symm⟩) fun y h' tk hy ho hst hT hsz hk => ?_
    have ey : y = u := by
      have e1 : its.toArray[i]? = some u := by simpa using hu
      rw [e1] at hy; exact (Option.some.inj hy).symm
    subst ey
    refine ⟨_, rfl, wpAny_letOwnedTupleGo_enum (s := { s with heap := h', toks := tk + 1 }) ho fun h'' he' sb => ?_⟩
    have hT2 : h''.get? s.heap.objs.size = some { cls := .type "tuple", data := .seq #[.int i tk, y] } := (sb.2 _ (Nat.ne_of_gt hel)).trans hT
    have new : ObjOk X.prog X.w (upd H s.heap.objs.size (.tup [.int (i : Nat), x])) h'' s.heap.objs.size (.tup [.int (i : Nat), x]) :=
      ⟨by show 2 ≤ sizeLine; decide, [.int i tk, y], .cons ⟨_, rfl⟩ (.cons ru .nil), ⟨_, hT2, rfl, _, rfl⟩⟩
    have I1 : Inv X pins σ (upd H s.heap.objs.size (.tup [.int (i : Nat), x])) { s with heap := h'', toks := tk + 1 } :=
      I.turnedNew (ch := [e, it]) (fun b ob hb q => (sb.2 b (fun z => hb (by simp [z]))).trans (hk b ob (fun z => hb (by simp [z])) (fun z => hb (by simp [z])) q)) hf (Nat.le_refl _) new
    refine ⟨.ref s.heap.objs.size, _, I1, rfl, ⟨_, x, rfl, I.hok.fresh (Nat.le_refl _), rfl, fun ys hy => by rw [I.tuple_inj hy hq]; exact hx⟩, ⟨⟨y, ?_⟩, hst.1.at fun o q => (sb.2 it (Ne.symm hne)).trans q, hne, hai, hae⟩, fun b hb => ?_⟩
    · have e1 : ((i + 1 : Nat) : Int) = (i : Int) + 1 := by omega
      rw [e1]; exact he'
    · have hb' : b < s.heap.objs.size := by
        rcases (show b = e ∨ b = it by simpa using hb) with z | z
        · rw [z]; exact hel
        · rw [z]; exact hil
      rw [upd_ne (Nat.ne_of_lt hb')]
      exact (hf b hb).1
  done := by
    intro X hP hw hK hc i pins s σ H E I hf st hg
    subst hP hw hK
    obtain ⟨⟨old, he⟩, hit, hne, hai, hae⟩ := st
    obtain ⟨xs, hq, hx⟩ := hg
    obtain ⟨its, rv, p, hz⟩ := I.tuple hq
    obtain ⟨f0, f1, f2, f3, f4, f5⟩ := hf it (by simp)
    have hl := rv.length
    refine wpAny_pyNext_enum_endT (I.ok.hd hc) he hit p (by simp; omega) fun h' eb => ⟨rfl, I.turned (t' := s.toks) (fun b o hb q => eb b o hb q) f0 f1 f3 f4 f5⟩
  self := fun A i s Q E st h => let ⟨⟨_, he⟩, _⟩ := st; wpAny_pyIter_enum he h
set_option maxHeartbeats 4000000 in
theorem meets_enumT (l : Addr) (items : Array Value) :
    Meets (Builtin.«enumerate.__new__» ⟨[.type "enumerate", .ref l], []⟩) (fun _ R s => s.heap.IsTuple l items ∧
      R (.ok (.ret (.ref (s.heap.push { cls := .type "tuple_iterator", data := .fields #[.ref l, .int 0 0] }).objs.size)))
        { s with heap := (s.heap.push { cls := .type "tuple_iterator", data := .fields #[.ref l, .int 0 0] }).push { cls := .type "enumerate", data := .fields #[.none, .bool false, .ref s.heap.objs.size, rawInt 0, .none, .none] } }) :=
  .of_wp fun prog w A R s h => by
    obtain ⟨hp, g, d, tk, os⟩ := s; obtain ⟨hl, h⟩ := h
    have hsub := sub_enumerate
    have q1 : ∀ {A' : Around} {E : Value → Shared → Prop} {Q : Value → Shared → Prop}, Q (.ref hp.objs.size) ⟨hp.push { cls := .type "tuple_iterator", data := .fields #[.ref l, .int 0 0] }, g, d, tk, os⟩ → wpAny (model prog w) A' (pyIter (.ref l)) Q E ⟨hp, g, d, tk, os⟩ :=
      fun q => wpAny_pyIter_tuple (s := ⟨hp, g, d, tk, os⟩) hl q
    wp_walk using q1
    refine wpAny_stack_any fun st => wpAny_pure ?_
    split
    · rename_i c _ _ _ _ _
      cases (c == Value.type "enumerate")
      · wp_walk using q1
        exact ⟨_, rfl, h⟩
      · wp_walk using q1
        exact ⟨_, rfl, h⟩
    · wp_walk using q1
      exact ⟨_, rfl, h⟩
theorem call_enumT {prog : Program} {w : World} {A : Around} {E : Value → Shared → Prop} {s : Shared} {l : Addr} {items : Array Value} {Q : Value → Shared → Prop} (hL : s.heap.IsTuple l items)
    (h : ∀ h', IsEnum h' (s.heap.objs.size + 1) s.heap.objs.size 0 .none → h'.IsTupleIter s.heap.objs.size l 0 → h'.objs.size = s.heap.objs.size + 2 →
      (∀ b o, s.heap.get? b = some o → h'.get? b = some o) → Q (.ref (s.heap.objs.size + 1)) { s with heap := h' }) :
    wpAny (model prog w) A (call (.type "enumerate") [.ref l]) Q E s := by
  refine callType_new F.called_enumerate (by decide) (F.typeCall_enumerate_1 _) (F.newCall_enumerate_1 _) (fun obj => F.args_object_init_2 obj _) F.entry_enumerate_new (meets_enumT l items) ⟨hL, ?_⟩
  have hz : (s.heap.push { cls := .type "tuple_iterator", data := .fields #[.ref l, .int 0 0] }).objs.size = s.heap.objs.size + 1 := Heap.size_push ..
  show _ ∧ _
  rw [hz]
  have he : IsEnum ((s.heap.push { cls := .type "tuple_iterator", data := .fields #[.ref l, .int 0 0] }).push
      { cls := .type "enumerate", data := .fields #[.none, .bool false, .ref s.heap.objs.size, rawInt 0, .none, .none] }) (s.heap.objs.size + 1) s.heap.objs.size 0 .none := by
    have := Heap.get?_push_size (s.heap.push { cls := .type "tuple_iterator", data := .fields #[.ref l, .int 0 0] })
      (o := { cls := .type "enumerate", data := .fields #[.none, .bool false, .ref s.heap.objs.size, rawInt 0, .none, .none] }) rfl
    rw [hz] at this; exact this
  exact ⟨⟨_, he, rfl⟩, h _ he ⟨_, Heap.get?_push_of_some _ (Heap.get?_push_size _ rfl), rfl, rfl⟩ (by rw [Heap.size_push, hz]) fun b o x => Heap.get?_push_of_some _ (Heap.get?_push_of_some _ x)⟩
def iEnumT (K : PySem.W.Frag) (ta : TA) : TI := fun σ H R => ta σ H fun vs H1 => ∃ a xs, vs = [.ref a] ∧ SqT K H1 a xs ∧ R (IteT K a) H1
theorem pi_enumT {X : Cx} {e : Expr} {ta : TA} {p pos tpos : Pos} {elts : List Expr} {kk : Nat} (hg : Gl X "enumerate") (hm : X.mg "enumerate" = none) (ha : PA X [e] ta) (hs : starEach [e] X.env = [(false, eval e X.env)] := by rfl) :
    PI X (.Tuple elts kk tpos) (.Call (.Name "enumerate" p) [e] [] pos) (iEnumT X.K ta) := by
  refine ⟨fun pins s σ H R I h => ?_⟩
  refine Call_ (ld_blt I hg hm boot_enumerate (PyProof.Rows.callWith_type1 (thn (ha.run pos pins s σ H _ I h) fun us s1 ⟨vs, H1, I1, r1, q1⟩ => ?_) hs rfl))
  obtain ⟨a, xs, ex, hq, q⟩ := q1
  subst ex
  cases r1 with
  | cons r rr =>
    cases rr
    cases r
    obtain ⟨its, rv, p', hz⟩ := I1.tuple hq
    have hal : a < s1.heap.objs.size := by obtain ⟨_, q, _⟩ := p'; exact Heap.lt_size q
    refine call_enumT p' fun h' he hit hsz hk => wpAny_pyIter_enum he ?_
    have I2 : Inv X pins σ H1 { s1 with heap := h' } := I1.kept (t' := s1.toks) hk
    refine ⟨s1.heap.objs.size + 1, [s1.heap.objs.size + 1, s1.heap.objs.size], _, _, H1, rfl, I2, turn_enumT a (s1.heap.objs.size + 1) s1.heap.objs.size, ⟨⟨.none, he⟩, hit, Nat.succ_ne_self _, Nat.ne_of_lt hal, Nat.ne_of_lt (Nat.lt_succ_of_lt hal)⟩, fun b hb => ?_, q⟩
    have hle : s1.heap.objs.size ≤ b := by
      rcases (show b = s1.heap.objs.size + 1 ∨ b = s1.heap.objs.size by simpa using hb) with z | z
      · rw [z]; exact Nat.le_add_right _ _
      · rw [z]; exact Nat.le_refl _
    exact I1.fpOk hle (I1.hok.fresh hle)
theorem walk_enumT {K : PySem.W.Frag} {a : Addr} {xs : List V} : Walk (IteT K a) xs.length (fun H => SqT K H a xs) (YPair (fun i => some (.int (i : Nat))) (fun i => xs[i]?)) := by
  refine ⟨fun i _ hi q => ⟨xs, xs[i], q, by simp [hi]⟩, fun _ q => ⟨xs, q, Nat.le_refl _⟩, fun i H v H' _ q y => ?_⟩
  obtain ⟨T, x, h1, h2, h3, h4⟩ := y
  exact ⟨T, .int (i : Nat), x, h1, h2, h3, rfl, h4 xs q⟩
theorem walk_zipT {K : PySem.W.Frag} {a b : Addr} {xs ys : List V} {n : Nat} (hn : n = min xs.length ys.length) : Walk (RZ.ItzT K a b) n (fun H => SqT K H a xs ∧ SqT K H b ys) (YPair (fun i => xs[i]?) (fun i => ys[i]?)) := by
  subst hn
  refine ⟨fun i _ hi q => ?_, fun _ q => ⟨xs, ys, q.1, q.2, by omega⟩, fun i H v H' _ q y => ?_⟩
  · have h1 : i < xs.length := by omega
    have h2 : i < ys.length := by omega
    exact ⟨xs, ys, xs[i], ys[i], q.1, q.2, by simp [h1], by simp [h2]⟩
  · obtain ⟨T, x, z, h1, h2, h3, h4, h5⟩ := y
    exact ⟨T, x, z, h1, h2, h3, h4 xs q.1, h5 ys q.2⟩
/-! ### xs.extend(t), t a tuple -/
def rExtT : V → List V → Hp → VK → Prop := fun x vs H Q => ∃ l b xs zs, x = .ref l ∧ vs = [.ref b] ∧ H l = some (.lst xs) ∧ H b = some (.tup zs) ∧ xs.length + zs.length ≤ sizeLine ∧ Q .non (upd H l (.lst (xs ++ zs)))
theorem meets_extT (l : Addr) (items : Array Value) (n : Nat) (b : Addr) (items2 : Array Value) (hs0 : ¬(!items.isEmpty && Builtin.List.listTooLong (items.size + items2.size)) = true) (hs1 : items.size ≤ sizeLine) (hs2 : items.size + items2.size ≤ sizeLine + 1) :
    Meets (Builtin.«list.extend» ⟨[.ref l, .ref b], []⟩) (fun _ R s => s.heap.get? l = some { cls := .type "list", dict := none, data := .seq items n, slots := #[] } ∧ s.heap.IsTuple b items2 ∧ R (.ok (.ret Value.none)) { s with heap := s.heap.update l (Obj.mapSeq fun x => x ++ items2), toks := s.toks }) :=
  .of_wp fun prog w A R s h => by
    obtain ⟨hp, g, d, tk, os⟩ := s
    obtain ⟨hl, ⟨⟨c, dct, dt, sl⟩, hb, hc, n2, hd⟩, h⟩ := h
    replace hc : c = .type "tuple" := hc
    replace hd : dt = .seq items2 n2 := hd
    subst hc hd
    have f1 := AutoSeq1.idx_int; have f2 := AutoSeq1.sub_tuple_tuple; have f3 := AutoSeq1.sub_list_list; have f4 := AutoSeq1.sub_tuple_list; have f5 := AutoSeq1.sub_list_tuple
    have hz' : (items ++ items2).size ≤ sizeLine + 1 := by rw [Array.size_append]; exact hs2
    wp_walk using (wpAny_updateSeq hl rfl (hz := hs1) (_hz' := hz')), AutoSeq1.wpAny_loadPart' hl, AutoSeq1.wpAny_loadPart' hb
    exact ⟨_, rfl, h⟩
theorem mt_extT {X : Cx} : MtM X "list.extend" rExtT := by
  intro pins s σ H x vs v us Q I rx rv h
  obtain ⟨l, b, xs, zs, rfl, rfl, hH, hB, hz, q⟩ := h
  cases rx
  obtain ⟨u, rfl, ru⟩ := rv.one
  cases ru
  obtain ⟨z, its, n, r, hl, e⟩ := I.lstM hH
  obtain ⟨_, its2, r2, ⟨ob, h1, h2, n2, h3⟩⟩ := (show ObjOk X.prog X.w H s.heap b (.tup zs) from I.hok b _ hB)
  have hsz : its.toArray.size + its2.toArray.size ≤ sizeLine := by rw [List.size_toArray, List.size_toArray, ← r.length, ← r2.length]; omega
  have hlong : ¬ (!its.toArray.isEmpty && Builtin.List.listTooLong (its.toArray.size + its2.toArray.size)) = true := by
    rw [notLongL hsz, Bool.and_false]
    exact Bool.false_ne_true
  refine call_meets F.slot_list_extend ⟨_, e, rfl⟩ F.entry_list_extend (F.args_list_extend_2 _ _) (meets_extT l its.toArray n b its2.toArray hlong (by omega) (by omega)) ⟨e, ⟨ob, h1, h2, n2, h3⟩, ?_⟩
  refine ⟨.non, _, I.lset (its' := its ++ its2) hH e (by simp) (r.append r2) ?_, rfl, q⟩
  rw [List.length_append]
  omega
end Sx
end
section
set_option maxRecDepth 100000
set_option maxHeartbeats 2000000
/-! {k: e for x in xs}, the keys tuples of texts. -/
namespace Sx
open PySem PySem.Spec PyProof.Rows L2
theorem dictT_put {X : Cx} {pins : List (Addr × Obj)} {σ : L2.St} {H : Hp} {s : Shared} {E : Value → Shared → Prop} {D b : Addr} {kvs : List (List Key × V)} {k : List Key} {v : V} {r : Value} {Q : Unit → Shared → Prop} (hu : X.A.units < cLine) (I : Inv X pins σ H s) (hD : H D = some (.dT kvs)) (hz : kvs.length < sizeLine)
    (eb : H b = some (.tup (k.map kV))) (rv : RelV v r) (h : ∀ s', Inv X pins σ (upd H D (.dT (putK kvs k v))) s' → Q () s') : wpAny (model X.prog X.w) X.A (dictSet D (.ref b) r) Q E s := by
  obtain ⟨z, hd, xs, rel, dd⟩ := dt_of I.hok hD
  have hzv : xs.length ≤ sizeLine := by rw [← Paired.length rel]; exact z
  have hl : (putK kvs k v).length ≤ sizeLine := by have := length_putK kvs k v; omega
  refine wpAny_dictSet_heap (knd := tupleKind (mixKind X.prog X.w)) (hsz := hzv) hu (key_of I.hok eb) dd fun h' dd' hs => h _ ?_
  obtain ⟨q, es, ep, hq, h2, h3, h4, _, h5⟩ := dd'
  refine d_write I (by rw [hD]; exact True.intro) hs ⟨q, hq⟩ ⟨hl, hd, _, (rel.put k eb rv).keeps fun c ys ec => ?_, q, es, ep, hq, h2, h3, h4, h5⟩
  rw [upd_ne (fun z => by rw [z, hD] at ec; cases ec)]
  exact ec
section
variable {X : Cx}
/-- the reading: D the new dict -/
def tDcT (wi : TI) (g : TG) (tt : TT) (tk tv : TE) (vs : List Nat) : TE := fun σ H Q => wi σ H fun J H1 => ∀ D, H1 D = none → ∃ W : Nat → Nat → Hp → Prop, (∃ m, W 0 m (upd H1 D (.dT []))) ∧ ∀ i m H, W i m H →
  (J.stop i H ∧ Q (.ref D) H) ∨ (J.go i H ∧ ∃ Nx : Hp → Prop, (∀ H', Nx H' → ∃ m', m' < m ∧ W (i + 1) m' H') ∧ ∀ x H', J.yld i H x H' → g x (wipe σ vs) H' fun σ2 H2 => wipe σ2 vs = wipe σ vs ∧ tt σ2 H2 fun b H3 =>
    if b = true then tk σ2 H3 fun y H4 => tv σ2 H4 fun z H5 => ∃ kvs k p, y = .ref p ∧ H5 p = some (.tup (List.map kV k)) ∧ H5 D = some (.dT kvs) ∧ kvs.length < sizeLine ∧ Nx (upd H5 D (.dT (putK kvs k z))) else Nx H3)
variable {pins : List (Addr × Obj)} {s : Shared} {σ : L2.St} {H : Hp} {Q : VK} {kx vx tg iter : Expr} {ifs : List Expr} {scope : Scope} {own : List (Str × Nat)} {pos pos' : Pos} {wi : TI} {g : TG} {tt : TT} {tk tv : TE}
theorem dcT_core {use : Option (Value → Sem Unit)} {Qf : Value → Shared → Prop} (hu : X.A.units < cLine) (hc : X.calm = true) (hN : X.N.Nodup) (I : Inv X pins σ H s) (hi : PI X tg iter wi) (ok : BlkOk X.N X.env.scope scope own)
    (hg : ∀ (s : Shared) (H : Hp) (C : Addr) (cl : List (Str × Addr)) (fp : List Addr), PG (X.blk s H scope (compEnvC scope cl C X.env) fp) tg g) (ht : ∀ (s : Shared) (H : Hp) (C : Addr) (cl : List (Str × Addr)) (fp : List Addr), PTs (X.blk s H scope (compEnvC scope cl C X.env) fp) ifs tt)
    (hk : ∀ (s : Shared) (H : Hp) (C : Addr) (cl : List (Str × Addr)) (fp : List Addr), PE (X.blk s H scope (compEnvC scope cl C X.env) fp) kx tk)
    (he : ∀ (s : Shared) (H : Hp) (C : Addr) (cl : List (Str × Addr)) (fp : List Addr), PE (X.blk s H scope (compEnvC scope cl C X.env) fp) vx tv) (hs : ∀ x, foldedSetIterable iter X.env x = pure x) (h : tDcT wi g tt tk tv (own.map (·.2)) σ H Q)
    (hRR : ∀ D C s' m H', Inv X pins σ H' s' → Q (.ref D) H' → s'.heap.Ns C m → FpOk X pins H' C → compPost (model X.prog X.w) X.A X.xe use Qf (.ref D) C (.ok .next) s') :
    wpAny (model X.prog X.w) X.A (comprehension (.DictComp kx vx [⟨tg, iter, ifs, 0⟩] scope pos) scope X.env pos' newDict false (eval iter X.env) use) Qf X.xe s := by
  have hfree : ∀ y ∈ scope.names, y.2 = .free → ∃ c, X.env.cells.lookup y.1 = some c := fun y hy e => by
    rcases ok.free y hy e with k | k
    · exact I.ok.has _ (.inl k)
    · exact I.ok.has _ (.inr k)
  refine wpAny_comprehension_free (use := use) rfl hs (closure_ok hfree) ok.kind (fun y hy e => by rw [ok.uniq y hy, e])
    (thn (hi.run pins s σ H _ I h) fun xv s1 hx => thn hx fun itv s2 h2 => ?_)
  obtain ⟨it, fp, tn, J, H2, e, I2, T, st2, f2, q⟩ := h2
  subst e
  refine wpAny_newObj_type (newEnv_comp ?_)
  generalize hD : s2.heap.objs.size = D
  have hDn : H2 D = none := I2.hok.fresh (Nat.le_of_eq hD)
  obtain ⟨W, ⟨m0, w0⟩, turn⟩ := q D hDn
  -- the new dict
  generalize hs3 : ({ s2 with heap := s2.heap.push { cls := .type "dict", data := .dict #[] } } : Shared) = s3
  have I3 : Inv X pins σ (upd H2 D (.dT [])) s3 := by
    rw [← hs3]
    refine I2.laid (t' := s2.toks) (fun b o e => Heap.get?_push_of_some _ e) (Nat.le_of_eq hD) ?_
    rw [← hD]
    exact dt_empty s2.heap I2.big
  have h3 : s3.heap = s2.heap.push { cls := .type "dict", data := .dict #[] } := by rw [← hs3]
  have sz : ∀ b ∈ fp, b < s2.heap.objs.size := fun b hb => by
    obtain ⟨o, e, _⟩ := T.obj _ _ st2 b hb
    exact Heap.lt_size e
  have f3 : ∀ b ∈ fp, FpOk X pins (upd H2 D (.dT [])) b ∧ b < s3.heap.objs.size := fun b hb => by
    have hlt := sz b hb
    refine ⟨⟨?_, (f2 b hb).2⟩, by rw [h3, Heap.size_push]; exact Nat.lt_succ_of_lt hlt⟩
    rw [upd_ne (by rw [← hD]; exact Nat.ne_of_lt hlt)]
    exact (f2 b hb).1
  have st3 : tn 0 s3.heap := T.keep _ _ _ st2 fun b _ o e => by rw [h3]; exact Heap.get?_push_of_some _ e
  have I4 := block_start I3 ok hN f3
  have pg := hg s3 (upd H2 D (.dT [])) s3.heap.objs.size (cellsFrom (s3.heap.objs.size + 1) scope.names (cloFrom X.env.cells scope.names [])) fp
  have pt := ht s3 (upd H2 D (.dT [])) s3.heap.objs.size (cellsFrom (s3.heap.objs.size + 1) scope.names (cloFrom X.env.cells scope.names [])) fp
  have pk := hk s3 (upd H2 D (.dT [])) s3.heap.objs.size (cellsFrom (s3.heap.objs.size + 1) scope.names (cloFrom X.env.cells scope.names [])) fp
  have pe := he s3 (upd H2 D (.dT [])) s3.heap.objs.size (cellsFrom (s3.heap.objs.size + 1) scope.names (cloFrom X.env.cells scope.names [])) fp
  show codeAny _ _ (.compStart (.DictComp kx vx [⟨tg, iter, ifs, 0⟩] scope pos) 0 (.ref it) (.ref D) (compEnvC scope (cellsFrom (s3.heap.objs.size + 1) scope.names (cloFrom X.env.cells scope.names [])) s3.heap.objs.size X.env)) (compPost (model X.prog X.w) X.A X.xe use Qf (.ref D) s3.heap.objs.size) { s3 with heap := pushCells (s3.heap.push { cls := .type "dict", data := .dict #[] }) scope.names }
  have nfp : ∀ b ∈ fp, (upd H2 D (.dT [])) b = none := fun b hb => (f3 b hb).1.1
  generalize hce : compEnvC scope (cellsFrom (s3.heap.objs.size + 1) scope.names (cloFrom X.env.cells scope.names [])) s3.heap.objs.size X.env = ce at I4 pg pt pk pe ⊢
  have cL : ce.locals = s3.heap.objs.size := by subst hce; rfl
  generalize hH3 : upd H2 D (.dT []) = H3 at I3 I4 pg pt pk pe w0 nfp f3
  generalize hs4 : ({ s3 with heap := pushCells (s3.heap.push { cls := .type "dict", data := .dict #[] }) scope.names } : Shared) = s4 at I4 ⊢
  have st4 : tn 0 s4.heap := T.keep _ _ _ st3 fun b _ o e => by rw [← hs4]; exact pushCells_keeps _ _ _ _ (Heap.get?_push_of_some _ e)
  have stat : ∀ {σ' : L2.St} {H' : Hp} {s' : Shared}, Inv (X.blk s3 H3 scope ce fp) [] σ' H' s' → (∀ b ∈ fp, H' b = none) → ∀ b ∈ fp, FpOk (X.blk s3 H3 scope ce fp) [] H' b := fun {σ' H' s'} I' hn b hb =>
    ⟨hn b hb, (I'.ok.exf b hb).1, I'.ok.exfs b hb, .inl hb, fun x c e => (I'.ok.exf b hb).2 x c e, fun p hp => absurd (show p ∈ ([] : List (Addr × Obj)) ++ [] from hp) (by simp)⟩
  have loop : codeAny (model X.prog X.w) X.A (.compLoop (.DictComp kx vx [⟨tg, iter, ifs, 0⟩] scope pos) 0 (.ref it) (.ref D) ce) (compPost (model X.prog X.w) X.A X.xe use Qf (.ref D) s3.heap.objs.size) s4 := by
    refine compLoop_anyD (fun n s' => ∃ i H', Inv (X.blk s3 H3 scope ce fp) [] (wipe σ (own.map (·.2))) H' s' ∧ tn i s'.heap ∧ (∀ b ∈ fp, H' b = none) ∧ W i n H') ?_ m0 ⟨0, H3, I4, st4, nfp, w0⟩
    rintro n s5 ⟨i, H5, I5, st5, n5, w5⟩
    rcases turn i n H5 w5 with ⟨stop, qq⟩ | ⟨go, Nx, hNx, step⟩
    · have td := T.done (X.blk s3 H3 scope ce fp) rfl rfl rfl hc i [] s5 _ H5 (fun _ _ => False) I5 (stat I5 n5) st5 stop
      refine thnF td fun r s6 ⟨hr, I6⟩ => ?_
      subst hr
      have I7 : Inv X pins σ H5 s6 := I3.call' (ch := fp) I6.os I6.base I6.hok I6.bare fun b hb => ⟨(f3 b hb).1.2.2.2.1, (f3 b hb).1.2.1, (f3 b hb).1.2.2.2.2.1, (f3 b hb).1.2.2.2.2.2⟩
      have nC : H5 s3.heap.objs.size = none := by
        have z : H5 ce.locals = none := I6.free
        rw [cL] at z
        exact z
      obtain ⟨m, hn, _⟩ := I6.loc
      have hn : s6.heap.Ns ce.locals m := hn
      rw [cL] at hn
      exact hRR D s3.heap.objs.size s6 m H5 I7 qq hn (I3.fpOk (Nat.le_refl _) nC)
    · have ti := T.item (X.blk s3 H3 scope ce fp) rfl rfl rfl hc i [] s5 _ H5 (fun _ _ => False) I5 (stat I5 n5) st5 go
      refine thnF ti fun r s6 ⟨u, hr, h6⟩ => ?_
      subst hr
      refine thnF h6 fun _ s7 ⟨x, H7, I7, r7, y7, st7, n7⟩ => ?_
      have I7' := I7.pinned (stat I7 n7) (T.obj _ _ st7)
      refine thnF (pg.run _ s7 _ H7 x u _ I7' r7 (step x H7 y7)) fun _ s8 ⟨σ8, H8, I8, hw8, q8⟩ => ?_
      refine thnF (pt.run _ s8 σ8 H8 _ I8 q8) fun b s9 ⟨H9, I9, q9⟩ => ?_
      have fin : ∀ {s' : Shared} {H' : Hp}, Inv (X.blk s3 H3 scope ce fp) ([] ++ pinsAt fp s7.heap) σ8 H' s' → Nx H' → ∃ m, m < n ∧ ∃ i H', Inv (X.blk s3 H3 scope ce fp) [] (wipe σ (own.map (·.2))) H' s' ∧ tn i s'.heap ∧ (∀ b ∈ fp, H' b = none) ∧ W i m H' := fun {s' H'} I' nx => by
        obtain ⟨m', hm, w'⟩ := hNx H' nx
        have pin' : ∀ b ∈ fp, ∀ o, s7.heap.get? b = some o → s'.heap.get? b = some o ∧ H' b = none := fun b hb o e =>
          let z := I'.pin (b, o) (List.mem_append_right _ (List.mem_append_right _ (mem_pinsAt hb e)))
          ⟨z.1, z.2.1⟩
        have hl : (wipe σ (own.map (·.2))).length = σ8.length := by rw [← hw8, wipe_length]
        refine ⟨m', hm, i + 1, H', (I'.unpinned (pins := [])).weak hl (fun j v e => ?_), T.keep _ _ _ st7 fun b hb o e => (pin' b hb o e).1, fun b hb => ?_, w'⟩
        · rw [← hw8] at e
          exact (wipe_some e).1
        · obtain ⟨o, e, _⟩ := T.obj _ _ st7 b hb
          exact (pin' b hb o e).2
      cases b with
      | false =>
        simp only [Bool.false_eq_true, if_false] at q9 ⊢
        exact fin I9 q9
      | true =>
        simp only [if_true] at q9 ⊢
        refine thnF (pk.run _ s9 σ8 H9 _ I9 q9) fun z s10 ⟨yk, H10, I10, r10, q10⟩ => ?_
        refine thnF (pe.run _ s10 σ8 H10 _ I10 q10) fun z2 s11 ⟨yv, H11, I11, r11, kvs, k, p, ek, hp, hD11, hz11, nx⟩ => ?_
        subst ek
        obtain rfl : z = Value.ref p := r10
        exact dictT_put (X := X.blk s3 H3 scope ce fp) hu I11 hD11 hz11 hp r11 fun s12 I12 => fin I12 nx
  exact codeAny_compStart_dict loop (T.self X.A 0 _ _ _ st4 loop)
theorem pe_dcT (hu : X.A.units < cLine) (hc : X.calm = true) (hN : X.N.Nodup) (hi : PI X tg iter wi) (ok : BlkOk X.N X.env.scope scope own)
    (hg : ∀ (s : Shared) (H : Hp) (C : Addr) (cl : List (Str × Addr)) (fp : List Addr), PG (X.blk s H scope (compEnvC scope cl C X.env) fp) tg g) (ht : ∀ (s : Shared) (H : Hp) (C : Addr) (cl : List (Str × Addr)) (fp : List Addr), PTs (X.blk s H scope (compEnvC scope cl C X.env) fp) ifs tt)
    (hk : ∀ (s : Shared) (H : Hp) (C : Addr) (cl : List (Str × Addr)) (fp : List Addr), PE (X.blk s H scope (compEnvC scope cl C X.env) fp) kx tk)
    (he : ∀ (s : Shared) (H : Hp) (C : Addr) (cl : List (Str × Addr)) (fp : List Addr), PE (X.blk s H scope (compEnvC scope cl C X.env) fp) vx tv) (hs : ∀ x, foldedSetIterable iter X.env x = pure x := by intro _; rfl) :
    PE X (.DictComp kx vx [⟨tg, iter, ifs, 0⟩] scope pos) (tDcT wi g tt tk tv (own.map (·.2))) := by
  refine ⟨fun pins s σ H Q I h => ?_⟩
  rw [arm_eval_DictComp]
  refine dcT_core hu hc hN I hi ok hg ht hk he hs h fun D C s' m H' I' q hn f => ⟨m, hn, fun h'' sb => ?_⟩
  obtain ⟨f0, f1, f2, f3, f4, f5⟩ := f
  exact ⟨.ref D, H', I'.turned (t' := s'.toks) (fun b o hb e => (sb.2 b hb).trans e) f0 f1 f3 f4 f5, rfl, q⟩
/-- y = {..}, where the name is given its value within -/
theorem ps_setDcT {i : Nat} {y : Str} {py spos : Pos} (hu : X.A.units < cLine) (hc : X.calm = true) (hN : X.N.Nodup) (hy : X.N[i]? = some y) (hyl : X.env.scope.names.lookup y = some .local) (hsw : swapsWith (.DictComp kx vx [⟨tg, iter, ifs, 0⟩] scope pos) (some (.Name y py)) spos.line X.env = pure true) (hi : PI X tg iter wi) (ok : BlkOk X.N X.env.scope scope own)
    (hg : ∀ (s : Shared) (H : Hp) (C : Addr) (cl : List (Str × Addr)) (fp : List Addr), PG (X.blk s H scope (compEnvC scope cl C X.env) fp) tg g) (ht : ∀ (s : Shared) (H : Hp) (C : Addr) (cl : List (Str × Addr)) (fp : List Addr), PTs (X.blk s H scope (compEnvC scope cl C X.env) fp) ifs tt)
    (hk : ∀ (s : Shared) (H : Hp) (C : Addr) (cl : List (Str × Addr)) (fp : List Addr), PE (X.blk s H scope (compEnvC scope cl C X.env) fp) kx tk)
    (he : ∀ (s : Shared) (H : Hp) (C : Addr) (cl : List (Str × Addr)) (fp : List Addr), PE (X.blk s H scope (compEnvC scope cl C X.env) fp) vx tv) (hs : ∀ x, foldedSetIterable iter X.env x = pure x := by intro _; rfl) :
    PS X (.Assign [.Name y py] (.DictComp kx vx [⟨tg, iter, ifs, 0⟩] scope pos) spos) (tAsg (tDcT wi g tt tk tv (own.map (·.2))) (gName i)) := by
  refine ⟨fun pins s σ H D I h => ?_⟩
  rw [exec_Assign_Name_used _ _ _ _ hsw]
  refine wpAny_bind (wpAny_standAt (wpAny_bind ?_))
  show wpAny _ X.A (do let _ ← comprehension (.DictComp kx vx [⟨tg, iter, ifs, 0⟩] scope pos) scope X.env (firstIterPos [⟨tg, iter, ifs, 0⟩] pos) newDict false (eval iter X.env) (some (assign (.Name y py) X.env))) _ _ s
  have h : tDcT wi g tt tk tv (own.map (·.2)) σ H (fun x H1 => gName i x σ H1 D.nx) := h
  refine wpAny_bind (thn (dcT_core (Qf := fun _ s' => SP X pins D .next s') hu hc hN I hi ok hg ht hk he hs h fun L C s' m H' I' q hn f => ?_) fun _ s' hq => wpAny_pure (wpAny_pure hq))
  show wpAny _ _ (assign (.Name y py) X.env (.ref L)) _ _ _
  refine wpAny_assign_Name (store_ok2 (v := V.ref L) I' hN hy (.inl hyl) rfl (fun s2 I2 ⟨a, sb, ha⟩ => ?_) (.inr hyl))
  obtain ⟨f0, f1, f2, f3, f4, f5⟩ := f
  have haC : C ≠ a := by
    rcases ha with z | z
    · rw [z]; exact f1
    · exact fun e => f4 y a z e.symm
  refine ⟨m, hn.sameBut sb haC, fun h3 sb3 => ?_⟩
  exact ⟨_, H', I2.turned (t' := s2.toks) (fun b o hb e => (sb3.2 b hb).trans e) f0 f1 f3 f4 f5, q⟩
theorem sw_trueD {gs : List Comprehension} {py : Pos} {y : Str} {l : Nat} {env : PySem.Env} (hk : env.scope.kind = .function) (hy : env.scope.names.lookup y = some .local) (hl : (py.line == pos.line) = true)
    (ha : (scope.names.any fun (n, k) => n == y && (k == .local || k == .cell)) = false) : swapsWith (.DictComp kx vx gs scope pos) (some (.Name y py)) l env = pure true := by
  have ky : env.kindOf y = some .local := hy
  have hb : env.blockKind = .function := by unfold Env.blockKind; rw [hk]; rfl
  unfold swapsWith
  simp only [hb, ky, ha, Expr.pos, hl]
  rfl
/-- over any walk -/
theorem dcT_it {J : It} {n : Nat} {G : Hp → Prop} {Y : Nat → Hp → V → Hp → Prop} (w : Walk J n G Y) {vs : List Nat} {H1 : Hp} {D : Addr} {Qd : Hp → Prop} (Pv : Nat → Hp → Prop) (h0 : Pv 0 (upd H1 D (.dT []))) (hG : ∀ i H, i ≤ n → Pv i H → G H)
    (hs : ∀ i x H H', i < n → Pv i H → Y i H x H' → g x (wipe σ vs) H' fun σ2 H2 => wipe σ2 vs = wipe σ vs ∧ tt σ2 H2 fun b H3 =>
      if b = true then tk σ2 H3 fun y H4 => tv σ2 H4 fun z H5 => ∃ kvs k p, y = .ref p ∧ H5 p = some (.tup (List.map kV k)) ∧ H5 D = some (.dT kvs) ∧ kvs.length < sizeLine ∧ Pv (i + 1) (upd H5 D (.dT (putK kvs k z))) else Pv (i + 1) H3) (hd : ∀ H, Pv n H → Qd H) :
    ∃ W : Nat → Nat → Hp → Prop, (∃ m, W 0 m (upd H1 D (.dT []))) ∧ ∀ i m H, W i m H →
      (J.stop i H ∧ Qd H) ∨ (J.go i H ∧ ∃ Nx : Hp → Prop, (∀ H', Nx H' → ∃ m', m' < m ∧ W (i + 1) m' H') ∧ ∀ x H', J.yld i H x H' → g x (wipe σ vs) H' fun σ2 H2 => wipe σ2 vs = wipe σ vs ∧ tt σ2 H2 fun b H3 =>
        if b = true then tk σ2 H3 fun y H4 => tv σ2 H4 fun z H5 => ∃ kvs k p, y = .ref p ∧ H5 p = some (.tup (List.map kV k)) ∧ H5 D = some (.dT kvs) ∧ kvs.length < sizeLine ∧ Nx (upd H5 D (.dT (putK kvs k z))) else Nx H3) := by
  refine ⟨fun i m H => m = n - i ∧ i ≤ n ∧ Pv i H, ⟨n, rfl, Nat.zero_le _, h0⟩, ?_⟩
  rintro i m H ⟨rfl, hi, p⟩
  have q := hG i H hi p
  by_cases hlt : i < n
  · exact .inr ⟨w.goes i H hlt q, Pv (i + 1), fun H' p' => ⟨n - (i + 1), by omega, rfl, hlt, p'⟩, fun x H' y => hs i x H H' hlt p (w.yields i H x H' hlt q y)⟩
  · have e : i = n := by omega
    subst e
    exact .inl ⟨w.stops H q, hd H p⟩
end
end Sx
end
section
set_option maxRecDepth 100000
set_option maxHeartbeats 2000000
/-! Mirrors: what k10 wants beyond. -/
namespace Dl
open PySem L2 Sx
/-! ### readings of my own -/
def rAscii : V → List V → Hp → VK → Prop := fun x xs H Q => ∃ a, x = .str a ∧ xs = [] ∧ True ∧ Q (.bl (Txt.isascii a)) H
def rAlnum : V → List V → Hp → VK → Prop := fun x xs H Q => ∃ a, x = .str a ∧ xs = [] ∧ True ∧ Q (.bl (Txt.isalnum a)) H
def rLower : V → List V → Hp → VK → Prop := fun x xs H Q => ∃ a, x = .str a ∧ xs = [] ∧ a.length ≤ 5592405 ∧ Q (.str (Txt.lower a)) H
section
variable {X : Cx}
theorem mx_isascii : MtR X "str.isascii" rAscii := mt_isascii
theorem mx_isalnum : MtR X "str.isalnum" rAlnum := mt_isalnum
theorem mx_lower : MtR X "str.lower" rLower := mt_lower
/-- a walk told in one of two ways -/
def iOr (a b : TI) : TI := fun σ H R => a σ H R ∨ b σ H R
theorem pi_or {tg e : Expr} {a b : TI} (h1 : PI X tg e a) (h2 : PI X tg e b) : PI X tg e (iOr a b) := ⟨fun pins s σ H R I h => h.elim (h1.run pins s σ H R I) (h2.run pins s σ H R I)⟩
/-- xs == [] -/
def rEqE : R2 := fun x y H Q => ∃ a b xs, x = .ref a ∧ y = .ref b ∧ H a = some (.lst xs) ∧ H b = some (.lst []) ∧ Q (.bl xs.isEmpty) H
theorem op_eqE (hu : X.A.units < cLine) : OpR X (compareOp .Eq) rEqE := by
  intro pins s σ H x y v u Q I rx ry h
  obtain ⟨a, b, xs, rfl, rfl, ea, eb, q⟩ := h
  obtain rfl : v = Value.ref a := rx
  obtain rfl : u = Value.ref b := ry
  obtain ⟨z, its, n, r, hl, e⟩ := I.lstM ea
  obtain ⟨z2, its2, n2, r2, hl2, e2⟩ := I.lstM eb
  cases r2
  cases xs with
  | nil =>
    cases r
    exact PySem.SeqAt.rcP_lists (e := fun _ => true) (A := X.A) ⟨_, e, rfl, _, rfl⟩ ⟨_, e2, rfl, _, rfl⟩ rfl hu (fun j h1 _ => absurd h1 (Nat.not_lt_zero j)) _ _ ⟨.bl true, H, I, (show Value.bool _ = Value.bool _ from rfl), q⟩
  | cons x xs =>
    have ta : s.TypeIs (.ref a) "list" := ⟨_, e, rfl⟩
    have tb : s.TypeIs (.ref b) "list" := ⟨_, e2, rfl⟩
    refine wpAny_richCompare_same_room (op := .Eq) ta tb F.slot_list_eq (call_meets F.slot_list_eq ta F.entry_list_eq (F.args_list_eq_2 _ _) (AutoSeq1.list___eq___list_list_0 a its.toArray n b (#[] : Array Value) n2 ?_) ⟨e, e2, fun z => (nomatch z), ⟨.bl false, H, I, rfl, q⟩⟩) hu
    cases r with
    | cons r1 rs => rfl
/-- == of dicts that are equal or of another size -/
def rDEq : R2 := fun x y H Q => ∃ a b ks ls, x = .ref a ∧ y = .ref b ∧ H a = some (.dK ks) ∧ H b = some (.dK ls) ∧ (ks.length = ls.length → ∀ p ∈ ks, valV ls p.1 = some p.2 ∧ flatB p.2 = true) ∧ Q (.bl (ks.length == ls.length)) H
def rDNe : R2 := fun x y H Q => ∃ a b ks ls, x = .ref a ∧ y = .ref b ∧ H a = some (.dK ks) ∧ H b = some (.dK ls) ∧ (ks.length = ls.length → ∀ p ∈ ks, valV ls p.1 = some p.2 ∧ flatB p.2 = true) ∧ Q (.bl (!(ks.length == ls.length))) H
theorem op_dEq (hu : X.A.units < cLine) : OpR X (compareOp .Eq) rDEq := by
  intro pins s σ H x y v u Q I rx ry h
  obtain ⟨a, b, ks, ls, rfl, rfl, ea, eb, hp, q⟩ := h
  obtain rfl : v = Value.ref a := rx
  obtain rfl : u = Value.ref b := ry
  obtain ⟨_, ya, va, ra, da⟩ := (show ObjOk X.prog X.w H s.heap a (.dK ks) from I.hok a _ ea)
  obtain ⟨_, yb, vb, rb, db⟩ := (show ObjOk X.prog X.w H s.heap b (.dK ls) from I.hok b _ eb)
  have l1 := Paired.length ra
  have l2 := Paired.length rb
  exact PySem.W.keq_eq (knd := mixKind X.prog X.w) (r := true) ya yb da db hu (fun e => hits_all rb ra (hp (by omega))) (fin_bl I q (by rw [l1, l2, Bool.and_true]))
theorem op_dNe (hu : X.A.units < cLine) : OpR X (compareOp .NotEq) rDNe := by
  intro pins s σ H x y v u Q I rx ry h
  obtain ⟨a, b, ks, ls, rfl, rfl, ea, eb, hp, q⟩ := h
  obtain rfl : v = Value.ref a := rx
  obtain rfl : u = Value.ref b := ry
  obtain ⟨_, ya, va, ra, da⟩ := (show ObjOk X.prog X.w H s.heap a (.dK ks) from I.hok a _ ea)
  obtain ⟨_, yb, vb, rb, db⟩ := (show ObjOk X.prog X.w H s.heap b (.dK ls) from I.hok b _ eb)
  have l1 := Paired.length ra
  have l2 := Paired.length rb
  exact PySem.W.keq_ne (knd := mixKind X.prog X.w) (r := true) ya yb da db hu (fun e => hits_all rb ra (hp (by omega))) (fin_bl I q (by rw [l1, l2, Bool.and_true]))
end
section
variable {F : Fx} {B : Bs} {δ : Env} {μ : Mu} {K : PySem.W.Frag} {P : Program} {w : World} {ta tb tc te td ty tv : TE} {D : Ends} {u : TS} {r r' : R2}
variable {α β γ ρ : Type} {f : α → Know} {g : β → Know}
/-! ### texts -/
theorem x_isascii {m : W Str} (h : Ex F te δ μ m sK) : Ex F (tM0 rAscii te) δ μ (bnd m fun z => ret (Txt.isascii z)) bK := fun G H σ st P hp Q q =>
  h G H σ st _ hp _ fun z v G1 H1 p1 g1 j1 e => ⟨⟨z, e⟩, z, e, rfl, trivial, q _ _ G1 H1 p1 g1 j1 rfl⟩
theorem x_isalnum {m : W Str} (h : Ex F te δ μ m sK) : Ex F (tM0 rAlnum te) δ μ (bnd m fun z => ret (Txt.isalnum z)) bK := fun G H σ st P hp Q q =>
  h G H σ st _ hp _ fun z v G1 H1 p1 g1 j1 e => ⟨⟨z, e⟩, z, e, rfl, trivial, q _ _ G1 H1 p1 g1 j1 rfl⟩
theorem x_lower {m : W Str} (h : Ex F te δ μ m sK) : Ex F (tM0 rLower te) δ μ (bnd m fun z => rgd (z.length ≤ 5592405) (Txt.lower z)) sK := fun G H σ st P hp Q q =>
  h G H σ st _ hp _ fun z v G1 H1 p1 g1 j1 e => ⟨⟨z, e⟩, z, e, rfl, p1.1, q _ _ G1 H1 p1.2 g1 j1 rfl⟩
/-- a op b op c -/
theorem x_chain {ma mb mc : W α} {m1 m2 : α → α → W Bool} (ha : Ex F ta δ μ ma f) (hb : Ex F tb δ μ mb f) (hc : Ex F tc δ μ mc f) (h1 : ∀ x y, Rx F μ r (f x) (f y) (m1 x y) bK) (h2 : ∀ x y, Rx F μ r' (f x) (f y) (m2 x y) bK) :
    Ex F (tChain r r' ta tb tc) δ μ (bnd ma fun x => bnd mb fun y => bnd (m1 x y) fun b => gte b (bnd mc fun z => m2 y z) (ret false)) bK := fun G H σ st P hp Q q =>
  ha G H σ st _ hp _ fun x v G1 H1 p1 g1 j1 v1 => hb G1 H1 σ (st.step g1 j1) _ p1 _ fun y w G2 H2 p2 g2 j2 v2 =>
    h1 x y G2 H2 v w g2.gh j2 ((st.step g1 j1).own.step g2) ((f x).mono g2.gg v1) v2 _ p2 _ fun b v3 G3 H3 p3 g3 j3 e3 => by
      refine ⟨b, e3, ?_⟩
      have st3 := ((st.step g1 j1).step g2 j2).step g3 j3
      cases b with
      | true =>
        refine iteT (hc G3 H3 σ st3 _ p3 _ fun z v4 G4 H4 p4 g4 j4 q4 => ?_)
        exact h2 y z G4 H4 w v4 g4.gh j4 ((st3.step g4 j4).own) ((f y).mono (g3.gg.trans g4.gg) v2) q4 P p4 Q fun c v5 G5 H5 p5 g5 j5 e5 => q c v5 G5 H5 p5 ((((g1.trans g2).trans g3).trans g4).trans g5) j5 e5
      | false => exact iteF (q false _ G3 H3 p3 ((g1.trans g2).trans g3) j3 rfl)
/-! ### walks -/
def enumL (xs : List α) : List (Int × α) := xs.zipIdx.map fun p => (((p.2 : Nat) : Int), p.1)
theorem enumL_len (xs : List α) : (enumL xs).length = xs.length := by unfold enumL; rw [List.length_map, List.length_zipIdx]
theorem enumL_get {xs : List α} {i : Nat} {y : Int × α} (h : (enumL xs)[i]? = some y) : y.1 = (i : Int) ∧ xs[i]? = some y.2 := by
  unfold enumL at h
  rw [List.getElem?_map] at h
  cases e : xs.zipIdx[i]? with
  | none => rw [e] at h; cases h
  | some p =>
    rw [e] at h
    cases h
    rw [List.getElem?_zipIdx] at e
    cases e2 : xs[i]? with
    | none => rw [e2] at e; cases e
    | some x => rw [e2] at e; cases e; exact ⟨by simp, rfl⟩
/-- what a walk in new pairs gives -/
theorem pair_new {K : PySem.W.Frag} {G2 H2 H3 : Hp} {T : Addr} {x y : V} {k1 k2 : Know} {p : α × β} (s : Same G2 H2) (hT : H2 T = none) (h3 : H3 = upd H2 T (.tup [x, y])) (p1 : (f p.1).p x G2) (p2 : (g p.2).p y G2) : ∃ G3, Gr [] G2 H2 G3 H3 ∧ (eP K f g p).p (.ref T) G3 := by
  subst h3
  exact ⟨upd G2 T (.tup [x, y]), Gr.new s hT, T, [x, y], rfl, .inl (.inl upd_same), AllK.mono (same_new (none_sub s hT)) (.cons p1 (.cons p2 .nil))⟩
theorem i_enumR {m : W (List Str)} (h : Ex F te δ μ m eR) : EIx F (iEnumT K (tCons te tNil)) δ μ (bnd m fun xs => ret (enumL xs)) (eP K iK sK) := fun G H σ st P hp R q =>
  h G H σ st _ hp _ fun xs v G1 H1 px g1 j1 pv => by
    obtain ⟨a, vs, rfl, ha, r⟩ := row_tup (K := K) pv
    refine ⟨a, vs, rfl, seqT_mono g1.gh ha, ?_⟩
    have hl := r.length
    rw [List.length_map] at hl
    refine q (enumL xs) _ G1 H1 (fun H => SqT K H a vs) (YPair (fun i => some (.int (i : Nat))) (fun i => vs[i]?)) px g1 j1 (by rw [enumL_len, ← hl]; exact walk_enumT) (fun H2 s => seqT_mono s ha) fun i H2 x H3 G2 y hy s1 s2 yy => ?_
    obtain ⟨T, u, w, rfl, hT, e3, e1, e2⟩ := yy
    cases e1
    obtain ⟨h1, h2⟩ := enumL_get hy
    obtain ⟨k', hk, pk⟩ := r.getV e2
    rw [List.getElem?_map, h2] at hk
    cases hk
    exact pair_new (k1 := iK 0) (k2 := iK 0) s2 hT e3 (by rw [h1]; rfl) ((sK y.2).mono s1 pk)
theorem i_enumL {m : W (List α)} (h : Ex F te δ μ m (eL f)) : EIx F (iEnum K (tCons te tNil)) δ μ (bnd m fun xs => ret (enumL xs)) (eP K iK f) := fun G H σ st P hp R q =>
  h G H σ st _ hp _ fun xs v G1 H1 px g1 j1 pv => by
    obtain ⟨a, vs, rfl, ha, r⟩ := pv
    refine ⟨a, vs, rfl, .inl (.inl (g1.gh _ _ ha)), ?_⟩
    have hl := r.length
    rw [List.length_map] at hl
    refine q (enumL xs) _ G1 H1 (fun H => SqL K H a vs) (YPair (fun i => some (.int (i : Nat))) (fun i => vs[i]?)) px g1 j1 (by rw [enumL_len, ← hl]; exact walk_enum) (fun H2 s => .inl (.inl (s _ _ ha))) fun i H2 x H3 G2 y hy s1 s2 yy => ?_
    obtain ⟨T, u, w, rfl, hT, e3, e1, e2⟩ := yy
    cases e1
    obtain ⟨h1, h2⟩ := enumL_get hy
    obtain ⟨k', hk, pk⟩ := r.getV e2
    rw [List.getElem?_map, h2] at hk
    cases hk
    exact pair_new (k1 := iK 0) (k2 := iK 0) s2 hT e3 (by rw [h1]; rfl) ((f y.2).mono s1 pk)
theorem i_zipR {m n : W (List Str)} (h1 : Ex F ta δ μ m eR) (h2 : Ex F tb δ μ n eR) : EIx F (RZ.iZipA K (tCons ta (tCons tb tNil))) δ μ (bnd m fun x => bnd n fun y => ret (x.zip y)) (eP K sK sK) := fun G H σ st P hp R q =>
  h1 G H σ st _ hp _ fun xs v G1 H1 px g1 j1 pv => h2 G1 H1 σ (st.step g1 j1) _ px _ fun ys u G2 H2 py g2 j2 pu => by
    obtain ⟨a, vs, rfl, ha, r⟩ := row_tup (K := K) ((eR xs).mono g2.gg pv)
    obtain ⟨b, us, rfl, hb, r2⟩ := row_tup (K := K) pu
    refine ⟨a, b, vs, us, rfl, .inr ⟨seqT_mono g2.gh ha, seqT_mono g2.gh hb, ?_⟩⟩
    have hl := r.length
    have hl2 := r2.length
    rw [List.length_map] at hl hl2
    refine q (xs.zip ys) _ G2 H2 (fun H => SqT K H a vs ∧ SqT K H b us) (YPair (fun i => vs[i]?) (fun i => us[i]?)) py (g1.trans g2) j2 (walk_zipT (by rw [List.length_zip, hl, hl2])) (fun H3 s => ⟨seqT_mono s ha, seqT_mono s hb⟩) fun i H3 x H4 G3 y hy s1 s2 yy => ?_
    obtain ⟨T, u, w, rfl, hT, e3, e1, e2⟩ := yy
    have hz := List.getElem?_zip_eq_some.mp hy
    obtain ⟨k1, hk1, p1⟩ := r.getV e1
    obtain ⟨k2, hk2, p2⟩ := r2.getV e2
    rw [List.getElem?_map, hz.1] at hk1
    rw [List.getElem?_map, hz.2] at hk2
    cases hk1
    cases hk2
    exact pair_new (k1 := iK 0) (k2 := iK 0) s2 hT e3 ((sK y.1).mono s1 p1) ((sK y.2).mono s1 p2)
theorem i_revL {m : W (List α)} (h : Ex F te δ μ m (eL f)) : EIx F (RT.iRevA K te) δ μ (bnd m fun xs => ret xs.reverse) f := fun G H σ st P hp R q =>
  h G H σ st _ hp _ fun xs v G1 H1 px g1 j1 pv => by
    obtain ⟨a, vs, rfl, ha, r⟩ := pv
    refine ⟨a, vs, rfl, .inl ⟨.inl (.inl (g1.gh _ _ ha)), ?_⟩⟩
    have hl := r.length
    rw [List.length_map] at hl
    refine q xs.reverse _ G1 H1 (fun H => SqL K H a vs) (fun i H x H' => H' = H ∧ vs[vs.length - 1 - i]? = some x) px g1 j1 (by rw [List.length_reverse, ← hl]; exact walk_rev) (fun H2 s => .inl (.inl (s _ _ ha))) fun i H2 x H3 G2 y hy s1 s2 yy => ?_
    obtain ⟨e, hx⟩ := yy
    subst e
    have hi : i < xs.length := by
      have := (List.getElem?_eq_some_iff.mp hy).1
      rwa [List.length_reverse] at this
    rw [List.getElem?_reverse hi, ← hl] at hy
    obtain ⟨k', hk, pk⟩ := r.getV hx
    rw [List.getElem?_map, hy] at hk
    cases hk
    exact ⟨G2, .refl s2, (f y).mono s1 pk⟩
theorem i_sq {p : Bool × List α} {i : Nat} (h : δ[i]? = some (some (eS K f p))) : EIx F (iOr (iList K (tVar i)) (iTup K (tVar i))) δ μ (ret p.2) f := by
  obtain ⟨b, xs⟩ := p
  cases b with
  | true =>
    have h' : EIx F (iList K (tVar i)) δ μ (ret xs) f := i_list (x_var (f := fun xs : List α => listK (xs.map f)) h)
    exact fun G H σ st P hp R q => .inl (h' G H σ st P hp R q)
  | false =>
    have h' : EIx F (iTup K (tVar i)) δ μ (ret xs) f := i_tup (x_var (f := fun xs : List α => tupK K (xs.map f)) h)
    exact fun G H σ st P hp R q => .inr (h' G H σ st P hp R q)
theorem ei_pure {wi : TI} {xs : List α} (h : EIx F wi δ μ (ret xs) f) : EI F wi δ μ xs.length (fun i => (xs[i]?.map f).getD (iK 0)) := fun G H σ st R q =>
  h G H σ st (fun ys => ys = xs) rfl R fun ys J G' H' Gd Y e g' j' W hGd hY => by
    subst e
    refine q J G' H' Gd Y g' j' W hGd fun i H2 x H3 G2 hi s1 s2 yy => ?_
    have hx : ys[i]? = some ys[i] := List.getElem?_eq_getElem hi
    obtain ⟨G3, g3, p⟩ := hY i H2 x H3 G2 _ hx s1 s2 yy
    exact ⟨G3, g3, by show ((Option.map f ys[i]?).getD (iK 0)).p x G3; rw [hx]; exact p⟩
/-- {x for a in xs for x in T a} -/
theorem x_sc2 {wi wi1 : TI} {gt : TG} {vs : List Nat} {xs : List α} {j : Nat} {T : α → List Str} (dl : α → Env) (hs : EIx F wi δ μ (ret xs) f) (hw : Gw gt vs) (hg : ∀ x, Gk gt (f x) (wipeE δ vs) (dl x))
    (h1 : ∀ x, EIx F wi1 (dl x) μ (ret (T x)) sK) (hj : ∀ x, j < (dl x).length) : Ex F (tSc2 w wi gt tYes wi1 (gName j) tYes (tVar j) vs [j]) δ μ (rgd ((xs.flatMap T).length < 4000) (xs.flatMap T)) (setXK w) := x_g fun hlen => by
  have e : upTo (fun i => (xs[i]?.map T).getD []) xs.length = xs.flatMap T := by
    have : ∀ n, n ≤ xs.length → upTo (fun i => (xs[i]?.map T).getD []) n = (xs.take n).flatMap T := by
      intro n
      induction n with
      | zero => intro _; rfl
      | succ n ih =>
        intro hn
        rw [upTo_succ, ih (by omega), List.take_add_one, List.flatMap_append, List.getElem?_eq_getElem (show n < xs.length by omega)]
        simp
    rw [this _ (Nat.le_refl _), List.take_length]
  have := ek_sc2 (w := w) (F := F) (δ := δ) (μ := μ) (te := tVar j) (wi := wi) (wi1 := wi1) (g := gt) (g1 := gName j) (tt := tYes) (tt1 := tYes) (vs := vs) (vs1 := [j]) (n := xs.length) (kn := fun i => (xs[i]?.map f).getD (iK 0)) (fun i => (xs[i]?.map T).getD []) (ei_pure hs) (by rw [e]; exact hlen) hw fun i hi => by
    have hx : xs[i]? = some xs[i] := List.getElem?_eq_getElem hi
    rw [hx]
    refine ⟨dl xs[i], hg xs[i], et_yes, fun i_1 => (((T xs[i])[i_1]?).map sK).getD (iK 0), ei_pure (h1 xs[i]), gw_name, fun k x hk => ⟨_, gk_name, et_yes, ?_⟩⟩
    have hk : (T xs[i])[k]? = some x := hk
    show Ek F (tVar j) (List.set (wipeE (dl xs[i]) [j]) j (some ((Option.map sK (T xs[i])[k]?).getD (iK 0)))) μ (sK x)
    rw [hk]
    refine ek_var ?_
    rw [List.getElem?_set_self (by
      show j < (wipeE (dl xs[i]) [j]).length
      unfold wipeE wipeE
      rw [List.length_set]; exact hj _)]
    rfl
  rw [e] at this
  exact this
/-! ### dicts whose keys are tuples -/
def eKR (rows : List (List Str)) : Know := ⟨fun v G => ∃ (a : Addr) (kvs : List (List Key × V)), v = .ref a ∧ G a = some (.dT kvs) ∧ ∀ r : List Str, (valV kvs (r.map Sum.inr)).isSome = decide (r ∈ rows), fun s ⟨a, kvs, e, h, q⟩ => ⟨a, kvs, e, s _ _ h, q⟩⟩
theorem inr_map_inj {a b : List Str} (h : a.map (Sum.inr : Str → Key) = b.map Sum.inr) : a = b := inr_inj h
theorem x_dcKR {wi : TI} {i : Nat} {mx : W (List (List Str))} (hs : EIx F wi δ μ mx eR) (hi : i < δ.length) : Ex F (tDcT wi (gName i) tYes (tVar i) (tC (.bl true)) [i]) δ μ (bnd mx fun rows => rgd (rows.length ≤ sizeLine) rows) eKR := fun G H σ st P hp Q q =>
  hs G H σ st _ hp _ fun xs J G1 H1 Gd Y pxs g1 j1 W hGd hY L hL => by
    obtain ⟨hlen, pxs⟩ := pxs
    have st1 := st.step g1 j1
    have nL : L ∉ F.P := F.offP j1 hL
    refine dcT_it W (fun k H2 => ∃ G2 kvs, Gr F.P G1 H1 G2 H2 ∧ F.J G2 H2 ∧ H2 L = some (.dT kvs) ∧ G2 L = none ∧ kvs.length ≤ k ∧ ∀ r : List Str, (valV kvs (r.map Sum.inr)).isSome = decide (r ∈ xs.take k)) ?_ (fun k H2 _ ⟨G2, kvs, g2, _⟩ => hGd H2 (g2.gg.trans g2.gh)) ?_ ?_
    · exact ⟨G1, [], Gr.own g1.gh hL, F.loc nL j1, upd_same, none_sub g1.gh hL, Nat.le_refl _, fun r => by rw [List.take_zero]; exact (decide_eq_false (by simp)).symm⟩
    · rintro k x H2 H3 hk ⟨G2, kvs, g2, j2, hA, hG, hle, hm⟩ y
      have hx : xs[k]? = some xs[k] := List.getElem?_eq_getElem hk
      obtain ⟨G3, g3, p⟩ := hY k H2 x H3 G2 _ hx g2.gg g2.gh y
      have j3 := F.pure g3 j2
      have g3' : Gr F.P G2 H2 G3 H3 := g3.wide fun _ h => nomatch h
      have st3 := (st1.step g2 j2).step g3' j3
      have hA3 : H3 L = some (.dT kvs) := g3'.hh L _ nL hA
      refine gw_name _ _ _ _ (gk_name G3 H3 _ x g3.gh p (st3.env.wipe [i]) _ fun σ2 e2 => ?_)
      obtain ⟨b, rfl, hb⟩ := p
      have hv := e2.get (i := i) (k := eR xs[k]) (by rw [List.getElem?_set_self (by unfold wipeE wipeE; rw [List.length_set]; exact hi)])
      obtain ⟨v, hv, b2, rfl, hb2⟩ := hv
      refine ⟨.ref b2, hv, kvs, xs[k].map Sum.inr, b2, rfl, by rw [key_str]; exact g3.gh _ _ hb2, hA3, by omega, G3, putK kvs (xs[k].map Sum.inr) (.bl true), (g2.trans g3').mut (.inr hL) (g3'.fr L (nn_of hA) hG), F.loc nL j3, upd_same, g3'.fr L (nn_of hA) hG, Nat.le_trans (length_putK _ _ _) (Nat.succ_le_succ hle), fun r => ?_⟩
      rw [valV_put, take_next hx]
      by_cases c : r.map Sum.inr = xs[k].map (Sum.inr : Str → Key)
      · rw [if_pos c, inr_map_inj c, decide_eq_true (List.mem_append_right _ List.mem_cons_self)]; rfl
      · rw [if_neg c, hm]
        have c2 : r ≠ xs[k] := fun z => c (by rw [z])
        exact decide_eq_decide.mpr ⟨fun h => List.mem_append_left _ h, fun h => (List.mem_append.mp h).elim id fun h => absurd (List.mem_singleton.mp h) c2⟩
    · rintro H2 ⟨G2, kvs, g2, j2, hA, hG, hle, hm⟩
      rw [List.take_length] at hm
      have s1 : Same G2 (upd G2 L (.dT kvs)) := same_new hG
      refine q xs (.ref L) _ H2 pxs ((g1.trans g2).freeze (back_none g1 hL) st.sub hA hG) (F.st _ _ _ _ s1 (fun b hb => ⟨rfl, fun z => ?_⟩) j2) ⟨L, kvs, rfl, upd_same, hm⟩
      rw [upd_ne (fun e => nL (by rw [← e]; exact hb))]; exact z
theorem x_inKR {mk : W (List Str)} {md : W (List (List Str))} (hk : Ex F ty δ μ mk eR) (hd : Ex F td δ μ md eKR) : Ex F (tDIn ty td) δ μ (bnd mk fun r => bnd md fun rows => ret (decide (r ∈ rows))) bK := fun G H σ st P hp Q q =>
  hk G H σ st _ hp _ fun k y G1 H1 p1 g1 j1 e => hd G1 H1 σ (st.step g1 j1) _ p1 _ fun rows v G2 H2 p2 g2 j2 ⟨a, kvs, ev, ha, hm⟩ => by
    obtain ⟨b, rfl, hb⟩ := e
    subst ev
    exact ⟨a, _, rfl, .inr ⟨kvs, k.map Sum.inr, b, .inl (g2.gh _ _ ha), rfl, by rw [key_str]; exact g2.gh _ _ (g2.gg _ _ hb), rfl⟩, q _ _ G2 H2 p2 (g1.trans g2) j2 (by show V.bl _ = V.bl _; rw [hm])⟩
theorem x_niKR {mk : W (List Str)} {md : W (List (List Str))} (hk : Ex F ty δ μ mk eR) (hd : Ex F td δ μ md eKR) : Ex F (tDNotIn ty td) δ μ (bnd mk fun r => bnd md fun rows => ret (!decide (r ∈ rows))) bK := fun G H σ st P hp Q q =>
  hk G H σ st _ hp _ fun k y G1 H1 p1 g1 j1 e => hd G1 H1 σ (st.step g1 j1) _ p1 _ fun rows v G2 H2 p2 g2 j2 ⟨a, kvs, ev, ha, hm⟩ => by
    obtain ⟨b, rfl, hb⟩ := e
    subst ev
    exact ⟨a, _, rfl, .inr ⟨kvs, k.map Sum.inr, b, .inl (g2.gh _ _ ha), rfl, by rw [key_str]; exact g2.gh _ _ (g2.gg _ _ hb), rfl⟩, q _ _ G2 H2 p2 (g1.trans g2) j2 (by show V.bl _ = V.bl _; rw [hm])⟩
/-! ### == -/
theorem r_eqE {xs ys : List α} (h : ys = []) : Rx F μ rEqE (eL f xs) (eL f ys) (ret xs.isEmpty) bK := fun G H x y s j o p1 p2 P hp Q q => by
  subst h
  obtain ⟨a, vs, rfl, ha, rr⟩ := p1
  obtain ⟨b, us, rfl, hb, r2⟩ := p2
  cases r2
  refine ⟨a, b, vs, rfl, rfl, s _ _ ha, s _ _ hb, q _ _ G H hp (.refl s) j ?_⟩
  show V.bl _ = V.bl _
  cases xs with
  | nil => cases rr; rfl
  | cons x xs => cases rr; rfl
theorem x_eqE {m : W (List α)} (h : Ex F te δ μ m (eL f)) : Ex F (tOp rEqE te (tLst tNil)) δ μ (bnd m fun xs => ret xs.isEmpty) bK := fun G H σ st P hp Q q =>
  h G H σ st _ hp _ fun xs x G1 H1 p1 g1 j1 v1 => (n_eL (n_nil (f := f))) G1 H1 σ (st.step g1 j1) (fun ys => ys = [] ∧ P xs.isEmpty) ⟨rfl, p1⟩ _ fun ys y G2 H2 p2 g2 j2 v2 => by
    obtain ⟨e, p2⟩ := p2
    subst e
    exact r_eqE (f := f) (xs := xs) rfl G2 H2 x y g2.gh j2 ((st.step g1 j1).own.step g2) ((eL f xs).mono g2.gg v1) v2 P p2 Q fun b v G3 H3 p3 g3 j3 pv => q b v G3 H3 p3 ((g1.trans g2).trans g3) j3 pv
def dEqG (d e : List (Str × Str)) : W Bool := rgd (d.length = e.length → ∀ p ∈ d, dGet e p.1 = some p.2) (decide (d.length = e.length))
def dNeG (d e : List (Str × Str)) : W Bool := rgd (d.length = e.length → ∀ p ∈ d, dGet e p.1 = some p.2) (!decide (d.length = e.length))
theorem prD_mem {G : Hp} {d : List (Str × α)} {ks : List (Key × V)} (h : PrD f G ks d) : ∀ p ∈ ks, ∃ q ∈ d, p.1 = Sum.inr q.1 ∧ (f q.2).p p.2 G := by
  unfold PrD at h
  induction h with
  | nil => intro p hp; cases hp
  | cons a b ih =>
    intro p hp
    rcases List.mem_cons.mp hp with e | hp
    · subst e; exact ⟨_, List.mem_cons_self, a⟩
    · obtain ⟨q, hq, r⟩ := ih p hp
      exact ⟨q, List.mem_cons_of_mem _ hq, r⟩
theorem dEq_hyp {G : Hp} {d e : List (Str × Str)} {ks ls : List (Key × V)} (h1 : PrD sK G ks d) (h2 : PrD sK G ls e) (h : d.length = e.length → ∀ p ∈ d, dGet e p.1 = some p.2) : ks.length = ls.length → ∀ p ∈ ks, valV ls p.1 = some p.2 ∧ flatB p.2 = true := fun hl p hp => by
  rw [h1.length, h2.length] at hl
  obtain ⟨q, hq, z1, z2⟩ := prD_mem h1 p hp
  have z2 : p.2 = .str q.2 := z2
  have hd := h hl q hq
  rcases h2.get q.1 with ⟨c, _⟩ | ⟨x, v, c1, c2, pv⟩
  · rw [c] at hd; cases hd
  · rw [c1] at hd
    cases hd
    have pv : v = .str q.2 := pv
    rw [z1, c2, pv, z2]
    exact ⟨rfl, rfl⟩
theorem r_dEq {d e : List (Str × Str)} : Rx F μ rDEq (eD sK d) (eD sK e) (dEqG d e) bK := fun G H x y s j o ⟨a, ks, e1, ha, p1⟩ ⟨b, ls, e2, hb, p2⟩ P ⟨hh, hp⟩ Q q => by
  refine ⟨a, b, ks, ls, e1, e2, s _ _ ha, s _ _ hb, dEq_hyp p1 p2 hh, q _ _ G H hp (.refl s) j ?_⟩
  show V.bl _ = V.bl _
  rw [p1.length, p2.length]; rfl
theorem r_dNe {d e : List (Str × Str)} : Rx F μ rDNe (eD sK d) (eD sK e) (dNeG d e) bK := fun G H x y s j o ⟨a, ks, e1, ha, p1⟩ ⟨b, ls, e2, hb, p2⟩ P ⟨hh, hp⟩ Q q => by
  refine ⟨a, b, ks, ls, e1, e2, s _ _ ha, s _ _ hb, dEq_hyp p1 p2 hh, q _ _ G H hp (.refl s) j ?_⟩
  show V.bl _ = V.bl _
  rw [p1.length, p2.length]; rfl
/-! ### statements -/
def extG (xs ys : List α) : W (List α) := rgd (xs.length + ys.length ≤ sizeLine) (xs ++ ys)
theorem w_extR {a : Addr} {xs : List Str} {mv : W (List Str)} {g : List Str → W ρ} {P : ρ → Prop} (i : Nat) (hi : μ[i]? = some (a, .lst (xs.map sK))) (hm : bnd mv (fun x => bnd (extG xs x) g) P) (hd : Ex F td δ μ (ret ()) fun _ => valK (.ref a)) (hv : Ex F tv δ μ mv eR)
    (q : ∀ ys, g ys P → To F B δ (μ.set i (a, .lst (ys.map sK))) D.nx) : Tr F B δ μ (tDrop (tBM K "list" rExtT td (tCons tv tNil))) D := fun σ H ⟨G, z⟩ =>
  hd G H σ z.st (fun _ => bnd mv (fun x => bnd (extG xs x) g) P) hm _ fun _ w G1 H1 p1 g1 j1 e => by
    have e : w = .ref a := e
    subst e
    have z1 := z.step g1 j1
    obtain ⟨_, _, o, ho, vs, e, r⟩ := z1.st.own.has a _ (List.mem_of_getElem? hi)
    subst e
    refine ⟨.inl ⟨rfl, vs, .inl (.inl ho)⟩, ?_⟩
    refine hv G1 H1 σ z1.st _ p1 _ fun x y G2 H2 ⟨hl, p2⟩ g2 j2 pv => ?_
    have z2 := z1.step g2 j2
    obtain ⟨_, _, o, ho, vs, e, r⟩ := z2.st.own.has a _ (List.mem_of_getElem? hi)
    subst e
    obtain ⟨b, rfl, hb⟩ := pv
    refine ⟨a, b, vs, _, rfl, rfl, ho, g2.gh _ _ hb, by rw [r.length, List.length_map, List.length_map]; exact hl, ?_⟩
    refine q _ p2 _ _ ⟨G2, z2.put i (by rw [hi]; rfl) ⟨_, rfl, ?_⟩⟩
    rw [List.map_append]; exact r.app (allK_of_val x)
theorem v_extR {a : Addr} {xs : List Str} {mv : W (List Str)} {g : List Str → W ρ} {P : ρ → Prop} (i : Nat) (hi : μ[i]? = some (a, .lst (xs.map sK))) (hm : bnd mv (fun x => bnd (extG xs x) g) P) (hd : Ex F td δ μ (ret ()) fun _ => valK (.ref a)) (hv : Ex F tv δ μ mv eR)
    (q : ∀ ys, g ys P → Tr F B δ (μ.set i (a, .lst (ys.map sK))) u D) : Tr F B δ μ (tSeq (tDrop (tBM K "list" rExtT td (tCons tv tNil))) u) D := w_extR (D := { D with nx := u D }) i hi hm hd hv q
/-- x = xs.pop() -/
def popW (xs : List α) : W (α × List α) := fun Q => ∃ x ys, xs = ys ++ [x] ∧ Q (x, ys)
theorem w_pop {a : Addr} {xs : List α} {g : α × List α → W ρ} {P : ρ → Prop} {j : Nat} (i : Nat) (hi : μ[i]? = some (a, .lst (xs.map f))) (hm : bnd (popW xs) g P) (hd : Ex F td δ μ (ret ()) fun _ => valK (.ref a))
    (q : ∀ z, g z P → To F B (δ.set j (some (f z.1))) (μ.set i (a, .lst (z.2.map f))) D.nx) : Tr F B δ μ (tAsg (tBM K "list" rPop td tNil) (gName j)) D := fun σ H ⟨G, z⟩ =>
  hd G H σ z.st (fun _ => bnd (popW xs) g P) hm _ fun _ w G1 H1 p1 g1 j1 e => by
    have e : w = .ref a := e
    subst e
    have z1 := z.step g1 j1
    obtain ⟨_, _, o, ho, vs, e, r⟩ := z1.st.own.has a _ (List.mem_of_getElem? hi)
    subst e
    refine ⟨.inl ⟨rfl, vs, .inl (.inl ho)⟩, ?_⟩
    obtain ⟨x, ys, exs, p1⟩ := p1
    subst exs
    rw [List.map_append] at r
    have hlen : vs.length = ys.length + 1 := by rw [r.length]; simp
    obtain ⟨v, hv, pv⟩ := r.get (i := ys.length) (k := f x) (by rw [List.getElem?_append_right (by simp)]; simp)
    refine ⟨a, vs, v, rfl, rfl, ho, by rw [hlen]; exact hv, ?_⟩
    have ed : vs.dropLast = vs.take ys.length := by rw [List.dropLast_eq_take, hlen]; rfl
    have rt := r.take ys.length
    rw [show (ys.map f ++ [x].map f).take ys.length = ys.map f by rw [List.take_append_of_le_length (by rw [List.length_map]; exact Nat.le_refl _), List.take_of_length_le (by rw [List.length_map]; exact Nat.le_refl _)]] at rt
    exact q (x, ys) p1 _ _ ⟨G1, (z1.put (m := .lst (ys.map f)) (o := .lst vs.dropLast) i (by rw [hi]; rfl) ⟨_, rfl, by rw [ed]; exact rt⟩).setS j pv⟩
theorem v_pop {a : Addr} {xs : List α} {g : α × List α → W ρ} {P : ρ → Prop} {j : Nat} (i : Nat) (hi : μ[i]? = some (a, .lst (xs.map f))) (hm : bnd (popW xs) g P) (hd : Ex F td δ μ (ret ()) fun _ => valK (.ref a))
    (q : ∀ z, g z P → Tr F B (δ.set j (some (f z.1))) (μ.set i (a, .lst (z.2.map f))) u D) : Tr F B δ μ (tSeq (tAsg (tBM K "list" rPop td tNil) (gName j)) u) D := w_pop (D := { D with nx := u D }) i hi hm hd q
/-- while xs, xs one's own -/
theorem t_ownL {a : Addr} {xs : List α} (hi : (a, MO.lst (xs.map f)) ∈ μ) (hd : Ex F td δ μ (ret ()) fun _ => valK (.ref a)) : Et F (tTru K td) δ μ (ret (!xs.isEmpty)) := fun G H σ st P hp Q q =>
  hd G H σ st (fun _ => P (!xs.isEmpty)) hp _ fun _ w G1 H1 p1 g1 j1 e => by
    have e : w = .ref a := e
    subst e
    obtain ⟨_, _, o, ho, vs, e, r⟩ := (st.step g1 j1).own.has a _ hi
    subst e
    refine ⟨!xs.isEmpty, .inl ⟨vs, .inl (.inl ho), ?_⟩, q _ G1 H1 p1 g1 j1⟩
    cases xs with
    | nil => cases r; rfl
    | cons x xs => cases r; rfl
theorem w_aug {i : Nat} {a : Int} {m : W Int} {g : Int → W ρ} {P : ρ → Prop} (hx : δ[i]? = some (some (iK a))) (hm : bnd m (fun b => g (a + b)) P) (h : Ex F te δ μ m iK) (q : ∀ c, g c P → To F B (δ.set i (some (iK c))) μ D.nx) : Tr F B δ μ (tAug i te (ipI fun i j => i + j)) D := fun σ H ⟨G, z⟩ => by
  obtain ⟨v, hv, e⟩ := z.st.env.get hx
  have e : v = .int a := e
  subst e
  refine ⟨.int a, hv, h G H σ z.st _ hm _ fun b y G1 H1 pb g1 j1 e1 => ?_⟩
  have e1 : y = .int b := e1
  subst e1
  exact ⟨a, b, rfl, rfl, q _ pb _ _ ⟨G1, (z.step g1 j1).setS i rfl⟩⟩
theorem v_aug {i : Nat} {a : Int} {m : W Int} {g : Int → W ρ} {P : ρ → Prop} (hx : δ[i]? = some (some (iK a))) (hm : bnd m (fun b => g (a + b)) P) (h : Ex F te δ μ m iK) (q : ∀ c, g c P → Tr F B (δ.set i (some (iK c))) μ u D) : Tr F B δ μ (tSeq (tAug i te (ipI fun i j => i + j)) u) D := w_aug (D := { D with nx := u D }) hx hm h q
/-- all(xs) -/
theorem c_all {bs : List Bool} : Cx1 F μ (rAll K) [eL bK bs] (ret (bs.all id)) bK := fun G H vs s j o p P hp Q q => by
  obtain ⟨v, rfl, a, ws, rfl, ha, r⟩ := allK1 p
  have e := allK_val (f := V.bl) r
  subst e
  exact ⟨a, bs, rfl, .inl (.inl (s _ _ ha)), q _ _ G H hp (.refl s) j rfl⟩
/-- e if x is None else x -/
def orElseW (o : Option α) (m : W α) : W α := match o with
  | none => m
  | some x => ret x
theorem x_ifN {i : Nat} {o : Option α} {m : W α} (hf : OffN f) (hx : δ[i]? = some (some (eO f o))) (h : Ex F ta δ μ m f) : Ex F (tIf (tTest (tOp rIsNon (tVar i) (tC .non))) ta (tVar i)) δ μ (orElseW o m) f := fun G H σ st P hp Q q => by
  obtain ⟨v, hv, e⟩ := st.env.get hx
  cases o with
  | none =>
    have e : v = .non := e
    subst e
    refine ⟨.non, hv, rfl, true, rfl, ?_⟩
    exact iteT (h G H σ st P hp Q q)
  | some x =>
    have n := hf x v G e
    refine ⟨v, hv, rfl, false, by rw [decide_eq_false n], ?_⟩
    exact iteF ⟨v, hv, q x v G H hp (.refl st.sub) st.j e⟩
theorem off_eD : OffN (eD f) := fun x v G ⟨a, _, e, _⟩ z => by rw [e] at z; cases z
end
end Dl
end
section
set_option maxRecDepth 100000
set_option maxHeartbeats 4000000
/-! The drawing pool: _law_pool, _law_pick, _law_one_of. -/
namespace Dl
open PySem L2 Sx
structure ScIn where
  ns : List Int
  h : ns.length ≤ 63
def sp_law_pool (K : PySem.W.Frag) : Sp := spF (ι := ScIn) (fun _ => F0) (fun x => [seqK K (x.ns.map iK)]) (fun _ H v G' H' => ∃ pl : Pl, v = .ref pl.p ∧ H pl.l = none ∧ H pl.t = none ∧ PoolJ pl G' H')
def Drawn (many r : Int) : Prop := 0 ≤ r ∧ (r < many ∨ (many < 2 ∧ r = 0))
def drawK (many : Int) : Know := exK fun r : {r : Int // Drawn many r} => iK r.1
structure PkIn where
  pl : Pl
  many : Int
  h : many ≤ 1000000
def sp_law_pick (K : PySem.W.Frag) : Sp := spF (ι := PkIn) (fun x => FP x.pl) (fun x => [poolK x.pl, iK x.many]) (fun x => pK (drawK x.many))
inductive Things where
  | lst (ks : List Know)
  | txt (z : Str)
def Things.kn : Things → Know
  | .lst ks => listK ks
  | .txt z => sK z
def Things.len : Things → Nat
  | .lst ks => ks.length
  | .txt z => z.length
def Things.at_ : (x : Things) → Fin x.len → Know
  | .lst ks, i => ks.get i
  | .txt z, i => sK ⟨#[z.cps[i.1]'i.2]⟩
structure OneIn where
  pl : Pl
  th : Things
  h0 : 0 < th.len
  h1 : th.len ≤ 1000000
def sp_law_one_of (K : PySem.W.Frag) : Sp := spF (ι := OneIn) (fun x => FP x.pl) (fun x => [poolK x.pl, x.th.kn]) (fun x => pK (exK fun i : Fin x.th.len => x.th.at_ i))

def t_law_pool (K : PySem.W.Frag) : TS :=
    (tSeq (tAsg (tLc (iList K (tSl (rSlL K) (tVar 0) tNoPart (tPart (tC (.int 63))))) (gName 2) tYes (tOp (rI (fun _ j => 0 < j) fun i j => .int (i % j)) (tCB rInt (tCons (tCB rAbs (tCons (tVar 2) tNil)) tNil)) (tOp (rI CPow fun i j => .int (i * 2 ^ j.toNat)) (tC (.int 1)) (tC (.int 6000)))) [2]) (gName 1))
    (tSeq (tIfS (tTest (tOp (rEqD K) (tVar 1) (tLst tNil))) (tAsg (tLst (tCons (tC (.int 0)) tNil)) (gName 1)) tNext)
    (tRet (tLst (tCons (tVar 1) (tCons (tCB (rListQ K) (tCons (tVar 1) tNil)) (tCons (tLst (tCons (tC (.int 0)) tNil)) tNil)))))))
def t_law_pick (K : PySem.W.Frag) : TS :=
    (tSeq (tIfS (tTest (tOp (rI0 fun i j => .bl (decide (i < j))) (tVar 1) (tC (.int 2)))) (tRet (tC (.int 0))) tNext)
    (tSeq (tAsg (tCB rInt (tCons (tOp (rIxL K) (tOp (rIxL K) (tVar 0) (tC (.int 2))) (tC (.int 0))) tNil)) (gName 2))
    (tSeq (tAsg (tOp (rI0 fun i j => .int (i + j)) (tVar 2) (tC (.int 1))) (gSub (tOp (rIxL K) (tVar 0) (tC (.int 2))) (tC (.int 0)) rSetL))
    (tSeq (tAsg (tOp (rI (fun _ j => 0 < j) fun i j => .int (i % j)) (tCB rInt (tCons (tVar 2) tNil)) (tCB (rLenQ K) (tCons (tOp (rIxL K) (tVar 0) (tC (.int 0))) tNil))) (gName 3))
    (tSeq (tAsg (tCB rInt (tCons (tOp (rIxL K) (tOp (rIxL K) (tVar 0) (tC (.int 0))) (tVar 3)) tNil)) (gName 4))
    (tSeq (tAsg (tCB rInt (tCons (tOp (rIxL K) (tOp (rIxL K) (tVar 0) (tC (.int 1))) (tVar 3)) tNil)) (gName 5))
    (tSeq (tIfS (tAnd (tTest (tOp (rI0 fun i j => .bl (decide (j ≤ i))) (tVar 4) (tOp (rI CPow fun i j => .int (i ^ j.toNat)) (tC (.int 10)) (tC (.int 18))))) (tTest (tOp (rI0 fun i j => .bl (decide (j < i))) (tVar 5) (tC (.int 0))))) (tSeq (tAsg (tOp (rI CDiv fun i j => .int (i / j)) (tVar 5) (tVar 1)) (gSub (tOp (rIxL K) (tVar 0) (tC (.int 1))) (tVar 3) rSetL))
      (tRet (tOp (rI (fun _ j => 0 < j) fun i j => .int (i % j)) (tCB rInt (tCons (tVar 5) tNil)) (tVar 1)))) tNext)
    (tSeq (tAsg (tOp (rI (fun _ j => 0 < j) fun i j => .int (i % j)) (tCB rInt (tCons (tOp (rI0 fun i j => .int (i + j)) (tOp (rI0 fun i j => .int (i + j)) (tOp (rI CMul fun i j => .int (i * j)) (tOp (rI (fun _ j => 0 < j) fun i j => .int (i % j)) (tCB rInt (tCons (tVar 4) tNil)) (tC (.int 1000003))) (tC (.int 7919))) (tOp (rI CMul fun i j => .int (i * j)) (tVar 2) (tC (.int 104729)))) (tC (.int 12345))) tNil)) (tC (.int 1000003))) (gName 6))
    (tSeq (tAsg (tOp (rI (fun _ j => 0 < j) fun i j => .int (i % j)) (tCB rInt (tCons (tOp (rI0 fun i j => .int (i + j)) (tOp (rI0 fun i j => .int (i + j)) (tOp (rI CMul fun i j => .int (i * j)) (tVar 6) (tVar 6)) (tOp (rI (fun _ j => 0 < j) fun i j => .int (i % j)) (tOp (rI CDiv fun i j => .int (i / j)) (tCB rInt (tCons (tVar 4) tNil)) (tC (.int 1000003))) (tC (.int 1000003)))) (tVar 2)) tNil)) (tC (.int 998244353))) (gName 7))
    (tRet (tOp (rI (fun _ j => 0 < j) fun i j => .int (i % j)) (tOp (rI CDiv fun i j => .int (i / j)) (tOp (rI (fun _ j => 0 < j) fun i j => .int (i % j)) (tCB rInt (tCons (tOp (rI0 fun i j => .int (i + j)) (tOp (rI0 fun i j => .int (i + j)) (tOp (rI CMul fun i j => .int (i * j)) (tVar 7) (tVar 7)) (tOp (rI CMul fun i j => .int (i * j)) (tC (.int 3)) (tVar 2))) (tC (.int 1))) tNil)) (tC (.int 1000000007))) (tC (.int 97))) (tVar 1))))))))))))
def t_law_one_of (K : PySem.W.Frag) : TS :=
    (tRet (tOp (rIx K) (tVar 1) (tCall (sp_law_pick K) [] E0 (tCons (tVar 0) (tCons (tCB (rLenV K) (tCons (tVar 1) tNil)) tNil)))))
local macro_rules | `(tactic| k_extra "mod") => `(tactic| first | (show (0 : Int) < _; decide) | (show (0 : Int) < _; omega) | assumption)
local macro_rules | `(tactic| k_extra "mul") => `(tactic| (show CMul _ _; first | exact .inr ⟨by decide, by decide⟩ | exact .inl ⟨by decide, by decide⟩ | exact .inr ⟨by omega, by omega⟩ | exact .inl ⟨by omega, by omega⟩))
local macro_rules | `(tactic| k_extra "side") => `(tactic| first | k_extra "mod" | k_extra "mul" | (show CDiv _ _; exact ⟨by first | decide | omega, by first | decide | omega⟩) | (show CPow _ _; exact ⟨by decide, by decide, by decide⟩))
local macro_rules | `(tactic| k_extra "rk") => `(tactic| first
  | (with_reducible exact rk_I0)
  | ((with_reducible apply rk_I); k_extra "side")
  | ((with_reducible apply rk_eq); exact rfl)
  | ((with_reducible apply rk_ne); exact rfl))
local macro_rules | `(tactic| k_extra "cr") => `(tactic| first
  | (with_reducible exact cr_int1) | (with_reducible exact cr_abs1) | ((with_reducible apply cr_len); first | exact rd_list | exact rd_at) | ((with_reducible apply cr_lenS); decide))
local macro_rules | `(tactic| k_extra "ev") => `(tactic| first
  | (with_reducible exact ek_c)
  | ((with_reducible apply ek_var); exact rfl)
  | ((with_reducible apply ek_op); k_extra "ev"; k_extra "ev"; k_extra "rk")
  | ((with_reducible apply ek_cb); (with_reducible apply ea_cons); k_extra "ev"; (with_reducible exact ea_nil); k_extra "cr"))
section
variable {K : PySem.W.Frag}
theorem toNat_lt {h : Int} {n : Nat} (h0 : 0 ≤ h) (h1 : h < n) : h.toNat < n := by omega
theorem drawn_mod {many x : Int} (h : ¬ many < 2) : Drawn many (x % many) := ⟨Int.emod_nonneg _ (by omega), .inl (Int.emod_lt_of_pos _ (by omega))⟩
section
variable {F : Fx} {δ : Env} {μ : Mu} {pl : Pl} {cs : List Int} {i : Nat} (h : δ[i]? = some (some (poolOpen cs pl)))
include h
theorem ek_p0 : Ek F (tOp (rIxL K) (tVar i) (tC (.int 0))) δ μ (atK pl.c (intsK cs)) := ek_op (ek_var h) ek_c (rk_ixL (ks := [atK pl.c (intsK cs), valK (.ref pl.l), valK (.ref pl.t)]) (j := 0) (rd_at (a := pl.p)) rfl rfl)
theorem ek_p1 : Ek F (tOp (rIxL K) (tVar i) (tC (.int 1))) δ μ (valK (.ref pl.l)) := ek_op (ek_var h) ek_c (rk_ixL (ks := [atK pl.c (intsK cs), valK (.ref pl.l), valK (.ref pl.t)]) (j := 1) (rd_at (a := pl.p)) rfl rfl)
theorem ek_p2 : Ek F (tOp (rIxL K) (tVar i) (tC (.int 2))) δ μ (valK (.ref pl.t)) := ek_op (ek_var h) ek_c (rk_ixL (ks := [atK pl.c (intsK cs), valK (.ref pl.l), valK (.ref pl.t)]) (j := 2) (rd_at (a := pl.p)) rfl rfl)
end
theorem set_iK (ls : List Int) (j : Nat) (x : Int) : (ls.map iK).set j (iK x) = (ls.set j x).map iK := by rw [List.map_set]
theorem pool_set {cs ls : List Int} {k : Int} (h : PoolIs cs ls k) {j : Nat} {x : Int} (hx : 0 ≤ x) : PoolIs cs (ls.set j x) (k + 1) :=
  ⟨h.n0, by rw [List.length_set]; exact h.ln, h.c0, fun y hy => by
    rcases List.mem_or_eq_of_mem_set hy with hy | e
    · exact h.l0 y hy
    · rw [e]; exact hx, by have := h.k0; omega⟩
theorem pool_step {cs ls : List Int} {k : Int} (h : PoolIs cs ls k) : PoolIs cs ls (k + 1) := ⟨h.n0, h.ln, h.c0, h.l0, by have := h.k0; omega⟩
def bndK (m : Int) : Know := exK fun i : {i : Int // 0 ≤ i ∧ i < m} => iK i.1
theorem to_bnd {F : Fx} {δ : Env} {μ : Mu} {te : TE} {i m : Int} (h : Ek F te δ μ (iK i)) (hb : 0 ≤ i ∧ i < m) : Ek F te δ μ (bndK m) := ek_weak h fun v G p => ⟨⟨i, hb⟩, p⟩
theorem r_law_pick (pl : Pl) (many : Int) (hmany : many ≤ 1000000) (G0 H0 : Hp) (Q : VK) (hR : Rt (FP pl) ⟨(FP pl).P, G0, H0⟩ (pK (drawK many) H0) Q) :
    Tr (FP pl) ⟨(FP pl).P, G0, H0⟩ (env0 [poolK pl, iK many] 6) [] (t_law_pick K) { nx := fun _ H' => Q .non H', rt := Q } := by
  unfold t_law_pick
  refine q_when (et_test (by k_extra "ev")) (fun h => ?_) (fun h => ?_)
  · have h' : many < 2 := of_decide_eq_true h.symm
    exact s_ret hR ek_c fun v G H p => ⟨⟨0, Int.le_refl 0, .inr ⟨h', rfl⟩⟩, p⟩
  · have h' : ¬ many < 2 := of_decide_eq_false h.symm
    refine to_poolOpen (i := 0) rfl fun cs ls k hp => ?_
    have hR' := rt_poolOpen hR
    have c0 := hp.n0
    have ll := hp.ln
    have k0 := hp.k0
    -- at = int(pool[2][0])
    refine q_asg (k := iK k) (ek_cb (ea_cons (ek_op (ek_p2 (pl := pl) (cs := cs) rfl) ek_c (rk_ixL (ks := [iK k]) (i := 0) (j := 0) (rd_own (List.mem_cons_of_mem _ List.mem_cons_self)) rfl rfl)) ea_nil) cr_int1) ?_
    -- pool[2][0] = at + 1
    refine q_setL (a := pl.t) (ks := [iK k]) (z := 0) (j := 0) (k := iK (k + 1)) 1 rfl (by k_extra "ev") (ek_p2 (cs := cs) rfl) ek_c rfl ?_
    -- here = int(at) % len(pool[0])
    refine q_asg (k := iK (k % (cs.length : Int))) (ek_op (ek_cb (ea_cons (ek_var rfl) ea_nil) cr_int1) (ek_eq (ek_cb (ea_cons (ek_p0 (pl := pl) (cs := cs) rfl) ea_nil) (cr_len rd_at)) (k' := iK (cs.length : Int)) (by rw [List.length_map])) (rk_I (by show (0 : Int) < _; omega))) ?_
    have hh0 : 0 ≤ k % (cs.length : Int) := Int.emod_nonneg _ (by omega)
    have hh1 : k % (cs.length : Int) < (cs.length : Int) := Int.emod_lt_of_pos _ (by omega)
    generalize k % (cs.length : Int) = here at hh0 hh1
    have hlt : here.toNat < cs.length := toNat_lt hh0 hh1
    have hlt2 : here.toNat < ls.length := by omega
    -- cell, left
    refine q_asg (k := iK cs[here.toNat]) (ek_cb (ea_cons (ek_op (ek_p0 (pl := pl) (cs := cs) rfl) (ek_var rfl) (rk_ixL (j := here.toNat) rd_at (by rw [List.length_map]; exact ixN_int hh0 hh1) (by rw [List.getElem?_map, List.getElem?_eq_getElem hlt]; rfl))) ea_nil) cr_int1) ?_
    refine q_asg (k := iK ls[here.toNat]) (ek_cb (ea_cons (ek_op (ek_p1 (pl := pl) (cs := cs) rfl) (ek_var rfl) (rk_ixL (j := here.toNat) (rd_own List.mem_cons_self) (by rw [List.length_map]; exact ixN_int hh0 (by omega)) (by rw [List.getElem?_map, List.getElem?_eq_getElem hlt2]; rfl))) ea_nil) cr_int1) ?_
    have cell0 : 0 ≤ cs[here.toNat] := hp.c0 _ (List.getElem_mem hlt)
    have left0 : 0 ≤ ls[here.toNat] := hp.l0 _ (List.getElem_mem hlt2)
    generalize cs[here.toNat] = cell at cell0
    generalize hleft : ls[here.toNat] = left at left0
    refine q_when (et_and (et_test (by k_extra "ev")) fun _ => et_test (by k_extra "ev")) (fun h2 => ?_) (fun h2 => ?_)
    · -- pool[1][here] = left // many; return int(left) % many
      refine q_setL (a := pl.l) (ks := ls.map iK) (z := here) (j := here.toNat) (k := iK (left / many)) 0 rfl (ek_op (ek_var rfl) (ek_var rfl) (rk_I ⟨by omega, by omega⟩)) (ek_p1 (cs := cs) rfl) (ek_var rfl) (by rw [List.length_map]; exact ixN_int hh0 (by omega)) ?_
      rw [set_iK]
      refine s_retS (k := iK (left % many)) hR' (ek_op (ek_cb (ea_cons (ek_var rfl) ea_nil) cr_int1) (ek_var rfl) (rk_I (by show (0 : Int) < _; omega))) fun v G H σ st p => ⟨pool_close (i := 0) (pool_set hp (j := here.toNat) (x := left / many) (Int.ediv_nonneg left0 (by omega))) st rfl, ⟨⟨left % many, drawn_mod h'⟩, p⟩⟩
    · refine q_asg (k := iK ((cell % 1000003 * 7919 + k * 104729 + 12345) % 1000003)) (by k_extra "ev") ?_
      have one0 : 0 ≤ (cell % 1000003 * 7919 + k * 104729 + 12345) % 1000003 := Int.emod_nonneg _ (by decide)
      have one1 : (cell % 1000003 * 7919 + k * 104729 + 12345) % 1000003 < 1000003 := Int.emod_lt_of_pos _ (by decide)
      generalize (cell % 1000003 * 7919 + k * 104729 + 12345) % 1000003 = one at one0 one1
      refine q_asg (k := iK ((one * one + cell / 1000003 % 1000003 + k) % 998244353)) (by k_extra "ev") ?_
      have two0 : 0 ≤ (one * one + cell / 1000003 % 1000003 + k) % 998244353 := Int.emod_nonneg _ (by decide)
      have two1 : (one * one + cell / 1000003 % 1000003 + k) % 998244353 < 998244353 := Int.emod_lt_of_pos _ (by decide)
      generalize (one * one + cell / 1000003 % 1000003 + k) % 998244353 = two at two0 two1
      exact s_retS (k := iK ((two * two + 3 * k + 1) % 1000000007 / 97 % many)) hR' (by k_extra "ev") fun v G H σ st p => ⟨pool_close (i := 0) (pool_step hp) st rfl, ⟨⟨_, drawn_mod h'⟩, p⟩⟩
end

section
variable {K : PySem.W.Frag}
section
variable {F : Fx} {B : Bs} {δ : Env} {μ : Mu} {te tp : TE} {pl : Pl} {k : Know} {D : Ends}
/-! ### drawing -/
theorem ek_pick {many : Int} (hp : Ek (FP pl) tp δ μ (poolK pl)) (he : Ek (FP pl) te δ μ (iK many)) (h : many ≤ 1000000) : Ek (FP pl) (tCall (sp_law_pick K) [] E0 (tCons tp (tCons te tNil))) δ μ (drawK many) :=
  ek_callF (FX := fun x : PkIn => FP x.pl) (ks := fun x => [poolK x.pl, iK x.many]) (post := fun x => pK (drawK x.many)) ⟨pl, many, h⟩ rfl (ea_cons hp (ea_cons he ea_nil)) (fun _ _ _ _ p => p)
theorem ek_one {th : Things} (hp : Ek (FP pl) tp δ μ (poolK pl)) (he : Ek (FP pl) te δ μ th.kn) (h0 : 0 < th.len) (h1 : th.len ≤ 1000000) : Ek (FP pl) (tCall (sp_law_one_of K) [] E0 (tCons tp (tCons te tNil))) δ μ (exK fun i : Fin th.len => th.at_ i) :=
  ek_callF (FX := fun x : OneIn => FP x.pl) (ks := fun x => [poolK x.pl, x.th.kn]) (post := fun x => pK (exK fun i : Fin x.th.len => x.th.at_ i)) ⟨pl, th, h0, h1⟩ rfl (ea_cons hp (ea_cons he ea_nil)) (fun _ _ _ _ p => p)
/-- one of some texts -/
theorem ek_oneS {xs : List Str} (hp : Ek (FP pl) tp δ μ (poolK pl)) (he : Ek (FP pl) te δ μ (strsK xs)) (h0 : 0 < xs.length) (h1 : xs.length ≤ 1000000) : Ek (FP pl) (tCall (sp_law_one_of K) [] E0 (tCons tp (tCons te tNil))) δ μ (exK fun x : {x : Str // x ∈ xs} => sK x.1) :=
  ek_weak (ek_one (th := .lst (xs.map sK)) hp he (by show 0 < (xs.map sK).length; rw [List.length_map]; exact h0) (by show (xs.map sK).length ≤ _; rw [List.length_map]; exact h1)) fun v G ⟨i, p⟩ => by
    have hi : i.1 < xs.length := by have := i.2; simpa [Things.len] using this
    refine ⟨⟨xs[i.1], List.getElem_mem hi⟩, ?_⟩
    have e : (Things.lst (xs.map sK)).at_ i = sK xs[i.1] := by
      show (xs.map sK)[i.1]'_ = _
      rw [List.getElem_map]
    have p : ((Things.lst (xs.map sK)).at_ i).p v G := p
    rw [e] at p
    exact p
theorem ek_oneI {xs : List Int} (hp : Ek (FP pl) tp δ μ (poolK pl)) (he : Ek (FP pl) te δ μ (intsK xs)) (h0 : 0 < xs.length) (h1 : xs.length ≤ 1000000) : Ek (FP pl) (tCall (sp_law_one_of K) [] E0 (tCons tp (tCons te tNil))) δ μ (exK fun x : {x : Int // x ∈ xs} => iK x.1) :=
  ek_weak (ek_one (th := .lst (xs.map iK)) hp he (by show 0 < (xs.map iK).length; rw [List.length_map]; exact h0) (by show (xs.map iK).length ≤ _; rw [List.length_map]; exact h1)) fun v G ⟨i, p⟩ => by
    have hi : i.1 < xs.length := by have := i.2; simpa [Things.len] using this
    refine ⟨⟨xs[i.1], List.getElem_mem hi⟩, ?_⟩
    have e : (Things.lst (xs.map iK)).at_ i = iK xs[i.1] := by
      show (xs.map iK)[i.1]'_ = _
      rw [List.getElem_map]
    have p : ((Things.lst (xs.map iK)).at_ i).p v G := p
    rw [e] at p
    exact p
/-- one sign of a text -/
theorem ek_oneC {z : Str} (hp : Ek (FP pl) tp δ μ (poolK pl)) (he : Ek (FP pl) te δ μ (sK z)) (h0 : 0 < z.length) (h1 : z.length ≤ 1000000) : Ek (FP pl) (tCall (sp_law_one_of K) [] E0 (tCons tp (tCons te tNil))) δ μ (exK fun c : {c : Nat // c ∈ TL.tl z} => sK ⟨#[c.1]⟩) :=
  ek_weak (ek_one (th := .txt z) hp he h0 h1) fun v G ⟨i, p⟩ => ⟨⟨z.cps[i.1]'i.2, by
    show _ ∈ z.cps.toList
    exact Array.getElem_mem_toList i.2⟩, p⟩
theorem rk_one {th : Things} (h0 : 0 < th.len) (h1 : th.len ≤ 1000000) : Rk F μ (rIx K) th.kn (drawK (th.len : Int)) (exK fun i : Fin th.len => th.at_ i) := by
  intro G H x y s jj o p1 ⟨r, p2⟩ Q q
  have hr0 := r.2.1
  have hr1 : r.1 < th.len := by rcases r.2.2 with h | ⟨h, e⟩ <;> omega
  have e2 : y = .int r.1 := p2
  subst e2
  cases th with
  | lst ks =>
    obtain ⟨a, vs, rfl, ha, rr⟩ := p1
    have hr1 : r.1 < ks.length := hr1
    have hl : r.1.toNat < ks.length := by omega
    obtain ⟨v, hv, p⟩ := rr.get (List.getElem?_eq_getElem hl)
    exact .inl ⟨a, vs, r.1, v, rfl, rfl, .inl (.inl (s _ _ ha)), atI_get (by rw [rr.length]; exact ixN_int hr0 hr1) hv, q v G H (.refl s) jj ⟨⟨r.1.toNat, hl⟩, p⟩⟩
  | txt z =>
    have e1 : x = .str z := p1
    subst e1
    have hr1 : r.1 < (z.cps.size : Int) := hr1
    have h1 : z.cps.size ≤ 1000000 := h1
    have hl : r.1.toNat < z.cps.size := by omega
    refine .inr (.inr ⟨z, r.1, z.cps[r.1.toNat], rfl, rfl, Nat.le_trans h1 (by decide), ?_, q _ G H (.refl s) jj ⟨⟨r.1.toNat, hl⟩, rfl⟩⟩)
    have e : ixN z.cps.toList.length r.1 = some r.1.toNat := ixN_int hr0 (by rw [Array.length_toList]; exact hr1)
    unfold atI
    rw [e]
    show z.cps.toList[r.1.toNat]? = _
    rw [List.getElem?_eq_getElem (by rw [Array.length_toList]; exact hl), Array.getElem_toList]
theorem cr_lenV {th : Things} (h1 : th.len ≤ 1000000) : CRk F μ (rLenV K) [th.kn] (iK (th.len : Int)) := fun G H vs s j o p Q q => by
  obtain ⟨v, rfl, p'⟩ := allK1 p
  cases th with
  | lst ks =>
    obtain ⟨a, ws, rfl, ha, rr⟩ := p'
    exact ⟨.ref a, ks.length, rfl, .inl ⟨ws, .inl (.inl (s _ _ ha)), rr.length.symm⟩, q _ G H (.refl s) j rfl⟩
  | txt z =>
    have e : v = .str z := p'
    subst e
    exact ⟨.str z, z.length, rfl, ⟨Nat.le_trans h1 (by decide), rfl⟩, q _ G H (.refl s) j rfl⟩
end
theorem r_law_one_of (x : OneIn) (G0 H0 : Hp) (Q : VK) (hR : Rt (FP x.pl) ⟨(FP x.pl).P, G0, H0⟩ (pK (exK fun i : Fin x.th.len => x.th.at_ i) H0) Q) :
    Tr (FP x.pl) ⟨(FP x.pl).P, G0, H0⟩ (env0 [poolK x.pl, x.th.kn] 0) [] (t_law_one_of K) { nx := fun _ H' => Q .non H', rt := Q } := by
  unfold t_law_one_of
  exact s_ret hR (ek_op (ek_var rfl) (ek_pick (ek_var rfl) (ek_cb (ea_cons (ek_var rfl) ea_nil) (cr_lenV x.h1)) (by have := x.h1; omega)) (rk_one x.h0 x.h1)) fun v G H p => p
end

theorem sIx_none (n d : Nat) : HT.sIx n d none = d := rfl
theorem cutL_take {α : Type} (ks : List α) (n : Nat) : cutL ks none (some (n : Int)) = ks.take n := by
  unfold cutL
  rw [sIx_none, HT.sIx_nat, List.drop_zero, Nat.sub_zero]
  by_cases h : n ≤ ks.length
  · rw [Nat.min_eq_left h]
  · rw [Nat.min_eq_right (by omega), List.take_of_length_le (by omega), List.take_of_length_le (by omega)]
theorem cutL_drop {α : Type} (ks : List α) (n : Nat) : cutL ks (some (n : Int)) none = ks.drop n := by
  unfold cutL
  rw [sIx_none, HT.sIx_nat]
  by_cases h : n ≤ ks.length
  · rw [Nat.min_eq_left h, List.take_of_length_le (by rw [List.length_drop]; omega)]
  · rw [Nat.min_eq_right (by omega), List.drop_eq_nil_of_le (by omega), List.drop_eq_nil_of_le (by omega), List.take_nil]
theorem cutK_take (ks : List Know) (n : Nat) : cutK ks none (some (n : Int)) = ks.take n := cutL_take ks n

section
variable {F : Fx} {B : Bs} {δ : Env} {μ : Mu} {te ta : TE} {K : PySem.W.Frag} {tt : TT}
theorem outs_take {α : Type} {f g : α → Know} {keep : α → Bool} {d : Know} (xs : List α) : ∀ n, n ≤ xs.length → outs (fun i => ((xs[i]?).map keep).getD false) (fun i => ((xs[i]?).map g).getD d) n = ((xs.take n).filter keep).map g
  | 0, _ => rfl
  | n + 1, h => by
    have hx : xs[n]? = some xs[n] := List.getElem?_eq_getElem (by omega)
    have e : xs.take (n + 1) = xs.take n ++ [xs[n]] := by rw [List.take_succ_eq_append_getElem (by omega)]
    rw [e, List.filter_append, List.map_append, ← outs_take (f := f) (g := g) (keep := keep) (d := d) xs n (by omega)]
    cases hk : keep xs[n] with
    | true =>
      rw [outs_yes (by rw [hx]; exact hk), hx, List.filter_cons, if_pos hk]
      rfl
    | false =>
      rw [outs_no (by rw [hx]; exact hk), List.filter_cons, if_neg (by rw [hk]; decide)]
      exact (List.append_nil _).symm
/-- [e for x in xs if t] -/
theorem en_lcF {α : Type} {j : Nat} (f g : α → Know) (keep : α → Bool) (xs : List α) (h : Ek F ta δ μ (listK (xs.map f))) (hn : xs.length ≤ sizeLine)
    (he : ∀ x, x ∈ xs → ETk F tt ((wipeE δ [j]).set j (some (f x))) μ (· = keep x) ∧ (keep x = true → Ek F te ((wipeE δ [j]).set j (some (f x))) μ (g x))) : EN F (tLc (iList K ta) (gName j) tt te [j]) δ μ (.lst ((xs.filter keep).map g)) := by
  have h1 := ei_list (K := K) (k := iK 0) h
  have h2 := en_lc (tt := tt) (te := te) (fun i => ((xs[i]?).map keep).getD false) (fun i => ((xs[i]?).map g).getD (iK 0)) h1 (by rw [List.length_map]; exact hn) (gw_name (j := j)) (fun i hi => by
    rw [List.length_map] at hi
    have hx : xs[i]? = some xs[i] := List.getElem?_eq_getElem hi
    obtain ⟨z1, z2⟩ := he xs[i] (List.getElem_mem hi)
    refine ⟨(wipeE δ [j]).set j (some (f xs[i])), ?_, ?_, ?_⟩
    · rw [List.getElem?_map, hx]; exact gk_name
    · rw [hx]; exact z1
    · rw [hx]; exact z2)
  rw [List.length_map, outs_take (f := f) xs xs.length (Nat.le_refl _), List.take_length] at h2
  exact h2
theorem en_lcM {α : Type} {j : Nat} (f g : α → Know) (xs : List α) (h : Ek F ta δ μ (listK (xs.map f))) (hn : xs.length ≤ sizeLine)
    (he : ∀ x, x ∈ xs → Ek F te ((wipeE δ [j]).set j (some (f x))) μ (g x)) : EN F (tLc (iList K ta) (gName j) tYes te [j]) δ μ (.lst (xs.map g)) := by
  have := en_lcF (K := K) f g (fun _ => true) xs h hn fun x hx => ⟨et_yes, fun _ => he x hx⟩
  rw [List.filter_eq_self.mpr (fun _ _ => rfl)] at this
  exact this
end

section
variable {K : PySem.W.Frag}
theorem s_retPool {B : Bs} {δ : Env} {D : Ends} {cs : List Int} (h0 : 0 < cs.length) (hc : ∀ x ∈ cs, 0 ≤ x) (hi : δ[1]? = some (some (intsK cs)))
    (hR : Rt F0 B (fun v G' H' => ∃ pl : Pl, v = .ref pl.p ∧ B.H0 pl.l = none ∧ B.H0 pl.t = none ∧ PoolJ pl G' H') D.rt) :
    Tr F0 B δ [] (tRet (tLst (tCons (tVar 1) (tCons (tCB (rListQ K) (tCons (tVar 1) tNil)) (tCons (tLst (tCons (tC (.int 0)) tNil)) tNil))))) D := fun σ H ⟨G, z⟩ => by
  obtain ⟨v, hv, c, vs, rfl, hc', r⟩ := z.st.env.get hi
  have e := allK_val r
  subst e
  refine ⟨_, hv, ?_⟩
  have hl : EN F0 (tCB (rListQ K) (tCons (tVar 1) tNil)) δ [] (.lst (cs.map iK)) := en_cb (ea_cons (ek_var hi) ea_nil) (cn_list rd_list)
  refine hl G H σ z.st _ fun l ol G1 H1 h1 h2 hp h3 h4 g1 j1 => ?_
  have z1 := z.join h1 h2 hp h3 h4 g1 j1
  have ht : EN F0 (tLst (tCons (tC (.int 0)) tNil)) δ [(l, .lst (cs.map iK))] (.lst [iK 0]) := en_lst (ea_cons ek_c ea_nil) (by show 1 ≤ sizeLine; unfold sizeLine; omega)
  refine ht G1 H1 σ z1.st _ fun t ot G2 H2 k1 k2 kp k3 k4 g2 j2 => ?_
  have z2 := z1.join k1 k2 kp k3 k4 g2 j2
  refine ⟨by show 3 ≤ sizeLine; unfold sizeLine; omega, fun p hpn => ?_⟩
  obtain ⟨l1, _, o1, l3, vs1, l4, l5⟩ := z2.st.own.has l _ (List.mem_cons_of_mem _ List.mem_cons_self)
  obtain ⟨t1, _, o2, t3, vs2, t4, t5⟩ := z2.st.own.has t _ List.mem_cons_self
  subst l4 t4
  have q1 := allK_val l5
  subst q1
  have q2 : vs2 = [.int 0] := allK_val (xs := [(0 : Int)]) (f := V.int) t5
  subst q2
  have np : ∀ b o, H2 b = some o → b ≠ p := fun b o e q => by rw [q, hpn] at e; cases e
  have gc : G2 c = some (.lst (cs.map V.int)) := (g1.gg.trans g2.gg) _ _ hc'
  refine hR (.ref p) (upd G2 p _) (upd H2 p _) (z2.gr.trans (Gr.new z2.st.sub hpn)) trivial ⟨⟨p, c, l, t⟩, rfl, back_none z.gr h1, back_none z1.gr k1, fun e => ?_, upd_same, ?_, ?_, cs, cs, 0, ⟨h0, rfl, hc, hc, Int.le_refl 0⟩, ?_, ?_, ?_⟩
  · have e : l = t := e
    rw [e] at h3
    rw [h3] at k1
    cases k1
  · show upd G2 p _ l = none
    rw [upd_ne (np l _ l3)]; exact l1
  · show upd G2 p _ t = none
    rw [upd_ne (np t _ t3)]; exact t1
  · show upd G2 p _ c = _
    rw [upd_ne (np c _ (z2.st.sub _ _ gc))]; exact gc
  · show upd H2 p _ l = _
    rw [upd_ne (np l _ l3)]; exact l3
  · show upd H2 p _ t = _
    rw [upd_ne (np t _ t3)]; exact t3
theorem r_law_pool (x : ScIn) (G0 H0 : Hp) (Q : VK) (hR : Rt F0 ⟨F0.P, G0, H0⟩ ((fun H v G' H' => ∃ pl : Pl, v = .ref pl.p ∧ H pl.l = none ∧ H pl.t = none ∧ PoolJ pl G' H') H0) Q) :
    Tr F0 ⟨F0.P, G0, H0⟩ (env0 [seqK K (x.ns.map iK)] 2) [] (t_law_pool K) { nx := fun _ H' => Q .non H', rt := Q } := by
  obtain ⟨ns, hns⟩ := x
  simp only at hR ⊢
  unfold t_law_pool
  have hpos : (0 : Int) < 1 * 2 ^ (6000 : Int).toNat := by
    rw [Int.one_mul]; exact Int.pow_pos (by decide)
  refine q_asg (k := intsK ((ns.take 63).map fun z => (if z < 0 then -z else z) % (1 * 2 ^ (6000 : Int).toNat))) (ek_eq (en_ek (en_lcM iK (fun z => iK ((if z < 0 then -z else z) % (1 * 2 ^ (6000 : Int).toNat))) (ns.take 63) (ek_eq (en_ek (en_slQ (K := K) (ks := ns.map iK) (ek_var rfl) eo_none (eo_some ek_c))) (by rw [show (63 : Int) = ((63 : Nat) : Int) from rfl, cutK_take, ← List.map_take])) (by rw [List.length_take]; unfold sizeLine; omega) fun z hz => ek_op (ek_cb (ea_cons (ek_cb (ea_cons (ek_var rfl) ea_nil) cr_abs1) ea_nil) cr_int1) (ek_op ek_c ek_c (rk_I ⟨by decide, by decide, by decide⟩)) (rk_I hpos))) (by show _ = listK (List.map iK (List.map _ _)); rw [List.map_map]; rfl)) ?_
  have hnn : ∀ y ∈ (ns.take 63).map (fun z => (if z < 0 then -z else z) % (1 * 2 ^ (6000 : Int).toNat)), 0 ≤ y := fun y hy => by
    obtain ⟨z, _, rfl⟩ := List.mem_map.mp hy
    exact Int.emod_nonneg _ (by omega)
  generalize (ns.take 63).map (fun z => (if z < 0 then -z else z) % (1 * 2 ^ (6000 : Int).toNat)) = cs at hnn
  refine q_whenAsg (k := intsK [0]) (P := (· = PyData.eqv (.list (cs.map .int)) (.list (([] : List Int).map .int)))) (et_test (ek_op (ek_var rfl) (en_ek (en_lst ea_nil (by decide))) (rk_eqD ((dt_list (K := K) (dt_int (K := K))).isd cs) ((dt_list (K := K) (dt_int (K := K))).isd ([] : List Int)) ((dt_list (K := K) (dt_int (K := K))).shaped (x := cs) (fun _ _ => trivial)) ((dt_list (K := K) (dt_int (K := K))).shaped (x := ([] : List Int)) (fun _ h => nomatch h))))) (fun _ => en_ek (en_lst (ea_cons ek_c ea_nil) (by show 1 ≤ sizeLine; unfold sizeLine; omega))) (fun h => ?_) (fun h => ?_)
  · exact s_retPool (K := K) (cs := [0]) (by decide) (by simp) rfl hR
  · refine s_retPool (K := K) (cs := cs) ?_ hnn rfl hR
    cases cs with
    | nil => exact absurd h (by rw [(dt_list dt_int (K := K)).eqv ([] : List Int) []]; decide)
    | cons c cs => exact Nat.succ_pos _
end

section
variable {F : Fx} {B : Bs} {δ : Env} {μ : Mu} {K : PySem.W.Frag} {ta te : TE} {k : Know} {D : Ends} {u : TS}
/-- the pool is made; from here on it is known -/
theorem q_pool {i : Nat} {ns : List Int} (hns : ns.length ≤ 63) (h : Ek F0 te δ [] (seqK K (ns.map iK))) (q : ∀ pl, Tr (FP pl) B (δ.set i (some (poolK pl))) [] u D) :
    Tr F0 B δ [] (tSeq (tAsg (tCall (sp_law_pool K) [] E0 (tCons te tNil)) (gName i)) u) D := fun σ H ⟨G, z⟩ =>
  h G H σ z.st _ fun v G1 H1 g1 j1 p1 => ⟨⟨ns, hns⟩, G1, g1.gh, trivial, .cons p1 .nil, fun v2 G2 H2 g2 _ ⟨pl, e, hl, ht, hj⟩ => by
    have z1 := z.step g1 j1
    have z2 := (z1.step (g2.wide fun _ h => nomatch h) trivial).setS i (v := v2) (k := poolK pl) e
    refine q pl _ _ ⟨G2, z2.s0, z2.gr, ⟨z2.st.sub, hj, z2.st.env, OwnK.nil⟩, fun a ha => ?_, fun a m hm => nomatch hm⟩
    rcases List.mem_cons.mp ha with e | ha
    · rw [e]; exact .inr (back_none z1.gr hl)
    · rw [List.mem_singleton.mp ha]; exact .inr (back_none z1.gr ht)⟩

end
/-! ### drawing, mirrored -/
section
variable {K : PySem.W.Frag} {pl : Pl} {δ : Env} {μ : Mu} {te tp : TE} {α : Type} {f : α → Know}
theorem x_pool {i : Nat} {F : Fx} (h : δ[i]? = some (some (poolK pl))) : Ex F (tVar i) δ μ (ret ()) (fun _ => poolK pl) := x_p (fa := fun _ : Unit => poolK pl) (ek_var h)
theorem x_pick {m : W Int} (hp : Ex (FP pl) tp δ μ (ret ()) fun _ => poolK pl) (he : Ex (FP pl) te δ μ m iK) : Ex (FP pl) (tCall (sp_law_pick K) [] E0 (tCons tp (tCons te tNil))) δ μ (bnd m pickW) iK := fun G H σ st P hm Q q =>
  hp G H σ st (fun _ => bnd m pickW P) hm _ fun _ v G1 H1 p1 g1 j1 v1 => he G1 H1 σ (st.step g1 j1) _ p1 _ fun many w G2 H2 ⟨hl, p2⟩ g2 j2 v2 =>
    ⟨⟨pl, many, hl⟩, G2, g2.gh, j2, by rw [List.append_nil]; exact .cons ((poolK pl).mono g2.gg v1) (.cons v2 .nil), fun u G3 H3 g3 j3 ⟨r, pr⟩ => q r.1 u G3 H3 (p2 r.1 r.2.1 r.2.2) ((g1.trans g2).trans g3) j3 pr⟩
theorem x_one {m : W (List α)} (hp : Ex (FP pl) tp δ μ (ret ()) fun _ => poolK pl) (he : Ex (FP pl) te δ μ m (eL f)) : Ex (FP pl) (tCall (sp_law_one_of K) [] E0 (tCons tp (tCons te tNil))) δ μ (bnd m oneW) f := fun G H σ st P hm Q q =>
  hp G H σ st (fun _ => bnd m oneW P) hm _ fun _ v G1 H1 p1 g1 j1 v1 => he G1 H1 σ (st.step g1 j1) _ p1 _ fun xs w G2 H2 ⟨hne, hl, p2⟩ g2 j2 v2 => by
    have e : (Things.lst (xs.map f)).len = xs.length := by show (xs.map f).length = _; rw [List.length_map]
    refine ⟨⟨pl, .lst (xs.map f), by rw [e]; exact List.length_pos_iff.mpr hne, by rw [e]; exact hl⟩, G2, g2.gh, j2, by rw [List.append_nil]; exact .cons ((poolK pl).mono g2.gg v1) (.cons v2 .nil), fun u G3 H3 g3 j3 pr => ?_⟩
    obtain ⟨i, pr⟩ := pr
    have hi : i.1 < xs.length := Nat.lt_of_lt_of_eq i.2 e
    refine q xs[i.1] u G3 H3 (p2 _ (List.getElem_mem hi)) ((g1.trans g2).trans g3) j3 ?_
    have e2 : (Things.lst (xs.map f)).at_ i = f xs[i.1] := by
      show (xs.map f)[i.1]'_ = _
      rw [List.getElem_map]
    have pr : ((Things.lst (xs.map f)).at_ i).p u G3 := pr
    rw [e2] at pr
    exact pr
theorem x_oneC {m : W Str} (hp : Ex (FP pl) tp δ μ (ret ()) fun _ => poolK pl) (he : Ex (FP pl) te δ μ m sK) : Ex (FP pl) (tCall (sp_law_one_of K) [] E0 (tCons tp (tCons te tNil))) δ μ (bnd m oneC) sK := fun G H σ st P hm Q q =>
  hp G H σ st (fun _ => bnd m oneC P) hm _ fun _ v G1 H1 p1 g1 j1 v1 => he G1 H1 σ (st.step g1 j1) _ p1 _ fun z w G2 H2 ⟨h0, hl, p2⟩ g2 j2 v2 => by
    refine ⟨⟨pl, .txt z, h0, hl⟩, G2, g2.gh, j2, by rw [List.append_nil]; exact .cons ((poolK pl).mono g2.gg v1) (.cons v2 .nil), fun u G3 H3 g3 j3 pr => ?_⟩
    obtain ⟨i, pr⟩ := pr
    exact q _ u G3 H3 (p2 (z.cps[i.1]'i.2) (Array.getElem_mem_toList i.2)) ((g1.trans g2).trans g3) j3 pr
end
end Dl
end
section
set_option maxRecDepth 100000
set_option maxHeartbeats 2000000
/-! Mirrors: ways that meet again, keyword calls, small things; a def as its callers know it. -/
namespace Dl
open PySem L2 Sx
theorem hu0 {A : Around} {k : Nat} (hr : Room k A) : A.units < cLine := Nat.lt_of_le_of_lt (Nat.le_add_right _ _) hr.units
theorem hu65 {A : Around} {k : Nat} (hr : Room k A) : A.units + 65 < cLine := by have := hr.un; omega
def jn {σ' ρ : Type} (k : σ' → W ρ) (f : (σ' → W ρ) → W ρ) : W ρ := f k
section
variable {F : Fx} {B : Bs} {δ : Env} {μ : Mu} {K : PySem.W.Frag} {ta tb te : TE} {D : Ends} {t u w : TS} {α β ρ σ' : Type} {f : α → Know} {P : ρ → Prop}
theorem x_neg {m : W Int} (h : Ex F te δ μ m iK) : Ex F (tUn (rU fun i => .int (-i)) te) δ μ (bnd m fun i => ret (-i)) iK := fun G H σ st P hp Q q =>
  h G H σ st _ hp _ fun i v G1 H1 p1 g1 j1 e => by
    have e : v = .int i := e
    subst e
    exact ⟨i, rfl, q _ _ G1 H1 p1 g1 j1 rfl⟩
/-- ways that meet again -/
theorem v_join {K : σ' → W ρ} {x : (σ' → W ρ) → W ρ} (env : σ' → Env × Mu) (hm : jn K x P) (h : ∀ (N : St → Hp → Prop) (k : σ' → W ρ), (∀ s, k s P → To F B (env s).1 (env s).2 N) → x k P → Tr F B δ μ t { D with nx := N })
    (hk : ∀ s, K s P → Tr F B (env s).1 (env s).2 w D) : Tr F B δ μ (tSeq t w) D := h (w D) K hk hm
theorem x_chainI {tc : TE} {r r' : R2} {ma mb mc : W Int} {m1 m2 : Int → Int → W Bool} (ha : Ex F ta δ μ ma iK) (hb : Ex F tb δ μ mb iK) (hc : Ex F tc δ μ mc iK) (h1 : ∀ x y, Rx F μ r (iK x) (iK y) (m1 x y) bK) (h2 : ∀ x y, Rx F μ r' (iK x) (iK y) (m2 x y) bK) :
    Ex F (tChain r r' ta tb tc) δ μ (bnd ma fun x => bnd mb fun y => bnd (m1 x y) fun b => gte b (bnd mc fun z => m2 y z) (ret false)) bK := x_chain ha hb hc h1 h2
theorem x_callI {A : Type} {ks : A → List Know} {m : A → W ρ} {fr : ρ → Know} {E : XK} {t : TA} {ma : W A} {kf : A → List Know} (ha : EA F t δ μ ma kf) (hk : ∀ a, kf a = ks a) : Ex F (tCall (spW (fun _ => F0) ks m fr) [] E t) δ μ (bnd ma fun a => m a) fr := x_call0 (g := fun a => a) (fun _ => rfl) ha hk
/-- a call that hands the pool on -/
theorem x_callP {A : Type} {pl : Pl} {ks : Pl × A → List Know} {m : Pl × A → W ρ} {fr : ρ → Know} {E : XK} {t : TA} {ma : W (Unit × A)} {kf : Unit × A → List Know} (ha : EA (FP pl) t δ μ ma kf) (hk : ∀ a, kf a = ks (pl, a.2)) : Ex (FP pl) (tCall (spW (fun z => FP z.1) ks m fr) [] E t) δ μ (bnd ma fun a => m (pl, a.2)) fr := x_callF (g := fun a : Unit × A => (pl, a.2)) ha (fun _ => rfl) hk
/-- f(k=e, ..) -/
theorem x_callK0 {A : Type} {FX : A → Fx} {ks : A → List Know} {m : A → W ρ} {fr : ρ → Know} {E : XK} {tk : TA} {ma : W α} {kf : α → List Know} {gV : List V → List V → List V} (g : α → A) (hF : ∀ x, FX x = F0) (ha : EA F tk δ μ ma kf) (hg : ∀ a G vs, AllK G vs (kf a) → AllK G (gV [] vs) (ks (g a))) :
    Ex F (tCallK (spW FX ks m fr) gV E tNil tk) δ μ (bnd ma fun a => m (g a)) fr := fun G H σ st P hp Q q =>
  ha G H σ st _ hp _ fun a vs G1 H1 pa g1 j1 v1 => by
    refine ⟨g a, P, G1, g1.gh, by rw [hF]; trivial, hg a G1 vs v1, pa, fun y v G2 H2 py g2 _ pv => ?_⟩
    rw [hF] at g2
    have g2' : Gr [] G1 H1 G2 H2 := g2
    exact q y v G2 H2 py (g1.trans (g2'.wide fun _ h => nomatch h)) (F.pure g2' j1) pv
/-- f(e, .., k=e, ..) -/
theorem x_callN0 {A : Type} {FX : A → Fx} {ks : A → List Know} {m : A → W ρ} {fr : ρ → Know} {E : XK} {t0 tk : TA} {ma : W α} {mb : W β} {kf : α → List Know} {kg : β → List Know} {gV : List V → List V → List V} {n1 n2 : Nat} (g : α → β → A) (hF : ∀ x, FX x = F0) (ha : EA F t0 δ μ ma kf) (hb : EA F tk δ μ mb kg)
    (h1 : ∀ a, (kf a).length = n1) (h2 : ∀ b, (kg b).length = n2) (hg : ∀ a b G vs zs, AllK G vs (kf a) → AllK G zs (kg b) → AllK G (gV vs zs) (ks (g a b))) :
    Ex F (tCallN n1 n2 (spW FX ks m fr) gV E t0 tk) δ μ (bnd ma fun a => bnd mb fun b => m (g a b)) fr := fun G H σ st P hp Q q =>
  ha G H σ st _ hp _ fun a vs G1 H1 pa g1 j1 v1 => hb G1 H1 σ (st.step g1 j1) _ pa _ fun b zs G2 H2 pb g2 j2 v2 => by
    refine ⟨by rw [v1.length]; exact h1 a, by rw [v2.length]; exact h2 b, g a b, P, G2, g2.gh, by rw [hF]; trivial, hg a b G2 vs zs (v1.mono g2.gg) v2, pb, fun y v G3 H3 py g3 _ pv => ?_⟩
    rw [hF] at g3
    have g3' : Gr [] G2 H2 G3 H3 := g3
    exact q y v G3 H3 py ((g1.trans g2).trans (g3'.wide fun _ h => nomatch h)) (F.pure g3' j2) pv
end
/-! ### targets among the forgotten slots -/
theorem wipe_get {σ : St} : ∀ (vs : List Nat) (j : Nat), (L2.wipe σ vs)[j]? = if j ∈ vs then σ[j]?.map (fun _ => none) else σ[j]?
  | [], j => by simp [L2.wipe]
  | v :: vs, j => by
    show ((L2.wipe σ vs).set v none)[j]? = _
    by_cases h : v = j
    · subst h
      rw [if_pos List.mem_cons_self, List.getElem?_set]
      rw [if_pos rfl]
      have hl : (L2.wipe σ vs).length = σ.length := wipe_length ..
      by_cases h2 : v < σ.length
      · rw [if_pos (by rw [hl]; exact h2), List.getElem?_eq_getElem h2]; rfl
      · rw [if_neg (by rw [hl]; exact h2), List.getElem?_eq_none (by omega)]; rfl
    · rw [List.getElem?_set_ne h, wipe_get vs j]
      by_cases h2 : j ∈ vs
      · rw [if_pos h2, if_pos (List.mem_cons_of_mem _ h2)]
      · rw [if_neg h2, if_neg (fun z => (List.mem_cons.mp z).elim (fun e => h e.symm) h2)]
theorem gw_in {i : Nat} {vs : List Nat} (hi : i ∈ vs) : Gw (gName i) vs := fun σ v H Q q => by
  refine ⟨?_, q⟩
  apply List.ext_getElem?
  intro j
  rw [wipe_get, wipe_get]
  by_cases h : j ∈ vs
  · rw [if_pos h, if_pos h, List.getElem?_set]
    by_cases h2 : i = j
    · subst h2
      rw [if_pos rfl]
      have hl : (L2.wipe σ vs).length = σ.length := wipe_length ..
      by_cases h3 : i < σ.length
      · rw [if_pos (by rw [hl]; exact h3), List.getElem?_eq_getElem h3]; rfl
      · rw [if_neg (by rw [hl]; exact h3), List.getElem?_eq_none (by omega)]
    · rw [if_neg h2, wipe_get, if_pos h]
      cases σ[j]? <;> rfl
  · rw [if_neg h, if_neg h, List.getElem?_set_ne (fun e : i = j => h (by rw [← e]; exact hi)), wipe_get, if_neg h]
/-! ### a def as its callers know it -/
structure Cal (P : Program) (w : World) (K : PySem.W.Frag) (mg : Str → Option Value) (base : Heap) (x : Str) (st : Stmt) (ps : List Str) (k : Nat) (f : Addr) (fd : FuncData) (sp : Sp) : Prop where
  A : FnAt K mg x st ps f fd
  O : FnOk P w K mg base CX0 k f fd ps sp
end Dl
end
section
set_option maxRecDepth 100000
set_option maxHeartbeats 4000000
namespace K10
open PySem L2 Sx Dl

def topS (i : Nat) : Stmt := PySem.Challenge.pw_mappedtwice_k10_folds_spoiled.main.body.getD i (.Pass ⟨0, 0, 0, 0⟩)
abbrev s_law_pool : Stmt := topS 18
theorem sc_law_pool : FnScope ["script", "cells", "cell"] ["script"] (defScope s_law_pool) := ⟨rfl, rfl, rfl, by decide +kernel, rfl, by decide +kernel, by decide +kernel⟩
abbrev s_law_pick : Stmt := topS 19
theorem sc_law_pick : FnScope ["pool", "many", "at", "here", "cell", "left", "one", "two"] ["pool", "many"] (defScope s_law_pick) := ⟨rfl, rfl, rfl, by decide +kernel, rfl, by decide +kernel, by decide +kernel⟩
abbrev s_law_one_of : Stmt := topS 20
theorem sc_law_one_of : FnScope ["pool", "things"] ["pool", "things"] (defScope s_law_one_of) := ⟨rfl, rfl, rfl, by decide +kernel, rfl, by decide +kernel, by decide +kernel⟩
abbrev s_is_word : Stmt := topS 1
theorem sc_is_word : FnScope ["text"] ["text"] (defScope s_is_word) := ⟨rfl, rfl, rfl, by decide +kernel, rfl, by decide +kernel, by decide +kernel⟩
abbrev s_values_of : Stmt := topS 3
theorem sc_values_of : FnScope ["rows", "row", "value"] ["rows"] (defScope s_values_of) := ⟨rfl, rfl, rfl, by decide +kernel, rfl, by decide +kernel, by decide +kernel⟩
abbrev s_movables_of : Stmt := topS 4
theorem sc_movables_of : FnScope ["rows", "value"] ["rows"] (defScope s_movables_of) := ⟨rfl, rfl, rfl, by decide +kernel, rfl, by decide +kernel, by decide +kernel⟩
abbrev s_set_value : Stmt := topS 5
theorem sc_set_value : FnScope ["value", "setting"] ["value", "setting"] (defScope s_set_value) := ⟨rfl, rfl, rfl, by decide +kernel, rfl, by decide +kernel, by decide +kernel⟩
abbrev s_filled_rows : Stmt := topS 6
theorem sc_filled_rows : FnScope ["rows", "setting", "value", "row"] ["rows", "setting"] (defScope s_filled_rows) := ⟨rfl, rfl, rfl, by decide +kernel, rfl, by decide +kernel, by decide +kernel⟩
abbrev s_conditions : Stmt := topS 8
theorem sc_conditions : FnScope ["row", "setting", "fixed", "equal", "first_at", "at", "value"] ["row", "setting"] (defScope s_conditions) := ⟨rfl, rfl, rfl, by decide +kernel, rfl, by decide +kernel, by decide +kernel⟩
abbrev s_meets : Stmt := topS 9
theorem sc_meets : FnScope ["row", "fixed", "equal", "at", "value", "first", "second"] ["row", "fixed", "equal"] (defScope s_meets) := ⟨rfl, rfl, rfl, by decide +kernel, rfl, by decide +kernel, by decide +kernel⟩
abbrev s_partners : Stmt := topS 10
theorem sc_partners : FnScope ["row", "setting", "rows", "fixed", "equal", "other"] ["row", "setting", "rows"] (defScope s_partners) := ⟨rfl, rfl, rfl, by decide +kernel, rfl, by decide +kernel, by decide +kernel⟩
abbrev s_set_by : Stmt := topS 11
theorem sc_set_by : FnScope ["row", "partner", "setting", "found", "value", "other"] ["row", "partner", "setting"] (defScope s_set_by) := ⟨rfl, rfl, rfl, by decide +kernel, rfl, by decide +kernel, by decide +kernel⟩
abbrev s_is_fold : Stmt := topS 13
theorem sc_is_fold : FnScope ["small", "big", "fold", "there", "row"] ["small", "big", "fold"] (defScope s_is_fold) := ⟨rfl, rfl, rfl, by decide +kernel, rfl, by decide +kernel, by decide +kernel⟩
abbrev s_closed_end : Stmt := topS 15
theorem sc_closed_end : FnScope ["small", "big", "rows", "at", "setting", "there", "row", "targets", "waiting", "current", "partner"] ["small", "big", "rows", "at", "setting"] (defScope s_closed_end) := ⟨rfl, rfl, rfl, by decide +kernel, rfl, by decide +kernel, by decide +kernel⟩
abbrev s_is_closed : Stmt := topS 16
theorem sc_is_closed : FnScope ["small", "big", "rows", "setting", "given"] ["small", "big", "rows", "setting"] (defScope s_is_closed) := ⟨rfl, rfl, rfl, by decide +kernel, rfl, by decide +kernel, by decide +kernel⟩
abbrev s_law_names : Stmt := topS 21
theorem sc_law_names : FnScope ["pool", "many", "signs", "place", "start", "step", "alike", "rest", "k", "found", "size", "j", "told"] ["pool", "many", "signs"] (defScope s_law_names) := ⟨rfl, rfl, rfl, by decide +kernel, rfl, by decide +kernel, by decide +kernel⟩
abbrev s_law_movable_values : Stmt := topS 22
theorem sc_law_movable_values : FnScope ["pool", "words", "found", "many", "number", "k", "kind"] ["pool", "words"] (defScope s_law_movable_values) := ⟨rfl, rfl, rfl, by decide +kernel, rfl, by decide +kernel, by decide +kernel⟩
abbrev s_law_rows : Stmt := topS 23
theorem sc_law_rows : FnScope ["pool", "tables", "values", "many", "rows", "k", "table", "width", "parts", "j"] ["pool", "tables", "values", "many"] (defScope s_law_rows) := ⟨rfl, rfl, rfl, by decide +kernel, rfl, by decide +kernel, by decide +kernel⟩
abbrev s_law_is_word : Stmt := topS 24
theorem sc_law_is_word : FnScope ["text", "signs", "sign"] ["text"] (defScope s_law_is_word) := ⟨rfl, rfl, rfl, by decide +kernel, rfl, by decide +kernel, by decide +kernel⟩
abbrev s_law_values : Stmt := topS 25
theorem sc_law_values : FnScope ["rows", "found", "row"] ["rows"] (defScope s_law_values) := ⟨rfl, rfl, rfl, by decide +kernel, rfl, by decide +kernel, by decide +kernel⟩
abbrev s_law_movables : Stmt := topS 26
theorem sc_law_movables : FnScope ["rows", "value"] ["rows"] (defScope s_law_movables) := ⟨rfl, rfl, rfl, by decide +kernel, rfl, by decide +kernel, by decide +kernel⟩
abbrev s_law_set : Stmt := topS 27
theorem sc_law_set : FnScope ["row", "setting", "value"] ["row", "setting"] (defScope s_law_set) := ⟨rfl, rfl, rfl, by decide +kernel, rfl, by decide +kernel, by decide +kernel⟩
abbrev s_law_is_partner : Stmt := topS 28
theorem sc_law_is_partner : FnScope ["row", "other", "setting", "at", "value", "due", "k"] ["row", "other", "setting"] (defScope s_law_is_partner) := ⟨rfl, rfl, rfl, by decide +kernel, rfl, by decide +kernel, by decide +kernel⟩
abbrev s_law_set_by : Stmt := topS 29
theorem sc_law_set_by : FnScope ["row", "partner", "setting", "more", "at"] ["row", "partner", "setting"] (defScope s_law_set_by) := ⟨rfl, rfl, rfl, by decide +kernel, rfl, by decide +kernel, by decide +kernel⟩
abbrev s_law_fold_due : Stmt := topS 30
theorem sc_law_fold_due : FnScope ["small", "big", "fold", "row"] ["small", "big", "fold"] (defScope s_law_fold_due) := ⟨rfl, rfl, rfl, by decide +kernel, rfl, by decide +kernel, by decide +kernel⟩
abbrev s_law_fold_holds : Stmt := topS 31
theorem sc_law_fold_holds : FnScope ["small", "big", "fold", "due", "first", "second", "handed", "told", "turned"] ["small", "big", "fold"] (defScope s_law_fold_holds) := ⟨rfl, rfl, rfl, by decide +kernel, rfl, by decide +kernel, by decide +kernel⟩
abbrev s_law_spoilt_fold : Stmt := topS 32
theorem sc_law_spoilt_fold : FnScope ["pool", "fold", "movable", "words", "keys", "kind", "changed", "key"] ["pool", "fold", "movable", "words"] (defScope s_law_spoilt_fold) := ⟨rfl, rfl, rfl, by decide +kernel, rfl, by decide +kernel, by decide +kernel⟩
abbrev s_law_folds_hold : Stmt := topS 33
theorem sc_law_folds_hold : FnScope ["pool", "small", "big", "hidden", "movable", "words", "fold", "value", "k", "changed", "at", "less"] ["pool", "small", "big", "hidden", "movable", "words"] (defScope s_law_folds_hold) := ⟨rfl, rfl, rfl, by decide +kernel, rfl, by decide +kernel, by decide +kernel⟩
abbrev s_law_closed_due : Stmt := topS 34
theorem sc_law_closed_due : FnScope ["small", "big", "rows", "setting", "targets", "waiting", "row", "here", "other"] ["small", "big", "rows", "setting"] (defScope s_law_closed_due) := ⟨rfl, rfl, rfl, by decide +kernel, rfl, by decide +kernel, by decide +kernel⟩
abbrev s_law_closed_holds : Stmt := topS 35
theorem sc_law_closed_holds : FnScope ["small", "big", "rows", "setting", "due", "first", "second", "third", "handed", "told", "turned"] ["small", "big", "rows", "setting"] (defScope s_law_closed_holds) := ⟨rfl, rfl, rfl, by decide +kernel, rfl, by decide +kernel, by decide +kernel⟩
abbrev s_law_closed_rows : Stmt := topS 36
theorem sc_law_closed_rows : FnScope ["big", "order", "setting", "targets", "waiting", "found", "k", "at", "here", "row", "other"] ["big", "order", "setting"] (defScope s_law_closed_rows) := ⟨rfl, rfl, rfl, by decide +kernel, rfl, by decide +kernel, by decide +kernel⟩
abbrev s_law_spoilt_rows : Stmt := topS 37
theorem sc_law_spoilt_rows : FnScope ["pool", "rows", "small", "spare", "kind", "at", "row", "front", "here", "behind"] ["pool", "rows", "small", "spare"] (defScope s_law_spoilt_rows) := ⟨rfl, rfl, rfl, by decide +kernel, rfl, by decide +kernel, by decide +kernel⟩
abbrev s_law_lists_hold : Stmt := topS 38
theorem sc_law_lists_hold : FnScope ["pool", "small", "big", "strange", "spare", "setting", "at", "order", "every", "rows", "k", "changed", "more"] ["pool", "small", "big", "strange", "spare", "setting"] (defScope s_law_lists_hold) := ⟨rfl, rfl, rfl, by decide +kernel, rfl, by decide +kernel, by decide +kernel⟩
abbrev s_law : Stmt := topS 39
theorem sc_law : FnScope ["script", "pool", "names", "words", "movable", "tables", "values", "small", "goals", "hidden", "value", "big", "row", "setting", "strange", "spare", "here"] ["script"] (defScope s_law) := ⟨rfl, rfl, rfl, by decide +kernel, rfl, by decide +kernel, by decide +kernel⟩
structure Txt (mg : Str → Option Value) : Prop where
  b_abs : mg "abs" = none
  b_all : mg "all" = none
  b_dict : mg "dict" = none
  b_enumerate : mg "enumerate" = none
  b_int : mg "int" = none
  b_len : mg "len" = none
  b_list : mg "list" = none
  b_range : mg "range" = none
  b_reversed : mg "reversed" = none
  b_set : mg "set" = none
  b_sorted : mg "sorted" = none
  b_str : mg "str" = none
  b_tuple : mg "tuple" = none
  b_zip : mg "zip" = none
theorem bb_abs : bootBuiltins "abs" = some (.builtin "abs") := by decide +kernel
theorem bb_all : bootBuiltins "all" = some (.builtin "all") := by decide +kernel
theorem bb_dict : bootBuiltins "dict" = some (.type "dict") := by decide +kernel
theorem bb_int : bootBuiltins "int" = some (.type "int") := by decide +kernel
theorem bb_len : bootBuiltins "len" = some (.builtin "len") := by decide +kernel
theorem bb_list : bootBuiltins "list" = some (.type "list") := by decide +kernel
theorem bb_set : bootBuiltins "set" = some (.type "set") := by decide +kernel
theorem bb_sorted : bootBuiltins "sorted" = some (.builtin "sorted") := by decide +kernel
theorem bb_str : bootBuiltins "str" = some (.type "str") := by decide +kernel
theorem bb_tuple : bootBuiltins "tuple" = some (.type "tuple") := by decide +kernel
def m_is_word (text_ : Str) : W Bool :=
    (bnd (bnd (ret (1 : Int)) fun a11 => bnd (bnd (bnd (ret text_) fun a8 => bnd (ret ()) fun a9 => ret (a8, a9)) fun a10 => rgd (a10.1.length ≤ sizeLine) ((a10.1.length : Nat) : Int)) fun a12 => bnd (ret (decide (a11 ≤ a12))) fun a13 => gte a13 (bnd (ret (8 : Int)) fun a14 => ret (decide (a12 ≤ a14))) (ret false)) fun a15 => gte a15 (bnd (bnd (ret text_) fun a6 => ret (Txt.isascii a6)) fun a7 => gte a7 (bnd (bnd (ret text_) fun a4 => ret (Txt.isalnum a4)) fun a5 => gte a5 (bnd (ret text_) fun a2 => bnd (bnd (ret text_) fun a1 => rgd (a1.length ≤ 5592405) (Txt.lower a1)) fun a3 => ret (decide (a2 = a3))) (ret false)) (ret false)) (ret false))
abbrev sp_is_word (K : PySem.W.Frag) (P : Program) (w : World) : Sp := spW (A := Str × Unit) (fun _ => F0) (fun z => [sK z.1]) (fun z => m_is_word z.1) bK
def m_values_of (rows_ : (Bool × List (List Str))) : W (List Str) :=
    (bnd (bnd (rgd ((rows_.2.flatMap (fun z1 => (cutL z1 (some (1 : Int)) none))).length < 4000) (rows_.2.flatMap (fun z1 => (cutL z1 (some (1 : Int)) none)))) fun a6 => bnd (ret ()) fun a7 => ret (a6, a7)) fun a8 => rgd (a8.1.length < 64) (sortU ltS a8.1))
abbrev sp_values_of (K : PySem.W.Frag) (P : Program) (w : World) : Sp := spW (A := (Bool × List (List Str)) × Unit) (fun _ => F0) (fun z => [(eS K eR) z.1]) (fun z => m_values_of z.1) (eL sK)
def m_movables_of (rows_ : (Bool × List (List Str))) : W (List Str) :=
    (bnd (bnd (bnd (ret rows_) fun a1 => bnd (ret ()) fun a2 => ret (a1, a2)) fun a3 => m_values_of a3.1) (lcG (fun z4 => (bnd (bnd (bnd (ret z4) fun a5 => bnd (ret ()) fun a6 => ret (a5, a6)) fun a7 => m_is_word a7.1) fun a8 => ret (!a8))) fun z4 => (ret z4)))
abbrev sp_movables_of (K : PySem.W.Frag) (P : Program) (w : World) : Sp := spW (A := (Bool × List (List Str)) × Unit) (fun _ => F0) (fun z => [(eS K eR) z.1]) (fun z => m_movables_of z.1) (eL sK)
def m_set_value (value_ : Str) (setting_ : (List (Str × Str))) : W Str :=
    (bnd (ret setting_) fun a1 => bnd (ret value_) fun a2 => bnd (ret value_) fun a3 => ret ((dGet ((fun x => x) a1) a2).getD a3))
abbrev sp_set_value (K : PySem.W.Frag) (P : Program) (w : World) : Sp := spW (A := Str × (List (Str × Str)) × Unit) (fun _ => F0) (fun z => [sK z.1, (eD sK) z.2.1]) (fun z => m_set_value z.1 z.2.1) sK
def m_filled_rows (rows_ : (Bool × List (List Str))) (setting_ : (List (Str × Str))) : W (List (List Str)) :=
    (bnd (ret rows_.2) (lcG (fun z1 => (ret true)) fun z1 => (bnd (bnd (ret z1) fun a3 => bnd (ret none) fun a4 => bnd (bnd (ret (1 : Int)) fun a2 => ret (some a2)) fun a5 => ret (cutL a3 a4 a5)) fun a19 => bnd (bnd (bnd (ret z1) fun a7 => bnd (bnd (ret (1 : Int)) fun a6 => ret (some a6)) fun a8 => bnd (ret none) fun a9 => ret (cutL a7 a8 a9)) (lcG (fun z10 => (ret true)) fun z10 => (bnd (bnd (ret z10) fun a13 => bnd (bnd (ret setting_) fun a11 => bnd (ret ()) fun a12 => ret (a11, a12)) fun a14 => ret (a13, a14)) fun a15 => m_set_value a15.1 a15.2.1))) fun a20 => catR a19 a20)))
abbrev sp_filled_rows (K : PySem.W.Frag) (P : Program) (w : World) : Sp := spW (A := (Bool × List (List Str)) × (List (Str × Str)) × Unit) (fun _ => F0) (fun z => [(eS K eR) z.1, (eD sK) z.2.1]) (fun z => m_filled_rows z.1 z.2.1) (eL eR)
def m_conditions (row_ : (List Str)) (setting_ : (List (Str × Str))) : W ((List (Int × Str)) × (List (Int × Int))) :=
    (bnd (ret ([] : (List (Int × Str)))) fun v1 => (bnd (ret ([] : (List (Int × Int)))) fun v3 => (bnd (ret ([] : (List (Str × Int)))) fun v5 => (bnd (bnd (ret row_) fun a9 => ret (enumL a9)) fun xs => loopW (fun (x17 : (Int × Str)) (s10 : (List (Int × Str)) × (List (Int × Int)) × (List (Str × Int))) (k11 : ((List (Int × Str)) × (List (Int × Int)) × (List (Str × Int))) → W ((List (Int × Str)) × (List (Int × Int)))) => (bnd (bnd (bnd (ret x17.1) fun a21 => bnd (ret (0 : Int)) fun a22 => ret (decide (a21 = a22))) fun a23 => gte a23 (ret true) (bnd (bnd (ret x17.2) fun a18 => bnd (ret ()) fun a19 => ret (a18, a19)) fun a20 => m_is_word a20.1)) fun a24 => gte a24 (bnd (bnd (ret x17.1) fun a29 => bnd (ret x17.2) fun a30 => ret (a29, a30)) fun a32 => bnd (appG s10.1 a32) fun v31 => (k11 (v31, s10.2.1, s10.2.2))) (bnd (bnd (ret x17.2) fun a33 => bnd (ret setting_) fun a34 => ret ((dGet ((fun x => x) a34) a33).isSome)) fun a35 => gte a35 (bnd (bnd (ret x17.1) fun a42 => bnd (bnd (ret setting_) fun a36 => bnd (ret x17.2) fun a37 => dgetW ((fun x => x) a36) a37) fun a43 => ret (a42, a43)) fun a45 => bnd (appG s10.1 a45) fun v44 => (k11 (v44, s10.2.1, s10.2.2))) (bnd (bnd (ret x17.2) fun a46 => bnd (ret ()) fun a47 => ret ((dGet ((fun _ => s10.2.2) a47) a46).isSome)) fun a48 => gte a48 (bnd (bnd (bnd (ret ()) fun a49 => bnd (ret x17.2) fun a50 => dgetW ((fun _ => s10.2.2) a49) a50) fun a55 => bnd (ret x17.1) fun a56 => ret (a55, a56)) fun a58 => bnd (appG s10.2.1 a58) fun v57 => (k11 (s10.1, v57, s10.2.2))) (bnd (ret x17.1) fun a60 => bnd (ret x17.2) fun a61 => bnd (dputG s10.2.2 a61 a60) fun v59 => (k11 (s10.1, s10.2.1, v59))))))) (fun s10 : (List (Int × Str)) × (List (Int × Int)) × (List (Str × Int)) => (bnd (ret s10.1) fun a66 => bnd (ret s10.2.1) fun a67 => ret (a66, a67))) xs (v1, v3, v5)))))
abbrev sp_conditions (K : PySem.W.Frag) (P : Program) (w : World) : Sp := spW (A := (List Str) × (List (Str × Str)) × Unit) (fun _ => F0) (fun z => [eR z.1, (eD sK) z.2.1]) (fun z => m_conditions z.1 z.2.1) (eP K (eL (eP K iK sK)) (eL (eP K iK iK)))
def m_meets (row_ : (List Str)) (fixed_ : (List (Int × Str))) (equal_ : (List (Int × Int))) : W Bool :=
    (bnd (ret fixed_) fun xs => loopW (fun (x8 : (Int × Str)) (s1 : Unit) (k2 : (Unit) → W Bool) => (bnd (bnd (bnd (ret row_) fun a9 => bnd (ret x8.1) fun a10 => ixW a9 a10) fun a11 => bnd (ret x8.2) fun a12 => ret (!decide (a11 = a12))) fun a13 => gte a13 (ret false) (k2 ()))) (fun s1 : Unit => (bnd (ret equal_) fun xs => loopW (fun (x21 : (Int × Int)) (s14 : Unit) (k15 : (Unit) → W Bool) => (bnd (bnd (bnd (ret row_) fun a22 => bnd (ret x21.1) fun a23 => ixW a22 a23) fun a26 => bnd (bnd (ret row_) fun a24 => bnd (ret x21.2) fun a25 => ixW a24 a25) fun a27 => ret (!decide (a26 = a27))) fun a28 => gte a28 (ret false) (k15 ()))) (fun s14 : Unit => (ret true)) xs ())) xs ())
abbrev sp_meets (K : PySem.W.Frag) (P : Program) (w : World) : Sp := spW (A := (List Str) × (List (Int × Str)) × (List (Int × Int)) × Unit) (fun _ => F0) (fun z => [eR z.1, (eL (eP K iK sK)) z.2.1, (eL (eP K iK iK)) z.2.2.1]) (fun z => m_meets z.1 z.2.1 z.2.2.1) bK
def m_partners (row_ : (List Str)) (setting_ : (List (Str × Str))) (rows_ : (List (List Str))) : W (List (List Str)) :=
    (bnd (bnd (bnd (ret row_) fun a3 => bnd (bnd (ret setting_) fun a1 => bnd (ret ()) fun a2 => ret (a1, a2)) fun a4 => ret (a3, a4)) fun a5 => m_conditions a5.1 a5.2.1) fun v6 => (bnd (ret rows_) (lcG (fun z7 => (bnd (bnd (bnd (bnd (ret z7) fun a15 => bnd (ret ()) fun a16 => ret (a15, a16)) fun a17 => ret ((a17.1.length : Nat) : Int)) fun a21 => bnd (bnd (bnd (ret row_) fun a18 => bnd (ret ()) fun a19 => ret (a18, a19)) fun a20 => ret ((a20.1.length : Nat) : Int)) fun a22 => ret (decide (a21 = a22))) fun a23 => gte a23 (bnd (bnd (ret z7) fun a12 => bnd (bnd (ret v6.1) fun a10 => bnd (bnd (ret v6.2) fun a8 => bnd (ret ()) fun a9 => ret (a8, a9)) fun a11 => ret (a10, a11)) fun a13 => ret (a12, a13)) fun a14 => m_meets a14.1 a14.2.1 a14.2.2.1) (ret false))) fun z7 => (ret z7))))
abbrev sp_partners (K : PySem.W.Frag) (P : Program) (w : World) : Sp := spW (A := (List Str) × (List (Str × Str)) × (List (List Str)) × Unit) (fun _ => F0) (fun z => [eR z.1, (eD sK) z.2.1, (eL eR) z.2.2.1]) (fun z => m_partners z.1 z.2.1 z.2.2.1) (eL eR)
def m_set_by (row_ : (List Str)) (partner_ : (List Str)) (setting_ : (List (Str × Str))) : W (List (Str × Str)) :=
    (bnd (bnd (ret setting_) fun a1 => ret ((fun x => x) a1)) fun v2 => (bnd (bnd (bnd (ret row_) fun a5 => bnd (bnd (ret (1 : Int)) fun a4 => ret (some a4)) fun a6 => bnd (ret none) fun a7 => ret (cutL a5 a6 a7)) fun a16 => bnd (bnd (ret partner_) fun a9 => bnd (bnd (ret (1 : Int)) fun a8 => ret (some a8)) fun a10 => bnd (ret none) fun a11 => ret (cutL a9 a10 a11)) fun a17 => ret (a16.zip a17)) fun xs => loopW (fun (x25 : (Str × Str)) (s18 : (List (Str × Str))) (k19 : ((List (Str × Str))) → W (List (Str × Str))) => (bnd (bnd (bnd (ret x25.1) fun a30 => bnd (ret ()) fun a31 => ret (!(dGet ((fun _ => s18) a31) a30).isSome)) fun a32 => gte a32 (bnd (bnd (bnd (ret x25.1) fun a26 => bnd (ret ()) fun a27 => ret (a26, a27)) fun a28 => m_is_word a28.1) fun a29 => ret (!a29)) (ret false)) fun a33 => gte a33 (bnd (ret x25.2) fun a35 => bnd (ret x25.1) fun a36 => bnd (dputG s18 a36 a35) fun v34 => (k19 v34)) (k19 s18))) (fun s18 : (List (Str × Str)) => (ret s18)) xs v2))
abbrev sp_set_by (K : PySem.W.Frag) (P : Program) (w : World) : Sp := spW (A := (List Str) × (List Str) × (List (Str × Str)) × Unit) (fun _ => F0) (fun z => [eR z.1, eR z.2.1, (eD sK) z.2.2.1]) (fun z => m_set_by z.1 z.2.1 z.2.2.1) (eD sK)
def m_is_fold (small_ : (Bool × List (List Str))) (big_ : (Bool × List (List Str))) (fold_ : (List (Str × Str))) : W Bool :=
    (bnd (bnd (bnd (ret fold_) fun a1 => sortDG ((fun x => x) a1)) fun a5 => bnd (bnd (bnd (ret small_) fun a2 => bnd (ret ()) fun a3 => ret (a2, a3)) fun a4 => m_movables_of a4.1) fun a6 => neG (okL okS) a5 a6) fun a7 => gte a7 (ret false) (bnd (bnd (ret big_.2) fun a8 => rgd (a8.length ≤ sizeLine) a8) fun v9 => (bnd (bnd (bnd (bnd (bnd (ret small_) fun a12 => bnd (bnd (ret fold_) fun a10 => bnd (ret ()) fun a11 => ret (a10, a11)) fun a13 => ret (a12, a13)) fun a14 => m_filled_rows a14.1 a14.2.1) (lcG (fun z15 => (ret true)) fun z15 => (bnd (ret z15) fun a16 => bnd (ret v9) fun a17 => ret (decide (a16 ∈ a17))))) fun a18 => bnd (ret ()) fun a19 => ret (a18, a19)) fun a20 => ret (a20.1.all id))))
abbrev sp_is_fold (K : PySem.W.Frag) (P : Program) (w : World) : Sp := spW (A := (Bool × List (List Str)) × (Bool × List (List Str)) × (List (Str × Str)) × Unit) (fun _ => F0) (fun z => [(eS K eR) z.1, (eS K eR) z.2.1, (eD sK) z.2.2.1]) (fun z => m_is_fold z.1 z.2.1 z.2.2.1) bK
def m_closed_end (small_ : (Bool × List (List Str))) (big_ : (Bool × List (List Str))) (rows_ : (Bool × List (List Str))) (at_ : Int) (setting_ : (List (Str × Str))) : W (Option Int) :=
    (bnd (bnd (ret small_.2) fun a1 => rgd (a1.length ≤ sizeLine) a1) fun v2 => (bnd (bnd (bnd (bnd (bnd (ret big_) fun a3 => bnd (ret ()) fun a4 => ret (a3, a4)) fun a5 => setG 64 a5.1.2) fun a6 => bnd (ret ()) fun a7 => ret (a6, a7)) fun a8 => sortRG a8.1) fun v9 => (bnd (bnd (bnd (ret setting_) fun a10 => bnd (ret ()) fun a11 => ret (a10, a11)) fun z => ret [z.1]) fun v12 => (whileW (fun s14 : (List (List (Str × Str))) × Int => (ret (!s14.1.isEmpty))) (fun (s14 : (List (List (Str × Str))) × Int) (k15 : ((List (List (Str × Str))) × Int) → W (Option Int)) => (bnd (bnd (bnd (ret s14.2) fun a29 => bnd (bnd (bnd (ret rows_) fun a26 => bnd (ret ()) fun a27 => ret (a26, a27)) fun a28 => ret ((a28.1.2.length : Nat) : Int)) fun a30 => ret (decide (a30 ≤ a29))) fun a31 => gte a31 (ret true) (bnd (bnd (ret rows_) fun a22 => bnd (ret s14.2) fun a23 => ixW a22.2 a23) fun a24 => bnd (ret v2) fun a25 => ret (!decide (a24 ∈ a25)))) fun a32 => gte a32 (ret none) (bnd (popW s14.1) fun p33 => (bnd (bnd (bnd (bnd (bnd (ret rows_) fun a34 => bnd (ret s14.2) fun a35 => ixW a34.2 a35) fun a40 => bnd (bnd (ret p33.1) fun a38 => bnd (bnd (ret v9) fun a36 => bnd (ret ()) fun a37 => ret (a36, a37)) fun a39 => ret (a38, a39)) fun a41 => ret (a40, a41)) fun a42 => m_partners a42.1 a42.2.1 a42.2.2.1) fun a43 => ret a43.reverse) fun xs => loopW (fun (x51 : (List Str)) (s44 : (List (List (Str × Str)))) (k45 : ((List (List (Str × Str)))) → W (Option Int)) => (bnd (bnd (bnd (bnd (ret rows_) fun a52 => bnd (ret s14.2) fun a53 => ixW a52.2 a53) fun a58 => bnd (bnd (ret x51) fun a56 => bnd (bnd (ret p33.1) fun a54 => bnd (ret ()) fun a55 => ret (a54, a55)) fun a57 => ret (a56, a57)) fun a59 => ret (a58, a59)) fun a60 => m_set_by a60.1 a60.2.1 a60.2.2.1) fun a62 => bnd (appG s44 a62) fun v61 => (k45 v61))) (fun s44 : (List (List (Str × Str))) => (bnd (ret (1 : Int)) fun a64 => (fun v63 => (k15 (s44, v63))) (s14.2 + a64))) xs p33.2)))) (fun s14 : (List (List (Str × Str))) × Int => (bnd (ret s14.2) fun z => ret (some z))) (v12, at_)))))
abbrev sp_closed_end (K : PySem.W.Frag) (P : Program) (w : World) : Sp := spW (A := (Bool × List (List Str)) × (Bool × List (List Str)) × (Bool × List (List Str)) × Int × (List (Str × Str)) × Unit) (fun _ => F0) (fun z => [(eS K eR) z.1, (eS K eR) z.2.1, (eS K eR) z.2.2.1, iK z.2.2.2.1, (eD sK) z.2.2.2.2.1]) (fun z => m_closed_end z.1 z.2.1 z.2.2.1 z.2.2.2.1 z.2.2.2.2.1) (eO iK)
def m_is_closed (small_ : (Bool × List (List Str))) (big_ : (Bool × List (List Str))) (rows_ : (Bool × List (List Str))) (setting_ : (Option (List (Str × Str)))) : W Bool :=
    (bnd (orElseW setting_ (ret ([] : (List (Str × Str))))) fun v1 => (bnd (bnd (bnd (ret small_) fun a10 => bnd (bnd (ret big_) fun a8 => bnd (bnd (ret rows_) fun a6 => bnd (bnd (ret (0 : Int)) fun a4 => bnd (bnd (ret v1) fun a2 => bnd (ret ()) fun a3 => ret (a2, a3)) fun a5 => ret (a4, a5)) fun a7 => ret (a6, a7)) fun a9 => ret (a8, a9)) fun a11 => ret (a10, a11)) fun a12 => m_closed_end a12.1 a12.2.1 a12.2.2.1 a12.2.2.2.1 a12.2.2.2.2.1) fun a16 => bnd (bnd (bnd (ret rows_) fun a13 => bnd (ret ()) fun a14 => ret (a13, a14)) fun a15 => ret ((a15.1.2.length : Nat) : Int)) fun a17 => ret (decide (a16 = some a17))))
abbrev sp_is_closed (K : PySem.W.Frag) (P : Program) (w : World) : Sp := spW (A := (Bool × List (List Str)) × (Bool × List (List Str)) × (Bool × List (List Str)) × (Option (List (Str × Str))) × Unit) (fun _ => F0) (fun z => [(eS K eR) z.1, (eS K eR) z.2.1, (eS K eR) z.2.2.1, (eO (eD sK)) z.2.2.2.1]) (fun z => m_is_closed z.1 z.2.1 z.2.2.1 z.2.2.2.1) bK
def m_law_names (many_ : Int) (signs_ : Str) : W (List Str) :=
    (bnd (bnd (ret (3 : Int)) pickW) fun v1 => (bnd (bnd (bnd (bnd (ret signs_) fun a2 => bnd (ret ()) fun a3 => ret (a2, a3)) fun a4 => rgd (a4.1.length ≤ sizeLine) ((a4.1.length : Nat) : Int)) pickW) fun v5 => (bnd (bnd (ret ([1, 5, 7, 11, 17, 19, 23, 25] : List Int)) oneW) fun v6 => (bnd (bnd (bnd (ret (2 : Int)) pickW) fun a7 => bnd (ret (0 : Int)) fun a8 => ret (decide (a7 = a8))) fun v9 => (bnd (bnd (ret ("" : Str)) fun a15 => bnd (bnd (bnd (ret (7 : Int)) rng1) (lcG (fun z14 => (ret true)) fun z14 => (bnd (ret signs_) oneC))) fun a16 => joinG a15 a16) fun v17 => (bnd (ret ([] : (List Str))) fun v18 => (bnd (bnd (ret many_) rng1) fun xs => loopW (fun (x31 : Int) (s24 : Str × (List Str)) (k25 : (Str × (List Str)) → W (List Str)) => (bnd (bnd (bnd (ret v1) fun a32 => bnd (ret (1 : Int)) fun a33 => ret (a32 + a33)) fun a36 => bnd (bnd (bnd (ret (3 : Int)) fun a34 => bnd (ret v1) fun a35 => ret (a34 - a35)) pickW) fun a37 => ret (a36 + a37)) fun v38 => (jn (fun s42 : Int => (jn (fun s52 : Str => (bnd (bnd (ret signs_) fun a78 => bnd (bnd (bnd (bnd (bnd (ret v5) fun a68 => bnd (bnd (ret x31) fun a66 => bnd (ret v6) fun a67 => mulG a66 a67) fun a69 => ret (a68 + a69)) fun a70 => bnd (ret ()) fun a71 => ret (a70, a71)) fun a72 => ret a72.1) fun a76 => bnd (bnd (bnd (ret signs_) fun a73 => bnd (ret ()) fun a74 => ret (a73, a74)) fun a75 => rgd (a75.1.length ≤ sizeLine) ((a75.1.length : Nat) : Int)) fun a77 => modG a76 a77) fun a79 => ixS a78 a79) fun v80 => (bnd (bnd (bnd (bnd (ret s52) fun a82 => bnd (ret none) fun a83 => bnd (bnd (ret v1) fun a81 => ret (some a81)) fun a84 => rgd (a82.length ≤ sizeLine) (cutS a82 a83 a84)) fun a85 => bnd (ret v80) fun a86 => catS a85 a86) fun a94 => bnd (bnd (ret s52) fun a91 => bnd (bnd (ret v1) fun a87 => ret (some a87)) fun a92 => bnd (bnd (bnd (ret s42) fun a88 => bnd (ret (1 : Int)) fun a89 => ret (a88 - a89)) fun a90 => ret (some a90)) fun a93 => rgd (a91.length ≤ sizeLine) (cutS a91 a92 a93)) fun a95 => catS a94 a95) fun a97 => bnd (appG s24.2 a97) fun v96 => (k25 (s52, v96))))) fun k53 : (Str) → W (List Str) => (bnd (bnd (ret v9) fun a56 => ret (!a56)) fun a57 => gte a57 (bnd (bnd (ret ("" : Str)) fun a63 => bnd (bnd (bnd (ret (7 : Int)) rng1) (lcG (fun z62 => (ret true)) fun z62 => (bnd (ret signs_) oneC))) fun a64 => joinG a63 a64) fun v65 => (k53 v65)) (k53 s24.1)))) fun k43 : (Int) → W (List Str) => (bnd (bnd (bnd (ret (8 : Int)) pickW) fun a46 => bnd (ret (0 : Int)) fun a47 => ret (decide (a46 = a47))) fun a48 => gte a48 (bnd (ret (8 : Int)) fun v49 => (k43 v49)) (k43 v38))))) (fun s24 : Str × (List Str) => (ret s24.2)) xs (v17, v18))))))))
abbrev sp_law_names (K : PySem.W.Frag) (P : Program) (w : World) : Sp := spW (A := Pl × Int × Str × Unit) (fun z => FP z.1) (fun z => [poolK z.1, iK z.2.1, sK z.2.2.1]) (fun z => m_law_names z.2.1 z.2.2.1) (eL sK)
def m_law_movable_values (words_ : (List Str)) : W (List Str) :=
    (bnd (ret ([] : (List Str))) fun v1 => (bnd (bnd (ret (4 : Int)) pickW) fun v3 => (jn (fun s7 : Int => (bnd (bnd (ret (1 : Int)) fun a15 => bnd (bnd (ret (90 : Int)) pickW) fun a16 => ret (a15 + a16)) fun v17 => (bnd (bnd (ret s7) rng1) fun xs => loopW (fun (x29 : Int) (s22 : (List Str)) (k23 : ((List Str)) → W (List Str)) => (bnd (bnd (ret (4 : Int)) pickW) fun v30 => (bnd (bnd (ret v30) fun a31 => bnd (ret (0 : Int)) fun a32 => ret (decide (a31 = a32))) fun a33 => gte a33 (bnd (bnd (bnd (bnd (bnd (ret ("f(" : Str)) fun a36 => bnd (bnd (ret words_) fun a34 => bnd (ret (0 : Int)) fun a35 => ixW a34 a35) fun a37 => catS a36 a37) fun a38 => bnd (ret (",?" : Str)) fun a39 => catS a38 a39) fun a45 => bnd (bnd (bnd (bnd (ret v17) fun a40 => bnd (ret x29) fun a41 => ret (a40 + a41)) fun a42 => bnd (ret ()) fun a43 => ret (a42, a43)) fun a44 => rgd (a44.1.natAbs.log2 < 1920) (toString a44.1 : Str)) fun a46 => catS a45 a46) fun a47 => bnd (ret (")" : Str)) fun a48 => catS a47 a48) fun a50 => bnd (appG s22 a50) fun v49 => (k23 v49)) (bnd (bnd (ret v30) fun a51 => bnd (ret (1 : Int)) fun a52 => ret (decide (a51 = a52))) fun a53 => gte a53 (bnd (bnd (bnd (ret ("XYZD" : Str)) fun a54 => bnd (ret x29) fun a55 => ixS a54 a55) fun a65 => bnd (bnd (bnd (bnd (ret ("" : Str)) fun a63 => bnd (bnd (bnd (bnd (ret v17) fun a58 => bnd (ret ()) fun a59 => ret (a58, a59)) fun a60 => rgd (a60.1.natAbs.log2 < 1920) (toString a60.1 : Str)) fun a61 => bnd (ret ()) fun a62 => ret (a61, a62)) fun a64 => ret (a63, a64)) fun z => ret [z.1, z.2.1]) fun a56 => bnd (bnd (ret (2 : Int)) pickW) fun a57 => ixW a56 a57) fun a66 => catS a65 a66) fun a68 => bnd (appG s22 a68) fun v67 => (k23 v67)) (bnd (bnd (ret ("?" : Str)) fun a76 => bnd (bnd (bnd (bnd (ret v17) fun a71 => bnd (bnd (ret (3 : Int)) fun a69 => bnd (ret x29) fun a70 => mulG a69 a70) fun a72 => ret (a71 + a72)) fun a73 => bnd (ret ()) fun a74 => ret (a73, a74)) fun a75 => rgd (a75.1.natAbs.log2 < 1920) (toString a75.1 : Str)) fun a77 => catS a76 a77) fun a79 => bnd (appG s22 a79) fun v78 => (k23 v78)))))) (fun s22 : (List Str) => (ret s22)) xs v1))) fun k8 : (Int) → W (List Str) => (bnd (bnd (bnd (ret (8 : Int)) pickW) fun a11 => bnd (ret (0 : Int)) fun a12 => ret (decide (a11 = a12))) fun a13 => gte a13 (bnd (ret (4 : Int)) fun v14 => (k8 v14)) (k8 v3)))))
abbrev sp_law_movable_values (K : PySem.W.Frag) (P : Program) (w : World) : Sp := spW (A := Pl × (List Str) × Unit) (fun z => FP z.1) (fun z => [poolK z.1, (eL sK) z.2.1]) (fun z => m_law_movable_values z.2.1) (eL sK)
def m_law_rows (tables_ : (List (Str × Int))) (values_ : (List Str)) (many_ : Int) : W (List (List Str)) :=
    (bnd (ret ([] : (List (List Str)))) fun v1 => (bnd (bnd (ret many_) rng1) fun xs => loopW (fun (x14 : Int) (s7 : (List (List Str))) (k8 : ((List (List Str))) → W (List (List Str))) => (bnd (bnd (ret tables_) oneW) fun v15 => (bnd (bnd (bnd (ret v15.2) rng1) (lcG (fun z20 => (ret true)) fun z20 => (bnd (ret values_) oneW))) fun v21 => (bnd (bnd (bnd (bnd (ret v15.1) fun a22 => bnd (ret ()) fun a23 => ret (a22, a23)) fun z => ret [z.1]) fun a24 => bnd (ret v21) fun a25 => catL a24 a25) fun a30 => bnd (appG s7 a30) fun v29 => (k8 v29))))) (fun s7 : (List (List Str)) => (ret s7)) xs v1))
abbrev sp_law_rows (K : PySem.W.Frag) (P : Program) (w : World) : Sp := spW (A := Pl × (List (Str × Int)) × (List Str) × Int × Unit) (fun z => FP z.1) (fun z => [poolK z.1, (eL (eP K sK iK)) z.2.1, (eL sK) z.2.2.1, iK z.2.2.2.1]) (fun z => m_law_rows z.2.1 z.2.2.1 z.2.2.2.1) (eL eR)
def m_law_is_word (text_ : Str) : W Bool :=
    (bnd (ret ("abcdefghijklmnopqrstuvwxyz0123456789" : Str)) fun v1 => (bnd (bnd (bnd (ret text_) fun a2 => ret (TL.tl a2)) (lcG (fun z3 => (bnd (ret z3) fun a4 => bnd (ret v1) fun a5 => ret (!decide (a4 ∈ TL.tl a5)))) fun z3 => (ret z3))) fun a6 => ret a6.isEmpty))
abbrev sp_law_is_word (K : PySem.W.Frag) (P : Program) (w : World) : Sp := spW (A := Str × Unit) (fun _ => F0) (fun z => [sK z.1]) (fun z => m_law_is_word z.1) bK
def m_law_values (rows_ : (List (List Str))) : W (List Str) :=
    (bnd (ret ([] : (List Str))) fun v1 => (bnd (ret rows_) fun xs => loopW (fun (x10 : (List Str)) (s3 : (List Str)) (k4 : ((List Str)) → W (List Str)) => (bnd (bnd (ret x10) fun a12 => bnd (bnd (ret (1 : Int)) fun a11 => ret (some a11)) fun a13 => bnd (ret none) fun a14 => ret (cutL a12 a13 a14)) fun a16 => bnd (extG s3 a16) fun v15 => (k4 v15))) (fun s3 : (List Str) => (bnd (bnd (bnd (bnd (ret s3) fun a17 => bnd (ret ()) fun a18 => ret (a17, a18)) fun a19 => setG 1000 a19.1) fun a20 => bnd (ret ()) fun a21 => ret (a20, a21)) fun a22 => rgd (a22.1.length < 64) (sortU ltS a22.1))) xs v1))
abbrev sp_law_values (K : PySem.W.Frag) (P : Program) (w : World) : Sp := spW (A := (List (List Str)) × Unit) (fun _ => F0) (fun z => [(eL eR) z.1]) (fun z => m_law_values z.1) (eL sK)
def m_law_movables (rows_ : (List (List Str))) : W (List Str) :=
    (bnd (bnd (bnd (ret rows_) fun a1 => bnd (ret ()) fun a2 => ret (a1, a2)) fun a3 => m_law_values a3.1) (lcG (fun z4 => (bnd (bnd (bnd (ret z4) fun a5 => bnd (ret ()) fun a6 => ret (a5, a6)) fun a7 => m_law_is_word a7.1) fun a8 => ret (!a8))) fun z4 => (ret z4)))
abbrev sp_law_movables (K : PySem.W.Frag) (P : Program) (w : World) : Sp := spW (A := (List (List Str)) × Unit) (fun _ => F0) (fun z => [(eL eR) z.1]) (fun z => m_law_movables z.1) (eL sK)
def m_law_set (row_ : (List Str)) (setting_ : (List (Str × Str))) : W (List Str) :=
    (bnd (bnd (bnd (bnd (ret row_) fun a1 => bnd (ret (0 : Int)) fun a2 => ixW a1 a2) fun a3 => bnd (ret ()) fun a4 => ret (a3, a4)) fun z => ret [z.1]) fun a13 => bnd (bnd (bnd (ret row_) fun a6 => bnd (bnd (ret (1 : Int)) fun a5 => ret (some a5)) fun a7 => bnd (ret none) fun a8 => ret (cutL a6 a7 a8)) (lcG (fun z9 => (ret true)) fun z9 => (bnd (ret setting_) fun a10 => bnd (ret z9) fun a11 => bnd (ret z9) fun a12 => ret ((dGet ((fun x => x) a10) a11).getD a12)))) fun a14 => catL a13 a14)
abbrev sp_law_set (K : PySem.W.Frag) (P : Program) (w : World) : Sp := spW (A := (List Str) × (List (Str × Str)) × Unit) (fun _ => F0) (fun z => [eR z.1, (eD sK) z.2.1]) (fun z => m_law_set z.1 z.2.1) eR
def m_law_is_partner (row_ : (List Str)) (other_ : (List Str)) (setting_ : (List (Str × Str))) : W Bool :=
    (bnd (bnd (bnd (bnd (ret other_) fun a9 => bnd (ret (0 : Int)) fun a10 => ixW a9 a10) fun a13 => bnd (bnd (ret row_) fun a11 => bnd (ret (0 : Int)) fun a12 => ixW a11 a12) fun a14 => ret (!decide (a13 = a14))) fun a15 => gte a15 (ret true) (bnd (bnd (bnd (ret other_) fun a1 => bnd (ret ()) fun a2 => ret (a1, a2)) fun a3 => ret ((a3.1.length : Nat) : Int)) fun a7 => bnd (bnd (bnd (ret row_) fun a4 => bnd (ret ()) fun a5 => ret (a4, a5)) fun a6 => ret ((a6.1.length : Nat) : Int)) fun a8 => ret (!decide (a7 = a8)))) fun a16 => gte a16 (ret false) (bnd (bnd (ret (1 : Int)) fun a24 => bnd (bnd (bnd (ret row_) fun a17 => bnd (ret ()) fun a18 => ret (a17, a18)) fun a19 => ret ((a19.1.length : Nat) : Int)) fun a25 => rng2 a24 a25) fun xs => loopW (fun (x33 : Int) (s26 : Unit) (k27 : (Unit) → W Bool) => (bnd (bnd (ret row_) fun a34 => bnd (ret x33) fun a35 => ixW a34 a35) fun v36 => (bnd (bnd (ret setting_) fun a39 => bnd (ret v36) fun a40 => bnd (bnd (ret other_) fun a37 => bnd (ret x33) fun a38 => ixW a37 a38) fun a41 => ret ((dGet ((fun x => x) a39) a40).getD a41)) fun v42 => (jn (fun s47 : Str => (bnd (bnd (bnd (ret other_) fun a56 => bnd (ret x33) fun a57 => ixW a56 a57) fun a58 => bnd (ret s47) fun a59 => ret (!decide (a58 = a59))) fun a60 => gte a60 (ret false) (bnd (bnd (ret (1 : Int)) fun a65 => bnd (ret x33) fun a66 => rng2 a65 a66) fun xs => loopW (fun (x74 : Int) (s67 : Unit) (k68 : (Unit) → W Bool) => (bnd (bnd (bnd (bnd (ret row_) fun a81 => bnd (ret x74) fun a82 => ixW a81 a82) fun a83 => bnd (ret v36) fun a84 => ret (decide (a83 = a84))) fun a85 => gte a85 (bnd (bnd (ret other_) fun a75 => bnd (ret x74) fun a76 => ixW a75 a76) fun a79 => bnd (bnd (ret other_) fun a77 => bnd (ret x33) fun a78 => ixW a77 a78) fun a80 => ret (!decide (a79 = a80))) (ret false)) fun a86 => gte a86 (ret false) (k68 ()))) (fun s67 : Unit => (k27 ())) xs ()))) fun k48 : (Str) → W Bool => (bnd (bnd (bnd (ret v36) fun a51 => bnd (ret ()) fun a52 => ret (a51, a52)) fun a53 => m_law_is_word a53.1) fun a54 => gte a54 (bnd (ret v36) fun v55 => (k48 v55)) (k48 v42)))))) (fun s26 : Unit => (ret true)) xs ()))
abbrev sp_law_is_partner (K : PySem.W.Frag) (P : Program) (w : World) : Sp := spW (A := (List Str) × (List Str) × (List (Str × Str)) × Unit) (fun _ => F0) (fun z => [eR z.1, eR z.2.1, (eD sK) z.2.2.1]) (fun z => m_law_is_partner z.1 z.2.1 z.2.2.1) bK
def m_law_set_by (row_ : (List Str)) (partner_ : (List Str)) (setting_ : (List (Str × Str))) : W (List (Str × Str)) :=
    (bnd (bnd (ret setting_) fun a1 => ret ((fun x => x) a1)) fun v2 => (bnd (bnd (ret (1 : Int)) fun a11 => bnd (bnd (bnd (ret row_) fun a4 => bnd (ret ()) fun a5 => ret (a4, a5)) fun a6 => ret ((a6.1.length : Nat) : Int)) fun a12 => rng2 a11 a12) fun xs => loopW (fun (x20 : Int) (s13 : (List (Str × Str))) (k14 : ((List (Str × Str))) → W (List (Str × Str))) => (bnd (bnd (bnd (bnd (bnd (bnd (ret row_) fun a25 => bnd (ret x20) fun a26 => ixW a25 a26) fun a27 => bnd (ret ()) fun a28 => ret (a27, a28)) fun a29 => m_law_is_word a29.1) fun a30 => ret (!a30)) fun a31 => gte a31 (bnd (bnd (ret row_) fun a21 => bnd (ret x20) fun a22 => ixW a21 a22) fun a23 => bnd (ret ()) fun a24 => ret (!(dGet ((fun _ => s13) a24) a23).isSome)) (ret false)) fun a32 => gte a32 (bnd (bnd (ret partner_) fun a33 => bnd (ret x20) fun a34 => ixW a33 a34) fun a38 => bnd (bnd (ret row_) fun a35 => bnd (ret x20) fun a36 => ixW a35 a36) fun a39 => bnd (dputG s13 a39 a38) fun v37 => (k14 v37)) (k14 s13))) (fun s13 : (List (Str × Str)) => (ret s13)) xs v2))
abbrev sp_law_set_by (K : PySem.W.Frag) (P : Program) (w : World) : Sp := spW (A := (List Str) × (List Str) × (List (Str × Str)) × Unit) (fun _ => F0) (fun z => [eR z.1, eR z.2.1, (eD sK) z.2.2.1]) (fun z => m_law_set_by z.1 z.2.1 z.2.2.1) (eD sK)
def m_law_fold_due (small_ : (List (List Str))) (big_ : (List (List Str))) (fold_ : (List (Str × Str))) : W Bool :=
    (bnd (bnd (bnd (ret fold_) fun a1 => sortDG ((fun x => x) a1)) fun a5 => bnd (bnd (bnd (ret small_) fun a2 => bnd (ret ()) fun a3 => ret (a2, a3)) fun a4 => m_law_movables a4.1) fun a6 => neG (okL okS) a5 a6) fun a7 => gte a7 (ret false) (bnd (ret small_) fun xs => loopW (fun (x15 : (List Str)) (s8 : Unit) (k9 : (Unit) → W Bool) => (bnd (bnd (bnd (bnd (ret x15) fun a18 => bnd (bnd (ret fold_) fun a16 => bnd (ret ()) fun a17 => ret (a16, a17)) fun a19 => ret (a18, a19)) fun a20 => m_law_set a20.1 a20.2.1) fun a21 => bnd (ret big_) fun a22 => niG (okL okS) a21 a22) fun a23 => gte a23 (ret false) (k9 ()))) (fun s8 : Unit => (ret true)) xs ()))
abbrev sp_law_fold_due (K : PySem.W.Frag) (P : Program) (w : World) : Sp := spW (A := (List (List Str)) × (List (List Str)) × (List (Str × Str)) × Unit) (fun _ => F0) (fun z => [(eL eR) z.1, (eL eR) z.2.1, (eD sK) z.2.2.1]) (fun z => m_law_fold_due z.1 z.2.1 z.2.2.1) bK
def m_law_fold_holds (small_ : (List (List Str))) (big_ : (List (List Str))) (fold_ : (List (Str × Str))) : W Bool :=
    (bnd (bnd (bnd (ret small_) fun a5 => bnd (bnd (ret big_) fun a3 => bnd (bnd (ret fold_) fun a1 => bnd (ret ()) fun a2 => ret (a1, a2)) fun a4 => ret (a3, a4)) fun a6 => ret (a5, a6)) fun a7 => m_law_fold_due a7.1 a7.2.1 a7.2.2.1) fun v8 => (bnd (ret small_) fun v12 => (bnd (ret big_) fun v16 => (bnd (bnd (ret fold_) fun a17 => ret ((fun x => x) a17)) fun v18 => (bnd (bnd (bnd (bnd (ret v12) fun z => ret (true, z)) fun a23 => bnd (bnd (bnd (ret v16) fun z => ret (true, z)) fun a21 => bnd (bnd (ret v18) fun a19 => bnd (ret ()) fun a20 => ret (a19, a20)) fun a22 => ret (a21, a22)) fun a24 => ret (a23, a24)) fun a25 => m_is_fold a25.1 a25.2.1 a25.2.2.1) fun v26 => (bnd (bnd (bnd (ret v12) fun a32 => bnd (ret small_) fun a33 => neG (okL (okL okS)) a32 a33) fun a34 => gte a34 (ret true) (bnd (bnd (ret v16) fun a29 => bnd (ret big_) fun a30 => neG (okL (okL okS)) a29 a30) fun a31 => gte a31 (ret true) (bnd (ret v18) fun a27 => bnd (ret fold_) fun a28 => neG (okL (okP okS okS)) a27 a28))) fun a35 => gte a35 (ret false) (bnd (bnd (bnd (bnd (ret v26) fun a40 => bnd (ret true) fun a41 => ret (decide (a40 = a41))) fun a42 => bnd (ret v8) fun a43 => ret (!decide (a42 = a43))) fun a44 => gte a44 (ret true) (bnd (bnd (ret v26) fun a36 => bnd (ret false) fun a37 => ret (decide (a36 = a37))) fun a38 => bnd (ret v8) fun a39 => ret (decide (a38 = a39)))) fun a45 => gte a45 (ret false) (bnd (bnd (ret small_) fun a46 => ret a46.reverse) fun v50 => (bnd (bnd (bnd (ret v18) fun a60 => bnd (bnd (bnd (ret v50) fun z => ret (false, z)) fun a58 => bnd (bnd (bnd (bnd (ret big_) fun a51 => bnd (ret big_) fun a52 => catL a51 a52) fun z => ret (false, z)) fun a56 => bnd (ret ()) fun a57 => ret (a56, a57)) fun a59 => ret (a58, a59)) fun a61 => ret (a60, a61)) fun z => m_is_fold z.2.1 z.2.2.1 z.1) fun v63 => (bnd (bnd (bnd (ret v63) fun a68 => bnd (ret true) fun a69 => ret (decide (a68 = a69))) fun a70 => bnd (ret v8) fun a71 => ret (decide (a70 = a71))) fun a72 => gte a72 (bnd (bnd (ret v63) fun a64 => bnd (ret false) fun a65 => ret (decide (a64 = a65))) fun a66 => bnd (ret v8) fun a67 => ret (!decide (a66 = a67))) (ret false)))))))))))
abbrev sp_law_fold_holds (K : PySem.W.Frag) (P : Program) (w : World) : Sp := spW (A := (List (List Str)) × (List (List Str)) × (List (Str × Str)) × Unit) (fun _ => F0) (fun z => [(eL eR) z.1, (eL eR) z.2.1, (eD sK) z.2.2.1]) (fun z => m_law_fold_holds z.1 z.2.1 z.2.2.1) bK
def m_law_spoilt_fold (fold_ : (List (Str × Str))) (movable_ : (List Str)) (words_ : (List Str)) : W (List (Str × Str)) :=
    (bnd (bnd (ret fold_) fun a1 => ret (((fun x => x) a1).map fun q => q.1)) fun v2 => (bnd (bnd (ret (6 : Int)) pickW) fun v3 => (bnd (ret ([] : (List (Str × Str)))) fun v4 => (bnd (bnd (ret v2) fun a6 => ret a6.reverse) fun xs => loopW (fun (x14 : Str) (s7 : (List (Str × Str))) (k8 : ((List (Str × Str))) → W (List (Str × Str))) => (bnd (bnd (ret fold_) fun a15 => bnd (ret x14) fun a16 => dgetW ((fun x => x) a15) a16) fun a18 => bnd (ret x14) fun a19 => bnd (dputG s7 a19 a18) fun v17 => (k8 v17))) (fun s7 : (List (Str × Str)) => (jn (fun s23 : (List (Str × Str)) => (ret s23)) fun k24 : ((List (Str × Str))) → W (List (Str × Str)) => (bnd (bnd (ret v3) fun a27 => bnd (ret (0 : Int)) fun a28 => ret (decide (a27 = a28))) fun a29 => gte a29 (bnd (bnd (bnd (bnd (ret ("?9999" : Str)) fun a38 => bnd (bnd (ret ("h(a)" : Str)) fun a36 => bnd (bnd (ret ("Q" : Str)) fun a34 => bnd (bnd (bnd (ret words_) fun a30 => bnd (ret (0 : Int)) fun a31 => ixW a30 a31) fun a32 => bnd (ret ()) fun a33 => ret (a32, a33)) fun a35 => ret (a34, a35)) fun a37 => ret (a36, a37)) fun a39 => ret (a38, a39)) fun z => ret [z.1, z.2.1, z.2.2.1, z.2.2.2.1]) oneW) fun v40 => (bnd (bnd (ret words_) oneW) fun a42 => bnd (ret v40) fun a43 => bnd (dputG s7 a43 a42) fun v41 => (k24 v41))) (bnd (bnd (ret v2) fun a44 => bnd (ret ([] : (List Str))) fun a45 => neG (okL okS) a44 a45) fun a46 => gte a46 (bnd (bnd (ret v2) oneW) fun v47 => (bnd (bnd (ret v3) fun a48 => bnd (ret (4 : Int)) fun a49 => ret (decide (a48 < a49))) fun a50 => gte a50 (bnd (bnd (bnd (bnd (ret words_) fun a51 => bnd (ret movable_) fun a52 => catL a51 a52) fun a55 => bnd (bnd (bnd (ret ("?7" : Str)) fun a53 => bnd (ret ()) fun a54 => ret (a53, a54)) fun z => ret [z.1]) fun a56 => catL a55 a56) oneW) fun a58 => bnd (ret v47) fun a59 => bnd (dputG s7 a59 a58) fun v57 => (k24 v57)) (bnd (bnd (ret v3) fun a60 => bnd (ret (4 : Int)) fun a61 => ret (decide (a60 = a61))) fun a62 => gte a62 (bnd (ret v47) fun a64 => bnd (dpopG s7 a64) fun v63 => (k24 v63)) (k24 s7)))) (k24 s7))))) xs v4))))
abbrev sp_law_spoilt_fold (K : PySem.W.Frag) (P : Program) (w : World) : Sp := spW (A := Pl × (List (Str × Str)) × (List Str) × (List Str) × Unit) (fun z => FP z.1) (fun z => [poolK z.1, (eD sK) z.2.1, (eL sK) z.2.2.1, (eL sK) z.2.2.2.1]) (fun z => m_law_spoilt_fold z.2.1 z.2.2.1 z.2.2.2.1) (eD sK)
def m_law_folds_hold (small_ : (List (List Str))) (big_ : (List (List Str))) (hidden_ : (List (Str × Str))) (movable_ : (List Str)) (words_ : (List Str)) : W Bool :=
    (bnd (ret ([] : (List (Str × Str)))) fun v1 => (bnd (bnd (bnd (ret small_) fun a3 => bnd (ret ()) fun a4 => ret (a3, a4)) fun a5 => m_law_movables a5.1) fun xs => loopW (fun (x13 : Str) (s6 : (List (Str × Str))) (k7 : ((List (Str × Str))) → W Bool) => (bnd (bnd (ret hidden_) fun a14 => bnd (ret x13) fun a15 => dgetW ((fun x => x) a14) a15) fun a17 => bnd (ret x13) fun a18 => bnd (dputG s6 a18 a17) fun v16 => (k7 v16))) (fun s6 : (List (Str × Str)) => (bnd (bnd (bnd (bnd (ret small_) fun a23 => bnd (bnd (ret big_) fun a21 => bnd (bnd (ret s6) fun a19 => bnd (ret ()) fun a20 => ret (a19, a20)) fun a22 => ret (a21, a22)) fun a24 => ret (a23, a24)) fun a25 => m_law_fold_holds a25.1 a25.2.1 a25.2.2.1) fun a26 => ret (!a26)) fun a27 => gte a27 (ret false) (bnd (bnd (ret (5 : Int)) rng1) fun xs => loopW (fun (x39 : Int) (s32 : Unit) (k33 : (Unit) → W Bool) => (bnd (bnd (bnd (ret ()) fun a46 => bnd (bnd (ret s6) fun a44 => bnd (bnd (ret movable_) fun a42 => bnd (bnd (ret words_) fun a40 => bnd (ret ()) fun a41 => ret (a40, a41)) fun a43 => ret (a42, a43)) fun a45 => ret (a44, a45)) fun a47 => ret (a46, a47)) fun a48 => m_law_spoilt_fold a48.2.1 a48.2.2.1 a48.2.2.2.1) fun v49 => (bnd (bnd (bnd (bnd (ret small_) fun a54 => bnd (bnd (ret big_) fun a52 => bnd (bnd (ret v49) fun a50 => bnd (ret ()) fun a51 => ret (a50, a51)) fun a53 => ret (a52, a53)) fun a55 => ret (a54, a55)) fun a56 => m_law_fold_holds a56.1 a56.2.1 a56.2.2.1) fun a57 => ret (!a57)) fun a58 => gte a58 (ret false) (k33 ())))) (fun s32 : Unit => (bnd (bnd (bnd (bnd (ret big_) fun a59 => bnd (ret ()) fun a60 => ret (a59, a60)) fun a61 => ret ((a61.1.length : Nat) : Int)) pickW) fun v62 => (bnd (bnd (bnd (ret big_) fun a64 => bnd (ret none) fun a65 => bnd (bnd (ret v62) fun a63 => ret (some a63)) fun a66 => ret (cutL a64 a65 a66)) fun a73 => bnd (bnd (ret big_) fun a70 => bnd (bnd (bnd (ret v62) fun a67 => bnd (ret (1 : Int)) fun a68 => ret (a67 + a68)) fun a69 => ret (some a69)) fun a71 => bnd (ret none) fun a72 => ret (cutL a70 a71 a72)) fun a74 => catL a73 a74) fun v75 => (bnd (bnd (bnd (ret small_) fun a87 => bnd (bnd (ret v75) fun a85 => bnd (bnd (ret s6) fun a83 => bnd (ret ()) fun a84 => ret (a83, a84)) fun a86 => ret (a85, a86)) fun a88 => ret (a87, a88)) fun a89 => m_law_fold_holds a89.1 a89.2.1 a89.2.2.1) fun a90 => gte a90 (bnd (bnd (ret ([] : (List (List Str)))) fun a80 => bnd (bnd (ret v75) fun a78 => bnd (bnd (ret ([] : (List (Str × Str)))) fun a76 => bnd (ret ()) fun a77 => ret (a76, a77)) fun a79 => ret (a78, a79)) fun a81 => ret (a80, a81)) fun a82 => m_law_fold_holds a82.1 a82.2.1 a82.2.2.1) (ret false))))) xs ()))) xs v1))
abbrev sp_law_folds_hold (K : PySem.W.Frag) (P : Program) (w : World) : Sp := spW (A := Pl × (List (List Str)) × (List (List Str)) × (List (Str × Str)) × (List Str) × (List Str) × Unit) (fun z => FP z.1) (fun z => [poolK z.1, (eL eR) z.2.1, (eL eR) z.2.2.1, (eD sK) z.2.2.2.1, (eL sK) z.2.2.2.2.1, (eL sK) z.2.2.2.2.2.1]) (fun z => m_law_folds_hold z.2.1 z.2.2.1 z.2.2.2.1 z.2.2.2.2.1 z.2.2.2.2.2.1) bK
def m_law_closed_due (small_ : (List (List Str))) (big_ : (List (List Str))) (rows_ : (List (List Str))) (setting_ : (List (Str × Str))) : W Bool :=
    (bnd (bnd (bnd (bnd (bnd (ret big_) fun a1 => bnd (ret ()) fun a2 => ret (a1, a2)) fun a3 => setG 64 a3.1) fun a4 => bnd (ret ()) fun a5 => ret (a4, a5)) fun a6 => sortRG a6.1) fun v7 => (bnd (bnd (bnd (bnd (ret setting_) fun a8 => ret ((fun x => x) a8)) fun a9 => bnd (ret ()) fun a10 => ret (a9, a10)) fun z => ret [z.1]) fun v11 => (bnd (ret rows_) fun xs => loopW (fun (x19 : (List Str)) (s12 : (List (List (Str × Str)))) (k13 : ((List (List (Str × Str)))) → W Bool) => (bnd (bnd (bnd (ret s12) fun a22 => ret a22.isEmpty) fun a24 => gte a24 (ret true) (bnd (ret x19) fun a20 => bnd (ret small_) fun a21 => niG (okL okS) a20 a21)) fun a25 => gte a25 (ret false) (bnd (bnd (ret s12) fun a27 => bnd (bnd (ret (1 : Int)) fun a26 => ret (-a26)) fun a28 => ixW a27 a28) fun v29 => (bnd (bnd (ret s12) fun a32 => bnd (ret none) fun a33 => bnd (bnd (bnd (ret (1 : Int)) fun a30 => ret (-a30)) fun a31 => ret (some a31)) fun a34 => ret (cutL a32 a33 a34)) fun v35 => (bnd (bnd (ret v7) fun a37 => ret a37.reverse) fun xs => loopW (fun (x45 : (List Str)) (s38 : (List (List (Str × Str)))) (k39 : ((List (List (Str × Str)))) → W Bool) => (bnd (bnd (bnd (ret x19) fun a50 => bnd (bnd (ret x45) fun a48 => bnd (bnd (ret v29) fun a46 => bnd (ret ()) fun a47 => ret (a46, a47)) fun a49 => ret (a48, a49)) fun a51 => ret (a50, a51)) fun a52 => m_law_is_partner a52.1 a52.2.1 a52.2.2.1) fun a53 => gte a53 (bnd (bnd (bnd (ret x19) fun a58 => bnd (bnd (ret x45) fun a56 => bnd (bnd (ret v29) fun a54 => bnd (ret ()) fun a55 => ret (a54, a55)) fun a57 => ret (a56, a57)) fun a59 => ret (a58, a59)) fun a60 => m_law_set_by a60.1 a60.2.1 a60.2.2.1) fun a62 => bnd (appG s38 a62) fun v61 => (k39 v61)) (k39 s38))) (fun s38 : (List (List (Str × Str))) => (k13 s38)) xs v35))))) (fun s12 : (List (List (Str × Str))) => (bnd (ret s12) fun a63 => ret a63.isEmpty)) xs v11)))
abbrev sp_law_closed_due (K : PySem.W.Frag) (P : Program) (w : World) : Sp := spW (A := (List (List Str)) × (List (List Str)) × (List (List Str)) × (List (Str × Str)) × Unit) (fun _ => F0) (fun z => [(eL eR) z.1, (eL eR) z.2.1, (eL eR) z.2.2.1, (eD sK) z.2.2.2.1]) (fun z => m_law_closed_due z.1 z.2.1 z.2.2.1 z.2.2.2.1) bK
def m_law_closed_holds (small_ : (List (List Str))) (big_ : (List (List Str))) (rows_ : (List (List Str))) (setting_ : (List (Str × Str))) : W Bool :=
    (bnd (bnd (bnd (ret small_) fun a7 => bnd (bnd (ret big_) fun a5 => bnd (bnd (ret rows_) fun a3 => bnd (bnd (ret setting_) fun a1 => bnd (ret ()) fun a2 => ret (a1, a2)) fun a4 => ret (a3, a4)) fun a6 => ret (a5, a6)) fun a8 => ret (a7, a8)) fun a9 => m_law_closed_due a9.1 a9.2.1 a9.2.2.1 a9.2.2.2.1) fun v10 => (bnd (ret small_) fun v14 => (bnd (ret big_) fun v18 => (bnd (ret rows_) fun v22 => (bnd (bnd (ret setting_) fun a23 => ret ((fun x => x) a23)) fun v24 => (bnd (bnd (bnd (bnd (ret v14) fun z => ret (true, z)) fun a31 => bnd (bnd (bnd (ret v18) fun z => ret (true, z)) fun a29 => bnd (bnd (bnd (ret v22) fun z => ret (true, z)) fun a27 => bnd (bnd (bnd (ret v24) fun z => ret (some z)) fun a25 => bnd (ret ()) fun a26 => ret (a25, a26)) fun a28 => ret (a27, a28)) fun a30 => ret (a29, a30)) fun a32 => ret (a31, a32)) fun a33 => m_is_closed a33.1 a33.2.1 a33.2.2.1 a33.2.2.2.1) fun v34 => (bnd (bnd (bnd (ret v14) fun a37 => bnd (ret small_) fun a38 => neG (okL (okL okS)) a37 a38) fun a39 => gte a39 (ret true) (bnd (ret v18) fun a35 => bnd (ret big_) fun a36 => neG (okL (okL okS)) a35 a36)) fun a40 => gte a40 (ret false) (bnd (bnd (bnd (ret v22) fun a43 => bnd (ret rows_) fun a44 => neG (okL (okL okS)) a43 a44) fun a45 => gte a45 (ret true) (bnd (ret v24) fun a41 => bnd (ret setting_) fun a42 => dNeG a41 a42)) fun a46 => gte a46 (ret false) (bnd (bnd (bnd (bnd (ret v34) fun a51 => bnd (ret true) fun a52 => ret (decide (a51 = a52))) fun a53 => bnd (ret v10) fun a54 => ret (!decide (a53 = a54))) fun a55 => gte a55 (ret true) (bnd (bnd (ret v34) fun a47 => bnd (ret false) fun a48 => ret (decide (a47 = a48))) fun a49 => bnd (ret v10) fun a50 => ret (decide (a49 = a50)))) fun a56 => gte a56 (ret false) (bnd (bnd (bnd (ret big_) fun a57 => ret a57.reverse) fun a58 => bnd (ret big_) fun a59 => catL a58 a59) fun v63 => (jn (fun s67 : Bool => (bnd (bnd (bnd (ret s67) fun a101 => bnd (ret true) fun a102 => ret (decide (a101 = a102))) fun a103 => bnd (ret v10) fun a104 => ret (decide (a103 = a104))) fun a105 => gte a105 (bnd (bnd (ret s67) fun a97 => bnd (ret false) fun a98 => ret (decide (a97 = a98))) fun a99 => bnd (ret v10) fun a100 => ret (!decide (a99 = a100))) (ret false))) fun k68 : (Bool) → W Bool => (bnd (bnd (ret setting_) fun a71 => bnd (ret ([] : (List (Str × Str)))) fun a72 => dEqG a71 a72) fun a73 => gte a73 (bnd (bnd (bnd (bnd (ret v63) fun z => ret (false, z)) fun a78 => bnd (bnd (bnd (ret v14) fun z => ret (true, z)) fun a76 => bnd (bnd (bnd (ret v22) fun z => ret (true, z)) fun a74 => bnd (ret ()) fun a75 => ret (a74, a75)) fun a77 => ret (a76, a77)) fun a79 => ret (a78, a79)) fun z => m_is_closed z.2.1 z.1 z.2.2.1 none) fun v81 => (k68 v81)) (bnd (bnd (bnd (bnd (ret small_) fun z => ret (false, z)) fun a94 => bnd (bnd (bnd (ret v63) fun z => ret (false, z)) fun a92 => bnd (bnd (bnd (ret rows_) fun z => ret (false, z)) fun a90 => bnd (ret ()) fun a91 => ret (a90, a91)) fun a93 => ret (a92, a93)) fun a95 => ret (a94, a95)) fun y => bnd (bnd (bnd (ret v24) fun z => ret (some z)) fun a88 => bnd (ret ()) fun a89 => ret (a88, a89)) fun z => m_is_closed y.1 y.2.1 y.2.2.1 z.1) fun v96 => (k68 v96))))))))))))))
abbrev sp_law_closed_holds (K : PySem.W.Frag) (P : Program) (w : World) : Sp := spW (A := (List (List Str)) × (List (List Str)) × (List (List Str)) × (List (Str × Str)) × Unit) (fun _ => F0) (fun z => [(eL eR) z.1, (eL eR) z.2.1, (eL eR) z.2.2.1, (eD sK) z.2.2.2.1]) (fun z => m_law_closed_holds z.1 z.2.1 z.2.2.1 z.2.2.2.1) bK
def m_law_closed_rows (big_ : (List (List Str))) (order_ : (List (List Str))) (setting_ : (List (Str × Str))) : W (List (List Str)) :=
    (bnd (bnd (bnd (bnd (bnd (ret big_) fun a1 => bnd (ret ()) fun a2 => ret (a1, a2)) fun a3 => setG 64 a3.1) fun a4 => bnd (ret ()) fun a5 => ret (a4, a5)) fun a6 => sortRG a6.1) fun v7 => (bnd (bnd (bnd (bnd (ret (0 : Int)) fun a13 => bnd (bnd (ret setting_) fun a8 => ret ((fun x => x) a8)) fun a14 => ret (a13, a14)) fun a15 => bnd (ret ()) fun a16 => ret (a15, a16)) fun z => ret [z.1]) fun v17 => (bnd (ret ([] : (List (List Str)))) fun v18 => (bnd (bnd (ret (2000 : Int)) rng1) fun xs => loopW (fun (x31 : Int) (s24 : (List (Int × (List (Str × Str)))) × (List (List Str))) (k25 : ((List (Int × (List (Str × Str)))) × (List (List Str))) → W (List (List Str))) => (bnd (bnd (ret s24.1) fun a32 => ret a32.isEmpty) fun a34 => gte a34 (ret s24.2) (bnd (bnd (ret s24.1) fun a36 => bnd (bnd (ret (1 : Int)) fun a35 => ret (-a35)) fun a37 => ixW a36 a37) fun v38 => (bnd (bnd (ret s24.1) fun a41 => bnd (ret none) fun a42 => bnd (bnd (bnd (ret (1 : Int)) fun a39 => ret (-a39)) fun a40 => ret (some a40)) fun a43 => ret (cutL a41 a42 a43)) fun v44 => (bnd (bnd (ret order_) fun a46 => bnd (ret v38.1) fun a47 => ixW a46 a47) fun v48 => (bnd (ret v48) fun a50 => bnd (appG s24.2 a50) fun v49 => (bnd (bnd (ret v7) fun a51 => ret a51.reverse) fun xs => loopW (fun (x59 : (List Str)) (s52 : (List (Int × (List (Str × Str))))) (k53 : ((List (Int × (List (Str × Str))))) → W (List (List Str))) => (bnd (bnd (bnd (ret v48) fun a64 => bnd (bnd (ret x59) fun a62 => bnd (bnd (ret v38.2) fun a60 => bnd (ret ()) fun a61 => ret (a60, a61)) fun a63 => ret (a62, a63)) fun a65 => ret (a64, a65)) fun a66 => m_law_is_partner a66.1 a66.2.1 a66.2.2.1) fun a67 => gte a67 (bnd (bnd (bnd (ret v38.1) fun a68 => bnd (ret (1 : Int)) fun a69 => ret (a68 + a69)) fun a81 => bnd (bnd (bnd (ret v48) fun a74 => bnd (bnd (ret x59) fun a72 => bnd (bnd (ret v38.2) fun a70 => bnd (ret ()) fun a71 => ret (a70, a71)) fun a73 => ret (a72, a73)) fun a75 => ret (a74, a75)) fun a76 => m_law_set_by a76.1 a76.2.1 a76.2.2.1) fun a82 => ret (a81, a82)) fun a84 => bnd (appG s52 a84) fun v83 => (k53 v83)) (k53 s52))) (fun s52 : (List (Int × (List (Str × Str)))) => (k25 (s52, v49))) xs v44))))))) (fun s24 : (List (Int × (List (Str × Str)))) × (List (List Str)) => (ret s24.2)) xs (v17, v18)))))
abbrev sp_law_closed_rows (K : PySem.W.Frag) (P : Program) (w : World) : Sp := spW (A := (List (List Str)) × (List (List Str)) × (List (Str × Str)) × Unit) (fun _ => F0) (fun z => [(eL eR) z.1, (eL eR) z.2.1, (eD sK) z.2.2.1]) (fun z => m_law_closed_rows z.1 z.2.1 z.2.2.1) (eL eR)
def m_law_spoilt_rows (rows_ : (List (List Str))) (small_ : (List (List Str))) (spare_ : (List Str)) : W (List (List Str)) :=
    (bnd (bnd (ret (8 : Int)) pickW) fun v1 => (bnd (bnd (bnd (bnd (ret rows_) fun a2 => bnd (ret ()) fun a3 => ret (a2, a3)) fun a4 => ret ((a4.1.length : Nat) : Int)) pickW) fun v5 => (bnd (bnd (ret small_) oneW) fun v6 => (bnd (bnd (ret rows_) fun a8 => bnd (ret none) fun a9 => bnd (bnd (ret v5) fun a7 => ret (some a7)) fun a10 => ret (cutL a8 a9 a10)) fun v11 => (bnd (bnd (ret rows_) fun a16 => bnd (bnd (ret v5) fun a12 => ret (some a12)) fun a17 => bnd (bnd (bnd (ret v5) fun a13 => bnd (ret (1 : Int)) fun a14 => ret (a13 + a14)) fun a15 => ret (some a15)) fun a18 => ret (cutL a16 a17 a18)) fun v19 => (bnd (bnd (ret rows_) fun a23 => bnd (bnd (bnd (ret v5) fun a20 => bnd (ret (1 : Int)) fun a21 => ret (a20 + a21)) fun a22 => ret (some a22)) fun a24 => bnd (ret none) fun a25 => ret (cutL a23 a24 a25)) fun v26 => (bnd (bnd (ret v1) fun a27 => bnd (ret (0 : Int)) fun a28 => ret (decide (a27 = a28))) fun a29 => gte a29 (bnd (bnd (ret v11) fun a32 => bnd (bnd (bnd (ret v6) fun a30 => bnd (ret ()) fun a31 => ret (a30, a31)) fun z => ret [z.1]) fun a33 => catL a32 a33) fun a34 => bnd (ret v26) fun a35 => catL a34 a35) (bnd (bnd (ret v1) fun a36 => bnd (ret (1 : Int)) fun a37 => ret (decide (a36 = a37))) fun a38 => gte a38 (bnd (ret rows_) fun a41 => bnd (ret none) fun a42 => bnd (bnd (bnd (ret (1 : Int)) fun a39 => ret (-a39)) fun a40 => ret (some a40)) fun a43 => ret (cutL a41 a42 a43)) (bnd (bnd (ret v1) fun a44 => bnd (ret (2 : Int)) fun a45 => ret (decide (a44 = a45))) fun a46 => gte a46 (bnd (ret rows_) fun a49 => bnd (bnd (bnd (ret v6) fun a47 => bnd (ret ()) fun a48 => ret (a47, a48)) fun z => ret [z.1]) fun a50 => catL a49 a50) (bnd (bnd (ret v1) fun a51 => bnd (ret (3 : Int)) fun a52 => ret (decide (a51 = a52))) fun a53 => gte a53 (bnd (bnd (bnd (ret v11) fun a58 => bnd (bnd (ret v26) fun a55 => bnd (ret none) fun a56 => bnd (bnd (ret (1 : Int)) fun a54 => ret (some a54)) fun a57 => ret (cutL a55 a56 a57)) fun a59 => catL a58 a59) fun a60 => bnd (ret v19) fun a61 => catL a60 a61) fun a66 => bnd (bnd (ret v26) fun a63 => bnd (bnd (ret (1 : Int)) fun a62 => ret (some a62)) fun a64 => bnd (ret none) fun a65 => ret (cutL a63 a64 a65)) fun a67 => catL a66 a67) (bnd (bnd (ret v1) fun a68 => bnd (ret (4 : Int)) fun a69 => ret (decide (a68 = a69))) fun a70 => gte a70 (bnd (bnd (ret v11) fun a73 => bnd (bnd (bnd (ret spare_) fun a71 => bnd (ret ()) fun a72 => ret (a71, a72)) fun z => ret [z.1]) fun a74 => catL a73 a74) fun a75 => bnd (ret v26) fun a76 => catL a75 a76) (bnd (bnd (ret v1) fun a77 => bnd (ret (5 : Int)) fun a78 => ret (decide (a77 = a78))) fun a79 => gte a79 (bnd (ret v11) fun a80 => bnd (ret v26) fun a81 => catL a80 a81) (bnd (bnd (ret v1) fun a82 => bnd (ret (6 : Int)) fun a83 => ret (decide (a82 = a83))) fun a84 => gte a84 (bnd (bnd (bnd (ret v11) fun a85 => bnd (ret v19) fun a86 => catL a85 a86) fun a87 => bnd (ret v19) fun a88 => catL a87 a88) fun a89 => bnd (ret v26) fun a90 => catL a89 a90) (bnd (bnd (ret v19) fun a91 => bnd (ret v26) fun a92 => catL a91 a92) fun a93 => bnd (ret v11) fun a94 => catL a93 a94))))))))))))))
abbrev sp_law_spoilt_rows (K : PySem.W.Frag) (P : Program) (w : World) : Sp := spW (A := Pl × (List (List Str)) × (List (List Str)) × (List Str) × Unit) (fun z => FP z.1) (fun z => [poolK z.1, (eL eR) z.2.1, (eL eR) z.2.2.1, eR z.2.2.2.1]) (fun z => m_law_spoilt_rows z.2.1 z.2.2.1 z.2.2.2.1) (eL eR)
def m_law_lists_hold (small_ : (List (List Str))) (big_ : (List (List Str))) (strange_ : (List Str)) (spare_ : (List Str)) (setting_ : (List (Str × Str))) : W Bool :=
    (bnd (bnd (bnd (bnd (bnd (ret small_) fun a1 => bnd (ret ()) fun a2 => ret (a1, a2)) fun a3 => ret ((a3.1.length : Nat) : Int)) fun a4 => bnd (ret (1 : Int)) fun a5 => ret (a4 + a5)) pickW) fun v6 => (bnd (bnd (bnd (bnd (ret small_) fun a8 => bnd (ret none) fun a9 => bnd (bnd (ret v6) fun a7 => ret (some a7)) fun a10 => ret (cutL a8 a9 a10)) fun a13 => bnd (bnd (bnd (ret strange_) fun a11 => bnd (ret ()) fun a12 => ret (a11, a12)) fun z => ret [z.1]) fun a14 => catL a13 a14) fun a19 => bnd (bnd (ret small_) fun a16 => bnd (bnd (ret v6) fun a15 => ret (some a15)) fun a17 => bnd (ret none) fun a18 => ret (cutL a16 a17 a18)) fun a20 => catL a19 a20) fun v21 => (jn (fun s28 : (List (List Str)) => (bnd (bnd (ret small_) fun a47 => bnd (bnd (bnd (ret strange_) fun a45 => bnd (ret ()) fun a46 => ret (a45, a46)) fun z => ret [z.1]) fun a48 => catL a47 a48) fun v49 => (bnd (bnd (bnd (ret big_) fun a54 => bnd (bnd (ret s28) fun a52 => bnd (bnd (ret setting_) fun a50 => bnd (ret ()) fun a51 => ret (a50, a51)) fun a53 => ret (a52, a53)) fun a55 => ret (a54, a55)) fun a56 => m_law_closed_rows a56.1 a56.2.1 a56.2.2.1) fun v57 => (bnd (bnd (bnd (bnd (ret v49) fun a64 => bnd (bnd (ret big_) fun a62 => bnd (bnd (ret v57) fun a60 => bnd (bnd (ret setting_) fun a58 => bnd (ret ()) fun a59 => ret (a58, a59)) fun a61 => ret (a60, a61)) fun a63 => ret (a62, a63)) fun a65 => ret (a64, a65)) fun a66 => m_law_closed_holds a66.1 a66.2.1 a66.2.2.1 a66.2.2.2.1) fun a67 => ret (!a67)) fun a68 => gte a68 (ret false) (bnd (bnd (bnd (bnd (ret v49) fun a75 => bnd (bnd (ret big_) fun a73 => bnd (bnd (ret ([] : (List (List Str)))) fun a71 => bnd (bnd (ret setting_) fun a69 => bnd (ret ()) fun a70 => ret (a69, a70)) fun a72 => ret (a71, a72)) fun a74 => ret (a73, a74)) fun a76 => ret (a75, a76)) fun a77 => m_law_closed_holds a77.1 a77.2.1 a77.2.2.1 a77.2.2.2.1) fun a78 => ret (!a78)) fun a79 => gte a79 (ret false) (bnd (bnd (ret (5 : Int)) rng1) fun xs => loopW (fun (x91 : Int) (s84 : Unit) (k85 : (Unit) → W Bool) => (bnd (bnd (bnd (ret ()) fun a98 => bnd (bnd (ret v57) fun a96 => bnd (bnd (ret v49) fun a94 => bnd (bnd (ret spare_) fun a92 => bnd (ret ()) fun a93 => ret (a92, a93)) fun a95 => ret (a94, a95)) fun a97 => ret (a96, a97)) fun a99 => ret (a98, a99)) fun a100 => m_law_spoilt_rows a100.2.1 a100.2.2.1 a100.2.2.2.1) fun v101 => (bnd (bnd (bnd (bnd (ret v49) fun a108 => bnd (bnd (ret big_) fun a106 => bnd (bnd (ret v101) fun a104 => bnd (bnd (ret setting_) fun a102 => bnd (ret ()) fun a103 => ret (a102, a103)) fun a105 => ret (a104, a105)) fun a107 => ret (a106, a107)) fun a109 => ret (a108, a109)) fun a110 => m_law_closed_holds a110.1 a110.2.1 a110.2.2.1 a110.2.2.2.1) fun a111 => ret (!a111)) fun a112 => gte a112 (ret false) (k85 ())))) (fun s84 : Unit => (bnd (bnd (ret big_) fun a115 => bnd (bnd (bnd (ret strange_) fun a113 => bnd (ret ()) fun a114 => ret (a113, a114)) fun z => ret [z.1]) fun a116 => catL a115 a116) fun v117 => (bnd (bnd (bnd (bnd (ret v49) fun a124 => bnd (bnd (ret v117) fun a122 => bnd (bnd (ret v57) fun a120 => bnd (bnd (ret setting_) fun a118 => bnd (ret ()) fun a119 => ret (a118, a119)) fun a121 => ret (a120, a121)) fun a123 => ret (a122, a123)) fun a125 => ret (a124, a125)) fun a126 => m_law_closed_holds a126.1 a126.2.1 a126.2.2.1 a126.2.2.2.1) fun a127 => ret (!a127)) fun a128 => gte a128 (ret false) (bnd (bnd (ret v49) fun a139 => bnd (bnd (bnd (ret big_) fun a130 => bnd (bnd (ret (1 : Int)) fun a129 => ret (some a129)) fun a131 => bnd (ret none) fun a132 => ret (cutL a130 a131 a132)) fun a137 => bnd (bnd (ret v57) fun a135 => bnd (bnd (ret setting_) fun a133 => bnd (ret ()) fun a134 => ret (a133, a134)) fun a136 => ret (a135, a136)) fun a138 => ret (a137, a138)) fun a140 => ret (a139, a140)) fun a141 => m_law_closed_holds a141.1 a141.2.1 a141.2.2.1 a141.2.2.2.1)))) xs ())))))) fun k29 : ((List (List Str))) → W Bool => (bnd (bnd (bnd (ret small_) fun a34 => bnd (ret ([] : (List (List Str)))) fun a35 => neG (okL (okL okS)) a34 a35) fun a36 => gte a36 (bnd (bnd (ret (3 : Int)) pickW) fun a32 => bnd (ret (0 : Int)) fun a33 => ret (decide (a32 = a33))) (ret false)) fun a37 => gte a37 (bnd (bnd (bnd (ret v21) fun a39 => bnd (ret none) fun a40 => bnd (bnd (ret (1 : Int)) fun a38 => ret (some a38)) fun a41 => ret (cutL a39 a40 a41)) fun a42 => bnd (ret v21) fun a43 => catL a42 a43) fun v44 => (k29 v44)) (k29 v21)))))
abbrev sp_law_lists_hold (K : PySem.W.Frag) (P : Program) (w : World) : Sp := spW (A := Pl × (List (List Str)) × (List (List Str)) × (List Str) × (List Str) × (List (Str × Str)) × Unit) (fun z => FP z.1) (fun z => [poolK z.1, (eL eR) z.2.1, (eL eR) z.2.2.1, eR z.2.2.2.1, eR z.2.2.2.2.1, (eD sK) z.2.2.2.2.2.1]) (fun z => m_law_lists_hold z.2.1 z.2.2.1 z.2.2.2.1 z.2.2.2.2.1 z.2.2.2.2.2.1) bK
def m_law : W Bool :=
    (bnd (bnd (bnd (ret ()) fun a6 => bnd (bnd (ret (3 : Int)) fun a4 => bnd (bnd (ret ("abcdefghijklmnopqrstuvwxyz" : Str)) fun a2 => bnd (ret ()) fun a3 => ret (a2, a3)) fun a5 => ret (a4, a5)) fun a7 => ret (a6, a7)) fun a8 => m_law_names a8.2.1 a8.2.2.1) fun v9 => (bnd (bnd (bnd (ret ()) fun a14 => bnd (bnd (ret (3 : Int)) fun a12 => bnd (bnd (ret ("abcdefghijklmnopqrstuvwxyz0123456789" : Str)) fun a10 => bnd (ret ()) fun a11 => ret (a10, a11)) fun a13 => ret (a12, a13)) fun a15 => ret (a14, a15)) fun a16 => m_law_names a16.2.1 a16.2.2.1) fun v17 => (bnd (bnd (bnd (ret ()) fun a20 => bnd (bnd (ret v17) fun a18 => bnd (ret ()) fun a19 => ret (a18, a19)) fun a21 => ret (a20, a21)) fun a22 => m_law_movable_values a22.2.1) fun v23 => (bnd (bnd (bnd (bnd (bnd (ret v9) fun a24 => bnd (ret (0 : Int)) fun a25 => ixW a24 a25) fun a32 => bnd (bnd (ret (1 : Int)) fun a26 => bnd (bnd (ret (3 : Int)) pickW) fun a27 => ret (a26 + a27)) fun a33 => ret (a32, a33)) fun a44 => bnd (bnd (bnd (bnd (ret v9) fun a34 => bnd (ret (1 : Int)) fun a35 => ixW a34 a35) fun a40 => bnd (ret (2 : Int)) fun a41 => ret (a40, a41)) fun a42 => bnd (ret ()) fun a43 => ret (a42, a43)) fun a45 => ret (a44, a45)) fun z => ret [z.1, z.2.1]) fun v46 => (jn (fun s51 : (List (Str × Int)) => (bnd (bnd (bnd (bnd (ret v17) fun a70 => bnd (ret none) fun a71 => bnd (bnd (ret (2 : Int)) fun a69 => ret (some a69)) fun a72 => ret (cutL a70 a71 a72)) fun a73 => bnd (ret v23) fun a74 => catL a73 a74) fun a75 => bnd (ret v23) fun a76 => catL a75 a76) fun v77 => (bnd (bnd (bnd (ret ()) fun a84 => bnd (bnd (ret s51) fun a82 => bnd (bnd (ret v77) fun a80 => bnd (bnd (bnd (ret (4 : Int)) pickW) fun a78 => bnd (ret ()) fun a79 => ret (a78, a79)) fun a81 => ret (a80, a81)) fun a83 => ret (a82, a83)) fun a85 => ret (a84, a85)) fun a86 => m_law_rows a86.2.1 a86.2.2.1 a86.2.2.2.1) fun v87 => (bnd (bnd (bnd (ret v17) fun a89 => bnd (ret none) fun a90 => bnd (bnd (ret (2 : Int)) fun a88 => ret (some a88)) fun a91 => ret (cutL a89 a90 a91)) fun a106 => bnd (bnd (bnd (bnd (ret ("?7" : Str)) fun a100 => bnd (bnd (bnd (bnd (ret ("g(" : Str)) fun a94 => bnd (bnd (ret v17) fun a92 => bnd (ret (2 : Int)) fun a93 => ixW a92 a93) fun a95 => catS a94 a95) fun a96 => bnd (ret (")" : Str)) fun a97 => catS a96 a97) fun a98 => bnd (ret ()) fun a99 => ret (a98, a99)) fun a101 => ret (a100, a101)) fun z => ret [z.1, z.2.1]) fun a103 => bnd (ret none) fun a104 => bnd (bnd (bnd (ret (3 : Int)) pickW) fun a102 => ret (some a102)) fun a105 => ret (cutL a103 a104 a105)) fun a107 => catL a106 a107) fun v108 => (bnd (ret ([] : (List (Str × Str)))) fun v109 => (bnd (ret v23) fun xs => loopW (fun (x118 : Str) (s111 : (List (Str × Str))) (k112 : ((List (Str × Str))) → W Bool) => (bnd (bnd (ret v108) oneW) fun a120 => bnd (ret x118) fun a121 => bnd (dputG s111 a121 a120) fun v119 => (k112 v119))) (fun s111 : (List (Str × Str)) => (bnd (bnd (ret v87) (lcG (fun z122 => (ret true)) fun z122 => (bnd (bnd (ret z122) fun a125 => bnd (bnd (ret s111) fun a123 => bnd (ret ()) fun a124 => ret (a123, a124)) fun a126 => ret (a125, a126)) fun a127 => m_law_set a127.1 a127.2.1))) fun v128 => (bnd (bnd (bnd (bnd (ret ()) fun a135 => bnd (bnd (ret s51) fun a133 => bnd (bnd (ret v108) fun a131 => bnd (bnd (bnd (ret (3 : Int)) pickW) fun a129 => bnd (ret ()) fun a130 => ret (a129, a130)) fun a132 => ret (a131, a132)) fun a134 => ret (a133, a134)) fun a136 => ret (a135, a136)) fun a137 => m_law_rows a137.2.1 a137.2.2.1 a137.2.2.2.1) fun a138 => bnd (ret v128) fun a139 => catL a138 a139) fun v140 => (bnd (bnd (bnd (bnd (ret ()) fun a151 => bnd (bnd (ret v87) fun a149 => bnd (bnd (ret v140) fun a147 => bnd (bnd (ret s111) fun a145 => bnd (bnd (ret v23) fun a143 => bnd (bnd (ret v17) fun a141 => bnd (ret ()) fun a142 => ret (a141, a142)) fun a144 => ret (a143, a144)) fun a146 => ret (a145, a146)) fun a148 => ret (a147, a148)) fun a150 => ret (a149, a150)) fun a152 => ret (a151, a152)) fun a153 => m_law_folds_hold a153.2.1 a153.2.2.1 a153.2.2.2.1 a153.2.2.2.2.1 a153.2.2.2.2.2.1) fun a154 => ret (!a154)) fun a155 => gte a155 (ret false) (bnd (ret ([] : (List (Str × Str)))) fun v156 => (bnd (bnd (ret v23) fun a160 => bnd (bnd (bnd (ret ("?9999" : Str)) fun a158 => bnd (ret ()) fun a159 => ret (a158, a159)) fun z => ret [z.1]) fun a161 => catL a160 a161) fun xs => loopW (fun (x169 : Str) (s162 : (List (Str × Str))) (k163 : ((List (Str × Str))) → W Bool) => (bnd (bnd (bnd (ret (3 : Int)) pickW) fun a170 => bnd (ret (0 : Int)) fun a171 => ret (decide (a170 = a171))) fun a172 => gte a172 (bnd (bnd (ret v108) oneW) fun a174 => bnd (ret x169) fun a175 => bnd (dputG s162 a175 a174) fun v173 => (k163 v173)) (k163 s162))) (fun s162 : (List (Str × Str)) => (bnd (bnd (bnd (ret v9) fun a176 => bnd (ret (2 : Int)) fun a177 => ixW a176 a177) fun a182 => bnd (ret ("X" : Str)) fun a183 => ret [a182, a183]) fun v184 => (bnd (bnd (bnd (ret v9) fun a185 => bnd (ret (2 : Int)) fun a186 => ixW a185 a186) fun a191 => bnd (ret ("Y" : Str)) fun a192 => ret [a191, a192]) fun v193 => (bnd (bnd (bnd (ret ([] : (List (Str × Str)))) fun a196 => bnd (bnd (ret s162) fun a194 => bnd (ret ()) fun a195 => ret (a194, a195)) fun a197 => ret (a196, a197)) fun z => ret [z.1, z.2.1]) fun xs => loopW (fun (x205 : (List (Str × Str))) (s198 : Unit) (k199 : (Unit) → W Bool) => (bnd (bnd (bnd (bnd (ret ()) fun a216 => bnd (bnd (ret v87) fun a214 => bnd (bnd (ret v140) fun a212 => bnd (bnd (ret v184) fun a210 => bnd (bnd (ret v193) fun a208 => bnd (bnd (ret x205) fun a206 => bnd (ret ()) fun a207 => ret (a206, a207)) fun a209 => ret (a208, a209)) fun a211 => ret (a210, a211)) fun a213 => ret (a212, a213)) fun a215 => ret (a214, a215)) fun a217 => ret (a216, a217)) fun a218 => m_law_lists_hold a218.2.1 a218.2.2.1 a218.2.2.2.1 a218.2.2.2.2.1 a218.2.2.2.2.2.1) fun a219 => ret (!a219)) fun a220 => gte a220 (ret false) (k199 ()))) (fun s198 : Unit => (ret true)) xs ())))) xs v156)))))) xs v109)))))) fun k52 : ((List (Str × Int))) → W Bool => (bnd (bnd (bnd (ret (8 : Int)) pickW) fun a55 => bnd (ret (0 : Int)) fun a56 => ret (decide (a55 = a56))) fun a57 => gte a57 (bnd (bnd (bnd (ret v9) fun a58 => bnd (ret (0 : Int)) fun a59 => ixW a58 a59) fun a64 => bnd (ret (4 : Int)) fun a65 => ret (a64, a65)) fun a67 => bnd (ret (1 : Int)) fun a68 => bnd (setLG v46 a68 a67) fun v66 => (k52 v66)) (k52 v46)))))))
abbrev sp_law (K : PySem.W.Frag) : Sp := spF (ι := ScIn) (fun _ => F0) (fun x => [seqK K (x.ns.map iK)]) (fun _ => pK (bK true))
/-! ### calls by keyword -/
def gFoldU : List Value → List Value → List Value
  | [], [f, s, b] => [s, b, f]
  | _, _ => []
def gFold : List V → List V → List V
  | [], [f, s, b] => [s, b, f]
  | _, _ => []
def gCl1 : List V → List V → List V
  | [], [b, s, r] => [s, b, r, .non]
  | _, _ => []
def gCl2 : List V → List V → List V
  | [s, b, r], [e] => [s, b, r, e]
  | _, _ => []
def gCl1U : List Value → List Value → List Value
  | [], [b, s, r] => [s, b, r, .none]
  | _, _ => []
def gCl2U : List Value → List Value → List Value
  | [s, b, r], [e] => [s, b, r, e]
  | _, _ => []
/-- the scope of a comprehension that is a statement's value -/
def outerScope (i : Nat) (b : List Stmt) : Scope := match b[i]? with
  | some (.Return (some (.ListComp _ _ sc _)) _) => sc
  | some (.Assign _ (.ListComp _ _ sc _) _) => sc
  | _ => defScope (.Pass ⟨0, 0, 0, 0⟩)
/-- .. as it stands within the def of scope d -/
def withinScope (i : Nat) (b : List Stmt) (d : Scope) : Scope := relabel (outerScope i b) { scope := d, locals := 0, globals := 0, cells := [] }
theorem ag_fold {G : Hp} {k1 k2 k3 : Know} {vs : List V} (r : AllK G vs [k1, k2, k3]) : AllK G (gFold [] vs) [k2, k3, k1] := by
  cases r with
  | cons a r => cases r with
    | cons b r => cases r with
      | cons c r => cases r; exact .cons b (.cons c (.cons a .nil))
theorem ag_cl1 {G : Hp} {k1 k2 k3 : Know} {f : List (Str × Str) → Know} {vs : List V} (r : AllK G vs [k1, k2, k3]) : AllK G (gCl1 [] vs) [k2, k1, k3, eO f none] := by
  cases r with
  | cons a r => cases r with
    | cons b r => cases r with
      | cons c r => cases r; exact .cons b (.cons a (.cons c (.cons rfl .nil)))
theorem ag_cl2 {G : Hp} {k1 k2 k3 k4 : Know} {vs zs : List V} (r : AllK G vs [k1, k2, k3]) (s : AllK G zs [k4]) : AllK G (gCl2 vs zs) [k1, k2, k3, k4] := by
  cases r with
  | cons a r => cases r with
    | cons b r => cases r with
      | cons c r =>
        cases r
        cases s with
        | cons d s => cases s; exact .cons a (.cons b (.cons c (.cons d .nil)))
structure CalF (P : Program) (w : World) (K : PySem.W.Frag) (mg : Str → Option Value) (base : Heap) (x : Str) (st : Stmt) (ps : List Str) (k : Nat) (f : Addr) (fd : FuncData) (sp : Sp) : Prop extends Cal P w K mg base x st ps k f fd sp where
  kb : KBinds K fd ps ["fold", "small", "big"] gFoldU gFold
/-- a def with one default -/
structure FnAtD (K : PySem.W.Frag) (mg : Str → Option Value) (x : Str) (st : Stmt) (ps : List Str) (f : Addr) (fd : FuncData) : Prop where
  F : FunD K x x (defArgs st) (defBody st) (defScope st) [.non] [] f fd
  b : Binds K fd ps []
  g : mg x = some (.ref f)
structure CalC (P : Program) (w : World) (K : PySem.W.Frag) (mg : Str → Option Value) (base : Heap) (x : Str) (st : Stmt) (ps : List Str) (k : Nat) (f : Addr) (fd : FuncData) (sp : Sp) : Prop where
  A : FnAtD K mg x st ps f fd
  O : FnOk P w K mg base CX0 k f fd ps sp
  kb1 : KBinds K fd ps ["big", "small", "rows"] gCl1U gCl1
  kb2 : KBn K fd ps 3 ["setting"] gCl2U gCl2

def t_is_word (K : PySem.W.Frag) (P : Program) (w : World) : TS :=
    (tRet (tAndV (tChain (rI0 fun i j => .bl (decide (i ≤ j))) (rI0 fun i j => .bl (decide (i ≤ j))) (tC (.int 1)) (tCB rLenS (tCons (tVar 0) tNil)) (tC (.int 8))) (tAndV (tM0 rAscii (tVar 0)) (tAndV (tM0 rAlnum (tVar 0)) (tOp rEq (tVar 0) (tM0 rLower (tVar 0)))))))
def t_values_of (K : PySem.W.Frag) (P : Program) (w : World) : TS :=
    (tRet (tCB (rSortX w) (tCons (tSc2 w (iOr (iList K (tVar 0)) (iTup K (tVar 0))) (gName 1) tYes (iTup K (tSl (rSlA K) (tVar 1) (tPart (tC (.int 1))) tNoPart)) (gName 2) tYes (tVar 2) [1, 2] [2]) tNil)))
def t_movables_of (K : PySem.W.Frag) (P : Program) (w : World) : TS :=
    (tRet (tLc (iList K (tCall (sp_values_of K P w) [] E0 (tCons (tVar 0) tNil))) (gName 1) (tNot (tB (tCall (sp_is_word K P w) [] E0 (tCons (tVar 1) tNil)))) (tVar 1) [1]))
def t_set_value (K : PySem.W.Frag) (P : Program) (w : World) : TS :=
    (tRet (tDGet2 (tVar 1) (tVar 0) (tVar 0)))
def t_filled_rows (K : PySem.W.Frag) (P : Program) (w : World) : TS :=
    (tRet (tLc (iOr (iList K (tVar 0)) (iTup K (tVar 0))) (gName 3) tYes (tOp (rCatT K) (tSl (rSlA K) (tVar 3) tNoPart (tPart (tC (.int 1)))) (tCB (rTupQ K) (tCons (tLc (iTup K (tSl (rSlA K) (tVar 3) (tPart (tC (.int 1))) tNoPart)) (gName 2) tYes (tCall (sp_set_value K P w) [] E0 (tCons (tVar 2) (tCons (tVar 1) tNil))) [2]) tNil))) [3]))
def t_conditions (K : PySem.W.Frag) (P : Program) (w : World) : TS :=
    (tSeq (tAsg (tLst tNil) (gName 2))
    (tSeq (tAsg (tLst tNil) (gName 3))
    (tSeq (tAsg tDNewK (gName 4))
    (tSeq (tFor (iEnumT K (tCons (tVar 0) tNil)) (gTup K 2 (gCons (gName 5) (gCons (gName 6) gNil))) (tIfS (tOr (tTest (tOp rEq (tVar 5) (tC (.int 0)))) (tB (tCall (sp_is_word K P w) [] E0 (tCons (tVar 6) tNil)))) (tDrop (tBM K "list" rAppend (tVar 2) (tCons (tTup (tCons (tVar 5) (tCons (tVar 6) tNil))) tNil))) (tIfS (tB (tDIn (tVar 6) (tVar 1))) (tDrop (tBM K "list" rAppend (tVar 2) (tCons (tTup (tCons (tVar 5) (tCons (tDGet (tVar 1) (tVar 6)) tNil))) tNil))) (tIfS (tB (tDIn (tVar 6) (tVar 4))) (tDrop (tBM K "list" rAppend (tVar 3) (tCons (tTup (tCons (tDGet (tVar 4) (tVar 6)) (tCons (tVar 5) tNil))) tNil))) (sDPut (tVar 4) (tVar 6) (tVar 5))))))
    (tRet (tTup (tCons (tVar 2) (tCons (tVar 3) tNil))))))))
def t_meets (K : PySem.W.Frag) (P : Program) (w : World) : TS :=
    (tSeq (tFor (iList K (tVar 1)) (gTup K 2 (gCons (gName 3) (gCons (gName 4) gNil))) (tIfS (tTest (tOp rNe (tOp (rIxT K) (tVar 0) (tVar 3)) (tVar 4))) (tRet (tC (.bl false))) tNext))
    (tSeq (tFor (iList K (tVar 2)) (gTup K 2 (gCons (gName 5) (gCons (gName 6) gNil))) (tIfS (tTest (tOp rNe (tOp (rIxT K) (tVar 0) (tVar 5)) (tOp (rIxT K) (tVar 0) (tVar 6)))) (tRet (tC (.bl false))) tNext))
    (tRet (tC (.bl true)))))
def t_partners (K : PySem.W.Frag) (P : Program) (w : World) : TS :=
    (tSeq (tAsg (tCall (sp_conditions K P w) [] E0 (tCons (tVar 0) (tCons (tVar 1) tNil))) (gTup K 2 (gCons (gName 3) (gCons (gName 4) gNil))))
    (tRet (tLc (iList K (tVar 2)) (gName 5) (tAnd (tTest (tOp rEq (tCB (rLenQ K) (tCons (tVar 5) tNil)) (tCB (rLenQ K) (tCons (tVar 0) tNil)))) (tB (tCall (sp_meets K P w) [] E0 (tCons (tVar 5) (tCons (tVar 3) (tCons (tVar 4) tNil)))))) (tVar 5) [5])))
def t_set_by (K : PySem.W.Frag) (P : Program) (w : World) : TS :=
    (tSeq (tAsg (tCB rDictD (tCons (tVar 2) tNil)) (gName 3))
    (tSeq (tFor (RZ.iZipA K (tCons (tSl (rSlA K) (tVar 0) (tPart (tC (.int 1))) tNoPart) (tCons (tSl (rSlA K) (tVar 1) (tPart (tC (.int 1))) tNoPart) tNil))) (gTup K 2 (gCons (gName 4) (gCons (gName 5) gNil))) (tIfS (tAnd (tB (tDNotIn (tVar 4) (tVar 3))) (tNot (tB (tCall (sp_is_word K P w) [] E0 (tCons (tVar 4) tNil))))) (sDPut (tVar 3) (tVar 4) (tVar 5)) tNext))
    (tRet (tVar 3))))
def t_is_fold (K : PySem.W.Frag) (P : Program) (w : World) : TS :=
    (tSeq (tIfS (tTest (tOp (rNeD K) (tCB rSortDk (tCons (tVar 2) tNil)) (tCall (sp_movables_of K P w) [] E0 (tCons (tVar 0) tNil)))) (tRet (tC (.bl false))) tNext)
    (tSeq (tAsg (tDcT (iOr (iList K (tVar 1)) (iTup K (tVar 1))) (gName 4) tYes (tVar 4) (tC (.bl true)) [4]) (gName 3))
    (tRet (tCB (rAll K) (tCons (tLc (iList K (tCall (sp_filled_rows K P w) [] E0 (tCons (tVar 0) (tCons (tVar 2) tNil)))) (gName 4) tYes (tDIn (tVar 4) (tVar 3)) [4]) tNil)))))
def t_closed_end (K : PySem.W.Frag) (P : Program) (w : World) : TS :=
    (tSeq (tAsg (tDcT (iOr (iList K (tVar 0)) (iTup K (tVar 0))) (gName 6) tYes (tVar 6) (tC (.bl true)) [6]) (gName 5))
    (tSeq (tAsg (tCB (rSortT K P w) (tCons (tCB (rSetT K P w) (tCons (tVar 1) tNil)) tNil)) (gName 7))
    (tSeq (tAsg (tLst (tCons (tVar 4) tNil)) (gName 8))
    (tSeq (tWhile (tTru K (tVar 8)) (tSeq (tIfS (tOr (tTest (tOp (rI0 fun i j => .bl (decide (j ≤ i))) (tVar 3) (tCB (rLenQ K) (tCons (tVar 2) tNil)))) (tB (tDNotIn (tOp (rIx K) (tVar 2) (tVar 3)) (tVar 5)))) (tRet (tC .non)) tNext)
      (tSeq (tAsg (tBM K "list" rPop (tVar 8) tNil) (gName 9))
      (tSeq (tFor (RT.iRevA K (tCall (sp_partners K P w) [] E0 (tCons (tOp (rIx K) (tVar 2) (tVar 3)) (tCons (tVar 9) (tCons (tVar 7) tNil))))) (gName 10) (tDrop (tBM K "list" rAppend (tVar 8) (tCons (tCall (sp_set_by K P w) [] E0 (tCons (tOp (rIx K) (tVar 2) (tVar 3)) (tCons (tVar 10) (tCons (tVar 9) tNil)))) tNil))))
      (tAug 3 (tC (.int 1)) (ipI fun i j => i + j))))))
    (tRet (tVar 3))))))
def t_is_closed (K : PySem.W.Frag) (P : Program) (w : World) : TS :=
    (tSeq (tAsg (tIf (tTest (tOp rIsNon (tVar 3) (tC .non))) tDNewK (tVar 3)) (gName 4))
    (tRet (tOp rEq (tCall (sp_closed_end K P w) [] E0 (tCons (tVar 0) (tCons (tVar 1) (tCons (tVar 2) (tCons (tC (.int 0)) (tCons (tVar 4) tNil)))))) (tCB (rLenQ K) (tCons (tVar 2) tNil)))))
def t_law_names (K : PySem.W.Frag) (P : Program) (w : World) : TS :=
    (tSeq (tAsg (tCall (sp_law_pick K) [] E0 (tCons (tVar 0) (tCons (tC (.int 3)) tNil))) (gName 3))
    (tSeq (tAsg (tCall (sp_law_pick K) [] E0 (tCons (tVar 0) (tCons (tCB rLenS (tCons (tVar 2) tNil)) tNil))) (gName 4))
    (tSeq (tAsg (tCall (sp_law_one_of K) [] E0 (tCons (tVar 0) (tCons (tLst (tCons (tC (.int 1)) (tCons (tC (.int 5)) (tCons (tC (.int 7)) (tCons (tC (.int 11)) (tCons (tC (.int 17)) (tCons (tC (.int 19)) (tCons (tC (.int 23)) (tCons (tC (.int 25)) tNil))))))))) tNil))) (gName 5))
    (tSeq (tAsg (tOp rEq (tCall (sp_law_pick K) [] E0 (tCons (tVar 0) (tCons (tC (.int 2)) tNil))) (tC (.int 0))) (gName 6))
    (tSeq (tAsg (tM1 (rJoinQ K) (tC (.str "")) (tLc (iRng1 (tCons (tC (.int 7)) tNil)) (gName 8) tYes (tCall (sp_law_one_of K) [] E0 (tCons (tVar 0) (tCons (tVar 2) tNil))) [8])) (gName 7))
    (tSeq (tAsg (tLst tNil) (gName 9))
    (tSeq (tFor (iRng1 (tCons (tVar 1) tNil)) (gName 8) (tSeq (tAsg (tOp (rI0 fun i j => .int (i + j)) (tOp (rI0 fun i j => .int (i + j)) (tVar 3) (tC (.int 1))) (tCall (sp_law_pick K) [] E0 (tCons (tVar 0) (tCons (tOp (rI0 fun i j => .int (i - j)) (tC (.int 3)) (tVar 3)) tNil)))) (gName 10))
      (tSeq (tIfS (tTest (tOp rEq (tCall (sp_law_pick K) [] E0 (tCons (tVar 0) (tCons (tC (.int 8)) tNil))) (tC (.int 0)))) (tAsg (tC (.int 8)) (gName 10)) tNext)
      (tSeq (tIfS (tNot (tB (tVar 6))) (tAsg (tM1 (rJoinQ K) (tC (.str "")) (tLc (iRng1 (tCons (tC (.int 7)) tNil)) (gName 11) tYes (tCall (sp_law_one_of K) [] E0 (tCons (tVar 0) (tCons (tVar 2) tNil))) [11])) (gName 7)) tNext)
      (tSeq (tAsg (tOp rIxS (tVar 2) (tOp (rI (fun _ j => 0 < j) fun i j => .int (i % j)) (tCB rInt (tCons (tOp (rI0 fun i j => .int (i + j)) (tVar 4) (tOp (rI CMul fun i j => .int (i * j)) (tVar 8) (tVar 5))) tNil)) (tCB rLenS (tCons (tVar 2) tNil)))) (gName 12))
      (tDrop (tBM K "list" rAppend (tVar 9) (tCons (tOp rAddStr (tOp rAddStr (tSl rSlS (tVar 7) tNoPart (tPart (tVar 3))) (tVar 12)) (tSl rSlS (tVar 7) (tPart (tVar 3)) (tPart (tOp (rI0 fun i j => .int (i - j)) (tVar 10) (tC (.int 1)))))) tNil))))))))
    (tRet (tVar 9)))))))))
def t_law_movable_values (K : PySem.W.Frag) (P : Program) (w : World) : TS :=
    (tSeq (tAsg (tLst tNil) (gName 2))
    (tSeq (tAsg (tCall (sp_law_pick K) [] E0 (tCons (tVar 0) (tCons (tC (.int 4)) tNil))) (gName 3))
    (tSeq (tIfS (tTest (tOp rEq (tCall (sp_law_pick K) [] E0 (tCons (tVar 0) (tCons (tC (.int 8)) tNil))) (tC (.int 0)))) (tAsg (tC (.int 4)) (gName 3)) tNext)
    (tSeq (tAsg (tOp (rI0 fun i j => .int (i + j)) (tC (.int 1)) (tCall (sp_law_pick K) [] E0 (tCons (tVar 0) (tCons (tC (.int 90)) tNil)))) (gName 4))
    (tSeq (tFor (iRng1 (tCons (tVar 3) tNil)) (gName 5) (tSeq (tAsg (tCall (sp_law_pick K) [] E0 (tCons (tVar 0) (tCons (tC (.int 4)) tNil))) (gName 6))
      (tIfS (tTest (tOp rEq (tVar 6) (tC (.int 0)))) (tDrop (tBM K "list" rAppend (tVar 2) (tCons (tOp rAddStr (tOp rAddStr (tOp rAddStr (tOp rAddStr (tC (.str "f(")) (tOp (rIxL K) (tVar 1) (tC (.int 0)))) (tC (.str ",?"))) (tCB rStrI (tCons (tOp (rI0 fun i j => .int (i + j)) (tVar 4) (tVar 5)) tNil))) (tC (.str ")"))) tNil))) (tIfS (tTest (tOp rEq (tVar 6) (tC (.int 1)))) (tDrop (tBM K "list" rAppend (tVar 2) (tCons (tOp rAddStr (tOp rIxS (tC (.str "XYZD")) (tVar 5)) (tOp (rIxL K) (tLst (tCons (tC (.str "")) (tCons (tCB rStrI (tCons (tVar 4) tNil)) tNil))) (tCall (sp_law_pick K) [] E0 (tCons (tVar 0) (tCons (tC (.int 2)) tNil))))) tNil))) (tDrop (tBM K "list" rAppend (tVar 2) (tCons (tOp rAddStr (tC (.str "?")) (tCB rStrI (tCons (tOp (rI0 fun i j => .int (i + j)) (tVar 4) (tOp (rI CMul fun i j => .int (i * j)) (tC (.int 3)) (tVar 5))) tNil))) tNil)))))))
    (tRet (tVar 2)))))))
def t_law_rows (K : PySem.W.Frag) (P : Program) (w : World) : TS :=
    (tSeq (tAsg (tLst tNil) (gName 4))
    (tSeq (tFor (iRng1 (tCons (tVar 3) tNil)) (gName 5) (tSeq (tAsg (tCall (sp_law_one_of K) [] E0 (tCons (tVar 0) (tCons (tVar 1) tNil))) (gTup K 2 (gCons (gName 6) (gCons (gName 7) gNil))))
      (tSeq (tAsg (tLc (iRng1 (tCons (tVar 7) tNil)) (gName 9) tYes (tCall (sp_law_one_of K) [] E0 (tCons (tVar 0) (tCons (tVar 2) tNil))) [9]) (gName 8))
      (tDrop (tBM K "list" rAppend (tVar 4) (tCons (tCB (rTupQ K) (tCons (tOp rCat (tLst (tCons (tVar 6) tNil)) (tVar 8)) tNil)) tNil))))))
    (tRet (tVar 4))))
def t_law_is_word (K : PySem.W.Frag) (P : Program) (w : World) : TS :=
    (tSeq (tAsg (tC (.str "abcdefghijklmnopqrstuvwxyz0123456789")) (gName 1))
    (tRet (tOp rEqE (tLc (iStr (tVar 0)) (gName 2) (tTest (tOp rNiSg (tVar 2) (tVar 1))) (tVar 2) [2]) (tLst tNil))))
def t_law_values (K : PySem.W.Frag) (P : Program) (w : World) : TS :=
    (tSeq (tAsg (tLst tNil) (gName 1))
    (tSeq (tFor (iList K (tVar 0)) (gName 2) (tDrop (tBM K "list" rExtT (tVar 1) (tCons (tSl (rSlA K) (tVar 2) (tPart (tC (.int 1))) tNoPart) tNil))))
    (tRet (tCB (rSortX w) (tCons (tCB (rSetX K w) (tCons (tVar 1) tNil)) tNil)))))
def t_law_movables (K : PySem.W.Frag) (P : Program) (w : World) : TS :=
    (tRet (tLc (iList K (tCall (sp_law_values K P w) [] E0 (tCons (tVar 0) tNil))) (gName 1) (tNot (tB (tCall (sp_law_is_word K P w) [] E0 (tCons (tVar 1) tNil)))) (tVar 1) [1]))
def t_law_set (K : PySem.W.Frag) (P : Program) (w : World) : TS :=
    (tRet (tCB (rTupQ K) (tCons (tOp rCat (tLst (tCons (tOp (rIxT K) (tVar 0) (tC (.int 0))) tNil)) (tLc (iTup K (tSl (rSlA K) (tVar 0) (tPart (tC (.int 1))) tNoPart)) (gName 2) tYes (tDGet2 (tVar 1) (tVar 2) (tVar 2)) [2])) tNil)))
def t_law_is_partner (K : PySem.W.Frag) (P : Program) (w : World) : TS :=
    (tSeq (tIfS (tOr (tTest (tOp rNe (tOp (rIxT K) (tVar 1) (tC (.int 0))) (tOp (rIxT K) (tVar 0) (tC (.int 0))))) (tTest (tOp rNe (tCB (rLenQ K) (tCons (tVar 1) tNil)) (tCB (rLenQ K) (tCons (tVar 0) tNil))))) (tRet (tC (.bl false))) tNext)
    (tSeq (tFor (iRng2 (tCons (tC (.int 1)) (tCons (tCB (rLenQ K) (tCons (tVar 0) tNil)) tNil))) (gName 3) (tSeq (tAsg (tOp (rIxT K) (tVar 0) (tVar 3)) (gName 4))
      (tSeq (tAsg (tDGet2 (tVar 2) (tVar 4) (tOp (rIxT K) (tVar 1) (tVar 3))) (gName 5))
      (tSeq (tIfS (tB (tCall (sp_law_is_word K P w) [] E0 (tCons (tVar 4) tNil))) (tAsg (tVar 4) (gName 5)) tNext)
      (tSeq (tIfS (tTest (tOp rNe (tOp (rIxT K) (tVar 1) (tVar 3)) (tVar 5))) (tRet (tC (.bl false))) tNext)
      (tFor (iRng2 (tCons (tC (.int 1)) (tCons (tVar 3) tNil))) (gName 6) (tIfS (tAnd (tTest (tOp rEq (tOp (rIxT K) (tVar 0) (tVar 6)) (tVar 4))) (tTest (tOp rNe (tOp (rIxT K) (tVar 1) (tVar 6)) (tOp (rIxT K) (tVar 1) (tVar 3))))) (tRet (tC (.bl false))) tNext)))))))
    (tRet (tC (.bl true)))))
def t_law_set_by (K : PySem.W.Frag) (P : Program) (w : World) : TS :=
    (tSeq (tAsg (tCB rDictD (tCons (tVar 2) tNil)) (gName 3))
    (tSeq (tFor (iRng2 (tCons (tC (.int 1)) (tCons (tCB (rLenQ K) (tCons (tVar 0) tNil)) tNil))) (gName 4) (tIfS (tAnd (tNot (tB (tCall (sp_law_is_word K P w) [] E0 (tCons (tOp (rIxT K) (tVar 0) (tVar 4)) tNil)))) (tB (tDNotIn (tOp (rIxT K) (tVar 0) (tVar 4)) (tVar 3)))) (sDPut (tVar 3) (tOp (rIxT K) (tVar 0) (tVar 4)) (tOp (rIxT K) (tVar 1) (tVar 4))) tNext))
    (tRet (tVar 3))))
def t_law_fold_due (K : PySem.W.Frag) (P : Program) (w : World) : TS :=
    (tSeq (tIfS (tTest (tOp (rNeD K) (tCB rSortDk (tCons (tVar 2) tNil)) (tCall (sp_law_movables K P w) [] E0 (tCons (tVar 0) tNil)))) (tRet (tC (.bl false))) tNext)
    (tSeq (tFor (iList K (tVar 0)) (gName 3) (tIfS (tTest (tOp (rNotInD K) (tCall (sp_law_set K P w) [] E0 (tCons (tVar 3) (tCons (tVar 2) tNil))) (tVar 1))) (tRet (tC (.bl false))) tNext))
    (tRet (tC (.bl true)))))
def t_law_fold_holds (K : PySem.W.Frag) (P : Program) (w : World) : TS :=
    (tSeq (tAsg (tCall (sp_law_fold_due K P w) [] E0 (tCons (tVar 0) (tCons (tVar 1) (tCons (tVar 2) tNil)))) (gName 3))
    (tSeq (tAsg (tCB (rListQ K) (tCons (tVar 0) tNil)) (gName 4))
    (tSeq (tAsg (tCB (rListQ K) (tCons (tVar 1) tNil)) (gName 5))
    (tSeq (tAsg (tCB rDictD (tCons (tVar 2) tNil)) (gName 6))
    (tSeq (tAsg (tCall (sp_is_fold K P w) [] E0 (tCons (tVar 4) (tCons (tVar 5) (tCons (tVar 6) tNil)))) (gName 7))
    (tSeq (tIfS (tOr (tTest (tOp (rNeD K) (tVar 4) (tVar 0))) (tOr (tTest (tOp (rNeD K) (tVar 5) (tVar 1))) (tTest (tOp (rNeD K) (LiI.tListItems (tVar 6)) (LiI.tListItems (tVar 2)))))) (tRet (tC (.bl false))) tNext)
    (tSeq (tIfS (tOr (tTest (tOp rNe (tOp rIsB (tVar 7) (tC (.bl true))) (tVar 3))) (tTest (tOp rEq (tOp rIsB (tVar 7) (tC (.bl false))) (tVar 3)))) (tRet (tC (.bl false))) tNext)
    (tSeq (tAsg (tCB (rTupQ K) (tCons (tRevL K (tVar 0)) tNil)) (gName 8))
    (tSeq (tAsg (tCallK (sp_is_fold K P w) gFold E0 tNil (tCons (tVar 6) (tCons (tVar 8) (tCons (tCB (rTupQ K) (tCons (tOp rCat (tVar 1) (tVar 1)) tNil)) tNil)))) (gName 7))
    (tRet (tAndV (tOp rEq (tOp rIsB (tVar 7) (tC (.bl true))) (tVar 3)) (tOp rNe (tOp rIsB (tVar 7) (tC (.bl false))) (tVar 3)))))))))))))
def t_law_spoilt_fold (K : PySem.W.Frag) (P : Program) (w : World) : TS :=
    (tSeq (tAsg (tCB rListDk (tCons (tVar 1) tNil)) (gName 4))
    (tSeq (tAsg (tCall (sp_law_pick K) [] E0 (tCons (tVar 0) (tCons (tC (.int 6)) tNil))) (gName 5))
    (tSeq (tAsg tDNewK (gName 6))
    (tSeq (tFor (iList K (tRevL K (tVar 4))) (gName 7) (sDPut (tVar 6) (tVar 7) (tDGet (tVar 1) (tVar 7))))
    (tSeq (tIfS (tTest (tOp rEq (tVar 5) (tC (.int 0)))) (tSeq (tAsg (tCall (sp_law_one_of K) [] E0 (tCons (tVar 0) (tCons (tLst (tCons (tC (.str "?9999")) (tCons (tC (.str "h(a)")) (tCons (tC (.str "Q")) (tCons (tOp (rIxL K) (tVar 3) (tC (.int 0))) tNil))))) tNil))) (gName 7))
      (sDPut (tVar 6) (tVar 7) (tCall (sp_law_one_of K) [] E0 (tCons (tVar 0) (tCons (tVar 3) tNil))))) (tIfS (tTest (tOp (rNeD K) (tVar 4) (tLst tNil))) (tSeq (tAsg (tCall (sp_law_one_of K) [] E0 (tCons (tVar 0) (tCons (tVar 4) tNil))) (gName 7))
      (tIfS (tTest (tOp (rI0 fun i j => .bl (decide (i < j))) (tVar 5) (tC (.int 4)))) (sDPut (tVar 6) (tVar 7) (tCall (sp_law_one_of K) [] E0 (tCons (tVar 0) (tCons (tOp rCat (tOp rCat (tVar 3) (tVar 2)) (tLst (tCons (tC (.str "?7")) tNil))) tNil)))) (tIfS (tTest (tOp rEq (tVar 5) (tC (.int 4)))) (tDrop (tDPop1 (tVar 6) (tVar 7))) tNext))) tNext))
    (tRet (tVar 6)))))))
def t_law_folds_hold (K : PySem.W.Frag) (P : Program) (w : World) : TS :=
    (tSeq (tAsg tDNewK (gName 6))
    (tSeq (tFor (iList K (tCall (sp_law_movables K P w) [] E0 (tCons (tVar 1) tNil))) (gName 7) (sDPut (tVar 6) (tVar 7) (tDGet (tVar 3) (tVar 7))))
    (tSeq (tIfS (tNot (tB (tCall (sp_law_fold_holds K P w) [] E0 (tCons (tVar 1) (tCons (tVar 2) (tCons (tVar 6) tNil)))))) (tRet (tC (.bl false))) tNext)
    (tSeq (tFor (iRng1 (tCons (tC (.int 5)) tNil)) (gName 8) (tSeq (tAsg (tCall (sp_law_spoilt_fold K P w) [] E0 (tCons (tVar 0) (tCons (tVar 6) (tCons (tVar 4) (tCons (tVar 5) tNil))))) (gName 9))
      (tIfS (tNot (tB (tCall (sp_law_fold_holds K P w) [] E0 (tCons (tVar 1) (tCons (tVar 2) (tCons (tVar 9) tNil)))))) (tRet (tC (.bl false))) tNext)))
    (tSeq (tAsg (tCall (sp_law_pick K) [] E0 (tCons (tVar 0) (tCons (tCB (rLenQ K) (tCons (tVar 2) tNil)) tNil))) (gName 10))
    (tSeq (tAsg (tOp rCat (tSl (rSlL K) (tVar 2) tNoPart (tPart (tVar 10))) (tSl (rSlL K) (tVar 2) (tPart (tOp (rI0 fun i j => .int (i + j)) (tVar 10) (tC (.int 1)))) tNoPart)) (gName 11))
    (tRet (tAndV (tCall (sp_law_fold_holds K P w) [] E0 (tCons (tVar 1) (tCons (tVar 11) (tCons (tVar 6) tNil)))) (tCall (sp_law_fold_holds K P w) [] E0 (tCons (tLst tNil) (tCons (tVar 11) (tCons tDNewK tNil))))))))))))
def t_law_closed_due (K : PySem.W.Frag) (P : Program) (w : World) : TS :=
    (tSeq (tAsg (tCB (rSortT K P w) (tCons (tCB (rSetT K P w) (tCons (tVar 1) tNil)) tNil)) (gName 4))
    (tSeq (tAsg (tLst (tCons (tCB rDictD (tCons (tVar 3) tNil)) tNil)) (gName 5))
    (tSeq (tFor (iList K (tVar 2)) (gName 6) (tSeq (tIfS (tOr (tTest (tOp rEqE (tVar 5) (tLst tNil))) (tTest (tOp (rNotInD K) (tVar 6) (tVar 0)))) (tRet (tC (.bl false))) tNext)
      (tSeq (tAsg (tOp (rIxL K) (tVar 5) (tUn (rU fun i => .int (-i)) (tC (.int 1)))) (gName 7))
      (tSeq (tAsg (tSl (rSlL K) (tVar 5) tNoPart (tPart (tUn (rU fun i => .int (-i)) (tC (.int 1))))) (gName 5))
      (tFor (iList K (tRevL K (tVar 4))) (gName 8) (tIfS (tB (tCall (sp_law_is_partner K P w) [] E0 (tCons (tVar 6) (tCons (tVar 8) (tCons (tVar 7) tNil))))) (tDrop (tBM K "list" rAppend (tVar 5) (tCons (tCall (sp_law_set_by K P w) [] E0 (tCons (tVar 6) (tCons (tVar 8) (tCons (tVar 7) tNil)))) tNil))) tNext))))))
    (tRet (tOp rEqE (tVar 5) (tLst tNil))))))
def t_law_closed_holds (K : PySem.W.Frag) (P : Program) (w : World) : TS :=
    (tSeq (tAsg (tCall (sp_law_closed_due K P w) [] E0 (tCons (tVar 0) (tCons (tVar 1) (tCons (tVar 2) (tCons (tVar 3) tNil))))) (gName 4))
    (tSeq (tAsg (tCB (rListQ K) (tCons (tVar 0) tNil)) (gName 5))
    (tSeq (tAsg (tCB (rListQ K) (tCons (tVar 1) tNil)) (gName 6))
    (tSeq (tAsg (tCB (rListQ K) (tCons (tVar 2) tNil)) (gName 7))
    (tSeq (tAsg (tCB rDictD (tCons (tVar 3) tNil)) (gName 8))
    (tSeq (tAsg (tCall (sp_is_closed K P w) [] E0 (tCons (tVar 5) (tCons (tVar 6) (tCons (tVar 7) (tCons (tVar 8) tNil))))) (gName 9))
    (tSeq (tIfS (tOr (tTest (tOp (rNeD K) (tVar 5) (tVar 0))) (tTest (tOp (rNeD K) (tVar 6) (tVar 1)))) (tRet (tC (.bl false))) tNext)
    (tSeq (tIfS (tOr (tTest (tOp (rNeD K) (tVar 7) (tVar 2))) (tTest (tOp rDNe (tVar 8) (tVar 3)))) (tRet (tC (.bl false))) tNext)
    (tSeq (tIfS (tOr (tTest (tOp rNe (tOp rIsB (tVar 9) (tC (.bl true))) (tVar 4))) (tTest (tOp rEq (tOp rIsB (tVar 9) (tC (.bl false))) (tVar 4)))) (tRet (tC (.bl false))) tNext)
    (tSeq (tAsg (tCB (rTupQ K) (tCons (tOp rCat (tRevL K (tVar 1)) (tVar 1)) tNil)) (gName 10))
    (tSeq (tIfS (tTest (tOp rDEq (tVar 3) tDNewK)) (tAsg (tCallK (sp_is_closed K P w) gCl1 E0 tNil (tCons (tVar 10) (tCons (tVar 5) (tCons (tVar 7) tNil)))) (gName 9)) (tAsg (tCallN 3 1 (sp_is_closed K P w) gCl2 E0 (tCons (tCB (rTupQ K) (tCons (tVar 0) tNil)) (tCons (tVar 10) (tCons (tCB (rTupQ K) (tCons (tVar 2) tNil)) tNil))) (tCons (tVar 8) tNil)) (gName 9)))
    (tRet (tAndV (tOp rEq (tOp rIsB (tVar 9) (tC (.bl true))) (tVar 4)) (tOp rNe (tOp rIsB (tVar 9) (tC (.bl false))) (tVar 4)))))))))))))))
def t_law_closed_rows (K : PySem.W.Frag) (P : Program) (w : World) : TS :=
    (tSeq (tAsg (tCB (rSortT K P w) (tCons (tCB (rSetT K P w) (tCons (tVar 0) tNil)) tNil)) (gName 3))
    (tSeq (tAsg (tLst (tCons (tTup (tCons (tC (.int 0)) (tCons (tCB rDictD (tCons (tVar 2) tNil)) tNil))) tNil)) (gName 4))
    (tSeq (tAsg (tLst tNil) (gName 5))
    (tSeq (tFor (iRng1 (tCons (tC (.int 2000)) tNil)) (gName 6) (tSeq (tIfS (tTest (tOp rEqE (tVar 4) (tLst tNil))) (tRet (tVar 5)) tNext)
      (tSeq (tAsg (tOp (rIxL K) (tVar 4) (tUn (rU fun i => .int (-i)) (tC (.int 1)))) (gTup K 2 (gCons (gName 7) (gCons (gName 8) gNil))))
      (tSeq (tAsg (tSl (rSlL K) (tVar 4) tNoPart (tPart (tUn (rU fun i => .int (-i)) (tC (.int 1))))) (gName 4))
      (tSeq (tAsg (tOp (rIxL K) (tVar 1) (tVar 7)) (gName 9))
      (tSeq (tDrop (tBM K "list" rAppend (tVar 5) (tCons (tVar 9) tNil)))
      (tFor (iList K (tRevL K (tVar 3))) (gName 10) (tIfS (tB (tCall (sp_law_is_partner K P w) [] E0 (tCons (tVar 9) (tCons (tVar 10) (tCons (tVar 8) tNil))))) (tDrop (tBM K "list" rAppend (tVar 4) (tCons (tTup (tCons (tOp (rI0 fun i j => .int (i + j)) (tVar 7) (tC (.int 1))) (tCons (tCall (sp_law_set_by K P w) [] E0 (tCons (tVar 9) (tCons (tVar 10) (tCons (tVar 8) tNil)))) tNil))) tNil))) tNext))))))))
    (tRet (tVar 5))))))
def t_law_spoilt_rows (K : PySem.W.Frag) (P : Program) (w : World) : TS :=
    (tSeq (tAsg (tCall (sp_law_pick K) [] E0 (tCons (tVar 0) (tCons (tC (.int 8)) tNil))) (gName 4))
    (tSeq (tAsg (tCall (sp_law_pick K) [] E0 (tCons (tVar 0) (tCons (tCB (rLenQ K) (tCons (tVar 1) tNil)) tNil))) (gName 5))
    (tSeq (tAsg (tCall (sp_law_one_of K) [] E0 (tCons (tVar 0) (tCons (tVar 2) tNil))) (gName 6))
    (tSeq (tAsg (tSl (rSlL K) (tVar 1) tNoPart (tPart (tVar 5))) (gName 7))
    (tSeq (tAsg (tSl (rSlL K) (tVar 1) (tPart (tVar 5)) (tPart (tOp (rI0 fun i j => .int (i + j)) (tVar 5) (tC (.int 1))))) (gName 8))
    (tSeq (tAsg (tSl (rSlL K) (tVar 1) (tPart (tOp (rI0 fun i j => .int (i + j)) (tVar 5) (tC (.int 1)))) tNoPart) (gName 9))
    (tSeq (tIfS (tTest (tOp rEq (tVar 4) (tC (.int 0)))) (tRet (tOp rCat (tOp rCat (tVar 7) (tLst (tCons (tVar 6) tNil))) (tVar 9))) tNext)
    (tSeq (tIfS (tTest (tOp rEq (tVar 4) (tC (.int 1)))) (tRet (tSl (rSlL K) (tVar 1) tNoPart (tPart (tUn (rU fun i => .int (-i)) (tC (.int 1)))))) tNext)
    (tSeq (tIfS (tTest (tOp rEq (tVar 4) (tC (.int 2)))) (tRet (tOp rCat (tVar 1) (tLst (tCons (tVar 6) tNil)))) tNext)
    (tSeq (tIfS (tTest (tOp rEq (tVar 4) (tC (.int 3)))) (tRet (tOp rCat (tOp rCat (tOp rCat (tVar 7) (tSl (rSlL K) (tVar 9) tNoPart (tPart (tC (.int 1))))) (tVar 8)) (tSl (rSlL K) (tVar 9) (tPart (tC (.int 1))) tNoPart))) tNext)
    (tSeq (tIfS (tTest (tOp rEq (tVar 4) (tC (.int 4)))) (tRet (tOp rCat (tOp rCat (tVar 7) (tLst (tCons (tVar 3) tNil))) (tVar 9))) tNext)
    (tSeq (tIfS (tTest (tOp rEq (tVar 4) (tC (.int 5)))) (tRet (tOp rCat (tVar 7) (tVar 9))) tNext)
    (tSeq (tIfS (tTest (tOp rEq (tVar 4) (tC (.int 6)))) (tRet (tOp rCat (tOp rCat (tOp rCat (tVar 7) (tVar 8)) (tVar 8)) (tVar 9))) tNext)
    (tRet (tOp rCat (tOp rCat (tVar 8) (tVar 9)) (tVar 7))))))))))))))))
def t_law_lists_hold (K : PySem.W.Frag) (P : Program) (w : World) : TS :=
    (tSeq (tAsg (tCall (sp_law_pick K) [] E0 (tCons (tVar 0) (tCons (tOp (rI0 fun i j => .int (i + j)) (tCB (rLenQ K) (tCons (tVar 1) tNil)) (tC (.int 1))) tNil))) (gName 6))
    (tSeq (tAsg (tOp rCat (tOp rCat (tSl (rSlL K) (tVar 1) tNoPart (tPart (tVar 6))) (tLst (tCons (tVar 3) tNil))) (tSl (rSlL K) (tVar 1) (tPart (tVar 6)) tNoPart)) (gName 7))
    (tSeq (tIfS (tAnd (tTest (tOp (rNeD K) (tVar 1) (tLst tNil))) (tTest (tOp rEq (tCall (sp_law_pick K) [] E0 (tCons (tVar 0) (tCons (tC (.int 3)) tNil))) (tC (.int 0))))) (tAsg (tOp rCat (tSl (rSlL K) (tVar 7) tNoPart (tPart (tC (.int 1)))) (tVar 7)) (gName 7)) tNext)
    (tSeq (tAsg (tOp rCat (tVar 1) (tLst (tCons (tVar 3) tNil))) (gName 8))
    (tSeq (tAsg (tCall (sp_law_closed_rows K P w) [] E0 (tCons (tVar 2) (tCons (tVar 7) (tCons (tVar 5) tNil)))) (gName 9))
    (tSeq (tIfS (tNot (tB (tCall (sp_law_closed_holds K P w) [] E0 (tCons (tVar 8) (tCons (tVar 2) (tCons (tVar 9) (tCons (tVar 5) tNil))))))) (tRet (tC (.bl false))) tNext)
    (tSeq (tIfS (tNot (tB (tCall (sp_law_closed_holds K P w) [] E0 (tCons (tVar 8) (tCons (tVar 2) (tCons (tLst tNil) (tCons (tVar 5) tNil))))))) (tRet (tC (.bl false))) tNext)
    (tSeq (tFor (iRng1 (tCons (tC (.int 5)) tNil)) (gName 10) (tSeq (tAsg (tCall (sp_law_spoilt_rows K P w) [] E0 (tCons (tVar 0) (tCons (tVar 9) (tCons (tVar 8) (tCons (tVar 4) tNil))))) (gName 11))
      (tIfS (tNot (tB (tCall (sp_law_closed_holds K P w) [] E0 (tCons (tVar 8) (tCons (tVar 2) (tCons (tVar 11) (tCons (tVar 5) tNil))))))) (tRet (tC (.bl false))) tNext)))
    (tSeq (tAsg (tOp rCat (tVar 2) (tLst (tCons (tVar 3) tNil))) (gName 12))
    (tSeq (tIfS (tNot (tB (tCall (sp_law_closed_holds K P w) [] E0 (tCons (tVar 8) (tCons (tVar 12) (tCons (tVar 9) (tCons (tVar 5) tNil))))))) (tRet (tC (.bl false))) tNext)
    (tRet (tCall (sp_law_closed_holds K P w) [] E0 (tCons (tVar 8) (tCons (tSl (rSlL K) (tVar 2) (tPart (tC (.int 1))) tNoPart) (tCons (tVar 9) (tCons (tVar 5) tNil))))))))))))))))
def t_law (K : PySem.W.Frag) (P : Program) (w : World) : TS :=
    (tSeq (tAsg (tCall (sp_law_pool K) [] E0 (tCons (tVar 0) tNil)) (gName 1))
    (tSeq (tAsg (tCall (sp_law_names K P w) [] E0 (tCons (tVar 1) (tCons (tC (.int 3)) (tCons (tC (.str "abcdefghijklmnopqrstuvwxyz")) tNil)))) (gName 2))
    (tSeq (tAsg (tCall (sp_law_names K P w) [] E0 (tCons (tVar 1) (tCons (tC (.int 3)) (tCons (tC (.str "abcdefghijklmnopqrstuvwxyz0123456789")) tNil)))) (gName 3))
    (tSeq (tAsg (tCall (sp_law_movable_values K P w) [] E0 (tCons (tVar 1) (tCons (tVar 3) tNil))) (gName 4))
    (tSeq (tAsg (tLst (tCons (tTup (tCons (tOp (rIxL K) (tVar 2) (tC (.int 0))) (tCons (tOp (rI0 fun i j => .int (i + j)) (tC (.int 1)) (tCall (sp_law_pick K) [] E0 (tCons (tVar 1) (tCons (tC (.int 3)) tNil)))) tNil))) (tCons (tTup (tCons (tOp (rIxL K) (tVar 2) (tC (.int 1))) (tCons (tC (.int 2)) tNil))) tNil))) (gName 5))
    (tSeq (tIfS (tTest (tOp rEq (tCall (sp_law_pick K) [] E0 (tCons (tVar 1) (tCons (tC (.int 8)) tNil))) (tC (.int 0)))) (tAsg (tTup (tCons (tOp (rIxL K) (tVar 2) (tC (.int 0))) (tCons (tC (.int 4)) tNil))) (gSub (tVar 5) (tC (.int 1)) rSetL)) tNext)
    (tSeq (tAsg (tOp rCat (tOp rCat (tSl (rSlL K) (tVar 3) tNoPart (tPart (tC (.int 2)))) (tVar 4)) (tVar 4)) (gName 6))
    (tSeq (tAsg (tCall (sp_law_rows K P w) [] E0 (tCons (tVar 1) (tCons (tVar 5) (tCons (tVar 6) (tCons (tCall (sp_law_pick K) [] E0 (tCons (tVar 1) (tCons (tC (.int 4)) tNil))) tNil))))) (gName 7))
    (tSeq (tAsg (tOp rCat (tSl (rSlL K) (tVar 3) tNoPart (tPart (tC (.int 2)))) (tSl (rSlL K) (tLst (tCons (tC (.str "?7")) (tCons (tOp rAddStr (tOp rAddStr (tC (.str "g(")) (tOp (rIxL K) (tVar 3) (tC (.int 2)))) (tC (.str ")"))) tNil))) tNoPart (tPart (tCall (sp_law_pick K) [] E0 (tCons (tVar 1) (tCons (tC (.int 3)) tNil)))))) (gName 8))
    (tSeq (tAsg tDNewK (gName 9))
    (tSeq (tFor (iList K (tVar 4)) (gName 10) (sDPut (tVar 9) (tVar 10) (tCall (sp_law_one_of K) [] E0 (tCons (tVar 1) (tCons (tVar 8) tNil)))))
    (tSeq (tAsg (tLc (iList K (tVar 7)) (gName 12) tYes (tCall (sp_law_set K P w) [] E0 (tCons (tVar 12) (tCons (tVar 9) tNil))) [12]) (gName 11))
    (tSeq (tAsg (tOp rCat (tCall (sp_law_rows K P w) [] E0 (tCons (tVar 1) (tCons (tVar 5) (tCons (tVar 8) (tCons (tCall (sp_law_pick K) [] E0 (tCons (tVar 1) (tCons (tC (.int 3)) tNil))) tNil))))) (tVar 11)) (gName 11))
    (tSeq (tIfS (tNot (tB (tCall (sp_law_folds_hold K P w) [] E0 (tCons (tVar 1) (tCons (tVar 7) (tCons (tVar 11) (tCons (tVar 9) (tCons (tVar 4) (tCons (tVar 3) tNil))))))))) (tRet (tC (.bl false))) tNext)
    (tSeq (tAsg tDNewK (gName 13))
    (tSeq (tFor (iList K (tOp rCat (tVar 4) (tLst (tCons (tC (.str "?9999")) tNil)))) (gName 10) (tIfS (tTest (tOp rEq (tCall (sp_law_pick K) [] E0 (tCons (tVar 1) (tCons (tC (.int 3)) tNil))) (tC (.int 0)))) (sDPut (tVar 13) (tVar 10) (tCall (sp_law_one_of K) [] E0 (tCons (tVar 1) (tCons (tVar 8) tNil)))) tNext))
    (tSeq (tAsg (tTup (tCons (tOp (rIxL K) (tVar 2) (tC (.int 2))) (tCons (tC (.str "X")) tNil))) (gName 14))
    (tSeq (tAsg (tTup (tCons (tOp (rIxL K) (tVar 2) (tC (.int 2))) (tCons (tC (.str "Y")) tNil))) (gName 15))
    (tSeq (tFor (iList K (tLst (tCons tDNewK (tCons (tVar 13) tNil)))) (gName 16) (tIfS (tNot (tB (tCall (sp_law_lists_hold K P w) [] E0 (tCons (tVar 1) (tCons (tVar 7) (tCons (tVar 11) (tCons (tVar 14) (tCons (tVar 15) (tCons (tVar 16) tNil))))))))) (tRet (tC (.bl false))) tNext))
    (tRet (tC (.bl true))))))))))))))))))))))
end K10
end
section
set_option maxRecDepth 100000
set_option maxHeartbeats 4000000
namespace K10
open PySem L2 Sx Dl

section
variable {P : Program} {w : World} {K : PySem.W.Frag} {mg : Str → Option Value} {base : Heap} {f : Addr}
theorem d_law_pool (T : Txt mg)  (cdv : Value) (A : Around) (outer : List PySem.Env) (s : Shared) (H : Hp) (E : XK) (hr : Room 0 (A.deeper (PyProof.Rows.envOfC "_law_pool" (defScope s_law_pool) s.heap.objs.size f cdv))) :
    PSs (cxOf CX0 P w K mg base ["script", "cells", "cell"] "_law_pool" (defScope s_law_pool) f cdv A outer s H E).nox (defBody s_law_pool) (t_law_pool K) := by
  exact (pss_cons (by first | exact (ps_setLc (i := 1) (own := [("cell", 2)]) (g := (gName 2)) (tt := tYes) (te := (tOp (rI (fun _ j => 0 < j) fun i j => .int (i % j)) (tCB rInt (tCons (tCB rAbs (tCons (tVar 2) tNil)) tNil)) (tOp (rI CPow fun i j => .int (i * 2 ^ j.toNat)) (tC (.int 1)) (tC (.int 6000))))) rfl sc_law_pool.nd rfl rfl (sw_true rfl rfl rfl (by decide +kernel)) (pi_list (pe_slice sl_list (pv 0) po_none (po_some pe_int))) (blkOk_by (own := [("cell", 2)]) (N := ["script", "cells", "cell"]) (sc := defScope s_law_pool) (by decide +kernel)) (fun _ _ _ _ _ => (pg_name (i := 2) sc_law_pool.nd rfl (by first | exact Or.inl rfl | exact Or.inr rfl))) (fun _ _ _ _ _ => pts_nil) (fun _ _ _ _ _ => (pe_op op_mod (pe_callTy cx_int (by rfl) T.b_int bb_int (pa_cons (pe_callB cx_abs (by rfl) T.b_abs bb_abs (pa_cons (pv 2) pa_nil)) pa_nil)) (pe_op op_shl pe_int pe_int)))) | exact (ps_set (i := 1) sc_law_pool.nd rfl (by first | exact Or.inl rfl | exact Or.inr rfl) (pe_lc (own := [("cell", 2)]) (g := (gName 2)) (tt := tYes) (te := (tOp (rI (fun _ j => 0 < j) fun i j => .int (i % j)) (tCB rInt (tCons (tCB rAbs (tCons (tVar 2) tNil)) tNil)) (tOp (rI CPow fun i j => .int (i * 2 ^ j.toNat)) (tC (.int 1)) (tC (.int 6000))))) rfl sc_law_pool.nd (pi_list (pe_slice sl_list (pv 0) po_none (po_some pe_int))) (blkOk_by (own := [("cell", 2)]) (N := ["script", "cells", "cell"]) (sc := defScope s_law_pool) (by decide +kernel)) (fun _ _ _ _ _ => (pg_name (i := 2) sc_law_pool.nd rfl (by first | exact Or.inl rfl | exact Or.inr rfl))) (fun _ _ _ _ _ => pts_nil) (fun _ _ _ _ _ => (pe_op op_mod (pe_callTy cx_int (by rfl) T.b_int bb_int (pa_cons (pe_callB cx_abs (by rfl) T.b_abs bb_abs (pa_cons (pv 2) pa_nil)) pa_nil)) (pe_op op_shl pe_int pe_int))))))
    (pss_cons (ps_if (pt_cmpR (op_eqD hr.units) (pv 1) (pe_lst pa_nil) (nomark _)) (pss_one (ps_set (i := 1) sc_law_pool.nd rfl (by first | exact Or.inl rfl | exact Or.inr rfl) (pe_lst (pa_cons pe_int pa_nil)))) pss_nil)
    (pss_one (ps_ret (pe_lst (pa_cons (pv 1) (pa_cons (pe_callTy cx_list (by rfl) T.b_list bb_list (pa_cons (pv 1) pa_nil)) (pa_cons (pe_lst (pa_cons pe_int pa_nil)) pa_nil))))))))
theorem d_law_pick (T : Txt mg)  (cdv : Value) (A : Around) (outer : List PySem.Env) (s : Shared) (H : Hp) (E : XK) (hr : Room 0 (A.deeper (PyProof.Rows.envOfC "_law_pick" (defScope s_law_pick) s.heap.objs.size f cdv))) :
    PSs (cxOf CX0 P w K mg base ["pool", "many", "at", "here", "cell", "left", "one", "two"] "_law_pick" (defScope s_law_pick) f cdv A outer s H E).nox (defBody s_law_pick) (t_law_pick K) := by
  exact (pss_cons (ps_if (pt_cmpR op_lt (pv 1) pe_int (nomark _)) (pss_one (ps_ret pe_int)) pss_nil)
    (pss_cons (ps_set (i := 2) sc_law_pick.nd rfl (by first | exact Or.inl rfl | exact Or.inr rfl) (pe_callTy cx_int (by rfl) T.b_int bb_int (pa_cons (pe_ix ix_list (pe_ix ix_list (pv 0) pe_int (fun _ _ => rfl)) pe_int (fun _ _ => rfl)) pa_nil)))
    (pss_cons (ps_asg (pe_op op_add (pv 2) pe_int) (pg_sub (pe_ix ix_list (pv 0) pe_int (fun _ _ => rfl)) pe_int set_list))
    (pss_cons (ps_set (i := 3) sc_law_pick.nd rfl (by first | exact Or.inl rfl | exact Or.inr rfl) (pe_op op_mod (pe_callTy cx_int (by rfl) T.b_int bb_int (pa_cons (pv 2) pa_nil)) (pe_callB cx_len (by rfl) T.b_len bb_len (pa_cons (pe_ix ix_list (pv 0) pe_int (fun _ _ => rfl)) pa_nil))))
    (pss_cons (ps_set (i := 4) sc_law_pick.nd rfl (by first | exact Or.inl rfl | exact Or.inr rfl) (pe_callTy cx_int (by rfl) T.b_int bb_int (pa_cons (pe_ix ix_list (pe_ix ix_list (pv 0) pe_int (fun _ _ => rfl)) (pv 3) (fun _ _ => rfl)) pa_nil)))
    (pss_cons (ps_set (i := 5) sc_law_pick.nd rfl (by first | exact Or.inl rfl | exact Or.inr rfl) (pe_callTy cx_int (by rfl) T.b_int bb_int (pa_cons (pe_ix ix_list (pe_ix ix_list (pv 0) pe_int (fun _ _ => rfl)) (pv 3) (fun _ _ => rfl)) pa_nil)))
    (pss_cons (ps_if (PW.pt (pw_and (pt_cmpR op_ge (pv 4) (pe_op op_pow pe_int pe_int) (nomark _)) (pw_and1 (pt_cmpR op_gt (pv 5) pe_int (nomark _))))) (pss_cons (ps_asg (pe_op op_fdiv (pv 5) (pv 1)) (pg_sub (pe_ix ix_list (pv 0) pe_int (fun _ _ => rfl)) (pv 3) set_list))
      (pss_one (ps_ret (pe_op op_mod (pe_callTy cx_int (by rfl) T.b_int bb_int (pa_cons (pv 5) pa_nil)) (pv 1))))) pss_nil)
    (pss_cons (ps_set (i := 6) sc_law_pick.nd rfl (by first | exact Or.inl rfl | exact Or.inr rfl) (pe_op op_mod (pe_callTy cx_int (by rfl) T.b_int bb_int (pa_cons (pe_op op_add (pe_op op_add (pe_op op_mul (pe_op op_mod (pe_callTy cx_int (by rfl) T.b_int bb_int (pa_cons (pv 4) pa_nil)) pe_int) pe_int) (pe_op op_mul (pv 2) pe_int)) pe_int) pa_nil)) pe_int))
    (pss_cons (ps_set (i := 7) sc_law_pick.nd rfl (by first | exact Or.inl rfl | exact Or.inr rfl) (pe_op op_mod (pe_callTy cx_int (by rfl) T.b_int bb_int (pa_cons (pe_op op_add (pe_op op_add (pe_op op_mul (pv 6) (pv 6)) (pe_op op_mod (pe_op op_fdiv (pe_callTy cx_int (by rfl) T.b_int bb_int (pa_cons (pv 4) pa_nil)) pe_int) pe_int)) (pv 2)) pa_nil)) pe_int))
    (pss_one (ps_ret (pe_op op_mod (pe_op op_fdiv (pe_op op_mod (pe_callTy cx_int (by rfl) T.b_int bb_int (pa_cons (pe_op op_add (pe_op op_add (pe_op op_mul (pv 7) (pv 7)) (pe_op op_mul pe_int (pv 2))) pe_int) pa_nil)) pe_int) pe_int) (pv 1)))))))))))))
theorem d_law_one_of {f_law_pick : Addr} {fd_law_pick : FuncData} (T : Txt mg) (C_law_pick : Cal P w K mg base "_law_pick" s_law_pick ["pool", "many"] 1 f_law_pick fd_law_pick (sp_law_pick K)) (cdv : Value) (A : Around) (outer : List PySem.Env) (s : Shared) (H : Hp) (E : XK) (hr : Room 1 (A.deeper (PyProof.Rows.envOfC "_law_one_of" (defScope s_law_one_of) s.heap.objs.size f cdv))) :
    PSs (cxOf CX0 P w K mg base ["pool", "things"] "_law_one_of" (defScope s_law_one_of) f cdv A outer s H E).nox (defBody s_law_one_of) (t_law_one_of K) := by
  exact (pss_one (ps_ret (pe_ix ix_seq (pv 1) (pe_call C_law_pick.O (hr.mono (by decide)) (by rfl) C_law_pick.A.g C_law_pick.A.F.kp C_law_pick.A.b .nil pass0 (pa_cons (pv 0) (pa_cons (pe_callB cx_lenV (by rfl) T.b_len bb_len (pa_cons (pv 1) pa_nil)) pa_nil))) (fun _ _ => rfl))))
theorem d_is_word (T : Txt mg)  (cdv : Value) (A : Around) (outer : List PySem.Env) (s : Shared) (H : Hp) (E : XK) (hr : Room 0 (A.deeper (PyProof.Rows.envOfC "is_word" (defScope s_is_word) s.heap.objs.size f cdv))) :
    PSs (cxOf CX0 P w K mg base ["text"] "is_word" (defScope s_is_word) f cdv A outer s H E).nox (defBody s_is_word) (t_is_word K P w) := by
  exact (pss_one (ps_ret (pe_and (pe_chain op_le op_le pe_int (pe_callB cx_lenS (by rfl) T.b_len bb_len (pa_cons (pv 0) pa_nil)) pe_int) (pe_and (pe_m0 PySem.F.slot_str_isascii PySem.F.type_str_isascii mx_isascii (pv 0)) (pe_and (pe_m0 PySem.F.slot_str_isalnum PySem.F.type_str_isalnum mx_isalnum (pv 0)) (pe_one (pe_cmpR op_eq (pv 0) (pe_m0 PySem.F.slot_str_lower PySem.F.type_str_lower mx_lower (pv 0)) (nomark _))))))))
theorem d_values_of (T : Txt mg)  (cdv : Value) (A : Around) (outer : List PySem.Env) (s : Shared) (H : Hp) (E : XK) (hr : Room 0 (A.deeper (PyProof.Rows.envOfC "values_of" (defScope s_values_of) s.heap.objs.size f cdv))) :
    PSs (cxOf CX0 P w K mg base ["rows", "row", "value"] "values_of" (defScope s_values_of) f cdv A outer s H E).nox (defBody s_values_of) (t_values_of K P w) := by
  exact (pss_one (ps_ret (pe_callB (cx_sortX rfl) (by rfl) T.b_sorted bb_sorted (pa_cons (pe_sc2 (own := [("row", 1), ("value", 2)]) (vs1 := [2]) (g := (gName 1)) (g1 := (gName 2)) (tt := tYes) (tt1 := tYes) rfl sc_values_of.nd (pi_or (pi_list (pv 0)) (pi_tup (pv 0))) (blkOk_by (N := ["rows", "row", "value"]) (sc := defScope s_values_of) (by decide +kernel)) (by decide) (fun _ _ _ _ _ => (pg_name (i := 1) sc_values_of.nd rfl (by first | exact Or.inl rfl | exact Or.inr rfl))) (fun _ _ _ _ _ => pts_nil) (fun _ _ _ _ _ => (pi_tup (pe_slice sl_tupA (pv 1) (po_some pe_int) po_none))) (fun _ _ _ _ _ => (pg_name (i := 2) sc_values_of.nd rfl (by first | exact Or.inl rfl | exact Or.inr rfl))) (fun _ _ _ _ _ => pts_nil) (fun _ _ _ _ _ => (pv 2))) pa_nil))))
theorem d_movables_of {f_values_of f_is_word : Addr} {fd_values_of fd_is_word : FuncData} (T : Txt mg) (C_values_of : Cal P w K mg base "values_of" s_values_of ["rows"] 1 f_values_of fd_values_of (sp_values_of K P w)) (C_is_word : Cal P w K mg base "is_word" s_is_word ["text"] 1 f_is_word fd_is_word (sp_is_word K P w)) (cdv : Value) (A : Around) (outer : List PySem.Env) (s : Shared) (H : Hp) (E : XK) (hr : Room 1 (A.deeper (PyProof.Rows.envOfC "movables_of" (defScope s_movables_of) s.heap.objs.size f cdv))) :
    PSs (cxOf CX0 P w K mg base ["rows", "value"] "movables_of" (defScope s_movables_of) f cdv A outer s H E).nox (defBody s_movables_of) (t_movables_of K P w) := by
  exact (pss_one (ps_ret (pe_lc (own := [("value", 1)]) (g := (gName 1)) (tt := (tNot (tB (tCall (sp_is_word K P w) [] E0 (tCons (tVar 1) tNil))))) (te := (tVar 1)) rfl sc_movables_of.nd (pi_list (pe_call C_values_of.O (hr.mono (by decide)) (by rfl) C_values_of.A.g C_values_of.A.F.kp C_values_of.A.b .nil pass0 (pa_cons (pv 0) pa_nil))) (blkOk_by (own := [("value", 1)]) (N := ["rows", "value"]) (sc := defScope s_movables_of) (by decide +kernel)) (fun _ _ _ _ _ => (pg_name (i := 1) sc_movables_of.nd rfl (by first | exact Or.inl rfl | exact Or.inr rfl))) (fun _ _ _ _ _ => (pts_one (pt_not (pt_val (pe_call C_is_word.O (hr.mono (by decide)) (by rfl) C_is_word.A.g C_is_word.A.F.kp C_is_word.A.b .nil pass0 (pa_cons (pv 1) pa_nil)))))) (fun _ _ _ _ _ => (pv 1)))))
theorem d_set_value (T : Txt mg)  (cdv : Value) (A : Around) (outer : List PySem.Env) (s : Shared) (H : Hp) (E : XK) (hr : Room 0 (A.deeper (PyProof.Rows.envOfC "set_value" (defScope s_set_value) s.heap.objs.size f cdv))) :
    PSs (cxOf CX0 P w K mg base ["value", "setting"] "set_value" (defScope s_set_value) f cdv A outer s H E).nox (defBody s_set_value) (t_set_value K P w) := by
  exact (pss_one (ps_ret (pe_dget2 (hu_of hr) (pv 1) (pv 0) (pv 0) ⟨by rfl, by rfl, by rfl, by rfl⟩)))
theorem d_filled_rows {f_set_value : Addr} {fd_set_value : FuncData} (T : Txt mg) (C_set_value : Cal P w K mg base "set_value" s_set_value ["value", "setting"] 1 f_set_value fd_set_value (sp_set_value K P w)) (cdv : Value) (A : Around) (outer : List PySem.Env) (s : Shared) (H : Hp) (E : XK) (hr : Room 1 (A.deeper (PyProof.Rows.envOfC "filled_rows" (defScope s_filled_rows) s.heap.objs.size f cdv))) :
    PSs (cxOf CX0 P w K mg base ["rows", "setting", "value", "row"] "filled_rows" (defScope s_filled_rows) f cdv A outer s H E).nox (defBody s_filled_rows) (t_filled_rows K P w) := by
  exact (pss_one (ps_ret (pe_lc (own := [("row", 3)]) (g := (gName 3)) (tt := tYes) (te := (tOp (rCatT K) (tSl (rSlA K) (tVar 3) tNoPart (tPart (tC (.int 1)))) (tCB (rTupQ K) (tCons (tLc (iTup K (tSl (rSlA K) (tVar 3) (tPart (tC (.int 1))) tNoPart)) (gName 2) tYes (tCall (sp_set_value K P w) [] E0 (tCons (tVar 2) (tCons (tVar 1) tNil))) [2]) tNil)))) rfl sc_filled_rows.nd (pi_or (pi_list (pv 0)) (pi_tup (pv 0))) (blkOk_by (own := [("row", 3)]) (N := ["rows", "setting", "value", "row"]) (sc := defScope s_filled_rows) (by decide +kernel)) (fun _ _ _ _ _ => (pg_name (i := 3) sc_filled_rows.nd rfl (by first | exact Or.inl rfl | exact Or.inr rfl))) (fun _ _ _ _ _ => pts_nil) (fun _ _ _ _ _ => (pe_op op_catT (pe_slice sl_tupA (pv 3) po_none (po_some pe_int)) (pe_callTy cx_tup (by rfl) T.b_tuple bb_tuple (pa_cons (pe_lc (own := [("value", 2)]) (g := (gName 2)) (tt := tYes) (te := (tCall (sp_set_value K P w) [] E0 (tCons (tVar 2) (tCons (tVar 1) tNil)))) rfl sc_filled_rows.nd (pi_tup (pe_slice sl_tupA (pv 3) (po_some pe_int) po_none)) (blkOk_by (own := [("value", 2)]) (N := ["rows", "setting", "value", "row"]) (sc := (withinScope 0 (defBody s_filled_rows) (defScope s_filled_rows))) (by decide +kernel)) (fun _ _ _ _ _ => (pg_name (i := 2) sc_filled_rows.nd rfl (by first | exact Or.inl rfl | exact Or.inr rfl))) (fun _ _ _ _ _ => pts_nil) (fun _ _ _ _ _ => (pe_call C_set_value.O (hr.mono (by decide)) (by rfl) C_set_value.A.g C_set_value.A.F.kp C_set_value.A.b .nil pass0 (pa_cons (pv 2) (pa_cons (pv 1) pa_nil))))) pa_nil)))))))
theorem d_conditions {f_is_word : Addr} {fd_is_word : FuncData} (T : Txt mg) (C_is_word : Cal P w K mg base "is_word" s_is_word ["text"] 1 f_is_word fd_is_word (sp_is_word K P w)) (cdv : Value) (A : Around) (outer : List PySem.Env) (s : Shared) (H : Hp) (E : XK) (hr : Room 1 (A.deeper (PyProof.Rows.envOfC "_conditions" (defScope s_conditions) s.heap.objs.size f cdv))) :
    PSs (cxOf CX0 P w K mg base ["row", "setting", "fixed", "equal", "first_at", "at", "value"] "_conditions" (defScope s_conditions) f cdv A outer s H E).nox (defBody s_conditions) (t_conditions K P w) := by
  exact (pss_cons (ps_set (i := 2) sc_conditions.nd rfl (by first | exact Or.inl rfl | exact Or.inr rfl) (pe_lst pa_nil))
    (pss_cons (ps_set (i := 3) sc_conditions.nd rfl (by first | exact Or.inl rfl | exact Or.inr rfl) (pe_lst pa_nil))
    (pss_cons (ps_set (i := 4) sc_conditions.nd rfl (by first | exact Or.inl rfl | exact Or.inr rfl) pe_dnewK)
    (pss_cons (ps_for PassesOwn.never rfl (pi_enumT (by rfl) T.b_enumerate (pa_cons (pv 0) pa_nil)) (pg_tup rfl (pgs_cons (pg_name (i := 5) sc_conditions.nd rfl (by first | exact Or.inl rfl | exact Or.inr rfl)) (pgs_cons (pg_name (i := 6) sc_conditions.nd rfl (by first | exact Or.inl rfl | exact Or.inr rfl)) pgs_nil))) (pss_one (ps_if (PW.pt (pw_or (pt_cmpR op_eq (pv 5) pe_int (nomark _)) (pw_or1 (pt_val (pe_call C_is_word.O (hr.mono (by decide)) (by rfl) C_is_word.A.g C_is_word.A.F.kp C_is_word.A.b .nil pass0 (pa_cons (pv 6) pa_nil)))))) (pss_one (ps_expr (pe_bm PySem.F.plainAttrs_list PySem.F.slot_list_append PySem.F.type_list_append mt_append (pv 2) (pa_cons (pe_tup (pa_cons (pv 5) (pa_cons (pv 6) pa_nil))) pa_nil)))) (pss_one (ps_if (pt_cmp (pc_din (hu_of hr) (pv 6) (pv 1))) (pss_one (ps_expr (pe_bm PySem.F.plainAttrs_list PySem.F.slot_list_append PySem.F.type_list_append mt_append (pv 2) (pa_cons (pe_tup (pa_cons (pv 5) (pa_cons (pe_dget (hu_of hr) (pv 1) (pv 6) (fun _ _ => rfl)) pa_nil))) pa_nil)))) (pss_one (ps_if (pt_cmp (pc_din (hu_of hr) (pv 6) (pv 4))) (pss_one (ps_expr (pe_bm PySem.F.plainAttrs_list PySem.F.slot_list_append PySem.F.type_list_append mt_append (pv 3) (pa_cons (pe_tup (pa_cons (pe_dget (hu_of hr) (pv 4) (pv 6) (fun _ _ => rfl)) (pa_cons (pv 5) pa_nil))) pa_nil)))) (pss_one (ps_dput (hu_of hr) (pv 4) (pv 6) (pv 5) rfl)))))))))
    (pss_one (ps_ret (pe_tup (pa_cons (pv 2) (pa_cons (pv 3) pa_nil)))))))))
theorem d_meets (T : Txt mg)  (cdv : Value) (A : Around) (outer : List PySem.Env) (s : Shared) (H : Hp) (E : XK) (hr : Room 0 (A.deeper (PyProof.Rows.envOfC "_meets" (defScope s_meets) s.heap.objs.size f cdv))) :
    PSs (cxOf CX0 P w K mg base ["row", "fixed", "equal", "at", "value", "first", "second"] "_meets" (defScope s_meets) f cdv A outer s H E).nox (defBody s_meets) (t_meets K P w) := by
  exact (pss_cons (ps_for PassesOwn.never rfl (pi_list (pv 1)) (pg_tup rfl (pgs_cons (pg_name (i := 3) sc_meets.nd rfl (by first | exact Or.inl rfl | exact Or.inr rfl)) (pgs_cons (pg_name (i := 4) sc_meets.nd rfl (by first | exact Or.inl rfl | exact Or.inr rfl)) pgs_nil))) (pss_one (ps_if (pt_cmpR op_ne (pe_ix ix_tup (pv 0) (pv 3) (fun _ _ => rfl)) (pv 4) (nomark _)) (pss_one (ps_ret pe_bl)) pss_nil)))
    (pss_cons (ps_for PassesOwn.never rfl (pi_list (pv 2)) (pg_tup rfl (pgs_cons (pg_name (i := 5) sc_meets.nd rfl (by first | exact Or.inl rfl | exact Or.inr rfl)) (pgs_cons (pg_name (i := 6) sc_meets.nd rfl (by first | exact Or.inl rfl | exact Or.inr rfl)) pgs_nil))) (pss_one (ps_if (pt_cmpR op_ne (pe_ix ix_tup (pv 0) (pv 5) (fun _ _ => rfl)) (pe_ix ix_tup (pv 0) (pv 6) (fun _ _ => rfl)) (nomark _)) (pss_one (ps_ret pe_bl)) pss_nil)))
    (pss_one (ps_ret pe_bl))))
theorem d_partners {f_conditions f_meets : Addr} {fd_conditions fd_meets : FuncData} (T : Txt mg) (C_conditions : Cal P w K mg base "_conditions" s_conditions ["row", "setting"] 2 f_conditions fd_conditions (sp_conditions K P w)) (C_meets : Cal P w K mg base "_meets" s_meets ["row", "fixed", "equal"] 1 f_meets fd_meets (sp_meets K P w)) (cdv : Value) (A : Around) (outer : List PySem.Env) (s : Shared) (H : Hp) (E : XK) (hr : Room 2 (A.deeper (PyProof.Rows.envOfC "partners" (defScope s_partners) s.heap.objs.size f cdv))) :
    PSs (cxOf CX0 P w K mg base ["row", "setting", "rows", "fixed", "equal", "other"] "partners" (defScope s_partners) f cdv A outer s H E).nox (defBody s_partners) (t_partners K P w) := by
  exact (pss_cons (ps_asg (pe_call C_conditions.O (hr.mono (by decide)) (by rfl) C_conditions.A.g C_conditions.A.F.kp C_conditions.A.b .nil pass0 (pa_cons (pv 0) (pa_cons (pv 1) pa_nil))) (pg_tup rfl (pgs_cons (pg_name (i := 3) sc_partners.nd rfl (by first | exact Or.inl rfl | exact Or.inr rfl)) (pgs_cons (pg_name (i := 4) sc_partners.nd rfl (by first | exact Or.inl rfl | exact Or.inr rfl)) pgs_nil))))
    (pss_one (ps_ret (pe_lc (own := [("other", 5)]) (g := (gName 5)) (tt := (tAnd (tTest (tOp rEq (tCB (rLenQ K) (tCons (tVar 5) tNil)) (tCB (rLenQ K) (tCons (tVar 0) tNil)))) (tB (tCall (sp_meets K P w) [] E0 (tCons (tVar 5) (tCons (tVar 3) (tCons (tVar 4) tNil))))))) (te := (tVar 5)) rfl sc_partners.nd (pi_list (pv 2)) (blkOk_by (own := [("other", 5)]) (N := ["row", "setting", "rows", "fixed", "equal", "other"]) (sc := defScope s_partners) (by decide +kernel)) (fun _ _ _ _ _ => (pg_name (i := 5) sc_partners.nd rfl (by first | exact Or.inl rfl | exact Or.inr rfl))) (fun _ _ _ _ _ => (pts_one (PW.pt (pw_and (pt_cmpR op_eq (pe_callB cx_len (by rfl) T.b_len bb_len (pa_cons (pv 5) pa_nil)) (pe_callB cx_len (by rfl) T.b_len bb_len (pa_cons (pv 0) pa_nil)) (nomark _)) (pw_and1 (pt_val (pe_call C_meets.O (hr.mono (by decide)) (by rfl) C_meets.A.g C_meets.A.F.kp C_meets.A.b .nil pass0 (pa_cons (pv 5) (pa_cons (pv 3) (pa_cons (pv 4) pa_nil)))))))))) (fun _ _ _ _ _ => (pv 5))))))
theorem d_set_by {f_is_word : Addr} {fd_is_word : FuncData} (T : Txt mg) (C_is_word : Cal P w K mg base "is_word" s_is_word ["text"] 1 f_is_word fd_is_word (sp_is_word K P w)) (cdv : Value) (A : Around) (outer : List PySem.Env) (s : Shared) (H : Hp) (E : XK) (hr : Room 1 (A.deeper (PyProof.Rows.envOfC "set_by" (defScope s_set_by) s.heap.objs.size f cdv))) :
    PSs (cxOf CX0 P w K mg base ["row", "partner", "setting", "found", "value", "other"] "set_by" (defScope s_set_by) f cdv A outer s H E).nox (defBody s_set_by) (t_set_by K P w) := by
  exact (pss_cons (ps_set (i := 3) sc_set_by.nd rfl (by first | exact Or.inl rfl | exact Or.inr rfl) (pe_callTy cx_dictD (by rfl) T.b_dict bb_dict (pa_cons (pv 2) pa_nil)))
    (pss_cons (ps_for PassesOwn.never rfl (RZ.pi_zipA (by rfl) T.b_zip (pa_cons (pe_slice sl_tupA (pv 0) (po_some pe_int) po_none) (pa_cons (pe_slice sl_tupA (pv 1) (po_some pe_int) po_none) pa_nil))) (pg_tup rfl (pgs_cons (pg_name (i := 4) sc_set_by.nd rfl (by first | exact Or.inl rfl | exact Or.inr rfl)) (pgs_cons (pg_name (i := 5) sc_set_by.nd rfl (by first | exact Or.inl rfl | exact Or.inr rfl)) pgs_nil))) (pss_one (ps_if (PW.pt (pw_and (pt_cmp (pc_dnotin (hu_of hr) (pv 4) (pv 3))) (pw_and1 (pt_not (pt_val (pe_call C_is_word.O (hr.mono (by decide)) (by rfl) C_is_word.A.g C_is_word.A.F.kp C_is_word.A.b .nil pass0 (pa_cons (pv 4) pa_nil))))))) (pss_one (ps_dput (hu_of hr) (pv 3) (pv 4) (pv 5) rfl)) pss_nil)))
    (pss_one (ps_ret (pv 3)))))
theorem d_is_fold {f_movables_of f_filled_rows : Addr} {fd_movables_of fd_filled_rows : FuncData} (T : Txt mg) (C_movables_of : Cal P w K mg base "movables_of" s_movables_of ["rows"] 2 f_movables_of fd_movables_of (sp_movables_of K P w)) (C_filled_rows : Cal P w K mg base "filled_rows" s_filled_rows ["rows", "setting"] 2 f_filled_rows fd_filled_rows (sp_filled_rows K P w)) (cdv : Value) (A : Around) (outer : List PySem.Env) (s : Shared) (H : Hp) (E : XK) (hr : Room 2 (A.deeper (PyProof.Rows.envOfC "is_fold" (defScope s_is_fold) s.heap.objs.size f cdv))) :
    PSs (cxOf CX0 P w K mg base ["small", "big", "fold", "there", "row"] "is_fold" (defScope s_is_fold) f cdv A outer s H E).nox (defBody s_is_fold) (t_is_fold K P w) := by
  exact (pss_cons (ps_if (pt_cmpR (op_neD hr.units) (pe_callB (cx_sortDk rfl) (by rfl) T.b_sorted bb_sorted (pa_cons (pv 2) pa_nil)) (pe_call C_movables_of.O (hr.mono (by decide)) (by rfl) C_movables_of.A.g C_movables_of.A.F.kp C_movables_of.A.b .nil pass0 (pa_cons (pv 0) pa_nil)) (nomark _)) (pss_one (ps_ret pe_bl)) pss_nil)
    (pss_cons (by first | exact (ps_setDcT (i := 3) (own := [("row", 4)]) (g := (gName 4)) (tt := tYes) (hu0 hr) rfl sc_is_fold.nd rfl rfl (sw_trueD rfl rfl rfl (by decide +kernel)) (pi_or (pi_list (pv 1)) (pi_tup (pv 1))) (blkOk_by (N := ["small", "big", "fold", "there", "row"]) (sc := defScope s_is_fold) (by decide +kernel)) (fun _ _ _ _ _ => (pg_name (i := 4) sc_is_fold.nd rfl (by first | exact Or.inl rfl | exact Or.inr rfl))) (fun _ _ _ _ _ => pts_nil) (fun _ _ _ _ _ => (pv 4)) (fun _ _ _ _ _ => pe_bl)) | exact (ps_set (i := 3) sc_is_fold.nd rfl (by first | exact Or.inl rfl | exact Or.inr rfl) (pe_dcT (own := [("row", 4)]) (g := (gName 4)) (tt := tYes) (hu0 hr) rfl sc_is_fold.nd (pi_or (pi_list (pv 1)) (pi_tup (pv 1))) (blkOk_by (N := ["small", "big", "fold", "there", "row"]) (sc := defScope s_is_fold) (by decide +kernel)) (fun _ _ _ _ _ => (pg_name (i := 4) sc_is_fold.nd rfl (by first | exact Or.inl rfl | exact Or.inr rfl))) (fun _ _ _ _ _ => pts_nil) (fun _ _ _ _ _ => (pv 4)) (fun _ _ _ _ _ => pe_bl))))
    (pss_one (ps_ret (pe_callB (cr_all rfl) (by rfl) T.b_all bb_all (pa_cons (pe_lc (own := [("row", 4)]) (g := (gName 4)) (tt := tYes) (te := (tDIn (tVar 4) (tVar 3))) rfl sc_is_fold.nd (pi_list (pe_call C_filled_rows.O (hr.mono (by decide)) (by rfl) C_filled_rows.A.g C_filled_rows.A.F.kp C_filled_rows.A.b .nil pass0 (pa_cons (pv 0) (pa_cons (pv 2) pa_nil)))) (blkOk_by (own := [("row", 4)]) (N := ["small", "big", "fold", "there", "row"]) (sc := defScope s_is_fold) (by decide +kernel)) (fun _ _ _ _ _ => (pg_name (i := 4) sc_is_fold.nd rfl (by first | exact Or.inl rfl | exact Or.inr rfl))) (fun _ _ _ _ _ => pts_nil) (fun _ _ _ _ _ => (pe_cmp (pc_din (hu_of hr) (pv 4) (pv 3))))) pa_nil))))))
theorem d_closed_end {f_partners f_set_by : Addr} {fd_partners fd_set_by : FuncData} (T : Txt mg) (C_partners : Cal P w K mg base "partners" s_partners ["row", "setting", "rows"] 3 f_partners fd_partners (sp_partners K P w)) (C_set_by : Cal P w K mg base "set_by" s_set_by ["row", "partner", "setting"] 2 f_set_by fd_set_by (sp_set_by K P w)) (cdv : Value) (A : Around) (outer : List PySem.Env) (s : Shared) (H : Hp) (E : XK) (hr : Room 3 (A.deeper (PyProof.Rows.envOfC "closed_end" (defScope s_closed_end) s.heap.objs.size f cdv))) :
    PSs (cxOf CX0 P w K mg base ["small", "big", "rows", "at", "setting", "there", "row", "targets", "waiting", "current", "partner"] "closed_end" (defScope s_closed_end) f cdv A outer s H E).nox (defBody s_closed_end) (t_closed_end K P w) := by
  exact (pss_cons (by first | exact (ps_setDcT (i := 5) (own := [("row", 6)]) (g := (gName 6)) (tt := tYes) (hu0 hr) rfl sc_closed_end.nd rfl rfl (sw_trueD rfl rfl rfl (by decide +kernel)) (pi_or (pi_list (pv 0)) (pi_tup (pv 0))) (blkOk_by (N := ["small", "big", "rows", "at", "setting", "there", "row", "targets", "waiting", "current", "partner"]) (sc := defScope s_closed_end) (by decide +kernel)) (fun _ _ _ _ _ => (pg_name (i := 6) sc_closed_end.nd rfl (by first | exact Or.inl rfl | exact Or.inr rfl))) (fun _ _ _ _ _ => pts_nil) (fun _ _ _ _ _ => (pv 6)) (fun _ _ _ _ _ => pe_bl)) | exact (ps_set (i := 5) sc_closed_end.nd rfl (by first | exact Or.inl rfl | exact Or.inr rfl) (pe_dcT (own := [("row", 6)]) (g := (gName 6)) (tt := tYes) (hu0 hr) rfl sc_closed_end.nd (pi_or (pi_list (pv 0)) (pi_tup (pv 0))) (blkOk_by (N := ["small", "big", "rows", "at", "setting", "there", "row", "targets", "waiting", "current", "partner"]) (sc := defScope s_closed_end) (by decide +kernel)) (fun _ _ _ _ _ => (pg_name (i := 6) sc_closed_end.nd rfl (by first | exact Or.inl rfl | exact Or.inr rfl))) (fun _ _ _ _ _ => pts_nil) (fun _ _ _ _ _ => (pv 6)) (fun _ _ _ _ _ => pe_bl))))
    (pss_cons (ps_set (i := 7) sc_closed_end.nd rfl (by first | exact Or.inl rfl | exact Or.inr rfl) (pe_callB (cx_sortT rfl) (by rfl) T.b_sorted bb_sorted (pa_cons (pe_callTy (cx_setT rfl hr.units) (by rfl) T.b_set bb_set (pa_cons (pv 1) pa_nil)) pa_nil)))
    (pss_cons (ps_set (i := 8) sc_closed_end.nd rfl (by first | exact Or.inl rfl | exact Or.inr rfl) (pe_lst (pa_cons (pv 4) pa_nil)))
    (pss_cons (ps_while PassesOwn.never (pt_truth (pv 8) (fun _ => rfl)) (pss_cons (ps_if (PW.pt (pw_or (pt_cmpR op_ge (pv 3) (pe_callB cx_len (by rfl) T.b_len bb_len (pa_cons (pv 2) pa_nil)) (nomark _)) (pw_or1 (pt_cmp (pc_dnotin (hu_of hr) (pe_ix ix_seq (pv 2) (pv 3) (fun _ _ => rfl)) (pv 5)))))) (pss_one (ps_ret pe_non)) pss_nil)
      (pss_cons (ps_set (i := 9) sc_closed_end.nd rfl (by first | exact Or.inl rfl | exact Or.inr rfl) (pe_bm0 PySem.F.plainAttrs_list PySem.F.slot_list_pop PySem.F.type_list_pop mt_pop (pv 8)))
      (pss_cons (ps_for PassesOwn.never rfl (RT.pi_revA (by rfl) T.b_reversed (pe_call C_partners.O (hr.mono (by decide)) (by rfl) C_partners.A.g C_partners.A.F.kp C_partners.A.b .nil pass0 (pa_cons (pe_ix ix_seq (pv 2) (pv 3) (fun _ _ => rfl)) (pa_cons (pv 9) (pa_cons (pv 7) pa_nil))))) (pg_name (i := 10) sc_closed_end.nd rfl (by first | exact Or.inl rfl | exact Or.inr rfl)) (pss_one (ps_expr (pe_bm PySem.F.plainAttrs_list PySem.F.slot_list_append PySem.F.type_list_append mt_append (pv 8) (pa_cons (pe_call C_set_by.O (hr.mono (by decide)) (by rfl) C_set_by.A.g C_set_by.A.F.kp C_set_by.A.b .nil pass0 (pa_cons (pe_ix ix_seq (pv 2) (pv 3) (fun _ _ => rfl)) (pa_cons (pv 10) (pa_cons (pv 9) pa_nil)))) pa_nil)))))
      (pss_one (ps_aug (i := 3) sc_closed_end.nd rfl (by first | exact Or.inl rfl | exact Or.inr rfl) pe_int ip_add))))))
    (pss_one (ps_ret (pv 3)))))))
theorem d_is_closed {f_closed_end : Addr} {fd_closed_end : FuncData} (T : Txt mg) (C_closed_end : Cal P w K mg base "closed_end" s_closed_end ["small", "big", "rows", "at", "setting"] 4 f_closed_end fd_closed_end (sp_closed_end K P w)) (cdv : Value) (A : Around) (outer : List PySem.Env) (s : Shared) (H : Hp) (E : XK) (hr : Room 4 (A.deeper (PyProof.Rows.envOfC "is_closed" (defScope s_is_closed) s.heap.objs.size f cdv))) :
    PSs (cxOf CX0 P w K mg base ["small", "big", "rows", "setting", "given"] "is_closed" (defScope s_is_closed) f cdv A outer s H E).nox (defBody s_is_closed) (t_is_closed K P w) := by
  exact (pss_cons (ps_set (i := 4) sc_is_closed.nd rfl (by first | exact Or.inl rfl | exact Or.inr rfl) (pe_ifExp (pt_cmpR ox_isN (pv 3) pe_non (nomark _)) pe_dnewK (pv 3)))
    (pss_one (ps_ret (pe_cmpR op_eq (pe_call C_closed_end.O (hr.mono (by decide)) (by rfl) C_closed_end.A.g C_closed_end.A.F.kp C_closed_end.A.b .nil pass0 (pa_cons (pv 0) (pa_cons (pv 1) (pa_cons (pv 2) (pa_cons pe_int (pa_cons (pv 4) pa_nil)))))) (pe_callB cx_len (by rfl) T.b_len bb_len (pa_cons (pv 2) pa_nil)) (nomark _)))))
theorem d_law_names {f_law_pick f_law_one_of : Addr} {fd_law_pick fd_law_one_of : FuncData} (T : Txt mg) (C_law_pick : Cal P w K mg base "_law_pick" s_law_pick ["pool", "many"] 1 f_law_pick fd_law_pick (sp_law_pick K)) (C_law_one_of : Cal P w K mg base "_law_one_of" s_law_one_of ["pool", "things"] 2 f_law_one_of fd_law_one_of (sp_law_one_of K)) (cdv : Value) (A : Around) (outer : List PySem.Env) (s : Shared) (H : Hp) (E : XK) (hr : Room 2 (A.deeper (PyProof.Rows.envOfC "_law_names" (defScope s_law_names) s.heap.objs.size f cdv))) :
    PSs (cxOf CX0 P w K mg base ["pool", "many", "signs", "place", "start", "step", "alike", "rest", "k", "found", "size", "j", "told"] "_law_names" (defScope s_law_names) f cdv A outer s H E).nox (defBody s_law_names) (t_law_names K P w) := by
  exact (pss_cons (ps_set (i := 3) sc_law_names.nd rfl (by first | exact Or.inl rfl | exact Or.inr rfl) (pe_call C_law_pick.O (hr.mono (by decide)) (by rfl) C_law_pick.A.g C_law_pick.A.F.kp C_law_pick.A.b .nil pass0 (pa_cons (pv 0) (pa_cons pe_int pa_nil))))
    (pss_cons (ps_set (i := 4) sc_law_names.nd rfl (by first | exact Or.inl rfl | exact Or.inr rfl) (pe_call C_law_pick.O (hr.mono (by decide)) (by rfl) C_law_pick.A.g C_law_pick.A.F.kp C_law_pick.A.b .nil pass0 (pa_cons (pv 0) (pa_cons (pe_callB cx_lenS (by rfl) T.b_len bb_len (pa_cons (pv 2) pa_nil)) pa_nil))))
    (pss_cons (ps_set (i := 5) sc_law_names.nd rfl (by first | exact Or.inl rfl | exact Or.inr rfl) (pe_call C_law_one_of.O (hr.mono (by decide)) (by rfl) C_law_one_of.A.g C_law_one_of.A.F.kp C_law_one_of.A.b .nil pass0 (pa_cons (pv 0) (pa_cons (pe_lst (pa_cons pe_int (pa_cons pe_int (pa_cons pe_int (pa_cons pe_int (pa_cons pe_int (pa_cons pe_int (pa_cons pe_int (pa_cons pe_int pa_nil))))))))) pa_nil))))
    (pss_cons (ps_set (i := 6) sc_law_names.nd rfl (by first | exact Or.inl rfl | exact Or.inr rfl) (pe_cmpR op_eq (pe_call C_law_pick.O (hr.mono (by decide)) (by rfl) C_law_pick.A.g C_law_pick.A.F.kp C_law_pick.A.b .nil pass0 (pa_cons (pv 0) (pa_cons pe_int pa_nil))) pe_int (nomark _)))
    (pss_cons (ps_set (i := 7) sc_law_names.nd rfl (by first | exact Or.inl rfl | exact Or.inr rfl) (pe_m1 PySem.F.slot_str_join PySem.F.type_str_join mx_join pe_str (pe_lc (own := [("k", 8)]) (g := (gName 8)) (tt := tYes) (te := (tCall (sp_law_one_of K) [] E0 (tCons (tVar 0) (tCons (tVar 2) tNil)))) rfl sc_law_names.nd (pi_range1 (by rfl) T.b_range (pa_cons pe_int pa_nil)) (blkOk_by (own := [("k", 8)]) (N := ["pool", "many", "signs", "place", "start", "step", "alike", "rest", "k", "found", "size", "j", "told"]) (sc := defScope s_law_names) (by decide +kernel)) (fun _ _ _ _ _ => (pg_name (i := 8) sc_law_names.nd rfl (by first | exact Or.inl rfl | exact Or.inr rfl))) (fun _ _ _ _ _ => pts_nil) (fun _ _ _ _ _ => (pe_call C_law_one_of.O (hr.mono (by decide)) (by rfl) C_law_one_of.A.g C_law_one_of.A.F.kp C_law_one_of.A.b .nil pass0 (pa_cons (pv 0) (pa_cons (pv 2) pa_nil)))))))
    (pss_cons (ps_set (i := 9) sc_law_names.nd rfl (by first | exact Or.inl rfl | exact Or.inr rfl) (pe_lst pa_nil))
    (pss_cons (ps_for PassesOwn.never rfl (pi_range1 (by rfl) T.b_range (pa_cons (pv 1) pa_nil)) (pg_name (i := 8) sc_law_names.nd rfl (by first | exact Or.inl rfl | exact Or.inr rfl)) (pss_cons (ps_set (i := 10) sc_law_names.nd rfl (by first | exact Or.inl rfl | exact Or.inr rfl) (pe_op op_add (pe_op op_add (pv 3) pe_int) (pe_call C_law_pick.O (hr.mono (by decide)) (by rfl) C_law_pick.A.g C_law_pick.A.F.kp C_law_pick.A.b .nil pass0 (pa_cons (pv 0) (pa_cons (pe_op op_sub pe_int (pv 3)) pa_nil)))))
      (pss_cons (ps_if (pt_cmpR op_eq (pe_call C_law_pick.O (hr.mono (by decide)) (by rfl) C_law_pick.A.g C_law_pick.A.F.kp C_law_pick.A.b .nil pass0 (pa_cons (pv 0) (pa_cons pe_int pa_nil))) pe_int (nomark _)) (pss_one (ps_set (i := 10) sc_law_names.nd rfl (by first | exact Or.inl rfl | exact Or.inr rfl) pe_int)) pss_nil)
      (pss_cons (ps_if (pt_not (pt_val (pv 6))) (pss_one (ps_set (i := 7) sc_law_names.nd rfl (by first | exact Or.inl rfl | exact Or.inr rfl) (pe_m1 PySem.F.slot_str_join PySem.F.type_str_join mx_join pe_str (pe_lc (own := [("j", 11)]) (g := (gName 11)) (tt := tYes) (te := (tCall (sp_law_one_of K) [] E0 (tCons (tVar 0) (tCons (tVar 2) tNil)))) rfl sc_law_names.nd (pi_range1 (by rfl) T.b_range (pa_cons pe_int pa_nil)) (blkOk_by (own := [("j", 11)]) (N := ["pool", "many", "signs", "place", "start", "step", "alike", "rest", "k", "found", "size", "j", "told"]) (sc := defScope s_law_names) (by decide +kernel)) (fun _ _ _ _ _ => (pg_name (i := 11) sc_law_names.nd rfl (by first | exact Or.inl rfl | exact Or.inr rfl))) (fun _ _ _ _ _ => pts_nil) (fun _ _ _ _ _ => (pe_call C_law_one_of.O (hr.mono (by decide)) (by rfl) C_law_one_of.A.g C_law_one_of.A.F.kp C_law_one_of.A.b .nil pass0 (pa_cons (pv 0) (pa_cons (pv 2) pa_nil)))))))) pss_nil)
      (pss_cons (ps_set (i := 12) sc_law_names.nd rfl (by first | exact Or.inl rfl | exact Or.inr rfl) (pe_ix ix_str (pv 2) (pe_op op_mod (pe_callTy cx_int (by rfl) T.b_int bb_int (pa_cons (pe_op op_add (pv 4) (pe_op op_mul (pv 8) (pv 5))) pa_nil)) (pe_callB cx_lenS (by rfl) T.b_len bb_len (pa_cons (pv 2) pa_nil))) (fun _ _ => rfl)))
      (pss_one (ps_expr (pe_bm PySem.F.plainAttrs_list PySem.F.slot_list_append PySem.F.type_list_append mt_append (pv 9) (pa_cons (pe_op ox_addS (pe_op ox_addS (pe_slice sl_str (pv 7) po_none (po_some (pv 3))) (pv 12)) (pe_slice sl_str (pv 7) (po_some (pv 3)) (po_some (pe_op op_sub (pv 10) pe_int)))) pa_nil)))))))))
    (pss_one (ps_ret (pv 9))))))))))
theorem d_law_movable_values {f_law_pick : Addr} {fd_law_pick : FuncData} (T : Txt mg) (C_law_pick : Cal P w K mg base "_law_pick" s_law_pick ["pool", "many"] 1 f_law_pick fd_law_pick (sp_law_pick K)) (cdv : Value) (A : Around) (outer : List PySem.Env) (s : Shared) (H : Hp) (E : XK) (hr : Room 1 (A.deeper (PyProof.Rows.envOfC "_law_movable_values" (defScope s_law_movable_values) s.heap.objs.size f cdv))) :
    PSs (cxOf CX0 P w K mg base ["pool", "words", "found", "many", "number", "k", "kind"] "_law_movable_values" (defScope s_law_movable_values) f cdv A outer s H E).nox (defBody s_law_movable_values) (t_law_movable_values K P w) := by
  exact (pss_cons (ps_set (i := 2) sc_law_movable_values.nd rfl (by first | exact Or.inl rfl | exact Or.inr rfl) (pe_lst pa_nil))
    (pss_cons (ps_set (i := 3) sc_law_movable_values.nd rfl (by first | exact Or.inl rfl | exact Or.inr rfl) (pe_call C_law_pick.O (hr.mono (by decide)) (by rfl) C_law_pick.A.g C_law_pick.A.F.kp C_law_pick.A.b .nil pass0 (pa_cons (pv 0) (pa_cons pe_int pa_nil))))
    (pss_cons (ps_if (pt_cmpR op_eq (pe_call C_law_pick.O (hr.mono (by decide)) (by rfl) C_law_pick.A.g C_law_pick.A.F.kp C_law_pick.A.b .nil pass0 (pa_cons (pv 0) (pa_cons pe_int pa_nil))) pe_int (nomark _)) (pss_one (ps_set (i := 3) sc_law_movable_values.nd rfl (by first | exact Or.inl rfl | exact Or.inr rfl) pe_int)) pss_nil)
    (pss_cons (ps_set (i := 4) sc_law_movable_values.nd rfl (by first | exact Or.inl rfl | exact Or.inr rfl) (pe_op op_add pe_int (pe_call C_law_pick.O (hr.mono (by decide)) (by rfl) C_law_pick.A.g C_law_pick.A.F.kp C_law_pick.A.b .nil pass0 (pa_cons (pv 0) (pa_cons pe_int pa_nil)))))
    (pss_cons (ps_for PassesOwn.never rfl (pi_range1 (by rfl) T.b_range (pa_cons (pv 3) pa_nil)) (pg_name (i := 5) sc_law_movable_values.nd rfl (by first | exact Or.inl rfl | exact Or.inr rfl)) (pss_cons (ps_set (i := 6) sc_law_movable_values.nd rfl (by first | exact Or.inl rfl | exact Or.inr rfl) (pe_call C_law_pick.O (hr.mono (by decide)) (by rfl) C_law_pick.A.g C_law_pick.A.F.kp C_law_pick.A.b .nil pass0 (pa_cons (pv 0) (pa_cons pe_int pa_nil))))
      (pss_one (ps_if (pt_cmpR op_eq (pv 6) pe_int (nomark _)) (pss_one (ps_expr (pe_bm PySem.F.plainAttrs_list PySem.F.slot_list_append PySem.F.type_list_append mt_append (pv 2) (pa_cons (pe_op ox_addS (pe_op ox_addS (pe_op ox_addS (pe_op ox_addS pe_str (pe_ix ix_list (pv 1) pe_int (fun _ _ => rfl))) pe_str) (pe_callTy cx_strI (by rfl) T.b_str bb_str (pa_cons (pe_op op_add (pv 4) (pv 5)) pa_nil))) pe_str) pa_nil)))) (pss_one (ps_if (pt_cmpR op_eq (pv 6) pe_int (nomark _)) (pss_one (ps_expr (pe_bm PySem.F.plainAttrs_list PySem.F.slot_list_append PySem.F.type_list_append mt_append (pv 2) (pa_cons (pe_op ox_addS (pe_ix ix_str pe_str (pv 5) (fun _ _ => rfl)) (pe_ix ix_list (pe_lst (pa_cons pe_str (pa_cons (pe_callTy cx_strI (by rfl) T.b_str bb_str (pa_cons (pv 4) pa_nil)) pa_nil))) (pe_call C_law_pick.O (hr.mono (by decide)) (by rfl) C_law_pick.A.g C_law_pick.A.F.kp C_law_pick.A.b .nil pass0 (pa_cons (pv 0) (pa_cons pe_int pa_nil))) (fun _ _ => rfl))) pa_nil)))) (pss_one (ps_expr (pe_bm PySem.F.plainAttrs_list PySem.F.slot_list_append PySem.F.type_list_append mt_append (pv 2) (pa_cons (pe_op ox_addS pe_str (pe_callTy cx_strI (by rfl) T.b_str bb_str (pa_cons (pe_op op_add (pv 4) (pe_op op_mul pe_int (pv 5))) pa_nil))) pa_nil))))))))))
    (pss_one (ps_ret (pv 2))))))))
theorem d_law_rows {f_law_one_of : Addr} {fd_law_one_of : FuncData} (T : Txt mg) (C_law_one_of : Cal P w K mg base "_law_one_of" s_law_one_of ["pool", "things"] 2 f_law_one_of fd_law_one_of (sp_law_one_of K)) (cdv : Value) (A : Around) (outer : List PySem.Env) (s : Shared) (H : Hp) (E : XK) (hr : Room 2 (A.deeper (PyProof.Rows.envOfC "_law_rows" (defScope s_law_rows) s.heap.objs.size f cdv))) :
    PSs (cxOf CX0 P w K mg base ["pool", "tables", "values", "many", "rows", "k", "table", "width", "parts", "j"] "_law_rows" (defScope s_law_rows) f cdv A outer s H E).nox (defBody s_law_rows) (t_law_rows K P w) := by
  exact (pss_cons (ps_set (i := 4) sc_law_rows.nd rfl (by first | exact Or.inl rfl | exact Or.inr rfl) (pe_lst pa_nil))
    (pss_cons (ps_for PassesOwn.never rfl (pi_range1 (by rfl) T.b_range (pa_cons (pv 3) pa_nil)) (pg_name (i := 5) sc_law_rows.nd rfl (by first | exact Or.inl rfl | exact Or.inr rfl)) (pss_cons (ps_asg (pe_call C_law_one_of.O (hr.mono (by decide)) (by rfl) C_law_one_of.A.g C_law_one_of.A.F.kp C_law_one_of.A.b .nil pass0 (pa_cons (pv 0) (pa_cons (pv 1) pa_nil))) (pg_tup rfl (pgs_cons (pg_name (i := 6) sc_law_rows.nd rfl (by first | exact Or.inl rfl | exact Or.inr rfl)) (pgs_cons (pg_name (i := 7) sc_law_rows.nd rfl (by first | exact Or.inl rfl | exact Or.inr rfl)) pgs_nil))))
      (pss_cons (by first | exact (ps_setLc (i := 8) (own := [("j", 9)]) (g := (gName 9)) (tt := tYes) (te := (tCall (sp_law_one_of K) [] E0 (tCons (tVar 0) (tCons (tVar 2) tNil)))) rfl sc_law_rows.nd rfl rfl (sw_true rfl rfl rfl (by decide +kernel)) (pi_range1 (by rfl) T.b_range (pa_cons (pv 7) pa_nil)) (blkOk_by (own := [("j", 9)]) (N := ["pool", "tables", "values", "many", "rows", "k", "table", "width", "parts", "j"]) (sc := defScope s_law_rows) (by decide +kernel)) (fun _ _ _ _ _ => (pg_name (i := 9) sc_law_rows.nd rfl (by first | exact Or.inl rfl | exact Or.inr rfl))) (fun _ _ _ _ _ => pts_nil) (fun _ _ _ _ _ => (pe_call C_law_one_of.O (hr.mono (by decide)) (by rfl) C_law_one_of.A.g C_law_one_of.A.F.kp C_law_one_of.A.b .nil pass0 (pa_cons (pv 0) (pa_cons (pv 2) pa_nil))))) | exact (ps_set (i := 8) sc_law_rows.nd rfl (by first | exact Or.inl rfl | exact Or.inr rfl) (pe_lc (own := [("j", 9)]) (g := (gName 9)) (tt := tYes) (te := (tCall (sp_law_one_of K) [] E0 (tCons (tVar 0) (tCons (tVar 2) tNil)))) rfl sc_law_rows.nd (pi_range1 (by rfl) T.b_range (pa_cons (pv 7) pa_nil)) (blkOk_by (own := [("j", 9)]) (N := ["pool", "tables", "values", "many", "rows", "k", "table", "width", "parts", "j"]) (sc := defScope s_law_rows) (by decide +kernel)) (fun _ _ _ _ _ => (pg_name (i := 9) sc_law_rows.nd rfl (by first | exact Or.inl rfl | exact Or.inr rfl))) (fun _ _ _ _ _ => pts_nil) (fun _ _ _ _ _ => (pe_call C_law_one_of.O (hr.mono (by decide)) (by rfl) C_law_one_of.A.g C_law_one_of.A.F.kp C_law_one_of.A.b .nil pass0 (pa_cons (pv 0) (pa_cons (pv 2) pa_nil)))))))
      (pss_one (ps_expr (pe_bm PySem.F.plainAttrs_list PySem.F.slot_list_append PySem.F.type_list_append mt_append (pv 4) (pa_cons (pe_callTy cx_tup (by rfl) T.b_tuple bb_tuple (pa_cons (pe_op op_cat (pe_lst (pa_cons (pv 6) pa_nil)) (pv 8)) pa_nil)) pa_nil)))))))
    (pss_one (ps_ret (pv 4)))))
theorem d_law_is_word (T : Txt mg)  (cdv : Value) (A : Around) (outer : List PySem.Env) (s : Shared) (H : Hp) (E : XK) (hr : Room 0 (A.deeper (PyProof.Rows.envOfC "_law_is_word" (defScope s_law_is_word) s.heap.objs.size f cdv))) :
    PSs (cxOf CX0 P w K mg base ["text", "signs", "sign"] "_law_is_word" (defScope s_law_is_word) f cdv A outer s H E).nox (defBody s_law_is_word) (t_law_is_word K P w) := by
  exact (pss_cons (ps_set (i := 1) sc_law_is_word.nd rfl (by first | exact Or.inl rfl | exact Or.inr rfl) pe_str)
    (pss_one (ps_ret (pe_cmpR (op_eqE (hu0 hr)) (pe_lc (own := [("sign", 2)]) (g := (gName 2)) (tt := (tTest (tOp rNiSg (tVar 2) (tVar 1)))) (te := (tVar 2)) rfl sc_law_is_word.nd (pi_str (pv 0)) (blkOk_by (own := [("sign", 2)]) (N := ["text", "signs", "sign"]) (sc := defScope s_law_is_word) (by decide +kernel)) (fun _ _ _ _ _ => (pg_name (i := 2) sc_law_is_word.nd rfl (by first | exact Or.inl rfl | exact Or.inr rfl))) (fun _ _ _ _ _ => (pts_one (pt_cmpR ox_niSg (pv 2) (pv 1) (by rfl)))) (fun _ _ _ _ _ => (pv 2))) (pe_lst pa_nil) (nomark _)))))
theorem d_law_values (T : Txt mg)  (cdv : Value) (A : Around) (outer : List PySem.Env) (s : Shared) (H : Hp) (E : XK) (hr : Room 0 (A.deeper (PyProof.Rows.envOfC "_law_values" (defScope s_law_values) s.heap.objs.size f cdv))) :
    PSs (cxOf CX0 P w K mg base ["rows", "found", "row"] "_law_values" (defScope s_law_values) f cdv A outer s H E).nox (defBody s_law_values) (t_law_values K P w) := by
  exact (pss_cons (ps_set (i := 1) sc_law_values.nd rfl (by first | exact Or.inl rfl | exact Or.inr rfl) (pe_lst pa_nil))
    (pss_cons (ps_for PassesOwn.never rfl (pi_list (pv 0)) (pg_name (i := 2) sc_law_values.nd rfl (by first | exact Or.inl rfl | exact Or.inr rfl)) (pss_one (ps_expr (pe_bm PySem.F.plainAttrs_list PySem.F.slot_list_extend PySem.F.type_list_extend mt_extT (pv 1) (pa_cons (pe_slice sl_tupA (pv 2) (po_some pe_int) po_none) pa_nil)))))
    (pss_one (ps_ret (pe_callB (cx_sortX rfl) (by rfl) T.b_sorted bb_sorted (pa_cons (pe_callTy (cx_setX rfl) (by rfl) T.b_set bb_set (pa_cons (pv 1) pa_nil)) pa_nil))))))
theorem d_law_movables {f_law_values f_law_is_word : Addr} {fd_law_values fd_law_is_word : FuncData} (T : Txt mg) (C_law_values : Cal P w K mg base "_law_values" s_law_values ["rows"] 1 f_law_values fd_law_values (sp_law_values K P w)) (C_law_is_word : Cal P w K mg base "_law_is_word" s_law_is_word ["text"] 1 f_law_is_word fd_law_is_word (sp_law_is_word K P w)) (cdv : Value) (A : Around) (outer : List PySem.Env) (s : Shared) (H : Hp) (E : XK) (hr : Room 1 (A.deeper (PyProof.Rows.envOfC "_law_movables" (defScope s_law_movables) s.heap.objs.size f cdv))) :
    PSs (cxOf CX0 P w K mg base ["rows", "value"] "_law_movables" (defScope s_law_movables) f cdv A outer s H E).nox (defBody s_law_movables) (t_law_movables K P w) := by
  exact (pss_one (ps_ret (pe_lc (own := [("value", 1)]) (g := (gName 1)) (tt := (tNot (tB (tCall (sp_law_is_word K P w) [] E0 (tCons (tVar 1) tNil))))) (te := (tVar 1)) rfl sc_law_movables.nd (pi_list (pe_call C_law_values.O (hr.mono (by decide)) (by rfl) C_law_values.A.g C_law_values.A.F.kp C_law_values.A.b .nil pass0 (pa_cons (pv 0) pa_nil))) (blkOk_by (own := [("value", 1)]) (N := ["rows", "value"]) (sc := defScope s_law_movables) (by decide +kernel)) (fun _ _ _ _ _ => (pg_name (i := 1) sc_law_movables.nd rfl (by first | exact Or.inl rfl | exact Or.inr rfl))) (fun _ _ _ _ _ => (pts_one (pt_not (pt_val (pe_call C_law_is_word.O (hr.mono (by decide)) (by rfl) C_law_is_word.A.g C_law_is_word.A.F.kp C_law_is_word.A.b .nil pass0 (pa_cons (pv 1) pa_nil)))))) (fun _ _ _ _ _ => (pv 1)))))
theorem d_law_set (T : Txt mg)  (cdv : Value) (A : Around) (outer : List PySem.Env) (s : Shared) (H : Hp) (E : XK) (hr : Room 0 (A.deeper (PyProof.Rows.envOfC "_law_set" (defScope s_law_set) s.heap.objs.size f cdv))) :
    PSs (cxOf CX0 P w K mg base ["row", "setting", "value"] "_law_set" (defScope s_law_set) f cdv A outer s H E).nox (defBody s_law_set) (t_law_set K P w) := by
  exact (pss_one (ps_ret (pe_callTy cx_tup (by rfl) T.b_tuple bb_tuple (pa_cons (pe_op op_cat (pe_lst (pa_cons (pe_ix ix_tup (pv 0) pe_int (fun _ _ => rfl)) pa_nil)) (pe_lc (own := [("value", 2)]) (g := (gName 2)) (tt := tYes) (te := (tDGet2 (tVar 1) (tVar 2) (tVar 2))) rfl sc_law_set.nd (pi_tup (pe_slice sl_tupA (pv 0) (po_some pe_int) po_none)) (blkOk_by (own := [("value", 2)]) (N := ["row", "setting", "value"]) (sc := defScope s_law_set) (by decide +kernel)) (fun _ _ _ _ _ => (pg_name (i := 2) sc_law_set.nd rfl (by first | exact Or.inl rfl | exact Or.inr rfl))) (fun _ _ _ _ _ => pts_nil) (fun _ _ _ _ _ => (pe_dget2 (hu_of hr) (pv 1) (pv 2) (pv 2) ⟨by rfl, by rfl, by rfl, by rfl⟩)))) pa_nil))))
theorem d_law_is_partner {f_law_is_word : Addr} {fd_law_is_word : FuncData} (T : Txt mg) (C_law_is_word : Cal P w K mg base "_law_is_word" s_law_is_word ["text"] 1 f_law_is_word fd_law_is_word (sp_law_is_word K P w)) (cdv : Value) (A : Around) (outer : List PySem.Env) (s : Shared) (H : Hp) (E : XK) (hr : Room 1 (A.deeper (PyProof.Rows.envOfC "_law_is_partner" (defScope s_law_is_partner) s.heap.objs.size f cdv))) :
    PSs (cxOf CX0 P w K mg base ["row", "other", "setting", "at", "value", "due", "k"] "_law_is_partner" (defScope s_law_is_partner) f cdv A outer s H E).nox (defBody s_law_is_partner) (t_law_is_partner K P w) := by
  exact (pss_cons (ps_if (PW.pt (pw_or (pt_cmpR op_ne (pe_ix ix_tup (pv 1) pe_int (fun _ _ => rfl)) (pe_ix ix_tup (pv 0) pe_int (fun _ _ => rfl)) (nomark _)) (pw_or1 (pt_cmpR op_ne (pe_callB cx_len (by rfl) T.b_len bb_len (pa_cons (pv 1) pa_nil)) (pe_callB cx_len (by rfl) T.b_len bb_len (pa_cons (pv 0) pa_nil)) (nomark _))))) (pss_one (ps_ret pe_bl)) pss_nil)
    (pss_cons (ps_for PassesOwn.never rfl (pi_range2 (by rfl) T.b_range (pa_cons pe_int (pa_cons (pe_callB cx_len (by rfl) T.b_len bb_len (pa_cons (pv 0) pa_nil)) pa_nil))) (pg_name (i := 3) sc_law_is_partner.nd rfl (by first | exact Or.inl rfl | exact Or.inr rfl)) (pss_cons (ps_set (i := 4) sc_law_is_partner.nd rfl (by first | exact Or.inl rfl | exact Or.inr rfl) (pe_ix ix_tup (pv 0) (pv 3) (fun _ _ => rfl)))
      (pss_cons (ps_set (i := 5) sc_law_is_partner.nd rfl (by first | exact Or.inl rfl | exact Or.inr rfl) (pe_dget2 (hu_of hr) (pv 2) (pv 4) (pe_ix ix_tup (pv 1) (pv 3) (fun _ _ => rfl)) ⟨by rfl, by rfl, by rfl, by rfl⟩))
      (pss_cons (ps_if (pt_val (pe_call C_law_is_word.O (hr.mono (by decide)) (by rfl) C_law_is_word.A.g C_law_is_word.A.F.kp C_law_is_word.A.b .nil pass0 (pa_cons (pv 4) pa_nil))) (pss_one (ps_set (i := 5) sc_law_is_partner.nd rfl (by first | exact Or.inl rfl | exact Or.inr rfl) (pv 4))) pss_nil)
      (pss_cons (ps_if (pt_cmpR op_ne (pe_ix ix_tup (pv 1) (pv 3) (fun _ _ => rfl)) (pv 5) (nomark _)) (pss_one (ps_ret pe_bl)) pss_nil)
      (pss_one (ps_for PassesOwn.never rfl (pi_range2 (by rfl) T.b_range (pa_cons pe_int (pa_cons (pv 3) pa_nil))) (pg_name (i := 6) sc_law_is_partner.nd rfl (by first | exact Or.inl rfl | exact Or.inr rfl)) (pss_one (ps_if (PW.pt (pw_and (pt_cmpR op_eq (pe_ix ix_tup (pv 0) (pv 6) (fun _ _ => rfl)) (pv 4) (nomark _)) (pw_and1 (pt_cmpR op_ne (pe_ix ix_tup (pv 1) (pv 6) (fun _ _ => rfl)) (pe_ix ix_tup (pv 1) (pv 3) (fun _ _ => rfl)) (nomark _))))) (pss_one (ps_ret pe_bl)) pss_nil)))))))))
    (pss_one (ps_ret pe_bl))))
theorem d_law_set_by {f_law_is_word : Addr} {fd_law_is_word : FuncData} (T : Txt mg) (C_law_is_word : Cal P w K mg base "_law_is_word" s_law_is_word ["text"] 1 f_law_is_word fd_law_is_word (sp_law_is_word K P w)) (cdv : Value) (A : Around) (outer : List PySem.Env) (s : Shared) (H : Hp) (E : XK) (hr : Room 1 (A.deeper (PyProof.Rows.envOfC "_law_set_by" (defScope s_law_set_by) s.heap.objs.size f cdv))) :
    PSs (cxOf CX0 P w K mg base ["row", "partner", "setting", "more", "at"] "_law_set_by" (defScope s_law_set_by) f cdv A outer s H E).nox (defBody s_law_set_by) (t_law_set_by K P w) := by
  exact (pss_cons (ps_set (i := 3) sc_law_set_by.nd rfl (by first | exact Or.inl rfl | exact Or.inr rfl) (pe_callTy cx_dictD (by rfl) T.b_dict bb_dict (pa_cons (pv 2) pa_nil)))
    (pss_cons (ps_for PassesOwn.never rfl (pi_range2 (by rfl) T.b_range (pa_cons pe_int (pa_cons (pe_callB cx_len (by rfl) T.b_len bb_len (pa_cons (pv 0) pa_nil)) pa_nil))) (pg_name (i := 4) sc_law_set_by.nd rfl (by first | exact Or.inl rfl | exact Or.inr rfl)) (pss_one (ps_if (PW.pt (pw_and (pt_not (pt_val (pe_call C_law_is_word.O (hr.mono (by decide)) (by rfl) C_law_is_word.A.g C_law_is_word.A.F.kp C_law_is_word.A.b .nil pass0 (pa_cons (pe_ix ix_tup (pv 0) (pv 4) (fun _ _ => rfl)) pa_nil)))) (pw_and1 (pt_cmp (pc_dnotin (hu_of hr) (pe_ix ix_tup (pv 0) (pv 4) (fun _ _ => rfl)) (pv 3)))))) (pss_one (ps_dput (hu_of hr) (pv 3) (pe_ix ix_tup (pv 0) (pv 4) (fun _ _ => rfl)) (pe_ix ix_tup (pv 1) (pv 4) (fun _ _ => rfl)) rfl)) pss_nil)))
    (pss_one (ps_ret (pv 3)))))
theorem d_law_fold_due {f_law_movables f_law_set : Addr} {fd_law_movables fd_law_set : FuncData} (T : Txt mg) (C_law_movables : Cal P w K mg base "_law_movables" s_law_movables ["rows"] 2 f_law_movables fd_law_movables (sp_law_movables K P w)) (C_law_set : Cal P w K mg base "_law_set" s_law_set ["row", "setting"] 1 f_law_set fd_law_set (sp_law_set K P w)) (cdv : Value) (A : Around) (outer : List PySem.Env) (s : Shared) (H : Hp) (E : XK) (hr : Room 2 (A.deeper (PyProof.Rows.envOfC "_law_fold_due" (defScope s_law_fold_due) s.heap.objs.size f cdv))) :
    PSs (cxOf CX0 P w K mg base ["small", "big", "fold", "row"] "_law_fold_due" (defScope s_law_fold_due) f cdv A outer s H E).nox (defBody s_law_fold_due) (t_law_fold_due K P w) := by
  exact (pss_cons (ps_if (pt_cmpR (op_neD hr.units) (pe_callB (cx_sortDk rfl) (by rfl) T.b_sorted bb_sorted (pa_cons (pv 2) pa_nil)) (pe_call C_law_movables.O (hr.mono (by decide)) (by rfl) C_law_movables.A.g C_law_movables.A.F.kp C_law_movables.A.b .nil pass0 (pa_cons (pv 0) pa_nil)) (nomark _)) (pss_one (ps_ret pe_bl)) pss_nil)
    (pss_cons (ps_for PassesOwn.never rfl (pi_list (pv 0)) (pg_name (i := 3) sc_law_fold_due.nd rfl (by first | exact Or.inl rfl | exact Or.inr rfl)) (pss_one (ps_if (pt_cmpR (op_notInD (hu65 hr)) (pe_call C_law_set.O (hr.mono (by decide)) (by rfl) C_law_set.A.g C_law_set.A.F.kp C_law_set.A.b .nil pass0 (pa_cons (pv 3) (pa_cons (pv 2) pa_nil))) (pv 1) (by rfl)) (pss_one (ps_ret pe_bl)) pss_nil)))
    (pss_one (ps_ret pe_bl))))
theorem d_law_fold_holds {f_law_fold_due f_is_fold : Addr} {fd_law_fold_due fd_is_fold : FuncData} (T : Txt mg) (C_law_fold_due : Cal P w K mg base "_law_fold_due" s_law_fold_due ["small", "big", "fold"] 3 f_law_fold_due fd_law_fold_due (sp_law_fold_due K P w)) (C_is_fold : CalF P w K mg base "is_fold" s_is_fold ["small", "big", "fold"] 3 f_is_fold fd_is_fold (sp_is_fold K P w)) (cdv : Value) (A : Around) (outer : List PySem.Env) (s : Shared) (H : Hp) (E : XK) (hr : Room 3 (A.deeper (PyProof.Rows.envOfC "_law_fold_holds" (defScope s_law_fold_holds) s.heap.objs.size f cdv))) :
    PSs (cxOf CX0 P w K mg base ["small", "big", "fold", "due", "first", "second", "handed", "told", "turned"] "_law_fold_holds" (defScope s_law_fold_holds) f cdv A outer s H E).nox (defBody s_law_fold_holds) (t_law_fold_holds K P w) := by
  exact (pss_cons (ps_set (i := 3) sc_law_fold_holds.nd rfl (by first | exact Or.inl rfl | exact Or.inr rfl) (pe_call C_law_fold_due.O (hr.mono (by decide)) (by rfl) C_law_fold_due.A.g C_law_fold_due.A.F.kp C_law_fold_due.A.b .nil pass0 (pa_cons (pv 0) (pa_cons (pv 1) (pa_cons (pv 2) pa_nil)))))
    (pss_cons (ps_set (i := 4) sc_law_fold_holds.nd rfl (by first | exact Or.inl rfl | exact Or.inr rfl) (pe_callTy cx_list (by rfl) T.b_list bb_list (pa_cons (pv 0) pa_nil)))
    (pss_cons (ps_set (i := 5) sc_law_fold_holds.nd rfl (by first | exact Or.inl rfl | exact Or.inr rfl) (pe_callTy cx_list (by rfl) T.b_list bb_list (pa_cons (pv 1) pa_nil)))
    (pss_cons (ps_set (i := 6) sc_law_fold_holds.nd rfl (by first | exact Or.inl rfl | exact Or.inr rfl) (pe_callTy cx_dictD (by rfl) T.b_dict bb_dict (pa_cons (pv 2) pa_nil)))
    (pss_cons (ps_set (i := 7) sc_law_fold_holds.nd rfl (by first | exact Or.inl rfl | exact Or.inr rfl) (pe_call C_is_fold.O (hr.mono (by decide)) (by rfl) C_is_fold.A.g C_is_fold.A.F.kp C_is_fold.A.b .nil pass0 (pa_cons (pv 4) (pa_cons (pv 5) (pa_cons (pv 6) pa_nil)))))
    (pss_cons (ps_if (PW.pt (pw_or (pt_cmpR (op_neD hr.units) (pv 4) (pv 0) (nomark _)) (pw_or (pt_cmpR (op_neD hr.units) (pv 5) (pv 1) (nomark _)) (pw_or1 (pt_cmpR (op_neD hr.units) (LiI.pe_listItems rfl (pv 6) (by rfl) T.b_list bb_list) (LiI.pe_listItems rfl (pv 2) (by rfl) T.b_list bb_list) (nomark _)))))) (pss_one (ps_ret pe_bl)) pss_nil)
    (pss_cons (ps_if (PW.pt (pw_or (pt_cmpR op_ne (pe_cmpR op_isBl (pv 7) pe_bl (nomark _)) (pv 3) (nomark _)) (pw_or1 (pt_cmpR op_eq (pe_cmpR op_isBl (pv 7) pe_bl (nomark _)) (pv 3) (nomark _))))) (pss_one (ps_ret pe_bl)) pss_nil)
    (pss_cons (ps_set (i := 8) sc_law_fold_holds.nd rfl (by first | exact Or.inl rfl | exact Or.inr rfl) (pe_callTy cx_tup (by rfl) T.b_tuple bb_tuple (pa_cons (pe_revL (pv 0)) pa_nil)))
    (pss_cons (ps_set (i := 7) sc_law_fold_holds.nd rfl (by first | exact Or.inl rfl | exact Or.inr rfl) (pe_callK0 C_is_fold.O (hr.mono (by decide)) (by rfl) C_is_fold.A.g C_is_fold.A.F.kp C_is_fold.kb pass0 (pk_cons (pv 6) (pk_cons (pv 8) (pk_cons (pe_callTy cx_tup (by rfl) T.b_tuple bb_tuple (pa_cons (pe_op op_cat (pv 1) (pv 1)) pa_nil)) pk_nil)))))
    (pss_one (ps_ret (pe_and (pe_cmpR op_eq (pe_cmpR op_isBl (pv 7) pe_bl (nomark _)) (pv 3) (nomark _)) (pe_one (pe_cmpR op_ne (pe_cmpR op_isBl (pv 7) pe_bl (nomark _)) (pv 3) (nomark _)))))))))))))))
theorem d_law_spoilt_fold {f_law_pick f_law_one_of : Addr} {fd_law_pick fd_law_one_of : FuncData} (T : Txt mg) (C_law_pick : Cal P w K mg base "_law_pick" s_law_pick ["pool", "many"] 1 f_law_pick fd_law_pick (sp_law_pick K)) (C_law_one_of : Cal P w K mg base "_law_one_of" s_law_one_of ["pool", "things"] 2 f_law_one_of fd_law_one_of (sp_law_one_of K)) (cdv : Value) (A : Around) (outer : List PySem.Env) (s : Shared) (H : Hp) (E : XK) (hr : Room 2 (A.deeper (PyProof.Rows.envOfC "_law_spoilt_fold" (defScope s_law_spoilt_fold) s.heap.objs.size f cdv))) :
    PSs (cxOf CX0 P w K mg base ["pool", "fold", "movable", "words", "keys", "kind", "changed", "key"] "_law_spoilt_fold" (defScope s_law_spoilt_fold) f cdv A outer s H E).nox (defBody s_law_spoilt_fold) (t_law_spoilt_fold K P w) := by
  exact (pss_cons (ps_set (i := 4) sc_law_spoilt_fold.nd rfl (by first | exact Or.inl rfl | exact Or.inr rfl) (pe_callTy (cx_listDk rfl) (by rfl) T.b_list bb_list (pa_cons (pv 1) pa_nil)))
    (pss_cons (ps_set (i := 5) sc_law_spoilt_fold.nd rfl (by first | exact Or.inl rfl | exact Or.inr rfl) (pe_call C_law_pick.O (hr.mono (by decide)) (by rfl) C_law_pick.A.g C_law_pick.A.F.kp C_law_pick.A.b .nil pass0 (pa_cons (pv 0) (pa_cons pe_int pa_nil))))
    (pss_cons (ps_set (i := 6) sc_law_spoilt_fold.nd rfl (by first | exact Or.inl rfl | exact Or.inr rfl) pe_dnewK)
    (pss_cons (ps_for PassesOwn.never rfl (pi_list (pe_revL (pv 4))) (pg_name (i := 7) sc_law_spoilt_fold.nd rfl (by first | exact Or.inl rfl | exact Or.inr rfl)) (pss_one (ps_dput (hu_of hr) (pv 6) (pv 7) (pe_dget (hu_of hr) (pv 1) (pv 7) (fun _ _ => rfl)) rfl)))
    (pss_cons (ps_if (pt_cmpR op_eq (pv 5) pe_int (nomark _)) (pss_cons (ps_set (i := 7) sc_law_spoilt_fold.nd rfl (by first | exact Or.inl rfl | exact Or.inr rfl) (pe_call C_law_one_of.O (hr.mono (by decide)) (by rfl) C_law_one_of.A.g C_law_one_of.A.F.kp C_law_one_of.A.b .nil pass0 (pa_cons (pv 0) (pa_cons (pe_lst (pa_cons pe_str (pa_cons pe_str (pa_cons pe_str (pa_cons (pe_ix ix_list (pv 3) pe_int (fun _ _ => rfl)) pa_nil))))) pa_nil))))
      (pss_one (ps_dput (hu_of hr) (pv 6) (pv 7) (pe_call C_law_one_of.O (hr.mono (by decide)) (by rfl) C_law_one_of.A.g C_law_one_of.A.F.kp C_law_one_of.A.b .nil pass0 (pa_cons (pv 0) (pa_cons (pv 3) pa_nil))) rfl))) (pss_one (ps_if (pt_cmpR (op_neD hr.units) (pv 4) (pe_lst pa_nil) (nomark _)) (pss_cons (ps_set (i := 7) sc_law_spoilt_fold.nd rfl (by first | exact Or.inl rfl | exact Or.inr rfl) (pe_call C_law_one_of.O (hr.mono (by decide)) (by rfl) C_law_one_of.A.g C_law_one_of.A.F.kp C_law_one_of.A.b .nil pass0 (pa_cons (pv 0) (pa_cons (pv 4) pa_nil))))
      (pss_one (ps_if (pt_cmpR op_lt (pv 5) pe_int (nomark _)) (pss_one (ps_dput (hu_of hr) (pv 6) (pv 7) (pe_call C_law_one_of.O (hr.mono (by decide)) (by rfl) C_law_one_of.A.g C_law_one_of.A.F.kp C_law_one_of.A.b .nil pass0 (pa_cons (pv 0) (pa_cons (pe_op op_cat (pe_op op_cat (pv 3) (pv 2)) (pe_lst (pa_cons pe_str pa_nil))) pa_nil))) rfl)) (pss_one (ps_if (pt_cmpR op_eq (pv 5) pe_int (nomark _)) (pss_one (ps_expr (pe_dpop1 (pv 6) (pv 7) ⟨by rfl, by rfl, by rfl, by rfl⟩))) pss_nil))))) pss_nil)))
    (pss_one (ps_ret (pv 6))))))))
theorem d_law_folds_hold {f_law_movables f_law_fold_holds f_law_spoilt_fold f_law_pick : Addr} {fd_law_movables fd_law_fold_holds fd_law_spoilt_fold fd_law_pick : FuncData} (T : Txt mg) (C_law_movables : Cal P w K mg base "_law_movables" s_law_movables ["rows"] 2 f_law_movables fd_law_movables (sp_law_movables K P w)) (C_law_fold_holds : Cal P w K mg base "_law_fold_holds" s_law_fold_holds ["small", "big", "fold"] 4 f_law_fold_holds fd_law_fold_holds (sp_law_fold_holds K P w)) (C_law_spoilt_fold : Cal P w K mg base "_law_spoilt_fold" s_law_spoilt_fold ["pool", "fold", "movable", "words"] 3 f_law_spoilt_fold fd_law_spoilt_fold (sp_law_spoilt_fold K P w)) (C_law_pick : Cal P w K mg base "_law_pick" s_law_pick ["pool", "many"] 1 f_law_pick fd_law_pick (sp_law_pick K)) (cdv : Value) (A : Around) (outer : List PySem.Env) (s : Shared) (H : Hp) (E : XK) (hr : Room 4 (A.deeper (PyProof.Rows.envOfC "_law_folds_hold" (defScope s_law_folds_hold) s.heap.objs.size f cdv))) :
    PSs (cxOf CX0 P w K mg base ["pool", "small", "big", "hidden", "movable", "words", "fold", "value", "k", "changed", "at", "less"] "_law_folds_hold" (defScope s_law_folds_hold) f cdv A outer s H E).nox (defBody s_law_folds_hold) (t_law_folds_hold K P w) := by
  exact (pss_cons (ps_set (i := 6) sc_law_folds_hold.nd rfl (by first | exact Or.inl rfl | exact Or.inr rfl) pe_dnewK)
    (pss_cons (ps_for PassesOwn.never rfl (pi_list (pe_call C_law_movables.O (hr.mono (by decide)) (by rfl) C_law_movables.A.g C_law_movables.A.F.kp C_law_movables.A.b .nil pass0 (pa_cons (pv 1) pa_nil))) (pg_name (i := 7) sc_law_folds_hold.nd rfl (by first | exact Or.inl rfl | exact Or.inr rfl)) (pss_one (ps_dput (hu_of hr) (pv 6) (pv 7) (pe_dget (hu_of hr) (pv 3) (pv 7) (fun _ _ => rfl)) rfl)))
    (pss_cons (ps_if (pt_not (pt_val (pe_call C_law_fold_holds.O (hr.mono (by decide)) (by rfl) C_law_fold_holds.A.g C_law_fold_holds.A.F.kp C_law_fold_holds.A.b .nil pass0 (pa_cons (pv 1) (pa_cons (pv 2) (pa_cons (pv 6) pa_nil)))))) (pss_one (ps_ret pe_bl)) pss_nil)
    (pss_cons (ps_for PassesOwn.never rfl (pi_range1 (by rfl) T.b_range (pa_cons pe_int pa_nil)) (pg_name (i := 8) sc_law_folds_hold.nd rfl (by first | exact Or.inl rfl | exact Or.inr rfl)) (pss_cons (ps_set (i := 9) sc_law_folds_hold.nd rfl (by first | exact Or.inl rfl | exact Or.inr rfl) (pe_call C_law_spoilt_fold.O (hr.mono (by decide)) (by rfl) C_law_spoilt_fold.A.g C_law_spoilt_fold.A.F.kp C_law_spoilt_fold.A.b .nil pass0 (pa_cons (pv 0) (pa_cons (pv 6) (pa_cons (pv 4) (pa_cons (pv 5) pa_nil))))))
      (pss_one (ps_if (pt_not (pt_val (pe_call C_law_fold_holds.O (hr.mono (by decide)) (by rfl) C_law_fold_holds.A.g C_law_fold_holds.A.F.kp C_law_fold_holds.A.b .nil pass0 (pa_cons (pv 1) (pa_cons (pv 2) (pa_cons (pv 9) pa_nil)))))) (pss_one (ps_ret pe_bl)) pss_nil))))
    (pss_cons (ps_set (i := 10) sc_law_folds_hold.nd rfl (by first | exact Or.inl rfl | exact Or.inr rfl) (pe_call C_law_pick.O (hr.mono (by decide)) (by rfl) C_law_pick.A.g C_law_pick.A.F.kp C_law_pick.A.b .nil pass0 (pa_cons (pv 0) (pa_cons (pe_callB cx_len (by rfl) T.b_len bb_len (pa_cons (pv 2) pa_nil)) pa_nil))))
    (pss_cons (ps_set (i := 11) sc_law_folds_hold.nd rfl (by first | exact Or.inl rfl | exact Or.inr rfl) (pe_op op_cat (pe_slice sl_list (pv 2) po_none (po_some (pv 10))) (pe_slice sl_list (pv 2) (po_some (pe_op op_add (pv 10) pe_int)) po_none)))
    (pss_one (ps_ret (pe_and (pe_call C_law_fold_holds.O (hr.mono (by decide)) (by rfl) C_law_fold_holds.A.g C_law_fold_holds.A.F.kp C_law_fold_holds.A.b .nil pass0 (pa_cons (pv 1) (pa_cons (pv 11) (pa_cons (pv 6) pa_nil)))) (pe_one (pe_call C_law_fold_holds.O (hr.mono (by decide)) (by rfl) C_law_fold_holds.A.g C_law_fold_holds.A.F.kp C_law_fold_holds.A.b .nil pass0 (pa_cons (pe_lst pa_nil) (pa_cons (pv 11) (pa_cons pe_dnewK pa_nil))))))))))))))
theorem d_law_closed_due {f_law_is_partner f_law_set_by : Addr} {fd_law_is_partner fd_law_set_by : FuncData} (T : Txt mg) (C_law_is_partner : Cal P w K mg base "_law_is_partner" s_law_is_partner ["row", "other", "setting"] 2 f_law_is_partner fd_law_is_partner (sp_law_is_partner K P w)) (C_law_set_by : Cal P w K mg base "_law_set_by" s_law_set_by ["row", "partner", "setting"] 2 f_law_set_by fd_law_set_by (sp_law_set_by K P w)) (cdv : Value) (A : Around) (outer : List PySem.Env) (s : Shared) (H : Hp) (E : XK) (hr : Room 2 (A.deeper (PyProof.Rows.envOfC "_law_closed_due" (defScope s_law_closed_due) s.heap.objs.size f cdv))) :
    PSs (cxOf CX0 P w K mg base ["small", "big", "rows", "setting", "targets", "waiting", "row", "here", "other"] "_law_closed_due" (defScope s_law_closed_due) f cdv A outer s H E).nox (defBody s_law_closed_due) (t_law_closed_due K P w) := by
  exact (pss_cons (ps_set (i := 4) sc_law_closed_due.nd rfl (by first | exact Or.inl rfl | exact Or.inr rfl) (pe_callB (cx_sortT rfl) (by rfl) T.b_sorted bb_sorted (pa_cons (pe_callTy (cx_setT rfl hr.units) (by rfl) T.b_set bb_set (pa_cons (pv 1) pa_nil)) pa_nil)))
    (pss_cons (ps_set (i := 5) sc_law_closed_due.nd rfl (by first | exact Or.inl rfl | exact Or.inr rfl) (pe_lst (pa_cons (pe_callTy cx_dictD (by rfl) T.b_dict bb_dict (pa_cons (pv 3) pa_nil)) pa_nil)))
    (pss_cons (ps_for PassesOwn.never rfl (pi_list (pv 2)) (pg_name (i := 6) sc_law_closed_due.nd rfl (by first | exact Or.inl rfl | exact Or.inr rfl)) (pss_cons (ps_if (PW.pt (pw_or (pt_cmpR (op_eqE (hu0 hr)) (pv 5) (pe_lst pa_nil) (nomark _)) (pw_or1 (pt_cmpR (op_notInD (hu65 hr)) (pv 6) (pv 0) (by rfl))))) (pss_one (ps_ret pe_bl)) pss_nil)
      (pss_cons (ps_set (i := 7) sc_law_closed_due.nd rfl (by first | exact Or.inl rfl | exact Or.inr rfl) (pe_ix ix_list (pv 5) (pe_un un_neg pe_int) (fun _ _ => rfl)))
      (pss_cons (ps_set (i := 5) sc_law_closed_due.nd rfl (by first | exact Or.inl rfl | exact Or.inr rfl) (pe_slice sl_list (pv 5) po_none (po_some (pe_un un_neg pe_int))))
      (pss_one (ps_for PassesOwn.never rfl (pi_list (pe_revL (pv 4))) (pg_name (i := 8) sc_law_closed_due.nd rfl (by first | exact Or.inl rfl | exact Or.inr rfl)) (pss_one (ps_if (pt_val (pe_call C_law_is_partner.O (hr.mono (by decide)) (by rfl) C_law_is_partner.A.g C_law_is_partner.A.F.kp C_law_is_partner.A.b .nil pass0 (pa_cons (pv 6) (pa_cons (pv 8) (pa_cons (pv 7) pa_nil))))) (pss_one (ps_expr (pe_bm PySem.F.plainAttrs_list PySem.F.slot_list_append PySem.F.type_list_append mt_append (pv 5) (pa_cons (pe_call C_law_set_by.O (hr.mono (by decide)) (by rfl) C_law_set_by.A.g C_law_set_by.A.F.kp C_law_set_by.A.b .nil pass0 (pa_cons (pv 6) (pa_cons (pv 8) (pa_cons (pv 7) pa_nil)))) pa_nil)))) pss_nil))))))))
    (pss_one (ps_ret (pe_cmpR (op_eqE (hu0 hr)) (pv 5) (pe_lst pa_nil) (nomark _)))))))
theorem d_law_closed_holds {f_law_closed_due f_is_closed : Addr} {fd_law_closed_due fd_is_closed : FuncData} (T : Txt mg) (C_law_closed_due : Cal P w K mg base "_law_closed_due" s_law_closed_due ["small", "big", "rows", "setting"] 3 f_law_closed_due fd_law_closed_due (sp_law_closed_due K P w)) (C_is_closed : CalC P w K mg base "is_closed" s_is_closed ["small", "big", "rows", "setting"] 5 f_is_closed fd_is_closed (sp_is_closed K P w)) (cdv : Value) (A : Around) (outer : List PySem.Env) (s : Shared) (H : Hp) (E : XK) (hr : Room 5 (A.deeper (PyProof.Rows.envOfC "_law_closed_holds" (defScope s_law_closed_holds) s.heap.objs.size f cdv))) :
    PSs (cxOf CX0 P w K mg base ["small", "big", "rows", "setting", "due", "first", "second", "third", "handed", "told", "turned"] "_law_closed_holds" (defScope s_law_closed_holds) f cdv A outer s H E).nox (defBody s_law_closed_holds) (t_law_closed_holds K P w) := by
  exact (pss_cons (ps_set (i := 4) sc_law_closed_holds.nd rfl (by first | exact Or.inl rfl | exact Or.inr rfl) (pe_call C_law_closed_due.O (hr.mono (by decide)) (by rfl) C_law_closed_due.A.g C_law_closed_due.A.F.kp C_law_closed_due.A.b .nil pass0 (pa_cons (pv 0) (pa_cons (pv 1) (pa_cons (pv 2) (pa_cons (pv 3) pa_nil))))))
    (pss_cons (ps_set (i := 5) sc_law_closed_holds.nd rfl (by first | exact Or.inl rfl | exact Or.inr rfl) (pe_callTy cx_list (by rfl) T.b_list bb_list (pa_cons (pv 0) pa_nil)))
    (pss_cons (ps_set (i := 6) sc_law_closed_holds.nd rfl (by first | exact Or.inl rfl | exact Or.inr rfl) (pe_callTy cx_list (by rfl) T.b_list bb_list (pa_cons (pv 1) pa_nil)))
    (pss_cons (ps_set (i := 7) sc_law_closed_holds.nd rfl (by first | exact Or.inl rfl | exact Or.inr rfl) (pe_callTy cx_list (by rfl) T.b_list bb_list (pa_cons (pv 2) pa_nil)))
    (pss_cons (ps_set (i := 8) sc_law_closed_holds.nd rfl (by first | exact Or.inl rfl | exact Or.inr rfl) (pe_callTy cx_dictD (by rfl) T.b_dict bb_dict (pa_cons (pv 3) pa_nil)))
    (pss_cons (ps_set (i := 9) sc_law_closed_holds.nd rfl (by first | exact Or.inl rfl | exact Or.inr rfl) (pe_call C_is_closed.O (hr.mono (by decide)) (by rfl) C_is_closed.A.g C_is_closed.A.F.kp C_is_closed.A.b .nil pass0 (pa_cons (pv 5) (pa_cons (pv 6) (pa_cons (pv 7) (pa_cons (pv 8) pa_nil))))))
    (pss_cons (ps_if (PW.pt (pw_or (pt_cmpR (op_neD hr.units) (pv 5) (pv 0) (nomark _)) (pw_or1 (pt_cmpR (op_neD hr.units) (pv 6) (pv 1) (nomark _))))) (pss_one (ps_ret pe_bl)) pss_nil)
    (pss_cons (ps_if (PW.pt (pw_or (pt_cmpR (op_neD hr.units) (pv 7) (pv 2) (nomark _)) (pw_or1 (pt_cmpR (op_dNe (hu0 hr)) (pv 8) (pv 3) (nomark _))))) (pss_one (ps_ret pe_bl)) pss_nil)
    (pss_cons (ps_if (PW.pt (pw_or (pt_cmpR op_ne (pe_cmpR op_isBl (pv 9) pe_bl (nomark _)) (pv 4) (nomark _)) (pw_or1 (pt_cmpR op_eq (pe_cmpR op_isBl (pv 9) pe_bl (nomark _)) (pv 4) (nomark _))))) (pss_one (ps_ret pe_bl)) pss_nil)
    (pss_cons (ps_set (i := 10) sc_law_closed_holds.nd rfl (by first | exact Or.inl rfl | exact Or.inr rfl) (pe_callTy cx_tup (by rfl) T.b_tuple bb_tuple (pa_cons (pe_op op_cat (pe_revL (pv 1)) (pv 1)) pa_nil)))
    (pss_cons (ps_if (pt_cmpR (op_dEq (hu0 hr)) (pv 3) pe_dnewK (nomark _)) (pss_one (ps_set (i := 9) sc_law_closed_holds.nd rfl (by first | exact Or.inl rfl | exact Or.inr rfl) (pe_callK0 C_is_closed.O (hr.mono (by decide)) (by rfl) C_is_closed.A.g C_is_closed.A.F.kp C_is_closed.kb1 pass0 (pk_cons (pv 10) (pk_cons (pv 5) (pk_cons (pv 7) pk_nil)))))) (pss_one (ps_set (i := 9) sc_law_closed_holds.nd rfl (by first | exact Or.inl rfl | exact Or.inr rfl) (pe_callN (n := 3) (ks := ["setting"]) C_is_closed.O (hr.mono (by decide)) (by rfl) C_is_closed.A.g C_is_closed.A.F.kp C_is_closed.kb2 pass0 (pa_cons (pe_callTy cx_tup (by rfl) T.b_tuple bb_tuple (pa_cons (pv 0) pa_nil)) (pa_cons (pv 10) (pa_cons (pe_callTy cx_tup (by rfl) T.b_tuple bb_tuple (pa_cons (pv 2) pa_nil)) pa_nil))) (pk_cons (pv 8) pk_nil)))))
    (pss_one (ps_ret (pe_and (pe_cmpR op_eq (pe_cmpR op_isBl (pv 9) pe_bl (nomark _)) (pv 4) (nomark _)) (pe_one (pe_cmpR op_ne (pe_cmpR op_isBl (pv 9) pe_bl (nomark _)) (pv 4) (nomark _)))))))))))))))))
theorem d_law_closed_rows {f_law_is_partner f_law_set_by : Addr} {fd_law_is_partner fd_law_set_by : FuncData} (T : Txt mg) (C_law_is_partner : Cal P w K mg base "_law_is_partner" s_law_is_partner ["row", "other", "setting"] 2 f_law_is_partner fd_law_is_partner (sp_law_is_partner K P w)) (C_law_set_by : Cal P w K mg base "_law_set_by" s_law_set_by ["row", "partner", "setting"] 2 f_law_set_by fd_law_set_by (sp_law_set_by K P w)) (cdv : Value) (A : Around) (outer : List PySem.Env) (s : Shared) (H : Hp) (E : XK) (hr : Room 2 (A.deeper (PyProof.Rows.envOfC "_law_closed_rows" (defScope s_law_closed_rows) s.heap.objs.size f cdv))) :
    PSs (cxOf CX0 P w K mg base ["big", "order", "setting", "targets", "waiting", "found", "k", "at", "here", "row", "other"] "_law_closed_rows" (defScope s_law_closed_rows) f cdv A outer s H E).nox (defBody s_law_closed_rows) (t_law_closed_rows K P w) := by
  exact (pss_cons (ps_set (i := 3) sc_law_closed_rows.nd rfl (by first | exact Or.inl rfl | exact Or.inr rfl) (pe_callB (cx_sortT rfl) (by rfl) T.b_sorted bb_sorted (pa_cons (pe_callTy (cx_setT rfl hr.units) (by rfl) T.b_set bb_set (pa_cons (pv 0) pa_nil)) pa_nil)))
    (pss_cons (ps_set (i := 4) sc_law_closed_rows.nd rfl (by first | exact Or.inl rfl | exact Or.inr rfl) (pe_lst (pa_cons (pe_tup (pa_cons pe_int (pa_cons (pe_callTy cx_dictD (by rfl) T.b_dict bb_dict (pa_cons (pv 2) pa_nil)) pa_nil))) pa_nil)))
    (pss_cons (ps_set (i := 5) sc_law_closed_rows.nd rfl (by first | exact Or.inl rfl | exact Or.inr rfl) (pe_lst pa_nil))
    (pss_cons (ps_for PassesOwn.never rfl (pi_range1 (by rfl) T.b_range (pa_cons pe_int pa_nil)) (pg_name (i := 6) sc_law_closed_rows.nd rfl (by first | exact Or.inl rfl | exact Or.inr rfl)) (pss_cons (ps_if (pt_cmpR (op_eqE (hu0 hr)) (pv 4) (pe_lst pa_nil) (nomark _)) (pss_one (ps_ret (pv 5))) pss_nil)
      (pss_cons (ps_asg (pe_ix ix_list (pv 4) (pe_un un_neg pe_int) (fun _ _ => rfl)) (pg_tup rfl (pgs_cons (pg_name (i := 7) sc_law_closed_rows.nd rfl (by first | exact Or.inl rfl | exact Or.inr rfl)) (pgs_cons (pg_name (i := 8) sc_law_closed_rows.nd rfl (by first | exact Or.inl rfl | exact Or.inr rfl)) pgs_nil))))
      (pss_cons (ps_set (i := 4) sc_law_closed_rows.nd rfl (by first | exact Or.inl rfl | exact Or.inr rfl) (pe_slice sl_list (pv 4) po_none (po_some (pe_un un_neg pe_int))))
      (pss_cons (ps_set (i := 9) sc_law_closed_rows.nd rfl (by first | exact Or.inl rfl | exact Or.inr rfl) (pe_ix ix_list (pv 1) (pv 7) (fun _ _ => rfl)))
      (pss_cons (ps_expr (pe_bm PySem.F.plainAttrs_list PySem.F.slot_list_append PySem.F.type_list_append mt_append (pv 5) (pa_cons (pv 9) pa_nil)))
      (pss_one (ps_for PassesOwn.never rfl (pi_list (pe_revL (pv 3))) (pg_name (i := 10) sc_law_closed_rows.nd rfl (by first | exact Or.inl rfl | exact Or.inr rfl)) (pss_one (ps_if (pt_val (pe_call C_law_is_partner.O (hr.mono (by decide)) (by rfl) C_law_is_partner.A.g C_law_is_partner.A.F.kp C_law_is_partner.A.b .nil pass0 (pa_cons (pv 9) (pa_cons (pv 10) (pa_cons (pv 8) pa_nil))))) (pss_one (ps_expr (pe_bm PySem.F.plainAttrs_list PySem.F.slot_list_append PySem.F.type_list_append mt_append (pv 4) (pa_cons (pe_tup (pa_cons (pe_op op_add (pv 7) pe_int) (pa_cons (pe_call C_law_set_by.O (hr.mono (by decide)) (by rfl) C_law_set_by.A.g C_law_set_by.A.F.kp C_law_set_by.A.b .nil pass0 (pa_cons (pv 9) (pa_cons (pv 10) (pa_cons (pv 8) pa_nil)))) pa_nil))) pa_nil)))) pss_nil))))))))))
    (pss_one (ps_ret (pv 5)))))))
theorem d_law_spoilt_rows {f_law_pick f_law_one_of : Addr} {fd_law_pick fd_law_one_of : FuncData} (T : Txt mg) (C_law_pick : Cal P w K mg base "_law_pick" s_law_pick ["pool", "many"] 1 f_law_pick fd_law_pick (sp_law_pick K)) (C_law_one_of : Cal P w K mg base "_law_one_of" s_law_one_of ["pool", "things"] 2 f_law_one_of fd_law_one_of (sp_law_one_of K)) (cdv : Value) (A : Around) (outer : List PySem.Env) (s : Shared) (H : Hp) (E : XK) (hr : Room 2 (A.deeper (PyProof.Rows.envOfC "_law_spoilt_rows" (defScope s_law_spoilt_rows) s.heap.objs.size f cdv))) :
    PSs (cxOf CX0 P w K mg base ["pool", "rows", "small", "spare", "kind", "at", "row", "front", "here", "behind"] "_law_spoilt_rows" (defScope s_law_spoilt_rows) f cdv A outer s H E).nox (defBody s_law_spoilt_rows) (t_law_spoilt_rows K P w) := by
  exact (pss_cons (ps_set (i := 4) sc_law_spoilt_rows.nd rfl (by first | exact Or.inl rfl | exact Or.inr rfl) (pe_call C_law_pick.O (hr.mono (by decide)) (by rfl) C_law_pick.A.g C_law_pick.A.F.kp C_law_pick.A.b .nil pass0 (pa_cons (pv 0) (pa_cons pe_int pa_nil))))
    (pss_cons (ps_set (i := 5) sc_law_spoilt_rows.nd rfl (by first | exact Or.inl rfl | exact Or.inr rfl) (pe_call C_law_pick.O (hr.mono (by decide)) (by rfl) C_law_pick.A.g C_law_pick.A.F.kp C_law_pick.A.b .nil pass0 (pa_cons (pv 0) (pa_cons (pe_callB cx_len (by rfl) T.b_len bb_len (pa_cons (pv 1) pa_nil)) pa_nil))))
    (pss_cons (ps_set (i := 6) sc_law_spoilt_rows.nd rfl (by first | exact Or.inl rfl | exact Or.inr rfl) (pe_call C_law_one_of.O (hr.mono (by decide)) (by rfl) C_law_one_of.A.g C_law_one_of.A.F.kp C_law_one_of.A.b .nil pass0 (pa_cons (pv 0) (pa_cons (pv 2) pa_nil))))
    (pss_cons (ps_set (i := 7) sc_law_spoilt_rows.nd rfl (by first | exact Or.inl rfl | exact Or.inr rfl) (pe_slice sl_list (pv 1) po_none (po_some (pv 5))))
    (pss_cons (ps_set (i := 8) sc_law_spoilt_rows.nd rfl (by first | exact Or.inl rfl | exact Or.inr rfl) (pe_slice sl_list (pv 1) (po_some (pv 5)) (po_some (pe_op op_add (pv 5) pe_int))))
    (pss_cons (ps_set (i := 9) sc_law_spoilt_rows.nd rfl (by first | exact Or.inl rfl | exact Or.inr rfl) (pe_slice sl_list (pv 1) (po_some (pe_op op_add (pv 5) pe_int)) po_none))
    (pss_cons (ps_if (pt_cmpR op_eq (pv 4) pe_int (nomark _)) (pss_one (ps_ret (pe_op op_cat (pe_op op_cat (pv 7) (pe_lst (pa_cons (pv 6) pa_nil))) (pv 9)))) pss_nil)
    (pss_cons (ps_if (pt_cmpR op_eq (pv 4) pe_int (nomark _)) (pss_one (ps_ret (pe_slice sl_list (pv 1) po_none (po_some (pe_un un_neg pe_int))))) pss_nil)
    (pss_cons (ps_if (pt_cmpR op_eq (pv 4) pe_int (nomark _)) (pss_one (ps_ret (pe_op op_cat (pv 1) (pe_lst (pa_cons (pv 6) pa_nil))))) pss_nil)
    (pss_cons (ps_if (pt_cmpR op_eq (pv 4) pe_int (nomark _)) (pss_one (ps_ret (pe_op op_cat (pe_op op_cat (pe_op op_cat (pv 7) (pe_slice sl_list (pv 9) po_none (po_some pe_int))) (pv 8)) (pe_slice sl_list (pv 9) (po_some pe_int) po_none)))) pss_nil)
    (pss_cons (ps_if (pt_cmpR op_eq (pv 4) pe_int (nomark _)) (pss_one (ps_ret (pe_op op_cat (pe_op op_cat (pv 7) (pe_lst (pa_cons (pv 3) pa_nil))) (pv 9)))) pss_nil)
    (pss_cons (ps_if (pt_cmpR op_eq (pv 4) pe_int (nomark _)) (pss_one (ps_ret (pe_op op_cat (pv 7) (pv 9)))) pss_nil)
    (pss_cons (ps_if (pt_cmpR op_eq (pv 4) pe_int (nomark _)) (pss_one (ps_ret (pe_op op_cat (pe_op op_cat (pe_op op_cat (pv 7) (pv 8)) (pv 8)) (pv 9)))) pss_nil)
    (pss_one (ps_ret (pe_op op_cat (pe_op op_cat (pv 8) (pv 9)) (pv 7)))))))))))))))))
theorem d_law_lists_hold {f_law_pick f_law_closed_rows f_law_closed_holds f_law_spoilt_rows : Addr} {fd_law_pick fd_law_closed_rows fd_law_closed_holds fd_law_spoilt_rows : FuncData} (T : Txt mg) (C_law_pick : Cal P w K mg base "_law_pick" s_law_pick ["pool", "many"] 1 f_law_pick fd_law_pick (sp_law_pick K)) (C_law_closed_rows : Cal P w K mg base "_law_closed_rows" s_law_closed_rows ["big", "order", "setting"] 3 f_law_closed_rows fd_law_closed_rows (sp_law_closed_rows K P w)) (C_law_closed_holds : Cal P w K mg base "_law_closed_holds" s_law_closed_holds ["small", "big", "rows", "setting"] 6 f_law_closed_holds fd_law_closed_holds (sp_law_closed_holds K P w)) (C_law_spoilt_rows : Cal P w K mg base "_law_spoilt_rows" s_law_spoilt_rows ["pool", "rows", "small", "spare"] 3 f_law_spoilt_rows fd_law_spoilt_rows (sp_law_spoilt_rows K P w)) (cdv : Value) (A : Around) (outer : List PySem.Env) (s : Shared) (H : Hp) (E : XK) (hr : Room 6 (A.deeper (PyProof.Rows.envOfC "_law_lists_hold" (defScope s_law_lists_hold) s.heap.objs.size f cdv))) :
    PSs (cxOf CX0 P w K mg base ["pool", "small", "big", "strange", "spare", "setting", "at", "order", "every", "rows", "k", "changed", "more"] "_law_lists_hold" (defScope s_law_lists_hold) f cdv A outer s H E).nox (defBody s_law_lists_hold) (t_law_lists_hold K P w) := by
  exact (pss_cons (ps_set (i := 6) sc_law_lists_hold.nd rfl (by first | exact Or.inl rfl | exact Or.inr rfl) (pe_call C_law_pick.O (hr.mono (by decide)) (by rfl) C_law_pick.A.g C_law_pick.A.F.kp C_law_pick.A.b .nil pass0 (pa_cons (pv 0) (pa_cons (pe_op op_add (pe_callB cx_len (by rfl) T.b_len bb_len (pa_cons (pv 1) pa_nil)) pe_int) pa_nil))))
    (pss_cons (ps_set (i := 7) sc_law_lists_hold.nd rfl (by first | exact Or.inl rfl | exact Or.inr rfl) (pe_op op_cat (pe_op op_cat (pe_slice sl_list (pv 1) po_none (po_some (pv 6))) (pe_lst (pa_cons (pv 3) pa_nil))) (pe_slice sl_list (pv 1) (po_some (pv 6)) po_none)))
    (pss_cons (ps_if (PW.pt (pw_and (pt_cmpR (op_neD hr.units) (pv 1) (pe_lst pa_nil) (nomark _)) (pw_and1 (pt_cmpR op_eq (pe_call C_law_pick.O (hr.mono (by decide)) (by rfl) C_law_pick.A.g C_law_pick.A.F.kp C_law_pick.A.b .nil pass0 (pa_cons (pv 0) (pa_cons pe_int pa_nil))) pe_int (nomark _))))) (pss_one (ps_set (i := 7) sc_law_lists_hold.nd rfl (by first | exact Or.inl rfl | exact Or.inr rfl) (pe_op op_cat (pe_slice sl_list (pv 7) po_none (po_some pe_int)) (pv 7)))) pss_nil)
    (pss_cons (ps_set (i := 8) sc_law_lists_hold.nd rfl (by first | exact Or.inl rfl | exact Or.inr rfl) (pe_op op_cat (pv 1) (pe_lst (pa_cons (pv 3) pa_nil))))
    (pss_cons (ps_set (i := 9) sc_law_lists_hold.nd rfl (by first | exact Or.inl rfl | exact Or.inr rfl) (pe_call C_law_closed_rows.O (hr.mono (by decide)) (by rfl) C_law_closed_rows.A.g C_law_closed_rows.A.F.kp C_law_closed_rows.A.b .nil pass0 (pa_cons (pv 2) (pa_cons (pv 7) (pa_cons (pv 5) pa_nil)))))
    (pss_cons (ps_if (pt_not (pt_val (pe_call C_law_closed_holds.O (hr.mono (by decide)) (by rfl) C_law_closed_holds.A.g C_law_closed_holds.A.F.kp C_law_closed_holds.A.b .nil pass0 (pa_cons (pv 8) (pa_cons (pv 2) (pa_cons (pv 9) (pa_cons (pv 5) pa_nil))))))) (pss_one (ps_ret pe_bl)) pss_nil)
    (pss_cons (ps_if (pt_not (pt_val (pe_call C_law_closed_holds.O (hr.mono (by decide)) (by rfl) C_law_closed_holds.A.g C_law_closed_holds.A.F.kp C_law_closed_holds.A.b .nil pass0 (pa_cons (pv 8) (pa_cons (pv 2) (pa_cons (pe_lst pa_nil) (pa_cons (pv 5) pa_nil))))))) (pss_one (ps_ret pe_bl)) pss_nil)
    (pss_cons (ps_for PassesOwn.never rfl (pi_range1 (by rfl) T.b_range (pa_cons pe_int pa_nil)) (pg_name (i := 10) sc_law_lists_hold.nd rfl (by first | exact Or.inl rfl | exact Or.inr rfl)) (pss_cons (ps_set (i := 11) sc_law_lists_hold.nd rfl (by first | exact Or.inl rfl | exact Or.inr rfl) (pe_call C_law_spoilt_rows.O (hr.mono (by decide)) (by rfl) C_law_spoilt_rows.A.g C_law_spoilt_rows.A.F.kp C_law_spoilt_rows.A.b .nil pass0 (pa_cons (pv 0) (pa_cons (pv 9) (pa_cons (pv 8) (pa_cons (pv 4) pa_nil))))))
      (pss_one (ps_if (pt_not (pt_val (pe_call C_law_closed_holds.O (hr.mono (by decide)) (by rfl) C_law_closed_holds.A.g C_law_closed_holds.A.F.kp C_law_closed_holds.A.b .nil pass0 (pa_cons (pv 8) (pa_cons (pv 2) (pa_cons (pv 11) (pa_cons (pv 5) pa_nil))))))) (pss_one (ps_ret pe_bl)) pss_nil))))
    (pss_cons (ps_set (i := 12) sc_law_lists_hold.nd rfl (by first | exact Or.inl rfl | exact Or.inr rfl) (pe_op op_cat (pv 2) (pe_lst (pa_cons (pv 3) pa_nil))))
    (pss_cons (ps_if (pt_not (pt_val (pe_call C_law_closed_holds.O (hr.mono (by decide)) (by rfl) C_law_closed_holds.A.g C_law_closed_holds.A.F.kp C_law_closed_holds.A.b .nil pass0 (pa_cons (pv 8) (pa_cons (pv 12) (pa_cons (pv 9) (pa_cons (pv 5) pa_nil))))))) (pss_one (ps_ret pe_bl)) pss_nil)
    (pss_one (ps_ret (pe_call C_law_closed_holds.O (hr.mono (by decide)) (by rfl) C_law_closed_holds.A.g C_law_closed_holds.A.F.kp C_law_closed_holds.A.b .nil pass0 (pa_cons (pv 8) (pa_cons (pe_slice sl_list (pv 2) (po_some pe_int) po_none) (pa_cons (pv 9) (pa_cons (pv 5) pa_nil)))))))))))))))))
theorem d_law {f_law_pool f_law_names f_law_movable_values f_law_pick f_law_rows f_law_one_of f_law_set f_law_folds_hold f_law_lists_hold : Addr} {fd_law_pool fd_law_names fd_law_movable_values fd_law_pick fd_law_rows fd_law_one_of fd_law_set fd_law_folds_hold fd_law_lists_hold : FuncData} (T : Txt mg) (C_law_pool : Cal P w K mg base "_law_pool" s_law_pool ["script"] 1 f_law_pool fd_law_pool (sp_law_pool K)) (C_law_names : Cal P w K mg base "_law_names" s_law_names ["pool", "many", "signs"] 3 f_law_names fd_law_names (sp_law_names K P w)) (C_law_movable_values : Cal P w K mg base "_law_movable_values" s_law_movable_values ["pool", "words"] 2 f_law_movable_values fd_law_movable_values (sp_law_movable_values K P w)) (C_law_pick : Cal P w K mg base "_law_pick" s_law_pick ["pool", "many"] 1 f_law_pick fd_law_pick (sp_law_pick K)) (C_law_rows : Cal P w K mg base "_law_rows" s_law_rows ["pool", "tables", "values", "many"] 3 f_law_rows fd_law_rows (sp_law_rows K P w)) (C_law_one_of : Cal P w K mg base "_law_one_of" s_law_one_of ["pool", "things"] 2 f_law_one_of fd_law_one_of (sp_law_one_of K)) (C_law_set : Cal P w K mg base "_law_set" s_law_set ["row", "setting"] 1 f_law_set fd_law_set (sp_law_set K P w)) (C_law_folds_hold : Cal P w K mg base "_law_folds_hold" s_law_folds_hold ["pool", "small", "big", "hidden", "movable", "words"] 5 f_law_folds_hold fd_law_folds_hold (sp_law_folds_hold K P w)) (C_law_lists_hold : Cal P w K mg base "_law_lists_hold" s_law_lists_hold ["pool", "small", "big", "strange", "spare", "setting"] 7 f_law_lists_hold fd_law_lists_hold (sp_law_lists_hold K P w)) (cdv : Value) (A : Around) (outer : List PySem.Env) (s : Shared) (H : Hp) (E : XK) (hr : Room 7 (A.deeper (PyProof.Rows.envOfC "law" (defScope s_law) s.heap.objs.size f cdv))) :
    PSs (cxOf CX0 P w K mg base ["script", "pool", "names", "words", "movable", "tables", "values", "small", "goals", "hidden", "value", "big", "row", "setting", "strange", "spare", "here"] "law" (defScope s_law) f cdv A outer s H E).nox (defBody s_law) (t_law K P w) := by
  exact (pss_cons (ps_set (i := 1) sc_law.nd rfl (by first | exact Or.inl rfl | exact Or.inr rfl) (pe_call C_law_pool.O (hr.mono (by decide)) (by rfl) C_law_pool.A.g C_law_pool.A.F.kp C_law_pool.A.b .nil pass0 (pa_cons (pv 0) pa_nil)))
    (pss_cons (ps_set (i := 2) sc_law.nd rfl (by first | exact Or.inl rfl | exact Or.inr rfl) (pe_call C_law_names.O (hr.mono (by decide)) (by rfl) C_law_names.A.g C_law_names.A.F.kp C_law_names.A.b .nil pass0 (pa_cons (pv 1) (pa_cons pe_int (pa_cons pe_str pa_nil)))))
    (pss_cons (ps_set (i := 3) sc_law.nd rfl (by first | exact Or.inl rfl | exact Or.inr rfl) (pe_call C_law_names.O (hr.mono (by decide)) (by rfl) C_law_names.A.g C_law_names.A.F.kp C_law_names.A.b .nil pass0 (pa_cons (pv 1) (pa_cons pe_int (pa_cons pe_str pa_nil)))))
    (pss_cons (ps_set (i := 4) sc_law.nd rfl (by first | exact Or.inl rfl | exact Or.inr rfl) (pe_call C_law_movable_values.O (hr.mono (by decide)) (by rfl) C_law_movable_values.A.g C_law_movable_values.A.F.kp C_law_movable_values.A.b .nil pass0 (pa_cons (pv 1) (pa_cons (pv 3) pa_nil))))
    (pss_cons (ps_set (i := 5) sc_law.nd rfl (by first | exact Or.inl rfl | exact Or.inr rfl) (pe_lst (pa_cons (pe_tup (pa_cons (pe_ix ix_list (pv 2) pe_int (fun _ _ => rfl)) (pa_cons (pe_op op_add pe_int (pe_call C_law_pick.O (hr.mono (by decide)) (by rfl) C_law_pick.A.g C_law_pick.A.F.kp C_law_pick.A.b .nil pass0 (pa_cons (pv 1) (pa_cons pe_int pa_nil)))) pa_nil))) (pa_cons (pe_tup (pa_cons (pe_ix ix_list (pv 2) pe_int (fun _ _ => rfl)) (pa_cons pe_int pa_nil))) pa_nil))))
    (pss_cons (ps_if (pt_cmpR op_eq (pe_call C_law_pick.O (hr.mono (by decide)) (by rfl) C_law_pick.A.g C_law_pick.A.F.kp C_law_pick.A.b .nil pass0 (pa_cons (pv 1) (pa_cons pe_int pa_nil))) pe_int (nomark _)) (pss_one (ps_asg (pe_tup (pa_cons (pe_ix ix_list (pv 2) pe_int (fun _ _ => rfl)) (pa_cons pe_int pa_nil))) (pg_sub (pv 5) pe_int set_list))) pss_nil)
    (pss_cons (ps_set (i := 6) sc_law.nd rfl (by first | exact Or.inl rfl | exact Or.inr rfl) (pe_op op_cat (pe_op op_cat (pe_slice sl_list (pv 3) po_none (po_some pe_int)) (pv 4)) (pv 4)))
    (pss_cons (ps_set (i := 7) sc_law.nd rfl (by first | exact Or.inl rfl | exact Or.inr rfl) (pe_call C_law_rows.O (hr.mono (by decide)) (by rfl) C_law_rows.A.g C_law_rows.A.F.kp C_law_rows.A.b .nil pass0 (pa_cons (pv 1) (pa_cons (pv 5) (pa_cons (pv 6) (pa_cons (pe_call C_law_pick.O (hr.mono (by decide)) (by rfl) C_law_pick.A.g C_law_pick.A.F.kp C_law_pick.A.b .nil pass0 (pa_cons (pv 1) (pa_cons pe_int pa_nil))) pa_nil))))))
    (pss_cons (ps_set (i := 8) sc_law.nd rfl (by first | exact Or.inl rfl | exact Or.inr rfl) (pe_op op_cat (pe_slice sl_list (pv 3) po_none (po_some pe_int)) (pe_slice sl_list (pe_lst (pa_cons pe_str (pa_cons (pe_op ox_addS (pe_op ox_addS pe_str (pe_ix ix_list (pv 3) pe_int (fun _ _ => rfl))) pe_str) pa_nil))) po_none (po_some (pe_call C_law_pick.O (hr.mono (by decide)) (by rfl) C_law_pick.A.g C_law_pick.A.F.kp C_law_pick.A.b .nil pass0 (pa_cons (pv 1) (pa_cons pe_int pa_nil)))))))
    (pss_cons (ps_set (i := 9) sc_law.nd rfl (by first | exact Or.inl rfl | exact Or.inr rfl) pe_dnewK)
    (pss_cons (ps_for PassesOwn.never rfl (pi_list (pv 4)) (pg_name (i := 10) sc_law.nd rfl (by first | exact Or.inl rfl | exact Or.inr rfl)) (pss_one (ps_dput (hu_of hr) (pv 9) (pv 10) (pe_call C_law_one_of.O (hr.mono (by decide)) (by rfl) C_law_one_of.A.g C_law_one_of.A.F.kp C_law_one_of.A.b .nil pass0 (pa_cons (pv 1) (pa_cons (pv 8) pa_nil))) rfl)))
    (pss_cons (by first | exact (ps_setLc (i := 11) (own := [("row", 12)]) (g := (gName 12)) (tt := tYes) (te := (tCall (sp_law_set K P w) [] E0 (tCons (tVar 12) (tCons (tVar 9) tNil)))) rfl sc_law.nd rfl rfl (sw_true rfl rfl rfl (by decide +kernel)) (pi_list (pv 7)) (blkOk_by (own := [("row", 12)]) (N := ["script", "pool", "names", "words", "movable", "tables", "values", "small", "goals", "hidden", "value", "big", "row", "setting", "strange", "spare", "here"]) (sc := defScope s_law) (by decide +kernel)) (fun _ _ _ _ _ => (pg_name (i := 12) sc_law.nd rfl (by first | exact Or.inl rfl | exact Or.inr rfl))) (fun _ _ _ _ _ => pts_nil) (fun _ _ _ _ _ => (pe_call C_law_set.O (hr.mono (by decide)) (by rfl) C_law_set.A.g C_law_set.A.F.kp C_law_set.A.b .nil pass0 (pa_cons (pv 12) (pa_cons (pv 9) pa_nil))))) | exact (ps_set (i := 11) sc_law.nd rfl (by first | exact Or.inl rfl | exact Or.inr rfl) (pe_lc (own := [("row", 12)]) (g := (gName 12)) (tt := tYes) (te := (tCall (sp_law_set K P w) [] E0 (tCons (tVar 12) (tCons (tVar 9) tNil)))) rfl sc_law.nd (pi_list (pv 7)) (blkOk_by (own := [("row", 12)]) (N := ["script", "pool", "names", "words", "movable", "tables", "values", "small", "goals", "hidden", "value", "big", "row", "setting", "strange", "spare", "here"]) (sc := defScope s_law) (by decide +kernel)) (fun _ _ _ _ _ => (pg_name (i := 12) sc_law.nd rfl (by first | exact Or.inl rfl | exact Or.inr rfl))) (fun _ _ _ _ _ => pts_nil) (fun _ _ _ _ _ => (pe_call C_law_set.O (hr.mono (by decide)) (by rfl) C_law_set.A.g C_law_set.A.F.kp C_law_set.A.b .nil pass0 (pa_cons (pv 12) (pa_cons (pv 9) pa_nil)))))))
    (pss_cons (ps_set (i := 11) sc_law.nd rfl (by first | exact Or.inl rfl | exact Or.inr rfl) (pe_op op_cat (pe_call C_law_rows.O (hr.mono (by decide)) (by rfl) C_law_rows.A.g C_law_rows.A.F.kp C_law_rows.A.b .nil pass0 (pa_cons (pv 1) (pa_cons (pv 5) (pa_cons (pv 8) (pa_cons (pe_call C_law_pick.O (hr.mono (by decide)) (by rfl) C_law_pick.A.g C_law_pick.A.F.kp C_law_pick.A.b .nil pass0 (pa_cons (pv 1) (pa_cons pe_int pa_nil))) pa_nil))))) (pv 11)))
    (pss_cons (ps_if (pt_not (pt_val (pe_call C_law_folds_hold.O (hr.mono (by decide)) (by rfl) C_law_folds_hold.A.g C_law_folds_hold.A.F.kp C_law_folds_hold.A.b .nil pass0 (pa_cons (pv 1) (pa_cons (pv 7) (pa_cons (pv 11) (pa_cons (pv 9) (pa_cons (pv 4) (pa_cons (pv 3) pa_nil))))))))) (pss_one (ps_ret pe_bl)) pss_nil)
    (pss_cons (ps_set (i := 13) sc_law.nd rfl (by first | exact Or.inl rfl | exact Or.inr rfl) pe_dnewK)
    (pss_cons (ps_for PassesOwn.never rfl (pi_list (pe_op op_cat (pv 4) (pe_lst (pa_cons pe_str pa_nil)))) (pg_name (i := 10) sc_law.nd rfl (by first | exact Or.inl rfl | exact Or.inr rfl)) (pss_one (ps_if (pt_cmpR op_eq (pe_call C_law_pick.O (hr.mono (by decide)) (by rfl) C_law_pick.A.g C_law_pick.A.F.kp C_law_pick.A.b .nil pass0 (pa_cons (pv 1) (pa_cons pe_int pa_nil))) pe_int (nomark _)) (pss_one (ps_dput (hu_of hr) (pv 13) (pv 10) (pe_call C_law_one_of.O (hr.mono (by decide)) (by rfl) C_law_one_of.A.g C_law_one_of.A.F.kp C_law_one_of.A.b .nil pass0 (pa_cons (pv 1) (pa_cons (pv 8) pa_nil))) rfl)) pss_nil)))
    (pss_cons (ps_set (i := 14) sc_law.nd rfl (by first | exact Or.inl rfl | exact Or.inr rfl) (pe_tup (pa_cons (pe_ix ix_list (pv 2) pe_int (fun _ _ => rfl)) (pa_cons pe_str pa_nil))))
    (pss_cons (ps_set (i := 15) sc_law.nd rfl (by first | exact Or.inl rfl | exact Or.inr rfl) (pe_tup (pa_cons (pe_ix ix_list (pv 2) pe_int (fun _ _ => rfl)) (pa_cons pe_str pa_nil))))
    (pss_cons (ps_for PassesOwn.never rfl (pi_list (pe_lst (pa_cons pe_dnewK (pa_cons (pv 13) pa_nil)))) (pg_name (i := 16) sc_law.nd rfl (by first | exact Or.inl rfl | exact Or.inr rfl)) (pss_one (ps_if (pt_not (pt_val (pe_call C_law_lists_hold.O (hr.mono (by decide)) (by rfl) C_law_lists_hold.A.g C_law_lists_hold.A.F.kp C_law_lists_hold.A.b .nil pass0 (pa_cons (pv 1) (pa_cons (pv 7) (pa_cons (pv 11) (pa_cons (pv 14) (pa_cons (pv 15) (pa_cons (pv 16) pa_nil))))))))) (pss_one (ps_ret pe_bl)) pss_nil)))
    (pss_one (ps_ret pe_bl)))))))))))))))))))))
end
end K10
end
section
set_option maxRecDepth 100000
set_option maxHeartbeats 4000000
namespace K10
open PySem L2 Sx Dl

theorem r_is_word {K : PySem.W.Frag} {P : Program} {w : World} (z : Str × Unit) (Pr : Bool → Prop) (G0 H0 : Hp) (Q : VK) (hm : (fun z : Str × Unit => m_is_word z.1) z Pr) (hR : RtW ((fun _ : Str × Unit => F0) z) ⟨((fun _ : Str × Unit => F0) z).P, G0, H0⟩ bK Pr Q) :
    Tr ((fun _ : Str × Unit => F0) z) ⟨((fun _ : Str × Unit => F0) z).P, G0, H0⟩ (env0 ((fun z : Str × Unit => [sK z.1]) z) 0) [] (t_is_word K P w) { nx := fun _ H' => Q .non H', rt := Q } := by
  obtain ⟨text_, ⟨⟩⟩ := z
  have hm : m_is_word text_ Pr := hm
  have hR : RtW (F0) ⟨(F0).P, G0, H0⟩ bK Pr Q := hR
  show Tr (F0) ⟨(F0).P, G0, H0⟩ (env0 [sK text_] 0) [] (t_is_word K P w) { nx := fun _ H' => Q .non H', rt := Q }
  unfold m_is_word at hm
  unfold t_is_word
  exact w_ret (fr := bK) hR hm (x_andV (x_chainI x_int (x_cb (a_cons (fa := sK) (x_var (f := sK) (a := text_) rfl) a_nil) fun _ => c_lenS) x_int (fun _ _ => r_leI) (fun _ _ => r_leI)) (x_andV (x_isascii (x_var (f := sK) (a := text_) rfl)) (x_andV (x_isalnum (x_var (f := sK) (a := text_) rfl)) (x_op (x_var (f := sK) (a := text_) rfl) (x_lower (x_var (f := sK) (a := text_) rfl)) fun _ _ => r_eqS))))
theorem r_values_of {K : PySem.W.Frag} {P : Program} {w : World} (z : (Bool × List (List Str)) × Unit) (Pr : (List Str) → Prop) (G0 H0 : Hp) (Q : VK) (hm : (fun z : (Bool × List (List Str)) × Unit => m_values_of z.1) z Pr) (hR : RtW ((fun _ : (Bool × List (List Str)) × Unit => F0) z) ⟨((fun _ : (Bool × List (List Str)) × Unit => F0) z).P, G0, H0⟩ (eL sK) Pr Q) :
    Tr ((fun _ : (Bool × List (List Str)) × Unit => F0) z) ⟨((fun _ : (Bool × List (List Str)) × Unit => F0) z).P, G0, H0⟩ (env0 ((fun z : (Bool × List (List Str)) × Unit => [(eS K eR) z.1]) z) 2) [] (t_values_of K P w) { nx := fun _ H' => Q .non H', rt := Q } := by
  obtain ⟨rows_, ⟨⟩⟩ := z
  have hm : m_values_of rows_ Pr := hm
  have hR : RtW (F0) ⟨(F0).P, G0, H0⟩ (eL sK) Pr Q := hR
  show Tr (F0) ⟨(F0).P, G0, H0⟩ (env0 [(eS K eR) rows_] 2) [] (t_values_of K P w) { nx := fun _ H' => Q .non H', rt := Q }
  unfold m_values_of at hm
  unfold t_values_of
  exact w_ret (fr := (eL sK)) hR hm (x_cb (a_cons (fa := (setXK w)) (x_sc2 (T := (fun z1 => (cutL z1 (some (1 : Int)) none))) (f := eR) _ (i_sq (f := eR) (p := rows_) rfl) (gw_in (by decide)) (fun _ => gk_name) (fun z1 => i_row (x_slR (x_var (f := eR) (a := z1) rfl) (o_some x_int) o_none)) (fun _ => by show 2 < 3; decide)) a_nil) fun _ => c_sortS)
theorem r_movables_of {K : PySem.W.Frag} {P : Program} {w : World} (z : (Bool × List (List Str)) × Unit) (Pr : (List Str) → Prop) (G0 H0 : Hp) (Q : VK) (hm : (fun z : (Bool × List (List Str)) × Unit => m_movables_of z.1) z Pr) (hR : RtW ((fun _ : (Bool × List (List Str)) × Unit => F0) z) ⟨((fun _ : (Bool × List (List Str)) × Unit => F0) z).P, G0, H0⟩ (eL sK) Pr Q) :
    Tr ((fun _ : (Bool × List (List Str)) × Unit => F0) z) ⟨((fun _ : (Bool × List (List Str)) × Unit => F0) z).P, G0, H0⟩ (env0 ((fun z : (Bool × List (List Str)) × Unit => [(eS K eR) z.1]) z) 1) [] (t_movables_of K P w) { nx := fun _ H' => Q .non H', rt := Q } := by
  obtain ⟨rows_, ⟨⟩⟩ := z
  have hm : m_movables_of rows_ Pr := hm
  have hR : RtW (F0) ⟨(F0).P, G0, H0⟩ (eL sK) Pr Q := hR
  show Tr (F0) ⟨(F0).P, G0, H0⟩ (env0 [(eS K eR) rows_] 1) [] (t_movables_of K P w) { nx := fun _ H' => Q .non H', rt := Q }
  unfold m_movables_of at hm
  unfold t_movables_of
  exact w_ret (fr := (eL sK)) hR hm (n_eL (n_lc (f := sK) (fe := sK) _ (i_eL (f := sK) (x_callI (a_cons (fa := (eS K eR)) (x_var (f := (eS K eR)) (a := rows_) rfl) a_nil) (fun _ => rfl))) gw_name (fun _ => gk_name) (fun z4 => (t_not (t_B (x_callI (a_cons (fa := sK) (x_var (f := sK) (a := z4) rfl) a_nil) (fun _ => rfl))))) (fun z4 => (x_var (f := sK) (a := z4) rfl))))
theorem r_set_value {K : PySem.W.Frag} {P : Program} {w : World} (z : Str × (List (Str × Str)) × Unit) (Pr : Str → Prop) (G0 H0 : Hp) (Q : VK) (hm : (fun z : Str × (List (Str × Str)) × Unit => m_set_value z.1 z.2.1) z Pr) (hR : RtW ((fun _ : Str × (List (Str × Str)) × Unit => F0) z) ⟨((fun _ : Str × (List (Str × Str)) × Unit => F0) z).P, G0, H0⟩ sK Pr Q) :
    Tr ((fun _ : Str × (List (Str × Str)) × Unit => F0) z) ⟨((fun _ : Str × (List (Str × Str)) × Unit => F0) z).P, G0, H0⟩ (env0 ((fun z : Str × (List (Str × Str)) × Unit => [sK z.1, (eD sK) z.2.1]) z) 0) [] (t_set_value K P w) { nx := fun _ H' => Q .non H', rt := Q } := by
  obtain ⟨value_, setting_, ⟨⟩⟩ := z
  have hm : m_set_value value_ setting_ Pr := hm
  have hR : RtW (F0) ⟨(F0).P, G0, H0⟩ sK Pr Q := hR
  show Tr (F0) ⟨(F0).P, G0, H0⟩ (env0 [sK value_, (eD sK) setting_] 0) [] (t_set_value K P w) { nx := fun _ H' => Q .non H', rt := Q }
  unfold m_set_value at hm
  unfold t_set_value
  exact w_ret (fr := sK) hR hm (x_dget2 (f := sK) (dd := (fun x => x)) (x_var (f := (eD sK)) (a := setting_) rfl) (fun _ => drd_eD) (x_var (f := sK) (a := value_) rfl) (x_var (f := sK) (a := value_) rfl))
theorem r_filled_rows {K : PySem.W.Frag} {P : Program} {w : World} (z : (Bool × List (List Str)) × (List (Str × Str)) × Unit) (Pr : (List (List Str)) → Prop) (G0 H0 : Hp) (Q : VK) (hm : (fun z : (Bool × List (List Str)) × (List (Str × Str)) × Unit => m_filled_rows z.1 z.2.1) z Pr) (hR : RtW ((fun _ : (Bool × List (List Str)) × (List (Str × Str)) × Unit => F0) z) ⟨((fun _ : (Bool × List (List Str)) × (List (Str × Str)) × Unit => F0) z).P, G0, H0⟩ (eL eR) Pr Q) :
    Tr ((fun _ : (Bool × List (List Str)) × (List (Str × Str)) × Unit => F0) z) ⟨((fun _ : (Bool × List (List Str)) × (List (Str × Str)) × Unit => F0) z).P, G0, H0⟩ (env0 ((fun z : (Bool × List (List Str)) × (List (Str × Str)) × Unit => [(eS K eR) z.1, (eD sK) z.2.1]) z) 2) [] (t_filled_rows K P w) { nx := fun _ H' => Q .non H', rt := Q } := by
  obtain ⟨rows_, setting_, ⟨⟩⟩ := z
  have hm : m_filled_rows rows_ setting_ Pr := hm
  have hR : RtW (F0) ⟨(F0).P, G0, H0⟩ (eL eR) Pr Q := hR
  show Tr (F0) ⟨(F0).P, G0, H0⟩ (env0 [(eS K eR) rows_, (eD sK) setting_] 2) [] (t_filled_rows K P w) { nx := fun _ H' => Q .non H', rt := Q }
  unfold m_filled_rows at hm
  unfold t_filled_rows
  exact w_ret (fr := (eL eR)) hR hm (n_eL (n_lc (f := eR) (fe := eR) _ (i_sq (f := eR) (p := rows_) rfl) gw_name (fun _ => gk_name) (fun z1 => t_yes) (fun z1 => (x_op (x_slR (x_var (f := eR) (a := z1) rfl) o_none (o_some x_int)) (x_rowL (n_eL (n_lc (f := sK) (fe := sK) _ (i_row (x_slR (x_var (f := eR) (a := z1) rfl) (o_some x_int) o_none)) gw_name (fun _ => gk_name) (fun z10 => t_yes) (fun z10 => (x_callI (a_cons (fa := sK) (x_var (f := sK) (a := z10) rfl) (a_cons (fa := (eD sK)) (x_var (f := (eD sK)) (a := setting_) rfl) a_nil)) (fun _ => rfl)))))) fun _ _ => r_catR))))
theorem r_conditions {K : PySem.W.Frag} {P : Program} {w : World} (z : (List Str) × (List (Str × Str)) × Unit) (Pr : ((List (Int × Str)) × (List (Int × Int))) → Prop) (G0 H0 : Hp) (Q : VK) (hm : (fun z : (List Str) × (List (Str × Str)) × Unit => m_conditions z.1 z.2.1) z Pr) (hR : RtW ((fun _ : (List Str) × (List (Str × Str)) × Unit => F0) z) ⟨((fun _ : (List Str) × (List (Str × Str)) × Unit => F0) z).P, G0, H0⟩ (eP K (eL (eP K iK sK)) (eL (eP K iK iK))) Pr Q) :
    Tr ((fun _ : (List Str) × (List (Str × Str)) × Unit => F0) z) ⟨((fun _ : (List Str) × (List (Str × Str)) × Unit => F0) z).P, G0, H0⟩ (env0 ((fun z : (List Str) × (List (Str × Str)) × Unit => [eR z.1, (eD sK) z.2.1]) z) 5) [] (t_conditions K P w) { nx := fun _ H' => Q .non H', rt := Q } := by
  obtain ⟨row_, setting_, ⟨⟩⟩ := z
  have hm : m_conditions row_ setting_ Pr := hm
  have hR : RtW (F0) ⟨(F0).P, G0, H0⟩ (eP K (eL (eP K iK sK)) (eL (eP K iK iK))) Pr Q := hR
  show Tr (F0) ⟨(F0).P, G0, H0⟩ (env0 [eR row_, (eD sK) setting_] 5) [] (t_conditions K P w) { nx := fun _ H' => Q .non H', rt := Q }
  unfold m_conditions at hm
  unfold t_conditions
  refine v_new hm (n_nil (f := (eP K iK sK))) fun v1 o2 hn_o2 hm => ?_
  refine v_new hm (n_nil (f := (eP K iK iK))) fun v3 o4 hn_o4 hm => ?_
  refine v_new hm (n_dnew (f := iK)) fun v5 o6 hn_o6 hm => ?_
  refine v_for (f := (eP K iK sK)) (s0 := (v1, v3, v5)) (fun s10 : (List (Int × Str)) × (List (Int × Int)) × (List (Str × Int)) => ([some (eR row_), some ((eD sK) setting_), some (valK (.ref o2)), some (valK (.ref o4)), some (valK (.ref o6)), none, none], [(o6, moD iK s10.2.2), (o4, .lst (s10.2.1.map (eP K iK iK))), (o2, .lst (s10.1.map (eP K iK sK)))])) (fun _ _ => _) hm (i_enumR (x_var (f := eR) (a := row_) rfl)) (.keep (.keep (.keep (.keep (.keep (.drop (.drop .nil))))))) rfl (fun _ _ => g_pair) (fun B14 l15 x17 s10 k11 N12 hN13 hB16 hm => ?_) (fun s10 hm => ?_)
  · refine w_if hm (t_or (t_test (x_op (x_var (f := iK) (a := x17.1) rfl) x_int fun _ _ => r_eqI)) (t_B (x_callI (a_cons (fa := sK) (x_var (f := sK) (a := x17.2) rfl) a_nil) (fun _ => rfl)))) (fun hm => ?_) (fun hm => ?_)
    · refine w_app (f := (eP K iK sK)) 2 rfl hm (x_own rfl) (x_tup2 (f := iK) (g := sK) (x_var (f := iK) (a := x17.1) rfl) (x_var (f := sK) (a := x17.2) rfl)) fun v31 hm => ?_
      exact w_next (s := (v31, s10.2.1, s10.2.2)) hN13 hm (.keep (.keep (.keep (.keep (.keep (.drop (.drop .nil)))))))
    · refine w_if hm (t_B (x_din (f := sK) (dd := (fun x => x)) (x_var (f := sK) (a := x17.2) rfl) (x_var (f := (eD sK)) (a := setting_) rfl) (fun _ => drd_eD))) (fun hm => ?_) (fun hm => ?_)
      · refine w_app (f := (eP K iK sK)) 2 rfl hm (x_own rfl) (x_tup2 (f := iK) (g := sK) (x_var (f := iK) (a := x17.1) rfl) (x_dgetV (f := sK) (dd := (fun x => x)) (x_var (f := (eD sK)) (a := setting_) rfl) (fun _ => drd_eD) (x_var (f := sK) (a := x17.2) rfl))) fun v44 hm => ?_
        exact w_next (s := (v44, s10.2.1, s10.2.2)) hN13 hm (.keep (.keep (.keep (.keep (.keep (.drop (.drop .nil)))))))
      · refine w_if hm (t_B (x_din (f := iK) (dd := (fun _ => s10.2.2)) (x_var (f := sK) (a := x17.2) rfl) (x_own rfl) (fun _ => drd_own List.mem_cons_self))) (fun hm => ?_) (fun hm => ?_)
        · refine w_app (f := (eP K iK iK)) 1 rfl hm (x_own rfl) (x_tup2 (f := iK) (g := iK) (x_dgetV (f := iK) (dd := (fun _ => s10.2.2)) (x_own rfl) (fun _ => drd_own List.mem_cons_self) (x_var (f := sK) (a := x17.2) rfl)) (x_var (f := iK) (a := x17.1) rfl)) fun v57 hm => ?_
          exact w_next (s := (s10.1, v57, s10.2.2)) hN13 hm (.keep (.keep (.keep (.keep (.keep (.drop (.drop .nil)))))))
        · refine w_dput (f := iK) 0 rfl hm (x_var (f := iK) (a := x17.1) rfl) (x_own rfl) (x_var (f := sK) (a := x17.2) rfl) fun v59 hm => ?_
          exact w_next (s := (s10.1, s10.2.1, v59)) hN13 hm (.keep (.keep (.keep (.keep (.keep (.drop (.drop .nil)))))))
  · refine to_fz (f := (eP K iK sK)) 2 2 rfl rfl hn_o2 ?_
    refine to_fz (f := (eP K iK iK)) 1 3 rfl rfl hn_o4 ?_
    refine to_fzD (f := iK) 0 4 rfl rfl hn_o6 ?_
    exact w_ret (fr := (eP K (eL (eP K iK sK)) (eL (eP K iK iK)))) hR hm (x_tup2 (f := (eL (eP K iK sK))) (g := (eL (eP K iK iK))) (x_var (f := (eL (eP K iK sK))) (a := s10.1) rfl) (x_var (f := (eL (eP K iK iK))) (a := s10.2.1) rfl))
theorem r_meets {K : PySem.W.Frag} {P : Program} {w : World} (z : (List Str) × (List (Int × Str)) × (List (Int × Int)) × Unit) (Pr : Bool → Prop) (G0 H0 : Hp) (Q : VK) (hm : (fun z : (List Str) × (List (Int × Str)) × (List (Int × Int)) × Unit => m_meets z.1 z.2.1 z.2.2.1) z Pr) (hR : RtW ((fun _ : (List Str) × (List (Int × Str)) × (List (Int × Int)) × Unit => F0) z) ⟨((fun _ : (List Str) × (List (Int × Str)) × (List (Int × Int)) × Unit => F0) z).P, G0, H0⟩ bK Pr Q) :
    Tr ((fun _ : (List Str) × (List (Int × Str)) × (List (Int × Int)) × Unit => F0) z) ⟨((fun _ : (List Str) × (List (Int × Str)) × (List (Int × Int)) × Unit => F0) z).P, G0, H0⟩ (env0 ((fun z : (List Str) × (List (Int × Str)) × (List (Int × Int)) × Unit => [eR z.1, (eL (eP K iK sK)) z.2.1, (eL (eP K iK iK)) z.2.2.1]) z) 4) [] (t_meets K P w) { nx := fun _ H' => Q .non H', rt := Q } := by
  obtain ⟨row_, fixed_, equal_, ⟨⟩⟩ := z
  have hm : m_meets row_ fixed_ equal_ Pr := hm
  have hR : RtW (F0) ⟨(F0).P, G0, H0⟩ bK Pr Q := hR
  show Tr (F0) ⟨(F0).P, G0, H0⟩ (env0 [eR row_, (eL (eP K iK sK)) fixed_, (eL (eP K iK iK)) equal_] 4) [] (t_meets K P w) { nx := fun _ H' => Q .non H', rt := Q }
  unfold m_meets at hm
  unfold t_meets
  refine v_for (f := (eP K iK sK)) (s0 := ()) (fun s1 : Unit => ([some (eR row_), some ((eL (eP K iK sK)) fixed_), some ((eL (eP K iK iK)) equal_), none, none, none, none], [])) (fun _ _ => _) hm (i_eL (f := (eP K iK sK)) (x_var (f := (eL (eP K iK sK))) (a := fixed_) rfl)) (.keep (.keep (.keep (.drop (.drop (.drop (.drop .nil))))))) rfl (fun _ _ => g_pair) (fun B5 l6 x8 s1 k2 N3 hN4 hB7 hm => ?_) (fun s1 hm => ?_)
  · refine w_if hm (t_test (x_op (x_op (x_var (f := eR) (a := row_) rfl) (x_var (f := iK) (a := x8.1) rfl) fun _ _ => r_ixR) (x_var (f := sK) (a := x8.2) rfl) fun _ _ => r_neS)) (fun hm => ?_) (fun hm => ?_)
    · exact w_ret (fr := bK) (Rt.up l6 hR) hm x_bl
    · refine t_next ?_
      exact w_next (s := ()) hN4 hm (.keep (.keep (.keep (.drop (.drop (.drop (.drop .nil)))))))
  · refine v_for (f := (eP K iK iK)) (s0 := ()) (fun s14 : Unit => ([some (eR row_), some ((eL (eP K iK sK)) fixed_), some ((eL (eP K iK iK)) equal_), none, none, none, none], [])) (fun _ _ => _) hm (i_eL (f := (eP K iK iK)) (x_var (f := (eL (eP K iK iK))) (a := equal_) rfl)) (.keep (.keep (.keep (.drop (.drop (.drop (.drop .nil))))))) rfl (fun _ _ => g_pair) (fun B18 l19 x21 s14 k15 N16 hN17 hB20 hm => ?_) (fun s14 hm => ?_)
    · refine w_if hm (t_test (x_op (x_op (x_var (f := eR) (a := row_) rfl) (x_var (f := iK) (a := x21.1) rfl) fun _ _ => r_ixR) (x_op (x_var (f := eR) (a := row_) rfl) (x_var (f := iK) (a := x21.2) rfl) fun _ _ => r_ixR) fun _ _ => r_neS)) (fun hm => ?_) (fun hm => ?_)
      · exact w_ret (fr := bK) (Rt.up l19 hR) hm x_bl
      · refine t_next ?_
        exact w_next (s := ()) hN17 hm (.keep (.keep (.keep (.drop (.drop (.drop (.drop .nil)))))))
    · exact w_ret (fr := bK) hR hm x_bl
theorem r_partners {K : PySem.W.Frag} {P : Program} {w : World} (z : (List Str) × (List (Str × Str)) × (List (List Str)) × Unit) (Pr : (List (List Str)) → Prop) (G0 H0 : Hp) (Q : VK) (hm : (fun z : (List Str) × (List (Str × Str)) × (List (List Str)) × Unit => m_partners z.1 z.2.1 z.2.2.1) z Pr) (hR : RtW ((fun _ : (List Str) × (List (Str × Str)) × (List (List Str)) × Unit => F0) z) ⟨((fun _ : (List Str) × (List (Str × Str)) × (List (List Str)) × Unit => F0) z).P, G0, H0⟩ (eL eR) Pr Q) :
    Tr ((fun _ : (List Str) × (List (Str × Str)) × (List (List Str)) × Unit => F0) z) ⟨((fun _ : (List Str) × (List (Str × Str)) × (List (List Str)) × Unit => F0) z).P, G0, H0⟩ (env0 ((fun z : (List Str) × (List (Str × Str)) × (List (List Str)) × Unit => [eR z.1, (eD sK) z.2.1, (eL eR) z.2.2.1]) z) 3) [] (t_partners K P w) { nx := fun _ H' => Q .non H', rt := Q } := by
  obtain ⟨row_, setting_, rows_, ⟨⟩⟩ := z
  have hm : m_partners row_ setting_ rows_ Pr := hm
  have hR : RtW (F0) ⟨(F0).P, G0, H0⟩ (eL eR) Pr Q := hR
  show Tr (F0) ⟨(F0).P, G0, H0⟩ (env0 [eR row_, (eD sK) setting_, (eL eR) rows_] 3) [] (t_partners K P w) { nx := fun _ H' => Q .non H', rt := Q }
  unfold m_partners at hm
  unfold t_partners
  refine v_tgt (f := (eP K (eL (eP K iK sK)) (eL (eP K iK iK)))) (dl := fun _ => _) hm (x_callI (a_cons (fa := eR) (x_var (f := eR) (a := row_) rfl) (a_cons (fa := (eD sK)) (x_var (f := (eD sK)) (a := setting_) rfl) a_nil)) (fun _ => rfl)) (fun _ => g_pair) fun v6 hm => ?_
  exact w_ret (fr := (eL eR)) hR hm (n_eL (n_lc (f := eR) (fe := eR) _ (i_eL (f := eR) (x_var (f := (eL eR)) (a := rows_) rfl)) gw_name (fun _ => gk_name) (fun z7 => (t_and (t_test (x_op (x_cb (a_cons (fa := eR) (x_var (f := eR) (a := z7) rfl) a_nil) fun _ => c_lenR) (x_cb (a_cons (fa := eR) (x_var (f := eR) (a := row_) rfl) a_nil) fun _ => c_lenR) fun _ _ => r_eqI)) (t_B (x_callI (a_cons (fa := eR) (x_var (f := eR) (a := z7) rfl) (a_cons (fa := (eL (eP K iK sK))) (x_var (f := (eL (eP K iK sK))) (a := v6.1) rfl) (a_cons (fa := (eL (eP K iK iK))) (x_var (f := (eL (eP K iK iK))) (a := v6.2) rfl) a_nil))) (fun _ => rfl))))) (fun z7 => (x_var (f := eR) (a := z7) rfl))))
theorem r_set_by {K : PySem.W.Frag} {P : Program} {w : World} (z : (List Str) × (List Str) × (List (Str × Str)) × Unit) (Pr : (List (Str × Str)) → Prop) (G0 H0 : Hp) (Q : VK) (hm : (fun z : (List Str) × (List Str) × (List (Str × Str)) × Unit => m_set_by z.1 z.2.1 z.2.2.1) z Pr) (hR : RtW ((fun _ : (List Str) × (List Str) × (List (Str × Str)) × Unit => F0) z) ⟨((fun _ : (List Str) × (List Str) × (List (Str × Str)) × Unit => F0) z).P, G0, H0⟩ (eD sK) Pr Q) :
    Tr ((fun _ : (List Str) × (List Str) × (List (Str × Str)) × Unit => F0) z) ⟨((fun _ : (List Str) × (List Str) × (List (Str × Str)) × Unit => F0) z).P, G0, H0⟩ (env0 ((fun z : (List Str) × (List Str) × (List (Str × Str)) × Unit => [eR z.1, eR z.2.1, (eD sK) z.2.2.1]) z) 3) [] (t_set_by K P w) { nx := fun _ H' => Q .non H', rt := Q } := by
  obtain ⟨row_, partner_, setting_, ⟨⟩⟩ := z
  have hm : m_set_by row_ partner_ setting_ Pr := hm
  have hR : RtW (F0) ⟨(F0).P, G0, H0⟩ (eD sK) Pr Q := hR
  show Tr (F0) ⟨(F0).P, G0, H0⟩ (env0 [eR row_, eR partner_, (eD sK) setting_] 3) [] (t_set_by K P w) { nx := fun _ H' => Q .non H', rt := Q }
  unfold m_set_by at hm
  unfold t_set_by
  refine v_new hm (n_dcopy (f := sK) (dd := (fun x => x)) (x_var (f := (eD sK)) (a := setting_) rfl) (fun _ => drd_eD)) fun v2 o3 hn_o3 hm => ?_
  refine v_for (f := (eP K sK sK)) (s0 := v2) (fun s18 : (List (Str × Str)) => ([some (eR row_), some (eR partner_), some ((eD sK) setting_), some (valK (.ref o3)), none, none], [(o3, moD sK s18)])) (fun _ _ => _) hm (i_zipR (x_slR (x_var (f := eR) (a := row_) rfl) (o_some x_int) o_none) (x_slR (x_var (f := eR) (a := partner_) rfl) (o_some x_int) o_none)) (.keep (.keep (.keep (.keep (.drop (.drop .nil)))))) rfl (fun _ _ => g_pair) (fun B22 l23 x25 s18 k19 N20 hN21 hB24 hm => ?_) (fun s18 hm => ?_)
  · refine w_if hm (t_and (t_B (x_dni (f := sK) (dd := (fun _ => s18)) (x_var (f := sK) (a := x25.1) rfl) (x_own rfl) (fun _ => drd_own List.mem_cons_self))) (t_not (t_B (x_callI (a_cons (fa := sK) (x_var (f := sK) (a := x25.1) rfl) a_nil) (fun _ => rfl))))) (fun hm => ?_) (fun hm => ?_)
    · refine w_dput (f := sK) 0 rfl hm (x_var (f := sK) (a := x25.2) rfl) (x_own rfl) (x_var (f := sK) (a := x25.1) rfl) fun v34 hm => ?_
      exact w_next (s := v34) hN21 hm (.keep (.keep (.keep (.keep (.drop (.drop .nil))))))
    · refine t_next ?_
      exact w_next (s := s18) hN21 hm (.keep (.keep (.keep (.keep (.drop (.drop .nil))))))
  · refine to_fzD (f := sK) 0 3 rfl rfl hn_o3 ?_
    exact w_ret (fr := (eD sK)) hR hm (x_var (f := (eD sK)) (a := s18) rfl)
theorem r_is_fold {K : PySem.W.Frag} {P : Program} {w : World} (z : (Bool × List (List Str)) × (Bool × List (List Str)) × (List (Str × Str)) × Unit) (Pr : Bool → Prop) (G0 H0 : Hp) (Q : VK) (hm : (fun z : (Bool × List (List Str)) × (Bool × List (List Str)) × (List (Str × Str)) × Unit => m_is_fold z.1 z.2.1 z.2.2.1) z Pr) (hR : RtW ((fun _ : (Bool × List (List Str)) × (Bool × List (List Str)) × (List (Str × Str)) × Unit => F0) z) ⟨((fun _ : (Bool × List (List Str)) × (Bool × List (List Str)) × (List (Str × Str)) × Unit => F0) z).P, G0, H0⟩ bK Pr Q) :
    Tr ((fun _ : (Bool × List (List Str)) × (Bool × List (List Str)) × (List (Str × Str)) × Unit => F0) z) ⟨((fun _ : (Bool × List (List Str)) × (Bool × List (List Str)) × (List (Str × Str)) × Unit => F0) z).P, G0, H0⟩ (env0 ((fun z : (Bool × List (List Str)) × (Bool × List (List Str)) × (List (Str × Str)) × Unit => [(eS K eR) z.1, (eS K eR) z.2.1, (eD sK) z.2.2.1]) z) 2) [] (t_is_fold K P w) { nx := fun _ H' => Q .non H', rt := Q } := by
  obtain ⟨small_, big_, fold_, ⟨⟩⟩ := z
  have hm : m_is_fold small_ big_ fold_ Pr := hm
  have hR : RtW (F0) ⟨(F0).P, G0, H0⟩ bK Pr Q := hR
  show Tr (F0) ⟨(F0).P, G0, H0⟩ (env0 [(eS K eR) small_, (eS K eR) big_, (eD sK) fold_] 2) [] (t_is_fold K P w) { nx := fun _ H' => Q .non H', rt := Q }
  unfold m_is_fold at hm
  unfold t_is_fold
  refine v_when hm (t_test (x_op (n_eL (n_sortD (f := sK) (dd := (fun x => x)) (x_var (f := (eD sK)) (a := fold_) rfl) (fun _ => drd_eD))) (x_callI (a_cons (fa := (eS K eR)) (x_var (f := (eS K eR)) (a := small_) rfl) a_nil) (fun _ => rfl)) fun _ _ => r_neD (dt_list (dt_str (K := K))))) (fun hm => ?_) (fun hm => ?_)
  · exact w_ret (fr := bK) hR hm x_bl
  · refine v_asg (f := eKR) hm (x_dcKR (i_sq (f := eR) (p := big_) rfl) (by show 4 < 5; decide)) fun v9 hm => ?_
    exact w_ret (fr := bK) hR hm (x_cb (a_cons (fa := (eL bK)) (n_eL (n_lc (f := eR) (fe := bK) _ (i_eL (f := eR) (x_callI (a_cons (fa := (eS K eR)) (x_var (f := (eS K eR)) (a := small_) rfl) (a_cons (fa := (eD sK)) (x_var (f := (eD sK)) (a := fold_) rfl) a_nil)) (fun _ => rfl))) gw_name (fun _ => gk_name) (fun z15 => t_yes) (fun z15 => (x_inKR (x_var (f := eR) (a := z15) rfl) (x_var (f := eKR) (a := v9) rfl))))) a_nil) fun _ => c_all)
theorem r_closed_end {K : PySem.W.Frag} {P : Program} {w : World} (z : (Bool × List (List Str)) × (Bool × List (List Str)) × (Bool × List (List Str)) × Int × (List (Str × Str)) × Unit) (Pr : (Option Int) → Prop) (G0 H0 : Hp) (Q : VK) (hm : (fun z : (Bool × List (List Str)) × (Bool × List (List Str)) × (Bool × List (List Str)) × Int × (List (Str × Str)) × Unit => m_closed_end z.1 z.2.1 z.2.2.1 z.2.2.2.1 z.2.2.2.2.1) z Pr) (hR : RtW ((fun _ : (Bool × List (List Str)) × (Bool × List (List Str)) × (Bool × List (List Str)) × Int × (List (Str × Str)) × Unit => F0) z) ⟨((fun _ : (Bool × List (List Str)) × (Bool × List (List Str)) × (Bool × List (List Str)) × Int × (List (Str × Str)) × Unit => F0) z).P, G0, H0⟩ (eO iK) Pr Q) :
    Tr ((fun _ : (Bool × List (List Str)) × (Bool × List (List Str)) × (Bool × List (List Str)) × Int × (List (Str × Str)) × Unit => F0) z) ⟨((fun _ : (Bool × List (List Str)) × (Bool × List (List Str)) × (Bool × List (List Str)) × Int × (List (Str × Str)) × Unit => F0) z).P, G0, H0⟩ (env0 ((fun z : (Bool × List (List Str)) × (Bool × List (List Str)) × (Bool × List (List Str)) × Int × (List (Str × Str)) × Unit => [(eS K eR) z.1, (eS K eR) z.2.1, (eS K eR) z.2.2.1, iK z.2.2.2.1, (eD sK) z.2.2.2.2.1]) z) 6) [] (t_closed_end K P w) { nx := fun _ H' => Q .non H', rt := Q } := by
  obtain ⟨small_, big_, rows_, at_, setting_, ⟨⟩⟩ := z
  have hm : m_closed_end small_ big_ rows_ at_ setting_ Pr := hm
  have hR : RtW (F0) ⟨(F0).P, G0, H0⟩ (eO iK) Pr Q := hR
  show Tr (F0) ⟨(F0).P, G0, H0⟩ (env0 [(eS K eR) small_, (eS K eR) big_, (eS K eR) rows_, iK at_, (eD sK) setting_] 6) [] (t_closed_end K P w) { nx := fun _ H' => Q .non H', rt := Q }
  unfold m_closed_end at hm
  unfold t_closed_end
  refine v_asg (f := eKR) hm (x_dcKR (i_sq (f := eR) (p := small_) rfl) (by show 6 < 11; decide)) fun v2 hm => ?_
  refine v_asg (f := (eL eR)) hm (x_cb (a_cons (fa := (eRS P w)) (x_cb (a_cons (fa := (eS K eR)) (x_var (f := (eS K eR)) (a := big_) rfl) a_nil) fun _ => c_setRS) a_nil) fun _ => c_sortR) fun v9 hm => ?_
  refine v_new hm (n_lst (f := (eD sK)) (h := (fun z : (List (Str × Str)) × Unit => [z.1])) (a_cons (fa := (eD sK)) (x_var (f := (eD sK)) (a := setting_) rfl) a_nil) (fun _ => rfl) (fun _ => by show 1 ≤ 1000; decide)) fun v12 o13 hn_o13 hm => ?_
  refine v_while (s0 := (v12, at_)) (fun s14 : (List (List (Str × Str))) × Int => ([some ((eS K eR) small_), some ((eS K eR) big_), some ((eS K eR) rows_), some (iK s14.2), some ((eD sK) setting_), some (eKR v2), none, some ((eL eR) v9), some (valK (.ref o13)), none, none], [(o13, .lst (s14.1.map (eD sK)))])) hm (fun s14 => (t_ownL (f := (eD sK)) List.mem_cons_self (x_own rfl))) (.keep (.keep (.keep (.keep (.keep (.keep (.drop (.keep (.keep (.drop (.drop .nil))))))))))) rfl (fun s14 k15 N16 hN17 hB20 hm => ?_) (fun s14 hm => ?_)
  · refine v_when hm (t_or (t_test (x_op (x_var (f := iK) (a := s14.2) rfl) (x_cb (a_cons (fa := (eS K eR)) (x_var (f := (eS K eR)) (a := rows_) rfl) a_nil) fun _ => c_lenS2 (f := eR)) fun _ _ => r_geI)) (t_B (x_niKR (x_op (x_var (f := (eS K eR)) (a := rows_) rfl) (x_var (f := iK) (a := s14.2) rfl) fun _ _ => r_ixS2 (f := eR)) (x_var (f := eKR) (a := v2) rfl)))) (fun hm => ?_) (fun hm => ?_)
    · exact w_ret (fr := (eO iK)) hR hm x_noneO
    · refine v_pop (f := (eD sK)) 0 rfl hm (x_own rfl) fun p33 hm => ?_
      refine v_for (f := eR) (s0 := p33.2) (fun s44 : (List (List (Str × Str))) => ([some ((eS K eR) small_), some ((eS K eR) big_), some ((eS K eR) rows_), some (iK s14.2), some ((eD sK) setting_), some (eKR v2), none, some ((eL eR) v9), some (valK (.ref o13)), some ((eD sK) p33.1), none], [(o13, .lst (s44.map (eD sK)))])) (fun _ _ => _) hm (i_revL (f := eR) (x_callI (a_cons (fa := eR) (x_op (x_var (f := (eS K eR)) (a := rows_) rfl) (x_var (f := iK) (a := s14.2) rfl) fun _ _ => r_ixS2 (f := eR)) (a_cons (fa := (eD sK)) (x_var (f := (eD sK)) (a := p33.1) rfl) (a_cons (fa := (eL eR)) (x_var (f := (eL eR)) (a := v9) rfl) a_nil))) (fun _ => rfl))) (.keep (.keep (.keep (.keep (.keep (.keep (.drop (.keep (.keep (.keep (.drop .nil))))))))))) rfl (fun _ _ => gk_name) (fun B48 l49 x51 s44 k45 N46 hN47 hB50 hm => ?_) (fun s44 hm => ?_)
      · refine w_app (f := (eD sK)) 0 rfl hm (x_own rfl) (x_callI (a_cons (fa := eR) (x_op (x_var (f := (eS K eR)) (a := rows_) rfl) (x_var (f := iK) (a := s14.2) rfl) fun _ _ => r_ixS2 (f := eR)) (a_cons (fa := eR) (x_var (f := eR) (a := x51) rfl) (a_cons (fa := (eD sK)) (x_var (f := (eD sK)) (a := p33.1) rfl) a_nil))) (fun _ => rfl)) fun v61 hm => ?_
        exact w_next (s := v61) hN47 hm (.keep (.keep (.keep (.keep (.keep (.keep (.drop (.keep (.keep (.keep (.drop .nil)))))))))))
      · refine w_aug (a := s14.2) (g := fun v63 => (k15 (s44, v63))) rfl hm x_int fun v63 hm => ?_
        exact w_next (s := (s44, v63)) hN17 hm (.keep (.keep (.keep (.keep (.keep (.keep (.drop (.keep (.keep (.drop (.drop .nil)))))))))))
  · refine to_fz (f := (eD sK)) 0 8 rfl rfl hn_o13 ?_
    exact w_ret (fr := (eO iK)) hR hm (x_someO (x_var (f := iK) (a := s14.2) rfl))
theorem r_is_closed {K : PySem.W.Frag} {P : Program} {w : World} (z : (Bool × List (List Str)) × (Bool × List (List Str)) × (Bool × List (List Str)) × (Option (List (Str × Str))) × Unit) (Pr : Bool → Prop) (G0 H0 : Hp) (Q : VK) (hm : (fun z : (Bool × List (List Str)) × (Bool × List (List Str)) × (Bool × List (List Str)) × (Option (List (Str × Str))) × Unit => m_is_closed z.1 z.2.1 z.2.2.1 z.2.2.2.1) z Pr) (hR : RtW ((fun _ : (Bool × List (List Str)) × (Bool × List (List Str)) × (Bool × List (List Str)) × (Option (List (Str × Str))) × Unit => F0) z) ⟨((fun _ : (Bool × List (List Str)) × (Bool × List (List Str)) × (Bool × List (List Str)) × (Option (List (Str × Str))) × Unit => F0) z).P, G0, H0⟩ bK Pr Q) :
    Tr ((fun _ : (Bool × List (List Str)) × (Bool × List (List Str)) × (Bool × List (List Str)) × (Option (List (Str × Str))) × Unit => F0) z) ⟨((fun _ : (Bool × List (List Str)) × (Bool × List (List Str)) × (Bool × List (List Str)) × (Option (List (Str × Str))) × Unit => F0) z).P, G0, H0⟩ (env0 ((fun z : (Bool × List (List Str)) × (Bool × List (List Str)) × (Bool × List (List Str)) × (Option (List (Str × Str))) × Unit => [(eS K eR) z.1, (eS K eR) z.2.1, (eS K eR) z.2.2.1, (eO (eD sK)) z.2.2.2.1]) z) 1) [] (t_is_closed K P w) { nx := fun _ H' => Q .non H', rt := Q } := by
  obtain ⟨small_, big_, rows_, setting_, ⟨⟩⟩ := z
  have hm : m_is_closed small_ big_ rows_ setting_ Pr := hm
  have hR : RtW (F0) ⟨(F0).P, G0, H0⟩ bK Pr Q := hR
  show Tr (F0) ⟨(F0).P, G0, H0⟩ (env0 [(eS K eR) small_, (eS K eR) big_, (eS K eR) rows_, (eO (eD sK)) setting_] 1) [] (t_is_closed K P w) { nx := fun _ H' => Q .non H', rt := Q }
  unfold m_is_closed at hm
  unfold t_is_closed
  refine v_asg (f := (eD sK)) hm (x_ifN (f := (eD sK)) off_eD rfl (n_eD n_dnew)) fun v1 hm => ?_
  exact w_ret (fr := bK) hR hm (x_op (x_callI (a_cons (fa := (eS K eR)) (x_var (f := (eS K eR)) (a := small_) rfl) (a_cons (fa := (eS K eR)) (x_var (f := (eS K eR)) (a := big_) rfl) (a_cons (fa := (eS K eR)) (x_var (f := (eS K eR)) (a := rows_) rfl) (a_cons (fa := iK) x_int (a_cons (fa := (eD sK)) (x_var (f := (eD sK)) (a := v1) rfl) a_nil))))) (fun _ => rfl)) (x_cb (a_cons (fa := (eS K eR)) (x_var (f := (eS K eR)) (a := rows_) rfl) a_nil) fun _ => c_lenS2 (f := eR)) fun _ _ => r_eqOI)
end K10
end
section
set_option maxRecDepth 100000
set_option maxHeartbeats 4000000
namespace K10
open PySem L2 Sx Dl

theorem r_law_names {K : PySem.W.Frag} {P : Program} {w : World} (z : Pl × Int × Str × Unit) (Pr : (List Str) → Prop) (G0 H0 : Hp) (Q : VK) (hm : (fun z : Pl × Int × Str × Unit => m_law_names z.2.1 z.2.2.1) z Pr) (hR : RtW ((fun z : Pl × Int × Str × Unit => FP z.1) z) ⟨((fun z : Pl × Int × Str × Unit => FP z.1) z).P, G0, H0⟩ (eL sK) Pr Q) :
    Tr ((fun z : Pl × Int × Str × Unit => FP z.1) z) ⟨((fun z : Pl × Int × Str × Unit => FP z.1) z).P, G0, H0⟩ (env0 ((fun z : Pl × Int × Str × Unit => [poolK z.1, iK z.2.1, sK z.2.2.1]) z) 10) [] (t_law_names K P w) { nx := fun _ H' => Q .non H', rt := Q } := by
  obtain ⟨pl, many_, signs_, ⟨⟩⟩ := z
  have hm : m_law_names many_ signs_ Pr := hm
  have hR : RtW (FP pl) ⟨(FP pl).P, G0, H0⟩ (eL sK) Pr Q := hR
  show Tr (FP pl) ⟨(FP pl).P, G0, H0⟩ (env0 [poolK pl, iK many_, sK signs_] 10) [] (t_law_names K P w) { nx := fun _ H' => Q .non H', rt := Q }
  unfold m_law_names at hm
  unfold t_law_names
  refine v_asg (f := iK) hm (x_pick (x_pool rfl) x_int) fun v1 hm => ?_
  refine v_asg (f := iK) hm (x_pick (x_pool rfl) (x_cb (a_cons (fa := sK) (x_var (f := sK) (a := signs_) rfl) a_nil) fun _ => c_lenS)) fun v5 hm => ?_
  refine v_asg (f := iK) hm (x_one (f := iK) (x_pool rfl) (n_eL (n_p (f := fun xs => .lst (xs.map iK)) (a := ([1, 5, 7, 11, 17, 19, 23, 25] : List Int)) (en_lst (ea_cons ek_c (ea_cons ek_c (ea_cons ek_c (ea_cons ek_c (ea_cons ek_c (ea_cons ek_c (ea_cons ek_c (ea_cons ek_c ea_nil)))))))) (by show 8 ≤ sizeLine; decide))))) fun v6 hm => ?_
  refine v_asg (f := bK) hm (x_op (x_pick (x_pool rfl) x_int) x_int fun _ _ => r_eqI) fun v9 hm => ?_
  refine v_asg (f := sK) hm (x_join x_str (n_eL (n_lc (f := iK) (fe := sK) _ (i_rng1 x_int) gw_name (fun _ => gk_name) (fun z14 => t_yes) (fun z14 => (x_oneC (x_pool rfl) (x_var (f := sK) (a := signs_) rfl)))))) fun v17 hm => ?_
  refine v_new hm (n_nil (f := sK)) fun v18 o19 hn_o19 hm => ?_
  refine v_for (f := iK) (s0 := (v17, v18)) (fun s24 : Str × (List Str) => ([some (poolK pl), some (iK many_), some (sK signs_), some (iK v1), some (iK v5), some (iK v6), some (bK v9), some (sK s24.1), none, some (valK (.ref o19)), none, none, none], [(o19, .lst (s24.2.map sK))])) (fun _ _ => _) hm (i_rng1 (x_var (f := iK) (a := many_) rfl)) (.keep (.keep (.keep (.keep (.keep (.keep (.keep (.keep (.drop (.keep (.drop (.drop (.drop .nil))))))))))))) rfl (fun _ _ => gk_name) (fun B28 l29 x31 s24 k25 N26 hN27 hB30 hm => ?_) (fun s24 hm => ?_)
  · refine v_asg (f := iK) hm (x_op (x_op (x_var (f := iK) (a := v1) rfl) x_int fun _ _ => r_addI) (x_pick (x_pool rfl) (x_op x_int (x_var (f := iK) (a := v1) rfl) fun _ _ => r_subI)) fun _ _ => r_addI) fun v38 hm => ?_
    refine v_join (fun s42 : Int => ([some (poolK pl), some (iK many_), some (sK signs_), some (iK v1), some (iK v5), some (iK v6), some (bK v9), some (sK s24.1), some (iK x31), some (valK (.ref o19)), some (iK s42), none, none], [(o19, .lst (s24.2.map sK))])) hm (fun N44 k43 hN45 hm => ?_) (fun s42 hm => ?_)
    · refine w_if hm (t_test (x_op (x_pick (x_pool rfl) x_int) x_int fun _ _ => r_eqI)) (fun hm => ?_) (fun hm => ?_)
      · refine w_asg (f := iK) hm x_int fun v49 hm => ?_
        exact w_next (s := v49) hN45 hm (.keep (.keep (.keep (.keep (.keep (.keep (.keep (.keep (.keep (.keep (.keep (.drop (.drop .nil)))))))))))))
      · refine t_next ?_
        exact w_next (s := v38) hN45 hm (.keep (.keep (.keep (.keep (.keep (.keep (.keep (.keep (.keep (.keep (.keep (.drop (.drop .nil)))))))))))))
    · refine v_join (fun s52 : Str => ([some (poolK pl), some (iK many_), some (sK signs_), some (iK v1), some (iK v5), some (iK v6), some (bK v9), some (sK s52), some (iK x31), some (valK (.ref o19)), some (iK s42), none, none], [(o19, .lst (s24.2.map sK))])) hm (fun N54 k53 hN55 hm => ?_) (fun s52 hm => ?_)
      · refine w_if hm (t_not (t_B (x_var (f := bK) (a := v9) rfl))) (fun hm => ?_) (fun hm => ?_)
        · refine w_asg (f := sK) hm (x_join x_str (n_eL (n_lc (f := iK) (fe := sK) _ (i_rng1 x_int) gw_name (fun _ => gk_name) (fun z62 => t_yes) (fun z62 => (x_oneC (x_pool rfl) (x_var (f := sK) (a := signs_) rfl)))))) fun v65 hm => ?_
          exact w_next (s := v65) hN55 hm (.keep (.keep (.keep (.keep (.keep (.keep (.keep (.keep (.keep (.keep (.keep (.drop (.drop .nil)))))))))))))
        · refine t_next ?_
          exact w_next (s := s24.1) hN55 hm (.keep (.keep (.keep (.keep (.keep (.keep (.keep (.keep (.keep (.keep (.keep (.drop (.drop .nil)))))))))))))
      · refine v_asg (f := sK) hm (x_op (x_var (f := sK) (a := signs_) rfl) (x_op (x_cb (a_cons (fa := iK) (x_op (x_var (f := iK) (a := v5) rfl) (x_op (x_var (f := iK) (a := x31) rfl) (x_var (f := iK) (a := v6) rfl) fun _ _ => r_mulI) fun _ _ => r_addI) a_nil) fun _ => c_int1) (x_cb (a_cons (fa := sK) (x_var (f := sK) (a := signs_) rfl) a_nil) fun _ => c_lenS) fun _ _ => r_modI) fun _ _ => r_ixS) fun v80 hm => ?_
        refine w_app (f := sK) 0 rfl hm (x_own rfl) (x_op (x_op (x_slS (x_var (f := sK) (a := s52) rfl) o_none (o_some (x_var (f := iK) (a := v1) rfl))) (x_var (f := sK) (a := v80) rfl) fun _ _ => r_catS) (x_slS (x_var (f := sK) (a := s52) rfl) (o_some (x_var (f := iK) (a := v1) rfl)) (o_some (x_op (x_var (f := iK) (a := s42) rfl) x_int fun _ _ => r_subI))) fun _ _ => r_catS) fun v96 hm => ?_
        exact w_next (s := (s52, v96)) hN27 hm (.keep (.keep (.keep (.keep (.keep (.keep (.keep (.keep (.drop (.keep (.drop (.drop (.drop .nil)))))))))))))
  · refine to_fz (f := sK) 0 9 rfl rfl hn_o19 ?_
    exact w_ret (fr := (eL sK)) hR hm (x_var (f := (eL sK)) (a := s24.2) rfl)
theorem r_law_movable_values {K : PySem.W.Frag} {P : Program} {w : World} (z : Pl × (List Str) × Unit) (Pr : (List Str) → Prop) (G0 H0 : Hp) (Q : VK) (hm : (fun z : Pl × (List Str) × Unit => m_law_movable_values z.2.1) z Pr) (hR : RtW ((fun z : Pl × (List Str) × Unit => FP z.1) z) ⟨((fun z : Pl × (List Str) × Unit => FP z.1) z).P, G0, H0⟩ (eL sK) Pr Q) :
    Tr ((fun z : Pl × (List Str) × Unit => FP z.1) z) ⟨((fun z : Pl × (List Str) × Unit => FP z.1) z).P, G0, H0⟩ (env0 ((fun z : Pl × (List Str) × Unit => [poolK z.1, (eL sK) z.2.1]) z) 5) [] (t_law_movable_values K P w) { nx := fun _ H' => Q .non H', rt := Q } := by
  obtain ⟨pl, words_, ⟨⟩⟩ := z
  have hm : m_law_movable_values words_ Pr := hm
  have hR : RtW (FP pl) ⟨(FP pl).P, G0, H0⟩ (eL sK) Pr Q := hR
  show Tr (FP pl) ⟨(FP pl).P, G0, H0⟩ (env0 [poolK pl, (eL sK) words_] 5) [] (t_law_movable_values K P w) { nx := fun _ H' => Q .non H', rt := Q }
  unfold m_law_movable_values at hm
  unfold t_law_movable_values
  refine v_new hm (n_nil (f := sK)) fun v1 o2 hn_o2 hm => ?_
  refine v_asg (f := iK) hm (x_pick (x_pool rfl) x_int) fun v3 hm => ?_
  refine v_join (fun s7 : Int => ([some (poolK pl), some ((eL sK) words_), some (valK (.ref o2)), some (iK s7), none, none, none], [(o2, .lst (v1.map sK))])) hm (fun N9 k8 hN10 hm => ?_) (fun s7 hm => ?_)
  · refine w_if hm (t_test (x_op (x_pick (x_pool rfl) x_int) x_int fun _ _ => r_eqI)) (fun hm => ?_) (fun hm => ?_)
    · refine w_asg (f := iK) hm x_int fun v14 hm => ?_
      exact w_next (s := v14) hN10 hm (.keep (.keep (.keep (.keep (.drop (.drop (.drop .nil)))))))
    · refine t_next ?_
      exact w_next (s := v3) hN10 hm (.keep (.keep (.keep (.keep (.drop (.drop (.drop .nil)))))))
  · refine v_asg (f := iK) hm (x_op x_int (x_pick (x_pool rfl) x_int) fun _ _ => r_addI) fun v17 hm => ?_
    refine v_for (f := iK) (s0 := v1) (fun s22 : (List Str) => ([some (poolK pl), some ((eL sK) words_), some (valK (.ref o2)), some (iK s7), some (iK v17), none, none], [(o2, .lst (s22.map sK))])) (fun _ _ => _) hm (i_rng1 (x_var (f := iK) (a := s7) rfl)) (.keep (.keep (.keep (.keep (.keep (.drop (.drop .nil))))))) rfl (fun _ _ => gk_name) (fun B26 l27 x29 s22 k23 N24 hN25 hB28 hm => ?_) (fun s22 hm => ?_)
    · refine v_asg (f := iK) hm (x_pick (x_pool rfl) x_int) fun v30 hm => ?_
      refine w_if hm (t_test (x_op (x_var (f := iK) (a := v30) rfl) x_int fun _ _ => r_eqI)) (fun hm => ?_) (fun hm => ?_)
      · refine w_app (f := sK) 0 rfl hm (x_own rfl) (x_op (x_op (x_op (x_op x_str (x_op (x_var (f := (eL sK)) (a := words_) rfl) x_int fun _ _ => r_ixL (f := sK)) fun _ _ => r_catS) x_str fun _ _ => r_catS) (x_cb (a_cons (fa := iK) (x_op (x_var (f := iK) (a := v17) rfl) (x_var (f := iK) (a := x29) rfl) fun _ _ => r_addI) a_nil) fun _ => c_strI) fun _ _ => r_catS) x_str fun _ _ => r_catS) fun v49 hm => ?_
        exact w_next (s := v49) hN25 hm (.keep (.keep (.keep (.keep (.keep (.drop (.drop .nil)))))))
      · refine w_if hm (t_test (x_op (x_var (f := iK) (a := v30) rfl) x_int fun _ _ => r_eqI)) (fun hm => ?_) (fun hm => ?_)
        · refine w_app (f := sK) 0 rfl hm (x_own rfl) (x_op (x_op x_str (x_var (f := iK) (a := x29) rfl) fun _ _ => r_ixS) (x_op (n_eL (n_lst (f := sK) (h := (fun z : Str × Str × Unit => [z.1, z.2.1])) (a_cons (fa := sK) x_str (a_cons (fa := sK) (x_cb (a_cons (fa := iK) (x_var (f := iK) (a := v17) rfl) a_nil) fun _ => c_strI) a_nil)) (fun _ => rfl) (fun _ => by show 2 ≤ 1000; decide))) (x_pick (x_pool rfl) x_int) fun _ _ => r_ixL (f := sK)) fun _ _ => r_catS) fun v67 hm => ?_
          exact w_next (s := v67) hN25 hm (.keep (.keep (.keep (.keep (.keep (.drop (.drop .nil)))))))
        · refine w_app (f := sK) 0 rfl hm (x_own rfl) (x_op x_str (x_cb (a_cons (fa := iK) (x_op (x_var (f := iK) (a := v17) rfl) (x_op x_int (x_var (f := iK) (a := x29) rfl) fun _ _ => r_mulI) fun _ _ => r_addI) a_nil) fun _ => c_strI) fun _ _ => r_catS) fun v78 hm => ?_
          exact w_next (s := v78) hN25 hm (.keep (.keep (.keep (.keep (.keep (.drop (.drop .nil)))))))
    · refine to_fz (f := sK) 0 2 rfl rfl hn_o2 ?_
      exact w_ret (fr := (eL sK)) hR hm (x_var (f := (eL sK)) (a := s22) rfl)
theorem r_law_rows {K : PySem.W.Frag} {P : Program} {w : World} (z : Pl × (List (Str × Int)) × (List Str) × Int × Unit) (Pr : (List (List Str)) → Prop) (G0 H0 : Hp) (Q : VK) (hm : (fun z : Pl × (List (Str × Int)) × (List Str) × Int × Unit => m_law_rows z.2.1 z.2.2.1 z.2.2.2.1) z Pr) (hR : RtW ((fun z : Pl × (List (Str × Int)) × (List Str) × Int × Unit => FP z.1) z) ⟨((fun z : Pl × (List (Str × Int)) × (List Str) × Int × Unit => FP z.1) z).P, G0, H0⟩ (eL eR) Pr Q) :
    Tr ((fun z : Pl × (List (Str × Int)) × (List Str) × Int × Unit => FP z.1) z) ⟨((fun z : Pl × (List (Str × Int)) × (List Str) × Int × Unit => FP z.1) z).P, G0, H0⟩ (env0 ((fun z : Pl × (List (Str × Int)) × (List Str) × Int × Unit => [poolK z.1, (eL (eP K sK iK)) z.2.1, (eL sK) z.2.2.1, iK z.2.2.2.1]) z) 6) [] (t_law_rows K P w) { nx := fun _ H' => Q .non H', rt := Q } := by
  obtain ⟨pl, tables_, values_, many_, ⟨⟩⟩ := z
  have hm : m_law_rows tables_ values_ many_ Pr := hm
  have hR : RtW (FP pl) ⟨(FP pl).P, G0, H0⟩ (eL eR) Pr Q := hR
  show Tr (FP pl) ⟨(FP pl).P, G0, H0⟩ (env0 [poolK pl, (eL (eP K sK iK)) tables_, (eL sK) values_, iK many_] 6) [] (t_law_rows K P w) { nx := fun _ H' => Q .non H', rt := Q }
  unfold m_law_rows at hm
  unfold t_law_rows
  refine v_new hm (n_nil (f := eR)) fun v1 o2 hn_o2 hm => ?_
  refine v_for (f := iK) (s0 := v1) (fun s7 : (List (List Str)) => ([some (poolK pl), some ((eL (eP K sK iK)) tables_), some ((eL sK) values_), some (iK many_), some (valK (.ref o2)), none, none, none, none, none], [(o2, .lst (s7.map eR))])) (fun _ _ => _) hm (i_rng1 (x_var (f := iK) (a := many_) rfl)) (.keep (.keep (.keep (.keep (.keep (.drop (.drop (.drop (.drop (.drop .nil)))))))))) rfl (fun _ _ => gk_name) (fun B11 l12 x14 s7 k8 N9 hN10 hB13 hm => ?_) (fun s7 hm => ?_)
  · refine v_tgt (f := (eP K sK iK)) (dl := fun _ => _) hm (x_one (f := (eP K sK iK)) (x_pool rfl) (x_var (f := (eL (eP K sK iK))) (a := tables_) rfl)) (fun _ => g_pair) fun v15 hm => ?_
    refine v_asg (f := (eL sK)) hm (n_eL (n_lc (f := iK) (fe := sK) _ (i_rng1 (x_var (f := iK) (a := v15.2) rfl)) gw_name (fun _ => gk_name) (fun z20 => t_yes) (fun z20 => (x_one (f := sK) (x_pool rfl) (x_var (f := (eL sK)) (a := values_) rfl))))) fun v21 hm => ?_
    refine w_app (f := eR) 0 rfl hm (x_own rfl) (x_rowL (n_eL (n_catL (f := sK) (n_eL (n_lst (f := sK) (h := (fun z : Str × Unit => [z.1])) (a_cons (fa := sK) (x_var (f := sK) (a := v15.1) rfl) a_nil) (fun _ => rfl) (fun _ => by show 1 ≤ 1000; decide))) (x_var (f := (eL sK)) (a := v21) rfl)))) fun v29 hm => ?_
    exact w_next (s := v29) hN10 hm (.keep (.keep (.keep (.keep (.keep (.drop (.drop (.drop (.drop (.drop .nil))))))))))
  · refine to_fz (f := eR) 0 4 rfl rfl hn_o2 ?_
    exact w_ret (fr := (eL eR)) hR hm (x_var (f := (eL eR)) (a := s7) rfl)
theorem r_law_is_word {K : PySem.W.Frag} {P : Program} {w : World} (z : Str × Unit) (Pr : Bool → Prop) (G0 H0 : Hp) (Q : VK) (hm : (fun z : Str × Unit => m_law_is_word z.1) z Pr) (hR : RtW ((fun _ : Str × Unit => F0) z) ⟨((fun _ : Str × Unit => F0) z).P, G0, H0⟩ bK Pr Q) :
    Tr ((fun _ : Str × Unit => F0) z) ⟨((fun _ : Str × Unit => F0) z).P, G0, H0⟩ (env0 ((fun z : Str × Unit => [sK z.1]) z) 2) [] (t_law_is_word K P w) { nx := fun _ H' => Q .non H', rt := Q } := by
  obtain ⟨text_, ⟨⟩⟩ := z
  have hm : m_law_is_word text_ Pr := hm
  have hR : RtW (F0) ⟨(F0).P, G0, H0⟩ bK Pr Q := hR
  show Tr (F0) ⟨(F0).P, G0, H0⟩ (env0 [sK text_] 2) [] (t_law_is_word K P w) { nx := fun _ H' => Q .non H', rt := Q }
  unfold m_law_is_word at hm
  unfold t_law_is_word
  refine v_asg (f := sK) hm x_str fun v1 hm => ?_
  exact w_ret (fr := bK) hR hm (x_eqE (f := cK) (n_eL (n_lc (f := cK) (fe := cK) _ (i_str (x_var (f := sK) (a := text_) rfl)) gw_name (fun _ => gk_name) (fun z3 => (t_test (x_op (x_var (f := cK) (a := z3) rfl) (x_var (f := sK) (a := v1) rfl) fun _ _ => r_niSg))) (fun z3 => (x_var (f := cK) (a := z3) rfl)))))
theorem r_law_values {K : PySem.W.Frag} {P : Program} {w : World} (z : (List (List Str)) × Unit) (Pr : (List Str) → Prop) (G0 H0 : Hp) (Q : VK) (hm : (fun z : (List (List Str)) × Unit => m_law_values z.1) z Pr) (hR : RtW ((fun _ : (List (List Str)) × Unit => F0) z) ⟨((fun _ : (List (List Str)) × Unit => F0) z).P, G0, H0⟩ (eL sK) Pr Q) :
    Tr ((fun _ : (List (List Str)) × Unit => F0) z) ⟨((fun _ : (List (List Str)) × Unit => F0) z).P, G0, H0⟩ (env0 ((fun z : (List (List Str)) × Unit => [(eL eR) z.1]) z) 2) [] (t_law_values K P w) { nx := fun _ H' => Q .non H', rt := Q } := by
  obtain ⟨rows_, ⟨⟩⟩ := z
  have hm : m_law_values rows_ Pr := hm
  have hR : RtW (F0) ⟨(F0).P, G0, H0⟩ (eL sK) Pr Q := hR
  show Tr (F0) ⟨(F0).P, G0, H0⟩ (env0 [(eL eR) rows_] 2) [] (t_law_values K P w) { nx := fun _ H' => Q .non H', rt := Q }
  unfold m_law_values at hm
  unfold t_law_values
  refine v_new hm (n_nil (f := sK)) fun v1 o2 hn_o2 hm => ?_
  refine v_for (f := eR) (s0 := v1) (fun s3 : (List Str) => ([some ((eL eR) rows_), some (valK (.ref o2)), none], [(o2, .lst (s3.map sK))])) (fun _ _ => _) hm (i_eL (f := eR) (x_var (f := (eL eR)) (a := rows_) rfl)) (.keep (.keep (.drop .nil))) rfl (fun _ _ => gk_name) (fun B7 l8 x10 s3 k4 N5 hN6 hB9 hm => ?_) (fun s3 hm => ?_)
  · refine w_extR 0 rfl hm (x_own rfl) (x_slR (x_var (f := eR) (a := x10) rfl) (o_some x_int) o_none) fun v15 hm => ?_
    exact w_next (s := v15) hN6 hm (.keep (.keep (.drop .nil)))
  · refine to_fz (f := sK) 0 1 rfl rfl hn_o2 ?_
    exact w_ret (fr := (eL sK)) hR hm (x_cb (a_cons (fa := (setXK w)) (x_cb (a_cons (fa := (eL sK)) (x_var (f := (eL sK)) (a := s3) rfl) a_nil) fun _ => c_setSL) a_nil) fun _ => c_sortS)
theorem r_law_movables {K : PySem.W.Frag} {P : Program} {w : World} (z : (List (List Str)) × Unit) (Pr : (List Str) → Prop) (G0 H0 : Hp) (Q : VK) (hm : (fun z : (List (List Str)) × Unit => m_law_movables z.1) z Pr) (hR : RtW ((fun _ : (List (List Str)) × Unit => F0) z) ⟨((fun _ : (List (List Str)) × Unit => F0) z).P, G0, H0⟩ (eL sK) Pr Q) :
    Tr ((fun _ : (List (List Str)) × Unit => F0) z) ⟨((fun _ : (List (List Str)) × Unit => F0) z).P, G0, H0⟩ (env0 ((fun z : (List (List Str)) × Unit => [(eL eR) z.1]) z) 1) [] (t_law_movables K P w) { nx := fun _ H' => Q .non H', rt := Q } := by
  obtain ⟨rows_, ⟨⟩⟩ := z
  have hm : m_law_movables rows_ Pr := hm
  have hR : RtW (F0) ⟨(F0).P, G0, H0⟩ (eL sK) Pr Q := hR
  show Tr (F0) ⟨(F0).P, G0, H0⟩ (env0 [(eL eR) rows_] 1) [] (t_law_movables K P w) { nx := fun _ H' => Q .non H', rt := Q }
  unfold m_law_movables at hm
  unfold t_law_movables
  exact w_ret (fr := (eL sK)) hR hm (n_eL (n_lc (f := sK) (fe := sK) _ (i_eL (f := sK) (x_callI (a_cons (fa := (eL eR)) (x_var (f := (eL eR)) (a := rows_) rfl) a_nil) (fun _ => rfl))) gw_name (fun _ => gk_name) (fun z4 => (t_not (t_B (x_callI (a_cons (fa := sK) (x_var (f := sK) (a := z4) rfl) a_nil) (fun _ => rfl))))) (fun z4 => (x_var (f := sK) (a := z4) rfl))))
theorem r_law_set {K : PySem.W.Frag} {P : Program} {w : World} (z : (List Str) × (List (Str × Str)) × Unit) (Pr : (List Str) → Prop) (G0 H0 : Hp) (Q : VK) (hm : (fun z : (List Str) × (List (Str × Str)) × Unit => m_law_set z.1 z.2.1) z Pr) (hR : RtW ((fun _ : (List Str) × (List (Str × Str)) × Unit => F0) z) ⟨((fun _ : (List Str) × (List (Str × Str)) × Unit => F0) z).P, G0, H0⟩ eR Pr Q) :
    Tr ((fun _ : (List Str) × (List (Str × Str)) × Unit => F0) z) ⟨((fun _ : (List Str) × (List (Str × Str)) × Unit => F0) z).P, G0, H0⟩ (env0 ((fun z : (List Str) × (List (Str × Str)) × Unit => [eR z.1, (eD sK) z.2.1]) z) 1) [] (t_law_set K P w) { nx := fun _ H' => Q .non H', rt := Q } := by
  obtain ⟨row_, setting_, ⟨⟩⟩ := z
  have hm : m_law_set row_ setting_ Pr := hm
  have hR : RtW (F0) ⟨(F0).P, G0, H0⟩ eR Pr Q := hR
  show Tr (F0) ⟨(F0).P, G0, H0⟩ (env0 [eR row_, (eD sK) setting_] 1) [] (t_law_set K P w) { nx := fun _ H' => Q .non H', rt := Q }
  unfold m_law_set at hm
  unfold t_law_set
  exact w_ret (fr := eR) hR hm (x_rowL (n_eL (n_catL (f := sK) (n_eL (n_lst (f := sK) (h := (fun z : Str × Unit => [z.1])) (a_cons (fa := sK) (x_op (x_var (f := eR) (a := row_) rfl) x_int fun _ _ => r_ixR) a_nil) (fun _ => rfl) (fun _ => by show 1 ≤ 1000; decide))) (n_eL (n_lc (f := sK) (fe := sK) _ (i_row (x_slR (x_var (f := eR) (a := row_) rfl) (o_some x_int) o_none)) gw_name (fun _ => gk_name) (fun z9 => t_yes) (fun z9 => (x_dget2 (f := sK) (dd := (fun x => x)) (x_var (f := (eD sK)) (a := setting_) rfl) (fun _ => drd_eD) (x_var (f := sK) (a := z9) rfl) (x_var (f := sK) (a := z9) rfl))))))))
theorem r_law_is_partner {K : PySem.W.Frag} {P : Program} {w : World} (z : (List Str) × (List Str) × (List (Str × Str)) × Unit) (Pr : Bool → Prop) (G0 H0 : Hp) (Q : VK) (hm : (fun z : (List Str) × (List Str) × (List (Str × Str)) × Unit => m_law_is_partner z.1 z.2.1 z.2.2.1) z Pr) (hR : RtW ((fun _ : (List Str) × (List Str) × (List (Str × Str)) × Unit => F0) z) ⟨((fun _ : (List Str) × (List Str) × (List (Str × Str)) × Unit => F0) z).P, G0, H0⟩ bK Pr Q) :
    Tr ((fun _ : (List Str) × (List Str) × (List (Str × Str)) × Unit => F0) z) ⟨((fun _ : (List Str) × (List Str) × (List (Str × Str)) × Unit => F0) z).P, G0, H0⟩ (env0 ((fun z : (List Str) × (List Str) × (List (Str × Str)) × Unit => [eR z.1, eR z.2.1, (eD sK) z.2.2.1]) z) 4) [] (t_law_is_partner K P w) { nx := fun _ H' => Q .non H', rt := Q } := by
  obtain ⟨row_, other_, setting_, ⟨⟩⟩ := z
  have hm : m_law_is_partner row_ other_ setting_ Pr := hm
  have hR : RtW (F0) ⟨(F0).P, G0, H0⟩ bK Pr Q := hR
  show Tr (F0) ⟨(F0).P, G0, H0⟩ (env0 [eR row_, eR other_, (eD sK) setting_] 4) [] (t_law_is_partner K P w) { nx := fun _ H' => Q .non H', rt := Q }
  unfold m_law_is_partner at hm
  unfold t_law_is_partner
  refine v_when hm (t_or (t_test (x_op (x_op (x_var (f := eR) (a := other_) rfl) x_int fun _ _ => r_ixR) (x_op (x_var (f := eR) (a := row_) rfl) x_int fun _ _ => r_ixR) fun _ _ => r_neS)) (t_test (x_op (x_cb (a_cons (fa := eR) (x_var (f := eR) (a := other_) rfl) a_nil) fun _ => c_lenR) (x_cb (a_cons (fa := eR) (x_var (f := eR) (a := row_) rfl) a_nil) fun _ => c_lenR) fun _ _ => r_neI))) (fun hm => ?_) (fun hm => ?_)
  · exact w_ret (fr := bK) hR hm x_bl
  · refine v_for (f := iK) (s0 := ()) (fun s26 : Unit => ([some (eR row_), some (eR other_), some ((eD sK) setting_), none, none, none, none], [])) (fun _ _ => _) hm (i_rng2 x_int (x_cb (a_cons (fa := eR) (x_var (f := eR) (a := row_) rfl) a_nil) fun _ => c_lenR)) (.keep (.keep (.keep (.drop (.drop (.drop (.drop .nil))))))) rfl (fun _ _ => gk_name) (fun B30 l31 x33 s26 k27 N28 hN29 hB32 hm => ?_) (fun s26 hm => ?_)
    · refine v_asg (f := sK) hm (x_op (x_var (f := eR) (a := row_) rfl) (x_var (f := iK) (a := x33) rfl) fun _ _ => r_ixR) fun v36 hm => ?_
      refine v_asg (f := sK) hm (x_dget2 (f := sK) (dd := (fun x => x)) (x_var (f := (eD sK)) (a := setting_) rfl) (fun _ => drd_eD) (x_var (f := sK) (a := v36) rfl) (x_op (x_var (f := eR) (a := other_) rfl) (x_var (f := iK) (a := x33) rfl) fun _ _ => r_ixR)) fun v42 hm => ?_
      refine v_join (fun s47 : Str => ([some (eR row_), some (eR other_), some ((eD sK) setting_), some (iK x33), some (sK v36), some (sK s47), none], [])) hm (fun N49 k48 hN50 hm => ?_) (fun s47 hm => ?_)
      · refine w_if hm (t_B (x_callI (a_cons (fa := sK) (x_var (f := sK) (a := v36) rfl) a_nil) (fun _ => rfl))) (fun hm => ?_) (fun hm => ?_)
        · refine w_asg (f := sK) hm (x_var (f := sK) (a := v36) rfl) fun v55 hm => ?_
          exact w_next (s := v55) hN50 hm (.keep (.keep (.keep (.keep (.keep (.keep (.drop .nil)))))))
        · refine t_next ?_
          exact w_next (s := v42) hN50 hm (.keep (.keep (.keep (.keep (.keep (.keep (.drop .nil)))))))
      · refine v_when hm (t_test (x_op (x_op (x_var (f := eR) (a := other_) rfl) (x_var (f := iK) (a := x33) rfl) fun _ _ => r_ixR) (x_var (f := sK) (a := s47) rfl) fun _ _ => r_neS)) (fun hm => ?_) (fun hm => ?_)
        · exact w_ret (fr := bK) (Rt.up l31 hR) hm x_bl
        · refine w_for (f := iK) (s0 := ()) (fun s67 : Unit => ([some (eR row_), some (eR other_), some ((eD sK) setting_), some (iK x33), some (sK v36), some (sK s47), none], [])) (fun _ _ => _) hm (i_rng2 x_int (x_var (f := iK) (a := x33) rfl)) (.keep (.keep (.keep (.keep (.keep (.keep (.drop .nil))))))) rfl (fun _ _ => gk_name) (fun B71 l72 x74 s67 k68 N69 hN70 hB73 hm => ?_) (fun s67 hm => ?_)
          · refine w_if hm (t_and (t_test (x_op (x_op (x_var (f := eR) (a := row_) rfl) (x_var (f := iK) (a := x74) rfl) fun _ _ => r_ixR) (x_var (f := sK) (a := v36) rfl) fun _ _ => r_eqS)) (t_test (x_op (x_op (x_var (f := eR) (a := other_) rfl) (x_var (f := iK) (a := x74) rfl) fun _ _ => r_ixR) (x_op (x_var (f := eR) (a := other_) rfl) (x_var (f := iK) (a := x33) rfl) fun _ _ => r_ixR) fun _ _ => r_neS))) (fun hm => ?_) (fun hm => ?_)
            · exact w_ret (fr := bK) (Rt.up l72 (Rt.up l31 hR)) hm x_bl
            · refine t_next ?_
              exact w_next (s := ()) hN70 hm (.keep (.keep (.keep (.keep (.keep (.keep (.drop .nil)))))))
          · exact w_next (s := ()) hN29 hm (.keep (.keep (.keep (.drop (.drop (.drop (.drop .nil)))))))
    · exact w_ret (fr := bK) hR hm x_bl
theorem r_law_set_by {K : PySem.W.Frag} {P : Program} {w : World} (z : (List Str) × (List Str) × (List (Str × Str)) × Unit) (Pr : (List (Str × Str)) → Prop) (G0 H0 : Hp) (Q : VK) (hm : (fun z : (List Str) × (List Str) × (List (Str × Str)) × Unit => m_law_set_by z.1 z.2.1 z.2.2.1) z Pr) (hR : RtW ((fun _ : (List Str) × (List Str) × (List (Str × Str)) × Unit => F0) z) ⟨((fun _ : (List Str) × (List Str) × (List (Str × Str)) × Unit => F0) z).P, G0, H0⟩ (eD sK) Pr Q) :
    Tr ((fun _ : (List Str) × (List Str) × (List (Str × Str)) × Unit => F0) z) ⟨((fun _ : (List Str) × (List Str) × (List (Str × Str)) × Unit => F0) z).P, G0, H0⟩ (env0 ((fun z : (List Str) × (List Str) × (List (Str × Str)) × Unit => [eR z.1, eR z.2.1, (eD sK) z.2.2.1]) z) 2) [] (t_law_set_by K P w) { nx := fun _ H' => Q .non H', rt := Q } := by
  obtain ⟨row_, partner_, setting_, ⟨⟩⟩ := z
  have hm : m_law_set_by row_ partner_ setting_ Pr := hm
  have hR : RtW (F0) ⟨(F0).P, G0, H0⟩ (eD sK) Pr Q := hR
  show Tr (F0) ⟨(F0).P, G0, H0⟩ (env0 [eR row_, eR partner_, (eD sK) setting_] 2) [] (t_law_set_by K P w) { nx := fun _ H' => Q .non H', rt := Q }
  unfold m_law_set_by at hm
  unfold t_law_set_by
  refine v_new hm (n_dcopy (f := sK) (dd := (fun x => x)) (x_var (f := (eD sK)) (a := setting_) rfl) (fun _ => drd_eD)) fun v2 o3 hn_o3 hm => ?_
  refine v_for (f := iK) (s0 := v2) (fun s13 : (List (Str × Str)) => ([some (eR row_), some (eR partner_), some ((eD sK) setting_), some (valK (.ref o3)), none], [(o3, moD sK s13)])) (fun _ _ => _) hm (i_rng2 x_int (x_cb (a_cons (fa := eR) (x_var (f := eR) (a := row_) rfl) a_nil) fun _ => c_lenR)) (.keep (.keep (.keep (.keep (.drop .nil))))) rfl (fun _ _ => gk_name) (fun B17 l18 x20 s13 k14 N15 hN16 hB19 hm => ?_) (fun s13 hm => ?_)
  · refine w_if hm (t_and (t_not (t_B (x_callI (a_cons (fa := sK) (x_op (x_var (f := eR) (a := row_) rfl) (x_var (f := iK) (a := x20) rfl) fun _ _ => r_ixR) a_nil) (fun _ => rfl)))) (t_B (x_dni (f := sK) (dd := (fun _ => s13)) (x_op (x_var (f := eR) (a := row_) rfl) (x_var (f := iK) (a := x20) rfl) fun _ _ => r_ixR) (x_own rfl) (fun _ => drd_own List.mem_cons_self)))) (fun hm => ?_) (fun hm => ?_)
    · refine w_dput (f := sK) 0 rfl hm (x_op (x_var (f := eR) (a := partner_) rfl) (x_var (f := iK) (a := x20) rfl) fun _ _ => r_ixR) (x_own rfl) (x_op (x_var (f := eR) (a := row_) rfl) (x_var (f := iK) (a := x20) rfl) fun _ _ => r_ixR) fun v37 hm => ?_
      exact w_next (s := v37) hN16 hm (.keep (.keep (.keep (.keep (.drop .nil)))))
    · refine t_next ?_
      exact w_next (s := s13) hN16 hm (.keep (.keep (.keep (.keep (.drop .nil)))))
  · refine to_fzD (f := sK) 0 3 rfl rfl hn_o3 ?_
    exact w_ret (fr := (eD sK)) hR hm (x_var (f := (eD sK)) (a := s13) rfl)
theorem r_law_fold_due {K : PySem.W.Frag} {P : Program} {w : World} (z : (List (List Str)) × (List (List Str)) × (List (Str × Str)) × Unit) (Pr : Bool → Prop) (G0 H0 : Hp) (Q : VK) (hm : (fun z : (List (List Str)) × (List (List Str)) × (List (Str × Str)) × Unit => m_law_fold_due z.1 z.2.1 z.2.2.1) z Pr) (hR : RtW ((fun _ : (List (List Str)) × (List (List Str)) × (List (Str × Str)) × Unit => F0) z) ⟨((fun _ : (List (List Str)) × (List (List Str)) × (List (Str × Str)) × Unit => F0) z).P, G0, H0⟩ bK Pr Q) :
    Tr ((fun _ : (List (List Str)) × (List (List Str)) × (List (Str × Str)) × Unit => F0) z) ⟨((fun _ : (List (List Str)) × (List (List Str)) × (List (Str × Str)) × Unit => F0) z).P, G0, H0⟩ (env0 ((fun z : (List (List Str)) × (List (List Str)) × (List (Str × Str)) × Unit => [(eL eR) z.1, (eL eR) z.2.1, (eD sK) z.2.2.1]) z) 1) [] (t_law_fold_due K P w) { nx := fun _ H' => Q .non H', rt := Q } := by
  obtain ⟨small_, big_, fold_, ⟨⟩⟩ := z
  have hm : m_law_fold_due small_ big_ fold_ Pr := hm
  have hR : RtW (F0) ⟨(F0).P, G0, H0⟩ bK Pr Q := hR
  show Tr (F0) ⟨(F0).P, G0, H0⟩ (env0 [(eL eR) small_, (eL eR) big_, (eD sK) fold_] 1) [] (t_law_fold_due K P w) { nx := fun _ H' => Q .non H', rt := Q }
  unfold m_law_fold_due at hm
  unfold t_law_fold_due
  refine v_when hm (t_test (x_op (n_eL (n_sortD (f := sK) (dd := (fun x => x)) (x_var (f := (eD sK)) (a := fold_) rfl) (fun _ => drd_eD))) (x_callI (a_cons (fa := (eL eR)) (x_var (f := (eL eR)) (a := small_) rfl) a_nil) (fun _ => rfl)) fun _ _ => r_neD (dt_list (dt_str (K := K))))) (fun hm => ?_) (fun hm => ?_)
  · exact w_ret (fr := bK) hR hm x_bl
  · refine v_for (f := eR) (s0 := ()) (fun s8 : Unit => ([some ((eL eR) small_), some ((eL eR) big_), some ((eD sK) fold_), none], [])) (fun _ _ => _) hm (i_eL (f := eR) (x_var (f := (eL eR)) (a := small_) rfl)) (.keep (.keep (.keep (.drop .nil)))) rfl (fun _ _ => gk_name) (fun B12 l13 x15 s8 k9 N10 hN11 hB14 hm => ?_) (fun s8 hm => ?_)
    · refine w_if hm (t_test (x_op (x_callI (a_cons (fa := eR) (x_var (f := eR) (a := x15) rfl) (a_cons (fa := (eD sK)) (x_var (f := (eD sK)) (a := fold_) rfl) a_nil)) (fun _ => rfl)) (x_var (f := (eL eR)) (a := big_) rfl) fun _ _ => r_niD (dt_row (K := K)))) (fun hm => ?_) (fun hm => ?_)
      · exact w_ret (fr := bK) (Rt.up l13 hR) hm x_bl
      · refine t_next ?_
        exact w_next (s := ()) hN11 hm (.keep (.keep (.keep (.drop .nil))))
    · exact w_ret (fr := bK) hR hm x_bl
theorem r_law_fold_holds {K : PySem.W.Frag} {P : Program} {w : World} (z : (List (List Str)) × (List (List Str)) × (List (Str × Str)) × Unit) (Pr : Bool → Prop) (G0 H0 : Hp) (Q : VK) (hm : (fun z : (List (List Str)) × (List (List Str)) × (List (Str × Str)) × Unit => m_law_fold_holds z.1 z.2.1 z.2.2.1) z Pr) (hR : RtW ((fun _ : (List (List Str)) × (List (List Str)) × (List (Str × Str)) × Unit => F0) z) ⟨((fun _ : (List (List Str)) × (List (List Str)) × (List (Str × Str)) × Unit => F0) z).P, G0, H0⟩ bK Pr Q) :
    Tr ((fun _ : (List (List Str)) × (List (List Str)) × (List (Str × Str)) × Unit => F0) z) ⟨((fun _ : (List (List Str)) × (List (List Str)) × (List (Str × Str)) × Unit => F0) z).P, G0, H0⟩ (env0 ((fun z : (List (List Str)) × (List (List Str)) × (List (Str × Str)) × Unit => [(eL eR) z.1, (eL eR) z.2.1, (eD sK) z.2.2.1]) z) 6) [] (t_law_fold_holds K P w) { nx := fun _ H' => Q .non H', rt := Q } := by
  obtain ⟨small_, big_, fold_, ⟨⟩⟩ := z
  have hm : m_law_fold_holds small_ big_ fold_ Pr := hm
  have hR : RtW (F0) ⟨(F0).P, G0, H0⟩ bK Pr Q := hR
  show Tr (F0) ⟨(F0).P, G0, H0⟩ (env0 [(eL eR) small_, (eL eR) big_, (eD sK) fold_] 6) [] (t_law_fold_holds K P w) { nx := fun _ H' => Q .non H', rt := Q }
  unfold m_law_fold_holds at hm
  unfold t_law_fold_holds
  refine v_asg (f := bK) hm (x_callI (a_cons (fa := (eL eR)) (x_var (f := (eL eR)) (a := small_) rfl) (a_cons (fa := (eL eR)) (x_var (f := (eL eR)) (a := big_) rfl) (a_cons (fa := (eD sK)) (x_var (f := (eD sK)) (a := fold_) rfl) a_nil))) (fun _ => rfl)) fun v8 hm => ?_
  refine v_asg (f := (eL eR)) hm (n_eL (n_listL (f := eR) (x_var (f := (eL eR)) (a := small_) rfl))) fun v12 hm => ?_
  refine v_asg (f := (eL eR)) hm (n_eL (n_listL (f := eR) (x_var (f := (eL eR)) (a := big_) rfl))) fun v16 hm => ?_
  refine v_asg (f := (eD sK)) hm (n_eD (n_dcopy (f := sK) (dd := (fun x => x)) (x_var (f := (eD sK)) (a := fold_) rfl) (fun _ => drd_eD))) fun v18 hm => ?_
  refine v_asg (f := bK) hm (x_callI (a_cons (fa := (eS K eR)) (x_sqL (x_var (f := (eL eR)) (a := v12) rfl)) (a_cons (fa := (eS K eR)) (x_sqL (x_var (f := (eL eR)) (a := v16) rfl)) (a_cons (fa := (eD sK)) (x_var (f := (eD sK)) (a := v18) rfl) a_nil))) (fun _ => rfl)) fun v26 hm => ?_
  refine v_when hm (t_or (t_test (x_op (x_var (f := (eL eR)) (a := v12) rfl) (x_var (f := (eL eR)) (a := small_) rfl) fun _ _ => r_neD (dt_list (dt_row (K := K))))) (t_or (t_test (x_op (x_var (f := (eL eR)) (a := v16) rfl) (x_var (f := (eL eR)) (a := big_) rfl) fun _ _ => r_neD (dt_list (dt_row (K := K))))) (t_test (x_op (x_items (f := sK) (x_var (f := (eD sK)) (a := v18) rfl)) (x_items (f := sK) (x_var (f := (eD sK)) (a := fold_) rfl)) fun _ _ => r_neD (dt_list (dt_pair (dt_str (K := K)) (dt_str (K := K)))))))) (fun hm => ?_) (fun hm => ?_)
  · exact w_ret (fr := bK) hR hm x_bl
  · refine v_when hm (t_or (t_test (x_op (x_op (x_var (f := bK) (a := v26) rfl) x_bl fun _ _ => r_isB) (x_var (f := bK) (a := v8) rfl) fun _ _ => r_neB)) (t_test (x_op (x_op (x_var (f := bK) (a := v26) rfl) x_bl fun _ _ => r_isB) (x_var (f := bK) (a := v8) rfl) fun _ _ => r_eqB))) (fun hm => ?_) (fun hm => ?_)
    · exact w_ret (fr := bK) hR hm x_bl
    · refine v_asg (f := (eT K eR)) hm (x_tupL (f := eR) (n_eL (n_revL (f := eR) (x_var (f := (eL eR)) (a := small_) rfl)))) fun v50 hm => ?_
      refine v_asg (f := bK) hm (x_callK0 (fun z : (List (Str × Str)) × (Bool × List (List Str)) × (Bool × List (List Str)) × Unit => (z.2.1, z.2.2.1, z.1, ())) (fun _ => rfl) (a_cons (fa := (eD sK)) (x_var (f := (eD sK)) (a := v18) rfl) (a_cons (fa := (eS K eR)) (x_sqT (x_var (f := (eT K eR)) (a := v50) rfl)) (a_cons (fa := (eS K eR)) (x_sqT (x_tupL (f := eR) (n_eL (n_catL (f := eR) (x_var (f := (eL eR)) (a := big_) rfl) (x_var (f := (eL eR)) (a := big_) rfl))))) a_nil))) (fun _ _ _ r => ag_fold r)) fun v63 hm => ?_
      exact w_ret (fr := bK) hR hm (x_andV (x_op (x_op (x_var (f := bK) (a := v63) rfl) x_bl fun _ _ => r_isB) (x_var (f := bK) (a := v8) rfl) fun _ _ => r_eqB) (x_op (x_op (x_var (f := bK) (a := v63) rfl) x_bl fun _ _ => r_isB) (x_var (f := bK) (a := v8) rfl) fun _ _ => r_neB))
theorem r_law_spoilt_fold {K : PySem.W.Frag} {P : Program} {w : World} (z : Pl × (List (Str × Str)) × (List Str) × (List Str) × Unit) (Pr : (List (Str × Str)) → Prop) (G0 H0 : Hp) (Q : VK) (hm : (fun z : Pl × (List (Str × Str)) × (List Str) × (List Str) × Unit => m_law_spoilt_fold z.2.1 z.2.2.1 z.2.2.2.1) z Pr) (hR : RtW ((fun z : Pl × (List (Str × Str)) × (List Str) × (List Str) × Unit => FP z.1) z) ⟨((fun z : Pl × (List (Str × Str)) × (List Str) × (List Str) × Unit => FP z.1) z).P, G0, H0⟩ (eD sK) Pr Q) :
    Tr ((fun z : Pl × (List (Str × Str)) × (List Str) × (List Str) × Unit => FP z.1) z) ⟨((fun z : Pl × (List (Str × Str)) × (List Str) × (List Str) × Unit => FP z.1) z).P, G0, H0⟩ (env0 ((fun z : Pl × (List (Str × Str)) × (List Str) × (List Str) × Unit => [poolK z.1, (eD sK) z.2.1, (eL sK) z.2.2.1, (eL sK) z.2.2.2.1]) z) 4) [] (t_law_spoilt_fold K P w) { nx := fun _ H' => Q .non H', rt := Q } := by
  obtain ⟨pl, fold_, movable_, words_, ⟨⟩⟩ := z
  have hm : m_law_spoilt_fold fold_ movable_ words_ Pr := hm
  have hR : RtW (FP pl) ⟨(FP pl).P, G0, H0⟩ (eD sK) Pr Q := hR
  show Tr (FP pl) ⟨(FP pl).P, G0, H0⟩ (env0 [poolK pl, (eD sK) fold_, (eL sK) movable_, (eL sK) words_] 4) [] (t_law_spoilt_fold K P w) { nx := fun _ H' => Q .non H', rt := Q }
  unfold m_law_spoilt_fold at hm
  unfold t_law_spoilt_fold
  refine v_asg (f := (eL sK)) hm (n_eL (n_keys (f := sK) (dd := (fun x => x)) (x_var (f := (eD sK)) (a := fold_) rfl) (fun _ => drd_eD))) fun v2 hm => ?_
  refine v_asg (f := iK) hm (x_pick (x_pool rfl) x_int) fun v3 hm => ?_
  refine v_new hm (n_dnew (f := sK)) fun v4 o5 hn_o5 hm => ?_
  refine v_for (f := sK) (s0 := v4) (fun s7 : (List (Str × Str)) => ([some (poolK pl), some ((eD sK) fold_), some ((eL sK) movable_), some ((eL sK) words_), some ((eL sK) v2), some (iK v3), some (valK (.ref o5)), none], [(o5, moD sK s7)])) (fun _ _ => _) hm (i_eL (f := sK) (n_eL (n_revL (f := sK) (x_var (f := (eL sK)) (a := v2) rfl)))) (.keep (.keep (.keep (.keep (.keep (.keep (.keep (.drop .nil)))))))) rfl (fun _ _ => gk_name) (fun B11 l12 x14 s7 k8 N9 hN10 hB13 hm => ?_) (fun s7 hm => ?_)
  · refine w_dput (f := sK) 0 rfl hm (x_dgetV (f := sK) (dd := (fun x => x)) (x_var (f := (eD sK)) (a := fold_) rfl) (fun _ => drd_eD) (x_var (f := sK) (a := x14) rfl)) (x_own rfl) (x_var (f := sK) (a := x14) rfl) fun v17 hm => ?_
    exact w_next (s := v17) hN10 hm (.keep (.keep (.keep (.keep (.keep (.keep (.keep (.drop .nil))))))))
  · refine v_join (fun s23 : (List (Str × Str)) => ([some (poolK pl), some ((eD sK) fold_), some ((eL sK) movable_), some ((eL sK) words_), some ((eL sK) v2), some (iK v3), some (valK (.ref o5)), none], [(o5, moD sK s23)])) hm (fun N25 k24 hN26 hm => ?_) (fun s23 hm => ?_)
    · refine w_if hm (t_test (x_op (x_var (f := iK) (a := v3) rfl) x_int fun _ _ => r_eqI)) (fun hm => ?_) (fun hm => ?_)
      · refine v_asg (f := sK) hm (x_one (f := sK) (x_pool rfl) (n_eL (n_lst (f := sK) (h := (fun z : Str × Str × Str × Str × Unit => [z.1, z.2.1, z.2.2.1, z.2.2.2.1])) (a_cons (fa := sK) x_str (a_cons (fa := sK) x_str (a_cons (fa := sK) x_str (a_cons (fa := sK) (x_op (x_var (f := (eL sK)) (a := words_) rfl) x_int fun _ _ => r_ixL (f := sK)) a_nil)))) (fun _ => rfl) (fun _ => by show 4 ≤ 1000; decide)))) fun v40 hm => ?_
        refine w_dput (f := sK) 0 rfl hm (x_one (f := sK) (x_pool rfl) (x_var (f := (eL sK)) (a := words_) rfl)) (x_own rfl) (x_var (f := sK) (a := v40) rfl) fun v41 hm => ?_
        exact w_next (s := v41) hN26 hm (.keep (.keep (.keep (.keep (.keep (.keep (.keep (.drop .nil))))))))
      · refine w_if hm (t_test (x_op (x_var (f := (eL sK)) (a := v2) rfl) (n_eL n_nil) fun _ _ => r_neD (dt_list (dt_str (K := K))))) (fun hm => ?_) (fun hm => ?_)
        · refine v_asg (f := sK) hm (x_one (f := sK) (x_pool rfl) (x_var (f := (eL sK)) (a := v2) rfl)) fun v47 hm => ?_
          refine w_if hm (t_test (x_op (x_var (f := iK) (a := v3) rfl) x_int fun _ _ => r_ltI)) (fun hm => ?_) (fun hm => ?_)
          · refine w_dput (f := sK) 0 rfl hm (x_one (f := sK) (x_pool rfl) (n_eL (n_catL (f := sK) (n_eL (n_catL (f := sK) (x_var (f := (eL sK)) (a := words_) rfl) (x_var (f := (eL sK)) (a := movable_) rfl))) (n_eL (n_lst (f := sK) (h := (fun z : Str × Unit => [z.1])) (a_cons (fa := sK) x_str a_nil) (fun _ => rfl) (fun _ => by show 1 ≤ 1000; decide)))))) (x_own rfl) (x_var (f := sK) (a := v47) rfl) fun v57 hm => ?_
            exact w_next (s := v57) hN26 hm (.keep (.keep (.keep (.keep (.keep (.keep (.keep (.drop .nil))))))))
          · refine w_if hm (t_test (x_op (x_var (f := iK) (a := v3) rfl) x_int fun _ _ => r_eqI)) (fun hm => ?_) (fun hm => ?_)
            · refine w_dpop (f := sK) 0 rfl hm (x_own rfl) (x_var (f := sK) (a := v47) rfl) fun v63 hm => ?_
              exact w_next (s := v63) hN26 hm (.keep (.keep (.keep (.keep (.keep (.keep (.keep (.drop .nil))))))))
            · refine t_next ?_
              exact w_next (s := s7) hN26 hm (.keep (.keep (.keep (.keep (.keep (.keep (.keep (.drop .nil))))))))
        · refine t_next ?_
          exact w_next (s := s7) hN26 hm (.keep (.keep (.keep (.keep (.keep (.keep (.keep (.drop .nil))))))))
    · refine to_fzD (f := sK) 0 6 rfl rfl hn_o5 ?_
      exact w_ret (fr := (eD sK)) hR hm (x_var (f := (eD sK)) (a := s23) rfl)
theorem r_law_folds_hold {K : PySem.W.Frag} {P : Program} {w : World} (z : Pl × (List (List Str)) × (List (List Str)) × (List (Str × Str)) × (List Str) × (List Str) × Unit) (Pr : Bool → Prop) (G0 H0 : Hp) (Q : VK) (hm : (fun z : Pl × (List (List Str)) × (List (List Str)) × (List (Str × Str)) × (List Str) × (List Str) × Unit => m_law_folds_hold z.2.1 z.2.2.1 z.2.2.2.1 z.2.2.2.2.1 z.2.2.2.2.2.1) z Pr) (hR : RtW ((fun z : Pl × (List (List Str)) × (List (List Str)) × (List (Str × Str)) × (List Str) × (List Str) × Unit => FP z.1) z) ⟨((fun z : Pl × (List (List Str)) × (List (List Str)) × (List (Str × Str)) × (List Str) × (List Str) × Unit => FP z.1) z).P, G0, H0⟩ bK Pr Q) :
    Tr ((fun z : Pl × (List (List Str)) × (List (List Str)) × (List (Str × Str)) × (List Str) × (List Str) × Unit => FP z.1) z) ⟨((fun z : Pl × (List (List Str)) × (List (List Str)) × (List (Str × Str)) × (List Str) × (List Str) × Unit => FP z.1) z).P, G0, H0⟩ (env0 ((fun z : Pl × (List (List Str)) × (List (List Str)) × (List (Str × Str)) × (List Str) × (List Str) × Unit => [poolK z.1, (eL eR) z.2.1, (eL eR) z.2.2.1, (eD sK) z.2.2.2.1, (eL sK) z.2.2.2.2.1, (eL sK) z.2.2.2.2.2.1]) z) 6) [] (t_law_folds_hold K P w) { nx := fun _ H' => Q .non H', rt := Q } := by
  obtain ⟨pl, small_, big_, hidden_, movable_, words_, ⟨⟩⟩ := z
  have hm : m_law_folds_hold small_ big_ hidden_ movable_ words_ Pr := hm
  have hR : RtW (FP pl) ⟨(FP pl).P, G0, H0⟩ bK Pr Q := hR
  show Tr (FP pl) ⟨(FP pl).P, G0, H0⟩ (env0 [poolK pl, (eL eR) small_, (eL eR) big_, (eD sK) hidden_, (eL sK) movable_, (eL sK) words_] 6) [] (t_law_folds_hold K P w) { nx := fun _ H' => Q .non H', rt := Q }
  unfold m_law_folds_hold at hm
  unfold t_law_folds_hold
  refine v_new hm (n_dnew (f := sK)) fun v1 o2 hn_o2 hm => ?_
  refine v_for (f := sK) (s0 := v1) (fun s6 : (List (Str × Str)) => ([some (poolK pl), some ((eL eR) small_), some ((eL eR) big_), some ((eD sK) hidden_), some ((eL sK) movable_), some ((eL sK) words_), some (valK (.ref o2)), none, none, none, none, none], [(o2, moD sK s6)])) (fun _ _ => _) hm (i_eL (f := sK) (x_callI (a_cons (fa := (eL eR)) (x_var (f := (eL eR)) (a := small_) rfl) a_nil) (fun _ => rfl))) (.keep (.keep (.keep (.keep (.keep (.keep (.keep (.drop (.drop (.drop (.drop (.drop .nil)))))))))))) rfl (fun _ _ => gk_name) (fun B10 l11 x13 s6 k7 N8 hN9 hB12 hm => ?_) (fun s6 hm => ?_)
  · refine w_dput (f := sK) 0 rfl hm (x_dgetV (f := sK) (dd := (fun x => x)) (x_var (f := (eD sK)) (a := hidden_) rfl) (fun _ => drd_eD) (x_var (f := sK) (a := x13) rfl)) (x_own rfl) (x_var (f := sK) (a := x13) rfl) fun v16 hm => ?_
    exact w_next (s := v16) hN9 hm (.keep (.keep (.keep (.keep (.keep (.keep (.keep (.drop (.drop (.drop (.drop (.drop .nil))))))))))))
  · refine to_fzD (f := sK) 0 6 rfl rfl hn_o2 ?_
    refine v_when hm (t_not (t_B (x_callI (a_cons (fa := (eL eR)) (x_var (f := (eL eR)) (a := small_) rfl) (a_cons (fa := (eL eR)) (x_var (f := (eL eR)) (a := big_) rfl) (a_cons (fa := (eD sK)) (x_var (f := (eD sK)) (a := s6) rfl) a_nil))) (fun _ => rfl)))) (fun hm => ?_) (fun hm => ?_)
    · exact w_ret (fr := bK) hR hm x_bl
    · refine v_for (f := iK) (s0 := ()) (fun s32 : Unit => ([some (poolK pl), some ((eL eR) small_), some ((eL eR) big_), some ((eD sK) hidden_), some ((eL sK) movable_), some ((eL sK) words_), some ((eD sK) s6), none, none, none, none, none], [])) (fun _ _ => _) hm (i_rng1 x_int) (.keep (.keep (.keep (.keep (.keep (.keep (.keep (.drop (.drop (.drop (.drop (.drop .nil)))))))))))) rfl (fun _ _ => gk_name) (fun B36 l37 x39 s32 k33 N34 hN35 hB38 hm => ?_) (fun s32 hm => ?_)
      · refine v_asg (f := (eD sK)) hm (x_callP (a_cons (fa := (fun _ => poolK pl)) (x_pool rfl) (a_cons (fa := (eD sK)) (x_var (f := (eD sK)) (a := s6) rfl) (a_cons (fa := (eL sK)) (x_var (f := (eL sK)) (a := movable_) rfl) (a_cons (fa := (eL sK)) (x_var (f := (eL sK)) (a := words_) rfl) a_nil)))) (fun _ => rfl)) fun v49 hm => ?_
        refine w_if hm (t_not (t_B (x_callI (a_cons (fa := (eL eR)) (x_var (f := (eL eR)) (a := small_) rfl) (a_cons (fa := (eL eR)) (x_var (f := (eL eR)) (a := big_) rfl) (a_cons (fa := (eD sK)) (x_var (f := (eD sK)) (a := v49) rfl) a_nil))) (fun _ => rfl)))) (fun hm => ?_) (fun hm => ?_)
        · exact w_ret (fr := bK) (Rt.up l37 hR) hm x_bl
        · refine t_next ?_
          exact w_next (s := ()) hN35 hm (.keep (.keep (.keep (.keep (.keep (.keep (.keep (.drop (.drop (.drop (.drop (.drop .nil))))))))))))
      · refine v_asg (f := iK) hm (x_pick (x_pool rfl) (x_cb (a_cons (fa := (eL eR)) (x_var (f := (eL eR)) (a := big_) rfl) a_nil) fun _ => c_lenL (f := eR))) fun v62 hm => ?_
        refine v_asg (f := (eL eR)) hm (n_eL (n_catL (f := eR) (n_eL (n_slL (f := eR) (x_var (f := (eL eR)) (a := big_) rfl) o_none (o_some (x_var (f := iK) (a := v62) rfl)))) (n_eL (n_slL (f := eR) (x_var (f := (eL eR)) (a := big_) rfl) (o_some (x_op (x_var (f := iK) (a := v62) rfl) x_int fun _ _ => r_addI)) o_none)))) fun v75 hm => ?_
        exact w_ret (fr := bK) hR hm (x_andV (x_callI (a_cons (fa := (eL eR)) (x_var (f := (eL eR)) (a := small_) rfl) (a_cons (fa := (eL eR)) (x_var (f := (eL eR)) (a := v75) rfl) (a_cons (fa := (eD sK)) (x_var (f := (eD sK)) (a := s6) rfl) a_nil))) (fun _ => rfl)) (x_callI (a_cons (fa := (eL eR)) (n_eL n_nil) (a_cons (fa := (eL eR)) (x_var (f := (eL eR)) (a := v75) rfl) (a_cons (fa := (eD sK)) (n_eD n_dnew) a_nil))) (fun _ => rfl)))
end K10
end
section
set_option maxRecDepth 100000
set_option maxHeartbeats 4000000
namespace K10
open PySem L2 Sx Dl

theorem r_law_closed_due {K : PySem.W.Frag} {P : Program} {w : World} (z : (List (List Str)) × (List (List Str)) × (List (List Str)) × (List (Str × Str)) × Unit) (Pr : Bool → Prop) (G0 H0 : Hp) (Q : VK) (hm : (fun z : (List (List Str)) × (List (List Str)) × (List (List Str)) × (List (Str × Str)) × Unit => m_law_closed_due z.1 z.2.1 z.2.2.1 z.2.2.2.1) z Pr) (hR : RtW ((fun _ : (List (List Str)) × (List (List Str)) × (List (List Str)) × (List (Str × Str)) × Unit => F0) z) ⟨((fun _ : (List (List Str)) × (List (List Str)) × (List (List Str)) × (List (Str × Str)) × Unit => F0) z).P, G0, H0⟩ bK Pr Q) :
    Tr ((fun _ : (List (List Str)) × (List (List Str)) × (List (List Str)) × (List (Str × Str)) × Unit => F0) z) ⟨((fun _ : (List (List Str)) × (List (List Str)) × (List (List Str)) × (List (Str × Str)) × Unit => F0) z).P, G0, H0⟩ (env0 ((fun z : (List (List Str)) × (List (List Str)) × (List (List Str)) × (List (Str × Str)) × Unit => [(eL eR) z.1, (eL eR) z.2.1, (eL eR) z.2.2.1, (eD sK) z.2.2.2.1]) z) 5) [] (t_law_closed_due K P w) { nx := fun _ H' => Q .non H', rt := Q } := by
  obtain ⟨small_, big_, rows_, setting_, ⟨⟩⟩ := z
  have hm : m_law_closed_due small_ big_ rows_ setting_ Pr := hm
  have hR : RtW (F0) ⟨(F0).P, G0, H0⟩ bK Pr Q := hR
  show Tr (F0) ⟨(F0).P, G0, H0⟩ (env0 [(eL eR) small_, (eL eR) big_, (eL eR) rows_, (eD sK) setting_] 5) [] (t_law_closed_due K P w) { nx := fun _ H' => Q .non H', rt := Q }
  unfold m_law_closed_due at hm
  unfold t_law_closed_due
  refine v_asg (f := (eL eR)) hm (x_cb (a_cons (fa := (eRS P w)) (x_cb (a_cons (fa := (eL eR)) (x_var (f := (eL eR)) (a := big_) rfl) a_nil) fun _ => c_setRL) a_nil) fun _ => c_sortR) fun v7 hm => ?_
  refine v_asg (f := (eL (eD sK))) hm (n_eL (n_lst (f := (eD sK)) (h := (fun z : (List (Str × Str)) × Unit => [z.1])) (a_cons (fa := (eD sK)) (n_eD (n_dcopy (f := sK) (dd := (fun x => x)) (x_var (f := (eD sK)) (a := setting_) rfl) (fun _ => drd_eD))) a_nil) (fun _ => rfl) (fun _ => by show 1 ≤ 1000; decide))) fun v11 hm => ?_
  refine v_for (f := eR) (s0 := v11) (fun s12 : (List (List (Str × Str))) => ([some ((eL eR) small_), some ((eL eR) big_), some ((eL eR) rows_), some ((eD sK) setting_), some ((eL eR) v7), some ((eL (eD sK)) s12), none, none, none], [])) (fun _ _ => _) hm (i_eL (f := eR) (x_var (f := (eL eR)) (a := rows_) rfl)) (.keep (.keep (.keep (.keep (.keep (.keep (.drop (.drop (.drop .nil))))))))) rfl (fun _ _ => gk_name) (fun B16 l17 x19 s12 k13 N14 hN15 hB18 hm => ?_) (fun s12 hm => ?_)
  · refine v_when hm (t_or (t_test (x_eqE (f := (eD sK)) (x_var (f := (eL (eD sK))) (a := s12) rfl))) (t_test (x_op (x_var (f := eR) (a := x19) rfl) (x_var (f := (eL eR)) (a := small_) rfl) fun _ _ => r_niD (dt_row (K := K))))) (fun hm => ?_) (fun hm => ?_)
    · exact w_ret (fr := bK) (Rt.up l17 hR) hm x_bl
    · refine v_asg (f := (eD sK)) hm (x_op (x_var (f := (eL (eD sK))) (a := s12) rfl) (x_neg x_int) fun _ _ => r_ixL (f := (eD sK))) fun v29 hm => ?_
      refine v_new hm (n_slL (f := (eD sK)) (x_var (f := (eL (eD sK))) (a := s12) rfl) o_none (o_some (x_neg x_int))) fun v35 o36 hn_o36 hm => ?_
      refine w_for (f := eR) (s0 := v35) (fun s38 : (List (List (Str × Str))) => ([some ((eL eR) small_), some ((eL eR) big_), some ((eL eR) rows_), some ((eD sK) setting_), some ((eL eR) v7), some (valK (.ref o36)), some (eR x19), some ((eD sK) v29), none], [(o36, .lst (s38.map (eD sK)))])) (fun _ _ => _) hm (i_eL (f := eR) (n_eL (n_revL (f := eR) (x_var (f := (eL eR)) (a := v7) rfl)))) (.keep (.keep (.keep (.keep (.keep (.keep (.keep (.keep (.drop .nil))))))))) rfl (fun _ _ => gk_name) (fun B42 l43 x45 s38 k39 N40 hN41 hB44 hm => ?_) (fun s38 hm => ?_)
      · refine w_if hm (t_B (x_callI (a_cons (fa := eR) (x_var (f := eR) (a := x19) rfl) (a_cons (fa := eR) (x_var (f := eR) (a := x45) rfl) (a_cons (fa := (eD sK)) (x_var (f := (eD sK)) (a := v29) rfl) a_nil))) (fun _ => rfl))) (fun hm => ?_) (fun hm => ?_)
        · refine w_app (f := (eD sK)) 0 rfl hm (x_own rfl) (x_callI (a_cons (fa := eR) (x_var (f := eR) (a := x19) rfl) (a_cons (fa := eR) (x_var (f := eR) (a := x45) rfl) (a_cons (fa := (eD sK)) (x_var (f := (eD sK)) (a := v29) rfl) a_nil))) (fun _ => rfl)) fun v61 hm => ?_
          exact w_next (s := v61) hN41 hm (.keep (.keep (.keep (.keep (.keep (.keep (.keep (.keep (.drop .nil)))))))))
        · refine t_next ?_
          exact w_next (s := s38) hN41 hm (.keep (.keep (.keep (.keep (.keep (.keep (.keep (.keep (.drop .nil)))))))))
      · refine to_fz (f := (eD sK)) 0 5 rfl rfl hn_o36 ?_
        exact w_next (s := s38) hN15 hm (.keep (.keep (.keep (.keep (.keep (.keep (.drop (.drop (.drop .nil)))))))))
  · exact w_ret (fr := bK) hR hm (x_eqE (f := (eD sK)) (x_var (f := (eL (eD sK))) (a := s12) rfl))
theorem r_law_closed_holds {K : PySem.W.Frag} {P : Program} {w : World} (z : (List (List Str)) × (List (List Str)) × (List (List Str)) × (List (Str × Str)) × Unit) (Pr : Bool → Prop) (G0 H0 : Hp) (Q : VK) (hm : (fun z : (List (List Str)) × (List (List Str)) × (List (List Str)) × (List (Str × Str)) × Unit => m_law_closed_holds z.1 z.2.1 z.2.2.1 z.2.2.2.1) z Pr) (hR : RtW ((fun _ : (List (List Str)) × (List (List Str)) × (List (List Str)) × (List (Str × Str)) × Unit => F0) z) ⟨((fun _ : (List (List Str)) × (List (List Str)) × (List (List Str)) × (List (Str × Str)) × Unit => F0) z).P, G0, H0⟩ bK Pr Q) :
    Tr ((fun _ : (List (List Str)) × (List (List Str)) × (List (List Str)) × (List (Str × Str)) × Unit => F0) z) ⟨((fun _ : (List (List Str)) × (List (List Str)) × (List (List Str)) × (List (Str × Str)) × Unit => F0) z).P, G0, H0⟩ (env0 ((fun z : (List (List Str)) × (List (List Str)) × (List (List Str)) × (List (Str × Str)) × Unit => [(eL eR) z.1, (eL eR) z.2.1, (eL eR) z.2.2.1, (eD sK) z.2.2.2.1]) z) 7) [] (t_law_closed_holds K P w) { nx := fun _ H' => Q .non H', rt := Q } := by
  obtain ⟨small_, big_, rows_, setting_, ⟨⟩⟩ := z
  have hm : m_law_closed_holds small_ big_ rows_ setting_ Pr := hm
  have hR : RtW (F0) ⟨(F0).P, G0, H0⟩ bK Pr Q := hR
  show Tr (F0) ⟨(F0).P, G0, H0⟩ (env0 [(eL eR) small_, (eL eR) big_, (eL eR) rows_, (eD sK) setting_] 7) [] (t_law_closed_holds K P w) { nx := fun _ H' => Q .non H', rt := Q }
  unfold m_law_closed_holds at hm
  unfold t_law_closed_holds
  refine v_asg (f := bK) hm (x_callI (a_cons (fa := (eL eR)) (x_var (f := (eL eR)) (a := small_) rfl) (a_cons (fa := (eL eR)) (x_var (f := (eL eR)) (a := big_) rfl) (a_cons (fa := (eL eR)) (x_var (f := (eL eR)) (a := rows_) rfl) (a_cons (fa := (eD sK)) (x_var (f := (eD sK)) (a := setting_) rfl) a_nil)))) (fun _ => rfl)) fun v10 hm => ?_
  refine v_asg (f := (eL eR)) hm (n_eL (n_listL (f := eR) (x_var (f := (eL eR)) (a := small_) rfl))) fun v14 hm => ?_
  refine v_asg (f := (eL eR)) hm (n_eL (n_listL (f := eR) (x_var (f := (eL eR)) (a := big_) rfl))) fun v18 hm => ?_
  refine v_asg (f := (eL eR)) hm (n_eL (n_listL (f := eR) (x_var (f := (eL eR)) (a := rows_) rfl))) fun v22 hm => ?_
  refine v_asg (f := (eD sK)) hm (n_eD (n_dcopy (f := sK) (dd := (fun x => x)) (x_var (f := (eD sK)) (a := setting_) rfl) (fun _ => drd_eD))) fun v24 hm => ?_
  refine v_asg (f := bK) hm (x_callI (a_cons (fa := (eS K eR)) (x_sqL (x_var (f := (eL eR)) (a := v14) rfl)) (a_cons (fa := (eS K eR)) (x_sqL (x_var (f := (eL eR)) (a := v18) rfl)) (a_cons (fa := (eS K eR)) (x_sqL (x_var (f := (eL eR)) (a := v22) rfl)) (a_cons (fa := (eO (eD sK))) (x_someO (x_var (f := (eD sK)) (a := v24) rfl)) a_nil)))) (fun _ => rfl)) fun v34 hm => ?_
  refine v_when hm (t_or (t_test (x_op (x_var (f := (eL eR)) (a := v14) rfl) (x_var (f := (eL eR)) (a := small_) rfl) fun _ _ => r_neD (dt_list (dt_row (K := K))))) (t_test (x_op (x_var (f := (eL eR)) (a := v18) rfl) (x_var (f := (eL eR)) (a := big_) rfl) fun _ _ => r_neD (dt_list (dt_row (K := K)))))) (fun hm => ?_) (fun hm => ?_)
  · exact w_ret (fr := bK) hR hm x_bl
  · refine v_when hm (t_or (t_test (x_op (x_var (f := (eL eR)) (a := v22) rfl) (x_var (f := (eL eR)) (a := rows_) rfl) fun _ _ => r_neD (dt_list (dt_row (K := K))))) (t_test (x_op (x_var (f := (eD sK)) (a := v24) rfl) (x_var (f := (eD sK)) (a := setting_) rfl) fun _ _ => r_dNe))) (fun hm => ?_) (fun hm => ?_)
    · exact w_ret (fr := bK) hR hm x_bl
    · refine v_when hm (t_or (t_test (x_op (x_op (x_var (f := bK) (a := v34) rfl) x_bl fun _ _ => r_isB) (x_var (f := bK) (a := v10) rfl) fun _ _ => r_neB)) (t_test (x_op (x_op (x_var (f := bK) (a := v34) rfl) x_bl fun _ _ => r_isB) (x_var (f := bK) (a := v10) rfl) fun _ _ => r_eqB))) (fun hm => ?_) (fun hm => ?_)
      · exact w_ret (fr := bK) hR hm x_bl
      · refine v_asg (f := (eT K eR)) hm (x_tupL (f := eR) (n_eL (n_catL (f := eR) (n_eL (n_revL (f := eR) (x_var (f := (eL eR)) (a := big_) rfl))) (x_var (f := (eL eR)) (a := big_) rfl)))) fun v63 hm => ?_
        refine v_join (fun s67 : Bool => ([some ((eL eR) small_), some ((eL eR) big_), some ((eL eR) rows_), some ((eD sK) setting_), some (bK v10), some ((eL eR) v14), some ((eL eR) v18), some ((eL eR) v22), some ((eD sK) v24), some (bK s67), some ((eT K eR) v63)], [])) hm (fun N69 k68 hN70 hm => ?_) (fun s67 hm => ?_)
        · refine w_if hm (t_test (x_op (x_var (f := (eD sK)) (a := setting_) rfl) (n_eD n_dnew) fun _ _ => r_dEq)) (fun hm => ?_) (fun hm => ?_)
          · refine w_asg (f := bK) hm (x_callK0 (fun z : (Bool × List (List Str)) × (Bool × List (List Str)) × (Bool × List (List Str)) × Unit => (z.2.1, z.1, z.2.2.1, none, ())) (fun _ => rfl) (a_cons (fa := (eS K eR)) (x_sqT (x_var (f := (eT K eR)) (a := v63) rfl)) (a_cons (fa := (eS K eR)) (x_sqL (x_var (f := (eL eR)) (a := v14) rfl)) (a_cons (fa := (eS K eR)) (x_sqL (x_var (f := (eL eR)) (a := v22) rfl)) a_nil))) (fun _ _ _ r => ag_cl1 r)) fun v81 hm => ?_
            exact w_next (s := v81) hN70 hm (.keep (.keep (.keep (.keep (.keep (.keep (.keep (.keep (.keep (.keep (.keep .nil)))))))))))
          · refine w_asg (f := bK) hm (x_callN0 (fun (y : (Bool × List (List Str)) × (Bool × List (List Str)) × (Bool × List (List Str)) × Unit) (z : (Option (List (Str × Str))) × Unit) => (y.1, y.2.1, y.2.2.1, z.1, ())) (fun _ => rfl) (a_cons (fa := (eS K eR)) (x_sqT (x_tupL (f := eR) (x_var (f := (eL eR)) (a := small_) rfl))) (a_cons (fa := (eS K eR)) (x_sqT (x_var (f := (eT K eR)) (a := v63) rfl)) (a_cons (fa := (eS K eR)) (x_sqT (x_tupL (f := eR) (x_var (f := (eL eR)) (a := rows_) rfl))) a_nil))) (a_cons (fa := (eO (eD sK))) (x_someO (x_var (f := (eD sK)) (a := v24) rfl)) a_nil) (fun _ => rfl) (fun _ => rfl) (fun _ _ _ _ _ r s => ag_cl2 r s)) fun v96 hm => ?_
            exact w_next (s := v96) hN70 hm (.keep (.keep (.keep (.keep (.keep (.keep (.keep (.keep (.keep (.keep (.keep .nil)))))))))))
        · exact w_ret (fr := bK) hR hm (x_andV (x_op (x_op (x_var (f := bK) (a := s67) rfl) x_bl fun _ _ => r_isB) (x_var (f := bK) (a := v10) rfl) fun _ _ => r_eqB) (x_op (x_op (x_var (f := bK) (a := s67) rfl) x_bl fun _ _ => r_isB) (x_var (f := bK) (a := v10) rfl) fun _ _ => r_neB))
theorem r_law_closed_rows {K : PySem.W.Frag} {P : Program} {w : World} (z : (List (List Str)) × (List (List Str)) × (List (Str × Str)) × Unit) (Pr : (List (List Str)) → Prop) (G0 H0 : Hp) (Q : VK) (hm : (fun z : (List (List Str)) × (List (List Str)) × (List (Str × Str)) × Unit => m_law_closed_rows z.1 z.2.1 z.2.2.1) z Pr) (hR : RtW ((fun _ : (List (List Str)) × (List (List Str)) × (List (Str × Str)) × Unit => F0) z) ⟨((fun _ : (List (List Str)) × (List (List Str)) × (List (Str × Str)) × Unit => F0) z).P, G0, H0⟩ (eL eR) Pr Q) :
    Tr ((fun _ : (List (List Str)) × (List (List Str)) × (List (Str × Str)) × Unit => F0) z) ⟨((fun _ : (List (List Str)) × (List (List Str)) × (List (Str × Str)) × Unit => F0) z).P, G0, H0⟩ (env0 ((fun z : (List (List Str)) × (List (List Str)) × (List (Str × Str)) × Unit => [(eL eR) z.1, (eL eR) z.2.1, (eD sK) z.2.2.1]) z) 8) [] (t_law_closed_rows K P w) { nx := fun _ H' => Q .non H', rt := Q } := by
  obtain ⟨big_, order_, setting_, ⟨⟩⟩ := z
  have hm : m_law_closed_rows big_ order_ setting_ Pr := hm
  have hR : RtW (F0) ⟨(F0).P, G0, H0⟩ (eL eR) Pr Q := hR
  show Tr (F0) ⟨(F0).P, G0, H0⟩ (env0 [(eL eR) big_, (eL eR) order_, (eD sK) setting_] 8) [] (t_law_closed_rows K P w) { nx := fun _ H' => Q .non H', rt := Q }
  unfold m_law_closed_rows at hm
  unfold t_law_closed_rows
  refine v_asg (f := (eL eR)) hm (x_cb (a_cons (fa := (eRS P w)) (x_cb (a_cons (fa := (eL eR)) (x_var (f := (eL eR)) (a := big_) rfl) a_nil) fun _ => c_setRL) a_nil) fun _ => c_sortR) fun v7 hm => ?_
  refine v_asg (f := (eL (eP K iK (eD sK)))) hm (n_eL (n_lst (f := (eP K iK (eD sK))) (h := (fun z : (Int × (List (Str × Str))) × Unit => [z.1])) (a_cons (fa := (eP K iK (eD sK))) (x_tup2 (f := iK) (g := (eD sK)) x_int (n_eD (n_dcopy (f := sK) (dd := (fun x => x)) (x_var (f := (eD sK)) (a := setting_) rfl) (fun _ => drd_eD)))) a_nil) (fun _ => rfl) (fun _ => by show 1 ≤ 1000; decide))) fun v17 hm => ?_
  refine v_new hm (n_nil (f := eR)) fun v18 o19 hn_o19 hm => ?_
  refine v_for (f := iK) (s0 := (v17, v18)) (fun s24 : (List (Int × (List (Str × Str)))) × (List (List Str)) => ([some ((eL eR) big_), some ((eL eR) order_), some ((eD sK) setting_), some ((eL eR) v7), some ((eL (eP K iK (eD sK))) s24.1), some (valK (.ref o19)), none, none, none, none, none], [(o19, .lst (s24.2.map eR))])) (fun _ _ => _) hm (i_rng1 x_int) (.keep (.keep (.keep (.keep (.keep (.keep (.drop (.drop (.drop (.drop (.drop .nil))))))))))) rfl (fun _ _ => gk_name) (fun B28 l29 x31 s24 k25 N26 hN27 hB30 hm => ?_) (fun s24 hm => ?_)
  · refine v_when hm (t_test (x_eqE (f := (eP K iK (eD sK))) (x_var (f := (eL (eP K iK (eD sK)))) (a := s24.1) rfl))) (fun hm => ?_) (fun hm => ?_)
    · refine To.up l29 ?_
      refine to_fz (f := eR) 0 5 rfl rfl hn_o19 ?_
      exact w_ret (fr := (eL eR)) hR hm (x_var (f := (eL eR)) (a := s24.2) rfl)
    · refine v_tgt (f := (eP K iK (eD sK))) (dl := fun _ => _) hm (x_op (x_var (f := (eL (eP K iK (eD sK)))) (a := s24.1) rfl) (x_neg x_int) fun _ _ => r_ixL (f := (eP K iK (eD sK)))) (fun _ => g_pair) fun v38 hm => ?_
      refine v_new hm (n_slL (f := (eP K iK (eD sK))) (x_var (f := (eL (eP K iK (eD sK)))) (a := s24.1) rfl) o_none (o_some (x_neg x_int))) fun v44 o45 hn_o45 hm => ?_
      refine v_asg (f := eR) hm (x_op (x_var (f := (eL eR)) (a := order_) rfl) (x_var (f := iK) (a := v38.1) rfl) fun _ _ => r_ixL (f := eR)) fun v48 hm => ?_
      refine v_app (f := eR) 1 rfl hm (x_own rfl) (x_var (f := eR) (a := v48) rfl) fun v49 hm => ?_
      refine w_for (f := eR) (s0 := v44) (fun s52 : (List (Int × (List (Str × Str)))) => ([some ((eL eR) big_), some ((eL eR) order_), some ((eD sK) setting_), some ((eL eR) v7), some (valK (.ref o45)), some (valK (.ref o19)), some (iK x31), some (iK v38.1), some ((eD sK) v38.2), some (eR v48), none], [(o45, .lst (s52.map (eP K iK (eD sK)))), (o19, .lst (v49.map eR))])) (fun _ _ => _) hm (i_eL (f := eR) (n_eL (n_revL (f := eR) (x_var (f := (eL eR)) (a := v7) rfl)))) (.keep (.keep (.keep (.keep (.keep (.keep (.keep (.keep (.keep (.keep (.drop .nil))))))))))) rfl (fun _ _ => gk_name) (fun B56 l57 x59 s52 k53 N54 hN55 hB58 hm => ?_) (fun s52 hm => ?_)
      · refine w_if hm (t_B (x_callI (a_cons (fa := eR) (x_var (f := eR) (a := v48) rfl) (a_cons (fa := eR) (x_var (f := eR) (a := x59) rfl) (a_cons (fa := (eD sK)) (x_var (f := (eD sK)) (a := v38.2) rfl) a_nil))) (fun _ => rfl))) (fun hm => ?_) (fun hm => ?_)
        · refine w_app (f := (eP K iK (eD sK))) 0 rfl hm (x_own rfl) (x_tup2 (f := iK) (g := (eD sK)) (x_op (x_var (f := iK) (a := v38.1) rfl) x_int fun _ _ => r_addI) (x_callI (a_cons (fa := eR) (x_var (f := eR) (a := v48) rfl) (a_cons (fa := eR) (x_var (f := eR) (a := x59) rfl) (a_cons (fa := (eD sK)) (x_var (f := (eD sK)) (a := v38.2) rfl) a_nil))) (fun _ => rfl))) fun v83 hm => ?_
          exact w_next (s := v83) hN55 hm (.keep (.keep (.keep (.keep (.keep (.keep (.keep (.keep (.keep (.keep (.drop .nil)))))))))))
        · refine t_next ?_
          exact w_next (s := s52) hN55 hm (.keep (.keep (.keep (.keep (.keep (.keep (.keep (.keep (.keep (.keep (.drop .nil)))))))))))
      · refine to_fz (f := (eP K iK (eD sK))) 0 4 rfl rfl hn_o45 ?_
        exact w_next (s := (s52, v49)) hN27 hm (.keep (.keep (.keep (.keep (.keep (.keep (.drop (.drop (.drop (.drop (.drop .nil)))))))))))
  · refine to_fz (f := eR) 0 5 rfl rfl hn_o19 ?_
    exact w_ret (fr := (eL eR)) hR hm (x_var (f := (eL eR)) (a := s24.2) rfl)
theorem r_law_spoilt_rows {K : PySem.W.Frag} {P : Program} {w : World} (z : Pl × (List (List Str)) × (List (List Str)) × (List Str) × Unit) (Pr : (List (List Str)) → Prop) (G0 H0 : Hp) (Q : VK) (hm : (fun z : Pl × (List (List Str)) × (List (List Str)) × (List Str) × Unit => m_law_spoilt_rows z.2.1 z.2.2.1 z.2.2.2.1) z Pr) (hR : RtW ((fun z : Pl × (List (List Str)) × (List (List Str)) × (List Str) × Unit => FP z.1) z) ⟨((fun z : Pl × (List (List Str)) × (List (List Str)) × (List Str) × Unit => FP z.1) z).P, G0, H0⟩ (eL eR) Pr Q) :
    Tr ((fun z : Pl × (List (List Str)) × (List (List Str)) × (List Str) × Unit => FP z.1) z) ⟨((fun z : Pl × (List (List Str)) × (List (List Str)) × (List Str) × Unit => FP z.1) z).P, G0, H0⟩ (env0 ((fun z : Pl × (List (List Str)) × (List (List Str)) × (List Str) × Unit => [poolK z.1, (eL eR) z.2.1, (eL eR) z.2.2.1, eR z.2.2.2.1]) z) 6) [] (t_law_spoilt_rows K P w) { nx := fun _ H' => Q .non H', rt := Q } := by
  obtain ⟨pl, rows_, small_, spare_, ⟨⟩⟩ := z
  have hm : m_law_spoilt_rows rows_ small_ spare_ Pr := hm
  have hR : RtW (FP pl) ⟨(FP pl).P, G0, H0⟩ (eL eR) Pr Q := hR
  show Tr (FP pl) ⟨(FP pl).P, G0, H0⟩ (env0 [poolK pl, (eL eR) rows_, (eL eR) small_, eR spare_] 6) [] (t_law_spoilt_rows K P w) { nx := fun _ H' => Q .non H', rt := Q }
  unfold m_law_spoilt_rows at hm
  unfold t_law_spoilt_rows
  refine v_asg (f := iK) hm (x_pick (x_pool rfl) x_int) fun v1 hm => ?_
  refine v_asg (f := iK) hm (x_pick (x_pool rfl) (x_cb (a_cons (fa := (eL eR)) (x_var (f := (eL eR)) (a := rows_) rfl) a_nil) fun _ => c_lenL (f := eR))) fun v5 hm => ?_
  refine v_asg (f := eR) hm (x_one (f := eR) (x_pool rfl) (x_var (f := (eL eR)) (a := small_) rfl)) fun v6 hm => ?_
  refine v_asg (f := (eL eR)) hm (n_eL (n_slL (f := eR) (x_var (f := (eL eR)) (a := rows_) rfl) o_none (o_some (x_var (f := iK) (a := v5) rfl)))) fun v11 hm => ?_
  refine v_asg (f := (eL eR)) hm (n_eL (n_slL (f := eR) (x_var (f := (eL eR)) (a := rows_) rfl) (o_some (x_var (f := iK) (a := v5) rfl)) (o_some (x_op (x_var (f := iK) (a := v5) rfl) x_int fun _ _ => r_addI)))) fun v19 hm => ?_
  refine v_asg (f := (eL eR)) hm (n_eL (n_slL (f := eR) (x_var (f := (eL eR)) (a := rows_) rfl) (o_some (x_op (x_var (f := iK) (a := v5) rfl) x_int fun _ _ => r_addI)) o_none)) fun v26 hm => ?_
  refine v_when hm (t_test (x_op (x_var (f := iK) (a := v1) rfl) x_int fun _ _ => r_eqI)) (fun hm => ?_) (fun hm => ?_)
  · exact w_ret (fr := (eL eR)) hR hm (n_eL (n_catL (f := eR) (n_eL (n_catL (f := eR) (x_var (f := (eL eR)) (a := v11) rfl) (n_eL (n_lst (f := eR) (h := (fun z : (List Str) × Unit => [z.1])) (a_cons (fa := eR) (x_var (f := eR) (a := v6) rfl) a_nil) (fun _ => rfl) (fun _ => by show 1 ≤ 1000; decide))))) (x_var (f := (eL eR)) (a := v26) rfl)))
  · refine v_when hm (t_test (x_op (x_var (f := iK) (a := v1) rfl) x_int fun _ _ => r_eqI)) (fun hm => ?_) (fun hm => ?_)
    · exact w_ret (fr := (eL eR)) hR hm (n_eL (n_slL (f := eR) (x_var (f := (eL eR)) (a := rows_) rfl) o_none (o_some (x_neg x_int))))
    · refine v_when hm (t_test (x_op (x_var (f := iK) (a := v1) rfl) x_int fun _ _ => r_eqI)) (fun hm => ?_) (fun hm => ?_)
      · exact w_ret (fr := (eL eR)) hR hm (n_eL (n_catL (f := eR) (x_var (f := (eL eR)) (a := rows_) rfl) (n_eL (n_lst (f := eR) (h := (fun z : (List Str) × Unit => [z.1])) (a_cons (fa := eR) (x_var (f := eR) (a := v6) rfl) a_nil) (fun _ => rfl) (fun _ => by show 1 ≤ 1000; decide)))))
      · refine v_when hm (t_test (x_op (x_var (f := iK) (a := v1) rfl) x_int fun _ _ => r_eqI)) (fun hm => ?_) (fun hm => ?_)
        · exact w_ret (fr := (eL eR)) hR hm (n_eL (n_catL (f := eR) (n_eL (n_catL (f := eR) (n_eL (n_catL (f := eR) (x_var (f := (eL eR)) (a := v11) rfl) (n_eL (n_slL (f := eR) (x_var (f := (eL eR)) (a := v26) rfl) o_none (o_some x_int))))) (x_var (f := (eL eR)) (a := v19) rfl))) (n_eL (n_slL (f := eR) (x_var (f := (eL eR)) (a := v26) rfl) (o_some x_int) o_none))))
        · refine v_when hm (t_test (x_op (x_var (f := iK) (a := v1) rfl) x_int fun _ _ => r_eqI)) (fun hm => ?_) (fun hm => ?_)
          · exact w_ret (fr := (eL eR)) hR hm (n_eL (n_catL (f := eR) (n_eL (n_catL (f := eR) (x_var (f := (eL eR)) (a := v11) rfl) (n_eL (n_lst (f := eR) (h := (fun z : (List Str) × Unit => [z.1])) (a_cons (fa := eR) (x_var (f := eR) (a := spare_) rfl) a_nil) (fun _ => rfl) (fun _ => by show 1 ≤ 1000; decide))))) (x_var (f := (eL eR)) (a := v26) rfl)))
          · refine v_when hm (t_test (x_op (x_var (f := iK) (a := v1) rfl) x_int fun _ _ => r_eqI)) (fun hm => ?_) (fun hm => ?_)
            · exact w_ret (fr := (eL eR)) hR hm (n_eL (n_catL (f := eR) (x_var (f := (eL eR)) (a := v11) rfl) (x_var (f := (eL eR)) (a := v26) rfl)))
            · refine v_when hm (t_test (x_op (x_var (f := iK) (a := v1) rfl) x_int fun _ _ => r_eqI)) (fun hm => ?_) (fun hm => ?_)
              · exact w_ret (fr := (eL eR)) hR hm (n_eL (n_catL (f := eR) (n_eL (n_catL (f := eR) (n_eL (n_catL (f := eR) (x_var (f := (eL eR)) (a := v11) rfl) (x_var (f := (eL eR)) (a := v19) rfl))) (x_var (f := (eL eR)) (a := v19) rfl))) (x_var (f := (eL eR)) (a := v26) rfl)))
              · exact w_ret (fr := (eL eR)) hR hm (n_eL (n_catL (f := eR) (n_eL (n_catL (f := eR) (x_var (f := (eL eR)) (a := v19) rfl) (x_var (f := (eL eR)) (a := v26) rfl))) (x_var (f := (eL eR)) (a := v11) rfl)))
theorem r_law_lists_hold {K : PySem.W.Frag} {P : Program} {w : World} (z : Pl × (List (List Str)) × (List (List Str)) × (List Str) × (List Str) × (List (Str × Str)) × Unit) (Pr : Bool → Prop) (G0 H0 : Hp) (Q : VK) (hm : (fun z : Pl × (List (List Str)) × (List (List Str)) × (List Str) × (List Str) × (List (Str × Str)) × Unit => m_law_lists_hold z.2.1 z.2.2.1 z.2.2.2.1 z.2.2.2.2.1 z.2.2.2.2.2.1) z Pr) (hR : RtW ((fun z : Pl × (List (List Str)) × (List (List Str)) × (List Str) × (List Str) × (List (Str × Str)) × Unit => FP z.1) z) ⟨((fun z : Pl × (List (List Str)) × (List (List Str)) × (List Str) × (List Str) × (List (Str × Str)) × Unit => FP z.1) z).P, G0, H0⟩ bK Pr Q) :
    Tr ((fun z : Pl × (List (List Str)) × (List (List Str)) × (List Str) × (List Str) × (List (Str × Str)) × Unit => FP z.1) z) ⟨((fun z : Pl × (List (List Str)) × (List (List Str)) × (List Str) × (List Str) × (List (Str × Str)) × Unit => FP z.1) z).P, G0, H0⟩ (env0 ((fun z : Pl × (List (List Str)) × (List (List Str)) × (List Str) × (List Str) × (List (Str × Str)) × Unit => [poolK z.1, (eL eR) z.2.1, (eL eR) z.2.2.1, eR z.2.2.2.1, eR z.2.2.2.2.1, (eD sK) z.2.2.2.2.2.1]) z) 7) [] (t_law_lists_hold K P w) { nx := fun _ H' => Q .non H', rt := Q } := by
  obtain ⟨pl, small_, big_, strange_, spare_, setting_, ⟨⟩⟩ := z
  have hm : m_law_lists_hold small_ big_ strange_ spare_ setting_ Pr := hm
  have hR : RtW (FP pl) ⟨(FP pl).P, G0, H0⟩ bK Pr Q := hR
  show Tr (FP pl) ⟨(FP pl).P, G0, H0⟩ (env0 [poolK pl, (eL eR) small_, (eL eR) big_, eR strange_, eR spare_, (eD sK) setting_] 7) [] (t_law_lists_hold K P w) { nx := fun _ H' => Q .non H', rt := Q }
  unfold m_law_lists_hold at hm
  unfold t_law_lists_hold
  refine v_asg (f := iK) hm (x_pick (x_pool rfl) (x_op (x_cb (a_cons (fa := (eL eR)) (x_var (f := (eL eR)) (a := small_) rfl) a_nil) fun _ => c_lenL (f := eR)) x_int fun _ _ => r_addI)) fun v6 hm => ?_
  refine v_asg (f := (eL eR)) hm (n_eL (n_catL (f := eR) (n_eL (n_catL (f := eR) (n_eL (n_slL (f := eR) (x_var (f := (eL eR)) (a := small_) rfl) o_none (o_some (x_var (f := iK) (a := v6) rfl)))) (n_eL (n_lst (f := eR) (h := (fun z : (List Str) × Unit => [z.1])) (a_cons (fa := eR) (x_var (f := eR) (a := strange_) rfl) a_nil) (fun _ => rfl) (fun _ => by show 1 ≤ 1000; decide))))) (n_eL (n_slL (f := eR) (x_var (f := (eL eR)) (a := small_) rfl) (o_some (x_var (f := iK) (a := v6) rfl)) o_none)))) fun v21 hm => ?_
  refine v_join (fun s28 : (List (List Str)) => ([some (poolK pl), some ((eL eR) small_), some ((eL eR) big_), some (eR strange_), some (eR spare_), some ((eD sK) setting_), some (iK v6), some ((eL eR) s28), none, none, none, none, none], [])) hm (fun N30 k29 hN31 hm => ?_) (fun s28 hm => ?_)
  · refine w_if hm (t_and (t_test (x_op (x_var (f := (eL eR)) (a := small_) rfl) (n_eL n_nil) fun _ _ => r_neD (dt_list (dt_row (K := K))))) (t_test (x_op (x_pick (x_pool rfl) x_int) x_int fun _ _ => r_eqI))) (fun hm => ?_) (fun hm => ?_)
    · refine w_asg (f := (eL eR)) hm (n_eL (n_catL (f := eR) (n_eL (n_slL (f := eR) (x_var (f := (eL eR)) (a := v21) rfl) o_none (o_some x_int))) (x_var (f := (eL eR)) (a := v21) rfl))) fun v44 hm => ?_
      exact w_next (s := v44) hN31 hm (.keep (.keep (.keep (.keep (.keep (.keep (.keep (.keep (.drop (.drop (.drop (.drop (.drop .nil)))))))))))))
    · refine t_next ?_
      exact w_next (s := v21) hN31 hm (.keep (.keep (.keep (.keep (.keep (.keep (.keep (.keep (.drop (.drop (.drop (.drop (.drop .nil)))))))))))))
  · refine v_asg (f := (eL eR)) hm (n_eL (n_catL (f := eR) (x_var (f := (eL eR)) (a := small_) rfl) (n_eL (n_lst (f := eR) (h := (fun z : (List Str) × Unit => [z.1])) (a_cons (fa := eR) (x_var (f := eR) (a := strange_) rfl) a_nil) (fun _ => rfl) (fun _ => by show 1 ≤ 1000; decide))))) fun v49 hm => ?_
    refine v_asg (f := (eL eR)) hm (x_callI (a_cons (fa := (eL eR)) (x_var (f := (eL eR)) (a := big_) rfl) (a_cons (fa := (eL eR)) (x_var (f := (eL eR)) (a := s28) rfl) (a_cons (fa := (eD sK)) (x_var (f := (eD sK)) (a := setting_) rfl) a_nil))) (fun _ => rfl)) fun v57 hm => ?_
    refine v_when hm (t_not (t_B (x_callI (a_cons (fa := (eL eR)) (x_var (f := (eL eR)) (a := v49) rfl) (a_cons (fa := (eL eR)) (x_var (f := (eL eR)) (a := big_) rfl) (a_cons (fa := (eL eR)) (x_var (f := (eL eR)) (a := v57) rfl) (a_cons (fa := (eD sK)) (x_var (f := (eD sK)) (a := setting_) rfl) a_nil)))) (fun _ => rfl)))) (fun hm => ?_) (fun hm => ?_)
    · exact w_ret (fr := bK) hR hm x_bl
    · refine v_when hm (t_not (t_B (x_callI (a_cons (fa := (eL eR)) (x_var (f := (eL eR)) (a := v49) rfl) (a_cons (fa := (eL eR)) (x_var (f := (eL eR)) (a := big_) rfl) (a_cons (fa := (eL eR)) (n_eL n_nil) (a_cons (fa := (eD sK)) (x_var (f := (eD sK)) (a := setting_) rfl) a_nil)))) (fun _ => rfl)))) (fun hm => ?_) (fun hm => ?_)
      · exact w_ret (fr := bK) hR hm x_bl
      · refine v_for (f := iK) (s0 := ()) (fun s84 : Unit => ([some (poolK pl), some ((eL eR) small_), some ((eL eR) big_), some (eR strange_), some (eR spare_), some ((eD sK) setting_), some (iK v6), some ((eL eR) s28), some ((eL eR) v49), some ((eL eR) v57), none, none, none], [])) (fun _ _ => _) hm (i_rng1 x_int) (.keep (.keep (.keep (.keep (.keep (.keep (.keep (.keep (.keep (.keep (.drop (.drop (.drop .nil))))))))))))) rfl (fun _ _ => gk_name) (fun B88 l89 x91 s84 k85 N86 hN87 hB90 hm => ?_) (fun s84 hm => ?_)
        · refine v_asg (f := (eL eR)) hm (x_callP (a_cons (fa := (fun _ => poolK pl)) (x_pool rfl) (a_cons (fa := (eL eR)) (x_var (f := (eL eR)) (a := v57) rfl) (a_cons (fa := (eL eR)) (x_var (f := (eL eR)) (a := v49) rfl) (a_cons (fa := eR) (x_var (f := eR) (a := spare_) rfl) a_nil)))) (fun _ => rfl)) fun v101 hm => ?_
          refine w_if hm (t_not (t_B (x_callI (a_cons (fa := (eL eR)) (x_var (f := (eL eR)) (a := v49) rfl) (a_cons (fa := (eL eR)) (x_var (f := (eL eR)) (a := big_) rfl) (a_cons (fa := (eL eR)) (x_var (f := (eL eR)) (a := v101) rfl) (a_cons (fa := (eD sK)) (x_var (f := (eD sK)) (a := setting_) rfl) a_nil)))) (fun _ => rfl)))) (fun hm => ?_) (fun hm => ?_)
          · exact w_ret (fr := bK) (Rt.up l89 hR) hm x_bl
          · refine t_next ?_
            exact w_next (s := ()) hN87 hm (.keep (.keep (.keep (.keep (.keep (.keep (.keep (.keep (.keep (.keep (.drop (.drop (.drop .nil)))))))))))))
        · refine v_asg (f := (eL eR)) hm (n_eL (n_catL (f := eR) (x_var (f := (eL eR)) (a := big_) rfl) (n_eL (n_lst (f := eR) (h := (fun z : (List Str) × Unit => [z.1])) (a_cons (fa := eR) (x_var (f := eR) (a := strange_) rfl) a_nil) (fun _ => rfl) (fun _ => by show 1 ≤ 1000; decide))))) fun v117 hm => ?_
          refine v_when hm (t_not (t_B (x_callI (a_cons (fa := (eL eR)) (x_var (f := (eL eR)) (a := v49) rfl) (a_cons (fa := (eL eR)) (x_var (f := (eL eR)) (a := v117) rfl) (a_cons (fa := (eL eR)) (x_var (f := (eL eR)) (a := v57) rfl) (a_cons (fa := (eD sK)) (x_var (f := (eD sK)) (a := setting_) rfl) a_nil)))) (fun _ => rfl)))) (fun hm => ?_) (fun hm => ?_)
          · exact w_ret (fr := bK) hR hm x_bl
          · exact w_ret (fr := bK) hR hm (x_callI (a_cons (fa := (eL eR)) (x_var (f := (eL eR)) (a := v49) rfl) (a_cons (fa := (eL eR)) (n_eL (n_slL (f := eR) (x_var (f := (eL eR)) (a := big_) rfl) (o_some x_int) o_none)) (a_cons (fa := (eL eR)) (x_var (f := (eL eR)) (a := v57) rfl) (a_cons (fa := (eD sK)) (x_var (f := (eD sK)) (a := setting_) rfl) a_nil)))) (fun _ => rfl))
end K10
end
section
set_option maxRecDepth 100000
set_option maxHeartbeats 4000000
namespace K10
open PySem L2 Sx Dl

theorem r_law {K : PySem.W.Frag} {P : Program} {w : World} {ns : List Int} (hns : ns.length ≤ 63) (Pr : Bool → Prop) (G0 H0 : Hp) (Q : VK) (hm : m_law Pr) (hR : RtW F0 ⟨F0.P, G0, H0⟩ bK Pr Q) :
    Tr F0 ⟨F0.P, G0, H0⟩ (env0 [seqK K (ns.map iK)] 16) [] (t_law K P w) { nx := fun _ H' => Q .non H', rt := Q } := by
  unfold m_law at hm
  unfold t_law
  refine q_pool hns (ek_var rfl) fun pl => ?_
  have hR : RtW (FP pl) ⟨F0.P, G0, H0⟩ bK Pr Q := fun v G H g _ p => hR v G H g trivial p
  refine v_asg (f := (eL sK)) hm (x_callP (a_cons (fa := (fun _ => poolK pl)) (x_pool rfl) (a_cons (fa := iK) x_int (a_cons (fa := sK) x_str a_nil))) (fun _ => rfl)) fun v9 hm => ?_
  refine v_asg (f := (eL sK)) hm (x_callP (a_cons (fa := (fun _ => poolK pl)) (x_pool rfl) (a_cons (fa := iK) x_int (a_cons (fa := sK) x_str a_nil))) (fun _ => rfl)) fun v17 hm => ?_
  refine v_asg (f := (eL sK)) hm (x_callP (a_cons (fa := (fun _ => poolK pl)) (x_pool rfl) (a_cons (fa := (eL sK)) (x_var (f := (eL sK)) (a := v17) rfl) a_nil)) (fun _ => rfl)) fun v23 hm => ?_
  refine v_new hm (n_lst (f := (eP K sK iK)) (h := (fun z : (Str × Int) × (Str × Int) × Unit => [z.1, z.2.1])) (a_cons (fa := (eP K sK iK)) (x_tup2 (f := sK) (g := iK) (x_op (x_var (f := (eL sK)) (a := v9) rfl) x_int fun _ _ => r_ixL (f := sK)) (x_op x_int (x_pick (x_pool rfl) x_int) fun _ _ => r_addI)) (a_cons (fa := (eP K sK iK)) (x_tup2 (f := sK) (g := iK) (x_op (x_var (f := (eL sK)) (a := v9) rfl) x_int fun _ _ => r_ixL (f := sK)) x_int) a_nil)) (fun _ => rfl) (fun _ => by show 2 ≤ 1000; decide)) fun v46 o47 hn_o47 hm => ?_
  refine v_join (fun s51 : (List (Str × Int)) => ([none, some (poolK pl), some ((eL sK) v9), some ((eL sK) v17), some ((eL sK) v23), some (valK (.ref o47)), none, none, none, none, none, none, none, none, none, none, none], [(o47, .lst (s51.map (eP K sK iK)))])) hm (fun N53 k52 hN54 hm => ?_) (fun s51 hm => ?_)
  · refine w_if hm (t_test (x_op (x_pick (x_pool rfl) x_int) x_int fun _ _ => r_eqI)) (fun hm => ?_) (fun hm => ?_)
    · refine w_setL (f := (eP K sK iK)) 0 rfl hm (x_tup2 (f := sK) (g := iK) (x_op (x_var (f := (eL sK)) (a := v9) rfl) x_int fun _ _ => r_ixL (f := sK)) x_int) (x_own rfl) x_int fun v66 hm => ?_
      exact w_next (s := v66) hN54 hm (.drop (.keep (.keep (.keep (.keep (.keep (.drop (.drop (.drop (.drop (.drop (.drop (.drop (.drop (.drop (.drop (.drop .nil)))))))))))))))))
    · refine t_next ?_
      exact w_next (s := v46) hN54 hm (.drop (.keep (.keep (.keep (.keep (.keep (.drop (.drop (.drop (.drop (.drop (.drop (.drop (.drop (.drop (.drop (.drop .nil)))))))))))))))))
  · refine to_fz (f := (eP K sK iK)) 0 5 rfl rfl hn_o47 ?_
    refine v_asg (f := (eL sK)) hm (n_eL (n_catL (f := sK) (n_eL (n_catL (f := sK) (n_eL (n_slL (f := sK) (x_var (f := (eL sK)) (a := v17) rfl) o_none (o_some x_int))) (x_var (f := (eL sK)) (a := v23) rfl))) (x_var (f := (eL sK)) (a := v23) rfl))) fun v77 hm => ?_
    refine v_asg (f := (eL eR)) hm (x_callP (a_cons (fa := (fun _ => poolK pl)) (x_pool rfl) (a_cons (fa := (eL (eP K sK iK))) (x_var (f := (eL (eP K sK iK))) (a := s51) rfl) (a_cons (fa := (eL sK)) (x_var (f := (eL sK)) (a := v77) rfl) (a_cons (fa := iK) (x_pick (x_pool rfl) x_int) a_nil)))) (fun _ => rfl)) fun v87 hm => ?_
    refine v_asg (f := (eL sK)) hm (n_eL (n_catL (f := sK) (n_eL (n_slL (f := sK) (x_var (f := (eL sK)) (a := v17) rfl) o_none (o_some x_int))) (n_eL (n_slL (f := sK) (n_eL (n_lst (f := sK) (h := (fun z : Str × Str × Unit => [z.1, z.2.1])) (a_cons (fa := sK) x_str (a_cons (fa := sK) (x_op (x_op x_str (x_op (x_var (f := (eL sK)) (a := v17) rfl) x_int fun _ _ => r_ixL (f := sK)) fun _ _ => r_catS) x_str fun _ _ => r_catS) a_nil)) (fun _ => rfl) (fun _ => by show 2 ≤ 1000; decide))) o_none (o_some (x_pick (x_pool rfl) x_int)))))) fun v108 hm => ?_
    refine v_new hm (n_dnew (f := sK)) fun v109 o110 hn_o110 hm => ?_
    refine v_for (f := sK) (s0 := v109) (fun s111 : (List (Str × Str)) => ([none, some (poolK pl), some ((eL sK) v9), some ((eL sK) v17), some ((eL sK) v23), some ((eL (eP K sK iK)) s51), some ((eL sK) v77), some ((eL eR) v87), some ((eL sK) v108), some (valK (.ref o110)), none, none, none, none, none, none, none], [(o110, moD sK s111)])) (fun _ _ => _) hm (i_eL (f := sK) (x_var (f := (eL sK)) (a := v23) rfl)) (.drop (.keep (.keep (.keep (.keep (.keep (.keep (.keep (.keep (.keep (.drop (.drop (.drop (.drop (.drop (.drop (.drop .nil))))))))))))))))) rfl (fun _ _ => gk_name) (fun B115 l116 x118 s111 k112 N113 hN114 hB117 hm => ?_) (fun s111 hm => ?_)
    · refine w_dput (f := sK) 0 rfl hm (x_one (f := sK) (x_pool rfl) (x_var (f := (eL sK)) (a := v108) rfl)) (x_own rfl) (x_var (f := sK) (a := x118) rfl) fun v119 hm => ?_
      exact w_next (s := v119) hN114 hm (.drop (.keep (.keep (.keep (.keep (.keep (.keep (.keep (.keep (.keep (.drop (.drop (.drop (.drop (.drop (.drop (.drop .nil)))))))))))))))))
    · refine to_fzD (f := sK) 0 9 rfl rfl hn_o110 ?_
      refine v_asg (f := (eL eR)) hm (n_eL (n_lc (f := eR) (fe := eR) _ (i_eL (f := eR) (x_var (f := (eL eR)) (a := v87) rfl)) gw_name (fun _ => gk_name) (fun z122 => t_yes) (fun z122 => (x_callI (a_cons (fa := eR) (x_var (f := eR) (a := z122) rfl) (a_cons (fa := (eD sK)) (x_var (f := (eD sK)) (a := s111) rfl) a_nil)) (fun _ => rfl))))) fun v128 hm => ?_
      refine v_asg (f := (eL eR)) hm (n_eL (n_catL (f := eR) (x_callP (a_cons (fa := (fun _ => poolK pl)) (x_pool rfl) (a_cons (fa := (eL (eP K sK iK))) (x_var (f := (eL (eP K sK iK))) (a := s51) rfl) (a_cons (fa := (eL sK)) (x_var (f := (eL sK)) (a := v108) rfl) (a_cons (fa := iK) (x_pick (x_pool rfl) x_int) a_nil)))) (fun _ => rfl)) (x_var (f := (eL eR)) (a := v128) rfl))) fun v140 hm => ?_
      refine v_when hm (t_not (t_B (x_callP (a_cons (fa := (fun _ => poolK pl)) (x_pool rfl) (a_cons (fa := (eL eR)) (x_var (f := (eL eR)) (a := v87) rfl) (a_cons (fa := (eL eR)) (x_var (f := (eL eR)) (a := v140) rfl) (a_cons (fa := (eD sK)) (x_var (f := (eD sK)) (a := s111) rfl) (a_cons (fa := (eL sK)) (x_var (f := (eL sK)) (a := v23) rfl) (a_cons (fa := (eL sK)) (x_var (f := (eL sK)) (a := v17) rfl) a_nil)))))) (fun _ => rfl)))) (fun hm => ?_) (fun hm => ?_)
      · exact w_ret (fr := bK) hR hm x_bl
      · refine v_new hm (n_dnew (f := sK)) fun v156 o157 hn_o157 hm => ?_
        refine v_for (f := sK) (s0 := v156) (fun s162 : (List (Str × Str)) => ([none, some (poolK pl), some ((eL sK) v9), some ((eL sK) v17), some ((eL sK) v23), some ((eL (eP K sK iK)) s51), some ((eL sK) v77), some ((eL eR) v87), some ((eL sK) v108), some ((eD sK) s111), none, some ((eL eR) v140), none, some (valK (.ref o157)), none, none, none], [(o157, moD sK s162)])) (fun _ _ => _) hm (i_eL (f := sK) (n_eL (n_catL (f := sK) (x_var (f := (eL sK)) (a := v23) rfl) (n_eL (n_lst (f := sK) (h := (fun z : Str × Unit => [z.1])) (a_cons (fa := sK) x_str a_nil) (fun _ => rfl) (fun _ => by show 1 ≤ 1000; decide)))))) (.drop (.keep (.keep (.keep (.keep (.keep (.keep (.keep (.keep (.keep (.drop (.keep (.drop (.keep (.drop (.drop (.drop .nil))))))))))))))))) rfl (fun _ _ => gk_name) (fun B166 l167 x169 s162 k163 N164 hN165 hB168 hm => ?_) (fun s162 hm => ?_)
        · refine w_if hm (t_test (x_op (x_pick (x_pool rfl) x_int) x_int fun _ _ => r_eqI)) (fun hm => ?_) (fun hm => ?_)
          · refine w_dput (f := sK) 0 rfl hm (x_one (f := sK) (x_pool rfl) (x_var (f := (eL sK)) (a := v108) rfl)) (x_own rfl) (x_var (f := sK) (a := x169) rfl) fun v173 hm => ?_
            exact w_next (s := v173) hN165 hm (.drop (.keep (.keep (.keep (.keep (.keep (.keep (.keep (.keep (.keep (.drop (.keep (.drop (.keep (.drop (.drop (.drop .nil)))))))))))))))))
          · refine t_next ?_
            exact w_next (s := s162) hN165 hm (.drop (.keep (.keep (.keep (.keep (.keep (.keep (.keep (.keep (.keep (.drop (.keep (.drop (.keep (.drop (.drop (.drop .nil)))))))))))))))))
        · refine to_fzD (f := sK) 0 13 rfl rfl hn_o157 ?_
          refine v_asg (f := eR) hm (x_row2 (x_op (x_var (f := (eL sK)) (a := v9) rfl) x_int fun _ _ => r_ixL (f := sK)) x_str) fun v184 hm => ?_
          refine v_asg (f := eR) hm (x_row2 (x_op (x_var (f := (eL sK)) (a := v9) rfl) x_int fun _ _ => r_ixL (f := sK)) x_str) fun v193 hm => ?_
          refine v_for (f := (eD sK)) (s0 := ()) (fun s198 : Unit => ([none, some (poolK pl), some ((eL sK) v9), some ((eL sK) v17), some ((eL sK) v23), some ((eL (eP K sK iK)) s51), some ((eL sK) v77), some ((eL eR) v87), some ((eL sK) v108), some ((eD sK) s111), none, some ((eL eR) v140), none, some ((eD sK) s162), some (eR v184), some (eR v193), none], [])) (fun _ _ => _) hm (i_eL (f := (eD sK)) (n_eL (n_lst (f := (eD sK)) (h := (fun z : (List (Str × Str)) × (List (Str × Str)) × Unit => [z.1, z.2.1])) (a_cons (fa := (eD sK)) (n_eD n_dnew) (a_cons (fa := (eD sK)) (x_var (f := (eD sK)) (a := s162) rfl) a_nil)) (fun _ => rfl) (fun _ => by show 2 ≤ 1000; decide)))) (.drop (.keep (.keep (.keep (.keep (.keep (.keep (.keep (.keep (.keep (.drop (.keep (.drop (.keep (.keep (.keep (.drop .nil))))))))))))))))) rfl (fun _ _ => gk_name) (fun B202 l203 x205 s198 k199 N200 hN201 hB204 hm => ?_) (fun s198 hm => ?_)
          · refine w_if hm (t_not (t_B (x_callP (a_cons (fa := (fun _ => poolK pl)) (x_pool rfl) (a_cons (fa := (eL eR)) (x_var (f := (eL eR)) (a := v87) rfl) (a_cons (fa := (eL eR)) (x_var (f := (eL eR)) (a := v140) rfl) (a_cons (fa := eR) (x_var (f := eR) (a := v184) rfl) (a_cons (fa := eR) (x_var (f := eR) (a := v193) rfl) (a_cons (fa := (eD sK)) (x_var (f := (eD sK)) (a := x205) rfl) a_nil)))))) (fun _ => rfl)))) (fun hm => ?_) (fun hm => ?_)
            · exact w_ret (fr := bK) (Rt.up l203 hR) hm x_bl
            · refine t_next ?_
              exact w_next (s := ()) hN201 hm (.drop (.keep (.keep (.keep (.keep (.keep (.keep (.keep (.keep (.keep (.drop (.keep (.drop (.keep (.keep (.keep (.drop .nil)))))))))))))))))
          · exact w_ret (fr := bK) hR hm x_bl
end K10
end
section
set_option maxRecDepth 100000
set_option maxHeartbeats 4000000
namespace K10
open PySem L2 Sx Dl
section
variable {P : Program} {w : World} {K : PySem.W.Frag} {mg : Str → Option Value} {base : Heap}

theorem kb_fold {x qual : Str} {st : Stmt} {f : Addr} {fd : FuncData} (F : Fun K x qual st f fd)
    (h : ∀ (kV doc pm : Value) (an : Option Addr) (cdv ct a b c : Value), bindArgs (PySem.W.fnOf x qual (defArgs st) (defBody st) (defScope st) .none kV doc pm an cdv ct) ⟨[], [("fold", a), ("small", b), ("big", c)]⟩ = pure ((["small", "big", "fold"] : List Str).zip [b, c, a])) : KBinds K fd ["small", "big", "fold"] ["fold", "small", "big"] gFoldU gFold := by
  obtain ⟨oc, od, kV, doc, pm, an, cdv, ct, osl, rfl, lk, hcd⟩ := F.ex
  refine ⟨fun s us ws _ hl => ?_, fun {vs us zs ws} r1 r2 => ?_⟩
  · match us, ws, hl with
    | [], [a, b, c], _ => exact .of_eq (h kV doc pm an cdv ct a b c)
  · cases r1 with
    | nil => cases r2 with
      | nil => exact .nil
      | cons a r2 => cases r2 with
        | nil => exact .nil
        | cons b r2 => cases r2 with
          | nil => exact .nil
          | cons c r2 => cases r2 with
            | nil => exact .cons b (.cons c (.cons a .nil))
            | cons _ _ => exact .nil
    | cons _ _ => exact .nil
theorem fund_mk {x qual : Str} {st : Stmt} {f T : Addr} {oc tc : Value} {od an td : Option Addr} {osl tsl : Array (Option Value)} {kV doc pm cdv ct : Value} {tn : Nat} (l : K.lookup f = some ⟨oc, od, .func (PySem.W.fnOf x qual (defArgs st) (defBody st) (defScope st) (.ref T) kV doc pm an cdv ct), osl⟩)
    (c : PySem.W.codeIn K cdv qual = true) (k : PySem.W.keepIn K (.ref f) = true) (t : K.lookup T = some ⟨tc, td, .seq #[.none] tn, tsl⟩) : FunD K x qual (defArgs st) (defBody st) (defScope st) [.non] [] f (PySem.W.fnOf x qual (defArgs st) (defBody st) (defScope st) (.ref T) kV doc pm an cdv ct) :=
  ⟨⟨oc, od, .ref T, kV, doc, pm, an, cdv, ct, osl, rfl, l, c, .inr ⟨(fun z => nomatch z), T, _, [.none], tn, rfl, t, rfl, .cons rfl .nil⟩, .inl rfl⟩, k⟩
section
variable {x qual : Str} {params : Arguments} {body : List Stmt} {scope : Scope} {f : Addr} {fd : FuncData}
theorem dfl_one (F : FunD K x qual params body scope [.non] [] f fd) : ∃ (T : Addr) (kV doc pm : Value) (an : Option Addr) (cdv ct : Value) (o : Obj) (n : Nat), fd = PySem.W.fnOf x qual params body scope (.ref T) kV doc pm an cdv ct ∧ K.lookup T = some o ∧ o.data = .seq #[.none] n := by
  obtain ⟨oc, od, dV, kV, doc, pm, an, cdv, ct, osl, rfl, lk, hcd, hD, hK⟩ := F.ex
  rcases hD with ⟨e, _⟩ | ⟨_, T, o, its, m, rfl, lT, oT, rT⟩
  · cases e
  · cases rT with
    | cons a b =>
      cases b
      have a : _ = Value.none := a
      subst a
      exact ⟨T, kV, doc, pm, an, cdv, ct, o, m, rfl, lT, oT⟩
theorem fund_binds4 (F : FunD K x qual params body scope [.non] [] f fd)
    (h : ∀ (T : Addr) (kV doc pm : Value) (an : Option Addr) (cdv ct a b c d : Value), ∃ k, bindArgs (PySem.W.fnOf x qual params body scope (.ref T) kV doc pm an cdv ct) ⟨[a, b, c, d], []⟩ = seqItems? (.ref T) >>= k ∧ ∀ i : Value, k (some #[i]) = pure ((["small", "big", "rows", "setting"] : List Str).zip [a, b, c, d])) : Binds K fd ["small", "big", "rows", "setting"] [] := by
  obtain ⟨ds, r, b⟩ := F.binds1 (ps := ["small", "big", "rows", "setting"]) 4 1 (fun z => nomatch z) rfl fun T kV doc pm an cdv ct us its hl hi => by
    match us, hl, its, hi with
    | [a, b, c, d], _, [i], _ =>
      obtain ⟨k, e1, e2⟩ := h T kV doc pm an cdv ct a b c d
      exact ⟨k, e1, e2 _⟩
  cases r
  exact b
theorem kb_cl1 (F : FunD K x qual params body scope [.non] [] f fd)
    (h : ∀ (T : Addr) (kV doc pm : Value) (an : Option Addr) (cdv ct a b c : Value), ∃ k, bindArgs (PySem.W.fnOf x qual params body scope (.ref T) kV doc pm an cdv ct) ⟨[], [("big", a), ("small", b), ("rows", c)]⟩ = seqItems? (.ref T) >>= k ∧ k (some #[.none]) = pure ((["small", "big", "rows", "setting"] : List Str).zip [b, a, c, .none])) : KBinds K fd ["small", "big", "rows", "setting"] ["big", "small", "rows"] gCl1U gCl1 := by
  obtain ⟨T, kV, doc, pm, an, cdv, ct, o, n, rfl, lT, oT⟩ := dfl_one F
  refine ⟨fun s us ws X hl => ?_, fun {vs us zs ws} r1 r2 => ?_⟩
  · match us, ws, hl with
    | [], [a, b, c], _ =>
      obtain ⟨k, e1, e2⟩ := h T kV doc pm an cdv ct a b c
      refine BindsTo.of_looks fun M => ?_
      show PySem.W.Looks M s.heap (bindArgs _ ⟨[], [("big", a), ("small", b), ("rows", c)]⟩) _
      rw [e1]
      exact looks_items X lT oT (.of_pure e2)
  · cases r1 with
    | nil => cases r2 with
      | nil => exact .nil
      | cons a r2 => cases r2 with
        | nil => exact .nil
        | cons b r2 => cases r2 with
          | nil => exact .nil
          | cons c r2 => cases r2 with
            | nil => exact .cons b (.cons a (.cons c (.cons rfl .nil)))
            | cons _ _ => exact .nil
    | cons _ _ => exact .nil
theorem kb_cl2 (F : FunD K x qual params body scope [.non] [] f fd)
    (h : ∀ (T : Addr) (kV doc pm : Value) (an : Option Addr) (cdv ct a b c d : Value), ∃ k, bindArgs (PySem.W.fnOf x qual params body scope (.ref T) kV doc pm an cdv ct) ⟨[a, b, c], [("setting", d)]⟩ = seqItems? (.ref T) >>= k ∧ ∀ i : Value, k (some #[i]) = pure ((["small", "big", "rows", "setting"] : List Str).zip [a, b, c, d])) : KBn K fd ["small", "big", "rows", "setting"] 3 ["setting"] gCl2U gCl2 := by
  obtain ⟨T, kV, doc, pm, an, cdv, ct, o, n, rfl, lT, oT⟩ := dfl_one F
  refine ⟨fun s us ws X h1 h2 => ?_, fun {vs us zs ws} r1 r2 => ?_⟩
  · match us, ws, h1, h2 with
    | [a, b, c], [d], _, _ =>
      obtain ⟨k, e1, e2⟩ := h T kV doc pm an cdv ct a b c d
      refine BindsTo.of_looks fun M => ?_
      show PySem.W.Looks M s.heap (bindArgs _ ⟨[a, b, c], [("setting", d)]⟩) _
      rw [e1]
      exact looks_items X lT oT (.of_pure (e2 _))
  · cases r1 with
    | nil => exact .nil
    | cons a r1 => cases r1 with
      | nil => exact .nil
      | cons b r1 => cases r1 with
        | nil => exact .nil
        | cons c r1 => cases r1 with
          | nil => cases r2 with
            | nil => exact .nil
            | cons d r2 => cases r2 with
              | nil => exact .cons a (.cons b (.cons c (.cons d .nil)))
              | cons _ _ => exact .nil
          | cons _ _ => exact .nil
end
theorem ok_fnWD {A ρ : Type} {FX : A → Fx} {ks : A → List Know} {m : A → W ρ} {f : ρ → Know} {x qual : Str} {st : Stmt} {fa : Addr} {fd : FuncData} {N ps : List Str} {j : Nat} {t : TS} {dvs : List V}
    (F : FunD K x qual (defArgs st) (defBody st) (defScope st) dvs [] fa fd) (S : FnScope N ps (defScope st)) (hks : ∀ x, (ks x).length = ps.length)
    (hd : ∀ (cdv : Value) (A : Around) (outer : List PySem.Env) (s : Shared) (H : Hp) (E : XK), Room j (A.deeper (PyProof.Rows.envOfC qual (defScope st) s.heap.objs.size fa cdv)) → PSs (cxOf CX0 P w K mg base N qual (defScope st) fa cdv A outer s H E).nox (defBody st) t)
    (hb : ∀ (x : A) (Pr : ρ → Prop) (G0 H0 : Hp) (Q : VK), m x Pr → RtW (FX x) ⟨(FX x).P, G0, H0⟩ f Pr Q → Tr (FX x) ⟨(FX x).P, G0, H0⟩ (env0 (ks x) (N.length - ps.length)) [] t { nx := fun _ H' => Q .non H', rt := Q }) :
    FnOk P w K mg base CX0 (j + 1) fa fd ps (spW FX ks m f) := by
  refine F.ok S (fun vs H Q E h => ?_) (fun cdv A outer s H vs Q E hr h => ?_)
  · obtain ⟨x, Pr, G, _, _, r, _⟩ := h
    rw [r.length, hks]
  · obtain ⟨x, Pr, G, s0, j0, r, hm, q⟩ := h
    refine ⟨t, PSs.nox (hd cdv A outer s H E hr), hb x Pr G H Q hm (fun v G' H' g j' ⟨a, pa, pv⟩ => q a v G' H' pa g j' pv) _ _ ⟨G, s0, .refl s0, ⟨s0, j0, ?_, OwnK.nil⟩, fun a ha => .inl ha, fun _ _ h => nomatch h⟩⟩
    unfold L2.start env0
    rw [show N.length - vs.length = N.length - ps.length by rw [r.length, hks]]
    exact envK_start _ r

theorem ok_is_word {f : Addr} {fd : FuncData} (F : Fun K "is_word" "is_word" s_is_word f fd) (T : Txt mg)  : FnOk P w K mg base CX0 1 f fd ["text"] (sp_is_word K P w) :=
  ok_fnW F sc_is_word (fun _ => rfl) (fun cdv A outer s H E hr => d_is_word T  cdv A outer s H E hr) (fun x Pr G0 H0 Q hm hR => r_is_word x Pr G0 H0 Q hm hR)
theorem ok_values_of {f : Addr} {fd : FuncData} (F : Fun K "values_of" "values_of" s_values_of f fd) (T : Txt mg)  : FnOk P w K mg base CX0 1 f fd ["rows"] (sp_values_of K P w) :=
  ok_fnW F sc_values_of (fun _ => rfl) (fun cdv A outer s H E hr => d_values_of T  cdv A outer s H E hr) (fun x Pr G0 H0 Q hm hR => r_values_of x Pr G0 H0 Q hm hR)
theorem ok_movables_of {f : Addr} {fd : FuncData} {f_values_of f_is_word : Addr} {fd_values_of fd_is_word : FuncData} (F : Fun K "movables_of" "movables_of" s_movables_of f fd) (T : Txt mg) (C_values_of : Cal P w K mg base "values_of" s_values_of ["rows"] 1 f_values_of fd_values_of (sp_values_of K P w)) (C_is_word : Cal P w K mg base "is_word" s_is_word ["text"] 1 f_is_word fd_is_word (sp_is_word K P w)) : FnOk P w K mg base CX0 2 f fd ["rows"] (sp_movables_of K P w) :=
  ok_fnW F sc_movables_of (fun _ => rfl) (fun cdv A outer s H E hr => d_movables_of T C_values_of C_is_word cdv A outer s H E hr) (fun x Pr G0 H0 Q hm hR => r_movables_of x Pr G0 H0 Q hm hR)
theorem ok_set_value {f : Addr} {fd : FuncData} (F : Fun K "set_value" "set_value" s_set_value f fd) (T : Txt mg)  : FnOk P w K mg base CX0 1 f fd ["value", "setting"] (sp_set_value K P w) :=
  ok_fnW F sc_set_value (fun _ => rfl) (fun cdv A outer s H E hr => d_set_value T  cdv A outer s H E hr) (fun x Pr G0 H0 Q hm hR => r_set_value x Pr G0 H0 Q hm hR)
theorem ok_filled_rows {f : Addr} {fd : FuncData} {f_set_value : Addr} {fd_set_value : FuncData} (F : Fun K "filled_rows" "filled_rows" s_filled_rows f fd) (T : Txt mg) (C_set_value : Cal P w K mg base "set_value" s_set_value ["value", "setting"] 1 f_set_value fd_set_value (sp_set_value K P w)) : FnOk P w K mg base CX0 2 f fd ["rows", "setting"] (sp_filled_rows K P w) :=
  ok_fnW F sc_filled_rows (fun _ => rfl) (fun cdv A outer s H E hr => d_filled_rows T C_set_value cdv A outer s H E hr) (fun x Pr G0 H0 Q hm hR => r_filled_rows x Pr G0 H0 Q hm hR)
theorem ok_conditions {f : Addr} {fd : FuncData} {f_is_word : Addr} {fd_is_word : FuncData} (F : Fun K "_conditions" "_conditions" s_conditions f fd) (T : Txt mg) (C_is_word : Cal P w K mg base "is_word" s_is_word ["text"] 1 f_is_word fd_is_word (sp_is_word K P w)) : FnOk P w K mg base CX0 2 f fd ["row", "setting"] (sp_conditions K P w) :=
  ok_fnW F sc_conditions (fun _ => rfl) (fun cdv A outer s H E hr => d_conditions T C_is_word cdv A outer s H E hr) (fun x Pr G0 H0 Q hm hR => r_conditions x Pr G0 H0 Q hm hR)
theorem ok_meets {f : Addr} {fd : FuncData} (F : Fun K "_meets" "_meets" s_meets f fd) (T : Txt mg)  : FnOk P w K mg base CX0 1 f fd ["row", "fixed", "equal"] (sp_meets K P w) :=
  ok_fnW F sc_meets (fun _ => rfl) (fun cdv A outer s H E hr => d_meets T  cdv A outer s H E hr) (fun x Pr G0 H0 Q hm hR => r_meets x Pr G0 H0 Q hm hR)
theorem ok_partners {f : Addr} {fd : FuncData} {f_conditions f_meets : Addr} {fd_conditions fd_meets : FuncData} (F : Fun K "partners" "partners" s_partners f fd) (T : Txt mg) (C_conditions : Cal P w K mg base "_conditions" s_conditions ["row", "setting"] 2 f_conditions fd_conditions (sp_conditions K P w)) (C_meets : Cal P w K mg base "_meets" s_meets ["row", "fixed", "equal"] 1 f_meets fd_meets (sp_meets K P w)) : FnOk P w K mg base CX0 3 f fd ["row", "setting", "rows"] (sp_partners K P w) :=
  ok_fnW F sc_partners (fun _ => rfl) (fun cdv A outer s H E hr => d_partners T C_conditions C_meets cdv A outer s H E hr) (fun x Pr G0 H0 Q hm hR => r_partners x Pr G0 H0 Q hm hR)
theorem ok_set_by {f : Addr} {fd : FuncData} {f_is_word : Addr} {fd_is_word : FuncData} (F : Fun K "set_by" "set_by" s_set_by f fd) (T : Txt mg) (C_is_word : Cal P w K mg base "is_word" s_is_word ["text"] 1 f_is_word fd_is_word (sp_is_word K P w)) : FnOk P w K mg base CX0 2 f fd ["row", "partner", "setting"] (sp_set_by K P w) :=
  ok_fnW F sc_set_by (fun _ => rfl) (fun cdv A outer s H E hr => d_set_by T C_is_word cdv A outer s H E hr) (fun x Pr G0 H0 Q hm hR => r_set_by x Pr G0 H0 Q hm hR)
theorem ok_is_fold {f : Addr} {fd : FuncData} {f_movables_of f_filled_rows : Addr} {fd_movables_of fd_filled_rows : FuncData} (F : Fun K "is_fold" "is_fold" s_is_fold f fd) (T : Txt mg) (C_movables_of : Cal P w K mg base "movables_of" s_movables_of ["rows"] 2 f_movables_of fd_movables_of (sp_movables_of K P w)) (C_filled_rows : Cal P w K mg base "filled_rows" s_filled_rows ["rows", "setting"] 2 f_filled_rows fd_filled_rows (sp_filled_rows K P w)) : FnOk P w K mg base CX0 3 f fd ["small", "big", "fold"] (sp_is_fold K P w) :=
  ok_fnW F sc_is_fold (fun _ => rfl) (fun cdv A outer s H E hr => d_is_fold T C_movables_of C_filled_rows cdv A outer s H E hr) (fun x Pr G0 H0 Q hm hR => r_is_fold x Pr G0 H0 Q hm hR)
theorem ok_closed_end {f : Addr} {fd : FuncData} {f_partners f_set_by : Addr} {fd_partners fd_set_by : FuncData} (F : Fun K "closed_end" "closed_end" s_closed_end f fd) (T : Txt mg) (C_partners : Cal P w K mg base "partners" s_partners ["row", "setting", "rows"] 3 f_partners fd_partners (sp_partners K P w)) (C_set_by : Cal P w K mg base "set_by" s_set_by ["row", "partner", "setting"] 2 f_set_by fd_set_by (sp_set_by K P w)) : FnOk P w K mg base CX0 4 f fd ["small", "big", "rows", "at", "setting"] (sp_closed_end K P w) :=
  ok_fnW F sc_closed_end (fun _ => rfl) (fun cdv A outer s H E hr => d_closed_end T C_partners C_set_by cdv A outer s H E hr) (fun x Pr G0 H0 Q hm hR => r_closed_end x Pr G0 H0 Q hm hR)
theorem ok_is_closed {f : Addr} {fd : FuncData} {f_closed_end : Addr} {fd_closed_end : FuncData} (F : FunD K "is_closed" "is_closed" (defArgs s_is_closed) (defBody s_is_closed) (defScope s_is_closed) [.non] [] f fd) (T : Txt mg) (C_closed_end : Cal P w K mg base "closed_end" s_closed_end ["small", "big", "rows", "at", "setting"] 4 f_closed_end fd_closed_end (sp_closed_end K P w)) : FnOk P w K mg base CX0 5 f fd ["small", "big", "rows", "setting"] (sp_is_closed K P w) :=
  ok_fnWD F sc_is_closed (fun _ => rfl) (fun cdv A outer s H E hr => d_is_closed T C_closed_end cdv A outer s H E hr) (fun x Pr G0 H0 Q hm hR => r_is_closed x Pr G0 H0 Q hm hR)
theorem ok_law_pool {f : Addr} {fd : FuncData} (F : Fun K "_law_pool" "_law_pool" s_law_pool f fd) (T : Txt mg)  : FnOk P w K mg base CX0 1 f fd ["script"] (sp_law_pool K) :=
  ok_fn F sc_law_pool (fun _ => rfl) (fun cdv A outer s H E hr => d_law_pool T  cdv A outer s H E hr) (fun x G0 H0 Q hR => r_law_pool x G0 H0 Q hR)
theorem ok_law_pick {f : Addr} {fd : FuncData} (F : Fun K "_law_pick" "_law_pick" s_law_pick f fd) (T : Txt mg)  : FnOk P w K mg base CX0 1 f fd ["pool", "many"] (sp_law_pick K) :=
  ok_fn F sc_law_pick (fun _ => rfl) (fun cdv A outer s H E hr => d_law_pick T  cdv A outer s H E hr) (fun x G0 H0 Q hR => r_law_pick x.pl x.many x.h G0 H0 Q hR)
theorem ok_law_one_of {f : Addr} {fd : FuncData} {f_law_pick : Addr} {fd_law_pick : FuncData} (F : Fun K "_law_one_of" "_law_one_of" s_law_one_of f fd) (T : Txt mg) (C_law_pick : Cal P w K mg base "_law_pick" s_law_pick ["pool", "many"] 1 f_law_pick fd_law_pick (sp_law_pick K)) : FnOk P w K mg base CX0 2 f fd ["pool", "things"] (sp_law_one_of K) :=
  ok_fn F sc_law_one_of (fun _ => rfl) (fun cdv A outer s H E hr => d_law_one_of T C_law_pick cdv A outer s H E hr) (fun x G0 H0 Q hR => r_law_one_of x G0 H0 Q hR)
theorem ok_law_names {f : Addr} {fd : FuncData} {f_law_pick f_law_one_of : Addr} {fd_law_pick fd_law_one_of : FuncData} (F : Fun K "_law_names" "_law_names" s_law_names f fd) (T : Txt mg) (C_law_pick : Cal P w K mg base "_law_pick" s_law_pick ["pool", "many"] 1 f_law_pick fd_law_pick (sp_law_pick K)) (C_law_one_of : Cal P w K mg base "_law_one_of" s_law_one_of ["pool", "things"] 2 f_law_one_of fd_law_one_of (sp_law_one_of K)) : FnOk P w K mg base CX0 3 f fd ["pool", "many", "signs"] (sp_law_names K P w) :=
  ok_fnW F sc_law_names (fun _ => rfl) (fun cdv A outer s H E hr => d_law_names T C_law_pick C_law_one_of cdv A outer s H E hr) (fun x Pr G0 H0 Q hm hR => r_law_names x Pr G0 H0 Q hm hR)
theorem ok_law_movable_values {f : Addr} {fd : FuncData} {f_law_pick : Addr} {fd_law_pick : FuncData} (F : Fun K "_law_movable_values" "_law_movable_values" s_law_movable_values f fd) (T : Txt mg) (C_law_pick : Cal P w K mg base "_law_pick" s_law_pick ["pool", "many"] 1 f_law_pick fd_law_pick (sp_law_pick K)) : FnOk P w K mg base CX0 2 f fd ["pool", "words"] (sp_law_movable_values K P w) :=
  ok_fnW F sc_law_movable_values (fun _ => rfl) (fun cdv A outer s H E hr => d_law_movable_values T C_law_pick cdv A outer s H E hr) (fun x Pr G0 H0 Q hm hR => r_law_movable_values x Pr G0 H0 Q hm hR)
theorem ok_law_rows {f : Addr} {fd : FuncData} {f_law_one_of : Addr} {fd_law_one_of : FuncData} (F : Fun K "_law_rows" "_law_rows" s_law_rows f fd) (T : Txt mg) (C_law_one_of : Cal P w K mg base "_law_one_of" s_law_one_of ["pool", "things"] 2 f_law_one_of fd_law_one_of (sp_law_one_of K)) : FnOk P w K mg base CX0 3 f fd ["pool", "tables", "values", "many"] (sp_law_rows K P w) :=
  ok_fnW F sc_law_rows (fun _ => rfl) (fun cdv A outer s H E hr => d_law_rows T C_law_one_of cdv A outer s H E hr) (fun x Pr G0 H0 Q hm hR => r_law_rows x Pr G0 H0 Q hm hR)
theorem ok_law_is_word {f : Addr} {fd : FuncData} (F : Fun K "_law_is_word" "_law_is_word" s_law_is_word f fd) (T : Txt mg)  : FnOk P w K mg base CX0 1 f fd ["text"] (sp_law_is_word K P w) :=
  ok_fnW F sc_law_is_word (fun _ => rfl) (fun cdv A outer s H E hr => d_law_is_word T  cdv A outer s H E hr) (fun x Pr G0 H0 Q hm hR => r_law_is_word x Pr G0 H0 Q hm hR)
theorem ok_law_values {f : Addr} {fd : FuncData} (F : Fun K "_law_values" "_law_values" s_law_values f fd) (T : Txt mg)  : FnOk P w K mg base CX0 1 f fd ["rows"] (sp_law_values K P w) :=
  ok_fnW F sc_law_values (fun _ => rfl) (fun cdv A outer s H E hr => d_law_values T  cdv A outer s H E hr) (fun x Pr G0 H0 Q hm hR => r_law_values x Pr G0 H0 Q hm hR)
theorem ok_law_movables {f : Addr} {fd : FuncData} {f_law_values f_law_is_word : Addr} {fd_law_values fd_law_is_word : FuncData} (F : Fun K "_law_movables" "_law_movables" s_law_movables f fd) (T : Txt mg) (C_law_values : Cal P w K mg base "_law_values" s_law_values ["rows"] 1 f_law_values fd_law_values (sp_law_values K P w)) (C_law_is_word : Cal P w K mg base "_law_is_word" s_law_is_word ["text"] 1 f_law_is_word fd_law_is_word (sp_law_is_word K P w)) : FnOk P w K mg base CX0 2 f fd ["rows"] (sp_law_movables K P w) :=
  ok_fnW F sc_law_movables (fun _ => rfl) (fun cdv A outer s H E hr => d_law_movables T C_law_values C_law_is_word cdv A outer s H E hr) (fun x Pr G0 H0 Q hm hR => r_law_movables x Pr G0 H0 Q hm hR)
theorem ok_law_set {f : Addr} {fd : FuncData} (F : Fun K "_law_set" "_law_set" s_law_set f fd) (T : Txt mg)  : FnOk P w K mg base CX0 1 f fd ["row", "setting"] (sp_law_set K P w) :=
  ok_fnW F sc_law_set (fun _ => rfl) (fun cdv A outer s H E hr => d_law_set T  cdv A outer s H E hr) (fun x Pr G0 H0 Q hm hR => r_law_set x Pr G0 H0 Q hm hR)
theorem ok_law_is_partner {f : Addr} {fd : FuncData} {f_law_is_word : Addr} {fd_law_is_word : FuncData} (F : Fun K "_law_is_partner" "_law_is_partner" s_law_is_partner f fd) (T : Txt mg) (C_law_is_word : Cal P w K mg base "_law_is_word" s_law_is_word ["text"] 1 f_law_is_word fd_law_is_word (sp_law_is_word K P w)) : FnOk P w K mg base CX0 2 f fd ["row", "other", "setting"] (sp_law_is_partner K P w) :=
  ok_fnW F sc_law_is_partner (fun _ => rfl) (fun cdv A outer s H E hr => d_law_is_partner T C_law_is_word cdv A outer s H E hr) (fun x Pr G0 H0 Q hm hR => r_law_is_partner x Pr G0 H0 Q hm hR)
theorem ok_law_set_by {f : Addr} {fd : FuncData} {f_law_is_word : Addr} {fd_law_is_word : FuncData} (F : Fun K "_law_set_by" "_law_set_by" s_law_set_by f fd) (T : Txt mg) (C_law_is_word : Cal P w K mg base "_law_is_word" s_law_is_word ["text"] 1 f_law_is_word fd_law_is_word (sp_law_is_word K P w)) : FnOk P w K mg base CX0 2 f fd ["row", "partner", "setting"] (sp_law_set_by K P w) :=
  ok_fnW F sc_law_set_by (fun _ => rfl) (fun cdv A outer s H E hr => d_law_set_by T C_law_is_word cdv A outer s H E hr) (fun x Pr G0 H0 Q hm hR => r_law_set_by x Pr G0 H0 Q hm hR)
theorem ok_law_fold_due {f : Addr} {fd : FuncData} {f_law_movables f_law_set : Addr} {fd_law_movables fd_law_set : FuncData} (F : Fun K "_law_fold_due" "_law_fold_due" s_law_fold_due f fd) (T : Txt mg) (C_law_movables : Cal P w K mg base "_law_movables" s_law_movables ["rows"] 2 f_law_movables fd_law_movables (sp_law_movables K P w)) (C_law_set : Cal P w K mg base "_law_set" s_law_set ["row", "setting"] 1 f_law_set fd_law_set (sp_law_set K P w)) : FnOk P w K mg base CX0 3 f fd ["small", "big", "fold"] (sp_law_fold_due K P w) :=
  ok_fnW F sc_law_fold_due (fun _ => rfl) (fun cdv A outer s H E hr => d_law_fold_due T C_law_movables C_law_set cdv A outer s H E hr) (fun x Pr G0 H0 Q hm hR => r_law_fold_due x Pr G0 H0 Q hm hR)
theorem ok_law_fold_holds {f : Addr} {fd : FuncData} {f_law_fold_due f_is_fold : Addr} {fd_law_fold_due fd_is_fold : FuncData} (F : Fun K "_law_fold_holds" "_law_fold_holds" s_law_fold_holds f fd) (T : Txt mg) (C_law_fold_due : Cal P w K mg base "_law_fold_due" s_law_fold_due ["small", "big", "fold"] 3 f_law_fold_due fd_law_fold_due (sp_law_fold_due K P w)) (C_is_fold : CalF P w K mg base "is_fold" s_is_fold ["small", "big", "fold"] 3 f_is_fold fd_is_fold (sp_is_fold K P w)) : FnOk P w K mg base CX0 4 f fd ["small", "big", "fold"] (sp_law_fold_holds K P w) :=
  ok_fnW F sc_law_fold_holds (fun _ => rfl) (fun cdv A outer s H E hr => d_law_fold_holds T C_law_fold_due C_is_fold cdv A outer s H E hr) (fun x Pr G0 H0 Q hm hR => r_law_fold_holds x Pr G0 H0 Q hm hR)
theorem ok_law_spoilt_fold {f : Addr} {fd : FuncData} {f_law_pick f_law_one_of : Addr} {fd_law_pick fd_law_one_of : FuncData} (F : Fun K "_law_spoilt_fold" "_law_spoilt_fold" s_law_spoilt_fold f fd) (T : Txt mg) (C_law_pick : Cal P w K mg base "_law_pick" s_law_pick ["pool", "many"] 1 f_law_pick fd_law_pick (sp_law_pick K)) (C_law_one_of : Cal P w K mg base "_law_one_of" s_law_one_of ["pool", "things"] 2 f_law_one_of fd_law_one_of (sp_law_one_of K)) : FnOk P w K mg base CX0 3 f fd ["pool", "fold", "movable", "words"] (sp_law_spoilt_fold K P w) :=
  ok_fnW F sc_law_spoilt_fold (fun _ => rfl) (fun cdv A outer s H E hr => d_law_spoilt_fold T C_law_pick C_law_one_of cdv A outer s H E hr) (fun x Pr G0 H0 Q hm hR => r_law_spoilt_fold x Pr G0 H0 Q hm hR)
theorem ok_law_folds_hold {f : Addr} {fd : FuncData} {f_law_movables f_law_fold_holds f_law_spoilt_fold f_law_pick : Addr} {fd_law_movables fd_law_fold_holds fd_law_spoilt_fold fd_law_pick : FuncData} (F : Fun K "_law_folds_hold" "_law_folds_hold" s_law_folds_hold f fd) (T : Txt mg) (C_law_movables : Cal P w K mg base "_law_movables" s_law_movables ["rows"] 2 f_law_movables fd_law_movables (sp_law_movables K P w)) (C_law_fold_holds : Cal P w K mg base "_law_fold_holds" s_law_fold_holds ["small", "big", "fold"] 4 f_law_fold_holds fd_law_fold_holds (sp_law_fold_holds K P w)) (C_law_spoilt_fold : Cal P w K mg base "_law_spoilt_fold" s_law_spoilt_fold ["pool", "fold", "movable", "words"] 3 f_law_spoilt_fold fd_law_spoilt_fold (sp_law_spoilt_fold K P w)) (C_law_pick : Cal P w K mg base "_law_pick" s_law_pick ["pool", "many"] 1 f_law_pick fd_law_pick (sp_law_pick K)) : FnOk P w K mg base CX0 5 f fd ["pool", "small", "big", "hidden", "movable", "words"] (sp_law_folds_hold K P w) :=
  ok_fnW F sc_law_folds_hold (fun _ => rfl) (fun cdv A outer s H E hr => d_law_folds_hold T C_law_movables C_law_fold_holds C_law_spoilt_fold C_law_pick cdv A outer s H E hr) (fun x Pr G0 H0 Q hm hR => r_law_folds_hold x Pr G0 H0 Q hm hR)
theorem ok_law_closed_due {f : Addr} {fd : FuncData} {f_law_is_partner f_law_set_by : Addr} {fd_law_is_partner fd_law_set_by : FuncData} (F : Fun K "_law_closed_due" "_law_closed_due" s_law_closed_due f fd) (T : Txt mg) (C_law_is_partner : Cal P w K mg base "_law_is_partner" s_law_is_partner ["row", "other", "setting"] 2 f_law_is_partner fd_law_is_partner (sp_law_is_partner K P w)) (C_law_set_by : Cal P w K mg base "_law_set_by" s_law_set_by ["row", "partner", "setting"] 2 f_law_set_by fd_law_set_by (sp_law_set_by K P w)) : FnOk P w K mg base CX0 3 f fd ["small", "big", "rows", "setting"] (sp_law_closed_due K P w) :=
  ok_fnW F sc_law_closed_due (fun _ => rfl) (fun cdv A outer s H E hr => d_law_closed_due T C_law_is_partner C_law_set_by cdv A outer s H E hr) (fun x Pr G0 H0 Q hm hR => r_law_closed_due x Pr G0 H0 Q hm hR)
theorem ok_law_closed_holds {f : Addr} {fd : FuncData} {f_law_closed_due f_is_closed : Addr} {fd_law_closed_due fd_is_closed : FuncData} (F : Fun K "_law_closed_holds" "_law_closed_holds" s_law_closed_holds f fd) (T : Txt mg) (C_law_closed_due : Cal P w K mg base "_law_closed_due" s_law_closed_due ["small", "big", "rows", "setting"] 3 f_law_closed_due fd_law_closed_due (sp_law_closed_due K P w)) (C_is_closed : CalC P w K mg base "is_closed" s_is_closed ["small", "big", "rows", "setting"] 5 f_is_closed fd_is_closed (sp_is_closed K P w)) : FnOk P w K mg base CX0 6 f fd ["small", "big", "rows", "setting"] (sp_law_closed_holds K P w) :=
  ok_fnW F sc_law_closed_holds (fun _ => rfl) (fun cdv A outer s H E hr => d_law_closed_holds T C_law_closed_due C_is_closed cdv A outer s H E hr) (fun x Pr G0 H0 Q hm hR => r_law_closed_holds x Pr G0 H0 Q hm hR)
theorem ok_law_closed_rows {f : Addr} {fd : FuncData} {f_law_is_partner f_law_set_by : Addr} {fd_law_is_partner fd_law_set_by : FuncData} (F : Fun K "_law_closed_rows" "_law_closed_rows" s_law_closed_rows f fd) (T : Txt mg) (C_law_is_partner : Cal P w K mg base "_law_is_partner" s_law_is_partner ["row", "other", "setting"] 2 f_law_is_partner fd_law_is_partner (sp_law_is_partner K P w)) (C_law_set_by : Cal P w K mg base "_law_set_by" s_law_set_by ["row", "partner", "setting"] 2 f_law_set_by fd_law_set_by (sp_law_set_by K P w)) : FnOk P w K mg base CX0 3 f fd ["big", "order", "setting"] (sp_law_closed_rows K P w) :=
  ok_fnW F sc_law_closed_rows (fun _ => rfl) (fun cdv A outer s H E hr => d_law_closed_rows T C_law_is_partner C_law_set_by cdv A outer s H E hr) (fun x Pr G0 H0 Q hm hR => r_law_closed_rows x Pr G0 H0 Q hm hR)
theorem ok_law_spoilt_rows {f : Addr} {fd : FuncData} {f_law_pick f_law_one_of : Addr} {fd_law_pick fd_law_one_of : FuncData} (F : Fun K "_law_spoilt_rows" "_law_spoilt_rows" s_law_spoilt_rows f fd) (T : Txt mg) (C_law_pick : Cal P w K mg base "_law_pick" s_law_pick ["pool", "many"] 1 f_law_pick fd_law_pick (sp_law_pick K)) (C_law_one_of : Cal P w K mg base "_law_one_of" s_law_one_of ["pool", "things"] 2 f_law_one_of fd_law_one_of (sp_law_one_of K)) : FnOk P w K mg base CX0 3 f fd ["pool", "rows", "small", "spare"] (sp_law_spoilt_rows K P w) :=
  ok_fnW F sc_law_spoilt_rows (fun _ => rfl) (fun cdv A outer s H E hr => d_law_spoilt_rows T C_law_pick C_law_one_of cdv A outer s H E hr) (fun x Pr G0 H0 Q hm hR => r_law_spoilt_rows x Pr G0 H0 Q hm hR)
theorem ok_law_lists_hold {f : Addr} {fd : FuncData} {f_law_pick f_law_closed_rows f_law_closed_holds f_law_spoilt_rows : Addr} {fd_law_pick fd_law_closed_rows fd_law_closed_holds fd_law_spoilt_rows : FuncData} (F : Fun K "_law_lists_hold" "_law_lists_hold" s_law_lists_hold f fd) (T : Txt mg) (C_law_pick : Cal P w K mg base "_law_pick" s_law_pick ["pool", "many"] 1 f_law_pick fd_law_pick (sp_law_pick K)) (C_law_closed_rows : Cal P w K mg base "_law_closed_rows" s_law_closed_rows ["big", "order", "setting"] 3 f_law_closed_rows fd_law_closed_rows (sp_law_closed_rows K P w)) (C_law_closed_holds : Cal P w K mg base "_law_closed_holds" s_law_closed_holds ["small", "big", "rows", "setting"] 6 f_law_closed_holds fd_law_closed_holds (sp_law_closed_holds K P w)) (C_law_spoilt_rows : Cal P w K mg base "_law_spoilt_rows" s_law_spoilt_rows ["pool", "rows", "small", "spare"] 3 f_law_spoilt_rows fd_law_spoilt_rows (sp_law_spoilt_rows K P w)) : FnOk P w K mg base CX0 7 f fd ["pool", "small", "big", "strange", "spare", "setting"] (sp_law_lists_hold K P w) :=
  ok_fnW F sc_law_lists_hold (fun _ => rfl) (fun cdv A outer s H E hr => d_law_lists_hold T C_law_pick C_law_closed_rows C_law_closed_holds C_law_spoilt_rows cdv A outer s H E hr) (fun x Pr G0 H0 Q hm hR => r_law_lists_hold x Pr G0 H0 Q hm hR)
theorem ok_law {f : Addr} {fd : FuncData} {f_law_pool f_law_names f_law_movable_values f_law_pick f_law_rows f_law_one_of f_law_set f_law_folds_hold f_law_lists_hold : Addr} {fd_law_pool fd_law_names fd_law_movable_values fd_law_pick fd_law_rows fd_law_one_of fd_law_set fd_law_folds_hold fd_law_lists_hold : FuncData} (hlaw : m_law (· = true)) (F : Fun K "law" "law" s_law f fd) (T : Txt mg) (C_law_pool : Cal P w K mg base "_law_pool" s_law_pool ["script"] 1 f_law_pool fd_law_pool (sp_law_pool K)) (C_law_names : Cal P w K mg base "_law_names" s_law_names ["pool", "many", "signs"] 3 f_law_names fd_law_names (sp_law_names K P w)) (C_law_movable_values : Cal P w K mg base "_law_movable_values" s_law_movable_values ["pool", "words"] 2 f_law_movable_values fd_law_movable_values (sp_law_movable_values K P w)) (C_law_pick : Cal P w K mg base "_law_pick" s_law_pick ["pool", "many"] 1 f_law_pick fd_law_pick (sp_law_pick K)) (C_law_rows : Cal P w K mg base "_law_rows" s_law_rows ["pool", "tables", "values", "many"] 3 f_law_rows fd_law_rows (sp_law_rows K P w)) (C_law_one_of : Cal P w K mg base "_law_one_of" s_law_one_of ["pool", "things"] 2 f_law_one_of fd_law_one_of (sp_law_one_of K)) (C_law_set : Cal P w K mg base "_law_set" s_law_set ["row", "setting"] 1 f_law_set fd_law_set (sp_law_set K P w)) (C_law_folds_hold : Cal P w K mg base "_law_folds_hold" s_law_folds_hold ["pool", "small", "big", "hidden", "movable", "words"] 5 f_law_folds_hold fd_law_folds_hold (sp_law_folds_hold K P w)) (C_law_lists_hold : Cal P w K mg base "_law_lists_hold" s_law_lists_hold ["pool", "small", "big", "strange", "spare", "setting"] 7 f_law_lists_hold fd_law_lists_hold (sp_law_lists_hold K P w)) : FnOk P w K mg base CX0 8 f fd ["script"] (sp_law K) :=
  ok_fn F sc_law (fun _ => rfl) (fun cdv A outer s H E hr => d_law T C_law_pool C_law_names C_law_movable_values C_law_pick C_law_rows C_law_one_of C_law_set C_law_folds_hold C_law_lists_hold cdv A outer s H E hr) (fun x G0 H0 Q hR => r_law (P := P) (w := w) x.h (· = true) G0 H0 Q hlaw (fun v G H g j ⟨b, hb, p⟩ => hR v G H g j (by subst hb; exact p)))
end
section
theorem all_mk {w : World} {K : PySem.W.Frag} {h : Heap} {mg : Str → Option Value} {fa : Addr} {f_is_word f_values_of f_movables_of f_set_value f_filled_rows f_conditions f_meets f_partners f_set_by f_is_fold f_closed_end f_is_closed f_law_pool f_law_pick f_law_one_of f_law_names f_law_movable_values f_law_rows f_law_is_word f_law_values f_law_movables f_law_set f_law_is_partner f_law_set_by f_law_fold_due f_law_fold_holds f_law_spoilt_fold f_law_folds_hold f_law_closed_due f_law_closed_holds f_law_closed_rows f_law_spoilt_rows f_law_lists_hold f_law T_is_closed : Addr} (hlaw : m_law (· = true)) (X : K.In h) (G : h.Ns mainGlobals mg) (hfa : mg "law" = some (.ref fa))
    {od_is_word od_values_of od_movables_of od_set_value od_filled_rows od_conditions od_meets od_partners od_set_by od_is_fold od_closed_end od_is_closed od_law_pool od_law_pick od_law_one_of od_law_names od_law_movable_values od_law_rows od_law_is_word od_law_values od_law_movables od_law_set od_law_is_partner od_law_set_by od_law_fold_due od_law_fold_holds od_law_spoilt_fold od_law_folds_hold od_law_closed_due od_law_closed_holds od_law_closed_rows od_law_spoilt_rows od_law_lists_hold od_law an_is_word an_values_of an_movables_of an_set_value an_filled_rows an_conditions an_meets an_partners an_set_by an_is_fold an_closed_end an_is_closed an_law_pool an_law_pick an_law_one_of an_law_names an_law_movable_values an_law_rows an_law_is_word an_law_values an_law_movables an_law_set an_law_is_partner an_law_set_by an_law_fold_due an_law_fold_holds an_law_spoilt_fold an_law_folds_hold an_law_closed_due an_law_closed_holds an_law_closed_rows an_law_spoilt_rows an_law_lists_hold an_law td_ : Option Addr} {sl_is_word sl_values_of sl_movables_of sl_set_value sl_filled_rows sl_conditions sl_meets sl_partners sl_set_by sl_is_fold sl_closed_end sl_is_closed sl_law_pool sl_law_pick sl_law_one_of sl_law_names sl_law_movable_values sl_law_rows sl_law_is_word sl_law_values sl_law_movables sl_law_set sl_law_is_partner sl_law_set_by sl_law_fold_due sl_law_fold_holds sl_law_spoilt_fold sl_law_folds_hold sl_law_closed_due sl_law_closed_holds sl_law_closed_rows sl_law_spoilt_rows sl_law_lists_hold sl_law tsl_ : Array (Option Value)} {oc_is_word kV_is_word dc_is_word pm_is_word cd_is_word ct_is_word oc_values_of kV_values_of dc_values_of pm_values_of cd_values_of ct_values_of oc_movables_of kV_movables_of dc_movables_of pm_movables_of cd_movables_of ct_movables_of oc_set_value kV_set_value dc_set_value pm_set_value cd_set_value ct_set_value oc_filled_rows kV_filled_rows dc_filled_rows pm_filled_rows cd_filled_rows ct_filled_rows oc_conditions kV_conditions dc_conditions pm_conditions cd_conditions ct_conditions oc_meets kV_meets dc_meets pm_meets cd_meets ct_meets oc_partners kV_partners dc_partners pm_partners cd_partners ct_partners oc_set_by kV_set_by dc_set_by pm_set_by cd_set_by ct_set_by oc_is_fold kV_is_fold dc_is_fold pm_is_fold cd_is_fold ct_is_fold oc_closed_end kV_closed_end dc_closed_end pm_closed_end cd_closed_end ct_closed_end oc_is_closed kV_is_closed dc_is_closed pm_is_closed cd_is_closed ct_is_closed oc_law_pool kV_law_pool dc_law_pool pm_law_pool cd_law_pool ct_law_pool oc_law_pick kV_law_pick dc_law_pick pm_law_pick cd_law_pick ct_law_pick oc_law_one_of kV_law_one_of dc_law_one_of pm_law_one_of cd_law_one_of ct_law_one_of oc_law_names kV_law_names dc_law_names pm_law_names cd_law_names ct_law_names oc_law_movable_values kV_law_movable_values dc_law_movable_values pm_law_movable_values cd_law_movable_values ct_law_movable_values oc_law_rows kV_law_rows dc_law_rows pm_law_rows cd_law_rows ct_law_rows oc_law_is_word kV_law_is_word dc_law_is_word pm_law_is_word cd_law_is_word ct_law_is_word oc_law_values kV_law_values dc_law_values pm_law_values cd_law_values ct_law_values oc_law_movables kV_law_movables dc_law_movables pm_law_movables cd_law_movables ct_law_movables oc_law_set kV_law_set dc_law_set pm_law_set cd_law_set ct_law_set oc_law_is_partner kV_law_is_partner dc_law_is_partner pm_law_is_partner cd_law_is_partner ct_law_is_partner oc_law_set_by kV_law_set_by dc_law_set_by pm_law_set_by cd_law_set_by ct_law_set_by oc_law_fold_due kV_law_fold_due dc_law_fold_due pm_law_fold_due cd_law_fold_due ct_law_fold_due oc_law_fold_holds kV_law_fold_holds dc_law_fold_holds pm_law_fold_holds cd_law_fold_holds ct_law_fold_holds oc_law_spoilt_fold kV_law_spoilt_fold dc_law_spoilt_fold pm_law_spoilt_fold cd_law_spoilt_fold ct_law_spoilt_fold oc_law_folds_hold kV_law_folds_hold dc_law_folds_hold pm_law_folds_hold cd_law_folds_hold ct_law_folds_hold oc_law_closed_due kV_law_closed_due dc_law_closed_due pm_law_closed_due cd_law_closed_due ct_law_closed_due oc_law_closed_holds kV_law_closed_holds dc_law_closed_holds pm_law_closed_holds cd_law_closed_holds ct_law_closed_holds oc_law_closed_rows kV_law_closed_rows dc_law_closed_rows pm_law_closed_rows cd_law_closed_rows ct_law_closed_rows oc_law_spoilt_rows kV_law_spoilt_rows dc_law_spoilt_rows pm_law_spoilt_rows cd_law_spoilt_rows ct_law_spoilt_rows oc_law_lists_hold kV_law_lists_hold dc_law_lists_hold pm_law_lists_hold cd_law_lists_hold ct_law_lists_hold oc_law kV_law dc_law pm_law cd_law ct_law tc_ : Value} {tn_ : Nat}
    (a_is_word : PySem.W.nsIn K mainGlobals "is_word" = some (some (.ref f_is_word))) (l_is_word : K.lookup f_is_word = some ⟨oc_is_word, od_is_word, .func (PySem.W.fnOf "is_word" "is_word" (defArgs s_is_word) (defBody s_is_word) (defScope s_is_word) .none kV_is_word dc_is_word pm_is_word an_is_word cd_is_word ct_is_word), sl_is_word⟩) (c_is_word : PySem.W.codeIn K cd_is_word "is_word" = true) (k_is_word : PySem.W.keepIn K (.ref f_is_word) = true)
    (a_values_of : PySem.W.nsIn K mainGlobals "values_of" = some (some (.ref f_values_of))) (l_values_of : K.lookup f_values_of = some ⟨oc_values_of, od_values_of, .func (PySem.W.fnOf "values_of" "values_of" (defArgs s_values_of) (defBody s_values_of) (defScope s_values_of) .none kV_values_of dc_values_of pm_values_of an_values_of cd_values_of ct_values_of), sl_values_of⟩) (c_values_of : PySem.W.codeIn K cd_values_of "values_of" = true) (k_values_of : PySem.W.keepIn K (.ref f_values_of) = true)
    (a_movables_of : PySem.W.nsIn K mainGlobals "movables_of" = some (some (.ref f_movables_of))) (l_movables_of : K.lookup f_movables_of = some ⟨oc_movables_of, od_movables_of, .func (PySem.W.fnOf "movables_of" "movables_of" (defArgs s_movables_of) (defBody s_movables_of) (defScope s_movables_of) .none kV_movables_of dc_movables_of pm_movables_of an_movables_of cd_movables_of ct_movables_of), sl_movables_of⟩) (c_movables_of : PySem.W.codeIn K cd_movables_of "movables_of" = true) (k_movables_of : PySem.W.keepIn K (.ref f_movables_of) = true)
    (a_set_value : PySem.W.nsIn K mainGlobals "set_value" = some (some (.ref f_set_value))) (l_set_value : K.lookup f_set_value = some ⟨oc_set_value, od_set_value, .func (PySem.W.fnOf "set_value" "set_value" (defArgs s_set_value) (defBody s_set_value) (defScope s_set_value) .none kV_set_value dc_set_value pm_set_value an_set_value cd_set_value ct_set_value), sl_set_value⟩) (c_set_value : PySem.W.codeIn K cd_set_value "set_value" = true) (k_set_value : PySem.W.keepIn K (.ref f_set_value) = true)
    (a_filled_rows : PySem.W.nsIn K mainGlobals "filled_rows" = some (some (.ref f_filled_rows))) (l_filled_rows : K.lookup f_filled_rows = some ⟨oc_filled_rows, od_filled_rows, .func (PySem.W.fnOf "filled_rows" "filled_rows" (defArgs s_filled_rows) (defBody s_filled_rows) (defScope s_filled_rows) .none kV_filled_rows dc_filled_rows pm_filled_rows an_filled_rows cd_filled_rows ct_filled_rows), sl_filled_rows⟩) (c_filled_rows : PySem.W.codeIn K cd_filled_rows "filled_rows" = true) (k_filled_rows : PySem.W.keepIn K (.ref f_filled_rows) = true)
    (a_conditions : PySem.W.nsIn K mainGlobals "_conditions" = some (some (.ref f_conditions))) (l_conditions : K.lookup f_conditions = some ⟨oc_conditions, od_conditions, .func (PySem.W.fnOf "_conditions" "_conditions" (defArgs s_conditions) (defBody s_conditions) (defScope s_conditions) .none kV_conditions dc_conditions pm_conditions an_conditions cd_conditions ct_conditions), sl_conditions⟩) (c_conditions : PySem.W.codeIn K cd_conditions "_conditions" = true) (k_conditions : PySem.W.keepIn K (.ref f_conditions) = true)
    (a_meets : PySem.W.nsIn K mainGlobals "_meets" = some (some (.ref f_meets))) (l_meets : K.lookup f_meets = some ⟨oc_meets, od_meets, .func (PySem.W.fnOf "_meets" "_meets" (defArgs s_meets) (defBody s_meets) (defScope s_meets) .none kV_meets dc_meets pm_meets an_meets cd_meets ct_meets), sl_meets⟩) (c_meets : PySem.W.codeIn K cd_meets "_meets" = true) (k_meets : PySem.W.keepIn K (.ref f_meets) = true)
    (a_partners : PySem.W.nsIn K mainGlobals "partners" = some (some (.ref f_partners))) (l_partners : K.lookup f_partners = some ⟨oc_partners, od_partners, .func (PySem.W.fnOf "partners" "partners" (defArgs s_partners) (defBody s_partners) (defScope s_partners) .none kV_partners dc_partners pm_partners an_partners cd_partners ct_partners), sl_partners⟩) (c_partners : PySem.W.codeIn K cd_partners "partners" = true) (k_partners : PySem.W.keepIn K (.ref f_partners) = true)
    (a_set_by : PySem.W.nsIn K mainGlobals "set_by" = some (some (.ref f_set_by))) (l_set_by : K.lookup f_set_by = some ⟨oc_set_by, od_set_by, .func (PySem.W.fnOf "set_by" "set_by" (defArgs s_set_by) (defBody s_set_by) (defScope s_set_by) .none kV_set_by dc_set_by pm_set_by an_set_by cd_set_by ct_set_by), sl_set_by⟩) (c_set_by : PySem.W.codeIn K cd_set_by "set_by" = true) (k_set_by : PySem.W.keepIn K (.ref f_set_by) = true)
    (a_is_fold : PySem.W.nsIn K mainGlobals "is_fold" = some (some (.ref f_is_fold))) (l_is_fold : K.lookup f_is_fold = some ⟨oc_is_fold, od_is_fold, .func (PySem.W.fnOf "is_fold" "is_fold" (defArgs s_is_fold) (defBody s_is_fold) (defScope s_is_fold) .none kV_is_fold dc_is_fold pm_is_fold an_is_fold cd_is_fold ct_is_fold), sl_is_fold⟩) (c_is_fold : PySem.W.codeIn K cd_is_fold "is_fold" = true) (k_is_fold : PySem.W.keepIn K (.ref f_is_fold) = true)
    (a_closed_end : PySem.W.nsIn K mainGlobals "closed_end" = some (some (.ref f_closed_end))) (l_closed_end : K.lookup f_closed_end = some ⟨oc_closed_end, od_closed_end, .func (PySem.W.fnOf "closed_end" "closed_end" (defArgs s_closed_end) (defBody s_closed_end) (defScope s_closed_end) .none kV_closed_end dc_closed_end pm_closed_end an_closed_end cd_closed_end ct_closed_end), sl_closed_end⟩) (c_closed_end : PySem.W.codeIn K cd_closed_end "closed_end" = true) (k_closed_end : PySem.W.keepIn K (.ref f_closed_end) = true)
    (a_is_closed : PySem.W.nsIn K mainGlobals "is_closed" = some (some (.ref f_is_closed))) (l_is_closed : K.lookup f_is_closed = some ⟨oc_is_closed, od_is_closed, .func (PySem.W.fnOf "is_closed" "is_closed" (defArgs s_is_closed) (defBody s_is_closed) (defScope s_is_closed) (.ref T_is_closed) kV_is_closed dc_is_closed pm_is_closed an_is_closed cd_is_closed ct_is_closed), sl_is_closed⟩) (c_is_closed : PySem.W.codeIn K cd_is_closed "is_closed" = true) (k_is_closed : PySem.W.keepIn K (.ref f_is_closed) = true)
    (a_law_pool : PySem.W.nsIn K mainGlobals "_law_pool" = some (some (.ref f_law_pool))) (l_law_pool : K.lookup f_law_pool = some ⟨oc_law_pool, od_law_pool, .func (PySem.W.fnOf "_law_pool" "_law_pool" (defArgs s_law_pool) (defBody s_law_pool) (defScope s_law_pool) .none kV_law_pool dc_law_pool pm_law_pool an_law_pool cd_law_pool ct_law_pool), sl_law_pool⟩) (c_law_pool : PySem.W.codeIn K cd_law_pool "_law_pool" = true) (k_law_pool : PySem.W.keepIn K (.ref f_law_pool) = true)
    (a_law_pick : PySem.W.nsIn K mainGlobals "_law_pick" = some (some (.ref f_law_pick))) (l_law_pick : K.lookup f_law_pick = some ⟨oc_law_pick, od_law_pick, .func (PySem.W.fnOf "_law_pick" "_law_pick" (defArgs s_law_pick) (defBody s_law_pick) (defScope s_law_pick) .none kV_law_pick dc_law_pick pm_law_pick an_law_pick cd_law_pick ct_law_pick), sl_law_pick⟩) (c_law_pick : PySem.W.codeIn K cd_law_pick "_law_pick" = true) (k_law_pick : PySem.W.keepIn K (.ref f_law_pick) = true)
    (a_law_one_of : PySem.W.nsIn K mainGlobals "_law_one_of" = some (some (.ref f_law_one_of))) (l_law_one_of : K.lookup f_law_one_of = some ⟨oc_law_one_of, od_law_one_of, .func (PySem.W.fnOf "_law_one_of" "_law_one_of" (defArgs s_law_one_of) (defBody s_law_one_of) (defScope s_law_one_of) .none kV_law_one_of dc_law_one_of pm_law_one_of an_law_one_of cd_law_one_of ct_law_one_of), sl_law_one_of⟩) (c_law_one_of : PySem.W.codeIn K cd_law_one_of "_law_one_of" = true) (k_law_one_of : PySem.W.keepIn K (.ref f_law_one_of) = true)
    (a_law_names : PySem.W.nsIn K mainGlobals "_law_names" = some (some (.ref f_law_names))) (l_law_names : K.lookup f_law_names = some ⟨oc_law_names, od_law_names, .func (PySem.W.fnOf "_law_names" "_law_names" (defArgs s_law_names) (defBody s_law_names) (defScope s_law_names) .none kV_law_names dc_law_names pm_law_names an_law_names cd_law_names ct_law_names), sl_law_names⟩) (c_law_names : PySem.W.codeIn K cd_law_names "_law_names" = true) (k_law_names : PySem.W.keepIn K (.ref f_law_names) = true)
    (a_law_movable_values : PySem.W.nsIn K mainGlobals "_law_movable_values" = some (some (.ref f_law_movable_values))) (l_law_movable_values : K.lookup f_law_movable_values = some ⟨oc_law_movable_values, od_law_movable_values, .func (PySem.W.fnOf "_law_movable_values" "_law_movable_values" (defArgs s_law_movable_values) (defBody s_law_movable_values) (defScope s_law_movable_values) .none kV_law_movable_values dc_law_movable_values pm_law_movable_values an_law_movable_values cd_law_movable_values ct_law_movable_values), sl_law_movable_values⟩) (c_law_movable_values : PySem.W.codeIn K cd_law_movable_values "_law_movable_values" = true) (k_law_movable_values : PySem.W.keepIn K (.ref f_law_movable_values) = true)
    (a_law_rows : PySem.W.nsIn K mainGlobals "_law_rows" = some (some (.ref f_law_rows))) (l_law_rows : K.lookup f_law_rows = some ⟨oc_law_rows, od_law_rows, .func (PySem.W.fnOf "_law_rows" "_law_rows" (defArgs s_law_rows) (defBody s_law_rows) (defScope s_law_rows) .none kV_law_rows dc_law_rows pm_law_rows an_law_rows cd_law_rows ct_law_rows), sl_law_rows⟩) (c_law_rows : PySem.W.codeIn K cd_law_rows "_law_rows" = true) (k_law_rows : PySem.W.keepIn K (.ref f_law_rows) = true)
    (a_law_is_word : PySem.W.nsIn K mainGlobals "_law_is_word" = some (some (.ref f_law_is_word))) (l_law_is_word : K.lookup f_law_is_word = some ⟨oc_law_is_word, od_law_is_word, .func (PySem.W.fnOf "_law_is_word" "_law_is_word" (defArgs s_law_is_word) (defBody s_law_is_word) (defScope s_law_is_word) .none kV_law_is_word dc_law_is_word pm_law_is_word an_law_is_word cd_law_is_word ct_law_is_word), sl_law_is_word⟩) (c_law_is_word : PySem.W.codeIn K cd_law_is_word "_law_is_word" = true) (k_law_is_word : PySem.W.keepIn K (.ref f_law_is_word) = true)
    (a_law_values : PySem.W.nsIn K mainGlobals "_law_values" = some (some (.ref f_law_values))) (l_law_values : K.lookup f_law_values = some ⟨oc_law_values, od_law_values, .func (PySem.W.fnOf "_law_values" "_law_values" (defArgs s_law_values) (defBody s_law_values) (defScope s_law_values) .none kV_law_values dc_law_values pm_law_values an_law_values cd_law_values ct_law_values), sl_law_values⟩) (c_law_values : PySem.W.codeIn K cd_law_values "_law_values" = true) (k_law_values : PySem.W.keepIn K (.ref f_law_values) = true)
    (a_law_movables : PySem.W.nsIn K mainGlobals "_law_movables" = some (some (.ref f_law_movables))) (l_law_movables : K.lookup f_law_movables = some ⟨oc_law_movables, od_law_movables, .func (PySem.W.fnOf "_law_movables" "_law_movables" (defArgs s_law_movables) (defBody s_law_movables) (defScope s_law_movables) .none kV_law_movables dc_law_movables pm_law_movables an_law_movables cd_law_movables ct_law_movables), sl_law_movables⟩) (c_law_movables : PySem.W.codeIn K cd_law_movables "_law_movables" = true) (k_law_movables : PySem.W.keepIn K (.ref f_law_movables) = true)
    (a_law_set : PySem.W.nsIn K mainGlobals "_law_set" = some (some (.ref f_law_set))) (l_law_set : K.lookup f_law_set = some ⟨oc_law_set, od_law_set, .func (PySem.W.fnOf "_law_set" "_law_set" (defArgs s_law_set) (defBody s_law_set) (defScope s_law_set) .none kV_law_set dc_law_set pm_law_set an_law_set cd_law_set ct_law_set), sl_law_set⟩) (c_law_set : PySem.W.codeIn K cd_law_set "_law_set" = true) (k_law_set : PySem.W.keepIn K (.ref f_law_set) = true)
    (a_law_is_partner : PySem.W.nsIn K mainGlobals "_law_is_partner" = some (some (.ref f_law_is_partner))) (l_law_is_partner : K.lookup f_law_is_partner = some ⟨oc_law_is_partner, od_law_is_partner, .func (PySem.W.fnOf "_law_is_partner" "_law_is_partner" (defArgs s_law_is_partner) (defBody s_law_is_partner) (defScope s_law_is_partner) .none kV_law_is_partner dc_law_is_partner pm_law_is_partner an_law_is_partner cd_law_is_partner ct_law_is_partner), sl_law_is_partner⟩) (c_law_is_partner : PySem.W.codeIn K cd_law_is_partner "_law_is_partner" = true) (k_law_is_partner : PySem.W.keepIn K (.ref f_law_is_partner) = true)
    (a_law_set_by : PySem.W.nsIn K mainGlobals "_law_set_by" = some (some (.ref f_law_set_by))) (l_law_set_by : K.lookup f_law_set_by = some ⟨oc_law_set_by, od_law_set_by, .func (PySem.W.fnOf "_law_set_by" "_law_set_by" (defArgs s_law_set_by) (defBody s_law_set_by) (defScope s_law_set_by) .none kV_law_set_by dc_law_set_by pm_law_set_by an_law_set_by cd_law_set_by ct_law_set_by), sl_law_set_by⟩) (c_law_set_by : PySem.W.codeIn K cd_law_set_by "_law_set_by" = true) (k_law_set_by : PySem.W.keepIn K (.ref f_law_set_by) = true)
    (a_law_fold_due : PySem.W.nsIn K mainGlobals "_law_fold_due" = some (some (.ref f_law_fold_due))) (l_law_fold_due : K.lookup f_law_fold_due = some ⟨oc_law_fold_due, od_law_fold_due, .func (PySem.W.fnOf "_law_fold_due" "_law_fold_due" (defArgs s_law_fold_due) (defBody s_law_fold_due) (defScope s_law_fold_due) .none kV_law_fold_due dc_law_fold_due pm_law_fold_due an_law_fold_due cd_law_fold_due ct_law_fold_due), sl_law_fold_due⟩) (c_law_fold_due : PySem.W.codeIn K cd_law_fold_due "_law_fold_due" = true) (k_law_fold_due : PySem.W.keepIn K (.ref f_law_fold_due) = true)
    (a_law_fold_holds : PySem.W.nsIn K mainGlobals "_law_fold_holds" = some (some (.ref f_law_fold_holds))) (l_law_fold_holds : K.lookup f_law_fold_holds = some ⟨oc_law_fold_holds, od_law_fold_holds, .func (PySem.W.fnOf "_law_fold_holds" "_law_fold_holds" (defArgs s_law_fold_holds) (defBody s_law_fold_holds) (defScope s_law_fold_holds) .none kV_law_fold_holds dc_law_fold_holds pm_law_fold_holds an_law_fold_holds cd_law_fold_holds ct_law_fold_holds), sl_law_fold_holds⟩) (c_law_fold_holds : PySem.W.codeIn K cd_law_fold_holds "_law_fold_holds" = true) (k_law_fold_holds : PySem.W.keepIn K (.ref f_law_fold_holds) = true)
    (a_law_spoilt_fold : PySem.W.nsIn K mainGlobals "_law_spoilt_fold" = some (some (.ref f_law_spoilt_fold))) (l_law_spoilt_fold : K.lookup f_law_spoilt_fold = some ⟨oc_law_spoilt_fold, od_law_spoilt_fold, .func (PySem.W.fnOf "_law_spoilt_fold" "_law_spoilt_fold" (defArgs s_law_spoilt_fold) (defBody s_law_spoilt_fold) (defScope s_law_spoilt_fold) .none kV_law_spoilt_fold dc_law_spoilt_fold pm_law_spoilt_fold an_law_spoilt_fold cd_law_spoilt_fold ct_law_spoilt_fold), sl_law_spoilt_fold⟩) (c_law_spoilt_fold : PySem.W.codeIn K cd_law_spoilt_fold "_law_spoilt_fold" = true) (k_law_spoilt_fold : PySem.W.keepIn K (.ref f_law_spoilt_fold) = true)
    (a_law_folds_hold : PySem.W.nsIn K mainGlobals "_law_folds_hold" = some (some (.ref f_law_folds_hold))) (l_law_folds_hold : K.lookup f_law_folds_hold = some ⟨oc_law_folds_hold, od_law_folds_hold, .func (PySem.W.fnOf "_law_folds_hold" "_law_folds_hold" (defArgs s_law_folds_hold) (defBody s_law_folds_hold) (defScope s_law_folds_hold) .none kV_law_folds_hold dc_law_folds_hold pm_law_folds_hold an_law_folds_hold cd_law_folds_hold ct_law_folds_hold), sl_law_folds_hold⟩) (c_law_folds_hold : PySem.W.codeIn K cd_law_folds_hold "_law_folds_hold" = true) (k_law_folds_hold : PySem.W.keepIn K (.ref f_law_folds_hold) = true)
    (a_law_closed_due : PySem.W.nsIn K mainGlobals "_law_closed_due" = some (some (.ref f_law_closed_due))) (l_law_closed_due : K.lookup f_law_closed_due = some ⟨oc_law_closed_due, od_law_closed_due, .func (PySem.W.fnOf "_law_closed_due" "_law_closed_due" (defArgs s_law_closed_due) (defBody s_law_closed_due) (defScope s_law_closed_due) .none kV_law_closed_due dc_law_closed_due pm_law_closed_due an_law_closed_due cd_law_closed_due ct_law_closed_due), sl_law_closed_due⟩) (c_law_closed_due : PySem.W.codeIn K cd_law_closed_due "_law_closed_due" = true) (k_law_closed_due : PySem.W.keepIn K (.ref f_law_closed_due) = true)
    (a_law_closed_holds : PySem.W.nsIn K mainGlobals "_law_closed_holds" = some (some (.ref f_law_closed_holds))) (l_law_closed_holds : K.lookup f_law_closed_holds = some ⟨oc_law_closed_holds, od_law_closed_holds, .func (PySem.W.fnOf "_law_closed_holds" "_law_closed_holds" (defArgs s_law_closed_holds) (defBody s_law_closed_holds) (defScope s_law_closed_holds) .none kV_law_closed_holds dc_law_closed_holds pm_law_closed_holds an_law_closed_holds cd_law_closed_holds ct_law_closed_holds), sl_law_closed_holds⟩) (c_law_closed_holds : PySem.W.codeIn K cd_law_closed_holds "_law_closed_holds" = true) (k_law_closed_holds : PySem.W.keepIn K (.ref f_law_closed_holds) = true)
    (a_law_closed_rows : PySem.W.nsIn K mainGlobals "_law_closed_rows" = some (some (.ref f_law_closed_rows))) (l_law_closed_rows : K.lookup f_law_closed_rows = some ⟨oc_law_closed_rows, od_law_closed_rows, .func (PySem.W.fnOf "_law_closed_rows" "_law_closed_rows" (defArgs s_law_closed_rows) (defBody s_law_closed_rows) (defScope s_law_closed_rows) .none kV_law_closed_rows dc_law_closed_rows pm_law_closed_rows an_law_closed_rows cd_law_closed_rows ct_law_closed_rows), sl_law_closed_rows⟩) (c_law_closed_rows : PySem.W.codeIn K cd_law_closed_rows "_law_closed_rows" = true) (k_law_closed_rows : PySem.W.keepIn K (.ref f_law_closed_rows) = true)
    (a_law_spoilt_rows : PySem.W.nsIn K mainGlobals "_law_spoilt_rows" = some (some (.ref f_law_spoilt_rows))) (l_law_spoilt_rows : K.lookup f_law_spoilt_rows = some ⟨oc_law_spoilt_rows, od_law_spoilt_rows, .func (PySem.W.fnOf "_law_spoilt_rows" "_law_spoilt_rows" (defArgs s_law_spoilt_rows) (defBody s_law_spoilt_rows) (defScope s_law_spoilt_rows) .none kV_law_spoilt_rows dc_law_spoilt_rows pm_law_spoilt_rows an_law_spoilt_rows cd_law_spoilt_rows ct_law_spoilt_rows), sl_law_spoilt_rows⟩) (c_law_spoilt_rows : PySem.W.codeIn K cd_law_spoilt_rows "_law_spoilt_rows" = true) (k_law_spoilt_rows : PySem.W.keepIn K (.ref f_law_spoilt_rows) = true)
    (a_law_lists_hold : PySem.W.nsIn K mainGlobals "_law_lists_hold" = some (some (.ref f_law_lists_hold))) (l_law_lists_hold : K.lookup f_law_lists_hold = some ⟨oc_law_lists_hold, od_law_lists_hold, .func (PySem.W.fnOf "_law_lists_hold" "_law_lists_hold" (defArgs s_law_lists_hold) (defBody s_law_lists_hold) (defScope s_law_lists_hold) .none kV_law_lists_hold dc_law_lists_hold pm_law_lists_hold an_law_lists_hold cd_law_lists_hold ct_law_lists_hold), sl_law_lists_hold⟩) (c_law_lists_hold : PySem.W.codeIn K cd_law_lists_hold "_law_lists_hold" = true) (k_law_lists_hold : PySem.W.keepIn K (.ref f_law_lists_hold) = true)
    (a_law : PySem.W.nsIn K mainGlobals "law" = some (some (.ref f_law))) (l_law : K.lookup f_law = some ⟨oc_law, od_law, .func (PySem.W.fnOf "law" "law" (defArgs s_law) (defBody s_law) (defScope s_law) .none kV_law dc_law pm_law an_law cd_law ct_law), sl_law⟩) (c_law : PySem.W.codeIn K cd_law "law" = true) (k_law : PySem.W.keepIn K (.ref f_law) = true)
    (t_is_closed : K.lookup T_is_closed = some ⟨tc_, td_, .seq #[.none] tn_, tsl_⟩)
    (z_abs : PySem.W.nsIn K mainGlobals "abs" = some none)
    (z_all : PySem.W.nsIn K mainGlobals "all" = some none)
    (z_dict : PySem.W.nsIn K mainGlobals "dict" = some none)
    (z_enumerate : PySem.W.nsIn K mainGlobals "enumerate" = some none)
    (z_int : PySem.W.nsIn K mainGlobals "int" = some none)
    (z_len : PySem.W.nsIn K mainGlobals "len" = some none)
    (z_list : PySem.W.nsIn K mainGlobals "list" = some none)
    (z_range : PySem.W.nsIn K mainGlobals "range" = some none)
    (z_reversed : PySem.W.nsIn K mainGlobals "reversed" = some none)
    (z_set : PySem.W.nsIn K mainGlobals "set" = some none)
    (z_sorted : PySem.W.nsIn K mainGlobals "sorted" = some none)
    (z_str : PySem.W.nsIn K mainGlobals "str" = some none)
    (z_tuple : PySem.W.nsIn K mainGlobals "tuple" = some none)
    (z_zip : PySem.W.nsIn K mainGlobals "zip" = some none) :
    ∃ fd : FuncData, (∀ (s : Shared) (v : Value), BindsTo s fd ⟨[v], []⟩ [("script", v)]) ∧ ∀ base : Heap, K.In base → base.Ns mainGlobals mg → FnOk PySem.Challenge.rw_mappedtwice_k10_folds_spoiled.prog w K mg base CX0 8 fa fd ["script"] (sp_law K) := by
  have e := hfa.symm.trans (PySem.W.mg_of X G a_law)
  cases e
  have T : Txt mg := ⟨PySem.W.mg_none_of X G z_abs, PySem.W.mg_none_of X G z_all, PySem.W.mg_none_of X G z_dict, PySem.W.mg_none_of X G z_enumerate, PySem.W.mg_none_of X G z_int, PySem.W.mg_none_of X G z_len, PySem.W.mg_none_of X G z_list, PySem.W.mg_none_of X G z_range, PySem.W.mg_none_of X G z_reversed, PySem.W.mg_none_of X G z_set, PySem.W.mg_none_of X G z_sorted, PySem.W.mg_none_of X G z_str, PySem.W.mg_none_of X G z_tuple, PySem.W.mg_none_of X G z_zip⟩
  have F_is_word := fun_mk (st := s_is_word) l_is_word c_is_word k_is_word
  have b_is_word := F_is_word.binds (ps := ["text"]) fun _ _ _ _ _ _ us hl => match us, hl with | [_], _ => rfl
  have F_values_of := fun_mk (st := s_values_of) l_values_of c_values_of k_values_of
  have b_values_of := F_values_of.binds (ps := ["rows"]) fun _ _ _ _ _ _ us hl => match us, hl with | [_], _ => rfl
  have F_movables_of := fun_mk (st := s_movables_of) l_movables_of c_movables_of k_movables_of
  have b_movables_of := F_movables_of.binds (ps := ["rows"]) fun _ _ _ _ _ _ us hl => match us, hl with | [_], _ => rfl
  have F_set_value := fun_mk (st := s_set_value) l_set_value c_set_value k_set_value
  have b_set_value := F_set_value.binds (ps := ["value", "setting"]) fun _ _ _ _ _ _ us hl => match us, hl with | [_, _], _ => rfl
  have F_filled_rows := fun_mk (st := s_filled_rows) l_filled_rows c_filled_rows k_filled_rows
  have b_filled_rows := F_filled_rows.binds (ps := ["rows", "setting"]) fun _ _ _ _ _ _ us hl => match us, hl with | [_, _], _ => rfl
  have F_conditions := fun_mk (st := s_conditions) l_conditions c_conditions k_conditions
  have b_conditions := F_conditions.binds (ps := ["row", "setting"]) fun _ _ _ _ _ _ us hl => match us, hl with | [_, _], _ => rfl
  have F_meets := fun_mk (st := s_meets) l_meets c_meets k_meets
  have b_meets := F_meets.binds (ps := ["row", "fixed", "equal"]) fun _ _ _ _ _ _ us hl => match us, hl with | [_, _, _], _ => rfl
  have F_partners := fun_mk (st := s_partners) l_partners c_partners k_partners
  have b_partners := F_partners.binds (ps := ["row", "setting", "rows"]) fun _ _ _ _ _ _ us hl => match us, hl with | [_, _, _], _ => rfl
  have F_set_by := fun_mk (st := s_set_by) l_set_by c_set_by k_set_by
  have b_set_by := F_set_by.binds (ps := ["row", "partner", "setting"]) fun _ _ _ _ _ _ us hl => match us, hl with | [_, _, _], _ => rfl
  have F_is_fold := fun_mk (st := s_is_fold) l_is_fold c_is_fold k_is_fold
  have b_is_fold := F_is_fold.binds (ps := ["small", "big", "fold"]) fun _ _ _ _ _ _ us hl => match us, hl with | [_, _, _], _ => rfl
  have kb_is_fold := kb_fold F_is_fold fun _ _ _ _ _ _ _ _ _ => rfl
  have F_closed_end := fun_mk (st := s_closed_end) l_closed_end c_closed_end k_closed_end
  have b_closed_end := F_closed_end.binds (ps := ["small", "big", "rows", "at", "setting"]) fun _ _ _ _ _ _ us hl => match us, hl with | [_, _, _, _, _], _ => rfl
  have F_is_closed := fund_mk (st := s_is_closed) l_is_closed c_is_closed k_is_closed t_is_closed
  have b_is_closed : Binds K _ ["small", "big", "rows", "setting"] [] := fund_binds4 F_is_closed fun T kV doc pm an cdv ct a b c d => ⟨_, rfl, fun _ => rfl⟩
  have kb1_is_closed := kb_cl1 F_is_closed fun T kV doc pm an cdv ct a b c => ⟨_, rfl, rfl⟩
  have kb2_is_closed := kb_cl2 F_is_closed fun T kV doc pm an cdv ct a b c d => ⟨_, rfl, fun _ => rfl⟩
  have F_law_pool := fun_mk (st := s_law_pool) l_law_pool c_law_pool k_law_pool
  have b_law_pool := F_law_pool.binds (ps := ["script"]) fun _ _ _ _ _ _ us hl => match us, hl with | [_], _ => rfl
  have F_law_pick := fun_mk (st := s_law_pick) l_law_pick c_law_pick k_law_pick
  have b_law_pick := F_law_pick.binds (ps := ["pool", "many"]) fun _ _ _ _ _ _ us hl => match us, hl with | [_, _], _ => rfl
  have F_law_one_of := fun_mk (st := s_law_one_of) l_law_one_of c_law_one_of k_law_one_of
  have b_law_one_of := F_law_one_of.binds (ps := ["pool", "things"]) fun _ _ _ _ _ _ us hl => match us, hl with | [_, _], _ => rfl
  have F_law_names := fun_mk (st := s_law_names) l_law_names c_law_names k_law_names
  have b_law_names := F_law_names.binds (ps := ["pool", "many", "signs"]) fun _ _ _ _ _ _ us hl => match us, hl with | [_, _, _], _ => rfl
  have F_law_movable_values := fun_mk (st := s_law_movable_values) l_law_movable_values c_law_movable_values k_law_movable_values
  have b_law_movable_values := F_law_movable_values.binds (ps := ["pool", "words"]) fun _ _ _ _ _ _ us hl => match us, hl with | [_, _], _ => rfl
  have F_law_rows := fun_mk (st := s_law_rows) l_law_rows c_law_rows k_law_rows
  have b_law_rows := F_law_rows.binds (ps := ["pool", "tables", "values", "many"]) fun _ _ _ _ _ _ us hl => match us, hl with | [_, _, _, _], _ => rfl
  have F_law_is_word := fun_mk (st := s_law_is_word) l_law_is_word c_law_is_word k_law_is_word
  have b_law_is_word := F_law_is_word.binds (ps := ["text"]) fun _ _ _ _ _ _ us hl => match us, hl with | [_], _ => rfl
  have F_law_values := fun_mk (st := s_law_values) l_law_values c_law_values k_law_values
  have b_law_values := F_law_values.binds (ps := ["rows"]) fun _ _ _ _ _ _ us hl => match us, hl with | [_], _ => rfl
  have F_law_movables := fun_mk (st := s_law_movables) l_law_movables c_law_movables k_law_movables
  have b_law_movables := F_law_movables.binds (ps := ["rows"]) fun _ _ _ _ _ _ us hl => match us, hl with | [_], _ => rfl
  have F_law_set := fun_mk (st := s_law_set) l_law_set c_law_set k_law_set
  have b_law_set := F_law_set.binds (ps := ["row", "setting"]) fun _ _ _ _ _ _ us hl => match us, hl with | [_, _], _ => rfl
  have F_law_is_partner := fun_mk (st := s_law_is_partner) l_law_is_partner c_law_is_partner k_law_is_partner
  have b_law_is_partner := F_law_is_partner.binds (ps := ["row", "other", "setting"]) fun _ _ _ _ _ _ us hl => match us, hl with | [_, _, _], _ => rfl
  have F_law_set_by := fun_mk (st := s_law_set_by) l_law_set_by c_law_set_by k_law_set_by
  have b_law_set_by := F_law_set_by.binds (ps := ["row", "partner", "setting"]) fun _ _ _ _ _ _ us hl => match us, hl with | [_, _, _], _ => rfl
  have F_law_fold_due := fun_mk (st := s_law_fold_due) l_law_fold_due c_law_fold_due k_law_fold_due
  have b_law_fold_due := F_law_fold_due.binds (ps := ["small", "big", "fold"]) fun _ _ _ _ _ _ us hl => match us, hl with | [_, _, _], _ => rfl
  have F_law_fold_holds := fun_mk (st := s_law_fold_holds) l_law_fold_holds c_law_fold_holds k_law_fold_holds
  have b_law_fold_holds := F_law_fold_holds.binds (ps := ["small", "big", "fold"]) fun _ _ _ _ _ _ us hl => match us, hl with | [_, _, _], _ => rfl
  have F_law_spoilt_fold := fun_mk (st := s_law_spoilt_fold) l_law_spoilt_fold c_law_spoilt_fold k_law_spoilt_fold
  have b_law_spoilt_fold := F_law_spoilt_fold.binds (ps := ["pool", "fold", "movable", "words"]) fun _ _ _ _ _ _ us hl => match us, hl with | [_, _, _, _], _ => rfl
  have F_law_folds_hold := fun_mk (st := s_law_folds_hold) l_law_folds_hold c_law_folds_hold k_law_folds_hold
  have b_law_folds_hold := F_law_folds_hold.binds (ps := ["pool", "small", "big", "hidden", "movable", "words"]) fun _ _ _ _ _ _ us hl => match us, hl with | [_, _, _, _, _, _], _ => rfl
  have F_law_closed_due := fun_mk (st := s_law_closed_due) l_law_closed_due c_law_closed_due k_law_closed_due
  have b_law_closed_due := F_law_closed_due.binds (ps := ["small", "big", "rows", "setting"]) fun _ _ _ _ _ _ us hl => match us, hl with | [_, _, _, _], _ => rfl
  have F_law_closed_holds := fun_mk (st := s_law_closed_holds) l_law_closed_holds c_law_closed_holds k_law_closed_holds
  have b_law_closed_holds := F_law_closed_holds.binds (ps := ["small", "big", "rows", "setting"]) fun _ _ _ _ _ _ us hl => match us, hl with | [_, _, _, _], _ => rfl
  have F_law_closed_rows := fun_mk (st := s_law_closed_rows) l_law_closed_rows c_law_closed_rows k_law_closed_rows
  have b_law_closed_rows := F_law_closed_rows.binds (ps := ["big", "order", "setting"]) fun _ _ _ _ _ _ us hl => match us, hl with | [_, _, _], _ => rfl
  have F_law_spoilt_rows := fun_mk (st := s_law_spoilt_rows) l_law_spoilt_rows c_law_spoilt_rows k_law_spoilt_rows
  have b_law_spoilt_rows := F_law_spoilt_rows.binds (ps := ["pool", "rows", "small", "spare"]) fun _ _ _ _ _ _ us hl => match us, hl with | [_, _, _, _], _ => rfl
  have F_law_lists_hold := fun_mk (st := s_law_lists_hold) l_law_lists_hold c_law_lists_hold k_law_lists_hold
  have b_law_lists_hold := F_law_lists_hold.binds (ps := ["pool", "small", "big", "strange", "spare", "setting"]) fun _ _ _ _ _ _ us hl => match us, hl with | [_, _, _, _, _, _], _ => rfl
  have F_law := fun_mk (st := s_law) l_law c_law k_law
  refine ⟨PySem.W.fnOf "law" "law" (defArgs s_law) (defBody s_law) (defScope s_law) .none kV_law dc_law pm_law an_law cd_law ct_law, fun s v => .of_eq rfl, fun base _ _ => ?_⟩
  have C_is_word : Cal PySem.Challenge.rw_mappedtwice_k10_folds_spoiled.prog w K mg base "is_word" s_is_word ["text"] 1 f_is_word _ (sp_is_word K PySem.Challenge.rw_mappedtwice_k10_folds_spoiled.prog w) := ⟨⟨F_is_word, b_is_word, PySem.W.mg_of X G a_is_word⟩, ok_is_word (P := PySem.Challenge.rw_mappedtwice_k10_folds_spoiled.prog) (w := w) (base := base) F_is_word T ⟩
  have C_values_of : Cal PySem.Challenge.rw_mappedtwice_k10_folds_spoiled.prog w K mg base "values_of" s_values_of ["rows"] 1 f_values_of _ (sp_values_of K PySem.Challenge.rw_mappedtwice_k10_folds_spoiled.prog w) := ⟨⟨F_values_of, b_values_of, PySem.W.mg_of X G a_values_of⟩, ok_values_of (P := PySem.Challenge.rw_mappedtwice_k10_folds_spoiled.prog) (w := w) (base := base) F_values_of T ⟩
  have C_movables_of : Cal PySem.Challenge.rw_mappedtwice_k10_folds_spoiled.prog w K mg base "movables_of" s_movables_of ["rows"] 2 f_movables_of _ (sp_movables_of K PySem.Challenge.rw_mappedtwice_k10_folds_spoiled.prog w) := ⟨⟨F_movables_of, b_movables_of, PySem.W.mg_of X G a_movables_of⟩, ok_movables_of (P := PySem.Challenge.rw_mappedtwice_k10_folds_spoiled.prog) (w := w) (base := base) F_movables_of T C_values_of C_is_word⟩
  have C_set_value : Cal PySem.Challenge.rw_mappedtwice_k10_folds_spoiled.prog w K mg base "set_value" s_set_value ["value", "setting"] 1 f_set_value _ (sp_set_value K PySem.Challenge.rw_mappedtwice_k10_folds_spoiled.prog w) := ⟨⟨F_set_value, b_set_value, PySem.W.mg_of X G a_set_value⟩, ok_set_value (P := PySem.Challenge.rw_mappedtwice_k10_folds_spoiled.prog) (w := w) (base := base) F_set_value T ⟩
  have C_filled_rows : Cal PySem.Challenge.rw_mappedtwice_k10_folds_spoiled.prog w K mg base "filled_rows" s_filled_rows ["rows", "setting"] 2 f_filled_rows _ (sp_filled_rows K PySem.Challenge.rw_mappedtwice_k10_folds_spoiled.prog w) := ⟨⟨F_filled_rows, b_filled_rows, PySem.W.mg_of X G a_filled_rows⟩, ok_filled_rows (P := PySem.Challenge.rw_mappedtwice_k10_folds_spoiled.prog) (w := w) (base := base) F_filled_rows T C_set_value⟩
  have C_conditions : Cal PySem.Challenge.rw_mappedtwice_k10_folds_spoiled.prog w K mg base "_conditions" s_conditions ["row", "setting"] 2 f_conditions _ (sp_conditions K PySem.Challenge.rw_mappedtwice_k10_folds_spoiled.prog w) := ⟨⟨F_conditions, b_conditions, PySem.W.mg_of X G a_conditions⟩, ok_conditions (P := PySem.Challenge.rw_mappedtwice_k10_folds_spoiled.prog) (w := w) (base := base) F_conditions T C_is_word⟩
  have C_meets : Cal PySem.Challenge.rw_mappedtwice_k10_folds_spoiled.prog w K mg base "_meets" s_meets ["row", "fixed", "equal"] 1 f_meets _ (sp_meets K PySem.Challenge.rw_mappedtwice_k10_folds_spoiled.prog w) := ⟨⟨F_meets, b_meets, PySem.W.mg_of X G a_meets⟩, ok_meets (P := PySem.Challenge.rw_mappedtwice_k10_folds_spoiled.prog) (w := w) (base := base) F_meets T ⟩
  have C_partners : Cal PySem.Challenge.rw_mappedtwice_k10_folds_spoiled.prog w K mg base "partners" s_partners ["row", "setting", "rows"] 3 f_partners _ (sp_partners K PySem.Challenge.rw_mappedtwice_k10_folds_spoiled.prog w) := ⟨⟨F_partners, b_partners, PySem.W.mg_of X G a_partners⟩, ok_partners (P := PySem.Challenge.rw_mappedtwice_k10_folds_spoiled.prog) (w := w) (base := base) F_partners T C_conditions C_meets⟩
  have C_set_by : Cal PySem.Challenge.rw_mappedtwice_k10_folds_spoiled.prog w K mg base "set_by" s_set_by ["row", "partner", "setting"] 2 f_set_by _ (sp_set_by K PySem.Challenge.rw_mappedtwice_k10_folds_spoiled.prog w) := ⟨⟨F_set_by, b_set_by, PySem.W.mg_of X G a_set_by⟩, ok_set_by (P := PySem.Challenge.rw_mappedtwice_k10_folds_spoiled.prog) (w := w) (base := base) F_set_by T C_is_word⟩
  have C_is_fold : CalF PySem.Challenge.rw_mappedtwice_k10_folds_spoiled.prog w K mg base "is_fold" s_is_fold ["small", "big", "fold"] 3 f_is_fold _ (sp_is_fold K PySem.Challenge.rw_mappedtwice_k10_folds_spoiled.prog w) := ⟨⟨⟨F_is_fold, b_is_fold, PySem.W.mg_of X G a_is_fold⟩, ok_is_fold (P := PySem.Challenge.rw_mappedtwice_k10_folds_spoiled.prog) (w := w) (base := base) F_is_fold T C_movables_of C_filled_rows⟩, kb_is_fold⟩
  have C_closed_end : Cal PySem.Challenge.rw_mappedtwice_k10_folds_spoiled.prog w K mg base "closed_end" s_closed_end ["small", "big", "rows", "at", "setting"] 4 f_closed_end _ (sp_closed_end K PySem.Challenge.rw_mappedtwice_k10_folds_spoiled.prog w) := ⟨⟨F_closed_end, b_closed_end, PySem.W.mg_of X G a_closed_end⟩, ok_closed_end (P := PySem.Challenge.rw_mappedtwice_k10_folds_spoiled.prog) (w := w) (base := base) F_closed_end T C_partners C_set_by⟩
  have C_is_closed : CalC PySem.Challenge.rw_mappedtwice_k10_folds_spoiled.prog w K mg base "is_closed" s_is_closed ["small", "big", "rows", "setting"] 5 f_is_closed _ (sp_is_closed K PySem.Challenge.rw_mappedtwice_k10_folds_spoiled.prog w) := ⟨⟨F_is_closed, b_is_closed, PySem.W.mg_of X G a_is_closed⟩, ok_is_closed (P := PySem.Challenge.rw_mappedtwice_k10_folds_spoiled.prog) (w := w) (base := base) F_is_closed T C_closed_end, kb1_is_closed, kb2_is_closed⟩
  have C_law_pool : Cal PySem.Challenge.rw_mappedtwice_k10_folds_spoiled.prog w K mg base "_law_pool" s_law_pool ["script"] 1 f_law_pool _ (sp_law_pool K) := ⟨⟨F_law_pool, b_law_pool, PySem.W.mg_of X G a_law_pool⟩, ok_law_pool (P := PySem.Challenge.rw_mappedtwice_k10_folds_spoiled.prog) (w := w) (base := base) F_law_pool T ⟩
  have C_law_pick : Cal PySem.Challenge.rw_mappedtwice_k10_folds_spoiled.prog w K mg base "_law_pick" s_law_pick ["pool", "many"] 1 f_law_pick _ (sp_law_pick K) := ⟨⟨F_law_pick, b_law_pick, PySem.W.mg_of X G a_law_pick⟩, ok_law_pick (P := PySem.Challenge.rw_mappedtwice_k10_folds_spoiled.prog) (w := w) (base := base) F_law_pick T ⟩
  have C_law_one_of : Cal PySem.Challenge.rw_mappedtwice_k10_folds_spoiled.prog w K mg base "_law_one_of" s_law_one_of ["pool", "things"] 2 f_law_one_of _ (sp_law_one_of K) := ⟨⟨F_law_one_of, b_law_one_of, PySem.W.mg_of X G a_law_one_of⟩, ok_law_one_of (P := PySem.Challenge.rw_mappedtwice_k10_folds_spoiled.prog) (w := w) (base := base) F_law_one_of T C_law_pick⟩
  have C_law_names : Cal PySem.Challenge.rw_mappedtwice_k10_folds_spoiled.prog w K mg base "_law_names" s_law_names ["pool", "many", "signs"] 3 f_law_names _ (sp_law_names K PySem.Challenge.rw_mappedtwice_k10_folds_spoiled.prog w) := ⟨⟨F_law_names, b_law_names, PySem.W.mg_of X G a_law_names⟩, ok_law_names (P := PySem.Challenge.rw_mappedtwice_k10_folds_spoiled.prog) (w := w) (base := base) F_law_names T C_law_pick C_law_one_of⟩
  have C_law_movable_values : Cal PySem.Challenge.rw_mappedtwice_k10_folds_spoiled.prog w K mg base "_law_movable_values" s_law_movable_values ["pool", "words"] 2 f_law_movable_values _ (sp_law_movable_values K PySem.Challenge.rw_mappedtwice_k10_folds_spoiled.prog w) := ⟨⟨F_law_movable_values, b_law_movable_values, PySem.W.mg_of X G a_law_movable_values⟩, ok_law_movable_values (P := PySem.Challenge.rw_mappedtwice_k10_folds_spoiled.prog) (w := w) (base := base) F_law_movable_values T C_law_pick⟩
  have C_law_rows : Cal PySem.Challenge.rw_mappedtwice_k10_folds_spoiled.prog w K mg base "_law_rows" s_law_rows ["pool", "tables", "values", "many"] 3 f_law_rows _ (sp_law_rows K PySem.Challenge.rw_mappedtwice_k10_folds_spoiled.prog w) := ⟨⟨F_law_rows, b_law_rows, PySem.W.mg_of X G a_law_rows⟩, ok_law_rows (P := PySem.Challenge.rw_mappedtwice_k10_folds_spoiled.prog) (w := w) (base := base) F_law_rows T C_law_one_of⟩
  have C_law_is_word : Cal PySem.Challenge.rw_mappedtwice_k10_folds_spoiled.prog w K mg base "_law_is_word" s_law_is_word ["text"] 1 f_law_is_word _ (sp_law_is_word K PySem.Challenge.rw_mappedtwice_k10_folds_spoiled.prog w) := ⟨⟨F_law_is_word, b_law_is_word, PySem.W.mg_of X G a_law_is_word⟩, ok_law_is_word (P := PySem.Challenge.rw_mappedtwice_k10_folds_spoiled.prog) (w := w) (base := base) F_law_is_word T ⟩
  have C_law_values : Cal PySem.Challenge.rw_mappedtwice_k10_folds_spoiled.prog w K mg base "_law_values" s_law_values ["rows"] 1 f_law_values _ (sp_law_values K PySem.Challenge.rw_mappedtwice_k10_folds_spoiled.prog w) := ⟨⟨F_law_values, b_law_values, PySem.W.mg_of X G a_law_values⟩, ok_law_values (P := PySem.Challenge.rw_mappedtwice_k10_folds_spoiled.prog) (w := w) (base := base) F_law_values T ⟩
  have C_law_movables : Cal PySem.Challenge.rw_mappedtwice_k10_folds_spoiled.prog w K mg base "_law_movables" s_law_movables ["rows"] 2 f_law_movables _ (sp_law_movables K PySem.Challenge.rw_mappedtwice_k10_folds_spoiled.prog w) := ⟨⟨F_law_movables, b_law_movables, PySem.W.mg_of X G a_law_movables⟩, ok_law_movables (P := PySem.Challenge.rw_mappedtwice_k10_folds_spoiled.prog) (w := w) (base := base) F_law_movables T C_law_values C_law_is_word⟩
  have C_law_set : Cal PySem.Challenge.rw_mappedtwice_k10_folds_spoiled.prog w K mg base "_law_set" s_law_set ["row", "setting"] 1 f_law_set _ (sp_law_set K PySem.Challenge.rw_mappedtwice_k10_folds_spoiled.prog w) := ⟨⟨F_law_set, b_law_set, PySem.W.mg_of X G a_law_set⟩, ok_law_set (P := PySem.Challenge.rw_mappedtwice_k10_folds_spoiled.prog) (w := w) (base := base) F_law_set T ⟩
  have C_law_is_partner : Cal PySem.Challenge.rw_mappedtwice_k10_folds_spoiled.prog w K mg base "_law_is_partner" s_law_is_partner ["row", "other", "setting"] 2 f_law_is_partner _ (sp_law_is_partner K PySem.Challenge.rw_mappedtwice_k10_folds_spoiled.prog w) := ⟨⟨F_law_is_partner, b_law_is_partner, PySem.W.mg_of X G a_law_is_partner⟩, ok_law_is_partner (P := PySem.Challenge.rw_mappedtwice_k10_folds_spoiled.prog) (w := w) (base := base) F_law_is_partner T C_law_is_word⟩
  have C_law_set_by : Cal PySem.Challenge.rw_mappedtwice_k10_folds_spoiled.prog w K mg base "_law_set_by" s_law_set_by ["row", "partner", "setting"] 2 f_law_set_by _ (sp_law_set_by K PySem.Challenge.rw_mappedtwice_k10_folds_spoiled.prog w) := ⟨⟨F_law_set_by, b_law_set_by, PySem.W.mg_of X G a_law_set_by⟩, ok_law_set_by (P := PySem.Challenge.rw_mappedtwice_k10_folds_spoiled.prog) (w := w) (base := base) F_law_set_by T C_law_is_word⟩
  have C_law_fold_due : Cal PySem.Challenge.rw_mappedtwice_k10_folds_spoiled.prog w K mg base "_law_fold_due" s_law_fold_due ["small", "big", "fold"] 3 f_law_fold_due _ (sp_law_fold_due K PySem.Challenge.rw_mappedtwice_k10_folds_spoiled.prog w) := ⟨⟨F_law_fold_due, b_law_fold_due, PySem.W.mg_of X G a_law_fold_due⟩, ok_law_fold_due (P := PySem.Challenge.rw_mappedtwice_k10_folds_spoiled.prog) (w := w) (base := base) F_law_fold_due T C_law_movables C_law_set⟩
  have C_law_fold_holds : Cal PySem.Challenge.rw_mappedtwice_k10_folds_spoiled.prog w K mg base "_law_fold_holds" s_law_fold_holds ["small", "big", "fold"] 4 f_law_fold_holds _ (sp_law_fold_holds K PySem.Challenge.rw_mappedtwice_k10_folds_spoiled.prog w) := ⟨⟨F_law_fold_holds, b_law_fold_holds, PySem.W.mg_of X G a_law_fold_holds⟩, ok_law_fold_holds (P := PySem.Challenge.rw_mappedtwice_k10_folds_spoiled.prog) (w := w) (base := base) F_law_fold_holds T C_law_fold_due C_is_fold⟩
  have C_law_spoilt_fold : Cal PySem.Challenge.rw_mappedtwice_k10_folds_spoiled.prog w K mg base "_law_spoilt_fold" s_law_spoilt_fold ["pool", "fold", "movable", "words"] 3 f_law_spoilt_fold _ (sp_law_spoilt_fold K PySem.Challenge.rw_mappedtwice_k10_folds_spoiled.prog w) := ⟨⟨F_law_spoilt_fold, b_law_spoilt_fold, PySem.W.mg_of X G a_law_spoilt_fold⟩, ok_law_spoilt_fold (P := PySem.Challenge.rw_mappedtwice_k10_folds_spoiled.prog) (w := w) (base := base) F_law_spoilt_fold T C_law_pick C_law_one_of⟩
  have C_law_folds_hold : Cal PySem.Challenge.rw_mappedtwice_k10_folds_spoiled.prog w K mg base "_law_folds_hold" s_law_folds_hold ["pool", "small", "big", "hidden", "movable", "words"] 5 f_law_folds_hold _ (sp_law_folds_hold K PySem.Challenge.rw_mappedtwice_k10_folds_spoiled.prog w) := ⟨⟨F_law_folds_hold, b_law_folds_hold, PySem.W.mg_of X G a_law_folds_hold⟩, ok_law_folds_hold (P := PySem.Challenge.rw_mappedtwice_k10_folds_spoiled.prog) (w := w) (base := base) F_law_folds_hold T C_law_movables C_law_fold_holds C_law_spoilt_fold C_law_pick⟩
  have C_law_closed_due : Cal PySem.Challenge.rw_mappedtwice_k10_folds_spoiled.prog w K mg base "_law_closed_due" s_law_closed_due ["small", "big", "rows", "setting"] 3 f_law_closed_due _ (sp_law_closed_due K PySem.Challenge.rw_mappedtwice_k10_folds_spoiled.prog w) := ⟨⟨F_law_closed_due, b_law_closed_due, PySem.W.mg_of X G a_law_closed_due⟩, ok_law_closed_due (P := PySem.Challenge.rw_mappedtwice_k10_folds_spoiled.prog) (w := w) (base := base) F_law_closed_due T C_law_is_partner C_law_set_by⟩
  have C_law_closed_holds : Cal PySem.Challenge.rw_mappedtwice_k10_folds_spoiled.prog w K mg base "_law_closed_holds" s_law_closed_holds ["small", "big", "rows", "setting"] 6 f_law_closed_holds _ (sp_law_closed_holds K PySem.Challenge.rw_mappedtwice_k10_folds_spoiled.prog w) := ⟨⟨F_law_closed_holds, b_law_closed_holds, PySem.W.mg_of X G a_law_closed_holds⟩, ok_law_closed_holds (P := PySem.Challenge.rw_mappedtwice_k10_folds_spoiled.prog) (w := w) (base := base) F_law_closed_holds T C_law_closed_due C_is_closed⟩
  have C_law_closed_rows : Cal PySem.Challenge.rw_mappedtwice_k10_folds_spoiled.prog w K mg base "_law_closed_rows" s_law_closed_rows ["big", "order", "setting"] 3 f_law_closed_rows _ (sp_law_closed_rows K PySem.Challenge.rw_mappedtwice_k10_folds_spoiled.prog w) := ⟨⟨F_law_closed_rows, b_law_closed_rows, PySem.W.mg_of X G a_law_closed_rows⟩, ok_law_closed_rows (P := PySem.Challenge.rw_mappedtwice_k10_folds_spoiled.prog) (w := w) (base := base) F_law_closed_rows T C_law_is_partner C_law_set_by⟩
  have C_law_spoilt_rows : Cal PySem.Challenge.rw_mappedtwice_k10_folds_spoiled.prog w K mg base "_law_spoilt_rows" s_law_spoilt_rows ["pool", "rows", "small", "spare"] 3 f_law_spoilt_rows _ (sp_law_spoilt_rows K PySem.Challenge.rw_mappedtwice_k10_folds_spoiled.prog w) := ⟨⟨F_law_spoilt_rows, b_law_spoilt_rows, PySem.W.mg_of X G a_law_spoilt_rows⟩, ok_law_spoilt_rows (P := PySem.Challenge.rw_mappedtwice_k10_folds_spoiled.prog) (w := w) (base := base) F_law_spoilt_rows T C_law_pick C_law_one_of⟩
  have C_law_lists_hold : Cal PySem.Challenge.rw_mappedtwice_k10_folds_spoiled.prog w K mg base "_law_lists_hold" s_law_lists_hold ["pool", "small", "big", "strange", "spare", "setting"] 7 f_law_lists_hold _ (sp_law_lists_hold K PySem.Challenge.rw_mappedtwice_k10_folds_spoiled.prog w) := ⟨⟨F_law_lists_hold, b_law_lists_hold, PySem.W.mg_of X G a_law_lists_hold⟩, ok_law_lists_hold (P := PySem.Challenge.rw_mappedtwice_k10_folds_spoiled.prog) (w := w) (base := base) F_law_lists_hold T C_law_pick C_law_closed_rows C_law_closed_holds C_law_spoilt_rows⟩
  exact ok_law hlaw F_law T C_law_pool C_law_names C_law_movable_values C_law_pick C_law_rows C_law_one_of C_law_set C_law_folds_hold C_law_lists_hold
theorem walk (hlaw : m_law (· = true)) {q : Program} {loose : List Str} {XP : (Str → Option Value) → Heap → Prop} {YP : World → Heap → Prop} {d : DefRec} {K : Params → PySem.W.Frag} (hn : PySem.Challenge.rw_mappedtwice_k10_folds_spoiled.most = some 63) (hdf : d.params.defaults = [])
    (hY : ∀ (w : World) (h : Heap), YP w h → (K w.params).In h)
    (F : ∀ (w : World) (mg : Str → Option Value) (fa : Addr) (h : Heap), (K w.params).In h → h.Ns mainGlobals mg → mg d.name = some (.ref fa) →
      ∃ fd : FuncData, (∀ (s : Shared) (u : Value), BindsTo s fd ⟨[u], []⟩ [("script", u)]) ∧ ∀ base : Heap, (K w.params).In base → base.Ns mainGlobals mg → FnOk PySem.Challenge.rw_mappedtwice_k10_folds_spoiled.prog w (K w.params) mg base CX0 8 fa fd ["script"] (sp_law (K w.params))) :
    PySem.W.WalkO q loose XP YP PySem.Challenge.rw_mappedtwice_k10_folds_spoiled.row.toRowW d [] (fun f vs => PySem.call f vs) :=
  L2.walk_of (n := 63) (k := 8) (x := "script") (CX := fun _ => CX0) (sp := fun w => sp_law (K w.params)) hn (by decide) hdf ⟨rfl, by decide, by decide⟩ hY F (fun _ H a ns hl _ hS => ⟨⟨ns, hl⟩, H, Same.refl H, trivial, .cons ⟨a, _, rfl, hS, allK_of_val ns⟩ .nil, fun v G' H' _ _ p => p⟩) fun _ _ _ _ _ z => z
end
end K10
end
section
set_option maxRecDepth 100000
set_option maxHeartbeats 1000000
/-! Mirrors, plain: general lemmas. -/
namespace Dl
open PySem L2 Sx
section
variable {α β σ ρ : Type}
theorem br (a : α) (f : α → W β) : bnd (ret a) f = f a := id rfl
theorem bb {γ : Type} (m : W α) (f : α → W β) (g : β → W γ) : bnd (bnd m f) g = bnd m fun a => bnd (f a) g := id rfl
theorem gte_ret (b c d : Bool) : gte b (ret c) (ret d) = ret (if b = true then c else d) := by cases b <;> rfl
theorem gte_and (b c : Bool) : gte b (ret c) (ret false) = ret (b && c) := by cases b <;> rfl
theorem gte_or (b c : Bool) : gte b (ret true) (ret c) = ret (b || c) := by cases b <;> rfl
theorem gte_same (b : Bool) (x : W α) : gte b x x = x := by cases b <;> rfl
theorem lcW_ret {t : α → W Bool} {e : α → W β} {p : α → Bool} {g : α → β} : ∀ {xs : List α}, (∀ x ∈ xs, t x = ret (p x)) → (∀ x ∈ xs, p x = true → e x = ret (g x)) → lcW t e xs = ret ((xs.filter p).map g)
  | [], _, _ => rfl
  | x :: xs, h1, h2 => by
    unfold lcW
    rw [h1 x List.mem_cons_self, bnd_ret, lcW_ret (fun y hy => h1 y (List.mem_cons_of_mem _ hy)) (fun y hy => h2 y (List.mem_cons_of_mem _ hy))]
    cases hp : p x with
    | true => rw [gte_true, h2 x List.mem_cons_self hp, bnd_ret, bnd_ret, List.filter_cons_of_pos hp]; rfl
    | false => rw [gte_false, List.filter_cons_of_neg (by rw [hp]; exact Bool.false_ne_true)]
theorem lcG_ret {t : α → W Bool} {e : α → W β} {xs : List α} (p : α → Bool) (g : α → β) (hn : xs.length ≤ sizeLine) (h1 : ∀ x ∈ xs, t x = ret (p x)) (h2 : ∀ x ∈ xs, p x = true → e x = ret (g x)) : lcG t e xs = ret ((xs.filter p).map g) := by
  funext Q
  have := congrFun (lcW_ret h1 h2) Q
  exact propext ⟨fun h => by rw [← this]; exact h.2, fun h => ⟨hn, by rw [this]; exact h⟩⟩
theorem lcG_map {e : α → W β} {xs : List α} (g : α → β) (hn : xs.length ≤ sizeLine) (h2 : ∀ x ∈ xs, e x = ret (g x)) : lcG (fun _ => ret true) e xs = ret (xs.map g) := by
  rw [lcG_ret (fun _ => true) g hn (fun _ _ => rfl) (fun x hx _ => h2 x hx), List.filter_eq_self.mpr (fun _ _ => rfl)]
theorem lcG_filter {t : α → W Bool} {xs : List α} (p : α → Bool) (hn : xs.length ≤ sizeLine) (h1 : ∀ x ∈ xs, t x = ret (p x)) : lcG t (fun x => ret x) xs = ret (xs.filter p) := by
  have h := lcG_ret (e := fun x => ret x) p id hn h1 (fun x _ _ => rfl)
  rw [List.map_id] at h
  exact h
/-- a loop that goes to its end -/
theorem loopW_fold {body : α → σ → (σ → W ρ) → W ρ} {rest : σ → W ρ} (f : σ → α → σ) (I : List α → σ → Prop) (h : ∀ x xs s, I (x :: xs) s → (∀ k, body x s k = k (f s x)) ∧ I xs (f s x)) : ∀ (xs : List α) (s : σ), I xs s → loopW body rest xs s = rest (xs.foldl f s)
  | [], s, _ => rfl
  | x :: xs, s, hi => by
    obtain ⟨h1, h2⟩ := h x xs s hi
    show body x s (loopW body rest xs) = _
    rw [h1, loopW_fold f I h xs (f s x) h2]; rfl
/-- a loop that is left at the first that .. -/
theorem loopW_any {body : α → Unit → (Unit → W ρ) → W ρ} {rest : Unit → W ρ} (p : α → Bool) (r : W ρ) : ∀ (xs : List α), (∀ x ∈ xs, ∀ k, body x () k = gte (p x) r (k ())) → loopW body rest xs () = gte (xs.any p) r (rest ())
  | [], _ => rfl
  | x :: xs, h => by
    show body x () (loopW body rest xs) = _
    rw [h x List.mem_cons_self, loopW_any p r xs fun y hy => h y (List.mem_cons_of_mem _ hy), List.any_cons]
    cases p x <;> rfl
theorem cutL_1 (xs : List α) : cutL xs (some 1) none = xs.drop 1 := cutL_drop xs 1
theorem cutL_t1 (xs : List α) : cutL xs none (some 1) = xs.take 1 := cutL_take xs 1
theorem ixW_at {xs : List α} {i : Int} {j : Nat} {x : α} (h : ixN xs.length i = some j) (hx : xs[j]? = some x) : ixW xs i = ret x := funext fun Q => propext ⟨fun ⟨j', x', h1, h2, q⟩ => by
  rw [h] at h1
  cases h1
  rw [hx] at h2
  cases h2
  exact q, fun q => ⟨j, x, h, hx, q⟩⟩
theorem ixW_nat {xs : List α} {i : Nat} {x : α} (hx : xs[i]? = some x) : ixW xs (i : Int) = ret x := ixW_at (ixN_int (by omega) (by have := (List.getElem?_eq_some_iff.mp hx).1; omega)) (by rw [show ((i : Int)).toNat = i from Int.toNat_natCast i]; exact hx)
theorem dgetW_some {κ : Type} [DecidableEq κ] {d : List (κ × α)} {k : κ} {v : α} (h : dGet d k = some v) : dgetW d k = ret v := funext fun Q => propext ⟨fun ⟨w, h1, q⟩ => by rw [h] at h1; cases h1; exact q, fun q => ⟨v, h, q⟩⟩
/-! ### dicts -/
theorem dGet_nil {κ : Type} [DecidableEq κ] (k : κ) : dGet ([] : List (κ × α)) k = none := rfl
theorem dGet_put {κ : Type} [DecidableEq κ] (d : List (κ × α)) (k k' : κ) (v : α) : dGet (dPut d k v) k' = if k' = k then some v else dGet d k' := by
  unfold dPut
  by_cases h : (d.any fun p => decide (p.1 = k)) = true
  · rw [if_pos h]
    induction d with
    | nil => simp at h
    | cons p d ih =>
      unfold dGet
      by_cases c : p.1 = k
      · rw [List.map_cons, if_pos c]
        by_cases e : k' = k
        · rw [if_pos e, List.find?_cons_of_pos (by simp [c, e])]; rfl
        · rw [if_neg e, List.find?_cons_of_neg (by simp [c]; exact fun z => e z.symm), List.find?_cons_of_neg (by simp [c]; exact fun z => e z.symm)]
          by_cases hd : (d.any fun p => decide (p.1 = k)) = true
          · have := ih hd
            rw [if_neg e] at this
            exact this
          · have : d.map (fun p => if p.1 = k then (p.1, v) else p) = d := by
              rw [show d = d.map id by rw [List.map_id]]
              rw [List.map_map]
              refine List.map_congr_left fun q hq => ?_
              have : q.1 ≠ k := fun z => hd (List.any_eq_true.mpr ⟨q, hq, by simp [z]⟩)
              simp [this]
            rw [this]
      · rw [List.map_cons, if_neg c]
        have hd : (d.any fun p => decide (p.1 = k)) = true := by
          rw [List.any_cons] at h
          simpa [c] using h
        have := ih hd
        by_cases e : p.1 = k'
        · rw [List.find?_cons_of_pos (by simp [e]), List.find?_cons_of_pos (by simp [e]), if_neg (fun z => c (e.trans z))]
        · rw [List.find?_cons_of_neg (by simp [e]), List.find?_cons_of_neg (by simp [e])]
          exact this
  · rw [if_neg h]
    unfold dGet
    rw [List.find?_append]
    by_cases e : k' = k
    · rw [if_pos e]
      have : d.find? (fun p => decide (p.1 = k')) = none := by
        rw [List.find?_eq_none]
        intro q hq
        have : q.1 ≠ k := fun z => h (List.any_eq_true.mpr ⟨q, hq, by simp [z]⟩)
        simp [e, this]
      rw [this]
      simp [e]
    · rw [if_neg e]
      cases hf : d.find? (fun p => decide (p.1 = k')) with
      | some q => rfl
      | none =>
        have e2 : ¬ k = k' := fun z => e z.symm
        simp [e2]
theorem dPut_new {κ : Type} [DecidableEq κ] {d : List (κ × α)} {k : κ} {v : α} (h : dGet d k = none) : dPut d k v = d ++ [(k, v)] := by
  unfold dPut
  refine if_neg fun z => ?_
  obtain ⟨q, hq, e⟩ := List.any_eq_true.mp z
  unfold dGet at h
  rw [Option.map_eq_none_iff, List.find?_eq_none] at h
  exact h q hq e
theorem dGet_isSome {κ : Type} [DecidableEq κ] {d : List (κ × α)} {k : κ} : (dGet d k).isSome = true ↔ k ∈ d.map (·.1) := by
  unfold dGet
  rw [Option.isSome_map, List.find?_isSome, List.mem_map]
  constructor
  · rintro ⟨q, hq, e⟩; exact ⟨q, hq, of_decide_eq_true e⟩
  · rintro ⟨q, hq, e⟩; exact ⟨q, hq, decide_eq_true e⟩
theorem dPut_keys {κ : Type} [DecidableEq κ] {d : List (κ × α)} {k : κ} {v : α} : (dPut d k v).map (·.1) = if k ∈ d.map (·.1) then d.map (·.1) else d.map (·.1) ++ [k] := by
  unfold dPut
  by_cases h : (d.any fun p => decide (p.1 = k)) = true
  · rw [if_pos h, if_pos (by obtain ⟨q, hq, e⟩ := List.any_eq_true.mp h; exact List.mem_map.mpr ⟨q, hq, of_decide_eq_true e⟩), List.map_map]
    refine List.map_congr_left fun q _ => ?_
    show (if q.1 = k then (q.1, v) else q).1 = q.1
    split <;> rfl
  · rw [if_neg h, if_neg (fun z => by obtain ⟨q, hq, e⟩ := List.mem_map.mp z; exact h (List.any_eq_true.mpr ⟨q, hq, decide_eq_true e⟩)), List.map_append]; rfl
theorem dPut_nodup {κ : Type} [DecidableEq κ] {d : List (κ × α)} {k : κ} {v : α} (h : (d.map (·.1)).Nodup) : ((dPut d k v).map (·.1)).Nodup := by
  rw [dPut_keys]
  split
  · exact h
  · rename_i hk
    exact List.nodup_append.mpr ⟨h, List.nodup_cons.mpr ⟨(fun z => nomatch z), List.nodup_nil⟩, fun a ha b hb => by rw [List.mem_singleton.mp hb]; exact fun e => hk (e ▸ ha)⟩
theorem dPut_len {κ : Type} [DecidableEq κ] {d : List (κ × α)} {k : κ} {v : α} : (dPut d k v).length ≤ d.length + 1 := by
  have := congrArg List.length (dPut_keys (d := d) (k := k) (v := v))
  rw [List.length_map] at this
  rw [this]
  split
  · rw [List.length_map]; omega
  · rw [List.length_append, List.length_map]; exact Nat.le_refl _
theorem dGet_self {κ : Type} [DecidableEq κ] {d : List (κ × α)} (h : (d.map (·.1)).Nodup) : ∀ p ∈ d, dGet d p.1 = some p.2 := by
  induction d with
  | nil => intro p hp; cases hp
  | cons q d ih =>
    rw [List.map_cons, List.nodup_cons] at h
    intro p hp
    unfold dGet
    rcases List.mem_cons.mp hp with e | hp
    · rw [e, List.find?_cons_of_pos (by simp)]; rfl
    · have : q.1 ≠ p.1 := fun e => h.1 (List.mem_map.mpr ⟨p, hp, e.symm⟩)
      rw [List.find?_cons_of_neg (by simp [this])]
      exact ih h.2 p hp
end
end Dl
end
section
set_option maxRecDepth 100000
set_option maxHeartbeats 1000000
/-! k10, plain: what a word is. -/
namespace K10
open PySem L2 Sx Dl
def loA (c : Nat) : Bool := (decide (48 ≤ c) && decide (c ≤ 57)) || (decide (97 ≤ c) && decide (c ≤ 122))
def lw (t : Str) : Bool := (TL.tl t).all loA
theorem signs_tl : TL.tl ("abcdefghijklmnopqrstuvwxyz0123456789" : Str) = [97, 98, 99, 100, 101, 102, 103, 104, 105, 106, 107, 108, 109, 110, 111, 112, 113, 114, 115, 116, 117, 118, 119, 120, 121, 122, 48, 49, 50, 51, 52, 53, 54, 55, 56, 57] := by decide +kernel
theorem in_signs (c : Nat) : c ∈ TL.tl ("abcdefghijklmnopqrstuvwxyz0123456789" : Str) ↔ loA c = true := by
  rw [signs_tl]
  simp only [List.mem_cons, List.not_mem_nil, or_false, loA, Bool.or_eq_true, Bool.and_eq_true, decide_eq_true_eq]
  omega
theorem alnum_ascii : ∀ c, c < 128 → Unicode.isAlnum c = (loA c || (decide (65 ≤ c) && decide (c ≤ 90))) := by decide +kernel
theorem isEmpty_filter {α : Type} (p : α → Bool) : ∀ xs : List α, (xs.filter p).isEmpty = xs.all fun x => !p x
  | [] => rfl
  | x :: xs => by
    rw [List.all_cons, ← isEmpty_filter p xs]
    cases h : p x with
    | true => rw [List.filter_cons_of_pos h]; rfl
    | false => rw [List.filter_cons_of_neg (by rw [h]; exact Bool.false_ne_true)]; rfl
theorem law_is_word_eq {t : Str} (h : t.length ≤ 1000) : m_law_is_word t = ret (lw t) := by
  simp only [m_law_is_word, bnd_bnd, bnd_ret]
  rw [lcG_filter (fun c => !decide (c ∈ TL.tl ("abcdefghijklmnopqrstuvwxyz0123456789" : Str))) (by rw [← TL.len_tl]; unfold sizeLine; omega) (fun x _ => rfl), bnd_ret, isEmpty_filter]
  congr 1
  unfold lw
  congr 1
  funext c
  rw [Bool.not_not, Bool.eq_iff_iff, decide_eq_true_eq]
  exact in_signs c
structure Vl (t : Str) : Prop where
  asc : ∀ c ∈ TL.tl t, c < 128
  len : t.length ≤ 1000
  w : lw t = true → 1 ≤ t.length ∧ t.length ≤ 8
theorem Vl.ok {t : Str} (h : Vl t) : okS t := by
  unfold okS
  rw [PyData.strOk, Array.all_eq_true_iff_forall_mem]
  intro c hc
  have := h.asc c (by unfold TL.tl; exact Array.mem_toList_iff.mpr hc)
  exact decide_eq_true (by omega)
theorem is_word_eq {t : Str} (h : Vl t) : m_is_word t = ret (lw t) := by
  simp only [m_is_word, bnd_bnd, bnd_ret]
  have hl := h.len
  rw [bnd_rgd (by unfold sizeLine; omega), gte_and, bnd_ret, bnd_rgd (by omega), gte_and, gte_and, gte_and]
  congr 1
  have ha : Txt.isascii t = true := by
    unfold Txt.isascii
    rw [Array.all_eq_true_iff_forall_mem]
    exact fun c hc => decide_eq_true (h.asc c (Array.mem_toList_iff.mpr hc))
  have hlo : Txt.lower t = ⟨t.cps.map PyProof.Rows.lo1⟩ := PyProof.Rows.lower_ascii h.asc
  have tlo : TL.tl (Txt.lower t) = (TL.tl t).map PyProof.Rows.lo1 := by rw [hlo]; exact Array.toList_map
  rw [ha]
  cases hw : lw t with
  | true =>
    obtain ⟨l1, l8⟩ := h.w hw
    have hall := List.all_eq_true.mp hw
    have h1 : Txt.isalnum t = true := by
      unfold Txt.isalnum
      rw [Bool.and_eq_true, Array.all_eq_true_iff_forall_mem]
      refine ⟨decide_eq_true l1, fun c hc => ?_⟩
      have hc := Array.mem_toList_iff.mpr hc
      rw [alnum_ascii c (h.asc c hc), hall c hc]; rfl
    have h2 : Txt.lower t = t := TL.ext_tl (by
      rw [tlo]
      conv => rhs; rw [← List.map_id (TL.tl t)]
      refine List.map_congr_left fun c hc => ?_
      have := hall c hc
      unfold loA at this
      simp only [Bool.or_eq_true, Bool.and_eq_true, decide_eq_true_eq] at this
      show PyProof.Rows.lo1 c = c
      unfold PyProof.Rows.lo1
      exact if_neg (by omega))
    rw [h1, h2, decide_eq_true (rfl : t = t), decide_eq_true (show (1 : Int) ≤ (t.length : Int) by omega), decide_eq_true (show (t.length : Int) ≤ 8 by omega)]
    rfl
  | false =>
    cases h1 : Txt.isalnum t with
    | false => simp
    | true =>
      by_cases h2 : t = Txt.lower t
      · exfalso
        unfold Txt.isalnum at h1
        rw [Bool.and_eq_true, Array.all_eq_true_iff_forall_mem] at h1
        have : lw t = true := by
          unfold lw
          rw [List.all_eq_true]
          intro c hc
          have e1 := h1.2 c (Array.mem_toList_iff.mp hc)
          rw [alnum_ascii c (h.asc c hc)] at e1
          have e2 : TL.tl t = (TL.tl t).map PyProof.Rows.lo1 := by rw [← tlo, ← h2]
          have e3 : PyProof.Rows.lo1 c = c := by
            obtain ⟨i, hi, e⟩ := List.getElem_of_mem hc
            have e4 : ((TL.tl t).map PyProof.Rows.lo1)[i]? = (TL.tl t)[i]? := by rw [← e2]
            rw [List.getElem?_map, List.getElem?_eq_getElem hi, e] at e4
            exact Option.some.inj e4
          unfold PyProof.Rows.lo1 at e3
          rw [Bool.or_eq_true] at e1
          rcases e1 with e1 | e1
          · exact e1
          · simp only [Bool.and_eq_true, decide_eq_true_eq] at e1
            rw [if_pos e1] at e3
            omega
        rw [this] at hw; cases hw
      · rw [decide_eq_false h2]; simp
end K10
end
section
set_option maxRecDepth 100000
set_option maxHeartbeats 1000000
/-! k10, plain: rows, their values, is_fold. -/
namespace K10
open PySem L2 Sx Dl
/-- a row as it comes here -/
structure Rw (r : List Str) : Prop where
  ne : r ≠ []
  len : r.length ≤ 10
  ok : ∀ t ∈ r, okS t
  vl : ∀ t ∈ r.drop 1, Vl t
def vals (rows : List (List Str)) : List Str := rows.flatMap (·.drop 1)
def movs (rows : List (List Str)) : List Str := (sortU ltS (vals rows)).filter fun v => !lw v
def fill (s : List (Str × Str)) (r : List Str) : List Str := r.take 1 ++ (r.drop 1).map fun v => (dGet s v).getD v
theorem flat_cut (rows : List (List Str)) : rows.flatMap (fun z => cutL z (some 1) none) = vals rows := by
  unfold vals
  congr 1
  funext z
  exact cutL_1 z
theorem values_of_eq {p : Bool × List (List Str)} (h : (vals p.2).length < 64) : m_values_of p = ret (sortU ltS (vals p.2)) := by
  simp only [m_values_of, bb, br]
  rw [flat_cut, bnd_rgd (by omega), rgd_of h]
theorem movables_of_eq {p : Bool × List (List Str)} (h : (vals p.2).length < 64) (hv : ∀ t ∈ vals p.2, Vl t) : m_movables_of p = ret (movs p.2) := by
  simp only [m_movables_of, bb, br]
  rw [values_of_eq h, br]
  have hl := sortU_len (lt := ltS) (vals p.2)
  exact lcG_filter (fun v => !lw v) (by unfold sizeLine; omega) fun x hx => by rw [is_word_eq (hv x ((mem_sortU (lt := ltS)).mp hx)), br]
theorem law_values_eq {rows : List (List Str)} (h : (vals rows).length < 64) : m_law_values rows = ret (sortU ltS (vals rows)) := by
  simp only [m_law_values, bb, br]
  rw [loopW_fold (fun s x => s ++ x.drop 1) (fun xs s => (s ++ vals xs).length < 64) (fun x xs s hi => ?_) rows [] (by rw [List.nil_append]; exact h)]
  · have : ∀ (rows : List (List Str)) (s : List Str), rows.foldl (fun s x => s ++ x.drop 1) s = s ++ vals rows := by
      intro rows
      induction rows with
      | nil => intro s; simp [vals]
      | cons r rows ih => intro s; rw [List.foldl_cons, ih]; simp [vals, List.append_assoc]
    rw [this, List.nil_append, show setG 1000 (vals rows) = ret (vals rows) from rgd_of (by omega) _, br, rgd_of h]
  · have e : (s ++ vals (x :: xs)) = s ++ x.drop 1 ++ vals xs := by simp [vals, List.append_assoc]
    rw [e] at hi
    refine ⟨fun k => ?_, hi⟩
    rw [cutL_1]
    unfold extG
    rw [bnd_rgd (by rw [List.length_append, List.length_append] at hi; unfold sizeLine; omega)]
theorem law_movables_eq {rows : List (List Str)} (h : (vals rows).length < 64) (hv : ∀ t ∈ vals rows, Vl t) : m_law_movables rows = ret (movs rows) := by
  simp only [m_law_movables, bb, br]
  rw [law_values_eq h, br]
  have hl := sortU_len (lt := ltS) (vals rows)
  exact lcG_filter (fun v => !lw v) (by unfold sizeLine; omega) fun x hx => by rw [law_is_word_eq (hv x ((mem_sortU (lt := ltS)).mp hx)).len, br]
theorem set_value_eq (a : Str) (s : List (Str × Str)) : m_set_value a s = ret ((dGet s a).getD a) := by
  simp only [m_set_value, bb, br]
theorem law_set_eq {r : List Str} {s : List (Str × Str)} (h : Rw r) : m_law_set r s = ret (fill s r) := by
  simp only [m_law_set, bb, br]
  obtain ⟨x, xs, e⟩ : ∃ x xs, r = x :: xs := by
    cases r with
    | nil => exact absurd rfl h.ne
    | cons x xs => exact ⟨x, xs, rfl⟩
  have hl := h.len
  subst e
  rw [List.length_cons] at hl
  rw [show ixW (x :: xs) 0 = ret x from ixW_nat (i := 0) rfl, br, cutL_1, lcG_map (fun v => (dGet s v).getD v) (by rw [List.length_drop, List.length_cons]; unfold sizeLine; omega) (fun _ _ => rfl), br]
  exact rgd_of (by simp only [List.length_map, List.length_drop, List.length_cons, List.length_nil]; unfold sizeLine; omega) _
theorem filled_rows_eq {p : Bool × List (List Str)} {s : List (Str × Str)} (hn : p.2.length ≤ 100) (h : ∀ r ∈ p.2, Rw r) : m_filled_rows p s = ret (p.2.map (fill s)) := by
  simp only [m_filled_rows, bb, br]
  refine lcG_map (fill s) (by unfold sizeLine; omega) fun r hr => ?_
  have hl := (h r hr).len
  have hne := (h r hr).ne
  rw [cutL_1, cutL_t1, lcG_map (fun v => (dGet s v).getD v) (by rw [List.length_drop]; unfold sizeLine; omega) (fun v _ => set_value_eq v s), br]
  refine rgd_of ⟨fun e => hne ?_, by rw [List.length_take, List.length_map, List.length_drop]; unfold sizeLine; omega⟩ _
  cases r with
  | nil => rfl
  | cons x xs => cases e
/-- what is_fold tells -/
def foldD (small big : List (List Str)) (fold : List (Str × Str)) : Bool := decide (sortU ltS (fold.map fun q => q.1) = movs small) && small.all fun r => decide (fill fold r ∈ big)
structure FoldIn (small big : List (List Str)) (fold : List (Str × Str)) : Prop where
  nv : (vals small).length < 64
  ns : small.length ≤ 100
  nb : big.length ≤ 100
  rs : ∀ r ∈ small, Rw r
  ob : okL (okL okS) big
  nd : (fold.map fun q => q.1).Nodup
  nf : fold.length < 64
  ok : ∀ q ∈ fold, okS q.1 ∧ okS q.2
theorem Rw.vals {rows : List (List Str)} (h : ∀ r ∈ rows, Rw r) : ∀ t ∈ K10.vals rows, Vl t := fun t ht => by
  obtain ⟨r, hr, ht⟩ := List.mem_flatMap.mp ht
  exact (h r hr).vl t ht
theorem movs_ok {small : List (List Str)} (h : ∀ r ∈ small, Rw r) : okL okS (movs small) := fun t ht => (Rw.vals h t ((mem_sortU (lt := ltS)).mp (List.mem_filter.mp ht).1)).ok
theorem fill_ok {r : List Str} {s : List (Str × Str)} (h : ∀ t ∈ r, okS t) (hs : ∀ q ∈ s, okS q.1 ∧ okS q.2) : okL okS (fill s r) := fun t ht => by
  unfold fill at ht
  rcases List.mem_append.mp ht with ht | ht
  · exact h t (List.mem_of_mem_take ht)
  · obtain ⟨v, hv, rfl⟩ := List.mem_map.mp ht
    unfold dGet
    cases e : s.find? (fun p => decide (p.1 = v)) with
    | none => exact h v (List.mem_of_mem_drop hv)
    | some q => exact (hs q (List.mem_of_find?_eq_some e)).2
theorem sortDG_eq {d : List (Str × Str)} (nd : (d.map fun q => q.1).Nodup) (nf : d.length < 64) : sortDG d = ret (sortU ltS (d.map fun q => q.1)) := rgd_of ⟨nd, nf⟩ _
theorem keys_ok {d : List (Str × Str)} (ok : ∀ q ∈ d, okS q.1 ∧ okS q.2) : okL okS (sortU ltS (d.map fun q => q.1)) := fun t ht => by
  obtain ⟨q, hq, rfl⟩ := List.mem_map.mp ((mem_sortU (lt := ltS)).mp ht)
  exact (ok q hq).1
theorem is_fold_eq {p q : Bool × List (List Str)} {fold : List (Str × Str)} (h : FoldIn p.2 q.2 fold) : m_is_fold p q fold = ret (foldD p.2 q.2 fold) := by
  simp only [m_is_fold, bb, br]
  have h1 := h.nb
  have h2 := h.ns
  rw [sortDG_eq h.nd h.nf, br, movables_of_eq h.nv (Rw.vals h.rs), br]
  unfold neG
  rw [bnd_rgd ⟨keys_ok h.ok, movs_ok h.rs⟩, bnd_rgd (by unfold sizeLine; omega), filled_rows_eq h2 h.rs, br, lcG_map (fun r => decide (r ∈ q.2)) (by rw [List.length_map]; unfold sizeLine; omega) (fun _ _ => rfl), br, List.all_map, List.all_map]
  unfold foldD
  cases decide (sortU ltS (fold.map fun q => q.1) = movs p.2) <;> rfl
theorem law_fold_due_eq {small big : List (List Str)} {fold : List (Str × Str)} (h : FoldIn small big fold) : m_law_fold_due small big fold = ret (foldD small big fold) := by
  simp only [m_law_fold_due, bb, br]
  rw [sortDG_eq h.nd h.nf, br, law_movables_eq h.nv (Rw.vals h.rs), br]
  unfold neG
  rw [bnd_rgd ⟨keys_ok h.ok, movs_ok h.rs⟩, loopW_any (fun r => !decide (fill fold r ∈ big)) (ret false) small (fun r hr k => by
    rw [law_set_eq (h.rs r hr), br]
    unfold niG
    rw [bnd_rgd ⟨fill_ok (h.rs r hr).ok h.ok, h.ob⟩]; exact congrArg (fun b => gte (!b) (ret false) (k ())) (decide_eq_decide.mpr Iff.rfl))]
  unfold foldD
  have e : (small.any fun r => !decide (fill fold r ∈ big)) = !(small.all fun r => decide (fill fold r ∈ big)) := by
    rw [List.not_all_eq_any_not]
  rw [e]
  cases decide (sortU ltS (fold.map fun q => q.1) = movs small) <;> cases (small.all fun r => decide (fill fold r ∈ big)) <;> rfl
end K10
end
section
set_option maxRecDepth 100000
set_option maxHeartbeats 1000000
/-! k10, plain: a fold asked twice. -/
namespace K10
open PySem L2 Sx Dl
theorem neG_self {α : Type} [DecidableEq α] {ok : α → Prop} {x : α} (h : ok x) : neG ok x x = ret false := by
  unfold neG
  rw [rgd_of ⟨h, h⟩, decide_eq_true (rfl : x = x)]; rfl
theorem vals_mem {rows : List (List Str)} {t : Str} : t ∈ vals rows ↔ ∃ r ∈ rows, t ∈ r.drop 1 := List.mem_flatMap
theorem movs_congr {a b : List (List Str)} (h : ∀ r, r ∈ a ↔ r ∈ b) : movs a = movs b := by
  unfold movs
  rw [sortU_congr ltS_ord (ys := vals b) fun z => by
    rw [vals_mem, vals_mem]
    constructor
    · rintro ⟨r, hr, hz⟩; exact ⟨r, (h r).mp hr, hz⟩
    · rintro ⟨r, hr, hz⟩; exact ⟨r, (h r).mpr hr, hz⟩]
theorem vals_len_rev (a : List (List Str)) : (vals a.reverse).length = (vals a).length := by
  unfold vals
  induction a with
  | nil => rfl
  | cons r a ih =>
    simp only [List.reverse_cons, List.flatMap_append, List.length_append, ih, List.flatMap_cons, List.flatMap_nil, List.append_nil]
    omega
theorem foldD_congr {a a' b b' : List (List Str)} {f : List (Str × Str)} (h : ∀ r, r ∈ a ↔ r ∈ a') (h2 : ∀ r, r ∈ b ↔ r ∈ b') : foldD a b f = foldD a' b' f := by
  unfold foldD
  rw [movs_congr h]
  congr 1
  rw [Bool.eq_iff_iff, List.all_eq_true, List.all_eq_true]
  constructor
  · intro q r hr; exact decide_eq_true ((h2 _).mp (of_decide_eq_true (q r ((h r).mpr hr))))
  · intro q r hr; exact decide_eq_true ((h2 _).mpr (of_decide_eq_true (q r ((h r).mp hr))))
theorem rows_ok {rows : List (List Str)} (h : ∀ r ∈ rows, Rw r) : okL (okL okS) rows := fun r hr => (h r hr).ok
theorem fold_holds_eq {small big : List (List Str)} {fold : List (Str × Str)} (h : FoldIn small big fold) (hb : big.length ≤ 50) : m_law_fold_holds small big fold = ret true := by
  simp only [m_law_fold_holds, bb, br]
  have hs := h.ns
  have h2 : FoldIn small.reverse (big ++ big) fold := ⟨by rw [vals_len_rev]; exact h.nv, by rw [List.length_reverse]; exact hs, by rw [List.length_append]; omega, fun r hr => h.rs r (List.mem_reverse.mp hr),
    fun r hr => h.ob r (by rcases List.mem_append.mp hr with z | z <;> exact z), h.nd, h.nf, h.ok⟩
  have e2 : foldD small.reverse (big ++ big) fold = foldD small big fold := foldD_congr (fun r => List.mem_reverse) fun r => by rw [List.mem_append, or_self]
  rw [law_fold_due_eq h, br, is_fold_eq (p := (true, small)) (q := (true, big)) h, br, neG_self (rows_ok h.rs), br, gte_false, neG_self h.ob, br, gte_false,
    neG_self (ok := okL (okP okS okS)) (x := fold) (fun q hq => h.ok q hq), br, gte_false]
  unfold catL
  rw [bnd_rgd (by unfold sizeLine; omega), is_fold_eq (p := (false, small.reverse)) (q := (false, big ++ big)) h2, br]
  show _ = _
  dsimp only
  rw [e2]
  cases foldD small big fold <;> rfl
end K10
end
section
set_option maxRecDepth 100000
set_option maxHeartbeats 1000000
/-! k10, plain: partners. -/
namespace Dl
theorem loopW_ix {α σ ρ : Type} {body : α → σ → (σ → W ρ) → W ρ} {rest : σ → W ρ} (I : Nat → σ → Prop) : ∀ (ys : List α) (n : Nat) (s : σ), (∀ i x s, ys[i]? = some x → I (n + i) s → ∃ s', (∀ k, body x s k = k s') ∧ I (n + i + 1) s') → I n s → ∃ s', loopW body rest ys s = rest s' ∧ I (n + ys.length) s'
  | [], n, s, _, hi => ⟨s, rfl, hi⟩
  | y :: ys, n, s, h, hi => by
    obtain ⟨s1, h1, h2⟩ := h 0 y s rfl hi
    obtain ⟨s2, h3, h4⟩ := loopW_ix (body := body) (rest := rest) I ys (n + 1) s1 (fun i x s hx hi => by
      have e : n + 1 + i = n + (i + 1) := by omega
      rw [e] at hi ⊢
      exact h (i + 1) x s (by simpa using hx) hi) h2
    refine ⟨s2, ?_, ?_⟩
    · show body y s (loopW body rest ys) = _
      rw [h1, h3]
    · rw [List.length_cons, show n + (ys.length + 1) = n + 1 + ys.length by omega]; exact h4
end Dl
namespace K10
open PySem L2 Sx Dl
def gf (o : List Str) (i : Nat) : Str := (o[i]?).getD (⟨#[]⟩ : Str)
def LLi (r : List Str) (s : List (Str × Str)) (g : Nat → Str) (i : Nat) : Prop := ∀ a v, a < i → r[a]? = some v → (a = 0 → g 0 = v) ∧ (1 ≤ a → (lw v = true → g a = v) ∧ (lw v = false → ∀ w, dGet s v = some w → g a = w) ∧ ∀ k, 1 ≤ k → k < a → r[k]? = some v → g k = g a)
theorem LLi_succ {r : List Str} {s : List (Str × Str)} {g : Nat → Str} {i : Nat} {v : Str} (hv : r[i]? = some v) : LLi r s g (i + 1) ↔ LLi r s g i ∧ ((i = 0 → g 0 = v) ∧ (1 ≤ i → (lw v = true → g i = v) ∧ (lw v = false → ∀ w, dGet s v = some w → g i = w) ∧ ∀ k, 1 ≤ k → k < i → r[k]? = some v → g k = g i)) := by
  constructor
  · intro h
    exact ⟨fun a u ha hu => h a u (by omega) hu, h i v (by omega) hv⟩
  · rintro ⟨h1, h2⟩ a u ha hu
    by_cases e : a = i
    · subst e
      rw [hv] at hu
      cases hu
      exact h2
    · exact h1 a u (by omega) hu
def SatF (F : List (Int × Str)) (g : Nat → Str) : Prop := ∀ p ∈ F, g p.1.toNat = p.2
def SatE (E : List (Int × Int)) (g : Nat → Str) : Prop := ∀ p ∈ E, g p.1.toNat = g p.2.toNat
theorem satF_snoc {F : List (Int × Str)} {g : Nat → Str} {i : Nat} {v : Str} : SatF (F ++ [((i : Int), v)]) g ↔ SatF F g ∧ g i = v := by
  unfold SatF
  constructor
  · intro h
    exact ⟨fun p hp => h p (List.mem_append_left _ hp), h ((i : Int), v) (List.mem_append_right _ List.mem_cons_self)⟩
  · rintro ⟨h1, h2⟩ p hp
    rcases List.mem_append.mp hp with hp | hp
    · exact h1 p hp
    · rw [List.mem_singleton.mp hp]; exact h2
theorem satE_snoc {E : List (Int × Int)} {g : Nat → Str} {f i : Nat} : SatE (E ++ [((f : Int), (i : Int))]) g ↔ SatE E g ∧ g f = g i := by
  unfold SatE
  constructor
  · intro h
    exact ⟨fun p hp => h p (List.mem_append_left _ hp), h ((f : Int), (i : Int)) (List.mem_append_right _ List.mem_cons_self)⟩
  · rintro ⟨h1, h2⟩ p hp
    rcases List.mem_append.mp hp with hp | hp
    · exact h1 p hp
    · rw [List.mem_singleton.mp hp]; exact h2
/-- the state of _conditions behind i places -/
structure CInv (r : List Str) (s : List (Str × Str)) (i : Nat) (F : List (Int × Str)) (E : List (Int × Int)) (A : List (Str × Int)) : Prop where
  sat : ∀ g, SatF F g ∧ SatE E g ↔ LLi r s g i
  rF : ∀ p ∈ F, 0 ≤ p.1 ∧ p.1 < (r.length : Int)
  rE : ∀ p ∈ E, (0 ≤ p.1 ∧ p.1 < (r.length : Int)) ∧ 0 ≤ p.2 ∧ p.2 < (r.length : Int)
  lF : F.length ≤ i
  lE : E.length ≤ i
  lA : A.length ≤ i
  a1 : ∀ v f, dGet A v = some f → ∃ k : Nat, f = (k : Int) ∧ 1 ≤ k ∧ k < i ∧ r[k]? = some v
  a2 : ∀ k v, 1 ≤ k → k < i → r[k]? = some v → lw v = false → dGet s v = none → (dGet A v).isSome = true
theorem conditions_eq {r : List Str} {s : List (Str × Str)} (h : Rw r) : ∃ F E A, m_conditions r s = ret (F, E) ∧ CInv r s r.length F E A := by
  simp only [m_conditions, bb, br]
  have hlen := h.len
  have key := loopW_ix (body := fun (x17 : Int × Str) (s10 : List (Int × Str) × List (Int × Int) × List (Str × Int)) k11 =>
        bnd (gte (decide (x17.fst = 0)) (Dl.ret true) (m_is_word x17.snd)) fun a24 =>
          gte a24 (bnd (appG s10.fst (x17.fst, x17.snd)) fun v31 => k11 (v31, s10.snd.fst, s10.snd.snd))
            (gte (dGet s x17.snd).isSome
              (bnd (dgetW s x17.snd) fun a =>
                bnd (appG s10.fst (x17.fst, a)) fun v31 => k11 (v31, s10.snd.fst, s10.snd.snd))
              (gte (dGet s10.snd.snd x17.snd).isSome
                (bnd (dgetW s10.snd.snd x17.snd) fun a =>
                  bnd (appG s10.snd.fst (a, x17.fst)) fun v57 => k11 (s10.fst, v57, s10.snd.snd))
                (bnd (dputG s10.snd.snd x17.snd x17.fst) fun v59 => k11 (s10.fst, s10.snd.fst, v59)))))
      (rest := fun s10 => Dl.ret (s10.fst, s10.snd.fst)) (fun i st => CInv r s i st.1 st.2.1 st.2.2) (enumL r) 0 ([], [], [])
  refine Exists.elim (key ?_ ?_) fun st hst => ?_
  · rintro i ⟨a, v⟩ ⟨F, E, A⟩ hx hI
    obtain ⟨ha, hv⟩ := enumL_get hx
    have ha : a = (i : Int) := ha
    have hv : r[i]? = some v := hv
    subst ha
    rw [Nat.zero_add] at hI ⊢
    have hi : i < r.length := (List.getElem?_eq_some_iff.mp hv).1
    have hI : CInv r s i F E A := hI
    obtain ⟨sat, rF, rE, lF, lE, lA, a1, a2⟩ := hI
    dsimp only
    have hvl : 1 ≤ i → Vl v := fun h1 => h.vl v (List.mem_of_getElem? (i := i - 1) (by rw [List.getElem?_drop, show 1 + (i - 1) = i by omega]; exact hv))
    have app1 : ∀ {β : Type} (xs : List β) (x : β), xs.length ≤ i → appG xs x = ret (xs ++ [x]) := fun xs x hl => rgd_of (by unfold sizeLine; omega) _
    by_cases h0 : i = 0 ∨ lw v = true
    · refine ⟨(F ++ [((i : Int), v)], E, A), fun k => ?_, ⟨fun g => ?_, ?_, rE, ?_, Nat.le_succ_of_le lE, Nat.le_succ_of_le lA, fun u f hf => ?_, fun k u hk1 hk2 hu hw hs => ?_⟩⟩
      · rw [show (bnd (gte (decide ((i : Int) = 0)) (Dl.ret true) (m_is_word v)) : (Bool → W _) → W _) = bnd (Dl.ret true) from ?_, br, gte_true, app1 F _ lF, br]
        rcases h0 with h0 | h0
        · rw [decide_eq_true (show (i : Int) = 0 by omega)]; rfl
        · by_cases hz : i = 0
          · rw [decide_eq_true (show (i : Int) = 0 by omega)]; rfl
          · rw [decide_eq_false (show ¬ (i : Int) = 0 by omega), gte_false, is_word_eq (hvl (by omega)), h0]
      · rw [satF_snoc, LLi_succ hv, ← sat g]
        constructor
        · rintro ⟨⟨h1, h2⟩, h3⟩
          refine ⟨⟨h1, h3⟩, fun z => by rw [← z]; exact h2, fun hi1 => ?_⟩
          have hw : lw v = true := h0.elim (fun z => by omega) id
          refine ⟨fun _ => h2, fun z => (by rw [hw] at z; cases z), fun k k1 k2 hk => ?_⟩
          have := ((sat g).mp ⟨h1, h3⟩ k v k2 hk).2 k1
          rw [this.1 hw, h2]
        · rintro ⟨⟨h1, h3⟩, h4, h5⟩
          refine ⟨⟨h1, ?_⟩, h3⟩
          rcases Nat.eq_zero_or_pos i with z | z
          · subst z; exact h4 rfl
          · exact (h5 z).1 (h0.elim (fun e => by omega) id)
      · intro p hp
        rcases List.mem_append.mp hp with hp | hp
        · exact rF p hp
        · rw [List.mem_singleton.mp hp]; exact ⟨by show (0 : Int) ≤ (i : Int); omega, by show (i : Int) < _; omega⟩
      · show (F ++ [_]).length ≤ i + 1
        rw [List.length_append]; exact Nat.succ_le_succ lF
      · obtain ⟨k, e1, e2, e3, e4⟩ := a1 u f hf
        exact ⟨k, e1, e2, by omega, e4⟩
      · by_cases z : k = i
        · subst z
          rw [hv] at hu
          cases hu
          rcases h0 with z | z
          · omega
          · rw [z] at hw; cases hw
        · exact a2 k u hk1 (by omega) hu hw hs
    · have hi1 : 1 ≤ i := Nat.one_le_iff_ne_zero.mpr fun z => h0 (.inl z)
      have hw : lw v = false := by
        cases e : lw v with
        | false => rfl
        | true => exact absurd (.inr e) h0
      have test : (bnd (gte (decide ((i : Int) = 0)) (Dl.ret true) (m_is_word v)) : (Bool → W (List (Int × Str) × List (Int × Int))) → W _) = bnd (Dl.ret false) := by
        rw [decide_eq_false (show ¬ (i : Int) = 0 by omega), gte_false, is_word_eq (hvl hi1), hw]
      cases hs : dGet s v with
      | some w =>
        refine ⟨(F ++ [((i : Int), w)], E, A), fun k => ?_, ⟨fun g => ?_, ?_, rE, ?_, Nat.le_succ_of_le lE, Nat.le_succ_of_le lA, fun u f hf => ?_, fun k u hk1 hk2 hu hw' hs' => ?_⟩⟩
        · rw [test, br, gte_false]
          show gte true _ _ = _
          rw [gte_true, dgetW_some hs, br, app1 F _ lF, br]
        · rw [satF_snoc, LLi_succ hv, ← sat g]
          constructor
          · rintro ⟨⟨h1, h2⟩, h3⟩
            refine ⟨⟨h1, h3⟩, fun z => by omega, fun _ => ⟨fun z => (by rw [hw] at z; cases z), fun _ w' hw' => (by rw [hs] at hw'; cases hw'; exact h2), fun k k1 k2 hk => ?_⟩⟩
            have := ((sat g).mp ⟨h1, h3⟩ k v k2 hk).2 k1
            rw [this.2.1 hw w hs, h2]
          · rintro ⟨⟨h1, h3⟩, h4, h5⟩
            exact ⟨⟨h1, (h5 hi1).2.1 hw w hs⟩, h3⟩
        · intro p hp
          rcases List.mem_append.mp hp with hp | hp
          · exact rF p hp
          · rw [List.mem_singleton.mp hp]; exact ⟨by show (0 : Int) ≤ (i : Int); omega, by show (i : Int) < _; omega⟩
        · show (F ++ [_]).length ≤ i + 1
          rw [List.length_append]; exact Nat.succ_le_succ lF
        · obtain ⟨k, e1, e2, e3, e4⟩ := a1 u f hf
          exact ⟨k, e1, e2, by omega, e4⟩
        · by_cases z : k = i
          · subst z
            rw [hv] at hu
            cases hu
            rw [hs] at hs'; cases hs'
          · exact a2 k u hk1 (by omega) hu hw' hs'
      | none =>
        cases hA : dGet A v with
        | some f =>
          obtain ⟨j, e1, e2, e3, e4⟩ := a1 v f hA
          subst e1
          refine ⟨(F, E ++ [((j : Int), (i : Int))], A), fun k => ?_, ⟨fun g => ?_, rF, ?_, Nat.le_succ_of_le lF, ?_, Nat.le_succ_of_le lA, fun u f hf => ?_, fun k u hk1 hk2 hu hw' hs' => ?_⟩⟩
          · rw [test, br, gte_false]
            show gte false _ (gte true _ _) = _
            rw [gte_false, gte_true, dgetW_some hA, br, app1 E _ lE, br]
          · rw [satE_snoc, LLi_succ hv, ← sat g]
            constructor
            · rintro ⟨h1, h3, h2⟩
              refine ⟨⟨h1, h3⟩, fun z => by omega, fun _ => ⟨fun z => (by rw [hw] at z; cases z), fun _ w' hw' => (by rw [hs] at hw'; cases hw'), fun k k1 k2 hk => ?_⟩⟩
              have hL := (sat g).mp ⟨h1, h3⟩
              rcases Nat.lt_trichotomy k j with z | z | z
              · rw [← h2]; exact ((hL j v e3 e4).2 e2).2.2 k k1 z hk
              · rw [z]; exact h2
              · rw [← h2]; exact ((((hL k v k2 hk).2 k1).2.2 j e2 z e4)).symm
            · rintro ⟨⟨h1, h3⟩, h4, h5⟩
              exact ⟨h1, h3, (h5 hi1).2.2 j e2 e3 e4⟩
          · intro p hp
            rcases List.mem_append.mp hp with hp | hp
            · exact rE p hp
            · rw [List.mem_singleton.mp hp]
              exact ⟨⟨by show (0 : Int) ≤ (j : Int); omega, by show (j : Int) < _; omega⟩, by show (0 : Int) ≤ (i : Int); omega, by show (i : Int) < _; omega⟩
          · show (E ++ [_]).length ≤ i + 1
            rw [List.length_append]; exact Nat.succ_le_succ lE
          · obtain ⟨k, e1, e2, e3, e4⟩ := a1 u f hf
            exact ⟨k, e1, e2, by omega, e4⟩
          · by_cases z : k = i
            · subst z
              rw [hv] at hu
              cases hu
              show (dGet A v).isSome = true
              rw [hA]; rfl
            · exact a2 k u hk1 (by omega) hu hw' hs'
        | none =>
          refine ⟨(F, E, dPut A v (i : Int)), fun k => ?_, ⟨fun g => ?_, rF, rE, Nat.le_succ_of_le lF, Nat.le_succ_of_le lE, Nat.le_trans dPut_len (Nat.succ_le_succ lA), fun u f hf => ?_, fun k u hk1 hk2 hu hw' hs' => ?_⟩⟩
          · rw [test, br, gte_false]
            show gte false _ (gte false _ _) = _
            rw [gte_false, gte_false, show dputG A v (i : Int) = ret (dPut A v (i : Int)) from rgd_of (by unfold sizeLine; omega) _, br]
          · rw [LLi_succ hv, ← sat g]
            constructor
            · intro hh
              refine ⟨hh, fun z => by omega, fun _ => ⟨fun z => (by rw [hw] at z; cases z), fun _ w' hw' => (by rw [hs] at hw'; cases hw'), fun k k1 k2 hk => ?_⟩⟩
              have := a2 k v k1 k2 hk hw hs
              rw [hA] at this; cases this
            · exact fun hh => hh.1
          · rw [dGet_put] at hf
            by_cases z : u = v
            · rw [if_pos z] at hf
              cases hf
              exact ⟨i, rfl, hi1, by omega, by rw [z]; exact hv⟩
            · rw [if_neg z] at hf
              obtain ⟨k, e1, e2, e3, e4⟩ := a1 u f hf
              exact ⟨k, e1, e2, by omega, e4⟩
          · show (dGet (dPut A v (i : Int)) u).isSome = true
            rw [dGet_put]
            by_cases z : u = v
            · rw [if_pos z]; rfl
            · rw [if_neg z]
              by_cases z2 : k = i
              · subst z2
                rw [hv] at hu
                cases hu
                exact absurd rfl z
              · exact a2 k u hk1 (by omega) hu hw' hs'
  · exact ⟨fun g => ⟨fun _ a v ha => by omega, fun _ => ⟨fun p hp => (by cases hp), fun p hp => (by cases hp)⟩⟩, fun p hp => (by cases hp), fun p hp => (by cases hp), Nat.le_refl _, Nat.le_refl _, Nat.le_refl _, fun v f hf => (by cases hf), fun k v _ hk => by omega⟩
  · obtain ⟨e, hI⟩ := hst
    rw [enumL_len, Nat.zero_add] at hI
    exact ⟨st.1, st.2.1, st.2.2, e, hI⟩
end K10
end
section
set_option maxRecDepth 100000
set_option maxHeartbeats 1000000
/-! k10, plain: partners by both looks, set_by by both looks. -/
namespace K10
open PySem L2 Sx Dl
theorem gf_get {o : List Str} {i : Nat} (h : i < o.length) : o[i]? = some (gf o i) := by
  unfold gf
  rw [List.getElem?_eq_getElem h]; rfl
theorem ixW_gf {o : List Str} {i : Int} (h0 : 0 ≤ i) (h1 : i < (o.length : Int)) : ixW o i = ret (gf o i.toNat) := ixW_at (ixN_int h0 h1) (gf_get (by omega))
theorem ixW_gfn {o : List Str} {i : Nat} (h1 : i < o.length) : ixW o (i : Int) = ret (gf o i) := ixW_nat (gf_get h1)
theorem bor_gte {α : Type} (a b : Bool) (x y : W α) : gte a x (gte b x y) = gte (a || b) x y := by cases a <;> rfl
theorem meets_eq {o : List Str} {F : List (Int × Str)} {E : List (Int × Int)} (hF : ∀ p ∈ F, 0 ≤ p.1 ∧ p.1 < (o.length : Int)) (hE : ∀ p ∈ E, (0 ≤ p.1 ∧ p.1 < (o.length : Int)) ∧ 0 ≤ p.2 ∧ p.2 < (o.length : Int)) :
    ∃ b : Bool, m_meets o F E = Dl.ret b ∧ (b = true ↔ SatF F (gf o) ∧ SatE E (gf o)) := by
  refine ⟨!(F.any (fun p => !decide (gf o p.1.toNat = p.2)) || E.any (fun p => !decide (gf o p.1.toNat = gf o p.2.toNat))), ?_, ?_⟩
  · simp only [m_meets, bb, br]
    rw [loopW_any (fun p : Int × Str => !decide (gf o p.1.toNat = p.2)) (ret false) F (fun p hp k => by rw [ixW_gf (hF p hp).1 (hF p hp).2, br]),
      loopW_any (fun p : Int × Int => !decide (gf o p.1.toNat = gf o p.2.toNat)) (ret false) E (fun p hp k => by rw [ixW_gf (hE p hp).1.1 (hE p hp).1.2, br, ixW_gf (hE p hp).2.1 (hE p hp).2.2, br]), bor_gte]
    generalize (F.any (fun p : Int × Str => !decide (gf o p.1.toNat = p.2)) || E.any (fun p : Int × Int => !decide (gf o p.1.toNat = gf o p.2.toNat))) = b
    cases b <;> rfl
  · rw [Bool.not_eq_true', Bool.or_eq_false_iff, List.any_eq_false, List.any_eq_false]
    unfold SatF SatE
    constructor
    · rintro ⟨h1, h2⟩
      refine ⟨fun p hp => ?_, fun p hp => ?_⟩
      · have := h1 p hp; simpa using this
      · have := h2 p hp; simpa using this
    · rintro ⟨h1, h2⟩
      refine ⟨fun p hp => ?_, fun p hp => ?_⟩
      · have := h1 p hp; simpa using this
      · have := h2 p hp; simpa using this
/-- is o a partner of r under s -/
noncomputable def isP (r : List Str) (s : List (Str × Str)) (o : List Str) : Bool := @decide (o.length = r.length ∧ LLi r s (gf o) r.length) (Classical.propDecidable _)
theorem isP_iff {r : List Str} {s : List (Str × Str)} {o : List Str} : isP r s o = true ↔ o.length = r.length ∧ LLi r s (gf o) r.length := by
  unfold isP; exact @decide_eq_true_iff _ (Classical.propDecidable _)
theorem partners_eq {r : List Str} {s : List (Str × Str)} {ts : List (List Str)} (h : Rw r) (hn : ts.length ≤ 1000) : m_partners r s ts = ret (ts.filter (isP r s)) := by
  simp only [m_partners, bb, br]
  obtain ⟨F, E, A, e, I⟩ := conditions_eq (s := s) h
  rw [e, br]
  refine lcG_filter (isP r s) (by unfold sizeLine; omega) fun o ho => ?_
  by_cases hl : o.length = r.length
  · rw [decide_eq_true (show (o.length : Int) = (r.length : Int) by omega), gte_true]
    obtain ⟨b, e2, hb⟩ := meets_eq (o := o) (F := F) (E := E) (by rw [hl]; exact I.rF) (by rw [hl]; exact I.rE)
    rw [e2]
    congr 1
    rw [Bool.eq_iff_iff, hb, I.sat, isP_iff]
    exact ⟨fun z => ⟨hl, z⟩, fun z => z.2⟩
  · rw [decide_eq_false (show ¬ (o.length : Int) = (r.length : Int) by omega), gte_false]
    congr 1
    cases e3 : isP r s o with
    | false => rfl
    | true => exact absurd (isP_iff.mp e3).1 hl
theorem rng2_eq {a b : Int} (h : -(2 ^ 62) ≤ a ∧ a < 2 ^ 62 ∧ -(2 ^ 62) ≤ b ∧ b < 2 ^ 62) : rng2 a b = ret (rngL a (b - a).toNat) := funext fun Q => propext ⟨fun q => q.2, fun q => ⟨h, q⟩⟩
theorem rng1_eq {a : Int} (h : -(2 ^ 62) ≤ a ∧ a < 2 ^ 62) : rng1 a = ret (rngL 0 a.toNat) := funext fun Q => propext ⟨fun q => q.2.2, fun q => ⟨h.1, h.2, q⟩⟩
theorem mem_rngL {a : Int} {n : Nat} {x : Int} : x ∈ rngL a n ↔ ∃ i : Nat, i < n ∧ x = a + (i : Int) := by
  unfold rngL
  rw [List.mem_map]
  constructor
  · rintro ⟨i, hi, e⟩; exact ⟨i, List.mem_range.mp hi, e.symm⟩
  · rintro ⟨i, hi, e⟩; exact ⟨i, List.mem_range.mpr hi, e.symm⟩
theorem law_is_partner_eq {r o : List Str} {s : List (Str × Str)} (h : Rw r) (ho : Rw o) : m_law_is_partner r o s = ret (isP r s o) := by
  simp only [m_law_is_partner, bb, br, jn]
  have hlen := h.len
  have hne : 0 < r.length := List.length_pos_iff.mpr h.ne
  have hone : 0 < o.length := List.length_pos_iff.mpr ho.ne
  rw [show ixW o 0 = ret (gf o 0) from ixW_gfn hone, br, show ixW r 0 = ret (gf r 0) from ixW_gfn hne, br, gte_or, br]
  by_cases h0 : gf o 0 = gf r 0 ∧ o.length = r.length
  · obtain ⟨h0, hl⟩ := h0
    rw [decide_eq_true h0, decide_eq_true (show (o.length : Int) = (r.length : Int) by omega)]
    show gte false _ _ = _
    rw [gte_false, rng2_eq (by omega), br]
    let bad : Int → Bool := fun x => !decide (gf o x.toNat = if lw (gf r x.toNat) = true then gf r x.toNat else (dGet s (gf r x.toNat)).getD (gf o x.toNat)) || (rngL 1 (x - 1).toNat).any fun k => decide (gf r k.toNat = gf r x.toNat) && !decide (gf o k.toNat = gf o x.toNat)
    rw [loopW_any bad (ret false) (rngL 1 ((r.length : Int) - 1).toNat) (fun x hx k => by
      obtain ⟨i, hi, rfl⟩ := mem_rngL.mp hx
      have hi1 : i + 1 < r.length := by omega
      have e1 : (1 + (i : Int)) = ((i + 1 : Nat) : Int) := by omega
      have hv : Vl (gf r (i + 1)) := h.vl _ (List.mem_of_getElem? (i := i) (by rw [List.getElem?_drop, show 1 + i = i + 1 by omega]; exact gf_get hi1))
      have hi2 : i + 1 < o.length := by omega
      have key : (bnd (rng2 1 ((i + 1 : Nat) : Int)) fun xs =>
            loopW (fun x74 s67 k68 => bnd (ixW r x74) fun a => bnd (gte (decide (a = gf r (i + 1))) (bnd (ixW o x74) fun a79 => Dl.ret !decide (a79 = gf o (i + 1))) (Dl.ret false)) fun a86 => gte a86 (Dl.ret false) (k68 ()))
              (fun s67 : Unit => k ()) xs ()) = gte ((rngL 1 (((i + 1 : Nat) : Int) - 1).toNat).any fun k => decide (gf r k.toNat = gf r (i + 1)) && !decide (gf o k.toNat = gf o (i + 1))) (Dl.ret false) (k ()) := by
        rw [rng2_eq (by omega), br]
        refine loopW_any (fun k : Int => decide (gf r k.toNat = gf r (i + 1)) && !decide (gf o k.toNat = gf o (i + 1))) (Dl.ret false) _ fun y hy k2 => ?_
        obtain ⟨j, hj, rfl⟩ := mem_rngL.mp hy
        have hj1 : j + 1 < r.length := by omega
        have e2 : (1 + (j : Int)) = ((j + 1 : Nat) : Int) := by omega
        rw [e2, ixW_gfn hj1, br, ixW_gfn (by omega), br, gte_and, br, Int.toNat_natCast]
      rw [e1]
      simp only [ixW_gfn hi1, ixW_gfn hi2, br, law_is_word_eq hv.len]
      rw [key, bor_gte, bor_gte]
      show _ = gte (bad _) _ _
      dsimp only [bad]
      rw [Int.toNat_natCast]
      cases lw (gf r (i + 1)) <;> rfl)]
    have fin : (rngL 1 ((r.length : Int) - 1).toNat).any bad = !isP r s o := by
      rw [Bool.eq_iff_iff, Bool.not_eq_true']
      constructor
      · intro z
        obtain ⟨x, hx, hb⟩ := List.any_eq_true.mp z
        cases e : isP r s o with
        | false => rfl
        | true =>
          exfalso
          obtain ⟨_, L⟩ := isP_iff.mp e
          obtain ⟨i, hi, rfl⟩ := mem_rngL.mp hx
          have hi1 : i + 1 < r.length := by omega
          have e1 : (1 + (i : Int)) = ((i + 1 : Nat) : Int) := by omega
          rw [e1] at hb
          dsimp only [bad] at hb
          rw [Int.toNat_natCast, Bool.or_eq_true] at hb
          have Li := (L (i + 1) _ hi1 (gf_get hi1)).2 (by omega)
          rcases hb with hb | hb
          · have hb := of_decide_eq_false (Bool.not_eq_true' _ ▸ hb)
            refine hb ?_
            cases hw : lw (gf r (i + 1)) with
            | true => rw [if_pos rfl]; exact Li.1 hw
            | false =>
              rw [if_neg Bool.false_ne_true]
              cases hs : dGet s (gf r (i + 1)) with
              | none => rfl
              | some w => exact Li.2.1 hw w hs
          · obtain ⟨y, hy, hb⟩ := List.any_eq_true.mp hb
            obtain ⟨j, hj, rfl⟩ := mem_rngL.mp hy
            have e2 : (1 + (j : Int)) = ((j + 1 : Nat) : Int) := by omega
            rw [e2, Int.toNat_natCast, Bool.and_eq_true] at hb
            obtain ⟨hb1, hb2⟩ := hb
            have hb1 : gf r (j + 1) = gf r (i + 1) := of_decide_eq_true hb1
            have hb2 : ¬ gf o (j + 1) = gf o (i + 1) := by simpa using hb2
            exact hb2 (Li.2.2 (j + 1) (by omega) (by omega) (by rw [← hb1]; exact gf_get (by omega)))
      · intro z
        refine Classical.byContradiction fun nz => ?_
        have nb : ∀ x ∈ rngL 1 ((r.length : Int) - 1).toNat, bad x = false := fun x hx => by
          cases e : bad x with
          | false => rfl
          | true => exact absurd (List.any_eq_true.mpr ⟨x, hx, e⟩) nz
        have : isP r s o = true := isP_iff.mpr ⟨hl, fun a v ha hv => by
          have hv2 : v = gf r a := by
            have := gf_get ha
            rw [hv] at this
            exact Option.some.inj this
          subst hv2
          refine ⟨fun z => by subst z; exact h0, fun ha1 => ?_⟩
          have hb := nb ((a : Nat) : Int) (mem_rngL.mpr ⟨a - 1, by omega, by omega⟩)
          dsimp only [bad] at hb
          rw [Int.toNat_natCast, Bool.or_eq_false_iff] at hb
          obtain ⟨hb1, hb2⟩ := hb
          have hb1 : gf o a = if lw (gf r a) = true then gf r a else (dGet s (gf r a)).getD (gf o a) := by simpa using hb1
          refine ⟨fun hw => ?_, fun hw w hs => ?_, fun k k1 k2 hk => ?_⟩
          · rw [if_pos hw] at hb1; exact hb1
          · rw [if_neg (by rw [hw]; exact Bool.false_ne_true), hs] at hb1; exact hb1
          · have hk2 : gf r a = gf r k := by
              have := gf_get (o := r) (i := k) (by omega)
              rw [hk] at this
              exact Option.some.inj this
            have := (List.any_eq_false.mp hb2) ((k : Nat) : Int) (mem_rngL.mpr ⟨k - 1, by omega, by omega⟩)
            rw [Int.toNat_natCast] at this
            by_cases c : gf o k = gf o a
            · exact c
            · exfalso
              apply this
              rw [Bool.and_eq_true]
              exact ⟨decide_eq_true hk2.symm, by simp [c]⟩⟩
        rw [this] at z; cases z
    rw [fin]
    cases isP r s o <;> rfl
  · have e : isP r s o = false := by
      cases e : isP r s o with
      | false => rfl
      | true =>
        obtain ⟨hl, L⟩ := isP_iff.mp e
        exact absurd ⟨(L 0 _ hne (gf_get hne)).1 rfl, hl⟩ h0
    rw [e]
    have : (!decide (gf o 0 = gf r 0) || !decide ((o.length : Int) = (r.length : Int))) = true := by
      by_cases c : gf o 0 = gf r 0
      · have : ¬ (o.length : Int) = (r.length : Int) := fun z => h0 ⟨c, by omega⟩
        rw [decide_eq_false this]; simp
      · rw [decide_eq_false c]; rfl
    rw [this]; rfl
end K10
end
section
set_option maxRecDepth 100000
set_option maxHeartbeats 1000000
/-! k10, plain: set_by, and the walk of the tree by both. -/
namespace Dl
theorem loopW_ixE {α σ ρ : Type} {body : α → σ → (σ → W ρ) → W ρ} {rest : σ → W ρ} {R : W ρ} {ys : List α} {s : σ} (I : Nat → σ → Prop) (h0 : I 0 s) (h : ∀ i x s, ys[i]? = some x → I i s → ∃ s', (∀ k, body x s k = k s') ∧ I (i + 1) s') (hr : ∀ s', I ys.length s' → rest s' = R) : loopW body rest ys s = R := by
  obtain ⟨s', e, hI⟩ := loopW_ix (body := body) (rest := rest) I ys 0 s (fun i x s hx hi => by rw [Nat.zero_add] at hi ⊢; exact h i x s hx hi) h0
  rw [Nat.zero_add] at hI
  rw [e]; exact hr s' hI
end Dl
namespace K10
open PySem L2 Sx Dl
abbrev Stg := List (Str × Str)
def stp (s : Stg) (p : Str × Str) : Stg := if (!(dGet s p.1).isSome && !lw p.1) = true then dPut s p.1 p.2 else s
def setB (r o : List Str) (s : Stg) : Stg := ((r.drop 1).zip (o.drop 1)).foldl stp s
theorem stp_len (s : Stg) (p : Str × Str) : (stp s p).length ≤ s.length + 1 := by
  unfold stp
  split
  · exact dPut_len
  · omega
theorem stps_len : ∀ (xs : List (Str × Str)) (s : Stg), (xs.foldl stp s).length ≤ s.length + xs.length
  | [], s => Nat.le_refl _
  | p :: xs, s => by
    rw [List.foldl_cons, List.length_cons]
    have := stps_len xs (stp s p)
    have := stp_len s p
    omega
theorem setB_len {r o : List Str} {s : Stg} (h : r.length ≤ 10) : (setB r o s).length ≤ s.length + 10 := by
  unfold setB
  have := stps_len ((r.drop 1).zip (o.drop 1)) s
  rw [List.length_zip, List.length_drop] at this
  omega
theorem zip_vl {r o : List Str} (h : Rw r) : ∀ p ∈ (r.drop 1).zip (o.drop 1), Vl p.1 := fun p hp => h.vl _ (List.of_mem_zip hp).1
theorem set_by_eq {r o : List Str} {s : Stg} (h : Rw r) (hs : s.length ≤ 1000000) : m_set_by r o s = ret (setB r o s) := by
  simp only [m_set_by, bb, br]
  have hlen := h.len
  rw [cutL_1, cutL_1, loopW_fold stp (fun xs s => s.length + xs.length ≤ 1000010 ∧ ∀ p ∈ xs, Vl p.1) (fun p xs s hi => ⟨fun k => ?_, ?_, fun q hq => hi.2 q (List.mem_cons_of_mem _ hq)⟩) _ s ⟨by rw [List.length_zip, List.length_drop]; omega, zip_vl h⟩]
  · rfl
  · have h1 := hi.1
    rw [List.length_cons] at h1
    rw [is_word_eq (hi.2 p List.mem_cons_self), br, gte_and, br]
    unfold stp
    by_cases c : (!(dGet s p.1).isSome && !lw p.1) = true
    · rw [if_pos c, c, gte_true, show dputG s p.1 p.2 = ret (dPut s p.1 p.2) from rgd_of (by unfold sizeLine; omega) _, br]
    · rw [if_neg c, Bool.eq_false_iff.mpr c, gte_false]
  · have h1 := hi.1
    rw [List.length_cons] at h1
    have := stp_len s p
    omega
theorem law_set_by_eq {r o : List Str} {s : Stg} (h : Rw r) (hl : o.length = r.length) (hs : s.length ≤ 1000000) : m_law_set_by r o s = ret (setB r o s) := by
  simp only [m_law_set_by, bb, br]
  have hlen := h.len
  have hne : 0 < r.length := List.length_pos_iff.mpr h.ne
  rw [rng2_eq (by omega), br]
  refine loopW_ixE (fun i st => st = (((r.drop 1).zip (o.drop 1)).take i).foldl stp s ∧ st.length ≤ 1000000 + i) ⟨rfl, hs⟩ ?_ fun st hst => ?_
  · rintro i x st hx ⟨e, hi⟩
    have e1 := rngL_get hx
    have hi1 : i < ((r.length : Int) - 1).toNat := by
      have := (List.getElem?_eq_some_iff.mp hx).1
      rwa [rngL_len] at this
    have e2 : x = ((i + 1 : Nat) : Int) := by omega
    subst e2
    have hr : i + 1 < r.length := by omega
    have ho : i + 1 < o.length := by omega
    have hz : ((r.drop 1).zip (o.drop 1))[i]? = some (gf r (i + 1), gf o (i + 1)) := by
      rw [List.getElem?_zip_eq_some]
      exact ⟨by rw [List.getElem?_drop, Nat.add_comm]; exact gf_get hr, by rw [List.getElem?_drop, Nat.add_comm]; exact gf_get ho⟩
    have hv : Vl (gf r (i + 1)) := zip_vl h _ (List.mem_of_getElem? hz)
    have hin : i < ((r.drop 1).zip (o.drop 1)).length := (List.getElem?_eq_some_iff.mp hz).1
    refine ⟨stp st (gf r (i + 1), gf o (i + 1)), fun k => ?_, ?_, ?_⟩
    · simp only [ixW_gfn hr, ixW_gfn ho, br, law_is_word_eq hv.len, gte_and]
      unfold stp
      dsimp only
      rw [Bool.and_comm]
      by_cases c : (!(dGet st (gf r (i + 1))).isSome && !lw (gf r (i + 1))) = true
      · rw [if_pos c, c, gte_true, show dputG st (gf r (i + 1)) (gf o (i + 1)) = ret (dPut st (gf r (i + 1)) (gf o (i + 1))) from rgd_of (by unfold sizeLine; omega) _, br]
      · rw [if_neg c, Bool.eq_false_iff.mpr c, gte_false]
    · rw [List.take_add_one, hz, List.foldl_append, ← e]; rfl
    · have := stp_len st (gf r (i + 1), gf o (i + 1))
      omega
  · obtain ⟨e2, _⟩ := hst
    rw [rngL_len] at e2
    rw [e2]
    unfold setB
    rw [List.take_of_length_le (by rw [List.length_zip, List.length_drop, List.length_drop]; omega)]
/-! ### the walk of the tree -/
noncomputable def kids (ts : List (List Str)) (r : List Str) (s : Stg) : List Stg := ((ts.filter (isP r s)).reverse).map fun o => setB r o s
open Classical in
noncomputable def runC (ts small : List (List Str)) : List (List Str) → List Stg → Bool
  | [], W => W.isEmpty
  | r :: rs, W => match W.getLast? with
    | none => false
    | some s => if r ∈ small then runC ts small rs (W.dropLast ++ kids ts r s) else false
theorem popW_snoc {α : Type} (ys : List α) (x : α) : popW (ys ++ [x]) = ret (x, ys) := funext fun Q => propext ⟨fun ⟨a, zs, e, q⟩ => by
  obtain ⟨e1, e2⟩ := List.append_inj' e rfl
  cases e2
  rw [e1]; exact q, fun q => ⟨x, ys, rfl, q⟩⟩
theorem kids_len (ts : List (List Str)) (r : List Str) (s : Stg) : (kids ts r s).length ≤ ts.length := by
  unfold kids
  rw [List.length_map, List.length_reverse]
  exact List.length_filter_le _ _
theorem kids_s {ts : List (List Str)} {r : List Str} {s z : Stg} (h : r.length ≤ 10) (hz : z ∈ kids ts r s) : z.length ≤ s.length + 10 := by
  unfold kids at hz
  obtain ⟨o, _, rfl⟩ := List.mem_map.mp hz
  exact setB_len h
theorem app_all {α β ρ : Type} {rest : List β → W ρ} (g : α → β) (body : α → List β → (List β → W ρ) → W ρ) (hb : ∀ x acc, acc.length ≤ 2000000 → ∀ k, body x acc k = k (acc ++ [g x])) : ∀ (xs : List α) (acc : List β), acc.length + xs.length ≤ 2000000 → loopW body rest xs acc = rest (acc ++ xs.map g)
  | [], acc, _ => by rw [List.map_nil, List.append_nil]; rfl
  | x :: xs, acc, h => by
    rw [List.length_cons] at h
    show body x acc (loopW body rest xs) = _
    rw [hb x acc (by omega), app_all g body hb xs _ (by rw [List.length_append]; show acc.length + 1 + _ ≤ _; omega), List.map_cons, List.append_assoc]; rfl
structure WOk (W : List Stg) (n : Nat) : Prop where
  len : W.length + 64 * n ≤ 1000000
  st : ∀ s ∈ W, s.length + 10 * n ≤ 1000000
theorem WOk.step {W : List Stg} {s : Stg} {n : Nat} {ts : List (List Str)} {r : List Str} (h : WOk (W ++ [s]) (n + 1)) (ht : ts.length < 64) (hr : r.length ≤ 10) : WOk (W ++ kids ts r s) n := by
  have h1 := h.len
  rw [List.length_append, List.length_singleton] at h1
  refine ⟨?_, fun z hz => ?_⟩
  · rw [List.length_append]
    have := kids_len ts r s
    omega
  · rcases List.mem_append.mp hz with hz | hz
    · have := h.st z (List.mem_append_left _ hz); omega
    · have := kids_s hr hz
      have := h.st s (List.mem_append_right _ List.mem_cons_self)
      omega
theorem snoc_of {α : Type} {xs : List α} (h : xs ≠ []) : ∃ ys x, xs = ys ++ [x] := ⟨xs.dropLast, xs.getLast h, (List.dropLast_concat_getLast h).symm⟩
theorem runC_snoc {ts small : List (List Str)} {r : List Str} {rs : List (List Str)} {W : List Stg} {s : Stg} (h : r ∈ small) : runC ts small (r :: rs) (W ++ [s]) = runC ts small rs (W ++ kids ts r s) := by
  conv => lhs; unfold runC
  rw [List.getLast?_concat, List.dropLast_concat]
  exact if_pos h
theorem runC_no {ts small : List (List Str)} {r : List Str} {rs : List (List Str)} {W : List Stg} (h : r ∉ small) : runC ts small (r :: rs) W = false := by
  unfold runC
  cases W.getLast? with
  | none => rfl
  | some s => exact if_neg h
end K10
end
section
set_option maxRecDepth 100000
set_option maxHeartbeats 1000000
/-! k10, plain: is_closed tells what the law's walk tells. -/
namespace K10
open PySem L2 Sx Dl
theorem cut_init {α : Type} (ys : List α) (x : α) : cutL (ys ++ [x]) none (some (-1)) = ys := by
  unfold cutL
  have h : HT.sIx (ys ++ [x]).length (ys ++ [x]).length (some (-1)) = ys.length := by
    show (if (-1 : Int) < 0 then ((-1 : Int) + ((ys ++ [x]).length : Int)).toNat else min (-1 : Int).toNat (ys ++ [x]).length) = _
    rw [if_pos (by decide), List.length_append, List.length_singleton]
    omega
  rw [h, HT.sIx_none, List.drop_zero, Nat.sub_zero, List.take_append_of_le_length (Nat.le_refl _), List.take_length]
theorem ix_last {α : Type} (ys : List α) (x : α) : ixW (ys ++ [x]) (-1) = ret x := ixW_at (j := ys.length) (by
  have h : 0 < (ys ++ [x]).length := by rw [List.length_append, List.length_singleton]; omega
  rw [ixN_last h, List.length_append, List.length_singleton]; rfl) (by rw [List.getElem?_append_right (Nat.le_refl _), Nat.sub_self]; rfl)
theorem niG_in {α : Type} [DecidableEq α] {ok : α → Prop} {x : α} {xs : List α} (h : ok x ∧ okL ok xs) (hx : x ∈ xs) : niG ok x xs = ret false := by
  unfold niG
  rw [rgd_of h, decide_eq_true hx]; rfl
theorem niG_out {α : Type} [DecidableEq α] {ok : α → Prop} {x : α} {xs : List α} (h : ok x ∧ okL ok xs) (hx : x ∉ xs) : niG ok x xs = ret true := by
  unfold niG
  rw [rgd_of h, decide_eq_false hx]; rfl
theorem loopW_cons {α σ ρ : Type} (body : α → σ → (σ → Dl.W ρ) → Dl.W ρ) (rest : σ → Dl.W ρ) (x : α) (xs : List α) (s : σ) : loopW body rest (x :: xs) s = body x s (loopW body rest xs) := rfl
theorem foldl_if {α β : Type} (p : α → Bool) (g : α → β) : ∀ (xs : List α) (acc : List β), xs.foldl (fun acc x => if p x = true then acc ++ [g x] else acc) acc = acc ++ (xs.filter p).map g
  | [], acc => by simp
  | x :: xs, acc => by
    rw [List.foldl_cons, foldl_if p g xs]
    cases h : p x with
    | true => rw [if_pos rfl, List.filter_cons_of_pos h, List.map_cons, List.append_assoc]; rfl
    | false => rw [if_neg Bool.false_ne_true, List.filter_cons_of_neg (by rw [h]; exact Bool.false_ne_true)]
structure ClIn (small big rows : List (List Str)) (s : Stg) : Prop where
  nb : big.length < 64
  ns : small.length ≤ 100
  nr : rows.length ≤ 10000
  rs : ∀ r ∈ small, Rw r
  rb : ∀ r ∈ big, Rw r
  orw : okL (okL okS) rows
  nst : s.length ≤ 1000
def tgts (big : List (List Str)) : List (List Str) := sortU ltR big
theorem tgts_len (big : List (List Str)) : (tgts big).length ≤ big.length := sortU_len _
theorem tgts_rw {big : List (List Str)} (h : ∀ r ∈ big, Rw r) : ∀ r ∈ tgts big, Rw r := fun r hr => h r ((mem_sortU (lt := ltR)).mp hr)
theorem due_run {small ts : List (List Str)} (hs : ∀ r ∈ small, Rw r) (ht : ∀ r ∈ ts, Rw r) (hl : ts.length < 64) : ∀ (rows : List (List Str)) (W : List Stg), okL (okL okS) rows → WOk W rows.length →
    loopW (fun (x19 : List Str) (s12 : List Stg) (k13 : List Stg → Dl.W Bool) =>
            bnd (gte s12.isEmpty (Dl.ret true) (niG (okL okS) x19 small)) fun a25 =>
              gte a25 (Dl.ret false)
                (bnd (ixW s12 (-1)) fun v29 =>
                  loopW
                    (fun x45 s38 k39 =>
                      bnd (m_law_is_partner x19 x45 v29) fun a53 =>
                        gte a53 (bnd (m_law_set_by x19 x45 v29) fun a62 => bnd (appG s38 a62) fun v61 => k39 v61)
                          (k39 s38))
                    (fun s38 => k13 s38) ts.reverse (cutL s12 none (some (-1)))))
          (fun a22 => Dl.ret a22.isEmpty) rows W = ret (runC ts small rows W)
  | [], W, _, _ => rfl
  | r :: rs, W, ho, hw => by
    rw [loopW_cons]
    by_cases hW : W = []
    · subst hW
      rfl
    · obtain ⟨W', s, e⟩ := snoc_of hW
      subst e
      have he : (W' ++ [s]).isEmpty = false := by simp
      rw [he, gte_false]
      have hok : okL okS r ∧ okL (okL okS) small := ⟨ho r List.mem_cons_self, fun x hx => (hs x hx).ok⟩
      by_cases hr : r ∈ small
      · have hrw := hs r hr
        rw [niG_in hok hr, br, gte_false, ix_last, br, cut_init, runC_snoc hr]
        rw [List.length_cons] at hw
        have hw2 := hw.step hl hrw.len
        have hsl := hw.st s (List.mem_append_right _ List.mem_cons_self)
        have hwl := hw.len
        rw [List.length_append, List.length_singleton] at hwl
        rw [loopW_fold (fun acc o => if isP r s o = true then acc ++ [setB r o s] else acc) (fun xs acc => acc.length + xs.length ≤ 2000000 ∧ ∀ o ∈ xs, Rw o) (fun o xs acc hi => ⟨fun k => ?_, ?_, fun q hq => hi.2 q (List.mem_cons_of_mem _ hq)⟩) ts.reverse W' ⟨by rw [List.length_reverse]; omega, fun o ho => ht o (List.mem_reverse.mp ho)⟩, foldl_if, List.filter_reverse]
        · exact due_run hs ht hl rs _ (fun x hx => ho x (List.mem_cons_of_mem _ hx)) hw2
        · have h1 := hi.1
          rw [List.length_cons] at h1
          rw [law_is_partner_eq hrw (hi.2 o List.mem_cons_self), br]
          cases hp : isP r s o with
          | true =>
            rw [gte_true, law_set_by_eq hrw (isP_iff.mp hp).1 (by omega), br, if_pos rfl, show appG acc (setB r o s) = ret (acc ++ [setB r o s]) from rgd_of (by unfold sizeLine; omega) _, br]
          | false => rw [gte_false, if_neg Bool.false_ne_true]
        · have h1 := hi.1
          rw [List.length_cons] at h1
          split
          · rw [List.length_append, List.length_singleton]; omega
          · omega
      · rw [niG_out hok hr, br, gte_true, runC_no hr]
theorem wok_one {s : Stg} {n : Nat} (hs : s.length ≤ 1000) (hn : n ≤ 10000) : WOk [s] n := ⟨by rw [List.length_singleton]; omega, fun z hz => by rw [List.mem_singleton.mp hz]; omega⟩
theorem law_closed_due_eq {small big rows : List (List Str)} {s : Stg} (h : ClIn small big rows s) : m_law_closed_due small big rows s = ret (runC (tgts big) small rows [s]) := by
  simp only [m_law_closed_due, bb, br]
  have h1 := h.nb
  have h2 := tgts_len big
  rw [show setG 64 big = ret big from rgd_of h1 _, br, show sortRG big = ret (tgts big) from rgd_of (fun r hr => (h.rb r hr).ne) _, br]
  exact due_run h.rs (tgts_rw h.rb) (by omega) rows [s] h.orw (wok_one h.nst h.nr)
/-! the program's walk -/
theorem whileN_succ {σ ρ : Type} (c : σ → Dl.W Bool) (body : σ → (σ → Dl.W ρ) → Dl.W ρ) (rest : σ → Dl.W ρ) (n : Nat) (s : σ) : whileN c body rest (n + 1) s = bnd (c s) fun b => gte b (body s (whileN c body rest n)) (rest s) := rfl
theorem end_run {small ts rows : List (List Str)} (hs : ∀ r ∈ small, Rw r) (hl : ts.length < 64) (c : List Stg × Int → Dl.W Bool) (body : List Stg × Int → (List Stg × Int → Dl.W (Option Int)) → Dl.W (Option Int))
    (hc : ∀ W i, c (W, i) = ret (!W.isEmpty)) (hb0 : ∀ W (i : Nat) k, rows[i]? = none → body (W, (i : Int)) k = ret none) (hb1 : ∀ W (i : Nat) k r, rows[i]? = some r → r ∉ small → body (W, (i : Int)) k = ret none)
    (hb2 : ∀ W' s (i : Nat) k r, rows[i]? = some r → r ∈ small → WOk (W' ++ [s]) 1 → body (W' ++ [s], (i : Int)) k = k (W' ++ kids ts r s, ((i + 1 : Nat) : Int))) :
    ∀ (R : List (List Str)) (i : Nat) (W : List Stg), rows.drop i = R → i ≤ rows.length → WOk W R.length →
      ∃ x, (decide (x = some (rows.length : Int)) = runC ts small R W) ∧ whileN c body (fun st => ret (some st.2)) (R.length + 2) (W, (i : Int)) = ret x ∧ ∀ n Q, whileN c body (fun st => ret (some st.2)) n (W, (i : Int)) Q → Q x := by
  intro R
  induction R with
  | nil =>
    intro i W hR hi hw
    have hi2 : rows.length ≤ i := List.drop_eq_nil_iff.mp hR
    have e : i = rows.length := by omega
    by_cases hW : W = []
    · subst hW
      refine ⟨some (i : Int), ?_, ?_, fun n Q q => ?_⟩
      · rw [e]; exact decide_eq_true rfl
      · rw [whileN_succ, hc]; rfl
      · cases n with
        | zero => exact q.elim
        | succ n => rw [whileN_succ, hc] at q; exact q
    · have hn : rows[i]? = none := List.getElem?_eq_none (by omega)
      have he : (!W.isEmpty) = true := by cases W with
        | nil => exact absurd rfl hW
        | cons a b => rfl
      refine ⟨none, ?_, ?_, fun n Q q => ?_⟩
      · unfold runC
        rw [decide_eq_false (fun z => nomatch z)]
        cases W with
        | nil => exact absurd rfl hW
        | cons a b => rfl
      · rw [whileN_succ, hc, br, he, gte_true, hb0 W i _ hn]
      · cases n with
        | zero => exact q.elim
        | succ n => rw [whileN_succ, hc, br, he, gte_true, hb0 W i _ hn] at q; exact q
  | cons r R ih =>
    intro i W hR hi hw
    have hi1 : i < rows.length := by
      rcases Nat.lt_or_ge i rows.length with z | z
      · exact z
      · rw [List.drop_eq_nil_of_le z] at hR; cases hR
    have hri : rows[i]? = some r := by
      have := congrArg (fun l => l[0]?) hR
      simpa [List.getElem?_drop] using this
    have hR2 : rows.drop (i + 1) = R := by
      rw [show i + 1 = i + 1 from rfl, ← List.drop_drop, hR]; rfl
    by_cases hW : W = []
    · subst hW
      refine ⟨some (i : Int), ?_, ?_, fun n Q q => ?_⟩
      · rw [decide_eq_false (fun z => by have := Option.some.inj z; omega)]; rfl
      · rw [whileN_succ, hc]; rfl
      · cases n with
        | zero => exact q.elim
        | succ n => rw [whileN_succ, hc] at q; exact q
    · obtain ⟨W', s, e2⟩ := snoc_of hW
      subst e2
      have he : (!(W' ++ [s]).isEmpty) = true := by simp
      by_cases hr : r ∈ small
      · have hrw := hs r hr
        rw [List.length_cons] at hw
        have hw2 := hw.step hl hrw.len
        have hw1 : WOk (W' ++ [s]) 1 := ⟨by have := hw.len; omega, fun z hz => by have := hw.st z hz; omega⟩
        obtain ⟨x, h1, h2, h3⟩ := ih (i + 1) _ hR2 (by omega) hw2
        refine ⟨x, ?_, ?_, fun n Q q => ?_⟩
        · rw [h1, runC_snoc hr]
        · rw [List.length_cons, show R.length + 1 + 2 = (R.length + 2) + 1 by omega, whileN_succ, hc, br, he, gte_true, hb2 W' s i _ r hri hr hw1, h2]
        · cases n with
          | zero => exact q.elim
          | succ n =>
            rw [whileN_succ, hc, br, he, gte_true, hb2 W' s i _ r hri hr hw1] at q
            exact h3 n Q q
      · refine ⟨none, ?_, ?_, fun n Q q => ?_⟩
        · rw [runC_no hr]; exact decide_eq_false (fun z => nomatch z)
        · rw [whileN_succ, hc, br, he, gte_true, hb1 _ i _ r hri hr]
        · cases n with
          | zero => exact q.elim
          | succ n =>
            rw [whileN_succ, hc, br, he, gte_true, hb1 _ i _ r hri hr] at q
            exact q
end K10
end
section
set_option maxRecDepth 100000
set_option maxHeartbeats 1000000
/-! k10, plain: is_closed, asked twice. -/
namespace K10
open PySem L2 Sx Dl
theorem closed_end_eq {p q t : Bool × List (List Str)} {s : Stg} (h : ClIn p.2 q.2 t.2 s) : ∃ x : Option Int, m_closed_end p q t 0 s = Dl.ret x ∧ decide (x = some (t.2.length : Int)) = runC (tgts q.2) p.2 t.2 [s] := by
  simp only [m_closed_end, bb, br]
  have h1 := h.nb
  have h2 := tgts_len q.2
  have h3 := h.ns
  rw [bnd_rgd (show p.2.length ≤ sizeLine by unfold sizeLine; omega), show setG 64 q.2 = ret q.2 from rgd_of h1 _, br, show sortRG q.2 = ret (tgts q.2) from rgd_of (fun r hr => (h.rb r hr).ne) _, br]
  refine Exists.elim (end_run (rows := t.2) h.rs (ts := tgts q.2) (by omega) (fun s14 : List Stg × Int => ret (!s14.1.isEmpty)) (fun s14 k15 =>
              bnd
                (gte (decide ((t.2.length : Int) ≤ s14.2)) (Dl.ret true)
                  (bnd (ixW t.2 s14.2) fun a24 => Dl.ret !decide (a24 ∈ p.2)))
                fun a32 =>
                gte a32 (Dl.ret none)
                  (bnd (popW s14.1) fun p33 =>
                    bnd (ixW t.2 s14.2) fun a =>
                      bnd (m_partners a p33.1 (tgts q.2)) fun a =>
                        loopW
                          (fun x51 s44 k45 =>
                            bnd (ixW t.2 s14.2) fun a =>
                              bnd (m_set_by a x51 p33.1) fun a62 => bnd (appG s44 a62) fun v61 => k45 v61)
                          (fun s44 => k15 (s44, s14.2 + 1)) a.reverse p33.2)) (fun _ _ => rfl) ?_ ?_ ?_ t.2 0 [s] rfl (Nat.zero_le _) (wok_one h.nst h.nr)) fun x hx => ?_
  · intro W i k hn
    have : t.2.length ≤ i := List.getElem?_eq_none_iff.mp hn
    dsimp only
    rw [decide_eq_true (show (t.2.length : Int) ≤ (i : Int) by omega)]; rfl
  · intro W i k r hr hns
    have hi : i < t.2.length := (List.getElem?_eq_some_iff.mp hr).1
    dsimp only
    rw [decide_eq_false (show ¬ (t.2.length : Int) ≤ (i : Int) by omega), gte_false, ixW_nat hr, br, br]
    simp only [hns, decide_false, Bool.not_false, gte_true]
  · intro W' s' i k r hr hin hw
    have hi : i < t.2.length := (List.getElem?_eq_some_iff.mp hr).1
    have hrw := h.rs r hin
    have hsl := hw.st s' (List.mem_append_right _ List.mem_cons_self)
    have hwl := hw.len
    rw [List.length_append, List.length_singleton] at hwl
    dsimp only
    rw [decide_eq_false (show ¬ (t.2.length : Int) ≤ (i : Int) by omega), gte_false, ixW_nat hr, br, br]
    simp only [hin, decide_true, Bool.not_true, gte_false]
    rw [popW_snoc, br, br, partners_eq hrw (by omega), br]
    dsimp only
    have hk := kids_len (tgts q.2) r s'
    unfold kids at hk ⊢
    rw [List.length_map] at hk
    rw [app_all (fun o => setB r o s') _ (fun o acc ha k2 => ?_) _ W' (by omega)]
    · rfl
    · rw [br, set_by_eq hrw (by omega), br, show appG acc (setB r o s') = ret (acc ++ [setB r o s']) from rgd_of (by unfold sizeLine; omega) _, br]
  · obtain ⟨e1, e2, e3⟩ := hx
    refine ⟨x, funext fun Q => propext ⟨fun ⟨n, z⟩ => e3 n Q z, fun z => ⟨t.2.length + 2, (congrFun e2 Q).mpr z⟩⟩, e1⟩
theorem is_closed_eq {p q t : Bool × List (List Str)} {o : Option Stg} (h : ClIn p.2 q.2 t.2 (o.getD [])) : m_is_closed p q t o = ret (runC (tgts q.2) p.2 t.2 [o.getD []]) := by
  simp only [m_is_closed, bb, br]
  rw [show orElseW o (ret []) = ret (o.getD []) by cases o <;> rfl, br]
  obtain ⟨x, e1, e2⟩ := closed_end_eq h
  rw [e1, br, ← e2]
theorem dNe_self {s : Stg} (h : (s.map fun q => q.1).Nodup) : dNeG s s = ret false := by
  unfold dNeG
  rw [rgd_of (fun _ => dGet_self h), decide_eq_true rfl]; rfl
theorem dEq_nil {s : Stg} : dEqG s [] = ret s.isEmpty := by
  unfold dEqG
  cases s with
  | nil => rw [rgd_of (fun _ p hp => by cases hp)]; rfl
  | cons a s => rw [rgd_of (fun z => by cases z)]; rfl
theorem dd1 (b : Bool) : decide (decide (b = true) = b) = true := by cases b <;> rfl
theorem dd2 (b : Bool) : decide (decide (b = false) = b) = false := by cases b <;> rfl
theorem tgts_congr {a b : List (List Str)} (h : ∀ r, r ∈ a ↔ r ∈ b) : tgts a = tgts b := sortU_congr ltR_ord h
theorem closed_holds_eq {small big rows : List (List Str)} {s : Stg} (h : ClIn small big rows s) (hb : big.length < 32) (nd : (s.map fun q => q.1).Nodup) : m_law_closed_holds small big rows s = ret true := by
  simp only [m_law_closed_holds, bb, br, jn]
  have hmem : ∀ r, r ∈ big.reverse ++ big ↔ r ∈ big := fun r => by rw [List.mem_append, List.mem_reverse, or_self]
  have et : tgts (big.reverse ++ big) = tgts big := tgts_congr hmem
  have h2 : ClIn small (big.reverse ++ big) rows s := ⟨by rw [List.length_append, List.length_reverse]; omega, h.ns, h.nr, h.rs, fun r hr => h.rb r ((hmem r).mp hr), h.orw, h.nst⟩
  rw [law_closed_due_eq h, br, is_closed_eq (p := (true, small)) (q := (true, big)) (t := (true, rows)) (o := some s) h, br, neG_self (rows_ok h.rs), br, gte_false, neG_self (rows_ok h.rb), br, gte_false, neG_self h.orw, br, gte_false, dNe_self nd, br, gte_false]
  unfold catL
  rw [bnd_rgd (by rw [List.length_reverse]; unfold sizeLine; omega), dEq_nil, br]
  dsimp only [Option.getD]
  cases s with
  | nil =>
    rw [is_closed_eq (p := (true, small)) (q := (false, big.reverse ++ big)) (t := (true, rows)) (o := none) h2]
    dsimp only [Option.getD]
    simp only [br, et, dd1, dd2, Bool.not_true, Bool.not_false, gte_false, gte_true, List.isEmpty_nil]
  | cons a s =>
    rw [is_closed_eq (p := (false, small)) (q := (false, big.reverse ++ big)) (t := (false, rows)) (o := some (a :: s)) h2]
    dsimp only [Option.getD]
    simp only [br, et, dd1, dd2, Bool.not_true, Bool.not_false, gte_false, gte_true, List.isEmpty_cons]
end K10
end
section
set_option maxRecDepth 100000
set_option maxHeartbeats 1000000
/-! Mirrors that draw: what holds of whatever is drawn. -/
namespace Dl
/-- whatever m gives, it is an R -/
def Sat {α : Type} (m : W α) (R : α → Prop) : Prop := ∀ Q : α → Prop, (∀ a, R a → Q a) → m Q
section
variable {α β σ ρ : Type}
theorem Sat.ret {a : α} {R : α → Prop} (h : R a) : Sat (ret a) R := fun Q q => q a h
theorem Sat.bnd {m : W α} {f : α → W β} {R : α → Prop} {S : β → Prop} (h : Sat m R) (g : ∀ a, R a → Sat (f a) S) : Sat (bnd m f) S := fun Q q => h (fun a => f a Q) fun a ra => g a ra Q q
theorem Sat.imp {m : W α} {R S : α → Prop} (h : Sat m R) (g : ∀ a, R a → S a) : Sat m S := fun Q q => h Q fun a ra => q a (g a ra)
theorem Sat.rgd {p : Prop} {a : α} {R : α → Prop} (h : p) (r : R a) : Sat (rgd p a) R := fun Q q => ⟨h, q a r⟩
theorem Sat.gte {b : Bool} {x y : W α} {R : α → Prop} (h1 : b = true → Sat x R) (h2 : b = false → Sat y R) : Sat (gte b x y) R := by
  cases b with
  | true => exact h1 rfl
  | false => exact h2 rfl
theorem Sat.eq {m m' : W α} {R : α → Prop} (e : m = m') (h : Sat m' R) : Sat m R := e ▸ h
theorem Sat.jn {k : σ → W ρ} {f : (σ → W ρ) → W ρ} {R : ρ → Prop} (I : σ → Prop) (hk : ∀ s, I s → Sat (k s) R) (hf : ∀ k : σ → W ρ, (∀ s, I s → Sat (k s) R) → Sat (f k) R) : Sat (jn k f) R := hf k hk
theorem Sat.pick {many : Int} (h : many ≤ 1000000) : Sat (pickW many) fun r => 0 ≤ r ∧ (r < many ∨ (many < 2 ∧ r = 0)) := fun Q q => ⟨h, fun r h1 h2 => q r ⟨h1, h2⟩⟩
theorem Sat.one {xs : List α} (h : xs ≠ []) (hl : xs.length ≤ 1000000) : Sat (oneW xs) fun x => x ∈ xs := fun Q q => ⟨h, hl, fun x hx => q x hx⟩
theorem Sat.oneC {z : PySem.Str} (h : 0 < z.length) (hl : z.length ≤ 1000000) : Sat (oneC z) fun x => ∃ c ∈ TL.tl z, x = ⟨#[c]⟩ := fun Q q => ⟨h, hl, fun c hc => q _ ⟨c, hc, rfl⟩⟩
theorem Sat.loop {body : α → σ → (σ → W ρ) → W ρ} {rest : σ → W ρ} {R : ρ → Prop} (I : List α → σ → Prop) (hr : ∀ s, I [] s → Sat (rest s) R) (hb : ∀ x xs s k, I (x :: xs) s → (∀ s', I xs s' → Sat (k s') R) → Sat (body x s k) R) : ∀ (xs : List α) (s : σ), I xs s → Sat (loopW body rest xs s) R
  | [], s, h => hr s h
  | x :: xs, s, h => hb x xs s _ h fun s' h' => Sat.loop I hr hb xs s' h'
theorem Sat.lcW {e : α → W β} {R : β → Prop} (h : ∀ x, Sat (e x) R) : ∀ xs : List α, Sat (lcW (fun _ => Dl.ret true) e xs) fun ys => ys.length = xs.length ∧ ∀ y ∈ ys, R y
  | [] => Sat.ret ⟨rfl, fun y hy => by cases hy⟩
  | x :: xs => by
    show Sat (Dl.bnd (e x) fun y => Dl.bnd (Dl.lcW (fun _ => Dl.ret true) e xs) fun ys => Dl.ret (y :: ys)) _
    refine Sat.bnd (h x) fun y hy => Sat.bnd (Sat.lcW h xs) fun ys hys => Sat.ret ⟨by rw [List.length_cons, hys.1, List.length_cons], fun z hz => ?_⟩
    rcases List.mem_cons.mp hz with e | hz
    · rw [e]; exact hy
    · exact hys.2 z hz
theorem Sat.lcG {e : α → W β} {R : β → Prop} {xs : List α} (hn : xs.length ≤ PySem.sizeLine) (h : ∀ x, Sat (e x) R) : Sat (lcG (fun _ => Dl.ret true) e xs) fun ys => ys.length = xs.length ∧ ∀ y ∈ ys, R y := fun Q q => ⟨hn, Sat.lcW h xs Q q⟩
theorem Sat.app {xs : List α} {x : α} {R : List α → Prop} (h : xs.length < PySem.sizeLine) (r : R (xs ++ [x])) : Sat (appG xs x) R := Sat.rgd h r
theorem Sat.cat {xs ys : List α} {R : List α → Prop} (h : xs.length + ys.length ≤ PySem.sizeLine) (r : R (xs ++ ys)) : Sat (catL xs ys) R := Sat.rgd h r
end
end Dl
namespace K10
open PySem L2 Sx Dl
structure FoldOk (f : Stg) : Prop where
  nd : (f.map fun q => q.1).Nodup
  len : f.length ≤ 62
  ok : ∀ q ∈ f, okS q.1 ∧ okS q.2
theorem dPut_ok {d : Stg} {k v : Str} (h : ∀ q ∈ d, okS q.1 ∧ okS q.2) (hk : okS k) (hv : okS v) : ∀ q ∈ dPut d k v, okS q.1 ∧ okS q.2 := fun q hq => by
  unfold dPut at hq
  split at hq
  · obtain ⟨p, hp, e⟩ := List.mem_map.mp hq
    subst e
    split
    · exact ⟨(h p hp).1, hv⟩
    · exact h p hp
  · rcases List.mem_append.mp hq with hq | hq
    · exact h q hq
    · rw [List.mem_singleton.mp hq]; exact ⟨hk, hv⟩
theorem dGet_mem {d : Stg} {k v : Str} (h : dGet d k = some v) : ∃ q ∈ d, q.1 = k ∧ q.2 = v := by
  unfold dGet at h
  rw [Option.map_eq_some_iff] at h
  obtain ⟨q, hq, e⟩ := h
  exact ⟨q, List.mem_of_find?_eq_some hq, of_decide_eq_true (by simpa using List.find?_some hq), e⟩
theorem spoilt_fold_sat {fold : Stg} {movable words : List Str} (hf : FoldOk fold) (hl : fold.length ≤ 60) (hw : words ≠ []) (hwl : words.length ≤ 100) (hml : movable.length ≤ 100) (hwo : okL okS words) (hmo : okL okS movable) :
    Sat (m_law_spoilt_fold fold movable words) FoldOk := by
  simp only [m_law_spoilt_fold, bb, br]
  refine Sat.bnd (Sat.pick (by omega)) fun kind _ => ?_
  refine Sat.loop (fun xs s => FoldOk s ∧ s.length + xs.length ≤ 60 ∧ (∀ x ∈ xs, x ∈ fold.map fun q => q.1) ∧ ∀ x ∈ fold.map (fun q => q.1), x ∈ xs ∨ x ∈ s.map fun q => q.1) ?_ ?_ _ _ ⟨⟨List.nodup_nil, Nat.zero_le _, fun q hq => by cases hq⟩, by rw [List.length_reverse, List.length_map]; simpa using hl, fun x hx => List.mem_reverse.mp hx, fun x hx => .inl (List.mem_reverse.mpr hx)⟩
  · rintro s ⟨hs, hsl, _, hk⟩
    have hk : ∀ x ∈ fold.map (fun q => q.1), x ∈ s.map fun q => q.1 := fun x hx => (hk x hx).elim (fun z => by cases z) id
    rw [List.length_nil] at hsl
    have put : ∀ (k v : Str) (kk : Stg → Dl.W Stg), okS k → okS v → (∀ t, FoldOk t → Sat (kk t) FoldOk) → Sat (bnd (dputG s k v) fun d => kk d) FoldOk := fun k v kk h1 h2 h3 => Sat.bnd (R := FoldOk) (Sat.rgd (by unfold sizeLine; omega) ⟨dPut_nodup hs.nd, by have := dPut_len (d := s) (k := k) (v := v); omega, dPut_ok hs.ok h1 h2⟩) h3
    refine Sat.jn FoldOk (fun t ht => Sat.ret ht) fun k hk2 => Sat.gte (fun _ => ?_) fun _ => ?_
    · obtain ⟨w, ws, e⟩ : ∃ w ws, words = w :: ws := by
        cases words with
        | nil => exact absurd rfl hw
        | cons w ws => exact ⟨w, ws, rfl⟩
      have hw0 : okS w := hwo w (by rw [e]; exact List.mem_cons_self)
      refine Sat.eq (m' := _) (by rw [show ixW words 0 = ret w by rw [e]; exact ixW_nat (i := 0) rfl, br]) ?_
      refine Sat.bnd (Sat.one (fun z => nomatch z) (by show 4 ≤ _; decide)) fun key hkey => ?_
      refine Sat.bnd (Sat.one hw (by omega)) fun v hv => put key v k ?_ (hwo v hv) hk2
      rcases List.mem_cons.mp hkey with z | hkey
      · rw [z]; unfold okS; decide +kernel
      · rcases List.mem_cons.mp hkey with z | hkey
        · rw [z]; unfold okS; decide +kernel
        · rcases List.mem_cons.mp hkey with z | hkey
          · rw [z]; unfold okS; decide +kernel
          · rw [List.mem_singleton.mp hkey]; exact hw0
    · have hko : okL okS (fold.map fun q => q.1) := fun x hx => by
        obtain ⟨q, hq, rfl⟩ := List.mem_map.mp hx
        exact (hf.ok q hq).1
      unfold neG
      rw [bnd_rgd ⟨hko, fun x hx => by cases hx⟩]
      refine Sat.gte (fun hne => ?_) fun _ => hk2 s hs
      have hne : fold.map (fun q => q.1) ≠ [] := fun z => by rw [z] at hne; simp at hne
      refine Sat.bnd (Sat.one hne (by rw [List.length_map]; omega)) fun key hkey => ?_
      refine Sat.gte (fun _ => ?_) fun _ => Sat.gte (fun _ => ?_) fun _ => hk2 s hs
      · refine Sat.bnd (Sat.cat (R := (· = words ++ movable)) (by unfold sizeLine; omega) rfl) fun a ha => ?_
        subst ha
        refine Sat.bnd (Sat.cat (R := (· = words ++ movable ++ [("?7" : Str)])) (by rw [List.length_append, List.length_singleton]; unfold sizeLine; omega) rfl) fun a ha => ?_
        subst ha
        refine Sat.bnd (Sat.one (by simp) (by rw [List.length_append, List.length_append, List.length_singleton]; omega)) fun v hv => put key v k (hko key hkey) ?_ hk2
        rcases List.mem_append.mp hv with hv | hv
        · rcases List.mem_append.mp hv with hv | hv
          · exact hwo v hv
          · exact hmo v hv
        · rw [List.mem_singleton.mp hv]; unfold okS; decide +kernel
      · refine Sat.bnd (R := FoldOk) (Sat.rgd (dGet_isSome.mpr (hk key hkey)) ?_) hk2
        refine ⟨?_, ?_, fun q hq => hs.ok q (List.mem_filter.mp hq).1⟩
        · exact hs.nd.sublist ((List.filter_sublist).map _)
        · exact Nat.le_trans (List.length_filter_le _ _) hs.len
  · rintro x xs s k ⟨hs, hsl, hx, hk⟩ hk2
    rw [List.length_cons] at hsl
    have hxf := hx x List.mem_cons_self
    obtain ⟨v, hv⟩ := Option.isSome_iff_exists.mp (dGet_isSome.mpr hxf)
    obtain ⟨q, hq, e1, e2⟩ := dGet_mem hv
    rw [dgetW_some hv, br]
    refine Sat.bnd (R := fun t => t = dPut s x v) (Sat.rgd (by unfold sizeLine; omega) rfl) fun t ht => hk2 t ?_
    subst ht
    refine ⟨⟨dPut_nodup hs.nd, by have := dPut_len (d := s) (k := x) (v := v); omega, dPut_ok hs.ok (by rw [← e1]; exact (hf.ok q hq).1) (by rw [← e2]; exact (hf.ok q hq).2)⟩, by have := dPut_len (d := s) (k := x) (v := v); omega, fun y hy => hx y (List.mem_cons_of_mem _ hy), fun y hy => ?_⟩
    have hkeys : (dPut s x v).map (fun q => q.1) = _ := dPut_keys
    by_cases c : y = x
    · right
      rw [hkeys, c]
      split
      · assumption
      · exact List.mem_append_right _ List.mem_cons_self
    · rcases hk y hy with z | z
      · rcases List.mem_cons.mp z with z | z
        · exact absurd z c
        · exact .inl z
      · right
        rw [hkeys]
        split
        · exact z
        · exact List.mem_append_left _ z
end K10
end
section
set_option maxRecDepth 100000
set_option maxHeartbeats 1000000
namespace K10
open PySem L2 Sx Dl
theorem cutL_mem {α : Type} {xs : List α} {lo hi : Option Int} {x : α} (h : x ∈ cutL xs lo hi) : x ∈ xs := by
  unfold cutL at h
  exact List.mem_of_mem_drop (List.mem_of_mem_take h)
theorem cutL_len {α : Type} {xs : List α} {lo hi : Option Int} : (cutL xs lo hi).length ≤ xs.length := by
  unfold cutL
  rw [List.length_take, List.length_drop]
  omega
theorem vals_len {rows : List (List Str)} (h : ∀ r ∈ rows, Rw r) : (vals rows).length ≤ 9 * rows.length := by
  unfold vals
  induction rows with
  | nil => exact Nat.zero_le _
  | cons r rows ih =>
    rw [List.flatMap_cons, List.length_append, List.length_drop, List.length_cons]
    have h1 := (h r List.mem_cons_self).len
    have h2 := ih fun q hq => h q (List.mem_cons_of_mem _ hq)
    omega
theorem foldIn {small big : List (List Str)} {f : Stg} (hs : ∀ r ∈ small, Rw r) (hb : ∀ r ∈ big, Rw r) (ns : small.length ≤ 6) (nb : big.length ≤ 100) (hf : FoldOk f) : FoldIn small big f :=
  ⟨by have := vals_len hs; omega, by omega, nb, hs, rows_ok hb, hf.nd, by have := hf.len; omega, hf.ok⟩
theorem folds_hold_sat {small big : List (List Str)} {hidden : Stg} {movable words : List Str} (hs : ∀ r ∈ small, Rw r) (hb : ∀ r ∈ big, Rw r) (ns : small.length ≤ 6) (nb : big.length ≤ 20)
    (hk : ∀ v ∈ movs small, v ∈ hidden.map fun q => q.1) (ho : ∀ q ∈ hidden, okS q.1 ∧ okS q.2) (hw : words ≠ []) (hwl : words.length ≤ 100) (hml : movable.length ≤ 100) (hwo : okL okS words) (hmo : okL okS movable) :
    Sat (m_law_folds_hold small big hidden movable words) (· = true) := by
  simp only [m_law_folds_hold, bb, br]
  have hv := vals_len hs
  have hml2 : (movs small).length ≤ 54 := by
    unfold movs
    have h1 := List.length_filter_le (fun v => !lw v) (sortU ltS (vals small))
    have h2 := sortU_len (lt := ltS) (vals small)
    omega
  rw [law_movables_eq (by omega) (Rw.vals hs), br]
  refine Sat.loop (fun xs s => FoldOk s ∧ s.length + xs.length ≤ 54 ∧ ∀ x ∈ xs, x ∈ movs small) ?_ ?_ _ _ ⟨⟨List.nodup_nil, Nat.zero_le _, fun q hq => by cases hq⟩, by simpa using hml2, fun x hx => hx⟩
  · rintro s ⟨hf, hl, _⟩
    rw [List.length_nil] at hl
    rw [fold_holds_eq (foldIn hs hb ns (by omega) hf) (by omega), br]
    show Sat (gte false _ _) _
    rw [gte_false, rng1_eq (by decide), br]
    refine Sat.loop (fun _ _ => True) (fun _ _ => ?_) (fun x xs u k _ hk2 => ?_) _ _ trivial
    · refine Sat.bnd (Sat.pick (by omega)) fun at_ _ => ?_
      have l1 := cutL_len (xs := big) (lo := none) (hi := some at_)
      have l2 := cutL_len (xs := big) (lo := some (at_ + 1)) (hi := none)
      refine Sat.bnd (Sat.cat (R := (· = cutL big none (some at_) ++ cutL big (some (at_ + 1)) none)) (by unfold sizeLine; omega) rfl) fun less hless => ?_
      have hless2 : ∀ r ∈ less, Rw r := fun r hr => by
        rw [hless] at hr
        rcases List.mem_append.mp hr with z | z
        · exact hb r (cutL_mem z)
        · exact hb r (cutL_mem z)
      have hln : less.length ≤ 50 := by rw [hless, List.length_append]; omega
      rw [fold_holds_eq (foldIn hs hless2 ns (by omega) hf) hln, br, gte_true, fold_holds_eq (foldIn (small := []) (f := []) (fun r hr => by cases hr) hless2 (by decide) (by omega) ⟨List.nodup_nil, Nat.zero_le _, fun q hq => by cases hq⟩) hln]
      exact Sat.ret rfl
    · refine Sat.bnd (spoilt_fold_sat hf (by omega) hw hwl hml hwo hmo) fun ch hch => ?_
      rw [fold_holds_eq (foldIn hs hb ns (by omega) hch) (by omega), br]
      show Sat (gte false _ _) _
      rw [gte_false]
      exact hk2 () trivial
  · rintro x xs s k ⟨hf, hl, hx⟩ hk2
    rw [List.length_cons] at hl
    obtain ⟨v, hv⟩ := Option.isSome_iff_exists.mp (dGet_isSome.mpr (hk x (hx x List.mem_cons_self)))
    obtain ⟨q, hq, e1, e2⟩ := dGet_mem hv
    rw [dgetW_some hv, br]
    refine Sat.bnd (R := fun t => t = dPut s x v) (Sat.rgd (by unfold sizeLine; omega) rfl) fun t ht => hk2 t ?_
    subst ht
    have := dPut_len (d := s) (k := x) (v := v)
    exact ⟨⟨dPut_nodup hf.nd, by omega, dPut_ok hf.ok (by rw [← e1]; exact (ho q hq).1) (by rw [← e2]; exact (ho q hq).2)⟩, by omega, fun y hy => hx y (List.mem_cons_of_mem _ hy)⟩
/-! ### closed lists -/
/-- the walk ends at the strange row -/
theorem closed_rows_sat {big order : List (List Str)} {s0 : Stg} {j : Nat} {z : List Str} (hb : ∀ r ∈ big, Rw r) (nb : big.length < 64) (ho : ∀ r ∈ order, Rw r) (hj : order[j]? = some z) (hz : ∀ s, ∀ o ∈ big, isP z s o = false) (hs : s0.length ≤ 1000) :
    Sat (m_law_closed_rows big order s0) fun rows => rows.length ≤ 2000 ∧ ∀ r ∈ rows, r ∈ order := by
  simp only [m_law_closed_rows, bb, br]
  have h2 := tgts_len big
  have hjl : j < order.length := (List.getElem?_eq_some_iff.mp hj).1
  rw [show setG 64 big = ret big from rgd_of nb _, br, show sortRG big = ret (tgts big) from rgd_of (fun r hr => (hb r hr).ne) _, br, rng1_eq (by decide), br]
  refine Sat.loop (fun xs (st : List (Int × Stg) × List (List Str)) => xs.length ≤ 2000 ∧ (∀ p ∈ st.1, (∃ k : Nat, p.1 = (k : Int) ∧ k ≤ j) ∧ p.2.length + 10 * xs.length ≤ 30000) ∧ st.1.length + 64 * xs.length ≤ 200000 ∧ st.2.length + xs.length ≤ 2000 ∧ ∀ r ∈ st.2, r ∈ order) ?_ ?_ _ _ ?_
  · rintro ⟨W, found⟩ ⟨_, _, _, h4, h5⟩
    exact Sat.ret ⟨by simpa using h4, h5⟩
  · rintro x xs ⟨W, found⟩ k ⟨h1, h3, h4, h5, h6⟩ hk
    rw [List.length_cons] at h1 h3 h4 h5
    dsimp only at h3 h4 h5 h6 ⊢
    refine Sat.gte (fun _ => Sat.ret ⟨by omega, h6⟩) fun hne => ?_
    have hW : W ≠ [] := fun e => by rw [e] at hne; cases hne
    obtain ⟨W', ⟨at_, here⟩, e⟩ := snoc_of hW
    subst e
    rw [ix_last, br]
    obtain ⟨⟨i, hi, hij⟩, hl⟩ := h3 (at_, here) (List.mem_append_right _ List.mem_cons_self)
    dsimp only at hi hl ⊢
    subst hi
    have hri : order[i]? = some order[i] := List.getElem?_eq_getElem (by omega)
    have hrw := ho _ (List.mem_of_getElem? hri)
    rw [ixW_nat hri, br]
    refine Sat.bnd (R := (· = found ++ [order[i]])) (Sat.app (by unfold sizeLine; omega) rfl) fun v hv => ?_
    rw [cut_init]
    rw [List.length_append, List.length_singleton] at h4
    rw [loopW_fold (fun acc o => if isP order[i] here o = true then acc ++ [(((i : Int) + 1), setB order[i] o here)] else acc) (fun ys acc => acc.length + ys.length ≤ 300000 ∧ ∀ o ∈ ys, Rw o) (fun o ys acc hI => ⟨fun k2 => ?_, ?_, fun q hq => hI.2 q (List.mem_cons_of_mem _ hq)⟩) (tgts big).reverse W' ⟨by rw [List.length_reverse]; omega, fun o ho => tgts_rw hb o (List.mem_reverse.mp ho)⟩, foldl_if]
    · refine hk _ ⟨by omega, ?_, ?_, ?_, ?_⟩
      · intro p hp
        dsimp only at hp
        rcases List.mem_append.mp hp with hp | hp
        · obtain ⟨q1, q2⟩ := h3 p (List.mem_append_left _ hp)
          exact ⟨q1, by omega⟩
        · obtain ⟨o, ho2, rfl⟩ := List.mem_map.mp hp
          have hon := List.mem_filter.mp ho2
          have hmem : o ∈ big := (mem_sortU (lt := ltR)).mp (List.mem_reverse.mp hon.1)
          refine ⟨⟨i + 1, by dsimp only; omega, ?_⟩, ?_⟩
          · rcases Nat.lt_or_ge i j with c | c
            · omega
            · have e : i = j := by omega
              subst e
              rw [hri] at hj
              rw [Option.some.inj hj, hz here o hmem] at hon
              cases hon.2
          · have := setB_len (o := o) (s := here) hrw.len
            dsimp only
            omega
      · dsimp only
        rw [List.length_append, List.length_map]
        have h7 := List.length_filter_le (isP order[i] here) (tgts big).reverse
        rw [List.length_reverse] at h7
        omega
      · dsimp only
        rw [hv, List.length_append, List.length_singleton]; omega
      · dsimp only
        rw [hv]
        intro r hr
        rcases List.mem_append.mp hr with hr | hr
        · exact h6 r hr
        · rw [List.mem_singleton.mp hr]; exact List.mem_of_getElem? hri
    · have h1 := hI.1
      rw [List.length_cons] at h1
      rw [law_is_partner_eq hrw (hI.2 o List.mem_cons_self), br]
      cases hp : isP order[i] here o with
      | true =>
        rw [gte_true, law_set_by_eq hrw (isP_iff.mp hp).1 (by omega), br, if_pos rfl, show appG acc ((i : Int) + 1, setB order[i] o here) = ret (acc ++ [((i : Int) + 1, setB order[i] o here)]) from rgd_of (by unfold sizeLine; omega) _, br]
      | false => rw [gte_false, if_neg Bool.false_ne_true]
    · have h1 := hI.1
      rw [List.length_cons] at h1
      split
      · rw [List.length_append, List.length_singleton]; omega
      · omega
  · have e2000 : (2000 : Int).toNat = 2000 := rfl
    refine ⟨by rw [rngL_len]; decide, fun p hp => ?_, by rw [rngL_len, e2000]; show 1 + 64 * 2000 ≤ 200000; decide, by rw [rngL_len, e2000]; show 0 + 2000 ≤ 2000; decide, fun r hr => by cases hr⟩
    rw [List.mem_singleton.mp hp]
    exact ⟨⟨0, rfl, Nat.zero_le _⟩, by rw [rngL_len]; show s0.length + 10 * (2000 : Int).toNat ≤ 30000; have : (2000 : Int).toNat = 2000 := rfl; omega⟩
end K10
end
section
set_option maxRecDepth 100000
set_option maxHeartbeats 1000000
namespace K10
open PySem L2 Sx Dl
theorem Sat_cat {α β : Type} {xs ys : List α} {f : List α → Dl.W β} {S : β → Prop} (h : xs.length + ys.length ≤ 100000) (g : Sat (f (xs ++ ys)) S) : Sat (bnd (catL xs ys) f) S :=
  Sat.bnd (Sat.cat (R := (· = xs ++ ys)) (Nat.le_trans h (by unfold sizeLine; decide)) rfl) fun a ha => by rw [ha]; exact g
theorem Sat_cat1 {α : Type} {xs ys : List α} {S : List α → Prop} (h : xs.length + ys.length ≤ 100000) (g : S (xs ++ ys)) : Sat (catL xs ys) S := Sat.cat (Nat.le_trans h (by unfold sizeLine; decide)) g
theorem spoilt_rows_sat {rows every : List (List Str)} {spare : List Str} (hr : rows.length ≤ 2000) (he : every ≠ []) (hl : every.length ≤ 100) :
    Sat (m_law_spoilt_rows rows every spare) fun out => out.length ≤ 10000 ∧ ∀ r ∈ out, r ∈ rows ∨ r ∈ every ∨ r = spare := by
  simp only [m_law_spoilt_rows, bb, br]
  refine Sat.bnd (Sat.pick (by omega)) fun kind _ => Sat.bnd (Sat.pick (by omega)) fun at_ _ => Sat.bnd (Sat.one he (by omega)) fun row hrow => ?_
  have l1 := cutL_len (xs := rows) (lo := none) (hi := some at_)
  have l2 := cutL_len (xs := rows) (lo := some at_) (hi := some (at_ + 1))
  have l3 := cutL_len (xs := rows) (lo := some (at_ + 1)) (hi := none)
  have l4 := cutL_len (xs := cutL rows (some (at_ + 1)) none) (lo := none) (hi := some 1)
  have l5 := cutL_len (xs := cutL rows (some (at_ + 1)) none) (lo := some 1) (hi := none)
  have l6 := cutL_len (xs := rows) (lo := none) (hi := some (-1))
  have c : ∀ {lo hi : Option Int} {r : List Str}, r ∈ cutL rows lo hi → r ∈ rows ∨ r ∈ every ∨ r = spare := fun h => .inl (cutL_mem h)
  have c2 : ∀ {lo hi lo2 hi2 : Option Int} {r : List Str}, r ∈ cutL (cutL rows lo hi) lo2 hi2 → r ∈ rows ∨ r ∈ every ∨ r = spare := fun h => .inl (cutL_mem (cutL_mem h))
  have app : ∀ {a b : List (List Str)}, (∀ r ∈ a, r ∈ rows ∨ r ∈ every ∨ r = spare) → (∀ r ∈ b, r ∈ rows ∨ r ∈ every ∨ r = spare) → ∀ r ∈ a ++ b, r ∈ rows ∨ r ∈ every ∨ r = spare := fun h1 h2 r h => (List.mem_append.mp h).elim (h1 r) (h2 r)
  have one : ∀ {x : List Str}, (x ∈ rows ∨ x ∈ every ∨ x = spare) → ∀ r ∈ [x], r ∈ rows ∨ r ∈ every ∨ r = spare := fun h r hr => by rw [List.mem_singleton.mp hr]; exact h
  have hro : row ∈ rows ∨ row ∈ every ∨ row = spare := .inr (.inl hrow)
  refine Sat.gte (fun _ => ?_) fun _ => Sat.gte (fun _ => ?_) fun _ => Sat.gte (fun _ => ?_) fun _ => Sat.gte (fun _ => ?_) fun _ => Sat.gte (fun _ => ?_) fun _ => Sat.gte (fun _ => ?_) fun _ => Sat.gte (fun _ => ?_) fun _ => ?_
  · refine Sat_cat (by rw [List.length_singleton]; omega) (Sat_cat1 (by rw [List.length_append, List.length_singleton]; omega) ⟨by simp only [List.length_append, List.length_singleton]; omega, app (app (fun r h => c h) (one hro)) fun r h => c h⟩)
  · exact Sat.ret ⟨by omega, fun r h => c h⟩
  · exact Sat_cat1 (by rw [List.length_singleton]; omega) ⟨by simp only [List.length_append, List.length_singleton]; omega, app (fun r h => .inl h) (one hro)⟩
  · refine Sat_cat (by omega) (Sat_cat (by rw [List.length_append]; omega) (Sat_cat1 (by simp only [List.length_append]; omega) ⟨by simp only [List.length_append]; omega, app (app (app (fun r h => c h) fun r h => c2 h) fun r h => c h) fun r h => c2 h⟩))
  · refine Sat_cat (by rw [List.length_singleton]; omega) (Sat_cat1 (by rw [List.length_append, List.length_singleton]; omega) ⟨by simp only [List.length_append, List.length_singleton]; omega, app (app (fun r h => c h) (one (.inr (.inr rfl)))) fun r h => c h⟩)
  · exact Sat_cat1 (by omega) ⟨by simp only [List.length_append]; omega, app (fun r h => c h) fun r h => c h⟩
  · refine Sat_cat (by omega) (Sat_cat (by rw [List.length_append]; omega) (Sat_cat1 (by simp only [List.length_append]; omega) ⟨by simp only [List.length_append]; omega, app (app (app (fun r h => c h) fun r h => c h) fun r h => c h) fun r h => c h⟩))
  · refine Sat_cat (by omega) (Sat_cat1 (by rw [List.length_append]; omega) ⟨by simp only [List.length_append]; omega, app (app (fun r h => c h) fun r h => c h) fun r h => c h⟩)
theorem lists_hold_sat {small big : List (List Str)} {strange spare : List Str} {s : Stg} (hs : ∀ r ∈ small, Rw r) (hb : ∀ r ∈ big, Rw r) (ns : small.length ≤ 6) (nb : big.length ≤ 20) (hst : Rw strange) (hsp : okL okS spare)
    (hz : ∀ t, ∀ o ∈ big, isP strange t o = false) (nd : (s.map fun q => q.1).Nodup) (nst : s.length ≤ 100) : Sat (m_law_lists_hold small big strange spare s) (· = true) := by
  simp only [m_law_lists_hold, bb, br]
  have hev : ∀ r ∈ small ++ [strange], Rw r := fun r hr => by
    rcases List.mem_append.mp hr with z | z
    · exact hs r z
    · rw [List.mem_singleton.mp z]; exact hst
  have hevl : (small ++ [strange]).length ≤ 7 := by rw [List.length_append, List.length_singleton]; omega
  have cl : ∀ {b rows : List (List Str)}, (∀ r ∈ b, Rw r) → b.length < 32 → okL (okL okS) rows → rows.length ≤ 10000 → m_law_closed_holds (small ++ [strange]) b rows s = ret true := fun h1 h2 h3 h4 => closed_holds_eq ⟨by omega, by omega, h4, hev, h1, h3, by omega⟩ h2 nd
  refine Sat.bnd (Sat.pick (by omega)) fun at_ _ => ?_
  have l1 := cutL_len (xs := small) (lo := none) (hi := some at_)
  have l2 := cutL_len (xs := small) (lo := some at_) (hi := none)
  refine Sat_cat (by rw [List.length_singleton]; omega) (Sat_cat (by rw [List.length_append, List.length_singleton]; omega) ?_)
  have hor : ∀ r ∈ cutL small none (some at_) ++ [strange] ++ cutL small (some at_) none, Rw r := fun r hr => by
    rcases List.mem_append.mp hr with z | z
    · rcases List.mem_append.mp z with z | z
      · exact hs r (cutL_mem z)
      · rw [List.mem_singleton.mp z]; exact hst
    · exact hs r (cutL_mem z)
  have hmem : strange ∈ cutL small none (some at_) ++ [strange] ++ cutL small (some at_) none := List.mem_append_left _ (List.mem_append_right _ List.mem_cons_self)
  have hol : (cutL small none (some at_) ++ [strange] ++ cutL small (some at_) none).length ≤ 100 := by simp only [List.length_append, List.length_singleton]; omega
  generalize cutL small none (some at_) ++ [strange] ++ cutL small (some at_) none = order at hor hmem hol
  refine Sat.jn (fun o : List (List Str) => (∀ r ∈ o, Rw r) ∧ strange ∈ o) (fun o ho => ?_) fun k hk => ?_
  · obtain ⟨ho1, ho2⟩ := ho
    obtain ⟨j, hj, ej⟩ := List.getElem_of_mem ho2
    have hj2 : o[j]? = some strange := by rw [List.getElem?_eq_getElem hj, ej]
    refine Sat_cat (by rw [List.length_singleton]; omega) ?_
    refine Sat.bnd (closed_rows_sat hb (by omega) ho1 hj2 hz (by omega)) fun rows hrows => ?_
    obtain ⟨hr1, hr2⟩ := hrows
    have hrok : okL (okL okS) rows := fun r hr => (ho1 r (hr2 r hr)).ok
    rw [cl hb (by omega) hrok (by omega), br]
    show Sat (gte false _ _) _
    rw [gte_false, cl hb (by omega) (fun r hr => by cases hr) (Nat.zero_le _), br]
    show Sat (gte false _ _) _
    rw [gte_false, rng1_eq (by decide), br]
    refine Sat.loop (fun _ _ => True) (fun _ _ => ?_) (fun x xs u k _ hk2 => ?_) _ _ trivial
    · refine Sat_cat (by rw [List.length_singleton]; omega) ?_
      have hb2 : ∀ r ∈ big ++ [strange], Rw r := fun r hr => by
        rcases List.mem_append.mp hr with z | z
        · exact hb r z
        · rw [List.mem_singleton.mp z]; exact hst
      rw [cl hb2 (by rw [List.length_append, List.length_singleton]; omega) hrok (by omega), br]
      show Sat (gte false _ _) _
      have l3 := cutL_len (xs := big) (lo := some 1) (hi := none)
      rw [gte_false, cl (fun r hr => hb r (cutL_mem hr)) (by omega) hrok (by omega)]
      exact Sat.ret rfl
    · refine Sat.bnd (spoilt_rows_sat (rows := rows) (every := small ++ [strange]) (spare := spare) hr1 (by simp) (by omega)) fun out hout => ?_
      obtain ⟨h1, h2⟩ := hout
      have hook : okL (okL okS) out := fun r hr => by
        rcases h2 r hr with z | z | z
        · exact hrok r z
        · exact (hev r z).ok
        · rw [z]; exact hsp
      rw [cl hb (by omega) hook h1, br]
      show Sat (gte false _ _) _
      rw [gte_false]
      exact hk2 () trivial
  · unfold neG
    rw [bnd_rgd ⟨rows_ok hs, fun r hr => by cases hr⟩]
    refine Sat.bnd (R := fun _ => True) (Sat.gte (fun _ => Sat.bnd (Sat.pick (by omega)) fun _ _ => Sat.ret trivial) fun _ => Sat.ret trivial) fun b _ => ?_
    refine Sat.gte (fun _ => ?_) fun _ => hk _ ⟨hor, hmem⟩
    have l4 := cutL_len (xs := order) (lo := none) (hi := some 1)
    refine Sat_cat (by omega) (hk _ ⟨fun r hr => ?_, List.mem_append_right _ hmem⟩)
    rcases List.mem_append.mp hr with z | z
    · exact hor r (cutL_mem z)
    · exact hor r z
end K10
end
section
set_option maxRecDepth 100000
set_option maxHeartbeats 1000000
namespace K10
open PySem L2 Sx Dl
/-- a row of one of the tables over the values -/
def Rg (tables : List (Str × Int)) (values : List Str) (r : List Str) : Prop := ∃ t ∈ tables, ∃ ps, r = t.1 :: ps ∧ (∀ v ∈ ps, v ∈ values) ∧ ps.length ≤ 9
theorem rows_sat {tables : List (Str × Int)} {values : List Str} {many : Int} (ht : tables ≠ []) (htl : tables.length ≤ 10) (hw : ∀ t ∈ tables, 0 ≤ t.2 ∧ t.2 ≤ 9) (hv : values ≠ []) (hvl : values.length ≤ 1000) (hm : 0 ≤ many ∧ many ≤ 1000) :
    Sat (m_law_rows tables values many) fun rows => (rows.length : Int) = many ∧ ∀ r ∈ rows, Rg tables values r := by
  simp only [m_law_rows, bb, br]
  rw [rng1_eq (by omega), br]
  refine Sat.loop (fun xs s => s.length + xs.length = many.toNat ∧ ∀ r ∈ s, Rg tables values r) (fun s hs => Sat.ret ⟨by have := hs.1; simp at this; omega, hs.2⟩) ?_ _ _ ⟨by rw [rngL_len]; simp, fun r hr => by cases hr⟩
  rintro x xs s k ⟨h1, h2⟩ hk
  rw [List.length_cons] at h1
  refine Sat.bnd (Sat.one ht (by omega)) fun t htm => ?_
  obtain ⟨w0, w9⟩ := hw t htm
  rw [rng1_eq (by omega), br]
  refine Sat.bnd (Sat.lcG (R := fun v => v ∈ values) (by rw [rngL_len]; unfold sizeLine; omega) fun _ => Sat.one hv (by omega)) fun ps hps => ?_
  have hpl : ps.length ≤ 9 := by rw [hps.1, rngL_len]; omega
  refine Sat_cat (by rw [List.length_singleton]; omega) ?_
  refine Sat.bnd (R := (· = s ++ [[t.1] ++ ps])) (Sat.app (by unfold sizeLine; omega) rfl) fun v hv2 => hk v ⟨by rw [hv2, List.length_append, List.length_singleton]; omega, fun r hr => ?_⟩
  rw [hv2] at hr
  rcases List.mem_append.mp hr with hr | hr
  · exact h2 r hr
  · rw [List.mem_singleton.mp hr]
    exact ⟨t, htm, ps, rfl, hps.2, hpl⟩
theorem Rg.rw {tables : List (Str × Int)} {values : List Str} {r : List Str} (h : Rg tables values r) (ht : ∀ t ∈ tables, okS t.1) (hv : ∀ v ∈ values, Vl v) : Rw r := by
  obtain ⟨t, htm, ps, rfl, hps, hl⟩ := h
  refine ⟨(fun z => nomatch z), by rw [List.length_cons]; omega, fun x hx => ?_, fun x hx => hv x (hps x hx)⟩
  rcases List.mem_cons.mp hx with e | hx
  · rw [e]; exact ht t htm
  · exact (hv x (hps x hx)).ok
/-! ### texts -/
theorem vl_of {t : Str} (h : ∀ c ∈ TL.tl t, c < 128) (hl : t.length ≤ 1000) (hn : ∃ c ∈ TL.tl t, loA c = false) : Vl t ∧ lw t = false := by
  have e : lw t = false := by
    cases e : lw t with
    | false => rfl
    | true =>
      obtain ⟨c, hc, z⟩ := hn
      rw [List.all_eq_true.mp e c hc] at z; cases z
  exact ⟨⟨h, hl, fun z => by rw [e] at z; cases z⟩, e⟩
theorem log_small {i : Int} (h0 : 0 ≤ i) (h : i ≤ 10000) : i.natAbs.log2 < 1920 := by
  rcases Nat.eq_zero_or_pos i.natAbs with z | z
  · rw [z]; decide
  · have h1 : i.natAbs < 2 ^ 15 := by
      have : i.natAbs ≤ 10000 := by omega
      exact Nat.lt_of_le_of_lt this (by decide)
    have h2 : i.natAbs.log2 < 15 := (Nat.log2_lt (by omega)).mpr h1
    omega
theorem num_tl {i : Int} (h0 : 0 ≤ i) (h : i ≤ 10000) : (∀ c ∈ TL.tl (toString i : Str), c < 128) ∧ (TL.tl (toString i : Str)).length ≤ 10 := by
  obtain ⟨n, rfl⟩ : ∃ n : Nat, i = (n : Int) := ⟨i.toNat, by omega⟩
  have e : TL.tl (toString (n : Int) : Str) = TL.numL n := TL.tl_num n
  rw [e]
  refine ⟨fun c hc => ?_, TL.numL_len (by decide) (by omega)⟩
  have := TL.numL_digits _ c hc
  omega
end K10
end
section
set_option maxRecDepth 100000
set_option maxHeartbeats 1000000
namespace K10
open PySem L2 Sx Dl
/-- plain signs, at most n -/
def Tx (t : Str) (n : Nat) : Prop := (∀ c ∈ TL.tl t, c < 128) ∧ (TL.tl t).length ≤ n
theorem Tx.app {a b : Str} {n m : Nat} (h : Tx a n) (g : Tx b m) : Tx (a ++ b) (n + m) := by
  unfold Tx
  rw [TL.tl_append, List.length_append]
  refine ⟨fun c hc => ?_, Nat.add_le_add h.2 g.2⟩
  rcases List.mem_append.mp hc with z | z
  · exact h.1 c z
  · exact g.1 c z
theorem mem_app {a b : Str} {c : Nat} : c ∈ TL.tl (a ++ b) ↔ c ∈ TL.tl a ∨ c ∈ TL.tl b := by rw [TL.tl_append]; exact List.mem_append
theorem Sat_catS {β : Type} {a b : Str} {f : Str → Dl.W β} {S : β → Prop} {n m : Nat} (ha : Tx a n) (hb : Tx b m) (h : n + m ≤ 100000) (g : Sat (f (a ++ b)) S) : Sat (bnd (catS a b) f) S :=
  Sat.bnd (R := (· = a ++ b)) (Sat.rgd (by rw [TL.len_tl, TL.len_tl]; have h1 := ha.2; have h2 := hb.2; unfold sizeLine; omega) rfl) fun z hz => by rw [hz]; exact g
theorem Sat_num {β : Type} {i : Int} {f : Str → Dl.W β} {S : β → Prop} (h0 : 0 ≤ i) (h : i ≤ 10000) (g : Sat (f (toString i : Str)) S) : Sat (bnd (rgd (i.natAbs.log2 < 1920) (toString i : Str)) f) S :=
  Sat.bnd (R := (· = (toString i : Str))) (Sat.rgd (log_small h0 h) rfl) fun z hz => by rw [hz]; exact g
theorem tx_num {i : Int} (h0 : 0 ≤ i) (h : i ≤ 10000) : Tx (toString i : Str) 10 := num_tl h0 h
theorem movable_sat {words : List Str} {w : Str} (hw : words[0]? = some w) (hv : Tx w 8) : Sat (m_law_movable_values words) fun found => found.length ≤ 4 ∧ ∀ v ∈ found, Vl v ∧ lw v = false := by
  simp only [m_law_movable_values, bb, br]
  have t1 : Tx ("f(" : Str) 2 := ⟨by decide +kernel, by decide +kernel⟩
  have t2 : Tx (",?" : Str) 2 := ⟨by decide +kernel, by decide +kernel⟩
  have t3 : Tx (")" : Str) 1 := ⟨by decide +kernel, by decide +kernel⟩
  have t4 : Tx ("?" : Str) 1 := ⟨by decide +kernel, by decide +kernel⟩
  have t5 : Tx ("" : Str) 0 := ⟨by decide +kernel, by decide +kernel⟩
  refine Sat.bnd (Sat.pick (by omega)) fun many hmany => ?_
  refine Sat.jn (fun m : Int => 0 ≤ m ∧ m ≤ 4) (fun m hm => ?_) fun k hk => ?_
  · refine Sat.bnd (Sat.pick (by omega)) fun num hnum => ?_
    rw [rng1_eq (by omega), br]
    refine Sat.loop (fun xs s => s.length + xs.length ≤ 4 ∧ (∀ x ∈ xs, 0 ≤ x ∧ x < 4) ∧ ∀ v ∈ s, Vl v ∧ lw v = false) (fun s hs => Sat.ret ⟨by have := hs.1; simp at this; omega, hs.2.2⟩) ?_ _ _ ⟨by rw [rngL_len]; show 0 + _ ≤ 4; omega, fun x hx => ?_, fun v hv => by cases hv⟩
    · rintro x xs s k ⟨h1, h2, h3⟩ hk
      rw [List.length_cons] at h1
      obtain ⟨x0, x4⟩ := h2 x List.mem_cons_self
      have fin : ∀ t : Str, Tx t 1000 → (∃ c ∈ TL.tl t, loA c = false) → Sat (bnd (appG s t) fun v => k v) fun found => found.length ≤ 4 ∧ ∀ v ∈ found, Vl v ∧ lw v = false := fun t ht hc => Sat.bnd (R := (· = s ++ [t])) (Sat.app (by unfold sizeLine; omega) rfl) fun v hv => hk v ⟨by rw [hv, List.length_append, List.length_singleton]; omega, fun y hy => h2 y (List.mem_cons_of_mem _ hy), fun u hu => by
        rw [hv] at hu
        rcases List.mem_append.mp hu with z | z
        · exact h3 u z
        · rw [List.mem_singleton.mp z]; exact vl_of ht.1 (by rw [TL.len_tl]; exact ht.2) hc⟩
      refine Sat.bnd (Sat.pick (by omega)) fun kind _ => Sat.gte (fun _ => ?_) fun _ => Sat.gte (fun _ => ?_) fun _ => ?_
      · rw [show ixW words 0 = ret w from ixW_nat (i := 0) hw, br]
        refine Sat_catS t1 hv (by decide) (Sat_catS (t1.app hv) t2 (by decide) (Sat_num (by omega) (by omega) (Sat_catS ((t1.app hv).app t2) (tx_num (by omega) (by omega)) (by decide) (Sat_catS (((t1.app hv).app t2).app (tx_num (by omega) (by omega))) t3 (by decide) (fin _ ⟨((((t1.app hv).app t2).app (tx_num (by omega) (by omega))).app t3).1, Nat.le_trans ((((t1.app hv).app t2).app (tx_num (by omega) (by omega))).app t3).2 (by decide)⟩ ⟨40, ?_, by decide⟩)))))
        rw [mem_app, mem_app, mem_app, mem_app]
        exact .inl (.inl (.inl (.inl (by decide +kernel))))
      · have hx : ∃ c, atI ("XYZD" : Str).cps.toList x = some c ∧ c < 128 ∧ loA c = false := by
          have : x = 0 ∨ x = 1 ∨ x = 2 ∨ x = 3 := by omega
          rcases this with e | e | e | e <;> subst e
          · exact ⟨88, by decide +kernel, by decide, by decide⟩
          · exact ⟨89, by decide +kernel, by decide, by decide⟩
          · exact ⟨90, by decide +kernel, by decide, by decide⟩
          · exact ⟨68, by decide +kernel, by decide, by decide⟩
        obtain ⟨c, hc, c1, c2⟩ := hx
        refine Sat.bnd (R := (· = (⟨#[c]⟩ : Str))) (fun Q q => ⟨by decide +kernel, c, hc, q _ rfl⟩) fun z hz => ?_
        subst hz
        have tc : Tx (⟨#[c]⟩ : Str) 1 := ⟨fun d hd => by
          have hd : d ∈ [c] := hd
          rw [List.mem_singleton.mp hd]; exact c1, Nat.le_refl 1⟩
        have mc : c ∈ TL.tl (⟨#[c]⟩ : Str) := (List.mem_cons_self : c ∈ [c])
        refine Sat_num (by omega) (by omega) (Sat.bnd (Sat.pick (by omega)) fun b hb => ?_)
        have : b = 0 ∨ b = 1 := by omega
        rcases this with e | e
        · subst e
          rw [show ixW [("" : Str), (toString (1 + num) : Str)] 0 = ret ("" : Str) from ixW_nat (i := 0) rfl, br]
          refine Sat_catS tc t5 (by decide) (fin _ ⟨(tc.app t5).1, Nat.le_trans (tc.app t5).2 (by decide)⟩ ⟨c, mem_app.mpr (.inl mc), c2⟩)
        · subst e
          have tn := tx_num (i := 1 + num) (by omega) (by omega)
          rw [show ixW [("" : Str), (toString (1 + num) : Str)] 1 = ret (toString (1 + num) : Str) from ixW_nat (i := 1) rfl, br]
          refine Sat_catS tc tn (by decide) (fin _ ⟨(tc.app tn).1, Nat.le_trans (tc.app tn).2 (by decide)⟩ ⟨c, mem_app.mpr (.inl mc), c2⟩)
      · refine Sat.bnd (R := (· = 3 * x)) (Sat.rgd (by first | exact .inr ⟨by omega, by omega⟩ | exact .inl ⟨by omega, by omega⟩) rfl) fun a ha => ?_
        subst ha
        have tn := tx_num (i := 1 + num + 3 * x) (by omega) (by omega)
        refine Sat_num (by omega) (by omega) (Sat_catS t4 tn (by decide) (fin _ ⟨(t4.app tn).1, Nat.le_trans (t4.app tn).2 (by decide)⟩ ⟨63, mem_app.mpr (.inl (by decide +kernel)), by decide⟩))
    · obtain ⟨i, hi, rfl⟩ := mem_rngL.mp hx
      omega
  · refine Sat.bnd (Sat.pick (by omega)) fun b _ => Sat.gte (fun _ => hk 4 ⟨by decide, by decide⟩) fun _ => hk many ⟨by omega, by omega⟩
end K10
end
section
set_option maxRecDepth 100000
set_option maxHeartbeats 1000000
/-! k10, plain: the names drawn. -/
namespace K10
open PySem L2 Sx Dl
abbrev RestOk (signs z : Str) : Prop := z.length = 7 ∧ ∀ c ∈ TL.tl z, c ∈ TL.tl signs
theorem joinL_one : ∀ cs : List Nat, TL.joinL [] (cs.map fun c => [c]) = cs
  | [] => rfl
  | [c] => rfl
  | c :: d :: cs => by
    show [c] ++ [] ++ TL.joinL [] ((d :: cs).map fun c => [c]) = _
    rw [joinL_one (d :: cs)]
    rfl
theorem join_signs (cs : List Nat) : TL.tl (Txt.join "" (cs.map fun c => (⟨#[c]⟩ : Str))) = cs := by
  rw [TL.join_eq, TL.tl_join, List.map_map]
  have e : TL.tl ("" : Str) = [] := by decide +kernel
  rw [e]
  exact joinL_one cs
/-- the place in the alphabet of the i-th name's own sign -/
def ownAt (N : Nat) (s t : Int) (i : Nat) : Nat := ((s + (i : Int) * t) % (N : Int)).toNat
theorem own_inj {N : Nat} (hN : N = 26 ∨ N = 36) {s t : Int} (ht : t ∈ ([1, 5, 7, 11, 17, 19, 23, 25] : List Int)) {i j : Nat} (hi : i < 3) (hj : j < 3) (h : ownAt N s t i = ownAt N s t j) : i = j := by
  unfold ownAt at h
  simp only [List.mem_cons, List.not_mem_nil, or_false] at ht
  rcases hN with rfl | rfl
  · have h1 : (s + (i : Int) * t) % 26 = (s + (j : Int) * t) % 26 := by
      have a1 := Int.emod_nonneg (s + (i : Int) * t) (show (26 : Int) ≠ 0 by decide)
      have a2 := Int.emod_nonneg (s + (j : Int) * t) (show (26 : Int) ≠ 0 by decide)
      omega
    rcases ht with rfl | rfl | rfl | rfl | rfl | rfl | rfl | rfl <;> omega
  · have h1 : (s + (i : Int) * t) % 36 = (s + (j : Int) * t) % 36 := by
      have a1 := Int.emod_nonneg (s + (i : Int) * t) (show (36 : Int) ≠ 0 by decide)
      have a2 := Int.emod_nonneg (s + (j : Int) * t) (show (36 : Int) ≠ 0 by decide)
      omega
    rcases ht with rfl | rfl | rfl | rfl | rfl | rfl | rfl | rfl <;> omega
theorem own_lt {N : Nat} (hN : 0 < N) (s t : Int) (i : Nat) : ownAt N s t i < N := by
  unfold ownAt
  have h1 := Int.emod_lt_of_pos (s + (i : Int) * t) (show (0 : Int) < (N : Int) by omega)
  have h2 := Int.emod_nonneg (s + (i : Int) * t) (show (N : Int) ≠ 0 by omega)
  omega
structure NameAt (signs : Str) (p : Nat) (s t : Int) (i : Nat) (y : Str) : Prop where
  pos : 1 ≤ (TL.tl y).length
  sz : (TL.tl y).length ≤ 8
  cs : ∀ c ∈ TL.tl y, c ∈ TL.tl signs
  own : (TL.tl y)[p]? = (TL.tl signs)[ownAt signs.length s t i]?
theorem name_at {signs z : Str} {p : Nat} {s t sz : Int} {i c : Nat} (hp : p ≤ 2) (hz : RestOk signs z) (hc : (TL.tl signs)[ownAt signs.length s t i]? = some c) (hsz : (p : Int) + 1 ≤ sz) :
    NameAt signs p s t i ((cutS z none (some (p : Int)) ++ ⟨#[c]⟩) ++ cutS z (some (p : Int)) (some (sz - 1))) := by
  obtain ⟨hz1, hz2⟩ := hz
  obtain ⟨q, hq⟩ : ∃ q : Nat, sz - 1 = (q : Int) := ⟨(sz - 1).toNat, by omega⟩
  have e : TL.tl ((cutS z none (some (p : Int)) ++ ⟨#[c]⟩) ++ cutS z (some (p : Int)) (some (sz - 1))) = ((TL.tl z).take p ++ [c]) ++ ((TL.tl z).drop p).take (min q 7 - p) := by
    have c1 : TL.tl (cutS z none (some (p : Int))) = (TL.tl z).take p := by
      unfold cutS
      rw [TL.tl_mk, HT.sIx_nat, sIx_none, hz1, List.drop_zero, Nat.sub_zero, Nat.min_eq_left (by omega : p ≤ 7)]
    have c2 : TL.tl (cutS z (some (p : Int)) (some (q : Int))) = ((TL.tl z).drop p).take (min q 7 - p) := by
      unfold cutS
      rw [TL.tl_mk, HT.sIx_nat, HT.sIx_nat, hz1, Nat.min_eq_left (by omega : p ≤ 7)]
    rw [TL.tl_append, TL.tl_append, hq, c1, c2]
  rw [TL.len_tl] at hz1
  refine ⟨?_, ?_, ?_, ?_⟩
  · rw [e, List.length_append, List.length_append, List.length_singleton]; omega
  · rw [e, List.length_append, List.length_append, List.length_take, List.length_take, List.length_drop, hz1]
    show _ + 1 + _ ≤ 8
    omega
  · rw [e]
    intro d hd
    rcases List.mem_append.mp hd with hd | hd
    · rcases List.mem_append.mp hd with hd | hd
      · exact hz2 d (List.mem_of_mem_take hd)
      · rw [List.mem_singleton.mp hd]; exact List.mem_of_getElem? hc
    · exact hz2 d (List.mem_of_mem_drop (List.mem_of_mem_take hd))
  · have e5 : ((TL.tl z).take p).length = p := by rw [List.length_take, hz1]; omega
    rw [e, hc, List.append_assoc, List.getElem?_append_right (by rw [e5]; exact Nat.le_refl _), e5, Nat.sub_self]
    rfl
structure NSt (signs : Str) (p : Nat) (s t : Int) (i : Nat) (b : List Str × Str) : Prop where
  z : RestOk signs b.2
  len : b.1.length = i
  at_ : ∀ j y, b.1[j]? = some y → NameAt signs p s t j y

structure NamesOk (signs : Str) (xs : List Str) : Prop where
  len : xs.length = 3
  nd : xs.Nodup
  cs : ∀ x ∈ xs, (1 ≤ (TL.tl x).length ∧ (TL.tl x).length ≤ 8) ∧ ∀ c ∈ TL.tl x, c ∈ TL.tl signs
theorem names_ok {signs : Str} {p : Nat} {s t : Int} {b : List Str × Str} (hN : signs.length = 26 ∨ signs.length = 36) (nd : (TL.tl signs).Nodup) (ht : t ∈ ([1, 5, 7, 11, 17, 19, 23, 25] : List Int)) (h : NSt signs p s t 3 b) : NamesOk signs b.1 := by
  have hl := h.len
  refine ⟨hl, ?_, ?_⟩
  · rw [List.Nodup, List.pairwise_iff_getElem]
    intro i j hi hj hij e
    have a1 := (h.at_ i _ (List.getElem?_eq_getElem hi)).own
    have a2 := (h.at_ j _ (List.getElem?_eq_getElem hj)).own
    rw [e, a2] at a1
    have hsl : (TL.tl signs).length = signs.length := (TL.len_tl _).symm
    have k1 := own_lt (N := signs.length) (by omega) s t i
    have k2 := own_lt (N := signs.length) (by omega) s t j
    rw [List.getElem?_eq_getElem (by omega), List.getElem?_eq_getElem (by omega)] at a1
    have := (List.getElem_inj nd).mp (Option.some.inj a1)
    have := own_inj hN ht (by omega) (by omega) this
    omega
  · intro x hx
    obtain ⟨j, hj⟩ := List.getElem?_of_mem hx
    have a := h.at_ j x hj
    exact ⟨⟨a.pos, a.sz⟩, a.cs⟩
theorem signs_of {signs : Str} : ∀ {ys : List Str}, (∀ y ∈ ys, ∃ c ∈ TL.tl signs, y = (⟨#[c]⟩ : Str)) → ∃ cs : List Nat, ys = cs.map (fun c => (⟨#[c]⟩ : Str)) ∧ ∀ c ∈ cs, c ∈ TL.tl signs
  | [], _ => ⟨[], rfl, fun c hc => by cases hc⟩
  | y :: ys, h => by
    obtain ⟨c, hc, e⟩ := h y List.mem_cons_self
    obtain ⟨cs, e2, h2⟩ := signs_of fun z hz => h z (List.mem_cons_of_mem _ hz)
    exact ⟨c :: cs, by rw [e, e2]; rfl, fun d hd => (List.mem_cons.mp hd).elim (fun z => by rw [z]; exact hc) (h2 d)⟩
theorem rest_sat {β : Type} {signs : Str} {f : Str → Dl.W β} {S : β → Prop} (h0 : 0 < signs.length) (h1 : signs.length ≤ 1000) (g : ∀ z, RestOk signs z → Sat (f z) S) : Sat (bnd (rng1 7) fun xs => bnd (lcG (fun _ => Dl.ret true) (fun _ => oneC signs) xs) fun ys => bnd (joinG "" ys) f) S := by
  rw [rng1_eq (by decide), br]
  refine Sat.bnd (Sat.lcG (R := fun y => ∃ c ∈ TL.tl signs, y = (⟨#[c]⟩ : Str)) (by rw [rngL_len]; unfold sizeLine; decide) fun _ => Sat.oneC h0 (by omega)) fun ys hys => ?_
  obtain ⟨cs, e, hc⟩ := signs_of hys.2
  have hl : cs.length = 7 := by
    have := hys.1
    rw [rngL_len, e, List.length_map] at this
    exact this
  have hj : TL.tl (Txt.join "" ys) = cs := by rw [e]; exact join_signs cs
  refine Sat.bnd (R := (· = Txt.join "" ys)) (Sat.rgd ?_ rfl) fun z hz => g z ⟨?_, ?_⟩
  · have e1 : ("" : Str).length = 0 := by decide
    have e2 : (ys.map (·.length)).sum = cs.length := by
      rw [e]
      clear e hj hl hc
      induction cs with
      | nil => rfl
      | cons a l ih => rw [List.map_cons, List.map_cons, List.sum_cons, ih, List.length_cons]; show 1 + _ = _; omega
    rw [e2, e1, Nat.mul_zero, hl]; decide
  · rw [hz, TL.len_tl, hj]; exact hl
  · rw [hz, hj]; exact hc
end K10
end
section
set_option maxRecDepth 100000
set_option maxHeartbeats 1000000
namespace K10
open PySem L2 Sx Dl
theorem names_sat {signs : Str} (hN : signs.length = 26 ∨ signs.length = 36) (nd : (TL.tl signs).Nodup) : Sat (m_law_names 3 signs) (NamesOk signs) := by
  simp only [m_law_names, bb, br]
  have hsz : signs.length ≤ sizeLine := by unfold sizeLine; omega
  refine Sat.bnd (Sat.pick (by omega)) fun v1 hv1 => ?_
  obtain ⟨p, rfl, hp⟩ : ∃ p : Nat, v1 = (p : Int) ∧ p ≤ 2 := ⟨v1.toNat, by omega, by omega⟩
  rw [bnd_rgd hsz]
  refine Sat.bnd (Sat.pick (by omega)) fun s hs => ?_
  refine Sat.bnd (Sat.one (fun z => nomatch z) (by show 8 ≤ _; decide)) fun t ht => ?_
  have ht0 : 1 ≤ t ∧ t ≤ 25 := by
    simp only [List.mem_cons, List.not_mem_nil, or_false] at ht
    rcases ht with rfl | rfl | rfl | rfl | rfl | rfl | rfl | rfl <;> omega
  refine Sat.bnd (Sat.pick (by omega)) fun alike _ => ?_
  refine rest_sat (by omega) (by omega) fun z0 hz0 => ?_
  rw [rng1_eq (by decide), br]
  refine Sat.loop (fun xs (st : Str × List Str) => NSt signs p s t st.2.length (st.2, st.1) ∧ xs = (rngL 0 3).drop st.2.length ∧ st.2.length ≤ 3) ?_ ?_ _ _ ⟨⟨hz0, rfl, fun j y h => by simp at h⟩, rfl, Nat.zero_le _⟩
  · rintro ⟨z, ns⟩ ⟨h1, h2, h3⟩
    have h2 : (3 : Nat) ≤ ns.length := by
      have := List.drop_eq_nil_iff.mp h2.symm
      rwa [rngL_len] at this
    have e : ns.length = 3 := Nat.le_antisymm h3 h2
    have h1 : NSt signs p s t ns.length (ns, z) := h1
    rw [e] at h1
    exact Sat.ret (names_ok hN nd ht h1)
  · rintro x xs ⟨z, ns⟩ k ⟨h1, h2, h3⟩ hk
    have h1 : NSt signs p s t ns.length (ns, z) := h1
    have h2 : x :: xs = (rngL 0 3).drop ns.length := h2
    have hx : (rngL 0 3)[ns.length]? = some x := by
      have := congrArg (fun l => l[0]?) h2
      simpa [List.getElem?_drop] using this.symm
    have hlt : ns.length < 3 := by
      have := (List.getElem?_eq_some_iff.mp hx).1
      rwa [rngL_len] at this
    have ex : x = (ns.length : Int) := by
      have := rngL_get hx
      omega
    have hxs : xs = (rngL 0 3).drop (ns.length + 1) := by
      rw [← List.drop_drop, ← h2]; rfl
    subst ex
    refine Sat.bnd (Sat.pick (by omega)) fun a ha => ?_
    refine Sat.jn (fun sz : Int => (p : Int) + 1 ≤ sz ∧ sz ≤ 8) (fun sz hsz2 => ?_) fun k43 hk43 => ?_
    · refine Sat.jn (fun z' : Str => RestOk signs z') (fun z' hz' => ?_) fun k53 hk53 => ?_
      · refine Sat.bnd (R := (· = (ns.length : Int) * t)) (Sat.rgd (by first | exact .inr ⟨by omega, by omega⟩ | exact .inl ⟨by omega, by omega⟩) rfl) fun m hm => ?_
        subst hm
        rw [bnd_rgd hsz]
        refine Sat.bnd (R := (· = (s + (ns.length : Int) * t) % (signs.length : Int))) (Sat.rgd (by omega) rfl) fun q hq => ?_
        have q0 : 0 ≤ q := by rw [hq]; exact Int.emod_nonneg _ (by omega)
        have q1 : q < (signs.length : Int) := by rw [hq]; exact Int.emod_lt_of_pos _ (by omega)
        have eq : q.toNat = ownAt signs.length s t ns.length := by rw [hq]; rfl
        have hl : q.toNat < (TL.tl signs).length := by rw [← TL.len_tl]; omega
        have hc : (TL.tl signs)[q.toNat]? = some ((TL.tl signs)[q.toNat]) := List.getElem?_eq_getElem hl
        generalize (TL.tl signs)[q.toNat] = c at hc
        have hat : atI signs.cps.toList q = some c := by
          have e1 : ixN (TL.tl signs).length q = some q.toNat := ixN_int q0 (by rw [← TL.len_tl]; exact q1)
          show (ixN (TL.tl signs).length q).bind (fun j => (TL.tl signs)[j]?) = _
          rw [e1]; exact hc
        refine Sat.bnd (R := (· = (⟨#[c]⟩ : Str))) (fun Q w => ⟨hsz, c, hat, w _ rfl⟩) fun u hu => ?_
        subst hu
        have hz7 : z'.length ≤ sizeLine := by rw [hz'.1]; unfold sizeLine; decide
        rw [bnd_rgd hz7]
        rw [eq] at hc
        have hname := name_at (sz := sz) hp hz' hc hsz2.1
        have c1 : (cutS z' none (some (p : Int))).length ≤ 7 := by
          have := hz'.1
          rw [TL.len_tl]
          unfold cutS
          rw [TL.tl_mk, List.length_take, List.length_drop, ← TL.len_tl]
          omega
        have c2 : (cutS z' (some (p : Int)) (some (sz - 1))).length ≤ 7 := by
          have := hz'.1
          rw [TL.len_tl]
          unfold cutS
          rw [TL.tl_mk, List.length_take, List.length_drop, ← TL.len_tl]
          omega
        have c3 : (⟨#[c]⟩ : Str).length = 1 := rfl
        refine Sat.bnd (R := (· = cutS z' none (some (p : Int)) ++ ⟨#[c]⟩)) (Sat.rgd (by rw [c3]; unfold sizeLine; omega) rfl) fun e1 he1 => ?_
        rw [bnd_rgd hz7]
        have c4 : e1.length ≤ 8 := by
          rw [he1, TL.len_tl, TL.tl_append, List.length_append, ← TL.len_tl, ← TL.len_tl, c3]; omega
        refine Sat.bnd (R := (· = e1 ++ cutS z' (some (p : Int)) (some (sz - 1)))) (Sat.rgd (by unfold sizeLine; omega) rfl) fun y hy => ?_
        rw [he1] at hy
        refine Sat.bnd (R := (· = ns ++ [y])) (Sat.app (by unfold sizeLine; omega) rfl) fun l hl2 => hk (z', l) ?_
        subst hl2
        refine ⟨⟨hz', rfl, fun j u hu => ?_⟩, ?_, ?_⟩
        · have hu : (ns ++ [y])[j]? = some u := hu
          by_cases hj : j < ns.length
          · rw [List.getElem?_append_left hj] at hu
            exact h1.at_ j u hu
          · rw [List.getElem?_append_right (by omega)] at hu
            have hj2 : j - ns.length = 0 := by
              have := (List.getElem?_eq_some_iff.mp hu).1
              simp at this; omega
            rw [hj2] at hu
            have hu : y = u := by simpa using hu
            have : j = ns.length := by omega
            rw [this, ← hu, hy]; exact hname
        · show xs = (rngL 0 3).drop (ns ++ [y]).length
          rw [List.length_append, List.length_singleton]; exact hxs
        · show (ns ++ [y]).length ≤ 3
          rw [List.length_append, List.length_singleton]; omega
      · refine Sat.gte (fun _ => ?_) fun _ => hk53 z h1.z
        exact rest_sat (by omega) (by omega) fun z' hz' => hk53 z' hz'
    · refine Sat.bnd (Sat.pick (by omega)) fun b _ => Sat.gte (fun _ => hk43 8 ⟨by omega, by omega⟩) fun _ => hk43 _ ⟨by omega, by omega⟩
end K10
end
section
set_option maxRecDepth 100000
set_option maxHeartbeats 2000000
/-! k10, plain: the law says True. -/
namespace K10
open PySem L2 Sx Dl
theorem tx_vl {w : Str} (h : Tx w 8) (h1 : 1 ≤ (TL.tl w).length) : Vl w := ⟨h.1, by rw [TL.len_tl]; have := h.2; omega, fun _ => by rw [TL.len_tl]; exact ⟨h1, h.2⟩⟩
theorem letters_tl : TL.tl ("abcdefghijklmnopqrstuvwxyz" : Str) = [97, 98, 99, 100, 101, 102, 103, 104, 105, 106, 107, 108, 109, 110, 111, 112, 113, 114, 115, 116, 117, 118, 119, 120, 121, 122] := by decide +kernel
theorem three {xs : List Str} (h : xs.length = 3) : ∃ a b c, xs = [a, b, c] := by
  match xs, h with
  | [a, b, c], _ => exact ⟨a, b, c, rfl⟩
theorem fill_rw {r : List Str} {s : Stg} (h : Rw r) (hs : ∀ q ∈ s, Vl q.2) : Rw (fill s r) := by
  obtain ⟨x, xs, e⟩ : ∃ x xs, r = x :: xs := by
    cases r with
    | nil => exact absurd rfl h.ne
    | cons x xs => exact ⟨x, xs, rfl⟩
  subst e
  have hl := h.len
  rw [List.length_cons] at hl
  have hv : ∀ t ∈ xs.map fun v => (dGet s v).getD v, Vl t := fun t ht => by
    obtain ⟨v, hv, rfl⟩ := List.mem_map.mp ht
    cases e : dGet s v with
    | none => exact h.vl v hv
    | some u =>
      obtain ⟨q, hq, _, e2⟩ := dGet_mem e
      show Vl u
      rw [← e2]; exact hs q hq
  show Rw (x :: xs.map fun v => (dGet s v).getD v)
  refine ⟨(fun z => nomatch z), by rw [List.length_cons, List.length_map]; omega, fun t ht => ?_, fun t ht => hv t ht⟩
  rcases List.mem_cons.mp ht with e | ht
  · rw [e]; exact h.ok x List.mem_cons_self
  · exact (hv t ht).ok
theorem dPut_vl {d : Stg} {k v : Str} (h : ∀ q ∈ d, Vl q.2) (hv : Vl v) : ∀ q ∈ dPut d k v, Vl q.2 := fun q hq => by
  unfold dPut at hq
  split at hq
  · obtain ⟨p, hp, e⟩ := List.mem_map.mp hq
    subst e
    split
    · exact hv
    · exact h p hp
  · rcases List.mem_append.mp hq with hq | hq
    · exact h q hq
    · rw [List.mem_singleton.mp hq]; exact hv
theorem law_sat : Sat m_law (· = true) := by
  unfold m_law
  simp only [bb, br]
  refine Sat.bnd (names_sat (signs := "abcdefghijklmnopqrstuvwxyz") (.inl (by decide +kernel)) (by rw [letters_tl]; decide)) fun names hnames => ?_
  refine Sat.bnd (names_sat (signs := "abcdefghijklmnopqrstuvwxyz0123456789") (.inr (by decide +kernel)) (by rw [signs_tl]; decide)) fun words hwords => ?_
  obtain ⟨n0, n1, n2, rfl⟩ := three hnames.len
  obtain ⟨w0, w1, w2, rfl⟩ := three hwords.len
  have hwx : ∀ x ∈ [w0, w1, w2], Tx x 8 ∧ lw x = true ∧ 1 ≤ (TL.tl x).length := fun x hx => by
    obtain ⟨⟨h1, h2⟩, h3⟩ := hwords.cs x hx
    have hlo : ∀ c ∈ TL.tl x, loA c = true := fun c hc => (in_signs c).mp (h3 c hc)
    refine ⟨⟨fun c hc => ?_, h2⟩, List.all_eq_true.mpr hlo, h1⟩
    have := hlo c hc
    unfold loA at this
    simp only [Bool.or_eq_true, Bool.and_eq_true, decide_eq_true_eq] at this
    omega
  have hnok : ∀ x ∈ [n0, n1, n2], okS x := fun x hx => by
    have h3 := (hnames.cs x hx).2
    unfold okS
    rw [PyData.strOk, Array.all_eq_true_iff_forall_mem]
    intro c hc
    have := h3 c (Array.mem_toList_iff.mpr hc)
    rw [letters_tl] at this
    have : c < 128 := by
      simp only [List.mem_cons, List.not_mem_nil, or_false] at this
      omega
    exact decide_eq_true (by omega)
  have hwv : ∀ x ∈ [w0, w1, w2], Vl x := fun x hx => tx_vl (hwx x hx).1 (hwx x hx).2.2
  have hne : n2 ≠ n0 ∧ n2 ≠ n1 := by
    have := hnames.nd
    simp only [List.nodup_cons, List.mem_cons, List.not_mem_nil, or_false, not_or] at this
    exact ⟨fun e => this.1.2 e.symm, fun e => this.2.1 e.symm⟩
  refine Sat.bnd (movable_sat (words := [w0, w1, w2]) (w := w0) rfl (hwx w0 List.mem_cons_self).1) fun movable hmov => ?_
  obtain ⟨hml, hmv⟩ := hmov
  rw [show ixW [n0, n1, n2] 0 = ret n0 from ixW_nat (i := 0) rfl, br]
  refine Sat.bnd (Sat.pick (by omega)) fun wd hwd => ?_
  rw [show ixW [n0, n1, n2] 1 = ret n1 from ixW_nat (i := 1) rfl, br]
  refine Sat.jn (fun T : List (Str × Int) => T ≠ [] ∧ T.length ≤ 10 ∧ ∀ t ∈ T, (0 ≤ t.2 ∧ t.2 ≤ 9) ∧ (t.1 = n0 ∨ t.1 = n1)) (fun T hT => ?_) fun k hk => ?_
  · obtain ⟨hT1, hT2, hT3⟩ := hT
    have okT : ∀ t ∈ T, okS t.1 := fun t ht => by
      rcases (hT3 t ht).2 with e | e
      · rw [e]; exact hnok _ List.mem_cons_self
      · rw [e]; exact hnok _ (List.mem_cons_of_mem _ List.mem_cons_self)
    have hdn : ∀ {t : Str × Int}, t ∈ T → n2 ≠ t.1 := fun {t} ht => by
      rcases (hT3 t ht).2 with e | e
      · rw [e]; exact hne.1
      · rw [e]; exact hne.2
    have ec : cutL [w0, w1, w2] none (some 2) = [w0, w1] := rfl
    simp only [ec]
    refine Sat_cat (by show 2 + _ ≤ _; omega) (Sat_cat (by rw [List.length_append]; show 2 + _ + _ ≤ _; omega) ?_)
    have hvv : ∀ v ∈ [w0, w1] ++ movable ++ movable, Vl v := fun v hv => by
      rcases List.mem_append.mp hv with hv | hv
      · rcases List.mem_append.mp hv with hv | hv
        · exact hwv v (by
            rcases List.mem_cons.mp hv with e | hv
            · rw [e]; exact List.mem_cons_self
            · rw [List.mem_singleton.mp hv]; exact List.mem_cons_of_mem _ List.mem_cons_self)
        · exact (hmv v hv).1
      · exact (hmv v hv).1
    refine Sat.bnd (Sat.pick (by omega)) fun p1 hp1 => Sat.bnd (rows_sat hT1 hT2 (fun t ht => (hT3 t ht).1) (fun z => nomatch z) (by simp only [List.length_append, List.length_cons, List.length_nil]; omega) (by omega)) fun small hsm => ?_
    have hs : ∀ r ∈ small, Rw r := fun r hr => (hsm.2 r hr).rw okT hvv
    have ns : small.length ≤ 3 := by have := hsm.1; omega
    rw [show ixW [w0, w1, w2] 2 = ret w2 from ixW_nat (i := 2) rfl, br]
    have hw2 : Tx w2 8 := (hwx w2 (List.mem_cons_of_mem _ (List.mem_cons_of_mem _ List.mem_cons_self))).1
    have tg : Tx ("g(" : Str) 2 := ⟨by decide +kernel, by decide +kernel⟩
    have tb : Tx (")" : Str) 1 := ⟨by decide +kernel, by decide +kernel⟩
    have vg : Vl ("g(" ++ w2 ++ ")" : Str) := (vl_of (t := "g(" ++ w2 ++ ")") ((tg.app hw2).app tb).1 (by rw [TL.len_tl]; exact Nat.le_trans ((tg.app hw2).app tb).2 (by decide)) ⟨40, mem_app.mpr (.inl (mem_app.mpr (.inl (by decide +kernel)))), by decide⟩).1
    have v7 : Vl ("?7" : Str) := (vl_of (t := "?7") (by decide +kernel) (by decide +kernel) ⟨63, by decide +kernel, by decide⟩).1
    refine Sat_catS tg hw2 (by decide) (Sat_catS (tg.app hw2) tb (by decide) (Sat.bnd (Sat.pick (by omega)) fun p2 hp2 => ?_))
    have hcl := cutL_len (xs := [("?7" : Str), "g(" ++ w2 ++ ")"]) (lo := none) (hi := some p2)
    have hcm : ∀ v ∈ cutL [("?7" : Str), "g(" ++ w2 ++ ")"] none (some p2), Vl v := fun v hv => by
      rcases List.mem_cons.mp (cutL_mem hv) with e | hv
      · rw [e]; exact v7
      · rw [List.mem_singleton.mp hv]; exact vg
    generalize hce : cutL [("?7" : Str), "g(" ++ w2 ++ ")"] none (some p2) = more at hcl hcm
    have hcl : more.length ≤ 2 := hcl
    refine Sat_cat (by show 2 + _ ≤ _; omega) ?_
    have hgv : ∀ v ∈ [w0, w1] ++ more, Vl v := fun v hv => by
      rcases List.mem_append.mp hv with hv | hv
      · exact hvv v (List.mem_append_left _ (List.mem_append_left _ hv))
      · exact hcm v hv
    have hgl : ([w0, w1] ++ more).length ≤ 4 := by rw [List.length_append]; show 2 + _ ≤ 4; omega
    have hgn : [w0, w1] ++ more ≠ [] := fun z => nomatch z
    generalize [w0, w1] ++ more = goals at hgv hgl hgn
    refine Sat.loop (fun xs s => (s.length + xs.length ≤ 4) ∧ (∀ q ∈ s, okS q.1 ∧ okS q.2) ∧ (∀ q ∈ s, Vl q.2) ∧ (∀ x ∈ xs, okS x) ∧ ∀ v ∈ movable, v ∈ xs ∨ v ∈ s.map fun q => q.1) ?_ ?_ _ _ ⟨by simpa using hml, (fun q hq => by cases hq), (fun q hq => by cases hq), fun x hx => (hmv x hx).1.ok, fun v hv => .inl hv⟩
    · rintro hid ⟨hil, hio, hiv, _, hik⟩
      rw [lcG_map (fill hid) (by unfold sizeLine; omega) (fun r hr => law_set_eq (hs r hr)), br]
      refine Sat.bnd (Sat.pick (by omega)) fun p3 hp3 => Sat.bnd (rows_sat hT1 hT2 (fun t ht => (hT3 t ht).1) hgn (by omega) (by omega)) fun new hnew => ?_
      have hnl := hnew.1
      refine Sat_cat (by rw [List.length_map]; omega) ?_
      have hb : ∀ r ∈ new ++ small.map (fill hid), Rw r ∧ gf r 0 ≠ n2 := fun r hr => by
        rcases List.mem_append.mp hr with hr | hr
        · refine ⟨(hnew.2 r hr).rw okT hgv, ?_⟩
          obtain ⟨t, ht, ps, e, _⟩ := hnew.2 r hr
          rw [e]
          exact fun z => hdn ht z.symm
        · obtain ⟨r', hr', rfl⟩ := List.mem_map.mp hr
          refine ⟨fill_rw (hs r' hr') hiv, ?_⟩
          obtain ⟨t, ht, ps, e, _⟩ := hsm.2 r' hr'
          rw [e]
          exact fun z => hdn ht z.symm
      have nb : (new ++ small.map (fill hid)).length ≤ 5 := by rw [List.length_append, List.length_map]; omega
      generalize new ++ small.map (fill hid) = big at hb nb
      refine Sat.bnd (folds_hold_sat hs (fun r hr => (hb r hr).1) (by omega) (by omega) (fun v hv => ?_) hio (fun z => nomatch z) (by show 3 ≤ 100; decide) (by omega) (fun x hx => (hwv x hx).ok) fun x hx => (hmv x hx).1.ok) fun a ha => ?_
      · obtain ⟨h1, h2⟩ := List.mem_filter.mp (show v ∈ (sortU ltS (vals small)).filter fun v => !lw v from hv)
        obtain ⟨r, hr, hvr⟩ := vals_mem.mp (mem_sortU.mp h1)
        obtain ⟨t, ht, ps, e, hps, _⟩ := hsm.2 r hr
        rw [e] at hvr
        have hlf : lw v = false := by simpa using h2
        have hvm : v ∈ movable := by
          rcases List.mem_append.mp (hps v hvr) with z | z
          · rcases List.mem_append.mp z with z | z
            · have : lw v = true := by
                rcases List.mem_cons.mp z with e | z
                · rw [e]; exact (hwx w0 List.mem_cons_self).2.1
                · rw [List.mem_singleton.mp z]; exact (hwx w1 (List.mem_cons_of_mem _ List.mem_cons_self)).2.1
              rw [this] at hlf; cases hlf
            · exact z
          · exact z
        exact (hik v hvm).elim (fun z => nomatch z) id
      · subst ha
        refine Sat.gte (fun z => nomatch z) fun _ => Sat_cat (by rw [List.length_singleton]; omega) ?_
        refine Sat.loop (fun xs s => s.length + xs.length ≤ 5 ∧ (s.map fun q => q.1).Nodup) ?_ ?_ _ _ ⟨by rw [List.length_append, List.length_singleton]; show 0 + _ ≤ 5; omega, List.nodup_nil⟩
        · rintro st ⟨hsl, hsn⟩
          rw [show ixW [n0, n1, n2] 2 = ret n2 from ixW_nat (i := 2) rfl]
          simp only [br]
          have hX : Vl ("X" : Str) := (vl_of (t := "X") (by decide +kernel) (by decide +kernel) ⟨88, by decide +kernel, by decide⟩).1
          have hY : Vl ("Y" : Str) := (vl_of (t := "Y") (by decide +kernel) (by decide +kernel) ⟨89, by decide +kernel, by decide⟩).1
          have hn2 : okS n2 := hnok n2 (List.mem_cons_of_mem _ (List.mem_cons_of_mem _ List.mem_cons_self))
          have hst : Rw [n2, ("X" : Str)] := ⟨(fun z => nomatch z), by show 2 ≤ 10; decide, fun x hx => by
            rcases List.mem_cons.mp hx with e | hx
            · rw [e]; exact hn2
            · rw [List.mem_singleton.mp hx]; exact hX.ok, fun x hx => by
            rw [List.mem_singleton.mp (show x ∈ [("X" : Str)] from hx)]; exact hX⟩
          have hsp : okL okS [n2, ("Y" : Str)] := fun x hx => by
            rcases List.mem_cons.mp hx with e | hx
            · rw [e]; exact hn2
            · rw [List.mem_singleton.mp hx]; exact hY.ok
          have hz : ∀ t, ∀ o ∈ big, isP [n2, ("X" : Str)] t o = false := fun t o ho => by
            cases e : isP [n2, ("X" : Str)] t o with
            | false => rfl
            | true =>
              have h1 := (isP_iff.mp e).2 0 n2 (by show 0 < 2; decide) rfl
              exact absurd (h1.1 rfl) (hb o ho).2
          refine Sat.loop (fun (xs : List Stg) (_ : Unit) => ∀ x ∈ xs, (x.map fun q => q.1).Nodup ∧ x.length ≤ 100) (fun _ _ => Sat.ret (a := true) (R := fun x : Bool => x = true) rfl) ?_ _ _ ?_
          · rintro x xs u k h1 hk
            refine Sat.bnd (lists_hold_sat hs (fun r hr => (hb r hr).1) (by omega) (by omega) hst hsp hz (h1 x List.mem_cons_self).1 (h1 x List.mem_cons_self).2) fun a ha => ?_
            subst ha
            exact Sat.gte (fun z => nomatch z) fun _ => hk () fun y hy => h1 y (List.mem_cons_of_mem _ hy)
          · intro x hx
            rcases List.mem_cons.mp hx with e | hx
            · rw [e]; exact ⟨List.nodup_nil, Nat.zero_le _⟩
            · rw [List.mem_singleton.mp hx]
              exact ⟨hsn, by have : st.length + 0 ≤ 5 := hsl; omega⟩
        · rintro x xs st k ⟨h1, h2⟩ hk
          rw [List.length_cons] at h1
          refine Sat.bnd (Sat.pick (by omega)) fun b _ => Sat.gte (fun _ => ?_) fun _ => hk st ⟨by omega, h2⟩
          refine Sat.bnd (Sat.one hgn (by omega)) fun g hg => ?_
          refine Sat.bnd (R := (· = dPut st x g)) (Sat.rgd (by unfold sizeLine; omega) rfl) fun t ht => hk t ?_
          subst ht
          exact ⟨by have := dPut_len (d := st) (k := x) (v := g); omega, dPut_nodup h2⟩
    · rintro x xs s k ⟨h1, h2, h3, h4, h5⟩ hk
      refine Sat.bnd (Sat.one hgn (by omega)) fun g hg => ?_
      rw [List.length_cons] at h1
      refine Sat.bnd (R := (· = dPut s x g)) (Sat.rgd (by unfold sizeLine; omega) rfl) fun t ht => hk t ?_
      subst ht
      refine ⟨by have := dPut_len (d := s) (k := x) (v := g); omega, dPut_ok h2 (h4 x List.mem_cons_self) (hgv g hg).ok, dPut_vl h3 (hgv g hg), fun y hy => h4 y (List.mem_cons_of_mem _ hy), fun v hv => ?_⟩
      have hkeys : (dPut s x g).map (fun q => q.1) = _ := dPut_keys
      rw [hkeys]
      rcases h5 v hv with z | z
      · rcases List.mem_cons.mp z with e | z
        · refine .inr ?_
          rw [e]
          split
          · assumption
          · exact List.mem_append_right _ List.mem_cons_self
        · exact .inl z
      · refine .inr ?_
        split
        · exact z
        · exact List.mem_append_left _ z
  · refine Sat.bnd (Sat.pick (by omega)) fun b _ => Sat.gte (fun _ => ?_) fun _ => hk _ ⟨(fun z => nomatch z), by show 2 ≤ 10; decide, fun t ht => ?_⟩
    · rw [br]
      refine Sat.bnd (R := (· = [(n0, 1 + wd), (n0, 4)])) (fun Q q => ⟨1, by rfl, q _ rfl⟩) fun t ht => ?_
      subst ht
      exact hk _ ⟨(fun z => nomatch z), by show 2 ≤ 10; decide, fun t ht => by
        rcases List.mem_cons.mp ht with e | ht
        · rw [e]; exact ⟨by show 0 ≤ 1 + wd ∧ 1 + wd ≤ 9; omega, .inl rfl⟩
        · rw [List.mem_singleton.mp ht]; exact ⟨by show (0 : Int) ≤ 4 ∧ (4 : Int) ≤ 9; decide, .inl rfl⟩⟩
    · rcases List.mem_cons.mp ht with e | ht
      · rw [e]; exact ⟨by show 0 ≤ 1 + wd ∧ 1 + wd ≤ 9; omega, .inl rfl⟩
      · rw [List.mem_singleton.mp ht]; exact ⟨by show (0 : Int) ≤ 2 ∧ (2 : Int) ≤ 9; decide, .inr rfl⟩
theorem law_true : m_law (· = true) := law_sat _ fun _ h => h
end K10
end
open PySem PySem.W PyProof.Rows in
set_option maxRecDepth 100000 in
set_option maxHeartbeats 0 in
theorem PySem.Challenge.cw_mappedtwice_k10_folds_spoiled_holds : PySem.Challenge.rw_mappedtwice_k10_folds_spoiled.Holds := by
  w_on; o_law; k_head; (case hw => w_witness2)
  k_fill
  refine K10.walk K10.law_true rfl rfl (fun w h Y => PySem.W.kIn_of Y) ?F
  case F =>
    intro w mg fa h KX G hmg
    refine' K10.all_mk K10.law_true KX G hmg ?a_is_word ?l_is_word ?c_is_word ?k_is_word ?a_values_of ?l_values_of ?c_values_of ?k_values_of ?a_movables_of ?l_movables_of ?c_movables_of ?k_movables_of ?a_set_value ?l_set_value ?c_set_value ?k_set_value ?a_filled_rows ?l_filled_rows ?c_filled_rows ?k_filled_rows ?a_conditions ?l_conditions ?c_conditions ?k_conditions ?a_meets ?l_meets ?c_meets ?k_meets ?a_partners ?l_partners ?c_partners ?k_partners ?a_set_by ?l_set_by ?c_set_by ?k_set_by ?a_is_fold ?l_is_fold ?c_is_fold ?k_is_fold ?a_closed_end ?l_closed_end ?c_closed_end ?k_closed_end ?a_is_closed ?l_is_closed ?c_is_closed ?k_is_closed ?a_law_pool ?l_law_pool ?c_law_pool ?k_law_pool ?a_law_pick ?l_law_pick ?c_law_pick ?k_law_pick ?a_law_one_of ?l_law_one_of ?c_law_one_of ?k_law_one_of ?a_law_names ?l_law_names ?c_law_names ?k_law_names ?a_law_movable_values ?l_law_movable_values ?c_law_movable_values ?k_law_movable_values ?a_law_rows ?l_law_rows ?c_law_rows ?k_law_rows ?a_law_is_word ?l_law_is_word ?c_law_is_word ?k_law_is_word ?a_law_values ?l_law_values ?c_law_values ?k_law_values ?a_law_movables ?l_law_movables ?c_law_movables ?k_law_movables ?a_law_set ?l_law_set ?c_law_set ?k_law_set ?a_law_is_partner ?l_law_is_partner ?c_law_is_partner ?k_law_is_partner ?a_law_set_by ?l_law_set_by ?c_law_set_by ?k_law_set_by ?a_law_fold_due ?l_law_fold_due ?c_law_fold_due ?k_law_fold_due ?a_law_fold_holds ?l_law_fold_holds ?c_law_fold_holds ?k_law_fold_holds ?a_law_spoilt_fold ?l_law_spoilt_fold ?c_law_spoilt_fold ?k_law_spoilt_fold ?a_law_folds_hold ?l_law_folds_hold ?c_law_folds_hold ?k_law_folds_hold ?a_law_closed_due ?l_law_closed_due ?c_law_closed_due ?k_law_closed_due ?a_law_closed_holds ?l_law_closed_holds ?c_law_closed_holds ?k_law_closed_holds ?a_law_closed_rows ?l_law_closed_rows ?c_law_closed_rows ?k_law_closed_rows ?a_law_spoilt_rows ?l_law_spoilt_rows ?c_law_spoilt_rows ?k_law_spoilt_rows ?a_law_lists_hold ?l_law_lists_hold ?c_law_lists_hold ?k_law_lists_hold ?a_law ?l_law ?c_law ?k_law ?t_is_closed ?z_abs ?z_all ?z_dict ?z_enumerate ?z_int ?z_len ?z_list ?z_range ?z_reversed ?z_set ?z_sorted ?z_str ?z_tuple ?z_zip
    (case a_is_word => k_is)
    (case l_is_word => k_is)
    (case c_is_word => k_is)
    (case k_is_word => k_is)
    (case a_values_of => k_is)
    (case l_values_of => k_is)
    (case c_values_of => k_is)
    (case k_values_of => k_is)
    (case a_movables_of => k_is)
    (case l_movables_of => k_is)
    (case c_movables_of => k_is)
    (case k_movables_of => k_is)
    (case a_set_value => k_is)
    (case l_set_value => k_is)
    (case c_set_value => k_is)
    (case k_set_value => k_is)
    (case a_filled_rows => k_is)
    (case l_filled_rows => k_is)
    (case c_filled_rows => k_is)
    (case k_filled_rows => k_is)
    (case a_conditions => k_is)
    (case l_conditions => k_is)
    (case c_conditions => k_is)
    (case k_conditions => k_is)
    (case a_meets => k_is)
    (case l_meets => k_is)
    (case c_meets => k_is)
    (case k_meets => k_is)
    (case a_partners => k_is)
    (case l_partners => k_is)
    (case c_partners => k_is)
    (case k_partners => k_is)
    (case a_set_by => k_is)
    (case l_set_by => k_is)
    (case c_set_by => k_is)
    (case k_set_by => k_is)
    (case a_is_fold => k_is)
    (case l_is_fold => k_is)
    (case c_is_fold => k_is)
    (case k_is_fold => k_is)
    (case a_closed_end => k_is)
    (case l_closed_end => k_is)
    (case c_closed_end => k_is)
    (case k_closed_end => k_is)
    (case a_is_closed => k_is)
    (case l_is_closed => k_is)
    (case c_is_closed => k_is)
    (case k_is_closed => k_is)
    (case a_law_pool => k_is)
    (case l_law_pool => k_is)
    (case c_law_pool => k_is)
    (case k_law_pool => k_is)
    (case a_law_pick => k_is)
    (case l_law_pick => k_is)
    (case c_law_pick => k_is)
    (case k_law_pick => k_is)
    (case a_law_one_of => k_is)
    (case l_law_one_of => k_is)
    (case c_law_one_of => k_is)
    (case k_law_one_of => k_is)
    (case a_law_names => k_is)
    (case l_law_names => k_is)
    (case c_law_names => k_is)
    (case k_law_names => k_is)
    (case a_law_movable_values => k_is)
    (case l_law_movable_values => k_is)
    (case c_law_movable_values => k_is)
    (case k_law_movable_values => k_is)
    (case a_law_rows => k_is)
    (case l_law_rows => k_is)
    (case c_law_rows => k_is)
    (case k_law_rows => k_is)
    (case a_law_is_word => k_is)
    (case l_law_is_word => k_is)
    (case c_law_is_word => k_is)
    (case k_law_is_word => k_is)
    (case a_law_values => k_is)
    (case l_law_values => k_is)
    (case c_law_values => k_is)
    (case k_law_values => k_is)
    (case a_law_movables => k_is)
    (case l_law_movables => k_is)
    (case c_law_movables => k_is)
    (case k_law_movables => k_is)
    (case a_law_set => k_is)
    (case l_law_set => k_is)
    (case c_law_set => k_is)
    (case k_law_set => k_is)
    (case a_law_is_partner => k_is)
    (case l_law_is_partner => k_is)
    (case c_law_is_partner => k_is)
    (case k_law_is_partner => k_is)
    (case a_law_set_by => k_is)
    (case l_law_set_by => k_is)
    (case c_law_set_by => k_is)
    (case k_law_set_by => k_is)
    (case a_law_fold_due => k_is)
    (case l_law_fold_due => k_is)
    (case c_law_fold_due => k_is)
    (case k_law_fold_due => k_is)
    (case a_law_fold_holds => k_is)
    (case l_law_fold_holds => k_is)
    (case c_law_fold_holds => k_is)
    (case k_law_fold_holds => k_is)
    (case a_law_spoilt_fold => k_is)
    (case l_law_spoilt_fold => k_is)
    (case c_law_spoilt_fold => k_is)
    (case k_law_spoilt_fold => k_is)
    (case a_law_folds_hold => k_is)
    (case l_law_folds_hold => k_is)
    (case c_law_folds_hold => k_is)
    (case k_law_folds_hold => k_is)
    (case a_law_closed_due => k_is)
    (case l_law_closed_due => k_is)
    (case c_law_closed_due => k_is)
    (case k_law_closed_due => k_is)
    (case a_law_closed_holds => k_is)
    (case l_law_closed_holds => k_is)
    (case c_law_closed_holds => k_is)
    (case k_law_closed_holds => k_is)
    (case a_law_closed_rows => k_is)
    (case l_law_closed_rows => k_is)
    (case c_law_closed_rows => k_is)
    (case k_law_closed_rows => k_is)
    (case a_law_spoilt_rows => k_is)
    (case l_law_spoilt_rows => k_is)
    (case c_law_spoilt_rows => k_is)
    (case k_law_spoilt_rows => k_is)
    (case a_law_lists_hold => k_is)
    (case l_law_lists_hold => k_is)
    (case c_law_lists_hold => k_is)
    (case k_law_lists_hold => k_is)
    (case a_law => k_is)
    (case l_law => k_is)
    (case c_law => k_is)
    (case k_law => k_is)
    (case t_is_closed => k_is)
    (case z_abs => k_is)
    (case z_all => k_is)
    (case z_dict => k_is)
    (case z_enumerate => k_is)
    (case z_int => k_is)
    (case z_len => k_is)
    (case z_list => k_is)
    (case z_range => k_is)
    (case z_reversed => k_is)
    (case z_set => k_is)
    (case z_sorted => k_is)
    (case z_str => k_is)
    (case z_tuple => k_is)
    (case z_zip => k_is)
