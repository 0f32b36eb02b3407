import PyProof.Rows.All
import Wide.All
import OpenK.AllK
import Wide.FinOn
import HandS.ForMost
import HandS.Walk
import HandS.Wide
import HandS.Deep
import HandS.FStr
import HandS.RevRange
import HandS.Conv
import HandS.SetKeys
import HandS.IsInst
import HandS.DictComp
import HandS.ListItems
import HandS.GenList
import PyProof.Rows.SetFrom
import HandS.SetFor
import PySem.Challenge.RW_mappedtwice_k08_patterns_listed
set_option Elab.async false
set_option linter.all false
section
set_option maxRecDepth 100000
set_option maxHeartbeats 1000000
/-! A layer of my own: what is known of a program's data, apart from the heap. -/
namespace Dl
open PySem L2

/-! ### growth: G is the part that never changes, H the whole; M may be changed -/
structure Gr (M : List Addr) (G H G' H' : Hp) : Prop where
  gg : Same G G'
  gh : Same G' H'
  hh : ∀ a o, a ∉ M → H a = some o → H' a = some o
  fr : ∀ a, H a ≠ none → G a = none → G' a = none
  al : ∀ a, H a ≠ none → H' a ≠ none
section
variable {M M' : List Addr} {G H G1 H1 G2 H2 : Hp} {p : Addr} {o : HO}
theorem Gr.refl (s : Same G H) : Gr M G H G H := ⟨Same.refl G, s, fun _ _ _ h => h, fun _ _ h => h, fun _ h => h⟩
theorem Gr.trans' (a : Gr M G H G1 H1) (b : Gr M' G1 H1 G2 H2) (h : ∀ x ∈ M', x ∈ M ∨ H x = none) : Gr M G H G2 H2 := by
  refine ⟨a.gg.trans b.gg, b.gh, fun x u hx e => b.hh x u (fun hm => ?_) (a.hh x u hx e), fun x hx e => b.fr x (a.al x hx) (a.fr x hx e), fun x hx => b.al x (a.al x hx)⟩
  rcases h x hm with z | z
  · exact hx z
  · rw [z] at e; cases e
theorem Gr.trans (a : Gr M G H G1 H1) (b : Gr M G1 H1 G2 H2) : Gr M G H G2 H2 := a.trans' b fun _ h => .inl h
theorem Gr.wide (a : Gr M G H G1 H1) (h : ∀ x ∈ M, x ∈ M') : Gr M' G H G1 H1 :=
  ⟨a.gg, a.gh, fun x u hx e => a.hh x u (fun z => hx (h x z)) e, a.fr, a.al⟩
theorem nn_of {a : Addr} (h : H a = some o) : H a ≠ none := by rw [h]; exact fun z => nomatch z
theorem some_of {a : Addr} (h : H a ≠ none) : ∃ u, H a = some u := by
  cases e : H a with
  | none => exact absurd e h
  | some u => exact ⟨u, rfl⟩
theorem none_sub {a : Addr} (s : Same G H) (h : H a = none) : G a = none := by
  cases e : G a with
  | none => rfl
  | some u => rw [s a u e] at h; cases h
theorem same_new (h : G p = none) : Same G (upd G p o) := fun b u e => by rw [upd_ne (ne_of_none e h)]; exact e
theorem same_upd2 (s : Same G H) : Same (upd G p o) (upd H p o) := fun b u e => by
  by_cases hb : b = p
  · subst hb; rw [upd_same] at e ⊢; exact e
  · rw [upd_ne hb] at e ⊢; exact s b u e
theorem same_keep (s : Same G H) (h : G p = none) : Same G (upd H p o) := fun b u e => by
  rw [upd_ne (ne_of_none e h)]; exact s b u e
/-- a new object that will never change -/
theorem Gr.new (s : Same G H) (h : H p = none) : Gr M G H (upd G p o) (upd H p o) := by
  refine ⟨same_new (none_sub s h), same_upd2 s, fun x u _ e => by rw [upd_ne (ne_of_none e h)]; exact e, fun x hx e => ?_, fun x hx => ?_⟩
  · rw [upd_ne (fun z => hx (by rw [z]; exact h))]; exact e
  · rw [upd_ne (fun z => hx (by rw [z]; exact h))]; exact hx
/-- a new object that may change -/
theorem Gr.own (s : Same G H) (h : H p = none) : Gr M G H G (upd H p o) := by
  refine ⟨Same.refl G, same_keep s (none_sub s h), fun x u _ e => by rw [upd_ne (ne_of_none e h)]; exact e, fun x _ e => e, fun x hx => ?_⟩
  rw [upd_ne (fun z => hx (by rw [z]; exact h))]; exact hx
/-- an object of one's own changed -/
theorem Gr.mut (a : Gr M G H G1 H1) (h : p ∈ M ∨ H p = none) (hg : G1 p = none) : Gr M G H G1 (upd H1 p o) := by
  refine ⟨a.gg, same_keep a.gh hg, fun x u hx e => ?_, a.fr, fun x hx => ?_⟩
  · have n : x ≠ p := fun z => by
      rcases h with h | h
      · exact hx (by rw [z]; exact h)
      · rw [z, h] at e; cases e
    rw [upd_ne n]; exact a.hh x u hx e
  · by_cases n : x = p
    · rw [n, upd_same]; exact fun z => nomatch z
    · rw [upd_ne n]; exact a.al x hx
/-- an object of one's own is not changed any more -/
theorem Gr.freeze (a : Gr M G H G1 H1) (h : H p = none) (hs : Same G H) (ho : H1 p = some o) (hg : G1 p = none) : Gr M G H (upd G1 p o) H1 := by
  refine ⟨a.gg.trans (same_new hg), fun b u e => ?_, a.hh, fun x hx e => ?_, a.al⟩
  · by_cases hb : b = p
    · subst hb; rw [upd_same] at e; rw [ho]; exact e
    · rw [upd_ne hb] at e; exact a.gh b u e
  · rw [upd_ne (fun z => hx (by rw [z]; exact h))]; exact a.fr x hx e
/-- going back to what was known earlier -/
theorem Gr.back (a : Gr M G H G1 H1) (b : Gr M' G1 H1 G2 H2) (h : ∀ x ∈ M', x ∈ M ∨ H x = none) (hm : ∀ x u, G1 x = some u → H2 x = some u) : Gr M G H G1 H2 :=
  ⟨a.gg, hm, (a.trans' b h).hh, a.fr, (a.trans' b h).al⟩
end

/-! ### what else is known throughout (the law's drawing pool) -/
structure Fx where
  P : List Addr
  J : Hp → Hp → Prop
  st : ∀ G H G' H', Same G G' → (∀ a ∈ P, H' a = H a ∧ (G a = none → G' a = none)) → J G H → J G' H'
  al : ∀ G H, J G H → ∀ a ∈ P, H a ≠ none ∧ G a = none
def F0 : Fx := ⟨[], fun _ _ => True, fun _ _ _ _ _ _ h => h, fun _ _ _ _ h => nomatch h⟩
theorem Fx.pure (F : Fx) {G H G' H' : Hp} (g : Gr [] G H G' H') (h : F.J G H) : F.J G' H' := by
  refine F.st G H G' H' g.gg (fun a ha => ?_) h
  obtain ⟨h1, h2⟩ := F.al G H h a ha
  obtain ⟨u, e⟩ := some_of h1
  exact ⟨by rw [e]; exact g.hh a u (by simp) e, g.fr a h1⟩
theorem Fx.loc (F : Fx) {G H : Hp} {p : Addr} {o : HO} (hp : p ∉ F.P) (h : F.J G H) : F.J G (upd H p o) :=
  F.st G H G _ (Same.refl G) (fun a ha => ⟨upd_ne (fun z => hp (by rw [← z]; exact ha)), fun z => z⟩) h
theorem Fx.new (F : Fx) {G H : Hp} {p : Addr} {o : HO} (s : Same G H) (hp : H p = none) (h : F.J G H) : F.J (upd G p o) (upd H p o) := F.pure (Gr.new s hp) h
theorem Fx.offP (F : Fx) {G H : Hp} {p : Addr} (h : F.J G H) (hp : H p = none) : p ∉ F.P := fun z => (F.al G H h p z).1 hp

/-! ### what is known of a value -/
structure Know where
  p : V → Hp → Prop
  mono : ∀ {v : V} {G G' : Hp}, Same G G' → p v G → p v G'
mutual
theorem dp_mono {K : PySem.W.Frag} {G G' : Hp} (s : Same G G') : ∀ {v : V} {d : PyData}, Dp K G v d → Dp K G' v d
  | _, _, .non => .non
  | _, _, .bl b => .bl b
  | _, _, .int i => .int i
  | _, _, .str x => .str x
  | _, _, .lst h r => .lst (s.seq h) (dpAll_mono s r)
  | _, _, .tup h r => .tup (by
      rcases h with (h | ⟨o, h⟩) | h
      · exact .inl (.inl (s _ _ h))
      · exact .inl (.inr ⟨o, s _ _ h⟩)
      · exact .inr h) (dpAll_mono s r)
theorem dpAll_mono {K : PySem.W.Frag} {G G' : Hp} (s : Same G G') : ∀ {vs : List V} {ds : List PyData}, DpAll K G vs ds → DpAll K G' vs ds
  | _, _, .nil => .nil
  | _, _, .cons a b => .cons (dp_mono s a) (dpAll_mono s b)
end
theorem seqT_mono {K : PySem.W.Frag} {G G' : Hp} {a : Addr} {xs : List V} (s : Same G G') (h : SqT K G a xs) : SqT K G' a xs := by
  rcases h with (h | ⟨o, h⟩) | h
  · exact .inl (.inl (s _ _ h))
  · exact .inl (.inr ⟨o, s _ _ h⟩)
  · exact .inr h
def AllK (G : Hp) (vs : List V) (ks : List Know) : Prop := Paired (fun v (k : Know) => k.p v G) vs ks
theorem AllK.mono {G G' : Hp} (s : Same G G') : ∀ {vs : List V} {ks : List Know}, AllK G vs ks → AllK G' vs ks
  | _, _, .nil => .nil
  | _, _, .cons (b := k) a b => .cons (k.mono s a) (AllK.mono s b)
theorem AllK.length {G : Hp} {vs : List V} {ks : List Know} (h : AllK G vs ks) : vs.length = ks.length := Paired.length h
theorem AllK.get {G : Hp} : ∀ {vs : List V} {ks : List Know} {i : Nat} {k : Know}, AllK G vs ks → ks[i]? = some k → ∃ v, vs[i]? = some v ∧ k.p v G
  | _, _, _, _, .nil, e => by simp at e
  | _, _, 0, _, .cons r _, e => by simp at e; subst e; exact ⟨_, rfl, r⟩
  | _, _, i + 1, k, .cons _ t, e => by
    obtain ⟨v, h1, h2⟩ := AllK.get (i := i) (k := k) t (by simpa using e)
    exact ⟨v, by simpa using h1, h2⟩
theorem AllK.getV {G : Hp} : ∀ {vs : List V} {ks : List Know} {i : Nat} {v : V}, AllK G vs ks → vs[i]? = some v → ∃ k, ks[i]? = some k ∧ k.p v G
  | _, _, _, _, .nil, e => by simp at e
  | _, _, 0, _, .cons r _, e => by simp at e; subst e; exact ⟨_, rfl, r⟩
  | _, _, i + 1, v, .cons _ t, e => by
    obtain ⟨k, h1, h2⟩ := AllK.getV (i := i) (v := v) t (by simpa using e)
    exact ⟨k, by simpa using h1, h2⟩
theorem AllK.app {G : Hp} : ∀ {vs ws : List V} {ks ls : List Know}, AllK G vs ks → AllK G ws ls → AllK G (vs ++ ws) (ks ++ ls)
  | _, _, _, _, .nil, s => s
  | _, _, _, _, .cons a b, s => .cons a (AllK.app b s)
theorem AllK.snoc {G : Hp} {vs : List V} {ks : List Know} {v : V} {k : Know} (h : AllK G vs ks) (r : k.p v G) : AllK G (vs ++ [v]) (ks ++ [k]) := h.app (.cons r .nil)
theorem AllK.take {G : Hp} : ∀ {vs : List V} {ks : List Know} (n : Nat), AllK G vs ks → AllK G (vs.take n) (ks.take n)
  | _, _, 0, _ => .nil
  | _, _, _ + 1, .nil => .nil
  | _, _, n + 1, .cons a b => .cons a (AllK.take n b)
theorem AllK.drop {G : Hp} : ∀ {vs : List V} {ks : List Know} (n : Nat), AllK G vs ks → AllK G (vs.drop n) (ks.drop n)
  | _, _, 0, h => h
  | _, _, _ + 1, .nil => .nil
  | _, _, n + 1, .cons _ b => AllK.drop n b
theorem AllK.set {G : Hp} {v : V} {k : Know} (r : k.p v G) : ∀ {vs : List V} {ks : List Know} (i : Nat), AllK G vs ks → AllK G (vs.set i v) (ks.set i k)
  | _, _, _, .nil => .nil
  | _, _, 0, .cons _ b => .cons r b
  | _, _, i + 1, .cons a b => .cons a (AllK.set r i b)
theorem AllK.cut {G : Hp} {vs : List V} {ks : List Know} (h : AllK G vs ks) (lo hi : Option Int) :
    AllK G (cutV vs lo hi) ((ks.drop (HT.sIx ks.length 0 lo)).take (HT.sIx ks.length ks.length hi - HT.sIx ks.length 0 lo)) := by
  unfold cutV
  rw [h.length]
  exact (h.drop _).take _

/-- data of any depth -/
def dat (K : PySem.W.Frag) (d : PyData) : Know := ⟨fun v G => Dp K G v d, fun s h => dp_mono s h⟩
/-- one of several -/
def exK {α : Type} (S : α → Know) : Know := ⟨fun v G => ∃ x, (S x).p v G, fun s ⟨x, h⟩ => ⟨x, (S x).mono s h⟩⟩
/-- with a fact -/
def andK (A : Prop) (k : Know) : Know := ⟨fun v G => A ∧ k.p v G, fun s ⟨a, h⟩ => ⟨a, k.mono s h⟩⟩
/-- just this value -/
def valK (v : V) : Know := ⟨fun u _ => u = v, fun _ h => h⟩
/-- a list, a tuple of things -/
def listK (ks : List Know) : Know := ⟨fun v G => ∃ a vs, v = .ref a ∧ G a = some (.lst vs) ∧ AllK G vs ks, fun s ⟨a, vs, e, h, r⟩ => ⟨a, vs, e, s _ _ h, r.mono s⟩⟩
/-- .. that may also be locked or a constant (the script) -/
def seqK (K : PySem.W.Frag) (ks : List Know) : Know := ⟨fun v G => ∃ a vs, v = .ref a ∧ SqL K G a vs ∧ AllK G vs ks, fun s ⟨a, vs, e, h, r⟩ => ⟨a, vs, e, s.seq h, r.mono s⟩⟩
def tupK (K : PySem.W.Frag) (ks : List Know) : Know := ⟨fun v G => ∃ a vs, v = .ref a ∧ SqT K G a vs ∧ AllK G vs ks, fun s ⟨a, vs, e, h, r⟩ => ⟨a, vs, e, seqT_mono s h, r.mono s⟩⟩
theorem allK_dat1 {K : PySem.W.Frag} {G : Hp} : ∀ (ds : List PyData) (vs : List V), AllK G vs (ds.map (dat K)) → DpAll K G vs ds
  | [], _, .nil => .nil
  | _ :: ds, _ :: vs, .cons a b => .cons a (allK_dat1 ds vs b)
theorem allK_dat2 {K : PySem.W.Frag} {G : Hp} : ∀ {ds : List PyData} {vs : List V}, DpAll K G vs ds → AllK G vs (ds.map (dat K))
  | _, _, .nil => .nil
  | _, _, .cons a b => .cons a (allK_dat2 b)
theorem allK_dat {K : PySem.W.Frag} {G : Hp} {vs : List V} {ds : List PyData} : AllK G vs (ds.map (dat K)) ↔ DpAll K G vs ds := ⟨allK_dat1 ds vs, allK_dat2⟩
theorem tupK_dat {K : PySem.W.Frag} {G : Hp} {v : V} {ds : List PyData} : (tupK K (ds.map (dat K))).p v G ↔ (dat K (.tuple ds)).p v G := by
  constructor
  · rintro ⟨a, vs, rfl, h, r⟩
    exact .tup h (allK_dat.mp r)
  · intro h
    cases h with
    | tup h r => exact ⟨_, _, rfl, h, allK_dat.mpr r⟩
/-- what is known says that it is the data d -/
def IsD (K : PySem.W.Frag) (k : Know) (d : PyData) : Prop := ∀ v G, k.p v G → Dp K G v d
theorem isd_int {K : PySem.W.Frag} {i : Int} : IsD K (valK (.int i)) (.int i) := fun v G h => by
  have e : v = .int i := h
  subst e; exact .int i
theorem isd_str {K : PySem.W.Frag} {i : Str} : IsD K (valK (.str i)) (.str i) := fun v G h => by
  have e : v = .str i := h
  subst e; exact .str i
theorem isd_bl {K : PySem.W.Frag} {i : Bool} : IsD K (valK (.bl i)) (.bool i) := fun v G h => by
  have e : v = .bl i := h
  subst e; exact .bl i
theorem isd_non {K : PySem.W.Frag} : IsD K (valK .non) .none := fun v G h => by
  have e : v = .non := h
  subst e; exact .non
theorem isd_all {K : PySem.W.Frag} {α : Type} {f : α → Know} {g : α → PyData} : ∀ (xs : List α), (∀ x, x ∈ xs → IsD K (f x) (g x)) → ∀ vs G, AllK G vs (xs.map f) → DpAll K G vs (xs.map g)
  | [], _, _, _, .nil => .nil
  | x :: xs, h, _, G, .cons a b => .cons (h x List.mem_cons_self _ G a) (isd_all xs (fun y hy => h y (List.mem_cons_of_mem _ hy)) _ G b)
theorem isd_list {K : PySem.W.Frag} {α : Type} {f : α → Know} {g : α → PyData} {xs : List α} (h : ∀ x, x ∈ xs → IsD K (f x) (g x)) : IsD K (listK (xs.map f)) (.list (xs.map g)) := fun v G ⟨a, vs, e, ha, r⟩ => by
  subst e; exact .lst (.inl (.inl ha)) (isd_all xs h _ G r)
theorem isd_tup {K : PySem.W.Frag} {α : Type} {f : α → Know} {g : α → PyData} {xs : List α} (h : ∀ x, x ∈ xs → IsD K (f x) (g x)) : IsD K (tupK K (xs.map f)) (.tuple (xs.map g)) := fun v G ⟨a, vs, e, ha, r⟩ => by
  subst e; exact .tup ha (isd_all xs h _ G r)
theorem isd_dat {K : PySem.W.Frag} {d : PyData} : IsD K (dat K d) d := fun _ _ h => h
theorem isd_pair {K : PySem.W.Frag} {k l : Know} {d e : PyData} (h1 : IsD K k d) (h2 : IsD K l e) : IsD K (tupK K [k, l]) (.tuple [d, e]) := fun v G ⟨a, vs, eq, ha, r⟩ => by
  subst eq
  refine .tup ha ?_
  cases r with
  | cons a b => cases b with
    | cons b c => cases c; exact .cons (h1 _ G a) (.cons (h2 _ G b) .nil)
theorem dat_int {K : PySem.W.Frag} {G : Hp} {v : V} {i : Int} : (dat K (.int i)).p v G ↔ v = .int i := ⟨fun h => by cases h; rfl, fun e => by subst e; exact .int i⟩
theorem dat_str {K : PySem.W.Frag} {G : Hp} {v : V} {x : Str} : (dat K (.str x)).p v G ↔ v = .str x := ⟨fun h => by cases h; rfl, fun e => by subst e; exact .str x⟩
theorem dat_bl {K : PySem.W.Frag} {G : Hp} {v : V} {b : Bool} : (dat K (.bool b)).p v G ↔ v = .bl b := ⟨fun h => by cases h; rfl, fun e => by subst e; exact .bl b⟩
theorem dat_non {K : PySem.W.Frag} {G : Hp} {v : V} : (dat K .none).p v G ↔ v = .non := ⟨fun h => by cases h; rfl, fun e => by subst e; exact .non⟩

/-! ### the slots, the objects of one's own -/
abbrev Env := List (Option Know)
def EnvK (G : Hp) : Env → St → Prop
  | [], [] => True
  | o :: δ, x :: σ => (∀ k, o = some k → ∃ v, x = some v ∧ k.p v G) ∧ EnvK G δ σ
  | _, _ => False
section
variable {G G' H H' : Hp}
theorem EnvK.mono (s : Same G G') : ∀ {δ : Env} {σ : St}, EnvK G δ σ → EnvK G' δ σ
  | [], [], _ => trivial
  | _ :: _, _ :: _, ⟨h, r⟩ => ⟨fun k e => by obtain ⟨v, h1, h2⟩ := h k e; exact ⟨v, h1, k.mono s h2⟩, EnvK.mono s r⟩
  | [], _ :: _, h => h.elim
  | _ :: _, [], h => h.elim
theorem EnvK.get : ∀ {δ : Env} {σ : St} {i : Nat} {k : Know}, EnvK G δ σ → δ[i]? = some (some k) → ∃ v, σ[i]? = some (some v) ∧ k.p v G
  | [], [], _, _, _, e => by simp at e
  | _ :: _, _ :: _, 0, k, ⟨h, _⟩, e => by
    obtain ⟨v, h1, h2⟩ := h k (by simpa using e)
    exact ⟨v, by simp [h1], h2⟩
  | _ :: _, _ :: _, i + 1, k, ⟨_, r⟩, e => by
    obtain ⟨v, h1, h2⟩ := EnvK.get (i := i) (k := k) r (by simpa using e)
    exact ⟨v, by simpa using h1, h2⟩
  | [], _ :: _, _, _, h, _ => h.elim
  | _ :: _, [], _, _, h, _ => h.elim
theorem EnvK.set {v : V} {k : Know} (q : k.p v G) : ∀ {δ : Env} {σ : St} (i : Nat), EnvK G δ σ → EnvK G (δ.set i (some k)) (σ.set i (some v))
  | [], [], _, _ => trivial
  | _ :: _, _ :: _, 0, ⟨_, r⟩ => ⟨fun k' e => by
      have e' : k = k' := Option.some.inj e
      subst e'
      exact ⟨v, rfl, q⟩, r⟩
  | _ :: _, _ :: _, i + 1, ⟨h, r⟩ => ⟨h, EnvK.set q i r⟩
  | [], _ :: _, _, h => h.elim
  | _ :: _, [], _, h => h.elim
theorem EnvK.forget : ∀ {δ : Env} {σ : St} (i : Nat) (x : Option V), EnvK G δ σ → EnvK G (δ.set i none) (σ.set i x)
  | [], [], _, _, _ => trivial
  | _ :: _, _ :: _, 0, _, ⟨_, r⟩ => ⟨fun _ e => (nomatch e), r⟩
  | _ :: _, _ :: _, i + 1, x, ⟨h, r⟩ => ⟨h, EnvK.forget i x r⟩
  | [], _ :: _, _, _, h => h.elim
  | _ :: _, [], _, _, h => h.elim
/-- the same slots, less known -/
def LeE (A : Prop) : Env → Env → Prop
  | [], [] => True
  | o :: δ, u :: ε => (∀ k, u = some k → ∃ k', o = some k' ∧ (A → ∀ v G, k'.p v G → k.p v G)) ∧ LeE A δ ε
  | _, _ => False
theorem LeE.env : ∀ {δ ε : Env} {σ : St}, LeE True δ ε → EnvK G δ σ → EnvK G ε σ
  | [], [], [], _, _ => trivial
  | _ :: _, _ :: _, _ :: _, ⟨l, lr⟩, ⟨h, r⟩ => ⟨fun k e => by
      obtain ⟨k', e', f⟩ := l k e
      obtain ⟨v, h1, h2⟩ := h k' e'
      exact ⟨v, h1, f trivial v G h2⟩, LeE.env lr r⟩
  | [], [], _ :: _, _, h => h.elim
  | _ :: _, _ :: _, [], _, h => h.elim
  | [], _ :: _, _, l, _ => l.elim
  | _ :: _, [], _, l, _ => l.elim
theorem LeE.refl {A : Prop} : ∀ δ : Env, LeE A δ δ
  | [] => trivial
  | o :: δ => ⟨fun k e => ⟨k, e, fun _ _ _ h => h⟩, LeE.refl δ⟩
theorem LeE.keep {A : Prop} {k : Know} {δ ε : Env} (l : LeE A δ ε) : LeE A (some k :: δ) (some k :: ε) := ⟨fun k' e => ⟨k', by rw [e], fun _ _ _ h => h⟩, l⟩
theorem LeE.drop {A : Prop} {o : Option Know} {δ ε : Env} (l : LeE A δ ε) : LeE A (o :: δ) (none :: ε) := ⟨fun _ e => (nomatch e), l⟩
theorem LeE.imp {A : Prop} {k k' : Know} {δ ε : Env} (h : ∀ v G, k.p v G → k'.p v G) (l : LeE A δ ε) : LeE A (some k :: δ) (some k' :: ε) :=
  ⟨fun q e => by
      have e' : k' = q := Option.some.inj e
      subst e'
      exact ⟨k, rfl, fun _ v G z => h v G z⟩, l⟩
theorem LeE.nil {A : Prop} : LeE A [] [] := trivial
def wipeE (δ : Env) : List Nat → Env
  | [] => δ
  | v :: vs => (wipeE δ vs).set v none
theorem EnvK.wipe {δ : Env} {σ : St} (h : EnvK G δ σ) : ∀ vs : List Nat, EnvK G (wipeE δ vs) (L2.wipe σ vs)
  | [] => h
  | v :: vs => (EnvK.wipe h vs).forget v none

inductive MO where
  | lst (ks : List Know)
  | dct (kvs : List (Key × Know))
def MO.ok (G : Hp) : MO → HO → Prop
  | .lst ks, o => ∃ vs, o = .lst vs ∧ AllK G vs ks
  | .dct kvs, o => ∃ vs, o = .dK vs ∧ Paired (fun (p : Key × V) (q : Key × Know) => p.1 = q.1 ∧ q.2.p p.2 G) vs kvs
theorem MO.ok_mono (s : Same G G') : ∀ {m : MO} {o : HO}, m.ok G o → m.ok G' o
  | .lst _, _, ⟨vs, e, h⟩ => ⟨vs, e, h.mono s⟩
  | .dct _, _, ⟨vs, e, h⟩ => ⟨vs, e, Paired.mapP h fun _ q z => ⟨z.1, q.2.mono s z.2⟩⟩
abbrev Mu := List (Addr × MO)
structure OwnK (F : Fx) (G H : Hp) (μ : Mu) : Prop where
  nd : (μ.map (·.1)).Nodup
  has : ∀ a m, (a, m) ∈ μ → G a = none ∧ a ∉ F.P ∧ ∃ o, H a = some o ∧ m.ok G o
structure Stt (F : Fx) (G H : Hp) (δ : Env) (μ : Mu) (σ : St) : Prop where
  sub : Same G H
  j : F.J G H
  env : EnvK G δ σ
  own : OwnK F G H μ
variable {F : Fx} {δ ε : Env} {μ : Mu} {σ : St}
theorem OwnK.step (g : Gr F.P G H G' H') (h : OwnK F G H μ) : OwnK F G' H' μ := by
  refine ⟨h.nd, fun a m hm => ?_⟩
  obtain ⟨h1, h2, o, h3, h4⟩ := h.has a m hm
  exact ⟨g.fr a (nn_of h3) h1, h2, o, g.hh a o h2 h3, MO.ok_mono g.gg h4⟩
theorem Stt.step (h : Stt F G H δ μ σ) (g : Gr F.P G H G' H') (j : F.J G' H') : Stt F G' H' δ μ σ := ⟨g.gh, j, h.env.mono g.gg, h.own.step g⟩
theorem Stt.setS {v : V} {k : Know} (h : Stt F G H δ μ σ) (i : Nat) (q : k.p v G) : Stt F G H (δ.set i (some k)) μ (σ.set i (some v)) := ⟨h.sub, h.j, h.env.set q i, h.own⟩
theorem OwnK.nil : OwnK F G H [] := ⟨List.nodup_nil, fun _ _ h => nomatch h⟩
end
end Dl
end
section
set_option maxRecDepth 100000
set_option maxHeartbeats 1000000
namespace Dl
open PySem L2

/-! ### judgements -/
section
variable (F : Fx)
/-- an expression: its value is known as k -/
def Ek (te : TE) (δ : Env) (μ : Mu) (k : Know) : Prop :=
  ∀ G H σ, Stt F G H δ μ σ → ∀ Q : VK, (∀ v G' H', Gr F.P G H G' H' → F.J G' H' → k.p v G' → Q v H') → te σ H Q
/-- a new object of one's own -/
def EN (te : TE) (δ : Env) (μ : Mu) (m : MO) : Prop :=
  ∀ G H σ, Stt F G H δ μ σ → ∀ Q : VK, (∀ a o G' H', H a = none → G' a = none → a ∉ F.P → H' a = some o → m.ok G' o → Gr F.P G H G' H' → F.J G' H' → Q (.ref a) H') → te σ H Q
def ETk (tt : TT) (δ : Env) (μ : Mu) (P : Bool → Prop) : Prop :=
  ∀ G H σ, Stt F G H δ μ σ → ∀ Q : Bool → Hp → Prop, (∀ b G' H', Gr F.P G H G' H' → F.J G' H' → P b → Q b H') → tt σ H Q
def EAk (ta : TA) (δ : Env) (μ : Mu) (ks : List Know) : Prop :=
  ∀ G H σ, Stt F G H δ μ σ → ∀ Q : List V → Hp → Prop, (∀ vs G' H', Gr F.P G H G' H' → F.J G' H' → AllK G' vs ks → Q vs H') → ta σ H Q
def EOk (to : TO) (δ : Env) (μ : Mu) (o : Option Int) : Prop :=
  ∀ G H σ, Stt F G H δ μ σ → ∀ Q : Option Int → Hp → Prop, (∀ G' H', Gr F.P G H G' H' → F.J G' H' → Q o H') → to σ H Q
/-- by values -/
def Rk (μ : Mu) (r : R2) (k1 k2 k : Know) : Prop :=
  ∀ G H x y, Same G H → F.J G H → OwnK F G H μ → k1.p x G → k2.p y G → ∀ Q : VK, (∀ v G' H', Gr F.P G H G' H' → F.J G' H' → k.p v G' → Q v H') → r x y H Q
def RNk (μ : Mu) (r : R2) (k1 k2 : Know) (m : MO) : Prop :=
  ∀ G H x y, Same G H → F.J G H → OwnK F G H μ → k1.p x G → k2.p y G → ∀ Q : VK, (∀ a o G' H', H a = none → G' a = none → a ∉ F.P → H' a = some o → m.ok G' o → Gr F.P G H G' H' → F.J G' H' → Q (.ref a) H') → r x y H Q
def CRk (μ : Mu) (r : List V → Hp → VK → Prop) (ks : List Know) (k : Know) : Prop :=
  ∀ G H vs, Same G H → F.J G H → OwnK F G H μ → AllK G vs ks → ∀ Q : VK, (∀ v G' H', Gr F.P G H G' H' → F.J G' H' → k.p v G' → Q v H') → r vs H Q
def CNk (μ : Mu) (r : List V → Hp → VK → Prop) (ks : List Know) (m : MO) : Prop :=
  ∀ G H vs, Same G H → F.J G H → OwnK F G H μ → AllK G vs ks → ∀ Q : VK, (∀ a o G' H', H a = none → G' a = none → a ∉ F.P → H' a = some o → m.ok G' o → Gr F.P G H G' H' → F.J G' H' → Q (.ref a) H') → r vs H Q
/-- a list that may be read: it never changes, or it is one's own -/
def Rd (μ : Mu) (k : Know) (ks : List Know) : Prop := ∀ G H v, Same G H → OwnK F G H μ → k.p v G → ∃ a vs, v = .ref a ∧ H a = some (.lst vs) ∧ AllK G vs ks
end
section
variable {F : Fx} {δ : Env} {μ : Mu} {K : PySem.W.Frag} {ta tb te : TE} {k k1 k2 k' : Know} {r : R2} {m : MO}

theorem rd_list {ks : List Know} : Rd F μ (listK ks) ks := fun G H v s _ ⟨a, vs, e, h, r⟩ => ⟨a, vs, e, s _ _ h, r⟩
theorem rd_own {a : Addr} {ks : List Know} (h : (a, MO.lst ks) ∈ μ) : Rd F μ (valK (.ref a)) ks := fun G H v s o e => by
  obtain ⟨_, _, u, h1, vs, h2, h3⟩ := o.has a _ h
  subst h2
  exact ⟨a, vs, e, h1, h3⟩

theorem ek_weak (h : Ek F te δ μ k) (w : ∀ v G, k.p v G → k'.p v G) : Ek F te δ μ k' := fun G H σ st Q q => h G H σ st Q fun v G' H' g j p => q v G' H' g j (w v G' p)
theorem ek_eq (h : Ek F te δ μ k) (e : k = k') : Ek F te δ μ k' := e ▸ h
/-- what is new is not changed any more -/
theorem en_ek {ks : List Know} (h : EN F te δ μ (.lst ks)) : Ek F te δ μ (listK ks) := fun G H σ st Q q =>
  h G H σ st Q fun a o G' H' h1 h2 hp h3 h4 g j => by
    obtain ⟨vs, e, r⟩ := h4
    subst e
    have s1 : Same G' (upd G' a (.lst vs)) := same_new h2
    refine q (.ref a) (upd G' a (.lst vs)) H' (g.freeze h1 st.sub h3 h2) (F.st _ _ _ _ s1 (fun b hb => ⟨rfl, fun z => ?_⟩) j) ⟨a, vs, rfl, upd_same, r.mono s1⟩
    rw [upd_ne (fun e => hp (by rw [← e]; exact hb))]; exact z
theorem ek_var {i : Nat} (h : δ[i]? = some (some k)) : Ek F (tVar i) δ μ k := fun G H σ st Q q => by
  obtain ⟨v, e, p⟩ := st.env.get h
  exact ⟨v, e, q v G H (.refl st.sub) st.j p⟩
theorem ek_c {v : V} : Ek F (tC v) δ μ (valK v) := fun G H σ st Q q => q v G H (.refl st.sub) st.j rfl
theorem ek_op (ha : Ek F ta δ μ k1) (hb : Ek F tb δ μ k2) (hr : Rk F μ r k1 k2 k) : Ek F (tOp r ta tb) δ μ k := fun G H σ st Q q =>
  ha G H σ st _ fun x G1 H1 g1 j1 p1 => hb G1 H1 σ (st.step g1 j1) _ fun y G2 H2 g2 j2 p2 =>
    hr G2 H2 x y g2.gh j2 ((st.step g1 j1).own.step g2) (k1.mono g2.gg p1) p2 Q fun v G3 H3 g3 j3 p3 => q v G3 H3 ((g1.trans g2).trans g3) j3 p3
theorem en_op (ha : Ek F ta δ μ k1) (hb : Ek F tb δ μ k2) (hr : RNk F μ r k1 k2 m) : EN F (tOp r ta tb) δ μ m := fun G H σ st Q q =>
  ha G H σ st _ fun x G1 H1 g1 j1 p1 => hb G1 H1 σ (st.step g1 j1) _ fun y G2 H2 g2 j2 p2 =>
    hr G2 H2 x y g2.gh j2 ((st.step g1 j1).own.step g2) (k1.mono g2.gg p1) p2 Q fun a o G3 H3 h1 h2 hp h3 h4 g3 j3 =>
      q a o G3 H3 (by
        cases e : H a with
        | none => rfl
        | some u => exact absurd h1 (g2.al a (g1.al a (by rw [e]; exact fun z => nomatch z)))) h2 hp h3 h4 ((g1.trans g2).trans g3) j3
theorem ek_un {r : V → Hp → VK → Prop} (ha : Ek F ta δ μ k1) (hr : ∀ G H x, Same G H → k1.p x G → ∀ Q : VK, (∀ v, k.p v G → Q v H) → r x H Q) : Ek F (tUn r ta) δ μ k := fun G H σ st Q q =>
  ha G H σ st _ fun x G1 H1 g1 j1 p1 => hr G1 H1 x g1.gh p1 Q fun v p => q v G1 H1 g1 j1 p

/-! ### one of several -/
theorem rk_exl {α : Type} {S T : α → Know} (h : ∀ x, Rk F μ r (S x) k2 (T x)) : Rk F μ r (exK S) k2 (exK T) := fun G H x y s j o ⟨z, hz⟩ p2 Q q =>
  h z G H x y s j o hz p2 Q fun v G' H' g j p => q v G' H' g j ⟨z, p⟩
theorem rk_exr {α : Type} {S T : α → Know} (h : ∀ x, Rk F μ r k1 (S x) (T x)) : Rk F μ r k1 (exK S) (exK T) := fun G H x y s j o p1 ⟨z, hz⟩ Q q =>
  h z G H x y s j o p1 hz Q fun v G' H' g j p => q v G' H' g j ⟨z, p⟩

/-! ### ints -/
theorem rk_I0 {g : Int → Int → V} {i j : Int} : Rk F μ (rI0 g) (valK (.int i)) (valK (.int j)) (valK (g i j)) := fun G H x y s jj o p1 p2 Q q => by
  have e1 : x = .int i := p1
  have e2 : y = .int j := p2
  subst e1 e2
  exact ⟨i, j, rfl, rfl, q _ G H (.refl s) jj rfl⟩
theorem rk_I {C : Int → Int → Prop} {g : Int → Int → V} {i j : Int} (hc : C i j) : Rk F μ (rI C g) (valK (.int i)) (valK (.int j)) (valK (g i j)) := fun G H x y s jj o p1 p2 Q q => by
  have e1 : x = .int i := p1
  have e2 : y = .int j := p2
  subst e1 e2
  exact ⟨i, j, rfl, rfl, hc, q _ G H (.refl s) jj rfl⟩
theorem rk_eq {u w : V} (h : scal u w = true) : Rk F μ rEq (valK u) (valK w) (valK (.bl (decide (u = w)))) := fun G H x y s jj o p1 p2 Q q => by
  have e1 : x = u := p1
  have e2 : y = w := p2
  subst e1 e2
  exact ⟨h, q _ G H (.refl s) jj rfl⟩
theorem rk_ne {u w : V} (h : scal u w = true) : Rk F μ rNe (valK u) (valK w) (valK (.bl (!decide (u = w)))) := fun G H x y s jj o p1 p2 Q q => by
  have e1 : x = u := p1
  have e2 : y = w := p2
  subst e1 e2
  exact ⟨h, q _ G H (.refl s) jj rfl⟩
/-- == of data -/
theorem rk_eqD {d e : PyData} (h1 : IsD K k1 d) (h2 : IsD K k2 e) (s1 : SeqAt.shaped d = true) (s2 : SeqAt.shaped e = true) : Rk F μ (rEqD K) k1 k2 (valK (.bl (PyData.eqv d e))) := fun G H x y s jj o p1 p2 Q q =>
  ⟨d, e, dp_mono s (h1 x G p1), dp_mono s (h2 y G p2), s1, s2, q _ G H (.refl s) jj rfl⟩
theorem rk_neD {d e : PyData} (h1 : IsD K k1 d) (h2 : IsD K k2 e) (s1 : SeqAt.shaped d = true) (s2 : SeqAt.shaped e = true) : Rk F μ (rNeD K) k1 k2 (valK (.bl (!PyData.eqv d e))) := fun G H x y s jj o p1 p2 Q q =>
  ⟨d, e, dp_mono s (h1 x G p1), dp_mono s (h2 y G p2), s1, s2, q _ G H (.refl s) jj rfl⟩

/-! ### subscripts -/
theorem seq_of_rd {G H : Hp} {a : Addr} {vs : List V} (h : H a = some (.lst vs)) : SqL K H a vs := .inl (.inl h)
theorem atI_get {xs : List V} {i : Int} {j : Nat} {v : V} (hi : ixN xs.length i = some j) (h : xs[j]? = some v) : atI xs i = some v := by
  unfold atI
  rw [hi]
  exact h
theorem rk_ixL {ks : List Know} {i : Int} {j : Nat} (hr : Rd F μ k1 ks) (hi : ixN ks.length i = some j) (hk : ks[j]? = some k) : Rk F μ (rIxL K) k1 (valK (.int i)) k := fun G H x y s jj o p1 p2 Q q => by
  obtain ⟨a, vs, rfl, h, rr⟩ := hr G H x s o p1
  have e2 : y = .int i := p2
  subst e2
  obtain ⟨v, hv, p⟩ := rr.get hk
  exact ⟨a, vs, i, v, rfl, rfl, .inl (.inl h), atI_get (by rw [rr.length]; exact hi) hv, q v G H (.refl s) jj p⟩
theorem rk_ixT {ks : List Know} {i : Int} {j : Nat} (hi : ixN ks.length i = some j) (hk : ks[j]? = some k) : Rk F μ (rIxT K) (tupK K ks) (valK (.int i)) k := fun G H x y s jj o p1 p2 Q q => by
  obtain ⟨a, vs, rfl, h, rr⟩ := p1
  have e2 : y = .int i := p2
  subst e2
  obtain ⟨v, hv, p⟩ := rr.get hk
  exact ⟨a, vs, i, v, rfl, rfl, seqT_mono s h, atI_get (by rw [rr.length]; exact hi) hv, q v G H (.refl s) jj p⟩
theorem rk_ixS {z : Str} {i : Int} {c : Nat} (hz : z.length ≤ sizeLine) (hc : atI z.cps.toList i = some c) : Rk F μ rIxS (valK (.str z)) (valK (.int i)) (valK (.str ⟨#[c]⟩)) := fun G H x y s jj o p1 p2 Q q => by
  have e1 : x = .str z := p1
  have e2 : y = .int i := p2
  subst e1 e2
  exact ⟨z, i, c, rfl, rfl, hz, hc, q _ G H (.refl s) jj rfl⟩
theorem ixN_nat {n j : Nat} (h : j < n) : ixN n (j : Int) = some j := by
  unfold ixN
  rw [if_pos (Int.natCast_nonneg j), if_pos (by omega)]
  rfl
theorem ixN_last {n : Nat} (h : 0 < n) : ixN n (-1) = some (n - 1) := by
  unfold ixN
  rw [if_neg (by omega), if_pos (by omega)]
  congr 1
  omega
theorem ixN_int {n : Nat} {i : Int} (h0 : 0 ≤ i) (h : i < n) : ixN n i = some i.toNat := by
  unfold ixN
  rw [if_pos h0, if_pos h]

/-! ### displays, slices, + and * of lists -/
theorem ea_nil : EAk F tNil δ μ [] := fun G H σ st Q q => q [] G H (.refl st.sub) st.j .nil
theorem ea_cons {t : TA} {ks : List Know} (h : Ek F te δ μ k) (hr : EAk F t δ μ ks) : EAk F (tCons te t) δ μ (k :: ks) := fun G H σ st Q q =>
  h G H σ st _ fun x G1 H1 g1 j1 p1 => hr G1 H1 σ (st.step g1 j1) _ fun vs G2 H2 g2 j2 p2 => q _ G2 H2 (g1.trans g2) j2 (.cons (k.mono g2.gg p1) p2)
theorem back_none {M : List Addr} {G H G1 H1 : Hp} {a : Addr} (g : Gr M G H G1 H1) (h : H1 a = none) : H a = none := by
  cases e : H a with
  | none => rfl
  | some u => exact absurd h (g.al a (by rw [e]; exact fun z => nomatch z))
theorem en_lst {t : TA} {ks : List Know} (h : EAk F t δ μ ks) (hl : ks.length ≤ sizeLine) : EN F (tLst t) δ μ (.lst ks) := fun G H σ st Q q =>
  h G H σ st _ fun vs G1 H1 g1 j1 p1 => ⟨by rw [p1.length]; exact hl, fun a ha => q a _ G1 _ (back_none g1 ha) (none_sub g1.gh ha) (F.offP j1 ha) upd_same ⟨vs, rfl, p1⟩ (g1.trans (Gr.own g1.gh ha)) (F.loc (F.offP j1 ha) j1)⟩
theorem ek_tup {t : TA} {ks : List Know} (h : EAk F t δ μ ks) (hl : ks.length ≤ sizeLine) : Ek F (tTup t) δ μ (tupK K ks) := fun G H σ st Q q =>
  h G H σ st _ fun vs G1 H1 g1 j1 p1 => ⟨by rw [p1.length]; exact hl, fun a ha => q (.ref a) (upd G1 a (.tup vs)) _ (g1.trans (Gr.new g1.gh ha)) (F.new g1.gh ha j1) ⟨a, vs, rfl, .inl (.inl upd_same), p1.mono (same_new (none_sub g1.gh ha))⟩⟩
def cutK (ks : List Know) (lo hi : Option Int) : List Know := (ks.drop (HT.sIx ks.length 0 lo)).take (HT.sIx ks.length ks.length hi - HT.sIx ks.length 0 lo)
theorem eo_none : EOk F tNoPart δ μ none := fun G H σ st Q q => q G H (.refl st.sub) st.j
theorem eo_some {i : Int} (h : Ek F te δ μ (valK (.int i))) : EOk F (tPart te) δ μ (some i) := fun G H σ st Q q =>
  h G H σ st _ fun x G1 H1 g1 j1 p1 => ⟨i, p1, q G1 H1 g1 j1⟩
theorem en_new1 {G H G1 H1 : Hp} {Q : VK} {vs : List V} {ks : List Know} (g1 : Gr F.P G H G1 H1) (j1 : F.J G1 H1) (r : AllK G1 vs ks)
    (q : ∀ a o G' H', H a = none → G' a = none → a ∉ F.P → H' a = some o → (MO.lst ks).ok G' o → Gr F.P G H G' H' → F.J G' H' → Q (.ref a) H') : ∀ a, H1 a = none → Q (.ref a) (upd H1 a (.lst vs)) := fun a ha =>
  q a _ G1 _ (back_none g1 ha) (none_sub g1.gh ha) (F.offP j1 ha) upd_same ⟨vs, rfl, r⟩ (g1.trans (Gr.own g1.gh ha)) (F.loc (F.offP j1 ha) j1)
theorem en_slL {tl th : TO} {ks : List Know} {lo hi : Option Int} (hr : Rd F μ k1 ks) (h : Ek F te δ μ k1) (hl : EOk F tl δ μ lo) (hh : EOk F th δ μ hi) : EN F (tSl (rSlL K) te tl th) δ μ (.lst (cutK ks lo hi)) := fun G H σ st Q q =>
  h G H σ st _ fun x G1 H1 g1 j1 p1 => hl G1 H1 σ (st.step g1 j1) _ fun G2 H2 g2 j2 => hh G2 H2 σ ((st.step g1 j1).step g2 j2) _ fun G3 H3 g3 j3 => by
    obtain ⟨a, vs, rfl, ha, rr⟩ := hr G3 H3 x g3.gh (((st.step g1 j1).step g2 j2).own.step g3) (k1.mono (g2.gg.trans g3.gg) p1)
    exact ⟨a, vs, rfl, .inl (.inl ha), en_new1 ((g1.trans g2).trans g3) j3 (rr.cut lo hi) q⟩
/-- of the script -/
theorem en_slQ {tl th : TO} {ks : List Know} {lo hi : Option Int} (h : Ek F te δ μ (seqK K ks)) (hl : EOk F tl δ μ lo) (hh : EOk F th δ μ hi) : EN F (tSl (rSlL K) te tl th) δ μ (.lst (cutK ks lo hi)) := fun G H σ st Q q =>
  h G H σ st _ fun x G1 H1 g1 j1 p1 => hl G1 H1 σ (st.step g1 j1) _ fun G2 H2 g2 j2 => hh G2 H2 σ ((st.step g1 j1).step g2 j2) _ fun G3 H3 g3 j3 => by
    obtain ⟨a, vs, rfl, ha, rr⟩ := (seqK K ks).mono (g2.gg.trans g3.gg) p1
    exact ⟨a, vs, rfl, g3.gh.seq ha, en_new1 ((g1.trans g2).trans g3) j3 (rr.cut lo hi) q⟩
theorem rn_cat {ks ls : List Know} (h1 : Rd F μ k1 ks) (h2 : Rd F μ k2 ls) (hl : ks.length + ls.length ≤ sizeLine) : RNk F μ rCat k1 k2 (.lst (ks ++ ls)) := fun G H x y s j o p1 p2 Q q => by
  obtain ⟨a, vs, rfl, ha, r1⟩ := h1 G H x s o p1
  obtain ⟨b, ws, rfl, hb, r2⟩ := h2 G H y s o p2
  exact ⟨a, b, vs, ws, rfl, rfl, ha, hb, by rw [r1.length, r2.length]; exact hl, en_new1 (.refl s) j (r1.app r2) q⟩
theorem allK_rep {G : Hp} {vs : List V} {ks : List Know} (h : AllK G vs ks) : ∀ n, AllK G (List.replicate n vs).flatten (List.replicate n ks).flatten
  | 0 => .nil
  | n + 1 => by
    rw [List.replicate_succ, List.replicate_succ, List.flatten_cons, List.flatten_cons]
    exact h.app (allK_rep h n)
theorem rn_rep {ks : List Know} {n : Int} (h1 : Rd F μ k1 ks) (hn : n < 16777216) (hl : ks.length * n.toNat ≤ sizeLine) (h0 : 0 ≤ n) : RNk F μ rRep k1 (valK (.int n)) (.lst (List.replicate n.toNat ks).flatten) := fun G H x y s j o p1 p2 Q q => by
  obtain ⟨a, vs, rfl, ha, r1⟩ := h1 G H x s o p1
  have e2 : y = .int n := p2
  subst e2
  exact ⟨a, n, vs, rfl, rfl, ha, by omega, by omega, by rw [r1.length]; exact hl, en_new1 (.refl s) j (allK_rep r1 _) q⟩

/-! ### texts -/
theorem rk_addS {a b : Str} {g : R2} (hg : g = fun x y H Q => ∃ i j, x = .str i ∧ y = .str j ∧ i.length + j.length ≤ sizeLine ∧ Q (.str (i ++ j)) H) (h : a.length + b.length ≤ sizeLine) : Rk F μ g (valK (.str a)) (valK (.str b)) (valK (.str (a ++ b))) := fun G H x y s jj o p1 p2 Q q => by
  have e1 : x = .str a := p1
  have e2 : y = .str b := p2
  subst e1 e2 hg
  exact ⟨a, b, rfl, rfl, h, q _ G H (.refl s) jj rfl⟩

/-! ### built-in calls -/
theorem ek_cb {rr : List V → Hp → VK → Prop} {t : TA} {ks : List Know} (h : EAk F t δ μ ks) (hr : CRk F μ rr ks k) : Ek F (tCB rr t) δ μ k := fun G H σ st Q q =>
  h G H σ st _ fun vs G1 H1 g1 j1 p1 => hr G1 H1 vs g1.gh j1 ((st.step g1 j1).own) p1 Q fun v G2 H2 g2 j2 p2 => q v G2 H2 (g1.trans g2) j2 p2
theorem en_cb {rr : List V → Hp → VK → Prop} {t : TA} {ks : List Know} (h : EAk F t δ μ ks) (hr : CNk F μ rr ks m) : EN F (tCB rr t) δ μ m := fun G H σ st Q q =>
  h G H σ st _ fun vs G1 H1 g1 j1 p1 => hr G1 H1 vs g1.gh j1 ((st.step g1 j1).own) p1 Q fun a o G2 H2 h1 h2 hp h3 h4 g2 j2 => q a o G2 H2 (back_none g1 h1) h2 hp h3 h4 (g1.trans g2) j2
theorem allK1 {G : Hp} {vs : List V} (h : AllK G vs [k]) : ∃ v, vs = [v] ∧ k.p v G := by
  cases h with
  | cons a b => cases b; exact ⟨_, rfl, a⟩
theorem allK2 {G : Hp} {vs : List V} (h : AllK G vs [k1, k2]) : ∃ v u, vs = [v, u] ∧ k1.p v G ∧ k2.p u G := by
  cases h with
  | cons a b => cases b with
    | cons b c => cases c; exact ⟨_, _, rfl, a, b⟩
def rAbs : List V → Hp → VK → Prop := fun xs H Q => ∃ i, xs = [.int i] ∧ Q (.int (if i < 0 then -i else i)) H
def rInt : List V → Hp → VK → Prop := fun xs H Q => (∃ i, xs = [.int i] ∧ Q (.int i) H) ∨ ∃ b, xs = [.bl b] ∧ Q (.int (if b then 1 else 0)) H
def rStrI : List V → Hp → VK → Prop := fun xs H Q => ∃ i, xs = [.int i] ∧ i.natAbs.log2 < 1920 ∧ Q (.str (toString i)) H
def rLenQ (K : PySem.W.Frag) : List V → Hp → VK → Prop := fun xs H Q => ∃ p ys, xs = [.ref p] ∧ (SqL K H p ys ∨ SqT K H p ys) ∧ Q (.int ys.length) H
def rLenS : List V → Hp → VK → Prop := fun xs H Q => ∃ z, xs = [.str z] ∧ z.length ≤ sizeLine ∧ Q (.int z.length) H
def rListQ (K : PySem.W.Frag) : List V → Hp → VK → Prop := fun xs H Q => ∃ p ys, xs = [.ref p] ∧ (SqL K H p ys ∨ SqT K H p ys) ∧ ∀ l, H l = none → Q (.ref l) (upd H l (.lst ys))
def rTupQ (K : PySem.W.Frag) : List V → Hp → VK → Prop := fun xs H Q => ∃ p ys, xs = [.ref p] ∧ ((SqL K H p ys ∧ ∀ l, H l = none → Q (.ref l) (upd H l (.tup ys))) ∨ (SqT K H p ys ∧ Q (.ref p) H))
section
variable {X : Cx}
theorem cx_abs : CallR X (.builtin "abs") rAbs := call_abs
theorem cx_int : CallR X (.type "int") rInt := call_int1
theorem cx_strI : CallR X (.type "str") rStrI := call_str_int
theorem cx_len : CallR X (.builtin "len") (rLenQ X.K) := call_len_seq
theorem cx_lenS : CallR X (.builtin "len") rLenS := call_len_str
theorem cx_list : CallR X (.type "list") (rListQ X.K) := call_list_of
theorem cx_tup : CallR X (.type "tuple") (rTupQ X.K) := call_tuple_of
end
theorem cr_abs1 {i : Int} : CRk F μ rAbs [valK (.int i)] (valK (.int (if i < 0 then -i else i))) := fun G H vs s j o p Q q => by
  obtain ⟨v, rfl, e⟩ := allK1 p
  have e : v = .int i := e
  subst e
  exact ⟨i, rfl, q _ G H (.refl s) j rfl⟩
theorem cr_int1 {i : Int} : CRk F μ rInt [valK (.int i)] (valK (.int i)) := fun G H vs s j o p Q q => by
  obtain ⟨v, rfl, e⟩ := allK1 p
  have e : v = .int i := e
  subst e
  exact .inl ⟨i, rfl, q _ G H (.refl s) j rfl⟩
theorem cr_strI {i : Int} (h : i.natAbs.log2 < 1920) : CRk F μ rStrI [valK (.int i)] (valK (.str (toString i))) := fun G H vs s j o p Q q => by
  obtain ⟨v, rfl, e⟩ := allK1 p
  have e : v = .int i := e
  subst e
  exact ⟨i, rfl, h, q _ G H (.refl s) j rfl⟩
theorem cr_len {ks : List Know} (hr : Rd F μ k1 ks) : CRk F μ (rLenQ K) [k1] (valK (.int (ks.length : Int))) := fun G H vs s j o p Q q => by
  obtain ⟨v, rfl, p'⟩ := allK1 p
  obtain ⟨a, ws, rfl, ha, rr⟩ := hr G H v s o p'
  exact ⟨a, ws, rfl, .inl (.inl (.inl ha)), q _ G H (.refl s) j (by rw [rr.length]; rfl)⟩
theorem cr_lenT {ks : List Know} : CRk F μ (rLenQ K) [tupK K ks] (valK (.int (ks.length : Int))) := fun G H vs s j o p Q q => by
  obtain ⟨v, rfl, p'⟩ := allK1 p
  obtain ⟨a, ws, rfl, ha, rr⟩ := p'
  exact ⟨a, ws, rfl, .inr (seqT_mono s ha), q _ G H (.refl s) j (by rw [rr.length]; rfl)⟩
theorem cr_lenS {z : Str} (h : z.length ≤ sizeLine) : CRk F μ rLenS [valK (.str z)] (valK (.int (z.length : Int))) := fun G H vs s j o p Q q => by
  obtain ⟨v, rfl, e⟩ := allK1 p
  have e : v = .str z := e
  subst e
  exact ⟨z, rfl, h, q _ G H (.refl s) j rfl⟩
theorem cn_list {ks : List Know} (hr : Rd F μ k1 ks) : CNk F μ (rListQ K) [k1] (.lst ks) := fun G H vs s j o p Q q => by
  obtain ⟨v, rfl, p'⟩ := allK1 p
  obtain ⟨a, ws, rfl, ha, rr⟩ := hr G H v s o p'
  exact ⟨a, ws, rfl, .inl (.inl (.inl ha)), en_new1 (.refl s) j rr q⟩
theorem cn_listT {ks : List Know} : CNk F μ (rListQ K) [tupK K ks] (.lst ks) := fun G H vs s j o p Q q => by
  obtain ⟨v, rfl, p'⟩ := allK1 p
  obtain ⟨a, ws, rfl, ha, rr⟩ := p'
  exact ⟨a, ws, rfl, .inr (seqT_mono s ha), en_new1 (.refl s) j rr q⟩
theorem cr_tup {ks : List Know} (hr : Rd F μ k1 ks) : CRk F μ (rTupQ K) [k1] (tupK K ks) := fun G H vs s j o p Q q => by
  obtain ⟨v, rfl, p'⟩ := allK1 p
  obtain ⟨a, ws, rfl, ha, rr⟩ := hr G H v s o p'
  exact ⟨a, ws, rfl, .inl ⟨.inl (.inl ha), fun l hl => q _ (upd G l (.tup ws)) _ (Gr.new s hl) (F.new s hl j) ⟨l, ws, rfl, .inl (.inl upd_same), rr.mono (same_new (none_sub s hl))⟩⟩⟩

/-! ### tests -/
variable {t u : TT} {P P' : Bool → Prop}
theorem et_weak (h : ETk F t δ μ P) (w : ∀ b, P b → P' b) : ETk F t δ μ P' := fun G H σ st Q q => h G H σ st Q fun b G' H' g j p => q b G' H' g j (w b p)
theorem et_test {b : Bool} (h : Ek F te δ μ (valK (.bl b))) : ETk F (tTest te) δ μ (· = b) := fun G H σ st Q q =>
  h G H σ st _ fun v G' H' g j p => ⟨b, p, q b G' H' g j rfl⟩
theorem et_testx {α : Type} {S : α → Know} {P : Bool → Prop} (h : Ek F te δ μ (exK S)) (hs : ∀ x v G, (S x).p v G → ∃ b, v = .bl b ∧ P b) : ETk F (tTest te) δ μ P := fun G H σ st Q q =>
  h G H σ st _ fun v G' H' g j ⟨x, p⟩ => by
    obtain ⟨b, e, hb⟩ := hs x v G' p
    exact ⟨b, e, q b G' H' g j hb⟩
theorem et_B {b : Bool} (h : Ek F te δ μ (valK (.bl b))) : ETk F (tB te) δ μ (· = b) := fun G H σ st Q q =>
  h G H σ st _ fun v G' H' g j p => ⟨b, p, q b G' H' g j rfl⟩
theorem et_not {b : Bool} (h : ETk F t δ μ (· = b)) : ETk F (tNot t) δ μ (· = !b) := fun G H σ st Q q =>
  h G H σ st _ fun c G' H' g j p => q _ G' H' g j (by rw [p])
theorem et_and {a b : Bool} (h1 : ETk F t δ μ (· = a)) (h2 : a = true → ETk F u δ μ (· = b)) : ETk F (tAnd t u) δ μ (· = (a && b)) := fun G H σ st Q q =>
  h1 G H σ st _ fun c G1 H1 g1 j1 p1 => by
    subst p1
    cases c with
    | true => exact h2 rfl G1 H1 σ (st.step g1 j1) Q fun d G2 H2 g2 j2 p2 => q d G2 H2 (g1.trans g2) j2 (by rw [p2]; rfl)
    | false => exact q false G1 H1 g1 j1 rfl
theorem et_or {a b : Bool} (h1 : ETk F t δ μ (· = a)) (h2 : a = false → ETk F u δ μ (· = b)) : ETk F (tOr t u) δ μ (· = (a || b)) := fun G H σ st Q q =>
  h1 G H σ st _ fun c G1 H1 g1 j1 p1 => by
    subst p1
    cases c with
    | false => exact h2 rfl G1 H1 σ (st.step g1 j1) Q fun d G2 H2 g2 j2 p2 => q d G2 H2 (g1.trans g2) j2 (by rw [p2]; rfl)
    | true => exact q true G1 H1 g1 j1 rfl
/-- of unknown outcome -/
theorem et_and' {P1 P2 : Bool → Prop} (h1 : ETk F t δ μ P1) (h2 : P1 true → ETk F u δ μ P2) : ETk F (tAnd t u) δ μ (fun b => (b = true → P1 true ∧ P2 true) ∧ (b = false → P1 false ∨ (P1 true ∧ P2 false))) := fun G H σ st Q q =>
  h1 G H σ st _ fun c G1 H1 g1 j1 p1 => by
    cases c with
    | true => exact h2 p1 G1 H1 σ (st.step g1 j1) Q fun d G2 H2 g2 j2 p2 => q d G2 H2 (g1.trans g2) j2 ⟨fun e => ⟨p1, by rw [← e]; exact p2⟩, fun e => .inr ⟨p1, by rw [← e]; exact p2⟩⟩
    | false => exact q false G1 H1 g1 j1 ⟨fun e => (nomatch e), fun _ => .inl p1⟩
theorem ek_andV {a b : Bool} (h1 : Ek F ta δ μ (valK (.bl a))) (h2 : a = true → Ek F tb δ μ (valK (.bl b))) : Ek F (tAndV ta tb) δ μ (valK (.bl (a && b))) := fun G H σ st Q q =>
  h1 G H σ st _ fun c G1 H1 g1 j1 p1 => by
    have p1 : c = .bl a := p1
    subst p1
    refine ⟨a, rfl, ?_⟩
    cases a with
    | true => exact h2 rfl G1 H1 σ (st.step g1 j1) Q fun d G2 H2 g2 j2 p2 => q d G2 H2 (g1.trans g2) j2 p2
    | false => exact q _ G1 H1 g1 j1 rfl
end
end Dl
end
section
set_option maxRecDepth 100000
set_option maxHeartbeats 1000000
namespace Dl
open PySem L2

/-! ### statements: from a base -/
structure Bs where
  M : List Addr
  G0 : Hp
  H0 : Hp
def Bs.mine (B : Bs) (a : Addr) : Prop := a ∈ B.M ∨ B.H0 a = none
structure AtG (F : Fx) (B : Bs) (δ : Env) (μ : Mu) (σ : St) (G H : Hp) : Prop where
  s0 : Same B.G0 B.H0
  gr : Gr B.M B.G0 B.H0 G H
  st : Stt F G H δ μ σ
  fp : ∀ a ∈ F.P, B.mine a
  ow : ∀ a m, (a, m) ∈ μ → B.mine a
def At (F : Fx) (B : Bs) (δ : Env) (μ : Mu) (σ : St) (H : Hp) : Prop := ∃ G, AtG F B δ μ σ G H
def To (F : Fx) (B : Bs) (δ : Env) (μ : Mu) (n : St → Hp → Prop) : Prop := ∀ σ H, At F B δ μ σ H → n σ H
abbrev Tr (F : Fx) (B : Bs) (δ : Env) (μ : Mu) (t : TS) (D : Ends) : Prop := To F B δ μ (t D)
/-- what is wanted at a return -/
def Rt (F : Fx) (B : Bs) (post : V → Hp → Hp → Prop) (rt : VK) : Prop := ∀ v G H, Gr B.M B.G0 B.H0 G H → F.J G H → post v G H → rt v H
/-- a later base -/
structure BLe (B B' : Bs) : Prop where
  gr : ∀ G H, Gr B'.M B'.G0 B'.H0 G H → Gr B.M B.G0 B.H0 G H
  mn : ∀ a, B'.mine a → B.mine a
  s0 : Same B.G0 B.H0
theorem BLe.refl {B : Bs} (h : Same B.G0 B.H0) : BLe B B := ⟨fun _ _ g => g, fun _ h => h, h⟩
theorem BLe.trans {B B' B'' : Bs} (a : BLe B B') (b : BLe B' B'') : BLe B B'' := ⟨fun G H g => a.gr G H (b.gr G H g), fun x h => a.mn x (b.mn x h), a.s0⟩
section
variable {F : Fx} {B B' : Bs} {δ δ' ε : Env} {μ μ' : Mu} {σ : St} {G H : Hp} {k : Know} {m : MO} {D : Ends} {te : TE} {n : St → Hp → Prop} {post : V → Hp → Hp → Prop} {rt : VK}
theorem AtG.up (l : BLe B B') (h : AtG F B' δ μ σ G H) : AtG F B δ μ σ G H := ⟨l.s0, l.gr _ _ h.gr, h.st, fun a ha => l.mn a (h.fp a ha), fun a m hm => l.mn a (h.ow a m hm)⟩
theorem At.up (l : BLe B B') (h : At F B' δ μ σ H) : At F B δ μ σ H := let ⟨G, q⟩ := h; ⟨G, q.up l⟩
theorem Rt.up (l : BLe B B') (h : Rt F B post rt) : Rt F B' post rt := fun v G H g j p => h v G H (l.gr G H g) j p
theorem To.up (l : BLe B B') (h : To F B δ μ n) : To F B' δ μ n := fun σ H q => h σ H (q.up l)
theorem AtG.step {G' H' : Hp} (h : AtG F B δ μ σ G H) (g : Gr F.P G H G' H') (j : F.J G' H') : AtG F B δ μ σ G' H' :=
  ⟨h.s0, h.gr.trans' g h.fp, h.st.step g j, h.fp, h.ow⟩
theorem AtG.setS {v : V} (h : AtG F B δ μ σ G H) (i : Nat) (q : k.p v G) : AtG F B (δ.set i (some k)) μ (σ.set i (some v)) G H := ⟨h.s0, h.gr, h.st.setS i q, h.fp, h.ow⟩
/-- less known -/
theorem AtG.weak (h : AtG F B δ μ σ G H) (l : LeE True δ ε) : AtG F B ε μ σ G H := ⟨h.s0, h.gr, ⟨h.st.sub, h.st.j, l.env h.st.env, h.st.own⟩, h.fp, h.ow⟩
theorem to_weak (l : LeE True δ ε) (h : To F B ε μ n) : To F B δ μ n := fun σ H ⟨G, q⟩ => h σ H ⟨G, q.weak l⟩
theorem AtG.drop (h : AtG F B δ μ σ G H) (hs : List.Sublist μ' μ) : AtG F B δ μ' σ G H := ⟨h.s0, h.gr, ⟨h.st.sub, h.st.j, h.st.env, ⟨h.st.own.nd.sublist (hs.map _), fun a m hm => h.st.own.has a m (hs.subset hm)⟩⟩, h.fp, fun a m hm => h.ow a m (hs.subset hm)⟩
theorem to_drop (hs : List.Sublist μ' μ) (h : To F B δ μ' n) : To F B δ μ n := fun σ H ⟨G, q⟩ => h σ H ⟨G, q.drop hs⟩

theorem tr_seq {t u : TS} (h : Tr F B δ μ t { D with nx := u D }) : Tr F B δ μ (tSeq t u) D := h
theorem s_asg {i : Nat} (h : Ek F te δ μ k) (q : To F B (δ.set i (some k)) μ D.nx) : Tr F B δ μ (tAsg te (gName i)) D := fun σ H ⟨G, a⟩ =>
  h G H σ a.st _ fun v G' H' g j p => q _ _ ⟨G', (a.step g j).setS i p⟩
theorem q_asg {i : Nat} {u : TS} (h : Ek F te δ μ k) (q : Tr F B (δ.set i (some k)) μ u D) : Tr F B δ μ (tSeq (tAsg te (gName i)) u) D := s_asg (D := { D with nx := u D }) h q
theorem s_asgx {i : Nat} {α : Type} {S : α → Know} (h : Ek F te δ μ (exK S)) (q : ∀ x, To F B (δ.set i (some (S x))) μ D.nx) : Tr F B δ μ (tAsg te (gName i)) D := fun σ H ⟨G, a⟩ =>
  h G H σ a.st _ fun v G' H' g j ⟨x, p⟩ => q x _ _ ⟨G', (a.step g j).setS i p⟩
theorem q_asgx {i : Nat} {α : Type} {S : α → Know} {u : TS} (h : Ek F te δ μ (exK S)) (q : ∀ x, Tr F B (δ.set i (some (S x))) μ u D) : Tr F B δ μ (tSeq (tAsg te (gName i)) u) D := s_asgx (D := { D with nx := u D }) h q
/-- a new object joins -/
theorem AtG.join {G' H' : Hp} {a : Addr} {o : HO} (h : AtG F B δ μ σ G H) (h1 : H a = none) (h2 : G' a = none) (hp : a ∉ F.P) (h3 : H' a = some o) (h4 : m.ok G' o) (g : Gr F.P G H G' H') (j : F.J G' H') : AtG F B δ ((a, m) :: μ) σ G' H' := by
  have q := h.step g j
  refine ⟨q.s0, q.gr, ⟨q.st.sub, q.st.j, q.st.env, ⟨?_, fun b u hm => ?_⟩⟩, q.fp, fun b u hm => ?_⟩
  · rw [List.map_cons, List.nodup_cons]
    refine ⟨fun hm => ?_, q.st.own.nd⟩
    obtain ⟨p, hp1, hp2⟩ := List.mem_map.mp hm
    obtain ⟨_, _, u, hu, _⟩ := h.st.own.has p.1 p.2 hp1
    rw [show p.1 = a from hp2, h1] at hu
    cases hu
  · rcases List.mem_cons.mp hm with e | hm
    · cases e; exact ⟨h2, hp, o, h3, h4⟩
    · exact q.st.own.has b u hm
  · rcases List.mem_cons.mp hm with e | hm
    · cases e; exact .inr (back_none h.gr h1)
    · exact q.ow b u hm
theorem s_new {i : Nat} (h : EN F te δ μ m) (q : ∀ a, To F B (δ.set i (some (valK (.ref a)))) ((a, m) :: μ) D.nx) : Tr F B δ μ (tAsg te (gName i)) D := fun σ H ⟨G, z⟩ =>
  h G H σ z.st _ fun a o G' H' h1 h2 hp h3 h4 g j => q a _ _ ⟨G', (z.join h1 h2 hp h3 h4 g j).setS i rfl⟩
theorem q_new {i : Nat} {u : TS} (h : EN F te δ μ m) (q : ∀ a, Tr F B (δ.set i (some (valK (.ref a)))) ((a, m) :: μ) u D) : Tr F B δ μ (tSeq (tAsg te (gName i)) u) D := s_new (D := { D with nx := u D }) h q
theorem s_drop (h : Ek F te δ μ k) (q : To F B δ μ D.nx) : Tr F B δ μ (tDrop te) D := fun σ H ⟨G, a⟩ =>
  h G H σ a.st _ fun v G' H' g j p => q _ _ ⟨G', a.step g j⟩
/-- an object of one's own is not changed any more -/
theorem AtG.freeze {a : Addr} {o : HO} (h : AtG F B δ ((a, m) :: μ) σ G H) (ho : H a = some o) (hn : B.H0 a = none) : AtG F B δ μ σ (upd G a o) H := by
  obtain ⟨h1, hp, _⟩ := h.st.own.has a m List.mem_cons_self
  have nd := h.st.own.nd
  rw [List.map_cons, List.nodup_cons] at nd
  have s1 : Same G (upd G a o) := same_new h1
  have off : ∀ b, b ≠ a → (upd G a o) b = G b := fun b hb => upd_ne hb
  refine ⟨h.s0, h.gr.freeze hn h.s0 ho h1, ⟨fun b u e => ?_, F.st _ _ _ _ s1 (fun b hb => ⟨rfl, fun z => ?_⟩) h.st.j, h.st.env.mono s1, ⟨nd.2, fun b u hm => ?_⟩⟩, h.fp, fun b u hm => h.ow b u (List.mem_cons_of_mem _ hm)⟩
  · by_cases hb : b = a
    · rw [hb, upd_same] at e; rw [hb, ho]; exact e
    · rw [off b hb] at e; exact h.st.sub b u e
  · rw [off b (fun e => hp (by rw [← e]; exact hb))]; exact z
  · obtain ⟨z1, z2, u', z3, z4⟩ := h.st.own.has b u (List.mem_cons_of_mem _ hm)
    have hb : b ≠ a := fun e => nd.1 (List.mem_map.mpr ⟨(b, u), hm, e⟩)
    exact ⟨by rw [off b hb]; exact z1, z2, u', z3, MO.ok_mono s1 z4⟩
theorem to_freeze {a : Addr} {ks : List Know} {i : Nat} (hi : δ[i]? = some (some (valK (.ref a)))) (hn : B.H0 a = none) (h : To F B (δ.set i (some (listK ks))) μ n) : To F B δ ((a, .lst ks) :: μ) n := fun σ H ⟨G, z⟩ => by
  obtain ⟨h1, hp, o, ho, vs, e, r⟩ := z.st.own.has a _ List.mem_cons_self
  subst e
  have z2 := z.freeze ho hn
  obtain ⟨v, hv, e⟩ := z2.st.env.get hi
  have e : v = .ref a := e
  subst e
  have q := z2.setS i (v := .ref a) (k := listK ks) ⟨a, vs, rfl, upd_same, r.mono (same_new h1)⟩
  have hs : σ.set i (some (.ref a)) = σ := by
    apply List.ext_getElem?
    intro j
    by_cases hj : i = j
    · subst hj
      rw [List.getElem?_set_self (List.getElem?_eq_some_iff.mp hv).1, hv]
    · rw [List.getElem?_set_ne hj]
  rw [hs] at q
  exact h σ H ⟨_, q⟩
/-- what is said of a slot, said otherwise -/
theorem to_open {α : Type} {S : α → Know} {i : Nat} (hi : δ[i]? = some (some (exK S))) (h : ∀ x, To F B (δ.set i (some (S x))) μ n) : To F B δ μ n := fun σ H ⟨G, z⟩ => by
  obtain ⟨v, hv, x, p⟩ := z.st.env.get hi
  have q := z.setS i (v := v) (k := S x) p
  have hs : σ.set i (some v) = σ := by
    apply List.ext_getElem?
    intro j
    by_cases hj : i = j
    · subst hj
      rw [List.getElem?_set_self (List.getElem?_eq_some_iff.mp hv).1, hv]
    · rw [List.getElem?_set_ne hj]
  rw [hs] at q
  exact h x σ H ⟨_, q⟩

/-! ### changing one's own -/
theorem OwnK.put {a : Addr} {o : HO} (h : OwnK F G H μ) (i : Nat) (hi : μ[i]?.map (·.1) = some a) (ok : m.ok G o) : OwnK F G (upd H a o) (μ.set i (a, m)) := by
  have hk : (μ.set i (a, m)).map (·.1) = μ.map (·.1) := by
    apply List.ext_getElem?
    intro j
    rw [List.map_set]
    by_cases hj : i = j
    · subst hj
      have hl : i < (μ.map (·.1)).length := by
        cases e : μ[i]? with
        | none => rw [e] at hi; cases hi
        | some p => rw [List.length_map]; exact (List.getElem?_eq_some_iff.mp e).1
      rw [List.getElem?_set_self hl, List.getElem?_map, hi]
    · rw [List.getElem?_set_ne hj]
  refine ⟨by rw [hk]; exact h.nd, fun b u hm => ?_⟩
  have ha : ∃ u, (a, u) ∈ μ := by
    cases e : μ[i]? with
    | none => rw [e] at hi; cases hi
    | some p =>
      rw [e] at hi
      have e1 : p.1 = a := Option.some.inj hi
      exact ⟨p.2, by rw [← e1]; exact List.mem_of_getElem? e⟩
  obtain ⟨u0, hu0⟩ := ha
  obtain ⟨j, hj⟩ := List.getElem?_of_mem hm
  by_cases hij : i = j
  · subst hij
    obtain ⟨hl, _⟩ := List.getElem?_eq_some_iff.mp hj
    rw [List.length_set] at hl
    rw [List.getElem?_set_self hl] at hj
    cases hj
    obtain ⟨h1, h2, _⟩ := h.has a u0 hu0
    exact ⟨h1, h2, o, upd_same, ok⟩
  · rw [List.getElem?_set_ne hij] at hj
    obtain ⟨h1, h2, w, h3, h4⟩ := h.has b u (List.mem_of_getElem? hj)
    have hb : b ≠ a := fun e => by
      have k1 : (μ.map (·.1))[j]? = some a := by rw [List.getElem?_map, hj, ← e]; rfl
      have k2 : (μ.map (·.1))[i]? = some a := by rw [List.getElem?_map]; exact hi
      exact hij (nd_ix h.nd k2 k1)
    exact ⟨h1, h2, w, by rw [upd_ne hb]; exact h3, h4⟩
theorem AtG.put {a : Addr} {o : HO} (h : AtG F B δ μ σ G H) (i : Nat) (hi : μ[i]?.map (·.1) = some a) (ok : m.ok G o) : AtG F B δ (μ.set i (a, m)) σ G (upd H a o) := by
  have ha : ∃ u, (a, u) ∈ μ := by
    cases e : μ[i]? with
    | none => rw [e] at hi; cases hi
    | some p =>
      rw [e] at hi
      have e1 : p.1 = a := Option.some.inj hi
      exact ⟨p.2, by rw [← e1]; exact List.mem_of_getElem? e⟩
  obtain ⟨u0, hu0⟩ := ha
  obtain ⟨h1, h2, _⟩ := h.st.own.has a u0 hu0
  refine ⟨h.s0, h.gr.mut (h.ow a u0 hu0) h1, ⟨same_keep h.st.sub h1, F.loc h2 h.st.j, h.st.env, h.st.own.put i hi ok⟩, h.fp, fun b u hm => ?_⟩
  have : b ∈ (μ.set i (a, m)).map (·.1) := List.mem_map.mpr ⟨(b, u), hm, rfl⟩
  obtain ⟨j, hj⟩ := List.getElem?_of_mem hm
  by_cases hij : i = j
  · subst hij
    obtain ⟨hl, _⟩ := List.getElem?_eq_some_iff.mp hj
    rw [List.length_set] at hl
    rw [List.getElem?_set_self hl] at hj
    cases hj
    exact h.ow a u0 hu0
  · rw [List.getElem?_set_ne hij] at hj
    exact h.ow b u (List.mem_of_getElem? hj)
/-- xs.append(e) -/
theorem s_app {K : PySem.W.Frag} {to : TE} {a : Addr} {ks : List Know} (i : Nat) (hi : μ[i]? = some (a, .lst ks)) (hx : Ek F to δ μ (valK (.ref a))) (h : Ek F te δ μ k) (hl : ks.length < sizeLine)
    (q : To F B δ (μ.set i (a, .lst (ks ++ [k]))) D.nx) : Tr F B δ μ (tDrop (tBM K "list" rAppend to (tCons te tNil))) D := fun σ H ⟨G, z⟩ =>
  hx G H σ z.st _ fun x G1 H1 g1 j1 e => by
    have e : x = .ref a := e
    subst e
    have z1 := z.step g1 j1
    obtain ⟨_, _, o, ho, vs, e, r⟩ := z1.st.own.has a _ (List.mem_of_getElem? hi)
    subst e
    refine ⟨.inl ⟨rfl, vs, .inl (.inl ho)⟩, ?_⟩
    refine h G1 H1 σ z1.st _ fun y G2 H2 g2 j2 p2 => ?_
    have z2 := z1.step g2 j2
    obtain ⟨_, _, o, ho, vs, e, r⟩ := z2.st.own.has a _ (List.mem_of_getElem? hi)
    subst e
    refine ⟨a, vs, y, rfl, rfl, ho, by rw [r.length]; exact hl, ?_⟩
    exact q _ _ ⟨G2, z2.put i (by rw [hi]; rfl) ⟨_, rfl, r.snoc p2⟩⟩
theorem q_app {K : PySem.W.Frag} {to : TE} {a : Addr} {ks : List Know} {u : TS} (i : Nat) (hi : μ[i]? = some (a, .lst ks)) (hx : Ek F to δ μ (valK (.ref a))) (h : Ek F te δ μ k) (hl : ks.length < sizeLine)
    (q : Tr F B δ (μ.set i (a, .lst (ks ++ [k]))) u D) : Tr F B δ μ (tSeq (tDrop (tBM K "list" rAppend to (tCons te tNil))) u) D := s_app (D := { D with nx := u D }) i hi hx h hl q
/-- xs[i] = e -/
theorem s_setL {to ti : TE} {a : Addr} {ks : List Know} {z : Int} {j : Nat} (i : Nat) (hi : μ[i]? = some (a, .lst ks)) (h : Ek F te δ μ k) (hx : Ek F to δ μ (valK (.ref a))) (hz : Ek F ti δ μ (valK (.int z))) (hj : ixN ks.length z = some j)
    (q : To F B δ (μ.set i (a, .lst (ks.set j k))) D.nx) : Tr F B δ μ (tAsg te (gSub to ti rSetL)) D := fun σ H ⟨G, w⟩ =>
  h G H σ w.st _ fun y G1 H1 g1 j1 p1 => hx G1 H1 σ (w.step g1 j1).st _ fun x G2 H2 g2 j2 e2 => hz G2 H2 σ ((w.step g1 j1).step g2 j2).st _ fun v G3 H3 g3 j3 e3 => by
    have e2 : x = .ref a := e2
    have e3 : v = .int z := e3
    subst e2 e3
    have w3 := ((w.step g1 j1).step g2 j2).step g3 j3
    obtain ⟨_, _, o, ho, vs, e, r⟩ := w3.st.own.has a _ (List.mem_of_getElem? hi)
    subst e
    exact ⟨a, vs, z, j, rfl, rfl, ho, by rw [r.length]; exact hj, q _ _ ⟨G3, w3.put i (by rw [hi]; rfl) ⟨_, rfl, AllK.set (k.mono (g2.gg.trans g3.gg) p1) j r⟩⟩⟩
theorem q_setL {to ti : TE} {a : Addr} {ks : List Know} {z : Int} {j : Nat} {u : TS} (i : Nat) (hi : μ[i]? = some (a, .lst ks)) (h : Ek F te δ μ k) (hx : Ek F to δ μ (valK (.ref a))) (hz : Ek F ti δ μ (valK (.int z))) (hj : ixN ks.length z = some j)
    (q : Tr F B δ (μ.set i (a, .lst (ks.set j k))) u D) : Tr F B δ μ (tSeq (tAsg te (gSub to ti rSetL)) u) D := s_setL (D := { D with nx := u D }) i hi h hx hz hj q
/-- x op= e of ints -/
theorem s_aug {f : Int → Int → Int} {i : Nat} {a b : Int} (hx : δ[i]? = some (some (valK (.int a)))) (h : Ek F te δ μ (valK (.int b))) (q : To F B (δ.set i (some (valK (.int (f a b))))) μ D.nx) : Tr F B δ μ (tAug i te (ipI f)) D := fun σ H ⟨G, z⟩ => by
  obtain ⟨v, hv, e⟩ := z.st.env.get hx
  have e : v = .int a := e
  subst e
  refine ⟨.int a, hv, h G H σ z.st _ fun y G1 H1 g1 j1 e1 => ?_⟩
  have e1 : y = .int b := e1
  subst e1
  exact ⟨a, b, rfl, rfl, q _ _ ⟨G1, (z.step g1 j1).setS i rfl⟩⟩
theorem q_aug {f : Int → Int → Int} {i : Nat} {a b : Int} {u : TS} (hx : δ[i]? = some (some (valK (.int a)))) (h : Ek F te δ μ (valK (.int b))) (q : Tr F B (δ.set i (some (valK (.int (f a b))))) μ u D) : Tr F B δ μ (tSeq (tAug i te (ipI f)) u) D := s_aug (D := { D with nx := u D }) hx h q

/-! ### return, if -/
theorem s_ret (hR : Rt F B post D.rt) (h : Ek F te δ μ k) (hp : ∀ v G H, k.p v G → post v G H) : Tr F B δ μ (tRet te) D := fun σ H ⟨G, z⟩ =>
  h G H σ z.st _ fun v G1 H1 g1 j1 p => hR v G1 H1 (z.step g1 j1).gr j1 (hp v G1 H1 p)
/-- a new object is handed back -/
theorem s_retN (hR : Rt F B post D.rt) (h : EN F te δ μ m) (hp : ∀ a o G H, B.H0 a = none → G a = none → a ∉ F.P → H a = some o → m.ok G o → post (.ref a) G H) : Tr F B δ μ (tRet te) D := fun σ H ⟨G, z⟩ =>
  h G H σ z.st _ fun a o G1 H1 h1 h2 hp' h3 h4 g1 j1 => hR _ G1 H1 (z.step g1 j1).gr j1 (hp a o G1 H1 (back_none z.gr h1) h2 hp' h3 h4)
/-- one's own is handed back -/
theorem s_retO {a : Addr} (hR : Rt F B post D.rt) (h : Ek F te δ μ (valK (.ref a))) (hm : (a, m) ∈ μ) (hp : ∀ o G H, G a = none → a ∉ F.P → H a = some o → m.ok G o → post (.ref a) G H) : Tr F B δ μ (tRet te) D := fun σ H ⟨G, z⟩ =>
  h G H σ z.st _ fun v G1 H1 g1 j1 e => by
    have e : v = .ref a := e
    subst e
    obtain ⟨h1, h2, o, h3, h4⟩ := (z.step g1 j1).st.own.has a m hm
    exact hR _ G1 H1 (z.step g1 j1).gr j1 (hp o G1 H1 h1 h2 h3 h4)
theorem s_if {P : Bool → Prop} {c : TT} {t u : TS} (h : ETk F c δ μ P) (h1 : P true → Tr F B δ μ t D) (h2 : P false → Tr F B δ μ u D) : Tr F B δ μ (tIfS c t u) D := fun σ H ⟨G, z⟩ =>
  h G H σ z.st _ fun b G1 H1 g1 j1 p => by
    cases b with
    | true => exact iteT (h1 p σ H1 ⟨G1, z.step g1 j1⟩)
    | false => exact iteF (h2 p σ H1 ⟨G1, z.step g1 j1⟩)
theorem q_if {P : Bool → Prop} {c : TT} {t u w : TS} (h : ETk F c δ μ P) (h1 : P true → Tr F B δ μ t { D with nx := w D }) (h2 : P false → Tr F B δ μ u { D with nx := w D }) : Tr F B δ μ (tSeq (tIfS c t u) w) D := s_if (D := { D with nx := w D }) h h1 h2
theorem s_next (q : To F B δ μ D.nx) : Tr F B δ μ tNext D := q

/-! ### loops -/
/-- a target takes what is known as k -/
def Gk (g : TG) (k : Know) (δ δ' : Env) : Prop := ∀ G H σ v, Same G H → k.p v G → EnvK G δ σ → ∀ Q : St → Hp → Prop, (∀ σ', EnvK G δ' σ' → Q σ' H) → g v σ H Q
theorem gk_name {i : Nat} : Gk (gName i) k δ (δ.set i (some k)) := fun G H σ v _ p e Q q => q _ (e.set p i)
theorem gk_pair {K : PySem.W.Frag} {i j : Nat} {k1 k2 : Know} : Gk (gTup K 2 (gCons (gName i) (gCons (gName j) gNil))) (tupK K [k1, k2]) δ ((δ.set i (some k1)).set j (some k2)) := fun G H σ v s ⟨a, vs, e, h, r⟩ en Q q => by
  subst e
  obtain ⟨x, y, rfl, p1, p2⟩ := allK2 r
  exact ⟨a, _, rfl, seqT_mono s h, rfl, x, _, rfl, y, _, rfl, rfl, q _ ((en.set p1 i).set p2 j)⟩
/-- what is walked: n turns, the i-th gives kn i -/
def EI (F : Fx) (wi : TI) (δ : Env) (μ : Mu) (n : Nat) (kn : Nat → Know) : Prop :=
  ∀ G H σ, Stt F G H δ μ σ → ∀ R : It → Hp → Prop, (∀ J G' H' Gd Y, Gr F.P G H G' H' → F.J G' H' → Walk J n Gd Y → (∀ H2, Same G' H2 → Gd H2) →
    (∀ i H2 x H3 G2, i < n → Same G' G2 → Same G2 H2 → Y i H2 x H3 → ∃ G3, Gr [] G2 H2 G3 H3 ∧ (kn i).p x G3) → R J H') → wi σ H R
theorem ei_list {K : PySem.W.Frag} {ks : List Know} (h : Ek F te δ μ (listK ks)) : EI F (iList K te) δ μ ks.length (fun i => (ks[i]?).getD k) := fun G H σ st R q =>
  h G H σ st _ fun x G1 H1 g1 j1 p => by
    obtain ⟨a, vs, rfl, ha, r⟩ := p
    refine ⟨a, rfl, ⟨vs, .inl (.inl (g1.gh _ _ ha))⟩, ?_⟩
    rw [← r.length] at q
    refine q _ G1 H1 (fun H => SqL K H a vs) (YAt vs) g1 j1 walk_list (fun H2 s => .inl (.inl (s _ _ ha))) fun i H2 x H3 G2 hi s1 s2 y => ?_
    obtain ⟨e, hx⟩ := y
    subst e
    obtain ⟨k', hk, pk⟩ := r.getV hx
    exact ⟨G2, .refl s2, by show ((ks[i]?).getD k).p x G2; rw [hk]; exact k'.mono s1 pk⟩
theorem ei_seq {K : PySem.W.Frag} {ks : List Know} (h : Ek F te δ μ (seqK K ks)) : EI F (iList K te) δ μ ks.length (fun i => (ks[i]?).getD k) := fun G H σ st R q =>
  h G H σ st _ fun x G1 H1 g1 j1 p => by
    obtain ⟨a, vs, rfl, ha, r⟩ := p
    refine ⟨a, rfl, ⟨vs, g1.gh.seq ha⟩, ?_⟩
    rw [← r.length] at q
    refine q _ G1 H1 (fun H => SqL K H a vs) (YAt vs) g1 j1 walk_list (fun H2 s => s.seq ha) fun i H2 x H3 G2 hi s1 s2 y => ?_
    obtain ⟨e, hx⟩ := y
    subst e
    obtain ⟨k', hk, pk⟩ := r.getV hx
    exact ⟨G2, .refl s2, by show ((ks[i]?).getD k).p x G2; rw [hk]; exact k'.mono s1 pk⟩
theorem ei_tup {K : PySem.W.Frag} {ks : List Know} (h : Ek F te δ μ (tupK K ks)) : EI F (iTup K te) δ μ ks.length (fun i => (ks[i]?).getD k) := fun G H σ st R q =>
  h G H σ st _ fun x G1 H1 g1 j1 p => by
    obtain ⟨a, vs, rfl, ha, r⟩ := p
    refine ⟨a, rfl, ⟨vs, seqT_mono g1.gh ha⟩, ?_⟩
    rw [← r.length] at q
    refine q _ G1 H1 (fun H => SqT K H a vs) (YAt vs) g1 j1 walk_tup (fun H2 s => seqT_mono s ha) fun i H2 x H3 G2 hi s1 s2 y => ?_
    obtain ⟨e, hx⟩ := y
    subst e
    obtain ⟨k', hk, pk⟩ := r.getV hx
    exact ⟨G2, .refl s2, by show ((ks[i]?).getD k).p x G2; rw [hk]; exact k'.mono s1 pk⟩
theorem ei_rng1 {ta : TA} {n : Int} (h : EAk F ta δ μ [valK (.int n)]) (hn : n < 2 ^ 62) (h0 : -(2 ^ 62) ≤ n) : EI F (iRng1 ta) δ μ n.toNat (fun i => valK (.int (i : Int))) := fun G H σ st R q =>
  h G H σ st _ fun vs G1 H1 g1 j1 p => by
    obtain ⟨v, rfl, e⟩ := allK1 p
    have e : v = .int n := e
    subst e
    refine ⟨n, rfl, h0, hn, ?_⟩
    refine q _ G1 H1 (fun _ => True) (YFn fun i => .int (0 + (i : Int))) g1 j1 walk_range (fun _ _ => trivial) fun i H2 x H3 G2 hi s1 s2 y => ?_
    obtain ⟨e, hx⟩ := y
    subst e
    exact ⟨G2, .refl s2, by rw [hx]; show V.int (0 + (i : Int)) = V.int (i : Int); rw [Int.zero_add]⟩
theorem ei_rng2 {ta : TA} {a n : Int} (h : EAk F ta δ μ [valK (.int a), valK (.int n)]) (hn : n < 2 ^ 62) (h0 : -(2 ^ 62) ≤ n) (ha : a < 2 ^ 62) (ha0 : -(2 ^ 62) ≤ a) : EI F (iRng2 ta) δ μ (n - a).toNat (fun i => valK (.int (a + (i : Int)))) := fun G H σ st R q =>
  h G H σ st _ fun vs G1 H1 g1 j1 p => by
    obtain ⟨v, u, rfl, e, e'⟩ := allK2 p
    have e : v = .int a := e
    have e' : u = .int n := e'
    subst e e'
    refine ⟨a, n, rfl, ⟨ha0, ha, h0, hn⟩, ?_⟩
    refine q _ G1 H1 (fun _ => True) (YFn fun i => .int (a + (i : Int))) g1 j1 walk_range (fun _ _ => trivial) fun i H2 x H3 G2 hi s1 s2 y => ?_
    obtain ⟨e, hx⟩ := y
    subst e
    exact ⟨G2, .refl s2, by rw [hx]; rfl⟩
/-- enumerate(xs) -/
theorem ei_enum {K : PySem.W.Frag} {wi : TE → TI} {ks : List Know} (hw : wi te = fun σ H R => te σ H fun x H1 => ∃ a xs, x = .ref a ∧ SqL K H1 a xs ∧ R (Ite K a) H1) (h : Ek F te δ μ (listK ks)) : EI F (wi te) δ μ ks.length (fun i => tupK K [valK (.int (i : Int)), (ks[i]?).getD k]) := by
  rw [hw]
  refine fun G H σ st R q => h G H σ st _ fun x G1 H1 g1 j1 p => ?_
  obtain ⟨a, vs, rfl, ha, r⟩ := p
  refine ⟨a, vs, rfl, .inl (.inl (g1.gh _ _ ha)), ?_⟩
  rw [← r.length] at q
  refine q _ G1 H1 (fun H => SqL K H a vs) (YPair (fun i => some (.int (i : Nat))) (fun i => vs[i]?)) g1 j1 walk_enum (fun H2 s => .inl (.inl (s _ _ ha))) fun i H2 x H3 G2 hi s1 s2 y => ?_
  obtain ⟨T, u, w, rfl, hT, rfl, e1, e2⟩ := y
  cases e1
  obtain ⟨k', hk, pk⟩ := r.getV e2
  refine ⟨upd G2 T (.tup [.int (i : Nat), w]), Gr.new s2 hT, T, [.int (i : Nat), w], rfl, .inl (.inl upd_same), .cons rfl (.cons ?_ .nil)⟩
  rw [hk]
  exact k'.mono (s1.trans (same_new (none_sub s2 hT))) pk

/-- the base moved to where one stands -/
def Bs.at_ (B : Bs) (F : Fx) (μ : Mu) (G H : Hp) : Bs := ⟨F.P ++ μ.map (·.1), G, H⟩
theorem AtG.rebase (h : AtG F B δ μ σ G H) : AtG F (B.at_ F μ G H) δ μ σ G H ∧ BLe B (B.at_ F μ G H) := by
  have mn : ∀ a, a ∈ F.P ++ μ.map (·.1) → B.mine a := fun a ha => by
    rcases List.mem_append.mp ha with ha | ha
    · exact h.fp a ha
    · obtain ⟨p, hp, e⟩ := List.mem_map.mp ha
      exact e ▸ h.ow p.1 p.2 hp
  refine ⟨⟨h.st.sub, .refl h.st.sub, h.st, fun a ha => .inl (List.mem_append_left _ ha), fun a m hm => .inl (List.mem_append_right _ (List.mem_map.mpr ⟨(a, m), hm, rfl⟩))⟩, fun G2 H2 g => h.gr.trans' g mn, fun a ha => ?_, h.s0⟩
  rcases ha with ha | ha
  · exact mn a ha
  · exact .inr (back_none h.gr ha)
/-- a for: what holds ahead of the i-th turn is I i b, for some b -/
theorem s_for {wi : TI} {g : TG} {tb : TS} {n : Nat} {kn : Nat → Know} {β : Type} (I : Nat → β → Env × Mu) (hs : EI F wi δ μ n kn) (b0 : β)
    (h0 : ∀ B' : Bs, BLe B B' → ∀ σ H, At F B' δ μ σ H → At F B' (I 0 b0).1 (I 0 b0).2 σ H)
    (ht : ∀ B' : Bs, BLe B B' → ∀ i b, i < n → ∃ δ', Gk g (kn i) (I i b).1 δ' ∧
      ∀ N : St → Hp → Prop, (∀ b', To F B' (I (i + 1) b').1 (I (i + 1) b').2 N) → Tr F B' δ' (I i b).2 tb { D with nx := N, ct := N, bk := D.nx })
    (hd : ∀ b, To F B (I n b).1 (I n b).2 D.nx) : Tr F B δ μ (tFor wi g tb) D := fun σ H ⟨G, z⟩ =>
  hs G H σ z.st _ fun J G1 H1 Gd Y g1 j1 W hGd hY => by
    obtain ⟨z1, l⟩ := (z.step g1 j1).rebase
    refine for_it W (fun i σ H => ∃ b, At F (B.at_ F μ G1 H1) (I i b).1 (I i b).2 σ H) ⟨b0, h0 _ l _ _ ⟨G1, z1⟩⟩ (fun i σ H _ ⟨b, G2, z2⟩ => hGd H (z2.gr.gg.trans z2.st.sub)) ?_ (fun σ H ⟨b, z2⟩ => hd b σ H (z2.up l))
    rintro i x σ H H' hi ⟨b, G2, z2⟩ y
    obtain ⟨G3, g3, p⟩ := hY i H x H' G2 hi z2.gr.gg z2.st.sub y
    have z3 := z2.step (g3.wide fun _ h => nomatch h) (F.pure g3 z2.st.j)
    obtain ⟨δ', hg, hb⟩ := ht _ l i b hi
    exact hg G3 H' σ x z3.st.sub p z3.st.env _ fun σ' e' => hb _ (fun b' σ'' H'' z' => ⟨b', z'⟩) σ' H' ⟨G3, z3.s0, z3.gr, ⟨z3.st.sub, z3.st.j, e', z3.st.own⟩, z3.fp, z3.ow⟩
theorem s_while {c : TT} {tb : TS} {β : Type} (I : β → Env × Mu) (w : β → Nat) (b0 : β) (h0 : ∀ σ H, At F B δ μ σ H → At F B (I b0).1 (I b0).2 σ H)
    (ht : ∀ b, ∃ P : Bool → Prop, ETk F c (I b).1 (I b).2 P ∧ (P true → ∀ N : St → Hp → Prop, (∀ b', w b' < w b → To F B (I b').1 (I b').2 N) → Tr F B (I b).1 (I b).2 tb { D with nx := N, ct := N, bk := D.nx }) ∧ (P false → To F B (I b).1 (I b).2 D.nx)) : Tr F B δ μ (tWhile c tb) D := fun σ H z => by
  refine ⟨fun m σ H => ∃ b, w b = m ∧ At F B (I b).1 (I b).2 σ H, ⟨_, b0, rfl, h0 σ H z⟩, ?_⟩
  rintro m σ H ⟨b, rfl, G1, z1⟩
  obtain ⟨P, hc, hT, hF⟩ := ht b
  refine hc G1 H σ z1.st _ fun d G2 H2 g2 j2 p => ?_
  cases d with
  | true => exact iteT ⟨fun σ H => ∃ b', w b' < w b ∧ At F B (I b').1 (I b').2 σ H, fun σ' H' ⟨b', h1, h2⟩ => ⟨w b', h1, b', rfl, h2⟩, hT p _ (fun b' hb' σ' H' q => ⟨b', hb', q⟩) σ H2 ⟨G2, z1.step g2 j2⟩⟩
  | false => exact iteF (hF p σ H2 ⟨G2, z1.step g2 j2⟩)

/-! ### comprehensions -/
theorem wipe_one {σ : St} {j : Nat} {x : Option V} : L2.wipe ((L2.wipe σ [j]).set j x) [j] = L2.wipe σ [j] := by
  show ((σ.set j none).set j x).set j none = σ.set j none
  rw [List.set_set, List.set_set]
theorem wipe_two {σ : St} {i j : Nat} {x y : Option V} : L2.wipe (((L2.wipe σ [i, j]).set i x).set j y) [i, j] = L2.wipe σ [i, j] := by
  show (((((σ.set j none).set i none).set i x).set j y).set j none).set i none = (σ.set j none).set i none
  by_cases h : i = j
  · subst h; simp [List.set_set]
  · rw [List.set_set, List.set_set, List.set_comm _ _ h, List.set_set (l := σ), List.set_set]
/-- a target that wipes clean -/
def Gw (g : TG) (vs : List Nat) : Prop := ∀ σ v H (Q : St → Hp → Prop), g v (L2.wipe σ vs) H Q → g v (L2.wipe σ vs) H fun σ2 H2 => L2.wipe σ2 vs = L2.wipe σ vs ∧ Q σ2 H2
theorem gw_name {j : Nat} : Gw (gName j) [j] := fun σ v H Q q => ⟨wipe_one, q⟩
theorem gw_pair {K : PySem.W.Frag} {i j : Nat} : Gw (gTup K 2 (gCons (gName i) (gCons (gName j) gNil))) [i, j] := fun σ v H Q ⟨a, xs, e1, e2, e3, x, r, e4, y, r', e5, e6, q⟩ => ⟨a, xs, e1, e2, e3, x, r, e4, y, r', e5, e6, wipe_two, q⟩
/-- how many of the first turns are kept, and what they give -/
def outs (keep : Nat → Bool) (out : Nat → Know) (n : Nat) : List Know := ((List.range n).filter keep).map out
theorem outs_len (keep : Nat → Bool) (out : Nat → Know) (n : Nat) : (outs keep out n).length ≤ n := by
  unfold outs
  rw [List.length_map]
  have := List.length_filter_le keep (List.range n)
  rw [List.length_range] at this
  exact this
theorem outs_yes {keep : Nat → Bool} {out : Nat → Know} {n : Nat} (h : keep n = true) : outs keep out (n + 1) = outs keep out n ++ [out n] := by
  unfold outs
  rw [List.range_succ, List.filter_append, List.map_append, List.filter_cons, if_pos h]
  rfl
theorem outs_no {keep : Nat → Bool} {out : Nat → Know} {n : Nat} (h : keep n = false) : outs keep out (n + 1) = outs keep out n := by
  unfold outs
  rw [List.range_succ, List.filter_append, List.map_append, List.filter_cons, if_neg (by rw [h]; decide)]
  show _ ++ [] = _
  rw [List.append_nil]
theorem outs_all {out : Nat → Know} {n : Nat} : outs (fun _ => true) out n = (List.range n).map out := by
  unfold outs
  rw [List.filter_eq_self.mpr (fun _ _ => rfl)]
theorem en_lc {wi : TI} {g : TG} {tt : TT} {vs : List Nat} {n : Nat} {kn : Nat → Know} (keep : Nat → Bool) (out : Nat → Know) (hs : EI F wi δ μ n kn) (hn : n ≤ sizeLine) (hw : Gw g vs)
    (he : ∀ i, i < n → ∃ δ', Gk g (kn i) (wipeE δ vs) δ' ∧ ETk F tt δ' μ (· = keep i) ∧ (keep i = true → Ek F te δ' μ (out i))) : EN F (tLc wi g tt te vs) δ μ (.lst (outs keep out n)) := fun G H σ st Q q =>
  hs G H σ st _ fun J G1 H1 Gd Y g1 j1 W hGd hY L hL => by
    have st1 := st.step g1 j1
    have nL : L ∉ F.P := F.offP j1 hL
    refine lc_it W (fun i H2 => ∃ G2 acc, Gr F.P G1 H1 G2 H2 ∧ F.J G2 H2 ∧ H2 L = some (.lst acc) ∧ G2 L = none ∧ AllK G2 acc (outs keep out i)) ?_ (fun i H2 _ ⟨G2, acc, g2, _⟩ => hGd H2 (g2.gg.trans g2.gh)) ?_ ?_
    · exact ⟨G1, [], Gr.own g1.gh hL, F.loc nL j1, upd_same, none_sub g1.gh hL, .nil⟩
    · rintro i x H2 H3 hi ⟨G2, acc, g2, j2, hA, hG, r⟩ y
      obtain ⟨G3, g3, p⟩ := hY i H2 x H3 G2 hi g2.gg g2.gh y
      have j3 := F.pure g3 j2
      have g3' : Gr F.P G2 H2 G3 H3 := g3.wide fun _ h => nomatch h
      have st3 := (st1.step g2 j2).step g3' j3
      obtain ⟨δ', hg, ht, hx⟩ := he i hi
      refine hw _ _ _ _ (hg G3 H3 _ x g3.gh p (st3.env.wipe vs) _ fun σ' e' => ?_)
      have st4 : Stt F G3 H3 δ' μ σ' := ⟨st3.sub, st3.j, e', st3.own⟩
      refine ht G3 H3 σ' st4 _ fun b G4 H4 g4 j4 eb => ?_
      have hA4 : H4 L = some (.lst acc) := g4.hh L _ nL (g3'.hh L _ nL hA)
      have hG4 : G4 L = none := g4.fr L (nn_of (g3'.hh L _ nL hA)) (g3'.fr L (nn_of hA) hG)
      have r4 : AllK G4 acc (outs keep out i) := r.mono (g3.gg.trans g4.gg)
      cases b with
      | true =>
        refine iteT (hx eb.symm G4 H4 σ' (st4.step g4 j4) _ fun y G5 H5 g5 j5 p5 => ?_)
        have hA5 : H5 L = some (.lst acc) := g5.hh L _ nL hA4
        have hG5 : G5 L = none := g5.fr L (nn_of hA4) hG4
        refine ⟨acc, hA5, ?_, G5, acc ++ [y], ?_, F.loc nL j5, upd_same, hG5, ?_⟩
        · rw [r4.length]
          have := outs_len keep out i
          omega
        · exact (((g2.trans g3').trans g4).trans g5).mut (.inr hL) hG5
        · rw [outs_yes eb.symm]
          exact (r4.mono g5.gg).snoc p5
      | false =>
        refine iteF ⟨G4, acc, (g2.trans g3').trans g4, j4, hA4, hG4, ?_⟩
        rw [outs_no eb.symm]
        exact r4
    · rintro H2 ⟨G2, acc, g2, j2, hA, hG, r⟩
      exact q L _ G2 H2 (back_none g1 hL) hG nL hA ⟨acc, rfl, r⟩ (g1.trans g2) j2
theorem et_yes : ETk F tYes δ μ (· = true) := fun G H σ st Q q => q true G H (.refl st.sub) st.j rfl
end

/-! ### defs -/
def spF {ι : Type} (FX : ι → Fx) (ks : ι → List Know) (post : ι → Hp → V → Hp → Hp → Prop) : Sp := fun vs H Q _ =>
  ∃ x G, Same G H ∧ (FX x).J G H ∧ AllK G vs (ks x) ∧ ∀ v G' H', Gr (FX x).P G H G' H' → (FX x).J G' H' → post x H v G' H' → Q v H'
/-- the value is known as k; a new object is handed back -/
def pK (k : Know) : Hp → V → Hp → Hp → Prop := fun _ v G' _ => k.p v G'
def pN (m : MO) : Hp → V → Hp → Hp → Prop := fun H v G' H' => ∃ a o, v = .ref a ∧ H a = none ∧ G' a = none ∧ H' a = some o ∧ m.ok G' o
section
variable {F : Fx} {δ : Env} {μ : Mu} {t : TA} {k : Know} {m : MO} {ι : Type} {FX : ι → Fx} {ks : ι → List Know} {post : ι → Hp → V → Hp → Hp → Prop} {E : XK}
/-- a def that draws nothing -/
theorem ek_call (x : ι) (hF : FX x = F0) (ha : EAk F t δ μ (ks x)) (hp : ∀ H v G' H', post x H v G' H' → k.p v G') : Ek F (tCall (spF FX ks post) [] E t) δ μ k := fun G H σ st Q q =>
  ha G H σ st _ fun vs G1 H1 g1 j1 p1 => by
    refine ⟨x, G1, g1.gh, by rw [hF]; trivial, by rw [List.append_nil]; exact p1, fun v G2 H2 g2 _ p2 => ?_⟩
    rw [hF] at g2
    have g2' : Gr [] G1 H1 G2 H2 := g2
    exact q v G2 H2 (g1.trans (g2'.wide fun _ h => nomatch h)) (F.pure g2' j1) (hp _ _ _ _ p2)
theorem en_call (x : ι) (hF : FX x = F0) (ha : EAk F t δ μ (ks x)) (hp : ∀ H v G' H', post x H v G' H' → pN m H v G' H') : EN F (tCall (spF FX ks post) [] E t) δ μ m := fun G H σ st Q q =>
  ha G H σ st _ fun vs G1 H1 g1 j1 p1 => by
    refine ⟨x, G1, g1.gh, by rw [hF]; trivial, by rw [List.append_nil]; exact p1, fun v G2 H2 g2 _ p2 => ?_⟩
    rw [hF] at g2
    have g2' : Gr [] G1 H1 G2 H2 := g2
    obtain ⟨a, o, rfl, h1, h2, h3, h4⟩ := hp _ _ _ _ p2
    exact q a o G2 H2 (back_none g1 h1) h2 (F.offP j1 h1) h3 h4 (g1.trans (g2'.wide fun _ h => nomatch h)) (F.pure g2' j1)
/-- one that draws from the same pool -/
theorem ek_callF (x : ι) (hF : FX x = F) (ha : EAk F t δ μ (ks x)) (hp : ∀ H v G' H', post x H v G' H' → k.p v G') : Ek F (tCall (spF FX ks post) [] E t) δ μ k := fun G H σ st Q q =>
  ha G H σ st _ fun vs G1 H1 g1 j1 p1 => by
    subst hF
    exact ⟨x, G1, g1.gh, j1, by rw [List.append_nil]; exact p1, fun v G2 H2 g2 j2 p2 => q v G2 H2 (g1.trans g2) j2 (hp _ _ _ _ p2)⟩
theorem en_callF (x : ι) (hF : FX x = F) (ha : EAk F t δ μ (ks x)) (hp : ∀ H v G' H', post x H v G' H' → pN m H v G' H') : EN F (tCall (spF FX ks post) [] E t) δ μ m := fun G H σ st Q q =>
  ha G H σ st _ fun vs G1 H1 g1 j1 p1 => by
    subst hF
    refine ⟨x, G1, g1.gh, j1, by rw [List.append_nil]; exact p1, fun v G2 H2 g2 j2 p2 => ?_⟩
    obtain ⟨a, o, rfl, h1, h2, h3, h4⟩ := hp _ _ _ _ p2
    exact q a o G2 H2 (back_none g1 h1) h2 (Fx.offP _ j1 h1) h3 h4 (g1.trans g2) j2
end
/-- a def of the text, where it stands -/
structure FnAt (K : PySem.W.Frag) (mg : Str → Option Value) (x : Str) (st : Stmt) (ps : List Str) (f : Addr) (fd : FuncData) : Prop where
  F : Fun K x x st f fd
  b : Binds K fd ps []
  g : mg x = some (.ref f)
def env0 (ks : List Know) (n : Nat) : Env := ks.map some ++ List.replicate n none
theorem envK_none {G : Hp} : ∀ (n : Nat), EnvK G (List.replicate n none) (List.replicate n none)
  | 0 => trivial
  | n + 1 => ⟨fun _ e => (nomatch e), envK_none n⟩
theorem envK_start {G : Hp} (n : Nat) : ∀ {vs : List V} {ks : List Know}, AllK G vs ks → EnvK G (ks.map some ++ List.replicate n none) (vs.map some ++ List.replicate n none)
  | _, _, .nil => envK_none n
  | _, _, .cons (a := v) (b := k) a b => ⟨fun k' e => by
      have e' : k = k' := Option.some.inj e
      subst e'
      exact ⟨v, rfl, a⟩, envK_start n b⟩
section
variable {P : Program} {w : World} {K : PySem.W.Frag} {mg : Str → Option Value} {base : Heap}
/-- a def keeps its promise: its body's term t, and what t says -/
theorem ok_fn {ι : Type} {FX : ι → Fx} {ks : ι → List Know} {post : ι → Hp → V → Hp → Hp → Prop} {x qual : Str} {st : Stmt} {f : Addr} {fd : FuncData} {N ps : List Str} {j : Nat} {t : TS}
    (F : Fun K x qual st f fd) (S : FnScope N ps (defScope st)) (hks : ∀ x, (ks x).length = ps.length)
    (hd : ∀ (cdv : Value) (A : Around) (outer : List PySem.Env) (s : Shared) (H : Hp) (E : XK), Room j (A.deeper (PyProof.Rows.envOfC qual (defScope st) s.heap.objs.size f cdv)) → PSs (cxOf CX0 P w K mg base N qual (defScope st) f cdv A outer s H E).nox (defBody st) t)
    (hb : ∀ (x : ι) (G0 H0 : Hp) (Q : VK), Rt (FX x) ⟨(FX x).P, G0, H0⟩ (post x H0) Q → Tr (FX x) ⟨(FX x).P, G0, H0⟩ (env0 (ks x) (N.length - ps.length)) [] t { nx := fun _ H' => Q .non H', rt := Q }) :
    FnOk P w K mg base CX0 (j + 1) f fd ps (spF FX ks post) := by
  refine F.ok S (fun vs H Q E h => ?_) (fun cdv A outer s H vs Q E hr h => ?_)
  · obtain ⟨x, G, _, _, r, _⟩ := h
    rw [r.length, hks]
  · obtain ⟨x, G, s0, j0, r, q⟩ := h
    refine ⟨t, hd cdv A outer s H E hr, hb x G H Q (fun v G' H' g j' p => q v G' H' g j' p) _ _ ⟨G, s0, .refl s0, ⟨s0, j0, ?_, OwnK.nil⟩, fun a ha => .inl ha, fun _ _ h => nomatch h⟩⟩
    unfold L2.start env0
    rw [show N.length - vs.length = N.length - ps.length by rw [r.length, hks]]
    exact envK_start _ r
end
end Dl
end
section
set_option maxRecDepth 100000
set_option maxHeartbeats 2000000
namespace Dl
open PySem PySem.Spec L2

/-! ### more rules by values, under names of my own -/
def rAddStr : R2 := fun x y H Q => ∃ i j, x = .str i ∧ y = .str j ∧ i.length + j.length ≤ sizeLine ∧ Q (.str (i ++ j)) H
def rIsNon : R2 := fun x y H Q => y = .non ∧ Q (.bl (decide (x = .non))) H
def rNotNon : R2 := fun x y H Q => y = .non ∧ Q (.bl (!decide (x = .non))) H
def rLenV (K : PySem.W.Frag) : List V → Hp → VK → Prop := fun xs H Q => ∃ x n, xs = [x] ∧ LenV K x H n ∧ Q (.int (n : Nat)) H
def rJoinQ (K : PySem.W.Frag) : V → List V → Hp → VK → Prop := fun x xs H Q => ∃ a p, ∃ ys : List Str, x = .str a ∧ xs = [.ref p] ∧ (SqL K H p (ys.map V.str) ∨ SqT K H p (ys.map V.str)) ∧
    (ys.map (·.length)).sum + ys.length * a.length ≤ 16777216 ∧ Q (.str (Txt.join a ys)) H
def tJoined (ts : List TE) : TE := fun σ H Q => tJs ts Str.empty σ H fun out H1 => Q (.str out) H1
section
variable {X : Cx}
theorem ox_addS : OpR X (binaryOp .Add) rAddStr := op_add_str
theorem ox_isN : OpR X (compareOp .Is) rIsNon := op_isN
theorem ox_notN : OpR X (compareOp .IsNot) rNotNon := op_notN
theorem cx_lenV : CallR X (.builtin "len") (rLenV X.K) := call_len
theorem mx_join : MtR X "str.join" (rJoinQ X.K) := mt_join
theorem pj_nil : PJ X [] [] := .nil
theorem pj_cons {e : Expr} {t : TE} {es : List Expr} {ts : List TE} (h : PE X e t) (r : PJ X es ts) : PJ X (e :: es) (t :: ts) := .cons h r
theorem pe_joinedT {v1 v2 : Expr} {rest : List Expr} {ts : List TE} {pos : Pos} (h : PJ X (v1 :: v2 :: rest) ts) : PE X (.JoinedStr (v1 :: v2 :: rest) pos) (tJoined ts) := pe_joined h
/-- xs.count(x), data of any depth -/
def rCountD (K : PySem.W.Frag) : V → List V → Hp → VK → Prop := fun x xs H Q => ∃ (a : Addr) (y : V) (d : PyData) (ds : List PyData), x = V.ref a ∧ xs = [y] ∧ Dp K H (V.ref a) (.list ds) ∧ Dp K H y d ∧
  SeqAt.shaped (.list ds) = true ∧ SeqAt.shaped d = true ∧ Q (.int ((ds.countP fun z => PyData.eqv z d : Nat) : Int)) H
theorem mx_count (hu : X.A.units + 64 < cLine) (hu2 : X.A.units + 65 < cLine := by assumption) : MtR X "list.count" (rCountD X.K) := by
  intro pins s σ H x xs v us Q I rx rxs h
  obtain ⟨a, y, d, ds, rfl, rfl, hl, hy, sl, sd, q⟩ := h
  cases rx
  cases rxs with
  | cons ry rt =>
    rename_i w1 w2
    cases rt
    obtain ⟨bs, r1⟩ := Dp.reads I d y w1 hy ry
    have lay : PyData.canLayAll0 ds = true := SeqAt.canLay_of_shaped sl
    have room : X.A.units + 1 + min (PyData.depthAll ds) d.depth < cLine := PyProof.Rows.room_in_shaped sd hu2
    cases hl with
    | lst hs ha =>
      obtain ⟨its, rv, ⟨⟨cls, dd, data, sls⟩, n, ho, hc, hdn, hdt⟩, hlen⟩ := I.list hs
      simp only at hc hdt
      subst hc hdt
      obtain ⟨as, h4⟩ := Dp.readsAll I ds _ its ha rv
      have em : its.map (SeqAt.readOf s.heap) = ds := SeqAt.readsAll_map ds its as lay h4
      have hq := SeqAt.items_eqAt (vs := its.toArray) (show ReadsAll s.heap its.toArray.toList ds as from h4) r1 lay (SeqAt.canLay_of_shaped sd) room
      have ec : its.toArray.toList.countP (fun u => PyData.eqv (SeqAt.readOf s.heap u) d) = ds.countP fun z => PyData.eqv z d := by
        rw [← em, List.countP_map]
        rfl
      refine call_meets PySem.F.slot_list_count ⟨_, ho, rfl⟩ PySem.F.entry_list_count (PySem.F.args_list_count_2 _ _)
        (SeqAt.list_countAt a its.toArray n dd sls w1 (fun u => PyData.eqv (SeqAt.readOf s.heap u) d)) ⟨ho, hq, ?_⟩
      refine ⟨.int ((ds.countP fun z => PyData.eqv z d : Nat) : Int), H, I.tok _, ⟨s.toks, ?_⟩, q⟩
      rw [← ec]
end

/-! ### set(xs) of a list or a tuple of texts -/
def inK (ks : Nat → Key) (n : Nat) (k : Key) : Bool := (List.range n).any fun j => decide (ks j = k)
theorem inK_succ (ks : Nat → Key) (n : Nat) (k : Key) : inK ks (n + 1) k = (inK ks n k || decide (k = ks n)) := by
  unfold inK
  rw [List.range_succ, List.any_append, List.any_cons, List.any_nil, Bool.or_false]
  congr 1
  by_cases h : k = ks n
  · subst h; simp
  · rw [decide_eq_false h, decide_eq_false (fun z => h z.symm)]
theorem inK_iff {ks : Nat → Key} {n : Nat} {k : Key} : inK ks n k = true ↔ ∃ j, j < n ∧ ks j = k := by
  unfold inK
  rw [List.any_eq_true]
  constructor
  · rintro ⟨j, hj, e⟩; exact ⟨j, List.mem_range.mp hj, of_decide_eq_true e⟩
  · rintro ⟨j, hj, e⟩; exact ⟨j, List.mem_range.mpr hj, decide_eq_true e⟩
@[reducible] def sObj (led : Bool) : Obj := { cls := .type "set", dict := none, data := .set #[] 0 (.fresh 0 0 led) }
section
variable {P : Program} {w : World} {A : Around} {E : Value → Shared → Prop} {s : Shared}
theorem setof_at {h h' : Heap} {a : Addr} {S : Key → Bool} {c : Nat} (x : h.SetOf (mixKind P w) a S c) (k : ∀ o, h.get? a = some o → h'.get? a = some o) : h'.SetOf (mixKind P w) a S c := by
  obtain ⟨o, es, ep, t, ho, r⟩ := x
  exact ⟨o, es, ep, t, k o ho, r⟩
theorem set_upd {I : Addr} {fp wr : List Addr} {Gm : Array GenState → Array GenState → Prop} {n : Nat} {Pv : Nat → Value → Prop} {Sv : Nat → Shared → Prop} {R : Result → Shared → Prop}
    (W : WalksS P w A.in1 I fp wr Gm n Pv Sv) (z : Addr) (hz : z ∉ fp) (ks : Nat → Key) (hv : ∀ i v, Pv i v → keyIs (ks i) v = true ∧ v.scannable = true) (hb : n + 1 < scanBound) :
    ∀ (m i : Nat) (s : Shared), n - i = m → i ≤ n → Sv i s → (∃ c, c ≤ i ∧ s.heap.SetOf (mixKind P w) z (inK ks i) c) →
      (∀ s' c, Moved (z :: wr) Gm s s' → c ≤ n → s'.heap.SetOf (mixKind P w) z (inK ks n) c → R (.ok (.ret .none)) s') →
      codeAny (model P w) A (.builtin "set.update.loop" ⟨[.ref z, .ref I], []⟩) R s := by
  have hzw : z ∉ wr := fun q => hz (W.sub _ q)
  have up : ∀ b ∈ wr, b ∈ z :: wr := fun b q => List.mem_cons_of_mem _ q
  intro m
  induction m with
  | zero =>
    intro i s e1 e2 hst ⟨c, hc, hS⟩ hR
    obtain rfl : i = n := by omega
    refine codeAny_builtin PyProof.Rows.F.entry_set_update_loop ?_
    rw [Around.under_plainId PyProof.Rows.F.plain_set_update_loop _]
    show wpAny _ A.in1 (pyNext (.ref I) >>= _) _ _ s
    refine wpAny_bind (W.done s _ _ hst fun s2 mv => ?_)
    show wpAny _ A.in1 (ret Value.none) _ _ s2
    exact wpAny_pure (hR s2 c (mv.mono up) hc (setof_at hS fun o q => mv.heap z o hzw q))
  | succ m ih =>
    intro i s e1 e2 hst ⟨c, hc, hS⟩ hR
    have hi : i < n := by omega
    refine codeAny_builtin PyProof.Rows.F.entry_set_update_loop ?_
    rw [Around.under_plainId PyProof.Rows.F.plain_set_update_loop _]
    show wpAny _ A.in1 (pyNext (.ref I) >>= _) _ _ s
    refine wpAny_bind (W.item i s _ _ hi hst fun v s2 hP st2 mv => ?_)
    obtain ⟨hk, hsc⟩ := hv i v hP
    have hS2 : s2.heap.SetOf (mixKind P w) z (inK ks i) c := setof_at hS fun o q => mv.heap z o hzw q
    show wpAny _ A.in1 (holding [v] (setAdd z v) >>= _) _ _ s2
    refine wpAny_bind (wpAny_holding ?_)
    unfold setAdd
    refine wpAny_holding (wpAny_bind ((mixKind P w).pyHash (k := ks i) hk ?_))
    refine wpAny_setAddHashed_of (knd := mixKind P w) (s := { s2 with toks := s2.toks + 1 }) hk hsc hS2 (by omega) fun h3 sb hS3 => ?_
    refine wpAny_pure ⟨plainId_quiet PyProof.Rows.F.plain_set_update_loop _, ih (i + 1) _ (by omega) hi (W.frame _ s2 _ _ st2 (Nat.le_succ _) fun b q o e => ?_) ⟨if inK ks i (ks i) then c else c + 1, by split <;> omega, ?_⟩ fun s4 c4 mv4 hc4 hS4 => ?_⟩
    · rw [sb.2 b (fun q2 : b = z => hz (by rw [← q2]; exact q))]; exact e
    · have ef : inK ks (i + 1) = fun k' => inK ks i k' || decide (k' = ks i) := funext fun k' => inK_succ ks i k'
      rw [ef]
      exact hS3
    · refine hR s4 c4 (Moved.trans W.gtrans ((mv.mono up).then_heap (Nat.le_succ _) fun b o q e => ?_) mv4) hc4 hS4
      rw [sb.2 b (fun q2 : b = z => q (by rw [q2]; exact List.mem_cons_self))]; exact e
theorem setof_new {h : Heap} {a : Addr} {led : Bool} {ks : Nat → Key} (ho : h.get? a = some (sObj led)) : h.SetOf (mixKind P w) a (inK ks 0) 0 := by
  exact ⟨sObj led, #[], 0, .fresh 0 0 led, ho, ⟨rfl, rfl, rfl⟩, rfl, fun e he => absurd he (by simp), fun k => ⟨fun q => (nomatch q), fun ⟨e, he, _⟩ => absurd he (by simp)⟩, by decide, by rfl, rfl⟩
theorem grown2 {h : Heap} {o1 o2 : Obj} {b : Addr} {o : Obj} (e : h.get? b = some o) : ((h.push o1).push o2).get? b = some o := Heap.get?_push_of_some _ (Heap.get?_push_of_some _ e)
/-- what a new set knows -/
def SetSaid (s : Shared) (ks : Nat → Key) (n : Nat) (h2 : Heap) : Prop := ∃ c, c ≤ n ∧ h2.SetOf (mixKind P w) s.heap.objs.size (inK ks n) c ∧ ∀ b o, s.heap.get? b = some o → h2.get? b = some o
set_option maxHeartbeats 8000000 in
theorem call_setL {l : Addr} {items : Array Value} (ks : Nat → Key) {Q : Value → Shared → Prop} (hh : A.handled = none) (hl : s.heap.IsList l items)
    (hv : ∀ i v, items[i]? = some v → keyIs (ks i) v = true ∧ v.scannable = true) (hb : items.size + 1 < scanBound)
    (h : ∀ h2 tk, SetSaid (P := P) (w := w) s ks items.size h2 → Q (.ref s.heap.objs.size) { s with heap := h2, toks := tk }) : wpAny (model P w) A (call (.type "set") [.ref l]) Q E s := by
  obtain ⟨cc, tl, hmro⟩ := PySem.F.called_set.mro
  have hmade := PySem.F.called_set.made
  have hsub := PySem.F.called_set.sub
  refine wpAny_call (codeAny_of_tree ?_)
  show wpAny _ _ (callAny (.type "set") _) _ _ _
  refine wpAny_pure ⟨Code.quiet_builtin _ (by decide +kernel), codeAny_builtin PySem.F.entry_type_call ?_⟩
  rw [Around.under_plain (weight_type_call_type "set" [.ref l] []) rfl]
  have h1 := PySem.F.called_set.notType
  have h2 := PySem.F.called_set.canCreate
  have hct := PySem.F.typeCall_set_1 (.ref l)
  repeat (any_goals (first | assumption | wp_step))
  refine codeAny_mono (PySem.code_set_new_1 (.ref l) (E := E) (Q₁ := fun obj s1 => ∃ led : Bool, obj = .ref s.heap.objs.size ∧ s1 = { s with heap := s.heap.push (sObj led) }) fun led => ⟨led, rfl, rfl⟩) fun r s1 hr => ?_
  cases r with
  | error e => exact hr
  | ok fl =>
    cases fl with
    | ret obj =>
      obtain ⟨led, rfl, rfl⟩ := hr
      have gS : (s.heap.push (sObj led)).get? s.heap.objs.size = some (sObj led) := Heap.get?_push_size _ rfl
      have hT : Shared.TypeIs { s with heap := s.heap.push (sObj led) } (.ref s.heap.objs.size) "set" := ⟨_, gS, rfl⟩
      have hli := PySem.F.called_set.init.lookup
      have hbi := PySem.F.called_set.init.bind (.ref s.heap.objs.size)
      repeat (any_goals (first | assumption | wp_step))
      refine codeAny_mono (codeAny_call_builtin (R := wants (fun r s2 => r = .none ∧ ∃ h3 tk, s2 = { s with heap := h3, toks := tk } ∧ SetSaid (P := P) (w := w) s ks items.size h3) E) PySem.F.called_set.init.plain PySem.F.entry_set_init (PySem.check_set_init_1 hT ?_)) fun r2 s2 hr2 => ?_
      · obtain ⟨ol, hol, hcl, nl, hdl⟩ := hl
        obtain ⟨ocls, odict, odata, osl⟩ := ol
        simp only at hcl hdl
        subst hcl; subst hdl
        have gl : (s.heap.push (sObj led)).get? l = some { cls := .type "list", dict := odict, data := .seq items nl, slots := osl } := Heap.get?_push_of_some _ hol
        have hsls := PySem.F.sub_list_set
        have hslf := PySem.F.sub_list_frozenset
        have hne : (Value.type "list" == Value.type "dict") = false := by decide
        have il : (s.heap.push (sObj led)).IsList l items := ⟨_, gl, rfl, nl, rfl⟩
        unfold Builtin.«set.__init__» noKeywords Builtin.Frozenset.updateFrom
        generalize hPI : pyIter = PI
        wp_walk
        subst hPI
        refine wpAny_pyIter_list il ?_
        refine wpAny_bind (wpAny_runValue ?_)
        have lS : l < s.heap.objs.size := Heap.lt_size hol
        have h3 : A.in1.in1.in1.handled = none := by simp [hh]
        have neI : l ≠ (s.heap.push (sObj led)).objs.size := by
          rw [Heap.size_push]; exact Nat.ne_of_lt (Nat.lt_succ_of_lt lS)
        have off : s.heap.objs.size ∉ [(s.heap.push (sObj led)).objs.size, l] := by
          rw [Heap.size_push]; simp only [List.mem_cons, List.mem_singleton, List.not_mem_nil, or_false, not_or]
          exact ⟨Nat.ne_of_lt (Nat.lt_succ_self _), Nat.ne_of_gt lS⟩
        refine set_upd ((Walks.list h3 _ l neI items).toS) s.heap.objs.size off ks hv hb (items.size - 0) 0 _ (by omega) (Nat.zero_le _)
          ⟨⟨_, Heap.get?_push_size _ rfl, rfl, rfl⟩, (il.push _)⟩ ⟨0, Nat.le_refl 0, setof_new (led := led) (Heap.get?_push_of_some _ gS)⟩ ?_
        intro s4 c mv hc hS
        obtain ⟨h5, g5, d5, t5, o5⟩ := s4
        obtain rfl : g5 = s.gens := mv.gens
        obtain rfl : d5 = s.drawn := mv.drawn
        obtain rfl : o5 = s.os := mv.os
        show wpAny _ _ _ _ _ _
        refine wpAny_pure ?_
        show wpAny _ _ (ret Value.none) _ _ _
        refine wpAny_pure ⟨rfl, h5, t5, rfl, c, hc, hS, fun b o e => ?_⟩
        have hb0 : b < s.heap.objs.size := Heap.lt_size e
        refine mv.heap b o ?_ (grown2 e)
        rw [Heap.size_push]
        simp only [List.mem_cons, List.mem_singleton, List.not_mem_nil, or_false, not_or]
        exact ⟨Nat.ne_of_lt hb0, Nat.ne_of_lt (Nat.lt_succ_of_lt hb0)⟩
      · cases r2 with
        | error e => exact hr2
        | ok f2 =>
          cases f2 with
          | ret r =>
            obtain ⟨rfl, h5, tk, rfl, hS⟩ := hr2
            repeat (any_goals (first | assumption | wp_step))
            exact h _ _ hS
          | _ => exact hr2.elim
    | _ => exact hr.elim
set_option maxHeartbeats 8000000 in
theorem call_setT {l : Addr} {items : Array Value} (ks : Nat → Key) {Q : Value → Shared → Prop} (hh : A.handled = none) (hl : s.heap.IsTuple l items)
    (hv : ∀ i v, items[i]? = some v → keyIs (ks i) v = true ∧ v.scannable = true) (hb : items.size + 1 < scanBound)
    (h : ∀ h2 tk, SetSaid (P := P) (w := w) s ks items.size h2 → Q (.ref s.heap.objs.size) { s with heap := h2, toks := tk }) : wpAny (model P w) A (call (.type "set") [.ref l]) Q E s := by
  obtain ⟨cc, tl, hmro⟩ := PySem.F.called_set.mro
  have hmade := PySem.F.called_set.made
  have hsub := PySem.F.called_set.sub
  refine wpAny_call (codeAny_of_tree ?_)
  show wpAny _ _ (callAny (.type "set") _) _ _ _
  refine wpAny_pure ⟨Code.quiet_builtin _ (by decide +kernel), codeAny_builtin PySem.F.entry_type_call ?_⟩
  rw [Around.under_plain (weight_type_call_type "set" [.ref l] []) rfl]
  have h1 := PySem.F.called_set.notType
  have h2 := PySem.F.called_set.canCreate
  have hct := PySem.F.typeCall_set_1 (.ref l)
  repeat (any_goals (first | assumption | wp_step))
  refine codeAny_mono (PySem.code_set_new_1 (.ref l) (E := E) (Q₁ := fun obj s1 => ∃ led : Bool, obj = .ref s.heap.objs.size ∧ s1 = { s with heap := s.heap.push (sObj led) }) fun led => ⟨led, rfl, rfl⟩) fun r s1 hr => ?_
  cases r with
  | error e => exact hr
  | ok fl =>
    cases fl with
    | ret obj =>
      obtain ⟨led, rfl, rfl⟩ := hr
      have gS : (s.heap.push (sObj led)).get? s.heap.objs.size = some (sObj led) := Heap.get?_push_size _ rfl
      have hT : Shared.TypeIs { s with heap := s.heap.push (sObj led) } (.ref s.heap.objs.size) "set" := ⟨_, gS, rfl⟩
      have hli := PySem.F.called_set.init.lookup
      have hbi := PySem.F.called_set.init.bind (.ref s.heap.objs.size)
      repeat (any_goals (first | assumption | wp_step))
      refine codeAny_mono (codeAny_call_builtin (R := wants (fun r s2 => r = .none ∧ ∃ h3 tk, s2 = { s with heap := h3, toks := tk } ∧ SetSaid (P := P) (w := w) s ks items.size h3) E) PySem.F.called_set.init.plain PySem.F.entry_set_init (PySem.check_set_init_1 hT ?_)) fun r2 s2 hr2 => ?_
      · obtain ⟨ol, hol, hcl, nl, hdl⟩ := hl
        obtain ⟨ocls, odict, odata, osl⟩ := ol
        simp only at hcl hdl
        subst hcl; subst hdl
        have gl : (s.heap.push (sObj led)).get? l = some { cls := .type "tuple", dict := odict, data := .seq items nl, slots := osl } := Heap.get?_push_of_some _ hol
        have hsls := PySem.F.sub_tuple_set
        have hslf := PySem.F.sub_tuple_frozenset
        have hne : (Value.type "tuple" == Value.type "dict") = false := by decide
        have il : (s.heap.push (sObj led)).IsTuple l items := ⟨_, gl, rfl, nl, rfl⟩
        unfold Builtin.«set.__init__» noKeywords Builtin.Frozenset.updateFrom
        generalize hPI : pyIter = PI
        wp_walk
        subst hPI
        refine wpAny_pyIter_tuple il ?_
        refine wpAny_bind (wpAny_runValue ?_)
        have lS : l < s.heap.objs.size := Heap.lt_size hol
        have h3 : A.in1.in1.in1.handled = none := by simp [hh]
        have neI : l ≠ (s.heap.push (sObj led)).objs.size := by
          rw [Heap.size_push]; exact Nat.ne_of_lt (Nat.lt_succ_of_lt lS)
        have off : s.heap.objs.size ∉ [(s.heap.push (sObj led)).objs.size, l] := by
          rw [Heap.size_push]; simp only [List.mem_cons, List.mem_singleton, List.not_mem_nil, or_false, not_or]
          exact ⟨Nat.ne_of_lt (Nat.lt_succ_self _), Nat.ne_of_gt lS⟩
        refine set_upd ((Walks.tuple h3 _ l neI items).toS) s.heap.objs.size off ks hv hb (items.size - 0) 0 _ (by omega) (Nat.zero_le _)
          ⟨⟨_, Heap.get?_push_size _ rfl, rfl, rfl⟩, (il.push _)⟩ ⟨0, Nat.le_refl 0, setof_new (led := led) (Heap.get?_push_of_some _ gS)⟩ ?_
        intro s4 c mv hc hS
        obtain ⟨h5, g5, d5, t5, o5⟩ := s4
        obtain rfl : g5 = s.gens := mv.gens
        obtain rfl : d5 = s.drawn := mv.drawn
        obtain rfl : o5 = s.os := mv.os
        show wpAny _ _ _ _ _ _
        refine wpAny_pure ?_
        show wpAny _ _ (ret Value.none) _ _ _
        refine wpAny_pure ⟨rfl, h5, t5, rfl, c, hc, hS, fun b o e => ?_⟩
        have hb0 : b < s.heap.objs.size := Heap.lt_size e
        refine mv.heap b o ?_ (grown2 e)
        rw [Heap.size_push]
        simp only [List.mem_cons, List.mem_singleton, List.not_mem_nil, or_false, not_or]
        exact ⟨Nat.ne_of_lt hb0, Nat.ne_of_lt (Nat.lt_succ_of_lt hb0)⟩
      · cases r2 with
        | error e => exact hr2
        | ok f2 =>
          cases f2 with
          | ret r =>
            obtain ⟨rfl, h5, tk, rfl, hS⟩ := hr2
            repeat (any_goals (first | assumption | wp_step))
            exact h _ _ hS
          | _ => exact hr2.elim
    | _ => exact hr.elim
end
/-- .. over the layer: a set of texts -/
def strSet (P : Program) (w : World) (xs : List Str) (a : Addr) (o : HO) : Prop := ∃ c, o = SetK P w a (fun k => xs.any fun x => decide (k = Sum.inr x)) c
def rSetS (K : PySem.W.Frag) (P : Program) (w : World) : List V → Hp → VK → Prop := fun vs H Q => ∃ (a : Addr) (xs : List Str), vs = [V.ref a] ∧ (SqL K H a (xs.map V.str) ∨ SqT K H a (xs.map V.str)) ∧ xs.length < 1000 ∧
  ∀ p o, H p = none → strSet P w xs p o → Q (.ref p) (upd H p o)
theorem vals_strs {xs : List Str} {its : List Value} (r : Vals (xs.map V.str) its) (i : Nat) (v : Value) (h : its[i]? = some v) : keyIs (Sum.inr (xs.getD i Str.empty)) v = true ∧ v.scannable = true := by
  have hl := r.length
  have hi := (List.getElem?_eq_some_iff.mp h).1
  rw [List.length_map] at hl
  have hx : (xs.map V.str)[i]? = some (V.str (xs.getD i Str.empty)) := by
    rw [List.getElem?_map, List.getD_eq_getElem?_getD, List.getElem?_eq_getElem (by omega)]
    rfl
  obtain ⟨u, hu, t, e⟩ := r.get hx
  rw [h] at hu
  cases hu
  subst e
  exact ⟨keyIs_str _ t, rfl⟩
theorem inK_strs (xs : List Str) : inK (fun i => Sum.inr (xs.getD i Str.empty)) xs.length = fun k => xs.any fun x => decide (k = Sum.inr x) := by
  funext k
  rw [Bool.eq_iff_iff, inK_iff, List.any_eq_true]
  constructor
  · rintro ⟨j, hj, e⟩
    refine ⟨xs[j], List.getElem_mem hj, decide_eq_true ?_⟩
    rw [← e, List.getD_eq_getElem?_getD, List.getElem?_eq_getElem hj]
    rfl
  · rintro ⟨x, hx, e⟩
    obtain ⟨j, hj, ej⟩ := List.getElem_of_mem hx
    refine ⟨j, hj, ?_⟩
    rw [of_decide_eq_true e, List.getD_eq_getElem?_getD, List.getElem?_eq_getElem hj, ← ej]
    rfl
theorem cx_setS {X : Cx} (hc : X.calm = true) : CallR X (.type "set") (rSetS X.K X.prog X.w) := by
  intro pins s σ H vs us Q I r h
  obtain ⟨a, xs, rfl, ha, hl, q⟩ := h
  obtain ⟨u, rfl, ru⟩ := vals1 r
  cases ru
  have fin : ∀ h2 tk, SetSaid (P := X.prog) (w := X.w) s (fun i => Sum.inr (xs.getD i Str.empty)) xs.length h2 → EP X pins σ Q (.ref s.heap.objs.size) { s with heap := h2, toks := tk } := by
    rintro h2 tk ⟨c, hc', hS, kp⟩
    rw [inK_strs] at hS
    have hn : H s.heap.objs.size = none := I.hok.fresh (Nat.le_refl _)
    exact ⟨.ref _, _, I.laid (t' := tk) kp (Nat.le_refl _) (setK_new hS), rfl, q _ _ hn ⟨c, rfl⟩⟩
  rcases ha with ha | ha
  · obtain ⟨its, rv, pl, hz⟩ := I.list ha
    have e := rv.length
    rw [List.length_map] at e
    have e2 : its.toArray.size = xs.length := by simp [e]
    refine call_setL (fun i => Sum.inr (xs.getD i Str.empty)) (I.ok.hd hc) pl.isList (fun i v hv => vals_strs rv i v (by simpa using hv)) (by rw [e2]; unfold scanBound; omega) fun h2 tk hS => ?_
    rw [e2] at hS
    exact fin h2 tk hS
  · obtain ⟨its, rv, pl, hz⟩ := I.tuple ha
    have e := rv.length
    rw [List.length_map] at e
    have e2 : its.toArray.size = xs.length := by simp [e]
    refine call_setT (fun i => Sum.inr (xs.getD i Str.empty)) (I.ok.hd hc) pl (fun i v hv => vals_strs rv i v (by simpa using hv)) (by rw [e2]; unfold scanBound; omega) fun h2 tk hS => ?_
    rw [e2] at hS
    exact fin h2 tk hS
end Dl
end
section
set_option maxRecDepth 100000
set_option maxHeartbeats 1000000
namespace Dl
open PySem L2
section
variable {F : Fx} {B : Bs} {δ : Env} {μ : Mu} {K : PySem.W.Frag} {ta tb te : TE} {k k1 k2 k' : Know} {r : R2} {m : MO} {σ : L2.St} {H : Hp} {D : Ends} {post : V → Hp → Hp → Prop} {n : L2.St → Hp → Prop}

/-! ### short names -/
abbrev iK (i : Int) : Know := valK (.int i)
abbrev sK (x : Str) : Know := valK (.str x)
abbrev bK (b : Bool) : Know := valK (.bl b)
abbrev intsK (xs : List Int) : Know := listK (xs.map iK)
abbrev strsK (xs : List Str) : Know := listK (xs.map sK)
theorem allK_val {α : Type} {f : α → V} {G : Hp} : ∀ {xs : List α} {vs : List V}, AllK G vs (xs.map fun x => valK (f x)) → vs = xs.map f
  | [], _, .nil => rfl
  | x :: xs, v :: vs, .cons a b => by
    have e : v = f x := a
    rw [e, allK_val b, List.map_cons]
theorem allK_of_val {α : Type} {f : α → V} {G : Hp} : ∀ (xs : List α), AllK G (xs.map f) (xs.map fun x => valK (f x))
  | [] => .nil
  | _ :: xs => .cons rfl (allK_of_val xs)

/-! ### texts -/
theorem rk_strs {a b : Str} (h : a.length + b.length ≤ sizeLine) : Rk F μ rAddStr (sK a) (sK b) (sK (a ++ b)) := rk_addS rfl h
theorem ek_slS {tl th : TO} {z : Str} {lo hi : Option Int} (h : Ek F te δ μ (sK z)) (hl : EOk F tl δ μ lo) (hh : EOk F th δ μ hi) (hz : z.length ≤ sizeLine) : Ek F (tSl rSlS te tl th) δ μ (sK (cutS z lo hi)) := fun G H σ st Q q =>
  h G H σ st _ fun x G1 H1 g1 j1 p1 => hl G1 H1 σ (st.step g1 j1) _ fun G2 H2 g2 j2 => hh G2 H2 σ ((st.step g1 j1).step g2 j2) _ fun G3 H3 g3 j3 => ⟨z, p1, hz, q _ G3 H3 ((g1.trans g2).trans g3) j3 rfl⟩
theorem ek_join {z : Str} {ys : List Str} (h : Ek F ta δ μ (sK z)) (he : Ek F te δ μ (strsK ys)) (hz : (ys.map (·.length)).sum + ys.length * z.length ≤ 16777216) : Ek F (tM1 (rJoinQ K) ta te) δ μ (sK (Txt.join z ys)) := fun G H σ st Q q =>
  h G H σ st _ fun x G1 H1 g1 j1 p1 => ⟨⟨z, p1⟩, he G1 H1 σ (st.step g1 j1) _ fun y G2 H2 g2 j2 p2 => by
    obtain ⟨a, vs, rfl, ha, r⟩ := p2
    have e := allK_val r
    subst e
    exact ⟨z, a, ys, p1, rfl, .inl (.inl (.inl (g2.gh _ _ ha))), hz, q _ G2 H2 (g1.trans g2) j2 rfl⟩⟩
/-- .. of texts that are drawn -/
theorem ek_joinx {z : Str} {α : Type} {ys : α → List Str} (h : Ek F ta δ μ (sK z)) (he : Ek F te δ μ (exK fun x => strsK (ys x))) (hz : ∀ x, ((ys x).map (·.length)).sum + (ys x).length * z.length ≤ 16777216) : Ek F (tM1 (rJoinQ K) ta te) δ μ (exK fun x => sK (Txt.join z (ys x))) := fun G H σ st Q q =>
  h G H σ st _ fun x G1 H1 g1 j1 p1 => ⟨⟨z, p1⟩, he G1 H1 σ (st.step g1 j1) _ fun y G2 H2 g2 j2 ⟨u, p2⟩ => by
    obtain ⟨a, vs, rfl, ha, r⟩ := p2
    have e := allK_val r
    subst e
    exact ⟨z, a, ys u, p1, rfl, .inl (.inl (.inl (g2.gh _ _ ha))), hz u, q _ G2 H2 (g1.trans g2) j2 ⟨u, rfl⟩⟩⟩
/-- f'..' -/
def ETs (F : Fx) (ts : List TE) (δ : Env) (μ : Mu) (acc out : Str) : Prop := ∀ G H σ, Stt F G H δ μ σ → ∀ Q : Str → Hp → Prop, (∀ G' H', Gr F.P G H G' H' → F.J G' H' → Q out H') → tJs ts acc σ H Q
theorem ets_nil {acc : Str} : ETs F [] δ μ acc acc := fun G H σ st Q q => q G H (.refl st.sub) st.j
theorem ets_cons {ts : List TE} {acc y out : Str} (h : Ek F te δ μ (sK y)) (hz : (acc ++ y).length ≤ sizeLine) (hr : ETs F ts δ μ (acc ++ y) out) : ETs F (te :: ts) δ μ acc out := fun G H σ st Q q =>
  h G H σ st _ fun x G1 H1 g1 j1 p1 => ⟨y, p1, hz, hr G1 H1 σ (st.step g1 j1) _ fun G2 H2 g2 j2 => q G2 H2 (g1.trans g2) j2⟩
theorem ek_joined {ts : List TE} {out : Str} (h : ETs F ts δ μ Str.empty out) : Ek F (tJoined ts) δ μ (sK out) := fun G H σ st Q q => h G H σ st _ fun G1 H1 g1 j1 => q _ G1 H1 g1 j1 rfl
theorem ek_fmtI {i : Int} (h : Ek F te δ μ (iK i)) (hi : i.natAbs.log2 < 1920) : Ek F (tFmt te) δ μ (sK (toString i)) := fun G H σ st Q q =>
  h G H σ st _ fun x G1 H1 g1 j1 p1 => .inr ⟨i, p1, hi, q _ G1 H1 g1 j1 rfl⟩

/-! ### in -/
theorem flatV_all {α : Type} {f : α → V} (h : ∀ x, flatV (f x) = true) (xs : List α) : (xs.map f).all flatV = true := by
  rw [List.all_map, List.all_eq_true]
  exact fun x _ => h x
theorem rk_in {α : Type} {f : α → V} {neg : Bool} {v : V} {xs : List α} (hr : Rd F μ k2 (xs.map fun x => valK (f x))) (hv : flatV v = true) (hf : ∀ x, flatV (f x) = true) : Rk F μ (rIn K neg) (valK v) k2 (bK (if neg then !inV v (xs.map f) else inV v (xs.map f))) := fun G H x y s j o p1 p2 Q q => by
  obtain ⟨a, vs, rfl, ha, rr⟩ := hr G H y s o p2
  have e := allK_val rr
  subst e
  have e1 : x = v := p1
  subst e1
  exact ⟨a, xs.map f, rfl, .inl (.inl (.inl ha)), hv, flatV_all hf xs, q _ G H (.refl s) j rfl⟩
theorem inV_str {x : Str} {xs : List Str} : inV (.str x) (xs.map V.str) = decide (x ∈ xs) := by
  unfold inV
  rw [List.any_map]
  rw [Bool.eq_iff_iff, List.any_eq_true, decide_eq_true_iff]
  constructor
  · rintro ⟨y, hy, e⟩
    have e : eqV (.str y) (.str x) = true := e
    have : y = x := by simpa [eqV] using e
    exact this ▸ hy
  · intro h
    exact ⟨x, h, by simp [eqV]⟩
theorem rk_inS {x : Str} {xs : List Str} (hr : Rd F μ k2 (xs.map sK)) : Rk F μ (rIn K false) (sK x) k2 (bK (decide (x ∈ xs))) := by
  have h := rk_in (K := K) (neg := false) (v := .str x) (f := V.str) hr rfl (fun _ => rfl)
  rw [if_neg Bool.false_ne_true, inV_str] at h
  exact h
theorem rk_niS {x : Str} {xs : List Str} (hr : Rd F μ k2 (xs.map sK)) : Rk F μ (rIn K true) (sK x) k2 (bK (!decide (x ∈ xs))) := by
  have h := rk_in (K := K) (neg := true) (v := .str x) (f := V.str) hr rfl (fun _ => rfl)
  rw [if_pos rfl, inV_str] at h
  exact h
/-! ### sets of texts -/
def setKn (P : Program) (w : World) (xs : List Str) : Know := ⟨fun v G => ∃ a o, v = .ref a ∧ G a = some o ∧ strSet P w xs a o, fun s ⟨a, o, e, h, q⟩ => ⟨a, o, e, s _ _ h, q⟩⟩
theorem rk_inSet {P : Program} {w : World} {x : Str} {xs : List Str} {neg : Bool} : Rk F μ (rSInK P w neg) (sK x) (setKn P w xs) (bK (if neg then !decide (x ∈ xs) else decide (x ∈ xs))) := fun G H u y s j o p1 p2 Q q => by
  obtain ⟨a, ob, rfl, ha, c, e⟩ := p2
  subst e
  have e1 : u = .str x := p1
  subst e1
  refine ⟨.inr x, a, _, c, rfl, rfl, s _ _ ha, q _ G H (.refl s) j ?_⟩
  have e2 : (xs.any fun z => decide ((Sum.inr x : Key) = Sum.inr z)) = decide (x ∈ xs) := by
    rw [Bool.eq_iff_iff, List.any_eq_true, decide_eq_true_iff]
    constructor
    · rintro ⟨z, hz, e⟩
      have := Sum.inr.inj (of_decide_eq_true e)
      exact this ▸ hz
    · intro h
      exact ⟨x, h, decide_eq_true rfl⟩
  rw [e2]
  rfl
theorem cr_setL {P : Program} {w : World} {xs : List Str} (hr : Rd F μ k1 (xs.map sK)) (hl : xs.length < 1000) : CRk F μ (rSetS K P w) [k1] (setKn P w xs) := fun G H vs s j o p Q q => by
  obtain ⟨v, rfl, p'⟩ := allK1 p
  obtain ⟨a, ws, rfl, ha, rr⟩ := hr G H v s o p'
  have e := allK_val rr
  subst e
  exact ⟨a, xs, rfl, .inl (.inl (.inl ha)), hl, fun p ob hp hs => q _ (upd G p ob) _ (Gr.new s hp) (F.new s hp j) ⟨p, ob, rfl, upd_same, hs⟩⟩
theorem cr_setT {P : Program} {w : World} {xs : List Str} (hl : xs.length < 1000) : CRk F μ (rSetS K P w) [tupK K (xs.map sK)] (setKn P w xs) := fun G H vs s j o p Q q => by
  obtain ⟨v, rfl, p'⟩ := allK1 p
  obtain ⟨a, ws, rfl, ha, rr⟩ := p'
  have e := allK_val rr
  subst e
  exact ⟨a, xs, rfl, .inr (seqT_mono s ha), hl, fun p ob hp hs => q _ (upd G p ob) _ (Gr.new s hp) (F.new s hp j) ⟨p, ob, rfl, upd_same, hs⟩⟩

/-! ### max, sum, range backwards, isinstance, index -/
theorem cr_maxL {ns : List Int} {m : Int} (hr : Rd F μ k1 (ns.map iK)) (h0 : 0 < ns.length) (hm : ∀ z, z ∈ ns → (∀ y, y ∈ ns → y ≤ z) → z = m) : CRk F μ (rMax K) [k1] (iK m) := fun G H vs s j o p Q q => by
  obtain ⟨v, rfl, p'⟩ := allK1 p
  obtain ⟨a, ws, rfl, ha, rr⟩ := hr G H v s o p'
  have e := allK_val rr
  subst e
  refine ⟨a, ns, rfl, .inl (.inl ha), h0, fun z h1 h2 => ?_⟩
  rw [hm z h1 h2]
  exact q _ G H (.refl s) j rfl
theorem cr_sumL {ns : List Int} (hr : Rd F μ k1 (ns.map iK)) : CRk F μ (rSum K) [k1] (iK ns.sum) := fun G H vs s j o p Q q => by
  obtain ⟨v, rfl, p'⟩ := allK1 p
  obtain ⟨a, ws, rfl, ha, rr⟩ := hr G H v s o p'
  have e := allK_val rr
  subst e
  exact ⟨a, ns, rfl, .inl (.inl ha), q _ G H (.refl s) j rfl⟩
theorem ei_revR {n : Nat} (h : Ek F te δ μ (iK (n : Int))) (hn : (n : Int) < 2 ^ 62) : EI F (iRevR (tRg1 te)) δ μ n (fun i => iK ((n : Int) - 1 - (i : Int))) := fun G H σ st R q =>
  h G H σ st _ fun v G1 H1 g1 j1 e => by
    have e : v = .int n := e
    subst e
    refine ⟨n, rfl, by omega, by omega, by omega, hn, ?_⟩
    have e1 : ((n : Int) - 0).toNat = n := by omega
    rw [e1]
    refine q _ G1 H1 (fun _ => True) (YFn fun i => .int (0 + (n : Int) - 1 + (i : Nat) * -1)) g1 j1 walk_rangeC (fun _ _ => trivial) fun i H2 x H3 G2 hi s1 s2 y => ?_
    obtain ⟨e, hx⟩ := y
    subst e
    refine ⟨G2, .refl s2, ?_⟩
    rw [hx]
    show V.int (0 + (n : Int) - 1 + (i : Nat) * -1) = V.int ((n : Int) - 1 - (i : Int))
    congr 1
    omega
theorem cr_isi {v : V} {t : Value} {c : String} {b : Bool} (hty : ∀ G : Hp, TyX K G v t) (hk : PySem.W.kitOne K t (.type c) = some b) : CRk F μ (rIsi K) [valK v, valK (.ty c)] (bK b) := fun G H vs s j o p Q q => by
  obtain ⟨x, y, rfl, e1, e2⟩ := allK2 p
  have e1 : x = v := e1
  have e2 : y = .ty c := e2
  subst e1 e2
  exact ⟨x, _, t, .type c, b, rfl, ClsV.ty c, hty H, hk, q _ G H (.refl s) j rfl⟩
theorem ek_bmL {rr : V → List V → Hp → VK → Prop} {t : TA} {ks ls : List Know} (hr : Rd F μ k1 ks) (ho : Ek F ta δ μ k1) (ha : EAk F t δ μ ls)
    (h : ∀ G H x vs, Same G H → F.J G H → OwnK F G H μ → k1.p x G → AllK G vs ls → ∀ Q : VK, (∀ v G' H', Gr F.P G H G' H' → F.J G' H' → k.p v G' → Q v H') → rr x vs H Q) : Ek F (tBM K "list" rr ta t) δ μ k := fun G H σ st Q q =>
  ho G H σ st _ fun x G1 H1 g1 j1 p1 => by
    have st1 := st.step g1 j1
    obtain ⟨a, ws, rfl, hA, _⟩ := hr G1 H1 x g1.gh st1.own p1
    refine ⟨.inl ⟨rfl, ws, .inl (.inl hA)⟩, ?_⟩
    exact ha G1 H1 σ st1 _ fun vs G2 H2 g2 j2 p2 => h G2 H2 _ vs g2.gh j2 (st1.own.step g2) (k1.mono g2.gg p1) p2 Q fun v G3 H3 g3 j3 p3 => q v G3 H3 ((g1.trans g2).trans g3) j3 p3
theorem ek_indexS {x : Str} {xs : List Str} {j : Nat} (hr : Rd F μ k1 (xs.map sK)) (ho : Ek F ta δ μ k1) (he : Ek F te δ μ (sK x)) (hj : xs[j]? = some x) (hno : ∀ m y, m < j → xs[m]? = some y → y ≠ x) : Ek F (tBM K "list" (rIndex K) ta (tCons te tNil)) δ μ (iK (j : Int)) :=
  ek_bmL hr ho (ea_cons he ea_nil) fun G H u vs s jj o p1 p2 Q q => by
    obtain ⟨v, rfl, e⟩ := allK1 p2
    have e : v = .str x := e
    subst e
    obtain ⟨a, ws, rfl, ha, rr⟩ := hr G H u s o p1
    have e := allK_val rr
    subst e
    refine ⟨a, xs.map V.str, .str x, j, .str x, rfl, rfl, .inl (.inl ha), rfl, flatV_all (fun _ => rfl) xs, by rw [List.getElem?_map, hj]; rfl, by simp [eqV], fun m z hm hz => ?_, q _ G H (.refl s) jj rfl⟩
    rw [List.getElem?_map] at hz
    cases e : xs[m]? with
    | none => rw [e] at hz; cases hz
    | some y =>
      rw [e] at hz
      cases hz
      have := hno m y hm e
      simp [eqV, this]
theorem ek_countD {d : PyData} {α : Type} {f : α → Know} {g : α → PyData} {xs : List α} (hr : Rd F μ k1 (xs.map f)) (hd : ∀ x, x ∈ xs → IsD K (f x) (g x)) (ho : Ek F ta δ μ k1) (he : Ek F te δ μ k) (h2 : IsD K k d) (s1 : SeqAt.shaped (.list (xs.map g)) = true) (s2 : SeqAt.shaped d = true) :
    Ek F (tBM K "list" (rCountD K) ta (tCons te tNil)) δ μ (iK (((xs.map g).countP fun z => PyData.eqv z d : Nat) : Int)) :=
  ek_bmL hr ho (ea_cons he ea_nil) fun G H u vs s jj o p1 p2 Q q => by
    obtain ⟨v, rfl, e⟩ := allK1 p2
    obtain ⟨a, ws, rfl, ha, rr⟩ := hr G H u s o p1
    exact ⟨a, v, d, xs.map g, rfl, rfl, .lst (.inl (.inl ha)) (dpAll_mono s (isd_all xs hd _ _ rr)), dp_mono s (h2 v G e), s1, s2, q _ G H (.refl s) jj rfl⟩
/-! ### enumerate -/
theorem ei_enumL {ks : List Know} {d : Know} (h : Ek F te δ μ (listK ks)) : EI F (iEnum K (tCons te tNil)) δ μ ks.length (fun i => tupK K [iK (i : Int), (ks[i]?).getD d]) := fun G H σ st R q =>
  h G H σ st _ fun x G1 H1 g1 j1 p => by
    obtain ⟨a, vs, rfl, ha, r⟩ := p
    refine ⟨a, vs, rfl, .inl (.inl (g1.gh _ _ ha)), ?_⟩
    rw [← r.length] at q
    refine q _ G1 H1 (fun H => SqL K H a vs) (YPair (fun i => some (.int (i : Nat))) (fun i => vs[i]?)) g1 j1 walk_enum (fun H2 s => .inl (.inl (s _ _ ha))) fun i H2 x H3 G2 hi s1 s2 y => ?_
    obtain ⟨T, u, w, rfl, hT, rfl, e1, e2⟩ := y
    cases e1
    obtain ⟨k', hk, pk⟩ := r.getV e2
    refine ⟨upd G2 T (.tup [.int (i : Nat), w]), Gr.new s2 hT, T, [.int (i : Nat), w], rfl, .inl (.inl upd_same), .cons rfl (.cons ?_ .nil)⟩
    rw [hk]
    exact k'.mono (s1.trans (same_new (none_sub s2 hT))) pk
/-! ### returns that look at the whole state -/
theorem s_retS (hR : Rt F B post D.rt) (h : Ek F te δ μ k) (hp : ∀ v G H σ, Stt F G H δ μ σ → k.p v G → post v G H) : Tr F B δ μ (tRet te) D := fun σ H ⟨G, z⟩ =>
  h G H σ z.st _ fun v G1 H1 g1 j1 p => hR v G1 H1 (z.step g1 j1).gr j1 (hp v G1 H1 σ (z.step g1 j1).st p)
end

/-! ### the drawing pool -/
structure Pl where
  p : Addr
  c : Addr
  l : Addr
  t : Addr
structure PoolIs (cs ls : List Int) (k : Int) : Prop where
  n0 : 0 < cs.length
  ln : ls.length = cs.length
  c0 : ∀ x ∈ cs, 0 ≤ x
  l0 : ∀ x ∈ ls, 0 ≤ x
  k0 : 0 ≤ k
def PoolJ (pl : Pl) (G H : Hp) : Prop := pl.l ≠ pl.t ∧ G pl.p = some (.lst [.ref pl.c, .ref pl.l, .ref pl.t]) ∧ G pl.l = none ∧ G pl.t = none ∧
  ∃ cs ls k, PoolIs cs ls k ∧ G pl.c = some (.lst (cs.map V.int)) ∧ H pl.l = some (.lst (ls.map V.int)) ∧ H pl.t = some (.lst [.int k])
def FP (pl : Pl) : Fx := ⟨[pl.l, pl.t], PoolJ pl, fun G H G' H' s h ⟨e, a, b, c, cs, ls, k, i, x, y, z⟩ => by
    obtain ⟨l1, l2⟩ := h pl.l (by simp)
    obtain ⟨t1, t2⟩ := h pl.t (by simp)
    exact ⟨e, s _ _ a, l2 b, t2 c, cs, ls, k, i, s _ _ x, by rw [l1]; exact y, by rw [t1]; exact z⟩,
  fun G H ⟨e, a, b, c, cs, ls, k, i, x, y, z⟩ q hq => by
    rcases List.mem_cons.mp hq with rfl | hq
    · exact ⟨nn_of y, b⟩
    · rw [List.mem_singleton.mp hq]; exact ⟨nn_of z, c⟩⟩
abbrev poolK (pl : Pl) : Know := valK (.ref pl.p)
/-- at this very place -/
def atK (a : Addr) (k : Know) : Know := ⟨fun v G => v = .ref a ∧ k.p v G, fun s ⟨e, h⟩ => ⟨e, k.mono s h⟩⟩
theorem rd_at {F : Fx} {μ : Mu} {a : Addr} {ks : List Know} : Rd F μ (atK a (listK ks)) ks := fun G H v s _ ⟨_, a, vs, e, h, r⟩ => ⟨a, vs, e, s _ _ h, r⟩
/-- the pool opened -/
def poolOpen (cs : List Int) (pl : Pl) : Know := atK pl.p (listK [atK pl.c (intsK cs), valK (.ref pl.l), valK (.ref pl.t)])
section
variable {pl : Pl} {B : Bs} {δ : Env} {n : L2.St → Hp → Prop} {post : V → Hp → Hp → Prop} {rt : VK}
theorem to_poolOpen {i : Nat} (hi : δ[i]? = some (some (poolK pl))) (h : ∀ cs ls k, PoolIs cs ls k → To F0 B (δ.set i (some (poolOpen cs pl))) [(pl.l, .lst (ls.map iK)), (pl.t, .lst [iK k])] n) : To (FP pl) B δ [] n := fun σ H ⟨G, z⟩ => by
  obtain ⟨e, a, b, c, cs, ls, k, i', x, y, w⟩ := z.st.j
  obtain ⟨v, hv, ev⟩ := z.st.env.get hi
  have ev : v = .ref pl.p := ev
  subst ev
  have q := z.setS i (v := .ref pl.p) (k := poolOpen cs pl) ⟨rfl, pl.p, _, rfl, a, .cons ⟨rfl, pl.c, _, rfl, x, allK_of_val cs⟩ (.cons rfl (.cons rfl .nil))⟩
  have hs : σ.set i (some (.ref pl.p)) = σ := by
    apply List.ext_getElem?
    intro j
    by_cases hj : i = j
    · subst hj
      rw [List.getElem?_set_self (List.getElem?_eq_some_iff.mp hv).1, hv]
    · rw [List.getElem?_set_ne hj]
  rw [hs] at q
  refine h cs ls k i' σ H ⟨G, q.s0, q.gr, ⟨q.st.sub, trivial, q.st.env, ⟨?_, fun r u hm => ?_⟩⟩, fun r hr => absurd hr (by simp [F0]), fun r u hm => ?_⟩
  · simp [e]
  · rcases List.mem_cons.mp hm with hm | hm
    · cases hm; exact ⟨b, by simp [F0], _, y, _, rfl, allK_of_val ls⟩
    · cases List.mem_singleton.mp hm; exact ⟨c, by simp [F0], _, w, _, rfl, .cons rfl .nil⟩
  · rcases List.mem_cons.mp hm with hm | hm
    · cases hm; exact z.fp _ (by simp [FP])
    · cases List.mem_singleton.mp hm; exact z.fp _ (by simp [FP])
theorem rt_poolOpen (h : Rt (FP pl) B post rt) : Rt F0 B (fun v G H => PoolJ pl G H ∧ post v G H) rt := fun v G H g _ q => h v G H g q.1 q.2
/-- the pool closed again -/
theorem pool_close {σ : L2.St} {G H : Hp} {i : Nat} {cs ls : List Int} {k : Int} (hp : PoolIs cs ls k) (st : Stt F0 G H δ [(pl.l, .lst (ls.map iK)), (pl.t, .lst [iK k])] σ) (hi : δ[i]? = some (some (poolOpen cs pl))) : PoolJ pl G H := by
  obtain ⟨v, hv, e, a, vs, e', ha, r⟩ := st.env.get hi
  subst e
  cases e'
  cases r with
  | cons r1 r => cases r with
    | cons r2 r => cases r with
      | cons r3 r =>
        cases r
        rename_i v1 v2 v3
        obtain ⟨e1, c', ws, e1', hc, rc⟩ := r1
        have e2 : v2 = .ref pl.l := r2
        have e3 : v3 = .ref pl.t := r3
        subst e1 e2 e3
        cases e1'
        have ec := allK_val rc
        subst ec
        obtain ⟨l1, _, o1, l3, vs1, l4, l5⟩ := st.own.has pl.l _ List.mem_cons_self
        obtain ⟨t1, _, o2, t3, vs2, t4, t5⟩ := st.own.has pl.t _ (List.mem_cons_of_mem _ List.mem_cons_self)
        subst l4 t4
        have q1 := allK_val l5
        subst q1
        have q2 : vs2 = [.int k] := allK_val (xs := [k]) (f := V.int) t5
        subst q2
        have nd := st.own.nd
        refine ⟨fun e => ?_, ha, l1, t1, cs, ls, k, hp, hc, l3, t3⟩
        simp [e] at nd
end
end Dl
end
section
set_option maxRecDepth 100000
set_option maxHeartbeats 1000000
namespace Dl
open PySem L2
section
variable {X : Cx} {CX : CXT} {E : XK} {k : Nat} {f : Addr} {fd : FuncData} {ps ks : List Str} {sp : Sp} {x : Str} {p pos : Pos} {kws : List Keyword} {tk : TA} {g : List Value → List Value → List Value} {gV : List V → List V → List V}
/-- f(k=e, ..), nothing by place -/
theorem pe_callK0 (F : FnOk X.prog X.w X.K X.mg X.base CX k f fd ps sp) (hr : Room k X.A) (hg : Gl X x) (hm : X.mg x = some (.ref f)) (hk : PySem.W.keepIn X.K (.ref f) = true) (hb : KBinds X.K fd ps ks g gV) (hx : Passes CX X E)
    (hkw : PK X kws tk) (h1 : (backToKw pos (keywordEach kws X.env)).all (·.1.isSome) = true := by rfl) (h2 : (backToKw pos (keywordEach kws X.env)).filterMap (·.1) = ks := by rfl)
    (hdb : (x == ("__debug__" : Str)) = false := by decide) (h3 : (backToKw pos (keywordEach kws X.env)).any (·.1.isNone) = false := by rfl) :
    PE X (.Call (.Name x p) [] kws pos) (tCallK sp gV E tNil tk) := by
  refine ⟨fun pins s σ H Q I h => ?_⟩
  refine wpAny_Call_Name_kw (ld_glob I hg hm ?_ hdb)
  refine PySem.W.callWith_KW0 (h₀ := X.base) I.ok.mod.kin hk h1 (thn (hkw.run pos pins s σ H _ I h) fun ws s2 ⟨zs, H2, I2, rz, q2⟩ => ?_) h3
  rw [h2]
  exact ⟨I2.kIn, run_fnk F hr hb hx I2 .nil rz q2⟩
end
section
variable {F : Fx} {B : Bs} {δ : Env} {μ : Mu} {k : Know} {D : Ends} {te : TE}
/-- an if without else, something behind it -/
theorem q_when {P : Bool → Prop} {c : TT} {t w : TS} (h : ETk F c δ μ P) (h1 : P true → Tr F B δ μ t { D with nx := w D }) (h2 : P false → Tr F B δ μ w D) : Tr F B δ μ (tSeq (tIfS c t tNext) w) D := s_if (D := { D with nx := w D }) h h1 h2
/-- if c: x = e, something behind it -/
theorem q_whenAsg {P : Bool → Prop} {c : TT} {w : TS} {i : Nat} (h : ETk F c δ μ P) (h1 : P true → Ek F te δ μ k) (h2 : P true → Tr F B (δ.set i (some k)) μ w D) (h3 : P false → Tr F B δ μ w D) : Tr F B δ μ (tSeq (tIfS c (tAsg te (gName i)) tNext) w) D :=
  s_if (D := { D with nx := w D }) h (fun p => s_asg (D := { D with nx := w D }) (h1 p) (h2 p)) h3
end
section
variable {F : Fx} {B : Bs} {δ : Env} {μ : Mu} {k : Know} {D : Ends} {te : TE} {K : PySem.W.Frag}
/-- a for, with a word C of the turn's number and the state -/
theorem s_forC {wi : TI} {g : TG} {tb : TS} {n : Nat} {kn : Nat → Know} {β : Type} (I : β → Env × Mu) (C : Nat → β → Prop) (hs : EI F wi δ μ n kn) (b0 : β) (c0 : C 0 b0)
    (h0 : LeE True δ (I b0).1) (h0' : μ = (I b0).2)
    (ht : ∀ B' : Bs, BLe B B' → ∀ i b, i < n → C i b → ∃ δ', Gk g (kn i) (I b).1 δ' ∧
      ∀ N : St → Hp → Prop, (∀ b', C (i + 1) b' → To F B' (I b').1 (I b').2 N) → Tr F B' δ' (I b).2 tb { D with nx := N, ct := N, bk := D.nx })
    (hd : ∀ b, C n b → To F B (I b).1 (I b).2 D.nx) : Tr F B δ μ (tFor wi g tb) D := fun σ H ⟨G, z⟩ =>
  hs G H σ z.st _ fun J G1 H1 Gd Y g1 j1 W hGd hY => by
    obtain ⟨z1, l⟩ := (z.step g1 j1).rebase
    refine for_it W (fun i σ H => ∃ b, C i b ∧ At F (B.at_ F μ G1 H1) (I b).1 (I b).2 σ H) ⟨b0, c0, G1, h0' ▸ z1.weak h0⟩ (fun i σ H _ ⟨b, _, G2, z2⟩ => hGd H (z2.gr.gg.trans z2.st.sub)) ?_ (fun σ H ⟨b, cb, z2⟩ => hd b cb σ H (z2.up l))
    rintro i x σ H H' hi ⟨b, cb, G2, z2⟩ y
    obtain ⟨G3, g3, p⟩ := hY i H x H' G2 hi z2.gr.gg z2.st.sub y
    have z3 := z2.step (g3.wide fun _ h => nomatch h) (F.pure g3 z2.st.j)
    obtain ⟨δ', hg, hb⟩ := ht _ l i b hi cb
    exact hg G3 H' σ x z3.st.sub p z3.st.env _ fun σ' e' => hb _ (fun b' cb' σ'' H'' z' => ⟨b', cb', z'⟩) σ' H' ⟨G3, z3.s0, z3.gr, ⟨z3.st.sub, z3.st.j, e', z3.st.own⟩, z3.fp, z3.ow⟩
/-- .. whose target is a name -/
theorem s_forN {wi : TI} {tb : TS} {n : Nat} {kn : Nat → Know} {j : Nat} {β : Type} (I : β → Env × Mu) (C : Nat → β → Prop) (hs : EI F wi δ μ n kn) (b0 : β) (c0 : C 0 b0)
    (h0 : LeE True δ (I b0).1) (h0' : μ = (I b0).2)
    (ht : ∀ B' : Bs, BLe B B' → ∀ i b, i < n → C i b → ∀ N : St → Hp → Prop, (∀ b', C (i + 1) b' → To F B' (I b').1 (I b').2 N) → Tr F B' ((I b).1.set j (some (kn i))) (I b).2 tb { D with nx := N, ct := N, bk := D.nx })
    (hd : ∀ b, C n b → To F B (I b).1 (I b).2 D.nx) : Tr F B δ μ (tFor wi (gName j) tb) D :=
  s_forC I C hs b0 c0 h0 h0' (fun B' l i b hi cb => ⟨_, gk_name, ht B' l i b hi cb⟩) hd
theorem q_forN {wi : TI} {tb w : TS} {n : Nat} {kn : Nat → Know} {j : Nat} {β : Type} (I : β → Env × Mu) (C : Nat → β → Prop) (hs : EI F wi δ μ n kn) (b0 : β) (c0 : C 0 b0)
    (h0 : LeE True δ (I b0).1) (h0' : μ = (I b0).2)
    (ht : ∀ B' : Bs, BLe B B' → ∀ i b, i < n → C i b → ∀ N : St → Hp → Prop, (∀ b', C (i + 1) b' → To F B' (I b').1 (I b').2 N) → Tr F B' ((I b).1.set j (some (kn i))) (I b).2 tb { D with nx := N, ct := N, bk := w D })
    (hd : ∀ b, C n b → Tr F B (I b).1 (I b).2 w D) : Tr F B δ μ (tSeq (tFor wi (gName j) tb) w) D := s_forN (D := { D with nx := w D }) I C hs b0 c0 h0 h0' ht hd
/-- a list of things of one kind -/
theorem listK_ex {α : Type} {S : α → Know} : ∀ (n : Nat) {v : V} {G : Hp}, (listK (List.replicate n (exK S))).p v G → (exK fun xs : {xs : List α // xs.length = n} => listK (xs.1.map S)).p v G := by
  have key : ∀ (n : Nat) (vs : List V) (G : Hp), AllK G vs (List.replicate n (exK S)) → ∃ xs : List α, xs.length = n ∧ AllK G vs (xs.map S) := by
    intro n
    induction n with
    | zero => intro vs G h; cases h; exact ⟨[], rfl, .nil⟩
    | succ n ih =>
      intro vs G h
      rw [List.replicate_succ] at h
      cases h with
      | cons a b =>
        obtain ⟨x, p⟩ := a
        obtain ⟨xs, e, r⟩ := ih _ _ b
        exact ⟨x :: xs, by rw [List.length_cons, e], .cons p r⟩
  rintro n v G ⟨a, vs, e, h, r⟩
  obtain ⟨xs, e2, r2⟩ := key n vs G r
  exact ⟨⟨xs, e2⟩, a, vs, e, h, r2⟩
theorem outs_rep (k : Know) (n : Nat) : outs (fun _ => true) (fun _ => k) n = List.replicate n k := by
  rw [outs_all]
  apply List.ext_getElem?
  intro i
  rw [List.getElem?_map, List.getElem?_replicate]
  by_cases h : i < n
  · rw [List.getElem?_range h, if_pos h]; rfl
  · rw [List.getElem?_eq_none (by rw [List.length_range]; omega), if_neg h]; rfl
/-- [e for k in range(n)], e drawn anew at each turn -/
theorem ek_lcDrawn {ta : TA} {j n : Nat} {α : Type} {S : α → Know} (h : EAk F ta δ μ [valK (.int (n : Int))]) (hn : n ≤ 1000000) (he : ∀ i, i < n → Ek F te ((wipeE δ [j]).set j (some (valK (.int (i : Int))))) μ (exK S)) :
    Ek F (tLc (iRng1 ta) (gName j) tYes te [j]) δ μ (exK fun xs : {xs : List α // xs.length = n} => listK (xs.1.map S)) := by
  have h1 := ei_rng1 (F := F) (δ := δ) (μ := μ) h (by omega) (by omega)
  rw [Int.toNat_natCast] at h1
  have h2 := en_lc (fun _ => true) (fun _ => exK S) h1 (Nat.le_trans hn (by decide)) gw_name (fun i hi => ⟨_, gk_name, et_yes, fun _ => he i hi⟩)
  rw [outs_rep] at h2
  exact ek_weak (en_ek h2) fun v G p => listK_ex n p
/-! ### subscripts and lengths of either kind -/
theorem rk_ixDraw {ks : List Know} {many : Int} {S : {r : Int // 0 ≤ r ∧ r < (ks.length : Int)} → Know} (hS : ∀ r, S r = ks.get ⟨r.1.toNat, by have := r.2; omega⟩) {f : {r : Int // 0 ≤ r ∧ r < (ks.length : Int)} → Know} (hf : ∀ r, f r = valK (.int r.1)) : Rk F μ (rIx K) (listK ks) (exK f) (exK S) :=
  rk_exr fun r => by
    rw [hf]
    intro G H x y s jj o p1 p2 Q q
    have hr : r.1.toNat < ks.length := by have := r.2; omega
    have := rk_ixL (F := F) (μ := μ) (K := K) (k := ks.get ⟨r.1.toNat, hr⟩) (ks := ks) (i := r.1) (j := r.1.toNat) (k1 := listK ks) rd_list (ixN_int r.2.1 r.2.2) (by rw [List.getElem?_eq_getElem hr]; rfl) G H x y s jj o p1 p2 Q (fun v G' H' g j p => q v G' H' g j (by rw [hS]; exact p))
    exact .inl this
end
end Dl
end
section
/-! plain mathematics of k08 -/
namespace M8
variable {α : Type} [DecidableEq α]

/-! ### new words -/
def freshUp (nm : Nat → α) (used : List α) (n : Nat) : List α := ((List.range n).map fun i => nm (i + 1)).filter fun x => !decide (x ∈ used)
def freshL (nm : Nat → α) (used : List α) (many : Nat) : List α := (freshUp nm used (used.length + many)).take many
theorem freshUp_succ (nm : Nat → α) (used : List α) (n : Nat) : freshUp nm used (n + 1) = freshUp nm used n ++ (if nm (n + 1) ∈ used then [] else [nm (n + 1)]) := by
  unfold freshUp
  rw [List.range_succ, List.map_append, List.filter_append]
  congr 1
  simp only [List.map_cons, List.map_nil, List.filter_cons, List.filter_nil]
  by_cases h : nm (n + 1) ∈ used
  · rw [if_pos h]; simp [h]
  · rw [if_neg h]; simp [h]
theorem freshUp_prefix (nm : Nat → α) (used : List α) {n m : Nat} (h : n ≤ m) : freshUp nm used n <+: freshUp nm used m := by
  induction m with
  | zero => have : n = 0 := by omega
            subst this; exact List.prefix_refl _
  | succ m ih =>
    by_cases e : n = m + 1
    · subst e; exact List.prefix_refl _
    · rw [freshUp_succ]
      exact (ih (by omega)).trans (List.prefix_append _ _)
theorem nodup_len : ∀ (xs ys : List α), xs.Nodup → (∀ x ∈ xs, x ∈ ys) → xs.length ≤ ys.length
  | [], _, _, _ => Nat.zero_le _
  | x :: xs, ys, hn, hs => by
    have hx : x ∈ ys := hs x List.mem_cons_self
    have h1 := List.nodup_cons.mp hn
    have := nodup_len xs (ys.erase x) h1.2 (fun y hy => by
      have : y ≠ x := fun e => h1.1 (e ▸ hy)
      exact (List.mem_erase_of_ne this).mpr (hs y (List.mem_cons_of_mem _ hy)))
    rw [List.length_erase_of_mem hx] at this
    have hp := List.length_pos_of_mem hx
    rw [List.length_cons]; omega
/-- few numbers are used up -/
theorem freshUp_len {nm : Nat → α} {used : List α} {n : Nat} (inj : ∀ i j, i < n → j < n → nm (i + 1) = nm (j + 1) → i = j) : n ≤ (freshUp nm used n).length + used.length := by
  have key : ((((List.range n).map fun i => nm (i + 1)).filter fun x => decide (x ∈ used))).length ≤ used.length := by
    apply nodup_len
    · refine List.Nodup.sublist List.filter_sublist ?_
      rw [List.Nodup, List.pairwise_map]
      refine List.Pairwise.imp_of_mem ?_ (List.nodup_range (n := n))
      intro a b ha hb hne e
      exact hne (inj a b (List.mem_range.mp ha) (List.mem_range.mp hb) e)
    · intro x hx
      exact of_decide_eq_true (List.mem_filter.mp hx).2
  have split : ∀ l : List α, (l.filter fun x => decide (x ∈ used)).length + (l.filter fun x => !decide (x ∈ used)).length = l.length := by
    intro l
    induction l with
    | nil => rfl
    | cons a l ih =>
      by_cases h : a ∈ used
      · simp only [List.filter_cons, h, decide_true, Bool.not_true, List.length_cons, if_true, Bool.false_eq_true, if_false]; omega
      · simp only [List.filter_cons, h, decide_false, Bool.not_false, List.length_cons, if_true, Bool.false_eq_true, if_false]; omega
  have h2 := split ((List.range n).map fun i => nm (i + 1))
  rw [List.length_map, List.length_range] at h2
  unfold freshUp
  omega
theorem take_of_prefix {xs ys : List α} {n : Nat} (h : xs <+: ys) (hn : n ≤ xs.length) : ys.take n = xs.take n := by
  obtain ⟨t, rfl⟩ := h
  rw [List.take_append_of_le_length hn]
section
variable {nm : Nat → α} {used : List α} {many : Nat}
theorem freshL_eq {n : Nat} (inj : ∀ i j, i < used.length + many → j < used.length + many → nm (i + 1) = nm (j + 1) → i = j) (h : many ≤ (freshUp nm used n).length) : (freshUp nm used n).take many = freshL nm used many := by
  have hL : many ≤ (freshUp nm used (used.length + many)).length := by
    have := freshUp_len (nm := nm) (used := used) inj
    omega
  unfold freshL
  by_cases e : n ≤ used.length + many
  · rw [take_of_prefix (freshUp_prefix nm used e) h]
  · rw [← take_of_prefix (freshUp_prefix nm used (show used.length + many ≤ n by omega)) hL]
theorem freshL_len (inj : ∀ i j, i < used.length + many → j < used.length + many → nm (i + 1) = nm (j + 1) → i = j) : (freshL nm used many).length = many := by
  have := freshUp_len (nm := nm) (used := used) inj
  unfold freshL
  rw [List.length_take]
  omega
theorem freshUp_nodup {n : Nat} (inj : ∀ i j, i < n → j < n → nm (i + 1) = nm (j + 1) → i = j) : (freshUp nm used n).Nodup := by
  unfold freshUp
  refine List.Nodup.sublist List.filter_sublist ?_
  rw [List.Nodup, List.pairwise_map]
  refine List.Pairwise.imp_of_mem ?_ (List.nodup_range (n := n))
  intro a b ha hb hne e
  exact hne (inj a b (List.mem_range.mp ha) (List.mem_range.mp hb) e)
theorem freshL_nodup (inj : ∀ i j, i < used.length + many → j < used.length + many → nm (i + 1) = nm (j + 1) → i = j) : (freshL nm used many).Nodup := (freshUp_nodup inj).sublist (List.take_sublist _ _)
theorem freshL_off {x : α} (h : x ∈ freshL nm used many) : x ∉ used := by
  have h1 := List.mem_of_mem_take h
  have := (List.mem_filter.mp h1).2
  simpa using this
theorem freshUp_congr {used2 : List α} (h : ∀ x, x ∈ used ↔ x ∈ used2) (n : Nat) : freshUp nm used n = freshUp nm used2 n := by
  unfold freshUp
  apply List.filter_congr
  intro x _
  have := h x
  by_cases e : x ∈ used <;> simp [e] <;> simp_all
theorem freshL_congr {used2 : List α} (h : ∀ x, x ∈ used ↔ x ∈ used2)
    (inj : ∀ i j, i < used.length + many → j < used.length + many → nm (i + 1) = nm (j + 1) → i = j) (inj2 : ∀ i j, i < used2.length + many → j < used2.length + many → nm (i + 1) = nm (j + 1) → i = j) : freshL nm used2 many = freshL nm used many := by
  have hL : many ≤ (freshUp nm used2 (used2.length + many)).length := by
    have := freshUp_len (nm := nm) (used := used2) inj2
    omega
  rw [← freshUp_congr h] at hL
  have := freshL_eq inj hL
  rw [← this]
  unfold freshL
  rw [← freshUp_congr h]
end

/-! ### picks -/
def top (w : Nat) (p : List Nat) : Nat := p.foldl (fun m v => max m (v + 1)) w
theorem top_snoc (w : Nat) (p : List Nat) (v : Nat) : top w (p ++ [v]) = max (top w p) (v + 1) := by
  unfold top; rw [List.foldl_append]; rfl
def ext (w : Nat) (p : List Nat) : List (List Nat) := (List.range (top w p + 1)).map fun v => p ++ [v]
/-- all that begin with p and have k more -/
def T (w : Nat) : Nat → List Nat → List (List Nat)
  | 0, p => [p]
  | k + 1, p => (ext w p).flatMap (T w k)
theorem T_snoc (w : Nat) : ∀ (k : Nat) (p : List Nat), T w (k + 1) p = (T w k p).flatMap (ext w)
  | 0, p => by
    show (ext w p).flatMap (fun q => [q]) = [p].flatMap (ext w)
    simp
  | k + 1, p => by
    show (ext w p).flatMap (T w (k + 1)) = ((ext w p).flatMap (T w k)).flatMap (ext w)
    rw [List.flatMap_assoc]
    congr 1
    funext q
    exact T_snoc w k q
/-- the next one: the places from the last one down to lo -/
def nextAt (w : Nat) (lo : Nat) (x : List Nat) : Nat → Option (List Nat)
  | 0 => none
  | k + 1 => if k < lo then none else if x.getD k 0 < top w (x.take k) then some (x.take k ++ [x.getD k 0 + 1] ++ List.replicate (x.length - k - 1) 0) else nextAt w lo x k
def nextF (w lo : Nat) (x : List Nat) : Option (List Nat) := nextAt w lo x x.length
inductive Rn {β : Type} (f : β → Option β) : β → List β → β → Prop
  | one (x : β) : Rn f x [x] x
  | cons {x y z : β} {l : List β} : f x = some y → Rn f y l z → Rn f x (x :: l) z
theorem Rn.app {β : Type} {f : β → Option β} {x y z z' : β} {l l' : List β} (a : Rn f x l z) (e : f z = some y) (b : Rn f y l' z') : Rn f x (l ++ l') z' := by
  induction a with
  | one x => exact .cons e b
  | cons h _ ih => exact .cons h (ih e)
theorem Rn.mono {β : Type} {f g : β → Option β} (h : ∀ x y, f x = some y → g x = some y) {x z : β} {l : List β} (a : Rn f x l z) : Rn g x l z := by
  induction a with
  | one x => exact .one x
  | cons e _ ih => exact .cons (h _ _ e) ih
theorem nextAt_lower {w lo : Nat} {x y : List Nat} : ∀ {k : Nat}, nextAt w (lo + 1) x k = some y → nextAt w lo x k = some y
  | 0, h => nomatch h
  | k + 1, h => by
    unfold nextAt at h ⊢
    by_cases h1 : k < lo + 1
    · rw [if_pos h1] at h; cases h
    · rw [if_neg h1] at h
      rw [if_neg (by omega)]
      by_cases h2 : x.getD k 0 < top w (x.take k)
      · rw [if_pos h2] at h ⊢; exact h
      · rw [if_neg h2] at h ⊢; exact nextAt_lower h
theorem nextAt_none {w lo : Nat} {x : List Nat} : ∀ {k : Nat}, lo < k → nextAt w (lo + 1) x k = none → nextAt w lo x k = if x.getD lo 0 < top w (x.take lo) then some (x.take lo ++ [x.getD lo 0 + 1] ++ List.replicate (x.length - lo - 1) 0) else nextAt w lo x lo
  | 0, h, _ => absurd h (Nat.not_lt_zero _)
  | k + 1, h, e => by
    unfold nextAt at e
    by_cases h1 : k < lo + 1
    · have : k = lo := by omega
      subst this
      conv => lhs; unfold nextAt
      rw [if_neg (Nat.lt_irrefl _)]
    · rw [if_neg h1] at e
      by_cases h2 : x.getD k 0 < top w (x.take k)
      · rw [if_pos h2] at e; cases e
      · rw [if_neg h2] at e
        conv => lhs; unfold nextAt
        rw [if_neg (by omega), if_neg h2]
        exact nextAt_none (by omega) e
theorem nextAt_lo {w lo : Nat} {x : List Nat} : nextAt w lo x lo = none := by
  cases lo with
  | zero => rfl
  | succ k => unfold nextAt; rw [if_pos (Nat.lt_succ_self _)]
theorem range_flat {β : Type} (f : Nat → List β) (n : Nat) : (List.range (n + 1)).flatMap f = (List.range n).flatMap f ++ f n := by
  rw [List.range_succ, List.flatMap_append]; simp
/-- the run from the first one passes all of them -/
theorem T_run (w : Nat) : ∀ (k : Nat) (p : List Nat), ∃ z, Rn (nextF w p.length) (p ++ List.replicate k 0) (T w k p) z ∧ nextF w p.length z = none ∧ z.length = p.length + k ∧ z.take p.length = p
  | 0, p => ⟨p, by simpa [T] using Rn.one (f := nextF w p.length) p, by unfold nextF; exact nextAt_lo, by simp, by simp⟩
  | k + 1, p => by
    have block : ∀ v, ∃ z, Rn (nextF w p.length) (p ++ [v] ++ List.replicate k 0) (T w k (p ++ [v])) z ∧ z.length = p.length + 1 + k ∧ z.take (p.length + 1) = p ++ [v] ∧
        nextF w p.length z = if v < top w p then some (p ++ [v + 1] ++ List.replicate k 0) else none := by
      intro v
      obtain ⟨z, h1, h2, h3, h4⟩ := T_run w k (p ++ [v])
      rw [List.length_append, List.length_singleton] at h1 h2 h3 h4
      refine ⟨z, h1.mono fun x y e => nextAt_lower e, h3, h4, ?_⟩
      unfold nextF at h2 ⊢
      rw [nextAt_none (by omega) h2, nextAt_lo]
      have e1 : z.take p.length = p := by
        have := congrArg (List.take p.length) h4
        rw [List.take_take, Nat.min_eq_left (Nat.le_succ _)] at this
        rw [this]; simp
      have e2 : z.getD p.length 0 = v := by
        have hz : z[p.length]? = some v := by
          have := congrArg (fun l => l[p.length]?) h4
          simp only [List.getElem?_take] at this
          simpa using this
        rw [List.getD_eq_getElem?_getD, hz]; rfl
      rw [e1, e2, h3, show p.length + 1 + k - p.length - 1 = k by omega]
    have many : ∀ n, n ≤ top w p → ∃ z, Rn (nextF w p.length) (p ++ [0] ++ List.replicate k 0) ((List.range (n + 1)).flatMap fun v => T w k (p ++ [v])) z ∧ z.length = p.length + 1 + k ∧ z.take (p.length + 1) = p ++ [n] ∧
        nextF w p.length z = if n < top w p then some (p ++ [n + 1] ++ List.replicate k 0) else none := by
      intro n
      induction n with
      | zero =>
        intro _
        obtain ⟨z, h⟩ := block 0
        exact ⟨z, by simpa using h.1, h.2⟩
      | succ n ih =>
        intro hn
        obtain ⟨z, h1, h2, h3, h4⟩ := ih (by omega)
        rw [if_pos (by omega)] at h4
        obtain ⟨z', g1, g2⟩ := block (n + 1)
        exact ⟨z', by rw [range_flat]; exact h1.app h4 g1, g2⟩
    obtain ⟨z, h1, h2, h3, h4⟩ := many (top w p) (Nat.le_refl _)
    rw [if_neg (Nat.lt_irrefl _)] at h4
    refine ⟨z, ?_, h4, by omega, ?_⟩
    · have e : T w (k + 1) p = (List.range (top w p + 1)).flatMap fun v => T w k (p ++ [v]) := by
        show (ext w p).flatMap (T w k) = _
        unfold ext
        rw [List.flatMap_map]
      rw [e]
      have e2 : p ++ List.replicate (k + 1) 0 = p ++ [0] ++ List.replicate k 0 := by
        rw [List.replicate_succ, List.append_assoc]; rfl
      rw [e2]; exact h1
    · have := congrArg (List.take p.length) h3
      rw [List.take_take, Nat.min_eq_left (Nat.le_succ _)] at this
      rw [this]; simp

/-! ### how many -/
def c (w : Nat) : Nat → Nat → Nat
  | 0, _ => 1
  | k + 1, j => (w + j) * c w k j + c w k (j + 1)
theorem sum_const (f : Nat → Nat) (a : Nat) : ∀ n, (∀ v, v < n → f v = a) → ((List.range n).map f).sum = n * a
  | 0, _ => by simp
  | n + 1, h => by
    rw [List.range_succ, List.map_append, List.sum_append, sum_const f a n (fun v hv => h v (by omega))]
    simp [h n (Nat.lt_succ_self _), Nat.succ_mul]
theorem T_len (w : Nat) : ∀ (k : Nat) (p : List Nat) (j : Nat), top w p = w + j → (T w k p).length = c w k j
  | 0, _, _, _ => rfl
  | k + 1, p, j, h => by
    show ((ext w p).flatMap (T w k)).length = _
    unfold ext
    rw [List.flatMap_map, List.length_flatMap, List.range_succ, List.map_append, List.sum_append]
    rw [sum_const _ (c w k j) (top w p) (fun v hv => T_len w k (p ++ [v]) j (by rw [top_snoc, h]; omega))]
    simp only [List.map_cons, List.map_nil, List.sum_cons, List.sum_nil, Nat.add_zero]
    rw [T_len w k (p ++ [top w p]) (j + 1) (by rw [top_snoc, h]; omega), h]
    rfl
/-- counted by the new ones in use -/
def f (w : Nat) : Nat → Nat → Nat
  | 0, 0 => 1
  | 0, _ + 1 => 0
  | k + 1, 0 => w * f w k 0
  | k + 1, j + 1 => (w + (j + 1)) * f w k (j + 1) + f w k j
theorem f_zero (w : Nat) : ∀ (k j : Nat), k < j → f w k j = 0
  | 0, j + 1, _ => rfl
  | k + 1, j + 1, h => by
    show (w + (j + 1)) * f w k (j + 1) + f w k j = 0
    rw [f_zero w k (j + 1) (by omega), f_zero w k j (by omega)]; simp
  | k, 0, h => absurd h (Nat.not_lt_zero _)
def S (g : Nat → Nat) : Nat → Nat
  | 0 => 0
  | n + 1 => S g n + g n
theorem S_congr {g h : Nat → Nat} : ∀ n, (∀ i, i < n → g i = h i) → S g n = S h n
  | 0, _ => rfl
  | n + 1, e => by
    show S g n + g n = S h n + h n
    rw [S_congr n (fun i hi => e i (by omega)), e n (Nat.lt_succ_self _)]
theorem S_add (g h : Nat → Nat) : ∀ n, S (fun i => g i + h i) n = S g n + S h n
  | 0 => rfl
  | n + 1 => by
    show S _ n + (g n + h n) = S g n + g n + (S h n + h n)
    rw [S_add g h n]; omega
theorem S_shift (g : Nat → Nat) : ∀ n, S g (n + 1) = g 0 + S (fun i => g (i + 1)) n
  | 0 => by show 0 + g 0 = g 0 + 0; omega
  | n + 1 => by
    show S g (n + 1) + g (n + 1) = g 0 + (S (fun i => g (i + 1)) n + g (n + 1))
    rw [S_shift g n]; omega
theorem f_c (w : Nat) : ∀ (k m : Nat), S (fun j => f w k j * c w m j) (k + 1) = c w (k + m) 0
  | 0, m => by show 0 + 1 * c w m 0 = c w (0 + m) 0; rw [Nat.zero_add, Nat.zero_add, Nat.one_mul]
  | k + 1, m => by
    have ih := f_c w k (m + 1)
    rw [show k + 1 + m = k + (m + 1) by omega, ← ih]
    have e1 : S (fun j => f w k j * c w (m + 1) j) (k + 1) = S (fun j => (w + j) * f w k j * c w m j) (k + 1) + S (fun j => f w k j * c w m (j + 1)) (k + 1) := by
      rw [← S_add]
      apply S_congr
      intro i _
      show f w k i * ((w + i) * c w m i + c w m (i + 1)) = _
      rw [Nat.mul_add]
      congr 1
      rw [← Nat.mul_assoc, Nat.mul_comm (f w k i)]
    rw [e1, S_shift]
    have e2 : S (fun i => f w (k + 1) (i + 1) * c w m (i + 1)) (k + 1) = S (fun i => (w + (i + 1)) * f w k (i + 1) * c w m (i + 1)) (k + 1) + S (fun j => f w k j * c w m (j + 1)) (k + 1) := by
      rw [← S_add]
      apply S_congr
      intro i _
      show ((w + (i + 1)) * f w k (i + 1) + f w k i) * c w m (i + 1) = _
      rw [Nat.add_mul]
    rw [e2]
    have e3 : S (fun j => (w + j) * f w k j * c w m j) (k + 1 + 1) = S (fun j => (w + j) * f w k j * c w m j) (k + 1) := by
      show _ + (w + (k + 1)) * f w k (k + 1) * c w m (k + 1) = _
      rw [f_zero w k (k + 1) (Nat.lt_succ_self _)]; simp
    rw [← e3]
    have e4 := S_shift (fun j => (w + j) * f w k j * c w m j) (k + 1)
    rw [e4]
    show w * f w k 0 * c w m 0 + _ = w * f w k 0 * c w m 0 + _ + _
    rw [Nat.add_assoc]
theorem f_sum (w k : Nat) : S (f w k) (k + 1) = c w k 0 := by
  refine Eq.trans ?_ (f_c w k 0)
  apply S_congr
  intro i _
  show f w k i = f w k i * 1
  rw [Nat.mul_one]
theorem c_le (w b : Nat) : ∀ (k j : Nat), w + j + k ≤ b → c w k j ≤ b ^ k
  | 0, _, _ => Nat.le_refl _
  | k + 1, j, h => by
    have h1 := c_le w b k j (by omega)
    have h2 := c_le w b k (j + 1) (by omega)
    have : (w + j) * c w k j ≤ (w + j) * b ^ k := Nat.mul_le_mul_left _ h1
    calc (w + j) * c w k j + c w k (j + 1) ≤ (w + j) * b ^ k + b ^ k := Nat.add_le_add this h2
      _ = (w + j + 1) * b ^ k := by rw [Nat.succ_mul]
      _ ≤ b * b ^ k := Nat.mul_le_mul_right _ (by omega)
      _ = b ^ (k + 1) := by rw [Nat.pow_succ, Nat.mul_comm]
theorem f_le (w b : Nat) : ∀ (k j : Nat), w + k + 1 ≤ b → f w k j ≤ b ^ k
  | 0, 0, _ => Nat.le_refl _
  | 0, _ + 1, _ => Nat.zero_le _
  | k + 1, 0, h => by
    have h1 := f_le w b k 0 (by omega)
    calc w * f w k 0 ≤ b * b ^ k := Nat.mul_le_mul (by omega) h1
      _ = b ^ (k + 1) := by rw [Nat.pow_succ, Nat.mul_comm]
  | k + 1, j + 1, h => by
    by_cases hj : k < j + 1
    · have e : f w k (j + 1) = 0 := f_zero w k (j + 1) hj
      have h2 := f_le w b k j (by omega)
      show (w + (j + 1)) * f w k (j + 1) + f w k j ≤ _
      rw [e, Nat.mul_zero, Nat.zero_add]
      exact Nat.le_trans h2 (Nat.pow_le_pow_right (by omega) (Nat.le_succ _))
    · have h1 := f_le w b k (j + 1) (by omega)
      have h2 := f_le w b k j (by omega)
      have : (w + (j + 1)) * f w k (j + 1) ≤ (w + (j + 1)) * b ^ k := Nat.mul_le_mul_left _ h1
      calc (w + (j + 1)) * f w k (j + 1) + f w k j ≤ (w + (j + 1)) * b ^ k + b ^ k := Nat.add_le_add this h2
        _ = (w + (j + 1) + 1) * b ^ k := by rw [Nat.succ_mul (w + (j + 1))]
        _ ≤ b * b ^ k := Nat.mul_le_mul_right _ (by omega)
        _ = b ^ (k + 1) := by rw [Nat.pow_succ, Nat.mul_comm]

/-! ### the law's own list, level by level -/
def cands (words fresh p : List α) : List α := words ++ fresh.take ((fresh.filter fun x => decide (x ∈ p)).length + 1)
def grow (words fresh p : List α) : List (List α) := (cands words fresh p).map fun x => p ++ [x]
def due (words fresh : List α) : Nat → List (List α)
  | 0 => [[]]
  | n + 1 => (due words fresh n).flatMap (grow words fresh)
def ch (cs : List α) (d : α) (p : List Nat) : List α := p.map fun v => cs.getD v d
/-- picks that come one after another -/
structure Ok (w : Nat) (p : List Nat) : Prop where
  lt : ∀ v ∈ p, v < top w p
  all : ∀ v, w ≤ v → v < top w p → v ∈ p
  le : top w p ≤ w + p.length
  ge : w ≤ top w p
theorem ok_nil (w : Nat) : Ok w [] := ⟨fun _ h => (nomatch h), fun v h1 h2 => absurd h2 (Nat.not_lt.mpr h1), Nat.le_refl _, Nat.le_refl _⟩
theorem ok_snoc {w : Nat} {p : List Nat} {v : Nat} (h : Ok w p) (hv : v ≤ top w p) : Ok w (p ++ [v]) := by
  refine ⟨fun u hu => ?_, fun u h1 h2 => ?_, ?_, ?_⟩
  · rw [top_snoc]
    rcases List.mem_append.mp hu with hu | hu
    · have := h.lt u hu; omega
    · rw [List.mem_singleton.mp hu]; omega
  · rw [top_snoc] at h2
    by_cases e : u < top w p
    · exact List.mem_append_left _ (h.all u h1 e)
    · have : u = v := by omega
      subst this
      exact List.mem_append_right _ (List.mem_singleton.mpr rfl)
  · rw [top_snoc, List.length_append, List.length_singleton]
    have := h.le; omega
  · rw [top_snoc]; have := h.ge; omega
theorem T_ok (w : Nat) : ∀ (n : Nat) (p : List Nat), p ∈ T w n [] → Ok w p ∧ p.length = n
  | 0, p, h => by
    have e : p = [] := List.mem_singleton.mp h
    subst e; exact ⟨ok_nil w, rfl⟩
  | n + 1, p, h => by
    rw [T_snoc] at h
    obtain ⟨q, hq, hp⟩ := List.mem_flatMap.mp h
    obtain ⟨v, hv, e⟩ := List.mem_map.mp hp
    subst e
    obtain ⟨h1, h2⟩ := T_ok w n q hq
    exact ⟨ok_snoc h1 (by have := List.mem_range.mp hv; omega), by rw [List.length_append, h2]; rfl⟩
section
variable {words fresh : List α} {d : α}
theorem getD_words {v : Nat} (h : v < words.length) : (words ++ fresh).getD v d = words[v] := by
  rw [List.getD_eq_getElem?_getD, List.getElem?_append_left h, List.getElem?_eq_getElem h]; rfl
theorem getD_fresh {v : Nat} (h : words.length ≤ v) (h2 : v < words.length + fresh.length) : (words ++ fresh).getD v d = fresh[v - words.length]'(by omega) := by
  rw [List.getD_eq_getElem?_getD, List.getElem?_append_right h, List.getElem?_eq_getElem (by omega)]; rfl
theorem filter_take : ∀ (l : List α) (q : α → Bool) (n : Nat), l.Nodup → n ≤ l.length → (∀ i (h : i < l.length), q l[i] = decide (i < n)) → (l.filter q).length = n
  | [], q, n, _, hn, _ => by
    have : n = 0 := by simpa using hn
    subst this; rfl
  | a :: l, q, 0, hd, _, h => by
    have h0 := h 0 (by simp)
    have ha : q a = false := by simpa using h0
    rw [List.filter_cons, ha]
    exact filter_take l q 0 (List.nodup_cons.mp hd).2 (Nat.zero_le _) (fun i hi => by
      have := h (i + 1) (by simpa using hi)
      simpa using this)
  | a :: l, q, n + 1, hd, hn, h => by
    have h0 := h 0 (by simp)
    have ha : q a = true := by simpa using h0
    rw [List.filter_cons, ha]
    have := filter_take l q n (List.nodup_cons.mp hd).2 (by simpa using hn) (fun i hi => by
      have := h (i + 1) (by simpa using hi)
      simpa using this)
    simp [this]
/-- the new words in use are the first ones -/
theorem used_len (hf : fresh.Nodup) (hd : ∀ x ∈ fresh, x ∉ words) {p : List Nat} (h : Ok words.length p) (hn : p.length ≤ fresh.length) :
    (fresh.filter fun x => decide (x ∈ ch (words ++ fresh) d p)).length = top words.length p - words.length := by
  have h1 := h.le
  have h2 := h.ge
  apply filter_take _ _ _ hf (by omega)
  intro i hi
  rw [decide_eq_decide]
  constructor
  · intro hm
    obtain ⟨v, hv, e⟩ := List.mem_map.mp hm
    have hlt := h.lt v hv
    by_cases hw : v < words.length
    · rw [getD_words hw] at e
      exact absurd (e ▸ List.getElem_mem hw) (hd _ (List.getElem_mem hi))
    · rw [getD_fresh (by omega) (by omega)] at e
      have : v - words.length = i := (List.getElem_inj hf).mp e
      omega
  · intro hlt
    refine List.mem_map.mpr ⟨words.length + i, h.all _ (by omega) (by omega), ?_⟩
    rw [getD_fresh (by omega) (by omega)]
    congr 1; omega
theorem range_map_getD : ∀ (l : List α) (n : Nat), n ≤ l.length → (List.range n).map (fun v => l.getD v d) = l.take n
  | l, n, h => by
    apply List.ext_getElem?
    intro i
    rw [List.getElem?_map, List.getElem?_take]
    by_cases hi : i < n
    · rw [if_pos hi, List.getElem?_range hi, Option.map_some, List.getD_eq_getElem?_getD, List.getElem?_eq_getElem (by omega)]; rfl
    · rw [if_neg hi, List.getElem?_eq_none (by rw [List.length_range]; omega)]; rfl
theorem grow_ch (hf : fresh.Nodup) (hd : ∀ x ∈ fresh, x ∉ words) {p : List Nat} (h : Ok words.length p) (hn : p.length < fresh.length) :
    grow words fresh (ch (words ++ fresh) d p) = (ext words.length p).map (ch (words ++ fresh) d) := by
  have h1 := h.le
  have h2 := h.ge
  unfold grow cands ext
  rw [used_len hf hd h (by omega), List.map_map]
  have e : (List.range (top words.length p + 1)).map (fun v => (words ++ fresh).getD v d) = words ++ fresh.take (top words.length p - words.length + 1) := by
    rw [range_map_getD _ _ (by rw [List.length_append]; omega), List.take_append]
    rw [List.take_of_length_le (by omega)]
    congr 2; omega
  rw [← e, List.map_map]
  apply List.map_congr_left
  intro v _
  simp [ch]
theorem due_ch (hf : fresh.Nodup) (hd : ∀ x ∈ fresh, x ∉ words) : ∀ n, n ≤ fresh.length → due words fresh n = (T words.length n []).map (ch (words ++ fresh) d)
  | 0, _ => rfl
  | n + 1, h => by
    show (due words fresh n).flatMap (grow words fresh) = _
    rw [due_ch hf hd n (by omega), T_snoc, List.flatMap_map, List.map_flatMap]
    have key : ∀ l : List (List Nat), (∀ p ∈ l, Ok words.length p ∧ p.length = n) → l.flatMap (fun a => grow words fresh (ch (words ++ fresh) d a)) = l.flatMap fun a => (ext words.length a).map (ch (words ++ fresh) d) := by
      intro l
      induction l with
      | nil => intro _; rfl
      | cons p l ih =>
        intro hl
        rw [List.flatMap_cons, List.flatMap_cons, ih (fun q hq => hl q (List.mem_cons_of_mem _ hq))]
        obtain ⟨a, b⟩ := hl p List.mem_cons_self
        rw [grow_ch hf hd a (by omega)]
    exact key _ (fun p hp => T_ok _ n p hp)
theorem cands_len (p : List α) : (cands words fresh p).length ≤ words.length + ((fresh.filter fun x => decide (x ∈ p)).length + 1) := by
  unfold cands
  rw [List.length_append, List.length_take]; omega
theorem due_len (hf : fresh.Nodup) (hd : ∀ x ∈ fresh, x ∉ words) (n : Nat) (h : n ≤ fresh.length) : (due words fresh n).length = c words.length n 0 := by
  cases fresh with
  | nil =>
    have : n = 0 := by simpa using h
    subst this; rfl
  | cons d l =>
    rw [due_ch (d := d) hf hd n h, List.length_map]
    exact T_len _ n [] 0 rfl
theorem due_mem_len : ∀ (n : Nat) (p : List α), p ∈ due words fresh n → p.length = n
  | 0, p, h => by rw [List.mem_singleton.mp h]; rfl
  | n + 1, p, h => by
    obtain ⟨q, hq, hp⟩ := List.mem_flatMap.mp h
    obtain ⟨x, _, e⟩ := List.mem_map.mp hp
    subst e
    rw [List.length_append, due_mem_len n q hq]; rfl
end

/-! ### what is equal -/
def shape (words p : List α) : List (Sum α Nat) := p.map fun x => if x ∈ words then .inl x else .inr (p.idxOf x)
theorem shape_len (words p : List α) : (shape words p).length = p.length := List.length_map _
def mark (words p : List α) (x : α) : Sum α Nat := if x ∈ words then .inl x else .inr ((p ++ [x]).idxOf x)
theorem idx_old {p : List α} {x : α} (y : α) (h : x ∈ p) : (p ++ [y]).idxOf x = p.idxOf x := by
  rw [List.idxOf_append, if_pos h]
theorem shape_snoc (words p : List α) (x : α) : shape words (p ++ [x]) = shape words p ++ [mark words p x] := by
  unfold shape mark
  rw [List.map_append]
  congr 1
  apply List.map_congr_left
  intro y hy
  rw [idx_old x hy]
theorem idx_new {p : List α} {x : α} (h : x ∉ p) : (p ++ [x]).idxOf x = p.length := by
  rw [List.idxOf_append, if_neg h]; simp
theorem mark_eq {words p : List α} {x : α} : mark words p x = if x ∈ words then .inl x else if x ∈ p then .inr (p.idxOf x) else .inr p.length := by
  unfold mark
  by_cases h : x ∈ words
  · rw [if_pos h, if_pos h]
  · rw [if_neg h, if_neg h]
    by_cases h2 : x ∈ p
    · rw [if_pos h2, idx_old x h2]
    · rw [if_neg h2, idx_new h2]
theorem countP_one {β : Type} [DecidableEq β] {l : List β} {a : β} (q : β → Bool) (hn : l.Nodup) (ha : a ∈ l) (h : ∀ x ∈ l, q x = true ↔ x = a) : l.countP q = 1 := by
  induction l with
  | nil => cases ha
  | cons b l ih =>
    have h1 := List.nodup_cons.mp hn
    rcases List.mem_cons.mp ha with e | hm
    · subst e
      have z : l.countP q = 0 := by
        rw [List.countP_eq_zero]
        intro x hx hq
        exact h1.1 (((h x (List.mem_cons_of_mem _ hx)).mp hq) ▸ hx)
      rw [List.countP_cons, z, (h a List.mem_cons_self).mpr rfl]; rfl
    · have hb : q b = false := by
        cases e : q b with
        | false => rfl
        | true => exact absurd (((h b List.mem_cons_self).mp e) ▸ hm) h1.1
      rw [List.countP_cons, ih h1.2 hm (fun x hx => h x (List.mem_cons_of_mem _ hx)), hb]; rfl
theorem countP_flat {β γ : Type} (g : β → List γ) (q : γ → Bool) (r : β → Bool) : ∀ l : List β, (∀ x ∈ l, (g x).countP q = if r x then 1 else 0) → (l.flatMap g).countP q = l.countP r
  | [], _ => rfl
  | x :: l, h => by
    rw [List.flatMap_cons, List.countP_append, List.countP_cons, countP_flat g q r l (fun y hy => h y (List.mem_cons_of_mem _ hy)), h x List.mem_cons_self, Nat.add_comm]
section
variable {words fresh : List α}
/-- of a list of the law: its words are words or the first new ones -/
structure Use (words fresh p : List α) : Prop where
  old : ∀ x ∈ p, x ∈ words ∨ x ∈ fresh.take (fresh.filter fun x => decide (x ∈ p)).length
  all : ∀ x ∈ fresh.take (fresh.filter fun x => decide (x ∈ p)).length, x ∈ p
  le : (fresh.filter fun x => decide (x ∈ p)).length ≤ p.length
theorem due_use (hf : fresh.Nodup) (hd : ∀ x ∈ fresh, x ∉ words) (n : Nat) (h : n ≤ fresh.length) (p : List α) (hp : p ∈ due words fresh n) : Use words fresh p := by
  by_cases hz : fresh = []
  · subst hz
    have : n = 0 := by simpa using h
    subst this
    rw [List.mem_singleton.mp hp]
    exact ⟨fun _ h => (nomatch h), fun _ h => by simp at h, Nat.le_refl _⟩
  · obtain ⟨d, l, e⟩ : ∃ d l, fresh = d :: l := by
      cases fresh with
      | nil => exact absurd rfl hz
      | cons d l => exact ⟨d, l, rfl⟩
    rw [due_ch (d := d) hf hd n h] at hp
    obtain ⟨q, hq, e⟩ := List.mem_map.mp hp
    subst e
    obtain ⟨ok, hl⟩ := T_ok _ n q hq
    have h1 := ok.le
    have h2 := ok.ge
    have u := used_len (d := d) hf hd ok (by omega)
    refine ⟨fun x hx => ?_, fun x hx => ?_, by rw [u]; simp only [ch, List.length_map]; omega⟩
    · obtain ⟨v, hv, e⟩ := List.mem_map.mp hx
      have := ok.lt v hv
      by_cases hw : v < words.length
      · rw [getD_words hw] at e; exact .inl (e ▸ List.getElem_mem hw)
      · rw [getD_fresh (by omega) (by omega)] at e
        right
        rw [u, ← e]
        exact List.mem_take_iff_getElem.mpr ⟨v - words.length, by omega, rfl⟩
    · rw [u] at hx
      obtain ⟨i, hi, e⟩ := List.mem_take_iff_getElem.mp hx
      refine List.mem_map.mpr ⟨words.length + i, ok.all _ (by omega) (by omega), ?_⟩
      rw [getD_fresh (by omega) (by omega), ← e]
      congr 1; omega
theorem cands_nodup (hw : words.Nodup) (hf : fresh.Nodup) (hd : ∀ x ∈ fresh, x ∉ words) (p : List α) : (cands words fresh p).Nodup := by
  unfold cands
  rw [List.nodup_append]
  exact ⟨hw, hf.sublist (List.take_sublist _ _), fun a ha b hb e => hd b (List.mem_of_mem_take hb) (e ▸ ha)⟩
theorem getElem_of_idx {p : List α} {x : α} (h : x ∈ p) : p[p.idxOf x]? = some x := by
  rw [List.getElem?_eq_getElem (List.idxOf_lt_length_of_mem h)]
  congr 1
  exact List.getElem_idxOf _
/-- just one word carries on -/
theorem one_more (hw : words.Nodup) (hf : fresh.Nodup) (hd : ∀ x ∈ fresh, x ∉ words) {p q : List α} (u : Use words fresh p) (hl : p.length < fresh.length) (e : shape words p = shape words q) (y : α) :
    (cands words fresh p).countP (fun x => decide (mark words p x = mark words q y)) = 1 := by
  have len : p.length = q.length := by
    have := congrArg List.length e
    rwa [shape_len, shape_len] at this
  have same : ∀ (i : Nat) (a b : α), p[i]? = some a → q[i]? = some b → (if a ∈ words then (.inl a : Sum α Nat) else .inr (p.idxOf a)) = if b ∈ words then .inl b else .inr (q.idxOf b) := by
    intro i a b ha hb
    have := congrArg (fun l => l[i]?) e
    simp only [shape, List.getElem?_map, ha, hb, Option.map_some] at this
    exact Option.some.inj this
  have key : ∃ a, a ∈ cands words fresh p ∧ ∀ x ∈ cands words fresh p, mark words p x = mark words q y ↔ x = a := by
    have mem : ∀ x, x ∈ p → x ∈ cands words fresh p := fun x hx => by
      unfold cands
      rcases u.old x hx with h | h
      · exact List.mem_append_left _ h
      · exact List.mem_append_right _ (List.mem_of_mem_take (i := (fresh.filter fun x => decide (x ∈ p)).length) (by rw [List.take_take, Nat.min_eq_left (Nat.le_succ _)]; exact h))
    by_cases hy : y ∈ words
    · refine ⟨y, List.mem_append_left _ hy, fun x _ => ?_⟩
      rw [mark_eq, mark_eq, if_pos hy]
      constructor
      · intro h
        by_cases hx : x ∈ words
        · rw [if_pos hx] at h; exact Sum.inl.inj h
        · rw [if_neg hx] at h; split at h <;> cases h
      · intro h; subst h; rw [if_pos hy]
    · by_cases hq : y ∈ q
      · -- the one that stands where y stands first
        have hi := List.idxOf_lt_length_of_mem hq
        have hi2 : q.idxOf y < p.length := by omega
        refine ⟨p[q.idxOf y], mem _ (List.getElem_mem _), fun x hx => ?_⟩
        have s0 := same (q.idxOf y) _ y (List.getElem?_eq_getElem hi2) (getElem_of_idx hq)
        rw [if_neg hy] at s0
        have nw : p[q.idxOf y] ∉ words := fun h => by rw [if_pos h] at s0; cases s0
        rw [if_neg nw] at s0
        have s1 : p.idxOf p[q.idxOf y] = q.idxOf y := Sum.inr.inj s0
        rw [mark_eq, mark_eq, if_neg hy, if_pos hq]
        constructor
        · intro h
          by_cases h1 : x ∈ words
          · rw [if_pos h1] at h; cases h
          · rw [if_neg h1] at h
            by_cases h2 : x ∈ p
            · rw [if_pos h2] at h
              have h3 := Sum.inr.inj h
              have := getElem_of_idx h2
              rw [h3, List.getElem?_eq_getElem hi2] at this
              exact (Option.some.inj this).symm
            · rw [if_neg h2] at h
              have h3 := Sum.inr.inj h
              omega
        · intro h
          subst h
          rw [if_neg nw, if_pos (List.getElem_mem _), s1]
      · -- a new one
        have hj : (fresh.filter fun x => decide (x ∈ p)).length < fresh.length := by have := u.le; omega
        generalize hjj : (fresh.filter fun x => decide (x ∈ p)).length = j at hj
        have nin : fresh[j] ∉ p := fun h => by
          rcases u.old _ h with h | h
          · exact hd _ (List.getElem_mem _) h
          · rw [hjj] at h
            obtain ⟨i, hi, e⟩ := List.mem_take_iff_getElem.mp h
            have := (List.getElem_inj hf).mp e
            omega
        refine ⟨fresh[j], ?_, fun x hx => ?_⟩
        · unfold cands
          rw [hjj]
          exact List.mem_append_right _ (List.mem_take_iff_getElem.mpr ⟨j, by omega, rfl⟩)
        · rw [mark_eq, mark_eq, if_neg hy, if_neg hq]
          constructor
          · intro h
            by_cases h1 : x ∈ words
            · rw [if_pos h1] at h; cases h
            · rw [if_neg h1] at h
              by_cases h2 : x ∈ p
              · rw [if_pos h2] at h
                have h3 := Sum.inr.inj h
                have := List.idxOf_lt_length_of_mem h2
                omega
              · unfold cands at hx
                rcases List.mem_append.mp hx with h3 | h3
                · exact absurd h3 h1
                · rw [hjj] at h3
                  obtain ⟨i, hi, e⟩ := List.mem_take_iff_getElem.mp h3
                  by_cases hij : i < j
                  · exact absurd (u.all x (by rw [hjj]; exact List.mem_take_iff_getElem.mpr ⟨i, by omega, e⟩)) h2
                  · have : i = j := by omega
                    subst this; exact e.symm
          · intro h
            subst h
            rw [if_neg (hd _ (List.getElem_mem _)), if_neg nin, len]
  obtain ⟨a, ha, h⟩ := key
  exact countP_one _ (cands_nodup hw hf hd p) ha (fun x hx => by rw [decide_eq_true_iff]; exact h x hx)
theorem snoc_inj {β : Type} {a b : List β} {x y : β} : a ++ [x] = b ++ [y] ↔ a = b ∧ x = y := by
  constructor
  · intro h
    have h1 := congrArg List.getLast? h
    have h2 := congrArg List.dropLast h
    simp at h1 h2
    exact ⟨h2, h1⟩
  · rintro ⟨rfl, rfl⟩; rfl
/-- each picked list agrees with just one of them -/
theorem one_shape (hw : words.Nodup) (hf : fresh.Nodup) (hd : ∀ x ∈ fresh, x ∉ words) : ∀ (n : Nat), n ≤ fresh.length → ∀ q : List α, q.length = n → (due words fresh n).countP (fun p => decide (shape words p = shape words q)) = 1
  | 0, _, q, hq => by
    have : q = [] := List.length_eq_zero_iff.mp hq
    subst this
    simp [due]
  | n + 1, h, q, hq => by
    obtain ⟨q', y, rfl⟩ : ∃ q' y, q = q' ++ [y] := by
      have : q ≠ [] := by intro e; subst e; cases hq
      exact ⟨q.dropLast, q.getLast this, (List.dropLast_concat_getLast this).symm⟩
    have hq' : q'.length = n := by simpa using hq
    show ((due words fresh n).flatMap (grow words fresh)).countP _ = 1
    rw [countP_flat (grow words fresh) _ (fun p => decide (shape words p = shape words q'))]
    · exact one_shape hw hf hd n (by omega) q' hq'
    · intro p hp
      have u := due_use hf hd n (by omega) p hp
      have hl := due_mem_len n p hp
      unfold grow
      rw [List.countP_map]
      by_cases e : shape words p = shape words q'
      · rw [decide_eq_true e, if_pos rfl]
        rw [← one_more hw hf hd u (by omega) e y]
        apply List.countP_congr
        intro x _
        simp only [Function.comp, decide_eq_true_iff]
        rw [shape_snoc, shape_snoc, snoc_inj]
        exact ⟨fun h => h.2, fun h => ⟨e, h⟩⟩
      · rw [decide_eq_false e, if_neg Bool.false_ne_true, List.countP_eq_zero]
        intro x _
        simp only [Function.comp, decide_eq_true_iff]
        rw [shape_snoc, shape_snoc, snoc_inj]
        exact fun h => e h.1
end
end M8
end
section
set_option maxRecDepth 100000
set_option maxHeartbeats 1000000
namespace K8
open PySem L2 Dl
/-! ### n1, n2 and so on -/
def nmI (i : Int) : Str := ("n" : Str) ++ (toString i : Str)
def nm (i : Nat) : Str := nmI (i : Int)
theorem tl_n : TL.tl ("n" : Str) = [110] := by decide +kernel
theorem tl_nm (i : Nat) : TL.tl (nm i) = 110 :: TL.numL i := by
  unfold nm nmI
  rw [TL.tl_append, tl_n]
  exact congrArg _ (TL.tl_num i)
theorem nm_inj {i j : Nat} (h : nm i = nm j) : i = j := by
  have e := congrArg TL.tl h
  rw [tl_nm, tl_nm] at e
  exact TL.numL_inj (List.cons.inj e).2
theorem nm_inj1 (n : Nat) : ∀ i j, i < n → j < n → nm (i + 1) = nm (j + 1) → i = j := fun i j _ _ h => Nat.succ.inj (nm_inj h)
theorem num_length {i : Nat} (h : i < 10 ^ 10) : (toString (i : Int) : Str).length ≤ 10 := by
  rw [TL.len_tl]
  rw [show TL.tl (toString (i : Int) : Str) = TL.numL i from TL.tl_num i]
  exact TL.numL_len (by decide) h
theorem nm_length {i : Nat} (h : i < 10 ^ 10) : (nm i).length ≤ 11 := by
  have := num_length h
  rw [TL.len_tl, tl_nm, List.length_cons]
  rw [TL.len_tl, show TL.tl (toString (i : Int) : Str) = TL.numL i from TL.tl_num i] at this
  omega
/-- a text that == may look at -/
structure OkS (x : Str) : Prop where
  ok : PyData.strOk x = true
  sz : x.length ≤ 16
theorem strOk_iff {x : Str} : PyData.strOk x = true ↔ ∀ c ∈ TL.tl x, c < 0x110000 := by
  unfold PyData.strOk
  rw [← Array.all_toList, List.all_eq_true]
  exact ⟨fun h c hc => of_decide_eq_true (h c hc), fun h c hc => decide_eq_true (h c hc)⟩
theorem nm_ok {i : Nat} (h : i < 10 ^ 10) : OkS (nm i) := by
  refine ⟨strOk_iff.mpr fun c hc => ?_, Nat.le_trans (nm_length h) (by decide)⟩
  rw [tl_nm] at hc
  rcases List.mem_cons.mp hc with hc | hc
  · omega
  · have := TL.numL_digits i c hc
    omega
/-! ### what == may look at -/
theorem canLay_map {α : Type} {g : α → PyData} : ∀ xs : List α, (∀ x ∈ xs, (g x).canLay0 = true) → PyData.canLayAll0 (xs.map g) = true
  | [], _ => rfl
  | x :: xs, h => by
    rw [List.map_cons]
    show ((g x).canLay0 && PyData.canLayAll0 (xs.map g)) = true
    rw [h x List.mem_cons_self, canLay_map xs fun y hy => h y (List.mem_cons_of_mem _ hy)]
    rfl
theorem depth_map {α : Type} {g : α → PyData} {n : Nat} : ∀ xs : List α, (∀ x ∈ xs, (g x).depth ≤ n) → PyData.depthAll (xs.map g) ≤ n
  | [], _ => Nat.zero_le _
  | x :: xs, h => by
    rw [List.map_cons]
    show max (g x).depth (PyData.depthAll (xs.map g)) ≤ n
    exact Nat.max_le.mpr ⟨h x List.mem_cons_self, depth_map xs fun y hy => h y (List.mem_cons_of_mem _ hy)⟩
structure Shp (d : PyData) (n : Nat) : Prop where
  lay : d.canLay0 = true
  dep : d.depth ≤ n
theorem shp_str {x : Str} (h : OkS x) {n : Nat} : Shp (.str x) n := ⟨h.ok, Nat.zero_le _⟩
theorem shp_int {i : Int} {n : Nat} : Shp (.int i) n := ⟨rfl, Nat.zero_le _⟩
theorem shp_bool {i : Bool} {n : Nat} : Shp (.bool i) n := ⟨rfl, Nat.zero_le _⟩
theorem shp_list {α : Type} {g : α → PyData} {xs : List α} {n : Nat} (h : ∀ x ∈ xs, Shp (g x) n) : Shp (.list (xs.map g)) (n + 1) :=
  ⟨canLay_map xs fun x hx => (h x hx).lay, Nat.succ_le_succ (depth_map xs fun x hx => (h x hx).dep)⟩
theorem shp_pair {d e : PyData} {n : Nat} (h : Shp d n) (h2 : Shp e n) : Shp (.tuple [d, e]) (n + 1) := by
  have := shp_list (g := fun x : PyData => x) (xs := [d, e]) (n := n) (fun x hx => by
    rcases List.mem_cons.mp hx with rfl | hx
    · exact h
    · rcases List.mem_cons.mp hx with rfl | hx
      · exact h2
      · cases hx)
  exact ⟨this.lay, this.dep⟩
theorem Shp.up {d : PyData} {n m : Nat} (h : Shp d n) (hm : n ≤ m) : Shp d m := ⟨h.lay, Nat.le_trans h.dep hm⟩
theorem Shp.shaped {d : PyData} {n : Nat} (h : Shp d n) (hn : n ≤ 64 := by decide) : SeqAt.shaped d = true := by
  unfold SeqAt.shaped
  rw [h.lay, decide_eq_true (Nat.le_trans h.dep hn)]
  rfl
theorem Shp.refl {d : PyData} {n : Nat} (h : Shp d n) : PyData.eqv d d = true := SeqAt.eqv_refl d h.lay
theorem shp_strs {xs : List Str} (h : ∀ x ∈ xs, OkS x) {n : Nat} : Shp (.list (xs.map .str)) (n + 1) := shp_list fun x hx => shp_str (h x hx)
theorem isd_strs {K : PySem.W.Frag} {xs : List Str} : IsD K (strsK xs) (.list (xs.map .str)) := isd_list fun x _ => isd_str
theorem isd_ints {K : PySem.W.Frag} {xs : List Int} : IsD K (intsK xs) (.list (xs.map .int)) := isd_list fun x _ => isd_int
end K8
end
section
set_option maxRecDepth 100000
set_option maxHeartbeats 4000000
namespace K8
open PySem L2 Dl
/-! ### the text -/
def topS (i : Nat) : Stmt := PySem.Challenge.pw_mappedtwice_k08_patterns_listed.main.body.getD i (.Pass ⟨0, 0, 0, 0⟩)
abbrev s_fresh_words : Stmt := topS 1
theorem sc_fresh_words : FnScope ["used", "many", "taken", "found", "number", "word"] ["used", "many"] (defScope s_fresh_words) := ⟨rfl, rfl, rfl, by decide +kernel, rfl, by decide +kernel, by decide +kernel⟩
abbrev s_next_picks : Stmt := topS 2
theorem sc_next_picks : FnScope ["picks", "many_words", "at", "last", "pick"] ["picks", "many_words"] (defScope s_next_picks) := ⟨rfl, rfl, rfl, by decide +kernel, rfl, by decide +kernel, by decide +kernel⟩
abbrev s_pattern_count : Stmt := topS 4
theorem sc_pattern_count : FnScope ["many_names", "many_words", "counts", "named", "new"] ["many_names", "many_words"] (defScope s_pattern_count) := ⟨rfl, rfl, rfl, by decide +kernel, rfl, by decide +kernel, by decide +kernel⟩
abbrev s_law_pool : Stmt := topS 6
theorem sc_law_pool : FnScope ["script", "cells", "cell"] ["script"] (defScope s_law_pool) := ⟨rfl, rfl, rfl, by decide +kernel, rfl, by decide +kernel, by decide +kernel⟩
abbrev s_law_pick : Stmt := topS 7
theorem sc_law_pick : FnScope ["pool", "many", "at", "here", "cell", "left", "one", "two"] ["pool", "many"] (defScope s_law_pick) := ⟨rfl, rfl, rfl, by decide +kernel, rfl, by decide +kernel, by decide +kernel⟩
abbrev s_law_one_of : Stmt := topS 8
theorem sc_law_one_of : FnScope ["pool", "things"] ["pool", "things"] (defScope s_law_one_of) := ⟨rfl, rfl, rfl, by decide +kernel, rfl, by decide +kernel, by decide +kernel⟩
abbrev s_law_names : Stmt := topS 9
theorem sc_law_names : FnScope ["pool", "many", "signs", "place", "start", "step", "alike", "rest", "k", "found", "size", "j", "told"] ["pool", "many", "signs"] (defScope s_law_names) := ⟨rfl, rfl, rfl, by decide +kernel, rfl, by decide +kernel, by decide +kernel⟩
abbrev s_law_number : Stmt := topS 10
theorem sc_law_number : FnScope ["told"] ["told"] (defScope s_law_number) := ⟨rfl, rfl, rfl, by decide +kernel, rfl, by decide +kernel, by decide +kernel⟩
abbrev s_law_fresh : Stmt := topS 11
theorem sc_law_fresh : FnScope ["used", "many", "found", "k"] ["used", "many"] (defScope s_law_fresh) := ⟨rfl, rfl, rfl, by decide +kernel, rfl, by decide +kernel, by decide +kernel⟩
abbrev s_law_used : Stmt := topS 12
theorem sc_law_used : FnScope ["pool", "words", "used", "k", "turn"] ["pool", "words"] (defScope s_law_used) := ⟨rfl, rfl, rfl, by decide +kernel, rfl, by decide +kernel, by decide +kernel⟩
abbrev s_law_patterns : Stmt := topS 13
theorem sc_law_patterns : FnScope ["names", "words", "used", "fresh", "found", "name", "grown", "picked", "new", "word", "listed", "at"] ["names", "words", "used"] (defScope s_law_patterns) := ⟨rfl, rfl, rfl, by decide +kernel, rfl, by decide +kernel, by decide +kernel⟩
abbrev s_law_shape : Stmt := topS 14
theorem sc_law_shape : FnScope ["picked", "words", "shape", "word"] ["picked", "words"] (defScope s_law_shape) := ⟨rfl, rfl, rfl, by decide +kernel, rfl, by decide +kernel, by decide +kernel⟩
abbrev s_law_count : Stmt := topS 15
theorem sc_law_count : FnScope ["many_names", "many_words", "counts", "k", "grown", "new"] ["many_names", "many_words"] (defScope s_law_count) := ⟨rfl, rfl, rfl, by decide +kernel, rfl, by decide +kernel, by decide +kernel⟩
abbrev s_law_fresh_hold : Stmt := topS 16
theorem sc_law_fresh_hold : FnScope ["pool", "used", "many", "given", "told"] ["pool", "used"] (defScope s_law_fresh_hold) := ⟨rfl, rfl, rfl, by decide +kernel, rfl, by decide +kernel, by decide +kernel⟩
structure Txt (mg : Str → Option Value) : Prop where
  b_abs : mg "abs" = none
  b_bool : mg "bool" = none
  b_enumerate : mg "enumerate" = none
  b_int : mg "int" = none
  b_isinstance : mg "isinstance" = none
  b_len : mg "len" = none
  b_list : mg "list" = none
  b_max : mg "max" = none
  b_range : mg "range" = none
  b_reversed : mg "reversed" = none
  b_set : mg "set" = none
  b_str : mg "str" = none
  b_sum : mg "sum" = none
  b_tuple : mg "tuple" = none
theorem bb_abs : bootBuiltins "abs" = some (.builtin "abs") := by decide +kernel
theorem bb_bool : bootBuiltins "bool" = some (.type "bool") := by decide +kernel
theorem bb_int : bootBuiltins "int" = some (.type "int") := by decide +kernel
theorem bb_isinstance : bootBuiltins "isinstance" = some (.builtin "isinstance") := by decide +kernel
theorem bb_len : bootBuiltins "len" = some (.builtin "len") := by decide +kernel
theorem bb_list : bootBuiltins "list" = some (.type "list") := by decide +kernel
theorem bb_max : bootBuiltins "max" = some (.builtin "max") := by decide +kernel
theorem bb_set : bootBuiltins "set" = some (.type "set") := by decide +kernel
theorem bb_str : bootBuiltins "str" = some (.type "str") := by decide +kernel
theorem bb_sum : bootBuiltins "sum" = some (.builtin "sum") := by decide +kernel
theorem bb_tuple : bootBuiltins "tuple" = some (.type "tuple") := by decide +kernel
/-! ### promises -/
structure FwIn where
  lst : Bool
  used : List Str
  many : Nat
  hu : used.length ≤ 100
  hm : many ≤ 200
def sp_fresh_words (K : PySem.W.Frag) : Sp := spF (ι := FwIn) (fun _ => F0) (fun x => [if x.lst then strsK x.used else tupK K (x.used.map sK), iK (x.many : Int)]) (fun x => pN (.lst ((M8.freshL nm x.used x.many).map sK)))
structure NpIn where
  picks : List Nat
  w : Nat
  h : picks.length ≤ 1000
  hw : w ≤ 1000000
def natK (v : Nat) : Know := iK (v : Int)
def natsK (xs : List Nat) : Know := listK (xs.map natK)
def sp_next_picks (K : PySem.W.Frag) : Sp := spF (ι := NpIn) (fun _ => F0) (fun x => [natsK x.picks, iK (x.w : Int)]) (fun x H v G' H' => match M8.nextF x.w 0 x.picks with
  | none => v = .non
  | some ps => pN (.lst (ps.map natK)) H v G' H')
structure PcIn where
  n : Nat
  w : Nat
  hn : n ≤ 200
  hw : w ≤ 1000
def sp_pattern_count (K : PySem.W.Frag) : Sp := spF (ι := PcIn) (fun _ => F0) (fun x => [iK (x.n : Int), iK (x.w : Int)]) (fun x => pK (iK ((M8.c x.w x.n 0 : Nat) : Int)))
def sp_law_count (K : PySem.W.Frag) : Sp := spF (ι := PcIn) (fun _ => F0) (fun x => [iK (x.n : Int), iK (x.w : Int)]) (fun x => pK (iK ((M8.c x.w x.n 0 : Nat) : Int)))
structure ScIn where
  ns : List Int
  h : ns.length ≤ 63
def sp_law_pool (K : PySem.W.Frag) : Sp := spF (ι := ScIn) (fun _ => F0) (fun x => [seqK K (x.ns.map iK)]) (fun _ H v G' H' => ∃ pl : Pl, v = .ref pl.p ∧ H pl.l = none ∧ H pl.t = none ∧ PoolJ pl G' H')
def Drawn (many r : Int) : Prop := 0 ≤ r ∧ (r < many ∨ (many < 2 ∧ r = 0))
def drawK (many : Int) : Know := exK fun r : {r : Int // Drawn many r} => iK r.1
structure PkIn where
  pl : Pl
  many : Int
  h : many ≤ 1000000
def sp_law_pick (K : PySem.W.Frag) : Sp := spF (ι := PkIn) (fun x => FP x.pl) (fun x => [poolK x.pl, iK x.many]) (fun x => pK (drawK x.many))
inductive Things where
  | lst (ks : List Know)
  | txt (z : Str)
def Things.kn : Things → Know
  | .lst ks => listK ks
  | .txt z => sK z
def Things.len : Things → Nat
  | .lst ks => ks.length
  | .txt z => z.length
def Things.at_ : (x : Things) → Fin x.len → Know
  | .lst ks, i => ks.get i
  | .txt z, i => sK ⟨#[z.cps[i.1]'i.2]⟩
structure OneIn where
  pl : Pl
  th : Things
  h0 : 0 < th.len
  h1 : th.len ≤ 1000000
def sp_law_one_of (K : PySem.W.Frag) : Sp := spF (ι := OneIn) (fun x => FP x.pl) (fun x => [poolK x.pl, x.th.kn]) (fun x => pK (exK fun i : Fin x.th.len => x.th.at_ i))
structure NaIn where
  pl : Pl
  many : Nat
  signs : Str
  hm : many ≤ 36
  hs : signs.length = 36
  nd : signs.cps.toList.Nodup
  ok : PyData.strOk signs = true
structure NamesOk (many : Nat) (xs : List Str) : Prop where
  len : xs.length = many
  nd : xs.Nodup
  ok : ∀ x ∈ xs, OkS x
def sp_law_names (K : PySem.W.Frag) : Sp := spF (ι := NaIn) (fun x => FP x.pl) (fun x => [poolK x.pl, iK (x.many : Int), sK x.signs]) (fun x H v G' H' => ∃ xs, NamesOk x.many xs ∧ pN (.lst (xs.map sK)) H v G' H')
def sp_law_number (K : PySem.W.Frag) : Sp := spF (ι := Int) (fun _ => F0) (fun x => [iK x]) (fun x => pK (iK x))
structure LfIn where
  used : List Str
  many : Nat
  hu : used.length ≤ 100
  hm : many ≤ 200
def sp_law_fresh (K : PySem.W.Frag) : Sp := spF (ι := LfIn) (fun _ => F0) (fun x => [strsK x.used, iK (x.many : Int)]) (fun x => pN (.lst ((M8.freshL nm x.used x.many).map sK)))
structure LuIn where
  pl : Pl
  words : List Str
  h : words.length ≤ 3
  ok : ∀ x ∈ words, OkS x
def sp_law_used (K : PySem.W.Frag) : Sp := spF (ι := LuIn) (fun x => FP x.pl) (fun x => [poolK x.pl, strsK x.words]) (fun x H v G' H' => ∃ us : List Str, us.length ≤ 11 ∧ (∀ z ∈ x.words, z ∈ us) ∧ (∀ z ∈ us, OkS z) ∧ pN (.lst (us.map sK)) H v G' H')
structure LpIn where
  names : List Str
  words : List Str
  used : List Str
  hn : names.length ≤ 6
  hw : words.length ≤ 3
  hu : used.length ≤ 11
  sub : ∀ x ∈ words, x ∈ used
  on : ∀ x ∈ names, OkS x
  ou : ∀ x ∈ used, OkS x
def LpIn.fresh (x : LpIn) : List Str := M8.freshL nm x.used x.names.length
def LpIn.due (x : LpIn) : List (List Str) := M8.due x.words x.fresh x.names.length
def pairKn (K : PySem.W.Frag) (p : Str × Str) : Know := tupK K [sK p.1, sK p.2]
def rowKn (K : PySem.W.Frag) (l : List (Str × Str)) : Know := listK (l.map (pairKn K))
def sp_law_patterns (K : PySem.W.Frag) : Sp := spF (ι := LpIn) (fun _ => F0) (fun x => [strsK x.names, strsK x.words, strsK x.used]) (fun x => pN (.lst (x.due.map fun p => rowKn K (x.names.zip p))))
def sumK : Sum Str Nat → Know
  | .inl x => sK x
  | .inr i => iK (i : Int)
structure LsIn where
  picked : List Str
  words : List Str
  hp : picked.length ≤ 1000
def sp_law_shape (K : PySem.W.Frag) : Sp := spF (ι := LsIn) (fun _ => F0) (fun x => [strsK x.picked, strsK x.words]) (fun x => pN (.lst ((M8.shape x.words x.picked).map sumK)))
structure FhIn where
  pl : Pl
  used : List Str
  hu : used.length ≤ 11
  ok : ∀ x ∈ used, OkS x
def sp_law_fresh_hold (K : PySem.W.Frag) : Sp := spF (ι := FhIn) (fun x => FP x.pl) (fun x => [poolK x.pl, strsK x.used]) (fun _ => pK (bK true))
structure PhIn where
  pl : Pl
  x : LpIn
  nn : x.names.Nodup
  nw : x.words.Nodup
def sp_law_patterns_hold (K : PySem.W.Frag) : Sp := spF (ι := PhIn) (fun x => FP x.pl) (fun x => [poolK x.pl, strsK x.x.names, strsK x.x.words, strsK x.x.used]) (fun _ => pK (bK true))
/-! ### a def as its callers know it -/
structure Cal (P : Program) (w : World) (K : PySem.W.Frag) (mg : Str → Option Value) (base : Heap) (x : Str) (st : Stmt) (ps : List Str) (k : Nat) (f : Addr) (fd : FuncData) (sp : Sp) : Prop where
  A : FnAt K mg x st ps f fd
  O : FnOk P w K mg base CX0 k f fd ps sp
def gSwapU : List Value → List Value → List Value
  | [], [a, b] => [b, a]
  | _, _ => []
def gSwap : List V → List V → List V
  | [], [a, b] => [b, a]
  | _, _ => []
structure CalK (P : Program) (w : World) (K : PySem.W.Frag) (mg : Str → Option Value) (base : Heap) (x : Str) (st : Stmt) (ps : List Str) (k : Nat) (f : Addr) (fd : FuncData) (sp : Sp) : Prop extends Cal P w K mg base x st ps k f fd sp where
  kb : KBinds K fd ps ps.reverse gSwapU gSwap
def t_fresh_words (K : PySem.W.Frag) (P : Program) (w : World) : TS :=
    (tSeq (tAsg (tCB (rSetS K P w) (tCons (tVar 0) tNil)) (gName 2))
    (tSeq (tAsg (tLst tNil) (gName 3))
    (tSeq (tAsg (tC (.int 0)) (gName 4))
    (tSeq (tWhile (tTest (tOp (rI0 fun i j => .bl (decide (i < j))) (tCB (rLenQ K) (tCons (tVar 3) tNil)) (tVar 1))) (tSeq (tAug 4 (tC (.int 1)) (ipI fun i j => i + j))
      (tSeq (tAsg (tJoined [(tC (.str "n")), (tFmt (tVar 4))]) (gName 5))
      (tIfS (tTest (tOp (rSInK P w true) (tVar 5) (tVar 2))) (tDrop (tBM K "list" rAppend (tVar 3) (tCons (tVar 5) tNil))) tNext))))
    (tRet (tVar 3))))))
def t_next_picks (K : PySem.W.Frag) : TS :=
    (tSeq (tFor (iRevR (tRg1 (tCB (rLenQ K) (tCons (tVar 0) tNil)))) (gName 2) (tSeq (tAsg (tCB (rMax K) (tCons (tOp rCat (tLst (tCons (tVar 1) tNil)) (tLc (iList K (tSl (rSlL K) (tVar 0) tNoPart (tPart (tVar 2)))) (gName 4) tYes (tOp (rI0 fun i j => .int (i + j)) (tVar 4) (tC (.int 1))) [4])) tNil)) (gName 3))
      (tIfS (tTest (tOp (rI0 fun i j => .bl (decide (i < j))) (tOp (rIxL K) (tVar 0) (tVar 2)) (tVar 3))) (tRet (tOp rCat (tOp rCat (tSl (rSlL K) (tVar 0) tNoPart (tPart (tVar 2))) (tLst (tCons (tOp (rI0 fun i j => .int (i + j)) (tOp (rIxL K) (tVar 0) (tVar 2)) (tC (.int 1))) tNil))) (tOp rRep (tLst (tCons (tC (.int 0)) tNil)) (tOp (rI0 fun i j => .int (i - j)) (tOp (rI0 fun i j => .int (i - j)) (tCB (rLenQ K) (tCons (tVar 0) tNil)) (tVar 2)) (tC (.int 1)))))) tNext)))
    (tRet (tC .non)))
def t_pattern_count (K : PySem.W.Frag) : TS :=
    (tSeq (tAsg (tOp rRep (tLst (tCons (tC (.int 1)) tNil)) (tOp (rI0 fun i j => .int (i + j)) (tVar 0) (tC (.int 1)))) (gName 2))
    (tSeq (tFor (iRng1 (tCons (tVar 0) tNil)) (gName 3) (tAsg (tLc (iRng1 (tCons (tOp (rI0 fun i j => .int (i - j)) (tVar 0) (tVar 3)) tNil)) (gName 4) tYes (tOp (rI0 fun i j => .int (i + j)) (tOp (rI CMulW fun i j => .int (i * j)) (tOp (rI0 fun i j => .int (i + j)) (tVar 1) (tVar 4)) (tOp (rIxL K) (tVar 2) (tVar 4))) (tOp (rIxL K) (tVar 2) (tOp (rI0 fun i j => .int (i + j)) (tVar 4) (tC (.int 1))))) [4]) (gName 2)))
    (tRet (tOp (rIxL K) (tVar 2) (tC (.int 0))))))
def t_law_pool (K : PySem.W.Frag) : TS :=
    (tSeq (tAsg (tLc (iList K (tSl (rSlL K) (tVar 0) tNoPart (tPart (tC (.int 63))))) (gName 2) tYes (tOp (rI (fun _ j => 0 < j) fun i j => .int (i % j)) (tCB rInt (tCons (tCB rAbs (tCons (tVar 2) tNil)) tNil)) (tOp (rI CPow fun i j => .int (i * 2 ^ j.toNat)) (tC (.int 1)) (tC (.int 6000)))) [2]) (gName 1))
    (tSeq (tIfS (tTest (tOp (rEqD K) (tVar 1) (tLst tNil))) (tAsg (tLst (tCons (tC (.int 0)) tNil)) (gName 1)) tNext)
    (tRet (tLst (tCons (tVar 1) (tCons (tCB (rListQ K) (tCons (tVar 1) tNil)) (tCons (tLst (tCons (tC (.int 0)) tNil)) tNil)))))))
def t_law_pick (K : PySem.W.Frag) : TS :=
    (tSeq (tIfS (tTest (tOp (rI0 fun i j => .bl (decide (i < j))) (tVar 1) (tC (.int 2)))) (tRet (tC (.int 0))) tNext)
    (tSeq (tAsg (tCB rInt (tCons (tOp (rIxL K) (tOp (rIxL K) (tVar 0) (tC (.int 2))) (tC (.int 0))) tNil)) (gName 2))
    (tSeq (tAsg (tOp (rI0 fun i j => .int (i + j)) (tVar 2) (tC (.int 1))) (gSub (tOp (rIxL K) (tVar 0) (tC (.int 2))) (tC (.int 0)) rSetL))
    (tSeq (tAsg (tOp (rI (fun _ j => 0 < j) fun i j => .int (i % j)) (tCB rInt (tCons (tVar 2) tNil)) (tCB (rLenQ K) (tCons (tOp (rIxL K) (tVar 0) (tC (.int 0))) tNil))) (gName 3))
    (tSeq (tAsg (tCB rInt (tCons (tOp (rIxL K) (tOp (rIxL K) (tVar 0) (tC (.int 0))) (tVar 3)) tNil)) (gName 4))
    (tSeq (tAsg (tCB rInt (tCons (tOp (rIxL K) (tOp (rIxL K) (tVar 0) (tC (.int 1))) (tVar 3)) tNil)) (gName 5))
    (tSeq (tIfS (tAnd (tTest (tOp (rI0 fun i j => .bl (decide (j ≤ i))) (tVar 4) (tOp (rI CPow fun i j => .int (i ^ j.toNat)) (tC (.int 10)) (tC (.int 18))))) (tTest (tOp (rI0 fun i j => .bl (decide (j < i))) (tVar 5) (tC (.int 0))))) (tSeq (tAsg (tOp (rI CDiv fun i j => .int (i / j)) (tVar 5) (tVar 1)) (gSub (tOp (rIxL K) (tVar 0) (tC (.int 1))) (tVar 3) rSetL))
      (tRet (tOp (rI (fun _ j => 0 < j) fun i j => .int (i % j)) (tCB rInt (tCons (tVar 5) tNil)) (tVar 1)))) tNext)
    (tSeq (tAsg (tOp (rI (fun _ j => 0 < j) fun i j => .int (i % j)) (tCB rInt (tCons (tOp (rI0 fun i j => .int (i + j)) (tOp (rI0 fun i j => .int (i + j)) (tOp (rI CMul fun i j => .int (i * j)) (tOp (rI (fun _ j => 0 < j) fun i j => .int (i % j)) (tCB rInt (tCons (tVar 4) tNil)) (tC (.int 1000003))) (tC (.int 7919))) (tOp (rI CMul fun i j => .int (i * j)) (tVar 2) (tC (.int 104729)))) (tC (.int 12345))) tNil)) (tC (.int 1000003))) (gName 6))
    (tSeq (tAsg (tOp (rI (fun _ j => 0 < j) fun i j => .int (i % j)) (tCB rInt (tCons (tOp (rI0 fun i j => .int (i + j)) (tOp (rI0 fun i j => .int (i + j)) (tOp (rI CMul fun i j => .int (i * j)) (tVar 6) (tVar 6)) (tOp (rI (fun _ j => 0 < j) fun i j => .int (i % j)) (tOp (rI CDiv fun i j => .int (i / j)) (tCB rInt (tCons (tVar 4) tNil)) (tC (.int 1000003))) (tC (.int 1000003)))) (tVar 2)) tNil)) (tC (.int 998244353))) (gName 7))
    (tRet (tOp (rI (fun _ j => 0 < j) fun i j => .int (i % j)) (tOp (rI CDiv fun i j => .int (i / j)) (tOp (rI (fun _ j => 0 < j) fun i j => .int (i % j)) (tCB rInt (tCons (tOp (rI0 fun i j => .int (i + j)) (tOp (rI0 fun i j => .int (i + j)) (tOp (rI CMul fun i j => .int (i * j)) (tVar 7) (tVar 7)) (tOp (rI CMul fun i j => .int (i * j)) (tC (.int 3)) (tVar 2))) (tC (.int 1))) tNil)) (tC (.int 1000000007))) (tC (.int 97))) (tVar 1))))))))))))
def t_law_one_of (K : PySem.W.Frag) : TS :=
    (tRet (tOp (rIx K) (tVar 1) (tCall (sp_law_pick K) [] E0 (tCons (tVar 0) (tCons (tCB (rLenV K) (tCons (tVar 1) tNil)) tNil)))))
def t_law_names (K : PySem.W.Frag) : TS :=
    (tSeq (tAsg (tCall (sp_law_pick K) [] E0 (tCons (tVar 0) (tCons (tC (.int 3)) tNil))) (gName 3))
    (tSeq (tAsg (tCall (sp_law_pick K) [] E0 (tCons (tVar 0) (tCons (tCB rLenS (tCons (tVar 2) tNil)) tNil))) (gName 4))
    (tSeq (tAsg (tCall (sp_law_one_of K) [] E0 (tCons (tVar 0) (tCons (tLst (tCons (tC (.int 1)) (tCons (tC (.int 5)) (tCons (tC (.int 7)) (tCons (tC (.int 11)) (tCons (tC (.int 17)) (tCons (tC (.int 19)) (tCons (tC (.int 23)) (tCons (tC (.int 25)) tNil))))))))) tNil))) (gName 5))
    (tSeq (tAsg (tOp rEq (tCall (sp_law_pick K) [] E0 (tCons (tVar 0) (tCons (tC (.int 2)) tNil))) (tC (.int 0))) (gName 6))
    (tSeq (tAsg (tM1 (rJoinQ K) (tC (.str "")) (tLc (iRng1 (tCons (tC (.int 7)) tNil)) (gName 8) tYes (tCall (sp_law_one_of K) [] E0 (tCons (tVar 0) (tCons (tVar 2) tNil))) [8])) (gName 7))
    (tSeq (tAsg (tLst tNil) (gName 9))
    (tSeq (tFor (iRng1 (tCons (tVar 1) tNil)) (gName 8) (tSeq (tAsg (tOp (rI0 fun i j => .int (i + j)) (tOp (rI0 fun i j => .int (i + j)) (tVar 3) (tC (.int 1))) (tCall (sp_law_pick K) [] E0 (tCons (tVar 0) (tCons (tOp (rI0 fun i j => .int (i - j)) (tC (.int 3)) (tVar 3)) tNil)))) (gName 10))
      (tSeq (tIfS (tTest (tOp rEq (tCall (sp_law_pick K) [] E0 (tCons (tVar 0) (tCons (tC (.int 8)) tNil))) (tC (.int 0)))) (tAsg (tC (.int 8)) (gName 10)) tNext)
      (tSeq (tIfS (tNot (tB (tVar 6))) (tAsg (tM1 (rJoinQ K) (tC (.str "")) (tLc (iRng1 (tCons (tC (.int 7)) tNil)) (gName 11) tYes (tCall (sp_law_one_of K) [] E0 (tCons (tVar 0) (tCons (tVar 2) tNil))) [11])) (gName 7)) tNext)
      (tSeq (tAsg (tOp rIxS (tVar 2) (tOp (rI (fun _ j => 0 < j) fun i j => .int (i % j)) (tCB rInt (tCons (tOp (rI0 fun i j => .int (i + j)) (tVar 4) (tOp (rI CMul fun i j => .int (i * j)) (tVar 8) (tVar 5))) tNil)) (tCB rLenS (tCons (tVar 2) tNil)))) (gName 12))
      (tDrop (tBM K "list" rAppend (tVar 9) (tCons (tOp rAddStr (tOp rAddStr (tSl rSlS (tVar 7) tNoPart (tPart (tVar 3))) (tVar 12)) (tSl rSlS (tVar 7) (tPart (tVar 3)) (tPart (tOp (rI0 fun i j => .int (i - j)) (tVar 10) (tC (.int 1)))))) tNil))))))))
    (tRet (tVar 9)))))))))
def t_law_number (K : PySem.W.Frag) : TS :=
    (tSeq (tIfS (tAnd (tB (tCB (rIsi K) (tCons (tVar 0) (tCons (tC (.ty "int")) tNil)))) (tNot (tB (tCB (rIsi K) (tCons (tVar 0) (tCons (tC (.ty "bool")) tNil)))))) (tRet (tVar 0)) tNext)
    (tRet (tC .non)))
def t_law_fresh (K : PySem.W.Frag) : TS :=
    (tSeq (tAsg (tLst tNil) (gName 2))
    (tSeq (tFor (iRng2 (tCons (tC (.int 1)) (tCons (tOp (rI0 fun i j => .int (i + j)) (tOp (rI0 fun i j => .int (i + j)) (tCB (rLenQ K) (tCons (tVar 0) tNil)) (tVar 1)) (tC (.int 1))) tNil))) (gName 3) (tIfS (tTest (tOp (rIn K true) (tOp rAddStr (tC (.str "n")) (tCB rStrI (tCons (tVar 3) tNil))) (tVar 0))) (tDrop (tBM K "list" rAppend (tVar 2) (tCons (tOp rAddStr (tC (.str "n")) (tCB rStrI (tCons (tVar 3) tNil))) tNil))) tNext))
    (tRet (tSl (rSlL K) (tVar 2) tNoPart (tPart (tVar 1))))))
def t_law_used (K : PySem.W.Frag) : TS :=
    (tSeq (tAsg (tCB (rListQ K) (tCons (tVar 1) tNil)) (gName 2))
    (tSeq (tFor (iRng2 (tCons (tC (.int 1)) (tCons (tC (.int 9)) tNil))) (gName 3) (tIfS (tAnd (tTest (tOp rEq (tCall (sp_law_pick K) [] E0 (tCons (tVar 0) (tCons (tC (.int 2)) tNil))) (tC (.int 0)))) (tTest (tOp (rIn K true) (tOp rAddStr (tC (.str "n")) (tCB rStrI (tCons (tVar 3) tNil))) (tVar 2)))) (tDrop (tBM K "list" rAppend (tVar 2) (tCons (tOp rAddStr (tC (.str "n")) (tCB rStrI (tCons (tVar 3) tNil))) tNil))) tNext))
    (tSeq (tAsg (tCall (sp_law_pick K) [] E0 (tCons (tVar 0) (tCons (tOp (rI0 fun i j => .int (i + j)) (tCB (rLenQ K) (tCons (tVar 2) tNil)) (tC (.int 1))) tNil))) (gName 4))
    (tRet (tOp rCat (tSl (rSlL K) (tVar 2) (tPart (tVar 4)) tNoPart) (tSl (rSlL K) (tVar 2) tNoPart (tPart (tVar 4))))))))
def t_law_patterns (K : PySem.W.Frag) : TS :=
    (tSeq (tAsg (tCall (sp_law_fresh K) [] E0 (tCons (tVar 2) (tCons (tCB (rLenQ K) (tCons (tVar 0) tNil)) tNil))) (gName 3))
    (tSeq (tAsg (tLst (tCons (tLst tNil) tNil)) (gName 4))
    (tSeq (tFor (iList K (tVar 0)) (gName 5) (tSeq (tAsg (tLst tNil) (gName 6))
      (tSeq (tFor (iList K (tCB (rListQ K) (tCons (tVar 4) tNil))) (gName 7) (tSeq (tAsg (tLc (iList K (tVar 3)) (gName 9) (tTest (tOp (rIn K false) (tVar 9) (tVar 7))) (tVar 9) [9]) (gName 8))
      (tFor (iList K (tOp rCat (tVar 1) (tSl (rSlL K) (tVar 3) tNoPart (tPart (tOp (rI0 fun i j => .int (i + j)) (tCB (rLenQ K) (tCons (tVar 8) tNil)) (tC (.int 1))))))) (gName 9) (tDrop (tBM K "list" rAppend (tVar 6) (tCons (tOp rCat (tVar 7) (tLst (tCons (tVar 9) tNil))) tNil))))))
      (tAsg (tVar 6) (gName 4)))))
    (tSeq (tAsg (tLst tNil) (gName 10))
    (tSeq (tFor (iList K (tVar 4)) (gName 7) (tDrop (tBM K "list" rAppend (tVar 10) (tCons (tLc (iEnum K (tCons (tVar 0) tNil)) (gTup K 2 (gCons (gName 11) (gCons (gName 5) gNil))) tYes (tTup (tCons (tVar 5) (tCons (tOp (rIx K) (tVar 7) (tVar 11)) tNil))) [11, 5]) tNil))))
    (tRet (tVar 10)))))))
def t_law_shape (K : PySem.W.Frag) : TS :=
    (tSeq (tAsg (tLst tNil) (gName 2))
    (tSeq (tFor (iList K (tVar 0)) (gName 3) (tIfS (tTest (tOp (rIn K false) (tVar 3) (tVar 1))) (tDrop (tBM K "list" rAppend (tVar 2) (tCons (tVar 3) tNil))) (tDrop (tBM K "list" rAppend (tVar 2) (tCons (tBM K "list" (rIndex K) (tVar 0) (tCons (tVar 3) tNil)) tNil)))))
    (tRet (tVar 2))))
def t_law_count (K : PySem.W.Frag) : TS :=
    (tSeq (tAsg (tLst (tCons (tC (.int 1)) tNil)) (gName 2))
    (tSeq (tFor (iRng1 (tCons (tVar 0) tNil)) (gName 3) (tSeq (tAsg (tLst (tCons (tOp (rI CMulW fun i j => .int (i * j)) (tVar 1) (tOp (rIxL K) (tVar 2) (tC (.int 0)))) tNil)) (gName 4))
      (tSeq (tFor (iRng2 (tCons (tC (.int 1)) (tCons (tCB (rLenQ K) (tCons (tVar 2) tNil)) tNil))) (gName 5) (tDrop (tBM K "list" rAppend (tVar 4) (tCons (tOp (rI0 fun i j => .int (i + j)) (tOp (rI CMulW fun i j => .int (i * j)) (tOp (rI0 fun i j => .int (i + j)) (tVar 1) (tVar 5)) (tOp (rIxL K) (tVar 2) (tVar 5))) (tOp (rIxL K) (tVar 2) (tOp (rI0 fun i j => .int (i - j)) (tVar 5) (tC (.int 1))))) tNil))))
      (tAsg (tOp rCat (tVar 4) (tLst (tCons (tOp (rIxL K) (tVar 2) (tUn (rU fun i => .int (-i)) (tC (.int 1)))) tNil))) (gName 2)))))
    (tRet (tCB (rSum K) (tCons (tVar 2) tNil)))))
def t_law_fresh_hold (K : PySem.W.Frag) : TS :=
    (tSeq (tAsg (tCall (sp_law_one_of K) [] E0 (tCons (tVar 0) (tCons (tLst (tCons (tC (.int 0)) (tCons (tC (.int 1)) (tCons (tC (.int 2)) (tCons (tC (.int 3)) (tCons (tC (.int 12)) (tCons (tC (.int 100)) tNil))))))) tNil))) (gName 2))
    (tSeq (tAsg (tOp rCat (tVar 1) (tSl (rSlL K) (tVar 1) tNoPart (tPart (tC (.int 2))))) (gName 3))
    (tSeq (tAsg (tCall (sp_fresh_words K) [] E0 (tCons (tVar 3) (tCons (tVar 2) tNil))) (gName 4))
    (tSeq (tIfS (tOr (tTest (tOp (rNeD K) (tVar 4) (tCall (sp_law_fresh K) [] E0 (tCons (tVar 1) (tCons (tVar 2) tNil))))) (tTest (tOp (rNeD K) (tVar 3) (tOp rCat (tVar 1) (tSl (rSlL K) (tVar 1) tNoPart (tPart (tC (.int 2)))))))) (tRet (tC (.bl false))) tNext)
    (tSeq (tDrop (tBM K "list" rAppend (tVar 4) (tCons (tC (.str "zz")) tNil)))
    (tRet (tOp (rEqD K) (tCallK (sp_fresh_words K) gSwap E0 tNil (tCons (tVar 2) (tCons (tCB (rTupQ K) (tCons (tVar 1) tNil)) tNil))) (tCall (sp_law_fresh K) [] E0 (tCons (tVar 1) (tCons (tVar 2) tNil))))))))))
section
variable {P : Program} {w : World} {K : PySem.W.Frag} {mg : Str → Option Value} {base : Heap} {f : Addr}
theorem d_fresh_words (T : Txt mg)  (cdv : Value) (A : Around) (outer : List PySem.Env) (s : Shared) (H : Hp) (E : XK) (hr : Room 0 (A.deeper (PyProof.Rows.envOfC "fresh_words" (defScope s_fresh_words) s.heap.objs.size f cdv))) :
    PSs (cxOf CX0 P w K mg base ["used", "many", "taken", "found", "number", "word"] "fresh_words" (defScope s_fresh_words) f cdv A outer s H E).nox (defBody s_fresh_words) (t_fresh_words K P w) := by
  exact (pss_cons (ps_set (i := 2) sc_fresh_words.nd rfl (by first | exact Or.inl rfl | exact Or.inr rfl) (pe_callTy (cx_setS rfl) (by rfl) T.b_set bb_set (pa_cons (pv 0) pa_nil)))
    (pss_cons (ps_set (i := 3) sc_fresh_words.nd rfl (by first | exact Or.inl rfl | exact Or.inr rfl) (pe_lst pa_nil))
    (pss_cons (ps_set (i := 4) sc_fresh_words.nd rfl (by first | exact Or.inl rfl | exact Or.inr rfl) pe_int)
    (pss_cons (ps_while PassesOwn.never (pt_cmpR op_lt (pe_callB cx_len (by rfl) T.b_len bb_len (pa_cons (pv 3) pa_nil)) (pv 1) (nomark _)) (pss_cons (ps_aug (i := 4) sc_fresh_words.nd rfl (by first | exact Or.inl rfl | exact Or.inr rfl) pe_int ip_add)
      (pss_cons (ps_set (i := 5) sc_fresh_words.nd rfl (by first | exact Or.inl rfl | exact Or.inr rfl) (pe_joinedT (pj_cons pe_str (pj_cons (pe_fmt (pv 4)) pj_nil))))
      (pss_one (ps_if (pt_cmpR or_snotinK (pv 5) (pv 2) (by rfl)) (pss_one (ps_expr (pe_bm PySem.F.plainAttrs_list PySem.F.slot_list_append PySem.F.type_list_append mt_append (pv 3) (pa_cons (pv 5) pa_nil)))) pss_nil)))))
    (pss_one (ps_ret (pv 3)))))))
theorem d_next_picks (T : Txt mg)  (cdv : Value) (A : Around) (outer : List PySem.Env) (s : Shared) (H : Hp) (E : XK) (hr : Room 0 (A.deeper (PyProof.Rows.envOfC "_next_picks" (defScope s_next_picks) s.heap.objs.size f cdv))) :
    PSs (cxOf CX0 P w K mg base ["picks", "many_words", "at", "last", "pick"] "_next_picks" (defScope s_next_picks) f cdv A outer s H E).nox (defBody s_next_picks) (t_next_picks K) := by
  exact (pss_cons (ps_for PassesOwn.never rfl (pi_revR (by rfl) T.b_reversed (prg_1 (by rfl) T.b_range (pe_callB cx_len (by rfl) T.b_len bb_len (pa_cons (pv 0) pa_nil)))) (pg_name (i := 2) sc_next_picks.nd rfl (by first | exact Or.inl rfl | exact Or.inr rfl)) (pss_cons (ps_set (i := 3) sc_next_picks.nd rfl (by first | exact Or.inl rfl | exact Or.inr rfl) (pe_callB (cr_max rfl) (by rfl) T.b_max bb_max (pa_cons (pe_op op_cat (pe_lst (pa_cons (pv 1) pa_nil)) (pe_lc (own := [("pick", 4)]) (g := (gName 4)) (tt := tYes) (te := (tOp (rI0 fun i j => .int (i + j)) (tVar 4) (tC (.int 1)))) rfl sc_next_picks.nd (pi_list (pe_slice sl_list (pv 0) po_none (po_some (pv 2)))) (blkOk_by (own := [("pick", 4)]) (N := ["picks", "many_words", "at", "last", "pick"]) (sc := defScope s_next_picks) (by decide +kernel)) (fun _ _ _ _ _ => (pg_name (i := 4) sc_next_picks.nd rfl (by first | exact Or.inl rfl | exact Or.inr rfl))) (fun _ _ _ _ _ => pts_nil) (fun _ _ _ _ _ => (pe_op op_add (pv 4) pe_int)))) pa_nil)))
      (pss_one (ps_if (pt_cmpR op_lt (pe_ix ix_list (pv 0) (pv 2) (fun _ _ => rfl)) (pv 3) (nomark _)) (pss_one (ps_ret (pe_op op_cat (pe_op op_cat (pe_slice sl_list (pv 0) po_none (po_some (pv 2))) (pe_lst (pa_cons (pe_op op_add (pe_ix ix_list (pv 0) (pv 2) (fun _ _ => rfl)) pe_int) pa_nil))) (pe_op op_rep (pe_lst (pa_cons pe_int pa_nil)) (pe_op op_sub (pe_op op_sub (pe_callB cx_len (by rfl) T.b_len bb_len (pa_cons (pv 0) pa_nil)) (pv 2)) pe_int))))) pss_nil))))
    (pss_one (ps_ret pe_non)))
theorem d_pattern_count (T : Txt mg)  (cdv : Value) (A : Around) (outer : List PySem.Env) (s : Shared) (H : Hp) (E : XK) (hr : Room 0 (A.deeper (PyProof.Rows.envOfC "pattern_count" (defScope s_pattern_count) s.heap.objs.size f cdv))) :
    PSs (cxOf CX0 P w K mg base ["many_names", "many_words", "counts", "named", "new"] "pattern_count" (defScope s_pattern_count) f cdv A outer s H E).nox (defBody s_pattern_count) (t_pattern_count K) := by
  exact (pss_cons (ps_set (i := 2) sc_pattern_count.nd rfl (by first | exact Or.inl rfl | exact Or.inr rfl) (pe_op op_rep (pe_lst (pa_cons pe_int pa_nil)) (pe_op op_add (pv 0) pe_int)))
    (pss_cons (ps_for PassesOwn.never rfl (pi_range1 (by rfl) T.b_range (pa_cons (pv 0) pa_nil)) (pg_name (i := 3) sc_pattern_count.nd rfl (by first | exact Or.inl rfl | exact Or.inr rfl)) (pss_one (by first | exact (ps_setLc (i := 2) (own := [("new", 4)]) (g := (gName 4)) (tt := tYes) (te := (tOp (rI0 fun i j => .int (i + j)) (tOp (rI CMulW fun i j => .int (i * j)) (tOp (rI0 fun i j => .int (i + j)) (tVar 1) (tVar 4)) (tOp (rIxL K) (tVar 2) (tVar 4))) (tOp (rIxL K) (tVar 2) (tOp (rI0 fun i j => .int (i + j)) (tVar 4) (tC (.int 1)))))) rfl sc_pattern_count.nd rfl rfl (sw_true rfl rfl rfl (by decide +kernel)) (pi_range1 (by rfl) T.b_range (pa_cons (pe_op op_sub (pv 0) (pv 3)) pa_nil)) (blkOk_by (own := [("new", 4)]) (N := ["many_names", "many_words", "counts", "named", "new"]) (sc := defScope s_pattern_count) (by decide +kernel)) (fun _ _ _ _ _ => (pg_name (i := 4) sc_pattern_count.nd rfl (by first | exact Or.inl rfl | exact Or.inr rfl))) (fun _ _ _ _ _ => pts_nil) (fun _ _ _ _ _ => (pe_op op_add (pe_op op_mulW (pe_op op_add (pv 1) (pv 4)) (pe_ix ix_list (pv 2) (pv 4) (fun _ _ => rfl))) (pe_ix ix_list (pv 2) (pe_op op_add (pv 4) pe_int) (fun _ _ => rfl))))) | exact (ps_set (i := 2) sc_pattern_count.nd rfl (by first | exact Or.inl rfl | exact Or.inr rfl) (pe_lc (own := [("new", 4)]) (g := (gName 4)) (tt := tYes) (te := (tOp (rI0 fun i j => .int (i + j)) (tOp (rI CMulW fun i j => .int (i * j)) (tOp (rI0 fun i j => .int (i + j)) (tVar 1) (tVar 4)) (tOp (rIxL K) (tVar 2) (tVar 4))) (tOp (rIxL K) (tVar 2) (tOp (rI0 fun i j => .int (i + j)) (tVar 4) (tC (.int 1)))))) rfl sc_pattern_count.nd (pi_range1 (by rfl) T.b_range (pa_cons (pe_op op_sub (pv 0) (pv 3)) pa_nil)) (blkOk_by (own := [("new", 4)]) (N := ["many_names", "many_words", "counts", "named", "new"]) (sc := defScope s_pattern_count) (by decide +kernel)) (fun _ _ _ _ _ => (pg_name (i := 4) sc_pattern_count.nd rfl (by first | exact Or.inl rfl | exact Or.inr rfl))) (fun _ _ _ _ _ => pts_nil) (fun _ _ _ _ _ => (pe_op op_add (pe_op op_mulW (pe_op op_add (pv 1) (pv 4)) (pe_ix ix_list (pv 2) (pv 4) (fun _ _ => rfl))) (pe_ix ix_list (pv 2) (pe_op op_add (pv 4) pe_int) (fun _ _ => rfl)))))))))
    (pss_one (ps_ret (pe_ix ix_list (pv 2) pe_int (fun _ _ => rfl))))))
theorem d_law_pool (T : Txt mg)  (cdv : Value) (A : Around) (outer : List PySem.Env) (s : Shared) (H : Hp) (E : XK) (hr : Room 0 (A.deeper (PyProof.Rows.envOfC "_law_pool" (defScope s_law_pool) s.heap.objs.size f cdv))) :
    PSs (cxOf CX0 P w K mg base ["script", "cells", "cell"] "_law_pool" (defScope s_law_pool) f cdv A outer s H E).nox (defBody s_law_pool) (t_law_pool K) := by
  exact (pss_cons (by first | exact (ps_setLc (i := 1) (own := [("cell", 2)]) (g := (gName 2)) (tt := tYes) (te := (tOp (rI (fun _ j => 0 < j) fun i j => .int (i % j)) (tCB rInt (tCons (tCB rAbs (tCons (tVar 2) tNil)) tNil)) (tOp (rI CPow fun i j => .int (i * 2 ^ j.toNat)) (tC (.int 1)) (tC (.int 6000))))) rfl sc_law_pool.nd rfl rfl (sw_true rfl rfl rfl (by decide +kernel)) (pi_list (pe_slice sl_list (pv 0) po_none (po_some pe_int))) (blkOk_by (own := [("cell", 2)]) (N := ["script", "cells", "cell"]) (sc := defScope s_law_pool) (by decide +kernel)) (fun _ _ _ _ _ => (pg_name (i := 2) sc_law_pool.nd rfl (by first | exact Or.inl rfl | exact Or.inr rfl))) (fun _ _ _ _ _ => pts_nil) (fun _ _ _ _ _ => (pe_op op_mod (pe_callTy cx_int (by rfl) T.b_int bb_int (pa_cons (pe_callB cx_abs (by rfl) T.b_abs bb_abs (pa_cons (pv 2) pa_nil)) pa_nil)) (pe_op op_shl pe_int pe_int)))) | exact (ps_set (i := 1) sc_law_pool.nd rfl (by first | exact Or.inl rfl | exact Or.inr rfl) (pe_lc (own := [("cell", 2)]) (g := (gName 2)) (tt := tYes) (te := (tOp (rI (fun _ j => 0 < j) fun i j => .int (i % j)) (tCB rInt (tCons (tCB rAbs (tCons (tVar 2) tNil)) tNil)) (tOp (rI CPow fun i j => .int (i * 2 ^ j.toNat)) (tC (.int 1)) (tC (.int 6000))))) rfl sc_law_pool.nd (pi_list (pe_slice sl_list (pv 0) po_none (po_some pe_int))) (blkOk_by (own := [("cell", 2)]) (N := ["script", "cells", "cell"]) (sc := defScope s_law_pool) (by decide +kernel)) (fun _ _ _ _ _ => (pg_name (i := 2) sc_law_pool.nd rfl (by first | exact Or.inl rfl | exact Or.inr rfl))) (fun _ _ _ _ _ => pts_nil) (fun _ _ _ _ _ => (pe_op op_mod (pe_callTy cx_int (by rfl) T.b_int bb_int (pa_cons (pe_callB cx_abs (by rfl) T.b_abs bb_abs (pa_cons (pv 2) pa_nil)) pa_nil)) (pe_op op_shl pe_int pe_int))))))
    (pss_cons (ps_if (pt_cmpR (op_eqD hr.units) (pv 1) (pe_lst pa_nil) (nomark _)) (pss_one (ps_set (i := 1) sc_law_pool.nd rfl (by first | exact Or.inl rfl | exact Or.inr rfl) (pe_lst (pa_cons pe_int pa_nil)))) pss_nil)
    (pss_one (ps_ret (pe_lst (pa_cons (pv 1) (pa_cons (pe_callTy cx_list (by rfl) T.b_list bb_list (pa_cons (pv 1) pa_nil)) (pa_cons (pe_lst (pa_cons pe_int pa_nil)) pa_nil))))))))
theorem d_law_pick (T : Txt mg)  (cdv : Value) (A : Around) (outer : List PySem.Env) (s : Shared) (H : Hp) (E : XK) (hr : Room 0 (A.deeper (PyProof.Rows.envOfC "_law_pick" (defScope s_law_pick) s.heap.objs.size f cdv))) :
    PSs (cxOf CX0 P w K mg base ["pool", "many", "at", "here", "cell", "left", "one", "two"] "_law_pick" (defScope s_law_pick) f cdv A outer s H E).nox (defBody s_law_pick) (t_law_pick K) := by
  exact (pss_cons (ps_if (pt_cmpR op_lt (pv 1) pe_int (nomark _)) (pss_one (ps_ret pe_int)) pss_nil)
    (pss_cons (ps_set (i := 2) sc_law_pick.nd rfl (by first | exact Or.inl rfl | exact Or.inr rfl) (pe_callTy cx_int (by rfl) T.b_int bb_int (pa_cons (pe_ix ix_list (pe_ix ix_list (pv 0) pe_int (fun _ _ => rfl)) pe_int (fun _ _ => rfl)) pa_nil)))
    (pss_cons (ps_asg (pe_op op_add (pv 2) pe_int) (pg_sub (pe_ix ix_list (pv 0) pe_int (fun _ _ => rfl)) pe_int set_list))
    (pss_cons (ps_set (i := 3) sc_law_pick.nd rfl (by first | exact Or.inl rfl | exact Or.inr rfl) (pe_op op_mod (pe_callTy cx_int (by rfl) T.b_int bb_int (pa_cons (pv 2) pa_nil)) (pe_callB cx_len (by rfl) T.b_len bb_len (pa_cons (pe_ix ix_list (pv 0) pe_int (fun _ _ => rfl)) pa_nil))))
    (pss_cons (ps_set (i := 4) sc_law_pick.nd rfl (by first | exact Or.inl rfl | exact Or.inr rfl) (pe_callTy cx_int (by rfl) T.b_int bb_int (pa_cons (pe_ix ix_list (pe_ix ix_list (pv 0) pe_int (fun _ _ => rfl)) (pv 3) (fun _ _ => rfl)) pa_nil)))
    (pss_cons (ps_set (i := 5) sc_law_pick.nd rfl (by first | exact Or.inl rfl | exact Or.inr rfl) (pe_callTy cx_int (by rfl) T.b_int bb_int (pa_cons (pe_ix ix_list (pe_ix ix_list (pv 0) pe_int (fun _ _ => rfl)) (pv 3) (fun _ _ => rfl)) pa_nil)))
    (pss_cons (ps_if (PW.pt (pw_and (pt_cmpR op_ge (pv 4) (pe_op op_pow pe_int pe_int) (nomark _)) (pw_and1 (pt_cmpR op_gt (pv 5) pe_int (nomark _))))) (pss_cons (ps_asg (pe_op op_fdiv (pv 5) (pv 1)) (pg_sub (pe_ix ix_list (pv 0) pe_int (fun _ _ => rfl)) (pv 3) set_list))
      (pss_one (ps_ret (pe_op op_mod (pe_callTy cx_int (by rfl) T.b_int bb_int (pa_cons (pv 5) pa_nil)) (pv 1))))) pss_nil)
    (pss_cons (ps_set (i := 6) sc_law_pick.nd rfl (by first | exact Or.inl rfl | exact Or.inr rfl) (pe_op op_mod (pe_callTy cx_int (by rfl) T.b_int bb_int (pa_cons (pe_op op_add (pe_op op_add (pe_op op_mul (pe_op op_mod (pe_callTy cx_int (by rfl) T.b_int bb_int (pa_cons (pv 4) pa_nil)) pe_int) pe_int) (pe_op op_mul (pv 2) pe_int)) pe_int) pa_nil)) pe_int))
    (pss_cons (ps_set (i := 7) sc_law_pick.nd rfl (by first | exact Or.inl rfl | exact Or.inr rfl) (pe_op op_mod (pe_callTy cx_int (by rfl) T.b_int bb_int (pa_cons (pe_op op_add (pe_op op_add (pe_op op_mul (pv 6) (pv 6)) (pe_op op_mod (pe_op op_fdiv (pe_callTy cx_int (by rfl) T.b_int bb_int (pa_cons (pv 4) pa_nil)) pe_int) pe_int)) (pv 2)) pa_nil)) pe_int))
    (pss_one (ps_ret (pe_op op_mod (pe_op op_fdiv (pe_op op_mod (pe_callTy cx_int (by rfl) T.b_int bb_int (pa_cons (pe_op op_add (pe_op op_add (pe_op op_mul (pv 7) (pv 7)) (pe_op op_mul pe_int (pv 2))) pe_int) pa_nil)) pe_int) pe_int) (pv 1)))))))))))))
theorem d_law_one_of {f_law_pick : Addr} {fd_law_pick : FuncData} (T : Txt mg) (C_law_pick : Cal P w K mg base "_law_pick" s_law_pick ["pool", "many"] 1 f_law_pick fd_law_pick (sp_law_pick K)) (cdv : Value) (A : Around) (outer : List PySem.Env) (s : Shared) (H : Hp) (E : XK) (hr : Room 1 (A.deeper (PyProof.Rows.envOfC "_law_one_of" (defScope s_law_one_of) s.heap.objs.size f cdv))) :
    PSs (cxOf CX0 P w K mg base ["pool", "things"] "_law_one_of" (defScope s_law_one_of) f cdv A outer s H E).nox (defBody s_law_one_of) (t_law_one_of K) := by
  exact (pss_one (ps_ret (pe_ix ix_seq (pv 1) (pe_call C_law_pick.O (hr.mono (by decide)) (by rfl) C_law_pick.A.g C_law_pick.A.F.kp C_law_pick.A.b .nil pass0 (pa_cons (pv 0) (pa_cons (pe_callB cx_lenV (by rfl) T.b_len bb_len (pa_cons (pv 1) pa_nil)) pa_nil))) (fun _ _ => rfl))))
theorem d_law_names {f_law_pick f_law_one_of : Addr} {fd_law_pick fd_law_one_of : FuncData} (T : Txt mg) (C_law_pick : Cal P w K mg base "_law_pick" s_law_pick ["pool", "many"] 1 f_law_pick fd_law_pick (sp_law_pick K)) (C_law_one_of : Cal P w K mg base "_law_one_of" s_law_one_of ["pool", "things"] 2 f_law_one_of fd_law_one_of (sp_law_one_of K)) (cdv : Value) (A : Around) (outer : List PySem.Env) (s : Shared) (H : Hp) (E : XK) (hr : Room 2 (A.deeper (PyProof.Rows.envOfC "_law_names" (defScope s_law_names) s.heap.objs.size f cdv))) :
    PSs (cxOf CX0 P w K mg base ["pool", "many", "signs", "place", "start", "step", "alike", "rest", "k", "found", "size", "j", "told"] "_law_names" (defScope s_law_names) f cdv A outer s H E).nox (defBody s_law_names) (t_law_names K) := by
  exact (pss_cons (ps_set (i := 3) sc_law_names.nd rfl (by first | exact Or.inl rfl | exact Or.inr rfl) (pe_call C_law_pick.O (hr.mono (by decide)) (by rfl) C_law_pick.A.g C_law_pick.A.F.kp C_law_pick.A.b .nil pass0 (pa_cons (pv 0) (pa_cons pe_int pa_nil))))
    (pss_cons (ps_set (i := 4) sc_law_names.nd rfl (by first | exact Or.inl rfl | exact Or.inr rfl) (pe_call C_law_pick.O (hr.mono (by decide)) (by rfl) C_law_pick.A.g C_law_pick.A.F.kp C_law_pick.A.b .nil pass0 (pa_cons (pv 0) (pa_cons (pe_callB cx_lenS (by rfl) T.b_len bb_len (pa_cons (pv 2) pa_nil)) pa_nil))))
    (pss_cons (ps_set (i := 5) sc_law_names.nd rfl (by first | exact Or.inl rfl | exact Or.inr rfl) (pe_call C_law_one_of.O (hr.mono (by decide)) (by rfl) C_law_one_of.A.g C_law_one_of.A.F.kp C_law_one_of.A.b .nil pass0 (pa_cons (pv 0) (pa_cons (pe_lst (pa_cons pe_int (pa_cons pe_int (pa_cons pe_int (pa_cons pe_int (pa_cons pe_int (pa_cons pe_int (pa_cons pe_int (pa_cons pe_int pa_nil))))))))) pa_nil))))
    (pss_cons (ps_set (i := 6) sc_law_names.nd rfl (by first | exact Or.inl rfl | exact Or.inr rfl) (pe_cmpR op_eq (pe_call C_law_pick.O (hr.mono (by decide)) (by rfl) C_law_pick.A.g C_law_pick.A.F.kp C_law_pick.A.b .nil pass0 (pa_cons (pv 0) (pa_cons pe_int pa_nil))) pe_int (nomark _)))
    (pss_cons (ps_set (i := 7) sc_law_names.nd rfl (by first | exact Or.inl rfl | exact Or.inr rfl) (pe_m1 PySem.F.slot_str_join PySem.F.type_str_join mx_join pe_str (pe_lc (own := [("k", 8)]) (g := (gName 8)) (tt := tYes) (te := (tCall (sp_law_one_of K) [] E0 (tCons (tVar 0) (tCons (tVar 2) tNil)))) rfl sc_law_names.nd (pi_range1 (by rfl) T.b_range (pa_cons pe_int pa_nil)) (blkOk_by (own := [("k", 8)]) (N := ["pool", "many", "signs", "place", "start", "step", "alike", "rest", "k", "found", "size", "j", "told"]) (sc := defScope s_law_names) (by decide +kernel)) (fun _ _ _ _ _ => (pg_name (i := 8) sc_law_names.nd rfl (by first | exact Or.inl rfl | exact Or.inr rfl))) (fun _ _ _ _ _ => pts_nil) (fun _ _ _ _ _ => (pe_call C_law_one_of.O (hr.mono (by decide)) (by rfl) C_law_one_of.A.g C_law_one_of.A.F.kp C_law_one_of.A.b .nil pass0 (pa_cons (pv 0) (pa_cons (pv 2) pa_nil)))))))
    (pss_cons (ps_set (i := 9) sc_law_names.nd rfl (by first | exact Or.inl rfl | exact Or.inr rfl) (pe_lst pa_nil))
    (pss_cons (ps_for PassesOwn.never rfl (pi_range1 (by rfl) T.b_range (pa_cons (pv 1) pa_nil)) (pg_name (i := 8) sc_law_names.nd rfl (by first | exact Or.inl rfl | exact Or.inr rfl)) (pss_cons (ps_set (i := 10) sc_law_names.nd rfl (by first | exact Or.inl rfl | exact Or.inr rfl) (pe_op op_add (pe_op op_add (pv 3) pe_int) (pe_call C_law_pick.O (hr.mono (by decide)) (by rfl) C_law_pick.A.g C_law_pick.A.F.kp C_law_pick.A.b .nil pass0 (pa_cons (pv 0) (pa_cons (pe_op op_sub pe_int (pv 3)) pa_nil)))))
      (pss_cons (ps_if (pt_cmpR op_eq (pe_call C_law_pick.O (hr.mono (by decide)) (by rfl) C_law_pick.A.g C_law_pick.A.F.kp C_law_pick.A.b .nil pass0 (pa_cons (pv 0) (pa_cons pe_int pa_nil))) pe_int (nomark _)) (pss_one (ps_set (i := 10) sc_law_names.nd rfl (by first | exact Or.inl rfl | exact Or.inr rfl) pe_int)) pss_nil)
      (pss_cons (ps_if (pt_not (pt_val (pv 6))) (pss_one (ps_set (i := 7) sc_law_names.nd rfl (by first | exact Or.inl rfl | exact Or.inr rfl) (pe_m1 PySem.F.slot_str_join PySem.F.type_str_join mx_join pe_str (pe_lc (own := [("j", 11)]) (g := (gName 11)) (tt := tYes) (te := (tCall (sp_law_one_of K) [] E0 (tCons (tVar 0) (tCons (tVar 2) tNil)))) rfl sc_law_names.nd (pi_range1 (by rfl) T.b_range (pa_cons pe_int pa_nil)) (blkOk_by (own := [("j", 11)]) (N := ["pool", "many", "signs", "place", "start", "step", "alike", "rest", "k", "found", "size", "j", "told"]) (sc := defScope s_law_names) (by decide +kernel)) (fun _ _ _ _ _ => (pg_name (i := 11) sc_law_names.nd rfl (by first | exact Or.inl rfl | exact Or.inr rfl))) (fun _ _ _ _ _ => pts_nil) (fun _ _ _ _ _ => (pe_call C_law_one_of.O (hr.mono (by decide)) (by rfl) C_law_one_of.A.g C_law_one_of.A.F.kp C_law_one_of.A.b .nil pass0 (pa_cons (pv 0) (pa_cons (pv 2) pa_nil)))))))) pss_nil)
      (pss_cons (ps_set (i := 12) sc_law_names.nd rfl (by first | exact Or.inl rfl | exact Or.inr rfl) (pe_ix ix_str (pv 2) (pe_op op_mod (pe_callTy cx_int (by rfl) T.b_int bb_int (pa_cons (pe_op op_add (pv 4) (pe_op op_mul (pv 8) (pv 5))) pa_nil)) (pe_callB cx_lenS (by rfl) T.b_len bb_len (pa_cons (pv 2) pa_nil))) (fun _ _ => rfl)))
      (pss_one (ps_expr (pe_bm PySem.F.plainAttrs_list PySem.F.slot_list_append PySem.F.type_list_append mt_append (pv 9) (pa_cons (pe_op ox_addS (pe_op ox_addS (pe_slice sl_str (pv 7) po_none (po_some (pv 3))) (pv 12)) (pe_slice sl_str (pv 7) (po_some (pv 3)) (po_some (pe_op op_sub (pv 10) pe_int)))) pa_nil)))))))))
    (pss_one (ps_ret (pv 9))))))))))
theorem d_law_number (T : Txt mg)  (cdv : Value) (A : Around) (outer : List PySem.Env) (s : Shared) (H : Hp) (E : XK) (hr : Room 0 (A.deeper (PyProof.Rows.envOfC "_law_number" (defScope s_law_number) s.heap.objs.size f cdv))) :
    PSs (cxOf CX0 P w K mg base ["told"] "_law_number" (defScope s_law_number) f cdv A outer s H E).nox (defBody s_law_number) (t_law_number K) := by
  exact (pss_cons (ps_if (PW.pt (pw_and (pt_val (pe_callB call_isi (by rfl) T.b_isinstance bb_isinstance (pa_cons (pv 0) (pa_cons (pe_bltn (v := .ty "int") (by rfl) T.b_int bb_int rfl) pa_nil)))) (pw_and1 (pt_not (pt_val (pe_callB call_isi (by rfl) T.b_isinstance bb_isinstance (pa_cons (pv 0) (pa_cons (pe_bltn (v := .ty "bool") (by rfl) T.b_bool bb_bool rfl) pa_nil)))))))) (pss_one (ps_ret (pv 0))) pss_nil)
    (pss_one (ps_ret pe_non)))
theorem d_law_fresh (T : Txt mg)  (cdv : Value) (A : Around) (outer : List PySem.Env) (s : Shared) (H : Hp) (E : XK) (hr : Room 0 (A.deeper (PyProof.Rows.envOfC "_law_fresh" (defScope s_law_fresh) s.heap.objs.size f cdv))) :
    PSs (cxOf CX0 P w K mg base ["used", "many", "found", "k"] "_law_fresh" (defScope s_law_fresh) f cdv A outer s H E).nox (defBody s_law_fresh) (t_law_fresh K) := by
  exact (pss_cons (ps_set (i := 2) sc_law_fresh.nd rfl (by first | exact Or.inl rfl | exact Or.inr rfl) (pe_lst pa_nil))
    (pss_cons (ps_for PassesOwn.never rfl (pi_range2 (by rfl) T.b_range (pa_cons pe_int (pa_cons (pe_op op_add (pe_op op_add (pe_callB cx_len (by rfl) T.b_len bb_len (pa_cons (pv 0) pa_nil)) (pv 1)) pe_int) pa_nil))) (pg_name (i := 3) sc_law_fresh.nd rfl (by first | exact Or.inl rfl | exact Or.inr rfl)) (pss_one (ps_if (pt_cmpR op_notIn_seq (pe_op ox_addS pe_str (pe_callTy cx_strI (by rfl) T.b_str bb_str (pa_cons (pv 3) pa_nil))) (pv 0) (by rfl)) (pss_one (ps_expr (pe_bm PySem.F.plainAttrs_list PySem.F.slot_list_append PySem.F.type_list_append mt_append (pv 2) (pa_cons (pe_op ox_addS pe_str (pe_callTy cx_strI (by rfl) T.b_str bb_str (pa_cons (pv 3) pa_nil))) pa_nil)))) pss_nil)))
    (pss_one (ps_ret (pe_slice sl_list (pv 2) po_none (po_some (pv 1)))))))
theorem d_law_used {f_law_pick : Addr} {fd_law_pick : FuncData} (T : Txt mg) (C_law_pick : Cal P w K mg base "_law_pick" s_law_pick ["pool", "many"] 1 f_law_pick fd_law_pick (sp_law_pick K)) (cdv : Value) (A : Around) (outer : List PySem.Env) (s : Shared) (H : Hp) (E : XK) (hr : Room 1 (A.deeper (PyProof.Rows.envOfC "_law_used" (defScope s_law_used) s.heap.objs.size f cdv))) :
    PSs (cxOf CX0 P w K mg base ["pool", "words", "used", "k", "turn"] "_law_used" (defScope s_law_used) f cdv A outer s H E).nox (defBody s_law_used) (t_law_used K) := by
  exact (pss_cons (ps_set (i := 2) sc_law_used.nd rfl (by first | exact Or.inl rfl | exact Or.inr rfl) (pe_callTy cx_list (by rfl) T.b_list bb_list (pa_cons (pv 1) pa_nil)))
    (pss_cons (ps_for PassesOwn.never rfl (pi_range2 (by rfl) T.b_range (pa_cons pe_int (pa_cons pe_int pa_nil))) (pg_name (i := 3) sc_law_used.nd rfl (by first | exact Or.inl rfl | exact Or.inr rfl)) (pss_one (ps_if (PW.pt (pw_and (pt_cmpR op_eq (pe_call C_law_pick.O (hr.mono (by decide)) (by rfl) C_law_pick.A.g C_law_pick.A.F.kp C_law_pick.A.b .nil pass0 (pa_cons (pv 0) (pa_cons pe_int pa_nil))) pe_int (nomark _)) (pw_and1 (pt_cmpR op_notIn_seq (pe_op ox_addS pe_str (pe_callTy cx_strI (by rfl) T.b_str bb_str (pa_cons (pv 3) pa_nil))) (pv 2) (by rfl))))) (pss_one (ps_expr (pe_bm PySem.F.plainAttrs_list PySem.F.slot_list_append PySem.F.type_list_append mt_append (pv 2) (pa_cons (pe_op ox_addS pe_str (pe_callTy cx_strI (by rfl) T.b_str bb_str (pa_cons (pv 3) pa_nil))) pa_nil)))) pss_nil)))
    (pss_cons (ps_set (i := 4) sc_law_used.nd rfl (by first | exact Or.inl rfl | exact Or.inr rfl) (pe_call C_law_pick.O (hr.mono (by decide)) (by rfl) C_law_pick.A.g C_law_pick.A.F.kp C_law_pick.A.b .nil pass0 (pa_cons (pv 0) (pa_cons (pe_op op_add (pe_callB cx_len (by rfl) T.b_len bb_len (pa_cons (pv 2) pa_nil)) pe_int) pa_nil))))
    (pss_one (ps_ret (pe_op op_cat (pe_slice sl_list (pv 2) (po_some (pv 4)) po_none) (pe_slice sl_list (pv 2) po_none (po_some (pv 4)))))))))
theorem d_law_patterns {f_law_fresh : Addr} {fd_law_fresh : FuncData} (T : Txt mg) (C_law_fresh : Cal P w K mg base "_law_fresh" s_law_fresh ["used", "many"] 1 f_law_fresh fd_law_fresh (sp_law_fresh K)) (cdv : Value) (A : Around) (outer : List PySem.Env) (s : Shared) (H : Hp) (E : XK) (hr : Room 1 (A.deeper (PyProof.Rows.envOfC "_law_patterns" (defScope s_law_patterns) s.heap.objs.size f cdv))) :
    PSs (cxOf CX0 P w K mg base ["names", "words", "used", "fresh", "found", "name", "grown", "picked", "new", "word", "listed", "at"] "_law_patterns" (defScope s_law_patterns) f cdv A outer s H E).nox (defBody s_law_patterns) (t_law_patterns K) := by
  exact (pss_cons (ps_set (i := 3) sc_law_patterns.nd rfl (by first | exact Or.inl rfl | exact Or.inr rfl) (pe_call C_law_fresh.O (hr.mono (by decide)) (by rfl) C_law_fresh.A.g C_law_fresh.A.F.kp C_law_fresh.A.b .nil pass0 (pa_cons (pv 2) (pa_cons (pe_callB cx_len (by rfl) T.b_len bb_len (pa_cons (pv 0) pa_nil)) pa_nil))))
    (pss_cons (ps_set (i := 4) sc_law_patterns.nd rfl (by first | exact Or.inl rfl | exact Or.inr rfl) (pe_lst (pa_cons (pe_lst pa_nil) pa_nil)))
    (pss_cons (ps_for PassesOwn.never rfl (pi_list (pv 0)) (pg_name (i := 5) sc_law_patterns.nd rfl (by first | exact Or.inl rfl | exact Or.inr rfl)) (pss_cons (ps_set (i := 6) sc_law_patterns.nd rfl (by first | exact Or.inl rfl | exact Or.inr rfl) (pe_lst pa_nil))
      (pss_cons (ps_for PassesOwn.never rfl (pi_list (pe_callTy cx_list (by rfl) T.b_list bb_list (pa_cons (pv 4) pa_nil))) (pg_name (i := 7) sc_law_patterns.nd rfl (by first | exact Or.inl rfl | exact Or.inr rfl)) (pss_cons (by first | exact (ps_setLc (i := 8) (own := [("word", 9)]) (g := (gName 9)) (tt := (tTest (tOp (rIn K false) (tVar 9) (tVar 7)))) (te := (tVar 9)) rfl sc_law_patterns.nd rfl rfl (sw_true rfl rfl rfl (by decide +kernel)) (pi_list (pv 3)) (blkOk_by (own := [("word", 9)]) (N := ["names", "words", "used", "fresh", "found", "name", "grown", "picked", "new", "word", "listed", "at"]) (sc := defScope s_law_patterns) (by decide +kernel)) (fun _ _ _ _ _ => (pg_name (i := 9) sc_law_patterns.nd rfl (by first | exact Or.inl rfl | exact Or.inr rfl))) (fun _ _ _ _ _ => (pts_one (pt_cmpR op_in_seq (pv 9) (pv 7) (by rfl)))) (fun _ _ _ _ _ => (pv 9))) | exact (ps_set (i := 8) sc_law_patterns.nd rfl (by first | exact Or.inl rfl | exact Or.inr rfl) (pe_lc (own := [("word", 9)]) (g := (gName 9)) (tt := (tTest (tOp (rIn K false) (tVar 9) (tVar 7)))) (te := (tVar 9)) rfl sc_law_patterns.nd (pi_list (pv 3)) (blkOk_by (own := [("word", 9)]) (N := ["names", "words", "used", "fresh", "found", "name", "grown", "picked", "new", "word", "listed", "at"]) (sc := defScope s_law_patterns) (by decide +kernel)) (fun _ _ _ _ _ => (pg_name (i := 9) sc_law_patterns.nd rfl (by first | exact Or.inl rfl | exact Or.inr rfl))) (fun _ _ _ _ _ => (pts_one (pt_cmpR op_in_seq (pv 9) (pv 7) (by rfl)))) (fun _ _ _ _ _ => (pv 9)))))
      (pss_one (ps_for PassesOwn.never rfl (pi_list (pe_op op_cat (pv 1) (pe_slice sl_list (pv 3) po_none (po_some (pe_op op_add (pe_callB cx_len (by rfl) T.b_len bb_len (pa_cons (pv 8) pa_nil)) pe_int))))) (pg_name (i := 9) sc_law_patterns.nd rfl (by first | exact Or.inl rfl | exact Or.inr rfl)) (pss_one (ps_expr (pe_bm PySem.F.plainAttrs_list PySem.F.slot_list_append PySem.F.type_list_append mt_append (pv 6) (pa_cons (pe_op op_cat (pv 7) (pe_lst (pa_cons (pv 9) pa_nil))) pa_nil))))))))
      (pss_one (ps_set (i := 4) sc_law_patterns.nd rfl (by first | exact Or.inl rfl | exact Or.inr rfl) (pv 6))))))
    (pss_cons (ps_set (i := 10) sc_law_patterns.nd rfl (by first | exact Or.inl rfl | exact Or.inr rfl) (pe_lst pa_nil))
    (pss_cons (ps_for PassesOwn.never rfl (pi_list (pv 4)) (pg_name (i := 7) sc_law_patterns.nd rfl (by first | exact Or.inl rfl | exact Or.inr rfl)) (pss_one (ps_expr (pe_bm PySem.F.plainAttrs_list PySem.F.slot_list_append PySem.F.type_list_append mt_append (pv 10) (pa_cons (pe_lc (own := [("at", 11), ("name", 5)]) (g := (gTup K 2 (gCons (gName 11) (gCons (gName 5) gNil)))) (tt := tYes) (te := (tTup (tCons (tVar 5) (tCons (tOp (rIx K) (tVar 7) (tVar 11)) tNil)))) rfl sc_law_patterns.nd (pi_enum (by rfl) T.b_enumerate (pa_cons (pv 0) pa_nil)) (blkOk_by (own := [("at", 11), ("name", 5)]) (N := ["names", "words", "used", "fresh", "found", "name", "grown", "picked", "new", "word", "listed", "at"]) (sc := defScope s_law_patterns) (by decide +kernel)) (fun _ _ _ _ _ => (pg_tup rfl (pgs_cons (pg_name (i := 11) sc_law_patterns.nd rfl (by first | exact Or.inl rfl | exact Or.inr rfl)) (pgs_cons (pg_name (i := 5) sc_law_patterns.nd rfl (by first | exact Or.inl rfl | exact Or.inr rfl)) pgs_nil)))) (fun _ _ _ _ _ => pts_nil) (fun _ _ _ _ _ => (pe_tup (pa_cons (pv 5) (pa_cons (pe_ix ix_seq (pv 7) (pv 11) (fun _ _ => rfl)) pa_nil))))) pa_nil)))))
    (pss_one (ps_ret (pv 10))))))))
theorem d_law_shape (T : Txt mg)  (cdv : Value) (A : Around) (outer : List PySem.Env) (s : Shared) (H : Hp) (E : XK) (hr : Room 0 (A.deeper (PyProof.Rows.envOfC "_law_shape" (defScope s_law_shape) s.heap.objs.size f cdv))) :
    PSs (cxOf CX0 P w K mg base ["picked", "words", "shape", "word"] "_law_shape" (defScope s_law_shape) f cdv A outer s H E).nox (defBody s_law_shape) (t_law_shape K) := by
  exact (pss_cons (ps_set (i := 2) sc_law_shape.nd rfl (by first | exact Or.inl rfl | exact Or.inr rfl) (pe_lst pa_nil))
    (pss_cons (ps_for PassesOwn.never rfl (pi_list (pv 0)) (pg_name (i := 3) sc_law_shape.nd rfl (by first | exact Or.inl rfl | exact Or.inr rfl)) (pss_one (ps_if (pt_cmpR op_in_seq (pv 3) (pv 1) (by rfl)) (pss_one (ps_expr (pe_bm PySem.F.plainAttrs_list PySem.F.slot_list_append PySem.F.type_list_append mt_append (pv 2) (pa_cons (pv 3) pa_nil)))) (pss_one (ps_expr (pe_bm PySem.F.plainAttrs_list PySem.F.slot_list_append PySem.F.type_list_append mt_append (pv 2) (pa_cons (pe_bm PySem.F.plainAttrs_list PySem.F.slot_list_index PySem.F.type_list_index mt_index (pv 0) (pa_cons (pv 3) pa_nil)) pa_nil)))))))
    (pss_one (ps_ret (pv 2)))))
theorem d_law_count (T : Txt mg)  (cdv : Value) (A : Around) (outer : List PySem.Env) (s : Shared) (H : Hp) (E : XK) (hr : Room 0 (A.deeper (PyProof.Rows.envOfC "_law_count" (defScope s_law_count) s.heap.objs.size f cdv))) :
    PSs (cxOf CX0 P w K mg base ["many_names", "many_words", "counts", "k", "grown", "new"] "_law_count" (defScope s_law_count) f cdv A outer s H E).nox (defBody s_law_count) (t_law_count K) := by
  exact (pss_cons (ps_set (i := 2) sc_law_count.nd rfl (by first | exact Or.inl rfl | exact Or.inr rfl) (pe_lst (pa_cons pe_int pa_nil)))
    (pss_cons (ps_for PassesOwn.never rfl (pi_range1 (by rfl) T.b_range (pa_cons (pv 0) pa_nil)) (pg_name (i := 3) sc_law_count.nd rfl (by first | exact Or.inl rfl | exact Or.inr rfl)) (pss_cons (ps_set (i := 4) sc_law_count.nd rfl (by first | exact Or.inl rfl | exact Or.inr rfl) (pe_lst (pa_cons (pe_op op_mulW (pv 1) (pe_ix ix_list (pv 2) pe_int (fun _ _ => rfl))) pa_nil)))
      (pss_cons (ps_for PassesOwn.never rfl (pi_range2 (by rfl) T.b_range (pa_cons pe_int (pa_cons (pe_callB cx_len (by rfl) T.b_len bb_len (pa_cons (pv 2) pa_nil)) pa_nil))) (pg_name (i := 5) sc_law_count.nd rfl (by first | exact Or.inl rfl | exact Or.inr rfl)) (pss_one (ps_expr (pe_bm PySem.F.plainAttrs_list PySem.F.slot_list_append PySem.F.type_list_append mt_append (pv 4) (pa_cons (pe_op op_add (pe_op op_mulW (pe_op op_add (pv 1) (pv 5)) (pe_ix ix_list (pv 2) (pv 5) (fun _ _ => rfl))) (pe_ix ix_list (pv 2) (pe_op op_sub (pv 5) pe_int) (fun _ _ => rfl))) pa_nil)))))
      (pss_one (ps_set (i := 2) sc_law_count.nd rfl (by first | exact Or.inl rfl | exact Or.inr rfl) (pe_op op_cat (pv 4) (pe_lst (pa_cons (pe_ix ix_list (pv 2) (pe_un un_neg pe_int) (fun _ _ => rfl)) pa_nil))))))))
    (pss_one (ps_ret (pe_callB (cr_sum rfl) (by rfl) T.b_sum bb_sum (pa_cons (pv 2) pa_nil))))))
theorem d_law_fresh_hold {f_law_one_of f_fresh_words f_law_fresh : Addr} {fd_law_one_of fd_fresh_words fd_law_fresh : FuncData} (T : Txt mg) (C_law_one_of : Cal P w K mg base "_law_one_of" s_law_one_of ["pool", "things"] 2 f_law_one_of fd_law_one_of (sp_law_one_of K)) (C_fresh_words : CalK P w K mg base "fresh_words" s_fresh_words ["used", "many"] 1 f_fresh_words fd_fresh_words (sp_fresh_words K)) (C_law_fresh : Cal P w K mg base "_law_fresh" s_law_fresh ["used", "many"] 1 f_law_fresh fd_law_fresh (sp_law_fresh K)) (cdv : Value) (A : Around) (outer : List PySem.Env) (s : Shared) (H : Hp) (E : XK) (hr : Room 2 (A.deeper (PyProof.Rows.envOfC "_law_fresh_hold" (defScope s_law_fresh_hold) s.heap.objs.size f cdv))) :
    PSs (cxOf CX0 P w K mg base ["pool", "used", "many", "given", "told"] "_law_fresh_hold" (defScope s_law_fresh_hold) f cdv A outer s H E).nox (defBody s_law_fresh_hold) (t_law_fresh_hold K) := by
  exact (pss_cons (ps_set (i := 2) sc_law_fresh_hold.nd rfl (by first | exact Or.inl rfl | exact Or.inr rfl) (pe_call C_law_one_of.O (hr.mono (by decide)) (by rfl) C_law_one_of.A.g C_law_one_of.A.F.kp C_law_one_of.A.b .nil pass0 (pa_cons (pv 0) (pa_cons (pe_lst (pa_cons pe_int (pa_cons pe_int (pa_cons pe_int (pa_cons pe_int (pa_cons pe_int (pa_cons pe_int pa_nil))))))) pa_nil))))
    (pss_cons (ps_set (i := 3) sc_law_fresh_hold.nd rfl (by first | exact Or.inl rfl | exact Or.inr rfl) (pe_op op_cat (pv 1) (pe_slice sl_list (pv 1) po_none (po_some pe_int))))
    (pss_cons (ps_set (i := 4) sc_law_fresh_hold.nd rfl (by first | exact Or.inl rfl | exact Or.inr rfl) (pe_call C_fresh_words.O (hr.mono (by decide)) (by rfl) C_fresh_words.A.g C_fresh_words.A.F.kp C_fresh_words.A.b .nil pass0 (pa_cons (pv 3) (pa_cons (pv 2) pa_nil))))
    (pss_cons (ps_if (PW.pt (pw_or (pt_cmpR (op_neD hr.units) (pv 4) (pe_call C_law_fresh.O (hr.mono (by decide)) (by rfl) C_law_fresh.A.g C_law_fresh.A.F.kp C_law_fresh.A.b .nil pass0 (pa_cons (pv 1) (pa_cons (pv 2) pa_nil))) (nomark _)) (pw_or1 (pt_cmpR (op_neD hr.units) (pv 3) (pe_op op_cat (pv 1) (pe_slice sl_list (pv 1) po_none (po_some pe_int))) (nomark _))))) (pss_one (ps_ret pe_bl)) pss_nil)
    (pss_cons (ps_expr (pe_bm PySem.F.plainAttrs_list PySem.F.slot_list_append PySem.F.type_list_append mt_append (pv 4) (pa_cons pe_str pa_nil)))
    (pss_one (ps_ret (pe_cmpR (op_eqD hr.units) (pe_callK0 C_fresh_words.O (hr.mono (by decide)) (by rfl) C_fresh_words.A.g C_fresh_words.A.F.kp C_fresh_words.kb pass0 (pk_cons (pv 2) (pk_cons (pe_callTy cx_tup (by rfl) T.b_tuple bb_tuple (pa_cons (pv 1) pa_nil)) pk_nil))) (pe_call C_law_fresh.O (hr.mono (by decide)) (by rfl) C_law_fresh.A.g C_law_fresh.A.F.kp C_law_fresh.A.b .nil pass0 (pa_cons (pv 1) (pa_cons (pv 2) pa_nil))) (nomark _)))))))))
end
end K8
end
section
set_option maxRecDepth 100000
set_option maxHeartbeats 4000000
namespace K8
open PySem L2 Dl
local macro_rules | `(tactic| k_extra "mod") => `(tactic| first | (show (0 : Int) < _; decide) | (show (0 : Int) < _; omega) | assumption)
local macro_rules | `(tactic| k_extra "mul") => `(tactic| (show CMul _ _; first | exact .inr ⟨by decide, by decide⟩ | exact .inl ⟨by decide, by decide⟩ | exact .inr ⟨by omega, by omega⟩ | exact .inl ⟨by omega, by omega⟩))
local macro_rules | `(tactic| k_extra "side") => `(tactic| first | k_extra "mod" | k_extra "mul" | (show CDiv _ _; exact ⟨by first | decide | omega, by first | decide | omega⟩) | (show CPow _ _; exact ⟨by decide, by decide, by decide⟩))
local macro_rules | `(tactic| k_extra "rk") => `(tactic| first
  | (with_reducible exact rk_I0)
  | ((with_reducible apply rk_I); k_extra "side")
  | ((with_reducible apply rk_eq); exact rfl)
  | ((with_reducible apply rk_ne); exact rfl))
local macro_rules | `(tactic| k_extra "cr") => `(tactic| first
  | (with_reducible exact cr_int1) | (with_reducible exact cr_abs1) | ((with_reducible apply cr_len); first | exact rd_list | exact rd_at) | ((with_reducible apply cr_lenS); decide))
local macro_rules | `(tactic| k_extra "ev") => `(tactic| first
  | (with_reducible exact ek_c)
  | ((with_reducible apply ek_var); exact rfl)
  | ((with_reducible apply ek_op); k_extra "ev"; k_extra "ev"; k_extra "rk")
  | ((with_reducible apply ek_cb); (with_reducible apply ea_cons); k_extra "ev"; (with_reducible exact ea_nil); k_extra "cr"))
section
variable {K : PySem.W.Frag}
theorem toNat_lt {h : Int} {n : Nat} (h0 : 0 ≤ h) (h1 : h < n) : h.toNat < n := by omega
theorem drawn_mod {many x : Int} (h : ¬ many < 2) : Drawn many (x % many) := ⟨Int.emod_nonneg _ (by omega), .inl (Int.emod_lt_of_pos _ (by omega))⟩
section
variable {F : Fx} {δ : Dl.Env} {μ : Mu} {pl : Pl} {cs : List Int} {i : Nat} (h : δ[i]? = some (some (poolOpen cs pl)))
include h
theorem ek_p0 : Ek F (tOp (rIxL K) (tVar i) (tC (.int 0))) δ μ (atK pl.c (intsK cs)) := ek_op (ek_var h) ek_c (rk_ixL (ks := [atK pl.c (intsK cs), valK (.ref pl.l), valK (.ref pl.t)]) (j := 0) (rd_at (a := pl.p)) rfl rfl)
theorem ek_p1 : Ek F (tOp (rIxL K) (tVar i) (tC (.int 1))) δ μ (valK (.ref pl.l)) := ek_op (ek_var h) ek_c (rk_ixL (ks := [atK pl.c (intsK cs), valK (.ref pl.l), valK (.ref pl.t)]) (j := 1) (rd_at (a := pl.p)) rfl rfl)
theorem ek_p2 : Ek F (tOp (rIxL K) (tVar i) (tC (.int 2))) δ μ (valK (.ref pl.t)) := ek_op (ek_var h) ek_c (rk_ixL (ks := [atK pl.c (intsK cs), valK (.ref pl.l), valK (.ref pl.t)]) (j := 2) (rd_at (a := pl.p)) rfl rfl)
end
theorem set_iK (ls : List Int) (j : Nat) (x : Int) : (ls.map iK).set j (iK x) = (ls.set j x).map iK := by rw [List.map_set]
theorem pool_set {cs ls : List Int} {k : Int} (h : PoolIs cs ls k) {j : Nat} {x : Int} (hx : 0 ≤ x) : PoolIs cs (ls.set j x) (k + 1) :=
  ⟨h.n0, by rw [List.length_set]; exact h.ln, h.c0, fun y hy => by
    rcases List.mem_or_eq_of_mem_set hy with hy | e
    · exact h.l0 y hy
    · rw [e]; exact hx, by have := h.k0; omega⟩
theorem pool_step {cs ls : List Int} {k : Int} (h : PoolIs cs ls k) : PoolIs cs ls (k + 1) := ⟨h.n0, h.ln, h.c0, h.l0, by have := h.k0; omega⟩
def bndK (m : Int) : Know := exK fun i : {i : Int // 0 ≤ i ∧ i < m} => iK i.1
theorem to_bnd {F : Fx} {δ : Dl.Env} {μ : Mu} {te : TE} {i m : Int} (h : Ek F te δ μ (iK i)) (hb : 0 ≤ i ∧ i < m) : Ek F te δ μ (bndK m) := ek_weak h fun v G p => ⟨⟨i, hb⟩, p⟩
theorem r_law_pick (pl : Pl) (many : Int) (hmany : many ≤ 1000000) (G0 H0 : Hp) (Q : VK) (hR : Rt (FP pl) ⟨(FP pl).P, G0, H0⟩ (pK (drawK many) H0) Q) :
    Tr (FP pl) ⟨(FP pl).P, G0, H0⟩ (env0 [poolK pl, iK many] 6) [] (t_law_pick K) { nx := fun _ H' => Q .non H', rt := Q } := by
  unfold t_law_pick
  refine q_when (et_test (by k_extra "ev")) (fun h => ?_) (fun h => ?_)
  · have h' : many < 2 := of_decide_eq_true h.symm
    exact s_ret hR ek_c fun v G H p => ⟨⟨0, Int.le_refl 0, .inr ⟨h', rfl⟩⟩, p⟩
  · have h' : ¬ many < 2 := of_decide_eq_false h.symm
    refine to_poolOpen (i := 0) rfl fun cs ls k hp => ?_
    have hR' := rt_poolOpen hR
    have c0 := hp.n0
    have ll := hp.ln
    have k0 := hp.k0
    -- at = int(pool[2][0])
    refine q_asg (k := iK k) (ek_cb (ea_cons (ek_op (ek_p2 (pl := pl) (cs := cs) rfl) ek_c (rk_ixL (ks := [iK k]) (i := 0) (j := 0) (rd_own (List.mem_cons_of_mem _ List.mem_cons_self)) rfl rfl)) ea_nil) cr_int1) ?_
    -- pool[2][0] = at + 1
    refine q_setL (a := pl.t) (ks := [iK k]) (z := 0) (j := 0) (k := iK (k + 1)) 1 rfl (by k_extra "ev") (ek_p2 (cs := cs) rfl) ek_c rfl ?_
    -- here = int(at) % len(pool[0])
    refine q_asg (k := iK (k % (cs.length : Int))) (ek_op (ek_cb (ea_cons (ek_var rfl) ea_nil) cr_int1) (ek_eq (ek_cb (ea_cons (ek_p0 (pl := pl) (cs := cs) rfl) ea_nil) (cr_len rd_at)) (k' := iK (cs.length : Int)) (by rw [List.length_map])) (rk_I (by show (0 : Int) < _; omega))) ?_
    have hh0 : 0 ≤ k % (cs.length : Int) := Int.emod_nonneg _ (by omega)
    have hh1 : k % (cs.length : Int) < (cs.length : Int) := Int.emod_lt_of_pos _ (by omega)
    generalize k % (cs.length : Int) = here at hh0 hh1
    have hlt : here.toNat < cs.length := toNat_lt hh0 hh1
    have hlt2 : here.toNat < ls.length := by omega
    -- cell, left
    refine q_asg (k := iK cs[here.toNat]) (ek_cb (ea_cons (ek_op (ek_p0 (pl := pl) (cs := cs) rfl) (ek_var rfl) (rk_ixL (j := here.toNat) rd_at (by rw [List.length_map]; exact ixN_int hh0 hh1) (by rw [List.getElem?_map, List.getElem?_eq_getElem hlt]; rfl))) ea_nil) cr_int1) ?_
    refine q_asg (k := iK ls[here.toNat]) (ek_cb (ea_cons (ek_op (ek_p1 (pl := pl) (cs := cs) rfl) (ek_var rfl) (rk_ixL (j := here.toNat) (rd_own List.mem_cons_self) (by rw [List.length_map]; exact ixN_int hh0 (by omega)) (by rw [List.getElem?_map, List.getElem?_eq_getElem hlt2]; rfl))) ea_nil) cr_int1) ?_
    have cell0 : 0 ≤ cs[here.toNat] := hp.c0 _ (List.getElem_mem hlt)
    have left0 : 0 ≤ ls[here.toNat] := hp.l0 _ (List.getElem_mem hlt2)
    generalize cs[here.toNat] = cell at cell0
    generalize hleft : ls[here.toNat] = left at left0
    refine q_when (et_and (et_test (by k_extra "ev")) fun _ => et_test (by k_extra "ev")) (fun h2 => ?_) (fun h2 => ?_)
    · -- pool[1][here] = left // many; return int(left) % many
      refine q_setL (a := pl.l) (ks := ls.map iK) (z := here) (j := here.toNat) (k := iK (left / many)) 0 rfl (ek_op (ek_var rfl) (ek_var rfl) (rk_I ⟨by omega, by omega⟩)) (ek_p1 (cs := cs) rfl) (ek_var rfl) (by rw [List.length_map]; exact ixN_int hh0 (by omega)) ?_
      rw [set_iK]
      refine s_retS (k := iK (left % many)) hR' (ek_op (ek_cb (ea_cons (ek_var rfl) ea_nil) cr_int1) (ek_var rfl) (rk_I (by show (0 : Int) < _; omega))) fun v G H σ st p => ⟨pool_close (i := 0) (pool_set hp (j := here.toNat) (x := left / many) (Int.ediv_nonneg left0 (by omega))) st rfl, ⟨⟨left % many, drawn_mod h'⟩, p⟩⟩
    · refine q_asg (k := iK ((cell % 1000003 * 7919 + k * 104729 + 12345) % 1000003)) (by k_extra "ev") ?_
      have one0 : 0 ≤ (cell % 1000003 * 7919 + k * 104729 + 12345) % 1000003 := Int.emod_nonneg _ (by decide)
      have one1 : (cell % 1000003 * 7919 + k * 104729 + 12345) % 1000003 < 1000003 := Int.emod_lt_of_pos _ (by decide)
      generalize (cell % 1000003 * 7919 + k * 104729 + 12345) % 1000003 = one at one0 one1
      refine q_asg (k := iK ((one * one + cell / 1000003 % 1000003 + k) % 998244353)) (by k_extra "ev") ?_
      have two0 : 0 ≤ (one * one + cell / 1000003 % 1000003 + k) % 998244353 := Int.emod_nonneg _ (by decide)
      have two1 : (one * one + cell / 1000003 % 1000003 + k) % 998244353 < 998244353 := Int.emod_lt_of_pos _ (by decide)
      generalize (one * one + cell / 1000003 % 1000003 + k) % 998244353 = two at two0 two1
      exact s_retS (k := iK ((two * two + 3 * k + 1) % 1000000007 / 97 % many)) hR' (by k_extra "ev") fun v G H σ st p => ⟨pool_close (i := 0) (pool_step hp) st rfl, ⟨⟨_, drawn_mod h'⟩, p⟩⟩
end
end K8
end
section
set_option maxRecDepth 100000
set_option maxHeartbeats 1000000
namespace K8
open PySem L2 Dl
local macro_rules | `(tactic| k_extra "mod") => `(tactic| first | (show (0 : Int) < _; decide) | (show (0 : Int) < _; omega) | assumption)
local macro_rules | `(tactic| k_extra "mul") => `(tactic| (show CMul _ _; first | exact .inr ⟨by decide, by decide⟩ | exact .inl ⟨by decide, by decide⟩ | exact .inr ⟨by omega, by omega⟩ | exact .inl ⟨by omega, by omega⟩))
local macro_rules | `(tactic| k_extra "side") => `(tactic| first | k_extra "mod" | k_extra "mul" | (show CDiv _ _; exact ⟨by first | decide | omega, by first | decide | omega⟩) | (show CPow _ _; exact ⟨by decide, by decide, by decide⟩))
local macro_rules | `(tactic| k_extra "rk") => `(tactic| first
  | (with_reducible exact rk_I0)
  | ((with_reducible apply rk_I); k_extra "side")
  | ((with_reducible apply rk_eq); exact rfl)
  | ((with_reducible apply rk_ne); exact rfl))
local macro_rules | `(tactic| k_extra "cr") => `(tactic| first
  | (with_reducible exact cr_int1) | (with_reducible exact cr_abs1) | ((with_reducible apply cr_len); first | exact rd_list | exact rd_at) | ((with_reducible apply cr_lenS); first | decide | assumption))
local macro_rules | `(tactic| k_extra "ev") => `(tactic| first
  | (with_reducible exact ek_c)
  | ((with_reducible apply ek_var); exact rfl)
  | ((with_reducible apply ek_op); k_extra "ev"; k_extra "ev"; k_extra "rk")
  | ((with_reducible apply ek_cb); (with_reducible apply ea_cons); k_extra "ev"; (with_reducible exact ea_nil); k_extra "cr"))
section
variable {K : PySem.W.Frag}
section
variable {F : Fx} {B : Bs} {δ : Dl.Env} {μ : Mu} {te tp : TE} {pl : Pl} {k : Know} {D : Ends}
/-! ### drawing -/
theorem ek_pick {many : Int} (hp : Ek (FP pl) tp δ μ (poolK pl)) (he : Ek (FP pl) te δ μ (iK many)) (h : many ≤ 1000000) : Ek (FP pl) (tCall (sp_law_pick K) [] E0 (tCons tp (tCons te tNil))) δ μ (drawK many) :=
  ek_callF (FX := fun x : PkIn => FP x.pl) (ks := fun x => [poolK x.pl, iK x.many]) (post := fun x => pK (drawK x.many)) ⟨pl, many, h⟩ rfl (ea_cons hp (ea_cons he ea_nil)) (fun _ _ _ _ p => p)
theorem ek_one {th : Things} (hp : Ek (FP pl) tp δ μ (poolK pl)) (he : Ek (FP pl) te δ μ th.kn) (h0 : 0 < th.len) (h1 : th.len ≤ 1000000) : Ek (FP pl) (tCall (sp_law_one_of K) [] E0 (tCons tp (tCons te tNil))) δ μ (exK fun i : Fin th.len => th.at_ i) :=
  ek_callF (FX := fun x : OneIn => FP x.pl) (ks := fun x => [poolK x.pl, x.th.kn]) (post := fun x => pK (exK fun i : Fin x.th.len => x.th.at_ i)) ⟨pl, th, h0, h1⟩ rfl (ea_cons hp (ea_cons he ea_nil)) (fun _ _ _ _ p => p)
/-- one of some texts -/
theorem ek_oneS {xs : List Str} (hp : Ek (FP pl) tp δ μ (poolK pl)) (he : Ek (FP pl) te δ μ (strsK xs)) (h0 : 0 < xs.length) (h1 : xs.length ≤ 1000000) : Ek (FP pl) (tCall (sp_law_one_of K) [] E0 (tCons tp (tCons te tNil))) δ μ (exK fun x : {x : Str // x ∈ xs} => sK x.1) :=
  ek_weak (ek_one (th := .lst (xs.map sK)) hp he (by show 0 < (xs.map sK).length; rw [List.length_map]; exact h0) (by show (xs.map sK).length ≤ _; rw [List.length_map]; exact h1)) fun v G ⟨i, p⟩ => by
    have hi : i.1 < xs.length := by have := i.2; simpa [Things.len] using this
    refine ⟨⟨xs[i.1], List.getElem_mem hi⟩, ?_⟩
    have e : (Things.lst (xs.map sK)).at_ i = sK xs[i.1] := by
      show (xs.map sK)[i.1]'_ = _
      rw [List.getElem_map]
    have p : ((Things.lst (xs.map sK)).at_ i).p v G := p
    rw [e] at p
    exact p
theorem ek_oneI {xs : List Int} (hp : Ek (FP pl) tp δ μ (poolK pl)) (he : Ek (FP pl) te δ μ (intsK xs)) (h0 : 0 < xs.length) (h1 : xs.length ≤ 1000000) : Ek (FP pl) (tCall (sp_law_one_of K) [] E0 (tCons tp (tCons te tNil))) δ μ (exK fun x : {x : Int // x ∈ xs} => iK x.1) :=
  ek_weak (ek_one (th := .lst (xs.map iK)) hp he (by show 0 < (xs.map iK).length; rw [List.length_map]; exact h0) (by show (xs.map iK).length ≤ _; rw [List.length_map]; exact h1)) fun v G ⟨i, p⟩ => by
    have hi : i.1 < xs.length := by have := i.2; simpa [Things.len] using this
    refine ⟨⟨xs[i.1], List.getElem_mem hi⟩, ?_⟩
    have e : (Things.lst (xs.map iK)).at_ i = iK xs[i.1] := by
      show (xs.map iK)[i.1]'_ = _
      rw [List.getElem_map]
    have p : ((Things.lst (xs.map iK)).at_ i).p v G := p
    rw [e] at p
    exact p
/-- one sign of a text -/
theorem ek_oneC {z : Str} (hp : Ek (FP pl) tp δ μ (poolK pl)) (he : Ek (FP pl) te δ μ (sK z)) (h0 : 0 < z.length) (h1 : z.length ≤ 1000000) : Ek (FP pl) (tCall (sp_law_one_of K) [] E0 (tCons tp (tCons te tNil))) δ μ (exK fun c : {c : Nat // c ∈ TL.tl z} => sK ⟨#[c.1]⟩) :=
  ek_weak (ek_one (th := .txt z) hp he h0 h1) fun v G ⟨i, p⟩ => ⟨⟨z.cps[i.1]'i.2, by
    show _ ∈ z.cps.toList
    exact Array.getElem_mem_toList i.2⟩, p⟩
theorem rk_one {th : Things} (h0 : 0 < th.len) (h1 : th.len ≤ 1000000) : Rk F μ (rIx K) th.kn (drawK (th.len : Int)) (exK fun i : Fin th.len => th.at_ i) := by
  intro G H x y s jj o p1 ⟨r, p2⟩ Q q
  have hr0 := r.2.1
  have hr1 : r.1 < th.len := by rcases r.2.2 with h | ⟨h, e⟩ <;> omega
  have e2 : y = .int r.1 := p2
  subst e2
  cases th with
  | lst ks =>
    obtain ⟨a, vs, rfl, ha, rr⟩ := p1
    have hr1 : r.1 < ks.length := hr1
    have hl : r.1.toNat < ks.length := by omega
    obtain ⟨v, hv, p⟩ := rr.get (List.getElem?_eq_getElem hl)
    exact .inl ⟨a, vs, r.1, v, rfl, rfl, .inl (.inl (s _ _ ha)), atI_get (by rw [rr.length]; exact ixN_int hr0 hr1) hv, q v G H (.refl s) jj ⟨⟨r.1.toNat, hl⟩, p⟩⟩
  | txt z =>
    have e1 : x = .str z := p1
    subst e1
    have hr1 : r.1 < (z.cps.size : Int) := hr1
    have h1 : z.cps.size ≤ 1000000 := h1
    have hl : r.1.toNat < z.cps.size := by omega
    refine .inr (.inr ⟨z, r.1, z.cps[r.1.toNat], rfl, rfl, Nat.le_trans h1 (by decide), ?_, q _ G H (.refl s) jj ⟨⟨r.1.toNat, hl⟩, rfl⟩⟩)
    have e : ixN z.cps.toList.length r.1 = some r.1.toNat := ixN_int hr0 (by rw [Array.length_toList]; exact hr1)
    unfold atI
    rw [e]
    show z.cps.toList[r.1.toNat]? = _
    rw [List.getElem?_eq_getElem (by rw [Array.length_toList]; exact hl), Array.getElem_toList]
theorem cr_lenV {th : Things} (h1 : th.len ≤ 1000000) : CRk F μ (rLenV K) [th.kn] (iK (th.len : Int)) := fun G H vs s j o p Q q => by
  obtain ⟨v, rfl, p'⟩ := allK1 p
  cases th with
  | lst ks =>
    obtain ⟨a, ws, rfl, ha, rr⟩ := p'
    exact ⟨.ref a, ks.length, rfl, .inl ⟨ws, .inl (.inl (s _ _ ha)), rr.length.symm⟩, q _ G H (.refl s) j rfl⟩
  | txt z =>
    have e : v = .str z := p'
    subst e
    exact ⟨.str z, z.length, rfl, ⟨Nat.le_trans h1 (by decide), rfl⟩, q _ G H (.refl s) j rfl⟩
end
theorem r_law_one_of (x : OneIn) (G0 H0 : Hp) (Q : VK) (hR : Rt (FP x.pl) ⟨(FP x.pl).P, G0, H0⟩ (pK (exK fun i : Fin x.th.len => x.th.at_ i) H0) Q) :
    Tr (FP x.pl) ⟨(FP x.pl).P, G0, H0⟩ (env0 [poolK x.pl, x.th.kn] 0) [] (t_law_one_of K) { nx := fun _ H' => Q .non H', rt := Q } := by
  unfold t_law_one_of
  exact s_ret hR (ek_op (ek_var rfl) (ek_pick (ek_var rfl) (ek_cb (ea_cons (ek_var rfl) ea_nil) (cr_lenV x.h1)) (by have := x.h1; omega)) (rk_one x.h0 x.h1)) fun v G H p => p
theorem r_law_number (x : Int) (G0 H0 : Hp) (Q : VK) (hR : Rt F0 ⟨F0.P, G0, H0⟩ (pK (iK x) H0) Q) :
    Tr F0 ⟨F0.P, G0, H0⟩ (env0 [iK x] 0) [] (t_law_number K) { nx := fun _ H' => Q .non H', rt := Q } := by
  unfold t_law_number
  have h1 : Ek F0 (tCB (rIsi K) (tCons (tVar 0) (tCons (tC (.ty "int")) tNil))) (env0 [iK x] 0) [] (bK true) :=
    ek_cb (ea_cons (ek_var rfl) (ea_cons ek_c ea_nil)) (cr_isi (fun G => .base (.int x)) (kit_ty (by decide +kernel)))
  have h2 : Ek F0 (tCB (rIsi K) (tCons (tVar 0) (tCons (tC (.ty "bool")) tNil))) (env0 [iK x] 0) [] (bK false) :=
    ek_cb (ea_cons (ek_var rfl) (ea_cons ek_c ea_nil)) (cr_isi (fun G => .base (.int x)) (kit_ty (by decide +kernel)))
  exact q_when (et_and (et_B h1) fun _ => et_not (et_B h2)) (fun _ => s_ret hR (ek_var rfl) fun v G H p => p) (fun h => nomatch h)
end
end K8
end
section
set_option maxRecDepth 100000
set_option maxHeartbeats 1000000
namespace K8
open PySem L2 Dl
local macro_rules | `(tactic| k_extra "mod") => `(tactic| first | (show (0 : Int) < _; decide) | (show (0 : Int) < _; omega) | assumption)
local macro_rules | `(tactic| k_extra "mul") => `(tactic| (show CMul _ _; first | exact .inr ⟨by decide, by decide⟩ | exact .inl ⟨by decide, by decide⟩ | exact .inr ⟨by omega, by omega⟩ | exact .inl ⟨by omega, by omega⟩))
local macro_rules | `(tactic| k_extra "side") => `(tactic| first | k_extra "mod" | k_extra "mul" | (show CDiv _ _; exact ⟨by first | decide | omega, by first | decide | omega⟩) | (show CPow _ _; exact ⟨by decide, by decide, by decide⟩))
local macro_rules | `(tactic| k_extra "rk") => `(tactic| first
  | (with_reducible exact rk_I0)
  | ((with_reducible apply rk_I); k_extra "side")
  | ((with_reducible apply rk_eq); exact rfl)
  | ((with_reducible apply rk_ne); exact rfl))
local macro_rules | `(tactic| k_extra "cr") => `(tactic| first
  | (with_reducible exact cr_int1) | (with_reducible exact cr_abs1) | ((with_reducible apply cr_len); first | exact rd_list | exact rd_at) | ((with_reducible apply cr_lenS); first | decide | assumption))
local macro_rules | `(tactic| k_extra "ev") => `(tactic| first
  | (with_reducible exact ek_c)
  | ((with_reducible apply ek_var); exact rfl)
  | ((with_reducible apply ek_op); k_extra "ev"; k_extra "ev"; k_extra "rk")
  | ((with_reducible apply ek_cb); (with_reducible apply ea_cons); k_extra "ev"; (with_reducible exact ea_nil); k_extra "cr"))
section
variable {K : PySem.W.Frag}
/-! ### counting -/
def nK (g : Nat → Nat) (m : Nat) : List Know := (List.range m).map fun j => iK ((g j : Nat) : Int)
theorem nK_len (g : Nat → Nat) (m : Nat) : (nK g m).length = m := by unfold nK; rw [List.length_map, List.length_range]
theorem nK_get {g : Nat → Nat} {m j : Nat} (h : j < m) : (nK g m)[j]? = some (iK ((g j : Nat) : Int)) := by
  unfold nK
  rw [List.getElem?_map, List.getElem?_range h]
  rfl
theorem nK_snoc (g : Nat → Nat) (m : Nat) : nK g (m + 1) = nK g m ++ [iK ((g m : Nat) : Int)] := by
  unfold nK
  rw [List.range_succ, List.map_append]
  rfl
theorem nK_eq {g h : Nat → Nat} {m : Nat} (e : ∀ j, j < m → g j = h j) : nK g m = nK h m := by
  unfold nK
  apply List.map_congr_left
  intro j hj
  rw [e j (List.mem_range.mp hj)]
theorem rep_one {α : Type} (x : α) : ∀ m, (List.replicate m [x]).flatten = List.replicate m x
  | 0 => rfl
  | m + 1 => by rw [List.replicate_succ, List.replicate_succ, List.flatten_cons, rep_one x m]; rfl
theorem nK_rep (a m : Nat) : List.replicate m (iK ((a : Nat) : Int)) = nK (fun _ => a) m := by
  unfold nK
  rw [List.map_const', List.length_range]
theorem cmulW {a b : Nat} (ha : a < 2 ^ 20) (hb : b ≤ 2048 ^ 200) : CMulW (a : Int) (b : Int) := by
  refine wide_mul (a := 20) (b := 2201) (by rw [Int.natAbs_natCast]; exact ha) ?_ (by decide) (by decide) (by decide)
  rw [Int.natAbs_natCast]
  have : (2048 : Nat) ^ 200 = 2 ^ 2200 := by rw [show (2048 : Nat) = 2 ^ 11 from rfl, ← Nat.pow_mul]
  rw [this] at hb
  exact Nat.lt_of_le_of_lt hb (Nat.pow_lt_pow_right (by decide) (by decide))
theorem le_2048 {x k : Nat} (h : x ≤ 2048 ^ k) (hk : k ≤ 200) : x ≤ 2048 ^ 200 := Nat.le_trans h (Nat.pow_le_pow_right (by decide) hk)
theorem r_pattern_count (x : PcIn) (G0 H0 : Hp) (Q : VK) (hR : Rt F0 ⟨F0.P, G0, H0⟩ (pK (iK ((M8.c x.w x.n 0 : Nat) : Int)) H0) Q) :
    Tr F0 ⟨F0.P, G0, H0⟩ (env0 [iK (x.n : Int), iK (x.w : Int)] 3) [] (t_pattern_count K) { nx := fun _ H' => Q .non H', rt := Q } := by
  obtain ⟨n, w, hn, hw⟩ := x
  simp only at hR ⊢
  unfold t_pattern_count
  refine q_asg (k := listK (nK (M8.c w 0) (n + 1))) (ek_eq (en_ek (en_op (en_ek (en_lst (ea_cons ek_c ea_nil) (by decide))) (ek_op (ek_var rfl) ek_c rk_I0) (rn_rep rd_list (n := (n : Int) + 1) (by omega) (by show 1 * _ ≤ _; unfold sizeLine; omega) (by omega)))) ?_) ?_
  · rw [rep_one]
    have e : ((n : Int) + 1).toNat = n + 1 := by omega
    rw [e]
    exact congrArg listK (nK_rep 1 (n + 1))
  · refine q_forN (fun b : Nat => ([some (iK (n : Int)), some (iK (w : Int)), some (listK (nK (M8.c w b) (n + 1 - b))), none, none], [])) (fun i b => b = i) (ei_rng1 (n := (n : Int)) (ea_cons (ek_var rfl) ea_nil) (by omega) (by omega)) 0 rfl (.keep (.keep (.keep (.drop (.drop .nil))))) rfl ?_ ?_
    · rintro B' l i b hi rfl N hN
      have hi : b < n := by omega
      refine s_asg (k := listK (nK (M8.c w (b + 1)) (n + 1 - (b + 1)))) (ek_eq (en_ek (en_lc (fun _ => true) (fun j => iK ((M8.c w (b + 1) j : Nat) : Int)) (ei_rng1 (n := (n : Int) - (b : Int)) (ea_cons (ek_op (ek_var rfl) (ek_var rfl) rk_I0) ea_nil) (by omega) (by omega)) (by unfold sizeLine; omega) gw_name (fun j hj => ⟨_, gk_name, et_yes, fun _ => ?_⟩))) ?_) ?_
      · have hj : b + j < n := by omega
        have z1 := M8.c_le w 2048 b j (by omega)
        refine ek_eq (ek_op (ek_op (ek_op (ek_var rfl) (ek_var rfl) rk_I0) (ek_op (ek_var rfl) (ek_var rfl) (rk_ixL (ks := nK (M8.c w b) (n + 1 - b)) (i := (j : Int)) (j := j) rd_list (by rw [nK_len]; exact ixN_nat (by omega)) (nK_get (by omega)))) (rk_I ?_)) (ek_op (ek_var rfl) (ek_op (ek_var rfl) ek_c rk_I0) (rk_ixL (ks := nK (M8.c w b) (n + 1 - b)) (i := (j : Int) + 1) (j := j + 1) rd_list (by rw [nK_len]; exact ixN_nat (j := j + 1) (by omega)) (nK_get (by omega)))) rk_I0) ?_
        · exact cmulW (a := w + j) (by omega) (le_2048 z1 (by omega))
        · show iK _ = iK _
          congr 2
      · rw [outs_all]
        have e : ((n : Int) - (b : Int)).toNat = n + 1 - (b + 1) := by omega
        rw [e]
        rfl
      · exact to_weak (.keep (.keep (.keep (.drop (.drop .nil))))) (hN (b + 1) rfl)
    · rintro b hb
      have hb : b = n := by omega
      subst hb
      exact s_ret hR (ek_op (ek_var rfl) ek_c (rk_ixL (ks := nK (M8.c w b) (b + 1 - b)) (i := 0) (j := 0) rd_list (by rw [nK_len]; exact ixN_nat (j := 0) (by omega)) (nK_get (by omega)))) fun v G H p => p
end
end K8
end
section
set_option maxRecDepth 100000
set_option maxHeartbeats 1000000
namespace K8
open PySem L2 Dl
local macro_rules | `(tactic| k_extra "mod") => `(tactic| first | (show (0 : Int) < _; decide) | (show (0 : Int) < _; omega) | assumption)
local macro_rules | `(tactic| k_extra "mul") => `(tactic| (show CMul _ _; first | exact .inr ⟨by decide, by decide⟩ | exact .inl ⟨by decide, by decide⟩ | exact .inr ⟨by omega, by omega⟩ | exact .inl ⟨by omega, by omega⟩))
local macro_rules | `(tactic| k_extra "side") => `(tactic| first | k_extra "mod" | k_extra "mul" | (show CDiv _ _; exact ⟨by first | decide | omega, by first | decide | omega⟩) | (show CPow _ _; exact ⟨by decide, by decide, by decide⟩))
local macro_rules | `(tactic| k_extra "rk") => `(tactic| first
  | (with_reducible exact rk_I0)
  | ((with_reducible apply rk_I); k_extra "side")
  | ((with_reducible apply rk_eq); exact rfl)
  | ((with_reducible apply rk_ne); exact rfl))
local macro_rules | `(tactic| k_extra "cr") => `(tactic| first
  | (with_reducible exact cr_int1) | (with_reducible exact cr_abs1) | ((with_reducible apply cr_len); first | exact rd_list | exact rd_at) | ((with_reducible apply cr_lenS); first | decide | assumption))
local macro_rules | `(tactic| k_extra "ev") => `(tactic| first
  | (with_reducible exact ek_c)
  | ((with_reducible apply ek_var); exact rfl)
  | ((with_reducible apply ek_op); k_extra "ev"; k_extra "ev"; k_extra "rk")
  | ((with_reducible apply ek_cb); (with_reducible apply ea_cons); k_extra "ev"; (with_reducible exact ea_nil); k_extra "cr"))
section
variable {K : PySem.W.Frag}
theorem sum_nK (g : Nat → Nat) : ∀ m, ((List.range m).map fun j => ((g j : Nat) : Int)).sum = ((M8.S g m : Nat) : Int)
  | 0 => rfl
  | m + 1 => by
    rw [List.range_succ, List.map_append, List.sum_append, sum_nK g m]
    show _ + ((g m : Int) + 0) = ((M8.S g m + g m : Nat) : Int)
    omega
theorem nK_map (g : Nat → Nat) (m : Nat) : nK g m = ((List.range m).map fun j => ((g j : Nat) : Int)).map iK := by
  unfold nK
  rw [List.map_map]
  rfl
theorem r_law_count (x : PcIn) (G0 H0 : Hp) (Q : VK) (hR : Rt F0 ⟨F0.P, G0, H0⟩ (pK (iK ((M8.c x.w x.n 0 : Nat) : Int)) H0) Q) :
    Tr F0 ⟨F0.P, G0, H0⟩ (env0 [iK (x.n : Int), iK (x.w : Int)] 4) [] (t_law_count K) { nx := fun _ H' => Q .non H', rt := Q } := by
  obtain ⟨n, w, hn, hw⟩ := x
  simp only at hR ⊢
  unfold t_law_count
  refine q_asg (k := listK (nK (M8.f w 0) 1)) (ek_eq (en_ek (en_lst (ea_cons ek_c ea_nil) (by decide))) rfl) ?_
  refine q_forN (fun b : Nat => ([some (iK (n : Int)), some (iK (w : Int)), some (listK (nK (M8.f w b) (b + 1))), none, none, none], [])) (fun i b => b = i) (ei_rng1 (n := (n : Int)) (ea_cons (ek_var rfl) ea_nil) (by omega) (by omega)) 0 rfl (.keep (.keep (.keep (.drop (.drop (.drop .nil)))))) rfl ?_ ?_
  · rintro B' l i b hi rfl N hN
    have hi : b < n := by omega
    have z0 := M8.f_le w 2048 b 0 (by omega)
    refine q_new (m := .lst (nK (M8.f w (b + 1)) 1)) (en_lst (ks := nK (M8.f w (b + 1)) 1) (ea_cons (ek_eq (ek_op (ek_var rfl) (ek_op (ek_var rfl) ek_c (rk_ixL (ks := nK (M8.f w b) (b + 1)) (i := 0) (j := 0) rd_list (by rw [nK_len]; exact ixN_nat (j := 0) (by omega)) (nK_get (by omega)))) (rk_I (cmulW (by omega) (le_2048 z0 (by omega))))) ?_) ea_nil) (by show 1 ≤ sizeLine; unfold sizeLine; omega)) fun a => ?_
    · show iK _ = iK _
      congr 1
    refine q_forN (fun m : Nat => ([some (iK (n : Int)), some (iK (w : Int)), some (listK (nK (M8.f w b) (b + 1))), none, some (valK (.ref a)), none], [(a, .lst (nK (M8.f w (b + 1)) (m + 1)))])) (fun i m => m = i) (ei_rng2 (a := 1) (n := ((b + 1 : Nat) : Int)) (ea_cons ek_c (ea_cons (ek_eq (ek_cb (ea_cons (ek_var rfl) ea_nil) (cr_len (ks := nK (M8.f w b) (b + 1)) rd_list)) (by rw [nK_len])) ea_nil)) (by omega) (by omega) (by omega) (by omega)) 0 rfl (.keep (.keep (.keep (.drop (.keep (.drop .nil)))))) rfl ?_ ?_
    · rintro B2 l2 t m ht rfl N2 hN2
      have ht : m < b := by omega
      have z1 := M8.f_le w 2048 b (m + 1) (by omega)
      refine s_app (k := iK ((M8.f w (b + 1) (m + 1) : Nat) : Int)) 0 rfl (ek_var rfl) (ek_eq (ek_op (ek_op (ek_op (ek_var rfl) (ek_var rfl) rk_I0) (ek_op (ek_var rfl) (ek_var rfl) (rk_ixL (ks := nK (M8.f w b) (b + 1)) (i := 1 + (m : Int)) (j := m + 1) rd_list (by rw [nK_len, Int.add_comm]; exact ixN_nat (j := m + 1) (by omega)) (nK_get (by omega)))) (rk_I ?_)) (ek_op (ek_var rfl) (ek_op (ek_var rfl) ek_c rk_I0) (rk_ixL (ks := nK (M8.f w b) (b + 1)) (i := 1 + (m : Int) - 1) (j := m) rd_list (by rw [nK_len, show (1 : Int) + (m : Int) - 1 = (m : Int) by omega]; exact ixN_nat (by omega)) (nK_get (by omega)))) rk_I0) ?_) (by rw [nK_len]; unfold sizeLine; omega) ?_
      · have e : (w : Int) + (1 + (m : Int)) = ((w + (m + 1) : Nat) : Int) := by omega
        rw [e]
        exact cmulW (by omega) (le_2048 z1 (by omega))
      · show iK _ = iK _
        have e : (1 : Int) + (m : Int) = ((m + 1 : Nat) : Int) := by omega
        rw [e]
        congr 1
      · rw [← nK_snoc]
        exact to_weak (.keep (.keep (.keep (.drop (.keep (.drop .nil)))))) (hN2 (m + 1) rfl)
    · rintro m hm
      have hm : m = b := by omega
      subst hm
      refine s_asg (k := listK (nK (M8.f w (m + 1)) (m + 2))) (ek_eq (en_ek (en_op (ek_var rfl) (en_ek (en_lst (ea_cons (ek_op (ek_var rfl) (ek_un ek_c (k := iK (-1)) fun G H x s e Q q => ⟨1, e, q _ rfl⟩) (rk_ixL (ks := nK (M8.f w m) (m + 1)) (i := -1) (j := m) rd_list (by rw [nK_len]; exact ixN_last (by omega)) (nK_get (by omega)))) ea_nil) (by show 1 ≤ sizeLine; unfold sizeLine; omega))) (rn_cat (ks := nK (M8.f w (m + 1)) (m + 1)) (ls := [iK ((M8.f w m m : Nat) : Int)]) (rd_own List.mem_cons_self) rd_list (by rw [nK_len]; show m + 1 + 1 ≤ sizeLine; unfold sizeLine; omega)))) ?_) ?_
      · have e : M8.f w (m + 1) (m + 1) = M8.f w m m := by
          show (w + (m + 1)) * M8.f w m (m + 1) + M8.f w m m = _
          rw [M8.f_zero w m (m + 1) (by omega)]
          omega
        rw [← e, ← nK_snoc]
      · exact to_drop (List.nil_sublist _) (to_weak (.keep (.keep (.keep (.drop (.drop (.drop .nil)))))) (hN (m + 1) rfl))
  · rintro b hb
    have hb : b = n := by omega
    subst hb
    refine s_ret hR (ek_eq (ek_cb (ea_cons (ek_var rfl) ea_nil) (cr_sumL (ns := (List.range (b + 1)).map fun j => ((M8.f w b j : Nat) : Int)) (by rw [← nK_map]; exact rd_list))) ?_) fun v G H p => p
    rw [sum_nK, M8.f_sum]
end
end K8
end
section
set_option maxRecDepth 100000
set_option maxHeartbeats 1000000
namespace K8
open PySem L2 Dl
local macro_rules | `(tactic| k_extra "mod") => `(tactic| first | (show (0 : Int) < _; decide) | (show (0 : Int) < _; omega) | assumption)
local macro_rules | `(tactic| k_extra "mul") => `(tactic| (show CMul _ _; first | exact .inr ⟨by decide, by decide⟩ | exact .inl ⟨by decide, by decide⟩ | exact .inr ⟨by omega, by omega⟩ | exact .inl ⟨by omega, by omega⟩))
local macro_rules | `(tactic| k_extra "side") => `(tactic| first | k_extra "mod" | k_extra "mul" | (show CDiv _ _; exact ⟨by first | decide | omega, by first | decide | omega⟩) | (show CPow _ _; exact ⟨by decide, by decide, by decide⟩))
local macro_rules | `(tactic| k_extra "rk") => `(tactic| first
  | (with_reducible exact rk_I0)
  | ((with_reducible apply rk_I); k_extra "side")
  | ((with_reducible apply rk_eq); exact rfl)
  | ((with_reducible apply rk_ne); exact rfl))
local macro_rules | `(tactic| k_extra "cr") => `(tactic| first
  | (with_reducible exact cr_int1) | (with_reducible exact cr_abs1) | ((with_reducible apply cr_len); first | exact rd_list | exact rd_at) | ((with_reducible apply cr_lenS); first | decide | assumption))
local macro_rules | `(tactic| k_extra "ev") => `(tactic| first
  | (with_reducible exact ek_c)
  | ((with_reducible apply ek_var); exact rfl)
  | ((with_reducible apply ek_op); k_extra "ev"; k_extra "ev"; k_extra "rk")
  | ((with_reducible apply ek_cb); (with_reducible apply ea_cons); k_extra "ev"; (with_reducible exact ea_nil); k_extra "cr"))
section
variable {F : Fx} {B : Bs} {δ : Dl.Env} {μ : Mu} {te : TE} {k : Know} {m : MO} {D : Ends} {post : V → Hp → Hp → Prop}
theorem s_retO' {a : Addr} (hM : B.M = F.P) (hR : Rt F B post D.rt) (h : Ek F te δ μ (valK (.ref a))) (hm : (a, m) ∈ μ) (hp : ∀ o G H, B.H0 a = none → G a = none → H a = some o → m.ok G o → post (.ref a) G H) : Tr F B δ μ (tRet te) D := fun σ H ⟨G, z⟩ =>
  h G H σ z.st _ fun v G1 H1 g1 j1 e => by
    have e : v = .ref a := e
    subst e
    obtain ⟨h1, h2, o, h3, h4⟩ := (z.step g1 j1).st.own.has a m hm
    refine hR _ G1 H1 (z.step g1 j1).gr j1 (hp o G1 H1 ?_ h1 h3 h4)
    rcases z.ow a m hm with q | q
    · rw [hM] at q; exact absurd q h2
    · exact q
theorem to_freeze' {a : Addr} {ks : List Know} {i : Nat} {n : L2.St → Hp → Prop} (hM : B.M = F.P) (hi : δ[i]? = some (some (valK (.ref a)))) (h : To F B (δ.set i (some (listK ks))) μ n) : To F B δ ((a, .lst ks) :: μ) n := fun σ H z => by
  have hn : B.H0 a = none := by
    obtain ⟨G, z⟩ := z
    obtain ⟨h1, h2, _⟩ := z.st.own.has a _ List.mem_cons_self
    rcases z.ow a _ List.mem_cons_self with q | q
    · rw [hM] at q; exact absurd q h2
    · exact q
  exact to_freeze hi hn h σ H z
end
section
variable {K : PySem.W.Frag}
theorem sIx_none (n d : Nat) : HT.sIx n d none = d := rfl
theorem cutK_take (ks : List Know) (n : Nat) : cutK ks none (some (n : Int)) = ks.take n := by
  unfold cutK
  rw [sIx_none, HT.sIx_nat, List.drop_zero, Nat.sub_zero]
  by_cases h : n ≤ ks.length
  · rw [Nat.min_eq_left h]
  · rw [Nat.min_eq_right (by omega), List.take_of_length_le (by omega), List.take_of_length_le (by omega)]
theorem cutK_drop (ks : List Know) (n : Nat) : cutK ks (some (n : Int)) none = ks.drop n := by
  unfold cutK
  rw [sIx_none, HT.sIx_nat]
  by_cases h : n ≤ ks.length
  · rw [Nat.min_eq_left h, List.take_of_length_le (by rw [List.length_drop]; exact Nat.le_refl _)]
  · rw [Nat.min_eq_right (by omega), List.drop_of_length_le (by omega), List.drop_of_length_le (by omega), List.take_nil]
theorem nm_num (b : Nat) : ("n" : Str) ++ (toString (1 + (b : Int)) : Str) = nm (b + 1) := by
  have e : 1 + (b : Int) = ((b + 1 : Nat) : Int) := by omega
  rw [e]
  rfl
theorem log_small {i : Int} (h0 : 0 ≤ i) (h : i < 2 ^ 62) : i.natAbs.log2 < 1920 := by
  have h2 : i.natAbs < 2 ^ 62 := by omega
  exact Nat.lt_of_lt_of_le (PySem.Flt.log2_lt_of (by decide) h2) (by decide)
theorem upd_fresh {used : List Str} {b : Nat} : (M8.freshUp nm used (b + 1)).map sK = (M8.freshUp nm used b).map sK ++ (if nm (b + 1) ∈ used then [] else [sK (nm (b + 1))]) := by
  rw [M8.freshUp_succ, List.map_append]
  split <;> rfl
theorem fresh_le (used : List Str) (n : Nat) : (M8.freshUp nm used n).length ≤ n := by
  unfold M8.freshUp
  refine Nat.le_trans (List.length_filter_le _ _) ?_
  rw [List.length_map, List.length_range]
  exact Nat.le_refl n
theorem r_law_fresh (x : LfIn) (G0 H0 : Hp) (Q : VK) (hR : Rt F0 ⟨F0.P, G0, H0⟩ (pN (.lst ((M8.freshL nm x.used x.many).map sK)) H0) Q) :
    Tr F0 ⟨F0.P, G0, H0⟩ (env0 [strsK x.used, iK (x.many : Int)] 2) [] (t_law_fresh K) { nx := fun _ H' => Q .non H', rt := Q } := by
  obtain ⟨used, many, hu, hm⟩ := x
  simp only at hR ⊢
  unfold t_law_fresh
  refine q_new (m := .lst []) (en_lst ea_nil (by decide)) fun a => ?_
  refine q_forN (fun b : Nat => ([some (strsK used), some (iK (many : Int)), some (valK (.ref a)), none], [(a, .lst ((M8.freshUp nm used b).map sK))])) (fun i b => b = i) (ei_rng2 (a := 1) (n := ((used.length + many + 1 : Nat) : Int)) (ea_cons ek_c (ea_cons (ek_eq (ek_op (ek_op (ek_cb (ea_cons (ek_var rfl) ea_nil) (cr_len (ks := used.map sK) rd_list)) (ek_var rfl) rk_I0) ek_c rk_I0) (by rw [List.length_map]; rfl)) ea_nil)) (by omega) (by omega) (by omega) (by omega)) 0 rfl (.keep (.keep (.keep (.drop .nil)))) rfl ?_ ?_
  · rintro B' l i b hi rfl N hN
    have hi : b < used.length + many := by omega
    have hx : ∀ (μ : Mu), Ek F0 (tOp rAddStr (tC (.str "n")) (tCB rStrI (tCons (tVar 3) tNil))) [some (strsK used), some (iK (many : Int)), some (valK (.ref a)), some (iK (1 + (b : Int)))] μ (sK (nm (b + 1))) := fun μ =>
      ek_eq (ek_op ek_c (ek_cb (ea_cons (ek_var rfl) ea_nil) (cr_strI (log_small (by omega) (by omega)))) (rk_strs (by
        have := num_length (i := b + 1) (by omega)
        rw [show (1 : Int) + (b : Int) = ((b + 1 : Nat) : Int) by omega]
        have h1 : ("n" : Str).length = 1 := by decide
        rw [h1]; unfold sizeLine; omega))) (by rw [nm_num])
    refine s_if (et_test (ek_op (hx _) (ek_var rfl) (rk_niS rd_list))) (fun h => ?_) (fun h => ?_)
    · have hn : nm (b + 1) ∉ used := by simpa using h.symm
      refine s_app (k := sK (nm (b + 1))) 0 rfl (ek_var rfl) (hx _) (by rw [List.length_map]; have := fresh_le used b; unfold sizeLine; omega) ?_
      have e := upd_fresh (used := used) (b := b)
      rw [if_neg hn] at e
      rw [← e]
      exact to_weak (.keep (.keep (.keep (.drop .nil)))) (hN (b + 1) rfl)
    · have hn : nm (b + 1) ∈ used := by simpa using h.symm
      refine s_next ?_
      have e := upd_fresh (used := used) (b := b)
      rw [if_pos hn, List.append_nil] at e
      rw [← e]
      exact to_weak (.keep (.keep (.keep (.drop .nil)))) (hN (b + 1) rfl)
  · rintro b hb
    have hb : b = used.length + many := by omega
    subst hb
    refine s_retN hR (en_slL (rd_own List.mem_cons_self) (ek_var rfl) eo_none (eo_some (ek_var rfl))) fun a o G H h1 h2 hp h3 h4 => ?_
    rw [cutK_take, ← List.map_take] at h4
    exact ⟨a, o, rfl, h1, h2, h3, h4⟩
theorem r_fresh_words {P : Program} {w : World} (x : FwIn) (G0 H0 : Hp) (Q : VK) (hR : Rt F0 ⟨F0.P, G0, H0⟩ (pN (.lst ((M8.freshL nm x.used x.many).map sK)) H0) Q) :
    Tr F0 ⟨F0.P, G0, H0⟩ (env0 [if x.lst then strsK x.used else tupK K (x.used.map sK), iK (x.many : Int)] 4) [] (t_fresh_words K P w) { nx := fun _ H' => Q .non H', rt := Q } := by
  obtain ⟨lst, used, many, hu, hm⟩ := x
  simp only at hR ⊢
  unfold t_fresh_words
  generalize hk : (if lst then strsK used else tupK K (used.map sK)) = k0
  refine q_asg (k := setKn P w used) (ek_cb (ea_cons (ek_var (k := k0) rfl) ea_nil) ?_) ?_
  · subst hk
    cases lst with
    | true => exact cr_setL rd_list (by omega)
    | false => exact cr_setT (by omega)
  refine q_new (m := .lst []) (en_lst ea_nil (by decide)) fun a => ?_
  refine q_asg (k := iK 0) ek_c ?_
  refine tr_seq (s_while (β := {b : Nat // (M8.freshUp nm used b).length ≤ many}) (fun b => ([some k0, some (iK (many : Int)), some (setKn P w used), some (valK (.ref a)), some (iK (b.1 : Int)), none], [(a, .lst ((M8.freshUp nm used b.1).map sK))])) (fun b => used.length + many - b.1) ⟨0, Nat.zero_le _⟩ (fun σ H ⟨G, z⟩ => ⟨G, z.weak (.keep (.keep (.keep (.keep (.keep (.drop .nil))))))⟩) ?_)
  rintro ⟨b, hb⟩
  have hlen := M8.freshUp_len (nm := nm) (used := used) (n := b) (nm_inj1 b)
  refine ⟨_, et_test (ek_op (ek_cb (ea_cons (ek_var rfl) ea_nil) (cr_len (ks := (M8.freshUp nm used b).map sK) (rd_own List.mem_cons_self))) (ek_var rfl) rk_I0), fun h N hN => ?_, fun h => ?_⟩
  · have h' := of_decide_eq_true h.symm
    rw [List.length_map] at h'
    have h' : (M8.freshUp nm used b).length < many := by omega
    refine q_aug (a := (b : Int)) (b := 1) rfl ek_c ?_
    refine q_asg (k := sK (nm (b + 1))) (ek_eq (ek_joined (ets_cons (y := "n") ek_c (by decide) (ets_cons (y := toString ((b : Int) + 1)) (ek_fmtI (ek_var rfl) (log_small (by omega) (by omega))) ?_ ets_nil))) ?_) ?_
    · have := num_length (i := b + 1) (by omega)
      rw [show (b : Int) + 1 = ((b + 1 : Nat) : Int) by omega, TL.len_tl, TL.tl_append, List.length_append, ← TL.len_tl, ← TL.len_tl]
      have h1 : (Str.empty ++ ("n" : Str)).length = 1 := by decide
      rw [h1]; unfold sizeLine; omega
    · have e : Str.empty ++ ("n" : Str) = "n" := by decide
      rw [e, Int.add_comm]
      exact congrArg sK (nm_num b)
    refine s_if (et_test (ek_op (ek_var rfl) (ek_var rfl) rk_inSet)) (fun h => ?_) (fun h => ?_)
    · have hn : nm (b + 1) ∉ used := by simpa using h.symm
      have e := upd_fresh (used := used) (b := b)
      rw [if_neg hn] at e
      have e2 : (M8.freshUp nm used (b + 1)).length ≤ many := by
        have := congrArg List.length e
        rw [List.length_append, List.length_map, List.length_map] at this
        simp only [List.length_cons, List.length_nil] at this
        omega
      refine s_app (k := sK (nm (b + 1))) 0 rfl (ek_var rfl) (ek_var rfl) (by rw [List.length_map]; show (M8.freshUp nm used b).length < sizeLine; unfold sizeLine; omega) ?_
      rw [← e]
      exact to_weak (.keep (.keep (.keep (.keep (.keep (.drop .nil)))))) (hN ⟨b + 1, e2⟩ (by show used.length + many - (b + 1) < used.length + many - b; omega))
    · have hn : nm (b + 1) ∈ used := by simpa using h.symm
      refine s_next ?_
      have e := upd_fresh (used := used) (b := b)
      rw [if_pos hn, List.append_nil] at e
      have e2 : (M8.freshUp nm used (b + 1)).length ≤ many := by
        have := congrArg List.length e
        rw [List.length_map, List.length_map] at this
        omega
      rw [← e]
      exact to_weak (.keep (.keep (.keep (.keep (.keep (.drop .nil)))))) (hN ⟨b + 1, e2⟩ (by show used.length + many - (b + 1) < used.length + many - b; omega))
  · have h' := of_decide_eq_false h.symm
    rw [List.length_map] at h'
    have h' : many ≤ (M8.freshUp nm used b).length := by omega
    have e := M8.freshL_eq (nm := nm) (used := used) (many := many) (n := b) (nm_inj1 _) h'
    rw [List.take_of_length_le hb] at e
    refine s_retO' rfl hR (ek_var rfl) List.mem_cons_self fun o G H h1 h2 h3 h4 => ?_
    rw [← e]
    exact ⟨a, o, rfl, h1, h2, h3, h4⟩
end
end K8
end
section
set_option maxRecDepth 100000
set_option maxHeartbeats 1000000
namespace K8
open PySem L2 Dl
local macro_rules | `(tactic| k_extra "mod") => `(tactic| first | (show (0 : Int) < _; decide) | (show (0 : Int) < _; omega) | assumption)
local macro_rules | `(tactic| k_extra "mul") => `(tactic| (show CMul _ _; first | exact .inr ⟨by decide, by decide⟩ | exact .inl ⟨by decide, by decide⟩ | exact .inr ⟨by omega, by omega⟩ | exact .inl ⟨by omega, by omega⟩))
local macro_rules | `(tactic| k_extra "side") => `(tactic| first | k_extra "mod" | k_extra "mul" | (show CDiv _ _; exact ⟨by first | decide | omega, by first | decide | omega⟩) | (show CPow _ _; exact ⟨by decide, by decide, by decide⟩))
local macro_rules | `(tactic| k_extra "rk") => `(tactic| first
  | (with_reducible exact rk_I0)
  | ((with_reducible apply rk_I); k_extra "side")
  | ((with_reducible apply rk_eq); exact rfl)
  | ((with_reducible apply rk_ne); exact rfl))
local macro_rules | `(tactic| k_extra "cr") => `(tactic| first
  | (with_reducible exact cr_int1) | (with_reducible exact cr_abs1) | ((with_reducible apply cr_len); first | exact rd_list | exact rd_at) | ((with_reducible apply cr_lenS); first | decide | assumption))
local macro_rules | `(tactic| k_extra "ev") => `(tactic| first
  | (with_reducible exact ek_c)
  | ((with_reducible apply ek_var); exact rfl)
  | ((with_reducible apply ek_op); k_extra "ev"; k_extra "ev"; k_extra "rk")
  | ((with_reducible apply ek_cb); (with_reducible apply ea_cons); k_extra "ev"; (with_reducible exact ea_nil); k_extra "cr"))
section
variable {F : Fx} {B : Bs} {δ : Dl.Env} {μ : Mu} {te ta : TE} {K : PySem.W.Frag} {tt : TT}
theorem outs_take {α : Type} {f g : α → Know} {keep : α → Bool} {d : Know} (xs : List α) : ∀ n, n ≤ xs.length → outs (fun i => ((xs[i]?).map keep).getD false) (fun i => ((xs[i]?).map g).getD d) n = ((xs.take n).filter keep).map g
  | 0, _ => rfl
  | n + 1, h => by
    have hx : xs[n]? = some xs[n] := List.getElem?_eq_getElem (by omega)
    have e : xs.take (n + 1) = xs.take n ++ [xs[n]] := by rw [List.take_succ_eq_append_getElem (by omega)]
    rw [e, List.filter_append, List.map_append, ← outs_take (f := f) (g := g) (keep := keep) (d := d) xs n (by omega)]
    cases hk : keep xs[n] with
    | true =>
      rw [outs_yes (by rw [hx]; exact hk), hx, List.filter_cons, if_pos hk]
      rfl
    | false =>
      rw [outs_no (by rw [hx]; exact hk), List.filter_cons, if_neg (by rw [hk]; decide)]
      exact (List.append_nil _).symm
/-- [e for x in xs if t] -/
theorem en_lcF {α : Type} {j : Nat} (f g : α → Know) (keep : α → Bool) (xs : List α) (h : Ek F ta δ μ (listK (xs.map f))) (hn : xs.length ≤ sizeLine)
    (he : ∀ x, x ∈ xs → ETk F tt ((wipeE δ [j]).set j (some (f x))) μ (· = keep x) ∧ (keep x = true → Ek F te ((wipeE δ [j]).set j (some (f x))) μ (g x))) : EN F (tLc (iList K ta) (gName j) tt te [j]) δ μ (.lst ((xs.filter keep).map g)) := by
  have h1 := ei_list (K := K) (k := iK 0) h
  have h2 := en_lc (tt := tt) (te := te) (fun i => ((xs[i]?).map keep).getD false) (fun i => ((xs[i]?).map g).getD (iK 0)) h1 (by rw [List.length_map]; exact hn) (gw_name (j := j)) (fun i hi => by
    rw [List.length_map] at hi
    have hx : xs[i]? = some xs[i] := List.getElem?_eq_getElem hi
    obtain ⟨z1, z2⟩ := he xs[i] (List.getElem_mem hi)
    refine ⟨(wipeE δ [j]).set j (some (f xs[i])), ?_, ?_, ?_⟩
    · rw [List.getElem?_map, hx]; exact gk_name
    · rw [hx]; exact z1
    · rw [hx]; exact z2)
  rw [List.length_map, outs_take (f := f) xs xs.length (Nat.le_refl _), List.take_length] at h2
  exact h2
theorem en_lcM {α : Type} {j : Nat} (f g : α → Know) (xs : List α) (h : Ek F ta δ μ (listK (xs.map f))) (hn : xs.length ≤ sizeLine)
    (he : ∀ x, x ∈ xs → Ek F te ((wipeE δ [j]).set j (some (f x))) μ (g x)) : EN F (tLc (iList K ta) (gName j) tYes te [j]) δ μ (.lst (xs.map g)) := by
  have := en_lcF (K := K) f g (fun _ => true) xs h hn fun x hx => ⟨et_yes, fun _ => he x hx⟩
  rw [List.filter_eq_self.mpr (fun _ _ => rfl)] at this
  exact this
theorem top_cons (w v : Nat) (p : List Nat) : M8.top w (v :: p) = M8.top (max w (v + 1)) p := rfl
theorem top_ge : ∀ (p : List Nat) (w : Nat), w ≤ M8.top w p ∧ ∀ v ∈ p, v + 1 ≤ M8.top w p
  | [], w => ⟨Nat.le_refl _, fun _ h => nomatch h⟩
  | v :: p, w => by
    rw [top_cons]
    obtain ⟨h1, h2⟩ := top_ge p (max w (v + 1))
    refine ⟨by omega, fun u hu => ?_⟩
    rcases List.mem_cons.mp hu with rfl | hu
    · omega
    · exact h2 u hu
theorem top_mem : ∀ (p : List Nat) (w : Nat), M8.top w p = w ∨ ∃ v ∈ p, M8.top w p = v + 1
  | [], w => .inl rfl
  | v :: p, w => by
    rw [top_cons]
    rcases top_mem p (max w (v + 1)) with e | ⟨u, hu, e⟩
    · by_cases h : w ≤ v + 1
      · exact .inr ⟨v, List.mem_cons_self, by omega⟩
      · exact .inl (by omega)
    · exact .inr ⟨u, List.mem_cons_of_mem _ hu, e⟩
end
section
variable {K : PySem.W.Frag}
theorem r_next_picks (x : NpIn) (G0 H0 : Hp) (Q : VK) (hR : Rt F0 ⟨F0.P, G0, H0⟩ ((fun H v G' H' => match M8.nextF x.w 0 x.picks with
  | none => v = .non
  | some ps => pN (.lst (ps.map natK)) H v G' H') H0) Q) :
    Tr F0 ⟨F0.P, G0, H0⟩ (env0 [natsK x.picks, iK (x.w : Int)] 3) [] (t_next_picks K) { nx := fun _ H' => Q .non H', rt := Q } := by
  obtain ⟨picks, w, hp, hw⟩ := x
  simp only at hR ⊢
  unfold t_next_picks
  refine q_forN (fun _ : Unit => ([some (natsK picks), some (iK (w : Int)), none, none, none], [])) (fun i _ => M8.nextAt w 0 picks picks.length = M8.nextAt w 0 picks (picks.length - i)) (ei_revR (n := picks.length) (ek_eq (ek_cb (ea_cons (ek_var rfl) ea_nil) (cr_len (ks := picks.map natK) rd_list)) (by rw [List.length_map])) (by omega)) () rfl (.keep (.keep (.drop (.drop (.drop .nil))))) rfl ?_ ?_
  · rintro B' l i _ hi hC N hN
    obtain ⟨k, hk⟩ : ∃ k, picks.length = k + 1 + i := ⟨picks.length - i - 1, by omega⟩
    have e1 : (picks.length : Int) - 1 - (i : Int) = (k : Int) := by omega
    have e2 : picks.length - i = k + 1 := by omega
    rw [e1]
    rw [e2] at hC
    have hkl : k < picks.length := by omega
    refine q_asg (k := iK ((M8.top w (picks.take k) : Nat) : Int)) (ek_cb (ea_cons (en_ek (en_op (en_ek (en_lst (ea_cons (ek_var rfl) ea_nil) (by show 1 ≤ sizeLine; unfold sizeLine; omega))) (en_ek (en_lcM natK (fun v => natK (v + 1)) (picks.take k) (ek_eq (en_ek (en_slL (K := K) (ks := picks.map natK) rd_list (ek_var rfl) eo_none (eo_some (ek_var rfl)))) (by rw [cutK_take, List.map_take])) (by rw [List.length_take]; unfold sizeLine; omega) fun v hv => ek_op (ek_var rfl) ek_c rk_I0)) (rn_cat rd_list rd_list (by rw [List.length_map, List.length_take]; show 1 + _ ≤ sizeLine; unfold sizeLine; omega)))) ea_nil) (cr_maxL (ns := (w : Int) :: (picks.take k).map fun v => ((v + 1 : Nat) : Int)) ?_ (by simp) ?_)) ?_
    · have : ((w : Int) :: (picks.take k).map fun v => ((v + 1 : Nat) : Int)).map iK = [iK (w : Int)] ++ (picks.take k).map fun v => natK (v + 1) := by
        rw [List.map_cons, List.map_map]; rfl
      rw [this]
      exact rd_list
    · intro z hz hmax
      have hge := top_ge (picks.take k) w
      have h1 := hmax (w : Int) List.mem_cons_self
      rcases List.mem_cons.mp hz with rfl | hz
      · rcases top_mem (picks.take k) w with e | ⟨v, hv, e⟩
        · rw [e]
        · have := hmax ((v + 1 : Nat) : Int) (List.mem_cons_of_mem _ (List.mem_map.mpr ⟨v, hv, rfl⟩))
          have := hge.1
          omega
      · obtain ⟨u, hu, rfl⟩ := List.mem_map.mp hz
        have h2 := hge.2 u hu
        rcases top_mem (picks.take k) w with e | ⟨v, hv, e⟩
        · omega
        · have := hmax ((v + 1 : Nat) : Int) (List.mem_cons_of_mem _ (List.mem_map.mpr ⟨v, hv, rfl⟩))
          omega
    have hget : (picks.map natK)[k]? = some (natK (picks.getD k 0)) := by
      rw [List.getElem?_map, List.getD_eq_getElem?_getD, List.getElem?_eq_getElem hkl]
      rfl
    have hix : ∀ δ' : Dl.Env, δ'[0]? = some (some (natsK picks)) → δ'[2]? = some (some (iK (k : Int))) → Ek F0 (tOp (rIxL K) (tVar 0) (tVar 2)) δ' [] (natK (picks.getD k 0)) := fun δ' q1 q2 =>
      ek_op (ek_var q1) (ek_var q2) (rk_ixL (ks := picks.map natK) (i := (k : Int)) (j := k) rd_list (by rw [List.length_map]; exact ixN_nat hkl) hget)
    have hst : M8.nextAt w 0 picks (k + 1) = if picks.getD k 0 < M8.top w (picks.take k) then some (picks.take k ++ [picks.getD k 0 + 1] ++ List.replicate (picks.length - k - 1) 0) else M8.nextAt w 0 picks k := by
      show (if k < 0 then _ else _) = _
      rw [if_neg (Nat.not_lt_zero _)]
    refine s_if (et_test (ek_op (hix _ rfl rfl) (ek_var rfl) rk_I0)) (fun h => ?_) (fun h => ?_)
    · have h' : picks.getD k 0 < M8.top w (picks.take k) := by have := of_decide_eq_true h.symm; omega
      rw [if_pos h'] at hst
      have hF : M8.nextF w 0 picks = some (picks.take k ++ [picks.getD k 0 + 1] ++ List.replicate (picks.length - k - 1) 0) := by
        show M8.nextAt w 0 picks picks.length = _
        rw [hC, hst]
      rw [hF] at hR
      refine s_retN (hR.up l) (en_op (en_ek (en_op (en_ek (en_slL (K := K) (ks := picks.map natK) rd_list (ek_var rfl) eo_none (eo_some (ek_var rfl)))) (en_ek (en_lst (ea_cons (ek_op (hix _ rfl rfl) ek_c rk_I0) ea_nil) (by show 1 ≤ sizeLine; unfold sizeLine; omega))) (rn_cat rd_list rd_list (by rw [cutK_take, List.length_take, List.length_map]; show _ + 1 ≤ sizeLine; unfold sizeLine; omega))))
        (en_ek (en_op (en_ek (en_lst (ea_cons ek_c ea_nil) (by show 1 ≤ sizeLine; unfold sizeLine; omega))) (ek_eq (ek_op (ek_op (ek_cb (ea_cons (ek_var rfl) ea_nil) (cr_len (ks := picks.map natK) rd_list)) (ek_var rfl) rk_I0) ek_c rk_I0) (k' := iK ((picks.length - k - 1 : Nat) : Int)) ?_) (rn_rep rd_list (by omega) (by show 1 * _ ≤ sizeLine; unfold sizeLine; omega) (by omega)))) (rn_cat rd_list rd_list ?_)) fun a o G H h1 h2 hp' h3 h4 => ?_
      · rw [List.length_map]
        congr 2
        omega
      · rw [cutK_take, rep_one]
        simp only [List.length_append, List.length_take, List.length_map, List.length_replicate, List.length_cons, List.length_nil]
        unfold sizeLine
        omega
      · refine ⟨a, o, rfl, ?_, h2, h3, ?_⟩
        · rcases l.mn a (.inr h1) with q | q
          · cases q
          · exact q
        · rw [cutK_take, rep_one, Int.toNat_natCast] at h4
          rw [List.map_append, List.map_append, List.map_take, List.map_replicate]
          exact h4
    · have h' : ¬ picks.getD k 0 < M8.top w (picks.take k) := by have := of_decide_eq_false h.symm; omega
      rw [if_neg h'] at hst
      refine s_next (to_weak (.keep (.keep (.drop (.drop (.drop .nil))))) (hN () ?_))
      rw [hC, hst]
      congr 1
      omega
  · rintro _ hC
    rw [Nat.sub_self] at hC
    have hF : M8.nextF w 0 picks = none := hC
    rw [hF] at hR
    exact s_ret hR ek_c fun v G H p => p
end
end K8
end
section
set_option maxRecDepth 100000
set_option maxHeartbeats 1000000
namespace K8
open PySem L2 Dl
local macro_rules | `(tactic| k_extra "mod") => `(tactic| first | (show (0 : Int) < _; decide) | (show (0 : Int) < _; omega) | assumption)
local macro_rules | `(tactic| k_extra "mul") => `(tactic| (show CMul _ _; first | exact .inr ⟨by decide, by decide⟩ | exact .inl ⟨by decide, by decide⟩ | exact .inr ⟨by omega, by omega⟩ | exact .inl ⟨by omega, by omega⟩))
local macro_rules | `(tactic| k_extra "side") => `(tactic| first | k_extra "mod" | k_extra "mul" | (show CDiv _ _; exact ⟨by first | decide | omega, by first | decide | omega⟩) | (show CPow _ _; exact ⟨by decide, by decide, by decide⟩))
local macro_rules | `(tactic| k_extra "rk") => `(tactic| first
  | (with_reducible exact rk_I0)
  | ((with_reducible apply rk_I); k_extra "side")
  | ((with_reducible apply rk_eq); exact rfl)
  | ((with_reducible apply rk_ne); exact rfl))
local macro_rules | `(tactic| k_extra "cr") => `(tactic| first
  | (with_reducible exact cr_int1) | (with_reducible exact cr_abs1) | ((with_reducible apply cr_len); first | exact rd_list | exact rd_at) | ((with_reducible apply cr_lenS); first | decide | assumption))
local macro_rules | `(tactic| k_extra "ev") => `(tactic| first
  | (with_reducible exact ek_c)
  | ((with_reducible apply ek_var); exact rfl)
  | ((with_reducible apply ek_op); k_extra "ev"; k_extra "ev"; k_extra "rk")
  | ((with_reducible apply ek_cb); (with_reducible apply ea_cons); k_extra "ev"; (with_reducible exact ea_nil); k_extra "cr"))
section
variable {K : PySem.W.Frag}
theorem idx_before {α : Type} [DecidableEq α] : ∀ {xs : List α} {x y : α} {m : Nat}, m < xs.idxOf x → xs[m]? = some y → y ≠ x
  | [], x, y, m, h, e => by simp at e
  | z :: xs, x, y, m, h, e => by
    rw [List.idxOf_cons] at h
    by_cases hz : z = x
    · rw [hz] at h
      simp at h
    · have hb : (z == x) = false := by simpa using hz
      rw [hb] at h
      cases m with
      | zero => simp at e; rw [← e]; exact hz
      | succ m => exact idx_before (xs := xs) (m := m) (by simpa using h) (by simpa using e)
def markK (words picked : List Str) (x : Str) : Know := sumK (if x ∈ words then .inl x else .inr (picked.idxOf x))
theorem shape_map (words picked : List Str) : (M8.shape words picked).map sumK = picked.map (markK words picked) := by
  unfold M8.shape
  rw [List.map_map]
  rfl
theorem take_snoc {α : Type} {xs : List α} {i : Nat} (h : i < xs.length) : xs.take (i + 1) = xs.take i ++ [xs[i]] := List.take_succ_eq_append_getElem h
theorem r_law_shape (x : LsIn) (G0 H0 : Hp) (Q : VK) (hR : Rt F0 ⟨F0.P, G0, H0⟩ (pN (.lst ((M8.shape x.words x.picked).map sumK)) H0) Q) :
    Tr F0 ⟨F0.P, G0, H0⟩ (env0 [strsK x.picked, strsK x.words] 2) [] (t_law_shape K) { nx := fun _ H' => Q .non H', rt := Q } := by
  obtain ⟨picked, words, hp⟩ := x
  simp only at hR ⊢
  unfold t_law_shape
  refine q_new (m := .lst []) (en_lst ea_nil (by decide)) fun a => ?_
  refine q_forN (fun b : Nat => ([some (strsK picked), some (strsK words), some (valK (.ref a)), none], [(a, .lst ((picked.take b).map (markK words picked)))])) (fun i b => b = i) (ei_list (K := K) (k := iK 0) (ks := picked.map sK) (ek_var rfl)) 0 rfl (.keep (.keep (.keep (.drop .nil)))) rfl ?_ ?_
  · rintro B' l i b hi rfl N hN
    rw [List.length_map] at hi
    have hg : ((picked.map sK)[b]?).getD (iK 0) = sK picked[b] := by rw [List.getElem?_map, List.getElem?_eq_getElem hi]; rfl
    rw [hg]
    have hmem : picked[b] ∈ picked := List.getElem_mem hi
    have e := take_snoc hi
    have hfin : ∀ k, k = markK words picked picked[b] → To F0 B' ([some (strsK picked), some (strsK words), some (valK (.ref a)), some (sK picked[b])]) [(a, .lst ((picked.take b).map (markK words picked) ++ [k]))] N := fun k ek => by
      subst ek
      have := hN (b + 1) rfl
      rw [e, List.map_append] at this
      exact to_weak (.keep (.keep (.keep (.drop .nil)))) this
    have hlen : ((picked.take b).map (markK words picked)).length < sizeLine := by rw [List.length_map, List.length_take]; unfold sizeLine; omega
    refine s_if (et_test (ek_op (ek_var rfl) (ek_var rfl) (rk_inS rd_list))) (fun h => ?_) (fun h => ?_)
    · have h' : picked[b] ∈ words := of_decide_eq_true h.symm
      refine s_app (k := sK picked[b]) 0 rfl (ek_var rfl) (ek_var rfl) hlen (hfin _ ?_)
      unfold markK
      rw [if_pos h']
      rfl
    · have h' : picked[b] ∉ words := of_decide_eq_false h.symm
      refine s_app (k := iK ((picked.idxOf picked[b] : Nat) : Int)) 0 rfl (ek_var rfl) (ek_indexS (xs := picked) rd_list (ek_var rfl) (ek_var rfl) (M8.getElem_of_idx hmem) fun m y hm hy => idx_before hm hy) hlen (hfin _ ?_)
      unfold markK
      rw [if_neg h']
      rfl
  · rintro b hb
    rw [List.length_map] at hb
    subst hb
    refine s_retO' rfl hR (ek_var rfl) List.mem_cons_self fun o G H h1 h2 h3 h4 => ?_
    rw [shape_map]
    rw [List.take_length] at h4
    exact ⟨a, o, rfl, h1, h2, h3, h4⟩
section
variable {F : Fx} {B : Bs} {δ : Dl.Env} {μ : Mu} {te tp : TE} {pl : Pl} {many : Int}
/-- a draw compared -/
theorem ek_drawEq {z : Int} (h : Ek F te δ μ (drawK many)) : Ek F (tOp rEq te (tC (.int z))) δ μ (exK fun b : Bool => bK b) :=
  ek_weak (ek_op h ek_c (rk_exl fun r => rk_eq (u := .int r.1) (w := .int z) rfl)) fun v G ⟨r, p⟩ => ⟨_, p⟩
theorem et_any (h : Ek F te δ μ (exK fun b : Bool => bK b)) : ETk F (tTest te) δ μ (fun _ => True) := et_testx h fun x v G p => ⟨x, p, trivial⟩
end
structure UsOk (words : List Str) (n : Nat) (us : List Str) : Prop where
  len : us.length ≤ n
  sub : ∀ z ∈ words, z ∈ us
  ok : ∀ z ∈ us, OkS z
theorem r_law_used (x : LuIn) (G0 H0 : Hp) (Q : VK) (hR : Rt (FP x.pl) ⟨(FP x.pl).P, G0, H0⟩ ((fun H v G' H' => ∃ us : List Str, us.length ≤ 11 ∧ (∀ z ∈ x.words, z ∈ us) ∧ (∀ z ∈ us, OkS z) ∧ pN (.lst (us.map sK)) H v G' H') H0) Q) :
    Tr (FP x.pl) ⟨(FP x.pl).P, G0, H0⟩ (env0 [poolK x.pl, strsK x.words] 3) [] (t_law_used K) { nx := fun _ H' => Q .non H', rt := Q } := by
  obtain ⟨pl, words, hw, hok⟩ := x
  simp only at hR ⊢
  unfold t_law_used
  refine q_new (m := .lst (words.map sK)) (en_cb (ea_cons (ek_var rfl) ea_nil) (cn_list (K := K) rd_list)) fun a => ?_
  refine q_forN (fun us : List Str => ([some (poolK pl), some (strsK words), some (valK (.ref a)), none, none], [(a, .lst (us.map sK))])) (fun i us => UsOk words (3 + i) us) (ei_rng2 (a := 1) (n := 9) (ea_cons ek_c (ea_cons ek_c ea_nil)) (by omega) (by omega) (by omega) (by omega)) words ⟨by omega, fun z h => h, hok⟩ (.keep (.keep (.keep (.drop (.drop .nil))))) rfl ?_ ?_
  · rintro B' l i us hi hu N hN
    have hi : i < 8 := hi
    have hx : ∀ (μ : Mu), Ek (FP pl) (tOp rAddStr (tC (.str "n")) (tCB rStrI (tCons (tVar 3) tNil))) [some (poolK pl), some (strsK words), some (valK (.ref a)), some (iK (1 + (i : Int))), none] μ (sK (nm (i + 1))) := fun μ =>
      ek_eq (ek_op ek_c (ek_cb (ea_cons (ek_var rfl) ea_nil) (cr_strI (log_small (by omega) (by omega)))) (rk_strs (by
        have := num_length (i := i + 1) (by omega)
        rw [show (1 : Int) + (i : Int) = ((i + 1 : Nat) : Int) by omega]
        have h1 : ("n" : Str).length = 1 := by decide
        rw [h1]; unfold sizeLine; omega))) (by rw [nm_num])
    refine s_if (et_and' (et_any (ek_drawEq (ek_pick (K := K) (many := 2) (ek_var rfl) ek_c (by omega)))) fun _ => et_test (ek_op (hx _) (ek_var rfl) (rk_niS (rd_own List.mem_cons_self)))) (fun h => ?_) (fun h => ?_)
    · have hlen := hu.len
      refine s_app (k := sK (nm (i + 1))) 0 rfl (ek_var rfl) (hx _) (by rw [List.length_map]; unfold sizeLine; omega) ?_
      have := hN (us ++ [nm (i + 1)]) ⟨by rw [List.length_append]; show us.length + 1 ≤ _; omega, fun z hz => List.mem_append_left _ (hu.sub z hz), fun z hz => by
        rcases List.mem_append.mp hz with hz | hz
        · exact hu.ok z hz
        · rw [List.mem_singleton.mp hz]; exact nm_ok (by omega)⟩
      rw [List.map_append] at this
      exact to_weak (.keep (.keep (.keep (.drop (.drop .nil))))) this
    · exact s_next (to_weak (.keep (.keep (.keep (.drop (.drop .nil))))) (hN us ⟨by have := hu.len; omega, hu.sub, hu.ok⟩))
  · intro us hu
    have hlen : us.length ≤ 11 := hu.len
    refine q_asgx (ek_pick (K := K) (many := (us.length : Int) + 1) (ek_var rfl) (ek_eq (ek_op (ek_cb (ea_cons (ek_var rfl) ea_nil) (cr_len (ks := us.map sK) (rd_own List.mem_cons_self))) ek_c rk_I0) (by rw [List.length_map])) (by omega)) fun r => ?_
    obtain ⟨t, ht⟩ : ∃ t : Nat, r.1 = (t : Int) := ⟨r.1.toNat, by have := r.2.1; omega⟩
    rw [ht]
    refine s_retN hR (en_op (en_ek (en_slL (K := K) (ks := us.map sK) (rd_own List.mem_cons_self) (ek_var rfl) (eo_some (ek_var rfl)) eo_none)) (en_ek (en_slL (K := K) (ks := us.map sK) (rd_own List.mem_cons_self) (ek_var rfl) eo_none (eo_some (ek_var rfl)))) (rn_cat rd_list rd_list ?_)) fun a o G H h1 h2 hp' h3 h4 => ?_
    · rw [cutK_take, cutK_drop, List.length_take, List.length_drop, List.length_map]; unfold sizeLine; omega
    · rw [cutK_take, cutK_drop, ← List.map_take, ← List.map_drop, ← List.map_append] at h4
      refine ⟨us.drop t ++ us.take t, ?_, fun z hz => ?_, fun z hz => ?_, a, o, rfl, h1, h2, h3, h4⟩
      · rw [List.length_append, List.length_drop, List.length_take]; omega
      · have := hu.sub z hz
        rw [← List.take_append_drop t us] at this
        rcases List.mem_append.mp this with q | q
        · exact List.mem_append_right _ q
        · exact List.mem_append_left _ q
      · rcases List.mem_append.mp hz with q | q
        · exact hu.ok z (List.mem_of_mem_drop q)
        · exact hu.ok z (List.mem_of_mem_take q)
end
end K8
end
section
set_option maxRecDepth 100000
set_option maxHeartbeats 1000000
namespace K8
open PySem L2 Dl
local macro_rules | `(tactic| k_extra "mod") => `(tactic| first | (show (0 : Int) < _; decide) | (show (0 : Int) < _; omega) | assumption)
local macro_rules | `(tactic| k_extra "mul") => `(tactic| (show CMul _ _; first | exact .inr ⟨by decide, by decide⟩ | exact .inl ⟨by decide, by decide⟩ | exact .inr ⟨by omega, by omega⟩ | exact .inl ⟨by omega, by omega⟩))
local macro_rules | `(tactic| k_extra "side") => `(tactic| first | k_extra "mod" | k_extra "mul" | (show CDiv _ _; exact ⟨by first | decide | omega, by first | decide | omega⟩) | (show CPow _ _; exact ⟨by decide, by decide, by decide⟩))
local macro_rules | `(tactic| k_extra "rk") => `(tactic| first
  | (with_reducible exact rk_I0)
  | ((with_reducible apply rk_I); k_extra "side")
  | ((with_reducible apply rk_eq); exact rfl)
  | ((with_reducible apply rk_ne); exact rfl))
local macro_rules | `(tactic| k_extra "cr") => `(tactic| first
  | (with_reducible exact cr_int1) | (with_reducible exact cr_abs1) | ((with_reducible apply cr_len); first | exact rd_list | exact rd_at) | ((with_reducible apply cr_lenS); first | decide | assumption))
local macro_rules | `(tactic| k_extra "ev") => `(tactic| first
  | (with_reducible exact ek_c)
  | ((with_reducible apply ek_var); exact rfl)
  | ((with_reducible apply ek_op); k_extra "ev"; k_extra "ev"; k_extra "rk")
  | ((with_reducible apply ek_cb); (with_reducible apply ea_cons); k_extra "ev"; (with_reducible exact ea_nil); k_extra "cr"))
section
variable {F : Fx} {B : Bs} {δ : Dl.Env} {μ : Mu} {te ta tb : TE} {K : PySem.W.Frag} {k k1 k2 : Know} {m : MO} {D : Ends}
theorem q_new' {i : Nat} {u : TS} (h : EN F te δ μ m) (q : ∀ a, B.H0 a = none → Tr F B (δ.set i (some (valK (.ref a)))) ((a, m) :: μ) u D) : Tr F B δ μ (tSeq (tAsg te (gName i)) u) D := fun σ H ⟨G, z⟩ =>
  h G H σ z.st _ fun a o G' H' h1 h2 hp h3 h4 g j => q a (back_none z.gr h1) _ _ ⟨G', (z.join h1 h2 hp h3 h4 g j).setS i rfl⟩
/-- == that also looks at one's own -/
def IsH (K : PySem.W.Frag) (F : Fx) (μ : Mu) (k : Know) (d : PyData) : Prop := ∀ G H v, Same G H → OwnK F G H μ → k.p v G → Dp K H v d
theorem ish_of {d : PyData} (h : IsD K k d) : IsH K F μ k d := fun G H v s o p => dp_mono s (h v G p)
theorem ish_own {α : Type} {f : α → Know} {g : α → PyData} {xs : List α} {a : Addr} (h : (a, MO.lst (xs.map f)) ∈ μ) (hd : ∀ x, x ∈ xs → IsD K (f x) (g x)) : IsH K F μ (valK (.ref a)) (.list (xs.map g)) := fun G H v s o e => by
  have e : v = .ref a := e
  subst e
  obtain ⟨_, _, u, h1, vs, h2, h3⟩ := o.has a _ h
  subst h2
  exact .lst (.inl (.inl h1)) (dpAll_mono s (isd_all xs hd _ _ h3))
theorem rk_eqH {d e : PyData} (h1 : IsH K F μ k1 d) (h2 : IsH K F μ k2 e) (s1 : SeqAt.shaped d = true) (s2 : SeqAt.shaped e = true) : Rk F μ (rEqD K) k1 k2 (valK (.bl (PyData.eqv d e))) := fun G H x y s jj o p1 p2 Q q =>
  ⟨d, e, h1 G H x s o p1, h2 G H y s o p2, s1, s2, q _ G H (.refl s) jj rfl⟩
theorem rk_neH {d e : PyData} (h1 : IsH K F μ k1 d) (h2 : IsH K F μ k2 e) (s1 : SeqAt.shaped d = true) (s2 : SeqAt.shaped e = true) : Rk F μ (rNeD K) k1 k2 (valK (.bl (!PyData.eqv d e))) := fun G H x y s jj o p1 p2 Q q =>
  ⟨d, e, h1 G H x s o p1, h2 G H y s o p2, s1, s2, q _ G H (.refl s) jj rfl⟩
theorem rk_ix_of {r : Know} (h : Rk F μ (rIxL K) k1 k2 r) : Rk F μ (rIx K) k1 k2 r := fun G H x y s jj o p1 p2 Q q => .inl (h G H x y s jj o p1 p2 Q q)
theorem en_lawFresh {used : List Str} {many : Nat} (hu : used.length ≤ 100) (hm : many ≤ 200) (ha : Ek F ta δ μ (strsK used)) (hb : Ek F tb δ μ (iK (many : Int))) : EN F (tCall (sp_law_fresh K) [] E0 (tCons ta (tCons tb tNil))) δ μ (.lst ((M8.freshL nm used many).map sK)) :=
  en_call (FX := fun _ : LfIn => F0) (ks := fun x => [strsK x.used, iK (x.many : Int)]) (post := fun x => pN (.lst ((M8.freshL nm x.used x.many).map sK))) ⟨used, many, hu, hm⟩ rfl (ea_cons ha (ea_cons hb ea_nil)) (fun _ _ _ _ p => p)
theorem en_freshWords {used : List Str} {many : Nat} (hu : used.length ≤ 100) (hm : many ≤ 200) (ha : Ek F ta δ μ (strsK used)) (hb : Ek F tb δ μ (iK (many : Int))) : EN F (tCall (sp_fresh_words K) [] E0 (tCons ta (tCons tb tNil))) δ μ (.lst ((M8.freshL nm used many).map sK)) :=
  en_call (FX := fun _ : FwIn => F0) (ks := fun x => [if x.lst then strsK x.used else tupK K (x.used.map sK), iK (x.many : Int)]) (post := fun x => pN (.lst ((M8.freshL nm x.used x.many).map sK))) ⟨true, used, many, hu, hm⟩ rfl (ea_cons ha (ea_cons hb ea_nil)) (fun _ _ _ _ p => p)
/-- a call by keywords alone -/
theorem en_callK {tk : TA} {ι : Type} {FX : ι → Fx} {ks : ι → List Know} {post : ι → Hp → V → Hp → Hp → Prop} {E : XK} {ls : List Know} {gV : List V → List V → List V} (x : ι) (hF : FX x = F0) (ha : EAk F tk δ μ ls) (hg : ∀ G vs, AllK G vs ls → AllK G (gV [] vs) (ks x)) (hp : ∀ H v G' H', post x H v G' H' → pN m H v G' H') : EN F (tCallK (spF FX ks post) gV E tNil tk) δ μ m := fun G H σ st Q q =>
  ha G H σ st _ fun vs G1 H1 g1 j1 p1 => by
    refine ⟨x, G1, g1.gh, by rw [hF]; trivial, hg G1 vs p1, fun v G2 H2 g2 _ p2 => ?_⟩
    rw [hF] at g2
    have g2' : Gr [] G1 H1 G2 H2 := g2
    obtain ⟨a, o, rfl, h1, h2, h3, h4⟩ := hp _ _ _ _ p2
    exact q a o G2 H2 (back_none g1 h1) h2 (F.offP j1 h1) h3 h4 (g1.trans (g2'.wide fun _ h => nomatch h)) (F.pure g2' j1)
theorem en_freshWordsK {used : List Str} {many : Nat} (hu : used.length ≤ 100) (hm : many ≤ 200) (ha : Ek F ta δ μ (tupK K (used.map sK))) (hb : Ek F tb δ μ (iK (many : Int))) : EN F (tCallK (sp_fresh_words K) gSwap E0 tNil (tCons tb (tCons ta tNil))) δ μ (.lst ((M8.freshL nm used many).map sK)) :=
  en_callK (FX := fun _ : FwIn => F0) (ks := fun x => [if x.lst then strsK x.used else tupK K (x.used.map sK), iK (x.many : Int)]) (post := fun x => pN (.lst ((M8.freshL nm x.used x.many).map sK))) ⟨false, used, many, hu, hm⟩ rfl (ea_cons hb (ea_cons ha ea_nil)) (fun G vs h => by
    obtain ⟨v, u, rfl, p1, p2⟩ := allK2 h
    exact .cons p2 (.cons p1 .nil)) (fun _ _ _ _ p => p)
end
section
variable {K : PySem.W.Frag}
theorem freshL_ok {used : List Str} {many : Nat} (h : used.length + many < 10 ^ 9) : ∀ z ∈ M8.freshL nm used many, OkS z := by
  intro z hz
  have h1 := List.mem_of_mem_take hz
  unfold M8.freshUp at h1
  obtain ⟨i, hi, rfl⟩ := List.mem_map.mp (List.mem_filter.mp h1).1
  have := List.mem_range.mp hi
  exact nm_ok (by omega)
theorem r_law_fresh_hold (x : FhIn) (G0 H0 : Hp) (Q : VK) (hR : Rt (FP x.pl) ⟨(FP x.pl).P, G0, H0⟩ (pK (bK true) H0) Q) :
    Tr (FP x.pl) ⟨(FP x.pl).P, G0, H0⟩ (env0 [poolK x.pl, strsK x.used] 3) [] (t_law_fresh_hold K) { nx := fun _ H' => Q .non H', rt := Q } := by
  obtain ⟨pl, used, hu, hok⟩ := x
  simp only at hR ⊢
  unfold t_law_fresh_hold
  refine q_asgx (ek_oneI (K := K) (xs := [0, 1, 2, 3, 12, 100]) (ek_var rfl) (en_ek (en_lst (ea_cons ek_c (ea_cons ek_c (ea_cons ek_c (ea_cons ek_c (ea_cons ek_c (ea_cons ek_c ea_nil)))))) (by decide))) (by decide) (by decide)) fun y => ?_
  obtain ⟨many, hy, hm⟩ : ∃ many : Nat, y.1 = (many : Int) ∧ many ≤ 100 := by
    have := y.2
    refine ⟨y.1.toNat, ?_, ?_⟩ <;> (simp at this; omega)
  rw [hy]
  have hg : (used ++ used.take 2).length ≤ 13 := by rw [List.length_append, List.length_take]; omega
  have hgiv : ∀ δ' : Dl.Env, ∀ μ : Mu, δ'[1]? = some (some (strsK used)) → Ek (FP pl) (tOp rCat (tVar 1) (tSl (rSlL K) (tVar 1) tNoPart (tPart (tC (.int 2))))) δ' μ (strsK (used ++ used.take 2)) := fun δ' μ h =>
    ek_eq (en_ek (en_op (ek_var h) (en_ek (en_slL (K := K) (ks := used.map sK) rd_list (ek_var h) eo_none (eo_some ek_c))) (rn_cat rd_list rd_list (by
      rw [show (2 : Int) = ((2 : Nat) : Int) from rfl, cutK_take, List.length_take, List.length_map]; unfold sizeLine; omega)))) (by
      rw [show (2 : Int) = ((2 : Nat) : Int) from rfl, cutK_take, ← List.map_take, ← List.map_append])
  refine q_asg (k := strsK (used ++ used.take 2)) (hgiv _ _ rfl) ?_
  refine q_new (en_freshWords (K := K) (used := used ++ used.take 2) (many := many) (by omega) (by omega) (ek_var rfl) (ek_var rfl)) fun a => ?_
  have hc : M8.freshL nm (used ++ used.take 2) many = M8.freshL nm used many := by
    refine M8.freshL_congr (fun z => ⟨fun h => List.mem_append_left _ h, fun h => ?_⟩) (nm_inj1 _) (nm_inj1 _)
    rcases List.mem_append.mp h with h | h
    · exact h
    · exact List.mem_of_mem_take h
  rw [hc]
  have hfo := freshL_ok (used := used) (many := many) (by omega)
  have hs1 : Shp (.list ((M8.freshL nm used many).map .str)) 1 := shp_strs hfo
  have hs2 : Shp (.list ((used ++ used.take 2).map .str)) 1 := shp_strs fun z hz => by
    rcases List.mem_append.mp hz with hz | hz
    · exact hok z hz
    · exact hok z (List.mem_of_mem_take hz)
  refine q_when (P := (· = false)) (et_weak (et_or (a := false) (b := false) (et_test (ek_eq (ek_op (ek_var rfl) (en_ek (en_lawFresh (K := K) (used := used) (many := many) (by omega) (by omega) (ek_var rfl) (ek_var rfl))) (rk_neH (ish_own (f := sK) (g := .str) List.mem_cons_self fun x _ => isd_str) (ish_of isd_strs) hs1.shaped hs1.shaped)) (by rw [hs1.refl]; rfl))) fun _ => et_test (ek_eq (ek_op (ek_var rfl) (hgiv _ _ rfl) (rk_neH (ish_of isd_strs) (ish_of isd_strs) hs2.shaped hs2.shaped)) (by rw [hs2.refl]; rfl))) fun b h => h) (fun h => nomatch h) fun _ => ?_
  refine q_app (k := sK "zz") 0 rfl (ek_var rfl) ek_c (by rw [List.length_map]; have : (M8.freshL nm used many).length ≤ many := List.length_take_le _ _; unfold sizeLine; omega) ?_
  exact s_ret hR (ek_eq (ek_op (en_ek (en_freshWordsK (used := used) (many := many) (by omega) (by omega) (ek_cb (ea_cons (ek_var rfl) ea_nil) (cr_tup rd_list)) (ek_var rfl))) (en_ek (en_lawFresh (K := K) (used := used) (many := many) (by omega) (by omega) (ek_var rfl) (ek_var rfl))) (rk_eqH (ish_of isd_strs) (ish_of isd_strs) hs1.shaped hs1.shaped)) (by rw [hs1.refl])) fun v G H p => p
end
end K8
end
section
set_option maxRecDepth 100000
set_option maxHeartbeats 1000000
namespace K8
open PySem L2 Dl
local macro_rules | `(tactic| k_extra "mod") => `(tactic| first | (show (0 : Int) < _; decide) | (show (0 : Int) < _; omega) | assumption)
local macro_rules | `(tactic| k_extra "mul") => `(tactic| (show CMul _ _; first | exact .inr ⟨by decide, by decide⟩ | exact .inl ⟨by decide, by decide⟩ | exact .inr ⟨by omega, by omega⟩ | exact .inl ⟨by omega, by omega⟩))
local macro_rules | `(tactic| k_extra "side") => `(tactic| first | k_extra "mod" | k_extra "mul" | (show CDiv _ _; exact ⟨by first | decide | omega, by first | decide | omega⟩) | (show CPow _ _; exact ⟨by decide, by decide, by decide⟩))
local macro_rules | `(tactic| k_extra "rk") => `(tactic| first
  | (with_reducible exact rk_I0)
  | ((with_reducible apply rk_I); k_extra "side")
  | ((with_reducible apply rk_eq); exact rfl)
  | ((with_reducible apply rk_ne); exact rfl))
local macro_rules | `(tactic| k_extra "cr") => `(tactic| first
  | (with_reducible exact cr_int1) | (with_reducible exact cr_abs1) | ((with_reducible apply cr_len); first | exact rd_list | exact rd_at) | ((with_reducible apply cr_lenS); first | decide | assumption))
local macro_rules | `(tactic| k_extra "ev") => `(tactic| first
  | (with_reducible exact ek_c)
  | ((with_reducible apply ek_var); exact rfl)
  | ((with_reducible apply ek_op); k_extra "ev"; k_extra "ev"; k_extra "rk")
  | ((with_reducible apply ek_cb); (with_reducible apply ea_cons); k_extra "ev"; (with_reducible exact ea_nil); k_extra "cr"))
section
variable {K : PySem.W.Frag}
def foundK (ps : List (List Str)) : Know := listK (ps.map fun p => strsK p)
theorem flat_len {α β : Type} (f : α → List β) (c : Nat) : ∀ xs : List α, (∀ x ∈ xs, (f x).length ≤ c) → (xs.flatMap f).length ≤ c * xs.length
  | [], _ => by simp
  | x :: xs, h => by
    rw [List.flatMap_cons, List.length_append, List.length_cons]
    have h1 := h x List.mem_cons_self
    have h2 := flat_len f c xs fun y hy => h y (List.mem_cons_of_mem _ hy)
    rw [Nat.mul_succ]
    omega
theorem zip_range {names p : List Str} (h : p.length = names.length) (d : Know) : (List.range names.length).map (fun i => pairKn K ((names[i]?).getD Str.empty, (p[i]?).getD Str.empty)) = (names.zip p).map (pairKn K) := by
  apply List.ext_getElem?
  intro i
  rw [List.getElem?_map, List.getElem?_map]
  by_cases hi : i < names.length
  · rw [List.getElem?_range hi, List.getElem?_eq_getElem (by rw [List.length_zip]; omega), List.getElem_zip]
    show some (pairKn K ((names[i]?).getD Str.empty, (p[i]?).getD Str.empty)) = _
    rw [List.getElem?_eq_getElem hi, List.getElem?_eq_getElem (by omega)]
    rfl
  · rw [List.getElem?_eq_none (by rw [List.length_range]; omega), List.getElem?_eq_none (by rw [List.length_zip]; omega)]
    rfl
structure LpFacts (x : LpIn) : Prop where
  fl : x.fresh.length = x.names.length
  fn : x.fresh.Nodup
  fd : ∀ z ∈ x.fresh, z ∉ x.words
  ok : ∀ z ∈ x.fresh, OkS z
theorem lp_facts (x : LpIn) : LpFacts x where
  fl := M8.freshL_len (nm_inj1 _)
  fn := M8.freshL_nodup (nm_inj1 _)
  fd := fun z hz h => M8.freshL_off hz (x.sub z h)
  ok := freshL_ok (by have := x.hn; have := x.hu; omega)
theorem due_small (x : LpIn) {n : Nat} (h : n ≤ x.names.length) : (M8.due x.words x.fresh n).length ≤ 9 ^ 6 := by
  have f := lp_facts x
  rw [M8.due_len f.fn f.fd n (by rw [f.fl]; exact h)]
  have h1 := x.hn
  have h2 := x.hw
  exact Nat.le_trans (M8.c_le x.words.length 9 n 0 (by omega)) (Nat.pow_le_pow_right (by decide) (by omega))
theorem cands_small (x : LpIn) (p : List Str) : (M8.cands x.words x.fresh p).length ≤ 10 := by
  have h := M8.cands_len (words := x.words) (fresh := x.fresh) p
  have h1 := List.length_filter_le (fun z => decide (z ∈ p)) x.fresh
  have f := (lp_facts x).fl
  have h2 := x.hn
  have h3 := x.hw
  omega
theorem r_law_patterns (x : LpIn) (G0 H0 : Hp) (Q : VK) (hR : Rt F0 ⟨F0.P, G0, H0⟩ (pN (.lst (x.due.map fun p => rowKn K (x.names.zip p))) H0) Q) :
    Tr F0 ⟨F0.P, G0, H0⟩ (env0 [strsK x.names, strsK x.words, strsK x.used] 9) [] (t_law_patterns K) { nx := fun _ H' => Q .non H', rt := Q } := by
  have f := lp_facts x
  have due_s := fun n => due_small x (n := n)
  have cands_s := cands_small x
  have hnam := x.hn
  have hwor := x.hw
  have huse := x.hu
  unfold t_law_patterns
  unfold LpIn.due at hR
  have hfr := x.fresh
  refine q_asg (k := strsK x.fresh) (en_ek (en_lawFresh (K := K) (used := x.used) (many := x.names.length) (by omega) (by omega) (ek_var rfl) (ek_eq (ek_cb (ea_cons (ek_var rfl) ea_nil) (cr_len (ks := x.names.map sK) rd_list)) (by rw [List.length_map])))) ?_
  obtain ⟨ffl, ffn, ffd, ffo⟩ := f
  generalize x.fresh = fresh at *
  generalize x.words = words at *
  generalize x.names = names at *
  generalize x.used = used at *
  refine q_asg (k := foundK (M8.due words fresh 0)) (en_ek (en_lst (ea_cons (en_ek (en_lst ea_nil (by decide))) ea_nil) (by show 1 ≤ sizeLine; unfold sizeLine; omega))) ?_
  refine q_forN (fun b : Nat => ([some (strsK names), some (strsK words), some (strsK used), some (strsK fresh), some (foundK (M8.due words fresh b)), none, none, none, none, none, none, none], [])) (fun i b => b = i) (ei_list (K := K) (k := iK 0) (ks := names.map sK) (ek_var rfl)) 0 rfl (.keep (.keep (.keep (.keep (.keep (.drop (.drop (.drop (.drop (.drop (.drop (.drop .nil)))))))))))) rfl ?_ ?_
  · rintro B' l i b hi rfl N hN
    rw [List.length_map] at hi
    generalize ((names.map sK)[b]?).getD (iK 0) = kname
    refine q_new' (m := .lst []) (en_lst ea_nil (by decide)) fun a ha => ?_
    refine q_forN (fun m : Nat => ([some (strsK names), some (strsK words), some (strsK used), some (strsK fresh), some (foundK (M8.due words fresh b)), none, some (valK (.ref a)), none, none, none, none, none], [(a, .lst (((((M8.due words fresh b).take m).flatMap (M8.grow words fresh))).map fun p => strsK p))])) (fun i m => m = i) (ei_list (K := K) (k := iK 0) (ks := (M8.due words fresh b).map fun p => strsK p) (en_ek (en_cb (ea_cons (ek_var rfl) ea_nil) (cn_list (K := K) rd_list)))) 0 rfl (.keep (.keep (.keep (.keep (.keep (.drop (.keep (.drop (.drop (.drop (.drop (.drop .nil)))))))))))) rfl ?_ ?_
    · rintro B2 l2 t m ht rfl N2 hN2
      rw [List.length_map] at ht
      have hg : (((M8.due words fresh b).map fun p => strsK p)[m]?).getD (iK 0) = strsK (M8.due words fresh b)[m] := by rw [List.getElem?_map, List.getElem?_eq_getElem ht]; rfl
      rw [hg]
      have etake := take_snoc ht
      have hpl := M8.due_mem_len b _ (List.getElem_mem ht)
      have hbase : (((M8.due words fresh b).take m).flatMap (M8.grow words fresh)).length ≤ 10 * 9 ^ 6 := by
        refine Nat.le_trans (flat_len _ 10 _ fun p _ => ?_) (Nat.mul_le_mul_left 10 ?_)
        · unfold M8.grow; rw [List.length_map]; exact cands_s p
        · rw [List.length_take]; have := due_s b (by omega); omega
      generalize (M8.due words fresh b)[m] = picked at etake hpl ⊢
      refine q_asg (k := strsK (fresh.filter fun z => decide (z ∈ picked))) (en_ek (en_lcF sK sK (fun z => decide (z ∈ picked)) fresh (ek_var rfl) (by unfold sizeLine; omega) fun z hz => ⟨et_test (ek_op (ek_var rfl) (ek_var rfl) (rk_inS rd_list)), fun _ => ek_var rfl⟩)) ?_
      have hfl : (fresh.filter fun z => decide (z ∈ picked)).length ≤ fresh.length := List.length_filter_le _ _
      refine s_forN (fun j : Nat => ([some (strsK names), some (strsK words), some (strsK used), some (strsK fresh), some (foundK (M8.due words fresh b)), none, some (valK (.ref a)), some (strsK picked), none, none, none, none], [(a, .lst (((((M8.due words fresh b).take m).flatMap (M8.grow words fresh)) ++ ((M8.cands words fresh picked).take j).map fun z => picked ++ [z]).map fun p => strsK p))])) (fun i j => j = i) (ei_list (K := K) (k := iK 0) (ks := (M8.cands words fresh picked).map sK) (ek_eq (en_ek (en_op (ek_var rfl) (en_ek (en_slL (K := K) (ks := fresh.map sK) rd_list (ek_var rfl) eo_none (eo_some (i := (((fresh.filter fun z => decide (z ∈ picked)).length + 1 : Nat) : Int)) (ek_eq (ek_op (ek_cb (ea_cons (ek_var rfl) ea_nil) (cr_len (ks := (fresh.filter fun z => decide (z ∈ picked)).map sK) rd_list)) ek_c rk_I0) (by rw [List.length_map]; rfl))))) (rn_cat rd_list rd_list (by rw [cutK_take, List.length_take, List.length_map, List.length_map]; unfold sizeLine; omega)))) (by rw [cutK_take, ← List.map_take, ← List.map_append]; rfl))) 0 rfl (.keep (.keep (.keep (.keep (.keep (.drop (.keep (.keep (.drop (.drop (.drop (.drop .nil)))))))))))) (by rw [List.take_zero, List.map_nil, List.append_nil]) ?_ ?_
      · rintro B3 l3 u j hu rfl N3 hN3
        rw [List.length_map] at hu
        have hg : (((M8.cands words fresh picked).map sK)[j]?).getD (iK 0) = sK (M8.cands words fresh picked)[j] := by rw [List.getElem?_map, List.getElem?_eq_getElem hu]; rfl
        rw [hg]
        have etk := take_snoc hu
        have hcs := cands_s picked
        refine s_app (k := strsK (picked ++ [(M8.cands words fresh picked)[j]])) 0 rfl (ek_var rfl) (ek_eq (en_ek (en_op (ek_var rfl) (en_ek (en_lst (ea_cons (ek_var rfl) ea_nil) (by show 1 ≤ sizeLine; unfold sizeLine; omega))) (rn_cat (ks := picked.map sK) rd_list rd_list (by rw [List.length_map]; show _ + 1 ≤ sizeLine; unfold sizeLine; omega)))) (by rw [show [sK (M8.cands words fresh picked)[j]] = [(M8.cands words fresh picked)[j]].map sK from rfl, ← List.map_append])) (by rw [List.length_map, List.length_append, List.length_map, List.length_take]; unfold sizeLine; omega) ?_
        have := hN3 (j + 1) rfl
        have e9 : ∀ A : List (List Str), A ++ ((M8.cands words fresh picked).take (j + 1)).map (fun z => picked ++ [z]) = (A ++ ((M8.cands words fresh picked).take j).map fun z => picked ++ [z]) ++ [picked ++ [(M8.cands words fresh picked)[j]]] := fun A => by
          rw [etk, List.map_append, ← List.append_assoc]
          rfl
        rw [e9, List.map_append] at this
        exact to_weak (.keep (.keep (.keep (.keep (.keep (.drop (.keep (.keep (.drop (.drop (.drop (.drop .nil)))))))))))) this
      · rintro j hj
        rw [List.length_map] at hj
        subst hj
        have := hN2 (m + 1) rfl
        rw [etake, List.flatMap_append, List.flatMap_cons, List.flatMap_nil, List.append_nil] at this
        rw [List.take_length]
        exact to_weak (.keep (.keep (.keep (.keep (.keep (.drop (.keep (.drop (.drop (.drop (.drop (.drop .nil)))))))))))) this
    · rintro m hm
      rw [List.length_map] at hm
      subst hm
      rw [List.take_length]
      refine s_asg (k := valK (.ref a)) (ek_var rfl) ?_
      refine to_freeze (i := 4) rfl ha ?_
      exact to_weak (.keep (.keep (.keep (.keep (.keep (.drop (.drop (.drop (.drop (.drop (.drop (.drop .nil)))))))))))) (hN (b + 1) rfl)
  · rintro b hb
    rw [List.length_map] at hb
    subst hb
    have hdl : ∀ p ∈ M8.due words fresh names.length, p.length = names.length := M8.due_mem_len _
    have hds := due_s names.length (Nat.le_refl _)
    generalize M8.due words fresh names.length = due at hR hdl hds ⊢
    refine q_new (m := .lst []) (en_lst ea_nil (by decide)) fun a => ?_
    refine q_forN (fun m : Nat => ([some (strsK names), some (strsK words), some (strsK used), some (strsK fresh), some (foundK due), none, none, none, none, none, some (valK (.ref a)), none], [(a, .lst ((due.take m).map fun p => rowKn K (names.zip p)))])) (fun i m => m = i) (ei_list (K := K) (k := iK 0) (ks := due.map fun p => strsK p) (ek_var rfl)) 0 rfl (.keep (.keep (.keep (.keep (.keep (.drop (.drop (.drop (.drop (.drop (.keep (.drop .nil)))))))))))) rfl ?_ ?_
    · rintro B2 l2 t m ht rfl N2 hN2
      rw [List.length_map] at ht
      have hg : ((due.map fun p => strsK p)[m]?).getD (iK 0) = strsK due[m] := by rw [List.getElem?_map, List.getElem?_eq_getElem ht]; rfl
      rw [hg]
      have etake := take_snoc ht
      have hpl := hdl _ (List.getElem_mem ht)
      generalize due[m] = p at etake hpl ⊢
      refine s_app (k := rowKn K (names.zip p)) 0 rfl (ek_var rfl) (ek_eq (en_ek (en_lc (fun _ => true) (fun i => pairKn K ((names[i]?).getD Str.empty, (p[i]?).getD Str.empty)) (ei_enumL (K := K) (d := iK 0) (ks := names.map sK) (ek_var rfl)) (by rw [List.length_map]; unfold sizeLine; omega) (gw_pair (K := K)) (fun i hi => ⟨_, gk_pair, et_yes, fun _ => ?_⟩))) ?_) (by rw [List.length_map, List.length_take]; unfold sizeLine; omega) ?_
      · rw [List.length_map] at hi
        have h1 : ((names.map sK)[i]?).getD (iK 0) = sK ((names[i]?).getD Str.empty) := by rw [List.getElem?_map, List.getElem?_eq_getElem hi]; rfl
        rw [h1]
        have h2 : (p.map sK)[i]? = some (sK ((p[i]?).getD Str.empty)) := by rw [List.getElem?_map, List.getElem?_eq_getElem (by omega)]; rfl
        exact ek_tup (ea_cons (ek_var rfl) (ea_cons (ek_op (ek_var rfl) (ek_var rfl) (rk_ix_of (rk_ixL (ks := p.map sK) (i := (i : Int)) (j := i) rd_list (by rw [List.length_map]; exact ixN_nat (by omega)) h2))) ea_nil)) (by show 2 ≤ sizeLine; unfold sizeLine; omega)
      · rw [outs_all, List.length_map, zip_range (K := K) hpl (iK 0)]
        rfl
      · have := hN2 (m + 1) rfl
        rw [etake, List.map_append] at this
        exact to_weak (.keep (.keep (.keep (.keep (.keep (.drop (.drop (.drop (.drop (.drop (.keep (.drop .nil)))))))))))) this
    · rintro m hm
      rw [List.length_map] at hm
      subst hm
      refine s_retO' rfl hR (ek_var rfl) List.mem_cons_self fun o G H h1 h2 h3 h4 => ?_
      rw [List.take_length] at h4
      exact ⟨a, o, rfl, h1, h2, h3, h4⟩
end
end K8
end
section
set_option maxRecDepth 100000
set_option maxHeartbeats 1000000
namespace K8
open PySem L2 Dl
local macro_rules | `(tactic| k_extra "mod") => `(tactic| first | (show (0 : Int) < _; decide) | (show (0 : Int) < _; omega) | assumption)
local macro_rules | `(tactic| k_extra "mul") => `(tactic| (show CMul _ _; first | exact .inr ⟨by decide, by decide⟩ | exact .inl ⟨by decide, by decide⟩ | exact .inr ⟨by omega, by omega⟩ | exact .inl ⟨by omega, by omega⟩))
local macro_rules | `(tactic| k_extra "side") => `(tactic| first | k_extra "mod" | k_extra "mul" | (show CDiv _ _; exact ⟨by first | decide | omega, by first | decide | omega⟩) | (show CPow _ _; exact ⟨by decide, by decide, by decide⟩))
local macro_rules | `(tactic| k_extra "rk") => `(tactic| first
  | (with_reducible exact rk_I0)
  | ((with_reducible apply rk_I); k_extra "side")
  | ((with_reducible apply rk_eq); exact rfl)
  | ((with_reducible apply rk_ne); exact rfl))
local macro_rules | `(tactic| k_extra "cr") => `(tactic| first
  | (with_reducible exact cr_int1) | (with_reducible exact cr_abs1) | ((with_reducible apply cr_len); first | exact rd_list | exact rd_at) | ((with_reducible apply cr_lenS); first | decide | assumption))
local macro_rules | `(tactic| k_extra "ev") => `(tactic| first
  | (with_reducible exact ek_c)
  | ((with_reducible apply ek_var); exact rfl)
  | ((with_reducible apply ek_op); k_extra "ev"; k_extra "ev"; k_extra "rk")
  | ((with_reducible apply ek_cb); (with_reducible apply ea_cons); k_extra "ev"; (with_reducible exact ea_nil); k_extra "cr"))
section
variable {K : PySem.W.Frag}
theorem s_retPool {B : Bs} {δ : Dl.Env} {D : Ends} {cs : List Int} (h0 : 0 < cs.length) (hc : ∀ x ∈ cs, 0 ≤ x) (hi : δ[1]? = some (some (intsK cs)))
    (hR : Rt F0 B (fun v G' H' => ∃ pl : Pl, v = .ref pl.p ∧ B.H0 pl.l = none ∧ B.H0 pl.t = none ∧ PoolJ pl G' H') D.rt) :
    Tr F0 B δ [] (tRet (tLst (tCons (tVar 1) (tCons (tCB (rListQ K) (tCons (tVar 1) tNil)) (tCons (tLst (tCons (tC (.int 0)) tNil)) tNil))))) D := fun σ H ⟨G, z⟩ => by
  obtain ⟨v, hv, c, vs, rfl, hc', r⟩ := z.st.env.get hi
  have e := allK_val r
  subst e
  refine ⟨_, hv, ?_⟩
  have hl : EN F0 (tCB (rListQ K) (tCons (tVar 1) tNil)) δ [] (.lst (cs.map iK)) := en_cb (ea_cons (ek_var hi) ea_nil) (cn_list rd_list)
  refine hl G H σ z.st _ fun l ol G1 H1 h1 h2 hp h3 h4 g1 j1 => ?_
  have z1 := z.join h1 h2 hp h3 h4 g1 j1
  have ht : EN F0 (tLst (tCons (tC (.int 0)) tNil)) δ [(l, .lst (cs.map iK))] (.lst [iK 0]) := en_lst (ea_cons ek_c ea_nil) (by show 1 ≤ sizeLine; unfold sizeLine; omega)
  refine ht G1 H1 σ z1.st _ fun t ot G2 H2 k1 k2 kp k3 k4 g2 j2 => ?_
  have z2 := z1.join k1 k2 kp k3 k4 g2 j2
  refine ⟨by show 3 ≤ sizeLine; unfold sizeLine; omega, fun p hpn => ?_⟩
  obtain ⟨l1, _, o1, l3, vs1, l4, l5⟩ := z2.st.own.has l _ (List.mem_cons_of_mem _ List.mem_cons_self)
  obtain ⟨t1, _, o2, t3, vs2, t4, t5⟩ := z2.st.own.has t _ List.mem_cons_self
  subst l4 t4
  have q1 := allK_val l5
  subst q1
  have q2 : vs2 = [.int 0] := allK_val (xs := [(0 : Int)]) (f := V.int) t5
  subst q2
  have np : ∀ b o, H2 b = some o → b ≠ p := fun b o e q => by rw [q, hpn] at e; cases e
  have gc : G2 c = some (.lst (cs.map V.int)) := (g1.gg.trans g2.gg) _ _ hc'
  refine hR (.ref p) (upd G2 p _) (upd H2 p _) (z2.gr.trans (Gr.new z2.st.sub hpn)) trivial ⟨⟨p, c, l, t⟩, rfl, back_none z.gr h1, back_none z1.gr k1, fun e => ?_, upd_same, ?_, ?_, cs, cs, 0, ⟨h0, rfl, hc, hc, Int.le_refl 0⟩, ?_, ?_, ?_⟩
  · have e : l = t := e
    rw [e] at h3
    rw [h3] at k1
    cases k1
  · show upd G2 p _ l = none
    rw [upd_ne (np l _ l3)]; exact l1
  · show upd G2 p _ t = none
    rw [upd_ne (np t _ t3)]; exact t1
  · show upd G2 p _ c = _
    rw [upd_ne (np c _ (z2.st.sub _ _ gc))]; exact gc
  · show upd H2 p _ l = _
    rw [upd_ne (np l _ l3)]; exact l3
  · show upd H2 p _ t = _
    rw [upd_ne (np t _ t3)]; exact t3
theorem r_law_pool (x : ScIn) (G0 H0 : Hp) (Q : VK) (hR : Rt F0 ⟨F0.P, G0, H0⟩ ((fun H v G' H' => ∃ pl : Pl, v = .ref pl.p ∧ H pl.l = none ∧ H pl.t = none ∧ PoolJ pl G' H') H0) Q) :
    Tr F0 ⟨F0.P, G0, H0⟩ (env0 [seqK K (x.ns.map iK)] 2) [] (t_law_pool K) { nx := fun _ H' => Q .non H', rt := Q } := by
  obtain ⟨ns, hns⟩ := x
  simp only at hR ⊢
  unfold t_law_pool
  have hpos : (0 : Int) < 1 * 2 ^ (6000 : Int).toNat := by
    rw [Int.one_mul]; exact Int.pow_pos (by decide)
  refine q_asg (k := intsK ((ns.take 63).map fun z => (if z < 0 then -z else z) % (1 * 2 ^ (6000 : Int).toNat))) (ek_eq (en_ek (en_lcM iK (fun z => iK ((if z < 0 then -z else z) % (1 * 2 ^ (6000 : Int).toNat))) (ns.take 63) (ek_eq (en_ek (en_slQ (K := K) (ks := ns.map iK) (ek_var rfl) eo_none (eo_some ek_c))) (by rw [show (63 : Int) = ((63 : Nat) : Int) from rfl, cutK_take, ← List.map_take])) (by rw [List.length_take]; unfold sizeLine; omega) fun z hz => ek_op (ek_cb (ea_cons (ek_cb (ea_cons (ek_var rfl) ea_nil) cr_abs1) ea_nil) cr_int1) (ek_op ek_c ek_c (rk_I ⟨by decide, by decide, by decide⟩)) (rk_I hpos))) (by show _ = listK (List.map iK (List.map _ _)); rw [List.map_map]; rfl)) ?_
  have hnn : ∀ y ∈ (ns.take 63).map (fun z => (if z < 0 then -z else z) % (1 * 2 ^ (6000 : Int).toNat)), 0 ≤ y := fun y hy => by
    obtain ⟨z, _, rfl⟩ := List.mem_map.mp hy
    exact Int.emod_nonneg _ (by omega)
  generalize (ns.take 63).map (fun z => (if z < 0 then -z else z) % (1 * 2 ^ (6000 : Int).toNat)) = cs at hnn
  have hsh : Shp (.list (cs.map .int)) 1 := shp_list fun z _ => shp_int
  have hemp : Shp (.list (([] : List Int).map .int)) 1 := shp_list fun z _ => shp_int
  refine q_whenAsg (k := intsK [0]) (P := (· = PyData.eqv (.list (cs.map .int)) (.list (([] : List Int).map .int)))) (et_test (ek_op (ek_var rfl) (en_ek (en_lst ea_nil (by decide))) (rk_eqD isd_ints (isd_ints (xs := [])) hsh.shaped hemp.shaped))) (fun _ => en_ek (en_lst (ea_cons ek_c ea_nil) (by show 1 ≤ sizeLine; unfold sizeLine; omega))) (fun h => ?_) (fun h => ?_)
  · exact s_retPool (K := K) (cs := [0]) (by decide) (by simp) rfl hR
  · refine s_retPool (K := K) (cs := cs) ?_ hnn rfl hR
    cases cs with
    | nil => exact absurd h (by rw [hemp.refl]; decide)
    | cons c cs => exact Nat.succ_pos _
end
end K8
end
section
set_option maxRecDepth 100000
set_option maxHeartbeats 1000000
namespace K8
open PySem L2 Dl
local macro_rules | `(tactic| k_extra "mod") => `(tactic| first | (show (0 : Int) < _; decide) | (show (0 : Int) < _; omega) | assumption)
local macro_rules | `(tactic| k_extra "mul") => `(tactic| (show CMul _ _; first | exact .inr ⟨by decide, by decide⟩ | exact .inl ⟨by decide, by decide⟩ | exact .inr ⟨by omega, by omega⟩ | exact .inl ⟨by omega, by omega⟩))
local macro_rules | `(tactic| k_extra "side") => `(tactic| first | k_extra "mod" | k_extra "mul" | (show CDiv _ _; exact ⟨by first | decide | omega, by first | decide | omega⟩) | (show CPow _ _; exact ⟨by decide, by decide, by decide⟩))
local macro_rules | `(tactic| k_extra "rk") => `(tactic| first
  | (with_reducible exact rk_I0)
  | ((with_reducible apply rk_I); k_extra "side")
  | ((with_reducible apply rk_eq); exact rfl)
  | ((with_reducible apply rk_ne); exact rfl))
local macro_rules | `(tactic| k_extra "cr") => `(tactic| first
  | (with_reducible exact cr_int1) | (with_reducible exact cr_abs1) | ((with_reducible apply cr_len); first | exact rd_list | exact rd_at) | ((with_reducible apply cr_lenS); first | decide | assumption))
local macro_rules | `(tactic| k_extra "ev") => `(tactic| first
  | (with_reducible exact ek_c)
  | ((with_reducible apply ek_var); exact rfl)
  | ((with_reducible apply ek_op); k_extra "ev"; k_extra "ev"; k_extra "rk")
  | ((with_reducible apply ek_cb); (with_reducible apply ea_cons); k_extra "ev"; (with_reducible exact ea_nil); k_extra "cr"))
section
variable {K : PySem.W.Frag}
abbrev RestOk (signs z : Str) : Prop := z.length = 7 ∧ ∀ c ∈ TL.tl z, c ∈ TL.tl signs
theorem joinL_one : ∀ cs : List Nat, TL.joinL [] (cs.map fun c => [c]) = cs
  | [] => rfl
  | [c] => rfl
  | c :: d :: cs => by
    show [c] ++ [] ++ TL.joinL [] ((d :: cs).map fun c => [c]) = _
    rw [joinL_one (d :: cs)]
    rfl
theorem join_signs (cs : List Nat) : TL.tl (Txt.join "" (cs.map fun c => (⟨#[c]⟩ : Str))) = cs := by
  rw [TL.join_eq, TL.tl_join, List.map_map]
  have e : TL.tl ("" : Str) = [] := by decide +kernel
  rw [e]
  exact joinL_one cs
section
variable {δ : Dl.Env} {μ : Mu} {pl : Pl}
theorem ek_rest {signs : Str} {j : Nat} (hs0 : 0 < signs.length) (hs1 : signs.length ≤ 1000000) (h0 : ∀ i : Int, ((wipeE δ [j]).set j (some (iK i)))[0]? = some (some (poolK pl))) (h2 : ∀ i : Int, ((wipeE δ [j]).set j (some (iK i)))[2]? = some (some (sK signs))) :
    Ek (FP pl) (tM1 (rJoinQ K) (tC (.str "")) (tLc (iRng1 (tCons (tC (.int 7)) tNil)) (gName j) tYes (tCall (sp_law_one_of K) [] E0 (tCons (tVar 0) (tCons (tVar 2) tNil))) [j])) δ μ (exK fun z : {z : Str // RestOk signs z} => sK z.1) := by
  have h1 := ek_lcDrawn (F := FP pl) (δ := δ) (μ := μ) (ta := tCons (tC (.int 7)) tNil) (j := j) (n := 7) (S := fun c : {c : Nat // c ∈ TL.tl signs} => sK ⟨#[c.1]⟩) (ea_cons ek_c ea_nil) (by decide) (fun i hi => ek_oneC (K := K) (z := signs) (ek_var (h0 i)) (ek_var (h2 i)) hs0 hs1)
  have h3 : Ek (FP pl) (tLc (iRng1 (tCons (tC (.int 7)) tNil)) (gName j) tYes (tCall (sp_law_one_of K) [] E0 (tCons (tVar 0) (tCons (tVar 2) tNil))) [j]) δ μ (exK fun xs : {xs : List {c : Nat // c ∈ TL.tl signs} // xs.length = 7} => strsK (xs.1.map fun c => ⟨#[c.1]⟩)) := ek_weak h1 fun v G ⟨xs, p⟩ => ⟨xs, by
    show (listK (List.map sK (List.map _ xs.1))).p v G
    rw [List.map_map]; exact p⟩
  refine ek_weak (ek_joinx ek_c h3 fun xs => ?_) fun v G ⟨xs, p⟩ => ⟨⟨_, ?_, ?_⟩, p⟩
  · have e1 : ("" : Str).length = 0 := by decide
    have e2 : ((xs.1.map fun c => (⟨#[c.1]⟩ : Str)).map (·.length)).sum = xs.1.length := by
      generalize xs.1 = l
      induction l with
      | nil => rfl
      | cons a l ih => rw [List.map_cons, List.map_cons, List.sum_cons, ih, List.length_cons]; show 1 + _ = _; omega
    rw [e2, e1, Nat.mul_zero, xs.2]; decide
  · have e := join_signs (xs.1.map (·.1))
    rw [List.map_map] at e
    rw [TL.len_tl]
    exact (congrArg List.length e).trans (by rw [List.length_map, xs.2])
  · have e := join_signs (xs.1.map (·.1))
    rw [List.map_map] at e
    intro c hc
    have e' : TL.tl (Txt.join "" (xs.1.map fun c => (⟨#[c.1]⟩ : Str))) = xs.1.map (·.1) := e
    have hc : c ∈ xs.1.map (·.1) := by rw [← e']; exact hc
    obtain ⟨d, _, rfl⟩ := List.mem_map.mp hc
    exact d.2
end
/-- the place in the alphabet of the i-th name's own sign -/
def ownAt (s t : Int) (i : Nat) : Nat := ((s + (i : Int) * t) % 36).toNat
theorem own_inj {s t : Int} (ht : t ∈ ([1, 5, 7, 11, 17, 19, 23, 25] : List Int)) {i j : Nat} (hi : i < 36) (hj : j < 36) (h : ownAt s t i = ownAt s t j) : i = j := by
  unfold ownAt at h
  have h1 : (s + (i : Int) * t) % 36 = (s + (j : Int) * t) % 36 := by
    have a1 := Int.emod_nonneg (s + (i : Int) * t) (show (36 : Int) ≠ 0 by decide)
    have a2 := Int.emod_nonneg (s + (j : Int) * t) (show (36 : Int) ≠ 0 by decide)
    omega
  simp only [List.mem_cons, List.not_mem_nil, or_false] at ht
  rcases ht with rfl | rfl | rfl | rfl | rfl | rfl | rfl | rfl <;> omega
theorem own_lt (s t : Int) (i : Nat) : ownAt s t i < 36 := by
  unfold ownAt
  have := Int.emod_lt_of_pos (s + (i : Int) * t) (show (0 : Int) < 36 by decide)
  omega
structure NameAt (signs : Str) (p : Nat) (s t : Int) (i : Nat) (y : Str) : Prop where
  sz : (TL.tl y).length ≤ 8
  cs : ∀ c ∈ TL.tl y, c ∈ TL.tl signs
  own : (TL.tl y)[p]? = (TL.tl signs)[ownAt s t i]?
theorem name_at {signs z : Str} {p : Nat} {s t sz : Int} {i c : Nat} (hp : p ≤ 2) (hz : RestOk signs z) (hc : (TL.tl signs)[ownAt s t i]? = some c) (hsz : (p : Int) + 1 ≤ sz) :
    NameAt signs p s t i ((cutS z none (some (p : Int)) ++ ⟨#[c]⟩) ++ cutS z (some (p : Int)) (some (sz - 1))) := by
  obtain ⟨hz1, hz2⟩ := hz
  obtain ⟨q, hq⟩ : ∃ q : Nat, sz - 1 = (q : Int) := ⟨(sz - 1).toNat, by omega⟩
  have e : TL.tl ((cutS z none (some (p : Int)) ++ ⟨#[c]⟩) ++ cutS z (some (p : Int)) (some (sz - 1))) = ((TL.tl z).take p ++ [c]) ++ ((TL.tl z).drop p).take (min q 7 - p) := by
    have c1 : TL.tl (cutS z none (some (p : Int))) = (TL.tl z).take p := by
      unfold cutS
      rw [TL.tl_mk, HT.sIx_nat, sIx_none, hz1, List.drop_zero, Nat.sub_zero, Nat.min_eq_left (by omega : p ≤ 7)]
    have c2 : TL.tl (cutS z (some (p : Int)) (some (q : Int))) = ((TL.tl z).drop p).take (min q 7 - p) := by
      unfold cutS
      rw [TL.tl_mk, HT.sIx_nat, HT.sIx_nat, hz1, Nat.min_eq_left (by omega : p ≤ 7)]
    rw [TL.tl_append, TL.tl_append, hq, c1, c2]
  rw [TL.len_tl] at hz1
  refine ⟨?_, ?_, ?_⟩
  · rw [e, List.length_append, List.length_append, List.length_take, List.length_take, List.length_drop, hz1]
    show _ + 1 + _ ≤ 8
    omega
  · rw [e]
    intro d hd
    rcases List.mem_append.mp hd with hd | hd
    · rcases List.mem_append.mp hd with hd | hd
      · exact hz2 d (List.mem_of_mem_take hd)
      · rw [List.mem_singleton.mp hd]; exact List.mem_of_getElem? hc
    · exact hz2 d (List.mem_of_mem_drop (List.mem_of_mem_take hd))
  · have e5 : ((TL.tl z).take p).length = p := by rw [List.length_take, hz1]; omega
    rw [e, hc, List.append_assoc, List.getElem?_append_right (by rw [e5]; exact Nat.le_refl _), e5, Nat.sub_self]
    rfl
structure NSt (signs : Str) (p : Nat) (s t : Int) (i : Nat) (b : List Str × Str) : Prop where
  z : RestOk signs b.2
  len : b.1.length = i
  at_ : ∀ j y, b.1[j]? = some y → NameAt signs p s t j y
theorem names_ok {signs : Str} {p : Nat} {s t : Int} {n : Nat} {b : List Str × Str} (ht : t ∈ ([1, 5, 7, 11, 17, 19, 23, 25] : List Int)) (hs : signs.length = 36) (nd : signs.cps.toList.Nodup) (ok : PyData.strOk signs = true) (hn : n ≤ 36) (h : NSt signs p s t n b) : NamesOk n b.1 := by
  refine ⟨h.len, ?_, ?_⟩
  · rw [List.Nodup, List.pairwise_iff_getElem]
    intro i j hi hj hij e
    have a1 := (h.at_ i _ (List.getElem?_eq_getElem hi)).own
    have a2 := (h.at_ j _ (List.getElem?_eq_getElem hj)).own
    rw [e, a2] at a1
    have hl := h.len
    have hsl : (TL.tl signs).length = 36 := by rw [← TL.len_tl]; exact hs
    have k1 := own_lt s t i
    have k2 := own_lt s t j
    rw [List.getElem?_eq_getElem (by omega), List.getElem?_eq_getElem (by omega)] at a1
    have := (List.getElem_inj nd).mp (Option.some.inj a1)
    have := own_inj ht (by omega) (by omega) this
    omega
  · intro x hx
    obtain ⟨j, hj⟩ := List.getElem?_of_mem hx
    have a := h.at_ j x hj
    exact ⟨strOk_iff.mpr fun c hc => strOk_iff.mp ok c (a.cs c hc), by rw [TL.len_tl]; have := a.sz; omega⟩
theorem r_law_names (x : NaIn) (G0 H0 : Hp) (Q : VK) (hR : Rt (FP x.pl) ⟨(FP x.pl).P, G0, H0⟩ ((fun H v G' H' => ∃ xs, NamesOk x.many xs ∧ pN (.lst (xs.map sK)) H v G' H') H0) Q) :
    Tr (FP x.pl) ⟨(FP x.pl).P, G0, H0⟩ (env0 [poolK x.pl, iK (x.many : Int), sK x.signs] 10) [] (t_law_names K) { nx := fun _ H' => Q .non H', rt := Q } := by
  obtain ⟨pl, many, signs, hm, hs, nd, ok⟩ := x
  simp only at hR ⊢
  unfold t_law_names
  have hs0 : 0 < signs.length := by omega
  have hs1 : signs.length ≤ 1000000 := by omega
  have hsz : signs.length ≤ sizeLine := by unfold sizeLine; omega
  refine q_asgx (ek_pick (K := K) (many := 3) (ek_var rfl) ek_c (by omega)) fun rp => ?_
  obtain ⟨p, ep, hp⟩ : ∃ p : Nat, rp.1 = (p : Int) ∧ p ≤ 2 := by
    have h := rp.2
    unfold Drawn at h
    exact ⟨rp.1.toNat, by omega, by omega⟩
  rw [ep]
  refine q_asgx (ek_pick (K := K) (many := (signs.length : Int)) (ek_var rfl) (ek_cb (ea_cons (ek_var rfl) ea_nil) (cr_lenS hsz)) (by omega)) fun rs => ?_
  obtain ⟨s, es, hs2, hs3⟩ : ∃ s : Int, rs.1 = s ∧ 0 ≤ s ∧ s < 36 := by
    have h := rs.2
    unfold Drawn at h
    exact ⟨rs.1, rfl, by omega, by omega⟩
  rw [es]
  refine q_asgx (ek_oneI (K := K) (xs := [1, 5, 7, 11, 17, 19, 23, 25]) (ek_var rfl) (en_ek (en_lst (ea_cons ek_c (ea_cons ek_c (ea_cons ek_c (ea_cons ek_c (ea_cons ek_c (ea_cons ek_c (ea_cons ek_c (ea_cons ek_c ea_nil)))))))) (by decide))) (by decide) (by decide)) fun rt => ?_
  obtain ⟨t, ht⟩ := rt
  simp only
  have ht0 : 1 ≤ t ∧ t ≤ 25 := by
    simp only [List.mem_cons, List.not_mem_nil, or_false] at ht
    rcases ht with rfl | rfl | rfl | rfl | rfl | rfl | rfl | rfl <;> omega
  refine q_asgx (ek_drawEq (ek_pick (K := K) (many := 2) (ek_var rfl) ek_c (by omega))) fun alike => ?_
  refine q_asgx (ek_rest (K := K) (signs := signs) hs0 hs1 (fun _ => rfl) (fun _ => rfl)) fun z0 => ?_
  refine q_new (m := .lst []) (en_lst ea_nil (by decide)) fun a => ?_
  refine q_forN (fun b : List Str × Str => ([some (poolK pl), some (iK (many : Int)), some (sK signs), some (iK (p : Int)), some (iK s), some (iK t), some (bK alike), some (sK b.2), none, some (valK (.ref a)), none, none, none], [(a, .lst (b.1.map sK))])) (fun i b => NSt signs p s t i b) (ei_rng1 (n := (many : Int)) (ea_cons (ek_var rfl) ea_nil) (by omega) (by omega)) ([], z0.1) ⟨z0.2, rfl, fun j y h => by simp at h⟩ (.keep (.keep (.keep (.keep (.keep (.keep (.keep (.keep (.drop (.keep (.drop (.drop (.drop .nil))))))))))))) rfl ?_ ?_
  · rintro B' l i ⟨xs, z⟩ hi hC N hN
    have hi : i < 36 := by omega
    obtain ⟨hz, hlen, hat⟩ := hC
    simp only at hz hlen hat
    refine q_asgx (ek_op (ek_op (ek_var rfl) ek_c rk_I0) (ek_pick (K := K) (many := 3 - (p : Int)) (ek_var rfl) (ek_op ek_c (ek_var rfl) rk_I0) (by omega)) (rk_exr fun r => rk_I0)) fun rz => ?_
    have hrz := rz.2
    unfold Drawn at hrz
    -- the rest of the turn, for any size and any rest
    have key : ∀ (sz : Int) (z' : Str), (p : Int) + 1 ≤ sz → sz ≤ 8 → RestOk signs z' → Tr (FP pl) B' [some (poolK pl), some (iK (many : Int)), some (sK signs), some (iK (p : Int)), some (iK s), some (iK t), some (bK alike), some (sK z'), some (iK (i : Int)), some (valK (.ref a)), some (iK sz), none, none] [(a, .lst (xs.map sK))]
        (tSeq (tAsg (tOp rIxS (tVar 2) (tOp (rI (fun _ j => 0 < j) fun i j => .int (i % j)) (tCB rInt (tCons (tOp (rI0 fun i j => .int (i + j)) (tVar 4) (tOp (rI CMul fun i j => .int (i * j)) (tVar 8) (tVar 5))) tNil)) (tCB rLenS (tCons (tVar 2) tNil)))) (gName 12))
      (tDrop (tBM K "list" rAppend (tVar 9) (tCons (tOp rAddStr (tOp rAddStr (tSl rSlS (tVar 7) tNoPart (tPart (tVar 3))) (tVar 12)) (tSl rSlS (tVar 7) (tPart (tVar 3)) (tPart (tOp (rI0 fun i j => .int (i - j)) (tVar 10) (tC (.int 1)))))) tNil)))) { nx := N, rt := Q, ct := N, bk := (tRet (tVar 9)) { nx := fun _ H' => Q .non H', rt := Q } } := by
      intro sz z' h1 h2 hz'
      have hix : ownAt s t i < signs.cps.toList.length := by have := own_lt s t i; rw [Array.length_toList]; show _ < signs.length; omega
      have hc : (TL.tl signs)[ownAt s t i]? = some (signs.cps.toList[ownAt s t i]) := List.getElem?_eq_getElem hix
      have e36 : (signs.length : Int) = 36 := by omega
      have hat2 : atI signs.cps.toList ((s + (i : Int) * t) % (signs.length : Int)) = some (signs.cps.toList[ownAt s t i]) := by
        rw [e36]
        have h3 := Int.emod_nonneg (s + (i : Int) * t) (show (36 : Int) ≠ 0 by decide)
        have h4 := Int.emod_lt_of_pos (s + (i : Int) * t) (show (0 : Int) < 36 by decide)
        have e : ixN signs.cps.toList.length ((s + (i : Int) * t) % 36) = some (ownAt s t i) := ixN_int h3 (by rw [Array.length_toList]; show _ < (signs.length : Int); omega)
        unfold atI
        rw [e]
        exact hc
      refine q_asg (k := sK ⟨#[signs.cps.toList[ownAt s t i]]⟩) (ek_op (ek_var rfl) (ek_op (ek_cb (ea_cons (ek_op (ek_var rfl) (ek_op (ek_var rfl) (ek_var rfl) (rk_I (by k_extra "mul"))) rk_I0) ea_nil) cr_int1) (ek_cb (ea_cons (ek_var rfl) ea_nil) (cr_lenS hsz)) (rk_I (by show (0 : Int) < _; omega))) (rk_ixS hsz hat2)) ?_
      generalize hcc : signs.cps.toList[ownAt s t i] = c at hc
      have hz7 := hz'.1
      have l1 := cutS_length z' none (some (p : Int))
      have l2 := cutS_length z' (some (p : Int)) (some (sz - 1))
      have hzs : z'.length ≤ sizeLine := by unfold sizeLine; omega
      have l3 : ((⟨#[c]⟩ : Str)).length = 1 := rfl
      refine s_app (k := sK ((cutS z' none (some (p : Int)) ++ ⟨#[c]⟩) ++ cutS z' (some (p : Int)) (some (sz - 1)))) 0 rfl (ek_var rfl) (ek_op (ek_op (ek_slS (ek_var rfl) eo_none (eo_some (ek_var rfl)) hzs) (ek_var rfl) (rk_strs (by rw [l3]; unfold sizeLine; omega))) (ek_slS (ek_var rfl) (eo_some (ek_var rfl)) (eo_some (ek_op (ek_var rfl) ek_c rk_I0)) hzs) (rk_strs (by
        rw [TL.len_tl, TL.tl_append, List.length_append, ← TL.len_tl, ← TL.len_tl, l3]; unfold sizeLine; omega))) (by rw [List.length_map]; unfold sizeLine; omega) ?_
      have hnm := name_at (sz := sz) hp hz' hc h1
      generalize ((cutS z' none (some (p : Int)) ++ ⟨#[c]⟩) ++ cutS z' (some (p : Int)) (some (sz - 1))) = y at hnm
      have := hN (xs ++ [y], z') ⟨hz', by show (xs ++ [y]).length = _; rw [List.length_append, hlen]; rfl, fun j u hu => by
        have hu : (xs ++ [y])[j]? = some u := hu
        by_cases hj : j < xs.length
        · rw [List.getElem?_append_left hj] at hu
          exact hat j u hu
        · rw [List.getElem?_append_right (by omega)] at hu
          have hj2 : j - xs.length = 0 := by
            have := (List.getElem?_eq_some_iff.mp hu).1
            simp at this; omega
          rw [hj2] at hu
          simp at hu
          subst hu
          have : j = i := by omega
          rw [this]; exact hnm⟩
      simp only [List.map_append] at this
      exact to_weak (.keep (.keep (.keep (.keep (.keep (.keep (.keep (.keep (.drop (.keep (.drop (.drop (.drop .nil))))))))))))) this
    have key2 : ∀ sz : Int, (p : Int) + 1 ≤ sz → sz ≤ 8 → Tr (FP pl) B' [some (poolK pl), some (iK (many : Int)), some (sK signs), some (iK (p : Int)), some (iK s), some (iK t), some (bK alike), some (sK z), some (iK (i : Int)), some (valK (.ref a)), some (iK sz), none, none] [(a, .lst (xs.map sK))] (tSeq (tIfS (tNot (tB (tVar 6))) (tAsg (tM1 (rJoinQ K) (tC (.str "")) (tLc (iRng1 (tCons (tC (.int 7)) tNil)) (gName 11) tYes (tCall (sp_law_one_of K) [] E0 (tCons (tVar 0) (tCons (tVar 2) tNil))) [11])) (gName 7)) tNext)
      (tSeq (tAsg (tOp rIxS (tVar 2) (tOp (rI (fun _ j => 0 < j) fun i j => .int (i % j)) (tCB rInt (tCons (tOp (rI0 fun i j => .int (i + j)) (tVar 4) (tOp (rI CMul fun i j => .int (i * j)) (tVar 8) (tVar 5))) tNil)) (tCB rLenS (tCons (tVar 2) tNil)))) (gName 12))
      (tDrop (tBM K "list" rAppend (tVar 9) (tCons (tOp rAddStr (tOp rAddStr (tSl rSlS (tVar 7) tNoPart (tPart (tVar 3))) (tVar 12)) (tSl rSlS (tVar 7) (tPart (tVar 3)) (tPart (tOp (rI0 fun i j => .int (i - j)) (tVar 10) (tC (.int 1)))))) tNil))))) { nx := N, rt := Q, ct := N, bk := (tRet (tVar 9)) { nx := fun _ H' => Q .non H', rt := Q } } := fun sz h1 h2 =>
      q_when (et_not (et_B (ek_var rfl))) (fun _ => s_asgx (ek_rest (K := K) (signs := signs) hs0 hs1 (fun _ => rfl) (fun _ => rfl)) fun z' => key sz z'.1 h1 h2 z'.2) (fun _ => key sz z h1 h2 hz)
    exact q_whenAsg (k := iK 8) (et_any (ek_drawEq (ek_pick (K := K) (many := 8) (ek_var rfl) ek_c (by omega)))) (fun _ => ek_c) (fun _ => key2 8 (by omega) (by omega)) (fun _ => key2 _ (by omega) (by omega))
  · rintro ⟨xs, z⟩ hC
    have hC : NSt signs p s t many (xs, z) := hC
    exact s_retO' rfl hR (ek_var rfl) List.mem_cons_self fun o G H h1 h2 h3 h4 => ⟨xs, names_ok ht hs nd ok hm hC, a, o, rfl, h1, h2, h3, h4⟩
end
end K8
end
section
set_option maxRecDepth 100000
set_option maxHeartbeats 1000000
/-! A generator def whose consumer does as it likes with what it gets. -/
namespace Gz
open PySem L2 PySem.Spec PyProof.Rows GenW

abbrev Zs := List (Addr × Obj)
/-- the consumer's own objects -/
structure ZOk (za : List Addr) (zs : Zs) (H : Hp) (h : Heap) : Prop where
  ad : zs.map (·.1) = za
  ob : ∀ p ∈ zs, h.get? p.1 = some p.2
  no : ∀ p ∈ zs, H p.1 = none
  nc : ∀ p ∈ zs, ∀ v, p.2.data ≠ .cell v
/-- from a yield (H, s) to the next wake (H', s'); hs: what the generator's call has made -/
structure Wake (P : Program) (w : World) (fs : List Addr) (Hb : Hp) (hb : Heap) (hs za : List Addr) (zs' : Zs) (H : Hp) (s : Shared) (H' : Hp) (s' : Shared) : Prop where
  os : s'.os = s.os
  bare : AllBare s'.gens
  base : Un fs [] Hb H' hb s'.heap
  kp : ∀ b ∈ hs, ∀ o, s.heap.get? b = some o → s'.heap.get? b = some o
  hn : ∀ b ∈ hs, H' b = none
  gr : Same H H'
  hok : HOk P w H' s'.heap
  z : ZOk za zs' H' s'.heap
/-- the generator's context -/
structure Gx (X : Cx) (hs za : List Addr) : Prop where
  ex : X.ex = []
  xe : ∀ e s, ¬ X.xe e s
  lo : X.env.locals ∈ hs
  ce : ∀ x c, X.env.cells.lookup x = some c → c ∈ hs
  pn : ∀ p ∈ X.pn, p.1 ∈ hs
  yg : ∀ b ∈ za, X.s_0.heap.objs.size ≤ b
  of : ∀ b ∈ za, b ∉ hs
theorem woken {X : Cx} {hs za : List Addr} {zs zs' : Zs} {σ : L2.St} {H H' : Hp} {s s' : Shared} (g : Gx X hs za) (I : Inv X zs σ H s) (W : Wake X.prog X.w X.fs X.H_0 X.s_0.heap hs za zs' H s H' s') : Inv X zs' σ H' s' := by
  have cel : ∀ x c, X.env.cells.lookup x = some c → ∀ v, s.heap.IsCell c v → s'.heap.IsCell c v := fun x c e v ⟨o, ho, hd⟩ => ⟨o, W.kp c (g.ce x c e) o ho, hd⟩
  refine ⟨I.ok, W.os.trans I.os, W.bare, by rw [g.ex]; exact W.base, ?_, fun x c e => ?_, W.hn _ g.lo, fun x c e => W.hn _ (g.ce x c e), fun p hp => ?_, W.hok, I.len⟩
  · obtain ⟨m, ⟨o, es, ep, ho, r⟩, hl⟩ := I.loc
    refine ⟨m, ⟨o, es, ep, W.kp _ g.lo o ho, r⟩, fun i x v e1 e2 e3 => ?_⟩
    obtain ⟨u, rv, q⟩ := hl i x v e1 e2 e3
    refine ⟨u, rv, ?_⟩
    rcases q with q | ⟨k, c, e, q⟩
    · exact .inl q
    · exact .inr ⟨k, c, e, cel x c e _ q⟩
  · obtain ⟨v, q⟩ := I.cell x c e
    exact ⟨v, cel x c e v q⟩
  · rcases List.mem_append.mp hp with q | q
    · obtain ⟨h1, h2, h3⟩ := I.pin p (List.mem_append_left _ q)
      exact ⟨W.kp _ (g.pn p q) _ h1, W.hn _ (g.pn p q), h3⟩
    · have hz : p.1 ∈ za := by rw [← W.z.ad]; exact List.mem_map.mpr ⟨p, q, rfl⟩
      refine ⟨W.z.ob p q, W.z.no p q, fun e => g.of _ hz (by rw [e]; exact g.lo), fun hf => ?_, W.z.nc p q⟩
      obtain ⟨_, o, e, _⟩ := I.ok.funs.mem hf
      exact absurd (Nat.lt_of_lt_of_le (Heap.lt_size e) (g.yg _ hz)) (Nat.lt_irrefl _)

/-! ### readings -/
structure YEnds where
  nx : Nat → Hp → L2.St → Hp → Prop
  bk : Nat → Hp → L2.St → Hp → Prop := fun _ _ _ _ => False
  ct : Nat → Hp → L2.St → Hp → Prop := fun _ _ _ _ => False
abbrev TY := YEnds → Nat → Hp → L2.St → Hp → Prop
def YEnds.one (D : YEnds) (i : Nat) (Hw : Hp) : Ends := { nx := D.nx i Hw, rt := fun _ _ => False, bk := D.bk i Hw, ct := D.ct i Hw }
abbrev YV := Nat → V → Hp → Prop
/-- what the consumer knows: i are handed out -/
abbrev KN := Nat → Hp → Zs → Prop
/-- all that stays through a run -/
structure Sit (X : Cx) (hs : List Addr) where
  Yv : YV
  A : Around
  za : List Addr
  Kn : KN
  R : GenEnd
  mono : ∀ i H H' zs, Same H H' → Kn i H zs → Kn i H' zs
  gx : Gx X hs za
variable {X : Cx} {hs : List Addr}
def Sit.Y (S : Sit X hs) : Protocol := fun m _ v s kap => ∃ i x zs σ H, m + 1 + i = sizeLine ∧ RelV x v ∧ Inv X zs σ H s ∧ zs.map (·.1) = S.za ∧ S.Yv i x H ∧ S.Kn i H zs ∧
  ∀ zs' s' H', Wake X.prog X.w X.fs X.H_0 X.s_0.heap hs S.za zs' H s H' s' → S.Kn (i + 1) H' zs' → kap (.send .none) s'
/-- the state amid a run: i are handed out, Hw at the last wake -/
def Mid (S : Sit X hs) (i : Nat) (Hw : Hp) (σ : L2.St) (H : Hp) (s : Shared) : Prop := ∃ zs, zs.map (·.1) = S.za ∧ S.Kn i Hw zs ∧ Inv X zs σ H s
def Aft (S : Sit X hs) (D : YEnds) (i : Nat) (Hw : Hp) (f : Flow) (s : Shared) : Prop :=
  match f with
  | .next => ∃ σ H, Mid S i Hw σ H s ∧ D.nx i Hw σ H
  | .brk => ∃ σ H, Mid S i Hw σ H s ∧ D.bk i Hw σ H
  | .cont => ∃ σ H, Mid S i Hw σ H s ∧ D.ct i Hw σ H
  | .ret _ => False
/-- the frames that the code stands in -/
structure Stand (S : Sit X hs) (c : Code) (fs : List Frame) (gd : Bool → Bool) : Prop where
  over : S.A.over c fs = X.A
  split : splitAtGen fs = none
  guard : fs.any Frame.guarded = false
  gd : gd false = false
abbrev SegY (S : Sit X hs) (m : Nat) (s₀ : Shared) (c : Code) (t : Sem PySem.Fin) (fs : List Frame) (s : Shared) : Prop := Seg (model X.prog X.w) S.A S.R S.Y m s₀ c t fs s
def Then (S : Sit X hs) (c : Code) (fs : List Frame) (K : Flow → Sem PySem.Fin) (D : YEnds) : Prop := ∀ m i Hw s₀ s f, m + i = sizeLine → Aft S D i Hw f s → SegY S m s₀ c (K f) fs s
/-- a block of a generator's body, read as t -/
def YB (X : Cx) (hs : List Addr) (Yv : YV) (st : List Stmt) (t : TY) : Prop :=
  ∀ (S : Sit X hs), S.Yv = Yv → ∀ (c : Code) (fs : List Frame) (gd : Bool → Bool) (lv : List Value → List Value) (K : Flow → Sem PySem.Fin) (J : Value → Sem PySem.Fin) (D : YEnds) (m i : Nat) (Hw : Hp) (s₀ s : Shared) (σ : L2.St) (H : Hp),
    Stand S c fs gd → Then S c fs K D → m + i = sizeLine → Mid S i Hw σ H s → t D i Hw σ H → SegY S m s₀ c ((execs st X.env).wrap K J gd lv) fs s
def YO (X : Cx) (hs : List Addr) (Yv : YV) (st : Stmt) (t : TY) : Prop :=
  ∀ (S : Sit X hs), S.Yv = Yv → ∀ (c : Code) (fs : List Frame) (gd : Bool → Bool) (lv : List Value → List Value) (K : Flow → Sem PySem.Fin) (J : Value → Sem PySem.Fin) (D : YEnds) (m i : Nat) (Hw : Hp) (s₀ s : Shared) (σ : L2.St) (H : Hp),
    Stand S c fs gd → Then S c fs K D → m + i = sizeLine → Mid S i Hw σ H s → t D i Hw σ H → SegY S m s₀ c ((exec st X.env).wrap K J gd lv) fs s
variable {Yv : YV}
def yPlain (t : TS) : TY := fun D i Hw σ H => t (D.one i Hw) σ H
def yNil : TY := fun D i Hw σ H => D.nx i Hw σ H
def ySeq (t u : TY) : TY := fun D i Hw σ H => t { D with nx := fun i' Hw' σ' H' => u D i' Hw' σ' H' } i Hw σ H
def yYield (Yv : YV) (te : TE) : TY := fun D i Hw σ H => i < sizeLine ∧ te σ H fun x H1 => Yv i x H1 ∧ Same Hw H1 ∧ ∀ H2, Same H1 H2 → D.nx (i + 1) H2 σ H2
def yWhile (c : TT) (tb : TY) : TY := fun D i Hw σ H => ∃ W : Nat → Nat → Hp → L2.St → Hp → Prop, (∃ k, W k i Hw σ H) ∧ ∀ k i Hw σ H, W k i Hw σ H →
  c σ H fun b H1 => if b = true then ∃ N : Nat → Hp → L2.St → Hp → Prop, (∀ i' Hw' σ' H', N i' Hw' σ' H' → ∃ k', k' < k ∧ W k' i' Hw' σ' H') ∧ tb { D with nx := N, ct := N, bk := D.nx } i Hw σ H1 else D.nx i Hw σ H1
theorem yo_plain {st : Stmt} {t : TS} (h : PS X st t) : YO X hs Yv st (yPlain t) := by
  intro S hS c fs gd lv K J D m i Hw s₀ s σ H g k hm hM ht
  obtain ⟨zs, hz, hk, I⟩ := hM
  refine seg_wrap ?_
  rw [g.over]
  refine wpAny_mono (h.run zs s σ H (D.one i Hw) I ht) (fun f s' q => k m i Hw s₀ s' f hm ?_) fun x s' hx => absurd hx (S.gx.xe x s')
  cases f with
  | next => obtain ⟨σ', H', I', q⟩ := q; exact ⟨σ', H', ⟨zs, hz, hk, I'⟩, q⟩
  | brk => obtain ⟨σ', H', I', q⟩ := q; exact ⟨σ', H', ⟨zs, hz, hk, I'⟩, q⟩
  | cont => obtain ⟨σ', H', I', q⟩ := q; exact ⟨σ', H', ⟨zs, hz, hk, I'⟩, q⟩
  | ret u => obtain ⟨v, σ', H', _, _, q⟩ := q; exact False.elim q
theorem yb_nil : YB X hs Yv [] yNil := by
  intro S hS c fs gd lv K J D m i Hw s₀ s σ H g k hm hM ht
  exact seg_execs_nil (k m i Hw s₀ s .next hm ⟨σ, H, hM, ht⟩)
theorem yb_cons {st : Stmt} {rest : List Stmt} {t u : TY} (a : YO X hs Yv st t) (b : YB X hs Yv rest u) : YB X hs Yv (st :: rest) (ySeq t u) := by
  intro S hS c fs gd lv K J D m i Hw s₀ s σ H g k hm hM ht
  refine seg_execs_cons (a S hS c fs gd lv _ J { D with nx := fun i' Hw' σ' H' => u D i' Hw' σ' H' } m i Hw s₀ s σ H g (fun m' i' Hw' s1 s2 f hm' q => ?_) hm hM ht)
  cases f with
  | next => obtain ⟨σ', H', hM', q⟩ := q; exact b S hS c fs gd lv K J D m' i' Hw' s1 s2 σ' H' g k hm' hM' q
  | brk => exact k m' i' Hw' s1 s2 .brk hm' q
  | cont => exact k m' i' Hw' s1 s2 .cont hm' q
  | ret v => exact k m' i' Hw' s1 s2 (.ret v) hm' q
theorem yo_yield {e : Expr} {yp pos : Pos} {te : TE} (he : PE X e te) (hco : X.env.scope.isCoroutine = false := by rfl) (hi : interactive X.env = false := by rfl) : YO X hs Yv (.Expr (.Yield (some e) yp) pos) (yYield Yv te) := by
  intro S hS c fs gd lv K J D m i Hw s₀ s σ H g k hm hM ht
  obtain ⟨hlt, ht⟩ := ht
  obtain ⟨m, rfl⟩ : ∃ m', m = m' + 1 := ⟨m - 1, by omega⟩
  obtain ⟨zs, hz, hk, I⟩ := hM
  refine seg_Expr_Yield g.split g.gd g.guard ?_ hco hi
  rw [g.over]
  refine wpAny_mono (he.run zs s σ H _ I ht) (fun v s' q => ?_) fun x s' hx => absurd hx (S.gx.xe x s')
  obtain ⟨x, H1, I1, rv, q1, q2, q3⟩ := q
  intro kap hkap
  refine ⟨i, x, zs, σ, H1, by omega, rv, I1, hz, by rw [hS]; exact q1, S.mono _ _ _ _ q2 hk, fun zs' s'' H2 W hk2 => hkap .none s'' ?_⟩
  exact k m (i + 1) H2 s'' s'' .next (by omega) ⟨σ, H2, ⟨zs', W.z.ad, hk2, woken S.gx I1 W⟩, q3 H2 W.gr⟩
theorem stand_in {S : Sit X hs} {c c' : Code} {fs : List Frame} {gd : Bool → Bool} {k : Result → Sem PySem.Fin} {l kp : List Value} {p : Pos} (g : Stand S c fs gd) (hw : c'.weight = 0) (hu : c'.cUnits = 0) :
    Stand S c' (.ret k none (gd false) l c p kp :: fs) id where
  over := (over_loop hw hu).trans g.over
  split := by
    show Option.map _ (splitAtGen fs) = none
    rw [g.split]; rfl
  guard := by
    show (gd false || List.any fs Frame.guarded) = false
    rw [g.gd, g.guard]; rfl
  gd := rfl
theorem yo_while {test : Expr} {body : List Stmt} {pos : Pos} {tc : TT} {tb : TY} (hc : PT X test tc) (hb : YB X hs Yv body tb) : YO X hs Yv (.While test body [] pos) (yWhile tc tb) := by
  intro S hS c fs gd lv K J D m i Hw s₀ s σ H g k hm hM ht
  obtain ⟨W, ⟨k0, w0⟩, turn⟩ := ht
  refine seg_While fun p => ?_
  have no : ∀ {α : Prop} (x : Value) (s : Shared), X.xe x s → α := fun x s hx => absurd hx (S.gx.xe x s)
  have runs : ∀ (kf : Result → Sem PySem.Fin), (∀ m i Hw s₀ s, m + i = sizeLine → Aft S D i Hw .next s → SegY S m s₀ c (kf (.ok .next)) fs s) → ∀ (q m i : Nat) (Hw : Hp) (s₀ s : Shared) (σ : L2.St) (H : Hp), m + i = sizeLine → W q i Hw σ H → Mid S i Hw σ H s →
      SegY S m s₀ (.whileLoop test body [] X.env) ((model X.prog X.w).den (.whileLoop test body [] X.env)) (.ret kf none (gd false) (lv []) c p [] :: fs) s := by
    intro kf hkf q
    induction q using Nat.strongRecOn with
    | ind q ih =>
      intro m i Hw s₀ s σ H hm w hM
      obtain ⟨zs, hz, hk, I⟩ := hM
      have gl := stand_in (c' := .whileLoop test body [] X.env) (k := kf) (l := lv []) (kp := []) (p := p) g rfl rfl
      refine seg_whileLoop ?_
      rw [gl.over]
      refine wpAny_mono (hc.run zs s σ H _ I (turn q i Hw σ H w)) (fun b s' hb' => ?_) fun x s' hx => no x s' hx
      obtain ⟨H2, I2, q2⟩ := hb'
      cases b with
      | true =>
        obtain ⟨N, hN, q2⟩ := q2
        rw [if_pos rfl]
        refine hb S hS _ _ id id _ _ { D with nx := N, ct := N, bk := D.nx } m i Hw s₀ s' σ H2 gl (fun m' i' Hw' s1 s2 f hm' qa => ?_) hm ⟨zs, hz, hk, I2⟩ q2
        cases f with
        | next =>
          obtain ⟨σ3, H3, M3, n3⟩ := qa
          obtain ⟨q', hq, w3⟩ := hN i' Hw' σ3 H3 n3
          exact seg_again rfl (ih q' hq m' i' Hw' s1 s2 σ3 H3 hm' w3 M3)
        | cont =>
          obtain ⟨σ3, H3, M3, n3⟩ := qa
          obtain ⟨q', hq, w3⟩ := hN i' Hw' σ3 H3 n3
          exact seg_again rfl (ih q' hq m' i' Hw' s1 s2 σ3 H3 hm' w3 M3)
        | brk => exact seg_leaf (.ok .next) (hkf m' i' Hw' s1 s2 hm' qa)
        | ret v => exact False.elim qa
      | false =>
        rw [if_neg Bool.false_ne_true]
        refine seg_execs_nil ?_
        exact seg_leaf (.ok .next) (hkf m i Hw s₀ s' hm ⟨σ, H2, ⟨zs, hz, hk, I2⟩, q2⟩)
  exact runs _ (fun m i Hw s₀ s hm qa => k m i Hw s₀ s .next hm qa) k0 m i Hw s₀ s σ H hm w0 hM
end Gz
end
section
set_option maxRecDepth 100000
set_option maxHeartbeats 1000000
namespace Gz
open PySem L2 PySem.Spec PyProof.Rows GenW

/-- what holds whenever the generator stands still -/
structure YAt (P : Program) (w : World) (outer : List Env) (H : Hp) (s : Shared) (hs za : List Addr) (a : Addr) (g : Nat) (zs : Zs) (H1 : Hp) (s1 : Shared) : Prop where
  os : s1.os = s.os
  bare : AllBare s1.gens
  lim : s1.heap.NoLimit
  gen : s1.heap.IsGen a g
  base : Un (frs outer) [] H H1 s.heap s1.heap
  hok : HOk P w H1 s1.heap
  z : ZOk za zs H1 s1.heap
  hn : ∀ b ∈ hs, H1 b = none ∧ ∃ o, s1.heap.get? b = some o
def YIt (P : Program) (w : World) (outer : List Env) (H : Hp) (s : Shared) (hs za : List Addr) (a : Addr) (g : Nat) (Yv : YV) (Kn : KN) : Protocol := fun m _ v s1 kap =>
  ∃ i x zs H1, m + 1 + i = sizeLine ∧ RelV x v ∧ YAt P w outer H s hs za a g zs H1 s1 ∧ Yv i x H1 ∧ Kn i H1 zs ∧
    ∀ zs' s2 H2, Wake P w (frs outer) H s.heap hs za zs' H1 s1 H2 s2 → Kn (i + 1) H2 zs' → kap (.send .none) s2
def YEnd (P : Program) (w : World) (outer : List Env) (H : Hp) (s : Shared) (hs za : List Addr) (a : Addr) (g n : Nat) (Kn : KN) : GenEnd := fun _ _ r s1 =>
  (r = .ok (.ret .none) ∨ r = .ok .next) ∧ ∃ zs H1, YAt P w outer H s hs za a g zs H1 s1 ∧ Kn n H1 zs
/-- a generator that has not begun, as a call gives it: n things, the i-th one as Yv says -/
def YMade (P : Program) (w : World) (k : Nat) (outer : List Env) (H : Hp) (s : Shared) (n : Nat) (Yv : YV) (u : Value) (s' : Shared) : Prop :=
  ∃ (a : Addr) (g : Nat) (c : Code) (hs : List Addr), u = .ref a ∧ a ∈ hs ∧ (∀ b ∈ hs, s.heap.objs.size ≤ b ∧ b < s'.heap.objs.size ∧ ∃ o, s'.heap.get? b = some o) ∧ s'.heap.IsGen a g ∧ s'.gens[g]? = some (.fresh c) ∧
    s'.os = s.os ∧ AllBare s'.gens ∧ s'.heap.NoLimit ∧ s.heap.objs.size ≤ s'.heap.objs.size ∧ (∀ b o, s.heap.get? b = some o → s'.heap.get? b = some o) ∧
    ∀ (A : Around) (za : List Addr) (Kn : KN) (zs : Zs) (s2 : Shared) (H2 : Hp), Room k A → A.frames = some outer → (∀ b ∈ za, s'.heap.objs.size ≤ b) → (∀ i H H' zs, Same H H' → Kn i H zs → Kn i H' zs) →
      Wake P w (frs outer) H s.heap hs za zs H s' H2 s2 → Kn 0 H2 zs → Seg (model P w) A (YEnd P w outer H s hs za a g n Kn) (YIt P w outer H s hs za a g Yv Kn) sizeLine s2 c ((model P w).den c) [] s2
abbrev SpY := List V → Hp → Nat → YV → Prop
structure YFn (P : Program) (w : World) (K : PySem.W.Frag) (mg : Str → Option Value) (base : Heap) (k : Nat) (f : Addr) (fd : FuncData) (ps : List Str) (sp : SpY) : Prop where
  len : ∀ vs H n Yv, sp vs H n Yv → vs.length = ps.length
  run : ∀ (A : Around) (outer : List Env) (s : Shared) (H : Hp) (args : Args) (us : List Value) (vs : List V) (n : Nat) (Yv : YV), Room k A → Env0 P w K mg base A outer s H → BindsTo s fd args (ps.zip us) → Vals vs us → sp vs H n Yv →
    codeAny (model P w) A (.call (.ref f) args) (fun r s' => match r with | .ok (.ret u) => YMade P w k outer H s n Yv u s' | _ => False) s
/-- the context of a generator's body from which no exception leaves -/
abbrev gyOf (P : Program) (w : World) (K : PySem.W.Frag) (mg : Str → Option Value) (base : Heap) (N : List Str) (qual : Str) (scope : Scope) (f : Addr) (cd : Value) (A : Around) (outer : List Env) (s : Shared) (H : Hp) (pn : Zs) : Cx :=
  (gcxOf P w K mg base N qual scope f cd A outer s H E0 pn).nox
/-- a generator def, by what its body says -/
theorem yfn_of {P : Program} {w : World} {K : PySem.W.Frag} {mg : Str → Option Value} {base : Heap} {k : Nat} {f : Addr} {name qual : Str} {params : Arguments} {body : List Stmt} {scope : Scope} {dV kV doc pm cdv ct oc : Value} {an od : Option Addr}
    {osl : Array (Option Value)} {N ps : List Str} {sp : SpY} (lk : K.lookup f = some ⟨oc, od, .func (PySem.W.fnOf name qual params body scope dV kV doc pm an cdv ct), osl⟩) (hcd : PySem.W.codeIn K cdv qual = true) (S : GScope N ps scope)
    (len : ∀ vs H n Yv, sp vs H n Yv → vs.length = ps.length)
    (hbody : ∀ (A : Around) (outer : List Env) (s : Shared) (H : Hp) (vs : List V) (n : Nat) (Yv : YV) (pn : Zs), Room k (A.deeper (envOfC qual scope s.heap.objs.size f cdv)) → sp vs H n Yv →
      ∃ t, (∀ hs, YB (gyOf P w K mg base N qual scope f cdv A outer s H pn) hs Yv body t) ∧ ∀ H2, Same H H2 → t { nx := fun i Hw _ H' => i = n ∧ Same Hw H' } 0 H2 (L2.start N vs) H2) :
    YFn P w K mg base (k + 1) f (PySem.W.fnOf name qual params body scope dV kV doc pm an cdv ct) ps sp := by
  refine ⟨len, fun A outer s H args us vs n Yv hr e0 hb r hsp => ?_⟩
  have hl := len _ _ _ _ hsp
  have KX : K.In s.heap := e0.mod.kin.keeps fun b o e => (e0.bs b o e).1
  have lim0 : s.heap.NoLimit := e0.mod.nolimit.keeps fun b o e => (e0.bs b o e).1
  refine codeAny_call_generator hr.depth (KX _ _ lk) rfl S.co S.gen rfl (PySem.W.codeRec_of KX hcd) (hb _ _ _ _ (wpAny_newFunctionEnv_cells S.kind (fun y hy => ?_) fun env he s1 x => ?_))
  · rcases S.par y.1 (List.of_mem_zip (show (y.1, y.2) ∈ ps.zip us from hy)).1 with q | q
    · exact .inl q
    · exact .inr ⟨q, PySem.W.cellsFrom_some _ _ _ (.inl q)⟩
  subst he
  have lim1 := lim0.keeps x.toInCall.keep
  refine ⟨lim1, ?_⟩
  obtain ⟨h1, tk, es1, hk1⟩ := x.done
  have os1 : s1.os = s.os := by rw [es1]
  have gen1 : s1.gens = s.gens := by rw [es1]
  have lt1 : s.heap.objs.size < s1.heap.objs.size := x.toInCall.ns.lt
  have kp1 : ∀ b o, s.heap.get? b = some o → s1.heap.get? b = some o := x.toInCall.keep
  have main : ∀ (go : Obj) (nm qn : Value) (tk2 : Nat), go.cls = .type "generator" → go.data = .fields #[.int s1.gens.size 0, nm, qn] → go.slots = #[] → (∀ h : Heap, (h.push go).get? h.objs.size = some go) →
      YMade P w (k + 1) outer H s n Yv (.ref s1.heap.objs.size) { s1 with gens := s1.gens.push (.fresh (.func body (envOfC qual scope s.heap.objs.size f cdv))), toks := tk2, heap := s1.heap.push go } := by
    intro go nm qn tk2 hgc hgd hgs hgp
    have hgen : ∀ h : Heap, h.get? s1.heap.objs.size = some go → h.IsGen s1.heap.objs.size s1.gens.size := fun h e => ⟨go, nm, qn, e, hgc, hgd, hgs⟩
    have hpu : (s1.heap.push go).get? s1.heap.objs.size = some go := hgp _
    have kp2 : ∀ b o, s1.heap.get? b = some o → (s1.heap.push go).get? b = some o := fun b o e => Heap.get?_push_of_some _ e
    -- a context for any around that wakes it
    have ctx : ∀ Aw : Around, Room k Aw → Aw.frames = some outer → Inv (gyOf P w K mg base N qual scope f cdv Aw outer s H [(s1.heap.objs.size, go)]) [] (L2.start N vs) H { s1 with gens := s1.gens.push (.fresh (.func body (envOfC qual scope s.heap.objs.size f cdv))), toks := tk2, heap := s1.heap.push go } := by
      intro Aw hrw hfr
      have e0w : Env0 P w K mg base Aw outer s H := ⟨hfr, e0.mod, e0.bs, e0.bsz, e0.funs, e0.frf, e0.hok, e0.bare⟩
      have I1 : Inv (gcxOf P w K mg base N qual scope f cdv Aw outer s H E0 []) [] (L2.start N vs) H s1 := inv_startG S hrw.hd e0w hl r x
      have I2 : Inv (gcxOf P w K mg base N qual scope f cdv Aw outer s H E0 []) [] (L2.start N vs) H { s1 with gens := s1.gens.push (.fresh (.func body (envOfC qual scope s.heap.objs.size f cdv))), toks := tk2, heap := s1.heap.push go } :=
        I1.call' (ch := []) rfl (Un.kept kp2) (I1.hok.kept kp2) (AllBare.push (by rw [gen1]; exact e0.bare) rfl) fun b z => by simp at z
      refine Inv.wish (Inv.pinnedG I2 fun p hp => ?_) _
      rw [List.append_nil] at hp
      rw [List.mem_singleton.mp hp]
      exact ⟨hpu, I1.hok.fresh (Nat.le_refl _), Nat.ne_of_gt lt1, I1.nofs (Nat.le_refl _), fun v q => by rw [show go.data = _ from hgd] at q; cases q⟩
    let cl := cellsFrom (s.heap.objs.size + 1) scope.names []
    have hcl : ∀ Aw, Room k Aw → Aw.frames = some outer → ∀ y c, cl.lookup y = some c → ∃ o, s1.heap.get? c = some o := fun Aw hrw hfr y c e => by
      obtain ⟨o, ho, _⟩ := x.cell y c e
      exact ⟨o, ho⟩
    refine ⟨s1.heap.objs.size, s1.gens.size, _, s.heap.objs.size :: s1.heap.objs.size :: cl.filterMap fun p => cl.lookup p.1, rfl, by simp, fun b hb => ?_, hgen _ hpu, Array.getElem?_push_size .., os1, AllBare.push (by rw [gen1]; exact e0.bare) rfl, lim1.keeps kp2, ?_, fun b o e => kp2 b o (kp1 b o e), ?_⟩
    · have hsz : (s1.heap.push go).objs.size = s1.heap.objs.size + 1 := Heap.size_push ..
      rcases List.mem_cons.mp hb with e | hb
      · subst e
        obtain ⟨o, es, ep, ho, _⟩ := x.toInCall.ns
        exact ⟨Nat.le_refl _, by show _ < (s1.heap.push go).objs.size; omega, o, kp2 _ _ ho⟩
      · rcases List.mem_cons.mp hb with e | hb
        · subst e
          exact ⟨Nat.le_of_lt lt1, by show _ < (s1.heap.push go).objs.size; omega, go, hpu⟩
        · obtain ⟨p, _, e⟩ := List.mem_filterMap.mp hb
          obtain ⟨o, ho, _⟩ := x.cell p.1 b e
          have hlt := Heap.lt_size ho
          exact ⟨Nat.le_of_lt (x.above p.1 b (PySem.mem_of_lookup e)), by show _ < (s1.heap.push go).objs.size; rw [hsz]; exact Nat.lt_succ_of_lt hlt, o, kp2 _ _ ho⟩
    · show _ ≤ (s1.heap.push go).objs.size
      rw [Heap.size_push]; omega
    intro Aw za Kn zs s2 H2 hrw hfr hza hmono W hk0
    have hrk : Room k Aw := hrw.mono (Nat.le_succ k)
    have I0 := ctx Aw hrk hfr
    obtain ⟨t, ht, hq⟩ := hbody Aw outer s H vs n Yv [(s1.heap.objs.size, go)] (hrw.deeper _) hsp
    have hszp : (s1.heap.push go).objs.size = s1.heap.objs.size + 1 := Heap.size_push ..
    have gx : Gx (gyOf P w K mg base N qual scope f cdv Aw outer s H [(s1.heap.objs.size, go)]) (s.heap.objs.size :: s1.heap.objs.size :: cl.filterMap fun p => cl.lookup p.1) za := by
      refine ⟨rfl, fun _ _ q => q, List.mem_cons_self, fun y c e => ?_, fun p hp => ?_, fun b hb => ?_, fun b hb hm => ?_⟩
      · have e : cl.lookup y = some c := e
        exact List.mem_cons_of_mem _ (List.mem_cons_of_mem _ (List.mem_filterMap.mpr ⟨(y, c), PySem.mem_of_lookup e, e⟩))
      · rw [List.mem_singleton.mp hp]
        exact List.mem_cons_of_mem _ List.mem_cons_self
      · have := hza b hb
        have h2 : (s1.heap.push go).objs.size ≤ b := this
        show s.heap.objs.size ≤ b
        omega
      · have h2 : (s1.heap.push go).objs.size ≤ b := hza b hb
        have key : ¬ b < s1.heap.objs.size + 1 := fun q => by
          rw [hszp] at h2
          exact absurd (Nat.lt_of_lt_of_le q h2) (Nat.lt_irrefl _)
        rcases List.mem_cons.mp hm with e | hm
        · exact key (by rw [e]; exact Nat.lt_succ_of_lt lt1)
        · rcases List.mem_cons.mp hm with e | hm
          · exact key (by rw [e]; exact Nat.lt_succ_self _)
          · obtain ⟨p, _, e⟩ := List.mem_filterMap.mp hm
            obtain ⟨o, ho, _⟩ := x.cell p.1 b e
            exact key (Nat.lt_succ_of_lt (Heap.lt_size ho))
    have at_ : ∀ {zs σ H1 s3}, zs.map (·.1) = za → Inv (gyOf P w K mg base N qual scope f cdv Aw outer s H [(s1.heap.objs.size, go)]) zs σ H1 s3 → YAt P w outer H s (s.heap.objs.size :: s1.heap.objs.size :: cl.filterMap fun p => cl.lookup p.1) za s1.heap.objs.size s1.gens.size zs H1 s3 := by
      intro zs σ H1 s3 hz I
      have pg := I.pin (s1.heap.objs.size, go) (List.mem_append_left _ (List.mem_singleton.mpr rfl))
      refine ⟨I.os, I.bare, I.nolimit, hgen _ pg.1, I.base, I.hok, ⟨hz, fun p hp => (I.pin p (List.mem_append_right _ hp)).1, fun p hp => (I.pin p (List.mem_append_right _ hp)).2.1, fun p hp => (I.pin p (List.mem_append_right _ hp)).2.2.2.2⟩, fun b hb => ?_⟩
      rcases List.mem_cons.mp hb with e | hb
      · subst e
        obtain ⟨m, ⟨o, es, ep, ho, _⟩, _⟩ := I.loc
        exact ⟨I.free, o, ho⟩
      · rcases List.mem_cons.mp hb with e | hb
        · subst e
          exact ⟨pg.2.1, go, pg.1⟩
        · obtain ⟨p, _, e⟩ := List.mem_filterMap.mp hb
          obtain ⟨v, o, ho, _⟩ := I.cell p.1 b e
          exact ⟨I.freeC p.1 b e, o, ho⟩
    let T : Sit (gyOf P w K mg base N qual scope f cdv Aw outer s H [(s1.heap.objs.size, go)]) (s.heap.objs.size :: s1.heap.objs.size :: cl.filterMap fun p => cl.lookup p.1) :=
      { Yv := Yv, A := Aw, za := za, Kn := Kn, R := YEnd P w outer H s (s.heap.objs.size :: s1.heap.objs.size :: cl.filterMap fun p => cl.lookup p.1) za s1.heap.objs.size s1.gens.size n Kn, mono := hmono, gx := gx }
    refine seg_func (seg_imp (R := T.R) (Y := T.Y) (fun _ _ _ _ q => q) (fun m s₀ v s3 kap kap' hkk q => ?_) sizeLine ?_)
    · obtain ⟨i, y, zs3, σ3, H3, hm, rv, I3, hz, q1, q2, q3⟩ := q
      exact ⟨i, y, zs3, H3, hm, rv, at_ hz I3, q1, q2, fun zs' s4 H4 W4 k4 => hkk _ _ (q3 zs' s4 H4 W4 k4)⟩
    · refine ht _ T rfl _ [] id id _ _ { nx := fun i Hw _ H' => i = n ∧ Same Hw H' } sizeLine 0 H2 s2 s2 (L2.start N vs) H2 ⟨over_func, rfl, rfl, rfl⟩ (fun m i Hw s₀ s3 fl hm q => ?_) (Nat.add_zero _) ⟨zs, W.z.ad, hk0, woken gx I0 W⟩ (hq H2 W.gr)
      cases fl with
      | next =>
        obtain ⟨σ3, H3, ⟨zs3, hz, hk3, I3⟩, rfl, hsm⟩ := q
        exact seg_end (.ok (.ret .none)) ⟨.inl rfl, zs3, H3, at_ hz I3, hmono _ _ _ _ hsm hk3⟩
      | brk => obtain ⟨_, _, _, q⟩ := q; exact False.elim q
      | cont => obtain ⟨_, _, _, q⟩ := q; exact False.elim q
      | ret u => exact False.elim q
  exact main _ _ _ _ rfl rfl rfl fun h => Heap.get?_push_size _ rfl
end Gz
end
section
set_option maxRecDepth 100000
set_option maxHeartbeats 1000000
namespace Gz
open PySem L2 PySem.Spec PyProof.Rows GenW

def MonoY (Yv : YV) : Prop := ∀ i x H H', Same H H' → Yv i x H → Yv i x H'
/-- all that was handed out -/
def AllY (n : Nat) (Yv : YV) (H : Hp) (ys : List V) (H' : Hp) : Prop := ys.length = n ∧ (∀ j y, ys[j]? = some y → Yv j y H') ∧ Same H H'
theorem un_off {fs : List Addr} {H H1 : Hp} {h h1 h2 : Heap} (u : Un fs [] H H1 h h1) (hk : ∀ b o, (∃ q, h.get? b = some q) → h1.get? b = some o → h2.get? b = some o) : Un fs [] H H1 h h2 where
  keep := fun b o e n hf hx => hk b o ⟨_, e⟩ (u.keep b o e n hf hx)
  slot := fun b o e n hf hx => let ⟨sl, q⟩ := u.slot b o e n hf hx; ⟨sl, hk b _ ⟨_, e⟩ q⟩
  free := u.free
  there := fun b o e hx => let ⟨o', q⟩ := u.there b o e hx; ⟨o', hk b o' ⟨_, e⟩ q⟩
  tups := u.tups
  frzs := u.frzs
  tbls := u.tbls
/-- for list(g) -/
theorem gmade_of {P : Program} {w : World} {k : Nat} {outer : List Env} {H : Hp} {s s' : Shared} {n : Nat} {Yv : YV} {u : Value} {Q : List V → Hp → Prop} (hok : HOk P w H s.heap) (h : YMade P w k outer H s n Yv u s') (hn : n ≤ sizeLine) (hm : MonoY Yv) (hQ : ∀ ys H', AllY n Yv H ys H' → Q ys H') :
    GMade P w k outer H s [] Q E0 u s' := by
  obtain ⟨a, g, c, hs, rfl, ha, hhs, hg, hgs, hos, hb, hl, hsz, hkp, wake⟩ := h
  obtain ⟨ha1, ha2, _⟩ := hhs a ha
  refine ⟨a, g, c, rfl, ha1, ha2, hg, hgs, hos, hb, hl, hkp, fun A S s2 hr hfr hS hk2 ⟨cS, hcS⟩ hos2 hb2 => ?_⟩
  have kp2 : ∀ b o, s.heap.get? b = some o → s2.heap.get? b = some o := fun b o e => hk2 b o (hkp b o e)
  have hSz : s.heap.objs.size ≤ S := Nat.le_trans hsz hS
  have nS : ∀ b, (∃ q, s.heap.get? b = some q) → b ≠ S := fun b ⟨q, e⟩ => Nat.ne_of_lt (Nat.lt_of_lt_of_le (Heap.lt_size e) hSz)
  have hsS : ∀ b ∈ hs, b ≠ S := fun b hb' => Nat.ne_of_lt (Nat.lt_of_lt_of_le (hhs b hb').2.1 hS)
  let Kn : KN := fun i H' zs => ∃ ys acc c, zs = [(S, lstObj acc c)] ∧ Vals ys acc.toList ∧ ys.length = i ∧ (∀ j y, ys[j]? = some y → Yv j y H') ∧ Same H H'
  have first := wake A [S] Kn [(S, lstObj #[] cS)] s2 H hr hfr (fun b hb' => by rw [List.mem_singleton.mp hb']; exact hS)
    (fun i H1 H2 zs hh ⟨ys, acc, c, e1, e2, e3, e4, e5⟩ => ⟨ys, acc, c, e1, e2, e3, fun j y q => hm j y H1 H2 hh (e4 j y q), e5.trans hh⟩)
    ⟨hos2.trans hos.symm, hb2, Un.kept kp2, fun b hb' o e => hk2 b o e, fun b hb' => hok.fresh (hhs b hb').1, Same.refl H, hok.kept kp2, ⟨rfl, fun p hp => by rw [List.mem_singleton.mp hp]; exact hcS, fun p hp => by rw [List.mem_singleton.mp hp]; exact hok.fresh hSz, fun p hp v q => by rw [List.mem_singleton.mp hp] at q; cases q⟩⟩
    ⟨[], #[], cS, rfl, .nil, rfl, fun j y q => by simp at q, Same.refl H⟩
  refine seg_imp (fun m s₀ r s1 q => ?_) (fun m s₀ v s1 kap kap' hkk q => ?_) sizeLine first
  · obtain ⟨hr1, zs, H1, at_, ys, acc, c1, rfl, e2, e3, e4, e5⟩ := q
    have pz := at_.z.ob (S, lstObj acc c1) (List.mem_singleton.mpr rfl)
    exact .inl ⟨hr1, H1, ys, acc, c1, at_.os, at_.bare, at_.base, at_.hok, at_.z.no (S, lstObj acc c1) (List.mem_singleton.mpr rfl), pz, e2, by rw [e3]; exact hn, hQ ys H1 ⟨e3, e4, e5⟩⟩
  · obtain ⟨i, x, zs, H1, hmi, rv, at_, hy, ⟨ys, acc, c1, rfl, e2, e3, e4, e5⟩, nxt⟩ := q
    have pz := at_.z.ob (S, lstObj acc c1) (List.mem_singleton.mpr rfl)
    have pn := at_.z.no (S, lstObj acc c1) (List.mem_singleton.mpr rfl)
    have hasz : acc.size = i := by
      have q := e2.length
      have q2 : acc.toList.length = acc.size := by simp
      exact (q2.symm.trans q.symm).trans e3
    refine ⟨at_.os, at_.bare, at_.lim, at_.gen, ⟨acc, c1, pz, by rw [hasz]; exact hmi⟩, fun s3 z => hkk _ _ ?_⟩
    obtain ⟨c', eS⟩ := z.own acc c1 pz
    refine nxt [(S, lstObj (acc.push v) c')] s3 H1 ⟨z.os, z.bare, un_off at_.base fun b o e q => z.keep b o (nS b e) q, fun b hb' o e => z.keep b o (hsS b hb') e, fun b hb' => (at_.hn b hb').1, Same.refl H1, fun b u q => (at_.hok b u q).stay (fun d v hd y => z.keep d v (fun e => ?_) y) (fun _ y => y) fun _ _ y => y, ⟨rfl, fun p hp => by rw [List.mem_singleton.mp hp]; exact eS, fun p hp => by rw [List.mem_singleton.mp hp]; exact pn, fun p hp v q => by rw [List.mem_singleton.mp hp] at q; cases q⟩⟩
      ⟨ys ++ [x], acc.push v, c', rfl, by rw [Array.toList_push]; exact e2.append (.cons rv .nil), by rw [List.length_append, e3]; rfl, fun j y q => ?_, e5⟩
    · have pn : H1 S = none := pn
      rcases hd with hd | hd
      · rw [← hd, e, pn] at q; cases q
      · rw [e, pn] at hd; cases hd
    · by_cases hj : j < ys.length
      · rw [List.getElem?_append_left hj] at q
        exact e4 j y q
      · rw [List.getElem?_append_right (by omega)] at q
        have hj2 : j - ys.length = 0 := by
          have := (List.getElem?_eq_some_iff.mp q).1
          simp at this; omega
        rw [hj2] at q
        simp at q
        subst q
        rw [show j = i by omega]
        exact hy
/-! ### the call -/
abbrev TYC := L2.St → Hp → (Nat → YV → Hp → Prop) → Prop
/-- an expression whose value is a generator that has not begun -/
structure PYen (X : Cx) (k : Nat) (e : Expr) (ty : TYC) : Prop where
  run : ∀ (pins : List (Addr × Obj)) (s : Shared) (σ : L2.St) (H : Hp) (R : Nat → YV → Hp → Prop), Inv X pins σ H s → ty σ H R →
    wpAny (model X.prog X.w) X.A (eval e X.env) (fun u s' => ∃ H1 sc n Yv, Inv X pins σ H1 sc ∧ YMade X.prog X.w k X.stack H1 sc n Yv u s' ∧ R n Yv H1) X.xe s
def tCallY (sp : SpY) (t : TA) : TYC := fun σ H R => t σ H fun vs H1 => ∃ n Yv, sp vs H1 n Yv ∧ R n Yv H1
section
variable {X : Cx} {k : Nat} {f : Addr} {fd : FuncData} {ps : List Str} {sp : SpY} {x : Str} {p pos pos' : Pos} {e : Expr} {es : List Expr} {t : TA}
theorem pyen_call (F : YFn X.prog X.w X.K X.mg X.base k f fd ps sp) (hr : Room k X.A) (hg : Gl X x) (hm : X.mg x = some (.ref f)) (hk : PySem.W.keepIn X.K (.ref f) = true) (hb : Binds X.K fd ps [])
    (ha : PA X (e :: es) t) (hdb : (x == ("__debug__" : Str)) = false := by decide) (he : starEach (e :: es) X.env = (false, eval e X.env) :: starEach es X.env := by rfl) (hpl : (backTo pos' (starEach es X.env)).any (·.1) = false := by rfl) :
    PYen X k (.Call (.Name x p) (e :: es) [] pos') (tCallY sp t) := by
  refine ⟨fun pins s σ H R I h => wpAny_Call_Name_kw (ld_glob I hg hm (PySem.W.callWith_K (h₀ := X.base) I.ok.mod.kin hk (thn (ha.run pos' pins s σ H _ I h) fun us s1 ⟨vs, H1, I1, r, n, Yv, q1, q2⟩ => ⟨I1.kIn, ?_⟩) he hpl) hdb)⟩
  have hl : us.length = ps.length := by rw [← r.length]; exact F.len _ _ _ _ q1
  refine wpAny_call (codeAny_mono (F.run X.A X.stack s1 H1 ⟨us, []⟩ us vs n Yv hr I1.env0 ?_ r q1) fun r s' hq => ?_)
  · have := hb s1 us I1.kIn (by rw [List.append_nil]; exact hl)
    rw [List.append_nil] at this
    exact this
  · cases r with
    | error e => exact False.elim hq
    | ok fl =>
      cases fl with
      | ret u => exact ⟨H1, s1, n, Yv, I1, hq, q2⟩
      | next => exact False.elim hq
      | brk => exact False.elim hq
      | cont => exact False.elim hq
def tGenOf (ty : TYC) : TGen := fun σ H cont => ty σ H fun n Yv H1 => n ≤ sizeLine ∧ MonoY Yv ∧ ∀ ys H', AllY n Yv H1 ys H' → cont ys H'
theorem PYen.gen {ty : TYC} (h : PYen X k e ty) : PGen X k e (tGenOf ty) E0 :=
  ⟨fun pins s σ H cont I ht => thn (h.run pins s σ H _ I ht) fun u s' ⟨H1, sc, n, Yv, I1, hM, h1, h2, h3⟩ => ⟨H1, sc, [], I1, .nil, gmade_of I1.hok hM h1 h2 h3⟩⟩
end
end Gz
end
section
set_option maxRecDepth 100000
set_option maxHeartbeats 1000000
namespace Gz
open PySem L2 PySem.Spec PyProof.Rows GenW

/-! ### objects that a consumer keeps as they are -/
def exH (hs : List Addr) (g : Heap) (H : Hp) : Hp := fun b => if b ∈ hs then (g.get? b).map (fun o => HO.ext fun q => q.get? b = some o) else H b
def drH (ds : List Addr) (H : Hp) : Hp := fun b => if b ∈ ds then none else H b
section
variable {P : Program} {w : World} {hs ds fs : List Addr} {g h h' : Heap} {H H' : Hp} {b D : Addr} {o : Obj} {xs : List V}
theorem exH_off (hb : b ∉ hs) : exH hs g H b = H b := if_neg hb
theorem exH_on (hb : b ∈ hs) (e : g.get? b = some o) : exH hs g H b = some (.ext fun q => q.get? b = some o) := by
  unfold exH
  rw [if_pos hb, e]
  rfl
theorem drH_off (hb : b ∉ ds) : drH ds H b = H b := if_neg hb
theorem drH_on (hb : b ∈ ds) : drH ds H b = none := if_pos hb
theorem un_ex (u : Un fs [] H H' h h') (hn : ∀ c ∈ hs, H c = none ∧ h.get? c = none) : Un fs [] H (exH hs g H') h h' where
  keep := u.keep
  slot := u.slot
  there := u.there
  free := fun c q e n x => by rw [exH_off fun z => by rw [(hn c z).2] at e; cases e]; exact u.free c q e n x
  tups := fun c q e => by rw [exH_off fun z => by rw [(hn c z).1] at e; cases e]; exact u.tups c q e
  frzs := fun c q v e => by rw [exH_off fun z => by rw [(hn c z).1] at e; cases e]; exact u.frzs c q v e
  tbls := fun c q e => by rw [exH_off fun z => by rw [(hn c z).1] at e; cases e]; exact u.tbls c q e
theorem un_up {v : HO} (u : Un fs [] H H' h h') (h1 : H D = none) (h2 : h.get? D = none) : Un fs [] H (upd H' D v) h h' where
  keep := u.keep
  slot := u.slot
  there := u.there
  free := fun c q e n x => by rw [upd_ne fun z => by rw [z, h2] at e; cases e]; exact u.free c q e n x
  tups := fun c q e => by rw [upd_ne fun z => by rw [z, h1] at e; cases e]; exact u.tups c q e
  frzs := fun c q v e => by rw [upd_ne fun z => by rw [z, h1] at e; cases e]; exact u.frzs c q v e
  tbls := fun c q e => by rw [upd_ne fun z => by rw [z, h1] at e; cases e]; exact u.tbls c q e
theorem un_dr (u : Un fs [] H H' h h') (hn : ∀ c ∈ ds, H c = none) : Un fs [] H (drH ds H') h h' where
  keep := u.keep
  slot := u.slot
  there := u.there
  free := fun c q e n x => by
    by_cases hc : c ∈ ds
    · exact drH_on hc
    · rw [drH_off hc]; exact u.free c q e n x
  tups := fun c q e => by rw [drH_off fun z => by rw [hn c z] at e; cases e]; exact u.tups c q e
  frzs := fun c q v e => by rw [drH_off fun z => by rw [hn c z] at e; cases e]; exact u.frzs c q v e
  tbls := fun c q e => by rw [drH_off fun z => by rw [hn c z] at e; cases e]; exact u.tbls c q e
theorem hok_ex (hok : HOk P w H g) (hn : ∀ c ∈ hs, H c = none) : HOk P w (exH hs g H) g := fun c u q => by
  by_cases hc : c ∈ hs
  · cases e : g.get? c with
    | none =>
      unfold exH at q
      rw [if_pos hc, e] at q
      cases q
    | some o =>
      rw [exH_on hc e] at q
      cases q
      exact ⟨e, ⟨o, e⟩, fun h1 h2 a b => b o a⟩
  · rw [exH_off hc] at q
    exact (hok c u q).stay (fun _ _ _ y => y) (fun d z => by rw [exH_off fun y => by rw [hn d y] at z; cases z]; exact z) fun d xs z => by rw [exH_off fun y => by rw [hn d y] at z; cases z]; exact z
theorem hok_up (hok : HOk P w H h) (hD : H D = none) (hz : xs.length ≤ sizeLine ∧ ∃ (its : List Value) (n : Nat), Vals xs its ∧ h.get? D = some { cls := .type "list", data := .seq its.toArray n }) : HOk P w (upd H D (.lst xs)) h := fun c u q => by
  by_cases hc : c = D
  · subst hc
    rw [upd_same] at q
    cases q
    exact hz
  · rw [upd_ne hc] at q
    exact (hok c u q).stay (fun _ _ _ y => y) (fun d z => by rw [upd_ne fun y => by rw [y, hD] at z; cases z]; exact z) fun d xs z => by rw [upd_ne fun y => by rw [y, hD] at z; cases z]; exact z
theorem hok_dr (hok : HOk P w H h) (hn : ∀ c ∈ ds, ∀ u, H c = some u → (∃ xs, u = .lst xs) ∨ ∃ φ, u = .ext φ) : HOk P w (drH ds H) h := fun c u q => by
  by_cases hc : c ∈ ds
  · rw [drH_on hc] at q; cases q
  · rw [drH_off hc] at q
    refine (hok c u q).stay (fun _ _ _ y => y) (fun d z => ?_) fun d xs z => ?_
    · rw [drH_off fun y => ?_]; exact z
      rcases hn d y _ z with ⟨_, e⟩ | ⟨_, e⟩ <;> cases e
    · rw [drH_off fun y => ?_]; exact z
      rcases hn d y _ z with ⟨_, e⟩ | ⟨_, e⟩ <;> cases e
end
/-! ### the block's context, from an earlier state -/
theorem blk_base {X : Cx} {pins : Zs} {σ σw : L2.St} {H1 H3 : Hp} {sc s3 s4 : Shared} {scope : Scope} {ce : Env} (I1 : Inv X pins σ H1 sc) (I4 : Inv (X.blk s3 H3 scope ce []) [] σw H3 s4) (hsz : sc.heap.objs.size ≤ s3.heap.objs.size) (hos : s3.os = sc.os)
    (u : Un (frs X.stack) [] H1 H3 sc.heap s4.heap) : Inv (X.blk sc H1 scope ce []) [] σw H3 s4 :=
  ⟨⟨I4.ok.mod, I4.ok.kind, I4.ok.glob, I4.ok.blt, Nat.le_trans hsz I4.ok.above, I4.ok.inj, I4.ok.has, fun y c a e => Nat.le_trans hsz (I4.ok.cab y c a e), I4.ok.hd, I4.ok.frames, I4.ok.stk, (fun b hb => nomatch hb), I1.bs, Nat.le_trans I1.ok.bsz I1.sz, (fun b q e hb => nomatch hb), (fun b hb => nomatch hb), I1.stack, I1.stkFree⟩,
    I4.os.trans hos, I4.bare, u, I4.loc, I4.cell, I4.free, I4.freeC, I4.pin, I4.hok, I4.len⟩
/-! ### steps of the consumer that leave the generators alone -/
section
variable {X : Cx} {pins : Zs} {σ : L2.St} {H : Hp} {s : Shared} {M : Model} {A : Around} {E : Value → Shared → Prop}
theorem store_loc {i : Nat} {x : Str} {v : V} {u : Value} {Q : Unit → Shared → Prop} (I : Inv X pins σ H s) (hN : X.N.Nodup) (hi : X.N[i]? = some x) (hk : X.env.scope.names.lookup x = some .local) (hnc : ∀ y c, X.env.cells.lookup y ≠ some c) (r : RelV v u)
    (h : ∀ h1, Inv X pins (σ.set i (some v)) H { s with heap := h1, toks := s.toks + 1 } → (∀ b o, b ≠ X.env.locals → s.heap.get? b = some o → h1.get? b = some o) → Q () { s with heap := h1, toks := s.toks + 1 }) : wpAny M A (storeName X.env x u) Q E s := by
  obtain ⟨m, hn, hl⟩ := id I.loc
  have hsl : i < σ.length := by rw [I.len]; exact (List.getElem?_eq_some_iff.mp hi).1
  refine wpAny_storeName_local hk hn (fun h1 hn1 sb => ?_) (by rw [I.ok.kind]; rfl)
  have off : ∀ b o, b ≠ X.env.locals → s.heap.get? b = some o → h1.get? b = some o := fun b o hb e => (sb.2 b hb).trans e
  have old : ∀ b o, X.s_0.heap.get? b = some o → b ≠ X.env.locals := fun b o e => Nat.ne_of_lt (Nat.lt_of_lt_of_le (Heap.lt_size e) I.ok.above)
  refine h h1 ⟨I.ok, I.os, I.bare, ⟨fun b o e n a c => off b o (old b o e) (I.base.keep b o e n a c), fun b o e n a c => ?_, I.base.free, fun b o e c => ?_, I.base.tups, I.base.frzs, I.base.tbls⟩, ⟨_, hn1, fun j y v' e1 e2 e3 => ?_⟩, fun y c e => absurd e (hnc y c), I.free, I.freeC, fun p hp => ?_, fun b q e => ?_, ?_⟩ off
  · obtain ⟨sl, e1⟩ := I.base.slot b o e n a c
    exact ⟨sl, off b _ (old b o e) e1⟩
  · obtain ⟨o1, e1⟩ := I.base.there b o e c
    exact ⟨o1, off b _ (old b o e) e1⟩
  · by_cases hj : j = i
    · subst hj
      rw [hi] at e1
      cases e1
      rw [List.getElem?_set_self hsl] at e2
      cases e2
      exact ⟨u, r, .inl ⟨hk, by simp⟩⟩
    · rw [List.getElem?_set_ne (Ne.symm hj)] at e2
      obtain ⟨u1, r1, q⟩ := hl j y v' e1 e2 e3
      rcases q with ⟨k, e⟩ | ⟨_, c, e, _⟩
      · have ny : y ≠ x := fun e => hj (nodup_ix hN e1 (e ▸ hi))
        exact ⟨u1, r1, .inl ⟨k, by simp [ny, e]⟩⟩
      · exact absurd e (hnc y c)
  · obtain ⟨e, n, ne, r2⟩ := I.pin p hp
    exact ⟨off p.1 p.2 ne e, n, ne, r2⟩
  · refine (I.hok b q e).stay (fun c w' hc z => off c w' (fun y => ?_) z) (fun _ z => z) fun _ _ z => z
    rcases hc with hc | hc
    · rw [← hc, y, I.free] at e; cases e
    · rw [y, I.free] at hc; cases hc
  · show (σ.set i (some v)).length = _
    rw [List.length_set]; exact I.len
/-- list(y.items()), y a local name -/
theorem items_loc {Q : Value → Shared → Prop} {j : Nat} {y : Str} {d : Addr} {kvs : List (Key × V)} {p py apos cpos pos : Pos} (I : Inv X pins σ H s) (hc : X.calm = true) (hj : X.N[j]? = some y) (hy : σ[j]? = some (some (.ref d))) (hk : X.env.scope.names.lookup y = some .local) (hd : H d = some (.dK kvs)) (hg : Gl X "list") (hm : X.mg "list" = none)
    (hdb : (y == ("__debug__" : Str)) = false) (hline : (apos.endLine == cpos.line) = true)
    (h : ∀ h1 tk H2 q ts, Inv X pins σ H2 { s with heap := h1, toks := tk } → Same H H2 → H q = none → (∀ t ∈ ts, H t = none) → q ∉ ts → H2 q = some (.lst (ts.map V.ref)) → Paired (fun (t : Addr) (z : Key × V) => H2 t = some (.tup [kV z.1, z.2])) ts kvs → Q (.ref q) { s with heap := h1, toks := tk }) :
    wpAny (model X.prog X.w) X.A (eval (.Call (.Name "list" p) [.Call (.Attribute (.Name y py) "items" apos) [] [] cpos] [] pos) X.env) Q E s := by
  obtain ⟨m, hn, hl⟩ := I.loc
  obtain ⟨u, r, l⟩ := hl j y (.ref d) hj hy (.inl hk)
  obtain rfl : u = Value.ref d := r
  have lk : m y = some (.ref d) := by
    rcases l with ⟨_, e⟩ | ⟨k, _⟩
    · exact e
    · have k : X.env.scope.names.lookup y = some .cell ∨ X.env.scope.names.lookup y = some .free := k
      rw [hk] at k
      rcases k with k | k <;> cases k
  obtain ⟨hz, hs0, vs, kv, hdo⟩ := I.hok d _ hd
  obtain ⟨ep, hat⟩ := hdo.dictAt
  have lkv : kvs.length = vs.length := Paired.length kv
  have hv : bootBuiltins "list" = some (.type "list") := by decide +kernel
  refine wpAny_Call_Name_kw (ld_blt I hg hm hv (PyProof.Rows.callWith_type1 ?_ (by rfl) rfl))
  show wpAny _ _ (spliced ((false, eval (.Call (.Attribute (.Name y py) "items" apos) [] [] cpos) X.env) :: backTo pos (starEach [] X.env))) _ _ s
  refine Calls.spliced_cons (wpAny_Call_method (T := "dict") (id := "dict.items") (by rfl) rfl hline F.plainAttrs_dict F.slot_dict_items F.type_dict_items (wpAny_Name (wpAny_loadName_local I.ok.kind hk hn lk ⟨hdo.typeIs, hdo.mapOf.noDict, ?_⟩) hdb))
  have I2 : Inv X pins σ H { s with heap := s.heap.push { cls := .type "dict_items", data := .fields #[.ref d] } } := I.kept (t' := s.toks) fun b ob q => Heap.get?_push_of_some _ q
  show wpAny _ _ (callWith cpos (.builtin "dict.items") [.ref d] [] []) _ _ s
  refine method_meetsIn F.slot_dict_items F.entry_dict_items rfl (PySem.evalArgs_none ⟨rfl, hdo.typeIs, F.args_dict_items_1 _, _, meets_dict_items (mixKind X.prog X.w) d hs0, ⟨vs, hdo⟩, Calls.spliced_nil ?_⟩)
  refine PySem.W.kdx_call (knd := mixKind X.prog X.w) (kvs := vs) (ep := ep) (I.ok.hd hc) ⟨_, Heap.get?_push_size _ rfl, rfl, rfl⟩ (hat.push _) (by omega) fun h1 tk acc c as kk hS hln hG hacc => ?_
  obtain ⟨H2, k1, k2, k3, k4, k5, k6, J⟩ := LiI.items_laid (tk := tk) I2 hz kv kk hS hln hG hacc
  exact h _ tk H2 _ as J k1 k2 k3 k4 k5 k6
end
end Gz
end
section
set_option maxRecDepth 100000
set_option maxHeartbeats 2000000
namespace Gz
open PySem L2 PySem.Spec PyProof.Rows GenW

/-- a row of the consumer's list: a list of pairs, all of it new -/
def RowAt (H1 : Hp) (bad : List Addr) (H : Hp) (r : Addr) (kvs : List (Key × V)) : Prop := r ∉ bad ∧ H1 r = none ∧ ∃ ts : List Addr, H r = some (.lst (ts.map V.ref)) ∧ (∀ t ∈ ts, t ∉ bad ∧ H1 t = none) ∧ Paired (fun (t : Addr) (z : Key × V) => H t = some (.tup [kV z.1, z.2])) ts kvs
theorem pair_mem {α β : Type} {F G : α → β → Prop} : ∀ {xs : List α} {ys : List β}, Paired F xs ys → (∀ x y, x ∈ xs → F x y → G x y) → Paired G xs ys
  | _, _, .nil, _ => .nil
  | _, _, .cons r t, h => .cons (h _ _ List.mem_cons_self r) (pair_mem t fun x y hx => h x y (List.mem_cons_of_mem _ hx))
theorem RowAt.mono {H1 H H' : Hp} {bad : List Addr} {r : Addr} {kvs : List (Key × V)} (h : RowAt H1 bad H r kvs) (k : ∀ b o, b ∉ bad → H b = some o → H' b = some o) : RowAt H1 bad H' r kvs := by
  obtain ⟨h1, h2, ts, h3, h4, h5⟩ := h
  exact ⟨h1, h2, ts, k r _ h1 h3, h4, pair_mem h5 fun t z ht e => k t _ (h4 t ht).1 e⟩
theorem RowAt.less {H1 H : Hp} {bad bad' : List Addr} {r : Addr} {kvs : List (Key × V)} (h : RowAt H1 bad H r kvs) (k : ∀ b, b ∈ bad' → b ∈ bad) : RowAt H1 bad' H r kvs := by
  obtain ⟨h1, h2, ts, h3, h4, h5⟩ := h
  exact ⟨fun q => h1 (k r q), h2, ts, h3, fun t ht => ⟨fun q => (h4 t ht).1 (k t q), (h4 t ht).2⟩, h5⟩
def tLcItems (ty : TYC) : TE := fun σ H Q => ty σ H fun n Yv H1 => n ≤ sizeLine ∧ MonoY Yv ∧ ∃ kv : Nat → List (Key × V), (∀ i x H', Yv i x H' → ∃ d, x = .ref d ∧ H' d = some (.dK (kv i))) ∧
  ∀ (D : Addr) (rows : List Addr) (H' : Hp), Same H1 H' → H1 D = none → H' D = some (.lst (rows.map V.ref)) → rows.length = n → (∀ j r, rows[j]? = some r → RowAt H1 [D] H' r (kv j)) → Q (.ref D) H'
/-- [list(y.items()) for y in g(..)]: the run, for any use of the list -/
theorem lcItems_core {X : Cx} {k j : Nat} {iter : Expr} {ty : TYC} {scope : Scope} {y : Str} {p py apos cpos lpos ypos pos pos' : Pos} {pins : Zs} {s : Shared} {σ : L2.St} {H : Hp} {Q : VK} {use : Option (Value → Sem Unit)} {Qf : Value → Shared → Prop} (hc : X.calm = true) (hN : X.N.Nodup) (hi : PYen X k iter ty) (hr : Room (k + 1) X.A) (ok : BlkOk X.N X.env.scope scope [(y, j)])
    (hloc : (relS scope X.env.scope).names.lookup y = some .local) (hcl : ∀ m, cellsFrom m scope.names (cloFrom X.env.cells scope.names []) = [])
    (hgl : ∀ (s : Shared) (H : Hp) (C : Addr) (cl : List (Str × Addr)), Gl (X.blk s H scope (compEnvC scope cl C X.env) []) "list") (hml : X.mg "list" = none) (hdb : (y == ("__debug__" : Str)) = false) (hline : (apos.endLine == cpos.line) = true)
    (hs : ∀ x, foldedSetIterable iter X.env x = pure x) (I : Inv X pins σ H s) (h : tLcItems ty σ H Q)
    (hRR : ∀ D C s' m H', Inv X pins σ H' s' → Q (.ref D) H' → s'.heap.Ns C m → FpOk X pins H' C → compPost (model X.prog X.w) X.A X.xe use Qf (.ref D) C (.ok .next) s') :
    wpAny (model X.prog X.w) X.A (comprehension (.ListComp (.Call (.Name "list" p) [.Call (.Attribute (.Name y py) "items" apos) [] [] cpos] [] lpos) [⟨.Name y ypos, iter, [], 0⟩] scope pos) scope X.env pos' (newList []) false (eval iter X.env) use) Qf X.xe s := by
  refine wpAny_comprehension_free (use := use) rfl hs (closure_ok fun z hz e => ?_) ok.kind (fun z hz e => by rw [ok.uniq z hz, e]) (thn (hi.run pins s σ H _ I h) fun xv s1 hx => ?_)
  · rcases ok.free z hz e with q | q
    · exact I.ok.has _ (.inl q)
    · exact I.ok.has _ (.inr q)
  obtain ⟨H1, sc, n, Yv, I1, ⟨a, g, c, hl, rfl, ha, hhs, hg, hgs, hos, hb, hlim, hsz, hkp, wake⟩, hn, hmo, kv, hkv, hfin⟩ := hx
  refine wpAny_pyIter_gen hg (wpAny_newObj_type (newEnv_comp ?_) (by show 0 ≤ sizeLine; unfold sizeLine; omega))
  generalize hD : s1.heap.objs.size = D
  have lowH : ∀ b ∈ hl, H1 b = none ∧ sc.heap.get? b = none := fun b hb' => ⟨I1.hok.fresh (hhs b hb').1, Heap.get?_none_of_le (hhs b hb').1⟩
  have I2 : Inv X pins σ (exH hl s1.heap H1) s1 := I1.call' (ch := []) hos (un_ex (Un.kept hkp) lowH) (hok_ex (I1.hok.kept hkp) fun b hb' => (lowH b hb').1) hb fun b z => by simp at z
  generalize hs3 : ({ s1 with heap := s1.heap.push { cls := .type "list", data := .seq ([] : List Value).toArray } } : Shared) = s3
  have h3 : s3.heap = s1.heap.push { cls := .type "list", data := .seq ([] : List Value).toArray } := by rw [← hs3]
  have kp3 : ∀ b o, s1.heap.get? b = some o → s3.heap.get? b = some o := fun b o e => by rw [h3]; exact Heap.get?_push_of_some _ e
  have I3 : Inv X pins σ (upd (exH hl s1.heap H1) D (.lst [])) s3 := by
    rw [← hs3]
    refine I2.laid (t' := s1.toks) (fun b o e => Heap.get?_push_of_some _ e) (Nat.le_of_eq hD) ⟨Nat.zero_le _, [], 0, .nil, ?_⟩
    rw [← hD]
    exact Heap.get?_push_size _ rfl
  have I4 := block_start (fp := []) I3 ok hN fun b hb' => nomatch hb'
  show codeAny _ _ (.compStart _ 0 (.ref a) (.ref D) (compEnvC scope (cellsFrom (s3.heap.objs.size + 1) scope.names (cloFrom X.env.cells scope.names [])) s3.heap.objs.size X.env)) (compPost (model X.prog X.w) X.A X.xe use Qf (.ref D) s3.heap.objs.size) { s3 with heap := pushCells (s3.heap.push { cls := .type "dict", data := .dict #[] }) scope.names }
  have hceC : (compEnvC scope (cellsFrom (s3.heap.objs.size + 1) scope.names (cloFrom X.env.cells scope.names [])) s3.heap.objs.size X.env).cells = [] := hcl _
  have hgl' := fun (s : Shared) (H : Hp) => hgl s H s3.heap.objs.size (cellsFrom (s3.heap.objs.size + 1) scope.names (cloFrom X.env.cells scope.names []))
  have hlo : (compEnvC scope (cellsFrom (s3.heap.objs.size + 1) scope.names (cloFrom X.env.cells scope.names [])) s3.heap.objs.size X.env).scope.names.lookup y = some .local := hloc
  have hceL : (compEnvC scope (cellsFrom (s3.heap.objs.size + 1) scope.names (cloFrom X.env.cells scope.names [])) s3.heap.objs.size X.env).locals = s3.heap.objs.size := rfl
  generalize compEnvC scope (cellsFrom (s3.heap.objs.size + 1) scope.names (cloFrom X.env.cells scope.names [])) s3.heap.objs.size X.env = ce at I4 hceC hgl' hlo hceL ⊢
  generalize hC : s3.heap.objs.size = C at hceL ⊢
  have sz3 : s3.heap.objs.size = s1.heap.objs.size + 1 := by rw [h3]; exact Heap.size_push ..
  have hCD : C ≠ D := by omega
  have scD : sc.heap.objs.size ≤ D := by omega
  have scC : sc.heap.objs.size ≤ C := by omega
  have hlD : ∀ b ∈ hl, b ≠ D ∧ b ≠ C := fun b hb' => by
    have q := (hhs b hb').2.1
    have q1 : b < D := by rw [← hD]; exact q
    have q2 : b < C := Nat.lt_of_lt_of_le q1 (by omega)
    exact ⟨Nat.ne_of_lt q1, Nat.ne_of_lt q2⟩
  have hDl : D ∉ hl := fun q => (hlD D q).1 rfl
  have hCl : C ∉ hl := fun q => (hlD C q).2 rfl
  have H1D : H1 D = none := I1.hok.fresh scD
  have H1C : H1 C = none := I1.hok.fresh scC
  have scDn : sc.heap.get? D = none := Heap.get?_none_of_le scD
  have hnc : ∀ z q, ce.cells.lookup z ≠ some q := fun z q e => by rw [hceC] at e; cases e
  have lowDH : ∀ b ∈ D :: hl, H1 b = none := fun b hb' => by
    rcases List.mem_cons.mp hb' with e | hb'
    · rw [e]; exact H1D
    · exact (lowH b hb').1
  generalize hs4 : ({ s3 with heap := pushCells (s3.heap.push { cls := .type "dict", data := .dict #[] }) scope.names } : Shared) = s4 at I4 ⊢
  have kp4 : ∀ b o, s3.heap.get? b = some o → s4.heap.get? b = some o := fun b o e => by rw [← hs4]; exact pushCells_keeps _ _ _ _ (Heap.get?_push_of_some _ e)
  have os3 : s3.os = sc.os := by rw [← hs3]; exact hos
  have gens4 : s4.gens = s1.gens := by rw [← hs4, ← hs3]
  have base4 : Un (frs X.stack) [] H1 (upd (exH hl s1.heap H1) D (.lst [])) sc.heap s4.heap := un_up (un_ex (Un.kept fun b o e => kp4 b o (kp3 b o (hkp b o e))) lowH) H1D scDn
  have I5 : Inv (X.blk sc H1 scope ce []) [] (L2.wipe σ [j]) (upd (exH hl s1.heap H1) D (.lst [])) s4 := blk_base I1 I4 (by omega) os3 base4
  have hj : X.N[j]? = some y := ok.ix (y, j) List.mem_cons_self
  generalize hσ : L2.wipe σ [j] = σw at I5
  have hσj : ∀ v : V, σw[j]? ≠ some (some v) := fun v e => by
    rw [← hσ] at e
    exact (wipe_some e).2 List.mem_cons_self
  let Kn : KN := fun i H' zs => Same H1 H' ∧ ∃ (sw : Shared) (Hw : Hp) (rows : List Addr) (oD oC : Obj), zs = [(D, oD), (C, oC)] ∧ Inv (X.blk sc H1 scope ce []) [] σw Hw sw ∧ sw.heap.get? D = some oD ∧ sw.heap.get? C = some oC ∧
    Hw D = some (.lst (rows.map V.ref)) ∧ rows.length = i ∧ ∀ q r, rows[q]? = some r → RowAt H1 (D :: hl) H' r (kv q)
  have hmono : ∀ i H H' zs, Same H H' → Kn i H zs → Kn i H' zs := fun i H H' zs hh ⟨e1, sw, Hw, rows, oD, oC, e2, e3, e4, e5, e6, e7, e8⟩ =>
    ⟨e1.trans hh, sw, Hw, rows, oD, oC, e2, e3, e4, e5, e6, e7, fun q r e => (e8 q r e).mono fun b o _ z => hh b o z⟩
  -- the consumer wakes the generator
  have mkW : ∀ (H' : Hp) (s' s2 : Shared) (Hc : Hp) (sx : Shared) (rows : List Addr) (i : Nat), Inv (X.blk sc H1 scope ce []) [] σw Hc sx → s2.heap = sx.heap → s2.os = sx.os → AllBare s2.gens → s'.os = sc.os → Same H1 H' → H' D = none → (∀ b ∈ hl, H' b = none) →
      (∀ b ∈ hl, ∀ o, s'.heap.get? b = some o → sx.heap.get? b = some o) → (∀ b ∈ hl, ∀ u, Hc b = some u → ∃ φ, u = .ext φ) → (∀ b o, b ∉ D :: hl → H' b = some o → Hc b = some o) → Hc D = some (.lst (rows.map V.ref)) → rows.length = i →
      (∀ q r, rows[q]? = some r → RowAt H1 (D :: hl) Hc r (kv q)) → ∃ zs' H2, Wake X.prog X.w (frs X.stack) H1 sc.heap hl [D, C] zs' H' s' H2 s2 ∧ Kn i H2 zs' := by
    intro H' s' s2 Hc sx rows i Ic hh ho hb2 hos' hsm hDn hln hkpf hext hgrow hHD hlen hrow
    obtain ⟨m, ⟨oC, es, ep, hoC, hdat, hrest⟩, _⟩ := id Ic.loc
    have hoC : sx.heap.get? C = some oC := by rw [← hceL]; exact hoC
    obtain ⟨hz, its, nn, rv, hoD⟩ := Ic.hok D _ hHD
    have hCn : Hc C = none := by rw [← hceL]; exact Ic.free
    have hCb : C ∉ D :: hl := fun q => by
      rcases List.mem_cons.mp q with q | q
      · exact hCD q
      · exact hCl q
    have hgr : Same H' (drH (D :: hl) Hc) := fun b o e => by
      have hbad : b ∉ D :: hl := fun q => by
        rcases List.mem_cons.mp q with q | q
        · rw [q, hDn] at e; cases e
        · rw [hln b q] at e; cases e
      rw [drH_off hbad]
      exact hgrow b o hbad e
    refine ⟨[(D, _), (C, oC)], drH (D :: hl) Hc, ⟨?_, hb2, ?_, fun b hb' o e => by rw [hh]; exact hkpf b hb' o e, fun b hb' => drH_on (List.mem_cons_of_mem _ hb'), hgr, ?_, ⟨rfl, fun p hp => ?_, fun p hp => ?_, fun p hp => ?_⟩⟩, hsm.trans hgr, sx, Hc, rows, _, oC, rfl, Ic, hoD, hoC, hHD, hlen, fun q r e => (hrow q r e).mono fun b o hb' z => by rw [drH_off hb']; exact z⟩
    · exact ho.trans (Ic.os.trans hos'.symm)
    · rw [hh]; exact un_dr Ic.base lowDH
    · rw [hh]
      refine hok_dr Ic.hok fun b hb' u e => ?_
      rcases List.mem_cons.mp hb' with q | q
      · rw [q, hHD] at e
        cases e
        exact .inl ⟨_, rfl⟩
      · exact .inr (hext b q u e)
    · rw [hh]
      rcases List.mem_cons.mp hp with e | hp
      · rw [e]; exact hoD
      · rw [List.mem_singleton.mp hp]; exact hoC
    · rcases List.mem_cons.mp hp with e | hp
      · rw [e]; exact drH_on List.mem_cons_self
      · rw [List.mem_singleton.mp hp]
        show drH (D :: hl) Hc C = none
        rw [drH_off hCb]; exact hCn
    · rcases List.mem_cons.mp hp with e | hp
      · rw [e]; intro v q; cases q
      · rw [List.mem_singleton.mp hp]
        intro v q
        rw [show oC.data = _ from hdat] at q
        cases q
  -- the consumer after a yield
  have yl : ∀ {i : Nat} {H' : Hp} {zs : Zs} {s' : Shared}, YAt X.prog X.w X.stack H1 sc hl [D, C] a g zs H' s' → Kn i H' zs → ∀ G' : Array GenState, AllBare G' → ∃ rows : List Addr, rows.length = i ∧ H' D = none ∧ (∀ q r, rows[q]? = some r → RowAt H1 (D :: hl) H' r (kv q)) ∧
      Inv (X.blk sc H1 scope ce []) [] σw (exH hl s'.heap (upd H' D (.lst (rows.map V.ref)))) { s' with gens := G' } ∧ (rows.length ≤ sizeLine ∧ ∃ (its : List Value) (nn : Nat), Vals (rows.map V.ref) its ∧ s'.heap.get? D = some { cls := .type "list", data := .seq its.toArray nn }) ∧
      (∃ oC m, s'.heap.get? C = some oC ∧ ∀ h' : Heap, h'.get? C = some oC → h'.Ns C m) := by
    intro i H' zs s' at_ ⟨hsm, sw, Hw, rows, oD, oC, hzs, Iw, eD, eC, hwD, hlen, hrow⟩ G' hG
    subst hzs
    have zD := at_.z.ob (D, oD) List.mem_cons_self
    have zC := at_.z.ob (C, oC) (List.mem_cons_of_mem _ List.mem_cons_self)
    have nD := at_.z.no (D, oD) List.mem_cons_self
    have nC := at_.z.no (C, oC) (List.mem_cons_of_mem _ List.mem_cons_self)
    simp only at zD zC nD nC
    obtain ⟨hz, its, nn, rv, hoD⟩ := Iw.hok D _ hwD
    have eoD : s'.heap.get? D = some { cls := .type "list", data := .seq its.toArray nn } := by
      rw [zD, ← eD]; exact hoD
    obtain ⟨m, ⟨o, es, ep, ho, r⟩, hlk⟩ := id Iw.loc
    have ho : sw.heap.get? C = some o := by rw [← hceL]; exact ho
    rw [eC] at ho
    cases ho
    have hns : ∀ h' : Heap, h'.get? C = some oC → h'.Ns C m := fun h' e => ⟨oC, es, ep, e, r⟩
    refine ⟨rows, hlen, nD, hrow, ⟨Iw.ok, at_.os, hG, un_ex (un_up at_.base H1D scDn) lowH, ⟨m, ?_, fun q x v e1 e2 e3 => ?_⟩, fun z q e => absurd e (hnc z q), ?_, fun z q e => absurd e (hnc z q), fun p hp => absurd (show p ∈ ([] : List (Addr × Obj)) ++ [] from hp) (by simp), hok_ex (hok_up at_.hok nD ⟨hz, its, nn, rv, eoD⟩) fun b hb' => ?_, Iw.len⟩, ⟨by rw [List.length_map] at hz; exact hz, its, nn, rv, eoD⟩, oC, m, zC, hns⟩
    · show s'.heap.Ns ce.locals m
      rw [hceL]; exact hns _ zC
    · obtain ⟨u, rv, z⟩ := hlk q x v e1 e2 e3
      rcases z with z | ⟨_, c, e, _⟩
      · exact ⟨u, rv, .inl z⟩
      · exact absurd e (hnc x c)
    · show exH hl s'.heap _ ce.locals = none
      rw [hceL, exH_off hCl, upd_ne hCD]; exact nC
    · rw [upd_ne (hlD b hb').1]; exact (at_.hn b hb').1
  let Fn : Nat → Shared → Shared → Prop := fun _ _ s9 => ∃ zs H', YAt X.prog X.w X.stack H1 sc hl [D, C] a g zs H' s9 ∧ Kn n H' zs
  let R1 : GenEnd := fun m s₀ r s9 => ((r = .ok (.ret .none) ∨ r = .ok .next) ∧ Fn m s₀ s9) ∨ ∃ e, r = .error e ∧ False
  let Y1 : Protocol := YIt X.prog X.w X.stack H1 sc hl [D, C] a g Yv Kn
  let LI : Nat → Shared → Prop := fun m s9 => ∃ Hc gs, Inv (X.blk sc H1 scope ce []) [] σw Hc s9 ∧ s9.heap.IsGen a g ∧ s9.gens[g]? = some gs ∧ gs.Goes (model X.prog X.w) X.A.in1 R1 Y1 m (.send .none) (s9.setGen g .running)
  have hhd : X.A.handled = none := hr.hd
  have hdp : X.A.depth < recursionLimit := by have := hr.dp; omega
  have gen4 : s4.heap.IsGen a g := hg.keeps fun b o e => kp4 b o (kp3 b o e)
  have start : LI sizeLine s4 := by
    have hb4 : AllBare s4.gens := by rw [gens4]; exact hb
    obtain ⟨zs0, H2, W0, k0⟩ := mkW H1 s1 (s4.setGen g .running) (upd (exH hl s1.heap H1) D (.lst [])) s4 [] 0 I5 rfl rfl (allBare_setGen hb4 rfl) hos (Same.refl H1) H1D (fun b hb' => (lowH b hb').1) (fun b _ o e => kp4 b o (kp3 b o e))
      (fun b hb' u e => by
        rw [upd_ne (hlD b hb').1] at e
        obtain ⟨o, ho⟩ := (hhs b hb').2.2
        rw [exH_on hb' ho] at e
        cases e
        exact ⟨_, rfl⟩)
      (fun b o hb' e => by
        rw [upd_ne fun q => hb' (by rw [q]; exact List.mem_cons_self), exH_off fun q => hb' (List.mem_cons_of_mem _ q)]
        exact e) upd_same rfl fun q r e => by simp at e
    have seg0 := wake X.A.in1 [D, C] Kn zs0 (s4.setGen g .running) H2 hr.in1 I.ok.frames (fun b hb' => by
      rcases List.mem_cons.mp hb' with e | hb'
      · rw [e]; omega
      · rw [List.mem_singleton.mp hb']; omega) hmono W0 k0
    exact ⟨_, .fresh c, I5, gen4, by rw [gens4]; exact hgs, rfl, seg_imp (fun m s₀ r s9 q => .inl q) (fun m s₀ v s9 kap kap' hkk ⟨i, x, zs, H', q1, q2, q3, q4, q5, q6⟩ => ⟨i, x, zs, H', q1, q2, q3, q4, q5, fun zs' s2 H2 W k => hkk _ _ (q6 zs' s2 H2 W k)⟩) sizeLine seg0⟩
  refine codeAny_compStart_list ?loop (wpAny_pyIter_gen gen4 ?loop)
  refine compLoop_any LI ?_ sizeLine start
  rintro m s5 ⟨Hc5, gs, I5', hg5, hgs5, hgo⟩
  have hgl5 : g < s5.gens.size := (Array.getElem?_eq_some_iff.mp hgs5).1
  refine wpAny_gsz (n := g + 1) hgl5 (next_genG (F := Fn) (Er := fun _ _ => False) (Y := Y1) hhd I5'.nolimit hdp hg5 hgs5 hgo (fun v s6 gs' hbare hv hsz6 => ?_) (fun s6 hp h' hk _ => ?_) fun e s6 he => he.elim)
  · obtain ⟨i, x, zs, H', hmi, rv, at_, hy, hkn, nxt⟩ := hv
    obtain ⟨d, rfl, hd⟩ := hkv i x H' hy
    obtain ⟨rows, hlen, nD, hrow, I7, _, _⟩ := yl at_ hkn (s6.setGen g gs').gens (allBare_setGen at_.bare hbare)
    have hsm : Same H1 H' := hkn.1
    have I7 : Inv (X.blk sc H1 scope ce []) [] σw (exH hl s6.heap (upd H' D (.lst (rows.map V.ref)))) (s6.setGen g gs') := I7
    obtain ⟨og, nm, qn, hog, hogc, hogd, hogs⟩ := id at_.gen
    refine go_of (s := s6.setGen g gs') hog hogc hogd (by decide) ?_
    refine wpAny_assign_Name (store_loc I7 hN hj hlo hnc rv fun h8 I8 off8 => wpAny_tests_nil ?_)
    rw [if_pos rfl]
    have dl : d ∉ hl := fun q => by rw [(at_.hn d q).1] at hd; cases hd
    have dD : d ≠ D := fun q => by rw [q, nD] at hd; cases hd
    have hσl : j < σw.length := by rw [I7.len]; exact (List.getElem?_eq_some_iff.mp hj).1
    refine items_loc I8 hc hj (by rw [List.getElem?_set_self hσl]) hlo (by rw [exH_off dl, upd_ne dD]; exact hd) (hgl' sc H1) hml hdb hline fun h9 tk9 H9 q ts I9 kp9 n1 n2 n3 e1 e2 => ?_
    have hcE : ∀ b ∈ hl, ∃ o, exH hl s6.heap (upd H' D (.lst (rows.map V.ref))) b = some (.ext fun z => z.get? b = some o) ∧ s6.heap.get? b = some o := fun b hb' => by
      obtain ⟨_, o, ho⟩ := at_.hn b hb'
      exact ⟨o, exH_on hb' ho, ho⟩
    have hcD : exH hl s6.heap (upd H' D (.lst (rows.map V.ref))) D = some (.lst (rows.map V.ref)) := by rw [exH_off hDl, upd_same]
    have hcO : ∀ b, b ∉ D :: hl → exH hl s6.heap (upd H' D (.lst (rows.map V.ref))) b = H' b := fun b hb' => by
      rw [exH_off fun z => hb' (List.mem_cons_of_mem _ z), upd_ne fun z => hb' (by rw [z]; exact List.mem_cons_self)]
    have fresh : ∀ b, exH hl s6.heap (upd H' D (.lst (rows.map V.ref))) b = none → b ∉ D :: hl ∧ H1 b = none := fun b e => by
      have hb1 : b ∉ D :: hl := fun z => by
        rcases List.mem_cons.mp z with z | z
        · rw [z, hcD] at e; cases e
        · obtain ⟨o, q, _⟩ := hcE b z
          rw [q] at e; cases e
      refine ⟨hb1, ?_⟩
      cases e2 : H1 b with
      | none => rfl
      | some o =>
        rw [hcO b hb1, hsm b o e2] at e
        cases e
    generalize exH hl s6.heap (upd H' D (.lst (rows.map V.ref))) = Hc at I8 kp9 n1 n2 hcE hcD hcO fresh
    have h9D : H9 D = some (.lst (rows.map V.ref)) := kp9 D _ hcD
    obtain ⟨hz9, its, nn, rv9, hoD⟩ := I9.hok D _ h9D
    have hil : rows.length < sizeLine := by omega
    have hits := rv9.length
    rw [List.length_map] at hits
    refine append_at (hsz := by rw [List.size_toArray]; omega) hoD fun h10 sb ho10 => ?_
    have I10 : Inv (X.blk sc H1 scope ce []) [] (σw.set j (some (.ref d))) (upd H9 D (.lst ((rows ++ [q]).map V.ref))) { s6.setGen g gs' with heap := h10, toks := tk9 } := by
      refine I9.write (t' := tk9) (by rw [h9D]; trivial) (.inl rfl) (fun b u hb' z => (sb.2 b hb').trans z) ⟨_, ho10⟩ ⟨by rw [List.length_map, List.length_append]; show rows.length + 1 ≤ sizeLine; omega, its ++ [.ref q], nn + 1, by rw [List.map_append]; exact rv9.append (.cons rfl .nil), ?_⟩
      rw [ho10]
      simp
    have I11 : Inv (X.blk sc H1 scope ce []) [] σw (upd H9 D (.lst ((rows ++ [q]).map V.ref))) { s6.setGen g gs' with heap := h10, toks := tk9 } := I10.weak (by rw [List.length_set]) fun l v e => by
      by_cases hlj : j = l
      · subst hlj; exact absurd e (hσj v)
      · rw [List.getElem?_set_ne hlj]; exact e
    have up : ∀ b o, b ∉ D :: hl → Hc b = some o → upd H9 D (.lst ((rows ++ [q]).map V.ref)) b = some o := fun b o hb' e => by
      rw [upd_ne fun z => hb' (by rw [z]; exact List.mem_cons_self)]
      exact kp9 b o e
    have kpx : ∀ b ∈ hl, ∀ o, s6.heap.get? b = some o → h10.get? b = some o ∧ upd H9 D (.lst ((rows ++ [q]).map V.ref)) b = some (.ext fun z => z.get? b = some o) := fun b hb' o e => by
      obtain ⟨o', q1, q2⟩ := hcE b hb'
      rw [e] at q2
      cases q2
      have q3 : upd H9 D (.lst ((rows ++ [q]).map V.ref)) b = some (.ext fun z => z.get? b = some o) := by
        rw [upd_ne (hlD b hb').1]; exact kp9 b _ q1
      exact ⟨(I11.hok b _ q3).1, q3⟩
    obtain ⟨zs', H2, W, k2⟩ := mkW H' s6 (({ s6.setGen g gs' with heap := h10, toks := tk9 } : Shared).setGen g .running) (upd H9 D (.lst ((rows ++ [q]).map V.ref))) { s6.setGen g gs' with heap := h10, toks := tk9 } (rows ++ [q]) (i + 1) I11 rfl rfl (allBare_setGen (s := { s6.setGen g gs' with heap := h10, toks := tk9 }) (allBare_setGen at_.bare hbare) rfl) at_.os hsm nD (fun b hb' => (at_.hn b hb').1) (fun b hb' o e => (kpx b hb' o e).1)
      (fun b hb' u e => by
        obtain ⟨_, o, ho⟩ := at_.hn b hb'
        rw [(kpx b hb' o ho).2] at e
        cases e
        exact ⟨_, rfl⟩)
      (fun b o hb' e => up b o hb' (by rw [hcO b hb']; exact e)) upd_same (by rw [List.length_append, hlen]; rfl) (fun l r e => by
        by_cases hll : l < rows.length
        · rw [List.getElem?_append_left hll] at e
          exact (hrow l r e).mono fun b o hb' z => up b o hb' (by rw [hcO b hb']; exact z)
        · rw [List.getElem?_append_right (by omega)] at e
          have hl0 : l - rows.length = 0 := by
            have := (List.getElem?_eq_some_iff.mp e).1
            simp at this; omega
          rw [hl0] at e
          simp at e
          subst e
          have el : l = i := by omega
          subst el
          have fq := fresh q n1
          refine ⟨fq.1, fq.2, ts, ?_, fun t ht => fresh t (n2 t ht), pair_mem e2 fun t z ht e => ?_⟩
          · rw [upd_ne fun z => fq.1 (by rw [z]; exact List.mem_cons_self)]; exact e1
          · rw [upd_ne fun z => (fresh t (n2 t ht)).1 (by rw [z]; exact List.mem_cons_self)]; exact e)
    have res := nxt zs' _ H2 W k2
    cases m with
    | zero => exact False.elim res
    | succ m =>
      have hsz' : g < s6.gens.size := by
        have q : (s6.setGen g gs').gens.size = s6.gens.size := setGen_size _ _ _
        have q2 : g + 1 ≤ (s6.setGen g gs').gens.size := hsz6
        omega
      have gen10 : h10.IsGen a g := by
        obtain ⟨o, nm', qn', ho, r⟩ := at_.gen
        exact ⟨o, nm', qn', (kpx a ha o ho).1, r⟩
      exact ⟨m, Nat.lt_succ_self m, _, gs', I11, gen10, setGen_at hsz', res⟩
  · obtain ⟨zs, H', at_, hkn⟩ := hp
    obtain ⟨rows, hlen, nD, hrow, _, hoD, oC, mC, zC, hns⟩ := yl at_ hkn (s6.setGen g .finished).gens (allBare_setGen at_.bare rfl)
    have hsm : Same H1 H' := hkn.1
    have nC : H' C = none := by
      obtain ⟨_, sw, Hw, _, _, _, rfl, _⟩ := hkn
      exact at_.z.no _ (List.mem_cons_of_mem _ List.mem_cons_self)
    obtain ⟨hz, its, nn, rv, eoD⟩ := hoD
    have hokf : HOk X.prog X.w (upd H' D (.lst (rows.map V.ref))) h' := hok_up (at_.hok.kept hk) nD ⟨by rw [List.length_map]; exact hz, its, nn, rv, hk _ _ eoD⟩
    have J : Inv X pins σ (upd H' D (.lst (rows.map V.ref))) { s6.setGen g .finished with heap := h' } := I1.call' (ch := []) at_.os (un_off (un_up at_.base H1D scDn) fun b o _ e => hk b o e) hokf (allBare_setGen at_.bare rfl) fun b z => by simp at z
    refine hRR D C _ mC _ J ?_ (hns h' (hk _ _ zC)) (I1.fpOk scC (by rw [upd_ne hCD]; exact nC))
    refine hfin D rows _ (fun b o e => ?_) H1D upd_same hlen fun q r e => ((hrow q r e).less fun b hb' => ?_).mono fun b o hb' e => ?_
    · rw [upd_ne fun q => by rw [q, H1D] at e; cases e]; exact hsm b o e
    · rw [List.mem_singleton.mp hb']; exact List.mem_cons_self
    · rw [upd_ne fun q => hb' (by rw [q]; exact List.mem_cons_self)]; exact e
section
variable {X : Cx} {k j : Nat} {iter : Expr} {ty : TYC} {scope : Scope} {y : Str} {p py apos cpos lpos ypos pos : Pos}
theorem pe_lcItems (hc : X.calm = true) (hN : X.N.Nodup) (hi : PYen X k iter ty) (hr : Room (k + 1) X.A) (ok : BlkOk X.N X.env.scope scope [(y, j)])
    (hloc : (relS scope X.env.scope).names.lookup y = some .local) (hcl : ∀ m, cellsFrom m scope.names (cloFrom X.env.cells scope.names []) = [])
    (hgl : ∀ (s : Shared) (H : Hp) (C : Addr) (cl : List (Str × Addr)), Gl (X.blk s H scope (compEnvC scope cl C X.env) []) "list") (hml : X.mg "list" = none) (hdb : (y == ("__debug__" : Str)) = false) (hline : (apos.endLine == cpos.line) = true)
    (hs : ∀ x, foldedSetIterable iter X.env x = pure x := by intro _; rfl) :
    PE X (.ListComp (.Call (.Name "list" p) [.Call (.Attribute (.Name y py) "items" apos) [] [] cpos] [] lpos) [⟨.Name y ypos, iter, [], 0⟩] scope pos) (tLcItems ty) := by
  refine ⟨fun pins s σ H Q I h => ?_⟩
  rw [eval_ListComp]
  refine lcItems_core (use := none) hc hN hi hr ok hloc hcl hgl hml hdb hline hs I h fun D C s' m H' J q hn f => ⟨m, hn, fun h2 sb => ?_⟩
  obtain ⟨f0, f1, _, f3, f4, f5⟩ := f
  exact ⟨.ref D, H', J.turned (t' := s'.toks) (fun b o hb e => (sb.2 b hb).trans e) f0 f1 f3 f4 f5, rfl, q⟩
/-- name = [list(y.items()) for y in g(..)] on one line, the name a local -/
theorem ps_setLcItems {i : Nat} {z : Str} {pz spos : Pos} (hc : X.calm = true) (hN : X.N.Nodup) (hz : X.N[i]? = some z) (hzl : X.env.scope.names.lookup z = some .local)
    (hsw : swapsWith (.ListComp (.Call (.Name "list" p) [.Call (.Attribute (.Name y py) "items" apos) [] [] cpos] [] lpos) [⟨.Name y ypos, iter, [], 0⟩] scope pos) (some (.Name z pz)) spos.line X.env = pure true)
    (hi : PYen X k iter ty) (hr : Room (k + 1) X.A) (ok : BlkOk X.N X.env.scope scope [(y, j)])
    (hloc : (relS scope X.env.scope).names.lookup y = some .local) (hcl : ∀ m, cellsFrom m scope.names (cloFrom X.env.cells scope.names []) = [])
    (hgl : ∀ (s : Shared) (H : Hp) (C : Addr) (cl : List (Str × Addr)), Gl (X.blk s H scope (compEnvC scope cl C X.env) []) "list") (hml : X.mg "list" = none) (hdb : (y == ("__debug__" : Str)) = false) (hline : (apos.endLine == cpos.line) = true)
    (hs : ∀ x, foldedSetIterable iter X.env x = pure x := by intro _; rfl) :
    PS X (.Assign [.Name z pz] (.ListComp (.Call (.Name "list" p) [.Call (.Attribute (.Name y py) "items" apos) [] [] cpos] [] lpos) [⟨.Name y ypos, iter, [], 0⟩] scope pos) spos) (tAsg (tLcItems ty) (gName i)) := by
  refine ⟨fun pins s σ H D I h => ?_⟩
  rw [exec_Assign_Name_used _ _ _ _ hsw]
  have h : tLcItems ty σ H (fun x H1 => gName i x σ H1 D.nx) := h
  refine wpAny_bind (wpAny_standAt (wpAny_bind (wpAny_bind (thn (lcItems_core (use := some (assign (.Name z pz) X.env)) (Qf := fun _ s' => SP X pins D .next s') hc hN hi hr ok hloc hcl hgl hml hdb hline hs I h fun L C s' m H' J q hn f => ?_) fun _ s' hq => wpAny_pure (wpAny_pure hq)))))
  show wpAny _ _ (assign (.Name z pz) X.env (.ref L)) _ _ _
  obtain ⟨f0, f1, _, f3, f4, f5⟩ := f
  refine wpAny_assign_Name (store_ok2 (v := V.ref L) J hN hz (.inl hzl) rfl (fun s2 J2 ⟨a, sb, ha⟩ => ?_) (.inr hzl))
  have haC : C ≠ a := by
    rcases ha with q | q
    · rw [q]; exact f1
    · exact fun e => f4 z a q e.symm
  exact ⟨m, hn.sameBut sb haC, fun h3 sb3 => ⟨_, H', J2.turned (t' := s2.toks) (fun b o hb e => (sb3.2 b hb).trans e) f0 f1 f3 f4 f5, q⟩⟩
end
end Gz
end
section
set_option maxRecDepth 100000
set_option maxHeartbeats 1000000
namespace K8
open PySem L2 Dl
local macro_rules | `(tactic| k_extra "mod") => `(tactic| first | (show (0 : Int) < _; decide) | (show (0 : Int) < _; omega) | assumption)
local macro_rules | `(tactic| k_extra "mul") => `(tactic| (show CMul _ _; first | exact .inr ⟨by decide, by decide⟩ | exact .inl ⟨by decide, by decide⟩ | exact .inr ⟨by omega, by omega⟩ | exact .inl ⟨by omega, by omega⟩))
local macro_rules | `(tactic| k_extra "side") => `(tactic| first | k_extra "mod" | k_extra "mul" | (show CDiv _ _; exact ⟨by first | decide | omega, by first | decide | omega⟩) | (show CPow _ _; exact ⟨by decide, by decide, by decide⟩))
local macro_rules | `(tactic| k_extra "rk") => `(tactic| first
  | (with_reducible exact rk_I0)
  | ((with_reducible apply rk_I); k_extra "side")
  | ((with_reducible apply rk_eq); exact rfl)
  | ((with_reducible apply rk_ne); exact rfl))
local macro_rules | `(tactic| k_extra "cr") => `(tactic| first
  | (with_reducible exact cr_int1) | (with_reducible exact cr_abs1) | ((with_reducible apply cr_len); first | exact rd_list | exact rd_at) | ((with_reducible apply cr_lenS); first | decide | assumption))
local macro_rules | `(tactic| k_extra "ev") => `(tactic| first
  | (with_reducible exact ek_c)
  | ((with_reducible apply ek_var); exact rfl)
  | ((with_reducible apply ek_op); k_extra "ev"; k_extra "ev"; k_extra "rk")
  | ((with_reducible apply ek_cb); (with_reducible apply ea_cons); k_extra "ev"; (with_reducible exact ea_nil); k_extra "cr"))
section
variable {F : Fx} {B : Bs} {δ : Dl.Env} {μ : Mu} {K : PySem.W.Frag}
/-! ### {k: v for ..} -/
theorem valV_none {kvs : List (Key × V)} {k : Key} (h : ∀ p ∈ kvs, p.1 ≠ k) : valV kvs k = none := by
  induction kvs with
  | nil => rfl
  | cons p r ih => rw [valV_neg (h p List.mem_cons_self)]; exact ih fun q hq => h q (List.mem_cons_of_mem _ hq)
theorem en_dc {wi : TI} {g : TG} {tk tv : TE} {vs : List Nat} {n : Nat} {kn : Nat → Know} (key : Nat → Key) (val : Nat → Know) (hs : EI F wi δ μ n kn) (hn : n ≤ sizeLine) (hw : Gw g vs) (nd : ∀ i j, i < n → j < n → key i = key j → i = j)
    (he : ∀ i, i < n → ∃ δ', Gk g (kn i) (wipeE δ vs) δ' ∧ Ek F tk δ' μ (valK (kV (key i))) ∧ Ek F tv δ' μ (val i)) : EN F (tDc wi g tYes tk tv vs) δ μ (.dct ((List.range n).map fun i => (key i, val i))) := fun G H σ st Q q =>
  hs G H σ st _ fun J G1 H1 Gd Y g1 j1 W hGd hY L hL => by
    have st1 := st.step g1 j1
    have nL : L ∉ F.P := F.offP j1 hL
    let Pv : Nat → Hp → Prop := fun i H2 => ∃ G2 acc, Gr F.P G1 H1 G2 H2 ∧ F.J G2 H2 ∧ H2 L = some (.dK acc) ∧ G2 L = none ∧ Paired (fun (p : Key × V) (z : Key × Know) => p.1 = z.1 ∧ z.2.p p.2 G2) acc ((List.range i).map fun i => (key i, val i))
    refine ⟨fun i m H => m = n - i ∧ i ≤ n ∧ Pv i H, ⟨n, by simp, Nat.zero_le _, G1, [], Gr.own g1.gh hL, F.loc nL j1, upd_same, none_sub g1.gh hL, .nil⟩, ?_⟩
    rintro i m H2 ⟨rfl, hi, G2, acc, g2, j2, hA, hG, r⟩
    have hgd := hGd H2 (g2.gg.trans g2.gh)
    by_cases hlt : i < n
    · refine .inr ⟨W.goes i H2 hlt hgd, Pv (i + 1), fun H' p' => ⟨n - (i + 1), by omega, rfl, hlt, p'⟩, fun x H3 yy => ?_⟩
      obtain ⟨G3, g3, p⟩ := hY i H2 x H3 G2 hlt g2.gg g2.gh (W.yields i H2 x H3 hlt hgd yy)
      have j3 := F.pure g3 j2
      have g3' : Gr F.P G2 H2 G3 H3 := g3.wide fun _ h => nomatch h
      have st3 := (st1.step g2 j2).step g3' j3
      obtain ⟨δ', hg, hk, hv⟩ := he i hlt
      refine hw _ _ _ _ (hg G3 H3 _ x g3.gh p (st3.env.wipe vs) _ fun σ' e' => ?_)
      have st4 : Stt F G3 H3 δ' μ σ' := ⟨st3.sub, st3.j, e', st3.own⟩
      refine iteT (B := Pv (i + 1) H3) ?_
      refine hk G3 H3 σ' st4 _ fun y G4 H4 g4 j4 ey => hv G4 H4 σ' (st4.step g4 j4) _ fun z G5 H5 g5 j5 pz => ?_
      have hA5 : H5 L = some (.dK acc) := g5.hh L _ nL (g4.hh L _ nL (g3'.hh L _ nL hA))
      have hG5 : G5 L = none := g5.fr L (nn_of (g4.hh L _ nL (g3'.hh L _ nL hA))) (g4.fr L (nn_of (g3'.hh L _ nL hA)) (g3'.fr L (nn_of hA) hG))
      have hlen : acc.length = i := by have := Paired.length r; rw [List.length_map, List.length_range] at this; exact this
      have hsm : Same G2 G5 := g3.gg.trans (g4.gg.trans g5.gg)
      refine ⟨acc, key i, ey, hA5, by omega, G5, acc ++ [(key i, z)], ?_, F.loc nL j5, ?_, hG5, ?_⟩
      · exact (((g2.trans g3').trans g4).trans g5).mut (.inr hL) hG5
      · rw [upd_same, putK_new]
        refine valV_none fun p hp => ?_
        obtain ⟨l, hl⟩ := List.getElem?_of_mem hp
        obtain ⟨z2, h1, h2⟩ := LiI.paired_get r hl
        rw [List.getElem?_map] at h1
        have hli : l < i := by
          have := (List.getElem?_eq_some_iff.mp hl).1
          omega
        rw [List.getElem?_range hli] at h1
        cases h1
        rw [h2.1]
        intro e
        have := nd l i (by omega) hlt e
        omega
      · rw [List.range_succ, List.map_append]
        have key2 : ∀ {a b : List (Key × V)} {c d : List (Key × Know)}, Paired (fun (p : Key × V) (z : Key × Know) => p.1 = z.1 ∧ z.2.p p.2 G5) a c → Paired (fun (p : Key × V) (z : Key × Know) => p.1 = z.1 ∧ z.2.p p.2 G5) b d → Paired (fun (p : Key × V) (z : Key × Know) => p.1 = z.1 ∧ z.2.p p.2 G5) (a ++ b) (c ++ d) := by
          intro a b c d h1 h2
          induction h1 with
          | nil => exact h2
          | cons q _ ih => exact .cons q ih
        exact key2 (Paired.mapP r fun p z h => ⟨h.1, z.2.mono hsm h.2⟩) (.cons ⟨rfl, pz⟩ .nil)
    · have e : i = n := by omega
      subst e
      exact .inl ⟨W.stops H2 hgd, q L _ G2 H2 (back_none g1 hL) hG nL hA ⟨acc, rfl, r⟩ (g1.trans g2) j2⟩
end
/-! ### the generator: its text and reading -/
abbrev s_patterns : Stmt := topS 3
theorem sc_patterns : GScope ["names", "words", "used", "keys", "choices", "many_words", "picks", "at", "pick"] ["names", "words", "used"] (defScope s_patterns) := ⟨rfl, rfl, rfl, by decide +kernel, rfl, by decide +kernel, by decide +kernel⟩
def te_pattern (K : PySem.W.Frag) : TE := tDc (iEnum K (tCons (tVar 6) tNil)) (gTup K 2 (gCons (gName 7) (gCons (gName 8) gNil))) tYes (tOp (rIxL K) (tVar 3) (tVar 7)) (tOp (rIxL K) (tVar 4) (tVar 8)) [7, 8]
def y_patterns (K : PySem.W.Frag) (Yv : Gz.YV) : Gz.TY :=
  Gz.ySeq (Gz.yPlain (tAsg (tCB (rListQ K) (tCons (tVar 0) tNil)) (gName 3)))
  (Gz.ySeq (Gz.yPlain (tAsg (tOp rCat (tCB (rListQ K) (tCons (tVar 1) tNil)) (tCall (sp_fresh_words K) [] E0 (tCons (tVar 2) (tCons (tCB (rLenQ K) (tCons (tVar 3) tNil)) tNil)))) (gName 4)))
  (Gz.ySeq (Gz.yPlain (tAsg (tCB (rLenQ K) (tCons (tVar 1) tNil)) (gName 5)))
  (Gz.ySeq (Gz.yPlain (tAsg (tOp rRep (tLst (tCons (tC (.int 0)) tNil)) (tCB (rLenQ K) (tCons (tVar 3) tNil))) (gName 6)))
  (Gz.ySeq (Gz.yWhile (tTest (tOp rNotNon (tVar 6) (tC .non))) (Gz.ySeq (Gz.yYield Yv (te_pattern K)) (Gz.ySeq (Gz.yPlain (tAsg (tCall (sp_next_picks K) [] E0 (tCons (tVar 6) (tCons (tVar 5) tNil))) (gName 6))) Gz.yNil)))
  Gz.yNil))))
section
variable {P : Program} {w : World} {K : PySem.W.Frag} {mg : Str → Option Value} {base : Heap} {f : Addr}
theorem d_patterns {f_fresh_words f_next_picks : Addr} {fd_fresh_words fd_next_picks : FuncData} {Yv : Gz.YV} (T : Txt mg) (C_fresh_words : CalK P w K mg base "fresh_words" s_fresh_words ["used", "many"] 1 f_fresh_words fd_fresh_words (sp_fresh_words K)) (C_next_picks : Cal P w K mg base "_next_picks" s_next_picks ["picks", "many_words"] 1 f_next_picks fd_next_picks (sp_next_picks K))
    (cdv : Value) (A : Around) (outer : List PySem.Env) (s : Shared) (H : Hp) (pn : Gz.Zs) (hr : Room 1 (A.deeper (PyProof.Rows.envOfC "patterns" (defScope s_patterns) s.heap.objs.size f cdv))) (hs : List Addr) :
    Gz.YB (Gz.gyOf P w K mg base ["names", "words", "used", "keys", "choices", "many_words", "picks", "at", "pick"] "patterns" (defScope s_patterns) f cdv A outer s H pn) hs Yv (defBody s_patterns) (y_patterns K Yv) := by
  exact Gz.yb_cons (Gz.yo_plain (ps_set (i := 3) sc_patterns.nd rfl (by first | exact Or.inl rfl | exact Or.inr rfl) (pe_callTy cx_list (by rfl) T.b_list bb_list (pa_cons (pv 0) pa_nil))))
    (Gz.yb_cons (Gz.yo_plain (ps_set (i := 4) sc_patterns.nd rfl (by first | exact Or.inl rfl | exact Or.inr rfl) (pe_op op_cat (pe_callTy cx_list (by rfl) T.b_list bb_list (pa_cons (pv 1) pa_nil)) (pe_call C_fresh_words.O (hr.mono (by decide)) (by rfl) C_fresh_words.A.g C_fresh_words.A.F.kp C_fresh_words.A.b .nil pass0 (pa_cons (pv 2) (pa_cons (pe_callB cx_len (by rfl) T.b_len bb_len (pa_cons (pv 3) pa_nil)) pa_nil))))))
    (Gz.yb_cons (Gz.yo_plain (ps_set (i := 5) sc_patterns.nd rfl (by first | exact Or.inl rfl | exact Or.inr rfl) (pe_callB cx_len (by rfl) T.b_len bb_len (pa_cons (pv 1) pa_nil))))
    (Gz.yb_cons (Gz.yo_plain (ps_set (i := 6) sc_patterns.nd rfl (by first | exact Or.inl rfl | exact Or.inr rfl) (pe_op op_rep (pe_lst (pa_cons pe_int pa_nil)) (pe_callB cx_len (by rfl) T.b_len bb_len (pa_cons (pv 3) pa_nil)))))
    (Gz.yb_cons (Gz.yo_while (pt_cmpR ox_notN (pv 6) pe_non (nomark _))
      (Gz.yb_cons (Gz.yo_yield (pe_dc (own := [("at", 7), ("pick", 8)]) (g := gTup K 2 (gCons (gName 7) (gCons (gName 8) gNil))) (tt := tYes) rfl sc_patterns.nd (pi_enum (by rfl) T.b_enumerate (pa_cons (pv 6) pa_nil)) (blkOk_by (N := ["names", "words", "used", "keys", "choices", "many_words", "picks", "at", "pick"]) (sc := defScope s_patterns) (by decide +kernel))
        (fun _ _ _ _ _ => (pg_tup rfl (pgs_cons (pg_name (i := 7) sc_patterns.nd rfl (by first | exact Or.inl rfl | exact Or.inr rfl)) (pgs_cons (pg_name (i := 8) sc_patterns.nd rfl (by first | exact Or.inl rfl | exact Or.inr rfl)) pgs_nil)))) (fun _ _ _ _ _ => pts_nil) (fun _ _ _ _ _ => (pe_ix ix_list (pv 3) (pv 7) (fun _ _ => rfl))) (fun _ _ _ _ _ => (pe_ix ix_list (pv 4) (pv 8) (fun _ _ => rfl)))))
      (Gz.yb_cons (Gz.yo_plain (ps_set (i := 6) sc_patterns.nd rfl (by first | exact Or.inl rfl | exact Or.inr rfl) (pe_call C_next_picks.O (hr.mono (by decide)) (by rfl) C_next_picks.A.g C_next_picks.A.F.kp C_next_picks.A.b .nil pass0 (pa_cons (pv 6) (pa_cons (pv 5) pa_nil)))))
      Gz.yb_nil)))
    Gz.yb_nil))))
end
end K8
end
section
set_option maxRecDepth 100000
set_option maxHeartbeats 1000000
namespace K8
open PySem L2 Dl
local macro_rules | `(tactic| k_extra "mod") => `(tactic| first | (show (0 : Int) < _; decide) | (show (0 : Int) < _; omega) | assumption)
local macro_rules | `(tactic| k_extra "mul") => `(tactic| (show CMul _ _; first | exact .inr ⟨by decide, by decide⟩ | exact .inl ⟨by decide, by decide⟩ | exact .inr ⟨by omega, by omega⟩ | exact .inl ⟨by omega, by omega⟩))
local macro_rules | `(tactic| k_extra "side") => `(tactic| first | k_extra "mod" | k_extra "mul" | (show CDiv _ _; exact ⟨by first | decide | omega, by first | decide | omega⟩) | (show CPow _ _; exact ⟨by decide, by decide, by decide⟩))
local macro_rules | `(tactic| k_extra "rk") => `(tactic| first
  | (with_reducible exact rk_I0)
  | ((with_reducible apply rk_I); k_extra "side")
  | ((with_reducible apply rk_eq); exact rfl)
  | ((with_reducible apply rk_ne); exact rfl))
local macro_rules | `(tactic| k_extra "cr") => `(tactic| first
  | (with_reducible exact cr_int1) | (with_reducible exact cr_abs1) | ((with_reducible apply cr_len); first | exact rd_list | exact rd_at) | ((with_reducible apply cr_lenS); first | decide | assumption))
local macro_rules | `(tactic| k_extra "ev") => `(tactic| first
  | (with_reducible exact ek_c)
  | ((with_reducible apply ek_var); exact rfl)
  | ((with_reducible apply ek_op); k_extra "ev"; k_extra "ev"; k_extra "rk")
  | ((with_reducible apply ek_cb); (with_reducible apply ea_cons); k_extra "ev"; (with_reducible exact ea_nil); k_extra "cr"))
section
variable {K : PySem.W.Frag}
def kvOf (names p : List Str) : List (Key × V) := (names.zip p).map fun z => (.inr z.1, .str z.2)
def Pat (x : LpIn) (H0 : Hp) : Gz.YV := fun i v H' => ∃ d, v = .ref d ∧ H0 d = none ∧ H' d = some (.dK (kvOf x.names ((x.due[i]?).getD [])))
def sp_patterns : Gz.SpY := fun vs H n Yv => ∃ (x : LpIn) (G : Hp), x.names.Nodup ∧ Same G H ∧ AllK G vs [strsK x.names, strsK x.words, strsK x.used] ∧ n = x.due.length ∧ Yv = Pat x H
theorem pat_mono (x : LpIn) (H0 : Hp) : Gz.MonoY (Pat x H0) := fun i v H H' s ⟨d, e, n, h⟩ => ⟨d, e, n, s _ _ h⟩
theorem rn_get {β : Type} {f : β → Option β} {x z : β} {l : List β} (h : M8.Rn f x l z) (e : f z = none) : l[0]? = some x ∧ ∀ (i : Nat) (p : β), l[i]? = some p → f p = l[i + 1]? := by
  induction h with
  | one x =>
    refine ⟨rfl, fun i p hp => ?_⟩
    cases i with
    | zero => cases hp; rw [e]; rfl
    | succ i => simp at hp
  | cons h1 _ ih =>
    refine ⟨rfl, fun i p hp => ?_⟩
    cases i with
    | zero =>
      cases hp
      rw [h1]
      exact (ih e).1.symm
    | succ i => exact (ih e).2 i p (by simpa using hp)
theorem yq_asg {F : Fx} {B : Bs} {δ : Dl.Env} {te : TE} {k : Know} {i n : Nat} {Hw : Hp} {rest : Gz.TY} {D : Gz.YEnds} (h : Ek F te δ [] k) (q : ∀ σ H, At F B (δ.set i (some k)) [] σ H → rest D n Hw σ H) : ∀ σ H, At F B δ [] σ H → (Gz.ySeq (Gz.yPlain (tAsg te (gName i))) rest) D n Hw σ H := fun σ H ⟨G, a⟩ =>
  h G H σ a.st _ fun v G' H' g j p => q _ _ ⟨G', (a.step g j).setS i p⟩
theorem dct_vals {G : Hp} {key : Nat → Key} {f : Nat → V} : ∀ (ls : List Nat) {vs : List (Key × V)}, Paired (fun (p : Key × V) (z : Key × Know) => p.1 = z.1 ∧ z.2.p p.2 G) vs (ls.map fun l => (key l, valK (f l))) → vs = ls.map fun l => (key l, f l)
  | [], _, .nil => rfl
  | l :: ls, (a, b) :: vs, .cons h t => by
    have h1 : a = key l := h.1
    have h2 : b = f l := h.2
    rw [h1, h2, List.map_cons, dct_vals ls t]
theorem kv_range {names p : List Str} (h : p.length = names.length) : (List.range names.length).map (fun l => ((.inr ((names[l]?).getD Str.empty) : Key), V.str ((p[l]?).getD Str.empty))) = kvOf names p := by
  unfold kvOf
  apply List.ext_getElem?
  intro i
  rw [List.getElem?_map, List.getElem?_map]
  by_cases hi : i < names.length
  · rw [List.getElem?_range hi, List.getElem?_eq_getElem (by rw [List.length_zip]; omega), List.getElem_zip]
    show some ((Sum.inr ((names[i]?).getD Str.empty) : Key), V.str ((p[i]?).getD Str.empty)) = _
    rw [List.getElem?_eq_getElem hi, List.getElem?_eq_getElem (by omega)]
    rfl
  · rw [List.getElem?_eq_none (by rw [List.length_range]; omega), List.getElem?_eq_none (by rw [List.length_zip]; omega)]
    rfl
theorem rk_notNon {F : Fx} {μ : Mu} {k : Know} {b : Bool} (h : ∀ v G, k.p v G → (!decide (v = .non)) = b) : Rk F μ rNotNon k (valK .non) (bK b) := fun G H x y s jj o p1 p2 Q q => by
  have e2 : y = .non := p2
  subst e2
  exact ⟨rfl, q _ G H (.refl s) jj (by show V.bl _ = V.bl b; rw [h x G p1])⟩
theorem at_F0 {G H : Hp} {δ : Dl.Env} {σ : L2.St} (sub : Same G H) (e : EnvK G δ σ) : At F0 ⟨[], G, H⟩ δ [] σ H := ⟨G, sub, .refl sub, ⟨sub, trivial, e, OwnK.nil⟩, (fun a ha => nomatch ha), (fun a m hm => nomatch hm)⟩
/-- the picks ahead of the i-th turn -/
def pkK (L : List (List Nat)) (i : Nat) : Know := match L[i]? with
  | some p => natsK p
  | none => valK .non
theorem r_patterns {vs : List V} {H0 : Hp} {n : Nat} {Yv : Gz.YV} (h : sp_patterns vs H0 n Yv) (H2 : Hp) (hs : Same H0 H2) :
    y_patterns K Yv { nx := fun i Hw _ H' => i = n ∧ Same Hw H' } 0 H2 (L2.start ["names", "words", "used", "keys", "choices", "many_words", "picks", "at", "pick"] vs) H2 := by
  obtain ⟨x, G, hnd, hG, hvs, rfl, rfl⟩ := h
  have ff := lp_facts x
  have hnam := x.hn
  have hwor := x.hw
  have huse := x.hu
  have hdue : x.due = (M8.T x.words.length x.names.length []).map (M8.ch (x.words ++ x.fresh) Str.empty) := M8.due_ch (d := Str.empty) ff.fn ff.fd x.names.length (by rw [ff.fl]; exact Nat.le_refl _)
  have hsmall : x.due.length ≤ 9 ^ 6 := due_small x (Nat.le_refl _)
  obtain ⟨z, hrn, hz, _, _⟩ := M8.T_run x.words.length x.names.length []
  have hrn : M8.Rn (M8.nextF x.words.length 0) (List.replicate x.names.length 0) (M8.T x.words.length x.names.length []) z := hrn
  obtain ⟨hfst, hnext⟩ := rn_get hrn hz
  have hTok := M8.T_ok x.words.length x.names.length
  generalize M8.T x.words.length x.names.length [] = L at hdue hfst hnext hTok
  have hLl : x.due.length = L.length := by rw [hdue, List.length_map]
  have hlen : vs.length = 3 := by have := hvs.length; exact this
  have e0 : L2.start ["names", "words", "used", "keys", "choices", "many_words", "picks", "at", "pick"] vs = vs.map some ++ List.replicate 6 none := by unfold L2.start; rw [hlen]; rfl
  rw [e0]
  have at0 : At F0 ⟨[], G, H2⟩ (env0 [strsK x.names, strsK x.words, strsK x.used] 6) [] (vs.map some ++ List.replicate 6 none) H2 := at_F0 (hG.trans hs) (envK_start 6 hvs)
  unfold y_patterns
  refine yq_asg (k := strsK x.names) (en_ek (en_cb (ea_cons (ek_var rfl) ea_nil) (cn_list (K := K) rd_list))) ?_ _ _ at0
  refine yq_asg (k := strsK (x.words ++ x.fresh)) (ek_eq (en_ek (en_op (en_ek (en_cb (ea_cons (ek_var rfl) ea_nil) (cn_list (K := K) (ks := x.words.map sK) rd_list))) (en_ek (en_freshWords (K := K) (used := x.used) (many := x.names.length) (by omega) (by omega) (ek_var rfl) (ek_eq (ek_cb (ea_cons (ek_var rfl) ea_nil) (cr_len (ks := x.names.map sK) rd_list)) (by rw [List.length_map])))) (rn_cat rd_list rd_list (by rw [List.length_map, List.length_map]; have := ff.fl; unfold LpIn.fresh at this; rw [this]; unfold sizeLine; omega)))) (by rw [← List.map_append]; rfl)) ?_
  refine yq_asg (k := iK (x.words.length : Int)) (ek_eq (ek_cb (ea_cons (ek_var rfl) ea_nil) (cr_len (ks := x.words.map sK) rd_list)) (by rw [List.length_map])) ?_
  refine yq_asg (k := pkK L 0) (ek_eq (en_ek (en_op (en_ek (en_lst (ea_cons ek_c ea_nil) (by show 1 ≤ sizeLine; unfold sizeLine; omega))) (ek_eq (ek_cb (ea_cons (ek_var rfl) ea_nil) (cr_len (ks := x.names.map sK) rd_list)) (by rw [List.length_map])) (rn_rep (n := (x.names.length : Int)) rd_list (by omega) (by show 1 * _ ≤ sizeLine; unfold sizeLine; omega) (by omega)))) ?_) ?_
  · unfold pkK
    rw [hfst, rep_one, Int.toNat_natCast]
    show _ = natsK (List.replicate x.names.length 0)
    unfold natsK
    rw [List.map_replicate]
    rfl
  intro σ H' at1
  refine ⟨fun k i Hw σ H => k = L.length - i ∧ i ≤ L.length ∧ Same H0 Hw ∧ ∃ Gw, At F0 ⟨[], Gw, Hw⟩ [some (strsK x.names), some (strsK x.words), some (strsK x.used), some (strsK x.names), some (strsK (x.words ++ x.fresh)), some (iK (x.words.length : Int)), some (pkK L i), none, none] [] σ H, ⟨L.length, by omega, by omega, hs, G, at1⟩, ?_⟩
  rintro k i Hw σ H ⟨rfl, hi, h0w, Gw, G1, a⟩
  have htest : ETk F0 (tTest (tOp rNotNon (tVar 6) (tC .non))) [some (strsK x.names), some (strsK x.words), some (strsK x.used), some (strsK x.names), some (strsK (x.words ++ x.fresh)), some (iK (x.words.length : Int)), some (pkK L i), none, none] [] (· = (L[i]?).isSome) := et_test (ek_op (ek_var rfl) ek_c (rk_notNon fun v G p => by
    unfold pkK at p
    cases e : L[i]? with
    | none =>
      rw [e] at p
      have p : v = .non := p
      rw [p]; rfl
    | some q =>
      rw [e] at p
      obtain ⟨b, ws, e2, _⟩ := p
      rw [e2]; rfl))
  refine htest G1 H σ a.st _ fun b G2 H3 g2 j2 eb => ?_
  have a2 := a.step g2 j2
  cases eL : L[i]? with
  | none =>
    rw [eL] at eb
    rw [eb]
    refine iteF ⟨?_, fun b o e => a2.gr.hh b o (by simp) e⟩
    have := List.getElem?_eq_none_iff.mp eL
    omega
  | some p =>
    rw [eL] at eb
    rw [eb]
    have hiL : i < L.length := (List.getElem?_eq_some_iff.mp eL).1
    have hpk : pkK L i = natsK p := by unfold pkK; rw [eL]
    rw [hpk] at a2
    obtain ⟨hpo, hpl⟩ := hTok p (List.mem_of_getElem? eL)
    have hdi : (x.due[i]?).getD [] = M8.ch (x.words ++ x.fresh) Str.empty p := by rw [hdue, List.getElem?_map, eL]; rfl
    refine iteT ⟨fun i' Hw' σ' H' => i' = i + 1 ∧ Same H0 Hw' ∧ ∃ Gw, At F0 ⟨[], Gw, Hw'⟩ [some (strsK x.names), some (strsK x.words), some (strsK x.used), some (strsK x.names), some (strsK (x.words ++ x.fresh)), some (iK (x.words.length : Int)), some (pkK L (i + 1)), none, none] [] σ' H', ?_, by unfold sizeLine; omega, ?_⟩
    · rintro i' Hw' σ' H' ⟨rfl, hs', Gw', q⟩
      exact ⟨L.length - (i + 1), by omega, rfl, by omega, hs', Gw', q⟩
    · have hd : EN F0 (te_pattern K) [some (strsK x.names), some (strsK x.words), some (strsK x.used), some (strsK x.names), some (strsK (x.words ++ x.fresh)), some (iK (x.words.length : Int)), some (natsK p), none, none] [] (.dct ((List.range x.names.length).map fun l => ((.inr ((x.names[l]?).getD Str.empty) : Key), valK (V.str ((x.words ++ x.fresh).getD (p.getD l 0) Str.empty))))) := by
        have hei := ei_enumL (F := F0) (δ := [some (strsK x.names), some (strsK x.words), some (strsK x.used), some (strsK x.names), some (strsK (x.words ++ x.fresh)), some (iK (x.words.length : Int)), some (natsK p), none, none]) (μ := []) (te := tVar 6) (K := K) (d := iK 0) (ks := p.map natK) (ek_var rfl)
        rw [List.length_map, hpl] at hei
        refine en_dc _ _ hei (by unfold sizeLine; omega) (gw_pair (K := K)) (fun l m hl hm e => ?_) fun l hl => ⟨_, gk_pair, ?_, ?_⟩
        · have e := Sum.inr.inj e
          rw [List.getElem?_eq_getElem hl, List.getElem?_eq_getElem hm] at e
          exact (List.getElem_inj hnd).mp e
        · have hx : (x.names.map sK)[l]? = some (valK (kV (.inr ((x.names[l]?).getD Str.empty)))) := by rw [List.getElem?_map, List.getElem?_eq_getElem hl]; rfl
          exact ek_op (ek_var rfl) (ek_var rfl) (rk_ixL (ks := x.names.map sK) (i := (l : Int)) (j := l) rd_list (by rw [List.length_map]; exact ixN_nat hl) hx)
        · have hpL : l < p.length := by omega
          have h1 : ((p.map natK)[l]?).getD (iK 0) = natK (p.getD l 0) := by rw [List.getElem?_map, List.getD_eq_getElem?_getD, List.getElem?_eq_getElem hpL]; rfl
          rw [h1]
          have hv : p.getD l 0 < (x.words ++ x.fresh).length := by
            have h2 : p.getD l 0 ∈ p := by rw [List.getD_eq_getElem?_getD, List.getElem?_eq_getElem hpL]; exact List.getElem_mem hpL
            have h3 := hpo.lt _ h2
            have h4 := hpo.le
            have h5 := ff.fl
            rw [List.length_append]
            omega
          have hx : ((x.words ++ x.fresh).map sK)[p.getD l 0]? = some (valK (V.str ((x.words ++ x.fresh).getD (p.getD l 0) Str.empty))) := by
            rw [List.getElem?_map, List.getD_eq_getElem?_getD (l := x.words ++ x.fresh), List.getElem?_eq_getElem hv]; rfl
          exact ek_op (ek_var rfl) (ek_var rfl) (rk_ixL (ks := (x.words ++ x.fresh).map sK) (i := ((p.getD l 0 : Nat) : Int)) (j := p.getD l 0) rd_list (by rw [List.length_map]; exact ixN_nat hv) hx)
      refine hd G2 H3 σ a2.st _ fun d o G4 H4 h1 h2 hp h3 h4 g4 j4 => ?_
      have a4 := a2.step g4 j4
      obtain ⟨ws, eo, hr⟩ := h4
      have ew := dct_vals _ hr
      have hw3 : Same Hw H3 := fun b o e => a2.gr.hh b o (by simp) e
      have hw4 : Same Hw H4 := fun b o e => a4.gr.hh b o (by simp) e
      refine ⟨⟨d, rfl, none_sub (h0w.trans hw3) h1, ?_⟩, hw4, fun H5 h45 => ?_⟩
      · rw [h3, eo, ew, hdi]
        congr 2
        have hcl : (M8.ch (x.words ++ x.fresh) Str.empty p).length = x.names.length := by unfold M8.ch; rw [List.length_map, hpl]
        rw [← kv_range hcl]
        apply List.map_congr_left
        intro l hl
        have hl := List.mem_range.mp hl
        have : ((M8.ch (x.words ++ x.fresh) Str.empty p)[l]?).getD Str.empty = (x.words ++ x.fresh).getD (p.getD l 0) Str.empty := by
          unfold M8.ch
          rw [List.getElem?_map, List.getD_eq_getElem?_getD (l := p), List.getElem?_eq_getElem (by omega)]
          rfl
        rw [this]
      · have sub5 : Same G4 H5 := fun b o e => h45 b o (a4.st.sub b o e)
        have a5 : At F0 ⟨[], G4, H5⟩ [some (strsK x.names), some (strsK x.words), some (strsK x.used), some (strsK x.names), some (strsK (x.words ++ x.fresh)), some (iK (x.words.length : Int)), some (natsK p), none, none] [] σ H5 := at_F0 sub5 a4.st.env
        have hnp : Ek F0 (tCall (sp_next_picks K) [] E0 (tCons (tVar 6) (tCons (tVar 5) tNil))) [some (strsK x.names), some (strsK x.words), some (strsK x.used), some (strsK x.names), some (strsK (x.words ++ x.fresh)), some (iK (x.words.length : Int)), some (natsK p), none, none] [] (pkK L (i + 1)) := by
          have e := hnext i p eL
          unfold pkK
          cases e2 : L[i + 1]? with
          | none =>
            rw [e2] at e
            exact ek_call (FX := fun _ : NpIn => F0) (ks := fun y => [natsK y.picks, iK (y.w : Int)]) ⟨p, x.words.length, by omega, by omega⟩ rfl (ea_cons (ek_var rfl) (ea_cons (ek_var rfl) ea_nil)) (fun H v G' H' q => by
              simp only [e] at q
              exact q)
          | some p' =>
            rw [e2] at e
            exact en_ek (en_call (FX := fun _ : NpIn => F0) (ks := fun y => [natsK y.picks, iK (y.w : Int)]) ⟨p, x.words.length, by omega, by omega⟩ rfl (ea_cons (ek_var rfl) (ea_cons (ek_var rfl) ea_nil)) (fun H v G' H' q => by
              simp only [e] at q
              exact q))
        obtain ⟨G5, a6⟩ := a5
        exact hnp G5 H5 σ a6.st _ fun v G' H' g j pv => ⟨rfl, (h0w.trans hw4).trans h45, G4, G', (a6.step g j).setS 6 pv⟩
end
end K8
end
section
set_option maxRecDepth 100000
set_option maxHeartbeats 1000000
namespace K8
open PySem L2 Dl
local macro_rules | `(tactic| k_extra "mod") => `(tactic| first | (show (0 : Int) < _; decide) | (show (0 : Int) < _; omega) | assumption)
local macro_rules | `(tactic| k_extra "mul") => `(tactic| (show CMul _ _; first | exact .inr ⟨by decide, by decide⟩ | exact .inl ⟨by decide, by decide⟩ | exact .inr ⟨by omega, by omega⟩ | exact .inl ⟨by omega, by omega⟩))
local macro_rules | `(tactic| k_extra "side") => `(tactic| first | k_extra "mod" | k_extra "mul" | (show CDiv _ _; exact ⟨by first | decide | omega, by first | decide | omega⟩) | (show CPow _ _; exact ⟨by decide, by decide, by decide⟩))
local macro_rules | `(tactic| k_extra "rk") => `(tactic| first
  | (with_reducible exact rk_I0)
  | ((with_reducible apply rk_I); k_extra "side")
  | ((with_reducible apply rk_eq); exact rfl)
  | ((with_reducible apply rk_ne); exact rfl))
local macro_rules | `(tactic| k_extra "cr") => `(tactic| first
  | (with_reducible exact cr_int1) | (with_reducible exact cr_abs1) | ((with_reducible apply cr_len); first | exact rd_list | exact rd_at) | ((with_reducible apply cr_lenS); first | decide | assumption))
local macro_rules | `(tactic| k_extra "ev") => `(tactic| first
  | (with_reducible exact ek_c)
  | ((with_reducible apply ek_var); exact rfl)
  | ((with_reducible apply ek_op); k_extra "ev"; k_extra "ev"; k_extra "rk")
  | ((with_reducible apply ek_cb); (with_reducible apply ea_cons); k_extra "ev"; (with_reducible exact ea_nil); k_extra "cr"))
theorem hu65 {A : Around} {k : Nat} (hr : Room k A) : A.units + 65 < cLine := by have := hr.un; omega
theorem bb_dict : bootBuiltins "dict" = some (.type "dict") := by decide +kernel
theorem passX0 {P : Program} {w : World} {X : Cx} : Passes (CX P w) X E0 := fun _ _ _ _ _ _ _ ⟨_, _, _, _, _, _, _, _, _, _, _, _, h⟩ => h.elim
theorem nostop0 {K : PySem.W.Frag} : NoStop K E0 := fun _ _ _ h => h.elim
structure CalG (P : Program) (w : World) (K : PySem.W.Frag) (mg : Str → Option Value) (base : Heap) (x : Str) (st : Stmt) (ps : List Str) (k : Nat) (f : Addr) (fd : FuncData) (sp : Gz.SpY) : Prop where
  A : FnAt K mg x st ps f fd
  Y : Gz.YFn P w K mg base k f fd ps sp
abbrev s_law_patterns_hold : Stmt := topS 17
theorem sc_law_patterns_hold : FnScope ["pool", "names", "words", "used", "due", "given", "listed", "taken", "told", "one", "shapes", "pair", "others", "k", "picked", "name", "again"] ["pool", "names", "words", "used"] (defScope s_law_patterns_hold) := ⟨rfl, rfl, rfl, by decide +kernel, rfl, by decide +kernel, by decide +kernel⟩
def t_law_patterns_hold (K : PySem.W.Frag) : TS :=
    (tSeq (tAsg (tCall (sp_law_patterns K) [] E0 (tCons (tVar 1) (tCons (tVar 2) (tCons (tVar 3) tNil)))) (gName 4))
    (tSeq (tAsg (tCB (rListQ K) (tCons (tVar 1) tNil)) (gName 5))
    (tSeq (tAsg (tCB (rListQ K) (tCons (tVar 2) tNil)) (gName 6))
    (tSeq (tAsg (tCB (rListQ K) (tCons (tVar 3) tNil)) (gName 7))
    (tSeq (tAsg (tListG (Gz.tGenOf (Gz.tCallY sp_patterns (tCons (tVar 5) (tCons (tVar 6) (tCons (tVar 7) tNil)))))) (gName 8))
    (tSeq (tIfS (tTest (tOp (rNeD K) (tLc (iList K (tVar 8)) (gName 9) tYes (tCB (rIsi K) (tCons (tVar 9) (tCons (tC (.ty "dict")) tNil))) [9]) (tOp rRep (tLst (tCons (tC (.bl true)) tNil)) (tCB (rLenQ K) (tCons (tVar 4) tNil))))) (tRet (tC (.bl false))) tNext)
    (tSeq (tIfS (tOr (tTest (tOp (rNeD K) (tLc (iList K (tVar 8)) (gName 9) tYes (LiI.tListItems (tVar 9)) [9]) (tVar 4))) (tTest (tOp (rNeD K) (tVar 5) (tVar 1)))) (tRet (tC (.bl false))) tNext)
    (tSeq (tIfS (tOr (tTest (tOp (rNeD K) (tVar 6) (tVar 2))) (tTest (tOp (rNeD K) (tVar 7) (tVar 3)))) (tRet (tC (.bl false))) tNext)
    (tSeq (tIfS (tTest (tOp (rNeD K) (tCall (sp_law_number K) [] E0 (tCons (tCall (sp_pattern_count K) [] E0 (tCons (tCB (rLenQ K) (tCons (tVar 1) tNil)) (tCons (tCB (rLenQ K) (tCons (tVar 2) tNil)) tNil))) tNil)) (tCB (rLenQ K) (tCons (tVar 4) tNil)))) (tRet (tC (.bl false))) tNext)
    (tSeq (tAsg (tLst tNil) (gName 10))
    (tSeq (tFor (iList K (tVar 4)) (gName 9) (tDrop (tBM K "list" rAppend (tVar 10) (tCons (tCall (sp_law_shape K) [] E0 (tCons (tLc (iList K (tVar 9)) (gName 11) tYes (tOp (rIxT K) (tVar 11) (tC (.int 1))) [11]) (tCons (tVar 2) tNil))) tNil))))
    (tSeq (tAsg (tOp rCat (tOp rCat (tVar 2) (tLst (tCons (tC (.str "n1")) (tCons (tC (.str "n2")) (tCons (tC (.str "zz")) (tCons (tC (.str "9")) tNil)))))) (tVar 3)) (gName 12))
    (tSeq (tFor (iRng1 (tCons (tC (.int 8)) tNil)) (gName 13) (tSeq (tAsg (tLc (iList K (tVar 1)) (gName 15) tYes (tCall (sp_law_one_of K) [] E0 (tCons (tVar 0) (tCons (tVar 12) tNil))) [15]) (gName 14))
      (tIfS (tTest (tOp rNe (tBM K "list" (rCountD K) (tVar 10) (tCons (tCall (sp_law_shape K) [] E0 (tCons (tVar 14) (tCons (tVar 2) tNil))) tNil)) (tC (.int 1)))) (tRet (tC (.bl false))) tNext)))
    (tSeq (sDPut (tOp (rIxL K) (tVar 8) (tC (.int 0))) (tC (.str "zz")) (tC (.str "a")))
    (tSeq (tAsg (Gz.tLcItems (Gz.tCallY sp_patterns (tCons (tVar 5) (tCons (tVar 6) (tCons (tVar 7) tNil))))) (gName 16))
    (tRet (tOp (rEqD K) (tVar 16) (tVar 4))))))))))))))))))
section
variable {P : Program} {w : World} {K : PySem.W.Frag} {mg : Str → Option Value} {base : Heap} {f : Addr}
theorem d_law_patterns_hold {f_law_patterns f_patterns f_law_number f_pattern_count f_law_shape f_law_one_of : Addr} {fd_law_patterns fd_patterns fd_law_number fd_pattern_count fd_law_shape fd_law_one_of : FuncData} (T : Txt mg) (b_dict : mg "dict" = none) (C_law_patterns : Cal P w K mg base "_law_patterns" s_law_patterns ["names", "words", "used"] 2 f_law_patterns fd_law_patterns (sp_law_patterns K)) (C_patterns : CalG P w K mg base "patterns" s_patterns ["names", "words", "used"] 2 f_patterns fd_patterns sp_patterns) (C_law_number : Cal P w K mg base "_law_number" s_law_number ["told"] 1 f_law_number fd_law_number (sp_law_number K)) (C_pattern_count : CalK P w K mg base "pattern_count" s_pattern_count ["many_names", "many_words"] 1 f_pattern_count fd_pattern_count (sp_pattern_count K)) (C_law_shape : Cal P w K mg base "_law_shape" s_law_shape ["picked", "words"] 1 f_law_shape fd_law_shape (sp_law_shape K)) (C_law_one_of : Cal P w K mg base "_law_one_of" s_law_one_of ["pool", "things"] 2 f_law_one_of fd_law_one_of (sp_law_one_of K)) (cdv : Value) (A : Around) (outer : List PySem.Env) (s : Shared) (H : Hp) (E : XK) (hr : Room 5 (A.deeper (PyProof.Rows.envOfC "_law_patterns_hold" (defScope s_law_patterns_hold) s.heap.objs.size f cdv))) :
    PSs (cxOf CX0 P w K mg base ["pool", "names", "words", "used", "due", "given", "listed", "taken", "told", "one", "shapes", "pair", "others", "k", "picked", "name", "again"] "_law_patterns_hold" (defScope s_law_patterns_hold) f cdv A outer s H E).nox (defBody s_law_patterns_hold) (t_law_patterns_hold K) := by
  exact (pss_cons (ps_set (i := 4) sc_law_patterns_hold.nd rfl (by first | exact Or.inl rfl | exact Or.inr rfl) (pe_call C_law_patterns.O (hr.mono (by decide)) (by rfl) C_law_patterns.A.g C_law_patterns.A.F.kp C_law_patterns.A.b .nil pass0 (pa_cons (pv 1) (pa_cons (pv 2) (pa_cons (pv 3) pa_nil)))))
    (pss_cons (ps_set (i := 5) sc_law_patterns_hold.nd rfl (by first | exact Or.inl rfl | exact Or.inr rfl) (pe_callTy cx_list (by rfl) T.b_list bb_list (pa_cons (pv 1) pa_nil)))
    (pss_cons (ps_set (i := 6) sc_law_patterns_hold.nd rfl (by first | exact Or.inl rfl | exact Or.inr rfl) (pe_callTy cx_list (by rfl) T.b_list bb_list (pa_cons (pv 2) pa_nil)))
    (pss_cons (ps_set (i := 7) sc_law_patterns_hold.nd rfl (by first | exact Or.inl rfl | exact Or.inr rfl) (pe_callTy cx_list (by rfl) T.b_list bb_list (pa_cons (pv 3) pa_nil)))
    (pss_cons (ps_set (i := 8) sc_law_patterns_hold.nd rfl (by first | exact Or.inl rfl | exact Or.inr rfl) (pe_listG (Gz.PYen.gen (Gz.pyen_call C_patterns.Y (hr.mono (by decide)) (by rfl) C_patterns.A.g C_patterns.A.F.kp C_patterns.A.b (pa_cons (pv 5) (pa_cons (pv 6) (pa_cons (pv 7) pa_nil))))) passX0 nostop0 (hr.mono (by decide)) (by rfl) T.b_list bb_list))
    (pss_cons (ps_if (pt_cmpR (op_neD hr.units) (pe_lc (own := [("one", 9)]) (g := (gName 9)) (tt := tYes) (te := (tCB (rIsi K) (tCons (tVar 9) (tCons (tC (.ty "dict")) tNil)))) rfl sc_law_patterns_hold.nd (pi_list (pv 8)) (blkOk_by (own := [("one", 9)]) (N := ["pool", "names", "words", "used", "due", "given", "listed", "taken", "told", "one", "shapes", "pair", "others", "k", "picked", "name", "again"]) (sc := defScope s_law_patterns_hold) (by decide +kernel)) (fun _ _ _ _ _ => (pg_name (i := 9) sc_law_patterns_hold.nd rfl (by first | exact Or.inl rfl | exact Or.inr rfl))) (fun _ _ _ _ _ => pts_nil) (fun _ _ _ _ _ => (pe_callB call_isi (by rfl) T.b_isinstance bb_isinstance (pa_cons (pv 9) (pa_cons (pe_bltn (v := .ty "dict") (by rfl) b_dict bb_dict rfl) pa_nil))))) (pe_op op_rep (pe_lst (pa_cons pe_bl pa_nil)) (pe_callB cx_len (by rfl) T.b_len bb_len (pa_cons (pv 4) pa_nil))) (nomark _)) (pss_one (ps_ret pe_bl)) pss_nil)
    (pss_cons (ps_if (PW.pt (pw_or (pt_cmpR (op_neD hr.units) (pe_lc (own := [("one", 9)]) (g := (gName 9)) (tt := tYes) (te := (LiI.tListItems (tVar 9))) rfl sc_law_patterns_hold.nd (pi_list (pv 8)) (blkOk_by (own := [("one", 9)]) (N := ["pool", "names", "words", "used", "due", "given", "listed", "taken", "told", "one", "shapes", "pair", "others", "k", "picked", "name", "again"]) (sc := defScope s_law_patterns_hold) (by decide +kernel)) (fun _ _ _ _ _ => (pg_name (i := 9) sc_law_patterns_hold.nd rfl (by first | exact Or.inl rfl | exact Or.inr rfl))) (fun _ _ _ _ _ => pts_nil) (fun _ _ _ _ _ => (LiI.pe_listItems rfl (pv 9) (by rfl) T.b_list bb_list))) (pv 4) (nomark _)) (pw_or1 (pt_cmpR (op_neD hr.units) (pv 5) (pv 1) (nomark _))))) (pss_one (ps_ret pe_bl)) pss_nil)
    (pss_cons (ps_if (PW.pt (pw_or (pt_cmpR (op_neD hr.units) (pv 6) (pv 2) (nomark _)) (pw_or1 (pt_cmpR (op_neD hr.units) (pv 7) (pv 3) (nomark _))))) (pss_one (ps_ret pe_bl)) pss_nil)
    (pss_cons (ps_if (pt_cmpR (op_neD hr.units) (pe_call C_law_number.O (hr.mono (by decide)) (by rfl) C_law_number.A.g C_law_number.A.F.kp C_law_number.A.b .nil pass0 (pa_cons (pe_call C_pattern_count.O (hr.mono (by decide)) (by rfl) C_pattern_count.A.g C_pattern_count.A.F.kp C_pattern_count.A.b .nil pass0 (pa_cons (pe_callB cx_len (by rfl) T.b_len bb_len (pa_cons (pv 1) pa_nil)) (pa_cons (pe_callB cx_len (by rfl) T.b_len bb_len (pa_cons (pv 2) pa_nil)) pa_nil))) pa_nil)) (pe_callB cx_len (by rfl) T.b_len bb_len (pa_cons (pv 4) pa_nil)) (nomark _)) (pss_one (ps_ret pe_bl)) pss_nil)
    (pss_cons (ps_set (i := 10) sc_law_patterns_hold.nd rfl (by first | exact Or.inl rfl | exact Or.inr rfl) (pe_lst pa_nil))
    (pss_cons (ps_for PassesOwn.never rfl (pi_list (pv 4)) (pg_name (i := 9) sc_law_patterns_hold.nd rfl (by first | exact Or.inl rfl | exact Or.inr rfl)) (pss_one (ps_expr (pe_bm PySem.F.plainAttrs_list PySem.F.slot_list_append PySem.F.type_list_append mt_append (pv 10) (pa_cons (pe_call C_law_shape.O (hr.mono (by decide)) (by rfl) C_law_shape.A.g C_law_shape.A.F.kp C_law_shape.A.b .nil pass0 (pa_cons (pe_lc (own := [("pair", 11)]) (g := (gName 11)) (tt := tYes) (te := (tOp (rIxT K) (tVar 11) (tC (.int 1)))) rfl sc_law_patterns_hold.nd (pi_list (pv 9)) (blkOk_by (own := [("pair", 11)]) (N := ["pool", "names", "words", "used", "due", "given", "listed", "taken", "told", "one", "shapes", "pair", "others", "k", "picked", "name", "again"]) (sc := defScope s_law_patterns_hold) (by decide +kernel)) (fun _ _ _ _ _ => (pg_name (i := 11) sc_law_patterns_hold.nd rfl (by first | exact Or.inl rfl | exact Or.inr rfl))) (fun _ _ _ _ _ => pts_nil) (fun _ _ _ _ _ => (pe_ix ix_tup (pv 11) pe_int (fun _ _ => rfl)))) (pa_cons (pv 2) pa_nil))) pa_nil)))))
    (pss_cons (ps_set (i := 12) sc_law_patterns_hold.nd rfl (by first | exact Or.inl rfl | exact Or.inr rfl) (pe_op op_cat (pe_op op_cat (pv 2) (pe_lst (pa_cons pe_str (pa_cons pe_str (pa_cons pe_str (pa_cons pe_str pa_nil)))))) (pv 3)))
    (pss_cons (ps_for PassesOwn.never rfl (pi_range1 (by rfl) T.b_range (pa_cons pe_int pa_nil)) (pg_name (i := 13) sc_law_patterns_hold.nd rfl (by first | exact Or.inl rfl | exact Or.inr rfl)) (pss_cons (by first | exact (ps_setLc (i := 14) (own := [("name", 15)]) (g := (gName 15)) (tt := tYes) (te := (tCall (sp_law_one_of K) [] E0 (tCons (tVar 0) (tCons (tVar 12) tNil)))) rfl sc_law_patterns_hold.nd rfl rfl (sw_true rfl rfl rfl (by decide +kernel)) (pi_list (pv 1)) (blkOk_by (own := [("name", 15)]) (N := ["pool", "names", "words", "used", "due", "given", "listed", "taken", "told", "one", "shapes", "pair", "others", "k", "picked", "name", "again"]) (sc := defScope s_law_patterns_hold) (by decide +kernel)) (fun _ _ _ _ _ => (pg_name (i := 15) sc_law_patterns_hold.nd rfl (by first | exact Or.inl rfl | exact Or.inr rfl))) (fun _ _ _ _ _ => pts_nil) (fun _ _ _ _ _ => (pe_call C_law_one_of.O (hr.mono (by decide)) (by rfl) C_law_one_of.A.g C_law_one_of.A.F.kp C_law_one_of.A.b .nil pass0 (pa_cons (pv 0) (pa_cons (pv 12) pa_nil))))) | exact (ps_set (i := 14) sc_law_patterns_hold.nd rfl (by first | exact Or.inl rfl | exact Or.inr rfl) (pe_lc (own := [("name", 15)]) (g := (gName 15)) (tt := tYes) (te := (tCall (sp_law_one_of K) [] E0 (tCons (tVar 0) (tCons (tVar 12) tNil)))) rfl sc_law_patterns_hold.nd (pi_list (pv 1)) (blkOk_by (own := [("name", 15)]) (N := ["pool", "names", "words", "used", "due", "given", "listed", "taken", "told", "one", "shapes", "pair", "others", "k", "picked", "name", "again"]) (sc := defScope s_law_patterns_hold) (by decide +kernel)) (fun _ _ _ _ _ => (pg_name (i := 15) sc_law_patterns_hold.nd rfl (by first | exact Or.inl rfl | exact Or.inr rfl))) (fun _ _ _ _ _ => pts_nil) (fun _ _ _ _ _ => (pe_call C_law_one_of.O (hr.mono (by decide)) (by rfl) C_law_one_of.A.g C_law_one_of.A.F.kp C_law_one_of.A.b .nil pass0 (pa_cons (pv 0) (pa_cons (pv 12) pa_nil)))))))
      (pss_one (ps_if (pt_cmpR op_ne (pe_bm PySem.F.plainAttrs_list PySem.F.slot_list_count PySem.F.type_list_count (mx_count hr.units (hu65 hr)) (pv 10) (pa_cons (pe_call C_law_shape.O (hr.mono (by decide)) (by rfl) C_law_shape.A.g C_law_shape.A.F.kp C_law_shape.A.b .nil pass0 (pa_cons (pv 14) (pa_cons (pv 2) pa_nil))) pa_nil)) pe_int (nomark _)) (pss_one (ps_ret pe_bl)) pss_nil))))
    (pss_cons (ps_dput (hu_of hr) (pe_ix ix_list (pv 8) pe_int (fun _ _ => rfl)) pe_str pe_str rfl)
    (pss_cons (by first | exact (Gz.ps_setLcItems (i := 16) rfl sc_law_patterns_hold.nd rfl rfl (sw_true rfl rfl rfl (by decide +kernel)) (Gz.pyen_call C_patterns.Y (hr.mono (by decide)) (by rfl) C_patterns.A.g C_patterns.A.F.kp C_patterns.A.b (pa_cons (pv 5) (pa_cons (pv 6) (pa_cons (pv 7) pa_nil)))) (hr.mono (by decide)) (blkOk_by (own := [("one", 9)]) (N := ["pool", "names", "words", "used", "due", "given", "listed", "taken", "told", "one", "shapes", "pair", "others", "k", "picked", "name", "again"]) (sc := defScope s_law_patterns_hold) (by decide +kernel)) (by rfl) (fun _ => rfl) (fun _ _ _ _ => by rfl) T.b_list (by decide) (by rfl)) | exact (ps_set (i := 16) sc_law_patterns_hold.nd rfl (by first | exact Or.inl rfl | exact Or.inr rfl) (Gz.pe_lcItems rfl sc_law_patterns_hold.nd (Gz.pyen_call C_patterns.Y (hr.mono (by decide)) (by rfl) C_patterns.A.g C_patterns.A.F.kp C_patterns.A.b (pa_cons (pv 5) (pa_cons (pv 6) (pa_cons (pv 7) pa_nil)))) (hr.mono (by decide)) (blkOk_by (own := [("one", 9)]) (N := ["pool", "names", "words", "used", "due", "given", "listed", "taken", "told", "one", "shapes", "pair", "others", "k", "picked", "name", "again"]) (sc := defScope s_law_patterns_hold) (by decide +kernel)) (by rfl) (fun _ => rfl) (fun _ _ _ _ => by rfl) T.b_list (by decide) (by rfl))))
    (pss_one (ps_ret (pe_cmpR (op_eqD hr.units) (pv 16) (pv 4) (nomark _)))))))))))))))))))
end
end K8
end
section
set_option maxRecDepth 100000
set_option maxHeartbeats 1000000
namespace K8
open PySem L2 Dl
local macro_rules | `(tactic| k_extra "mod") => `(tactic| first | (show (0 : Int) < _; decide) | (show (0 : Int) < _; omega) | assumption)
local macro_rules | `(tactic| k_extra "mul") => `(tactic| (show CMul _ _; first | exact .inr ⟨by decide, by decide⟩ | exact .inl ⟨by decide, by decide⟩ | exact .inr ⟨by omega, by omega⟩ | exact .inl ⟨by omega, by omega⟩))
local macro_rules | `(tactic| k_extra "side") => `(tactic| first | k_extra "mod" | k_extra "mul" | (show CDiv _ _; exact ⟨by first | decide | omega, by first | decide | omega⟩) | (show CPow _ _; exact ⟨by decide, by decide, by decide⟩))
local macro_rules | `(tactic| k_extra "rk") => `(tactic| first
  | (with_reducible exact rk_I0)
  | ((with_reducible apply rk_I); k_extra "side")
  | ((with_reducible apply rk_eq); exact rfl)
  | ((with_reducible apply rk_ne); exact rfl))
local macro_rules | `(tactic| k_extra "cr") => `(tactic| first
  | (with_reducible exact cr_int1) | (with_reducible exact cr_abs1) | ((with_reducible apply cr_len); first | exact rd_list | exact rd_at) | ((with_reducible apply cr_lenS); first | decide | assumption))
local macro_rules | `(tactic| k_extra "ev") => `(tactic| first
  | (with_reducible exact ek_c)
  | ((with_reducible apply ek_var); exact rfl)
  | ((with_reducible apply ek_op); k_extra "ev"; k_extra "ev"; k_extra "rk")
  | ((with_reducible apply ek_cb); (with_reducible apply ea_cons); k_extra "ev"; (with_reducible exact ea_nil); k_extra "cr"))
section
variable {F : Fx} {B : Bs} {δ δ' : Dl.Env} {μ : Mu} {K : PySem.W.Frag} {ta te : TE} {k : Know} {D : Ends} {u : TS}
/-! ### all that is new is known -/
def fz (G H H' : Hp) : Hp := fun b => if H b = none then H' b else G b
theorem fz_new {G H H' : Hp} {b : Addr} (h : H b = none) : fz G H H' b = H' b := if_pos h
theorem gr_fz {M : List Addr} {G H H' : Hp} (s : Same G H) (hs : Same H H') : Gr M G H (fz G H H') H' := by
  refine ⟨fun b o e => ?_, fun b o e => ?_, fun a o _ e => hs a o e, fun a ha e => ?_, fun a ha => ?_⟩
  · unfold fz
    rw [if_neg (by rw [s b o e]; exact fun z => nomatch z)]
    exact e
  · unfold fz at e
    split at e
    · exact e
    · exact hs _ _ (s _ _ e)
  · unfold fz
    rw [if_neg ha]; exact e
  · obtain ⟨o, e⟩ := some_of ha
    rw [hs a o e]; exact fun z => nomatch z
theorem j_fz {G H H' : Hp} (s : Same G H) (hs : Same H H') (j : F.J G H) : F.J (fz G H H') H' :=
  F.st G H _ _ (gr_fz (M := []) s hs).gg (fun a ha => by
    obtain ⟨h1, h2⟩ := F.al G H j a ha
    obtain ⟨o, e⟩ := some_of h1
    exact ⟨by rw [e]; exact hs a o e, fun z => (gr_fz (M := []) s hs).fr a h1 z⟩) j
theorem allK_of_get {G : Hp} : ∀ {vs : List V} {ks : List Know}, vs.length = ks.length → (∀ (j : Nat) (v : V) (k : Know), vs[j]? = some v → ks[j]? = some k → k.p v G) → AllK G vs ks
  | [], [], _, _ => .nil
  | v :: vs, k :: ks, h, hh => .cons (hh 0 v k rfl rfl) (allK_of_get (by simpa using h) fun j v k e1 e2 => hh (j + 1) v k (by simpa using e1) (by simpa using e2))
  | [], _ :: _, h, _ => by simp at h
  | _ :: _, [], h, _ => by simp at h
/-- a dict of the generator's, made since H0 -/
def dictN (H0 : Hp) (kvs : List (Key × V)) : Know := ⟨fun v G => ∃ d, v = .ref d ∧ H0 d = none ∧ G d = some (.dK kvs), fun s ⟨d, e, n, h⟩ => ⟨d, e, n, s _ _ h⟩⟩
def kvL (l : List (Str × Str)) : List (Key × V) := l.map fun z => (.inr z.1, .str z.2)
theorem q_told {i : Nat} {x : LpIn} {ta : TA} (hx : x.names.Nodup) (ha : EAk F ta δ μ [strsK x.names, strsK x.words, strsK x.used]) (q : Tr F B (δ.set i (some (listK (x.due.map fun p => dictN B.H0 (kvL (x.names.zip p)))))) μ u D) :
    Tr F B δ μ (tSeq (tAsg (tListG (Gz.tGenOf (Gz.tCallY sp_patterns ta))) (gName i)) u) D := fun σ H ⟨G, z⟩ =>
  ha G H σ z.st _ fun vs G1 H1 g1 j1 p1 => ⟨_, _, ⟨x, G1, hx, g1.gh, p1, rfl, rfl⟩, Nat.le_trans (due_small x (Nat.le_refl _)) (by decide), pat_mono x H1, fun ys H' ⟨hl, hy, hsm⟩ p hp => by
    have z1 := z.step g1 j1
    have hp1 : H1 p = none := none_sub hsm hp
    have hsm2 : Same H1 (upd H' p (.lst ys)) := fun b o e => by
      rw [upd_ne fun q => by rw [q, hp1] at e; cases e]
      exact hsm b o e
    have z2 := z1.step (gr_fz g1.gh hsm2) (j_fz g1.gh hsm2 j1)
    refine q _ _ ⟨_, z2.setS i ⟨p, ys, rfl, by rw [fz_new hp1, upd_same], allK_of_get (by rw [List.length_map]; exact hl) fun j y k e1 e2 => ?_⟩⟩
    rw [List.getElem?_map] at e2
    obtain ⟨d, rfl, hd1, hd2⟩ := hy j y e1
    have hdp : d ≠ p := fun e => by rw [e, hp] at hd2; cases hd2
    cases e3 : x.due[j]? with
    | none => rw [e3] at e2; cases e2
    | some pt =>
      rw [e3] at e2 hd2
      cases e2
      exact ⟨d, rfl, back_none z1.gr hd1, by rw [fz_new hd1, upd_ne hdp]; exact hd2⟩⟩
theorem row_known {G : Hp} {r : Addr} {ts : List Addr} {l : List (Str × Str)} (hr : G r = some (.lst (ts.map V.ref))) (hp : Paired (fun (t : Addr) (z : Key × V) => G t = some (.tup [kV z.1, z.2])) ts (kvL l)) : (rowKn K l).p (.ref r) G := by
  refine ⟨r, _, rfl, hr, ?_⟩
  clear hr
  induction l generalizing ts with
  | nil => cases hp; exact .nil
  | cons z l ih =>
    cases hp with
    | cons h t => exact .cons ⟨_, _, rfl, .inl (.inl h), .cons rfl (.cons rfl .nil)⟩ (ih t)
/-- list(one.items()) -/
theorem ek_items {H0 : Hp} {l : List (Str × Str)} (h : Ek F te δ μ (dictN H0 (kvL l))) : Ek F (LiI.tListItems te) δ μ (rowKn K l) := fun G H σ st Q q =>
  h G H σ st _ fun x G1 H1 g1 j1 ⟨d, e, _, hd⟩ => ⟨d, _, e, g1.gh _ _ hd, fun H' p ts hsm n1 n2 _ e1 e2 =>
    q _ _ H' (g1.trans (gr_fz g1.gh hsm)) (j_fz g1.gh hsm j1) (row_known (by rw [fz_new n1]; exact e1) (Gz.pair_mem e2 fun t z ht e => by rw [fz_new (n2 t ht)]; exact e))⟩
/-- [list(one.items()) for one in patterns(..)] -/
theorem ek_again {x : LpIn} {ta : TA} (hx : x.names.Nodup) (ha : EAk F ta δ μ [strsK x.names, strsK x.words, strsK x.used]) : Ek F (Gz.tLcItems (Gz.tCallY sp_patterns ta)) δ μ (listK (x.due.map fun p => rowKn K (x.names.zip p))) := fun G H σ st Q q =>
  ha G H σ st _ fun vs G1 H1 g1 j1 p1 => ⟨_, _, ⟨x, G1, hx, g1.gh, p1, rfl, rfl⟩, Nat.le_trans (due_small x (Nat.le_refl _)) (by decide), pat_mono x H1, fun j => kvL (x.names.zip ((x.due[j]?).getD [])), fun i v H' ⟨d, e, _, h⟩ => ⟨d, e, h⟩, fun D rows H' hsm nD eD hl hrow => by
    refine q _ _ H' (g1.trans (gr_fz g1.gh hsm)) (j_fz g1.gh hsm j1) ⟨D, _, rfl, by rw [fz_new nD]; exact eD, allK_of_get (by rw [List.length_map, List.length_map]; exact hl) fun j v k e1 e2 => ?_⟩
    rw [List.getElem?_map] at e1 e2
    cases e3 : rows[j]? with
    | none => rw [e3] at e1; cases e1
    | some r =>
      rw [e3] at e1
      cases e1
      obtain ⟨_, hr1, ts, hr2, hts, hpr⟩ := hrow j r e3
      cases e4 : x.due[j]? with
      | none => rw [e4] at e2; cases e2
      | some pt =>
        have hpr : Paired (fun (t : Addr) (z : Key × V) => H' t = some (.tup [kV z.1, z.2])) ts (kvL (x.names.zip ((x.due[j]?).getD []))) := hpr
        rw [e4] at e2 hpr
        cases e2
        exact row_known (by rw [fz_new hr1]; exact hr2) (Gz.pair_mem hpr fun t z ht e => by rw [fz_new (hts t ht).2]; exact e)⟩
theorem cr_isiD {H0 : Hp} {kvs : List (Key × V)} : CRk F μ (rIsi K) [dictN H0 kvs, valK (.ty "dict")] (bK true) := fun G H vs s j o p Q q => by
  obtain ⟨v, y, rfl, ⟨d, e, _, hd⟩, e2⟩ := allK2 p
  have e2 : y = .ty "dict" := e2
  subst e e2
  exact ⟨_, _, .type "dict", .type "dict", true, rfl, ClsV.ty "dict", .base (.dK (s _ _ hd)), kit_ty (by decide +kernel), q _ G H (.refl s) j rfl⟩
/-! ### a dict that is known no more -/
def dl (d : Addr) (G : Hp) : Hp := fun b => if b = d then none else G b
theorem dl_off {d b : Addr} {G : Hp} (h : b ≠ d) : dl d G b = G b := if_neg h
theorem dl_on {d : Addr} {G : Hp} : dl d G d = none := if_pos rfl
def NoD (k : Know) : Prop := ∀ v G d kvs, G d = some (.dK kvs) → k.p v G → k.p v (dl d G)
theorem nod_val {v : V} : NoD (valK v) := fun u G d kvs _ h => h
theorem nod_all {G : Hp} {d : Addr} {kvs : List (Key × V)} (hd : G d = some (.dK kvs)) : ∀ {vs : List V} {ks : List Know}, (∀ k ∈ ks, NoD k) → AllK G vs ks → AllK (dl d G) vs ks
  | _, _, _, .nil => .nil
  | _, _, h, .cons a b => .cons (h _ List.mem_cons_self _ _ _ _ hd a) (nod_all hd (fun k hk => h k (List.mem_cons_of_mem _ hk)) b)
theorem nod_list {ks : List Know} (h : ∀ k ∈ ks, NoD k) : NoD (listK ks) := fun v G d kvs hd ⟨a, vs, e, ha, r⟩ =>
  ⟨a, vs, e, by rw [dl_off fun z => by rw [z, hd] at ha; cases ha]; exact ha, nod_all hd h r⟩
theorem nod_tup {ks : List Know} (h : ∀ k ∈ ks, NoD k) : NoD (tupK K ks) := fun v G d kvs hd ⟨a, vs, e, ha, r⟩ => by
  refine ⟨a, vs, e, ?_, nod_all hd h r⟩
  rcases ha with (ha | ⟨o, ha⟩) | ha
  · exact .inl (.inl (by rw [dl_off fun z => by rw [z, hd] at ha; cases ha]; exact ha))
  · exact .inl (.inr ⟨o, by rw [dl_off fun z => by rw [z, hd] at ha; cases ha]; exact ha⟩)
  · exact .inr ha
theorem nod_strs {xs : List Str} : NoD (strsK xs) := nod_list fun k hk => by
  obtain ⟨x, _, rfl⟩ := List.mem_map.mp hk
  exact nod_val
theorem nod_row {l : List (Str × Str)} : NoD (rowKn K l) := nod_list fun k hk => by
  obtain ⟨x, _, rfl⟩ := List.mem_map.mp hk
  exact nod_tup fun k hk => by
    rcases List.mem_cons.mp hk with e | hk
    · rw [e]; exact nod_val
    · rw [List.mem_singleton.mp hk]; exact nod_val
theorem nod_env {G : Hp} {d : Addr} {kvs : List (Key × V)} (hd : G d = some (.dK kvs)) : ∀ {δ : Dl.Env} {σ : St}, (∀ k, some k ∈ δ → NoD k) → EnvK G δ σ → EnvK (dl d G) δ σ
  | [], [], _, _ => trivial
  | _ :: _, _ :: _, h, ⟨a, r⟩ => ⟨fun k e => by
      obtain ⟨v, h1, h2⟩ := a k e
      exact ⟨v, h1, h k (by rw [e]; exact List.mem_cons_self) _ _ _ _ hd h2⟩, nod_env hd (fun k hk => h k (List.mem_cons_of_mem _ hk)) r⟩
  | [], _ :: _, _, h => h.elim
  | _ :: _, [], _, h => h.elim
theorem pool_dl {pl : Pl} {G H : Hp} {d : Addr} {kvs : List (Key × V)} {o : HO} (hd : G d = some (.dK kvs)) (j : PoolJ pl G H) : PoolJ pl (dl d G) (upd H d o) := by
  obtain ⟨e, a, b, c, cs, ls, k, i, x, y, w⟩ := j
  have nl : pl.l ≠ d := fun z => by rw [z, hd] at b; cases b
  have nt : pl.t ≠ d := fun z => by rw [z, hd] at c; cases c
  refine ⟨e, by rw [dl_off fun z => by rw [z, hd] at a; cases a]; exact a, by rw [dl_off nl]; exact b, by rw [dl_off nt]; exact c, cs, ls, k, i, by rw [dl_off fun z => by rw [z, hd] at x; cases x]; exact x, by rw [upd_ne nl]; exact y, by rw [upd_ne nt]; exact w⟩
/-- told[0]["zz"] = "a" -/
theorem q_dput0 {pl : Pl} {i : Nat} {kvs : List (Key × V)} {ks : List Know} (hi : δ[i]? = some (some (listK (dictN B.H0 kvs :: ks)))) (hk : kvs.length < sizeLine) (hl : LeE True δ δ') (hn : ∀ k, some k ∈ δ' → NoD k) (q : Tr (FP pl) B δ' [] u D) :
    Tr (FP pl) B δ [] (tSeq (sDPut (tOp (rIxL K) (tVar i) (tC (.int 0))) (tC (.str "zz")) (tC (.str "a"))) u) D := fun σ H ⟨G, z⟩ => by
  have h0 : Ek (FP pl) (tOp (rIxL K) (tVar i) (tC (.int 0))) δ [] (dictN B.H0 kvs) := ek_op (ek_var hi) ek_c (rk_ixL (ks := dictN B.H0 kvs :: ks) (i := 0) (j := 0) rd_list (ixN_nat (j := 0) (Nat.succ_pos _)) rfl)
  refine h0 G H σ z.st _ fun x G1 H1 g1 j1 ⟨d, e, hd0, hd⟩ => ?_
  have z1 := (z.step g1 j1).weak hl
  refine ⟨d, _, e, DPut.k (k := .inr "zz") (z1.st.sub _ _ hd) hk, ?_⟩
  have hg0 : B.G0 d = none := none_sub z.s0 hd0
  have sub : Same (dl d G1) (upd H1 d (.dK (putK kvs (.inr "zz") (.str "a")))) := fun b o e => by
    have hb : b ≠ d := fun q => by rw [q, dl_on] at e; cases e
    rw [dl_off hb] at e
    rw [upd_ne hb]
    exact z1.st.sub b o e
  refine q _ _ ⟨dl d G1, z.s0, ⟨fun b o e => ?_, sub, fun a o ha e => ?_, fun a ha e => ?_, fun a ha => ?_⟩, ⟨sub, pool_dl hd j1, nod_env hd hn z1.st.env, OwnK.nil⟩, z1.fp, fun a m hm => nomatch hm⟩
  · have hb : b ≠ d := fun q => by rw [q, hg0] at e; cases e
    rw [dl_off hb]; exact z1.gr.gg b o e
  · have hb : a ≠ d := fun q => by rw [q, hd0] at e; cases e
    rw [upd_ne hb]; exact z1.gr.hh a o ha e
  · have hb : a ≠ d := fun q => ha (by rw [q]; exact hd0)
    rw [dl_off hb]; exact z1.gr.fr a ha e
  · have hb : a ≠ d := fun q => ha (by rw [q]; exact hd0)
    rw [upd_ne hb]; exact z1.gr.al a ha
/-- [e for x in xs], e drawn anew at each turn -/
theorem ek_lcDrawL {ks : List Know} {j : Nat} {α : Type} {S : α → Know} (h : Ek F ta δ μ (listK ks)) (hn : ks.length ≤ sizeLine) (he : ∀ kx, Ek F te ((wipeE δ [j]).set j (some kx)) μ (exK S)) :
    Ek F (tLc (iList K ta) (gName j) tYes te [j]) δ μ (exK fun xs : {xs : List α // xs.length = ks.length} => listK (xs.1.map S)) := by
  have h2 := en_lc (fun _ => true) (fun _ => exK S) (ei_list (K := K) (k := iK 0) h) hn gw_name (fun i hi => ⟨_, gk_name, et_yes, fun _ => he _⟩)
  rw [outs_rep] at h2
  exact ek_weak (en_ek h2) fun v G p => listK_ex _ p
end
/-! ### what is equal, as data -/
def sumD : Sum Str Nat → PyData
  | .inl s => .str s
  | .inr i => .int (i : Int)
theorem isd_sum {K : PySem.W.Frag} (x : Sum Str Nat) : IsD K (sumK x) (sumD x) := by
  cases x with
  | inl s => exact isd_str
  | inr i => exact isd_int
theorem eqv_sum (a b : Sum Str Nat) : PyData.eqv (sumD a) (sumD b) = decide (a = b) := by
  cases a with
  | inl x => cases b with
    | inl y =>
      show PyData.eqv (.str x) (.str y) = _
      rw [PyData.eqv]
      by_cases h : x = y
      · rw [h]; simp
      · have h2 : (Sum.inl x : Sum Str Nat) ≠ .inl y := fun e => h (Sum.inl.inj e)
        rw [decide_eq_false h2]
        simpa using h
    | inr j => simp [sumD, PyData.eqv]
  | inr i => cases b with
    | inl y => simp [sumD, PyData.eqv]
    | inr j =>
      have e : ((Sum.inr i : Sum Str Nat) = .inr j) ↔ i = j := ⟨Sum.inr.inj, fun h => by rw [h]⟩
      show PyData.eqv (.int (i : Int)) (.int (j : Int)) = _
      rw [PyData.eqv, Bool.eq_iff_iff, beq_iff_eq, decide_eq_true_iff, e]
      constructor <;> intro h <;> omega
theorem eqvAll_sums : ∀ a b : List (Sum Str Nat), PyData.eqvAll (a.map sumD) (b.map sumD) = decide (a = b)
  | [], [] => by simp [PyData.eqvAll]
  | [], _ :: _ => by simp [PyData.eqvAll]
  | _ :: _, [] => by simp [PyData.eqvAll]
  | x :: a, y :: b => by
    rw [List.map_cons, List.map_cons, PyData.eqvAll, eqv_sum, eqvAll_sums a b]
    by_cases h1 : x = y <;> by_cases h2 : a = b <;> simp [h1, h2]
end K8
end
section
set_option maxRecDepth 100000
set_option maxHeartbeats 1000000
namespace K8
open PySem L2 Dl
local macro_rules | `(tactic| k_extra "mod") => `(tactic| first | (show (0 : Int) < _; decide) | (show (0 : Int) < _; omega) | assumption)
local macro_rules | `(tactic| k_extra "mul") => `(tactic| (show CMul _ _; first | exact .inr ⟨by decide, by decide⟩ | exact .inl ⟨by decide, by decide⟩ | exact .inr ⟨by omega, by omega⟩ | exact .inl ⟨by omega, by omega⟩))
local macro_rules | `(tactic| k_extra "side") => `(tactic| first | k_extra "mod" | k_extra "mul" | (show CDiv _ _; exact ⟨by first | decide | omega, by first | decide | omega⟩) | (show CPow _ _; exact ⟨by decide, by decide, by decide⟩))
local macro_rules | `(tactic| k_extra "rk") => `(tactic| first
  | (with_reducible exact rk_I0)
  | ((with_reducible apply rk_I); k_extra "side")
  | ((with_reducible apply rk_eq); exact rfl)
  | ((with_reducible apply rk_ne); exact rfl))
local macro_rules | `(tactic| k_extra "cr") => `(tactic| first
  | (with_reducible exact cr_int1) | (with_reducible exact cr_abs1) | ((with_reducible apply cr_len); first | exact rd_list | exact rd_at) | ((with_reducible apply cr_lenS); first | decide | assumption))
local macro_rules | `(tactic| k_extra "ev") => `(tactic| first
  | (with_reducible exact ek_c)
  | ((with_reducible apply ek_var); exact rfl)
  | ((with_reducible apply ek_op); k_extra "ev"; k_extra "ev"; k_extra "rk")
  | ((with_reducible apply ek_cb); (with_reducible apply ea_cons); k_extra "ev"; (with_reducible exact ea_nil); k_extra "cr"))
section
variable {K : PySem.W.Frag}
theorem due_in {words fresh : List Str} : ∀ (n : Nat) (p : List Str), p ∈ M8.due words fresh n → ∀ z ∈ p, z ∈ words ∨ z ∈ fresh
  | 0, p, h => by rw [List.mem_singleton.mp h]; intro z hz; cases hz
  | n + 1, p, h => by
    obtain ⟨q, hq, hp⟩ := List.mem_flatMap.mp h
    obtain ⟨c, hc, rfl⟩ := List.mem_map.mp hp
    intro z hz
    rcases List.mem_append.mp hz with hz | hz
    · exact due_in n q hq z hz
    · rw [List.mem_singleton.mp hz]
      rcases List.mem_append.mp hc with hc | hc
      · exact .inl hc
      · exact .inr (List.mem_of_mem_take hc)
def rowD (l : List (Str × Str)) : PyData := .list (l.map fun z => .tuple [.str z.1, .str z.2])
theorem isd_row {l : List (Str × Str)} : IsD K (rowKn K l) (rowD l) := isd_list fun z _ => isd_pair isd_str isd_str
theorem shp_row {l : List (Str × Str)} (h : ∀ z ∈ l, OkS z.1 ∧ OkS z.2) : Shp (rowD l) 2 := shp_list fun z hz => shp_pair (shp_str (h z hz).1) (shp_str (h z hz).2)
theorem zip_snd : ∀ {names p : List Str}, p.length = names.length → (names.zip p).map (fun z => sK z.2) = p.map sK
  | [], [], _ => rfl
  | _ :: _, _ :: _, h => by rw [List.zip_cons_cons, List.map_cons, List.map_cons, zip_snd (by simpa using h)]
  | [], _ :: _, h => by simp at h
  | _ :: _, [], h => by simp at h
theorem shp_shape {ss : List (Sum Str Nat)} (h : ∀ s ∈ ss, ∀ x, s = .inl x → OkS x) : Shp (.list (ss.map sumD)) 1 := shp_list fun s hs => by
  cases s with
  | inl x => exact shp_str (h _ hs x rfl)
  | inr i => exact shp_int
theorem shape_ok {words p : List Str} (hw : ∀ z ∈ words, OkS z) : ∀ s ∈ M8.shape words p, ∀ x, s = .inl x → OkS x := by
  intro s hs x e
  obtain ⟨y, _, e2⟩ := List.mem_map.mp hs
  rw [e] at e2
  by_cases h : y ∈ words
  · rw [if_pos h] at e2
    cases e2
    exact hw _ h
  · rw [if_neg h] at e2; cases e2
theorem en_shape {F : Fx} {δ : Dl.Env} {μ : Mu} {ta tb : TE} {picked words : List Str} (hp : picked.length ≤ 1000) (ha : Ek F ta δ μ (strsK picked)) (hb : Ek F tb δ μ (strsK words)) : EN F (tCall (sp_law_shape K) [] E0 (tCons ta (tCons tb tNil))) δ μ (.lst ((M8.shape words picked).map sumK)) :=
  en_call (FX := fun _ : LsIn => F0) (ks := fun x => [strsK x.picked, strsK x.words]) (post := fun x => pN (.lst ((M8.shape x.words x.picked).map sumK))) ⟨picked, words, hp⟩ rfl (ea_cons ha (ea_cons hb ea_nil)) (fun _ _ _ _ p => p)
theorem isd_shape {ss : List (Sum Str Nat)} : IsD K (listK (ss.map sumK)) (.list (ss.map sumD)) := isd_list fun s _ => isd_sum s
theorem nodE {k : Know} {δ : Dl.Env} (h : NoD k) (r : ∀ q, some q ∈ δ → NoD q) : ∀ q, some q ∈ some k :: δ → NoD q := fun q hq => by
  rcases List.mem_cons.mp hq with e | hq
  · cases e; exact h
  · exact r q hq
theorem nodE0 {δ : Dl.Env} (r : ∀ q, some q ∈ δ → NoD q) : ∀ q, some q ∈ none :: δ → NoD q := fun q hq => by
  rcases List.mem_cons.mp hq with e | hq
  · cases e
  · exact r q hq
theorem nodE1 : ∀ q, some q ∈ ([] : Dl.Env) → NoD q := fun q hq => nomatch hq
theorem shape_count {x : LpIn} (nw : x.words.Nodup) {q : List Str} (hq : q.length = x.names.length) : ((x.due.map fun p => PyData.list ((M8.shape x.words p).map sumD)).countP fun z => PyData.eqv z (.list ((M8.shape x.words q).map sumD))) = 1 := by
  have ff := lp_facts x
  have h := M8.one_shape nw ff.fn ff.fd x.names.length (by rw [ff.fl]; exact Nat.le_refl _) q hq
  rw [List.countP_map]
  refine Eq.trans ?_ h
  show List.countP _ x.due = List.countP _ x.due
  apply List.countP_congr
  intro p _
  show PyData.eqv (.list _) (.list _) = true ↔ _
  rw [PyData.eqv, eqvAll_sums]
theorem r_law_patterns_hold (y : PhIn) (G0 H0 : Hp) (Q : VK) (hR : Rt (FP y.pl) ⟨(FP y.pl).P, G0, H0⟩ (pK (bK true) H0) Q) :
    Tr (FP y.pl) ⟨(FP y.pl).P, G0, H0⟩ (env0 [poolK y.pl, strsK y.x.names, strsK y.x.words, strsK y.x.used] 13) [] (t_law_patterns_hold K) { nx := fun _ H' => Q .non H', rt := Q } := by
  obtain ⟨pl, x, nn, nw⟩ := y
  simp only at hR ⊢
  have ff := lp_facts x
  have hnam := x.hn
  have hwor := x.hw
  have huse := x.hu
  have hsmall : x.due.length ≤ 9 ^ 6 := due_small x (Nat.le_refl _)
  have hpl : ∀ p ∈ x.due, p.length = x.names.length := M8.due_mem_len _
  have hpok : ∀ p ∈ x.due, ∀ z ∈ p, OkS z := fun p hp z hz => (due_in _ p hp z hz).elim (fun h => x.ou z (x.sub z h)) (fun h => ff.ok z h)
  have hwok : ∀ z ∈ x.words, OkS z := fun z hz => x.ou z (x.sub z hz)
  have hlen : x.due.length = M8.c x.words.length x.names.length 0 := M8.due_len ff.fn ff.fd x.names.length (by rw [ff.fl]; exact Nat.le_refl _)
  have hpos : 0 < x.due.length := by
    have hone := M8.one_shape nw ff.fn ff.fd x.names.length (by rw [ff.fl]; exact Nat.le_refl _) (List.replicate x.names.length Str.empty) (List.length_replicate)
    show 0 < (M8.due x.words x.fresh x.names.length).length
    cases e : M8.due x.words x.fresh x.names.length with
    | nil => rw [e] at hone; cases hone
    | cons a l => exact Nat.succ_pos _
  have shD : Shp (.list (x.due.map fun p => rowD (x.names.zip p))) 3 := shp_list fun p hp => shp_row fun z hz => ⟨x.on z.1 (List.of_mem_zip hz).1, hpok p hp z.2 (List.of_mem_zip hz).2⟩
  have isD : IsD K (listK (x.due.map fun p => rowKn K (x.names.zip p))) (.list (x.due.map fun p => rowD (x.names.zip p))) := isd_list fun p _ => isd_row
  have shN : Shp (.list (x.names.map .str)) 1 := shp_strs x.on
  have shW : Shp (.list (x.words.map .str)) 1 := shp_strs hwok
  have shU : Shp (.list (x.used.map .str)) 1 := shp_strs x.ou
  have shB : Shp (.list (x.due.map fun _ => .bool true)) 1 := shp_list fun _ _ => shp_bool
  unfold t_law_patterns_hold
  refine q_asg (k := listK (x.due.map fun p => rowKn K (x.names.zip p))) (en_ek (en_call (FX := fun _ : LpIn => F0) (ks := fun x => [strsK x.names, strsK x.words, strsK x.used]) (post := fun x => pN (.lst (x.due.map fun p => rowKn K (x.names.zip p)))) x rfl (ea_cons (ek_var rfl) (ea_cons (ek_var rfl) (ea_cons (ek_var rfl) ea_nil))) (fun _ _ _ _ p => p))) ?_
  refine q_asg (k := strsK x.names) (en_ek (en_cb (ea_cons (ek_var rfl) ea_nil) (cn_list (K := K) rd_list))) ?_
  refine q_asg (k := strsK x.words) (en_ek (en_cb (ea_cons (ek_var rfl) ea_nil) (cn_list (K := K) rd_list))) ?_
  refine q_asg (k := strsK x.used) (en_ek (en_cb (ea_cons (ek_var rfl) ea_nil) (cn_list (K := K) rd_list))) ?_
  refine q_told (x := x) nn (ea_cons (ek_var rfl) (ea_cons (ek_var rfl) (ea_cons (ek_var rfl) ea_nil))) ?_
  -- [isinstance(one, dict) for one in told] != [True] * len(due)
  refine q_when (P := (· = false)) (et_test (ek_eq (ek_op (en_ek (en_lcM (K := K) (fun p => dictN H0 (kvL (x.names.zip p))) (fun _ => bK true) x.due (ek_var rfl) (by unfold sizeLine; omega) fun p hp => ek_cb (ea_cons (ek_var rfl) (ea_cons ek_c ea_nil)) cr_isiD))
    (ek_eq (en_ek (en_op (en_ek (en_lst (ea_cons ek_c ea_nil) (by show 1 ≤ sizeLine; unfold sizeLine; omega))) (ek_eq (ek_cb (ea_cons (ek_var rfl) ea_nil) (cr_len (ks := x.due.map fun p => rowKn K (x.names.zip p)) rd_list)) (by rw [List.length_map])) (rn_rep (n := (x.due.length : Int)) rd_list (by omega) (by show 1 * _ ≤ sizeLine; unfold sizeLine; omega) (by omega)))) (k' := listK (x.due.map fun _ => bK true)) (by rw [rep_one, Int.toNat_natCast, List.map_const'])) (rk_neD (d := .list (x.due.map fun _ => .bool true)) (e := .list (x.due.map fun _ => .bool true)) (isd_list fun _ _ => isd_bl) (isd_list fun _ _ => isd_bl) shB.shaped shB.shaped)) (by rw [shB.refl]; rfl))) (fun h => nomatch h) fun _ => ?_
  -- [list(one.items()) for one in told] != due or given != names
  refine q_when (P := (· = false)) (et_weak (et_or (a := false) (b := false) (et_test (ek_eq (ek_op (en_ek (en_lcM (K := K) (fun p => dictN H0 (kvL (x.names.zip p))) (fun p => rowKn K (x.names.zip p)) x.due (ek_var rfl) (by unfold sizeLine; omega) fun p hp => ek_items (ek_var rfl))) (ek_var rfl) (rk_neD isD isD shD.shaped shD.shaped)) (by rw [shD.refl]; rfl))) fun _ => et_test (ek_eq (ek_op (ek_var rfl) (ek_var rfl) (rk_neD isd_strs isd_strs shN.shaped shN.shaped)) (by rw [shN.refl]; rfl))) fun b h => h) (fun h => nomatch h) fun _ => ?_
  refine q_when (P := (· = false)) (et_weak (et_or (a := false) (b := false) (et_test (ek_eq (ek_op (ek_var rfl) (ek_var rfl) (rk_neD isd_strs isd_strs shW.shaped shW.shaped)) (by rw [shW.refl]; rfl))) fun _ => et_test (ek_eq (ek_op (ek_var rfl) (ek_var rfl) (rk_neD isd_strs isd_strs shU.shaped shU.shaped)) (by rw [shU.refl]; rfl))) fun b h => h) (fun h => nomatch h) fun _ => ?_
  -- the count
  have shI : Shp (.int ((M8.c x.words.length x.names.length 0 : Nat) : Int)) 0 := shp_int
  refine q_when (P := (· = false)) (et_test (ek_eq (ek_op (ek_call (FX := fun _ : Int => F0) (ks := fun x => [iK x]) (post := fun x => pK (iK x)) (((M8.c x.words.length x.names.length 0 : Nat) : Int)) rfl (ea_cons (ek_call (FX := fun _ : PcIn => F0) (ks := fun x => [iK (x.n : Int), iK (x.w : Int)]) (post := fun x => pK (iK ((M8.c x.w x.n 0 : Nat) : Int))) ⟨x.names.length, x.words.length, by omega, by omega⟩ rfl (ea_cons (ek_eq (ek_cb (ea_cons (ek_var rfl) ea_nil) (cr_len (ks := x.names.map sK) rd_list)) (by rw [List.length_map])) (ea_cons (ek_eq (ek_cb (ea_cons (ek_var rfl) ea_nil) (cr_len (ks := x.words.map sK) rd_list)) (by rw [List.length_map])) ea_nil)) (fun _ _ _ _ p => p)) ea_nil) (fun _ _ _ _ p => p))
    (ek_eq (ek_cb (ea_cons (ek_var rfl) ea_nil) (cr_len (ks := x.due.map fun p => rowKn K (x.names.zip p)) rd_list)) (k' := iK ((M8.c x.words.length x.names.length 0 : Nat) : Int)) (by rw [List.length_map, hlen])) (rk_neD isd_int isd_int shI.shaped shI.shaped)) (by rw [shI.refl]; rfl))) (fun h => nomatch h) fun _ => ?_
  -- the shapes
  refine q_new (m := .lst []) (en_lst ea_nil (by decide)) fun a => ?_
  refine q_forN (fun b : Nat => ([some (poolK pl), some (strsK x.names), some (strsK x.words), some (strsK x.used), some (listK (x.due.map fun p => rowKn K (x.names.zip p))), some (strsK x.names), some (strsK x.words), some (strsK x.used), some (listK (x.due.map fun p => dictN H0 (kvL (x.names.zip p)))), none, some (valK (.ref a)), none, none, none, none, none, none], [(a, .lst ((x.due.take b).map fun p => listK ((M8.shape x.words p).map sumK)))])) (fun i b => b = i) (ei_list (K := K) (k := iK 0) (ks := x.due.map fun p => rowKn K (x.names.zip p)) (ek_var rfl)) 0 rfl (.keep (.keep (.keep (.keep (.keep (.keep (.keep (.keep (.keep (.drop (.keep (.drop (.drop (.drop (.drop (.drop (.drop .nil))))))))))))))))) rfl ?_ ?_
  · rintro B' l i b hi rfl N hN
    rw [List.length_map] at hi
    have hg : ((x.due.map fun p => rowKn K (x.names.zip p))[b]?).getD (iK 0) = rowKn K (x.names.zip x.due[b]) := by rw [List.getElem?_map, List.getElem?_eq_getElem hi]; rfl
    rw [hg]
    have etake := take_snoc hi
    have hpb := hpl _ (List.getElem_mem hi)
    generalize x.due[b] = p at etake hpb ⊢
    refine s_app (k := listK ((M8.shape x.words p).map sumK)) 0 rfl (ek_var rfl) (en_ek (en_shape (picked := p) (by omega) (ek_eq (en_ek (en_lcM (K := K) (pairKn K) (fun z => sK z.2) (x.names.zip p) (ek_var rfl) (by rw [List.length_zip]; unfold sizeLine; omega) fun z hz => ek_op (ek_var rfl) ek_c (rk_ixT (ks := [sK z.1, sK z.2]) (i := 1) (j := 1) (ixN_nat (j := 1) (by simp)) rfl))) (by rw [zip_snd hpb])) (ek_var rfl))) (by rw [List.length_map, List.length_take]; unfold sizeLine; omega) ?_
    have := hN (b + 1) rfl
    rw [etake, List.map_append] at this
    exact to_weak (.keep (.keep (.keep (.keep (.keep (.keep (.keep (.keep (.keep (.drop (.keep (.drop (.drop (.drop (.drop (.drop (.drop .nil))))))))))))))))) this
  · rintro b hb
    rw [List.length_map] at hb
    subst hb
    rw [List.take_length]
    refine q_asg (k := strsK ((x.words ++ (["n1", "n2", "zz", "9"] : List Str)) ++ x.used)) (ek_eq (en_ek (en_op (en_ek (en_op (ek_var rfl) (en_ek (en_lst (ea_cons ek_c (ea_cons ek_c (ea_cons ek_c (ea_cons ek_c ea_nil)))) (by show 4 ≤ sizeLine; unfold sizeLine; omega))) (rn_cat (ks := x.words.map sK) rd_list rd_list (by rw [List.length_map]; show _ + 4 ≤ sizeLine; unfold sizeLine; omega)))) (ek_var rfl) (rn_cat (ls := x.used.map sK) rd_list rd_list (by rw [List.length_append, List.length_map, List.length_map]; show _ + 4 + _ ≤ sizeLine; unfold sizeLine; omega)))) (by show _ = listK (List.map sK _); rw [List.map_append, List.map_append]; rfl)) ?_
    have hol : ((x.words ++ (["n1", "n2", "zz", "9"] : List Str)) ++ x.used).length = x.words.length + 4 + x.used.length := by rw [List.length_append, List.length_append]; rfl
    generalize (x.words ++ (["n1", "n2", "zz", "9"] : List Str)) ++ x.used = others at hol
    refine q_forN (fun _ : Unit => ([some (poolK pl), some (strsK x.names), some (strsK x.words), some (strsK x.used), some (listK (x.due.map fun p => rowKn K (x.names.zip p))), some (strsK x.names), some (strsK x.words), some (strsK x.used), some (listK (x.due.map fun p => dictN H0 (kvL (x.names.zip p)))), none, some (valK (.ref a)), none, some (strsK others), none, none, none, none], [(a, .lst (x.due.map fun p => listK ((M8.shape x.words p).map sumK)))])) (fun _ _ => True) (ei_rng1 (n := 8) (ea_cons ek_c ea_nil) (by omega) (by omega)) () trivial (.keep (.keep (.keep (.keep (.keep (.keep (.keep (.keep (.keep (.drop (.keep (.drop (.keep (.drop (.drop (.drop (.drop .nil))))))))))))))))) rfl ?_ ?_
    · rintro B' l i _ hi _ N hN
      have hdraw : ∀ (δ : Dl.Env) (μ : Mu), δ[1]? = some (some (strsK x.names)) → (∀ kx, ((wipeE δ [15]).set 15 (some kx))[0]? = some (some (poolK pl))) → (∀ kx, ((wipeE δ [15]).set 15 (some kx))[12]? = some (some (strsK others))) → Ek (FP pl) (tLc (iList K (tVar 1)) (gName 15) tYes (tCall (sp_law_one_of K) [] E0 (tCons (tVar 0) (tCons (tVar 12) tNil))) [15]) δ μ (exK fun q : {q : List Str // q.length = x.names.length} => strsK q.1) := fun δ μ h1 h2 h3 =>
        ek_weak (ek_lcDrawL (K := K) (ks := x.names.map sK) (S := fun s : {s : Str // s ∈ others} => sK s.1) (ek_var h1) (by rw [List.length_map]; unfold sizeLine; omega) fun kx => ek_oneS (K := K) (xs := others) (ek_var (h2 kx)) (ek_var (h3 kx)) (by omega) (by omega)) fun v G ⟨q, p⟩ => ⟨⟨q.1.map (·.1), by rw [List.length_map, q.2, List.length_map]⟩, by
          show (listK (List.map sK (List.map _ q.1))).p v G
          rw [List.map_map]; exact p⟩
      refine q_asgx (hdraw _ _ rfl (fun _ => rfl) (fun _ => rfl)) fun q => ?_
      obtain ⟨q, hq⟩ := q
      simp only
      have hc := shape_count nw hq
      have sh1 : Shp (.list (x.due.map fun p => PyData.list ((M8.shape x.words p).map sumD))) 2 := shp_list fun p _ => shp_shape (shape_ok hwok)
      have sh2 : Shp (.list ((M8.shape x.words q).map sumD)) 1 := shp_shape (shape_ok hwok)
      refine s_if (P := (· = false)) (et_test (ek_eq (ek_op (ek_countD (K := K) (f := fun p => listK ((M8.shape x.words p).map sumK)) (g := fun p => PyData.list ((M8.shape x.words p).map sumD)) (xs := x.due) (rd_own List.mem_cons_self) (fun p _ => isd_shape) (ek_var rfl) (en_ek (en_shape (picked := q) (by omega) (ek_var rfl) (ek_var rfl))) isd_shape sh1.shaped sh2.shaped) ek_c (rk_ne rfl)) (by rw [hc]; rfl))) (fun h => nomatch h) fun _ => ?_
      exact s_next (to_weak (.keep (.keep (.keep (.keep (.keep (.keep (.keep (.keep (.keep (.drop (.keep (.drop (.keep (.drop (.drop (.drop (.drop .nil))))))))))))))))) (hN () trivial))
    · rintro _ _
      refine to_drop (List.nil_sublist _) ?_
      obtain ⟨p0, rest, hdue⟩ : ∃ p0 rest, x.due = p0 :: rest := by
        cases e : x.due with
        | nil => rw [e] at hpos; cases hpos
        | cons p0 rest => exact ⟨p0, rest, rfl⟩
      have hp0 : p0 ∈ x.due := by rw [hdue]; exact List.mem_cons_self
      refine q_dput0 (i := 8) (kvs := kvL (x.names.zip p0)) (ks := rest.map fun p => dictN H0 (kvL (x.names.zip p)))
        (δ' := [some (poolK pl), some (strsK x.names), some (strsK x.words), some (strsK x.used), some (listK (x.due.map fun p => rowKn K (x.names.zip p))), some (strsK x.names), some (strsK x.words), some (strsK x.used), none, none, none, none, none, none, none, none, none])
        (by show some (some (listK (x.due.map _))) = _; rw [hdue]; rfl) (by unfold kvL; rw [List.length_map, List.length_zip]; unfold sizeLine; omega)
        (.keep (.keep (.keep (.keep (.keep (.keep (.keep (.keep (.drop (.drop (.drop (.drop (.drop (.drop (.drop (.drop (.drop .nil)))))))))))))))))
        (nodE nod_val (nodE nod_strs (nodE nod_strs (nodE nod_strs (nodE (nod_list fun k hk => by
          obtain ⟨p, _, rfl⟩ := List.mem_map.mp hk
          exact nod_row) (nodE nod_strs (nodE nod_strs (nodE nod_strs (nodE0 (nodE0 (nodE0 (nodE0 (nodE0 (nodE0 (nodE0 (nodE0 (nodE0 nodE1))))))))))))))))) ?_
      refine q_asg (k := listK (x.due.map fun p => rowKn K (x.names.zip p))) (ek_again (K := K) (x := x) nn (ea_cons (ek_var rfl) (ea_cons (ek_var rfl) (ea_cons (ek_var rfl) ea_nil)))) ?_
      exact s_ret hR (ek_eq (ek_op (ek_var rfl) (ek_var rfl) (rk_eqD isD isD shD.shaped shD.shaped)) (by rw [shD.refl])) fun v G H p => p
end
end K8
end
section
set_option maxRecDepth 100000
set_option maxHeartbeats 1000000
namespace K8
open PySem L2 Dl
local macro_rules | `(tactic| k_extra "mod") => `(tactic| first | (show (0 : Int) < _; decide) | (show (0 : Int) < _; omega) | assumption)
local macro_rules | `(tactic| k_extra "mul") => `(tactic| (show CMul _ _; first | exact .inr ⟨by decide, by decide⟩ | exact .inl ⟨by decide, by decide⟩ | exact .inr ⟨by omega, by omega⟩ | exact .inl ⟨by omega, by omega⟩))
local macro_rules | `(tactic| k_extra "side") => `(tactic| first | k_extra "mod" | k_extra "mul" | (show CDiv _ _; exact ⟨by first | decide | omega, by first | decide | omega⟩) | (show CPow _ _; exact ⟨by decide, by decide, by decide⟩))
local macro_rules | `(tactic| k_extra "rk") => `(tactic| first
  | (with_reducible exact rk_I0)
  | ((with_reducible apply rk_I); k_extra "side")
  | ((with_reducible apply rk_eq); exact rfl)
  | ((with_reducible apply rk_ne); exact rfl))
local macro_rules | `(tactic| k_extra "cr") => `(tactic| first
  | (with_reducible exact cr_int1) | (with_reducible exact cr_abs1) | ((with_reducible apply cr_len); first | exact rd_list | exact rd_at) | ((with_reducible apply cr_lenS); first | decide | assumption))
local macro_rules | `(tactic| k_extra "ev") => `(tactic| first
  | (with_reducible exact ek_c)
  | ((with_reducible apply ek_var); exact rfl)
  | ((with_reducible apply ek_op); k_extra "ev"; k_extra "ev"; k_extra "rk")
  | ((with_reducible apply ek_cb); (with_reducible apply ea_cons); k_extra "ev"; (with_reducible exact ea_nil); k_extra "cr"))
abbrev s_law : Stmt := topS 18
theorem sc_law : FnScope ["script", "pool", "letters", "start", "number", "names", "many", "wide", "k", "words", "spare", "word", "used", "told"] ["script"] (defScope s_law) := ⟨rfl, rfl, rfl, by decide +kernel, rfl, by decide +kernel, by decide +kernel⟩
def t_law (K : PySem.W.Frag) : TS :=
    (tSeq (tAsg (tCall (sp_law_pool K) [] E0 (tCons (tVar 0) tNil)) (gName 1))
    (tSeq (tAsg (tC (.str "ABCDEFGHIJKLMNOPQRSTUVWXYZ")) (gName 2))
    (tSeq (tAsg (tCall (sp_law_pick K) [] E0 (tCons (tVar 1) (tCons (tC (.int 26)) tNil))) (gName 3))
    (tSeq (tAsg (tCall (sp_law_pick K) [] E0 (tCons (tVar 1) (tCons (tC (.int 90)) tNil))) (gName 4))
    (tSeq (tAsg (tLst tNil) (gName 5))
    (tSeq (tAsg (tCall (sp_law_pick K) [] E0 (tCons (tVar 1) (tCons (tC (.int 5)) tNil))) (gName 6))
    (tSeq (tAsg (tCall (sp_law_pick K) [] E0 (tCons (tVar 1) (tCons (tC (.int 4)) tNil))) (gName 7))
    (tSeq (tIfS (tTest (tOp rEq (tCall (sp_law_pick K) [] E0 (tCons (tVar 1) (tCons (tC (.int 8)) tNil))) (tC (.int 0)))) (tSeq (tAsg (tC (.int 6)) (gName 6))
      (tAsg (tOp (rI (fun _ j => 0 < j) fun i j => .int (i % j)) (tCB rInt (tCons (tVar 7) tNil)) (tC (.int 2))) (gName 7))) tNext)
    (tSeq (tFor (iRng1 (tCons (tVar 6) tNil)) (gName 8) (tDrop (tBM K "list" rAppend (tVar 5) (tCons (tOp rAddStr (tOp rIxS (tVar 2) (tOp (rI (fun _ j => 0 < j) fun i j => .int (i % j)) (tCB rInt (tCons (tOp (rI0 fun i j => .int (i + j)) (tVar 3) (tOp (rI CMul fun i j => .int (i * j)) (tC (.int 7)) (tVar 8))) tNil)) (tC (.int 26)))) (tCB rStrI (tCons (tOp (rI0 fun i j => .int (i + j)) (tVar 4) (tVar 8)) tNil))) tNil))))
    (tSeq (tAsg (tSl (rSlL K) (tCall (sp_law_names K) [] E0 (tCons (tVar 1) (tCons (tC (.int 3)) (tCons (tC (.str "abcdefghijklmnopqrstuvwxyz0123456789")) tNil)))) tNoPart (tPart (tVar 7))) (gName 9))
    (tSeq (tIfS (tAnd (tTest (tOp (rNeD K) (tVar 9) (tLst tNil))) (tTest (tOp rEq (tCall (sp_law_pick K) [] E0 (tCons (tVar 1) (tCons (tC (.int 3)) tNil))) (tC (.int 0))))) (tSeq (tAsg (tLc (iList K (tLst (tCons (tC (.str "n2")) (tCons (tC (.str "n3")) (tCons (tC (.str "n5")) (tCons (tC (.str "n7")) tNil)))))) (gName 11) (tTest (tOp (rIn K true) (tVar 11) (tVar 9))) (tVar 11) [11]) (gName 10))
      (tAsg (tCall (sp_law_one_of K) [] E0 (tCons (tVar 1) (tCons (tVar 10) tNil))) (gSub (tVar 9) (tUn (rU fun i => .int (-i)) (tC (.int 1))) rSetL))) tNext)
    (tSeq (tAsg (tCall (sp_law_used K) [] E0 (tCons (tVar 1) (tCons (tVar 9) tNil))) (gName 12))
    (tSeq (tIfS (tNot (tB (tCall (sp_law_fresh_hold K) [] E0 (tCons (tVar 1) (tCons (tVar 12) tNil))))) (tRet (tC (.bl false))) tNext)
    (tSeq (tIfS (tNot (tB (tCall (sp_law_patterns_hold K) [] E0 (tCons (tVar 1) (tCons (tVar 5) (tCons (tVar 9) (tCons (tVar 12) tNil))))))) (tRet (tC (.bl false))) tNext)
    (tSeq (tFor (iRng1 (tCons (tC (.int 3)) tNil)) (gName 8) (tSeq (tAsg (tCall (sp_law_pick K) [] E0 (tCons (tVar 1) (tCons (tC (.int 13)) tNil))) (gName 6))
      (tSeq (tAsg (tCall (sp_law_pick K) [] E0 (tCons (tVar 1) (tCons (tC (.int 31)) tNil))) (gName 7))
      (tIfS (tTest (tOp (rNeD K) (tCall (sp_law_number K) [] E0 (tCons (tCall (sp_pattern_count K) [] E0 (tCons (tVar 6) (tCons (tVar 7) tNil))) tNil)) (tCall (sp_law_count K) [] E0 (tCons (tVar 6) (tCons (tVar 7) tNil))))) (tRet (tC (.bl false))) tNext))))
    (tSeq (tIfS (tTest (tOp rEq (tCall (sp_law_pick K) [] E0 (tCons (tVar 1) (tCons (tC (.int 8)) tNil))) (tC (.int 0)))) (tSeq (tAsg (tCall (sp_law_pick K) [] E0 (tCons (tVar 1) (tCons (tC (.int 201)) tNil))) (gName 6))
      (tSeq (tAsg (tCall (sp_law_pick K) [] E0 (tCons (tVar 1) (tCons (tC (.int 1001)) tNil))) (gName 7))
      (tSeq (tAsg (tCallK (sp_pattern_count K) gSwap E0 tNil (tCons (tVar 7) (tCons (tVar 6) tNil))) (gName 13))
      (tRet (tOp (rEqD K) (tCall (sp_law_number K) [] E0 (tCons (tVar 13) tNil)) (tCall (sp_law_count K) [] E0 (tCons (tVar 6) (tCons (tVar 7) tNil)))))))) tNext)
    (tRet (tAndV (tOp rEq (tCall (sp_pattern_count K) [] E0 (tCons (tC (.int 0)) (tCons (tCB (rLenQ K) (tCons (tVar 9) tNil)) tNil))) (tC (.int 1))) (tOp rEq (tCall (sp_pattern_count K) [] E0 (tCons (tC (.int 1)) (tCons (tC (.int 1000)) tNil))) (tC (.int 1001)))))))))))))))))))))
section
variable {P : Program} {w : World} {K : PySem.W.Frag} {mg : Str → Option Value} {base : Heap} {f : Addr}
theorem d_law {f_law_pool f_law_pick f_law_names f_law_one_of f_law_used f_law_fresh_hold f_law_patterns_hold f_law_number f_pattern_count f_law_count : Addr} {fd_law_pool fd_law_pick fd_law_names fd_law_one_of fd_law_used fd_law_fresh_hold fd_law_patterns_hold fd_law_number fd_pattern_count fd_law_count : FuncData} (T : Txt mg) (C_law_pool : Cal P w K mg base "_law_pool" s_law_pool ["script"] 1 f_law_pool fd_law_pool (sp_law_pool K)) (C_law_pick : Cal P w K mg base "_law_pick" s_law_pick ["pool", "many"] 1 f_law_pick fd_law_pick (sp_law_pick K)) (C_law_names : Cal P w K mg base "_law_names" s_law_names ["pool", "many", "signs"] 3 f_law_names fd_law_names (sp_law_names K)) (C_law_one_of : Cal P w K mg base "_law_one_of" s_law_one_of ["pool", "things"] 2 f_law_one_of fd_law_one_of (sp_law_one_of K)) (C_law_used : Cal P w K mg base "_law_used" s_law_used ["pool", "words"] 2 f_law_used fd_law_used (sp_law_used K)) (C_law_fresh_hold : Cal P w K mg base "_law_fresh_hold" s_law_fresh_hold ["pool", "used"] 3 f_law_fresh_hold fd_law_fresh_hold (sp_law_fresh_hold K)) (C_law_patterns_hold : Cal P w K mg base "_law_patterns_hold" s_law_patterns_hold ["pool", "names", "words", "used"] 6 f_law_patterns_hold fd_law_patterns_hold (sp_law_patterns_hold K)) (C_law_number : Cal P w K mg base "_law_number" s_law_number ["told"] 1 f_law_number fd_law_number (sp_law_number K)) (C_pattern_count : CalK P w K mg base "pattern_count" s_pattern_count ["many_names", "many_words"] 1 f_pattern_count fd_pattern_count (sp_pattern_count K)) (C_law_count : Cal P w K mg base "_law_count" s_law_count ["many_names", "many_words"] 1 f_law_count fd_law_count (sp_law_count K)) (cdv : Value) (A : Around) (outer : List PySem.Env) (s : Shared) (H : Hp) (E : XK) (hr : Room 6 (A.deeper (PyProof.Rows.envOfC "law" (defScope s_law) s.heap.objs.size f cdv))) :
    PSs (cxOf CX0 P w K mg base ["script", "pool", "letters", "start", "number", "names", "many", "wide", "k", "words", "spare", "word", "used", "told"] "law" (defScope s_law) f cdv A outer s H E).nox (defBody s_law) (t_law K) := by
  exact (pss_cons (ps_set (i := 1) sc_law.nd rfl (by first | exact Or.inl rfl | exact Or.inr rfl) (pe_call C_law_pool.O (hr.mono (by decide)) (by rfl) C_law_pool.A.g C_law_pool.A.F.kp C_law_pool.A.b .nil pass0 (pa_cons (pv 0) pa_nil)))
    (pss_cons (ps_set (i := 2) sc_law.nd rfl (by first | exact Or.inl rfl | exact Or.inr rfl) pe_str)
    (pss_cons (ps_set (i := 3) sc_law.nd rfl (by first | exact Or.inl rfl | exact Or.inr rfl) (pe_call C_law_pick.O (hr.mono (by decide)) (by rfl) C_law_pick.A.g C_law_pick.A.F.kp C_law_pick.A.b .nil pass0 (pa_cons (pv 1) (pa_cons pe_int pa_nil))))
    (pss_cons (ps_set (i := 4) sc_law.nd rfl (by first | exact Or.inl rfl | exact Or.inr rfl) (pe_call C_law_pick.O (hr.mono (by decide)) (by rfl) C_law_pick.A.g C_law_pick.A.F.kp C_law_pick.A.b .nil pass0 (pa_cons (pv 1) (pa_cons pe_int pa_nil))))
    (pss_cons (ps_set (i := 5) sc_law.nd rfl (by first | exact Or.inl rfl | exact Or.inr rfl) (pe_lst pa_nil))
    (pss_cons (ps_set (i := 6) sc_law.nd rfl (by first | exact Or.inl rfl | exact Or.inr rfl) (pe_call C_law_pick.O (hr.mono (by decide)) (by rfl) C_law_pick.A.g C_law_pick.A.F.kp C_law_pick.A.b .nil pass0 (pa_cons (pv 1) (pa_cons pe_int pa_nil))))
    (pss_cons (ps_set (i := 7) sc_law.nd rfl (by first | exact Or.inl rfl | exact Or.inr rfl) (pe_call C_law_pick.O (hr.mono (by decide)) (by rfl) C_law_pick.A.g C_law_pick.A.F.kp C_law_pick.A.b .nil pass0 (pa_cons (pv 1) (pa_cons pe_int pa_nil))))
    (pss_cons (ps_if (pt_cmpR op_eq (pe_call C_law_pick.O (hr.mono (by decide)) (by rfl) C_law_pick.A.g C_law_pick.A.F.kp C_law_pick.A.b .nil pass0 (pa_cons (pv 1) (pa_cons pe_int pa_nil))) pe_int (nomark _)) (pss_cons (ps_set (i := 6) sc_law.nd rfl (by first | exact Or.inl rfl | exact Or.inr rfl) pe_int)
      (pss_one (ps_set (i := 7) sc_law.nd rfl (by first | exact Or.inl rfl | exact Or.inr rfl) (pe_op op_mod (pe_callTy cx_int (by rfl) T.b_int bb_int (pa_cons (pv 7) pa_nil)) pe_int)))) pss_nil)
    (pss_cons (ps_for PassesOwn.never rfl (pi_range1 (by rfl) T.b_range (pa_cons (pv 6) pa_nil)) (pg_name (i := 8) sc_law.nd rfl (by first | exact Or.inl rfl | exact Or.inr rfl)) (pss_one (ps_expr (pe_bm PySem.F.plainAttrs_list PySem.F.slot_list_append PySem.F.type_list_append mt_append (pv 5) (pa_cons (pe_op ox_addS (pe_ix ix_str (pv 2) (pe_op op_mod (pe_callTy cx_int (by rfl) T.b_int bb_int (pa_cons (pe_op op_add (pv 3) (pe_op op_mul pe_int (pv 8))) pa_nil)) pe_int) (fun _ _ => rfl)) (pe_callTy cx_strI (by rfl) T.b_str bb_str (pa_cons (pe_op op_add (pv 4) (pv 8)) pa_nil))) pa_nil)))))
    (pss_cons (ps_set (i := 9) sc_law.nd rfl (by first | exact Or.inl rfl | exact Or.inr rfl) (pe_slice sl_list (pe_call C_law_names.O (hr.mono (by decide)) (by rfl) C_law_names.A.g C_law_names.A.F.kp C_law_names.A.b .nil pass0 (pa_cons (pv 1) (pa_cons pe_int (pa_cons pe_str pa_nil)))) po_none (po_some (pv 7))))
    (pss_cons (ps_if (PW.pt (pw_and (pt_cmpR (op_neD hr.units) (pv 9) (pe_lst pa_nil) (nomark _)) (pw_and1 (pt_cmpR op_eq (pe_call C_law_pick.O (hr.mono (by decide)) (by rfl) C_law_pick.A.g C_law_pick.A.F.kp C_law_pick.A.b .nil pass0 (pa_cons (pv 1) (pa_cons pe_int pa_nil))) pe_int (nomark _))))) (pss_cons (by first | exact (ps_setLc (i := 10) (own := [("word", 11)]) (g := (gName 11)) (tt := (tTest (tOp (rIn K true) (tVar 11) (tVar 9)))) (te := (tVar 11)) rfl sc_law.nd rfl rfl (sw_true rfl rfl rfl (by decide +kernel)) (pi_list (pe_lst (pa_cons pe_str (pa_cons pe_str (pa_cons pe_str (pa_cons pe_str pa_nil)))))) (blkOk_by (own := [("word", 11)]) (N := ["script", "pool", "letters", "start", "number", "names", "many", "wide", "k", "words", "spare", "word", "used", "told"]) (sc := defScope s_law) (by decide +kernel)) (fun _ _ _ _ _ => (pg_name (i := 11) sc_law.nd rfl (by first | exact Or.inl rfl | exact Or.inr rfl))) (fun _ _ _ _ _ => (pts_one (pt_cmpR op_notIn_seq (pv 11) (pv 9) (by rfl)))) (fun _ _ _ _ _ => (pv 11))) | exact (ps_set (i := 10) sc_law.nd rfl (by first | exact Or.inl rfl | exact Or.inr rfl) (pe_lc (own := [("word", 11)]) (g := (gName 11)) (tt := (tTest (tOp (rIn K true) (tVar 11) (tVar 9)))) (te := (tVar 11)) rfl sc_law.nd (pi_list (pe_lst (pa_cons pe_str (pa_cons pe_str (pa_cons pe_str (pa_cons pe_str pa_nil)))))) (blkOk_by (own := [("word", 11)]) (N := ["script", "pool", "letters", "start", "number", "names", "many", "wide", "k", "words", "spare", "word", "used", "told"]) (sc := defScope s_law) (by decide +kernel)) (fun _ _ _ _ _ => (pg_name (i := 11) sc_law.nd rfl (by first | exact Or.inl rfl | exact Or.inr rfl))) (fun _ _ _ _ _ => (pts_one (pt_cmpR op_notIn_seq (pv 11) (pv 9) (by rfl)))) (fun _ _ _ _ _ => (pv 11)))))
      (pss_one (ps_asg (pe_call C_law_one_of.O (hr.mono (by decide)) (by rfl) C_law_one_of.A.g C_law_one_of.A.F.kp C_law_one_of.A.b .nil pass0 (pa_cons (pv 1) (pa_cons (pv 10) pa_nil))) (pg_sub (pv 9) (pe_un un_neg pe_int) set_list)))) pss_nil)
    (pss_cons (ps_set (i := 12) sc_law.nd rfl (by first | exact Or.inl rfl | exact Or.inr rfl) (pe_call C_law_used.O (hr.mono (by decide)) (by rfl) C_law_used.A.g C_law_used.A.F.kp C_law_used.A.b .nil pass0 (pa_cons (pv 1) (pa_cons (pv 9) pa_nil))))
    (pss_cons (ps_if (pt_not (pt_val (pe_call C_law_fresh_hold.O (hr.mono (by decide)) (by rfl) C_law_fresh_hold.A.g C_law_fresh_hold.A.F.kp C_law_fresh_hold.A.b .nil pass0 (pa_cons (pv 1) (pa_cons (pv 12) pa_nil))))) (pss_one (ps_ret pe_bl)) pss_nil)
    (pss_cons (ps_if (pt_not (pt_val (pe_call C_law_patterns_hold.O (hr.mono (by decide)) (by rfl) C_law_patterns_hold.A.g C_law_patterns_hold.A.F.kp C_law_patterns_hold.A.b .nil pass0 (pa_cons (pv 1) (pa_cons (pv 5) (pa_cons (pv 9) (pa_cons (pv 12) pa_nil))))))) (pss_one (ps_ret pe_bl)) pss_nil)
    (pss_cons (ps_for PassesOwn.never rfl (pi_range1 (by rfl) T.b_range (pa_cons pe_int pa_nil)) (pg_name (i := 8) sc_law.nd rfl (by first | exact Or.inl rfl | exact Or.inr rfl)) (pss_cons (ps_set (i := 6) sc_law.nd rfl (by first | exact Or.inl rfl | exact Or.inr rfl) (pe_call C_law_pick.O (hr.mono (by decide)) (by rfl) C_law_pick.A.g C_law_pick.A.F.kp C_law_pick.A.b .nil pass0 (pa_cons (pv 1) (pa_cons pe_int pa_nil))))
      (pss_cons (ps_set (i := 7) sc_law.nd rfl (by first | exact Or.inl rfl | exact Or.inr rfl) (pe_call C_law_pick.O (hr.mono (by decide)) (by rfl) C_law_pick.A.g C_law_pick.A.F.kp C_law_pick.A.b .nil pass0 (pa_cons (pv 1) (pa_cons pe_int pa_nil))))
      (pss_one (ps_if (pt_cmpR (op_neD hr.units) (pe_call C_law_number.O (hr.mono (by decide)) (by rfl) C_law_number.A.g C_law_number.A.F.kp C_law_number.A.b .nil pass0 (pa_cons (pe_call C_pattern_count.O (hr.mono (by decide)) (by rfl) C_pattern_count.A.g C_pattern_count.A.F.kp C_pattern_count.A.b .nil pass0 (pa_cons (pv 6) (pa_cons (pv 7) pa_nil))) pa_nil)) (pe_call C_law_count.O (hr.mono (by decide)) (by rfl) C_law_count.A.g C_law_count.A.F.kp C_law_count.A.b .nil pass0 (pa_cons (pv 6) (pa_cons (pv 7) pa_nil))) (nomark _)) (pss_one (ps_ret pe_bl)) pss_nil)))))
    (pss_cons (ps_if (pt_cmpR op_eq (pe_call C_law_pick.O (hr.mono (by decide)) (by rfl) C_law_pick.A.g C_law_pick.A.F.kp C_law_pick.A.b .nil pass0 (pa_cons (pv 1) (pa_cons pe_int pa_nil))) pe_int (nomark _)) (pss_cons (ps_set (i := 6) sc_law.nd rfl (by first | exact Or.inl rfl | exact Or.inr rfl) (pe_call C_law_pick.O (hr.mono (by decide)) (by rfl) C_law_pick.A.g C_law_pick.A.F.kp C_law_pick.A.b .nil pass0 (pa_cons (pv 1) (pa_cons pe_int pa_nil))))
      (pss_cons (ps_set (i := 7) sc_law.nd rfl (by first | exact Or.inl rfl | exact Or.inr rfl) (pe_call C_law_pick.O (hr.mono (by decide)) (by rfl) C_law_pick.A.g C_law_pick.A.F.kp C_law_pick.A.b .nil pass0 (pa_cons (pv 1) (pa_cons pe_int pa_nil))))
      (pss_cons (ps_set (i := 13) sc_law.nd rfl (by first | exact Or.inl rfl | exact Or.inr rfl) (pe_callK0 C_pattern_count.O (hr.mono (by decide)) (by rfl) C_pattern_count.A.g C_pattern_count.A.F.kp C_pattern_count.kb pass0 (pk_cons (pv 7) (pk_cons (pv 6) pk_nil))))
      (pss_one (ps_ret (pe_cmpR (op_eqD hr.units) (pe_call C_law_number.O (hr.mono (by decide)) (by rfl) C_law_number.A.g C_law_number.A.F.kp C_law_number.A.b .nil pass0 (pa_cons (pv 13) pa_nil)) (pe_call C_law_count.O (hr.mono (by decide)) (by rfl) C_law_count.A.g C_law_count.A.F.kp C_law_count.A.b .nil pass0 (pa_cons (pv 6) (pa_cons (pv 7) pa_nil))) (nomark _))))))) pss_nil)
    (pss_one (ps_ret (pe_and (pe_cmpR op_eq (pe_call C_pattern_count.O (hr.mono (by decide)) (by rfl) C_pattern_count.A.g C_pattern_count.A.F.kp C_pattern_count.A.b .nil pass0 (pa_cons pe_int (pa_cons (pe_callB cx_len (by rfl) T.b_len bb_len (pa_cons (pv 9) pa_nil)) pa_nil))) pe_int (nomark _)) (pe_one (pe_cmpR op_eq (pe_call C_pattern_count.O (hr.mono (by decide)) (by rfl) C_pattern_count.A.g C_pattern_count.A.F.kp C_pattern_count.A.b .nil pass0 (pa_cons pe_int (pa_cons pe_int pa_nil))) pe_int (nomark _))))))))))))))))))))))
end
end K8
end
section
set_option maxRecDepth 100000
set_option maxHeartbeats 1000000
namespace K8
open PySem L2 Dl
local macro_rules | `(tactic| k_extra "mod") => `(tactic| first | (show (0 : Int) < _; decide) | (show (0 : Int) < _; omega) | assumption)
local macro_rules | `(tactic| k_extra "mul") => `(tactic| (show CMul _ _; first | exact .inr ⟨by decide, by decide⟩ | exact .inl ⟨by decide, by decide⟩ | exact .inr ⟨by omega, by omega⟩ | exact .inl ⟨by omega, by omega⟩))
local macro_rules | `(tactic| k_extra "side") => `(tactic| first | k_extra "mod" | k_extra "mul" | (show CDiv _ _; exact ⟨by first | decide | omega, by first | decide | omega⟩) | (show CPow _ _; exact ⟨by decide, by decide, by decide⟩))
local macro_rules | `(tactic| k_extra "rk") => `(tactic| first
  | (with_reducible exact rk_I0)
  | ((with_reducible apply rk_I); k_extra "side")
  | ((with_reducible apply rk_eq); exact rfl)
  | ((with_reducible apply rk_ne); exact rfl))
local macro_rules | `(tactic| k_extra "cr") => `(tactic| first
  | (with_reducible exact cr_int1) | (with_reducible exact cr_abs1) | ((with_reducible apply cr_len); first | exact rd_list | exact rd_at) | ((with_reducible apply cr_lenS); first | decide | assumption))
local macro_rules | `(tactic| k_extra "ev") => `(tactic| first
  | (with_reducible exact ek_c)
  | ((with_reducible apply ek_var); exact rfl)
  | ((with_reducible apply ek_op); k_extra "ev"; k_extra "ev"; k_extra "rk")
  | ((with_reducible apply ek_cb); (with_reducible apply ea_cons); k_extra "ev"; (with_reducible exact ea_nil); k_extra "cr"))
section
variable {F : Fx} {B : Bs} {δ : Dl.Env} {μ : Mu} {K : PySem.W.Frag} {ta te : TE} {k : Know} {D : Ends} {u : TS}
/-- the pool is made; from here on it is known -/
theorem q_pool {i : Nat} {ns : List Int} (hns : ns.length ≤ 63) (h : Ek F0 te δ [] (seqK K (ns.map iK))) (q : ∀ pl, Tr (FP pl) B (δ.set i (some (poolK pl))) [] u D) :
    Tr F0 B δ [] (tSeq (tAsg (tCall (sp_law_pool K) [] E0 (tCons te tNil)) (gName i)) u) D := fun σ H ⟨G, z⟩ =>
  h G H σ z.st _ fun v G1 H1 g1 j1 p1 => ⟨⟨ns, hns⟩, G1, g1.gh, trivial, .cons p1 .nil, fun v2 G2 H2 g2 _ ⟨pl, e, hl, ht, hj⟩ => by
    have z1 := z.step g1 j1
    have z2 := (z1.step (g2.wide fun _ h => nomatch h) trivial).setS i (v := v2) (k := poolK pl) e
    refine q pl _ _ ⟨G2, z2.s0, z2.gr, ⟨z2.st.sub, hj, z2.st.env, OwnK.nil⟩, fun a ha => ?_, fun a m hm => nomatch hm⟩
    rcases List.mem_cons.mp ha with e | ha
    · rw [e]; exact .inr (back_none z1.gr hl)
    · rw [List.mem_singleton.mp ha]; exact .inr (back_none z1.gr ht)⟩
/-- a call that hands back a new list, one of several -/
theorem ek_callX {α ι : Type} {FX : ι → Fx} {ks : ι → List Know} {post : ι → Hp → V → Hp → Hp → Prop} {E : XK} {t : TA} {L : α → List Know} (x : ι) (hF : FX x = F) (ha : EAk F t δ μ (ks x)) (hp : ∀ H v G' H', post x H v G' H' → ∃ y, pN (.lst (L y)) H v G' H') : Ek F (tCall (spF FX ks post) [] E t) δ μ (exK fun y => listK (L y)) := fun G H σ st Q q =>
  ha G H σ st _ fun vs G1 H1 g1 j1 p1 => by
    subst hF
    refine ⟨x, G1, g1.gh, j1, by rw [List.append_nil]; exact p1, fun v G2 H2 g2 j2 p2 => ?_⟩
    obtain ⟨y, a, o, rfl, h1, h2, h3, ws, eo, r⟩ := hp _ _ _ _ p2
    subst eo
    have s1 : Same G2 (upd G2 a (.lst ws)) := same_new h2
    have st1 := st.step g1 j1
    have hpa : a ∉ (FX x).P := Fx.offP _ j1 h1
    refine q (.ref a) (upd G2 a (.lst ws)) H2 ((g1.trans g2).freeze (back_none g1 h1) st.sub h3 h2) (Fx.st _ _ _ _ _ s1 (fun b hb => ⟨rfl, fun z => ?_⟩) j2) ⟨y, a, ws, rfl, upd_same, r.mono s1⟩
    rw [upd_ne fun e => hpa (by rw [← e]; exact hb)]; exact z
theorem ek_callK {ι : Type} {FX : ι → Fx} {ks : ι → List Know} {post : ι → Hp → V → Hp → Hp → Prop} {E : XK} {tk : TA} {ls : List Know} {gV : List V → List V → List V} (x : ι) (hF : FX x = F0) (ha : EAk F tk δ μ ls) (hg : ∀ G vs, AllK G vs ls → AllK G (gV [] vs) (ks x)) (hp : ∀ H v G' H', post x H v G' H' → k.p v G') : Ek F (tCallK (spF FX ks post) gV E tNil tk) δ μ k := fun G H σ st Q q =>
  ha G H σ st _ fun vs G1 H1 g1 j1 p1 => by
    refine ⟨x, G1, g1.gh, by rw [hF]; trivial, hg G1 vs p1, fun v G2 H2 g2 _ p2 => ?_⟩
    rw [hF] at g2
    have g2' : Gr [] G1 H1 G2 H2 := g2
    exact q v G2 H2 (g1.trans (g2'.wide fun _ h => nomatch h)) (F.pure g2' j1) (hp _ _ _ _ p2)
/-- x = e[lo:hi], e one of several lists -/
theorem q_newSlx {α : Type} {S : α → Know} {L : α → List Know} {tl th : TO} {lo hi : Option Int} {i : Nat} (hr : ∀ y, Rd F μ (S y) (L y)) (h : Ek F te δ μ (exK S)) (hl : EOk F tl δ μ lo) (hh : EOk F th δ μ hi)
    (q : ∀ y a, B.H0 a = none → Tr F B (δ.set i (some (valK (.ref a)))) ((a, .lst (cutK (L y) lo hi)) :: μ) u D) : Tr F B δ μ (tSeq (tAsg (tSl (rSlL K) te tl th) (gName i)) u) D := fun σ H ⟨G, z⟩ =>
  h G H σ z.st _ fun v G1 H1 g1 j1 ⟨y, p⟩ => hl G1 H1 σ (z.step g1 j1).st _ fun G2 H2 g2 j2 => hh G2 H2 σ ((z.step g1 j1).step g2 j2).st _ fun G3 H3 g3 j3 => by
    have z3 := ((z.step g1 j1).step g2 j2).step g3 j3
    obtain ⟨b, vs, rfl, hb, rr⟩ := hr y G3 H3 v g3.gh z3.st.own ((S y).mono (g2.gg.trans g3.gg) p)
    refine ⟨b, vs, rfl, .inl (.inl hb), fun a ha => ?_⟩
    have hG : G3 a = none := none_sub g3.gh ha
    have z4 := z3.join (m := .lst (cutK (L y) lo hi)) (a := a) (o := .lst (cutV vs lo hi)) (H' := upd H3 a (.lst (cutV vs lo hi))) ha hG (F.offP j3 ha) upd_same ⟨_, rfl, rr.cut lo hi⟩ (Gr.own z3.st.sub ha) (F.loc (F.offP j3 ha) j3)
    exact q y a (back_none z3.gr ha) _ _ ⟨G3, z4.setS i rfl⟩
theorem listK_setx {α : Type} {S : α → Know} : ∀ {ks : List Know} {j : Nat}, j < ks.length → ∀ {v : V} {G : Hp}, (listK (ks.set j (exK S))).p v G → (exK fun y => listK (ks.set j (S y))).p v G := by
  intro ks j hj v G ⟨a, vs, e, ha, r⟩
  obtain ⟨w, hw, y, p⟩ := r.get (i := j) (k := exK S) (by rw [List.getElem?_set_self hj])
  refine ⟨y, a, vs, e, ha, allK_of_get (by rw [r.length, List.length_set, List.length_set]) fun l u k' e1 e2 => ?_⟩
  by_cases hl : j = l
  · subst hl
    rw [List.getElem?_set_self hj] at e2
    cases e2
    rw [hw] at e1
    cases e1
    exact p
  · rw [List.getElem?_set_ne hl] at e2
    obtain ⟨k2, h1, h2⟩ := r.getV e1
    rw [List.getElem?_set_ne hl, e2] at h1
    cases h1
    exact h2
theorem nodup_set {xs : List Str} {j : Nat} {z : Str} (h : xs.Nodup) (hz : z ∉ xs) : (xs.set j z).Nodup := by
  rw [List.Nodup, List.pairwise_iff_getElem]
  intro a b ha hb hab e
  rw [List.length_set] at ha hb
  rw [List.getElem_set, List.getElem_set] at e
  by_cases h1 : j = a <;> by_cases h2 : j = b
  · omega
  · rw [if_pos h1, if_neg h2] at e
    exact hz (by rw [e]; exact List.getElem_mem hb)
  · rw [if_neg h1, if_pos h2] at e
    exact hz (by rw [← e]; exact List.getElem_mem ha)
  · rw [if_neg h1, if_neg h2] at e
    have := (List.getElem_inj h).mp e
    omega
/-- the names of the script -/
def nameOf (st nb : Nat) (i : Nat) : Str := (⟨#[((TL.tl ("ABCDEFGHIJKLMNOPQRSTUVWXYZ" : Str)).getD ((st + 7 * i) % 26) 0)]⟩ : Str) ++ (toString ((nb + i : Nat) : Int) : Str)
theorem tl_nameOf (st nb i : Nat) : TL.tl (nameOf st nb i) = ((TL.tl ("ABCDEFGHIJKLMNOPQRSTUVWXYZ" : Str)).getD ((st + 7 * i) % 26) 0) :: TL.numL (nb + i) := by
  unfold nameOf
  rw [TL.tl_append]
  exact congrArg _ (TL.tl_num (nb + i))
theorem nameOf_inj {st nb i j : Nat} (h : nameOf st nb i = nameOf st nb j) : i = j := by
  have e := congrArg TL.tl h
  rw [tl_nameOf, tl_nameOf] at e
  have := TL.numL_inj (List.cons.inj e).2
  omega
theorem letters_lt : ∀ c ∈ TL.tl ("ABCDEFGHIJKLMNOPQRSTUVWXYZ" : Str), c < 0x110000 := by decide +kernel
theorem letters_len : (TL.tl ("ABCDEFGHIJKLMNOPQRSTUVWXYZ" : Str)).length = 26 := by decide +kernel
theorem nameOf_ok {st nb i : Nat} (h : nb + i < 10 ^ 10) : OkS (nameOf st nb i) := by
  have hl : (TL.numL (nb + i)).length ≤ 10 := TL.numL_len (by decide) h
  refine ⟨strOk_iff.mpr fun c hc => ?_, ?_⟩
  · rw [tl_nameOf] at hc
    rcases List.mem_cons.mp hc with e | hc
    · rw [e, List.getD_eq_getElem?_getD, List.getElem?_eq_getElem (by rw [letters_len]; exact Nat.mod_lt _ (by decide))]
      exact letters_lt _ (List.getElem_mem _)
    · have := TL.numL_digits _ c hc
      omega
  · rw [TL.len_tl, tl_nameOf, List.length_cons]; omega
def namesOf (st nb n : Nat) : List Str := (List.range n).map (nameOf st nb)
theorem namesOf_snoc (st nb n : Nat) : namesOf st nb (n + 1) = namesOf st nb n ++ [nameOf st nb n] := by
  unfold namesOf
  rw [List.range_succ, List.map_append]
  rfl
theorem namesOf_nodup (st nb n : Nat) : (namesOf st nb n).Nodup := by
  unfold namesOf
  rw [List.Nodup, List.pairwise_map]
  exact (List.nodup_range (n := n)).imp fun h e => h (nameOf_inj e)
end
end K8
end
section
set_option maxRecDepth 100000
set_option maxHeartbeats 1000000
namespace K8
open PySem L2 Dl
local macro_rules | `(tactic| k_extra "mod") => `(tactic| first | (show (0 : Int) < _; decide) | (show (0 : Int) < _; omega) | assumption)
local macro_rules | `(tactic| k_extra "mul") => `(tactic| (show CMul _ _; first | exact .inr ⟨by decide, by decide⟩ | exact .inl ⟨by decide, by decide⟩ | exact .inr ⟨by omega, by omega⟩ | exact .inl ⟨by omega, by omega⟩))
local macro_rules | `(tactic| k_extra "side") => `(tactic| first | k_extra "mod" | k_extra "mul" | (show CDiv _ _; exact ⟨by first | decide | omega, by first | decide | omega⟩) | (show CPow _ _; exact ⟨by decide, by decide, by decide⟩))
local macro_rules | `(tactic| k_extra "rk") => `(tactic| first
  | (with_reducible exact rk_I0)
  | ((with_reducible apply rk_I); k_extra "side")
  | ((with_reducible apply rk_eq); exact rfl)
  | ((with_reducible apply rk_ne); exact rfl))
local macro_rules | `(tactic| k_extra "cr") => `(tactic| first
  | (with_reducible exact cr_int1) | (with_reducible exact cr_abs1) | ((with_reducible apply cr_len); first | exact rd_list | exact rd_at) | ((with_reducible apply cr_lenS); first | decide | assumption))
local macro_rules | `(tactic| k_extra "ev") => `(tactic| first
  | (with_reducible exact ek_c)
  | ((with_reducible apply ek_var); exact rfl)
  | ((with_reducible apply ek_op); k_extra "ev"; k_extra "ev"; k_extra "rk")
  | ((with_reducible apply ek_cb); (with_reducible apply ea_cons); k_extra "ev"; (with_reducible exact ea_nil); k_extra "cr"))
section
variable {K : PySem.W.Frag}
def sp_law (K : PySem.W.Frag) : Sp := spF (ι := ScIn) (fun _ => F0) (fun x => [seqK K (x.ns.map iK)]) (fun _ => pK (bK true))
theorem signs_nd : ("abcdefghijklmnopqrstuvwxyz0123456789" : Str).cps.toList.Nodup := by decide +kernel
theorem signs_ok : PyData.strOk ("abcdefghijklmnopqrstuvwxyz0123456789" : Str) = true := by decide +kernel
theorem signs_len : ("abcdefghijklmnopqrstuvwxyz0123456789" : Str).length = 36 := by decide +kernel
abbrev lits : List Str := ["n2", "n3", "n5", "n7"]
theorem lits_nd : lits.Nodup := by decide +kernel
theorem lits_ok : ∀ z ∈ lits, OkS z := by
  intro z hz
  have h : ∀ z ∈ lits, PyData.strOk z = true ∧ z.length ≤ 16 := by decide +kernel
  exact ⟨(h z hz).1, (h z hz).2⟩
theorem spare_pos {ws : List Str} (h : ws.length ≤ 3) : 0 < (lits.filter fun z => !decide (z ∈ ws)).length := by
  cases e : (lits.filter fun z => !decide (z ∈ ws)).length with
  | succ n => exact Nat.succ_pos _
  | zero =>
    have e2 : lits.filter (fun z => !decide (z ∈ ws)) = [] := List.eq_nil_of_length_eq_zero e
    have h3 : ∀ z ∈ lits, z ∈ ws := fun z hz => by
      have := List.filter_eq_nil_iff.mp e2 z hz
      simpa using this
    have h4 := M8.nodup_len lits ws lits_nd h3
    have h5 : lits.length = 4 := rfl
    omega
section
variable {δ : Dl.Env} {μ : Mu} {pl : Pl} {F : Fx} {te tb : TE}
theorem ek_count {n w : Nat} (hn : n ≤ 200) (hw : w ≤ 1000) (ha : Ek F te δ μ (iK (n : Int))) (hb : Ek F tb δ μ (iK (w : Int))) : Ek F (tCall (sp_pattern_count K) [] E0 (tCons te (tCons tb tNil))) δ μ (iK ((M8.c w n 0 : Nat) : Int)) :=
  ek_call (FX := fun _ : PcIn => F0) (ks := fun x => [iK (x.n : Int), iK (x.w : Int)]) (post := fun x => pK (iK ((M8.c x.w x.n 0 : Nat) : Int))) ⟨n, w, hn, hw⟩ rfl (ea_cons ha (ea_cons hb ea_nil)) (fun _ _ _ _ p => p)
theorem ek_lawCount {n w : Nat} (hn : n ≤ 200) (hw : w ≤ 1000) (ha : Ek F te δ μ (iK (n : Int))) (hb : Ek F tb δ μ (iK (w : Int))) : Ek F (tCall (sp_law_count K) [] E0 (tCons te (tCons tb tNil))) δ μ (iK ((M8.c w n 0 : Nat) : Int)) :=
  ek_call (FX := fun _ : PcIn => F0) (ks := fun x => [iK (x.n : Int), iK (x.w : Int)]) (post := fun x => pK (iK ((M8.c x.w x.n 0 : Nat) : Int))) ⟨n, w, hn, hw⟩ rfl (ea_cons ha (ea_cons hb ea_nil)) (fun _ _ _ _ p => p)
theorem ek_countK {n w : Nat} (hn : n ≤ 200) (hw : w ≤ 1000) (ha : Ek F te δ μ (iK (n : Int))) (hb : Ek F tb δ μ (iK (w : Int))) : Ek F (tCallK (sp_pattern_count K) gSwap E0 tNil (tCons tb (tCons te tNil))) δ μ (iK ((M8.c w n 0 : Nat) : Int)) :=
  ek_callK (FX := fun _ : PcIn => F0) (ks := fun x => [iK (x.n : Int), iK (x.w : Int)]) (post := fun x => pK (iK ((M8.c x.w x.n 0 : Nat) : Int))) ⟨n, w, hn, hw⟩ rfl (ea_cons hb (ea_cons ha ea_nil)) (fun G vs h => by
    obtain ⟨v, u, rfl, p1, p2⟩ := allK2 h
    exact .cons p2 (.cons p1 .nil)) (fun _ _ _ _ p => p)
theorem ek_number {i : Int} (ha : Ek F te δ μ (iK i)) : Ek F (tCall (sp_law_number K) [] E0 (tCons te tNil)) δ μ (iK i) :=
  ek_call (FX := fun _ : Int => F0) (ks := fun x => [iK x]) (post := fun x => pK (iK x)) i rfl (ea_cons ha ea_nil) (fun _ _ _ _ p => p)
end
theorem shp0 {i : Int} : Shp (.int i) 0 := shp_int
theorem r_law (x : ScIn) (G0 H0 : Hp) (Q : VK) (hR : Rt F0 ⟨F0.P, G0, H0⟩ (pK (bK true) H0) Q) :
    Tr F0 ⟨F0.P, G0, H0⟩ (env0 [seqK K (x.ns.map iK)] 13) [] (t_law K) { nx := fun _ H' => Q .non H', rt := Q } := by
  obtain ⟨ns, hns⟩ := x
  simp only at hR ⊢
  unfold t_law
  refine q_pool hns (ek_var rfl) fun pl => ?_
  have hR : Rt (FP pl) ⟨F0.P, G0, H0⟩ (pK (bK true) H0) Q := fun v G H g _ p => hR v G H g trivial p
  have pick : ∀ (m : Nat) (δ : Dl.Env) (μ : Mu), m ≤ 1000000 → δ[1]? = some (some (poolK pl)) → Ek (FP pl) (tCall (sp_law_pick K) [] E0 (tCons (tVar 1) (tCons (tC (.int (m : Int))) tNil))) δ μ (drawK (m : Int)) := fun m δ μ hm h => ek_pick (K := K) (ek_var h) ek_c (by omega)
  have nat_of : ∀ {m : Nat} (r : {r : Int // Drawn (m : Int) r}), 2 ≤ m → ∃ q : Nat, r.1 = (q : Int) ∧ q < m := fun {m} r hm => by
    have h := r.2
    unfold Drawn at h
    exact ⟨r.1.toNat, by omega, by omega⟩
  refine q_asg (k := sK "ABCDEFGHIJKLMNOPQRSTUVWXYZ") ek_c ?_
  refine q_asgx (pick 26 _ _ (by omega) rfl) fun r1 => ?_
  obtain ⟨st, e1, h1⟩ := nat_of r1 (by omega)
  rw [e1]
  refine q_asgx (pick 90 _ _ (by omega) rfl) fun r2 => ?_
  obtain ⟨nb, e2, h2⟩ := nat_of r2 (by omega)
  rw [e2]
  refine q_new' (m := .lst []) (en_lst ea_nil (by decide)) fun a ha => ?_
  refine q_asgx (pick 5 _ _ (by omega) rfl) fun r3 => ?_
  obtain ⟨many0, e3, h3⟩ := nat_of r3 (by omega)
  rw [e3]
  refine q_asgx (pick 4 _ _ (by omega) rfl) fun r4 => ?_
  obtain ⟨wide0, e4, h4⟩ := nat_of r4 (by omega)
  rw [e4]
  -- the end, whatever names and words there are
  have tail : ∀ (names words : List Str) (d8 d10 d11 : Option Know) (kx : Option Know) (d7 : Option Know), names.length ≤ 6 → words.length ≤ 3 → names.Nodup → words.Nodup → (∀ z ∈ names, OkS z) → (∀ z ∈ words, OkS z) →
      Tr (FP pl) ⟨F0.P, G0, H0⟩ [some (seqK K (ns.map iK)), some (poolK pl), some (sK "ABCDEFGHIJKLMNOPQRSTUVWXYZ"), some (iK (st : Int)), some (iK (nb : Int)), some (strsK names), kx, d7, d8, some (strsK words), d10, d11, none, none] []
    (tSeq (tAsg (tCall (sp_law_used K) [] E0 (tCons (tVar 1) (tCons (tVar 9) tNil))) (gName 12))
    (tSeq (tIfS (tNot (tB (tCall (sp_law_fresh_hold K) [] E0 (tCons (tVar 1) (tCons (tVar 12) tNil))))) (tRet (tC (.bl false))) tNext)
    (tSeq (tIfS (tNot (tB (tCall (sp_law_patterns_hold K) [] E0 (tCons (tVar 1) (tCons (tVar 5) (tCons (tVar 9) (tCons (tVar 12) tNil))))))) (tRet (tC (.bl false))) tNext)
    (tSeq (tFor (iRng1 (tCons (tC (.int 3)) tNil)) (gName 8) (tSeq (tAsg (tCall (sp_law_pick K) [] E0 (tCons (tVar 1) (tCons (tC (.int 13)) tNil))) (gName 6))
      (tSeq (tAsg (tCall (sp_law_pick K) [] E0 (tCons (tVar 1) (tCons (tC (.int 31)) tNil))) (gName 7))
      (tIfS (tTest (tOp (rNeD K) (tCall (sp_law_number K) [] E0 (tCons (tCall (sp_pattern_count K) [] E0 (tCons (tVar 6) (tCons (tVar 7) tNil))) tNil)) (tCall (sp_law_count K) [] E0 (tCons (tVar 6) (tCons (tVar 7) tNil))))) (tRet (tC (.bl false))) tNext))))
    (tSeq (tIfS (tTest (tOp rEq (tCall (sp_law_pick K) [] E0 (tCons (tVar 1) (tCons (tC (.int 8)) tNil))) (tC (.int 0)))) (tSeq (tAsg (tCall (sp_law_pick K) [] E0 (tCons (tVar 1) (tCons (tC (.int 201)) tNil))) (gName 6))
      (tSeq (tAsg (tCall (sp_law_pick K) [] E0 (tCons (tVar 1) (tCons (tC (.int 1001)) tNil))) (gName 7))
      (tSeq (tAsg (tCallK (sp_pattern_count K) gSwap E0 tNil (tCons (tVar 7) (tCons (tVar 6) tNil))) (gName 13))
      (tRet (tOp (rEqD K) (tCall (sp_law_number K) [] E0 (tCons (tVar 13) tNil)) (tCall (sp_law_count K) [] E0 (tCons (tVar 6) (tCons (tVar 7) tNil)))))))) tNext)
    (tRet (tAndV (tOp rEq (tCall (sp_pattern_count K) [] E0 (tCons (tC (.int 0)) (tCons (tCB (rLenQ K) (tCons (tVar 9) tNil)) tNil))) (tC (.int 1))) (tOp rEq (tCall (sp_pattern_count K) [] E0 (tCons (tC (.int 1)) (tCons (tC (.int 1000)) tNil))) (tC (.int 1001))))))))))
      { nx := fun _ H' => Q .non H', rt := Q } := by
    intro names words d8 d10 d11 kx d7 hn6 hw3 hnn hwn hno hwo
    refine q_asgx (ek_callX (FX := fun x : LuIn => FP x.pl) (ks := fun x => [poolK x.pl, strsK x.words]) (post := fun x H v G' H' => ∃ us : List Str, us.length ≤ 11 ∧ (∀ z ∈ x.words, z ∈ us) ∧ (∀ z ∈ us, OkS z) ∧ pN (.lst (us.map sK)) H v G' H') (L := fun us : {us : List Str // us.length ≤ 11 ∧ (∀ z ∈ words, z ∈ us) ∧ ∀ z ∈ us, OkS z} => us.1.map sK) ⟨pl, words, hw3, hwo⟩ rfl (ea_cons (ek_var rfl) (ea_cons (ek_var rfl) ea_nil)) (fun H v G' H' ⟨us, u1, u2, u3, u4⟩ => ⟨⟨us, u1, u2, u3⟩, u4⟩)) fun us => ?_
    obtain ⟨used, hu1, hu2, hu3⟩ := us
    simp only
    refine q_when (P := (· = false)) (et_weak (et_not (et_B (b := true) (ek_callF (FX := fun x : FhIn => FP x.pl) (ks := fun x => [poolK x.pl, strsK x.used]) (post := fun _ => pK (bK true)) ⟨pl, used, hu1, hu3⟩ rfl (ea_cons (ek_var rfl) (ea_cons (ek_var rfl) ea_nil)) (fun _ _ _ _ p => p)))) fun b h => h) (fun h => nomatch h) fun _ => ?_
    refine q_when (P := (· = false)) (et_weak (et_not (et_B (b := true) (ek_callF (FX := fun x : PhIn => FP x.pl) (ks := fun x => [poolK x.pl, strsK x.x.names, strsK x.x.words, strsK x.x.used]) (post := fun _ => pK (bK true)) ⟨pl, ⟨names, words, used, hn6, hw3, hu1, hu2, hno, hu3⟩, hnn, hwn⟩ rfl (ea_cons (ek_var rfl) (ea_cons (ek_var rfl) (ea_cons (ek_var rfl) (ea_cons (ek_var rfl) ea_nil)))) (fun _ _ _ _ p => p)))) fun b h => h) (fun h => nomatch h) fun _ => ?_
    refine q_forN (fun _ : Unit => ([some (seqK K (ns.map iK)), some (poolK pl), some (sK "ABCDEFGHIJKLMNOPQRSTUVWXYZ"), some (iK (st : Int)), some (iK (nb : Int)), some (strsK names), none, none, none, some (strsK words), none, none, some (strsK used), none], [])) (fun _ _ => True) (ei_rng1 (n := 3) (ea_cons ek_c ea_nil) (by omega) (by omega)) () trivial (.keep (.keep (.keep (.keep (.keep (.keep (.drop (.drop (.drop (.keep (.drop (.drop (.keep (.drop .nil)))))))))))))) rfl ?_ ?_
    · rintro B' l i _ hi _ N hN
      refine q_asgx (pick 13 _ _ (by omega) rfl) fun q1 => ?_
      obtain ⟨m1, f1, g1⟩ := nat_of q1 (by omega)
      rw [f1]
      refine q_asgx (pick 31 _ _ (by omega) rfl) fun q2 => ?_
      obtain ⟨w1, f2, g2⟩ := nat_of q2 (by omega)
      rw [f2]
      refine s_if (P := (· = false)) (et_test (ek_eq (ek_op (ek_number (ek_count (n := m1) (w := w1) (by omega) (by omega) (ek_var rfl) (ek_var rfl))) (ek_lawCount (n := m1) (w := w1) (by omega) (by omega) (ek_var rfl) (ek_var rfl)) (rk_neD isd_int isd_int shp0.shaped shp0.shaped)) (by rw [shp0.refl]; rfl))) (fun h => nomatch h) fun _ => ?_
      exact s_next (to_weak (.keep (.keep (.keep (.keep (.keep (.keep (.drop (.drop (.drop (.keep (.drop (.drop (.keep (.drop .nil)))))))))))))) (hN () trivial))
    · rintro _ _
      refine q_when (et_any (ek_drawEq (pick 8 _ _ (by omega) rfl))) (fun _ => ?_) (fun _ => ?_)
      · refine q_asgx (pick 201 _ _ (by omega) rfl) fun q1 => ?_
        obtain ⟨m1, f1, g1⟩ := nat_of q1 (by omega)
        rw [f1]
        refine q_asgx (pick 1001 _ _ (by omega) rfl) fun q2 => ?_
        obtain ⟨w1, f2, g2⟩ := nat_of q2 (by omega)
        rw [f2]
        refine q_asg (k := iK ((M8.c w1 m1 0 : Nat) : Int)) (ek_countK (K := K) (n := m1) (w := w1) (by omega) (by omega) (ek_var rfl) (ek_var rfl)) ?_
        exact s_ret hR (ek_eq (ek_op (ek_number (ek_var rfl)) (ek_lawCount (n := m1) (w := w1) (by omega) (by omega) (ek_var rfl) (ek_var rfl)) (rk_eqD isd_int isd_int shp0.shaped shp0.shaped)) (by rw [shp0.refl])) fun v G H p => p
      · refine s_ret hR (ek_eq (ek_andV (a := true) (b := true) (ek_eq (ek_op (ek_count (n := 0) (w := words.length) (by omega) (by omega) ek_c (ek_eq (ek_cb (ea_cons (ek_var rfl) ea_nil) (cr_len (ks := words.map sK) rd_list)) (by rw [List.length_map]))) ek_c (rk_eq rfl)) rfl) fun _ => ek_eq (ek_op (ek_count (n := 1) (w := 1000) (by omega) (by omega) ek_c ek_c) ek_c (rk_eq rfl)) (congrArg (fun b => bK b) (by decide +kernel : decide (V.int ((M8.c 1000 1 0 : Nat) : Int) = V.int 1001) = true))) rfl) fun v G H p => p
  have mid : ∀ (many wide : Nat) (d8 : Option Know), many ≤ 6 → wide ≤ 3 →
      Tr (FP pl) ⟨F0.P, G0, H0⟩ [some (seqK K (ns.map iK)), some (poolK pl), some (sK "ABCDEFGHIJKLMNOPQRSTUVWXYZ"), some (iK (st : Int)), some (iK (nb : Int)), some (valK (.ref a)), some (iK (many : Int)), some (iK (wide : Int)), none, none, none, none, none, none] [(a, .lst [])]
    (tSeq (tFor (iRng1 (tCons (tVar 6) tNil)) (gName 8) (tDrop (tBM K "list" rAppend (tVar 5) (tCons (tOp rAddStr (tOp rIxS (tVar 2) (tOp (rI (fun _ j => 0 < j) fun i j => .int (i % j)) (tCB rInt (tCons (tOp (rI0 fun i j => .int (i + j)) (tVar 3) (tOp (rI CMul fun i j => .int (i * j)) (tC (.int 7)) (tVar 8))) tNil)) (tC (.int 26)))) (tCB rStrI (tCons (tOp (rI0 fun i j => .int (i + j)) (tVar 4) (tVar 8)) tNil))) tNil))))
    (tSeq (tAsg (tSl (rSlL K) (tCall (sp_law_names K) [] E0 (tCons (tVar 1) (tCons (tC (.int 3)) (tCons (tC (.str "abcdefghijklmnopqrstuvwxyz0123456789")) tNil)))) tNoPart (tPart (tVar 7))) (gName 9))
    (tSeq (tIfS (tAnd (tTest (tOp (rNeD K) (tVar 9) (tLst tNil))) (tTest (tOp rEq (tCall (sp_law_pick K) [] E0 (tCons (tVar 1) (tCons (tC (.int 3)) tNil))) (tC (.int 0))))) (tSeq (tAsg (tLc (iList K (tLst (tCons (tC (.str "n2")) (tCons (tC (.str "n3")) (tCons (tC (.str "n5")) (tCons (tC (.str "n7")) tNil)))))) (gName 11) (tTest (tOp (rIn K true) (tVar 11) (tVar 9))) (tVar 11) [11]) (gName 10))
      (tAsg (tCall (sp_law_one_of K) [] E0 (tCons (tVar 1) (tCons (tVar 10) tNil))) (gSub (tVar 9) (tUn (rU fun i => .int (-i)) (tC (.int 1))) rSetL))) tNext)
    (tSeq (tAsg (tCall (sp_law_used K) [] E0 (tCons (tVar 1) (tCons (tVar 9) tNil))) (gName 12))
    (tSeq (tIfS (tNot (tB (tCall (sp_law_fresh_hold K) [] E0 (tCons (tVar 1) (tCons (tVar 12) tNil))))) (tRet (tC (.bl false))) tNext)
    (tSeq (tIfS (tNot (tB (tCall (sp_law_patterns_hold K) [] E0 (tCons (tVar 1) (tCons (tVar 5) (tCons (tVar 9) (tCons (tVar 12) tNil))))))) (tRet (tC (.bl false))) tNext)
    (tSeq (tFor (iRng1 (tCons (tC (.int 3)) tNil)) (gName 8) (tSeq (tAsg (tCall (sp_law_pick K) [] E0 (tCons (tVar 1) (tCons (tC (.int 13)) tNil))) (gName 6))
      (tSeq (tAsg (tCall (sp_law_pick K) [] E0 (tCons (tVar 1) (tCons (tC (.int 31)) tNil))) (gName 7))
      (tIfS (tTest (tOp (rNeD K) (tCall (sp_law_number K) [] E0 (tCons (tCall (sp_pattern_count K) [] E0 (tCons (tVar 6) (tCons (tVar 7) tNil))) tNil)) (tCall (sp_law_count K) [] E0 (tCons (tVar 6) (tCons (tVar 7) tNil))))) (tRet (tC (.bl false))) tNext))))
    (tSeq (tIfS (tTest (tOp rEq (tCall (sp_law_pick K) [] E0 (tCons (tVar 1) (tCons (tC (.int 8)) tNil))) (tC (.int 0)))) (tSeq (tAsg (tCall (sp_law_pick K) [] E0 (tCons (tVar 1) (tCons (tC (.int 201)) tNil))) (gName 6))
      (tSeq (tAsg (tCall (sp_law_pick K) [] E0 (tCons (tVar 1) (tCons (tC (.int 1001)) tNil))) (gName 7))
      (tSeq (tAsg (tCallK (sp_pattern_count K) gSwap E0 tNil (tCons (tVar 7) (tCons (tVar 6) tNil))) (gName 13))
      (tRet (tOp (rEqD K) (tCall (sp_law_number K) [] E0 (tCons (tVar 13) tNil)) (tCall (sp_law_count K) [] E0 (tCons (tVar 6) (tCons (tVar 7) tNil)))))))) tNext)
    (tRet (tAndV (tOp rEq (tCall (sp_pattern_count K) [] E0 (tCons (tC (.int 0)) (tCons (tCB (rLenQ K) (tCons (tVar 9) tNil)) tNil))) (tC (.int 1))) (tOp rEq (tCall (sp_pattern_count K) [] E0 (tCons (tC (.int 1)) (tCons (tC (.int 1000)) tNil))) (tC (.int 1001)))))))))))))
      { nx := fun _ H' => Q .non H', rt := Q } := by
    intro many wide d8 hm hw
    refine q_forN (fun b : Nat => ([some (seqK K (ns.map iK)), some (poolK pl), some (sK "ABCDEFGHIJKLMNOPQRSTUVWXYZ"), some (iK (st : Int)), some (iK (nb : Int)), some (valK (.ref a)), some (iK (many : Int)), some (iK (wide : Int)), none, none, none, none, none, none], [(a, .lst ((namesOf st nb b).map sK))])) (fun i b => b = i) (ei_rng1 (n := (many : Int)) (ea_cons (ek_var rfl) ea_nil) (by omega) (by omega)) 0 rfl (.keep (.keep (.keep (.keep (.keep (.keep (.keep (.keep (.drop (.drop (.drop (.drop (.drop (.drop .nil)))))))))))))) rfl ?_ ?_
    · rintro B' l i b hi rfl N hN
      have hi : b < many := by omega
      have hix : ((st : Int) + 7 * (b : Int)) % 26 = (((st + 7 * b) % 26 : Nat) : Int) := by omega
      have hat : atI ("ABCDEFGHIJKLMNOPQRSTUVWXYZ" : Str).cps.toList (((st : Int) + 7 * (b : Int)) % 26) = some ((TL.tl ("ABCDEFGHIJKLMNOPQRSTUVWXYZ" : Str)).getD ((st + 7 * b) % 26) 0) := by
        have hl : (st + 7 * b) % 26 < (TL.tl ("ABCDEFGHIJKLMNOPQRSTUVWXYZ" : Str)).length := by rw [letters_len]; exact Nat.mod_lt _ (by decide)
        have e : ixN ("ABCDEFGHIJKLMNOPQRSTUVWXYZ" : Str).cps.toList.length (((st : Int) + 7 * (b : Int)) % 26) = some ((st + 7 * b) % 26) := by rw [hix]; exact ixN_nat hl
        unfold atI
        rw [e]
        show (TL.tl ("ABCDEFGHIJKLMNOPQRSTUVWXYZ" : Str))[(st + 7 * b) % 26]? = _
        rw [List.getD_eq_getElem?_getD, List.getElem?_eq_getElem hl]
        rfl
      have hnl : (namesOf st nb b).length = b := by unfold namesOf; rw [List.length_map, List.length_range]
      refine s_app (k := sK (nameOf st nb b)) 0 rfl (ek_var rfl) (ek_eq (ek_op (ek_op (ek_var rfl) (ek_op (ek_cb (ea_cons (ek_op (ek_var rfl) (ek_op ek_c (ek_var rfl) (rk_I (.inl ⟨by omega, by omega⟩))) rk_I0) ea_nil) cr_int1) ek_c (rk_I (by show (0 : Int) < 26; decide))) (rk_ixS (by show 26 ≤ sizeLine; unfold sizeLine; omega) hat)) (ek_cb (ea_cons (ek_op (ek_var rfl) (ek_var rfl) rk_I0) ea_nil) (cr_strI (log_small (by omega) (by omega)))) (rk_strs (by
        have := num_length (i := nb + b) (by omega)
        rw [show (nb : Int) + (b : Int) = ((nb + b : Nat) : Int) by omega]
        show 1 + _ ≤ sizeLine
        unfold sizeLine; omega))) (by rw [show (nb : Int) + (b : Int) = ((nb + b : Nat) : Int) by omega]; rfl)) (by rw [List.length_map, hnl]; unfold sizeLine; omega) ?_
      have := hN (b + 1) rfl
      rw [namesOf_snoc, List.map_append] at this
      exact to_weak (.keep (.keep (.keep (.keep (.keep (.keep (.keep (.keep (.drop (.drop (.drop (.drop (.drop (.drop .nil)))))))))))))) this
    · rintro b hb
      have hb : b = many := by omega
      subst hb
      have hnl : (namesOf st nb b).length = b := by unfold namesOf; rw [List.length_map, List.length_range]
      have hnn := namesOf_nodup st nb b
      have hno : ∀ z ∈ namesOf st nb b, OkS z := fun z hz => by
        unfold namesOf at hz
        obtain ⟨i, hi, rfl⟩ := List.mem_map.mp hz
        have := List.mem_range.mp hi
        exact nameOf_ok (by omega)
      generalize namesOf st nb b = names at hnl hnn hno
      refine to_freeze (i := 5) rfl ha ?_
      refine q_newSlx (L := fun xs : {xs : List Str // NamesOk 3 xs} => xs.1.map sK) (S := fun xs => strsK xs.1) (fun _ => rd_list) (ek_callX (FX := fun x : NaIn => FP x.pl) (ks := fun x => [poolK x.pl, iK (x.many : Int), sK x.signs]) (post := fun x H v G' H' => ∃ xs, NamesOk x.many xs ∧ pN (.lst (xs.map sK)) H v G' H') ⟨pl, 3, "abcdefghijklmnopqrstuvwxyz0123456789", by omega, signs_len, signs_nd, signs_ok⟩ rfl (ea_cons (ek_var rfl) (ea_cons ek_c (ea_cons ek_c ea_nil))) (fun H v G' H' ⟨xs, u1, u2⟩ => ⟨⟨xs, u1⟩, u2⟩)) eo_none (eo_some (ek_var rfl)) fun xs c hc => ?_
      obtain ⟨xs, hxl, hxn, hxo⟩ := xs
      simp only
      rw [cutK_take, ← List.map_take]
      have hwl : (xs.take wide).length ≤ 3 := by rw [List.length_take]; omega
      have hwn : (xs.take wide).Nodup := hxn.sublist (List.take_sublist _ _)
      have hwo : ∀ z ∈ xs.take wide, OkS z := fun z hz => hxo z (List.mem_of_mem_take hz)
      generalize xs.take wide = ws at hwl hwn hwo
      have shW : Shp (.list (ws.map .str)) 1 := shp_strs hwo
      have shE : Shp (.list (([] : List Str).map .str)) 1 := shp_list fun z hz => nomatch hz
      refine q_when (et_and' (et_test (ek_op (ek_var rfl) (en_ek (en_lst ea_nil (by decide))) (rk_neH (ish_own (f := sK) (g := .str) List.mem_cons_self fun x _ => isd_str) (ish_of (isd_strs (xs := []))) shW.shaped shE.shaped))) fun _ => et_any (ek_drawEq (pick 3 _ _ (by omega) rfl))) (fun h => ?_) (fun h => ?_)
      · have hne : 0 < ws.length := by
          have h1 := (h.1 rfl).1
          cases ws with
          | nil => rw [shE.refl] at h1; cases h1
          | cons z ws => exact Nat.succ_pos _
        refine q_asg (k := strsK (lits.filter fun z => !decide (z ∈ ws))) (en_ek (en_lcF sK sK (fun z => !decide (z ∈ ws)) lits (en_ek (en_lst (ea_cons ek_c (ea_cons ek_c (ea_cons ek_c (ea_cons ek_c ea_nil)))) (by show 4 ≤ sizeLine; unfold sizeLine; omega))) (by show 4 ≤ sizeLine; unfold sizeLine; omega) fun z hz => ⟨et_test (ek_op (ek_var rfl) (ek_var rfl) (rk_niS (rd_own List.mem_cons_self))), fun _ => ek_var rfl⟩)) ?_
        have hsp := spare_pos hwl
        have hsl : (lits.filter fun z => !decide (z ∈ ws)).length ≤ 4 := List.length_filter_le _ _
        refine s_setL (D := { nx := _, rt := Q }) (a := c) (ks := ws.map sK) (z := -1) (j := ws.length - 1) 0 rfl (ek_oneS (K := K) (xs := lits.filter fun z => !decide (z ∈ ws)) (ek_var rfl) (ek_var rfl) hsp (by omega)) (ek_var rfl) (ek_un ek_c (k := iK (-1)) fun G H x s e Q q => ⟨1, e, q _ rfl⟩) (by rw [List.length_map]; exact ixN_last hne) ?_
        refine to_freeze (i := 9) rfl hc ?_
        refine to_weak (ε := [some (seqK K (ns.map iK)), some (poolK pl), some (sK "ABCDEFGHIJKLMNOPQRSTUVWXYZ"), some (iK (st : Int)), some (iK (nb : Int)), some (strsK names), some (iK (b : Int)), some (iK (wide : Int)), none, some (exK fun y : {s : Str // s ∈ lits.filter fun z => !decide (z ∈ ws)} => listK ((ws.map sK).set (ws.length - 1) (sK y.1))), none, none, none, none]) (.keep (.keep (.keep (.keep (.keep (.keep (.keep (.keep (.drop (.imp (fun v G p => listK_setx (by rw [List.length_map]; omega) p) (.drop (.drop (.drop (.drop .nil)))))))))))))) ?_
        refine to_open (i := 9) rfl fun y => ?_
        have hy := List.mem_filter.mp y.2
        have hyw : y.1 ∉ ws := by simpa using hy.2
        have e9 : (ws.map sK).set (ws.length - 1) (sK y.1) = (ws.set (ws.length - 1) y.1).map sK := by rw [List.map_set]
        show To _ _ [_, _, _, _, _, _, _, _, _, some (listK ((ws.map sK).set (ws.length - 1) (sK y.1))), _, _, _, _] _ _
        rw [e9]
        refine tail names (ws.set (ws.length - 1) y.1) none none none (some (iK (b : Int))) (some (iK (wide : Int))) (by omega) (by rw [List.length_set]; exact hwl) hnn (nodup_set hwn hyw) hno fun z hz => ?_
        rcases List.mem_or_eq_of_mem_set hz with hz | e
        · exact hwo z hz
        · rw [e]; exact lits_ok _ hy.1
      · refine to_freeze (i := 9) rfl hc ?_
        exact tail names ws none none none (some (iK (b : Int))) (some (iK (wide : Int))) (by omega) hwl hnn hwn hno hwo
  refine q_when (et_any (ek_drawEq (pick 8 _ _ (by omega) rfl))) (fun _ => ?_) (fun _ => ?_)
  · refine q_asg (k := iK 6) ek_c ?_
    refine s_asg (k := iK ((wide0 % 2 : Nat) : Int)) (ek_eq (ek_op (ek_cb (ea_cons (ek_var rfl) ea_nil) cr_int1) ek_c (rk_I (by show (0 : Int) < 2; decide))) (by rw [Int.natCast_emod]; rfl)) ?_
    exact mid 6 (wide0 % 2) none (by omega) (by omega)
  · exact mid many0 wide0 none (by omega) (by omega)
end
end K8
end
set_option maxRecDepth 100000
set_option maxHeartbeats 1000000
namespace K8
open PySem L2 Dl
local macro_rules | `(tactic| k_extra "mod") => `(tactic| first | (show (0 : Int) < _; decide) | (show (0 : Int) < _; omega) | assumption)
local macro_rules | `(tactic| k_extra "mul") => `(tactic| (show CMul _ _; first | exact .inr ⟨by decide, by decide⟩ | exact .inl ⟨by decide, by decide⟩ | exact .inr ⟨by omega, by omega⟩ | exact .inl ⟨by omega, by omega⟩))
local macro_rules | `(tactic| k_extra "side") => `(tactic| first | k_extra "mod" | k_extra "mul" | (show CDiv _ _; exact ⟨by first | decide | omega, by first | decide | omega⟩) | (show CPow _ _; exact ⟨by decide, by decide, by decide⟩))
local macro_rules | `(tactic| k_extra "rk") => `(tactic| first
  | (with_reducible exact rk_I0)
  | ((with_reducible apply rk_I); k_extra "side")
  | ((with_reducible apply rk_eq); exact rfl)
  | ((with_reducible apply rk_ne); exact rfl))
local macro_rules | `(tactic| k_extra "cr") => `(tactic| first
  | (with_reducible exact cr_int1) | (with_reducible exact cr_abs1) | ((with_reducible apply cr_len); first | exact rd_list | exact rd_at) | ((with_reducible apply cr_lenS); first | decide | assumption))
local macro_rules | `(tactic| k_extra "ev") => `(tactic| first
  | (with_reducible exact ek_c)
  | ((with_reducible apply ek_var); exact rfl)
  | ((with_reducible apply ek_op); k_extra "ev"; k_extra "ev"; k_extra "rk")
  | ((with_reducible apply ek_cb); (with_reducible apply ea_cons); k_extra "ev"; (with_reducible exact ea_nil); k_extra "cr"))
section
variable {P : Program} {w : World} {K : PySem.W.Frag} {mg : Str → Option Value} {base : Heap}
theorem kb_mk {x qual : Str} {st : Stmt} {f : Addr} {fd : FuncData} {p q : Str} (F : Fun K x qual st f fd)
    (h : ∀ (kV doc pm : Value) (an : Option Addr) (cdv ct a b : Value), bindArgs (PySem.W.fnOf x qual (defArgs st) (defBody st) (defScope st) .none kV doc pm an cdv ct) ⟨[], [(q, a), (p, b)]⟩ = pure [(p, b), (q, a)]) : KBinds K fd [p, q] [q, p] gSwapU gSwap := by
  obtain ⟨oc, od, kV, doc, pm, an, cdv, ct, osl, rfl, lk, hcd⟩ := F.ex
  refine ⟨fun s us ws _ hl => ?_, fun {vs us zs ws} r1 r2 => ?_⟩
  · match us, ws, hl with
    | [], [a, b], _ => exact .of_eq (h kV doc pm an cdv ct a b)
  · cases r1 with
    | nil => cases r2 with
      | nil => exact .nil
      | cons a r2 => cases r2 with
        | nil => exact .nil
        | cons b r2 => cases r2 with
          | nil => exact .cons b (.cons a .nil)
          | cons _ _ => exact .nil
    | cons _ _ => exact .nil
theorem ok_fresh_words {f : Addr} {fd : FuncData} (F : Fun K "fresh_words" "fresh_words" s_fresh_words f fd) (T : Txt mg)  : FnOk P w K mg base CX0 1 f fd ["used", "many"] (sp_fresh_words K) :=
  ok_fn F sc_fresh_words (fun _ => rfl) (fun cdv A outer s H E hr => d_fresh_words T  cdv A outer s H E hr) (fun x G0 H0 Q hR => r_fresh_words x G0 H0 Q hR)
theorem ok_next_picks {f : Addr} {fd : FuncData} (F : Fun K "_next_picks" "_next_picks" s_next_picks f fd) (T : Txt mg)  : FnOk P w K mg base CX0 1 f fd ["picks", "many_words"] (sp_next_picks K) :=
  ok_fn F sc_next_picks (fun _ => rfl) (fun cdv A outer s H E hr => d_next_picks T  cdv A outer s H E hr) (fun x G0 H0 Q hR => r_next_picks x G0 H0 Q hR)
theorem ok_pattern_count {f : Addr} {fd : FuncData} (F : Fun K "pattern_count" "pattern_count" s_pattern_count f fd) (T : Txt mg)  : FnOk P w K mg base CX0 1 f fd ["many_names", "many_words"] (sp_pattern_count K) :=
  ok_fn F sc_pattern_count (fun _ => rfl) (fun cdv A outer s H E hr => d_pattern_count T  cdv A outer s H E hr) (fun x G0 H0 Q hR => r_pattern_count x G0 H0 Q hR)
theorem ok_law_pool {f : Addr} {fd : FuncData} (F : Fun K "_law_pool" "_law_pool" s_law_pool f fd) (T : Txt mg)  : FnOk P w K mg base CX0 1 f fd ["script"] (sp_law_pool K) :=
  ok_fn F sc_law_pool (fun _ => rfl) (fun cdv A outer s H E hr => d_law_pool T  cdv A outer s H E hr) (fun x G0 H0 Q hR => r_law_pool x G0 H0 Q hR)
theorem ok_law_pick {f : Addr} {fd : FuncData} (F : Fun K "_law_pick" "_law_pick" s_law_pick f fd) (T : Txt mg)  : FnOk P w K mg base CX0 1 f fd ["pool", "many"] (sp_law_pick K) :=
  ok_fn F sc_law_pick (fun _ => rfl) (fun cdv A outer s H E hr => d_law_pick T  cdv A outer s H E hr) (fun x G0 H0 Q hR => r_law_pick x.pl x.many x.h G0 H0 Q hR)
theorem ok_law_one_of {f : Addr} {fd : FuncData} {f_law_pick : Addr} {fd_law_pick : FuncData} (F : Fun K "_law_one_of" "_law_one_of" s_law_one_of f fd) (T : Txt mg) (C_law_pick : Cal P w K mg base "_law_pick" s_law_pick ["pool", "many"] 1 f_law_pick fd_law_pick (sp_law_pick K)) : FnOk P w K mg base CX0 2 f fd ["pool", "things"] (sp_law_one_of K) :=
  ok_fn F sc_law_one_of (fun _ => rfl) (fun cdv A outer s H E hr => d_law_one_of T C_law_pick cdv A outer s H E hr) (fun x G0 H0 Q hR => r_law_one_of x G0 H0 Q hR)
theorem ok_law_names {f : Addr} {fd : FuncData} {f_law_pick f_law_one_of : Addr} {fd_law_pick fd_law_one_of : FuncData} (F : Fun K "_law_names" "_law_names" s_law_names f fd) (T : Txt mg) (C_law_pick : Cal P w K mg base "_law_pick" s_law_pick ["pool", "many"] 1 f_law_pick fd_law_pick (sp_law_pick K)) (C_law_one_of : Cal P w K mg base "_law_one_of" s_law_one_of ["pool", "things"] 2 f_law_one_of fd_law_one_of (sp_law_one_of K)) : FnOk P w K mg base CX0 3 f fd ["pool", "many", "signs"] (sp_law_names K) :=
  ok_fn F sc_law_names (fun _ => rfl) (fun cdv A outer s H E hr => d_law_names T C_law_pick C_law_one_of cdv A outer s H E hr) (fun x G0 H0 Q hR => r_law_names x G0 H0 Q hR)
theorem ok_law_number {f : Addr} {fd : FuncData} (F : Fun K "_law_number" "_law_number" s_law_number f fd) (T : Txt mg)  : FnOk P w K mg base CX0 1 f fd ["told"] (sp_law_number K) :=
  ok_fn F sc_law_number (fun _ => rfl) (fun cdv A outer s H E hr => d_law_number T  cdv A outer s H E hr) (fun x G0 H0 Q hR => r_law_number x G0 H0 Q hR)
theorem ok_law_fresh {f : Addr} {fd : FuncData} (F : Fun K "_law_fresh" "_law_fresh" s_law_fresh f fd) (T : Txt mg)  : FnOk P w K mg base CX0 1 f fd ["used", "many"] (sp_law_fresh K) :=
  ok_fn F sc_law_fresh (fun _ => rfl) (fun cdv A outer s H E hr => d_law_fresh T  cdv A outer s H E hr) (fun x G0 H0 Q hR => r_law_fresh x G0 H0 Q hR)
theorem ok_law_used {f : Addr} {fd : FuncData} {f_law_pick : Addr} {fd_law_pick : FuncData} (F : Fun K "_law_used" "_law_used" s_law_used f fd) (T : Txt mg) (C_law_pick : Cal P w K mg base "_law_pick" s_law_pick ["pool", "many"] 1 f_law_pick fd_law_pick (sp_law_pick K)) : FnOk P w K mg base CX0 2 f fd ["pool", "words"] (sp_law_used K) :=
  ok_fn F sc_law_used (fun _ => rfl) (fun cdv A outer s H E hr => d_law_used T C_law_pick cdv A outer s H E hr) (fun x G0 H0 Q hR => r_law_used x G0 H0 Q hR)
theorem ok_law_patterns {f : Addr} {fd : FuncData} {f_law_fresh : Addr} {fd_law_fresh : FuncData} (F : Fun K "_law_patterns" "_law_patterns" s_law_patterns f fd) (T : Txt mg) (C_law_fresh : Cal P w K mg base "_law_fresh" s_law_fresh ["used", "many"] 1 f_law_fresh fd_law_fresh (sp_law_fresh K)) : FnOk P w K mg base CX0 2 f fd ["names", "words", "used"] (sp_law_patterns K) :=
  ok_fn F sc_law_patterns (fun _ => rfl) (fun cdv A outer s H E hr => d_law_patterns T C_law_fresh cdv A outer s H E hr) (fun x G0 H0 Q hR => r_law_patterns x G0 H0 Q hR)
theorem ok_law_shape {f : Addr} {fd : FuncData} (F : Fun K "_law_shape" "_law_shape" s_law_shape f fd) (T : Txt mg)  : FnOk P w K mg base CX0 1 f fd ["picked", "words"] (sp_law_shape K) :=
  ok_fn F sc_law_shape (fun _ => rfl) (fun cdv A outer s H E hr => d_law_shape T  cdv A outer s H E hr) (fun x G0 H0 Q hR => r_law_shape x G0 H0 Q hR)
theorem ok_law_count {f : Addr} {fd : FuncData} (F : Fun K "_law_count" "_law_count" s_law_count f fd) (T : Txt mg)  : FnOk P w K mg base CX0 1 f fd ["many_names", "many_words"] (sp_law_count K) :=
  ok_fn F sc_law_count (fun _ => rfl) (fun cdv A outer s H E hr => d_law_count T  cdv A outer s H E hr) (fun x G0 H0 Q hR => r_law_count x G0 H0 Q hR)
theorem ok_law_fresh_hold {f : Addr} {fd : FuncData} {f_law_one_of f_fresh_words f_law_fresh : Addr} {fd_law_one_of fd_fresh_words fd_law_fresh : FuncData} (F : Fun K "_law_fresh_hold" "_law_fresh_hold" s_law_fresh_hold f fd) (T : Txt mg) (C_law_one_of : Cal P w K mg base "_law_one_of" s_law_one_of ["pool", "things"] 2 f_law_one_of fd_law_one_of (sp_law_one_of K)) (C_fresh_words : CalK P w K mg base "fresh_words" s_fresh_words ["used", "many"] 1 f_fresh_words fd_fresh_words (sp_fresh_words K)) (C_law_fresh : Cal P w K mg base "_law_fresh" s_law_fresh ["used", "many"] 1 f_law_fresh fd_law_fresh (sp_law_fresh K)) : FnOk P w K mg base CX0 3 f fd ["pool", "used"] (sp_law_fresh_hold K) :=
  ok_fn F sc_law_fresh_hold (fun _ => rfl) (fun cdv A outer s H E hr => d_law_fresh_hold T C_law_one_of C_fresh_words C_law_fresh cdv A outer s H E hr) (fun x G0 H0 Q hR => r_law_fresh_hold x G0 H0 Q hR)
theorem ok_law_patterns_hold {f : Addr} {fd : FuncData} {f_law_patterns f_patterns f_law_number f_pattern_count f_law_shape f_law_one_of : Addr} {fd_law_patterns fd_patterns fd_law_number fd_pattern_count fd_law_shape fd_law_one_of : FuncData} (F : Fun K "_law_patterns_hold" "_law_patterns_hold" s_law_patterns_hold f fd) (T : Txt mg) (b_dict : mg "dict" = none) (C_law_patterns : Cal P w K mg base "_law_patterns" s_law_patterns ["names", "words", "used"] 2 f_law_patterns fd_law_patterns (sp_law_patterns K)) (C_patterns : CalG P w K mg base "patterns" s_patterns ["names", "words", "used"] 2 f_patterns fd_patterns sp_patterns) (C_law_number : Cal P w K mg base "_law_number" s_law_number ["told"] 1 f_law_number fd_law_number (sp_law_number K)) (C_pattern_count : CalK P w K mg base "pattern_count" s_pattern_count ["many_names", "many_words"] 1 f_pattern_count fd_pattern_count (sp_pattern_count K)) (C_law_shape : Cal P w K mg base "_law_shape" s_law_shape ["picked", "words"] 1 f_law_shape fd_law_shape (sp_law_shape K)) (C_law_one_of : Cal P w K mg base "_law_one_of" s_law_one_of ["pool", "things"] 2 f_law_one_of fd_law_one_of (sp_law_one_of K)) : FnOk P w K mg base CX0 6 f fd ["pool", "names", "words", "used"] (sp_law_patterns_hold K) :=
  ok_fn F sc_law_patterns_hold (fun _ => rfl) (fun cdv A outer s H E hr => d_law_patterns_hold T b_dict C_law_patterns C_patterns C_law_number C_pattern_count C_law_shape C_law_one_of cdv A outer s H E hr) (fun x G0 H0 Q hR => r_law_patterns_hold x G0 H0 Q hR)
theorem ok_law {f : Addr} {fd : FuncData} {f_law_pool f_law_pick f_law_names f_law_one_of f_law_used f_law_fresh_hold f_law_patterns_hold f_law_number f_pattern_count f_law_count : Addr} {fd_law_pool fd_law_pick fd_law_names fd_law_one_of fd_law_used fd_law_fresh_hold fd_law_patterns_hold fd_law_number fd_pattern_count fd_law_count : FuncData} (F : Fun K "law" "law" s_law f fd) (T : Txt mg) (C_law_pool : Cal P w K mg base "_law_pool" s_law_pool ["script"] 1 f_law_pool fd_law_pool (sp_law_pool K)) (C_law_pick : Cal P w K mg base "_law_pick" s_law_pick ["pool", "many"] 1 f_law_pick fd_law_pick (sp_law_pick K)) (C_law_names : Cal P w K mg base "_law_names" s_law_names ["pool", "many", "signs"] 3 f_law_names fd_law_names (sp_law_names K)) (C_law_one_of : Cal P w K mg base "_law_one_of" s_law_one_of ["pool", "things"] 2 f_law_one_of fd_law_one_of (sp_law_one_of K)) (C_law_used : Cal P w K mg base "_law_used" s_law_used ["pool", "words"] 2 f_law_used fd_law_used (sp_law_used K)) (C_law_fresh_hold : Cal P w K mg base "_law_fresh_hold" s_law_fresh_hold ["pool", "used"] 3 f_law_fresh_hold fd_law_fresh_hold (sp_law_fresh_hold K)) (C_law_patterns_hold : Cal P w K mg base "_law_patterns_hold" s_law_patterns_hold ["pool", "names", "words", "used"] 6 f_law_patterns_hold fd_law_patterns_hold (sp_law_patterns_hold K)) (C_law_number : Cal P w K mg base "_law_number" s_law_number ["told"] 1 f_law_number fd_law_number (sp_law_number K)) (C_pattern_count : CalK P w K mg base "pattern_count" s_pattern_count ["many_names", "many_words"] 1 f_pattern_count fd_pattern_count (sp_pattern_count K)) (C_law_count : Cal P w K mg base "_law_count" s_law_count ["many_names", "many_words"] 1 f_law_count fd_law_count (sp_law_count K)) : FnOk P w K mg base CX0 7 f fd ["script"] (sp_law K) :=
  ok_fn F sc_law (fun _ => rfl) (fun cdv A outer s H E hr => d_law T C_law_pool C_law_pick C_law_names C_law_one_of C_law_used C_law_fresh_hold C_law_patterns_hold C_law_number C_pattern_count C_law_count cdv A outer s H E hr) (fun x G0 H0 Q hR => r_law x G0 H0 Q hR)
theorem ok_patterns {f : Addr} {fd : FuncData} {f_fresh_words f_next_picks : Addr} {fd_fresh_words fd_next_picks : FuncData} (F : Fun K "patterns" "patterns" s_patterns f fd) (T : Txt mg) (C_fresh_words : CalK P w K mg base "fresh_words" s_fresh_words ["used", "many"] 1 f_fresh_words fd_fresh_words (sp_fresh_words K)) (C_next_picks : Cal P w K mg base "_next_picks" s_next_picks ["picks", "many_words"] 1 f_next_picks fd_next_picks (sp_next_picks K)) : Gz.YFn P w K mg base 2 f fd ["names", "words", "used"] sp_patterns := by
  obtain ⟨oc, od, kV, doc, pm, an, cdv, ct, osl, rfl, lk, hcd⟩ := F.ex
  exact Gz.yfn_of lk hcd sc_patterns (fun vs H n Yv ⟨x, G, _, _, h, _⟩ => h.length) (fun A outer s H vs n Yv pn hr h => ⟨_, fun hs => d_patterns T C_fresh_words C_next_picks cdv A outer s H pn hr hs, fun H2 hs => r_patterns h H2 hs⟩)
end
theorem all_mk {w : World} {K : PySem.W.Frag} {h : Heap} {mg : Str → Option Value} {fa : Addr} {f_fresh_words f_next_picks f_patterns f_pattern_count f_law_pool f_law_pick f_law_one_of f_law_names f_law_number f_law_fresh f_law_used f_law_patterns f_law_shape f_law_count f_law_fresh_hold f_law_patterns_hold f_law : Addr} (X : K.In h) (G : h.Ns mainGlobals mg) (hfa : mg "law" = some (.ref fa))
    {od_fresh_words od_next_picks od_patterns od_pattern_count od_law_pool od_law_pick od_law_one_of od_law_names od_law_number od_law_fresh od_law_used od_law_patterns od_law_shape od_law_count od_law_fresh_hold od_law_patterns_hold od_law an_fresh_words an_next_picks an_patterns an_pattern_count an_law_pool an_law_pick an_law_one_of an_law_names an_law_number an_law_fresh an_law_used an_law_patterns an_law_shape an_law_count an_law_fresh_hold an_law_patterns_hold an_law : Option Addr} {sl_fresh_words sl_next_picks sl_patterns sl_pattern_count sl_law_pool sl_law_pick sl_law_one_of sl_law_names sl_law_number sl_law_fresh sl_law_used sl_law_patterns sl_law_shape sl_law_count sl_law_fresh_hold sl_law_patterns_hold sl_law : Array (Option Value)} {oc_fresh_words kV_fresh_words dc_fresh_words pm_fresh_words cd_fresh_words ct_fresh_words oc_next_picks kV_next_picks dc_next_picks pm_next_picks cd_next_picks ct_next_picks oc_patterns kV_patterns dc_patterns pm_patterns cd_patterns ct_patterns oc_pattern_count kV_pattern_count dc_pattern_count pm_pattern_count cd_pattern_count ct_pattern_count oc_law_pool kV_law_pool dc_law_pool pm_law_pool cd_law_pool ct_law_pool oc_law_pick kV_law_pick dc_law_pick pm_law_pick cd_law_pick ct_law_pick oc_law_one_of kV_law_one_of dc_law_one_of pm_law_one_of cd_law_one_of ct_law_one_of oc_law_names kV_law_names dc_law_names pm_law_names cd_law_names ct_law_names oc_law_number kV_law_number dc_law_number pm_law_number cd_law_number ct_law_number oc_law_fresh kV_law_fresh dc_law_fresh pm_law_fresh cd_law_fresh ct_law_fresh oc_law_used kV_law_used dc_law_used pm_law_used cd_law_used ct_law_used oc_law_patterns kV_law_patterns dc_law_patterns pm_law_patterns cd_law_patterns ct_law_patterns oc_law_shape kV_law_shape dc_law_shape pm_law_shape cd_law_shape ct_law_shape oc_law_count kV_law_count dc_law_count pm_law_count cd_law_count ct_law_count oc_law_fresh_hold kV_law_fresh_hold dc_law_fresh_hold pm_law_fresh_hold cd_law_fresh_hold ct_law_fresh_hold oc_law_patterns_hold kV_law_patterns_hold dc_law_patterns_hold pm_law_patterns_hold cd_law_patterns_hold ct_law_patterns_hold oc_law kV_law dc_law pm_law cd_law ct_law : Value}
    (a_fresh_words : PySem.W.nsIn K mainGlobals "fresh_words" = some (some (.ref f_fresh_words))) (l_fresh_words : K.lookup f_fresh_words = some ⟨oc_fresh_words, od_fresh_words, .func (PySem.W.fnOf "fresh_words" "fresh_words" (defArgs s_fresh_words) (defBody s_fresh_words) (defScope s_fresh_words) .none kV_fresh_words dc_fresh_words pm_fresh_words an_fresh_words cd_fresh_words ct_fresh_words), sl_fresh_words⟩) (c_fresh_words : PySem.W.codeIn K cd_fresh_words "fresh_words" = true) (k_fresh_words : PySem.W.keepIn K (.ref f_fresh_words) = true)
    (a_next_picks : PySem.W.nsIn K mainGlobals "_next_picks" = some (some (.ref f_next_picks))) (l_next_picks : K.lookup f_next_picks = some ⟨oc_next_picks, od_next_picks, .func (PySem.W.fnOf "_next_picks" "_next_picks" (defArgs s_next_picks) (defBody s_next_picks) (defScope s_next_picks) .none kV_next_picks dc_next_picks pm_next_picks an_next_picks cd_next_picks ct_next_picks), sl_next_picks⟩) (c_next_picks : PySem.W.codeIn K cd_next_picks "_next_picks" = true) (k_next_picks : PySem.W.keepIn K (.ref f_next_picks) = true)
    (a_patterns : PySem.W.nsIn K mainGlobals "patterns" = some (some (.ref f_patterns))) (l_patterns : K.lookup f_patterns = some ⟨oc_patterns, od_patterns, .func (PySem.W.fnOf "patterns" "patterns" (defArgs s_patterns) (defBody s_patterns) (defScope s_patterns) .none kV_patterns dc_patterns pm_patterns an_patterns cd_patterns ct_patterns), sl_patterns⟩) (c_patterns : PySem.W.codeIn K cd_patterns "patterns" = true) (k_patterns : PySem.W.keepIn K (.ref f_patterns) = true)
    (a_pattern_count : PySem.W.nsIn K mainGlobals "pattern_count" = some (some (.ref f_pattern_count))) (l_pattern_count : K.lookup f_pattern_count = some ⟨oc_pattern_count, od_pattern_count, .func (PySem.W.fnOf "pattern_count" "pattern_count" (defArgs s_pattern_count) (defBody s_pattern_count) (defScope s_pattern_count) .none kV_pattern_count dc_pattern_count pm_pattern_count an_pattern_count cd_pattern_count ct_pattern_count), sl_pattern_count⟩) (c_pattern_count : PySem.W.codeIn K cd_pattern_count "pattern_count" = true) (k_pattern_count : PySem.W.keepIn K (.ref f_pattern_count) = true)
    (a_law_pool : PySem.W.nsIn K mainGlobals "_law_pool" = some (some (.ref f_law_pool))) (l_law_pool : K.lookup f_law_pool = some ⟨oc_law_pool, od_law_pool, .func (PySem.W.fnOf "_law_pool" "_law_pool" (defArgs s_law_pool) (defBody s_law_pool) (defScope s_law_pool) .none kV_law_pool dc_law_pool pm_law_pool an_law_pool cd_law_pool ct_law_pool), sl_law_pool⟩) (c_law_pool : PySem.W.codeIn K cd_law_pool "_law_pool" = true) (k_law_pool : PySem.W.keepIn K (.ref f_law_pool) = true)
    (a_law_pick : PySem.W.nsIn K mainGlobals "_law_pick" = some (some (.ref f_law_pick))) (l_law_pick : K.lookup f_law_pick = some ⟨oc_law_pick, od_law_pick, .func (PySem.W.fnOf "_law_pick" "_law_pick" (defArgs s_law_pick) (defBody s_law_pick) (defScope s_law_pick) .none kV_law_pick dc_law_pick pm_law_pick an_law_pick cd_law_pick ct_law_pick), sl_law_pick⟩) (c_law_pick : PySem.W.codeIn K cd_law_pick "_law_pick" = true) (k_law_pick : PySem.W.keepIn K (.ref f_law_pick) = true)
    (a_law_one_of : PySem.W.nsIn K mainGlobals "_law_one_of" = some (some (.ref f_law_one_of))) (l_law_one_of : K.lookup f_law_one_of = some ⟨oc_law_one_of, od_law_one_of, .func (PySem.W.fnOf "_law_one_of" "_law_one_of" (defArgs s_law_one_of) (defBody s_law_one_of) (defScope s_law_one_of) .none kV_law_one_of dc_law_one_of pm_law_one_of an_law_one_of cd_law_one_of ct_law_one_of), sl_law_one_of⟩) (c_law_one_of : PySem.W.codeIn K cd_law_one_of "_law_one_of" = true) (k_law_one_of : PySem.W.keepIn K (.ref f_law_one_of) = true)
    (a_law_names : PySem.W.nsIn K mainGlobals "_law_names" = some (some (.ref f_law_names))) (l_law_names : K.lookup f_law_names = some ⟨oc_law_names, od_law_names, .func (PySem.W.fnOf "_law_names" "_law_names" (defArgs s_law_names) (defBody s_law_names) (defScope s_law_names) .none kV_law_names dc_law_names pm_law_names an_law_names cd_law_names ct_law_names), sl_law_names⟩) (c_law_names : PySem.W.codeIn K cd_law_names "_law_names" = true) (k_law_names : PySem.W.keepIn K (.ref f_law_names) = true)
    (a_law_number : PySem.W.nsIn K mainGlobals "_law_number" = some (some (.ref f_law_number))) (l_law_number : K.lookup f_law_number = some ⟨oc_law_number, od_law_number, .func (PySem.W.fnOf "_law_number" "_law_number" (defArgs s_law_number) (defBody s_law_number) (defScope s_law_number) .none kV_law_number dc_law_number pm_law_number an_law_number cd_law_number ct_law_number), sl_law_number⟩) (c_law_number : PySem.W.codeIn K cd_law_number "_law_number" = true) (k_law_number : PySem.W.keepIn K (.ref f_law_number) = true)
    (a_law_fresh : PySem.W.nsIn K mainGlobals "_law_fresh" = some (some (.ref f_law_fresh))) (l_law_fresh : K.lookup f_law_fresh = some ⟨oc_law_fresh, od_law_fresh, .func (PySem.W.fnOf "_law_fresh" "_law_fresh" (defArgs s_law_fresh) (defBody s_law_fresh) (defScope s_law_fresh) .none kV_law_fresh dc_law_fresh pm_law_fresh an_law_fresh cd_law_fresh ct_law_fresh), sl_law_fresh⟩) (c_law_fresh : PySem.W.codeIn K cd_law_fresh "_law_fresh" = true) (k_law_fresh : PySem.W.keepIn K (.ref f_law_fresh) = true)
    (a_law_used : PySem.W.nsIn K mainGlobals "_law_used" = some (some (.ref f_law_used))) (l_law_used : K.lookup f_law_used = some ⟨oc_law_used, od_law_used, .func (PySem.W.fnOf "_law_used" "_law_used" (defArgs s_law_used) (defBody s_law_used) (defScope s_law_used) .none kV_law_used dc_law_used pm_law_used an_law_used cd_law_used ct_law_used), sl_law_used⟩) (c_law_used : PySem.W.codeIn K cd_law_used "_law_used" = true) (k_law_used : PySem.W.keepIn K (.ref f_law_used) = true)
    (a_law_patterns : PySem.W.nsIn K mainGlobals "_law_patterns" = some (some (.ref f_law_patterns))) (l_law_patterns : K.lookup f_law_patterns = some ⟨oc_law_patterns, od_law_patterns, .func (PySem.W.fnOf "_law_patterns" "_law_patterns" (defArgs s_law_patterns) (defBody s_law_patterns) (defScope s_law_patterns) .none kV_law_patterns dc_law_patterns pm_law_patterns an_law_patterns cd_law_patterns ct_law_patterns), sl_law_patterns⟩) (c_law_patterns : PySem.W.codeIn K cd_law_patterns "_law_patterns" = true) (k_law_patterns : PySem.W.keepIn K (.ref f_law_patterns) = true)
    (a_law_shape : PySem.W.nsIn K mainGlobals "_law_shape" = some (some (.ref f_law_shape))) (l_law_shape : K.lookup f_law_shape = some ⟨oc_law_shape, od_law_shape, .func (PySem.W.fnOf "_law_shape" "_law_shape" (defArgs s_law_shape) (defBody s_law_shape) (defScope s_law_shape) .none kV_law_shape dc_law_shape pm_law_shape an_law_shape cd_law_shape ct_law_shape), sl_law_shape⟩) (c_law_shape : PySem.W.codeIn K cd_law_shape "_law_shape" = true) (k_law_shape : PySem.W.keepIn K (.ref f_law_shape) = true)
    (a_law_count : PySem.W.nsIn K mainGlobals "_law_count" = some (some (.ref f_law_count))) (l_law_count : K.lookup f_law_count = some ⟨oc_law_count, od_law_count, .func (PySem.W.fnOf "_law_count" "_law_count" (defArgs s_law_count) (defBody s_law_count) (defScope s_law_count) .none kV_law_count dc_law_count pm_law_count an_law_count cd_law_count ct_law_count), sl_law_count⟩) (c_law_count : PySem.W.codeIn K cd_law_count "_law_count" = true) (k_law_count : PySem.W.keepIn K (.ref f_law_count) = true)
    (a_law_fresh_hold : PySem.W.nsIn K mainGlobals "_law_fresh_hold" = some (some (.ref f_law_fresh_hold))) (l_law_fresh_hold : K.lookup f_law_fresh_hold = some ⟨oc_law_fresh_hold, od_law_fresh_hold, .func (PySem.W.fnOf "_law_fresh_hold" "_law_fresh_hold" (defArgs s_law_fresh_hold) (defBody s_law_fresh_hold) (defScope s_law_fresh_hold) .none kV_law_fresh_hold dc_law_fresh_hold pm_law_fresh_hold an_law_fresh_hold cd_law_fresh_hold ct_law_fresh_hold), sl_law_fresh_hold⟩) (c_law_fresh_hold : PySem.W.codeIn K cd_law_fresh_hold "_law_fresh_hold" = true) (k_law_fresh_hold : PySem.W.keepIn K (.ref f_law_fresh_hold) = true)
    (a_law_patterns_hold : PySem.W.nsIn K mainGlobals "_law_patterns_hold" = some (some (.ref f_law_patterns_hold))) (l_law_patterns_hold : K.lookup f_law_patterns_hold = some ⟨oc_law_patterns_hold, od_law_patterns_hold, .func (PySem.W.fnOf "_law_patterns_hold" "_law_patterns_hold" (defArgs s_law_patterns_hold) (defBody s_law_patterns_hold) (defScope s_law_patterns_hold) .none kV_law_patterns_hold dc_law_patterns_hold pm_law_patterns_hold an_law_patterns_hold cd_law_patterns_hold ct_law_patterns_hold), sl_law_patterns_hold⟩) (c_law_patterns_hold : PySem.W.codeIn K cd_law_patterns_hold "_law_patterns_hold" = true) (k_law_patterns_hold : PySem.W.keepIn K (.ref f_law_patterns_hold) = true)
    (a_law : PySem.W.nsIn K mainGlobals "law" = some (some (.ref f_law))) (l_law : K.lookup f_law = some ⟨oc_law, od_law, .func (PySem.W.fnOf "law" "law" (defArgs s_law) (defBody s_law) (defScope s_law) .none kV_law dc_law pm_law an_law cd_law ct_law), sl_law⟩) (c_law : PySem.W.codeIn K cd_law "law" = true) (k_law : PySem.W.keepIn K (.ref f_law) = true)
    (z_abs : PySem.W.nsIn K mainGlobals "abs" = some none)
    (z_bool : PySem.W.nsIn K mainGlobals "bool" = some none)
    (z_dict : PySem.W.nsIn K mainGlobals "dict" = some none)
    (z_enumerate : PySem.W.nsIn K mainGlobals "enumerate" = some none)
    (z_int : PySem.W.nsIn K mainGlobals "int" = some none)
    (z_isinstance : PySem.W.nsIn K mainGlobals "isinstance" = some none)
    (z_len : PySem.W.nsIn K mainGlobals "len" = some none)
    (z_list : PySem.W.nsIn K mainGlobals "list" = some none)
    (z_max : PySem.W.nsIn K mainGlobals "max" = some none)
    (z_range : PySem.W.nsIn K mainGlobals "range" = some none)
    (z_reversed : PySem.W.nsIn K mainGlobals "reversed" = some none)
    (z_set : PySem.W.nsIn K mainGlobals "set" = some none)
    (z_str : PySem.W.nsIn K mainGlobals "str" = some none)
    (z_sum : PySem.W.nsIn K mainGlobals "sum" = some none)
    (z_tuple : PySem.W.nsIn K mainGlobals "tuple" = some none) :
    ∃ fd : FuncData, (∀ (s : Shared) (v : Value), BindsTo s fd ⟨[v], []⟩ [("script", v)]) ∧ ∀ base : Heap, K.In base → base.Ns mainGlobals mg → FnOk PySem.Challenge.rw_mappedtwice_k08_patterns_listed.prog w K mg base CX0 7 fa fd ["script"] (sp_law K) := by
  have e := hfa.symm.trans (PySem.W.mg_of X G a_law)
  cases e
  have T : Txt mg := ⟨PySem.W.mg_none_of X G z_abs, PySem.W.mg_none_of X G z_bool, PySem.W.mg_none_of X G z_enumerate, PySem.W.mg_none_of X G z_int, PySem.W.mg_none_of X G z_isinstance, PySem.W.mg_none_of X G z_len, PySem.W.mg_none_of X G z_list, PySem.W.mg_none_of X G z_max, PySem.W.mg_none_of X G z_range, PySem.W.mg_none_of X G z_reversed, PySem.W.mg_none_of X G z_set, PySem.W.mg_none_of X G z_str, PySem.W.mg_none_of X G z_sum, PySem.W.mg_none_of X G z_tuple⟩
  have b_dict : mg "dict" = none := PySem.W.mg_none_of X G z_dict
  have F_fresh_words := fun_mk (st := s_fresh_words) l_fresh_words c_fresh_words k_fresh_words
  have b_fresh_words := F_fresh_words.binds (ps := ["used", "many"]) fun _ _ _ _ _ _ us hl => match us, hl with | [_, _], _ => rfl
  have F_next_picks := fun_mk (st := s_next_picks) l_next_picks c_next_picks k_next_picks
  have b_next_picks := F_next_picks.binds (ps := ["picks", "many_words"]) fun _ _ _ _ _ _ us hl => match us, hl with | [_, _], _ => rfl
  have F_patterns := fun_mk (st := s_patterns) l_patterns c_patterns k_patterns
  have b_patterns := F_patterns.binds (ps := ["names", "words", "used"]) fun _ _ _ _ _ _ us hl => match us, hl with | [_, _, _], _ => rfl
  have F_pattern_count := fun_mk (st := s_pattern_count) l_pattern_count c_pattern_count k_pattern_count
  have b_pattern_count := F_pattern_count.binds (ps := ["many_names", "many_words"]) fun _ _ _ _ _ _ us hl => match us, hl with | [_, _], _ => rfl
  have F_law_pool := fun_mk (st := s_law_pool) l_law_pool c_law_pool k_law_pool
  have b_law_pool := F_law_pool.binds (ps := ["script"]) fun _ _ _ _ _ _ us hl => match us, hl with | [_], _ => rfl
  have F_law_pick := fun_mk (st := s_law_pick) l_law_pick c_law_pick k_law_pick
  have b_law_pick := F_law_pick.binds (ps := ["pool", "many"]) fun _ _ _ _ _ _ us hl => match us, hl with | [_, _], _ => rfl
  have F_law_one_of := fun_mk (st := s_law_one_of) l_law_one_of c_law_one_of k_law_one_of
  have b_law_one_of := F_law_one_of.binds (ps := ["pool", "things"]) fun _ _ _ _ _ _ us hl => match us, hl with | [_, _], _ => rfl
  have F_law_names := fun_mk (st := s_law_names) l_law_names c_law_names k_law_names
  have b_law_names := F_law_names.binds (ps := ["pool", "many", "signs"]) fun _ _ _ _ _ _ us hl => match us, hl with | [_, _, _], _ => rfl
  have F_law_number := fun_mk (st := s_law_number) l_law_number c_law_number k_law_number
  have b_law_number := F_law_number.binds (ps := ["told"]) fun _ _ _ _ _ _ us hl => match us, hl with | [_], _ => rfl
  have F_law_fresh := fun_mk (st := s_law_fresh) l_law_fresh c_law_fresh k_law_fresh
  have b_law_fresh := F_law_fresh.binds (ps := ["used", "many"]) fun _ _ _ _ _ _ us hl => match us, hl with | [_, _], _ => rfl
  have F_law_used := fun_mk (st := s_law_used) l_law_used c_law_used k_law_used
  have b_law_used := F_law_used.binds (ps := ["pool", "words"]) fun _ _ _ _ _ _ us hl => match us, hl with | [_, _], _ => rfl
  have F_law_patterns := fun_mk (st := s_law_patterns) l_law_patterns c_law_patterns k_law_patterns
  have b_law_patterns := F_law_patterns.binds (ps := ["names", "words", "used"]) fun _ _ _ _ _ _ us hl => match us, hl with | [_, _, _], _ => rfl
  have F_law_shape := fun_mk (st := s_law_shape) l_law_shape c_law_shape k_law_shape
  have b_law_shape := F_law_shape.binds (ps := ["picked", "words"]) fun _ _ _ _ _ _ us hl => match us, hl with | [_, _], _ => rfl
  have F_law_count := fun_mk (st := s_law_count) l_law_count c_law_count k_law_count
  have b_law_count := F_law_count.binds (ps := ["many_names", "many_words"]) fun _ _ _ _ _ _ us hl => match us, hl with | [_, _], _ => rfl
  have F_law_fresh_hold := fun_mk (st := s_law_fresh_hold) l_law_fresh_hold c_law_fresh_hold k_law_fresh_hold
  have b_law_fresh_hold := F_law_fresh_hold.binds (ps := ["pool", "used"]) fun _ _ _ _ _ _ us hl => match us, hl with | [_, _], _ => rfl
  have F_law_patterns_hold := fun_mk (st := s_law_patterns_hold) l_law_patterns_hold c_law_patterns_hold k_law_patterns_hold
  have b_law_patterns_hold := F_law_patterns_hold.binds (ps := ["pool", "names", "words", "used"]) fun _ _ _ _ _ _ us hl => match us, hl with | [_, _, _, _], _ => rfl
  have F_law := fun_mk (st := s_law) l_law c_law k_law
  have kb_fresh_words := kb_mk (p := "used") (q := "many") F_fresh_words fun _ _ _ _ _ _ _ _ => rfl
  have kb_pattern_count := kb_mk (p := "many_names") (q := "many_words") F_pattern_count fun _ _ _ _ _ _ _ _ => rfl
  refine ⟨PySem.W.fnOf "law" "law" (defArgs s_law) (defBody s_law) (defScope s_law) .none kV_law dc_law pm_law an_law cd_law ct_law, fun s v => .of_eq rfl, fun base _ _ => ?_⟩
  have C_fresh_words : CalK PySem.Challenge.rw_mappedtwice_k08_patterns_listed.prog w K mg base "fresh_words" s_fresh_words ["used", "many"] 1 f_fresh_words _ (sp_fresh_words K) := ⟨⟨⟨F_fresh_words, b_fresh_words, PySem.W.mg_of X G a_fresh_words⟩, ok_fresh_words (P := PySem.Challenge.rw_mappedtwice_k08_patterns_listed.prog) (w := w) (base := base) F_fresh_words T ⟩, kb_fresh_words⟩
  have C_next_picks : Cal PySem.Challenge.rw_mappedtwice_k08_patterns_listed.prog w K mg base "_next_picks" s_next_picks ["picks", "many_words"] 1 f_next_picks _ (sp_next_picks K) := ⟨⟨F_next_picks, b_next_picks, PySem.W.mg_of X G a_next_picks⟩, ok_next_picks (P := PySem.Challenge.rw_mappedtwice_k08_patterns_listed.prog) (w := w) (base := base) F_next_picks T ⟩
  have C_pattern_count : CalK PySem.Challenge.rw_mappedtwice_k08_patterns_listed.prog w K mg base "pattern_count" s_pattern_count ["many_names", "many_words"] 1 f_pattern_count _ (sp_pattern_count K) := ⟨⟨⟨F_pattern_count, b_pattern_count, PySem.W.mg_of X G a_pattern_count⟩, ok_pattern_count (P := PySem.Challenge.rw_mappedtwice_k08_patterns_listed.prog) (w := w) (base := base) F_pattern_count T ⟩, kb_pattern_count⟩
  have C_law_pool : Cal PySem.Challenge.rw_mappedtwice_k08_patterns_listed.prog w K mg base "_law_pool" s_law_pool ["script"] 1 f_law_pool _ (sp_law_pool K) := ⟨⟨F_law_pool, b_law_pool, PySem.W.mg_of X G a_law_pool⟩, ok_law_pool (P := PySem.Challenge.rw_mappedtwice_k08_patterns_listed.prog) (w := w) (base := base) F_law_pool T ⟩
  have C_law_pick : Cal PySem.Challenge.rw_mappedtwice_k08_patterns_listed.prog w K mg base "_law_pick" s_law_pick ["pool", "many"] 1 f_law_pick _ (sp_law_pick K) := ⟨⟨F_law_pick, b_law_pick, PySem.W.mg_of X G a_law_pick⟩, ok_law_pick (P := PySem.Challenge.rw_mappedtwice_k08_patterns_listed.prog) (w := w) (base := base) F_law_pick T ⟩
  have C_law_number : Cal PySem.Challenge.rw_mappedtwice_k08_patterns_listed.prog w K mg base "_law_number" s_law_number ["told"] 1 f_law_number _ (sp_law_number K) := ⟨⟨F_law_number, b_law_number, PySem.W.mg_of X G a_law_number⟩, ok_law_number (P := PySem.Challenge.rw_mappedtwice_k08_patterns_listed.prog) (w := w) (base := base) F_law_number T ⟩
  have C_law_fresh : Cal PySem.Challenge.rw_mappedtwice_k08_patterns_listed.prog w K mg base "_law_fresh" s_law_fresh ["used", "many"] 1 f_law_fresh _ (sp_law_fresh K) := ⟨⟨F_law_fresh, b_law_fresh, PySem.W.mg_of X G a_law_fresh⟩, ok_law_fresh (P := PySem.Challenge.rw_mappedtwice_k08_patterns_listed.prog) (w := w) (base := base) F_law_fresh T ⟩
  have C_law_shape : Cal PySem.Challenge.rw_mappedtwice_k08_patterns_listed.prog w K mg base "_law_shape" s_law_shape ["picked", "words"] 1 f_law_shape _ (sp_law_shape K) := ⟨⟨F_law_shape, b_law_shape, PySem.W.mg_of X G a_law_shape⟩, ok_law_shape (P := PySem.Challenge.rw_mappedtwice_k08_patterns_listed.prog) (w := w) (base := base) F_law_shape T ⟩
  have C_law_count : Cal PySem.Challenge.rw_mappedtwice_k08_patterns_listed.prog w K mg base "_law_count" s_law_count ["many_names", "many_words"] 1 f_law_count _ (sp_law_count K) := ⟨⟨F_law_count, b_law_count, PySem.W.mg_of X G a_law_count⟩, ok_law_count (P := PySem.Challenge.rw_mappedtwice_k08_patterns_listed.prog) (w := w) (base := base) F_law_count T ⟩
  have C_law_one_of : Cal PySem.Challenge.rw_mappedtwice_k08_patterns_listed.prog w K mg base "_law_one_of" s_law_one_of ["pool", "things"] 2 f_law_one_of _ (sp_law_one_of K) := ⟨⟨F_law_one_of, b_law_one_of, PySem.W.mg_of X G a_law_one_of⟩, ok_law_one_of (P := PySem.Challenge.rw_mappedtwice_k08_patterns_listed.prog) (w := w) (base := base) F_law_one_of T C_law_pick⟩
  have C_law_names : Cal PySem.Challenge.rw_mappedtwice_k08_patterns_listed.prog w K mg base "_law_names" s_law_names ["pool", "many", "signs"] 3 f_law_names _ (sp_law_names K) := ⟨⟨F_law_names, b_law_names, PySem.W.mg_of X G a_law_names⟩, ok_law_names (P := PySem.Challenge.rw_mappedtwice_k08_patterns_listed.prog) (w := w) (base := base) F_law_names T C_law_pick C_law_one_of⟩
  have C_law_used : Cal PySem.Challenge.rw_mappedtwice_k08_patterns_listed.prog w K mg base "_law_used" s_law_used ["pool", "words"] 2 f_law_used _ (sp_law_used K) := ⟨⟨F_law_used, b_law_used, PySem.W.mg_of X G a_law_used⟩, ok_law_used (P := PySem.Challenge.rw_mappedtwice_k08_patterns_listed.prog) (w := w) (base := base) F_law_used T C_law_pick⟩
  have C_law_patterns : Cal PySem.Challenge.rw_mappedtwice_k08_patterns_listed.prog w K mg base "_law_patterns" s_law_patterns ["names", "words", "used"] 2 f_law_patterns _ (sp_law_patterns K) := ⟨⟨F_law_patterns, b_law_patterns, PySem.W.mg_of X G a_law_patterns⟩, ok_law_patterns (P := PySem.Challenge.rw_mappedtwice_k08_patterns_listed.prog) (w := w) (base := base) F_law_patterns T C_law_fresh⟩
  have C_law_fresh_hold : Cal PySem.Challenge.rw_mappedtwice_k08_patterns_listed.prog w K mg base "_law_fresh_hold" s_law_fresh_hold ["pool", "used"] 3 f_law_fresh_hold _ (sp_law_fresh_hold K) := ⟨⟨F_law_fresh_hold, b_law_fresh_hold, PySem.W.mg_of X G a_law_fresh_hold⟩, ok_law_fresh_hold (P := PySem.Challenge.rw_mappedtwice_k08_patterns_listed.prog) (w := w) (base := base) F_law_fresh_hold T C_law_one_of C_fresh_words C_law_fresh⟩
  have C_patterns : CalG PySem.Challenge.rw_mappedtwice_k08_patterns_listed.prog w K mg base "patterns" s_patterns ["names", "words", "used"] 2 f_patterns _ sp_patterns := ⟨⟨F_patterns, b_patterns, PySem.W.mg_of X G a_patterns⟩, ok_patterns (P := PySem.Challenge.rw_mappedtwice_k08_patterns_listed.prog) (w := w) (base := base) F_patterns T C_fresh_words C_next_picks⟩
  have C_law_patterns_hold : Cal PySem.Challenge.rw_mappedtwice_k08_patterns_listed.prog w K mg base "_law_patterns_hold" s_law_patterns_hold ["pool", "names", "words", "used"] 6 f_law_patterns_hold _ (sp_law_patterns_hold K) := ⟨⟨F_law_patterns_hold, b_law_patterns_hold, PySem.W.mg_of X G a_law_patterns_hold⟩, ok_law_patterns_hold (P := PySem.Challenge.rw_mappedtwice_k08_patterns_listed.prog) (w := w) (base := base) F_law_patterns_hold T b_dict C_law_patterns C_patterns C_law_number C_pattern_count C_law_shape C_law_one_of⟩
  exact ok_law F_law T C_law_pool C_law_pick C_law_names C_law_one_of C_law_used C_law_fresh_hold C_law_patterns_hold C_law_number C_pattern_count C_law_count
theorem walk {q : Program} {loose : List Str} {XP : (Str → Option Value) → Heap → Prop} {YP : World → Heap → Prop} {d : DefRec} {K : Params → PySem.W.Frag} (hn : PySem.Challenge.rw_mappedtwice_k08_patterns_listed.most = some 63) (hdf : d.params.defaults = [])
    (hY : ∀ (w : World) (h : Heap), YP w h → (K w.params).In h)
    (F : ∀ (w : World) (mg : Str → Option Value) (fa : Addr) (h : Heap), (K w.params).In h → h.Ns mainGlobals mg → mg d.name = some (.ref fa) →
      ∃ fd : FuncData, (∀ (s : Shared) (u : Value), BindsTo s fd ⟨[u], []⟩ [("script", u)]) ∧ ∀ base : Heap, (K w.params).In base → base.Ns mainGlobals mg → FnOk PySem.Challenge.rw_mappedtwice_k08_patterns_listed.prog w (K w.params) mg base CX0 7 fa fd ["script"] (sp_law (K w.params))) :
    PySem.W.WalkO q loose XP YP PySem.Challenge.rw_mappedtwice_k08_patterns_listed.row.toRowW d [] (fun f vs => PySem.call f vs) :=
  L2.walk_of (n := 63) (k := 7) (x := "script") (CX := fun _ => CX0) (sp := fun w => sp_law (K w.params)) hn (by decide) hdf ⟨rfl, by decide, by decide⟩ hY F (fun _ H a ns hl _ hS => ⟨⟨ns, hl⟩, H, Same.refl H, trivial, .cons ⟨a, _, rfl, hS, allK_of_val ns⟩ .nil, fun v G' H' _ _ p => p⟩) fun _ _ _ _ _ z => z
end K8
open PySem PySem.W PyProof.Rows in
set_option maxRecDepth 100000 in
set_option maxHeartbeats 0 in
theorem PySem.Challenge.cw_mappedtwice_k08_patterns_listed_holds : PySem.Challenge.rw_mappedtwice_k08_patterns_listed.Holds := by
  w_on; o_law; k_head; (case hw => w_witness2)
  k_fill
  refine K8.walk rfl rfl (fun w h Y => PySem.W.kIn_of Y) ?F
  case F =>
    intro w mg fa h KX G hmg
    refine' K8.all_mk KX G hmg ?a_fresh_words ?l_fresh_words ?c_fresh_words ?k_fresh_words ?a_next_picks ?l_next_picks ?c_next_picks ?k_next_picks ?a_patterns ?l_patterns ?c_patterns ?k_patterns ?a_pattern_count ?l_pattern_count ?c_pattern_count ?k_pattern_count ?a_law_pool ?l_law_pool ?c_law_pool ?k_law_pool ?a_law_pick ?l_law_pick ?c_law_pick ?k_law_pick ?a_law_one_of ?l_law_one_of ?c_law_one_of ?k_law_one_of ?a_law_names ?l_law_names ?c_law_names ?k_law_names ?a_law_number ?l_law_number ?c_law_number ?k_law_number ?a_law_fresh ?l_law_fresh ?c_law_fresh ?k_law_fresh ?a_law_used ?l_law_used ?c_law_used ?k_law_used ?a_law_patterns ?l_law_patterns ?c_law_patterns ?k_law_patterns ?a_law_shape ?l_law_shape ?c_law_shape ?k_law_shape ?a_law_count ?l_law_count ?c_law_count ?k_law_count ?a_law_fresh_hold ?l_law_fresh_hold ?c_law_fresh_hold ?k_law_fresh_hold ?a_law_patterns_hold ?l_law_patterns_hold ?c_law_patterns_hold ?k_law_patterns_hold ?a_law ?l_law ?c_law ?k_law ?z_abs ?z_bool ?z_dict ?z_enumerate ?z_int ?z_isinstance ?z_len ?z_list ?z_max ?z_range ?z_reversed ?z_set ?z_str ?z_sum ?z_tuple
    (case a_fresh_words => k_is)
    (case l_fresh_words => k_is)
    (case c_fresh_words => k_is)
    (case k_fresh_words => k_is)
    (case a_next_picks => k_is)
    (case l_next_picks => k_is)
    (case c_next_picks => k_is)
    (case k_next_picks => k_is)
    (case a_patterns => k_is)
    (case l_patterns => k_is)
    (case c_patterns => k_is)
    (case k_patterns => k_is)
    (case a_pattern_count => k_is)
    (case l_pattern_count => k_is)
    (case c_pattern_count => k_is)
    (case k_pattern_count => k_is)
    (case a_law_pool => k_is)
    (case l_law_pool => k_is)
    (case c_law_pool => k_is)
    (case k_law_pool => k_is)
    (case a_law_pick => k_is)
    (case l_law_pick => k_is)
    (case c_law_pick => k_is)
    (case k_law_pick => k_is)
    (case a_law_one_of => k_is)
    (case l_law_one_of => k_is)
    (case c_law_one_of => k_is)
    (case k_law_one_of => k_is)
    (case a_law_names => k_is)
    (case l_law_names => k_is)
    (case c_law_names => k_is)
    (case k_law_names => k_is)
    (case a_law_number => k_is)
    (case l_law_number => k_is)
    (case c_law_number => k_is)
    (case k_law_number => k_is)
    (case a_law_fresh => k_is)
    (case l_law_fresh => k_is)
    (case c_law_fresh => k_is)
    (case k_law_fresh => k_is)
    (case a_law_used => k_is)
    (case l_law_used => k_is)
    (case c_law_used => k_is)
    (case k_law_used => k_is)
    (case a_law_patterns => k_is)
    (case l_law_patterns => k_is)
    (case c_law_patterns => k_is)
    (case k_law_patterns => k_is)
    (case a_law_shape => k_is)
    (case l_law_shape => k_is)
    (case c_law_shape => k_is)
    (case k_law_shape => k_is)
    (case a_law_count => k_is)
    (case l_law_count => k_is)
    (case c_law_count => k_is)
    (case k_law_count => k_is)
    (case a_law_fresh_hold => k_is)
    (case l_law_fresh_hold => k_is)
    (case c_law_fresh_hold => k_is)
    (case k_law_fresh_hold => k_is)
    (case a_law_patterns_hold => k_is)
    (case l_law_patterns_hold => k_is)
    (case c_law_patterns_hold => k_is)
    (case k_law_patterns_hold => k_is)
    (case a_law => k_is)
    (case l_law => k_is)
    (case c_law => k_is)
    (case k_law => k_is)
    (case z_abs => k_is)
    (case z_bool => k_is)
    (case z_dict => k_is)
    (case z_enumerate => k_is)
    (case z_int => k_is)
    (case z_isinstance => k_is)
    (case z_len => k_is)
    (case z_list => k_is)
    (case z_max => k_is)
    (case z_range => k_is)
    (case z_reversed => k_is)
    (case z_set => k_is)
    (case z_str => k_is)
    (case z_sum => k_is)
    (case z_tuple => k_is)
