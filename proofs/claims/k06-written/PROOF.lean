import PyProof.Rows.All
import Wide.All
import OpenK.AllK
import Wide.FinOn
import KE.KStateDown
import HandS.ForMost
import HandS.Exc
import HandS.TryOnly
import HandS.ExcOwn
import HandS.WordsExc
import HandS.Defaults
import HandS.Style
import HandS.RevRange
import HandS.Deep
import HandS.IsInst
import HandS.StrMore
import HandS.Conv
import HandS.CallLocal
import HandS.ExcIs
import HandS.WideBits
import HandS.HeadHook1
import HandS.ExcCtx
import HandS.Hot
import HandS.Head0
import HandS.Head1
import HandS.Head2
import HandS.HeadEnd
import HandS.HeadHook2
import HandS.Rev
import HandS.Replace
import HandS.Codes
import PySem.Challenge.RW_towerrow_k06_written
set_option Elab.async false
set_option linter.all false
set_option maxRecDepth 100000
set_option maxHeartbeats 4000000
/-! own layer: data under the slots -/
namespace TR
open PySem PySem.Spec PyProof.Rows L2

/-! ### data -/
inductive Da where
  | non
  | bl (b : Bool)
  | int (i : Int)
  | str (s : Str)
  | lst (xs : List Da)
  | tup (xs : List Da)
  | emp
  | adr (a : Addr)
  | ty (n : String)

mutual
inductive Dq (K : PySem.W.Frag) (H : Hp) : V → Da → Prop
  | non : Dq K H .non .non
  | bl (b : Bool) : Dq K H (.bl b) (.bl b)
  | int (i : Int) : Dq K H (.int i) (.int i)
  | str (x : Str) : Dq K H (.str x) (.str x)
  | lst {a : Addr} {vs : List V} {ds : List Da} : SqL K H a vs → DqA K H vs ds → Dq K H (.ref a) (.lst ds)
  | tup {a : Addr} {vs : List V} {ds : List Da} : SqT K H a vs → DqA K H vs ds → Dq K H (.ref a) (.tup ds)
  | emp {a : Addr} : H a = some (.dK []) → Dq K H (.ref a) .emp
  | adr (a : Addr) : Dq K H (.ref a) (.adr a)
  | ty (n : String) : Dq K H (.ty n) (.ty n)
inductive DqA (K : PySem.W.Frag) (H : Hp) : List V → List Da → Prop
  | nil : DqA K H [] []
  | cons {v : V} {vs : List V} {d : Da} {ds : List Da} : Dq K H v d → DqA K H vs ds → DqA K H (v :: vs) (d :: ds)
end

theorem same_t {K : PySem.W.Frag} {H H' : Hp} {a : Addr} {xs : List V} (e : Same H H') (h : SqT K H a xs) : SqT K H' a xs := by
  rcases h with (h | ⟨o, h⟩) | h
  · exact .inl (.inl (e _ _ h))
  · exact .inl (.inr ⟨o, e _ _ h⟩)
  · exact .inr h
mutual
theorem Dq.mono {K : PySem.W.Frag} {F F' : Hp} (e : Same F F') : ∀ (d : Da) (v : V), Dq K F v d → Dq K F' v d
  | .non, _, h => by cases h; exact .non
  | .bl b, _, h => by cases h; exact .bl b
  | .int i, _, h => by cases h; exact .int i
  | .str x, _, h => by cases h; exact .str x
  | .lst ds, _, h => by
    cases h with
    | lst hs ha => exact .lst (e.seq hs) (DqA.mono e ds _ ha)
  | .tup ds, _, h => by
    cases h with
    | tup hs ha => exact .tup (same_t e hs) (DqA.mono e ds _ ha)
  | .emp, _, h => by
    cases h with
    | emp q => exact .emp (e _ _ q)
  | .adr a, _, h => by cases h; exact .adr a
  | .ty n, _, h => by cases h; exact .ty n
theorem DqA.mono {K : PySem.W.Frag} {F F' : Hp} (e : Same F F') : ∀ (ds : List Da) (vs : List V), DqA K F vs ds → DqA K F' vs ds
  | [], _, h => by cases h; exact .nil
  | d :: ds, _, h => by
    cases h with
    | cons h1 h2 => exact .cons (Dq.mono e d _ h1) (DqA.mono e ds _ h2)
end
section
variable {K : PySem.W.Frag} {H : Hp}
theorem DqA.len : ∀ {vs : List V} {ds : List Da}, DqA K H vs ds → vs.length = ds.length
  | _, _, .nil => rfl
  | _, _, .cons _ h => by rw [List.length_cons, List.length_cons, DqA.len h]
theorem DqA.get : ∀ {vs : List V} {ds : List Da} {i : Nat} {d : Da}, DqA K H vs ds → ds[i]? = some d → ∃ v, vs[i]? = some v ∧ Dq K H v d
  | _, _, _, _, .nil, e => by simp at e
  | _, _, 0, d, .cons h _, e => by
    have e' := Option.some.inj (show some _ = some d from e)
    subst e'
    exact ⟨_, rfl, h⟩
  | _, _, i + 1, d, .cons _ h, e => by
    obtain ⟨v, h1, h2⟩ := DqA.get (i := i) (d := d) h (by simpa using e)
    exact ⟨v, by simpa using h1, h2⟩
theorem DqA.get' : ∀ {vs : List V} {ds : List Da} {i : Nat} {v : V}, DqA K H vs ds → vs[i]? = some v → ∃ d, ds[i]? = some d ∧ Dq K H v d
  | _, _, _, _, .nil, e => by simp at e
  | _, _, 0, d, .cons h _, e => by
    have e' := Option.some.inj (show some _ = some d from e)
    subst e'
    exact ⟨_, rfl, h⟩
  | _, _, i + 1, d, .cons _ h, e => by
    obtain ⟨v, h1, h2⟩ := DqA.get' (i := i) (v := d) h (by simpa using e)
    exact ⟨v, by simpa using h1, h2⟩
theorem DqA.app : ∀ {vs ws : List V} {ds es : List Da}, DqA K H vs ds → DqA K H ws es → DqA K H (vs ++ ws) (ds ++ es)
  | _, _, _, _, .nil, h => h
  | _, _, _, _, .cons a b, h => .cons a (DqA.app b h)
theorem DqA.drop : ∀ {vs : List V} {ds : List Da} (n : Nat), DqA K H vs ds → DqA K H (vs.drop n) (ds.drop n)
  | _, _, 0, h => h
  | _, _, _ + 1, .nil => .nil
  | _, _, n + 1, .cons _ b => DqA.drop n b
theorem DqA.take : ∀ {vs : List V} {ds : List Da} (n : Nat), DqA K H vs ds → DqA K H (vs.take n) (ds.take n)
  | _, _, 0, _ => .nil
  | _, _, _ + 1, .nil => .nil
  | _, _, n + 1, .cons a b => .cons a (DqA.take n b)
theorem DqA.rev : ∀ {vs : List V} {ds : List Da}, DqA K H vs ds → DqA K H vs.reverse ds.reverse
  | _, _, .nil => .nil
  | _, _, .cons a b => by
    rw [List.reverse_cons, List.reverse_cons]
    exact DqA.app (DqA.rev b) (.cons a .nil)
theorem DqA.set : ∀ {vs : List V} {ds : List Da} {v : V} {d : Da} (j : Nat), DqA K H vs ds → Dq K H v d → DqA K H (vs.set j v) (ds.set j d)
  | _, _, _, _, _, .nil, _ => .nil
  | _, _, _, _, 0, .cons _ b, q => .cons q b
  | _, _, _, _, j + 1, .cons a b, q => .cons a (DqA.set j b q)
theorem DqA.rep {vs : List V} {ds : List Da} (h : DqA K H vs ds) : ∀ n : Nat, DqA K H (List.replicate n vs).flatten (List.replicate n ds).flatten
  | 0 => .nil
  | n + 1 => by
    rw [List.replicate_succ, List.replicate_succ, List.flatten_cons, List.flatten_cons]
    exact DqA.app h (DqA.rep h n)
theorem DqA.last {vs : List V} {ds : List Da} {v : V} {d : Da} (h : DqA K H vs ds) (q : Dq K H v d) : DqA K H (vs ++ [v]) (ds ++ [d]) := h.app (.cons q .nil)
end
/-- how atI goes over -/
theorem DqA.atI {K : PySem.W.Frag} {H : Hp} {vs : List V} {ds : List Da} {i : Int} {d : Da} (h : DqA K H vs ds) (e : L2.atI ds i = some d) : ∃ v, L2.atI vs i = some v ∧ Dq K H v d := by
  unfold L2.atI at e ⊢
  rw [h.len]
  cases q : ixN ds.length i with
  | none => rw [q] at e; cases e
  | some j =>
    rw [q] at e
    exact h.get (show ds[j]? = some d from e)

/-! ### what is frozen, what stands -/
structure Grow (F H F' H' : Hp) : Prop where
  f : Same F F'
  h : Same H H'
  s : Same F' H'
  n : ∀ a, F a = none → H a ≠ none → F' a = none
section
variable {F H F' H' F1 H1 F2 H2 F0 H0 : Hp} {p : Addr} {o : HO}
theorem same_new (h : H p = none) : Same H (upd H p o) := fun b x e => by
  rw [upd_ne (ne_of_none e h)]
  exact e
theorem Same.back (e : Same H H') (h : H' p = none) : H p = none := by
  cases q : H p with
  | none => rfl
  | some u =>
    rw [e _ _ q] at h
    cases h
theorem Grow.refl (h : Same F H) : Grow F H F H := ⟨Same.refl F, Same.refl H, h, fun _ q _ => q⟩
theorem Grow.trans (a : Grow F H F1 H1) (b : Grow F1 H1 F2 H2) : Grow F H F2 H2 :=
  ⟨a.f.trans b.f, a.h.trans b.h, b.s, fun x q r => b.n x (a.n x q r) fun z => r (Same.back a.h z)⟩
/-- a new thing, frozen at once -/
theorem Grow.new (s : Same F H) (h : H p = none) : Grow F H (upd F p o) (upd H p o) := by
  refine ⟨same_new (Same.back s h), same_new h, fun b x e => ?_, fun a q r => ?_⟩
  · by_cases hb : b = p
    · subst hb
      rw [upd_same] at e ⊢
      exact e
    · rw [upd_ne hb] at e ⊢
      exact s _ _ e
  · rw [upd_ne (fun z => r (by rw [z]; exact h))]
    exact q
/-- a new thing, own -/
theorem Grow.own (s : Same F H) (h : H p = none) : Grow F H F (upd H p o) :=
  ⟨Same.refl F, same_new h, s.trans (same_new h), fun _ q _ => q⟩
/-- an own thing changes -/
theorem Grow.mut (g : Grow F0 H0 F H) (h0 : H0 p = none) (hf : F p = none) : Grow F0 H0 F (upd H p o) := by
  refine ⟨g.f, fun b x e => ?_, fun b x e => ?_, g.n⟩
  · rw [upd_ne (ne_of_none e h0)]
    exact g.h _ _ e
  · rw [upd_ne (ne_of_none e hf)]
    exact g.s _ _ e
/-- an own thing is frozen -/
theorem Grow.frz (g : Grow F0 H0 F H) (h0 : H0 p = none) (hf : F p = none) (hh : H p = some o) : Grow F0 H0 (upd F p o) H := by
  refine ⟨g.f.trans (same_new hf), g.h, fun b x e => ?_, fun a q r => ?_⟩
  · by_cases hb : b = p
    · subst hb
      rw [upd_same] at e
      cases e
      exact hh
    · rw [upd_ne hb] at e
      exact g.s _ _ e
  · rw [upd_ne (fun z => r (by rw [z]; exact h0))]
    exact g.n a q r
/-- the frozen part is left as it was -/
theorem Grow.back (g : Grow F H F' H') : Grow F H F H' := ⟨Same.refl F, g.h, fun b x e => g.s _ _ (g.f _ _ e), fun _ q _ => q⟩
end

/-! ### the slots -/
inductive Sl where
  | un
  | d (x : Da)
  | l (xs : List Da)
  | m (xs : List Da)
abbrev Rho := List Sl
def Slot (K : PySem.W.Frag) (H0 F H : Hp) (o : Option V) : Sl → Prop
  | .un => True
  | .d x => ∃ v, o = some v ∧ Dq K F v x
  | .l xs => ∃ p vs, o = some (.ref p) ∧ F p = some (.lst vs) ∧ DqA K F vs xs
  | .m xs => ∃ p vs, o = some (.ref p) ∧ H0 p = none ∧ F p = none ∧ H p = some (.lst vs) ∧ DqA K F vs xs
structure Hs (K : PySem.W.Frag) (F0 H0 : Hp) (σ : L2.St) (F H : Hp) (ρ : Rho) : Prop where
  g : Grow F0 H0 F H
  len : σ.length = ρ.length
  at_ : ∀ (i : Nat) (r : Sl), ρ[i]? = some r → ∃ o, σ[i]? = some o ∧ Slot K H0 F H o r
  ne : ∀ (i j : Nat) (xs ys : List Da), i ≠ j → ρ[i]? = some (.m xs) → ρ[j]? = some (.m ys) → σ[i]? ≠ σ[j]?
section
variable {K : PySem.W.Frag} {F H F' H' F0 H0 : Hp} {σ : L2.St} {ρ : Rho} {o : Option V} {r : Sl}
theorem Slot.grow (x : Slot K H0 F H o r) (g : Grow F H F' H') : Slot K H0 F' H' o r := by
  cases r with
  | un => trivial
  | d x' =>
    obtain ⟨v, e, q⟩ := x
    exact ⟨v, e, Dq.mono g.f _ _ q⟩
  | l xs =>
    obtain ⟨p, vs, e, q, z⟩ := x
    exact ⟨p, vs, e, g.f _ _ q, DqA.mono g.f _ _ z⟩
  | m xs =>
    obtain ⟨p, vs, e, h0, hf, hh, z⟩ := x
    exact ⟨p, vs, e, h0, g.n p hf (by rw [hh]; exact fun z => nomatch z), g.h _ _ hh, DqA.mono g.f _ _ z⟩
theorem Hs.grow (E : Hs K F0 H0 σ F H ρ) (g : Grow F H F' H') : Hs K F0 H0 σ F' H' ρ :=
  ⟨E.g.trans g, E.len, fun i r h => let ⟨o, a, b⟩ := E.at_ i r h; ⟨o, a, b.grow g⟩, E.ne⟩
theorem Hs.s (E : Hs K F0 H0 σ F H ρ) : Same F H := E.g.s
theorem set_get {α : Type} {l : List α} {i j : Nat} {x y : α} (h : (l.set i x)[j]? = some y) : (j = i ∧ y = x ∧ i < l.length) ∨ (j ≠ i ∧ l[j]? = some y) := by
  rw [List.getElem?_set] at h
  by_cases e : i = j
  · rw [if_pos e] at h
    by_cases l' : i < l.length
    · rw [if_pos l'] at h
      exact .inl ⟨e.symm, (Option.some.inj h).symm, l'⟩
    · rw [if_neg l'] at h
      cases h
  · rw [if_neg e] at h
    exact .inr ⟨fun z => e z.symm, h⟩
/-- a slot that holds no own list is stored -/
theorem Hs.set (E : Hs K F0 H0 σ F H ρ) (i : Nat) {o : Option V} {r : Sl} (hr : Slot K H0 F H o r) (hm : ∀ xs, r ≠ .m xs) : Hs K F0 H0 (σ.set i o) F H (ρ.set i r) := by
  refine ⟨E.g, by rw [List.length_set, List.length_set]; exact E.len, fun j r' h => ?_, fun j k xs ys hjk h1 h2 => ?_⟩
  · rcases set_get h with ⟨rfl, rfl, hl⟩ | ⟨hne, h⟩
    · exact ⟨o, by rw [List.getElem?_set_self (by rw [E.len]; exact hl)], hr⟩
    · obtain ⟨o', a, b⟩ := E.at_ j r' h
      exact ⟨o', by rw [List.getElem?_set_ne (fun z => hne z.symm)]; exact a, b⟩
  · rcases set_get h1 with ⟨_, z, _⟩ | ⟨n1, h1⟩
    · exact absurd z.symm (hm xs)
    · rcases set_get h2 with ⟨_, z, _⟩ | ⟨n2, h2⟩
      · exact absurd z.symm (hm ys)
      · rw [List.getElem?_set_ne (fun z => n1 z.symm), List.getElem?_set_ne (fun z => n2 z.symm)]
        exact E.ne j k xs ys hjk h1 h2
/-- a new own list is stored -/
theorem Hs.setM (E : Hs K F0 H0 σ F H ρ) (i : Nat) {p : Addr} {vs : List V} {xs : List Da} (g : Grow F H F' H') (hp : H p = none) (hf : F' p = none) (hh : H' p = some (.lst vs)) (hd : DqA K F' vs xs) :
    Hs K F0 H0 (σ.set i (some (.ref p))) F' H' (ρ.set i (.m xs)) := by
  have E' := E.grow g
  have hown : ∀ (j : Nat) (zs : List Da), ρ[j]? = some (Sl.m zs) → σ[j]? ≠ some (some (V.ref p)) := fun j zs h z => by
    obtain ⟨o, a, q, ws, b, h0, h1, h2, _⟩ := E.at_ j _ h
    rw [a] at z
    have e1 : o = some (V.ref p) := Option.some.inj z
    rw [e1] at b
    have e2 : p = q := by
      have := Option.some.inj b
      injection this
    rw [← e2, hp] at h2
    cases h2
  refine ⟨E'.g, by rw [List.length_set, List.length_set]; exact E.len, fun j r' h => ?_, fun j k ys zs hjk h1 h2 => ?_⟩
  · rcases set_get h with ⟨rfl, rfl, hl⟩ | ⟨hne, h⟩
    · exact ⟨some (.ref p), by rw [List.getElem?_set_self (by rw [E.len]; exact hl)], p, vs, rfl, Same.back E.g.h hp, hf, hh, hd⟩
    · obtain ⟨o', a, b⟩ := E'.at_ j r' h
      exact ⟨o', by rw [List.getElem?_set_ne (fun z => hne z.symm)]; exact a, b⟩
  · rcases set_get h1 with ⟨e1, z1, l1⟩ | ⟨n1, h1⟩
    · rcases set_get h2 with ⟨e2, z2, _⟩ | ⟨n2, h2⟩
      · exact absurd (e1.trans e2.symm) hjk
      · rw [e1, List.getElem?_set_self (by rw [E.len]; exact l1), List.getElem?_set_ne (fun z => n2 z.symm)]
        exact fun z => hown k zs h2 z.symm
    · rcases set_get h2 with ⟨e2, z2, l2⟩ | ⟨n2, h2⟩
      · rw [e2, List.getElem?_set_self (by rw [E.len]; exact l2), List.getElem?_set_ne (fun z => n1 z.symm)]
        exact hown j ys h1
      · rw [List.getElem?_set_ne (fun z => n1 z.symm), List.getElem?_set_ne (fun z => n2 z.symm)]
        exact E.ne j k ys zs hjk h1 h2
/-- the own list in slot i changes -/
theorem Hs.chg (E : Hs K F0 H0 σ F H ρ) {i : Nat} {xs ys : List Da} {p : Addr} {vs ws : List V} (hi : ρ[i]? = some (.m xs)) (hp : σ[i]? = some (some (.ref p))) (hh : H p = some (.lst vs)) (hd : DqA K F ws ys) :
    Hs K F0 H0 σ F (upd H p (.lst ws)) (ρ.set i (.m ys)) := by
  obtain ⟨o, a, q, us, b, h0, hf, h2, _⟩ := E.at_ i _ hi
  have e2 : q = p := by
    rw [hp] at a
    have := Option.some.inj a
    rw [← this] at b
    have := Option.some.inj b
    injection this with z
    exact z.symm
  subst e2
  refine ⟨E.g.mut h0 hf, by rw [List.length_set]; exact E.len, fun j r' h => ?_, fun j k as bs hjk h1 h3 => ?_⟩
  · rcases set_get h with ⟨rfl, rfl, hl⟩ | ⟨hne, h⟩
    · exact ⟨_, hp, q, ws, rfl, h0, hf, upd_same, hd⟩
    · obtain ⟨o', a', b'⟩ := E.at_ j r' h
      refine ⟨o', a', ?_⟩
      cases r' with
      | un => trivial
      | d x => exact b'
      | l x => exact b'
      | m zs =>
        obtain ⟨p', vs', e', z0, zf, zh, zd⟩ := b'
        refine ⟨p', vs', e', z0, zf, ?_, zd⟩
        rw [upd_ne]
        · exact zh
        · intro z
          refine E.ne j i zs xs hne h hi ?_
          rw [a', e', z, hp]
  · have k1 : ∀ (j : Nat) (as : List Da), (ρ.set i (Sl.m ys))[j]? = some (Sl.m as) → ∃ as', ρ[j]? = some (Sl.m as') := fun j as h => by
      rcases set_get h with ⟨rfl, _, _⟩ | ⟨_, h⟩
      · exact ⟨xs, hi⟩
      · exact ⟨as, h⟩
    obtain ⟨a1, q1⟩ := k1 j as h1
    obtain ⟨b1, q2⟩ := k1 k bs h3
    exact E.ne j k a1 b1 hjk q1 q2
/-- less is known -/
theorem Hs.weak (E : Hs K F0 H0 σ F H ρ) {ρ' : Rho} (hl : ρ'.length = ρ.length) (h : ∀ (i : Nat) (r : Sl), ρ'[i]? = some r → r = .un ∨ ρ[i]? = some r) : Hs K F0 H0 σ F H ρ' := by
  refine ⟨E.g, by rw [hl]; exact E.len, fun i r hr => ?_, fun i j xs ys hij h1 h2 => ?_⟩
  · rcases h i r hr with rfl | hr'
    · have hi : i < ρ'.length := (List.getElem?_eq_some_iff.mp hr).1
      have hi' : i < σ.length := by rw [E.len, ← hl]; exact hi
      exact ⟨σ[i], List.getElem?_eq_getElem hi', trivial⟩
    · exact E.at_ i r hr'
  · rcases h i _ h1 with z | h1'
    · cases z
    · rcases h j _ h2 with z | h2'
      · cases z
      · exact E.ne i j xs ys hij h1' h2'
/-- the own list in slot i is frozen -/
theorem Hs.frz (E : Hs K F0 H0 σ F H ρ) {i : Nat} {xs : List Da} (hi : ρ[i]? = some (.m xs)) : ∃ p vs, σ[i]? = some (some (.ref p)) ∧ H p = some (.lst vs) ∧ F p = none ∧ H0 p = none ∧ DqA K F vs xs ∧
    Grow F0 H0 (upd F p (.lst vs)) H ∧ Hs K F0 H0 σ (upd F p (.lst vs)) H (ρ.set i (.l xs)) := by
  obtain ⟨o, a, p, vs, b, h0, hf, hh, hd⟩ := E.at_ i _ hi
  subst b
  have g := E.g.frz h0 hf hh
  have sf : Same F (upd F p (.lst vs)) := same_new hf
  refine ⟨p, vs, a, hh, hf, h0, hd, g, g, by rw [List.length_set]; exact E.len, fun j r h => ?_, fun j k as bs hjk h1 h2 => ?_⟩
  · rcases set_get h with ⟨rfl, rfl, hl⟩ | ⟨hne, h⟩
    · exact ⟨_, a, p, vs, rfl, upd_same, DqA.mono sf _ _ hd⟩
    · obtain ⟨o', a', b'⟩ := E.at_ j r h
      refine ⟨o', a', ?_⟩
      cases r with
      | un => trivial
      | d x =>
        obtain ⟨v, e, q⟩ := b'
        exact ⟨v, e, Dq.mono sf _ _ q⟩
      | l ys =>
        obtain ⟨q, ws, e, z, y⟩ := b'
        exact ⟨q, ws, e, sf _ _ z, DqA.mono sf _ _ y⟩
      | m zs =>
        obtain ⟨p', vs', e', z0, zf, zh, zd⟩ := b'
        refine ⟨p', vs', e', z0, ?_, zh, DqA.mono sf _ _ zd⟩
        rw [upd_ne]
        · exact zf
        · intro z
          refine E.ne j i zs xs hne h hi ?_
          rw [a', e', z, a]
  · rcases set_get h1 with ⟨_, z, _⟩ | ⟨_, h1⟩
    · cases z
    · rcases set_get h2 with ⟨_, z, _⟩ | ⟨_, h2⟩
      · cases z
      · exact E.ne j k as bs hjk h1 h2
theorem Hs.frzA (E : Hs K F0 H0 σ F H ρ) {i : Nat} {xs : List Da} (hi : ρ[i]? = some (.m xs)) : ∃ F', Same F F' ∧ Hs K F0 H0 σ F' H (ρ.set i (.l xs)) := by
  obtain ⟨p, vs, a, hh, hf, h0, hd, g, E'⟩ := E.frz hi
  exact ⟨_, same_new hf, E'⟩
end
end TR

/-! own layer: what a reading evaluates to, over the data of the slots -/
namespace TR
open PySem PySem.Spec PyProof.Rows L2

/-! ### == over data -/
mutual
def Da.py : Da → PyData
  | .non => .none
  | .bl b => .bool b
  | .int i => .int i
  | .str s => .str s
  | .lst xs => .list (Da.pys xs)
  | .tup xs => .tuple (Da.pys xs)
  | .emp => .dict []
  | .adr _ => .dict []
  | .ty _ => .dict []
def Da.pys : List Da → List PyData
  | [] => []
  | x :: xs => x.py :: Da.pys xs
end
theorem Da.pys_map : ∀ xs : List Da, Da.pys xs = xs.map Da.py
  | [] => by rw [Da.pys]; rfl
  | x :: xs => by rw [Da.pys, Da.pys_map xs]; rfl
/-- data of bounded depth that == may compare -/
def okD : Nat → Da → Prop
  | _, .non => True
  | _, .bl _ => True
  | _, .int _ => True
  | _, .str s => PyData.canLay0 (.str s) = true
  | 0, .lst _ => False
  | n + 1, .lst xs => ∀ x ∈ xs, okD n x
  | 0, .tup _ => False
  | n + 1, .tup xs => ∀ x ∈ xs, okD n x
  | _, .emp => False
  | _, .adr _ => False
  | _, .ty _ => False
theorem lay_all {xs : List PyData} : PyData.canLayAll0 xs = true ↔ ∀ x ∈ xs, x.canLay0 = true := by
  induction xs with
  | nil => simp [PyData.canLayAll0]
  | cons x xs ih => simp [PyData.canLayAll0, ih]
theorem depth_all {xs : List PyData} {n : Nat} (h : ∀ x ∈ xs, x.depth ≤ n) : PyData.depthAll xs ≤ n := by
  induction xs with
  | nil => simp [PyData.depthAll]
  | cons x xs ih =>
    have h1 := h x List.mem_cons_self
    have h2 := ih fun y hy => h y (List.mem_cons_of_mem _ hy)
    simp only [PyData.depthAll]
    omega
theorem okD_lay : ∀ (n : Nat) (d : Da), okD n d → d.py.canLay0 = true ∧ d.py.depth ≤ n + 1
  | n, .non, _ => ⟨by simp [Da.py, PyData.canLay0], by simp [Da.py, PyData.depth]⟩
  | n, .bl _, _ => ⟨by simp [Da.py, PyData.canLay0], by simp [Da.py, PyData.depth]⟩
  | n, .int _, _ => ⟨by simp [Da.py, PyData.canLay0], by simp [Da.py, PyData.depth]⟩
  | n, .str s, h => by
    have h' : PyData.canLay0 (.str s) = true := by cases n <;> exact h
    exact ⟨by simpa [Da.py] using h', by simp [Da.py, PyData.depth]⟩
  | 0, .lst _, h => h.elim
  | n + 1, .lst xs, h => by
    have h' : ∀ x ∈ xs, okD n x := h
    have k : ∀ y ∈ xs.map Da.py, y.canLay0 = true ∧ y.depth ≤ n + 1 := fun y hy => by
      obtain ⟨x, hx, e⟩ := List.mem_map.mp hy
      rw [← e]
      exact okD_lay n x (h' x hx)
    refine ⟨?_, ?_⟩
    · simp only [Da.py, Da.pys_map, PyData.canLay0]
      exact lay_all.mpr fun y hy => (k y hy).1
    · simp only [Da.py, Da.pys_map, PyData.depth]
      have := depth_all (n := n + 1) fun y hy => (k y hy).2
      omega
  | 0, .tup _, h => h.elim
  | n + 1, .tup xs, h => by
    have h' : ∀ x ∈ xs, okD n x := h
    have k : ∀ y ∈ xs.map Da.py, y.canLay0 = true ∧ y.depth ≤ n + 1 := fun y hy => by
      obtain ⟨x, hx, e⟩ := List.mem_map.mp hy
      rw [← e]
      exact okD_lay n x (h' x hx)
    refine ⟨?_, ?_⟩
    · simp only [Da.py, Da.pys_map, PyData.canLay0]
      exact lay_all.mpr fun y hy => (k y hy).1
    · simp only [Da.py, Da.pys_map, PyData.depth]
      have := depth_all (n := n + 1) fun y hy => (k y hy).2
      omega
  | n, .emp, h => by cases n <;> exact h.elim
  | n, .adr _, h => by cases n <;> exact h.elim
  | n, .ty _, h => by cases n <;> exact h.elim
theorem okD_shaped {n : Nat} {d : Da} (h : okD n d) (hn : n ≤ 60) : SeqAt.shaped d.py = true := by
  obtain ⟨h1, h2⟩ := okD_lay n d h
  unfold SeqAt.shaped
  rw [h1, decide_eq_true (by omega)]
  rfl
section
variable {K : PySem.W.Frag} {H : Hp}
theorem okD_dp : ∀ (n : Nat) (d : Da) (v : V), okD n d → Dq K H v d → Dp K H v d.py
  | n, .non, _, _, h => by
    cases h
    simp only [Da.py]
    exact .non
  | n, .bl _, _, _, h => by
    cases h
    simp only [Da.py]
    exact .bl _
  | n, .int _, _, _, h => by
    cases h
    simp only [Da.py]
    exact .int _
  | n, .str _, _, _, h => by
    cases h
    simp only [Da.py]
    exact .str _
  | 0, .lst _, _, h, _ => h.elim
  | n + 1, .lst xs, _, h, hq => by
    have h' : ∀ x ∈ xs, okD n x := h
    cases hq with
    | lst hs ha =>
      simp only [Da.py, Da.pys_map]
      refine .lst hs ?_
      have k : ∀ x v, x ∈ xs → Dq K H v x → Dp K H v x.py := fun x v hx hv => okD_dp n x v (h' x hx) hv
      clear h h' hs
      rename_i vs
      induction xs generalizing vs with
      | nil => cases ha; exact .nil
      | cons x xs ih =>
        cases ha with
        | cons a b => exact .cons (k x _ List.mem_cons_self a) (ih b fun y v hy hv => k y v (List.mem_cons_of_mem _ hy) hv)
  | 0, .tup _, _, h, _ => h.elim
  | n + 1, .tup xs, _, h, hq => by
    have h' : ∀ x ∈ xs, okD n x := h
    cases hq with
    | tup hs ha =>
      simp only [Da.py, Da.pys_map]
      refine .tup hs ?_
      have k : ∀ x v, x ∈ xs → Dq K H v x → Dp K H v x.py := fun x v hx hv => okD_dp n x v (h' x hx) hv
      clear h h' hs
      rename_i vs
      induction xs generalizing vs with
      | nil => cases ha; exact .nil
      | cons x xs ih =>
        cases ha with
        | cons a b => exact .cons (k x _ List.mem_cons_self a) (ih b fun y v hy hv => k y v (List.mem_cons_of_mem _ hy) hv)
  | n, .emp, _, h, _ => by cases n <;> exact h.elim
  | n, .adr _, _, h, _ => by cases n <;> exact h.elim
  | n, .ty _, _, h, _ => by cases n <;> exact h.elim
end
/-- == -/
def eqD (d e : Da) : Bool := PyData.eqv d.py e.py
/-- data without a truth value in it -/
def noB : Nat → Da → Prop
  | _, .non => True
  | _, .bl _ => False
  | _, .int _ => True
  | _, .str _ => True
  | 0, .lst _ => False
  | n + 1, .lst xs => ∀ x ∈ xs, noB n x
  | 0, .tup _ => False
  | n + 1, .tup xs => ∀ x ∈ xs, noB n x
  | _, .emp => False
  | _, .adr _ => False
  | _, .ty _ => False
theorem eqvAll_iff {xs ys : List PyData} (k : ∀ x ∈ xs, ∀ y ∈ ys, (PyData.eqv x y = true ↔ x = y)) : PyData.eqvAll xs ys = true ↔ xs = ys := by
  induction xs generalizing ys with
  | nil => cases ys <;> simp [PyData.eqvAll]
  | cons x xs ih =>
    cases ys with
    | nil => simp [PyData.eqvAll]
    | cons y ys =>
      simp only [PyData.eqvAll, Bool.and_eq_true, List.cons.injEq]
      rw [k x List.mem_cons_self y List.mem_cons_self, ih fun a ha b hb => k a (List.mem_cons_of_mem _ ha) b (List.mem_cons_of_mem _ hb)]
theorem eqv_self_list {xs : List PyData} (k : ∀ x ∈ xs, PyData.eqv x x = true) : PyData.eqvAll xs xs = true := by
  induction xs with
  | nil => simp [PyData.eqvAll]
  | cons x xs ih =>
    simp only [PyData.eqvAll, Bool.and_eq_true]
    exact ⟨k x List.mem_cons_self, ih fun y hy => k y (List.mem_cons_of_mem _ hy)⟩
theorem py_inj_all {xs ys : List Da} (k : ∀ x ∈ xs, ∀ y ∈ ys, x.py = y.py → x = y) (h : xs.map Da.py = ys.map Da.py) : xs = ys := by
  induction xs generalizing ys with
  | nil =>
    cases ys with
    | nil => rfl
    | cons y ys => cases h
  | cons x xs ih =>
    cases ys with
    | nil => cases h
    | cons y ys =>
      rw [List.map_cons, List.map_cons, List.cons.injEq] at h
      rw [k x List.mem_cons_self y List.mem_cons_self h.1, ih (fun a ha b hb => k a (List.mem_cons_of_mem _ ha) b (List.mem_cons_of_mem _ hb)) h.2]
theorem noB_py : ∀ (n : Nat) (d e : Da), noB n d → noB n e → d.py = e.py → d = e
  | n, d, e, hd, he, h => by
    induction n generalizing d e with
    | zero => cases d <;> cases e <;> simp only [noB, Da.py] at hd he h <;> first | rfl | (cases h; rfl) | cases h | exact hd.elim | exact he.elim
    | succ n ih =>
      cases d <;> cases e <;> simp only [noB, Da.py] at hd he h <;> first
        | rfl
        | (rename_i xs ys
           rw [Da.pys_map, Da.pys_map] at h
           injection h with h
           rw [py_inj_all (fun x hx y hy => ih x y (hd x hx) (he y hy)) h])
        | (cases h; rfl)
        | cases h
        | exact hd.elim
        | exact he.elim
theorem eqD_iff : ∀ (n : Nat) (d e : Da), noB n d → noB n e → (eqD d e = true ↔ d = e) := by
  have key : ∀ (n : Nat) (d e : Da), noB n d → noB n e → (PyData.eqv d.py e.py = true ↔ d.py = e.py) := by
    intro n
    induction n with
    | zero => intro d e hd he; cases d <;> cases e <;> simp only [noB] at hd he <;> simp [Da.py, PyData.eqv] <;> first | exact hd.elim | exact he.elim | skip
    | succ n ih =>
      intro d e hd he
      cases d <;> cases e <;> simp only [noB] at hd he <;> first
        | (rename_i xs ys
           simp only [Da.py, Da.pys_map, PyData.eqv, PyData.list.injEq, PyData.tuple.injEq]
           refine eqvAll_iff fun x hx y hy => ?_
           obtain ⟨a, ha, rfl⟩ := List.mem_map.mp hx
           obtain ⟨b, hb, rfl⟩ := List.mem_map.mp hy
           exact ih a b (hd a ha) (he b hb))
        | (simp [Da.py, PyData.eqv]; done)
        | exact hd.elim
        | exact he.elim
  intro n d e hd he
  unfold eqD
  rw [key n d e hd he]
  exact ⟨noB_py n d e hd he, fun h => by rw [h]⟩
end TR

/-! own layer: expressions over the data of the slots -/
namespace TR
open PySem PySem.Spec PyProof.Rows L2

section
variable (K : PySem.W.Frag)
/-- frozen data comes -/
def EvF (te : TE) (ρ : Rho) (x : Da) : Prop := ∀ F0 H0 σ F H, Hs K F0 H0 σ F H ρ → ∀ Q : VK, (∀ v F' H', Grow F H F' H' → Dq K F' v x → Q v H') → te σ H Q
/-- a new list comes -/
def EvN (te : TE) (ρ : Rho) (xs : List Da) : Prop := ∀ F0 H0 σ F H, Hs K F0 H0 σ F H ρ → ∀ Q : VK, (∀ p vs F' H', Grow F H F' H' → H p = none → F' p = none → H' p = some (.lst vs) → DqA K F' vs xs → Q (.ref p) H') → te σ H Q
/-- a list that stands in the heap -/
def EvP (te : TE) (ρ : Rho) (xs : List Da) : Prop := ∀ F0 H0 σ F H, Hs K F0 H0 σ F H ρ → ∀ Q : VK, (∀ p vs F' H', Grow F H F' H' → H' p = some (.lst vs) → DqA K F' vs xs → Q (.ref p) H') → te σ H Q
/-- a list that may be read now -/
def EvM (te : TE) (ρ : Rho) (xs : List Da) : Prop := ∀ F0 H0 σ F H, Hs K F0 H0 σ F H ρ → ∀ Q : VK, (∀ p vs F' H', Grow F H F' H' → SqL K H' p vs → DqA K F' vs xs → Q (.ref p) H') → te σ H Q
/-- data as it stands now -/
def EvD (te : TE) (ρ : Rho) (x : Da) : Prop := ∀ F0 H0 σ F H, Hs K F0 H0 σ F H ρ → ∀ Q : VK, (∀ v F' H', Grow F H F' H' → Dq K H' v x → Q v H') → te σ H Q
def EvA (ta : TA) (ρ : Rho) (xs : List Da) : Prop := ∀ F0 H0 σ F H, Hs K F0 H0 σ F H ρ → ∀ Q : List V → Hp → Prop, (∀ vs F' H', Grow F H F' H' → DqA K F' vs xs → Q vs H') → ta σ H Q
def EvT (tt : TT) (ρ : Rho) (b : Bool) : Prop := ∀ F0 H0 σ F H, Hs K F0 H0 σ F H ρ → ∀ Q : Bool → Hp → Prop, (∀ F' H', Grow F H F' H' → Q b H') → tt σ H Q
def EvO (to : TO) (ρ : Rho) (o : Option Int) : Prop := ∀ F0 H0 σ F H, Hs K F0 H0 σ F H ρ → ∀ Q : Option Int → Hp → Prop, (∀ F' H', Grow F H F' H' → Q o H') → to σ H Q
end
section
variable {K : PySem.W.Frag} {ρ : Rho} {te ta tb tx : TE} {tr : TA} {t u : TT} {x y z : Da} {xs ys zs : List Da} {i : Nat}
theorem EvN.f (h : EvN K te ρ xs) : EvF K te ρ (.lst xs) := fun F0 H0 σ F H E Q q => h F0 H0 σ F H E Q fun p vs F' H' g hp hf hh hd =>
  q (.ref p) (upd F' p (.lst vs)) H' (g.frz hp hf hh) (.lst (.inl (.inl upd_same)) (DqA.mono (same_new hf) _ _ hd))
theorem EvN.p (h : EvN K te ρ xs) : EvP K te ρ xs := fun F0 H0 σ F H E Q q => h F0 H0 σ F H E Q fun p vs F' H' g _ _ hh hd => q p vs F' H' g hh hd
theorem EvP.m (h : EvP K te ρ xs) : EvM K te ρ xs := fun F0 H0 σ F H E Q q => h F0 H0 σ F H E Q fun p vs F' H' g hh hd => q p vs F' H' g (.inl (.inl hh)) hd
theorem EvF.m (h : EvF K te ρ (.lst xs)) : EvM K te ρ xs := fun F0 H0 σ F H E Q q => h F0 H0 σ F H E Q fun v F' H' g hd => by
  cases hd with
  | lst hs ha => exact q _ _ F' H' g (g.s.seq hs) ha
theorem EvF.now (h : EvF K te ρ x) : EvD K te ρ x := fun F0 H0 σ F H E Q q => h F0 H0 σ F H E Q fun v F' H' g hd => q v F' H' g (Dq.mono g.s _ _ hd)
theorem EvM.now (h : EvM K te ρ xs) : EvD K te ρ (.lst xs) := fun F0 H0 σ F H E Q q => h F0 H0 σ F H E Q fun p vs F' H' g hs hd => q _ F' H' g (.lst hs (DqA.mono g.s _ _ hd))
theorem EvF.is (h : EvF K te ρ x) (e : x = y) : EvF K te ρ y := e ▸ h
theorem EvN.is (h : EvN K te ρ xs) (e : xs = ys) : EvN K te ρ ys := e ▸ h
theorem EvT.is {a b : Bool} (h : EvT K t ρ a) (e : a = b) : EvT K t ρ b := e ▸ h

/-! ### names, constants -/
theorem ef_var (h : ρ[i]? = some (.d x)) : EvF K (tVar i) ρ x := fun F0 H0 σ F H E Q q => by
  obtain ⟨o, a, v, e, hd⟩ := E.at_ i _ h
  subst e
  exact ⟨v, a, q v F H (Grow.refl E.s) hd⟩
theorem ef_varl (h : ρ[i]? = some (.l xs)) : EvF K (tVar i) ρ (.lst xs) := fun F0 H0 σ F H E Q q => by
  obtain ⟨o, a, p, vs, e, hf, hd⟩ := E.at_ i _ h
  subst e
  exact ⟨_, a, q _ F H (Grow.refl E.s) (.lst (.inl (.inl hf)) hd)⟩
theorem ep_varl (h : ρ[i]? = some (.l xs)) : EvP K (tVar i) ρ xs := fun F0 H0 σ F H E Q q => by
  obtain ⟨o, a, p, vs, e, hf, hd⟩ := E.at_ i _ h
  subst e
  exact ⟨_, a, q p vs F H (Grow.refl E.s) (E.s _ _ hf) hd⟩
theorem ep_varm (h : ρ[i]? = some (.m xs)) : EvP K (tVar i) ρ xs := fun F0 H0 σ F H E Q q => by
  obtain ⟨o, a, p, vs, e, h0, hf, hh, hd⟩ := E.at_ i _ h
  subst e
  exact ⟨_, a, q p vs F H (Grow.refl E.s) hh hd⟩
theorem ef_c {v : V} (h : ∀ F, Dq K F v x) : EvF K (tC v) ρ x := fun F0 H0 σ F H E Q q => q v F H (Grow.refl E.s) (h F)
theorem ef_int {n : Int} : EvF K (tC (.int n)) ρ (.int n) := ef_c fun _ => .int _
theorem ef_str {n : Str} : EvF K (tC (.str n)) ρ (.str n) := ef_c fun _ => .str _
theorem ef_bl {n : Bool} : EvF K (tC (.bl n)) ρ (.bl n) := ef_c fun _ => .bl _
theorem ef_non : EvF K (tC .non) ρ .non := ef_c fun _ => .non
theorem ef_ty {n : String} : EvF K (tC (.ty n)) ρ (.ty n) := ef_c fun _ => .ty _
theorem ef_adr {a : Addr} : EvF K (tC (.ref a)) ρ (.adr a) := ef_c fun _ => .adr _

/-! ### two in a row, by what the operation does with data -/
/-- data as it stands now on both sides -/
def RvD (K : PySem.W.Frag) (r : R2) (x y z : Da) : Prop := ∀ (v u : V) (H : Hp) (Q : VK), Dq K H v x → Dq K H u y → (∀ w, (∀ F, Dq K F w z) → Q w H) → r v u H Q
/-- frozen data on both sides -/
def RvF (K : PySem.W.Frag) (r : R2) (x y z : Da) : Prop := ∀ (v u : V) (F H : Hp) (Q : VK), Same F H → Dq K F v x → Dq K F u y → (∀ w F' H', Grow F H F' H' → Dq K F' w z → Q w H') → r v u H Q
/-- a list to be read, frozen data -/
def RvM (K : PySem.W.Frag) (r : R2) (xs : List Da) (y z : Da) : Prop := ∀ (p : Addr) (vs : List V) (u : V) (F H : Hp) (Q : VK), Same F H → SqL K H p vs → DqA K F vs xs → Dq K F u y → (∀ w, Dq K F w z → Q w H) → r (.ref p) u H Q
/-- two lists, a new one -/
def RvP (K : PySem.W.Frag) (r : R2) (xs ys zs : List Da) : Prop := ∀ (p q : Addr) (vs us : List V) (F H : Hp) (Q : VK), Same F H → H p = some (.lst vs) → H q = some (.lst us) → DqA K F vs xs → DqA K F us ys →
  (∀ b ws, H b = none → DqA K F ws zs → Q (.ref b) (upd H b (.lst ws))) → r (.ref p) (.ref q) H Q
/-- a list and an int, a new list -/
def RvR (K : PySem.W.Frag) (r : R2) (xs : List Da) (n : Int) (zs : List Da) : Prop := ∀ (p : Addr) (vs : List V) (F H : Hp) (Q : VK), Same F H → H p = some (.lst vs) → DqA K F vs xs →
  (∀ b ws, H b = none → DqA K F ws zs → Q (.ref b) (upd H b (.lst ws))) → r (.ref p) (.int n) H Q
section
variable {r r' : R2} {n : Int}
theorem RvD.ll (h : RvD K r x y z) : RvD K (fun x y H Q => r x y H Q ∨ r' x y H Q) x y z := fun v u H Q a b c => .inl (h v u H Q a b c)
theorem RvD.rr (h : RvD K r' x y z) : RvD K (fun x y H Q => r x y H Q ∨ r' x y H Q) x y z := fun v u H Q a b c => .inr (h v u H Q a b c)
theorem RvF.ll (h : RvF K r x y z) : RvF K (fun x y H Q => r x y H Q ∨ r' x y H Q) x y z := fun v u F H Q s a b c => .inl (h v u F H Q s a b c)
theorem RvF.rr (h : RvF K r' x y z) : RvF K (fun x y H Q => r x y H Q ∨ r' x y H Q) x y z := fun v u F H Q s a b c => .inr (h v u F H Q s a b c)
theorem RvM.ll (h : RvM K r xs y z) : RvM K (fun x y H Q => r x y H Q ∨ r' x y H Q) xs y z := fun p vs u F H Q s a b c d => .inl (h p vs u F H Q s a b c d)
theorem RvM.rr (h : RvM K r' xs y z) : RvM K (fun x y H Q => r x y H Q ∨ r' x y H Q) xs y z := fun p vs u F H Q s a b c d => .inr (h p vs u F H Q s a b c d)
theorem RvP.ll (h : RvP K r xs ys zs) : RvP K (fun x y H Q => r x y H Q ∨ r' x y H Q) xs ys zs := fun p q vs us F H Q s a b c d e => .inl (h p q vs us F H Q s a b c d e)
theorem RvP.rr (h : RvP K r' xs ys zs) : RvP K (fun x y H Q => r x y H Q ∨ r' x y H Q) xs ys zs := fun p q vs us F H Q s a b c d e => .inr (h p q vs us F H Q s a b c d e)
theorem RvR.ll (h : RvR K r xs n zs) : RvR K (fun x y H Q => r x y H Q ∨ r' x y H Q) xs n zs := fun p vs F H Q s a b c => .inl (h p vs F H Q s a b c)
theorem RvR.rr (h : RvR K r' xs n zs) : RvR K (fun x y H Q => r x y H Q ∨ r' x y H Q) xs n zs := fun p vs F H Q s a b c => .inr (h p vs F H Q s a b c)
/-- scalar data lie in no heap -/
theorem ef_binD (ha : EvD K ta ρ x) (hb : EvD K tb ρ y) (hr : RvD K r x y z) : EvF K (tOp r ta tb) ρ z :=
  fun F0 H0 σ F H E Q q => ha F0 H0 σ F H E _ fun v F1 H1 g1 hv => hb F0 H0 σ F1 H1 (E.grow g1) _ fun u F2 H2 g2 hu =>
    hr v u H2 Q (Dq.mono g2.h _ _ hv) hu fun w hw => q w F2 H2 (g1.trans g2) (hw F2)
theorem ef_binF (ha : EvF K ta ρ x) (hb : EvF K tb ρ y) (hr : RvF K r x y z) : EvF K (tOp r ta tb) ρ z :=
  fun F0 H0 σ F H E Q q => ha F0 H0 σ F H E _ fun v F1 H1 g1 hv => hb F0 H0 σ F1 H1 (E.grow g1) _ fun u F2 H2 g2 hu =>
    hr v u F2 H2 Q g2.s (Dq.mono g2.f _ _ hv) hu fun w F3 H3 g3 hw => q w F3 H3 ((g1.trans g2).trans g3) hw
theorem ef_binM (ha : EvM K ta ρ xs) (hb : EvF K tb ρ y) (hr : RvM K r xs y z) : EvF K (tOp r ta tb) ρ z :=
  fun F0 H0 σ F H E Q q => ha F0 H0 σ F H E _ fun p vs F1 H1 g1 hs hv => hb F0 H0 σ F1 H1 (E.grow g1) _ fun u F2 H2 g2 hu =>
    hr p vs u F2 H2 Q g2.s (g2.h.seq hs) (DqA.mono g2.f _ _ hv) hu fun w hw => q w F2 H2 (g1.trans g2) hw
theorem en_binP (ha : EvP K ta ρ xs) (hb : EvP K tb ρ ys) (hr : RvP K r xs ys zs) : EvN K (tOp r ta tb) ρ zs :=
  fun F0 H0 σ F H E Q k => ha F0 H0 σ F H E _ fun p vs F1 H1 g1 hp hv => hb F0 H0 σ F1 H1 (E.grow g1) _ fun q us F2 H2 g2 hq hu =>
    hr p q vs us F2 H2 Q g2.s (g2.h _ _ hp) hq (DqA.mono g2.f _ _ hv) hu fun b ws hb hw =>
      k b ws F2 _ ((g1.trans g2).trans (Grow.own g2.s hb)) (Same.back (g1.trans g2).h hb) (Same.back g2.s hb) upd_same hw
theorem en_binR (ha : EvP K ta ρ xs) (hb : EvF K tb ρ (.int n)) (hr : RvR K r xs n zs) : EvN K (tOp r ta tb) ρ zs :=
  fun F0 H0 σ F H E Q k => ha F0 H0 σ F H E _ fun p vs F1 H1 g1 hp hv => hb F0 H0 σ F1 H1 (E.grow g1) _ fun u F2 H2 g2 hu => by
    cases hu
    exact hr p vs F2 H2 Q g2.s (g2.h _ _ hp) (DqA.mono g2.f _ _ hv) fun b ws hb hw =>
      k b ws F2 _ ((g1.trans g2).trans (Grow.own g2.s hb)) (Same.back (g1.trans g2).h hb) (Same.back g2.s hb) upd_same hw

/-! the operations -/
theorem rv_int2 {f : Int → Int → Int} {a b : Int} : RvD K (rI0 fun i j => .int (f i j)) (.int a) (.int b) (.int (f a b)) := fun v u H Q hv hu q => by
  cases hv
  cases hu
  exact ⟨a, b, rfl, rfl, q _ fun _ => .int _⟩
theorem rv_cmp2 {f : Int → Int → Bool} {a b : Int} : RvD K (rI0 fun i j => .bl (f i j)) (.int a) (.int b) (.bl (f a b)) := fun v u H Q hv hu q => by
  cases hv
  cases hu
  exact ⟨a, b, rfl, rfl, q _ fun _ => .bl _⟩
theorem rv_intC {C : Int → Int → Prop} {f : Int → Int → Int} {a b : Int} (hc : C a b) : RvD K (rI C fun i j => .int (f i j)) (.int a) (.int b) (.int (f a b)) := fun v u H Q hv hu q => by
  cases hv
  cases hu
  exact ⟨a, b, rfl, rfl, hc, q _ fun _ => .int _⟩
theorem rv_eqI {a b : Int} : RvD K rEq (.int a) (.int b) (.bl (decide (a = b))) := fun v u H Q hv hu q => by
  cases hv
  cases hu
  have e : decide (V.int a = V.int b) = decide (a = b) := by simp
  exact ⟨rfl, by rw [e]; exact q _ fun _ => .bl _⟩
theorem rv_neI {a b : Int} : RvD K rNe (.int a) (.int b) (.bl (!decide (a = b))) := fun v u H Q hv hu q => by
  cases hv
  cases hu
  have e : decide (V.int a = V.int b) = decide (a = b) := by simp
  exact ⟨rfl, by rw [e]; exact q _ fun _ => .bl _⟩
theorem rv_eqS {a b : Str} : RvD K rEq (.str a) (.str b) (.bl (decide (a = b))) := fun v u H Q hv hu q => by
  cases hv
  cases hu
  have e : decide (V.str a = V.str b) = decide (a = b) := by simp
  exact ⟨rfl, by rw [e]; exact q _ fun _ => .bl _⟩
theorem rv_neS {a b : Str} : RvD K rNe (.str a) (.str b) (.bl (!decide (a = b))) := fun v u H Q hv hu q => by
  cases hv
  cases hu
  have e : decide (V.str a = V.str b) = decide (a = b) := by simp
  exact ⟨rfl, by rw [e]; exact q _ fun _ => .bl _⟩
theorem rv_eqB {a b : Bool} : RvD K rEq (.bl a) (.bl b) (.bl (decide (a = b))) := fun v u H Q hv hu q => by
  cases hv
  cases hu
  have e : decide (V.bl a = V.bl b) = decide (a = b) := by simp
  exact ⟨rfl, by rw [e]; exact q _ fun _ => .bl _⟩
theorem rv_neB {a b : Bool} : RvD K rNe (.bl a) (.bl b) (.bl (!decide (a = b))) := fun v u H Q hv hu q => by
  cases hv
  cases hu
  have e : decide (V.bl a = V.bl b) = decide (a = b) := by simp
  exact ⟨rfl, by rw [e]; exact q _ fun _ => .bl _⟩
theorem rv_eqD (n m : Nat) (hx : okD n x) (hy : okD m y) (hn : n ≤ 60) (hm : m ≤ 60) : RvD K (rEqD K) x y (.bl (eqD x y)) := fun v u H Q hv hu q =>
  ⟨_, _, okD_dp n _ _ hx hv, okD_dp m _ _ hy hu, okD_shaped hx hn, okD_shaped hy hm, q _ fun _ => .bl _⟩
theorem rv_neD (n m : Nat) (hx : okD n x) (hy : okD m y) (hn : n ≤ 60) (hm : m ≤ 60) : RvD K (rNeD K) x y (.bl (!eqD x y)) := fun v u H Q hv hu q =>
  ⟨_, _, okD_dp n _ _ hx hv, okD_dp m _ _ hy hu, okD_shaped hx hn, okD_shaped hy hm, q _ fun _ => .bl _⟩
theorem any_py (xs : List Da) (x : Da) : (Da.pys xs).any (fun z => PyData.eqv z x.py) = xs.any fun z => eqD z x := by
  rw [Da.pys_map, List.any_map]
  rfl
theorem rv_inD (n m : Nat) (hx : okD n x) (hy : okD m (.lst xs)) (hn : n ≤ 60) (hm : m ≤ 60) : RvD K (rInD K) x (.lst xs) (.bl (xs.any fun z => eqD z x)) := fun v u H Q hv hu q => by
  have h1 := okD_dp m _ _ hy hu
  have h2 := okD_shaped hy hm
  simp only [Da.py] at h1 h2
  refine ⟨_, _, okD_dp n _ _ hx hv, h1, okD_shaped hx hn, h2, ?_⟩
  rw [any_py]
  exact q _ fun _ => .bl _
theorem rv_niD (n m : Nat) (hx : okD n x) (hy : okD m (.lst xs)) (hn : n ≤ 60) (hm : m ≤ 60) : RvD K (rNotInD K) x (.lst xs) (.bl (!xs.any fun z => eqD z x)) := fun v u H Q hv hu q => by
  have h1 := okD_dp m _ _ hy hu
  have h2 := okD_shaped hy hm
  simp only [Da.py] at h1 h2
  refine ⟨_, _, okD_dp n _ _ hx hv, h1, okD_shaped hx hn, h2, ?_⟩
  rw [any_py]
  exact q _ fun _ => .bl _
theorem rm_ixL {a : Int} (h : atI xs a = some z) : RvM K (rIxL K) xs (.int a) z := fun p vs u F H Q s hs hv hu q => by
  cases hu
  obtain ⟨v, h1, h2⟩ := hv.atI h
  exact ⟨p, vs, a, v, rfl, rfl, hs, h1, q _ h2⟩
theorem rf_ixT {a : Int} (h : atI xs a = some z) : RvF K (rIxT K) (.tup xs) (.int a) z := fun v u F H Q s hv hu q => by
  cases hu
  cases hv with
  | tup hs ha =>
    obtain ⟨v, h1, h2⟩ := ha.atI h
    exact ⟨_, _, a, v, rfl, rfl, same_t s hs, h1, q _ F H (Grow.refl s) h2⟩
theorem rf_ixS {a : Int} {w : Str} {c : Nat} (hl : w.length ≤ sizeLine) (h : atI w.cps.toList a = some c) : RvF K rIxS (.str w) (.int a) (.str ⟨#[c]⟩) := fun v u F H Q s hv hu q => by
  cases hu
  cases hv
  exact ⟨w, a, c, rfl, rfl, hl, h, q _ F H (Grow.refl s) (.str _)⟩
theorem rm_ix {a : Int} (h : atI xs a = some z) : RvM K (rIx K) xs (.int a) z := fun p vs u F H Q s hs hv hu q => .inl (rm_ixL h p vs u F H Q s hs hv hu q)
theorem rf_ix {a : Int} (h : atI xs a = some z) : RvF K (rIx K) (.tup xs) (.int a) z := fun v u F H Q s hv hu q => .inr (.inl (rf_ixT h v u F H Q s hv hu q))
theorem rf_ixs {a : Int} {w : Str} {c : Nat} (hl : w.length ≤ sizeLine) (h : atI w.cps.toList a = some c) : RvF K (rIx K) (.str w) (.int a) (.str ⟨#[c]⟩) := fun v u F H Q s hv hu q => .inr (.inr (rf_ixS hl h v u F H Q s hv hu q))
theorem rp_cat (h : xs.length + ys.length ≤ 1000000) : RvP K rCat xs ys (xs ++ ys) := fun p q vs us F H Q s hp hq hv hu k =>
  ⟨p, q, vs, us, rfl, rfl, hp, hq, by rw [hv.len, hu.len]; exact Nat.le_trans h (by decide), fun b hb => k b _ hb (hv.app hu)⟩
theorem rr_rep (h : xs.length * n.toNat ≤ 1000000) (h0 : -1000000 ≤ n) (h1 : n ≤ 1000000) : RvR K rRep xs n (List.replicate n.toNat xs).flatten := fun p vs F H Q s hp hv k =>
  ⟨p, n, vs, rfl, rfl, hp, by omega, by omega, by rw [hv.len]; exact Nat.le_trans h (by decide), fun b hb => k b _ hb (hv.rep n.toNat)⟩
end
/-! ### one -/
theorem ef_neg {a : Int} (ha : EvF K ta ρ (.int a)) : EvF K (tUn (rU fun i => .int (-i)) ta) ρ (.int (-a)) := fun F0 H0 σ F H E Q q => ha F0 H0 σ F H E _ fun v F1 H1 g1 hv => by
  cases hv
  exact ⟨a, rfl, q _ F1 H1 g1 (.int _)⟩
/-! ### argument lists, displays -/
theorem ea_nil : EvA K tNil ρ [] := fun F0 H0 σ F H E Q q => q [] F H (Grow.refl E.s) .nil
theorem ea_cons (h : EvF K te ρ x) (hr : EvA K tr ρ xs) : EvA K (tCons te tr) ρ (x :: xs) := fun F0 H0 σ F H E Q q =>
  h F0 H0 σ F H E _ fun v F1 H1 g1 hv => hr F0 H0 σ F1 H1 (E.grow g1) _ fun vs F2 H2 g2 hvs => q (v :: vs) F2 H2 (g1.trans g2) (.cons (Dq.mono g2.f _ _ hv) hvs)
theorem ef_tup (h : EvA K tr ρ xs) (hl : xs.length ≤ 1000000) : EvF K (tTup tr) ρ (.tup xs) := fun F0 H0 σ F H E Q q => h F0 H0 σ F H E _ fun vs F1 H1 g1 hv =>
  ⟨by rw [hv.len]; exact Nat.le_trans hl (by decide), fun p hp => q _ (upd F1 p (.tup vs)) _ (g1.trans (Grow.new g1.s hp)) (.tup (.inl (.inl upd_same)) (DqA.mono (same_new (Same.back g1.s hp)) _ _ hv))⟩
theorem en_lst (h : EvA K tr ρ xs) (hl : xs.length ≤ 1000000) : EvN K (tLst tr) ρ xs := fun F0 H0 σ F H E Q q => h F0 H0 σ F H E _ fun vs F1 H1 g1 hv =>
  ⟨by rw [hv.len]; exact Nat.le_trans hl (by decide), fun p hp => q p vs F1 _ (g1.trans (Grow.own g1.s hp)) (Same.back g1.h hp) (Same.back g1.s hp) upd_same hv⟩
/-! ### truth -/
theorem et_val {b : Bool} (h : EvF K te ρ (.bl b)) : EvT K (tB te) ρ b := fun F0 H0 σ F H E Q q => h F0 H0 σ F H E _ fun v F1 H1 g1 hv => by
  cases hv
  exact ⟨b, rfl, q F1 H1 g1⟩
theorem et_test {b : Bool} (h : EvF K te ρ (.bl b)) : EvT K (tTest te) ρ b := fun F0 H0 σ F H E Q q => h F0 H0 σ F H E _ fun v F1 H1 g1 hv => by
  cases hv
  exact ⟨b, rfl, q F1 H1 g1⟩
theorem et_and {a b : Bool} (h1 : EvT K t ρ a) (h2 : a = true → EvT K u ρ b) : EvT K (tAnd t u) ρ (a && b) := fun F0 H0 σ F H E Q q => h1 F0 H0 σ F H E _ fun F1 H1 g1 => by
  cases a with
  | true => exact h2 rfl F0 H0 σ F1 H1 (E.grow g1) Q fun F2 H2 g2 => q F2 H2 (g1.trans g2)
  | false => exact q F1 H1 g1
theorem et_or {a b : Bool} (h1 : EvT K t ρ a) (h2 : a = false → EvT K u ρ b) : EvT K (tOr t u) ρ (a || b) := fun F0 H0 σ F H E Q q => h1 F0 H0 σ F H E _ fun F1 H1 g1 => by
  cases a with
  | true => exact q F1 H1 g1
  | false => exact h2 rfl F0 H0 σ F1 H1 (E.grow g1) Q fun F2 H2 g2 => q F2 H2 (g1.trans g2)
theorem et_not {a : Bool} (h1 : EvT K t ρ a) : EvT K (tNot t) ρ (!a) := fun F0 H0 σ F H E Q q => h1 F0 H0 σ F H E _ fun F1 H1 g1 => q F1 H1 g1
theorem et_yes : EvT K tYes ρ true := fun F0 H0 σ F H E Q q => q F H (Grow.refl E.s)
theorem ef_andV {a b : Bool} (h1 : EvF K ta ρ (.bl a)) (h2 : a = true → EvF K tb ρ (.bl b)) : EvF K (tAndV ta tb) ρ (.bl (a && b)) := fun F0 H0 σ F H E Q q => h1 F0 H0 σ F H E _ fun v F1 H1 g1 hv => by
  cases hv
  refine ⟨a, rfl, ?_⟩
  cases a with
  | true => exact h2 rfl F0 H0 σ F1 H1 (E.grow g1) Q fun w F2 H2 g2 hw => q w F2 H2 (g1.trans g2) hw
  | false => exact q _ F1 H1 g1 (.bl _)
theorem ef_orV {a b : Bool} (h1 : EvF K ta ρ (.bl a)) (h2 : a = false → EvF K tb ρ (.bl b)) : EvF K (tOrV ta tb) ρ (.bl (a || b)) := fun F0 H0 σ F H E Q q => h1 F0 H0 σ F H E _ fun v F1 H1 g1 hv => by
  cases hv
  refine ⟨a, rfl, ?_⟩
  cases a with
  | true => exact q _ F1 H1 g1 (.bl _)
  | false => exact h2 rfl F0 H0 σ F1 H1 (E.grow g1) Q fun w F2 H2 g2 hw => q w F2 H2 (g1.trans g2) hw
theorem ef_notV {a : Bool} (h1 : EvF K ta ρ (.bl a)) : EvF K (tNotV ta) ρ (.bl (!a)) := fun F0 H0 σ F H E Q q => h1 F0 H0 σ F H E _ fun v F1 H1 g1 hv => by
  cases hv
  exact ⟨a, rfl, q _ F1 H1 g1 (.bl _)⟩
theorem ef_if {b : Bool} (h : EvT K t ρ b) (h1 : b = true → EvF K ta ρ x) (h2 : b = false → EvF K tb ρ x) : EvF K (tIf t ta tb) ρ x := fun F0 H0 σ F H E Q q => h F0 H0 σ F H E _ fun F1 H1 g1 => by
  cases b with
  | true => exact h1 rfl F0 H0 σ F1 H1 (E.grow g1) Q fun w F2 H2 g2 hw => q w F2 H2 (g1.trans g2) hw
  | false => exact h2 rfl F0 H0 σ F1 H1 (E.grow g1) Q fun w F2 H2 g2 hw => q w F2 H2 (g1.trans g2) hw
theorem ef_ifb {b : Bool} (h : EvT K t ρ b) (h1 : b = true → EvF K ta ρ x) (h2 : b = false → EvF K tb ρ y) : EvF K (tIf t ta tb) ρ (if b = true then x else y) := ef_if h (fun e => by rw [if_pos e]; exact h1 e) (fun e => by rw [if_neg (by rw [e]; exact Bool.false_ne_true)]; exact h2 e)
theorem en_if {b : Bool} (h : EvT K t ρ b) (h1 : b = true → EvN K ta ρ xs) (h2 : b = false → EvN K tb ρ xs) : EvN K (tIf t ta tb) ρ xs := fun F0 H0 σ F H E Q q => h F0 H0 σ F H E _ fun F1 H1 g1 => by
  cases b with
  | true => exact h1 rfl F0 H0 σ F1 H1 (E.grow g1) Q fun p vs F2 H2 g2 hp hf hh hd => q p vs F2 H2 (g1.trans g2) (Same.back g1.h hp) hf hh hd
  | false => exact h2 rfl F0 H0 σ F1 H1 (E.grow g1) Q fun p vs F2 H2 g2 hp hf hh hd => q p vs F2 H2 (g1.trans g2) (Same.back g1.h hp) hf hh hd
/-- a < b < c -/
theorem ef_chain {r r' : R2} {a b : Bool} (ha : EvF K ta ρ x) (hb : EvF K tb ρ y) (hr : RvD K r x y (.bl a)) (hc : a = true → EvF K tx ρ z) (hr' : a = true → RvD K r' y z (.bl b)) : EvF K (tChain r r' ta tb tx) ρ (.bl (a && b)) :=
  fun F0 H0 σ F H E Q q => ha F0 H0 σ F H E _ fun v F1 H1 g1 hv => hb F0 H0 σ F1 H1 (E.grow g1) _ fun u F2 H2 g2 hu =>
    hr v u H2 _ (Dq.mono g2.s _ _ (Dq.mono g2.f _ _ hv)) (Dq.mono g2.s _ _ hu) fun w hw => by
      have hw' := hw F2
      cases hw'
      refine ⟨a, rfl, ?_⟩
      cases a with
      | true =>
        exact hc rfl F0 H0 σ F2 H2 ((E.grow g1).grow g2) _ fun s F3 H3 g3 hs => hr' rfl u s H3 _ (Dq.mono g3.s _ _ (Dq.mono g3.f _ _ hu)) (Dq.mono g3.s _ _ hs) fun w' hw' => q _ F3 H3 ((g1.trans g2).trans g3) (hw' F3)
      | false => exact q _ F2 H2 (g1.trans g2) (.bl _)
/-! ### slices -/
theorem eo_none : EvO K tNoPart ρ none := fun F0 H0 σ F H E Q q => q F H (Grow.refl E.s)
theorem eo_some {n : Int} (h : EvF K te ρ (.int n)) : EvO K (tPart te) ρ (some n) := fun F0 H0 σ F H E Q q => h F0 H0 σ F H E _ fun v F1 H1 g1 hv => by
  cases hv
  exact ⟨n, rfl, q F1 H1 g1⟩
def cutD {α : Type} (xs : List α) (lo hi : Option Int) : List α := (xs.drop (HT.sIx xs.length 0 lo)).take (HT.sIx xs.length xs.length hi - HT.sIx xs.length 0 lo)
theorem en_sl {tl th : TO} {lo hi : Option Int} (h : EvM K te ρ xs) (hl : EvO K tl ρ lo) (hh : EvO K th ρ hi) : EvN K (tSl (rSlL K) te tl th) ρ (cutD xs lo hi) := fun F0 H0 σ F H E Q q =>
  h F0 H0 σ F H E _ fun p vs F1 H1 g1 hs hv => hl F0 H0 σ F1 H1 (E.grow g1) _ fun F2 H2 g2 => hh F0 H0 σ F2 H2 ((E.grow g1).grow g2) _ fun F3 H3 g3 =>
    ⟨p, vs, rfl, g3.h.seq (g2.h.seq hs), fun b hb => q b _ F3 _ (((g1.trans g2).trans g3).trans (Grow.own g3.s hb)) (Same.back ((g1.trans g2).trans g3).h hb) (Same.back g3.s hb) upd_same (by
      have e := hv.len
      unfold cutV cutD
      rw [e]
      exact ((DqA.mono g3.f _ _ (DqA.mono g2.f _ _ hv)).drop _).take _)⟩
theorem en_rev (h : EvM K te ρ xs) : EvN K (tRevL K te) ρ xs.reverse := fun F0 H0 σ F H E Q q =>
  h F0 H0 σ F H E _ fun p vs F1 H1 g1 hs hv => ⟨p, vs, rfl, hs, fun b hb => q b _ F1 _ (g1.trans (Grow.own g1.s hb)) (Same.back g1.h hb) (Same.back g1.s hb) upd_same hv.rev⟩
theorem ef_slS {tl th : TO} {lo hi : Option Int} {w : Str} (h : EvF K te ρ (.str w)) (hl : EvO K tl ρ lo) (hh : EvO K th ρ hi) (hw : w.length ≤ sizeLine) : EvF K (tSl rSlS te tl th) ρ (.str (cutS w lo hi)) := fun F0 H0 σ F H E Q q =>
  h F0 H0 σ F H E _ fun v F1 H1 g1 hv => hl F0 H0 σ F1 H1 (E.grow g1) _ fun F2 H2 g2 => hh F0 H0 σ F2 H2 ((E.grow g1).grow g2) _ fun F3 H3 g3 => by
    cases hv
    exact ⟨w, rfl, hw, q _ F3 H3 ((g1.trans g2).trans g3) (.str _)⟩
/-! ### scalar results leave the own lists as they are -/
def Scal : Da → Prop
  | .non => True
  | .bl _ => True
  | .int _ => True
  | .str _ => True
  | _ => False
theorem Scal.any {F F' : Hp} {v : V} (s : Scal x) (h : Dq K F v x) : Dq K F' v x := by
  cases x with
  | non => cases h; exact .non
  | bl b => cases h; exact .bl b
  | int n => cases h; exact .int n
  | str w => cases h; exact .str w
  | _ => exact s.elim
/-- for a scalar an own list may be taken as frozen -/
theorem ef_tmp {x : Da} (hi : ρ[i]? = some (.m xs)) (s : Scal x) (h : EvF K te (ρ.set i (.l xs)) x) : EvF K te ρ x := fun F0 H0 σ F H E Q q => by
  obtain ⟨F', sf, E'⟩ := E.frzA hi
  refine h F0 H0 σ F' H E' Q fun v F2 H2 g hv => ?_
  refine q v F H2 ⟨Same.refl F, g.h, fun b o e => g.s _ _ (g.f _ _ (sf _ _ e)), fun _ z _ => z⟩ (s.any hv)
theorem et_tmp {b : Bool} (hi : ρ[i]? = some (.m xs)) (h : EvT K t (ρ.set i (.l xs)) b) : EvT K t ρ b := fun F0 H0 σ F H E Q q => by
  obtain ⟨F', sf, E'⟩ := E.frzA hi
  refine h F0 H0 σ F' H E' Q fun F2 H2 g => ?_
  exact q F H2 ⟨Same.refl F, g.h, fun b o e => g.s _ _ (g.f _ _ (sf _ _ e)), fun _ z _ => z⟩
end
end TR

/-! own layer: calls, statements over the data of the slots -/
namespace TR
open PySem PySem.Spec PyProof.Rows L2

/-! ### how a def ends -/
inductive Out where
  | f (x : Da)
  | n (xs : List Da)
  | e (C : Addr)
def Give (K : PySem.W.Frag) (F H : Hp) : Out → VK → XK → Prop
  | .f x, Q, _ => ∀ v F' H', Grow F H F' H' → Dq K F' v x → Q v H'
  | .n xs, Q, _ => ∀ p vs F' H', Grow F H F' H' → H p = none → F' p = none → H' p = some (.lst vs) → DqA K F' vs xs → Q (.ref p) H'
  | .e C, _, E => ∀ H', Same H H' → E (.ref C) none H'
/-- the promise: from data to an end -/
def spD (K : PySem.W.Frag) (Gr : List Da → Out → Prop) : Sp := fun vs H Q E => ∃ F ds r, Same F H ∧ DqA K F vs ds ∧ Gr ds r ∧ Give K F H r Q E
structure Cal (P : Program) (w : World) (K : PySem.W.Frag) (mg : Str → Option Value) (base : Heap) (k : Nat) (x : Str) (ps : List Str) (Gr : List Da → Out → Prop) : Prop where
  ex : ∃ f fd, FnOk P w K mg base (L2N.CX P w) k f fd ps (spD K Gr) ∧ mg x = some (.ref f) ∧ PySem.W.keepIn K (.ref f) = true ∧ Binds K fd ps []
theorem Cal.imp {P : Program} {w : World} {K : PySem.W.Frag} {mg : Str → Option Value} {base : Heap} {k : Nat} {x : Str} {ps : List Str} {Gr Gr' : List Da → Out → Prop} (C : Cal P w K mg base k x ps Gr) (h : ∀ ds r, Gr' ds r → Gr ds r) : Cal P w K mg base k x ps Gr' := by
  obtain ⟨f, fd, F, a, b, c⟩ := C.ex
  exact ⟨f, fd, F.imp fun vs H Q E ⟨F1, ds, r, a, b, c, d⟩ => ⟨F1, ds, r, a, b, h _ _ c, d⟩, a, b, c⟩
/-- what a call lets out is taken -/
abbrev Lets (X : Cx) (E : XK) : Prop := Passes (L2N.CX X.prog X.w) X E
section
variable {X : Cx} {k : Nat} {x : Str} {ps : List Str} {Gr : List Da → Out → Prop} {E : XK} {p pos : Pos} {e : Expr} {es : List Expr} {t : TA}
theorem pe_cal {P : Program} {w : World} {K : PySem.W.Frag} {mg : Str → Option Value} {base : Heap} (C : Cal P w K mg base k x ps Gr) (hX : X.prog = P ∧ X.w = w ∧ X.K = K ∧ X.mg = mg ∧ X.base = base) (hr : Room k X.A) (hg : Gl X x) (hx : Lets X E) (ha : PA X (e :: es) t) (hdb : (x == ("__debug__" : Str)) = false := by decide)
    (he : starEach (e :: es) X.env = (false, eval e X.env) :: starEach es X.env := by rfl) (hpl : (backTo pos (starEach es X.env)).any (·.1) = false := by rfl) : PE X (.Call (.Name x p) (e :: es) [] pos) (tCall (spD K Gr) [] E t) := by
  obtain ⟨rfl, rfl, rfl, rfl, rfl⟩ := hX
  obtain ⟨f, fd, F, hm, hk, hb⟩ := C.ex
  exact pe_call F hr hg hm hk hb .nil hx ha hdb he hpl
end
section
variable {K : PySem.W.Frag} {ρ : Rho} {te ta tb tx : TE} {tr : TA} {t u : TT} {x y z : Da} {xs ys zs ds : List Da} {i : Nat} {E : XK} {Gr : List Da → Out → Prop}
/-- an exception comes -/
def EvX (K : PySem.W.Frag) (E : XK) (te : TE) (ρ : Rho) (C : Addr) : Prop := ∀ F0 H0 σ F H, Hs K F0 H0 σ F H ρ → (∀ H', Same H H' → E (.ref C) none H') → ∀ Q : VK, te σ H Q
theorem ef_call (ha : EvA K tr ρ ds) (hG : Gr ds (.f z)) : EvF K (tCall (spD K Gr) [] E tr) ρ z := fun F0 H0 σ F H E' Q q => ha F0 H0 σ F H E' _ fun vs F1 H1 g1 hv =>
  ⟨F1, ds, .f z, g1.s, by rw [List.append_nil]; exact hv, hG, fun v F2 H2 g2 hd => q v F2 H2 (g1.trans g2) hd⟩
theorem en_call (ha : EvA K tr ρ ds) (hG : Gr ds (.n zs)) : EvN K (tCall (spD K Gr) [] E tr) ρ zs := fun F0 H0 σ F H E' Q q => ha F0 H0 σ F H E' _ fun vs F1 H1 g1 hv =>
  ⟨F1, ds, .n zs, g1.s, by rw [List.append_nil]; exact hv, hG, fun p us F2 H2 g2 hp hf hh hd => q p us F2 H2 (g1.trans g2) (Same.back g1.h hp) hf hh hd⟩
theorem ex_call {C : Addr} (ha : EvA K tr ρ ds) (hG : Gr ds (.e C)) : EvX K E (tCall (spD K Gr) [] E tr) ρ C := fun F0 H0 σ F H E' hE Q => ha F0 H0 σ F H E' _ fun vs F1 H1 g1 hv =>
  ⟨F1, ds, .e C, g1.s, by rw [List.append_nil]; exact hv, hG, fun H' s => hE H' (g1.h.trans s)⟩

/-! ### built-ins -/
theorem ef_lenM (h : EvM K te ρ xs) : EvF K (tCB (fun xs H Q => ∃ x n, xs = [x] ∧ LenV K x H n ∧ Q (.int n) H) (tCons te tNil)) ρ (.int xs.length) := fun F0 H0 σ F H E Q q => h F0 H0 σ F H E _ fun p vs F1 H1 g1 hs hd =>
  ⟨.ref p, xs.length, rfl, .inl ⟨vs, hs, hd.len.symm⟩, q _ F1 H1 g1 (.int _)⟩
theorem ef_lenT (h : EvF K te ρ (.tup xs)) : EvF K (tCB (fun xs H Q => ∃ x n, xs = [x] ∧ LenV K x H n ∧ Q (.int n) H) (tCons te tNil)) ρ (.int xs.length) := fun F0 H0 σ F H E Q q => h F0 H0 σ F H E _ fun v F1 H1 g1 hd => by
  cases hd with
  | tup hs ha => exact ⟨_, xs.length, rfl, .inr ⟨_, same_t g1.s hs, ha.len.symm⟩, q _ F1 H1 g1 (.int _)⟩
theorem ef_lenS {w : Str} (h : EvF K te ρ (.str w)) (hw : w.length ≤ sizeLine) : EvF K (tCB (fun xs H Q => ∃ x n, xs = [x] ∧ LenV K x H n ∧ Q (.int n) H) (tCons te tNil)) ρ (.int w.length) := fun F0 H0 σ F H E Q q => h F0 H0 σ F H E _ fun v F1 H1 g1 hd => by
  cases hd
  exact ⟨_, w.length, rfl, ⟨hw, rfl⟩, q _ F1 H1 g1 (.int _)⟩
theorem ef_abs {a : Int} (h : EvF K te ρ (.int a)) : EvF K (tCB (fun xs H Q => ∃ i, xs = [.int i] ∧ Q (.int (if i < 0 then -i else i)) H) (tCons te tNil)) ρ (.int (if a < 0 then -a else a)) := fun F0 H0 σ F H E Q q => h F0 H0 σ F H E _ fun v F1 H1 g1 hd => by
  cases hd
  exact ⟨a, rfl, q _ F1 H1 g1 (.int _)⟩
theorem ef_max {a b : Int} (h : EvA K tr ρ [.int a, .int b]) : EvF K (tCB (fun xs H Q => ∃ i j, xs = [.int i, .int j] ∧ Q (.int (if j > i then j else i)) H) tr) ρ (.int (if b > a then b else a)) := fun F0 H0 σ F H E Q q => h F0 H0 σ F H E _ fun v F1 H1 g1 hd => by
  cases hd with
  | cons h1 h2 => cases h2 with
    | cons h2 h3 =>
      cases h1
      cases h2
      cases h3
      exact ⟨a, b, rfl, q _ F1 H1 g1 (.int _)⟩
theorem ef_min {a b : Int} (h : EvA K tr ρ [.int a, .int b]) : EvF K (tCB (fun xs H Q => ∃ i j, xs = [.int i, .int j] ∧ Q (.int (if j < i then j else i)) H) tr) ρ (.int (if b < a then b else a)) := fun F0 H0 σ F H E Q q => h F0 H0 σ F H E _ fun v F1 H1 g1 hd => by
  cases hd with
  | cons h1 h2 => cases h2 with
    | cons h2 h3 =>
      cases h1
      cases h2
      cases h3
      exact ⟨a, b, rfl, q _ F1 H1 g1 (.int _)⟩
theorem en_list (h : EvM K te ρ xs) : EvN K (tCB (fun xs H Q => ∃ p ys, xs = [.ref p] ∧ (SqL K H p ys ∨ SqT K H p ys) ∧ ∀ l, H l = none → Q (.ref l) (upd H l (.lst ys))) (tCons te tNil)) ρ xs := fun F0 H0 σ F H E Q q => h F0 H0 σ F H E _ fun p vs F1 H1 g1 hs hd =>
  ⟨p, vs, rfl, .inl hs, fun b hb => q b vs F1 _ (g1.trans (Grow.own g1.s hb)) (Same.back g1.h hb) (Same.back g1.s hb) upd_same hd⟩
theorem dqa_bl {F : Hp} {vs : List V} : ∀ {bs : List Bool}, DqA K F vs (bs.map Da.bl) → vs = bs.map V.bl := by
  intro bs
  induction bs generalizing vs with
  | nil => intro h; cases h; rfl
  | cons b bs ih =>
    intro h
    cases h with
    | cons a c =>
      cases a
      rw [ih c]
      rfl
theorem dqa_int {F : Hp} {vs : List V} : ∀ {bs : List Int}, DqA K F vs (bs.map Da.int) → vs = bs.map V.int := by
  intro bs
  induction bs generalizing vs with
  | nil => intro h; cases h; rfl
  | cons b bs ih =>
    intro h
    cases h with
    | cons a c =>
      cases a
      rw [ih c]
      rfl
theorem dqa_str {F : Hp} {vs : List V} : ∀ {bs : List Str}, DqA K F vs (bs.map Da.str) → vs = bs.map V.str := by
  intro bs
  induction bs generalizing vs with
  | nil => intro h; cases h; rfl
  | cons b bs ih =>
    intro h
    cases h with
    | cons a c =>
      cases a
      rw [ih c]
      rfl
theorem ints_dqa (F : Hp) : ∀ bs : List Int, DqA K F (bs.map V.int) (bs.map Da.int)
  | [] => .nil
  | b :: bs => .cons (.int b) (ints_dqa F bs)
theorem ef_all {bs : List Bool} (h : EvM K te ρ (bs.map Da.bl)) : EvF K (tCB (rAll K) (tCons te tNil)) ρ (.bl (bs.all id)) := fun F0 H0 σ F H E Q q => h F0 H0 σ F H E _ fun p vs F1 H1 g1 hs hd => by
  have e := dqa_bl hd
  subst e
  exact ⟨p, bs, rfl, hs, q _ F1 H1 g1 (.bl _)⟩
theorem ef_any {bs : List Bool} (h : EvM K te ρ (bs.map Da.bl)) : EvF K (tCB (rAny K) (tCons te tNil)) ρ (.bl (bs.any id)) := fun F0 H0 σ F H E Q q => h F0 H0 σ F H E _ fun p vs F1 H1 g1 hs hd => by
  have e := dqa_bl hd
  subst e
  exact ⟨p, bs, rfl, hs, q _ F1 H1 g1 (.bl _)⟩
/-- the built-in class of a datum -/
def tyN : Da → String
  | .non => "NoneType"
  | .bl _ => "bool"
  | .int _ => "int"
  | .str _ => "str"
  | .lst _ => "list"
  | .tup _ => "tuple"
  | .emp => "dict"
  | .adr _ => ""
  | .ty _ => ""
def hasTy : Da → Prop
  | .adr _ => False
  | .ty _ => False
  | _ => True
theorem dq_ty {H : Hp} {v : V} (h : Dq K H v x) (ht : hasTy x) : TyX K H v (.type (tyN x)) := by
  cases x with
  | non => cases h; exact .base .non
  | bl b => cases h; exact .base (.bl b)
  | int n => cases h; exact .base (.int n)
  | str s => cases h; exact .base (.str s)
  | lst xs =>
    cases h with
    | lst hs _ =>
      rcases hs with (hs | ⟨o, hs⟩) | ⟨o, its, n, h1, h2, _⟩
      · exact .base (.lst hs)
      · exact .base (.frz hs)
      · exact .kList h1 h2
  | tup xs =>
    cases h with
    | tup hs _ =>
      rcases hs with (hs | ⟨o, hs⟩) | ⟨o, its, n, h1, h2, _⟩
      · exact .base (.tup hs)
      · exact .fTuple hs
      · exact .kTuple h1 h2
  | emp =>
    cases h with
    | emp hs => exact .base (.dK hs)
  | adr a => exact ht.elim
  | ty n => exact ht.elim
theorem ef_isi {T : String} {b : Bool} (h : EvD K te ρ x) (hT : EvF K tx ρ (.ty T)) (ht : hasTy x) (hb : kitB (tyN x) T = some b) : EvF K (tCB (rIsi K) (tCons te (tCons tx tNil))) ρ (.bl b) := fun F0 H0 σ F H E Q q =>
  h F0 H0 σ F H E _ fun v F1 H1 g1 hd => hT F0 H0 σ F1 H1 (E.grow g1) _ fun u F2 H2 g2 hu => by
    cases hu
    exact ⟨v, .ty T, .type (tyN x), .type T, b, rfl, .ty T, dq_ty (Dq.mono g2.h _ _ hd) ht, kit_ty hb, q _ F2 H2 (g1.trans g2) (.bl _)⟩
/-! ### what a for walks: n items, each known as data -/
def ItD (K : PySem.W.Frag) (F1 H1 : Hp) (J : It) (n : Nat) (item : Nat → Da) : Prop := ∀ i F H, Same F1 F → Same F H →
  (i < n → J.go i H ∧ ∀ v H', J.yld i H v H' → ∃ F', Grow F H F' H' ∧ Dq K F' v (item i)) ∧ (n ≤ i → J.stop i H)
def EvI (K : PySem.W.Frag) (wi : TI) (ρ : Rho) (n : Nat) (item : Nat → Da) : Prop := ∀ F0 H0 σ F H, Hs K F0 H0 σ F H ρ → ∀ R : It → Hp → Prop, (∀ J F' H', Grow F H F' H' → ItD K F' H' J n item → R J H') → wi σ H R
theorem atD {xs : List Da} {i : Nat} (h : i < xs.length) : xs[i]? = some (xs.getD i .non) := by
  rw [List.getD_eq_getElem?_getD, List.getElem?_eq_getElem h]
  rfl
theorem ei_list (h : EvF K te ρ (.lst xs)) : EvI K (iList K te) ρ xs.length (fun i => xs.getD i .non) := fun F0 H0 σ F H E R q => h F0 H0 σ F H E _ fun v F1 H1 g1 hd => by
  cases hd with
  | lst hs ha =>
    rename_i a vs
    refine ⟨a, rfl, ⟨vs, g1.s.seq hs⟩, q _ F1 H1 g1 fun i F2 H2 s1 s2 => ⟨fun hi => ?_, fun hi => ?_⟩⟩
    · obtain ⟨v, hv, hd⟩ := ha.get (atD hi)
      have hs2 := s2.seq (s1.seq hs)
      refine ⟨⟨vs, v, hs2, hv⟩, fun v' H' hy => ?_⟩
      obtain ⟨e, hy⟩ := hy
      subst e
      have e1 := Option.some.inj ((hy _ hs2).symm.trans hv)
      subst e1
      exact ⟨F2, Grow.refl s2, Dq.mono s1 _ _ hd⟩
    · exact ⟨vs, s2.seq (s1.seq hs), by rw [ha.len]; exact hi⟩
theorem ei_tup (h : EvF K te ρ (.tup xs)) : EvI K (iTup K te) ρ xs.length (fun i => xs.getD i .non) := fun F0 H0 σ F H E R q => h F0 H0 σ F H E _ fun v F1 H1 g1 hd => by
  cases hd with
  | tup hs ha =>
    rename_i a vs
    refine ⟨a, rfl, ⟨vs, same_t g1.s hs⟩, q _ F1 H1 g1 fun i F2 H2 s1 s2 => ⟨fun hi => ?_, fun hi => ?_⟩⟩
    · obtain ⟨v, hv, hd⟩ := ha.get (atD hi)
      have hs2 := same_t s2 (same_t s1 hs)
      refine ⟨⟨vs, v, hs2, hv⟩, fun v' H' hy => ?_⟩
      obtain ⟨e, hy⟩ := hy
      subst e
      have e1 := Option.some.inj ((hy _ hs2).symm.trans hv)
      subst e1
      exact ⟨F2, Grow.refl s2, Dq.mono s1 _ _ hd⟩
    · exact ⟨vs, same_t s2 (same_t s1 hs), by rw [ha.len]; exact hi⟩
theorem ei_rev (h : EvF K te ρ (.lst xs)) : EvI K (iRev K (tCons te tNil)) ρ xs.length (fun i => xs.reverse.getD i .non) := fun F0 H0 σ F H E R q => h F0 H0 σ F H E _ fun v F1 H1 g1 hd => by
  cases hd with
  | lst hs ha =>
    rename_i a vs
    refine ⟨a, vs, rfl, g1.s.seq hs, q _ F1 H1 g1 fun i F2 H2 s1 s2 => ⟨fun hi => ?_, fun hi => ?_⟩⟩
    · have hl := ha.len
      have hs2 := s2.seq (s1.seq hs)
      have hi' : i < xs.reverse.length := by rw [List.length_reverse]; exact hi
      obtain ⟨v, hv, hd⟩ := ha.rev.get (atD hi')
      rw [List.getElem?_reverse (by omega)] at hv
      refine ⟨⟨by omega, vs, v, hs2, hv⟩, fun v' H' hy => ?_⟩
      obtain ⟨e, hy⟩ := hy
      subst e
      have e1 := Option.some.inj ((hy _ hs2).symm.trans hv)
      subst e1
      exact ⟨F2, Grow.refl s2, Dq.mono s1 _ _ hd⟩
    · show vs.length ≤ i
      rw [ha.len]
      exact hi
theorem ei_rng {n : Nat} (h : EvF K te ρ (.int n)) (hn : n ≤ 1000000) : EvI K (iRng1 (tCons te tNil)) ρ n (fun i => .int i) := fun F0 H0 σ F H E R q => h F0 H0 σ F H E _ fun v F1 H1 g1 hd => by
  cases hd
  refine ⟨n, rfl, by omega, by omega, q _ F1 H1 g1 fun i F2 H2 s1 s2 => ⟨fun hi => ⟨by show i < Int.toNat _; omega, fun v H' hy => ?_⟩, fun hi => by show Int.toNat _ ≤ i; omega⟩⟩
  obtain ⟨e, hy⟩ := hy
  subst e
  subst hy
  refine ⟨F2, Grow.refl s2, ?_⟩
  rw [Int.zero_add]
  exact .int _
theorem ei_revR {n : Nat} (h : EvF K te ρ (.int n)) (hn : n ≤ 1000000) : EvI K (iRevR (tRg1 te)) ρ n (fun i => .int ((n : Int) - 1 - i)) := fun F0 H0 σ F H E R q => h F0 H0 σ F H E _ fun v F1 H1 g1 hd => by
  cases hd
  refine ⟨n, rfl, by omega, by omega, by omega, by omega, q _ F1 H1 g1 fun i F2 H2 s1 s2 => ⟨fun hi => ⟨by show i < Int.toNat _; omega, fun v H' hy => ?_⟩, fun hi => by show Int.toNat _ ≤ i; omega⟩⟩
  obtain ⟨e, hy⟩ := hy
  subst e
  subst hy
  refine ⟨F2, Grow.refl s2, ?_⟩
  have e : (0 : Int) + ((((n : Int) - 0).toNat : Nat) : Int) - 1 + (i : Nat) * (-1) = (n : Int) - 1 - i := by omega
  rw [e]
  exact .int _
theorem ei_rng3 {a b c : Int} {n : Nat} (h : EvA K tr ρ [.int a, .int b, .int c]) (hn : RgC a b c n) : EvI K (iRng3 tr) ρ n (fun i => .int (a + (i : Nat) * c)) := fun F0 H0 σ F H E R q => h F0 H0 σ F H E _ fun v F1 H1 g1 hd => by
  cases hd with
  | cons h1 hd => cases hd with
    | cons h2 hd => cases hd with
      | cons h3 hd =>
        cases hd
        cases h1
        cases h2
        cases h3
        refine ⟨a, b, c, n, rfl, hn, q _ F1 H1 g1 fun i F2 H2 s1 s2 => ⟨fun hi => ⟨hi, fun v H' hy => ?_⟩, fun hi => hi⟩⟩
        obtain ⟨e, hy⟩ := hy
        subst e
        subst hy
        exact ⟨F2, Grow.refl s2, .int _⟩
theorem ei_enum (h : EvF K te ρ (.lst xs)) : EvI K (iEnum K (tCons te tNil)) ρ xs.length (fun i => .tup [.int i, xs.getD i .non]) := fun F0 H0 σ F H E R q => h F0 H0 σ F H E _ fun v F1 H1 g1 hd => by
  cases hd with
  | lst hs ha =>
    rename_i a vs
    refine ⟨a, vs, rfl, g1.s.seq hs, q _ F1 H1 g1 fun i F2 H2 s1 s2 => ⟨fun hi => ?_, fun hi => ?_⟩⟩
    · obtain ⟨v, hv, hd⟩ := ha.get (atD hi)
      have hs2 := s2.seq (s1.seq hs)
      refine ⟨⟨vs, v, hs2, hv⟩, fun v' H' hy => ?_⟩
      obtain ⟨T, w, e1, hT, e2, hy⟩ := hy
      subst e1
      subst e2
      have e1 := Option.some.inj ((hy _ hs2).symm.trans hv)
      subst e1
      exact ⟨_, Grow.new s2 hT, .tup (.inl (.inl upd_same)) (.cons (.int _) (.cons (Dq.mono (s1.trans (same_new (Same.back s2 hT))) _ _ hd) .nil))⟩
    · exact ⟨vs, s2.seq (s1.seq hs), by rw [ha.len]; exact hi⟩
theorem ei_str {w : Str} (h : EvF K te ρ (.str w)) : EvI K (iStr te) ρ w.cps.size (fun i => .str ⟨#[w.cps.getD i 0]⟩) := fun F0 H0 σ F H E R q => h F0 H0 σ F H E _ fun v F1 H1 g1 hd => by
  cases hd
  refine ⟨w, rfl, q _ F1 H1 g1 fun i F2 H2 s1 s2 => ⟨fun hi => ⟨hi, fun v H' hy => ?_⟩, fun hi => hi⟩⟩
  obtain ⟨e, c, hc, hy⟩ := hy
  subst e
  subst hy
  refine ⟨F2, Grow.refl s2, ?_⟩
  have e : w.cps.getD i 0 = c := by
    rw [Array.getD_eq_getD_getElem?, hc]
    rfl
  show Dq K F2 (V.str ⟨#[c]⟩) (.str ⟨#[w.cps.getD i 0]⟩)
  rw [e]
  exact .str _
theorem Hs.setD {F0 H0 F H : Hp} {σ : L2.St} (E : Hs K F0 H0 σ F H ρ) (j : Nat) {v : V} (h : Dq K F v x) : Hs K F0 H0 (σ.set j (some v)) F H (ρ.set j (.d x)) :=
  E.set j (show Slot K H0 F H (some v) (.d x) from ⟨v, rfl, h⟩) fun _ z => by cases z
/-! ### targets -/
/-- the target takes x: what the slots then hold; js: the slots that it stores -/
def GoT (K : PySem.W.Frag) (g : TG) (x : Da) (js : List Nat) (f : Rho → Rho) : Prop := ∀ F0 H0 σ F H ρ v, Hs K F0 H0 σ F H ρ → Dq K F v x → ∀ Q : L2.St → Hp → Prop,
  (∀ σ', Hs K F0 H0 σ' F H (f ρ) → (∀ vs : List Nat, (∀ j ∈ js, j ∈ vs) → wipe σ' vs = wipe σ vs) → Q σ' H) → g v σ H Q
theorem set_wipe {σ : L2.St} {j : Nat} {o : Option V} : ∀ {vs : List Nat}, j ∈ vs → wipe (σ.set j o) vs = wipe σ vs
  | [], h => by cases h
  | w :: vs, h => by
    unfold wipe
    by_cases e : j ∈ vs
    · rw [set_wipe e]
    · rcases List.mem_cons.mp h with z | h
      · subst z
        clear h
        have k : ∀ (us : List Nat), j ∉ us → wipe (σ.set j o) us = (wipe σ us).set j o := by
          intro us hus
          induction us with
          | nil => rfl
          | cons u us ih =>
            unfold wipe
            rw [ih (fun z => hus (List.mem_cons_of_mem _ z)), List.set_comm _ _ (fun z => hus (by rw [z]; exact List.mem_cons_self))]
        rw [k vs e, List.set_set]
      · exact absurd h e
theorem go_name {j : Nat} : GoT K (gName j) x [j] (fun ρ => ρ.set j (.d x)) := fun F0 H0 σ F H ρ v E hd Q q =>
  q _ (E.setD j hd) fun vs h => set_wipe (h j (List.mem_singleton.mpr rfl))
theorem go_tup2 {j1 j2 : Nat} : GoT K (gTup K 2 (gCons (gName j1) (gCons (gName j2) gNil))) (.tup [x, y]) [j1, j2] (fun ρ => (ρ.set j1 (.d x)).set j2 (.d y)) := fun F0 H0 σ F H ρ v E hd Q q => by
  cases hd with
  | tup hs ha => cases ha with
    | cons a1 ha => cases ha with
      | cons a2 ha =>
        cases ha
        refine ⟨_, _, rfl, same_t E.s hs, rfl, _, _, rfl, _, _, rfl, rfl, ?_⟩
        exact q _ ((E.setD j1 a1).setD j2 a2) fun vs h => by
          rw [set_wipe (h j2 (by simp)), set_wipe (h j1 (by simp))]
theorem go_tup4 {x1 x2 x3 x4 : Da} {j1 j2 j3 j4 : Nat} : GoT K (gTup K 4 (gCons (gName j1) (gCons (gName j2) (gCons (gName j3) (gCons (gName j4) gNil))))) (.tup [x1, x2, x3, x4]) [j1, j2, j3, j4]
    (fun ρ => (((ρ.set j1 (.d x1)).set j2 (.d x2)).set j3 (.d x3)).set j4 (.d x4)) := fun F0 H0 σ F H ρ v E hd Q q => by
  cases hd with
  | tup hs ha => cases ha with
    | cons a1 ha => cases ha with
      | cons a2 ha => cases ha with
        | cons a3 ha => cases ha with
          | cons a4 ha =>
            cases ha
            refine ⟨_, _, rfl, same_t E.s hs, rfl, _, _, rfl, _, _, rfl, _, _, rfl, _, _, rfl, rfl, ?_⟩
            exact q _ ((((E.setD j1 a1).setD j2 a2).setD j3 a3).setD j4 a4) fun vs h => by
              rw [set_wipe (h j4 (by simp)), set_wipe (h j3 (by simp)), set_wipe (h j2 (by simp)), set_wipe (h j1 (by simp))]
theorem go_tup3 {x1 x2 x3 : Da} {j1 j2 j3 : Nat} : GoT K (gTup K 3 (gCons (gName j1) (gCons (gName j2) (gCons (gName j3) gNil)))) (.tup [x1, x2, x3]) [j1, j2, j3]
    (fun ρ => ((ρ.set j1 (.d x1)).set j2 (.d x2)).set j3 (.d x3)) := fun F0 H0 σ F H ρ v E hd Q q => by
  cases hd with
  | tup hs ha => cases ha with
    | cons a1 ha => cases ha with
      | cons a2 ha => cases ha with
        | cons a3 ha =>
          cases ha
          refine ⟨_, _, rfl, same_t E.s hs, rfl, _, _, rfl, _, _, rfl, _, _, rfl, rfl, ?_⟩
          exact q _ (((E.setD j1 a1).setD j2 a2).setD j3 a3) fun vs h => by
            rw [set_wipe (h j3 (by simp)), set_wipe (h j2 (by simp)), set_wipe (h j1 (by simp))]
/-! ### a list comprehension -/
def wipeR (ρ : Rho) : List Nat → Rho
  | [] => ρ
  | v :: vs => (wipeR ρ vs).set v .un
theorem Hs.wipe {F0 H0 F H : Hp} {σ : L2.St} (E : Hs K F0 H0 σ F H ρ) : ∀ vs : List Nat, Hs K F0 H0 (L2.wipe σ vs) F H (wipeR ρ vs)
  | [] => E
  | v :: vs => by
    unfold L2.wipe wipeR
    exact (E.wipe vs).set v trivial fun _ z => by cases z
theorem wipe_wipe (σ : L2.St) : ∀ vs : List Nat, wipe (wipe σ vs) vs = wipe σ vs := by
  have k : ∀ (us vs : List Nat), (∀ u ∈ us, u ∈ vs) → wipe (wipe σ us) vs = wipe σ vs := by
    intro us vs
    induction us with
    | nil => intro _; rfl
    | cons u us ih =>
      intro h
      rw [wipe.eq_2 σ u us, set_wipe (h u List.mem_cons_self)]
      exact ih fun w hw => h w (List.mem_cons_of_mem _ hw)
  exact fun vs => k vs vs fun _ h => h
theorem filter_range_succ {n : Nat} (f : Nat → Bool) (g : Nat → Da) : ((List.range (n + 1)).filter f).map g = ((List.range n).filter f).map g ++ (if f n = true then [g n] else []) := by
  rw [List.range_succ, List.filter_append, List.map_append]
  congr 1
  by_cases h : f n = true
  · simp [h]
  · simp [h]
theorem en_lc {wi : TI} {g : TG} {tt : TT} {vs js : List Nat} {n : Nat} {item : Nat → Da} {f : Nat → Rho → Rho} (keep : Nat → Bool) (out : Nat → Da) (hI : EvI K wi ρ n item) (hn : n ≤ 1000000) (hg : ∀ i, i < n → GoT K g (item i) js (f i)) (hj : ∀ j ∈ js, j ∈ vs)
    (ht : ∀ i, i < n → EvT K tt (f i (wipeR ρ vs)) (keep i)) (he : ∀ i, i < n → keep i = true → EvF K te (f i (wipeR ρ vs)) (out i)) : EvN K (tLc wi g tt te vs) ρ (((List.range n).filter keep).map out) := fun F0 H0 σ F H E Q q => by
  refine hI F0 H0 σ F H E _ fun J F1 H1 g1 hJ D hD => ?_
  have E1 := E.grow g1
  have fD : F1 D = none := Same.back g1.s hD
  refine ⟨fun i m Hc => m = n - i ∧ i ≤ n ∧ ∃ Fc ws, Grow F1 H1 Fc Hc ∧ Fc D = none ∧ Hc D = some (.lst ws) ∧ DqA K Fc ws (((List.range i).filter keep).map out), ⟨n, rfl, Nat.zero_le _, F1, [], Grow.own g1.s hD, fD, upd_same, .nil⟩, ?_⟩
  rintro i m Hc ⟨rfl, hi, Fc, ws, gc, fDc, hDc, hws⟩
  obtain ⟨j1, j2⟩ := hJ i Fc Hc gc.f gc.s
  by_cases hlt : i < n
  · obtain ⟨hgo, hyld⟩ := j1 hlt
    refine .inr ⟨hgo, fun H' => ∃ Fc' ws', Grow F1 H1 Fc' H' ∧ Fc' D = none ∧ H' D = some (.lst ws') ∧ DqA K Fc' ws' (((List.range (i + 1)).filter keep).map out), ?_, fun v H2 hy => ?_⟩
    · rintro H' ⟨Fc', ws', a, b, c, d⟩
      exact ⟨n - (i + 1), by omega, rfl, hlt, Fc', ws', a, b, c, d⟩
    · obtain ⟨F2, g2, hv⟩ := hyld v H2 hy
      have gc2 := gc.trans g2
      have E2 := (E1.grow gc2).wipe vs
      have nD2 : F2 D = none := g2.n D fDc (by rw [hDc]; exact fun z => nomatch z)
      have hD2 : H2 D = some (.lst ws) := g2.h _ _ hDc
      refine hg i hlt F0 H0 _ F2 H2 _ v E2 hv _ fun σ2 E3 hw => ⟨by rw [hw vs hj, wipe_wipe], ?_⟩
      refine ht i hlt F0 H0 σ2 F2 H2 E3 _ fun F3 H3 g3 => ?_
      have nD3 : F3 D = none := g3.n D nD2 (by rw [hD2]; exact fun z => nomatch z)
      have hD3 : H3 D = some (.lst ws) := g3.h _ _ hD2
      have hws3 := DqA.mono g3.f _ _ (DqA.mono g2.f _ _ hws)
      by_cases hk : keep i = true
      · rw [if_pos hk]
        refine he i hlt hk F0 H0 σ2 F3 H3 (E3.grow g3) _ fun y F4 H4 g4 hy4 => ?_
        have nD4 : F4 D = none := g4.n D nD3 (by rw [hD3]; exact fun z => nomatch z)
        refine ⟨ws, g4.h _ _ hD3, ?_, F4, ws ++ [y], (((gc2.trans g3).trans g4).mut hD nD4), nD4, upd_same, ?_⟩
        · have hl : ws.length ≤ i := by
            rw [hws.len, List.length_map]
            exact Nat.le_trans (List.length_filter_le _ _) (by rw [List.length_range]; exact Nat.le_refl _)
          have h1 : ws.length < 1000000 := by omega
          exact Nat.lt_of_lt_of_le h1 (by decide)
        · rw [filter_range_succ, if_pos hk]
          exact (DqA.mono g4.f _ _ hws3).last hy4
      · rw [if_neg hk]
        refine ⟨F3, ws, gc2.trans g3, nD3, hD3, ?_⟩
        rw [filter_range_succ, if_neg hk, List.append_nil]
        exact hws3
  · have e : i = n := by omega
    subst e
    exact .inl ⟨j2 (Nat.le_refl _), q D ws Fc Hc (g1.trans gc) (Same.back g1.h hD) fDc hDc hws⟩
end
end TR

/-! own layer: statements -/
namespace TR
open PySem PySem.Spec PyProof.Rows L2

/-- the ends of a statement, over data -/
structure DE where
  nx : Rho → Prop
  rt : Out → Prop
  bk : Rho → Prop := fun _ => False
  ct : Rho → Prop := fun _ => False
/-- from the slots ρ the statement reaches one of its ends -/
def EvS (K : PySem.W.Frag) (E : XK) (t : TS) (ρ : Rho) (D : DE) : Prop := ∀ F0 H0 σ F H, Hs K F0 H0 σ F H ρ → ∀ D' : Ends,
  (∀ σ' F' H' ρ', Hs K F0 H0 σ' F' H' ρ' → Same F F' → D.nx ρ' → D'.nx σ' H') → (∀ r, D.rt r → Give K F0 H0 r D'.rt E) →
  (∀ σ' F' H' ρ', Hs K F0 H0 σ' F' H' ρ' → Same F F' → D.bk ρ' → D'.bk σ' H') → (∀ σ' F' H' ρ', Hs K F0 H0 σ' F' H' ρ' → Same F F' → D.ct ρ' → D'.ct σ' H') → t D' σ H
section
variable {K : PySem.W.Frag} {ρ ρ' : Rho} {te ta tb tx : TE} {tr : TA} {tt : TT} {x y z : Da} {xs ys zs ds : List Da} {i j : Nat} {E : XK} {t u : TS} {D : DE}
theorem es_next (h : D.nx ρ) : EvS K E tNext ρ D := fun F0 H0 σ F H e D' a b c d => a σ F H ρ e (Same.refl F) h
theorem es_seq {M : Rho → Prop} (h : EvS K E t ρ { D with nx := M }) (k : ∀ ρ', M ρ' → EvS K E u ρ' D) : EvS K E (tSeq t u) ρ D := fun F0 H0 σ F H e D' a b c d =>
  h F0 H0 σ F H e { D' with nx := u D' } (fun σ1 F1 H1 ρ1 e1 s1 m => k ρ1 m F0 H0 σ1 F1 H1 e1 D' (fun σ2 F2 H2 ρ2 e2 s2 n => a σ2 F2 H2 ρ2 e2 (s1.trans s2) n) b (fun σ2 F2 H2 ρ2 e2 s2 n => c σ2 F2 H2 ρ2 e2 (s1.trans s2) n) (fun σ2 F2 H2 ρ2 e2 s2 n => d σ2 F2 H2 ρ2 e2 (s1.trans s2) n)) b c d
/-- one statement ahead of the others, its end known -/
theorem es_then (h : ∀ D0 : DE, D0.rt = D.rt → D0.bk = D.bk → D0.ct = D.ct → (EvS K E u ρ' D → D0.nx ρ') → EvS K E u ρ' D → EvS K E t ρ D0) (k : EvS K E u ρ' D) : EvS K E (tSeq t u) ρ D :=
  es_seq (M := fun r => EvS K E u r D) (h { D with nx := fun r => EvS K E u r D } rfl rfl rfl (fun q => q) k) fun _ q => q
theorem es_imp {D0 : DE} (h : EvS K E t ρ D0) (h1 : ∀ r, D0.nx r → D.nx r) (h2 : ∀ r, D0.rt r → D.rt r) (h3 : ∀ r, D0.bk r → D.bk r) (h4 : ∀ r, D0.ct r → D.ct r) : EvS K E t ρ D := fun F0 H0 σ F H e D' a b c d =>
  h F0 H0 σ F H e D' (fun σ1 F1 H1 ρ1 e1 s1 m => a σ1 F1 H1 ρ1 e1 s1 (h1 _ m)) (fun r m => b r (h2 _ m)) (fun σ1 F1 H1 ρ1 e1 s1 m => c σ1 F1 H1 ρ1 e1 s1 (h3 _ m)) (fun σ1 F1 H1 ρ1 e1 s1 m => d σ1 F1 H1 ρ1 e1 s1 (h4 _ m))
theorem es_weak (hl : ρ'.length = ρ.length) (hw : ∀ (i : Nat) (r : Sl), ρ'[i]? = some r → r = .un ∨ ρ[i]? = some r) (h : EvS K E t ρ' D) : EvS K E t ρ D := fun F0 H0 σ F H e D' a b c d => h F0 H0 σ F H (e.weak hl hw) D' a b c d
/-- the own list in slot i is frozen from here on -/
theorem es_frz (hi : ρ[i]? = some (.m xs)) (h : EvS K E t (ρ.set i (.l xs)) D) : EvS K E t ρ D := fun F0 H0 σ F H e D' a b c d => by
  obtain ⟨F', sf, e'⟩ := e.frzA hi
  exact h F0 H0 σ F' H e' D' (fun σ1 F1 H1 ρ1 e1 s1 m => a σ1 F1 H1 ρ1 e1 (sf.trans s1) m) b (fun σ1 F1 H1 ρ1 e1 s1 m => c σ1 F1 H1 ρ1 e1 (sf.trans s1) m) (fun σ1 F1 H1 ρ1 e1 s1 m => d σ1 F1 H1 ρ1 e1 (sf.trans s1) m)
theorem es_asg (h : EvF K te ρ x) (k : D.nx (ρ.set i (.d x))) : EvS K E (tAsg te (gName i)) ρ D := fun F0 H0 σ F H e D' a b c d => h F0 H0 σ F H e _ fun v F1 H1 g hv =>
  a _ F1 H1 _ ((e.grow g).setD i hv) g.f k
theorem es_asgN (h : EvN K te ρ xs) (k : D.nx (ρ.set i (.m xs))) : EvS K E (tAsg te (gName i)) ρ D := fun F0 H0 σ F H e D' a b c d => h F0 H0 σ F H e _ fun p vs F1 H1 g hp hf hh hd =>
  a _ F1 H1 _ (e.setM i g hp hf hh hd) g.f k
theorem es_asgL (h : EvN K te ρ xs) (k : D.nx (ρ.set i (.l xs))) : EvS K E (tAsg te (gName i)) ρ D := fun F0 H0 σ F H e D' a b c d => h F0 H0 σ F H e _ fun p vs F1 H1 g hp hf hh hd => by
  have g' : Grow F H (upd F1 p (.lst vs)) H1 := g.frz hp hf hh
  exact a _ _ H1 _ ((e.grow g').set i (show Slot K H0 (upd F1 p (.lst vs)) H1 (some (.ref p)) (.l xs) from ⟨p, vs, rfl, upd_same, DqA.mono (same_new hf) _ _ hd⟩) fun _ z => by cases z) g'.f k
theorem es_asgX {g : TG} {C : Addr} (h : EvX K E te ρ C) (k : D.rt (.e C)) : EvS K E (tAsg te g) ρ D := fun F0 H0 σ F H e D' a b c d => h F0 H0 σ F H e (fun H' s => b _ k H' (e.g.h.trans s)) _
theorem es_tup {g : TG} {js : List Nat} {f : Rho → Rho} (hg : GoT K g x js f) (h : EvF K te ρ x) (k : D.nx (f ρ)) : EvS K E (tAsg te g) ρ D := fun F0 H0 σ F H e D' a b c d => h F0 H0 σ F H e _ fun v F1 H1 gr hv =>
  hg F0 H0 σ F1 H1 ρ v (e.grow gr) hv _ fun σ' e' _ => a σ' F1 H1 _ e' gr.f k
theorem es_drop (h : EvF K te ρ x) (k : D.nx ρ) : EvS K E (tDrop te) ρ D := fun F0 H0 σ F H e D' a b c d => h F0 H0 σ F H e _ fun v F1 H1 g _ => a σ F1 H1 ρ (e.grow g) g.f k
theorem es_dropX {C : Addr} (h : EvX K E te ρ C) (k : D.rt (.e C)) : EvS K E (tDrop te) ρ D := fun F0 H0 σ F H e D' a b c d => h F0 H0 σ F H e (fun H' s => b _ k H' (e.g.h.trans s)) _
theorem es_ret (h : EvF K te ρ x) (k : D.rt (.f x)) : EvS K E (tRet te) ρ D := fun F0 H0 σ F H e D' a b c d => h F0 H0 σ F H e _ fun v F1 H1 g hv => b _ k v F1 H1 (e.g.trans g) hv
theorem es_retN (h : EvN K te ρ xs) (k : D.rt (.n xs)) : EvS K E (tRet te) ρ D := fun F0 H0 σ F H e D' a b c d => h F0 H0 σ F H e _ fun p vs F1 H1 g hp hf hh hd => b _ k p vs F1 H1 (e.g.trans g) (Same.back e.g.h hp) hf hh hd
theorem es_retM (hi : ρ[i]? = some (.m xs)) (k : D.rt (.n xs)) : EvS K E (tRet (tVar i)) ρ D := fun F0 H0 σ F H e D' a b c d => by
  obtain ⟨o, h1, p, vs, h2, h0, hf, hh, hd⟩ := e.at_ i _ hi
  subst h2
  exact ⟨_, h1, b _ k p vs F H e.g h0 hf hh hd⟩
theorem es_retX {C : Addr} (h : EvX K E te ρ C) (k : D.rt (.e C)) : EvS K E (tRet te) ρ D := fun F0 H0 σ F H e D' a b c d => h F0 H0 σ F H e (fun H' s => b _ k H' (e.g.h.trans s)) _
theorem es_retNon (k : D.rt (.f .non)) : EvS K E tRetN ρ D := fun F0 H0 σ F H e D' a b c d => b _ k .non F H e.g .non
theorem es_if {b : Bool} (h : EvT K tt ρ b) (h1 : b = true → EvS K E t ρ D) (h2 : b = false → EvS K E u ρ D) : EvS K E (tIfS tt t u) ρ D := fun F0 H0 σ F H e D' a q c d => h F0 H0 σ F H e _ fun F1 H1 g => by
  have e1 := e.grow g
  have k1 : ∀ {P : L2.St → Hp → Prop} {N : Rho → Prop}, (∀ σ' F' H' ρ', Hs K F0 H0 σ' F' H' ρ' → Same F F' → N ρ' → P σ' H') → ∀ σ' F' H' ρ', Hs K F0 H0 σ' F' H' ρ' → Same F1 F' → N ρ' → P σ' H' :=
    fun w σ' F' H' ρ' e' s n => w σ' F' H' ρ' e' (g.f.trans s) n
  cases b with
  | true => exact h1 rfl F0 H0 σ F1 H1 e1 D' (k1 a) q (k1 c) (k1 d)
  | false => exact h2 rfl F0 H0 σ F1 H1 e1 D' (k1 a) q (k1 c) (k1 d)
theorem es_raise {C : Addr} (k : D.rt (.e C)) : EvS K E (fun _ _ H => E (.ref C) none H) ρ D := fun F0 H0 σ F H e D' a b c d => b _ k H e.g.h
theorem es_app (hi : ρ[i]? = some (.m xs)) (h : EvF K te ρ x) (hl : xs.length < 1000000) (k : D.nx (ρ.set i (.m (xs ++ [x])))) : EvS K E (tDrop (tBM K "list" rAppend (tVar i) (tCons te tNil))) ρ D := fun F0 H0 σ F H e D' a b c d => by
  obtain ⟨o, h1, p, vs, h2, h0, hf, hh, hd⟩ := e.at_ i _ hi
  subst h2
  refine ⟨_, h1, .inl ⟨rfl, vs, .inl (.inl hh)⟩, h F0 H0 σ F H e _ fun v F1 H1 g hv => ?_⟩
  have e1 := e.grow g
  have hh1 : H1 p = some (.lst vs) := g.h _ _ hh
  have hd1 := DqA.mono g.f _ _ hd
  refine ⟨p, vs, v, rfl, rfl, hh1, by rw [hd.len]; exact Nat.lt_of_lt_of_le hl (by decide), ?_⟩
  exact a σ F1 _ _ (e1.chg hi h1 hh1 (hd1.last hv)) g.f k
theorem es_put {k' : Int} {ti : TE} (hi : ρ[i]? = some (.m xs)) (h : EvF K te ρ x) (ht : EvF K ti ρ (.int k')) (hj : ixN xs.length k' = some j) (k : D.nx (ρ.set i (.m (xs.set j x)))) : EvS K E (tAsg te (gSub (tVar i) ti rSetL)) ρ D := fun F0 H0 σ F H e D' a b c d => by
  obtain ⟨o, h1, p, vs, h2, h0, hf, hh, hd⟩ := e.at_ i _ hi
  subst h2
  refine h F0 H0 σ F H e _ fun v F1 H1 g hv => ⟨_, h1, ht F0 H0 σ F1 H1 (e.grow g) _ fun w F2 H2 g2 hw => ?_⟩
  cases hw
  have e2 := (e.grow g).grow g2
  have hh2 : H2 p = some (.lst vs) := g2.h _ _ (g.h _ _ hh)
  refine ⟨p, vs, k', j, rfl, rfl, hh2, by rw [hd.len]; exact hj, ?_⟩
  exact a σ F2 _ _ (e2.chg hi h1 hh2 ((DqA.mono g2.f _ _ (DqA.mono g.f _ _ hd)).set j (Dq.mono g2.f _ _ hv))) (g.f.trans g2.f) k
theorem es_aug {f : Int → Int → Int} {a b : Int} (hi : ρ[i]? = some (.d (.int a))) (h : EvF K te ρ (.int b)) (k : D.nx (ρ.set i (.d (.int (f a b))))) : EvS K E (tAug i te (ipI f)) ρ D := fun F0 H0 σ F H e D' a' b' c d => by
  obtain ⟨o, h1, v, h2, hv⟩ := e.at_ i _ hi
  subst h2
  cases hv
  refine ⟨_, h1, h F0 H0 σ F H e _ fun w F1 H1 g hw => ?_⟩
  cases hw
  exact ⟨a, b, rfl, rfl, a' _ F1 H1 _ ((e.grow g).setD i (.int _)) g.f k⟩
theorem es_par2 {l : Nat} (h : EvA K tr ρ [x, y]) (k : D.nx ((ρ.set i (.d x)).set l (.d y))) : EvS K E (tPar i l tr) ρ D := fun F0 H0 σ F H e D' a b c d => h F0 H0 σ F H e _ fun vs F1 H1 g hv => by
  cases hv with
  | cons h1 hv => cases hv with
    | cons h2 hv =>
      cases hv
      exact ⟨_, _, rfl, a _ F1 H1 _ (((e.grow g).setD i h1).setD l h2) g.f k⟩
/-- a, b = [], [] and its like: both new lists -/
theorem es_parNN {l : Nat} (h1 : EvN K ta ρ xs) (h2 : ∀ r, EvN K tb (ρ.set i r) ys) (hil : i ≠ l) (k : D.nx ((ρ.set i (.m xs)).set l (.m ys))) (hb : ∀ σ o H Q, tb σ H Q ↔ tb (σ.set i o) H Q) : EvS K E (tPar i l (tCons ta (tCons tb tNil))) ρ D := fun F0 H0 σ F H e D' a b c d =>
  h1 F0 H0 σ F H e _ fun p vs F1 H1 g1 hp hf hh hd => by
    have e1 := e.setM i g1 hp hf hh hd
    refine (hb _ (some (.ref p)) _ _).mpr (h2 _ F0 H0 _ F1 H1 e1 _ fun q us F2 H2 g2 hq hf2 hh2 hd2 => ?_)
    exact ⟨_, _, rfl, a _ F2 H2 _ (e1.setM l g2 hq hf2 hh2 hd2) (g1.f.trans g2.f) k⟩
theorem es_par3 {l m : Nat} (h : EvA K tr ρ [x, y, z]) (k : D.nx (((ρ.set i (.d x)).set l (.d y)).set m (.d z))) : EvS K E (tPar3 i l m tr) ρ D := fun F0 H0 σ F H e D' a b c d => h F0 H0 σ F H e _ fun vs F1 H1 g hv => by
  cases hv with
  | cons h1 hv => cases hv with
    | cons h2 hv => cases hv with
      | cons h3 hv =>
        cases hv
        exact ⟨_, _, _, rfl, a _ F1 H1 _ ((((e.grow g).setD i h1).setD l h2).setD m h3) g.f k⟩
/-! ### loops -/
theorem es_for {wi : TI} {g : TG} {js : List Nat} {n : Nat} {item : Nat → Da} {f : Nat → Rho → Rho} (Inv : Nat → Rho → Prop) (hI : EvI K wi ρ n item) (hg : ∀ i, i < n → GoT K g (item i) js (f i)) (h0 : Inv 0 ρ)
    (hs : ∀ i ρ', i < n → Inv i ρ' → EvS K E t (f i ρ') { nx := Inv (i + 1), rt := D.rt, bk := D.nx, ct := Inv (i + 1) }) (hd : ∀ ρ', Inv n ρ' → D.nx ρ') : EvS K E (tFor wi g t) ρ D := fun F0 H0 σ F H e D' a b c d =>
  hI F0 H0 σ F H e _ fun J F1 H1 g1 hJ => by
    refine ⟨fun i m σ H => m = n - i ∧ i ≤ n ∧ ∃ F2 ρ2, Hs K F0 H0 σ F2 H ρ2 ∧ Same F1 F2 ∧ Inv i ρ2, ⟨n, rfl, Nat.zero_le _, F1, ρ, e.grow g1, Same.refl _, h0⟩, ?_⟩
    rintro i m σ2 H2 ⟨rfl, hi, F2, ρ2, e2, s2, hinv⟩
    obtain ⟨j1, j2⟩ := hJ i F2 H2 s2 e2.s
    by_cases hlt : i < n
    · obtain ⟨hgo, hyld⟩ := j1 hlt
      refine .inr ⟨hgo, fun σ' H' => ∃ F3 ρ3, Hs K F0 H0 σ' F3 H' ρ3 ∧ Same F1 F3 ∧ Inv (i + 1) ρ3, ?_, fun v H' hy => ?_⟩
      · rintro σ' H' ⟨F3, ρ3, e3, s3, h3⟩
        exact ⟨n - (i + 1), by omega, rfl, hlt, F3, ρ3, e3, s3, h3⟩
      · obtain ⟨F3, g3, hv⟩ := hyld v H' hy
        refine hg i hlt F0 H0 σ2 F3 H' ρ2 v (e2.grow g3) hv _ fun σ3 e3 _ => ?_
        have s3 := s2.trans g3.f
        exact hs i ρ2 hlt hinv F0 H0 σ3 F3 H' e3 _ (fun σ4 F4 H4 ρ4 e4 s4 h4 => ⟨F4, ρ4, e4, s3.trans s4, h4⟩) b (fun σ4 F4 H4 ρ4 e4 s4 h4 => a σ4 F4 H4 ρ4 e4 ((g1.f.trans s3).trans s4) h4)
          (fun σ4 F4 H4 ρ4 e4 s4 h4 => ⟨F4, ρ4, e4, s3.trans s4, h4⟩)
    · have ei : i = n := by omega
      subst ei
      exact .inl ⟨j2 (Nat.le_refl _), a σ2 F2 H2 ρ2 e2 (g1.f.trans s2) (hd ρ2 hinv)⟩
theorem drop_at {α : Type} {l : List α} {i : Nat} (h : i < l.length) : l.drop i = l[i] :: l.drop (i + 1) := List.drop_eq_getElem_cons h
theorem getD_map {α : Type} (enc : α → Da) {l : List α} {i : Nat} (h : i < l.length) : (l.map enc).getD i .non = enc l[i] := by
  rw [List.getD_eq_getElem?_getD, List.getElem?_map, List.getElem?_eq_getElem h]
  rfl
/-- over typed items, by what is left -/
theorem es_forT {α : Type} {wi : TI} {g : TG} {js : List Nat} (enc : Nat → α → Da) (f : Da → Rho → Rho) (xs : List α) {n : Nat} {item : Nat → Da} (hI : EvI K wi ρ n item) (hn : n = xs.length) (hit : ∀ i (h : i < xs.length), item i = enc i xs[i])
    (hg : ∀ i a, GoT K g (enc i a) js (f (enc i a))) (Inv : Nat → List α → Rho → Prop) (h0 : Inv 0 xs ρ)
    (hs : ∀ i a l ρ', Inv i (a :: l) ρ' → EvS K E t (f (enc i a) ρ') { nx := Inv (i + 1) l, rt := D.rt, bk := D.nx, ct := Inv (i + 1) l }) (hd : ∀ i ρ', Inv i [] ρ' → D.nx ρ') : EvS K E (tFor wi g t) ρ D := by
  subst hn
  refine es_for (js := js) (f := fun i => f (item i)) (fun i ρ' => i ≤ xs.length ∧ Inv i (xs.drop i) ρ') hI (fun i h => ?_) ⟨Nat.zero_le _, h0⟩ (fun i ρ' h hi => ?_) (fun ρ' h => ?_)
  · rw [hit i h]
    exact hg i _
  · have hi2 := hi.2
    rw [drop_at h] at hi2
    rw [hit i h]
    refine es_imp (hs i _ _ ρ' hi2) (fun r q => ⟨h, q⟩) (fun r q => q) (fun r q => q) (fun r q => ⟨h, q⟩)
  · have h2 := h.2
    rw [List.drop_length] at h2
    exact hd _ _ h2
/-- for a in xs -/
theorem es_forL {α : Type} (enc : α → Da) (xs : List α) (h : EvF K te ρ (.lst (xs.map enc))) (Inv : List α → Rho → Prop) (h0 : Inv xs ρ)
    (hs : ∀ a l ρ', Inv (a :: l) ρ' → EvS K E t (ρ'.set j (.d (enc a))) { nx := Inv l, rt := D.rt, bk := D.nx, ct := Inv l }) (hd : ∀ ρ', Inv [] ρ' → D.nx ρ') : EvS K E (tFor (iList K te) (gName j) t) ρ D :=
  es_forT (fun _ => enc) (fun x r => r.set j (.d x)) xs (ei_list h) (List.length_map _) (fun i hi => getD_map enc hi) (fun _ _ => go_name) (fun _ => Inv) h0 (fun _ => hs) (fun _ => hd)
theorem es_forRev {α : Type} (enc : α → Da) (xs : List α) (h : EvF K te ρ (.lst (xs.map enc))) (Inv : List α → Rho → Prop) (h0 : Inv xs.reverse ρ)
    (hs : ∀ a l ρ', Inv (a :: l) ρ' → EvS K E t (ρ'.set j (.d (enc a))) { nx := Inv l, rt := D.rt, bk := D.nx, ct := Inv l }) (hd : ∀ ρ', Inv [] ρ' → D.nx ρ') : EvS K E (tFor (iRev K (tCons te tNil)) (gName j) t) ρ D :=
  es_forT (fun _ => enc) (fun x r => r.set j (.d x)) xs.reverse (ei_rev h) (by rw [List.length_map, List.length_reverse]) (fun i hi => by rw [← List.map_reverse]; exact getD_map enc hi) (fun _ _ => go_name) (fun _ => Inv) h0 (fun _ => hs) (fun _ => hd)
theorem es_forEnum {α : Type} {j1 j2 : Nat} (enc : α → Da) (xs : List α) (h : EvF K te ρ (.lst (xs.map enc))) (Inv : Nat → List α → Rho → Prop) (h0 : Inv 0 xs ρ)
    (hs : ∀ i a l ρ', Inv i (a :: l) ρ' → EvS K E t ((ρ'.set j1 (.d (.int i))).set j2 (.d (enc a))) { nx := Inv (i + 1) l, rt := D.rt, bk := D.nx, ct := Inv (i + 1) l }) (hd : ∀ i ρ', Inv i [] ρ' → D.nx ρ') :
    EvS K E (tFor (iEnum K (tCons te tNil)) (gTup K 2 (gCons (gName j1) (gCons (gName j2) gNil))) t) ρ D :=
  es_forT (js := [j1, j2]) (fun i a => .tup [.int i, enc a]) (fun x r => match x with | .tup [a, b] => (r.set j1 (.d a)).set j2 (.d b) | _ => r) xs (ei_enum h) (List.length_map _) (fun i hi => by show Da.tup [.int i, _] = _; rw [getD_map enc hi])
    (fun _ _ => go_tup2) Inv h0 hs hd
/-- for a, b in pairs -/
theorem es_forP {α : Type} {j1 j2 : Nat} (e1 e2 : α → Da) (xs : List α) (h : EvF K te ρ (.lst (xs.map fun a => .tup [e1 a, e2 a]))) (Inv : List α → Rho → Prop) (h0 : Inv xs ρ)
    (hs : ∀ a l ρ', Inv (a :: l) ρ' → EvS K E t ((ρ'.set j1 (.d (e1 a))).set j2 (.d (e2 a))) { nx := Inv l, rt := D.rt, bk := D.nx, ct := Inv l }) (hd : ∀ ρ', Inv [] ρ' → D.nx ρ') :
    EvS K E (tFor (iList K te) (gTup K 2 (gCons (gName j1) (gCons (gName j2) gNil))) t) ρ D :=
  es_forT (js := [j1, j2]) (fun _ a => .tup [e1 a, e2 a]) (fun x r => match x with | .tup [a, b] => (r.set j1 (.d a)).set j2 (.d b) | _ => r) xs (ei_list h) (List.length_map _) (fun i hi => getD_map _ hi)
    (fun _ _ => go_tup2) (fun _ => Inv) h0 (fun _ => hs) (fun _ => hd)
/-- for i in range(n) -/
theorem es_forR {n : Nat} (h : EvF K te ρ (.int n)) (hn : n ≤ 1000000) (Inv : Nat → Rho → Prop) (h0 : Inv 0 ρ)
    (hs : ∀ i ρ', i < n → Inv i ρ' → EvS K E t (ρ'.set j (.d (.int i))) { nx := Inv (i + 1), rt := D.rt, bk := D.nx, ct := Inv (i + 1) }) (hd : ∀ ρ', Inv n ρ' → D.nx ρ') : EvS K E (tFor (iRng1 (tCons te tNil)) (gName j) t) ρ D :=
  es_for (js := [j]) (f := fun i r => r.set j (.d (.int i))) Inv (ei_rng h hn) (fun _ _ => go_name) h0 hs hd
/-- for i in reversed(range(n)): Inv k: k turns are left -/
theorem es_forRR {n : Nat} (h : EvF K te ρ (.int n)) (hn : n ≤ 1000000) (Inv : Nat → Rho → Prop) (h0 : Inv n ρ)
    (hs : ∀ k ρ', k < n → Inv (k + 1) ρ' → EvS K E t (ρ'.set j (.d (.int k))) { nx := Inv k, rt := D.rt, bk := D.nx, ct := Inv k }) (hd : ∀ ρ', Inv 0 ρ' → D.nx ρ') : EvS K E (tFor (iRevR (tRg1 te)) (gName j) t) ρ D := by
  refine es_for (js := [j]) (f := fun i r => r.set j (.d (.int ((n : Int) - 1 - i)))) (fun i => Inv (n - i)) (ei_revR h hn) (fun _ _ => go_name) h0 (fun i ρ' hi hq => ?_) (fun ρ' hq => ?_)
  · have e1 : n - i = (n - (i + 1)) + 1 := by omega
    have e2 : (n : Int) - 1 - (i : Nat) = ((n - (i + 1) : Nat) : Int) := by omega
    rw [e1] at hq
    have := hs (n - (i + 1)) ρ' (by omega) hq
    rw [← e2] at this
    exact this
  · rw [Nat.sub_self] at hq
    exact hd ρ' hq
theorem es_while (Inv : Nat → Rho → Prop) (m : Nat) (h0 : Inv m ρ) (hs : ∀ m ρ', Inv m ρ' → ∃ b, EvT K tt ρ' b ∧ (b = true → EvS K E t ρ' { nx := fun r => ∃ m', m' < m ∧ Inv m' r, rt := D.rt, bk := D.nx, ct := fun r => ∃ m', m' < m ∧ Inv m' r }) ∧ (b = false → D.nx ρ')) :
    EvS K E (tWhile tt t) ρ D := fun F0 H0 σ F H e D' a b c d => by
  refine ⟨fun m σ' H' => ∃ F' ρ', Hs K F0 H0 σ' F' H' ρ' ∧ Same F F' ∧ Inv m ρ', ⟨m, F, ρ, e, Same.refl _, h0⟩, ?_⟩
  rintro m σ1 H1 ⟨F1, ρ1, e1, s1, h1⟩
  obtain ⟨bb, ht, k1, k2⟩ := hs m ρ1 h1
  refine ht F0 H0 σ1 F1 H1 e1 _ fun F2 H2 g2 => ?_
  have s2 := s1.trans g2.f
  cases bb with
  | true =>
    rw [if_pos rfl]
    refine ⟨fun σ' H' => ∃ m', m' < m ∧ ∃ F' ρ', Hs K F0 H0 σ' F' H' ρ' ∧ Same F F' ∧ Inv m' ρ', fun σ' H' ⟨m', hm, q⟩ => ⟨m', hm, q⟩, ?_⟩
    exact k1 rfl F0 H0 σ1 F2 H2 (e1.grow g2) _ (fun σ4 F4 H4 ρ4 e4 s4 ⟨m', hm, h4⟩ => ⟨m', hm, F4, ρ4, e4, s2.trans s4, h4⟩) b (fun σ4 F4 H4 ρ4 e4 s4 h4 => a σ4 F4 H4 ρ4 e4 (s2.trans s4) h4)
      (fun σ4 F4 H4 ρ4 e4 s4 ⟨m', hm, h4⟩ => ⟨m', hm, F4, ρ4, e4, s2.trans s4, h4⟩)
  | false =>
    rw [if_neg Bool.false_ne_true]
    exact a σ1 F2 H2 ρ1 (e1.grow g2) s2 (k2 rfl)
end

/-! ### a def keeps its promise -/
def rho0 : Nat → List Da → Rho
  | 0, _ => []
  | n + 1, [] => .un :: rho0 n []
  | n + 1, d :: ds => .d d :: rho0 n ds
theorem rho0_nil : ∀ n, rho0 n [] = List.replicate n Sl.un
  | 0 => rfl
  | n + 1 => by rw [rho0, rho0_nil n]; rfl
theorem hs_start {K : PySem.W.Frag} {F H : Hp} (s : Same F H) : ∀ {N : List Str} {vs : List V} {ds : List Da}, DqA K F vs ds → vs.length ≤ N.length → Hs K F H (start N vs) F H (rho0 N.length ds) := by
  intro N vs ds h hl
  have key : ∀ (n : Nat) (vs : List V) (ds : List Da), DqA K F vs ds → vs.length ≤ n → (vs.map some ++ List.replicate (n - vs.length) none).length = (rho0 n ds).length ∧
      (∀ (i : Nat) (r : Sl), (rho0 n ds)[i]? = some r → (∀ xs, r ≠ .m xs) ∧ ∃ o, (vs.map some ++ List.replicate (n - vs.length) none)[i]? = some o ∧ Slot K H F H o r) := by
    intro n
    induction n with
    | zero =>
      intro vs ds h hl
      cases h with
      | nil => exact ⟨rfl, fun i r q => by simp [rho0] at q⟩
      | cons _ _ => simp at hl
    | succ n ih =>
      intro vs ds h hl
      cases h with
      | nil =>
        obtain ⟨l, k⟩ := ih [] [] .nil (Nat.zero_le _)
        refine ⟨?_, fun i r q => ?_⟩
        · simp only [List.map_nil, List.nil_append, List.length_replicate, List.length_nil, Nat.sub_zero, rho0, List.length_cons] at l ⊢
          omega
        · cases i with
          | zero =>
            have e := Option.some.inj (show some Sl.un = some r from q)
            subst e
            exact ⟨fun _ z => (by cases z), none, rfl, trivial⟩
          | succ i =>
            obtain ⟨a, o, b, c⟩ := k i r (by simpa [rho0] using q)
            refine ⟨a, o, ?_, c⟩
            simpa [List.replicate_succ] using b
      | @cons v vs d ds h1 h2 =>
        obtain ⟨l, k⟩ := ih vs ds h2 (by simpa using hl)
        refine ⟨?_, fun i r q => ?_⟩
        · simp only [List.map_cons, List.cons_append, List.length_cons, rho0, Nat.add_sub_add_right] at l ⊢
          omega
        · cases i with
          | zero =>
            have e := Option.some.inj (show some (Sl.d d) = some r from q)
            subst e
            exact ⟨fun _ z => (by cases z), some v, rfl, v, rfl, h1⟩
          | succ i =>
            obtain ⟨a, o, b, c⟩ := k i r (by simpa [rho0] using q)
            refine ⟨a, o, ?_, c⟩
            simpa using b
  obtain ⟨l, k⟩ := key N.length vs ds h hl
  exact ⟨Grow.refl s, l, fun i r q => (k i r q).2, fun i j xs ys _ h1 _ => absurd rfl ((k i _ h1).1 xs)⟩
theorem fn_data {P : Program} {w : World} {K : PySem.W.Frag} {mg : Str → Option Value} {base : Heap} {x : Str} {params : Arguments} {body : List Stmt} {scope : Scope} {f : Addr} {fd : FuncData} {N ps : List Str} {k n : Nat} {Gr : List Da → Out → Prop}
    (F : FunD K x x params body scope [] [] f fd) (S : FnScope N ps scope) (hn : N.length = n) (hlen : ∀ ds r, Gr ds r → ds.length = ps.length)
    (hbody : ∀ (cdv : Value) (A : Around) (outer : List Env) (s : Shared) (H : Hp) (E : XK), Room k (A.deeper (envOfC x scope s.heap.objs.size f cdv)) →
      ∃ t, PSs (cxOf (L2N.CX P w) P w K mg base N x scope f cdv A outer s H E) body t ∧ ∀ ds r, Gr ds r → EvS K E t (rho0 n ds) { nx := fun _ => r = .f .non, rt := fun r' => r' = r }) : FnOk P w K mg base (L2N.CX P w) (k + 1) f fd ps (spD K Gr) := by
  subst hn
  refine F.ok S (fun vs H Q E h => ?_) (fun cdv A outer s H vs Q E hr h => ?_)
  · obtain ⟨F1, ds, r, _, hd, hG, _⟩ := h
    rw [hd.len]
    exact hlen ds r hG
  · obtain ⟨F1, ds, r, s1, hd, hG, hQ⟩ := h
    obtain ⟨t, ht, hE⟩ := hbody cdv A outer s H E hr
    have hNl : ps.length ≤ N.length := by
      have := congrArg List.length S.pre
      rw [List.length_take] at this
      omega
    refine ⟨t, ht, hE ds r hG F1 H _ F1 H (hs_start s1 hd (by rw [hd.len, hlen ds r hG]; exact hNl)) _ (fun σ' F' H' ρ' e' _ e => ?_) (fun r' e => ?_) (fun _ _ _ _ _ _ z => z.elim) (fun _ _ _ _ _ _ z => z.elim)⟩
    · have e : r = .f .non := e
      subst e
      exact hQ .non F' H' e'.g .non
    · have e : r' = r := e
      subst e
      exact hQ
theorem cal_of {P : Program} {w : World} {K : PySem.W.Frag} {mg : Str → Option Value} {base : Heap} {x : Str} {params : Arguments} {body : List Stmt} {scope : Scope} {f : Addr} {fd : FuncData} {N ps : List Str} {k n : Nat} {Gr : List Da → Out → Prop}
    (F : FunD K x x params body scope [] [] f fd) (S : FnScope N ps scope) (hm : mg x = some (.ref f)) (hb : Binds K fd ps []) (hn : N.length = n) (hlen : ∀ ds r, Gr ds r → ds.length = ps.length)
    (hbody : ∀ (cdv : Value) (A : Around) (outer : List Env) (s : Shared) (H : Hp) (E : XK), Room k (A.deeper (envOfC x scope s.heap.objs.size f cdv)) →
      ∃ t, PSs (cxOf (L2N.CX P w) P w K mg base N x scope f cdv A outer s H E) body t ∧ ∀ ds r, Gr ds r → EvS K E t (rho0 n ds) { nx := fun _ => r = .f .non, rt := fun r' => r' = r }) : Cal P w K mg base (k + 1) x ps Gr :=
  ⟨f, fd, fn_data F S hn hlen hbody, hm, F.kp, hb⟩
/-- for the head: nothing is let out -/
theorem fn_quiet {P : Program} {w : World} {K : PySem.W.Frag} {mg : Str → Option Value} {base : Heap} {k : Nat} {f : Addr} {fd : FuncData} {ps : List Str} {sp : Sp} (F : FnOk P w K mg base (L2N.CX P w) k f fd ps sp) : FnOk P w K mg base L2.CX0 k f fd ps (fun vs H Q _ => sp vs H Q E0) := by
  refine ⟨fun vs H Q E h => F.len vs H Q E0 h, fun A outer s H args us vs Q E hr he hb hv hs => codeAny_mono (F.run A outer s H args us vs Q E0 hr he hb hv hs) fun r s' h => ?_⟩
  cases r with
  | ok o => cases o <;> exact h
  | error e =>
    obtain ⟨_, _, _, _, _, _, _, _, _, _, _, _, z⟩ := h
    exact z.elim
end TR

/-! own layer: the operators in one, errors, names -/
namespace TR
open PySem PySem.Spec PyProof.Rows L2
def rAddS' : R2 := fun x y H Q => ∃ i j, x = .str i ∧ y = .str j ∧ i.length + j.length ≤ sizeLine ∧ Q (.str (i ++ j)) H
def rAdd3 : R2 := fun x y H Q => rI0 (fun i j => .int (i + j)) x y H Q ∨ (fun x y H Q => rCat x y H Q ∨ rAddS' x y H Q) x y H Q
def rMul2 : R2 := fun x y H Q => rI CMul (fun i j => .int (i * j)) x y H Q ∨ rRep x y H Q
def rEq2 (K : PySem.W.Frag) : R2 := fun x y H Q => rEq x y H Q ∨ rEqD K x y H Q
def rNe2 (K : PySem.W.Frag) : R2 := fun x y H Q => rNe x y H Q ∨ rNeD K x y H Q
def rInC : R2 := fun x y H Q => ∃ (c : Nat) (z : Str), x = .str ⟨#[c]⟩ ∧ y = .str z ∧ Q (.bl (decide (c ∈ z.cps.toList))) H
def rIn2 (K : PySem.W.Frag) : R2 := fun x y H Q => rInD K x y H Q ∨ rInC x y H Q
def rNi2 (K : PySem.W.Frag) : R2 := fun x y H Q => rNotInD K x y H Q ∨ (fun x y H Q => ∃ (c : Nat) (z : Str), x = .str ⟨#[c]⟩ ∧ y = .str z ∧ Q (.bl (!decide (c ∈ z.cps.toList))) H) x y H Q
abbrev rSub2 : R2 := rI0 fun i j => .int (i - j)
abbrev rFdv : R2 := rI CDiv fun i j => .int (i / j)
abbrev rMod2 : R2 := rI (fun _ j => 0 < j) fun i j => .int (i % j)
abbrev rPow2 : R2 := rI CPow fun i j => .int (i ^ j.toNat)
abbrev rShl2 : R2 := rI CPow fun i j => .int (i * 2 ^ j.toNat)
abbrev rLt2 : R2 := rI0 fun i j => .bl (decide (i < j))
abbrev rLe2 : R2 := rI0 fun i j => .bl (decide (i ≤ j))
abbrev rGt2 : R2 := rI0 fun i j => .bl (decide (j < i))
abbrev rGe2 : R2 := rI0 fun i j => .bl (decide (j ≤ i))
section
variable {X : Cx} {k : Nat}
theorem opAdd : OpR X (binaryOp .Add) rAdd3 := op_add.or (op_cat.or op_add_str)
theorem opMul : OpR X (binaryOp .Mult) rMul2 := op_mul.or op_rep
theorem units64 {A : Around} (hr : Room k A) : A.units + 64 < cLine := by have := hr.un; omega
theorem units65 {A : Around} (hr : Room k A) : A.units + 65 < cLine := by have := hr.un; omega
end
section
variable {X : Cx} {k : Nat} {K : PySem.W.Frag}
theorem opEq (hr : Room k X.A) (hK : X.K = K) : OpR X (compareOp .Eq) (rEq2 K) := hK ▸ op_eq.or (op_eqD (units64 hr))
theorem opNe (hr : Room k X.A) (hK : X.K = K) : OpR X (compareOp .NotEq) (rNe2 K) := hK ▸ op_ne.or (op_neD (units64 hr))
theorem opIn (hr : Room k X.A) (hK : X.K = K) : OpR X (compareOp .In) (rIn2 K) := hK ▸ (op_inD (units65 hr)).or op_in_sign
theorem opNi (hr : Room k X.A) (hK : X.K = K) : OpR X (compareOp .NotIn) (rNi2 K) := hK ▸ (op_notInD (units65 hr)).or op_notIn_sign
theorem ixK (hK : X.K = K) : IxR X (rIx K) := hK ▸ ix_seq
theorem isiK (hK : X.K = K) : CallR X (.builtin "isinstance") (rIsi K) := hK ▸ call_isi
theorem lenK (hK : X.K = K) : CallR X (.builtin "len") (fun xs H Q => ∃ x n, xs = [x] ∧ LenV K x H n ∧ Q (.int n) H) := hK ▸ call_len
theorem allK (hc : X.calm = true) (hK : X.K = K) : CallR X (.builtin "all") (rAll K) := hK ▸ cr_all hc
theorem anyK (hc : X.calm = true) (hK : X.K = K) : CallR X (.builtin "any") (rAny K) := hK ▸ cr_any hc
theorem listK (hK : X.K = K) : CallR X (.type "list") (fun xs H Q => ∃ p ys, xs = [.ref p] ∧ (SqL K H p ys ∨ SqT K H p ys) ∧ ∀ l, H l = none → Q (.ref l) (upd H l (.lst ys))) := hK ▸ call_list_of
theorem sortedK (hK : X.K = K) : CallR X (.builtin "sorted") (rSorted K) := hK ▸ cr_sorted
theorem slK (hK : X.K = K) : SlR X (rSlL K) := hK ▸ sl_list
theorem revK {e : Expr} {te : TE} {j : Nat} {p1 p2 p3 pos : Pos} (hK : X.K = K) (he : PE X e te) : PE X (.Subscript e (.Slice none none (some (.UnaryOp .USub (.Constant (.int 1) j p1) p2)) p3) pos) (tRevL K te) := hK ▸ pe_revL he
theorem listPI {tg e : Expr} {te : TE} (hK : X.K = K) (h : PI X tg e (iList X.K te)) : PI X tg e (iList K te) := hK ▸ h
theorem tupPI {tg e : Expr} {te : TE} (hK : X.K = K) (h : PI X tg e (iTup X.K te)) : PI X tg e (iTup K te) := hK ▸ h
theorem enumPI {tg e : Expr} {ta : TA} (hK : X.K = K) (h : PI X tg e (iEnum X.K ta)) : PI X tg e (iEnum K ta) := hK ▸ h
theorem revPI {tg e : Expr} {ta : TA} (hK : X.K = K) (h : PI X tg e (iRev X.K ta)) : PI X tg e (iRev K ta) := hK ▸ h
theorem tupPG {tg : Expr} {n : Nat} {t : TGs} (hK : X.K = K) (h : PG X tg (gTup X.K n t)) : PG X tg (gTup K n t) := hK ▸ h
theorem appPE {e : Expr} {id : String} {r : V → List V → Hp → VK → Prop} {to : TE} {t : TA} (hK : X.K = K) (h : PE X e (tBM X.K id r to t)) : PE X e (tBM K id r to t) := hK ▸ h
end
/-- an own class of errors -/
structure ErrC (K : PySem.W.Frag) (mg : Str → Option Value) (x : Str) (C : Addr) : Prop where
  g : mg x = some (.ref C)
  k : PySem.W.keepIn K (.ref C) = true
  q : PySem.W.excIn K C He.veBase "ValueError.__new__" = true
  b : PySem.W.subIn K (.ref C) (.type "BaseException") = some true
  t : PySem.W.typeIn K (.ref C) = some (.type "type")
section
variable {X : Cx} {C : Addr} {bmB : List Value} {B newId initId : String}
/-- a new exception of an own class, its context none -/
theorem pmk_ownN {x m : Str} {j : Nat} {p p2 pos : Pos} (F : ExcBaseFacts B newId initId bmB) (q : PySem.W.excIn X.K C bmB newId = true) (gC : X.mg x = some (.ref C)) (kC : PySem.W.keepIn X.K (.ref C) = true) (rz : Raises X (.ref C)) (hg : Gl X x)
    (hdb : (x == ("__debug__" : Str)) = false := by decide) : L2N.PMk X (.Call (.Name x p) [.Constant (.str m) j p2] [] pos) (fun _ H Q => Q (.ref C) none H) := fun pins s σ H Q inv want => by
  have arg : PA X [.Constant (.str m) j p2] (tCons (tC (.str m)) tNil) := pa_cons pe_str pa_nil
  refine wpAny_Call_Name_kw (ld_glob inv hg gC (PySem.W.callWith_K (h₀ := X.base) inv.ok.mod.kin kC (thn (arg.run pos pins s σ H (fun us G => us = [V.str m] ∧ H = G) inv ⟨rfl, rfl⟩) fun us s1 ⟨vs, G, inv1, rel, ev, eH⟩ => ?_)) hdb)
  cases eH
  cases ev
  refine ⟨inv1.kIn, ?_⟩
  cases rel with
  | cons ru rn =>
    cases rn
    obtain ⟨_, _, _, _, _, _, _, _, _, _, _, _, _, _, _, _, _, hC, hN, hni, T⟩ := exc_obj inv1.kIn q
    exact wpAny_call_exc_subT F T hC hN hni (fun h' e hm => L2N.mk_of inv1 hm rz want (inv1.hok.gone hm.new)) (by show 1 ≤ sizeLine; rw [sizeLine_eq]; decide)
end
/-- where nothing is wished of exceptions none is let out -/
theorem passN {X : Cx} : Passes (L2N.CX X.prog X.w) X E0 := fun _ _ _ _ _ _ _ h => by
  obtain ⟨_, _, _, _, _, _, _, _, _, _, _, _, z⟩ := h
  exact z.elim
section
variable {P : Program} {w : World} {K : PySem.W.Frag} {mg : Str → Option Value} {base : Heap} {N : List Str} {qual : Str} {scope : Scope} {f : Addr} {cd : Value} {A : Around} {outer : List Env} {s : Shared} {H : Hp} {E : XK}
theorem raise_own {x m : Str} {C : Addr} {j : Nat} {p p2 pos pos' : Pos} (e : ErrC K mg x C) (hg : Gl (cxOf (L2N.CX P w) P w K mg base N qual scope f cd A outer s H E) x) (hdb : (x == ("__debug__" : Str)) = false := by decide) :
    PS (cxOf (L2N.CX P w) P w K mg base N qual scope f cd A outer s H E) (.Raise (some (.Call (.Name x p) [.Constant (.str m) j p2] [] pos)) none pos') (fun _ _ H => E (.ref C) none H) :=
  L2N.ps_raise rfl (L2N.takes_of rfl rfl rfl rfl) (pmk_ownN PySem.F.excBase_ValueError e.q e.g e.k (raises_own e.b e.t) hg hdb)
/-- what a callee lets out leaves the def -/
theorem lets_on : Lets (cxOf (L2N.CX P w) P w K mg base N qual scope f cd A outer s H E) E := L2N.passes_call (L2N.takes_of rfl rfl rfl rfl) fun _ _ _ _ h => h
theorem loops_on : PassesOwn (model P w) (cxOf (L2N.CX P w) P w K mg base N qual scope f cd A outer s H E).A (cxOf (L2N.CX P w) P w K mg base N qual scope f cd A outer s H E).env (cxOf (L2N.CX P w) P w K mg base N qual scope f cd A outer s H E).xe := passes_of rfl
end
end TR

/-! own layer: the operators' values by name; a tactic row that evaluates -/
namespace TR
open PySem PySem.Spec PyProof.Rows L2
section
variable {K : PySem.W.Frag} {x y z : Da} {xs ys : List Da} {a b : Int} {u v : Str} {p q : Bool} {ρ : Rho} {ta tb te : TE}
theorem rv_add : RvD K rAdd3 (.int a) (.int b) (.int (a + b)) := RvD.ll rv_int2
theorem rv_addS (h : u.length + v.length ≤ 1000000) : RvD K rAdd3 (.str u) (.str v) (.str (u ++ v)) := fun x y H Q hx hy k => by
  cases hx
  cases hy
  exact .inr (.inr ⟨u, v, rfl, rfl, Nat.le_trans h (by decide), k _ fun _ => .str _⟩)
theorem rp_add (h : xs.length + ys.length ≤ 1000000) : RvP K rAdd3 xs ys (xs ++ ys) := RvP.rr (RvP.ll (rp_cat h))
theorem rv_sub : RvD K rSub2 (.int a) (.int b) (.int (a - b)) := rv_int2
theorem rv_mul (h : CMul a b) : RvD K rMul2 (.int a) (.int b) (.int (a * b)) := RvD.ll (rv_intC h)
theorem cmul_l (h : -(2 ^ 64) < a ∧ a < 2 ^ 64) : CMul a b := .inl h
theorem cmul_r (h : -(2 ^ 64) < b ∧ b < 2 ^ 64) : CMul a b := .inr h
theorem rr_mul (h : xs.length * a.toNat ≤ 1000000) (h0 : -1000000 ≤ a) (h1 : a ≤ 1000000) : RvR K rMul2 xs a (List.replicate a.toNat xs).flatten := RvR.rr (rr_rep h h0 h1)
theorem rv_fdv (h : CDiv a b) : RvD K rFdv (.int a) (.int b) (.int (a / b)) := rv_intC h
theorem cdiv_of (h : 0 < b) (h2 : b < 1073741824) : CDiv a b := ⟨h, h2⟩
theorem rv_mod (h : 0 < b) : RvD K rMod2 (.int a) (.int b) (.int (a % b)) := rv_intC h
theorem rv_pow (h : CPow a b) : RvD K rPow2 (.int a) (.int b) (.int (a ^ b.toNat)) := rv_intC h
theorem rv_shl (h : CPow a b) : RvD K rShl2 (.int a) (.int b) (.int (a * 2 ^ b.toNat)) := rv_intC h
theorem rv_lt : RvD K rLt2 (.int a) (.int b) (.bl (decide (a < b))) := rv_cmp2
theorem rv_le : RvD K rLe2 (.int a) (.int b) (.bl (decide (a ≤ b))) := rv_cmp2
theorem rv_gt : RvD K rGt2 (.int a) (.int b) (.bl (decide (b < a))) := rv_cmp2
theorem rv_ge : RvD K rGe2 (.int a) (.int b) (.bl (decide (b ≤ a))) := rv_cmp2
theorem rv_eqi : RvD K (rEq2 K) (.int a) (.int b) (.bl (decide (a = b))) := RvD.ll rv_eqI
theorem rv_eqs : RvD K (rEq2 K) (.str u) (.str v) (.bl (decide (u = v))) := RvD.ll rv_eqS
theorem rv_eqb : RvD K (rEq2 K) (.bl p) (.bl q) (.bl (decide (p = q))) := RvD.ll rv_eqB
theorem rv_eqd (n m : Nat) (hx : okD n x) (hy : okD m y) (hn : n ≤ 60) (hm : m ≤ 60) : RvD K (rEq2 K) x y (.bl (eqD x y)) := RvD.rr (rv_eqD n m hx hy hn hm)
theorem rv_nei : RvD K (rNe2 K) (.int a) (.int b) (.bl (!decide (a = b))) := RvD.ll rv_neI
theorem rv_nes : RvD K (rNe2 K) (.str u) (.str v) (.bl (!decide (u = v))) := RvD.ll rv_neS
theorem rv_neb : RvD K (rNe2 K) (.bl p) (.bl q) (.bl (!decide (p = q))) := RvD.ll rv_neB
theorem rv_ned (n m : Nat) (hx : okD n x) (hy : okD m y) (hn : n ≤ 60) (hm : m ≤ 60) : RvD K (rNe2 K) x y (.bl (!eqD x y)) := RvD.rr (rv_neD n m hx hy hn hm)
theorem rv_in (n m : Nat) (hx : okD n x) (hy : okD m (.lst xs)) (hn : n ≤ 60) (hm : m ≤ 60) : RvD K (rIn2 K) x (.lst xs) (.bl (xs.any fun z => eqD z x)) := RvD.ll (rv_inD n m hx hy hn hm)
theorem rv_ni (n m : Nat) (hx : okD n x) (hy : okD m (.lst xs)) (hn : n ≤ 60) (hm : m ≤ 60) : RvD K (rNi2 K) x (.lst xs) (.bl (!xs.any fun z => eqD z x)) := RvD.ll (rv_niD n m hx hy hn hm)
theorem rv_inC {c : Nat} : RvD K (rIn2 K) (.str ⟨#[c]⟩) (.str u) (.bl (decide (c ∈ u.cps.toList))) := fun x y H Q hx hy k => by
  cases hx
  cases hy
  exact .inr ⟨c, u, rfl, rfl, k _ fun _ => .bl _⟩
/-- a list of ints: in -/
theorem any_int {a : Int} : ∀ {l : List Int}, (l.map Da.int).any (fun z => eqD z (.int a)) = decide (a ∈ l)
  | [] => rfl
  | b :: l => by
    have e : eqD (.int b) (.int a) = decide (b = a) := by
      unfold eqD
      simp only [Da.py, PyData.eqv]
      rfl
    rw [List.map_cons, List.any_cons, any_int, e]
    by_cases h : b = a
    · subst h; simp
    · have h' : ¬ a = b := fun z => h z.symm
      simp [h, h']
theorem okD_ints (l : List Int) : okD 1 (.lst (l.map Da.int)) := fun x hx => by
  obtain ⟨i, _, rfl⟩ := List.mem_map.mp hx
  trivial
theorem rv_inI {l : List Int} : RvD K (rIn2 K) (.int a) (.lst (l.map Da.int)) (.bl (decide (a ∈ l))) := by
  rw [← any_int]
  exact rv_in 0 1 trivial (okD_ints l) (by decide) (by decide)
theorem rv_niI {l : List Int} : RvD K (rNi2 K) (.int a) (.lst (l.map Da.int)) (.bl (!decide (a ∈ l))) := by
  rw [← any_int]
  exact rv_ni 0 1 trivial (okD_ints l) (by decide) (by decide)
end
end TR

/-! own layer: one statement ahead of the rest -/
namespace TR
open PySem PySem.Spec PyProof.Rows L2
section
variable {K : PySem.W.Frag} {ρ : Rho} {te ta tb tx ti : TE} {tr : TA} {tt : TT} {x y z : Da} {xs ys zs : List Da} {i j l : Nat} {E : XK} {t u v : TS} {D : DE} {C : Addr}
theorem es_last (h : EvS K E (tSeq t tNext) ρ D) : EvS K E t ρ D := h
theorem q_assoc (h : EvS K E (tSeq t (tSeq u v)) ρ D) : EvS K E (tSeq (tSeq t u) v) ρ D := h
theorem q_next (h : EvS K E u ρ D) : EvS K E (tSeq tNext u) ρ D := h
theorem q_end (h : D.nx ρ) : EvS K E tNext ρ D := es_next h
theorem q_asg (h : EvF K te ρ x) (k : EvS K E u (ρ.set i (.d x)) D) : EvS K E (tSeq (tAsg te (gName i)) u) ρ D := es_seq (M := fun r => EvS K E u r D) (es_asg h k) fun _ q => q
theorem q_asgN (h : EvN K te ρ xs) (k : EvS K E u (ρ.set i (.m xs)) D) : EvS K E (tSeq (tAsg te (gName i)) u) ρ D := es_seq (M := fun r => EvS K E u r D) (es_asgN h k) fun _ q => q
theorem q_asgL (h : EvN K te ρ xs) (k : EvS K E u (ρ.set i (.l xs)) D) : EvS K E (tSeq (tAsg te (gName i)) u) ρ D := es_seq (M := fun r => EvS K E u r D) (es_asgL h k) fun _ q => q
theorem q_asgX {g : TG} (h : EvX K E te ρ C) (k : D.rt (.e C)) : EvS K E (tSeq (tAsg te g) u) ρ D := es_seq (M := fun _ => False) (es_asgX h k) fun _ q => q.elim
theorem q_tup {g : TG} {js : List Nat} {f : Rho → Rho} (hg : GoT K g x js f) (h : EvF K te ρ x) (k : EvS K E u (f ρ) D) : EvS K E (tSeq (tAsg te g) u) ρ D := es_seq (M := fun r => EvS K E u r D) (es_tup hg h k) fun _ q => q
theorem q_drop (h : EvF K te ρ x) (k : EvS K E u ρ D) : EvS K E (tSeq (tDrop te) u) ρ D := es_seq (M := fun r => EvS K E u r D) (es_drop h k) fun _ q => q
theorem q_dropX (h : EvX K E te ρ C) (k : D.rt (.e C)) : EvS K E (tSeq (tDrop te) u) ρ D := es_seq (M := fun _ => False) (es_dropX h k) fun _ q => q.elim
theorem q_ret (h : EvF K te ρ x) (k : D.rt (.f x)) : EvS K E (tSeq (tRet te) u) ρ D := es_seq (M := fun _ => False) (es_ret h k) fun _ q => q.elim
theorem q_retN (h : EvN K te ρ xs) (k : D.rt (.n xs)) : EvS K E (tSeq (tRet te) u) ρ D := es_seq (M := fun _ => False) (es_retN h k) fun _ q => q.elim
theorem q_retM (h : ρ[i]? = some (.m xs)) (k : D.rt (.n xs)) : EvS K E (tSeq (tRet (tVar i)) u) ρ D := es_seq (M := fun _ => False) (es_retM h k) fun _ q => q.elim
theorem q_retX (h : EvX K E te ρ C) (k : D.rt (.e C)) : EvS K E (tSeq (tRet te) u) ρ D := es_seq (M := fun _ => False) (es_retX h k) fun _ q => q.elim
theorem q_raise (k : D.rt (.e C)) : EvS K E (tSeq (fun _ _ H => E (.ref C) none H) u) ρ D := es_seq (M := fun _ => False) (es_raise k) fun _ q => q.elim
theorem q_if {b : Bool} (h : EvT K tt ρ b) (h1 : b = true → EvS K E (tSeq t v) ρ D) (h2 : b = false → EvS K E (tSeq u v) ρ D) : EvS K E (tSeq (tIfS tt t u) v) ρ D := fun F0 H0 σ F H e D' a q c d => by
  refine h F0 H0 σ F H e _ fun F1 H1 g => ?_
  have e1 := e.grow g
  have k1 : ∀ {P : L2.St → Hp → Prop} {N : Rho → Prop}, (∀ σ' F' H' ρ', Hs K F0 H0 σ' F' H' ρ' → Same F F' → N ρ' → P σ' H') → ∀ σ' F' H' ρ', Hs K F0 H0 σ' F' H' ρ' → Same F1 F' → N ρ' → P σ' H' :=
    fun w σ' F' H' ρ' e' s n => w σ' F' H' ρ' e' (g.f.trans s) n
  cases b with
  | true => exact h1 rfl F0 H0 σ F1 H1 e1 D' (k1 a) q (k1 c) (k1 d)
  | false => exact h2 rfl F0 H0 σ F1 H1 e1 D' (k1 a) q (k1 c) (k1 d)
theorem q_app (hi : ρ[i]? = some (.m xs)) (h : EvF K te ρ x) (hl : xs.length < 1000000) (k : EvS K E u (ρ.set i (.m (xs ++ [x]))) D) : EvS K E (tSeq (tDrop (tBM K "list" rAppend (tVar i) (tCons te tNil))) u) ρ D := es_seq (M := fun r => EvS K E u r D) (es_app hi h hl k) fun _ q => q
theorem q_put {k' : Int} (hi : ρ[i]? = some (.m xs)) (h : EvF K te ρ x) (ht : EvF K ti ρ (.int k')) (hj : ixN xs.length k' = some j) (k : EvS K E u (ρ.set i (.m (xs.set j x))) D) : EvS K E (tSeq (tAsg te (gSub (tVar i) ti rSetL)) u) ρ D := es_seq (M := fun r => EvS K E u r D) (es_put hi h ht hj k) fun _ q => q
theorem q_aug {f : Int → Int → Int} {a b : Int} (hi : ρ[i]? = some (.d (.int a))) (h : EvF K te ρ (.int b)) (k : EvS K E u (ρ.set i (.d (.int (f a b)))) D) : EvS K E (tSeq (tAug i te (ipI f)) u) ρ D := es_seq (M := fun r => EvS K E u r D) (es_aug hi h k) fun _ q => q
theorem q_par2 (h : EvA K tr ρ [x, y]) (k : EvS K E u ((ρ.set i (.d x)).set l (.d y)) D) : EvS K E (tSeq (tPar i l tr) u) ρ D := es_seq (M := fun r => EvS K E u r D) (es_par2 h k) fun _ q => q
theorem q_par3 {m : Nat} (h : EvA K tr ρ [x, y, z]) (k : EvS K E u (((ρ.set i (.d x)).set l (.d y)).set m (.d z)) D) : EvS K E (tSeq (tPar3 i l m tr) u) ρ D := es_seq (M := fun r => EvS K E u r D) (es_par3 h k) fun _ q => q
/-- a, b = [], [] -/
theorem q_parNN (hil : i ≠ l) (k : EvS K E u ((ρ.set i (.m [])).set l (.m [])) D) : EvS K E (tSeq (tPar i l (tCons (tLst tNil) (tCons (tLst tNil) tNil))) u) ρ D :=
  es_seq (M := fun r => EvS K E u r D) (es_parNN (en_lst ea_nil (Nat.zero_le _)) (fun r => en_lst ea_nil (Nat.zero_le _)) hil k (fun _ _ _ _ => Iff.rfl)) fun _ q => q
/-- any statement that reaches its end with slots known by a predicate -/
theorem q_mid (M : Rho → Prop) (h : EvS K E t ρ { D with nx := M }) (k : ∀ ρ', M ρ' → EvS K E u ρ' D) : EvS K E (tSeq t u) ρ D := es_seq h k
theorem q_frz (i : Nat) (hi : ρ[i]? = some (.m xs)) (h : EvS K E t (ρ.set i (.l xs)) D) : EvS K E t ρ D := es_frz hi h
end
end TR

/-! own layer: further rules -/
namespace TR
open PySem PySem.Spec PyProof.Rows L2
section
variable {K : PySem.W.Frag} {ρ : Rho} {te ta tb tx ti : TE} {tr : TA} {tt : TT} {x y z : Da} {xs ys zs : List Da} {i j l : Nat} {E : XK} {t u v : TS} {D : DE} {C : Addr}
theorem eqD_nil (xs : List Da) : eqD (.lst xs) (.lst []) = xs.isEmpty := by
  unfold eqD
  simp only [Da.py, PyData.eqv]
  cases xs <;> simp [Da.pys, PyData.eqvAll]
theorem et_neNil (h : EvD K te ρ (.lst xs)) (ok : okD 58 (.lst xs)) : EvT K (tTest (tOp (rNe2 K) te (tLst tNil))) ρ (!xs.isEmpty) := by
  rw [← eqD_nil]
  exact et_test (ef_binD h (EvF.now (EvN.f (en_lst ea_nil (Nat.zero_le _)))) (rv_ned 58 1 ok (fun _ z => by cases z) (by decide) (by decide)))
theorem et_eqNil (h : EvD K te ρ (.lst xs)) (ok : okD 58 (.lst xs)) : EvT K (tTest (tOp (rEq2 K) te (tLst tNil))) ρ (xs.isEmpty) := by
  rw [← eqD_nil]
  exact et_test (ef_binD h (EvF.now (EvN.f (en_lst ea_nil (Nat.zero_le _)))) (rv_eqd 58 1 ok (fun _ z => by cases z) (by decide) (by decide)))
theorem okD_mono {n m : Nat} (hnm : n ≤ m) {d : Da} (h : okD n d) : okD m d := by
  induction n generalizing m d with
  | zero =>
    cases d with
    | lst _ => exact h.elim
    | tup _ => exact h.elim
    | emp => exact h.elim
    | adr _ => exact h.elim
    | ty _ => exact h.elim
    | non => cases m <;> exact h
    | bl _ => cases m <;> exact h
    | int _ => cases m <;> exact h
    | str _ => cases m <;> exact h
  | succ n ih =>
    obtain ⟨m', rfl⟩ : ∃ m', m = m' + 1 := ⟨m - 1, by omega⟩
    cases d with
    | lst xs => exact fun x hx => ih (by omega) (h x hx)
    | tup xs => exact fun x hx => ih (by omega) (h x hx)
    | emp => exact h.elim
    | adr _ => exact h.elim
    | ty _ => exact h.elim
    | non => trivial
    | bl _ => trivial
    | int _ => trivial
    | str _ => exact h
theorem okD_map {α : Type} {n : Nat} {enc : α → Da} (h : ∀ a, okD n (enc a)) (l : List α) : okD (n + 1) (.lst (l.map enc)) := fun x hx => by
  obtain ⟨a, _, rfl⟩ := List.mem_map.mp hx
  exact h a
theorem okD_tup2 {n : Nat} {a b : Da} (ha : okD n a) (hb : okD n b) : okD (n + 1) (.tup [a, b]) := fun x hx => by
  rcases List.mem_cons.mp hx with rfl | hx
  · exact ha
  · rw [List.mem_singleton] at hx
    rw [hx]
    exact hb
/-- a loop over a list that is known, turn by turn -/
def Lp {α : Type} (K : PySem.W.Frag) (E : XK) (t : TS) (f : α → Rho → Rho) (D : DE) : List α → Rho → Prop
  | [], ρ => D.nx ρ
  | a :: l, ρ => EvS K E t (f a ρ) { nx := Lp K E t f D l, rt := D.rt, bk := D.nx, ct := Lp K E t f D l }
theorem es_forPU {α : Type} {j1 j2 : Nat} (e1 e2 : α → Da) (xs : List α) (h : EvF K te ρ (.lst (xs.map fun a => .tup [e1 a, e2 a]))) (k : Lp K E t (fun a ρ => (ρ.set j1 (.d (e1 a))).set j2 (.d (e2 a))) D xs ρ) :
    EvS K E (tFor (iList K te) (gTup K 2 (gCons (gName j1) (gCons (gName j2) gNil))) t) ρ D :=
  es_forP e1 e2 xs h (fun l ρ => Lp K E t (fun a ρ => (ρ.set j1 (.d (e1 a))).set j2 (.d (e2 a))) D l ρ) k (fun a l ρ' q => q) fun ρ' q => q
theorem es_forLU {α : Type} (enc : α → Da) (xs : List α) (h : EvF K te ρ (.lst (xs.map enc))) (k : Lp K E t (fun a ρ => ρ.set j (.d (enc a))) D xs ρ) : EvS K E (tFor (iList K te) (gName j) t) ρ D :=
  es_forL enc xs h (fun l ρ => Lp K E t (fun a ρ => ρ.set j (.d (enc a))) D l ρ) k (fun a l ρ' q => q) fun ρ' q => q
/-- a tuple that is walked -/
theorem es_forTU {α : Type} (enc : α → Da) (xs : List α) (h : EvF K te ρ (.tup (xs.map enc))) (k : Lp K E t (fun a ρ => ρ.set j (.d (enc a))) D xs ρ) : EvS K E (tFor (iTup K te) (gName j) t) ρ D :=
  es_forT (fun _ => enc) (fun x r => r.set j (.d x)) xs (ei_tup h) (List.length_map _) (fun i hi => getD_map enc hi) (fun _ _ => go_name) (fun _ l ρ => Lp K E t (fun a ρ => ρ.set j (.d (enc a))) D l ρ) k (fun _ a l ρ' q => q) fun _ ρ' q => q
theorem set_self {α : Type} {l : List α} {i : Nat} {a : α} (h : l[i]? = some a) : l.set i a = l := by
  obtain ⟨h1, h2⟩ := List.getElem?_eq_some_iff.mp h
  rw [← h2]
  exact List.set_getElem_self h1
/-- an if that stores one name -/
theorem q_ifAsg {b : Bool} (h : EvT K tt ρ b) (h1 : b = true → EvF K te ρ x) (hi : ρ[i]? = some (.d y)) (k : EvS K E u (ρ.set i (.d (if b = true then x else y))) D) : EvS K E (tSeq (tIfS tt (tAsg te (gName i)) tNext) u) ρ D := by
  apply q_if h
  · intro hb
    refine q_asg (h1 hb) ?_
    rw [if_pos hb] at k
    exact k
  · intro hb
    rw [if_neg (by rw [hb]; exact Bool.false_ne_true), set_self hi] at k
    exact q_next k
/-- which built-in class -/
def isIntD : Da → Bool
  | .int _ => true
  | .bl _ => true
  | _ => false
def isBlD : Da → Bool
  | .bl _ => true
  | _ => false
def isStrD : Da → Bool
  | .str _ => true
  | _ => false
def isLstD : Da → Bool
  | .lst _ => true
  | _ => false
def isTupD : Da → Bool
  | .tup _ => true
  | _ => false
theorem kit_int (h : hasTy x) : kitB (tyN x) "int" = some (isIntD x) := by
  cases x <;> first | exact h.elim | (simp only [tyN, isIntD]; decide +kernel)
theorem kit_bool (h : hasTy x) : kitB (tyN x) "bool" = some (isBlD x) := by
  cases x <;> first | exact h.elim | (simp only [tyN, isBlD]; decide +kernel)
theorem kit_str (h : hasTy x) : kitB (tyN x) "str" = some (isStrD x) := by
  cases x <;> first | exact h.elim | (simp only [tyN, isStrD]; decide +kernel)
theorem kit_list (h : hasTy x) : kitB (tyN x) "list" = some (isLstD x) := by
  cases x <;> first | exact h.elim | (simp only [tyN, isLstD]; decide +kernel)
theorem kit_tuple (h : hasTy x) : kitB (tyN x) "tuple" = some (isTupD x) := by
  cases x <;> first | exact h.elim | (simp only [tyN, isTupD]; decide +kernel)
theorem ef_isInt (h : EvD K te ρ x) (ht : hasTy x) : EvF K (tCB (rIsi K) (tCons te (tCons (tC (.ty "int")) tNil))) ρ (.bl (isIntD x)) := ef_isi h ef_ty ht (kit_int ht)
theorem ef_isBool (h : EvD K te ρ x) (ht : hasTy x) : EvF K (tCB (rIsi K) (tCons te (tCons (tC (.ty "bool")) tNil))) ρ (.bl (isBlD x)) := ef_isi h ef_ty ht (kit_bool ht)
theorem ef_isStr (h : EvD K te ρ x) (ht : hasTy x) : EvF K (tCB (rIsi K) (tCons te (tCons (tC (.ty "str")) tNil))) ρ (.bl (isStrD x)) := ef_isi h ef_ty ht (kit_str ht)
theorem ef_isList (h : EvD K te ρ x) (ht : hasTy x) : EvF K (tCB (rIsi K) (tCons te (tCons (tC (.ty "list")) tNil))) ρ (.bl (isLstD x)) := ef_isi h ef_ty ht (kit_list ht)
theorem ef_isTuple (h : EvD K te ρ x) (ht : hasTy x) : EvF K (tCB (rIsi K) (tCons te (tCons (tC (.ty "tuple")) tNil))) ρ (.bl (isTupD x)) := ef_isi h ef_ty ht (kit_tuple ht)
/-! comprehensions over typed items -/
theorem range_map {α : Type} (xs : List α) (keep : α → Bool) (out : α → Da) (kp : Nat → Bool) (ot : Nat → Da) (hk : ∀ i (h : i < xs.length), kp i = keep xs[i]) (ho : ∀ i (h : i < xs.length), ot i = out xs[i]) :
    ((List.range xs.length).filter kp).map ot = (xs.filter keep).map out := by
  have key : ∀ n, n ≤ xs.length → ((List.range n).filter kp).map ot = ((xs.take n).filter keep).map out := by
    intro n
    induction n with
    | zero => intro _; rfl
    | succ n ih =>
      intro h
      have hn : n < xs.length := h
      rw [filter_range_succ, ih (by omega), List.take_succ, List.getElem?_eq_getElem hn]
      simp only [Option.toList_some, List.filter_append, List.map_append]
      congr 1
      rw [hk n hn]
      by_cases e : keep xs[n] = true
      · simp [e, ho n hn]
      · simp [e]
  have := key xs.length (Nat.le_refl _)
  rwa [List.take_length] at this
theorem en_lcT {α : Type} {wi : TI} {g : TG} {vs js : List Nat} {n : Nat} {item : Nat → Da} (enc : α → Da) (f : Da → Rho → Rho) (xs : List α) (keep : α → Bool) (out : α → Da) (hI : EvI K wi ρ n item) (hn : n = xs.length) (hit : ∀ i (h : i < xs.length), item i = enc xs[i]) (hz : xs.length ≤ 1000000)
    (hg : ∀ a, GoT K g (enc a) js (f (enc a))) (hj : ∀ j ∈ js, j ∈ vs) (ht : ∀ a, a ∈ xs → EvT K tt (f (enc a) (wipeR ρ vs)) (keep a)) (he : ∀ a, a ∈ xs → keep a = true → EvF K te (f (enc a) (wipeR ρ vs)) (out a)) : EvN K (tLc wi g tt te vs) ρ ((xs.filter keep).map out) := by
  subst hn
  by_cases h0 : xs = []
  · subst h0
    exact en_lc (js := js) (f := fun i => f (item i)) (fun _ => true) (fun _ => .non) hI (Nat.zero_le _) (fun i h => by cases h) hj (fun i h => by cases h) (fun i h => by cases h)
  · have hp : 0 < xs.length := List.length_pos_iff.mpr h0
    have dflt := xs[0]
    let at' : Nat → α := fun i => if h : i < xs.length then xs[i] else dflt
    have ha : ∀ i (h : i < xs.length), at' i = xs[i] := fun i h => by simp only [at', dif_pos h]
    have e := range_map xs keep out (fun i => keep (at' i)) (fun i => out (at' i)) (fun i h => by rw [ha i h]) (fun i h => by rw [ha i h])
    rw [← e]
    refine en_lc (js := js) (f := fun i => f (item i)) _ _ hI hz (fun i h => ?_) hj (fun i h => ?_) (fun i h hk => ?_)
    · rw [hit i h]
      exact hg _
    · rw [hit i h, ha i h]
      exact ht _ (List.getElem_mem h)
    · rw [hit i h, ha i h]
      rw [ha i h] at hk
      exact he _ (List.getElem_mem h) hk
theorem en_lcL {α : Type} {ts : TE} {vs : List Nat} (enc : α → Da) (xs : List α) (keep : α → Bool) (out : α → Da) (h : EvF K ts ρ (.lst (xs.map enc))) (hz : xs.length ≤ 1000000) (hj : j ∈ vs)
    (ht : ∀ a, a ∈ xs → EvT K tt ((wipeR ρ vs).set j (.d (enc a))) (keep a)) (he : ∀ a, a ∈ xs → keep a = true → EvF K te ((wipeR ρ vs).set j (.d (enc a))) (out a)) : EvN K (tLc (iList K ts) (gName j) tt te vs) ρ ((xs.filter keep).map out) :=
  en_lcT enc (fun x r => r.set j (.d x)) xs keep out (ei_list h) (List.length_map _) (fun i hi => getD_map enc hi) hz (fun _ => go_name) (fun j' h' => by rw [List.mem_singleton] at h'; rw [h']; exact hj) ht he
theorem en_lcTup {α : Type} {ts : TE} {vs : List Nat} (enc : α → Da) (xs : List α) (keep : α → Bool) (out : α → Da) (h : EvF K ts ρ (.tup (xs.map enc))) (hz : xs.length ≤ 1000000) (hj : j ∈ vs)
    (ht : ∀ a, a ∈ xs → EvT K tt ((wipeR ρ vs).set j (.d (enc a))) (keep a)) (he : ∀ a, a ∈ xs → keep a = true → EvF K te ((wipeR ρ vs).set j (.d (enc a))) (out a)) : EvN K (tLc (iTup K ts) (gName j) tt te vs) ρ ((xs.filter keep).map out) :=
  en_lcT enc (fun x r => r.set j (.d x)) xs keep out (ei_tup h) (List.length_map _) (fun i hi => getD_map enc hi) hz (fun _ => go_name) (fun j' h' => by rw [List.mem_singleton] at h'; rw [h']; exact hj) ht he
theorem en_lcRev {α : Type} {ts : TE} {vs : List Nat} (enc : α → Da) (xs : List α) (keep : α → Bool) (out : α → Da) (h : EvF K ts ρ (.lst (xs.map enc))) (hz : xs.length ≤ 1000000) (hj : j ∈ vs)
    (ht : ∀ a, a ∈ xs.reverse → EvT K tt ((wipeR ρ vs).set j (.d (enc a))) (keep a)) (he : ∀ a, a ∈ xs.reverse → keep a = true → EvF K te ((wipeR ρ vs).set j (.d (enc a))) (out a)) : EvN K (tLc (iRev K (tCons ts tNil)) (gName j) tt te vs) ρ ((xs.reverse.filter keep).map out) :=
  en_lcT enc (fun x r => r.set j (.d x)) xs.reverse keep out (ei_rev h) (by rw [List.length_map, List.length_reverse]) (fun i hi => by rw [← List.map_reverse]; exact getD_map enc hi) (by rw [List.length_reverse]; exact hz) (fun _ => go_name) (fun j' h' => by rw [List.mem_singleton] at h'; rw [h']; exact hj) ht he
/-- for a, b in pairs -/
theorem en_lcP {α : Type} {ts : TE} {vs : List Nat} {j1 j2 : Nat} (e1 e2 : α → Da) (xs : List α) (keep : α → Bool) (out : α → Da) (h : EvF K ts ρ (.lst (xs.map fun a => .tup [e1 a, e2 a]))) (hz : xs.length ≤ 1000000) (h1 : j1 ∈ vs) (h2 : j2 ∈ vs)
    (ht : ∀ a, a ∈ xs → EvT K tt (((wipeR ρ vs).set j1 (.d (e1 a))).set j2 (.d (e2 a))) (keep a)) (he : ∀ a, a ∈ xs → keep a = true → EvF K te (((wipeR ρ vs).set j1 (.d (e1 a))).set j2 (.d (e2 a))) (out a)) :
    EvN K (tLc (iList K ts) (gTup K 2 (gCons (gName j1) (gCons (gName j2) gNil))) tt te vs) ρ ((xs.filter keep).map out) :=
  en_lcT (js := [j1, j2]) (fun a => .tup [e1 a, e2 a]) (fun x r => match x with | .tup [a, b] => (r.set j1 (.d a)).set j2 (.d b) | _ => r) xs keep out (ei_list h) (List.length_map _) (fun i hi => getD_map _ hi) hz (fun _ => go_tup2)
    (fun j' h' => by rcases List.mem_cons.mp h' with rfl | h'; exact h1; rw [List.mem_singleton] at h'; rw [h']; exact h2) ht he
theorem filter_yes {α : Type} (xs : List α) : xs.filter (fun _ => true) = xs := List.filter_eq_self.mpr fun _ _ => rfl
end
end TR

/-! own layer: more -/
namespace TR
open PySem PySem.Spec PyProof.Rows L2
section
variable {K : PySem.W.Frag} {ρ ρ' : Rho} {te ta tb tx ts : TE} {tr : TA} {tt : TT} {x y z : Da} {xs ys zs ds : List Da} {i j : Nat} {E : XK} {t u : TS} {D : DE}
/-- sorted(..) of few whole numbers -/
theorem en_sorted {ns ms : List Int} (h : EvM K te ρ (ns.map Da.int)) (hl : ns.length < 64) (hp : ns.Perm ms) (hm : ms.Pairwise (· ≤ ·)) : EvN K (tCB (rSorted K) (tCons te tNil)) ρ (ms.map Da.int) := fun F0 H0 σ F H E Q q => h F0 H0 σ F H E _ fun p vs F1 H1 g1 hs hd => by
  have e := dqa_int hd
  subst e
  refine ⟨p, ns, rfl, hs, hl, fun ns' b k1 k2 hb => ?_⟩
  have e : ns' = ms := List.Perm.eq_of_pairwise (fun _ _ _ _ h1 h2 => Int.le_antisymm h1 h2) k2 hm (k1.trans hp)
  subst e
  exact q b _ F1 _ (g1.trans (Grow.own g1.s hb)) (Same.back g1.h hb) (Same.back g1.s hb) upd_same (ints_dqa F1 ns')
/-- a tuple's items, by what is left -/
theorem es_forTl {α : Type} (enc : α → Da) (xs : List α) (h : EvF K te ρ (.tup (xs.map enc))) (Inv : List α → Rho → Prop) (h0 : Inv xs ρ)
    (hs : ∀ a l ρ', Inv (a :: l) ρ' → EvS K E t (ρ'.set j (.d (enc a))) { nx := Inv l, rt := D.rt, bk := D.nx, ct := Inv l }) (hd : ∀ ρ', Inv [] ρ' → D.nx ρ') : EvS K E (tFor (iTup K te) (gName j) t) ρ D :=
  es_forT (fun _ => enc) (fun x r => r.set j (.d x)) xs (ei_tup h) (List.length_map _) (fun i hi => getD_map enc hi) (fun _ _ => go_name) (fun _ => Inv) h0 (fun _ => hs) (fun _ => hd)
end
end TR

/-! own layer: what an except suite asks of the exception it holds -/
namespace TR
open PySem PySem.Spec PyProof.Rows L2 HotX
/-- a list's iterator at its end, while an exception is handled -/
theorem next_end_hot {prog : Program} {w : World} {A : Around} {E : Value → Shared → Prop} {s0 : Shared} {j l x1 : Addr} {i : Nat} {xs : Array Value} {Q : Option Value → Shared → Prop} (hot : HotAt A x1 s0.heap) (hne : x1 ≠ j)
    (it : s0.heap.IsListIter j l i) (li : s0.heap.IsList l xs) (hx : xs[i]? = none) (want : ∀ h', (∀ b o, b ≠ j → s0.heap.get? b = some o → h'.get? b = some o) → Q none { s0 with heap := h' }) : wpAny (model prog w) A (pyNext (.ref j)) Q E s0 := by
  obtain ⟨oj, gj, cj, dj⟩ := id it
  obtain ⟨ol, gl, _, nl, dl⟩ := li
  obtain ⟨hh, o1, vs1, g1, d1, c1⟩ := hot
  unfold pyNext
  refine wpAny_bind (wpAny_attempt (wpAny_callSpecial?_slot (name := Str.ofString "__next__") it.typeIs slot_listiter_next (wpAny_call_entry slot_listiter_next it.typeIs entry_listiter_next ?_ (args_listiter_next _))))
  show wpAny _ _ (field (.ref j) 0 >>= _) _ _ s0
  refine wpAny_bind (wpAny_field gj dj (x := .ref l) rfl ?_)
  show wpAny _ _ (if (Value.ref l == .none) = true then _ else _) _ _ s0
  refine (if_neg (c := (Value.ref l == .none) = true) (show ¬ (Value.ref l == .none) = true from Bool.false_ne_true)).symm ▸ ?_
  show wpAny _ _ (field (.ref j) 1 >>= _) _ _ s0
  refine wpAny_bind (wpAny_field gj dj (x := .int i 0) rfl ?_)
  show wpAny _ _ (seqItems? (.ref l) >>= _) _ _ s0
  refine wpAny_bind (wpAny_seqItems gl dl ?_)
  simp only [Int.toNat_natCast, hx]
  refine wpAny_bind (wpAny_rule (wpAny_bind (wpAny_setField gj dj (by simp) (show wpAny _ _ (newExc (.type "StopIteration") [] >>= _) _ _ _ from wpAny_bind ?_))))
  simp only [newExc, newTuple]
  refine wpAny_bind (wpAny_newObj_type (wpAny_bind (m := firstArgMember _ _) (wpAny_of_eq (a := Value.none) (by first | rfl | (simp only [firstArgMember]; rfl)) (wpAny_newObj_type ?_ (by size_fits)))) (by size_fits))
  refine raiseNew_hot ⟨hh, o1, vs1, Heap.get?_push_of_some _ (Heap.get?_push_of_some _ ((Heap.get?_update_other _ _ hne.symm).trans g1)), d1, c1⟩ (Nat.ne_of_lt (Heap.lt_size (Heap.get?_push_of_some _ ((Heap.get?_update_other _ _ hne.symm).trans g1)))) (Heap.get?_push_size _ rfl) rfl
    (by first | (simp; done) | (simp; omega) | (simp only [Array.size_append]; simp; omega)) ?_
  refine wpAny_bind (wpAny_isInstance (T := "StopIteration") (b := true) ⟨_, Heap.get?_update_self _ (Heap.get?_push_size _ rfl) rfl, rfl⟩ isSubtype_stop (wpAny_pure (want _ fun b o hb e => ?_)))
  have e2 : (s0.heap.update j (Obj.mapFields fun z => z.setIfInBounds 0 Value.none)).get? b = some o := (Heap.get?_update_other _ _ hb.symm).trans e
  exact (Heap.get?_update_other _ _ (Nat.ne_of_gt (Heap.lt_size (Heap.get?_push_of_some _ e2)))).trans (Heap.get?_push_of_some _ (Heap.get?_push_of_some _ e2))
/-- a list's walk while an exception is handled -/
theorem walks_hot {prog : Program} {w : World} {A : Around} {x1 : Addr} {oe : Obj} {ve : Array Value} (hh : A.handled = some (.ref x1)) (de : oe.data = .fields ve) (ce : ve[2]? = some .none) (I ax : Addr) (n1 : ax ≠ I) (n2 : x1 ≠ I) (items : Array Value) :
    Walks prog w A I [I, ax, x1] [I] items.size (fun i v => items[i]? = some v) (fun i h => (h.IsListIter I ax i ∧ h.IsList ax items) ∧ h.get? x1 = some oe) where
  sub := fun b hb => by simp at hb; simp [hb]
  frame := fun _ _ _ st keep => ⟨⟨st.1.1.at fun o e => keep I (by simp) o e, st.1.2.at fun o e => keep ax (by simp) o e⟩, keep x1 (by simp) oe st.2⟩
  item := fun i s Q E hi st hQ => wpAny_pyNext_list_item st.1.1 st.1.2 (x := items[i]) (by simp [hi]) fun h' hit' hs' =>
    hQ _ h' s.toks (by simp [hi]) ⟨⟨hit', st.1.2.extBut hs'.extBut n1⟩, hs'.extBut x1 oe n2 st.2⟩ fun b o hb e => hs'.extBut b o (fun h => hb (by simp [h])) e
  done := fun s Q E st hQ => next_end_hot ⟨hh, oe, ve, st.2, de, ce⟩ n2 st.1.1 st.1.2 (by simp) fun h' he' => hQ h' s.toks fun b o hb e => he' b o (fun h => hb (by simp [h])) e
  self := fun _ _ _ _ st hQ => wpAny_pyIter_listiter st.1.1 hQ
/-- the exception that the suite holds: its fields, its context -/
structure HotE (oe : Obj) : Prop where
  f : ∃ ve : Array Value, oe.data = .fields ve ∧ ve[2]? = some .none
theorem hotE {cls : Value} {d : Option Addr} {oe : Obj} (hz : L2N.Zn cls d oe) (hf : ∃ vs, oe.data = .fields vs) : HotE oe := ⟨by
  obtain ⟨ve, e⟩ := hf
  exact ⟨ve, e, hz.2.2 ve e⟩⟩
section
variable {X : Cx} {a : Addr} {oe : Obj} {pn : List (Addr × Obj)} {K : PySem.W.Frag}
theorem any_hot (hot : HotE oe) : CallR (X.suite a ((a, oe) :: pn)) (.builtin "any") (rAny X.K) := fun pins s σ H vs us Q I r h => by
  obtain ⟨l, bs, rfl, hs, q⟩ := h
  obtain ⟨its, rv, hl, _⟩ := I.list hs
  obtain ⟨ve, de, ce⟩ := hot.f
  have hb := rv.bls
  have ga : s.heap.get? a = some oe := (I.pin (a, oe) (List.mem_append.mpr (.inl List.mem_cons_self))).1
  rw [Vals.ref1 r]
  refine call_any_walk (iter_any hl.isList fun s₂ e2 st hne => ?_)
  subst e2
  refine ⟨_, _, _, _, _, _, _, rfl, walks_hot (A := (X.suite a ((a, oe) :: pn)).A.in1) (x1 := a) (oe := oe) rfl de ce _ l hne (Nat.ne_of_lt (Heap.lt_size ga)) its.toArray, ⟨st, Heap.get?_push_of_some _ ga⟩, truth_bools hb, fun h' tk hk => ⟨.bl _, H, I.kept fun b o eo => hk b o (fun hmem => ?_) (Heap.get?_push_of_some _ eo), ?_, q⟩⟩
  · rcases List.mem_cons.mp hmem with e1 | e1
    · exact absurd (e1 ▸ Heap.lt_size eo) (Nat.lt_irrefl _)
    · cases e1
  · rw [← L2.any_range, hb, List.size_toArray, List.length_map]
    rfl
theorem anyHot (hz : HotE oe) (hK : X.K = K) : CallR (X.suite a ((a, oe) :: pn)) (.builtin "any") (rAny K) := hK ▸ any_hot hz
/-- isinstance(e, c), e what the suite holds -/
def rIsX (K : PySem.W.Frag) (cls : Value) (d : Option Addr) (a : Addr) : List V → Hp → VK → Prop := fun xs H Q => ∃ D : Addr, cls = .ref D ∧ d = none ∧ ExcC K D ∧ rIsE K D a xs H Q
theorem isX {cls : Value} {d : Option Addr} (hK : X.K = K) (hz : L2N.Zn cls d oe) (hf : ∃ vs, oe.data = .fields vs) : CallR (X.suite a ((a, oe) :: pn)) (.builtin "isinstance") (rIsX K cls d a) := by
  subst hK
  intro pins s σ H xs us Q I r h
  obtain ⟨D, rfl, rfl, C, h⟩ := h
  exact call_isE C hz.zc hf pins s σ H xs us Q I r h
end
section
variable {K : PySem.W.Frag} {ρ ρ' : Rho} {te ta tb tx : TE} {tr : TA} {tt : TT} {x y z : Da} {xs ys zs ds : List Da} {i j : Nat} {E : XK} {t u : TS} {D : DE} {er : Str → Addr}
/-- the facts of own classes of errors: Ds the ones that may come, cs the ones that are asked for -/
structure ExH (K : PySem.W.Frag) (er : Str → Addr) (Ds cs : List Str) : Prop where
  c : ∀ D ∈ Ds, ExcC K (er D)
  m : ∀ D ∈ Ds, PySem.W.exmOne K (.ref (er D)) (.ref (er "TowerError")) = some true
  i : ∀ D ∈ Ds, ∀ c ∈ cs, PySem.W.kitOne K (.ref (er D)) (.ref (er c)) = some (decide (c = D) || decide (c = "TowerError"))
  v : ∀ D ∈ Ds, PySem.W.kitOne K (.ref (er D)) (.type "ValueError") = some true
def exCB (K : PySem.W.Frag) (C : Addr) : Bool := He.eqO (PySem.W.findIn K (.ref C) "__getattribute__") (some (some (.builtin "BaseException.__getattribute__"))) && (He.eqO (PySem.W.findIn K (.ref C) "__getattr__") (some none) && (decide (PySem.W.subIn K (.ref C) (.type "BaseException") = some true) && (PySem.W.hasDictIn K C &&
  (He.eqO (PySem.W.findIn K (.ref C) "__class__") (some (some (.builtin "object.__class__"))) && (He.eqO (PySem.W.specialIn K (.builtin "object.__class__") "__get__") (some (some (.builtin "getset_descriptor.__get__"))) && (decide (PySem.W.takesIn K (.builtin "object.__class__") = some true) && decide (PySem.W.mroIn K C (.type "object") = some true)))))))
theorem exCB_ok {C : Addr} (h : exCB K C = true) : ExcC K C := by
  obtain ⟨h1, h⟩ := He.ba h
  obtain ⟨h2, h⟩ := He.ba h
  obtain ⟨h3, h⟩ := He.ba h
  obtain ⟨h4, h⟩ := He.ba h
  obtain ⟨h5, h⟩ := He.ba h
  obtain ⟨h6, h⟩ := He.ba h
  obtain ⟨h7, h8⟩ := He.ba h
  exact ⟨He.eqO_ok h1, He.eqO_ok h2, of_decide_eq_true h3, h4, He.eqO_ok h5, He.eqO_ok h6, of_decide_eq_true h7, of_decide_eq_true h8⟩
def exHB (K : PySem.W.Frag) (er : Str → Addr) (Ds cs : List Str) : Bool := Ds.all fun D => exCB K (er D) && (decide (PySem.W.exmOne K (.ref (er D)) (.ref (er "TowerError")) = some true) && ((cs.all fun c => decide (PySem.W.kitOne K (.ref (er D)) (.ref (er c)) = some (decide (c = D) || decide (c = "TowerError")))) && decide (PySem.W.kitOne K (.ref (er D)) (.type "ValueError") = some true)))
theorem exHB_ok {Ds cs : List Str} (h : exHB K er Ds cs = true) : ExH K er Ds cs := by
  have k := List.all_eq_true.mp h
  refine ⟨fun D hD => exCB_ok (He.ba (k D hD)).1, fun D hD => of_decide_eq_true (He.ba (He.ba (k D hD)).2).1, fun D hD c hc => of_decide_eq_true (List.all_eq_true.mp (He.ba (He.ba (He.ba (k D hD)).2).2).1 c hc), fun D hD => of_decide_eq_true (He.ba (He.ba (He.ba (k D hD)).2).2).2⟩
theorem ef_isX {Ds cs : List Str} (hX : ExH K er Ds cs) {D c : Str} {a : Addr} (hD : D ∈ Ds) (hc : c ∈ cs) (h : EvF K te ρ (.adr a)) : EvF K (tCB (rIsX K (.ref (er D)) none a) (tCons te (tCons (tC (.ref (er c))) tNil))) ρ (.bl (decide (c = D) || decide (c = "TowerError"))) :=
  fun F0 H0 σ F H e Q q => h F0 H0 σ F H e _ fun v F1 H1 g hv => by
    cases hv
    exact ⟨er D, rfl, rfl, hX.c D hD, .ref (er c), .ref (er c), _, rfl, fun u r => by cases r; rfl, hX.i D hD c hc, q _ F1 H1 g (.bl _)⟩
theorem ef_isV {Ds cs : List Str} (hX : ExH K er Ds cs) {D : Str} {a : Addr} (hD : D ∈ Ds) (h : EvF K te ρ (.adr a)) : EvF K (tCB (rIsX K (.ref (er D)) none a) (tCons te (tCons (tC (.ty "ValueError")) tNil))) ρ (.bl true) :=
  fun F0 H0 σ F H e Q q => h F0 H0 σ F H e _ fun v F1 H1 g hv => by
    cases hv
    exact ⟨er D, rfl, rfl, hX.c D hD, .ty "ValueError", .type "ValueError", _, rfl, fun u r => by cases r; rfl, hX.v D hD, q _ F1 H1 g (.bl _)⟩
/-! ### try: one call, except TowerError as error: suite -/
theorem ef_callS {W : WX} {Gr : List Da → Out → Prop} (ha : EvA K tr ρ ds) (hG : Gr ds (.f z)) : EvF K (tCallS (spD K Gr) (WE W) tr) ρ z := fun F0 H0 σ F H e Q q => ha F0 H0 σ F H e _ fun vs F1 H1 g1 hv =>
  ⟨F1, ds, .f z, g1.s, hv, hG, fun v F2 H2 g2 hd => q v F2 H2 (g1.trans g2) hd⟩
theorem en_callS {W : WX} {Gr : List Da → Out → Prop} (ha : EvA K tr ρ ds) (hG : Gr ds (.n zs)) : EvN K (tCallS (spD K Gr) (WE W) tr) ρ zs := fun F0 H0 σ F H e Q q => ha F0 H0 σ F H e _ fun vs F1 H1 g1 hv =>
  ⟨F1, ds, .n zs, g1.s, hv, hG, fun p us F2 H2 g2 hp hf hh hd => q p us F2 H2 (g1.trans g2) (Same.back g1.h hp) hf hh hd⟩
/-- nothing comes -/
theorem es_try {tb : WX → TS} {c : Value} {ts : Addr → Value → Option Addr → TS} {Wo : WX} (h : ∀ W, EvS K E (tb W) ρ D) : EvS K E (fun D' σ H => tb (wAs K c i ts Wo D') D' σ H) ρ D := fun F0 H0 σ F H e D' a b c d => h _ F0 H0 σ F H e D' a b c d
/-- an own exception comes out of the call and is taken -/
theorem es_tryX {Ds cs : List Str} (hX : ExH K er Ds cs) {C : Str} (hC : C ∈ Ds) {Gr : List Da → Out → Prop} {wrap : TE → TS} {ts : Addr → Value → Option Addr → TS} {Wo : WX} (hw : ∀ (te : TE) (D' : Ends) σ H, (∀ Q, te σ H Q) → wrap te D' σ H) (ha : EvA K tr ρ ds) (hG : Gr ds (.e (er C)))
    (hs : ∀ a, EvS K E (ts a (.ref (er C)) none) (ρ.set i (.d (.adr a))) { nx := fun r => D.nx (r.set i .un), rt := D.rt, bk := fun r => D.bk (r.set i .un), ct := fun r => D.ct (r.set i .un) }) :
    EvS K E (fun D' σ H => wrap (tCallS (spD K Gr) (WE (wAs K (.ref (er "TowerError")) i ts Wo D')) tr) D' σ H) ρ D := fun F0 H0 σ F H e D' a b c d => by
  refine hw _ D' σ H fun Q => ha F0 H0 σ F H e _ fun vs F1 H1 g1 hv => ⟨F1, ds, .e (er C), g1.s, hv, hG, fun H' s' => ⟨true, hX.m C hC, fun _ x hx => ?_, fun z => by cases z⟩⟩
  have e1 : Hs K F0 H0 σ F1 H1 ρ := e.grow g1
  have g2 : Grow F1 H1 F1 H' := ⟨Same.refl _, s', g1.s.trans s', fun _ h _ => h⟩
  have e2 := e1.grow g2
  refine hs x F0 H0 (σ.set i (some (.ref x))) F1 H' (e2.setD i (.adr x)) _ (fun σ3 F3 H3 ρ3 e3 s3 h3 => ?_) b (fun σ3 F3 H3 ρ3 e3 s3 h3 => ?_) (fun σ3 F3 H3 ρ3 e3 s3 h3 => ?_)
  · exact a _ F3 H3 _ (e3.set i (o := none) (r := .un) trivial fun _ z => by cases z) ((g1.trans g2).f.trans s3) h3
  · exact c _ F3 H3 _ (e3.set i (o := none) (r := .un) trivial fun _ z => by cases z) ((g1.trans g2).f.trans s3) h3
  · exact d _ F3 H3 _ (e3.set i (o := none) (r := .un) trivial fun _ z => by cases z) ((g1.trans g2).f.trans s3) h3
theorem q_tryN {Gr : List Da → Out → Prop} {c : Value} {ts : Addr → Value → Option Addr → TS} {Wo : WX} (ha : EvA K tr ρ ds) (hG : Gr ds (.n zs)) (k : D.rt (.n zs)) : EvS K E (tSeq (fun D' σ H => tRet (tCallS (spD K Gr) (WE (wAs K c i ts Wo D')) tr) D' σ H) u) ρ D :=
  es_seq (M := fun _ => False) (es_try (tb := fun W => tRet (tCallS (spD K Gr) (WE W) tr)) fun W => es_retN (en_callS ha hG) k) fun _ q => q.elim
theorem q_tryD {Gr : List Da → Out → Prop} {c : Value} {ts : Addr → Value → Option Addr → TS} {Wo : WX} (ha : EvA K tr ρ ds) (hG : Gr ds (.f z)) (k : EvS K E u ρ D) : EvS K E (tSeq (fun D' σ H => tDrop (tCallS (spD K Gr) (WE (wAs K c i ts Wo D')) tr) D' σ H) u) ρ D :=
  es_seq (M := fun r => EvS K E u r D) (es_try (tb := fun W => tDrop (tCallS (spD K Gr) (WE W) tr)) fun W => es_drop (ef_callS ha hG) k) fun _ q => q
theorem q_tryDN {Gr : List Da → Out → Prop} {c : Value} {ts : Addr → Value → Option Addr → TS} {Wo : WX} (ha : EvA K tr ρ ds) (hG : Gr ds (.n zs)) (k : EvS K E u ρ D) : EvS K E (tSeq (fun D' σ H => tDrop (tCallS (spD K Gr) (WE (wAs K c i ts Wo D')) tr) D' σ H) u) ρ D :=
  es_seq (M := fun r => EvS K E u r D) (es_try (tb := fun W => tDrop (tCallS (spD K Gr) (WE W) tr)) fun W => es_drop (en_callS ha hG).f k) fun _ q => q
theorem q_tryX {Ds cs : List Str} (hX : ExH K er Ds cs) {C : Str} (hC : C ∈ Ds) {Gr : List Da → Out → Prop} {ts : Addr → Value → Option Addr → TS} {Wo : WX} (ha : EvA K tr ρ ds) (hG : Gr ds (.e (er C)))
    (hs : ∀ a, EvS K E (ts a (.ref (er C)) none) (ρ.set i (.d (.adr a))) { nx := fun r => EvS K E u (r.set i .un) D, rt := D.rt, bk := fun r => D.bk (r.set i .un), ct := fun r => D.ct (r.set i .un) }) :
    EvS K E (tSeq (fun D' σ H => tRet (tCallS (spD K Gr) (WE (wAs K (.ref (er "TowerError")) i ts Wo D')) tr) D' σ H) u) ρ D :=
  es_seq (M := fun r => EvS K E u r D) (es_tryX (wrap := tRet) hX hC (fun te D' σ H h => h _) ha hG hs) fun _ q => q
theorem q_tryXD {Ds cs : List Str} (hX : ExH K er Ds cs) {C : Str} (hC : C ∈ Ds) {Gr : List Da → Out → Prop} {ts : Addr → Value → Option Addr → TS} {Wo : WX} (ha : EvA K tr ρ ds) (hG : Gr ds (.e (er C)))
    (hs : ∀ a, EvS K E (ts a (.ref (er C)) none) (ρ.set i (.d (.adr a))) { nx := fun r => EvS K E u (r.set i .un) D, rt := D.rt, bk := fun r => D.bk (r.set i .un), ct := fun r => D.ct (r.set i .un) }) :
    EvS K E (tSeq (fun D' σ H => tDrop (tCallS (spD K Gr) (WE (wAs K (.ref (er "TowerError")) i ts Wo D')) tr) D' σ H) u) ρ D :=
  es_seq (M := fun r => EvS K E u r D) (es_tryX (wrap := tDrop) hX hC (fun te D' σ H h => h _) ha hG hs) fun _ q => q
end
/-- a call in a try's body -/
theorem pe_calT {X : Cx} {k : Nat} {x : Str} {ps : List Str} {Gr : List Da → Out → Prop} {p pos : Pos} {e : Expr} {es : List Expr} {t : TA} {P : Program} {w : World} {K : PySem.W.Frag} {mg : Str → Option Value} {base : Heap} {W : WX} (C : Cal P w K mg base k x ps Gr)
    (hX : X.prog = P ∧ X.w = w ∧ X.K = K ∧ X.mg = mg ∧ X.base = base) (hr : Room k X.A) (hg : Gl X x) (tk : L2N.Takes X W) (ha : PA X (e :: es) t) (hdb : (x == ("__debug__" : Str)) = false := by decide)
    (he : starEach (e :: es) X.env = (false, eval e X.env) :: starEach es X.env := by rfl) (hpl : (backTo pos (starEach es X.env)).any (·.1) = false := by rfl) : PE X (.Call (.Name x p) (e :: es) [] pos) (tCallS (spD K Gr) (WE W) t) := by
  obtain ⟨rfl, rfl, rfl, rfl, rfl⟩ := hX
  obtain ⟨f, fd, F, hm, hk, hb⟩ := C.ex
  exact pe_callS F hr hg hm hk hb (fun σ pins H s e s' I c => tk e s' (L2N.XE.of_call I (fun _ _ _ h => h) c)) ha hdb he hpl
/-! ### a list or a tuple that is walked; one more shape of stores; is None -/
def iLT (K : PySem.W.Frag) (tl : TE) : TI := fun σ H R => iList K tl σ H R ∨ iTup K tl σ H R
theorem pi_LT {X : Cx} {K : PySem.W.Frag} {tg e : Expr} {tl : TE} (hK : X.K = K) (he : PE X e tl) : PI X tg e (iLT K tl) := by
  subst hK
  exact ⟨fun pins s σ H R I h => h.elim (fun h => (pi_list he).run pins s σ H R I h) fun h => (pi_tup he).run pins s σ H R I h⟩
theorem opIsN {X : Cx} : OpR X (compareOp .Is) (fun x y H Q => y = .non ∧ Q (.bl (decide (x = .non))) H) := op_isN
section
variable {K : PySem.W.Frag} {ρ ρ' : Rho} {te ta tb tx : TE} {x y z : Da} {xs ys zs ds : List Da} {i j l m : Nat} {E : XK} {t u : TS} {D : DE}
theorem ei_LTl {n : Nat} {item : Nat → Da} (h : EvI K (iList K te) ρ n item) : EvI K (iLT K te) ρ n item := fun F0 H0 σ F H e R q => .inl (h F0 H0 σ F H e R q)
theorem ei_LTr {n : Nat} {item : Nat → Da} (h : EvI K (iTup K te) ρ n item) : EvI K (iLT K te) ρ n item := fun F0 H0 σ F H e R q => .inr (h F0 H0 σ F H e R q)
theorem rv_isN (h : x ≠ .non) : RvD K (fun x y H Q => y = V.non ∧ Q (.bl (decide (x = .non))) H) x .non (.bl false) := fun v u H Q hv hu q => by
  cases hu
  refine ⟨rfl, ?_⟩
  have : v ≠ .non := fun z => by
    subst z
    cases hv
    exact h rfl
  rw [decide_eq_false this]
  exact q _ fun F => .bl _
theorem rv_isNy : RvD K (fun x y H Q => y = V.non ∧ Q (.bl (decide (x = .non))) H) .non .non (.bl true) := fun v u H Q hv hu q => by
  cases hu
  cases hv
  exact ⟨rfl, q _ fun F => .bl _⟩
theorem q_par3N (h1 : EvF K ta ρ x) (h2 : EvF K tb ρ y) (k : EvS K E u (((ρ.set i (.d x)).set j (.d y)).set l (.m [])) D) : EvS K E (tSeq (tPar3 i j l (tCons ta (tCons tb (tCons (tLst tNil) tNil)))) u) ρ D :=
  es_seq (M := fun r => EvS K E u r D) (fun F0 H0 σ F H e D' a b c d => h1 F0 H0 σ F H e _ fun v F1 H1 g1 hv => h2 F0 H0 σ F1 H1 (e.grow g1) _ fun w F2 H2 g2 hw =>
    (en_lst ea_nil (Nat.zero_le _) : EvN K (tLst tNil) ρ []) F0 H0 σ F2 H2 ((e.grow g1).grow g2) _ fun p vs F3 H3 g3 hp hf hh hd =>
      ⟨v, w, .ref p, rfl, a _ F3 H3 _ (((((e.grow g1).grow g2).setD i (Dq.mono g2.f _ _ hv)).setD j hw).setM l g3 hp hf hh hd) ((g1.f.trans g2.f).trans g3.f) k⟩) fun _ q => q
end
end TR

/-! plain mathematics: discs on three pegs; states with the greatest disc first -/
namespace TM
inductive Ru where
  | free | line | round
deriving DecidableEq
abbrev Pg := Fin 3
theorem fin3 {P : Pg → Prop} (h0 : P 0) (h1 : P 1) (h2 : P 2) : ∀ a, P a
  | 0 => h0
  | 1 => h1
  | 2 => h2
/-- one step leads from a to b -/
def near : Ru → Pg → Pg → Bool
  | .free, _, _ => true
  | .line, a, b => a.val + 1 == b.val || b.val + 1 == a.val
  | .round, a, b => b == a + 1
/-- the third peg -/
def thi (a b : Pg) : Pg := -(a + b)
/-- where a disc on a goes first, on its way to b -/
def fs (r : Ru) (a b : Pg) : Pg := if near r a b = true then b else thi a b
/-- whole towers of n: to a near peg, to the far one -/
def tw (r : Ru) : Nat → Nat × Nat
  | 0 => (0, 0)
  | n + 1 => match r with
    | .free => (2 * (tw r n).1 + 1, 2 * (tw r n).1 + 1)
    | .line => ((tw r n).2 + 1 + (tw r n).1, 3 * (tw r n).2 + 2)
    | .round => (2 * (tw r n).2 + 1, 2 * (tw r n).2 + 2 + (tw r n).1)
def tower (r : Ru) (n : Nat) (a b : Pg) : Nat := if a = b then 0 else if near r a b = true then (tw r n).1 else (tw r n).2
/-- from a disc's first move on, n lesser ones -/
def bf (r : Ru) (n : Nat) (a b : Pg) : Nat := if a = b then 0 else if near r a b = true then 1 + tower r n (thi a b) b else 1 + tower r n b a + 1 + tower r n a b
/-- the steps of a disc -/
def steps (r : Ru) (a b : Pg) : List (Pg × Pg) := if a = b then [] else if near r a b = true then [(a, b)] else [(a, thi a b), (thi a b, b)]
/-- where the lesser ones are to go first -/
def nx (r : Ru) (a g : Pg) : Pg := if a = g then g else thi a (fs r a g)
def L (r : Ru) : List Pg → Pg → Nat
  | [], _ => 0
  | a :: s, g => L r s (nx r a g) + bf r s.length a g
/-- the next move: how many lesser discs, the peg -/
def nm (r : Ru) : List Pg → Pg → Option (Nat × Pg)
  | [], _ => none
  | a :: s, g => match nm r s (nx r a g) with
    | some m => some m
    | none => if a = g then none else some (s.length, fs r a g)
/-- a move is made -/
def ap : Nat × Pg → List Pg → List Pg
  | _, [] => []
  | m, a :: s => if m.1 = s.length then m.2 :: s else a :: ap m s
/-- a move can be done -/
def lg (r : Ru) : Nat × Pg → List Pg → Prop
  | _, [] => False
  | m, a :: s => if m.1 = s.length then a ≠ m.2 ∧ near r a m.2 = true ∧ ∀ x ∈ s, x = thi a m.2 else lg r m s

theorem all_rep {s : List Pg} {p : Pg} (h : ∀ x ∈ s, x = p) : s = List.replicate s.length p := List.eq_replicate_iff.mpr ⟨rfl, h⟩
theorem tw_succ (r : Ru) (n : Nat) : tw r (n + 1) = match r with
    | .free => (2 * (tw r n).1 + 1, 2 * (tw r n).1 + 1)
    | .line => ((tw r n).2 + 1 + (tw r n).1, 3 * (tw r n).2 + 2)
    | .round => (2 * (tw r n).2 + 1, 2 * (tw r n).2 + 2 + (tw r n).1) := by cases r <;> rfl
theorem tw_facts (r : Ru) : ∀ n : Nat, (tw r n).1 ≤ (tw r n).2 ∧ (tw r n).2 ≤ 2 * (tw r n).1 ∧ (r = .free → (tw r n).1 = (tw r n).2)
  | 0 => by simp [tw]
  | n + 1 => by
    have h := tw_facts r n
    rw [tw_succ]
    cases r <;> simp only [reduceCtorEq, false_imp_iff, true_imp_iff, and_true] at h ⊢ <;> omega
theorem tw_pos (r : Ru) (n : Nat) : 0 < n → 1 ≤ (tw r n).1 := by
  intro h
  obtain ⟨m, rfl⟩ : ∃ m, n = m + 1 := ⟨n - 1, by omega⟩
  rw [tw_succ]
  cases r <;> simp only [] <;> omega
theorem L_rep (r : Ru) (n : Nat) : ∀ (p q : Pg), L r (List.replicate n p) q = tower r n p q := by
  induction n with
  | zero => intro p q; cases r <;> revert p q <;> decide
  | succ n ih =>
    intro p q
    rw [List.replicate_succ, L, ih, List.length_replicate]
    unfold bf tower
    rw [tw_succ]
    have hf := (tw_facts r n).2.2
    clear ih
    generalize tw r n = xy at hf ⊢
    obtain ⟨x, y⟩ := xy
    revert p q
    cases r
    · have h := hf rfl
      simp only at h
      subst h
      refine fin3 (fin3 ?_ ?_ ?_) (fin3 ?_ ?_ ?_) (fin3 ?_ ?_ ?_) <;> simp (decide := true) [nx, fs, near, thi] <;> omega
    · refine fin3 (fin3 ?_ ?_ ?_) (fin3 ?_ ?_ ?_) (fin3 ?_ ?_ ?_) <;> simp (decide := true) [nx, fs, near, thi] <;> omega
    · refine fin3 (fin3 ?_ ?_ ?_) (fin3 ?_ ?_ ?_) (fin3 ?_ ?_ ?_) <;> simp (decide := true) [nx, fs, near, thi] <;> omega
theorem near_fs (r : Ru) : ∀ a g : Pg, a ≠ g → near r a (fs r a g) = true ∧ a ≠ fs r a g ∧ thi a (fs r a g) = nx r a g := by
  cases r <;> decide
theorem bf_pos (r : Ru) (n : Nat) {a g : Pg} (h : a ≠ g) : 1 ≤ bf r n a g := by
  unfold bf
  rw [if_neg h]
  split <;> omega
theorem bf_self (r : Ru) (n : Nat) (a : Pg) : bf r n a a = 0 := by unfold bf; rw [if_pos rfl]
theorem nx_self (r : Ru) (a : Pg) : nx r a a = a := by unfold nx; rw [if_pos rfl]
/-- none is next just where nothing is left: where all are there -/
theorem nm_none (r : Ru) : ∀ (t : List Pg) (g : Pg), (nm r t g = none ↔ L r t g = 0) ∧ (L r t g = 0 ↔ t = List.replicate t.length g)
  | [], g => by simp [nm, L]
  | a :: s, g => by
    obtain ⟨h1, h2⟩ := nm_none r s (nx r a g)
    by_cases e : a = g
    · subst e
      rw [nx_self] at h1 h2
      have hL : L r (a :: s) a = L r s a := by rw [L, nx_self, bf_self]; omega
      have hN : nm r (a :: s) a = none ↔ nm r s a = none := by
        rw [nm, nx_self]
        cases nm r s a <;> simp
      rw [hL, hN, List.length_cons, List.replicate_succ]
      exact ⟨h1, h2.trans ⟨fun h => by rw [← h], fun h => (List.cons.inj h).2⟩⟩
    · have hb := bf_pos r s.length e
      have hL : L r (a :: s) g ≠ 0 := by rw [L]; omega
      have hN : nm r (a :: s) g ≠ none := by
        rw [nm]
        cases nm r s (nx r a g) <;> simp [e]
      refine ⟨⟨fun h => absurd h hN, fun h => absurd h hL⟩, ⟨fun h => absurd h hL, fun h => ?_⟩⟩
      rw [List.length_cons, List.replicate_succ] at h
      exact absurd (List.cons.inj h).1 e
theorem ap_len (m : Nat × Pg) : ∀ t : List Pg, (ap m t).length = t.length
  | [] => rfl
  | a :: s => by
    rw [ap]
    split
    · rfl
    · rw [List.length_cons, List.length_cons, ap_len m s]
theorem lg_lt (r : Ru) (m : Nat × Pg) : ∀ t : List Pg, lg r m t → m.1 < t.length
  | [], h => h.elim
  | a :: s, h => by
    rw [lg] at h
    rw [List.length_cons]
    split at h
    · omega
    · have := lg_lt r m s h
      omega
/-- the top disc's move among whole towers, in numbers -/
theorem top_num (r : Ru) (n : Nat) : ∀ a e g : Pg, a ≠ e → near r a e = true → tower r n (thi a e) (nx r a g) + bf r n a g ≤ tower r n (thi a e) (nx r e g) + bf r n e g + 1 ∧
    (tower r n (thi a e) (nx r a g) + bf r n a g = tower r n (thi a e) (nx r e g) + bf r n e g + 1 → a ≠ g ∧ e = fs r a g) := by
  have hf := tw_facts r n
  unfold bf tower
  generalize tw r n = xy at hf ⊢
  obtain ⟨x, y⟩ := xy
  cases r
  · have h := hf.2.2 rfl
    simp only at h
    subst h
    refine fin3 (fin3 (fin3 ?_ ?_ ?_) (fin3 ?_ ?_ ?_) (fin3 ?_ ?_ ?_)) (fin3 (fin3 ?_ ?_ ?_) (fin3 ?_ ?_ ?_) (fin3 ?_ ?_ ?_)) (fin3 (fin3 ?_ ?_ ?_) (fin3 ?_ ?_ ?_) (fin3 ?_ ?_ ?_)) <;> simp (decide := true) [nx, fs, near, thi] <;> omega
  · simp only [reduceCtorEq, false_imp_iff, and_true] at hf
    refine fin3 (fin3 (fin3 ?_ ?_ ?_) (fin3 ?_ ?_ ?_) (fin3 ?_ ?_ ?_)) (fin3 (fin3 ?_ ?_ ?_) (fin3 ?_ ?_ ?_) (fin3 ?_ ?_ ?_)) (fin3 (fin3 ?_ ?_ ?_) (fin3 ?_ ?_ ?_) (fin3 ?_ ?_ ?_)) <;> simp (decide := true) [nx, fs, near, thi] <;> omega
  · simp only [reduceCtorEq, false_imp_iff, and_true] at hf
    refine fin3 (fin3 (fin3 ?_ ?_ ?_) (fin3 ?_ ?_ ?_) (fin3 ?_ ?_ ?_)) (fin3 (fin3 ?_ ?_ ?_) (fin3 ?_ ?_ ?_) (fin3 ?_ ?_ ?_)) (fin3 (fin3 ?_ ?_ ?_) (fin3 ?_ ?_ ?_) (fin3 ?_ ?_ ?_)) <;> simp (decide := true) [nx, fs, near, thi] <;> omega
/-- a move takes off one at most, and one only if it is the next -/
theorem move_le (r : Ru) : ∀ (t : List Pg) (g : Pg) (m : Nat × Pg), lg r m t → L r t g ≤ L r (ap m t) g + 1 ∧ (L r t g = L r (ap m t) g + 1 → nm r t g = some m)
  | [], _, _, h => h.elim
  | a :: s, g, (d, e), h => by
    rw [lg] at h
    rw [ap]
    by_cases hd : d = s.length
    · rw [if_pos hd] at h ⊢
      obtain ⟨h1, h2, h3⟩ := h
      have hs := all_rep h3
      obtain ⟨k1, k2⟩ := top_num r s.length a e g h1 h2
      have e1 : L r (a :: s) g = tower r s.length (thi a e) (nx r a g) + bf r s.length a g := by
        rw [L]
        congr 1
        rw [hs, L_rep, List.length_replicate]
      have e2 : L r (e :: s) g = tower r s.length (thi a e) (nx r e g) + bf r s.length e g := by
        rw [L]
        congr 1
        rw [hs, L_rep, List.length_replicate]
      rw [e1, e2]
      refine ⟨k1, fun q => ?_⟩
      obtain ⟨z1, z2⟩ := k2 q
      have hn : nm r s (nx r a g) = none := by
        rw [(nm_none r s _).1, (nm_none r s _).2]
        have := (near_fs r a g z1).2.2
        rw [← z2] at this
        rw [← this]
        exact hs
      rw [nm, hn]
      simp only [if_neg z1]
      rw [← z2, ← hd]
    · rw [if_neg hd] at h ⊢
      obtain ⟨k1, k2⟩ := move_le r s (nx r a g) (d, e) h
      rw [L, L, ap_len]
      refine ⟨by omega, fun q => ?_⟩
      rw [nm, k2 (by omega)]
/-- the next move can be done and takes off one -/
theorem next_ok (r : Ru) : ∀ (t : List Pg) (g : Pg) (m : Nat × Pg), nm r t g = some m → lg r m t ∧ L r t g = L r (ap m t) g + 1
  | [], _, _, h => by cases h
  | a :: s, g, (d, e), h => by
    rw [nm] at h
    cases hs : nm r s (nx r a g) with
    | some m' =>
      rw [hs] at h
      have e0 := Option.some.inj h
      subst e0
      obtain ⟨k1, k2⟩ := next_ok r s (nx r a g) (d, e) hs
      have hl := lg_lt r _ s k1
      have hd : ¬ d = s.length := by
        have : d < s.length := hl
        omega
      rw [lg, ap, if_neg hd, if_neg hd, L, L, ap_len]
      exact ⟨k1, by omega⟩
    | none =>
      rw [hs] at h
      by_cases ha : a = g
      · simp only [if_pos ha] at h
        cases h
      · simp only [if_neg ha] at h
        have e0 := Option.some.inj h
        obtain ⟨rfl, rfl⟩ := Prod.mk.inj e0
        have hz := (nm_none r s (nx r a g)).2.mp ((nm_none r s (nx r a g)).1.mp hs)
        obtain ⟨n1, n2, n3⟩ := near_fs r a g ha
        rw [lg, ap, if_pos rfl, if_pos rfl]
        refine ⟨⟨n2, n1, ?_⟩, ?_⟩
        · rw [n3]
          exact fun x hx => (List.eq_replicate_iff.mp hz).2 x hx
        · have hs' : s = List.replicate s.length (thi a (fs r a g)) := by rw [n3]; exact hz
          have e1 : L r (a :: s) g = tower r s.length (thi a (fs r a g)) (nx r a g) + bf r s.length a g := by
            rw [L]
            congr 1
            rw [hs', L_rep, List.length_replicate]
          have e2 : L r (fs r a g :: s) g = tower r s.length (thi a (fs r a g)) (nx r (fs r a g) g) + bf r s.length (fs r a g) g := by
            rw [L]
            congr 1
            rw [hs', L_rep, List.length_replicate]
          rw [e1, e2]
          generalize s.length = n
          have hf := tw_facts r n
          clear hs h e0 hz n1 n2 n3 hs' e1 e2
          revert a g
          unfold bf tower
          generalize tw r n = xy at hf ⊢
          obtain ⟨x, y⟩ := xy
          cases r
          · have h := hf.2.2 rfl
            simp only at h
            subst h
            refine fin3 (fin3 ?_ ?_ ?_) (fin3 ?_ ?_ ?_) (fin3 ?_ ?_ ?_) <;> simp (decide := true) [nx, fs, near, thi] <;> omega
          · refine fin3 (fin3 ?_ ?_ ?_) (fin3 ?_ ?_ ?_) (fin3 ?_ ?_ ?_) <;> simp (decide := true) [nx, fs, near, thi] <;> omega
          · refine fin3 (fin3 ?_ ?_ ?_) (fin3 ?_ ?_ ?_) (fin3 ?_ ?_ ?_) <;> simp (decide := true) [nx, fs, near, thi] <;> omega
/-- by the rules that go both ways a move is taken back by a move -/
theorem move_back (r : Ru) (hr : r ≠ .round) : ∀ (t : List Pg) (m : Nat × Pg), lg r m t → ∃ e, lg r (m.1, e) (ap m t) ∧ ap (m.1, e) (ap m t) = t
  | [], _, h => h.elim
  | a :: s, (d, e), h => by
    rw [lg] at h
    rw [ap]
    by_cases hd : d = s.length
    · rw [if_pos hd] at h ⊢
      obtain ⟨h1, h2, h3⟩ := h
      refine ⟨a, ?_, ?_⟩
      · rw [lg, if_pos hd]
        refine ⟨fun z => h1 z.symm, ?_, fun x hx => ?_⟩
        · have key : ∀ (r : Ru) (a e : Pg), r ≠ .round → near r a e = true → near r e a = true := by
            intro r
            cases r <;> decide
          exact key r a e hr h2
        · rw [h3 x hx]
          have : ∀ a e : Pg, thi a e = thi e a := by decide
          exact this a e
      · rw [ap, if_pos hd]
    · rw [if_neg hd] at h ⊢
      obtain ⟨e', k1, k2⟩ := move_back r hr s (d, e) h
      refine ⟨e', ?_, ?_⟩
      · rw [lg, if_neg (by rw [ap_len]; exact hd)]
        exact k1
      · rw [ap, if_neg (by rw [ap_len]; exact hd), k2]
theorem move_ge (r : Ru) (hr : r ≠ .round) (t : List Pg) (g : Pg) (m : Nat × Pg) (h : lg r m t) : L r (ap m t) g ≤ L r t g + 1 := by
  obtain ⟨e, k1, k2⟩ := move_back r hr t m h
  have := (move_le r _ g _ k1).1
  rw [k2] at this
  exact this

/-! ### goals, sums, the least disc that is to go: over lists -/
/-- for each disc the peg to which it is to go first, the greatest first -/
def goG (r : Ru) : List Pg → Pg → List Pg
  | [], _ => []
  | a :: s, g => g :: goG r s (nx r a g)
theorem goG_len (r : Ru) : ∀ (t : List Pg) (g : Pg), (goG r t g).length = t.length
  | [], _ => rfl
  | a :: s, g => by rw [goG, List.length_cons, List.length_cons, goG_len r s]
/-- the same, the least first; for a state with the least disc first -/
def gls (r : Ru) (s : List Pg) (g : Pg) : List Pg := (goG r s.reverse g).reverse
theorem gls_len (r : Ru) (s : List Pg) (g : Pg) : (gls r s g).length = s.length := by rw [gls, List.length_reverse, goG_len, List.length_reverse]
def sumF (r : Ru) : Nat → List Pg → List Pg → Nat
  | i, a :: s, g :: gs => bf r i a g + sumF r (i + 1) s gs
  | _, _, _ => 0
theorem sumF_app (r : Ru) (a g : Pg) : ∀ (i : Nat) (s gs : List Pg), s.length = gs.length → sumF r i (s ++ [a]) (gs ++ [g]) = sumF r i s gs + bf r (i + s.length) a g
  | i, [], [], _ => by simp [sumF]
  | i, [], _ :: _, h => by simp at h
  | i, _ :: _, [], h => by simp at h
  | i, x :: s, y :: gs, h => by
    rw [List.cons_append, List.cons_append, sumF, sumF, sumF_app r a g (i + 1) s gs (by simpa using h), List.length_cons]
    have e : i + 1 + s.length = i + (s.length + 1) := by omega
    rw [e]
    omega
theorem sumF_L (r : Ru) : ∀ (t : List Pg) (g : Pg), sumF r 0 t.reverse (goG r t g).reverse = L r t g
  | [], _ => rfl
  | a :: s, g => by
    rw [goG, List.reverse_cons, List.reverse_cons, sumF_app r a g 0 _ _ (by rw [List.length_reverse, List.length_reverse, goG_len]), sumF_L r s, List.length_reverse, Nat.zero_add, L]
theorem sumF_left (r : Ru) (s : List Pg) (g : Pg) : sumF r 0 s (gls r s g) = L r s.reverse g := by
  have := sumF_L r s.reverse g
  rw [List.reverse_reverse] at this
  exact this
def nmF (r : Ru) : Nat → List Pg → List Pg → Option (Nat × Pg)
  | i, a :: s, g :: gs => if a = g then nmF r (i + 1) s gs else some (i, fs r a g)
  | _, _, _ => none
theorem nmF_app (r : Ru) (a g : Pg) : ∀ (i : Nat) (s gs : List Pg), s.length = gs.length → nmF r i (s ++ [a]) (gs ++ [g]) = match nmF r i s gs with
    | some m => some m
    | none => if a = g then none else some (i + s.length, fs r a g)
  | i, [], [], _ => by simp [nmF]
  | i, [], _ :: _, h => by simp at h
  | i, _ :: _, [], h => by simp at h
  | i, x :: s, y :: gs, h => by
    rw [List.cons_append, List.cons_append, nmF, nmF, nmF_app r a g (i + 1) s gs (by simpa using h), List.length_cons]
    have e : i + 1 + s.length = i + (s.length + 1) := by omega
    rw [e]
    by_cases hxy : x = y
    · rw [if_pos hxy, if_pos hxy]
    · rw [if_neg hxy, if_neg hxy]
theorem nmF_nm (r : Ru) : ∀ (t : List Pg) (g : Pg), nmF r 0 t.reverse (goG r t g).reverse = nm r t g
  | [], _ => rfl
  | a :: s, g => by
    rw [goG, List.reverse_cons, List.reverse_cons, nmF_app r a g 0 _ _ (by rw [List.length_reverse, List.length_reverse, goG_len]), nmF_nm r s, List.length_reverse, Nat.zero_add, nm]
theorem nmF_next (r : Ru) (s : List Pg) (g : Pg) : nmF r 0 s (gls r s g) = nm r s.reverse g := by
  have := nmF_nm r s.reverse g
  rw [List.reverse_reverse] at this
  exact this
theorem steps_nil (r : Ru) (a g : Pg) : steps r a g = [] ↔ a = g := by
  unfold steps
  by_cases h : a = g
  · simp [h]
  · rw [if_neg h]
    refine ⟨fun z => ?_, fun z => absurd z h⟩
    split at z <;> cases z
theorem steps_head (r : Ru) {a g : Pg} (h : a ≠ g) : ∃ l, steps r a g = (a, fs r a g) :: l := by
  unfold steps fs
  rw [if_neg h]
  by_cases hn : near r a g = true
  · rw [if_pos hn, if_pos hn]
    exact ⟨_, rfl⟩
  · rw [if_neg hn, if_neg hn]
    exact ⟨_, rfl⟩
theorem nx_ne (r : Ru) {a g : Pg} (h : a ≠ g) : nx r a g = thi a (fs r a g) := by rw [nx, if_neg h]
end TM

/-! plain mathematics: what a law's helpers give -/
namespace TM
/-! ### draws -/
def prs : List Int := [1000003, 1000033, 1000037, 1000039, 1000081, 1000099, 1000117, 1000121, 1000133, 1000151, 1000159, 1000171, 1000183, 1000187, 1000193, 1000199]
def prAt (k : Nat) : Int := prs.getD (k % 16) 1
theorem prAt_pos (k : Nat) : 0 < prAt k := by
  unfold prAt
  have h : k % 16 < 16 := Nat.mod_lt _ (by decide)
  have key : ∀ j, j < 16 → 0 < prs.getD j 1 := by decide
  exact key _ h
def drw (c : Int) (k m : Nat) : Nat := ((c * 48271 + (k : Int) * 69621) % prAt k % (m : Int)).toNat
theorem drw_int (c : Int) (k m : Nat) (h : 0 < m) : (c * 48271 + (k : Int) * 69621) % prAt k % (m : Int) = (drw c k m : Int) := by
  have h1 : 0 ≤ (c * 48271 + (k : Int) * 69621) % prAt k % (m : Int) := Int.emod_nonneg _ (by omega)
  unfold drw
  omega
theorem drw_lt (c : Int) (k m : Nat) (h : 0 < m) : drw c k m < m := by
  have h1 : (c * 48271 + (k : Int) * 69621) % prAt k % (m : Int) < m := Int.emod_lt_of_pos _ (by omega)
  rw [drw_int c k m h] at h1
  omega
def cel (ns : List Int) (k : Nat) : Int := ns.getD k 0
def drP (c : Int) (k : Nat) : Pg := ⟨drw c k 3, drw_lt c k 3 (by decide)⟩
/-- one turn of the drawn state -/
def peg1 (kind : Nat) (len by_ : Nat) (k : Nat) (c : Int) : Pg :=
  let p0 := drP c (k % 5 + by_)
  let p1 := if kind = 1 ∧ 0 < drw c (k % 7 + by_) 4 then (1 : Pg) else p0
  if kind = 2 ∧ len / 2 < k then (2 : Pg) else p1
def turnS (kind : Nat) (len by_ : Nat) (found : List Pg) (k : Nat) (c : Int) : List Pg :=
  (if kind = 3 then found ++ List.replicate (drw c (k % 6 + 7) 3) (peg1 kind len by_ k c) else found) ++ [peg1 kind len by_ k c]
def runS (kind : Nat) (len by_ : Nat) : List Pg → Nat → List Int → List Pg
  | found, _, [] => found
  | found, k, c :: cs => runS kind len by_ (turnS kind len by_ found k c) (k + 1) cs
def lawS (ns : List Int) (by_ : Nat) : List Pg := runS (drw (cel ns 0) 6 5) ns.length by_ [] 0 ns
theorem turnS_len (kind len by_ : Nat) (f g : List Pg) (k : Nat) (c : Int) (b2 : Nat) (h : f.length = g.length) : (turnS kind len by_ f k c).length = (turnS kind len b2 g k c).length := by
  unfold turnS
  rw [List.length_append, List.length_append]
  by_cases hk : kind = 3
  · rw [if_pos hk, if_pos hk, List.length_append, List.length_append, List.length_replicate, List.length_replicate, h, List.length_singleton, List.length_singleton]
  · rw [if_neg hk, if_neg hk, h, List.length_singleton, List.length_singleton]
theorem turnS_le (kind len by_ : Nat) (f : List Pg) (k : Nat) (c : Int) : (turnS kind len by_ f k c).length ≤ f.length + 3 := by
  unfold turnS
  rw [List.length_append]
  have h := drw_lt c (k % 6 + 7) 3 (by decide)
  by_cases hk : kind = 3
  · rw [if_pos hk, List.length_append, List.length_replicate, List.length_singleton]
    omega
  · rw [if_neg hk, List.length_singleton]
    omega
theorem runS_len (kind len b1 b2 : Nat) : ∀ (cs : List Int) (f g : List Pg) (k : Nat), f.length = g.length → (runS kind len b1 f k cs).length = (runS kind len b2 g k cs).length
  | [], _, _, _, h => h
  | c :: cs, f, g, k, h => by
    rw [runS, runS]
    exact runS_len kind len b1 b2 cs _ _ _ (turnS_len kind len b1 f g k c b2 h)
theorem runS_le (kind len b1 : Nat) : ∀ (cs : List Int) (f : List Pg) (k : Nat), (runS kind len b1 f k cs).length ≤ f.length + 3 * cs.length
  | [], _, _ => by rw [runS]; omega
  | c :: cs, f, k => by
    rw [runS, List.length_cons]
    have h1 := runS_le kind len b1 cs (turnS kind len b1 f k c) (k + 1)
    have h2 := turnS_le kind len b1 f k c
    omega
theorem lawS_len (ns : List Int) (b1 b2 : Nat) : (lawS ns b1).length = (lawS ns b2).length := runS_len _ _ _ _ _ _ _ _ rfl
theorem lawS_le (ns : List Int) (b : Nat) : (lawS ns b).length ≤ 3 * ns.length := by
  have := runS_le (drw (cel ns 0) 6 5) ns.length b ns [] 0
  unfold lawS
  simpa using this
def ruAt : Nat → Ru
  | 0 => .free
  | 1 => .line
  | _ => .round
def lawR (ns : List Int) (k : Nat) : Ru := ruAt (drw (cel ns k) (k + 1) 3)
/-! ### all moves -/
def canG (r : Ru) (cov : List Pg) (a e : Pg) : Bool := (decide (a ≠ e) && !decide (e ∈ cov)) && near r a e
def mvs (r : Ru) : Nat → List Pg → List Pg → List (Nat × Pg)
  | _, _, [] => []
  | i, cov, a :: s => if a ∈ cov then mvs r (i + 1) cov s else (([0, 1, 2] : List Pg).filter (canG r cov a)).map (fun e => (i, e)) ++ mvs r (i + 1) (cov ++ [a]) s
theorem pegs_all : ∀ e : Pg, e ∈ ([0, 1, 2] : List Pg) := by decide
theorem canG_iff (r : Ru) (cov : List Pg) (a e : Pg) : canG r cov a e = true ↔ a ≠ e ∧ e ∉ cov ∧ near r a e = true := by
  unfold canG
  simp only [Bool.and_eq_true, decide_eq_true_eq, Bool.not_eq_true', decide_eq_false_iff_not, and_assoc]
theorem mem_mvs (r : Ru) : ∀ (s : List Pg) (i : Nat) (cov : List Pg) (d : Nat) (e : Pg), (d, e) ∈ mvs r i cov s ↔
    ∃ j a, d = i + j ∧ s[j]? = some a ∧ a ∉ cov ∧ e ∉ cov ∧ (∀ x ∈ s.take j, x ≠ a ∧ x ≠ e) ∧ a ≠ e ∧ near r a e = true
  | [], i, cov, d, e => by
    rw [mvs]
    constructor
    · intro h; cases h
    · rintro ⟨j, a, _, h, _⟩
      simp at h
  | b :: s, i, cov, d, e => by
    rw [mvs]
    by_cases hb : b ∈ cov
    · rw [if_pos hb, mem_mvs r s]
      constructor
      · rintro ⟨j, a, h1, h2, h3, h4, h5, h6⟩
        refine ⟨j + 1, a, by omega, by simpa using h2, h3, h4, ?_, h6⟩
        intro x hx
        rw [List.take_succ_cons] at hx
        rcases List.mem_cons.mp hx with rfl | hx
        · exact ⟨fun z => h3 (z ▸ hb), fun z => h4 (z ▸ hb)⟩
        · exact h5 x hx
      · rintro ⟨j, a, h1, h2, h3, h4, h5, h6⟩
        cases j with
        | zero =>
          have e0 : b = a := by simpa using h2
          subst e0
          exact absurd hb h3
        | succ j =>
          refine ⟨j, a, by omega, by simpa using h2, h3, h4, fun x hx => h5 x ?_, h6⟩
          rw [List.take_succ_cons]
          exact List.mem_cons_of_mem _ hx
    · rw [if_neg hb, List.mem_append, mem_mvs r s]
      constructor
      · rintro (h | ⟨j, a, h1, h2, h3, h4, h5, h6⟩)
        · obtain ⟨e', he, hq⟩ := List.mem_map.mp h
          obtain ⟨rfl, rfl⟩ := Prod.mk.inj hq
          obtain ⟨c1, c2, c3⟩ := (canG_iff r cov b e').mp (List.mem_filter.mp he).2
          exact ⟨0, b, rfl, rfl, hb, c2, fun x hx => (by rw [List.take_zero] at hx; cases hx), c1, c3⟩
        · have h3' : a ∉ cov ∧ a ≠ b := ⟨fun z => h3 (List.mem_append_left _ z), fun z => h3 (List.mem_append_right _ (by rw [z]; exact List.mem_singleton.mpr rfl))⟩
          have h4' : e ∉ cov ∧ e ≠ b := ⟨fun z => h4 (List.mem_append_left _ z), fun z => h4 (List.mem_append_right _ (by rw [z]; exact List.mem_singleton.mpr rfl))⟩
          refine ⟨j + 1, a, by omega, by simpa using h2, h3'.1, h4'.1, ?_, h6⟩
          intro x hx
          rw [List.take_succ_cons] at hx
          rcases List.mem_cons.mp hx with rfl | hx
          · exact ⟨fun z => h3'.2 z.symm, fun z => h4'.2 z.symm⟩
          · exact h5 x hx
      · rintro ⟨j, a, h1, h2, h3, h4, h5, h6, h7⟩
        cases j with
        | zero =>
          have e0 : b = a := by simpa using h2
          subst e0
          refine .inl (List.mem_map.mpr ⟨e, List.mem_filter.mpr ⟨pegs_all e, (canG_iff r cov b e).mpr ⟨h6, h4, h7⟩⟩, by rw [h1]; rfl⟩)
        | succ j =>
          have hb2 := h5 b (by rw [List.take_succ_cons]; exact List.mem_cons_self)
          refine .inr ⟨j, a, by omega, by simpa using h2, ?_, ?_, fun x hx => h5 x ?_, h6, h7⟩
          · intro z
            rcases List.mem_append.mp z with z | z
            · exact h3 z
            · exact hb2.1 (List.mem_singleton.mp z).symm
          · intro z
            rcases List.mem_append.mp z with z | z
            · exact h4 z
            · exact hb2.2 (List.mem_singleton.mp z).symm
          · rw [List.take_succ_cons]
            exact List.mem_cons_of_mem _ hx
theorem mvs_ge (r : Ru) {s : List Pg} {i : Nat} {cov : List Pg} {m : Nat × Pg} (h : m ∈ mvs r i cov s) : i ≤ m.1 := by
  obtain ⟨d, e⟩ := m
  obtain ⟨j, a, h1, _⟩ := (mem_mvs r s i cov d e).mp h
  show i ≤ d
  omega
theorem mvs_nodup (r : Ru) : ∀ (s : List Pg) (i : Nat) (cov : List Pg), (mvs r i cov s).Nodup
  | [], _, _ => List.nodup_nil
  | a :: s, i, cov => by
    rw [mvs]
    by_cases h : a ∈ cov
    · rw [if_pos h]
      exact mvs_nodup r s _ _
    · rw [if_neg h, List.nodup_append]
      refine ⟨?_, mvs_nodup r s _ _, ?_⟩
      · have : (([0, 1, 2] : List Pg).filter (canG r cov a)).Nodup := List.Nodup.sublist List.filter_sublist (by decide)
        exact List.Pairwise.map _ (fun x y hxy z => hxy (Prod.mk.inj z).2) this
      · rintro x hx y hy rfl
        obtain ⟨e, _, rfl⟩ := List.mem_map.mp hx
        have := mvs_ge r hy
        have : i + 1 ≤ i := this
        omega
/-- a move over the reversed list -/
theorem lg_iff (r : Ru) (e : Pg) : ∀ (t : List Pg) (d : Nat), lg r (d, e) t ↔ ∃ a, t.reverse[d]? = some a ∧ a ≠ e ∧ near r a e = true ∧ ∀ x ∈ t.reverse.take d, x = thi a e
  | [], d => by
    rw [lg]
    constructor
    · intro h; exact h.elim
    · rintro ⟨a, h, _⟩
      simp at h
  | b :: s, d => by
    rw [lg, List.reverse_cons]
    by_cases hd : d = s.length
    · rw [if_pos hd]
      subst hd
      have h1 : (s.reverse ++ [b])[s.length]? = some b := by rw [List.getElem?_append_right (by rw [List.length_reverse]; exact Nat.le_refl _), List.length_reverse, Nat.sub_self]; rfl
      have h2 : (s.reverse ++ [b]).take s.length = s.reverse := by rw [List.take_append_of_le_length (by rw [List.length_reverse]; exact Nat.le_refl _), List.take_of_length_le (by rw [List.length_reverse]; exact Nat.le_refl _)]
      rw [h1, h2]
      constructor
      · rintro ⟨q1, q2, q3⟩
        exact ⟨b, rfl, q1, q2, fun x hx => q3 x (List.mem_reverse.mp hx)⟩
      · rintro ⟨a, q0, q1, q2, q3⟩
        have e0 : b = a := Option.some.inj q0
        subst e0
        exact ⟨q1, q2, fun x hx => q3 x (List.mem_reverse.mpr hx)⟩
    · rw [if_neg hd, lg_iff r e s d]
      by_cases hl : d < s.length
      · have h1 : (s.reverse ++ [b])[d]? = s.reverse[d]? := List.getElem?_append_left (by rw [List.length_reverse]; exact hl)
        have h2 : (s.reverse ++ [b]).take d = s.reverse.take d := List.take_append_of_le_length (by rw [List.length_reverse]; omega)
        rw [h1, h2]
      · have h1 : (s.reverse ++ [b])[d]? = none := List.getElem?_eq_none (by rw [List.length_append, List.length_reverse, List.length_singleton]; omega)
        have h2 : s.reverse[d]? = none := List.getElem?_eq_none (by rw [List.length_reverse]; omega)
        rw [h1, h2]
        constructor
        · rintro ⟨a, h, _⟩; cases h
        · rintro ⟨a, h, _⟩; cases h
theorem ap_rev (d : Nat) (e : Pg) : ∀ t : List Pg, (ap (d, e) t).reverse = t.reverse.set d e
  | [] => rfl
  | b :: s => by
    rw [ap, List.reverse_cons]
    by_cases hd : d = s.length
    · rw [if_pos hd, List.reverse_cons]
      subst hd
      rw [List.set_append_right _ _ (by rw [List.length_reverse]; exact Nat.le_refl _), List.length_reverse, Nat.sub_self]
      rfl
    · rw [if_neg hd, List.reverse_cons, ap_rev d e s]
      by_cases hl : d < s.length
      · rw [List.set_append_left _ _ (by rw [List.length_reverse]; exact hl)]
      · rw [List.set_eq_of_length_le (by rw [List.length_reverse]; omega), List.set_eq_of_length_le (by rw [List.length_append, List.length_reverse, List.length_singleton]; omega)]
theorem thi_iff : ∀ a e x : Pg, a ≠ e → (x = thi a e ↔ x ≠ a ∧ x ≠ e) := by decide
/-- the moves of a state: those that can be done -/
theorem mem_moves (r : Ru) (s : List Pg) (m : Nat × Pg) : m ∈ mvs r 0 [] s ↔ lg r m s.reverse := by
  obtain ⟨d, e⟩ := m
  rw [mem_mvs, lg_iff, List.reverse_reverse]
  constructor
  · rintro ⟨j, a, h1, h2, _, _, h5, h6, h7⟩
    have e0 : d = j := by omega
    subst e0
    exact ⟨a, h2, h6, h7, fun x hx => (thi_iff a e x h6).mpr (h5 x hx)⟩
  · rintro ⟨a, h1, h2, h3, h4⟩
    exact ⟨d, a, by omega, h1, by simp, by simp, fun x hx => (thi_iff a e x h2).mp (h4 x hx), h2, h3⟩
theorem after_rev (s : List Pg) (m : Nat × Pg) : (s.set m.1 m.2).reverse = ap m s.reverse := by
  obtain ⟨d, e⟩ := m
  have := ap_rev d e s.reverse
  rw [List.reverse_reverse] at this
  rw [← this, List.reverse_reverse]
theorem filter_one {α : Type} {p : α → Bool} {x : α} : ∀ {l : List α}, l.Nodup → x ∈ l → (∀ y ∈ l, (p y = true ↔ y = x)) → l.filter p = [x]
  | [], _, h, _ => by cases h
  | y :: l, hn, h, hp => by
    obtain ⟨h1, h2⟩ := List.nodup_cons.mp hn
    by_cases hy : y = x
    · subst hy
      rw [List.filter_cons_of_pos ((hp y List.mem_cons_self).mpr rfl)]
      congr 1
      rw [List.filter_eq_nil_iff]
      intro z hz hpz
      have := (hp z (List.mem_cons_of_mem _ hz)).mp hpz
      exact h1 (this ▸ hz)
    · have hx : x ∈ l := by
        rcases List.mem_cons.mp h with z | z
        · exact absurd z.symm hy
        · exact z
      rw [List.filter_cons_of_neg (fun z => hy ((hp y List.mem_cons_self).mp z))]
      exact filter_one h2 hx fun z hz => hp z (List.mem_cons_of_mem _ hz)
/-- among the moves just the next one takes off one -/
theorem best_one (r : Ru) (s : List Pg) (g : Pg) : (mvs r 0 [] s).filter (fun m => decide ((L r (s.set m.1 m.2).reverse g : Int) - L r s.reverse g = -1)) = (nm r s.reverse g).toList := by
  cases h : nm r s.reverse g with
  | none =>
    have h0 := (nm_none r _ _).1.mp h
    rw [List.filter_eq_nil_iff.mpr]
    · rfl
    · intro m _
      rw [decide_eq_true_eq, h0]
      omega
  | some m0 =>
    obtain ⟨k1, k2⟩ := next_ok r _ _ m0 h
    refine filter_one (mvs_nodup r s 0 []) ((mem_moves r s m0).mpr k1) fun m hm => ?_
    rw [decide_eq_true_eq, after_rev]
    have hl := (mem_moves r s m).mp hm
    constructor
    · intro q
      have := (move_le r _ g m hl).2 (by omega)
      rw [h] at this
      exact (Option.some.inj this).symm
    · rintro rfl
      omega
theorem mvs_len (r : Ru) : ∀ (s : List Pg) (i : Nat) (cov : List Pg), (mvs r i cov s).length ≤ 3 * s.length
  | [], _, _ => Nat.le_refl _
  | a :: s, i, cov => by
    rw [mvs, List.length_cons]
    by_cases h : a ∈ cov
    · rw [if_pos h]
      have := mvs_len r s (i + 1) cov
      omega
    · rw [if_neg h, List.length_append, List.length_map]
      have h1 := mvs_len r s (i + 1) (cov ++ [a])
      have h2 : (([0, 1, 2] : List Pg).filter (canG r cov a)).length ≤ 3 := List.length_filter_le _ _
      omega
theorem turnS_ge (kind len by_ : Nat) (f : List Pg) (k : Nat) (c : Int) : f.length + 1 ≤ (turnS kind len by_ f k c).length := by
  unfold turnS
  rw [List.length_append]
  by_cases hk : kind = 3
  · rw [if_pos hk, List.length_append, List.length_singleton]
    omega
  · rw [if_neg hk, List.length_singleton]
    omega
theorem runS_ge (kind len b1 : Nat) : ∀ (cs : List Int) (f : List Pg) (k : Nat), f.length + cs.length ≤ (runS kind len b1 f k cs).length
  | [], _, _ => by rw [runS]; simp
  | c :: cs, f, k => by
    rw [runS, List.length_cons]
    have h1 := runS_ge kind len b1 cs (turnS kind len b1 f k c) (k + 1)
    have h2 := turnS_ge kind len b1 f k c
    omega
theorem lawS_ge (ns : List Int) (b : Nat) : ns.length ≤ (lawS ns b).length := by
  have := runS_ge (drw (cel ns 0) 6 5) ns.length b ns [] 0
  simpa [lawS] using this
/-- the least disc can always go -/
theorem mvs_ne (r : Ru) {s : List Pg} (h : s ≠ []) : 0 < (mvs r 0 [] s).length := by
  cases s with
  | nil => exact absurd rfl h
  | cons a s =>
    have he : ∃ e : Pg, a ≠ e ∧ near r a e = true := by
      clear h
      revert a
      cases r <;> decide
    obtain ⟨e, h1, h2⟩ := he
    refine List.length_pos_of_mem ((mem_mvs r (a :: s) 0 [] 0 e).mpr ⟨0, a, rfl, rfl, by simp, by simp, by simp, h1, h2⟩)
end TM

/-! the program's things as data -/
namespace TR
open PySem PySem.Spec PyProof.Rows L2 TM
def ruS : Ru → Str
  | .free => "free"
  | .line => "line"
  | .round => "round"
abbrev ruD (r : Ru) : Da := .str (ruS r)
abbrev nD (n : Nat) : Da := .int (n : Int)
abbrev pD (p : Pg) : Da := .int (p.val : Int)
/-- a state, the least disc first -/
abbrev stL (s : List Pg) : List Da := s.map pD
abbrev stD (s : List Pg) : Da := .lst (stL s)
abbrev prD (p : Pg × Pg) : Da := .tup [pD p.1, pD p.2]
abbrev twD (p : Nat × Nat) : Da := .tup [nD p.1, nD p.2]
theorem ruS_inj {a b : Ru} (h : ruS a = ruS b) : a = b := by
  cases a <;> cases b <;> first | rfl | (exact absurd h (by decide))
theorem ruS_free (r : Ru) : decide (ruS r = ("free" : Str)) = decide (r = .free) := by cases r <;> decide
theorem ruS_line (r : Ru) : decide (ruS r = ("line" : Str)) = decide (r = .line) := by cases r <;> decide
theorem ruS_round (r : Ru) : decide (ruS r = ("round" : Str)) = decide (r = .round) := by cases r <;> decide
theorem pD_inj {a b : Pg} (h : (a.val : Int) = b.val) : a = b := Fin.ext (Int.ofNat.inj h)
theorem pDe (a b : Pg) : decide ((a.val : Int) = (b.val : Int)) = decide (a = b) := by
  by_cases h : a = b
  · subst h; simp
  · have : ¬ (a.val : Int) = b.val := fun z => h (pD_inj z)
    simp [h, this]
theorem list_at {α : Type} {l : List α} {i : Nat} {x : α} (h : l[i]? = some x) : atI l (i : Int) = some x := atI_nat h
theorem drop_succ_at {α : Type} {l : List α} {i : Nat} {x : α} {xs : List α} (h : l.drop i = x :: xs) : l[i]? = some x ∧ l.drop (i + 1) = xs ∧ i < l.length := by
  have hi : i < l.length := by
    by_cases hi : i < l.length
    · exact hi
    · rw [List.drop_eq_nil_of_le (by omega)] at h
      cases h
  rw [List.drop_eq_getElem_cons hi] at h
  obtain ⟨h1, h2⟩ := List.cons.inj h
  exact ⟨by rw [List.getElem?_eq_getElem hi, h1], h2, hi⟩
theorem stL_at {s : List Pg} {i : Nat} {p : Pg} (h : s[i]? = some p) : atI (stL s) (i : Int) = some (pD p) := atI_nat (by rw [List.getElem?_map, h]; rfl)
theorem okD_int (n : Nat) (i : Int) : okD n (.int i) := by cases n <;> trivial
theorem cut_to {α : Type} (l : List α) (d : Nat) (h : d ≤ l.length) : cutD l none (some (d : Int)) = l.take d := by
  unfold cutD
  rw [HT.sIx_none, HT.sIx_nat, List.drop_zero, Nat.sub_zero, Nat.min_eq_left h]
theorem cut_from {α : Type} (l : List α) (d : Nat) : cutD l (some (d : Int)) none = l.drop d := by
  unfold cutD
  rw [HT.sIx_none, HT.sIx_nat]
  by_cases h : d ≤ l.length
  · rw [Nat.min_eq_left h, List.take_of_length_le (by rw [List.length_drop]; exact Nat.le_refl _)]
  · rw [Nat.min_eq_right (by omega), List.drop_length, List.drop_eq_nil_of_le (by omega), List.take_nil]
theorem stL_app (a b : List Pg) : stL a ++ stL b = stL (a ++ b) := by
  unfold stL
  rw [List.map_append]

theorem eqD_dec {n : Nat} {d e : Da} (hd : noB n d) (he : noB n e) {p : Prop} [Decidable p] (h : d = e ↔ p) : eqD d e = decide p := by
  have k := eqD_iff n d e hd he
  by_cases hp : p
  · rw [decide_eq_true hp]
    exact k.mpr (h.mpr hp)
  · rw [decide_eq_false hp]
    cases q : eqD d e with
    | false => rfl
    | true => exact absurd (h.mp (k.mp q)) hp
theorem noB_map {α : Type} {n : Nat} {enc : α → Da} (h : ∀ a, noB n (enc a)) (l : List α) : noB (n + 1) (.lst (l.map enc)) := fun x hx => by
  obtain ⟨a, _, rfl⟩ := List.mem_map.mp hx
  exact h a
theorem noB_int (n : Nat) (i : Int) : noB n (.int i) := by cases n <;> trivial
theorem noB_tup2 {n : Nat} {a b : Da} (ha : noB n a) (hb : noB n b) : noB (n + 1) (.tup [a, b]) := fun x hx => by
  rcases List.mem_cons.mp hx with rfl | hx
  · exact ha
  · rw [List.mem_singleton] at hx
    rw [hx]
    exact hb
theorem map_inj {α β : Type} {f : α → β} (hf : ∀ a b, f a = f b → a = b) {l m : List α} (h : l.map f = m.map f) : l = m := by
  induction l generalizing m with
  | nil => cases m with
    | nil => rfl
    | cons b m => cases h
  | cons a l ih => cases m with
    | nil => cases h
    | cons b m =>
      rw [List.map_cons, List.map_cons, List.cons.injEq] at h
      rw [hf _ _ h.1, ih h.2]
theorem pD_inj' {a b : Pg} (h : pD a = pD b) : a = b := pD_inj (Da.int.inj h)
theorem stD_iff {a b : List Pg} : stD a = stD b ↔ a = b := ⟨fun h => map_inj (fun _ _ q => pD_inj' q) (Da.lst.inj h), fun h => by rw [h]⟩
theorem eqD_st (a b : List Pg) : eqD (stD a) (stD b) = decide (a = b) := eqD_dec (n := 1) (noB_map (noB_int 0 <| Nat.cast <| Fin.val ·) a) (noB_map (noB_int 0 <| Nat.cast <| Fin.val ·) b) stD_iff
theorem okD_st (s : List Pg) : okD 58 (stD s) := okD_mono (by decide) (okD_map (n := 0) (fun p => okD_int 0 _) s)
theorem rv_neSt {K : PySem.W.Frag} {a b : List Pg} : RvD K (rNe2 K) (stD a) (stD b) (.bl (!decide (a = b))) := by
  rw [← eqD_st]
  exact rv_ned 58 58 (okD_st a) (okD_st b) (by decide) (by decide)
theorem rv_eqSt {K : PySem.W.Frag} {a b : List Pg} : RvD K (rEq2 K) (stD a) (stD b) (.bl (decide (a = b))) := by
  rw [← eqD_st]
  exact rv_eqd 58 58 (okD_st a) (okD_st b) (by decide) (by decide)
/-- a move as data -/
abbrev mvT (m : Nat × Pg) : Da := .tup [nD m.1, pD m.2]
theorem mvT_inj {a b : Nat × Pg} (h : mvT a = mvT b) : a = b := by
  have h1 := Da.tup.inj h
  rw [List.cons.injEq, List.cons.injEq] at h1
  obtain ⟨x, y, _⟩ := h1
  have hx := Da.int.inj x
  have hy := pD_inj (Da.int.inj y)
  exact Prod.ext (by omega) hy
theorem okD_mv (m : Nat × Pg) : okD 1 (mvT m) := okD_tup2 (okD_int 0 _) (okD_int 0 _)
theorem noB_mv (m : Nat × Pg) : noB 1 (mvT m) := noB_tup2 (noB_int 0 _) (noB_int 0 _)
theorem okD_mvs (l : List (Nat × Pg)) : okD 58 (.lst (l.map mvT)) := okD_mono (by decide) (okD_map okD_mv l)
theorem eqD_mvs (a b : List (Nat × Pg)) : eqD (.lst (a.map mvT)) (.lst (b.map mvT)) = decide (a = b) := eqD_dec (n := 2) (noB_map noB_mv a) (noB_map noB_mv b) ⟨fun h => map_inj (fun _ _ q => mvT_inj q) (Da.lst.inj h), fun h => by rw [h]⟩
theorem rv_eqMvs {K : PySem.W.Frag} {a b : List (Nat × Pg)} : RvD K (rEq2 K) (.lst (a.map mvT)) (.lst (b.map mvT)) (.bl (decide (a = b))) := by
  rw [← eqD_mvs]
  exact rv_eqd 58 58 (okD_mvs a) (okD_mvs b) (by decide) (by decide)
theorem rv_neMvs {K : PySem.W.Frag} {a b : List (Nat × Pg)} : RvD K (rNe2 K) (.lst (a.map mvT)) (.lst (b.map mvT)) (.bl (!decide (a = b))) := by
  rw [← eqD_mvs]
  exact rv_ned 58 58 (okD_mvs a) (okD_mvs b) (by decide) (by decide)
theorem eqD_mv (a b : Nat × Pg) : eqD (mvT a) (mvT b) = decide (a = b) := eqD_dec (noB_mv a) (noB_mv b) ⟨mvT_inj, fun h => by rw [h]⟩
theorem rep_one (p : Pg) (n : Nat) : (List.replicate ((n : Int)).toNat [pD p]).flatten = stL (List.replicate n p) := by
  rw [Int.toNat_natCast]
  induction n with
  | zero => rfl
  | succ n ih =>
    rw [List.replicate_succ, List.flatten_cons, ih, List.replicate_succ]
    rfl
theorem near_line : ∀ a b : Pg, decide ((if (a.val : Int) - b.val < 0 then -((a.val : Int) - b.val) else (a.val : Int) - b.val) = 1) = near .line a b := by decide
/-- a pair of whole numbers -/
def mvOf : Da → Option (Int × Int)
  | .tup [.int a, .int b] => some (a, b)
  | _ => none
def tyMv : Da → Prop
  | .tup xs => ∀ x ∈ xs, hasTy x
  | x => hasTy x
theorem tyMv_ty {x : Da} (h : tyMv x) : hasTy x := by cases x <;> first | trivial | exact h
/-- a move's two numbers -/
abbrev mvZ (m : Nat × Pg) : Int × Int := ((m.1 : Int), (m.2.val : Int))
abbrev mzD (p : Int × Int) : Da := .tup [.int p.1, .int p.2]
theorem mvOf_some {x : Da} {p : Int × Int} (h : mvOf x = some p) : x = mzD p := by
  unfold mvOf at h
  split at h
  · rw [← Option.some.inj h]
  · cases h
theorem mvZ_inj {a b : Nat × Pg} (h : mvZ a = mvZ b) : a = b := by
  rw [Prod.mk.injEq] at h
  exact Prod.ext (by omega) (pD_inj h.2)
/-- one move of what is told -/
def mvF (r : Ru) (s : List Pg) (p : Int × Int) : Option (Nat × Pg) := (mvs r 0 [] s).find? fun m => decide (mvZ m = p)
/-- the state behind what is told, none where it can't be done -/
def walkD (r : Ru) : List Pg → List Da → Option (List Pg)
  | s, [] => some s
  | s, x :: l => match mvOf x with
    | none => none
    | some p => match mvF r s p with
      | none => none
      | some m => walkD r (s.set m.1 m.2) l
theorem mzD_inj {p q : Int × Int} (h : mzD p = mzD q) : p = q := by
  have h1 := Da.tup.inj h
  rw [List.cons.injEq, List.cons.injEq] at h1
  exact Prod.ext (Da.int.inj h1.1) (Da.int.inj h1.2.1)
theorem eqD_mz (m : Nat × Pg) (p : Int × Int) : eqD (mvT m) (mzD p) = decide (mvZ m = p) := eqD_dec (n := 1) (noB_mv m) (noB_tup2 (noB_int 0 _) (noB_int 0 _)) ⟨fun h => mzD_inj (p := mvZ m) h, fun h => by rw [← h]⟩
theorem any_find {α : Type} (l : List α) (p : α → Bool) : l.any p = (l.find? p).isSome := by
  rw [Bool.eq_iff_iff, List.find?_isSome, List.any_eq_true]
theorem ixN_n {n j : Nat} (h : j < n) : ixN n (j : Int) = some j := by
  unfold ixN
  rw [if_pos (by omega), if_pos (by omega), Int.toNat_natCast]
theorem okD_mz (p : Int × Int) : okD 58 (mzD p) := okD_mono (n := 1) (by decide) (okD_tup2 (okD_int 0 _) (okD_int 0 _))
theorem mvF_in {r : Ru} {s : List Pg} {p : Int × Int} {m : Nat × Pg} (h : mvF r s p = some m) : m ∈ mvs r 0 [] s ∧ mvZ m = p := ⟨List.mem_of_find?_eq_some h, by simpa using List.find?_some h⟩
theorem mvs_lt {r : Ru} {s : List Pg} {m : Nat × Pg} (h : m ∈ mvs r 0 [] s) : m.1 < s.length := by
  have := lg_lt _ _ _ ((mem_moves r s m).mp h)
  rwa [List.length_reverse] at this
end TR

/-! own layer: a text, walked from its end -/
namespace TR
open PySem PySem.Spec PyProof.Rows L2 RT
theorem noRev_str : typeLookup (.type "str") "__reversed__" = pure none := by rw [typeLookup_type, builtinLookup_eq_fast] <;> kernel_rfl
theorem getI_str : typeLookup (.type "str") "__getitem__" = pure (some (.builtin "str.__getitem__")) := by rw [typeLookup_type, builtinLookup_eq_fast] <;> kernel_rfl
def rsObj (x : Str) (k : Tok) (i : Int) : Obj := { cls := .type "reversed", data := .fields #[.str x k, rawInt i] }
/-- reversed(x) of a text, the next place i -/
def IsRs (h : Heap) (a : Addr) (x : Str) (k : Tok) (i : Int) : Prop := ∃ o, h.get? a = some o ∧ o.cls = .type "reversed" ∧ o.data = .fields #[.str x k, rawInt i]
section
variable {prog : Program} {w : World} {A : Around} {E : Value → Shared → Prop} {s : Shared} {x : Str} {k : Tok}
theorem IsRs.ty {a : Addr} {i : Int} (z : IsRs s.heap a x k i) : s.TypeIs (.ref a) "reversed" := ⟨z.choose, z.choose_spec.1, z.choose_spec.2.1⟩
theorem code_revS {W : Value → Shared → Prop} (hx : x.length ≤ sizeLine) (q : W (.ref s.heap.objs.size) { s with heap := s.heap.push (rsObj x k ((x.length : Int) - 1)), toks := s.toks + 1 + 1 }) :
    codeAny (model prog w) A (.call (.builtin "reversed.__new__") ⟨[.type "reversed", .str x k], []⟩) (wants W E) s := by
  have ty : s.TypeIs (.str x k) "str" := typeIs_str s x k
  rw [sizeLine_eq] at hx
  refine codeAny_of_tree ?_
  show wpAny _ A.in1 (do checkBuiltinCall "reversed.__new__" ⟨[.type "reversed", .str x k], []⟩; again (.builtin "reversed.__new__" ⟨[.type "reversed", .str x k], []⟩)) _ _ s
  refine wpAny_bind (wpAny_of_eq (F.newCall_reversed_1 _) (wpAny_pure ⟨plainId_quiet F.plain_reversed_new _, codeAny_builtin F.entry_reversed_new ?_⟩)) <;> rw [Around.under_plainId F.plain_reversed_new _] <;> unfold Builtin.«reversed.__new__»
  refine wpAny_bind (wpAny_of_eq (newClass_reversed _) ?_) <;> try dsimp only
  refine wpAny_bind (wpAny_of_eq (a := ()) (by first | rfl | kernel_rfl) ?_) <;> try dsimp only
  refine wpAny_bind (wpAny_of_eq (a := ()) (by first | rfl | kernel_rfl) ?_) <;> try dsimp only
  refine wpAny_bind (wpAny_specialOf ty noRev_str ?_) <;> try dsimp only
  refine wpAny_bind ?_ <;> wp_delta
  refine wpAny_bind (wpAny_isInstance (T := "str") (U := "dict") (b := false) ty (by rw [isSubtype_type] <;> kernel_rfl) ?_) <;> try dsimp only
  try rw [if_neg Bool.false_ne_true]
  try dsimp only
  refine wpAny_bind (wpAny_specialOf ty getI_str ?_) <;> try dsimp only
  try rw [if_pos (by decide +kernel)]
  refine wpAny_pure ?_ <;> try dsimp only
  try rw [if_neg (by decide)]
  try dsimp only
  refine wpAny_bind (len_str (x := x) (t := k) (by omega) (wpAny_bind (wpAny_of_eq (a := some ((x.length : Nat) : Int)) rfl ?_))) <;> try dsimp only
  refine wpAny_bind ?_
  show wpAny _ _ (newObj (.type "reversed") (.fields #[.str x k, rawInt ((x.length : Int) - 1)])) _ _ _
  exact wpAny_newObj_type (wpAny_pure q)
theorem call_revS {W : Value → Shared → Prop} (hx : x.length ≤ sizeLine) (q : W (.ref s.heap.objs.size) { s with heap := s.heap.push (rsObj x k ((x.length : Int) - 1)), toks := s.toks + 1 + 1 }) : wpAny (model prog w) A (call (.type "reversed") [.str x k]) W E s :=
  callType_codes (Q₁ := fun obj s₁ => s₁.TypeIs obj "reversed" ∧ W obj s₁) called_rt (F.typeCall_reversed_1 _) F.entry_object_init (code_revS (A := A.in1) hx ⟨⟨_, Heap.get?_push_size _ rfl, rfl⟩, q⟩)
    fun obj s₁ h₁ => ⟨h₁.1, F.args_object_init_2 obj _, object_init_meets called_rt.init.lookup called_rt.made (by decide) prog w A.in1 _ s₁ ⟨h₁.1, rfl, h₁.2⟩⟩
theorem next_revS {j : Addr} {i : Nat} {c : Nat} {W : Option Value → Shared → Prop} (at_ : IsRs s.heap j x k (i : Int)) (hc : x.cps[i]? = some c) (hx : x.length ≤ sizeLine)
    (q : ∀ h' u, IsRs h' j x k ((i : Int) - 1) → Heap.SameBut j s.heap h' → W (some (.str ⟨#[c]⟩ u)) { s with heap := h', toks := s.toks + 1 + 1 }) : wpAny (model prog w) A (pyNext (.ref j)) W E s := by
  obtain ⟨oj, gj, cj, dj⟩ := id at_
  have hi : i < x.length := (Array.getElem?_eq_some_iff.mp hc).1
  have ty : ∀ s : Shared, s.TypeIs (.str x k) "str" := fun s => typeIs_str s x k
  rw [sizeLine_eq] at hx
  unfold pyNext
  refine wpAny_bind (wpAny_attempt (wpAny_callSpecial?_slot (name := Str.ofString "__next__") at_.ty slot_rt_next (wpAny_call_entry slot_rt_next at_.ty entry_rt_next ?_ (args_rt_next _))))
  unfold Builtin.«reversed.__next__»
  refine wpAny_bind (wpAny_of_eq (a := (Value.ref j, [])) rfl ?_) <;> try dsimp only
  refine wpAny_bind (wpAny_field gj dj (x := .str x k) rfl ?_) <;> try dsimp only
  refine wpAny_bind (wpAny_field gj dj (x := rawInt (i : Int)) rfl ?_)
  show wpAny _ _ (if (i : Int) < 0 then _ else _) _ _ s
  rw [if_neg (by omega)] <;> try dsimp only
  refine wpAny_bind (wpAny_specialOf (ty s) getI_str ?_) <;> try dsimp only
  try rw [if_neg (by decide)]
  try dsimp only
  refine wpAny_bind (wpAny_mkInt (wpAny_bind (wpAny_attempt ?_)))
  have e0 : seqIndex? (i : Int) x.length = some i := seqIndex_of (by omega) (by omega)
  have fin : (seqIndex? (i : Int) x.length).bind (x.cps[·]?) = some c := by rw [e0]; exact hc
  refine getItem_str (x := x) (t := k) (i := (i : Int)) (by rw [Bool.or_eq_false_iff, decide_eq_false_iff_not, decide_eq_false_iff_not]; omega) fin ?_ <;> try dsimp only
  refine wpAny_bind (wpAny_field (s := { s with toks := s.toks + 1 + 1 }) gj dj (x := rawInt (i : Int)) rfl ?_) <;> try dsimp only
  refine wpAny_bind (wpAny_setField (s := { s with toks := s.toks + 1 + 1 }) gj dj (by simp) ?_) <;> try dsimp only
  first
  | refine wpAny_pure ⟨_, rfl, wpAny_pure (q _ _ ?_ (Heap.SameBut.update ..))⟩
  | refine wpAny_bind (wpAny_pure (wpAny_pure ⟨_, rfl, wpAny_pure (q _ _ ?_ (Heap.SameBut.update ..))⟩))
  exact ⟨_, Heap.get?_update_self _ gj (Obj.isFreed_of_fields (Obj.data_mapFields dj _)), (Obj.cls_mapFields ..).trans cj, by rw [Obj.data_mapFields dj]; simp⟩
theorem end_revS {j : Addr} {W : Option Value → Shared → Prop} (hh : A.handled = none) (at_ : IsRs s.heap j x k (-1)) (q : ∀ h', Heap.ExtBut j s.heap h' → W none { s with heap := h' }) : wpAny (model prog w) A (pyNext (.ref j)) W E s := by
  obtain ⟨oj, gj, cj, dj⟩ := id at_
  unfold pyNext
  refine wpAny_bind (wpAny_attempt (wpAny_callSpecial?_slot (name := Str.ofString "__next__") at_.ty slot_rt_next (wpAny_call_entry slot_rt_next at_.ty entry_rt_next ?_ (args_rt_next _))))
  unfold Builtin.«reversed.__next__»
  refine wpAny_bind (wpAny_of_eq (a := (Value.ref j, [])) rfl ?_) <;> try dsimp only
  refine wpAny_bind (wpAny_field gj dj (x := .str x k) rfl ?_) <;> try dsimp only
  refine wpAny_bind (wpAny_field gj dj (x := rawInt (-1)) rfl ?_)
  show wpAny _ _ (if (-1 : Int) < 0 then _ else _) _ _ s
  rw [if_pos (by decide)] <;> try dsimp only
  refine wpAny_bind (wpAny_rule (wpAny_bind ?_)) <;> wp_delta
  refine wpAny_bind (wpAny_setField gj dj (by simp) ?_)
  have g2 := Heap.get?_update_self (Obj.mapFields (·.setIfInBounds 1 (rawInt (-1)))) gj (Obj.isFreed_of_fields (Obj.data_mapFields dj _))
  refine wpAny_setField (s := { s with heap := s.heap.update j (Obj.mapFields (·.setIfInBounds 1 (rawInt (-1)))) }) g2 (Obj.data_mapFields dj _) (by simp) ?_ <;> try dsimp only
  first
  | (show wpAny _ _ (newExc (.type "StopIteration") [] >>= _) _ _ _; refine wpAny_bind ?_)
  | (refine wpAny_bind ?_; show wpAny _ _ (newExc (.type "StopIteration") [] >>= _) _ _ _; refine wpAny_bind ?_)
  | (refine wpAny_bind ?_; wp_delta; show wpAny _ _ (newExc (.type "StopIteration") [] >>= _) _ _ _; refine wpAny_bind ?_)
  simp only [newExc, newTuple]
  refine wpAny_bind (wpAny_newObj_type (wpAny_bind (m := firstArgMember _ _) (wpAny_of_eq (a := Value.none) (by first | rfl | (simp only [firstArgMember]; rfl)) (wpAny_newObj_type ?_ (by size_fits)))) (by size_fits))
  simp only [raiseNew]
  refine wpAny_bind (wpAny_handled ?_)
  first | rw [show A.in1.handled = none from hh] | rw [hh]
  refine wpAny_bind (wpAny_pure (wpAny_throw ?_))
  refine wpAny_bind (wpAny_isInstance (T := "StopIteration") (b := true) ⟨_, Heap.get?_push_size _ rfl, rfl⟩ isSubtype_stop (wpAny_pure (q _ ?_)))
  refine ((?_ : Heap.ExtBut j s.heap _).push _).push _
  exact fun b ob hb e => (Heap.get?_update_other _ _ (Ne.symm hb)).trans ((Heap.get?_update_other _ _ (Ne.symm hb)).trans e)
theorem iter_revS {j : Addr} {i : Int} {W : Value → Shared → Prop} (at_ : IsRs s.heap j x k i) (q : W (.ref j) s) : wpAny (model prog w) A (pyIter (.ref j)) W E s :=
  wpAny_pyIter_slot at_.ty slot_rt_iter (wpAny_call_entry slot_rt_iter at_.ty entry_rt_iter (show wpAny _ _ (ret (.ref j)) _ _ s from wpAny_pure ⟨_, rfl, "reversed", _, at_.ty, slot_rt_next.lookup, q⟩) (args_rt_iter _))
end
/-- the signs of a text from its end -/
def Irs (x : Str) : It := ⟨fun i _ => i < x.cps.size, fun i H v H' => H' = H ∧ ∃ c, x.cps[x.cps.size - 1 - i]? = some c ∧ v = .str ⟨#[c]⟩, fun i _ => x.cps.size ≤ i⟩
theorem turn_rs {P : Program} {w : World} {K : PySem.W.Frag} {tg : Expr} (j : Addr) (x : Str) (k : Tok) (hx : x.length ≤ sizeLine) : Turn P w K tg (Irs x) [j] j (fun i h => i ≤ x.cps.size ∧ IsRs h j x k ((x.cps.size : Int) - 1 - (i : Nat))) where
  mem := by simp
  obj := fun i h st b hb => by
    obtain rfl : b = j := by simpa using hb
    obtain ⟨_, o, g, c, d⟩ := st
    exact ⟨o, g, fun v z => by rw [d] at z; cases z⟩
  keep := fun i h h' st kp => by
    obtain ⟨n, o, g, c, d⟩ := st
    exact ⟨n, o, kp j (by simp) o g, c, d⟩
  item := fun X hP hw hK hc i pins s σ H E I hf st hg => by
    subst hP hw hK
    obtain ⟨f0, f1, f2, f3, f4, f5⟩ := hf j (by simp)
    obtain ⟨_, at_⟩ := st
    have hin : i < x.cps.size := hg
    have e1 : (x.cps.size : Int) - 1 - ((i : Nat) : Int) = ((x.cps.size - 1 - i : Nat) : Int) := by omega
    rw [e1] at at_
    have hq : x.cps[x.cps.size - 1 - i]? = some (x.cps[x.cps.size - 1 - i]'(by omega)) := Array.getElem?_eq_getElem (by omega)
    refine next_revS at_ hq hx fun h' u at' sb => ?_
    have e2 : ((x.cps.size - 1 - i : Nat) : Int) - 1 = (x.cps.size : Int) - 1 - ((i + 1 : Nat) : Int) := by omega
    rw [e2] at at'
    have J : Inv X pins σ H { s with heap := h', toks := s.toks + 1 + 1 } := I.turned (t' := s.toks + 1 + 1) (fun b o hb e => (sb.2 b hb).trans e) f0 f1 f3 f4 f5
    obtain ⟨o, g, c, d⟩ := id at'
    exact ⟨_, rfl, go_of (s := { s with heap := h', toks := s.toks + 1 + 1 }) g c d (by decide) ⟨.str ⟨#[_]⟩, H, J, ⟨u, rfl⟩, ⟨rfl, _, hq, rfl⟩, ⟨hin, at'⟩, fun b hb => (hf b hb).1⟩⟩
  done := fun X hP hw hK hc i pins s σ H E I hf st hg => by
    subst hP hw hK
    obtain ⟨f0, f1, f2, f3, f4, f5⟩ := hf j (by simp)
    obtain ⟨hin, at_⟩ := st
    have hge : x.cps.size ≤ i := hg
    have e1 : (x.cps.size : Int) - 1 - ((i : Nat) : Int) = -1 := by omega
    rw [e1] at at_
    exact end_revS (I.ok.hd hc) at_ fun h' eb => ⟨rfl, I.turned (t' := s.toks) (fun b o hb e => eb b o hb e) f0 f1 f3 f4 f5⟩
  self := fun A i s Q E st h => iter_revS st.2 h
def iRevS (ta : TA) : TI := fun σ H R => ta σ H fun vs H1 => ∃ x : Str, vs = [.str x] ∧ x.length ≤ sizeLine ∧ R (Irs x) H1
theorem pi_revS {X : Cx} {tg : Expr} {e : Expr} {te : TE} {p pos : Pos} (hg : Gl X "reversed") (hm : X.mg "reversed" = none) (he : PE X e te) (hs : starEach [e] X.env = (false, eval e X.env) :: starEach [] X.env := by rfl) :
    PI X tg (.Call (.Name "reversed" p) [e] [] pos) (iRevS (tCons te tNil)) := by
  refine ⟨fun pins s σ H R I h => Call_ (ld_blt I hg hm PyProof.Rows.boot_reversed (PyProof.Rows.callWith_type1 (args_cons (thn (he.run pins s σ H _ I h) fun u s1 ⟨v, H1, I1, r1, q1⟩ => args_nil ?_) hs) hs rfl))⟩
  obtain ⟨x, ev, hx, q⟩ := q1
  cases ev
  obtain ⟨k, rfl⟩ := r1
  have e1 : ((x.length : Nat) : Int) - 1 = (x.cps.size : Int) - 1 - ((0 : Nat) : Int) := by show ((x.cps.size : Nat) : Int) - 1 = _; omega
  refine call_revS hx (iter_revS (x := x) (k := k) (i := ((x.length : Nat) : Int) - 1) ⟨_, Heap.get?_push_size _ rfl, rfl, rfl⟩ (pi_one (tk := s1.toks + 1 + 1) I1 _ (turn_rs _ x k hx) ⟨Nat.zero_le _, ?_⟩ q))
  rw [← e1]
  exact ⟨_, Heap.get?_push_size _ rfl, rfl, rfl⟩
section
variable {K : PySem.W.Frag} {ρ ρ' : Rho} {te ta tb tx : TE} {x y z : Da} {xs ys zs ds : List Da} {i j : Nat} {E : XK} {t u : TS} {D : DE}
theorem ei_revS {w : Str} (h : EvF K te ρ (.str w)) (hl : w.length ≤ sizeLine) : EvI K (iRevS (tCons te tNil)) ρ w.cps.size (fun i => .str ⟨#[w.cps.getD (w.cps.size - 1 - i) 0]⟩) := fun F0 H0 σ F H E R q => h F0 H0 σ F H E _ fun v F1 H1 g1 hd => by
  cases hd
  refine ⟨w, rfl, hl, q _ F1 H1 g1 fun i F2 H2 s1 s2 => ⟨fun hi => ⟨hi, fun v H' hy => ?_⟩, fun hi => hi⟩⟩
  obtain ⟨e, c, hc, hy⟩ := hy
  subst e
  subst hy
  refine ⟨F2, Grow.refl s2, ?_⟩
  have e : w.cps.getD (w.cps.size - 1 - i) 0 = c := by
    rw [Array.getD_eq_getD_getElem?, hc]
    rfl
  show Dq K F2 (V.str ⟨#[c]⟩) (.str ⟨#[w.cps.getD (w.cps.size - 1 - i) 0]⟩)
  rw [e]
  exact .str _
end
end TR

/-! plain: a state's text -/
namespace TR
open PySem PySem.Spec PyProof.Rows TM
abbrev Sg (l : List Nat) : Str := ⟨l.toArray⟩
def okc (c : Nat) : Bool := c == 48 || (c == 49 || c == 50)
def pgc (c : Nat) : Pg := if c = 49 then 1 else if c = 50 then 2 else 0
def chp (p : Pg) : Nat := 48 + p.val
theorem pgc_chp : ∀ p : Pg, pgc (chp p) = p := by decide
theorem okc_chp : ∀ p : Pg, okc (chp p) = true := by decide
theorem okc_iff (c : Nat) : okc c = true ↔ c = 48 ∨ c = 49 ∨ c = 50 := by simp [okc]
theorem chp_pgc {c : Nat} (h : okc c = true) : chp (pgc c) = c := by
  rcases (okc_iff c).mp h with rfl | rfl | rfl <;> rfl
theorem Sg_inj {a b : List Nat} (h : Sg a = Sg b) : a = b := congrArg (fun x : Str => x.cps.toList) h
theorem Sg_of (w : Str) : Sg w.cps.toList = w := rfl
theorem dash_eq : ("-" : Str) = Sg [45] := by decide +kernel
theorem emp_eq : ("" : Str) = Sg [] := by decide +kernel
theorem fig_eq : ("012" : Str) = Sg [48, 49, 50] := by decide +kernel
/-- a state's text -/
def txt (s : List Pg) : Str := if s = [] then Sg [45] else Sg (s.reverse.map chp)
/-- what a text writes -/
def readS (w : Str) : Option (List Pg) := if w = Sg [45] then some [] else if w.cps.toList = [] ∨ w.cps.toList.all okc = false then none else some (w.cps.toList.reverse.map pgc)
theorem map_pgc (l : List Pg) : (l.map chp).map pgc = l := by
  rw [List.map_map]
  conv => rhs; rw [← List.map_id l]
  exact List.map_congr_left fun p _ => pgc_chp p
theorem map_chp {l : List Nat} (h : l.all okc = true) : (l.map pgc).map chp = l := by
  rw [List.map_map]
  conv => rhs; rw [← List.map_id l]
  exact List.map_congr_left fun c hc => chp_pgc (List.all_eq_true.mp h c hc)
theorem all_chp (l : List Pg) : (l.map chp).all okc = true := by
  rw [List.all_eq_true]
  intro c hc
  obtain ⟨p, _, rfl⟩ := List.mem_map.mp hc
  exact okc_chp p
theorem read_txt (s : List Pg) : readS (txt s) = some s := by
  unfold txt
  by_cases h : s = []
  · rw [if_pos h, readS, if_pos rfl, h]
  · rw [if_neg h, readS]
    have h1 : ¬ Sg (s.reverse.map chp) = Sg [45] := fun z => by
      have := Sg_inj z
      have k := all_chp s.reverse
      rw [this] at k
      exact absurd k (by decide)
    have e : (Sg (s.reverse.map chp)).cps.toList = s.reverse.map chp := rfl
    rw [if_neg h1, e, if_neg (fun z => ?_), ← List.map_reverse, List.reverse_reverse, map_pgc]
    rcases z with z | z
    · rw [List.map_eq_nil_iff, List.reverse_eq_nil_iff] at z
      exact h z
    · rw [all_chp] at z
      cases z
theorem txt_read {w : Str} {s : List Pg} (h : readS w = some s) : txt s = w := by
  unfold readS at h
  by_cases h1 : w = Sg [45]
  · rw [if_pos h1] at h
    rw [← Option.some.inj h, h1]
    rfl
  · rw [if_neg h1] at h
    by_cases h2 : w.cps.toList = [] ∨ w.cps.toList.all okc = false
    · rw [if_pos h2] at h
      cases h
    · rw [if_neg h2] at h
      have e := Option.some.inj h
      have hne : w.cps.toList ≠ [] := fun z => h2 (.inl z)
      have hall : w.cps.toList.all okc = true := by
        cases q : w.cps.toList.all okc with
        | true => rfl
        | false => exact absurd (.inr q) h2
      unfold txt
      rw [if_neg (fun z => ?_), ← e, ← List.map_reverse, List.reverse_reverse, map_chp hall]
      rw [← e, List.map_eq_nil_iff, List.reverse_eq_nil_iff] at z
      exact hne z
theorem fig_has (c : Nat) : ("012" : Str).cps.contains c = okc c := by
  rw [fig_eq]
  show (#[48, 49, 50] : Array Nat).contains c = okc c
  rw [Array.contains_eq_any_beq]
  simp [okc, Bool.beq_comm]
theorem takeWhile_all {α : Type} {p : α → Bool} : ∀ {l : List α}, l.all p = true → l.takeWhile p = l
  | [], _ => rfl
  | a :: l, h => by
    rw [List.all_cons, Bool.and_eq_true] at h
    rw [List.takeWhile_cons_of_pos h.1, takeWhile_all h.2]
theorem takeWhile_lt {α : Type} {p : α → Bool} : ∀ {l : List α}, l.all p = false → (l.takeWhile p).length < l.length
  | [], h => by cases h
  | a :: l, h => by
    by_cases ha : p a = true
    · rw [List.all_cons, ha, Bool.true_and] at h
      rw [List.takeWhile_cons_of_pos ha, List.length_cons, List.length_cons]
      exact Nat.succ_lt_succ (takeWhile_lt h)
    · rw [List.takeWhile_cons_of_neg ha, List.length_cons]
      exact Nat.succ_pos _
theorem drop_take_all {α : Type} {p : α → Bool} : ∀ {l : List α}, (l.drop (l.takeWhile p).length).all p = true → l.all p = true
  | [], _ => rfl
  | a :: l, h => by
    by_cases ha : p a = true
    · rw [List.takeWhile_cons_of_pos ha, List.length_cons, List.drop_succ_cons] at h
      rw [List.all_cons, ha, drop_take_all h]
      rfl
    · rw [List.takeWhile_cons_of_neg ha] at h
      exact h
/-- nothing is left of a text without its figures just where it holds no others -/
theorem strip_emp (w : Str) : decide (Txt.stripChars w "012" = ("" : Str)) = w.cps.toList.all okc := by
  have e0 : Txt.stripChars w "012" = PySem.W.stripped okc true true w := by
    unfold Txt.stripChars
    rw [PySem.W.stripBy_eq]
    congr 1
    funext c
    exact fig_has c
  have e1 : (PySem.W.stripped okc true true w).cps.toList = (w.cps.toList.drop (w.cps.toList.takeWhile okc).length).take (w.length - ((w.cps.toList.drop (w.cps.toList.takeWhile okc).length).reverse.takeWhile okc).length - (w.cps.toList.takeWhile okc).length) := by
    show (Builtin.Str.strSub w _ _).cps.toList = _
    rw [PySem.StrLaws.strSub_toList]
    rfl
  have e2 : (Txt.stripChars w "012" = ("" : Str)) ↔ (PySem.W.stripped okc true true w).cps.toList = [] := by
    rw [e0, emp_eq]
    constructor
    · intro h; rw [h]
    · intro h
      have := congrArg Sg h
      exact this
  have hlen : w.length = w.cps.toList.length := by show w.cps.size = _; rw [Array.length_toList]
  rw [Bool.eq_iff_iff, decide_eq_true_eq, e2, e1, hlen]
  generalize w.cps.toList = l
  constructor
  · intro h
    rw [List.take_eq_nil_iff] at h
    cases hd : (l.drop (l.takeWhile okc).length).all okc with
    | true => exact drop_take_all hd
    | false =>
      have hr : (l.drop (l.takeWhile okc).length).reverse.all okc = false := by rw [List.all_reverse]; exact hd
      have hlt := takeWhile_lt hr
      rw [List.length_reverse, List.length_drop] at hlt
      rcases h with h | h
      · have hle : (l.takeWhile okc).length ≤ l.length := (List.takeWhile_sublist okc).length_le
        omega
      · rw [h] at hd
        cases hd
  · intro h
    rw [takeWhile_all h, List.drop_length, List.take_nil]
end TR

/-! own layer: texts -/
namespace TR
open PySem PySem.Spec PyProof.Rows L2 TM
def rStrI : List V → Hp → VK → Prop := fun xs H Q => ∃ i, xs = [.int i] ∧ i.natAbs.log2 < 1920 ∧ Q (.str (toString i)) H
def rIntS : List V → Hp → VK → Prop := fun xs H Q => ∃ a n, xs = [.str a] ∧ PySem.intText? a = some n ∧ a.length ≤ 640 ∧ Q (.int n) H
theorem strI {X : Cx} : CallR X (.type "str") rStrI := call_str_int
theorem intS {X : Cx} : CallR X (.type "int") rIntS := call_int_str
def rStrip : V → List V → Hp → VK → Prop := fun x xs H Q => ∃ a b, x = .str a ∧ xs = [.str b] ∧ a.length ≤ sizeLine ∧ Q (.str (Txt.stripChars a b)) H
def rIndex : V → List V → Hp → VK → Prop := fun x xs H Q => ∃ a b i rest, x = .str a ∧ xs = [.str b] ∧ Builtin.Str.occurrences a b 0 a.length 1 = i :: rest ∧ Q (.int (i : Nat)) H
def rJoin (K : PySem.W.Frag) : V → List V → Hp → VK → Prop := fun x xs H Q => ∃ a p, ∃ ys : List Str, x = .str a ∧ xs = [.ref p] ∧ (SqL K H p (ys.map V.str) ∨ SqT K H p (ys.map V.str)) ∧ (ys.map (·.length)).sum + ys.length * a.length ≤ 16777216 ∧ Q (.str (Txt.join a ys)) H
theorem mtStrip {X : Cx} : MtR X "str.strip" rStrip := mt_stripChars
theorem mtIndex {X : Cx} : MtR X "str.index" rIndex := mt_sindex
theorem peJoin {X : Cx} {K : PySem.W.Frag} {o e : Expr} {to te : TE} {apos pos : Pos} (hK : X.K = K) (ho : PE X o to) (he : PE X e te) (hs : starEach [e] X.env = [(false, eval e X.env)] := by rfl) (hbase : attributeBase o "join" X.env (eval o X.env) = eval o X.env := by rfl) (hline : (apos.endLine == pos.line) = true := by rfl) :
    PE X (.Call (.Attribute o "join" apos) [e] [] pos) (tM1 (rJoin K) to te) := by
  subst hK
  exact pe_join ho he hs hbase hline
/-- a text so many times -/
def rRepS : R2 := fun x y H Q => ∃ a n, x = .str a ∧ y = .int n ∧ 1 < n ∧ n ≤ 100000 ∧ 0 < a.length ∧ a.length ≤ 100 ∧ Q (.str (Sg (List.replicate n.toNat a.cps.toList).flatten)) H
theorem foldl_app (l : List (Array Nat)) : ∀ b : Array Nat, (l.foldl (· ++ ·) b).toList = b.toList ++ (l.map Array.toList).flatten := by
  induction l with
  | nil => intro b; simp
  | cons a l ih => intro b; rw [List.foldl_cons, ih]; simp
theorem op_repS {X : Cx} : OpR X (binaryOp .Mult) rRepS := by
  intro pins s σ H x y v u Q I rx ry h
  obtain ⟨a, n, rfl, rfl, h1, h2, h3, h4, q⟩ := h
  obtain ⟨t, rfl⟩ := rx
  obtain ⟨t', rfl⟩ := ry
  have hmul : a.length * n.toNat ≤ 100 * 100000 := Nat.mul_le_mul h4 (by omega)
  have e1 : (n == 1 || a.length == 0) = false := by
    rw [Bool.or_eq_false_iff]
    exact ⟨by simp; omega, by simp; omega⟩
  have e2 : (⟨(List.replicate n.toNat a.cps).foldl (· ++ ·) #[]⟩ : Str) = Sg (List.replicate n.toNat a.cps.toList).flatten := by
    show Str.mk _ = Str.mk _
    congr 1
    apply Array.ext'
    rw [foldl_app]
    simp
  have e3 : (Sg (List.replicate n.toNat a.cps.toList).flatten).length ≤ 100 * 100000 := by
    show (List.replicate n.toNat a.cps.toList).flatten.toArray.size ≤ _
    rw [List.size_toArray, List.length_flatten, List.map_replicate, List.sum_replicate_nat, Array.length_toList, Nat.mul_comm]
    exact hmul
  refine PySem.P.mul_str (by rw [decide_eq_false (by omega), decide_eq_false (by omega)]; rfl) (fun _ _ => ?_) (fun _ _ => ?_) ?_
  · have k1 : (100 : Int) ≤ (2 ^ 63 - 1) / n := Int.le_ediv_of_mul_le (by omega) (by omega)
    omega
  · unfold Builtin.Str.tooLong
    have hz : sizeLine = 16777216 := sizeLine_eq
    exact decide_eq_false (by omega)
  · rw [if_neg (by omega), e1, if_neg Bool.false_ne_true, e2]
    exact ⟨by rw [sizeLine_eq]; omega, ⟨.str _, H, I.tok _, ⟨_, rfl⟩, q⟩⟩
/-! ### readings over data -/
theorem str_peg : ∀ p : Pg, (Str.ofString (toString ((p.val : Nat) : Int)) : Str) = Sg [chp p] := fun p => by
  have h := SX.num_S p.val
  exact h.trans (congrArg (fun l => Sg l) (TL.numL_lt (by have := p.isLt; omega)))
theorem int_sign {c : Nat} (h : okc c = true) : PySem.intText? ⟨#[c]⟩ = some ((pgc c).val : Int) := by
  rcases (okc_iff c).mp h with rfl | rfl | rfl <;> decide +kernel
theorem idx_sign {c : Nat} (h : okc c = true) : Builtin.Str.occurrences ("012" : Str) ⟨#[c]⟩ 0 ("012" : Str).length 1 = [(pgc c).val] := by
  rcases (okc_iff c).mp h with rfl | rfl | rfl <;> decide +kernel
theorem joinL_one : ∀ l : List Nat, TL.joinL [] (l.map fun c => [c]) = l
  | [] => rfl
  | [c] => rfl
  | c :: d :: l => by
    rw [List.map_cons, List.map_cons, TL.joinL, ← List.map_cons (f := fun c : Nat => [c]), joinL_one (d :: l)]
    rfl
section
variable {K : PySem.W.Frag} {ρ ρ' : Rho} {te to ta tb tx : TE} {x y z : Da} {xs ys zs ds : List Da} {i j l m : Nat} {E : XK} {t u : TS} {D : DE}
theorem ef_strP {p : Pg} (h : EvF K te ρ (pD p)) : EvF K (tCB rStrI (tCons te tNil)) ρ (.str (Sg [chp p])) := fun F0 H0 σ F H e Q q => h F0 H0 σ F H e _ fun v F1 H1 g hv => by
  cases hv
  refine ⟨_, rfl, ?_, ?_⟩
  · exact (by decide : ∀ p : Pg, ((p.val : Nat) : Int).natAbs.log2 < 1920) p
  · rw [str_peg]
    exact q _ F1 H1 g (.str _)
theorem ef_intC {c : Nat} (hc : okc c = true) (h : EvF K te ρ (.str ⟨#[c]⟩)) : EvF K (tCB rIntS (tCons te tNil)) ρ (pD (pgc c)) := fun F0 H0 σ F H e Q q => h F0 H0 σ F H e _ fun v F1 H1 g hv => by
  cases hv
  exact ⟨_, _, rfl, int_sign hc, by show 1 ≤ 640; decide, q _ F1 H1 g (.int _)⟩
theorem ef_stripS {w b : Str} (h : EvF K to ρ (.str w)) (hw : w.length ≤ sizeLine) (h2 : EvF K te ρ (.str b)) : EvF K (tM1 rStrip to te) ρ (.str (Txt.stripChars w b)) := fun F0 H0 σ F H e Q q => h F0 H0 σ F H e _ fun v F1 H1 g hv => by
  cases hv
  refine ⟨⟨_, rfl⟩, h2 F0 H0 σ F1 H1 (e.grow g) _ fun v2 F2 H2 g2 hv2 => ?_⟩
  cases hv2
  exact ⟨_, _, rfl, rfl, hw, q _ F2 H2 (g.trans g2) (.str _)⟩
theorem ef_idxC {c : Nat} (hc : okc c = true) (h : EvF K to ρ (.str "012")) (h2 : EvF K te ρ (.str ⟨#[c]⟩)) : EvF K (tM1 rIndex to te) ρ (pD (pgc c)) := fun F0 H0 σ F H e Q q => h F0 H0 σ F H e _ fun v F1 H1 g hv => by
  cases hv
  refine ⟨⟨_, rfl⟩, h2 F0 H0 σ F1 H1 (e.grow g) _ fun v2 F2 H2 g2 hv2 => ?_⟩
  cases hv2
  exact ⟨_, _, _, _, rfl, rfl, idx_sign hc, q _ F2 H2 (g.trans g2) (.int _)⟩
theorem ef_joinC {l : List Nat} (h : EvF K to ρ (.str "")) (h2 : EvM K te ρ (l.map fun c => .str (Sg [c]))) (hl : l.length ≤ 100000) : EvF K (tM1 (rJoin K) to te) ρ (.str (Sg l)) := fun F0 H0 σ F H e Q q => h F0 H0 σ F H e _ fun v F1 H1 g hv => by
  cases hv
  refine ⟨⟨_, rfl⟩, h2 F0 H0 σ F1 H1 (e.grow g) _ fun p vs F2 H2 g2 hs hd => ?_⟩
  have em : (l.map fun c => Da.str (Sg [c])) = (l.map fun c => Sg [c]).map Da.str := by rw [List.map_map]; rfl
  rw [em] at hd
  have ev := dqa_str hd
  subst ev
  refine ⟨_, p, l.map fun c => Sg [c], rfl, rfl, .inl hs, ?_, ?_⟩
  · have e1 : (l.map fun c => Sg [c]).map (·.length) = List.replicate l.length 1 := by
      rw [List.map_map, List.eq_replicate_iff]
      refine ⟨by rw [List.length_map], fun b hb => ?_⟩
      obtain ⟨_, _, rfl⟩ := List.mem_map.mp hb
      rfl
    rw [e1, List.sum_replicate_nat, emp_eq]
    show l.length * 1 + _ * 0 ≤ _
    omega
  · have e2 : Txt.join ("" : Str) (l.map fun c => Sg [c]) = Sg l := by
      rw [emp_eq]
      have := SX.join_S [] (l.map fun c => [c])
      rw [joinL_one, List.map_map] at this
      exact this
    rw [e2]
    exact q _ F2 H2 (g.trans g2) (.str _)
theorem rv_repS {a : Str} {n : Int} (h1 : 1 < n) (h2 : n ≤ 100000) (h3 : 0 < a.length) (h4 : a.length ≤ 100) : RvD K (fun x y H Q => rMul2 x y H Q ∨ rRepS x y H Q) (.str a) (.int n) (.str (Sg (List.replicate n.toNat a.cps.toList).flatten)) := fun v u H Q hv hu q => by
  cases hv
  cases hu
  exact .inr ⟨a, n, rfl, rfl, h1, h2, h3, h4, q _ fun F => .str _⟩
end
section
variable {K : PySem.W.Frag} {ρ ρ' : Rho} {te ts ta tb tx : TE} {tt : TT} {x y z : Da} {j : Nat} {vs : List Nat}
abbrev chD (c : Nat) : Da := .str ⟨#[c]⟩
theorem cps_at (w : Str) (i : Nat) (h : i < w.cps.toList.length) : w.cps.getD i 0 = w.cps.toList[i] := by
  rw [Array.getD_eq_getD_getElem?, ← Array.getElem?_toList, List.getElem?_eq_getElem h]
  rfl
/-- over the signs of a text -/
theorem en_lcS (w : Str) (keep : Nat → Bool) (out : Nat → Da) (h : EvF K ts ρ (.str w)) (hz : w.cps.toList.length ≤ 1000000) (hj : j ∈ vs)
    (ht : ∀ a, a ∈ w.cps.toList → EvT K tt ((wipeR ρ vs).set j (.d (chD a))) (keep a)) (he : ∀ a, a ∈ w.cps.toList → keep a = true → EvF K te ((wipeR ρ vs).set j (.d (chD a))) (out a)) : EvN K (tLc (iStr ts) (gName j) tt te vs) ρ ((w.cps.toList.filter keep).map out) :=
  en_lcT (js := [j]) chD (fun x r => r.set j (.d x)) w.cps.toList keep out (ei_str h) (Array.length_toList).symm (fun i hi => by rw [cps_at w i hi]) hz (fun _ => go_name) (fun j' h' => by rw [List.mem_singleton] at h'; rw [h']; exact hj) ht he
theorem en_lcRS (w : Str) (keep : Nat → Bool) (out : Nat → Da) (h : EvF K ts ρ (.str w)) (hz : w.cps.toList.length ≤ 1000000) (hj : j ∈ vs)
    (ht : ∀ a, a ∈ w.cps.toList.reverse → EvT K tt ((wipeR ρ vs).set j (.d (chD a))) (keep a)) (he : ∀ a, a ∈ w.cps.toList.reverse → keep a = true → EvF K te ((wipeR ρ vs).set j (.d (chD a))) (out a)) : EvN K (tLc (iRevS (tCons ts tNil)) (gName j) tt te vs) ρ ((w.cps.toList.reverse.filter keep).map out) := by
  have hl : w.length ≤ sizeLine := by
    rw [sizeLine_eq]
    have : w.length = w.cps.toList.length := by show w.cps.size = _; rw [Array.length_toList]
    omega
  refine en_lcT (js := [j]) chD (fun x r => r.set j (.d x)) w.cps.toList.reverse keep out (ei_revS h hl) (by rw [List.length_reverse, Array.length_toList]) (fun i hi => ?_) (by rw [List.length_reverse]; exact hz) (fun _ => go_name) (fun j' h' => by rw [List.mem_singleton] at h'; rw [h']; exact hj) ht he
  rw [List.length_reverse] at hi
  have e : w.cps.size = w.cps.toList.length := Array.length_toList.symm
  rw [List.getElem_reverse, ← cps_at w _ (by omega), e]
end
end TR

namespace TR
open PySem PySem.Spec PyProof.Rows L2 TM
def top (i : Nat) : Stmt := PySem.Challenge.pw_towerrow_k06_written.main.body.getD i (.Pass ⟨0, 0, 0, 0⟩)
abbrev s_is_whole : Stmt := top 10
abbrev n_is_whole : List Str := ["thing"]
theorem sc_is_whole : FnScope n_is_whole ["thing"] (defScope s_is_whole) := ⟨rfl, rfl, rfl, by decide +kernel, rfl, by decide +kernel, by decide +kernel⟩
abbrev s_is_peg : Stmt := top 11
abbrev n_is_peg : List Str := ["thing"]
theorem sc_is_peg : FnScope n_is_peg ["thing"] (defScope s_is_peg) := ⟨rfl, rfl, rfl, by decide +kernel, rfl, by decide +kernel, by decide +kernel⟩
abbrev s_check_state : Stmt := top 12
abbrev n_check_state : List Str := ["state", "peg"]
theorem sc_check_state : FnScope n_check_state ["state"] (defScope s_check_state) := ⟨rfl, rfl, rfl, by decide +kernel, rfl, by decide +kernel, by decide +kernel⟩
abbrev s_written : Stmt := top 14
abbrev n_written : List Str := ["state", "peg"]
theorem sc_written : FnScope n_written ["state"] (defScope s_written) := ⟨rfl, rfl, rfl, by decide +kernel, rfl, by decide +kernel, by decide +kernel⟩
abbrev s_read : Stmt := top 15
abbrev n_read : List Str := ["text", "sign"]
theorem sc_read : FnScope n_read ["text"] (defScope s_read) := ⟨rfl, rfl, rfl, by decide +kernel, rfl, by decide +kernel, by decide +kernel⟩
abbrev s__law_cell_at : Stmt := top 17
abbrev n__law_cell_at : List Str := ["_law_script", "_law_k"]
theorem sc__law_cell_at : FnScope n__law_cell_at ["_law_script", "_law_k"] (defScope s__law_cell_at) := ⟨rfl, rfl, rfl, by decide +kernel, rfl, by decide +kernel, by decide +kernel⟩
abbrev s__law_draw : Stmt := top 18
abbrev n__law_draw : List Str := ["_law_cell", "_law_k", "_law_many", "_law_primes"]
theorem sc__law_draw : FnScope n__law_draw ["_law_cell", "_law_k", "_law_many"] (defScope s__law_draw) := ⟨rfl, rfl, rfl, by decide +kernel, rfl, by decide +kernel, by decide +kernel⟩
abbrev s__law_state : Stmt := top 19
abbrev n__law_state : List Str := ["_law_script", "_law_by", "_law_kind", "_law_found", "_law_k", "_law_peg"]
theorem sc__law_state : FnScope n__law_state ["_law_script", "_law_by"] (defScope s__law_state) := ⟨rfl, rfl, rfl, by decide +kernel, rfl, by decide +kernel, by decide +kernel⟩
abbrev s__law_rule : Stmt := top 20
abbrev n__law_rule : List Str := ["_law_script", "_law_k"]
theorem sc__law_rule : FnScope n__law_rule ["_law_script", "_law_k"] (defScope s__law_rule) := ⟨rfl, rfl, rfl, by decide +kernel, rfl, by decide +kernel, by decide +kernel⟩
abbrev s__law_behind : Stmt := top 21
abbrev n__law_behind : List Str := ["_law_rule_here", "_law_state_here", "_law_found", "_law_covered", "_law_disc", "_law_start", "_law_peg", "_law_good"]
theorem sc__law_behind : FnScope n__law_behind ["_law_rule_here", "_law_state_here"] (defScope s__law_behind) := ⟨rfl, rfl, rfl, by decide +kernel, rfl, by decide +kernel, by decide +kernel⟩
abbrev s__law_whole : Stmt := top 22
abbrev n__law_whole : List Str := ["_law_number"]
theorem sc__law_whole : FnScope n__law_whole ["_law_number"] (defScope s__law_whole) := ⟨rfl, rfl, rfl, by decide +kernel, rfl, by decide +kernel, by decide +kernel⟩
abbrev s__law_refused : Stmt := top 23
abbrev n__law_refused : List Str := ["_law_text", "error", "_law_others"]
theorem sc__law_refused : FnScope n__law_refused ["_law_text"] (defScope s__law_refused) := ⟨rfl, rfl, rfl, by decide +kernel, rfl, by decide +kernel, by decide +kernel⟩
abbrev s__law_right : Stmt := top 24
abbrev n__law_right : List Str := ["_law_text", "_law_found", "_law_due", "_law_sign", "_law_peg"]
theorem sc__law_right : FnScope n__law_right ["_law_text"] (defScope s__law_right) := ⟨rfl, rfl, rfl, by decide +kernel, rfl, by decide +kernel, by decide +kernel⟩
abbrev s_law : Stmt := top 25
abbrev n_law : List Str := ["_law_script", "_law_state_here", "_law_text", "_law_handed", "_law_cell", "_law_k", "_law_at", "_law_sign", "_law_some", "_law_peg", "_law_other", "_law_thing"]
theorem sc_law : FnScope n_law ["_law_script"] (defScope s_law) := ⟨rfl, rfl, rfl, by decide +kernel, rfl, by decide +kernel, by decide +kernel⟩
abbrev FnP (K : PySem.W.Frag) (x : Str) (st : Stmt) (f : Addr) (fd : FuncData) : Prop := FunD K x x (defArgs st) (defBody st) (defScope st) [] [] f fd
structure Glb (mg : Str → Option Value) : Prop where
  b_isinstance : mg "isinstance" = none
  b_int : mg "int" = none
  b_bool : mg "bool" = none
  b_list : mg "list" = none
  b_all : mg "all" = none
  b_len : mg "len" = none
  b_reversed : mg "reversed" = none
  b_str : mg "str" = none
  b_range : mg "range" = none
  b_enumerate : mg "enumerate" = none
  b_abs : mg "abs" = none
  b_ValueError : mg "ValueError" = none
  b_any : mg "any" = none
local macro_rules | `(tactic| walk_at "rv") => `(tactic| with_reducible first
  | exact rv_add | exact rv_sub | exact rv_lt | exact rv_le | exact rv_gt | exact rv_ge
  | exact rv_eqi | exact rv_nei | exact rv_eqs | exact rv_nes | exact rv_eqb | exact rv_neb
  | exact rv_mul (cmul_l (by decide)) | exact rv_mul (cmul_r (by decide))
  | exact rv_fdv (cdiv_of (by decide) (by decide)) | exact rv_mod (by decide) | exact rv_inI | exact rv_niI | exact rv_inC)
local macro_rules | `(tactic| walk_at "ev") => `(tactic| first
  | ((with_reducible apply ef_var); rfl) | with_reducible exact ef_int | with_reducible exact ef_str | with_reducible exact ef_bl | with_reducible exact ef_non | with_reducible exact ef_ty | ((with_reducible apply ef_varl); rfl)
  | with_reducible exact ea_nil | ((with_reducible apply ea_cons); (walk_at "ev"); (walk_at "ev"))
  | ((with_reducible apply ef_binD); (walk_at "evd"); (walk_at "evd"); (walk_at "rv"))
  | ((with_reducible apply ef_neg); walk_at "ev")
  | ((with_reducible apply ef_tup); (walk_at "ev"); exact Nat.le_of_ble_eq_true rfl)
  | ((with_reducible apply et_val); walk_at "ev") | ((with_reducible apply et_test); walk_at "ev")
  | ((with_reducible apply et_not); walk_at "ev")
  | ((with_reducible apply et_and); (walk_at "ev"); intro _; (walk_at "ev")) | ((with_reducible apply et_or); (walk_at "ev"); intro _; (walk_at "ev"))
  | ((with_reducible apply ef_andV); (walk_at "ev"); intro _; (walk_at "ev")) | ((with_reducible apply ef_orV); (walk_at "ev"); intro _; (walk_at "ev")) | ((with_reducible apply ef_notV); walk_at "ev")
  | ((with_reducible apply ef_abs); walk_at "ev") | ((with_reducible apply ef_max); walk_at "ev") | ((with_reducible apply ef_min); walk_at "ev")
  | ((with_reducible apply ef_chain); (walk_at "ev"); (walk_at "ev"); (walk_at "rv"); (intro _; walk_at "ev"); (intro _; walk_at "rv"))
  | with_reducible exact eo_none | ((with_reducible apply eo_some); walk_at "ev")
  | ((with_reducible apply en_lst); (walk_at "ev"); exact Nat.le_of_ble_eq_true rfl)
  | ((with_reducible apply en_rev); walk_at "evm")
  | ((with_reducible apply en_list); walk_at "evm")
  | ((with_reducible apply en_sl); (walk_at "evm"); (walk_at "ev"); (walk_at "ev"))
  | ((with_reducible apply ef_lenM); walk_at "evm") | ((with_reducible apply ef_lenT); walk_at "ev")
  | ((with_reducible apply ef_call); (walk_at "ev"); (walk_at "gr"))
  | ((with_reducible apply en_call); (walk_at "ev"); (walk_at "gr"))
  | ((with_reducible apply EvN.f); walk_at "ev"))
local macro_rules | `(tactic| walk_at "evp") => `(tactic| first
  | ((with_reducible apply ep_varm); rfl) | ((with_reducible apply ep_varl); rfl) | ((with_reducible apply EvN.p); walk_at "ev"))
local macro_rules | `(tactic| walk_at "evm") => `(tactic| first
  | ((with_reducible apply EvP.m); walk_at "evp") | ((with_reducible apply EvF.m); walk_at "ev"))
local macro_rules | `(tactic| walk_at "evd") => `(tactic| first
  | ((with_reducible apply EvF.now); walk_at "ev") | ((with_reducible apply EvM.now); walk_at "evm"))
local macro_rules | `(tactic| walk_at "gr") => `(tactic| first
  | (constructor; done) | (constructor <;> first | assumption | omega))
local macro_rules | `(tactic| walk_at "nm") => `(tactic| try (conv => arg 4; simp only [rho0, List.set_cons_zero, List.set_cons_succ]))
local macro_rules | `(tactic| walk_at "st1") => `(tactic| first
  | (with_reducible apply q_assoc) | (with_reducible apply q_next)
  | ((with_reducible apply q_asg); (walk_at "ev")) | ((with_reducible apply q_par3); (walk_at "ev")) | ((with_reducible apply q_par2); (walk_at "ev")) | (with_reducible apply q_parNN (by decide))
  | ((with_reducible apply q_aug); rfl; (walk_at "ev"))
  | ((with_reducible apply q_retM); rfl) | ((with_reducible apply q_retN); (walk_at "ev")) | ((with_reducible apply q_ret); (walk_at "ev"))
  | ((with_reducible apply q_drop); (walk_at "ev")))
local macro_rules | `(tactic| walk_at "st") => `(tactic| ((walk_at "nm"); (first | walk_at "st1" | (apply es_last; walk_at "st1")); (walk_at "nm")))
local macro_rules | `(tactic| walk_at "evr") => `(tactic| ((with_reducible apply EvF.is); (walk_at "ev"); rfl))

abbrev dsX : List Str := ["BadText"]
abbrev csX : List Str := ["TowerError", "BadRule", "BadState", "BadPeg", "BadMove", "BadNumber", "Unlike", "BadText"]

section
variable {P : Program} {w : World} {K : PySem.W.Frag} {mg : Str → Option Value} {base : Heap} {er : Str → Addr}
def isW : Da → Bool
  | .int _ => true
  | _ => false
theorem isW_eq (x : Da) : (isIntD x && !isBlD x) = isW x := by cases x <;> rfl
inductive gr_is_whole (er : Str → Addr) : List Da → Out → Prop
  | mk (x : Da) (h : hasTy x) : gr_is_whole er [x] (.f (.bl (isW x)))

theorem cal_is_whole {f : Addr} {fd : FuncData} (F : FnP K "is_whole" s_is_whole f fd) (hm : mg "is_whole" = some (.ref f)) (G : Glb mg) :
    Cal P w K mg base 1 "is_whole" ["thing"] (gr_is_whole er) := by
  have hb : Binds K fd ["thing"] [] := F.bindsN fun _ _ _ _ _ _ us hl => match us, hl with | [_], _ => rfl
  refine cal_of (n := 1) F sc_is_whole hm hb rfl (by rintro ds r h; cases h <;> rfl) (fun cdv A outer s H E hr => ⟨_, (pss_one (ps_ret (pe_and (pe_callB (isiK (K := K) rfl) (by rfl) G.b_isinstance (by decide +kernel) (pa_cons (pv 0) (pa_cons (pe_bltn (v := .ty "int") (by rfl) G.b_int (by decide +kernel) rfl) pa_nil))) (pe_one (pe_not (pe_callB (isiK (K := K) rfl) (by rfl) G.b_isinstance (by decide +kernel) (pa_cons (pv 0) (pa_cons (pe_bltn (v := .ty "bool") (by rfl) G.b_bool (by decide +kernel) rfl) pa_nil)))))))), ?_⟩)
  rintro ds o ⟨x, h⟩
  apply es_last
  apply q_ret
  · exact ef_andV (ef_isInt (EvF.now (ef_var rfl)) h) fun _ => ef_notV (ef_isBool (EvF.now (ef_var rfl)) h)
  · exact congrArg (fun z => Out.f (.bl z)) (isW_eq x)


inductive gr_read (er : Str → Addr) : List Da → Out → Prop
  | mk (w : Str) (s : List Pg) (h : w.cps.toList.length ≤ 100000) (hr : readS w = some s) : gr_read er [.str w] (.n (stL s))
  | bad (w : Str) (h : w.cps.toList.length ≤ 100000) (hr : readS w = none) : gr_read er [.str w] (.e (er "BadText"))
  | badT (x : Da) (h : hasTy x) (hs : isStrD x = false) : gr_read er [x] (.e (er "BadText"))
theorem in_fig (c : Nat) : decide (c ∈ ("012" : Str).cps.toList) = okc c := by
  rw [fig_eq, Bool.eq_iff_iff]
  simp [okc]
theorem dec_dash (w : Str) : decide (w = ("-" : Str)) = decide (w = Sg [45]) := by rw [dash_eq]
theorem dec_emp (w : Str) : decide (w = ("" : Str)) = decide (w.cps.toList = []) := by
  rw [emp_eq, decide_eq_decide]
  exact ⟨fun h => by rw [h], fun h => congrArg Sg h⟩

theorem cal_read {f : Addr} {fd : FuncData} (F : FnP K "read" s_read f fd) (hm : mg "read" = some (.ref f)) (G : Glb mg) (e_BadText : ErrC K mg "BadText" (er "BadText")) :
    Cal P w K mg base 1 "read" ["text"] (gr_read er) := by
  have hb : Binds K fd ["text"] [] := F.bindsN fun _ _ _ _ _ _ us hl => match us, hl with | [_], _ => rfl
  refine cal_of (n := 2) F sc_read hm hb rfl (by rintro ds r h; cases h <;> rfl) (fun cdv A outer s H E hr => ⟨_, (pss_cons (ps_if (pt_not (pt_val (pe_callB (isiK (K := K) rfl) (by rfl) G.b_isinstance (by decide +kernel) (pa_cons (pv 0) (pa_cons (pe_bltn (v := .ty "str") (by rfl) G.b_str (by decide +kernel) rfl) pa_nil))))) (pss_one (raise_own e_BadText (by rfl))) pss_nil)
      (pss_cons (ps_if (pt_cmpR (opEq (K := K) hr rfl) (pv 0) pe_str (nomark _)) (pss_one (ps_ret (pe_lst pa_nil))) pss_nil)
      (pss_cons (ps_if (PW.pt (pw_or (pt_cmpR (opEq (K := K) hr rfl) (pv 0) pe_str (nomark _)) (pw_or1 (pt_not (pt_val (pe_callB (allK (K := K) rfl rfl) (by rfl) G.b_all (by decide +kernel) (pa_cons (pe_lc (own := [("sign", 1)]) rfl sc_read.nd (pi_str (pv 0)) (blkOk_by (N := n_read) (sc := defScope s_read) (by decide +kernel)) (fun _ _ _ _ _ => (pg_name (i := 1) sc_read.nd rfl (Or.inl rfl))) (fun _ _ _ _ _ => pts_nil) (fun _ _ _ _ _ => (pe_cmpR (opIn (K := K) hr rfl) (pv 1) pe_str (by rfl)))) pa_nil))))))) (pss_one (raise_own e_BadText (by rfl))) pss_nil)
      (pss_one (ps_ret (pe_lc (own := [("sign", 1)]) rfl sc_read.nd (pi_revS rfl G.b_reversed (pv 0)) (blkOk_by (N := n_read) (sc := defScope s_read) (by decide +kernel)) (fun _ _ _ _ _ => (pg_name (i := 1) sc_read.nd rfl (Or.inl rfl))) (fun _ _ _ _ _ => pts_nil) (fun _ _ _ _ _ => (pe_callTy intS (by rfl) G.b_int (by decide +kernel) (pa_cons (pv 1) pa_nil))))))))), ?_⟩)
  rintro ds o h
  obtain ⟨w, hw, rfl, ho⟩ | ⟨x, hx, hs, rfl, rfl⟩ : (∃ w : Str, w.cps.toList.length ≤ 100000 ∧ ds = [.str w] ∧ o = (match readS w with | some s => Out.n (stL s) | none => Out.e (er "BadText"))) ∨ (∃ x, hasTy x ∧ isStrD x = false ∧ ds = [x] ∧ o = .e (er "BadText")) := by
    cases h with
    | mk w s h hr => exact .inl ⟨w, h, rfl, by rw [hr]⟩
    | bad w h hr => exact .inl ⟨w, h, rfl, by rw [hr]⟩
    | badT x h hs => exact .inr ⟨x, h, hs, rfl, rfl⟩
  · walk_at "nm"
    apply q_if (b := false)
    · exact EvT.is (et_not (et_val (ef_isStr (EvF.now (ef_var rfl)) trivial))) rfl
    · intro z; cases z
    intro _
    apply q_next
    unfold readS at ho
    apply q_if (b := decide (w = Sg [45]))
    · exact EvT.is (et_test (ef_binD (EvF.now (ef_var rfl)) (EvF.now ef_str) rv_eqs)) (dec_dash w)
    · intro h
      rw [decide_eq_true_eq] at h
      rw [if_pos h] at ho
      apply q_retN (xs := stL [])
      · exact en_lst ea_nil (Nat.zero_le _)
      · exact ho.symm
    intro h
    rw [decide_eq_false_iff_not] at h
    rw [if_neg h] at ho
    apply q_next
    apply q_if (b := decide (w.cps.toList = []) || !(w.cps.toList.all okc))
    · refine EvT.is (et_or (et_test (ef_binD (EvF.now (ef_var rfl)) (EvF.now ef_str) rv_eqs)) fun _ => et_not (et_val (ef_all (bs := w.cps.toList.map okc) (EvP.m (EvN.p (EvN.is (en_lcS w (fun _ => true) (fun c => .bl (okc c)) (ef_var rfl) (by omega) (by simp) (fun _ _ => et_yes) (fun c _ _ => ?_)) ?_)))))) ?_
      · exact EvF.is (ef_binD (EvF.now (ef_var rfl)) (EvF.now ef_str) rv_inC) (congrArg Da.bl (in_fig c))
      · rw [filter_yes, List.map_map]
        rfl
      · rw [dec_emp, List.all_map]
        rfl
    · intro hb
      have h2 : w.cps.toList = [] ∨ w.cps.toList.all okc = false := by simpa using hb
      rw [if_pos h2] at ho
      exact q_raise ho.symm
    · intro hb
      have h2 : ¬ (w.cps.toList = [] ∨ w.cps.toList.all okc = false) := fun z => by
        have : (decide (w.cps.toList = []) || !(w.cps.toList.all okc)) = true := by simpa using z
        rw [hb] at this
        cases this
      rw [if_neg h2] at ho
      have hall : w.cps.toList.all okc = true := by
        cases q : w.cps.toList.all okc with
        | true => rfl
        | false => exact absurd (.inr q) h2
      apply q_next
      apply es_last
      apply q_retN
      · exact en_lcRS w (fun _ => true) (fun c => pD (pgc c)) (ef_var rfl) (by omega) (by simp) (fun _ _ => et_yes) (fun c hc _ => ef_intC (List.all_eq_true.mp hall c (List.mem_reverse.mp hc)) (ef_var rfl))
      · show Out.n _ = o
        rw [ho, filter_yes]
        exact congrArg Out.n (List.map_map (f := pgc) (g := pD)).symm
  · apply q_if (b := true)
    · exact EvT.is (et_not (et_val (ef_isStr (EvF.now (ef_var rfl)) hx))) (by rw [hs]; rfl)
    · intro _
      exact q_raise rfl
    · intro z; cases z


abbrev scD (ns : List Int) : Da := .lst (ns.map Da.int)
inductive gr__law_cell_at (er : Str → Addr) : List Da → Out → Prop
  | mk (ns : List Int) (k : Nat) : gr__law_cell_at er [scD ns, nD k] (.f (.int (cel ns k)))
theorem sc_at {ns : List Int} {k : Nat} (h : k < ns.length) : atI (ns.map Da.int) (k : Int) = some (.int (cel ns k)) := by
  refine atI_nat ?_
  rw [List.getElem?_map, List.getElem?_eq_getElem h, cel, List.getD_eq_getElem?_getD, List.getElem?_eq_getElem h]
  rfl

theorem cal__law_cell_at {f : Addr} {fd : FuncData} (F : FnP K "_law_cell_at" s__law_cell_at f fd) (hm : mg "_law_cell_at" = some (.ref f)) (G : Glb mg) :
    Cal P w K mg base 1 "_law_cell_at" ["_law_script", "_law_k"] (gr__law_cell_at er) := by
  have hb : Binds K fd ["_law_script", "_law_k"] [] := F.bindsN fun _ _ _ _ _ _ us hl => match us, hl with | [_, _], _ => rfl
  refine cal_of (n := 2) F sc__law_cell_at hm hb rfl (by rintro ds r h; cases h <;> rfl) (fun cdv A outer s H E hr => ⟨_, (pss_cons (ps_if (pt_cmpR op_lt (pv 1) (pe_callB (lenK (K := K) rfl) (by rfl) G.b_len (by decide +kernel) (pa_cons (pv 0) pa_nil)) (nomark _)) (pss_one (ps_ret (pe_ix (ixK (K := K) rfl) (pv 0) (pv 1) (fun _ _ => rfl)))) pss_nil)
      (pss_one (ps_ret pe_int))), ?_⟩)
  rintro ds o ⟨ns, k⟩
  apply q_if
  · walk_at "ev"
  · intro h1
    rw [decide_eq_true_eq, List.length_map] at h1
    apply q_ret
    · exact ef_binM (EvF.m (ef_var rfl)) (ef_var rfl) (rm_ix (sc_at (by omega)))
    · rfl
  · intro h1
    rw [decide_eq_false_iff_not, List.length_map] at h1
    walk_at "st"
    walk_at "st"
    have e : cel ns k = 0 := by
      rw [cel, List.getD_eq_getElem?_getD, List.getElem?_eq_none (by omega)]
      rfl
    show Out.f _ = Out.f _
    rw [e]


theorem prs_at (k : Nat) : atI (prs.map Da.int) ((k : Int) % 16) = some (.int (prAt k)) := by
  have h : k % 16 < 16 := Nat.mod_lt _ (by decide)
  have e : (k : Int) % 16 = ((k % 16 : Nat) : Int) := by omega
  rw [e]
  refine atI_nat ?_
  rw [List.getElem?_map, prAt, List.getD_eq_getElem?_getD]
  have hl : k % 16 < prs.length := h
  rw [List.getElem?_eq_getElem hl]
  rfl
inductive gr__law_draw (er : Str → Addr) : List Da → Out → Prop
  | mk (c : Int) (k m : Nat) (h : 0 < m) : gr__law_draw er [.int c, nD k, nD m] (.f (nD (drw c k m)))

theorem cal__law_draw {f : Addr} {fd : FuncData} (F : FnP K "_law_draw" s__law_draw f fd) (hm : mg "_law_draw" = some (.ref f)) (G : Glb mg) :
    Cal P w K mg base 1 "_law_draw" ["_law_cell", "_law_k", "_law_many"] (gr__law_draw er) := by
  have hb : Binds K fd ["_law_cell", "_law_k", "_law_many"] [] := F.bindsN fun _ _ _ _ _ _ us hl => match us, hl with | [_, _, _], _ => rfl
  refine cal_of (n := 4) F sc__law_draw hm hb rfl (by rintro ds r h; cases h <;> rfl) (fun cdv A outer s H E hr => ⟨_, (pss_cons (ps_set (i := 3) sc__law_draw.nd rfl (Or.inl rfl) (pe_tup (pa_cons pe_int (pa_cons pe_int (pa_cons pe_int (pa_cons pe_int (pa_cons pe_int (pa_cons pe_int (pa_cons pe_int (pa_cons pe_int (pa_cons pe_int (pa_cons pe_int (pa_cons pe_int (pa_cons pe_int (pa_cons pe_int (pa_cons pe_int (pa_cons pe_int (pa_cons pe_int pa_nil))))))))))))))))))
      (pss_one (ps_ret (pe_op op_mod (pe_op op_mod (pe_op opAdd (pe_op opMul (pv 0) pe_int) (pe_op opMul (pv 1) pe_int)) (pe_ix (ixK (K := K) rfl) (pv 3) (pe_op op_mod (pv 1) pe_int) (fun _ _ => rfl))) (pv 2))))), ?_⟩)
  rintro ds o ⟨c, k, m, hm⟩
  apply q_asg (x := .tup (prs.map Da.int))
  · walk_at "evr"
  walk_at "nm"
  apply es_last
  apply q_ret
  · refine ef_binD (EvF.now (ef_binD (x := .int (c * 48271 + (k : Int) * 69621)) (EvF.now ?_) (EvF.now ?_) (rv_mod (prAt_pos k)))) (EvF.now (ef_var rfl)) (rv_mod (by omega))
    · walk_at "ev"
    · refine ef_binF (ef_var rfl) ?_ (rf_ix (prs_at k))
      walk_at "ev"
  · exact congrArg (fun z => Out.f (.int z)) (drw_int c k m hm)


/-- a move with the state behind it -/
abbrev mvaD (s : List Pg) (m : Nat × Pg) : Da := .tup [.tup [nD m.1, pD m.2], stD (s.set m.1 m.2)]
abbrev mvaL (r : Ru) (s : List Pg) : List Da := (mvs r 0 [] s).map (mvaD s)
theorem set_cut (s : List Pg) (d : Nat) (e : Pg) (h : d < s.length) : (stL s).take d ++ [pD e] ++ (stL s).drop (d + 1) = stL (s.set d e) := by
  unfold stL
  rw [List.map_set, List.set_eq_take_append_cons_drop, if_pos (by rw [List.length_map]; exact h), List.append_assoc]
  rfl
theorem in_pegs (cov : List Pg) (a : Pg) : decide ((a.val : Int) ∈ cov.map fun p : Pg => (p.val : Int)) = decide (a ∈ cov) := by
  have : (a.val : Int) ∈ (cov.map fun p : Pg => (p.val : Int)) ↔ a ∈ cov := by
    constructor
    · intro h
      obtain ⟨b, hb, e⟩ := List.mem_map.mp h
      rw [← pD_inj e]
      exact hb
    · intro h
      exact List.mem_map.mpr ⟨a, h, rfl⟩
  simp only [this]
theorem rv_niP {K : PySem.W.Frag} {a : Pg} {cov : List Pg} : RvD K (rNi2 K) (pD a) (.lst (stL cov)) (.bl (!decide (a ∈ cov))) := by
  have e : stL cov = (cov.map fun p : Pg => (p.val : Int)).map Da.int := by rw [List.map_map]; rfl
  rw [e, ← in_pegs]
  exact rv_niI
theorem good_eq (r : Ru) (cov : List Pg) (a e : Pg) : (if decide (ruS r = ("round" : Str)) = true then (if decide (ruS r = ("line" : Str)) = true then (!decide ((a.val : Int) = (e.val : Int)) && !decide (e ∈ cov)) && decide ((if (a.val : Int) - e.val < 0 then -((a.val : Int) - e.val) else (a.val : Int) - e.val) = 1) else (!decide ((a.val : Int) = (e.val : Int)) && !decide (e ∈ cov))) && decide (((a.val : Int) + 1) % 3 = (e.val : Int))
    else (if decide (ruS r = ("line" : Str)) = true then (!decide ((a.val : Int) = (e.val : Int)) && !decide (e ∈ cov)) && decide ((if (a.val : Int) - e.val < 0 then -((a.val : Int) - e.val) else (a.val : Int) - e.val) = 1) else (!decide ((a.val : Int) = (e.val : Int)) && !decide (e ∈ cov)))) = canG r cov a e := by
  have k1 : ∀ a e : Pg, decide (((a.val : Int) + 1) % 3 = (e.val : Int)) = near .round a e := by decide
  rw [near_line, k1, pDe, ruS_round, ruS_line]
  unfold canG
  cases r <;> simp [near]
inductive gr__law_behind (er : Str → Addr) : List Da → Out → Prop
  | mk (r : Ru) (s : List Pg) (h : s.length ≤ 1000) : gr__law_behind er [ruD r, stD s] (.n (mvaL r s))

theorem cal__law_behind {f : Addr} {fd : FuncData} (F : FnP K "_law_behind" s__law_behind f fd) (hm : mg "_law_behind" = some (.ref f)) (G : Glb mg) :
    Cal P w K mg base 1 "_law_behind" ["_law_rule_here", "_law_state_here"] (gr__law_behind er) := by
  have hb : Binds K fd ["_law_rule_here", "_law_state_here"] [] := F.bindsN fun _ _ _ _ _ _ us hl => match us, hl with | [_, _], _ => rfl
  refine cal_of (n := 8) F sc__law_behind hm hb rfl (by rintro ds r h; cases h <;> rfl) (fun cdv A outer s H E hr => ⟨_, (pss_cons (ps_par (i := 2) (j := 3) rfl sc__law_behind.nd rfl rfl (by decide) rfl rfl (pa_cons (pe_lst pa_nil) (pa_cons (pe_lst pa_nil) pa_nil)) (by rfl))
      (pss_cons (ps_for loops_on rfl (enumPI (K := K) rfl (pi_enum rfl G.b_enumerate (pa_cons (pv 1) pa_nil))) (tupPG (K := K) rfl (pg_tup (n := 2) rfl (pgs_cons (pg_name (i := 4) sc__law_behind.nd rfl (Or.inl rfl)) (pgs_cons (pg_name (i := 5) sc__law_behind.nd rfl (Or.inl rfl)) pgs_nil)))) (pss_one (ps_if (pt_cmpR (opNi (K := K) hr rfl) (pv 5) (pv 3) (by rfl)) (pss_cons (ps_for loops_on rfl (pi_range1 rfl G.b_range (pa_cons pe_int pa_nil)) (pg_name (i := 6) sc__law_behind.nd rfl (Or.inl rfl)) (pss_cons (ps_set (i := 7) sc__law_behind.nd rfl (Or.inl rfl) (pe_and (pe_cmpR (opNe (K := K) hr rfl) (pv 5) (pv 6) (nomark _)) (pe_one (pe_cmpR (opNi (K := K) hr rfl) (pv 6) (pv 3) (by rfl)))))
      (pss_cons (ps_if (pt_cmpR (opEq (K := K) hr rfl) (pv 0) pe_str (nomark _)) (pss_one (ps_set (i := 7) sc__law_behind.nd rfl (Or.inl rfl) (pe_and (pv 7) (pe_one (pe_cmpR (opEq (K := K) hr rfl) (pe_callB call_abs (by rfl) G.b_abs (by decide +kernel) (pa_cons (pe_op op_sub (pv 5) (pv 6)) pa_nil)) pe_int (nomark _)))))) pss_nil)
      (pss_cons (ps_if (pt_cmpR (opEq (K := K) hr rfl) (pv 0) pe_str (nomark _)) (pss_one (ps_set (i := 7) sc__law_behind.nd rfl (Or.inl rfl) (pe_and (pv 7) (pe_one (pe_cmpR (opEq (K := K) hr rfl) (pe_op op_mod (pe_op opAdd (pv 5) pe_int) pe_int) (pv 6) (nomark _)))))) pss_nil)
      (pss_one (ps_if (pt_val (pv 7)) (pss_one (ps_expr (appPE (K := K) rfl (pe_bm PySem.F.plainAttrs_list PySem.F.slot_list_append PySem.F.type_list_append mt_append (pv 2) (pa_cons (pe_tup (pa_cons (pe_tup (pa_cons (pv 4) (pa_cons (pv 6) pa_nil))) (pa_cons (pe_op opAdd (pe_op opAdd (pe_slice (slK (K := K) rfl) (pv 1) po_none (po_some (pv 4))) (pe_lst (pa_cons (pv 6) pa_nil))) (pe_slice (slK (K := K) rfl) (pv 1) (po_some (pe_op opAdd (pv 4) pe_int)) po_none)) pa_nil))) pa_nil))))) pss_nil))))))
      (pss_one (ps_expr (appPE (K := K) rfl (pe_bm PySem.F.plainAttrs_list PySem.F.slot_list_append PySem.F.type_list_append mt_append (pv 3) (pa_cons (pv 5) pa_nil)))))) pss_nil)))
      (pss_one (ps_ret (pv 2))))), ?_⟩)
  rintro ds o ⟨r, s, hs⟩
  walk_at "nm"
  apply q_parNN (by decide)
  walk_at "nm"
  apply q_mid (fun ρ => ∃ a b c d e, ρ = [.d (ruD r), .d (stD s), .m (mvaL r s), a, b, c, d, e])
  · refine es_forEnum pD s (by walk_at "ev") (fun i l ρ => ∃ (acc : List (Nat × Pg)) (cov : List Pg) (b c d e : Sl), s.drop i = l ∧ acc ++ mvs r i cov l = mvs r 0 [] s ∧ acc.length ≤ 3 * i ∧ cov.length ≤ i ∧
      ρ = [.d (ruD r), .d (stD s), .m (acc.map (mvaD s)), .m (stL cov), b, c, d, e]) ⟨[], [], _, _, _, _, rfl, rfl, Nat.zero_le _, Nat.zero_le _, rfl⟩ ?_ ?_
    · rintro i x l ρ ⟨acc, cov, b, c, d, e, h1, h2, h3, h4, rfl⟩
      obtain ⟨m1, m2, m3⟩ := drop_succ_at h1
      walk_at "nm"
      apply es_last
      apply q_if (b := !decide (x ∈ cov))
      · exact et_test (ef_binD (EvF.now (ef_var rfl)) (EvM.now (EvP.m (ep_varm rfl))) rv_niP)
      · intro hx
        rw [Bool.not_eq_true', decide_eq_false_iff_not] at hx
        rw [mvs, if_neg hx] at h2
        apply q_assoc
        · apply q_mid (fun ρ => ∃ d e, ρ = [.d (ruD r), .d (stD s), .m ((acc ++ ((([0, 1, 2] : List Pg)).filter (canG r cov x)).map fun e => (i, e)).map (mvaD s)), .m (stL cov), .d (nD i), .d (pD x), d, e])
          · refine es_forR (n := 3) (Inv := fun k ρ => ∃ d e, ρ = [.d (ruD r), .d (stD s), .m ((acc ++ ((([0, 1, 2] : List Pg).take k).filter (canG r cov x)).map fun e => (i, e)).map (mvaD s)), .m (stL cov), .d (nD i), .d (pD x), d, e]) ef_int (by decide) ⟨d, e, by rw [List.take_zero]; simp⟩ ?_ ?_
            · rintro k ρ hk ⟨d, e, rfl⟩
              obtain ⟨p, hp, hpk⟩ : ∃ p : Pg, (p.val : Int) = (k : Int) ∧ (([0, 1, 2] : List Pg).take (k + 1)) = ([0, 1, 2] : List Pg).take k ++ [p] := by
                have : k = 0 ∨ k = 1 ∨ k = 2 := by omega
                rcases this with rfl | rfl | rfl
                · exact ⟨0, rfl, rfl⟩
                · exact ⟨1, rfl, rfl⟩
                · exact ⟨2, rfl, rfl⟩
              rw [← hp]
              walk_at "nm"
              apply q_asg (x := .bl (!decide ((x.val : Int) = (p.val : Int)) && !decide (p ∈ cov)))
              · exact ef_andV (by walk_at "ev") fun _ => ef_binD (EvF.now (ef_var rfl)) (EvM.now (EvP.m (ep_varm rfl))) rv_niP
              walk_at "nm"
              apply q_ifAsg
              · walk_at "ev"
              · intro _; walk_at "ev"
              · rfl
              walk_at "nm"
              rw [← apply_ite Da.bl]
              apply q_ifAsg
              · walk_at "ev"
              · intro _; walk_at "ev"
              · rfl
              walk_at "nm"
              rw [← apply_ite Da.bl, good_eq]
              apply es_last
              apply q_if
              · walk_at "ev"
              · intro hg
                apply q_app rfl (x := mvaD s (i, p))
                · refine ef_tup (ea_cons (by walk_at "ev") (ea_cons (x := stD (s.set i p)) (EvN.f ?_) ea_nil)) (Nat.le_of_ble_eq_true rfl)
                  refine EvN.is (en_binP (EvN.p (en_binP (xs := (stL s).take i) (EvN.p (EvN.is (en_sl (EvF.m (ef_var rfl)) eo_none (eo_some (ef_var rfl))) (cut_to _ _ ?_))) (EvN.p (xs := [pD p]) (by walk_at "ev")) (rp_add ?_))) (EvN.p (xs := (stL s).drop (i + 1)) (EvN.is (en_sl (EvF.m (ef_var rfl)) (eo_some (n := ((i + 1 : Nat) : Int)) (by walk_at "evr")) eo_none) (cut_from _ _))) (rp_add ?_)) (set_cut s i p m3)
                  · rw [List.length_map]; omega
                  · rw [List.length_take, List.length_map, List.length_singleton]; omega
                  · rw [List.length_append, List.length_take, List.length_drop, List.length_map, List.length_singleton]; omega
                · rw [List.length_map, List.length_append, List.length_map]
                  have : ((([0, 1, 2] : List Pg).take k).filter (canG r cov x)).length ≤ 3 := Nat.le_trans (List.length_filter_le _ _) (by rw [List.length_take]; exact Nat.min_le_right _ _)
                  omega
                walk_at "nm"
                refine q_end ⟨.d (pD p), .d (.bl (canG r cov x p)), ?_⟩
                rw [hpk, List.filter_append, List.filter_cons_of_pos hg, List.filter_nil]
                simp only [List.map_append, List.append_assoc, List.map_cons, List.map_nil]
              · intro hg
                apply q_next
                refine q_end ⟨.d (pD p), .d (.bl (canG r cov x p)), ?_⟩
                rw [hpk, List.filter_append, List.filter_cons_of_neg (by rw [hg]; exact Bool.false_ne_true), List.filter_nil, List.append_nil]
            · rintro ρ ⟨d, e, rfl⟩
              exact ⟨d, e, rfl⟩
          · rintro ρ ⟨d, e, rfl⟩
            apply q_app rfl
            · walk_at "ev"
            · rw [List.length_map]; omega
            walk_at "nm"
            refine q_end ⟨acc ++ (([0, 1, 2] : List Pg).filter (canG r cov x)).map (fun e => (i, e)), cov ++ [x], .d (nD i), .d (pD x), d, e, m2, ?_, ?_, ?_, by rw [← stL_app cov [x]]; rfl⟩
            · rw [← h2, List.append_assoc]
            · rw [List.length_append, List.length_map]
              have : ((([0, 1, 2] : List Pg)).filter (canG r cov x)).length ≤ 3 := List.length_filter_le _ _
              omega
            · rw [List.length_append, List.length_singleton]; omega
      · intro hx
        rw [Bool.not_eq_false', decide_eq_true_eq] at hx
        rw [mvs, if_pos hx] at h2
        apply q_next
        exact q_end ⟨acc, cov, _, _, _, _, m2, h2, by omega, by omega, rfl⟩
    · rintro i ρ ⟨acc, cov, b, c, d, e, h1, h2, h3, h4, rfl⟩
      rw [mvs, List.append_nil] at h2
      rw [h2]
      exact ⟨_, _, _, _, _, rfl⟩
  · rintro ρ ⟨a, b, c, d, e, rfl⟩
    walk_at "st"
    rfl


inductive gr__law_whole (er : Str → Addr) : List Da → Out → Prop
  | mk (x : Da) (h : hasTy x) : gr__law_whole er [x] (.f (.bl (isW x)))

theorem cal__law_whole {f : Addr} {fd : FuncData} (F : FnP K "_law_whole" s__law_whole f fd) (hm : mg "_law_whole" = some (.ref f)) (G : Glb mg) :
    Cal P w K mg base 1 "_law_whole" ["_law_number"] (gr__law_whole er) := by
  have hb : Binds K fd ["_law_number"] [] := F.bindsN fun _ _ _ _ _ _ us hl => match us, hl with | [_], _ => rfl
  refine cal_of (n := 1) F sc__law_whole hm hb rfl (by rintro ds r h; cases h <;> rfl) (fun cdv A outer s H E hr => ⟨_, (pss_one (ps_ret (pe_and (pe_callB (isiK (K := K) rfl) (by rfl) G.b_isinstance (by decide +kernel) (pa_cons (pv 0) (pa_cons (pe_bltn (v := .ty "int") (by rfl) G.b_int (by decide +kernel) rfl) pa_nil))) (pe_one (pe_not (pe_callB (isiK (K := K) rfl) (by rfl) G.b_isinstance (by decide +kernel) (pa_cons (pv 0) (pa_cons (pe_bltn (v := .ty "bool") (by rfl) G.b_bool (by decide +kernel) rfl) pa_nil)))))))), ?_⟩)
  rintro ds o ⟨x, h⟩
  apply es_last
  apply q_ret
  · exact ef_andV (ef_isInt (EvF.now (ef_var rfl)) h) fun _ => ef_notV (ef_isBool (EvF.now (ef_var rfl)) h)
  · exact congrArg (fun z => Out.f (.bl z)) (isW_eq x)


def isP : Da → Bool
  | .int i => decide (0 ≤ i) && decide (i ≤ 2)
  | _ => false
theorem isP_pD : ∀ p : Pg, isP (pD p) = true := by decide
inductive gr_is_peg (er : Str → Addr) : List Da → Out → Prop
  | mk (x : Da) (h : hasTy x) : gr_is_peg er [x] (.f (.bl (isP x)))

theorem cal_is_peg {f : Addr} {fd : FuncData} (F : FnP K "is_peg" s_is_peg f fd) (hm : mg "is_peg" = some (.ref f)) (G : Glb mg)
    (c_is_whole : Cal P w K mg base 1 "is_whole" ["thing"] (gr_is_whole er)) :
    Cal P w K mg base 2 "is_peg" ["thing"] (gr_is_peg er) := by
  have hb : Binds K fd ["thing"] [] := F.bindsN fun _ _ _ _ _ _ us hl => match us, hl with | [_], _ => rfl
  refine cal_of (n := 1) F sc_is_peg hm hb rfl (by rintro ds r h; cases h <;> rfl) (fun cdv A outer s H E hr => ⟨_, (pss_one (ps_ret (pe_and (pe_cal c_is_whole ⟨rfl, rfl, rfl, rfl, rfl⟩ (hr.mono (by decide)) (by rfl) lets_on (pa_cons (pv 0) pa_nil)) (pe_one (pe_chain op_le op_le pe_int (pv 0) pe_int))))), ?_⟩)
  rintro ds o ⟨x, h⟩
  apply es_last
  apply q_ret (x := .bl (isP x))
  · have hc : EvF K (tCall (spD K (gr_is_whole er)) [] E (tCons (tVar 0) tNil)) (rho0 1 [x]) (.bl (isW x)) := ef_call (by walk_at "ev") (.mk x h)
    cases x with
    | int i => exact EvF.is (ef_andV hc fun _ => by walk_at "ev") rfl
    | _ => exact ef_andV (b := false) hc fun z => by cases z
  · rfl


theorem pD_if (c : Bool) (a b : Pg) : (if c = true then pD a else pD b) = pD (if c = true then a else b) := by cases c <;> rfl
inductive gr__law_state (er : Str → Addr) : List Da → Out → Prop
  | mk (ns : List Int) (b : Nat) (h : ns.length ≤ 63) : gr__law_state er [scD ns, nD b] (.n (stL (lawS ns b)))

theorem cal__law_state {f : Addr} {fd : FuncData} (F : FnP K "_law_state" s__law_state f fd) (hm : mg "_law_state" = some (.ref f)) (G : Glb mg)
    (c__law_draw : Cal P w K mg base 1 "_law_draw" ["_law_cell", "_law_k", "_law_many"] (gr__law_draw er))
    (c__law_cell_at : Cal P w K mg base 1 "_law_cell_at" ["_law_script", "_law_k"] (gr__law_cell_at er)) :
    Cal P w K mg base 2 "_law_state" ["_law_script", "_law_by"] (gr__law_state er) := by
  have hb : Binds K fd ["_law_script", "_law_by"] [] := F.bindsN fun _ _ _ _ _ _ us hl => match us, hl with | [_, _], _ => rfl
  refine cal_of (n := 6) F sc__law_state hm hb rfl (by rintro ds r h; cases h <;> rfl) (fun cdv A outer s H E hr => ⟨_, (pss_cons (ps_set (i := 2) sc__law_state.nd rfl (Or.inl rfl) (pe_cal c__law_draw ⟨rfl, rfl, rfl, rfl, rfl⟩ (hr.mono (by decide)) (by rfl) lets_on (pa_cons (pe_cal c__law_cell_at ⟨rfl, rfl, rfl, rfl, rfl⟩ (hr.mono (by decide)) (by rfl) lets_on (pa_cons (pv 0) (pa_cons pe_int pa_nil))) (pa_cons pe_int (pa_cons pe_int pa_nil)))))
      (pss_cons (ps_set (i := 3) sc__law_state.nd rfl (Or.inl rfl) (pe_lst pa_nil))
      (pss_cons (ps_for loops_on rfl (pi_range1 rfl G.b_range (pa_cons (pe_callB (lenK (K := K) rfl) (by rfl) G.b_len (by decide +kernel) (pa_cons (pv 0) pa_nil)) pa_nil)) (pg_name (i := 4) sc__law_state.nd rfl (Or.inl rfl)) (pss_cons (ps_set (i := 5) sc__law_state.nd rfl (Or.inl rfl) (pe_cal c__law_draw ⟨rfl, rfl, rfl, rfl, rfl⟩ (hr.mono (by decide)) (by rfl) lets_on (pa_cons (pe_ix (ixK (K := K) rfl) (pv 0) (pv 4) (fun _ _ => rfl)) (pa_cons (pe_op opAdd (pe_op op_mod (pv 4) pe_int) (pv 1)) (pa_cons pe_int pa_nil)))))
      (pss_cons (ps_if (PW.pt (pw_and (pt_cmpR (opEq (K := K) hr rfl) (pv 2) pe_int (nomark _)) (pw_and1 (pt_cmpR op_gt (pe_cal c__law_draw ⟨rfl, rfl, rfl, rfl, rfl⟩ (hr.mono (by decide)) (by rfl) lets_on (pa_cons (pe_ix (ixK (K := K) rfl) (pv 0) (pv 4) (fun _ _ => rfl)) (pa_cons (pe_op opAdd (pe_op op_mod (pv 4) pe_int) (pv 1)) (pa_cons pe_int pa_nil)))) pe_int (nomark _))))) (pss_one (ps_set (i := 5) sc__law_state.nd rfl (Or.inl rfl) pe_int)) pss_nil)
      (pss_cons (ps_if (PW.pt (pw_and (pt_cmpR (opEq (K := K) hr rfl) (pv 2) pe_int (nomark _)) (pw_and1 (pt_cmpR op_gt (pv 4) (pe_op op_fdiv (pe_callB (lenK (K := K) rfl) (by rfl) G.b_len (by decide +kernel) (pa_cons (pv 0) pa_nil)) pe_int) (nomark _))))) (pss_one (ps_set (i := 5) sc__law_state.nd rfl (Or.inl rfl) pe_int)) pss_nil)
      (pss_cons (ps_if (pt_cmpR (opEq (K := K) hr rfl) (pv 2) pe_int (nomark _)) (pss_one (ps_set (i := 3) sc__law_state.nd rfl (Or.inl rfl) (pe_op opAdd (pv 3) (pe_op opMul (pe_lst (pa_cons (pv 5) pa_nil)) (pe_cal c__law_draw ⟨rfl, rfl, rfl, rfl, rfl⟩ (hr.mono (by decide)) (by rfl) lets_on (pa_cons (pe_ix (ixK (K := K) rfl) (pv 0) (pv 4) (fun _ _ => rfl)) (pa_cons (pe_op opAdd (pe_op op_mod (pv 4) pe_int) pe_int) (pa_cons pe_int pa_nil)))))))) pss_nil)
      (pss_one (ps_expr (appPE (K := K) rfl (pe_bm PySem.F.plainAttrs_list PySem.F.slot_list_append PySem.F.type_list_append mt_append (pv 3) (pa_cons (pv 5) pa_nil))))))))))
      (pss_one (ps_ret (pv 3)))))), ?_⟩)
  rintro ds o ⟨ns, b, hns⟩
  walk_at "nm"
  have hdr : ∀ (ρ : Rho) (ta tb : TE) (c : Int) (k m : Nat), 0 < m → EvF K ta ρ (.int c) → EvF K tb ρ (nD k) → EvF K (tCall (spD K (gr__law_draw er)) [] E (tCons ta (tCons tb (tCons (tC (.int (m : Int))) tNil)))) ρ (nD (drw c k m)) :=
    fun ρ ta tb c k m h h1 h2 => ef_call (ea_cons h1 (ea_cons h2 (ea_cons ef_int ea_nil))) (.mk c k m h)
  apply q_asg (x := nD (drw (cel ns 0) 6 5))
  · exact hdr _ _ _ _ 6 5 (by decide) (ef_call (ea_cons (ef_var rfl) (ea_cons ef_int ea_nil)) (.mk ns 0)) ef_int
  walk_at "nm"
  apply q_asgN (xs := stL [])
  · exact en_lst ea_nil (by decide)
  walk_at "nm"
  generalize hkd : drw (cel ns 0) 6 5 = kd
  apply q_mid (fun ρ => ∃ c d, ρ = [.d (scD ns), .d (nD b), .d (nD kd), .m (stL (lawS ns b)), c, d])
  · refine es_forR (n := ns.length) (Inv := fun i ρ => ∃ f c d, runS kd ns.length b f i (ns.drop i) = lawS ns b ∧ f.length ≤ 3 * i ∧ ρ = [.d (scD ns), .d (nD b), .d (nD kd), .m (stL f), c, d]) ?_ (by omega) ⟨[], _, _, by rw [← hkd]; rfl, Nat.zero_le _, rfl⟩ ?_ ?_
    · apply EvF.is
      · walk_at "ev"
      · rw [List.length_map]
    · rintro i ρ hi ⟨f, c, d, h1, h2, rfl⟩
      rw [List.drop_eq_getElem_cons hi, runS] at h1
      have hc : ∀ (d : Sl), EvF K (tOp (rIx K) (tVar 0) (tVar 4)) [.d (scD ns), .d (nD b), .d (nD kd), .m (stL f), .d (nD i), d] (.int ns[i]) := fun d => by
        have e : cel ns i = ns[i] := by rw [cel, List.getD_eq_getElem?_getD, List.getElem?_eq_getElem hi]; rfl
        rw [← e]
        exact ef_binM (EvF.m (ef_var rfl)) (ef_var rfl) (rm_ix (sc_at hi))
      walk_at "nm"
      -- the peg
      apply q_asg (x := pD (drP ns[i] (i % 5 + b)))
      · refine hdr _ _ _ _ (i % 5 + b) 3 (by decide) (hc _) ?_
        walk_at "evr"
      walk_at "nm"
      apply q_ifAsg (x := pD 1)
      · refine et_and (a := decide ((kd : Int) = 1)) (b := decide (0 < drw ns[i] (i % 7 + b) 4)) ?_ fun _ => ?_
        · walk_at "ev"
        · refine EvT.is (et_test (ef_binD (EvF.now (hdr _ _ _ _ (i % 7 + b) 4 (by decide) (hc _) (by walk_at "evr"))) (EvF.now ef_int) rv_gt)) ?_
          simp
      · intro _; exact ef_int
      · rfl
      rw [pD_if]
      walk_at "nm"
      apply q_ifAsg (x := pD 2)
      · refine et_and (a := decide ((kd : Int) = 2)) (b := decide (ns.length / 2 < i)) ?_ fun _ => ?_
        · walk_at "ev"
        · apply EvT.is
          · walk_at "ev"
          rw [List.length_map]
          by_cases hh : ns.length / 2 < i
          · rw [decide_eq_true hh, decide_eq_true (by omega)]
          · rw [decide_eq_false hh, decide_eq_false (by omega)]
      · intro _; exact ef_int
      · rfl
      rw [pD_if]
      walk_at "nm"
      have hp : (if (decide ((kd : Int) = 2) && decide (ns.length / 2 < i)) = true then (2 : Pg) else if (decide ((kd : Int) = 1) && decide (0 < drw ns[i] (i % 7 + b) 4)) = true then 1 else drP ns[i] (i % 5 + b)) = peg1 kd ns.length b i ns[i] := by
        unfold peg1
        simp only [Bool.and_eq_true, decide_eq_true_eq]
        have e1 : ((kd : Int) = 2) ↔ kd = 2 := by omega
        have e2 : ((kd : Int) = 1) ↔ kd = 1 := by omega
        simp only [e1, e2]
      rw [hp]
      apply q_mid (fun ρ => ρ = [.d (scD ns), .d (nD b), .d (nD kd), .m (stL (if kd = 3 then f ++ List.replicate (drw ns[i] (i % 6 + 7) 3) (peg1 kd ns.length b i ns[i]) else f)), .d (nD i), .d (pD (peg1 kd ns.length b i ns[i]))])
      · apply es_last
        apply q_if
        · walk_at "ev"
        · intro hk
          have hk' : kd = 3 := by rw [decide_eq_true_eq] at hk; omega
          apply q_asgN (xs := stL (f ++ List.replicate (drw ns[i] (i % 6 + 7) 3) (peg1 kd ns.length b i ns[i])))
          · have hr := drw_lt ns[i] (i % 6 + 7) 3 (by decide)
            refine EvN.is (en_binP (ep_varm rfl) (EvN.p (en_binR (xs := [pD (peg1 kd ns.length b i ns[i])]) (EvN.p (by walk_at "ev")) (hdr _ _ _ _ (i % 6 + 7) 3 (by decide) (hc _) (by walk_at "evr")) (rr_mul ?_ ?_ ?_))) (rp_add ?_)) ?_
            · rw [Int.toNat_natCast, List.length_singleton]; omega
            · omega
            · omega
            · rw [rep_one, List.length_map, List.length_map, List.length_replicate]; omega
            · rw [rep_one, stL_app]
          walk_at "nm"
          apply q_end
          rw [if_pos hk']
        · intro hk
          have hk' : ¬ kd = 3 := by rw [decide_eq_false_iff_not] at hk; omega
          apply q_next
          apply q_end
          rw [if_neg hk']
      · rintro ρ rfl
        apply es_last
        apply q_app rfl
        · walk_at "ev"
        · rw [List.length_map]
          have hr := drw_lt ns[i] (i % 6 + 7) 3 (by decide)
          split
          · rw [List.length_append, List.length_replicate]; omega
          · omega
        walk_at "nm"
        refine q_end ⟨turnS kd ns.length b f i ns[i], .d (nD i), .d (pD (peg1 kd ns.length b i ns[i])), h1, ?_, ?_⟩
        · have := turnS_le kd ns.length b f i ns[i]
          omega
        · rw [turnS, ← stL_app]
          rfl
    · rintro ρ ⟨f, c, d, h1, h2, rfl⟩
      rw [List.drop_length, runS] at h1
      rw [h1]
      exact ⟨_, _, rfl⟩
  · rintro ρ ⟨c, d, rfl⟩
    walk_at "st"
    rfl


theorem ru_at (k : Nat) (h : k < 3) : atI [Da.str "free", Da.str "line", Da.str "round"] (k : Int) = some (ruD (ruAt k)) := by
  have : k = 0 ∨ k = 1 ∨ k = 2 := by omega
  rcases this with rfl | rfl | rfl <;> rfl
inductive gr__law_rule (er : Str → Addr) : List Da → Out → Prop
  | mk (ns : List Int) (k : Nat) : gr__law_rule er [scD ns, nD k] (.f (ruD (lawR ns k)))

theorem cal__law_rule {f : Addr} {fd : FuncData} (F : FnP K "_law_rule" s__law_rule f fd) (hm : mg "_law_rule" = some (.ref f)) (G : Glb mg)
    (c__law_draw : Cal P w K mg base 1 "_law_draw" ["_law_cell", "_law_k", "_law_many"] (gr__law_draw er))
    (c__law_cell_at : Cal P w K mg base 1 "_law_cell_at" ["_law_script", "_law_k"] (gr__law_cell_at er)) :
    Cal P w K mg base 2 "_law_rule" ["_law_script", "_law_k"] (gr__law_rule er) := by
  have hb : Binds K fd ["_law_script", "_law_k"] [] := F.bindsN fun _ _ _ _ _ _ us hl => match us, hl with | [_, _], _ => rfl
  refine cal_of (n := 2) F sc__law_rule hm hb rfl (by rintro ds r h; cases h <;> rfl) (fun cdv A outer s H E hr => ⟨_, (pss_one (ps_ret (pe_ix (ixK (K := K) rfl) (pe_tup (pa_cons pe_str (pa_cons pe_str (pa_cons pe_str pa_nil)))) (pe_cal c__law_draw ⟨rfl, rfl, rfl, rfl, rfl⟩ (hr.mono (by decide)) (by rfl) lets_on (pa_cons (pe_cal c__law_cell_at ⟨rfl, rfl, rfl, rfl, rfl⟩ (hr.mono (by decide)) (by rfl) lets_on (pa_cons (pv 0) (pa_cons (pv 1) pa_nil))) (pa_cons (pe_op opAdd (pv 1) pe_int) (pa_cons pe_int pa_nil)))) (fun _ _ => rfl)))), ?_⟩)
  rintro ds o ⟨ns, k⟩
  apply es_last
  apply q_ret (x := ruD (lawR ns k))
  · refine ef_binF (x := .tup [.str "free", .str "line", .str "round"]) (by walk_at "ev") (y := nD (drw (cel ns k) (k + 1) 3)) ?_ (rf_ix (ru_at _ (drw_lt _ _ _ (by decide))))
    exact ef_call (ea_cons (ef_call (ea_cons (ef_var rfl) (ea_cons (ef_var rfl) ea_nil)) (.mk ns k)) (ea_cons (x := nD (k + 1)) (by walk_at "evr") (ea_cons ef_int ea_nil))) (.mk (cel ns k) (k + 1) 3 (by decide))
  · rfl


inductive gr__law_refused (er : Str → Addr) : List Da → Out → Prop
  | bad (w : Str) (h : w.cps.toList.length ≤ 100000) (hr : readS w = none) : gr__law_refused er [.str w] (.f (.bl true))
  | badT (x : Da) (h : hasTy x) (hs : isStrD x = false) : gr__law_refused er [x] (.f (.bl true))

theorem cal__law_refused {f : Addr} {fd : FuncData} (F : FnP K "_law_refused" s__law_refused f fd) (hm : mg "_law_refused" = some (.ref f)) (G : Glb mg) (e_TowerError : ErrC K mg "TowerError" (er "TowerError")) (e_BadRule : ErrC K mg "BadRule" (er "BadRule")) (e_BadState : ErrC K mg "BadState" (er "BadState")) (e_BadPeg : ErrC K mg "BadPeg" (er "BadPeg")) (e_BadText : ErrC K mg "BadText" (er "BadText")) (e_BadMove : ErrC K mg "BadMove" (er "BadMove")) (e_BadNumber : ErrC K mg "BadNumber" (er "BadNumber")) (e_Unlike : ErrC K mg "Unlike" (er "Unlike")) (hX : ExH K er dsX csX)
    (c_read : Cal P w K mg base 1 "read" ["text"] (gr_read er)) :
    Cal P w K mg base 2 "_law_refused" ["_law_text"] (gr__law_refused er) := by
  have hb : Binds K fd ["_law_text"] [] := F.bindsN fun _ _ _ _ _ _ us hl => match us, hl with | [_], _ => rfl
  refine cal_of (n := 3) F sc__law_refused hm hb rfl (by rintro ds r h; cases h <;> rfl) (fun cdv A outer s H E hr => ⟨_, (pss_cons (L2N.ps_try_as (i := 1) rfl rfl sc__law_refused.nd rfl rfl ⟨by rfl, by decide, .inl e_TowerError.g⟩ (L2N.takes_of rfl rfl rfl rfl)
      (fun _ _ _ tk1 _ => (pss_one (ps_expr (pe_calT c_read ⟨rfl, rfl, rfl, rfl, rfl⟩ (hr.mono (by decide)) (by rfl) tk1 (pa_cons (pv 0) pa_nil)))))
      (fun _ _ _ _ _ hz1 hf1 => (pss_cons (ps_set (i := 2) sc__law_refused.nd rfl (Or.inl rfl) (pe_lst (pa_cons (pe_callB (isX (K := K) rfl hz1 hf1) (by rfl) G.b_isinstance (by decide +kernel) (pa_cons (pv 1) (pa_cons (pe_glob (v := .ref (er "BadRule")) (by rfl) e_BadRule.g rfl) pa_nil))) (pa_cons (pe_callB (isX (K := K) rfl hz1 hf1) (by rfl) G.b_isinstance (by decide +kernel) (pa_cons (pv 1) (pa_cons (pe_glob (v := .ref (er "BadState")) (by rfl) e_BadState.g rfl) pa_nil))) (pa_cons (pe_callB (isX (K := K) rfl hz1 hf1) (by rfl) G.b_isinstance (by decide +kernel) (pa_cons (pv 1) (pa_cons (pe_glob (v := .ref (er "BadPeg")) (by rfl) e_BadPeg.g rfl) pa_nil))) pa_nil)))))
      (pss_cons (ps_set (i := 2) sc__law_refused.nd rfl (Or.inl rfl) (pe_op opAdd (pv 2) (pe_lst (pa_cons (pe_callB (isX (K := K) rfl hz1 hf1) (by rfl) G.b_isinstance (by decide +kernel) (pa_cons (pv 1) (pa_cons (pe_glob (v := .ref (er "BadMove")) (by rfl) e_BadMove.g rfl) pa_nil))) (pa_cons (pe_callB (isX (K := K) rfl hz1 hf1) (by rfl) G.b_isinstance (by decide +kernel) (pa_cons (pv 1) (pa_cons (pe_glob (v := .ref (er "BadNumber")) (by rfl) e_BadNumber.g rfl) pa_nil))) (pa_cons (pe_callB (isX (K := K) rfl hz1 hf1) (by rfl) G.b_isinstance (by decide +kernel) (pa_cons (pv 1) (pa_cons (pe_glob (v := .ref (er "Unlike")) (by rfl) e_Unlike.g rfl) pa_nil))) pa_nil))))))
      (pss_one (ps_ret (pe_and (pe_callB (isX (K := K) rfl hz1 hf1) (by rfl) G.b_isinstance (by decide +kernel) (pa_cons (pv 1) (pa_cons (pe_glob (v := .ref (er "BadText")) (by rfl) e_BadText.g rfl) pa_nil))) (pe_and (pe_callB (isX (K := K) rfl hz1 hf1) (by rfl) G.b_isinstance (by decide +kernel) (pa_cons (pv 1) (pa_cons (pe_bltn (v := .ty "ValueError") (by rfl) G.b_ValueError (by decide +kernel) rfl) pa_nil))) (pe_one (pe_not (pe_callB (anyHot (K := K) (hotE hz1 hf1) rfl) (by rfl) G.b_any (by decide +kernel) (pa_cons (pv 2) pa_nil))))))))))))
      (pss_one (ps_ret pe_bl))), ?_⟩)
  rintro ds o h
  obtain ⟨x, hread, rfl, rfl⟩ : ∃ x, gr_read er [x] (.e (er "BadText")) ∧ ds = [x] ∧ o = .f (.bl true) := by
    cases h with
    | bad w h hr => exact ⟨_, .bad w h hr, rfl, rfl⟩
    | badT x h hs => exact ⟨_, .badT x h hs, rfl, rfl⟩
  walk_at "nm"
  apply q_tryXD hX (C := "BadText") (by simp) (ea_cons (ef_var rfl) ea_nil) hread
  intro a
  walk_at "nm"
  have hI : ∀ (ρ : Rho) (c : Str) (b : Bool), c ∈ csX → (decide (c = "BadText") || decide (c = "TowerError")) = b → ρ[1]? = some (.d (.adr a)) → EvF K (tCB (rIsX K (.ref (er "BadText")) none a) (tCons (tVar 1) (tCons (tC (.ref (er c))) tNil))) ρ (.bl b) := fun ρ c b h1 h2 h3 =>
    EvF.is (ef_isX hX (by simp) h1 (ef_var h3)) (congrArg Da.bl h2)
  apply q_asgL (xs := ([false, false, false] : List Bool).map Da.bl)
  · exact en_lst (ea_cons (hI _ "BadRule" false (by simp) (by decide) rfl) (ea_cons (hI _ "BadState" false (by simp) (by decide) rfl) (ea_cons (hI _ "BadPeg" false (by simp) (by decide) rfl) ea_nil))) (Nat.le_of_ble_eq_true rfl)
  walk_at "nm"
  apply q_asgL (xs := ([false, false, false, false, false, false] : List Bool).map Da.bl)
  · exact en_binP (ep_varl rfl) (EvN.p (en_lst (ea_cons (hI _ "BadMove" false (by simp) (by decide) rfl) (ea_cons (hI _ "BadNumber" false (by simp) (by decide) rfl) (ea_cons (hI _ "Unlike" false (by simp) (by decide) rfl) ea_nil))) (Nat.le_of_ble_eq_true rfl))) (rp_add (Nat.le_of_ble_eq_true rfl))
  walk_at "nm"
  apply es_last
  apply q_ret (x := .bl true)
  · exact EvF.is (ef_andV (hI _ "BadText" true (by simp) (by decide) rfl) fun _ => ef_andV (ef_isV hX (by simp) (ef_var rfl)) fun _ => ef_notV (ef_any (bs := [false, false, false, false, false, false]) (EvF.m (ef_varl rfl)))) rfl
  · rfl


/-- what is no state -/
def badState : Da → Prop
  | .lst xs => (∀ x ∈ xs, hasTy x) ∧ (∃ x ∈ xs, isP x = false) ∧ xs.length ≤ 1000
  | x => hasTy x
theorem badState_ty {x : Da} (h : badState x) : hasTy x := by cases x <;> first | trivial | exact h
inductive gr_check_state (er : Str → Addr) : List Da → Out → Prop
  | mk (s : List Pg) (h : s.length ≤ 1000) : gr_check_state er [stD s] (.f .non)
  | bad (x : Da) (h : badState x) : gr_check_state er [x] (.e (er "BadState"))

theorem cal_check_state {f : Addr} {fd : FuncData} (F : FnP K "check_state" s_check_state f fd) (hm : mg "check_state" = some (.ref f)) (G : Glb mg) (e_BadState : ErrC K mg "BadState" (er "BadState"))
    (c_is_peg : Cal P w K mg base 2 "is_peg" ["thing"] (gr_is_peg er)) :
    Cal P w K mg base 3 "check_state" ["state"] (gr_check_state er) := by
  have hb : Binds K fd ["state"] [] := F.bindsN fun _ _ _ _ _ _ us hl => match us, hl with | [_], _ => rfl
  refine cal_of (n := 2) F sc_check_state hm hb rfl (by rintro ds r h; cases h <;> rfl) (fun cdv A outer s H E hr => ⟨_, (pss_one (ps_if (PW.pt (pw_or (pt_not (pt_val (pe_callB (isiK (K := K) rfl) (by rfl) G.b_isinstance (by decide +kernel) (pa_cons (pv 0) (pa_cons (pe_bltn (v := .ty "list") (by rfl) G.b_list (by decide +kernel) rfl) pa_nil))))) (pw_or1 (pt_not (pt_val (pe_callB (allK (K := K) rfl rfl) (by rfl) G.b_all (by decide +kernel) (pa_cons (pe_lc (own := [("peg", 1)]) rfl sc_check_state.nd (listPI (K := K) rfl (pi_list (pv 0))) (blkOk_by (N := n_check_state) (sc := defScope s_check_state) (by decide +kernel)) (fun _ _ _ _ _ => (pg_name (i := 1) sc_check_state.nd rfl (Or.inl rfl))) (fun _ _ _ _ _ => pts_nil) (fun _ _ _ _ _ => (pe_cal c_is_peg ⟨rfl, rfl, rfl, rfl, rfl⟩ (hr.mono (by decide)) (by rfl) passN (pa_cons (pv 1) pa_nil)))) pa_nil))))))) (pss_one (raise_own e_BadState (by rfl))) pss_nil)), ?_⟩)
  have hall : ∀ xs : List Da, xs.length ≤ 1000 → (∀ x ∈ xs, hasTy x) → EvT K (tNot (tB (tCB (rAll K) (tCons (tLc (iList K (tVar 0)) (gName 1) tYes (tCall (spD K (gr_is_peg er)) [] E0 (tCons (tVar 1) tNil)) [1]) tNil)))) [.d (.lst xs), .un] (!(xs.all isP)) := by
    intro xs hl hx
    have h1 : EvN K (tLc (iList K (tVar 0)) (gName 1) tYes (tCall (spD K (gr_is_peg er)) [] E0 (tCons (tVar 1) tNil)) [1]) [.d (.lst xs), .un] ((xs.map isP).map Da.bl) := by
      have := en_lcL (K := K) (ρ := [.d (.lst xs), .un]) (ts := tVar 0) (tt := tYes) (te := tCall (spD K (gr_is_peg er)) [] E0 (tCons (tVar 1) tNil)) (j := 1) (vs := [1]) id xs (fun _ => true) (fun x => .bl (isP x)) (by rw [List.map_id]; exact ef_var rfl) (by omega) (by simp) (fun _ _ => et_yes)
        (fun x hm _ => ef_call (by walk_at "ev") (.mk x (hx x hm)))
      rw [filter_yes] at this
      rw [List.map_map]
      exact this
    have h2 := et_not (et_val (ef_all (EvP.m (EvN.p h1))))
    refine EvT.is h2 ?_
    rw [List.all_map]
    rfl
  rintro ds o h
  cases h with
  | mk s hs =>
    apply es_last
    apply q_if (b := false)
    · refine EvT.is (et_or (et_not (et_val (ef_isList (EvF.now (ef_var rfl)) trivial))) fun _ => hall (stL s) (by rw [List.length_map]; exact hs) (fun x hx => ?_)) ?_
      · obtain ⟨p, _, rfl⟩ := List.mem_map.mp hx
        trivial
      · have : (stL s).all isP = true := by
          rw [List.all_eq_true]
          intro x hx
          obtain ⟨p, _, rfl⟩ := List.mem_map.mp hx
          exact isP_pD p
        rw [this]
        rfl
    · intro z; cases z
    · intro _
      apply q_next
      exact q_end rfl
  | bad x hb =>
    apply es_last
    apply q_if (b := true)
    · have hs := et_not (et_val (ef_isList (K := K) (ρ := rho0 2 [x]) (te := tVar 0) (EvF.now (ef_var rfl)) (badState_ty hb)))
      cases x with
      | lst xs =>
        obtain ⟨b1, ⟨y, hy, hp⟩, b3⟩ := hb
        refine EvT.is (et_or hs fun _ => hall xs b3 b1) ?_
        have : xs.all isP = false := by
          rw [List.all_eq_false]
          exact ⟨y, hy, by rw [hp]; exact Bool.false_ne_true⟩
        rw [this]
        rfl
      | _ => exact et_or (b := false) hs fun z => by cases z
    · intro _
      exact q_raise rfl
    · intro z; cases z


inductive gr_written (er : Str → Addr) : List Da → Out → Prop
  | mk (s : List Pg) (h : s.length ≤ 1000) : gr_written er [stD s] (.f (.str (txt s)))
  | bad (x : Da) (h : badState x) : gr_written er [x] (.e (er "BadState"))

theorem cal_written {f : Addr} {fd : FuncData} (F : FnP K "written" s_written f fd) (hm : mg "written" = some (.ref f)) (G : Glb mg)
    (c_check_state : Cal P w K mg base 3 "check_state" ["state"] (gr_check_state er)) :
    Cal P w K mg base 4 "written" ["state"] (gr_written er) := by
  have hb : Binds K fd ["state"] [] := F.bindsN fun _ _ _ _ _ _ us hl => match us, hl with | [_], _ => rfl
  refine cal_of (n := 2) F sc_written hm hb rfl (by rintro ds r h; cases h <;> rfl) (fun cdv A outer s H E hr => ⟨_, (pss_cons (ps_expr (pe_cal c_check_state ⟨rfl, rfl, rfl, rfl, rfl⟩ (hr.mono (by decide)) (by rfl) lets_on (pa_cons (pv 0) pa_nil)))
      (pss_cons (ps_if (pt_cmpR (opEq (K := K) hr rfl) (pe_callB (lenK (K := K) rfl) (by rfl) G.b_len (by decide +kernel) (pa_cons (pv 0) pa_nil)) pe_int (nomark _)) (pss_one (ps_ret pe_str)) pss_nil)
      (pss_one (ps_ret (peJoin (K := K) rfl pe_str (pe_lc (own := [("peg", 1)]) rfl sc_written.nd (revPI (K := K) rfl (pi_reversed rfl G.b_reversed (pa_cons (pv 0) pa_nil))) (blkOk_by (N := n_written) (sc := defScope s_written) (by decide +kernel)) (fun _ _ _ _ _ => (pg_name (i := 1) sc_written.nd rfl (Or.inl rfl))) (fun _ _ _ _ _ => pts_nil) (fun _ _ _ _ _ => (pe_callTy strI (by rfl) G.b_str (by decide +kernel) (pa_cons (pv 1) pa_nil))))))))), ?_⟩)
  rintro ds o h
  cases h with
  | mk s hs =>
    walk_at "nm"
    apply q_drop
    · exact ef_call (ea_cons (ef_var rfl) ea_nil) (.mk s hs)
    apply q_if (b := decide (s = []))
    · refine EvT.is (et_test (ef_binD (EvF.now (ef_lenM (EvF.m (ef_var rfl)))) (EvF.now ef_int) rv_eqi)) ?_
      rw [decide_eq_decide, List.length_map]
      constructor
      · intro h
        exact List.length_eq_zero_iff.mp (by omega)
      · intro h
        rw [h]
        rfl
    · intro h
      rw [decide_eq_true_eq] at h
      apply q_ret
      · exact ef_str
      · rw [txt, if_pos h, dash_eq]
    · intro h
      rw [decide_eq_false_iff_not] at h
      apply q_next
      apply es_last
      apply q_ret (x := .str (Sg (s.reverse.map chp)))
      · refine ef_joinC ef_str (EvP.m (EvN.p (EvN.is (en_lcRev pD s (fun _ => true) (fun p => .str (Sg [chp p])) (ef_var rfl) (by omega) (by simp) (fun _ _ => et_yes) (fun p _ _ => ef_strP (ef_var rfl))) ?_))) (by rw [List.length_map, List.length_reverse]; omega)
        rw [filter_yes, List.map_map]
        rfl
      · rw [txt, if_neg h]
  | bad x hb => exact q_dropX (ex_call (by walk_at "ev") (.bad x hb)) rfl


inductive gr__law_right (er : Str → Addr) : List Da → Out → Prop
  | mk (w : Str) (h : w.cps.toList.length ≤ 1000) : gr__law_right er [.str w] (.f (.bl true))
theorem read_good {w : Str} {s : List Pg} (h : readS w = some s) : s.length ≤ w.cps.toList.length := by
  unfold readS at h
  split at h
  · rw [← Option.some.inj h]
    exact Nat.zero_le _
  · split at h
    · cases h
    · rw [← Option.some.inj h, List.length_map, List.length_reverse]
      exact Nat.le_refl _
theorem read_bad (w : Str) : (!decide (w = Sg [45]) && (decide (w.cps.toList = []) || !(w.cps.toList.all okc))) = (readS w).isNone := by
  unfold readS
  by_cases h1 : w = Sg [45]
  · rw [if_pos h1, decide_eq_true h1]
    rfl
  · rw [if_neg h1, decide_eq_false h1]
    by_cases h2 : w.cps.toList = [] ∨ w.cps.toList.all okc = false
    · rw [if_pos h2]
      simpa using h2
    · rw [if_neg h2]
      have : (decide (w.cps.toList = []) || !(w.cps.toList.all okc)) = false := by
        cases q : (decide (w.cps.toList = []) || !(w.cps.toList.all okc)) with
        | false => rfl
        | true => exact absurd (by simpa using q) h2
      rw [this]
      rfl

theorem cal__law_right {f : Addr} {fd : FuncData} (F : FnP K "_law_right" s__law_right f fd) (hm : mg "_law_right" = some (.ref f)) (G : Glb mg)
    (c_read : Cal P w K mg base 1 "read" ["text"] (gr_read er))
    (c__law_refused : Cal P w K mg base 2 "_law_refused" ["_law_text"] (gr__law_refused er))
    (c_written : Cal P w K mg base 4 "written" ["state"] (gr_written er))
    (c__law_whole : Cal P w K mg base 1 "_law_whole" ["_law_number"] (gr__law_whole er)) :
    Cal P w K mg base 5 "_law_right" ["_law_text"] (gr__law_right er) := by
  have hb : Binds K fd ["_law_text"] [] := F.bindsN fun _ _ _ _ _ _ us hl => match us, hl with | [_], _ => rfl
  refine cal_of (n := 5) F sc__law_right hm hb rfl (by rintro ds r h; cases h <;> rfl) (fun cdv A outer s H E hr => ⟨_, (pss_cons (ps_if (PW.pt (pw_and (pt_cmpR (opNe (K := K) hr rfl) (pv 0) pe_str (nomark _)) (pw_and1 (PW.pt (pw_or (pt_cmpR (opEq (K := K) hr rfl) (pv 0) pe_str (nomark _)) (pw_or1 (pt_cmpR (opNe (K := K) hr rfl) (pe_m1 PySem.F.slot_str_strip PySem.F.type_str_strip mtStrip (pv 0) pe_str) pe_str (nomark _)))))))) (pss_one (ps_ret (pe_cal c__law_refused ⟨rfl, rfl, rfl, rfl, rfl⟩ (hr.mono (by decide)) (by rfl) lets_on (pa_cons (pv 0) pa_nil)))) pss_nil)
      (pss_cons (ps_set (i := 1) sc__law_right.nd rfl (Or.inl rfl) (pe_cal c_read ⟨rfl, rfl, rfl, rfl, rfl⟩ (hr.mono (by decide)) (by rfl) lets_on (pa_cons (pv 0) pa_nil)))
      (pss_cons (ps_set (i := 2) sc__law_right.nd rfl (Or.inl rfl) (pe_ifExp (pt_cmpR (opEq (K := K) hr rfl) (pv 0) pe_str (nomark _)) (pe_lst pa_nil) (revK (K := K) rfl (pe_lc (own := [("_law_sign", 3)]) rfl sc__law_right.nd (pi_str (pv 0)) (blkOk_by (N := n__law_right) (sc := defScope s__law_right) (by decide +kernel)) (fun _ _ _ _ _ => (pg_name (i := 3) sc__law_right.nd rfl (Or.inl rfl))) (fun _ _ _ _ _ => pts_nil) (fun _ _ _ _ _ => (pe_m1 PySem.F.slot_str_index PySem.F.type_str_index mtIndex pe_str (pv 3)))))))
      (pss_cons (ps_if (PW.pt (pw_or (pt_not (pt_val (pe_callB (isiK (K := K) rfl) (by rfl) G.b_isinstance (by decide +kernel) (pa_cons (pv 1) (pa_cons (pe_bltn (v := .ty "list") (by rfl) G.b_list (by decide +kernel) rfl) pa_nil))))) (pw_or (pt_cmpR (opNe (K := K) hr rfl) (pv 1) (pv 2) (nomark _)) (pw_or1 (pt_cmpR (opNe (K := K) hr rfl) (pe_cal c_written ⟨rfl, rfl, rfl, rfl, rfl⟩ (hr.mono (by decide)) (by rfl) lets_on (pa_cons (pv 1) pa_nil)) (pv 0) (nomark _)))))) (pss_one (ps_ret pe_bl)) pss_nil)
      (pss_cons (ps_if (pt_not (pt_val (pe_callB (allK (K := K) rfl rfl) (by rfl) G.b_all (by decide +kernel) (pa_cons (pe_lc (own := [("_law_peg", 4)]) rfl sc__law_right.nd (listPI (K := K) rfl (pi_list (pv 1))) (blkOk_by (N := n__law_right) (sc := defScope s__law_right) (by decide +kernel)) (fun _ _ _ _ _ => (pg_name (i := 4) sc__law_right.nd rfl (Or.inl rfl))) (fun _ _ _ _ _ => pts_nil) (fun _ _ _ _ _ => (pe_cal c__law_whole ⟨rfl, rfl, rfl, rfl, rfl⟩ (hr.mono (by decide)) (by rfl) passN (pa_cons (pv 4) pa_nil)))) pa_nil)))) (pss_one (ps_ret pe_bl)) pss_nil)
      (pss_cons (ps_expr (appPE (K := K) rfl (pe_bm PySem.F.plainAttrs_list PySem.F.slot_list_append PySem.F.type_list_append mt_append (pv 1) (pa_cons pe_int pa_nil))))
      (pss_one (ps_ret (pe_cmpR (opEq (K := K) hr rfl) (pe_cal c_read ⟨rfl, rfl, rfl, rfl, rfl⟩ (hr.mono (by decide)) (by rfl) lets_on (pa_cons (pv 0) pa_nil)) (pv 2) (nomark _)))))))))), ?_⟩)
  rintro ds o ⟨w, hw⟩
  have hwl : w.length ≤ sizeLine := by
    rw [sizeLine_eq]
    have : w.length = w.cps.toList.length := by show w.cps.size = _; rw [Array.length_toList]
    omega
  walk_at "nm"
  apply q_if (b := (readS w).isNone)
  · refine EvT.is (et_and (et_test (ef_binD (EvF.now (ef_var rfl)) (EvF.now ef_str) rv_nes)) fun _ => et_or (et_test (ef_binD (EvF.now (ef_var rfl)) (EvF.now ef_str) rv_eqs)) fun _ => et_test (ef_binD (EvF.now (ef_stripS (ef_var rfl) hwl ef_str)) (EvF.now ef_str) rv_nes)) ?_
    rw [← read_bad, dec_dash, dec_emp, strip_emp]
  · intro h
    rw [Option.isNone_iff_eq_none] at h
    apply q_ret
    · exact ef_call (ea_cons (ef_var rfl) ea_nil) (.bad w (by omega) h)
    · rfl
  intro h
  obtain ⟨s, hs⟩ : ∃ s, readS w = some s := by
    cases q : readS w with
    | none => rw [q] at h; cases h
    | some s => exact ⟨s, rfl⟩
  have hsl := read_good hs
  apply q_next
  apply q_asgN (xs := stL s)
  · exact en_call (ea_cons (ef_var rfl) ea_nil) (.mk w s (by omega) hs)
  walk_at "nm"
  apply q_asgL (xs := stL s)
  · refine en_if (b := decide (w = Sg [45])) (EvT.is (et_test (ef_binD (EvF.now (ef_var rfl)) (EvF.now ef_str) rv_eqs)) (dec_dash w)) (fun h => ?_) (fun h => ?_)
    · rw [decide_eq_true_eq] at h
      have e : s = [] := by
        unfold readS at hs
        rw [if_pos h] at hs
        exact (Option.some.inj hs).symm
      rw [e]
      exact en_lst ea_nil (Nat.zero_le _)
    · rw [decide_eq_false_iff_not] at h
      unfold readS at hs
      rw [if_neg h] at hs
      split at hs
      · cases hs
      · rename_i h2
        have hall : w.cps.toList.all okc = true := by
          cases q : w.cps.toList.all okc with
          | true => rfl
          | false => exact absurd (.inr q) h2
        refine EvN.is (en_rev (EvP.m (EvN.p (en_lcS w (fun _ => true) (fun c => pD (pgc c)) (ef_var rfl) (by omega) (by simp) (fun _ _ => et_yes) (fun c hc _ => ef_idxC (List.all_eq_true.mp hall c hc) ef_str (ef_var rfl)))))) ?_
        rw [filter_yes, ← Option.some.inj hs, ← List.map_reverse]
        exact (List.map_map (f := pgc) (g := pD)).symm
  walk_at "nm"
  apply q_if (b := false)
  · refine et_tmp (i := 1) rfl (EvT.is (et_or (et_not (et_val (ef_isList (EvF.now (ef_varl rfl)) trivial))) fun _ => et_or (et_test (ef_binD (EvF.now (ef_varl rfl)) (EvF.now (ef_varl rfl)) rv_neSt)) fun _ => et_test (ef_binD (EvF.now (ef_call (ea_cons (ef_varl rfl) ea_nil) (.mk s (by omega)))) (EvF.now (ef_var rfl)) rv_nes)) ?_)
    rw [txt_read hs, decide_eq_true rfl, decide_eq_true rfl]
    rfl
  · intro z; cases z
  intro _
  apply q_next
  apply q_if (b := false)
  · refine et_tmp (i := 1) rfl (EvT.is (et_not (et_val (ef_all (bs := s.map fun _ => true) (EvP.m (EvN.p ?_))))) ?_)
    · have h1 := en_lcL (K := K) (ρ := [.d (.str w), .l (stL s), .l (stL s), .un, .un]) (ts := tVar 1) (tt := tYes) (te := tCall (spD K (gr__law_whole er)) [] E0 (tCons (tVar 4) tNil)) (j := 4) (vs := [4]) pD s (fun _ => true) (fun x => .bl (isW (pD x)))
        (ef_varl rfl) (by omega) (by simp) (fun _ _ => et_yes) (fun x hx _ => ef_call (ea_cons (ef_var rfl) ea_nil) (.mk (pD x) trivial))
      rw [filter_yes] at h1
      rw [List.map_map]
      exact h1
    · have : (s.map fun _ => true).all id = true := by
        rw [List.all_eq_true]
        intro b hb
        obtain ⟨_, _, rfl⟩ := List.mem_map.mp hb
        rfl
      rw [this]
      rfl
  · intro z; cases z
  intro _
  apply q_next
  apply q_app rfl (x := .int 0)
  · exact ef_int
  · rw [List.length_map]; omega
  walk_at "nm"
  apply es_last
  apply q_ret (x := .bl true)
  · refine EvF.is (ef_binD (EvF.now (EvN.f (en_call (ea_cons (ef_var rfl) ea_nil) (.mk w s (by omega) hs)))) (EvF.now (ef_varl rfl)) rv_eqSt) ?_
    simp
  · rfl


abbrev wsA : List Str :=
  ["",
   "-",
   "--",
   "0",
   "2",
   "3",
   "012",
   "0 1",
   " 0",
   "0 ",
   "0\n",
   "-0",
   "0-",
   "00",
   "1,2",
   "x",
   "12x"]
abbrev wsB : List Str := ["\n0", "1\t2", "1_2", Sg (List.replicate (90 : Int).toNat ("2" : Str).cps.toList).flatten, Sg (List.replicate (300 : Int).toNat ("1" : Str).cps.toList).flatten ++ "3"]
theorem ws_len : ((wsA ++ wsB).all fun w => decide (w.cps.size ≤ 1000)) = true := by decide +kernel
theorem len_app (u v : Str) : (u ++ v).length = u.length + v.length := by
  show (u.cps ++ v.cps).size = u.cps.size + v.cps.size
  rw [Array.size_append]
theorem len_cps (w : Str) : w.cps.toList.length = w.length := Array.length_toList
theorem txt_len (s : List Pg) : (txt s).length ≤ s.length + 1 := by
  unfold txt
  split
  · show 1 ≤ _
    omega
  · show (s.reverse.map chp).toArray.size ≤ _
    rw [List.size_toArray, List.length_map, List.length_reverse]
    omega
theorem fig_at : ∀ p : Pg, atI ("012" : Str).cps.toList (p.val : Int) = some (chp p) := by
  rw [fig_eq]
  decide
theorem sgn_len : ("0123- ,x9" : Str).cps.toList.length = 9 := by decide +kernel
inductive gr_law (er : Str → Addr) : List Da → Out → Prop
  | mk (ns : List Int) (h : ns.length ≤ 63) : gr_law er [scD ns] (.f (.bl true))

theorem ok_law {f : Addr} {fd : FuncData} (F : FnP K "law" s_law f fd) (G : Glb mg)
    (c__law_state : Cal P w K mg base 2 "_law_state" ["_law_script", "_law_by"] (gr__law_state er))
    (c__law_cell_at : Cal P w K mg base 1 "_law_cell_at" ["_law_script", "_law_k"] (gr__law_cell_at er))
    (c__law_draw : Cal P w K mg base 1 "_law_draw" ["_law_cell", "_law_k", "_law_many"] (gr__law_draw er))
    (c_written : Cal P w K mg base 4 "written" ["state"] (gr_written er))
    (c__law_right : Cal P w K mg base 5 "_law_right" ["_law_text"] (gr__law_right er))
    (c__law_refused : Cal P w K mg base 2 "_law_refused" ["_law_text"] (gr__law_refused er)) :
    FnOk P w K mg base (L2N.CX P w) 6 f fd ["_law_script"] (spD K (gr_law er)) := by
  refine fn_data (n := 12) F sc_law rfl (by rintro ds r h; cases h <;> rfl) (fun cdv A outer s H E hr => ⟨_, (pss_cons (ps_set (i := 1) sc_law.nd rfl (Or.inl rfl) (pe_cal c__law_state ⟨rfl, rfl, rfl, rfl, rfl⟩ (hr.mono (by decide)) (by rfl) lets_on (pa_cons (pv 0) (pa_cons pe_int pa_nil))))
      (pss_cons (ps_set (i := 2) sc_law.nd rfl (Or.inl rfl) (pe_ifExp (pt_cmpR (opNe (K := K) hr rfl) (pv 1) (pe_lst pa_nil) (nomark _)) (peJoin (K := K) rfl pe_str (pe_lc (own := [("_law_peg", 9)]) rfl sc_law.nd (listPI (K := K) rfl (pi_list (revK (K := K) rfl (pv 1)))) (blkOk_by (N := n_law) (sc := defScope s_law) (by decide +kernel)) (fun _ _ _ _ _ => (pg_name (i := 9) sc_law.nd rfl (Or.inl rfl))) (fun _ _ _ _ _ => pts_nil) (fun _ _ _ _ _ => (pe_ix (ixK (K := K) rfl) pe_str (pv 9) (fun _ _ => rfl))))) pe_str))
      (pss_cons (ps_set (i := 3) sc_law.nd rfl (Or.inl rfl) (pe_callTy (listK (K := K) rfl) (by rfl) G.b_list (by decide +kernel) (pa_cons (pv 1) pa_nil)))
      (pss_cons (ps_if (PW.pt (pw_or (pt_cmpR (opNe (K := K) hr rfl) (pe_cal c_written ⟨rfl, rfl, rfl, rfl, rfl⟩ (hr.mono (by decide)) (by rfl) lets_on (pa_cons (pv 3) pa_nil)) (pv 2) (nomark _)) (pw_or (pt_cmpR (opNe (K := K) hr rfl) (pv 3) (pv 1) (nomark _)) (pw_or1 (pt_not (pt_val (pe_cal c__law_right ⟨rfl, rfl, rfl, rfl, rfl⟩ (hr.mono (by decide)) (by rfl) lets_on (pa_cons (pv 2) pa_nil)))))))) (pss_one (ps_ret pe_bl)) pss_nil)
      (pss_cons (ps_set (i := 4) sc_law.nd rfl (Or.inl rfl) (pe_op opAdd (pe_cal c__law_cell_at ⟨rfl, rfl, rfl, rfl, rfl⟩ (hr.mono (by decide)) (by rfl) lets_on (pa_cons (pv 0) (pa_cons pe_int pa_nil))) (pe_op opMul pe_int (pe_cal c__law_cell_at ⟨rfl, rfl, rfl, rfl, rfl⟩ (hr.mono (by decide)) (by rfl) lets_on (pa_cons (pv 0) (pa_cons pe_int pa_nil))))))
      (pss_cons (ps_for loops_on rfl (pi_range1 rfl G.b_range (pa_cons pe_int pa_nil)) (pg_name (i := 5) sc_law.nd rfl (Or.inl rfl)) (pss_cons (ps_set (i := 6) sc_law.nd rfl (Or.inl rfl) (pe_cal c__law_draw ⟨rfl, rfl, rfl, rfl, rfl⟩ (hr.mono (by decide)) (by rfl) lets_on (pa_cons (pe_op opAdd (pv 4) (pv 5)) (pa_cons pe_int (pa_cons (pe_op opAdd (pe_callB (lenK (K := K) rfl) (by rfl) G.b_len (by decide +kernel) (pa_cons (pv 2) pa_nil)) pe_int) pa_nil)))))
      (pss_cons (ps_set (i := 7) sc_law.nd rfl (Or.inl rfl) (pe_ix (ixK (K := K) rfl) (pe_tup (pa_cons pe_str (pa_cons (pe_ix (ixK (K := K) rfl) pe_str (pe_cal c__law_draw ⟨rfl, rfl, rfl, rfl, rfl⟩ (hr.mono (by decide)) (by rfl) lets_on (pa_cons (pe_op opAdd (pv 4) (pv 5)) (pa_cons pe_int (pa_cons pe_int pa_nil)))) (fun _ _ => rfl)) pa_nil))) (pe_cal c__law_draw ⟨rfl, rfl, rfl, rfl, rfl⟩ (hr.mono (by decide)) (by rfl) lets_on (pa_cons (pe_op opAdd (pv 4) (pv 5)) (pa_cons pe_int (pa_cons pe_int pa_nil)))) (fun _ _ => rfl)))
      (pss_one (ps_if (pt_not (pt_val (pe_cal c__law_right ⟨rfl, rfl, rfl, rfl, rfl⟩ (hr.mono (by decide)) (by rfl) lets_on (pa_cons (pe_op opAdd (pe_op opAdd (pe_slice sl_str (pv 2) po_none (po_some (pv 6))) (pv 7)) (pe_slice sl_str (pv 2) (po_some (pe_op opAdd (pv 6) (pe_cal c__law_draw ⟨rfl, rfl, rfl, rfl, rfl⟩ (hr.mono (by decide)) (by rfl) lets_on (pa_cons (pe_op opAdd (pv 4) (pv 5)) (pa_cons pe_int (pa_cons pe_int pa_nil)))))) po_none)) pa_nil)))) (pss_one (ps_ret pe_bl)) pss_nil)))))
      (pss_cons (ps_set (i := 8) sc_law.nd rfl (Or.inl rfl) (pe_lst (pa_cons pe_str (pa_cons pe_str (pa_cons pe_str (pa_cons pe_str (pa_cons pe_str (pa_cons pe_str (pa_cons pe_str (pa_cons pe_str (pa_cons pe_str (pa_cons pe_str (pa_cons pe_str (pa_cons pe_str (pa_cons pe_str (pa_cons pe_str (pa_cons pe_str (pa_cons pe_str (pa_cons pe_str pa_nil)))))))))))))))))))
      (pss_cons (ps_set (i := 8) sc_law.nd rfl (Or.inl rfl) (pe_op opAdd (pv 8) (pe_lst (pa_cons pe_str (pa_cons pe_str (pa_cons pe_str (pa_cons (pe_op (opMul.or op_repS) pe_str pe_int) (pa_cons (pe_op opAdd (pe_op (opMul.or op_repS) pe_str pe_int) pe_str) pa_nil))))))))
      (pss_one (ps_ret (pe_and (pe_callB (allK (K := K) rfl rfl) (by rfl) G.b_all (by decide +kernel) (pa_cons (pe_lc (own := [("_law_other", 10)]) rfl sc_law.nd (listPI (K := K) rfl (pi_list (pv 8))) (blkOk_by (N := n_law) (sc := defScope s_law) (by decide +kernel)) (fun _ _ _ _ _ => (pg_name (i := 10) sc_law.nd rfl (Or.inl rfl))) (fun _ _ _ _ _ => pts_nil) (fun _ _ _ _ _ => (pe_cal c__law_right ⟨rfl, rfl, rfl, rfl, rfl⟩ (hr.mono (by decide)) (by rfl) passN (pa_cons (pv 10) pa_nil)))) pa_nil)) (pe_one (pe_callB (allK (K := K) rfl rfl) (by rfl) G.b_all (by decide +kernel) (pa_cons (pe_lc (own := [("_law_thing", 11)]) rfl sc_law.nd (listPI (K := K) rfl (pi_list (pe_lst (pa_cons pe_non (pa_cons pe_int (pa_cons (pe_lst (pa_cons pe_int pa_nil)) (pa_cons pe_bl pa_nil))))))) (blkOk_by (N := n_law) (sc := defScope s_law) (by decide +kernel)) (fun _ _ _ _ _ => (pg_name (i := 11) sc_law.nd rfl (Or.inl rfl))) (fun _ _ _ _ _ => pts_nil) (fun _ _ _ _ _ => (pe_cal c__law_refused ⟨rfl, rfl, rfl, rfl, rfl⟩ (hr.mono (by decide)) (by rfl) passN (pa_cons (pv 11) pa_nil)))) pa_nil)))))))))))))), ?_⟩)
  rintro ds o ⟨ns, hns⟩
  have hl := lawS_le ns 3
  generalize hs : lawS ns 3 = s
  rw [hs] at hl
  have hdr : ∀ (ρ : Rho) (ta tb tc : TE) (c : Int) (k m : Nat), 0 < m → EvF K ta ρ (.int c) → EvF K tb ρ (nD k) → EvF K tc ρ (nD m) → EvF K (tCall (spD K (gr__law_draw er)) [] E (tCons ta (tCons tb (tCons tc tNil)))) ρ (nD (drw c k m)) :=
    fun ρ ta tb tc c k m h h1 h2 h3 => ef_call (ea_cons h1 (ea_cons h2 (ea_cons h3 ea_nil))) (.mk c k m h)
  have hcl : ∀ (ρ : Rho) (ta tb : TE) (k : Nat), EvF K ta ρ (scD ns) → EvF K tb ρ (nD k) → EvF K (tCall (spD K (gr__law_cell_at er)) [] E (tCons ta (tCons tb tNil))) ρ (.int (cel ns k)) := fun ρ ta tb k h1 h2 => ef_call (ea_cons h1 (ea_cons h2 ea_nil)) (.mk ns k)
  have hri : ∀ (ρ : Rho) (ta : TE) (w : Str), w.length ≤ 1000 → EvF K ta ρ (.str w) → EvF K (tCall (spD K (gr__law_right er)) [] E (tCons ta tNil)) ρ (.bl true) := fun ρ ta w h h1 => ef_call (ea_cons h1 ea_nil) (.mk w (by rw [len_cps]; exact h))
  have hz : sizeLine = 16777216 := sizeLine_eq
  walk_at "nm"
  apply q_asgL (xs := stL s)
  · rw [← hs]
    exact en_call (ea_cons (ef_var rfl) (ea_cons ef_int ea_nil)) (.mk ns 3 hns)
  walk_at "nm"
  apply q_asg (x := .str (txt s))
  · refine ef_if (b := !decide (s = [])) (EvT.is (et_neNil (EvF.now (ef_varl rfl)) (okD_st s)) ?_) (fun h => ?_) (fun h => ?_)
    · cases s <;> rfl
    · rw [Bool.not_eq_true', decide_eq_false_iff_not] at h
      rw [txt, if_neg h]
      refine ef_joinC ef_str (EvP.m (EvN.p (EvN.is (en_lcL pD s.reverse (fun _ => true) (fun p => .str (Sg [chp p])) (EvN.f (EvN.is (en_rev (EvF.m (ef_varl rfl))) (List.map_reverse ..).symm)) (by rw [List.length_reverse]; omega) (by simp) (fun _ _ => et_yes) (fun p _ _ => ef_binF ef_str (ef_var rfl) (rf_ixs (by rw [hz]; decide +kernel) (fig_at p)))) ?_))) (by rw [List.length_map, List.length_reverse]; omega)
      rw [filter_yes, List.map_map]
      rfl
    · rw [Bool.not_eq_false', decide_eq_true_eq] at h
      rw [txt, if_pos h, ← dash_eq]
      exact ef_str
  walk_at "nm"
  have hT := txt_len s
  apply q_asgL (xs := stL s)
  · exact en_list (EvF.m (ef_varl rfl))
  walk_at "nm"
  apply q_if (b := false)
  · refine EvT.is (et_or (et_test (ef_binD (EvF.now (ef_call (ea_cons (ef_varl rfl) ea_nil) (.mk s (by omega)))) (EvF.now (ef_var rfl)) rv_nes)) fun _ => et_or (et_test (ef_binD (EvF.now (ef_varl rfl)) (EvF.now (ef_varl rfl)) rv_neSt)) fun _ => et_not (et_val (hri _ _ (txt s) (by omega) (ef_var rfl)))) ?_
    simp
  · intro z; cases z
  intro _
  apply q_next
  generalize txt s = w at *
  apply q_asg (x := .int (cel ns 3 + 7 * cel ns 0))
  · exact ef_binD (EvF.now (hcl _ _ _ 3 (ef_var rfl) ef_int)) (EvF.now (ef_binD (EvF.now ef_int) (EvF.now (hcl _ _ _ 0 (ef_var rfl) ef_int)) (rv_mul (cmul_l (by decide))))) rv_add
  walk_at "nm"
  generalize cel ns 3 + 7 * cel ns 0 = c
  apply q_mid (fun ρ => ∃ x5 x6 x7, ρ = [.d (scD ns), .l (stL s), .d (.str w), .l (stL s), .d (.int c), x5, x6, x7, .un, .un, .un, .un])
  · refine es_forR (n := 3) (Inv := fun _ ρ => ∃ x5 x6 x7, ρ = [.d (scD ns), .l (stL s), .d (.str w), .l (stL s), .d (.int c), x5, x6, x7, .un, .un, .un, .un]) ef_int (by decide) ⟨_, _, _, rfl⟩ ?_ (fun ρ h => h)
    rintro i ρ hi ⟨x5, x6, x7, rfl⟩
    walk_at "nm"
    have hck : ∀ ρ : Rho, ρ[4]? = some (.d (.int c)) → ρ[5]? = some (.d (nD i)) → EvF K (tOp rAdd3 (tVar 4) (tVar 5)) ρ (.int (c + i)) := fun ρ h4 h5 => ef_binD (EvF.now (ef_var h4)) (EvF.now (ef_var h5)) rv_add
    apply q_asg (x := nD (drw (c + i) 1 (w.length + 1)))
    · exact hdr _ _ _ _ _ 1 (w.length + 1) (by omega) (hck _ rfl rfl) ef_int (EvF.is (ef_binD (EvF.now (ef_lenS (ef_var rfl) (by omega))) (EvF.now ef_int) rv_add) (by simp [nD]))
    walk_at "nm"
    generalize drw (c + i) 1 (w.length + 1) = d
    obtain ⟨sg, hsg, hev⟩ : ∃ sg : Str, sg.length ≤ 1 ∧ ∀ ρ : Rho, ρ[4]? = some (.d (.int c)) → ρ[5]? = some (.d (nD i)) → EvF K (tOp (rIx K) (tTup (tCons (tC (.str "")) (tCons (tOp (rIx K) (tC (.str "0123- ,x9")) (tCall (spD K (gr__law_draw er)) [] E (tCons (tOp rAdd3 (tVar 4) (tVar 5)) (tCons (tC (.int 2)) (tCons (tC (.int 9)) tNil))))) tNil))) (tCall (spD K (gr__law_draw er)) [] E (tCons (tOp rAdd3 (tVar 4) (tVar 5)) (tCons (tC (.int 3)) (tCons (tC (.int 2)) tNil))))) ρ (.str sg) := by
      have h9 := drw_lt (c + i) 2 9 (by decide)
      have h2 := drw_lt (c + i) 3 2 (by decide)
      obtain ⟨ch, hch⟩ : ∃ ch, ("0123- ,x9" : Str).cps.toList[drw (c + i) 2 9]? = some ch := ⟨_, List.getElem?_eq_getElem (by rw [sgn_len]; exact h9)⟩
      have tup : ∀ ρ : Rho, ρ[4]? = some (.d (.int c)) → ρ[5]? = some (.d (nD i)) → EvF K (tTup (tCons (tC (.str "")) (tCons (tOp (rIx K) (tC (.str "0123- ,x9")) (tCall (spD K (gr__law_draw er)) [] E (tCons (tOp rAdd3 (tVar 4) (tVar 5)) (tCons (tC (.int 2)) (tCons (tC (.int 9)) tNil))))) tNil))) ρ (.tup [.str "", .str ⟨#[ch]⟩]) := fun ρ h4 h5 =>
        ef_tup (ea_cons ef_str (ea_cons (ef_binF ef_str (hdr _ _ _ _ _ 2 9 (by decide) (hck _ h4 h5) ef_int ef_int) (rf_ixs (by rw [← len_cps, sgn_len, hz]; decide) (atI_nat hch))) ea_nil)) (Nat.le_of_ble_eq_true rfl)
      have hd2 : drw (c + i) 3 2 = 0 ∨ drw (c + i) 3 2 = 1 := by omega
      rcases hd2 with e | e
      · refine ⟨"", by decide +kernel, fun ρ h4 h5 => ef_binF (tup ρ h4 h5) (hdr _ _ _ _ _ 3 2 (by decide) (hck _ h4 h5) ef_int ef_int) (rf_ix ?_)⟩
        rw [e]
        exact atI_nat (j := 0) rfl
      · refine ⟨⟨#[ch]⟩, Nat.le_refl _, fun ρ h4 h5 => ef_binF (tup ρ h4 h5) (hdr _ _ _ _ _ 3 2 (by decide) (hck _ h4 h5) ef_int ef_int) (rf_ix ?_)⟩
        rw [e]
        exact atI_nat (j := 1) rfl
    apply q_asg (x := .str sg)
    · exact hev _ rfl rfl
    walk_at "nm"
    apply es_last
    have c1 := cutS_length w none (some (d : Int))
    have c2 := cutS_length w (some ((d : Int) + (drw (c + i) 4 2 : Int))) none
    apply q_if (b := false)
    · refine EvT.is (et_not (et_val (hri _ _ ((cutS w none (some (d : Int)) ++ sg) ++ cutS w (some ((d : Int) + (drw (c + i) 4 2 : Int))) none) ?_ (ef_binD (EvF.now (ef_binD (EvF.now (ef_slS (ef_var rfl) eo_none (eo_some (ef_var rfl)) (by omega))) (EvF.now (ef_var rfl)) (rv_addS ?_))) (EvF.now (ef_slS (ef_var rfl) (eo_some (ef_binD (EvF.now (ef_var rfl)) (EvF.now (hdr _ _ _ _ _ 4 2 (by decide) (hck _ rfl rfl) ef_int ef_int)) rv_add)) eo_none (by omega))) (rv_addS ?_))))) rfl
      · rw [len_app, len_app]; omega
      · omega
      · rw [len_app]; omega
    · intro z; cases z
    intro _
    apply q_next
    exact q_end ⟨_, _, _, rfl⟩
  rintro ρ ⟨x5, x6, x7, rfl⟩
  walk_at "nm"
  apply q_asgL (xs := wsA.map Da.str)
  · exact en_lst (ea_cons ef_str (ea_cons ef_str (ea_cons ef_str (ea_cons ef_str (ea_cons ef_str (ea_cons ef_str (ea_cons ef_str (ea_cons ef_str (ea_cons ef_str (ea_cons ef_str (ea_cons ef_str (ea_cons ef_str (ea_cons ef_str (ea_cons ef_str (ea_cons ef_str (ea_cons ef_str (ea_cons ef_str ea_nil))))))))))))))))) (Nat.le_of_ble_eq_true rfl)
  walk_at "nm"
  have l1 : ("2" : Str).length = 1 := by decide +kernel
  have l2 : ("1" : Str).length = 1 := by decide +kernel
  have l3 : (Sg (List.replicate (300 : Int).toNat ("1" : Str).cps.toList).flatten).length + ("3" : Str).length ≤ 1000000 := by decide +kernel
  apply q_asgL (xs := (wsA ++ wsB).map Da.str)
  · exact en_binP (ep_varl rfl) (EvN.p (en_lst (ea_cons ef_str (ea_cons ef_str (ea_cons ef_str (ea_cons (ef_binD (EvF.now ef_str) (EvF.now ef_int) (rv_repS (by decide) (by decide) (by rw [l1]; decide) (by rw [l1]; decide))) (ea_cons (ef_binD (EvF.now (ef_binD (EvF.now ef_str) (EvF.now ef_int) (rv_repS (by decide) (by decide) (by rw [l2]; decide) (by rw [l2]; decide)))) (EvF.now ef_str) (rv_addS l3)) ea_nil))))) (Nat.le_of_ble_eq_true rfl))) (rp_add (Nat.le_of_ble_eq_true rfl))
  walk_at "nm"
  apply es_last
  apply q_ret (x := .bl true)
  · refine EvF.is (ef_andV (ef_all (bs := (wsA ++ wsB).map fun _ => true) (EvP.m (EvN.p ?_))) fun _ => ef_all (bs := ([.non, .int 5, .lst [.int 0], .bl true] : List Da).map fun _ => true) (EvP.m (EvN.p ?_))) ?_
    · have h1 := en_lcL (K := K) (ρ := [.d (scD ns), .l (stL s), .d (.str w), .l (stL s), .d (.int c), x5, x6, x7, .l ((wsA ++ wsB).map Da.str), .un, .un, .un]) (ts := tVar 8) (tt := tYes) (te := tCall (spD K (gr__law_right er)) [] E0 (tCons (tVar 10) tNil)) (j := 10) (vs := [10]) Da.str (wsA ++ wsB) (fun _ => true) (fun _ => .bl true)
        (ef_varl rfl) (Nat.le_of_ble_eq_true rfl) (by simp) (fun _ _ => et_yes) (fun x hx _ => ef_call (ea_cons (ef_var rfl) ea_nil) (.mk x (by rw [len_cps]; exact of_decide_eq_true (List.all_eq_true.mp ws_len x hx))))
      rw [filter_yes] at h1
      rw [List.map_map]
      exact h1
    · have h1 := en_lcL (K := K) (ρ := [.d (scD ns), .l (stL s), .d (.str w), .l (stL s), .d (.int c), x5, x6, x7, .l ((wsA ++ wsB).map Da.str), .un, .un, .un]) (ts := tLst (tCons (tC .non) (tCons (tC (.int 5)) (tCons (tLst (tCons (tC (.int 0)) tNil)) (tCons (tC (.bl true)) tNil))))) (tt := tYes) (te := tCall (spD K (gr__law_refused er)) [] E0 (tCons (tVar 11) tNil)) (j := 11) (vs := [11]) (fun x : Da => x) [.non, .int 5, .lst [.int 0], .bl true] (fun _ => true) (fun _ => .bl true)
        (by rw [List.map_id']; exact EvN.f (en_lst (ea_cons ef_non (ea_cons ef_int (ea_cons (EvN.f (en_lst (ea_cons ef_int ea_nil) (Nat.le_of_ble_eq_true rfl))) (ea_cons ef_bl ea_nil)))) (Nat.le_of_ble_eq_true rfl))) (Nat.le_of_ble_eq_true rfl) (by simp) (fun _ _ => et_yes) (fun x hx _ => ef_call (ea_cons (ef_var rfl) ea_nil) (by
          simp only [List.mem_cons, List.not_mem_nil, or_false] at hx
          rcases hx with rfl | rfl | rfl | rfl <;> exact .badT _ trivial rfl))
      rw [filter_yes] at h1
      exact h1
    · rfl
  · rfl


end
/-! ### the head -/
def dd_is_whole : He.DefD := ⟨("is_whole", none), "is_whole", "is_whole", defArgs s_is_whole, defBody s_is_whole, defScope s_is_whole, [], []⟩
def dd_is_peg : He.DefD := ⟨("is_peg", none), "is_peg", "is_peg", defArgs s_is_peg, defBody s_is_peg, defScope s_is_peg, [], []⟩
def dd_check_state : He.DefD := ⟨("check_state", none), "check_state", "check_state", defArgs s_check_state, defBody s_check_state, defScope s_check_state, [], []⟩
def dd_written : He.DefD := ⟨("written", none), "written", "written", defArgs s_written, defBody s_written, defScope s_written, [], []⟩
def dd_read : He.DefD := ⟨("read", none), "read", "read", defArgs s_read, defBody s_read, defScope s_read, [], []⟩
def dd__law_cell_at : He.DefD := ⟨("_law_cell_at", none), "_law_cell_at", "_law_cell_at", defArgs s__law_cell_at, defBody s__law_cell_at, defScope s__law_cell_at, [], []⟩
def dd__law_draw : He.DefD := ⟨("_law_draw", none), "_law_draw", "_law_draw", defArgs s__law_draw, defBody s__law_draw, defScope s__law_draw, [], []⟩
def dd__law_state : He.DefD := ⟨("_law_state", none), "_law_state", "_law_state", defArgs s__law_state, defBody s__law_state, defScope s__law_state, [], []⟩
def dd__law_rule : He.DefD := ⟨("_law_rule", none), "_law_rule", "_law_rule", defArgs s__law_rule, defBody s__law_rule, defScope s__law_rule, [], []⟩
def dd__law_behind : He.DefD := ⟨("_law_behind", none), "_law_behind", "_law_behind", defArgs s__law_behind, defBody s__law_behind, defScope s__law_behind, [], []⟩
def dd__law_whole : He.DefD := ⟨("_law_whole", none), "_law_whole", "_law_whole", defArgs s__law_whole, defBody s__law_whole, defScope s__law_whole, [], []⟩
def dd__law_refused : He.DefD := ⟨("_law_refused", none), "_law_refused", "_law_refused", defArgs s__law_refused, defBody s__law_refused, defScope s__law_refused, [], []⟩
def dd__law_right : He.DefD := ⟨("_law_right", none), "_law_right", "_law_right", defArgs s__law_right, defBody s__law_right, defScope s__law_right, [], []⟩
def dd_law : He.DefD := ⟨("law", none), "law", "law", defArgs s_law, defBody s_law, defScope s_law, [], []⟩
def fnL : List He.DefD := [dd_is_whole, dd_is_peg, dd_check_state, dd_written, dd_read, dd__law_cell_at, dd__law_draw, dd__law_state, dd__law_rule, dd__law_behind, dd__law_whole, dd__law_refused, dd__law_right, dd_law]
def faL : List He.Fa := [.glo "is_whole", .glo "is_peg", .glo "check_state", .glo "written", .glo "read", .glo "_law_cell_at", .glo "_law_draw", .glo "_law_state", .glo "_law_rule", .glo "_law_behind", .glo "_law_whole", .glo "_law_refused", .glo "_law_right", .glo "law", .free "isinstance", .free "int", .free "bool", .free "list", .free "all", .free "len", .free "reversed", .free "str", .free "range", .free "enumerate", .free "abs", .free "ValueError", .free "any", .glo "TowerError", .glo "BadRule", .glo "BadState", .glo "BadPeg", .glo "BadMove", .glo "BadNumber", .glo "Unlike", .glo "BadText", .exc "TowerError", .exc "BadRule", .exc "BadState", .exc "BadPeg", .exc "BadMove", .exc "BadNumber", .exc "Unlike", .exc "BadText"]
def namesL : List PySem.Str := (["TowerError", "BadRule", "BadState", "BadPeg", "BadMove", "BadNumber", "Unlike", "BadText", "is_whole", "is_peg", "check_state", "written", "read", "_law_cell_at", "_law_draw", "_law_state", "_law_rule", "_law_behind", "_law_whole", "_law_refused", "_law_right"] : List PySem.Str)
def exB (K : PySem.W.Frag) : Bool := exHB K (He.ga K) dsX csX
abbrev RR : PySem.W.OpenRow := PySem.W.OpenLaw.row PySem.Challenge.rw_towerrow_k06_written
def obsM (g : Addr → Option Obj) : He.AlD × Bool := (He.obsD faL fnL (He.frG g (He.asD g 4)), exB (He.frG g (He.asD g 4)))
def hkM : PySem.W.Hook where
  α := He.AlD × Bool
  obs := fun s => obsM s.heap.get?
  val := fun _ => (He.valD fnL, true)
  says := fun _ h => ∃ K : PySem.W.Frag, K.In h ∧ He.SaysD faL fnL K ∧ exB K = true
  of := fun _ _ e => ⟨_, He.frG_in, congrArg (fun z : He.AlD × Bool => z.1) e, congrArg (fun z : He.AlD × Bool => z.2) e⟩
  keeps := fun _ _ _ ⟨K, hK, c⟩ k => ⟨K, PySem.W.Frag.In.keeps hK k, c⟩
def obM (s : PySem.W.SharedT) : He.AlD × Bool := obsM (HandSHeadRun.getT s)
theorem obM_eq (s : PySem.W.SharedT) : obM s = hkM.obs s.abs := by
  have e : HandSHeadRun.getT s = s.abs.heap.get? := funext (HandSHeadRun.getT_eq s)
  unfold obM
  rw [e] <;> rfl
theorem runM (w : World) : HandSHeadRun.RunEq RR (PySem.W.view RR.prog [25]) hkM obM 20000 namesL w := by
  intro os
  kernel_rfl
theorem facts {P : Program} {w : World} {K : PySem.W.Frag} {h : Heap} {mg : Str → Option Value} {f : Addr} (X : K.In h) (G : h.Ns mainGlobals mg) (hfa : mg ("law" : Str) = some (.ref f)) (c : He.SaysD faL fnL K) (ex : exB K = true) :
    ∃ fd : FuncData, (∀ (s : Shared) (v : Value), BindsTo s fd ⟨[v], []⟩ [("_law_script", v)]) ∧ ∀ base : Heap, K.In base → base.Ns mainGlobals mg → FnOk P w K mg base L2.CX0 6 f fd ["_law_script"] (fun vs H Q _ => spD K (gr_law (He.ga K)) vs H Q E0) := by
  obtain ⟨fd_is_whole, F_is_whole⟩ := c.def_ 0 (d := dd_is_whole) rfl
  obtain ⟨fd_is_peg, F_is_peg⟩ := c.def_ 1 (d := dd_is_peg) rfl
  obtain ⟨fd_check_state, F_check_state⟩ := c.def_ 2 (d := dd_check_state) rfl
  obtain ⟨fd_written, F_written⟩ := c.def_ 3 (d := dd_written) rfl
  obtain ⟨fd_read, F_read⟩ := c.def_ 4 (d := dd_read) rfl
  obtain ⟨fd__law_cell_at, F__law_cell_at⟩ := c.def_ 5 (d := dd__law_cell_at) rfl
  obtain ⟨fd__law_draw, F__law_draw⟩ := c.def_ 6 (d := dd__law_draw) rfl
  obtain ⟨fd__law_state, F__law_state⟩ := c.def_ 7 (d := dd__law_state) rfl
  obtain ⟨fd__law_rule, F__law_rule⟩ := c.def_ 8 (d := dd__law_rule) rfl
  obtain ⟨fd__law_behind, F__law_behind⟩ := c.def_ 9 (d := dd__law_behind) rfl
  obtain ⟨fd__law_whole, F__law_whole⟩ := c.def_ 10 (d := dd__law_whole) rfl
  obtain ⟨fd__law_refused, F__law_refused⟩ := c.def_ 11 (d := dd__law_refused) rfl
  obtain ⟨fd__law_right, F__law_right⟩ := c.def_ 12 (d := dd__law_right) rfl
  obtain ⟨fd_law, F_law⟩ := c.def_ 13 (d := dd_law) rfl
  have m_is_whole : mg "is_whole" = some (.ref (He.fAd K ("is_whole", none))) := He.glo_ok X G (c.fact 0 (f := .glo "is_whole") rfl)
  have m_is_peg : mg "is_peg" = some (.ref (He.fAd K ("is_peg", none))) := He.glo_ok X G (c.fact 1 (f := .glo "is_peg") rfl)
  have m_check_state : mg "check_state" = some (.ref (He.fAd K ("check_state", none))) := He.glo_ok X G (c.fact 2 (f := .glo "check_state") rfl)
  have m_written : mg "written" = some (.ref (He.fAd K ("written", none))) := He.glo_ok X G (c.fact 3 (f := .glo "written") rfl)
  have m_read : mg "read" = some (.ref (He.fAd K ("read", none))) := He.glo_ok X G (c.fact 4 (f := .glo "read") rfl)
  have m__law_cell_at : mg "_law_cell_at" = some (.ref (He.fAd K ("_law_cell_at", none))) := He.glo_ok X G (c.fact 5 (f := .glo "_law_cell_at") rfl)
  have m__law_draw : mg "_law_draw" = some (.ref (He.fAd K ("_law_draw", none))) := He.glo_ok X G (c.fact 6 (f := .glo "_law_draw") rfl)
  have m__law_state : mg "_law_state" = some (.ref (He.fAd K ("_law_state", none))) := He.glo_ok X G (c.fact 7 (f := .glo "_law_state") rfl)
  have m__law_rule : mg "_law_rule" = some (.ref (He.fAd K ("_law_rule", none))) := He.glo_ok X G (c.fact 8 (f := .glo "_law_rule") rfl)
  have m__law_behind : mg "_law_behind" = some (.ref (He.fAd K ("_law_behind", none))) := He.glo_ok X G (c.fact 9 (f := .glo "_law_behind") rfl)
  have m__law_whole : mg "_law_whole" = some (.ref (He.fAd K ("_law_whole", none))) := He.glo_ok X G (c.fact 10 (f := .glo "_law_whole") rfl)
  have m__law_refused : mg "_law_refused" = some (.ref (He.fAd K ("_law_refused", none))) := He.glo_ok X G (c.fact 11 (f := .glo "_law_refused") rfl)
  have m__law_right : mg "_law_right" = some (.ref (He.fAd K ("_law_right", none))) := He.glo_ok X G (c.fact 12 (f := .glo "_law_right") rfl)
  have m_law : mg "law" = some (.ref (He.fAd K ("law", none))) := He.glo_ok X G (c.fact 13 (f := .glo "law") rfl)
  have GG : Glb mg := ⟨He.free_ok X G (c.fact 14 (f := .free "isinstance") rfl), He.free_ok X G (c.fact 15 (f := .free "int") rfl), He.free_ok X G (c.fact 16 (f := .free "bool") rfl), He.free_ok X G (c.fact 17 (f := .free "list") rfl), He.free_ok X G (c.fact 18 (f := .free "all") rfl), He.free_ok X G (c.fact 19 (f := .free "len") rfl), He.free_ok X G (c.fact 20 (f := .free "reversed") rfl), He.free_ok X G (c.fact 21 (f := .free "str") rfl), He.free_ok X G (c.fact 22 (f := .free "range") rfl), He.free_ok X G (c.fact 23 (f := .free "enumerate") rfl), He.free_ok X G (c.fact 24 (f := .free "abs") rfl), He.free_ok X G (c.fact 25 (f := .free "ValueError") rfl), He.free_ok X G (c.fact 26 (f := .free "any") rfl)⟩
  have e_TowerError : ErrC K mg "TowerError" (He.ga K "TowerError") := by
    obtain ⟨h1, h2, h3, h4⟩ := He.exc_ok (c.fact 35 (f := .exc "TowerError") rfl)
    exact ⟨He.glo_ok X G (c.fact 27 (f := .glo "TowerError") rfl), h2, h1, h3, h4⟩
  have e_BadRule : ErrC K mg "BadRule" (He.ga K "BadRule") := by
    obtain ⟨h1, h2, h3, h4⟩ := He.exc_ok (c.fact 36 (f := .exc "BadRule") rfl)
    exact ⟨He.glo_ok X G (c.fact 28 (f := .glo "BadRule") rfl), h2, h1, h3, h4⟩
  have e_BadState : ErrC K mg "BadState" (He.ga K "BadState") := by
    obtain ⟨h1, h2, h3, h4⟩ := He.exc_ok (c.fact 37 (f := .exc "BadState") rfl)
    exact ⟨He.glo_ok X G (c.fact 29 (f := .glo "BadState") rfl), h2, h1, h3, h4⟩
  have e_BadPeg : ErrC K mg "BadPeg" (He.ga K "BadPeg") := by
    obtain ⟨h1, h2, h3, h4⟩ := He.exc_ok (c.fact 38 (f := .exc "BadPeg") rfl)
    exact ⟨He.glo_ok X G (c.fact 30 (f := .glo "BadPeg") rfl), h2, h1, h3, h4⟩
  have e_BadMove : ErrC K mg "BadMove" (He.ga K "BadMove") := by
    obtain ⟨h1, h2, h3, h4⟩ := He.exc_ok (c.fact 39 (f := .exc "BadMove") rfl)
    exact ⟨He.glo_ok X G (c.fact 31 (f := .glo "BadMove") rfl), h2, h1, h3, h4⟩
  have e_BadNumber : ErrC K mg "BadNumber" (He.ga K "BadNumber") := by
    obtain ⟨h1, h2, h3, h4⟩ := He.exc_ok (c.fact 40 (f := .exc "BadNumber") rfl)
    exact ⟨He.glo_ok X G (c.fact 32 (f := .glo "BadNumber") rfl), h2, h1, h3, h4⟩
  have e_Unlike : ErrC K mg "Unlike" (He.ga K "Unlike") := by
    obtain ⟨h1, h2, h3, h4⟩ := He.exc_ok (c.fact 41 (f := .exc "Unlike") rfl)
    exact ⟨He.glo_ok X G (c.fact 33 (f := .glo "Unlike") rfl), h2, h1, h3, h4⟩
  have e_BadText : ErrC K mg "BadText" (He.ga K "BadText") := by
    obtain ⟨h1, h2, h3, h4⟩ := He.exc_ok (c.fact 42 (f := .exc "BadText") rfl)
    exact ⟨He.glo_ok X G (c.fact 34 (f := .glo "BadText") rfl), h2, h1, h3, h4⟩
  have hX : ExH K (He.ga K) dsX csX := exHB_ok ex
  have eq_law : f = He.fAd K ("law", none) := by
    have e := hfa.symm.trans m_law
    injection e with e; injection e
  subst eq_law
  have b := FunD.bindsA (ps := ["_law_script"]) F_law fun _ _ _ _ _ _ us hl => match us, hl with | [_], _ => rfl
  refine ⟨fd_law, fun s v => b s [v] rfl, fun base _ _ => ?_⟩
  have c_is_whole : Cal P w K mg base 1 "is_whole" ["thing"] (gr_is_whole (He.ga K)) := cal_is_whole F_is_whole m_is_whole GG 
  have c_read : Cal P w K mg base 1 "read" ["text"] (gr_read (He.ga K)) := cal_read F_read m_read GG e_BadText
  have c__law_cell_at : Cal P w K mg base 1 "_law_cell_at" ["_law_script", "_law_k"] (gr__law_cell_at (He.ga K)) := cal__law_cell_at F__law_cell_at m__law_cell_at GG 
  have c__law_draw : Cal P w K mg base 1 "_law_draw" ["_law_cell", "_law_k", "_law_many"] (gr__law_draw (He.ga K)) := cal__law_draw F__law_draw m__law_draw GG 
  have c__law_behind : Cal P w K mg base 1 "_law_behind" ["_law_rule_here", "_law_state_here"] (gr__law_behind (He.ga K)) := cal__law_behind F__law_behind m__law_behind GG 
  have c__law_whole : Cal P w K mg base 1 "_law_whole" ["_law_number"] (gr__law_whole (He.ga K)) := cal__law_whole F__law_whole m__law_whole GG 
  have c_is_peg : Cal P w K mg base 2 "is_peg" ["thing"] (gr_is_peg (He.ga K)) := cal_is_peg F_is_peg m_is_peg GG c_is_whole
  have c__law_state : Cal P w K mg base 2 "_law_state" ["_law_script", "_law_by"] (gr__law_state (He.ga K)) := cal__law_state F__law_state m__law_state GG c__law_draw c__law_cell_at
  have c__law_rule : Cal P w K mg base 2 "_law_rule" ["_law_script", "_law_k"] (gr__law_rule (He.ga K)) := cal__law_rule F__law_rule m__law_rule GG c__law_draw c__law_cell_at
  have c__law_refused : Cal P w K mg base 2 "_law_refused" ["_law_text"] (gr__law_refused (He.ga K)) := cal__law_refused F__law_refused m__law_refused GG e_TowerError e_BadRule e_BadState e_BadPeg e_BadText e_BadMove e_BadNumber e_Unlike hX c_read
  have c_check_state : Cal P w K mg base 3 "check_state" ["state"] (gr_check_state (He.ga K)) := cal_check_state F_check_state m_check_state GG e_BadState c_is_peg
  have c_written : Cal P w K mg base 4 "written" ["state"] (gr_written (He.ga K)) := cal_written F_written m_written GG c_check_state
  have c__law_right : Cal P w K mg base 5 "_law_right" ["_law_text"] (gr__law_right (He.ga K)) := cal__law_right F__law_right m__law_right GG c_read c__law_refused c_written c__law_whole
  exact fn_quiet (ok_law F_law GG c__law_state c__law_cell_at c__law_draw c_written c__law_right c__law_refused)
end TR
open PySem PySem.W PySem.Calls PyProof.Rows
theorem PySem.Challenge.cw_towerrow_k06_written_holds : PySem.Challenge.rw_towerrow_k06_written.Holds := by
  w_on; o_law
  refine HandSHeadRun.head_any (r := OpenLaw.row PySem.Challenge.rw_towerrow_k06_written) (q := view (OpenLaw.row PySem.Challenge.rw_towerrow_k06_written).prog [25]) (H := TR.hkM) (ob := TR.obM) (M := 20000) (loose := TR.namesL) (d := HandSHeadRun.topDef (OpenLaw.row PySem.Challenge.rw_towerrow_k06_written).prog 25) (kwd := []) TR.obM_eq
    (by kernel_rfl) (fun s => by kernel_rfl) TR.runM (by kernel_rfl) (by kernel_rfl) (by kernel_rfl) (by rfl) (by first | assumption | decide +kernel) (by decide +kernel) ⟨rfl, rfl, rfl, rfl, rfl, by decide +kernel⟩ ?hw ?hc
  case hw => w_witness2
  case hc =>
    refine L2.walk_ofE (l := PySem.Challenge.rw_towerrow_k06_written) (n := 63) (k := 6) (x := "_law_script") (CX := L2.CX0) rfl (by decide) (by kernel_rfl) ⟨rfl, by decide, by decide⟩ ?F (fun _ _ _ _ z => z)
    intro w mg fa h Y G hmg0
    obtain ⟨K, KX, c, ex⟩ := Y
    have hmg : mg ("law" : PySem.Str) = some (.ref fa) := by
      have e : (HandSHeadRun.topDef (OpenLaw.row PySem.Challenge.rw_towerrow_k06_written).prog 25).name = ("law" : PySem.Str) := by kernel_rfl
      rw [← e]
      exact hmg0
    obtain ⟨fd, hb, hF⟩ := TR.facts (P := (PySem.Challenge.rw_towerrow_k06_written).prog) (w := w) KX G hmg c ex
    exact ⟨K, fd, _, KX, hb, fun H a ns hl _ hS => ⟨H, [TR.scD ns], .f (.bl true), L2.Same.refl H, .cons (.lst hS (TR.ints_dqa H ns)) .nil, .mk ns hl, fun v F' H' g hd => by cases hd; rfl⟩, hF⟩
