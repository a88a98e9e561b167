import PyProof.Rows.All
import Wide.All
import OpenK.AllK
import Wide.FinOn
import KE.KStateDown
import HandS.ForMost
import HandS.Exc
import HandS.TryOnly
import HandS.ExcOwn
import HandS.WordsExc
import HandS.Defaults
import HandS.Style
import HandS.RevRange
import HandS.Deep
import HandS.IsInst
import HandS.StrMore
import HandS.Conv
import HandS.CallLocal
import HandS.ExcIs
import HandS.WideBits
import HandS.HeadHook1
import HandS.ExcCtx
import HandS.Hot
import HandS.Head0
import HandS.Head1
import HandS.Head2
import HandS.HeadEnd
import HandS.HeadHook2
import HandS.Rev
import HandS.Replace
import HandS.Codes
import HandS.HotCalls
import HandS.Dict
import PyProof.Rows.ChunkLeaf
import PySem.Challenge.RW_towerrow_k07_refused
set_option Elab.async false
set_option linter.all false
set_option maxRecDepth 100000
set_option maxHeartbeats 4000000
/-! own layer: data under the slots -/
namespace TR
open PySem PySem.Spec PyProof.Rows L2

/-! ### data -/
inductive Da where
  | non
  | bl (b : Bool)
  | int (i : Int)
  | str (s : Str)
  | lst (xs : List Da)
  | tup (xs : List Da)
  | emp
  | adr (a : Addr)
  | ty (n : String)

mutual
inductive Dq (K : PySem.W.Frag) (H : Hp) : V → Da → Prop
  | non : Dq K H .non .non
  | bl (b : Bool) : Dq K H (.bl b) (.bl b)
  | int (i : Int) : Dq K H (.int i) (.int i)
  | str (x : Str) : Dq K H (.str x) (.str x)
  | lst {a : Addr} {vs : List V} {ds : List Da} : SqL K H a vs → DqA K H vs ds → Dq K H (.ref a) (.lst ds)
  | tup {a : Addr} {vs : List V} {ds : List Da} : SqT K H a vs → DqA K H vs ds → Dq K H (.ref a) (.tup ds)
  | emp {a : Addr} : H a = some (.dK []) → Dq K H (.ref a) .emp
  | adr (a : Addr) : Dq K H (.ref a) (.adr a)
  | ty (n : String) : Dq K H (.ty n) (.ty n)
inductive DqA (K : PySem.W.Frag) (H : Hp) : List V → List Da → Prop
  | nil : DqA K H [] []
  | cons {v : V} {vs : List V} {d : Da} {ds : List Da} : Dq K H v d → DqA K H vs ds → DqA K H (v :: vs) (d :: ds)
end

theorem same_t {K : PySem.W.Frag} {H H' : Hp} {a : Addr} {xs : List V} (e : Same H H') (h : SqT K H a xs) : SqT K H' a xs := by
  rcases h with (h | ⟨o, h⟩) | h
  · exact .inl (.inl (e _ _ h))
  · exact .inl (.inr ⟨o, e _ _ h⟩)
  · exact .inr h
mutual
theorem Dq.mono {K : PySem.W.Frag} {F F' : Hp} (e : Same F F') : ∀ (d : Da) (v : V), Dq K F v d → Dq K F' v d
  | .non, _, h => by cases h; exact .non
  | .bl b, _, h => by cases h; exact .bl b
  | .int i, _, h => by cases h; exact .int i
  | .str x, _, h => by cases h; exact .str x
  | .lst ds, _, h => by
    cases h with
    | lst hs ha => exact .lst (e.seq hs) (DqA.mono e ds _ ha)
  | .tup ds, _, h => by
    cases h with
    | tup hs ha => exact .tup (same_t e hs) (DqA.mono e ds _ ha)
  | .emp, _, h => by
    cases h with
    | emp q => exact .emp (e _ _ q)
  | .adr a, _, h => by cases h; exact .adr a
  | .ty n, _, h => by cases h; exact .ty n
theorem DqA.mono {K : PySem.W.Frag} {F F' : Hp} (e : Same F F') : ∀ (ds : List Da) (vs : List V), DqA K F vs ds → DqA K F' vs ds
  | [], _, h => by cases h; exact .nil
  | d :: ds, _, h => by
    cases h with
    | cons h1 h2 => exact .cons (Dq.mono e d _ h1) (DqA.mono e ds _ h2)
end
section
variable {K : PySem.W.Frag} {H : Hp}
theorem DqA.len : ∀ {vs : List V} {ds : List Da}, DqA K H vs ds → vs.length = ds.length
  | _, _, .nil => rfl
  | _, _, .cons _ h => by rw [List.length_cons, List.length_cons, DqA.len h]
theorem DqA.get : ∀ {vs : List V} {ds : List Da} {i : Nat} {d : Da}, DqA K H vs ds → ds[i]? = some d → ∃ v, vs[i]? = some v ∧ Dq K H v d
  | _, _, _, _, .nil, e => by simp at e
  | _, _, 0, d, .cons h _, e => by
    have e' := Option.some.inj (show some _ = some d from e)
    subst e'
    exact ⟨_, rfl, h⟩
  | _, _, i + 1, d, .cons _ h, e => by
    obtain ⟨v, h1, h2⟩ := DqA.get (i := i) (d := d) h (by simpa using e)
    exact ⟨v, by simpa using h1, h2⟩
theorem DqA.get' : ∀ {vs : List V} {ds : List Da} {i : Nat} {v : V}, DqA K H vs ds → vs[i]? = some v → ∃ d, ds[i]? = some d ∧ Dq K H v d
  | _, _, _, _, .nil, e => by simp at e
  | _, _, 0, d, .cons h _, e => by
    have e' := Option.some.inj (show some _ = some d from e)
    subst e'
    exact ⟨_, rfl, h⟩
  | _, _, i + 1, d, .cons _ h, e => by
    obtain ⟨v, h1, h2⟩ := DqA.get' (i := i) (v := d) h (by simpa using e)
    exact ⟨v, by simpa using h1, h2⟩
theorem DqA.app : ∀ {vs ws : List V} {ds es : List Da}, DqA K H vs ds → DqA K H ws es → DqA K H (vs ++ ws) (ds ++ es)
  | _, _, _, _, .nil, h => h
  | _, _, _, _, .cons a b, h => .cons a (DqA.app b h)
theorem DqA.drop : ∀ {vs : List V} {ds : List Da} (n : Nat), DqA K H vs ds → DqA K H (vs.drop n) (ds.drop n)
  | _, _, 0, h => h
  | _, _, _ + 1, .nil => .nil
  | _, _, n + 1, .cons _ b => DqA.drop n b
theorem DqA.take : ∀ {vs : List V} {ds : List Da} (n : Nat), DqA K H vs ds → DqA K H (vs.take n) (ds.take n)
  | _, _, 0, _ => .nil
  | _, _, _ + 1, .nil => .nil
  | _, _, n + 1, .cons a b => .cons a (DqA.take n b)
theorem DqA.rev : ∀ {vs : List V} {ds : List Da}, DqA K H vs ds → DqA K H vs.reverse ds.reverse
  | _, _, .nil => .nil
  | _, _, .cons a b => by
    rw [List.reverse_cons, List.reverse_cons]
    exact DqA.app (DqA.rev b) (.cons a .nil)
theorem DqA.set : ∀ {vs : List V} {ds : List Da} {v : V} {d : Da} (j : Nat), DqA K H vs ds → Dq K H v d → DqA K H (vs.set j v) (ds.set j d)
  | _, _, _, _, _, .nil, _ => .nil
  | _, _, _, _, 0, .cons _ b, q => .cons q b
  | _, _, _, _, j + 1, .cons a b, q => .cons a (DqA.set j b q)
theorem DqA.rep {vs : List V} {ds : List Da} (h : DqA K H vs ds) : ∀ n : Nat, DqA K H (List.replicate n vs).flatten (List.replicate n ds).flatten
  | 0 => .nil
  | n + 1 => by
    rw [List.replicate_succ, List.replicate_succ, List.flatten_cons, List.flatten_cons]
    exact DqA.app h (DqA.rep h n)
theorem DqA.last {vs : List V} {ds : List Da} {v : V} {d : Da} (h : DqA K H vs ds) (q : Dq K H v d) : DqA K H (vs ++ [v]) (ds ++ [d]) := h.app (.cons q .nil)
end
/-- how atI goes over -/
theorem DqA.atI {K : PySem.W.Frag} {H : Hp} {vs : List V} {ds : List Da} {i : Int} {d : Da} (h : DqA K H vs ds) (e : L2.atI ds i = some d) : ∃ v, L2.atI vs i = some v ∧ Dq K H v d := by
  unfold L2.atI at e ⊢
  rw [h.len]
  cases q : ixN ds.length i with
  | none => rw [q] at e; cases e
  | some j =>
    rw [q] at e
    exact h.get (show ds[j]? = some d from e)

/-! ### what is frozen, what stands -/
structure Grow (F H F' H' : Hp) : Prop where
  f : Same F F'
  h : Same H H'
  s : Same F' H'
  n : ∀ a, F a = none → H a ≠ none → F' a = none
section
variable {F H F' H' F1 H1 F2 H2 F0 H0 : Hp} {p : Addr} {o : HO}
theorem same_new (h : H p = none) : Same H (upd H p o) := fun b x e => by
  rw [upd_ne (ne_of_none e h)]
  exact e
theorem Same.back (e : Same H H') (h : H' p = none) : H p = none := by
  cases q : H p with
  | none => rfl
  | some u =>
    rw [e _ _ q] at h
    cases h
theorem Grow.refl (h : Same F H) : Grow F H F H := ⟨Same.refl F, Same.refl H, h, fun _ q _ => q⟩
theorem Grow.trans (a : Grow F H F1 H1) (b : Grow F1 H1 F2 H2) : Grow F H F2 H2 :=
  ⟨a.f.trans b.f, a.h.trans b.h, b.s, fun x q r => b.n x (a.n x q r) fun z => r (Same.back a.h z)⟩
/-- a new thing, frozen at once -/
theorem Grow.new (s : Same F H) (h : H p = none) : Grow F H (upd F p o) (upd H p o) := by
  refine ⟨same_new (Same.back s h), same_new h, fun b x e => ?_, fun a q r => ?_⟩
  · by_cases hb : b = p
    · subst hb
      rw [upd_same] at e ⊢
      exact e
    · rw [upd_ne hb] at e ⊢
      exact s _ _ e
  · rw [upd_ne (fun z => r (by rw [z]; exact h))]
    exact q
/-- a new thing, own -/
theorem Grow.own (s : Same F H) (h : H p = none) : Grow F H F (upd H p o) :=
  ⟨Same.refl F, same_new h, s.trans (same_new h), fun _ q _ => q⟩
/-- an own thing changes -/
theorem Grow.mut (g : Grow F0 H0 F H) (h0 : H0 p = none) (hf : F p = none) : Grow F0 H0 F (upd H p o) := by
  refine ⟨g.f, fun b x e => ?_, fun b x e => ?_, g.n⟩
  · rw [upd_ne (ne_of_none e h0)]
    exact g.h _ _ e
  · rw [upd_ne (ne_of_none e hf)]
    exact g.s _ _ e
/-- an own thing is frozen -/
theorem Grow.frz (g : Grow F0 H0 F H) (h0 : H0 p = none) (hf : F p = none) (hh : H p = some o) : Grow F0 H0 (upd F p o) H := by
  refine ⟨g.f.trans (same_new hf), g.h, fun b x e => ?_, fun a q r => ?_⟩
  · by_cases hb : b = p
    · subst hb
      rw [upd_same] at e
      cases e
      exact hh
    · rw [upd_ne hb] at e
      exact g.s _ _ e
  · rw [upd_ne (fun z => r (by rw [z]; exact h0))]
    exact g.n a q r
/-- the frozen part is left as it was -/
theorem Grow.back (g : Grow F H F' H') : Grow F H F H' := ⟨Same.refl F, g.h, fun b x e => g.s _ _ (g.f _ _ e), fun _ q _ => q⟩
end

/-! ### the slots -/
inductive Sl where
  | un
  | d (x : Da)
  | l (xs : List Da)
  | m (xs : List Da)
abbrev Rho := List Sl
def Slot (K : PySem.W.Frag) (H0 F H : Hp) (o : Option V) : Sl → Prop
  | .un => True
  | .d x => ∃ v, o = some v ∧ Dq K F v x
  | .l xs => ∃ p vs, o = some (.ref p) ∧ F p = some (.lst vs) ∧ DqA K F vs xs
  | .m xs => ∃ p vs, o = some (.ref p) ∧ H0 p = none ∧ F p = none ∧ H p = some (.lst vs) ∧ DqA K F vs xs
structure Hs (K : PySem.W.Frag) (F0 H0 : Hp) (σ : L2.St) (F H : Hp) (ρ : Rho) : Prop where
  g : Grow F0 H0 F H
  len : σ.length = ρ.length
  at_ : ∀ (i : Nat) (r : Sl), ρ[i]? = some r → ∃ o, σ[i]? = some o ∧ Slot K H0 F H o r
  ne : ∀ (i j : Nat) (xs ys : List Da), i ≠ j → ρ[i]? = some (.m xs) → ρ[j]? = some (.m ys) → σ[i]? ≠ σ[j]?
section
variable {K : PySem.W.Frag} {F H F' H' F0 H0 : Hp} {σ : L2.St} {ρ : Rho} {o : Option V} {r : Sl}
theorem Slot.grow (x : Slot K H0 F H o r) (g : Grow F H F' H') : Slot K H0 F' H' o r := by
  cases r with
  | un => trivial
  | d x' =>
    obtain ⟨v, e, q⟩ := x
    exact ⟨v, e, Dq.mono g.f _ _ q⟩
  | l xs =>
    obtain ⟨p, vs, e, q, z⟩ := x
    exact ⟨p, vs, e, g.f _ _ q, DqA.mono g.f _ _ z⟩
  | m xs =>
    obtain ⟨p, vs, e, h0, hf, hh, z⟩ := x
    exact ⟨p, vs, e, h0, g.n p hf (by rw [hh]; exact fun z => nomatch z), g.h _ _ hh, DqA.mono g.f _ _ z⟩
theorem Hs.grow (E : Hs K F0 H0 σ F H ρ) (g : Grow F H F' H') : Hs K F0 H0 σ F' H' ρ :=
  ⟨E.g.trans g, E.len, fun i r h => let ⟨o, a, b⟩ := E.at_ i r h; ⟨o, a, b.grow g⟩, E.ne⟩
theorem Hs.s (E : Hs K F0 H0 σ F H ρ) : Same F H := E.g.s
theorem set_get {α : Type} {l : List α} {i j : Nat} {x y : α} (h : (l.set i x)[j]? = some y) : (j = i ∧ y = x ∧ i < l.length) ∨ (j ≠ i ∧ l[j]? = some y) := by
  rw [List.getElem?_set] at h
  by_cases e : i = j
  · rw [if_pos e] at h
    by_cases l' : i < l.length
    · rw [if_pos l'] at h
      exact .inl ⟨e.symm, (Option.some.inj h).symm, l'⟩
    · rw [if_neg l'] at h
      cases h
  · rw [if_neg e] at h
    exact .inr ⟨fun z => e z.symm, h⟩
/-- a slot that holds no own list is stored -/
theorem Hs.set (E : Hs K F0 H0 σ F H ρ) (i : Nat) {o : Option V} {r : Sl} (hr : Slot K H0 F H o r) (hm : ∀ xs, r ≠ .m xs) : Hs K F0 H0 (σ.set i o) F H (ρ.set i r) := by
  refine ⟨E.g, by rw [List.length_set, List.length_set]; exact E.len, fun j r' h => ?_, fun j k xs ys hjk h1 h2 => ?_⟩
  · rcases set_get h with ⟨rfl, rfl, hl⟩ | ⟨hne, h⟩
    · exact ⟨o, by rw [List.getElem?_set_self (by rw [E.len]; exact hl)], hr⟩
    · obtain ⟨o', a, b⟩ := E.at_ j r' h
      exact ⟨o', by rw [List.getElem?_set_ne (fun z => hne z.symm)]; exact a, b⟩
  · rcases set_get h1 with ⟨_, z, _⟩ | ⟨n1, h1⟩
    · exact absurd z.symm (hm xs)
    · rcases set_get h2 with ⟨_, z, _⟩ | ⟨n2, h2⟩
      · exact absurd z.symm (hm ys)
      · rw [List.getElem?_set_ne (fun z => n1 z.symm), List.getElem?_set_ne (fun z => n2 z.symm)]
        exact E.ne j k xs ys hjk h1 h2
/-- a new own list is stored -/
theorem Hs.setM (E : Hs K F0 H0 σ F H ρ) (i : Nat) {p : Addr} {vs : List V} {xs : List Da} (g : Grow F H F' H') (hp : H p = none) (hf : F' p = none) (hh : H' p = some (.lst vs)) (hd : DqA K F' vs xs) :
    Hs K F0 H0 (σ.set i (some (.ref p))) F' H' (ρ.set i (.m xs)) := by
  have E' := E.grow g
  have hown : ∀ (j : Nat) (zs : List Da), ρ[j]? = some (Sl.m zs) → σ[j]? ≠ some (some (V.ref p)) := fun j zs h z => by
    obtain ⟨o, a, q, ws, b, h0, h1, h2, _⟩ := E.at_ j _ h
    rw [a] at z
    have e1 : o = some (V.ref p) := Option.some.inj z
    rw [e1] at b
    have e2 : p = q := by
      have := Option.some.inj b
      injection this
    rw [← e2, hp] at h2
    cases h2
  refine ⟨E'.g, by rw [List.length_set, List.length_set]; exact E.len, fun j r' h => ?_, fun j k ys zs hjk h1 h2 => ?_⟩
  · rcases set_get h with ⟨rfl, rfl, hl⟩ | ⟨hne, h⟩
    · exact ⟨some (.ref p), by rw [List.getElem?_set_self (by rw [E.len]; exact hl)], p, vs, rfl, Same.back E.g.h hp, hf, hh, hd⟩
    · obtain ⟨o', a, b⟩ := E'.at_ j r' h
      exact ⟨o', by rw [List.getElem?_set_ne (fun z => hne z.symm)]; exact a, b⟩
  · rcases set_get h1 with ⟨e1, z1, l1⟩ | ⟨n1, h1⟩
    · rcases set_get h2 with ⟨e2, z2, _⟩ | ⟨n2, h2⟩
      · exact absurd (e1.trans e2.symm) hjk
      · rw [e1, List.getElem?_set_self (by rw [E.len]; exact l1), List.getElem?_set_ne (fun z => n2 z.symm)]
        exact fun z => hown k zs h2 z.symm
    · rcases set_get h2 with ⟨e2, z2, l2⟩ | ⟨n2, h2⟩
      · rw [e2, List.getElem?_set_self (by rw [E.len]; exact l2), List.getElem?_set_ne (fun z => n1 z.symm)]
        exact hown j ys h1
      · rw [List.getElem?_set_ne (fun z => n1 z.symm), List.getElem?_set_ne (fun z => n2 z.symm)]
        exact E.ne j k ys zs hjk h1 h2
/-- the own list in slot i changes -/
theorem Hs.chg (E : Hs K F0 H0 σ F H ρ) {i : Nat} {xs ys : List Da} {p : Addr} {vs ws : List V} (hi : ρ[i]? = some (.m xs)) (hp : σ[i]? = some (some (.ref p))) (hh : H p = some (.lst vs)) (hd : DqA K F ws ys) :
    Hs K F0 H0 σ F (upd H p (.lst ws)) (ρ.set i (.m ys)) := by
  obtain ⟨o, a, q, us, b, h0, hf, h2, _⟩ := E.at_ i _ hi
  have e2 : q = p := by
    rw [hp] at a
    have := Option.some.inj a
    rw [← this] at b
    have := Option.some.inj b
    injection this with z
    exact z.symm
  subst e2
  refine ⟨E.g.mut h0 hf, by rw [List.length_set]; exact E.len, fun j r' h => ?_, fun j k as bs hjk h1 h3 => ?_⟩
  · rcases set_get h with ⟨rfl, rfl, hl⟩ | ⟨hne, h⟩
    · exact ⟨_, hp, q, ws, rfl, h0, hf, upd_same, hd⟩
    · obtain ⟨o', a', b'⟩ := E.at_ j r' h
      refine ⟨o', a', ?_⟩
      cases r' with
      | un => trivial
      | d x => exact b'
      | l x => exact b'
      | m zs =>
        obtain ⟨p', vs', e', z0, zf, zh, zd⟩ := b'
        refine ⟨p', vs', e', z0, zf, ?_, zd⟩
        rw [upd_ne]
        · exact zh
        · intro z
          refine E.ne j i zs xs hne h hi ?_
          rw [a', e', z, hp]
  · have k1 : ∀ (j : Nat) (as : List Da), (ρ.set i (Sl.m ys))[j]? = some (Sl.m as) → ∃ as', ρ[j]? = some (Sl.m as') := fun j as h => by
      rcases set_get h with ⟨rfl, _, _⟩ | ⟨_, h⟩
      · exact ⟨xs, hi⟩
      · exact ⟨as, h⟩
    obtain ⟨a1, q1⟩ := k1 j as h1
    obtain ⟨b1, q2⟩ := k1 k bs h3
    exact E.ne j k a1 b1 hjk q1 q2
/-- less is known -/
theorem Hs.weak (E : Hs K F0 H0 σ F H ρ) {ρ' : Rho} (hl : ρ'.length = ρ.length) (h : ∀ (i : Nat) (r : Sl), ρ'[i]? = some r → r = .un ∨ ρ[i]? = some r) : Hs K F0 H0 σ F H ρ' := by
  refine ⟨E.g, by rw [hl]; exact E.len, fun i r hr => ?_, fun i j xs ys hij h1 h2 => ?_⟩
  · rcases h i r hr with rfl | hr'
    · have hi : i < ρ'.length := (List.getElem?_eq_some_iff.mp hr).1
      have hi' : i < σ.length := by rw [E.len, ← hl]; exact hi
      exact ⟨σ[i], List.getElem?_eq_getElem hi', trivial⟩
    · exact E.at_ i r hr'
  · rcases h i _ h1 with z | h1'
    · cases z
    · rcases h j _ h2 with z | h2'
      · cases z
      · exact E.ne i j xs ys hij h1' h2'
/-- the own list in slot i is frozen -/
theorem Hs.frz (E : Hs K F0 H0 σ F H ρ) {i : Nat} {xs : List Da} (hi : ρ[i]? = some (.m xs)) : ∃ p vs, σ[i]? = some (some (.ref p)) ∧ H p = some (.lst vs) ∧ F p = none ∧ H0 p = none ∧ DqA K F vs xs ∧
    Grow F0 H0 (upd F p (.lst vs)) H ∧ Hs K F0 H0 σ (upd F p (.lst vs)) H (ρ.set i (.l xs)) := by
  obtain ⟨o, a, p, vs, b, h0, hf, hh, hd⟩ := E.at_ i _ hi
  subst b
  have g := E.g.frz h0 hf hh
  have sf : Same F (upd F p (.lst vs)) := same_new hf
  refine ⟨p, vs, a, hh, hf, h0, hd, g, g, by rw [List.length_set]; exact E.len, fun j r h => ?_, fun j k as bs hjk h1 h2 => ?_⟩
  · rcases set_get h with ⟨rfl, rfl, hl⟩ | ⟨hne, h⟩
    · exact ⟨_, a, p, vs, rfl, upd_same, DqA.mono sf _ _ hd⟩
    · obtain ⟨o', a', b'⟩ := E.at_ j r h
      refine ⟨o', a', ?_⟩
      cases r with
      | un => trivial
      | d x =>
        obtain ⟨v, e, q⟩ := b'
        exact ⟨v, e, Dq.mono sf _ _ q⟩
      | l ys =>
        obtain ⟨q, ws, e, z, y⟩ := b'
        exact ⟨q, ws, e, sf _ _ z, DqA.mono sf _ _ y⟩
      | m zs =>
        obtain ⟨p', vs', e', z0, zf, zh, zd⟩ := b'
        refine ⟨p', vs', e', z0, ?_, zh, DqA.mono sf _ _ zd⟩
        rw [upd_ne]
        · exact zf
        · intro z
          refine E.ne j i zs xs hne h hi ?_
          rw [a', e', z, a]
  · rcases set_get h1 with ⟨_, z, _⟩ | ⟨_, h1⟩
    · cases z
    · rcases set_get h2 with ⟨_, z, _⟩ | ⟨_, h2⟩
      · cases z
      · exact E.ne j k as bs hjk h1 h2
theorem Hs.frzA (E : Hs K F0 H0 σ F H ρ) {i : Nat} {xs : List Da} (hi : ρ[i]? = some (.m xs)) : ∃ F', Same F F' ∧ Hs K F0 H0 σ F' H (ρ.set i (.l xs)) := by
  obtain ⟨p, vs, a, hh, hf, h0, hd, g, E'⟩ := E.frz hi
  exact ⟨_, same_new hf, E'⟩
end
end TR

/-! own layer: what a reading evaluates to, over the data of the slots -/
namespace TR
open PySem PySem.Spec PyProof.Rows L2

/-! ### == over data -/
mutual
def Da.py : Da → PyData
  | .non => .none
  | .bl b => .bool b
  | .int i => .int i
  | .str s => .str s
  | .lst xs => .list (Da.pys xs)
  | .tup xs => .tuple (Da.pys xs)
  | .emp => .dict []
  | .adr _ => .dict []
  | .ty _ => .dict []
def Da.pys : List Da → List PyData
  | [] => []
  | x :: xs => x.py :: Da.pys xs
end
theorem Da.pys_map : ∀ xs : List Da, Da.pys xs = xs.map Da.py
  | [] => by rw [Da.pys]; rfl
  | x :: xs => by rw [Da.pys, Da.pys_map xs]; rfl
/-- data of bounded depth that == may compare -/
def okD : Nat → Da → Prop
  | _, .non => True
  | _, .bl _ => True
  | _, .int _ => True
  | _, .str s => PyData.canLay0 (.str s) = true
  | 0, .lst _ => False
  | n + 1, .lst xs => ∀ x ∈ xs, okD n x
  | 0, .tup _ => False
  | n + 1, .tup xs => ∀ x ∈ xs, okD n x
  | _, .emp => False
  | _, .adr _ => False
  | _, .ty _ => False
theorem lay_all {xs : List PyData} : PyData.canLayAll0 xs = true ↔ ∀ x ∈ xs, x.canLay0 = true := by
  induction xs with
  | nil => simp [PyData.canLayAll0]
  | cons x xs ih => simp [PyData.canLayAll0, ih]
theorem depth_all {xs : List PyData} {n : Nat} (h : ∀ x ∈ xs, x.depth ≤ n) : PyData.depthAll xs ≤ n := by
  induction xs with
  | nil => simp [PyData.depthAll]
  | cons x xs ih =>
    have h1 := h x List.mem_cons_self
    have h2 := ih fun y hy => h y (List.mem_cons_of_mem _ hy)
    simp only [PyData.depthAll]
    omega
theorem okD_lay : ∀ (n : Nat) (d : Da), okD n d → d.py.canLay0 = true ∧ d.py.depth ≤ n + 1
  | n, .non, _ => ⟨by simp [Da.py, PyData.canLay0], by simp [Da.py, PyData.depth]⟩
  | n, .bl _, _ => ⟨by simp [Da.py, PyData.canLay0], by simp [Da.py, PyData.depth]⟩
  | n, .int _, _ => ⟨by simp [Da.py, PyData.canLay0], by simp [Da.py, PyData.depth]⟩
  | n, .str s, h => by
    have h' : PyData.canLay0 (.str s) = true := by cases n <;> exact h
    exact ⟨by simpa [Da.py] using h', by simp [Da.py, PyData.depth]⟩
  | 0, .lst _, h => h.elim
  | n + 1, .lst xs, h => by
    have h' : ∀ x ∈ xs, okD n x := h
    have k : ∀ y ∈ xs.map Da.py, y.canLay0 = true ∧ y.depth ≤ n + 1 := fun y hy => by
      obtain ⟨x, hx, e⟩ := List.mem_map.mp hy
      rw [← e]
      exact okD_lay n x (h' x hx)
    refine ⟨?_, ?_⟩
    · simp only [Da.py, Da.pys_map, PyData.canLay0]
      exact lay_all.mpr fun y hy => (k y hy).1
    · simp only [Da.py, Da.pys_map, PyData.depth]
      have := depth_all (n := n + 1) fun y hy => (k y hy).2
      omega
  | 0, .tup _, h => h.elim
  | n + 1, .tup xs, h => by
    have h' : ∀ x ∈ xs, okD n x := h
    have k : ∀ y ∈ xs.map Da.py, y.canLay0 = true ∧ y.depth ≤ n + 1 := fun y hy => by
      obtain ⟨x, hx, e⟩ := List.mem_map.mp hy
      rw [← e]
      exact okD_lay n x (h' x hx)
    refine ⟨?_, ?_⟩
    · simp only [Da.py, Da.pys_map, PyData.canLay0]
      exact lay_all.mpr fun y hy => (k y hy).1
    · simp only [Da.py, Da.pys_map, PyData.depth]
      have := depth_all (n := n + 1) fun y hy => (k y hy).2
      omega
  | n, .emp, h => by cases n <;> exact h.elim
  | n, .adr _, h => by cases n <;> exact h.elim
  | n, .ty _, h => by cases n <;> exact h.elim
theorem okD_shaped {n : Nat} {d : Da} (h : okD n d) (hn : n ≤ 60) : SeqAt.shaped d.py = true := by
  obtain ⟨h1, h2⟩ := okD_lay n d h
  unfold SeqAt.shaped
  rw [h1, decide_eq_true (by omega)]
  rfl
section
variable {K : PySem.W.Frag} {H : Hp}
theorem okD_dp : ∀ (n : Nat) (d : Da) (v : V), okD n d → Dq K H v d → Dp K H v d.py
  | n, .non, _, _, h => by
    cases h
    simp only [Da.py]
    exact .non
  | n, .bl _, _, _, h => by
    cases h
    simp only [Da.py]
    exact .bl _
  | n, .int _, _, _, h => by
    cases h
    simp only [Da.py]
    exact .int _
  | n, .str _, _, _, h => by
    cases h
    simp only [Da.py]
    exact .str _
  | 0, .lst _, _, h, _ => h.elim
  | n + 1, .lst xs, _, h, hq => by
    have h' : ∀ x ∈ xs, okD n x := h
    cases hq with
    | lst hs ha =>
      simp only [Da.py, Da.pys_map]
      refine .lst hs ?_
      have k : ∀ x v, x ∈ xs → Dq K H v x → Dp K H v x.py := fun x v hx hv => okD_dp n x v (h' x hx) hv
      clear h h' hs
      rename_i vs
      induction xs generalizing vs with
      | nil => cases ha; exact .nil
      | cons x xs ih =>
        cases ha with
        | cons a b => exact .cons (k x _ List.mem_cons_self a) (ih b fun y v hy hv => k y v (List.mem_cons_of_mem _ hy) hv)
  | 0, .tup _, _, h, _ => h.elim
  | n + 1, .tup xs, _, h, hq => by
    have h' : ∀ x ∈ xs, okD n x := h
    cases hq with
    | tup hs ha =>
      simp only [Da.py, Da.pys_map]
      refine .tup hs ?_
      have k : ∀ x v, x ∈ xs → Dq K H v x → Dp K H v x.py := fun x v hx hv => okD_dp n x v (h' x hx) hv
      clear h h' hs
      rename_i vs
      induction xs generalizing vs with
      | nil => cases ha; exact .nil
      | cons x xs ih =>
        cases ha with
        | cons a b => exact .cons (k x _ List.mem_cons_self a) (ih b fun y v hy hv => k y v (List.mem_cons_of_mem _ hy) hv)
  | n, .emp, _, h, _ => by cases n <;> exact h.elim
  | n, .adr _, _, h, _ => by cases n <;> exact h.elim
  | n, .ty _, _, h, _ => by cases n <;> exact h.elim
end
/-- == -/
def eqD (d e : Da) : Bool := PyData.eqv d.py e.py
/-- data without a truth value in it -/
def noB : Nat → Da → Prop
  | _, .non => True
  | _, .bl _ => False
  | _, .int _ => True
  | _, .str _ => True
  | 0, .lst _ => False
  | n + 1, .lst xs => ∀ x ∈ xs, noB n x
  | 0, .tup _ => False
  | n + 1, .tup xs => ∀ x ∈ xs, noB n x
  | _, .emp => False
  | _, .adr _ => False
  | _, .ty _ => False
theorem eqvAll_iff {xs ys : List PyData} (k : ∀ x ∈ xs, ∀ y ∈ ys, (PyData.eqv x y = true ↔ x = y)) : PyData.eqvAll xs ys = true ↔ xs = ys := by
  induction xs generalizing ys with
  | nil => cases ys <;> simp [PyData.eqvAll]
  | cons x xs ih =>
    cases ys with
    | nil => simp [PyData.eqvAll]
    | cons y ys =>
      simp only [PyData.eqvAll, Bool.and_eq_true, List.cons.injEq]
      rw [k x List.mem_cons_self y List.mem_cons_self, ih fun a ha b hb => k a (List.mem_cons_of_mem _ ha) b (List.mem_cons_of_mem _ hb)]
theorem eqv_self_list {xs : List PyData} (k : ∀ x ∈ xs, PyData.eqv x x = true) : PyData.eqvAll xs xs = true := by
  induction xs with
  | nil => simp [PyData.eqvAll]
  | cons x xs ih =>
    simp only [PyData.eqvAll, Bool.and_eq_true]
    exact ⟨k x List.mem_cons_self, ih fun y hy => k y (List.mem_cons_of_mem _ hy)⟩
theorem py_inj_all {xs ys : List Da} (k : ∀ x ∈ xs, ∀ y ∈ ys, x.py = y.py → x = y) (h : xs.map Da.py = ys.map Da.py) : xs = ys := by
  induction xs generalizing ys with
  | nil =>
    cases ys with
    | nil => rfl
    | cons y ys => cases h
  | cons x xs ih =>
    cases ys with
    | nil => cases h
    | cons y ys =>
      rw [List.map_cons, List.map_cons, List.cons.injEq] at h
      rw [k x List.mem_cons_self y List.mem_cons_self h.1, ih (fun a ha b hb => k a (List.mem_cons_of_mem _ ha) b (List.mem_cons_of_mem _ hb)) h.2]
theorem noB_py : ∀ (n : Nat) (d e : Da), noB n d → noB n e → d.py = e.py → d = e
  | n, d, e, hd, he, h => by
    induction n generalizing d e with
    | zero => cases d <;> cases e <;> simp only [noB, Da.py] at hd he h <;> first | rfl | (cases h; rfl) | cases h | exact hd.elim | exact he.elim
    | succ n ih =>
      cases d <;> cases e <;> simp only [noB, Da.py] at hd he h <;> first
        | rfl
        | (rename_i xs ys
           rw [Da.pys_map, Da.pys_map] at h
           injection h with h
           rw [py_inj_all (fun x hx y hy => ih x y (hd x hx) (he y hy)) h])
        | (cases h; rfl)
        | cases h
        | exact hd.elim
        | exact he.elim
theorem eqD_iff : ∀ (n : Nat) (d e : Da), noB n d → noB n e → (eqD d e = true ↔ d = e) := by
  have key : ∀ (n : Nat) (d e : Da), noB n d → noB n e → (PyData.eqv d.py e.py = true ↔ d.py = e.py) := by
    intro n
    induction n with
    | zero => intro d e hd he; cases d <;> cases e <;> simp only [noB] at hd he <;> simp [Da.py, PyData.eqv] <;> first | exact hd.elim | exact he.elim | skip
    | succ n ih =>
      intro d e hd he
      cases d <;> cases e <;> simp only [noB] at hd he <;> first
        | (rename_i xs ys
           simp only [Da.py, Da.pys_map, PyData.eqv, PyData.list.injEq, PyData.tuple.injEq]
           refine eqvAll_iff fun x hx y hy => ?_
           obtain ⟨a, ha, rfl⟩ := List.mem_map.mp hx
           obtain ⟨b, hb, rfl⟩ := List.mem_map.mp hy
           exact ih a b (hd a ha) (he b hb))
        | (simp [Da.py, PyData.eqv]; done)
        | exact hd.elim
        | exact he.elim
  intro n d e hd he
  unfold eqD
  rw [key n d e hd he]
  exact ⟨noB_py n d e hd he, fun h => by rw [h]⟩
end TR

/-! own layer: expressions over the data of the slots -/
namespace TR
open PySem PySem.Spec PyProof.Rows L2

section
variable (K : PySem.W.Frag)
/-- frozen data comes -/
def EvF (te : TE) (ρ : Rho) (x : Da) : Prop := ∀ F0 H0 σ F H, Hs K F0 H0 σ F H ρ → ∀ Q : VK, (∀ v F' H', Grow F H F' H' → Dq K F' v x → Q v H') → te σ H Q
/-- a new list comes -/
def EvN (te : TE) (ρ : Rho) (xs : List Da) : Prop := ∀ F0 H0 σ F H, Hs K F0 H0 σ F H ρ → ∀ Q : VK, (∀ p vs F' H', Grow F H F' H' → H p = none → F' p = none → H' p = some (.lst vs) → DqA K F' vs xs → Q (.ref p) H') → te σ H Q
/-- a list that stands in the heap -/
def EvP (te : TE) (ρ : Rho) (xs : List Da) : Prop := ∀ F0 H0 σ F H, Hs K F0 H0 σ F H ρ → ∀ Q : VK, (∀ p vs F' H', Grow F H F' H' → H' p = some (.lst vs) → DqA K F' vs xs → Q (.ref p) H') → te σ H Q
/-- a list that may be read now -/
def EvM (te : TE) (ρ : Rho) (xs : List Da) : Prop := ∀ F0 H0 σ F H, Hs K F0 H0 σ F H ρ → ∀ Q : VK, (∀ p vs F' H', Grow F H F' H' → SqL K H' p vs → DqA K F' vs xs → Q (.ref p) H') → te σ H Q
/-- data as it stands now -/
def EvD (te : TE) (ρ : Rho) (x : Da) : Prop := ∀ F0 H0 σ F H, Hs K F0 H0 σ F H ρ → ∀ Q : VK, (∀ v F' H', Grow F H F' H' → Dq K H' v x → Q v H') → te σ H Q
def EvA (ta : TA) (ρ : Rho) (xs : List Da) : Prop := ∀ F0 H0 σ F H, Hs K F0 H0 σ F H ρ → ∀ Q : List V → Hp → Prop, (∀ vs F' H', Grow F H F' H' → DqA K F' vs xs → Q vs H') → ta σ H Q
def EvT (tt : TT) (ρ : Rho) (b : Bool) : Prop := ∀ F0 H0 σ F H, Hs K F0 H0 σ F H ρ → ∀ Q : Bool → Hp → Prop, (∀ F' H', Grow F H F' H' → Q b H') → tt σ H Q
def EvO (to : TO) (ρ : Rho) (o : Option Int) : Prop := ∀ F0 H0 σ F H, Hs K F0 H0 σ F H ρ → ∀ Q : Option Int → Hp → Prop, (∀ F' H', Grow F H F' H' → Q o H') → to σ H Q
end
section
variable {K : PySem.W.Frag} {ρ : Rho} {te ta tb tx : TE} {tr : TA} {t u : TT} {x y z : Da} {xs ys zs : List Da} {i : Nat}
theorem EvN.f (h : EvN K te ρ xs) : EvF K te ρ (.lst xs) := fun F0 H0 σ F H E Q q => h F0 H0 σ F H E Q fun p vs F' H' g hp hf hh hd =>
  q (.ref p) (upd F' p (.lst vs)) H' (g.frz hp hf hh) (.lst (.inl (.inl upd_same)) (DqA.mono (same_new hf) _ _ hd))
theorem EvN.p (h : EvN K te ρ xs) : EvP K te ρ xs := fun F0 H0 σ F H E Q q => h F0 H0 σ F H E Q fun p vs F' H' g _ _ hh hd => q p vs F' H' g hh hd
theorem EvP.m (h : EvP K te ρ xs) : EvM K te ρ xs := fun F0 H0 σ F H E Q q => h F0 H0 σ F H E Q fun p vs F' H' g hh hd => q p vs F' H' g (.inl (.inl hh)) hd
theorem EvF.m (h : EvF K te ρ (.lst xs)) : EvM K te ρ xs := fun F0 H0 σ F H E Q q => h F0 H0 σ F H E Q fun v F' H' g hd => by
  cases hd with
  | lst hs ha => exact q _ _ F' H' g (g.s.seq hs) ha
theorem EvF.now (h : EvF K te ρ x) : EvD K te ρ x := fun F0 H0 σ F H E Q q => h F0 H0 σ F H E Q fun v F' H' g hd => q v F' H' g (Dq.mono g.s _ _ hd)
theorem EvM.now (h : EvM K te ρ xs) : EvD K te ρ (.lst xs) := fun F0 H0 σ F H E Q q => h F0 H0 σ F H E Q fun p vs F' H' g hs hd => q _ F' H' g (.lst hs (DqA.mono g.s _ _ hd))
theorem EvF.is (h : EvF K te ρ x) (e : x = y) : EvF K te ρ y := e ▸ h
theorem EvN.is (h : EvN K te ρ xs) (e : xs = ys) : EvN K te ρ ys := e ▸ h
theorem EvT.is {a b : Bool} (h : EvT K t ρ a) (e : a = b) : EvT K t ρ b := e ▸ h

/-! ### names, constants -/
theorem ef_var (h : ρ[i]? = some (.d x)) : EvF K (tVar i) ρ x := fun F0 H0 σ F H E Q q => by
  obtain ⟨o, a, v, e, hd⟩ := E.at_ i _ h
  subst e
  exact ⟨v, a, q v F H (Grow.refl E.s) hd⟩
theorem ef_varl (h : ρ[i]? = some (.l xs)) : EvF K (tVar i) ρ (.lst xs) := fun F0 H0 σ F H E Q q => by
  obtain ⟨o, a, p, vs, e, hf, hd⟩ := E.at_ i _ h
  subst e
  exact ⟨_, a, q _ F H (Grow.refl E.s) (.lst (.inl (.inl hf)) hd)⟩
theorem ep_varl (h : ρ[i]? = some (.l xs)) : EvP K (tVar i) ρ xs := fun F0 H0 σ F H E Q q => by
  obtain ⟨o, a, p, vs, e, hf, hd⟩ := E.at_ i _ h
  subst e
  exact ⟨_, a, q p vs F H (Grow.refl E.s) (E.s _ _ hf) hd⟩
theorem ep_varm (h : ρ[i]? = some (.m xs)) : EvP K (tVar i) ρ xs := fun F0 H0 σ F H E Q q => by
  obtain ⟨o, a, p, vs, e, h0, hf, hh, hd⟩ := E.at_ i _ h
  subst e
  exact ⟨_, a, q p vs F H (Grow.refl E.s) hh hd⟩
theorem ef_c {v : V} (h : ∀ F, Dq K F v x) : EvF K (tC v) ρ x := fun F0 H0 σ F H E Q q => q v F H (Grow.refl E.s) (h F)
theorem ef_int {n : Int} : EvF K (tC (.int n)) ρ (.int n) := ef_c fun _ => .int _
theorem ef_str {n : Str} : EvF K (tC (.str n)) ρ (.str n) := ef_c fun _ => .str _
theorem ef_bl {n : Bool} : EvF K (tC (.bl n)) ρ (.bl n) := ef_c fun _ => .bl _
theorem ef_non : EvF K (tC .non) ρ .non := ef_c fun _ => .non
theorem ef_ty {n : String} : EvF K (tC (.ty n)) ρ (.ty n) := ef_c fun _ => .ty _
theorem ef_adr {a : Addr} : EvF K (tC (.ref a)) ρ (.adr a) := ef_c fun _ => .adr _

/-! ### two in a row, by what the operation does with data -/
/-- data as it stands now on both sides -/
def RvD (K : PySem.W.Frag) (r : R2) (x y z : Da) : Prop := ∀ (v u : V) (H : Hp) (Q : VK), Dq K H v x → Dq K H u y → (∀ w, (∀ F, Dq K F w z) → Q w H) → r v u H Q
/-- frozen data on both sides -/
def RvF (K : PySem.W.Frag) (r : R2) (x y z : Da) : Prop := ∀ (v u : V) (F H : Hp) (Q : VK), Same F H → Dq K F v x → Dq K F u y → (∀ w F' H', Grow F H F' H' → Dq K F' w z → Q w H') → r v u H Q
/-- a list to be read, frozen data -/
def RvM (K : PySem.W.Frag) (r : R2) (xs : List Da) (y z : Da) : Prop := ∀ (p : Addr) (vs : List V) (u : V) (F H : Hp) (Q : VK), Same F H → SqL K H p vs → DqA K F vs xs → Dq K F u y → (∀ w, Dq K F w z → Q w H) → r (.ref p) u H Q
/-- two lists, a new one -/
def RvP (K : PySem.W.Frag) (r : R2) (xs ys zs : List Da) : Prop := ∀ (p q : Addr) (vs us : List V) (F H : Hp) (Q : VK), Same F H → H p = some (.lst vs) → H q = some (.lst us) → DqA K F vs xs → DqA K F us ys →
  (∀ b ws, H b = none → DqA K F ws zs → Q (.ref b) (upd H b (.lst ws))) → r (.ref p) (.ref q) H Q
/-- a list and an int, a new list -/
def RvR (K : PySem.W.Frag) (r : R2) (xs : List Da) (n : Int) (zs : List Da) : Prop := ∀ (p : Addr) (vs : List V) (F H : Hp) (Q : VK), Same F H → H p = some (.lst vs) → DqA K F vs xs →
  (∀ b ws, H b = none → DqA K F ws zs → Q (.ref b) (upd H b (.lst ws))) → r (.ref p) (.int n) H Q
section
variable {r r' : R2} {n : Int}
theorem RvD.ll (h : RvD K r x y z) : RvD K (fun x y H Q => r x y H Q ∨ r' x y H Q) x y z := fun v u H Q a b c => .inl (h v u H Q a b c)
theorem RvD.rr (h : RvD K r' x y z) : RvD K (fun x y H Q => r x y H Q ∨ r' x y H Q) x y z := fun v u H Q a b c => .inr (h v u H Q a b c)
theorem RvF.ll (h : RvF K r x y z) : RvF K (fun x y H Q => r x y H Q ∨ r' x y H Q) x y z := fun v u F H Q s a b c => .inl (h v u F H Q s a b c)
theorem RvF.rr (h : RvF K r' x y z) : RvF K (fun x y H Q => r x y H Q ∨ r' x y H Q) x y z := fun v u F H Q s a b c => .inr (h v u F H Q s a b c)
theorem RvM.ll (h : RvM K r xs y z) : RvM K (fun x y H Q => r x y H Q ∨ r' x y H Q) xs y z := fun p vs u F H Q s a b c d => .inl (h p vs u F H Q s a b c d)
theorem RvM.rr (h : RvM K r' xs y z) : RvM K (fun x y H Q => r x y H Q ∨ r' x y H Q) xs y z := fun p vs u F H Q s a b c d => .inr (h p vs u F H Q s a b c d)
theorem RvP.ll (h : RvP K r xs ys zs) : RvP K (fun x y H Q => r x y H Q ∨ r' x y H Q) xs ys zs := fun p q vs us F H Q s a b c d e => .inl (h p q vs us F H Q s a b c d e)
theorem RvP.rr (h : RvP K r' xs ys zs) : RvP K (fun x y H Q => r x y H Q ∨ r' x y H Q) xs ys zs := fun p q vs us F H Q s a b c d e => .inr (h p q vs us F H Q s a b c d e)
theorem RvR.ll (h : RvR K r xs n zs) : RvR K (fun x y H Q => r x y H Q ∨ r' x y H Q) xs n zs := fun p vs F H Q s a b c => .inl (h p vs F H Q s a b c)
theorem RvR.rr (h : RvR K r' xs n zs) : RvR K (fun x y H Q => r x y H Q ∨ r' x y H Q) xs n zs := fun p vs F H Q s a b c => .inr (h p vs F H Q s a b c)
/-- scalar data lie in no heap -/
theorem ef_binD (ha : EvD K ta ρ x) (hb : EvD K tb ρ y) (hr : RvD K r x y z) : EvF K (tOp r ta tb) ρ z :=
  fun F0 H0 σ F H E Q q => ha F0 H0 σ F H E _ fun v F1 H1 g1 hv => hb F0 H0 σ F1 H1 (E.grow g1) _ fun u F2 H2 g2 hu =>
    hr v u H2 Q (Dq.mono g2.h _ _ hv) hu fun w hw => q w F2 H2 (g1.trans g2) (hw F2)
theorem ef_binF (ha : EvF K ta ρ x) (hb : EvF K tb ρ y) (hr : RvF K r x y z) : EvF K (tOp r ta tb) ρ z :=
  fun F0 H0 σ F H E Q q => ha F0 H0 σ F H E _ fun v F1 H1 g1 hv => hb F0 H0 σ F1 H1 (E.grow g1) _ fun u F2 H2 g2 hu =>
    hr v u F2 H2 Q g2.s (Dq.mono g2.f _ _ hv) hu fun w F3 H3 g3 hw => q w F3 H3 ((g1.trans g2).trans g3) hw
theorem ef_binM (ha : EvM K ta ρ xs) (hb : EvF K tb ρ y) (hr : RvM K r xs y z) : EvF K (tOp r ta tb) ρ z :=
  fun F0 H0 σ F H E Q q => ha F0 H0 σ F H E _ fun p vs F1 H1 g1 hs hv => hb F0 H0 σ F1 H1 (E.grow g1) _ fun u F2 H2 g2 hu =>
    hr p vs u F2 H2 Q g2.s (g2.h.seq hs) (DqA.mono g2.f _ _ hv) hu fun w hw => q w F2 H2 (g1.trans g2) hw
theorem en_binP (ha : EvP K ta ρ xs) (hb : EvP K tb ρ ys) (hr : RvP K r xs ys zs) : EvN K (tOp r ta tb) ρ zs :=
  fun F0 H0 σ F H E Q k => ha F0 H0 σ F H E _ fun p vs F1 H1 g1 hp hv => hb F0 H0 σ F1 H1 (E.grow g1) _ fun q us F2 H2 g2 hq hu =>
    hr p q vs us F2 H2 Q g2.s (g2.h _ _ hp) hq (DqA.mono g2.f _ _ hv) hu fun b ws hb hw =>
      k b ws F2 _ ((g1.trans g2).trans (Grow.own g2.s hb)) (Same.back (g1.trans g2).h hb) (Same.back g2.s hb) upd_same hw
theorem en_binR (ha : EvP K ta ρ xs) (hb : EvF K tb ρ (.int n)) (hr : RvR K r xs n zs) : EvN K (tOp r ta tb) ρ zs :=
  fun F0 H0 σ F H E Q k => ha F0 H0 σ F H E _ fun p vs F1 H1 g1 hp hv => hb F0 H0 σ F1 H1 (E.grow g1) _ fun u F2 H2 g2 hu => by
    cases hu
    exact hr p vs F2 H2 Q g2.s (g2.h _ _ hp) (DqA.mono g2.f _ _ hv) fun b ws hb hw =>
      k b ws F2 _ ((g1.trans g2).trans (Grow.own g2.s hb)) (Same.back (g1.trans g2).h hb) (Same.back g2.s hb) upd_same hw

/-! the operations -/
theorem rv_int2 {f : Int → Int → Int} {a b : Int} : RvD K (rI0 fun i j => .int (f i j)) (.int a) (.int b) (.int (f a b)) := fun v u H Q hv hu q => by
  cases hv
  cases hu
  exact ⟨a, b, rfl, rfl, q _ fun _ => .int _⟩
theorem rv_cmp2 {f : Int → Int → Bool} {a b : Int} : RvD K (rI0 fun i j => .bl (f i j)) (.int a) (.int b) (.bl (f a b)) := fun v u H Q hv hu q => by
  cases hv
  cases hu
  exact ⟨a, b, rfl, rfl, q _ fun _ => .bl _⟩
theorem rv_intC {C : Int → Int → Prop} {f : Int → Int → Int} {a b : Int} (hc : C a b) : RvD K (rI C fun i j => .int (f i j)) (.int a) (.int b) (.int (f a b)) := fun v u H Q hv hu q => by
  cases hv
  cases hu
  exact ⟨a, b, rfl, rfl, hc, q _ fun _ => .int _⟩
theorem rv_eqI {a b : Int} : RvD K rEq (.int a) (.int b) (.bl (decide (a = b))) := fun v u H Q hv hu q => by
  cases hv
  cases hu
  have e : decide (V.int a = V.int b) = decide (a = b) := by simp
  exact ⟨rfl, by rw [e]; exact q _ fun _ => .bl _⟩
theorem rv_neI {a b : Int} : RvD K rNe (.int a) (.int b) (.bl (!decide (a = b))) := fun v u H Q hv hu q => by
  cases hv
  cases hu
  have e : decide (V.int a = V.int b) = decide (a = b) := by simp
  exact ⟨rfl, by rw [e]; exact q _ fun _ => .bl _⟩
theorem rv_eqS {a b : Str} : RvD K rEq (.str a) (.str b) (.bl (decide (a = b))) := fun v u H Q hv hu q => by
  cases hv
  cases hu
  have e : decide (V.str a = V.str b) = decide (a = b) := by simp
  exact ⟨rfl, by rw [e]; exact q _ fun _ => .bl _⟩
theorem rv_neS {a b : Str} : RvD K rNe (.str a) (.str b) (.bl (!decide (a = b))) := fun v u H Q hv hu q => by
  cases hv
  cases hu
  have e : decide (V.str a = V.str b) = decide (a = b) := by simp
  exact ⟨rfl, by rw [e]; exact q _ fun _ => .bl _⟩
theorem rv_eqB {a b : Bool} : RvD K rEq (.bl a) (.bl b) (.bl (decide (a = b))) := fun v u H Q hv hu q => by
  cases hv
  cases hu
  have e : decide (V.bl a = V.bl b) = decide (a = b) := by simp
  exact ⟨rfl, by rw [e]; exact q _ fun _ => .bl _⟩
theorem rv_neB {a b : Bool} : RvD K rNe (.bl a) (.bl b) (.bl (!decide (a = b))) := fun v u H Q hv hu q => by
  cases hv
  cases hu
  have e : decide (V.bl a = V.bl b) = decide (a = b) := by simp
  exact ⟨rfl, by rw [e]; exact q _ fun _ => .bl _⟩
theorem rv_eqD (n m : Nat) (hx : okD n x) (hy : okD m y) (hn : n ≤ 60) (hm : m ≤ 60) : RvD K (rEqD K) x y (.bl (eqD x y)) := fun v u H Q hv hu q =>
  ⟨_, _, okD_dp n _ _ hx hv, okD_dp m _ _ hy hu, okD_shaped hx hn, okD_shaped hy hm, q _ fun _ => .bl _⟩
theorem rv_neD (n m : Nat) (hx : okD n x) (hy : okD m y) (hn : n ≤ 60) (hm : m ≤ 60) : RvD K (rNeD K) x y (.bl (!eqD x y)) := fun v u H Q hv hu q =>
  ⟨_, _, okD_dp n _ _ hx hv, okD_dp m _ _ hy hu, okD_shaped hx hn, okD_shaped hy hm, q _ fun _ => .bl _⟩
theorem any_py (xs : List Da) (x : Da) : (Da.pys xs).any (fun z => PyData.eqv z x.py) = xs.any fun z => eqD z x := by
  rw [Da.pys_map, List.any_map]
  rfl
theorem rv_inD (n m : Nat) (hx : okD n x) (hy : okD m (.lst xs)) (hn : n ≤ 60) (hm : m ≤ 60) : RvD K (rInD K) x (.lst xs) (.bl (xs.any fun z => eqD z x)) := fun v u H Q hv hu q => by
  have h1 := okD_dp m _ _ hy hu
  have h2 := okD_shaped hy hm
  simp only [Da.py] at h1 h2
  refine ⟨_, _, okD_dp n _ _ hx hv, h1, okD_shaped hx hn, h2, ?_⟩
  rw [any_py]
  exact q _ fun _ => .bl _
theorem rv_niD (n m : Nat) (hx : okD n x) (hy : okD m (.lst xs)) (hn : n ≤ 60) (hm : m ≤ 60) : RvD K (rNotInD K) x (.lst xs) (.bl (!xs.any fun z => eqD z x)) := fun v u H Q hv hu q => by
  have h1 := okD_dp m _ _ hy hu
  have h2 := okD_shaped hy hm
  simp only [Da.py] at h1 h2
  refine ⟨_, _, okD_dp n _ _ hx hv, h1, okD_shaped hx hn, h2, ?_⟩
  rw [any_py]
  exact q _ fun _ => .bl _
theorem rm_ixL {a : Int} (h : atI xs a = some z) : RvM K (rIxL K) xs (.int a) z := fun p vs u F H Q s hs hv hu q => by
  cases hu
  obtain ⟨v, h1, h2⟩ := hv.atI h
  exact ⟨p, vs, a, v, rfl, rfl, hs, h1, q _ h2⟩
theorem rf_ixT {a : Int} (h : atI xs a = some z) : RvF K (rIxT K) (.tup xs) (.int a) z := fun v u F H Q s hv hu q => by
  cases hu
  cases hv with
  | tup hs ha =>
    obtain ⟨v, h1, h2⟩ := ha.atI h
    exact ⟨_, _, a, v, rfl, rfl, same_t s hs, h1, q _ F H (Grow.refl s) h2⟩
theorem rf_ixS {a : Int} {w : Str} {c : Nat} (hl : w.length ≤ sizeLine) (h : atI w.cps.toList a = some c) : RvF K rIxS (.str w) (.int a) (.str ⟨#[c]⟩) := fun v u F H Q s hv hu q => by
  cases hu
  cases hv
  exact ⟨w, a, c, rfl, rfl, hl, h, q _ F H (Grow.refl s) (.str _)⟩
theorem rm_ix {a : Int} (h : atI xs a = some z) : RvM K (rIx K) xs (.int a) z := fun p vs u F H Q s hs hv hu q => .inl (rm_ixL h p vs u F H Q s hs hv hu q)
theorem rf_ix {a : Int} (h : atI xs a = some z) : RvF K (rIx K) (.tup xs) (.int a) z := fun v u F H Q s hv hu q => .inr (.inl (rf_ixT h v u F H Q s hv hu q))
theorem rf_ixs {a : Int} {w : Str} {c : Nat} (hl : w.length ≤ sizeLine) (h : atI w.cps.toList a = some c) : RvF K (rIx K) (.str w) (.int a) (.str ⟨#[c]⟩) := fun v u F H Q s hv hu q => .inr (.inr (rf_ixS hl h v u F H Q s hv hu q))
theorem rp_cat (h : xs.length + ys.length ≤ 1000000) : RvP K rCat xs ys (xs ++ ys) := fun p q vs us F H Q s hp hq hv hu k =>
  ⟨p, q, vs, us, rfl, rfl, hp, hq, by rw [hv.len, hu.len]; exact Nat.le_trans h (by decide), fun b hb => k b _ hb (hv.app hu)⟩
theorem rr_rep (h : xs.length * n.toNat ≤ 1000000) (h0 : -1000000 ≤ n) (h1 : n ≤ 1000000) : RvR K rRep xs n (List.replicate n.toNat xs).flatten := fun p vs F H Q s hp hv k =>
  ⟨p, n, vs, rfl, rfl, hp, by omega, by omega, by rw [hv.len]; exact Nat.le_trans h (by decide), fun b hb => k b _ hb (hv.rep n.toNat)⟩
end
/-! ### one -/
theorem ef_neg {a : Int} (ha : EvF K ta ρ (.int a)) : EvF K (tUn (rU fun i => .int (-i)) ta) ρ (.int (-a)) := fun F0 H0 σ F H E Q q => ha F0 H0 σ F H E _ fun v F1 H1 g1 hv => by
  cases hv
  exact ⟨a, rfl, q _ F1 H1 g1 (.int _)⟩
/-! ### argument lists, displays -/
theorem ea_nil : EvA K tNil ρ [] := fun F0 H0 σ F H E Q q => q [] F H (Grow.refl E.s) .nil
theorem ea_cons (h : EvF K te ρ x) (hr : EvA K tr ρ xs) : EvA K (tCons te tr) ρ (x :: xs) := fun F0 H0 σ F H E Q q =>
  h F0 H0 σ F H E _ fun v F1 H1 g1 hv => hr F0 H0 σ F1 H1 (E.grow g1) _ fun vs F2 H2 g2 hvs => q (v :: vs) F2 H2 (g1.trans g2) (.cons (Dq.mono g2.f _ _ hv) hvs)
theorem ef_tup (h : EvA K tr ρ xs) (hl : xs.length ≤ 1000000) : EvF K (tTup tr) ρ (.tup xs) := fun F0 H0 σ F H E Q q => h F0 H0 σ F H E _ fun vs F1 H1 g1 hv =>
  ⟨by rw [hv.len]; exact Nat.le_trans hl (by decide), fun p hp => q _ (upd F1 p (.tup vs)) _ (g1.trans (Grow.new g1.s hp)) (.tup (.inl (.inl upd_same)) (DqA.mono (same_new (Same.back g1.s hp)) _ _ hv))⟩
theorem en_lst (h : EvA K tr ρ xs) (hl : xs.length ≤ 1000000) : EvN K (tLst tr) ρ xs := fun F0 H0 σ F H E Q q => h F0 H0 σ F H E _ fun vs F1 H1 g1 hv =>
  ⟨by rw [hv.len]; exact Nat.le_trans hl (by decide), fun p hp => q p vs F1 _ (g1.trans (Grow.own g1.s hp)) (Same.back g1.h hp) (Same.back g1.s hp) upd_same hv⟩
/-! ### truth -/
theorem et_val {b : Bool} (h : EvF K te ρ (.bl b)) : EvT K (tB te) ρ b := fun F0 H0 σ F H E Q q => h F0 H0 σ F H E _ fun v F1 H1 g1 hv => by
  cases hv
  exact ⟨b, rfl, q F1 H1 g1⟩
theorem et_test {b : Bool} (h : EvF K te ρ (.bl b)) : EvT K (tTest te) ρ b := fun F0 H0 σ F H E Q q => h F0 H0 σ F H E _ fun v F1 H1 g1 hv => by
  cases hv
  exact ⟨b, rfl, q F1 H1 g1⟩
theorem et_and {a b : Bool} (h1 : EvT K t ρ a) (h2 : a = true → EvT K u ρ b) : EvT K (tAnd t u) ρ (a && b) := fun F0 H0 σ F H E Q q => h1 F0 H0 σ F H E _ fun F1 H1 g1 => by
  cases a with
  | true => exact h2 rfl F0 H0 σ F1 H1 (E.grow g1) Q fun F2 H2 g2 => q F2 H2 (g1.trans g2)
  | false => exact q F1 H1 g1
theorem et_or {a b : Bool} (h1 : EvT K t ρ a) (h2 : a = false → EvT K u ρ b) : EvT K (tOr t u) ρ (a || b) := fun F0 H0 σ F H E Q q => h1 F0 H0 σ F H E _ fun F1 H1 g1 => by
  cases a with
  | true => exact q F1 H1 g1
  | false => exact h2 rfl F0 H0 σ F1 H1 (E.grow g1) Q fun F2 H2 g2 => q F2 H2 (g1.trans g2)
theorem et_not {a : Bool} (h1 : EvT K t ρ a) : EvT K (tNot t) ρ (!a) := fun F0 H0 σ F H E Q q => h1 F0 H0 σ F H E _ fun F1 H1 g1 => q F1 H1 g1
theorem et_yes : EvT K tYes ρ true := fun F0 H0 σ F H E Q q => q F H (Grow.refl E.s)
theorem ef_andV {a b : Bool} (h1 : EvF K ta ρ (.bl a)) (h2 : a = true → EvF K tb ρ (.bl b)) : EvF K (tAndV ta tb) ρ (.bl (a && b)) := fun F0 H0 σ F H E Q q => h1 F0 H0 σ F H E _ fun v F1 H1 g1 hv => by
  cases hv
  refine ⟨a, rfl, ?_⟩
  cases a with
  | true => exact h2 rfl F0 H0 σ F1 H1 (E.grow g1) Q fun w F2 H2 g2 hw => q w F2 H2 (g1.trans g2) hw
  | false => exact q _ F1 H1 g1 (.bl _)
theorem ef_orV {a b : Bool} (h1 : EvF K ta ρ (.bl a)) (h2 : a = false → EvF K tb ρ (.bl b)) : EvF K (tOrV ta tb) ρ (.bl (a || b)) := fun F0 H0 σ F H E Q q => h1 F0 H0 σ F H E _ fun v F1 H1 g1 hv => by
  cases hv
  refine ⟨a, rfl, ?_⟩
  cases a with
  | true => exact q _ F1 H1 g1 (.bl _)
  | false => exact h2 rfl F0 H0 σ F1 H1 (E.grow g1) Q fun w F2 H2 g2 hw => q w F2 H2 (g1.trans g2) hw
theorem ef_notV {a : Bool} (h1 : EvF K ta ρ (.bl a)) : EvF K (tNotV ta) ρ (.bl (!a)) := fun F0 H0 σ F H E Q q => h1 F0 H0 σ F H E _ fun v F1 H1 g1 hv => by
  cases hv
  exact ⟨a, rfl, q _ F1 H1 g1 (.bl _)⟩
theorem ef_if {b : Bool} (h : EvT K t ρ b) (h1 : b = true → EvF K ta ρ x) (h2 : b = false → EvF K tb ρ x) : EvF K (tIf t ta tb) ρ x := fun F0 H0 σ F H E Q q => h F0 H0 σ F H E _ fun F1 H1 g1 => by
  cases b with
  | true => exact h1 rfl F0 H0 σ F1 H1 (E.grow g1) Q fun w F2 H2 g2 hw => q w F2 H2 (g1.trans g2) hw
  | false => exact h2 rfl F0 H0 σ F1 H1 (E.grow g1) Q fun w F2 H2 g2 hw => q w F2 H2 (g1.trans g2) hw
theorem ef_ifb {b : Bool} (h : EvT K t ρ b) (h1 : b = true → EvF K ta ρ x) (h2 : b = false → EvF K tb ρ y) : EvF K (tIf t ta tb) ρ (if b = true then x else y) := ef_if h (fun e => by rw [if_pos e]; exact h1 e) (fun e => by rw [if_neg (by rw [e]; exact Bool.false_ne_true)]; exact h2 e)
theorem en_if {b : Bool} (h : EvT K t ρ b) (h1 : b = true → EvN K ta ρ xs) (h2 : b = false → EvN K tb ρ xs) : EvN K (tIf t ta tb) ρ xs := fun F0 H0 σ F H E Q q => h F0 H0 σ F H E _ fun F1 H1 g1 => by
  cases b with
  | true => exact h1 rfl F0 H0 σ F1 H1 (E.grow g1) Q fun p vs F2 H2 g2 hp hf hh hd => q p vs F2 H2 (g1.trans g2) (Same.back g1.h hp) hf hh hd
  | false => exact h2 rfl F0 H0 σ F1 H1 (E.grow g1) Q fun p vs F2 H2 g2 hp hf hh hd => q p vs F2 H2 (g1.trans g2) (Same.back g1.h hp) hf hh hd
/-- a < b < c -/
theorem ef_chain {r r' : R2} {a b : Bool} (ha : EvF K ta ρ x) (hb : EvF K tb ρ y) (hr : RvD K r x y (.bl a)) (hc : a = true → EvF K tx ρ z) (hr' : a = true → RvD K r' y z (.bl b)) : EvF K (tChain r r' ta tb tx) ρ (.bl (a && b)) :=
  fun F0 H0 σ F H E Q q => ha F0 H0 σ F H E _ fun v F1 H1 g1 hv => hb F0 H0 σ F1 H1 (E.grow g1) _ fun u F2 H2 g2 hu =>
    hr v u H2 _ (Dq.mono g2.s _ _ (Dq.mono g2.f _ _ hv)) (Dq.mono g2.s _ _ hu) fun w hw => by
      have hw' := hw F2
      cases hw'
      refine ⟨a, rfl, ?_⟩
      cases a with
      | true =>
        exact hc rfl F0 H0 σ F2 H2 ((E.grow g1).grow g2) _ fun s F3 H3 g3 hs => hr' rfl u s H3 _ (Dq.mono g3.s _ _ (Dq.mono g3.f _ _ hu)) (Dq.mono g3.s _ _ hs) fun w' hw' => q _ F3 H3 ((g1.trans g2).trans g3) (hw' F3)
      | false => exact q _ F2 H2 (g1.trans g2) (.bl _)
/-! ### slices -/
theorem eo_none : EvO K tNoPart ρ none := fun F0 H0 σ F H E Q q => q F H (Grow.refl E.s)
theorem eo_some {n : Int} (h : EvF K te ρ (.int n)) : EvO K (tPart te) ρ (some n) := fun F0 H0 σ F H E Q q => h F0 H0 σ F H E _ fun v F1 H1 g1 hv => by
  cases hv
  exact ⟨n, rfl, q F1 H1 g1⟩
def cutD {α : Type} (xs : List α) (lo hi : Option Int) : List α := (xs.drop (HT.sIx xs.length 0 lo)).take (HT.sIx xs.length xs.length hi - HT.sIx xs.length 0 lo)
theorem en_sl {tl th : TO} {lo hi : Option Int} (h : EvM K te ρ xs) (hl : EvO K tl ρ lo) (hh : EvO K th ρ hi) : EvN K (tSl (rSlL K) te tl th) ρ (cutD xs lo hi) := fun F0 H0 σ F H E Q q =>
  h F0 H0 σ F H E _ fun p vs F1 H1 g1 hs hv => hl F0 H0 σ F1 H1 (E.grow g1) _ fun F2 H2 g2 => hh F0 H0 σ F2 H2 ((E.grow g1).grow g2) _ fun F3 H3 g3 =>
    ⟨p, vs, rfl, g3.h.seq (g2.h.seq hs), fun b hb => q b _ F3 _ (((g1.trans g2).trans g3).trans (Grow.own g3.s hb)) (Same.back ((g1.trans g2).trans g3).h hb) (Same.back g3.s hb) upd_same (by
      have e := hv.len
      unfold cutV cutD
      rw [e]
      exact ((DqA.mono g3.f _ _ (DqA.mono g2.f _ _ hv)).drop _).take _)⟩
theorem en_rev (h : EvM K te ρ xs) : EvN K (tRevL K te) ρ xs.reverse := fun F0 H0 σ F H E Q q =>
  h F0 H0 σ F H E _ fun p vs F1 H1 g1 hs hv => ⟨p, vs, rfl, hs, fun b hb => q b _ F1 _ (g1.trans (Grow.own g1.s hb)) (Same.back g1.h hb) (Same.back g1.s hb) upd_same hv.rev⟩
theorem ef_slS {tl th : TO} {lo hi : Option Int} {w : Str} (h : EvF K te ρ (.str w)) (hl : EvO K tl ρ lo) (hh : EvO K th ρ hi) (hw : w.length ≤ sizeLine) : EvF K (tSl rSlS te tl th) ρ (.str (cutS w lo hi)) := fun F0 H0 σ F H E Q q =>
  h F0 H0 σ F H E _ fun v F1 H1 g1 hv => hl F0 H0 σ F1 H1 (E.grow g1) _ fun F2 H2 g2 => hh F0 H0 σ F2 H2 ((E.grow g1).grow g2) _ fun F3 H3 g3 => by
    cases hv
    exact ⟨w, rfl, hw, q _ F3 H3 ((g1.trans g2).trans g3) (.str _)⟩
/-! ### scalar results leave the own lists as they are -/
def Scal : Da → Prop
  | .non => True
  | .bl _ => True
  | .int _ => True
  | .str _ => True
  | _ => False
theorem Scal.any {F F' : Hp} {v : V} (s : Scal x) (h : Dq K F v x) : Dq K F' v x := by
  cases x with
  | non => cases h; exact .non
  | bl b => cases h; exact .bl b
  | int n => cases h; exact .int n
  | str w => cases h; exact .str w
  | _ => exact s.elim
/-- for a scalar an own list may be taken as frozen -/
theorem ef_tmp {x : Da} (hi : ρ[i]? = some (.m xs)) (s : Scal x) (h : EvF K te (ρ.set i (.l xs)) x) : EvF K te ρ x := fun F0 H0 σ F H E Q q => by
  obtain ⟨F', sf, E'⟩ := E.frzA hi
  refine h F0 H0 σ F' H E' Q fun v F2 H2 g hv => ?_
  refine q v F H2 ⟨Same.refl F, g.h, fun b o e => g.s _ _ (g.f _ _ (sf _ _ e)), fun _ z _ => z⟩ (s.any hv)
theorem et_tmp {b : Bool} (hi : ρ[i]? = some (.m xs)) (h : EvT K t (ρ.set i (.l xs)) b) : EvT K t ρ b := fun F0 H0 σ F H E Q q => by
  obtain ⟨F', sf, E'⟩ := E.frzA hi
  refine h F0 H0 σ F' H E' Q fun F2 H2 g => ?_
  exact q F H2 ⟨Same.refl F, g.h, fun b o e => g.s _ _ (g.f _ _ (sf _ _ e)), fun _ z _ => z⟩
end
end TR

/-! own layer: calls, statements over the data of the slots -/
namespace TR
open PySem PySem.Spec PyProof.Rows L2

/-! ### how a def ends -/
inductive Out where
  | f (x : Da)
  | n (xs : List Da)
  | e (C : Addr)
def Give (K : PySem.W.Frag) (F H : Hp) : Out → VK → XK → Prop
  | .f x, Q, _ => ∀ v F' H', Grow F H F' H' → Dq K F' v x → Q v H'
  | .n xs, Q, _ => ∀ p vs F' H', Grow F H F' H' → H p = none → F' p = none → H' p = some (.lst vs) → DqA K F' vs xs → Q (.ref p) H'
  | .e C, _, E => ∀ H', Same H H' → E (.ref C) none H'
/-- the promise: from data to an end -/
def spD (K : PySem.W.Frag) (Gr : List Da → Out → Prop) : Sp := fun vs H Q E => ∃ F ds r, Same F H ∧ DqA K F vs ds ∧ Gr ds r ∧ Give K F H r Q E
structure Cal (P : Program) (w : World) (K : PySem.W.Frag) (mg : Str → Option Value) (base : Heap) (k : Nat) (x : Str) (ps : List Str) (Gr : List Da → Out → Prop) : Prop where
  ex : ∃ f fd, FnOk P w K mg base (L2N.CX P w) k f fd ps (spD K Gr) ∧ mg x = some (.ref f) ∧ PySem.W.keepIn K (.ref f) = true ∧ Binds K fd ps []
theorem Cal.imp {P : Program} {w : World} {K : PySem.W.Frag} {mg : Str → Option Value} {base : Heap} {k : Nat} {x : Str} {ps : List Str} {Gr Gr' : List Da → Out → Prop} (C : Cal P w K mg base k x ps Gr) (h : ∀ ds r, Gr' ds r → Gr ds r) : Cal P w K mg base k x ps Gr' := by
  obtain ⟨f, fd, F, a, b, c⟩ := C.ex
  exact ⟨f, fd, F.imp fun vs H Q E ⟨F1, ds, r, a, b, c, d⟩ => ⟨F1, ds, r, a, b, h _ _ c, d⟩, a, b, c⟩
/-- what a call lets out is taken -/
abbrev Lets (X : Cx) (E : XK) : Prop := Passes (L2N.CX X.prog X.w) X E
section
variable {X : Cx} {k : Nat} {x : Str} {ps : List Str} {Gr : List Da → Out → Prop} {E : XK} {p pos : Pos} {e : Expr} {es : List Expr} {t : TA}
theorem pe_cal {P : Program} {w : World} {K : PySem.W.Frag} {mg : Str → Option Value} {base : Heap} (C : Cal P w K mg base k x ps Gr) (hX : X.prog = P ∧ X.w = w ∧ X.K = K ∧ X.mg = mg ∧ X.base = base) (hr : Room k X.A) (hg : Gl X x) (hx : Lets X E) (ha : PA X (e :: es) t) (hdb : (x == ("__debug__" : Str)) = false := by decide)
    (he : starEach (e :: es) X.env = (false, eval e X.env) :: starEach es X.env := by rfl) (hpl : (backTo pos (starEach es X.env)).any (·.1) = false := by rfl) : PE X (.Call (.Name x p) (e :: es) [] pos) (tCall (spD K Gr) [] E t) := by
  obtain ⟨rfl, rfl, rfl, rfl, rfl⟩ := hX
  obtain ⟨f, fd, F, hm, hk, hb⟩ := C.ex
  exact pe_call F hr hg hm hk hb .nil hx ha hdb he hpl
end
section
variable {K : PySem.W.Frag} {ρ : Rho} {te ta tb tx : TE} {tr : TA} {t u : TT} {x y z : Da} {xs ys zs ds : List Da} {i : Nat} {E : XK} {Gr : List Da → Out → Prop}
/-- an exception comes -/
def EvX (K : PySem.W.Frag) (E : XK) (te : TE) (ρ : Rho) (C : Addr) : Prop := ∀ F0 H0 σ F H, Hs K F0 H0 σ F H ρ → (∀ H', Same H H' → E (.ref C) none H') → ∀ Q : VK, te σ H Q
theorem ef_call (ha : EvA K tr ρ ds) (hG : Gr ds (.f z)) : EvF K (tCall (spD K Gr) [] E tr) ρ z := fun F0 H0 σ F H E' Q q => ha F0 H0 σ F H E' _ fun vs F1 H1 g1 hv =>
  ⟨F1, ds, .f z, g1.s, by rw [List.append_nil]; exact hv, hG, fun v F2 H2 g2 hd => q v F2 H2 (g1.trans g2) hd⟩
theorem en_call (ha : EvA K tr ρ ds) (hG : Gr ds (.n zs)) : EvN K (tCall (spD K Gr) [] E tr) ρ zs := fun F0 H0 σ F H E' Q q => ha F0 H0 σ F H E' _ fun vs F1 H1 g1 hv =>
  ⟨F1, ds, .n zs, g1.s, by rw [List.append_nil]; exact hv, hG, fun p us F2 H2 g2 hp hf hh hd => q p us F2 H2 (g1.trans g2) (Same.back g1.h hp) hf hh hd⟩
theorem ex_call {C : Addr} (ha : EvA K tr ρ ds) (hG : Gr ds (.e C)) : EvX K E (tCall (spD K Gr) [] E tr) ρ C := fun F0 H0 σ F H E' hE Q => ha F0 H0 σ F H E' _ fun vs F1 H1 g1 hv =>
  ⟨F1, ds, .e C, g1.s, by rw [List.append_nil]; exact hv, hG, fun H' s => hE H' (g1.h.trans s)⟩

/-! ### built-ins -/
theorem ef_lenM (h : EvM K te ρ xs) : EvF K (tCB (fun xs H Q => ∃ x n, xs = [x] ∧ LenV K x H n ∧ Q (.int n) H) (tCons te tNil)) ρ (.int xs.length) := fun F0 H0 σ F H E Q q => h F0 H0 σ F H E _ fun p vs F1 H1 g1 hs hd =>
  ⟨.ref p, xs.length, rfl, .inl ⟨vs, hs, hd.len.symm⟩, q _ F1 H1 g1 (.int _)⟩
theorem ef_lenT (h : EvF K te ρ (.tup xs)) : EvF K (tCB (fun xs H Q => ∃ x n, xs = [x] ∧ LenV K x H n ∧ Q (.int n) H) (tCons te tNil)) ρ (.int xs.length) := fun F0 H0 σ F H E Q q => h F0 H0 σ F H E _ fun v F1 H1 g1 hd => by
  cases hd with
  | tup hs ha => exact ⟨_, xs.length, rfl, .inr ⟨_, same_t g1.s hs, ha.len.symm⟩, q _ F1 H1 g1 (.int _)⟩
theorem ef_lenS {w : Str} (h : EvF K te ρ (.str w)) (hw : w.length ≤ sizeLine) : EvF K (tCB (fun xs H Q => ∃ x n, xs = [x] ∧ LenV K x H n ∧ Q (.int n) H) (tCons te tNil)) ρ (.int w.length) := fun F0 H0 σ F H E Q q => h F0 H0 σ F H E _ fun v F1 H1 g1 hd => by
  cases hd
  exact ⟨_, w.length, rfl, ⟨hw, rfl⟩, q _ F1 H1 g1 (.int _)⟩
theorem ef_abs {a : Int} (h : EvF K te ρ (.int a)) : EvF K (tCB (fun xs H Q => ∃ i, xs = [.int i] ∧ Q (.int (if i < 0 then -i else i)) H) (tCons te tNil)) ρ (.int (if a < 0 then -a else a)) := fun F0 H0 σ F H E Q q => h F0 H0 σ F H E _ fun v F1 H1 g1 hd => by
  cases hd
  exact ⟨a, rfl, q _ F1 H1 g1 (.int _)⟩
theorem ef_max {a b : Int} (h : EvA K tr ρ [.int a, .int b]) : EvF K (tCB (fun xs H Q => ∃ i j, xs = [.int i, .int j] ∧ Q (.int (if j > i then j else i)) H) tr) ρ (.int (if b > a then b else a)) := fun F0 H0 σ F H E Q q => h F0 H0 σ F H E _ fun v F1 H1 g1 hd => by
  cases hd with
  | cons h1 h2 => cases h2 with
    | cons h2 h3 =>
      cases h1
      cases h2
      cases h3
      exact ⟨a, b, rfl, q _ F1 H1 g1 (.int _)⟩
theorem ef_min {a b : Int} (h : EvA K tr ρ [.int a, .int b]) : EvF K (tCB (fun xs H Q => ∃ i j, xs = [.int i, .int j] ∧ Q (.int (if j < i then j else i)) H) tr) ρ (.int (if b < a then b else a)) := fun F0 H0 σ F H E Q q => h F0 H0 σ F H E _ fun v F1 H1 g1 hd => by
  cases hd with
  | cons h1 h2 => cases h2 with
    | cons h2 h3 =>
      cases h1
      cases h2
      cases h3
      exact ⟨a, b, rfl, q _ F1 H1 g1 (.int _)⟩
theorem en_list (h : EvM K te ρ xs) : EvN K (tCB (fun xs H Q => ∃ p ys, xs = [.ref p] ∧ (SqL K H p ys ∨ SqT K H p ys) ∧ ∀ l, H l = none → Q (.ref l) (upd H l (.lst ys))) (tCons te tNil)) ρ xs := fun F0 H0 σ F H E Q q => h F0 H0 σ F H E _ fun p vs F1 H1 g1 hs hd =>
  ⟨p, vs, rfl, .inl hs, fun b hb => q b vs F1 _ (g1.trans (Grow.own g1.s hb)) (Same.back g1.h hb) (Same.back g1.s hb) upd_same hd⟩
theorem dqa_bl {F : Hp} {vs : List V} : ∀ {bs : List Bool}, DqA K F vs (bs.map Da.bl) → vs = bs.map V.bl := by
  intro bs
  induction bs generalizing vs with
  | nil => intro h; cases h; rfl
  | cons b bs ih =>
    intro h
    cases h with
    | cons a c =>
      cases a
      rw [ih c]
      rfl
theorem dqa_int {F : Hp} {vs : List V} : ∀ {bs : List Int}, DqA K F vs (bs.map Da.int) → vs = bs.map V.int := by
  intro bs
  induction bs generalizing vs with
  | nil => intro h; cases h; rfl
  | cons b bs ih =>
    intro h
    cases h with
    | cons a c =>
      cases a
      rw [ih c]
      rfl
theorem dqa_str {F : Hp} {vs : List V} : ∀ {bs : List Str}, DqA K F vs (bs.map Da.str) → vs = bs.map V.str := by
  intro bs
  induction bs generalizing vs with
  | nil => intro h; cases h; rfl
  | cons b bs ih =>
    intro h
    cases h with
    | cons a c =>
      cases a
      rw [ih c]
      rfl
theorem ints_dqa (F : Hp) : ∀ bs : List Int, DqA K F (bs.map V.int) (bs.map Da.int)
  | [] => .nil
  | b :: bs => .cons (.int b) (ints_dqa F bs)
theorem ef_all {bs : List Bool} (h : EvM K te ρ (bs.map Da.bl)) : EvF K (tCB (rAll K) (tCons te tNil)) ρ (.bl (bs.all id)) := fun F0 H0 σ F H E Q q => h F0 H0 σ F H E _ fun p vs F1 H1 g1 hs hd => by
  have e := dqa_bl hd
  subst e
  exact ⟨p, bs, rfl, hs, q _ F1 H1 g1 (.bl _)⟩
theorem ef_any {bs : List Bool} (h : EvM K te ρ (bs.map Da.bl)) : EvF K (tCB (rAny K) (tCons te tNil)) ρ (.bl (bs.any id)) := fun F0 H0 σ F H E Q q => h F0 H0 σ F H E _ fun p vs F1 H1 g1 hs hd => by
  have e := dqa_bl hd
  subst e
  exact ⟨p, bs, rfl, hs, q _ F1 H1 g1 (.bl _)⟩
/-- the built-in class of a datum -/
def tyN : Da → String
  | .non => "NoneType"
  | .bl _ => "bool"
  | .int _ => "int"
  | .str _ => "str"
  | .lst _ => "list"
  | .tup _ => "tuple"
  | .emp => "dict"
  | .adr _ => ""
  | .ty _ => ""
def hasTy : Da → Prop
  | .adr _ => False
  | .ty _ => False
  | _ => True
theorem dq_ty {H : Hp} {v : V} (h : Dq K H v x) (ht : hasTy x) : TyX K H v (.type (tyN x)) := by
  cases x with
  | non => cases h; exact .base .non
  | bl b => cases h; exact .base (.bl b)
  | int n => cases h; exact .base (.int n)
  | str s => cases h; exact .base (.str s)
  | lst xs =>
    cases h with
    | lst hs _ =>
      rcases hs with (hs | ⟨o, hs⟩) | ⟨o, its, n, h1, h2, _⟩
      · exact .base (.lst hs)
      · exact .base (.frz hs)
      · exact .kList h1 h2
  | tup xs =>
    cases h with
    | tup hs _ =>
      rcases hs with (hs | ⟨o, hs⟩) | ⟨o, its, n, h1, h2, _⟩
      · exact .base (.tup hs)
      · exact .fTuple hs
      · exact .kTuple h1 h2
  | emp =>
    cases h with
    | emp hs => exact .base (.dK hs)
  | adr a => exact ht.elim
  | ty n => exact ht.elim
theorem ef_isi {T : String} {b : Bool} (h : EvD K te ρ x) (hT : EvF K tx ρ (.ty T)) (ht : hasTy x) (hb : kitB (tyN x) T = some b) : EvF K (tCB (rIsi K) (tCons te (tCons tx tNil))) ρ (.bl b) := fun F0 H0 σ F H E Q q =>
  h F0 H0 σ F H E _ fun v F1 H1 g1 hd => hT F0 H0 σ F1 H1 (E.grow g1) _ fun u F2 H2 g2 hu => by
    cases hu
    exact ⟨v, .ty T, .type (tyN x), .type T, b, rfl, .ty T, dq_ty (Dq.mono g2.h _ _ hd) ht, kit_ty hb, q _ F2 H2 (g1.trans g2) (.bl _)⟩
/-! ### what a for walks: n items, each known as data -/
def ItD (K : PySem.W.Frag) (F1 H1 : Hp) (J : It) (n : Nat) (item : Nat → Da) : Prop := ∀ i F H, Same F1 F → Same F H →
  (i < n → J.go i H ∧ ∀ v H', J.yld i H v H' → ∃ F', Grow F H F' H' ∧ Dq K F' v (item i)) ∧ (n ≤ i → J.stop i H)
def EvI (K : PySem.W.Frag) (wi : TI) (ρ : Rho) (n : Nat) (item : Nat → Da) : Prop := ∀ F0 H0 σ F H, Hs K F0 H0 σ F H ρ → ∀ R : It → Hp → Prop, (∀ J F' H', Grow F H F' H' → ItD K F' H' J n item → R J H') → wi σ H R
theorem atD {xs : List Da} {i : Nat} (h : i < xs.length) : xs[i]? = some (xs.getD i .non) := by
  rw [List.getD_eq_getElem?_getD, List.getElem?_eq_getElem h]
  rfl
theorem ei_list (h : EvF K te ρ (.lst xs)) : EvI K (iList K te) ρ xs.length (fun i => xs.getD i .non) := fun F0 H0 σ F H E R q => h F0 H0 σ F H E _ fun v F1 H1 g1 hd => by
  cases hd with
  | lst hs ha =>
    rename_i a vs
    refine ⟨a, rfl, ⟨vs, g1.s.seq hs⟩, q _ F1 H1 g1 fun i F2 H2 s1 s2 => ⟨fun hi => ?_, fun hi => ?_⟩⟩
    · obtain ⟨v, hv, hd⟩ := ha.get (atD hi)
      have hs2 := s2.seq (s1.seq hs)
      refine ⟨⟨vs, v, hs2, hv⟩, fun v' H' hy => ?_⟩
      obtain ⟨e, hy⟩ := hy
      subst e
      have e1 := Option.some.inj ((hy _ hs2).symm.trans hv)
      subst e1
      exact ⟨F2, Grow.refl s2, Dq.mono s1 _ _ hd⟩
    · exact ⟨vs, s2.seq (s1.seq hs), by rw [ha.len]; exact hi⟩
theorem ei_tup (h : EvF K te ρ (.tup xs)) : EvI K (iTup K te) ρ xs.length (fun i => xs.getD i .non) := fun F0 H0 σ F H E R q => h F0 H0 σ F H E _ fun v F1 H1 g1 hd => by
  cases hd with
  | tup hs ha =>
    rename_i a vs
    refine ⟨a, rfl, ⟨vs, same_t g1.s hs⟩, q _ F1 H1 g1 fun i F2 H2 s1 s2 => ⟨fun hi => ?_, fun hi => ?_⟩⟩
    · obtain ⟨v, hv, hd⟩ := ha.get (atD hi)
      have hs2 := same_t s2 (same_t s1 hs)
      refine ⟨⟨vs, v, hs2, hv⟩, fun v' H' hy => ?_⟩
      obtain ⟨e, hy⟩ := hy
      subst e
      have e1 := Option.some.inj ((hy _ hs2).symm.trans hv)
      subst e1
      exact ⟨F2, Grow.refl s2, Dq.mono s1 _ _ hd⟩
    · exact ⟨vs, same_t s2 (same_t s1 hs), by rw [ha.len]; exact hi⟩
theorem ei_rev (h : EvF K te ρ (.lst xs)) : EvI K (iRev K (tCons te tNil)) ρ xs.length (fun i => xs.reverse.getD i .non) := fun F0 H0 σ F H E R q => h F0 H0 σ F H E _ fun v F1 H1 g1 hd => by
  cases hd with
  | lst hs ha =>
    rename_i a vs
    refine ⟨a, vs, rfl, g1.s.seq hs, q _ F1 H1 g1 fun i F2 H2 s1 s2 => ⟨fun hi => ?_, fun hi => ?_⟩⟩
    · have hl := ha.len
      have hs2 := s2.seq (s1.seq hs)
      have hi' : i < xs.reverse.length := by rw [List.length_reverse]; exact hi
      obtain ⟨v, hv, hd⟩ := ha.rev.get (atD hi')
      rw [List.getElem?_reverse (by omega)] at hv
      refine ⟨⟨by omega, vs, v, hs2, hv⟩, fun v' H' hy => ?_⟩
      obtain ⟨e, hy⟩ := hy
      subst e
      have e1 := Option.some.inj ((hy _ hs2).symm.trans hv)
      subst e1
      exact ⟨F2, Grow.refl s2, Dq.mono s1 _ _ hd⟩
    · show vs.length ≤ i
      rw [ha.len]
      exact hi
theorem ei_rng {n : Nat} (h : EvF K te ρ (.int n)) (hn : n ≤ 1000000) : EvI K (iRng1 (tCons te tNil)) ρ n (fun i => .int i) := fun F0 H0 σ F H E R q => h F0 H0 σ F H E _ fun v F1 H1 g1 hd => by
  cases hd
  refine ⟨n, rfl, by omega, by omega, q _ F1 H1 g1 fun i F2 H2 s1 s2 => ⟨fun hi => ⟨by show i < Int.toNat _; omega, fun v H' hy => ?_⟩, fun hi => by show Int.toNat _ ≤ i; omega⟩⟩
  obtain ⟨e, hy⟩ := hy
  subst e
  subst hy
  refine ⟨F2, Grow.refl s2, ?_⟩
  rw [Int.zero_add]
  exact .int _
theorem ei_revR {n : Nat} (h : EvF K te ρ (.int n)) (hn : n ≤ 1000000) : EvI K (iRevR (tRg1 te)) ρ n (fun i => .int ((n : Int) - 1 - i)) := fun F0 H0 σ F H E R q => h F0 H0 σ F H E _ fun v F1 H1 g1 hd => by
  cases hd
  refine ⟨n, rfl, by omega, by omega, by omega, by omega, q _ F1 H1 g1 fun i F2 H2 s1 s2 => ⟨fun hi => ⟨by show i < Int.toNat _; omega, fun v H' hy => ?_⟩, fun hi => by show Int.toNat _ ≤ i; omega⟩⟩
  obtain ⟨e, hy⟩ := hy
  subst e
  subst hy
  refine ⟨F2, Grow.refl s2, ?_⟩
  have e : (0 : Int) + ((((n : Int) - 0).toNat : Nat) : Int) - 1 + (i : Nat) * (-1) = (n : Int) - 1 - i := by omega
  rw [e]
  exact .int _
theorem ei_rng3 {a b c : Int} {n : Nat} (h : EvA K tr ρ [.int a, .int b, .int c]) (hn : RgC a b c n) : EvI K (iRng3 tr) ρ n (fun i => .int (a + (i : Nat) * c)) := fun F0 H0 σ F H E R q => h F0 H0 σ F H E _ fun v F1 H1 g1 hd => by
  cases hd with
  | cons h1 hd => cases hd with
    | cons h2 hd => cases hd with
      | cons h3 hd =>
        cases hd
        cases h1
        cases h2
        cases h3
        refine ⟨a, b, c, n, rfl, hn, q _ F1 H1 g1 fun i F2 H2 s1 s2 => ⟨fun hi => ⟨hi, fun v H' hy => ?_⟩, fun hi => hi⟩⟩
        obtain ⟨e, hy⟩ := hy
        subst e
        subst hy
        exact ⟨F2, Grow.refl s2, .int _⟩
theorem ei_enum (h : EvF K te ρ (.lst xs)) : EvI K (iEnum K (tCons te tNil)) ρ xs.length (fun i => .tup [.int i, xs.getD i .non]) := fun F0 H0 σ F H E R q => h F0 H0 σ F H E _ fun v F1 H1 g1 hd => by
  cases hd with
  | lst hs ha =>
    rename_i a vs
    refine ⟨a, vs, rfl, g1.s.seq hs, q _ F1 H1 g1 fun i F2 H2 s1 s2 => ⟨fun hi => ?_, fun hi => ?_⟩⟩
    · obtain ⟨v, hv, hd⟩ := ha.get (atD hi)
      have hs2 := s2.seq (s1.seq hs)
      refine ⟨⟨vs, v, hs2, hv⟩, fun v' H' hy => ?_⟩
      obtain ⟨T, w, e1, hT, e2, hy⟩ := hy
      subst e1
      subst e2
      have e1 := Option.some.inj ((hy _ hs2).symm.trans hv)
      subst e1
      exact ⟨_, Grow.new s2 hT, .tup (.inl (.inl upd_same)) (.cons (.int _) (.cons (Dq.mono (s1.trans (same_new (Same.back s2 hT))) _ _ hd) .nil))⟩
    · exact ⟨vs, s2.seq (s1.seq hs), by rw [ha.len]; exact hi⟩
theorem ei_str {w : Str} (h : EvF K te ρ (.str w)) : EvI K (iStr te) ρ w.cps.size (fun i => .str ⟨#[w.cps.getD i 0]⟩) := fun F0 H0 σ F H E R q => h F0 H0 σ F H E _ fun v F1 H1 g1 hd => by
  cases hd
  refine ⟨w, rfl, q _ F1 H1 g1 fun i F2 H2 s1 s2 => ⟨fun hi => ⟨hi, fun v H' hy => ?_⟩, fun hi => hi⟩⟩
  obtain ⟨e, c, hc, hy⟩ := hy
  subst e
  subst hy
  refine ⟨F2, Grow.refl s2, ?_⟩
  have e : w.cps.getD i 0 = c := by
    rw [Array.getD_eq_getD_getElem?, hc]
    rfl
  show Dq K F2 (V.str ⟨#[c]⟩) (.str ⟨#[w.cps.getD i 0]⟩)
  rw [e]
  exact .str _
theorem Hs.setD {F0 H0 F H : Hp} {σ : L2.St} (E : Hs K F0 H0 σ F H ρ) (j : Nat) {v : V} (h : Dq K F v x) : Hs K F0 H0 (σ.set j (some v)) F H (ρ.set j (.d x)) :=
  E.set j (show Slot K H0 F H (some v) (.d x) from ⟨v, rfl, h⟩) fun _ z => by cases z
/-! ### targets -/
/-- the target takes x: what the slots then hold; js: the slots that it stores -/
def GoT (K : PySem.W.Frag) (g : TG) (x : Da) (js : List Nat) (f : Rho → Rho) : Prop := ∀ F0 H0 σ F H ρ v, Hs K F0 H0 σ F H ρ → Dq K F v x → ∀ Q : L2.St → Hp → Prop,
  (∀ σ', Hs K F0 H0 σ' F H (f ρ) → (∀ vs : List Nat, (∀ j ∈ js, j ∈ vs) → wipe σ' vs = wipe σ vs) → Q σ' H) → g v σ H Q
theorem set_wipe {σ : L2.St} {j : Nat} {o : Option V} : ∀ {vs : List Nat}, j ∈ vs → wipe (σ.set j o) vs = wipe σ vs
  | [], h => by cases h
  | w :: vs, h => by
    unfold wipe
    by_cases e : j ∈ vs
    · rw [set_wipe e]
    · rcases List.mem_cons.mp h with z | h
      · subst z
        clear h
        have k : ∀ (us : List Nat), j ∉ us → wipe (σ.set j o) us = (wipe σ us).set j o := by
          intro us hus
          induction us with
          | nil => rfl
          | cons u us ih =>
            unfold wipe
            rw [ih (fun z => hus (List.mem_cons_of_mem _ z)), List.set_comm _ _ (fun z => hus (by rw [z]; exact List.mem_cons_self))]
        rw [k vs e, List.set_set]
      · exact absurd h e
theorem go_name {j : Nat} : GoT K (gName j) x [j] (fun ρ => ρ.set j (.d x)) := fun F0 H0 σ F H ρ v E hd Q q =>
  q _ (E.setD j hd) fun vs h => set_wipe (h j (List.mem_singleton.mpr rfl))
theorem go_tup2 {j1 j2 : Nat} : GoT K (gTup K 2 (gCons (gName j1) (gCons (gName j2) gNil))) (.tup [x, y]) [j1, j2] (fun ρ => (ρ.set j1 (.d x)).set j2 (.d y)) := fun F0 H0 σ F H ρ v E hd Q q => by
  cases hd with
  | tup hs ha => cases ha with
    | cons a1 ha => cases ha with
      | cons a2 ha =>
        cases ha
        refine ⟨_, _, rfl, same_t E.s hs, rfl, _, _, rfl, _, _, rfl, rfl, ?_⟩
        exact q _ ((E.setD j1 a1).setD j2 a2) fun vs h => by
          rw [set_wipe (h j2 (by simp)), set_wipe (h j1 (by simp))]
theorem go_tup4 {x1 x2 x3 x4 : Da} {j1 j2 j3 j4 : Nat} : GoT K (gTup K 4 (gCons (gName j1) (gCons (gName j2) (gCons (gName j3) (gCons (gName j4) gNil))))) (.tup [x1, x2, x3, x4]) [j1, j2, j3, j4]
    (fun ρ => (((ρ.set j1 (.d x1)).set j2 (.d x2)).set j3 (.d x3)).set j4 (.d x4)) := fun F0 H0 σ F H ρ v E hd Q q => by
  cases hd with
  | tup hs ha => cases ha with
    | cons a1 ha => cases ha with
      | cons a2 ha => cases ha with
        | cons a3 ha => cases ha with
          | cons a4 ha =>
            cases ha
            refine ⟨_, _, rfl, same_t E.s hs, rfl, _, _, rfl, _, _, rfl, _, _, rfl, _, _, rfl, rfl, ?_⟩
            exact q _ ((((E.setD j1 a1).setD j2 a2).setD j3 a3).setD j4 a4) fun vs h => by
              rw [set_wipe (h j4 (by simp)), set_wipe (h j3 (by simp)), set_wipe (h j2 (by simp)), set_wipe (h j1 (by simp))]
theorem go_tup3 {x1 x2 x3 : Da} {j1 j2 j3 : Nat} : GoT K (gTup K 3 (gCons (gName j1) (gCons (gName j2) (gCons (gName j3) gNil)))) (.tup [x1, x2, x3]) [j1, j2, j3]
    (fun ρ => ((ρ.set j1 (.d x1)).set j2 (.d x2)).set j3 (.d x3)) := fun F0 H0 σ F H ρ v E hd Q q => by
  cases hd with
  | tup hs ha => cases ha with
    | cons a1 ha => cases ha with
      | cons a2 ha => cases ha with
        | cons a3 ha =>
          cases ha
          refine ⟨_, _, rfl, same_t E.s hs, rfl, _, _, rfl, _, _, rfl, _, _, rfl, rfl, ?_⟩
          exact q _ (((E.setD j1 a1).setD j2 a2).setD j3 a3) fun vs h => by
            rw [set_wipe (h j3 (by simp)), set_wipe (h j2 (by simp)), set_wipe (h j1 (by simp))]
/-! ### a list comprehension -/
def wipeR (ρ : Rho) : List Nat → Rho
  | [] => ρ
  | v :: vs => (wipeR ρ vs).set v .un
theorem Hs.wipe {F0 H0 F H : Hp} {σ : L2.St} (E : Hs K F0 H0 σ F H ρ) : ∀ vs : List Nat, Hs K F0 H0 (L2.wipe σ vs) F H (wipeR ρ vs)
  | [] => E
  | v :: vs => by
    unfold L2.wipe wipeR
    exact (E.wipe vs).set v trivial fun _ z => by cases z
theorem wipe_wipe (σ : L2.St) : ∀ vs : List Nat, wipe (wipe σ vs) vs = wipe σ vs := by
  have k : ∀ (us vs : List Nat), (∀ u ∈ us, u ∈ vs) → wipe (wipe σ us) vs = wipe σ vs := by
    intro us vs
    induction us with
    | nil => intro _; rfl
    | cons u us ih =>
      intro h
      rw [wipe.eq_2 σ u us, set_wipe (h u List.mem_cons_self)]
      exact ih fun w hw => h w (List.mem_cons_of_mem _ hw)
  exact fun vs => k vs vs fun _ h => h
theorem filter_range_succ {n : Nat} (f : Nat → Bool) (g : Nat → Da) : ((List.range (n + 1)).filter f).map g = ((List.range n).filter f).map g ++ (if f n = true then [g n] else []) := by
  rw [List.range_succ, List.filter_append, List.map_append]
  congr 1
  by_cases h : f n = true
  · simp [h]
  · simp [h]
theorem en_lc {wi : TI} {g : TG} {tt : TT} {vs js : List Nat} {n : Nat} {item : Nat → Da} {f : Nat → Rho → Rho} (keep : Nat → Bool) (out : Nat → Da) (hI : EvI K wi ρ n item) (hn : n ≤ 1000000) (hg : ∀ i, i < n → GoT K g (item i) js (f i)) (hj : ∀ j ∈ js, j ∈ vs)
    (ht : ∀ i, i < n → EvT K tt (f i (wipeR ρ vs)) (keep i)) (he : ∀ i, i < n → keep i = true → EvF K te (f i (wipeR ρ vs)) (out i)) : EvN K (tLc wi g tt te vs) ρ (((List.range n).filter keep).map out) := fun F0 H0 σ F H E Q q => by
  refine hI F0 H0 σ F H E _ fun J F1 H1 g1 hJ D hD => ?_
  have E1 := E.grow g1
  have fD : F1 D = none := Same.back g1.s hD
  refine ⟨fun i m Hc => m = n - i ∧ i ≤ n ∧ ∃ Fc ws, Grow F1 H1 Fc Hc ∧ Fc D = none ∧ Hc D = some (.lst ws) ∧ DqA K Fc ws (((List.range i).filter keep).map out), ⟨n, rfl, Nat.zero_le _, F1, [], Grow.own g1.s hD, fD, upd_same, .nil⟩, ?_⟩
  rintro i m Hc ⟨rfl, hi, Fc, ws, gc, fDc, hDc, hws⟩
  obtain ⟨j1, j2⟩ := hJ i Fc Hc gc.f gc.s
  by_cases hlt : i < n
  · obtain ⟨hgo, hyld⟩ := j1 hlt
    refine .inr ⟨hgo, fun H' => ∃ Fc' ws', Grow F1 H1 Fc' H' ∧ Fc' D = none ∧ H' D = some (.lst ws') ∧ DqA K Fc' ws' (((List.range (i + 1)).filter keep).map out), ?_, fun v H2 hy => ?_⟩
    · rintro H' ⟨Fc', ws', a, b, c, d⟩
      exact ⟨n - (i + 1), by omega, rfl, hlt, Fc', ws', a, b, c, d⟩
    · obtain ⟨F2, g2, hv⟩ := hyld v H2 hy
      have gc2 := gc.trans g2
      have E2 := (E1.grow gc2).wipe vs
      have nD2 : F2 D = none := g2.n D fDc (by rw [hDc]; exact fun z => nomatch z)
      have hD2 : H2 D = some (.lst ws) := g2.h _ _ hDc
      refine hg i hlt F0 H0 _ F2 H2 _ v E2 hv _ fun σ2 E3 hw => ⟨by rw [hw vs hj, wipe_wipe], ?_⟩
      refine ht i hlt F0 H0 σ2 F2 H2 E3 _ fun F3 H3 g3 => ?_
      have nD3 : F3 D = none := g3.n D nD2 (by rw [hD2]; exact fun z => nomatch z)
      have hD3 : H3 D = some (.lst ws) := g3.h _ _ hD2
      have hws3 := DqA.mono g3.f _ _ (DqA.mono g2.f _ _ hws)
      by_cases hk : keep i = true
      · rw [if_pos hk]
        refine he i hlt hk F0 H0 σ2 F3 H3 (E3.grow g3) _ fun y F4 H4 g4 hy4 => ?_
        have nD4 : F4 D = none := g4.n D nD3 (by rw [hD3]; exact fun z => nomatch z)
        refine ⟨ws, g4.h _ _ hD3, ?_, F4, ws ++ [y], (((gc2.trans g3).trans g4).mut hD nD4), nD4, upd_same, ?_⟩
        · have hl : ws.length ≤ i := by
            rw [hws.len, List.length_map]
            exact Nat.le_trans (List.length_filter_le _ _) (by rw [List.length_range]; exact Nat.le_refl _)
          have h1 : ws.length < 1000000 := by omega
          exact Nat.lt_of_lt_of_le h1 (by decide)
        · rw [filter_range_succ, if_pos hk]
          exact (DqA.mono g4.f _ _ hws3).last hy4
      · rw [if_neg hk]
        refine ⟨F3, ws, gc2.trans g3, nD3, hD3, ?_⟩
        rw [filter_range_succ, if_neg hk, List.append_nil]
        exact hws3
  · have e : i = n := by omega
    subst e
    exact .inl ⟨j2 (Nat.le_refl _), q D ws Fc Hc (g1.trans gc) (Same.back g1.h hD) fDc hDc hws⟩
end
end TR

/-! own layer: statements -/
namespace TR
open PySem PySem.Spec PyProof.Rows L2

/-- the ends of a statement, over data -/
structure DE where
  nx : Rho → Prop
  rt : Out → Prop
  bk : Rho → Prop := fun _ => False
  ct : Rho → Prop := fun _ => False
/-- from the slots ρ the statement reaches one of its ends -/
def EvS (K : PySem.W.Frag) (E : XK) (t : TS) (ρ : Rho) (D : DE) : Prop := ∀ F0 H0 σ F H, Hs K F0 H0 σ F H ρ → ∀ D' : Ends,
  (∀ σ' F' H' ρ', Hs K F0 H0 σ' F' H' ρ' → Same F F' → D.nx ρ' → D'.nx σ' H') → (∀ r, D.rt r → Give K F0 H0 r D'.rt E) →
  (∀ σ' F' H' ρ', Hs K F0 H0 σ' F' H' ρ' → Same F F' → D.bk ρ' → D'.bk σ' H') → (∀ σ' F' H' ρ', Hs K F0 H0 σ' F' H' ρ' → Same F F' → D.ct ρ' → D'.ct σ' H') → t D' σ H
section
variable {K : PySem.W.Frag} {ρ ρ' : Rho} {te ta tb tx : TE} {tr : TA} {tt : TT} {x y z : Da} {xs ys zs ds : List Da} {i j : Nat} {E : XK} {t u : TS} {D : DE}
theorem es_next (h : D.nx ρ) : EvS K E tNext ρ D := fun F0 H0 σ F H e D' a b c d => a σ F H ρ e (Same.refl F) h
theorem es_seq {M : Rho → Prop} (h : EvS K E t ρ { D with nx := M }) (k : ∀ ρ', M ρ' → EvS K E u ρ' D) : EvS K E (tSeq t u) ρ D := fun F0 H0 σ F H e D' a b c d =>
  h F0 H0 σ F H e { D' with nx := u D' } (fun σ1 F1 H1 ρ1 e1 s1 m => k ρ1 m F0 H0 σ1 F1 H1 e1 D' (fun σ2 F2 H2 ρ2 e2 s2 n => a σ2 F2 H2 ρ2 e2 (s1.trans s2) n) b (fun σ2 F2 H2 ρ2 e2 s2 n => c σ2 F2 H2 ρ2 e2 (s1.trans s2) n) (fun σ2 F2 H2 ρ2 e2 s2 n => d σ2 F2 H2 ρ2 e2 (s1.trans s2) n)) b c d
/-- one statement ahead of the others, its end known -/
theorem es_then (h : ∀ D0 : DE, D0.rt = D.rt → D0.bk = D.bk → D0.ct = D.ct → (EvS K E u ρ' D → D0.nx ρ') → EvS K E u ρ' D → EvS K E t ρ D0) (k : EvS K E u ρ' D) : EvS K E (tSeq t u) ρ D :=
  es_seq (M := fun r => EvS K E u r D) (h { D with nx := fun r => EvS K E u r D } rfl rfl rfl (fun q => q) k) fun _ q => q
theorem es_imp {D0 : DE} (h : EvS K E t ρ D0) (h1 : ∀ r, D0.nx r → D.nx r) (h2 : ∀ r, D0.rt r → D.rt r) (h3 : ∀ r, D0.bk r → D.bk r) (h4 : ∀ r, D0.ct r → D.ct r) : EvS K E t ρ D := fun F0 H0 σ F H e D' a b c d =>
  h F0 H0 σ F H e D' (fun σ1 F1 H1 ρ1 e1 s1 m => a σ1 F1 H1 ρ1 e1 s1 (h1 _ m)) (fun r m => b r (h2 _ m)) (fun σ1 F1 H1 ρ1 e1 s1 m => c σ1 F1 H1 ρ1 e1 s1 (h3 _ m)) (fun σ1 F1 H1 ρ1 e1 s1 m => d σ1 F1 H1 ρ1 e1 s1 (h4 _ m))
theorem es_weak (hl : ρ'.length = ρ.length) (hw : ∀ (i : Nat) (r : Sl), ρ'[i]? = some r → r = .un ∨ ρ[i]? = some r) (h : EvS K E t ρ' D) : EvS K E t ρ D := fun F0 H0 σ F H e D' a b c d => h F0 H0 σ F H (e.weak hl hw) D' a b c d
/-- the own list in slot i is frozen from here on -/
theorem es_frz (hi : ρ[i]? = some (.m xs)) (h : EvS K E t (ρ.set i (.l xs)) D) : EvS K E t ρ D := fun F0 H0 σ F H e D' a b c d => by
  obtain ⟨F', sf, e'⟩ := e.frzA hi
  exact h F0 H0 σ F' H e' D' (fun σ1 F1 H1 ρ1 e1 s1 m => a σ1 F1 H1 ρ1 e1 (sf.trans s1) m) b (fun σ1 F1 H1 ρ1 e1 s1 m => c σ1 F1 H1 ρ1 e1 (sf.trans s1) m) (fun σ1 F1 H1 ρ1 e1 s1 m => d σ1 F1 H1 ρ1 e1 (sf.trans s1) m)
theorem es_asg (h : EvF K te ρ x) (k : D.nx (ρ.set i (.d x))) : EvS K E (tAsg te (gName i)) ρ D := fun F0 H0 σ F H e D' a b c d => h F0 H0 σ F H e _ fun v F1 H1 g hv =>
  a _ F1 H1 _ ((e.grow g).setD i hv) g.f k
theorem es_asgN (h : EvN K te ρ xs) (k : D.nx (ρ.set i (.m xs))) : EvS K E (tAsg te (gName i)) ρ D := fun F0 H0 σ F H e D' a b c d => h F0 H0 σ F H e _ fun p vs F1 H1 g hp hf hh hd =>
  a _ F1 H1 _ (e.setM i g hp hf hh hd) g.f k
theorem es_asgL (h : EvN K te ρ xs) (k : D.nx (ρ.set i (.l xs))) : EvS K E (tAsg te (gName i)) ρ D := fun F0 H0 σ F H e D' a b c d => h F0 H0 σ F H e _ fun p vs F1 H1 g hp hf hh hd => by
  have g' : Grow F H (upd F1 p (.lst vs)) H1 := g.frz hp hf hh
  exact a _ _ H1 _ ((e.grow g').set i (show Slot K H0 (upd F1 p (.lst vs)) H1 (some (.ref p)) (.l xs) from ⟨p, vs, rfl, upd_same, DqA.mono (same_new hf) _ _ hd⟩) fun _ z => by cases z) g'.f k
theorem es_asgX {g : TG} {C : Addr} (h : EvX K E te ρ C) (k : D.rt (.e C)) : EvS K E (tAsg te g) ρ D := fun F0 H0 σ F H e D' a b c d => h F0 H0 σ F H e (fun H' s => b _ k H' (e.g.h.trans s)) _
theorem es_tup {g : TG} {js : List Nat} {f : Rho → Rho} (hg : GoT K g x js f) (h : EvF K te ρ x) (k : D.nx (f ρ)) : EvS K E (tAsg te g) ρ D := fun F0 H0 σ F H e D' a b c d => h F0 H0 σ F H e _ fun v F1 H1 gr hv =>
  hg F0 H0 σ F1 H1 ρ v (e.grow gr) hv _ fun σ' e' _ => a σ' F1 H1 _ e' gr.f k
theorem es_drop (h : EvF K te ρ x) (k : D.nx ρ) : EvS K E (tDrop te) ρ D := fun F0 H0 σ F H e D' a b c d => h F0 H0 σ F H e _ fun v F1 H1 g _ => a σ F1 H1 ρ (e.grow g) g.f k
theorem es_dropX {C : Addr} (h : EvX K E te ρ C) (k : D.rt (.e C)) : EvS K E (tDrop te) ρ D := fun F0 H0 σ F H e D' a b c d => h F0 H0 σ F H e (fun H' s => b _ k H' (e.g.h.trans s)) _
theorem es_ret (h : EvF K te ρ x) (k : D.rt (.f x)) : EvS K E (tRet te) ρ D := fun F0 H0 σ F H e D' a b c d => h F0 H0 σ F H e _ fun v F1 H1 g hv => b _ k v F1 H1 (e.g.trans g) hv
theorem es_retN (h : EvN K te ρ xs) (k : D.rt (.n xs)) : EvS K E (tRet te) ρ D := fun F0 H0 σ F H e D' a b c d => h F0 H0 σ F H e _ fun p vs F1 H1 g hp hf hh hd => b _ k p vs F1 H1 (e.g.trans g) (Same.back e.g.h hp) hf hh hd
theorem es_retM (hi : ρ[i]? = some (.m xs)) (k : D.rt (.n xs)) : EvS K E (tRet (tVar i)) ρ D := fun F0 H0 σ F H e D' a b c d => by
  obtain ⟨o, h1, p, vs, h2, h0, hf, hh, hd⟩ := e.at_ i _ hi
  subst h2
  exact ⟨_, h1, b _ k p vs F H e.g h0 hf hh hd⟩
theorem es_retX {C : Addr} (h : EvX K E te ρ C) (k : D.rt (.e C)) : EvS K E (tRet te) ρ D := fun F0 H0 σ F H e D' a b c d => h F0 H0 σ F H e (fun H' s => b _ k H' (e.g.h.trans s)) _
theorem es_retNon (k : D.rt (.f .non)) : EvS K E tRetN ρ D := fun F0 H0 σ F H e D' a b c d => b _ k .non F H e.g .non
theorem es_if {b : Bool} (h : EvT K tt ρ b) (h1 : b = true → EvS K E t ρ D) (h2 : b = false → EvS K E u ρ D) : EvS K E (tIfS tt t u) ρ D := fun F0 H0 σ F H e D' a q c d => h F0 H0 σ F H e _ fun F1 H1 g => by
  have e1 := e.grow g
  have k1 : ∀ {P : L2.St → Hp → Prop} {N : Rho → Prop}, (∀ σ' F' H' ρ', Hs K F0 H0 σ' F' H' ρ' → Same F F' → N ρ' → P σ' H') → ∀ σ' F' H' ρ', Hs K F0 H0 σ' F' H' ρ' → Same F1 F' → N ρ' → P σ' H' :=
    fun w σ' F' H' ρ' e' s n => w σ' F' H' ρ' e' (g.f.trans s) n
  cases b with
  | true => exact h1 rfl F0 H0 σ F1 H1 e1 D' (k1 a) q (k1 c) (k1 d)
  | false => exact h2 rfl F0 H0 σ F1 H1 e1 D' (k1 a) q (k1 c) (k1 d)
theorem es_raise {C : Addr} (k : D.rt (.e C)) : EvS K E (fun _ _ H => E (.ref C) none H) ρ D := fun F0 H0 σ F H e D' a b c d => b _ k H e.g.h
theorem es_app (hi : ρ[i]? = some (.m xs)) (h : EvF K te ρ x) (hl : xs.length < 1000000) (k : D.nx (ρ.set i (.m (xs ++ [x])))) : EvS K E (tDrop (tBM K "list" rAppend (tVar i) (tCons te tNil))) ρ D := fun F0 H0 σ F H e D' a b c d => by
  obtain ⟨o, h1, p, vs, h2, h0, hf, hh, hd⟩ := e.at_ i _ hi
  subst h2
  refine ⟨_, h1, .inl ⟨rfl, vs, .inl (.inl hh)⟩, h F0 H0 σ F H e _ fun v F1 H1 g hv => ?_⟩
  have e1 := e.grow g
  have hh1 : H1 p = some (.lst vs) := g.h _ _ hh
  have hd1 := DqA.mono g.f _ _ hd
  refine ⟨p, vs, v, rfl, rfl, hh1, by rw [hd.len]; exact Nat.lt_of_lt_of_le hl (by decide), ?_⟩
  exact a σ F1 _ _ (e1.chg hi h1 hh1 (hd1.last hv)) g.f k
theorem es_put {k' : Int} {ti : TE} (hi : ρ[i]? = some (.m xs)) (h : EvF K te ρ x) (ht : EvF K ti ρ (.int k')) (hj : ixN xs.length k' = some j) (k : D.nx (ρ.set i (.m (xs.set j x)))) : EvS K E (tAsg te (gSub (tVar i) ti rSetL)) ρ D := fun F0 H0 σ F H e D' a b c d => by
  obtain ⟨o, h1, p, vs, h2, h0, hf, hh, hd⟩ := e.at_ i _ hi
  subst h2
  refine h F0 H0 σ F H e _ fun v F1 H1 g hv => ⟨_, h1, ht F0 H0 σ F1 H1 (e.grow g) _ fun w F2 H2 g2 hw => ?_⟩
  cases hw
  have e2 := (e.grow g).grow g2
  have hh2 : H2 p = some (.lst vs) := g2.h _ _ (g.h _ _ hh)
  refine ⟨p, vs, k', j, rfl, rfl, hh2, by rw [hd.len]; exact hj, ?_⟩
  exact a σ F2 _ _ (e2.chg hi h1 hh2 ((DqA.mono g2.f _ _ (DqA.mono g.f _ _ hd)).set j (Dq.mono g2.f _ _ hv))) (g.f.trans g2.f) k
theorem es_aug {f : Int → Int → Int} {a b : Int} (hi : ρ[i]? = some (.d (.int a))) (h : EvF K te ρ (.int b)) (k : D.nx (ρ.set i (.d (.int (f a b))))) : EvS K E (tAug i te (ipI f)) ρ D := fun F0 H0 σ F H e D' a' b' c d => by
  obtain ⟨o, h1, v, h2, hv⟩ := e.at_ i _ hi
  subst h2
  cases hv
  refine ⟨_, h1, h F0 H0 σ F H e _ fun w F1 H1 g hw => ?_⟩
  cases hw
  exact ⟨a, b, rfl, rfl, a' _ F1 H1 _ ((e.grow g).setD i (.int _)) g.f k⟩
theorem es_par2 {l : Nat} (h : EvA K tr ρ [x, y]) (k : D.nx ((ρ.set i (.d x)).set l (.d y))) : EvS K E (tPar i l tr) ρ D := fun F0 H0 σ F H e D' a b c d => h F0 H0 σ F H e _ fun vs F1 H1 g hv => by
  cases hv with
  | cons h1 hv => cases hv with
    | cons h2 hv =>
      cases hv
      exact ⟨_, _, rfl, a _ F1 H1 _ (((e.grow g).setD i h1).setD l h2) g.f k⟩
/-- a, b = [], [] and its like: both new lists -/
theorem es_parNN {l : Nat} (h1 : EvN K ta ρ xs) (h2 : ∀ r, EvN K tb (ρ.set i r) ys) (hil : i ≠ l) (k : D.nx ((ρ.set i (.m xs)).set l (.m ys))) (hb : ∀ σ o H Q, tb σ H Q ↔ tb (σ.set i o) H Q) : EvS K E (tPar i l (tCons ta (tCons tb tNil))) ρ D := fun F0 H0 σ F H e D' a b c d =>
  h1 F0 H0 σ F H e _ fun p vs F1 H1 g1 hp hf hh hd => by
    have e1 := e.setM i g1 hp hf hh hd
    refine (hb _ (some (.ref p)) _ _).mpr (h2 _ F0 H0 _ F1 H1 e1 _ fun q us F2 H2 g2 hq hf2 hh2 hd2 => ?_)
    exact ⟨_, _, rfl, a _ F2 H2 _ (e1.setM l g2 hq hf2 hh2 hd2) (g1.f.trans g2.f) k⟩
theorem es_par3 {l m : Nat} (h : EvA K tr ρ [x, y, z]) (k : D.nx (((ρ.set i (.d x)).set l (.d y)).set m (.d z))) : EvS K E (tPar3 i l m tr) ρ D := fun F0 H0 σ F H e D' a b c d => h F0 H0 σ F H e _ fun vs F1 H1 g hv => by
  cases hv with
  | cons h1 hv => cases hv with
    | cons h2 hv => cases hv with
      | cons h3 hv =>
        cases hv
        exact ⟨_, _, _, rfl, a _ F1 H1 _ ((((e.grow g).setD i h1).setD l h2).setD m h3) g.f k⟩
/-! ### loops -/
theorem es_for {wi : TI} {g : TG} {js : List Nat} {n : Nat} {item : Nat → Da} {f : Nat → Rho → Rho} (Inv : Nat → Rho → Prop) (hI : EvI K wi ρ n item) (hg : ∀ i, i < n → GoT K g (item i) js (f i)) (h0 : Inv 0 ρ)
    (hs : ∀ i ρ', i < n → Inv i ρ' → EvS K E t (f i ρ') { nx := Inv (i + 1), rt := D.rt, bk := D.nx, ct := Inv (i + 1) }) (hd : ∀ ρ', Inv n ρ' → D.nx ρ') : EvS K E (tFor wi g t) ρ D := fun F0 H0 σ F H e D' a b c d =>
  hI F0 H0 σ F H e _ fun J F1 H1 g1 hJ => by
    refine ⟨fun i m σ H => m = n - i ∧ i ≤ n ∧ ∃ F2 ρ2, Hs K F0 H0 σ F2 H ρ2 ∧ Same F1 F2 ∧ Inv i ρ2, ⟨n, rfl, Nat.zero_le _, F1, ρ, e.grow g1, Same.refl _, h0⟩, ?_⟩
    rintro i m σ2 H2 ⟨rfl, hi, F2, ρ2, e2, s2, hinv⟩
    obtain ⟨j1, j2⟩ := hJ i F2 H2 s2 e2.s
    by_cases hlt : i < n
    · obtain ⟨hgo, hyld⟩ := j1 hlt
      refine .inr ⟨hgo, fun σ' H' => ∃ F3 ρ3, Hs K F0 H0 σ' F3 H' ρ3 ∧ Same F1 F3 ∧ Inv (i + 1) ρ3, ?_, fun v H' hy => ?_⟩
      · rintro σ' H' ⟨F3, ρ3, e3, s3, h3⟩
        exact ⟨n - (i + 1), by omega, rfl, hlt, F3, ρ3, e3, s3, h3⟩
      · obtain ⟨F3, g3, hv⟩ := hyld v H' hy
        refine hg i hlt F0 H0 σ2 F3 H' ρ2 v (e2.grow g3) hv _ fun σ3 e3 _ => ?_
        have s3 := s2.trans g3.f
        exact hs i ρ2 hlt hinv F0 H0 σ3 F3 H' e3 _ (fun σ4 F4 H4 ρ4 e4 s4 h4 => ⟨F4, ρ4, e4, s3.trans s4, h4⟩) b (fun σ4 F4 H4 ρ4 e4 s4 h4 => a σ4 F4 H4 ρ4 e4 ((g1.f.trans s3).trans s4) h4)
          (fun σ4 F4 H4 ρ4 e4 s4 h4 => ⟨F4, ρ4, e4, s3.trans s4, h4⟩)
    · have ei : i = n := by omega
      subst ei
      exact .inl ⟨j2 (Nat.le_refl _), a σ2 F2 H2 ρ2 e2 (g1.f.trans s2) (hd ρ2 hinv)⟩
theorem drop_at {α : Type} {l : List α} {i : Nat} (h : i < l.length) : l.drop i = l[i] :: l.drop (i + 1) := List.drop_eq_getElem_cons h
theorem getD_map {α : Type} (enc : α → Da) {l : List α} {i : Nat} (h : i < l.length) : (l.map enc).getD i .non = enc l[i] := by
  rw [List.getD_eq_getElem?_getD, List.getElem?_map, List.getElem?_eq_getElem h]
  rfl
/-- over typed items, by what is left -/
theorem es_forT {α : Type} {wi : TI} {g : TG} {js : List Nat} (enc : Nat → α → Da) (f : Da → Rho → Rho) (xs : List α) {n : Nat} {item : Nat → Da} (hI : EvI K wi ρ n item) (hn : n = xs.length) (hit : ∀ i (h : i < xs.length), item i = enc i xs[i])
    (hg : ∀ i a, GoT K g (enc i a) js (f (enc i a))) (Inv : Nat → List α → Rho → Prop) (h0 : Inv 0 xs ρ)
    (hs : ∀ i a l ρ', Inv i (a :: l) ρ' → EvS K E t (f (enc i a) ρ') { nx := Inv (i + 1) l, rt := D.rt, bk := D.nx, ct := Inv (i + 1) l }) (hd : ∀ i ρ', Inv i [] ρ' → D.nx ρ') : EvS K E (tFor wi g t) ρ D := by
  subst hn
  refine es_for (js := js) (f := fun i => f (item i)) (fun i ρ' => i ≤ xs.length ∧ Inv i (xs.drop i) ρ') hI (fun i h => ?_) ⟨Nat.zero_le _, h0⟩ (fun i ρ' h hi => ?_) (fun ρ' h => ?_)
  · rw [hit i h]
    exact hg i _
  · have hi2 := hi.2
    rw [drop_at h] at hi2
    rw [hit i h]
    refine es_imp (hs i _ _ ρ' hi2) (fun r q => ⟨h, q⟩) (fun r q => q) (fun r q => q) (fun r q => ⟨h, q⟩)
  · have h2 := h.2
    rw [List.drop_length] at h2
    exact hd _ _ h2
/-- for a in xs -/
theorem es_forL {α : Type} (enc : α → Da) (xs : List α) (h : EvF K te ρ (.lst (xs.map enc))) (Inv : List α → Rho → Prop) (h0 : Inv xs ρ)
    (hs : ∀ a l ρ', Inv (a :: l) ρ' → EvS K E t (ρ'.set j (.d (enc a))) { nx := Inv l, rt := D.rt, bk := D.nx, ct := Inv l }) (hd : ∀ ρ', Inv [] ρ' → D.nx ρ') : EvS K E (tFor (iList K te) (gName j) t) ρ D :=
  es_forT (fun _ => enc) (fun x r => r.set j (.d x)) xs (ei_list h) (List.length_map _) (fun i hi => getD_map enc hi) (fun _ _ => go_name) (fun _ => Inv) h0 (fun _ => hs) (fun _ => hd)
theorem es_forRev {α : Type} (enc : α → Da) (xs : List α) (h : EvF K te ρ (.lst (xs.map enc))) (Inv : List α → Rho → Prop) (h0 : Inv xs.reverse ρ)
    (hs : ∀ a l ρ', Inv (a :: l) ρ' → EvS K E t (ρ'.set j (.d (enc a))) { nx := Inv l, rt := D.rt, bk := D.nx, ct := Inv l }) (hd : ∀ ρ', Inv [] ρ' → D.nx ρ') : EvS K E (tFor (iRev K (tCons te tNil)) (gName j) t) ρ D :=
  es_forT (fun _ => enc) (fun x r => r.set j (.d x)) xs.reverse (ei_rev h) (by rw [List.length_map, List.length_reverse]) (fun i hi => by rw [← List.map_reverse]; exact getD_map enc hi) (fun _ _ => go_name) (fun _ => Inv) h0 (fun _ => hs) (fun _ => hd)
theorem es_forEnum {α : Type} {j1 j2 : Nat} (enc : α → Da) (xs : List α) (h : EvF K te ρ (.lst (xs.map enc))) (Inv : Nat → List α → Rho → Prop) (h0 : Inv 0 xs ρ)
    (hs : ∀ i a l ρ', Inv i (a :: l) ρ' → EvS K E t ((ρ'.set j1 (.d (.int i))).set j2 (.d (enc a))) { nx := Inv (i + 1) l, rt := D.rt, bk := D.nx, ct := Inv (i + 1) l }) (hd : ∀ i ρ', Inv i [] ρ' → D.nx ρ') :
    EvS K E (tFor (iEnum K (tCons te tNil)) (gTup K 2 (gCons (gName j1) (gCons (gName j2) gNil))) t) ρ D :=
  es_forT (js := [j1, j2]) (fun i a => .tup [.int i, enc a]) (fun x r => match x with | .tup [a, b] => (r.set j1 (.d a)).set j2 (.d b) | _ => r) xs (ei_enum h) (List.length_map _) (fun i hi => by show Da.tup [.int i, _] = _; rw [getD_map enc hi])
    (fun _ _ => go_tup2) Inv h0 hs hd
/-- for a, b in pairs -/
theorem es_forP {α : Type} {j1 j2 : Nat} (e1 e2 : α → Da) (xs : List α) (h : EvF K te ρ (.lst (xs.map fun a => .tup [e1 a, e2 a]))) (Inv : List α → Rho → Prop) (h0 : Inv xs ρ)
    (hs : ∀ a l ρ', Inv (a :: l) ρ' → EvS K E t ((ρ'.set j1 (.d (e1 a))).set j2 (.d (e2 a))) { nx := Inv l, rt := D.rt, bk := D.nx, ct := Inv l }) (hd : ∀ ρ', Inv [] ρ' → D.nx ρ') :
    EvS K E (tFor (iList K te) (gTup K 2 (gCons (gName j1) (gCons (gName j2) gNil))) t) ρ D :=
  es_forT (js := [j1, j2]) (fun _ a => .tup [e1 a, e2 a]) (fun x r => match x with | .tup [a, b] => (r.set j1 (.d a)).set j2 (.d b) | _ => r) xs (ei_list h) (List.length_map _) (fun i hi => getD_map _ hi)
    (fun _ _ => go_tup2) (fun _ => Inv) h0 (fun _ => hs) (fun _ => hd)
/-- for i in range(n) -/
theorem es_forR {n : Nat} (h : EvF K te ρ (.int n)) (hn : n ≤ 1000000) (Inv : Nat → Rho → Prop) (h0 : Inv 0 ρ)
    (hs : ∀ i ρ', i < n → Inv i ρ' → EvS K E t (ρ'.set j (.d (.int i))) { nx := Inv (i + 1), rt := D.rt, bk := D.nx, ct := Inv (i + 1) }) (hd : ∀ ρ', Inv n ρ' → D.nx ρ') : EvS K E (tFor (iRng1 (tCons te tNil)) (gName j) t) ρ D :=
  es_for (js := [j]) (f := fun i r => r.set j (.d (.int i))) Inv (ei_rng h hn) (fun _ _ => go_name) h0 hs hd
/-- for i in reversed(range(n)): Inv k: k turns are left -/
theorem es_forRR {n : Nat} (h : EvF K te ρ (.int n)) (hn : n ≤ 1000000) (Inv : Nat → Rho → Prop) (h0 : Inv n ρ)
    (hs : ∀ k ρ', k < n → Inv (k + 1) ρ' → EvS K E t (ρ'.set j (.d (.int k))) { nx := Inv k, rt := D.rt, bk := D.nx, ct := Inv k }) (hd : ∀ ρ', Inv 0 ρ' → D.nx ρ') : EvS K E (tFor (iRevR (tRg1 te)) (gName j) t) ρ D := by
  refine es_for (js := [j]) (f := fun i r => r.set j (.d (.int ((n : Int) - 1 - i)))) (fun i => Inv (n - i)) (ei_revR h hn) (fun _ _ => go_name) h0 (fun i ρ' hi hq => ?_) (fun ρ' hq => ?_)
  · have e1 : n - i = (n - (i + 1)) + 1 := by omega
    have e2 : (n : Int) - 1 - (i : Nat) = ((n - (i + 1) : Nat) : Int) := by omega
    rw [e1] at hq
    have := hs (n - (i + 1)) ρ' (by omega) hq
    rw [← e2] at this
    exact this
  · rw [Nat.sub_self] at hq
    exact hd ρ' hq
theorem es_while (Inv : Nat → Rho → Prop) (m : Nat) (h0 : Inv m ρ) (hs : ∀ m ρ', Inv m ρ' → ∃ b, EvT K tt ρ' b ∧ (b = true → EvS K E t ρ' { nx := fun r => ∃ m', m' < m ∧ Inv m' r, rt := D.rt, bk := D.nx, ct := fun r => ∃ m', m' < m ∧ Inv m' r }) ∧ (b = false → D.nx ρ')) :
    EvS K E (tWhile tt t) ρ D := fun F0 H0 σ F H e D' a b c d => by
  refine ⟨fun m σ' H' => ∃ F' ρ', Hs K F0 H0 σ' F' H' ρ' ∧ Same F F' ∧ Inv m ρ', ⟨m, F, ρ, e, Same.refl _, h0⟩, ?_⟩
  rintro m σ1 H1 ⟨F1, ρ1, e1, s1, h1⟩
  obtain ⟨bb, ht, k1, k2⟩ := hs m ρ1 h1
  refine ht F0 H0 σ1 F1 H1 e1 _ fun F2 H2 g2 => ?_
  have s2 := s1.trans g2.f
  cases bb with
  | true =>
    rw [if_pos rfl]
    refine ⟨fun σ' H' => ∃ m', m' < m ∧ ∃ F' ρ', Hs K F0 H0 σ' F' H' ρ' ∧ Same F F' ∧ Inv m' ρ', fun σ' H' ⟨m', hm, q⟩ => ⟨m', hm, q⟩, ?_⟩
    exact k1 rfl F0 H0 σ1 F2 H2 (e1.grow g2) _ (fun σ4 F4 H4 ρ4 e4 s4 ⟨m', hm, h4⟩ => ⟨m', hm, F4, ρ4, e4, s2.trans s4, h4⟩) b (fun σ4 F4 H4 ρ4 e4 s4 h4 => a σ4 F4 H4 ρ4 e4 (s2.trans s4) h4)
      (fun σ4 F4 H4 ρ4 e4 s4 ⟨m', hm, h4⟩ => ⟨m', hm, F4, ρ4, e4, s2.trans s4, h4⟩)
  | false =>
    rw [if_neg Bool.false_ne_true]
    exact a σ1 F2 H2 ρ1 (e1.grow g2) s2 (k2 rfl)
end

/-! ### a def keeps its promise -/
def rho0 : Nat → List Da → Rho
  | 0, _ => []
  | n + 1, [] => .un :: rho0 n []
  | n + 1, d :: ds => .d d :: rho0 n ds
theorem rho0_nil : ∀ n, rho0 n [] = List.replicate n Sl.un
  | 0 => rfl
  | n + 1 => by rw [rho0, rho0_nil n]; rfl
theorem hs_start {K : PySem.W.Frag} {F H : Hp} (s : Same F H) : ∀ {N : List Str} {vs : List V} {ds : List Da}, DqA K F vs ds → vs.length ≤ N.length → Hs K F H (start N vs) F H (rho0 N.length ds) := by
  intro N vs ds h hl
  have key : ∀ (n : Nat) (vs : List V) (ds : List Da), DqA K F vs ds → vs.length ≤ n → (vs.map some ++ List.replicate (n - vs.length) none).length = (rho0 n ds).length ∧
      (∀ (i : Nat) (r : Sl), (rho0 n ds)[i]? = some r → (∀ xs, r ≠ .m xs) ∧ ∃ o, (vs.map some ++ List.replicate (n - vs.length) none)[i]? = some o ∧ Slot K H F H o r) := by
    intro n
    induction n with
    | zero =>
      intro vs ds h hl
      cases h with
      | nil => exact ⟨rfl, fun i r q => by simp [rho0] at q⟩
      | cons _ _ => simp at hl
    | succ n ih =>
      intro vs ds h hl
      cases h with
      | nil =>
        obtain ⟨l, k⟩ := ih [] [] .nil (Nat.zero_le _)
        refine ⟨?_, fun i r q => ?_⟩
        · simp only [List.map_nil, List.nil_append, List.length_replicate, List.length_nil, Nat.sub_zero, rho0, List.length_cons] at l ⊢
          omega
        · cases i with
          | zero =>
            have e := Option.some.inj (show some Sl.un = some r from q)
            subst e
            exact ⟨fun _ z => (by cases z), none, rfl, trivial⟩
          | succ i =>
            obtain ⟨a, o, b, c⟩ := k i r (by simpa [rho0] using q)
            refine ⟨a, o, ?_, c⟩
            simpa [List.replicate_succ] using b
      | @cons v vs d ds h1 h2 =>
        obtain ⟨l, k⟩ := ih vs ds h2 (by simpa using hl)
        refine ⟨?_, fun i r q => ?_⟩
        · simp only [List.map_cons, List.cons_append, List.length_cons, rho0, Nat.add_sub_add_right] at l ⊢
          omega
        · cases i with
          | zero =>
            have e := Option.some.inj (show some (Sl.d d) = some r from q)
            subst e
            exact ⟨fun _ z => (by cases z), some v, rfl, v, rfl, h1⟩
          | succ i =>
            obtain ⟨a, o, b, c⟩ := k i r (by simpa [rho0] using q)
            refine ⟨a, o, ?_, c⟩
            simpa using b
  obtain ⟨l, k⟩ := key N.length vs ds h hl
  exact ⟨Grow.refl s, l, fun i r q => (k i r q).2, fun i j xs ys _ h1 _ => absurd rfl ((k i _ h1).1 xs)⟩
theorem fn_data {P : Program} {w : World} {K : PySem.W.Frag} {mg : Str → Option Value} {base : Heap} {x : Str} {params : Arguments} {body : List Stmt} {scope : Scope} {f : Addr} {fd : FuncData} {N ps : List Str} {k n : Nat} {Gr : List Da → Out → Prop}
    (F : FunD K x x params body scope [] [] f fd) (S : FnScope N ps scope) (hn : N.length = n) (hlen : ∀ ds r, Gr ds r → ds.length = ps.length)
    (hbody : ∀ (cdv : Value) (A : Around) (outer : List Env) (s : Shared) (H : Hp) (E : XK), Room k (A.deeper (envOfC x scope s.heap.objs.size f cdv)) →
      ∃ t, PSs (cxOf (L2N.CX P w) P w K mg base N x scope f cdv A outer s H E) body t ∧ ∀ ds r, Gr ds r → EvS K E t (rho0 n ds) { nx := fun _ => r = .f .non, rt := fun r' => r' = r }) : FnOk P w K mg base (L2N.CX P w) (k + 1) f fd ps (spD K Gr) := by
  subst hn
  refine F.ok S (fun vs H Q E h => ?_) (fun cdv A outer s H vs Q E hr h => ?_)
  · obtain ⟨F1, ds, r, _, hd, hG, _⟩ := h
    rw [hd.len]
    exact hlen ds r hG
  · obtain ⟨F1, ds, r, s1, hd, hG, hQ⟩ := h
    obtain ⟨t, ht, hE⟩ := hbody cdv A outer s H E hr
    have hNl : ps.length ≤ N.length := by
      have := congrArg List.length S.pre
      rw [List.length_take] at this
      omega
    refine ⟨t, ht, hE ds r hG F1 H _ F1 H (hs_start s1 hd (by rw [hd.len, hlen ds r hG]; exact hNl)) _ (fun σ' F' H' ρ' e' _ e => ?_) (fun r' e => ?_) (fun _ _ _ _ _ _ z => z.elim) (fun _ _ _ _ _ _ z => z.elim)⟩
    · have e : r = .f .non := e
      subst e
      exact hQ .non F' H' e'.g .non
    · have e : r' = r := e
      subst e
      exact hQ
theorem cal_of {P : Program} {w : World} {K : PySem.W.Frag} {mg : Str → Option Value} {base : Heap} {x : Str} {params : Arguments} {body : List Stmt} {scope : Scope} {f : Addr} {fd : FuncData} {N ps : List Str} {k n : Nat} {Gr : List Da → Out → Prop}
    (F : FunD K x x params body scope [] [] f fd) (S : FnScope N ps scope) (hm : mg x = some (.ref f)) (hb : Binds K fd ps []) (hn : N.length = n) (hlen : ∀ ds r, Gr ds r → ds.length = ps.length)
    (hbody : ∀ (cdv : Value) (A : Around) (outer : List Env) (s : Shared) (H : Hp) (E : XK), Room k (A.deeper (envOfC x scope s.heap.objs.size f cdv)) →
      ∃ t, PSs (cxOf (L2N.CX P w) P w K mg base N x scope f cdv A outer s H E) body t ∧ ∀ ds r, Gr ds r → EvS K E t (rho0 n ds) { nx := fun _ => r = .f .non, rt := fun r' => r' = r }) : Cal P w K mg base (k + 1) x ps Gr :=
  ⟨f, fd, fn_data F S hn hlen hbody, hm, F.kp, hb⟩
/-- for the head: nothing is let out -/
theorem fn_quiet {P : Program} {w : World} {K : PySem.W.Frag} {mg : Str → Option Value} {base : Heap} {k : Nat} {f : Addr} {fd : FuncData} {ps : List Str} {sp : Sp} (F : FnOk P w K mg base (L2N.CX P w) k f fd ps sp) : FnOk P w K mg base L2.CX0 k f fd ps (fun vs H Q _ => sp vs H Q E0) := by
  refine ⟨fun vs H Q E h => F.len vs H Q E0 h, fun A outer s H args us vs Q E hr he hb hv hs => codeAny_mono (F.run A outer s H args us vs Q E0 hr he hb hv hs) fun r s' h => ?_⟩
  cases r with
  | ok o => cases o <;> exact h
  | error e =>
    obtain ⟨_, _, _, _, _, _, _, _, _, _, _, _, z⟩ := h
    exact z.elim
end TR

/-! own layer: the operators in one, errors, names -/
namespace TR
open PySem PySem.Spec PyProof.Rows L2
def rAddS' : R2 := fun x y H Q => ∃ i j, x = .str i ∧ y = .str j ∧ i.length + j.length ≤ sizeLine ∧ Q (.str (i ++ j)) H
def rAdd3 : R2 := fun x y H Q => rI0 (fun i j => .int (i + j)) x y H Q ∨ (fun x y H Q => rCat x y H Q ∨ rAddS' x y H Q) x y H Q
def rMul2 : R2 := fun x y H Q => rI CMul (fun i j => .int (i * j)) x y H Q ∨ rRep x y H Q
def rEq2 (K : PySem.W.Frag) : R2 := fun x y H Q => rEq x y H Q ∨ rEqD K x y H Q
def rNe2 (K : PySem.W.Frag) : R2 := fun x y H Q => rNe x y H Q ∨ rNeD K x y H Q
def rInC : R2 := fun x y H Q => ∃ (c : Nat) (z : Str), x = .str ⟨#[c]⟩ ∧ y = .str z ∧ Q (.bl (decide (c ∈ z.cps.toList))) H
def rIn2 (K : PySem.W.Frag) : R2 := fun x y H Q => rInD K x y H Q ∨ rInC x y H Q
def rNi2 (K : PySem.W.Frag) : R2 := fun x y H Q => rNotInD K x y H Q ∨ (fun x y H Q => ∃ (c : Nat) (z : Str), x = .str ⟨#[c]⟩ ∧ y = .str z ∧ Q (.bl (!decide (c ∈ z.cps.toList))) H) x y H Q
abbrev rSub2 : R2 := rI0 fun i j => .int (i - j)
abbrev rFdv : R2 := rI CDiv fun i j => .int (i / j)
abbrev rMod2 : R2 := rI (fun _ j => 0 < j) fun i j => .int (i % j)
abbrev rPow2 : R2 := rI CPow fun i j => .int (i ^ j.toNat)
abbrev rShl2 : R2 := rI CPow fun i j => .int (i * 2 ^ j.toNat)
abbrev rLt2 : R2 := rI0 fun i j => .bl (decide (i < j))
abbrev rLe2 : R2 := rI0 fun i j => .bl (decide (i ≤ j))
abbrev rGt2 : R2 := rI0 fun i j => .bl (decide (j < i))
abbrev rGe2 : R2 := rI0 fun i j => .bl (decide (j ≤ i))
section
variable {X : Cx} {k : Nat}
theorem opAdd : OpR X (binaryOp .Add) rAdd3 := op_add.or (op_cat.or op_add_str)
theorem opMul : OpR X (binaryOp .Mult) rMul2 := op_mul.or op_rep
theorem units64 {A : Around} (hr : Room k A) : A.units + 64 < cLine := by have := hr.un; omega
theorem units65 {A : Around} (hr : Room k A) : A.units + 65 < cLine := by have := hr.un; omega
end
section
variable {X : Cx} {k : Nat} {K : PySem.W.Frag}
theorem opEq (hr : Room k X.A) (hK : X.K = K) : OpR X (compareOp .Eq) (rEq2 K) := hK ▸ op_eq.or (op_eqD (units64 hr))
theorem opNe (hr : Room k X.A) (hK : X.K = K) : OpR X (compareOp .NotEq) (rNe2 K) := hK ▸ op_ne.or (op_neD (units64 hr))
theorem opIn (hr : Room k X.A) (hK : X.K = K) : OpR X (compareOp .In) (rIn2 K) := hK ▸ (op_inD (units65 hr)).or op_in_sign
theorem opNi (hr : Room k X.A) (hK : X.K = K) : OpR X (compareOp .NotIn) (rNi2 K) := hK ▸ (op_notInD (units65 hr)).or op_notIn_sign
theorem ixK (hK : X.K = K) : IxR X (rIx K) := hK ▸ ix_seq
theorem isiK (hK : X.K = K) : CallR X (.builtin "isinstance") (rIsi K) := hK ▸ call_isi
theorem lenK (hK : X.K = K) : CallR X (.builtin "len") (fun xs H Q => ∃ x n, xs = [x] ∧ LenV K x H n ∧ Q (.int n) H) := hK ▸ call_len
theorem allK (hc : X.calm = true) (hK : X.K = K) : CallR X (.builtin "all") (rAll K) := hK ▸ cr_all hc
theorem anyK (hc : X.calm = true) (hK : X.K = K) : CallR X (.builtin "any") (rAny K) := hK ▸ cr_any hc
theorem listK (hK : X.K = K) : CallR X (.type "list") (fun xs H Q => ∃ p ys, xs = [.ref p] ∧ (SqL K H p ys ∨ SqT K H p ys) ∧ ∀ l, H l = none → Q (.ref l) (upd H l (.lst ys))) := hK ▸ call_list_of
theorem sortedK (hK : X.K = K) : CallR X (.builtin "sorted") (rSorted K) := hK ▸ cr_sorted
theorem slK (hK : X.K = K) : SlR X (rSlL K) := hK ▸ sl_list
theorem revK {e : Expr} {te : TE} {j : Nat} {p1 p2 p3 pos : Pos} (hK : X.K = K) (he : PE X e te) : PE X (.Subscript e (.Slice none none (some (.UnaryOp .USub (.Constant (.int 1) j p1) p2)) p3) pos) (tRevL K te) := hK ▸ pe_revL he
theorem listPI {tg e : Expr} {te : TE} (hK : X.K = K) (h : PI X tg e (iList X.K te)) : PI X tg e (iList K te) := hK ▸ h
theorem tupPI {tg e : Expr} {te : TE} (hK : X.K = K) (h : PI X tg e (iTup X.K te)) : PI X tg e (iTup K te) := hK ▸ h
theorem enumPI {tg e : Expr} {ta : TA} (hK : X.K = K) (h : PI X tg e (iEnum X.K ta)) : PI X tg e (iEnum K ta) := hK ▸ h
theorem revPI {tg e : Expr} {ta : TA} (hK : X.K = K) (h : PI X tg e (iRev X.K ta)) : PI X tg e (iRev K ta) := hK ▸ h
theorem tupPG {tg : Expr} {n : Nat} {t : TGs} (hK : X.K = K) (h : PG X tg (gTup X.K n t)) : PG X tg (gTup K n t) := hK ▸ h
theorem appPE {e : Expr} {id : String} {r : V → List V → Hp → VK → Prop} {to : TE} {t : TA} (hK : X.K = K) (h : PE X e (tBM X.K id r to t)) : PE X e (tBM K id r to t) := hK ▸ h
end
/-- an own class of errors -/
structure ErrC (K : PySem.W.Frag) (mg : Str → Option Value) (x : Str) (C : Addr) : Prop where
  g : mg x = some (.ref C)
  k : PySem.W.keepIn K (.ref C) = true
  q : PySem.W.excIn K C He.veBase "ValueError.__new__" = true
  b : PySem.W.subIn K (.ref C) (.type "BaseException") = some true
  t : PySem.W.typeIn K (.ref C) = some (.type "type")
section
variable {X : Cx} {C : Addr} {bmB : List Value} {B newId initId : String}
/-- a new exception of an own class, its context none -/
theorem pmk_ownN {x m : Str} {j : Nat} {p p2 pos : Pos} (F : ExcBaseFacts B newId initId bmB) (q : PySem.W.excIn X.K C bmB newId = true) (gC : X.mg x = some (.ref C)) (kC : PySem.W.keepIn X.K (.ref C) = true) (rz : Raises X (.ref C)) (hg : Gl X x)
    (hdb : (x == ("__debug__" : Str)) = false := by decide) : L2N.PMk X (.Call (.Name x p) [.Constant (.str m) j p2] [] pos) (fun _ H Q => Q (.ref C) none H) := fun pins s σ H Q inv want => by
  have arg : PA X [.Constant (.str m) j p2] (tCons (tC (.str m)) tNil) := pa_cons pe_str pa_nil
  refine wpAny_Call_Name_kw (ld_glob inv hg gC (PySem.W.callWith_K (h₀ := X.base) inv.ok.mod.kin kC (thn (arg.run pos pins s σ H (fun us G => us = [V.str m] ∧ H = G) inv ⟨rfl, rfl⟩) fun us s1 ⟨vs, G, inv1, rel, ev, eH⟩ => ?_)) hdb)
  cases eH
  cases ev
  refine ⟨inv1.kIn, ?_⟩
  cases rel with
  | cons ru rn =>
    cases rn
    obtain ⟨_, _, _, _, _, _, _, _, _, _, _, _, _, _, _, _, _, hC, hN, hni, T⟩ := exc_obj inv1.kIn q
    exact wpAny_call_exc_subT F T hC hN hni (fun h' e hm => L2N.mk_of inv1 hm rz want (inv1.hok.gone hm.new)) (by show 1 ≤ sizeLine; rw [sizeLine_eq]; decide)
end
/-- where nothing is wished of exceptions none is let out -/
theorem passN {X : Cx} : Passes (L2N.CX X.prog X.w) X E0 := fun _ _ _ _ _ _ _ h => by
  obtain ⟨_, _, _, _, _, _, _, _, _, _, _, _, z⟩ := h
  exact z.elim
section
variable {P : Program} {w : World} {K : PySem.W.Frag} {mg : Str → Option Value} {base : Heap} {N : List Str} {qual : Str} {scope : Scope} {f : Addr} {cd : Value} {A : Around} {outer : List Env} {s : Shared} {H : Hp} {E : XK}
theorem raise_own {x m : Str} {C : Addr} {j : Nat} {p p2 pos pos' : Pos} (e : ErrC K mg x C) (hg : Gl (cxOf (L2N.CX P w) P w K mg base N qual scope f cd A outer s H E) x) (hdb : (x == ("__debug__" : Str)) = false := by decide) :
    PS (cxOf (L2N.CX P w) P w K mg base N qual scope f cd A outer s H E) (.Raise (some (.Call (.Name x p) [.Constant (.str m) j p2] [] pos)) none pos') (fun _ _ H => E (.ref C) none H) :=
  L2N.ps_raise rfl (L2N.takes_of rfl rfl rfl rfl) (pmk_ownN PySem.F.excBase_ValueError e.q e.g e.k (raises_own e.b e.t) hg hdb)
/-- what a callee lets out leaves the def -/
theorem lets_on : Lets (cxOf (L2N.CX P w) P w K mg base N qual scope f cd A outer s H E) E := L2N.passes_call (L2N.takes_of rfl rfl rfl rfl) fun _ _ _ _ h => h
theorem loops_on : PassesOwn (model P w) (cxOf (L2N.CX P w) P w K mg base N qual scope f cd A outer s H E).A (cxOf (L2N.CX P w) P w K mg base N qual scope f cd A outer s H E).env (cxOf (L2N.CX P w) P w K mg base N qual scope f cd A outer s H E).xe := passes_of rfl
end
end TR

/-! own layer: the operators' values by name; a tactic row that evaluates -/
namespace TR
open PySem PySem.Spec PyProof.Rows L2
section
variable {K : PySem.W.Frag} {x y z : Da} {xs ys : List Da} {a b : Int} {u v : Str} {p q : Bool} {ρ : Rho} {ta tb te : TE}
theorem rv_add : RvD K rAdd3 (.int a) (.int b) (.int (a + b)) := RvD.ll rv_int2
theorem rv_addS (h : u.length + v.length ≤ 1000000) : RvD K rAdd3 (.str u) (.str v) (.str (u ++ v)) := fun x y H Q hx hy k => by
  cases hx
  cases hy
  exact .inr (.inr ⟨u, v, rfl, rfl, Nat.le_trans h (by decide), k _ fun _ => .str _⟩)
theorem rp_add (h : xs.length + ys.length ≤ 1000000) : RvP K rAdd3 xs ys (xs ++ ys) := RvP.rr (RvP.ll (rp_cat h))
theorem rv_sub : RvD K rSub2 (.int a) (.int b) (.int (a - b)) := rv_int2
theorem rv_mul (h : CMul a b) : RvD K rMul2 (.int a) (.int b) (.int (a * b)) := RvD.ll (rv_intC h)
theorem cmul_l (h : -(2 ^ 64) < a ∧ a < 2 ^ 64) : CMul a b := .inl h
theorem cmul_r (h : -(2 ^ 64) < b ∧ b < 2 ^ 64) : CMul a b := .inr h
theorem rr_mul (h : xs.length * a.toNat ≤ 1000000) (h0 : -1000000 ≤ a) (h1 : a ≤ 1000000) : RvR K rMul2 xs a (List.replicate a.toNat xs).flatten := RvR.rr (rr_rep h h0 h1)
theorem rv_fdv (h : CDiv a b) : RvD K rFdv (.int a) (.int b) (.int (a / b)) := rv_intC h
theorem cdiv_of (h : 0 < b) (h2 : b < 1073741824) : CDiv a b := ⟨h, h2⟩
theorem rv_mod (h : 0 < b) : RvD K rMod2 (.int a) (.int b) (.int (a % b)) := rv_intC h
theorem rv_pow (h : CPow a b) : RvD K rPow2 (.int a) (.int b) (.int (a ^ b.toNat)) := rv_intC h
theorem rv_shl (h : CPow a b) : RvD K rShl2 (.int a) (.int b) (.int (a * 2 ^ b.toNat)) := rv_intC h
theorem rv_lt : RvD K rLt2 (.int a) (.int b) (.bl (decide (a < b))) := rv_cmp2
theorem rv_le : RvD K rLe2 (.int a) (.int b) (.bl (decide (a ≤ b))) := rv_cmp2
theorem rv_gt : RvD K rGt2 (.int a) (.int b) (.bl (decide (b < a))) := rv_cmp2
theorem rv_ge : RvD K rGe2 (.int a) (.int b) (.bl (decide (b ≤ a))) := rv_cmp2
theorem rv_eqi : RvD K (rEq2 K) (.int a) (.int b) (.bl (decide (a = b))) := RvD.ll rv_eqI
theorem rv_eqs : RvD K (rEq2 K) (.str u) (.str v) (.bl (decide (u = v))) := RvD.ll rv_eqS
theorem rv_eqb : RvD K (rEq2 K) (.bl p) (.bl q) (.bl (decide (p = q))) := RvD.ll rv_eqB
theorem rv_eqd (n m : Nat) (hx : okD n x) (hy : okD m y) (hn : n ≤ 60) (hm : m ≤ 60) : RvD K (rEq2 K) x y (.bl (eqD x y)) := RvD.rr (rv_eqD n m hx hy hn hm)
theorem rv_nei : RvD K (rNe2 K) (.int a) (.int b) (.bl (!decide (a = b))) := RvD.ll rv_neI
theorem rv_nes : RvD K (rNe2 K) (.str u) (.str v) (.bl (!decide (u = v))) := RvD.ll rv_neS
theorem rv_neb : RvD K (rNe2 K) (.bl p) (.bl q) (.bl (!decide (p = q))) := RvD.ll rv_neB
theorem rv_ned (n m : Nat) (hx : okD n x) (hy : okD m y) (hn : n ≤ 60) (hm : m ≤ 60) : RvD K (rNe2 K) x y (.bl (!eqD x y)) := RvD.rr (rv_neD n m hx hy hn hm)
theorem rv_in (n m : Nat) (hx : okD n x) (hy : okD m (.lst xs)) (hn : n ≤ 60) (hm : m ≤ 60) : RvD K (rIn2 K) x (.lst xs) (.bl (xs.any fun z => eqD z x)) := RvD.ll (rv_inD n m hx hy hn hm)
theorem rv_ni (n m : Nat) (hx : okD n x) (hy : okD m (.lst xs)) (hn : n ≤ 60) (hm : m ≤ 60) : RvD K (rNi2 K) x (.lst xs) (.bl (!xs.any fun z => eqD z x)) := RvD.ll (rv_niD n m hx hy hn hm)
theorem rv_inC {c : Nat} : RvD K (rIn2 K) (.str ⟨#[c]⟩) (.str u) (.bl (decide (c ∈ u.cps.toList))) := fun x y H Q hx hy k => by
  cases hx
  cases hy
  exact .inr ⟨c, u, rfl, rfl, k _ fun _ => .bl _⟩
/-- a list of ints: in -/
theorem any_int {a : Int} : ∀ {l : List Int}, (l.map Da.int).any (fun z => eqD z (.int a)) = decide (a ∈ l)
  | [] => rfl
  | b :: l => by
    have e : eqD (.int b) (.int a) = decide (b = a) := by
      unfold eqD
      simp only [Da.py, PyData.eqv]
      rfl
    rw [List.map_cons, List.any_cons, any_int, e]
    by_cases h : b = a
    · subst h; simp
    · have h' : ¬ a = b := fun z => h z.symm
      simp [h, h']
theorem okD_ints (l : List Int) : okD 1 (.lst (l.map Da.int)) := fun x hx => by
  obtain ⟨i, _, rfl⟩ := List.mem_map.mp hx
  trivial
theorem rv_inI {l : List Int} : RvD K (rIn2 K) (.int a) (.lst (l.map Da.int)) (.bl (decide (a ∈ l))) := by
  rw [← any_int]
  exact rv_in 0 1 trivial (okD_ints l) (by decide) (by decide)
theorem rv_niI {l : List Int} : RvD K (rNi2 K) (.int a) (.lst (l.map Da.int)) (.bl (!decide (a ∈ l))) := by
  rw [← any_int]
  exact rv_ni 0 1 trivial (okD_ints l) (by decide) (by decide)
end
end TR

/-! own layer: one statement ahead of the rest -/
namespace TR
open PySem PySem.Spec PyProof.Rows L2
section
variable {K : PySem.W.Frag} {ρ : Rho} {te ta tb tx ti : TE} {tr : TA} {tt : TT} {x y z : Da} {xs ys zs : List Da} {i j l : Nat} {E : XK} {t u v : TS} {D : DE} {C : Addr}
theorem es_last (h : EvS K E (tSeq t tNext) ρ D) : EvS K E t ρ D := h
theorem q_assoc (h : EvS K E (tSeq t (tSeq u v)) ρ D) : EvS K E (tSeq (tSeq t u) v) ρ D := h
theorem q_next (h : EvS K E u ρ D) : EvS K E (tSeq tNext u) ρ D := h
theorem q_end (h : D.nx ρ) : EvS K E tNext ρ D := es_next h
theorem q_asg (h : EvF K te ρ x) (k : EvS K E u (ρ.set i (.d x)) D) : EvS K E (tSeq (tAsg te (gName i)) u) ρ D := es_seq (M := fun r => EvS K E u r D) (es_asg h k) fun _ q => q
theorem q_asgN (h : EvN K te ρ xs) (k : EvS K E u (ρ.set i (.m xs)) D) : EvS K E (tSeq (tAsg te (gName i)) u) ρ D := es_seq (M := fun r => EvS K E u r D) (es_asgN h k) fun _ q => q
theorem q_asgL (h : EvN K te ρ xs) (k : EvS K E u (ρ.set i (.l xs)) D) : EvS K E (tSeq (tAsg te (gName i)) u) ρ D := es_seq (M := fun r => EvS K E u r D) (es_asgL h k) fun _ q => q
theorem q_asgX {g : TG} (h : EvX K E te ρ C) (k : D.rt (.e C)) : EvS K E (tSeq (tAsg te g) u) ρ D := es_seq (M := fun _ => False) (es_asgX h k) fun _ q => q.elim
theorem q_tup {g : TG} {js : List Nat} {f : Rho → Rho} (hg : GoT K g x js f) (h : EvF K te ρ x) (k : EvS K E u (f ρ) D) : EvS K E (tSeq (tAsg te g) u) ρ D := es_seq (M := fun r => EvS K E u r D) (es_tup hg h k) fun _ q => q
theorem q_drop (h : EvF K te ρ x) (k : EvS K E u ρ D) : EvS K E (tSeq (tDrop te) u) ρ D := es_seq (M := fun r => EvS K E u r D) (es_drop h k) fun _ q => q
theorem q_dropX (h : EvX K E te ρ C) (k : D.rt (.e C)) : EvS K E (tSeq (tDrop te) u) ρ D := es_seq (M := fun _ => False) (es_dropX h k) fun _ q => q.elim
theorem q_ret (h : EvF K te ρ x) (k : D.rt (.f x)) : EvS K E (tSeq (tRet te) u) ρ D := es_seq (M := fun _ => False) (es_ret h k) fun _ q => q.elim
theorem q_retN (h : EvN K te ρ xs) (k : D.rt (.n xs)) : EvS K E (tSeq (tRet te) u) ρ D := es_seq (M := fun _ => False) (es_retN h k) fun _ q => q.elim
theorem q_retM (h : ρ[i]? = some (.m xs)) (k : D.rt (.n xs)) : EvS K E (tSeq (tRet (tVar i)) u) ρ D := es_seq (M := fun _ => False) (es_retM h k) fun _ q => q.elim
theorem q_retX (h : EvX K E te ρ C) (k : D.rt (.e C)) : EvS K E (tSeq (tRet te) u) ρ D := es_seq (M := fun _ => False) (es_retX h k) fun _ q => q.elim
theorem q_raise (k : D.rt (.e C)) : EvS K E (tSeq (fun _ _ H => E (.ref C) none H) u) ρ D := es_seq (M := fun _ => False) (es_raise k) fun _ q => q.elim
theorem q_if {b : Bool} (h : EvT K tt ρ b) (h1 : b = true → EvS K E (tSeq t v) ρ D) (h2 : b = false → EvS K E (tSeq u v) ρ D) : EvS K E (tSeq (tIfS tt t u) v) ρ D := fun F0 H0 σ F H e D' a q c d => by
  refine h F0 H0 σ F H e _ fun F1 H1 g => ?_
  have e1 := e.grow g
  have k1 : ∀ {P : L2.St → Hp → Prop} {N : Rho → Prop}, (∀ σ' F' H' ρ', Hs K F0 H0 σ' F' H' ρ' → Same F F' → N ρ' → P σ' H') → ∀ σ' F' H' ρ', Hs K F0 H0 σ' F' H' ρ' → Same F1 F' → N ρ' → P σ' H' :=
    fun w σ' F' H' ρ' e' s n => w σ' F' H' ρ' e' (g.f.trans s) n
  cases b with
  | true => exact h1 rfl F0 H0 σ F1 H1 e1 D' (k1 a) q (k1 c) (k1 d)
  | false => exact h2 rfl F0 H0 σ F1 H1 e1 D' (k1 a) q (k1 c) (k1 d)
theorem q_app (hi : ρ[i]? = some (.m xs)) (h : EvF K te ρ x) (hl : xs.length < 1000000) (k : EvS K E u (ρ.set i (.m (xs ++ [x]))) D) : EvS K E (tSeq (tDrop (tBM K "list" rAppend (tVar i) (tCons te tNil))) u) ρ D := es_seq (M := fun r => EvS K E u r D) (es_app hi h hl k) fun _ q => q
theorem q_put {k' : Int} (hi : ρ[i]? = some (.m xs)) (h : EvF K te ρ x) (ht : EvF K ti ρ (.int k')) (hj : ixN xs.length k' = some j) (k : EvS K E u (ρ.set i (.m (xs.set j x))) D) : EvS K E (tSeq (tAsg te (gSub (tVar i) ti rSetL)) u) ρ D := es_seq (M := fun r => EvS K E u r D) (es_put hi h ht hj k) fun _ q => q
theorem q_aug {f : Int → Int → Int} {a b : Int} (hi : ρ[i]? = some (.d (.int a))) (h : EvF K te ρ (.int b)) (k : EvS K E u (ρ.set i (.d (.int (f a b)))) D) : EvS K E (tSeq (tAug i te (ipI f)) u) ρ D := es_seq (M := fun r => EvS K E u r D) (es_aug hi h k) fun _ q => q
theorem q_par2 (h : EvA K tr ρ [x, y]) (k : EvS K E u ((ρ.set i (.d x)).set l (.d y)) D) : EvS K E (tSeq (tPar i l tr) u) ρ D := es_seq (M := fun r => EvS K E u r D) (es_par2 h k) fun _ q => q
theorem q_par3 {m : Nat} (h : EvA K tr ρ [x, y, z]) (k : EvS K E u (((ρ.set i (.d x)).set l (.d y)).set m (.d z)) D) : EvS K E (tSeq (tPar3 i l m tr) u) ρ D := es_seq (M := fun r => EvS K E u r D) (es_par3 h k) fun _ q => q
/-- a, b = [], [] -/
theorem q_parNN (hil : i ≠ l) (k : EvS K E u ((ρ.set i (.m [])).set l (.m [])) D) : EvS K E (tSeq (tPar i l (tCons (tLst tNil) (tCons (tLst tNil) tNil))) u) ρ D :=
  es_seq (M := fun r => EvS K E u r D) (es_parNN (en_lst ea_nil (Nat.zero_le _)) (fun r => en_lst ea_nil (Nat.zero_le _)) hil k (fun _ _ _ _ => Iff.rfl)) fun _ q => q
/-- any statement that reaches its end with slots known by a predicate -/
theorem q_mid (M : Rho → Prop) (h : EvS K E t ρ { D with nx := M }) (k : ∀ ρ', M ρ' → EvS K E u ρ' D) : EvS K E (tSeq t u) ρ D := es_seq h k
theorem q_frz (i : Nat) (hi : ρ[i]? = some (.m xs)) (h : EvS K E t (ρ.set i (.l xs)) D) : EvS K E t ρ D := es_frz hi h
end
end TR

/-! own layer: further rules -/
namespace TR
open PySem PySem.Spec PyProof.Rows L2
section
variable {K : PySem.W.Frag} {ρ : Rho} {te ta tb tx ti : TE} {tr : TA} {tt : TT} {x y z : Da} {xs ys zs : List Da} {i j l : Nat} {E : XK} {t u v : TS} {D : DE} {C : Addr}
theorem eqD_nil (xs : List Da) : eqD (.lst xs) (.lst []) = xs.isEmpty := by
  unfold eqD
  simp only [Da.py, PyData.eqv]
  cases xs <;> simp [Da.pys, PyData.eqvAll]
theorem et_neNil (h : EvD K te ρ (.lst xs)) (ok : okD 58 (.lst xs)) : EvT K (tTest (tOp (rNe2 K) te (tLst tNil))) ρ (!xs.isEmpty) := by
  rw [← eqD_nil]
  exact et_test (ef_binD h (EvF.now (EvN.f (en_lst ea_nil (Nat.zero_le _)))) (rv_ned 58 1 ok (fun _ z => by cases z) (by decide) (by decide)))
theorem et_eqNil (h : EvD K te ρ (.lst xs)) (ok : okD 58 (.lst xs)) : EvT K (tTest (tOp (rEq2 K) te (tLst tNil))) ρ (xs.isEmpty) := by
  rw [← eqD_nil]
  exact et_test (ef_binD h (EvF.now (EvN.f (en_lst ea_nil (Nat.zero_le _)))) (rv_eqd 58 1 ok (fun _ z => by cases z) (by decide) (by decide)))
theorem okD_mono {n m : Nat} (hnm : n ≤ m) {d : Da} (h : okD n d) : okD m d := by
  induction n generalizing m d with
  | zero =>
    cases d with
    | lst _ => exact h.elim
    | tup _ => exact h.elim
    | emp => exact h.elim
    | adr _ => exact h.elim
    | ty _ => exact h.elim
    | non => cases m <;> exact h
    | bl _ => cases m <;> exact h
    | int _ => cases m <;> exact h
    | str _ => cases m <;> exact h
  | succ n ih =>
    obtain ⟨m', rfl⟩ : ∃ m', m = m' + 1 := ⟨m - 1, by omega⟩
    cases d with
    | lst xs => exact fun x hx => ih (by omega) (h x hx)
    | tup xs => exact fun x hx => ih (by omega) (h x hx)
    | emp => exact h.elim
    | adr _ => exact h.elim
    | ty _ => exact h.elim
    | non => trivial
    | bl _ => trivial
    | int _ => trivial
    | str _ => exact h
theorem okD_map {α : Type} {n : Nat} {enc : α → Da} (h : ∀ a, okD n (enc a)) (l : List α) : okD (n + 1) (.lst (l.map enc)) := fun x hx => by
  obtain ⟨a, _, rfl⟩ := List.mem_map.mp hx
  exact h a
theorem okD_tup2 {n : Nat} {a b : Da} (ha : okD n a) (hb : okD n b) : okD (n + 1) (.tup [a, b]) := fun x hx => by
  rcases List.mem_cons.mp hx with rfl | hx
  · exact ha
  · rw [List.mem_singleton] at hx
    rw [hx]
    exact hb
/-- a loop over a list that is known, turn by turn -/
def Lp {α : Type} (K : PySem.W.Frag) (E : XK) (t : TS) (f : α → Rho → Rho) (D : DE) : List α → Rho → Prop
  | [], ρ => D.nx ρ
  | a :: l, ρ => EvS K E t (f a ρ) { nx := Lp K E t f D l, rt := D.rt, bk := D.nx, ct := Lp K E t f D l }
theorem es_forPU {α : Type} {j1 j2 : Nat} (e1 e2 : α → Da) (xs : List α) (h : EvF K te ρ (.lst (xs.map fun a => .tup [e1 a, e2 a]))) (k : Lp K E t (fun a ρ => (ρ.set j1 (.d (e1 a))).set j2 (.d (e2 a))) D xs ρ) :
    EvS K E (tFor (iList K te) (gTup K 2 (gCons (gName j1) (gCons (gName j2) gNil))) t) ρ D :=
  es_forP e1 e2 xs h (fun l ρ => Lp K E t (fun a ρ => (ρ.set j1 (.d (e1 a))).set j2 (.d (e2 a))) D l ρ) k (fun a l ρ' q => q) fun ρ' q => q
theorem es_forLU {α : Type} (enc : α → Da) (xs : List α) (h : EvF K te ρ (.lst (xs.map enc))) (k : Lp K E t (fun a ρ => ρ.set j (.d (enc a))) D xs ρ) : EvS K E (tFor (iList K te) (gName j) t) ρ D :=
  es_forL enc xs h (fun l ρ => Lp K E t (fun a ρ => ρ.set j (.d (enc a))) D l ρ) k (fun a l ρ' q => q) fun ρ' q => q
/-- a tuple that is walked -/
theorem es_forTU {α : Type} (enc : α → Da) (xs : List α) (h : EvF K te ρ (.tup (xs.map enc))) (k : Lp K E t (fun a ρ => ρ.set j (.d (enc a))) D xs ρ) : EvS K E (tFor (iTup K te) (gName j) t) ρ D :=
  es_forT (fun _ => enc) (fun x r => r.set j (.d x)) xs (ei_tup h) (List.length_map _) (fun i hi => getD_map enc hi) (fun _ _ => go_name) (fun _ l ρ => Lp K E t (fun a ρ => ρ.set j (.d (enc a))) D l ρ) k (fun _ a l ρ' q => q) fun _ ρ' q => q
theorem set_self {α : Type} {l : List α} {i : Nat} {a : α} (h : l[i]? = some a) : l.set i a = l := by
  obtain ⟨h1, h2⟩ := List.getElem?_eq_some_iff.mp h
  rw [← h2]
  exact List.set_getElem_self h1
/-- an if that stores one name -/
theorem q_ifAsg {b : Bool} (h : EvT K tt ρ b) (h1 : b = true → EvF K te ρ x) (hi : ρ[i]? = some (.d y)) (k : EvS K E u (ρ.set i (.d (if b = true then x else y))) D) : EvS K E (tSeq (tIfS tt (tAsg te (gName i)) tNext) u) ρ D := by
  apply q_if h
  · intro hb
    refine q_asg (h1 hb) ?_
    rw [if_pos hb] at k
    exact k
  · intro hb
    rw [if_neg (by rw [hb]; exact Bool.false_ne_true), set_self hi] at k
    exact q_next k
/-- which built-in class -/
def isIntD : Da → Bool
  | .int _ => true
  | .bl _ => true
  | _ => false
def isBlD : Da → Bool
  | .bl _ => true
  | _ => false
def isStrD : Da → Bool
  | .str _ => true
  | _ => false
def isLstD : Da → Bool
  | .lst _ => true
  | _ => false
def isTupD : Da → Bool
  | .tup _ => true
  | _ => false
theorem kit_int (h : hasTy x) : kitB (tyN x) "int" = some (isIntD x) := by
  cases x <;> first | exact h.elim | (simp only [tyN, isIntD]; decide +kernel)
theorem kit_bool (h : hasTy x) : kitB (tyN x) "bool" = some (isBlD x) := by
  cases x <;> first | exact h.elim | (simp only [tyN, isBlD]; decide +kernel)
theorem kit_str (h : hasTy x) : kitB (tyN x) "str" = some (isStrD x) := by
  cases x <;> first | exact h.elim | (simp only [tyN, isStrD]; decide +kernel)
theorem kit_list (h : hasTy x) : kitB (tyN x) "list" = some (isLstD x) := by
  cases x <;> first | exact h.elim | (simp only [tyN, isLstD]; decide +kernel)
theorem kit_tuple (h : hasTy x) : kitB (tyN x) "tuple" = some (isTupD x) := by
  cases x <;> first | exact h.elim | (simp only [tyN, isTupD]; decide +kernel)
theorem ef_isInt (h : EvD K te ρ x) (ht : hasTy x) : EvF K (tCB (rIsi K) (tCons te (tCons (tC (.ty "int")) tNil))) ρ (.bl (isIntD x)) := ef_isi h ef_ty ht (kit_int ht)
theorem ef_isBool (h : EvD K te ρ x) (ht : hasTy x) : EvF K (tCB (rIsi K) (tCons te (tCons (tC (.ty "bool")) tNil))) ρ (.bl (isBlD x)) := ef_isi h ef_ty ht (kit_bool ht)
theorem ef_isStr (h : EvD K te ρ x) (ht : hasTy x) : EvF K (tCB (rIsi K) (tCons te (tCons (tC (.ty "str")) tNil))) ρ (.bl (isStrD x)) := ef_isi h ef_ty ht (kit_str ht)
theorem ef_isList (h : EvD K te ρ x) (ht : hasTy x) : EvF K (tCB (rIsi K) (tCons te (tCons (tC (.ty "list")) tNil))) ρ (.bl (isLstD x)) := ef_isi h ef_ty ht (kit_list ht)
theorem ef_isTuple (h : EvD K te ρ x) (ht : hasTy x) : EvF K (tCB (rIsi K) (tCons te (tCons (tC (.ty "tuple")) tNil))) ρ (.bl (isTupD x)) := ef_isi h ef_ty ht (kit_tuple ht)
/-! comprehensions over typed items -/
theorem range_map {α : Type} (xs : List α) (keep : α → Bool) (out : α → Da) (kp : Nat → Bool) (ot : Nat → Da) (hk : ∀ i (h : i < xs.length), kp i = keep xs[i]) (ho : ∀ i (h : i < xs.length), ot i = out xs[i]) :
    ((List.range xs.length).filter kp).map ot = (xs.filter keep).map out := by
  have key : ∀ n, n ≤ xs.length → ((List.range n).filter kp).map ot = ((xs.take n).filter keep).map out := by
    intro n
    induction n with
    | zero => intro _; rfl
    | succ n ih =>
      intro h
      have hn : n < xs.length := h
      rw [filter_range_succ, ih (by omega), List.take_succ, List.getElem?_eq_getElem hn]
      simp only [Option.toList_some, List.filter_append, List.map_append]
      congr 1
      rw [hk n hn]
      by_cases e : keep xs[n] = true
      · simp [e, ho n hn]
      · simp [e]
  have := key xs.length (Nat.le_refl _)
  rwa [List.take_length] at this
theorem en_lcT {α : Type} {wi : TI} {g : TG} {vs js : List Nat} {n : Nat} {item : Nat → Da} (enc : α → Da) (f : Da → Rho → Rho) (xs : List α) (keep : α → Bool) (out : α → Da) (hI : EvI K wi ρ n item) (hn : n = xs.length) (hit : ∀ i (h : i < xs.length), item i = enc xs[i]) (hz : xs.length ≤ 1000000)
    (hg : ∀ a, GoT K g (enc a) js (f (enc a))) (hj : ∀ j ∈ js, j ∈ vs) (ht : ∀ a, a ∈ xs → EvT K tt (f (enc a) (wipeR ρ vs)) (keep a)) (he : ∀ a, a ∈ xs → keep a = true → EvF K te (f (enc a) (wipeR ρ vs)) (out a)) : EvN K (tLc wi g tt te vs) ρ ((xs.filter keep).map out) := by
  subst hn
  by_cases h0 : xs = []
  · subst h0
    exact en_lc (js := js) (f := fun i => f (item i)) (fun _ => true) (fun _ => .non) hI (Nat.zero_le _) (fun i h => by cases h) hj (fun i h => by cases h) (fun i h => by cases h)
  · have hp : 0 < xs.length := List.length_pos_iff.mpr h0
    have dflt := xs[0]
    let at' : Nat → α := fun i => if h : i < xs.length then xs[i] else dflt
    have ha : ∀ i (h : i < xs.length), at' i = xs[i] := fun i h => by simp only [at', dif_pos h]
    have e := range_map xs keep out (fun i => keep (at' i)) (fun i => out (at' i)) (fun i h => by rw [ha i h]) (fun i h => by rw [ha i h])
    rw [← e]
    refine en_lc (js := js) (f := fun i => f (item i)) _ _ hI hz (fun i h => ?_) hj (fun i h => ?_) (fun i h hk => ?_)
    · rw [hit i h]
      exact hg _
    · rw [hit i h, ha i h]
      exact ht _ (List.getElem_mem h)
    · rw [hit i h, ha i h]
      rw [ha i h] at hk
      exact he _ (List.getElem_mem h) hk
theorem en_lcL {α : Type} {ts : TE} {vs : List Nat} (enc : α → Da) (xs : List α) (keep : α → Bool) (out : α → Da) (h : EvF K ts ρ (.lst (xs.map enc))) (hz : xs.length ≤ 1000000) (hj : j ∈ vs)
    (ht : ∀ a, a ∈ xs → EvT K tt ((wipeR ρ vs).set j (.d (enc a))) (keep a)) (he : ∀ a, a ∈ xs → keep a = true → EvF K te ((wipeR ρ vs).set j (.d (enc a))) (out a)) : EvN K (tLc (iList K ts) (gName j) tt te vs) ρ ((xs.filter keep).map out) :=
  en_lcT enc (fun x r => r.set j (.d x)) xs keep out (ei_list h) (List.length_map _) (fun i hi => getD_map enc hi) hz (fun _ => go_name) (fun j' h' => by rw [List.mem_singleton] at h'; rw [h']; exact hj) ht he
theorem en_lcTup {α : Type} {ts : TE} {vs : List Nat} (enc : α → Da) (xs : List α) (keep : α → Bool) (out : α → Da) (h : EvF K ts ρ (.tup (xs.map enc))) (hz : xs.length ≤ 1000000) (hj : j ∈ vs)
    (ht : ∀ a, a ∈ xs → EvT K tt ((wipeR ρ vs).set j (.d (enc a))) (keep a)) (he : ∀ a, a ∈ xs → keep a = true → EvF K te ((wipeR ρ vs).set j (.d (enc a))) (out a)) : EvN K (tLc (iTup K ts) (gName j) tt te vs) ρ ((xs.filter keep).map out) :=
  en_lcT enc (fun x r => r.set j (.d x)) xs keep out (ei_tup h) (List.length_map _) (fun i hi => getD_map enc hi) hz (fun _ => go_name) (fun j' h' => by rw [List.mem_singleton] at h'; rw [h']; exact hj) ht he
theorem en_lcRev {α : Type} {ts : TE} {vs : List Nat} (enc : α → Da) (xs : List α) (keep : α → Bool) (out : α → Da) (h : EvF K ts ρ (.lst (xs.map enc))) (hz : xs.length ≤ 1000000) (hj : j ∈ vs)
    (ht : ∀ a, a ∈ xs.reverse → EvT K tt ((wipeR ρ vs).set j (.d (enc a))) (keep a)) (he : ∀ a, a ∈ xs.reverse → keep a = true → EvF K te ((wipeR ρ vs).set j (.d (enc a))) (out a)) : EvN K (tLc (iRev K (tCons ts tNil)) (gName j) tt te vs) ρ ((xs.reverse.filter keep).map out) :=
  en_lcT enc (fun x r => r.set j (.d x)) xs.reverse keep out (ei_rev h) (by rw [List.length_map, List.length_reverse]) (fun i hi => by rw [← List.map_reverse]; exact getD_map enc hi) (by rw [List.length_reverse]; exact hz) (fun _ => go_name) (fun j' h' => by rw [List.mem_singleton] at h'; rw [h']; exact hj) ht he
/-- for a, b in pairs -/
theorem en_lcP {α : Type} {ts : TE} {vs : List Nat} {j1 j2 : Nat} (e1 e2 : α → Da) (xs : List α) (keep : α → Bool) (out : α → Da) (h : EvF K ts ρ (.lst (xs.map fun a => .tup [e1 a, e2 a]))) (hz : xs.length ≤ 1000000) (h1 : j1 ∈ vs) (h2 : j2 ∈ vs)
    (ht : ∀ a, a ∈ xs → EvT K tt (((wipeR ρ vs).set j1 (.d (e1 a))).set j2 (.d (e2 a))) (keep a)) (he : ∀ a, a ∈ xs → keep a = true → EvF K te (((wipeR ρ vs).set j1 (.d (e1 a))).set j2 (.d (e2 a))) (out a)) :
    EvN K (tLc (iList K ts) (gTup K 2 (gCons (gName j1) (gCons (gName j2) gNil))) tt te vs) ρ ((xs.filter keep).map out) :=
  en_lcT (js := [j1, j2]) (fun a => .tup [e1 a, e2 a]) (fun x r => match x with | .tup [a, b] => (r.set j1 (.d a)).set j2 (.d b) | _ => r) xs keep out (ei_list h) (List.length_map _) (fun i hi => getD_map _ hi) hz (fun _ => go_tup2)
    (fun j' h' => by rcases List.mem_cons.mp h' with rfl | h'; exact h1; rw [List.mem_singleton] at h'; rw [h']; exact h2) ht he
theorem filter_yes {α : Type} (xs : List α) : xs.filter (fun _ => true) = xs := List.filter_eq_self.mpr fun _ _ => rfl
end
end TR

/-! own layer: more -/
namespace TR
open PySem PySem.Spec PyProof.Rows L2
section
variable {K : PySem.W.Frag} {ρ ρ' : Rho} {te ta tb tx ts : TE} {tr : TA} {tt : TT} {x y z : Da} {xs ys zs ds : List Da} {i j : Nat} {E : XK} {t u : TS} {D : DE}
/-- sorted(..) of few whole numbers -/
theorem en_sorted {ns ms : List Int} (h : EvM K te ρ (ns.map Da.int)) (hl : ns.length < 64) (hp : ns.Perm ms) (hm : ms.Pairwise (· ≤ ·)) : EvN K (tCB (rSorted K) (tCons te tNil)) ρ (ms.map Da.int) := fun F0 H0 σ F H E Q q => h F0 H0 σ F H E _ fun p vs F1 H1 g1 hs hd => by
  have e := dqa_int hd
  subst e
  refine ⟨p, ns, rfl, hs, hl, fun ns' b k1 k2 hb => ?_⟩
  have e : ns' = ms := List.Perm.eq_of_pairwise (fun _ _ _ _ h1 h2 => Int.le_antisymm h1 h2) k2 hm (k1.trans hp)
  subst e
  exact q b _ F1 _ (g1.trans (Grow.own g1.s hb)) (Same.back g1.h hb) (Same.back g1.s hb) upd_same (ints_dqa F1 ns')
/-- a tuple's items, by what is left -/
theorem es_forTl {α : Type} (enc : α → Da) (xs : List α) (h : EvF K te ρ (.tup (xs.map enc))) (Inv : List α → Rho → Prop) (h0 : Inv xs ρ)
    (hs : ∀ a l ρ', Inv (a :: l) ρ' → EvS K E t (ρ'.set j (.d (enc a))) { nx := Inv l, rt := D.rt, bk := D.nx, ct := Inv l }) (hd : ∀ ρ', Inv [] ρ' → D.nx ρ') : EvS K E (tFor (iTup K te) (gName j) t) ρ D :=
  es_forT (fun _ => enc) (fun x r => r.set j (.d x)) xs (ei_tup h) (List.length_map _) (fun i hi => getD_map enc hi) (fun _ _ => go_name) (fun _ => Inv) h0 (fun _ => hs) (fun _ => hd)
end
end TR

/-! own layer: what an except suite asks of the exception it holds -/
namespace TR
open PySem PySem.Spec PyProof.Rows L2 HotX
/-- a list's iterator at its end, while an exception is handled -/
theorem next_end_hot {prog : Program} {w : World} {A : Around} {E : Value → Shared → Prop} {s0 : Shared} {j l x1 : Addr} {i : Nat} {xs : Array Value} {Q : Option Value → Shared → Prop} (hot : HotAt A x1 s0.heap) (hne : x1 ≠ j)
    (it : s0.heap.IsListIter j l i) (li : s0.heap.IsList l xs) (hx : xs[i]? = none) (want : ∀ h', (∀ b o, b ≠ j → s0.heap.get? b = some o → h'.get? b = some o) → Q none { s0 with heap := h' }) : wpAny (model prog w) A (pyNext (.ref j)) Q E s0 := by
  obtain ⟨oj, gj, cj, dj⟩ := id it
  obtain ⟨ol, gl, _, nl, dl⟩ := li
  obtain ⟨hh, o1, vs1, g1, d1, c1⟩ := hot
  unfold pyNext
  refine wpAny_bind (wpAny_attempt (wpAny_callSpecial?_slot (name := Str.ofString "__next__") it.typeIs slot_listiter_next (wpAny_call_entry slot_listiter_next it.typeIs entry_listiter_next ?_ (args_listiter_next _))))
  show wpAny _ _ (field (.ref j) 0 >>= _) _ _ s0
  refine wpAny_bind (wpAny_field gj dj (x := .ref l) rfl ?_)
  show wpAny _ _ (if (Value.ref l == .none) = true then _ else _) _ _ s0
  refine (if_neg (c := (Value.ref l == .none) = true) (show ¬ (Value.ref l == .none) = true from Bool.false_ne_true)).symm ▸ ?_
  show wpAny _ _ (field (.ref j) 1 >>= _) _ _ s0
  refine wpAny_bind (wpAny_field gj dj (x := .int i 0) rfl ?_)
  show wpAny _ _ (seqItems? (.ref l) >>= _) _ _ s0
  refine wpAny_bind (wpAny_seqItems gl dl ?_)
  simp only [Int.toNat_natCast, hx]
  refine wpAny_bind (wpAny_rule (wpAny_bind (wpAny_setField gj dj (by simp) (show wpAny _ _ (newExc (.type "StopIteration") [] >>= _) _ _ _ from wpAny_bind ?_))))
  simp only [newExc, newTuple]
  refine wpAny_bind (wpAny_newObj_type (wpAny_bind (m := firstArgMember _ _) (wpAny_of_eq (a := Value.none) (by first | rfl | (simp only [firstArgMember]; rfl)) (wpAny_newObj_type ?_ (by size_fits)))) (by size_fits))
  refine raiseNew_hot ⟨hh, o1, vs1, Heap.get?_push_of_some _ (Heap.get?_push_of_some _ ((Heap.get?_update_other _ _ hne.symm).trans g1)), d1, c1⟩ (Nat.ne_of_lt (Heap.lt_size (Heap.get?_push_of_some _ ((Heap.get?_update_other _ _ hne.symm).trans g1)))) (Heap.get?_push_size _ rfl) rfl
    (by first | (simp; done) | (simp; omega) | (simp only [Array.size_append]; simp; omega)) ?_
  refine wpAny_bind (wpAny_isInstance (T := "StopIteration") (b := true) ⟨_, Heap.get?_update_self _ (Heap.get?_push_size _ rfl) rfl, rfl⟩ isSubtype_stop (wpAny_pure (want _ fun b o hb e => ?_)))
  have e2 : (s0.heap.update j (Obj.mapFields fun z => z.setIfInBounds 0 Value.none)).get? b = some o := (Heap.get?_update_other _ _ hb.symm).trans e
  exact (Heap.get?_update_other _ _ (Nat.ne_of_gt (Heap.lt_size (Heap.get?_push_of_some _ e2)))).trans (Heap.get?_push_of_some _ (Heap.get?_push_of_some _ e2))
/-- a list's walk while an exception is handled -/
theorem walks_hot {prog : Program} {w : World} {A : Around} {x1 : Addr} {oe : Obj} {ve : Array Value} (hh : A.handled = some (.ref x1)) (de : oe.data = .fields ve) (ce : ve[2]? = some .none) (I ax : Addr) (n1 : ax ≠ I) (n2 : x1 ≠ I) (items : Array Value) :
    Walks prog w A I [I, ax, x1] [I] items.size (fun i v => items[i]? = some v) (fun i h => (h.IsListIter I ax i ∧ h.IsList ax items) ∧ h.get? x1 = some oe) where
  sub := fun b hb => by simp at hb; simp [hb]
  frame := fun _ _ _ st keep => ⟨⟨st.1.1.at fun o e => keep I (by simp) o e, st.1.2.at fun o e => keep ax (by simp) o e⟩, keep x1 (by simp) oe st.2⟩
  item := fun i s Q E hi st hQ => wpAny_pyNext_list_item st.1.1 st.1.2 (x := items[i]) (by simp [hi]) fun h' hit' hs' =>
    hQ _ h' s.toks (by simp [hi]) ⟨⟨hit', st.1.2.extBut hs'.extBut n1⟩, hs'.extBut x1 oe n2 st.2⟩ fun b o hb e => hs'.extBut b o (fun h => hb (by simp [h])) e
  done := fun s Q E st hQ => next_end_hot ⟨hh, oe, ve, st.2, de, ce⟩ n2 st.1.1 st.1.2 (by simp) fun h' he' => hQ h' s.toks fun b o hb e => he' b o (fun h => hb (by simp [h])) e
  self := fun _ _ _ _ st hQ => wpAny_pyIter_listiter st.1.1 hQ
/-- the exception that the suite holds: its fields, its context -/
structure HotE (oe : Obj) : Prop where
  f : ∃ ve : Array Value, oe.data = .fields ve ∧ ve[2]? = some .none
theorem hotE {cls : Value} {d : Option Addr} {oe : Obj} (hz : L2N.Zn cls d oe) (hf : ∃ vs, oe.data = .fields vs) : HotE oe := ⟨by
  obtain ⟨ve, e⟩ := hf
  exact ⟨ve, e, hz.2.2 ve e⟩⟩
section
variable {X : Cx} {a : Addr} {oe : Obj} {pn : List (Addr × Obj)} {K : PySem.W.Frag}
theorem any_hot (hot : HotE oe) : CallR (X.suite a ((a, oe) :: pn)) (.builtin "any") (rAny X.K) := fun pins s σ H vs us Q I r h => by
  obtain ⟨l, bs, rfl, hs, q⟩ := h
  obtain ⟨its, rv, hl, _⟩ := I.list hs
  obtain ⟨ve, de, ce⟩ := hot.f
  have hb := rv.bls
  have ga : s.heap.get? a = some oe := (I.pin (a, oe) (List.mem_append.mpr (.inl List.mem_cons_self))).1
  rw [Vals.ref1 r]
  refine call_any_walk (iter_any hl.isList fun s₂ e2 st hne => ?_)
  subst e2
  refine ⟨_, _, _, _, _, _, _, rfl, walks_hot (A := (X.suite a ((a, oe) :: pn)).A.in1) (x1 := a) (oe := oe) rfl de ce _ l hne (Nat.ne_of_lt (Heap.lt_size ga)) its.toArray, ⟨st, Heap.get?_push_of_some _ ga⟩, truth_bools hb, fun h' tk hk => ⟨.bl _, H, I.kept fun b o eo => hk b o (fun hmem => ?_) (Heap.get?_push_of_some _ eo), ?_, q⟩⟩
  · rcases List.mem_cons.mp hmem with e1 | e1
    · exact absurd (e1 ▸ Heap.lt_size eo) (Nat.lt_irrefl _)
    · cases e1
  · rw [← L2.any_range, hb, List.size_toArray, List.length_map]
    rfl
theorem anyHot (hz : HotE oe) (hK : X.K = K) : CallR (X.suite a ((a, oe) :: pn)) (.builtin "any") (rAny K) := hK ▸ any_hot hz
/-- isinstance(e, c), e what the suite holds -/
def rIsX (K : PySem.W.Frag) (cls : Value) (d : Option Addr) (a : Addr) : List V → Hp → VK → Prop := fun xs H Q => ∃ D : Addr, cls = .ref D ∧ d = none ∧ ExcC K D ∧ rIsE K D a xs H Q
theorem isX {cls : Value} {d : Option Addr} (hK : X.K = K) (hz : L2N.Zn cls d oe) (hf : ∃ vs, oe.data = .fields vs) : CallR (X.suite a ((a, oe) :: pn)) (.builtin "isinstance") (rIsX K cls d a) := by
  subst hK
  intro pins s σ H xs us Q I r h
  obtain ⟨D, rfl, rfl, C, h⟩ := h
  exact call_isE C hz.zc hf pins s σ H xs us Q I r h
end
section
variable {K : PySem.W.Frag} {ρ ρ' : Rho} {te ta tb tx : TE} {tr : TA} {tt : TT} {x y z : Da} {xs ys zs ds : List Da} {i j : Nat} {E : XK} {t u : TS} {D : DE} {er : Str → Addr}
/-- the facts of own classes of errors: Ds the ones that may come, cs the ones that are asked for -/
structure ExH (K : PySem.W.Frag) (er : Str → Addr) (Ds cs : List Str) : Prop where
  c : ∀ D ∈ Ds, ExcC K (er D)
  m : ∀ D ∈ Ds, PySem.W.exmOne K (.ref (er D)) (.ref (er "TowerError")) = some true
  i : ∀ D ∈ Ds, ∀ c ∈ cs, PySem.W.kitOne K (.ref (er D)) (.ref (er c)) = some (decide (c = D) || decide (c = "TowerError"))
  v : ∀ D ∈ Ds, PySem.W.kitOne K (.ref (er D)) (.type "ValueError") = some true
def exCB (K : PySem.W.Frag) (C : Addr) : Bool := He.eqO (PySem.W.findIn K (.ref C) "__getattribute__") (some (some (.builtin "BaseException.__getattribute__"))) && (He.eqO (PySem.W.findIn K (.ref C) "__getattr__") (some none) && (decide (PySem.W.subIn K (.ref C) (.type "BaseException") = some true) && (PySem.W.hasDictIn K C &&
  (He.eqO (PySem.W.findIn K (.ref C) "__class__") (some (some (.builtin "object.__class__"))) && (He.eqO (PySem.W.specialIn K (.builtin "object.__class__") "__get__") (some (some (.builtin "getset_descriptor.__get__"))) && (decide (PySem.W.takesIn K (.builtin "object.__class__") = some true) && decide (PySem.W.mroIn K C (.type "object") = some true)))))))
theorem exCB_ok {C : Addr} (h : exCB K C = true) : ExcC K C := by
  obtain ⟨h1, h⟩ := He.ba h
  obtain ⟨h2, h⟩ := He.ba h
  obtain ⟨h3, h⟩ := He.ba h
  obtain ⟨h4, h⟩ := He.ba h
  obtain ⟨h5, h⟩ := He.ba h
  obtain ⟨h6, h⟩ := He.ba h
  obtain ⟨h7, h8⟩ := He.ba h
  exact ⟨He.eqO_ok h1, He.eqO_ok h2, of_decide_eq_true h3, h4, He.eqO_ok h5, He.eqO_ok h6, of_decide_eq_true h7, of_decide_eq_true h8⟩
def exHB (K : PySem.W.Frag) (er : Str → Addr) (Ds cs : List Str) : Bool := Ds.all fun D => exCB K (er D) && (decide (PySem.W.exmOne K (.ref (er D)) (.ref (er "TowerError")) = some true) && ((cs.all fun c => decide (PySem.W.kitOne K (.ref (er D)) (.ref (er c)) = some (decide (c = D) || decide (c = "TowerError")))) && decide (PySem.W.kitOne K (.ref (er D)) (.type "ValueError") = some true)))
theorem exHB_ok {Ds cs : List Str} (h : exHB K er Ds cs = true) : ExH K er Ds cs := by
  have k := List.all_eq_true.mp h
  refine ⟨fun D hD => exCB_ok (He.ba (k D hD)).1, fun D hD => of_decide_eq_true (He.ba (He.ba (k D hD)).2).1, fun D hD c hc => of_decide_eq_true (List.all_eq_true.mp (He.ba (He.ba (He.ba (k D hD)).2).2).1 c hc), fun D hD => of_decide_eq_true (He.ba (He.ba (He.ba (k D hD)).2).2).2⟩
theorem ef_isX {Ds cs : List Str} (hX : ExH K er Ds cs) {D c : Str} {a : Addr} (hD : D ∈ Ds) (hc : c ∈ cs) (h : EvF K te ρ (.adr a)) : EvF K (tCB (rIsX K (.ref (er D)) none a) (tCons te (tCons (tC (.ref (er c))) tNil))) ρ (.bl (decide (c = D) || decide (c = "TowerError"))) :=
  fun F0 H0 σ F H e Q q => h F0 H0 σ F H e _ fun v F1 H1 g hv => by
    cases hv
    exact ⟨er D, rfl, rfl, hX.c D hD, .ref (er c), .ref (er c), _, rfl, fun u r => by cases r; rfl, hX.i D hD c hc, q _ F1 H1 g (.bl _)⟩
theorem ef_isV {Ds cs : List Str} (hX : ExH K er Ds cs) {D : Str} {a : Addr} (hD : D ∈ Ds) (h : EvF K te ρ (.adr a)) : EvF K (tCB (rIsX K (.ref (er D)) none a) (tCons te (tCons (tC (.ty "ValueError")) tNil))) ρ (.bl true) :=
  fun F0 H0 σ F H e Q q => h F0 H0 σ F H e _ fun v F1 H1 g hv => by
    cases hv
    exact ⟨er D, rfl, rfl, hX.c D hD, .ty "ValueError", .type "ValueError", _, rfl, fun u r => by cases r; rfl, hX.v D hD, q _ F1 H1 g (.bl _)⟩
/-! ### try: one call, except TowerError as error: suite -/
theorem ef_callS {W : WX} {Gr : List Da → Out → Prop} (ha : EvA K tr ρ ds) (hG : Gr ds (.f z)) : EvF K (tCallS (spD K Gr) (WE W) tr) ρ z := fun F0 H0 σ F H e Q q => ha F0 H0 σ F H e _ fun vs F1 H1 g1 hv =>
  ⟨F1, ds, .f z, g1.s, hv, hG, fun v F2 H2 g2 hd => q v F2 H2 (g1.trans g2) hd⟩
theorem en_callS {W : WX} {Gr : List Da → Out → Prop} (ha : EvA K tr ρ ds) (hG : Gr ds (.n zs)) : EvN K (tCallS (spD K Gr) (WE W) tr) ρ zs := fun F0 H0 σ F H e Q q => ha F0 H0 σ F H e _ fun vs F1 H1 g1 hv =>
  ⟨F1, ds, .n zs, g1.s, hv, hG, fun p us F2 H2 g2 hp hf hh hd => q p us F2 H2 (g1.trans g2) (Same.back g1.h hp) hf hh hd⟩
/-- nothing comes -/
theorem es_try {tb : WX → TS} {c : Value} {ts : Addr → Value → Option Addr → TS} {Wo : WX} (h : ∀ W, EvS K E (tb W) ρ D) : EvS K E (fun D' σ H => tb (wAs K c i ts Wo D') D' σ H) ρ D := fun F0 H0 σ F H e D' a b c d => h _ F0 H0 σ F H e D' a b c d
/-- an own exception comes out of the call and is taken -/
theorem es_tryX {Ds cs : List Str} (hX : ExH K er Ds cs) {C : Str} (hC : C ∈ Ds) {Gr : List Da → Out → Prop} {wrap : TE → TS} {ts : Addr → Value → Option Addr → TS} {Wo : WX} (hw : ∀ (te : TE) (D' : Ends) σ H, (∀ Q, te σ H Q) → wrap te D' σ H) (ha : EvA K tr ρ ds) (hG : Gr ds (.e (er C)))
    (hs : ∀ a, EvS K E (ts a (.ref (er C)) none) (ρ.set i (.d (.adr a))) { nx := fun r => D.nx (r.set i .un), rt := D.rt, bk := fun r => D.bk (r.set i .un), ct := fun r => D.ct (r.set i .un) }) :
    EvS K E (fun D' σ H => wrap (tCallS (spD K Gr) (WE (wAs K (.ref (er "TowerError")) i ts Wo D')) tr) D' σ H) ρ D := fun F0 H0 σ F H e D' a b c d => by
  refine hw _ D' σ H fun Q => ha F0 H0 σ F H e _ fun vs F1 H1 g1 hv => ⟨F1, ds, .e (er C), g1.s, hv, hG, fun H' s' => ⟨true, hX.m C hC, fun _ x hx => ?_, fun z => by cases z⟩⟩
  have e1 : Hs K F0 H0 σ F1 H1 ρ := e.grow g1
  have g2 : Grow F1 H1 F1 H' := ⟨Same.refl _, s', g1.s.trans s', fun _ h _ => h⟩
  have e2 := e1.grow g2
  refine hs x F0 H0 (σ.set i (some (.ref x))) F1 H' (e2.setD i (.adr x)) _ (fun σ3 F3 H3 ρ3 e3 s3 h3 => ?_) b (fun σ3 F3 H3 ρ3 e3 s3 h3 => ?_) (fun σ3 F3 H3 ρ3 e3 s3 h3 => ?_)
  · exact a _ F3 H3 _ (e3.set i (o := none) (r := .un) trivial fun _ z => by cases z) ((g1.trans g2).f.trans s3) h3
  · exact c _ F3 H3 _ (e3.set i (o := none) (r := .un) trivial fun _ z => by cases z) ((g1.trans g2).f.trans s3) h3
  · exact d _ F3 H3 _ (e3.set i (o := none) (r := .un) trivial fun _ z => by cases z) ((g1.trans g2).f.trans s3) h3
theorem q_tryN {Gr : List Da → Out → Prop} {c : Value} {ts : Addr → Value → Option Addr → TS} {Wo : WX} (ha : EvA K tr ρ ds) (hG : Gr ds (.n zs)) (k : D.rt (.n zs)) : EvS K E (tSeq (fun D' σ H => tRet (tCallS (spD K Gr) (WE (wAs K c i ts Wo D')) tr) D' σ H) u) ρ D :=
  es_seq (M := fun _ => False) (es_try (tb := fun W => tRet (tCallS (spD K Gr) (WE W) tr)) fun W => es_retN (en_callS ha hG) k) fun _ q => q.elim
theorem q_tryD {Gr : List Da → Out → Prop} {c : Value} {ts : Addr → Value → Option Addr → TS} {Wo : WX} (ha : EvA K tr ρ ds) (hG : Gr ds (.f z)) (k : EvS K E u ρ D) : EvS K E (tSeq (fun D' σ H => tDrop (tCallS (spD K Gr) (WE (wAs K c i ts Wo D')) tr) D' σ H) u) ρ D :=
  es_seq (M := fun r => EvS K E u r D) (es_try (tb := fun W => tDrop (tCallS (spD K Gr) (WE W) tr)) fun W => es_drop (ef_callS ha hG) k) fun _ q => q
theorem q_tryDN {Gr : List Da → Out → Prop} {c : Value} {ts : Addr → Value → Option Addr → TS} {Wo : WX} (ha : EvA K tr ρ ds) (hG : Gr ds (.n zs)) (k : EvS K E u ρ D) : EvS K E (tSeq (fun D' σ H => tDrop (tCallS (spD K Gr) (WE (wAs K c i ts Wo D')) tr) D' σ H) u) ρ D :=
  es_seq (M := fun r => EvS K E u r D) (es_try (tb := fun W => tDrop (tCallS (spD K Gr) (WE W) tr)) fun W => es_drop (en_callS ha hG).f k) fun _ q => q
theorem q_tryX {Ds cs : List Str} (hX : ExH K er Ds cs) {C : Str} (hC : C ∈ Ds) {Gr : List Da → Out → Prop} {ts : Addr → Value → Option Addr → TS} {Wo : WX} (ha : EvA K tr ρ ds) (hG : Gr ds (.e (er C)))
    (hs : ∀ a, EvS K E (ts a (.ref (er C)) none) (ρ.set i (.d (.adr a))) { nx := fun r => EvS K E u (r.set i .un) D, rt := D.rt, bk := fun r => D.bk (r.set i .un), ct := fun r => D.ct (r.set i .un) }) :
    EvS K E (tSeq (fun D' σ H => tRet (tCallS (spD K Gr) (WE (wAs K (.ref (er "TowerError")) i ts Wo D')) tr) D' σ H) u) ρ D :=
  es_seq (M := fun r => EvS K E u r D) (es_tryX (wrap := tRet) hX hC (fun te D' σ H h => h _) ha hG hs) fun _ q => q
theorem q_tryXD {Ds cs : List Str} (hX : ExH K er Ds cs) {C : Str} (hC : C ∈ Ds) {Gr : List Da → Out → Prop} {ts : Addr → Value → Option Addr → TS} {Wo : WX} (ha : EvA K tr ρ ds) (hG : Gr ds (.e (er C)))
    (hs : ∀ a, EvS K E (ts a (.ref (er C)) none) (ρ.set i (.d (.adr a))) { nx := fun r => EvS K E u (r.set i .un) D, rt := D.rt, bk := fun r => D.bk (r.set i .un), ct := fun r => D.ct (r.set i .un) }) :
    EvS K E (tSeq (fun D' σ H => tDrop (tCallS (spD K Gr) (WE (wAs K (.ref (er "TowerError")) i ts Wo D')) tr) D' σ H) u) ρ D :=
  es_seq (M := fun r => EvS K E u r D) (es_tryX (wrap := tDrop) hX hC (fun te D' σ H h => h _) ha hG hs) fun _ q => q
end
/-- a call in a try's body -/
theorem pe_calT {X : Cx} {k : Nat} {x : Str} {ps : List Str} {Gr : List Da → Out → Prop} {p pos : Pos} {e : Expr} {es : List Expr} {t : TA} {P : Program} {w : World} {K : PySem.W.Frag} {mg : Str → Option Value} {base : Heap} {W : WX} (C : Cal P w K mg base k x ps Gr)
    (hX : X.prog = P ∧ X.w = w ∧ X.K = K ∧ X.mg = mg ∧ X.base = base) (hr : Room k X.A) (hg : Gl X x) (tk : L2N.Takes X W) (ha : PA X (e :: es) t) (hdb : (x == ("__debug__" : Str)) = false := by decide)
    (he : starEach (e :: es) X.env = (false, eval e X.env) :: starEach es X.env := by rfl) (hpl : (backTo pos (starEach es X.env)).any (·.1) = false := by rfl) : PE X (.Call (.Name x p) (e :: es) [] pos) (tCallS (spD K Gr) (WE W) t) := by
  obtain ⟨rfl, rfl, rfl, rfl, rfl⟩ := hX
  obtain ⟨f, fd, F, hm, hk, hb⟩ := C.ex
  exact pe_callS F hr hg hm hk hb (fun σ pins H s e s' I c => tk e s' (L2N.XE.of_call I (fun _ _ _ h => h) c)) ha hdb he hpl
/-! ### a list or a tuple that is walked; one more shape of stores; is None -/
def iLT (K : PySem.W.Frag) (tl : TE) : TI := fun σ H R => iList K tl σ H R ∨ iTup K tl σ H R
theorem pi_LT {X : Cx} {K : PySem.W.Frag} {tg e : Expr} {tl : TE} (hK : X.K = K) (he : PE X e tl) : PI X tg e (iLT K tl) := by
  subst hK
  exact ⟨fun pins s σ H R I h => h.elim (fun h => (pi_list he).run pins s σ H R I h) fun h => (pi_tup he).run pins s σ H R I h⟩
theorem opIsN {X : Cx} : OpR X (compareOp .Is) (fun x y H Q => y = .non ∧ Q (.bl (decide (x = .non))) H) := op_isN
section
variable {K : PySem.W.Frag} {ρ ρ' : Rho} {te ta tb tx : TE} {x y z : Da} {xs ys zs ds : List Da} {i j l m : Nat} {E : XK} {t u : TS} {D : DE}
theorem ei_LTl {n : Nat} {item : Nat → Da} (h : EvI K (iList K te) ρ n item) : EvI K (iLT K te) ρ n item := fun F0 H0 σ F H e R q => .inl (h F0 H0 σ F H e R q)
theorem ei_LTr {n : Nat} {item : Nat → Da} (h : EvI K (iTup K te) ρ n item) : EvI K (iLT K te) ρ n item := fun F0 H0 σ F H e R q => .inr (h F0 H0 σ F H e R q)
theorem rv_isN (h : x ≠ .non) : RvD K (fun x y H Q => y = V.non ∧ Q (.bl (decide (x = .non))) H) x .non (.bl false) := fun v u H Q hv hu q => by
  cases hu
  refine ⟨rfl, ?_⟩
  have : v ≠ .non := fun z => by
    subst z
    cases hv
    exact h rfl
  rw [decide_eq_false this]
  exact q _ fun F => .bl _
theorem rv_isNy : RvD K (fun x y H Q => y = V.non ∧ Q (.bl (decide (x = .non))) H) .non .non (.bl true) := fun v u H Q hv hu q => by
  cases hu
  cases hv
  exact ⟨rfl, q _ fun F => .bl _⟩
theorem q_par3N (h1 : EvF K ta ρ x) (h2 : EvF K tb ρ y) (k : EvS K E u (((ρ.set i (.d x)).set j (.d y)).set l (.m [])) D) : EvS K E (tSeq (tPar3 i j l (tCons ta (tCons tb (tCons (tLst tNil) tNil)))) u) ρ D :=
  es_seq (M := fun r => EvS K E u r D) (fun F0 H0 σ F H e D' a b c d => h1 F0 H0 σ F H e _ fun v F1 H1 g1 hv => h2 F0 H0 σ F1 H1 (e.grow g1) _ fun w F2 H2 g2 hw =>
    (en_lst ea_nil (Nat.zero_le _) : EvN K (tLst tNil) ρ []) F0 H0 σ F2 H2 ((e.grow g1).grow g2) _ fun p vs F3 H3 g3 hp hf hh hd =>
      ⟨v, w, .ref p, rfl, a _ F3 H3 _ (((((e.grow g1).grow g2).setD i (Dq.mono g2.f _ _ hv)).setD j hw).setM l g3 hp hf hh hd) ((g1.f.trans g2.f).trans g3.f) k⟩) fun _ q => q
end
end TR

/-! plain mathematics: discs on three pegs; states with the greatest disc first -/
namespace TM
inductive Ru where
  | free | line | round
deriving DecidableEq
abbrev Pg := Fin 3
theorem fin3 {P : Pg → Prop} (h0 : P 0) (h1 : P 1) (h2 : P 2) : ∀ a, P a
  | 0 => h0
  | 1 => h1
  | 2 => h2
/-- one step leads from a to b -/
def near : Ru → Pg → Pg → Bool
  | .free, _, _ => true
  | .line, a, b => a.val + 1 == b.val || b.val + 1 == a.val
  | .round, a, b => b == a + 1
/-- the third peg -/
def thi (a b : Pg) : Pg := -(a + b)
/-- where a disc on a goes first, on its way to b -/
def fs (r : Ru) (a b : Pg) : Pg := if near r a b = true then b else thi a b
/-- whole towers of n: to a near peg, to the far one -/
def tw (r : Ru) : Nat → Nat × Nat
  | 0 => (0, 0)
  | n + 1 => match r with
    | .free => (2 * (tw r n).1 + 1, 2 * (tw r n).1 + 1)
    | .line => ((tw r n).2 + 1 + (tw r n).1, 3 * (tw r n).2 + 2)
    | .round => (2 * (tw r n).2 + 1, 2 * (tw r n).2 + 2 + (tw r n).1)
def tower (r : Ru) (n : Nat) (a b : Pg) : Nat := if a = b then 0 else if near r a b = true then (tw r n).1 else (tw r n).2
/-- from a disc's first move on, n lesser ones -/
def bf (r : Ru) (n : Nat) (a b : Pg) : Nat := if a = b then 0 else if near r a b = true then 1 + tower r n (thi a b) b else 1 + tower r n b a + 1 + tower r n a b
/-- the steps of a disc -/
def steps (r : Ru) (a b : Pg) : List (Pg × Pg) := if a = b then [] else if near r a b = true then [(a, b)] else [(a, thi a b), (thi a b, b)]
/-- where the lesser ones are to go first -/
def nx (r : Ru) (a g : Pg) : Pg := if a = g then g else thi a (fs r a g)
def L (r : Ru) : List Pg → Pg → Nat
  | [], _ => 0
  | a :: s, g => L r s (nx r a g) + bf r s.length a g
/-- the next move: how many lesser discs, the peg -/
def nm (r : Ru) : List Pg → Pg → Option (Nat × Pg)
  | [], _ => none
  | a :: s, g => match nm r s (nx r a g) with
    | some m => some m
    | none => if a = g then none else some (s.length, fs r a g)
/-- a move is made -/
def ap : Nat × Pg → List Pg → List Pg
  | _, [] => []
  | m, a :: s => if m.1 = s.length then m.2 :: s else a :: ap m s
/-- a move can be done -/
def lg (r : Ru) : Nat × Pg → List Pg → Prop
  | _, [] => False
  | m, a :: s => if m.1 = s.length then a ≠ m.2 ∧ near r a m.2 = true ∧ ∀ x ∈ s, x = thi a m.2 else lg r m s

theorem all_rep {s : List Pg} {p : Pg} (h : ∀ x ∈ s, x = p) : s = List.replicate s.length p := List.eq_replicate_iff.mpr ⟨rfl, h⟩
theorem tw_succ (r : Ru) (n : Nat) : tw r (n + 1) = match r with
    | .free => (2 * (tw r n).1 + 1, 2 * (tw r n).1 + 1)
    | .line => ((tw r n).2 + 1 + (tw r n).1, 3 * (tw r n).2 + 2)
    | .round => (2 * (tw r n).2 + 1, 2 * (tw r n).2 + 2 + (tw r n).1) := by cases r <;> rfl
theorem tw_facts (r : Ru) : ∀ n : Nat, (tw r n).1 ≤ (tw r n).2 ∧ (tw r n).2 ≤ 2 * (tw r n).1 ∧ (r = .free → (tw r n).1 = (tw r n).2)
  | 0 => by simp [tw]
  | n + 1 => by
    have h := tw_facts r n
    rw [tw_succ]
    cases r <;> simp only [reduceCtorEq, false_imp_iff, true_imp_iff, and_true] at h ⊢ <;> omega
theorem tw_pos (r : Ru) (n : Nat) : 0 < n → 1 ≤ (tw r n).1 := by
  intro h
  obtain ⟨m, rfl⟩ : ∃ m, n = m + 1 := ⟨n - 1, by omega⟩
  rw [tw_succ]
  cases r <;> simp only [] <;> omega
theorem L_rep (r : Ru) (n : Nat) : ∀ (p q : Pg), L r (List.replicate n p) q = tower r n p q := by
  induction n with
  | zero => intro p q; cases r <;> revert p q <;> decide
  | succ n ih =>
    intro p q
    rw [List.replicate_succ, L, ih, List.length_replicate]
    unfold bf tower
    rw [tw_succ]
    have hf := (tw_facts r n).2.2
    clear ih
    generalize tw r n = xy at hf ⊢
    obtain ⟨x, y⟩ := xy
    revert p q
    cases r
    · have h := hf rfl
      simp only at h
      subst h
      refine fin3 (fin3 ?_ ?_ ?_) (fin3 ?_ ?_ ?_) (fin3 ?_ ?_ ?_) <;> simp (decide := true) [nx, fs, near, thi] <;> omega
    · refine fin3 (fin3 ?_ ?_ ?_) (fin3 ?_ ?_ ?_) (fin3 ?_ ?_ ?_) <;> simp (decide := true) [nx, fs, near, thi] <;> omega
    · refine fin3 (fin3 ?_ ?_ ?_) (fin3 ?_ ?_ ?_) (fin3 ?_ ?_ ?_) <;> simp (decide := true) [nx, fs, near, thi] <;> omega
theorem near_fs (r : Ru) : ∀ a g : Pg, a ≠ g → near r a (fs r a g) = true ∧ a ≠ fs r a g ∧ thi a (fs r a g) = nx r a g := by
  cases r <;> decide
theorem bf_pos (r : Ru) (n : Nat) {a g : Pg} (h : a ≠ g) : 1 ≤ bf r n a g := by
  unfold bf
  rw [if_neg h]
  split <;> omega
theorem bf_self (r : Ru) (n : Nat) (a : Pg) : bf r n a a = 0 := by unfold bf; rw [if_pos rfl]
theorem nx_self (r : Ru) (a : Pg) : nx r a a = a := by unfold nx; rw [if_pos rfl]
/-- none is next just where nothing is left: where all are there -/
theorem nm_none (r : Ru) : ∀ (t : List Pg) (g : Pg), (nm r t g = none ↔ L r t g = 0) ∧ (L r t g = 0 ↔ t = List.replicate t.length g)
  | [], g => by simp [nm, L]
  | a :: s, g => by
    obtain ⟨h1, h2⟩ := nm_none r s (nx r a g)
    by_cases e : a = g
    · subst e
      rw [nx_self] at h1 h2
      have hL : L r (a :: s) a = L r s a := by rw [L, nx_self, bf_self]; omega
      have hN : nm r (a :: s) a = none ↔ nm r s a = none := by
        rw [nm, nx_self]
        cases nm r s a <;> simp
      rw [hL, hN, List.length_cons, List.replicate_succ]
      exact ⟨h1, h2.trans ⟨fun h => by rw [← h], fun h => (List.cons.inj h).2⟩⟩
    · have hb := bf_pos r s.length e
      have hL : L r (a :: s) g ≠ 0 := by rw [L]; omega
      have hN : nm r (a :: s) g ≠ none := by
        rw [nm]
        cases nm r s (nx r a g) <;> simp [e]
      refine ⟨⟨fun h => absurd h hN, fun h => absurd h hL⟩, ⟨fun h => absurd h hL, fun h => ?_⟩⟩
      rw [List.length_cons, List.replicate_succ] at h
      exact absurd (List.cons.inj h).1 e
theorem ap_len (m : Nat × Pg) : ∀ t : List Pg, (ap m t).length = t.length
  | [] => rfl
  | a :: s => by
    rw [ap]
    split
    · rfl
    · rw [List.length_cons, List.length_cons, ap_len m s]
theorem lg_lt (r : Ru) (m : Nat × Pg) : ∀ t : List Pg, lg r m t → m.1 < t.length
  | [], h => h.elim
  | a :: s, h => by
    rw [lg] at h
    rw [List.length_cons]
    split at h
    · omega
    · have := lg_lt r m s h
      omega
/-- the top disc's move among whole towers, in numbers -/
theorem top_num (r : Ru) (n : Nat) : ∀ a e g : Pg, a ≠ e → near r a e = true → tower r n (thi a e) (nx r a g) + bf r n a g ≤ tower r n (thi a e) (nx r e g) + bf r n e g + 1 ∧
    (tower r n (thi a e) (nx r a g) + bf r n a g = tower r n (thi a e) (nx r e g) + bf r n e g + 1 → a ≠ g ∧ e = fs r a g) := by
  have hf := tw_facts r n
  unfold bf tower
  generalize tw r n = xy at hf ⊢
  obtain ⟨x, y⟩ := xy
  cases r
  · have h := hf.2.2 rfl
    simp only at h
    subst h
    refine fin3 (fin3 (fin3 ?_ ?_ ?_) (fin3 ?_ ?_ ?_) (fin3 ?_ ?_ ?_)) (fin3 (fin3 ?_ ?_ ?_) (fin3 ?_ ?_ ?_) (fin3 ?_ ?_ ?_)) (fin3 (fin3 ?_ ?_ ?_) (fin3 ?_ ?_ ?_) (fin3 ?_ ?_ ?_)) <;> simp (decide := true) [nx, fs, near, thi] <;> omega
  · simp only [reduceCtorEq, false_imp_iff, and_true] at hf
    refine fin3 (fin3 (fin3 ?_ ?_ ?_) (fin3 ?_ ?_ ?_) (fin3 ?_ ?_ ?_)) (fin3 (fin3 ?_ ?_ ?_) (fin3 ?_ ?_ ?_) (fin3 ?_ ?_ ?_)) (fin3 (fin3 ?_ ?_ ?_) (fin3 ?_ ?_ ?_) (fin3 ?_ ?_ ?_)) <;> simp (decide := true) [nx, fs, near, thi] <;> omega
  · simp only [reduceCtorEq, false_imp_iff, and_true] at hf
    refine fin3 (fin3 (fin3 ?_ ?_ ?_) (fin3 ?_ ?_ ?_) (fin3 ?_ ?_ ?_)) (fin3 (fin3 ?_ ?_ ?_) (fin3 ?_ ?_ ?_) (fin3 ?_ ?_ ?_)) (fin3 (fin3 ?_ ?_ ?_) (fin3 ?_ ?_ ?_) (fin3 ?_ ?_ ?_)) <;> simp (decide := true) [nx, fs, near, thi] <;> omega
/-- a move takes off one at most, and one only if it is the next -/
theorem move_le (r : Ru) : ∀ (t : List Pg) (g : Pg) (m : Nat × Pg), lg r m t → L r t g ≤ L r (ap m t) g + 1 ∧ (L r t g = L r (ap m t) g + 1 → nm r t g = some m)
  | [], _, _, h => h.elim
  | a :: s, g, (d, e), h => by
    rw [lg] at h
    rw [ap]
    by_cases hd : d = s.length
    · rw [if_pos hd] at h ⊢
      obtain ⟨h1, h2, h3⟩ := h
      have hs := all_rep h3
      obtain ⟨k1, k2⟩ := top_num r s.length a e g h1 h2
      have e1 : L r (a :: s) g = tower r s.length (thi a e) (nx r a g) + bf r s.length a g := by
        rw [L]
        congr 1
        rw [hs, L_rep, List.length_replicate]
      have e2 : L r (e :: s) g = tower r s.length (thi a e) (nx r e g) + bf r s.length e g := by
        rw [L]
        congr 1
        rw [hs, L_rep, List.length_replicate]
      rw [e1, e2]
      refine ⟨k1, fun q => ?_⟩
      obtain ⟨z1, z2⟩ := k2 q
      have hn : nm r s (nx r a g) = none := by
        rw [(nm_none r s _).1, (nm_none r s _).2]
        have := (near_fs r a g z1).2.2
        rw [← z2] at this
        rw [← this]
        exact hs
      rw [nm, hn]
      simp only [if_neg z1]
      rw [← z2, ← hd]
    · rw [if_neg hd] at h ⊢
      obtain ⟨k1, k2⟩ := move_le r s (nx r a g) (d, e) h
      rw [L, L, ap_len]
      refine ⟨by omega, fun q => ?_⟩
      rw [nm, k2 (by omega)]
/-- the next move can be done and takes off one -/
theorem next_ok (r : Ru) : ∀ (t : List Pg) (g : Pg) (m : Nat × Pg), nm r t g = some m → lg r m t ∧ L r t g = L r (ap m t) g + 1
  | [], _, _, h => by cases h
  | a :: s, g, (d, e), h => by
    rw [nm] at h
    cases hs : nm r s (nx r a g) with
    | some m' =>
      rw [hs] at h
      have e0 := Option.some.inj h
      subst e0
      obtain ⟨k1, k2⟩ := next_ok r s (nx r a g) (d, e) hs
      have hl := lg_lt r _ s k1
      have hd : ¬ d = s.length := by
        have : d < s.length := hl
        omega
      rw [lg, ap, if_neg hd, if_neg hd, L, L, ap_len]
      exact ⟨k1, by omega⟩
    | none =>
      rw [hs] at h
      by_cases ha : a = g
      · simp only [if_pos ha] at h
        cases h
      · simp only [if_neg ha] at h
        have e0 := Option.some.inj h
        obtain ⟨rfl, rfl⟩ := Prod.mk.inj e0
        have hz := (nm_none r s (nx r a g)).2.mp ((nm_none r s (nx r a g)).1.mp hs)
        obtain ⟨n1, n2, n3⟩ := near_fs r a g ha
        rw [lg, ap, if_pos rfl, if_pos rfl]
        refine ⟨⟨n2, n1, ?_⟩, ?_⟩
        · rw [n3]
          exact fun x hx => (List.eq_replicate_iff.mp hz).2 x hx
        · have hs' : s = List.replicate s.length (thi a (fs r a g)) := by rw [n3]; exact hz
          have e1 : L r (a :: s) g = tower r s.length (thi a (fs r a g)) (nx r a g) + bf r s.length a g := by
            rw [L]
            congr 1
            rw [hs', L_rep, List.length_replicate]
          have e2 : L r (fs r a g :: s) g = tower r s.length (thi a (fs r a g)) (nx r (fs r a g) g) + bf r s.length (fs r a g) g := by
            rw [L]
            congr 1
            rw [hs', L_rep, List.length_replicate]
          rw [e1, e2]
          generalize s.length = n
          have hf := tw_facts r n
          clear hs h e0 hz n1 n2 n3 hs' e1 e2
          revert a g
          unfold bf tower
          generalize tw r n = xy at hf ⊢
          obtain ⟨x, y⟩ := xy
          cases r
          · have h := hf.2.2 rfl
            simp only at h
            subst h
            refine fin3 (fin3 ?_ ?_ ?_) (fin3 ?_ ?_ ?_) (fin3 ?_ ?_ ?_) <;> simp (decide := true) [nx, fs, near, thi] <;> omega
          · refine fin3 (fin3 ?_ ?_ ?_) (fin3 ?_ ?_ ?_) (fin3 ?_ ?_ ?_) <;> simp (decide := true) [nx, fs, near, thi] <;> omega
          · refine fin3 (fin3 ?_ ?_ ?_) (fin3 ?_ ?_ ?_) (fin3 ?_ ?_ ?_) <;> simp (decide := true) [nx, fs, near, thi] <;> omega
/-- by the rules that go both ways a move is taken back by a move -/
theorem move_back (r : Ru) (hr : r ≠ .round) : ∀ (t : List Pg) (m : Nat × Pg), lg r m t → ∃ e, lg r (m.1, e) (ap m t) ∧ ap (m.1, e) (ap m t) = t
  | [], _, h => h.elim
  | a :: s, (d, e), h => by
    rw [lg] at h
    rw [ap]
    by_cases hd : d = s.length
    · rw [if_pos hd] at h ⊢
      obtain ⟨h1, h2, h3⟩ := h
      refine ⟨a, ?_, ?_⟩
      · rw [lg, if_pos hd]
        refine ⟨fun z => h1 z.symm, ?_, fun x hx => ?_⟩
        · have key : ∀ (r : Ru) (a e : Pg), r ≠ .round → near r a e = true → near r e a = true := by
            intro r
            cases r <;> decide
          exact key r a e hr h2
        · rw [h3 x hx]
          have : ∀ a e : Pg, thi a e = thi e a := by decide
          exact this a e
      · rw [ap, if_pos hd]
    · rw [if_neg hd] at h ⊢
      obtain ⟨e', k1, k2⟩ := move_back r hr s (d, e) h
      refine ⟨e', ?_, ?_⟩
      · rw [lg, if_neg (by rw [ap_len]; exact hd)]
        exact k1
      · rw [ap, if_neg (by rw [ap_len]; exact hd), k2]
theorem move_ge (r : Ru) (hr : r ≠ .round) (t : List Pg) (g : Pg) (m : Nat × Pg) (h : lg r m t) : L r (ap m t) g ≤ L r t g + 1 := by
  obtain ⟨e, k1, k2⟩ := move_back r hr t m h
  have := (move_le r _ g _ k1).1
  rw [k2] at this
  exact this

/-! ### goals, sums, the least disc that is to go: over lists -/
/-- for each disc the peg to which it is to go first, the greatest first -/
def goG (r : Ru) : List Pg → Pg → List Pg
  | [], _ => []
  | a :: s, g => g :: goG r s (nx r a g)
theorem goG_len (r : Ru) : ∀ (t : List Pg) (g : Pg), (goG r t g).length = t.length
  | [], _ => rfl
  | a :: s, g => by rw [goG, List.length_cons, List.length_cons, goG_len r s]
/-- the same, the least first; for a state with the least disc first -/
def gls (r : Ru) (s : List Pg) (g : Pg) : List Pg := (goG r s.reverse g).reverse
theorem gls_len (r : Ru) (s : List Pg) (g : Pg) : (gls r s g).length = s.length := by rw [gls, List.length_reverse, goG_len, List.length_reverse]
def sumF (r : Ru) : Nat → List Pg → List Pg → Nat
  | i, a :: s, g :: gs => bf r i a g + sumF r (i + 1) s gs
  | _, _, _ => 0
theorem sumF_app (r : Ru) (a g : Pg) : ∀ (i : Nat) (s gs : List Pg), s.length = gs.length → sumF r i (s ++ [a]) (gs ++ [g]) = sumF r i s gs + bf r (i + s.length) a g
  | i, [], [], _ => by simp [sumF]
  | i, [], _ :: _, h => by simp at h
  | i, _ :: _, [], h => by simp at h
  | i, x :: s, y :: gs, h => by
    rw [List.cons_append, List.cons_append, sumF, sumF, sumF_app r a g (i + 1) s gs (by simpa using h), List.length_cons]
    have e : i + 1 + s.length = i + (s.length + 1) := by omega
    rw [e]
    omega
theorem sumF_L (r : Ru) : ∀ (t : List Pg) (g : Pg), sumF r 0 t.reverse (goG r t g).reverse = L r t g
  | [], _ => rfl
  | a :: s, g => by
    rw [goG, List.reverse_cons, List.reverse_cons, sumF_app r a g 0 _ _ (by rw [List.length_reverse, List.length_reverse, goG_len]), sumF_L r s, List.length_reverse, Nat.zero_add, L]
theorem sumF_left (r : Ru) (s : List Pg) (g : Pg) : sumF r 0 s (gls r s g) = L r s.reverse g := by
  have := sumF_L r s.reverse g
  rw [List.reverse_reverse] at this
  exact this
def nmF (r : Ru) : Nat → List Pg → List Pg → Option (Nat × Pg)
  | i, a :: s, g :: gs => if a = g then nmF r (i + 1) s gs else some (i, fs r a g)
  | _, _, _ => none
theorem nmF_app (r : Ru) (a g : Pg) : ∀ (i : Nat) (s gs : List Pg), s.length = gs.length → nmF r i (s ++ [a]) (gs ++ [g]) = match nmF r i s gs with
    | some m => some m
    | none => if a = g then none else some (i + s.length, fs r a g)
  | i, [], [], _ => by simp [nmF]
  | i, [], _ :: _, h => by simp at h
  | i, _ :: _, [], h => by simp at h
  | i, x :: s, y :: gs, h => by
    rw [List.cons_append, List.cons_append, nmF, nmF, nmF_app r a g (i + 1) s gs (by simpa using h), List.length_cons]
    have e : i + 1 + s.length = i + (s.length + 1) := by omega
    rw [e]
    by_cases hxy : x = y
    · rw [if_pos hxy, if_pos hxy]
    · rw [if_neg hxy, if_neg hxy]
theorem nmF_nm (r : Ru) : ∀ (t : List Pg) (g : Pg), nmF r 0 t.reverse (goG r t g).reverse = nm r t g
  | [], _ => rfl
  | a :: s, g => by
    rw [goG, List.reverse_cons, List.reverse_cons, nmF_app r a g 0 _ _ (by rw [List.length_reverse, List.length_reverse, goG_len]), nmF_nm r s, List.length_reverse, Nat.zero_add, nm]
theorem nmF_next (r : Ru) (s : List Pg) (g : Pg) : nmF r 0 s (gls r s g) = nm r s.reverse g := by
  have := nmF_nm r s.reverse g
  rw [List.reverse_reverse] at this
  exact this
theorem steps_nil (r : Ru) (a g : Pg) : steps r a g = [] ↔ a = g := by
  unfold steps
  by_cases h : a = g
  · simp [h]
  · rw [if_neg h]
    refine ⟨fun z => ?_, fun z => absurd z h⟩
    split at z <;> cases z
theorem steps_head (r : Ru) {a g : Pg} (h : a ≠ g) : ∃ l, steps r a g = (a, fs r a g) :: l := by
  unfold steps fs
  rw [if_neg h]
  by_cases hn : near r a g = true
  · rw [if_pos hn, if_pos hn]
    exact ⟨_, rfl⟩
  · rw [if_neg hn, if_neg hn]
    exact ⟨_, rfl⟩
theorem nx_ne (r : Ru) {a g : Pg} (h : a ≠ g) : nx r a g = thi a (fs r a g) := by rw [nx, if_neg h]
end TM

/-! plain mathematics: what a law's helpers give -/
namespace TM
/-! ### draws -/
def prs : List Int := [1000003, 1000033, 1000037, 1000039, 1000081, 1000099, 1000117, 1000121, 1000133, 1000151, 1000159, 1000171, 1000183, 1000187, 1000193, 1000199]
def prAt (k : Nat) : Int := prs.getD (k % 16) 1
theorem prAt_pos (k : Nat) : 0 < prAt k := by
  unfold prAt
  have h : k % 16 < 16 := Nat.mod_lt _ (by decide)
  have key : ∀ j, j < 16 → 0 < prs.getD j 1 := by decide
  exact key _ h
def drw (c : Int) (k m : Nat) : Nat := ((c * 48271 + (k : Int) * 69621) % prAt k % (m : Int)).toNat
theorem drw_int (c : Int) (k m : Nat) (h : 0 < m) : (c * 48271 + (k : Int) * 69621) % prAt k % (m : Int) = (drw c k m : Int) := by
  have h1 : 0 ≤ (c * 48271 + (k : Int) * 69621) % prAt k % (m : Int) := Int.emod_nonneg _ (by omega)
  unfold drw
  omega
theorem drw_lt (c : Int) (k m : Nat) (h : 0 < m) : drw c k m < m := by
  have h1 : (c * 48271 + (k : Int) * 69621) % prAt k % (m : Int) < m := Int.emod_lt_of_pos _ (by omega)
  rw [drw_int c k m h] at h1
  omega
def cel (ns : List Int) (k : Nat) : Int := ns.getD k 0
def drP (c : Int) (k : Nat) : Pg := ⟨drw c k 3, drw_lt c k 3 (by decide)⟩
/-- one turn of the drawn state -/
def peg1 (kind : Nat) (len by_ : Nat) (k : Nat) (c : Int) : Pg :=
  let p0 := drP c (k % 5 + by_)
  let p1 := if kind = 1 ∧ 0 < drw c (k % 7 + by_) 4 then (1 : Pg) else p0
  if kind = 2 ∧ len / 2 < k then (2 : Pg) else p1
def turnS (kind : Nat) (len by_ : Nat) (found : List Pg) (k : Nat) (c : Int) : List Pg :=
  (if kind = 3 then found ++ List.replicate (drw c (k % 6 + 7) 3) (peg1 kind len by_ k c) else found) ++ [peg1 kind len by_ k c]
def runS (kind : Nat) (len by_ : Nat) : List Pg → Nat → List Int → List Pg
  | found, _, [] => found
  | found, k, c :: cs => runS kind len by_ (turnS kind len by_ found k c) (k + 1) cs
def lawS (ns : List Int) (by_ : Nat) : List Pg := runS (drw (cel ns 0) 6 5) ns.length by_ [] 0 ns
theorem turnS_len (kind len by_ : Nat) (f g : List Pg) (k : Nat) (c : Int) (b2 : Nat) (h : f.length = g.length) : (turnS kind len by_ f k c).length = (turnS kind len b2 g k c).length := by
  unfold turnS
  rw [List.length_append, List.length_append]
  by_cases hk : kind = 3
  · rw [if_pos hk, if_pos hk, List.length_append, List.length_append, List.length_replicate, List.length_replicate, h, List.length_singleton, List.length_singleton]
  · rw [if_neg hk, if_neg hk, h, List.length_singleton, List.length_singleton]
theorem turnS_le (kind len by_ : Nat) (f : List Pg) (k : Nat) (c : Int) : (turnS kind len by_ f k c).length ≤ f.length + 3 := by
  unfold turnS
  rw [List.length_append]
  have h := drw_lt c (k % 6 + 7) 3 (by decide)
  by_cases hk : kind = 3
  · rw [if_pos hk, List.length_append, List.length_replicate, List.length_singleton]
    omega
  · rw [if_neg hk, List.length_singleton]
    omega
theorem runS_len (kind len b1 b2 : Nat) : ∀ (cs : List Int) (f g : List Pg) (k : Nat), f.length = g.length → (runS kind len b1 f k cs).length = (runS kind len b2 g k cs).length
  | [], _, _, _, h => h
  | c :: cs, f, g, k, h => by
    rw [runS, runS]
    exact runS_len kind len b1 b2 cs _ _ _ (turnS_len kind len b1 f g k c b2 h)
theorem runS_le (kind len b1 : Nat) : ∀ (cs : List Int) (f : List Pg) (k : Nat), (runS kind len b1 f k cs).length ≤ f.length + 3 * cs.length
  | [], _, _ => by rw [runS]; omega
  | c :: cs, f, k => by
    rw [runS, List.length_cons]
    have h1 := runS_le kind len b1 cs (turnS kind len b1 f k c) (k + 1)
    have h2 := turnS_le kind len b1 f k c
    omega
theorem lawS_len (ns : List Int) (b1 b2 : Nat) : (lawS ns b1).length = (lawS ns b2).length := runS_len _ _ _ _ _ _ _ _ rfl
theorem lawS_le (ns : List Int) (b : Nat) : (lawS ns b).length ≤ 3 * ns.length := by
  have := runS_le (drw (cel ns 0) 6 5) ns.length b ns [] 0
  unfold lawS
  simpa using this
def ruAt : Nat → Ru
  | 0 => .free
  | 1 => .line
  | _ => .round
def lawR (ns : List Int) (k : Nat) : Ru := ruAt (drw (cel ns k) (k + 1) 3)
/-! ### all moves -/
def canG (r : Ru) (cov : List Pg) (a e : Pg) : Bool := (decide (a ≠ e) && !decide (e ∈ cov)) && near r a e
def mvs (r : Ru) : Nat → List Pg → List Pg → List (Nat × Pg)
  | _, _, [] => []
  | i, cov, a :: s => if a ∈ cov then mvs r (i + 1) cov s else (([0, 1, 2] : List Pg).filter (canG r cov a)).map (fun e => (i, e)) ++ mvs r (i + 1) (cov ++ [a]) s
theorem pegs_all : ∀ e : Pg, e ∈ ([0, 1, 2] : List Pg) := by decide
theorem canG_iff (r : Ru) (cov : List Pg) (a e : Pg) : canG r cov a e = true ↔ a ≠ e ∧ e ∉ cov ∧ near r a e = true := by
  unfold canG
  simp only [Bool.and_eq_true, decide_eq_true_eq, Bool.not_eq_true', decide_eq_false_iff_not, and_assoc]
theorem mem_mvs (r : Ru) : ∀ (s : List Pg) (i : Nat) (cov : List Pg) (d : Nat) (e : Pg), (d, e) ∈ mvs r i cov s ↔
    ∃ j a, d = i + j ∧ s[j]? = some a ∧ a ∉ cov ∧ e ∉ cov ∧ (∀ x ∈ s.take j, x ≠ a ∧ x ≠ e) ∧ a ≠ e ∧ near r a e = true
  | [], i, cov, d, e => by
    rw [mvs]
    constructor
    · intro h; cases h
    · rintro ⟨j, a, _, h, _⟩
      simp at h
  | b :: s, i, cov, d, e => by
    rw [mvs]
    by_cases hb : b ∈ cov
    · rw [if_pos hb, mem_mvs r s]
      constructor
      · rintro ⟨j, a, h1, h2, h3, h4, h5, h6⟩
        refine ⟨j + 1, a, by omega, by simpa using h2, h3, h4, ?_, h6⟩
        intro x hx
        rw [List.take_succ_cons] at hx
        rcases List.mem_cons.mp hx with rfl | hx
        · exact ⟨fun z => h3 (z ▸ hb), fun z => h4 (z ▸ hb)⟩
        · exact h5 x hx
      · rintro ⟨j, a, h1, h2, h3, h4, h5, h6⟩
        cases j with
        | zero =>
          have e0 : b = a := by simpa using h2
          subst e0
          exact absurd hb h3
        | succ j =>
          refine ⟨j, a, by omega, by simpa using h2, h3, h4, fun x hx => h5 x ?_, h6⟩
          rw [List.take_succ_cons]
          exact List.mem_cons_of_mem _ hx
    · rw [if_neg hb, List.mem_append, mem_mvs r s]
      constructor
      · rintro (h | ⟨j, a, h1, h2, h3, h4, h5, h6⟩)
        · obtain ⟨e', he, hq⟩ := List.mem_map.mp h
          obtain ⟨rfl, rfl⟩ := Prod.mk.inj hq
          obtain ⟨c1, c2, c3⟩ := (canG_iff r cov b e').mp (List.mem_filter.mp he).2
          exact ⟨0, b, rfl, rfl, hb, c2, fun x hx => (by rw [List.take_zero] at hx; cases hx), c1, c3⟩
        · have h3' : a ∉ cov ∧ a ≠ b := ⟨fun z => h3 (List.mem_append_left _ z), fun z => h3 (List.mem_append_right _ (by rw [z]; exact List.mem_singleton.mpr rfl))⟩
          have h4' : e ∉ cov ∧ e ≠ b := ⟨fun z => h4 (List.mem_append_left _ z), fun z => h4 (List.mem_append_right _ (by rw [z]; exact List.mem_singleton.mpr rfl))⟩
          refine ⟨j + 1, a, by omega, by simpa using h2, h3'.1, h4'.1, ?_, h6⟩
          intro x hx
          rw [List.take_succ_cons] at hx
          rcases List.mem_cons.mp hx with rfl | hx
          · exact ⟨fun z => h3'.2 z.symm, fun z => h4'.2 z.symm⟩
          · exact h5 x hx
      · rintro ⟨j, a, h1, h2, h3, h4, h5, h6, h7⟩
        cases j with
        | zero =>
          have e0 : b = a := by simpa using h2
          subst e0
          refine .inl (List.mem_map.mpr ⟨e, List.mem_filter.mpr ⟨pegs_all e, (canG_iff r cov b e).mpr ⟨h6, h4, h7⟩⟩, by rw [h1]; rfl⟩)
        | succ j =>
          have hb2 := h5 b (by rw [List.take_succ_cons]; exact List.mem_cons_self)
          refine .inr ⟨j, a, by omega, by simpa using h2, ?_, ?_, fun x hx => h5 x ?_, h6, h7⟩
          · intro z
            rcases List.mem_append.mp z with z | z
            · exact h3 z
            · exact hb2.1 (List.mem_singleton.mp z).symm
          · intro z
            rcases List.mem_append.mp z with z | z
            · exact h4 z
            · exact hb2.2 (List.mem_singleton.mp z).symm
          · rw [List.take_succ_cons]
            exact List.mem_cons_of_mem _ hx
theorem mvs_ge (r : Ru) {s : List Pg} {i : Nat} {cov : List Pg} {m : Nat × Pg} (h : m ∈ mvs r i cov s) : i ≤ m.1 := by
  obtain ⟨d, e⟩ := m
  obtain ⟨j, a, h1, _⟩ := (mem_mvs r s i cov d e).mp h
  show i ≤ d
  omega
theorem mvs_nodup (r : Ru) : ∀ (s : List Pg) (i : Nat) (cov : List Pg), (mvs r i cov s).Nodup
  | [], _, _ => List.nodup_nil
  | a :: s, i, cov => by
    rw [mvs]
    by_cases h : a ∈ cov
    · rw [if_pos h]
      exact mvs_nodup r s _ _
    · rw [if_neg h, List.nodup_append]
      refine ⟨?_, mvs_nodup r s _ _, ?_⟩
      · have : (([0, 1, 2] : List Pg).filter (canG r cov a)).Nodup := List.Nodup.sublist List.filter_sublist (by decide)
        exact List.Pairwise.map _ (fun x y hxy z => hxy (Prod.mk.inj z).2) this
      · rintro x hx y hy rfl
        obtain ⟨e, _, rfl⟩ := List.mem_map.mp hx
        have := mvs_ge r hy
        have : i + 1 ≤ i := this
        omega
/-- a move over the reversed list -/
theorem lg_iff (r : Ru) (e : Pg) : ∀ (t : List Pg) (d : Nat), lg r (d, e) t ↔ ∃ a, t.reverse[d]? = some a ∧ a ≠ e ∧ near r a e = true ∧ ∀ x ∈ t.reverse.take d, x = thi a e
  | [], d => by
    rw [lg]
    constructor
    · intro h; exact h.elim
    · rintro ⟨a, h, _⟩
      simp at h
  | b :: s, d => by
    rw [lg, List.reverse_cons]
    by_cases hd : d = s.length
    · rw [if_pos hd]
      subst hd
      have h1 : (s.reverse ++ [b])[s.length]? = some b := by rw [List.getElem?_append_right (by rw [List.length_reverse]; exact Nat.le_refl _), List.length_reverse, Nat.sub_self]; rfl
      have h2 : (s.reverse ++ [b]).take s.length = s.reverse := by rw [List.take_append_of_le_length (by rw [List.length_reverse]; exact Nat.le_refl _), List.take_of_length_le (by rw [List.length_reverse]; exact Nat.le_refl _)]
      rw [h1, h2]
      constructor
      · rintro ⟨q1, q2, q3⟩
        exact ⟨b, rfl, q1, q2, fun x hx => q3 x (List.mem_reverse.mp hx)⟩
      · rintro ⟨a, q0, q1, q2, q3⟩
        have e0 : b = a := Option.some.inj q0
        subst e0
        exact ⟨q1, q2, fun x hx => q3 x (List.mem_reverse.mpr hx)⟩
    · rw [if_neg hd, lg_iff r e s d]
      by_cases hl : d < s.length
      · have h1 : (s.reverse ++ [b])[d]? = s.reverse[d]? := List.getElem?_append_left (by rw [List.length_reverse]; exact hl)
        have h2 : (s.reverse ++ [b]).take d = s.reverse.take d := List.take_append_of_le_length (by rw [List.length_reverse]; omega)
        rw [h1, h2]
      · have h1 : (s.reverse ++ [b])[d]? = none := List.getElem?_eq_none (by rw [List.length_append, List.length_reverse, List.length_singleton]; omega)
        have h2 : s.reverse[d]? = none := List.getElem?_eq_none (by rw [List.length_reverse]; omega)
        rw [h1, h2]
        constructor
        · rintro ⟨a, h, _⟩; cases h
        · rintro ⟨a, h, _⟩; cases h
theorem ap_rev (d : Nat) (e : Pg) : ∀ t : List Pg, (ap (d, e) t).reverse = t.reverse.set d e
  | [] => rfl
  | b :: s => by
    rw [ap, List.reverse_cons]
    by_cases hd : d = s.length
    · rw [if_pos hd, List.reverse_cons]
      subst hd
      rw [List.set_append_right _ _ (by rw [List.length_reverse]; exact Nat.le_refl _), List.length_reverse, Nat.sub_self]
      rfl
    · rw [if_neg hd, List.reverse_cons, ap_rev d e s]
      by_cases hl : d < s.length
      · rw [List.set_append_left _ _ (by rw [List.length_reverse]; exact hl)]
      · rw [List.set_eq_of_length_le (by rw [List.length_reverse]; omega), List.set_eq_of_length_le (by rw [List.length_append, List.length_reverse, List.length_singleton]; omega)]
theorem thi_iff : ∀ a e x : Pg, a ≠ e → (x = thi a e ↔ x ≠ a ∧ x ≠ e) := by decide
/-- the moves of a state: those that can be done -/
theorem mem_moves (r : Ru) (s : List Pg) (m : Nat × Pg) : m ∈ mvs r 0 [] s ↔ lg r m s.reverse := by
  obtain ⟨d, e⟩ := m
  rw [mem_mvs, lg_iff, List.reverse_reverse]
  constructor
  · rintro ⟨j, a, h1, h2, _, _, h5, h6, h7⟩
    have e0 : d = j := by omega
    subst e0
    exact ⟨a, h2, h6, h7, fun x hx => (thi_iff a e x h6).mpr (h5 x hx)⟩
  · rintro ⟨a, h1, h2, h3, h4⟩
    exact ⟨d, a, by omega, h1, by simp, by simp, fun x hx => (thi_iff a e x h2).mp (h4 x hx), h2, h3⟩
theorem after_rev (s : List Pg) (m : Nat × Pg) : (s.set m.1 m.2).reverse = ap m s.reverse := by
  obtain ⟨d, e⟩ := m
  have := ap_rev d e s.reverse
  rw [List.reverse_reverse] at this
  rw [← this, List.reverse_reverse]
theorem filter_one {α : Type} {p : α → Bool} {x : α} : ∀ {l : List α}, l.Nodup → x ∈ l → (∀ y ∈ l, (p y = true ↔ y = x)) → l.filter p = [x]
  | [], _, h, _ => by cases h
  | y :: l, hn, h, hp => by
    obtain ⟨h1, h2⟩ := List.nodup_cons.mp hn
    by_cases hy : y = x
    · subst hy
      rw [List.filter_cons_of_pos ((hp y List.mem_cons_self).mpr rfl)]
      congr 1
      rw [List.filter_eq_nil_iff]
      intro z hz hpz
      have := (hp z (List.mem_cons_of_mem _ hz)).mp hpz
      exact h1 (this ▸ hz)
    · have hx : x ∈ l := by
        rcases List.mem_cons.mp h with z | z
        · exact absurd z.symm hy
        · exact z
      rw [List.filter_cons_of_neg (fun z => hy ((hp y List.mem_cons_self).mp z))]
      exact filter_one h2 hx fun z hz => hp z (List.mem_cons_of_mem _ hz)
/-- among the moves just the next one takes off one -/
theorem best_one (r : Ru) (s : List Pg) (g : Pg) : (mvs r 0 [] s).filter (fun m => decide ((L r (s.set m.1 m.2).reverse g : Int) - L r s.reverse g = -1)) = (nm r s.reverse g).toList := by
  cases h : nm r s.reverse g with
  | none =>
    have h0 := (nm_none r _ _).1.mp h
    rw [List.filter_eq_nil_iff.mpr]
    · rfl
    · intro m _
      rw [decide_eq_true_eq, h0]
      omega
  | some m0 =>
    obtain ⟨k1, k2⟩ := next_ok r _ _ m0 h
    refine filter_one (mvs_nodup r s 0 []) ((mem_moves r s m0).mpr k1) fun m hm => ?_
    rw [decide_eq_true_eq, after_rev]
    have hl := (mem_moves r s m).mp hm
    constructor
    · intro q
      have := (move_le r _ g m hl).2 (by omega)
      rw [h] at this
      exact (Option.some.inj this).symm
    · rintro rfl
      omega
theorem mvs_len (r : Ru) : ∀ (s : List Pg) (i : Nat) (cov : List Pg), (mvs r i cov s).length ≤ 3 * s.length
  | [], _, _ => Nat.le_refl _
  | a :: s, i, cov => by
    rw [mvs, List.length_cons]
    by_cases h : a ∈ cov
    · rw [if_pos h]
      have := mvs_len r s (i + 1) cov
      omega
    · rw [if_neg h, List.length_append, List.length_map]
      have h1 := mvs_len r s (i + 1) (cov ++ [a])
      have h2 : (([0, 1, 2] : List Pg).filter (canG r cov a)).length ≤ 3 := List.length_filter_le _ _
      omega
theorem turnS_ge (kind len by_ : Nat) (f : List Pg) (k : Nat) (c : Int) : f.length + 1 ≤ (turnS kind len by_ f k c).length := by
  unfold turnS
  rw [List.length_append]
  by_cases hk : kind = 3
  · rw [if_pos hk, List.length_append, List.length_singleton]
    omega
  · rw [if_neg hk, List.length_singleton]
    omega
theorem runS_ge (kind len b1 : Nat) : ∀ (cs : List Int) (f : List Pg) (k : Nat), f.length + cs.length ≤ (runS kind len b1 f k cs).length
  | [], _, _ => by rw [runS]; simp
  | c :: cs, f, k => by
    rw [runS, List.length_cons]
    have h1 := runS_ge kind len b1 cs (turnS kind len b1 f k c) (k + 1)
    have h2 := turnS_ge kind len b1 f k c
    omega
theorem lawS_ge (ns : List Int) (b : Nat) : ns.length ≤ (lawS ns b).length := by
  have := runS_ge (drw (cel ns 0) 6 5) ns.length b ns [] 0
  simpa [lawS] using this
/-- the least disc can always go -/
theorem mvs_ne (r : Ru) {s : List Pg} (h : s ≠ []) : 0 < (mvs r 0 [] s).length := by
  cases s with
  | nil => exact absurd rfl h
  | cons a s =>
    have he : ∃ e : Pg, a ≠ e ∧ near r a e = true := by
      clear h
      revert a
      cases r <;> decide
    obtain ⟨e, h1, h2⟩ := he
    refine List.length_pos_of_mem ((mem_mvs r (a :: s) 0 [] 0 e).mpr ⟨0, a, rfl, rfl, by simp, by simp, by simp, h1, h2⟩)
end TM

/-! plain: the state behind so many moves -/
namespace TM
def BN (r : Ru) : Nat → List Pg → Pg → Nat → List Pg
  | _, [], _, _ => []
  | 0, _ :: _, _, _ => []
  | f + 1, a :: s, g, k => if a = g ∨ k ≤ L r s (nx r a g) then a :: BN r f s (nx r a g) k
    else if near r a g = true then g :: BN r f (List.replicate s.length (thi a g)) g (k - (L r s (nx r a g) + 1))
    else if k - (L r s (nx r a g) + 1) ≤ tower r s.length g a then thi a g :: BN r f (List.replicate s.length g) a (k - (L r s (nx r a g) + 1))
    else g :: BN r f (List.replicate s.length a) g (k - (L r s (nx r a g) + 1) - (tower r s.length g a + 1))
/-- the state behind k moves, the greatest disc first -/
def B (r : Ru) (t : List Pg) (g : Pg) (k : Nat) : List Pg := BN r t.length t g k
theorem B_nil (r : Ru) (g : Pg) (k : Nat) : B r [] g k = [] := rfl
theorem B_cons (r : Ru) (a : Pg) (s : List Pg) (g : Pg) (k : Nat) : B r (a :: s) g k = if a = g ∨ k ≤ L r s (nx r a g) then a :: B r s (nx r a g) k
    else if near r a g = true then g :: B r (List.replicate s.length (thi a g)) g (k - (L r s (nx r a g) + 1))
    else if k - (L r s (nx r a g) + 1) ≤ tower r s.length g a then thi a g :: B r (List.replicate s.length g) a (k - (L r s (nx r a g) + 1))
    else g :: B r (List.replicate s.length a) g (k - (L r s (nx r a g) + 1) - (tower r s.length g a + 1)) := by
  unfold B
  rw [List.length_cons, BN]
  simp only [List.length_replicate]
theorem B_len' (r : Ru) : ∀ (n : Nat) (t : List Pg) (g : Pg) (k : Nat), t.length = n → (B r t g k).length = n := by
  intro n
  induction n with
  | zero => intro t g k h; rw [List.length_eq_zero_iff.mp h]; rfl
  | succ n ih =>
    intro t g k h
    cases t with
    | nil => cases h
    | cons a s =>
      have hs : s.length = n := by simpa using h
      rw [B_cons]
      split
      · rw [List.length_cons, ih _ _ _ hs]
      · split
        · rw [List.length_cons, ih _ _ _ (by rw [List.length_replicate]; exact hs)]
        · split
          · rw [List.length_cons, ih _ _ _ (by rw [List.length_replicate]; exact hs)]
          · rw [List.length_cons, ih _ _ _ (by rw [List.length_replicate]; exact hs)]
theorem B_len (r : Ru) (t : List Pg) (g : Pg) (k : Nat) : (B r t g k).length = t.length := B_len' r _ t g k rfl
theorem B_zero' (r : Ru) : ∀ (n : Nat) (t : List Pg) (g : Pg), t.length = n → B r t g 0 = t := by
  intro n
  induction n with
  | zero => intro t g h; rw [List.length_eq_zero_iff.mp h]; rfl
  | succ n ih =>
    intro t g h
    cases t with
    | nil => cases h
    | cons a s => rw [B_cons, if_pos (Or.inr (Nat.zero_le _)), ih _ _ (by simpa using h)]
theorem B_zero (r : Ru) (t : List Pg) (g : Pg) : B r t g 0 = t := B_zero' r _ t g rfl
/-- one step of the walk -/
def St (r : Ru) (t : List Pg) (g : Pg) (k : Nat) : Prop := ∃ m, nm r (B r t g k) g = some m ∧ B r t g (k + 1) = ap m (B r t g k)
theorem nm_keep {r : Ru} {a g : Pg} {s : List Pg} {m : Nat × Pg} (h : nm r s (nx r a g) = some m) : nm r (a :: s) g = some m ∧ ap m (a :: s) = a :: ap m s := by
  have hl := lg_lt _ _ _ (next_ok r s _ m h).1
  constructor
  · rw [nm, h]
  · rw [ap, if_neg (by omega)]
theorem nm_top {r : Ru} {a g : Pg} (s : List Pg) (ha : a ≠ g) (h : s = List.replicate s.length (nx r a g)) : nm r (a :: s) g = some (s.length, fs r a g) ∧ ap (s.length, fs r a g) (a :: s) = fs r a g :: s := by
  have h0 : nm r s (nx r a g) = none := ((nm_none r s _).1).mpr (((nm_none r s _).2).mpr h)
  constructor
  · rw [nm, h0, if_neg ha]
  · rw [ap, if_pos rfl]
theorem left_of_steps {r : Ru} {t : List Pg} {g : Pg} (h : ∀ k, k < L r t g → St r t g k) : ∀ k, k ≤ L r t g → L r (B r t g k) g + k = L r t g := by
  intro k
  induction k with
  | zero => intro _; rw [B_zero]; rfl
  | succ k ih =>
    intro hk
    obtain ⟨m, h1, h2⟩ := h k (by omega)
    have := (next_ok r _ g m h1).2
    rw [← h2] at this
    have := ih (by omega)
    omega
theorem end_of_steps {r : Ru} {t : List Pg} {g : Pg} (h : ∀ k, k < L r t g → St r t g k) : B r t g (L r t g) = List.replicate t.length g := by
  have h1 := left_of_steps h _ (Nat.le_refl _)
  have h2 : L r (B r t g (L r t g)) g = 0 := by omega
  have h3 := ((nm_none r _ _).2).mp h2
  rw [B_len] at h3
  exact h3
/-- the pegs of a disc that goes by two steps -/
theorem far_facts (r : Ru) : ∀ a g : Pg, a ≠ g → ¬ near r a g = true → fs r a g = thi a g ∧ nx r a g = g ∧ thi a g ≠ g ∧ near r (thi a g) g = true ∧ fs r (thi a g) g = g ∧ nx r (thi a g) g = a := by
  cases r <;> decide
theorem near_facts (r : Ru) : ∀ a g : Pg, a ≠ g → near r a g = true → fs r a g = g ∧ nx r a g = thi a g := by
  cases r <;> decide
theorem steps_all (r : Ru) : ∀ (n : Nat) (t : List Pg), t.length = n → ∀ g k, k < L r t g → St r t g k := by
  intro n
  induction n with
  | zero => intro t h g k hk; rw [List.length_eq_zero_iff.mp h] at hk; simp [L] at hk
  | succ n ih =>
    intro t h g k hk
    cases t with
    | nil => cases h
    | cons a s =>
      have hs : s.length = n := by simpa using h
      have hrep : ∀ p : Pg, (List.replicate s.length p).length = n := fun p => by rw [List.length_replicate]; exact hs
      rw [L] at hk
      have go : ∀ (b : Pg) (X : List Pg) (k : Nat), B r (a :: s) g k = b :: B r X (nx r b g) (k - (k - k)) → True := fun _ _ _ _ => trivial
      -- a walk of the lesser ones beneath a disc b
      have sub : ∀ (b : Pg) (X : List Pg) (j : Nat), X.length = n → B r (a :: s) g k = b :: B r X (nx r b g) j → B r (a :: s) g (k + 1) = b :: B r X (nx r b g) (j + 1) → j < L r X (nx r b g) → St r (a :: s) g k := by
        intro b X j hX h1 h2 hj
        obtain ⟨m, m1, m2⟩ := ih X hX _ j hj
        obtain ⟨q1, q2⟩ := nm_keep m1
        refine ⟨m, by rw [h1]; exact q1, ?_⟩
        rw [h1, h2, m2, q2]
      have top : ∀ (b : Pg), b ≠ g → B r (a :: s) g k = b :: List.replicate s.length (nx r b g) → B r (a :: s) g (k + 1) = fs r b g :: List.replicate s.length (nx r b g) → St r (a :: s) g k := by
        intro b hb h1 h2
        obtain ⟨q1, q2⟩ := nm_top (r := r) (a := b) (g := g) (List.replicate s.length (nx r b g)) hb (by rw [List.length_replicate])
        refine ⟨_, by rw [h1]; exact q1, ?_⟩
        rw [h1, h2, q2]
      by_cases hag : a = g
      · subst hag
        rw [bf_self, Nat.add_zero] at hk
        refine sub a s k hs ?_ ?_ hk
        · rw [B_cons, if_pos (Or.inl rfl)]
        · rw [B_cons, if_pos (Or.inl rfl)]
      · by_cases h1 : k < L r s (nx r a g)
        · refine sub a s k hs ?_ ?_ h1
          · rw [B_cons, if_pos (Or.inr (by omega))]
          · rw [B_cons, if_pos (Or.inr (by omega))]
        · have hend := end_of_steps (ih s hs (nx r a g))
          have no : ∀ j, L r s (nx r a g) < j → ¬ (a = g ∨ j ≤ L r s (nx r a g)) := fun j hj z => by
            rcases z with z | z
            · exact hag z
            · omega
          by_cases hn : near r a g = true
          · obtain ⟨f1, f2⟩ := near_facts r a g hag hn
            rw [bf, if_neg hag, if_pos hn] at hk
            by_cases h2 : k = L r s (nx r a g)
            · refine top a hag ?_ ?_
              · rw [B_cons, if_pos (Or.inr (by omega)), h2, hend]
              · rw [B_cons, if_neg (no _ (by omega)), if_pos hn, show k + 1 - (L r s (nx r a g) + 1) = 0 by omega, B_zero, f1, f2]
            · have e : k + 1 - (L r s (nx r a g) + 1) = k - (L r s (nx r a g) + 1) + 1 := by omega
              refine sub g (List.replicate s.length (thi a g)) (k - (L r s (nx r a g) + 1)) (hrep _) ?_ ?_ ?_
              · rw [B_cons, if_neg (no _ (by omega)), if_pos hn, nx_self]
              · rw [B_cons, if_neg (no _ (by omega)), if_pos hn, nx_self, e]
              · rw [nx_self, L_rep]; omega
          · obtain ⟨f1, f2, f3, f4, f5, f6⟩ := far_facts r a g hag hn
            rw [bf, if_neg hag, if_neg hn] at hk
            by_cases h2 : k = L r s (nx r a g)
            · refine top a hag ?_ ?_
              · rw [B_cons, if_pos (Or.inr (by omega)), h2, hend]
              · rw [B_cons, if_neg (no _ (by omega)), if_neg hn, show k + 1 - (L r s (nx r a g) + 1) = 0 by omega, if_pos (Nat.zero_le _), B_zero, f1, f2]
            · have e : k + 1 - (L r s (nx r a g) + 1) = k - (L r s (nx r a g) + 1) + 1 := by omega
              by_cases h3 : k - (L r s (nx r a g) + 1) < tower r s.length g a
              · refine sub (thi a g) (List.replicate s.length g) (k - (L r s (nx r a g) + 1)) (hrep _) ?_ ?_ ?_
                · rw [B_cons, if_neg (no _ (by omega)), if_neg hn, if_pos (by omega), f6]
                · rw [B_cons, if_neg (no _ (by omega)), if_neg hn, e, if_pos (by omega), f6]
                · rw [f6, L_rep]; exact h3
              · by_cases h4 : k - (L r s (nx r a g) + 1) = tower r s.length g a
                · have hE := end_of_steps (ih (List.replicate s.length g) (hrep _) a)
                  rw [L_rep, List.length_replicate] at hE
                  refine top (thi a g) f3 ?_ ?_
                  · rw [B_cons, if_neg (no _ (by omega)), if_neg hn, if_pos (by omega), f6, h4, hE]
                  · rw [B_cons, if_neg (no _ (by omega)), if_neg hn, e, if_neg (by omega), h4, Nat.sub_self, B_zero, f5, f6]
                · have e2 : k - (L r s (nx r a g) + 1) + 1 - (tower r s.length g a + 1) = k - (L r s (nx r a g) + 1) - (tower r s.length g a + 1) + 1 := by omega
                  refine sub g (List.replicate s.length a) (k - (L r s (nx r a g) + 1) - (tower r s.length g a + 1)) (hrep _) ?_ ?_ ?_
                  · rw [B_cons, if_neg (no _ (by omega)), if_neg hn, if_neg (by omega), nx_self]
                  · rw [B_cons, if_neg (no _ (by omega)), if_neg hn, e, if_neg (by omega), nx_self, e2]
                  · rw [nx_self, L_rep]; omega
theorem B_step (r : Ru) {t : List Pg} {g : Pg} {k : Nat} (h : k < L r t g) : ∃ m, nm r (B r t g k) g = some m ∧ B r t g (k + 1) = ap m (B r t g k) := steps_all r _ t rfl g k h
theorem B_left (r : Ru) {t : List Pg} {g : Pg} {k : Nat} (h : k ≤ L r t g) : L r (B r t g k) g + k = L r t g := left_of_steps (steps_all r _ t rfl g) k h
theorem B_end (r : Ru) (t : List Pg) (g : Pg) : B r t g (L r t g) = List.replicate t.length g := end_of_steps (steps_all r _ t rfl g)
/-! ### as the program does it -/
def goneF (r : Ru) (n : Nat) : List (Pg × Pg) → Pg → Pg → Nat → Pg × Pg × Nat × Option Pg
  | [], p, l, k => (p, l, k, none)
  | (a, b) :: st, p, l, k => if k ≤ tower r n l (thi a b) then (p, l, k, some (thi a b)) else goneF r n st b (thi a b) (k - (tower r n l (thi a b) + 1))
def TBF (r : Ru) : Nat → Pg → Pg → Nat → List Pg
  | 0, _, _, _ => []
  | n + 1, p, q, k => if p = q then p :: TBF r n p q k
    else (goneF r n (steps r p q) p p k).1 :: TBF r n (goneF r n (steps r p q) p p k).2.1 ((goneF r n (steps r p q) p p k).2.2.2.getD q) (goneF r n (steps r p q) p p k).2.2.1
theorem TBF_B (r : Ru) : ∀ (n : Nat) (p q : Pg) (k : Nat), TBF r n p q k = B r (List.replicate n p) q k
  | 0, _, _, _ => rfl
  | n + 1, p, q, k => by
    rw [TBF, List.replicate_succ, B_cons, L_rep, List.length_replicate]
    by_cases h : p = q
    · subst h
      rw [if_pos rfl, if_pos (Or.inl rfl), TBF_B r n, nx_self]
    · rw [if_neg h]
      by_cases hn : near r p q = true
      · obtain ⟨f1, f2⟩ := near_facts r p q h hn
        have e : steps r p q = [(p, q)] := by rw [steps, if_neg h, if_pos hn]
        rw [e, goneF, f2]
        by_cases hk : k ≤ tower r n p (thi p q)
        · rw [if_pos hk, if_pos (Or.inr hk)]
          rw [TBF_B r n]
          rfl
        · rw [if_neg hk, if_neg (fun z => by rcases z with z | z; exact h z; exact hk z), if_pos hn, goneF]
          rw [TBF_B r n]
          rfl
      · obtain ⟨f1, f2, f3, f4, f5, f6⟩ := far_facts r p q h hn
        have t1 : thi p (thi p q) = q := by rw [← f1, ← nx_ne r h, f2]
        have t2 : thi (thi p q) q = p := by
          have := nx_ne r f3
          rw [f6, f5] at this
          exact this.symm
        have e : steps r p q = [(p, thi p q), (thi p q, q)] := by rw [steps, if_neg h, if_neg hn]
        rw [e, goneF, f2, t1]
        by_cases hk : k ≤ tower r n p q
        · rw [if_pos hk, if_pos (Or.inr hk)]
          rw [TBF_B r n]
          rfl
        · rw [if_neg hk, if_neg (fun z => by rcases z with z | z; exact h z; exact hk z), if_neg hn, goneF, t2]
          by_cases hk2 : k - (tower r n p q + 1) ≤ tower r n q p
          · rw [if_pos hk2, if_pos hk2, TBF_B r n]
            rfl
          · rw [if_neg hk2, if_neg hk2, goneF, TBF_B r n]
            rfl
end TM

/-! plain: numbers on the long way -/
namespace TM
/-- a peg's figure -/
def fg (o : Bool) (a : Pg) : Pg := if o then -(1 + a) + 0 else a
def fg1 (o : Bool) (a : Pg) : Pg := if o then (2 - a) else a
def flp (o : Bool) (a : Pg) : Bool := o != decide (a = 1)
/-- the number, the greatest disc first -/
def num (o : Bool) : List Pg → Nat
  | [] => 0
  | a :: s => (fg1 o a).val * 3 ^ s.length + num (flp o a) s
/-- by the program's way -/
def numF : Nat → Bool → List Pg → Nat
  | n, _, [] => n
  | n, o, a :: s => numF (3 * n + (fg1 o a).val) (flp o a) s
theorem numF_eq : ∀ (s : List Pg) (n : Nat) (o : Bool), numF n o s = n * 3 ^ s.length + num o s
  | [], n, o => by simp [numF, num]
  | a :: s, n, o => by
    rw [numF, numF_eq s, num, List.length_cons, Nat.pow_succ, Nat.add_mul]
    have : 3 * n * 3 ^ s.length = n * (3 ^ s.length * 3) := by rw [Nat.mul_comm 3 n, Nat.mul_assoc, Nat.mul_comm 3]
    omega
theorem pow3_pos (n : Nat) : 0 < 3 ^ n := Nat.pos_of_ne_zero (by simp)
theorem num_lt : ∀ (s : List Pg) (o : Bool), num o s < 3 ^ s.length
  | [], _ => by simp [num]
  | a :: s, o => by
    have h := num_lt s (flp o a)
    have h2 := (fg1 o a).isLt
    rw [num, List.length_cons, Nat.pow_succ]
    generalize (fg1 o a).val = f at h2
    generalize 3 ^ s.length = m at h
    have : f = 0 ∨ f = 1 ∨ f = 2 := by omega
    rcases this with rfl | rfl | rfl <;> omega
theorem fg1_inj (o : Bool) : ∀ a b : Pg, (fg1 o a).val = (fg1 o b).val → a = b := by
  cases o <;> decide
theorem num_inj : ∀ (s t : List Pg) (o : Bool), s.length = t.length → num o s = num o t → s = t
  | [], [], _, _, _ => rfl
  | [], _ :: _, _, h, _ => by cases h
  | _ :: _, [], _, h, _ => by cases h
  | a :: s, b :: t, o, h, e => by
    have hl : s.length = t.length := by simpa using h
    rw [num, num, hl] at e
    have h1 := num_lt s (flp o a)
    have h2 := num_lt t (flp o b)
    rw [hl] at h1
    have hf : (fg1 o a).val = (fg1 o b).val := by
      have k1 := (fg1 o a).isLt
      have k2 := (fg1 o b).isLt
      generalize (fg1 o a).val = f at *
      generalize (fg1 o b).val = g at *
      generalize 3 ^ t.length = m at *
      have d1 : f = 0 ∨ f = 1 ∨ f = 2 := by omega
      have d2 : g = 0 ∨ g = 1 ∨ g = 2 := by omega
      rcases d1 with rfl | rfl | rfl <;> rcases d2 with rfl | rfl | rfl <;> first | rfl | omega
    have := fg1_inj o a b hf
    subst this
    have e2 : num (flp o a) s = num (flp o a) t := by omega
    rw [num_inj s t _ hl e2]
theorem num_rep (n : Nat) : num false (List.replicate n 0) = 0 ∧ num false (List.replicate n 2) = 3 ^ n - 1 ∧ num true (List.replicate n 2) = 0 ∧ num true (List.replicate n 0) = 3 ^ n - 1 := by
  induction n with
  | zero => simp [num]
  | succ n ih =>
    obtain ⟨h1, h2, h3, h4⟩ := ih
    have hp := pow3_pos n
    have e1 : flp false 0 = false := rfl
    have e2 : flp false 2 = false := rfl
    have e3 : flp true 2 = true := rfl
    have e4 : flp true 0 = true := rfl
    have v1 : (fg1 false 0).val = 0 := rfl
    have v2 : (fg1 false 2).val = 2 := rfl
    have v3 : (fg1 true 2).val = 0 := rfl
    have v4 : (fg1 true 0).val = 2 := rfl
    simp only [List.replicate_succ, num, List.length_replicate, e1, e2, e3, e4, v1, v2, v3, v4, h1, h2, h3, h4, Nat.pow_succ]
    omega
/-- the states of the least and of the greatest number -/
theorem num_end (s : List Pg) : (num false s = 0 ↔ s = List.replicate s.length 0) ∧ (num false s = 3 ^ s.length - 1 ↔ s = List.replicate s.length 2) ∧ (num true s = 0 ↔ s = List.replicate s.length 2) ∧ (num true s = 3 ^ s.length - 1 ↔ s = List.replicate s.length 0) := by
  obtain ⟨h1, h2, h3, h4⟩ := num_rep s.length
  refine ⟨⟨fun h => ?_, fun h => ?_⟩, ⟨fun h => ?_, fun h => ?_⟩, ⟨fun h => ?_, fun h => ?_⟩, ⟨fun h => ?_, fun h => ?_⟩⟩
  · exact num_inj _ _ false (by simp) (by rw [h, h1])
  · rw [h]; exact h1.trans (by simp)
  · exact num_inj _ _ false (by simp) (by rw [h, h2])
  · rw [h, List.length_replicate]; exact h2
  · exact num_inj _ _ true (by simp) (by rw [h, h3])
  · rw [h]; exact h3.trans (by simp)
  · exact num_inj _ _ true (by simp) (by rw [h, h4])
  · rw [h, List.length_replicate]; exact h4
/-- a line move of the top disc -/
theorem top_line (n : Nat) (o : Bool) : ∀ a e : Pg, a ≠ e → near .line a e = true →
    (fg1 o e).val * 3 ^ n + num (flp o e) (List.replicate n (thi a e)) = (fg1 o a).val * 3 ^ n + num (flp o a) (List.replicate n (thi a e)) + 1 ∨
    (fg1 o e).val * 3 ^ n + num (flp o e) (List.replicate n (thi a e)) + 1 = (fg1 o a).val * 3 ^ n + num (flp o a) (List.replicate n (thi a e)) := by
  obtain ⟨h1, h2, h3, h4⟩ := num_rep n
  have hp := pow3_pos n
  have t1 : thi 0 1 = 2 := by decide
  have t2 : thi 1 0 = 2 := by decide
  have t3 : thi 1 2 = 0 := by decide
  have t4 : thi 2 1 = 0 := by decide
  have f1 : flp false 0 = false := rfl
  have f2 : flp false 1 = true := rfl
  have f3 : flp false 2 = false := rfl
  have f4 : flp true 0 = true := rfl
  have f5 : flp true 1 = false := rfl
  have f6 : flp true 2 = true := rfl
  have v1 : (fg1 false 0).val = 0 := rfl
  have v2 : (fg1 false 1).val = 1 := rfl
  have v3 : (fg1 false 2).val = 2 := rfl
  have v4 : (fg1 true 0).val = 2 := rfl
  have v5 : (fg1 true 1).val = 1 := rfl
  have v6 : (fg1 true 2).val = 0 := rfl
  refine fin3 (fin3 ?_ ?_ ?_) (fin3 ?_ ?_ ?_) (fin3 ?_ ?_ ?_) <;> intro hne hnear <;>
    first
    | (exact absurd rfl hne)
    | (exact absurd hnear (by decide))
    | (cases o <;> simp only [t1, t2, t3, t4, f1, f2, f3, f4, f5, f6, v1, v2, v3, v4, v5, v6, h1, h2, h3, h4] <;> omega)
/-- a line move: one more or one less -/
theorem line_one (m : Nat × Pg) : ∀ (t : List Pg) (o : Bool), lg .line m t → num o (ap m t) = num o t + 1 ∨ num o (ap m t) + 1 = num o t
  | [], _, h => h.elim
  | a :: s, o, h => by
    rw [lg] at h
    rw [ap]
    by_cases hd : m.1 = s.length
    · rw [if_pos hd] at h ⊢
      obtain ⟨h1, h2, h3⟩ := h
      have hs := all_rep h3
      have k := top_line s.length o a m.2 h1 h2
      rw [← hs] at k
      rw [num, num]
      exact k
    · rw [if_neg hd] at h ⊢
      rw [num, num, ap_len]
      rcases line_one m s (flp o a) h with k | k
      · left; omega
      · right; omega
/-- the line moves at the ends of what lies beneath -/
theorem line_ex (o : Bool) (up : Bool) : ∀ t : List Pg, (if up then num o t + 1 < 3 ^ t.length else 0 < num o t) → ∃ m, lg .line m t ∧ (if up then num o (ap m t) = num o t + 1 else num o (ap m t) + 1 = num o t) := by
  intro t
  induction t generalizing o with
  | nil => intro h; cases up <;> simp [num] at h
  | cons a s ih =>
    intro h
    by_cases hs : (if up then num (flp o a) s + 1 < 3 ^ s.length else 0 < num (flp o a) s)
    · obtain ⟨m, h1, h2⟩ := ih (flp o a) hs
      have hlt := lg_lt _ _ _ h1
      refine ⟨m, ?_, ?_⟩
      · rw [lg, if_neg (by omega)]
        exact h1
      · rw [ap, if_neg (show ¬ m.1 = s.length by omega), num, num, ap_len]
        cases up
        · simp only [Bool.false_eq_true, if_false] at h2 ⊢; omega
        · simp only [if_true] at h2 ⊢; omega
    · -- beneath all is at an end: the top disc goes
      have hlt := num_lt s (flp o a)
      have hp := pow3_pos s.length
      obtain ⟨q1, q2, q3, q4⟩ := num_end s
      rw [num, List.length_cons, Nat.pow_succ] at h
      have go : ∀ e : Pg, a ≠ e → near .line a e = true → s = List.replicate s.length (thi a e) → (if up then (fg1 o e).val = (fg1 o a).val + 1 else (fg1 o e).val + 1 = (fg1 o a).val) →
          ∃ m, lg .line m (a :: s) ∧ (if up then num o (ap m (a :: s)) = num o (a :: s) + 1 else num o (ap m (a :: s)) + 1 = num o (a :: s)) := by
        intro e g1 g2 g3 g4
        refine ⟨(s.length, e), ?_, ?_⟩
        · rw [lg, if_pos rfl]
          exact ⟨g1, g2, fun x hx => by rw [g3] at hx; exact List.eq_of_mem_replicate hx⟩
        · have k := top_line s.length o a e g1 g2
          rw [← g3] at k
          rw [ap, if_pos rfl, num, num]
          have l1 := num_lt s (flp o e)
          cases up
          · simp only [Bool.false_eq_true, if_false] at g4 ⊢
            rw [← g4] at k ⊢
            rw [Nat.add_mul] at k ⊢
            omega
          · simp only [if_true] at g4 ⊢
            rw [g4] at k ⊢
            rw [Nat.add_mul] at k ⊢
            omega
      have z : ∀ k : Nat, ¬ k = 0 → ¬ 0 < k → False := fun k h1 h2 => by omega
      have f1 : flp false 0 = false := rfl
      have f2 : flp false 1 = true := rfl
      have f3 : flp false 2 = false := rfl
      have f4 : flp true 0 = true := rfl
      have f5 : flp true 1 = false := rfl
      have f6 : flp true 2 = true := rfl
      have v1 : (fg1 false 0).val = 0 := rfl
      have v2 : (fg1 false 1).val = 1 := rfl
      have v3 : (fg1 false 2).val = 2 := rfl
      have v4 : (fg1 true 0).val = 2 := rfl
      have v5 : (fg1 true 1).val = 1 := rfl
      have v6 : (fg1 true 2).val = 0 := rfl
      cases up
      · simp only [Bool.false_eq_true, if_false, Nat.not_lt, Nat.le_zero_eq] at h hs go
        cases o <;> revert a <;> refine fin3 ?_ ?_ ?_ <;> intro h hs hlt go <;> simp only [f1, f2, f3, f4, f5, f6, v1, v2, v3, v4, v5, v6] at h hs hlt go
        · omega
        · exact go 0 (by decide) (by decide) (q3.mp (by omega)) rfl
        · exact go 1 (by decide) (by decide) (q1.mp (by omega)) rfl
        · exact go 1 (by decide) (by decide) (q3.mp (by omega)) rfl
        · exact go 2 (by decide) (by decide) (q1.mp (by omega)) rfl
        · omega
      · simp only [if_true] at h hs go
        cases o <;> revert a <;> refine fin3 ?_ ?_ ?_ <;> intro h hs hlt go <;> simp only [f1, f2, f3, f4, f5, f6, v1, v2, v3, v4, v5, v6] at h hs hlt go
        · exact go 1 (by decide) (by decide) (q2.mp (by omega)) rfl
        · exact go 2 (by decide) (by decide) (q4.mp (by omega)) rfl
        · omega
        · omega
        · exact go 0 (by decide) (by decide) (q2.mp (by omega)) rfl
        · exact go 1 (by decide) (by decide) (q4.mp (by omega)) rfl
/-! ### the state of a number -/
def digs : Nat → Nat → List Pg
  | 0, _ => []
  | k + 1, n => ⟨n % 3, Nat.mod_lt _ (by decide)⟩ :: digs k (n / 3)
theorem digs_len : ∀ k n, (digs k n).length = k
  | 0, _ => rfl
  | k + 1, n => by rw [digs, List.length_cons, digs_len k]
def ufg : Bool → List Pg → List Pg
  | _, [] => []
  | o, f :: l => fg1 o f :: ufg (flp o (fg1 o f)) l
theorem ufg_len : ∀ (o : Bool) (l : List Pg), (ufg o l).length = l.length
  | _, [] => rfl
  | o, f :: l => by rw [ufg, List.length_cons, ufg_len, List.length_cons]
theorem fg1_fg1 (o : Bool) : ∀ a : Pg, fg1 o (fg1 o a) = a := by cases o <;> decide
def val3 : List Pg → Nat
  | [] => 0
  | a :: s => a.val * 3 ^ s.length + val3 s
theorem num_ufg : ∀ (l : List Pg) (o : Bool), num o (ufg o l) = val3 l
  | [], _ => rfl
  | f :: l, o => by rw [ufg, num, val3, num_ufg l, fg1_fg1, ufg_len]
theorem val3_snoc : ∀ (l : List Pg) (a : Pg), val3 (l ++ [a]) = 3 * val3 l + a.val
  | [], a => by simp [val3]
  | b :: l, a => by
    rw [List.cons_append, val3, val3_snoc l a, val3, List.length_append, List.length_singleton, Nat.pow_succ, Nat.mul_add]
    have : b.val * (3 ^ l.length * 3) = 3 * (b.val * 3 ^ l.length) := by rw [← Nat.mul_assoc, Nat.mul_comm]
    omega
theorem val3_digs : ∀ k n, n < 3 ^ k → val3 (digs k n).reverse = n
  | 0, n, h => by simp at h; subst h; rfl
  | k + 1, n, h => by
    rw [digs, List.reverse_cons, val3_snoc, val3_digs k (n / 3) (by rw [Nat.pow_succ] at h; omega)]
    show 3 * (n / 3) + n % 3 = n
    omega
/-- the program's state of a number, the least disc first -/
def sto (k n : Nat) : List Pg := (ufg false (digs k n).reverse).reverse
theorem sto_len (k n : Nat) : (sto k n).length = k := by rw [sto, List.length_reverse, ufg_len, List.length_reverse, digs_len]
theorem sto_num {k n : Nat} (h : n < 3 ^ k) : num false (sto k n).reverse = n := by
  rw [sto, List.reverse_reverse, num_ufg, val3_digs k n h]
theorem num_lt' (s : List Pg) : num false s.reverse < 3 ^ s.length := by
  have := num_lt s.reverse false
  rwa [List.length_reverse] at this
theorem sto_of (s : List Pg) : sto s.length (num false s.reverse) = s := by
  have h := num_inj (sto s.length (num false s.reverse)).reverse s.reverse false (by rw [List.length_reverse, sto_len, List.length_reverse]) (sto_num (num_lt' s))
  have := congrArg List.reverse h
  rwa [List.reverse_reverse, List.reverse_reverse] at this
theorem digs_snoc : ∀ k n, digs (k + 1) n = digs k n ++ [⟨n / 3 ^ k % 3, Nat.mod_lt _ (by decide)⟩]
  | 0, n => by simp [digs]
  | k + 1, n => by
    rw [digs, digs_snoc k (n / 3), digs, List.cons_append]
    simp only [Nat.div_div_eq_div_mul, Nat.pow_succ, Nat.mul_comm]
/-! ### what the line moves change -/
def chg (s : List Pg) : List Int := (mvs .line 0 [] s).map fun m => ((num false (s.set m.1 m.2).reverse : Nat) : Int) - (num false s.reverse : Nat)
theorem lg_lt_s {r : Ru} {s : List Pg} {m : Nat × Pg} (h : lg r m s.reverse) : m.1 < s.length ∧ s[m.1]? ≠ some m.2 := by
  obtain ⟨d, e⟩ := m
  obtain ⟨a, h1, h2, _⟩ := (lg_iff r e s.reverse d).mp h
  rw [List.reverse_reverse] at h1
  refine ⟨?_, fun z => ?_⟩
  · have := lg_lt _ _ _ h
    rwa [List.length_reverse] at this
  · rw [h1] at z
    exact h2 (Option.some.inj z)
theorem set_inj {s : List Pg} {m m' : Nat × Pg} (h1 : m.1 < s.length) (k1 : s[m.1]? ≠ some m.2) (h2 : m'.1 < s.length) (e : s.set m.1 m.2 = s.set m'.1 m'.2) : m = m' := by
  obtain ⟨d, a⟩ := m
  obtain ⟨d', a'⟩ := m'
  have g1 := congrArg (fun l => l[d]?) e
  simp only [] at h1 h2 k1
  by_cases hd : d' = d
  · subst hd
    simp [h1] at g1
    rw [g1]
  · simp [List.getElem?_set, h1, hd] at g1
    exact absurd g1.symm (by simpa [h1] using k1)
theorem chg_nodup (s : List Pg) : (chg s).Nodup := by
  unfold chg
  rw [List.nodup_iff_pairwise_ne, List.pairwise_map]
  refine List.Pairwise.imp_of_mem ?_ (List.nodup_iff_pairwise_ne.mp (mvs_nodup .line s 0 []))
  intro m m' hm hm' hne heq
  obtain ⟨a1, a2⟩ := lg_lt_s ((mem_moves .line s m).mp hm)
  obtain ⟨b1, b2⟩ := lg_lt_s ((mem_moves .line s m').mp hm')
  have hn : num false (s.set m.1 m.2).reverse = num false (s.set m'.1 m'.2).reverse := by omega
  have h := num_inj _ _ false (by simp) hn
  have := congrArg List.reverse h
  rw [List.reverse_reverse, List.reverse_reverse] at this
  exact hne (set_inj a1 a2 b1 this)
theorem chg_mem (s : List Pg) (c : Int) : c ∈ chg s ↔ (c = -1 ∨ c = 1) ∧ 0 ≤ (num false s.reverse : Int) + c ∧ (num false s.reverse : Int) + c < (3 ^ s.length : Nat) := by
  have hlt := num_lt' s
  unfold chg
  rw [List.mem_map]
  constructor
  · rintro ⟨m, hm, rfl⟩
    have hl := (mem_moves .line s m).mp hm
    have h1 := line_one m s.reverse false hl
    rw [← after_rev] at h1
    have h2 := num_lt' (s.set m.1 m.2)
    rw [List.length_set] at h2
    omega
  · rintro ⟨hc, h0, h3⟩
    have key : ∀ up : Bool, (c = if up then 1 else -1) → (if up then num false s.reverse + 1 < 3 ^ s.reverse.length else 0 < num false s.reverse) → ∃ m, m ∈ mvs .line 0 [] s ∧ ((num false (s.set m.1 m.2).reverse : Nat) : Int) - (num false s.reverse : Nat) = c := by
      intro up hcu hup
      obtain ⟨m, h1, h2⟩ := line_ex false up s.reverse hup
      refine ⟨m, (mem_moves .line s m).mpr h1, ?_⟩
      rw [← after_rev] at h2
      cases up
      · simp only [Bool.false_eq_true, if_false] at h2 hcu; omega
      · simp only [if_true] at h2 hcu; omega
    rcases hc with hc | hc
    · exact key false hc (by simp only [Bool.false_eq_true, if_false]; omega)
    · exact key true hc (by simp only [if_true, List.length_reverse]; omega)
/-- the changes, sorted -/
def due (s : List Pg) : List Int := ([-1, 1] : List Int).filter fun c => decide (0 ≤ (num false s.reverse : Int) + c) && decide ((num false s.reverse : Int) + c < (3 ^ s.length : Nat))
theorem due_mem (s : List Pg) (c : Int) : c ∈ due s ↔ (c = -1 ∨ c = 1) ∧ 0 ≤ (num false s.reverse : Int) + c ∧ (num false s.reverse : Int) + c < (3 ^ s.length : Nat) := by
  unfold due
  rw [List.mem_filter, Bool.and_eq_true, decide_eq_true_eq, decide_eq_true_eq]
  simp
theorem chg_perm (s : List Pg) : (chg s).Perm (due s) := by
  refine (List.perm_ext_iff_of_nodup (chg_nodup s) (List.Pairwise.filter _ (by decide))).mpr fun c => ?_
  exact (chg_mem s c).trans (due_mem s c).symm
theorem two_sorted {a b : List Int} (h : a.Perm b) (ha : a.Pairwise (· ≤ ·)) (hb : b.Pairwise (· ≤ ·)) : a = b := by
  exact List.Perm.eq_of_pairwise (fun _ _ _ _ h1 h2 => Int.le_antisymm h1 h2) ha hb h
theorem due_sorted (s : List Pg) : (due s).Pairwise (· ≤ ·) := List.Pairwise.filter _ (by decide)
theorem chg_len (s : List Pg) : (chg s).length ≤ 2 := by
  rw [(chg_perm s).length_eq]
  exact List.length_filter_le _ _
end TM

/-! plain: how far two states are apart -/
namespace TM
abbrev Lf (s : List Pg) (g : Pg) : Nat := L .free s g
abbrev T2 (n : Nat) : Nat := (tw .free n).1
theorem T2_succ (n : Nat) : T2 (n + 1) = 2 * T2 n + 1 := rfl
theorem tower_free (n : Nat) (a b : Pg) : tower .free n a b = if a = b then 0 else T2 n := by
  unfold tower
  by_cases h : a = b
  · rw [if_pos h, if_pos h]
  · rw [if_neg h, if_neg h, if_pos (show near .free a b = true from rfl)]
theorem Lf_self (a : Pg) (s : List Pg) : Lf (a :: s) a = Lf s a := by
  show L .free s (nx .free a a) + bf .free s.length a a = _
  rw [nx_self, bf_self, Nat.add_zero]
theorem thi_pegs : ∀ a b : Pg, a ≠ b → thi a b ≠ a ∧ thi a b ≠ b ∧ thi b a = thi a b ∧ thi a (thi a b) = b ∧ thi (thi a b) b = a ∧ thi (thi a b) a = b := by decide
theorem Lf_ne {a g : Pg} (s : List Pg) (h : a ≠ g) : Lf (a :: s) g = Lf s (thi a g) + 1 + T2 s.length := by
  obtain ⟨h1, h2, _⟩ := thi_pegs a g h
  show L .free s (nx .free a g) + bf .free s.length a g = _
  rw [bf, if_neg h, if_pos (show near .free a g = true from rfl), tower_free, if_neg h2, nx, if_neg h, fs, if_pos (show near .free a g = true from rfl)]
  show L .free s (thi a g) + (1 + T2 s.length) = L .free s (thi a g) + 1 + T2 s.length
  omega
theorem Lf_le : ∀ (s : List Pg) (g : Pg), Lf s g ≤ T2 s.length
  | [], _ => Nat.le_refl _
  | a :: s, g => by
    rw [List.length_cons, T2_succ]
    by_cases h : a = g
    · subst h
      have := Lf_le s a
      rw [Lf_self]
      omega
    · have := Lf_le s (thi a g)
      rw [Lf_ne s h]
      omega
theorem Lf_rep (n : Nat) (p q : Pg) : Lf (List.replicate n p) q = if p = q then 0 else T2 n := by
  rw [Lf, L_rep, tower_free]
/-- any top disc to any peg -/
def af : List Pg → List Pg → Nat
  | a :: s, b :: t => if a = b then af s t else min (Lf s (thi a b) + 1 + Lf t (thi a b)) (Lf s b + 2 + T2 s.length + Lf t a)
  | _, _ => 0
theorem af_symm : ∀ s t : List Pg, s.length = t.length → af s t = af t s
  | [], [], _ => rfl
  | [], _ :: _, h => by cases h
  | _ :: _, [], h => by cases h
  | a :: s, b :: t, h => by
    have hl : s.length = t.length := by simpa using h
    rw [af, af]
    by_cases e : a = b
    · rw [if_pos e, if_pos e.symm]
      exact af_symm s t hl
    · rw [if_neg e, if_neg (fun z => e z.symm), (thi_pegs a b e).2.2.1, hl]
      omega
theorem af_zero : ∀ s t : List Pg, s.length = t.length → (af s t = 0 ↔ s = t)
  | [], [], _ => by simp [af]
  | [], _ :: _, h => by cases h
  | _ :: _, [], h => by cases h
  | a :: s, b :: t, h => by
    have hl : s.length = t.length := by simpa using h
    rw [af]
    by_cases e : a = b
    · rw [if_pos e, af_zero s t hl, e]
      simp
    · rw [if_neg e]
      constructor
      · intro z; omega
      · intro z; exact absurd (List.cons.inj z).1 e
theorem af_rep : ∀ (s : List Pg) (p : Pg), af s (List.replicate s.length p) = Lf s p
  | [], _ => rfl
  | a :: s, p => by
    rw [List.length_cons, List.replicate_succ, af]
    by_cases e : a = p
    · subst e
      rw [if_pos rfl, af_rep s a, Lf_self]
    · obtain ⟨h1, h2, _⟩ := thi_pegs a p e
      have := Lf_le s (thi a p)
      rw [if_neg e, Lf_ne s e, Lf_rep, Lf_rep, if_neg (fun z => h2 z.symm), if_neg (fun z => e z.symm)]
      omega
/-- a move of the greatest disc, its peg then the other's -/
theorem top_same (s t : List Pg) (a e : Pg) (h : a ≠ e) (hl : s.length = t.length) (hs : s = List.replicate s.length (thi a e)) : af (e :: s) (a :: t) = Lf t (thi a e) + 1 ∧ af s t = Lf t (thi a e) := by
  obtain ⟨h1, h2, h3, _⟩ := thi_pegs a e h
  have hb := Lf_le t (thi a e)
  have k : ∀ q : Pg, Lf s q = if thi a e = q then 0 else T2 s.length := fun q => by
    have := Lf_rep s.length (thi a e) q
    rwa [← hs] at this
  constructor
  · rw [af, if_neg (fun z => h z.symm), h3, k, k, if_pos rfl, if_neg h1, hl]
    omega
  · rw [af_symm s t hl]
    have := af_rep t (thi a e)
    rw [← hl, ← hs] at this
    exact this
theorem third_peg : ∀ a b e : Pg, ¬ a = b → a ≠ e → ¬ e = b → e = thi a b ∧ thi a e = b ∧ thi e b = a := by decide
theorem af_move (m : Nat × Pg) : ∀ s t : List Pg, s.length = t.length → lg .free m s → af (ap m s) t ≤ af s t + 1 ∧ af s t ≤ af (ap m s) t + 1
  | [], _, _, h => h.elim
  | _ :: _, [], h, _ => by cases h
  | a :: s, b :: t, h, hm => by
    have hl : s.length = t.length := by simpa using h
    rw [lg] at hm
    rw [ap]
    by_cases hd : m.1 = s.length
    · rw [if_pos hd] at hm ⊢
      obtain ⟨m1, _, m3⟩ := hm
      have hs := all_rep m3
      generalize m.2 = e at m1 hs
      by_cases hab : a = b
      · subst hab
        obtain ⟨q1, q2⟩ := top_same s t a e m1 hl hs
        have q3 : af (a :: s) (a :: t) = af s t := by rw [af, if_pos rfl]
        omega
      · by_cases heb : e = b
        · subst heb
          have hs2 : s = List.replicate s.length (thi e a) := by rw [(thi_pegs a e m1).2.2.1]; exact hs
          obtain ⟨q1, q2⟩ := top_same s t e a (fun z => m1 z.symm) hl hs2
          have q3 : af (e :: s) (e :: t) = af s t := by rw [af, if_pos rfl]
          omega
        · have hc := third_peg a b e hab m1 heb
          obtain ⟨c1, c2, c3⟩ := hc
          rw [c2] at hs
          have k : ∀ q : Pg, Lf s q = if b = q then 0 else T2 s.length := fun q => by
            have := Lf_rep s.length b q
            rwa [← hs] at this
          have hbe : ¬ b = e := fun z => heb z.symm
          have hba : ¬ b = a := fun z => hab z.symm
          have g1 : af (a :: s) (b :: t) = min (T2 s.length + 1 + Lf t e) (0 + 2 + T2 s.length + Lf t a) := by
            rw [af, if_neg hab, ← c1, k, k, if_neg hbe, if_pos rfl]
          have g2 : af (e :: s) (b :: t) = min (T2 s.length + 1 + Lf t a) (0 + 2 + T2 s.length + Lf t e) := by
            rw [af, if_neg heb, c3, k, k, if_neg hba, if_pos rfl]
          rw [g1, g2]
          omega
    · rw [if_neg hd] at hm ⊢
      rw [af, af]
      by_cases hab : a = b
      · rw [if_pos hab, if_pos hab]
        exact af_move m s t hl hm
      · rw [if_neg hab, if_neg hab, ap_len]
        have l1 := (move_le .free s (thi a b) m hm).1
        have l2 := move_ge .free (by decide) s (thi a b) m hm
        have l3 := (move_le .free s b m hm).1
        have l4 := move_ge .free (by decide) s b m hm
        unfold Lf
        omega
theorem af_down : ∀ s t : List Pg, s.length = t.length → s ≠ t → ∃ m, lg .free m s ∧ af (ap m s) t + 1 = af s t
  | [], [], _, h => absurd rfl h
  | [], _ :: _, h, _ => by cases h
  | _ :: _, [], h, _ => by cases h
  | a :: s, b :: t, h, hne => by
    have hl : s.length = t.length := by simpa using h
    by_cases hab : a = b
    · subst hab
      obtain ⟨m, m1, m2⟩ := af_down s t hl (fun z => hne (by rw [z]))
      have hlt := lg_lt _ _ _ m1
      refine ⟨m, ?_, ?_⟩
      · rw [lg, if_neg (by omega)]
        exact m1
      · rw [ap, if_neg (by omega), af, af, if_pos rfl, if_pos rfl]
        exact m2
    · obtain ⟨t1, t2, t3, t4, t5, t6⟩ := thi_pegs a b hab
      -- a lesser disc's move
      have low : ∀ m, lg .free m s → lg .free m (a :: s) ∧ af (ap m (a :: s)) (b :: t) = min (Lf (ap m s) (thi a b) + 1 + Lf t (thi a b)) (Lf (ap m s) b + 2 + T2 s.length + Lf t a) := fun m m1 => by
        have hlt := lg_lt _ _ _ m1
        constructor
        · rw [lg, if_neg (by omega)]
          exact m1
        · rw [ap, if_neg (by omega), af, if_neg hab, ap_len]
      have nxt : ∀ g, Lf s g ≠ 0 → ∃ m, lg .free m s ∧ Lf s g = Lf (ap m s) g + 1 := fun g hg => by
        cases hn : nm .free s g with
        | none => exact absurd ((nm_none .free s g).1.mp hn) hg
        | some m => exact ⟨m, next_ok .free s g m hn⟩
      have bas : af (a :: s) (b :: t) = min (Lf s (thi a b) + 1 + Lf t (thi a b)) (Lf s b + 2 + T2 s.length + Lf t a) := by rw [af, if_neg hab]
      by_cases hle : Lf s (thi a b) + 1 + Lf t (thi a b) ≤ Lf s b + 2 + T2 s.length + Lf t a
      · by_cases h0 : Lf s (thi a b) = 0
        · have hs := ((nm_none .free s (thi a b)).2).mp h0
          have m1 : lg .free (s.length, b) (a :: s) := by
            rw [lg, if_pos rfl]
            exact ⟨hab, rfl, fun x hx => by rw [hs] at hx; exact List.eq_of_mem_replicate hx⟩
          refine ⟨(s.length, b), m1, ?_⟩
          have hs2 : s = List.replicate s.length (thi b a) := by rw [t3]; exact hs
          obtain ⟨q1, q2⟩ := top_same s t b a (fun z => hab z.symm) hl hs2
          rw [ap, if_pos rfl, q1, af, if_pos rfl, q2]
        · obtain ⟨m, m1, m2⟩ := nxt _ h0
          obtain ⟨k1, k2⟩ := low m m1
          refine ⟨m, k1, ?_⟩
          have k3 := (af_move m (a :: s) (b :: t) h k1).2
          rw [k2] at k3 ⊢
          rw [bas] at k3 ⊢
          omega
      · by_cases h0 : Lf s b = 0
        · have hs := ((nm_none .free s b).2).mp h0
          have m1 : lg .free (s.length, thi a b) (a :: s) := by
            rw [lg, if_pos rfl]
            exact ⟨fun z => t1 z.symm, rfl, fun x hx => by rw [hs] at hx; rw [t4]; exact List.eq_of_mem_replicate hx⟩
          refine ⟨(s.length, thi a b), m1, ?_⟩
          have k : ∀ q : Pg, Lf s q = if b = q then 0 else T2 s.length := fun q => by
            have := Lf_rep s.length b q
            rwa [← hs] at this
          have hba : ¬ b = a := fun z => hab z.symm
          rw [ap, if_pos rfl, bas]
          show af (thi a b :: s) (b :: t) + 1 = _
          rw [af, if_neg t2, t5]
          rw [k, k, if_neg (fun z => t2 z.symm)] at hle
          rw [k, k, k, if_neg hba, if_pos rfl, if_neg (fun z => t2 z.symm)]
          rw [if_pos rfl] at hle
          omega
        · obtain ⟨m, m1, m2⟩ := nxt _ h0
          obtain ⟨k1, k2⟩ := low m m1
          refine ⟨m, k1, ?_⟩
          have k3 := (af_move m (a :: s) (b :: t) h k1).2
          rw [k2] at k3 ⊢
          rw [bas] at k3 ⊢
          omega
/-! ### by neighbouring pegs -/
def al (s t : List Pg) : Nat := ((num false s : Int) - (num false t : Int)).natAbs
theorem al_symm (s t : List Pg) : al s t = al t s := by unfold al; omega
theorem al_zero (s t : List Pg) (h : s.length = t.length) : al s t = 0 ↔ s = t := by
  unfold al
  constructor
  · intro z
    exact num_inj s t false h (by omega)
  · intro z
    rw [z]; omega
theorem al_move (m : Nat × Pg) (s t : List Pg) (h : lg .line m s) : al (ap m s) t ≤ al s t + 1 ∧ al s t ≤ al (ap m s) t + 1 := by
  have := line_one m s false h
  unfold al
  omega
theorem al_down (s t : List Pg) (hl : s.length = t.length) (hne : s ≠ t) : ∃ m, lg .line m s ∧ al (ap m s) t + 1 = al s t := by
  have h1 := num_lt s false
  have h2 := num_lt t false
  rw [← hl] at h2
  have h0 : num false s ≠ num false t := fun z => hne (num_inj s t false hl z)
  by_cases hlt : num false s < num false t
  · obtain ⟨m, m1, m2⟩ := line_ex false true s (by simp only [if_true]; omega)
    simp only [if_true] at m2
    exact ⟨m, m1, by unfold al; omega⟩
  · obtain ⟨m, m1, m2⟩ := line_ex false false s (by simp only [Bool.false_eq_true, if_false]; omega)
    simp only [Bool.false_eq_true, if_false] at m2
    exact ⟨m, m1, by unfold al; omega⟩
theorem al_rep_le (p : Pg) : ∀ (k : Nat) (s : List Pg), L .line s p = k → al s (List.replicate s.length p) ≤ k
  | 0, s, h => by
    have := ((nm_none .line s p).2).mp h
    rw [(al_zero s _ (by rw [List.length_replicate])).mpr this]
    exact Nat.le_refl _
  | k + 1, s, h => by
    cases hn : nm .line s p with
    | none => rw [(nm_none .line s p).1.mp hn] at h; cases h
    | some m =>
      obtain ⟨m1, m2⟩ := next_ok .line s p m hn
      have := al_rep_le p k (ap m s) (by omega)
      rw [ap_len] at this
      have := (al_move m s (List.replicate s.length p) m1).2
      omega
theorem al_rep_ge (p : Pg) : ∀ (k : Nat) (s : List Pg), al s (List.replicate s.length p) = k → L .line s p ≤ k
  | 0, s, h => by
    have := (al_zero s _ (by rw [List.length_replicate])).mp h
    have := ((nm_none .line s p).2).mpr this
    omega
  | k + 1, s, h => by
    have hne : s ≠ List.replicate s.length p := fun z => by
      rw [(al_zero s _ (by rw [List.length_replicate])).mpr z] at h
      cases h
    obtain ⟨m, m1, m2⟩ := al_down s (List.replicate s.length p) (by rw [List.length_replicate]) hne
    have := al_rep_ge p k (ap m s) (by rw [ap_len]; omega)
    have := (move_le .line s p m m1).1
    omega
theorem al_rep (s : List Pg) (p : Pg) : al s (List.replicate s.length p) = L .line s p :=
  Nat.le_antisymm (al_rep_le p _ s rfl) (al_rep_ge p _ s rfl)
/-- by either rule, for states with the least disc first -/
def ad (line : Bool) (s t : List Pg) : Nat := if line then al s.reverse t.reverse else af s.reverse t.reverse
abbrev ruB (line : Bool) : Ru := if line then .line else .free
theorem ad_symm (b : Bool) (s t : List Pg) (h : s.length = t.length) : ad b s t = ad b t s := by
  cases b
  · exact af_symm _ _ (by simpa using h)
  · exact al_symm _ _
theorem ad_zero (b : Bool) (s t : List Pg) (h : s.length = t.length) : ad b s t = 0 ↔ s = t := by
  have k : s.reverse = t.reverse ↔ s = t := List.reverse_inj
  cases b
  · exact (af_zero _ _ (by simpa using h)).trans k
  · exact (al_zero _ _ (by simpa using h)).trans k
theorem ad_move (b : Bool) (s t : List Pg) (h : s.length = t.length) (m : Nat × Pg) (hm : m ∈ mvs (ruB b) 0 [] s) : ad b (s.set m.1 m.2) t ≤ ad b s t + 1 ∧ ad b s t ≤ ad b (s.set m.1 m.2) t + 1 := by
  have hl := (mem_moves _ s m).mp hm
  cases b
  · have := af_move m s.reverse t.reverse (by simpa using h) hl
    rw [← after_rev] at this
    exact this
  · have := al_move m s.reverse t.reverse hl
    rw [← after_rev] at this
    exact this
theorem ad_down (b : Bool) (s t : List Pg) (h : s.length = t.length) (hne : ad b s t ≠ 0) : ∃ m, m ∈ mvs (ruB b) 0 [] s ∧ ad b (s.set m.1 m.2) t + 1 = ad b s t := by
  have hst : s.reverse ≠ t.reverse := fun z => hne ((ad_zero b s t h).mpr (List.reverse_inj.mp z))
  cases b
  · obtain ⟨m, m1, m2⟩ := af_down s.reverse t.reverse (by simpa using h) hst
    rw [← after_rev] at m2
    exact ⟨m, (mem_moves _ s m).mpr m1, m2⟩
  · obtain ⟨m, m1, m2⟩ := al_down s.reverse t.reverse (by simpa using h) hst
    rw [← after_rev] at m2
    exact ⟨m, (mem_moves _ s m).mpr m1, m2⟩
theorem ad_rep (b : Bool) (s : List Pg) (p : Pg) : ad b s (List.replicate s.length p) = L (ruB b) s.reverse p := by
  have e : (List.replicate s.length p).reverse = List.replicate s.reverse.length p := by rw [List.reverse_replicate, List.length_reverse]
  cases b
  · show af _ _ = _
    rw [e]
    exact af_rep s.reverse p
  · show al _ _ = _
    rw [e]
    exact al_rep s.reverse p
/-- the program strips what is alike -/
theorem af_strip {s t : List Pg} {m : Nat} {x : Pg} (hs : s[m]? = some x) (ht : t[m]? = some x) : af (s.take (m + 1)).reverse (t.take (m + 1)).reverse = af (s.take m).reverse (t.take m).reverse := by
  rw [List.take_succ, List.take_succ, hs, ht]
  simp [af]
end TM

/-! the program's things as data -/
namespace TR
open PySem PySem.Spec PyProof.Rows L2 TM
def ruS : Ru → Str
  | .free => "free"
  | .line => "line"
  | .round => "round"
abbrev ruD (r : Ru) : Da := .str (ruS r)
abbrev nD (n : Nat) : Da := .int (n : Int)
abbrev pD (p : Pg) : Da := .int (p.val : Int)
/-- a state, the least disc first -/
abbrev stL (s : List Pg) : List Da := s.map pD
abbrev stD (s : List Pg) : Da := .lst (stL s)
abbrev prD (p : Pg × Pg) : Da := .tup [pD p.1, pD p.2]
abbrev twD (p : Nat × Nat) : Da := .tup [nD p.1, nD p.2]
theorem ruS_inj {a b : Ru} (h : ruS a = ruS b) : a = b := by
  cases a <;> cases b <;> first | rfl | (exact absurd h (by decide))
theorem ruS_free (r : Ru) : decide (ruS r = ("free" : Str)) = decide (r = .free) := by cases r <;> decide
theorem ruS_line (r : Ru) : decide (ruS r = ("line" : Str)) = decide (r = .line) := by cases r <;> decide
theorem ruS_round (r : Ru) : decide (ruS r = ("round" : Str)) = decide (r = .round) := by cases r <;> decide
theorem pD_inj {a b : Pg} (h : (a.val : Int) = b.val) : a = b := Fin.ext (Int.ofNat.inj h)
theorem pDe (a b : Pg) : decide ((a.val : Int) = (b.val : Int)) = decide (a = b) := by
  by_cases h : a = b
  · subst h; simp
  · have : ¬ (a.val : Int) = b.val := fun z => h (pD_inj z)
    simp [h, this]
theorem list_at {α : Type} {l : List α} {i : Nat} {x : α} (h : l[i]? = some x) : atI l (i : Int) = some x := atI_nat h
theorem drop_succ_at {α : Type} {l : List α} {i : Nat} {x : α} {xs : List α} (h : l.drop i = x :: xs) : l[i]? = some x ∧ l.drop (i + 1) = xs ∧ i < l.length := by
  have hi : i < l.length := by
    by_cases hi : i < l.length
    · exact hi
    · rw [List.drop_eq_nil_of_le (by omega)] at h
      cases h
  rw [List.drop_eq_getElem_cons hi] at h
  obtain ⟨h1, h2⟩ := List.cons.inj h
  exact ⟨by rw [List.getElem?_eq_getElem hi, h1], h2, hi⟩
theorem stL_at {s : List Pg} {i : Nat} {p : Pg} (h : s[i]? = some p) : atI (stL s) (i : Int) = some (pD p) := atI_nat (by rw [List.getElem?_map, h]; rfl)
theorem okD_int (n : Nat) (i : Int) : okD n (.int i) := by cases n <;> trivial
theorem cut_to {α : Type} (l : List α) (d : Nat) (h : d ≤ l.length) : cutD l none (some (d : Int)) = l.take d := by
  unfold cutD
  rw [HT.sIx_none, HT.sIx_nat, List.drop_zero, Nat.sub_zero, Nat.min_eq_left h]
theorem cut_from {α : Type} (l : List α) (d : Nat) : cutD l (some (d : Int)) none = l.drop d := by
  unfold cutD
  rw [HT.sIx_none, HT.sIx_nat]
  by_cases h : d ≤ l.length
  · rw [Nat.min_eq_left h, List.take_of_length_le (by rw [List.length_drop]; exact Nat.le_refl _)]
  · rw [Nat.min_eq_right (by omega), List.drop_length, List.drop_eq_nil_of_le (by omega), List.take_nil]
theorem stL_app (a b : List Pg) : stL a ++ stL b = stL (a ++ b) := by
  unfold stL
  rw [List.map_append]

theorem eqD_dec {n : Nat} {d e : Da} (hd : noB n d) (he : noB n e) {p : Prop} [Decidable p] (h : d = e ↔ p) : eqD d e = decide p := by
  have k := eqD_iff n d e hd he
  by_cases hp : p
  · rw [decide_eq_true hp]
    exact k.mpr (h.mpr hp)
  · rw [decide_eq_false hp]
    cases q : eqD d e with
    | false => rfl
    | true => exact absurd (h.mp (k.mp q)) hp
theorem noB_map {α : Type} {n : Nat} {enc : α → Da} (h : ∀ a, noB n (enc a)) (l : List α) : noB (n + 1) (.lst (l.map enc)) := fun x hx => by
  obtain ⟨a, _, rfl⟩ := List.mem_map.mp hx
  exact h a
theorem noB_int (n : Nat) (i : Int) : noB n (.int i) := by cases n <;> trivial
theorem noB_tup2 {n : Nat} {a b : Da} (ha : noB n a) (hb : noB n b) : noB (n + 1) (.tup [a, b]) := fun x hx => by
  rcases List.mem_cons.mp hx with rfl | hx
  · exact ha
  · rw [List.mem_singleton] at hx
    rw [hx]
    exact hb
theorem map_inj {α β : Type} {f : α → β} (hf : ∀ a b, f a = f b → a = b) {l m : List α} (h : l.map f = m.map f) : l = m := by
  induction l generalizing m with
  | nil => cases m with
    | nil => rfl
    | cons b m => cases h
  | cons a l ih => cases m with
    | nil => cases h
    | cons b m =>
      rw [List.map_cons, List.map_cons, List.cons.injEq] at h
      rw [hf _ _ h.1, ih h.2]
theorem pD_inj' {a b : Pg} (h : pD a = pD b) : a = b := pD_inj (Da.int.inj h)
theorem stD_iff {a b : List Pg} : stD a = stD b ↔ a = b := ⟨fun h => map_inj (fun _ _ q => pD_inj' q) (Da.lst.inj h), fun h => by rw [h]⟩
theorem eqD_st (a b : List Pg) : eqD (stD a) (stD b) = decide (a = b) := eqD_dec (n := 1) (noB_map (noB_int 0 <| Nat.cast <| Fin.val ·) a) (noB_map (noB_int 0 <| Nat.cast <| Fin.val ·) b) stD_iff
theorem okD_st (s : List Pg) : okD 58 (stD s) := okD_mono (by decide) (okD_map (n := 0) (fun p => okD_int 0 _) s)
theorem rv_neSt {K : PySem.W.Frag} {a b : List Pg} : RvD K (rNe2 K) (stD a) (stD b) (.bl (!decide (a = b))) := by
  rw [← eqD_st]
  exact rv_ned 58 58 (okD_st a) (okD_st b) (by decide) (by decide)
theorem rv_eqSt {K : PySem.W.Frag} {a b : List Pg} : RvD K (rEq2 K) (stD a) (stD b) (.bl (decide (a = b))) := by
  rw [← eqD_st]
  exact rv_eqd 58 58 (okD_st a) (okD_st b) (by decide) (by decide)
/-- a move as data -/
abbrev mvT (m : Nat × Pg) : Da := .tup [nD m.1, pD m.2]
theorem mvT_inj {a b : Nat × Pg} (h : mvT a = mvT b) : a = b := by
  have h1 := Da.tup.inj h
  rw [List.cons.injEq, List.cons.injEq] at h1
  obtain ⟨x, y, _⟩ := h1
  have hx := Da.int.inj x
  have hy := pD_inj (Da.int.inj y)
  exact Prod.ext (by omega) hy
theorem okD_mv (m : Nat × Pg) : okD 1 (mvT m) := okD_tup2 (okD_int 0 _) (okD_int 0 _)
theorem noB_mv (m : Nat × Pg) : noB 1 (mvT m) := noB_tup2 (noB_int 0 _) (noB_int 0 _)
theorem okD_mvs (l : List (Nat × Pg)) : okD 58 (.lst (l.map mvT)) := okD_mono (by decide) (okD_map okD_mv l)
theorem eqD_mvs (a b : List (Nat × Pg)) : eqD (.lst (a.map mvT)) (.lst (b.map mvT)) = decide (a = b) := eqD_dec (n := 2) (noB_map noB_mv a) (noB_map noB_mv b) ⟨fun h => map_inj (fun _ _ q => mvT_inj q) (Da.lst.inj h), fun h => by rw [h]⟩
theorem rv_eqMvs {K : PySem.W.Frag} {a b : List (Nat × Pg)} : RvD K (rEq2 K) (.lst (a.map mvT)) (.lst (b.map mvT)) (.bl (decide (a = b))) := by
  rw [← eqD_mvs]
  exact rv_eqd 58 58 (okD_mvs a) (okD_mvs b) (by decide) (by decide)
theorem rv_neMvs {K : PySem.W.Frag} {a b : List (Nat × Pg)} : RvD K (rNe2 K) (.lst (a.map mvT)) (.lst (b.map mvT)) (.bl (!decide (a = b))) := by
  rw [← eqD_mvs]
  exact rv_ned 58 58 (okD_mvs a) (okD_mvs b) (by decide) (by decide)
theorem eqD_mv (a b : Nat × Pg) : eqD (mvT a) (mvT b) = decide (a = b) := eqD_dec (noB_mv a) (noB_mv b) ⟨mvT_inj, fun h => by rw [h]⟩
theorem rep_one (p : Pg) (n : Nat) : (List.replicate ((n : Int)).toNat [pD p]).flatten = stL (List.replicate n p) := by
  rw [Int.toNat_natCast]
  induction n with
  | zero => rfl
  | succ n ih =>
    rw [List.replicate_succ, List.flatten_cons, ih, List.replicate_succ]
    rfl
theorem near_line : ∀ a b : Pg, decide ((if (a.val : Int) - b.val < 0 then -((a.val : Int) - b.val) else (a.val : Int) - b.val) = 1) = near .line a b := by decide
/-- a pair of whole numbers -/
def mvOf : Da → Option (Int × Int)
  | .tup [.int a, .int b] => some (a, b)
  | _ => none
def tyMv : Da → Prop
  | .tup xs => ∀ x ∈ xs, hasTy x
  | x => hasTy x
theorem tyMv_ty {x : Da} (h : tyMv x) : hasTy x := by cases x <;> first | trivial | exact h
/-- a move's two numbers -/
abbrev mvZ (m : Nat × Pg) : Int × Int := ((m.1 : Int), (m.2.val : Int))
abbrev mzD (p : Int × Int) : Da := .tup [.int p.1, .int p.2]
theorem mvOf_some {x : Da} {p : Int × Int} (h : mvOf x = some p) : x = mzD p := by
  unfold mvOf at h
  split at h
  · rw [← Option.some.inj h]
  · cases h
theorem mvZ_inj {a b : Nat × Pg} (h : mvZ a = mvZ b) : a = b := by
  rw [Prod.mk.injEq] at h
  exact Prod.ext (by omega) (pD_inj h.2)
/-- one move of what is told -/
def mvF (r : Ru) (s : List Pg) (p : Int × Int) : Option (Nat × Pg) := (mvs r 0 [] s).find? fun m => decide (mvZ m = p)
/-- the state behind what is told, none where it can't be done -/
def walkD (r : Ru) : List Pg → List Da → Option (List Pg)
  | s, [] => some s
  | s, x :: l => match mvOf x with
    | none => none
    | some p => match mvF r s p with
      | none => none
      | some m => walkD r (s.set m.1 m.2) l
theorem mzD_inj {p q : Int × Int} (h : mzD p = mzD q) : p = q := by
  have h1 := Da.tup.inj h
  rw [List.cons.injEq, List.cons.injEq] at h1
  exact Prod.ext (Da.int.inj h1.1) (Da.int.inj h1.2.1)
theorem eqD_mz (m : Nat × Pg) (p : Int × Int) : eqD (mvT m) (mzD p) = decide (mvZ m = p) := eqD_dec (n := 1) (noB_mv m) (noB_tup2 (noB_int 0 _) (noB_int 0 _)) ⟨fun h => mzD_inj (p := mvZ m) h, fun h => by rw [← h]⟩
theorem any_find {α : Type} (l : List α) (p : α → Bool) : l.any p = (l.find? p).isSome := by
  rw [Bool.eq_iff_iff, List.find?_isSome, List.any_eq_true]
theorem ixN_n {n j : Nat} (h : j < n) : ixN n (j : Int) = some j := by
  unfold ixN
  rw [if_pos (by omega), if_pos (by omega), Int.toNat_natCast]
theorem okD_mz (p : Int × Int) : okD 58 (mzD p) := okD_mono (n := 1) (by decide) (okD_tup2 (okD_int 0 _) (okD_int 0 _))
theorem mvF_in {r : Ru} {s : List Pg} {p : Int × Int} {m : Nat × Pg} (h : mvF r s p = some m) : m ∈ mvs r 0 [] s ∧ mvZ m = p := ⟨List.mem_of_find?_eq_some h, by simpa using List.find?_some h⟩
theorem mvs_lt {r : Ru} {s : List Pg} {m : Nat × Pg} (h : m ∈ mvs r 0 [] s) : m.1 < s.length := by
  have := lg_lt _ _ _ ((mem_moves r s m).mp h)
  rwa [List.length_reverse] at this
end TR

/-! own layer: a text, walked from its end -/
namespace TR
open PySem PySem.Spec PyProof.Rows L2 RT
theorem noRev_str : typeLookup (.type "str") "__reversed__" = pure none := by rw [typeLookup_type, builtinLookup_eq_fast] <;> kernel_rfl
theorem getI_str : typeLookup (.type "str") "__getitem__" = pure (some (.builtin "str.__getitem__")) := by rw [typeLookup_type, builtinLookup_eq_fast] <;> kernel_rfl
def rsObj (x : Str) (k : Tok) (i : Int) : Obj := { cls := .type "reversed", data := .fields #[.str x k, rawInt i] }
/-- reversed(x) of a text, the next place i -/
def IsRs (h : Heap) (a : Addr) (x : Str) (k : Tok) (i : Int) : Prop := ∃ o, h.get? a = some o ∧ o.cls = .type "reversed" ∧ o.data = .fields #[.str x k, rawInt i]
section
variable {prog : Program} {w : World} {A : Around} {E : Value → Shared → Prop} {s : Shared} {x : Str} {k : Tok}
theorem IsRs.ty {a : Addr} {i : Int} (z : IsRs s.heap a x k i) : s.TypeIs (.ref a) "reversed" := ⟨z.choose, z.choose_spec.1, z.choose_spec.2.1⟩
theorem code_revS {W : Value → Shared → Prop} (hx : x.length ≤ sizeLine) (q : W (.ref s.heap.objs.size) { s with heap := s.heap.push (rsObj x k ((x.length : Int) - 1)), toks := s.toks + 1 + 1 }) :
    codeAny (model prog w) A (.call (.builtin "reversed.__new__") ⟨[.type "reversed", .str x k], []⟩) (wants W E) s := by
  have ty : s.TypeIs (.str x k) "str" := typeIs_str s x k
  rw [sizeLine_eq] at hx
  refine codeAny_of_tree ?_
  show wpAny _ A.in1 (do checkBuiltinCall "reversed.__new__" ⟨[.type "reversed", .str x k], []⟩; again (.builtin "reversed.__new__" ⟨[.type "reversed", .str x k], []⟩)) _ _ s
  refine wpAny_bind (wpAny_of_eq (F.newCall_reversed_1 _) (wpAny_pure ⟨plainId_quiet F.plain_reversed_new _, codeAny_builtin F.entry_reversed_new ?_⟩)) <;> rw [Around.under_plainId F.plain_reversed_new _] <;> unfold Builtin.«reversed.__new__»
  refine wpAny_bind (wpAny_of_eq (newClass_reversed _) ?_) <;> try dsimp only
  refine wpAny_bind (wpAny_of_eq (a := ()) (by first | rfl | kernel_rfl) ?_) <;> try dsimp only
  refine wpAny_bind (wpAny_of_eq (a := ()) (by first | rfl | kernel_rfl) ?_) <;> try dsimp only
  refine wpAny_bind (wpAny_specialOf ty noRev_str ?_) <;> try dsimp only
  refine wpAny_bind ?_ <;> wp_delta
  refine wpAny_bind (wpAny_isInstance (T := "str") (U := "dict") (b := false) ty (by rw [isSubtype_type] <;> kernel_rfl) ?_) <;> try dsimp only
  try rw [if_neg Bool.false_ne_true]
  try dsimp only
  refine wpAny_bind (wpAny_specialOf ty getI_str ?_) <;> try dsimp only
  try rw [if_pos (by decide +kernel)]
  refine wpAny_pure ?_ <;> try dsimp only
  try rw [if_neg (by decide)]
  try dsimp only
  refine wpAny_bind (len_str (x := x) (t := k) (by omega) (wpAny_bind (wpAny_of_eq (a := some ((x.length : Nat) : Int)) rfl ?_))) <;> try dsimp only
  refine wpAny_bind ?_
  show wpAny _ _ (newObj (.type "reversed") (.fields #[.str x k, rawInt ((x.length : Int) - 1)])) _ _ _
  exact wpAny_newObj_type (wpAny_pure q)
theorem call_revS {W : Value → Shared → Prop} (hx : x.length ≤ sizeLine) (q : W (.ref s.heap.objs.size) { s with heap := s.heap.push (rsObj x k ((x.length : Int) - 1)), toks := s.toks + 1 + 1 }) : wpAny (model prog w) A (call (.type "reversed") [.str x k]) W E s :=
  callType_codes (Q₁ := fun obj s₁ => s₁.TypeIs obj "reversed" ∧ W obj s₁) called_rt (F.typeCall_reversed_1 _) F.entry_object_init (code_revS (A := A.in1) hx ⟨⟨_, Heap.get?_push_size _ rfl, rfl⟩, q⟩)
    fun obj s₁ h₁ => ⟨h₁.1, F.args_object_init_2 obj _, object_init_meets called_rt.init.lookup called_rt.made (by decide) prog w A.in1 _ s₁ ⟨h₁.1, rfl, h₁.2⟩⟩
theorem next_revS {j : Addr} {i : Nat} {c : Nat} {W : Option Value → Shared → Prop} (at_ : IsRs s.heap j x k (i : Int)) (hc : x.cps[i]? = some c) (hx : x.length ≤ sizeLine)
    (q : ∀ h' u, IsRs h' j x k ((i : Int) - 1) → Heap.SameBut j s.heap h' → W (some (.str ⟨#[c]⟩ u)) { s with heap := h', toks := s.toks + 1 + 1 }) : wpAny (model prog w) A (pyNext (.ref j)) W E s := by
  obtain ⟨oj, gj, cj, dj⟩ := id at_
  have hi : i < x.length := (Array.getElem?_eq_some_iff.mp hc).1
  have ty : ∀ s : Shared, s.TypeIs (.str x k) "str" := fun s => typeIs_str s x k
  rw [sizeLine_eq] at hx
  unfold pyNext
  refine wpAny_bind (wpAny_attempt (wpAny_callSpecial?_slot (name := Str.ofString "__next__") at_.ty slot_rt_next (wpAny_call_entry slot_rt_next at_.ty entry_rt_next ?_ (args_rt_next _))))
  unfold Builtin.«reversed.__next__»
  refine wpAny_bind (wpAny_of_eq (a := (Value.ref j, [])) rfl ?_) <;> try dsimp only
  refine wpAny_bind (wpAny_field gj dj (x := .str x k) rfl ?_) <;> try dsimp only
  refine wpAny_bind (wpAny_field gj dj (x := rawInt (i : Int)) rfl ?_)
  show wpAny _ _ (if (i : Int) < 0 then _ else _) _ _ s
  rw [if_neg (by omega)] <;> try dsimp only
  refine wpAny_bind (wpAny_specialOf (ty s) getI_str ?_) <;> try dsimp only
  try rw [if_neg (by decide)]
  try dsimp only
  refine wpAny_bind (wpAny_mkInt (wpAny_bind (wpAny_attempt ?_)))
  have e0 : seqIndex? (i : Int) x.length = some i := seqIndex_of (by omega) (by omega)
  have fin : (seqIndex? (i : Int) x.length).bind (x.cps[·]?) = some c := by rw [e0]; exact hc
  refine getItem_str (x := x) (t := k) (i := (i : Int)) (by rw [Bool.or_eq_false_iff, decide_eq_false_iff_not, decide_eq_false_iff_not]; omega) fin ?_ <;> try dsimp only
  refine wpAny_bind (wpAny_field (s := { s with toks := s.toks + 1 + 1 }) gj dj (x := rawInt (i : Int)) rfl ?_) <;> try dsimp only
  refine wpAny_bind (wpAny_setField (s := { s with toks := s.toks + 1 + 1 }) gj dj (by simp) ?_) <;> try dsimp only
  first
  | refine wpAny_pure ⟨_, rfl, wpAny_pure (q _ _ ?_ (Heap.SameBut.update ..))⟩
  | refine wpAny_bind (wpAny_pure (wpAny_pure ⟨_, rfl, wpAny_pure (q _ _ ?_ (Heap.SameBut.update ..))⟩))
  exact ⟨_, Heap.get?_update_self _ gj (Obj.isFreed_of_fields (Obj.data_mapFields dj _)), (Obj.cls_mapFields ..).trans cj, by rw [Obj.data_mapFields dj]; simp⟩
theorem end_revS {j : Addr} {W : Option Value → Shared → Prop} (hh : A.handled = none) (at_ : IsRs s.heap j x k (-1)) (q : ∀ h', Heap.ExtBut j s.heap h' → W none { s with heap := h' }) : wpAny (model prog w) A (pyNext (.ref j)) W E s := by
  obtain ⟨oj, gj, cj, dj⟩ := id at_
  unfold pyNext
  refine wpAny_bind (wpAny_attempt (wpAny_callSpecial?_slot (name := Str.ofString "__next__") at_.ty slot_rt_next (wpAny_call_entry slot_rt_next at_.ty entry_rt_next ?_ (args_rt_next _))))
  unfold Builtin.«reversed.__next__»
  refine wpAny_bind (wpAny_of_eq (a := (Value.ref j, [])) rfl ?_) <;> try dsimp only
  refine wpAny_bind (wpAny_field gj dj (x := .str x k) rfl ?_) <;> try dsimp only
  refine wpAny_bind (wpAny_field gj dj (x := rawInt (-1)) rfl ?_)
  show wpAny _ _ (if (-1 : Int) < 0 then _ else _) _ _ s
  rw [if_pos (by decide)] <;> try dsimp only
  refine wpAny_bind (wpAny_rule (wpAny_bind ?_)) <;> wp_delta
  refine wpAny_bind (wpAny_setField gj dj (by simp) ?_)
  have g2 := Heap.get?_update_self (Obj.mapFields (·.setIfInBounds 1 (rawInt (-1)))) gj (Obj.isFreed_of_fields (Obj.data_mapFields dj _))
  refine wpAny_setField (s := { s with heap := s.heap.update j (Obj.mapFields (·.setIfInBounds 1 (rawInt (-1)))) }) g2 (Obj.data_mapFields dj _) (by simp) ?_ <;> try dsimp only
  first
  | (show wpAny _ _ (newExc (.type "StopIteration") [] >>= _) _ _ _; refine wpAny_bind ?_)
  | (refine wpAny_bind ?_; show wpAny _ _ (newExc (.type "StopIteration") [] >>= _) _ _ _; refine wpAny_bind ?_)
  | (refine wpAny_bind ?_; wp_delta; show wpAny _ _ (newExc (.type "StopIteration") [] >>= _) _ _ _; refine wpAny_bind ?_)
  simp only [newExc, newTuple]
  refine wpAny_bind (wpAny_newObj_type (wpAny_bind (m := firstArgMember _ _) (wpAny_of_eq (a := Value.none) (by first | rfl | (simp only [firstArgMember]; rfl)) (wpAny_newObj_type ?_ (by size_fits)))) (by size_fits))
  simp only [raiseNew]
  refine wpAny_bind (wpAny_handled ?_)
  first | rw [show A.in1.handled = none from hh] | rw [hh]
  refine wpAny_bind (wpAny_pure (wpAny_throw ?_))
  refine wpAny_bind (wpAny_isInstance (T := "StopIteration") (b := true) ⟨_, Heap.get?_push_size _ rfl, rfl⟩ isSubtype_stop (wpAny_pure (q _ ?_)))
  refine ((?_ : Heap.ExtBut j s.heap _).push _).push _
  exact fun b ob hb e => (Heap.get?_update_other _ _ (Ne.symm hb)).trans ((Heap.get?_update_other _ _ (Ne.symm hb)).trans e)
theorem iter_revS {j : Addr} {i : Int} {W : Value → Shared → Prop} (at_ : IsRs s.heap j x k i) (q : W (.ref j) s) : wpAny (model prog w) A (pyIter (.ref j)) W E s :=
  wpAny_pyIter_slot at_.ty slot_rt_iter (wpAny_call_entry slot_rt_iter at_.ty entry_rt_iter (show wpAny _ _ (ret (.ref j)) _ _ s from wpAny_pure ⟨_, rfl, "reversed", _, at_.ty, slot_rt_next.lookup, q⟩) (args_rt_iter _))
end
/-- the signs of a text from its end -/
def Irs (x : Str) : It := ⟨fun i _ => i < x.cps.size, fun i H v H' => H' = H ∧ ∃ c, x.cps[x.cps.size - 1 - i]? = some c ∧ v = .str ⟨#[c]⟩, fun i _ => x.cps.size ≤ i⟩
theorem turn_rs {P : Program} {w : World} {K : PySem.W.Frag} {tg : Expr} (j : Addr) (x : Str) (k : Tok) (hx : x.length ≤ sizeLine) : Turn P w K tg (Irs x) [j] j (fun i h => i ≤ x.cps.size ∧ IsRs h j x k ((x.cps.size : Int) - 1 - (i : Nat))) where
  mem := by simp
  obj := fun i h st b hb => by
    obtain rfl : b = j := by simpa using hb
    obtain ⟨_, o, g, c, d⟩ := st
    exact ⟨o, g, fun v z => by rw [d] at z; cases z⟩
  keep := fun i h h' st kp => by
    obtain ⟨n, o, g, c, d⟩ := st
    exact ⟨n, o, kp j (by simp) o g, c, d⟩
  item := fun X hP hw hK hc i pins s σ H E I hf st hg => by
    subst hP hw hK
    obtain ⟨f0, f1, f2, f3, f4, f5⟩ := hf j (by simp)
    obtain ⟨_, at_⟩ := st
    have hin : i < x.cps.size := hg
    have e1 : (x.cps.size : Int) - 1 - ((i : Nat) : Int) = ((x.cps.size - 1 - i : Nat) : Int) := by omega
    rw [e1] at at_
    have hq : x.cps[x.cps.size - 1 - i]? = some (x.cps[x.cps.size - 1 - i]'(by omega)) := Array.getElem?_eq_getElem (by omega)
    refine next_revS at_ hq hx fun h' u at' sb => ?_
    have e2 : ((x.cps.size - 1 - i : Nat) : Int) - 1 = (x.cps.size : Int) - 1 - ((i + 1 : Nat) : Int) := by omega
    rw [e2] at at'
    have J : Inv X pins σ H { s with heap := h', toks := s.toks + 1 + 1 } := I.turned (t' := s.toks + 1 + 1) (fun b o hb e => (sb.2 b hb).trans e) f0 f1 f3 f4 f5
    obtain ⟨o, g, c, d⟩ := id at'
    exact ⟨_, rfl, go_of (s := { s with heap := h', toks := s.toks + 1 + 1 }) g c d (by decide) ⟨.str ⟨#[_]⟩, H, J, ⟨u, rfl⟩, ⟨rfl, _, hq, rfl⟩, ⟨hin, at'⟩, fun b hb => (hf b hb).1⟩⟩
  done := fun X hP hw hK hc i pins s σ H E I hf st hg => by
    subst hP hw hK
    obtain ⟨f0, f1, f2, f3, f4, f5⟩ := hf j (by simp)
    obtain ⟨hin, at_⟩ := st
    have hge : x.cps.size ≤ i := hg
    have e1 : (x.cps.size : Int) - 1 - ((i : Nat) : Int) = -1 := by omega
    rw [e1] at at_
    exact end_revS (I.ok.hd hc) at_ fun h' eb => ⟨rfl, I.turned (t' := s.toks) (fun b o hb e => eb b o hb e) f0 f1 f3 f4 f5⟩
  self := fun A i s Q E st h => iter_revS st.2 h
def iRevS (ta : TA) : TI := fun σ H R => ta σ H fun vs H1 => ∃ x : Str, vs = [.str x] ∧ x.length ≤ sizeLine ∧ R (Irs x) H1
theorem pi_revS {X : Cx} {tg : Expr} {e : Expr} {te : TE} {p pos : Pos} (hg : Gl X "reversed") (hm : X.mg "reversed" = none) (he : PE X e te) (hs : starEach [e] X.env = (false, eval e X.env) :: starEach [] X.env := by rfl) :
    PI X tg (.Call (.Name "reversed" p) [e] [] pos) (iRevS (tCons te tNil)) := by
  refine ⟨fun pins s σ H R I h => Call_ (ld_blt I hg hm PyProof.Rows.boot_reversed (PyProof.Rows.callWith_type1 (args_cons (thn (he.run pins s σ H _ I h) fun u s1 ⟨v, H1, I1, r1, q1⟩ => args_nil ?_) hs) hs rfl))⟩
  obtain ⟨x, ev, hx, q⟩ := q1
  cases ev
  obtain ⟨k, rfl⟩ := r1
  have e1 : ((x.length : Nat) : Int) - 1 = (x.cps.size : Int) - 1 - ((0 : Nat) : Int) := by show ((x.cps.size : Nat) : Int) - 1 = _; omega
  refine call_revS hx (iter_revS (x := x) (k := k) (i := ((x.length : Nat) : Int) - 1) ⟨_, Heap.get?_push_size _ rfl, rfl, rfl⟩ (pi_one (tk := s1.toks + 1 + 1) I1 _ (turn_rs _ x k hx) ⟨Nat.zero_le _, ?_⟩ q))
  rw [← e1]
  exact ⟨_, Heap.get?_push_size _ rfl, rfl, rfl⟩
section
variable {K : PySem.W.Frag} {ρ ρ' : Rho} {te ta tb tx : TE} {x y z : Da} {xs ys zs ds : List Da} {i j : Nat} {E : XK} {t u : TS} {D : DE}
theorem ei_revS {w : Str} (h : EvF K te ρ (.str w)) (hl : w.length ≤ sizeLine) : EvI K (iRevS (tCons te tNil)) ρ w.cps.size (fun i => .str ⟨#[w.cps.getD (w.cps.size - 1 - i) 0]⟩) := fun F0 H0 σ F H E R q => h F0 H0 σ F H E _ fun v F1 H1 g1 hd => by
  cases hd
  refine ⟨w, rfl, hl, q _ F1 H1 g1 fun i F2 H2 s1 s2 => ⟨fun hi => ⟨hi, fun v H' hy => ?_⟩, fun hi => hi⟩⟩
  obtain ⟨e, c, hc, hy⟩ := hy
  subst e
  subst hy
  refine ⟨F2, Grow.refl s2, ?_⟩
  have e : w.cps.getD (w.cps.size - 1 - i) 0 = c := by
    rw [Array.getD_eq_getD_getElem?, hc]
    rfl
  show Dq K F2 (V.str ⟨#[c]⟩) (.str ⟨#[w.cps.getD (w.cps.size - 1 - i) 0]⟩)
  rw [e]
  exact .str _
end
end TR

/-! plain: a state's text -/
namespace TR
open PySem PySem.Spec PyProof.Rows TM
abbrev Sg (l : List Nat) : Str := ⟨l.toArray⟩
def okc (c : Nat) : Bool := c == 48 || (c == 49 || c == 50)
def pgc (c : Nat) : Pg := if c = 49 then 1 else if c = 50 then 2 else 0
def chp (p : Pg) : Nat := 48 + p.val
theorem pgc_chp : ∀ p : Pg, pgc (chp p) = p := by decide
theorem okc_chp : ∀ p : Pg, okc (chp p) = true := by decide
theorem okc_iff (c : Nat) : okc c = true ↔ c = 48 ∨ c = 49 ∨ c = 50 := by simp [okc]
theorem chp_pgc {c : Nat} (h : okc c = true) : chp (pgc c) = c := by
  rcases (okc_iff c).mp h with rfl | rfl | rfl <;> rfl
theorem Sg_inj {a b : List Nat} (h : Sg a = Sg b) : a = b := congrArg (fun x : Str => x.cps.toList) h
theorem Sg_of (w : Str) : Sg w.cps.toList = w := rfl
theorem dash_eq : ("-" : Str) = Sg [45] := by decide +kernel
theorem emp_eq : ("" : Str) = Sg [] := by decide +kernel
theorem fig_eq : ("012" : Str) = Sg [48, 49, 50] := by decide +kernel
/-- a state's text -/
def txt (s : List Pg) : Str := if s = [] then Sg [45] else Sg (s.reverse.map chp)
/-- what a text writes -/
def readS (w : Str) : Option (List Pg) := if w = Sg [45] then some [] else if w.cps.toList = [] ∨ w.cps.toList.all okc = false then none else some (w.cps.toList.reverse.map pgc)
theorem map_pgc (l : List Pg) : (l.map chp).map pgc = l := by
  rw [List.map_map]
  conv => rhs; rw [← List.map_id l]
  exact List.map_congr_left fun p _ => pgc_chp p
theorem map_chp {l : List Nat} (h : l.all okc = true) : (l.map pgc).map chp = l := by
  rw [List.map_map]
  conv => rhs; rw [← List.map_id l]
  exact List.map_congr_left fun c hc => chp_pgc (List.all_eq_true.mp h c hc)
theorem all_chp (l : List Pg) : (l.map chp).all okc = true := by
  rw [List.all_eq_true]
  intro c hc
  obtain ⟨p, _, rfl⟩ := List.mem_map.mp hc
  exact okc_chp p
theorem read_txt (s : List Pg) : readS (txt s) = some s := by
  unfold txt
  by_cases h : s = []
  · rw [if_pos h, readS, if_pos rfl, h]
  · rw [if_neg h, readS]
    have h1 : ¬ Sg (s.reverse.map chp) = Sg [45] := fun z => by
      have := Sg_inj z
      have k := all_chp s.reverse
      rw [this] at k
      exact absurd k (by decide)
    have e : (Sg (s.reverse.map chp)).cps.toList = s.reverse.map chp := rfl
    rw [if_neg h1, e, if_neg (fun z => ?_), ← List.map_reverse, List.reverse_reverse, map_pgc]
    rcases z with z | z
    · rw [List.map_eq_nil_iff, List.reverse_eq_nil_iff] at z
      exact h z
    · rw [all_chp] at z
      cases z
theorem txt_read {w : Str} {s : List Pg} (h : readS w = some s) : txt s = w := by
  unfold readS at h
  by_cases h1 : w = Sg [45]
  · rw [if_pos h1] at h
    rw [← Option.some.inj h, h1]
    rfl
  · rw [if_neg h1] at h
    by_cases h2 : w.cps.toList = [] ∨ w.cps.toList.all okc = false
    · rw [if_pos h2] at h
      cases h
    · rw [if_neg h2] at h
      have e := Option.some.inj h
      have hne : w.cps.toList ≠ [] := fun z => h2 (.inl z)
      have hall : w.cps.toList.all okc = true := by
        cases q : w.cps.toList.all okc with
        | true => rfl
        | false => exact absurd (.inr q) h2
      unfold txt
      rw [if_neg (fun z => ?_), ← e, ← List.map_reverse, List.reverse_reverse, map_chp hall]
      rw [← e, List.map_eq_nil_iff, List.reverse_eq_nil_iff] at z
      exact hne z
theorem fig_has (c : Nat) : ("012" : Str).cps.contains c = okc c := by
  rw [fig_eq]
  show (#[48, 49, 50] : Array Nat).contains c = okc c
  rw [Array.contains_eq_any_beq]
  simp [okc, Bool.beq_comm]
theorem takeWhile_all {α : Type} {p : α → Bool} : ∀ {l : List α}, l.all p = true → l.takeWhile p = l
  | [], _ => rfl
  | a :: l, h => by
    rw [List.all_cons, Bool.and_eq_true] at h
    rw [List.takeWhile_cons_of_pos h.1, takeWhile_all h.2]
theorem takeWhile_lt {α : Type} {p : α → Bool} : ∀ {l : List α}, l.all p = false → (l.takeWhile p).length < l.length
  | [], h => by cases h
  | a :: l, h => by
    by_cases ha : p a = true
    · rw [List.all_cons, ha, Bool.true_and] at h
      rw [List.takeWhile_cons_of_pos ha, List.length_cons, List.length_cons]
      exact Nat.succ_lt_succ (takeWhile_lt h)
    · rw [List.takeWhile_cons_of_neg ha, List.length_cons]
      exact Nat.succ_pos _
theorem drop_take_all {α : Type} {p : α → Bool} : ∀ {l : List α}, (l.drop (l.takeWhile p).length).all p = true → l.all p = true
  | [], _ => rfl
  | a :: l, h => by
    by_cases ha : p a = true
    · rw [List.takeWhile_cons_of_pos ha, List.length_cons, List.drop_succ_cons] at h
      rw [List.all_cons, ha, drop_take_all h]
      rfl
    · rw [List.takeWhile_cons_of_neg ha] at h
      exact h
/-- nothing is left of a text without its figures just where it holds no others -/
theorem strip_emp (w : Str) : decide (Txt.stripChars w "012" = ("" : Str)) = w.cps.toList.all okc := by
  have e0 : Txt.stripChars w "012" = PySem.W.stripped okc true true w := by
    unfold Txt.stripChars
    rw [PySem.W.stripBy_eq]
    congr 1
    funext c
    exact fig_has c
  have e1 : (PySem.W.stripped okc true true w).cps.toList = (w.cps.toList.drop (w.cps.toList.takeWhile okc).length).take (w.length - ((w.cps.toList.drop (w.cps.toList.takeWhile okc).length).reverse.takeWhile okc).length - (w.cps.toList.takeWhile okc).length) := by
    show (Builtin.Str.strSub w _ _).cps.toList = _
    rw [PySem.StrLaws.strSub_toList]
    rfl
  have e2 : (Txt.stripChars w "012" = ("" : Str)) ↔ (PySem.W.stripped okc true true w).cps.toList = [] := by
    rw [e0, emp_eq]
    constructor
    · intro h; rw [h]
    · intro h
      have := congrArg Sg h
      exact this
  have hlen : w.length = w.cps.toList.length := by show w.cps.size = _; rw [Array.length_toList]
  rw [Bool.eq_iff_iff, decide_eq_true_eq, e2, e1, hlen]
  generalize w.cps.toList = l
  constructor
  · intro h
    rw [List.take_eq_nil_iff] at h
    cases hd : (l.drop (l.takeWhile okc).length).all okc with
    | true => exact drop_take_all hd
    | false =>
      have hr : (l.drop (l.takeWhile okc).length).reverse.all okc = false := by rw [List.all_reverse]; exact hd
      have hlt := takeWhile_lt hr
      rw [List.length_reverse, List.length_drop] at hlt
      rcases h with h | h
      · have hle : (l.takeWhile okc).length ≤ l.length := (List.takeWhile_sublist okc).length_le
        omega
      · rw [h] at hd
        cases hd
  · intro h
    rw [takeWhile_all h, List.drop_length, List.take_nil]
end TR

/-! own layer: texts -/
namespace TR
open PySem PySem.Spec PyProof.Rows L2 TM
def rStrI : List V → Hp → VK → Prop := fun xs H Q => ∃ i, xs = [.int i] ∧ i.natAbs.log2 < 1920 ∧ Q (.str (toString i)) H
def rIntS : List V → Hp → VK → Prop := fun xs H Q => ∃ a n, xs = [.str a] ∧ PySem.intText? a = some n ∧ a.length ≤ 640 ∧ Q (.int n) H
theorem strI {X : Cx} : CallR X (.type "str") rStrI := call_str_int
theorem intS {X : Cx} : CallR X (.type "int") rIntS := call_int_str
def rStrip : V → List V → Hp → VK → Prop := fun x xs H Q => ∃ a b, x = .str a ∧ xs = [.str b] ∧ a.length ≤ sizeLine ∧ Q (.str (Txt.stripChars a b)) H
def rIndex : V → List V → Hp → VK → Prop := fun x xs H Q => ∃ a b i rest, x = .str a ∧ xs = [.str b] ∧ Builtin.Str.occurrences a b 0 a.length 1 = i :: rest ∧ Q (.int (i : Nat)) H
def rJoin (K : PySem.W.Frag) : V → List V → Hp → VK → Prop := fun x xs H Q => ∃ a p, ∃ ys : List Str, x = .str a ∧ xs = [.ref p] ∧ (SqL K H p (ys.map V.str) ∨ SqT K H p (ys.map V.str)) ∧ (ys.map (·.length)).sum + ys.length * a.length ≤ 16777216 ∧ Q (.str (Txt.join a ys)) H
theorem mtStrip {X : Cx} : MtR X "str.strip" rStrip := mt_stripChars
theorem mtIndex {X : Cx} : MtR X "str.index" rIndex := mt_sindex
theorem peJoin {X : Cx} {K : PySem.W.Frag} {o e : Expr} {to te : TE} {apos pos : Pos} (hK : X.K = K) (ho : PE X o to) (he : PE X e te) (hs : starEach [e] X.env = [(false, eval e X.env)] := by rfl) (hbase : attributeBase o "join" X.env (eval o X.env) = eval o X.env := by rfl) (hline : (apos.endLine == pos.line) = true := by rfl) :
    PE X (.Call (.Attribute o "join" apos) [e] [] pos) (tM1 (rJoin K) to te) := by
  subst hK
  exact pe_join ho he hs hbase hline
/-- a text so many times -/
def rRepS : R2 := fun x y H Q => ∃ a n, x = .str a ∧ y = .int n ∧ 1 < n ∧ n ≤ 100000 ∧ 0 < a.length ∧ a.length ≤ 100 ∧ Q (.str (Sg (List.replicate n.toNat a.cps.toList).flatten)) H
theorem foldl_app (l : List (Array Nat)) : ∀ b : Array Nat, (l.foldl (· ++ ·) b).toList = b.toList ++ (l.map Array.toList).flatten := by
  induction l with
  | nil => intro b; simp
  | cons a l ih => intro b; rw [List.foldl_cons, ih]; simp
theorem op_repS {X : Cx} : OpR X (binaryOp .Mult) rRepS := by
  intro pins s σ H x y v u Q I rx ry h
  obtain ⟨a, n, rfl, rfl, h1, h2, h3, h4, q⟩ := h
  obtain ⟨t, rfl⟩ := rx
  obtain ⟨t', rfl⟩ := ry
  have hmul : a.length * n.toNat ≤ 100 * 100000 := Nat.mul_le_mul h4 (by omega)
  have e1 : (n == 1 || a.length == 0) = false := by
    rw [Bool.or_eq_false_iff]
    exact ⟨by simp; omega, by simp; omega⟩
  have e2 : (⟨(List.replicate n.toNat a.cps).foldl (· ++ ·) #[]⟩ : Str) = Sg (List.replicate n.toNat a.cps.toList).flatten := by
    show Str.mk _ = Str.mk _
    congr 1
    apply Array.ext'
    rw [foldl_app]
    simp
  have e3 : (Sg (List.replicate n.toNat a.cps.toList).flatten).length ≤ 100 * 100000 := by
    show (List.replicate n.toNat a.cps.toList).flatten.toArray.size ≤ _
    rw [List.size_toArray, List.length_flatten, List.map_replicate, List.sum_replicate_nat, Array.length_toList, Nat.mul_comm]
    exact hmul
  refine PySem.P.mul_str (by rw [decide_eq_false (by omega), decide_eq_false (by omega)]; rfl) (fun _ _ => ?_) (fun _ _ => ?_) ?_
  · have k1 : (100 : Int) ≤ (2 ^ 63 - 1) / n := Int.le_ediv_of_mul_le (by omega) (by omega)
    omega
  · unfold Builtin.Str.tooLong
    have hz : sizeLine = 16777216 := sizeLine_eq
    exact decide_eq_false (by omega)
  · rw [if_neg (by omega), e1, if_neg Bool.false_ne_true, e2]
    exact ⟨by rw [sizeLine_eq]; omega, ⟨.str _, H, I.tok _, ⟨_, rfl⟩, q⟩⟩
/-! ### readings over data -/
theorem str_peg : ∀ p : Pg, (Str.ofString (toString ((p.val : Nat) : Int)) : Str) = Sg [chp p] := fun p => by
  have h := SX.num_S p.val
  exact h.trans (congrArg (fun l => Sg l) (TL.numL_lt (by have := p.isLt; omega)))
theorem int_sign {c : Nat} (h : okc c = true) : PySem.intText? ⟨#[c]⟩ = some ((pgc c).val : Int) := by
  rcases (okc_iff c).mp h with rfl | rfl | rfl <;> decide +kernel
theorem idx_sign {c : Nat} (h : okc c = true) : Builtin.Str.occurrences ("012" : Str) ⟨#[c]⟩ 0 ("012" : Str).length 1 = [(pgc c).val] := by
  rcases (okc_iff c).mp h with rfl | rfl | rfl <;> decide +kernel
theorem joinL_one : ∀ l : List Nat, TL.joinL [] (l.map fun c => [c]) = l
  | [] => rfl
  | [c] => rfl
  | c :: d :: l => by
    rw [List.map_cons, List.map_cons, TL.joinL, ← List.map_cons (f := fun c : Nat => [c]), joinL_one (d :: l)]
    rfl
section
variable {K : PySem.W.Frag} {ρ ρ' : Rho} {te to ta tb tx : TE} {x y z : Da} {xs ys zs ds : List Da} {i j l m : Nat} {E : XK} {t u : TS} {D : DE}
theorem ef_strP {p : Pg} (h : EvF K te ρ (pD p)) : EvF K (tCB rStrI (tCons te tNil)) ρ (.str (Sg [chp p])) := fun F0 H0 σ F H e Q q => h F0 H0 σ F H e _ fun v F1 H1 g hv => by
  cases hv
  refine ⟨_, rfl, ?_, ?_⟩
  · exact (by decide : ∀ p : Pg, ((p.val : Nat) : Int).natAbs.log2 < 1920) p
  · rw [str_peg]
    exact q _ F1 H1 g (.str _)
theorem ef_intC {c : Nat} (hc : okc c = true) (h : EvF K te ρ (.str ⟨#[c]⟩)) : EvF K (tCB rIntS (tCons te tNil)) ρ (pD (pgc c)) := fun F0 H0 σ F H e Q q => h F0 H0 σ F H e _ fun v F1 H1 g hv => by
  cases hv
  exact ⟨_, _, rfl, int_sign hc, by show 1 ≤ 640; decide, q _ F1 H1 g (.int _)⟩
theorem ef_stripS {w b : Str} (h : EvF K to ρ (.str w)) (hw : w.length ≤ sizeLine) (h2 : EvF K te ρ (.str b)) : EvF K (tM1 rStrip to te) ρ (.str (Txt.stripChars w b)) := fun F0 H0 σ F H e Q q => h F0 H0 σ F H e _ fun v F1 H1 g hv => by
  cases hv
  refine ⟨⟨_, rfl⟩, h2 F0 H0 σ F1 H1 (e.grow g) _ fun v2 F2 H2 g2 hv2 => ?_⟩
  cases hv2
  exact ⟨_, _, rfl, rfl, hw, q _ F2 H2 (g.trans g2) (.str _)⟩
theorem ef_idxC {c : Nat} (hc : okc c = true) (h : EvF K to ρ (.str "012")) (h2 : EvF K te ρ (.str ⟨#[c]⟩)) : EvF K (tM1 rIndex to te) ρ (pD (pgc c)) := fun F0 H0 σ F H e Q q => h F0 H0 σ F H e _ fun v F1 H1 g hv => by
  cases hv
  refine ⟨⟨_, rfl⟩, h2 F0 H0 σ F1 H1 (e.grow g) _ fun v2 F2 H2 g2 hv2 => ?_⟩
  cases hv2
  exact ⟨_, _, _, _, rfl, rfl, idx_sign hc, q _ F2 H2 (g.trans g2) (.int _)⟩
theorem ef_joinC {l : List Nat} (h : EvF K to ρ (.str "")) (h2 : EvM K te ρ (l.map fun c => .str (Sg [c]))) (hl : l.length ≤ 100000) : EvF K (tM1 (rJoin K) to te) ρ (.str (Sg l)) := fun F0 H0 σ F H e Q q => h F0 H0 σ F H e _ fun v F1 H1 g hv => by
  cases hv
  refine ⟨⟨_, rfl⟩, h2 F0 H0 σ F1 H1 (e.grow g) _ fun p vs F2 H2 g2 hs hd => ?_⟩
  have em : (l.map fun c => Da.str (Sg [c])) = (l.map fun c => Sg [c]).map Da.str := by rw [List.map_map]; rfl
  rw [em] at hd
  have ev := dqa_str hd
  subst ev
  refine ⟨_, p, l.map fun c => Sg [c], rfl, rfl, .inl hs, ?_, ?_⟩
  · have e1 : (l.map fun c => Sg [c]).map (·.length) = List.replicate l.length 1 := by
      rw [List.map_map, List.eq_replicate_iff]
      refine ⟨by rw [List.length_map], fun b hb => ?_⟩
      obtain ⟨_, _, rfl⟩ := List.mem_map.mp hb
      rfl
    rw [e1, List.sum_replicate_nat, emp_eq]
    show l.length * 1 + _ * 0 ≤ _
    omega
  · have e2 : Txt.join ("" : Str) (l.map fun c => Sg [c]) = Sg l := by
      rw [emp_eq]
      have := SX.join_S [] (l.map fun c => [c])
      rw [joinL_one, List.map_map] at this
      exact this
    rw [e2]
    exact q _ F2 H2 (g.trans g2) (.str _)
theorem rv_repS {a : Str} {n : Int} (h1 : 1 < n) (h2 : n ≤ 100000) (h3 : 0 < a.length) (h4 : a.length ≤ 100) : RvD K (fun x y H Q => rMul2 x y H Q ∨ rRepS x y H Q) (.str a) (.int n) (.str (Sg (List.replicate n.toNat a.cps.toList).flatten)) := fun v u H Q hv hu q => by
  cases hv
  cases hu
  exact .inr ⟨a, n, rfl, rfl, h1, h2, h3, h4, q _ fun F => .str _⟩
end
section
variable {K : PySem.W.Frag} {ρ ρ' : Rho} {te ts ta tb tx : TE} {tt : TT} {x y z : Da} {j : Nat} {vs : List Nat}
abbrev chD (c : Nat) : Da := .str ⟨#[c]⟩
theorem cps_at (w : Str) (i : Nat) (h : i < w.cps.toList.length) : w.cps.getD i 0 = w.cps.toList[i] := by
  rw [Array.getD_eq_getD_getElem?, ← Array.getElem?_toList, List.getElem?_eq_getElem h]
  rfl
/-- over the signs of a text -/
theorem en_lcS (w : Str) (keep : Nat → Bool) (out : Nat → Da) (h : EvF K ts ρ (.str w)) (hz : w.cps.toList.length ≤ 1000000) (hj : j ∈ vs)
    (ht : ∀ a, a ∈ w.cps.toList → EvT K tt ((wipeR ρ vs).set j (.d (chD a))) (keep a)) (he : ∀ a, a ∈ w.cps.toList → keep a = true → EvF K te ((wipeR ρ vs).set j (.d (chD a))) (out a)) : EvN K (tLc (iStr ts) (gName j) tt te vs) ρ ((w.cps.toList.filter keep).map out) :=
  en_lcT (js := [j]) chD (fun x r => r.set j (.d x)) w.cps.toList keep out (ei_str h) (Array.length_toList).symm (fun i hi => by rw [cps_at w i hi]) hz (fun _ => go_name) (fun j' h' => by rw [List.mem_singleton] at h'; rw [h']; exact hj) ht he
theorem en_lcRS (w : Str) (keep : Nat → Bool) (out : Nat → Da) (h : EvF K ts ρ (.str w)) (hz : w.cps.toList.length ≤ 1000000) (hj : j ∈ vs)
    (ht : ∀ a, a ∈ w.cps.toList.reverse → EvT K tt ((wipeR ρ vs).set j (.d (chD a))) (keep a)) (he : ∀ a, a ∈ w.cps.toList.reverse → keep a = true → EvF K te ((wipeR ρ vs).set j (.d (chD a))) (out a)) : EvN K (tLc (iRevS (tCons ts tNil)) (gName j) tt te vs) ρ ((w.cps.toList.reverse.filter keep).map out) := by
  have hl : w.length ≤ sizeLine := by
    rw [sizeLine_eq]
    have : w.length = w.cps.toList.length := by show w.cps.size = _; rw [Array.length_toList]
    omega
  refine en_lcT (js := [j]) chD (fun x r => r.set j (.d x)) w.cps.toList.reverse keep out (ei_revS h hl) (by rw [List.length_reverse, Array.length_toList]) (fun i hi => ?_) (by rw [List.length_reverse]; exact hz) (fun _ => go_name) (fun j' h' => by rw [List.mem_singleton] at h'; rw [h']; exact hj) ht he
  rw [List.length_reverse] at hi
  have e : w.cps.size = w.cps.toList.length := Array.length_toList.symm
  rw [List.getElem_reverse, ← cps_at w _ (by omega), e]
end
end TR

/-! own layer: a def that a slot holds; what is raised in one of two branches -/
namespace TR
open PySem PySem.Spec PyProof.Rows L2 TM
/-- the def at f keeps the promise Gr -/
structure HeldD (P : Program) (w : World) (K : PySem.W.Frag) (mg : Str → Option Value) (base : Heap) (k : Nat) (f : Addr) (Gr : List Da → Out → Prop) : Prop where
  ex : ∃ (fd : FuncData) (ps : List Str), FnOk P w K mg base (L2N.CX P w) k f fd ps (spD K Gr) ∧ PySem.W.keepIn K (.ref f) = true ∧ Binds K fd ps []
/-- f(..), f what the i-th slot holds, in a try's body -/
def tCallF (K : PySem.W.Frag) (i : Nat) (T : Addr → (List Da → Out → Prop) → Prop) (W : WX) (t : TA) : TE := fun σ H Q => ∃ f Gr, σ[i]? = some (some (.ref f)) ∧ T f Gr ∧ t σ H fun vs H1 => spD K Gr vs H1 Q (WE W σ)
theorem pe_callF {X : Cx} {k i : Nat} {x : Str} {p pos : Pos} {e : Expr} {es : List Expr} {t : TA} {P : Program} {w : World} {K : PySem.W.Frag} {mg : Str → Option Value} {base : Heap} {W : WX} {T : Addr → (List Da → Out → Prop) → Prop} (held : ∀ f Gr, T f Gr → HeldD P w K mg base k f Gr)
    (hX : X.prog = P ∧ X.w = w ∧ X.K = K ∧ X.mg = mg ∧ X.base = base) (hr : Room k X.A) (hN : X.N[i]? = some x) (hv : Vis X.env.scope x) (tk : L2N.Takes X W) (ha : PA X (e :: es) t)
    (hdb : (x == ("__debug__" : Str)) = false := by decide) (hcd : (x == ("__classdict__" : Str)) = false := by decide)
    (he : starEach (e :: es) X.env = (false, eval e X.env) :: starEach es X.env := by rfl) (hpl : (backTo pos (starEach es X.env)).any (·.1) = false := by rfl) : PE X (.Call (.Name x p) (e :: es) [] pos) (tCallF K i T W t) := by
  obtain ⟨rfl, rfl, rfl, rfl, rfl⟩ := hX
  refine ⟨fun pins s σ H Q I h => ?_⟩
  obtain ⟨f, Gr, hs, hT, ht⟩ := h
  obtain ⟨fd, ps, F, hk, hb⟩ := (held f Gr hT).ex
  refine wpAny_Call_Name_kw (thn ((pe_var (pos := p) hN hv hdb hcd).run pins s σ H (fun v G => v = .ref f ∧ G = H) I ⟨.ref f, hs, rfl, rfl⟩) fun u s1 ⟨v, H1, I1, r1, q1⟩ => ?_)
  obtain ⟨rfl, rfl⟩ := q1
  cases r1
  exact PySem.W.callWith_K (h₀ := X.base) I.ok.mod.kin hk (thn (ha.run pos pins s1 σ _ _ I1 ht) fun us s2 ⟨vs, H2, I2, r, q⟩ => ⟨I2.kIn, run_fnS (E := WE W) F hr hb (fun pins H s e s' I c => tk e s' (L2N.XE.of_call I (fun _ _ _ h => h) c)) I2 r q⟩) he hpl
section
variable {K : PySem.W.Frag} {ρ ρ' : Rho} {te ta tb tx : TE} {tr : TA} {tt : TT} {x y z : Da} {xs ys zs ds : List Da} {i j : Nat} {E : XK} {t u : TS} {D : DE} {er : Str → Addr} {C : Addr}
theorem ex_if {b : Bool} (h : EvT K tt ρ b) (h1 : b = true → EvX K E ta ρ C) (h2 : b = false → EvX K E tb ρ C) : EvX K E (tIf tt ta tb) ρ C := fun F0 H0 σ F H e hE Q => h F0 H0 σ F H e _ fun F1 H1 g => by
  have e1 := e.grow g
  have hE1 : ∀ H', Same H1 H' → E (.ref C) none H' := fun H' s => hE H' (g.h.trans s)
  cases b with
  | true => exact h1 rfl F0 H0 σ F1 H1 e1 hE1 Q
  | false => exact h2 rfl F0 H0 σ F1 H1 e1 hE1 Q
end
end TR

/-! own layer: a def that is handed the exception which the caller's suite holds -/
namespace TR
open PySem PySem.Spec PyProof.Rows L2 TM L2H HotX
/-- its promise knows the exception p -/
structure FnP2 (P : Program) (w : World) (K : PySem.W.Frag) (mg : Str → Option Value) (base : Heap) (CX : CXT) (k : Nat) (f : Addr) (fd : FuncData) (ps : List Str) (sp : Addr × Obj → Sp) : Prop where
  len : ∀ p vs H Q E, sp p vs H Q E → vs.length = ps.length
  run : ∀ (p : Addr × Obj) (A : Around) (outer : List Env) (s : Shared) (H : Hp) (args : Args) (us : List Value) (vs : List V) (Q : VK) (E : XK), RoomH k A → Hot1 A p → PinOk outer H s p → Env0 P w K mg base A outer s H → BindsTo s fd args (ps.zip us) → Vals vs us → sp p vs H Q E →
    codeAny (model P w) A (.call (.ref f) args) (CR CX outer P w H s Q E) s
/-- isinstance of a pinned exception -/
theorem call_isP {X : Cx} {p : Addr × Obj} {D : Addr} (hp : p ∈ X.pn) (C : ExcC X.K D) (hc : p.2.cls = .ref D) (hd : p.2.dict = none) (hf : ∃ ve, p.2.data = .fields ve) : CallR X (.builtin "isinstance") (rIsE X.K D p.1) := fun pins s σ H xs us Q I r h => by
  obtain ⟨c, cv, b, rfl, hcv, e, q⟩ := h
  obtain ⟨a, oe⟩ := p
  obtain ⟨hget, _⟩ := I.pin (a, oe) (List.mem_append_left _ hp)
  obtain ⟨ve, hv⟩ := hf
  cases r with
  | cons rx rr => cases rr with
    | cons rt rr =>
      cases rr
      cases rx
      obtain rfl := hcv _ rt
      have J : PySem.W.InstAt s.heap a oe D none := by
        obtain ⟨oc, od, oda, osl⟩ := oe
        dsimp only at hc hd hv
        subst hc hd hv
        exact ⟨hget, rfl, rfl, trivial⟩
      exact PySem.W.kia_one (PySem.W.handS_kitx_exc C.hg C.hk C.hs C.hd C.ha C.hn C.ht C.hm) I.kIn J e (fun z => nomatch z) fun tk => ⟨.bl b, H, I.kept (t' := tk) fun _ _ z => z, rfl, q⟩
theorem fnP2_of {CX : CXT} {P : Program} {w : World} {K : PySem.W.Frag} {mg : Str → Option Value} {base : Heap} {k : Nat} {f : Addr} {fd : FuncData} {qual x : Str} {params : Arguments} {body : List Stmt} {scope : Scope} {N ps : List Str} {sp : Addr × Obj → Sp}
    (F : FunD K x qual params body scope [] [] f fd) (S : FnScope N ps scope) (len : ∀ p vs H Q E, sp p vs H Q E → vs.length = ps.length)
    (hbody : ∀ (cdv : Value) (p : Addr × Obj) (A : Around) (outer : List Env) (s : Shared) (H : Hp) (vs : List V) (Q : VK) (E : XK), Hot1 A p → RoomH k (A.deeper (envOfC qual scope s.heap.objs.size f cdv)) → sp p vs H Q E →
      ∃ t, PSs (cxH CX P w K mg base N qual scope f cdv A outer s H E p) body t ∧ t { nx := fun _ H' => Q .non H', rt := Q } (L2.start N vs) H) : FnP2 P w K mg base CX (k + 1) f fd ps sp := by
  obtain ⟨oc, od, dV, kV, doc, pm, an, cdv, ct, osl, rfl, lk, hcd, _, _⟩ := F.ex
  refine ⟨len, fun p A outer s H args us vs Q E room hot pin env bind rel prom => ?_⟩
  have inK : K.In s.heap := env.mod.kin.keeps fun b o e => (env.bs b o e).1
  refine codeAny_call_function room.depth (inK _ _ lk) rfl S.co S.gen rfl (PySem.W.codeRec_of inK hcd) (bind _ _ _ _ (wpAny_newFunctionEnv_cells S.kind (fun ⟨n, v⟩ hy => ?_) fun ev he s1 made => ?_))
  · rcases S.par n (List.of_mem_zip hy).1 with q | q
    · exact .inl q
    · exact .inr ⟨q, PySem.W.cellsFrom_some _ _ _ (.inl q)⟩
  · subst he
    refine ⟨(env.mod.nolimit.keeps fun b o e => (env.bs b o e).1).keeps made.toInCall.keep, codeAny_func ?_⟩
    obtain ⟨t, ht, hq⟩ := hbody cdv p A outer s H vs Q E hot (room.deeper _) prom
    refine wpAny_mono (ht.run [] s1 (L2.start N vs) H _ (inv_startH S pin env (len _ _ _ _ _ prom) rel made) hq) (fun fl s' hs => ?_) fun e s' hs => hs
    cases fl with
    | ret u =>
      obtain ⟨v, σ', H', J, rv, q⟩ := hs
      exact ⟨v, H', J.os, J.bare, J.base, J.hok, rv, q⟩
    | next =>
      obtain ⟨σ', H', J, q⟩ := hs
      exact ⟨V.non, H', J.os, J.bare, J.base, J.hok, rfl, q⟩
    | brk =>
      obtain ⟨_, _, _, q⟩ := hs
      exact q.elim
    | cont =>
      obtain ⟨_, _, _, q⟩ := hs
      exact q.elim
/-- it is called where p is in hand -/
theorem pe_callP {X : Cx} {k : Nat} {f : Addr} {fd : FuncData} {ps : List Str} {sp : Addr × Obj → Sp} {x : Str} {q pos : Pos} {e : Expr} {es : List Expr} {t : TA} {p : Addr × Obj} (F : FnP2 X.prog X.w X.K X.mg X.base (L2N.CX X.prog X.w) k f fd ps sp) (room : RoomH k X.A) (hot : Hot1 X.A p) (hp : p ∈ X.pn) (hg : Gl X x) (hm : X.mg x = some (.ref f))
    (hk : PySem.W.keepIn X.K (.ref f) = true) (hb : Binds X.K fd ps []) (ha : PA X (e :: es) t) (hdb : (x == ("__debug__" : Str)) = false := by decide) (he : starEach (e :: es) X.env = (false, eval e X.env) :: starEach es X.env := by rfl) (hpl : (backTo pos (starEach es X.env)).any (·.1) = false := by rfl) :
    PE X (.Call (.Name x q) (e :: es) [] pos) (tCall (sp p) [] E0 t) := by
  refine ⟨fun pins s σ H Q I h => wpAny_Call_Name_kw (ld_glob I hg hm (PySem.W.callWith_K (h₀ := X.base) I.ok.mod.kin hk (thn (ha.run pos pins s σ H _ I h) fun us s1 ⟨vs, H1, J, rel, prom⟩ => ⟨J.kIn, ?_⟩) he hpl) hdb)⟩
  have prom : sp p (vs ++ []) H1 Q E0 := prom
  rw [List.append_nil] at prom
  have b := hb s1 us J.kIn (by rw [List.append_nil, ← rel.length]; exact F.len _ _ _ _ _ prom)
  rw [List.append_nil] at b
  have P1 := J.pin p (List.mem_append_left _ hp)
  refine wpAny_call (codeAny_mono (F.run p X.A X.stack s1 H1 ⟨us, []⟩ us vs Q E0 room hot ⟨P1.1, P1.2.1, fun z => (List.mem_cons.mp (J.stkSub p.1 z)).elim P1.2.2.1 P1.2.2.2.1, P1.2.2.2.2⟩ J.env0 b rel prom) fun r s' hq => ?_)
  cases r with
  | error e => exact passN pins σ H1 s1 e s' J hq
  | ok fl =>
    cases fl with
    | ret u => exact J.after hq
    | next => exact hq.elim
    | brk => exact hq.elim
    | cont => exact hq.elim
/-- the promise of a def that is handed the exception: from its class to a new list -/
def spP (K : PySem.W.Frag) (er : Str → Addr) (Ds : List Str) (kinds : Str → List Da) (p : Addr × Obj) : Sp := fun vs H Q _ => ∃ D, D ∈ Ds ∧ p.2.cls = .ref (er D) ∧ p.2.dict = none ∧ (∃ ve : Array Value, p.2.data = .fields ve) ∧ ∃ F, Same F H ∧ vs = [.ref p.1] ∧ Give K F H (.n (kinds D)) Q E0
/-- the def is known -/
structure CalP (P : Program) (w : World) (K : PySem.W.Frag) (mg : Str → Option Value) (base : Heap) (k : Nat) (x : Str) (ps : List Str) (sp : Addr × Obj → Sp) : Prop where
  ex : ∃ f fd, FnP2 P w K mg base (L2N.CX P w) k f fd ps sp ∧ mg x = some (.ref f) ∧ PySem.W.keepIn K (.ref f) = true ∧ Binds K fd ps []
theorem calP_of {P : Program} {w : World} {K : PySem.W.Frag} {mg : Str → Option Value} {base : Heap} {x : Str} {params : Arguments} {body : List Stmt} {scope : Scope} {f : Addr} {fd : FuncData} {N : List Str} {y : Str} {k n : Nat} {er : Str → Addr} {Ds : List Str} {kinds : Str → List Da}
    (F : FunD K x x params body scope [] [] f fd) (S : FnScope N [y] scope) (hm : mg x = some (.ref f)) (hb : Binds K fd [y] []) (hn : N.length = n) (hy : 1 ≤ n)
    (hbody : ∀ (cdv : Value) (A : Around) (outer : List Env) (s : Shared) (H : Hp) (E : XK) (p : Addr × Obj) (D : Str), D ∈ Ds → p.2.cls = .ref (er D) → p.2.dict = none → (∃ ve : Array Value, p.2.data = .fields ve) →
      ∃ t, PSs (cxH (L2N.CX P w) P w K mg base N x scope f cdv A outer s H E p) body t ∧ EvS K E0 t (rho0 n [.adr p.1]) { nx := fun _ => False, rt := fun r' => r' = .n (kinds D) }) : CalP P w K mg base (k + 1) x [y] (spP K er Ds kinds) := by
  subst hn
  refine ⟨f, fd, fnP2_of F S (fun p vs H Q E h => ?_) (fun cdv p A outer s H vs Q E _ _ h => ?_), hm, F.kp, hb⟩
  · obtain ⟨_, _, _, _, _, _, _, rfl, _⟩ := h
    rfl
  · obtain ⟨D, hD, h1, h2, h3, F1, s1, rfl, hQ⟩ := h
    obtain ⟨t, ht, hE⟩ := hbody cdv A outer s H E p D hD h1 h2 h3
    refine ⟨t, ht, hE F1 H _ F1 H (hs_start s1 (.cons (.adr p.1) .nil) hy) _ (fun _ _ _ _ _ _ z => z.elim) (fun r' e => ?_) (fun _ _ _ _ _ _ z => z.elim) (fun _ _ _ _ _ _ z => z.elim)⟩
    have e : r' = .n (kinds D) := e
    subst e
    exact hQ
theorem isPK {X : Cx} {K : PySem.W.Frag} {p : Addr × Obj} {D : Addr} (hK : X.K = K) (hp : p ∈ X.pn) (C : ExcC K D) (hc : p.2.cls = .ref D) (hd : p.2.dict = none) (hf : ∃ ve : Array Value, p.2.data = .fields ve) : CallR X (.builtin "isinstance") (rIsE K D p.1) := by
  subst hK
  exact call_isP hp C hc hd hf
section
variable {K : PySem.W.Frag} {ρ : Rho} {te : TE} {er : Str → Addr} {Ds cs : List Str}
theorem ef_isP (hX : ExH K er Ds cs) {D c : Str} {a : Addr} (hD : D ∈ Ds) (hc : c ∈ cs) (h : EvF K te ρ (.adr a)) : EvF K (tCB (rIsE K (er D) a) (tCons te (tCons (tC (.ref (er c))) tNil))) ρ (.bl (decide (c = D) || decide (c = "TowerError"))) :=
  fun F0 H0 σ F H e Q q => h F0 H0 σ F H e _ fun v F1 H1 g hv => by
    cases hv
    exact ⟨.ref (er c), .ref (er c), _, rfl, fun u r => by cases r; rfl, hX.i D hD c hc, q _ F1 H1 g (.bl _)⟩
theorem ef_isPV (hX : ExH K er Ds cs) {D : Str} {a : Addr} (hD : D ∈ Ds) (h : EvF K te ρ (.adr a)) : EvF K (tCB (rIsE K (er D) a) (tCons te (tCons (tC (.ty "ValueError")) tNil))) ρ (.bl true) :=
  fun F0 H0 σ F H e Q q => h F0 H0 σ F H e _ fun v F1 H1 g hv => by
    cases hv
    exact ⟨.ty "ValueError", .type "ValueError", _, rfl, fun u r => by cases r; rfl, hX.v D hD, q _ F1 H1 g (.bl _)⟩
/-- the suite hands its exception on -/
theorem en_callP {tr : TA} {kinds : Str → List Da} {D : Str} {p : Addr × Obj} (hD : D ∈ Ds) (h1 : p.2.cls = .ref (er D)) (h2 : p.2.dict = none) (h3 : ∃ ve : Array Value, p.2.data = .fields ve) (ha : EvA K tr ρ [.adr p.1]) : EvN K (tCall (spP K er Ds kinds p) [] E0 tr) ρ (kinds D) :=
  fun F0 H0 σ F H e Q q => ha F0 H0 σ F H e _ fun vs F1 H1 g1 hv => by
    have ev : vs = [.ref p.1] := by
      cases hv with
      | cons a b =>
        cases b
        cases a
        rfl
    subst ev
    exact ⟨D, hD, h1, h2, h3, F1, g1.s, rfl, fun l us F2 H2 g2 hp hf hh hd => q l us F2 H2 (g1.trans g2) (Same.back g1.h hp) hf hh hd⟩
end
end TR

/-! own layer: the suite hands its exception on; {}; a range by steps; a try over a def that a slot holds -/
namespace TR
open PySem PySem.Spec PyProof.Rows L2 TM L2H HotX
/-- as pe_callP, the promise in other words -/
theorem pe_callQ {X : Cx} {k : Nat} {f : Addr} {fd : FuncData} {ps : List Str} {sp : Addr × Obj → Sp} {x : Str} {q pos : Pos} {e : Expr} {es : List Expr} {t : TA} {p : Addr × Obj} {sq : Sp} (F : FnP2 X.prog X.w X.K X.mg X.base (L2N.CX X.prog X.w) k f fd ps sp) (room : RoomH k X.A) (hot : Hot1 X.A p) (hp : p ∈ X.pn) (hg : Gl X x) (hm : X.mg x = some (.ref f))
    (hk : PySem.W.keepIn X.K (.ref f) = true) (hb : Binds X.K fd ps []) (hsq : ∀ vs H Q, sq vs H Q E0 → sp p vs H Q E0) (ha : PA X (e :: es) t) (hdb : (x == ("__debug__" : Str)) = false := by decide) (he : starEach (e :: es) X.env = (false, eval e X.env) :: starEach es X.env := by rfl) (hpl : (backTo pos (starEach es X.env)).any (·.1) = false := by rfl) :
    PE X (.Call (.Name x q) (e :: es) [] pos) (tCall sq [] E0 t) := by
  refine ⟨fun pins s σ H Q I h => wpAny_Call_Name_kw (ld_glob I hg hm (PySem.W.callWith_K (h₀ := X.base) I.ok.mod.kin hk (thn (ha.run pos pins s σ H _ I h) fun us s1 ⟨vs, H1, J, rel, prom⟩ => ⟨J.kIn, ?_⟩) he hpl) hdb)⟩
  have prom : sq (vs ++ []) H1 Q E0 := prom
  rw [List.append_nil] at prom
  have prom : sp p vs H1 Q E0 := hsq _ _ _ prom
  have b := hb s1 us J.kIn (by rw [List.append_nil, ← rel.length]; exact F.len _ _ _ _ _ prom)
  rw [List.append_nil] at b
  have P1 := J.pin p (List.mem_append_left _ hp)
  refine wpAny_call (codeAny_mono (F.run p X.A X.stack s1 H1 ⟨us, []⟩ us vs Q E0 room hot ⟨P1.1, P1.2.1, fun z => (List.mem_cons.mp (J.stkSub p.1 z)).elim P1.2.2.1 P1.2.2.2.1, P1.2.2.2.2⟩ J.env0 b rel prom) fun r s' hq => ?_)
  cases r with
  | error e => exact passN pins σ H1 s1 e s' J hq
  | ok fl =>
    cases fl with
    | ret u => exact J.after hq
    | next => exact hq.elim
    | brk => exact hq.elim
    | cont => exact hq.elim
/-- the same promise by what the suite knows: the class cls, the dict d -/
def spX (K : PySem.W.Frag) (er : Str → Addr) (Ds : List Str) (kinds : Str → List Da) (cls : Value) (d : Option Addr) (a : Addr) : Sp := fun vs H Q _ => ∃ D, D ∈ Ds ∧ cls = .ref (er D) ∧ d = none ∧ ∃ F, Same F H ∧ vs = [.ref a] ∧ Give K F H (.n (kinds D)) Q E0
theorem pe_calX {X : Cx} {P : Program} {w : World} {K : PySem.W.Frag} {mg : Str → Option Value} {base : Heap} {k : Nat} {x : Str} {ps : List Str} {er : Str → Addr} {Ds : List Str} {kinds : Str → List Da} {cls : Value} {d : Option Addr} {a : Addr} {oe : Obj} {pn : List (Addr × Obj)} {q pos : Pos} {e : Expr} {es : List Expr} {t : TA}
    (C : CalP P w K mg base k x ps (spP K er Ds kinds)) (hX : X.prog = P ∧ X.w = w ∧ X.K = K ∧ X.mg = mg ∧ X.base = base) (hr : Room k X.A) (hz : L2N.Zn cls d oe) (hf : ∃ vs, oe.data = .fields vs) (hg : Gl (X.suite a ((a, oe) :: pn)) x) (ha : PA (X.suite a ((a, oe) :: pn)) (e :: es) t)
    (hdb : (x == ("__debug__" : Str)) = false := by decide) (he : starEach (e :: es) X.env = (false, eval e X.env) :: starEach es X.env := by rfl) (hpl : (backTo pos (starEach es X.env)).any (·.1) = false := by rfl) :
    PE (X.suite a ((a, oe) :: pn)) (.Call (.Name x q) (e :: es) [] pos) (tCall (spX K er Ds kinds cls d a) [] E0 t) := by
  obtain ⟨rfl, rfl, rfl, rfl, rfl⟩ := hX
  obtain ⟨f, fd, F, hm, hk, hb⟩ := C.ex
  obtain ⟨ve, e1, e2⟩ := (hotE hz hf).f
  refine pe_callQ (X := X.suite a ((a, oe) :: pn)) (p := (a, oe)) F ⟨hr.dp, hr.un⟩ ⟨rfl, ve, e1, e2⟩ List.mem_cons_self hg hm hk hb (fun vs H Q h => ?_) ha hdb he hpl
  obtain ⟨D, hD, h1, h2, F1, s, h3, h4⟩ := h
  exact ⟨D, hD, hz.1.trans h1, hz.2.1.trans h2, ⟨ve, e1⟩, F1, s, h3, h4⟩
section
variable {K : PySem.W.Frag} {ρ ρ' : Rho} {te ta tb tx : TE} {tr : TA} {tt : TT} {x y z : Da} {xs ys zs ds : List Da} {i j : Nat} {E : XK} {t u : TS} {D : DE} {er : Str → Addr} {C : Addr}
theorem en_callX {Ds : List Str} {kinds : Str → List Da} {D : Str} {a : Addr} (hD : D ∈ Ds) (ha : EvA K tr ρ [.adr a]) : EvN K (tCall (spX K er Ds kinds (.ref (er D)) none a) [] E0 tr) ρ (kinds D) :=
  fun F0 H0 σ F H e Q q => ha F0 H0 σ F H e _ fun vs F1 H1 g1 hv => by
    have ev : vs = [.ref a] := by
      cases hv with
      | cons a b =>
        cases b
        cases a
        rfl
    subst ev
    exact ⟨D, hD, rfl, rfl, F1, g1.s, rfl, fun l us F2 H2 g2 hp hf hh hd => q l us F2 H2 (g1.trans g2) (Same.back g1.h hp) hf hh hd⟩
/-- {} -/
theorem ef_emp : EvF K tDNewK ρ .emp := fun F0 H0 σ F H E Q q p hp => q (.ref p) (upd F p (.dK [])) _ (Grow.new E.s hp) (.emp upd_same)
theorem dqa_maps {α : Type} {F : Hp} {f : α → V} {g : α → Da} (h : ∀ a, Dq K F (f a) (g a)) : ∀ l : List α, DqA K F (l.map f) (l.map g)
  | [] => .nil
  | a :: l => .cons (h a) (dqa_maps h l)
/-- list(range(n)) -/
theorem en_listRg {n : Nat} (h : EvF K te ρ (.int n)) (hn : n ≤ 1000000) : EvN K (tLstRg (tRg1 te)) ρ ((List.range n).map fun i : Nat => .int i) := fun F0 H0 σ F H E Q q => h F0 H0 σ F H E _ fun v F1 H1 g1 hd => by
  cases hd
  refine ⟨n, rfl, RgOk.of_le (by omega) (by omega) (by omega) (by omega), fun b hb => q b _ F1 _ (g1.trans (Grow.own g1.s hb)) (Same.back g1.h hb) (Same.back g1.s hb) upd_same ?_⟩
  unfold rgV
  have e : ((n : Int) - 0).toNat = n := by omega
  rw [e]
  refine dqa_maps (fun i => ?_) _
  rw [Int.zero_add]
  exact .int _
/-- f(..) in a try's body, f what a slot holds; an own exception comes and is taken -/
theorem es_tryF {Ds cs : List Str} (hX : ExH K er Ds cs) {C : Str} (hC : C ∈ Ds) {T : Addr → (List Da → Out → Prop) → Prop} {Gr : List Da → Out → Prop} {f : Addr} {ts : Addr → Value → Option Addr → TS} {Wo : WX} (hj : ρ[j]? = some (.d (.adr f))) (hT : T f Gr) (ha : EvA K tr ρ ds) (hG : Gr ds (.e (er C)))
    (hs : ∀ a, EvS K E (ts a (.ref (er C)) none) (ρ.set i (.d (.adr a))) { nx := fun r => D.nx (r.set i .un), rt := D.rt, bk := fun r => D.bk (r.set i .un), ct := fun r => D.ct (r.set i .un) }) :
    EvS K E (fun D' σ H => tDrop (tCallF K j T (wAs K (.ref (er "TowerError")) i ts Wo D') tr) D' σ H) ρ D := fun F0 H0 σ F H e D' a b c d => by
  obtain ⟨o, h1, v, h2, hv0⟩ := e.at_ j _ hj
  subst h2
  cases hv0
  refine ⟨f, Gr, h1, hT, ha F0 H0 σ F H e _ fun vs F1 H1 g1 hv => ⟨F1, ds, .e (er C), g1.s, hv, hG, fun H' s' => ⟨true, hX.m C hC, fun _ x hx => ?_, fun z => by cases z⟩⟩⟩
  have e1 : Hs K F0 H0 σ F1 H1 ρ := e.grow g1
  have g2 : Grow F1 H1 F1 H' := ⟨Same.refl _, s', g1.s.trans s', fun _ h _ => h⟩
  have e2 := e1.grow g2
  refine hs x F0 H0 (σ.set i (some (.ref x))) F1 H' (e2.setD i (.adr x)) _ (fun σ3 F3 H3 ρ3 e3 s3 h3 => ?_) b (fun σ3 F3 H3 ρ3 e3 s3 h3 => ?_) (fun σ3 F3 H3 ρ3 e3 s3 h3 => ?_)
  · exact a _ F3 H3 _ (e3.set i (o := none) (r := .un) trivial fun _ z => by cases z) ((g1.trans g2).f.trans s3) h3
  · exact c _ F3 H3 _ (e3.set i (o := none) (r := .un) trivial fun _ z => by cases z) ((g1.trans g2).f.trans s3) h3
  · exact d _ F3 H3 _ (e3.set i (o := none) (r := .un) trivial fun _ z => by cases z) ((g1.trans g2).f.trans s3) h3
theorem q_tryF {Ds cs : List Str} (hX : ExH K er Ds cs) {C : Str} (hC : C ∈ Ds) {T : Addr → (List Da → Out → Prop) → Prop} {Gr : List Da → Out → Prop} {f : Addr} {ts : Addr → Value → Option Addr → TS} {Wo : WX} (hj : ρ[j]? = some (.d (.adr f))) (hT : T f Gr) (ha : EvA K tr ρ ds) (hG : Gr ds (.e (er C)))
    (hs : ∀ a, EvS K E (ts a (.ref (er C)) none) (ρ.set i (.d (.adr a))) { nx := fun r => EvS K E u (r.set i .un) D, rt := D.rt, bk := fun r => D.bk (r.set i .un), ct := fun r => D.ct (r.set i .un) }) :
    EvS K E (tSeq (fun D' σ H => tDrop (tCallF K j T (wAs K (.ref (er "TowerError")) i ts Wo D') tr) D' σ H) u) ρ D :=
  es_seq (M := fun r => EvS K E u r D) (es_tryF hX hC hj hT ha hG hs) fun _ q => q
/-- range(0, b, c) -/
theorem rgc_of {b c : Int} (hb0 : 0 ≤ b) (hb : b ≤ 100000) (hc0 : 0 < c) (hc : c ≤ 100000) : ∃ n : Nat, n ≤ b.toNat ∧ RgC 0 b c n := by
  have h1 := PyProof.Rows.rangeSize_toNat 0 b c
  have h2 := PyProof.Rows.rangeSize_toNat_le 0 b c
  refine ⟨(Builtin.Range.rangeSize 0 b c).toNat, by omega, by omega, by omega, ?_, h1⟩
  unfold Builtin.Range.small
  simp only [Builtin.Range.rangeFitsLong, Bool.and_eq_true, Bool.or_eq_true, decide_eq_true_eq, beq_iff_eq, show c > 0 from hc0, if_true]
  omega
theorem es_forR3 {b c : Int} {t : TS} (hb0 : 0 ≤ b) (hb : b ≤ 100000) (hc0 : 0 < c) (hc : c ≤ 100000) (h : EvA K tr ρ [.int 0, .int b, .int c]) (Inv : Nat → Rho → Prop) (h0 : Inv 0 ρ)
    (hs : ∀ i ρ', i < b.toNat → Inv i ρ' → EvS K E t (ρ'.set j (.d (.int (0 + (i : Nat) * c)))) { nx := Inv (i + 1), rt := D.rt, bk := D.nx, ct := Inv (i + 1) }) (hd : ∀ i ρ', i ≤ b.toNat → Inv i ρ' → D.nx ρ') : EvS K E (tFor (iRng3 tr) (gName j) t) ρ D := by
  obtain ⟨n, hn, hR⟩ := rgc_of hb0 hb hc0 hc
  exact es_for (js := [j]) (f := fun i r => r.set j (.d (.int (0 + (i : Nat) * c)))) Inv (ei_rng3 h hR) (fun _ _ => go_name) h0 (fun i ρ' hi q => hs i ρ' (by omega) q) fun ρ' q => hd n ρ' hn q
end
end TR

namespace TR
open PySem PySem.Spec PyProof.Rows L2 TM L2H HotX
def top (i : Nat) : Stmt := PySem.Challenge.pw_towerrow_k07_refused.main.body.getD i (.Pass ⟨0, 0, 0, 0⟩)
abbrev s_towers : Stmt := top 1
abbrev n_towers : List Str := ["rule", "many", "found", "disc", "near", "far"]
theorem sc_towers : FnScope n_towers ["rule", "many"] (defScope s_towers) := ⟨rfl, rfl, rfl, by decide +kernel, rfl, by decide +kernel, by decide +kernel⟩
abbrev s_is_near : Stmt := top 2
abbrev n_is_near : List Str := ["rule", "start", "end"]
theorem sc_is_near : FnScope n_is_near ["rule", "start", "end"] (defScope s_is_near) := ⟨rfl, rfl, rfl, by decide +kernel, rfl, by decide +kernel, by decide +kernel⟩
abbrev s_tower : Stmt := top 3
abbrev n_tower : List Str := ["rule", "counts", "start", "end"]
theorem sc_tower : FnScope n_tower ["rule", "counts", "start", "end"] (defScope s_tower) := ⟨rfl, rfl, rfl, by decide +kernel, rfl, by decide +kernel, by decide +kernel⟩
abbrev s_steps_of : Stmt := top 4
abbrev n_steps_of : List Str := ["rule", "start", "end", "middle"]
theorem sc_steps_of : FnScope n_steps_of ["rule", "start", "end"] (defScope s_steps_of) := ⟨rfl, rfl, rfl, by decide +kernel, rfl, by decide +kernel, by decide +kernel⟩
abbrev s_is_whole : Stmt := top 16
abbrev n_is_whole : List Str := ["thing"]
theorem sc_is_whole : FnScope n_is_whole ["thing"] (defScope s_is_whole) := ⟨rfl, rfl, rfl, by decide +kernel, rfl, by decide +kernel, by decide +kernel⟩
abbrev s_is_peg : Stmt := top 17
abbrev n_is_peg : List Str := ["thing"]
theorem sc_is_peg : FnScope n_is_peg ["thing"] (defScope s_is_peg) := ⟨rfl, rfl, rfl, by decide +kernel, rfl, by decide +kernel, by decide +kernel⟩
abbrev s_check_rule : Stmt := top 18
abbrev n_check_rule : List Str := ["rule"]
theorem sc_check_rule : FnScope n_check_rule ["rule"] (defScope s_check_rule) := ⟨rfl, rfl, rfl, by decide +kernel, rfl, by decide +kernel, by decide +kernel⟩
abbrev s_check_state : Stmt := top 19
abbrev n_check_state : List Str := ["state", "peg"]
theorem sc_check_state : FnScope n_check_state ["state"] (defScope s_check_state) := ⟨rfl, rfl, rfl, by decide +kernel, rfl, by decide +kernel, by decide +kernel⟩
abbrev s_check_peg : Stmt := top 20
abbrev n_check_peg : List Str := ["peg"]
theorem sc_check_peg : FnScope n_check_peg ["peg"] (defScope s_check_peg) := ⟨rfl, rfl, rfl, by decide +kernel, rfl, by decide +kernel, by decide +kernel⟩
abbrev s_is_allowed : Stmt := top 21
abbrev n_is_allowed : List Str := ["rule", "start", "end"]
theorem sc_is_allowed : FnScope n_is_allowed ["rule", "start", "end"] (defScope s_is_allowed) := ⟨rfl, rfl, rfl, by decide +kernel, rfl, by decide +kernel, by decide +kernel⟩
abbrev s_moves_of : Stmt := top 22
abbrev n_moves_of : List Str := ["rule", "state", "found", "covered", "disc", "peg", "end"]
theorem sc_moves_of : FnScope n_moves_of ["rule", "state"] (defScope s_moves_of) := ⟨rfl, rfl, rfl, by decide +kernel, rfl, by decide +kernel, by decide +kernel⟩
abbrev s_moves : Stmt := top 23
abbrev n_moves : List Str := ["rule", "state"]
theorem sc_moves : FnScope n_moves ["rule", "state"] (defScope s_moves) := ⟨rfl, rfl, rfl, by decide +kernel, rfl, by decide +kernel, by decide +kernel⟩
abbrev s_is_move : Stmt := top 24
abbrev n_is_move : List Str := ["thing"]
theorem sc_is_move : FnScope n_is_move ["thing"] (defScope s_is_move) := ⟨rfl, rfl, rfl, by decide +kernel, rfl, by decide +kernel, by decide +kernel⟩
abbrev s_done : Stmt := top 25
abbrev n_done : List Str := ["rule", "state", "some", "found", "move"]
theorem sc_done : FnScope n_done ["rule", "state", "some"] (defScope s_done) := ⟨rfl, rfl, rfl, by decide +kernel, rfl, by decide +kernel, by decide +kernel⟩
abbrev s_goals_of : Stmt := top 27
abbrev n_goals_of : List Str := ["rule", "state", "peg", "goals", "goal", "start", "steps"]
theorem sc_goals_of : FnScope n_goals_of ["rule", "state", "peg"] (defScope s_goals_of) := ⟨rfl, rfl, rfl, by decide +kernel, rfl, by decide +kernel, by decide +kernel⟩
abbrev s_left_of : Stmt := top 28
abbrev n_left_of : List Str := ["rule", "state", "peg", "table", "goals", "total", "disc", "start"]
theorem sc_left_of : FnScope n_left_of ["rule", "state", "peg", "table"] (defScope s_left_of) := ⟨rfl, rfl, rfl, by decide +kernel, rfl, by decide +kernel, by decide +kernel⟩
abbrev s_behind_first : Stmt := top 29
abbrev n_behind_first : List Str := ["rule", "start", "end", "ahead", "steps", "total", "lesser", "step_start", "step_end", "third"]
theorem sc_behind_first : FnScope n_behind_first ["rule", "start", "end", "ahead"] (defScope s_behind_first) := ⟨rfl, rfl, rfl, by decide +kernel, rfl, by decide +kernel, by decide +kernel⟩
abbrev s_left : Stmt := top 30
abbrev n_left : List Str := ["rule", "state", "peg"]
theorem sc_left : FnScope n_left ["rule", "state", "peg"] (defScope s_left) := ⟨rfl, rfl, rfl, by decide +kernel, rfl, by decide +kernel, by decide +kernel⟩
abbrev s_next_move : Stmt := top 31
abbrev n_next_move : List Str := ["rule", "state", "peg", "goals", "disc", "start", "steps"]
theorem sc_next_move : FnScope n_next_move ["rule", "state", "peg"] (defScope s_next_move) := ⟨rfl, rfl, rfl, by decide +kernel, rfl, by decide +kernel, by decide +kernel⟩
abbrev s_gone : Stmt := top 32
abbrev n_gone : List Str := ["rule", "steps", "ahead", "lesser", "number", "place", "step_start", "step_end", "third", "wait"]
theorem sc_gone : FnScope n_gone ["rule", "steps", "ahead", "lesser", "number"] (defScope s_gone) := ⟨rfl, rfl, rfl, by decide +kernel, rfl, by decide +kernel, by decide +kernel⟩
abbrev s_tower_behind : Stmt := top 33
abbrev n_tower_behind : List Str := ["rule", "many", "start", "goal", "number", "table", "found", "disc", "steps", "place", "wait"]
theorem sc_tower_behind : FnScope n_tower_behind ["rule", "many", "start", "goal", "number", "table"] (defScope s_tower_behind) := ⟨rfl, rfl, rfl, by decide +kernel, rfl, by decide +kernel, by decide +kernel⟩
abbrev s_led : Stmt := top 34
abbrev n_led : List Str := ["rule", "state", "peg", "number", "table", "goals", "sums", "disc", "start", "found", "steps", "third", "place", "lesser", "goal", "wait"]
theorem sc_led : FnScope n_led ["rule", "state", "peg", "number", "table"] (defScope s_led) := ⟨rfl, rfl, rfl, by decide +kernel, rfl, by decide +kernel, by decide +kernel⟩
abbrev s_behind : Stmt := top 35
abbrev n_behind : List Str := ["rule", "state", "peg", "number", "table"]
theorem sc_behind : FnScope n_behind ["rule", "state", "peg", "number"] (defScope s_behind) := ⟨rfl, rfl, rfl, by decide +kernel, rfl, by decide +kernel, by decide +kernel⟩
abbrev s_number_by_line : Stmt := top 37
abbrev n_number_by_line : List Str := ["state", "found", "odd", "peg"]
theorem sc_number_by_line : FnScope n_number_by_line ["state"] (defScope s_number_by_line) := ⟨rfl, rfl, rfl, by decide +kernel, rfl, by decide +kernel, by decide +kernel⟩
abbrev s_number_of : Stmt := top 38
abbrev n_number_of : List Str := ["state"]
theorem sc_number_of : FnScope n_number_of ["state"] (defScope s_number_of) := ⟨rfl, rfl, rfl, by decide +kernel, rfl, by decide +kernel, by decide +kernel⟩
abbrev s_state_of : Stmt := top 39
abbrev n_state_of : List Str := ["discs", "number", "figures", "disc", "found", "odd", "figure", "peg"]
theorem sc_state_of : FnScope n_state_of ["discs", "number"] (defScope s_state_of) := ⟨rfl, rfl, rfl, by decide +kernel, rfl, by decide +kernel, by decide +kernel⟩
abbrev s_apart_free : Stmt := top 40
abbrev n_apart_free : List Str := ["one", "other", "many", "table", "start", "end", "third", "here", "there", "once", "twice"]
theorem sc_apart_free : FnScope n_apart_free ["one", "other"] (defScope s_apart_free) := ⟨rfl, rfl, rfl, by decide +kernel, rfl, by decide +kernel, by decide +kernel⟩
abbrev s_apart : Stmt := top 41
abbrev n_apart : List Str := ["rule", "one", "other"]
theorem sc_apart : FnScope n_apart ["rule", "one", "other"] (defScope s_apart) := ⟨rfl, rfl, rfl, by decide +kernel, rfl, by decide +kernel, by decide +kernel⟩
abbrev s_written : Stmt := top 43
abbrev n_written : List Str := ["state", "peg"]
theorem sc_written : FnScope n_written ["state"] (defScope s_written) := ⟨rfl, rfl, rfl, by decide +kernel, rfl, by decide +kernel, by decide +kernel⟩
abbrev s__law_cell_at : Stmt := top 45
abbrev n__law_cell_at : List Str := ["_law_script", "_law_k"]
theorem sc__law_cell_at : FnScope n__law_cell_at ["_law_script", "_law_k"] (defScope s__law_cell_at) := ⟨rfl, rfl, rfl, by decide +kernel, rfl, by decide +kernel, by decide +kernel⟩
abbrev s__law_draw : Stmt := top 46
abbrev n__law_draw : List Str := ["_law_cell", "_law_k", "_law_many", "_law_primes"]
theorem sc__law_draw : FnScope n__law_draw ["_law_cell", "_law_k", "_law_many"] (defScope s__law_draw) := ⟨rfl, rfl, rfl, by decide +kernel, rfl, by decide +kernel, by decide +kernel⟩
abbrev s__law_state : Stmt := top 47
abbrev n__law_state : List Str := ["_law_script", "_law_by", "_law_kind", "_law_found", "_law_k", "_law_peg"]
theorem sc__law_state : FnScope n__law_state ["_law_script", "_law_by"] (defScope s__law_state) := ⟨rfl, rfl, rfl, by decide +kernel, rfl, by decide +kernel, by decide +kernel⟩
abbrev s__law_rule : Stmt := top 48
abbrev n__law_rule : List Str := ["_law_script", "_law_k"]
theorem sc__law_rule : FnScope n__law_rule ["_law_script", "_law_k"] (defScope s__law_rule) := ⟨rfl, rfl, rfl, by decide +kernel, rfl, by decide +kernel, by decide +kernel⟩
abbrev s__law_behind : Stmt := top 49
abbrev n__law_behind : List Str := ["_law_rule_here", "_law_state_here", "_law_found", "_law_covered", "_law_disc", "_law_start", "_law_peg", "_law_good"]
theorem sc__law_behind : FnScope n__law_behind ["_law_rule_here", "_law_state_here"] (defScope s__law_behind) := ⟨rfl, rfl, rfl, by decide +kernel, rfl, by decide +kernel, by decide +kernel⟩
abbrev s__law_whole : Stmt := top 50
abbrev n__law_whole : List Str := ["_law_number"]
theorem sc__law_whole : FnScope n__law_whole ["_law_number"] (defScope s__law_whole) := ⟨rfl, rfl, rfl, by decide +kernel, rfl, by decide +kernel, by decide +kernel⟩
abbrev s__law_kinds : Stmt := top 51
abbrev n__law_kinds : List Str := ["_law_error", "_law_found"]
theorem sc__law_kinds : FnScope n__law_kinds ["_law_error"] (defScope s__law_kinds) := ⟨rfl, rfl, rfl, by decide +kernel, rfl, by decide +kernel, by decide +kernel⟩
abbrev s__law_with_rule : Stmt := top 52
abbrev n__law_with_rule : List Str := ["_law_door", "_law_rule_here"]
theorem sc__law_with_rule : FnScope n__law_with_rule ["_law_door", "_law_rule_here"] (defScope s__law_with_rule) := ⟨rfl, rfl, rfl, by decide +kernel, rfl, by decide +kernel, by decide +kernel⟩
abbrev s__law_with_state : Stmt := top 53
abbrev n__law_with_state : List Str := ["_law_door", "_law_state_here"]
theorem sc__law_with_state : FnScope n__law_with_state ["_law_door", "_law_state_here"] (defScope s__law_with_state) := ⟨rfl, rfl, rfl, by decide +kernel, rfl, by decide +kernel, by decide +kernel⟩
abbrev s__law_with_peg : Stmt := top 54
abbrev n__law_with_peg : List Str := ["_law_door", "_law_peg"]
theorem sc__law_with_peg : FnScope n__law_with_peg ["_law_door", "_law_peg"] (defScope s__law_with_peg) := ⟨rfl, rfl, rfl, by decide +kernel, rfl, by decide +kernel, by decide +kernel⟩
abbrev s__law_with_moves : Stmt := top 55
abbrev n__law_with_moves : List Str := ["_law_door", "_law_some"]
theorem sc__law_with_moves : FnScope n__law_with_moves ["_law_door", "_law_some"] (defScope s__law_with_moves) := ⟨rfl, rfl, rfl, by decide +kernel, rfl, by decide +kernel, by decide +kernel⟩
abbrev s__law_with_number : Stmt := top 56
abbrev n__law_with_number : List Str := ["_law_state_here", "_law_number"]
theorem sc__law_with_number : FnScope n__law_with_number ["_law_state_here", "_law_number"] (defScope s__law_with_number) := ⟨rfl, rfl, rfl, by decide +kernel, rfl, by decide +kernel, by decide +kernel⟩
abbrev s__law_discs : Stmt := top 57
abbrev n__law_discs : List Str := ["_law_discs_here", "_law_number"]
theorem sc__law_discs : FnScope n__law_discs ["_law_discs_here", "_law_number"] (defScope s__law_discs) := ⟨rfl, rfl, rfl, by decide +kernel, rfl, by decide +kernel, by decide +kernel⟩
abbrev s__law_two : Stmt := top 58
abbrev n__law_two : List Str := ["_law_one", "_law_other"]
theorem sc__law_two : FnScope n__law_two ["_law_one", "_law_other"] (defScope s__law_two) := ⟨rfl, rfl, rfl, by decide +kernel, rfl, by decide +kernel, by decide +kernel⟩
abbrev s__law_told : Stmt := top 59
abbrev n__law_told : List Str := ["_law_ask", "_law_one", "_law_other", "_law_error"]
theorem sc__law_told : FnScope n__law_told ["_law_ask", "_law_one", "_law_other"] (defScope s__law_told) := ⟨rfl, rfl, rfl, by decide +kernel, rfl, by decide +kernel, by decide +kernel⟩
abbrev s__law_all : Stmt := top 60
abbrev n__law_all : List Str := ["_law_ask", "_law_doors", "_law_things", "_law_due", "_law_door", "_law_thing"]
theorem sc__law_all : FnScope n__law_all ["_law_ask", "_law_doors", "_law_things", "_law_due"] (defScope s__law_all) := ⟨rfl, rfl, rfl, by decide +kernel, rfl, by decide +kernel, by decide +kernel⟩
abbrev s__law_numbers_right : Stmt := top 61
abbrev n__law_numbers_right : List Str := ["_law_state_here", "_law_due", "_law_far", "_law_many", "_law_whole_here", "_law_peg"]
theorem sc__law_numbers_right : FnScope n__law_numbers_right ["_law_state_here", "_law_due", "_law_far"] (defScope s__law_numbers_right) := ⟨rfl, rfl, rfl, by decide +kernel, rfl, by decide +kernel, by decide +kernel⟩
abbrev s_law : Stmt := top 62
abbrev n_law : List Str := ["_law_script", "_law_far", "_law_due", "_law_k", "_law_state_here", "_law_many", "_law_kept", "_law_rules", "_law_bad", "_law_at", "_law_some"]
theorem sc_law : FnScope n_law ["_law_script"] (defScope s_law) := ⟨rfl, rfl, rfl, by decide +kernel, rfl, by decide +kernel, by decide +kernel⟩
abbrev FnP (K : PySem.W.Frag) (x : Str) (st : Stmt) (f : Addr) (fd : FuncData) : Prop := FunD K x x (defArgs st) (defBody st) (defScope st) [] [] f fd
structure Glb (mg : Str → Option Value) : Prop where
  b_range : mg "range" = none
  b_abs : mg "abs" = none
  b_isinstance : mg "isinstance" = none
  b_int : mg "int" = none
  b_bool : mg "bool" = none
  b_str : mg "str" = none
  b_list : mg "list" = none
  b_all : mg "all" = none
  b_enumerate : mg "enumerate" = none
  b_tuple : mg "tuple" = none
  b_len : mg "len" = none
  b_reversed : mg "reversed" = none
  b_min : mg "min" = none
  b_ValueError : mg "ValueError" = none
local macro_rules | `(tactic| walk_at "rv") => `(tactic| with_reducible first
  | exact rv_add | exact rv_sub | exact rv_lt | exact rv_le | exact rv_gt | exact rv_ge
  | exact rv_eqi | exact rv_nei | exact rv_eqs | exact rv_nes | exact rv_eqb | exact rv_neb
  | exact rv_mul (cmul_l (by decide)) | exact rv_mul (cmul_r (by decide))
  | exact rv_fdv (cdiv_of (by decide) (by decide)) | exact rv_mod (by decide) | exact rv_inI | exact rv_niI | exact rv_inC)
local macro_rules | `(tactic| walk_at "ev") => `(tactic| first
  | ((with_reducible apply ef_var); rfl) | with_reducible exact ef_int | with_reducible exact ef_str | with_reducible exact ef_bl | with_reducible exact ef_non | with_reducible exact ef_ty | ((with_reducible apply ef_varl); rfl)
  | with_reducible exact ea_nil | ((with_reducible apply ea_cons); (walk_at "ev"); (walk_at "ev"))
  | ((with_reducible apply ef_binD); (walk_at "evd"); (walk_at "evd"); (walk_at "rv"))
  | ((with_reducible apply ef_neg); walk_at "ev")
  | ((with_reducible apply ef_tup); (walk_at "ev"); exact Nat.le_of_ble_eq_true rfl)
  | ((with_reducible apply et_val); walk_at "ev") | ((with_reducible apply et_test); walk_at "ev")
  | ((with_reducible apply et_not); walk_at "ev")
  | ((with_reducible apply et_and); (walk_at "ev"); intro _; (walk_at "ev")) | ((with_reducible apply et_or); (walk_at "ev"); intro _; (walk_at "ev"))
  | ((with_reducible apply ef_andV); (walk_at "ev"); intro _; (walk_at "ev")) | ((with_reducible apply ef_orV); (walk_at "ev"); intro _; (walk_at "ev")) | ((with_reducible apply ef_notV); walk_at "ev")
  | ((with_reducible apply ef_abs); walk_at "ev") | ((with_reducible apply ef_max); walk_at "ev") | ((with_reducible apply ef_min); walk_at "ev")
  | ((with_reducible apply ef_chain); (walk_at "ev"); (walk_at "ev"); (walk_at "rv"); (intro _; walk_at "ev"); (intro _; walk_at "rv"))
  | with_reducible exact eo_none | ((with_reducible apply eo_some); walk_at "ev")
  | ((with_reducible apply en_lst); (walk_at "ev"); exact Nat.le_of_ble_eq_true rfl)
  | ((with_reducible apply en_rev); walk_at "evm")
  | ((with_reducible apply en_list); walk_at "evm")
  | ((with_reducible apply en_sl); (walk_at "evm"); (walk_at "ev"); (walk_at "ev"))
  | ((with_reducible apply ef_lenM); walk_at "evm") | ((with_reducible apply ef_lenT); walk_at "ev")
  | ((with_reducible apply ef_call); (walk_at "ev"); (walk_at "gr"))
  | ((with_reducible apply en_call); (walk_at "ev"); (walk_at "gr"))
  | ((with_reducible apply EvN.f); walk_at "ev"))
local macro_rules | `(tactic| walk_at "evp") => `(tactic| first
  | ((with_reducible apply ep_varm); rfl) | ((with_reducible apply ep_varl); rfl) | ((with_reducible apply EvN.p); walk_at "ev"))
local macro_rules | `(tactic| walk_at "evm") => `(tactic| first
  | ((with_reducible apply EvP.m); walk_at "evp") | ((with_reducible apply EvF.m); walk_at "ev"))
local macro_rules | `(tactic| walk_at "evd") => `(tactic| first
  | ((with_reducible apply EvF.now); walk_at "ev") | ((with_reducible apply EvM.now); walk_at "evm"))
local macro_rules | `(tactic| walk_at "gr") => `(tactic| first
  | (constructor; done) | (constructor <;> first | assumption | omega))
local macro_rules | `(tactic| walk_at "nm") => `(tactic| try (conv => arg 4; simp only [rho0, List.set_cons_zero, List.set_cons_succ]))
local macro_rules | `(tactic| walk_at "st1") => `(tactic| first
  | (with_reducible apply q_assoc) | (with_reducible apply q_next)
  | ((with_reducible apply q_asg); (walk_at "ev")) | ((with_reducible apply q_par3); (walk_at "ev")) | ((with_reducible apply q_par2); (walk_at "ev")) | (with_reducible apply q_parNN (by decide))
  | ((with_reducible apply q_aug); rfl; (walk_at "ev"))
  | ((with_reducible apply q_retM); rfl) | ((with_reducible apply q_retN); (walk_at "ev")) | ((with_reducible apply q_ret); (walk_at "ev"))
  | ((with_reducible apply q_drop); (walk_at "ev")))
local macro_rules | `(tactic| walk_at "st") => `(tactic| ((walk_at "nm"); (first | walk_at "st1" | (apply es_last; walk_at "st1")); (walk_at "nm")))
local macro_rules | `(tactic| walk_at "evr") => `(tactic| ((with_reducible apply EvF.is); (walk_at "ev"); rfl))

abbrev dsX : List Str := ["BadRule", "BadState", "BadPeg", "BadMove", "BadNumber", "Unlike"]
abbrev csX : List Str := ["TowerError", "BadRule", "BadState", "BadPeg", "BadMove", "BadNumber", "Unlike", "BadText"]
abbrev kB (D c : Str) : Da := .bl (decide (c = D) || decide (c = "TowerError"))
abbrev kindsL (D : Str) : List Da := [kB D "BadRule", kB D "BadState", kB D "BadPeg", kB D "BadMove", kB D "BadNumber", kB D "Unlike", kB D "BadText", .bl true]
theorem okD_kinds (D : Str) : okD 58 (.lst (kindsL D)) := fun x hx => by
  simp only [List.mem_cons, List.not_mem_nil, or_false] at hx
  rcases hx with rfl | rfl | rfl | rfl | rfl | rfl | rfl | rfl <;> trivial
theorem eqD_kinds (D : Str) : eqD (.lst (kindsL D)) (.lst (kindsL D)) = true := by
  unfold eqD
  simp only [Da.py, Da.pys, PyData.eqv, PyData.eqvAll, Bool.and_true, beq_self_eq_true, Bool.and_self]
theorem rv_eqK {K : PySem.W.Frag} {D : Str} : RvD K (rEq2 K) (.lst (kindsL D)) (.lst (kindsL D)) (.bl true) := by
  rw [← eqD_kinds D]
  exact rv_eqd 58 58 (okD_kinds D) (okD_kinds D) (by decide) (by decide)
abbrev dueL : List Da := dsX.map fun D => .lst (kindsL D)
theorem rv_neK {K : PySem.W.Frag} {D : Str} : RvD K (rNe2 K) (.lst (kindsL D)) (.lst (kindsL D)) (.bl false) := by
  have h := rv_ned (K := K) 58 58 (okD_kinds D) (okD_kinds D) (by decide) (by decide)
  rw [eqD_kinds D] at h
  exact h
def hasB : Da → Bool
  | .adr _ => false
  | .ty _ => false
  | _ => true
theorem hasB_ok {x : Da} (h : hasB x = true) : hasTy x := by cases x <;> first | trivial | cases h
def tyB : Da → Bool
  | .tup xs => xs.all hasB
  | x => hasB x
theorem tyB_ok {x : Da} (h : tyB x = true) : tyMv x := by
  cases x with
  | tup xs => exact fun y hy => hasB_ok (List.all_eq_true.mp h y hy)
  | adr a => cases h
  | ty n => cases h
  | _ => trivial
theorem tysB {ms : List Da} (h : ms.all tyB = true) : ∀ x ∈ ms, tyMv x := fun x hx => tyB_ok (List.all_eq_true.mp h x hx)
theorem cut_to' {α : Type} (l : List α) (d : Nat) : cutD l none (some (d : Int)) = l.take d := by
  by_cases h : d ≤ l.length
  · exact cut_to l d h
  · unfold cutD
    rw [HT.sIx_none, HT.sIx_nat, List.drop_zero, Nat.sub_zero, Nat.min_eq_right (by omega), List.take_of_length_le (Nat.le_refl _), List.take_of_length_le (by omega)]
def kindB (D : Str) : List Bool :=
  [decide (("BadRule" : Str) = D) || decide (("BadRule" : Str) = "TowerError"),
   decide (("BadState" : Str) = D) || decide (("BadState" : Str) = "TowerError"),
   decide (("BadPeg" : Str) = D) || decide (("BadPeg" : Str) = "TowerError"),
   decide (("BadMove" : Str) = D) || decide (("BadMove" : Str) = "TowerError"),
   decide (("BadNumber" : Str) = D) || decide (("BadNumber" : Str) = "TowerError"),
   decide (("Unlike" : Str) = D) || decide (("Unlike" : Str) = "TowerError"),
   decide (("BadText" : Str) = D) || decide (("BadText" : Str) = "TowerError"),
   true]
theorem kindB_L (D : Str) : (kindB D).map Da.bl = kindsL D := rfl
theorem due_rowB : ∀ i : Nat, i < 6 → ([decide ((i : Int) = 0), decide ((i : Int) = 1), decide ((i : Int) = 2), decide ((i : Int) = 3), decide ((i : Int) = 4), decide ((i : Int) = 5), false, true] : List Bool) = kindB (dsX.getD i "") := by decide +kernel
theorem due_row (i : Nat) (hi : i < 6) : Da.lst [.bl (decide ((i : Int) = 0)), .bl (decide ((i : Int) = 1)), .bl (decide ((i : Int) = 2)), .bl (decide ((i : Int) = 3)), .bl (decide ((i : Int) = 4)), .bl (decide ((i : Int) = 5)), .bl false, .bl true] = .lst (kindsL (dsX.getD i "")) := by
  rw [← kindB_L, ← due_rowB i hi]
  rfl
theorem due_take (i : Nat) (hi : i < 6) : dueL.take i ++ [.lst (kindsL (dsX.getD i ""))] = dueL.take (i + 1) := by
  rcases i with _ | _ | _ | _ | _ | _ | i
  · rfl
  · rfl
  · rfl
  · rfl
  · rfl
  · rfl
  · omega
abbrev badR : List Da :=
  [.non,
   .int 5,
   .str "",
   .str "Free",
   .str "frei",
   .lst [.str "free"],
   .bl true,
   .str "free ",
   .tup [.str "line"]]
def isPd (i : Int) : Bool := decide (0 ≤ i) && decide (i ≤ 2)
theorem isP_far (i : Int) (h : i < 0 ∨ 2 < i) : isPd i = false := by
  unfold isPd
  rcases h with h | h
  · rw [decide_eq_false (show ¬ (0 : Int) ≤ i by omega)]
    rfl
  · rw [decide_eq_false (show ¬ i ≤ 2 by omega), Bool.and_false]
abbrev badS (far : Nat) : List Da :=
  [.non,
   .tup [],
   .tup [.int 0],
   .str "0",
   .emp,
   .int 0,
   .lst [.non],
   .lst [.str "0"],
   .lst [.bl true],
   .lst [.int 3],
   .lst [.int (3 + far)],
   .lst [.int (-1)],
   .lst [.int (-1 - far)],
   .lst [.lst [.int 0]],
   .lst [.int 0, .int 0, .int 3]]
abbrev badT (far : Nat) : List Da :=
  [.non,
   .str "1",
   .bl true,
   .int (3 + far),
   .int (-1)]
abbrev badP (far : Nat) : List Da :=
  [.non,
   .str "0",
   .bl true,
   .int 3,
   .int (3 + far),
   .int (-1),
   .int (-1 - far),
   .lst [.int 0]]
abbrev tI (a b : Int) : Da := .tup [.int a, .int b]
abbrev badM : List Da :=
  [.non,
   .tup [],
   .str "",
   .int 5,
   .lst [.non],
   .lst [.int 5],
   .lst [.tup []],
   .lst [.tup [.int 0]],
   .lst [.tup [.int 0, .int 1, .int 1]],
   .lst [tI 1 1],
   .lst [tI 0 0],
   .lst [tI 0 3],
   .lst [tI 2 1],
   .lst [.lst [.int 0, .int 1]]]
abbrev badN (far : Nat) : List Da :=
  [.lst [.tup [.int 0, .bl true]],
   .lst [.tup [.bl false, .int 1]],
   .lst [.tup [.str "0", .int 1]],
   .lst [tI 0 1, tI 1 1],
   .lst [tI (2 + far) 1],
   .lst [tI 0 (3 + far)]]

section
variable {P : Program} {w : World} {K : PySem.W.Frag} {mg : Str → Option Value} {base : Heap} {er : Str → Addr}
abbrev tbL (r : Ru) (n : Nat) : List Da := (List.range (n + 1)).map fun i => twD (tw r i)
theorem tbL_len (r : Ru) (n : Nat) : (tbL r n).length = n + 1 := by rw [List.length_map, List.length_range]
theorem tbL_last (r : Ru) (n : Nat) : atI (tbL r n) (-1) = some (twD (tw r n)) := by
  unfold tbL
  rw [List.range_succ, List.map_append]
  exact atI_last _ _
theorem tbL_succ (r : Ru) (n : Nat) : tbL r n ++ [twD (tw r (n + 1))] = tbL r (n + 1) := by
  unfold tbL
  rw [List.range_succ (n := n + 1), List.map_append]
  rfl
theorem tbL_at (r : Ru) {n i : Nat} (h : i ≤ n) : atI (tbL r n) (i : Int) = some (twD (tw r i)) := by
  refine atI_nat ?_
  unfold tbL
  rw [List.getElem?_map, List.getElem?_range (by omega)]
  rfl
inductive gr_towers (er : Str → Addr) : List Da → Out → Prop
  | mk (r : Ru) (n : Nat) (h : n ≤ 1000) : gr_towers er [ruD r, nD n] (.n (tbL r n))

theorem cal_towers {f : Addr} {fd : FuncData} (F : FnP K "towers" s_towers f fd) (hm : mg "towers" = some (.ref f)) (G : Glb mg) :
    Cal P w K mg base 1 "towers" ["rule", "many"] (gr_towers er) := by
  have hb : Binds K fd ["rule", "many"] [] := F.bindsN fun _ _ _ _ _ _ us hl => match us, hl with | [_, _], _ => rfl
  refine cal_of (n := 6) F sc_towers hm hb rfl (by rintro ds r h; cases h <;> rfl) (fun cdv A outer s H E hr => ⟨_, (pss_cons (ps_set (i := 2) sc_towers.nd rfl (Or.inl rfl) (pe_lst (pa_cons (pe_tup (pa_cons pe_int (pa_cons pe_int pa_nil))) pa_nil)))
      (pss_cons (ps_for loops_on rfl (pi_range1 rfl G.b_range (pa_cons (pv 1) pa_nil)) (pg_name (i := 3) sc_towers.nd rfl (Or.inl rfl)) (pss_cons (ps_asg (pe_ix (ixK (K := K) rfl) (pv 2) (pe_un un_neg pe_int) (fun _ _ => rfl)) (tupPG (K := K) rfl (pg_tup (n := 2) rfl (pgs_cons (pg_name (i := 4) sc_towers.nd rfl (Or.inl rfl)) (pgs_cons (pg_name (i := 5) sc_towers.nd rfl (Or.inl rfl)) pgs_nil)))))
      (pss_one (ps_if (pt_cmpR (opEq (K := K) hr rfl) (pv 0) pe_str (nomark _)) (pss_one (ps_expr (appPE (K := K) rfl (pe_bm PySem.F.plainAttrs_list PySem.F.slot_list_append PySem.F.type_list_append mt_append (pv 2) (pa_cons (pe_tup (pa_cons (pe_op opAdd (pe_op opMul pe_int (pv 4)) pe_int) (pa_cons (pe_op opAdd (pe_op opMul pe_int (pv 4)) pe_int) pa_nil))) pa_nil))))) (pss_one (ps_if (pt_cmpR (opEq (K := K) hr rfl) (pv 0) pe_str (nomark _)) (pss_one (ps_expr (appPE (K := K) rfl (pe_bm PySem.F.plainAttrs_list PySem.F.slot_list_append PySem.F.type_list_append mt_append (pv 2) (pa_cons (pe_tup (pa_cons (pe_op opAdd (pe_op opAdd (pv 5) pe_int) (pv 4)) (pa_cons (pe_op opAdd (pe_op opMul pe_int (pv 5)) pe_int) pa_nil))) pa_nil))))) (pss_one (ps_expr (appPE (K := K) rfl (pe_bm PySem.F.plainAttrs_list PySem.F.slot_list_append PySem.F.type_list_append mt_append (pv 2) (pa_cons (pe_tup (pa_cons (pe_op opAdd (pe_op opMul pe_int (pv 5)) pe_int) (pa_cons (pe_op opAdd (pe_op opAdd (pe_op opMul pe_int (pv 5)) pe_int) (pv 4)) pa_nil))) pa_nil)))))))))))
      (pss_one (ps_ret (pv 2))))), ?_⟩)
  rintro ds o ⟨r, n, hn⟩
  apply q_asgN (xs := tbL r 0)
  · exact EvN.is (xs := [.tup [.int 0, .int 0]]) (by walk_at "ev") rfl
  apply q_mid (fun ρ => ∃ a b c, ρ = [.d (ruD r), .d (nD n), .m (tbL r n), a, b, c])
  · refine es_forR (n := n) (Inv := fun i ρ => ∃ a b c, ρ = [.d (ruD r), .d (nD n), .m (tbL r i), a, b, c]) (by walk_at "ev") (by omega) ⟨_, _, _, rfl⟩ ?_ (fun ρ' h => h)
    rintro i ρ' hi ⟨a, b, c, rfl⟩
    apply q_tup (go_tup2 (x := nD (tw r i).1) (y := nD (tw r i).2))
    · exact ef_binM (by walk_at "evm") (by walk_at "ev") (rm_ix (tbL_last r i))
    have hl : (tbL r i).length < 1000000 := by rw [tbL_len]; omega
    have fin : ∀ x y : Nat, (x, y) = tw r (i + 1) → tbL r i ++ [Da.tup [.int (x : Int), .int (y : Int)]] = tbL r (i + 1) := fun x y h => by
      rw [← tbL_succ, ← h]
    apply es_last
    apply q_if
    · walk_at "ev"
    · intro h1
      rw [ruS_free, decide_eq_true_eq] at h1
      subst h1
      apply q_app rfl (x := twD (2 * (tw .free i).1 + 1, 2 * (tw .free i).1 + 1))
      · exact EvF.is (by walk_at "ev") (by simp [nD])
      · exact hl
      · exact q_end ⟨_, _, _, congrArg (fun z => [_, _, Sl.m z, _, _, _]) (fin _ _ rfl)⟩
    · intro h1
      rw [ruS_free, decide_eq_false_iff_not] at h1
      apply q_if
      · walk_at "ev"
      · intro h2
        rw [ruS_line, decide_eq_true_eq] at h2
        subst h2
        apply q_app rfl (x := twD ((tw .line i).2 + 1 + (tw .line i).1, 3 * (tw .line i).2 + 2))
        · exact EvF.is (by walk_at "ev") (by simp [nD])
        · exact hl
        · exact q_end ⟨_, _, _, congrArg (fun z => [_, _, Sl.m z, _, _, _]) (fin _ _ rfl)⟩
      · intro h2
        rw [ruS_line, decide_eq_false_iff_not] at h2
        have h3 : r = .round := by cases r <;> simp_all
        subst h3
        apply q_app rfl (x := twD (2 * (tw .round i).2 + 1, 2 * (tw .round i).2 + 2 + (tw .round i).1))
        · exact EvF.is (by walk_at "ev") (by simp [nD])
        · exact hl
        · exact q_end ⟨_, _, _, congrArg (fun z => [_, _, Sl.m z, _, _, _]) (fin _ _ rfl)⟩
  · rintro ρ' ⟨a, b, c, rfl⟩
    walk_at "st"
    rfl


theorem near_else (r : Ru) : ∀ a b : Pg, decide (ruS r = ("line" : Str)) = false → (decide (ruS r = ("free" : Str)) || decide ((b.val : Int) = ((a.val : Int) + 1) % 3)) = near r a b := by cases r <;> decide
inductive gr_is_near (er : Str → Addr) : List Da → Out → Prop
  | mk (r : Ru) (a b : Pg) : gr_is_near er [ruD r, pD a, pD b] (.f (.bl (near r a b)))

theorem cal_is_near {f : Addr} {fd : FuncData} (F : FnP K "is_near" s_is_near f fd) (hm : mg "is_near" = some (.ref f)) (G : Glb mg) :
    Cal P w K mg base 1 "is_near" ["rule", "start", "end"] (gr_is_near er) := by
  have hb : Binds K fd ["rule", "start", "end"] [] := F.bindsN fun _ _ _ _ _ _ us hl => match us, hl with | [_, _, _], _ => rfl
  refine cal_of (n := 3) F sc_is_near hm hb rfl (by rintro ds r h; cases h <;> rfl) (fun cdv A outer s H E hr => ⟨_, (pss_cons (ps_if (pt_cmpR (opEq (K := K) hr rfl) (pv 0) pe_str (nomark _)) (pss_one (ps_ret (pe_cmpR (opEq (K := K) hr rfl) (pe_callB call_abs (by rfl) G.b_abs (by decide +kernel) (pa_cons (pe_op op_sub (pv 1) (pv 2)) pa_nil)) pe_int (nomark _)))) pss_nil)
      (pss_one (ps_ret (pe_or (pe_cmpR (opEq (K := K) hr rfl) (pv 0) pe_str (nomark _)) (pe_one (pe_cmpR (opEq (K := K) hr rfl) (pv 2) (pe_op op_mod (pe_op opAdd (pv 1) pe_int) pe_int) (nomark _))))))), ?_⟩)
  rintro ds o ⟨r, a, b⟩
  apply q_if
  · walk_at "ev"
  · intro h1
    walk_at "st"
    rw [ruS_line, decide_eq_true_eq] at h1
    subst h1
    exact congrArg (fun z => Out.f (.bl z)) (near_line a b)
  · intro h1
    walk_at "st"
    walk_at "st"
    exact congrArg (fun z => Out.f (.bl z)) (near_else r a b h1)


def isW : Da → Bool
  | .int _ => true
  | _ => false
theorem isW_eq (x : Da) : (isIntD x && !isBlD x) = isW x := by cases x <;> rfl
inductive gr_is_whole (er : Str → Addr) : List Da → Out → Prop
  | mk (x : Da) (h : hasTy x) : gr_is_whole er [x] (.f (.bl (isW x)))

theorem cal_is_whole {f : Addr} {fd : FuncData} (F : FnP K "is_whole" s_is_whole f fd) (hm : mg "is_whole" = some (.ref f)) (G : Glb mg) :
    Cal P w K mg base 1 "is_whole" ["thing"] (gr_is_whole er) := by
  have hb : Binds K fd ["thing"] [] := F.bindsN fun _ _ _ _ _ _ us hl => match us, hl with | [_], _ => rfl
  refine cal_of (n := 1) F sc_is_whole hm hb rfl (by rintro ds r h; cases h <;> rfl) (fun cdv A outer s H E hr => ⟨_, (pss_one (ps_ret (pe_and (pe_callB (isiK (K := K) rfl) (by rfl) G.b_isinstance (by decide +kernel) (pa_cons (pv 0) (pa_cons (pe_bltn (v := .ty "int") (by rfl) G.b_int (by decide +kernel) rfl) pa_nil))) (pe_one (pe_not (pe_callB (isiK (K := K) rfl) (by rfl) G.b_isinstance (by decide +kernel) (pa_cons (pv 0) (pa_cons (pe_bltn (v := .ty "bool") (by rfl) G.b_bool (by decide +kernel) rfl) pa_nil)))))))), ?_⟩)
  rintro ds o ⟨x, h⟩
  apply es_last
  apply q_ret
  · exact ef_andV (ef_isInt (EvF.now (ef_var rfl)) h) fun _ => ef_notV (ef_isBool (EvF.now (ef_var rfl)) h)
  · exact congrArg (fun z => Out.f (.bl z)) (isW_eq x)


def d_RULES : Da := .lst [.str "free", .str "line", .str "round"]
/-- what names no rule -/
def badRule : Da → Prop
  | .str s => PyData.canLay0 (.str s) = true ∧ ∀ r, s ≠ ruS r
  | x => hasTy x
inductive gr_check_rule (er : Str → Addr) : List Da → Out → Prop
  | mk (r : Ru) : gr_check_rule er [ruD r] (.f .non)
  | bad (x : Da) (h : badRule x) : gr_check_rule er [x] (.e (er "BadRule"))
theorem ruS_ok (r : Ru) : PyData.canLay0 (.str (ruS r)) = true := by cases r <;> decide +kernel
theorem eqD_str (a b : Str) : eqD (.str a) (.str b) = decide (a = b) := by
  unfold eqD
  simp only [Da.py, PyData.eqv]
  by_cases h : a = b
  · subst h; simp
  · simp [h]
theorem badRule_ty {x : Da} (h : badRule x) : hasTy x := by cases x <;> first | trivial | exact h

theorem cal_check_rule {f : Addr} {fd : FuncData} (F : FnP K "check_rule" s_check_rule f fd) (hm : mg "check_rule" = some (.ref f)) (G : Glb mg) (e_BadRule : ErrC K mg "BadRule" (er "BadRule")) {a_RULES : Addr} (g_RULES : mg "RULES" = some (.ref a_RULES)) (k_RULES : ∀ H, Dq K H (.ref a_RULES) d_RULES) :
    Cal P w K mg base 1 "check_rule" ["rule"] (gr_check_rule er) := by
  have hb : Binds K fd ["rule"] [] := F.bindsN fun _ _ _ _ _ _ us hl => match us, hl with | [_], _ => rfl
  refine cal_of (n := 1) F sc_check_rule hm hb rfl (by rintro ds r h; cases h <;> rfl) (fun cdv A outer s H E hr => ⟨_, (pss_one (ps_if (PW.pt (pw_or (pt_not (pt_val (pe_callB (isiK (K := K) rfl) (by rfl) G.b_isinstance (by decide +kernel) (pa_cons (pv 0) (pa_cons (pe_bltn (v := .ty "str") (by rfl) G.b_str (by decide +kernel) rfl) pa_nil))))) (pw_or1 (pt_cmpR (opNi (K := K) hr rfl) (pv 0) (pe_glob (v := .ref a_RULES) (by rfl) g_RULES rfl) (by rfl))))) (pss_one (raise_own e_BadRule (by rfl))) pss_nil)), ?_⟩)
  have hR : ∀ ρ, EvF K (tC (.ref a_RULES)) ρ d_RULES := fun ρ => ef_c fun F => k_RULES F
  have hok : okD 1 d_RULES := fun x hx => by
    simp only [List.mem_cons, List.not_mem_nil, or_false] at hx
    rcases hx with rfl | rfl | rfl
    · exact ruS_ok .free
    · exact ruS_ok .line
    · exact ruS_ok .round
  rintro ds o h
  cases h with
  | mk r =>
    apply es_last
    apply q_if (b := false)
    · refine EvT.is (et_or (et_not (et_val (ef_isStr (EvF.now (ef_var rfl)) trivial))) fun _ => et_test (ef_binD (EvF.now (ef_var rfl)) (EvF.now (hR _)) (rv_ni 0 1 (ruS_ok r) hok (by decide) (by decide)))) ?_
      simp only [isStrD, List.any_cons, List.any_nil, eqD_str]
      cases r <;> decide
    · intro z; cases z
    · intro _
      apply q_next
      exact q_end rfl
  | bad x hb =>
    apply es_last
    apply q_if (b := true)
    · have hs := et_not (et_val (ef_isStr (K := K) (ρ := rho0 1 [x]) (te := tVar 0) (EvF.now (ef_var rfl)) (badRule_ty hb)))
      cases x with
      | str s =>
        obtain ⟨h1, h2⟩ := hb
        refine EvT.is (et_or hs fun _ => et_test (ef_binD (EvF.now (ef_var rfl)) (EvF.now (hR _)) (rv_ni 0 1 h1 hok (by decide) (by decide)))) ?_
        have k1 : ¬ ("free" : Str) = s := fun z => h2 .free z.symm
        have k2 : ¬ ("line" : Str) = s := fun z => h2 .line z.symm
        have k3 : ¬ ("round" : Str) = s := fun z => h2 .round z.symm
        simp only [isStrD, List.any_cons, List.any_nil, eqD_str, decide_eq_false k1, decide_eq_false k2, decide_eq_false k3]
        rfl
      | _ => exact et_or (b := false) hs fun z => by cases z
    · intro _
      exact q_raise rfl
    · intro z; cases z


theorem allow_line : ∀ a b : Pg, decide ((if (a.val : Int) - b.val < 0 then -((a.val : Int) - b.val) else (a.val : Int) - b.val) = 1) = (decide (a ≠ b) && near .line a b) := by decide
theorem allow_round : ∀ a b : Pg, decide ((b.val : Int) = ((a.val : Int) + 1) % 3) = (decide (a ≠ b) && near .round a b) := by decide
theorem allow_free : ∀ a b : Pg, (!decide ((a.val : Int) = (b.val : Int))) = (decide (a ≠ b) && near .free a b) := by decide
inductive gr_is_allowed (er : Str → Addr) : List Da → Out → Prop
  | mk (r : Ru) (a b : Pg) : gr_is_allowed er [ruD r, pD a, pD b] (.f (.bl (decide (a ≠ b) && near r a b)))

theorem cal_is_allowed {f : Addr} {fd : FuncData} (F : FnP K "is_allowed" s_is_allowed f fd) (hm : mg "is_allowed" = some (.ref f)) (G : Glb mg) :
    Cal P w K mg base 1 "is_allowed" ["rule", "start", "end"] (gr_is_allowed er) := by
  have hb : Binds K fd ["rule", "start", "end"] [] := F.bindsN fun _ _ _ _ _ _ us hl => match us, hl with | [_, _, _], _ => rfl
  refine cal_of (n := 3) F sc_is_allowed hm hb rfl (by rintro ds r h; cases h <;> rfl) (fun cdv A outer s H E hr => ⟨_, (pss_cons (ps_if (pt_cmpR (opEq (K := K) hr rfl) (pv 0) pe_str (nomark _)) (pss_one (ps_ret (pe_cmpR (opEq (K := K) hr rfl) (pe_callB call_abs (by rfl) G.b_abs (by decide +kernel) (pa_cons (pe_op op_sub (pv 1) (pv 2)) pa_nil)) pe_int (nomark _)))) pss_nil)
      (pss_cons (ps_if (pt_cmpR (opEq (K := K) hr rfl) (pv 0) pe_str (nomark _)) (pss_one (ps_ret (pe_cmpR (opEq (K := K) hr rfl) (pv 2) (pe_op op_mod (pe_op opAdd (pv 1) pe_int) pe_int) (nomark _)))) pss_nil)
      (pss_one (ps_ret (pe_cmpR (opNe (K := K) hr rfl) (pv 1) (pv 2) (nomark _)))))), ?_⟩)
  rintro ds o ⟨r, a, b⟩
  apply q_if
  · walk_at "ev"
  · intro h1
    walk_at "st"
    rw [ruS_line, decide_eq_true_eq] at h1
    subst h1
    exact congrArg (fun z => Out.f (.bl z)) (allow_line a b)
  · intro h1
    apply q_next
    apply q_if
    · walk_at "ev"
    · intro h2
      walk_at "st"
      rw [ruS_round, decide_eq_true_eq] at h2
      subst h2
      exact congrArg (fun z => Out.f (.bl z)) (allow_round a b)
    · intro h2
      apply q_next
      walk_at "st"
      have h3 : r = .free := by cases r <;> first | rfl | exact absurd h1 (by decide) | exact absurd h2 (by decide)
      subst h3
      exact congrArg (fun z => Out.f (.bl z)) (allow_free a b)


theorem fg1_int (o : Bool) (a : Pg) : (if o = true then 2 - (a.val : Int) else (a.val : Int)) = ((fg1 o a).val : Int) := by
  revert a
  cases o <;> decide
theorem flp_eq (o : Bool) (a : Pg) : (!decide (o = decide ((a.val : Int) = 1))) = flp o a := by
  revert a
  cases o <;> decide
inductive gr_number_by_line (er : Str → Addr) : List Da → Out → Prop
  | mk (s : List Pg) : gr_number_by_line er [stD s] (.f (nD (num false s.reverse)))

theorem cal_number_by_line {f : Addr} {fd : FuncData} (F : FnP K "number_by_line" s_number_by_line f fd) (hm : mg "number_by_line" = some (.ref f)) (G : Glb mg) :
    Cal P w K mg base 1 "number_by_line" ["state"] (gr_number_by_line er) := by
  have hb : Binds K fd ["state"] [] := F.bindsN fun _ _ _ _ _ _ us hl => match us, hl with | [_], _ => rfl
  refine cal_of (n := 4) F sc_number_by_line hm hb rfl (by rintro ds r h; cases h <;> rfl) (fun cdv A outer s H E hr => ⟨_, (pss_cons (ps_set (i := 1) sc_number_by_line.nd rfl (Or.inl rfl) pe_int)
      (pss_cons (ps_set (i := 2) sc_number_by_line.nd rfl (Or.inl rfl) pe_bl)
      (pss_cons (ps_for loops_on rfl (revPI (K := K) rfl (pi_reversed rfl G.b_reversed (pa_cons (pv 0) pa_nil))) (pg_name (i := 3) sc_number_by_line.nd rfl (Or.inl rfl)) (pss_cons (ps_set (i := 1) sc_number_by_line.nd rfl (Or.inl rfl) (pe_op opAdd (pe_op opMul pe_int (pv 1)) (pe_ifExp (pt_val (pv 2)) (pe_op op_sub pe_int (pv 3)) (pv 3))))
      (pss_one (ps_set (i := 2) sc_number_by_line.nd rfl (Or.inl rfl) (pe_cmpR (opNe (K := K) hr rfl) (pv 2) (pe_cmpR (opEq (K := K) hr rfl) (pv 3) pe_int (nomark _)) (nomark _))))))
      (pss_one (ps_ret (pv 1)))))), ?_⟩)
  rintro ds o ⟨s⟩
  walk_at "st"
  walk_at "st"
  apply q_mid (fun ρ => ∃ b c, ρ = [.d (stD s), .d (nD (num false s.reverse)), b, c])
  · refine es_forRev pD s (by walk_at "ev") (fun l ρ => ∃ n o c, numF n o l = num false s.reverse ∧ ρ = [.d (stD s), .d (nD n), .d (.bl o), c]) ⟨0, false, .un, by rw [numF_eq]; omega, rfl⟩ ?_ ?_
    · rintro a l ρ ⟨n, o, c, h, rfl⟩
      walk_at "nm"
      apply q_asg (x := nD (3 * n + (fg1 o a).val))
      · refine EvF.is (x := .int (3 * (n : Int) + ((fg1 o a).val : Int))) (ef_binD (EvF.now (by walk_at "ev")) (EvF.now (ef_if (b := o) (et_val (ef_var rfl)) (fun h => EvF.is (by walk_at "ev") ?_) (fun h => EvF.is (by walk_at "ev") ?_))) rv_add) ?_
        · rw [← fg1_int, if_pos h]
        · rw [← fg1_int, if_neg (by rw [h]; exact Bool.false_ne_true)]
        · simp [nD]
      walk_at "nm"
      apply es_last
      apply q_asg (x := .bl (flp o a))
      · exact EvF.is (by walk_at "ev") (congrArg Da.bl (flp_eq o a))
      walk_at "nm"
      exact q_end ⟨_, _, _, h, rfl⟩
    · rintro ρ ⟨n, o, c, h, rfl⟩
      exact ⟨_, _, by rw [← h, numF]⟩
  · rintro ρ ⟨b, c, rfl⟩
    walk_at "st"
    rfl


abbrev scD (ns : List Int) : Da := .lst (ns.map Da.int)
inductive gr__law_cell_at (er : Str → Addr) : List Da → Out → Prop
  | mk (ns : List Int) (k : Nat) : gr__law_cell_at er [scD ns, nD k] (.f (.int (cel ns k)))
theorem sc_at {ns : List Int} {k : Nat} (h : k < ns.length) : atI (ns.map Da.int) (k : Int) = some (.int (cel ns k)) := by
  refine atI_nat ?_
  rw [List.getElem?_map, List.getElem?_eq_getElem h, cel, List.getD_eq_getElem?_getD, List.getElem?_eq_getElem h]
  rfl

theorem cal__law_cell_at {f : Addr} {fd : FuncData} (F : FnP K "_law_cell_at" s__law_cell_at f fd) (hm : mg "_law_cell_at" = some (.ref f)) (G : Glb mg) :
    Cal P w K mg base 1 "_law_cell_at" ["_law_script", "_law_k"] (gr__law_cell_at er) := by
  have hb : Binds K fd ["_law_script", "_law_k"] [] := F.bindsN fun _ _ _ _ _ _ us hl => match us, hl with | [_, _], _ => rfl
  refine cal_of (n := 2) F sc__law_cell_at hm hb rfl (by rintro ds r h; cases h <;> rfl) (fun cdv A outer s H E hr => ⟨_, (pss_cons (ps_if (pt_cmpR op_lt (pv 1) (pe_callB (lenK (K := K) rfl) (by rfl) G.b_len (by decide +kernel) (pa_cons (pv 0) pa_nil)) (nomark _)) (pss_one (ps_ret (pe_ix (ixK (K := K) rfl) (pv 0) (pv 1) (fun _ _ => rfl)))) pss_nil)
      (pss_one (ps_ret pe_int))), ?_⟩)
  rintro ds o ⟨ns, k⟩
  apply q_if
  · walk_at "ev"
  · intro h1
    rw [decide_eq_true_eq, List.length_map] at h1
    apply q_ret
    · exact ef_binM (EvF.m (ef_var rfl)) (ef_var rfl) (rm_ix (sc_at (by omega)))
    · rfl
  · intro h1
    rw [decide_eq_false_iff_not, List.length_map] at h1
    walk_at "st"
    walk_at "st"
    have e : cel ns k = 0 := by
      rw [cel, List.getD_eq_getElem?_getD, List.getElem?_eq_none (by omega)]
      rfl
    show Out.f _ = Out.f _
    rw [e]


theorem prs_at (k : Nat) : atI (prs.map Da.int) ((k : Int) % 16) = some (.int (prAt k)) := by
  have h : k % 16 < 16 := Nat.mod_lt _ (by decide)
  have e : (k : Int) % 16 = ((k % 16 : Nat) : Int) := by omega
  rw [e]
  refine atI_nat ?_
  rw [List.getElem?_map, prAt, List.getD_eq_getElem?_getD]
  have hl : k % 16 < prs.length := h
  rw [List.getElem?_eq_getElem hl]
  rfl
inductive gr__law_draw (er : Str → Addr) : List Da → Out → Prop
  | mk (c : Int) (k m : Nat) (h : 0 < m) : gr__law_draw er [.int c, nD k, nD m] (.f (nD (drw c k m)))

theorem cal__law_draw {f : Addr} {fd : FuncData} (F : FnP K "_law_draw" s__law_draw f fd) (hm : mg "_law_draw" = some (.ref f)) (G : Glb mg) :
    Cal P w K mg base 1 "_law_draw" ["_law_cell", "_law_k", "_law_many"] (gr__law_draw er) := by
  have hb : Binds K fd ["_law_cell", "_law_k", "_law_many"] [] := F.bindsN fun _ _ _ _ _ _ us hl => match us, hl with | [_, _, _], _ => rfl
  refine cal_of (n := 4) F sc__law_draw hm hb rfl (by rintro ds r h; cases h <;> rfl) (fun cdv A outer s H E hr => ⟨_, (pss_cons (ps_set (i := 3) sc__law_draw.nd rfl (Or.inl rfl) (pe_tup (pa_cons pe_int (pa_cons pe_int (pa_cons pe_int (pa_cons pe_int (pa_cons pe_int (pa_cons pe_int (pa_cons pe_int (pa_cons pe_int (pa_cons pe_int (pa_cons pe_int (pa_cons pe_int (pa_cons pe_int (pa_cons pe_int (pa_cons pe_int (pa_cons pe_int (pa_cons pe_int pa_nil))))))))))))))))))
      (pss_one (ps_ret (pe_op op_mod (pe_op op_mod (pe_op opAdd (pe_op opMul (pv 0) pe_int) (pe_op opMul (pv 1) pe_int)) (pe_ix (ixK (K := K) rfl) (pv 3) (pe_op op_mod (pv 1) pe_int) (fun _ _ => rfl))) (pv 2))))), ?_⟩)
  rintro ds o ⟨c, k, m, hm⟩
  apply q_asg (x := .tup (prs.map Da.int))
  · walk_at "evr"
  walk_at "nm"
  apply es_last
  apply q_ret
  · refine ef_binD (EvF.now (ef_binD (x := .int (c * 48271 + (k : Int) * 69621)) (EvF.now ?_) (EvF.now ?_) (rv_mod (prAt_pos k)))) (EvF.now (ef_var rfl)) (rv_mod (by omega))
    · walk_at "ev"
    · refine ef_binF (ef_var rfl) ?_ (rf_ix (prs_at k))
      walk_at "ev"
  · exact congrArg (fun z => Out.f (.int z)) (drw_int c k m hm)


/-- a move with the state behind it -/
abbrev mvaD (s : List Pg) (m : Nat × Pg) : Da := .tup [.tup [nD m.1, pD m.2], stD (s.set m.1 m.2)]
abbrev mvaL (r : Ru) (s : List Pg) : List Da := (mvs r 0 [] s).map (mvaD s)
theorem set_cut (s : List Pg) (d : Nat) (e : Pg) (h : d < s.length) : (stL s).take d ++ [pD e] ++ (stL s).drop (d + 1) = stL (s.set d e) := by
  unfold stL
  rw [List.map_set, List.set_eq_take_append_cons_drop, if_pos (by rw [List.length_map]; exact h), List.append_assoc]
  rfl
theorem in_pegs (cov : List Pg) (a : Pg) : decide ((a.val : Int) ∈ cov.map fun p : Pg => (p.val : Int)) = decide (a ∈ cov) := by
  have : (a.val : Int) ∈ (cov.map fun p : Pg => (p.val : Int)) ↔ a ∈ cov := by
    constructor
    · intro h
      obtain ⟨b, hb, e⟩ := List.mem_map.mp h
      rw [← pD_inj e]
      exact hb
    · intro h
      exact List.mem_map.mpr ⟨a, h, rfl⟩
  simp only [this]
theorem rv_niP {K : PySem.W.Frag} {a : Pg} {cov : List Pg} : RvD K (rNi2 K) (pD a) (.lst (stL cov)) (.bl (!decide (a ∈ cov))) := by
  have e : stL cov = (cov.map fun p : Pg => (p.val : Int)).map Da.int := by rw [List.map_map]; rfl
  rw [e, ← in_pegs]
  exact rv_niI
theorem good_eq (r : Ru) (cov : List Pg) (a e : Pg) : (if decide (ruS r = ("round" : Str)) = true then (if decide (ruS r = ("line" : Str)) = true then (!decide ((a.val : Int) = (e.val : Int)) && !decide (e ∈ cov)) && decide ((if (a.val : Int) - e.val < 0 then -((a.val : Int) - e.val) else (a.val : Int) - e.val) = 1) else (!decide ((a.val : Int) = (e.val : Int)) && !decide (e ∈ cov))) && decide (((a.val : Int) + 1) % 3 = (e.val : Int))
    else (if decide (ruS r = ("line" : Str)) = true then (!decide ((a.val : Int) = (e.val : Int)) && !decide (e ∈ cov)) && decide ((if (a.val : Int) - e.val < 0 then -((a.val : Int) - e.val) else (a.val : Int) - e.val) = 1) else (!decide ((a.val : Int) = (e.val : Int)) && !decide (e ∈ cov)))) = canG r cov a e := by
  have k1 : ∀ a e : Pg, decide (((a.val : Int) + 1) % 3 = (e.val : Int)) = near .round a e := by decide
  rw [near_line, k1, pDe, ruS_round, ruS_line]
  unfold canG
  cases r <;> simp [near]
inductive gr__law_behind (er : Str → Addr) : List Da → Out → Prop
  | mk (r : Ru) (s : List Pg) (h : s.length ≤ 1000) : gr__law_behind er [ruD r, stD s] (.n (mvaL r s))

theorem cal__law_behind {f : Addr} {fd : FuncData} (F : FnP K "_law_behind" s__law_behind f fd) (hm : mg "_law_behind" = some (.ref f)) (G : Glb mg) :
    Cal P w K mg base 1 "_law_behind" ["_law_rule_here", "_law_state_here"] (gr__law_behind er) := by
  have hb : Binds K fd ["_law_rule_here", "_law_state_here"] [] := F.bindsN fun _ _ _ _ _ _ us hl => match us, hl with | [_, _], _ => rfl
  refine cal_of (n := 8) F sc__law_behind hm hb rfl (by rintro ds r h; cases h <;> rfl) (fun cdv A outer s H E hr => ⟨_, (pss_cons (ps_par (i := 2) (j := 3) rfl sc__law_behind.nd rfl rfl (by decide) rfl rfl (pa_cons (pe_lst pa_nil) (pa_cons (pe_lst pa_nil) pa_nil)) (by rfl))
      (pss_cons (ps_for loops_on rfl (enumPI (K := K) rfl (pi_enum rfl G.b_enumerate (pa_cons (pv 1) pa_nil))) (tupPG (K := K) rfl (pg_tup (n := 2) rfl (pgs_cons (pg_name (i := 4) sc__law_behind.nd rfl (Or.inl rfl)) (pgs_cons (pg_name (i := 5) sc__law_behind.nd rfl (Or.inl rfl)) pgs_nil)))) (pss_one (ps_if (pt_cmpR (opNi (K := K) hr rfl) (pv 5) (pv 3) (by rfl)) (pss_cons (ps_for loops_on rfl (pi_range1 rfl G.b_range (pa_cons pe_int pa_nil)) (pg_name (i := 6) sc__law_behind.nd rfl (Or.inl rfl)) (pss_cons (ps_set (i := 7) sc__law_behind.nd rfl (Or.inl rfl) (pe_and (pe_cmpR (opNe (K := K) hr rfl) (pv 5) (pv 6) (nomark _)) (pe_one (pe_cmpR (opNi (K := K) hr rfl) (pv 6) (pv 3) (by rfl)))))
      (pss_cons (ps_if (pt_cmpR (opEq (K := K) hr rfl) (pv 0) pe_str (nomark _)) (pss_one (ps_set (i := 7) sc__law_behind.nd rfl (Or.inl rfl) (pe_and (pv 7) (pe_one (pe_cmpR (opEq (K := K) hr rfl) (pe_callB call_abs (by rfl) G.b_abs (by decide +kernel) (pa_cons (pe_op op_sub (pv 5) (pv 6)) pa_nil)) pe_int (nomark _)))))) pss_nil)
      (pss_cons (ps_if (pt_cmpR (opEq (K := K) hr rfl) (pv 0) pe_str (nomark _)) (pss_one (ps_set (i := 7) sc__law_behind.nd rfl (Or.inl rfl) (pe_and (pv 7) (pe_one (pe_cmpR (opEq (K := K) hr rfl) (pe_op op_mod (pe_op opAdd (pv 5) pe_int) pe_int) (pv 6) (nomark _)))))) pss_nil)
      (pss_one (ps_if (pt_val (pv 7)) (pss_one (ps_expr (appPE (K := K) rfl (pe_bm PySem.F.plainAttrs_list PySem.F.slot_list_append PySem.F.type_list_append mt_append (pv 2) (pa_cons (pe_tup (pa_cons (pe_tup (pa_cons (pv 4) (pa_cons (pv 6) pa_nil))) (pa_cons (pe_op opAdd (pe_op opAdd (pe_slice (slK (K := K) rfl) (pv 1) po_none (po_some (pv 4))) (pe_lst (pa_cons (pv 6) pa_nil))) (pe_slice (slK (K := K) rfl) (pv 1) (po_some (pe_op opAdd (pv 4) pe_int)) po_none)) pa_nil))) pa_nil))))) pss_nil))))))
      (pss_one (ps_expr (appPE (K := K) rfl (pe_bm PySem.F.plainAttrs_list PySem.F.slot_list_append PySem.F.type_list_append mt_append (pv 3) (pa_cons (pv 5) pa_nil)))))) pss_nil)))
      (pss_one (ps_ret (pv 2))))), ?_⟩)
  rintro ds o ⟨r, s, hs⟩
  walk_at "nm"
  apply q_parNN (by decide)
  walk_at "nm"
  apply q_mid (fun ρ => ∃ a b c d e, ρ = [.d (ruD r), .d (stD s), .m (mvaL r s), a, b, c, d, e])
  · refine es_forEnum pD s (by walk_at "ev") (fun i l ρ => ∃ (acc : List (Nat × Pg)) (cov : List Pg) (b c d e : Sl), s.drop i = l ∧ acc ++ mvs r i cov l = mvs r 0 [] s ∧ acc.length ≤ 3 * i ∧ cov.length ≤ i ∧
      ρ = [.d (ruD r), .d (stD s), .m (acc.map (mvaD s)), .m (stL cov), b, c, d, e]) ⟨[], [], _, _, _, _, rfl, rfl, Nat.zero_le _, Nat.zero_le _, rfl⟩ ?_ ?_
    · rintro i x l ρ ⟨acc, cov, b, c, d, e, h1, h2, h3, h4, rfl⟩
      obtain ⟨m1, m2, m3⟩ := drop_succ_at h1
      walk_at "nm"
      apply es_last
      apply q_if (b := !decide (x ∈ cov))
      · exact et_test (ef_binD (EvF.now (ef_var rfl)) (EvM.now (EvP.m (ep_varm rfl))) rv_niP)
      · intro hx
        rw [Bool.not_eq_true', decide_eq_false_iff_not] at hx
        rw [mvs, if_neg hx] at h2
        apply q_assoc
        · apply q_mid (fun ρ => ∃ d e, ρ = [.d (ruD r), .d (stD s), .m ((acc ++ ((([0, 1, 2] : List Pg)).filter (canG r cov x)).map fun e => (i, e)).map (mvaD s)), .m (stL cov), .d (nD i), .d (pD x), d, e])
          · refine es_forR (n := 3) (Inv := fun k ρ => ∃ d e, ρ = [.d (ruD r), .d (stD s), .m ((acc ++ ((([0, 1, 2] : List Pg).take k).filter (canG r cov x)).map fun e => (i, e)).map (mvaD s)), .m (stL cov), .d (nD i), .d (pD x), d, e]) ef_int (by decide) ⟨d, e, by rw [List.take_zero]; simp⟩ ?_ ?_
            · rintro k ρ hk ⟨d, e, rfl⟩
              obtain ⟨p, hp, hpk⟩ : ∃ p : Pg, (p.val : Int) = (k : Int) ∧ (([0, 1, 2] : List Pg).take (k + 1)) = ([0, 1, 2] : List Pg).take k ++ [p] := by
                have : k = 0 ∨ k = 1 ∨ k = 2 := by omega
                rcases this with rfl | rfl | rfl
                · exact ⟨0, rfl, rfl⟩
                · exact ⟨1, rfl, rfl⟩
                · exact ⟨2, rfl, rfl⟩
              rw [← hp]
              walk_at "nm"
              apply q_asg (x := .bl (!decide ((x.val : Int) = (p.val : Int)) && !decide (p ∈ cov)))
              · exact ef_andV (by walk_at "ev") fun _ => ef_binD (EvF.now (ef_var rfl)) (EvM.now (EvP.m (ep_varm rfl))) rv_niP
              walk_at "nm"
              apply q_ifAsg
              · walk_at "ev"
              · intro _; walk_at "ev"
              · rfl
              walk_at "nm"
              rw [← apply_ite Da.bl]
              apply q_ifAsg
              · walk_at "ev"
              · intro _; walk_at "ev"
              · rfl
              walk_at "nm"
              rw [← apply_ite Da.bl, good_eq]
              apply es_last
              apply q_if
              · walk_at "ev"
              · intro hg
                apply q_app rfl (x := mvaD s (i, p))
                · refine ef_tup (ea_cons (by walk_at "ev") (ea_cons (x := stD (s.set i p)) (EvN.f ?_) ea_nil)) (Nat.le_of_ble_eq_true rfl)
                  refine EvN.is (en_binP (EvN.p (en_binP (xs := (stL s).take i) (EvN.p (EvN.is (en_sl (EvF.m (ef_var rfl)) eo_none (eo_some (ef_var rfl))) (cut_to _ _ ?_))) (EvN.p (xs := [pD p]) (by walk_at "ev")) (rp_add ?_))) (EvN.p (xs := (stL s).drop (i + 1)) (EvN.is (en_sl (EvF.m (ef_var rfl)) (eo_some (n := ((i + 1 : Nat) : Int)) (by walk_at "evr")) eo_none) (cut_from _ _))) (rp_add ?_)) (set_cut s i p m3)
                  · rw [List.length_map]; omega
                  · rw [List.length_take, List.length_map, List.length_singleton]; omega
                  · rw [List.length_append, List.length_take, List.length_drop, List.length_map, List.length_singleton]; omega
                · rw [List.length_map, List.length_append, List.length_map]
                  have : ((([0, 1, 2] : List Pg).take k).filter (canG r cov x)).length ≤ 3 := Nat.le_trans (List.length_filter_le _ _) (by rw [List.length_take]; exact Nat.min_le_right _ _)
                  omega
                walk_at "nm"
                refine q_end ⟨.d (pD p), .d (.bl (canG r cov x p)), ?_⟩
                rw [hpk, List.filter_append, List.filter_cons_of_pos hg, List.filter_nil]
                simp only [List.map_append, List.append_assoc, List.map_cons, List.map_nil]
              · intro hg
                apply q_next
                refine q_end ⟨.d (pD p), .d (.bl (canG r cov x p)), ?_⟩
                rw [hpk, List.filter_append, List.filter_cons_of_neg (by rw [hg]; exact Bool.false_ne_true), List.filter_nil, List.append_nil]
            · rintro ρ ⟨d, e, rfl⟩
              exact ⟨d, e, rfl⟩
          · rintro ρ ⟨d, e, rfl⟩
            apply q_app rfl
            · walk_at "ev"
            · rw [List.length_map]; omega
            walk_at "nm"
            refine q_end ⟨acc ++ (([0, 1, 2] : List Pg).filter (canG r cov x)).map (fun e => (i, e)), cov ++ [x], .d (nD i), .d (pD x), d, e, m2, ?_, ?_, ?_, by rw [← stL_app cov [x]]; rfl⟩
            · rw [← h2, List.append_assoc]
            · rw [List.length_append, List.length_map]
              have : ((([0, 1, 2] : List Pg)).filter (canG r cov x)).length ≤ 3 := List.length_filter_le _ _
              omega
            · rw [List.length_append, List.length_singleton]; omega
      · intro hx
        rw [Bool.not_eq_false', decide_eq_true_eq] at hx
        rw [mvs, if_pos hx] at h2
        apply q_next
        exact q_end ⟨acc, cov, _, _, _, _, m2, h2, by omega, by omega, rfl⟩
    · rintro i ρ ⟨acc, cov, b, c, d, e, h1, h2, h3, h4, rfl⟩
      rw [mvs, List.append_nil] at h2
      rw [h2]
      exact ⟨_, _, _, _, _, rfl⟩
  · rintro ρ ⟨a, b, c, d, e, rfl⟩
    walk_at "st"
    rfl


inductive gr__law_whole (er : Str → Addr) : List Da → Out → Prop
  | mk (x : Da) (h : hasTy x) : gr__law_whole er [x] (.f (.bl (isW x)))

theorem cal__law_whole {f : Addr} {fd : FuncData} (F : FnP K "_law_whole" s__law_whole f fd) (hm : mg "_law_whole" = some (.ref f)) (G : Glb mg) :
    Cal P w K mg base 1 "_law_whole" ["_law_number"] (gr__law_whole er) := by
  have hb : Binds K fd ["_law_number"] [] := F.bindsN fun _ _ _ _ _ _ us hl => match us, hl with | [_], _ => rfl
  refine cal_of (n := 1) F sc__law_whole hm hb rfl (by rintro ds r h; cases h <;> rfl) (fun cdv A outer s H E hr => ⟨_, (pss_one (ps_ret (pe_and (pe_callB (isiK (K := K) rfl) (by rfl) G.b_isinstance (by decide +kernel) (pa_cons (pv 0) (pa_cons (pe_bltn (v := .ty "int") (by rfl) G.b_int (by decide +kernel) rfl) pa_nil))) (pe_one (pe_not (pe_callB (isiK (K := K) rfl) (by rfl) G.b_isinstance (by decide +kernel) (pa_cons (pv 0) (pa_cons (pe_bltn (v := .ty "bool") (by rfl) G.b_bool (by decide +kernel) rfl) pa_nil)))))))), ?_⟩)
  rintro ds o ⟨x, h⟩
  apply es_last
  apply q_ret
  · exact ef_andV (ef_isInt (EvF.now (ef_var rfl)) h) fun _ => ef_notV (ef_isBool (EvF.now (ef_var rfl)) h)
  · exact congrArg (fun z => Out.f (.bl z)) (isW_eq x)



theorem cal__law_kinds {f : Addr} {fd : FuncData} (F : FnP K "_law_kinds" s__law_kinds f fd) (hm : mg "_law_kinds" = some (.ref f)) (G : Glb mg) (e_BadRule : ErrC K mg "BadRule" (er "BadRule")) (e_BadState : ErrC K mg "BadState" (er "BadState")) (e_BadPeg : ErrC K mg "BadPeg" (er "BadPeg")) (e_BadMove : ErrC K mg "BadMove" (er "BadMove")) (e_BadNumber : ErrC K mg "BadNumber" (er "BadNumber")) (e_Unlike : ErrC K mg "Unlike" (er "Unlike")) (e_BadText : ErrC K mg "BadText" (er "BadText")) (hX : ExH K er dsX csX) :
    CalP P w K mg base 1 "_law_kinds" ["_law_error"] (spP K er dsX kindsL) := by
  have hb : Binds K fd ["_law_error"] [] := F.bindsN fun _ _ _ _ _ _ us hl => match us, hl with | [_], _ => rfl
  refine calP_of (n := 2) F sc__law_kinds hm hb rfl (by decide) (fun cdv A outer s H E p D hD h1 h2 h3 => ⟨_, (pss_cons (ps_set (i := 1) sc__law_kinds.nd rfl (Or.inl rfl) (pe_lst (pa_cons (pe_callB (isPK (K := K) rfl List.mem_cons_self (hX.c D hD) h1 h2 h3) (by rfl) G.b_isinstance (by decide +kernel) (pa_cons (pv 0) (pa_cons (pe_glob (v := .ref (er "BadRule")) (by rfl) e_BadRule.g rfl) pa_nil))) (pa_cons (pe_callB (isPK (K := K) rfl List.mem_cons_self (hX.c D hD) h1 h2 h3) (by rfl) G.b_isinstance (by decide +kernel) (pa_cons (pv 0) (pa_cons (pe_glob (v := .ref (er "BadState")) (by rfl) e_BadState.g rfl) pa_nil))) (pa_cons (pe_callB (isPK (K := K) rfl List.mem_cons_self (hX.c D hD) h1 h2 h3) (by rfl) G.b_isinstance (by decide +kernel) (pa_cons (pv 0) (pa_cons (pe_glob (v := .ref (er "BadPeg")) (by rfl) e_BadPeg.g rfl) pa_nil))) pa_nil)))))
      (pss_cons (ps_set (i := 1) sc__law_kinds.nd rfl (Or.inl rfl) (pe_op opAdd (pv 1) (pe_lst (pa_cons (pe_callB (isPK (K := K) rfl List.mem_cons_self (hX.c D hD) h1 h2 h3) (by rfl) G.b_isinstance (by decide +kernel) (pa_cons (pv 0) (pa_cons (pe_glob (v := .ref (er "BadMove")) (by rfl) e_BadMove.g rfl) pa_nil))) (pa_cons (pe_callB (isPK (K := K) rfl List.mem_cons_self (hX.c D hD) h1 h2 h3) (by rfl) G.b_isinstance (by decide +kernel) (pa_cons (pv 0) (pa_cons (pe_glob (v := .ref (er "BadNumber")) (by rfl) e_BadNumber.g rfl) pa_nil))) (pa_cons (pe_callB (isPK (K := K) rfl List.mem_cons_self (hX.c D hD) h1 h2 h3) (by rfl) G.b_isinstance (by decide +kernel) (pa_cons (pv 0) (pa_cons (pe_glob (v := .ref (er "Unlike")) (by rfl) e_Unlike.g rfl) pa_nil))) pa_nil))))))
      (pss_one (ps_ret (pe_op opAdd (pv 1) (pe_lst (pa_cons (pe_callB (isPK (K := K) rfl List.mem_cons_self (hX.c D hD) h1 h2 h3) (by rfl) G.b_isinstance (by decide +kernel) (pa_cons (pv 0) (pa_cons (pe_glob (v := .ref (er "BadText")) (by rfl) e_BadText.g rfl) pa_nil))) (pa_cons (pe_callB (isPK (K := K) rfl List.mem_cons_self (hX.c D hD) h1 h2 h3) (by rfl) G.b_isinstance (by decide +kernel) (pa_cons (pv 0) (pa_cons (pe_bltn (v := .ty "ValueError") (by rfl) G.b_ValueError (by decide +kernel) rfl) pa_nil))) pa_nil)))))))), ?_⟩)
  have hI : ∀ (ρ : Rho) (c : Str), c ∈ csX → ρ[0]? = some (.d (.adr p.1)) → EvF K (tCB (rIsE K (er D) p.1) (tCons (tVar 0) (tCons (tC (.ref (er c))) tNil))) ρ (kB D c) := fun ρ c h1 h2 => ef_isP hX hD h1 (ef_var h2)
  walk_at "nm"
  apply q_asgL (xs := [kB D "BadRule", kB D "BadState", kB D "BadPeg"])
  · exact en_lst (ea_cons (hI _ "BadRule" (by simp) rfl) (ea_cons (hI _ "BadState" (by simp) rfl) (ea_cons (hI _ "BadPeg" (by simp) rfl) ea_nil))) (Nat.le_of_ble_eq_true rfl)
  walk_at "nm"
  apply q_asgL (xs := [kB D "BadRule", kB D "BadState", kB D "BadPeg", kB D "BadMove", kB D "BadNumber", kB D "Unlike"])
  · exact en_binP (ep_varl rfl) (EvN.p (en_lst (ea_cons (hI _ "BadMove" (by simp) rfl) (ea_cons (hI _ "BadNumber" (by simp) rfl) (ea_cons (hI _ "Unlike" (by simp) rfl) ea_nil))) (Nat.le_of_ble_eq_true rfl))) (rp_add (Nat.le_of_ble_eq_true rfl))
  walk_at "nm"
  apply es_last
  apply q_retN (xs := kindsL D)
  · exact en_binP (ep_varl rfl) (EvN.p (en_lst (ea_cons (hI _ "BadText" (by simp) rfl) (ea_cons (ef_isPV hX hD (ef_var rfl)) ea_nil)) (Nat.le_of_ble_eq_true rfl))) (rp_add (Nat.le_of_ble_eq_true rfl))
  · rfl


inductive gr_tower (er : Str → Addr) : List Da → Out → Prop
  | mk (r : Ru) (n : Nat) (a b : Pg) : gr_tower er [ruD r, twD (tw r n), pD a, pD b] (.f (nD (tower r n a b)))

theorem cal_tower {f : Addr} {fd : FuncData} (F : FnP K "tower" s_tower f fd) (hm : mg "tower" = some (.ref f)) (G : Glb mg)
    (c_is_near : Cal P w K mg base 1 "is_near" ["rule", "start", "end"] (gr_is_near er)) :
    Cal P w K mg base 2 "tower" ["rule", "counts", "start", "end"] (gr_tower er) := by
  have hb : Binds K fd ["rule", "counts", "start", "end"] [] := F.bindsN fun _ _ _ _ _ _ us hl => match us, hl with | [_, _, _, _], _ => rfl
  refine cal_of (n := 4) F sc_tower hm hb rfl (by rintro ds r h; cases h <;> rfl) (fun cdv A outer s H E hr => ⟨_, (pss_cons (ps_if (pt_cmpR (opEq (K := K) hr rfl) (pv 2) (pv 3) (nomark _)) (pss_one (ps_ret pe_int)) pss_nil)
      (pss_cons (ps_if (pt_val (pe_cal c_is_near ⟨rfl, rfl, rfl, rfl, rfl⟩ (hr.mono (by decide)) (by rfl) lets_on (pa_cons (pv 0) (pa_cons (pv 2) (pa_cons (pv 3) pa_nil))))) (pss_one (ps_ret (pe_ix (ixK (K := K) rfl) (pv 1) pe_int (fun _ _ => rfl)))) pss_nil)
      (pss_one (ps_ret (pe_ix (ixK (K := K) rfl) (pv 1) pe_int (fun _ _ => rfl)))))), ?_⟩)
  rintro ds o ⟨r, n, a, b⟩
  apply q_if
  · walk_at "ev"
  · intro h1
    walk_at "st"
    rw [pDe, decide_eq_true_eq] at h1
    show Out.f (.int 0) = Out.f (.int ((tower r n a b : Nat) : Int))
    rw [tower, if_pos h1]
    rfl
  · intro h1
    rw [pDe, decide_eq_false_iff_not] at h1
    apply q_next
    apply q_if
    · walk_at "ev"
    · intro h2
      apply q_ret (x := nD (tw r n).1)
      · exact ef_binF (by walk_at "ev") (by walk_at "ev") (rf_ix rfl)
      · show Out.f _ = Out.f _
        rw [tower, if_neg h1, if_pos h2]
    · intro h2
      apply q_next
      apply es_last
      apply q_ret (x := nD (tw r n).2)
      · exact ef_binF (by walk_at "ev") (by walk_at "ev") (rf_ix rfl)
      · show Out.f _ = Out.f _
        rw [tower, if_neg h1, if_neg (by rw [h2]; exact Bool.false_ne_true)]


theorem thi_int : ∀ a b : Pg, ¬ a = b → 3 - (a.val : Int) - b.val = ((thi a b).val : Int) := by decide
inductive gr_steps_of (er : Str → Addr) : List Da → Out → Prop
  | mk (r : Ru) (a b : Pg) : gr_steps_of er [ruD r, pD a, pD b] (.n ((steps r a b).map prD))

theorem cal_steps_of {f : Addr} {fd : FuncData} (F : FnP K "steps_of" s_steps_of f fd) (hm : mg "steps_of" = some (.ref f)) (G : Glb mg)
    (c_is_near : Cal P w K mg base 1 "is_near" ["rule", "start", "end"] (gr_is_near er)) :
    Cal P w K mg base 2 "steps_of" ["rule", "start", "end"] (gr_steps_of er) := by
  have hb : Binds K fd ["rule", "start", "end"] [] := F.bindsN fun _ _ _ _ _ _ us hl => match us, hl with | [_, _, _], _ => rfl
  refine cal_of (n := 4) F sc_steps_of hm hb rfl (by rintro ds r h; cases h <;> rfl) (fun cdv A outer s H E hr => ⟨_, (pss_cons (ps_if (pt_cmpR (opEq (K := K) hr rfl) (pv 1) (pv 2) (nomark _)) (pss_one (ps_ret (pe_lst pa_nil))) pss_nil)
      (pss_cons (ps_if (pt_val (pe_cal c_is_near ⟨rfl, rfl, rfl, rfl, rfl⟩ (hr.mono (by decide)) (by rfl) lets_on (pa_cons (pv 0) (pa_cons (pv 1) (pa_cons (pv 2) pa_nil))))) (pss_one (ps_ret (pe_lst (pa_cons (pe_tup (pa_cons (pv 1) (pa_cons (pv 2) pa_nil))) pa_nil)))) pss_nil)
      (pss_cons (ps_set (i := 3) sc_steps_of.nd rfl (Or.inl rfl) (pe_op op_sub (pe_op op_sub pe_int (pv 1)) (pv 2)))
      (pss_one (ps_ret (pe_lst (pa_cons (pe_tup (pa_cons (pv 1) (pa_cons (pv 3) pa_nil))) (pa_cons (pe_tup (pa_cons (pv 3) (pa_cons (pv 2) pa_nil))) pa_nil)))))))), ?_⟩)
  rintro ds o ⟨r, a, b⟩
  apply q_if
  · walk_at "ev"
  · intro h1
    walk_at "st"
    rw [pDe, decide_eq_true_eq] at h1
    show Out.n [] = Out.n _
    rw [steps, if_pos h1]
    rfl
  · intro h1
    rw [pDe, decide_eq_false_iff_not] at h1
    apply q_next
    apply q_if
    · walk_at "ev"
    · intro h2
      walk_at "st"
      show Out.n _ = Out.n _
      rw [steps, if_neg h1, if_pos h2]
      rfl
    · intro h2
      apply q_next
      apply q_asg (x := pD (thi a b))
      · exact EvF.is (by walk_at "ev") (congrArg Da.int (thi_int a b h1))
      walk_at "st"
      show Out.n _ = Out.n _
      rw [steps, if_neg h1, if_neg (by rw [h2]; exact Bool.false_ne_true)]
      rfl


def isP : Da → Bool
  | .int i => decide (0 ≤ i) && decide (i ≤ 2)
  | _ => false
theorem isP_pD : ∀ p : Pg, isP (pD p) = true := by decide
inductive gr_is_peg (er : Str → Addr) : List Da → Out → Prop
  | mk (x : Da) (h : hasTy x) : gr_is_peg er [x] (.f (.bl (isP x)))

theorem cal_is_peg {f : Addr} {fd : FuncData} (F : FnP K "is_peg" s_is_peg f fd) (hm : mg "is_peg" = some (.ref f)) (G : Glb mg)
    (c_is_whole : Cal P w K mg base 1 "is_whole" ["thing"] (gr_is_whole er)) :
    Cal P w K mg base 2 "is_peg" ["thing"] (gr_is_peg er) := by
  have hb : Binds K fd ["thing"] [] := F.bindsN fun _ _ _ _ _ _ us hl => match us, hl with | [_], _ => rfl
  refine cal_of (n := 1) F sc_is_peg hm hb rfl (by rintro ds r h; cases h <;> rfl) (fun cdv A outer s H E hr => ⟨_, (pss_one (ps_ret (pe_and (pe_cal c_is_whole ⟨rfl, rfl, rfl, rfl, rfl⟩ (hr.mono (by decide)) (by rfl) lets_on (pa_cons (pv 0) pa_nil)) (pe_one (pe_chain op_le op_le pe_int (pv 0) pe_int))))), ?_⟩)
  rintro ds o ⟨x, h⟩
  apply es_last
  apply q_ret (x := .bl (isP x))
  · have hc : EvF K (tCall (spD K (gr_is_whole er)) [] E (tCons (tVar 0) tNil)) (rho0 1 [x]) (.bl (isW x)) := ef_call (by walk_at "ev") (.mk x h)
    cases x with
    | int i => exact EvF.is (ef_andV hc fun _ => by walk_at "ev") rfl
    | _ => exact ef_andV (b := false) hc fun z => by cases z
  · rfl


theorem can_eq (r : Ru) (cov : List Pg) (a e : Pg) : (!decide (e ∈ cov) && (decide (a ≠ e) && near r a e)) = canG r cov a e := by
  unfold canG
  cases decide (e ∈ cov) <;> cases decide (a ≠ e) <;> rfl
inductive gr_moves_of (er : Str → Addr) : List Da → Out → Prop
  | mk (r : Ru) (s : List Pg) (h : s.length ≤ 1000) : gr_moves_of er [ruD r, stD s] (.n ((mvs r 0 [] s).map mvT))

theorem cal_moves_of {f : Addr} {fd : FuncData} (F : FnP K "moves_of" s_moves_of f fd) (hm : mg "moves_of" = some (.ref f)) (G : Glb mg)
    (c_is_allowed : Cal P w K mg base 1 "is_allowed" ["rule", "start", "end"] (gr_is_allowed er)) :
    Cal P w K mg base 2 "moves_of" ["rule", "state"] (gr_moves_of er) := by
  have hb : Binds K fd ["rule", "state"] [] := F.bindsN fun _ _ _ _ _ _ us hl => match us, hl with | [_, _], _ => rfl
  refine cal_of (n := 7) F sc_moves_of hm hb rfl (by rintro ds r h; cases h <;> rfl) (fun cdv A outer s H E hr => ⟨_, (pss_cons (ps_set (i := 2) sc_moves_of.nd rfl (Or.inl rfl) (pe_lst pa_nil))
      (pss_cons (ps_set (i := 3) sc_moves_of.nd rfl (Or.inl rfl) (pe_lst pa_nil))
      (pss_cons (ps_for loops_on rfl (enumPI (K := K) rfl (pi_enum rfl G.b_enumerate (pa_cons (pv 1) pa_nil))) (tupPG (K := K) rfl (pg_tup (n := 2) rfl (pgs_cons (pg_name (i := 4) sc_moves_of.nd rfl (Or.inl rfl)) (pgs_cons (pg_name (i := 5) sc_moves_of.nd rfl (Or.inl rfl)) pgs_nil)))) (pss_one (ps_if (pt_cmpR (opNi (K := K) hr rfl) (pv 5) (pv 3) (by rfl)) (pss_cons (ps_for loops_on rfl (pi_range1 rfl G.b_range (pa_cons pe_int pa_nil)) (pg_name (i := 6) sc_moves_of.nd rfl (Or.inl rfl)) (pss_one (ps_if (PW.pt (pw_and (pt_cmpR (opNi (K := K) hr rfl) (pv 6) (pv 3) (by rfl)) (pw_and1 (pt_val (pe_cal c_is_allowed ⟨rfl, rfl, rfl, rfl, rfl⟩ (hr.mono (by decide)) (by rfl) lets_on (pa_cons (pv 0) (pa_cons (pv 5) (pa_cons (pv 6) pa_nil)))))))) (pss_one (ps_expr (appPE (K := K) rfl (pe_bm PySem.F.plainAttrs_list PySem.F.slot_list_append PySem.F.type_list_append mt_append (pv 2) (pa_cons (pe_tup (pa_cons (pv 4) (pa_cons (pv 6) pa_nil))) pa_nil))))) pss_nil)))
      (pss_one (ps_expr (appPE (K := K) rfl (pe_bm PySem.F.plainAttrs_list PySem.F.slot_list_append PySem.F.type_list_append mt_append (pv 3) (pa_cons (pv 5) pa_nil)))))) pss_nil)))
      (pss_one (ps_ret (pv 2)))))), ?_⟩)
  rintro ds o ⟨r, s, hs⟩
  walk_at "nm"
  apply q_asgN (xs := ([] : List (Nat × Pg)).map mvT)
  · exact en_lst ea_nil (Nat.zero_le _)
  walk_at "nm"
  apply q_asgN (xs := stL [])
  · exact en_lst ea_nil (Nat.zero_le _)
  walk_at "nm"
  apply q_mid (fun ρ => ∃ a b c d, ρ = [.d (ruD r), .d (stD s), .m ((mvs r 0 [] s).map mvT), a, b, c, d])
  · refine es_forEnum pD s (by walk_at "ev") (fun i l ρ => ∃ (acc : List (Nat × Pg)) (cov : List Pg) (b c d : Sl), s.drop i = l ∧ acc ++ mvs r i cov l = mvs r 0 [] s ∧ acc.length ≤ 3 * i ∧ cov.length ≤ i ∧
      ρ = [.d (ruD r), .d (stD s), .m (acc.map mvT), .m (stL cov), b, c, d]) ⟨[], [], _, _, _, rfl, rfl, Nat.zero_le _, Nat.zero_le _, rfl⟩ ?_ ?_
    · rintro i x l ρ ⟨acc, cov, b, c, d, h1, h2, h3, h4, rfl⟩
      obtain ⟨m1, m2, m3⟩ := drop_succ_at h1
      walk_at "nm"
      apply es_last
      apply q_if (b := !decide (x ∈ cov))
      · exact et_test (ef_binD (EvF.now (ef_var rfl)) (EvM.now (EvP.m (ep_varm rfl))) rv_niP)
      · intro hx
        rw [Bool.not_eq_true', decide_eq_false_iff_not] at hx
        rw [mvs, if_neg hx] at h2
        apply q_assoc
        · apply q_mid (fun ρ => ∃ d, ρ = [.d (ruD r), .d (stD s), .m ((acc ++ ((([0, 1, 2] : List Pg)).filter (canG r cov x)).map fun e => (i, e)).map mvT), .m (stL cov), .d (nD i), .d (pD x), d])
          · refine es_forR (n := 3) (Inv := fun k ρ => ∃ d, ρ = [.d (ruD r), .d (stD s), .m ((acc ++ ((([0, 1, 2] : List Pg).take k).filter (canG r cov x)).map fun e => (i, e)).map mvT), .m (stL cov), .d (nD i), .d (pD x), d]) ef_int (by decide) ⟨d, by rw [List.take_zero]; simp⟩ ?_ ?_
            · rintro k ρ hk ⟨d, rfl⟩
              obtain ⟨p, hp, hpk⟩ : ∃ p : Pg, (p.val : Int) = (k : Int) ∧ (([0, 1, 2] : List Pg).take (k + 1)) = ([0, 1, 2] : List Pg).take k ++ [p] := by
                have : k = 0 ∨ k = 1 ∨ k = 2 := by omega
                rcases this with rfl | rfl | rfl
                · exact ⟨0, rfl, rfl⟩
                · exact ⟨1, rfl, rfl⟩
                · exact ⟨2, rfl, rfl⟩
              rw [← hp]
              walk_at "nm"
              apply es_last
              apply q_if (b := canG r cov x p)
              · refine EvT.is (et_and (et_test (ef_binD (EvF.now (ef_var rfl)) (EvM.now (EvP.m (ep_varm rfl))) rv_niP)) fun _ => et_val (ef_call (ea_cons (ef_var rfl) (ea_cons (ef_var rfl) (ea_cons (ef_var rfl) ea_nil))) (.mk r x p))) (can_eq r cov x p)
              · intro hg
                apply q_app rfl (x := mvT (i, p))
                · exact ef_tup (ea_cons (ef_var rfl) (ea_cons (ef_var rfl) ea_nil)) (Nat.le_of_ble_eq_true rfl)
                · rw [List.length_map, List.length_append, List.length_map]
                  have : ((([0, 1, 2] : List Pg).take k).filter (canG r cov x)).length ≤ 3 := Nat.le_trans (List.length_filter_le _ _) (by rw [List.length_take]; exact Nat.min_le_right _ _)
                  omega
                walk_at "nm"
                apply q_next
                refine q_end ⟨.d (pD p), ?_⟩
                rw [hpk, List.filter_append, List.filter_cons_of_pos hg, List.filter_nil]
                simp only [List.map_append, List.append_assoc, List.map_cons, List.map_nil]
              · intro hg
                apply q_next
                refine q_end ⟨.d (pD p), ?_⟩
                rw [hpk, List.filter_append, List.filter_cons_of_neg (by rw [hg]; exact Bool.false_ne_true), List.filter_nil, List.append_nil]
            · rintro ρ ⟨d, rfl⟩
              exact ⟨d, rfl⟩
          · rintro ρ ⟨d, rfl⟩
            apply q_app rfl
            · walk_at "ev"
            · rw [List.length_map]; omega
            walk_at "nm"
            refine q_end ⟨acc ++ (([0, 1, 2] : List Pg).filter (canG r cov x)).map (fun e => (i, e)), cov ++ [x], .d (nD i), .d (pD x), d, m2, ?_, ?_, ?_, by rw [← stL_app cov [x]]; rfl⟩
            · rw [← h2, List.append_assoc]
            · rw [List.length_append, List.length_map]
              have : ((([0, 1, 2] : List Pg)).filter (canG r cov x)).length ≤ 3 := List.length_filter_le _ _
              omega
            · rw [List.length_append, List.length_singleton]; omega
      · intro hx
        rw [Bool.not_eq_false', decide_eq_true_eq] at hx
        rw [mvs, if_pos hx] at h2
        apply q_next
        exact q_end ⟨acc, cov, _, _, _, m2, h2, by omega, by omega, rfl⟩
    · rintro i ρ ⟨acc, cov, b, c, d, h1, h2, h3, h4, rfl⟩
      rw [mvs, List.append_nil] at h2
      rw [h2]
      exact ⟨_, _, _, _, rfl⟩
  · rintro ρ ⟨a, b, c, d, rfl⟩
    apply es_last
    apply q_retM rfl
    rfl


theorem mvOf_eq (a b : Da) : (isW a && isW b) = (mvOf (.tup [a, b])).isSome := by
  cases a <;> cases b <;> rfl
inductive gr_is_move (er : Str → Addr) : List Da → Out → Prop
  | mk (x : Da) (h : tyMv x) : gr_is_move er [x] (.f (.bl (mvOf x).isSome))

theorem cal_is_move {f : Addr} {fd : FuncData} (F : FnP K "is_move" s_is_move f fd) (hm : mg "is_move" = some (.ref f)) (G : Glb mg)
    (c_is_whole : Cal P w K mg base 1 "is_whole" ["thing"] (gr_is_whole er)) :
    Cal P w K mg base 2 "is_move" ["thing"] (gr_is_move er) := by
  have hb : Binds K fd ["thing"] [] := F.bindsN fun _ _ _ _ _ _ us hl => match us, hl with | [_], _ => rfl
  refine cal_of (n := 1) F sc_is_move hm hb rfl (by rintro ds r h; cases h <;> rfl) (fun cdv A outer s H E hr => ⟨_, (pss_one (ps_ret (pe_and (pe_callB (isiK (K := K) rfl) (by rfl) G.b_isinstance (by decide +kernel) (pa_cons (pv 0) (pa_cons (pe_bltn (v := .ty "tuple") (by rfl) G.b_tuple (by decide +kernel) rfl) pa_nil))) (pe_and (pe_cmpR (opEq (K := K) hr rfl) (pe_callB (lenK (K := K) rfl) (by rfl) G.b_len (by decide +kernel) (pa_cons (pv 0) pa_nil)) pe_int (nomark _)) (pe_and (pe_cal c_is_whole ⟨rfl, rfl, rfl, rfl, rfl⟩ (hr.mono (by decide)) (by rfl) lets_on (pa_cons (pe_ix (ixK (K := K) rfl) (pv 0) pe_int (fun _ _ => rfl)) pa_nil)) (pe_one (pe_cal c_is_whole ⟨rfl, rfl, rfl, rfl, rfl⟩ (hr.mono (by decide)) (by rfl) lets_on (pa_cons (pe_ix (ixK (K := K) rfl) (pv 0) pe_int (fun _ _ => rfl)) pa_nil)))))))), ?_⟩)
  rintro ds o ⟨x, h⟩
  have hs := ef_isTuple (K := K) (ρ := rho0 1 [x]) (te := tVar 0) (EvF.now (ef_var rfl)) (tyMv_ty h)
  apply es_last
  cases x with
  | tup xs =>
    apply q_ret (x := .bl (true && (decide ((xs.length : Int) = 2) && (mvOf (.tup xs)).isSome)))
    · refine ef_andV hs fun _ => ef_andV (ef_binD (EvF.now (ef_lenT (ef_var rfl))) (EvF.now ef_int) rv_eqi) fun h2 => ?_
      rw [decide_eq_true_eq] at h2
      match xs, h, h2 with
      | [a, b], h, h2 =>
        rw [← mvOf_eq]
        exact ef_andV (ef_call (ea_cons (ef_binF (ef_var rfl) ef_int (rf_ix (atI_nat (j := 0) rfl))) ea_nil) (.mk a (h a List.mem_cons_self))) fun _ => ef_call (ea_cons (ef_binF (ef_var rfl) ef_int (rf_ix (atI_nat (j := 1) rfl))) ea_nil) (.mk b (h b (List.mem_cons_of_mem _ List.mem_cons_self)))
      | [], _, h2 => exact absurd h2 (by decide)
      | [a], _, h2 => exact absurd h2 (by simp)
      | a :: b :: c :: l, _, h2 =>
        rw [List.length_cons, List.length_cons, List.length_cons] at h2
        exact absurd h2 (by omega)
    · refine congrArg (fun z => Out.f (.bl z)) ?_
      match xs with
      | [] => rfl
      | [a] => cases a <;> rfl
      | [a, b] => rfl
      | a :: b :: c :: l =>
        rw [decide_eq_false (by rw [List.length_cons, List.length_cons, List.length_cons]; omega)]
        cases a <;> cases b <;> rfl
  | _ =>
    apply q_ret (x := .bl (false && false))
    · exact ef_andV hs fun z => by cases z
    · rfl


inductive gr_state_of (er : Str → Addr) : List Da → Out → Prop
  | mk (k n : Nat) (hk : k ≤ 1000) (hn : n < 3 ^ k) : gr_state_of er [nD k, nD n] (.n (stL (sto k n)))
  | bad1 (x y : Da) (hx : hasTy x) (h : isW x = false) : gr_state_of er [x, y] (.e (er "BadNumber"))
  | bad2 (i : Int) (y : Da) (hy : hasTy y) (h : isW y = false) : gr_state_of er [.int i, y] (.e (er "BadNumber"))
  | bad3 (i n : Int) (h : i < 0 ∨ n < 0) : gr_state_of er [.int i, .int n] (.e (er "BadNumber"))
  | bad4 (k n : Nat) (hk : k ≤ 1000) (hn : 3 ^ k ≤ n) : gr_state_of er [nD k, nD n] (.e (er "BadNumber"))

theorem cal_state_of {f : Addr} {fd : FuncData} (F : FnP K "state_of" s_state_of f fd) (hm : mg "state_of" = some (.ref f)) (G : Glb mg) (e_BadNumber : ErrC K mg "BadNumber" (er "BadNumber"))
    (c_is_whole : Cal P w K mg base 1 "is_whole" ["thing"] (gr_is_whole er)) :
    Cal P w K mg base 2 "state_of" ["discs", "number"] (gr_state_of er) := by
  have hb : Binds K fd ["discs", "number"] [] := F.bindsN fun _ _ _ _ _ _ us hl => match us, hl with | [_, _], _ => rfl
  refine cal_of (n := 8) F sc_state_of hm hb rfl (by rintro ds r h; cases h <;> rfl) (fun cdv A outer s H E hr => ⟨_, (pss_cons (ps_if (PW.pt (pw_or (pt_not (pt_val (pe_cal c_is_whole ⟨rfl, rfl, rfl, rfl, rfl⟩ (hr.mono (by decide)) (by rfl) lets_on (pa_cons (pv 0) pa_nil)))) (pw_or (pt_not (pt_val (pe_cal c_is_whole ⟨rfl, rfl, rfl, rfl, rfl⟩ (hr.mono (by decide)) (by rfl) lets_on (pa_cons (pv 1) pa_nil)))) (pw_or (pt_cmpR op_lt (pv 0) pe_int (nomark _)) (pw_or1 (pt_cmpR op_lt (pv 1) pe_int (nomark _))))))) (pss_one (raise_own e_BadNumber (by rfl))) pss_nil)
      (pss_cons (ps_set (i := 2) sc_state_of.nd rfl (Or.inl rfl) (pe_lst pa_nil))
      (pss_cons (ps_for loops_on rfl (pi_range1 rfl G.b_range (pa_cons (pv 0) pa_nil)) (pg_name (i := 3) sc_state_of.nd rfl (Or.inl rfl)) (pss_cons (ps_expr (appPE (K := K) rfl (pe_bm PySem.F.plainAttrs_list PySem.F.slot_list_append PySem.F.type_list_append mt_append (pv 2) (pa_cons (pe_op op_mod (pv 1) pe_int) pa_nil))))
      (pss_one (ps_set (i := 1) sc_state_of.nd rfl (Or.inl rfl) (pe_op op_fdiv (pv 1) pe_int)))))
      (pss_cons (ps_if (pt_cmpR op_gt (pv 1) pe_int (nomark _)) (pss_one (raise_own e_BadNumber (by rfl))) pss_nil)
      (pss_cons (ps_set (i := 4) sc_state_of.nd rfl (Or.inl rfl) (pe_lst pa_nil))
      (pss_cons (ps_set (i := 5) sc_state_of.nd rfl (Or.inl rfl) pe_bl)
      (pss_cons (ps_for loops_on rfl (revPI (K := K) rfl (pi_reversed rfl G.b_reversed (pa_cons (pv 2) pa_nil))) (pg_name (i := 6) sc_state_of.nd rfl (Or.inl rfl)) (pss_cons (ps_set (i := 7) sc_state_of.nd rfl (Or.inl rfl) (pe_ifExp (pt_val (pv 5)) (pe_op op_sub pe_int (pv 6)) (pv 6)))
      (pss_cons (ps_expr (appPE (K := K) rfl (pe_bm PySem.F.plainAttrs_list PySem.F.slot_list_append PySem.F.type_list_append mt_append (pv 4) (pa_cons (pv 7) pa_nil))))
      (pss_one (ps_set (i := 5) sc_state_of.nd rfl (Or.inl rfl) (pe_cmpR (opNe (K := K) hr rfl) (pv 5) (pe_cmpR (opEq (K := K) hr rfl) (pv 7) pe_int (nomark _)) (nomark _)))))))
      (pss_one (ps_ret (revK (K := K) rfl (pv 4))))))))))), ?_⟩)
  rintro ds o h
  cases h with
  | bad1 x y hx hb =>
    walk_at "nm"
    apply q_if (b := true)
    · refine EvT.is (et_or (b := false) (et_not (et_val (ef_call (ea_cons (ef_var rfl) ea_nil) (.mk x hx)))) fun z => ?_) (by rw [hb]; rfl)
      rw [hb] at z
      cases z
    · intro _
      exact q_raise rfl
    · intro z; cases z
  | bad2 i y hy hb =>
    walk_at "nm"
    apply q_if (b := true)
    · refine EvT.is (et_or (et_not (et_val (ef_call (ea_cons (ef_var rfl) ea_nil) (.mk (.int i) trivial)))) fun _ => et_or (b := false) (et_not (et_val (ef_call (ea_cons (ef_var rfl) ea_nil) (.mk y hy)))) fun z => ?_) (by rw [hb]; rfl)
      rw [hb] at z
      cases z
    · intro _
      exact q_raise rfl
    · intro z; cases z
  | bad3 i n hb =>
    walk_at "nm"
    apply q_if (b := true)
    · refine EvT.is (et_or (et_not (et_val (ef_call (ea_cons (ef_var rfl) ea_nil) (.mk _ trivial)))) fun _ => et_or (et_not (et_val (ef_call (ea_cons (ef_var rfl) ea_nil) (.mk _ trivial)))) fun _ => et_or (et_test (ef_binD (EvF.now (ef_var rfl)) (EvF.now ef_int) rv_lt)) fun _ => et_test (ef_binD (EvF.now (ef_var rfl)) (EvF.now ef_int) rv_lt)) ?_
      rcases hb with hb | hb
      · rw [decide_eq_true hb]
        rfl
      · rw [decide_eq_true hb, Bool.or_true]
        rfl
    · intro _
      exact q_raise rfl
    · intro z; cases z
  | bad4 k n hk hn =>
    walk_at "nm"
    apply q_if (b := false)
    · refine EvT.is (et_or (et_not (et_val (ef_call (ea_cons (ef_var rfl) ea_nil) (.mk _ trivial)))) fun _ => et_or (et_not (et_val (ef_call (ea_cons (ef_var rfl) ea_nil) (.mk _ trivial)))) fun _ => et_or (et_test (ef_binD (EvF.now (ef_var rfl)) (EvF.now ef_int) rv_lt)) fun _ => et_test (ef_binD (EvF.now (ef_var rfl)) (EvF.now ef_int) rv_lt)) ?_
      rw [decide_eq_false (show ¬ (k : Int) < 0 by omega), decide_eq_false (show ¬ (n : Int) < 0 by omega)]
      rfl
    · intro z; cases z
    intro _
    apply q_next
    apply q_asgN (xs := stL (digs 0 n))
    · exact en_lst ea_nil (Nat.zero_le _)
    walk_at "nm"
    apply q_mid (fun ρ => ∃ a, ρ = [.d (nD k), .d (nD (n / 3 ^ k)), .m (stL (digs k n)), a, .un, .un, .un, .un])
    · refine es_forR (n := k) (Inv := fun i ρ => ∃ a, ρ = [.d (nD k), .d (nD (n / 3 ^ i)), .m (stL (digs i n)), a, .un, .un, .un, .un]) (by walk_at "ev") (by omega) ⟨.un, by simp [digs]⟩ ?_ (fun ρ h => h)
      rintro i ρ hi ⟨a, rfl⟩
      walk_at "nm"
      apply q_app rfl (x := pD ⟨n / 3 ^ i % 3, Nat.mod_lt _ (by decide)⟩)
      · exact EvF.is (by walk_at "ev") (by simp [nD])
      · rw [List.length_map, digs_len]; omega
      walk_at "nm"
      apply es_last
      apply q_asg (x := nD (n / 3 ^ (i + 1)))
      · refine EvF.is (by walk_at "ev") ?_
        rw [Nat.pow_succ, ← Nat.div_div_eq_div_mul]
        rfl
      walk_at "nm"
      refine q_end ⟨.d (nD i), ?_⟩
      rw [digs_snoc, ← stL_app]
      rfl
    rintro ρ ⟨a, rfl⟩
    walk_at "nm"
    have hq : 0 < n / 3 ^ k := Nat.div_pos hn (pow3_pos k)
    apply q_if (b := true)
    · refine EvT.is (by walk_at "ev") ?_
      rw [decide_eq_true_eq]
      omega
    · intro _
      exact q_raise rfl
    · intro z; cases z
  | mk k n hk hn =>
    walk_at "nm"
    apply q_if (b := false)
    · refine EvT.is (et_or (et_not (et_val (ef_call (ea_cons (ef_var rfl) ea_nil) (.mk _ trivial)))) fun _ => et_or (et_not (et_val (ef_call (ea_cons (ef_var rfl) ea_nil) (.mk _ trivial)))) fun _ => et_or (et_test (ef_binD (EvF.now (ef_var rfl)) (EvF.now ef_int) rv_lt)) fun _ => et_test (ef_binD (EvF.now (ef_var rfl)) (EvF.now ef_int) rv_lt)) ?_
      rw [decide_eq_false (show ¬ (k : Int) < 0 by omega), decide_eq_false (show ¬ (n : Int) < 0 by omega)]
      rfl
    · intro z; cases z
    intro _
    apply q_next
    apply q_asgN (xs := stL (digs 0 n))
    · exact en_lst ea_nil (Nat.zero_le _)
    walk_at "nm"
    apply q_mid (fun ρ => ∃ a, ρ = [.d (nD k), .d (nD (n / 3 ^ k)), .m (stL (digs k n)), a, .un, .un, .un, .un])
    · refine es_forR (n := k) (Inv := fun i ρ => ∃ a, ρ = [.d (nD k), .d (nD (n / 3 ^ i)), .m (stL (digs i n)), a, .un, .un, .un, .un]) (by walk_at "ev") (by omega) ⟨.un, by simp [digs]⟩ ?_ (fun ρ h => h)
      rintro i ρ hi ⟨a, rfl⟩
      walk_at "nm"
      apply q_app rfl (x := pD ⟨n / 3 ^ i % 3, Nat.mod_lt _ (by decide)⟩)
      · exact EvF.is (by walk_at "ev") (by simp [nD])
      · rw [List.length_map, digs_len]; omega
      walk_at "nm"
      apply es_last
      apply q_asg (x := nD (n / 3 ^ (i + 1)))
      · refine EvF.is (by walk_at "ev") ?_
        rw [Nat.pow_succ, ← Nat.div_div_eq_div_mul]
        rfl
      walk_at "nm"
      refine q_end ⟨.d (nD i), ?_⟩
      rw [digs_snoc, ← stL_app]
      rfl
    rintro ρ ⟨a, rfl⟩
    walk_at "nm"
    apply q_if (b := false)
    · refine EvT.is (by walk_at "ev") ?_
      rw [Nat.div_eq_of_lt hn]
      rfl
    · intro z; cases z
    intro _
    apply q_next
    apply q_asgN (xs := stL [])
    · exact en_lst ea_nil (Nat.zero_le _)
    walk_at "nm"
    walk_at "st"
    refine q_frz 2 (xs := stL (digs k n)) rfl ?_
    walk_at "nm"
    apply q_mid (fun ρ => ∃ a b c d e f g, ρ = [a, b, c, d, .m (stL (ufg false (digs k n).reverse)), e, f, g])
    · refine es_forRev pD (digs k n) (ef_varl rfl) (fun l ρ => ∃ o acc a' b, acc ++ ufg o l = ufg false (digs k n).reverse ∧ ρ = [.d (nD k), .d (nD (n / 3 ^ k)), .l (stL (digs k n)), a, .m (stL acc), .d (.bl o), a', b]) ⟨false, [], _, _, rfl, rfl⟩ ?_ ?_
      · rintro f l ρ ⟨o, acc, a', b, h, rfl⟩
        have hl : acc.length ≤ k := by
          have := congrArg List.length h
          rw [List.length_append, ufg_len, ufg_len, List.length_reverse, digs_len] at this
          omega
        walk_at "nm"
        apply q_asg (x := pD (fg1 o f))
        · refine ef_if (b := o) (et_val (ef_var rfl)) (fun h => EvF.is (by walk_at "ev") ?_) (fun h => EvF.is (by walk_at "ev") ?_)
          · show Da.int _ = Da.int ((fg1 o f).val : Int)
            rw [← fg1_int, if_pos h]
          · show Da.int _ = Da.int ((fg1 o f).val : Int)
            rw [← fg1_int, if_neg (by rw [h]; exact Bool.false_ne_true)]
        walk_at "nm"
        apply q_app rfl
        · walk_at "ev"
        · rw [List.length_map]; omega
        walk_at "nm"
        apply es_last
        apply q_asg (x := .bl (flp o (fg1 o f)))
        · exact EvF.is (by walk_at "ev") (congrArg Da.bl (flp_eq o _))
        walk_at "nm"
        rw [ufg] at h
        refine q_end ⟨_, acc ++ [fg1 o f], .d (pD f), .d (pD (fg1 o f)), by rw [List.append_assoc]; exact h, ?_⟩
        rw [← stL_app]
        rfl
      · rintro ρ ⟨o, acc, a', b, h, rfl⟩
        rw [ufg, List.append_nil] at h
        rw [h]
        exact ⟨_, _, _, _, _, _, _, rfl⟩
    · rintro ρ ⟨_, _, _, _, _, _, _, rfl⟩
      apply es_last
      apply q_retN
      · walk_at "ev"
      · show Out.n _ = Out.n _
        rw [sto, stL, stL, List.map_reverse]


theorem pD_if (c : Bool) (a b : Pg) : (if c = true then pD a else pD b) = pD (if c = true then a else b) := by cases c <;> rfl
inductive gr__law_state (er : Str → Addr) : List Da → Out → Prop
  | mk (ns : List Int) (b : Nat) (h : ns.length ≤ 63) : gr__law_state er [scD ns, nD b] (.n (stL (lawS ns b)))

theorem cal__law_state {f : Addr} {fd : FuncData} (F : FnP K "_law_state" s__law_state f fd) (hm : mg "_law_state" = some (.ref f)) (G : Glb mg)
    (c__law_draw : Cal P w K mg base 1 "_law_draw" ["_law_cell", "_law_k", "_law_many"] (gr__law_draw er))
    (c__law_cell_at : Cal P w K mg base 1 "_law_cell_at" ["_law_script", "_law_k"] (gr__law_cell_at er)) :
    Cal P w K mg base 2 "_law_state" ["_law_script", "_law_by"] (gr__law_state er) := by
  have hb : Binds K fd ["_law_script", "_law_by"] [] := F.bindsN fun _ _ _ _ _ _ us hl => match us, hl with | [_, _], _ => rfl
  refine cal_of (n := 6) F sc__law_state hm hb rfl (by rintro ds r h; cases h <;> rfl) (fun cdv A outer s H E hr => ⟨_, (pss_cons (ps_set (i := 2) sc__law_state.nd rfl (Or.inl rfl) (pe_cal c__law_draw ⟨rfl, rfl, rfl, rfl, rfl⟩ (hr.mono (by decide)) (by rfl) lets_on (pa_cons (pe_cal c__law_cell_at ⟨rfl, rfl, rfl, rfl, rfl⟩ (hr.mono (by decide)) (by rfl) lets_on (pa_cons (pv 0) (pa_cons pe_int pa_nil))) (pa_cons pe_int (pa_cons pe_int pa_nil)))))
      (pss_cons (ps_set (i := 3) sc__law_state.nd rfl (Or.inl rfl) (pe_lst pa_nil))
      (pss_cons (ps_for loops_on rfl (pi_range1 rfl G.b_range (pa_cons (pe_callB (lenK (K := K) rfl) (by rfl) G.b_len (by decide +kernel) (pa_cons (pv 0) pa_nil)) pa_nil)) (pg_name (i := 4) sc__law_state.nd rfl (Or.inl rfl)) (pss_cons (ps_set (i := 5) sc__law_state.nd rfl (Or.inl rfl) (pe_cal c__law_draw ⟨rfl, rfl, rfl, rfl, rfl⟩ (hr.mono (by decide)) (by rfl) lets_on (pa_cons (pe_ix (ixK (K := K) rfl) (pv 0) (pv 4) (fun _ _ => rfl)) (pa_cons (pe_op opAdd (pe_op op_mod (pv 4) pe_int) (pv 1)) (pa_cons pe_int pa_nil)))))
      (pss_cons (ps_if (PW.pt (pw_and (pt_cmpR (opEq (K := K) hr rfl) (pv 2) pe_int (nomark _)) (pw_and1 (pt_cmpR op_gt (pe_cal c__law_draw ⟨rfl, rfl, rfl, rfl, rfl⟩ (hr.mono (by decide)) (by rfl) lets_on (pa_cons (pe_ix (ixK (K := K) rfl) (pv 0) (pv 4) (fun _ _ => rfl)) (pa_cons (pe_op opAdd (pe_op op_mod (pv 4) pe_int) (pv 1)) (pa_cons pe_int pa_nil)))) pe_int (nomark _))))) (pss_one (ps_set (i := 5) sc__law_state.nd rfl (Or.inl rfl) pe_int)) pss_nil)
      (pss_cons (ps_if (PW.pt (pw_and (pt_cmpR (opEq (K := K) hr rfl) (pv 2) pe_int (nomark _)) (pw_and1 (pt_cmpR op_gt (pv 4) (pe_op op_fdiv (pe_callB (lenK (K := K) rfl) (by rfl) G.b_len (by decide +kernel) (pa_cons (pv 0) pa_nil)) pe_int) (nomark _))))) (pss_one (ps_set (i := 5) sc__law_state.nd rfl (Or.inl rfl) pe_int)) pss_nil)
      (pss_cons (ps_if (pt_cmpR (opEq (K := K) hr rfl) (pv 2) pe_int (nomark _)) (pss_one (ps_set (i := 3) sc__law_state.nd rfl (Or.inl rfl) (pe_op opAdd (pv 3) (pe_op opMul (pe_lst (pa_cons (pv 5) pa_nil)) (pe_cal c__law_draw ⟨rfl, rfl, rfl, rfl, rfl⟩ (hr.mono (by decide)) (by rfl) lets_on (pa_cons (pe_ix (ixK (K := K) rfl) (pv 0) (pv 4) (fun _ _ => rfl)) (pa_cons (pe_op opAdd (pe_op op_mod (pv 4) pe_int) pe_int) (pa_cons pe_int pa_nil)))))))) pss_nil)
      (pss_one (ps_expr (appPE (K := K) rfl (pe_bm PySem.F.plainAttrs_list PySem.F.slot_list_append PySem.F.type_list_append mt_append (pv 3) (pa_cons (pv 5) pa_nil))))))))))
      (pss_one (ps_ret (pv 3)))))), ?_⟩)
  rintro ds o ⟨ns, b, hns⟩
  walk_at "nm"
  have hdr : ∀ (ρ : Rho) (ta tb : TE) (c : Int) (k m : Nat), 0 < m → EvF K ta ρ (.int c) → EvF K tb ρ (nD k) → EvF K (tCall (spD K (gr__law_draw er)) [] E (tCons ta (tCons tb (tCons (tC (.int (m : Int))) tNil)))) ρ (nD (drw c k m)) :=
    fun ρ ta tb c k m h h1 h2 => ef_call (ea_cons h1 (ea_cons h2 (ea_cons ef_int ea_nil))) (.mk c k m h)
  apply q_asg (x := nD (drw (cel ns 0) 6 5))
  · exact hdr _ _ _ _ 6 5 (by decide) (ef_call (ea_cons (ef_var rfl) (ea_cons ef_int ea_nil)) (.mk ns 0)) ef_int
  walk_at "nm"
  apply q_asgN (xs := stL [])
  · exact en_lst ea_nil (by decide)
  walk_at "nm"
  generalize hkd : drw (cel ns 0) 6 5 = kd
  apply q_mid (fun ρ => ∃ c d, ρ = [.d (scD ns), .d (nD b), .d (nD kd), .m (stL (lawS ns b)), c, d])
  · refine es_forR (n := ns.length) (Inv := fun i ρ => ∃ f c d, runS kd ns.length b f i (ns.drop i) = lawS ns b ∧ f.length ≤ 3 * i ∧ ρ = [.d (scD ns), .d (nD b), .d (nD kd), .m (stL f), c, d]) ?_ (by omega) ⟨[], _, _, by rw [← hkd]; rfl, Nat.zero_le _, rfl⟩ ?_ ?_
    · apply EvF.is
      · walk_at "ev"
      · rw [List.length_map]
    · rintro i ρ hi ⟨f, c, d, h1, h2, rfl⟩
      rw [List.drop_eq_getElem_cons hi, runS] at h1
      have hc : ∀ (d : Sl), EvF K (tOp (rIx K) (tVar 0) (tVar 4)) [.d (scD ns), .d (nD b), .d (nD kd), .m (stL f), .d (nD i), d] (.int ns[i]) := fun d => by
        have e : cel ns i = ns[i] := by rw [cel, List.getD_eq_getElem?_getD, List.getElem?_eq_getElem hi]; rfl
        rw [← e]
        exact ef_binM (EvF.m (ef_var rfl)) (ef_var rfl) (rm_ix (sc_at hi))
      walk_at "nm"
      -- the peg
      apply q_asg (x := pD (drP ns[i] (i % 5 + b)))
      · refine hdr _ _ _ _ (i % 5 + b) 3 (by decide) (hc _) ?_
        walk_at "evr"
      walk_at "nm"
      apply q_ifAsg (x := pD 1)
      · refine et_and (a := decide ((kd : Int) = 1)) (b := decide (0 < drw ns[i] (i % 7 + b) 4)) ?_ fun _ => ?_
        · walk_at "ev"
        · refine EvT.is (et_test (ef_binD (EvF.now (hdr _ _ _ _ (i % 7 + b) 4 (by decide) (hc _) (by walk_at "evr"))) (EvF.now ef_int) rv_gt)) ?_
          simp
      · intro _; exact ef_int
      · rfl
      rw [pD_if]
      walk_at "nm"
      apply q_ifAsg (x := pD 2)
      · refine et_and (a := decide ((kd : Int) = 2)) (b := decide (ns.length / 2 < i)) ?_ fun _ => ?_
        · walk_at "ev"
        · apply EvT.is
          · walk_at "ev"
          rw [List.length_map]
          by_cases hh : ns.length / 2 < i
          · rw [decide_eq_true hh, decide_eq_true (by omega)]
          · rw [decide_eq_false hh, decide_eq_false (by omega)]
      · intro _; exact ef_int
      · rfl
      rw [pD_if]
      walk_at "nm"
      have hp : (if (decide ((kd : Int) = 2) && decide (ns.length / 2 < i)) = true then (2 : Pg) else if (decide ((kd : Int) = 1) && decide (0 < drw ns[i] (i % 7 + b) 4)) = true then 1 else drP ns[i] (i % 5 + b)) = peg1 kd ns.length b i ns[i] := by
        unfold peg1
        simp only [Bool.and_eq_true, decide_eq_true_eq]
        have e1 : ((kd : Int) = 2) ↔ kd = 2 := by omega
        have e2 : ((kd : Int) = 1) ↔ kd = 1 := by omega
        simp only [e1, e2]
      rw [hp]
      apply q_mid (fun ρ => ρ = [.d (scD ns), .d (nD b), .d (nD kd), .m (stL (if kd = 3 then f ++ List.replicate (drw ns[i] (i % 6 + 7) 3) (peg1 kd ns.length b i ns[i]) else f)), .d (nD i), .d (pD (peg1 kd ns.length b i ns[i]))])
      · apply es_last
        apply q_if
        · walk_at "ev"
        · intro hk
          have hk' : kd = 3 := by rw [decide_eq_true_eq] at hk; omega
          apply q_asgN (xs := stL (f ++ List.replicate (drw ns[i] (i % 6 + 7) 3) (peg1 kd ns.length b i ns[i])))
          · have hr := drw_lt ns[i] (i % 6 + 7) 3 (by decide)
            refine EvN.is (en_binP (ep_varm rfl) (EvN.p (en_binR (xs := [pD (peg1 kd ns.length b i ns[i])]) (EvN.p (by walk_at "ev")) (hdr _ _ _ _ (i % 6 + 7) 3 (by decide) (hc _) (by walk_at "evr")) (rr_mul ?_ ?_ ?_))) (rp_add ?_)) ?_
            · rw [Int.toNat_natCast, List.length_singleton]; omega
            · omega
            · omega
            · rw [rep_one, List.length_map, List.length_map, List.length_replicate]; omega
            · rw [rep_one, stL_app]
          walk_at "nm"
          apply q_end
          rw [if_pos hk']
        · intro hk
          have hk' : ¬ kd = 3 := by rw [decide_eq_false_iff_not] at hk; omega
          apply q_next
          apply q_end
          rw [if_neg hk']
      · rintro ρ rfl
        apply es_last
        apply q_app rfl
        · walk_at "ev"
        · rw [List.length_map]
          have hr := drw_lt ns[i] (i % 6 + 7) 3 (by decide)
          split
          · rw [List.length_append, List.length_replicate]; omega
          · omega
        walk_at "nm"
        refine q_end ⟨turnS kd ns.length b f i ns[i], .d (nD i), .d (pD (peg1 kd ns.length b i ns[i])), h1, ?_, ?_⟩
        · have := turnS_le kd ns.length b f i ns[i]
          omega
        · rw [turnS, ← stL_app]
          rfl
    · rintro ρ ⟨f, c, d, h1, h2, rfl⟩
      rw [List.drop_length, runS] at h1
      rw [h1]
      exact ⟨_, _, rfl⟩
  · rintro ρ ⟨c, d, rfl⟩
    walk_at "st"
    rfl


theorem ru_at (k : Nat) (h : k < 3) : atI [Da.str "free", Da.str "line", Da.str "round"] (k : Int) = some (ruD (ruAt k)) := by
  have : k = 0 ∨ k = 1 ∨ k = 2 := by omega
  rcases this with rfl | rfl | rfl <;> rfl
inductive gr__law_rule (er : Str → Addr) : List Da → Out → Prop
  | mk (ns : List Int) (k : Nat) : gr__law_rule er [scD ns, nD k] (.f (ruD (lawR ns k)))

theorem cal__law_rule {f : Addr} {fd : FuncData} (F : FnP K "_law_rule" s__law_rule f fd) (hm : mg "_law_rule" = some (.ref f)) (G : Glb mg)
    (c__law_draw : Cal P w K mg base 1 "_law_draw" ["_law_cell", "_law_k", "_law_many"] (gr__law_draw er))
    (c__law_cell_at : Cal P w K mg base 1 "_law_cell_at" ["_law_script", "_law_k"] (gr__law_cell_at er)) :
    Cal P w K mg base 2 "_law_rule" ["_law_script", "_law_k"] (gr__law_rule er) := by
  have hb : Binds K fd ["_law_script", "_law_k"] [] := F.bindsN fun _ _ _ _ _ _ us hl => match us, hl with | [_, _], _ => rfl
  refine cal_of (n := 2) F sc__law_rule hm hb rfl (by rintro ds r h; cases h <;> rfl) (fun cdv A outer s H E hr => ⟨_, (pss_one (ps_ret (pe_ix (ixK (K := K) rfl) (pe_tup (pa_cons pe_str (pa_cons pe_str (pa_cons pe_str pa_nil)))) (pe_cal c__law_draw ⟨rfl, rfl, rfl, rfl, rfl⟩ (hr.mono (by decide)) (by rfl) lets_on (pa_cons (pe_cal c__law_cell_at ⟨rfl, rfl, rfl, rfl, rfl⟩ (hr.mono (by decide)) (by rfl) lets_on (pa_cons (pv 0) (pa_cons (pv 1) pa_nil))) (pa_cons (pe_op opAdd (pv 1) pe_int) (pa_cons pe_int pa_nil)))) (fun _ _ => rfl)))), ?_⟩)
  rintro ds o ⟨ns, k⟩
  apply es_last
  apply q_ret (x := ruD (lawR ns k))
  · refine ef_binF (x := .tup [.str "free", .str "line", .str "round"]) (by walk_at "ev") (y := nD (drw (cel ns k) (k + 1) 3)) ?_ (rf_ix (ru_at _ (drw_lt _ _ _ (by decide))))
    exact ef_call (ea_cons (ef_call (ea_cons (ef_var rfl) (ea_cons (ef_var rfl) ea_nil)) (.mk ns k)) (ea_cons (x := nD (k + 1)) (by walk_at "evr") (ea_cons ef_int ea_nil))) (.mk (cel ns k) (k + 1) 3 (by decide))
  · rfl


/-- what is no state -/
def badState : Da → Prop
  | .lst xs => (∀ x ∈ xs, hasTy x) ∧ (∃ x ∈ xs, isP x = false) ∧ xs.length ≤ 1000
  | x => hasTy x
theorem badState_ty {x : Da} (h : badState x) : hasTy x := by cases x <;> first | trivial | exact h
inductive gr_check_state (er : Str → Addr) : List Da → Out → Prop
  | mk (s : List Pg) (h : s.length ≤ 1000) : gr_check_state er [stD s] (.f .non)
  | bad (x : Da) (h : badState x) : gr_check_state er [x] (.e (er "BadState"))

theorem cal_check_state {f : Addr} {fd : FuncData} (F : FnP K "check_state" s_check_state f fd) (hm : mg "check_state" = some (.ref f)) (G : Glb mg) (e_BadState : ErrC K mg "BadState" (er "BadState"))
    (c_is_peg : Cal P w K mg base 2 "is_peg" ["thing"] (gr_is_peg er)) :
    Cal P w K mg base 3 "check_state" ["state"] (gr_check_state er) := by
  have hb : Binds K fd ["state"] [] := F.bindsN fun _ _ _ _ _ _ us hl => match us, hl with | [_], _ => rfl
  refine cal_of (n := 2) F sc_check_state hm hb rfl (by rintro ds r h; cases h <;> rfl) (fun cdv A outer s H E hr => ⟨_, (pss_one (ps_if (PW.pt (pw_or (pt_not (pt_val (pe_callB (isiK (K := K) rfl) (by rfl) G.b_isinstance (by decide +kernel) (pa_cons (pv 0) (pa_cons (pe_bltn (v := .ty "list") (by rfl) G.b_list (by decide +kernel) rfl) pa_nil))))) (pw_or1 (pt_not (pt_val (pe_callB (allK (K := K) rfl rfl) (by rfl) G.b_all (by decide +kernel) (pa_cons (pe_lc (own := [("peg", 1)]) rfl sc_check_state.nd (listPI (K := K) rfl (pi_list (pv 0))) (blkOk_by (N := n_check_state) (sc := defScope s_check_state) (by decide +kernel)) (fun _ _ _ _ _ => (pg_name (i := 1) sc_check_state.nd rfl (Or.inl rfl))) (fun _ _ _ _ _ => pts_nil) (fun _ _ _ _ _ => (pe_cal c_is_peg ⟨rfl, rfl, rfl, rfl, rfl⟩ (hr.mono (by decide)) (by rfl) passN (pa_cons (pv 1) pa_nil)))) pa_nil))))))) (pss_one (raise_own e_BadState (by rfl))) pss_nil)), ?_⟩)
  have hall : ∀ xs : List Da, xs.length ≤ 1000 → (∀ x ∈ xs, hasTy x) → EvT K (tNot (tB (tCB (rAll K) (tCons (tLc (iList K (tVar 0)) (gName 1) tYes (tCall (spD K (gr_is_peg er)) [] E0 (tCons (tVar 1) tNil)) [1]) tNil)))) [.d (.lst xs), .un] (!(xs.all isP)) := by
    intro xs hl hx
    have h1 : EvN K (tLc (iList K (tVar 0)) (gName 1) tYes (tCall (spD K (gr_is_peg er)) [] E0 (tCons (tVar 1) tNil)) [1]) [.d (.lst xs), .un] ((xs.map isP).map Da.bl) := by
      have := en_lcL (K := K) (ρ := [.d (.lst xs), .un]) (ts := tVar 0) (tt := tYes) (te := tCall (spD K (gr_is_peg er)) [] E0 (tCons (tVar 1) tNil)) (j := 1) (vs := [1]) id xs (fun _ => true) (fun x => .bl (isP x)) (by rw [List.map_id]; exact ef_var rfl) (by omega) (by simp) (fun _ _ => et_yes)
        (fun x hm _ => ef_call (by walk_at "ev") (.mk x (hx x hm)))
      rw [filter_yes] at this
      rw [List.map_map]
      exact this
    have h2 := et_not (et_val (ef_all (EvP.m (EvN.p h1))))
    refine EvT.is h2 ?_
    rw [List.all_map]
    rfl
  rintro ds o h
  cases h with
  | mk s hs =>
    apply es_last
    apply q_if (b := false)
    · refine EvT.is (et_or (et_not (et_val (ef_isList (EvF.now (ef_var rfl)) trivial))) fun _ => hall (stL s) (by rw [List.length_map]; exact hs) (fun x hx => ?_)) ?_
      · obtain ⟨p, _, rfl⟩ := List.mem_map.mp hx
        trivial
      · have : (stL s).all isP = true := by
          rw [List.all_eq_true]
          intro x hx
          obtain ⟨p, _, rfl⟩ := List.mem_map.mp hx
          exact isP_pD p
        rw [this]
        rfl
    · intro z; cases z
    · intro _
      apply q_next
      exact q_end rfl
  | bad x hb =>
    apply es_last
    apply q_if (b := true)
    · have hs := et_not (et_val (ef_isList (K := K) (ρ := rho0 2 [x]) (te := tVar 0) (EvF.now (ef_var rfl)) (badState_ty hb)))
      cases x with
      | lst xs =>
        obtain ⟨b1, ⟨y, hy, hp⟩, b3⟩ := hb
        refine EvT.is (et_or hs fun _ => hall xs b3 b1) ?_
        have : xs.all isP = false := by
          rw [List.all_eq_false]
          exact ⟨y, hy, by rw [hp]; exact Bool.false_ne_true⟩
        rw [this]
        rfl
      | _ => exact et_or (b := false) hs fun z => by cases z
    · intro _
      exact q_raise rfl
    · intro z; cases z


def badPeg (x : Da) : Prop := hasTy x ∧ isP x = false
inductive gr_check_peg (er : Str → Addr) : List Da → Out → Prop
  | mk (p : Pg) : gr_check_peg er [pD p] (.f .non)
  | bad (x : Da) (h : badPeg x) : gr_check_peg er [x] (.e (er "BadPeg"))

theorem cal_check_peg {f : Addr} {fd : FuncData} (F : FnP K "check_peg" s_check_peg f fd) (hm : mg "check_peg" = some (.ref f)) (G : Glb mg) (e_BadPeg : ErrC K mg "BadPeg" (er "BadPeg"))
    (c_is_peg : Cal P w K mg base 2 "is_peg" ["thing"] (gr_is_peg er)) :
    Cal P w K mg base 3 "check_peg" ["peg"] (gr_check_peg er) := by
  have hb : Binds K fd ["peg"] [] := F.bindsN fun _ _ _ _ _ _ us hl => match us, hl with | [_], _ => rfl
  refine cal_of (n := 1) F sc_check_peg hm hb rfl (by rintro ds r h; cases h <;> rfl) (fun cdv A outer s H E hr => ⟨_, (pss_one (ps_if (pt_not (pt_val (pe_cal c_is_peg ⟨rfl, rfl, rfl, rfl, rfl⟩ (hr.mono (by decide)) (by rfl) lets_on (pa_cons (pv 0) pa_nil)))) (pss_one (raise_own e_BadPeg (by rfl))) pss_nil)), ?_⟩)
  rintro ds o h
  cases h with
  | mk p =>
    apply es_last
    apply q_if (b := false)
    · refine EvT.is (et_not (et_val (ef_call (by walk_at "ev") (.mk (pD p) trivial)))) ?_
      rw [isP_pD]
      rfl
    · intro z; cases z
    · intro _
      apply q_next
      exact q_end rfl
  | bad x hb =>
    apply es_last
    apply q_if (b := true)
    · refine EvT.is (et_not (et_val (ef_call (by walk_at "ev") (.mk x hb.1)))) ?_
      rw [hb.2]
      rfl
    · intro _
      exact q_raise rfl
    · intro z; cases z


theorem steps_ok (l : List (Pg × Pg)) : okD 58 (.lst (l.map prD)) := okD_mono (by decide) (okD_map (n := 1) (fun p => okD_tup2 (okD_int 0 _) (okD_int 0 _)) l)
theorem steps_emp (r : Ru) (a g : Pg) : ((steps r a g).map prD).isEmpty = decide (a = g) := by
  by_cases h : a = g
  · rw [(steps_nil r a g).mpr h]
    simp [h]
  · obtain ⟨l, e⟩ := steps_head r h
    rw [e]
    simp [h]
/-- the first step of a disc that is to go -/
theorem steps_at (r : Ru) {a g : Pg} (h : ¬ a = g) : atI ((steps r a g).map prD) 0 = some (prD (a, fs r a g)) := by
  obtain ⟨l, e⟩ := steps_head r h
  rw [e]
  exact atI_nat (j := 0) rfl
theorem nx_int (r : Ru) {a g : Pg} (h : ¬ a = g) : 3 - (a.val : Int) - ((fs r a g).val : Int) = ((nx r a g).val : Int) := by
  rw [nx_ne r h]
  exact thi_int _ _ (near_fs r a g h).2.1
inductive gr_goals_of (er : Str → Addr) : List Da → Out → Prop
  | mk (r : Ru) (s : List Pg) (g : Pg) (h : s.length ≤ 1000) : gr_goals_of er [ruD r, stD s, pD g] (.n (stL (gls r s g)))

theorem cal_goals_of {f : Addr} {fd : FuncData} (F : FnP K "goals_of" s_goals_of f fd) (hm : mg "goals_of" = some (.ref f)) (G : Glb mg)
    (c_steps_of : Cal P w K mg base 2 "steps_of" ["rule", "start", "end"] (gr_steps_of er)) :
    Cal P w K mg base 3 "goals_of" ["rule", "state", "peg"] (gr_goals_of er) := by
  have hb : Binds K fd ["rule", "state", "peg"] [] := F.bindsN fun _ _ _ _ _ _ us hl => match us, hl with | [_, _, _], _ => rfl
  refine cal_of (n := 7) F sc_goals_of hm hb rfl (by rintro ds r h; cases h <;> rfl) (fun cdv A outer s H E hr => ⟨_, (pss_cons (ps_set (i := 3) sc_goals_of.nd rfl (Or.inl rfl) (pe_lst pa_nil))
      (pss_cons (ps_set (i := 4) sc_goals_of.nd rfl (Or.inl rfl) (pv 2))
      (pss_cons (ps_for loops_on rfl (revPI (K := K) rfl (pi_reversed rfl G.b_reversed (pa_cons (pv 1) pa_nil))) (pg_name (i := 5) sc_goals_of.nd rfl (Or.inl rfl)) (pss_cons (ps_expr (appPE (K := K) rfl (pe_bm PySem.F.plainAttrs_list PySem.F.slot_list_append PySem.F.type_list_append mt_append (pv 3) (pa_cons (pv 4) pa_nil))))
      (pss_cons (ps_set (i := 6) sc_goals_of.nd rfl (Or.inl rfl) (pe_cal c_steps_of ⟨rfl, rfl, rfl, rfl, rfl⟩ (hr.mono (by decide)) (by rfl) lets_on (pa_cons (pv 0) (pa_cons (pv 5) (pa_cons (pv 4) pa_nil)))))
      (pss_one (ps_if (pt_cmpR (opNe (K := K) hr rfl) (pv 6) (pe_lst pa_nil) (nomark _)) (pss_one (ps_set (i := 4) sc_goals_of.nd rfl (Or.inl rfl) (pe_op op_sub (pe_op op_sub pe_int (pe_ix (ixK (K := K) rfl) (pe_ix (ixK (K := K) rfl) (pv 6) pe_int (fun _ _ => rfl)) pe_int (fun _ _ => rfl))) (pe_ix (ixK (K := K) rfl) (pe_ix (ixK (K := K) rfl) (pv 6) pe_int (fun _ _ => rfl)) pe_int (fun _ _ => rfl))))) pss_nil)))))
      (pss_one (ps_ret (revK (K := K) rfl (pv 3))))))), ?_⟩)
  rintro ds o ⟨r, s, g, hs⟩
  apply q_asgN
  · walk_at "ev"
  apply q_asg (x := pD g)
  · walk_at "ev"
  apply q_mid (fun ρ => ∃ g' a b, ρ = [.d (ruD r), .d (stD s), .d (pD g), .m (stL (goG r s.reverse g)), .d (pD g'), a, b])
  · refine es_forRev pD s (by walk_at "ev") (fun l ρ => ∃ acc g' a b, acc ++ goG r l g' = goG r s.reverse g ∧ ρ = [.d (ruD r), .d (stD s), .d (pD g), .m (stL acc), .d (pD g'), a, b]) ⟨[], g, _, _, rfl, rfl⟩ ?_ ?_
    · rintro x l ρ ⟨acc, g', a, b, he, rfl⟩
      have hl : acc.length ≤ s.length := by
        have := congrArg List.length he
        rw [List.length_append, goG_len, goG_len, List.length_reverse] at this
        omega
      have he' : (acc ++ [g']) ++ goG r l (nx r x g') = goG r s.reverse g := by
        rw [← he, goG, List.append_assoc]
        rfl
      have hm : stL acc ++ [pD g'] = stL (acc ++ [g']) := by
        unfold stL
        rw [List.map_append]
        rfl
      apply q_app rfl
      · walk_at "ev"
      · rw [List.length_map]
        omega
      rw [hm]
      walk_at "st"
      apply es_last
      apply q_if
      · exact et_neNil (EvF.now (ef_var rfl)) (steps_ok _)
      · intro h1
        rw [steps_emp, Bool.not_eq_true', decide_eq_false_iff_not] at h1
        apply q_asg (x := pD (nx r x g'))
        · refine EvF.is ?_ (congrArg Da.int (nx_int r h1))
          have h0 : ∀ ρ', EvF K (tVar 6) ρ' (.lst ((steps r x g').map prD)) → EvF K (tOp (rIx K) (tVar 6) (tC (.int 0))) ρ' (prD (x, fs r x g')) := fun ρ' h => ef_binM h.m ef_int (rm_ix (steps_at r h1))
          refine ef_binD (EvF.now (ef_binD (EvF.now ef_int) (EvF.now (ef_binF (h0 _ (ef_var rfl)) ef_int (rf_ix rfl))) rv_sub)) (EvF.now (ef_binF (h0 _ (ef_var rfl)) ef_int (rf_ix rfl))) rv_sub
        exact q_end ⟨_, _, _, _, he', rfl⟩
      · intro h1
        rw [steps_emp, Bool.not_eq_false', decide_eq_true_eq] at h1
        subst h1
        rw [nx_self] at he'
        apply q_next
        exact q_end ⟨_, _, _, _, he', rfl⟩
    · rintro ρ ⟨acc, g', a, b, he, rfl⟩
      rw [goG, List.append_nil] at he
      exact ⟨_, _, _, by rw [he]⟩
  · rintro ρ ⟨g', a, b, rfl⟩
    apply es_last
    apply q_retN
    · walk_at "ev"
    · show Out.n _ = Out.n _
      rw [gls, stL, stL, List.map_reverse]


theorem bf_self' (r : Ru) (n : Nat) (a : Pg) : bf r n a a = 0 := by unfold bf; rw [if_pos rfl]
theorem thi_thi : ∀ a b : Pg, ¬ a = b → thi a (thi a b) = b ∧ thi (thi a b) b = a ∧ ¬ a = thi a b ∧ ¬ thi a b = b := by decide
inductive gr_behind_first (er : Str → Addr) : List Da → Out → Prop
  | mk (r : Ru) (n : Nat) (a b : Pg) : gr_behind_first er [ruD r, pD a, pD b, twD (tw r n)] (.f (nD (bf r n a b)))

theorem cal_behind_first {f : Addr} {fd : FuncData} (F : FnP K "behind_first" s_behind_first f fd) (hm : mg "behind_first" = some (.ref f)) (G : Glb mg)
    (c_steps_of : Cal P w K mg base 2 "steps_of" ["rule", "start", "end"] (gr_steps_of er))
    (c_tower : Cal P w K mg base 2 "tower" ["rule", "counts", "start", "end"] (gr_tower er)) :
    Cal P w K mg base 3 "behind_first" ["rule", "start", "end", "ahead"] (gr_behind_first er) := by
  have hb : Binds K fd ["rule", "start", "end", "ahead"] [] := F.bindsN fun _ _ _ _ _ _ us hl => match us, hl with | [_, _, _, _], _ => rfl
  refine cal_of (n := 10) F sc_behind_first hm hb rfl (by rintro ds r h; cases h <;> rfl) (fun cdv A outer s H E hr => ⟨_, (pss_cons (ps_set (i := 4) sc_behind_first.nd rfl (Or.inl rfl) (pe_cal c_steps_of ⟨rfl, rfl, rfl, rfl, rfl⟩ (hr.mono (by decide)) (by rfl) lets_on (pa_cons (pv 0) (pa_cons (pv 1) (pa_cons (pv 2) pa_nil)))))
      (pss_cons (ps_set (i := 5) sc_behind_first.nd rfl (Or.inl rfl) pe_int)
      (pss_cons (ps_set (i := 6) sc_behind_first.nd rfl (Or.inl rfl) (pv 2))
      (pss_cons (ps_for loops_on rfl (listPI (K := K) rfl (pi_list (pv 4))) (tupPG (K := K) rfl (pg_tup (n := 2) rfl (pgs_cons (pg_name (i := 7) sc_behind_first.nd rfl (Or.inl rfl)) (pgs_cons (pg_name (i := 8) sc_behind_first.nd rfl (Or.inl rfl)) pgs_nil)))) (pss_cons (ps_set (i := 9) sc_behind_first.nd rfl (Or.inl rfl) (pe_op op_sub (pe_op op_sub pe_int (pv 7)) (pv 8)))
      (pss_cons (ps_if (pt_cmpR op_gt (pv 5) pe_int (nomark _)) (pss_one (ps_aug (i := 5) sc_behind_first.nd rfl (Or.inl rfl) (pe_cal c_tower ⟨rfl, rfl, rfl, rfl, rfl⟩ (hr.mono (by decide)) (by rfl) lets_on (pa_cons (pv 0) (pa_cons (pv 3) (pa_cons (pv 6) (pa_cons (pv 9) pa_nil))))) ip_add)) pss_nil)
      (pss_cons (ps_aug (i := 5) sc_behind_first.nd rfl (Or.inl rfl) pe_int ip_add)
      (pss_one (ps_set (i := 6) sc_behind_first.nd rfl (Or.inl rfl) (pv 9)))))))
      (pss_one (ps_ret (pe_op opAdd (pv 5) (pe_cal c_tower ⟨rfl, rfl, rfl, rfl, rfl⟩ (hr.mono (by decide)) (by rfl) lets_on (pa_cons (pv 0) (pa_cons (pv 3) (pa_cons (pv 6) (pa_cons (pv 2) pa_nil)))))))))))), ?_⟩)
  rintro ds o ⟨r, n, a, b⟩
  have hsub : ∀ (ρ : Rho) (i j : Nat) (x y : Pg), ¬ x = y → ρ[i]? = some (.d (pD x)) → ρ[j]? = some (.d (pD y)) → EvF K (tOp rSub2 (tOp rSub2 (tC (.int 3)) (tVar i)) (tVar j)) ρ (pD (thi x y)) := fun ρ i j x y h h1 h2 =>
    EvF.is (ef_binD (EvF.now (ef_binD (EvF.now ef_int) (EvF.now (ef_var h1)) rv_sub)) (EvF.now (ef_var h2)) rv_sub) (congrArg Da.int (thi_int x y h))
  walk_at "st"
  walk_at "st"
  walk_at "st"
  walk_at "nm"
  apply q_mid (fun ρ => ∃ (t : Nat) (x : Pg) (y1 y2 y3 : Sl), t + tower r n x b = bf r n a b ∧ ρ = [.d (ruD r), .d (pD a), .d (pD b), .d (twD (tw r n)), .d (.lst ((steps r a b).map prD)), .d (nD t), .d (pD x), y1, y2, y3])
  · refine es_forPU (fun p => pD p.1) (fun p => pD p.2) (steps r a b) (by walk_at "ev") ?_
    by_cases h : a = b
    · subst h
      rw [(steps_nil r a a).mpr rfl]
      exact ⟨0, a, _, _, _, by rw [bf_self', tower, if_pos rfl], rfl⟩
    · by_cases hn : near r a b = true
      · have hs : steps r a b = [(a, b)] := by rw [steps, if_neg h, if_pos hn]
        have hb : bf r n a b = 1 + tower r n (thi a b) b := by rw [bf, if_neg h, if_pos hn]
        rw [hs]
        show EvS K E _ _ _
        walk_at "nm"
        apply q_asg (x := pD (thi a b))
        · walk_at "nm"
          exact hsub _ 7 8 a b h rfl rfl
        walk_at "nm"
        apply q_if
        · walk_at "ev"
        · intro z; cases z
        · intro _
          walk_at "st"
          walk_at "st"
          walk_at "st"
          exact q_end ⟨1, thi a b, _, _, _, hb.symm, rfl⟩
      · have hs : steps r a b = [(a, thi a b), (thi a b, b)] := by rw [steps, if_neg h, if_neg hn]
        have hb : bf r n a b = 1 + tower r n b a + 1 + tower r n a b := by rw [bf, if_neg h, if_neg hn]
        obtain ⟨t1, t2, t3, t4⟩ := thi_thi a b h
        rw [hs]
        show EvS K E _ _ _
        walk_at "nm"
        apply q_asg (x := pD b)
        · exact EvF.is (hsub _ 7 8 a (thi a b) t3 rfl rfl) (by rw [t1])
        walk_at "nm"
        apply q_if
        · walk_at "ev"
        · intro z; cases z
        · intro _
          walk_at "st"
          walk_at "st"
          walk_at "st"
          apply q_end
          show EvS K E _ _ _
          walk_at "nm"
          apply q_asg (x := pD a)
          · exact EvF.is (hsub _ 7 8 (thi a b) b t4 rfl rfl) (by rw [t2])
          walk_at "nm"
          apply q_if
          · walk_at "ev"
          · intro _
            walk_at "st"
            walk_at "st"
            walk_at "st"
            exact q_end ⟨1 + tower r n b a + 1, a, _, _, _, hb.symm, congrArg (fun z => [_, _, _, _, _, Sl.d (.int z), _, _, _, _]) (by omega)⟩
          · intro z; cases z
  · rintro ρ ⟨t, x, y1, y2, y3, he, rfl⟩
    walk_at "st"
    show Out.f _ = Out.f _
    rw [← he]
    exact congrArg (fun z => Out.f (.int z)) (by omega)


abbrev woD : Option Pg → Da
  | none => .int (-1)
  | some p => pD p
def goD (x : Pg × Pg × Nat × Option Pg) : Da := .tup [pD x.1, pD x.2.1, nD x.2.2.1, woD x.2.2.2]
inductive gr_gone (er : Str → Addr) : List Da → Out → Prop
  | mk (r : Ru) (n : Nat) (a b : Pg) (st : List (Pg × Pg)) (l : Pg) (k : Nat) (h : ∀ x ∈ (a, b) :: st, ¬ x.1 = x.2) : gr_gone er [ruD r, .lst (((a, b) :: st).map prD), twD (tw r n), pD l, nD k] (.f (goD (goneF r n ((a, b) :: st) a l k)))

theorem cal_gone {f : Addr} {fd : FuncData} (F : FnP K "gone" s_gone f fd) (hm : mg "gone" = some (.ref f)) (G : Glb mg)
    (c_tower : Cal P w K mg base 2 "tower" ["rule", "counts", "start", "end"] (gr_tower er)) :
    Cal P w K mg base 3 "gone" ["rule", "steps", "ahead", "lesser", "number"] (gr_gone er) := by
  have hb : Binds K fd ["rule", "steps", "ahead", "lesser", "number"] [] := F.bindsN fun _ _ _ _ _ _ us hl => match us, hl with | [_, _, _, _, _], _ => rfl
  refine cal_of (n := 10) F sc_gone hm hb rfl (by rintro ds r h; cases h <;> rfl) (fun cdv A outer s H E hr => ⟨_, (pss_cons (ps_set (i := 5) sc_gone.nd rfl (Or.inl rfl) (pe_ix (ixK (K := K) rfl) (pe_ix (ixK (K := K) rfl) (pv 1) pe_int (fun _ _ => rfl)) pe_int (fun _ _ => rfl)))
      (pss_cons (ps_for loops_on rfl (listPI (K := K) rfl (pi_list (pv 1))) (tupPG (K := K) rfl (pg_tup (n := 2) rfl (pgs_cons (pg_name (i := 6) sc_gone.nd rfl (Or.inl rfl)) (pgs_cons (pg_name (i := 7) sc_gone.nd rfl (Or.inl rfl)) pgs_nil)))) (pss_cons (ps_set (i := 8) sc_gone.nd rfl (Or.inl rfl) (pe_op op_sub (pe_op op_sub pe_int (pv 6)) (pv 7)))
      (pss_cons (ps_set (i := 9) sc_gone.nd rfl (Or.inl rfl) (pe_cal c_tower ⟨rfl, rfl, rfl, rfl, rfl⟩ (hr.mono (by decide)) (by rfl) lets_on (pa_cons (pv 0) (pa_cons (pv 2) (pa_cons (pv 3) (pa_cons (pv 8) pa_nil))))))
      (pss_cons (ps_if (pt_cmpR op_le (pv 4) (pv 9) (nomark _)) (pss_one (ps_ret (pe_tup (pa_cons (pv 5) (pa_cons (pv 3) (pa_cons (pv 4) (pa_cons (pv 8) pa_nil))))))) pss_nil)
      (pss_cons (ps_aug (i := 4) sc_gone.nd rfl (Or.inl rfl) (pe_op opAdd (pv 9) pe_int) ip_sub)
      (pss_cons (ps_set (i := 5) sc_gone.nd rfl (Or.inl rfl) (pv 7))
      (pss_one (ps_set (i := 3) sc_gone.nd rfl (Or.inl rfl) (pv 8)))))))))
      (pss_one (ps_ret (pe_tup (pa_cons (pv 5) (pa_cons (pv 3) (pa_cons (pv 4) (pa_cons (pe_un un_neg pe_int) pa_nil))))))))), ?_⟩)
  rintro ds o ⟨r, n, a, b, st0, l, k, hne⟩
  have hsub : ∀ (ρ : Rho) (i j : Nat) (x y : Pg), ¬ x = y → ρ[i]? = some (.d (pD x)) → ρ[j]? = some (.d (pD y)) → EvF K (tOp rSub2 (tOp rSub2 (tC (.int 3)) (tVar i)) (tVar j)) ρ (pD (thi x y)) := fun ρ i j x y h h1 h2 =>
    EvF.is (ef_binD (EvF.now (ef_binD (EvF.now ef_int) (EvF.now (ef_var h1)) rv_sub)) (EvF.now (ef_var h2)) rv_sub) (congrArg Da.int (thi_int x y h))
  walk_at "nm"
  apply q_asg (x := pD a)
  · exact ef_binF (ef_binM (EvF.m (ef_var rfl)) ef_int (rm_ix (z := prD (a, b)) (atI_nat (j := 0) rfl))) ef_int (rf_ix rfl)
  walk_at "nm"
  generalize hst : (a, b) :: st0 = st at *
  generalize hgo : goneF r n st a l k = res
  apply q_mid (fun ρ => ∃ p' l' k' c d e f, res = (p', l', k', none) ∧ ρ = [.d (ruD r), .d (.lst (st.map prD)), .d (twD (tw r n)), .d (pD l'), .d (nD k'), .d (pD p'), c, d, e, f])
  · refine es_forP (fun p => pD p.1) (fun p => pD p.2) st (by walk_at "ev") (fun m ρ => ∃ p' l' k' c d e f, (∀ x ∈ m, ¬ x.1 = x.2) ∧ goneF r n m p' l' k' = res ∧ ρ = [.d (ruD r), .d (.lst (st.map prD)), .d (twD (tw r n)), .d (pD l'), .d (nD k'), .d (pD p'), c, d, e, f]) ⟨a, l, k, _, _, _, _, hne, hgo, rfl⟩ ?_ ?_
    · rintro ⟨x, y⟩ m ρ ⟨p', l', k', c, d, e, f, h1, h2, rfl⟩
      have hxy : ¬ x = y := h1 (x, y) List.mem_cons_self
      rw [goneF] at h2
      walk_at "nm"
      apply q_asg (x := pD (thi x y))
      · exact hsub _ 6 7 x y hxy rfl rfl
      walk_at "nm"
      walk_at "st"
      apply q_if (b := decide (k' ≤ tower r n l' (thi x y)))
      · refine EvT.is (by walk_at "ev") ?_
        rw [decide_eq_decide]
        omega
      · intro hk
        rw [decide_eq_true_eq] at hk
        rw [if_pos hk] at h2
        apply q_ret (x := goD res)
        · rw [← h2]
          exact ef_tup (ea_cons (ef_var rfl) (ea_cons (ef_var rfl) (ea_cons (ef_var rfl) (ea_cons (ef_var rfl) ea_nil)))) (Nat.le_of_ble_eq_true rfl)
        · rfl
      · intro hk
        rw [decide_eq_false_iff_not] at hk
        rw [if_neg hk] at h2
        apply q_next
        apply q_aug rfl (b := (tower r n l' (thi x y) : Int) + 1)
        · walk_at "ev"
        walk_at "nm"
        have e2 : (k' : Int) - ((tower r n l' (thi x y) : Int) + 1) = ((k' - (tower r n l' (thi x y) + 1) : Nat) : Int) := by omega
        show EvS K E _ [_, _, _, _, .d (.int ((k' : Int) - ((tower r n l' (thi x y) : Int) + 1))), _, _, _, _, _] _
        rw [e2]
        walk_at "st"
        walk_at "st"
        exact q_end ⟨y, thi x y, _, _, _, _, _, fun z hz => h1 z (List.mem_cons_of_mem _ hz), h2, rfl⟩
    · rintro ρ ⟨p', l', k', c, d, e, f, _, h2, rfl⟩
      exact ⟨p', l', k', c, d, e, f, h2.symm, rfl⟩
  · rintro ρ ⟨p', l', k', c, d, e, f, h, rfl⟩
    rw [h]
    apply es_last
    apply q_ret (x := goD (p', l', k', none))
    · exact ef_tup (ea_cons (ef_var rfl) (ea_cons (ef_var rfl) (ea_cons (ef_var rfl) (ea_cons (ef_neg ef_int) ea_nil)))) (Nat.le_of_ble_eq_true rfl)
    · rfl


inductive gr_moves (er : Str → Addr) : List Da → Out → Prop
  | mk (r : Ru) (s : List Pg) (h : s.length ≤ 1000) : gr_moves er [ruD r, stD s] (.n ((mvs r 0 [] s).map mvT))
  | bad1 (x y : Da) (h : badRule x) : gr_moves er [x, y] (.e (er "BadRule"))
  | bad2 (r : Ru) (y : Da) (h : badState y) : gr_moves er [ruD r, y] (.e (er "BadState"))

theorem cal_moves {f : Addr} {fd : FuncData} (F : FnP K "moves" s_moves f fd) (hm : mg "moves" = some (.ref f)) (G : Glb mg)
    (c_check_rule : Cal P w K mg base 1 "check_rule" ["rule"] (gr_check_rule er))
    (c_check_state : Cal P w K mg base 3 "check_state" ["state"] (gr_check_state er))
    (c_moves_of : Cal P w K mg base 2 "moves_of" ["rule", "state"] (gr_moves_of er)) :
    Cal P w K mg base 4 "moves" ["rule", "state"] (gr_moves er) := by
  have hb : Binds K fd ["rule", "state"] [] := F.bindsN fun _ _ _ _ _ _ us hl => match us, hl with | [_, _], _ => rfl
  refine cal_of (n := 2) F sc_moves hm hb rfl (by rintro ds r h; cases h <;> rfl) (fun cdv A outer s H E hr => ⟨_, (pss_cons (ps_expr (pe_cal c_check_rule ⟨rfl, rfl, rfl, rfl, rfl⟩ (hr.mono (by decide)) (by rfl) lets_on (pa_cons (pv 0) pa_nil)))
      (pss_cons (ps_expr (pe_cal c_check_state ⟨rfl, rfl, rfl, rfl, rfl⟩ (hr.mono (by decide)) (by rfl) lets_on (pa_cons (pv 1) pa_nil)))
      (pss_one (ps_ret (pe_cal c_moves_of ⟨rfl, rfl, rfl, rfl, rfl⟩ (hr.mono (by decide)) (by rfl) lets_on (pa_cons (pv 0) (pa_cons (pv 1) pa_nil))))))), ?_⟩)
  rintro ds o h
  cases h with
  | mk r s hs =>
    walk_at "nm"
    apply q_drop
    · exact ef_call (ea_cons (ef_var rfl) ea_nil) (.mk r)
    apply q_drop
    · exact ef_call (ea_cons (ef_var rfl) ea_nil) (.mk s hs)
    apply es_last
    apply q_retN
    · exact en_call (ea_cons (ef_var rfl) (ea_cons (ef_var rfl) ea_nil)) (.mk r s hs)
    · rfl
  | bad1 x y hb => exact q_dropX (ex_call (by walk_at "ev") (.bad x hb)) rfl
  | bad2 r y hb =>
    apply q_drop
    · exact ef_call (ea_cons (ef_var rfl) ea_nil) (.mk r)
    exact q_dropX (ex_call (by walk_at "ev") (.bad y hb)) rfl


inductive gr_done (er : Str → Addr) : List Da → Out → Prop
  | ok (r : Ru) (s : List Pg) (ms : List Da) (t : List Pg) (h : s.length ≤ 1000) (ty : ∀ x ∈ ms, tyMv x) (hw : walkD r s ms = some t) : gr_done er [ruD r, stD s, .lst ms] (.n (stL t))
  | bad (r : Ru) (s : List Pg) (ms : List Da) (h : s.length ≤ 1000) (ty : ∀ x ∈ ms, tyMv x) (hw : walkD r s ms = none) : gr_done er [ruD r, stD s, .lst ms] (.e (er "BadMove"))
  | bad1 (x y z : Da) (h : badRule x) : gr_done er [x, y, z] (.e (er "BadRule"))
  | bad2 (r : Ru) (y z : Da) (h : badState y) : gr_done er [ruD r, y, z] (.e (er "BadState"))
  | bad3 (r : Ru) (s : List Pg) (z : Da) (hs : s.length ≤ 1000) (ht : hasTy z) (h : isLstD z = false) : gr_done er [ruD r, stD s, z] (.e (er "BadMove"))

theorem cal_done {f : Addr} {fd : FuncData} (F : FnP K "done" s_done f fd) (hm : mg "done" = some (.ref f)) (G : Glb mg) (e_BadMove : ErrC K mg "BadMove" (er "BadMove"))
    (c_check_rule : Cal P w K mg base 1 "check_rule" ["rule"] (gr_check_rule er))
    (c_check_state : Cal P w K mg base 3 "check_state" ["state"] (gr_check_state er))
    (c_is_move : Cal P w K mg base 2 "is_move" ["thing"] (gr_is_move er))
    (c_moves_of : Cal P w K mg base 2 "moves_of" ["rule", "state"] (gr_moves_of er)) :
    Cal P w K mg base 4 "done" ["rule", "state", "some"] (gr_done er) := by
  have hb : Binds K fd ["rule", "state", "some"] [] := F.bindsN fun _ _ _ _ _ _ us hl => match us, hl with | [_, _, _], _ => rfl
  refine cal_of (n := 5) F sc_done hm hb rfl (by rintro ds r h; cases h <;> rfl) (fun cdv A outer s H E hr => ⟨_, (pss_cons (ps_expr (pe_cal c_check_rule ⟨rfl, rfl, rfl, rfl, rfl⟩ (hr.mono (by decide)) (by rfl) lets_on (pa_cons (pv 0) pa_nil)))
      (pss_cons (ps_expr (pe_cal c_check_state ⟨rfl, rfl, rfl, rfl, rfl⟩ (hr.mono (by decide)) (by rfl) lets_on (pa_cons (pv 1) pa_nil)))
      (pss_cons (ps_if (pt_not (pt_val (pe_callB (isiK (K := K) rfl) (by rfl) G.b_isinstance (by decide +kernel) (pa_cons (pv 2) (pa_cons (pe_bltn (v := .ty "list") (by rfl) G.b_list (by decide +kernel) rfl) pa_nil))))) (pss_one (raise_own e_BadMove (by rfl))) pss_nil)
      (pss_cons (ps_set (i := 3) sc_done.nd rfl (Or.inl rfl) (pe_callTy (listK (K := K) rfl) (by rfl) G.b_list (by decide +kernel) (pa_cons (pv 1) pa_nil)))
      (pss_cons (ps_for loops_on rfl (listPI (K := K) rfl (pi_list (pv 2))) (pg_name (i := 4) sc_done.nd rfl (Or.inl rfl)) (pss_cons (ps_if (PW.pt (pw_or (pt_not (pt_val (pe_cal c_is_move ⟨rfl, rfl, rfl, rfl, rfl⟩ (hr.mono (by decide)) (by rfl) lets_on (pa_cons (pv 4) pa_nil)))) (pw_or1 (pt_cmpR (opNi (K := K) hr rfl) (pv 4) (pe_cal c_moves_of ⟨rfl, rfl, rfl, rfl, rfl⟩ (hr.mono (by decide)) (by rfl) lets_on (pa_cons (pv 0) (pa_cons (pv 3) pa_nil))) (by rfl))))) (pss_one (raise_own e_BadMove (by rfl))) pss_nil)
      (pss_one (ps_asg (pe_ix (ixK (K := K) rfl) (pv 4) pe_int (fun _ _ => rfl)) (pg_sub (pv 3) (pe_ix (ixK (K := K) rfl) (pv 4) pe_int (fun _ _ => rfl)) set_list)))))
      (pss_one (ps_ret (pv 3)))))))), ?_⟩)
  rintro ds o h
  obtain ⟨r, s, ms, hs, ty, hds, ho⟩ | hbad : (∃ r s ms, s.length ≤ 1000 ∧ (∀ x ∈ ms, tyMv x) ∧ ds = [ruD r, stD s, .lst ms] ∧ o = (match walkD r s ms with | some t => Out.n (stL t) | none => Out.e (er "BadMove"))) ∨
      ((∃ x y z, badRule x ∧ ds = [x, y, z] ∧ o = .e (er "BadRule")) ∨ (∃ r y z, badState y ∧ ds = [ruD r, y, z] ∧ o = .e (er "BadState")) ∨ (∃ r s z, s.length ≤ 1000 ∧ hasTy z ∧ isLstD z = false ∧ ds = [ruD r, stD s, z] ∧ o = .e (er "BadMove"))) := by
    cases h with
    | ok r s ms t h ty hw => exact .inl ⟨r, s, ms, h, ty, rfl, by rw [hw]⟩
    | bad r s ms h ty hw => exact .inl ⟨r, s, ms, h, ty, rfl, by rw [hw]⟩
    | bad1 x y z h => exact .inr (.inl ⟨x, y, z, h, rfl, rfl⟩)
    | bad2 r y z h => exact .inr (.inr (.inl ⟨r, y, z, h, rfl, rfl⟩))
    | bad3 r s z hs ht h => exact .inr (.inr (.inr ⟨r, s, z, hs, ht, h, rfl, rfl⟩))
  · subst hds
    walk_at "nm"
    apply q_drop
    · exact ef_call (ea_cons (ef_var rfl) ea_nil) (.mk r)
    apply q_drop
    · exact ef_call (ea_cons (ef_var rfl) ea_nil) (.mk s hs)
    apply q_if (b := false)
    · exact EvT.is (et_not (et_val (ef_isList (EvF.now (ef_var rfl)) trivial))) rfl
    · intro z; cases z
    intro _
    apply q_next
    apply q_asgN (xs := stL s)
    · exact en_list (EvF.m (ef_var rfl))
    walk_at "nm"
    apply q_mid (fun ρ => ∃ t a, o = .n (stL t) ∧ ρ = [.d (ruD r), .d (stD s), .d (.lst ms), .m (stL t), a])
    · refine es_forL (fun x : Da => x) ms (by rw [List.map_id']; exact ef_var rfl) (fun l ρ => ∃ t a, t.length ≤ 1000 ∧ (∀ x ∈ l, tyMv x) ∧ o = (match walkD r t l with | some t => Out.n (stL t) | none => Out.e (er "BadMove")) ∧ ρ = [.d (ruD r), .d (stD s), .d (.lst ms), .m (stL t), a]) ⟨s, .un, hs, ty, ho, rfl⟩ ?_ ?_
      · rintro x l ρ ⟨t, a, ht, hty, hw, rfl⟩
        have hx := hty x List.mem_cons_self
        rw [walkD] at hw
        walk_at "nm"
        cases hm : mvOf x with
        | none =>
          rw [hm] at hw
          apply q_if (b := true)
          · refine EvT.is (et_or (b := false) (et_not (et_val (ef_call (ea_cons (ef_var rfl) ea_nil) (.mk x hx)))) fun z => ?_) ?_
            · rw [hm] at z; cases z
            · rw [hm]; rfl
          · intro _
            exact q_raise hw.symm
          · intro z; cases z
        | some p =>
          rw [hm] at hw
          have ex := mvOf_some hm
          subst ex
          simp only at hw
          apply q_if (b := !(mvF r t p).isSome)
          · refine EvT.is (et_or (et_not (et_val (ef_call (ea_cons (ef_var rfl) ea_nil) (.mk _ hx)))) fun _ => et_tmp (i := 3) rfl (et_test (ef_binD (EvF.now (ef_var rfl)) (EvM.now (EvP.m (EvN.p (en_call (ea_cons (ef_var rfl) (ea_cons (ef_varl rfl) ea_nil)) (.mk r t ht))))) (rv_ni 58 58 (okD_mz p) (okD_mvs _) (by decide) (by decide))))) ?_
            rw [hm, List.any_map]
            have : ((fun z => eqD z (mzD p)) ∘ mvT) = fun m => decide (mvZ m = p) := funext fun m => eqD_mz m p
            rw [this, any_find]
            rfl
          · intro hb
            cases hf : mvF r t p with
            | none =>
              rw [hf] at hw
              exact q_raise hw.symm
            | some m => rw [hf] at hb; cases hb
          · intro hb
            cases hf : mvF r t p with
            | none => rw [hf] at hb; cases hb
            | some m =>
              rw [hf] at hw
              obtain ⟨f1, f2⟩ := mvF_in hf
              have hlt := mvs_lt f1
              subst f2
              apply q_next
              apply es_last
              apply q_put (k' := (m.1 : Int)) (j := m.1) (x := pD m.2) rfl
              · exact ef_binF (ef_var rfl) ef_int (rf_ix (atI_nat (j := 1) rfl))
              · exact ef_binF (ef_var rfl) ef_int (rf_ix (atI_nat (j := 0) rfl))
              · rw [List.length_map]
                exact ixN_n hlt
              walk_at "nm"
              refine q_end ⟨t.set m.1 m.2, .d (mzD (mvZ m)), by rw [List.length_set]; exact ht, fun y hy => hty y (List.mem_cons_of_mem _ hy), hw, ?_⟩
              rw [stL, stL, List.map_set]
      · rintro ρ ⟨t, a, ht, _, hw, rfl⟩
        exact ⟨t, a, hw, rfl⟩
    · rintro ρ ⟨t, a, ht, rfl⟩
      apply es_last
      apply q_retM rfl
      exact ht.symm
  · rcases hbad with ⟨x, y, z, hb, rfl, rfl⟩ | ⟨r, y, z, hb, rfl, rfl⟩ | ⟨r, s, z, hs, ht, hb, rfl, rfl⟩
    · exact q_dropX (ex_call (by walk_at "ev") (.bad x hb)) rfl
    · apply q_drop
      · exact ef_call (by walk_at "ev") (.mk r)
      exact q_dropX (ex_call (by walk_at "ev") (.bad y hb)) rfl
    · apply q_drop
      · exact ef_call (by walk_at "ev") (.mk r)
      apply q_drop
      · exact ef_call (by walk_at "ev") (.mk s hs)
      apply q_if (b := true)
      · exact EvT.is (et_not (et_val (ef_isList (EvF.now (ef_var rfl)) ht))) (by rw [hb]; rfl)
      · intro _
        exact q_raise rfl
      · intro z; cases z


inductive gr_left_of (er : Str → Addr) : List Da → Out → Prop
  | mk (r : Ru) (s : List Pg) (g : Pg) (n : Nat) (h : s.length ≤ 1000) (hn : s.length ≤ n + 1) : gr_left_of er [ruD r, stD s, pD g, .lst (tbL r n)] (.f (nD (L r s.reverse g)))

theorem cal_left_of {f : Addr} {fd : FuncData} (F : FnP K "left_of" s_left_of f fd) (hm : mg "left_of" = some (.ref f)) (G : Glb mg)
    (c_goals_of : Cal P w K mg base 3 "goals_of" ["rule", "state", "peg"] (gr_goals_of er))
    (c_behind_first : Cal P w K mg base 3 "behind_first" ["rule", "start", "end", "ahead"] (gr_behind_first er)) :
    Cal P w K mg base 4 "left_of" ["rule", "state", "peg", "table"] (gr_left_of er) := by
  have hb : Binds K fd ["rule", "state", "peg", "table"] [] := F.bindsN fun _ _ _ _ _ _ us hl => match us, hl with | [_, _, _, _], _ => rfl
  refine cal_of (n := 8) F sc_left_of hm hb rfl (by rintro ds r h; cases h <;> rfl) (fun cdv A outer s H E hr => ⟨_, (pss_cons (ps_set (i := 4) sc_left_of.nd rfl (Or.inl rfl) (pe_cal c_goals_of ⟨rfl, rfl, rfl, rfl, rfl⟩ (hr.mono (by decide)) (by rfl) lets_on (pa_cons (pv 0) (pa_cons (pv 1) (pa_cons (pv 2) pa_nil)))))
      (pss_cons (ps_set (i := 5) sc_left_of.nd rfl (Or.inl rfl) pe_int)
      (pss_cons (ps_for loops_on rfl (enumPI (K := K) rfl (pi_enum rfl G.b_enumerate (pa_cons (pv 1) pa_nil))) (tupPG (K := K) rfl (pg_tup (n := 2) rfl (pgs_cons (pg_name (i := 6) sc_left_of.nd rfl (Or.inl rfl)) (pgs_cons (pg_name (i := 7) sc_left_of.nd rfl (Or.inl rfl)) pgs_nil)))) (pss_one (ps_aug (i := 5) sc_left_of.nd rfl (Or.inl rfl) (pe_cal c_behind_first ⟨rfl, rfl, rfl, rfl, rfl⟩ (hr.mono (by decide)) (by rfl) lets_on (pa_cons (pv 0) (pa_cons (pv 7) (pa_cons (pe_ix (ixK (K := K) rfl) (pv 4) (pv 6) (fun _ _ => rfl)) (pa_cons (pe_ix (ixK (K := K) rfl) (pv 3) (pv 6) (fun _ _ => rfl)) pa_nil))))) ip_add)))
      (pss_one (ps_ret (pv 5)))))), ?_⟩)
  rintro ds o ⟨r, s, g, n, hs, hn⟩
  walk_at "st"
  walk_at "st"
  apply q_mid (fun ρ => ∃ a b, ρ = [.d (ruD r), .d (stD s), .d (pD g), .d (.lst (tbL r n)), .d (.lst (stL (gls r s g))), .d (nD (L r s.reverse g)), a, b])
  · refine es_forEnum pD s (by walk_at "ev") (fun i l ρ => ∃ (t : Nat) (gl : List Pg) (a b : Sl), l.length = gl.length ∧ (gls r s g).drop i = gl ∧ s.drop i = l ∧ t + sumF r i l gl = L r s.reverse g ∧
      ρ = [.d (ruD r), .d (stD s), .d (pD g), .d (.lst (tbL r n)), .d (.lst (stL (gls r s g))), .d (nD t), a, b]) ⟨0, gls r s g, _, _, (gls_len r s g).symm, rfl, rfl, by rw [sumF_left, Nat.zero_add], rfl⟩ ?_ ?_
    · rintro i x l ρ ⟨t, gl, a, b, h1, h2, h3, h4, rfl⟩
      cases gl with
      | nil => cases h1
      | cons y gl =>
        obtain ⟨k1, k2, k3⟩ := drop_succ_at h2
        obtain ⟨m1, m2, m3⟩ := drop_succ_at h3
        have hy : EvF K (tOp (rIx K) (tVar 4) (tVar 6)) [.d (ruD r), .d (stD s), .d (pD g), .d (.lst (tbL r n)), .d (.lst (stL (gls r s g))), .d (nD t), .d (.int i), .d (pD x)] (pD y) :=
          ef_binM (EvF.m (ef_var rfl)) (ef_var rfl) (rm_ix (stL_at k1))
        have ht : EvF K (tOp (rIx K) (tVar 3) (tVar 6)) [.d (ruD r), .d (stD s), .d (pD g), .d (.lst (tbL r n)), .d (.lst (stL (gls r s g))), .d (nD t), .d (.int i), .d (pD x)] (twD (tw r i)) :=
          ef_binM (EvF.m (ef_var rfl)) (ef_var rfl) (rm_ix (tbL_at r (n := n) (by omega)))
        apply es_last
        apply q_aug rfl
        · exact ef_call (ea_cons (ef_var rfl) (ea_cons (ef_var rfl) (ea_cons hy (ea_cons ht ea_nil)))) (.mk r i x y)
        rw [sumF] at h4
        exact q_end ⟨t + bf r i x y, gl, _, _, by simpa using h1, k2, m2, by omega, congrArg (fun z => [_, _, _, _, _, Sl.d (.int z), _, _]) (by omega)⟩
    · rintro i ρ ⟨t, gl, a, b, h1, h2, h3, h4, rfl⟩
      have e : t = L r s.reverse g := by
        cases gl with
        | nil => simpa [sumF] using h4
        | cons y gl => cases h1
      rw [e]
      exact ⟨a, b, rfl⟩
  · rintro ρ ⟨a, b, rfl⟩
    walk_at "st"
    rfl


def mvD : Option (Nat × Pg) → Da
  | none => .tup []
  | some (d, e) => .tup [nD d, pD e]
inductive gr_next_move (er : Str → Addr) : List Da → Out → Prop
  | mk (r : Ru) (s : List Pg) (g : Pg) (h : s.length ≤ 1000) : gr_next_move er [ruD r, stD s, pD g] (.f (mvD (nm r s.reverse g)))
  | bad1 (x y z : Da) (h : badRule x) : gr_next_move er [x, y, z] (.e (er "BadRule"))
  | bad2 (r : Ru) (y z : Da) (h : badState y) : gr_next_move er [ruD r, y, z] (.e (er "BadState"))
  | bad3 (r : Ru) (s : List Pg) (z : Da) (hs : s.length ≤ 1000) (h : badPeg z) : gr_next_move er [ruD r, stD s, z] (.e (er "BadPeg"))

theorem cal_next_move {f : Addr} {fd : FuncData} (F : FnP K "next_move" s_next_move f fd) (hm : mg "next_move" = some (.ref f)) (G : Glb mg)
    (c_check_rule : Cal P w K mg base 1 "check_rule" ["rule"] (gr_check_rule er))
    (c_check_state : Cal P w K mg base 3 "check_state" ["state"] (gr_check_state er))
    (c_check_peg : Cal P w K mg base 3 "check_peg" ["peg"] (gr_check_peg er))
    (c_goals_of : Cal P w K mg base 3 "goals_of" ["rule", "state", "peg"] (gr_goals_of er))
    (c_steps_of : Cal P w K mg base 2 "steps_of" ["rule", "start", "end"] (gr_steps_of er)) :
    Cal P w K mg base 4 "next_move" ["rule", "state", "peg"] (gr_next_move er) := by
  have hb : Binds K fd ["rule", "state", "peg"] [] := F.bindsN fun _ _ _ _ _ _ us hl => match us, hl with | [_, _, _], _ => rfl
  refine cal_of (n := 7) F sc_next_move hm hb rfl (by rintro ds r h; cases h <;> rfl) (fun cdv A outer s H E hr => ⟨_, (pss_cons (ps_expr (pe_cal c_check_rule ⟨rfl, rfl, rfl, rfl, rfl⟩ (hr.mono (by decide)) (by rfl) lets_on (pa_cons (pv 0) pa_nil)))
      (pss_cons (ps_expr (pe_cal c_check_state ⟨rfl, rfl, rfl, rfl, rfl⟩ (hr.mono (by decide)) (by rfl) lets_on (pa_cons (pv 1) pa_nil)))
      (pss_cons (ps_expr (pe_cal c_check_peg ⟨rfl, rfl, rfl, rfl, rfl⟩ (hr.mono (by decide)) (by rfl) lets_on (pa_cons (pv 2) pa_nil)))
      (pss_cons (ps_set (i := 3) sc_next_move.nd rfl (Or.inl rfl) (pe_cal c_goals_of ⟨rfl, rfl, rfl, rfl, rfl⟩ (hr.mono (by decide)) (by rfl) lets_on (pa_cons (pv 0) (pa_cons (pv 1) (pa_cons (pv 2) pa_nil)))))
      (pss_cons (ps_for loops_on rfl (enumPI (K := K) rfl (pi_enum rfl G.b_enumerate (pa_cons (pv 1) pa_nil))) (tupPG (K := K) rfl (pg_tup (n := 2) rfl (pgs_cons (pg_name (i := 4) sc_next_move.nd rfl (Or.inl rfl)) (pgs_cons (pg_name (i := 5) sc_next_move.nd rfl (Or.inl rfl)) pgs_nil)))) (pss_cons (ps_set (i := 6) sc_next_move.nd rfl (Or.inl rfl) (pe_cal c_steps_of ⟨rfl, rfl, rfl, rfl, rfl⟩ (hr.mono (by decide)) (by rfl) lets_on (pa_cons (pv 0) (pa_cons (pv 5) (pa_cons (pe_ix (ixK (K := K) rfl) (pv 3) (pv 4) (fun _ _ => rfl)) pa_nil)))))
      (pss_one (ps_if (pt_cmpR (opNe (K := K) hr rfl) (pv 6) (pe_lst pa_nil) (nomark _)) (pss_one (ps_ret (pe_tup (pa_cons (pv 4) (pa_cons (pe_ix (ixK (K := K) rfl) (pe_ix (ixK (K := K) rfl) (pv 6) pe_int (fun _ _ => rfl)) pe_int (fun _ _ => rfl)) pa_nil))))) pss_nil))))
      (pss_one (ps_ret (pe_tup pa_nil)))))))), ?_⟩)
  rintro ds o h
  cases h with
  | mk r s g hs =>
    apply q_drop
    · exact ef_call (by walk_at "ev") (.mk r)
    apply q_drop
    · exact ef_call (by walk_at "ev") (.mk s hs)
    apply q_drop
    · exact ef_call (by walk_at "ev") (.mk g)
    walk_at "st"
    apply q_mid (fun ρ => nm r s.reverse g = none ∧ ρ.length = 7)
    · refine es_forEnum pD s (by walk_at "ev") (fun i l ρ => ∃ (gl : List Pg) (a b c : Sl), l.length = gl.length ∧ (gls r s g).drop i = gl ∧ s.drop i = l ∧ nmF r i l gl = nm r s.reverse g ∧
        ρ = [.d (ruD r), .d (stD s), .d (pD g), .d (.lst (stL (gls r s g))), a, b, c]) ⟨gls r s g, _, _, _, (gls_len r s g).symm, rfl, rfl, nmF_next r s g, rfl⟩ ?_ ?_
      · rintro i x l ρ ⟨gl, a, b, c, h1, h2, h3, h4, rfl⟩
        cases gl with
        | nil => cases h1
        | cons y gl =>
          obtain ⟨k1, k2, k3⟩ := drop_succ_at h2
          obtain ⟨m1, m2, m3⟩ := drop_succ_at h3
          rw [nmF] at h4
          apply q_asg (x := .lst ((steps r x y).map prD))
          · exact EvN.f (en_call (ea_cons (ef_var rfl) (ea_cons (ef_var rfl) (ea_cons (ef_binM (EvF.m (ef_var rfl)) (ef_var rfl) (rm_ix (stL_at k1))) ea_nil))) (.mk r x y))
          apply es_last
          apply q_if
          · exact et_neNil (EvF.now (ef_var rfl)) (steps_ok _)
          · intro h5
            rw [steps_emp, Bool.not_eq_true', decide_eq_false_iff_not] at h5
            rw [if_neg h5] at h4
            apply q_ret (x := .tup [nD i, pD (fs r x y)])
            · exact ef_tup (ea_cons (ef_var rfl) (ea_cons (ef_binF (x := prD (x, fs r x y)) (ef_binM (EvF.m (ef_var rfl)) ef_int (rm_ix (steps_at r h5))) ef_int (rf_ix rfl)) ea_nil)) (Nat.le_of_ble_eq_true rfl)
            · show Out.f _ = Out.f _
              rw [← h4]
              rfl
          · intro h5
            rw [steps_emp, Bool.not_eq_false', decide_eq_true_eq] at h5
            rw [if_pos h5] at h4
            apply q_next
            exact q_end ⟨gl, _, _, _, by simpa using h1, k2, m2, h4, rfl⟩
      · rintro i ρ ⟨gl, a, b, c, h1, h2, h3, h4, rfl⟩
        refine ⟨?_, rfl⟩
        cases gl with
        | nil => rw [← h4]; rfl
        | cons y gl => cases h1
    · rintro ρ ⟨h1, _⟩
      walk_at "st"
      rw [h1]
      rfl
  | bad1 x y z hb => exact q_dropX (ex_call (by walk_at "ev") (.bad x hb)) rfl
  | bad2 r y z hb =>
    apply q_drop
    · exact ef_call (by walk_at "ev") (.mk r)
    exact q_dropX (ex_call (by walk_at "ev") (.bad y hb)) rfl
  | bad3 r s z hs hb =>
    apply q_drop
    · exact ef_call (by walk_at "ev") (.mk r)
    apply q_drop
    · exact ef_call (by walk_at "ev") (.mk s hs)
    exact q_dropX (ex_call (by walk_at "ev") (.bad z hb)) rfl


theorem steps_ne (r : Ru) (a b : Pg) : ∀ x ∈ steps r a b, ¬ x.1 = x.2 := by
  cases r <;> revert a b <;> decide
theorem TBF_len (r : Ru) : ∀ (n : Nat) (p q : Pg) (k : Nat), (TBF r n p q k).length = n
  | 0, _, _, _ => rfl
  | n + 1, p, q, k => by
    rw [TBF]
    split
    · rw [List.length_cons, TBF_len r n]
    · rw [List.length_cons, TBF_len r n]
inductive gr_tower_behind (er : Str → Addr) : List Da → Out → Prop
  | mk (r : Ru) (n : Nat) (p q : Pg) (k N : Nat) (h : n ≤ 1000) (hN : n ≤ N + 1) : gr_tower_behind er [ruD r, nD n, pD p, pD q, nD k, .lst (tbL r N)] (.n (stL (TBF r n p q k)))

theorem cal_tower_behind {f : Addr} {fd : FuncData} (F : FnP K "tower_behind" s_tower_behind f fd) (hm : mg "tower_behind" = some (.ref f)) (G : Glb mg)
    (c_steps_of : Cal P w K mg base 2 "steps_of" ["rule", "start", "end"] (gr_steps_of er))
    (c_gone : Cal P w K mg base 3 "gone" ["rule", "steps", "ahead", "lesser", "number"] (gr_gone er)) :
    Cal P w K mg base 4 "tower_behind" ["rule", "many", "start", "goal", "number", "table"] (gr_tower_behind er) := by
  have hb : Binds K fd ["rule", "many", "start", "goal", "number", "table"] [] := F.bindsN fun _ _ _ _ _ _ us hl => match us, hl with | [_, _, _, _, _, _], _ => rfl
  refine cal_of (n := 11) F sc_tower_behind hm hb rfl (by rintro ds r h; cases h <;> rfl) (fun cdv A outer s H E hr => ⟨_, (pss_cons (ps_set (i := 6) sc_tower_behind.nd rfl (Or.inl rfl) (pe_lst pa_nil))
      (pss_cons (ps_for loops_on rfl (pi_revR rfl G.b_reversed (prg_1 rfl G.b_range (pv 1))) (pg_name (i := 7) sc_tower_behind.nd rfl (Or.inl rfl)) (pss_cons (ps_set (i := 8) sc_tower_behind.nd rfl (Or.inl rfl) (pe_cal c_steps_of ⟨rfl, rfl, rfl, rfl, rfl⟩ (hr.mono (by decide)) (by rfl) lets_on (pa_cons (pv 0) (pa_cons (pv 2) (pa_cons (pv 3) pa_nil)))))
      (pss_one (ps_if (pt_cmpR (opEq (K := K) hr rfl) (pv 8) (pe_lst pa_nil) (nomark _)) (pss_one (ps_expr (appPE (K := K) rfl (pe_bm PySem.F.plainAttrs_list PySem.F.slot_list_append PySem.F.type_list_append mt_append (pv 6) (pa_cons (pv 2) pa_nil))))) (pss_cons (ps_asg (pe_cal c_gone ⟨rfl, rfl, rfl, rfl, rfl⟩ (hr.mono (by decide)) (by rfl) lets_on (pa_cons (pv 0) (pa_cons (pv 8) (pa_cons (pe_ix (ixK (K := K) rfl) (pv 5) (pv 7) (fun _ _ => rfl)) (pa_cons (pv 2) (pa_cons (pv 4) pa_nil)))))) (tupPG (K := K) rfl (pg_tup (n := 4) rfl (pgs_cons (pg_name (i := 9) sc_tower_behind.nd rfl (Or.inl rfl)) (pgs_cons (pg_name (i := 2) sc_tower_behind.nd rfl (Or.inl rfl)) (pgs_cons (pg_name (i := 4) sc_tower_behind.nd rfl (Or.inl rfl)) (pgs_cons (pg_name (i := 10) sc_tower_behind.nd rfl (Or.inl rfl)) pgs_nil)))))))
      (pss_cons (ps_expr (appPE (K := K) rfl (pe_bm PySem.F.plainAttrs_list PySem.F.slot_list_append PySem.F.type_list_append mt_append (pv 6) (pa_cons (pv 9) pa_nil))))
      (pss_one (ps_if (pt_cmpR op_ge (pv 10) pe_int (nomark _)) (pss_one (ps_set (i := 3) sc_tower_behind.nd rfl (Or.inl rfl) (pv 10))) pss_nil))))))))
      (pss_one (ps_ret (pv 6))))), ?_⟩)
  rintro ds o ⟨r, n, p, q, k, N, hn, hN⟩
  walk_at "nm"
  apply q_asgN (xs := stL [])
  · exact en_lst ea_nil (Nat.zero_le _)
  walk_at "nm"
  apply q_mid (fun ρ => ∃ a b c d e f g h i j, ρ = [a, b, c, d, e, f, .m (stL (TBF r n p q k)), g, h, i, j])
  · refine es_forRR (n := n) (Inv := fun i ρ => ∃ acc p' q' k' a b c d, acc ++ TBF r i p' q' k' = TBF r n p q k ∧ ρ = [.d (ruD r), .d (nD n), .d (pD p'), .d (pD q'), .d (nD k'), .d (.lst (tbL r N)), .m (stL acc), a, b, c, d]) (by walk_at "ev") (by omega) ⟨[], p, q, k, _, _, _, _, rfl, rfl⟩ ?_ ?_
    · rintro i ρ hi ⟨acc, p', q', k', a, b, c, d, h, rfl⟩
      have hl : acc.length ≤ n := by
        have := congrArg List.length h
        rw [List.length_append, TBF_len, TBF_len] at this
        omega
      walk_at "nm"
      apply q_asgL (xs := (steps r p' q').map prD)
      · exact en_call (ea_cons (ef_var rfl) (ea_cons (ef_var rfl) (ea_cons (ef_var rfl) ea_nil))) (.mk r p' q')
      walk_at "nm"
      rw [TBF] at h
      apply es_last
      apply q_if (b := decide (p' = q'))
      · refine EvT.is (et_eqNil (EvF.now (ef_varl rfl)) (steps_ok _)) ?_
        have := steps_emp r p' q'
        exact this
      · intro hpq
        rw [decide_eq_true_eq] at hpq
        rw [if_pos hpq] at h
        apply q_app rfl
        · walk_at "ev"
        · rw [List.length_map]; omega
        walk_at "nm"
        apply q_next
        refine q_end ⟨acc ++ [p'], p', q', k', .d (nD i), .l ((steps r p' q').map prD), c, d, by rw [List.append_assoc]; exact h, ?_⟩
        rw [← stL_app]
        rfl
      · intro hpq
        rw [decide_eq_false_iff_not] at hpq
        rw [if_neg hpq] at h
        obtain ⟨st, hst⟩ := steps_head r hpq
        have hne := steps_ne r p' q'
        rw [hst] at h hne ⊢
        generalize hg : goneF r i ((p', fs r p' q') :: st) p' p' k' = res at h
        obtain ⟨g1, g2, g3, g4⟩ := res
        apply q_assoc
        apply q_tup (go_tup4 (x1 := pD g1) (x2 := pD g2) (x3 := nD g3) (x4 := woD g4))
        · have ht : EvF K (tOp (rIx K) (tVar 5) (tVar 7)) [.d (ruD r), .d (nD n), .d (pD p'), .d (pD q'), .d (nD k'), .d (.lst (tbL r N)), .m (stL acc), .d (nD i), .l (((p', fs r p' q') :: st).map prD), c, d] (twD (tw r i)) :=
            ef_binM (EvF.m (ef_var rfl)) (ef_var rfl) (rm_ix (tbL_at r (n := N) (by omega)))
          refine EvF.is (ef_call (ea_cons (ef_var rfl) (ea_cons (ef_varl rfl) (ea_cons ht (ea_cons (ef_var rfl) (ea_cons (ef_var rfl) ea_nil))))) (gr_gone.mk r i p' (fs r p' q') st p' k' hne)) ?_
          rw [hg]
          rfl
        walk_at "nm"
        apply q_assoc
        apply q_app rfl
        · walk_at "ev"
        · rw [List.length_map]; omega
        walk_at "nm"
        have hfin : (acc ++ [g1]) ++ TBF r i g2 (g4.getD q') g3 = TBF r n p q k := by rw [List.append_assoc]; exact h
        cases g4 with
        | none =>
          apply q_if (b := false)
          · exact EvT.is (et_test (ef_binD (EvF.now (ef_var rfl)) (EvF.now ef_int) rv_ge)) (by decide)
          · intro z; cases z
          · intro _
            apply q_next
            apply q_next
            refine q_end ⟨acc ++ [g1], g2, q', g3, .d (nD i), .l (((p', fs r p' q') :: st).map prD), .d (pD g1), .d (woD none), hfin, ?_⟩
            rw [← stL_app]
            rfl
        | some x =>
          apply q_if (b := true)
          · refine EvT.is (et_test (ef_binD (EvF.now (ef_var rfl)) (EvF.now ef_int) rv_ge)) ?_
            rw [decide_eq_true_eq]
            omega
          · intro _
            apply q_asg (x := pD x)
            · exact ef_var rfl
            walk_at "nm"
            apply q_next
            refine q_end ⟨acc ++ [g1], g2, x, g3, .d (nD i), .l (((p', fs r p' q') :: st).map prD), .d (pD g1), .d (woD (some x)), hfin, ?_⟩
            rw [← stL_app]
            rfl
          · intro z; cases z
    · rintro ρ ⟨acc, p', q', k', a, b, c, d, h, rfl⟩
      rw [TBF, List.append_nil] at h
      rw [h]
      exact ⟨_, _, _, _, _, _, _, _, _, _, rfl⟩
  · rintro ρ ⟨_, _, _, _, _, _, _, _, _, _, rfl⟩
    apply es_last
    apply q_retM rfl
    rfl


inductive gr_number_of (er : Str → Addr) : List Da → Out → Prop
  | mk (s : List Pg) (h : s.length ≤ 1000) : gr_number_of er [stD s] (.f (nD (num false s.reverse)))
  | bad (x : Da) (h : badState x) : gr_number_of er [x] (.e (er "BadState"))

theorem cal_number_of {f : Addr} {fd : FuncData} (F : FnP K "number_of" s_number_of f fd) (hm : mg "number_of" = some (.ref f)) (G : Glb mg)
    (c_check_state : Cal P w K mg base 3 "check_state" ["state"] (gr_check_state er))
    (c_number_by_line : Cal P w K mg base 1 "number_by_line" ["state"] (gr_number_by_line er)) :
    Cal P w K mg base 4 "number_of" ["state"] (gr_number_of er) := by
  have hb : Binds K fd ["state"] [] := F.bindsN fun _ _ _ _ _ _ us hl => match us, hl with | [_], _ => rfl
  refine cal_of (n := 1) F sc_number_of hm hb rfl (by rintro ds r h; cases h <;> rfl) (fun cdv A outer s H E hr => ⟨_, (pss_cons (ps_expr (pe_cal c_check_state ⟨rfl, rfl, rfl, rfl, rfl⟩ (hr.mono (by decide)) (by rfl) lets_on (pa_cons (pv 0) pa_nil)))
      (pss_one (ps_ret (pe_cal c_number_by_line ⟨rfl, rfl, rfl, rfl, rfl⟩ (hr.mono (by decide)) (by rfl) lets_on (pa_cons (pv 0) pa_nil))))), ?_⟩)
  rintro ds o h
  cases h with
  | mk s hs =>
    walk_at "st"
    apply es_last
    apply q_ret
    · exact ef_call (ea_cons (ef_var rfl) ea_nil) (.mk s)
    · rfl
  | bad x hb => exact q_dropX (ex_call (by walk_at "ev") (.bad x hb)) rfl


inductive gr_written (er : Str → Addr) : List Da → Out → Prop
  | mk (s : List Pg) (h : s.length ≤ 1000) : gr_written er [stD s] (.f (.str (txt s)))
  | bad (x : Da) (h : badState x) : gr_written er [x] (.e (er "BadState"))

theorem cal_written {f : Addr} {fd : FuncData} (F : FnP K "written" s_written f fd) (hm : mg "written" = some (.ref f)) (G : Glb mg)
    (c_check_state : Cal P w K mg base 3 "check_state" ["state"] (gr_check_state er)) :
    Cal P w K mg base 4 "written" ["state"] (gr_written er) := by
  have hb : Binds K fd ["state"] [] := F.bindsN fun _ _ _ _ _ _ us hl => match us, hl with | [_], _ => rfl
  refine cal_of (n := 2) F sc_written hm hb rfl (by rintro ds r h; cases h <;> rfl) (fun cdv A outer s H E hr => ⟨_, (pss_cons (ps_expr (pe_cal c_check_state ⟨rfl, rfl, rfl, rfl, rfl⟩ (hr.mono (by decide)) (by rfl) lets_on (pa_cons (pv 0) pa_nil)))
      (pss_cons (ps_if (pt_cmpR (opEq (K := K) hr rfl) (pe_callB (lenK (K := K) rfl) (by rfl) G.b_len (by decide +kernel) (pa_cons (pv 0) pa_nil)) pe_int (nomark _)) (pss_one (ps_ret pe_str)) pss_nil)
      (pss_one (ps_ret (peJoin (K := K) rfl pe_str (pe_lc (own := [("peg", 1)]) rfl sc_written.nd (revPI (K := K) rfl (pi_reversed rfl G.b_reversed (pa_cons (pv 0) pa_nil))) (blkOk_by (N := n_written) (sc := defScope s_written) (by decide +kernel)) (fun _ _ _ _ _ => (pg_name (i := 1) sc_written.nd rfl (Or.inl rfl))) (fun _ _ _ _ _ => pts_nil) (fun _ _ _ _ _ => (pe_callTy strI (by rfl) G.b_str (by decide +kernel) (pa_cons (pv 1) pa_nil))))))))), ?_⟩)
  rintro ds o h
  cases h with
  | mk s hs =>
    walk_at "nm"
    apply q_drop
    · exact ef_call (ea_cons (ef_var rfl) ea_nil) (.mk s hs)
    apply q_if (b := decide (s = []))
    · refine EvT.is (et_test (ef_binD (EvF.now (ef_lenM (EvF.m (ef_var rfl)))) (EvF.now ef_int) rv_eqi)) ?_
      rw [decide_eq_decide, List.length_map]
      constructor
      · intro h
        exact List.length_eq_zero_iff.mp (by omega)
      · intro h
        rw [h]
        rfl
    · intro h
      rw [decide_eq_true_eq] at h
      apply q_ret
      · exact ef_str
      · rw [txt, if_pos h, dash_eq]
    · intro h
      rw [decide_eq_false_iff_not] at h
      apply q_next
      apply es_last
      apply q_ret (x := .str (Sg (s.reverse.map chp)))
      · refine ef_joinC ef_str (EvP.m (EvN.p (EvN.is (en_lcRev pD s (fun _ => true) (fun p => .str (Sg [chp p])) (ef_var rfl) (by omega) (by simp) (fun _ _ => et_yes) (fun p _ _ => ef_strP (ef_var rfl))) ?_))) (by rw [List.length_map, List.length_reverse]; omega)
        rw [filter_yes, List.map_map]
        rfl
      · rw [txt, if_neg h]
  | bad x hb => exact q_dropX (ex_call (by walk_at "ev") (.bad x hb)) rfl


inductive gr_left (er : Str → Addr) : List Da → Out → Prop
  | mk (r : Ru) (s : List Pg) (g : Pg) (h : s.length ≤ 1000) : gr_left er [ruD r, stD s, pD g] (.f (nD (L r s.reverse g)))
  | bad1 (x y z : Da) (h : badRule x) : gr_left er [x, y, z] (.e (er "BadRule"))
  | bad2 (r : Ru) (y z : Da) (h : badState y) : gr_left er [ruD r, y, z] (.e (er "BadState"))
  | bad3 (r : Ru) (s : List Pg) (z : Da) (hs : s.length ≤ 1000) (h : badPeg z) : gr_left er [ruD r, stD s, z] (.e (er "BadPeg"))

theorem cal_left {f : Addr} {fd : FuncData} (F : FnP K "left" s_left f fd) (hm : mg "left" = some (.ref f)) (G : Glb mg)
    (c_check_rule : Cal P w K mg base 1 "check_rule" ["rule"] (gr_check_rule er))
    (c_check_state : Cal P w K mg base 3 "check_state" ["state"] (gr_check_state er))
    (c_check_peg : Cal P w K mg base 3 "check_peg" ["peg"] (gr_check_peg er))
    (c_left_of : Cal P w K mg base 4 "left_of" ["rule", "state", "peg", "table"] (gr_left_of er))
    (c_towers : Cal P w K mg base 1 "towers" ["rule", "many"] (gr_towers er)) :
    Cal P w K mg base 5 "left" ["rule", "state", "peg"] (gr_left er) := by
  have hb : Binds K fd ["rule", "state", "peg"] [] := F.bindsN fun _ _ _ _ _ _ us hl => match us, hl with | [_, _, _], _ => rfl
  refine cal_of (n := 3) F sc_left hm hb rfl (by rintro ds r h; cases h <;> rfl) (fun cdv A outer s H E hr => ⟨_, (pss_cons (ps_expr (pe_cal c_check_rule ⟨rfl, rfl, rfl, rfl, rfl⟩ (hr.mono (by decide)) (by rfl) lets_on (pa_cons (pv 0) pa_nil)))
      (pss_cons (ps_expr (pe_cal c_check_state ⟨rfl, rfl, rfl, rfl, rfl⟩ (hr.mono (by decide)) (by rfl) lets_on (pa_cons (pv 1) pa_nil)))
      (pss_cons (ps_expr (pe_cal c_check_peg ⟨rfl, rfl, rfl, rfl, rfl⟩ (hr.mono (by decide)) (by rfl) lets_on (pa_cons (pv 2) pa_nil)))
      (pss_one (ps_ret (pe_cal c_left_of ⟨rfl, rfl, rfl, rfl, rfl⟩ (hr.mono (by decide)) (by rfl) lets_on (pa_cons (pv 0) (pa_cons (pv 1) (pa_cons (pv 2) (pa_cons (pe_cal c_towers ⟨rfl, rfl, rfl, rfl, rfl⟩ (hr.mono (by decide)) (by rfl) lets_on (pa_cons (pv 0) (pa_cons (pe_callB (lenK (K := K) rfl) (by rfl) G.b_len (by decide +kernel) (pa_cons (pv 1) pa_nil)) pa_nil))) pa_nil)))))))))), ?_⟩)
  rintro ds o h
  cases h with
  | mk r s g hs =>
    apply q_drop
    · exact ef_call (by walk_at "ev") (.mk r)
    apply q_drop
    · exact ef_call (by walk_at "ev") (.mk s hs)
    apply q_drop
    · exact ef_call (by walk_at "ev") (.mk g)
    apply es_last
    apply q_ret
    · refine ef_call (ea_cons (ef_var rfl) (ea_cons (ef_var rfl) (ea_cons (ef_var rfl) (ea_cons (EvN.f (en_call (ea_cons (ef_var rfl) (ea_cons (x := nD s.length) (EvF.is (by walk_at "ev") ?_) ea_nil)) (.mk r s.length hs))) ea_nil)))) (.mk r s g s.length hs (by omega))
      rw [List.length_map]
    · rfl
  | bad1 x y z hb => exact q_dropX (ex_call (by walk_at "ev") (.bad x hb)) rfl
  | bad2 r y z hb =>
    apply q_drop
    · exact ef_call (by walk_at "ev") (.mk r)
    exact q_dropX (ex_call (by walk_at "ev") (.bad y hb)) rfl
  | bad3 r s z hs hb =>
    apply q_drop
    · exact ef_call (by walk_at "ev") (.mk r)
    apply q_drop
    · exact ef_call (by walk_at "ev") (.mk s hs)
    exact q_dropX (ex_call (by walk_at "ev") (.bad z hb)) rfl


/-- what the lesser discs ahead of each take -/
abbrev smL (r : Ru) (s gs : List Pg) (n : Nat) : List Da := (List.range (n + 1)).map fun i => nD (sumF r 0 (s.take i) (gs.take i))
theorem smL_succ (r : Ru) (s gs : List Pg) (n : Nat) : smL r s gs n ++ [nD (sumF r 0 (s.take (n + 1)) (gs.take (n + 1)))] = smL r s gs (n + 1) := by
  unfold smL
  rw [List.range_succ (n := n + 1), List.map_append]
  rfl
theorem smL_len (r : Ru) (s gs : List Pg) (n : Nat) : (smL r s gs n).length = n + 1 := by rw [List.length_map, List.length_range]
theorem smL_last (r : Ru) (s gs : List Pg) (n : Nat) : atI (smL r s gs n) (-1) = some (nD (sumF r 0 (s.take n) (gs.take n))) := by
  unfold smL
  rw [List.range_succ, List.map_append]
  exact atI_last _ _
theorem smL_at (r : Ru) (s gs : List Pg) {n i : Nat} (h : i ≤ n) : atI (smL r s gs n) (i : Int) = some (nD (sumF r 0 (s.take i) (gs.take i))) := by
  refine atI_nat ?_
  unfold smL
  rw [List.getElem?_map, List.getElem?_range (by omega)]
  rfl
theorem take_snoc {α : Type} {l : List α} {i : Nat} {x : α} (h : l[i]? = some x) : l.take (i + 1) = l.take i ++ [x] := by
  rw [List.take_succ, h]
  rfl
inductive gr_led (er : Str → Addr) : List Da → Out → Prop
  | mk (r : Ru) (s : List Pg) (g : Pg) (k n : Nat) (h : s.length ≤ 1000) (hn : s.length ≤ n + 1) : gr_led er [ruD r, stD s, pD g, nD k, .lst (tbL r n)] (.n (stL (B r s.reverse g k).reverse))

theorem cal_led {f : Addr} {fd : FuncData} (F : FnP K "led" s_led f fd) (hm : mg "led" = some (.ref f)) (G : Glb mg)
    (c_goals_of : Cal P w K mg base 3 "goals_of" ["rule", "state", "peg"] (gr_goals_of er))
    (c_steps_of : Cal P w K mg base 2 "steps_of" ["rule", "start", "end"] (gr_steps_of er))
    (c_behind_first : Cal P w K mg base 3 "behind_first" ["rule", "start", "end", "ahead"] (gr_behind_first er))
    (c_gone : Cal P w K mg base 3 "gone" ["rule", "steps", "ahead", "lesser", "number"] (gr_gone er))
    (c_tower_behind : Cal P w K mg base 4 "tower_behind" ["rule", "many", "start", "goal", "number", "table"] (gr_tower_behind er)) :
    Cal P w K mg base 5 "led" ["rule", "state", "peg", "number", "table"] (gr_led er) := by
  have hb : Binds K fd ["rule", "state", "peg", "number", "table"] [] := F.bindsN fun _ _ _ _ _ _ us hl => match us, hl with | [_, _, _, _, _], _ => rfl
  refine cal_of (n := 16) F sc_led hm hb rfl (by rintro ds r h; cases h <;> rfl) (fun cdv A outer s H E hr => ⟨_, (pss_cons (ps_set (i := 5) sc_led.nd rfl (Or.inl rfl) (pe_cal c_goals_of ⟨rfl, rfl, rfl, rfl, rfl⟩ (hr.mono (by decide)) (by rfl) lets_on (pa_cons (pv 0) (pa_cons (pv 1) (pa_cons (pv 2) pa_nil)))))
      (pss_cons (ps_set (i := 6) sc_led.nd rfl (Or.inl rfl) (pe_lst (pa_cons pe_int pa_nil)))
      (pss_cons (ps_for loops_on rfl (enumPI (K := K) rfl (pi_enum rfl G.b_enumerate (pa_cons (pv 1) pa_nil))) (tupPG (K := K) rfl (pg_tup (n := 2) rfl (pgs_cons (pg_name (i := 7) sc_led.nd rfl (Or.inl rfl)) (pgs_cons (pg_name (i := 8) sc_led.nd rfl (Or.inl rfl)) pgs_nil)))) (pss_one (ps_expr (appPE (K := K) rfl (pe_bm PySem.F.plainAttrs_list PySem.F.slot_list_append PySem.F.type_list_append mt_append (pv 6) (pa_cons (pe_op opAdd (pe_ix (ixK (K := K) rfl) (pv 6) (pe_un un_neg pe_int) (fun _ _ => rfl)) (pe_cal c_behind_first ⟨rfl, rfl, rfl, rfl, rfl⟩ (hr.mono (by decide)) (by rfl) lets_on (pa_cons (pv 0) (pa_cons (pv 8) (pa_cons (pe_ix (ixK (K := K) rfl) (pv 5) (pv 7) (fun _ _ => rfl)) (pa_cons (pe_ix (ixK (K := K) rfl) (pv 4) (pv 7) (fun _ _ => rfl)) pa_nil)))))) pa_nil))))))
      (pss_cons (ps_set (i := 9) sc_led.nd rfl (Or.inl rfl) (pe_lst pa_nil))
      (pss_cons (ps_for loops_on rfl (pi_revR rfl G.b_reversed (prg_1 rfl G.b_range (pe_callB (lenK (K := K) rfl) (by rfl) G.b_len (by decide +kernel) (pa_cons (pv 1) pa_nil)))) (pg_name (i := 7) sc_led.nd rfl (Or.inl rfl)) (pss_cons (ps_set (i := 10) sc_led.nd rfl (Or.inl rfl) (pe_cal c_steps_of ⟨rfl, rfl, rfl, rfl, rfl⟩ (hr.mono (by decide)) (by rfl) lets_on (pa_cons (pv 0) (pa_cons (pe_ix (ixK (K := K) rfl) (pv 1) (pv 7) (fun _ _ => rfl)) (pa_cons (pe_ix (ixK (K := K) rfl) (pv 5) (pv 7) (fun _ _ => rfl)) pa_nil)))))
      (pss_one (ps_if (PW.pt (pw_or (pt_cmpR (opEq (K := K) hr rfl) (pv 10) (pe_lst pa_nil) (nomark _)) (pw_or1 (pt_cmpR op_le (pv 3) (pe_ix (ixK (K := K) rfl) (pv 6) (pv 7) (fun _ _ => rfl)) (nomark _))))) (pss_one (ps_expr (appPE (K := K) rfl (pe_bm PySem.F.plainAttrs_list PySem.F.slot_list_append PySem.F.type_list_append mt_append (pv 9) (pa_cons (pe_ix (ixK (K := K) rfl) (pv 1) (pv 7) (fun _ _ => rfl)) pa_nil))))) (pss_cons (ps_set (i := 11) sc_led.nd rfl (Or.inl rfl) (pe_op op_sub (pe_op op_sub pe_int (pe_ix (ixK (K := K) rfl) (pe_ix (ixK (K := K) rfl) (pv 10) pe_int (fun _ _ => rfl)) pe_int (fun _ _ => rfl))) (pe_ix (ixK (K := K) rfl) (pe_ix (ixK (K := K) rfl) (pv 10) pe_int (fun _ _ => rfl)) pe_int (fun _ _ => rfl))))
      (pss_cons (ps_aug (i := 3) sc_led.nd rfl (Or.inl rfl) (pe_op opAdd (pe_ix (ixK (K := K) rfl) (pv 6) (pv 7) (fun _ _ => rfl)) pe_int) ip_sub)
      (pss_cons (ps_par3 (i := 12) (j := 13) (l := 14) rfl sc_led.nd rfl rfl rfl (by decide) (by decide) (by decide) rfl rfl rfl (pa_cons (pe_ix (ixK (K := K) rfl) (pe_ix (ixK (K := K) rfl) (pv 10) pe_int (fun _ _ => rfl)) pe_int (fun _ _ => rfl)) (pa_cons (pv 11) (pa_cons (pe_ix (ixK (K := K) rfl) (pv 5) (pv 7) (fun _ _ => rfl)) pa_nil))) (by rfl))
      (pss_cons (ps_if (pt_cmpR op_gt (pe_callB (lenK (K := K) rfl) (by rfl) G.b_len (by decide +kernel) (pa_cons (pv 10) pa_nil)) pe_int (nomark _)) (pss_cons (ps_asg (pe_cal c_gone ⟨rfl, rfl, rfl, rfl, rfl⟩ (hr.mono (by decide)) (by rfl) lets_on (pa_cons (pv 0) (pa_cons (pe_slice (slK (K := K) rfl) (pv 10) (po_some pe_int) po_none) (pa_cons (pe_ix (ixK (K := K) rfl) (pv 4) (pv 7) (fun _ _ => rfl)) (pa_cons (pv 11) (pa_cons (pv 3) pa_nil)))))) (tupPG (K := K) rfl (pg_tup (n := 4) rfl (pgs_cons (pg_name (i := 12) sc_led.nd rfl (Or.inl rfl)) (pgs_cons (pg_name (i := 13) sc_led.nd rfl (Or.inl rfl)) (pgs_cons (pg_name (i := 3) sc_led.nd rfl (Or.inl rfl)) (pgs_cons (pg_name (i := 15) sc_led.nd rfl (Or.inl rfl)) pgs_nil)))))))
      (pss_one (ps_if (pt_cmpR op_ge (pv 15) pe_int (nomark _)) (pss_one (ps_set (i := 14) sc_led.nd rfl (Or.inl rfl) (pv 15))) pss_nil))) pss_nil)
      (pss_one (ps_ret (revK (K := K) rfl (pe_op opAdd (pe_op opAdd (pv 9) (pe_lst (pa_cons (pv 12) pa_nil))) (pe_cal c_tower_behind ⟨rfl, rfl, rfl, rfl, rfl⟩ (hr.mono (by decide)) (by rfl) lets_on (pa_cons (pv 0) (pa_cons (pv 7) (pa_cons (pv 13) (pa_cons (pv 14) (pa_cons (pv 3) (pa_cons (pv 4) pa_nil)))))))))))))))))))
      (pss_one (ps_ret (revK (K := K) rfl (pv 9))))))))), ?_⟩)
  rintro ds o ⟨r, s, g, k, n, hs, hn⟩
  walk_at "nm"
  apply q_asgL (xs := stL (gls r s g))
  · exact en_call (ea_cons (ef_var rfl) (ea_cons (ef_var rfl) (ea_cons (ef_var rfl) ea_nil))) (.mk r s g hs)
  walk_at "nm"
  apply q_asgN (xs := smL r s (gls r s g) 0)
  · exact en_lst (ea_cons ef_int ea_nil) (Nat.le_of_ble_eq_true rfl)
  walk_at "nm"
  have hgl := gls_len r s g
  apply q_mid (fun ρ => ∃ a b, ρ = [.d (ruD r), .d (stD s), .d (pD g), .d (nD k), .d (.lst (tbL r n)), .l (stL (gls r s g)), .m (smL r s (gls r s g) s.length), a, b, .un, .un, .un, .un, .un, .un, .un])
  · refine es_forEnum pD s (by walk_at "ev") (fun i l ρ => ∃ a b, s.drop i = l ∧ i ≤ s.length ∧ ρ = [.d (ruD r), .d (stD s), .d (pD g), .d (nD k), .d (.lst (tbL r n)), .l (stL (gls r s g)), .m (smL r s (gls r s g) i), a, b, .un, .un, .un, .un, .un, .un, .un]) ⟨_, _, rfl, Nat.zero_le _, rfl⟩ ?_ ?_
    · rintro i x l ρ ⟨a, b, h1, h2, rfl⟩
      obtain ⟨m1, m2, m3⟩ := drop_succ_at h1
      obtain ⟨y, hy⟩ : ∃ y, (gls r s g)[i]? = some y := ⟨_, List.getElem?_eq_getElem (by omega)⟩
      walk_at "nm"
      apply es_last
      have hsum : sumF r 0 (s.take (i + 1)) ((gls r s g).take (i + 1)) = sumF r 0 (s.take i) ((gls r s g).take i) + bf r i x y := by
        rw [take_snoc m1, take_snoc hy, sumF_app r x y 0 _ _ (by rw [List.length_take, List.length_take]; omega), List.length_take, Nat.zero_add, Nat.min_eq_left (by omega)]
      apply q_app rfl (x := nD (sumF r 0 (s.take (i + 1)) ((gls r s g).take (i + 1))))
      · refine EvF.is (ef_binD (EvF.now (ef_binM (EvP.m (ep_varm rfl)) (ef_neg ef_int) (rm_ix (smL_last r s _ i)))) (EvF.now (ef_call (ea_cons (ef_var rfl) (ea_cons (ef_var rfl) (ea_cons (ef_binM (EvF.m (ef_varl rfl)) (ef_var rfl) (rm_ix (stL_at hy))) (ea_cons (ef_binM (EvF.m (ef_var rfl)) (ef_var rfl) (rm_ix (tbL_at r (n := n) (by omega)))) ea_nil)))) (.mk r i x y))) rv_add) ?_
        rw [hsum]
        simp [nD]
      · rw [smL_len]; omega
      walk_at "nm"
      rw [smL_succ]
      exact q_end ⟨_, _, m2, m3, rfl⟩
    · rintro i ρ ⟨a, b, h1, h2, rfl⟩
      have : i = s.length := by
        have := congrArg List.length h1
        rw [List.length_drop, List.length_nil] at this
        omega
      rw [this]
      exact ⟨_, _, rfl⟩
  rintro ρ ⟨a, b, rfl⟩
  refine q_frz 6 (xs := smL r s (gls r s g) s.length) rfl ?_
  walk_at "nm"
  apply q_asgN (xs := stL [])
  · exact en_lst ea_nil (Nat.zero_le _)
  walk_at "nm"
  generalize hB : B r s.reverse g k = W
  have hWl : W.length = s.length := by rw [← hB, B_len, List.length_reverse]
  apply q_mid (fun ρ => ∃ a b c, ρ = [.d (ruD r), .d (stD s), .d (pD g), .d (nD k), .d (.lst (tbL r n)), .l (stL (gls r s g)), .l (smL r s (gls r s g) s.length), a, b, .m (stL W), c, .un, .un, .un, .un, .un])
  · refine es_forRR (n := s.length) (Inv := fun i ρ => ∃ acc g' a c, acc ++ B r (s.take i).reverse g' k = W ∧ (gls r s g).take i = (goG r (s.take i).reverse g').reverse ∧ i ≤ s.length ∧
      ρ = [.d (ruD r), .d (stD s), .d (pD g), .d (nD k), .d (.lst (tbL r n)), .l (stL (gls r s g)), .l (smL r s (gls r s g) s.length), a, b, .m (stL acc), c, .un, .un, .un, .un, .un]) ?_ (by omega) ⟨[], g, a, .un, by rw [List.take_length, hB]; rfl, by rw [List.take_length, List.take_of_length_le (by omega)]; rfl, Nat.le_refl _, rfl⟩ ?_ ?_
    · exact EvF.is (by walk_at "ev") (by rw [List.length_map])
    · rintro i ρ hi ⟨acc, g', a, c, h1, h2, _, rfl⟩
      have hx : s[i]? = some s[i] := List.getElem?_eq_getElem hi
      generalize s[i] = x at hx
      have hrev : (s.take (i + 1)).reverse = x :: (s.take i).reverse := by rw [take_snoc hx, List.reverse_append]; rfl
      rw [hrev] at h1 h2
      rw [goG, List.reverse_cons] at h2
      have hlg : (goG r (s.take i).reverse (nx r x g')).reverse.length = i := by rw [List.length_reverse, goG_len, List.length_reverse, List.length_take]; omega
      have hy : (gls r s g)[i]? = some g' := by
        have : ((gls r s g).take (i + 1))[i]? = ((goG r (s.take i).reverse (nx r x g')).reverse ++ [g'])[i]? := by rw [h2]
        rw [List.getElem?_take_of_succ, List.getElem?_append_right (by omega), hlg, Nat.sub_self] at this
        exact this
      have h3 : (gls r s g).take i = (goG r (s.take i).reverse (nx r x g')).reverse := by
        have : ((gls r s g).take (i + 1)).take i = ((goG r (s.take i).reverse (nx r x g')).reverse ++ [g']).take i := by rw [h2]
        rw [List.take_take, Nat.min_eq_left (by omega), List.take_left' hlg] at this
        exact this
      have hsum : sumF r 0 (s.take i) ((gls r s g).take i) = L r (s.take i).reverse (nx r x g') := by
        have := sumF_L r (s.take i).reverse (nx r x g')
        rw [List.reverse_reverse] at this
        rw [h3, this]
      have hal : acc.length ≤ 1000 := by
        have := congrArg List.length h1
        rw [List.length_append] at this
        omega
      have hli : (s.take i).reverse.length = i := by rw [List.length_reverse, List.length_take]; omega
      rw [B_cons, hli] at h1
      walk_at "nm"
      have hvx : ∀ ρ : Rho, ρ[1]? = some (.d (stD s)) → ρ[7]? = some (.d (nD i)) → EvF K (tOp (rIx K) (tVar 1) (tVar 7)) ρ (pD x) := fun ρ q1 q2 => ef_binM (EvF.m (ef_var q1)) (ef_var q2) (rm_ix (stL_at hx))
      have hvy : ∀ ρ : Rho, ρ[5]? = some (.l (stL (gls r s g))) → ρ[7]? = some (.d (nD i)) → EvF K (tOp (rIx K) (tVar 5) (tVar 7)) ρ (pD g') := fun ρ q1 q2 => ef_binM (EvF.m (ef_varl q1)) (ef_var q2) (rm_ix (stL_at hy))
      have hvs : ∀ ρ : Rho, ρ[6]? = some (.l (smL r s (gls r s g) s.length)) → ρ[7]? = some (.d (nD i)) → EvF K (tOp (rIx K) (tVar 6) (tVar 7)) ρ (nD (L r (s.take i).reverse (nx r x g'))) := fun ρ q1 q2 => by
        rw [← hsum]
        exact ef_binM (EvF.m (ef_varl q1)) (ef_var q2) (rm_ix (smL_at r s _ (by omega)))
      have hvt : ∀ ρ : Rho, ρ[4]? = some (.d (.lst (tbL r n))) → ρ[7]? = some (.d (nD i)) → EvF K (tOp (rIx K) (tVar 4) (tVar 7)) ρ (twD (tw r i)) := fun ρ q1 q2 => ef_binM (EvF.m (ef_var q1)) (ef_var q2) (rm_ix (tbL_at r (n := n) (by omega)))
      apply q_asgL (xs := (steps r x g').map prD)
      · exact en_call (ea_cons (ef_var rfl) (ea_cons (hvx _ rfl rfl) (ea_cons (hvy _ rfl rfl) ea_nil))) (.mk r x g')
      walk_at "nm"
      generalize hm : L r (s.take i).reverse (nx r x g') = m at *
      apply es_last
      apply q_if (b := decide (x = g') || decide (k ≤ m))
      · refine EvT.is (et_or (et_eqNil (EvF.now (ef_varl rfl)) (steps_ok _)) fun _ => et_test (ef_binD (EvF.now (ef_var rfl)) (EvF.now (hvs _ rfl rfl)) rv_le)) ?_
        rw [steps_emp]
        congr 1
        rw [decide_eq_decide]
        omega
      · intro hc
        rw [Bool.or_eq_true, decide_eq_true_eq, decide_eq_true_eq] at hc
        rw [if_pos hc] at h1
        apply q_app rfl (x := pD x)
        · exact hvx _ rfl rfl
        · rw [List.length_map]; omega
        walk_at "nm"
        apply q_next
        refine q_end ⟨acc ++ [x], nx r x g', .d (nD i), .l ((steps r x g').map prD), by rw [List.append_assoc]; exact h1, h3, by omega, ?_⟩
        rw [← stL_app]
        rfl
      · intro hc
        have hc' : ¬ (x = g' ∨ k ≤ m) := by
          intro z
          rw [← decide_eq_true_eq (p := x = g'), ← decide_eq_true_eq (p := k ≤ m), ← Bool.or_eq_true, hc] at z
          cases z
        rw [if_neg hc'] at h1
        have hxg : ¬ x = g' := fun z => hc' (Or.inl z)
        have hkm : m < k := by
          have : ¬ k ≤ m := fun z => hc' (Or.inr z)
          omega
        obtain ⟨st, hst⟩ := steps_head r hxg
        have hne := steps_ne r x g'
        have hfx : ¬ x = fs r x g' := (near_fs r x g' hxg).2.1
        have hfst : ∀ ρ : Rho, ρ[10]? = some (.l ((steps r x g').map prD)) → EvF K (tOp (rIx K) (tVar 10) (tC (.int 0))) ρ (prD (x, fs r x g')) := fun ρ q1 => by
          rw [hst] at q1
          exact ef_binM (EvF.m (ef_varl q1)) ef_int (rm_ix (atI_nat (j := 0) rfl))
        apply q_assoc
        apply q_asg (x := pD (nx r x g'))
        · exact EvF.is (ef_binD (EvF.now (ef_binD (EvF.now ef_int) (EvF.now (ef_binF (hfst _ rfl) ef_int (rf_ix rfl))) rv_sub)) (EvF.now (ef_binF (hfst _ rfl) ef_int (rf_ix rfl))) rv_sub) (congrArg Da.int (nx_int r hxg))
        walk_at "nm"
        apply q_assoc
        apply q_aug rfl (b := (m : Int) + 1)
        · exact ef_binD (EvF.now (hvs _ rfl rfl)) (EvF.now ef_int) rv_add
        walk_at "nm"
        have e1 : (k : Int) - ((m : Int) + 1) = ((k - (m + 1) : Nat) : Int) := by omega
        show EvS K E _ [_, _, _, .d (.int ((k : Int) - ((m : Int) + 1))), _, _, _, _, _, _, _, _, _, _, _, _] _
        rw [e1]
        apply q_assoc
        apply q_par3 (x := pD (fs r x g')) (y := pD (nx r x g')) (z := pD g')
        · exact ea_cons (ef_binF (hfst _ rfl) ef_int (rf_ix rfl)) (ea_cons (ef_var rfl) (ea_cons (hvy _ rfl rfl) ea_nil))
        walk_at "nm"
        -- the end
        have fin : ∀ (u : TS) (pl l gg : Pg) (kk : Nat) (x1 x3 : Sl) (D : DE), acc ++ pl :: B r (List.replicate i l) gg kk = W → D.rt (.n (stL W.reverse)) →
            EvS K E (tSeq (tRet (tRevL K (tOp rAdd3 (tOp rAdd3 (tVar 9) (tLst (tCons (tVar 12) tNil))) (tCall (spD K (gr_tower_behind er)) [] E (tCons (tVar 0) (tCons (tVar 7) (tCons (tVar 13) (tCons (tVar 14) (tCons (tVar 3) (tCons (tVar 4) tNil)))))))))) u)
              [.d (ruD r), .d (stD s), .d (pD g), .d (nD kk), .d (.lst (tbL r n)), .l (stL (gls r s g)), .l (smL r s (gls r s g) s.length), .d (nD i), b, .m (stL acc), .l ((steps r x g').map prD), x1, .d (pD pl), .d (pD l), .d (pD gg), x3] D := fun u pl l gg kk x1 x3 D hW hD => by
          apply q_retN (xs := (stL acc ++ [pD pl] ++ stL (TBF r i l gg kk)).reverse)
          · apply en_rev
            apply EvP.m
            apply EvN.p
            refine en_binP (EvN.p (en_binP (ep_varm rfl) (EvN.p (en_lst (ea_cons (ef_var rfl) ea_nil) (Nat.le_of_ble_eq_true rfl))) (rp_add ?_))) (EvN.p (en_call (ea_cons (ef_var rfl) (ea_cons (ef_var rfl) (ea_cons (ef_var rfl) (ea_cons (ef_var rfl) (ea_cons (ef_var rfl) (ea_cons (ef_var rfl) ea_nil)))))) (.mk r i l gg kk n (by omega) (by omega)))) (rp_add ?_)
            · rw [List.length_map, List.length_singleton]; omega
            · rw [List.length_append, List.length_map, List.length_singleton, List.length_map, TBF_len]; omega
          · have : (stL acc ++ [pD pl] ++ stL (TBF r i l gg kk)).reverse = stL W.reverse := by
              rw [← hW, ← TBF_B]
              simp [stL]
            rw [this]
            exact hD
        by_cases hn2 : near r x g' = true
        · obtain ⟨f1, f2⟩ := near_facts r x g' hxg hn2
          rw [if_pos hn2] at h1
          have hst1 : steps r x g' = [(x, g')] := by rw [steps, if_neg hxg, if_pos hn2]
          apply q_assoc
          apply q_if (b := false)
          · refine EvT.is (et_test (ef_binD (EvF.now (ef_lenM (EvF.m (ef_varl rfl)))) (EvF.now ef_int) rv_gt)) ?_
            rw [hst1]
            rfl
          · intro z; cases z
          intro _
          apply q_next
          apply fin
          · rw [f1, f2]; exact h1
          · rfl
        · obtain ⟨f1, f2, f3, f4, f5, f6⟩ := far_facts r x g' hxg hn2
          rw [if_neg hn2] at h1
          have hst1 : steps r x g' = [(x, thi x g'), (thi x g', g')] := by rw [steps, if_neg hxg, if_neg hn2]
          have t2 : thi (thi x g') g' = x := by
            have := nx_ne r f3
            rw [f6, f5] at this
            exact this.symm
          apply q_assoc
          apply q_if (b := true)
          · refine EvT.is (et_test (ef_binD (EvF.now (ef_lenM (EvF.m (ef_varl rfl)))) (EvF.now ef_int) rv_gt)) ?_
            rw [hst1]
            rfl
          · intro _
            have hg : ∀ ρ : Rho, ρ[0]? = some (.d (ruD r)) → ρ[10]? = some (.l ((steps r x g').map prD)) → ρ[4]? = some (.d (.lst (tbL r n))) → ρ[7]? = some (.d (nD i)) → ρ[11]? = some (.d (pD g')) → ρ[3]? = some (.d (nD (k - (m + 1)))) →
                EvF K (tCall (spD K (gr_gone er)) [] E (tCons (tVar 0) (tCons (tSl (rSlL K) (tVar 10) (tPart (tC (.int 1))) tNoPart) (tCons (tOp (rIx K) (tVar 4) (tVar 7)) (tCons (tVar 11) (tCons (tVar 3) tNil)))))) ρ (goD (goneF r i [(thi x g', g')] (thi x g') g' (k - (m + 1)))) := fun ρ q0 q10 q4 q7 q11 q3 => by
              refine ef_call (ea_cons (ef_var q0) (ea_cons (x := .lst ([(thi x g', g')].map prD)) (EvN.f (EvN.is (en_sl (EvF.m (ef_varl q10)) (eo_some ef_int) eo_none) ?_)) (ea_cons (hvt _ q4 q7) (ea_cons (ef_var q11) (ea_cons (ef_var q3) ea_nil))))) (.mk r i (thi x g') g' [] g' _ ?_)
              · rw [hst1]
                exact cut_from _ 1
              · intro y hy
                rw [List.mem_singleton] at hy
                subst hy
                exact f3
            rw [goneF, t2] at hg
            rw [f2, f1]
            apply q_assoc
            by_cases hk2 : k - (m + 1) ≤ tower r i g' x
            · rw [if_pos hk2] at h1
              apply q_tup (go_tup4 (x1 := pD (thi x g')) (x2 := pD g') (x3 := nD (k - (m + 1))) (x4 := pD x))
              · refine EvF.is (hg _ rfl rfl rfl rfl rfl rfl) ?_
                rw [if_pos hk2]
                rfl
              walk_at "nm"
              apply q_if (b := true)
              · refine EvT.is (et_test (ef_binD (EvF.now (ef_var rfl)) (EvF.now ef_int) rv_ge)) ?_
                rw [decide_eq_true_eq]
                omega
              · intro _
                apply q_asg (x := pD x)
                · exact ef_var rfl
                walk_at "nm"
                apply fin
                · exact h1
                · rfl
              · intro z; cases z
            · rw [if_neg hk2] at h1
              apply q_tup (go_tup4 (x1 := pD g') (x2 := pD x) (x3 := nD (k - (m + 1) - (tower r i g' x + 1))) (x4 := .int (-1)))
              · refine EvF.is (hg _ rfl rfl rfl rfl rfl rfl) ?_
                rw [if_neg hk2]
                rfl
              walk_at "nm"
              apply q_if (b := false)
              · exact EvT.is (et_test (ef_binD (EvF.now (ef_var rfl)) (EvF.now ef_int) rv_ge)) (by decide)
              · intro z; cases z
              · intro _
                apply q_next
                apply fin
                · exact h1
                · rfl
          · intro z; cases z
    · rintro ρ ⟨acc, g', a, c, h1, _, _, rfl⟩
      rw [List.take_zero, List.reverse_nil, B_nil, List.append_nil] at h1
      rw [h1]
      exact ⟨_, _, _, rfl⟩
  · rintro ρ ⟨a, b, c, rfl⟩
    apply es_last
    apply q_retN
    · walk_at "ev"
    · show Out.n _ = Out.n _
      rw [stL, stL, List.map_reverse]


inductive gr_apart_free (er : Str → Addr) : List Da → Out → Prop
  | mk (s t : List Pg) (h : s.length ≤ 1000) (hl : s.length = t.length) : gr_apart_free er [stD s, stD t] (.f (nD (af s.reverse t.reverse)))

theorem cal_apart_free {f : Addr} {fd : FuncData} (F : FnP K "apart_free" s_apart_free f fd) (hm : mg "apart_free" = some (.ref f)) (G : Glb mg)
    (c_towers : Cal P w K mg base 1 "towers" ["rule", "many"] (gr_towers er))
    (c_left_of : Cal P w K mg base 4 "left_of" ["rule", "state", "peg", "table"] (gr_left_of er)) :
    Cal P w K mg base 5 "apart_free" ["one", "other"] (gr_apart_free er) := by
  have hb : Binds K fd ["one", "other"] [] := F.bindsN fun _ _ _ _ _ _ us hl => match us, hl with | [_, _], _ => rfl
  refine cal_of (n := 11) F sc_apart_free hm hb rfl (by rintro ds r h; cases h <;> rfl) (fun cdv A outer s H E hr => ⟨_, (pss_cons (ps_set (i := 2) sc_apart_free.nd rfl (Or.inl rfl) (pe_callB (lenK (K := K) rfl) (by rfl) G.b_len (by decide +kernel) (pa_cons (pv 0) pa_nil)))
      (pss_cons (ps_while loops_on (PW.pt (pw_and (pt_cmpR op_gt (pv 2) pe_int (nomark _)) (pw_and1 (pt_cmpR (opEq (K := K) hr rfl) (pe_ix (ixK (K := K) rfl) (pv 0) (pe_op op_sub (pv 2) pe_int) (fun _ _ => rfl)) (pe_ix (ixK (K := K) rfl) (pv 1) (pe_op op_sub (pv 2) pe_int) (fun _ _ => rfl)) (nomark _))))) (pss_one (ps_aug (i := 2) sc_apart_free.nd rfl (Or.inl rfl) pe_int ip_sub)))
      (pss_cons (ps_if (pt_cmpR (opEq (K := K) hr rfl) (pv 2) pe_int (nomark _)) (pss_one (ps_ret pe_int)) pss_nil)
      (pss_cons (ps_set (i := 3) sc_apart_free.nd rfl (Or.inl rfl) (pe_cal c_towers ⟨rfl, rfl, rfl, rfl, rfl⟩ (hr.mono (by decide)) (by rfl) lets_on (pa_cons pe_str (pa_cons (pv 2) pa_nil))))
      (pss_cons (ps_par (i := 4) (j := 5) rfl sc_apart_free.nd rfl rfl (by decide) rfl rfl (pa_cons (pe_ix (ixK (K := K) rfl) (pv 0) (pe_op op_sub (pv 2) pe_int) (fun _ _ => rfl)) (pa_cons (pe_ix (ixK (K := K) rfl) (pv 1) (pe_op op_sub (pv 2) pe_int) (fun _ _ => rfl)) pa_nil)) (by rfl))
      (pss_cons (ps_set (i := 6) sc_apart_free.nd rfl (Or.inl rfl) (pe_op op_sub (pe_op op_sub pe_int (pv 4)) (pv 5)))
      (pss_cons (ps_par (i := 7) (j := 8) rfl sc_apart_free.nd rfl rfl (by decide) rfl rfl (pa_cons (pe_slice (slK (K := K) rfl) (pv 0) po_none (po_some (pe_op op_sub (pv 2) pe_int))) (pa_cons (pe_slice (slK (K := K) rfl) (pv 1) po_none (po_some (pe_op op_sub (pv 2) pe_int))) pa_nil)) (by rfl))
      (pss_cons (ps_set (i := 9) sc_apart_free.nd rfl (Or.inl rfl) (pe_op opAdd (pe_op opAdd (pe_cal c_left_of ⟨rfl, rfl, rfl, rfl, rfl⟩ (hr.mono (by decide)) (by rfl) lets_on (pa_cons pe_str (pa_cons (pv 7) (pa_cons (pv 6) (pa_cons (pv 3) pa_nil))))) pe_int) (pe_cal c_left_of ⟨rfl, rfl, rfl, rfl, rfl⟩ (hr.mono (by decide)) (by rfl) lets_on (pa_cons pe_str (pa_cons (pv 8) (pa_cons (pv 6) (pa_cons (pv 3) pa_nil)))))))
      (pss_cons (ps_set (i := 10) sc_apart_free.nd rfl (Or.inl rfl) (pe_op opAdd (pe_op opAdd (pe_op opAdd (pe_cal c_left_of ⟨rfl, rfl, rfl, rfl, rfl⟩ (hr.mono (by decide)) (by rfl) lets_on (pa_cons pe_str (pa_cons (pv 7) (pa_cons (pv 5) (pa_cons (pv 3) pa_nil))))) pe_int) (pe_ix (ixK (K := K) rfl) (pe_ix (ixK (K := K) rfl) (pv 3) (pe_op op_sub (pv 2) pe_int) (fun _ _ => rfl)) pe_int (fun _ _ => rfl))) (pe_cal c_left_of ⟨rfl, rfl, rfl, rfl, rfl⟩ (hr.mono (by decide)) (by rfl) lets_on (pa_cons pe_str (pa_cons (pv 8) (pa_cons (pv 4) (pa_cons (pv 3) pa_nil)))))))
      (pss_one (ps_ret (pe_callB (call_min2 rfl) (by rfl) G.b_min (by decide +kernel) (pa_cons (pv 9) (pa_cons (pv 10) pa_nil)))))))))))))), ?_⟩)
  rintro ds o ⟨s, t, hs, hl⟩
  walk_at "nm"
  apply q_asg (x := nD s.length)
  · exact EvF.is (by walk_at "ev") (by rw [List.length_map])
  walk_at "nm"
  have hat : ∀ (ρ : Rho) (j i : Nat) (l : List Pg) (m : Nat) (x : Pg), ρ[j]? = some (.d (stD l)) → ρ[i]? = some (.d (nD (m + 1))) → l[m]? = some x → EvF K (tOp (rIx K) (tVar j) (tOp rSub2 (tVar i) (tC (.int 1)))) ρ (pD x) := fun ρ j i l m x h1 h2 h3 =>
    ef_binM (EvF.m (ef_var h1)) (EvF.is (ef_binD (EvF.now (ef_var h2)) (EvF.now ef_int) rv_sub) (show Da.int _ = Da.int ((m : Nat) : Int) from congrArg Da.int (by omega))) (rm_ix (stL_at h3))
  apply q_mid (fun ρ => ∃ m, m ≤ s.length ∧ af s.reverse t.reverse = af (s.take m).reverse (t.take m).reverse ∧ (∀ m', m = m' + 1 → ∀ x y, s[m']? = some x → t[m']? = some y → ¬ x = y) ∧ ρ = [.d (stD s), .d (stD t), .d (nD m), .un, .un, .un, .un, .un, .un, .un, .un])
  · refine es_while (fun m ρ => m ≤ s.length ∧ af s.reverse t.reverse = af (s.take m).reverse (t.take m).reverse ∧ ρ = [.d (stD s), .d (stD t), .d (nD m), .un, .un, .un, .un, .un, .un, .un, .un]) s.length ⟨Nat.le_refl _, by rw [List.take_length, hl, List.take_length], rfl⟩ ?_
    rintro m ρ ⟨hm, he, rfl⟩
    cases m with
    | zero =>
      refine ⟨false, EvT.is (et_and (b := false) (et_test (ef_binD (EvF.now (ef_var rfl)) (EvF.now ef_int) rv_gt)) fun z => ?_) ?_, fun z => (by cases z), fun _ => ⟨0, Nat.zero_le _, he, fun m' z => by omega, rfl⟩⟩
      · rw [decide_eq_true_eq] at z
        omega
      · rw [Bool.and_false]
    | succ m =>
      obtain ⟨x, hx⟩ : ∃ x, s[m]? = some x := ⟨_, List.getElem?_eq_getElem (by omega)⟩
      obtain ⟨y, hy⟩ : ∃ y, t[m]? = some y := ⟨_, List.getElem?_eq_getElem (by omega)⟩
      refine ⟨decide (x = y), EvT.is (et_and (et_test (ef_binD (EvF.now (ef_var rfl)) (EvF.now ef_int) rv_gt)) fun _ => et_test (ef_binD (EvF.now (hat _ 0 2 s m x rfl rfl hx)) (EvF.now (hat _ 1 2 t m y rfl rfl hy)) rv_eqi)) ?_, fun h => ?_, fun h => ?_⟩
      · rw [decide_eq_true (show (0 : Int) < ((m + 1 : Nat) : Int) by omega), Bool.true_and, pDe]
      · rw [decide_eq_true_eq] at h
        subst h
        apply es_last
        apply q_aug rfl
        · exact ef_int
        walk_at "nm"
        refine q_end ⟨m, Nat.lt_succ_self m, by omega, by rw [he, af_strip hx hy], congrArg (fun z => [_, _, Sl.d (.int z), _, _, _, _, _, _, _, _]) (by omega)⟩
      · rw [decide_eq_false_iff_not] at h
        refine ⟨m + 1, hm, he, fun m' z x' y' h1 h2 => ?_, rfl⟩
        have : m' = m := by omega
        subst this
        rw [hx] at h1
        rw [hy] at h2
        rw [← Option.some.inj h1, ← Option.some.inj h2]
        exact h
  rintro ρ ⟨m, hm, he, hne, rfl⟩
  cases m with
  | zero =>
    apply q_if (b := true)
    · exact EvT.is (et_test (ef_binD (EvF.now (ef_var rfl)) (EvF.now ef_int) rv_eqi)) rfl
    · intro _
      apply q_ret
      · exact ef_int
      · rw [he]
        rfl
    · intro z; cases z
  | succ m =>
    apply q_if (b := false)
    · refine EvT.is (et_test (ef_binD (EvF.now (ef_var rfl)) (EvF.now ef_int) rv_eqi)) ?_
      rw [decide_eq_false (show ¬ ((m + 1 : Nat) : Int) = 0 by omega)]
    · intro z; cases z
    intro _
    apply q_next
    obtain ⟨x, hx⟩ : ∃ x, s[m]? = some x := ⟨_, List.getElem?_eq_getElem (by omega)⟩
    obtain ⟨y, hy⟩ : ∃ y, t[m]? = some y := ⟨_, List.getElem?_eq_getElem (by omega)⟩
    have hxy := hne m rfl x y hx hy
    apply q_asgL (xs := tbL .free (m + 1))
    · exact en_call (ea_cons (x := ruD .free) ef_str (ea_cons (ef_var rfl) ea_nil)) (.mk .free (m + 1) (by omega))
    walk_at "nm"
    apply q_par2 (x := pD x) (y := pD y)
    · exact ea_cons (hat _ 0 2 s m x rfl rfl hx) (ea_cons (hat _ 1 2 t m y rfl rfl hy) ea_nil)
    walk_at "nm"
    apply q_asg (x := pD (thi x y))
    · exact EvF.is (ef_binD (EvF.now (ef_binD (EvF.now ef_int) (EvF.now (ef_var rfl)) rv_sub)) (EvF.now (ef_var rfl)) rv_sub) (congrArg Da.int (thi_int x y hxy))
    walk_at "nm"
    have hcut : ∀ (ρ : Rho) (j : Nat) (l : List Pg), m ≤ l.length → ρ[j]? = some (.d (stD l)) → ρ[2]? = some (.d (nD (m + 1))) → EvF K (tSl (rSlL K) (tVar j) tNoPart (tPart (tOp rSub2 (tVar 2) (tC (.int 1))))) ρ (stD (l.take m)) := fun ρ j l hl h1 h2 => by
      refine EvN.f (EvN.is (en_sl (EvF.m (ef_var h1)) eo_none (eo_some (EvF.is (ef_binD (EvF.now (ef_var h2)) (EvF.now ef_int) rv_sub) (show Da.int _ = Da.int ((m : Nat) : Int) from congrArg Da.int (by omega))))) ?_)
      rw [cut_to _ _ (by rw [List.length_map]; exact hl), stL, stL, List.map_take]
    apply q_par2 (x := stD (s.take m)) (y := stD (t.take m))
    · exact ea_cons (hcut _ 0 s (by omega) rfl rfl) (ea_cons (hcut _ 1 t (by omega) rfl rfl) ea_nil)
    walk_at "nm"
    have hsl : (s.take m).length = m := by rw [List.length_take]; omega
    have htl : (t.take m).length = m := by rw [List.length_take]; omega
    have haf : af s.reverse t.reverse = min (Lf (s.take m).reverse (thi x y) + 1 + Lf (t.take m).reverse (thi x y)) (Lf (s.take m).reverse y + 2 + T2 m + Lf (t.take m).reverse x) := by
      rw [he, List.take_succ, List.take_succ, hx, hy, List.reverse_append, List.reverse_append]
      show af (x :: (s.take m).reverse) (y :: (t.take m).reverse) = _
      rw [af, if_neg hxy, List.length_reverse, hsl]
    rw [haf]
    have hlo : ∀ (ρ : Rho) (tb tg : TE) (l : List Pg) (g : Pg), l.length = m → EvF K tb ρ (stD l) → EvF K tg ρ (pD g) → ρ[3]? = some (.l (tbL .free (m + 1))) → EvF K (tCall (spD K (gr_left_of er)) [] E (tCons (tC (.str "free")) (tCons tb (tCons tg (tCons (tVar 3) tNil))))) ρ (nD (Lf l.reverse g)) := fun ρ tb tg l g hl h1 h2 h3 =>
      ef_call (ea_cons (x := ruD .free) ef_str (ea_cons h1 (ea_cons h2 (ea_cons (ef_varl h3) ea_nil)))) (.mk .free l g (m + 1) (by omega) (by omega))
    generalize s.take m = s1 at *
    generalize t.take m = t1 at *
    apply q_asg (x := nD (Lf s1.reverse (thi x y) + 1 + Lf t1.reverse (thi x y)))
    · exact EvF.is (ef_binD (EvF.now (ef_binD (EvF.now (hlo _ _ _ s1 (thi x y) hsl (ef_var rfl) (ef_var rfl) rfl)) (EvF.now ef_int) rv_add)) (EvF.now (hlo _ _ _ t1 (thi x y) htl (ef_var rfl) (ef_var rfl) rfl)) rv_add) (by simp [nD])
    walk_at "nm"
    have htb : ∀ ρ : Rho, ρ[3]? = some (.l (tbL .free (m + 1))) → ρ[2]? = some (.d (nD (m + 1))) → EvF K (tOp (rIx K) (tOp (rIx K) (tVar 3) (tOp rSub2 (tVar 2) (tC (.int 1)))) (tC (.int 0))) ρ (nD (T2 m)) := fun ρ h1 h2 =>
      ef_binF (ef_binM (EvF.m (ef_varl h1)) (EvF.is (ef_binD (EvF.now (ef_var h2)) (EvF.now ef_int) rv_sub) (show Da.int _ = Da.int ((m : Nat) : Int) from congrArg Da.int (by omega))) (rm_ix (tbL_at .free (n := m + 1) (by omega)))) ef_int (rf_ix rfl)
    apply q_asg (x := nD (Lf s1.reverse y + 2 + T2 m + Lf t1.reverse x))
    · exact EvF.is (ef_binD (EvF.now (ef_binD (EvF.now (ef_binD (EvF.now (hlo _ _ _ s1 y hsl (ef_var rfl) (ef_var rfl) rfl)) (EvF.now ef_int) rv_add)) (EvF.now (htb _ rfl rfl)) rv_add)) (EvF.now (hlo _ _ _ t1 x htl (ef_var rfl) (ef_var rfl) rfl)) rv_add) (by simp [nD])
    walk_at "nm"
    apply es_last
    apply q_ret (x := nD (min (Lf s1.reverse (thi x y) + 1 + Lf t1.reverse (thi x y)) (Lf s1.reverse y + 2 + T2 m + Lf t1.reverse x)))
    · refine EvF.is (ef_min (ea_cons (ef_var rfl) (ea_cons (ef_var rfl) ea_nil))) (congrArg Da.int ?_)
      split <;> omega
    · rfl


inductive gr_behind (er : Str → Addr) : List Da → Out → Prop
  | mk (r : Ru) (s : List Pg) (g : Pg) (k : Nat) (h : s.length ≤ 1000) (hk : k ≤ L r s.reverse g) : gr_behind er [ruD r, stD s, pD g, nD k] (.n (stL (B r s.reverse g k).reverse))
  | bad1 (x y z v : Da) (h : badRule x) : gr_behind er [x, y, z, v] (.e (er "BadRule"))
  | bad2 (r : Ru) (y z v : Da) (h : badState y) : gr_behind er [ruD r, y, z, v] (.e (er "BadState"))
  | bad3 (r : Ru) (s : List Pg) (z v : Da) (hs : s.length ≤ 1000) (h : badPeg z) : gr_behind er [ruD r, stD s, z, v] (.e (er "BadPeg"))
  | bad4 (r : Ru) (s : List Pg) (g : Pg) (v : Da) (hs : s.length ≤ 1000) (ht : hasTy v) (h : isW v = false) : gr_behind er [ruD r, stD s, pD g, v] (.e (er "BadNumber"))
  | bad5 (r : Ru) (s : List Pg) (g : Pg) (i : Int) (hs : s.length ≤ 1000) (h : i < 0 ∨ (L r s.reverse g : Int) < i) : gr_behind er [ruD r, stD s, pD g, .int i] (.e (er "BadNumber"))

theorem cal_behind {f : Addr} {fd : FuncData} (F : FnP K "behind" s_behind f fd) (hm : mg "behind" = some (.ref f)) (G : Glb mg) (e_BadNumber : ErrC K mg "BadNumber" (er "BadNumber"))
    (c_check_rule : Cal P w K mg base 1 "check_rule" ["rule"] (gr_check_rule er))
    (c_check_state : Cal P w K mg base 3 "check_state" ["state"] (gr_check_state er))
    (c_check_peg : Cal P w K mg base 3 "check_peg" ["peg"] (gr_check_peg er))
    (c_towers : Cal P w K mg base 1 "towers" ["rule", "many"] (gr_towers er))
    (c_led : Cal P w K mg base 5 "led" ["rule", "state", "peg", "number", "table"] (gr_led er))
    (c_is_whole : Cal P w K mg base 1 "is_whole" ["thing"] (gr_is_whole er))
    (c_left_of : Cal P w K mg base 4 "left_of" ["rule", "state", "peg", "table"] (gr_left_of er)) :
    Cal P w K mg base 6 "behind" ["rule", "state", "peg", "number"] (gr_behind er) := by
  have hb : Binds K fd ["rule", "state", "peg", "number"] [] := F.bindsN fun _ _ _ _ _ _ us hl => match us, hl with | [_, _, _, _], _ => rfl
  refine cal_of (n := 5) F sc_behind hm hb rfl (by rintro ds r h; cases h <;> rfl) (fun cdv A outer s H E hr => ⟨_, (pss_cons (ps_expr (pe_cal c_check_rule ⟨rfl, rfl, rfl, rfl, rfl⟩ (hr.mono (by decide)) (by rfl) lets_on (pa_cons (pv 0) pa_nil)))
      (pss_cons (ps_expr (pe_cal c_check_state ⟨rfl, rfl, rfl, rfl, rfl⟩ (hr.mono (by decide)) (by rfl) lets_on (pa_cons (pv 1) pa_nil)))
      (pss_cons (ps_expr (pe_cal c_check_peg ⟨rfl, rfl, rfl, rfl, rfl⟩ (hr.mono (by decide)) (by rfl) lets_on (pa_cons (pv 2) pa_nil)))
      (pss_cons (ps_set (i := 4) sc_behind.nd rfl (Or.inl rfl) (pe_cal c_towers ⟨rfl, rfl, rfl, rfl, rfl⟩ (hr.mono (by decide)) (by rfl) lets_on (pa_cons (pv 0) (pa_cons (pe_callB (lenK (K := K) rfl) (by rfl) G.b_len (by decide +kernel) (pa_cons (pv 1) pa_nil)) pa_nil))))
      (pss_cons (ps_if (PW.pt (pw_or (pt_not (pt_val (pe_cal c_is_whole ⟨rfl, rfl, rfl, rfl, rfl⟩ (hr.mono (by decide)) (by rfl) lets_on (pa_cons (pv 3) pa_nil)))) (pw_or1 (pt_not (pt_chain op_le op_le pe_int (pv 3) (pe_cal c_left_of ⟨rfl, rfl, rfl, rfl, rfl⟩ (hr.mono (by decide)) (by rfl) lets_on (pa_cons (pv 0) (pa_cons (pv 1) (pa_cons (pv 2) (pa_cons (pv 4) pa_nil)))))))))) (pss_one (raise_own e_BadNumber (by rfl))) pss_nil)
      (pss_one (ps_ret (pe_cal c_led ⟨rfl, rfl, rfl, rfl, rfl⟩ (hr.mono (by decide)) (by rfl) lets_on (pa_cons (pv 0) (pa_cons (pv 1) (pa_cons (pv 2) (pa_cons (pv 3) (pa_cons (pv 4) pa_nil))))))))))))), ?_⟩)
  rintro ds o h
  cases h with
  | bad1 x y z v hb => exact q_dropX (ex_call (by walk_at "ev") (.bad x hb)) rfl
  | bad2 r y z v hb =>
    apply q_drop
    · exact ef_call (by walk_at "ev") (.mk r)
    exact q_dropX (ex_call (by walk_at "ev") (.bad y hb)) rfl
  | bad3 r s z v hs hb =>
    apply q_drop
    · exact ef_call (by walk_at "ev") (.mk r)
    apply q_drop
    · exact ef_call (by walk_at "ev") (.mk s hs)
    exact q_dropX (ex_call (by walk_at "ev") (.bad z hb)) rfl
  | bad4 r s g v hs ht hb =>
    walk_at "nm"
    apply q_drop
    · exact ef_call (ea_cons (ef_var rfl) ea_nil) (.mk r)
    apply q_drop
    · exact ef_call (ea_cons (ef_var rfl) ea_nil) (.mk s hs)
    apply q_drop
    · exact ef_call (ea_cons (ef_var rfl) ea_nil) (.mk g)
    apply q_asgL (xs := tbL r s.length)
    · exact en_call (ea_cons (ef_var rfl) (ea_cons (x := nD s.length) (EvF.is (ef_lenM (EvF.m (ef_var rfl))) (by rw [List.length_map])) ea_nil)) (.mk r s.length hs)
    walk_at "nm"
    apply q_if (b := true)
    · refine EvT.is (et_or (b := false) (et_not (et_val (ef_call (ea_cons (ef_var rfl) ea_nil) (.mk v ht)))) fun z => ?_) ?_
      · rw [hb] at z
        cases z
      · rw [hb]
        rfl
    · intro _
      exact q_raise rfl
    · intro z; cases z
  | bad5 r s g i hs hb =>
    walk_at "nm"
    apply q_drop
    · exact ef_call (ea_cons (ef_var rfl) ea_nil) (.mk r)
    apply q_drop
    · exact ef_call (ea_cons (ef_var rfl) ea_nil) (.mk s hs)
    apply q_drop
    · exact ef_call (ea_cons (ef_var rfl) ea_nil) (.mk g)
    apply q_asgL (xs := tbL r s.length)
    · exact en_call (ea_cons (ef_var rfl) (ea_cons (x := nD s.length) (EvF.is (ef_lenM (EvF.m (ef_var rfl))) (by rw [List.length_map])) ea_nil)) (.mk r s.length hs)
    walk_at "nm"
    apply q_if (b := true)
    · refine EvT.is (et_or (et_not (et_val (ef_call (ea_cons (ef_var rfl) ea_nil) (.mk _ trivial)))) fun _ => et_not (et_test (ef_chain (z := nD (L r s.reverse g)) ef_int (ef_var rfl) rv_le (fun _ => ef_call (ea_cons (ef_var rfl) (ea_cons (ef_var rfl) (ea_cons (ef_var rfl) (ea_cons (ef_varl rfl) ea_nil)))) (.mk r s g s.length hs (by omega))) (fun _ => rv_le)))) ?_
      rcases hb with hb | hb
      · rw [decide_eq_false (show ¬ (0 : Int) ≤ i by omega)]
        rfl
      · rw [decide_eq_false (show ¬ i ≤ (L r s.reverse g : Int) by omega), Bool.and_false]
        rfl
    · intro _
      exact q_raise rfl
    · intro z; cases z
  | mk r s g k hs hk =>
    walk_at "nm"
    apply q_drop
    · exact ef_call (by walk_at "ev") (.mk r)
    apply q_drop
    · exact ef_call (by walk_at "ev") (.mk s hs)
    apply q_drop
    · exact ef_call (by walk_at "ev") (.mk g)
    apply q_asgL (xs := tbL r s.length)
    · refine en_call (ea_cons (ef_var rfl) (ea_cons (x := nD s.length) (EvF.is (by walk_at "ev") ?_) ea_nil)) (.mk r s.length hs)
      rw [List.length_map]
    walk_at "nm"
    apply q_if (b := false)
    · refine EvT.is (et_or (et_not (et_val (ef_call (ea_cons (ef_var rfl) ea_nil) (.mk _ trivial)))) fun _ => et_not (et_test (ef_chain (z := nD (L r s.reverse g)) ef_int (ef_var rfl) rv_le (fun _ => ef_call (ea_cons (ef_var rfl) (ea_cons (ef_var rfl) (ea_cons (ef_var rfl) (ea_cons (ef_varl rfl) ea_nil)))) (.mk r s g s.length hs (by omega))) (fun _ => rv_le)))) ?_
      rw [decide_eq_true (show (0 : Int) ≤ (k : Int) by omega), decide_eq_true (show (k : Int) ≤ (L r s.reverse g : Int) by omega)]
      rfl
    · intro z; cases z
    intro _
    apply q_next
    apply es_last
    apply q_retN
    · exact en_call (ea_cons (ef_var rfl) (ea_cons (ef_var rfl) (ea_cons (ef_var rfl) (ea_cons (ef_var rfl) (ea_cons (ef_varl rfl) ea_nil))))) (.mk r s g k s.length hs (by omega))
    · rfl


theorem al_int (s t : List Pg) : (if (num false s : Int) - num false t < 0 then -((num false s : Int) - num false t) else (num false s : Int) - num false t) = (al s t : Nat) := by
  unfold al
  split <;> omega
inductive gr_apart (er : Str → Addr) : List Da → Out → Prop
  | mk (b : Bool) (s t : List Pg) (h : s.length ≤ 1000) (hl : s.length = t.length) : gr_apart er [ruD (ruB b), stD s, stD t] (.f (nD (ad b s t)))
  | bad1 (x y z : Da) (h : badRule x) : gr_apart er [x, y, z] (.e (er "BadRule"))
  | round (y z : Da) : gr_apart er [ruD .round, y, z] (.e (er "BadRule"))
  | bad2 (b : Bool) (y z : Da) (h : badState y) : gr_apart er [ruD (ruB b), y, z] (.e (er "BadState"))
  | bad3 (b : Bool) (s : List Pg) (z : Da) (hs : s.length ≤ 1000) (h : badState z) : gr_apart er [ruD (ruB b), stD s, z] (.e (er "BadState"))
  | unlike (b : Bool) (s t : List Pg) (hs : s.length ≤ 1000) (ht : t.length ≤ 1000) (h : s.length ≠ t.length) : gr_apart er [ruD (ruB b), stD s, stD t] (.e (er "Unlike"))
theorem ruB_round (b : Bool) : decide (ruS (ruB b) = ("round" : Str)) = false := by cases b <;> decide
theorem ruB_line (b : Bool) : decide (ruS (ruB b) = ("line" : Str)) = b := by cases b <;> decide

theorem cal_apart {f : Addr} {fd : FuncData} (F : FnP K "apart" s_apart f fd) (hm : mg "apart" = some (.ref f)) (G : Glb mg) (e_BadRule : ErrC K mg "BadRule" (er "BadRule")) (e_Unlike : ErrC K mg "Unlike" (er "Unlike"))
    (c_check_rule : Cal P w K mg base 1 "check_rule" ["rule"] (gr_check_rule er))
    (c_check_state : Cal P w K mg base 3 "check_state" ["state"] (gr_check_state er))
    (c_apart_free : Cal P w K mg base 5 "apart_free" ["one", "other"] (gr_apart_free er))
    (c_number_by_line : Cal P w K mg base 1 "number_by_line" ["state"] (gr_number_by_line er)) :
    Cal P w K mg base 6 "apart" ["rule", "one", "other"] (gr_apart er) := by
  have hb : Binds K fd ["rule", "one", "other"] [] := F.bindsN fun _ _ _ _ _ _ us hl => match us, hl with | [_, _, _], _ => rfl
  refine cal_of (n := 3) F sc_apart hm hb rfl (by rintro ds r h; cases h <;> rfl) (fun cdv A outer s H E hr => ⟨_, (pss_cons (ps_expr (pe_cal c_check_rule ⟨rfl, rfl, rfl, rfl, rfl⟩ (hr.mono (by decide)) (by rfl) lets_on (pa_cons (pv 0) pa_nil)))
      (pss_cons (ps_if (pt_cmpR (opEq (K := K) hr rfl) (pv 0) pe_str (nomark _)) (pss_one (raise_own e_BadRule (by rfl))) pss_nil)
      (pss_cons (ps_expr (pe_cal c_check_state ⟨rfl, rfl, rfl, rfl, rfl⟩ (hr.mono (by decide)) (by rfl) lets_on (pa_cons (pv 1) pa_nil)))
      (pss_cons (ps_expr (pe_cal c_check_state ⟨rfl, rfl, rfl, rfl, rfl⟩ (hr.mono (by decide)) (by rfl) lets_on (pa_cons (pv 2) pa_nil)))
      (pss_cons (ps_if (pt_cmpR (opNe (K := K) hr rfl) (pe_callB (lenK (K := K) rfl) (by rfl) G.b_len (by decide +kernel) (pa_cons (pv 1) pa_nil)) (pe_callB (lenK (K := K) rfl) (by rfl) G.b_len (by decide +kernel) (pa_cons (pv 2) pa_nil)) (nomark _)) (pss_one (raise_own e_Unlike (by rfl))) pss_nil)
      (pss_cons (ps_if (pt_cmpR (opEq (K := K) hr rfl) (pv 0) pe_str (nomark _)) (pss_one (ps_ret (pe_callB call_abs (by rfl) G.b_abs (by decide +kernel) (pa_cons (pe_op op_sub (pe_cal c_number_by_line ⟨rfl, rfl, rfl, rfl, rfl⟩ (hr.mono (by decide)) (by rfl) lets_on (pa_cons (pv 1) pa_nil)) (pe_cal c_number_by_line ⟨rfl, rfl, rfl, rfl, rfl⟩ (hr.mono (by decide)) (by rfl) lets_on (pa_cons (pv 2) pa_nil))) pa_nil)))) pss_nil)
      (pss_one (ps_ret (pe_cal c_apart_free ⟨rfl, rfl, rfl, rfl, rfl⟩ (hr.mono (by decide)) (by rfl) lets_on (pa_cons (pv 1) (pa_cons (pv 2) pa_nil))))))))))), ?_⟩)
  rintro ds o h
  cases h with
  | mk b s t hs hl =>
    walk_at "nm"
    apply q_drop
    · exact ef_call (ea_cons (ef_var rfl) ea_nil) (.mk (ruB b))
    apply q_if (b := false)
    · exact EvT.is (by walk_at "ev") (ruB_round b)
    · intro z; cases z
    intro _
    apply q_next
    walk_at "st"
    apply q_drop
    · exact ef_call (ea_cons (ef_var rfl) ea_nil) (.mk t (by omega))
    apply q_if (b := false)
    · refine EvT.is (by walk_at "ev") ?_
      rw [List.length_map, List.length_map, hl]
      simp
    · intro z; cases z
    intro _
    apply q_next
    apply q_if (b := b)
    · exact EvT.is (by walk_at "ev") (ruB_line b)
    · intro hb
      subst hb
      apply q_ret (x := nD (al s.reverse t.reverse))
      · exact EvF.is (by walk_at "ev") (congrArg Da.int (al_int _ _))
      · rfl
    · intro hb
      subst hb
      apply q_next
      apply es_last
      apply q_ret
      · exact ef_call (ea_cons (ef_var rfl) (ea_cons (ef_var rfl) ea_nil)) (.mk s t hs hl)
      · rfl
  | bad1 x y z hb => exact q_dropX (ex_call (by walk_at "ev") (.bad x hb)) rfl
  | round y z =>
    apply q_drop
    · exact ef_call (ea_cons (ef_var rfl) ea_nil) (.mk .round)
    apply q_if (b := true)
    · exact EvT.is (et_test (ef_binD (EvF.now (ef_var rfl)) (EvF.now ef_str) (rv_eqs (u := "round")))) rfl
    · intro _
      exact q_raise rfl
    · intro z; cases z
  | bad2 b y z hb =>
    apply q_drop
    · exact ef_call (ea_cons (ef_var rfl) ea_nil) (.mk (ruB b))
    apply q_if (b := false)
    · exact EvT.is (by walk_at "ev") (ruB_round b)
    · intro z; cases z
    intro _
    apply q_next
    exact q_dropX (ex_call (by walk_at "ev") (.bad y hb)) rfl
  | bad3 b s z hs hb =>
    apply q_drop
    · exact ef_call (ea_cons (ef_var rfl) ea_nil) (.mk (ruB b))
    apply q_if (b := false)
    · exact EvT.is (by walk_at "ev") (ruB_round b)
    · intro z; cases z
    intro _
    apply q_next
    apply q_drop
    · exact ef_call (ea_cons (ef_var rfl) ea_nil) (.mk s hs)
    exact q_dropX (ex_call (by walk_at "ev") (.bad z hb)) rfl
  | unlike b s t hs ht hne =>
    apply q_drop
    · exact ef_call (ea_cons (ef_var rfl) ea_nil) (.mk (ruB b))
    apply q_if (b := false)
    · exact EvT.is (by walk_at "ev") (ruB_round b)
    · intro z; cases z
    intro _
    apply q_next
    apply q_drop
    · exact ef_call (ea_cons (ef_var rfl) ea_nil) (.mk s hs)
    apply q_drop
    · exact ef_call (ea_cons (ef_var rfl) ea_nil) (.mk t ht)
    apply q_if (b := true)
    · refine EvT.is (by walk_at "ev") ?_
      rw [List.length_map, List.length_map, decide_eq_false (show ¬ (s.length : Int) = t.length by omega)]
      rfl
    · intro _
      exact q_raise rfl
    · intro z; cases z


inductive gr__law_with_rule (er : Str → Addr) : List Da → Out → Prop
  | mk (d x : Da) (n : Nat) (hd : d = nD n) (h : badRule x) : gr__law_with_rule er [d, x] (.e (er "BadRule"))
  | round : gr__law_with_rule er [.int 5, .str "round"] (.e (er "BadRule"))

theorem cal__law_with_rule {f : Addr} {fd : FuncData} (F : FnP K "_law_with_rule" s__law_with_rule f fd) (hm : mg "_law_with_rule" = some (.ref f)) (G : Glb mg)
    (c_next_move : Cal P w K mg base 4 "next_move" ["rule", "state", "peg"] (gr_next_move er))
    (c_behind : Cal P w K mg base 6 "behind" ["rule", "state", "peg", "number"] (gr_behind er))
    (c_apart : Cal P w K mg base 6 "apart" ["rule", "one", "other"] (gr_apart er))
    (c_moves : Cal P w K mg base 4 "moves" ["rule", "state"] (gr_moves er))
    (c_done : Cal P w K mg base 4 "done" ["rule", "state", "some"] (gr_done er))
    (c_left : Cal P w K mg base 5 "left" ["rule", "state", "peg"] (gr_left er)) :
    Cal P w K mg base 7 "_law_with_rule" ["_law_door", "_law_rule_here"] (gr__law_with_rule er) := by
  have hb : Binds K fd ["_law_door", "_law_rule_here"] [] := F.bindsN fun _ _ _ _ _ _ us hl => match us, hl with | [_, _], _ => rfl
  refine cal_of (n := 2) F sc__law_with_rule hm hb rfl (by rintro ds r h; cases h <;> rfl) (fun cdv A outer s H E hr => ⟨_, (pss_cons (ps_if (pt_cmpR op_lt (pv 0) pe_int (nomark _)) (pss_one (ps_ret (pe_ifExp (pt_cmpR (opEq (K := K) hr rfl) (pv 0) pe_int (nomark _)) (pe_cal c_moves ⟨rfl, rfl, rfl, rfl, rfl⟩ (hr.mono (by decide)) (by rfl) lets_on (pa_cons (pv 1) (pa_cons pe_non pa_nil))) (pe_ifExp (pt_cmpR (opEq (K := K) hr rfl) (pv 0) pe_int (nomark _)) (pe_cal c_done ⟨rfl, rfl, rfl, rfl, rfl⟩ (hr.mono (by decide)) (by rfl) lets_on (pa_cons (pv 1) (pa_cons pe_non (pa_cons pe_non pa_nil)))) (pe_cal c_left ⟨rfl, rfl, rfl, rfl, rfl⟩ (hr.mono (by decide)) (by rfl) lets_on (pa_cons (pv 1) (pa_cons pe_non (pa_cons pe_non pa_nil)))))))) pss_nil)
      (pss_cons (ps_if (pt_cmpR (opEq (K := K) hr rfl) (pv 0) pe_int (nomark _)) (pss_one (ps_ret (pe_cal c_next_move ⟨rfl, rfl, rfl, rfl, rfl⟩ (hr.mono (by decide)) (by rfl) lets_on (pa_cons (pv 1) (pa_cons pe_non (pa_cons pe_non pa_nil)))))) pss_nil)
      (pss_one (ps_ret (pe_ifExp (pt_cmpR (opEq (K := K) hr rfl) (pv 0) pe_int (nomark _)) (pe_cal c_behind ⟨rfl, rfl, rfl, rfl, rfl⟩ (hr.mono (by decide)) (by rfl) lets_on (pa_cons (pv 1) (pa_cons pe_non (pa_cons pe_non (pa_cons pe_non pa_nil))))) (pe_cal c_apart ⟨rfl, rfl, rfl, rfl, rfl⟩ (hr.mono (by decide)) (by rfl) lets_on (pa_cons (pv 1) (pa_cons pe_non (pa_cons pe_non pa_nil))))))))), ?_⟩)
  rintro ds o h
  cases h with
  | mk d x n hd hb =>
    subst hd
    walk_at "nm"
    apply q_if (et_test (ef_binD (EvF.now (ef_var rfl)) (EvF.now ef_int) rv_lt))
    · intro _
      apply es_last
      apply q_retX (C := er "BadRule")
      · exact ex_if (et_test (ef_binD (EvF.now (ef_var rfl)) (EvF.now ef_int) rv_eqi)) (fun _ => ex_call (ea_cons (ef_var rfl) (ea_cons ef_non ea_nil)) (.bad1 _ _ hb)) (fun _ => ex_if (et_test (ef_binD (EvF.now (ef_var rfl)) (EvF.now ef_int) rv_eqi)) (fun _ => ex_call (ea_cons (ef_var rfl) (ea_cons ef_non (ea_cons ef_non ea_nil))) (.bad1 _ _ _ hb)) (fun _ => ex_call (ea_cons (ef_var rfl) (ea_cons ef_non (ea_cons ef_non ea_nil))) (.bad1 _ _ _ hb)))
      · rfl
    intro _
    apply q_next
    apply q_if (et_test (ef_binD (EvF.now (ef_var rfl)) (EvF.now ef_int) rv_eqi))
    · intro _
      apply es_last
      apply q_retX (C := er "BadRule")
      · exact ex_call (ea_cons (ef_var rfl) (ea_cons ef_non (ea_cons ef_non ea_nil))) (.bad1 _ _ _ hb)
      · rfl
    intro _
    apply q_next
    apply es_last
    apply q_retX (C := er "BadRule")
    · exact ex_if (et_test (ef_binD (EvF.now (ef_var rfl)) (EvF.now ef_int) rv_eqi)) (fun _ => ex_call (ea_cons (ef_var rfl) (ea_cons ef_non (ea_cons ef_non (ea_cons ef_non ea_nil)))) (.bad1 _ _ _ _ hb)) (fun _ => ex_call (ea_cons (ef_var rfl) (ea_cons ef_non (ea_cons ef_non ea_nil))) (.bad1 _ _ _ hb))
    · rfl
  | round =>
    walk_at "nm"
    apply q_if (et_test (ef_binD (EvF.now (ef_var rfl)) (EvF.now ef_int) rv_lt))
    · intro z
      exact absurd z (by decide)
    intro _
    apply q_next
    apply q_if (et_test (ef_binD (EvF.now (ef_var rfl)) (EvF.now ef_int) rv_eqi))
    · intro z
      exact absurd z (by decide)
    intro _
    apply q_next
    apply es_last
    apply q_retX (C := er "BadRule")
    · exact ex_if (et_test (ef_binD (EvF.now (ef_var rfl)) (EvF.now ef_int) rv_eqi)) (fun z => absurd z (by decide)) (fun _ => ex_call (ea_cons (ef_var rfl) (ea_cons ef_non (ea_cons ef_non ea_nil))) (.round _ _))
    · rfl


inductive gr__law_with_state (er : Str → Addr) : List Da → Out → Prop
  | mk (d x : Da) (n : Nat) (hd : d = nD n) (h : badState x) : gr__law_with_state er [d, x] (.e (er "BadState"))

theorem cal__law_with_state {f : Addr} {fd : FuncData} (F : FnP K "_law_with_state" s__law_with_state f fd) (hm : mg "_law_with_state" = some (.ref f)) (G : Glb mg)
    (c_behind : Cal P w K mg base 6 "behind" ["rule", "state", "peg", "number"] (gr_behind er))
    (c_apart : Cal P w K mg base 6 "apart" ["rule", "one", "other"] (gr_apart er))
    (c_moves : Cal P w K mg base 4 "moves" ["rule", "state"] (gr_moves er))
    (c_left : Cal P w K mg base 5 "left" ["rule", "state", "peg"] (gr_left er))
    (c_done : Cal P w K mg base 4 "done" ["rule", "state", "some"] (gr_done er))
    (c_number_of : Cal P w K mg base 4 "number_of" ["state"] (gr_number_of er))
    (c_next_move : Cal P w K mg base 4 "next_move" ["rule", "state", "peg"] (gr_next_move er))
    (c_written : Cal P w K mg base 4 "written" ["state"] (gr_written er)) :
    Cal P w K mg base 7 "_law_with_state" ["_law_door", "_law_state_here"] (gr__law_with_state er) := by
  have hb : Binds K fd ["_law_door", "_law_state_here"] [] := F.bindsN fun _ _ _ _ _ _ us hl => match us, hl with | [_, _], _ => rfl
  refine cal_of (n := 2) F sc__law_with_state hm hb rfl (by rintro ds r h; cases h <;> rfl) (fun cdv A outer s H E hr => ⟨_, (pss_cons (ps_if (pt_cmpR op_lt (pv 0) pe_int (nomark _)) (pss_one (ps_ret (pe_ifExp (pt_cmpR (opEq (K := K) hr rfl) (pv 0) pe_int (nomark _)) (pe_cal c_moves ⟨rfl, rfl, rfl, rfl, rfl⟩ (hr.mono (by decide)) (by rfl) lets_on (pa_cons pe_str (pa_cons (pv 1) pa_nil))) (pe_ifExp (pt_cmpR (opEq (K := K) hr rfl) (pv 0) pe_int (nomark _)) (pe_cal c_done ⟨rfl, rfl, rfl, rfl, rfl⟩ (hr.mono (by decide)) (by rfl) lets_on (pa_cons pe_str (pa_cons (pv 1) (pa_cons pe_non pa_nil)))) (pe_cal c_number_of ⟨rfl, rfl, rfl, rfl, rfl⟩ (hr.mono (by decide)) (by rfl) lets_on (pa_cons (pv 1) pa_nil)))))) pss_nil)
      (pss_cons (ps_if (pt_cmpR op_lt (pv 0) pe_int (nomark _)) (pss_one (ps_ret (pe_ifExp (pt_cmpR (opEq (K := K) hr rfl) (pv 0) pe_int (nomark _)) (pe_cal c_left ⟨rfl, rfl, rfl, rfl, rfl⟩ (hr.mono (by decide)) (by rfl) lets_on (pa_cons pe_str (pa_cons (pv 1) (pa_cons pe_int pa_nil)))) (pe_ifExp (pt_cmpR (opEq (K := K) hr rfl) (pv 0) pe_int (nomark _)) (pe_cal c_next_move ⟨rfl, rfl, rfl, rfl, rfl⟩ (hr.mono (by decide)) (by rfl) lets_on (pa_cons pe_str (pa_cons (pv 1) (pa_cons pe_int pa_nil)))) (pe_cal c_written ⟨rfl, rfl, rfl, rfl, rfl⟩ (hr.mono (by decide)) (by rfl) lets_on (pa_cons (pv 1) pa_nil)))))) pss_nil)
      (pss_cons (ps_if (pt_cmpR (opEq (K := K) hr rfl) (pv 0) pe_int (nomark _)) (pss_one (ps_ret (pe_cal c_behind ⟨rfl, rfl, rfl, rfl, rfl⟩ (hr.mono (by decide)) (by rfl) lets_on (pa_cons pe_str (pa_cons (pv 1) (pa_cons pe_int (pa_cons (pe_un un_neg pe_int) pa_nil))))))) pss_nil)
      (pss_one (ps_ret (pe_ifExp (pt_cmpR (opEq (K := K) hr rfl) (pv 0) pe_int (nomark _)) (pe_cal c_apart ⟨rfl, rfl, rfl, rfl, rfl⟩ (hr.mono (by decide)) (by rfl) lets_on (pa_cons pe_str (pa_cons (pv 1) (pa_cons (pe_lst (pa_cons pe_int pa_nil)) pa_nil)))) (pe_cal c_apart ⟨rfl, rfl, rfl, rfl, rfl⟩ (hr.mono (by decide)) (by rfl) lets_on (pa_cons pe_str (pa_cons (pe_lst (pa_cons pe_int pa_nil)) (pa_cons (pv 1) pa_nil)))))))))), ?_⟩)
  rintro ds o h
  obtain ⟨d, x, n, hd, hb⟩ := h
  subst hd
  have h0 : ∀ ρ : Rho, EvF K (tLst (tCons (tC (.int 0)) tNil)) ρ (stD [0]) := fun ρ => EvF.is (EvN.f (en_lst (ea_cons ef_int ea_nil) (Nat.le_of_ble_eq_true rfl))) rfl
  walk_at "nm"
  apply q_if (et_test (ef_binD (EvF.now (ef_var rfl)) (EvF.now ef_int) rv_lt))
  · intro _
    apply es_last
    apply q_retX (C := er "BadState")
    · exact ex_if (et_test (ef_binD (EvF.now (ef_var rfl)) (EvF.now ef_int) rv_eqi)) (fun _ => ex_call (ea_cons ef_str (ea_cons (ef_var rfl) ea_nil)) (.bad2 .free _ hb)) (fun _ => ex_if (et_test (ef_binD (EvF.now (ef_var rfl)) (EvF.now ef_int) rv_eqi)) (fun _ => ex_call (ea_cons ef_str (ea_cons (ef_var rfl) (ea_cons ef_non ea_nil))) (.bad2 .free _ _ hb)) (fun _ => ex_call (ea_cons (ef_var rfl) ea_nil) (.bad _ hb)))
    · rfl
  intro _
  apply q_next
  apply q_if (et_test (ef_binD (EvF.now (ef_var rfl)) (EvF.now ef_int) rv_lt))
  · intro _
    apply es_last
    apply q_retX (C := er "BadState")
    · exact ex_if (et_test (ef_binD (EvF.now (ef_var rfl)) (EvF.now ef_int) rv_eqi)) (fun _ => ex_call (ea_cons ef_str (ea_cons (ef_var rfl) (ea_cons ef_int ea_nil))) (.bad2 .line _ _ hb)) (fun _ => ex_if (et_test (ef_binD (EvF.now (ef_var rfl)) (EvF.now ef_int) rv_eqi)) (fun _ => ex_call (ea_cons ef_str (ea_cons (ef_var rfl) (ea_cons ef_int ea_nil))) (.bad2 .free _ _ hb)) (fun _ => ex_call (ea_cons (ef_var rfl) ea_nil) (.bad _ hb)))
    · rfl
  intro _
  apply q_next
  apply q_if (et_test (ef_binD (EvF.now (ef_var rfl)) (EvF.now ef_int) rv_eqi))
  · intro _
    apply es_last
    apply q_retX (C := er "BadState")
    · exact ex_call (ea_cons ef_str (ea_cons (ef_var rfl) (ea_cons ef_int (ea_cons (ef_neg ef_int) ea_nil)))) (.bad2 .round _ _ _ hb)
    · rfl
  intro _
  apply q_next
  apply es_last
  apply q_retX (C := er "BadState")
  · exact ex_if (et_test (ef_binD (EvF.now (ef_var rfl)) (EvF.now ef_int) rv_eqi)) (fun _ => ex_call (ea_cons ef_str (ea_cons (ef_var rfl) (ea_cons (h0 _) ea_nil))) (.bad2 false _ _ hb)) (fun _ => ex_call (ea_cons ef_str (ea_cons (h0 _) (ea_cons (ef_var rfl) ea_nil))) (.bad3 true [0] _ (by decide) hb))
  · rfl


inductive gr__law_with_peg (er : Str → Addr) : List Da → Out → Prop
  | mk (d x : Da) (n : Nat) (hd : d = nD n) (h : badPeg x) : gr__law_with_peg er [d, x] (.e (er "BadPeg"))

theorem cal__law_with_peg {f : Addr} {fd : FuncData} (F : FnP K "_law_with_peg" s__law_with_peg f fd) (hm : mg "_law_with_peg" = some (.ref f)) (G : Glb mg)
    (c_behind : Cal P w K mg base 6 "behind" ["rule", "state", "peg", "number"] (gr_behind er))
    (c_left : Cal P w K mg base 5 "left" ["rule", "state", "peg"] (gr_left er))
    (c_next_move : Cal P w K mg base 4 "next_move" ["rule", "state", "peg"] (gr_next_move er)) :
    Cal P w K mg base 7 "_law_with_peg" ["_law_door", "_law_peg"] (gr__law_with_peg er) := by
  have hb : Binds K fd ["_law_door", "_law_peg"] [] := F.bindsN fun _ _ _ _ _ _ us hl => match us, hl with | [_, _], _ => rfl
  refine cal_of (n := 2) F sc__law_with_peg hm hb rfl (by rintro ds r h; cases h <;> rfl) (fun cdv A outer s H E hr => ⟨_, (pss_cons (ps_if (pt_cmpR op_lt (pv 0) pe_int (nomark _)) (pss_one (ps_ret (pe_ifExp (pt_cmpR (opEq (K := K) hr rfl) (pv 0) pe_int (nomark _)) (pe_cal c_left ⟨rfl, rfl, rfl, rfl, rfl⟩ (hr.mono (by decide)) (by rfl) lets_on (pa_cons pe_str (pa_cons (pe_lst (pa_cons pe_int (pa_cons pe_int pa_nil))) (pa_cons (pv 1) pa_nil)))) (pe_cal c_next_move ⟨rfl, rfl, rfl, rfl, rfl⟩ (hr.mono (by decide)) (by rfl) lets_on (pa_cons pe_str (pa_cons (pe_lst (pa_cons pe_int (pa_cons pe_int pa_nil))) (pa_cons (pv 1) pa_nil))))))) pss_nil)
      (pss_one (ps_ret (pe_cal c_behind ⟨rfl, rfl, rfl, rfl, rfl⟩ (hr.mono (by decide)) (by rfl) lets_on (pa_cons pe_str (pa_cons (pe_lst (pa_cons pe_int (pa_cons pe_int pa_nil))) (pa_cons (pv 1) (pa_cons (pe_un un_neg pe_int) pa_nil)))))))), ?_⟩)
  rintro ds o h
  obtain ⟨d, x, n, hd, hb⟩ := h
  subst hd
  have h0 : ∀ ρ : Rho, EvF K (tLst (tCons (tC (.int 0)) (tCons (tC (.int 1)) tNil))) ρ (stD [0, 1]) := fun ρ => EvF.is (EvN.f (en_lst (ea_cons ef_int (ea_cons ef_int ea_nil)) (Nat.le_of_ble_eq_true rfl))) rfl
  walk_at "nm"
  apply q_if (et_test (ef_binD (EvF.now (ef_var rfl)) (EvF.now ef_int) rv_lt))
  · intro _
    apply es_last
    apply q_retX (C := er "BadPeg")
    · exact ex_if (et_test (ef_binD (EvF.now (ef_var rfl)) (EvF.now ef_int) rv_eqi)) (fun _ => ex_call (ea_cons ef_str (ea_cons (h0 _) (ea_cons (ef_var rfl) ea_nil))) (.bad3 .free [0, 1] _ (by decide) hb)) (fun _ => ex_call (ea_cons ef_str (ea_cons (h0 _) (ea_cons (ef_var rfl) ea_nil))) (.bad3 .line [0, 1] _ (by decide) hb))
    · rfl
  intro _
  apply q_next
  apply es_last
  apply q_retX (C := er "BadPeg")
  · exact ex_call (ea_cons ef_str (ea_cons (h0 _) (ea_cons (ef_var rfl) (ea_cons (ef_neg ef_int) ea_nil)))) (.bad3 .round [0, 1] _ _ (by decide) hb)
  · rfl


inductive gr__law_with_moves (er : Str → Addr) : List Da → Out → Prop
  | lst (d : Da) (ms : List Da) (ty : ∀ x ∈ ms, tyMv x) (hw : walkD .free [0, 0] ms = none) : gr__law_with_moves er [d, .lst ms] (.e (er "BadMove"))
  | non (d z : Da) (ht : hasTy z) (h : isLstD z = false) : gr__law_with_moves er [d, z] (.e (er "BadMove"))

theorem cal__law_with_moves {f : Addr} {fd : FuncData} (F : FnP K "_law_with_moves" s__law_with_moves f fd) (hm : mg "_law_with_moves" = some (.ref f)) (G : Glb mg)
    (c_done : Cal P w K mg base 4 "done" ["rule", "state", "some"] (gr_done er)) :
    Cal P w K mg base 7 "_law_with_moves" ["_law_door", "_law_some"] (gr__law_with_moves er) := by
  have hb : Binds K fd ["_law_door", "_law_some"] [] := F.bindsN fun _ _ _ _ _ _ us hl => match us, hl with | [_, _], _ => rfl
  refine cal_of (n := 2) F sc__law_with_moves hm hb rfl (by rintro ds r h; cases h <;> rfl) (fun cdv A outer s H E hr => ⟨_, (pss_one (ps_ret (pe_cal c_done ⟨rfl, rfl, rfl, rfl, rfl⟩ (hr.mono (by decide)) (by rfl) lets_on (pa_cons pe_str (pa_cons (pe_lst (pa_cons pe_int (pa_cons pe_int pa_nil))) (pa_cons (pv 1) pa_nil)))))), ?_⟩)
  rintro ds o h
  have h0 : ∀ ρ : Rho, EvF K (tLst (tCons (tC (.int 0)) (tCons (tC (.int 0)) tNil))) ρ (stD [0, 0]) := fun ρ => EvF.is (EvN.f (en_lst (ea_cons ef_int (ea_cons ef_int ea_nil)) (Nat.le_of_ble_eq_true rfl))) rfl
  cases h with
  | lst d ms ty hw =>
    walk_at "nm"
    apply es_last
    apply q_retX (C := er "BadMove")
    · exact ex_call (ea_cons ef_str (ea_cons (h0 _) (ea_cons (ef_var rfl) ea_nil))) (.bad .free [0, 0] ms (by decide) ty hw)
    · rfl
  | non d z ht hb =>
    walk_at "nm"
    apply es_last
    apply q_retX (C := er "BadMove")
    · exact ex_call (ea_cons ef_str (ea_cons (h0 _) (ea_cons (ef_var rfl) ea_nil))) (.bad3 .free [0, 0] z (by decide) ht hb)
    · rfl


inductive gr__law_with_number (er : Str → Addr) : List Da → Out → Prop
  | ty (s : List Pg) (v : Da) (hs : s.length ≤ 1000) (ht : hasTy v) (h : isW v = false) : gr__law_with_number er [stD s, v] (.e (er "BadNumber"))
  | far (s : List Pg) (i : Int) (hs : s.length ≤ 1000) (h : i < 0 ∨ (L .free s.reverse 0 : Int) < i) : gr__law_with_number er [stD s, .int i] (.e (er "BadNumber"))

theorem cal__law_with_number {f : Addr} {fd : FuncData} (F : FnP K "_law_with_number" s__law_with_number f fd) (hm : mg "_law_with_number" = some (.ref f)) (G : Glb mg)
    (c_behind : Cal P w K mg base 6 "behind" ["rule", "state", "peg", "number"] (gr_behind er)) :
    Cal P w K mg base 7 "_law_with_number" ["_law_state_here", "_law_number"] (gr__law_with_number er) := by
  have hb : Binds K fd ["_law_state_here", "_law_number"] [] := F.bindsN fun _ _ _ _ _ _ us hl => match us, hl with | [_, _], _ => rfl
  refine cal_of (n := 2) F sc__law_with_number hm hb rfl (by rintro ds r h; cases h <;> rfl) (fun cdv A outer s H E hr => ⟨_, (pss_one (ps_ret (pe_cal c_behind ⟨rfl, rfl, rfl, rfl, rfl⟩ (hr.mono (by decide)) (by rfl) lets_on (pa_cons pe_str (pa_cons (pv 0) (pa_cons pe_int (pa_cons (pv 1) pa_nil))))))), ?_⟩)
  rintro ds o h
  cases h with
  | ty s v hs ht hb =>
    walk_at "nm"
    apply es_last
    apply q_retX (C := er "BadNumber")
    · exact ex_call (ea_cons ef_str (ea_cons (ef_var rfl) (ea_cons ef_int (ea_cons (ef_var rfl) ea_nil)))) (.bad4 .free s 0 v hs ht hb)
    · rfl
  | far s i hs hb =>
    walk_at "nm"
    apply es_last
    apply q_retX (C := er "BadNumber")
    · exact ex_call (ea_cons ef_str (ea_cons (ef_var rfl) (ea_cons ef_int (ea_cons (ef_var rfl) ea_nil)))) (.bad5 .free s 0 i hs hb)
    · rfl


inductive gr__law_discs (er : Str → Addr) : List Da → Out → Prop
  | mk (x y : Da) (h : gr_state_of er [x, y] (.e (er "BadNumber"))) : gr__law_discs er [x, y] (.e (er "BadNumber"))

theorem cal__law_discs {f : Addr} {fd : FuncData} (F : FnP K "_law_discs" s__law_discs f fd) (hm : mg "_law_discs" = some (.ref f)) (G : Glb mg)
    (c_state_of : Cal P w K mg base 2 "state_of" ["discs", "number"] (gr_state_of er)) :
    Cal P w K mg base 7 "_law_discs" ["_law_discs_here", "_law_number"] (gr__law_discs er) := by
  have hb : Binds K fd ["_law_discs_here", "_law_number"] [] := F.bindsN fun _ _ _ _ _ _ us hl => match us, hl with | [_, _], _ => rfl
  refine cal_of (n := 2) F sc__law_discs hm hb rfl (by rintro ds r h; cases h <;> rfl) (fun cdv A outer s H E hr => ⟨_, (pss_one (ps_ret (pe_cal c_state_of ⟨rfl, rfl, rfl, rfl, rfl⟩ (hr.mono (by decide)) (by rfl) lets_on (pa_cons (pv 0) (pa_cons (pv 1) pa_nil))))), ?_⟩)
  rintro ds o ⟨x, y, h⟩
  walk_at "nm"
  apply es_last
  apply q_retX (C := er "BadNumber")
  · exact ex_call (ea_cons (ef_var rfl) (ea_cons (ef_var rfl) ea_nil)) h
  · rfl


inductive gr__law_two (er : Str → Addr) : List Da → Out → Prop
  | mk (s t : List Pg) (hs : s.length ≤ 1000) (ht : t.length ≤ 1000) (h : s.length ≠ t.length) : gr__law_two er [stD s, stD t] (.e (er "Unlike"))

theorem cal__law_two {f : Addr} {fd : FuncData} (F : FnP K "_law_two" s__law_two f fd) (hm : mg "_law_two" = some (.ref f)) (G : Glb mg)
    (c_apart : Cal P w K mg base 6 "apart" ["rule", "one", "other"] (gr_apart er)) :
    Cal P w K mg base 7 "_law_two" ["_law_one", "_law_other"] (gr__law_two er) := by
  have hb : Binds K fd ["_law_one", "_law_other"] [] := F.bindsN fun _ _ _ _ _ _ us hl => match us, hl with | [_, _], _ => rfl
  refine cal_of (n := 2) F sc__law_two hm hb rfl (by rintro ds r h; cases h <;> rfl) (fun cdv A outer s H E hr => ⟨_, (pss_one (ps_ret (pe_cal c_apart ⟨rfl, rfl, rfl, rfl, rfl⟩ (hr.mono (by decide)) (by rfl) lets_on (pa_cons pe_str (pa_cons (pv 0) (pa_cons (pv 1) pa_nil)))))), ?_⟩)
  rintro ds o ⟨s, t, hs, ht, h⟩
  walk_at "nm"
  apply es_last
  apply q_retX (C := er "Unlike")
  · exact ex_call (ea_cons ef_str (ea_cons (ef_var rfl) (ea_cons (ef_var rfl) ea_nil))) (.unlike true s t hs ht h)
  · rfl


/-- the defs that are asked by a name of their own -/
def TabX (er : Str → Addr) (f : Addr) (Gr : List Da → Out → Prop) : Prop :=
  (f = er "_law_with_rule" ∧ Gr = gr__law_with_rule er) ∨ (f = er "_law_with_state" ∧ Gr = gr__law_with_state er) ∨ (f = er "_law_with_peg" ∧ Gr = gr__law_with_peg er) ∨ (f = er "_law_with_moves" ∧ Gr = gr__law_with_moves er) ∨
  (f = er "_law_with_number" ∧ Gr = gr__law_with_number er) ∨ (f = er "_law_discs" ∧ Gr = gr__law_discs er) ∨ (f = er "_law_two" ∧ Gr = gr__law_two er)
theorem held_one {k : Nat} {x : Str} {ps : List Str} {Gr : List Da → Out → Prop} {f : Addr} (C : Cal P w K mg base k x ps Gr) (m : mg x = some (.ref f)) : HeldD P w K mg base k f Gr := by
  obtain ⟨f', fd, F, hm, hk, hb⟩ := C.ex
  have e : f' = f := by
    rw [hm] at m
    injection m with m
    injection m
  subst e
  exact ⟨fd, ps, F, hk, hb⟩
inductive gr__law_told (er : Str → Addr) : List Da → Out → Prop
  | mk (f : Addr) (Gr : List Da → Out → Prop) (hT : TabX er f Gr) (x y : Da) (D : Str) (hD : D ∈ dsX) (h : Gr [x, y] (.e (er D))) : gr__law_told er [.adr f, x, y] (.n (kindsL D))

theorem cal__law_told {f : Addr} {fd : FuncData} (F : FnP K "_law_told" s__law_told f fd) (hm : mg "_law_told" = some (.ref f)) (G : Glb mg) (e_TowerError : ErrC K mg "TowerError" (er "TowerError")) (hX : ExH K er dsX csX)
    (c__law_kinds : CalP P w K mg base 1 "_law_kinds" ["_law_error"] (spP K er dsX kindsL))
    (held : ∀ f Gr, TabX er f Gr → HeldD P w K mg base 7 f Gr) :
    Cal P w K mg base 8 "_law_told" ["_law_ask", "_law_one", "_law_other"] (gr__law_told er) := by
  have hb : Binds K fd ["_law_ask", "_law_one", "_law_other"] [] := F.bindsN fun _ _ _ _ _ _ us hl => match us, hl with | [_, _, _], _ => rfl
  refine cal_of (n := 4) F sc__law_told hm hb rfl (by rintro ds r h; cases h <;> rfl) (fun cdv A outer s H E hr => ⟨_, (pss_cons (L2N.ps_try_as (i := 3) rfl rfl sc__law_told.nd rfl rfl ⟨by rfl, by decide, .inl e_TowerError.g⟩ (L2N.takes_of rfl rfl rfl rfl)
      (fun _ _ _ tk1 _ => (pss_one (ps_expr (pe_callF (i := 0) held ⟨rfl, rfl, rfl, rfl, rfl⟩ (hr.mono (by decide)) rfl (Or.inl rfl) tk1 (pa_cons (pv 1) (pa_cons (pv 2) pa_nil))))))
      (fun _ _ _ _ _ hz1 hf1 => (pss_one (ps_ret (pe_calX c__law_kinds ⟨rfl, rfl, rfl, rfl, rfl⟩ (hr.mono (by decide)) hz1 hf1 (by rfl) (pa_cons (pv 3) pa_nil))))))
      (pss_one (ps_ret (pe_lst pa_nil)))), ?_⟩)
  rintro ds o ⟨f, Gr, hT, x, y, D, hD, h⟩
  walk_at "nm"
  apply q_tryF hX hD (f := f) (Gr := Gr) rfl hT (ea_cons (ef_var rfl) (ea_cons (ef_var rfl) ea_nil)) h
  intro a
  walk_at "nm"
  apply es_last
  apply q_retN (xs := kindsL D)
  · exact en_callX hD (ea_cons (ef_var rfl) ea_nil)
  · rfl


inductive gr__law_all (er : Str → Addr) : List Da → Out → Prop
  | mk (f : Addr) (Gr : List Da → Out → Prop) (hT : TabX er f Gr) (doors things : List Da) (D : Str) (hD : D ∈ dsX) (hl : things.length ≤ 1000) (h : ∀ x ∈ doors, ∀ y ∈ things, Gr [x, y] (.e (er D))) : gr__law_all er [.adr f, .lst doors, .lst things, .lst (kindsL D)] (.f (.bl true))

theorem cal__law_all {f : Addr} {fd : FuncData} (F : FnP K "_law_all" s__law_all f fd) (hm : mg "_law_all" = some (.ref f)) (G : Glb mg)
    (c__law_told : Cal P w K mg base 8 "_law_told" ["_law_ask", "_law_one", "_law_other"] (gr__law_told er)) :
    Cal P w K mg base 9 "_law_all" ["_law_ask", "_law_doors", "_law_things", "_law_due"] (gr__law_all er) := by
  have hb : Binds K fd ["_law_ask", "_law_doors", "_law_things", "_law_due"] [] := F.bindsN fun _ _ _ _ _ _ us hl => match us, hl with | [_, _, _, _], _ => rfl
  refine cal_of (n := 6) F sc__law_all hm hb rfl (by rintro ds r h; cases h <;> rfl) (fun cdv A outer s H E hr => ⟨_, (pss_cons (ps_for loops_on rfl (listPI (K := K) rfl (pi_list (pv 1))) (pg_name (i := 4) sc__law_all.nd rfl (Or.inr rfl)) (pss_one (ps_if (pt_not (pt_val (pe_callB (allK (K := K) rfl rfl) (by rfl) G.b_all (by decide +kernel) (pa_cons (pe_lc (own := [("_law_thing", 5)]) rfl sc__law_all.nd (listPI (K := K) rfl (pi_list (pv 2))) (blkOk_by (N := n__law_all) (sc := defScope s__law_all) (by decide +kernel)) (fun _ _ _ _ _ => (pg_name (i := 5) sc__law_all.nd rfl (Or.inl rfl))) (fun _ _ _ _ _ => pts_nil) (fun _ _ _ _ _ => (pe_cmpR (opEq (K := K) hr rfl) (pe_cal c__law_told ⟨rfl, rfl, rfl, rfl, rfl⟩ (hr.mono (by decide)) (by rfl) passN (pa_cons (pv 0) (pa_cons (pv 4) (pa_cons (pv 5) pa_nil)))) (pv 3) (nomark _)))) pa_nil)))) (pss_one (ps_ret pe_bl)) pss_nil)))
      (pss_one (ps_ret pe_bl))), ?_⟩)
  rintro ds o ⟨f, Gr, hT, doors, things, D, hD, hl, h⟩
  walk_at "nm"
  apply q_mid (fun ρ => ∃ a b, ρ = [.d (.adr f), .d (.lst doors), .d (.lst things), .d (.lst (kindsL D)), a, b])
  · refine es_forL (fun x : Da => x) doors (by rw [List.map_id']; exact ef_var rfl) (fun l ρ => (∀ x ∈ l, x ∈ doors) ∧ ∃ a b, ρ = [.d (.adr f), .d (.lst doors), .d (.lst things), .d (.lst (kindsL D)), a, b]) ⟨fun x h => h, _, _, rfl⟩ ?_ (fun ρ h => h.2)
    rintro x l ρ ⟨hin, a, b, rfl⟩
    walk_at "nm"
    apply es_last
    apply q_if (b := false)
    · refine EvT.is (et_not (et_val (ef_all (bs := things.map fun _ => true) (EvP.m (EvN.p ?_))))) ?_
      · have h1 := en_lcL (K := K) (ρ := [.d (.adr f), .d (.lst doors), .d (.lst things), .d (.lst (kindsL D)), .d x, b]) (ts := tVar 2) (tt := tYes) (te := tOp (rEq2 K) (tCall (spD K (gr__law_told er)) [] E0 (tCons (tVar 0) (tCons (tVar 4) (tCons (tVar 5) tNil)))) (tVar 3)) (j := 5) (vs := [5]) (fun x : Da => x) things (fun _ => true) (fun _ => .bl true) (by rw [List.map_id']; exact ef_var rfl) (by omega) (by simp) (fun _ _ => et_yes)
          (fun y hy _ => ef_binD (EvF.now (EvN.f (en_call (ea_cons (ef_var rfl) (ea_cons (ef_var rfl) (ea_cons (ef_var rfl) ea_nil))) (.mk f Gr hT x y D hD (h x (hin x List.mem_cons_self) y hy))))) (EvF.now (ef_var rfl)) rv_eqK)
        rw [filter_yes] at h1
        rw [List.map_map]
        exact h1
      · simp
    · intro z; cases z
    intro _
    apply q_next
    exact q_end ⟨fun y hy => hin y (List.mem_cons_of_mem _ hy), _, _, rfl⟩
  · rintro ρ ⟨a, b, rfl⟩
    apply es_last
    apply q_ret
    · exact ef_bl
    · rfl


theorem tab_rule : TabX er (er "_law_with_rule") (gr__law_with_rule er) := .inl ⟨rfl, rfl⟩
theorem tab_state : TabX er (er "_law_with_state") (gr__law_with_state er) := .inr (.inl ⟨rfl, rfl⟩)
theorem tab_peg : TabX er (er "_law_with_peg") (gr__law_with_peg er) := .inr (.inr (.inl ⟨rfl, rfl⟩))
theorem tab_moves : TabX er (er "_law_with_moves") (gr__law_with_moves er) := .inr (.inr (.inr (.inl ⟨rfl, rfl⟩)))
theorem tab_number : TabX er (er "_law_with_number") (gr__law_with_number er) := .inr (.inr (.inr (.inr (.inl ⟨rfl, rfl⟩))))
theorem tab_discs : TabX er (er "_law_discs") (gr__law_discs er) := .inr (.inr (.inr (.inr (.inr (.inl ⟨rfl, rfl⟩)))))
theorem tab_two : TabX er (er "_law_two") (gr__law_two er) := .inr (.inr (.inr (.inr (.inr (.inr ⟨rfl, rfl⟩)))))
inductive gr__law_numbers_right (er : Str → Addr) : List Da → Out → Prop
  | mk (s : List Pg) (far : Nat) (hs : s.length ≤ 300) : gr__law_numbers_right er [stD s, .lst dueL, nD far] (.f (.bl true))

theorem cal__law_numbers_right {f : Addr} {fd : FuncData} (F : FnP K "_law_numbers_right" s__law_numbers_right f fd) (hm : mg "_law_numbers_right" = some (.ref f)) (G : Glb mg)
    (c_left : Cal P w K mg base 5 "left" ["rule", "state", "peg"] (gr_left er))
    (c__law_all : Cal P w K mg base 9 "_law_all" ["_law_ask", "_law_doors", "_law_things", "_law_due"] (gr__law_all er))
    (m__law_discs : mg "_law_discs" = some (.ref (er "_law_discs")))
    (m__law_with_number : mg "_law_with_number" = some (.ref (er "_law_with_number"))) :
    Cal P w K mg base 10 "_law_numbers_right" ["_law_state_here", "_law_due", "_law_far"] (gr__law_numbers_right er) := by
  have hb : Binds K fd ["_law_state_here", "_law_due", "_law_far"] [] := F.bindsN fun _ _ _ _ _ _ us hl => match us, hl with | [_, _, _], _ => rfl
  refine cal_of (n := 6) F sc__law_numbers_right hm hb rfl (by rintro ds r h; cases h <;> rfl) (fun cdv A outer s H E hr => ⟨_, (pss_cons (ps_set (i := 3) sc__law_numbers_right.nd rfl (Or.inl rfl) (pe_cal c_left ⟨rfl, rfl, rfl, rfl, rfl⟩ (hr.mono (by decide)) (by rfl) lets_on (pa_cons pe_str (pa_cons (pv 0) (pa_cons pe_int pa_nil)))))
      (pss_cons (ps_if (pt_not (pt_val (pe_cal c__law_all ⟨rfl, rfl, rfl, rfl, rfl⟩ (hr.mono (by decide)) (by rfl) lets_on (pa_cons (pe_glob (v := .ref (er "_law_with_number")) (by rfl) m__law_with_number rfl) (pa_cons (pe_lst (pa_cons (pv 0) pa_nil)) (pa_cons (pe_lst (pa_cons pe_non (pa_cons pe_str (pa_cons pe_bl (pa_cons (pe_lst (pa_cons pe_int pa_nil)) (pa_cons (pe_un un_neg pe_int) (pa_cons (pe_op op_sub (pe_un un_neg pe_int) (pv 2)) (pa_cons (pe_op opAdd (pv 3) pe_int) (pa_cons (pe_op opAdd (pe_op opAdd (pv 3) pe_int) (pv 2)) pa_nil))))))))) (pa_cons (pe_ix (ixK (K := K) rfl) (pv 1) pe_int (fun _ _ => rfl)) pa_nil))))))) (pss_one (ps_ret pe_bl)) pss_nil)
      (pss_cons (ps_set (i := 4) sc__law_numbers_right.nd rfl (Or.inl rfl) pe_int)
      (pss_cons (ps_for loops_on rfl (listPI (K := K) rfl (pi_list (pv 0))) (pg_name (i := 5) sc__law_numbers_right.nd rfl (Or.inl rfl)) (pss_one (ps_set (i := 4) sc__law_numbers_right.nd rfl (Or.inl rfl) (pe_op opMul pe_int (pv 4)))))
      (pss_cons (ps_if (pt_not (pt_val (pe_cal c__law_all ⟨rfl, rfl, rfl, rfl, rfl⟩ (hr.mono (by decide)) (by rfl) lets_on (pa_cons (pe_glob (v := .ref (er "_law_discs")) (by rfl) m__law_discs rfl) (pa_cons (pe_lst (pa_cons (pe_callB (lenK (K := K) rfl) (by rfl) G.b_len (by decide +kernel) (pa_cons (pv 0) pa_nil)) pa_nil)) (pa_cons (pe_lst (pa_cons pe_non (pa_cons pe_str (pa_cons pe_bl (pa_cons (pe_lst (pa_cons pe_int pa_nil)) (pa_cons (pe_un un_neg pe_int) (pa_cons (pe_op op_sub (pe_un un_neg pe_int) (pv 2)) (pa_cons (pv 4) (pa_cons (pe_op opAdd (pv 4) (pv 2)) pa_nil))))))))) (pa_cons (pe_ix (ixK (K := K) rfl) (pv 1) pe_int (fun _ _ => rfl)) pa_nil))))))) (pss_one (ps_ret pe_bl)) pss_nil)
      (pss_one (ps_ret (pe_cal c__law_all ⟨rfl, rfl, rfl, rfl, rfl⟩ (hr.mono (by decide)) (by rfl) lets_on (pa_cons (pe_glob (v := .ref (er "_law_discs")) (by rfl) m__law_discs rfl) (pa_cons (pe_lst (pa_cons pe_non (pa_cons pe_str (pa_cons pe_bl (pa_cons (pe_un un_neg pe_int) (pa_cons (pe_op op_sub (pe_un un_neg pe_int) (pv 2)) (pa_cons (pe_lst (pa_cons pe_int pa_nil)) pa_nil))))))) (pa_cons (pe_lst (pa_cons pe_int (pa_cons pe_non pa_nil))) (pa_cons (pe_ix (ixK (K := K) rfl) (pv 1) pe_int (fun _ _ => rfl)) pa_nil)))))))))))), ?_⟩)
  rintro ds o ⟨s, far, hs⟩
  have h4 : ∀ ρ : Rho, ρ[1]? = some (.d (.lst dueL)) → EvF K (tOp (rIx K) (tVar 1) (tC (.int 4))) ρ (.lst (kindsL "BadNumber")) := fun ρ h => ef_binM (EvF.m (ef_var h)) ef_int (rm_ix (atI_nat (j := 4) rfl))
  walk_at "nm"
  apply q_asg (x := nD (L .free s.reverse 0))
  · exact ef_call (ea_cons ef_str (ea_cons (ef_var rfl) (ea_cons ef_int ea_nil))) (.mk .free s 0 (by omega))
  walk_at "nm"
  generalize hm : L .free s.reverse 0 = m
  apply q_if (b := false)
  · refine EvT.is (et_not (et_val (ef_call (ea_cons ef_adr (ea_cons (EvN.f (en_lst (ea_cons (ef_var rfl) ea_nil) (Nat.le_of_ble_eq_true rfl))) (ea_cons (EvN.f (by walk_at "ev")) (ea_cons (h4 _ rfl) ea_nil)))) (.mk _ _ tab_number _ _ "BadNumber" (by simp) (Nat.le_of_ble_eq_true rfl) ?_)))) rfl
    intro x hx y hy
    simp only [List.mem_cons, List.not_mem_nil, or_false] at hx hy
    subst hx
    rcases hy with rfl | rfl | rfl | rfl | rfl | rfl | rfl | rfl
    · exact .ty s _ (by omega) trivial rfl
    · exact .ty s _ (by omega) trivial rfl
    · exact .ty s _ (by omega) trivial rfl
    · exact .ty s _ (by omega) trivial rfl
    · exact .far s _ (by omega) (.inl (by omega))
    · exact .far s _ (by omega) (.inl (by omega))
    · exact .far s _ (by omega) (.inr (by omega))
    · exact .far s _ (by omega) (.inr (by omega))
  · intro z; cases z
  intro _
  apply q_next
  apply q_asg (x := nD (3 ^ 0))
  · exact ef_int
  walk_at "nm"
  apply q_mid (fun ρ => ∃ a, ρ = [.d (stD s), .d (.lst dueL), .d (nD far), .d (nD m), .d (nD (3 ^ s.length)), a])
  · refine es_forL pD s (ef_var rfl) (fun l ρ => ∃ i a, i + l.length = s.length ∧ ρ = [.d (stD s), .d (.lst dueL), .d (nD far), .d (nD m), .d (nD (3 ^ i)), a]) ⟨0, _, Nat.zero_add _, rfl⟩ ?_ ?_
    · rintro p l ρ ⟨i, a, h1, rfl⟩
      walk_at "nm"
      apply es_last
      apply q_asg (x := nD (3 ^ (i + 1)))
      · refine EvF.is (by walk_at "ev") ?_
        rw [Nat.pow_succ, Nat.mul_comm]
        rfl
      walk_at "nm"
      refine q_end ⟨i + 1, _, ?_, rfl⟩
      rw [List.length_cons] at h1
      omega
    · rintro ρ ⟨i, a, h1, rfl⟩
      have e : i = s.length := by simpa using h1
      subst e
      exact ⟨_, rfl⟩
  rintro ρ ⟨a, rfl⟩
  generalize hw : 3 ^ s.length = wh
  have hlen : EvF K (tCB (fun xs H Q => ∃ x n, xs = [x] ∧ LenV K x H n ∧ Q (.int n) H) (tCons (tVar 0) tNil)) [.d (stD s), .d (.lst dueL), .d (nD far), .d (nD m), .d (nD wh), a] (nD s.length) := EvF.is (ef_lenM (EvF.m (ef_var rfl))) (by rw [List.length_map])
  walk_at "nm"
  apply q_if (b := false)
  · refine EvT.is (et_not (et_val (ef_call (ea_cons ef_adr (ea_cons (EvN.f (en_lst (ea_cons hlen ea_nil) (Nat.le_of_ble_eq_true rfl))) (ea_cons (EvN.f (by walk_at "ev")) (ea_cons (h4 _ rfl) ea_nil)))) (.mk _ _ tab_discs _ _ "BadNumber" (by simp) (Nat.le_of_ble_eq_true rfl) ?_)))) rfl
    intro x hx y hy
    simp only [List.mem_cons, List.not_mem_nil, or_false] at hx hy
    subst hx
    rcases hy with rfl | rfl | rfl | rfl | rfl | rfl | rfl | rfl
    · exact .mk _ _ (.bad2 _ _ trivial rfl)
    · exact .mk _ _ (.bad2 _ _ trivial rfl)
    · exact .mk _ _ (.bad2 _ _ trivial rfl)
    · exact .mk _ _ (.bad2 _ _ trivial rfl)
    · exact .mk _ _ (.bad3 _ _ (.inr (by omega)))
    · exact .mk _ _ (.bad3 _ _ (.inr (by omega)))
    · exact .mk _ _ (.bad4 s.length wh (by omega) (by omega))
    · exact .mk _ _ (.bad4 s.length (wh + far) (by omega) (by omega))
  · intro z; cases z
  intro _
  apply q_next
  apply es_last
  apply q_ret (x := .bl true)
  · refine ef_call (ea_cons ef_adr (ea_cons (EvN.f (by walk_at "ev")) (ea_cons (EvN.f (by walk_at "ev")) (ea_cons (h4 _ rfl) ea_nil)))) (.mk _ _ tab_discs _ _ "BadNumber" (by simp) (Nat.le_of_ble_eq_true rfl) ?_)
    intro x hx y hy
    simp only [List.mem_cons, List.not_mem_nil, or_false] at hx hy
    have hy2 : hasTy y := by rcases hy with rfl | rfl <;> trivial
    rcases hx with rfl | rfl | rfl | rfl | rfl | rfl
    · exact .mk _ _ (.bad1 _ _ trivial rfl)
    · exact .mk _ _ (.bad1 _ _ trivial rfl)
    · exact .mk _ _ (.bad1 _ _ trivial rfl)
    · rcases hy with rfl | rfl
      · exact .mk _ _ (.bad3 _ _ (.inl (by omega)))
      · exact .mk _ _ (.bad2 _ _ trivial rfl)
    · rcases hy with rfl | rfl
      · exact .mk _ _ (.bad3 _ _ (.inl (by omega)))
      · exact .mk _ _ (.bad2 _ _ trivial rfl)
    · exact .mk _ _ (.bad1 _ _ trivial rfl)
  · rfl


theorem isP_far' (i : Int) (h : i < 0 ∨ 2 < i) : isP (.int i) = false := isP_far i h
theorem badR_ok : ∀ x ∈ badR, badRule x := fun x hx => by
  have k : ∀ w : Str, (PyData.canLay0 (.str w) && (!decide (w = "free") && (!decide (w = "line") && !decide (w = "round")))) = true → badRule (.str w) := fun w h => by
    simp only [Bool.and_eq_true, Bool.not_eq_true', decide_eq_false_iff_not] at h
    exact ⟨h.1, fun r => by
      cases r
      · exact h.2.1
      · exact h.2.2.1
      · exact h.2.2.2⟩
  simp only [List.mem_cons, List.not_mem_nil, or_false] at hx
  rcases hx with rfl | rfl | rfl | rfl | rfl | rfl | rfl | rfl | rfl
  · trivial
  · trivial
  · exact k _ (by decide +kernel)
  · exact k _ (by decide +kernel)
  · exact k _ (by decide +kernel)
  · trivial
  · trivial
  · exact k _ (by decide +kernel)
  · trivial
theorem badOne (xs : List Da) (y : Da) (h1 : xs.all hasB = true) (hy : y ∈ xs) (h2 : isP y = false) (h3 : xs.length ≤ 1000) : badState (.lst xs) := ⟨fun x hx => hasB_ok (List.all_eq_true.mp h1 x hx), ⟨y, hy, h2⟩, h3⟩
theorem badS_ok (far : Nat) : ∀ x ∈ badS far, badState x := fun x hx => by
  simp only [List.mem_cons, List.not_mem_nil, or_false] at hx
  rcases hx with rfl | rfl | rfl | rfl | rfl | rfl | rfl | rfl | rfl | rfl | rfl | rfl | rfl | rfl | rfl
  · trivial
  · trivial
  · trivial
  · trivial
  · trivial
  · trivial
  · exact badOne _ _ rfl List.mem_cons_self rfl (Nat.le_of_ble_eq_true rfl)
  · exact badOne _ _ rfl List.mem_cons_self rfl (Nat.le_of_ble_eq_true rfl)
  · exact badOne _ _ rfl List.mem_cons_self rfl (Nat.le_of_ble_eq_true rfl)
  · exact badOne _ _ rfl List.mem_cons_self (by decide) (Nat.le_of_ble_eq_true rfl)
  · exact badOne _ _ rfl List.mem_cons_self (isP_far' _ (by omega)) (Nat.le_of_ble_eq_true rfl)
  · exact badOne _ _ rfl List.mem_cons_self (by decide) (Nat.le_of_ble_eq_true rfl)
  · exact badOne _ _ rfl List.mem_cons_self (isP_far' _ (by omega)) (Nat.le_of_ble_eq_true rfl)
  · exact badOne _ _ rfl List.mem_cons_self rfl (Nat.le_of_ble_eq_true rfl)
  · exact badOne _ _ rfl (List.mem_cons_of_mem _ (List.mem_cons_of_mem _ List.mem_cons_self)) (by decide) (Nat.le_of_ble_eq_true rfl)
theorem badT_at (far : Nat) : ∀ j : Nat, j < 5 → hasTy ((badT far).getD j .non) ∧ isP ((badT far).getD j .non) = false := fun j hj => by
  rcases j with _ | _ | _ | _ | _ | j
  · exact ⟨trivial, rfl⟩
  · exact ⟨trivial, rfl⟩
  · exact ⟨trivial, rfl⟩
  · exact ⟨trivial, isP_far' _ (by omega)⟩
  · exact ⟨trivial, isP_far' (-1) (by omega)⟩
  · omega
theorem bad_mid (s : List Pg) (z : Da) (a : Nat) (hs : s.length ≤ 400) (h1 : hasTy z) (h2 : isP z = false) : badState (.lst ((stL s).take a ++ [z] ++ (stL s).drop (a + 1))) := by
  have ty : ∀ x ∈ stL s, hasTy x := fun x hx => by
    obtain ⟨p, _, rfl⟩ := List.mem_map.mp hx
    trivial
  refine ⟨fun x hx => ?_, ⟨z, ?_, h2⟩, ?_⟩
  · rw [List.mem_append, List.mem_append, List.mem_singleton] at hx
    rcases hx with (hx | rfl) | hx
    · exact ty x (List.mem_of_mem_take hx)
    · exact h1
    · exact ty x (List.mem_of_mem_drop hx)
  · rw [List.mem_append, List.mem_append, List.mem_singleton]
    exact .inl (.inr rfl)
  · rw [List.length_append, List.length_append, List.length_take, List.length_drop, List.length_map, List.length_singleton]
    omega
theorem badP_ok (far : Nat) : ∀ x ∈ badP far, badPeg x := fun x hx => by
  simp only [List.mem_cons, List.not_mem_nil, or_false] at hx
  rcases hx with rfl | rfl | rfl | rfl | rfl | rfl | rfl | rfl
  · exact ⟨trivial, rfl⟩
  · exact ⟨trivial, rfl⟩
  · exact ⟨trivial, rfl⟩
  · exact ⟨trivial, by decide⟩
  · exact ⟨trivial, isP_far' _ (by omega)⟩
  · exact ⟨trivial, by decide⟩
  · exact ⟨trivial, isP_far' _ (by omega)⟩
  · exact ⟨trivial, rfl⟩
theorem mvs00 : mvs .free 0 [] [0, 0] = [(0, 1), (0, 2)] := by decide +kernel
theorem mvs10 : mvs .free 0 [] [1, 0] = [(0, 0), (0, 2), (1, 2)] := by decide +kernel
theorem mvF_none (s : List Pg) (p : Int × Int) (h : ∀ m ∈ mvs .free 0 [] s, mvZ m ≠ p) : mvF .free s p = none := by
  unfold mvF
  rw [List.find?_eq_none]
  intro m hm
  rw [decide_eq_true_eq]
  exact h m hm
theorem walk_one (a b : Int) (h : ∀ m ∈ mvs .free 0 [] [0, 0], mvZ m ≠ (a, b)) : walkD .free [0, 0] [tI a b] = none := by
  rw [walkD]
  show (match mvF .free [0, 0] (a, b) with
      | none => none
      | some m => walkD .free ([0, 0].set m.1 m.2) []) = none
  rw [mvF_none _ _ h]
theorem walk_far (a b : Int) (h : a ≠ 0 ∨ (b ≠ 1 ∧ b ≠ 2)) : walkD .free [0, 0] [tI a b] = none := by
  refine walk_one a b fun m hm => ?_
  rw [mvs00] at hm
  simp only [List.mem_cons, List.not_mem_nil, or_false] at hm
  intro z
  have z1 := congrArg Prod.fst z
  have z2 := congrArg Prod.snd z
  rcases hm with rfl | rfl
  · have z1 : (0 : Int) = a := z1
    have z2 : (1 : Int) = b := z2
    omega
  · have z1 : (0 : Int) = a := z1
    have z2 : (2 : Int) = b := z2
    omega
section
variable {er : Str → Addr}
theorem mvBad (ms : List Da) (h1 : ms.all tyB = true) (h2 : walkD .free [0, 0] ms = none) : gr__law_with_moves er [.int 0, .lst ms] (.e (er "BadMove")) := .lst _ _ (tysB h1) h2
theorem badM_ok : ∀ y ∈ badM, gr__law_with_moves er [.int 0, y] (.e (er "BadMove")) := fun y hy => by
  simp only [List.mem_cons, List.not_mem_nil, or_false] at hy
  rcases hy with rfl | rfl | rfl | rfl | rfl | rfl | rfl | rfl | rfl | rfl | rfl | rfl | rfl | rfl
  · exact .non _ _ trivial rfl
  · exact .non _ _ trivial rfl
  · exact .non _ _ trivial rfl
  · exact .non _ _ trivial rfl
  · exact mvBad _ rfl rfl
  · exact mvBad _ rfl rfl
  · exact mvBad _ rfl rfl
  · exact mvBad _ rfl rfl
  · exact mvBad _ rfl rfl
  · exact mvBad _ rfl (walk_far _ _ (by decide))
  · exact mvBad _ rfl (walk_far _ _ (by decide))
  · exact mvBad _ rfl (walk_far _ _ (by decide))
  · exact mvBad _ rfl (walk_far _ _ (by decide))
  · exact mvBad _ rfl rfl
theorem badN_ok (far : Nat) : ∀ y ∈ badN far, gr__law_with_moves er [.int 0, y] (.e (er "BadMove")) := fun y hy => by
  simp only [List.mem_cons, List.not_mem_nil, or_false] at hy
  rcases hy with rfl | rfl | rfl | rfl | rfl | rfl
  · exact mvBad _ rfl rfl
  · exact mvBad _ rfl rfl
  · exact mvBad _ rfl rfl
  · exact mvBad _ rfl (by decide +kernel)
  · exact mvBad _ rfl (walk_far _ _ (by omega))
  · exact mvBad _ rfl (walk_far _ _ (by omega))
end
inductive gr_law (er : Str → Addr) : List Da → Out → Prop
  | mk (ns : List Int) (h : ns.length ≤ 63) : gr_law er [scD ns] (.f (.bl true))

theorem ok_law {f : Addr} {fd : FuncData} (F : FnP K "law" s_law f fd) (G : Glb mg)
    (c__law_state : Cal P w K mg base 2 "_law_state" ["_law_script", "_law_by"] (gr__law_state er))
    (c__law_cell_at : Cal P w K mg base 1 "_law_cell_at" ["_law_script", "_law_k"] (gr__law_cell_at er))
    (c__law_all : Cal P w K mg base 9 "_law_all" ["_law_ask", "_law_doors", "_law_things", "_law_due"] (gr__law_all er))
    (c__law_told : Cal P w K mg base 8 "_law_told" ["_law_ask", "_law_one", "_law_other"] (gr__law_told er))
    (c__law_numbers_right : Cal P w K mg base 10 "_law_numbers_right" ["_law_state_here", "_law_due", "_law_far"] (gr__law_numbers_right er))
    (c_done : Cal P w K mg base 4 "done" ["rule", "state", "some"] (gr_done er))
    (c_left : Cal P w K mg base 5 "left" ["rule", "state", "peg"] (gr_left er))
    (m__law_with_state : mg "_law_with_state" = some (.ref (er "_law_with_state")))
    (m__law_with_peg : mg "_law_with_peg" = some (.ref (er "_law_with_peg")))
    (m__law_two : mg "_law_two" = some (.ref (er "_law_two")))
    (m__law_with_rule : mg "_law_with_rule" = some (.ref (er "_law_with_rule")))
    (m__law_with_moves : mg "_law_with_moves" = some (.ref (er "_law_with_moves"))) :
    FnOk P w K mg base (L2N.CX P w) 11 f fd ["_law_script"] (spD K (gr_law er)) := by
  refine fn_data (n := 11) F sc_law rfl (by rintro ds r h; cases h <;> rfl) (fun cdv A outer s H E hr => ⟨_, (pss_cons (ps_set (i := 1) sc_law.nd rfl (Or.inl rfl) (pe_op op_mod (pe_cal c__law_cell_at ⟨rfl, rfl, rfl, rfl, rfl⟩ (hr.mono (by decide)) (by rfl) lets_on (pa_cons (pv 0) (pa_cons pe_int pa_nil))) (pe_op op_pow pe_int pe_int)))
      (pss_cons (ps_set (i := 2) sc_law.nd rfl (Or.inl rfl) (pe_lst pa_nil))
      (pss_cons (ps_for loops_on rfl (pi_range1 rfl G.b_range (pa_cons pe_int pa_nil)) (pg_name (i := 3) sc_law.nd rfl (Or.inl rfl)) (pss_one (ps_expr (appPE (K := K) rfl (pe_bm PySem.F.plainAttrs_list PySem.F.slot_list_append PySem.F.type_list_append mt_append (pv 2) (pa_cons (pe_lst (pa_cons (pe_cmpR (opEq (K := K) hr rfl) (pv 3) pe_int (nomark _)) (pa_cons (pe_cmpR (opEq (K := K) hr rfl) (pv 3) pe_int (nomark _)) (pa_cons (pe_cmpR (opEq (K := K) hr rfl) (pv 3) pe_int (nomark _)) (pa_cons (pe_cmpR (opEq (K := K) hr rfl) (pv 3) pe_int (nomark _)) (pa_cons (pe_cmpR (opEq (K := K) hr rfl) (pv 3) pe_int (nomark _)) (pa_cons (pe_cmpR (opEq (K := K) hr rfl) (pv 3) pe_int (nomark _)) (pa_cons pe_bl (pa_cons pe_bl pa_nil))))))))) pa_nil))))))
      (pss_cons (ps_set (i := 4) sc_law.nd rfl (Or.inl rfl) (pe_cal c__law_state ⟨rfl, rfl, rfl, rfl, rfl⟩ (hr.mono (by decide)) (by rfl) lets_on (pa_cons (pv 0) (pa_cons pe_int pa_nil))))
      (pss_cons (ps_par (i := 5) (j := 6) rfl sc_law.nd rfl rfl (by decide) rfl rfl (pa_cons (pe_callB (lenK (K := K) rfl) (by rfl) G.b_len (by decide +kernel) (pa_cons (pv 4) pa_nil)) (pa_cons (pe_callTy (listK (K := K) rfl) (by rfl) G.b_list (by decide +kernel) (pa_cons (pv 4) pa_nil)) pa_nil)) (by rfl))
      (pss_cons (ps_set (i := 7) sc_law.nd rfl (Or.inl rfl) (pe_lst (pa_cons pe_non (pa_cons pe_int (pa_cons pe_str (pa_cons pe_str (pa_cons pe_str (pa_cons (pe_lst (pa_cons pe_str pa_nil)) (pa_cons pe_bl (pa_cons pe_str (pa_cons (pe_tup (pa_cons pe_str pa_nil)) pa_nil)))))))))))
      (pss_cons (ps_if (PW.pt (pw_or (pt_not (pt_val (pe_cal c__law_all ⟨rfl, rfl, rfl, rfl, rfl⟩ (hr.mono (by decide)) (by rfl) lets_on (pa_cons (pe_glob (v := .ref (er "_law_with_rule")) (by rfl) m__law_with_rule rfl) (pa_cons (pe_listRg rfl (by rfl) G.b_list (prg_1 rfl G.b_range pe_int)) (pa_cons (pv 7) (pa_cons (pe_ix (ixK (K := K) rfl) (pv 2) pe_int (fun _ _ => rfl)) pa_nil))))))) (pw_or1 (pt_cmpR (opNe (K := K) hr rfl) (pe_cal c__law_told ⟨rfl, rfl, rfl, rfl, rfl⟩ (hr.mono (by decide)) (by rfl) lets_on (pa_cons (pe_glob (v := .ref (er "_law_with_rule")) (by rfl) m__law_with_rule rfl) (pa_cons pe_int (pa_cons pe_str pa_nil)))) (pe_ix (ixK (K := K) rfl) (pv 2) pe_int (fun _ _ => rfl)) (nomark _))))) (pss_one (ps_ret pe_bl)) pss_nil)
      (pss_cons (ps_set (i := 8) sc_law.nd rfl (Or.inl rfl) (pe_lst (pa_cons pe_non (pa_cons (pe_tup pa_nil) (pa_cons (pe_tup (pa_cons pe_int pa_nil)) (pa_cons pe_str (pa_cons pe_dnewK (pa_cons pe_int (pa_cons (pe_lst (pa_cons pe_non pa_nil)) (pa_cons (pe_lst (pa_cons pe_str pa_nil)) (pa_cons (pe_lst (pa_cons pe_bl pa_nil)) (pa_cons (pe_lst (pa_cons pe_int pa_nil)) (pa_cons (pe_lst (pa_cons (pe_op opAdd pe_int (pv 1)) pa_nil)) (pa_cons (pe_lst (pa_cons (pe_un un_neg pe_int) pa_nil)) (pa_cons (pe_lst (pa_cons (pe_op op_sub (pe_un un_neg pe_int) (pv 1)) pa_nil)) (pa_cons (pe_lst (pa_cons (pe_lst (pa_cons pe_int pa_nil)) pa_nil)) (pa_cons (pe_lst (pa_cons pe_int (pa_cons pe_int (pa_cons pe_int pa_nil)))) pa_nil)))))))))))))))))
      (pss_cons (ps_for loops_on rfl (pi_range3 rfl G.b_range (pa_cons pe_int (pa_cons (pv 5) (pa_cons (pe_op opAdd pe_int (pe_op op_fdiv (pv 5) pe_int)) pa_nil)))) (pg_name (i := 9) sc_law.nd rfl (Or.inl rfl)) (pss_one (ps_expr (appPE (K := K) rfl (pe_bm PySem.F.plainAttrs_list PySem.F.slot_list_append PySem.F.type_list_append mt_append (pv 8) (pa_cons (pe_op opAdd (pe_op opAdd (pe_slice (slK (K := K) rfl) (pv 4) po_none (po_some (pv 9))) (pe_lst (pa_cons (pe_ix (ixK (K := K) rfl) (pe_tup (pa_cons pe_non (pa_cons pe_str (pa_cons pe_bl (pa_cons (pe_op opAdd pe_int (pv 1)) (pa_cons (pe_un un_neg pe_int) pa_nil)))))) (pe_op op_mod (pv 9) pe_int) (fun _ _ => rfl)) pa_nil))) (pe_slice (slK (K := K) rfl) (pv 4) (po_some (pe_op opAdd (pv 9) pe_int)) po_none)) pa_nil))))))
      (pss_cons (ps_if (pt_not (pt_val (pe_cal c__law_all ⟨rfl, rfl, rfl, rfl, rfl⟩ (hr.mono (by decide)) (by rfl) lets_on (pa_cons (pe_glob (v := .ref (er "_law_with_state")) (by rfl) m__law_with_state rfl) (pa_cons (pe_listRg rfl (by rfl) G.b_list (prg_1 rfl G.b_range pe_int)) (pa_cons (pv 8) (pa_cons (pe_ix (ixK (K := K) rfl) (pv 2) pe_int (fun _ _ => rfl)) pa_nil))))))) (pss_one (ps_ret pe_bl)) pss_nil)
      (pss_cons (ps_if (pt_not (pt_val (pe_cal c__law_all ⟨rfl, rfl, rfl, rfl, rfl⟩ (hr.mono (by decide)) (by rfl) lets_on (pa_cons (pe_glob (v := .ref (er "_law_with_peg")) (by rfl) m__law_with_peg rfl) (pa_cons (pe_lst (pa_cons pe_int (pa_cons pe_int (pa_cons pe_int pa_nil)))) (pa_cons (pe_lst (pa_cons pe_non (pa_cons pe_str (pa_cons pe_bl (pa_cons pe_int (pa_cons (pe_op opAdd pe_int (pv 1)) (pa_cons (pe_un un_neg pe_int) (pa_cons (pe_op op_sub (pe_un un_neg pe_int) (pv 1)) (pa_cons (pe_lst (pa_cons pe_int pa_nil)) pa_nil))))))))) (pa_cons (pe_ix (ixK (K := K) rfl) (pv 2) pe_int (fun _ _ => rfl)) pa_nil))))))) (pss_one (ps_ret pe_bl)) pss_nil)
      (pss_cons (ps_set (i := 10) sc_law.nd rfl (Or.inl rfl) (pe_lst (pa_cons pe_non (pa_cons (pe_tup pa_nil) (pa_cons pe_str (pa_cons pe_int (pa_cons (pe_lst (pa_cons pe_non pa_nil)) (pa_cons (pe_lst (pa_cons pe_int pa_nil)) (pa_cons (pe_lst (pa_cons (pe_tup pa_nil) pa_nil)) (pa_cons (pe_lst (pa_cons (pe_tup (pa_cons pe_int pa_nil)) pa_nil)) (pa_cons (pe_lst (pa_cons (pe_tup (pa_cons pe_int (pa_cons pe_int (pa_cons pe_int pa_nil)))) pa_nil)) (pa_cons (pe_lst (pa_cons (pe_tup (pa_cons pe_int (pa_cons pe_int pa_nil))) pa_nil)) (pa_cons (pe_lst (pa_cons (pe_tup (pa_cons pe_int (pa_cons pe_int pa_nil))) pa_nil)) (pa_cons (pe_lst (pa_cons (pe_tup (pa_cons pe_int (pa_cons pe_int pa_nil))) pa_nil)) (pa_cons (pe_lst (pa_cons (pe_tup (pa_cons pe_int (pa_cons pe_int pa_nil))) pa_nil)) (pa_cons (pe_lst (pa_cons (pe_lst (pa_cons pe_int (pa_cons pe_int pa_nil))) pa_nil)) pa_nil))))))))))))))))
      (pss_cons (ps_set (i := 10) sc_law.nd rfl (Or.inl rfl) (pe_op opAdd (pv 10) (pe_lst (pa_cons (pe_lst (pa_cons (pe_tup (pa_cons pe_int (pa_cons pe_bl pa_nil))) pa_nil)) (pa_cons (pe_lst (pa_cons (pe_tup (pa_cons pe_bl (pa_cons pe_int pa_nil))) pa_nil)) (pa_cons (pe_lst (pa_cons (pe_tup (pa_cons pe_str (pa_cons pe_int pa_nil))) pa_nil)) (pa_cons (pe_lst (pa_cons (pe_tup (pa_cons pe_int (pa_cons pe_int pa_nil))) (pa_cons (pe_tup (pa_cons pe_int (pa_cons pe_int pa_nil))) pa_nil))) (pa_cons (pe_lst (pa_cons (pe_tup (pa_cons (pe_op opAdd pe_int (pv 1)) (pa_cons pe_int pa_nil))) pa_nil)) (pa_cons (pe_lst (pa_cons (pe_tup (pa_cons pe_int (pa_cons (pe_op opAdd pe_int (pv 1)) pa_nil))) pa_nil)) pa_nil)))))))))
      (pss_cons (ps_if (PW.pt (pw_or (pt_not (pt_val (pe_cal c__law_all ⟨rfl, rfl, rfl, rfl, rfl⟩ (hr.mono (by decide)) (by rfl) lets_on (pa_cons (pe_glob (v := .ref (er "_law_with_moves")) (by rfl) m__law_with_moves rfl) (pa_cons (pe_lst (pa_cons pe_int pa_nil)) (pa_cons (pv 10) (pa_cons (pe_ix (ixK (K := K) rfl) (pv 2) pe_int (fun _ _ => rfl)) pa_nil))))))) (pw_or1 (pt_not (pt_val (pe_cal c__law_numbers_right ⟨rfl, rfl, rfl, rfl, rfl⟩ (hr.mono (by decide)) (by rfl) lets_on (pa_cons (pv 4) (pa_cons (pv 2) (pa_cons (pv 1) pa_nil))))))))) (pss_one (ps_ret pe_bl)) pss_nil)
      (pss_cons (ps_if (pt_not (pt_val (pe_cal c__law_all ⟨rfl, rfl, rfl, rfl, rfl⟩ (hr.mono (by decide)) (by rfl) lets_on (pa_cons (pe_glob (v := .ref (er "_law_two")) (by rfl) m__law_two rfl) (pa_cons (pe_lst (pa_cons (pv 4) pa_nil)) (pa_cons (pe_lst (pa_cons (pe_op opAdd (pv 4) (pe_lst (pa_cons pe_int pa_nil))) (pa_cons (pe_op opAdd (pe_lst (pa_cons pe_int (pa_cons pe_int pa_nil))) (pv 4)) pa_nil))) (pa_cons (pe_ix (ixK (K := K) rfl) (pv 2) pe_int (fun _ _ => rfl)) pa_nil))))))) (pss_one (ps_ret pe_bl)) pss_nil)
      (pss_one (ps_ret (pe_and (pe_cmpR (opEq (K := K) hr rfl) (pv 4) (pv 6) (nomark _)) (pe_and (pe_cmpR (opEq (K := K) hr rfl) (pe_cal c_done ⟨rfl, rfl, rfl, rfl, rfl⟩ (hr.mono (by decide)) (by rfl) lets_on (pa_cons pe_str (pa_cons (pe_lst (pa_cons pe_int (pa_cons pe_int pa_nil))) (pa_cons (pe_lst (pa_cons (pe_tup (pa_cons pe_int (pa_cons pe_int pa_nil))) (pa_cons (pe_tup (pa_cons pe_int (pa_cons pe_int pa_nil))) (pa_cons (pe_tup (pa_cons pe_int (pa_cons pe_int pa_nil))) pa_nil)))) pa_nil)))) (pe_lst (pa_cons pe_int (pa_cons pe_int pa_nil))) (nomark _)) (pe_one (pe_cmpR (opEq (K := K) hr rfl) (pe_cal c_left ⟨rfl, rfl, rfl, rfl, rfl⟩ (hr.mono (by decide)) (by rfl) lets_on (pa_cons pe_str (pa_cons (pe_lst (pa_cons pe_int pa_nil)) (pa_cons pe_int pa_nil)))) pe_int (nomark _)))))))))))))))))))))), ?_⟩)
  rintro ds o ⟨ns, hns⟩
  have hl := lawS_le ns 1
  generalize hs : lawS ns 1 = s
  rw [hs] at hl
  walk_at "nm"
  apply q_asg (x := nD (cel ns 0 % 1000000).toNat)
  · refine EvF.is (ef_binD (EvF.now (ef_call (ea_cons (ef_var rfl) (ea_cons ef_int ea_nil)) (.mk ns 0))) (EvF.now (ef_binD (EvF.now ef_int) (EvF.now ef_int) (rv_pow ⟨by decide, by decide, by decide⟩))) (rv_mod (by decide))) ?_
    have e : (10 : Int) ^ (6 : Int).toNat = 1000000 := by decide
    rw [e]
    exact congrArg Da.int (by omega)
  generalize (cel ns 0 % 1000000).toNat = far
  walk_at "nm"
  apply q_asgN (xs := [])
  · exact en_lst ea_nil (Nat.zero_le _)
  walk_at "nm"
  apply q_mid (fun ρ => ∃ a, ρ = [.d (scD ns), .d (nD far), .m dueL, a, .un, .un, .un, .un, .un, .un, .un])
  · refine es_forR (n := 6) (Inv := fun i ρ => ∃ a, ρ = [.d (scD ns), .d (nD far), .m (dueL.take i), a, .un, .un, .un, .un, .un, .un, .un]) ef_int (by decide) ⟨.un, rfl⟩ ?_ (fun ρ h => h)
    rintro i ρ hi ⟨a, rfl⟩
    walk_at "nm"
    apply es_last
    apply q_app rfl (x := .lst (kindsL (dsX.getD i "")))
    · exact EvF.is (EvN.f (by walk_at "ev")) (due_row i hi)
    · exact Nat.lt_of_le_of_lt (List.length_take_le _ _) (by omega)
    walk_at "nm"
    exact q_end ⟨_, by rw [due_take i hi]⟩
  rintro ρ ⟨a3, rfl⟩
  refine q_frz 2 (xs := dueL) rfl ?_
  walk_at "nm"
  have hdue : ∀ (ρ : Rho) (j : Nat) (D : Str), ρ[2]? = some (.l dueL) → dueL[j]? = some (.lst (kindsL D)) → EvF K (tOp (rIx K) (tVar 2) (tC (.int (j : Int)))) ρ (.lst (kindsL D)) := fun ρ j D h1 h2 => ef_binM (EvF.m (ef_varl h1)) ef_int (rm_ix (atI_nat h2))
  apply q_asgL (xs := stL s)
  · rw [← hs]
    exact en_call (ea_cons (ef_var rfl) (ea_cons ef_int ea_nil)) (.mk ns 1 hns)
  walk_at "nm"
  apply q_par2 (x := nD s.length) (y := stD s)
  · exact ea_cons (EvF.is (ef_lenM (EvF.m (ef_varl rfl))) (by rw [List.length_map])) (ea_cons (EvN.f (en_list (EvF.m (ef_varl rfl)))) ea_nil)
  walk_at "nm"
  apply q_asgL (xs := badR)
  · walk_at "ev"
  walk_at "nm"
  apply q_if (b := false)
  · refine EvT.is (et_or (et_not (et_val (ef_call (ea_cons ef_adr (ea_cons (EvN.f (en_listRg (n := 6) ef_int (by decide))) (ea_cons (ef_varl rfl) (ea_cons (hdue _ 0 "BadRule" rfl rfl) ea_nil)))) (.mk _ _ tab_rule _ _ "BadRule" (by simp) (Nat.le_of_ble_eq_true rfl) ?_)))) fun _ =>
      et_test (ef_binD (EvF.now (EvN.f (en_call (ea_cons ef_adr (ea_cons ef_int (ea_cons ef_str ea_nil))) (.mk _ _ tab_rule _ _ "BadRule" (by simp) .round)))) (EvF.now (hdue _ 0 "BadRule" rfl rfl)) rv_neK)) rfl
    intro x hx y hy
    obtain ⟨i, _, rfl⟩ := List.mem_map.mp hx
    exact .mk _ _ i rfl (badR_ok y hy)
  · intro z; cases z
  intro _
  apply q_next
  apply q_asgN (xs := badS far)
  · exact en_lst (ea_cons ef_non (ea_cons (by walk_at "ev") (ea_cons (by walk_at "ev") (ea_cons ef_str (ea_cons ef_emp (by walk_at "ev")))))) (Nat.le_of_ble_eq_true rfl)
  walk_at "nm"
  apply q_mid (fun ρ => ∃ bs a, (∀ x ∈ bs, badState x) ∧ bs.length ≤ 1000 ∧ ρ = [.d (scD ns), .d (nD far), .l dueL, a3, .l (stL s), .d (nD s.length), .d (stD s), .l badR, .m bs, a, .un])
  · refine es_forR3 (b := s.length) (c := 1 + (s.length : Int) / 6) (by omega) (by omega) (by omega) (by omega) (ea_cons ef_int (ea_cons (ef_var rfl) (ea_cons (ef_binD (EvF.now ef_int) (EvF.now (ef_binD (EvF.now (ef_var rfl)) (EvF.now ef_int) (rv_fdv (cdiv_of (by decide) (by decide))))) rv_add) ea_nil)))
      (fun i ρ => ∃ bs a, (∀ x ∈ bs, badState x) ∧ bs.length = 15 + i ∧ ρ = [.d (scD ns), .d (nD far), .l dueL, a3, .l (stL s), .d (nD s.length), .d (stD s), .l badR, .m bs, a, .un]) ⟨badS far, _, badS_ok far, rfl, rfl⟩ ?_ ?_
    · rintro i ρ hi ⟨bs, a, h1, h2, rfl⟩
      have e : (0 : Int) + (i : Nat) * (1 + (s.length : Int) / 6) = ((i * (1 + s.length / 6) : Nat) : Int) := by
        rw [Int.zero_add, Int.natCast_mul]
        rfl
      rw [e]
      generalize i * (1 + s.length / 6) = at'
      walk_at "nm"
      apply es_last
      have hj : at' % 5 < 5 := Nat.mod_lt _ (by decide)
      obtain ⟨z1, z2⟩ := badT_at far (at' % 5) hj
      apply q_app rfl (x := .lst ((stL s).take at' ++ [(badT far).getD (at' % 5) .non] ++ (stL s).drop (at' + 1)))
      · refine EvN.f (en_binP (EvN.p (en_binP (EvN.p (EvN.is (en_sl (EvF.m (ef_varl rfl)) eo_none (eo_some (ef_var rfl))) (cut_to' _ _))) (EvN.p (en_lst (ea_cons (ef_binF (ef_tup (by walk_at "ev") (Nat.le_of_ble_eq_true rfl)) (ef_binD (EvF.now (ef_var rfl)) (EvF.now ef_int) (rv_mod (by decide))) (rf_ix (xs := badT far) (atI_nat (j := at' % 5) (atD hj)))) ea_nil) (Nat.le_of_ble_eq_true rfl))) (rp_add ?_))) (EvN.p (EvN.is (en_sl (EvF.m (ef_varl rfl)) (eo_some (EvF.is (ef_binD (EvF.now (ef_var rfl)) (EvF.now ef_int) rv_add) rfl)) eo_none) (cut_from _ (at' + 1)))) (rp_add ?_))
        · rw [List.length_take, List.length_map, List.length_singleton]
          omega
        · rw [List.length_append, List.length_take, List.length_drop, List.length_map, List.length_singleton]
          omega
      · omega
      walk_at "nm"
      refine q_end ⟨_, _, ?_, ?_, rfl⟩
      · intro x hx
        rcases List.mem_append.mp hx with hx | hx
        · exact h1 x hx
        · rw [List.mem_singleton] at hx
          rw [hx]
          exact bad_mid s _ at' (by omega) z1 z2
      · rw [List.length_append, List.length_singleton]
        omega
    · rintro i ρ hi ⟨bs, a, h1, h2, rfl⟩
      exact ⟨bs, a, h1, by omega, rfl⟩
  rintro ρ ⟨bs, a9, h1, h2, rfl⟩
  refine q_frz 8 (xs := bs) rfl ?_
  walk_at "nm"
  apply q_if (b := false)
  · refine EvT.is (et_not (et_val (ef_call (ea_cons ef_adr (ea_cons (EvN.f (en_listRg (n := 9) ef_int (by decide))) (ea_cons (ef_varl rfl) (ea_cons (hdue _ 1 "BadState" rfl rfl) ea_nil)))) (.mk _ _ tab_state _ _ "BadState" (by simp) h2 ?_)))) rfl
    intro x hx y hy
    obtain ⟨i, _, rfl⟩ := List.mem_map.mp hx
    exact .mk _ _ i rfl (h1 y hy)
  · intro z; cases z
  intro _
  apply q_next
  apply q_if (b := false)
  · refine EvT.is (et_not (et_val (ef_call (ea_cons ef_adr (ea_cons (EvN.f (by walk_at "ev")) (ea_cons (x := .lst (badP far)) (EvN.f (by walk_at "ev")) (ea_cons (hdue _ 2 "BadPeg" rfl rfl) ea_nil)))) (.mk _ _ tab_peg _ _ "BadPeg" (by simp) (Nat.le_of_ble_eq_true rfl) ?_)))) rfl
    intro x hx y hy
    simp only [List.mem_cons, List.not_mem_nil, or_false] at hx
    rcases hx with rfl | rfl | rfl
    · exact .mk _ _ 0 rfl (badP_ok far y hy)
    · exact .mk _ _ 1 rfl (badP_ok far y hy)
    · exact .mk _ _ 2 rfl (badP_ok far y hy)
  · intro z; cases z
  intro _
  apply q_next
  apply q_asgL (xs := badM)
  · walk_at "ev"
  walk_at "nm"
  apply q_asgL (xs := badM ++ badN far)
  · exact en_binP (ep_varl rfl) (EvN.p (by walk_at "ev")) (rp_add (Nat.le_of_ble_eq_true rfl))
  walk_at "nm"
  apply q_if (b := false)
  · refine EvT.is (et_or (et_not (et_val (ef_call (ea_cons ef_adr (ea_cons (EvN.f (en_lst (ea_cons ef_int ea_nil) (Nat.le_of_ble_eq_true rfl))) (ea_cons (ef_varl rfl) (ea_cons (hdue _ 3 "BadMove" rfl rfl) ea_nil)))) (.mk _ _ tab_moves _ _ "BadMove" (by simp) (Nat.le_of_ble_eq_true rfl) ?_)))) fun _ =>
      et_not (et_val (ef_call (ea_cons (ef_varl rfl) (ea_cons (ef_varl rfl) (ea_cons (ef_var rfl) ea_nil))) (.mk s far (by omega))))) rfl
    intro x hx y hy
    rw [List.mem_singleton] at hx
    subst hx
    rcases List.mem_append.mp hy with hy | hy
    · exact badM_ok y hy
    · exact badN_ok far y hy
  · intro z; cases z
  intro _
  apply q_next
  apply q_if (b := false)
  · refine EvT.is (et_not (et_val (ef_call (ea_cons ef_adr (ea_cons (EvN.f (en_lst (ea_cons (ef_varl rfl) ea_nil) (Nat.le_of_ble_eq_true rfl))) (ea_cons (EvN.f (en_lst (ea_cons (x := stD (s ++ [0])) (EvF.is (EvN.f (en_binP (ep_varl rfl) (EvN.p (en_lst (ea_cons ef_int ea_nil) (Nat.le_of_ble_eq_true rfl))) (rp_add ?_))) ?_) (ea_cons (x := stD ([0, 0] ++ s)) (EvF.is (EvN.f (en_binP (EvN.p (en_lst (ea_cons ef_int (ea_cons ef_int ea_nil)) (Nat.le_of_ble_eq_true rfl))) (ep_varl rfl) (rp_add ?_))) ?_) ea_nil)) (Nat.le_of_ble_eq_true rfl))) (ea_cons (hdue _ 5 "Unlike" rfl rfl) ea_nil)))) (.mk _ _ tab_two _ _ "Unlike" (by simp) (Nat.le_of_ble_eq_true rfl) ?_)))) rfl
    · rw [List.length_map, List.length_singleton]
      omega
    · exact congrArg Da.lst (stL_app s [0])
    · rw [List.length_map]
      show 2 + _ ≤ _
      omega
    · exact congrArg Da.lst (stL_app [0, 0] s)
    intro x hx y hy
    simp only [List.mem_cons, List.not_mem_nil, or_false] at hx hy
    subst hx
    rcases hy with rfl | rfl
    · exact .mk s (s ++ [0]) (by omega) (by rw [List.length_append, List.length_singleton]; omega) (by rw [List.length_append, List.length_singleton]; omega)
    · exact .mk s ([0, 0] ++ s) (by omega) (by rw [List.length_append]; show 2 + _ ≤ _; omega) (by rw [List.length_append]; show _ ≠ 2 + _; omega)
  · intro z; cases z
  intro _
  apply q_next
  apply es_last
  apply q_ret (x := .bl true)
  · refine EvF.is (ef_andV (ef_binD (EvF.now (ef_varl rfl)) (EvF.now (ef_var rfl)) rv_eqSt) fun _ => ef_andV (ef_binD (EvF.now (x := stD [2, 2]) (EvN.f (en_call (ea_cons ef_str (ea_cons (x := stD [0, 0]) (EvF.is (EvN.f (en_lst (ea_cons ef_int (ea_cons ef_int ea_nil)) (Nat.le_of_ble_eq_true rfl))) rfl) (ea_cons (x := .lst [tI 0 1, tI 1 2, tI 0 2]) (EvN.f (by walk_at "ev")) ea_nil))) (.ok .free [0, 0] _ [2, 2] (by decide) (tysB rfl) (by decide +kernel))))) (EvF.now (x := stD [2, 2]) (EvF.is (EvN.f (en_lst (ea_cons ef_int (ea_cons ef_int ea_nil)) (Nat.le_of_ble_eq_true rfl))) rfl)) rv_eqSt) fun _ =>
      ef_binD (EvF.now (ef_call (ea_cons ef_str (ea_cons (x := stD [0]) (EvF.is (EvN.f (en_lst (ea_cons ef_int ea_nil) (Nat.le_of_ble_eq_true rfl))) rfl) (ea_cons (x := pD 2) ef_int ea_nil))) (.mk .round [0] 2 (by decide)))) (EvF.now ef_int) rv_eqi) ?_
    rw [decide_eq_true rfl, decide_eq_true rfl]
    exact congrArg Da.bl (by decide +kernel)
  · rfl


end
/-! ### the head -/
def dd_towers : He.DefD := ⟨("towers", none), "towers", "towers", defArgs s_towers, defBody s_towers, defScope s_towers, [], []⟩
def dd_is_near : He.DefD := ⟨("is_near", none), "is_near", "is_near", defArgs s_is_near, defBody s_is_near, defScope s_is_near, [], []⟩
def dd_tower : He.DefD := ⟨("tower", none), "tower", "tower", defArgs s_tower, defBody s_tower, defScope s_tower, [], []⟩
def dd_steps_of : He.DefD := ⟨("steps_of", none), "steps_of", "steps_of", defArgs s_steps_of, defBody s_steps_of, defScope s_steps_of, [], []⟩
def dd_is_whole : He.DefD := ⟨("is_whole", none), "is_whole", "is_whole", defArgs s_is_whole, defBody s_is_whole, defScope s_is_whole, [], []⟩
def dd_is_peg : He.DefD := ⟨("is_peg", none), "is_peg", "is_peg", defArgs s_is_peg, defBody s_is_peg, defScope s_is_peg, [], []⟩
def dd_check_rule : He.DefD := ⟨("check_rule", none), "check_rule", "check_rule", defArgs s_check_rule, defBody s_check_rule, defScope s_check_rule, [], []⟩
def dd_check_state : He.DefD := ⟨("check_state", none), "check_state", "check_state", defArgs s_check_state, defBody s_check_state, defScope s_check_state, [], []⟩
def dd_check_peg : He.DefD := ⟨("check_peg", none), "check_peg", "check_peg", defArgs s_check_peg, defBody s_check_peg, defScope s_check_peg, [], []⟩
def dd_is_allowed : He.DefD := ⟨("is_allowed", none), "is_allowed", "is_allowed", defArgs s_is_allowed, defBody s_is_allowed, defScope s_is_allowed, [], []⟩
def dd_moves_of : He.DefD := ⟨("moves_of", none), "moves_of", "moves_of", defArgs s_moves_of, defBody s_moves_of, defScope s_moves_of, [], []⟩
def dd_moves : He.DefD := ⟨("moves", none), "moves", "moves", defArgs s_moves, defBody s_moves, defScope s_moves, [], []⟩
def dd_is_move : He.DefD := ⟨("is_move", none), "is_move", "is_move", defArgs s_is_move, defBody s_is_move, defScope s_is_move, [], []⟩
def dd_done : He.DefD := ⟨("done", none), "done", "done", defArgs s_done, defBody s_done, defScope s_done, [], []⟩
def dd_goals_of : He.DefD := ⟨("goals_of", none), "goals_of", "goals_of", defArgs s_goals_of, defBody s_goals_of, defScope s_goals_of, [], []⟩
def dd_left_of : He.DefD := ⟨("left_of", none), "left_of", "left_of", defArgs s_left_of, defBody s_left_of, defScope s_left_of, [], []⟩
def dd_behind_first : He.DefD := ⟨("behind_first", none), "behind_first", "behind_first", defArgs s_behind_first, defBody s_behind_first, defScope s_behind_first, [], []⟩
def dd_left : He.DefD := ⟨("left", none), "left", "left", defArgs s_left, defBody s_left, defScope s_left, [], []⟩
def dd_next_move : He.DefD := ⟨("next_move", none), "next_move", "next_move", defArgs s_next_move, defBody s_next_move, defScope s_next_move, [], []⟩
def dd_gone : He.DefD := ⟨("gone", none), "gone", "gone", defArgs s_gone, defBody s_gone, defScope s_gone, [], []⟩
def dd_tower_behind : He.DefD := ⟨("tower_behind", none), "tower_behind", "tower_behind", defArgs s_tower_behind, defBody s_tower_behind, defScope s_tower_behind, [], []⟩
def dd_led : He.DefD := ⟨("led", none), "led", "led", defArgs s_led, defBody s_led, defScope s_led, [], []⟩
def dd_behind : He.DefD := ⟨("behind", none), "behind", "behind", defArgs s_behind, defBody s_behind, defScope s_behind, [], []⟩
def dd_number_by_line : He.DefD := ⟨("number_by_line", none), "number_by_line", "number_by_line", defArgs s_number_by_line, defBody s_number_by_line, defScope s_number_by_line, [], []⟩
def dd_number_of : He.DefD := ⟨("number_of", none), "number_of", "number_of", defArgs s_number_of, defBody s_number_of, defScope s_number_of, [], []⟩
def dd_state_of : He.DefD := ⟨("state_of", none), "state_of", "state_of", defArgs s_state_of, defBody s_state_of, defScope s_state_of, [], []⟩
def dd_apart_free : He.DefD := ⟨("apart_free", none), "apart_free", "apart_free", defArgs s_apart_free, defBody s_apart_free, defScope s_apart_free, [], []⟩
def dd_apart : He.DefD := ⟨("apart", none), "apart", "apart", defArgs s_apart, defBody s_apart, defScope s_apart, [], []⟩
def dd_written : He.DefD := ⟨("written", none), "written", "written", defArgs s_written, defBody s_written, defScope s_written, [], []⟩
def dd__law_cell_at : He.DefD := ⟨("_law_cell_at", none), "_law_cell_at", "_law_cell_at", defArgs s__law_cell_at, defBody s__law_cell_at, defScope s__law_cell_at, [], []⟩
def dd__law_draw : He.DefD := ⟨("_law_draw", none), "_law_draw", "_law_draw", defArgs s__law_draw, defBody s__law_draw, defScope s__law_draw, [], []⟩
def dd__law_state : He.DefD := ⟨("_law_state", none), "_law_state", "_law_state", defArgs s__law_state, defBody s__law_state, defScope s__law_state, [], []⟩
def dd__law_rule : He.DefD := ⟨("_law_rule", none), "_law_rule", "_law_rule", defArgs s__law_rule, defBody s__law_rule, defScope s__law_rule, [], []⟩
def dd__law_behind : He.DefD := ⟨("_law_behind", none), "_law_behind", "_law_behind", defArgs s__law_behind, defBody s__law_behind, defScope s__law_behind, [], []⟩
def dd__law_whole : He.DefD := ⟨("_law_whole", none), "_law_whole", "_law_whole", defArgs s__law_whole, defBody s__law_whole, defScope s__law_whole, [], []⟩
def dd__law_kinds : He.DefD := ⟨("_law_kinds", none), "_law_kinds", "_law_kinds", defArgs s__law_kinds, defBody s__law_kinds, defScope s__law_kinds, [], []⟩
def dd__law_with_rule : He.DefD := ⟨("_law_with_rule", none), "_law_with_rule", "_law_with_rule", defArgs s__law_with_rule, defBody s__law_with_rule, defScope s__law_with_rule, [], []⟩
def dd__law_with_state : He.DefD := ⟨("_law_with_state", none), "_law_with_state", "_law_with_state", defArgs s__law_with_state, defBody s__law_with_state, defScope s__law_with_state, [], []⟩
def dd__law_with_peg : He.DefD := ⟨("_law_with_peg", none), "_law_with_peg", "_law_with_peg", defArgs s__law_with_peg, defBody s__law_with_peg, defScope s__law_with_peg, [], []⟩
def dd__law_with_moves : He.DefD := ⟨("_law_with_moves", none), "_law_with_moves", "_law_with_moves", defArgs s__law_with_moves, defBody s__law_with_moves, defScope s__law_with_moves, [], []⟩
def dd__law_with_number : He.DefD := ⟨("_law_with_number", none), "_law_with_number", "_law_with_number", defArgs s__law_with_number, defBody s__law_with_number, defScope s__law_with_number, [], []⟩
def dd__law_discs : He.DefD := ⟨("_law_discs", none), "_law_discs", "_law_discs", defArgs s__law_discs, defBody s__law_discs, defScope s__law_discs, [], []⟩
def dd__law_two : He.DefD := ⟨("_law_two", none), "_law_two", "_law_two", defArgs s__law_two, defBody s__law_two, defScope s__law_two, [], []⟩
def dd__law_told : He.DefD := ⟨("_law_told", none), "_law_told", "_law_told", defArgs s__law_told, defBody s__law_told, defScope s__law_told, [], []⟩
def dd__law_all : He.DefD := ⟨("_law_all", none), "_law_all", "_law_all", defArgs s__law_all, defBody s__law_all, defScope s__law_all, [], []⟩
def dd__law_numbers_right : He.DefD := ⟨("_law_numbers_right", none), "_law_numbers_right", "_law_numbers_right", defArgs s__law_numbers_right, defBody s__law_numbers_right, defScope s__law_numbers_right, [], []⟩
def dd_law : He.DefD := ⟨("law", none), "law", "law", defArgs s_law, defBody s_law, defScope s_law, [], []⟩
def fnL : List He.DefD := [dd_towers, dd_is_near, dd_tower, dd_steps_of, dd_is_whole, dd_is_peg, dd_check_rule, dd_check_state, dd_check_peg, dd_is_allowed, dd_moves_of, dd_moves, dd_is_move, dd_done, dd_goals_of, dd_left_of, dd_behind_first, dd_left, dd_next_move, dd_gone, dd_tower_behind, dd_led, dd_behind, dd_number_by_line, dd_number_of, dd_state_of, dd_apart_free, dd_apart, dd_written, dd__law_cell_at, dd__law_draw, dd__law_state, dd__law_rule, dd__law_behind, dd__law_whole, dd__law_kinds, dd__law_with_rule, dd__law_with_state, dd__law_with_peg, dd__law_with_moves, dd__law_with_number, dd__law_discs, dd__law_two, dd__law_told, dd__law_all, dd__law_numbers_right, dd_law]
def faL : List He.Fa := [.glo "towers", .glo "is_near", .glo "tower", .glo "steps_of", .glo "is_whole", .glo "is_peg", .glo "check_rule", .glo "check_state", .glo "check_peg", .glo "is_allowed", .glo "moves_of", .glo "moves", .glo "is_move", .glo "done", .glo "goals_of", .glo "left_of", .glo "behind_first", .glo "left", .glo "next_move", .glo "gone", .glo "tower_behind", .glo "led", .glo "behind", .glo "number_by_line", .glo "number_of", .glo "state_of", .glo "apart_free", .glo "apart", .glo "written", .glo "_law_cell_at", .glo "_law_draw", .glo "_law_state", .glo "_law_rule", .glo "_law_behind", .glo "_law_whole", .glo "_law_kinds", .glo "_law_with_rule", .glo "_law_with_state", .glo "_law_with_peg", .glo "_law_with_moves", .glo "_law_with_number", .glo "_law_discs", .glo "_law_two", .glo "_law_told", .glo "_law_all", .glo "_law_numbers_right", .glo "law", .free "range", .free "abs", .free "isinstance", .free "int", .free "bool", .free "str", .free "list", .free "all", .free "enumerate", .free "tuple", .free "len", .free "reversed", .free "min", .free "ValueError", .glo "TowerError", .glo "BadRule", .glo "BadState", .glo "BadPeg", .glo "BadMove", .glo "BadNumber", .glo "Unlike", .glo "BadText", .exc "TowerError", .exc "BadRule", .exc "BadState", .exc "BadPeg", .exc "BadMove", .exc "BadNumber", .exc "Unlike", .exc "BadText", .glo "RULES"]
def namesL : List PySem.Str := (["towers", "is_near", "tower", "steps_of", "TowerError", "BadRule", "BadState", "BadPeg", "BadMove", "BadNumber", "Unlike", "BadText", "RULES", "is_whole", "is_peg", "check_rule", "check_state", "check_peg", "is_allowed", "moves_of", "moves", "is_move", "done", "goals_of", "left_of", "behind_first", "left", "next_move", "gone", "tower_behind"] : List PySem.Str) ++ (["led", "behind", "number_by_line", "number_of", "state_of", "apart_free", "apart", "written", "_law_cell_at", "_law_draw", "_law_state", "_law_rule", "_law_behind", "_law_whole", "_law_kinds", "_law_with_rule", "_law_with_state", "_law_with_peg", "_law_with_moves", "_law_with_number", "_law_discs", "_law_two", "_law_told", "_law_all", "_law_numbers_right"] : List PySem.Str)
def exB (K : PySem.W.Frag) : Bool := He.lstB K "RULES" [.str "free", .str "line", .str "round"] && (exHB K (He.ga K) dsX csX)
abbrev RR : PySem.W.OpenRow := PySem.W.OpenLaw.row PySem.Challenge.rw_towerrow_k07_refused
def obsM (g : Addr → Option Obj) : He.AlD × Bool := (He.obsD faL fnL (He.frG g (He.asD g 4)), exB (He.frG g (He.asD g 4)))
def hkM : PySem.W.Hook where
  α := He.AlD × Bool
  obs := fun s => obsM s.heap.get?
  val := fun _ => (He.valD fnL, true)
  says := fun _ h => ∃ K : PySem.W.Frag, K.In h ∧ He.SaysD faL fnL K ∧ exB K = true
  of := fun _ _ e => ⟨_, He.frG_in, congrArg (fun z : He.AlD × Bool => z.1) e, congrArg (fun z : He.AlD × Bool => z.2) e⟩
  keeps := fun _ _ _ ⟨K, hK, c⟩ k => ⟨K, PySem.W.Frag.In.keeps hK k, c⟩
def obM (s : PySem.W.SharedT) : He.AlD × Bool := obsM (HandSHeadRun.getT s)
theorem obM_eq (s : PySem.W.SharedT) : obM s = hkM.obs s.abs := by
  have e : HandSHeadRun.getT s = s.abs.heap.get? := funext (HandSHeadRun.getT_eq s)
  unfold obM
  rw [e] <;> rfl
theorem runM (w : World) : HandSHeadRun.RunEq RR (PySem.W.view RR.prog [62]) hkM obM 20000 namesL w := by
  intro os
  kernel_rfl
theorem facts {P : Program} {w : World} {K : PySem.W.Frag} {h : Heap} {mg : Str → Option Value} {f : Addr} (X : K.In h) (G : h.Ns mainGlobals mg) (hfa : mg ("law" : Str) = some (.ref f)) (c : He.SaysD faL fnL K) (ex : exB K = true) :
    ∃ fd : FuncData, (∀ (s : Shared) (v : Value), BindsTo s fd ⟨[v], []⟩ [("_law_script", v)]) ∧ ∀ base : Heap, K.In base → base.Ns mainGlobals mg → FnOk P w K mg base L2.CX0 11 f fd ["_law_script"] (fun vs H Q _ => spD K (gr_law (He.ga K)) vs H Q E0) := by
  obtain ⟨fd_towers, F_towers⟩ := c.def_ 0 (d := dd_towers) rfl
  obtain ⟨fd_is_near, F_is_near⟩ := c.def_ 1 (d := dd_is_near) rfl
  obtain ⟨fd_tower, F_tower⟩ := c.def_ 2 (d := dd_tower) rfl
  obtain ⟨fd_steps_of, F_steps_of⟩ := c.def_ 3 (d := dd_steps_of) rfl
  obtain ⟨fd_is_whole, F_is_whole⟩ := c.def_ 4 (d := dd_is_whole) rfl
  obtain ⟨fd_is_peg, F_is_peg⟩ := c.def_ 5 (d := dd_is_peg) rfl
  obtain ⟨fd_check_rule, F_check_rule⟩ := c.def_ 6 (d := dd_check_rule) rfl
  obtain ⟨fd_check_state, F_check_state⟩ := c.def_ 7 (d := dd_check_state) rfl
  obtain ⟨fd_check_peg, F_check_peg⟩ := c.def_ 8 (d := dd_check_peg) rfl
  obtain ⟨fd_is_allowed, F_is_allowed⟩ := c.def_ 9 (d := dd_is_allowed) rfl
  obtain ⟨fd_moves_of, F_moves_of⟩ := c.def_ 10 (d := dd_moves_of) rfl
  obtain ⟨fd_moves, F_moves⟩ := c.def_ 11 (d := dd_moves) rfl
  obtain ⟨fd_is_move, F_is_move⟩ := c.def_ 12 (d := dd_is_move) rfl
  obtain ⟨fd_done, F_done⟩ := c.def_ 13 (d := dd_done) rfl
  obtain ⟨fd_goals_of, F_goals_of⟩ := c.def_ 14 (d := dd_goals_of) rfl
  obtain ⟨fd_left_of, F_left_of⟩ := c.def_ 15 (d := dd_left_of) rfl
  obtain ⟨fd_behind_first, F_behind_first⟩ := c.def_ 16 (d := dd_behind_first) rfl
  obtain ⟨fd_left, F_left⟩ := c.def_ 17 (d := dd_left) rfl
  obtain ⟨fd_next_move, F_next_move⟩ := c.def_ 18 (d := dd_next_move) rfl
  obtain ⟨fd_gone, F_gone⟩ := c.def_ 19 (d := dd_gone) rfl
  obtain ⟨fd_tower_behind, F_tower_behind⟩ := c.def_ 20 (d := dd_tower_behind) rfl
  obtain ⟨fd_led, F_led⟩ := c.def_ 21 (d := dd_led) rfl
  obtain ⟨fd_behind, F_behind⟩ := c.def_ 22 (d := dd_behind) rfl
  obtain ⟨fd_number_by_line, F_number_by_line⟩ := c.def_ 23 (d := dd_number_by_line) rfl
  obtain ⟨fd_number_of, F_number_of⟩ := c.def_ 24 (d := dd_number_of) rfl
  obtain ⟨fd_state_of, F_state_of⟩ := c.def_ 25 (d := dd_state_of) rfl
  obtain ⟨fd_apart_free, F_apart_free⟩ := c.def_ 26 (d := dd_apart_free) rfl
  obtain ⟨fd_apart, F_apart⟩ := c.def_ 27 (d := dd_apart) rfl
  obtain ⟨fd_written, F_written⟩ := c.def_ 28 (d := dd_written) rfl
  obtain ⟨fd__law_cell_at, F__law_cell_at⟩ := c.def_ 29 (d := dd__law_cell_at) rfl
  obtain ⟨fd__law_draw, F__law_draw⟩ := c.def_ 30 (d := dd__law_draw) rfl
  obtain ⟨fd__law_state, F__law_state⟩ := c.def_ 31 (d := dd__law_state) rfl
  obtain ⟨fd__law_rule, F__law_rule⟩ := c.def_ 32 (d := dd__law_rule) rfl
  obtain ⟨fd__law_behind, F__law_behind⟩ := c.def_ 33 (d := dd__law_behind) rfl
  obtain ⟨fd__law_whole, F__law_whole⟩ := c.def_ 34 (d := dd__law_whole) rfl
  obtain ⟨fd__law_kinds, F__law_kinds⟩ := c.def_ 35 (d := dd__law_kinds) rfl
  obtain ⟨fd__law_with_rule, F__law_with_rule⟩ := c.def_ 36 (d := dd__law_with_rule) rfl
  obtain ⟨fd__law_with_state, F__law_with_state⟩ := c.def_ 37 (d := dd__law_with_state) rfl
  obtain ⟨fd__law_with_peg, F__law_with_peg⟩ := c.def_ 38 (d := dd__law_with_peg) rfl
  obtain ⟨fd__law_with_moves, F__law_with_moves⟩ := c.def_ 39 (d := dd__law_with_moves) rfl
  obtain ⟨fd__law_with_number, F__law_with_number⟩ := c.def_ 40 (d := dd__law_with_number) rfl
  obtain ⟨fd__law_discs, F__law_discs⟩ := c.def_ 41 (d := dd__law_discs) rfl
  obtain ⟨fd__law_two, F__law_two⟩ := c.def_ 42 (d := dd__law_two) rfl
  obtain ⟨fd__law_told, F__law_told⟩ := c.def_ 43 (d := dd__law_told) rfl
  obtain ⟨fd__law_all, F__law_all⟩ := c.def_ 44 (d := dd__law_all) rfl
  obtain ⟨fd__law_numbers_right, F__law_numbers_right⟩ := c.def_ 45 (d := dd__law_numbers_right) rfl
  obtain ⟨fd_law, F_law⟩ := c.def_ 46 (d := dd_law) rfl
  have m_towers : mg "towers" = some (.ref (He.fAd K ("towers", none))) := He.glo_ok X G (c.fact 0 (f := .glo "towers") rfl)
  have m_is_near : mg "is_near" = some (.ref (He.fAd K ("is_near", none))) := He.glo_ok X G (c.fact 1 (f := .glo "is_near") rfl)
  have m_tower : mg "tower" = some (.ref (He.fAd K ("tower", none))) := He.glo_ok X G (c.fact 2 (f := .glo "tower") rfl)
  have m_steps_of : mg "steps_of" = some (.ref (He.fAd K ("steps_of", none))) := He.glo_ok X G (c.fact 3 (f := .glo "steps_of") rfl)
  have m_is_whole : mg "is_whole" = some (.ref (He.fAd K ("is_whole", none))) := He.glo_ok X G (c.fact 4 (f := .glo "is_whole") rfl)
  have m_is_peg : mg "is_peg" = some (.ref (He.fAd K ("is_peg", none))) := He.glo_ok X G (c.fact 5 (f := .glo "is_peg") rfl)
  have m_check_rule : mg "check_rule" = some (.ref (He.fAd K ("check_rule", none))) := He.glo_ok X G (c.fact 6 (f := .glo "check_rule") rfl)
  have m_check_state : mg "check_state" = some (.ref (He.fAd K ("check_state", none))) := He.glo_ok X G (c.fact 7 (f := .glo "check_state") rfl)
  have m_check_peg : mg "check_peg" = some (.ref (He.fAd K ("check_peg", none))) := He.glo_ok X G (c.fact 8 (f := .glo "check_peg") rfl)
  have m_is_allowed : mg "is_allowed" = some (.ref (He.fAd K ("is_allowed", none))) := He.glo_ok X G (c.fact 9 (f := .glo "is_allowed") rfl)
  have m_moves_of : mg "moves_of" = some (.ref (He.fAd K ("moves_of", none))) := He.glo_ok X G (c.fact 10 (f := .glo "moves_of") rfl)
  have m_moves : mg "moves" = some (.ref (He.fAd K ("moves", none))) := He.glo_ok X G (c.fact 11 (f := .glo "moves") rfl)
  have m_is_move : mg "is_move" = some (.ref (He.fAd K ("is_move", none))) := He.glo_ok X G (c.fact 12 (f := .glo "is_move") rfl)
  have m_done : mg "done" = some (.ref (He.fAd K ("done", none))) := He.glo_ok X G (c.fact 13 (f := .glo "done") rfl)
  have m_goals_of : mg "goals_of" = some (.ref (He.fAd K ("goals_of", none))) := He.glo_ok X G (c.fact 14 (f := .glo "goals_of") rfl)
  have m_left_of : mg "left_of" = some (.ref (He.fAd K ("left_of", none))) := He.glo_ok X G (c.fact 15 (f := .glo "left_of") rfl)
  have m_behind_first : mg "behind_first" = some (.ref (He.fAd K ("behind_first", none))) := He.glo_ok X G (c.fact 16 (f := .glo "behind_first") rfl)
  have m_left : mg "left" = some (.ref (He.fAd K ("left", none))) := He.glo_ok X G (c.fact 17 (f := .glo "left") rfl)
  have m_next_move : mg "next_move" = some (.ref (He.fAd K ("next_move", none))) := He.glo_ok X G (c.fact 18 (f := .glo "next_move") rfl)
  have m_gone : mg "gone" = some (.ref (He.fAd K ("gone", none))) := He.glo_ok X G (c.fact 19 (f := .glo "gone") rfl)
  have m_tower_behind : mg "tower_behind" = some (.ref (He.fAd K ("tower_behind", none))) := He.glo_ok X G (c.fact 20 (f := .glo "tower_behind") rfl)
  have m_led : mg "led" = some (.ref (He.fAd K ("led", none))) := He.glo_ok X G (c.fact 21 (f := .glo "led") rfl)
  have m_behind : mg "behind" = some (.ref (He.fAd K ("behind", none))) := He.glo_ok X G (c.fact 22 (f := .glo "behind") rfl)
  have m_number_by_line : mg "number_by_line" = some (.ref (He.fAd K ("number_by_line", none))) := He.glo_ok X G (c.fact 23 (f := .glo "number_by_line") rfl)
  have m_number_of : mg "number_of" = some (.ref (He.fAd K ("number_of", none))) := He.glo_ok X G (c.fact 24 (f := .glo "number_of") rfl)
  have m_state_of : mg "state_of" = some (.ref (He.fAd K ("state_of", none))) := He.glo_ok X G (c.fact 25 (f := .glo "state_of") rfl)
  have m_apart_free : mg "apart_free" = some (.ref (He.fAd K ("apart_free", none))) := He.glo_ok X G (c.fact 26 (f := .glo "apart_free") rfl)
  have m_apart : mg "apart" = some (.ref (He.fAd K ("apart", none))) := He.glo_ok X G (c.fact 27 (f := .glo "apart") rfl)
  have m_written : mg "written" = some (.ref (He.fAd K ("written", none))) := He.glo_ok X G (c.fact 28 (f := .glo "written") rfl)
  have m__law_cell_at : mg "_law_cell_at" = some (.ref (He.fAd K ("_law_cell_at", none))) := He.glo_ok X G (c.fact 29 (f := .glo "_law_cell_at") rfl)
  have m__law_draw : mg "_law_draw" = some (.ref (He.fAd K ("_law_draw", none))) := He.glo_ok X G (c.fact 30 (f := .glo "_law_draw") rfl)
  have m__law_state : mg "_law_state" = some (.ref (He.fAd K ("_law_state", none))) := He.glo_ok X G (c.fact 31 (f := .glo "_law_state") rfl)
  have m__law_rule : mg "_law_rule" = some (.ref (He.fAd K ("_law_rule", none))) := He.glo_ok X G (c.fact 32 (f := .glo "_law_rule") rfl)
  have m__law_behind : mg "_law_behind" = some (.ref (He.fAd K ("_law_behind", none))) := He.glo_ok X G (c.fact 33 (f := .glo "_law_behind") rfl)
  have m__law_whole : mg "_law_whole" = some (.ref (He.fAd K ("_law_whole", none))) := He.glo_ok X G (c.fact 34 (f := .glo "_law_whole") rfl)
  have m__law_kinds : mg "_law_kinds" = some (.ref (He.fAd K ("_law_kinds", none))) := He.glo_ok X G (c.fact 35 (f := .glo "_law_kinds") rfl)
  have m__law_with_rule : mg "_law_with_rule" = some (.ref (He.fAd K ("_law_with_rule", none))) := He.glo_ok X G (c.fact 36 (f := .glo "_law_with_rule") rfl)
  have m__law_with_state : mg "_law_with_state" = some (.ref (He.fAd K ("_law_with_state", none))) := He.glo_ok X G (c.fact 37 (f := .glo "_law_with_state") rfl)
  have m__law_with_peg : mg "_law_with_peg" = some (.ref (He.fAd K ("_law_with_peg", none))) := He.glo_ok X G (c.fact 38 (f := .glo "_law_with_peg") rfl)
  have m__law_with_moves : mg "_law_with_moves" = some (.ref (He.fAd K ("_law_with_moves", none))) := He.glo_ok X G (c.fact 39 (f := .glo "_law_with_moves") rfl)
  have m__law_with_number : mg "_law_with_number" = some (.ref (He.fAd K ("_law_with_number", none))) := He.glo_ok X G (c.fact 40 (f := .glo "_law_with_number") rfl)
  have m__law_discs : mg "_law_discs" = some (.ref (He.fAd K ("_law_discs", none))) := He.glo_ok X G (c.fact 41 (f := .glo "_law_discs") rfl)
  have m__law_two : mg "_law_two" = some (.ref (He.fAd K ("_law_two", none))) := He.glo_ok X G (c.fact 42 (f := .glo "_law_two") rfl)
  have m__law_told : mg "_law_told" = some (.ref (He.fAd K ("_law_told", none))) := He.glo_ok X G (c.fact 43 (f := .glo "_law_told") rfl)
  have m__law_all : mg "_law_all" = some (.ref (He.fAd K ("_law_all", none))) := He.glo_ok X G (c.fact 44 (f := .glo "_law_all") rfl)
  have m__law_numbers_right : mg "_law_numbers_right" = some (.ref (He.fAd K ("_law_numbers_right", none))) := He.glo_ok X G (c.fact 45 (f := .glo "_law_numbers_right") rfl)
  have m_law : mg "law" = some (.ref (He.fAd K ("law", none))) := He.glo_ok X G (c.fact 46 (f := .glo "law") rfl)
  have GG : Glb mg := ⟨He.free_ok X G (c.fact 47 (f := .free "range") rfl), He.free_ok X G (c.fact 48 (f := .free "abs") rfl), He.free_ok X G (c.fact 49 (f := .free "isinstance") rfl), He.free_ok X G (c.fact 50 (f := .free "int") rfl), He.free_ok X G (c.fact 51 (f := .free "bool") rfl), He.free_ok X G (c.fact 52 (f := .free "str") rfl), He.free_ok X G (c.fact 53 (f := .free "list") rfl), He.free_ok X G (c.fact 54 (f := .free "all") rfl), He.free_ok X G (c.fact 55 (f := .free "enumerate") rfl), He.free_ok X G (c.fact 56 (f := .free "tuple") rfl), He.free_ok X G (c.fact 57 (f := .free "len") rfl), He.free_ok X G (c.fact 58 (f := .free "reversed") rfl), He.free_ok X G (c.fact 59 (f := .free "min") rfl), He.free_ok X G (c.fact 60 (f := .free "ValueError") rfl)⟩
  have e_TowerError : ErrC K mg "TowerError" (He.ga K "TowerError") := by
    obtain ⟨h1, h2, h3, h4⟩ := He.exc_ok (c.fact 69 (f := .exc "TowerError") rfl)
    exact ⟨He.glo_ok X G (c.fact 61 (f := .glo "TowerError") rfl), h2, h1, h3, h4⟩
  have e_BadRule : ErrC K mg "BadRule" (He.ga K "BadRule") := by
    obtain ⟨h1, h2, h3, h4⟩ := He.exc_ok (c.fact 70 (f := .exc "BadRule") rfl)
    exact ⟨He.glo_ok X G (c.fact 62 (f := .glo "BadRule") rfl), h2, h1, h3, h4⟩
  have e_BadState : ErrC K mg "BadState" (He.ga K "BadState") := by
    obtain ⟨h1, h2, h3, h4⟩ := He.exc_ok (c.fact 71 (f := .exc "BadState") rfl)
    exact ⟨He.glo_ok X G (c.fact 63 (f := .glo "BadState") rfl), h2, h1, h3, h4⟩
  have e_BadPeg : ErrC K mg "BadPeg" (He.ga K "BadPeg") := by
    obtain ⟨h1, h2, h3, h4⟩ := He.exc_ok (c.fact 72 (f := .exc "BadPeg") rfl)
    exact ⟨He.glo_ok X G (c.fact 64 (f := .glo "BadPeg") rfl), h2, h1, h3, h4⟩
  have e_BadMove : ErrC K mg "BadMove" (He.ga K "BadMove") := by
    obtain ⟨h1, h2, h3, h4⟩ := He.exc_ok (c.fact 73 (f := .exc "BadMove") rfl)
    exact ⟨He.glo_ok X G (c.fact 65 (f := .glo "BadMove") rfl), h2, h1, h3, h4⟩
  have e_BadNumber : ErrC K mg "BadNumber" (He.ga K "BadNumber") := by
    obtain ⟨h1, h2, h3, h4⟩ := He.exc_ok (c.fact 74 (f := .exc "BadNumber") rfl)
    exact ⟨He.glo_ok X G (c.fact 66 (f := .glo "BadNumber") rfl), h2, h1, h3, h4⟩
  have e_Unlike : ErrC K mg "Unlike" (He.ga K "Unlike") := by
    obtain ⟨h1, h2, h3, h4⟩ := He.exc_ok (c.fact 75 (f := .exc "Unlike") rfl)
    exact ⟨He.glo_ok X G (c.fact 67 (f := .glo "Unlike") rfl), h2, h1, h3, h4⟩
  have e_BadText : ErrC K mg "BadText" (He.ga K "BadText") := by
    obtain ⟨h1, h2, h3, h4⟩ := He.exc_ok (c.fact 76 (f := .exc "BadText") rfl)
    exact ⟨He.glo_ok X G (c.fact 68 (f := .glo "BadText") rfl), h2, h1, h3, h4⟩
  have g_RULES : mg "RULES" = some (.ref (He.ga K "RULES")) := He.glo_ok X G (c.fact 77 (f := .glo "RULES") rfl)
  have k_RULES : ∀ H, Dq K H (.ref (He.ga K "RULES")) d_RULES := fun H => .lst (He.lstB_ok ((He.ba ex).1) H) (.cons (.str _) (.cons (.str _) (.cons (.str _) .nil)))
  have hX : ExH K (He.ga K) dsX csX := exHB_ok (He.ba ex).2
  have eq_law : f = He.fAd K ("law", none) := by
    have e := hfa.symm.trans m_law
    injection e with e; injection e
  subst eq_law
  have b := FunD.bindsA (ps := ["_law_script"]) F_law fun _ _ _ _ _ _ us hl => match us, hl with | [_], _ => rfl
  refine ⟨fd_law, fun s v => b s [v] rfl, fun base _ _ => ?_⟩
  have c_towers : Cal P w K mg base 1 "towers" ["rule", "many"] (gr_towers (He.ga K)) := cal_towers F_towers m_towers GG 
  have c_is_near : Cal P w K mg base 1 "is_near" ["rule", "start", "end"] (gr_is_near (He.ga K)) := cal_is_near F_is_near m_is_near GG 
  have c_is_whole : Cal P w K mg base 1 "is_whole" ["thing"] (gr_is_whole (He.ga K)) := cal_is_whole F_is_whole m_is_whole GG 
  have c_check_rule : Cal P w K mg base 1 "check_rule" ["rule"] (gr_check_rule (He.ga K)) := cal_check_rule F_check_rule m_check_rule GG e_BadRule g_RULES k_RULES
  have c_is_allowed : Cal P w K mg base 1 "is_allowed" ["rule", "start", "end"] (gr_is_allowed (He.ga K)) := cal_is_allowed F_is_allowed m_is_allowed GG 
  have c_number_by_line : Cal P w K mg base 1 "number_by_line" ["state"] (gr_number_by_line (He.ga K)) := cal_number_by_line F_number_by_line m_number_by_line GG 
  have c__law_cell_at : Cal P w K mg base 1 "_law_cell_at" ["_law_script", "_law_k"] (gr__law_cell_at (He.ga K)) := cal__law_cell_at F__law_cell_at m__law_cell_at GG 
  have c__law_draw : Cal P w K mg base 1 "_law_draw" ["_law_cell", "_law_k", "_law_many"] (gr__law_draw (He.ga K)) := cal__law_draw F__law_draw m__law_draw GG 
  have c__law_behind : Cal P w K mg base 1 "_law_behind" ["_law_rule_here", "_law_state_here"] (gr__law_behind (He.ga K)) := cal__law_behind F__law_behind m__law_behind GG 
  have c__law_whole : Cal P w K mg base 1 "_law_whole" ["_law_number"] (gr__law_whole (He.ga K)) := cal__law_whole F__law_whole m__law_whole GG 
  have c__law_kinds : CalP P w K mg base 1 "_law_kinds" ["_law_error"] (spP K (He.ga K) dsX kindsL) := cal__law_kinds F__law_kinds m__law_kinds GG e_BadRule e_BadState e_BadPeg e_BadMove e_BadNumber e_Unlike e_BadText hX
  have c_tower : Cal P w K mg base 2 "tower" ["rule", "counts", "start", "end"] (gr_tower (He.ga K)) := cal_tower F_tower m_tower GG c_is_near
  have c_steps_of : Cal P w K mg base 2 "steps_of" ["rule", "start", "end"] (gr_steps_of (He.ga K)) := cal_steps_of F_steps_of m_steps_of GG c_is_near
  have c_is_peg : Cal P w K mg base 2 "is_peg" ["thing"] (gr_is_peg (He.ga K)) := cal_is_peg F_is_peg m_is_peg GG c_is_whole
  have c_moves_of : Cal P w K mg base 2 "moves_of" ["rule", "state"] (gr_moves_of (He.ga K)) := cal_moves_of F_moves_of m_moves_of GG c_is_allowed
  have c_is_move : Cal P w K mg base 2 "is_move" ["thing"] (gr_is_move (He.ga K)) := cal_is_move F_is_move m_is_move GG c_is_whole
  have c_state_of : Cal P w K mg base 2 "state_of" ["discs", "number"] (gr_state_of (He.ga K)) := cal_state_of F_state_of m_state_of GG e_BadNumber c_is_whole
  have c__law_state : Cal P w K mg base 2 "_law_state" ["_law_script", "_law_by"] (gr__law_state (He.ga K)) := cal__law_state F__law_state m__law_state GG c__law_draw c__law_cell_at
  have c__law_rule : Cal P w K mg base 2 "_law_rule" ["_law_script", "_law_k"] (gr__law_rule (He.ga K)) := cal__law_rule F__law_rule m__law_rule GG c__law_draw c__law_cell_at
  have c_check_state : Cal P w K mg base 3 "check_state" ["state"] (gr_check_state (He.ga K)) := cal_check_state F_check_state m_check_state GG e_BadState c_is_peg
  have c_check_peg : Cal P w K mg base 3 "check_peg" ["peg"] (gr_check_peg (He.ga K)) := cal_check_peg F_check_peg m_check_peg GG e_BadPeg c_is_peg
  have c_goals_of : Cal P w K mg base 3 "goals_of" ["rule", "state", "peg"] (gr_goals_of (He.ga K)) := cal_goals_of F_goals_of m_goals_of GG c_steps_of
  have c_behind_first : Cal P w K mg base 3 "behind_first" ["rule", "start", "end", "ahead"] (gr_behind_first (He.ga K)) := cal_behind_first F_behind_first m_behind_first GG c_steps_of c_tower
  have c_gone : Cal P w K mg base 3 "gone" ["rule", "steps", "ahead", "lesser", "number"] (gr_gone (He.ga K)) := cal_gone F_gone m_gone GG c_tower
  have c_moves : Cal P w K mg base 4 "moves" ["rule", "state"] (gr_moves (He.ga K)) := cal_moves F_moves m_moves GG c_check_rule c_check_state c_moves_of
  have c_done : Cal P w K mg base 4 "done" ["rule", "state", "some"] (gr_done (He.ga K)) := cal_done F_done m_done GG e_BadMove c_check_rule c_check_state c_is_move c_moves_of
  have c_left_of : Cal P w K mg base 4 "left_of" ["rule", "state", "peg", "table"] (gr_left_of (He.ga K)) := cal_left_of F_left_of m_left_of GG c_goals_of c_behind_first
  have c_next_move : Cal P w K mg base 4 "next_move" ["rule", "state", "peg"] (gr_next_move (He.ga K)) := cal_next_move F_next_move m_next_move GG c_check_rule c_check_state c_check_peg c_goals_of c_steps_of
  have c_tower_behind : Cal P w K mg base 4 "tower_behind" ["rule", "many", "start", "goal", "number", "table"] (gr_tower_behind (He.ga K)) := cal_tower_behind F_tower_behind m_tower_behind GG c_steps_of c_gone
  have c_number_of : Cal P w K mg base 4 "number_of" ["state"] (gr_number_of (He.ga K)) := cal_number_of F_number_of m_number_of GG c_check_state c_number_by_line
  have c_written : Cal P w K mg base 4 "written" ["state"] (gr_written (He.ga K)) := cal_written F_written m_written GG c_check_state
  have c_left : Cal P w K mg base 5 "left" ["rule", "state", "peg"] (gr_left (He.ga K)) := cal_left F_left m_left GG c_check_rule c_check_state c_check_peg c_left_of c_towers
  have c_led : Cal P w K mg base 5 "led" ["rule", "state", "peg", "number", "table"] (gr_led (He.ga K)) := cal_led F_led m_led GG c_goals_of c_steps_of c_behind_first c_gone c_tower_behind
  have c_apart_free : Cal P w K mg base 5 "apart_free" ["one", "other"] (gr_apart_free (He.ga K)) := cal_apart_free F_apart_free m_apart_free GG c_towers c_left_of
  have c_behind : Cal P w K mg base 6 "behind" ["rule", "state", "peg", "number"] (gr_behind (He.ga K)) := cal_behind F_behind m_behind GG e_BadNumber c_check_rule c_check_state c_check_peg c_towers c_led c_is_whole c_left_of
  have c_apart : Cal P w K mg base 6 "apart" ["rule", "one", "other"] (gr_apart (He.ga K)) := cal_apart F_apart m_apart GG e_BadRule e_Unlike c_check_rule c_check_state c_apart_free c_number_by_line
  have c__law_with_rule : Cal P w K mg base 7 "_law_with_rule" ["_law_door", "_law_rule_here"] (gr__law_with_rule (He.ga K)) := cal__law_with_rule F__law_with_rule m__law_with_rule GG c_next_move c_behind c_apart c_moves c_done c_left
  have c__law_with_state : Cal P w K mg base 7 "_law_with_state" ["_law_door", "_law_state_here"] (gr__law_with_state (He.ga K)) := cal__law_with_state F__law_with_state m__law_with_state GG c_behind c_apart c_moves c_left c_done c_number_of c_next_move c_written
  have c__law_with_peg : Cal P w K mg base 7 "_law_with_peg" ["_law_door", "_law_peg"] (gr__law_with_peg (He.ga K)) := cal__law_with_peg F__law_with_peg m__law_with_peg GG c_behind c_left c_next_move
  have c__law_with_moves : Cal P w K mg base 7 "_law_with_moves" ["_law_door", "_law_some"] (gr__law_with_moves (He.ga K)) := cal__law_with_moves F__law_with_moves m__law_with_moves GG c_done
  have c__law_with_number : Cal P w K mg base 7 "_law_with_number" ["_law_state_here", "_law_number"] (gr__law_with_number (He.ga K)) := cal__law_with_number F__law_with_number m__law_with_number GG c_behind
  have c__law_discs : Cal P w K mg base 7 "_law_discs" ["_law_discs_here", "_law_number"] (gr__law_discs (He.ga K)) := cal__law_discs F__law_discs m__law_discs GG c_state_of
  have c__law_two : Cal P w K mg base 7 "_law_two" ["_law_one", "_law_other"] (gr__law_two (He.ga K)) := cal__law_two F__law_two m__law_two GG c_apart
  have held : ∀ f Gr, TabX (He.ga K) f Gr → HeldD P w K mg base 7 f Gr := by
    rintro f Gr (⟨rfl, rfl⟩ | ⟨rfl, rfl⟩ | ⟨rfl, rfl⟩ | ⟨rfl, rfl⟩ | ⟨rfl, rfl⟩ | ⟨rfl, rfl⟩ | ⟨rfl, rfl⟩)
    · exact held_one c__law_with_rule m__law_with_rule
    · exact held_one c__law_with_state m__law_with_state
    · exact held_one c__law_with_peg m__law_with_peg
    · exact held_one c__law_with_moves m__law_with_moves
    · exact held_one c__law_with_number m__law_with_number
    · exact held_one c__law_discs m__law_discs
    · exact held_one c__law_two m__law_two
  have c__law_told : Cal P w K mg base 8 "_law_told" ["_law_ask", "_law_one", "_law_other"] (gr__law_told (He.ga K)) := cal__law_told F__law_told m__law_told GG e_TowerError hX c__law_kinds held
  have c__law_all : Cal P w K mg base 9 "_law_all" ["_law_ask", "_law_doors", "_law_things", "_law_due"] (gr__law_all (He.ga K)) := cal__law_all F__law_all m__law_all GG c__law_told
  have c__law_numbers_right : Cal P w K mg base 10 "_law_numbers_right" ["_law_state_here", "_law_due", "_law_far"] (gr__law_numbers_right (He.ga K)) := cal__law_numbers_right F__law_numbers_right m__law_numbers_right GG c_left c__law_all m__law_discs m__law_with_number
  exact fn_quiet (ok_law F_law GG c__law_state c__law_cell_at c__law_all c__law_told c__law_numbers_right c_done c_left m__law_with_state m__law_with_peg m__law_two m__law_with_rule m__law_with_moves)
end TR
open PySem PySem.W PySem.Calls PyProof.Rows
theorem PySem.Challenge.cw_towerrow_k07_refused_holds : PySem.Challenge.rw_towerrow_k07_refused.Holds := by
  w_on; o_law
  refine HandSHeadRun.head_any (r := OpenLaw.row PySem.Challenge.rw_towerrow_k07_refused) (q := view (OpenLaw.row PySem.Challenge.rw_towerrow_k07_refused).prog [62]) (H := TR.hkM) (ob := TR.obM) (M := 20000) (loose := TR.namesL) (d := HandSHeadRun.topDef (OpenLaw.row PySem.Challenge.rw_towerrow_k07_refused).prog 62) (kwd := []) TR.obM_eq
    (by kernel_rfl) (fun s => by kernel_rfl) TR.runM (by kernel_rfl) (by kernel_rfl) (by kernel_rfl) (by rfl) (by first | assumption | decide +kernel) (by decide +kernel) ⟨rfl, rfl, rfl, rfl, rfl, by decide +kernel⟩ ?hw ?hc
  case hw => w_witness2
  case hc =>
    refine L2.walk_ofE (l := PySem.Challenge.rw_towerrow_k07_refused) (n := 63) (k := 11) (x := "_law_script") (CX := L2.CX0) rfl (by decide) (by kernel_rfl) ⟨rfl, by decide, by decide⟩ ?F (fun _ _ _ _ z => z)
    intro w mg fa h Y G hmg0
    obtain ⟨K, KX, c, ex⟩ := Y
    have hmg : mg ("law" : PySem.Str) = some (.ref fa) := by
      have e : (HandSHeadRun.topDef (OpenLaw.row PySem.Challenge.rw_towerrow_k07_refused).prog 62).name = ("law" : PySem.Str) := by kernel_rfl
      rw [← e]
      exact hmg0
    obtain ⟨fd, hb, hF⟩ := TR.facts (P := (PySem.Challenge.rw_towerrow_k07_refused).prog) (w := w) KX G hmg c ex
    exact ⟨K, fd, _, KX, hb, fun H a ns hl _ hS => ⟨H, [TR.scD ns], .f (.bl true), L2.Same.refl H, .cons (.lst hS (TR.ints_dqa H ns)) .nil, .mk ns hl, fun v F' H' g hd => by cases hd; rfl⟩, hF⟩
