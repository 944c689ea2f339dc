import PyProof.Rows.All
import Wide.All
import OpenK.AllK
import Wide.FinOn
import PySem.Challenge.RW_lanternhouse_k63_whole_chase
import HandS.ForMost
import HandS.ForExc
import HandS.Strs
import HandS.Conv
import HandS.Zip
import HandS.IsInst
import HandS.Wide
import HandS.TupLe
import HandS.Deep
import HandS.CallSlots
import HandS.More
import HandS.SetFor
import HandS.Defaults
import HandS.Codes
import KE.KStateDown
import HandS.Head0
import HandS.Head1
import HandS.Head2
import HandS.HeadHook1
import HandS.HeadHook2
import HandS.HeadEnd
import HandS.NoneIn
import HandS.MakeKwOnly
import HandS.SetTxt0
import HandS.SetTxtIn
import HandS.ExcIs
set_option Elab.async false
set_option linter.all false
set_option maxRecDepth 100000
namespace DT
open PySem PySem.Spec L2
open PyProof.Rows hiding St

/-! ### plain data -/
inductive Dv where
  | non | bl (b : Bool) | int (i : Int) | str (x : Str) | lst (ds : List Dv) | tup (ds : List Dv)
  | ins (C : Addr) (fs : List (Str × Dv)) | scr (ns : List Int) | exn (a : Addr)

instance : Inhabited Dv := ⟨.non⟩

mutual
inductive Rp (K : PySem.W.Frag) (B : Hp) : V → Dv → Prop
  | non : Rp K B .non .non
  | bl (b : Bool) : Rp K B (.bl b) (.bl b)
  | int (i : Int) : Rp K B (.int i) (.int i)
  | str (x : Str) : Rp K B (.str x) (.str x)
  | lst {a : Addr} {xs : List V} {ds : List Dv} : B a = some (.lst xs) → Rps K B xs ds → Rp K B (.ref a) (.lst ds)
  | tup {a : Addr} {xs : List V} {ds : List Dv} : B a = some (.tup xs) → Rps K B xs ds → Rp K B (.ref a) (.tup ds)
  | ins {a C dx : Addr} {gs : List (Str × V)} {fs : List (Str × Dv)} : B a = some (.ins C dx gs) → RpF K B gs fs → Rp K B (.ref a) (.ins C fs)
  | scr {a : Addr} {ns : List Int} : SqL K B a (ns.map V.int) → Rp K B (.ref a) (.scr ns)
  | exn {a : Addr} : Rp K B (.ref a) (.exn a)
inductive Rps (K : PySem.W.Frag) (B : Hp) : List V → List Dv → Prop
  | nil : Rps K B [] []
  | cons {v : V} {vs : List V} {d : Dv} {ds : List Dv} : Rp K B v d → Rps K B vs ds → Rps K B (v :: vs) (d :: ds)
inductive RpF (K : PySem.W.Frag) (B : Hp) : List (Str × V) → List (Str × Dv) → Prop
  | nil : RpF K B [] []
  | cons {n : Str} {v : V} {vs : List (Str × V)} {d : Dv} {ds : List (Str × Dv)} : Rp K B v d → RpF K B vs ds → RpF K B ((n, v) :: vs) ((n, d) :: ds)
end

mutual
theorem Rp.mono {K : PySem.W.Frag} {B B' : Hp} (s : Same B B') : ∀ (d : Dv) (v : V), Rp K B v d → Rp K B' v d
  | .non, _, h => by cases h; exact .non
  | .bl _, _, h => by cases h; exact .bl _
  | .int _, _, h => by cases h; exact .int _
  | .str _, _, h => by cases h; exact .str _
  | .lst ds, _, h => by
    cases h with
    | lst e r => exact .lst (s _ _ e) (Rps.mono s ds _ r)
  | .tup ds, _, h => by
    cases h with
    | tup e r => exact .tup (s _ _ e) (Rps.mono s ds _ r)
  | .ins C fs, _, h => by
    cases h with
    | ins e r => exact .ins (s _ _ e) (RpF.mono s fs _ r)
  | .scr ns, _, h => by
    cases h with
    | scr e => exact .scr (s.seq e)
  | .exn a, _, h => by cases h; exact .exn
theorem Rps.mono {K : PySem.W.Frag} {B B' : Hp} (s : Same B B') : ∀ (ds : List Dv) (vs : List V), Rps K B vs ds → Rps K B' vs ds
  | [], _, h => by cases h; exact .nil
  | d :: ds, _, h => by
    cases h with
    | cons a r => exact .cons (Rp.mono s d _ a) (Rps.mono s ds _ r)
theorem RpF.mono {K : PySem.W.Frag} {B B' : Hp} (s : Same B B') : ∀ (ds : List (Str × Dv)) (vs : List (Str × V)), RpF K B vs ds → RpF K B' vs ds
  | [], _, h => by cases h; exact .nil
  | (n, d) :: ds, _, h => by
    cases h with
    | cons a r => exact .cons (Rp.mono s d _ a) (RpF.mono s ds _ r)
end
theorem Rp.up {K : PySem.W.Frag} {B B' : Hp} {d : Dv} {v : V} (h : Rp K B v d) (s : Same B B') : Rp K B' v d := Rp.mono s d v h
theorem Rps.up {K : PySem.W.Frag} {B B' : Hp} {d : List Dv} {v : List V} (h : Rps K B v d) (s : Same B B') : Rps K B' v d := Rps.mono s d v h
theorem RpF.up {K : PySem.W.Frag} {B B' : Hp} {d : List (Str × Dv)} {v : List (Str × V)} (h : RpF K B v d) (s : Same B B') : RpF K B' v d := RpF.mono s d v h

theorem Rps.length {K : PySem.W.Frag} {B : Hp} : ∀ {vs : List V} {ds : List Dv}, Rps K B vs ds → vs.length = ds.length
  | _, _, .nil => rfl
  | _, _, .cons _ r => by simp [Rps.length r]
theorem Rps.get {K : PySem.W.Frag} {B : Hp} : ∀ {vs : List V} {ds : List Dv} {i : Nat} {d : Dv}, Rps K B vs ds → ds[i]? = some d → ∃ v, vs[i]? = some v ∧ Rp K B v d
  | _, _, _, _, .nil, e => by simp at e
  | _, _, 0, d, .cons (v := v) a r, e => by
    simp at e; subst e; exact ⟨v, rfl, a⟩
  | _, _, i + 1, d, .cons a r, e => by
    simp at e
    obtain ⟨v, h1, h2⟩ := Rps.get r e
    exact ⟨v, by simpa using h1, h2⟩
theorem Rps.getV {K : PySem.W.Frag} {B : Hp} : ∀ {vs : List V} {ds : List Dv} {i : Nat} {v : V}, Rps K B vs ds → vs[i]? = some v → ∃ d, ds[i]? = some d ∧ Rp K B v d
  | _, _, _, _, .nil, e => by simp at e
  | _, _, 0, d, .cons (d := w) a r, e => by
    simp at e; subst e; exact ⟨w, rfl, a⟩
  | _, _, i + 1, d, .cons a r, e => by
    simp at e
    obtain ⟨v, h1, h2⟩ := Rps.getV r e
    exact ⟨v, by simpa using h1, h2⟩
theorem Rps.append {K : PySem.W.Frag} {B : Hp} : ∀ {vs vs' : List V} {ds ds' : List Dv}, Rps K B vs ds → Rps K B vs' ds' → Rps K B (vs ++ vs') (ds ++ ds')
  | _, _, _, _, .nil, h => h
  | _, _, _, _, .cons a r, h => .cons a (Rps.append r h)
theorem Rps.take {K : PySem.W.Frag} {B : Hp} : ∀ {vs : List V} {ds : List Dv} (n : Nat), Rps K B vs ds → Rps K B (vs.take n) (ds.take n)
  | _, _, 0, _ => .nil
  | _, _, _ + 1, .nil => .nil
  | _, _, n + 1, .cons a r => .cons a (Rps.take n r)
theorem Rps.drop {K : PySem.W.Frag} {B : Hp} : ∀ {vs : List V} {ds : List Dv} (n : Nat), Rps K B vs ds → Rps K B (vs.drop n) (ds.drop n)
  | _, _, 0, h => h
  | _, _, _ + 1, .nil => .nil
  | _, _, n + 1, .cons a r => Rps.drop n r
theorem Rps.set {K : PySem.W.Frag} {B : Hp} {v : V} {d : Dv} (a : Rp K B v d) : ∀ {vs : List V} {ds : List Dv} (n : Nat), Rps K B vs ds → Rps K B (vs.set n v) (ds.set n d)
  | _, _, _, .nil => .nil
  | _, _, 0, .cons _ r => .cons a r
  | _, _, n + 1, .cons b r => .cons b (Rps.set a n r)
theorem Rps.flat {K : PySem.W.Frag} {B : Hp} {vs : List V} {ds : List Dv} (h : Rps K B vs ds) : ∀ n : Nat, Rps K B (List.replicate n vs).flatten (List.replicate n ds).flatten
  | 0 => .nil
  | n + 1 => by
    rw [List.replicate_succ, List.replicate_succ, List.flatten_cons, List.flatten_cons]
    exact h.append (Rps.flat h n)
theorem Rps.ints {K : PySem.W.Frag} {B : Hp} : ∀ ns : List Int, Rps K B (ns.map V.int) (ns.map Dv.int)
  | [] => .nil
  | n :: ns => .cons (.int n) (Rps.ints ns)
theorem Rps.all {K : PySem.W.Frag} {B : Hp} {f : V → Bool} {g : Dv → Bool} (hfg : ∀ v d, Rp K B v d → g d = true → f v = true) : ∀ {vs : List V} {ds : List Dv}, Rps K B vs ds → ds.all g = true → vs.all f = true
  | _, _, .nil, _ => rfl
  | _, _, .cons a r, h => by
    simp only [List.all_cons, Bool.and_eq_true] at h ⊢
    exact ⟨hfg _ _ a h.1, Rps.all hfg r h.2⟩

/-! ### what grows -/
structure Grow (B H B' H' : Hp) : Prop where
  h : Same H H'
  b : Same B B'
  s : Same B' H'
  n : ∀ a o, H a = some o → B' a = B a
theorem Grow.refl {B H : Hp} (s : Same B H) : Grow B H B H := ⟨Same.refl _, Same.refl _, s, fun _ _ _ => rfl⟩
theorem Grow.trans {B H B1 H1 B2 H2 : Hp} (x : Grow B H B1 H1) (y : Grow B1 H1 B2 H2) : Grow B H B2 H2 :=
  ⟨x.h.trans y.h, x.b.trans y.b, y.s, fun a o e => (y.n a o (x.h a o e)).trans (x.n a o e)⟩
theorem same_new {H : Hp} {p : Addr} {o : HO} (h : H p = none) : Same H (upd H p o) := fun b x e => by
  rw [upd_ne (ne_of_none e h)]
  exact e
/-- a new object, known -/
theorem Grow.new {B H : Hp} {p : Addr} {o : HO} (s : Same B H) (h : H p = none) : Grow B H (upd B p o) (upd H p o) :=
  ⟨same_new h, same_new (s.free h), fun b x e => by
    by_cases hb : b = p
    · subst hb; rw [upd_same] at e ⊢; exact e
    · rw [upd_ne hb] at e ⊢; exact s b x e, fun a o' e => upd_ne (ne_of_none e h)⟩
/-- a new object, not known -/
theorem Grow.newO {B H : Hp} {p : Addr} {o : HO} (s : Same B H) (h : H p = none) : Grow B H B (upd H p o) :=
  ⟨same_new h, Same.refl _, s.trans (same_new h), fun _ _ _ => rfl⟩

/-! ### slots -/
inductive Slot where
  | free | sh (d : Dv) | own (ds : List Dv) | dic (kvs : List (Int × Dv)) | slf (ad C : Addr) (fs : List (Str × Dv))

def OwnLike : Slot → Prop
  | .own _ | .dic _ | .slf _ _ _ => True
  | _ => False

def RpK (K : PySem.W.Frag) (B : Hp) : List (Key × V) → List (Int × Dv) → Prop := Paired fun p q => p.1 = Sum.inl q.1 ∧ Rp K B p.2 q.2

def SlotOk (K : PySem.W.Frag) (B H : Hp) (p : Addr) : Slot → Option V → Prop
  | .free, _ => True
  | .sh d, ov => ∃ v, ov = some v ∧ Rp K B v d
  | .own ds, ov => ov = some (.ref p) ∧ B p = none ∧ ∃ vs, H p = some (.lst vs) ∧ Rps K B vs ds
  | .dic kvs, ov => ov = some (.ref p) ∧ B p = none ∧ ∃ kvv, H p = some (.dK kvv) ∧ RpK K B kvv kvs
  | .slf ad C fs, ov => ov = some (.ref p) ∧ B p = none ∧ p = ad ∧ ∃ dx gs, H p = some (.ins C dx gs) ∧ RpF K B gs fs

structure FrOk (K : PySem.W.Frag) (B0 H0 B H : Hp) (G : List Slot) (sg : St) : Prop where
  g : Grow B0 H0 B H
  len : G.length = sg.length
  adr : ∃ al : Nat → Addr, (∀ i s, G[i]? = some s → OwnLike s → H0 (al i) = none) ∧
    (∀ i j s t, G[i]? = some s → G[j]? = some t → OwnLike s → OwnLike t → al i = al j → i = j) ∧
    ∀ i s, G[i]? = some s → ∃ ov, sg[i]? = some ov ∧ SlotOk K B H (al i) s ov

theorem RpK.up {K : PySem.W.Frag} {B B' : Hp} (s : Same B B') : ∀ {kvv : List (Key × V)} {kvs : List (Int × Dv)}, RpK K B kvv kvs → RpK K B' kvv kvs
  | _, _, .nil => .nil
  | _, _, .cons a r => .cons ⟨a.1, a.2.up s⟩ (RpK.up s r)

theorem SlotOk.mono {K : PySem.W.Frag} {B H B' H' : Hp} {p : Addr} (g : Grow B H B' H') : ∀ {s : Slot} {ov : Option V}, SlotOk K B H p s ov → SlotOk K B' H' p s ov
  | .free, _, _ => trivial
  | .sh d, _, ⟨v, e, r⟩ => ⟨v, e, r.up g.b⟩
  | .own ds, _, ⟨e, n, vs, h, r⟩ => ⟨e, (g.n _ _ h).trans n, vs, g.h _ _ h, r.up g.b⟩
  | .dic ds, _, ⟨e, n, vs, h, r⟩ => ⟨e, (g.n _ _ h).trans n, vs, g.h _ _ h, RpK.up g.b r⟩
  | .slf ad C fs, _, ⟨e, n, ea, dx, gs, h, r⟩ => ⟨e, (g.n _ _ h).trans n, ea, dx, gs, g.h _ _ h, r.up g.b⟩

theorem FrOk.mono {K : PySem.W.Frag} {B0 H0 B H B' H' : Hp} {G : List Slot} {sg : St} (f : FrOk K B0 H0 B H G sg) (g : Grow B H B' H') : FrOk K B0 H0 B' H' G sg := by
  obtain ⟨al, a1, a2, a3⟩ := f.adr
  refine ⟨f.g.trans g, f.len, al, a1, a2, fun i s e => ?_⟩
  obtain ⟨ov, h1, h2⟩ := a3 i s e
  exact ⟨ov, h1, h2.mono g⟩
theorem FrOk.sub {K : PySem.W.Frag} {B0 H0 B H : Hp} {G : List Slot} {sg : St} (f : FrOk K B0 H0 B H G sg) : Same B H := f.g.s
theorem FrOk.grow {K : PySem.W.Frag} {B0 H0 B H : Hp} {G : List Slot} {sg : St} (f : FrOk K B0 H0 B H G sg) : Grow B H B H := Grow.refl f.g.s

/-- an object's address, of a slot -/
theorem SlotOk.at {K : PySem.W.Frag} {B H : Hp} {p : Addr} : ∀ {s : Slot} {ov : Option V}, SlotOk K B H p s ov → OwnLike s → ∃ o, H p = some o ∧ B p = none
  | .own ds, _, ⟨e, n, vs, h, r⟩, _ => ⟨_, h, n⟩
  | .dic ds, _, ⟨e, n, vs, h, r⟩, _ => ⟨_, h, n⟩
  | .slf ad C fs, _, ⟨e, n, ea, dx, gs, h, r⟩, _ => ⟨_, h, n⟩
/-- a slot at p while another address is written -/
theorem SlotOk.away {K : PySem.W.Frag} {B H : Hp} {p q : Addr} {o : HO} (hq : OwnLike s → p ≠ q) : ∀ {ov : Option V}, SlotOk K B H p s ov → SlotOk K B (upd H q o) p s ov := by
  intro ov h
  cases s with
  | free => trivial
  | sh d => exact h
  | own ds =>
    obtain ⟨e, n, vs, h, r⟩ := h
    exact ⟨e, n, vs, by rw [upd_ne (hq trivial)]; exact h, r⟩
  | dic ds =>
    obtain ⟨e, n, vs, h, r⟩ := h
    exact ⟨e, n, vs, by rw [upd_ne (hq trivial)]; exact h, r⟩
  | slf ad C fs =>
    obtain ⟨e, n, ea, dx, gs, h, r⟩ := h
    exact ⟨e, n, ea, dx, gs, by rw [upd_ne (hq trivial)]; exact h, r⟩

section
variable {K : PySem.W.Frag} {B0 H0 B H B' H' : Hp} {G : List Slot} {sg : St}
theorem FrOk.get (f : FrOk K B0 H0 B H G sg) {i : Nat} {d : Dv} (h : G[i]? = some (.sh d)) : ∃ v, sg[i]? = some (some v) ∧ Rp K B v d := by
  obtain ⟨al, a1, a2, a3⟩ := f.adr
  obtain ⟨ov, h1, v, rfl, h2⟩ := a3 i _ h
  exact ⟨v, h1, h2⟩
/-- a list of one's own in slot i: where it stands, and what its change leaves -/
theorem FrOk.own (f : FrOk K B0 H0 B H G sg) {i : Nat} {ds : List Dv} (h : G[i]? = some (.own ds)) : ∃ p vs, sg[i]? = some (some (.ref p)) ∧ H p = some (.lst vs) ∧ B p = none ∧ Rps K B vs ds ∧
    (∀ vs' ds', Rps K B vs' ds' → FrOk K B0 H0 B (upd H p (.lst vs')) (G.set i (.own ds')) sg) ∧
    FrOk K B0 H0 (upd B p (.lst vs)) H (G.set i (.sh (.lst ds))) sg ∧ Same B (upd B p (.lst vs)) ∧ Same (upd B p (.lst vs)) H := by
  obtain ⟨al, a1, a2, a3⟩ := f.adr
  obtain ⟨ov, h1, rfl, n, vs, hp, r⟩ := a3 i _ h
  have h0 : H0 (al i) = none := a1 i _ h trivial
  have hi : i < G.length := (List.getElem?_eq_some_iff.mp h).1
  have sB : Same B (upd B (al i) (.lst vs)) := same_new n
  have sH : Same (upd B (al i) (.lst vs)) H := fun b o e => by
    by_cases hb : b = al i
    · rw [hb, upd_same] at e
      rw [hb, hp]
      exact e
    · rw [upd_ne hb] at e
      exact f.sub b o e
  refine ⟨al i, vs, h1, hp, n, r, fun vs' ds' r' => ⟨⟨?_, f.g.b, ?_, f.g.n⟩, by rw [List.length_set]; exact f.len, al, ?_, ?_, ?_⟩, ⟨⟨f.g.h, f.g.b.trans sB, sH, ?_⟩, by rw [List.length_set]; exact f.len, al, ?_, ?_, ?_⟩, sB, sH⟩
  · intro b o e
    rw [upd_ne (ne_of_none e h0)]
    exact f.g.h b o e
  · intro b o e
    rw [upd_ne (ne_of_none e n)]
    exact f.sub b o e
  · intro j s e os
    by_cases hj : j = i
    · subst hj; exact h0
    · rw [List.getElem?_set_ne (Ne.symm hj)] at e
      exact a1 j s e os
  · intro j k s t e1 e2 o1 o2 ea
    have u : ∀ j s, (G.set i (.own ds'))[j]? = some s → OwnLike s → ∃ s', G[j]? = some s' ∧ OwnLike s' := fun j s e o => by
      by_cases hj : j = i
      · subst hj; exact ⟨_, h, trivial⟩
      · rw [List.getElem?_set_ne (Ne.symm hj)] at e
        exact ⟨s, e, o⟩
    obtain ⟨s1, f1, g1⟩ := u j s e1 o1
    obtain ⟨s2, f2, g2⟩ := u k t e2 o2
    exact a2 j k s1 s2 f1 f2 g1 g2 ea
  · intro j s e
    by_cases hj : j = i
    · subst hj
      rw [List.getElem?_set_self hi] at e
      cases e
      exact ⟨_, h1, rfl, n, vs', upd_same, r'⟩
    · rw [List.getElem?_set_ne (Ne.symm hj)] at e
      obtain ⟨ov, k1, k2⟩ := a3 j s e
      exact ⟨ov, k1, k2.away fun os ea => hj (a2 j i s _ e h os trivial ea)⟩
  · intro a o e
    rw [upd_ne (ne_of_none e h0)]
    exact f.g.n a o e
  · intro j s e os
    by_cases hj : j = i
    · subst hj
      rw [List.getElem?_set_self hi] at e
      cases e
      exact os.elim
    · rw [List.getElem?_set_ne (Ne.symm hj)] at e
      exact a1 j s e os
  · intro j k s t e1 e2 o1 o2 ea
    have u : ∀ j s, (G.set i (.sh (.lst ds)))[j]? = some s → OwnLike s → G[j]? = some s := fun j s e o => by
      by_cases hj : j = i
      · subst hj
        rw [List.getElem?_set_self hi] at e
        cases e
        exact o.elim
      · rw [List.getElem?_set_ne (Ne.symm hj)] at e
        exact e
    exact a2 j k s t (u j s e1 o1) (u k t e2 o2) o1 o2 ea
  · intro j s e
    by_cases hj : j = i
    · subst hj
      rw [List.getElem?_set_self hi] at e
      cases e
      exact ⟨_, h1, _, rfl, .lst upd_same (r.up sB)⟩
    · rw [List.getElem?_set_ne (Ne.symm hj)] at e
      obtain ⟨ov, k1, k2⟩ := a3 j s e
      refine ⟨ov, k1, ?_⟩
      cases s with
      | free => trivial
      | sh d =>
        obtain ⟨v, e, r⟩ := k2
        exact ⟨v, e, r.up sB⟩
      | own ds =>
        obtain ⟨e', n', vs', h', r'⟩ := k2
        exact ⟨e', by rw [upd_ne fun ea => hj (a2 j i _ _ e h trivial trivial ea)]; exact n', vs', h', r'.up sB⟩
      | dic ds =>
        obtain ⟨e', n', vs', h', r'⟩ := k2
        exact ⟨e', by rw [upd_ne fun ea => hj (a2 j i _ _ e h trivial trivial ea)]; exact n', vs', h', RpK.up sB r'⟩
      | slf ad C fs =>
        obtain ⟨e', n', ea', dx, gs, h', r'⟩ := k2
        exact ⟨e', by rw [upd_ne fun ea => hj (a2 j i _ _ e h trivial trivial ea)]; exact n', ea', dx, gs, h', r'.up sB⟩
/-- any value into slot i -/
theorem FrOk.setG (f : FrOk K B0 H0 B H G sg) {i : Nat} {v : V} {p : Addr} {s : Slot} (hs : SlotOk K B H p s (some v)) (hp : OwnLike s → H0 p = none ∧ ∀ j t, j ≠ i → G[j]? = some t → OwnLike t → ∀ q, sg[j]? = some (some (V.ref q)) → q ≠ p) :
    FrOk K B0 H0 B H (G.set i s) (sg.set i (some v)) := by
  obtain ⟨al, a1, a2, a3⟩ := f.adr
  have al_eq : ∀ j t, G[j]? = some t → OwnLike t → sg[j]? = some (some (V.ref (al j))) := fun j t e o => by
    obtain ⟨ov, h1, h2⟩ := a3 j t e
    cases t with
    | free => exact o.elim
    | sh d => exact o.elim
    | own ds => obtain ⟨rfl, _⟩ := h2; exact h1
    | dic ds => obtain ⟨rfl, _⟩ := h2; exact h1
    | slf ad C fs => obtain ⟨rfl, _⟩ := h2; exact h1
  by_cases hi : i < G.length
  · have hi' : i < sg.length := f.len ▸ hi
    obtain ⟨al', q1, q2⟩ : ∃ al' : Nat → Addr, al' i = p ∧ ∀ j, j ≠ i → al' j = al j := ⟨fun j => if j = i then p else al j, if_pos rfl, fun j hj => if_neg hj⟩
    refine ⟨f.g, by rw [List.length_set, List.length_set]; exact f.len, al', ?_, ?_, ?_⟩
    · intro j t e o
      by_cases hj : j = i
      · subst hj
        rw [List.getElem?_set_self hi] at e
        cases e
        rw [q1]
        exact (hp o).1
      · rw [List.getElem?_set_ne (Ne.symm hj)] at e
        rw [q2 j hj]
        exact a1 j t e o
    · intro j k t u e1 e2 o1 o2 ea
      by_cases hj : j = i
      · by_cases hk : k = i
        · rw [hj, hk]
        · rw [hj, List.getElem?_set_self hi] at e1
          cases e1
          rw [List.getElem?_set_ne (Ne.symm hk)] at e2
          rw [hj, q1, q2 k hk] at ea
          exact absurd ea.symm ((hp o1).2 k u hk e2 o2 _ (al_eq k u e2 o2))
      · rw [List.getElem?_set_ne (Ne.symm hj)] at e1
        by_cases hk : k = i
        · rw [hk, List.getElem?_set_self hi] at e2
          cases e2
          rw [q2 j hj, hk, q1] at ea
          exact absurd ea ((hp o2).2 j t hj e1 o1 _ (al_eq j t e1 o1))
        · rw [List.getElem?_set_ne (Ne.symm hk)] at e2
          rw [q2 j hj, q2 k hk] at ea
          exact a2 j k t u e1 e2 o1 o2 ea
    · intro j t e
      by_cases hj : j = i
      · subst hj
        rw [List.getElem?_set_self hi] at e
        cases e
        rw [q1]
        exact ⟨_, List.getElem?_set_self hi', hs⟩
      · rw [List.getElem?_set_ne (Ne.symm hj)] at e
        rw [q2 j hj, List.getElem?_set_ne (Ne.symm hj)]
        exact a3 j t e
  · have hi' : ¬ i < sg.length := fun h => hi (f.len ▸ h)
    rw [List.set_eq_of_length_le (Nat.le_of_not_lt hi), List.set_eq_of_length_le (Nat.le_of_not_lt hi')]
    exact f
theorem FrOk.setS (f : FrOk K B0 H0 B H G sg) {i : Nat} {v : V} {d : Dv} (hs : Rp K B v d) : FrOk K B0 H0 B H (G.set i (.sh d)) (sg.set i (some v)) :=
  f.setG (p := 0) (s := .sh d) ⟨v, rfl, hs⟩ fun o => o.elim
/-- a new list into slot i: H p = none ahead -/
theorem FrOk.setO (f : FrOk K B0 H0 B H G sg) {i : Nat} {p : Addr} {s : Slot} (g : Grow B H B' H') (hp : H p = none) (hs : SlotOk K B' H' p s (some (.ref p))) : FrOk K B0 H0 B' H' (G.set i s) (sg.set i (some (.ref p))) := by
  refine (f.mono g).setG hs fun o => ⟨f.g.h.free hp, fun j t hj e ot q eq => ?_⟩
  obtain ⟨al, a1, a2, a3⟩ := f.adr
  obtain ⟨ov, h1, h2⟩ := a3 j t e
  obtain ⟨o', h3, _⟩ := h2.at ot
  have : q = al j := by
    rw [h1] at eq
    cases t with
    | free => exact ot.elim
    | sh d => exact ot.elim
    | own ds => obtain ⟨rfl, _⟩ := h2; cases eq; rfl
    | dic ds => obtain ⟨rfl, _⟩ := h2; cases eq; rfl
    | slf ad C fs => obtain ⟨rfl, _⟩ := h2; cases eq; rfl
  rw [this]
  exact ne_of_none h3 hp
/-- slots forgotten -/
inductive Less : List Slot → List Slot → Prop
  | nil : Less [] []
  | free {s : Slot} {G G' : List Slot} : Less G G' → Less (.free :: G) (s :: G')
  | cons {s : Slot} {G G' : List Slot} : Less G G' → Less (s :: G) (s :: G')
theorem Less.refl : ∀ G : List Slot, Less G G
  | [] => .nil
  | _ :: r => .cons (Less.refl r)
theorem Less.get : ∀ {G G' : List Slot}, Less G G' → ∀ {i : Nat} {s : Slot}, G[i]? = some s → s = .free ∧ (∃ t, G'[i]? = some t) ∨ G'[i]? = some s
  | _, _, .nil, i, s, e => by simp at e
  | _, _, .free r, 0, s, e => by simp at e; exact .inl ⟨e.symm, _, rfl⟩
  | _, _, .free r, i + 1, s, e => by simpa using Less.get r (by simpa using e)
  | _, _, .cons r, 0, s, e => by simp at e; subst e; exact .inr rfl
  | _, _, .cons r, i + 1, s, e => by simpa using Less.get r (by simpa using e)
theorem Less.length : ∀ {G G' : List Slot}, Less G G' → G.length = G'.length
  | _, _, .nil => rfl
  | _, _, .free r => by simp [Less.length r]
  | _, _, .cons r => by simp [Less.length r]
theorem FrOk.less {G' : List Slot} (f : FrOk K B0 H0 B H G sg) (l : Less G' G) : FrOk K B0 H0 B H G' sg := by
  obtain ⟨al, a1, a2, a3⟩ := f.adr
  have u : ∀ i s, G'[i]? = some s → OwnLike s → G[i]? = some s := fun i s e o => by
    rcases l.get e with ⟨rfl, _⟩ | h
    · exact o.elim
    · exact h
  refine ⟨f.g, l.length.trans f.len, al, fun i s e o => a1 i s (u i s e o) o, fun i j s t e1 e2 o1 o2 ea => a2 i j s t (u i s e1 o1) (u j t e2 o2) o1 o2 ea, fun i s e => ?_⟩
  rcases l.get e with ⟨rfl, t, h⟩ | h
  · obtain ⟨ov, h1, _⟩ := a3 i t h
    exact ⟨ov, h1, trivial⟩
  · exact a3 i s h
end
end DT

set_option Elab.async false
set_option linter.all false
set_option maxRecDepth 100000
namespace DT
open PySem PySem.Spec L2
open PyProof.Rows hiding St

/-! ### the readings that ask the whole -/
def wpE (X : Cx) (e : Expr) : TE := fun sg H Q => ∀ pins s, Inv X pins sg H s → wpAny (model X.prog X.w) X.A (eval e X.env) (EP X pins sg Q) X.xe s
def wpT (X : Cx) (e : Expr) : TT := fun sg H Q => ∀ pins s, Inv X pins sg H s → wpAny (model X.prog X.w) X.A (isTrue e X.env (eval e X.env)) (TP X pins sg Q) X.xe s
def wpW (X : Cx) (e : Expr) : TT := fun sg H Q => ∀ whole pins s, Inv X pins sg H s → wpAny (model X.prog X.w) X.A (isTrue e X.env whole) (TP X pins sg Q) X.xe s
def wpA (X : Cx) (es : List Expr) : TA := fun sg H Q => ∀ pos pins s, Inv X pins sg H s → wpAny (model X.prog X.w) X.A (spliced (backTo pos (starEach es X.env))) (AP X pins sg Q) X.xe s
def wpS (X : Cx) (st : Stmt) : TS := fun D sg H => ∀ pins s, Inv X pins sg H s → wpAny (model X.prog X.w) X.A (exec st X.env) (SP X pins D) X.xe s
def wpSs (X : Cx) (st : List Stmt) : TS := fun D sg H => ∀ pins s, Inv X pins sg H s → wpAny (model X.prog X.w) X.A (execs st X.env) (SP X pins D) X.xe s
section
variable {X : Cx} {e : Expr} {es : List Expr} {st : Stmt} {sts : List Stmt}
theorem pe_w : PE X e (wpE X e) := ⟨fun pins s _ _ _ I h => h pins s I⟩
theorem pt_w : PT X e (wpT X e) := ⟨fun pins s _ _ _ I h => h pins s I⟩
theorem pw_w : PW X e (wpW X e) := ⟨fun wh pins s _ _ _ I h => h wh pins s I⟩
theorem pa_w : PA X es (wpA X es) := ⟨fun pos pins s _ _ _ I h => h pos pins s I⟩
theorem ps_w : PS X st (wpS X st) := ⟨fun pins s _ _ _ I h => h pins s I⟩
theorem pss_w : PSs X sts (wpSs X sts) := ⟨fun pins s _ _ _ I h => h pins s I⟩
theorem PE.w {t : TE} (h : PE X e t) {sg : St} {H : Hp} {Q : VK} (q : t sg H Q) : wpE X e sg H Q := fun pins s I => h.run pins s sg H Q I q
theorem PT.w {t : TT} (h : PT X e t) {sg : St} {H : Hp} {Q : Bool → Hp → Prop} (q : t sg H Q) : wpT X e sg H Q := fun pins s I => h.run pins s sg H Q I q
theorem PW.w {t : TT} (h : PW X e t) {sg : St} {H : Hp} {Q : Bool → Hp → Prop} (q : t sg H Q) : wpW X e sg H Q := fun wh pins s I => h.run wh pins s sg H Q I q
theorem PA.w {t : TA} (h : PA X es t) {sg : St} {H : Hp} {Q : List V → Hp → Prop} (q : t sg H Q) : wpA X es sg H Q := fun pos pins s I => h.run pos pins s sg H Q I q
theorem PS.w {t : TS} (h : PS X st t) {sg : St} {H : Hp} {D : Ends} (q : t D sg H) : wpS X st D sg H := fun pins s I => h.run pins s sg H D I q
theorem PSs.w {t : TS} (h : PSs X sts t) {sg : St} {H : Hp} {D : Ends} (q : t D sg H) : wpSs X sts D sg H := fun pins s I => h.run pins s sg H D I q
end

/-! ### judgements over data -/
/-- e has the value d -/
def EvD (X : Cx) (G : List Slot) (e : Expr) (d : Dv) : Prop := ∀ B0 H0 B H sg (Q : VK), FrOk X.K B0 H0 B H G sg → (∀ v B' H', Grow B H B' H' → Rp X.K B' v d → Q v H') → wpE X e sg H Q
/-- e has a new list as its value -/
def EvN (X : Cx) (G : List Slot) (e : Expr) (ds : List Dv) : Prop := ∀ B0 H0 B H sg (Q : VK), FrOk X.K B0 H0 B H G sg →
  (∀ p vs B' H', Grow B H B' H' → H p = none → B' p = none → H' p = some (.lst vs) → Rps X.K B' vs ds → Q (.ref p) H') → wpE X e sg H Q
/-- e's value is a list that may be read (one's own, or known) -/
def EvP (X : Cx) (G : List Slot) (e : Expr) (ds : List Dv) : Prop := ∀ B0 H0 B H sg (Q : VK), FrOk X.K B0 H0 B H G sg →
  (∀ p vs B' H', Grow B H B' H' → H' p = some (.lst vs) → Rps X.K B' vs ds → Q (.ref p) H') → wpE X e sg H Q
/-- a test, as a value and as a test -/
structure EvB (X : Cx) (G : List Slot) (e : Expr) (c : Bool) : Prop where
  v : EvD X G e (.bl c)
  t : ∀ B0 H0 B H sg (Q : Bool → Hp → Prop), FrOk X.K B0 H0 B H G sg → (∀ B' H', Grow B H B' H' → Q c H') → wpT X e sg H Q
structure EvW (X : Cx) (G : List Slot) (e : Expr) (c : Bool) : Prop where
  v : EvD X G e (.bl c)
  t : ∀ B0 H0 B H sg (Q : Bool → Hp → Prop), FrOk X.K B0 H0 B H G sg → (∀ B' H', Grow B H B' H' → Q c H') → wpW X e sg H Q
def EvA (X : Cx) (G : List Slot) (es : List Expr) (ds : List Dv) : Prop := ∀ B0 H0 B H sg (Q : List V → Hp → Prop), FrOk X.K B0 H0 B H G sg → (∀ vs B' H', Grow B H B' H' → Rps X.K B' vs ds → Q vs H') → wpA X es sg H Q

section
variable {X : Cx} {G : List Slot} {a b c e o : Expr} {es rest : List Expr} {pos p p2 : Pos} {d d1 d2 d3 : Dv} {ds ds1 ds2 : List Dv}
theorem ev_is (h : EvD X G e d) (q : d = d1) : EvD X G e d1 := q ▸ h
theorem eb_is {c c' : Bool} (h : EvB X G e c) (q : c = c') : EvB X G e c' := q ▸ h
theorem en_is (h : EvN X G e ds) (q : ds = ds1) : EvN X G e ds1 := q ▸ h
theorem en_d (h : EvN X G e ds) : EvD X G e (.lst ds) := fun B0 H0 B H sg Q f q => h B0 H0 B H sg Q f fun p vs B' H' g hp bp hv r => by
  refine q (.ref p) (upd B' p (.lst vs)) H' ⟨g.h, g.b.trans (same_new bp), ?_, ?_⟩ (.lst upd_same (r.up (same_new bp)))
  · intro x o e
    by_cases hx : x = p
    · rw [hx, upd_same] at e; rw [hx, hv]; exact e
    · rw [upd_ne hx] at e; exact g.s x o e
  · intro x o e
    rw [upd_ne (ne_of_none e hp)]
    exact g.n x o e
theorem en_p (h : EvN X G e ds) : EvP X G e ds := fun B0 H0 B H sg Q f q => h B0 H0 B H sg Q f fun p vs B' H' g hp bp hv r => q p vs B' H' g hv r
theorem ev_p (h : EvD X G e (.lst ds)) : EvP X G e ds := fun B0 H0 B H sg Q f q => h B0 H0 B H sg Q f fun v B' H' g r => by
  cases r with
  | lst e r => exact q _ _ B' H' g (g.s _ _ e) r

/-! ### names, constants -/
theorem ev_var {x : Str} (i : Nat) (hN : X.N[i]? = some x) (hv : Vis X.env.scope x) (hG : G[i]? = some (.sh d)) (hd : (x == ("__debug__" : Str)) = false) (hcd : (x == ("__classdict__" : Str)) = false) : EvD X G (.Name x pos) d :=
  fun B0 H0 B H sg Q f q => by
    obtain ⟨v, e, r⟩ := f.get hG
    exact PE.w (pe_var hN hv hd hcd) ⟨v, e, q v B H f.grow r⟩
theorem ep_own {x : Str} (i : Nat) (hN : X.N[i]? = some x) (hv : Vis X.env.scope x) (hG : G[i]? = some (.own ds)) (hd : (x == ("__debug__" : Str)) = false) (hcd : (x == ("__classdict__" : Str)) = false) : EvP X G (.Name x pos) ds :=
  fun B0 H0 B H sg Q f q => by
    obtain ⟨p, vs, e, hp, bp, r, _⟩ := f.own hG
    exact PE.w (pe_var hN hv hd hcd) ⟨.ref p, e, q p vs B H f.grow hp r⟩
theorem ev_int {i : Int} {j : Nat} : EvD X G (.Constant (.int i) j pos) (.int i) := fun _ _ B H _ _ f q => PE.w pe_int (q _ B H f.grow (.int _))
theorem ev_bl {i : Bool} {j : Nat} : EvD X G (.Constant (.bool i) j pos) (.bl i) := fun _ _ B H _ _ f q => PE.w pe_bl (q _ B H f.grow (.bl _))
theorem ev_str {i : Str} {j : Nat} : EvD X G (.Constant (.str i) j pos) (.str i) := fun _ _ B H _ _ f q => PE.w pe_str (q _ B H f.grow (.str _))
theorem ev_non {j : Nat} : EvD X G (.Constant .none j pos) .non := fun _ _ B H _ _ f q => PE.w pe_non (q _ B H f.grow .non)
theorem ev_globS {x : Str} {z : Str} {t : Tok} (hg : Gl X x) (hm : X.mg x = some (.str z t)) (hd : (x == ("__debug__" : Str)) = false := by decide) : EvD X G (.Name x pos) (.str z) :=
  fun _ _ B H _ _ f q => PE.w (pe_glob (v := .str z) hg hm ⟨_, rfl⟩ hd) (q _ B H f.grow (.str _))

/-! ### arguments -/
theorem ea_nil : EvA X G [] [] := fun _ _ B H _ _ f q => PA.w pa_nil (q [] B H f.grow .nil)
theorem ea_cons (h : EvD X G e d) (hr : EvA X G es ds) (he : starEach (e :: es) X.env = (false, eval e X.env) :: starEach es X.env := by rfl) : EvA X G (e :: es) (d :: ds) := fun B0 H0 B H sg Q f q =>
  PA.w (pa_cons pe_w pa_w he) (h B0 H0 B H sg _ f fun v B1 H1 g1 r1 => hr B0 H0 B1 H1 sg _ (f.mono g1) fun vs B2 H2 g2 r2 => q _ B2 H2 (g1.trans g2) (.cons (r1.up g2.b) r2))

/-! ### operations -/
theorem ev_bin {op : Operator} {r : R2} (ho : OpR X (binaryOp op) r) (ha : EvD X G a d1) (hb : EvD X G b d2)
    (hr : ∀ B H v w (Q : VK), Same B H → Rp X.K B v d1 → Rp X.K B w d2 → (∀ z B' H', Grow B H B' H' → Rp X.K B' z d → Q z H') → r v w H Q) : EvD X G (.BinOp a op b pos) d := fun B0 H0 B H sg Q f q =>
  PE.w (pe_op ho pe_w pe_w) (ha B0 H0 B H sg _ f fun v B1 H1 g1 r1 => hb B0 H0 B1 H1 sg _ (f.mono g1) fun w B2 H2 g2 r2 =>
    hr B2 H2 v w Q g2.s (r1.up g2.b) r2 fun z B3 H3 g3 r3 => q z B3 H3 ((g1.trans g2).trans g3) r3)
theorem ev_add {i j : Int} (ha : EvD X G a (.int i)) (hb : EvD X G b (.int j)) : EvD X G (.BinOp a .Add b pos) (.int (i + j)) :=
  ev_bin op_add ha hb fun B H v w Q s r1 r2 q => by cases r1; cases r2; exact ⟨i, j, rfl, rfl, q _ _ _ (Grow.refl s) (.int _)⟩
theorem ev_sub {i j : Int} (ha : EvD X G a (.int i)) (hb : EvD X G b (.int j)) : EvD X G (.BinOp a .Sub b pos) (.int (i - j)) :=
  ev_bin op_sub ha hb fun B H v w Q s r1 r2 q => by cases r1; cases r2; exact ⟨i, j, rfl, rfl, q _ _ _ (Grow.refl s) (.int _)⟩
theorem ev_mul {i j : Int} (ha : EvD X G a (.int i)) (hb : EvD X G b (.int j)) (hc : CMul i j) : EvD X G (.BinOp a .Mult b pos) (.int (i * j)) :=
  ev_bin op_mul ha hb fun B H v w Q s r1 r2 q => by cases r1; cases r2; exact ⟨i, j, rfl, rfl, hc, q _ _ _ (Grow.refl s) (.int _)⟩
theorem ev_mod {i j : Int} (ha : EvD X G a (.int i)) (hb : EvD X G b (.int j)) (hc : 0 < j) : EvD X G (.BinOp a .Mod b pos) (.int (i % j)) :=
  ev_bin op_modN ha hb fun B H v w Q s r1 r2 q => by
    cases r1; cases r2
    refine ⟨i, j, rfl, rfl, by omega, ?_⟩
    show Q (.int (i.fmod j)) H
    rw [Int.fmod_eq_emod_of_nonneg i (Int.le_of_lt hc)]
    exact q _ _ _ (Grow.refl s) (.int _)
theorem ev_fdiv {i j : Int} (ha : EvD X G a (.int i)) (hb : EvD X G b (.int j)) (hc : CDivW i j) : EvD X G (.BinOp a .FloorDiv b pos) (.int (i / j)) :=
  ev_bin op_fdivW ha hb fun B H v w Q s r1 r2 q => by cases r1; cases r2; exact ⟨i, j, rfl, rfl, hc, q _ _ _ (Grow.refl s) (.int _)⟩
theorem ev_pow {i j : Int} (ha : EvD X G a (.int i)) (hb : EvD X G b (.int j)) (hc : CPow i j) : EvD X G (.BinOp a .Pow b pos) (.int (i ^ j.toNat)) :=
  ev_bin op_pow ha hb fun B H v w Q s r1 r2 q => by cases r1; cases r2; exact ⟨i, j, rfl, rfl, hc, q _ _ _ (Grow.refl s) (.int _)⟩
theorem ev_addS {i j : Str} (ha : EvD X G a (.str i)) (hb : EvD X G b (.str j)) (hc : i.length + j.length ≤ sizeLine) : EvD X G (.BinOp a .Add b pos) (.str (i ++ j)) :=
  ev_bin op_add_str ha hb fun B H v w Q s r1 r2 q => by cases r1; cases r2; exact ⟨i, j, rfl, rfl, hc, q _ _ _ (Grow.refl s) (.str _)⟩
theorem en_cat (ha : EvP X G a ds1) (hb : EvP X G b ds2) (hc : ds1.length + ds2.length ≤ sizeLine) : EvN X G (.BinOp a .Add b pos) (ds1 ++ ds2) := fun B0 H0 B H sg Q f q =>
  PE.w (pe_op op_cat pe_w pe_w) (ha B0 H0 B H sg _ f fun l vs B1 H1 g1 h1 r1 => hb B0 H0 B1 H1 sg _ (f.mono g1) fun m ws B2 H2 g2 h2 r2 =>
    ⟨l, m, vs, ws, rfl, rfl, g2.h _ _ h1, h2, by rw [r1.length, r2.length]; exact hc, fun p hp => q p _ B2 _ ((g1.trans g2).trans (Grow.newO g2.s hp)) ((g1.trans g2).h.free hp) (g2.s.free hp) upd_same ((r1.up g2.b).append r2)⟩)
theorem en_rep {k : Int} (ha : EvP X G a ds) (hb : EvD X G b (.int k)) (hc : -(2 ^ 63) ≤ k ∧ k < 2 ^ 63 ∧ ds.length * k.toNat ≤ sizeLine) : EvN X G (.BinOp a .Mult b pos) (List.replicate k.toNat ds).flatten := fun B0 H0 B H sg Q f q =>
  PE.w (pe_op op_rep pe_w pe_w) (ha B0 H0 B H sg _ f fun l vs B1 H1 g1 h1 r1 => hb B0 H0 B1 H1 sg _ (f.mono g1) fun m B2 H2 g2 r2 => by
    cases r2
    exact ⟨l, k, vs, rfl, rfl, g2.h _ _ h1, hc.1, hc.2.1, by rw [r1.length]; exact hc.2.2, fun p hp => q p _ B2 _ ((g1.trans g2).trans (Grow.newO g2.s hp)) ((g1.trans g2).h.free hp) (g2.s.free hp) upd_same ((r1.up g2.b).flat _)⟩)
theorem ev_neg {i : Int} (ha : EvD X G a (.int i)) : EvD X G (.UnaryOp .USub a pos) (.int (-i)) := fun B0 H0 B H sg Q f q =>
  PE.w (pe_un un_neg pe_w) (ha B0 H0 B H sg _ f fun v B1 H1 g1 r1 => by cases r1; exact ⟨i, rfl, q _ _ _ g1 (.int _)⟩)

/-! ### tests -/
theorem eb_val {c : Bool} (h : EvD X G e (.bl c)) (he : ∀ whole, isTrue e X.env whole = (do let v ← whole; standAt e.pos; holding [v] (truthy v)) := by intro _; rfl) : EvB X G e c :=
  ⟨h, fun B0 H0 B H sg Q f q => PT.w (pt_val pe_w he) (h B0 H0 B H sg _ f fun v B1 H1 g1 r1 => by cases r1; exact ⟨c, rfl, q B1 H1 g1⟩)⟩
theorem eb_cmp {op : CmpOp} {r : R2} {c : Bool} (ho : OpR X (compareOp op) r) (ha : EvD X G a d1) (hb : EvD X G b d2)
    (hr : ∀ B H v w (Q : VK), Same B H → Rp X.K B v d1 → Rp X.K B w d2 → Q (.bl c) H → r v w H Q) (hm : behindInMarks op b = false) : EvB X G (.Compare a [op] [b] pos) c :=
  ⟨fun B0 H0 B H sg Q f q => PE.w (pe_cmpR ho pe_w pe_w hm) (ha B0 H0 B H sg _ f fun v B1 H1 g1 r1 => hb B0 H0 B1 H1 sg _ (f.mono g1) fun w B2 H2 g2 r2 =>
      hr B2 H2 v w Q g2.s (r1.up g2.b) r2 (q _ B2 H2 (g1.trans g2) (.bl c))),
   fun B0 H0 B H sg Q f q => PT.w (pt_cmpR ho pe_w pe_w hm) (ha B0 H0 B H sg _ f fun v B1 H1 g1 r1 => hb B0 H0 B1 H1 sg _ (f.mono g1) fun w B2 H2 g2 r2 =>
      hr B2 H2 v w _ g2.s (r1.up g2.b) r2 ⟨c, rfl, q B2 H2 (g1.trans g2)⟩)⟩
/-- the second operand a list that is read -/
theorem eb_cmpP {op : CmpOp} {r : R2} {c : Bool} (ho : OpR X (compareOp op) r) (ha : EvD X G a d1) (hb : EvP X G b ds)
    (hr : ∀ B H v l ws (Q : VK), Same B H → Rp X.K B v d1 → H l = some (.lst ws) → Rps X.K B ws ds → Q (.bl c) H → r v (.ref l) H Q) (hm : behindInMarks op b = false) : EvB X G (.Compare a [op] [b] pos) c :=
  ⟨fun B0 H0 B H sg Q f q => PE.w (pe_cmpR ho pe_w pe_w hm) (ha B0 H0 B H sg _ f fun v B1 H1 g1 r1 => hb B0 H0 B1 H1 sg _ (f.mono g1) fun l ws B2 H2 g2 h2 r2 =>
      hr B2 H2 v l ws Q g2.s (r1.up g2.b) h2 r2 (q _ B2 H2 (g1.trans g2) (.bl c))),
   fun B0 H0 B H sg Q f q => PT.w (pt_cmpR ho pe_w pe_w hm) (ha B0 H0 B H sg _ f fun v B1 H1 g1 r1 => hb B0 H0 B1 H1 sg _ (f.mono g1) fun l ws B2 H2 g2 h2 r2 =>
      hr B2 H2 v l ws _ g2.s (r1.up g2.b) h2 r2 ⟨c, rfl, q B2 H2 (g1.trans g2)⟩)⟩
/-- both operands lists that are read -/
theorem eb_cmpPP {op : CmpOp} {r : R2} {c : Bool} (ho : OpR X (compareOp op) r) (ha : EvP X G a ds1) (hb : EvP X G b ds2)
    (hr : ∀ B H m us l ws (Q : VK), Same B H → H m = some (.lst us) → Rps X.K B us ds1 → H l = some (.lst ws) → Rps X.K B ws ds2 → Q (.bl c) H → r (.ref m) (.ref l) H Q) (hm : behindInMarks op b = false) : EvB X G (.Compare a [op] [b] pos) c :=
  ⟨fun B0 H0 B H sg Q f q => PE.w (pe_cmpR ho pe_w pe_w hm) (ha B0 H0 B H sg _ f fun m us B1 H1 g1 h1 r1 => hb B0 H0 B1 H1 sg _ (f.mono g1) fun l ws B2 H2 g2 h2 r2 =>
      hr B2 H2 m us l ws Q g2.s (g2.h _ _ h1) (r1.up g2.b) h2 r2 (q _ B2 H2 (g1.trans g2) (.bl c))),
   fun B0 H0 B H sg Q f q => PT.w (pt_cmpR ho pe_w pe_w hm) (ha B0 H0 B H sg _ f fun m us B1 H1 g1 h1 r1 => hb B0 H0 B1 H1 sg _ (f.mono g1) fun l ws B2 H2 g2 h2 r2 =>
      hr B2 H2 m us l ws _ g2.s (g2.h _ _ h1) (r1.up g2.b) h2 r2 ⟨c, rfl, q B2 H2 (g1.trans g2)⟩)⟩
theorem eb_lt {i j : Int} (ha : EvD X G a (.int i)) (hb : EvD X G b (.int j)) : EvB X G (.Compare a [.Lt] [b] pos) (decide (i < j)) :=
  eb_cmp op_lt ha hb (fun B H v w Q s r1 r2 q => by cases r1; cases r2; exact ⟨i, j, rfl, rfl, q⟩) (nomark _)
theorem eb_le {i j : Int} (ha : EvD X G a (.int i)) (hb : EvD X G b (.int j)) : EvB X G (.Compare a [.LtE] [b] pos) (decide (i ≤ j)) :=
  eb_cmp op_le ha hb (fun B H v w Q s r1 r2 q => by cases r1; cases r2; exact ⟨i, j, rfl, rfl, q⟩) (nomark _)
theorem eb_gt {i j : Int} (ha : EvD X G a (.int i)) (hb : EvD X G b (.int j)) : EvB X G (.Compare a [.Gt] [b] pos) (decide (j < i)) :=
  eb_cmp op_gt ha hb (fun B H v w Q s r1 r2 q => by cases r1; cases r2; exact ⟨i, j, rfl, rfl, q⟩) (nomark _)
theorem eb_ge {i j : Int} (ha : EvD X G a (.int i)) (hb : EvD X G b (.int j)) : EvB X G (.Compare a [.GtE] [b] pos) (decide (j ≤ i)) :=
  eb_cmp op_ge ha hb (fun B H v w Q s r1 r2 q => by cases r1; cases r2; exact ⟨i, j, rfl, rfl, q⟩) (nomark _)
theorem eb_eq {i j : Int} (ha : EvD X G a (.int i)) (hb : EvD X G b (.int j)) : EvB X G (.Compare a [.Eq] [b] pos) (decide (i = j)) :=
  eb_cmp op_eq ha hb (fun B H v w Q s r1 r2 q => by cases r1; cases r2; exact ⟨rfl, by simpa using q⟩) (nomark _)
theorem eb_ne {i j : Int} (ha : EvD X G a (.int i)) (hb : EvD X G b (.int j)) : EvB X G (.Compare a [.NotEq] [b] pos) (!decide (i = j)) :=
  eb_cmp op_ne ha hb (fun B H v w Q s r1 r2 q => by cases r1; cases r2; exact ⟨rfl, by simpa using q⟩) (nomark _)
theorem eb_eqS {i j : Str} (ha : EvD X G a (.str i)) (hb : EvD X G b (.str j)) : EvB X G (.Compare a [.Eq] [b] pos) (decide (i = j)) :=
  eb_cmp op_eq ha hb (fun B H v w Q s r1 r2 q => by cases r1; cases r2; exact ⟨rfl, by simpa using q⟩) (nomark _)
theorem eb_neS {i j : Str} (ha : EvD X G a (.str i)) (hb : EvD X G b (.str j)) : EvB X G (.Compare a [.NotEq] [b] pos) (!decide (i = j)) :=
  eb_cmp op_ne ha hb (fun B H v w Q s r1 r2 q => by cases r1; cases r2; exact ⟨rfl, by simpa using q⟩) (nomark _)
theorem eb_neB {i j : Bool} (ha : EvD X G a (.bl i)) (hb : EvD X G b (.bl j)) : EvB X G (.Compare a [.NotEq] [b] pos) (!decide (i = j)) :=
  eb_cmp op_ne ha hb (fun B H v w Q s r1 r2 q => by cases r1; cases r2; exact ⟨rfl, by simpa using q⟩) (nomark _)
def isNon : Dv → Bool
  | .non => true
  | _ => false
theorem Rp.non_iff {K : PySem.W.Frag} {B : Hp} {v : V} {d : Dv} (r : Rp K B v d) : decide (v = .non) = isNon d := by
  cases r <;> rfl
theorem eb_isN {j : Nat} (ha : EvD X G a d) : EvB X G (.Compare a [.Is] [.Constant .none j p] pos) (isNon d) :=
  eb_cmp op_isN ha ev_non (fun B H v w Q s r1 r2 q => by cases r2; exact ⟨rfl, by rw [r1.non_iff]; exact q⟩) (nomark _)
theorem eb_notN {j : Nat} (ha : EvD X G a d) : EvB X G (.Compare a [.IsNot] [.Constant .none j p] pos) (!isNon d) :=
  eb_cmp op_notN ha ev_non (fun B H v w Q s r1 r2 q => by cases r2; exact ⟨rfl, by rw [r1.non_iff]; exact q⟩) (nomark _)
theorem eb_isnotB {i j : Bool} (ha : EvD X G a (.bl i)) (hb : EvD X G b (.bl j)) : EvB X G (.Compare a [.IsNot] [b] pos) (!decide (i = j)) :=
  eb_cmp op_isnot_bl ha hb (fun B H v w Q s r1 r2 q => by cases r1; cases r2; exact ⟨i, j, rfl, rfl, q⟩) (nomark _)
/-- a <= b < c -/
theorem eb_chain {i j k : Int} (ha : EvD X G a (.int i)) (hb : EvD X G b (.int j)) (hc : EvD X G c (.int k)) (hm : lastMarks [.LtE, .Lt] [b, c] = false := by rfl) : EvB X G (.Compare a [.LtE, .Lt] [b, c] pos) (decide (i ≤ j ∧ j < k)) := by
  have key : ∀ B0 H0 B H sg (Q : VK), FrOk X.K B0 H0 B H G sg → (∀ B' H', Grow B H B' H' → Q (.bl (decide (i ≤ j ∧ j < k))) H') → tChain (rI0 fun i j => .bl (decide (i ≤ j))) (rI0 fun i j => .bl (decide (i < j))) (wpE X a) (wpE X b) (wpE X c) sg H Q := fun B0 H0 B H sg Q f q =>
    ha B0 H0 B H sg _ f fun v B1 H1 g1 r1 => hb B0 H0 B1 H1 sg _ (f.mono g1) fun w B2 H2 g2 r2 => by
      cases r1; cases r2
      refine ⟨i, j, rfl, rfl, decide (i ≤ j), rfl, ?_⟩
      by_cases h : i ≤ j
      · rw [decide_eq_true h]
        refine L2.iteT (hc B0 H0 B2 H2 sg _ ((f.mono g1).mono g2) fun u B3 H3 g3 r3 => ?_)
        cases r3
        refine ⟨j, k, rfl, rfl, ?_⟩
        have q' := q B3 H3 ((g1.trans g2).trans g3)
        rw [show decide (i ≤ j ∧ j < k) = decide (j < k) by simp [h]] at q'
        exact q'
      · rw [decide_eq_false h]
        refine L2.iteF ?_
        have q' := q B2 H2 (g1.trans g2)
        rw [show decide (i ≤ j ∧ j < k) = false by simp [h]] at q'
        exact q'
  exact ⟨fun B0 H0 B H sg Q f q => PE.w (pe_chain op_le op_lt pe_w pe_w pe_w hm) (key B0 H0 B H sg Q f fun B' H' g => q _ B' H' g (.bl _)),
    fun B0 H0 B H sg Q f q => PT.w (pt_chain op_le op_lt pe_w pe_w pe_w hm) (key B0 H0 B H sg _ f fun B' H' g => ⟨_, rfl, q B' H' g⟩)⟩

theorem ew_and1 {c : Bool} (h : EvB X G a c) : EvW X G (.BoolOp .And [a] pos) c :=
  ⟨fun B0 H0 B H sg Q f q => PE.w (pe_one pe_w) (h.v B0 H0 B H sg Q f q), fun B0 H0 B H sg Q f q => PW.w (pw_and1 pt_w) (h.t B0 H0 B H sg Q f q)⟩
theorem ew_or1 {c : Bool} (h : EvB X G a c) : EvW X G (.BoolOp .Or [a] pos) c :=
  ⟨fun B0 H0 B H sg Q f q => PE.w (pe_one pe_w) (h.v B0 H0 B H sg Q f q), fun B0 H0 B H sg Q f q => PW.w (pw_or1 pt_w) (h.t B0 H0 B H sg Q f q)⟩
theorem ew_and {x y : Bool} (h1 : EvB X G a x) (h2 : x = true → EvW X G (.BoolOp .And (b :: rest) pos) y) : EvW X G (.BoolOp .And (a :: b :: rest) pos) (x && y) := by
  constructor
  · exact fun B0 H0 B H sg Q f q => PE.w (pe_and pe_w pe_w) (h1.v B0 H0 B H sg _ f fun v B1 H1 g1 r1 => by
      cases r1
      refine ⟨x, rfl, ?_⟩
      cases x with
      | true => exact L2.iteT ((h2 rfl).v B0 H0 B1 H1 sg Q (f.mono g1) fun v B2 H2 g2 r2 => q v B2 H2 (g1.trans g2) r2)
      | false => exact L2.iteF (q _ B1 H1 g1 (.bl _)))
  · exact fun B0 H0 B H sg Q f q => PW.w (pw_and pt_w pw_w) (h1.t B0 H0 B H sg _ f fun B1 H1 g1 => by
      cases x with
      | true => exact L2.iteT ((h2 rfl).t B0 H0 B1 H1 sg Q (f.mono g1) fun B2 H2 g2 => q B2 H2 (g1.trans g2))
      | false => exact L2.iteF (q B1 H1 g1))
theorem ew_or {x y : Bool} (h1 : EvB X G a x) (h2 : x = false → EvW X G (.BoolOp .Or (b :: rest) pos) y) : EvW X G (.BoolOp .Or (a :: b :: rest) pos) (x || y) := by
  constructor
  · exact fun B0 H0 B H sg Q f q => PE.w (pe_or pe_w pe_w) (h1.v B0 H0 B H sg _ f fun v B1 H1 g1 r1 => by
      cases r1
      refine ⟨x, rfl, ?_⟩
      cases x with
      | true => exact L2.iteT (q _ B1 H1 g1 (.bl _))
      | false => exact L2.iteF ((h2 rfl).v B0 H0 B1 H1 sg Q (f.mono g1) fun v B2 H2 g2 r2 => q v B2 H2 (g1.trans g2) r2))
  · exact fun B0 H0 B H sg Q f q => PW.w (pw_or pt_w pw_w) (h1.t B0 H0 B H sg _ f fun B1 H1 g1 => by
      cases x with
      | true => exact L2.iteT (q B1 H1 g1)
      | false => exact L2.iteF ((h2 rfl).t B0 H0 B1 H1 sg Q (f.mono g1) fun B2 H2 g2 => q B2 H2 (g1.trans g2)))
theorem ew_b {c : Bool} (h : EvW X G e c) : EvB X G e c := ⟨h.v, fun B0 H0 B H sg Q f q => PT.w (PW.pt pw_w) (h.t B0 H0 B H sg Q f q)⟩
theorem eb_not {c : Bool} (h : EvB X G a c) : EvB X G (.UnaryOp .Not a pos) (!c) :=
  ⟨fun B0 H0 B H sg Q f q => PE.w (pe_not pe_w) (h.v B0 H0 B H sg _ f fun v B1 H1 g1 r1 => by cases r1; exact ⟨c, rfl, q _ B1 H1 g1 (.bl _)⟩),
   fun B0 H0 B H sg Q f q => PT.w (pt_not pt_w) (h.t B0 H0 B H sg _ f fun B1 H1 g1 => q B1 H1 g1)⟩
end
end DT

set_option Elab.async false
set_option linter.all false
set_option maxRecDepth 100000
namespace DT
open PySem PySem.Spec L2
open PyProof.Rows hiding St

section
variable {X : Cx} {G : List Slot} {a b c e o : Expr} {es rest : List Expr} {pos p p2 : Pos} {d d1 d2 d3 : Dv} {ds ds1 ds2 : List Dv}
/-! ### displays -/
theorem ev_tup {x1 : Nat} (h : EvA X G es ds) (hl : ds.length ≤ 1000 := by first | decide | simp) : EvD X G (.Tuple es x1 pos) (.tup ds) := fun B0 H0 B H sg Q f q =>
  PE.w (pe_tup pa_w) (h B0 H0 B H sg _ f fun vs B1 H1 g1 r1 => ⟨by rw [r1.length]; exact Nat.le_of_lt (small1000 hl), fun p hp =>
    q _ _ _ (g1.trans (Grow.new g1.s hp)) (.tup upd_same (r1.up (same_new (g1.s.free hp))))⟩)
theorem en_lst (h : EvA X G es ds) (hl : ds.length ≤ 1000 := by first | decide | simp) : EvN X G (.List es pos) ds := fun B0 H0 B H sg Q f q =>
  PE.w (pe_lst pa_w) (h B0 H0 B H sg _ f fun vs B1 H1 g1 r1 => ⟨by rw [r1.length]; exact Nat.le_of_lt (small1000 hl), fun p hp =>
    q p vs B1 _ (g1.trans (Grow.newO g1.s hp)) (g1.h.free hp) (g1.s.free hp) upd_same r1⟩)

/-! ### subscripts -/
def atD (ds : List Dv) (i : Int) (d : Dv) : Prop := 0 ≤ i ∧ ds[i.toNat]? = some d
theorem atD.v {K : PySem.W.Frag} {B : Hp} {vs : List V} {i : Int} (h : atD ds i d) (r : Rps K B vs ds) : ∃ v, atI vs i = some v ∧ Rp K B v d := by
  obtain ⟨h0, h1⟩ := h
  obtain ⟨v, e, rv⟩ := r.get h1
  refine ⟨v, ?_, rv⟩
  have q := atI_nat (j := i.toNat) e
  rw [Int.toNat_of_nonneg h0] at q
  exact q
theorem ev_ixL {i : Int} (ha : EvP X G a ds) (hb : EvD X G b (.int i)) (h : atD ds i d) (hs : PlainIx b) : EvD X G (.Subscript a b pos) d := fun B0 H0 B H sg Q f q =>
  PE.w (pe_ix ix_list pe_w pe_w hs) (ha B0 H0 B H sg _ f fun l vs B1 H1 g1 h1 r1 => hb B0 H0 B1 H1 sg _ (f.mono g1) fun w B2 H2 g2 r2 => by
    cases r2
    obtain ⟨v, e, rv⟩ := h.v (r1.up g2.b)
    exact ⟨l, vs, i, v, rfl, rfl, .inl (.inl (g2.h _ _ h1)), e, q v B2 H2 (g1.trans g2) rv⟩)
theorem ev_ixT {i : Int} (ha : EvD X G a (.tup ds)) (hb : EvD X G b (.int i)) (h : atD ds i d) (hs : PlainIx b) : EvD X G (.Subscript a b pos) d := fun B0 H0 B H sg Q f q =>
  PE.w (pe_ix ix_tup pe_w pe_w hs) (ha B0 H0 B H sg _ f fun v1 B1 H1 g1 r1 => hb B0 H0 B1 H1 sg _ (f.mono g1) fun w B2 H2 g2 r2 => by
    cases r2
    cases r1 with
    | tup e1 r1 =>
      obtain ⟨v, e, rv⟩ := h.v (r1.up g2.b)
      exact ⟨_, _, i, v, rfl, rfl, .inl (.inl (g2.h _ _ (g1.s _ _ e1))), e, q v B2 H2 (g1.trans g2) rv⟩)
/-- the script read -/
theorem ev_ixR {i : Int} {ns : List Int} {n : Int} (ha : EvD X G a (.scr ns)) (hb : EvD X G b (.int i)) (h0 : 0 ≤ i) (h : ns[i.toNat]? = some n) (hs : PlainIx b) : EvD X G (.Subscript a b pos) (.int n) := fun B0 H0 B H sg Q f q =>
  PE.w (pe_ix ix_list pe_w pe_w hs) (ha B0 H0 B H sg _ f fun v1 B1 H1 g1 r1 => hb B0 H0 B1 H1 sg _ (f.mono g1) fun w B2 H2 g2 r2 => by
    cases r2
    cases r1 with
    | scr e1 =>
      have e : (ns.map V.int)[i.toNat]? = some (.int n) := by rw [List.getElem?_map, h]; rfl
      have q' := atI_nat (j := i.toNat) e
      rw [Int.toNat_of_nonneg h0] at q'
      exact ⟨_, _, i, _, rfl, rfl, g2.h.seq (g1.s.seq e1), q', q _ B2 H2 (g1.trans g2) (.int n)⟩)
theorem ev_ixS {i : Int} {z : Str} {k : Nat} (ha : EvD X G a (.str z)) (hb : EvD X G b (.int i)) (hl : z.length ≤ sizeLine) (h0 : 0 ≤ i) (h : z.cps.toList[i.toNat]? = some k) (hs : PlainIx b) : EvD X G (.Subscript a b pos) (.str ⟨#[k]⟩) := fun B0 H0 B H sg Q f q =>
  PE.w (pe_ix ix_str pe_w pe_w hs) (ha B0 H0 B H sg _ f fun v1 B1 H1 g1 r1 => hb B0 H0 B1 H1 sg _ (f.mono g1) fun w B2 H2 g2 r2 => by
    cases r2; cases r1
    have q' := atI_nat (j := i.toNat) h
    rw [Int.toNat_of_nonneg h0] at q'
    exact ⟨z, i, k, rfl, rfl, hl, q', q _ B2 H2 (g1.trans g2) (.str _)⟩)
/-! ### slices -/
def EvO (X : Cx) (G : List Slot) (o : Option Expr) (i : Option Int) : Prop := match o, i with
  | none, none => True
  | some e, some i => EvD X G e (.int i)
  | _, _ => False
theorem Rps.cut {K : PySem.W.Frag} {B : Hp} {vs : List V} {ds : List Dv} (r : Rps K B vs ds) (lo hi : Option Int) : Rps K B (cutV vs lo hi) ((ds.drop (HT.sIx ds.length 0 lo)).take (HT.sIx ds.length ds.length hi - HT.sIx ds.length 0 lo)) := by
  unfold cutV
  rw [r.length]
  exact (r.drop _).take _
theorem wpO_of {oe : Option Expr} {i : Option Int} (h : EvO X G oe i) : ∃ to, PO X oe to ∧ ∀ B0 H0 B H sg (Q : Option Int → Hp → Prop), FrOk X.K B0 H0 B H G sg → (∀ B' H', Grow B H B' H' → Q i H') → to sg H Q := by
  cases oe with
  | none =>
    cases i with
    | none => exact ⟨_, po_none, fun B0 H0 B H sg Q f q => q B H f.grow⟩
    | some i => exact h.elim
  | some e =>
    cases i with
    | none => exact h.elim
    | some i => exact ⟨_, po_some pe_w, fun B0 H0 B H sg Q f q => h B0 H0 B H sg _ f fun v B' H' g r => by cases r; exact ⟨i, rfl, q B' H' g⟩⟩
theorem en_slice {lo hi : Option Expr} {i j : Option Int} (ha : EvP X G a ds) (h1 : EvO X G lo i) (h2 : EvO X G hi j) :
    EvN X G (.Subscript a (.Slice lo hi none p2) pos) ((ds.drop (HT.sIx ds.length 0 i)).take (HT.sIx ds.length ds.length j - HT.sIx ds.length 0 i)) := by
  obtain ⟨tl, pl, kl⟩ := wpO_of h1
  obtain ⟨th, ph, kh⟩ := wpO_of h2
  exact fun B0 H0 B H sg Q f q => PE.w (pe_slice sl_list pe_w pl ph) (ha B0 H0 B H sg _ f fun l vs B1 H1 g1 e1 r1 => kl B0 H0 B1 H1 sg _ (f.mono g1) fun B2 H2 g2 => kh B0 H0 B2 H2 sg _ ((f.mono g1).mono g2) fun B3 H3 g3 =>
    ⟨l, vs, rfl, .inl (.inl (g3.h _ _ (g2.h _ _ e1))), fun p hp => q p _ B3 _ (((g1.trans g2).trans g3).trans (Grow.newO g3.s hp)) (((g1.trans g2).trans g3).h.free hp) (g3.s.free hp) upd_same ((r1.up (g2.trans g3).b).cut i j)⟩)
theorem ev_sliceS {lo hi : Option Expr} {i j : Option Int} {z : Str} (ha : EvD X G a (.str z)) (h1 : EvO X G lo i) (h2 : EvO X G hi j) (hl : z.length ≤ sizeLine) :
    EvD X G (.Subscript a (.Slice lo hi none p2) pos) (.str (cutS z i j)) := by
  obtain ⟨tl, pl, kl⟩ := wpO_of h1
  obtain ⟨th, ph, kh⟩ := wpO_of h2
  exact fun B0 H0 B H sg Q f q => PE.w (pe_slice sl_str pe_w pl ph) (ha B0 H0 B H sg _ f fun v B1 H1 g1 r1 => kl B0 H0 B1 H1 sg _ (f.mono g1) fun B2 H2 g2 => kh B0 H0 B2 H2 sg _ ((f.mono g1).mono g2) fun B3 H3 g3 => by
    cases r1
    exact ⟨z, rfl, hl, q _ B3 H3 ((g1.trans g2).trans g3) (.str _)⟩)

/-! ### attributes -/
theorem RpF.look {K : PySem.W.Frag} {B : Hp} {f : Str} : ∀ {gs : List (Str × V)} {fs : List (Str × Dv)}, RpF K B gs fs → fs.lookup f = some d → ∃ v, gs.lookup f = some v ∧ Rp K B v d
  | _, _, .nil, h => by simp [List.lookup] at h
  | _, _, .cons (n := n) a r, h => by
    by_cases e : f = n
    · subst e
      simp [List.lookup] at h ⊢
      exact h ▸ a
    · have e' : (f == n) = false := by simpa using e
      simp only [List.lookup, e'] at h ⊢
      exact RpF.look r h
theorem ev_fld {C : Addr} {fs : List (Str × Dv)} {f : Str} (ha : EvD X G a (.ins C fs)) (hc : Cls X.K C) (hn : NoAttr X.K C f) (hf : fs.lookup f = some d) (hb : attributeBase a f X.env (eval a X.env) = eval a X.env) : EvD X G (.Attribute a f pos) d :=
  fun B0 H0 B H sg Q fr q => PE.w (pe_fld pe_w hb) (ha B0 H0 B H sg _ fr fun v B1 H1 g1 r1 => by
    cases r1 with
    | ins e r =>
      obtain ⟨v, e2, rv⟩ := r.look hf
      exact ⟨_, C, _, _, v, rfl, g1.s _ _ e, hc, hn, e2, q v B1 H1 g1 rv⟩)

/-! ### built-ins -/
theorem ev_lenP {x : Str} (ha : EvP X G a ds) (hx : x = "len") (hg : Gl X x) (hm : X.mg x = none) (he : starEach (a :: []) X.env = (false, eval a X.env) :: starEach [] X.env := by rfl) (hpl : (backTo pos (starEach [] X.env)).any (·.1) = false := by rfl) :
    EvD X G (.Call (.Name x p) [a] [] pos) (.int (ds.length : Int)) := fun B0 H0 B H sg Q f q => by
  subst hx
  exact PE.w (pe_callB call_len_seq hg hm PySem.boot_len (pa_cons pe_w pa_nil he) (he := he) (hpl := hpl)) (ha B0 H0 B H sg _ f fun l vs B1 H1 g1 e1 r1 => ⟨l, vs, rfl, .inl (.inl (.inl e1)), by rw [r1.length]; exact q _ B1 H1 g1 (.int _)⟩)
theorem ev_lenT {x : Str} (ha : EvD X G a (.tup ds)) (hx : x = "len") (hg : Gl X x) (hm : X.mg x = none) (he : starEach (a :: []) X.env = (false, eval a X.env) :: starEach [] X.env := by rfl) (hpl : (backTo pos (starEach [] X.env)).any (·.1) = false := by rfl) :
    EvD X G (.Call (.Name x p) [a] [] pos) (.int (ds.length : Int)) := fun B0 H0 B H sg Q f q => by
  subst hx
  exact PE.w (pe_callB call_len_seq hg hm PySem.boot_len (pa_cons pe_w pa_nil he) (he := he) (hpl := hpl)) (ha B0 H0 B H sg _ f fun v B1 H1 g1 r1 => by
    cases r1 with
    | tup e1 r1 => exact ⟨_, _, rfl, .inr (.inl (.inl (g1.s _ _ e1))), by rw [r1.length]; exact q _ B1 H1 g1 (.int _)⟩)
theorem ev_lenR {x : Str} {ns : List Int} (ha : EvD X G a (.scr ns)) (hx : x = "len") (hg : Gl X x) (hm : X.mg x = none) (he : starEach (a :: []) X.env = (false, eval a X.env) :: starEach [] X.env := by rfl) (hpl : (backTo pos (starEach [] X.env)).any (·.1) = false := by rfl) :
    EvD X G (.Call (.Name x p) [a] [] pos) (.int (ns.length : Int)) := fun B0 H0 B H sg Q f q => by
  subst hx
  exact PE.w (pe_callB call_len_seq hg hm PySem.boot_len (pa_cons pe_w pa_nil he) (he := he) (hpl := hpl)) (ha B0 H0 B H sg _ f fun v B1 H1 g1 r1 => by
    cases r1 with
    | scr e1 => exact ⟨_, _, rfl, .inl (g1.s.seq e1), by rw [List.length_map]; exact q _ B1 H1 g1 (.int _)⟩)
theorem ev_lenS {x : Str} {z : Str} (ha : EvD X G a (.str z)) (hz : z.length ≤ sizeLine) (hx : x = "len") (hg : Gl X x) (hm : X.mg x = none) (he : starEach (a :: []) X.env = (false, eval a X.env) :: starEach [] X.env := by rfl) (hpl : (backTo pos (starEach [] X.env)).any (·.1) = false := by rfl) :
    EvD X G (.Call (.Name x p) [a] [] pos) (.int (z.length : Int)) := fun B0 H0 B H sg Q f q => by
  subst hx
  exact PE.w (pe_callB call_len_str hg hm PySem.boot_len (pa_cons pe_w pa_nil he) (he := he) (hpl := hpl)) (ha B0 H0 B H sg _ f fun v B1 H1 g1 r1 => by
    cases r1
    exact ⟨z, rfl, hz, q _ B1 H1 g1 (.int _)⟩)
theorem ev_intI {x : Str} {i : Int} (ha : EvD X G a (.int i)) (hx : x = "int") (hg : Gl X x) (hm : X.mg x = none) (he : starEach (a :: []) X.env = (false, eval a X.env) :: starEach [] X.env := by rfl) (hpl : (backTo pos (starEach [] X.env)).any (·.1) = false := by rfl) :
    EvD X G (.Call (.Name x p) [a] [] pos) (.int i) := fun B0 H0 B H sg Q f q => by
  subst hx
  exact PE.w (pe_callTy call_int1 hg hm (by decide +kernel) (pa_cons pe_w pa_nil he) (he := he) (hpl := hpl)) (ha B0 H0 B H sg _ f fun v B1 H1 g1 r1 => by
    cases r1
    exact .inl ⟨i, rfl, q _ B1 H1 g1 (.int _)⟩)
theorem en_listP {x : Str} (ha : EvP X G a ds) (hx : x = "list") (hg : Gl X x) (hm : X.mg x = none) (he : starEach (a :: []) X.env = (false, eval a X.env) :: starEach [] X.env := by rfl) (hpl : (backTo pos (starEach [] X.env)).any (·.1) = false := by rfl) :
    EvN X G (.Call (.Name x p) [a] [] pos) ds := fun B0 H0 B H sg Q f q => by
  subst hx
  exact PE.w (pe_callTy call_list_of hg hm (by decide +kernel) (pa_cons pe_w pa_nil he) (he := he) (hpl := hpl)) (ha B0 H0 B H sg _ f fun l vs B1 H1 g1 e1 r1 =>
    ⟨l, vs, rfl, .inl (.inl (.inl e1)), fun p hp => q p vs B1 _ (g1.trans (Grow.newO g1.s hp)) (g1.h.free hp) (g1.s.free hp) upd_same r1⟩)
theorem en_listT {x : Str} (ha : EvD X G a (.tup ds)) (hx : x = "list") (hg : Gl X x) (hm : X.mg x = none) (he : starEach (a :: []) X.env = (false, eval a X.env) :: starEach [] X.env := by rfl) (hpl : (backTo pos (starEach [] X.env)).any (·.1) = false := by rfl) :
    EvN X G (.Call (.Name x p) [a] [] pos) ds := fun B0 H0 B H sg Q f q => by
  subst hx
  exact PE.w (pe_callTy call_list_of hg hm (by decide +kernel) (pa_cons pe_w pa_nil he) (he := he) (hpl := hpl)) (ha B0 H0 B H sg _ f fun v B1 H1 g1 r1 => by
    cases r1 with
    | tup e1 r1 => exact ⟨_, _, rfl, .inr (.inl (.inl (g1.s _ _ e1))), fun p hp => q p _ B1 _ (g1.trans (Grow.newO g1.s hp)) (g1.h.free hp) (g1.s.free hp) upd_same r1⟩)
theorem ev_tupleP {x : Str} (ha : EvP X G a ds) (hx : x = "tuple") (hg : Gl X x) (hm : X.mg x = none) (he : starEach (a :: []) X.env = (false, eval a X.env) :: starEach [] X.env := by rfl) (hpl : (backTo pos (starEach [] X.env)).any (·.1) = false := by rfl) :
    EvD X G (.Call (.Name x p) [a] [] pos) (.tup ds) := fun B0 H0 B H sg Q f q => by
  subst hx
  exact PE.w (pe_callTy call_tuple_of hg hm (by decide +kernel) (pa_cons pe_w pa_nil he) (he := he) (hpl := hpl)) (ha B0 H0 B H sg _ f fun l vs B1 H1 g1 e1 r1 =>
    ⟨l, vs, rfl, .inl ⟨.inl (.inl e1), fun p hp => q _ _ _ (g1.trans (Grow.new g1.s hp)) (.tup upd_same (r1.up (same_new (g1.s.free hp))))⟩⟩)
theorem ev_tupleT {x : Str} (ha : EvD X G a (.tup ds)) (hx : x = "tuple") (hg : Gl X x) (hm : X.mg x = none) (he : starEach (a :: []) X.env = (false, eval a X.env) :: starEach [] X.env := by rfl) (hpl : (backTo pos (starEach [] X.env)).any (·.1) = false := by rfl) :
    EvD X G (.Call (.Name x p) [a] [] pos) (.tup ds) := fun B0 H0 B H sg Q f q => by
  subst hx
  exact PE.w (pe_callTy call_tuple_of hg hm (by decide +kernel) (pa_cons pe_w pa_nil he) (he := he) (hpl := hpl)) (ha B0 H0 B H sg _ f fun v B1 H1 g1 r1 => by
    cases r1 with
    | tup e1 r1 => exact ⟨_, _, rfl, .inr ⟨.inl (.inl (g1.s _ _ e1)), q _ B1 H1 g1 (.tup e1 r1)⟩⟩)

/-! ### in -/
def flatD : Dv → Bool
  | .non | .bl _ | .int _ | .str _ => true
  | _ => false
def eqD : Dv → Dv → Bool
  | .non, .non => true
  | .bl a, .bl b => a == b
  | .bl a, .int b => (if a = true then 1 else 0) == b
  | .int a, .bl b => a == if b = true then 1 else 0
  | .int a, .int b => a == b
  | .str a, .str b => a == b
  | _, _ => false
theorem Rp.flat {K : PySem.W.Frag} {B : Hp} {v : V} (r : Rp K B v d) (h : flatD d = true) : flatV v = true := by
  cases r <;> first | rfl | exact h
theorem Rp.eqv {K : PySem.W.Frag} {B : Hp} {v w : V} (r : Rp K B v d1) (s : Rp K B w d2) : eqV v w = eqD d1 d2 := by
  cases r <;> cases s <;> rfl
theorem Rps.inV {K : PySem.W.Frag} {B : Hp} {v : V} (r : Rp K B v d) : ∀ {vs : List V} {ds : List Dv}, Rps K B vs ds → inV v vs = ds.any fun y => eqD y d
  | _, _, .nil => rfl
  | _, _, .cons a s => by
    unfold L2.inV
    rw [List.any_cons, List.any_cons, a.eqv r]
    congr 1
    exact Rps.inV r s
theorem eb_inL (ha : EvD X G a d) (hb : EvP X G b ds) (hf : flatD d = true) (hs : ds.all flatD = true) (hm : behindInMarks .In b = false) : EvB X G (.Compare a [.In] [b] pos) (ds.any fun y => eqD y d) :=
  eb_cmpP op_in_seq ha hb (fun B H v l ws Q s r1 h2 r2 q => ⟨l, ws, rfl, .inl (.inl (.inl h2)), r1.flat hf, r2.all (fun _ _ r h => r.flat h) hs, by rw [r2.inV r1]; simpa using q⟩) hm
theorem eb_inT (ha : EvD X G a d) (hb : EvD X G b (.tup ds)) (hf : flatD d = true) (hs : ds.all flatD = true) (hm : behindInMarks .In b = false) : EvB X G (.Compare a [.In] [b] pos) (ds.any fun y => eqD y d) :=
  eb_cmp op_in_seq ha hb (fun B H v w Q s r1 r2 q => by
    cases r2 with
    | tup e2 r2 => exact ⟨_, _, rfl, .inr (.inl (.inl (s _ _ e2))), r1.flat hf, r2.all (fun _ _ r h => r.flat h) hs, by rw [r2.inV r1]; simpa using q⟩) hm
def hasStr (z y : Str) : Bool := !List.isEmpty (Builtin.Str.occurrences z y 0 z.length 1)
theorem eb_inS {x y : Str} (ha : EvD X G a (.str x)) (hb : EvD X G b (.str y)) (hm : behindInMarks .In b = false) : EvB X G (.Compare a [.In] [b] pos) (hasStr y x) :=
  eb_cmp op_in_str ha hb (fun B H v w Q s r1 r2 q => by cases r1; cases r2; exact ⟨x, y, rfl, rfl, q⟩) hm
theorem eb_ninS {x y : Str} (ha : EvD X G a (.str x)) (hb : EvD X G b (.str y)) (hm : behindInMarks .NotIn b = false) : EvB X G (.Compare a [.NotIn] [b] pos) (!hasStr y x) :=
  eb_cmp op_notin_str ha hb (fun B H v w Q s r1 r2 q => by cases r1; cases r2; exact ⟨x, y, rfl, rfl, q⟩) hm
theorem ev_ifExp {t : Bool} {x y : Expr} (hc : EvB X G c t) (h1 : t = true → EvD X G x d) (h2 : t = false → EvD X G y d) : EvD X G (.IfExp c x y pos) d := fun B0 H0 B H sg Q f q =>
  PE.w (pe_ifExp pt_w pe_w pe_w) (hc.t B0 H0 B H sg _ f fun B1 H1 g1 => by
    cases t with
    | true => exact L2.iteT (h1 rfl B0 H0 B1 H1 sg Q (f.mono g1) fun v B2 H2 g2 r2 => q v B2 H2 (g1.trans g2) r2)
    | false => exact L2.iteF (h2 rfl B0 H0 B1 H1 sg Q (f.mono g1) fun v B2 H2 g2 r2 => q v B2 H2 (g1.trans g2) r2))

/-! ### equality of data -/
mutual
def py : Dv → PyData
  | .non => .none
  | .bl b => .bool b
  | .int i => .int i
  | .str s => .str s
  | .lst ds => .list (pys ds)
  | .tup ds => .tuple (pys ds)
  | .ins _ _ => .none
  | .scr _ => .none
  | .exn _ => .none
def pys : List Dv → List PyData
  | [] => []
  | d :: ds => py d :: pys ds
end
mutual
def plainD : Dv → Bool
  | .lst ds => plainDs ds
  | .tup ds => plainDs ds
  | .ins _ _ => false
  | .scr _ => false
  | .exn _ => false
  | _ => true
def plainDs : List Dv → Bool
  | [] => true
  | d :: ds => plainD d && plainDs ds
end
mutual
theorem Rp.dp {K : PySem.W.Frag} {B H : Hp} (s : Same B H) : ∀ (d : Dv) (v : V), Rp K B v d → plainD d = true → Dp K H v (py d)
  | .non, _, h, _ => by cases h; exact .non
  | .bl _, _, h, _ => by cases h; exact .bl _
  | .int _, _, h, _ => by cases h; exact .int _
  | .str _, _, h, _ => by cases h; exact .str _
  | .lst ds, _, h, k => by
    cases h with
    | lst e r => exact .lst (.inl (.inl (s _ _ e))) (Rps.dp s ds _ r k)
  | .tup ds, _, h, k => by
    cases h with
    | tup e r => exact .tup (.inl (.inl (s _ _ e))) (Rps.dp s ds _ r k)
  | .ins C fs, _, h, k => by cases k
  | .scr ns, _, h, k => by cases k
  | .exn a, _, h, k => by cases k
theorem Rps.dp {K : PySem.W.Frag} {B H : Hp} (s : Same B H) : ∀ (ds : List Dv) (vs : List V), Rps K B vs ds → plainDs ds = true → DpAll K H vs (pys ds)
  | [], _, h, _ => by cases h; exact .nil
  | d :: ds, _, h, k => by
    cases h with
    | cons a r =>
      have k' : (plainD d && plainDs ds) = true := k
      rw [Bool.and_eq_true] at k'
      exact .cons (Rp.dp s d _ a k'.1) (Rps.dp s ds _ r k'.2)
end
theorem eb_eqLL (hu : X.A.units + 64 < cLine) (ha : EvP X G a ds1) (hb : EvP X G b ds2) (k1 : plainDs ds1 = true) (k2 : plainDs ds2 = true) (s1 : SeqAt.shaped (.list (pys ds1)) = true) (s2 : SeqAt.shaped (.list (pys ds2)) = true) :
    EvB X G (.Compare a [.Eq] [b] pos) (PyData.eqv (.list (pys ds1)) (.list (pys ds2))) :=
  eb_cmpPP (op_eqD hu) ha hb (fun B H m us l ws Q s h1 r1 h2 r2 q => ⟨_, _, .lst (.inl (.inl h1)) (Rps.dp s _ _ r1 k1), .lst (.inl (.inl h2)) (Rps.dp s _ _ r2 k2), s1, s2, q⟩) (nomark _)
theorem eb_neLL (hu : X.A.units + 64 < cLine) (ha : EvP X G a ds1) (hb : EvP X G b ds2) (k1 : plainDs ds1 = true) (k2 : plainDs ds2 = true) (s1 : SeqAt.shaped (.list (pys ds1)) = true) (s2 : SeqAt.shaped (.list (pys ds2)) = true) :
    EvB X G (.Compare a [.NotEq] [b] pos) (!PyData.eqv (.list (pys ds1)) (.list (pys ds2))) :=
  eb_cmpPP (op_neD hu) ha hb (fun B H m us l ws Q s h1 r1 h2 r2 q => ⟨_, _, .lst (.inl (.inl h1)) (Rps.dp s _ _ r1 k1), .lst (.inl (.inl h2)) (Rps.dp s _ _ r2 k2), s1, s2, q⟩) (nomark _)
end
end DT

set_option Elab.async false
set_option linter.all false
set_option maxRecDepth 100000
namespace DT
open PySem PySem.Spec L2
open PyProof.Rows hiding St

/-! ### promises of defs over data -/
inductive Res where
  | val (d : Dv) | exc (x : Str)
/-- the address of the class that the module's name x holds -/
def ca (mg : Str → Option Value) (x : Str) : Value := (mg x).getD .none

def spOf (K : PySem.W.Frag) (mg : Str → Option Value) (R : List Dv → Res → Prop) : Sp := fun vs H Q E => ∃ B ds res, Same B H ∧ Rps K B vs ds ∧ R ds res ∧
  match res with
  | .val d => ∀ v B' H', Grow B H B' H' → Rp K B' v d → Q v H'
  | .exc x => ∀ H', Same H H' → E (ca mg x) none H'

/-- the def of the name x, n arguments, level k, promises R -/
structure Df (P : Program) (w : World) (K : PySem.W.Frag) (mg : Str → Option Value) (base : Heap) (x : Str) (k : Nat) (R : List Dv → Res → Prop) : Prop where
  ex : ∃ (f : Addr) (fd : FuncData) (ps : List Str), FnOk P w K mg base (L2.CX P w) k f fd ps (spOf K mg R) ∧ mg x = some (.ref f) ∧ PySem.W.keepIn K (.ref f) = true ∧ Binds K fd ps []

section
variable {X : Cx} {W : WX} {G : List Slot} {a b c e o : Expr} {es rest : List Expr} {pos p p2 : Pos} {d d1 d2 d3 : Dv} {ds ds1 ds2 : List Dv}
theorem ev_call {x : Str} {k : Nat} {R : List Dv → Res → Prop} (F : Df X.prog X.w X.K X.mg X.base x k R) (hr : Room k X.A) (hg : Gl X x) (ha : EvA X G (e :: es) ds) (hR : R ds (.val d)) (hdb : (x == ("__debug__" : Str)) = false)
    (he : starEach (e :: es) X.env = (false, eval e X.env) :: starEach es X.env := by rfl) (hpl : (backTo pos (starEach es X.env)).any (·.1) = false := by rfl) : EvD X G (.Call (.Name x p) (e :: es) [] pos) d := by
  obtain ⟨f, fd, ps, ok, hm, kp, bd⟩ := F.ex
  exact fun B0 H0 B H sg Q fr q => PE.w (pe_call ok hr hg hm kp bd .nil passL pa_w hdb he hpl) (ha B0 H0 B H sg _ fr fun vs B1 H1 g1 r1 => by
    rw [List.append_nil]
    exact ⟨B1, ds, .val d, g1.s, r1, hR, fun v B2 H2 g2 r2 => q v B2 H2 (g1.trans g2) r2⟩)
/-- e raises x -/
def EvX (X : Cx) (W : WX) (G : List Slot) (e : Expr) (x : Str) : Prop := ∀ B0 H0 B H sg (Q : VK), FrOk X.K B0 H0 B H G sg → (∀ B' H', FrOk X.K B0 H0 B' H' G sg → W (ca X.mg x) none sg H') → wpE X e sg H Q
theorem ex_call {x y : Str} {k : Nat} {R : List Dv → Res → Prop} (tk : Takes X W) (F : Df X.prog X.w X.K X.mg X.base x k R) (hr : Room k X.A) (hg : Gl X x) (ha : EvA X G (e :: es) ds) (hR : R ds (.exc y)) (hdb : (x == ("__debug__" : Str)) = false)
    (he : starEach (e :: es) X.env = (false, eval e X.env) :: starEach es X.env := by rfl) (hpl : (backTo pos (starEach es X.env)).any (·.1) = false := by rfl) : EvX X W G (.Call (.Name x p) (e :: es) [] pos) y := by
  obtain ⟨f, fd, ps, ok, hm, kp, bd⟩ := F.ex
  exact fun B0 H0 B H sg Q fr q => PE.w (pe_callS ok hr hg hm kp bd (fun σ => passAt tk σ) pa_w hdb he hpl) (ha B0 H0 B H sg _ fr fun vs B1 H1 g1 r1 =>
    ⟨B1, ds, .exc y, g1.s, r1, hR, fun H2 s2 => q B1 H2 ((fr.mono g1).mono ⟨s2, Same.refl _, g1.s.trans s2, fun _ _ _ => rfl⟩)⟩)
theorem evx_cmp {op : CmpOp} {r : R2} {x : Str} (ho : OpR X (compareOp op) r) (ha : EvX X W G a x) (hm : behindInMarks op b = false) : EvX X W G (.Compare a [op] [b] pos) x :=
  fun B0 H0 B H sg Q f q => PE.w (pe_cmpR ho pe_w pe_w hm) (ha B0 H0 B H sg _ f q)

/-! ### targets -/
def wpG (X : Cx) (tg : Expr) : TG := fun v sg H Q => ∀ pins s u, Inv X pins sg H s → RelV v u → wpAny (model X.prog X.w) X.A (assign tg X.env u) (fun _ s' => ∃ σ' H', Inv X pins σ' H' s' ∧ Q σ' H') X.xe s
theorem pg_w {tg : Expr} : PG X tg (wpG X tg) := ⟨fun pins s sg H v u Q I r h => h pins s u I r⟩
theorem PG.w {tg : Expr} {t : TG} (h : PG X tg t) {v : V} {sg : St} {H : Hp} {Q : St → Hp → Prop} (q : t v sg H Q) : wpG X tg v sg H Q := fun pins s u I r => h.run pins s sg H v u Q I r q
def Chg (js : List Nat) (sg sg' : St) : Prop := sg'.length = sg.length ∧ ∀ k, k ∉ js → sg'[k]? = sg[k]?
/-- d goes to the target: the slots G become G'; only the slots js change -/
def AsG (X : Cx) (G : List Slot) (tg : Expr) (d : Dv) (G' : List Slot) (js : List Nat) : Prop := ∀ B0 H0 B H sg v (Q : St → Hp → Prop), FrOk X.K B0 H0 B H G sg → Rp X.K B v d →
  (∀ sg', FrOk X.K B0 H0 B H G' sg' → Chg js sg sg' → Q sg' H) → wpG X tg v sg H Q
def AsGs (X : Cx) (G : List Slot) (tgs : List Expr) (ds : List Dv) (G' : List Slot) (js : List Nat) : Prop := ∀ B0 H0 B H sg vs (Q : St → Hp → Prop), FrOk X.K B0 H0 B H G sg → Rps X.K B vs ds →
  (∀ sg', FrOk X.K B0 H0 B H G' sg' → Chg js sg sg' → Q sg' H) → ∃ t, PGs X tgs t ∧ t vs sg H Q
theorem ag_name {x : Str} (i : Nat) (hN : X.N.Nodup) (hi : X.N[i]? = some x) (hx : Loc X.env.scope x) (hf : X.fn x = true ∨ X.env.scope.names.lookup x = some .local) : AsG X G (.Name x pos) d (G.set i (.sh d)) [i] :=
  fun B0 H0 B H sg v Q f r q => PG.w (pg_name hN hi hx hf) (q _ (f.setS r) ⟨by rw [List.length_set], fun k hk => by rw [List.getElem?_set_ne (by intro e; exact hk (by simp [e]))]⟩)
end
def wpGs (X : Cx) (tgs : List Expr) : TGs := fun vs sg H Q => ∀ pins s us, Inv X pins sg H s → Vals vs us → wpAny (model X.prog X.w) X.A (assignInOrder ((assignEach tgs X.env).map (·.2)) us) (fun _ s' => ∃ σ' H', Inv X pins σ' H' s' ∧ Q σ' H') X.xe s
section
variable {X : Cx} {W : WX} {G : List Slot} {a b c e o : Expr} {es rest : List Expr} {pos p p2 : Pos} {d d1 d2 d3 : Dv} {ds ds1 ds2 : List Dv}
theorem pgs_w {tgs : List Expr} : PGs X tgs (wpGs X tgs) := ⟨fun pins s sg H v u Q I r h => h pins s u I r⟩
theorem PGs.w {tgs : List Expr} {t : TGs} (h : PGs X tgs t) {vs : List V} {sg : St} {H : Hp} {Q : St → Hp → Prop} (q : t vs sg H Q) : wpGs X tgs vs sg H Q := fun pins s u I r => h.run pins s sg H vs u Q I r q
/-- several targets -/
def AsW (X : Cx) (G : List Slot) (tgs : List Expr) (ds : List Dv) (G' : List Slot) (js : List Nat) : Prop := ∀ B0 H0 B H sg vs (Q : St → Hp → Prop), FrOk X.K B0 H0 B H G sg → Rps X.K B vs ds →
  (∀ sg', FrOk X.K B0 H0 B H G' sg' → Chg js sg sg' → Q sg' H) → wpGs X tgs vs sg H Q
theorem aw_nil : AsW X G [] [] G [] := fun B0 H0 B H sg vs Q f r q => by
  cases r
  exact PGs.w pgs_nil ⟨rfl, q sg f ⟨rfl, fun _ _ => rfl⟩⟩
theorem aw_cons {tg : Expr} {tgs : List Expr} {G1 G2 : List Slot} {js ks : List Nat} (h1 : AsG X G tg d G1 js) (h2 : AsW X G1 tgs ds G2 ks)
    (hs : (assignEach (tg :: tgs) X.env).map (·.2) = assign tg X.env :: (assignEach tgs X.env).map (·.2) := by rfl) : AsW X G (tg :: tgs) (d :: ds) G2 (js ++ ks) := fun B0 H0 B H sg vs Q f r q => by
  cases r with
  | cons a r =>
    exact PGs.w (pgs_cons pg_w pgs_w hs) ⟨_, _, rfl, h1 B0 H0 B H sg _ _ f a fun sg1 f1 k1 => h2 B0 H0 B H sg1 _ _ f1 r fun sg2 f2 k2 => q sg2 f2 ⟨k2.1.trans k1.1, fun k hk => by
      rw [k2.2 k (fun z => hk (List.mem_append_right _ z)), k1.2 k (fun z => hk (List.mem_append_left _ z))]⟩⟩
theorem ag_tup {n : Nat} {tgs : List Expr} {G' : List Slot} {js : List Nat} (hc : X.calm = true) (h : AsW X G tgs ds G' js)
    (hn : (assignEach tgs X.env).length = ds.length := by rfl) (hst : (assignEach tgs X.env).findIdx? (·.1) = none := by rfl) : AsG X G (.Tuple tgs n pos) (.tup ds) G' js := fun B0 H0 B H sg v Q f r q => by
  cases r with
  | tup e r => exact PG.w (pg_tup hc pgs_w hn hst) ⟨_, _, rfl, .inl (.inl (f.sub _ _ e)), r.length, h B0 H0 B H sg _ Q f r q⟩

/-! ### blocks -/
inductive Out where
  | nx (G : List Slot) | rt (d : Dv) | ex (x : Str)
structure Fin (X : Cx) (W : WX) (B0 H0 : Hp) (k : Out → Prop) (D : Ends) : Prop where
  nx : ∀ G B H sg, k (.nx G) → FrOk X.K B0 H0 B H G sg → D.nx sg H
  rt : ∀ d v B H, k (.rt d) → Grow B0 H0 B H → Rp X.K B v d → D.rt v H
  ex : ∀ x G B H sg, k (.ex x) → FrOk X.K B0 H0 B H G sg → W (ca X.mg x) none sg H
/-- from the slots G the block ends in k -/
def Ex (X : Cx) (W : WX) (G : List Slot) (sts : List Stmt) (k : Out → Prop) : Prop := ∀ B0 H0 B H sg D, FrOk X.K B0 H0 B H G sg → Fin X W B0 H0 k D → wpSs X sts D sg H
def ExS (X : Cx) (W : WX) (G : List Slot) (st : Stmt) (k : Out → Prop) : Prop := ∀ B0 H0 B H sg D, FrOk X.K B0 H0 B H G sg → Fin X W B0 H0 k D → wpS X st D sg H
def kseq (X : Cx) (W : WX) (rest : List Stmt) (k : Out → Prop) : Out → Prop
  | .nx G => Ex X W G rest k
  | o => k o
variable {k k' : Out → Prop} {st : Stmt} {sts body els : List Stmt}
theorem Fin.imp {B0 H0 : Hp} {D : Ends} (f : Fin X W B0 H0 k' D) (h : ∀ o, k o → k' o) : Fin X W B0 H0 k D :=
  ⟨fun G B H sg q => f.nx G B H sg (h _ q), fun d v B H q => f.rt d v B H (h _ q), fun x G B H sg q => f.ex x G B H sg (h _ q)⟩
theorem Ex.imp (h : Ex X W G sts k) (i : ∀ o, k o → k' o) : Ex X W G sts k' := fun B0 H0 B H sg D f n => h B0 H0 B H sg D f (n.imp i)
theorem ExS.imp (h : ExS X W G st k) (i : ∀ o, k o → k' o) : ExS X W G st k' := fun B0 H0 B H sg D f n => h B0 H0 B H sg D f (n.imp i)
theorem x_nil (h : k (.nx G)) : Ex X W G [] k := fun B0 H0 B H sg D f n => PSs.w pss_nil (n.nx G B H sg h f)
theorem x_cons (h : ExS X W G st (kseq X W sts k)) : Ex X W G (st :: sts) k := fun B0 H0 B H sg D f n =>
  PSs.w (pss_cons ps_w pss_w) (h B0 H0 B H sg _ f ⟨fun G' B' H' sg' q f' => q B0 H0 B' H' sg' D f' n, fun d v B H q => n.rt d v B H q, fun x G B H sg q => n.ex x G B H sg q⟩)
theorem x_one (h : ExS X W G st k) : Ex X W G [st] k := fun B0 H0 B H sg D f n => PSs.w (pss_one ps_w) (h B0 H0 B H sg _ f n)
theorem x_less {G' : List Slot} (l : Less G' G) (h : Ex X W G' sts k) : Ex X W G sts k := fun B0 H0 B H sg D f n => h B0 H0 B H sg D (f.less l) n
theorem x_frz (i : Nat) (hi : G[i]? = some (.own ds)) (h : Ex X W (G.set i (.sh (.lst ds))) sts k) : Ex X W G sts k := fun B0 H0 B H sg D f n => by
  obtain ⟨p, vs, e, hp, bp, r, _, fz, _, _⟩ := f.own hi
  exact h B0 H0 _ H sg D fz n
/-- a word between -/
theorem x_cut (M : Out → Prop) (h : ExS X W G st M) (hn : ∀ G', M (.nx G') → Ex X W G' sts k) (hr : ∀ d, M (.rt d) → k (.rt d)) (hx : ∀ x, M (.ex x) → k (.ex x)) : Ex X W G (st :: sts) k :=
  x_cons (h.imp fun o q => match o, q with
    | .nx G', q => hn G' q
    | .rt d, q => hr d q
    | .ex x, q => hx x q)
theorem s_set {x : Str} {pos' : Pos} (i : Nat) (hN : X.N.Nodup) (hi : X.N[i]? = some x) (hx : Loc X.env.scope x) (he : EvD X G e d) (hk : k (.nx (G.set i (.sh d)))) (hs : swapsWith e (some (.Name x pos')) pos.line X.env = pure false)
    (hf : X.fn x = true ∨ X.env.scope.names.lookup x = some .local) : ExS X W G (.Assign [.Name x pos'] e pos) k := fun B0 H0 B H sg D f n =>
  PS.w (ps_set hN hi hx pe_w hs hf) (he B0 H0 B H sg _ f fun v B1 H1 g1 r1 => n.nx _ B1 H1 _ hk ((f.mono g1).setS r1))
theorem s_setN {x : Str} {pos' : Pos} (i : Nat) (hN : X.N.Nodup) (hi : X.N[i]? = some x) (hx : Loc X.env.scope x) (he : EvN X G e ds) (hk : k (.nx (G.set i (.own ds)))) (hs : swapsWith e (some (.Name x pos')) pos.line X.env = pure false)
    (hf : X.fn x = true ∨ X.env.scope.names.lookup x = some .local) : ExS X W G (.Assign [.Name x pos'] e pos) k := fun B0 H0 B H sg D f n =>
  PS.w (ps_set hN hi hx pe_w hs hf) (he B0 H0 B H sg _ f fun p vs B1 H1 g1 hp bp h1 r1 => n.nx _ B1 H1 _ hk (f.setO g1 hp ⟨rfl, bp, vs, h1, r1⟩))
theorem s_asg {tg : Expr} {G' : List Slot} {js : List Nat} (he : EvD X G e d) (ha : AsG X G tg d G' js) (hk : k (.nx G')) (hs : swapsWithSole [tg] e pos.line X.env = pure false := by rfl) (hw : swappedStores [tg] e X.env = pure none := by rfl)
    (h1 : (assignEach [tg] X.env).map (·.2) = [assign tg X.env] := by rfl) : ExS X W G (.Assign [tg] e pos) k := fun B0 H0 B H sg D f n =>
  PS.w (ps_asg pe_w pg_w hs hw h1) (he B0 H0 B H sg _ f fun v B1 H1 g1 r1 => ha B0 H0 B1 H1 sg v _ (f.mono g1) r1 fun sg' f' _ => n.nx _ B1 H1 _ hk f')
theorem s_par {i j : Nat} {x y : Str} {px py pt : Pos} {kt k2 : Nat} {pt2 : Pos} (hc : X.calm = true) (hN : X.N.Nodup) (hi : X.N[i]? = some x) (hj : X.N[j]? = some y) (hij : i ≠ j)
    (hx : X.env.scope.names.lookup x = some .local) (hy : X.env.scope.names.lookup y = some .local) (h1 : EvD X G a d1) (h2 : EvD X G b d2)
    (hst : swappedStores [Expr.Tuple [Expr.Name x px, Expr.Name y py] kt pt] (Expr.Tuple [a, b] k2 pt2) X.env = pure (some [x, y])) (hk : k (.nx ((G.set i (.sh d1)).set j (.sh d2))))
    (hsw : swapsWithSole [Expr.Tuple [Expr.Name x px, Expr.Name y py] kt pt] (Expr.Tuple [a, b] k2 pt2) pos.line X.env = pure false := by rfl)
    (he : starEach (a :: [b]) X.env = (false, eval a X.env) :: starEach [b] X.env := by rfl) (he2 : starEach (b :: []) X.env = (false, eval b X.env) :: starEach [] X.env := by rfl) :
    ExS X W G (.Assign [.Tuple [.Name x px, .Name y py] kt pt] (.Tuple [a, b] k2 pt2) pos) k := fun B0 H0 B H sg D f n =>
  PS.w (ps_par hc hN hi hj hij hx hy (pa_cons pe_w (pa_cons pe_w pa_nil he2) he) hst hsw) (h1 B0 H0 B H sg _ f fun v B1 H1 g1 r1 => h2 B0 H0 B1 H1 sg _ (f.mono g1) fun w B2 H2 g2 r2 =>
    ⟨v, w, rfl, n.nx _ B2 H2 _ hk ((((f.mono g1).mono g2).setS (r1.up g2.b)).setS r2)⟩)
theorem s_expr (he : EvD X G e d) (hk : k (.nx G)) (hs : swapsWith e none pos.line X.env = pure false := by rfl) : ExS X W G (.Expr e pos) k := fun B0 H0 B H sg D f n =>
  PS.w (ps_expr pe_w hs) (he B0 H0 B H sg _ f fun v B1 H1 g1 r1 => n.nx _ B1 H1 _ hk (f.mono g1))
theorem s_exprX {x : Str} (he : EvX X W G e x) (hk : k (.ex x)) (hs : swapsWith e none pos.line X.env = pure false := by rfl) : ExS X W G (.Expr e pos) k := fun B0 H0 B H sg D f n =>
  PS.w (ps_expr pe_w hs) (he B0 H0 B H sg _ f fun B1 H1 f1 => n.ex x _ B1 H1 _ hk f1)
theorem s_ret (he : EvD X G e d) (hk : k (.rt d)) : ExS X W G (.Return (some e) pos) k := fun B0 H0 B H sg D f n =>
  PS.w (ps_ret pe_w) (he B0 H0 B H sg _ f fun v B1 H1 g1 r1 => n.rt _ v B1 H1 hk (f.g.trans g1) r1)
/-- a list of one's own is handed back -/
theorem s_retX {x : Str} (he : EvX X W G e x) (hk : k (.ex x)) : ExS X W G (.Return (some e) pos) k := fun B0 H0 B H sg D f n =>
  PS.w (ps_ret pe_w) (he B0 H0 B H sg _ f fun B1 H1 f1 => n.ex x _ B1 H1 _ hk f1)
theorem s_if {t : Bool} (hc : EvB X G c t) (h1 : t = true → Ex X W G body k) (h2 : t = false → Ex X W G els k) : ExS X W G (.If c body els pos) k := fun B0 H0 B H sg D f n =>
  PS.w (ps_if pt_w pss_w pss_w) (hc.t B0 H0 B H sg _ f fun B1 H1 g1 => by
    cases t with
    | true => exact L2.iteT (h1 rfl B0 H0 B1 H1 sg D (f.mono g1) n)
    | false => exact L2.iteF (h2 rfl B0 H0 B1 H1 sg D (f.mono g1) n))
theorem s_raise {x m : Str} {j : Nat} {bmB : List Value} {Bn newId initId : String} {C : Addr} (hc : X.calm = true) (tk : Takes X W) (F : ExcBaseFacts Bn newId initId bmB) (q : PySem.W.excIn X.K C bmB newId = true) (gC : X.mg x = some (.ref C)) (kC : PySem.W.keepIn X.K (.ref C) = true)
    (r : Raises X (.ref C)) (hg : Gl X x) (hk : k (.ex x)) (hdb : (x == ("__debug__" : Str)) = false := by decide) : ExS X W G (.Raise (some (.Call (.Name x p) [.Constant (.str m) j p2] [] pos)) none pos2) k := fun B0 H0 B H sg D f n =>
  PS.w (ps_raise hc tk (pmk_own F q gC kC r hg hdb)) (by
    have z := n.ex x G B H sg hk f
    unfold ca at z
    rw [gC] at z
    exact z)
/-- xs[i] = e, xs a list of one's own -/
theorem s_sub {x : Str} {px p3 : Pos} {j : Int} (i : Nat) (hi : X.N[i]? = some x) (hv : Vis X.env.scope x) (hG : G[i]? = some (.own ds)) (hd : (x == ("__debug__" : Str)) = false) (hcd : (x == ("__classdict__" : Str)) = false)
    (he : EvD X G e d) (hb : EvD X G b (.int j)) (h0 : 0 ≤ j) (h1 : j < ds.length) (hk : k (.nx (G.set i (.own (ds.set j.toNat d)))))
    (ha : ∀ v, assign (.Subscript (.Name x px) b p3) X.env v = (do
      let ov ← holding [v] (eval (.Name x px) X.env)
      let iv ← holding [v, ov] (eval b X.env)
      standAt p3
      holding [v, ov, iv] (setItem ov iv v)
      release [v, ov, iv] []) := by intro _; rfl)
    (hs : swapsWithSole [Expr.Subscript (.Name x px) b p3] e pos.line X.env = pure false := by rfl) (hw : swappedStores [Expr.Subscript (.Name x px) b p3] e X.env = pure none := by rfl)
    (h3 : (assignEach [Expr.Subscript (.Name x px) b p3] X.env).map (·.2) = [assign (Expr.Subscript (.Name x px) b p3) X.env] := by rfl) : ExS X W G (.Assign [.Subscript (.Name x px) b p3] e pos) k := fun B0 H0 B H sg D f n =>
  PS.w (ps_asg pe_w (pg_sub (pe_var hi hv hd hcd) pe_w set_list ha) hs hw h3) (he B0 H0 B H sg _ f fun v B1 H1 g1 r1 => by
    obtain ⟨l, vs, e1, hl, bl, r, mu, _⟩ := (f.mono g1).own hG
    refine ⟨.ref l, e1, hb B0 H0 B1 H1 sg _ (f.mono g1) fun w B2 H2 g2 r2 => ?_⟩
    obtain ⟨l', vs', e1', hl', bl', r', mu', _⟩ := ((f.mono g1).mono g2).own hG
    have : l' = l := by rw [e1] at e1'; cases e1'; rfl
    subst this
    cases r2
    refine ⟨l', vs', j, j.toNat, rfl, rfl, hl', ?_, n.nx _ B2 _ _ hk (mu' _ _ (r'.set (r1.up g2.b) _))⟩
    have hlen : j < (vs'.length : Int) := by rw [r'.length]; exact h1
    unfold ixN
    rw [if_pos h0, if_pos hlen])
/-- xs.append(e) -/
theorem s_append {x nm : Str} {px ap : Pos} (i : Nat) (hi : X.N[i]? = some x) (hv : Vis X.env.scope x) (hG : G[i]? = some (.own ds)) (hd : (x == ("__debug__" : Str)) = false) (hcd : (x == ("__classdict__" : Str)) = false)
    (hnm : nm = "append") (he : EvD X G e d) (hl : ds.length < 100000) (hk : k (.nx (G.set i (.own (ds ++ [d])))))
    (hbase : attributeBase (.Name x px) nm X.env (eval (.Name x px) X.env) = eval (.Name x px) X.env := by rfl)
    (hall : (((backTo p (starEach (e :: []) X.env)).all (fun x => !x.1) && (backToKw p (keywordEach [] X.env)).all (fun x => x.1.isSome)) && decide ((e :: ([] : List Expr)).length + ([] : List Keyword).length + (if ([] : List Keyword).isEmpty = true then 0 else 1) < 30)) = true := by rfl)
    (hline : (ap.endLine == p.line) = true := by rfl) (hst : starEach (e :: []) X.env = (false, eval e X.env) :: starEach [] X.env := by rfl) (hpl : (backTo p (starEach [] X.env)).any (·.1) = false := by rfl)
    (hs : swapsWith (.Call (.Attribute (.Name x px) nm ap) [e] [] p) none pos.line X.env = pure false := by rfl) : ExS X W G (.Expr (.Call (.Attribute (.Name x px) nm ap) [e] [] p) pos) k := fun B0 H0 B H sg D f n => by
  subst hnm
  refine PS.w (ps_expr (pe_bm PySem.F.plainAttrs_list PySem.F.slot_list_append PySem.F.type_list_append mt_append (pe_var hi hv hd hcd) (pa_cons pe_w pa_nil hst) hbase hall hline hst hpl) hs) ?_
  obtain ⟨l, vs, e1, hl1, bl, r, mu, _⟩ := f.own hG
  refine ⟨.ref l, e1, .inl ⟨rfl, _, .inl (.inl hl1)⟩, he B0 H0 B H sg _ f fun v B1 H1 g1 r1 => ?_⟩
  obtain ⟨l', vs', e1', hl', bl', r', mu', _⟩ := (f.mono g1).own hG
  have : l' = l := by rw [e1] at e1'; cases e1'; rfl
  subst this
  exact ⟨l', vs', v, rfl, rfl, hl', Nat.lt_of_lt_of_le (by rw [r'.length]; exact hl) (by decide), n.nx _ B1 _ _ hk (mu' _ _ (r'.append (.cons r1 .nil)))⟩
/-- xs.insert(i, e) -/
theorem s_insert {x nm : Str} {px ap : Pos} {j : Int} (i : Nat) (hi : X.N[i]? = some x) (hv : Vis X.env.scope x) (hG : G[i]? = some (.own ds)) (hd : (x == ("__debug__" : Str)) = false) (hcd : (x == ("__classdict__" : Str)) = false)
    (hnm : nm = "insert") (hb : EvD X G b (.int j)) (he : EvD X G e d) (h0 : 0 ≤ j) (h1 : j < 2 ^ 63) (hl : ds.length < 100000) (hk : k (.nx (G.set i (.own (ds.take j.toNat ++ [d] ++ ds.drop j.toNat)))))
    (hbase : attributeBase (.Name x px) nm X.env (eval (.Name x px) X.env) = eval (.Name x px) X.env := by rfl)
    (hall : (((backTo p (starEach (b :: [e]) X.env)).all (fun x => !x.1) && (backToKw p (keywordEach [] X.env)).all (fun x => x.1.isSome)) && decide ((b :: ([e] : List Expr)).length + ([] : List Keyword).length + (if ([] : List Keyword).isEmpty = true then 0 else 1) < 30)) = true := by rfl)
    (hline : (ap.endLine == p.line) = true := by rfl) (hst : starEach (b :: [e]) X.env = (false, eval b X.env) :: starEach [e] X.env := by rfl) (hst2 : starEach (e :: []) X.env = (false, eval e X.env) :: starEach [] X.env := by rfl) (hpl : (backTo p (starEach [e] X.env)).any (·.1) = false := by rfl)
    (hs : swapsWith (.Call (.Attribute (.Name x px) nm ap) [b, e] [] p) none pos.line X.env = pure false := by rfl) : ExS X W G (.Expr (.Call (.Attribute (.Name x px) nm ap) [b, e] [] p) pos) k := fun B0 H0 B H sg D f n => by
  subst hnm
  refine PS.w (ps_expr (pe_bm PySem.F.plainAttrs_list PySem.F.slot_list_insert PySem.F.type_list_insert mt_insert (pe_var hi hv hd hcd) (pa_cons pe_w (pa_cons pe_w pa_nil hst2) hst) hbase hall hline hst hpl) hs) ?_
  obtain ⟨l, vs, e1, hl1, bl, r, mu, _⟩ := f.own hG
  refine ⟨.ref l, e1, .inl ⟨rfl, _, .inl (.inl hl1)⟩, hb B0 H0 B H sg _ f fun v B1 H1 g1 r1 => he B0 H0 B1 H1 sg _ (f.mono g1) fun w B2 H2 g2 r2 => ?_⟩
  obtain ⟨l', vs', e1', hl', bl', r', mu', _⟩ := ((f.mono g1).mono g2).own hG
  have : l' = l := by rw [e1] at e1'; cases e1'; rfl
  subst this
  cases r1
  exact ⟨l', vs', j, w, rfl, rfl, hl', Nat.lt_of_lt_of_le (by rw [r'.length]; exact hl) (by decide), h0, h1, n.nx _ B2 _ _ hk (mu' _ _ (((r'.take _).append (.cons r2 .nil)).append (r'.drop _)))⟩

/-! ### what is walked -/
def wpI (X : Cx) (tg iter : Expr) : TI := fun sg H R => ∀ pins s, Inv X pins sg H s →
    wpAny (model X.prog X.w) X.A (eval iter X.env) (fun v s1 => wpAny (model X.prog X.w) X.A (PySem.pyIter v) (PIE X pins sg tg R) X.xe s1) X.xe s
theorem pi_w {tg iter : Expr} : PI X tg iter (wpI X tg iter) := ⟨fun pins s sg H R I h => h pins s I⟩
theorem PI.w {tg iter : Expr} {t : TI} (h : PI X tg iter t) {sg : St} {H : Hp} {R : It → Hp → Prop} (q : t sg H R) : wpI X tg iter sg H R := fun pins s I => h.run pins s sg H R I q
structure WalkD (K : PySem.W.Frag) (B : Hp) (J : It) (its : List Dv) : Prop where
  go : ∀ i H, Same B H → i < its.length → J.go i H
  stop : ∀ i H, Same B H → i = its.length → J.stop i H
  yld : ∀ i H v H', Same B H → J.yld i H v H' → ∀ d, its[i]? = some d → ∀ B1, Same B B1 → Same B1 H → ∃ B2, Grow B1 H B2 H' ∧ Rp K B2 v d
def EvI (X : Cx) (G : List Slot) (tg iter : Expr) (its : List Dv) : Prop := ∀ B0 H0 B H sg (R : It → Hp → Prop), FrOk X.K B0 H0 B H G sg → (∀ J B' H', Grow B H B' H' → WalkD X.K B' J its → R J H') → wpI X tg iter sg H R
theorem ei_list {tg : Expr} (h : EvD X G e (.lst ds)) : EvI X G tg e ds := fun B0 H0 B H sg R f q =>
  PI.w (pi_list pe_w) (h B0 H0 B H sg _ f fun v B1 H1 g1 r1 => by
    cases r1 with
    | lst e1 r1 =>
      refine ⟨_, rfl, ⟨_, .inl (.inl (g1.s _ _ e1))⟩, q _ B1 H1 g1 ⟨fun i H s hi => ?_, fun i H s hi => ?_, fun i H v H' s y d hd C c1 c2 => ?_⟩⟩
      · obtain ⟨v, hv, _⟩ := r1.get (List.getElem?_eq_getElem hi)
        exact ⟨_, v, .inl (.inl (s _ _ e1)), hv⟩
      · exact ⟨_, .inl (.inl (s _ _ e1)), by rw [r1.length]; exact Nat.le_of_eq hi.symm⟩
      · obtain ⟨rfl, y⟩ := y
        have hv := y _ (.inl (.inl (s _ _ e1)))
        obtain ⟨w, hw, rw'⟩ := r1.get hd
        rw [hv] at hw
        cases hw
        exact ⟨C, Grow.refl c2, rw'.up c1⟩)
theorem ei_tup {tg : Expr} (h : EvD X G e (.tup ds)) : EvI X G tg e ds := fun B0 H0 B H sg R f q =>
  PI.w (pi_tup pe_w) (h B0 H0 B H sg _ f fun v B1 H1 g1 r1 => by
    cases r1 with
    | tup e1 r1 =>
      refine ⟨_, rfl, ⟨_, .inl (.inl (g1.s _ _ e1))⟩, q _ B1 H1 g1 ⟨fun i H s hi => ?_, fun i H s hi => ?_, fun i H v H' s y d hd C c1 c2 => ?_⟩⟩
      · obtain ⟨v, hv, _⟩ := r1.get (List.getElem?_eq_getElem hi)
        exact ⟨_, v, .inl (.inl (s _ _ e1)), hv⟩
      · exact ⟨_, .inl (.inl (s _ _ e1)), by rw [r1.length]; exact Nat.le_of_eq hi.symm⟩
      · obtain ⟨rfl, y⟩ := y
        have hv := y _ (.inl (.inl (s _ _ e1)))
        obtain ⟨w, hw, rw'⟩ := r1.get hd
        rw [hv] at hw
        cases hw
        exact ⟨C, Grow.refl c2, rw'.up c1⟩)
def rngD (n : Nat) : List Dv := (List.range n).map fun i : Nat => Dv.int (i : Int)
theorem ei_rng {tg : Expr} {x : Str} {n : Nat} (h : EvD X G e (.int (n : Int))) (hn : n < 100000) (hx : x = "range") (hg : Gl X x) (hm : X.mg x = none) (hst : starEach (e :: []) X.env = (false, eval e X.env) :: starEach [] X.env := by rfl)
    (hs : starEach [e] X.env = [(false, eval e X.env)] := by rfl) : EvI X G tg (.Call (.Name x p) [e] [] pos) (rngD n) := fun B0 H0 B H sg R f q => by
  subst hx
  exact PI.w (pi_range1 hg hm (pa_cons pe_w pa_nil hst) hs) (h B0 H0 B H sg _ f fun v B1 H1 g1 r1 => by
    cases r1
    refine ⟨_, rfl, by omega, by omega, q _ B1 H1 g1 ⟨fun i H s hi => ?_, fun i H s hi => ?_, fun i H v H' s y d hd C c1 c2 => ?_⟩⟩
    · unfold rngD at hi
      rw [List.length_map, List.length_range] at hi
      exact hi
    · unfold rngD at hi
      rw [List.length_map, List.length_range] at hi
      exact Nat.le_of_eq hi.symm
    · obtain ⟨rfl, rfl⟩ := y
      unfold rngD at hd
      rw [List.getElem?_map] at hd
      cases e : (List.range n)[i]? with
      | none => rw [e] at hd; cases hd
      | some j =>
        rw [e] at hd
        have : j = i := by
          have h1 := List.getElem?_eq_some_iff.mp e
          obtain ⟨h2, h3⟩ := h1
          simp at h3
          exact h3.symm
        subst this
        cases hd
        refine ⟨C, Grow.refl c2, ?_⟩
        rw [Int.zero_add]
        exact .int _)
theorem ei_str {tg : Expr} {z : Str} (h : EvD X G e (.str z)) : EvI X G tg e (z.cps.toList.map fun c => Dv.str ⟨#[c]⟩) := fun B0 H0 B H sg R f q =>
  PI.w (pi_str pe_w) (h B0 H0 B H sg _ f fun v B1 H1 g1 r1 => by
    cases r1
    refine ⟨z, rfl, q _ B1 H1 g1 ⟨fun i H s hi => ?_, fun i H s hi => ?_, fun i H v H' s y d hd C c1 c2 => ?_⟩⟩
    · have : i < z.cps.size := by simpa using hi
      exact this
    · have : i = z.cps.size := by simpa using hi
      show z.cps.size ≤ i
      omega
    · obtain ⟨rfl, c, hc, rfl⟩ := y
      rw [List.getElem?_map, Array.getElem?_toList, hc] at hd
      cases hd
      exact ⟨C, Grow.refl c2, .str _⟩)
theorem ei_zip {n : Nat} {tgs : List Expr} {x : Str} {tp : Pos} (h1 : EvD X G a (.tup ds1)) (h2 : EvD X G b (.tup ds2)) (hl : ds1.length = ds2.length) (hx : x = "zip") (hg : Gl X x) (hm : X.mg x = none)
    (hs1 : starEach [a, b] X.env = (false, eval a X.env) :: starEach [b] X.env := by rfl) (hs2 : starEach (b :: []) X.env = (false, eval b X.env) :: starEach [] X.env := by rfl) (hpl : (backTo pos (starEach [b] X.env)).any (·.1) = false := by rfl) :
    EvI X G (.Tuple tgs n tp) (.Call (.Name x p) [a, b] [] pos) ((ds1.zip ds2).map fun q => Dv.tup [q.1, q.2]) := fun B0 H0 B H sg R f q => by
  subst hx
  refine PI.w (RZ.pi_zipA hg hm (pa_cons pe_w (pa_cons pe_w pa_nil hs2) hs1) hs1 hpl) (h1 B0 H0 B H sg _ f fun v B1 H1 g1 r1 => h2 B0 H0 B1 H1 sg _ (f.mono g1) fun w B2 H2 g2 r2 => ?_)
  cases r1 with
  | tup e1 r1 =>
    cases r2 with
    | tup e2 r2 =>
      have k1 := g2.b _ _ e1
      have hlen : ((ds1.zip ds2).map fun q => Dv.tup [q.1, q.2]).length = ds1.length := by rw [List.length_map, List.length_zip, hl, Nat.min_self]
      refine ⟨_, _, _, _, rfl, .inr ⟨.inl (.inl (g2.s _ _ k1)), .inl (.inl (g2.s _ _ e2)), q _ B2 H2 (g1.trans g2) ⟨fun i H s hi => ?_, fun i H s hi => ?_, fun i H v H' s y d hd C c1 c2 => ?_⟩⟩⟩
      · rw [hlen] at hi
        obtain ⟨u, hu, _⟩ := r1.get (List.getElem?_eq_getElem hi)
        obtain ⟨u2, hu2, _⟩ := r2.get (List.getElem?_eq_getElem (hl ▸ hi))
        exact ⟨_, _, u, u2, .inl (.inl (s _ _ k1)), .inl (.inl (s _ _ e2)), hu, hu2⟩
      · rw [hlen] at hi
        exact ⟨_, _, .inl (.inl (s _ _ k1)), .inl (.inl (s _ _ e2)), .inl (by rw [r1.length]; exact Nat.le_of_eq hi.symm)⟩
      · obtain ⟨T, x, z, rfl, nT, rfl, f1, f2⟩ := y
        rw [List.getElem?_map] at hd
        cases e : (ds1.zip ds2)[i]? with
        | none => rw [e] at hd; cases hd
        | some q' =>
          rw [e] at hd
          cases hd
          obtain ⟨ea, eb⟩ := List.getElem?_zip_eq_some.mp e
          obtain ⟨u, hu, ru⟩ := r1.get ea
          obtain ⟨u2, hu2, ru2⟩ := r2.get eb
          have hx := f1 _ (.inl (.inl (s _ _ k1)))
          have hz := f2 _ (.inl (.inl (s _ _ e2)))
          rw [hu] at hx; rw [hu2] at hz
          cases hx; cases hz
          have nC : C T = none := c2.free nT
          exact ⟨_, Grow.new c2 nT, .tup upd_same (.cons ((ru.up g2.b).up (c1.trans (same_new nC))) (.cons (ru2.up (c1.trans (same_new nC))) .nil))⟩

/-! ### for -/
theorem s_for {S : Type} {tg iter : Expr} {its : List Dv} (hp : PassesOwn (model X.prog X.w) X.A X.env X.xe) (hc : X.calm = true) (hI : EvI X G tg iter its) (Ga : S → List Slot) (I : Nat → S → Prop) (s0 : S) (h0 : I 0 s0) (hl : Less (Ga s0) G)
    (hs : ∀ i s d, its[i]? = some d → I i s → ∃ G1 js, AsG X (Ga s) tg d G1 js ∧ Ex X W G1 body (fun o => match o with
      | .nx G' => ∃ s', Less (Ga s') G' ∧ I (i + 1) s'
      | o => k o))
    (hd : ∀ s, I its.length s → k (.nx (Ga s))) (hfs : ∀ x : Value, foldedSetIterable iter X.env x = pure x := by intro _; rfl) : ExS X W G (.For tg iter body [] pos) k := fun B0 H0 B H sg D f n =>
  PS.w (ps_for hp hc pi_w pg_w pss_w hfs) (hI B0 H0 B H sg _ f fun J B1 H1 g1 wd => by
    refine ⟨fun i m σ H' => m = its.length - i ∧ i ≤ its.length ∧ ∃ s B', FrOk X.K B0 H0 B' H' (Ga s) σ ∧ Same B1 B' ∧ I i s, ⟨_, rfl, Nat.zero_le _, s0, B1, (f.mono g1).less hl, Same.refl _, h0⟩, ?_⟩
    rintro i m σ H' ⟨rfl, hi, s, B', f', sb, hI'⟩
    have sH : Same B1 H' := sb.trans f'.sub
    by_cases hlt : i < its.length
    · refine .inr ⟨wd.go i H' sH hlt, fun σ' H'' => i + 1 ≤ its.length ∧ ∃ s B', FrOk X.K B0 H0 B' H'' (Ga s) σ' ∧ Same B1 B' ∧ I (i + 1) s, fun σ' H'' q => ⟨its.length - (i + 1), by omega, rfl, q.1, q.2⟩, fun x H'' y => ?_⟩
      obtain ⟨B2, g2, r2⟩ := wd.yld i H' x H'' sH y _ (List.getElem?_eq_getElem hlt) B' sb f'.sub
      obtain ⟨G1, js, ag, bd⟩ := hs i s _ (List.getElem?_eq_getElem hlt) hI'
      -- the body speaks of B2 as its ground, that the walked thing stays known
      refine ag B0 H0 B2 H'' σ x _ (f'.mono g2) r2 fun sg' f3 _ => ?_
      -- from here the entry's ground is B2 itself
      have key : ∀ (B0' H0' : Hp), FrOk X.K B0' H0' B2 H'' G1 sg' → (∀ G B H sg, FrOk X.K B0' H0' B H G sg → FrOk X.K B0 H0 B H G sg) → (∀ B H, Grow B0' H0' B H → Grow B0 H0 B H) → (∀ B H, Grow B0' H0' B H → Same B1 B) →
          wpSs X body { nx := fun σ' H'' => i + 1 ≤ its.length ∧ ∃ s B', FrOk X.K B0 H0 B' H'' (Ga s) σ' ∧ Same B1 B' ∧ I (i + 1) s, rt := D.rt, bk := D.nx, ct := fun σ' H'' => i + 1 ≤ its.length ∧ ∃ s B', FrOk X.K B0 H0 B' H'' (Ga s) σ' ∧ Same B1 B' ∧ I (i + 1) s } sg' H'' :=
        fun B0' H0' f4 c1 c2 c3 => bd B0' H0' B2 H'' sg' _ f4 ⟨fun G' B4 H4 sg4 q4 f5 => by
          obtain ⟨s', l', i'⟩ := q4
          exact ⟨hlt, s', B4, (c1 _ _ _ _ f5).less l', c3 _ _ f5.g, i'⟩, fun d v B4 H4 q4 g4 r4 => n.rt d v B4 H4 q4 (c2 _ _ g4) r4, fun x' G4 B4 H4 sg4 q4 f5 => n.ex x' G4 B4 H4 sg4 q4 (c1 _ _ _ _ f5)⟩
      -- protect what is known now: B0' := B2, H0' := H0 with B2
      have hB : Same B0 B2 := (f'.mono g2).g.b
      have hH : Same H0 H'' := (f'.mono g2).g.h
      obtain ⟨H0', e1, e2⟩ : ∃ H0' : Hp, (∀ a o, H0' a = some o ↔ (H0 a = some o ∨ B2 a = some o)) ∧ (∀ a, H0 a = none → B2 a = none → H0' a = none) := by
        refine ⟨fun a => match H0 a with | some o => some o | none => B2 a, fun a o => ?_, fun a h1 h2 => ?_⟩
        · cases h : H0 a with
          | none => simp [h]
          | some o' =>
            simp only [h]
            refine ⟨fun q => .inl q, fun q => ?_⟩
            rcases q with q | q
            · exact q
            · have z1 := hH a o' h
              have z2 := g2.s a o q
              rw [z1] at z2
              exact z2
        · simp [h1, h2]
      have f6 : FrOk X.K B2 H0' B2 H'' G1 sg' := by
        obtain ⟨al, a1, a2, a3⟩ := f3.adr
        refine ⟨⟨fun a o h => ?_, Same.refl _, g2.s, fun _ _ _ => rfl⟩, f3.len, al, fun j s e os => ?_, a2, a3⟩
        · rcases (e1 a o).mp h with h | h
          · exact hH a o h
          · exact g2.s a o h
        · obtain ⟨ov, _, so⟩ := a3 j s e
          obtain ⟨_, _, nb⟩ := so.at os
          exact e2 _ (a1 j s e os) nb
      have cg : ∀ B H, Grow B2 H0' B H → Grow B0 H0 B H := fun B H g => ⟨fun a o h => g.h a o ((e1 a o).mpr (.inl h)), hB.trans g.b, g.s, fun a o h => (g.n a o ((e1 a o).mpr (.inl h))).trans ((f'.mono g2).g.n a o h)⟩
      refine key B2 H0' f6 (fun G B H sg fr => ⟨cg _ _ fr.g, fr.len, ?_⟩) cg (fun B H g => sb.trans (g2.b.trans g.b))
      obtain ⟨al, a1, a2, a3⟩ := fr.adr
      refine ⟨al, fun j s e os => ?_, a2, a3⟩
      cases hh : H0 (al j) with
      | none => rfl
      | some o =>
        have z := a1 j s e os
        rw [(e1 _ o).mpr (.inl hh)] at z
        cases z
    · have e : i = its.length := by omega
      subst e
      exact .inl ⟨wd.stop _ H' sH rfl, n.nx _ B' H' _ (hd s hI') f'⟩)
end
end DT

set_option Elab.async false
set_option linter.all false
set_option maxRecDepth 100000
namespace DT
open PySem PySem.Spec L2
open PyProof.Rows hiding St

/-! ### comprehensions -/
def wipeG (G : List Slot) : List Nat → List Slot
  | [] => G
  | v :: vs => (wipeG G vs).set v .free
theorem FrOk.setF {K : PySem.W.Frag} {B0 H0 B H : Hp} {G : List Slot} {sg : St} (f : FrOk K B0 H0 B H G sg) (i : Nat) (ov : Option V) : FrOk K B0 H0 B H (G.set i .free) (sg.set i ov) := by
  obtain ⟨al, a1, a2, a3⟩ := f.adr
  have u : ∀ j s, (G.set i .free)[j]? = some s → OwnLike s → j ≠ i ∧ G[j]? = some s := fun j s e o => by
    by_cases hj : j = i
    · subst hj
      by_cases hl : j < G.length
      · rw [List.getElem?_set_self hl] at e; cases e; exact o.elim
      · rw [List.getElem?_eq_none (by simpa using hl)] at e; cases e
    · rw [List.getElem?_set_ne (Ne.symm hj)] at e
      exact ⟨hj, e⟩
  refine ⟨f.g, by rw [List.length_set, List.length_set]; exact f.len, al, fun j s e o => a1 j s (u j s e o).2 o, fun j k s t e1 e2 o1 o2 => a2 j k s t (u j s e1 o1).2 (u k t e2 o2).2 o1 o2, fun j s e => ?_⟩
  by_cases hj : j = i
  · subst hj
    by_cases hl : j < G.length
    · rw [List.getElem?_set_self hl] at e; cases e
      exact ⟨ov, List.getElem?_set_self (f.len ▸ hl), trivial⟩
    · rw [List.getElem?_eq_none (by simpa using hl)] at e; cases e
  · rw [List.getElem?_set_ne (Ne.symm hj)] at e ⊢
    exact a3 j s e
theorem FrOk.wipe {K : PySem.W.Frag} {B0 H0 B H : Hp} {G : List Slot} {sg : St} (f : FrOk K B0 H0 B H G sg) : ∀ vs : List Nat, FrOk K B0 H0 B H (wipeG G vs) (L2.wipe sg vs)
  | [] => f
  | v :: vs => (FrOk.wipe f vs).setF v none
theorem wipe_at (sg : St) : ∀ (vs : List Nat) (k : Nat), (L2.wipe sg vs)[k]? = if k ∈ vs then (sg[k]?).map (fun _ => none) else sg[k]?
  | [], k => by simp [L2.wipe]
  | v :: vs, k => by
    unfold L2.wipe
    by_cases hv : v = k
    · subst hv
      rw [if_pos (List.mem_cons_self)]
      by_cases hl : v < sg.length
      · rw [List.getElem?_set_self (by rw [wipe_length]; exact hl), List.getElem?_eq_getElem hl]; rfl
      · rw [List.getElem?_eq_none (by simpa [wipe_length] using hl), List.getElem?_eq_none (by omega)]; rfl
    · rw [List.getElem?_set_ne hv, wipe_at sg vs k]
      have : (k ∈ v :: vs) ↔ k ∈ vs := by simp [Ne.symm hv]
      by_cases hk : k ∈ vs
      · rw [if_pos hk, if_pos (this.mpr hk)]
      · rw [if_neg hk, if_neg (fun z => hk (this.mp z))]
theorem Chg.wipe {js vs : List Nat} {sg sg' : St} (h : Chg js (L2.wipe sg vs) sg') (hj : ∀ j ∈ js, j ∈ vs) : L2.wipe sg' vs = L2.wipe sg vs := by
  apply List.ext_getElem?
  intro k
  have hl : sg'.length = sg.length := by rw [h.1, wipe_length]
  rw [wipe_at, wipe_at]
  by_cases hk : k ∈ vs
  · rw [if_pos hk, if_pos hk]
    by_cases hlt : k < sg.length
    · rw [List.getElem?_eq_getElem hlt, List.getElem?_eq_getElem (by rw [hl]; exact hlt)]; rfl
    · rw [List.getElem?_eq_none (by omega), List.getElem?_eq_none (by omega)]
  · rw [if_neg hk, if_neg hk, h.2 k (fun z => hk (hj k z)), wipe_at, if_neg hk]

def BK (X : Cx) (scope : Scope) (P : Cx → Prop) : Prop := ∀ (s : Shared) (H : Hp) (C : Addr) (cl : List (Str × Addr)) (fp : List Addr), P (X.blk s H scope (compEnvC scope cl C X.env) fp)
/-- one turn of a comprehension: the item d gives r -/
def Turn1 (X : Cx) (scope : Scope) (G : List Slot) (vs : List Nat) (tg : Expr) (ifs : List Expr) (elt : Expr) (d : Dv) (r : Option Dv) : Prop :=
  ∃ G1 js, (∀ j ∈ js, j ∈ vs) ∧ BK X scope (fun Y => AsG Y (wipeG G vs) tg d G1 js) ∧ match ifs with
    | [] => ∃ e, r = some e ∧ BK X scope (fun Y => EvD Y G1 elt e)
    | [c] => ∃ b, BK X scope (fun Y => EvB Y G1 c b) ∧ (b = true → ∃ e, r = some e ∧ BK X scope (fun Y => EvD Y G1 elt e)) ∧ (b = false → r = none)
    | _ => False
section
variable {X : Cx} {W : WX} {G : List Slot} {a b c e o : Expr} {es rest : List Expr} {pos p p2 : Pos} {d d1 d2 d3 : Dv} {ds ds1 ds2 : List Dv}
def tbE (X : Cx) (scope : Scope) (e : Expr) : TE := fun sg H Q => BK X scope fun Y => wpE Y e sg H Q
def tbG (X : Cx) (scope : Scope) (e : Expr) : TG := fun v sg H Q => BK X scope fun Y => wpG Y e v sg H Q
def tbT (X : Cx) (scope : Scope) (ifs : List Expr) : TT := fun sg H Q => match ifs with
  | [] => Q true H
  | [c] => BK X scope fun Y => wpT Y c sg H Q
  | _ => False
theorem ptb {X : Cx} {scope : Scope} {ifs : List Expr} (s : Shared) (H : Hp) (C : Addr) (cl : List (Str × Addr)) (fp : List Addr) : PTs (X.blk s H scope (compEnvC scope cl C X.env) fp) ifs (tbT X scope ifs) := by
  match ifs with
  | [] => exact pts_nil
  | [c] => exact pts_one ⟨fun pins s' sg H' Q I h => (h s H C cl fp) pins s' I⟩
  | _ :: _ :: _ => exact ⟨fun _ _ _ _ _ _ h => h.elim⟩
theorem take_fm {rs : List (Option Dv)} {i : Nat} {r : Option Dv} (h : rs[i]? = some r) : (rs.take (i + 1)).filterMap id = (rs.take i).filterMap id ++ r.toList := by
  rw [List.take_add_one, h, Option.toList_some, List.filterMap_append]
  cases r <;> rfl
theorem tlc_of {tg iter elt : Expr} {ifs : List Expr} {scope : Scope} {vs : List Nat} {its : List Dv} {rs : List (Option Dv)} (hI : EvI X G tg iter its) (hrs : rs.length = its.length) (hz : its.length < 100000)
    (hb : ∀ (i : Nat) (d : Dv) (r : Option Dv), its[i]? = some d → rs[i]? = some r → Turn1 X scope G vs tg ifs elt d r) {B0 H0 B H : Hp} {sg : St} {Q : VK} (f : FrOk X.K B0 H0 B H G sg)
    (q : ∀ p ws B' H', Grow B H B' H' → H p = none → B' p = none → H' p = some (.lst ws) → Rps X.K B' ws (rs.filterMap id) → Q (.ref p) H') :
    tLc (wpI X tg iter) (tbG X scope tg) (tbT X scope ifs) (tbE X scope elt) vs sg H Q :=
  hI B0 H0 B H sg _ f fun J B1 H1 g1 wd D hD => by
    have lres : ∀ i, ((rs.take i).filterMap id).length ≤ its.length := fun i => by
      have h1 := List.length_filterMap_le (id : Option Dv → Option Dv) (rs.take i)
      have h2 : (rs.take i).length ≤ rs.length := by rw [List.length_take]; exact Nat.min_le_right _ _
      omega
    have f1 := f.mono g1
    refine ⟨fun i m H' => m = its.length - i ∧ i ≤ its.length ∧ ∃ B' ws, Grow B1 H1 B' H' ∧ B' D = none ∧ H' D = some (.lst ws) ∧ Rps X.K B' ws ((rs.take i).filterMap id),
      ⟨_, rfl, Nat.zero_le _, B1, [], Grow.newO g1.s hD, g1.s.free hD, upd_same, by simpa using Rps.nil⟩, ?_⟩
    rintro i m H' ⟨rfl, hi, B', ws, g2, bD, hD', r2⟩
    by_cases hlt : i < its.length
    · refine .inr ⟨wd.go i H' (g2.b.trans g2.s) hlt, fun H'' => i + 1 ≤ its.length ∧ ∃ B' ws, Grow B1 H1 B' H'' ∧ B' D = none ∧ H'' D = some (.lst ws) ∧ Rps X.K B' ws ((rs.take (i + 1)).filterMap id), fun H'' z => ⟨_, by omega, rfl, z.1, z.2⟩, fun x H'' y => ?_⟩
      obtain ⟨B2, g3, rx⟩ := wd.yld i H' x H'' (g2.b.trans g2.s) y _ (List.getElem?_eq_getElem hlt) B' g2.b g2.s
      obtain ⟨r, hr⟩ : ∃ r, rs[i]? = some r := ⟨_, List.getElem?_eq_getElem (by rw [hrs]; exact hlt)⟩
      obtain ⟨G1, js, hj, ag, tn⟩ := hb i _ r (List.getElem?_eq_getElem hlt) hr
      have fw := ((f1.mono g2).mono g3).wipe vs
      have bD2 : B2 D = none := (g3.n _ _ hD').trans bD
      have hD2 : H'' D = some (.lst ws) := g3.h _ _ hD'
      have fin : ∀ (e : Dv) (z : V) (B4 H4 : Hp), r = some e → Grow B2 H'' B4 H4 → Rp X.K B4 z e → ∃ acc, H4 D = some (.lst acc) ∧ acc.length < sizeLine ∧ (i + 1 ≤ its.length ∧ ∃ B' ws, Grow B1 H1 B' (upd H4 D (.lst (acc ++ [z]))) ∧ B' D = none ∧ (upd H4 D (.lst (acc ++ [z]))) D = some (.lst ws) ∧ Rps X.K B' ws ((rs.take (i + 1)).filterMap id)) := by
        intro e z B4 H4 er g4 rz
        have hl : ws.length < sizeLine := by
          rw [r2.length]
          exact Nat.lt_of_lt_of_le (Nat.lt_of_le_of_lt (lres i) hz) (by decide)
        have bD4 : B4 D = none := (g4.n _ _ hD2).trans bD2
        have g := (g2.trans g3).trans g4
        refine ⟨ws, g4.h _ _ hD2, hl, hlt, B4, ws ++ [z], ⟨fun a o h => ?_, g.b, fun a o h => ?_, g.n⟩, bD4, upd_same, ?_⟩
        · rw [upd_ne (ne_of_none h hD)]; exact g.h a o h
        · rw [upd_ne (ne_of_none h bD4)]; exact g.s a o h
        · rw [take_fm hr, er]
          exact (r2.up (g3.trans g4).b).append (.cons rz .nil)
      intro s H₁ C cl fp
      refine (ag s H₁ C cl fp) B0 H0 B2 H'' _ x _ fw rx fun sg2 f2 ch => ⟨ch.wipe hj, ?_⟩
      match ifs, tn with
      | [], tn =>
        obtain ⟨e, er, he⟩ := tn
        unfold tbT
        dsimp only
        rw [if_pos rfl]
        exact fun s H₁ C cl fp => (he s H₁ C cl fp) B0 H0 B2 H'' sg2 _ f2 fun z B4 H4 g4 rz => fin e z B4 H4 er g4 rz
      | [c], tn =>
        obtain ⟨b, hc, h1, h2⟩ := tn
        intro s H₁ C cl fp
        refine (hc s H₁ C cl fp).t B0 H0 B2 H'' sg2 _ f2 fun B3 H3 g4 => ?_
        cases b with
        | true =>
          obtain ⟨e, er, he⟩ := h1 rfl
          rw [if_pos rfl]
          exact fun s H₁ C cl fp => (he s H₁ C cl fp) B0 H0 B3 H3 sg2 _ (f2.mono g4) fun z B4 H4 g5 rz => fin e z B4 H4 er (g4.trans g5) rz
        | false =>
          rw [if_neg Bool.false_ne_true]
          refine ⟨hlt, B3, ws, (g2.trans g3).trans g4, (g4.n _ _ hD2).trans bD2, g4.h _ _ hD2, ?_⟩
          rw [take_fm hr, h2 rfl]
          simpa using r2.up (g3.trans g4).b
      | _ :: _ :: _, tn => exact tn.elim
    · have e : i = its.length := by omega
      subst e
      refine .inl ⟨wd.stop _ H' (g2.b.trans g2.s) rfl, q D ws B' H' (g1.trans g2) (g1.h.free hD) bD hD' ?_⟩
      rw [← hrs, List.take_length] at r2
      exact r2
/-- what a comprehension gives -/
structure LcOk (X : Cx) (G : List Slot) (tg iter : Expr) (ifs : List Expr) (elt : Expr) (scope : Scope) (own : List (Str × Nat)) (ds : List Dv) : Prop where
  ex : ∃ (its : List Dv) (rs : List (Option Dv)), EvI X G tg iter its ∧ rs.length = its.length ∧ its.length < 100000 ∧ (∀ (i : Nat) (d : Dv) (r : Option Dv), its[i]? = some d → rs[i]? = some r → Turn1 X scope G (own.map (·.2)) tg ifs elt d r) ∧ ds = rs.filterMap id
  ok : BlkOk X.N X.env.scope scope own
theorem fm_some {α β : Type} (f : α → β) : ∀ l : List α, (l.map fun x => some (f x)).filterMap id = l.map f
  | [] => rfl
  | a :: l => by simp [fm_some f l]
/-- [elt for x in xs] -/
theorem lc_map {α : Type} {tg iter elt : Expr} {scope : Scope} {own : List (Str × Nat)} {xs : List α} (enc : α → Dv) (h : α → Dv) (hI : EvI X G tg iter (xs.map enc)) (hz : xs.length < 100000) (ok : BlkOk X.N X.env.scope scope own)
    (hb : ∀ x ∈ xs, Turn1 X scope G (own.map (·.2)) tg [] elt (enc x) (some (h x))) : LcOk X G tg iter [] elt scope own (xs.map h) := by
  refine ⟨⟨xs.map enc, xs.map fun x => some (h x), hI, by simp, by simpa using hz, fun i d r e1 e2 => ?_, (fm_some h xs).symm⟩, ok⟩
  rw [List.getElem?_map] at e1 e2
  cases e : xs[i]? with
  | none => rw [e] at e1; cases e1
  | some x =>
    rw [e] at e1 e2
    cases e1; cases e2
    exact hb x (List.mem_of_getElem? e)
theorem fm_if {α β : Type} (p : α → Bool) (f : α → β) : ∀ l : List α, (l.map fun x => if p x = true then some (f x) else none).filterMap id = (l.filter p).map f
  | [] => rfl
  | a :: l => by
    rw [List.map_cons, List.filter_cons]
    by_cases h : p a = true
    · simp [h, fm_if p f l]
    · simp [h, fm_if p f l]
/-- [elt for x in xs if c] -/
theorem lc_if {α : Type} {tg iter elt c : Expr} {scope : Scope} {own : List (Str × Nat)} {xs : List α} (enc : α → Dv) (pr : α → Bool) (h : α → Dv) (hI : EvI X G tg iter (xs.map enc)) (hz : xs.length < 100000) (ok : BlkOk X.N X.env.scope scope own)
    (hb : ∀ x ∈ xs, Turn1 X scope G (own.map (·.2)) tg [c] elt (enc x) (if pr x = true then some (h x) else none)) : LcOk X G tg iter [c] elt scope own ((xs.filter pr).map h) := by
  refine ⟨⟨xs.map enc, xs.map fun x => if pr x = true then some (h x) else none, hI, by simp, by simpa using hz, fun i d r e1 e2 => ?_, (fm_if pr h xs).symm⟩, ok⟩
  rw [List.getElem?_map] at e1 e2
  cases e : xs[i]? with
  | none => rw [e] at e1; cases e1
  | some x =>
    rw [e] at e1 e2
    cases e1; cases e2
    exact hb x (List.mem_of_getElem? e)
theorem turn_map {scope : Scope} {vs : List Nat} {tg elt : Expr} {G1 : List Slot} {js : List Nat} {e : Dv} (hj : ∀ j ∈ js, j ∈ vs) (ha : BK X scope (fun Y => AsG Y (wipeG G vs) tg d G1 js)) (he : BK X scope (fun Y => EvD Y G1 elt e)) : Turn1 X scope G vs tg [] elt d (some e) :=
  ⟨G1, js, hj, ha, e, rfl, he⟩
theorem turn_if {scope : Scope} {vs : List Nat} {tg elt c : Expr} {G1 : List Slot} {js : List Nat} {e : Dv} {b : Bool} (hj : ∀ j ∈ js, j ∈ vs) (ha : BK X scope (fun Y => AsG Y (wipeG G vs) tg d G1 js)) (hc : BK X scope (fun Y => EvB Y G1 c b)) (he : b = true → BK X scope (fun Y => EvD Y G1 elt e)) :
    Turn1 X scope G vs tg [c] elt d (if b = true then some e else none) :=
  ⟨G1, js, hj, ha, b, hc, fun h => ⟨e, by rw [if_pos h], he h⟩, fun h => by rw [if_neg (by simp [h])]⟩
theorem en_lc {tg iter elt : Expr} {ifs : List Expr} {scope : Scope} {own : List (Str × Nat)} (hc : X.calm = true) (hN : X.N.Nodup) (l : LcOk X G tg iter ifs elt scope own ds) (hs : ∀ x : Value, foldedSetIterable iter X.env x = pure x := by intro _; rfl) :
    EvN X G (.ListComp elt [⟨tg, iter, ifs, 0⟩] scope pos) ds := fun B0 H0 B H sg Q f q => by
  obtain ⟨⟨its, rs, hI, hrs, hz, hb, rfl⟩, ok⟩ := l
  exact PE.w (pe_lc (wi := wpI X tg iter) (g := tbG X scope tg) (tt := tbT X scope ifs) (te := tbE X scope elt) hc hN pi_w ok (fun s H C cl fp => ⟨fun pins s' sg H' v u Q I r h => (h s H C cl fp) pins s' u I r⟩) (fun s H C cl fp => ptb s H C cl fp) (fun s H C cl fp => ⟨fun pins s' sg H' Q I h => (h s H C cl fp) pins s' I⟩) hs)
    (tlc_of hI hrs hz hb f q)
theorem s_setLc {y : Str} {py spos : Pos} {tg iter elt : Expr} {ifs : List Expr} {scope : Scope} {own : List (Str × Nat)} {k : Out → Prop} (i : Nat) (hc : X.calm = true) (hN : X.N.Nodup) (hy : X.N[i]? = some y) (hyl : X.env.scope.names.lookup y = some .local)
    (hsw : swapsWith (.ListComp elt [⟨tg, iter, ifs, 0⟩] scope pos) (some (.Name y py)) spos.line X.env = pure true) (l : LcOk X G tg iter ifs elt scope own ds) (hk : k (.nx (G.set i (.own ds)))) (hs : ∀ x : Value, foldedSetIterable iter X.env x = pure x := by intro _; rfl) :
    ExS X W G (.Assign [.Name y py] (.ListComp elt [⟨tg, iter, ifs, 0⟩] scope pos) spos) k := fun B0 H0 B H sg D f n => by
  obtain ⟨⟨its, rs, hI, hrs, hz, hb, rfl⟩, ok⟩ := l
  exact PS.w (ps_setLc (wi := wpI X tg iter) (g := tbG X scope tg) (tt := tbT X scope ifs) (te := tbE X scope elt) hc hN hy hyl hsw pi_w ok (fun s H C cl fp => ⟨fun pins s' sg H' v u Q I r h => (h s H C cl fp) pins s' u I r⟩) (fun s H C cl fp => ptb s H C cl fp) (fun s H C cl fp => ⟨fun pins s' sg H' Q I h => (h s H C cl fp) pins s' I⟩) hs)
    (tlc_of hI hrs hz hb f fun p ws B1 H1 g1 hp bp h1 r1 => n.nx _ B1 H1 _ hk (f.setO g1 hp ⟨rfl, bp, ws, h1, r1⟩))

/-! ### more built-ins -/
theorem Rps.bl_eq {K : PySem.W.Frag} {B : Hp} : ∀ {bs : List Bool} {vs : List V}, Rps K B vs (bs.map Dv.bl) → vs = bs.map V.bl
  | [], _, .nil => rfl
  | n :: ns, _, .cons r rs => by
    cases r
    rw [Rps.bl_eq rs]; rfl
theorem ev_all {x : Str} {bs : List Bool} (hc : X.calm = true) (ha : EvP X G a (bs.map Dv.bl)) (hx : x = "all") (hg : Gl X x) (hm : X.mg x = none) (he : starEach (a :: []) X.env = (false, eval a X.env) :: starEach [] X.env := by rfl) (hpl : (backTo pos (starEach [] X.env)).any (·.1) = false := by rfl) :
    EvD X G (.Call (.Name x p) [a] [] pos) (.bl (bs.all id)) := fun B0 H0 B H sg Q f q => by
  subst hx
  exact PE.w (pe_callB (cr_all hc) hg hm (by decide +kernel) (pa_cons pe_w pa_nil he) (he := he) (hpl := hpl)) (ha B0 H0 B H sg _ f fun l vs B1 H1 g1 e1 r1 => by
    have ev := r1.bl_eq
    subst ev
    exact ⟨l, bs, rfl, .inl (.inl e1), q _ B1 H1 g1 (.bl _)⟩)
theorem Rps.int_eq {K : PySem.W.Frag} {B : Hp} : ∀ {ns : List Int} {vs : List V}, Rps K B vs (ns.map Dv.int) → vs = ns.map V.int
  | [], _, .nil => rfl
  | n :: ns, _, .cons r rs => by
    cases r
    rw [Rps.int_eq rs]; rfl
theorem ev_min {x : Str} {ns : List Int} {m : Int} (hc : X.calm = true) (ha : EvP X G a (ns.map Dv.int)) (h0 : 0 < ns.length) (hmn : ∀ m', m' ∈ ns → (∀ y ∈ ns, m' ≤ y) → m' = m) (hx : x = "min") (hg : Gl X x) (hm : X.mg x = none) (he : starEach (a :: []) X.env = (false, eval a X.env) :: starEach [] X.env := by rfl) (hpl : (backTo pos (starEach [] X.env)).any (·.1) = false := by rfl) :
    EvD X G (.Call (.Name x p) [a] [] pos) (.int m) := fun B0 H0 B H sg Q f q => by
  subst hx
  exact PE.w (pe_callB (cr_min hc) hg hm (by decide +kernel) (pa_cons pe_w pa_nil he) (he := he) (hpl := hpl)) (ha B0 H0 B H sg _ f fun l vs B1 H1 g1 e1 r1 => by
    have ev := r1.int_eq
    subst ev
    exact ⟨l, ns, rfl, .inl (.inl e1), h0, fun m' h1 h2 => by rw [hmn m' h1 h2]; exact q _ B1 H1 g1 (.int _)⟩)
theorem ev_max {x : Str} {ns : List Int} {m : Int} (hc : X.calm = true) (ha : EvP X G a (ns.map Dv.int)) (h0 : 0 < ns.length) (hmn : ∀ m', m' ∈ ns → (∀ y ∈ ns, y ≤ m') → m' = m) (hx : x = "max") (hg : Gl X x) (hm : X.mg x = none) (he : starEach (a :: []) X.env = (false, eval a X.env) :: starEach [] X.env := by rfl) (hpl : (backTo pos (starEach [] X.env)).any (·.1) = false := by rfl) :
    EvD X G (.Call (.Name x p) [a] [] pos) (.int m) := fun B0 H0 B H sg Q f q => by
  subst hx
  exact PE.w (pe_callB (cr_max hc) hg hm (by decide +kernel) (pa_cons pe_w pa_nil he) (he := he) (hpl := hpl)) (ha B0 H0 B H sg _ f fun l vs B1 H1 g1 e1 r1 => by
    have ev := r1.int_eq
    subst ev
    exact ⟨l, ns, rfl, .inl (.inl e1), h0, fun m' h1 h2 => by rw [hmn m' h1 h2]; exact q _ B1 H1 g1 (.int _)⟩)
/-- list(range(n)) -/
theorem en_listRng {x y : Str} {n : Nat} (hc : X.calm = true) (ha : EvD X G a (.int (n : Int))) (hn : n < 100000) (hx : x = "list") (hy : y = "range") (hg : Gl X x) (hm : X.mg x = none) (hg2 : Gl X y) (hm2 : X.mg y = none) {pr qr : Pos}
    (na : starEach [a] X.env = (false, eval a X.env) :: starEach [] X.env := by rfl) (na2 : starEach [Expr.Call (.Name y pr) [a] [] qr] X.env = (false, eval (Expr.Call (.Name y pr) [a] [] qr) X.env) :: starEach [] X.env := by rfl) :
    EvN X G (.Call (.Name x p) [.Call (.Name y pr) [a] [] qr] [] pos) (rngD n) := fun B0 H0 B H sg Q f q => by
  subst hx hy
  exact PE.w (pe_listRg hc hg hm (prg_1 hg2 hm2 pe_w na) na2) (ha B0 H0 B H sg _ f fun v B1 H1 g1 r1 => by
    cases r1
    refine ⟨(n : Int), rfl, ⟨by omega, by omega, by omega, by omega, by omega⟩, fun l hl => q l _ B1 _ (g1.trans (Grow.newO g1.s hl)) (g1.h.free hl) (g1.s.free hl) upd_same ?_⟩
    have e : rgV 0 (n : Int) = ((List.range n).map fun i : Nat => (i : Int)).map V.int := by
      unfold rgV
      simp
    have e2 : rngD n = ((List.range n).map fun i : Nat => (i : Int)).map Dv.int := by
      unfold rngD
      simp
    rw [e, e2]
    exact Rps.ints _)
/-- xs.index(y) of a list of ints -/
theorem ev_index {nm : Str} {ns : List Int} {y : Int} {j : Nat} {ap : Pos} (ha : EvP X G a (ns.map Dv.int)) (hnm : nm = "index") (he : EvD X G e (.int y)) (h1 : ns[j]? = some y) (h2 : ∀ m z, m < j → ns[m]? = some z → z ≠ y)
    (hbase : attributeBase a nm X.env (eval a X.env) = eval a X.env := by rfl)
    (hall : (((backTo p (starEach (e :: []) X.env)).all (fun x => !x.1) && (backToKw p (keywordEach [] X.env)).all (fun x => x.1.isSome)) && decide ((e :: ([] : List Expr)).length + ([] : List Keyword).length + (if ([] : List Keyword).isEmpty = true then 0 else 1) < 30)) = true := by rfl)
    (hline : (ap.endLine == p.line) = true := by rfl) (hst : starEach (e :: []) X.env = (false, eval e X.env) :: starEach [] X.env := by rfl) (hpl : (backTo p (starEach [] X.env)).any (·.1) = false := by rfl) :
    EvD X G (.Call (.Attribute a nm ap) [e] [] p) (.int (j : Int)) := fun B0 H0 B H sg Q f q => by
  subst hnm
  refine PE.w (pe_bm PySem.F.plainAttrs_list PySem.F.slot_list_index PySem.F.type_list_index mt_index pe_w (pa_cons pe_w pa_nil hst) hbase hall hline hst hpl) (ha B0 H0 B H sg _ f fun l vs B1 H1 g1 e1 r1 =>
    ⟨.inl ⟨rfl, _, .inl (.inl e1)⟩, he B0 H0 B1 H1 sg _ (f.mono g1) fun v B2 H2 g2 r2 => ?_⟩)
  cases r2
  have ev := r1.int_eq
  subst ev
  have fl : ∀ ns : List Int, (ns.map V.int).all flatV = true := fun ns => by simp [flatV]
  refine ⟨l, _, .int y, j, .int y, rfl, rfl, .inl (.inl (g2.h _ _ e1)), rfl, fl ns, by rw [List.getElem?_map, h1]; rfl, by simp [eqV], fun m z hm hz => ?_, q _ B2 H2 (g1.trans g2) (.int _)⟩
  rw [List.getElem?_map] at hz
  cases e : ns[m]? with
  | none => rw [e] at hz; cases hz
  | some w =>
    rw [e] at hz
    cases hz
    simpa [eqV] using h2 m w hm e
theorem ev_countS {nm : Str} {x y : Str} {ap : Pos} (ha : EvD X G a (.str x)) (hnm : nm = "count") (he : EvD X G e (.str y))
    (hbase : attributeBase a nm X.env (eval a X.env) = eval a X.env := by rfl)
    (hall : (((backTo p (starEach (e :: []) X.env)).all (fun x => !x.1) && (backToKw p (keywordEach [] X.env)).all (fun x => x.1.isSome)) && decide ((e :: ([] : List Expr)).length + ([] : List Keyword).length + (if ([] : List Keyword).isEmpty = true then 0 else 1) < 30)) = true := by rfl)
    (hline : (ap.endLine == p.line) = true := by rfl) (hst : starEach (e :: []) X.env = (false, eval e X.env) :: starEach [] X.env := by rfl) (hpl : (backTo p (starEach [] X.env)).any (·.1) = false := by rfl) :
    EvD X G (.Call (.Attribute a nm ap) [e] [] p) (.int (Txt.count x y)) := fun B0 H0 B H sg Q f q => by
  subst hnm
  refine PE.w (pe_bm PySem.F.plainAttrs_str PySem.F.slot_str_count PySem.F.type_str_count mt_count pe_w (pa_cons pe_w pa_nil hst) hbase hall hline hst hpl) (ha B0 H0 B H sg _ f fun v B1 H1 g1 r1 => by
    cases r1
    exact ⟨rfl, he B0 H0 B1 H1 sg _ (f.mono g1) fun v B2 H2 g2 r2 => by
      cases r2
      exact ⟨x, y, rfl, rfl, q _ B2 H2 (g1.trans g2) (.int _)⟩⟩)
/-! ### dicts of ints -/
def putD (kvs : List (Int × Dv)) (k : Int) (d : Dv) : List (Int × Dv) :=
  if (kvs.any fun kv => decide (kv.1 = k)) = true then kvs.map (fun kv => if kv.1 = k then (kv.1, d) else kv) else kvs ++ [(k, d)]
def lookD (kvs : List (Int × Dv)) (k : Int) : Option Dv := (kvs.find? fun kv => decide (kv.1 = k)).map (·.2)
theorem RpK.any {K : PySem.W.Frag} {B : Hp} {k : Int} : ∀ {kvv : List (Key × V)} {kvs : List (Int × Dv)}, RpK K B kvv kvs → (kvv.any fun kv => decide (kv.1 = Sum.inl k)) = (kvs.any fun kv => decide (kv.1 = k))
  | _, _, .nil => rfl
  | (x :: _), (_ :: _), .cons a r => by
    rw [List.any_cons, List.any_cons, RpK.any r, a.1]
    congr 1
    simp
theorem RpK.map {K : PySem.W.Frag} {B : Hp} {k : Int} {v : V} {d : Dv} (h : Rp K B v d) : ∀ {kvv : List (Key × V)} {kvs : List (Int × Dv)}, RpK K B kvv kvs →
    RpK K B (kvv.map fun kv => if kv.1 = Sum.inl k then (kv.1, v) else kv) (kvs.map fun kv => if kv.1 = k then (kv.1, d) else kv)
  | _, _, .nil => .nil
  | (x :: _), (y :: _), .cons a r => by
    refine .cons ?_ (RpK.map h r)
    show (if x.1 = Sum.inl k then (x.1, v) else x).1 = Sum.inl (if y.1 = k then (y.1, d) else y).1 ∧ Rp K B (if x.1 = Sum.inl k then (x.1, v) else x).2 (if y.1 = k then (y.1, d) else y).2
    by_cases e : y.1 = k
    · have e' : x.1 = Sum.inl k := by rw [a.1, e]
      rw [if_pos e', if_pos e]
      exact ⟨a.1, h⟩
    · have e' : ¬ x.1 = Sum.inl k := by rw [a.1]; intro z; exact e (Sum.inl.inj z)
      rw [if_neg e', if_neg e]
      exact a
theorem RpK.snoc {K : PySem.W.Frag} {B : Hp} {k : Int} {v : V} {d : Dv} (h : Rp K B v d) : ∀ {kvv : List (Key × V)} {kvs : List (Int × Dv)}, RpK K B kvv kvs → RpK K B (kvv ++ [(Sum.inl k, v)]) (kvs ++ [(k, d)])
  | _, _, .nil => .cons ⟨rfl, h⟩ .nil
  | _, _, .cons a r => .cons a (RpK.snoc h r)
theorem RpK.put {K : PySem.W.Frag} {B : Hp} {k : Int} {v : V} {d : Dv} {kvv : List (Key × V)} {kvs : List (Int × Dv)} (r : RpK K B kvv kvs) (h : Rp K B v d) : RpK K B (putK kvv (Sum.inl k) v) (putD kvs k d) := by
  unfold putK putD
  rw [r.any]
  by_cases e : (kvs.any fun kv => decide (kv.1 = k)) = true
  · rw [if_pos e, if_pos e]
    exact r.map h
  · rw [if_neg e, if_neg e]
    exact r.snoc h
theorem RpK.look {K : PySem.W.Frag} {B : Hp} {k : Int} {d : Dv} : ∀ {kvv : List (Key × V)} {kvs : List (Int × Dv)}, RpK K B kvv kvs → lookD kvs k = some d → ∃ v, valV kvv (Sum.inl k : Key) = some v ∧ Rp K B v d
  | _, _, .nil, h => by simp [lookD] at h
  | (x :: xs), (y :: ys), .cons a r, h => by
    unfold lookD at h
    unfold valV
    rw [List.find?_cons] at h ⊢
    by_cases e : y.1 = k
    · rw [decide_eq_true e] at h
      rw [show decide (x.1 = Sum.inl k) = true by rw [a.1, e]; simp]
      simp only [Option.map_some] at h ⊢
      cases h
      exact ⟨_, rfl, a.2⟩
    · rw [decide_eq_false e] at h
      rw [show decide (x.1 = Sum.inl k) = false by rw [a.1]; simp [e]]
      exact RpK.look r h
theorem RpK.length {K : PySem.W.Frag} {B : Hp} : ∀ {kvv : List (Key × V)} {kvs : List (Int × Dv)}, RpK K B kvv kvs → kvv.length = kvs.length
  | _, _, .nil => rfl
  | _, _, .cons a r => by simp [RpK.length r]
theorem s_dict0 {x : Str} {pos' p3 : Pos} {k : Out → Prop} (i : Nat) (hN : X.N.Nodup) (hi : X.N[i]? = some x) (hx : Loc X.env.scope x) (hk : k (.nx (G.set i (.dic [])))) (hs : swapsWith (.Dict [] [] p3) (some (.Name x pos')) pos.line X.env = pure false)
    (hf : X.fn x = true ∨ X.env.scope.names.lookup x = some .local) : ExS X W G (.Assign [.Name x pos'] (.Dict [] [] p3) pos) k := fun B0 H0 B H sg D f n =>
  PS.w (ps_set hN hi hx pe_dnewK hs hf) (fun p hp => n.nx _ B _ _ hk (f.setO (Grow.newO f.sub hp) hp ⟨rfl, f.sub.free hp, [], upd_same, .nil⟩))
theorem FrOk.dic {K : PySem.W.Frag} {B0 H0 B H : Hp} {sg : St} (f : FrOk K B0 H0 B H G sg) {i : Nat} {kvs : List (Int × Dv)} (h : G[i]? = some (.dic kvs)) : ∃ p kvv, sg[i]? = some (some (.ref p)) ∧ H p = some (.dK kvv) ∧ RpK K B kvv kvs ∧
    (∀ kvv' kvs', RpK K B kvv' kvs' → FrOk K B0 H0 B (upd H p (.dK kvv')) (G.set i (.dic kvs')) sg) := by
  obtain ⟨al, a1, a2, a3⟩ := f.adr
  obtain ⟨ov, h1, rfl, n, vs, hp, r⟩ := a3 i _ h
  have h0 : H0 (al i) = none := a1 i _ h trivial
  have hi : i < G.length := (List.getElem?_eq_some_iff.mp h).1
  have u : ∀ kvs' j s, (G.set i (.dic kvs'))[j]? = some s → OwnLike s → ∃ s', G[j]? = some s' ∧ OwnLike s' := fun kvs' j s e o => by
    by_cases hj : j = i
    · subst hj; exact ⟨_, h, trivial⟩
    · rw [List.getElem?_set_ne (Ne.symm hj)] at e
      exact ⟨s, e, o⟩
  refine ⟨al i, vs, h1, hp, r, fun vs' ds' r' => ⟨⟨?_, f.g.b, ?_, f.g.n⟩, by rw [List.length_set]; exact f.len, al, ?_, ?_, ?_⟩⟩
  · intro b o e
    rw [upd_ne (ne_of_none e h0)]
    exact f.g.h b o e
  · intro b o e
    rw [upd_ne (ne_of_none e n)]
    exact f.sub b o e
  · intro j s e os
    obtain ⟨s', e', os'⟩ := u _ j s e os
    exact a1 j s' e' os'
  · intro j k s t e1 e2 o1 o2 ea
    obtain ⟨s1, f1, g1⟩ := u _ j s e1 o1
    obtain ⟨s2, f2, g2⟩ := u _ k t e2 o2
    exact a2 j k s1 s2 f1 f2 g1 g2 ea
  · intro j s e
    by_cases hj : j = i
    · subst hj
      rw [List.getElem?_set_self hi] at e
      cases e
      exact ⟨_, h1, rfl, n, vs', upd_same, r'⟩
    · rw [List.getElem?_set_ne (Ne.symm hj)] at e
      obtain ⟨ov, k1, k2⟩ := a3 j s e
      exact ⟨ov, k1, k2.away fun os ea => hj (a2 j i s _ e h os trivial ea)⟩
theorem s_dput {x : Str} {px p3 : Pos} {k : Out → Prop} {j : Int} {kvs : List (Int × Dv)} (i : Nat) (hu : X.A.units + 1 < cLine) (hi : X.N[i]? = some x) (hv : Vis X.env.scope x) (hG : G[i]? = some (.dic kvs)) (hd : (x == ("__debug__" : Str)) = false) (hcd : (x == ("__classdict__" : Str)) = false)
    (he : EvD X G e d) (hb : EvD X G b (.int j)) (hl : kvs.length < 100000) (hk : k (.nx (G.set i (.dic (putD kvs j d)))))
    (hs : swapsWith e (some (.Subscript (.Name x px) b p3)) pos.line X.env = pure false := by rfl) : ExS X W G (.Assign [.Subscript (.Name x px) b p3] e pos) k := fun B0 H0 B H sg D f n =>
  PS.w (ps_dput hu (pe_var hi hv hd hcd) pe_w pe_w hs) (he B0 H0 B H sg _ f fun v B1 H1 g1 r1 => by
    obtain ⟨l, kvv, e1, hl1, r, mu⟩ := (f.mono g1).dic hG
    refine ⟨.ref l, e1, hb B0 H0 B1 H1 sg _ (f.mono g1) fun w B2 H2 g2 r2 => ?_⟩
    obtain ⟨l', kvv', e1', hl', r', mu'⟩ := ((f.mono g1).mono g2).dic hG
    have : l' = l := by rw [e1] at e1'; cases e1'; rfl
    subst this
    cases r2
    exact ⟨l', _, rfl, DPut.k (k := Sum.inl j) hl' (Nat.lt_of_lt_of_le (by rw [r'.length]; exact hl) (by decide)), n.nx _ B2 _ _ hk (mu' _ _ (r'.put (r1.up g2.b)))⟩)
theorem ev_dget {x : Str} {px : Pos} {j : Int} {kvs : List (Int × Dv)} (i : Nat) (hu : X.A.units + 1 < cLine) (hi : X.N[i]? = some x) (hv : Vis X.env.scope x) (hG : G[i]? = some (.dic kvs)) (hd : (x == ("__debug__" : Str)) = false) (hcd : (x == ("__classdict__" : Str)) = false)
    (hb : EvD X G b (.int j)) (hl : lookD kvs j = some d) (hs : NoSl b) : EvD X G (.Subscript (.Name x px) b pos) d := fun B0 H0 B H sg Q f q =>
  PE.w (pe_dget hu (pe_var hi hv hd hcd) pe_w hs) (by
    obtain ⟨l, kvv, e1, hl1, r, mu⟩ := f.dic hG
    refine ⟨.ref l, e1, hb B0 H0 B H sg _ f fun w B2 H2 g2 r2 => ?_⟩
    obtain ⟨l', kvv', e1', hl', r', mu'⟩ := (f.mono g2).dic hG
    have : l' = l := by rw [e1] at e1'; cases e1'; rfl
    subst this
    cases r2
    obtain ⟨v, hv, rv⟩ := r'.look hl
    refine ⟨l', v, rfl, ?_, q v B2 H2 g2 rv⟩
    rw [← hv]
    exact DGet.k (k := Sum.inl j) hl')
/-! ### while -/
theorem s_while {S : Type} {c : Expr} {body : List Stmt} {k : Out → Prop} (hp : PassesOwn (model X.prog X.w) X.A X.env X.xe) (Ga : S → List Slot) (I : S → Prop) (μ : S → Nat) (s0 : S) (h0 : I s0) (hl : Less (Ga s0) G)
    (hs : ∀ s, I s → ∃ t, EvB X (Ga s) c t ∧ (t = true → Ex X W (Ga s) body (fun o => match o with
      | .nx G' => ∃ s', Less (Ga s') G' ∧ I s' ∧ μ s' < μ s
      | o => k o)) ∧ (t = false → k (.nx (Ga s)))) : ExS X W G (.While c body [] pos) k := fun B0 H0 B H sg D f n =>
  PS.w (ps_while hp pt_w pss_w) (by
    refine ⟨fun m σ H' => ∃ s B', m = μ s ∧ FrOk X.K B0 H0 B' H' (Ga s) σ ∧ I s, ⟨_, s0, B, rfl, f.less hl, h0⟩, ?_⟩
    rintro m σ H' ⟨s, B', rfl, f', i'⟩
    obtain ⟨t, ht, h1, h2⟩ := hs s i'
    refine ht.t B0 H0 B' H' σ _ f' fun B1 H1 g1 => ?_
    cases t with
    | true =>
      refine L2.iteT ⟨fun σ' H'' => ∃ s' B', FrOk X.K B0 H0 B' H'' (Ga s') σ' ∧ I s' ∧ μ s' < μ s, fun σ' H'' ⟨s', B', f3, i3, m3⟩ => ⟨_, m3, s', B', rfl, f3, i3⟩, ?_⟩
      exact h1 rfl B0 H0 B1 H1 σ _ (f'.mono g1) ⟨fun G' B4 H4 sg4 q4 f5 => by
        obtain ⟨s', l', i4, m4⟩ := q4
        exact ⟨s', B4, f5.less l', i4, m4⟩, fun d v B4 H4 q4 g4 r4 => n.rt d v B4 H4 q4 g4 r4, fun x' G4 B4 H4 sg4 q4 f5 => n.ex x' G4 B4 H4 sg4 q4 f5⟩
    | false => exact L2.iteF (n.nx _ B1 H1 σ (h2 rfl) (f'.mono g1)))
end
end DT

set_option Elab.async false
set_option linter.all false
set_option maxRecDepth 100000
namespace DT
open PySem PySem.Spec L2
open PyProof.Rows hiding St

/-! ### the text -/
def topS (i : Nat) : Stmt := PySem.Challenge.pw_lanternhouse_k63_whole_chase.main.body.getD i (.Pass ⟨0, 0, 0, 0⟩)
/-- a def of the top as it stands behind the top -/
structure FnTxt (K : PySem.W.Frag) (mg : Str → Option Value) (x : Str) (st : Stmt) : Prop where
  ex : ∃ (f : Addr) (fd : FuncData), FunD K x x (defArgs st) (defBody st) (defScope st) [] [] f fd ∧ mg x = some (.ref f)

def startG (N : List Str) (ds : List Dv) : List Slot := ds.map Slot.sh ++ List.replicate (N.length - ds.length) .free
/-- how a body's end answers -/
def Fit (res : Res) : Out → Prop
  | .nx _ => res = .val .non
  | .rt d => res = .val d
  | .ex x => res = .exc x
def wE (E : XK) : WX := fun cls d _ H => E cls d H

theorem startOk {K : PySem.W.Frag} {B H : Hp} (s : Same B H) {vs : List V} {ds : List Dv} (r : Rps K B vs ds) (N : List Str) : FrOk K B H B H (startG N ds) (L2.start N vs) := by
  have hl : vs.length = ds.length := r.length
  have key : ∀ i t, (startG N ds)[i]? = some t → (∃ d, ds[i]? = some d ∧ t = .sh d) ∨ (ds.length ≤ i ∧ t = .free) := fun i t e => by
    unfold startG at e
    by_cases hi : i < ds.length
    · rw [List.getElem?_append_left (by simpa using hi), List.getElem?_map, List.getElem?_eq_getElem hi] at e
      cases e
      exact .inl ⟨_, List.getElem?_eq_getElem hi, rfl⟩
    · rw [List.getElem?_append_right (by simpa using hi)] at e
      have := List.mem_of_getElem? e
      rw [List.mem_replicate] at this
      exact .inr ⟨by omega, this.2⟩
  have len : (startG N ds).length = (L2.start N vs).length := by
    unfold startG L2.start
    simp [hl]
  refine ⟨Grow.refl s, len, fun _ => 0, fun i t e o => ?_, fun i j t u e1 e2 o1 o2 _ => ?_, fun i t e => ?_⟩
  · rcases key i t e with ⟨d, _, rfl⟩ | ⟨_, rfl⟩ <;> exact o.elim
  · rcases key i t e1 with ⟨d, _, rfl⟩ | ⟨_, rfl⟩ <;> exact o1.elim
  · have hi : i < (L2.start N vs).length := len ▸ (List.getElem?_eq_some_iff.mp e).1
    refine ⟨_, List.getElem?_eq_getElem hi, ?_⟩
    rcases key i t e with ⟨d, h, rfl⟩ | ⟨_, rfl⟩
    · obtain ⟨v, hv, rv⟩ := r.get h
      refine ⟨v, ?_, rv⟩
      have : (L2.start N vs)[i]? = some (some v) := by
        unfold L2.start
        have hi' : i < vs.length := (List.getElem?_eq_some_iff.mp hv).1
        rw [List.getElem?_append_left (by simpa using hi'), List.getElem?_map, hv]
        rfl
      rw [List.getElem?_eq_getElem hi] at this
      exact Option.some.inj this
    · trivial

section
variable {P : Program} {w : World} {K : PySem.W.Frag} {mg : Str → Option Value} {base : Heap}
theorem df_mk {x : Str} {st : Stmt} {N ps : List Str} {k : Nat} (T : FnTxt K mg x st) (S : FnScope N ps (defScope st)) (R : List Dv → Res → Prop) (hlen : ∀ ds res, R ds res → ds.length = ps.length)
    (hb : ∀ (kV doc pm : Value) (an : Option Addr) (cdv ct : Value) (us : List Value), us.length = ps.length → bindArgs (PySem.W.fnOf x x (defArgs st) (defBody st) (defScope st) .none kV doc pm an cdv ct) ⟨us, []⟩ = pure (ps.zip us))
    (hbody : ∀ (f : Addr) (cdv : Value) (A : Around) (outer : List Env) (s : Shared) (H : Hp) (E : XK), Room k (A.deeper (envOfC x (defScope st) s.heap.objs.size f cdv)) → 
      Takes (cxOf (L2.CX P w) P w K mg base N x (defScope st) f cdv A outer s H E) (wE E) → PassesOwn (model P w) (A.deeper (envOfC x (defScope st) s.heap.objs.size f cdv)) (envOfC x (defScope st) s.heap.objs.size f cdv) (cxOf (L2.CX P w) P w K mg base N x (defScope st) f cdv A outer s H E).xe →
      ∀ ds res, R ds res → Ex (cxOf (L2.CX P w) P w K mg base N x (defScope st) f cdv A outer s H E) (wE E) (startG N ds) (defBody st) (Fit res)) :
    Df P w K mg base x (k + 1) R := by
  obtain ⟨f, fd, F, hm⟩ := T.ex
  refine ⟨f, fd, ps, F.ok S (fun vs H Q E h => ?_) (fun cdv A outer s H vs Q E hr h => ?_), hm, F.kp, F.bindsN hb⟩
  · obtain ⟨B, ds, res, _, r, hR, _⟩ := h
    rw [r.length]
    exact hlen ds res hR
  · obtain ⟨B, ds, res, sB, r, hR, fin⟩ := h
    refine ⟨_, pss_w, hbody f cdv A outer s H E hr (takes_of rfl rfl rfl rfl) (passes_of rfl) ds res hR B H B H _ _ (startOk sB r N) ⟨fun G' B' H' sg' q f' => ?_, fun d v B' H' q g' r' => ?_, fun y G' B' H' sg' q f' => ?_⟩⟩
    · have q' : res = .val .non := q
      subst q'
      exact fin .non B' H' f'.g .non
    · have q' : res = .val d := q
      subst q'
      exact fin v B' H' g' r'
    · have q' : res = .exc y := q
      subst q'
      exact fin H' f'.g.h
/-- a weaker promise -/
theorem Df.imp {x : Str} {k : Nat} {R R' : List Dv → Res → Prop} (F : Df P w K mg base x k R) (h : ∀ ds res, R' ds res → R ds res) : Df P w K mg base x k R' := by
  obtain ⟨f, fd, ps, ok, hm, kp, bd⟩ := F.ex
  exact ⟨f, fd, ps, ok.imp fun vs H Q E ⟨B, ds, res, a, b, c, d⟩ => ⟨B, ds, res, a, b, h _ _ c, d⟩, hm, kp, bd⟩
theorem Df.up {x : Str} {j k : Nat} {R : List Dv → Res → Prop} (F : Df P w K mg base x j R) (h : j ≤ k) : Df P w K mg base x k R := by
  obtain ⟨f, fd, ps, ok, hm, kp, bd⟩ := F.ex
  exact ⟨f, fd, ps, ok.mono h, hm, kp, bd⟩
end

/-! ### indices of mapped lists -/
def ix {α : Type} [Inhabited α] (xs : List α) (k : Int) : α := xs.getD k.toNat default
theorem ix_get {α : Type} [Inhabited α] {xs : List α} {k : Int} (h0 : 0 ≤ k) (h1 : k < xs.length) : xs[k.toNat]? = some (ix xs k) := by
  have : k.toNat < xs.length := by omega
  unfold ix
  rw [List.getD_eq_getElem?_getD, List.getElem?_eq_getElem this]
  rfl
theorem atM {α : Type} [Inhabited α] {xs : List α} {f : α → Dv} {k : Int} (h0 : 0 ≤ k) (h1 : k < xs.length) : atD (xs.map f) k (f (ix xs k)) :=
  ⟨h0, by rw [List.getElem?_map, ix_get h0 h1]; rfl⟩
theorem set_map {α : Type} {f : α → Dv} (xs : List α) (n : Nat) (x : α) : (xs.map f).set n (f x) = (xs.set n x).map f := by rw [List.map_set]

end DT

set_option Elab.async false
set_option linter.all false
set_option maxRecDepth 100000
namespace DT
open PySem PySem.Spec L2
open PyProof.Rows hiding St
/-! ### short forms -/
section
variable {X : Cx} {W : WX} {G : List Slot} {a b c e o : Expr} {es rest : List Expr} {pos p p2 : Pos} {d d0 d1 d2 d3 : Dv} {ds ds1 ds2 : List Dv} {k : Out → Prop}
theorem vr {x : Str} (i : Nat) (hG : G[i]? = some (.sh d)) (hN : X.N[i]? = some x := by rfl) (hv : Vis X.env.scope x := by first | exact Or.inl rfl | exact Or.inr (Or.inl rfl) | exact Or.inr (Or.inr rfl)) (hd : (x == ("__debug__" : Str)) = false := by decide) (hcd : (x == ("__classdict__" : Str)) = false := by decide) :
    EvD X G (.Name x pos) d := ev_var i hN hv hG hd hcd
theorem vo {x : Str} (i : Nat) (hG : G[i]? = some (.own ds)) (hN : X.N[i]? = some x := by rfl) (hv : Vis X.env.scope x := by first | exact Or.inl rfl | exact Or.inr (Or.inl rfl) | exact Or.inr (Or.inr rfl)) (hd : (x == ("__debug__" : Str)) = false := by decide) (hcd : (x == ("__classdict__" : Str)) = false := by decide) :
    EvP X G (.Name x pos) ds := ep_own i hN hv hG hd hcd
theorem tg {x : Str} (i : Nat) (hN : X.N.Nodup) (hi : X.N[i]? = some x := by rfl) (hx : Loc X.env.scope x := by first | exact Or.inl rfl | exact Or.inr rfl) (hf : X.fn x = true ∨ X.env.scope.names.lookup x = some .local := by first | exact Or.inl rfl | exact Or.inr rfl) : AsG X G (.Name x pos) d (G.set i (.sh d)) [i] :=
  ag_name i hN hi hx hf
theorem st {x : Str} {pos' : Pos} (i : Nat) (hN : X.N.Nodup) (he : EvD X G e d) (hk : k (.nx (G.set i (.sh d)))) (hi : X.N[i]? = some x := by rfl) (hx : Loc X.env.scope x := by first | exact Or.inl rfl | exact Or.inr rfl) (hs : swapsWith e (some (.Name x pos')) pos.line X.env = pure false := by rfl)
    (hf : X.fn x = true ∨ X.env.scope.names.lookup x = some .local := by first | exact Or.inl rfl | exact Or.inr rfl) : ExS X W G (.Assign [.Name x pos'] e pos) k := s_set i hN hi hx he hk hs hf
theorem stN {x : Str} {pos' : Pos} (i : Nat) (hN : X.N.Nodup) (he : EvN X G e ds) (hk : k (.nx (G.set i (.own ds)))) (hi : X.N[i]? = some x := by rfl) (hx : Loc X.env.scope x := by first | exact Or.inl rfl | exact Or.inr rfl) (hs : swapsWith e (some (.Name x pos')) pos.line X.env = pure false := by rfl)
    (hf : X.fn x = true ∨ X.env.scope.names.lookup x = some .local := by first | exact Or.inl rfl | exact Or.inr rfl) : ExS X W G (.Assign [.Name x pos'] e pos) k := s_setN i hN hi hx he hk hs hf
theorem stD {x : Str} {pos' p3 : Pos} (i : Nat) (hN : X.N.Nodup) (hk : k (.nx (G.set i (.dic [])))) (hi : X.N[i]? = some x := by rfl) (hx : Loc X.env.scope x := by first | exact Or.inl rfl | exact Or.inr rfl) (hs : swapsWith (.Dict [] [] p3) (some (.Name x pos')) pos.line X.env = pure false := by rfl)
    (hf : X.fn x = true ∨ X.env.scope.names.lookup x = some .local := by first | exact Or.inl rfl | exact Or.inr rfl) : ExS X W G (.Assign [.Name x pos'] (.Dict [] [] p3) pos) k := s_dict0 i hN hi hx hk hs hf
theorem sub {x : Str} {px p3 : Pos} {j : Int} (i : Nat) (hG : G[i]? = some (.own ds)) (he : EvD X G e d) (hb : EvD X G b (.int j)) (h0 : 0 ≤ j) (h1 : j < ds.length) (hk : k (.nx (G.set i (.own (ds.set j.toNat d)))))
    (hi : X.N[i]? = some x := by rfl) (hv : Vis X.env.scope x := by first | exact Or.inl rfl | exact Or.inr (Or.inl rfl) | exact Or.inr (Or.inr rfl)) (hd : (x == ("__debug__" : Str)) = false := by decide) (hcd : (x == ("__classdict__" : Str)) = false := by decide)
    (ha : ∀ v, assign (.Subscript (.Name x px) b p3) X.env v = (do
      let ov ← holding [v] (eval (.Name x px) X.env)
      let iv ← holding [v, ov] (eval b X.env)
      standAt p3
      holding [v, ov, iv] (setItem ov iv v)
      release [v, ov, iv] []) := by intro _; rfl)
    (hs : swapsWithSole [Expr.Subscript (.Name x px) b p3] e pos.line X.env = pure false := by rfl) (hw : swappedStores [Expr.Subscript (.Name x px) b p3] e X.env = pure none := by rfl)
    (h3 : (assignEach [Expr.Subscript (.Name x px) b p3] X.env).map (·.2) = [assign (Expr.Subscript (.Name x px) b p3) X.env] := by rfl) : ExS X W G (.Assign [.Subscript (.Name x px) b p3] e pos) k :=
  s_sub i hi hv hG hd hcd he hb h0 h1 hk ha hs hw h3
theorem app {x nm : Str} {px ap : Pos} (i : Nat) (hG : G[i]? = some (.own ds)) (he : EvD X G e d) (hl : ds.length < 100000) (hk : k (.nx (G.set i (.own (ds ++ [d])))))
    (hi : X.N[i]? = some x := by rfl) (hv : Vis X.env.scope x := by first | exact Or.inl rfl | exact Or.inr (Or.inl rfl) | exact Or.inr (Or.inr rfl)) (hd : (x == ("__debug__" : Str)) = false := by decide) (hcd : (x == ("__classdict__" : Str)) = false := by decide)
    (hnm : nm = "append" := by rfl)
    (hbase : attributeBase (.Name x px) nm X.env (eval (.Name x px) X.env) = eval (.Name x px) X.env := by rfl)
    (hall : (((backTo p (starEach (e :: []) X.env)).all (fun x => !x.1) && (backToKw p (keywordEach [] X.env)).all (fun x => x.1.isSome)) && decide ((e :: ([] : List Expr)).length + ([] : List Keyword).length + (if ([] : List Keyword).isEmpty = true then 0 else 1) < 30)) = true := by rfl)
    (hline : (ap.endLine == p.line) = true := by rfl) (hst : starEach (e :: []) X.env = (false, eval e X.env) :: starEach [] X.env := by rfl) (hpl : (backTo p (starEach [] X.env)).any (·.1) = false := by rfl)
    (hs : swapsWith (.Call (.Attribute (.Name x px) nm ap) [e] [] p) none pos.line X.env = pure false := by rfl) : ExS X W G (.Expr (.Call (.Attribute (.Name x px) nm ap) [e] [] p) pos) k :=
  s_append i hi hv hG hd hcd hnm he hl hk hbase hall hline hst hpl hs
theorem ins {x nm : Str} {px ap : Pos} {j : Int} (i : Nat) (hG : G[i]? = some (.own ds)) (hb : EvD X G b (.int j)) (he : EvD X G e d) (h0 : 0 ≤ j) (h1 : j < 2 ^ 63) (hl : ds.length < 100000) (hk : k (.nx (G.set i (.own (ds.take j.toNat ++ [d] ++ ds.drop j.toNat)))))
    (hi : X.N[i]? = some x := by rfl) (hv : Vis X.env.scope x := by first | exact Or.inl rfl | exact Or.inr (Or.inl rfl) | exact Or.inr (Or.inr rfl)) (hd : (x == ("__debug__" : Str)) = false := by decide) (hcd : (x == ("__classdict__" : Str)) = false := by decide)
    (hnm : nm = "insert" := by rfl)
    (hbase : attributeBase (.Name x px) nm X.env (eval (.Name x px) X.env) = eval (.Name x px) X.env := by rfl)
    (hall : (((backTo p (starEach (b :: [e]) X.env)).all (fun x => !x.1) && (backToKw p (keywordEach [] X.env)).all (fun x => x.1.isSome)) && decide ((b :: ([e] : List Expr)).length + ([] : List Keyword).length + (if ([] : List Keyword).isEmpty = true then 0 else 1) < 30)) = true := by rfl)
    (hline : (ap.endLine == p.line) = true := by rfl) (hst : starEach (b :: [e]) X.env = (false, eval b X.env) :: starEach [e] X.env := by rfl) (hst2 : starEach (e :: []) X.env = (false, eval e X.env) :: starEach [] X.env := by rfl) (hpl : (backTo p (starEach [e] X.env)).any (·.1) = false := by rfl)
    (hs : swapsWith (.Call (.Attribute (.Name x px) nm ap) [b, e] [] p) none pos.line X.env = pure false := by rfl) : ExS X W G (.Expr (.Call (.Attribute (.Name x px) nm ap) [b, e] [] p) pos) k :=
  s_insert i hi hv hG hd hcd hnm hb he h0 h1 hl hk hbase hall hline hst hst2 hpl hs
/-- if c: x = e, joined -/
theorem ifset {x : Str} {pos' pos2 : Pos} {t : Bool} (i : Nat) (hN : X.N.Nodup) (hc : EvB X G c t) (hG : G[i]? = some (.sh d0)) (he : t = true → EvD X G e d1) (hk : k (.nx (G.set i (.sh (if t = true then d1 else d0)))))
    (hi : X.N[i]? = some x := by rfl) (hx : Loc X.env.scope x := by first | exact Or.inl rfl | exact Or.inr rfl) (hs : swapsWith e (some (.Name x pos')) pos.line X.env = pure false := by rfl)
    (hf : X.fn x = true ∨ X.env.scope.names.lookup x = some .local := by first | exact Or.inl rfl | exact Or.inr rfl) : ExS X W G (.If c [.Assign [.Name x pos'] e pos] [] pos2) k :=
  s_if hc (fun h => x_one (s_set i hN hi hx (he h) (by rw [if_pos h] at hk; exact hk) hs hf)) (fun h => x_nil (by
    rw [if_neg (by simp [h])] at hk
    have e : G.set i (.sh d0) = G := by
      apply List.ext_getElem?
      intro j
      by_cases hj : i = j
      · subst hj
        rw [List.getElem?_set_self (List.getElem?_eq_some_iff.mp hG).1, hG]
      · rw [List.getElem?_set_ne hj]
    rw [e] at hk
    exact hk))
theorem ixm {α : Type} [Inhabited α] {xs : List α} {f : α → Dv} {i : Int} (ha : EvP X G a (xs.map f)) (hb : EvD X G b (.int i)) (h0 : 0 ≤ i) (h1 : i < xs.length) (hs : PlainIx b := by exact fun _ _ => rfl) : EvD X G (.Subscript a b pos) (f (ix xs i)) := ev_ixL ha hb (atM h0 h1) hs
theorem ixmT {α : Type} [Inhabited α] {xs : List α} {f : α → Dv} {i : Int} (ha : EvD X G a (.tup (xs.map f))) (hb : EvD X G b (.int i)) (h0 : 0 ≤ i) (h1 : i < xs.length) (hs : PlainIx b := by exact fun _ _ => rfl) : EvD X G (.Subscript a b pos) (f (ix xs i)) := ev_ixT ha hb (atM h0 h1) hs
/-- an item at a written place -/
theorem ixt {i : Int} {j : Nat} (ha : EvD X G a (.tup ds)) (h : atD ds i d) : EvD X G (.Subscript a (.Constant (.int i) j p) pos) d := ev_ixT ha ev_int h (fun _ _ => rfl)
theorem ixl {i : Int} {j : Nat} (ha : EvP X G a ds) (h : atD ds i d) : EvD X G (.Subscript a (.Constant (.int i) j p) pos) d := ev_ixL ha ev_int h (fun _ _ => rfl)
theorem rng_get {n i : Nat} (h : (rngD n)[i]? = some d) : d = .int (i : Int) ∧ i < n := by
  unfold rngD at h
  rw [List.getElem?_map] at h
  cases e : (List.range n)[i]? with
  | none => rw [e] at h; cases h
  | some j =>
    rw [e] at h
    obtain ⟨h2, h3⟩ := List.getElem?_eq_some_iff.mp e
    simp at h2 h3
    subst h3
    exact ⟨(Option.some.inj h).symm, h2⟩
theorem rng_len {n : Nat} : (rngD n).length = n := by simp [rngD]
theorem map_get {α : Type} {xs : List α} {f : α → Dv} {i : Nat} (h : (xs.map f)[i]? = some d) : ∃ x, xs[i]? = some x ∧ d = f x := by
  rw [List.getElem?_map] at h
  cases e : xs[i]? with
  | none => rw [e] at h; cases h
  | some x => rw [e] at h; exact ⟨x, rfl, (Option.some.inj h).symm⟩
theorem ix_of {α : Type} [Inhabited α] {xs : List α} {i : Nat} {x : α} (h : xs[i]? = some x) : ix xs (i : Int) = x := by
  unfold ix
  rw [List.getD_eq_getElem?_getD]
  simp [h]
end
end DT

set_option Elab.async false
set_option linter.all false
set_option maxRecDepth 100000
namespace DT
open PySem PySem.Spec L2
open PyProof.Rows hiding St
open SX (S)

/-! ### the encodings -/
abbrev Door := Int × Int × List Nat
abbrev Hand := List Nat × Int
def encDr (d : Door) : Dv := .tup [.int d.1, .int d.2.1, .str (S d.2.2)]
def encH (h : Hand) : Dv := .tup [.str (S h.1), .int h.2]
def encP2 (p : Int × Int) : Dv := .tup [.int p.1, .int p.2]
def encP3 (p : Int × Int × Int) : Dv := .tup [.int p.1, .int p.2.1, .int p.2.2]
def encL (c : Nat) : Dv := .str (S [c])
def clsA (mg : Str → Option Value) (x : Str) : Addr := match mg x with
  | some (.ref a) => a
  | _ => 0
def encHo (mg : Str → Option Value) (n : Int) (ds : List Door) (t : List Nat) : Dv := .ins (clsA mg "House") [("rooms", .int n), ("doors", .tup (ds.map encDr)), ("trades", .str (S t))]
def encSt (mg : Str → Option Value) (hs : List Hand) (ps : List Int) : Dv := .ins (clsA mg "Standing") [("hands", .tup (hs.map encH)), ("places", .tup (ps.map Dv.int))]

/-- an error class of the program that is raised with a text -/
structure XTxt (K : PySem.W.Frag) (mg : Str → Option Value) (x : Str) : Prop where
  ex : ∃ (C : Addr) (bmB : List Value) (Bn newId initId : String), ExcBaseFacts Bn newId initId bmB ∧ PySem.W.excIn K C bmB newId = true ∧ mg x = some (.ref C) ∧ PySem.W.keepIn K (.ref C) = true ∧
    PySem.W.subIn K (.ref C) (.type "BaseException") = some true ∧ PySem.W.typeIn K (.ref C) = some (.type "type")
structure ClsTxt (K : PySem.W.Frag) (mg : Str → Option Value) (x : Str) (fs : List Str) (ini : Stmt) (qual : Str) (kws : List (Str × V)) : Prop where
  at_ : mg x = some (.ref (clsA mg x))
  cl : Cls K (clsA mg x)
  no : ∀ f ∈ fs, NoAttr K (clsA mg x) f
  mkI : ∃ (f : Addr) (fd : FuncData), Mk K (clsA mg x) f ∧ FunD K "__init__" qual (defArgs ini) (defBody ini) (defScope ini) [] kws f fd
def fnName : Stmt → Option Str
  | .FunctionDef n _ _ _ _ _ _ _ _ _ => some n
  | _ => none
structure Txt (K : PySem.W.Frag) (mg : Str → Option Value) : Prop where
  fn : ∀ (i : Nat) (x : Str), fnName (topS i) = some x → FnTxt K mg x (topS i)
  lettersE : ∃ t, mg "LETTERS" = some (.str "ABCDEFGHIJKLMNOPQRSTUVWXYZ" t)
  len : mg "len" = none
  range : mg "range" = none
  int : mg "int" = none
  list : mg "list" = none
  tuple : mg "tuple" = none
  isinstance : mg "isinstance" = none
  all : mg "all" = none
  min : mg "min" = none
  max : mg "max" = none
  zip : mg "zip" = none
  set : mg "set" = none
  bool : mg "bool" = none
  str : mg "str" = none
  xs : ∀ x ∈ (["InvalidStanding", "UnknownPart", "WrongTrades", "NotTree", "NotSwift", "NoPair", "NotThere"] : List Str), XTxt K mg x
  ho : ClsTxt K mg "House" ["rooms", "doors", "trades"] (inClass (topS 34) 0) "House.__init__" [("trades", .str "RB")]
  sd : ClsTxt K mg "Standing" ["hands", "places"] (inClass (topS 38) 0) "Standing.__init__" []

section
variable {X : Cx} {W : WX} {G : List Slot} {a b c e o : Expr} {es rest : List Expr} {pos p p2 : Pos} {d d0 d1 d2 d3 : Dv} {ds ds1 ds2 : List Dv} {k : Out → Prop}
theorem fld_rooms {n : Int} {ds : List Door} {t : List Nat} {f : Str} (T : Txt X.K X.mg) (ha : EvD X G a (encHo X.mg n ds t)) (hf : f = "rooms" := by rfl) (hb : attributeBase a f X.env (eval a X.env) = eval a X.env := by rfl) : EvD X G (.Attribute a f pos) (.int n) := by
  subst hf
  exact ev_fld ha T.ho.cl (T.ho.no _ (by simp)) (by simp [List.lookup]) hb
theorem fld_doors {n : Int} {ds : List Door} {t : List Nat} {f : Str} (T : Txt X.K X.mg) (ha : EvD X G a (encHo X.mg n ds t)) (hf : f = "doors" := by rfl) (hb : attributeBase a f X.env (eval a X.env) = eval a X.env := by rfl) : EvD X G (.Attribute a f pos) (.tup (ds.map encDr)) := by
  subst hf
  exact ev_fld ha T.ho.cl (T.ho.no _ (by simp)) (by rfl) hb
theorem fld_trades {n : Int} {ds : List Door} {t : List Nat} {f : Str} (T : Txt X.K X.mg) (ha : EvD X G a (encHo X.mg n ds t)) (hf : f = "trades" := by rfl) (hb : attributeBase a f X.env (eval a X.env) = eval a X.env := by rfl) : EvD X G (.Attribute a f pos) (.str (S t)) := by
  subst hf
  exact ev_fld ha T.ho.cl (T.ho.no _ (by simp)) (by rfl) hb
theorem fld_hands {hs : List Hand} {ps : List Int} {f : Str} (T : Txt X.K X.mg) (ha : EvD X G a (encSt X.mg hs ps)) (hf : f = "hands" := by rfl) (hb : attributeBase a f X.env (eval a X.env) = eval a X.env := by rfl) : EvD X G (.Attribute a f pos) (.tup (hs.map encH)) := by
  subst hf
  exact ev_fld ha T.sd.cl (T.sd.no _ (by simp)) (by rfl) hb
theorem fld_places {hs : List Hand} {ps : List Int} {f : Str} (T : Txt X.K X.mg) (ha : EvD X G a (encSt X.mg hs ps)) (hf : f = "places" := by rfl) (hb : attributeBase a f X.env (eval a X.env) = eval a X.env := by rfl) : EvD X G (.Attribute a f pos) (.tup (ps.map Dv.int)) := by
  subst hf
  exact ev_fld ha T.sd.cl (T.sd.no _ (by simp)) (by rfl) hb
theorem raise {x m : Str} {j : Nat} (T : Txt X.K X.mg) (hx : x ∈ (["InvalidStanding", "UnknownPart", "WrongTrades", "NotTree", "NotSwift", "NoPair", "NotThere"] : List Str)) (tk : Takes X W) (hc : X.calm = true) (hg : Gl X x) (hk : k (.ex x)) (hdb : (x == ("__debug__" : Str)) = false := by decide) :
    ExS X W G (.Raise (some (.Call (.Name x p) [.Constant (.str m) j p2] [] pos)) none pos2) k := by
  obtain ⟨C, bmB, Bn, newId, initId, F, q, gC, kC, bs, ty⟩ := (T.xs x hx).ex
  exact s_raise hc tk F q gC kC (raises_own bs ty) hg hk hdb
/-- a written text -/
theorem cs (l : List Nat) {i : Str} {j : Nat} (h : i = S l := by decide) : EvD X G (.Constant (.str i) j pos) (.str (S l)) := h ▸ ev_str
theorem addS {x y : List Nat} (ha : EvD X G a (.str (S x))) (hb : EvD X G b (.str (S y))) (hc : x.length + y.length ≤ 100000) : EvD X G (.BinOp a .Add b pos) (.str (S (x ++ y))) := by
  rw [← SX.S_cat]
  exact ev_addS ha hb (by rw [SX.S_len, SX.S_len]; exact Nat.le_trans hc (by decide))
theorem eqS {x y : List Nat} (ha : EvD X G a (.str (S x))) (hb : EvD X G b (.str (S y))) : EvB X G (.Compare a [.Eq] [b] pos) (decide (x = y)) :=
  eb_is (eb_eqS ha hb) (by
    by_cases h : x = y
    · rw [h]; simp
    · rw [decide_eq_false h, decide_eq_false (fun z => h (SX.S_inj z))])
theorem neS {x y : List Nat} (ha : EvD X G a (.str (S x))) (hb : EvD X G b (.str (S y))) : EvB X G (.Compare a [.NotEq] [b] pos) (!decide (x = y)) :=
  eb_is (eb_neS ha hb) (by
    by_cases h : x = y
    · rw [h]; simp
    · rw [decide_eq_false h, decide_eq_false (fun z => h (SX.S_inj z))])
theorem lenS {x : Str} {z : List Nat} (ha : EvD X G a (.str (S z))) (hz : z.length ≤ 100000) (hx : x = "len") (hg : Gl X x) (hm : X.mg x = none) (he : starEach (a :: []) X.env = (false, eval a X.env) :: starEach [] X.env := by rfl) (hpl : (backTo pos (starEach [] X.env)).any (·.1) = false := by rfl) :
    EvD X G (.Call (.Name x p) [a] [] pos) (.int (z.length : Int)) :=
  ev_is (ev_lenS ha (by rw [SX.S_len]; exact Nat.le_trans hz (by decide)) hx hg hm he hpl) (by rw [SX.S_len])
theorem ixS {i : Int} {z : List Nat} (ha : EvD X G a (.str (S z))) (hb : EvD X G b (.int i)) (hl : z.length ≤ 100000) (h0 : 0 ≤ i) (h1 : i < z.length) (hs : PlainIx b := by exact fun _ _ => rfl) : EvD X G (.Subscript a b pos) (.str (S [ix z i])) :=
  ev_ixS ha hb (by rw [SX.S_len]; exact Nat.le_trans hl (by decide)) h0 (ix_get h0 h1) hs
theorem inS {z : List Nat} {q : Nat} (ha : EvD X G a (.str (S [q]))) (hb : EvD X G b (.str (S z))) (hm : behindInMarks .In b = false) : EvB X G (.Compare a [.In] [b] pos) (decide (q ∈ z)) :=
  eb_is (eb_inS ha hb hm) (SX.in_one z q)
theorem ninS {z : List Nat} {q : Nat} (ha : EvD X G a (.str (S [q]))) (hb : EvD X G b (.str (S z))) (hm : behindInMarks .NotIn b = false) : EvB X G (.Compare a [.NotIn] [b] pos) (!decide (q ∈ z)) :=
  eb_is (eb_ninS ha hb hm) (by rw [← SX.in_one z q]; rfl)
/-- two equal signs behind each other -/
def twin (q : Nat) : List Nat → Bool
  | a :: b :: r => (a == q && b == q) || twin q (b :: r)
  | _ => false
theorem twin_iff (q : Nat) : ∀ l : List Nat, twin q l = true ↔ ∃ i, l[i]? = some q ∧ l[i + 1]? = some q
  | [] => by simp [twin]
  | [a] => by
    simp only [twin, Bool.false_eq_true, false_iff]
    rintro ⟨i, h1, h2⟩
    simp at h2
  | a :: b :: r => by
    have ih := twin_iff q (b :: r)
    simp only [twin, Bool.or_eq_true, Bool.and_eq_true, beq_iff_eq, ih]
    constructor
    · rintro (⟨h1, h2⟩ | ⟨i, h1, h2⟩)
      · exact ⟨0, by simp [h1], by simp [h2]⟩
      · exact ⟨i + 1, by simpa using h1, by simpa using h2⟩
    · rintro ⟨i, h1, h2⟩
      cases i with
      | zero => exact .inl ⟨by simpa using h1, by simpa using h2⟩
      | succ i => exact .inr ⟨i, by simpa using h1, by simpa using h2⟩
theorem has_two (z : List Nat) (q : Nat) : hasStr (S z) (S [q, q]) = twin q z := by
  rw [Bool.eq_iff_iff, twin_iff]
  refine (PySem.StrLaws.found_iff (S z) (S [q, q])).trans ?_
  have hl : (S z).length = z.length := SX.S_len z
  have h2 : (S [q, q]).length = 2 := rfl
  constructor
  · rintro ⟨i, h1, h3⟩
    unfold PySem.Builtin.Str.subAt at h3
    rw [h2] at h3 h1
    rw [hl] at h1
    have e : (z.toArray.extract i (i + 2)) = #[q, q] := by simpa using h3
    have e2 := congrArg Array.toList e
    rw [Array.toList_extract] at e2
    simp at e2
    have e3 : (z.drop i).take 2 = [q, q] := by simpa [List.extract] using e2
    have g0 : (z.drop i)[0]? = some q := by
      have := congrArg (fun l => l[0]?) e3
      simpa [List.getElem?_take] using this
    have g1 : (z.drop i)[1]? = some q := by
      have := congrArg (fun l => l[1]?) e3
      simpa [List.getElem?_take] using this
    rw [List.getElem?_drop] at g0 g1
    exact ⟨i, by simpa using g0, g1⟩
  · rintro ⟨i, h1, h3⟩
    have hi : i + 1 < z.length := (List.getElem?_eq_some_iff.mp h3).1
    refine ⟨i, by rw [hl, h2]; omega, ?_⟩
    unfold PySem.Builtin.Str.subAt
    rw [h2]
    have e : (z.toArray.extract i (i + 2)) = #[q, q] := by
      apply Array.ext'
      rw [Array.toList_extract]
      simp [List.extract]
      apply List.ext_getElem?
      intro j
      rw [List.getElem?_take]
      match j with
      | 0 => simpa [List.getElem?_drop] using h1
      | 1 => simpa [List.getElem?_drop] using h3
      | j + 2 => simp; omega
    show ((z.toArray.extract i (i + 2)) == #[q, q]) = true
    rw [e]
    exact beq_self_eq_true _
theorem ei_S {tg : Expr} {z : List Nat} (h : EvD X G e (.str (S z))) : EvI X G tg e (z.map encL) := ei_str h
/-- isinstance(x, T) of a built-in type -/
theorem isTy {x y : Str} {n : String} {t : Value} {r : Bool} {py : Pos} (ha : EvD X G a d) (ht : ∀ K B H v, Same B H → Rp K B v d → TyX K H v t) (hk : PySem.W.kitOne X.K t (.type n) = some r) (hx : x = "isinstance") (hg : Gl X x) (hm : X.mg x = none)
    (hgy : Gl X y) (hmy : X.mg y = none) (hvy : bootBuiltins y = some (.type n)) (hny : y ≠ "__name__") (hdy : (y == ("__debug__" : Str)) = false) (he : starEach [a, .Name y py] X.env = (false, eval a X.env) :: starEach [.Name y py] X.env := by rfl) (he2 : starEach [Expr.Name y py] X.env = (false, eval (.Name y py) X.env) :: starEach [] X.env := by rfl)
    (hpl : (backTo pos (starEach [.Name y py] X.env)).any (·.1) = false := by rfl) : EvD X G (.Call (.Name x p) [a, .Name y py] [] pos) (.bl r) := fun B0 H0 B H sg Q f q => by
  subst hx
  exact PE.w (pe_callB call_isi hg hm (by decide +kernel) (pa_cons pe_w (pa_cons (pe_bltn (v := .ty n) hgy hmy hvy rfl hny hdy) pa_nil he2) he) (he := he) (hpl := hpl)) (ha B0 H0 B H sg _ f fun v B1 H1 g1 r1 =>
    ⟨v, .ty n, t, .type n, r, rfl, .ty n, ht _ _ _ v g1.s r1, hk, q _ B1 H1 g1 (.bl _)⟩)
theorem ty_int {i : Int} : ∀ K B H v, Same B H → Rp K B v (.int i) → TyX K H v (.type "int") := fun K B H v s r => by cases r; exact .base (.int _)
theorem ty_bl {i : Bool} : ∀ K B H v, Same B H → Rp K B v (.bl i) → TyX K H v (.type "bool") := fun K B H v s r => by cases r; exact .base (.bl _)
theorem ty_str {i : Str} : ∀ K B H v, Same B H → Rp K B v (.str i) → TyX K H v (.type "str") := fun K B H v s r => by cases r; exact .base (.str _)
theorem ty_tup {ds : List Dv} : ∀ K B H v, Same B H → Rp K B v (.tup ds) → TyX K H v (.type "tuple") := fun K B H v s r => by
  cases r with
  | tup e r => exact .base (.tup (s _ _ e))
end
end DT

set_option Elab.async false
set_option linter.all false
set_option maxRecDepth 100000
set_option maxHeartbeats 0
namespace DT
open PySem PySem.W PySem.Calls
open PyProof.Rows hiding St
def hfn0 : List He.DefD := [⟨("is_index", none), "is_index", "is_index", L2.defArgs (topS 28), L2.defBody (topS 28), L2.defScope (topS 28), [], []⟩, ⟨("_are_trades", none), "_are_trades", "_are_trades", L2.defArgs (topS 31), L2.defBody (topS 31), L2.defScope (topS 31), [], []⟩, ⟨("_is_door", none), "_is_door", "_is_door", L2.defArgs (topS 32), L2.defBody (topS 32), L2.defScope (topS 32), [], []⟩, ⟨("_is_connected", none), "_is_connected", "_is_connected", L2.defArgs (topS 33), L2.defBody (topS 33), L2.defScope (topS 33), [], []⟩, ⟨("is_tree", none), "is_tree", "is_tree", L2.defArgs (topS 35), L2.defBody (topS 35), L2.defScope (topS 35), [], []⟩, ⟨("is_swift", none), "is_swift", "is_swift", L2.defArgs (topS 36), L2.defBody (topS 36), L2.defScope (topS 36), [], []⟩, ⟨("_is_trade", none), "_is_trade", "_is_trade", L2.defArgs (topS 39), L2.defBody (topS 39), L2.defScope (topS 39), [], []⟩, ⟨("fits", none), "fits", "fits", L2.defArgs (topS 40), L2.defBody (topS 40), L2.defScope (topS 40), [], []⟩, ⟨("lights_at", none), "lights_at", "lights_at", L2.defArgs (topS 41), L2.defBody (topS 41), L2.defScope (topS 41), [], []⟩, ⟨("need_fits", none), "need_fits", "need_fits", L2.defArgs (topS 43), L2.defBody (topS 43), L2.defScope (topS 43), [], []⟩, ⟨("need_hands", none), "need_hands", "need_hands", L2.defArgs (topS 44), L2.defBody (topS 44), L2.defScope (topS 44), [], []⟩, ⟨("need_no_masters", none), "need_no_masters", "need_no_masters", L2.defArgs (topS 45), L2.defBody (topS 45), L2.defScope (topS 45), [], []⟩, ⟨("need_two_trades", none), "need_two_trades", "need_two_trades", L2.defArgs (topS 46), L2.defBody (topS 46), L2.defScope (topS 46), [], []⟩, ⟨("need_tree", none), "need_tree", "need_tree", L2.defArgs (topS 47), L2.defBody (topS 47), L2.defScope (topS 47), [], []⟩, ⟨("need_swift", none), "need_swift", "need_swift", L2.defArgs (topS 48), L2.defBody (topS 48), L2.defScope (topS 48), [], []⟩]
def hfn1 : List He.DefD := [⟨("tree_doors", none), "tree_doors", "tree_doors", L2.defArgs (topS 50), L2.defBody (topS 50), L2.defScope (topS 50), [], []⟩, ⟨("tree_order", none), "tree_order", "tree_order", L2.defArgs (topS 51), L2.defBody (topS 51), L2.defScope (topS 51), [], []⟩, ⟨("way_of", none), "way_of", "way_of", L2.defArgs (topS 52), L2.defBody (topS 52), L2.defScope (topS 52), [], []⟩, ⟨("_need_chase", none), "_need_chase", "_need_chase", L2.defArgs (topS 54), L2.defBody (topS 54), L2.defScope (topS 54), [], []⟩, ⟨("_red_distances", none), "_red_distances", "_red_distances", L2.defArgs (topS 55), L2.defBody (topS 55), L2.defScope (topS 55), [], []⟩, ⟨("is_forced", none), "is_forced", "is_forced", L2.defArgs (topS 56), L2.defBody (topS 56), L2.defScope (topS 56), [], []⟩, ⟨("chased_pair", none), "chased_pair", "chased_pair", L2.defArgs (topS 57), L2.defBody (topS 57), L2.defScope (topS 57), [], []⟩, ⟨("chase_door", none), "chase_door", "chase_door", L2.defArgs (topS 58), L2.defBody (topS 58), L2.defScope (topS 58), [], []⟩, ⟨("_law_cell", none), "_law_cell", "_law_cell", L2.defArgs (topS 60), L2.defBody (topS 60), L2.defScope (topS 60), [], []⟩, ⟨("_law_row", none), "_law_row", "_law_row", L2.defArgs (topS 61), L2.defBody (topS 61), L2.defScope (topS 61), [], []⟩, ⟨("_law_odd_cycle", none), "_law_odd_cycle", "_law_odd_cycle", L2.defArgs (topS 62), L2.defBody (topS 62), L2.defScope (topS 62), [], []⟩, ⟨("_law_any_cycle", none), "_law_any_cycle", "_law_any_cycle", L2.defArgs (topS 63), L2.defBody (topS 63), L2.defScope (topS 63), [], []⟩, ⟨("_law_house", none), "_law_house", "_law_house", L2.defArgs (topS 64), L2.defBody (topS 64), L2.defScope (topS 64), [], []⟩, ⟨("_law_hands", none), "_law_hands", "_law_hands", L2.defArgs (topS 65), L2.defBody (topS 65), L2.defScope (topS 65), [], []⟩, ⟨("_law_places", none), "_law_places", "_law_places", L2.defArgs (topS 66), L2.defBody (topS 66), L2.defScope (topS 66), [], []⟩]
def hfn2 : List He.DefD := [⟨("_law_is_integer", none), "_law_is_integer", "_law_is_integer", L2.defArgs (topS 67), L2.defBody (topS 67), L2.defScope (topS 67), [], []⟩, ⟨("_law_is_standing", none), "_law_is_standing", "_law_is_standing", L2.defArgs (topS 68), L2.defBody (topS 68), L2.defScope (topS 68), [], []⟩, ⟨("_law_deed", none), "_law_deed", "_law_deed", L2.defArgs (topS 69), L2.defBody (topS 69), L2.defScope (topS 69), [], []⟩, ⟨("_law_possible", none), "_law_possible", "_law_possible", L2.defArgs (topS 70), L2.defBody (topS 70), L2.defScope (topS 70), [], []⟩, ⟨("_law_lights", none), "_law_lights", "_law_lights", L2.defArgs (topS 71), L2.defBody (topS 71), L2.defScope (topS 71), [], []⟩, ⟨("_law_spread", none), "_law_spread", "_law_spread", L2.defArgs (topS 72), L2.defBody (topS 72), L2.defScope (topS 72), [], []⟩, ⟨("_law_distances", none), "_law_distances", "_law_distances", L2.defArgs (topS 73), L2.defBody (topS 73), L2.defScope (topS 73), [], []⟩, ⟨("_law_way", none), "_law_way", "_law_way", L2.defArgs (topS 74), L2.defBody (topS 74), L2.defScope (topS 74), [], []⟩, ⟨("_law_roomy", none), "_law_roomy", "_law_roomy", L2.defArgs (topS 75), L2.defBody (topS 75), L2.defScope (topS 75), [], []⟩, ⟨("_law_laid", none), "_law_laid", "_law_laid", L2.defArgs (topS 76), L2.defBody (topS 76), L2.defScope (topS 76), [], []⟩, ⟨("_law_swift", none), "_law_swift", "_law_swift", L2.defArgs (topS 77), L2.defBody (topS 77), L2.defScope (topS 77), [], []⟩, ⟨("_law_lured", none), "_law_lured", "_law_lured", L2.defArgs (topS 78), L2.defBody (topS 78), L2.defScope (topS 78), [], []⟩, ⟨("_law_chased", none), "_law_chased", "_law_chased", L2.defArgs (topS 79), L2.defBody (topS 79), L2.defScope (topS 79), [], []⟩, ⟨("_law_seen", none), "_law_seen", "_law_seen", L2.defArgs (topS 80), L2.defBody (topS 80), L2.defScope (topS 80), [], []⟩, ⟨("_law_met", none), "_law_met", "_law_met", L2.defArgs (topS 81), L2.defBody (topS 81), L2.defScope (topS 81), [], []⟩]
def hfn3 : List He.DefD := [⟨("_law_flight", none), "_law_flight", "_law_flight", L2.defArgs (topS 82), L2.defBody (topS 82), L2.defScope (topS 82), [], []⟩, ⟨("_law_hunted", none), "_law_hunted", "_law_hunted", L2.defArgs (topS 83), L2.defBody (topS 83), L2.defScope (topS 83), [], []⟩, ⟨("_law_roamed", none), "_law_roamed", "_law_roamed", L2.defArgs (topS 84), L2.defBody (topS 84), L2.defScope (topS 84), [], []⟩, ⟨("_law_refusal", none), "_law_refusal", "_law_refusal", L2.defArgs (topS 85), L2.defBody (topS 85), L2.defScope (topS 85), [], []⟩, ⟨("_law_fits", none), "_law_fits", "_law_fits", L2.defArgs (topS 86), L2.defBody (topS 86), L2.defScope (topS 86), [], []⟩, ⟨("_law_due", none), "_law_due", "_law_due", L2.defArgs (topS 87), L2.defBody (topS 87), L2.defScope (topS 87), [], []⟩, ⟨("_law_paired", none), "_law_paired", "_law_paired", L2.defArgs (topS 88), L2.defBody (topS 88), L2.defScope (topS 88), [], []⟩, ⟨("_law_spoil", none), "_law_spoil", "_law_spoil", L2.defArgs (topS 89), L2.defBody (topS 89), L2.defScope (topS 89), [], []⟩, ⟨("law", none), "law", "law", L2.defArgs (topS 90), L2.defBody (topS 90), L2.defScope (topS 90), [], []⟩]
def hfnI : List He.DefD := [⟨("House", some "__init__"), "__init__", "House.__init__", L2.defArgs (L2.inClass (topS 34) 0), L2.defBody (L2.inClass (topS 34) 0), L2.defScope (L2.inClass (topS 34) 0), [], [("trades", .str "RB")]⟩, ⟨("Standing", some "__init__"), "__init__", "Standing.__init__", L2.defArgs (L2.inClass (topS 38) 0), L2.defBody (L2.inClass (topS 38) 0), L2.defScope (L2.inClass (topS 38) 0), [], []⟩]
def hfn : List He.DefD := hfnI ++ hfn0 ++ hfn1 ++ hfn2 ++ hfn3
def hga0 : List He.Fa := [.glo "is_index", .glo "_are_trades", .glo "_is_door", .glo "_is_connected", .glo "is_tree", .glo "is_swift", .glo "_is_trade", .glo "fits", .glo "lights_at", .glo "need_fits", .glo "need_hands", .glo "need_no_masters", .glo "need_two_trades", .glo "need_tree", .glo "need_swift"]
def hga1 : List He.Fa := [.glo "tree_doors", .glo "tree_order", .glo "way_of", .glo "_need_chase", .glo "_red_distances", .glo "is_forced", .glo "chased_pair", .glo "chase_door", .glo "_law_cell", .glo "_law_row", .glo "_law_odd_cycle", .glo "_law_any_cycle", .glo "_law_house", .glo "_law_hands", .glo "_law_places"]
def hga2 : List He.Fa := [.glo "_law_is_integer", .glo "_law_is_standing", .glo "_law_deed", .glo "_law_possible", .glo "_law_lights", .glo "_law_spread", .glo "_law_distances", .glo "_law_way", .glo "_law_roomy", .glo "_law_laid", .glo "_law_swift", .glo "_law_lured", .glo "_law_chased", .glo "_law_seen", .glo "_law_met"]
def hga3 : List He.Fa := [.glo "_law_flight", .glo "_law_hunted", .glo "_law_roamed", .glo "_law_refusal", .glo "_law_fits", .glo "_law_due", .glo "_law_paired", .glo "_law_spoil", .glo "law"]
def hgf : List He.Fa := [.free "len", .free "range", .free "int", .free "list", .free "tuple", .free "isinstance", .free "all", .free "min", .free "max", .free "zip", .free "set", .free "bool", .free "str"]
def hgc : List He.Fa := [.str "LETTERS" "ABCDEFGHIJKLMNOPQRSTUVWXYZ", .glo "House", .glo "Standing", .cls "House", .cls "Standing", .noat "House" "rooms", .noat "House" "doors", .noat "House" "trades", .noat "Standing" "hands", .noat "Standing" "places", .mkr "House", .mkr "Standing"]
def hge : List He.Fa := [.glo "InvalidStanding", .exc "InvalidStanding", .glo "UnknownPart", .exc "UnknownPart", .glo "WrongTrades", .exc "WrongTrades", .glo "NotTree", .exc "NotTree", .glo "NotSwift", .exc "NotSwift", .glo "NoPair", .exc "NoPair", .glo "NotThere", .exc "NotThere"]
def hfa : List He.Fa := hga0 ++ hga1 ++ hga2 ++ hga3 ++ hgf ++ hgc ++ hge
def hnm0 : List PySem.Str := ["HouseError", "InvalidHouse", "BadDeed", "InvalidText", "NotPossible", "Refused", "InvalidStanding", "UnknownPart", "UnlikeHands", "WrongTrades", "NoDoors", "NotEven", "NotOdd", "NotTree", "NotStrict", "NotSwift", "TooFewHands", "NoPair", "NoCrew", "NoMaster", "NotTogether", "NotThere", "BadSteps", "NotDead", "NotLive", "NotRooted", "is_index", "LETTERS", "_are_trades", "_is_door"]
def hnm1 : List PySem.Str := ["_is_connected", "House", "is_tree", "is_swift", "Standing", "_is_trade", "fits", "lights_at", "need_fits", "need_hands", "need_no_masters", "need_two_trades", "need_tree", "need_swift", "tree_doors", "tree_order", "way_of", "_need_chase", "_red_distances", "is_forced", "chased_pair", "chase_door", "_law_cell", "_law_row", "_law_odd_cycle", "_law_any_cycle", "_law_house", "_law_hands", "_law_places", "_law_is_integer"]
def hnm2 : List PySem.Str := ["_law_is_standing", "_law_deed", "_law_possible", "_law_lights", "_law_spread", "_law_distances", "_law_way", "_law_roomy", "_law_laid", "_law_swift", "_law_lured", "_law_chased", "_law_seen", "_law_met", "_law_flight", "_law_hunted", "_law_roamed", "_law_refusal", "_law_fits", "_law_due", "_law_paired", "_law_spoil"]
def hnm : List PySem.Str := hnm0 ++ hnm1 ++ hnm2
abbrev HR : PySem.W.OpenRow := PySem.W.OpenLaw.row PySem.Challenge.rw_lanternhouse_k63_whole_chase
abbrev hqv : Program := PySem.W.view HR.prog [90]
/-- where the top leaves what the facts read -/
def hks : List Addr := [3, 6, 4, 24, 46, 67, 88, 109, 130, 142, 154, 166, 178, 190, 202, 214, 226, 238, 250, 262, 274, 286, 298, 310, 322, 334, 346, 358, 370, 379, 384, 389, 394, 410, 421, 426, 441, 452, 459, 464, 471, 478, 485, 492, 499, 506, 511, 516, 523, 530, 537, 544, 551, 556, 563, 570, 577, 584, 589, 596, 601, 608, 615, 622, 629, 634, 641, 648, 655, 662, 669, 676, 681, 686, 691, 696, 701, 708, 713, 720, 727, 732, 739, 744, 751, 0, 23, 45, 66, 87, 108, 129, 141, 153, 165, 177, 189, 201, 213, 225, 237, 249, 261, 273, 285, 297, 309, 321, 333, 345, 357, 369, 378, 383, 388, 393, 409, 420, 425, 440, 451, 458, 463, 470, 477, 484, 491, 498, 505, 510, 515, 522, 529, 536, 543, 550, 555, 562, 569, 576, 583, 588, 595, 600, 607, 614, 621, 628, 633, 640, 647, 654, 661, 668, 675, 680, 685, 690, 695, 700, 707, 712, 719, 726, 731, 738, 743, 750, 42, 31, 63, 52, 84, 73, 105, 94, 126, 115, 406, 402, 437, 43, 64, 85, 106, 127, 407, 438]
end DT

set_option Elab.async false
set_option linter.all false
set_option maxRecDepth 100000
set_option maxHeartbeats 0
namespace DT
open PySem PySem.W PySem.Calls
open PyProof.Rows hiding St
open HandSHeadRun
def hfnA : List He.DefD := hfnI ++ hfn0 ++ hfn1
def hfnB : List He.DefD := hfn2 ++ hfn3
def hfaA : List He.Fa := hgf ++ hgc ++ hge
def hfaB : List He.Fa := hga0 ++ hga1 ++ hga2 ++ hga3
def hob1 (s : PySem.W.SharedT) : He.AlD := He.obsD hfaA hfnA (He.frG (HandSHeadRun.getT s) hks)
def hob2 (s : PySem.W.SharedT) : He.AlD := He.obsD hfaB hfnB (He.frG (HandSHeadRun.getT s) hks)
end DT

set_option Elab.async false
set_option linter.all false
set_option maxRecDepth 100000
set_option maxHeartbeats 0
namespace DT
open PySem PySem.W PySem.Calls
open PyProof.Rows hiding St
open HandSHeadRun
def xnames : List Str := ["InvalidStanding", "UnknownPart", "WrongTrades", "NotTree", "NotSwift", "NoPair", "NotThere"]
def anames : List Str := ["InvalidStanding", "UnknownPart", "UnlikeHands", "WrongTrades", "NoDoors", "NotEven", "NotOdd", "NotTree", "NotStrict", "NotSwift", "TooFewHands", "NoPair", "NoCrew", "NoMaster", "NotTogether", "NotThere", "BadSteps", "NotPossible", "NotDead", "NotLive", "NotRooted", "InvalidHouse", "BadDeed", "InvalidText", "Refused"]
/-- the errors' kinds, the type of Standing -/
def excB (K : PySem.W.Frag) (D : Addr) : Bool :=
  He.eqO (PySem.W.findIn K (.ref D) "__getattribute__") (some (some (.builtin "BaseException.__getattribute__"))) && (He.eqO (PySem.W.findIn K (.ref D) "__getattr__") (some none) && (decide (PySem.W.subIn K (.ref D) (.type "BaseException") = some true) && (PySem.W.hasDictIn K D && (He.eqO (PySem.W.findIn K (.ref D) "__class__") (some (some (.builtin "object.__class__"))) && decide (PySem.W.mroIn K D (.type "object") = some true)))))
def objB (K : PySem.W.Frag) : Bool := He.eqO (PySem.W.specialIn K (.builtin "object.__class__") "__get__") (some (some (.builtin "getset_descriptor.__get__"))) && decide (PySem.W.takesIn K (.builtin "object.__class__") = some true)
def stB (K : PySem.W.Frag) : Bool := He.eqO (PySem.W.findIn K (.ref (He.ga K "Standing")) "__class__") (some (some (.builtin "object.__class__"))) && decide (PySem.W.mroIn K (He.ga K "Standing") (.type "object") = some true)
def gloB (K : PySem.W.Frag) : Bool := (anames.all fun y => He.eqO (PySem.W.nsIn K mainGlobals y) (some (some (.ref (He.ga K y))))) && (He.eqO (PySem.W.nsIn K mainGlobals "HouseError") (some (some (.ref (He.ga K "HouseError")))) && He.eqO (PySem.W.nsIn K mainGlobals "ValueError") (some none))
def oneB (K : PySem.W.Frag) (x : Str) : Bool := excB K (He.ga K x) && (decide (PySem.W.exmOne K (.ref (He.ga K x)) (.ref (He.ga K "HouseError")) = some true) && (decide (PySem.W.kitOne K (.ref (He.ga K x)) (.type "ValueError") = some true) && anames.all fun y => decide (PySem.W.kitOne K (.ref (He.ga K x)) (.ref (He.ga K y)) = some (decide (x = y)))))
def xB (K : PySem.W.Frag) : Bool := objB K && (stB K && (gloB K && xnames.all fun x => oneB K x))
def hob3 (s : PySem.W.SharedT) : Bool := xB (He.frG (getT s) hks)
/-- the head's run: looks, view, facts -/
theorem hrun (w : World) (os : OsState) : (endF (stepQ (denQ tabQ) HR.prog w) 30000 HR.prog w os).map (fun s => (looksF HR.prog (boot_heap w.params) s.abs, seenQ hqv hnm (importedModules HR.prog.main.body) (fun s => xlAt hqv [] s && recOk HR.toRowW.records s) s.abs, (hob1 s, hob2 s, hob3 s))) = some (true, openGood hqv hnm, (He.valD hfnA, He.valD hfnB, true)) := by
  kernel_rfl
end DT

set_option Elab.async false
set_option linter.all false
set_option maxRecDepth 100000
namespace DT
open PySem PySem.Spec L2
open PyProof.Rows hiding St
open SX (S)
local macro_rules | `(tactic| walk_at "less") => `(tactic| repeat (first | exact DT.Less.nil | refine DT.Less.cons ?_ | refine DT.Less.free ?_))

/-! ### mirrors -/
def isTradeM (t tr : List Nat) : Bool := decide (tr = [42]) || (decide ((tr.length : Int) = 1) && hasStr (S t) (S tr))
def fitsM (n : Int) (ds : List Door) (t : List Nat) (hs : List Hand) (ps : List Int) : Bool :=
  decide ((ps.length : Int) = ds.length) && ((ps.zip ds).all fun q => decide (0 ≤ q.1 ∧ q.1 < (q.2.2.2.length : Int))) && hs.all fun h => isTradeM t h.1 && decide (0 ≤ h.2 ∧ h.2 < n)
def swiftM (ds : List Door) : Bool := ds.all fun d => !twin 66 (d.2.2 ++ [ix d.2.2 0])
def lightsM (ds : List Door) (ps : List Int) : List Nat := (ps.zip ds).map fun q => ix q.2.2.2 (q.1 % q.2.2.2.length)
def noMaster (hs : List Hand) : Bool := hs.all fun h => !decide (h.1 = [42])
/-- texts are short -/
def Short (ds : List Door) (hs : List Hand) : Prop := (∀ d ∈ ds, d.2.2.length ≤ 1000) ∧ (∀ h ∈ hs, h.1.length ≤ 1000)

section
variable {P : Program} {w : World} {K : PySem.W.Frag} {mg : Str → Option Value} {base : Heap}
theorem sc28 : FnScope ["number", "size"] ["number", "size"] (defScope (topS 28)) := ⟨rfl, rfl, rfl, by decide +kernel, rfl, by decide +kernel, by decide +kernel⟩
def R_is_index : List Dv → Res → Prop := fun ds res => ∃ n s : Int, ds = [.int n, .int s] ∧ res = .val (.bl (decide (0 ≤ n ∧ n < s)))
theorem d_is_index (T : Txt K mg) : Df P w K mg base "is_index" 1 R_is_index := by
  refine df_mk (T.fn 28 "is_index" rfl) sc28 _ (fun ds res h => by obtain ⟨n, s, rfl, rfl⟩ := h; rfl) (fun _ _ _ _ _ _ us hl => match us, hl with | [_, _], _ => rfl) (fun f cdv A outer s H E hr tk hp ds res h => ?_)
  obtain ⟨n, s, rfl, rfl⟩ := h
  exact x_one (s_ret (EvB.v (eb_chain ev_int (vr 0 rfl) (vr 1 rfl))) rfl)

theorem sc39 : FnScope ["house", "trade"] ["house", "trade"] (defScope (topS 39)) := ⟨rfl, rfl, rfl, by decide +kernel, rfl, by decide +kernel, by decide +kernel⟩
def R_is_trade (mg : Str → Option Value) : List Dv → Res → Prop := fun ds res => ∃ n dr t tr, ds = [encHo mg n dr t, .str (S tr)] ∧ tr.length ≤ 1000 ∧ res = .val (.bl (isTradeM t tr))
theorem d_is_trade (T : Txt K mg) : Df P w K mg base "_is_trade" 1 (R_is_trade mg) := by
  refine df_mk (T.fn 39 "_is_trade" rfl) sc39 _ (fun ds res h => by obtain ⟨n, dr, t, tr, rfl, _, rfl⟩ := h; rfl) (fun _ _ _ _ _ _ us hl => match us, hl with | [_, _], _ => rfl) (fun f cdv A outer s H E hr tk hp ds res h => ?_)
  obtain ⟨n, dr, t, tr, rfl, hl, rfl⟩ := h
  exact x_one (s_ret (EvB.v (ew_b (ew_or (eqS (vr 1 rfl) (cs [42])) (fun _ => (ew_or1 (ew_b (ew_and (eb_eq (lenS (vr 1 rfl) (by omega) rfl rfl T.len) ev_int) (fun _ => (ew_and1 (eb_inS (vr 1 rfl) (fld_trades T (vr 0 rfl)) (by rfl))))))))))) rfl)

theorem sc40 : FnScope ["house", "standing", "place", "_", "cycle", "trade", "room"] ["house", "standing"] (defScope (topS 40)) := ⟨rfl, rfl, rfl, by decide +kernel, rfl, by decide +kernel, by decide +kernel⟩
def R_fits (mg : Str → Option Value) : List Dv → Res → Prop := fun ds res => ∃ n dr t hs ps, ds = [encHo mg n dr t, encSt mg hs ps] ∧ Short dr hs ∧ res = .val (.bl (fitsM n dr t hs ps))
theorem d_fits (T : Txt K mg) : Df P w K mg base "fits" 2 (R_fits mg) := by
  have D_is_index := @d_is_index P w K mg base T
  have D__is_trade := @d_is_trade P w K mg base T
  have nd := sc40.nd
  refine df_mk (T.fn 40 "fits" rfl) sc40 _ (fun ds res h => by obtain ⟨n, dr, t, hs, ps, rfl, _, rfl⟩ := h; rfl) (fun _ _ _ _ _ _ us hl => match us, hl with | [_, _], _ => rfl) (fun f cdv A outer s H E hr tk hp ds res h => ?_)
  obtain ⟨n, dr, t, hs, ps, rfl, ⟨hd1, hd2⟩, rfl⟩ := h
  refine x_cons (s_if (eb_ne (ev_lenT (fld_places T (vr 1 rfl)) rfl rfl T.len) (ev_lenT (fld_doors T (vr 0 rfl)) rfl rfl T.len)) (fun hc => ?_) (fun hc => ?_))
  · refine x_one (s_ret ev_bl ?_)
    show Res.val _ = Res.val _
    simp at hc
    have : fitsM n dr t hs ps = false := by
      unfold fitsM
      simp [hc]
    rw [this]
  refine x_nil ?_
  simp at hc
  refine x_cons (s_for (S := Unit) hp rfl (ei_zip (fld_places T (vr 1 rfl)) (fld_doors T (vr 0 rfl)) (by simp; omega) rfl rfl T.zip) (fun _ => [.sh (encHo mg n dr t), .sh (encSt mg hs ps), .free, .free, .free, .free, .free]) (fun i _ => ∀ j q, j < i → (ps.zip dr)[j]? = some q → (0 ≤ q.1 ∧ q.1 < (q.2.2.2.length : Int))) () ?_ (by walk_at "less") ?_ ?_)
  · intro j q h; omega
  · intro i st d hd hI
    rw [List.zip_map, List.map_map] at hd
    obtain ⟨q, hq, rfl⟩ := map_get hd
    have hm : q.2 ∈ dr := (List.of_mem_zip (List.mem_of_getElem? hq)).2
    refine ⟨_, _, (ag_tup rfl (aw_cons (tg 2 nd) (aw_cons (ag_tup rfl (aw_cons (tg 3 nd) (aw_cons (tg 3 nd) (aw_cons (tg 4 nd) aw_nil)))) aw_nil))), ?_⟩
    refine x_cons (s_if (eb_not (eb_val (ev_call D_is_index (hr.mono (by decide)) rfl (ea_cons (vr 2 rfl) (ea_cons (lenS (vr 4 rfl) (Nat.le_trans (hd1 _ hm) (by decide)) rfl rfl T.len) ea_nil)) ⟨_, _, rfl, rfl⟩ (by decide)))) (fun hc => ?_) (fun hc => ?_))
    · refine x_one (s_ret ev_bl ?_)
      show Res.val _ = Res.val _
      have : fitsM n dr t hs ps = false := by
        unfold fitsM
        have : ((ps.zip dr).all fun q => decide (0 ≤ q.1 ∧ q.1 < (q.2.2.2.length : Int))) = false := by
          rw [List.all_eq_false]
          exact ⟨q, List.mem_of_getElem? hq, by simp at hc ⊢; omega⟩
        rw [this]
        simp
      rw [this]
    refine x_nil ?_
    refine x_nil ⟨(), by walk_at "less", fun j q' hj hq' => ?_⟩
    by_cases e : j = i
    · subst e
      rw [hq] at hq'
      cases hq'
      simpa using hc
    · exact hI j q' (by omega) hq'
  · intro st hI
    have h1 : ((ps.zip dr).all fun q => decide (0 ≤ q.1 ∧ q.1 < (q.2.2.2.length : Int))) = true := by
      rw [List.all_eq_true]
      intro q hq
      obtain ⟨j, hj, e⟩ := List.getElem_of_mem hq
      have := hI j q (by simpa using hj) (by rw [List.getElem?_eq_getElem hj, e])
      simpa using this
    refine x_cons (s_for (S := Unit) hp rfl (ei_tup (fld_hands T (vr 1 rfl))) (fun _ => [.sh (encHo mg n dr t), .sh (encSt mg hs ps), .free, .free, .free, .free, .free]) (fun i _ => ∀ j q, j < i → hs[j]? = some q → (isTradeM t q.1 && decide (0 ≤ q.2 ∧ q.2 < n)) = true) () ?_ (by walk_at "less") ?_ ?_)
    · intro j q h; omega
    · intro i st d hd hI
      obtain ⟨q, hq, rfl⟩ := map_get hd
      have hm : q ∈ hs := List.mem_of_getElem? hq
      refine ⟨_, _, (ag_tup rfl (aw_cons (tg 5 nd) (aw_cons (tg 6 nd) aw_nil))), ?_⟩
      refine x_cons (s_if (ew_b (ew_or (eb_not (eb_val (ev_call D__is_trade (hr.mono (by decide)) rfl (ea_cons (vr 0 rfl) (ea_cons (vr 5 rfl) ea_nil)) ⟨_, _, _, _, rfl, hd2 _ hm, rfl⟩ (by decide)))) (fun _ => (ew_or1 (eb_not (eb_val (ev_call D_is_index (hr.mono (by decide)) rfl (ea_cons (vr 6 rfl) (ea_cons (fld_rooms T (vr 0 rfl)) ea_nil)) ⟨_, _, rfl, rfl⟩ (by decide)))))))) (fun hc => ?_) (fun hc => ?_))
      · refine x_one (s_ret ev_bl ?_)
        show Res.val _ = Res.val _
        have : fitsM n dr t hs ps = false := by
          unfold fitsM
          have : (hs.all fun h => isTradeM t h.1 && decide (0 ≤ h.2 ∧ h.2 < n)) = false := by
            rw [List.all_eq_false]
            refine ⟨q, hm, ?_⟩
            cases h1 : isTradeM t q.1
            · simp
            · rw [h1] at hc
              simp at hc ⊢
              omega
          rw [this]
          simp
        rw [this]
      refine x_nil ?_
      refine x_nil ⟨(), by walk_at "less", fun j q' hj hq' => ?_⟩
      by_cases e : j = i
      · subst e
        rw [hq] at hq'
        cases hq'
        cases h1 : isTradeM t q.1
        · rw [h1] at hc; simp at hc
        · rw [h1] at hc; simpa using hc
      · exact hI j q' (by omega) hq'
    · intro st hI
      refine x_one (s_ret ev_bl ?_)
      show Res.val _ = Res.val _
      have h2 : (hs.all fun h => isTradeM t h.1 && decide (0 ≤ h.2 ∧ h.2 < n)) = true := by
        rw [List.all_eq_true]
        intro q hq
        obtain ⟨j, hj, e⟩ := List.getElem_of_mem hq
        exact hI j q (by simpa using hj) (by rw [List.getElem?_eq_getElem hj, e])
      have : fitsM n dr t hs ps = true := by
        unfold fitsM
        rw [h1, h2]
        simp [hc]
      rw [this]
end
end DT

set_option Elab.async false
set_option linter.all false
set_option maxRecDepth 100000
namespace DT
open PySem PySem.Spec L2
open PyProof.Rows hiding St
open SX (S)
section
variable {X : Cx} {W : WX} {G : List Slot} {a b c e o : Expr} {es rest : List Expr} {pos p p2 : Pos} {d d0 d1 d2 d3 : Dv} {ds ds1 ds2 : List Dv} {k : Out → Prop} {body : List Stmt}
theorem ei_zipM {α β : Type} {n : Nat} {tgs : List Expr} {x : Str} {tp : Pos} {xs : List α} {ys : List β} {f : α → Dv} {g : β → Dv} (h1 : EvD X G a (.tup (xs.map f))) (h2 : EvD X G b (.tup (ys.map g))) (hl : xs.length = ys.length) (hx : x = "zip") (hg : Gl X x) (hm : X.mg x = none)
    (hs1 : starEach [a, b] X.env = (false, eval a X.env) :: starEach [b] X.env := by rfl) (hs2 : starEach (b :: []) X.env = (false, eval b X.env) :: starEach [] X.env := by rfl) (hpl : (backTo pos (starEach [b] X.env)).any (·.1) = false := by rfl) :
    EvI X G (.Tuple tgs n tp) (.Call (.Name x p) [a, b] [] pos) ((xs.zip ys).map fun q => Dv.tup [f q.1, g q.2]) := by
  have h := ei_zip (p := p) (n := n) (tgs := tgs) (tp := tp) h1 h2 (by simp [hl]) hx hg hm hs1 hs2 hpl
  rw [List.zip_map, List.map_map] at h
  exact h
/-- a loop that goes through if all are p -/
theorem s_each {α : Type} {tg iter : Expr} (xs : List α) (enc : α → Dv) (pr : α → Bool) (G0 : List Slot) (hp : PassesOwn (model X.prog X.w) X.A X.env X.xe) (hc : X.calm = true) (hI : EvI X G tg iter (xs.map enc)) (hl : Less G0 G)
    (hb : ∀ (i : Nat) (x : α), xs[i]? = some x → ∃ G1 js, AsG X G0 tg (enc x) G1 js ∧ Ex X W G1 body (fun o => match o with
      | .nx G' => pr x = true ∧ Less G0 G'
      | o => k o))
    (hd : xs.all pr = true → k (.nx G0)) (hfs : ∀ x : Value, foldedSetIterable iter X.env x = pure x := by intro _; rfl) : ExS X W G (.For tg iter body [] pos) k := by
  refine s_for (S := Unit) hp hc hI (fun _ => G0) (fun i _ => ∀ (j : Nat) (x : α), j < i → xs[j]? = some x → pr x = true) () (fun j x h => by omega) hl (fun i _ d hd hI => ?_) (fun _ h => hd ?_) hfs
  · obtain ⟨x, hx, rfl⟩ := map_get hd
    obtain ⟨G1, js, ag, bd⟩ := hb i x hx
    refine ⟨G1, js, ag, bd.imp fun o q => ?_⟩
    match o, q with
    | .nx G', q =>
      refine ⟨(), q.2, fun j y hj hy => ?_⟩
      by_cases e : j = i
      · subst e
        rw [hx] at hy
        cases hy
        exact q.1
      · exact hI j y (by omega) hy
    | .rt d, q => exact q
    | .ex x, q => exact q
  · rw [List.all_eq_true]
    intro x hx
    obtain ⟨j, hj, e⟩ := List.getElem_of_mem hx
    exact h j x (by simpa using hj) (by rw [List.getElem?_eq_getElem hj, e])
end
/-- an answer that may be an error -/
def resOf (o : Option Str) (d : Dv) : Res := match o with
  | none => .val d
  | some x => .exc x
end DT

set_option Elab.async false
set_option linter.all false
set_option maxRecDepth 100000
namespace DT
open PySem PySem.Spec L2
open PyProof.Rows hiding St
open SX (S)
local macro_rules | `(tactic| walk_at "less") => `(tactic| repeat (first | exact DT.Less.nil | refine DT.Less.cons ?_ | refine DT.Less.free ?_))
def knownM (hs : List Hand) (ks : List Int) : Bool := ks.all fun k => decide (0 ≤ k ∧ k < (hs.length : Int))
def needM (n : Int) (dr : List Door) (t : List Nat) (hs : List Hand) (ps : List Int) (ks : List Int) : Option Str :=
  if fitsM n dr t hs ps = false then some "InvalidStanding" else if knownM hs ks = false then some "UnknownPart" else if t ≠ [82, 66] then some "WrongTrades" else if noMaster hs = false then some "WrongTrades"
  else if (dr.length : Int) ≠ n - 1 then some "NotTree" else if swiftM dr = false then some "NotSwift" else none
section
variable {P : Program} {w : World} {K : PySem.W.Frag} {mg : Str → Option Value} {base : Heap}
theorem sc41 : FnScope ["house", "standing", "back", "place", "_", "cycle"] ["house", "standing", "back"] (defScope (topS 41)) := ⟨rfl, rfl, rfl, by decide +kernel, rfl, by decide +kernel, by decide +kernel⟩
def R_lights_at (mg : Str → Option Value) : List Dv → Res → Prop := fun ds res => ∃ n dr t hs ps, ds = [encHo mg n dr t, encSt mg hs ps, .int 0] ∧ Short dr hs ∧ ps.length = dr.length ∧ dr.length ≤ 1000 ∧ (∀ q ∈ ps.zip dr, 0 < q.2.2.2.length) ∧ res = .val (.lst ((lightsM dr ps).map encL))
theorem d_lights_at (T : Txt K mg) : Df P w K mg base "lights_at" 1 (R_lights_at mg) := by
  have nd := sc41.nd
  refine df_mk (T.fn 41 "lights_at" rfl) sc41 _ (fun ds res h => by obtain ⟨n, dr, t, hs, ps, rfl, _⟩ := h; rfl) (fun _ _ _ _ _ _ us hl => match us, hl with | [_, _, _], _ => rfl) (fun f cdv A outer s H E hr tk hp ds res h => ?_)
  obtain ⟨n, dr, t, hs, ps, rfl, ⟨h1, h2⟩, hl, hz, hq, rfl⟩ := h
  refine x_one (s_ret (en_d (en_lc rfl nd (lc_map (own := [("place", 3), ("_", 4), ("cycle", 5)]) (xs := ps.zip dr) (fun q => Dv.tup [Dv.int q.1, encDr q.2]) (fun q => encL (ix q.2.2.2 (q.1 % q.2.2.2.length))) (ei_zipM (fld_places T (vr 1 rfl)) (fld_doors T (vr 0 rfl)) hl rfl rfl T.zip) ?_ (blkOk_by (by kernel_rfl))
    (fun x hx => turn_map (by decide) (fun _ _ _ _ _ => (ag_tup rfl (aw_cons (tg 3 nd) (aw_cons (ag_tup rfl (aw_cons (tg 4 nd) (aw_cons (tg 4 nd) (aw_cons (tg 5 nd) aw_nil)))) aw_nil)))) (fun _ _ _ _ _ => ev_is (ixS (vr 5 rfl) (ev_mod (ev_sub (vr 3 rfl) (vr 2 rfl)) (lenS (vr 5 rfl) ?_ rfl rfl T.len) ?_) ?_ ?_ ?_) ?_))))) ?_)
  · rw [List.length_zip]; omega
  · exact Nat.le_trans (h1 _ (List.of_mem_zip hx).2) (by decide)
  · have := hq x hx; omega
  · exact Nat.le_trans (h1 _ (List.of_mem_zip hx).2) (by decide)
  · have := hq x hx
    exact Int.emod_nonneg _ (by omega)
  · have := hq x hx
    exact Int.emod_lt_of_pos _ (by omega)
  · rw [Int.sub_zero]; rfl
  · show Res.val _ = Res.val _
    unfold lightsM
    rw [List.map_map]
    rfl

theorem sc43 : FnScope ["house", "standing"] ["house", "standing"] (defScope (topS 43)) := ⟨rfl, rfl, rfl, by decide +kernel, rfl, by decide +kernel, by decide +kernel⟩
def R_need_fits (mg : Str → Option Value) : List Dv → Res → Prop := fun ds res => ∃ n dr t hs ps, ds = [encHo mg n dr t, encSt mg hs ps] ∧ Short dr hs ∧ res = resOf (if fitsM n dr t hs ps = false then some "InvalidStanding" else none) .non
theorem d_need_fits (T : Txt K mg) : Df P w K mg base "need_fits" 3 (R_need_fits mg) := by
  have D_fits := @d_fits P w K mg base T
  refine df_mk (T.fn 43 "need_fits" rfl) sc43 _ (fun ds res h => by obtain ⟨n, dr, t, hs, ps, rfl, _⟩ := h; rfl) (fun _ _ _ _ _ _ us hl => match us, hl with | [_, _], _ => rfl) (fun f cdv A outer s H E hr tk hp ds res h => ?_)
  obtain ⟨n, dr, t, hs, ps, rfl, hS, rfl⟩ := h
  refine x_cons (s_if (eb_not (eb_val (ev_call D_fits (hr.mono (by decide)) rfl (ea_cons (vr 0 rfl) (ea_cons (vr 1 rfl) ea_nil)) ⟨n, dr, t, hs, ps, rfl, hS, rfl⟩ (by decide)))) (fun hc => ?_) (fun hc => ?_))
  · refine x_one (raise T (by decide) tk rfl rfl ?_)
    simp at hc
    rw [if_pos hc]; rfl
  refine x_nil (x_nil ?_)
  simp at hc
  rw [if_neg (by simp [hc])]; rfl

theorem sc44 : FnScope ["standing", "hands", "hand"] ["standing", "hands"] (defScope (topS 44)) := ⟨rfl, rfl, rfl, by decide +kernel, rfl, by decide +kernel, by decide +kernel⟩
def R_need_hands (mg : Str → Option Value) : List Dv → Res → Prop := fun ds res => ∃ hs ps ks, ds = [encSt mg hs ps, .lst (ks.map Dv.int)] ∧ res = resOf (if knownM hs ks = false then some "UnknownPart" else none) .non
theorem d_need_hands (T : Txt K mg) : Df P w K mg base "need_hands" 2 (R_need_hands mg) := by
  have nd := sc44.nd
  have D_is_index := @d_is_index P w K mg base T
  refine df_mk (T.fn 44 "need_hands" rfl) sc44 _ (fun ds res h => by obtain ⟨hs, ps, ks, rfl, _⟩ := h; rfl) (fun _ _ _ _ _ _ us hl => match us, hl with | [_, _], _ => rfl) (fun f cdv A outer s H E hr tk hp ds res h => ?_)
  obtain ⟨hs, ps, ks, rfl, rfl⟩ := h
  refine x_cons (s_each ks Dv.int (fun k => decide (0 ≤ k ∧ k < (hs.length : Int))) [.sh (encSt mg hs ps), .sh (.lst (ks.map Dv.int)), .free] hp rfl (ei_list (vr 1 rfl)) (by walk_at "less") (fun i x hx => ?_) (fun ha => ?_))
  · refine ⟨_, _, (tg 2 nd), ?_⟩
    refine x_cons (s_if (eb_not (eb_val (ev_call D_is_index (hr.mono (by decide)) rfl (ea_cons (vr 2 rfl) (ea_cons (ev_lenT (fld_hands T (vr 0 rfl)) rfl rfl T.len) ea_nil)) ⟨_, _, rfl, rfl⟩ (by decide)))) (fun hc => ?_) (fun hc => ?_))
    · refine x_one (raise T (by decide) tk rfl rfl ?_)
      have : knownM hs ks = false := by
        unfold knownM
        rw [List.all_eq_false]
        exact ⟨x, List.mem_of_getElem? hx, by simp at hc ⊢; omega⟩
      rw [if_pos this]; rfl
    refine x_nil (x_nil ⟨?_, by walk_at "less"⟩)
    simpa using hc
  · refine x_nil ?_
    have : knownM hs ks = true := ha
    rw [if_neg (by simp [this])]; rfl

theorem sc45 : FnScope ["standing", "hand"] ["standing"] (defScope (topS 45)) := ⟨rfl, rfl, rfl, by decide +kernel, rfl, by decide +kernel, by decide +kernel⟩
def R_need_no_masters (mg : Str → Option Value) : List Dv → Res → Prop := fun ds res => ∃ hs ps, ds = [encSt mg hs ps] ∧ res = resOf (if noMaster hs = false then some "WrongTrades" else none) .non
theorem d_need_no_masters (T : Txt K mg) : Df P w K mg base "need_no_masters" 1 (R_need_no_masters mg) := by
  have nd := sc45.nd
  refine df_mk (T.fn 45 "need_no_masters" rfl) sc45 _ (fun ds res h => by obtain ⟨hs, ps, rfl, _⟩ := h; rfl) (fun _ _ _ _ _ _ us hl => match us, hl with | [_], _ => rfl) (fun f cdv A outer s H E hr tk hp ds res h => ?_)
  obtain ⟨hs, ps, rfl, rfl⟩ := h
  refine x_cons (s_each hs encH (fun h => !decide (h.1 = [42])) [.sh (encSt mg hs ps), .free] hp rfl (ei_tup (fld_hands T (vr 0 rfl))) (by walk_at "less") (fun i x hx => ?_) (fun ha => ?_))
  · refine ⟨_, _, (tg 1 nd), ?_⟩
    refine x_cons (s_if (eqS (ixt (vr 1 rfl) ⟨by decide, rfl⟩) (cs [42])) (fun hc => ?_) (fun hc => ?_))
    · refine x_one (raise T (by decide) tk rfl rfl ?_)
      have : noMaster hs = false := by
        unfold noMaster
        rw [List.all_eq_false]
        exact ⟨x, List.mem_of_getElem? hx, by simpa using hc⟩
      rw [if_pos this]; rfl
    refine x_nil (x_nil ⟨?_, by walk_at "less"⟩)
    simpa using hc
  · refine x_nil ?_
    have : noMaster hs = true := ha
    rw [if_neg (by simp [this])]; rfl

theorem sc46 : FnScope ["house", "standing"] ["house", "standing"] (defScope (topS 46)) := ⟨rfl, rfl, rfl, by decide +kernel, rfl, by decide +kernel, by decide +kernel⟩
def R_need_two_trades (mg : Str → Option Value) : List Dv → Res → Prop := fun ds res => ∃ n dr t hs ps, ds = [encHo mg n dr t, encSt mg hs ps] ∧ res = resOf (if t ≠ [82, 66] then some "WrongTrades" else if noMaster hs = false then some "WrongTrades" else none) .non
theorem d_need_two_trades (T : Txt K mg) : Df P w K mg base "need_two_trades" 2 (R_need_two_trades mg) := by
  have D_need_no_masters := @d_need_no_masters P w K mg base T
  refine df_mk (T.fn 46 "need_two_trades" rfl) sc46 _ (fun ds res h => by obtain ⟨n, dr, t, hs, ps, rfl, _⟩ := h; rfl) (fun _ _ _ _ _ _ us hl => match us, hl with | [_, _], _ => rfl) (fun f cdv A outer s H E hr tk hp ds res h => ?_)
  obtain ⟨n, dr, t, hs, ps, rfl, rfl⟩ := h
  refine x_cons (s_if (neS (fld_trades T (vr 0 rfl)) (cs [82, 66])) (fun hc => ?_) (fun hc => ?_))
  · refine x_one (raise T (by decide) tk rfl rfl ?_)
    simp at hc
    rw [if_pos hc]; rfl
  refine x_nil ?_
  simp at hc
  rw [if_neg (by simp [hc])]
  by_cases hm : noMaster hs = false
  · rw [if_pos hm]
    exact x_cons (s_exprX (ex_call tk D_need_no_masters (hr.mono (by decide)) rfl (ea_cons (vr 1 rfl) ea_nil) ⟨hs, ps, rfl, by rw [if_pos hm]; rfl⟩ (by decide)) rfl)
  · rw [if_neg hm]
    exact x_cons (s_expr (ev_call D_need_no_masters (hr.mono (by decide)) rfl (ea_cons (vr 1 rfl) ea_nil) ⟨hs, ps, rfl, by rw [if_neg hm]; rfl⟩ (by decide)) (x_nil rfl))

theorem sc35 : FnScope ["house"] ["house"] (defScope (topS 35)) := ⟨rfl, rfl, rfl, by decide +kernel, rfl, by decide +kernel, by decide +kernel⟩
def R_is_tree (mg : Str → Option Value) : List Dv → Res → Prop := fun ds res => ∃ n dr t, ds = [encHo mg n dr t] ∧ res = .val (.bl (decide ((dr.length : Int) = n - 1)))
theorem d_is_tree (T : Txt K mg) : Df P w K mg base "is_tree" 1 (R_is_tree mg) := by
  refine df_mk (T.fn 35 "is_tree" rfl) sc35 _ (fun ds res h => by obtain ⟨n, dr, t, rfl, _⟩ := h; rfl) (fun _ _ _ _ _ _ us hl => match us, hl with | [_], _ => rfl) (fun f cdv A outer s H E hr tk hp ds res h => ?_)
  obtain ⟨n, dr, t, rfl, rfl⟩ := h
  refine x_one (s_ret (EvB.v (eb_eq (ev_lenT (fld_doors T (vr 0 rfl)) rfl rfl T.len) (ev_sub (fld_rooms T (vr 0 rfl)) ev_int))) ?_)
  show Res.val _ = Res.val _
  rw [List.length_map]

theorem sc47 : FnScope ["house"] ["house"] (defScope (topS 47)) := ⟨rfl, rfl, rfl, by decide +kernel, rfl, by decide +kernel, by decide +kernel⟩
def R_need_tree (mg : Str → Option Value) : List Dv → Res → Prop := fun ds res => ∃ n dr t, ds = [encHo mg n dr t] ∧ res = resOf (if (dr.length : Int) ≠ n - 1 then some "NotTree" else none) .non
theorem d_need_tree (T : Txt K mg) : Df P w K mg base "need_tree" 2 (R_need_tree mg) := by
  have D_is_tree := @d_is_tree P w K mg base T
  refine df_mk (T.fn 47 "need_tree" rfl) sc47 _ (fun ds res h => by obtain ⟨n, dr, t, rfl, _⟩ := h; rfl) (fun _ _ _ _ _ _ us hl => match us, hl with | [_], _ => rfl) (fun f cdv A outer s H E hr tk hp ds res h => ?_)
  obtain ⟨n, dr, t, rfl, rfl⟩ := h
  refine x_cons (s_if (eb_not (eb_val (ev_call D_is_tree (hr.mono (by decide)) rfl (ea_cons (vr 0 rfl) ea_nil) ⟨n, dr, t, rfl, rfl⟩ (by decide)))) (fun hc => ?_) (fun hc => ?_))
  · refine x_one (raise T (by decide) tk rfl rfl ?_)
    have hc' : ¬ (dr.length : Int) = n - 1 := by simpa using hc
    rw [if_pos hc']; rfl
  refine x_nil (x_nil ?_)
  have hc' : (dr.length : Int) = n - 1 := by simpa using hc
  rw [if_neg (by simp [hc'])]; rfl

theorem sc36 : FnScope ["house", "door"] ["house"] (defScope (topS 36)) := ⟨rfl, rfl, rfl, by decide +kernel, rfl, by decide +kernel, by decide +kernel⟩
def R_is_swift (mg : Str → Option Value) : List Dv → Res → Prop := fun ds res => ∃ n dr t, ds = [encHo mg n dr t] ∧ dr.length ≤ 1000 ∧ (∀ d ∈ dr, 0 < d.2.2.length ∧ d.2.2.length ≤ 1000) ∧ res = .val (.bl (swiftM dr))
theorem d_is_swift (T : Txt K mg) : Df P w K mg base "is_swift" 1 (R_is_swift mg) := by
  have nd := sc36.nd
  refine df_mk (T.fn 36 "is_swift" rfl) sc36 _ (fun ds res h => by obtain ⟨n, dr, t, rfl, _⟩ := h; rfl) (fun _ _ _ _ _ _ us hl => match us, hl with | [_], _ => rfl) (fun f cdv A outer s H E hr tk hp ds res h => ?_)
  obtain ⟨n, dr, t, rfl, hz, hl, rfl⟩ := h
  have key : ∀ d ∈ dr, d.2.2.length ≤ 100000 ∧ (0 : Int) < d.2.2.length ∧ d.2.2.length + [ix d.2.2 0].length ≤ 100000 := fun d hd => by
    have := hl d hd
    simp
    omega
  refine x_one (s_ret (ev_all rfl (bs := dr.map fun d => !twin 66 (d.2.2 ++ [ix d.2.2 0])) (by
    rw [List.map_map]
    exact (en_p (en_lc rfl nd (lc_map (own := [("door", 1)]) encDr (fun d => Dv.bl (!twin 66 (d.2.2 ++ [ix d.2.2 0]))) (ei_tup (fld_doors T (vr 0 rfl))) (by omega) (blkOk_by (by kernel_rfl)) (fun x hx => turn_map (by decide) (fun _ _ _ _ _ => (tg 1 nd)) (fun _ _ _ _ _ => ev_is (EvB.v (eb_ninS (cs [66, 66]) (addS (ixt (vr 1 rfl) ⟨by decide, rfl⟩) (ixS (ixt (vr 1 rfl) ⟨by decide, rfl⟩) ev_int (key x hx).1 (by omega) (key x hx).2.1) (key x hx).2.2) (by rfl))) (by rw [has_two]))))))) rfl rfl T.all) ?_)
  show Res.val _ = Res.val _
  unfold swiftM
  rw [List.all_map]
  rfl

theorem sc48 : FnScope ["house"] ["house"] (defScope (topS 48)) := ⟨rfl, rfl, rfl, by decide +kernel, rfl, by decide +kernel, by decide +kernel⟩
def R_need_swift (mg : Str → Option Value) : List Dv → Res → Prop := fun ds res => ∃ n dr t, ds = [encHo mg n dr t] ∧ dr.length ≤ 1000 ∧ (∀ d ∈ dr, 0 < d.2.2.length ∧ d.2.2.length ≤ 1000) ∧ res = resOf (if swiftM dr = false then some "NotSwift" else none) .non
theorem d_need_swift (T : Txt K mg) : Df P w K mg base "need_swift" 2 (R_need_swift mg) := by
  have D_is_swift := @d_is_swift P w K mg base T
  refine df_mk (T.fn 48 "need_swift" rfl) sc48 _ (fun ds res h => by obtain ⟨n, dr, t, rfl, _⟩ := h; rfl) (fun _ _ _ _ _ _ us hl => match us, hl with | [_], _ => rfl) (fun f cdv A outer s H E hr tk hp ds res h => ?_)
  obtain ⟨n, dr, t, rfl, h1, h2, rfl⟩ := h
  refine x_cons (s_if (eb_not (eb_val (ev_call D_is_swift (hr.mono (by decide)) rfl (ea_cons (vr 0 rfl) ea_nil) ⟨n, dr, t, rfl, h1, h2, rfl⟩ (by decide)))) (fun hc => ?_) (fun hc => ?_))
  · refine x_one (raise T (by decide) tk rfl rfl ?_)
    simp at hc
    rw [if_pos hc]; rfl
  refine x_nil (x_nil ?_)
  simp at hc
  rw [if_neg (by simp [hc])]; rfl

theorem sc54 : FnScope ["house", "standing", "hands"] ["house", "standing", "hands"] (defScope (topS 54)) := ⟨rfl, rfl, rfl, by decide +kernel, rfl, by decide +kernel, by decide +kernel⟩
/-- what every call of the chase's functions asks: short texts, cycles that are not empty -/
def Wf (dr : List Door) (hs : List Hand) : Prop := dr.length ≤ 1000 ∧ (∀ d ∈ dr, 0 < d.2.2.length ∧ d.2.2.length ≤ 1000) ∧ (∀ h ∈ hs, h.1.length ≤ 1000)
theorem Wf.short {dr : List Door} {hs : List Hand} (h : Wf dr hs) : Short dr hs := ⟨fun d hd => (h.2.1 d hd).2, h.2.2⟩
def R_need_chase (mg : Str → Option Value) : List Dv → Res → Prop := fun ds res => ∃ n dr t hs ps ks, ds = [encHo mg n dr t, encSt mg hs ps, .lst (ks.map Dv.int)] ∧ Wf dr hs ∧ res = resOf (needM n dr t hs ps ks) .non
theorem d_need_chase (T : Txt K mg) : Df P w K mg base "_need_chase" 4 (R_need_chase mg) := by
  have D_need_fits := @d_need_fits P w K mg base T
  have D_need_hands := @d_need_hands P w K mg base T
  have D_need_two_trades := @d_need_two_trades P w K mg base T
  have D_need_tree := @d_need_tree P w K mg base T
  have D_need_swift := @d_need_swift P w K mg base T
  refine df_mk (T.fn 54 "_need_chase" rfl) sc54 _ (fun ds res h => by obtain ⟨n, dr, t, hs, ps, ks, rfl, _⟩ := h; rfl) (fun _ _ _ _ _ _ us hl => match us, hl with | [_, _, _], _ => rfl) (fun f cdv A outer s H E hr tk hp ds res h => ?_)
  obtain ⟨n, dr, t, hs, ps, ks, rfl, hW, rfl⟩ := h
  unfold needM
  by_cases c1 : fitsM n dr t hs ps = false
  · rw [if_pos c1]
    exact x_cons (s_exprX (ex_call tk D_need_fits (hr.mono (by decide)) rfl (ea_cons (vr 0 rfl) (ea_cons (vr 1 rfl) ea_nil)) ⟨n, dr, t, hs, ps, rfl, hW.short, by rw [if_pos c1]; rfl⟩ (by decide)) rfl)
  rw [if_neg c1]
  refine x_cons (s_expr (ev_call D_need_fits (hr.mono (by decide)) rfl (ea_cons (vr 0 rfl) (ea_cons (vr 1 rfl) ea_nil)) ⟨n, dr, t, hs, ps, rfl, hW.short, by rw [if_neg c1]; rfl⟩ (by decide)) ?_)
  by_cases c2 : knownM hs ks = false
  · rw [if_pos c2]
    exact x_cons (s_exprX (ex_call tk D_need_hands (hr.mono (by decide)) rfl (ea_cons (vr 1 rfl) (ea_cons (vr 2 rfl) ea_nil)) ⟨hs, ps, ks, rfl, by rw [if_pos c2]; rfl⟩ (by decide)) rfl)
  rw [if_neg c2]
  refine x_cons (s_expr (ev_call D_need_hands (hr.mono (by decide)) rfl (ea_cons (vr 1 rfl) (ea_cons (vr 2 rfl) ea_nil)) ⟨hs, ps, ks, rfl, by rw [if_neg c2]; rfl⟩ (by decide)) ?_)
  by_cases c3 : t ≠ [82, 66]
  · rw [if_pos c3]
    exact x_cons (s_exprX (ex_call tk D_need_two_trades (hr.mono (by decide)) rfl (ea_cons (vr 0 rfl) (ea_cons (vr 1 rfl) ea_nil)) ⟨n, dr, t, hs, ps, rfl, by rw [if_pos c3]; rfl⟩ (by decide)) rfl)
  rw [if_neg c3]
  by_cases c4 : noMaster hs = false
  · rw [if_pos c4]
    exact x_cons (s_exprX (ex_call tk D_need_two_trades (hr.mono (by decide)) rfl (ea_cons (vr 0 rfl) (ea_cons (vr 1 rfl) ea_nil)) ⟨n, dr, t, hs, ps, rfl, by rw [if_neg c3, if_pos c4]; rfl⟩ (by decide)) rfl)
  rw [if_neg c4]
  refine x_cons (s_expr (ev_call D_need_two_trades (hr.mono (by decide)) rfl (ea_cons (vr 0 rfl) (ea_cons (vr 1 rfl) ea_nil)) ⟨n, dr, t, hs, ps, rfl, by rw [if_neg c3, if_neg c4]; rfl⟩ (by decide)) ?_)
  by_cases c5 : (dr.length : Int) ≠ n - 1
  · rw [if_pos c5]
    exact x_cons (s_exprX (ex_call tk D_need_tree (hr.mono (by decide)) rfl (ea_cons (vr 0 rfl) ea_nil) ⟨n, dr, t, rfl, by rw [if_pos c5]; rfl⟩ (by decide)) rfl)
  rw [if_neg c5]
  refine x_cons (s_expr (ev_call D_need_tree (hr.mono (by decide)) rfl (ea_cons (vr 0 rfl) ea_nil) ⟨n, dr, t, rfl, by rw [if_neg c5]; rfl⟩ (by decide)) ?_)
  by_cases c6 : swiftM dr = false
  · rw [if_pos c6]
    exact x_cons (s_exprX (ex_call tk D_need_swift (hr.mono (by decide)) rfl (ea_cons (vr 0 rfl) ea_nil) ⟨n, dr, t, rfl, hW.1, hW.2.1, by rw [if_pos c6]; rfl⟩ (by decide)) rfl)
  rw [if_neg c6]
  exact x_cons (s_expr (ev_call D_need_swift (hr.mono (by decide)) rfl (ea_cons (vr 0 rfl) ea_nil) ⟨n, dr, t, rfl, hW.1, hW.2.1, by rw [if_neg c6]; rfl⟩ (by decide)) (x_nil rfl))
end
end DT

set_option Elab.async false
set_option linter.all false
set_option maxRecDepth 100000
namespace DT
open PySem PySem.Spec L2
open PyProof.Rows hiding St
open SX (S)
local macro_rules | `(tactic| walk_at "less") => `(tactic| repeat (first | exact DT.Less.nil | refine DT.Less.cons ?_ | refine DT.Less.free ?_))
/-! ### mirrors -/
def iter {T : Type} (f : T → Nat → T) (s : T) : Nat → T
  | 0 => s
  | n + 1 => f (iter f s n) n
def rng (n : Nat) : List Int := (List.range n).map fun i : Nat => (i : Int)
theorem rngD_rng (n : Nat) : rngD n = (rng n).map Dv.int := by unfold rngD rng; rw [List.map_map]; rfl
def treeStep (dr : List Door) (st : List Int × List Int) (k : Nat) : List Int × List Int :=
  if ix st.1 (ix dr k).1 = ix st.1 (ix dr k).2.1 then st else (st.1.map (fun l => if l = ix st.1 (ix dr k).2.1 then ix st.1 (ix dr k).1 else l), st.2 ++ [(k : Int)])
def treeRun (n : Nat) (dr : List Door) (k : Nat) : List Int × List Int := iter (treeStep dr) (rng n, []) k
def treeDoorsM (n : Nat) (dr : List Door) : List Int := (treeRun n dr dr.length).2
def EndsOk (n : Nat) (dr : List Door) : Prop := ∀ d ∈ dr, 0 ≤ d.1 ∧ d.1 < n ∧ 0 ≤ d.2.1 ∧ d.2.1 < n
abbrev OrdSt := List Bool × List Int × List (Int × Int × Int)
def ordIn (dr : List Door) (par : Int) (st : OrdSt) (d : Int) : OrdSt :=
  if ((ix dr d).1 = par ∨ (ix dr d).2.1 = par) ∧ ix st.1 ((ix dr d).1 + (ix dr d).2.1 - par) = false then
    (st.1.set ((ix dr d).1 + (ix dr d).2.1 - par).toNat true, st.2.1 ++ [(ix dr d).1 + (ix dr d).2.1 - par], st.2.2 ++ [((ix dr d).1 + (ix dr d).2.1 - par, d, par)])
  else st
def ordOut (dr : List Door) (tds : List Int) (st : OrdSt) (k : Nat) : OrdSt := tds.foldl (ordIn dr (ix st.2.1 k)) st
def ord0 (n : Nat) (r : Int) : OrdSt := ((rng n).map fun v => decide (v = r), [r], [])
def ordRun (n : Nat) (dr : List Door) (r : Int) (k : Nat) : OrdSt := iter (ordOut dr (treeDoorsM n dr)) (ord0 n r) k
def orderM (n : Nat) (dr : List Door) (r : Int) : List (Int × Int × Int) := (ordRun n dr r n).2.2

theorem treeRun_len (n : Nat) (dr : List Door) : ∀ k, (treeRun n dr k).1.length = n
  | 0 => by simp [treeRun, iter, rng]
  | k + 1 => by
    have ih := treeRun_len n dr k
    show (treeStep dr (treeRun n dr k) k).1.length = n
    unfold treeStep
    split
    · exact ih
    · simpa using ih
theorem treeRun_mem (n : Nat) (dr : List Door) : ∀ k, ∀ d ∈ (treeRun n dr k).2, 0 ≤ d ∧ d < k
  | 0 => by simp [treeRun, iter]
  | k + 1 => by
    have ih := treeRun_mem n dr k
    show ∀ d ∈ (treeStep dr (treeRun n dr k) k).2, 0 ≤ d ∧ d < ((k + 1 : Nat) : Int)
    unfold treeStep
    intro d hd
    split at hd
    · have := ih d hd; omega
    · rcases List.mem_append.mp hd with h | h
      · have := ih d h; omega
      · simp at h; omega
theorem treeRun_cnt (n : Nat) (dr : List Door) : ∀ k, (treeRun n dr k).2.length ≤ k
  | 0 => by simp [treeRun, iter]
  | k + 1 => by
    have ih := treeRun_cnt n dr k
    show (treeStep dr (treeRun n dr k) k).2.length ≤ k + 1
    unfold treeStep
    split
    · omega
    · simp; omega
theorem ordIn_len (dr : List Door) (par : Int) (st : OrdSt) (d : Int) : (ordIn dr par st d).1.length = st.1.length ∧ (ordIn dr par st d).2.1.length ≤ st.2.1.length + 1 ∧ (ordIn dr par st d).2.2.length ≤ st.2.2.length + 1 := by
  unfold ordIn
  split <;> simp
theorem ordFold_len (dr : List Door) (par : Int) : ∀ (tds : List Int) (st : OrdSt), (tds.foldl (ordIn dr par) st).1.length = st.1.length ∧ (tds.foldl (ordIn dr par) st).2.1.length ≤ st.2.1.length + tds.length ∧ (tds.foldl (ordIn dr par) st).2.2.length ≤ st.2.2.length + tds.length
  | [], st => by simp
  | d :: r, st => by
    have h1 := ordIn_len dr par st d
    have h2 := ordFold_len dr par r (ordIn dr par st d)
    simp only [List.foldl_cons, List.length_cons]
    omega
theorem ordRun_len (n : Nat) (dr : List Door) (r : Int) : ∀ k, (ordRun n dr r k).1.length = n ∧ (ordRun n dr r k).2.1.length ≤ 1 + k * dr.length ∧ (ordRun n dr r k).2.2.length ≤ k * dr.length
  | 0 => by simp [ordRun, iter, ord0, rng]
  | k + 1 => by
    have ih := ordRun_len n dr r k
    have h := ordFold_len dr (ix (ordRun n dr r k).2.1 k) (treeDoorsM n dr) (ordRun n dr r k)
    have hc := treeRun_cnt n dr dr.length
    show (ordOut dr (treeDoorsM n dr) (ordRun n dr r k) k).1.length = n ∧ (ordOut dr (treeDoorsM n dr) (ordRun n dr r k) k).2.1.length ≤ _ ∧ (ordOut dr (treeDoorsM n dr) (ordRun n dr r k) k).2.2.length ≤ _
    unfold ordOut
    have h3 : (treeDoorsM n dr).length ≤ dr.length := hc
    rw [Nat.succ_mul]
    omega
theorem foldl_take {α β : Type} {f : β → α → β} {l : List α} {i : Nat} {x : α} (h : l[i]? = some x) (b : β) : (l.take (i + 1)).foldl f b = f ((l.take i).foldl f b) x := by
  rw [List.take_add_one, h, List.foldl_append]
  rfl
theorem mem_ix {α : Type} [Inhabited α] {xs : List α} {k : Int} (h0 : 0 ≤ k) (h1 : k < xs.length) : ix xs k ∈ xs := List.mem_of_getElem? (ix_get h0 h1)

section
variable {P : Program} {w : World} {K : PySem.W.Frag} {mg : Str → Option Value} {base : Heap}
theorem sc50 : FnScope ["house", "labels", "chosen", "door", "first", "second", "_", "kept", "lost", "label"] ["house"] (defScope (topS 50)) := ⟨rfl, rfl, rfl, by decide +kernel, rfl, by decide +kernel, by decide +kernel⟩
def R_tree_doors (mg : Str → Option Value) : List Dv → Res → Prop := fun ds res => ∃ (n : Nat) (dr : List Door) (t : List Nat), ds = [encHo mg n dr t] ∧ n ≤ 100 ∧ dr.length ≤ 100 ∧ EndsOk n dr ∧ res = .val (.lst ((treeDoorsM n dr).map Dv.int))
theorem d_tree_doors (T : Txt K mg) : Df P w K mg base "tree_doors" 1 (R_tree_doors mg) := by
  have nd := sc50.nd
  refine df_mk (T.fn 50 "tree_doors" rfl) sc50 _ (fun ds res h => by obtain ⟨n, dr, t, rfl, _⟩ := h; rfl) (fun _ _ _ _ _ _ us hl => match us, hl with | [_], _ => rfl) (fun f cdv A outer s H E hr tk hp ds res h => ?_)
  obtain ⟨n, dr, t, rfl, hn, hdl, hE, rfl⟩ := h
  refine x_cons (st 1 nd (en_d (en_listRng rfl (fld_rooms T (vr 0 rfl)) (by omega) rfl rfl (by rfl) T.list (by rfl) T.range)) ?_)
  refine x_cons (stN 2 nd (en_lst ea_nil) ?_)
  refine x_cons (s_for (S := List Int × List Int) hp rfl (ei_rng (n := dr.length) (ev_is (ev_lenT (fld_doors T (vr 0 rfl)) rfl rfl T.len) (by simp)) (by omega) rfl rfl T.range)
    (fun st => [.sh (encHo mg n dr t), .sh (.lst (st.1.map Dv.int)), .own (st.2.map Dv.int), .free, .free, .free, .free, .free, .free, .free]) (fun i st => st = treeRun n dr i) (rng n, []) rfl (by rw [← rngD_rng]; walk_at "less") ?_ ?_)
  · intro i st d hd hI
    subst hI
    obtain ⟨rfl, hi⟩ := rng_get hd
    have hm := hE _ (mem_ix (k := (i : Int)) (by omega) (by omega : (i : Int) < dr.length))
    have hl := treeRun_len n dr i
    have hc2 := treeRun_cnt n dr i
    refine ⟨_, _, (tg 3 nd), ?_⟩
    refine x_cons (s_asg (ixmT (fld_doors T (vr 0 rfl)) (vr 3 rfl) (by omega) (by omega)) (ag_tup rfl (aw_cons (tg 4 nd) (aw_cons (tg 5 nd) (aw_cons (tg 6 nd) aw_nil)))) ?_)
    refine x_cons (s_asg (ev_tup (ea_cons (ixm (ev_p (vr 1 rfl)) (vr 4 rfl) (by omega) (by omega)) (ea_cons (ixm (ev_p (vr 1 rfl)) (vr 5 rfl) (by omega) (by omega)) ea_nil))) (ag_tup rfl (aw_cons (tg 7 nd) (aw_cons (tg 8 nd) aw_nil))) ?_)
    refine x_cons (s_if (eb_ne (vr 7 rfl) (vr 8 rfl)) (fun hc => ?_) (fun hc => ?_))
    · have hc' : ¬ ix (treeRun n dr i).1 (ix dr i).1 = ix (treeRun n dr i).1 (ix dr i).2.1 := by simpa using hc
      refine x_cons (app 2 rfl (vr 3 rfl) (by rw [List.length_map]; omega) ?_)
      refine x_cons (s_setLc 1 rfl nd rfl rfl (sw_true rfl rfl rfl (by decide +kernel)) (lc_map (own := [("label", 9)]) Dv.int (fun l => Dv.int (if l = ix (treeRun n dr i).1 (ix dr i).2.1 then ix (treeRun n dr i).1 (ix dr i).1 else l)) (ei_list (vr 1 rfl)) (by omega) (blkOk_by (by kernel_rfl))
        (fun x hx => turn_map (by decide) (fun _ _ _ _ _ => (tg 9 nd)) (fun _ _ _ _ _ => (ev_ifExp (eb_eq (vr 9 rfl) (vr 8 rfl)) (fun h => ev_is (vr 7 rfl) (by rw [if_pos (by simpa using h)])) (fun h => ev_is (vr 9 rfl) (by rw [if_neg (by simpa using h)])))))) ?_)
      refine x_frz 1 rfl ?_
      refine x_nil (x_nil ⟨treeRun n dr (i + 1), ?_, rfl⟩)
      have e : treeRun n dr (i + 1) = treeStep dr (treeRun n dr i) i := rfl
      rw [e]
      unfold treeStep
      rw [if_neg hc', List.map_map, List.map_append]
      walk_at "less"
    · have hc' : ix (treeRun n dr i).1 (ix dr i).1 = ix (treeRun n dr i).1 (ix dr i).2.1 := by simpa using hc
      refine x_nil (x_nil ⟨treeRun n dr (i + 1), ?_, rfl⟩)
      have e : treeRun n dr (i + 1) = treeStep dr (treeRun n dr i) i := rfl
      rw [e]
      unfold treeStep
      rw [if_pos hc']
      walk_at "less"
  · intro st hI
    subst hI
    refine x_frz 2 rfl ?_
    refine x_one (s_ret (vr 2 rfl) ?_)
    show Res.val _ = Res.val _
    rw [rng_len]
    rfl

theorem sc51 : FnScope ["house", "root", "doors", "room", "found", "rooms", "order", "at", "parent", "door", "first", "second", "_"] ["house", "root"] (defScope (topS 51)) := ⟨rfl, rfl, rfl, by decide +kernel, rfl, by decide +kernel, by decide +kernel⟩
def OrdOk (n : Nat) (dr : List Door) (r : Int) : Prop := ∀ k, k < n → k < (ordRun n dr r k).2.1.length
def R_tree_order (mg : Str → Option Value) : List Dv → Res → Prop := fun ds res => ∃ (n : Nat) (dr : List Door) (t : List Nat) (r : Int), ds = [encHo mg n dr t, .int r] ∧ n ≤ 100 ∧ dr.length ≤ 100 ∧ EndsOk n dr ∧ OrdOk n dr r ∧ res = .val (.lst ((orderM n dr r).map encP3))
theorem d_tree_order (T : Txt K mg) : Df P w K mg base "tree_order" 2 (R_tree_order mg) := by
  have nd := sc51.nd
  have D_tree_doors := @d_tree_doors P w K mg base T
  refine df_mk (T.fn 51 "tree_order" rfl) sc51 _ (fun ds res h => by obtain ⟨n, dr, t, r, rfl, _⟩ := h; rfl) (fun _ _ _ _ _ _ us hl => match us, hl with | [_, _], _ => rfl) (fun f cdv A outer s H E hr tk hp ds res h => ?_)
  obtain ⟨n, dr, t, r, rfl, hn, hdl, hE, hO, rfl⟩ := h
  refine x_cons (st 2 nd (ev_call D_tree_doors (hr.mono (by decide)) rfl (ea_cons (vr 0 rfl) ea_nil) ⟨n, dr, t, rfl, hn, hdl, hE, rfl⟩ (by decide)) ?_)
  refine x_cons (s_setLc 4 rfl nd rfl rfl (sw_true rfl rfl rfl (by decide +kernel)) (lc_map (own := [("room", 3)]) (xs := List.range n) (fun i : Nat => Dv.int (i : Int)) (fun i : Nat => Dv.bl (decide ((i : Int) = r))) (ei_rng (fld_rooms T (vr 0 rfl)) (by omega) rfl rfl T.range) (by simp; omega) (blkOk_by (by kernel_rfl)) (fun x hx => turn_map (by decide) (fun _ _ _ _ _ => (tg 3 nd)) (fun _ _ _ _ _ => (EvB.v (eb_eq (vr 3 rfl) (vr 1 rfl)))))) ?_)
  refine x_cons (stN 5 nd (en_lst (ea_cons (vr 1 rfl) ea_nil)) ?_)
  refine x_cons (stN 6 nd (en_lst ea_nil) ?_)
  refine x_cons (s_for (S := OrdSt) hp rfl (ei_rng (fld_rooms T (vr 0 rfl)) (by omega) rfl rfl T.range)
    (fun st => [.sh (encHo mg n dr t), .sh (.int r), .sh (.lst ((treeDoorsM n dr).map Dv.int)), .free, .own (st.1.map Dv.bl), .own (st.2.1.map Dv.int), .own (st.2.2.map encP3), .free, .free, .free, .free, .free, .free]) (fun i st => st = ordRun n dr r i) (ord0 n r) rfl (by
      have e : (List.range n).map (fun i : Nat => Dv.bl (decide ((i : Int) = r))) = (ord0 n r).1.map Dv.bl := by
        unfold ord0 rng
        rw [List.map_map, List.map_map]
        rfl
      rw [e]; walk_at "less") ?_ ?_)
  · intro i st d hd hI
    subst hI
    obtain ⟨rfl, hi⟩ := rng_get hd
    have hl := ordRun_len n dr r i
    have hk := hO i hi
    refine ⟨_, _, (tg 7 nd), ?_⟩
    refine x_cons (DT.st 8 nd (ixm (vo 5 rfl) (vr 7 rfl) (by omega) (by omega)) ?_)
    refine x_cons (s_for (S := OrdSt) hp rfl (ei_list (vr 2 rfl))
      (fun st => [.sh (encHo mg n dr t), .sh (.int r), .sh (.lst ((treeDoorsM n dr).map Dv.int)), .free, .own (st.1.map Dv.bl), .own (st.2.1.map Dv.int), .own (st.2.2.map encP3), .sh (.int i), .sh (.int (ix (ordRun n dr r i).2.1 i)), .free, .free, .free, .free])
      (fun j st => st = ((treeDoorsM n dr).take j).foldl (ordIn dr (ix (ordRun n dr r i).2.1 i)) (ordRun n dr r i)) (ordRun n dr r i) rfl (by walk_at "less") ?_ ?_)
    · intro j st d hd hI
      obtain ⟨td, htd, rfl⟩ := map_get hd
      have htm := treeRun_mem n dr dr.length td (List.mem_of_getElem? htd)
      have hm := hE _ (mem_ix (k := td) (by omega) (by omega : td < dr.length))
      have hf := ordFold_len dr (ix (ordRun n dr r i).2.1 i) ((treeDoorsM n dr).take j) (ordRun n dr r i)
      rw [← hI] at hf
      have hcnt := treeRun_cnt n dr dr.length
      have hcnt2 : ((treeDoorsM n dr).take j).length ≤ dr.length := by rw [List.length_take]; unfold treeDoorsM; omega
      have hb : i * dr.length ≤ 100 * 100 := Nat.mul_le_mul (by omega) hdl
      have hnx : ((treeDoorsM n dr).take (j + 1)).foldl (ordIn dr (ix (ordRun n dr r i).2.1 i)) (ordRun n dr r i) = ordIn dr (ix (ordRun n dr r i).2.1 i) st td := by
        rw [foldl_take htd, ← hI]
      refine ⟨_, _, (tg 9 nd), ?_⟩
      refine x_cons (s_asg (ixmT (fld_doors T (vr 0 rfl)) (vr 9 rfl) (by omega) (by omega)) (ag_tup rfl (aw_cons (tg 10 nd) (aw_cons (tg 11 nd) (aw_cons (tg 12 nd) aw_nil)))) ?_)
      refine x_cons (DT.st 3 nd (ev_sub (ev_add (vr 10 rfl) (vr 11 rfl)) (vr 8 rfl)) ?_)
      have side : (List.any [Dv.int (ix dr td).1, Dv.int (ix dr td).2.1] fun y => eqD y (Dv.int (ix (ordRun n dr r i).2.1 i))) = true → 0 ≤ (ix dr td).1 + (ix dr td).2.1 - ix (ordRun n dr r i).2.1 i ∧ (ix dr td).1 + (ix dr td).2.1 - ix (ordRun n dr r i).2.1 i < n := fun h => by
        simp [eqD] at h
        omega
      refine x_cons (s_if (ew_b (ew_and (eb_inT (vr 8 rfl) (ev_tup (ea_cons (vr 10 rfl) (ea_cons (vr 11 rfl) ea_nil))) rfl rfl (by rfl)) (fun h => (ew_and1 (eb_not (eb_val (ixm (vo 4 rfl) (vr 3 rfl) (side h).1 (by rw [hf.1, hl.1]; exact (side h).2)))))))) (fun hc => ?_) (fun hc => ?_))
      · have hs := side (by rw [Bool.and_eq_true] at hc; exact hc.1)
        refine x_cons (sub 4 rfl ev_bl (vr 3 rfl) hs.1 (by rw [List.length_map, hf.1, hl.1]; exact hs.2) ?_)
        refine x_cons (app 5 rfl (vr 3 rfl) (by rw [List.length_map]; omega) ?_)
        refine x_cons (app 6 rfl (ev_tup (ea_cons (vr 3 rfl) (ea_cons (vr 9 rfl) (ea_cons (vr 8 rfl) ea_nil)))) (by rw [List.length_map]; omega) ?_)
        refine x_nil (x_nil ⟨_, ?_, hnx.symm⟩)
        have e : ordIn dr (ix (ordRun n dr r i).2.1 i) st td = (st.1.set ((ix dr td).1 + (ix dr td).2.1 - ix (ordRun n dr r i).2.1 i).toNat true, st.2.1 ++ [(ix dr td).1 + (ix dr td).2.1 - ix (ordRun n dr r i).2.1 i], st.2.2 ++ [((ix dr td).1 + (ix dr td).2.1 - ix (ordRun n dr r i).2.1 i, td, ix (ordRun n dr r i).2.1 i)]) := by
          unfold ordIn
          rw [if_pos]
          simp [eqD] at hc
          exact hc
        rw [e]
        rw [List.map_set, List.map_append, List.map_append]
        walk_at "less"
      · refine x_nil (x_nil ⟨_, ?_, hnx.symm⟩)
        have e : ordIn dr (ix (ordRun n dr r i).2.1 i) st td = st := by
          unfold ordIn
          rw [if_neg]
          simp [eqD] at hc
          intro ⟨h1, h2⟩
          rw [hc h1] at h2
          cases h2
        rw [e]
        walk_at "less"
    · intro st hI
      refine x_nil ⟨st, by walk_at "less", ?_⟩
      rw [hI, List.length_map, List.take_length]
      rfl
  · intro st hI
    subst hI
    refine x_frz 6 rfl ?_
    refine x_one (s_ret (vr 6 rfl) ?_)
    show Res.val _ = Res.val _
    rw [rng_len]
    rfl
end
end DT

set_option Elab.async false
set_option linter.all false
set_option maxRecDepth 100000
namespace DT
open PySem PySem.Spec L2
open PyProof.Rows hiding St
open SX (S)
/-- data that == may meet -/
def EqOk (d : Dv) : Prop := plainD d = true ∧ (py d).canLay0 = true ∧ (py d).depth ≤ 10
theorem pys_map (ds : List Dv) : pys ds = ds.map py := by
  induction ds with
  | nil => rfl
  | cons d ds ih => show py d :: pys ds = _; rw [ih]; rfl
theorem eqOk_all : ∀ ds : List Dv, (∀ d ∈ ds, EqOk d) → plainDs ds = true ∧ PyData.canLayAll0 (pys ds) = true ∧ PyData.depthAll (pys ds) ≤ 10
  | [], _ => by
    refine ⟨rfl, ?_, ?_⟩
    · simp [pys, PyData.canLayAll0]
    · simp [pys, PyData.depthAll]
  | d :: ds, h => by
    obtain ⟨a1, a2, a3⟩ := h d (List.mem_cons_self)
    obtain ⟨b1, b2, b3⟩ := eqOk_all ds fun x hx => h x (List.mem_cons_of_mem _ hx)
    refine ⟨?_, ?_, ?_⟩
    · show (plainD d && plainDs ds) = true
      rw [a1, b1]; rfl
    · show PyData.canLayAll0 (py d :: pys ds) = true
      simp [PyData.canLayAll0, a2, b2]
    · show PyData.depthAll (py d :: pys ds) ≤ 10
      simp only [PyData.depthAll]
      omega
theorem shaped_list {ds : List Dv} (h : ∀ d ∈ ds, EqOk d) : SeqAt.shaped (.list (pys ds)) = true := by
  obtain ⟨a, b, c⟩ := eqOk_all ds h
  unfold SeqAt.shaped
  rw [Bool.and_eq_true]
  refine ⟨by simpa [PyData.canLay0] using b, decide_eq_true ?_⟩
  simp only [PyData.depth]
  omega
theorem eqOk_int (i : Int) : EqOk (.int i) := ⟨rfl, by simp [py, PyData.canLay0], by simp [py, PyData.depth]⟩
theorem eqOk_bl (i : Bool) : EqOk (.bl i) := ⟨rfl, by simp [py, PyData.canLay0], by simp [py, PyData.depth]⟩
def Codes (l : List Nat) : Prop := ∀ c ∈ l, c < 0x110000
theorem strOk_S {l : List Nat} (h : Codes l) : PyData.strOk (S l) = true := by
  unfold PyData.strOk
  rw [← Array.all_toList, List.all_eq_true]
  intro c hc
  exact decide_eq_true (h c (by simpa using hc))
theorem eqOk_str {l : List Nat} (h : Codes l) : EqOk (.str (S l)) := ⟨rfl, by simp [py, PyData.canLay0, strOk_S h], by simp [py, PyData.depth]⟩
theorem eqOk_P2 (q : Int × Int) : EqOk (encP2 q) := ⟨rfl, by simp [encP2, py, pys, PyData.canLay0, PyData.canLayAll0], by simp [encP2, py, pys, PyData.depth, PyData.depthAll]⟩
theorem eqOk_H {q : Hand} (h : Codes q.1) : EqOk (encH q) := ⟨rfl, by simp [encH, py, pys, PyData.canLay0, PyData.canLayAll0, strOk_S h], by simp [encH, py, pys, PyData.depth, PyData.depthAll]⟩
theorem eqOk_Dr {q : Door} (h : Codes q.2.2) : EqOk (encDr q) := ⟨rfl, by simp [encDr, py, pys, PyData.canLay0, PyData.canLayAll0, strOk_S h], by simp [encDr, py, pys, PyData.depth, PyData.depthAll]⟩
section
variable {X : Cx} {W : WX} {G : List Slot} {a b c e o : Expr} {es rest : List Expr} {pos p p2 : Pos} {d d0 d1 d2 d3 : Dv} {ds ds1 ds2 : List Dv} {k : Out → Prop}
theorem eqv_nil (ds : List Dv) : PyData.eqv (.list (pys ds)) (.list (pys [])) = ds.isEmpty := by
  cases ds <;> simp [pys, PyData.eqv, PyData.eqvAll]
theorem eqNil (hu : X.A.units + 64 < cLine) (ha : EvP X G a ds) (h : ∀ d ∈ ds, EqOk d) : EvB X G (.Compare a [.Eq] [.List [] p] pos) ds.isEmpty :=
  eb_is (eb_eqLL hu ha (en_p (en_lst ea_nil)) (eqOk_all ds h).1 rfl (shaped_list h) (shaped_list (by simp))) (eqv_nil ds)
theorem neNil (hu : X.A.units + 64 < cLine) (ha : EvP X G a ds) (h : ∀ d ∈ ds, EqOk d) : EvB X G (.Compare a [.NotEq] [.List [] p] pos) (!ds.isEmpty) :=
  eb_is (eb_neLL hu ha (en_p (en_lst ea_nil)) (eqOk_all ds h).1 rfl (shaped_list h) (shaped_list (by simp))) (by rw [eqv_nil])
theorem ag_lst {n : Nat} {tgs : List Expr} {G' : List Slot} {js : List Nat} (hc : X.calm = true) (h : AsW X G tgs ds G' js)
    (hn : (assignEach tgs X.env).length = ds.length := by rfl) (hst : (assignEach tgs X.env).findIdx? (·.1) = none := by rfl) : AsG X G (.Tuple tgs n pos) (.lst ds) G' js := fun B0 H0 B H sg v Q f r q => by
  cases r with
  | lst e r => exact PG.w (pg_unl hc pgs_w hn hst) ⟨_, _, rfl, .inl (.inl (f.sub _ _ e)), r.length, h B0 H0 B H sg _ Q f r q⟩
end
theorem ixC {X : Cx} {G : List Slot} {a b : Expr} {pos : Pos} {ls : List Nat} {i : Int} (ha : EvP X G a (ls.map encL)) (hb : EvD X G b (.int i)) (h0 : 0 ≤ i) (h1 : i < ls.length) (hs : PlainIx b := by exact fun _ _ => rfl) : EvD X G (.Subscript a b pos) (.str (S [ix ls i])) := ixm (f := encL) ha hb h0 h1 hs
theorem any_codes {l : List Nat} {q : Nat} : ((l.map encL).any fun y => eqD y (.str (S [q]))) = decide (q ∈ l) := by
  induction l with
  | nil => rfl
  | cons a l ih =>
    rw [List.map_cons, List.any_cons, ih]
    show (S [a] == S [q] || decide (q ∈ l)) = decide (q ∈ a :: l)
    rw [SX.S_beq]
    by_cases h : q = a
    · subst h; simp
    · have : (([a] : List Nat) == [q]) = false := by simp; exact fun z => h z.symm
      rw [this]
      simp [h]
theorem flat_codes {l : List Nat} : (l.map encL).all flatD = true := by
  induction l with
  | nil => rfl
  | cons a l ih => rw [List.map_cons, List.all_cons, ih]; rfl
end DT

set_option Elab.async false
set_option linter.all false
set_option maxRecDepth 100000
namespace DT
open PySem PySem.Spec L2
open PyProof.Rows hiding St
open SX (S)
local macro_rules | `(tactic| walk_at "less") => `(tactic| repeat (first | exact DT.Less.nil | refine DT.Less.cons ?_ | refine DT.Less.free ?_))
/-! ### mirrors -/
def dictM (os : List (Int × Int × Int)) : List (Int × Dv) := os.foldl (fun kv o => putD kv o.1 (.tup [.int o.2.1, .int o.2.2])) []
inductive WayR (kvs : List (Int × Dv)) (last : Int) : Int → List Int → Prop
  | nil : WayR kvs last last []
  | cons {v d p : Int} {ws : List Int} : v ≠ last → lookD kvs v = some (.tup [.int d, .int p]) → WayR kvs last p ws → WayR kvs last v (d :: ws)
def redStep (ls : List Nat) (dist : List Int) (o : Int × Int × Int) : List Int :=
  if ix ls o.2.1 = 82 ∧ 0 ≤ ix dist o.2.2 then dist.set o.1.toNat (ix dist o.2.2 + 1) else dist
def red0 (n : Nat) (s : Int) : List Int := (List.replicate n (-1 : Int)).set s.toNat 0
def redM (n : Nat) (ls : List Nat) (os : List (Int × Int × Int)) (s : Int) : List Int := os.foldl (redStep ls) (red0 n s)
theorem redFold_len (n : Nat) (ls : List Nat) (s : Int) : ∀ (os : List (Int × Int × Int)) (dist : List Int), dist.length = n → (os.foldl (redStep ls) dist).length = n
  | [], dist, h => h
  | o :: os, dist, h => redFold_len n ls s os _ (by unfold redStep; split <;> simp [h])
theorem red0_len (n : Nat) (s : Int) : (red0 n s).length = n := by simp [red0]
structure HouseOk (n : Nat) (dr : List Door) : Prop where
  n1 : n ≤ 100
  dl : dr.length ≤ 100
  ends : EndsOk n dr
  run : ∀ r : Int, 0 ≤ r → r < n → OrdOk n dr r
  ord : ∀ r : Int, 0 ≤ r → r < n → ∀ o ∈ orderM n dr r, (0 ≤ o.1 ∧ o.1 < n) ∧ (0 ≤ o.2.1 ∧ o.2.1 < dr.length) ∧ 0 ≤ o.2.2 ∧ o.2.2 < n
  way : ∀ r v : Int, 0 ≤ r → r < n → 0 ≤ v → v < n → ∃ ws, WayR (dictM (orderM n dr r)) r v ws
  wd : ∀ (r v : Int) (ws : List Int), 0 ≤ r → r < n → 0 ≤ v → v < n → WayR (dictM (orderM n dr r)) r v ws → ws.length ≤ n ∧ ∀ d ∈ ws, 0 ≤ d ∧ d < dr.length
/-- the chased pair's loops -/
def chIn (hs : List Hand) (dist : List Int) (red : Nat) (st : Option (Int × Int) × Int) (blue : Nat) : Option (Int × Int) × Int :=
  if (ix hs blue).1 = [66] ∧ 0 ≤ ix dist (ix hs blue).2 ∧ ix dist (ix hs blue).2 < st.2 then (some ((red : Int), (blue : Int)), ix dist (ix hs blue).2) else st
def chOut (n : Nat) (dr : List Door) (ls : List Nat) (hs : List Hand) (st : Option (Int × Int) × Int) (red : Nat) : Option (Int × Int) × Int :=
  if (ix hs red).1 = [82] then iter (chIn hs (redM n ls (orderM n dr (ix hs red).2) (ix hs red).2) red) st hs.length else st
def pairRun (n : Nat) (dr : List Door) (ls : List Nat) (hs : List Hand) (k : Nat) : Option (Int × Int) × Int := iter (chOut n dr ls hs) (none, (n : Int)) k
def pairM (n : Nat) (dr : List Door) (hs : List Hand) (ps : List Int) : Option (Int × Int) := (pairRun n dr (lightsM dr ps) hs hs.length).1
def encO (o : Option (Int × Int)) : Dv := match o with
  | none => .non
  | some q => encP2 q
theorem dictM_len (os : List (Int × Int × Int)) : (dictM os).length ≤ os.length := by
  have key : ∀ (os : List (Int × Int × Int)) (kv : List (Int × Dv)), (os.foldl (fun kv o => putD kv o.1 (.tup [.int o.2.1, .int o.2.2])) kv).length ≤ kv.length + os.length := by
    intro os
    induction os with
    | nil => intro kv; simp
    | cons o os ih =>
      intro kv
      have h := ih (putD kv o.1 (.tup [.int o.2.1, .int o.2.2]))
      have : (putD kv o.1 (.tup [.int o.2.1, .int o.2.2])).length ≤ kv.length + 1 := by
        unfold putD
        split <;> simp
      simp only [List.foldl_cons, List.length_cons]
      omega
  have h := key os []
  simpa [dictM] using h
section
variable {P : Program} {w : World} {K : PySem.W.Frag} {mg : Str → Option Value} {base : Heap}
theorem sc52 : FnScope ["house", "first", "last", "above", "room", "door", "parent", "way", "at"] ["house", "first", "last"] (defScope (topS 52)) := ⟨rfl, rfl, rfl, by decide +kernel, rfl, by decide +kernel, by decide +kernel⟩
def R_way_of (mg : Str → Option Value) : List Dv → Res → Prop := fun ds res => ∃ (n : Nat) (dr : List Door) (t : List Nat) (v r : Int) (ws : List Int), ds = [encHo mg n dr t, .int v, .int r] ∧ n ≤ 100 ∧ dr.length ≤ 100 ∧ EndsOk n dr ∧ OrdOk n dr r ∧ WayR (dictM (orderM n dr r)) r v ws ∧ ws.length ≤ n ∧ res = .val (.lst (ws.map Dv.int))
theorem d_way_of (T : Txt K mg) : Df P w K mg base "way_of" 3 (R_way_of mg) := by
  have nd := sc52.nd
  have D_tree_order := @d_tree_order P w K mg base T
  refine df_mk (T.fn 52 "way_of" rfl) sc52 _ (fun ds res h => by obtain ⟨n, dr, t, v, r, ws, rfl, _⟩ := h; rfl) (fun _ _ _ _ _ _ us hl => match us, hl with | [_, _, _], _ => rfl) (fun f cdv A outer s H E hr tk hp ds res h => ?_)
  obtain ⟨n, dr, t, v, r, ws, rfl, hn, hdl, hE, hO, hW, hwl, rfl⟩ := h
  have hol : (orderM n dr r).length ≤ 100 * 100 := Nat.le_trans (ordRun_len n dr r n).2.2 (Nat.mul_le_mul hn hdl)
  refine x_cons (stD 3 nd ?_)
  refine x_cons (s_for (S := List (Int × Dv)) hp rfl (ei_list (ev_call D_tree_order (hr.mono (by decide)) rfl (ea_cons (vr 0 rfl) (ea_cons (vr 2 rfl) ea_nil)) ⟨n, dr, t, r, rfl, hn, hdl, hE, hO, rfl⟩ (by decide)))
    (fun kv => [.sh (encHo mg n dr t), .sh (.int v), .sh (.int r), .dic kv, .free, .free, .free, .free, .free]) (fun i kv => kv = dictM ((orderM n dr r).take i)) [] rfl (by walk_at "less") ?_ ?_)
  · intro i kv d hd hI
    obtain ⟨o, ho, rfl⟩ := map_get hd
    have hkl : kv.length ≤ 100 * 100 := by
      rw [hI]
      have := dictM_len ((orderM n dr r).take i)
      rw [List.length_take] at this
      omega
    refine ⟨_, _, (ag_tup rfl (aw_cons (tg 4 nd) (aw_cons (tg 5 nd) (aw_cons (tg 6 nd) aw_nil)))), ?_⟩
    refine x_cons (s_dput 3 (hu_of hr) rfl (.inl rfl) rfl (by decide) (by decide) (ev_tup (ea_cons (vr 5 rfl) (ea_cons (vr 6 rfl) ea_nil))) (vr 4 rfl) (by omega) ?_)
    refine x_nil ⟨_, by walk_at "less", ?_⟩
    rw [hI]
    unfold dictM
    rw [foldl_take ho]
  · intro kv hI
    have hkv : kv = dictM (orderM n dr r) := by rw [hI, List.length_map, List.take_length]
    rw [← hkv] at hW
    refine x_cons (stN 7 nd (en_lst ea_nil) ?_)
    refine x_cons (st 8 nd (vr 1 rfl) ?_)
    refine x_cons (s_while (S := List Int × Int × List Int) hp (fun st => [.sh (encHo mg n dr t), .sh (.int v), .sh (.int r), .dic kv, .free, .free, .free, .own (st.1.map Dv.int), .sh (.int st.2.1)])
      (fun st => WayR kv r st.2.1 st.2.2 ∧ st.1 ++ st.2.2 = ws) (fun st => st.2.2.length) ([], v, ws) ⟨hW, rfl⟩ (by walk_at "less") ?_)
    rintro ⟨don, cur, rest⟩ ⟨h1, h2⟩
    refine ⟨_, (eb_ne (vr 8 rfl) (vr 2 rfl)), fun ht => ?_, fun ht => ?_⟩
    · cases h1 with
      | nil => simp at ht
      | @cons _ d p ws' hne hl hr' =>
        have hdl' : don.length ≤ 100 := by
          have := congrArg List.length h2
          simp at this
          omega
        refine x_cons (s_asg (ev_dget 3 (hu_of hr) rfl (.inl rfl) rfl (by decide) (by decide) (vr 8 rfl) hl (fun _ _ => rfl)) (ag_tup rfl (aw_cons (tg 5 nd) (aw_cons (tg 8 nd) aw_nil))) ?_)
        refine x_cons (app 7 rfl (vr 5 rfl) (by rw [List.length_map]; show don.length < 100000; omega) ?_)
        refine x_nil ⟨(don ++ [d], p, ws'), ?_, ⟨hr', by rw [List.append_assoc]; exact h2⟩, ?_⟩
        · rw [List.map_append]; walk_at "less"
        · show ws'.length < (d :: ws').length
          simp
    · have hc : cur = r := by simpa using ht
      cases h1 with
      | nil =>
        refine x_frz 7 rfl ?_
        refine x_one (s_ret (vr 7 rfl) ?_)
        show Res.val _ = Res.val _
        rw [← h2, List.append_nil]
      | cons hne _ _ => exact absurd hc hne

theorem sc55 : FnScope ["house", "letters", "start", "distances", "room", "door", "parent"] ["house", "letters", "start"] (defScope (topS 55)) := ⟨rfl, rfl, rfl, by decide +kernel, rfl, by decide +kernel, by decide +kernel⟩
def R_red (mg : Str → Option Value) : List Dv → Res → Prop := fun ds res => ∃ (n : Nat) (dr : List Door) (t : List Nat) (ls : List Nat) (r : Int), ds = [encHo mg n dr t, .lst (ls.map encL), .int r] ∧ HouseOk n dr ∧ ls.length = dr.length ∧ 0 ≤ r ∧ r < n ∧ res = .val (.lst ((redM n ls (orderM n dr r) r).map Dv.int))
theorem d_red_distances (T : Txt K mg) : Df P w K mg base "_red_distances" 3 (R_red mg) := by
  have nd := sc55.nd
  have D_tree_order := @d_tree_order P w K mg base T
  refine df_mk (T.fn 55 "_red_distances" rfl) sc55 _ (fun ds res h => by obtain ⟨n, dr, t, ls, r, rfl, _⟩ := h; rfl) (fun _ _ _ _ _ _ us hl => match us, hl with | [_, _, _], _ => rfl) (fun f cdv A outer s H E hr tk hp ds res h => ?_)
  obtain ⟨n, dr, t, ls, r, rfl, hH, hls, r0, r1, rfl⟩ := h
  have hn := hH.n1
  refine x_cons (stN 3 nd (en_rep (en_p (en_lst (ea_cons (ev_neg ev_int) ea_nil))) (fld_rooms T (vr 0 rfl)) ⟨by omega, by omega, by simp; exact Nat.le_trans hn (by decide)⟩) ?_)
  refine x_cons (sub 3 rfl ev_int (vr 2 rfl) r0 (by simp; omega) ?_)
  refine x_cons (s_for (S := List Int) hp rfl (ei_list (ev_call D_tree_order (hr.mono (by decide)) rfl (ea_cons (vr 0 rfl) (ea_cons (vr 2 rfl) ea_nil)) ⟨n, dr, t, r, rfl, hn, hH.dl, hH.ends, hH.run r r0 r1, rfl⟩ (by decide)))
    (fun st => [.sh (encHo mg n dr t), .sh (.lst (ls.map encL)), .sh (.int r), .own (st.map Dv.int), .free, .free, .free]) (fun i st => st = ((orderM n dr r).take i).foldl (redStep ls) (red0 n r)) (red0 n r) rfl (by
      have e : (List.replicate (Int.toNat (n : Int)) [Dv.int (-1)]).flatten.set r.toNat (Dv.int 0) = (red0 n r).map Dv.int := by
        unfold red0
        rw [List.map_set]
        simp
      rw [e]; walk_at "less") ?_ ?_)
  · intro i dist d hd hI
    obtain ⟨o, ho, rfl⟩ := map_get hd
    have hdl : dist.length = n := by rw [hI]; exact redFold_len n ls r _ _ (red0_len n r)
    obtain ⟨⟨a1, a2⟩, ⟨b1, b2⟩, c1, c2⟩ := hH.ord r r0 r1 o (List.mem_of_getElem? ho)
    have hnx : ((orderM n dr r).take (i + 1)).foldl (redStep ls) (red0 n r) = redStep ls dist o := by rw [foldl_take ho, ← hI]
    refine ⟨_, _, (ag_tup rfl (aw_cons (tg 4 nd) (aw_cons (tg 5 nd) (aw_cons (tg 6 nd) aw_nil)))), ?_⟩
    refine x_cons (s_if (ew_b (ew_and (eqS (ixC (ls := ls) (ev_p (vr 1 rfl)) (vr 5 rfl) b1 (by omega)) (cs [82])) (fun _ => (ew_and1 (eb_ge (ixm (vo 3 rfl) (vr 6 rfl) c1 (by omega)) ev_int))))) (fun hc => ?_) (fun hc => ?_))
    · refine x_cons (sub 3 rfl (ev_add (ixm (vo 3 rfl) (vr 6 rfl) c1 (by omega)) ev_int) (vr 4 rfl) a1 (by rw [List.length_map]; omega) ?_)
      refine x_nil (x_nil ⟨_, ?_, hnx.symm⟩)
      have e : redStep ls dist o = dist.set o.1.toNat (ix dist o.2.2 + 1) := by
        unfold redStep
        rw [if_pos]
        simpa using hc
      rw [e, List.map_set]
      walk_at "less"
    · refine x_nil (x_nil ⟨_, ?_, hnx.symm⟩)
      have e : redStep ls dist o = dist := by
        unfold redStep
        rw [if_neg]
        simp at hc
        intro ⟨h1, h2⟩
        have := hc h1
        omega
      rw [e]
      walk_at "less"
  · intro st hI
    refine x_frz 3 rfl ?_
    refine x_one (s_ret (vr 3 rfl) ?_)
    show Res.val _ = Res.val _
    rw [hI, List.length_map, List.take_length]
    rfl
end
end DT

set_option Elab.async false
set_option linter.all false
set_option maxRecDepth 100000
namespace DT
open PySem PySem.Spec L2
open PyProof.Rows hiding St
open SX (S)
local macro_rules | `(tactic| walk_at "less") => `(tactic| repeat (first | exact DT.Less.nil | refine DT.Less.cons ?_ | refine DT.Less.free ?_))
theorem fits_facts {n : Nat} {dr : List Door} {t : List Nat} {hs : List Hand} {ps : List Int} (h : fitsM n dr t hs ps = true) : ps.length = dr.length ∧ (∀ q ∈ ps.zip dr, 0 ≤ q.1 ∧ q.1 < (q.2.2.2.length : Int)) ∧ ∀ h ∈ hs, isTradeM t h.1 = true ∧ 0 ≤ h.2 ∧ h.2 < n := by
  unfold fitsM at h
  simp only [Bool.and_eq_true, decide_eq_true_eq, List.all_eq_true] at h
  obtain ⟨⟨h1, h2⟩, h3⟩ := h
  exact ⟨by omega, h2, fun x hx => ⟨(h3 x hx).1, (h3 x hx).2⟩⟩
theorem lights_len {dr : List Door} {ps : List Int} (h : ps.length = dr.length) : (lightsM dr ps).length = dr.length := by
  unfold lightsM
  rw [List.length_map, List.length_zip, h, Nat.min_self]
theorem need_fit {n : Nat} {dr : List Door} {t : List Nat} {hs : List Hand} {ps ks : List Int} (h : needM n dr t hs ps ks = none) : fitsM n dr t hs ps = true := by
  unfold needM at h
  cases e : fitsM n dr t hs ps with
  | true => rfl
  | false => rw [e, if_pos rfl] at h; cases h
theorem need_known {n : Nat} {dr : List Door} {t : List Nat} {hs : List Hand} {ps ks : List Int} (h : needM n dr t hs ps ks = none) : knownM hs ks = true := by
  have h1 := need_fit h
  unfold needM at h
  rw [h1] at h
  cases e : knownM hs ks with
  | true => rfl
  | false => rw [e, if_neg (by simp), if_pos rfl] at h; cases h
def PairOk (n : Nat) (dr : List Door) (t : List Nat) (hs : List Hand) (ps ks : List Int) : Prop := Wf dr hs ∧ (needM n dr t hs ps ks = none → HouseOk n dr ∧ hs.length ≤ 1000)
section
variable {P : Program} {w : World} {K : PySem.W.Frag} {mg : Str → Option Value} {base : Heap}
theorem sc57 : FnScope ["house", "standing", "letters", "nearest", "least", "red", "distances", "blue", "trade", "room"] ["house", "standing"] (defScope (topS 57)) := ⟨rfl, rfl, rfl, by decide +kernel, rfl, by decide +kernel, by decide +kernel⟩
def R_chased_pair (mg : Str → Option Value) : List Dv → Res → Prop := fun ds res => ∃ (n : Nat) (dr : List Door) (t : List Nat) (hs : List Hand) (ps : List Int), ds = [encHo mg n dr t, encSt mg hs ps] ∧ PairOk n dr t hs ps [] ∧ res = resOf (needM n dr t hs ps []) (encO (pairM n dr hs ps))
theorem d_chased_pair (T : Txt K mg) : Df P w K mg base "chased_pair" 5 (R_chased_pair mg) := by
  have nd := sc57.nd
  have D_need_chase := @d_need_chase P w K mg base T
  have D_lights_at := @d_lights_at P w K mg base T
  have D_red := @d_red_distances P w K mg base T
  refine df_mk (T.fn 57 "chased_pair" rfl) sc57 _ (fun ds res h => by obtain ⟨n, dr, t, hs, ps, rfl, _⟩ := h; rfl) (fun _ _ _ _ _ _ us hl => match us, hl with | [_, _], _ => rfl) (fun f cdv A outer s H E hr tk hp ds res h => ?_)
  obtain ⟨n, dr, t, hs, ps, rfl, ⟨hW, hO⟩, rfl⟩ := h
  cases hN : needM n dr t hs ps [] with
  | some x =>
    exact x_cons (s_exprX (ex_call tk D_need_chase (hr.mono (by decide)) rfl (ea_cons (vr 0 rfl) (ea_cons (vr 1 rfl) (ea_cons (en_d (en_lst ea_nil)) ea_nil))) ⟨n, dr, t, hs, ps, [], rfl, hW, by rw [hN]; rfl⟩ (by decide)) rfl)
  | none =>
  obtain ⟨hH, hhl⟩ := hO hN
  obtain ⟨f1, f2, f3⟩ := fits_facts (need_fit hN)
  have hll := lights_len f1
  have hn := hH.n1
  have hdl := hH.dl
  refine x_cons (s_expr (ev_call D_need_chase (hr.mono (by decide)) rfl (ea_cons (vr 0 rfl) (ea_cons (vr 1 rfl) (ea_cons (en_d (en_lst ea_nil)) ea_nil))) ⟨n, dr, t, hs, ps, [], rfl, hW, by rw [hN]; rfl⟩ (by decide)) ?_)
  refine x_cons (st 2 nd (ev_call D_lights_at (hr.mono (by decide)) rfl (ea_cons (vr 0 rfl) (ea_cons (vr 1 rfl) (ea_cons ev_int ea_nil))) ⟨n, dr, t, hs, ps, rfl, hW.short, f1, by omega, fun q hq => by have := (f2 q hq); omega, rfl⟩ (by decide)) ?_)
  refine x_cons (st 3 nd ev_non ?_)
  refine x_cons (st 4 nd (fld_rooms T (vr 0 rfl)) ?_)
  refine x_cons (s_for (S := Option (Int × Int) × Int) hp rfl (ei_rng (n := hs.length) (ev_is (ev_lenT (fld_hands T (vr 1 rfl)) rfl rfl T.len) (by simp)) (by omega) rfl rfl T.range)
    (fun st => [.sh (encHo mg n dr t), .sh (encSt mg hs ps), .sh (.lst ((lightsM dr ps).map encL)), .sh (encO st.1), .sh (.int st.2), .free, .free, .free, .free, .free]) (fun i st => st = pairRun n dr (lightsM dr ps) hs i) (none, (n : Int)) rfl (by walk_at "less") ?_ ?_)
  · intro i st d hd hI
    obtain ⟨rfl, hi⟩ := rng_get hd
    have hm := f3 _ (mem_ix (xs := hs) (k := (i : Int)) (by omega) (by omega))
    have hnx : pairRun n dr (lightsM dr ps) hs (i + 1) = chOut n dr (lightsM dr ps) hs st i := by rw [hI]; rfl
    refine ⟨_, _, (tg 5 nd), ?_⟩
    refine x_cons (s_if (eqS (ixt (ixmT (f := encH) (fld_hands T (vr 1 rfl)) (vr 5 rfl) (by omega) (by omega)) ⟨by decide, rfl⟩) (cs [82])) (fun hc => ?_) (fun hc => ?_))
    · have hc' : (ix hs i).1 = [82] := by simpa using hc
      have hdl2 : (redM n (lightsM dr ps) (orderM n dr (ix hs i).2) (ix hs i).2).length = n := redFold_len n _ (ix hs i).2 _ _ (red0_len n _)
      refine x_cons (DT.st 6 nd (ev_call D_red (hr.mono (by decide)) rfl (ea_cons (vr 0 rfl) (ea_cons (vr 2 rfl) (ea_cons (ixt (ixmT (f := encH) (fld_hands T (vr 1 rfl)) (vr 5 rfl) (by omega) (by omega)) ⟨by decide, rfl⟩) ea_nil))) ⟨n, dr, t, lightsM dr ps, (ix hs i).2, rfl, hH, hll, hm.2.1, hm.2.2, rfl⟩ (by decide)) ?_)
      refine x_cons (s_for (S := Option (Int × Int) × Int) hp rfl (ei_rng (n := hs.length) (ev_is (ev_lenT (fld_hands T (vr 1 rfl)) rfl rfl T.len) (by simp)) (by omega) rfl rfl T.range)
        (fun st => [.sh (encHo mg n dr t), .sh (encSt mg hs ps), .sh (.lst ((lightsM dr ps).map encL)), .sh (encO st.1), .sh (.int st.2), .sh (.int i), .sh (.lst ((redM n (lightsM dr ps) (orderM n dr (ix hs i).2) (ix hs i).2).map Dv.int)), .free, .free, .free])
        (fun j st' => st' = iter (chIn hs (redM n (lightsM dr ps) (orderM n dr (ix hs i).2) (ix hs i).2) i) st j) st rfl (by walk_at "less") ?_ ?_)
      · intro j st' d hd hI'
        obtain ⟨rfl, hj⟩ := rng_get hd
        have hm2 := f3 _ (mem_ix (xs := hs) (k := (j : Int)) (by omega) (by omega))
        have hnx' : iter (chIn hs (redM n (lightsM dr ps) (orderM n dr (ix hs i).2) (ix hs i).2) i) st (j + 1) = chIn hs (redM n (lightsM dr ps) (orderM n dr (ix hs i).2) (ix hs i).2) i st' j := by rw [hI']; rfl
        refine ⟨_, _, (tg 7 nd), ?_⟩
        refine x_cons (s_asg (ixmT (f := encH) (fld_hands T (vr 1 rfl)) (vr 7 rfl) (by omega) (by omega)) (ag_tup rfl (aw_cons (tg 8 nd) (aw_cons (tg 9 nd) aw_nil))) ?_)
        refine x_cons (s_if (ew_b (ew_and (eqS (vr 8 rfl) (cs [66])) (fun _ => (ew_and1 (eb_chain ev_int (ixm (ev_p (vr 6 rfl)) (vr 9 rfl) hm2.2.1 (by omega)) (vr 4 rfl)))))) (fun hc => ?_) (fun hc => ?_))
        · refine x_cons (DT.st 3 nd (ev_tup (ea_cons (vr 5 rfl) (ea_cons (vr 7 rfl) ea_nil))) ?_)
          refine x_cons (DT.st 4 nd (ixm (ev_p (vr 6 rfl)) (vr 9 rfl) hm2.2.1 (by omega)) ?_)
          refine x_nil (x_nil ⟨_, ?_, hnx'.symm⟩)
          unfold chIn
          rw [if_pos (by simpa using hc)]
          walk_at "less"
        · refine x_nil (x_nil ⟨_, ?_, hnx'.symm⟩)
          unfold chIn
          rw [if_neg (by
            simp at hc
            intro ⟨h1, h2, h3⟩
            have := hc h1 h2
            omega)]
          walk_at "less"
      · intro st' hI'
        refine x_nil (x_nil ⟨_, ?_, hnx.symm⟩)
        unfold chOut
        rw [if_pos hc', rng_len] at *
        rw [← hI']
        walk_at "less"
    · have hc' : ¬ (ix hs i).1 = [82] := by simpa using hc
      refine x_nil (x_nil ⟨_, ?_, hnx.symm⟩)
      unfold chOut
      rw [if_neg hc']
      walk_at "less"
  · intro st hI
    refine x_one (s_ret (vr 3 rfl) ?_)
    show Res.val _ = Res.val _
    rw [hI, rng_len]
    rfl

theorem isNon_O (o : Option (Int × Int)) : isNon (encO o) = o.isNone := by cases o <;> rfl
theorem sc56 : FnScope ["house", "standing"] ["house", "standing"] (defScope (topS 56)) := ⟨rfl, rfl, rfl, by decide +kernel, rfl, by decide +kernel, by decide +kernel⟩
def R_is_forced (mg : Str → Option Value) : List Dv → Res → Prop := fun ds res => ∃ (n : Nat) (dr : List Door) (t : List Nat) (hs : List Hand) (ps : List Int), ds = [encHo mg n dr t, encSt mg hs ps] ∧ PairOk n dr t hs ps [] ∧ res = resOf (needM n dr t hs ps []) (.bl (pairM n dr hs ps).isSome)
theorem d_is_forced (T : Txt K mg) : Df P w K mg base "is_forced" 6 (R_is_forced mg) := by
  have D_chased_pair := @d_chased_pair P w K mg base T
  refine df_mk (T.fn 56 "is_forced" rfl) sc56 _ (fun ds res h => by obtain ⟨n, dr, t, hs, ps, rfl, _⟩ := h; rfl) (fun _ _ _ _ _ _ us hl => match us, hl with | [_, _], _ => rfl) (fun f cdv A outer s H E hr tk hp ds res h => ?_)
  obtain ⟨n, dr, t, hs, ps, rfl, hW, rfl⟩ := h
  cases hN : needM n dr t hs ps [] with
  | some x => exact x_one (s_retX (evx_cmp op_notN (ex_call tk D_chased_pair (hr.mono (by decide)) rfl (ea_cons (vr 0 rfl) (ea_cons (vr 1 rfl) ea_nil)) ⟨n, dr, t, hs, ps, rfl, hW, by rw [hN]; rfl⟩ (by decide)) (nomark _)) rfl)
  | none =>
    refine x_one (s_ret (EvB.v (eb_notN (ev_call D_chased_pair (hr.mono (by decide)) rfl (ea_cons (vr 0 rfl) (ea_cons (vr 1 rfl) ea_nil)) ⟨n, dr, t, hs, ps, rfl, hW, by rw [hN]; rfl⟩ (by decide)))) ?_)
    show Res.val _ = Res.val _
    rw [isNon_O]
    cases pairM n dr hs ps <;> rfl

theorem sc58 : FnScope ["house", "standing", "pair", "red", "blue", "letters", "way", "door"] ["house", "standing", "pair"] (defScope (topS 58)) := ⟨rfl, rfl, rfl, by decide +kernel, rfl, by decide +kernel, by decide +kernel⟩
def pairD (listed : Bool) (a b : Int) : Dv := if listed = true then .lst [.int a, .int b] else .tup [.int a, .int b]
/-- chase_door's answer, by the way between the two -/
def chaseM (n : Nat) (dr : List Door) (t : List Nat) (hs : List Hand) (ps : List Int) (a b : Int) (ws : List Int) : Res :=
  match needM n dr t hs ps [a, b] with
  | some x => .exc x
  | none => if (ix hs a).1 ≠ [82] ∨ (ix hs b).1 ≠ [66] then .exc "NoPair" else if ws = [] ∨ 66 ∈ ws.map (fun d => ix (lightsM dr ps) d) then .exc "NotThere" else .val (.int (ix ws 0))
def R_chase_door (mg : Str → Option Value) : List Dv → Res → Prop := fun ds res => ∃ (n : Nat) (dr : List Door) (t : List Nat) (hs : List Hand) (ps : List Int) (li : Bool) (a b : Int) (ws : List Int), ds = [encHo mg n dr t, encSt mg hs ps, pairD li a b] ∧ PairOk n dr t hs ps [a, b] ∧
  (needM n dr t hs ps [a, b] = none → WayR (dictM (orderM n dr (ix hs b).2)) (ix hs b).2 (ix hs a).2 ws) ∧ res = chaseM n dr t hs ps a b ws
theorem d_chase_door (T : Txt K mg) : Df P w K mg base "chase_door" 5 (R_chase_door mg) := by
  have nd := sc58.nd
  have D_need_chase := @d_need_chase P w K mg base T
  have D_lights_at := @d_lights_at P w K mg base T
  have D_way_of := @d_way_of P w K mg base T
  refine df_mk (T.fn 58 "chase_door" rfl) sc58 _ (fun ds res h => by obtain ⟨n, dr, t, hs, ps, li, a, b, ws, rfl, _⟩ := h; rfl) (fun _ _ _ _ _ _ us hl => match us, hl with | [_, _, _], _ => rfl) (fun f cdv A outer s H E hr tk hp ds res h => ?_)
  obtain ⟨n, dr, t, hs, ps, li, a, b, ws, rfl, ⟨hW, hO⟩, hWR, rfl⟩ := h
  refine x_cut (fun o => o = .nx [.sh (encHo mg n dr t), .sh (encSt mg hs ps), .sh (pairD li a b), .sh (.int a), .sh (.int b), .free, .free, .free]) ?_ ?_ (fun _ h => nomatch h) (fun _ h => nomatch h)
  · cases li with
    | true => exact s_asg (vr 2 rfl) (ag_lst rfl (aw_cons (tg 3 nd) (aw_cons (tg 4 nd) aw_nil))) rfl
    | false => exact s_asg (vr 2 rfl) (ag_tup rfl (aw_cons (tg 3 nd) (aw_cons (tg 4 nd) aw_nil))) rfl
  intro G' hG'
  cases hG'
  unfold chaseM
  cases hN : needM n dr t hs ps [a, b] with
  | some x =>
    exact x_cons (s_exprX (ex_call tk D_need_chase (hr.mono (by decide)) rfl (ea_cons (vr 0 rfl) (ea_cons (vr 1 rfl) (ea_cons (en_d (en_lst (ea_cons (vr 3 rfl) (ea_cons (vr 4 rfl) ea_nil)))) ea_nil))) ⟨n, dr, t, hs, ps, [a, b], rfl, hW, by rw [hN]; rfl⟩ (by decide)) rfl)
  | none =>
  obtain ⟨hH, hhl⟩ := hO hN
  have hway := hWR hN
  obtain ⟨f1, f2, f3⟩ := fits_facts (need_fit hN)
  have hk := need_known hN
  unfold knownM at hk
  simp at hk
  obtain ⟨⟨ka0, ka1⟩, kb0, kb1⟩ := hk
  have hll := lights_len f1
  have hn := hH.n1
  have hdl := hH.dl
  have hma := f3 _ (mem_ix (xs := hs) (k := a) ka0 ka1)
  have hmb := f3 _ (mem_ix (xs := hs) (k := b) kb0 kb1)
  have hwd := hH.wd _ _ ws hmb.2.1 hmb.2.2 hma.2.1 hma.2.2 hway
  dsimp only
  refine x_cons (s_expr (ev_call D_need_chase (hr.mono (by decide)) rfl (ea_cons (vr 0 rfl) (ea_cons (vr 1 rfl) (ea_cons (en_d (en_lst (ea_cons (vr 3 rfl) (ea_cons (vr 4 rfl) ea_nil)))) ea_nil))) ⟨n, dr, t, hs, ps, [a, b], rfl, hW, by rw [hN]; rfl⟩ (by decide)) ?_)
  refine x_cons (s_if (ew_b (ew_or (neS (ixt (ixmT (f := encH) (fld_hands T (vr 1 rfl)) (vr 3 rfl) ka0 ka1) ⟨by decide, rfl⟩) (cs [82])) (fun _ => (ew_or1 (neS (ixt (ixmT (f := encH) (fld_hands T (vr 1 rfl)) (vr 4 rfl) kb0 kb1) ⟨by decide, rfl⟩) (cs [66])))))) (fun hc => ?_) (fun hc => ?_))
  · refine x_one (raise T (by decide) tk rfl rfl ?_)
    have hc' : (ix hs a).1 ≠ [82] ∨ (ix hs b).1 ≠ [66] := by simpa using hc
    rw [if_pos hc']; rfl
  refine x_nil ?_
  have hc' : ¬ ((ix hs a).1 ≠ [82] ∨ (ix hs b).1 ≠ [66]) := by simpa using hc
  rw [if_neg hc']
  refine x_cons (st 5 nd (ev_call D_lights_at (hr.mono (by decide)) rfl (ea_cons (vr 0 rfl) (ea_cons (vr 1 rfl) (ea_cons ev_int ea_nil))) ⟨n, dr, t, hs, ps, rfl, hW.short, f1, by omega, fun q hq => by have := (f2 q hq); omega, rfl⟩ (by decide)) ?_)
  refine x_cons (st 6 nd (ev_call D_way_of (hr.mono (by decide)) rfl (ea_cons (vr 0 rfl) (ea_cons (ixt (ixmT (f := encH) (fld_hands T (vr 1 rfl)) (vr 3 rfl) ka0 ka1) ⟨by decide, rfl⟩) (ea_cons (ixt (ixmT (f := encH) (fld_hands T (vr 1 rfl)) (vr 4 rfl) kb0 kb1) ⟨by decide, rfl⟩) ea_nil))) ⟨n, dr, t, (ix hs a).2, (ix hs b).2, ws, rfl, hn, hdl, hH.ends, hH.run _ hmb.2.1 hmb.2.2, hway, hwd.1, rfl⟩ (by decide)) ?_)
  refine x_cons (s_if (t := decide (ws = [] ∨ 66 ∈ ws.map (fun d => ix (lightsM dr ps) d))) (eb_is (ew_b (ew_or (eqNil hr.units (ev_p (vr 6 rfl)) (fun d hd => by obtain ⟨x, _, rfl⟩ := List.mem_map.mp hd; exact eqOk_int x)) (fun _ => (ew_or1 (eb_inL (cs [66]) (ds := (ws.map (fun d => ix (lightsM dr ps) d)).map encL) (by
      rw [List.map_map]
      exact (en_p (en_lc rfl nd (lc_map (own := [("door", 7)]) (xs := ws) Dv.int (fun d => encL (ix (lightsM dr ps) d)) (ei_list (vr 6 rfl)) (by omega) (blkOk_by (by kernel_rfl)) (fun x hx => turn_map (by decide) (fun _ _ _ _ _ => (tg 7 nd)) (fun _ _ _ _ _ => (ixC (ls := lightsM dr ps) (ev_p (vr 5 rfl)) (vr 7 rfl) (hwd.2 x hx).1 (by have := (hwd.2 x hx).2; omega)))))))) rfl flat_codes (by rfl)))))) (by
      rw [any_codes]
      cases ws <;> simp)) (fun hc => ?_) (fun hc => ?_))
  · refine x_one (raise T (by decide) tk rfl rfl ?_)
    rw [if_pos (of_decide_eq_true hc)]; rfl
  refine x_nil ?_
  have hc2 := of_decide_eq_false hc
  rw [if_neg hc2]
  have hws : ws ≠ [] := fun z => hc2 (.inl z)
  have hpos : 0 < ws.length := List.length_pos_iff.mpr hws
  exact x_one (s_ret (ixm (ev_p (vr 6 rfl)) ev_int (by omega) (by omega)) rfl)
end
end DT

set_option Elab.async false
set_option linter.all false
set_option maxRecDepth 100000
namespace DT
open PySem PySem.Spec L2
open PyProof.Rows hiding St
open SX (S)
section
variable {K : PySem.W.Frag} {B0 H0 B H B' H' : Hp} {G : List Slot} {sg : St}
theorem FrOk.consF (f : FrOk K B0 H0 B H G sg) (ov : Option V) : FrOk K B0 H0 B H (.free :: G) (ov :: sg) := by
  obtain ⟨al, a1, a2, a3⟩ := f.adr
  refine ⟨f.g, by simp [f.len], fun i => al (i - 1), fun i s e o => ?_, fun i j s t e1 e2 o1 o2 ea => ?_, fun i s e => ?_⟩
  · cases i with
    | zero => simp at e; subst e; exact o.elim
    | succ i => exact a1 i s (by simpa using e) o
  · cases i with
    | zero => simp at e1; subst e1; exact o1.elim
    | succ i =>
      cases j with
      | zero => simp at e2; subst e2; exact o2.elim
      | succ j => rw [a2 i j s t (by simpa using e1) (by simpa using e2) o1 o2 ea]
  · cases i with
    | zero => simp at e; subst e; exact ⟨ov, rfl, trivial⟩
    | succ i => simpa using a3 i s (by simpa using e)
theorem startOk2 (g : Grow B0 H0 B H) {vs : List V} {ds : List Dv} (r : Rps K B vs ds) (N : List Str) : FrOk K B0 H0 B H (startG N ds) (L2.start N vs) := by
  have f := startOk g.s r N
  obtain ⟨al, a1, a2, a3⟩ := f.adr
  refine ⟨g, f.len, al, fun i s e o => ?_, a2, a3⟩
  obtain ⟨ov, _, so⟩ := a3 i s e
  obtain ⟨ob, h1, _⟩ := so.at o
  rw [a1 i s e o] at h1
  cases h1
/-- the instance under construction in slot i -/
theorem FrOk.slf (f : FrOk K B0 H0 B H G sg) {i : Nat} {ad C : Addr} {fs : List (Str × Dv)} (h : G[i]? = some (.slf ad C fs)) : sg[i]? = some (some (.ref ad)) ∧ B ad = none ∧ ∃ dx gs, H ad = some (.ins C dx gs) ∧ RpF K B gs fs ∧
    (∀ gs' fs', RpF K B gs' fs' → FrOk K B0 H0 B (upd H ad (.ins C dx gs')) (G.set i (.slf ad C fs')) sg) := by
  obtain ⟨al, a1, a2, a3⟩ := f.adr
  obtain ⟨ov, h1, rfl, n, ea, dx, gs, hp, r⟩ := a3 i _ h
  have h0 : H0 (al i) = none := a1 i _ h trivial
  have hi : i < G.length := (List.getElem?_eq_some_iff.mp h).1
  have u : ∀ kvs' j s, (G.set i (.slf ad C kvs'))[j]? = some s → OwnLike s → ∃ s', G[j]? = some s' ∧ OwnLike s' := fun kvs' j s e o => by
    by_cases hj : j = i
    · subst hj; exact ⟨_, h, trivial⟩
    · rw [List.getElem?_set_ne (Ne.symm hj)] at e
      exact ⟨s, e, o⟩
  refine ⟨by rw [← ea]; exact h1, by rw [← ea]; exact n, dx, gs, by rw [← ea]; exact hp, r, fun vs' ds' r' => ⟨⟨?_, f.g.b, ?_, f.g.n⟩, by rw [List.length_set]; exact f.len, al, ?_, ?_, ?_⟩⟩
  · intro b o e
    rw [upd_ne (ne_of_none e (by rw [← ea]; exact h0))]
    exact f.g.h b o e
  · intro b o e
    rw [upd_ne (ne_of_none e (by rw [← ea]; exact n))]
    exact f.sub b o e
  · intro j s e os
    obtain ⟨s', e', os'⟩ := u _ j s e os
    exact a1 j s' e' os'
  · intro j k s t e1 e2 o1 o2 ea
    obtain ⟨s1, f1, g1⟩ := u _ j s e1 o1
    obtain ⟨s2, f2, g2⟩ := u _ k t e2 o2
    exact a2 j k s1 s2 f1 f2 g1 g2 ea
  · intro j s e
    by_cases hj : j = i
    · subst hj
      rw [List.getElem?_set_self hi] at e
      cases e
      exact ⟨_, h1, rfl, n, ea, dx, vs', by rw [ea]; exact upd_same, r'⟩
    · rw [List.getElem?_set_ne (Ne.symm hj)] at e
      obtain ⟨ov, k1, k2⟩ := a3 j s e
      exact ⟨ov, k1, k2.away fun os z => hj (a2 j i s _ e h os trivial (by rw [z, ea]))⟩
def putFd (f : Str) (d : Dv) : List (Str × Dv) → List (Str × Dv)
  | [] => [(f, d)]
  | (g, x) :: r => if g = f then (g, d) :: r else (g, x) :: putFd f d r
theorem RpF.put {f : Str} {v : V} {d : Dv} (h : Rp K B v d) : ∀ {gs : List (Str × V)} {fs : List (Str × Dv)}, RpF K B gs fs → RpF K B (putF f v gs) (putFd f d fs)
  | _, _, .nil => .cons h .nil
  | _, _, .cons (n := n) a r => by
    unfold putF putFd
    by_cases e : n = f
    · rw [if_pos e, if_pos e]; exact .cons h r
    · rw [if_neg e, if_neg e]; exact .cons a (RpF.put h r)
theorem RpF.length : ∀ {gs : List (Str × V)} {fs : List (Str × Dv)}, RpF K B gs fs → gs.length = fs.length
  | _, _, .nil => rfl
  | _, _, .cons a r => by simp [RpF.length r]
end
section
variable {X : Cx} {W : WX} {G : List Slot} {a b c e o : Expr} {es rest : List Expr} {pos p p2 p3 : Pos} {d d0 d1 d2 d3 : Dv} {ds ds1 ds2 : List Dv} {k : Out → Prop}
theorem ev_self {x f : Str} {ad C : Addr} {fs : List (Str × Dv)} (i : Nat) (hG : G[i]? = some (.slf ad C fs)) (hc : Cls X.K C) (hn : NoAttr X.K C f) (hf : fs.lookup f = some d) (hN : X.N[i]? = some x := by rfl) (hv : Vis X.env.scope x := by first | exact Or.inl rfl | exact Or.inr (Or.inl rfl) | exact Or.inr (Or.inr rfl))
    (hd : (x == ("__debug__" : Str)) = false := by decide) (hcd : (x == ("__classdict__" : Str)) = false := by decide) (hb : attributeBase (.Name x p) f X.env (eval (.Name x p) X.env) = eval (.Name x p) X.env := by rfl) : EvD X G (.Attribute (.Name x p) f pos) d := fun B0 H0 B H sg Q fr q =>
  PE.w (pe_fld (pe_var hN hv hd hcd) hb) (by
    obtain ⟨h1, _, dx, gs, h2, r, _⟩ := fr.slf hG
    obtain ⟨v, e2, rv⟩ := r.look hf
    exact ⟨_, h1, ad, C, dx, gs, v, rfl, h2, hc, hn, e2, q v B H fr.grow rv⟩)
theorem s_self {x f : Str} {ad C : Addr} {fs : List (Str × Dv)} (i : Nat) (hG : G[i]? = some (.slf ad C fs)) (he : EvD X G e d) (hc : Cls X.K C) (hn : NoAttr X.K C f) (hl : fs.length < 1000) (hk : k (.nx (G.set i (.slf ad C (putFd f d fs))))) (hN : X.N[i]? = some x := by rfl)
    (hv : Vis X.env.scope x := by first | exact Or.inl rfl | exact Or.inr (Or.inl rfl) | exact Or.inr (Or.inr rfl)) (hd : (x == ("__debug__" : Str)) = false := by decide) (hcd : (x == ("__classdict__" : Str)) = false := by decide)
    (hs : swapsWith e (some (.Attribute (.Name x p) f p2)) pos.line X.env = pure false := by rfl) : ExS X W G (.Assign [.Attribute (.Name x p) f p2] e pos) k := fun B0 H0 B H sg D fr n =>
  PS.w (ps_fld (pe_var hN hv hd hcd) pe_w hs) (he B0 H0 B H sg _ fr fun v B1 H1 g1 r1 => by
    obtain ⟨h1, _, dx, gs, h2, r, mu⟩ := (fr.mono g1).slf hG
    exact ⟨_, h1, ad, C, dx, gs, rfl, h2, hc, hn, by rw [r.length]; exact hl, n.nx _ B1 _ _ hk (mu _ _ (r.put r1))⟩)
end
/-- __init__'s promise: from the arguments ds the fields fs -/
def spIn (K : PySem.W.Frag) (C : Addr) (R : List Dv → List (Str × Dv) → Prop) : Sp := fun vs H Q _ => ∃ (B : Hp) (x dx : Addr) (us : List V) (ds : List Dv) (fs : List (Str × Dv)), vs = .ref x :: us ∧ Same B H ∧ B x = none ∧ H x = some (.ins C dx []) ∧ Rps K B us ds ∧ R ds fs ∧
  ∀ B' H' dx' gs, Grow B (fun b => if b = x then none else H b) B' H' → B' x = none → H' x = some (.ins C dx' gs) → RpF K B' gs fs → Q .non H'
section
variable {P : Program} {w : World} {K : PySem.W.Frag} {mg : Str → Option Value} {base : Heap}
theorem init_ok {qual : Str} {params : Arguments} {body : List Stmt} {scope : Scope} {kws : List (Str × V)} {f C : Addr} {fd : FuncData} {N ps : List Str} {y : Str} {k : Nat} (F : FunD K "__init__" qual params body scope [] kws f fd) (S : FnScope (y :: N) (y :: ps) scope) (R : List Dv → List (Str × Dv) → Prop)
    (hlen : ∀ ds fs, R ds fs → ds.length = ps.length)
    (hbody : ∀ (cdv : Value) (A : Around) (outer : List Env) (s : Shared) (H : Hp) (E : XK), Room k (A.deeper (envOfC qual scope s.heap.objs.size f cdv)) →
      Takes (cxOf (L2.CX P w) P w K mg base (y :: N) qual scope f cdv A outer s H E) (wE E) → PassesOwn (model P w) (A.deeper (envOfC qual scope s.heap.objs.size f cdv)) (envOfC qual scope s.heap.objs.size f cdv) (cxOf (L2.CX P w) P w K mg base (y :: N) qual scope f cdv A outer s H E).xe →
      ∀ x ds fs, R ds fs → Ex (cxOf (L2.CX P w) P w K mg base (y :: N) qual scope f cdv A outer s H E) (wE E) (.slf x C [] :: startG N ds) body (fun o => ∃ G, o = .nx (.slf x C fs :: G))) :
    FnOk P w K mg base (L2.CX P w) (k + 1) f fd (y :: ps) (spIn K C R) := by
  refine F.ok S (fun vs H Q E h => ?_) (fun cdv A outer s H vs Q E hr h => ?_)
  · obtain ⟨B, x, dx, us, ds, fs, rfl, _, _, _, r, hR, _⟩ := h
    rw [List.length_cons, List.length_cons, r.length, hlen ds fs hR]
  · obtain ⟨B, x, dx, us, ds, fs, rfl, sB, hBx, hHx, r, hR, fin⟩ := h
    have g0 : Grow B (fun b => if b = x then none else H b) B H := ⟨fun b o e => by
      by_cases hb : b = x
      · rw [if_pos hb] at e; cases e
      · rw [if_neg hb] at e; exact e, Same.refl _, sB, fun _ _ _ => rfl⟩
    have f1 := (startOk2 g0 r N).consF (some (.ref x))
    have f2 := f1.setG (i := 0) (v := .ref x) (p := x) (s := .slf x C []) ⟨rfl, hBx, rfl, dx, [], hHx, .nil⟩ (fun _ => ⟨by simp, fun j t hj e o q eq => by
      cases j with
      | zero => exact absurd rfl hj
      | succ j =>
        obtain ⟨al, a1, a2, a3⟩ := (startOk2 g0 r N).adr
        have e' : (startG N ds)[j]? = some t := by simpa using e
        obtain ⟨ov, _, so⟩ := a3 j t e'
        obtain ⟨ob, h1, h2⟩ := so.at o
        have h3 := a1 j t e' o
        -- startG holds nothing of one's own
        exfalso
        unfold startG at e'
        by_cases hl : j < (ds.map Slot.sh).length
        · rw [List.getElem?_append_left hl, List.getElem?_map] at e'
          cases hh : ds[j]? with
          | none => rw [hh] at e'; cases e'
          | some d => rw [hh] at e'; cases e'; exact o.elim
        · rw [List.getElem?_append_right (by omega)] at e'
          have := List.mem_of_getElem? e'
          rw [List.mem_replicate] at this
          rw [this.2] at o
          exact o.elim⟩)
    have es : L2.start (y :: N) (.ref x :: us) = some (.ref x) :: L2.start N us := by
      unfold L2.start
      simp
    refine ⟨_, pss_w, ?_⟩
    rw [es]
    refine hbody cdv A outer s H E hr (takes_of rfl rfl rfl rfl) (passes_of rfl) x ds fs hR B _ B H _ _ f2 ⟨fun G' B' H' sg' q f' => ?_, fun d v B' H' q g' r' => ?_, fun y G' B' H' sg' q f' => ?_⟩
    · obtain ⟨G, e⟩ := q
      cases e
      obtain ⟨_, hb, dx', gs, h2, rF, _⟩ := f'.slf (i := 0) rfl
      exact fin B' H' dx' gs f'.g hb h2 rF
    · obtain ⟨G, e⟩ := q; cases e
    · obtain ⟨G, e⟩ := q; cases e
end
section
variable {X : Cx} {W : WX} {G : List Slot} {a b c e o : Expr} {es rest : List Expr} {pos p p2 p3 : Pos} {d d0 d1 d2 d3 : Dv} {ds ds1 ds2 : List Dv} {k : Out → Prop}
theorem made_end {K : PySem.W.Frag} {B H B1 H1 : Hp} {x dx C : Addr} {fs : List (Str × Dv)} {gs : List (Str × V)} {dx' : Addr} (s : Same B H) (hx : H x = none) (g : Grow B (fun b => if b = x then none else (upd (upd H dx (.own x)) x (.ins C dx [])) b) B1 H1) (hdx : H dx = none) (hb : B1 x = none) (h1 : H1 x = some (.ins C dx' gs)) (r : RpF K B1 gs fs) :
    Grow B H (upd B1 x (.ins C dx' gs)) H1 ∧ Rp K (upd B1 x (.ins C dx' gs)) (.ref x) (.ins C fs) := by
  have hs : Same B1 (upd B1 x (.ins C dx' gs)) := same_new hb
  have k1 : ∀ b o, H b = some o → (if b = x then none else (upd (upd H dx (.own x)) x (.ins C dx [])) b) = some o := fun b o e => by
    have n1 : b ≠ x := ne_of_none e hx
    have n2 : b ≠ dx := ne_of_none e hdx
    rw [if_neg n1, upd_ne n1, upd_ne n2]
    exact e
  refine ⟨⟨fun b o e => g.h b o (k1 b o e), g.b.trans hs, fun b o e => ?_, fun b o e => ?_⟩, .ins upd_same (r.up hs)⟩
  · by_cases hbx : b = x
    · rw [hbx, upd_same] at e; rw [hbx, h1]; exact e
    · rw [upd_ne hbx] at e; exact g.s b o e
  · rw [upd_ne (ne_of_none e hx)]
    exact g.n b o (k1 b o e)
theorem ev_make {x : Str} {C f : Addr} {fd : FuncData} {ps : List Str} {k : Nat} {R : List Dv → List (Str × Dv) → Prop} {fs : List (Str × Dv)} {dvs : List V} {dds : List Dv} {dus : List Value} (M : Mk X.K C f) (F : FnOk X.prog X.w X.K X.mg X.base (L2.CX X.prog X.w) k f fd ps (spIn X.K C R)) (hr : Room (k + 1) X.A) (hg : Gl X x) (hm : X.mg x = some (.ref C))
    (hb : Binds X.K fd ps dus) (hd : Vals dvs dus) (hdd : ∀ B, Rps X.K B dvs dds) (ha : EvA X G (e :: es) ds) (hR : R (ds ++ dds) fs) (hdb : (x == ("__debug__" : Str)) = false := by decide)
    (he : starEach (e :: es) X.env = (false, eval e X.env) :: starEach es X.env := by rfl) (hpl : (backTo pos (starEach es X.env)).any (·.1) = false := by rfl) : EvD X G (.Call (.Name x p) (e :: es) [] pos) (.ins C fs) := fun B0 H0 B H sg Q fr q =>
  PE.w (pe_make M F hr hg hm hb hd passL pa_w hdb he hpl) (ha B0 H0 B H sg _ fr fun vs B1 H1 g1 r1 xx dx nx ndx nex => by
    have sB : Same B1 (upd (upd H1 dx (.own xx)) xx (.ins C dx [])) := (g1.s.trans (same_new ndx)).trans (same_new (by rw [upd_ne (Ne.symm nex)]; exact nx))
    refine ⟨B1, xx, dx, vs ++ dvs, ds ++ dds, fs, rfl, sB, g1.s.free nx, upd_same, r1.append (hdd B1), hR, fun B2 H2 dx' gs g2 b2 h2 r2 => ⟨rfl, ?_⟩⟩
    obtain ⟨g3, r3⟩ := made_end g1.s nx g2 ndx b2 h2 r2
    exact q _ _ _ (g1.trans g3) r3)
end
end DT

set_option Elab.async false
set_option linter.all false
set_option maxRecDepth 100000
namespace DT
open PySem PySem.Spec PyProof.Rows PySem.Froz

theorem boot_setT : bootBuiltins "set" = some (.type "set") := by decide +kernel
theorem runD_ok {P : Program} {w : World} : ∀ (cs : List Nat) (tk : Tok) (D : SD) (l : List Str), TxOk P w D l → ∃ l', l'.length = l.length + cs.length ∧ TxOk P w (runD w cs tk D) l'
  | [], tk, D, l, h => ⟨l, by simp, h⟩
  | c :: r, tk, D, l, h => by
    obtain ⟨l', h1, h2⟩ := runD_ok r (tk + 2) (addTx (hashStr w (sing c)) (.str (sing c) tk) D) (sing c :: l) (add_ok tk h)
    exact ⟨l', by rw [h1]; simp; omega, h2⟩
section
variable {prog : Program} {w : World} {A : Around} {E : Value → Shared → Prop} {s : Shared}
set_option maxHeartbeats 3200000 in
theorem call_set_txt {x : Str} {u : Tok} {Q : Value → Shared → Prop} (hh : A.handled = none) (ha : x.cps.all (· < 128) = true) (hnd : x.cps.toList.Nodup) (hn : x.cps.toList.length < 4000)
    (h : ∀ (h' : Heap) (tk : Nat) (D : SD), h'.get? s.heap.objs.size = some (sObj "set" D) → D.1.size = x.cps.toList.length → D.2.2.fits D.1.size = true →
      (∀ b o, b < s.heap.objs.size → s.heap.get? b = some o → h'.get? b = some o) → Q (.ref s.heap.objs.size) { s with heap := h', toks := tk }) :
    wpAny (model prog w) A (call (.type "set") [.str x u]) Q E s := by
  obtain ⟨c, tl, hmro⟩ := PySem.F.called_set.mro
  have hmade := PySem.F.called_set.made
  have hsub := PySem.F.called_set.sub
  refine wpAny_call (codeAny_of_tree ?_)
  show wpAny _ _ (callAny (.type "set") _) _ _ _
  refine wpAny_pure ⟨Code.quiet_builtin _ (by decide +kernel), codeAny_builtin PySem.F.entry_type_call ?_⟩
  rw [Around.under_plain (weight_type_call_type "set" [.str x u] []) rfl]
  have h1 := PySem.F.called_set.notType
  have h2 := PySem.F.called_set.canCreate
  have hct := PySem.F.typeCall_set_1 (.str x u)
  repeat (any_goals (first | assumption | wp_step))

  refine codeAny_mono (code_set_new_1 (.str x u) (E := E) (Q₁ := fun obj s₁ => ∃ led : Bool, obj = .ref s.heap.objs.size ∧ s₁ = { s with heap := s.heap.push { cls := .type "set", dict := none, data := .set #[] 0 (.fresh 0 0 led) } }) fun led => ⟨led, rfl, rfl⟩) fun r s₁ hr => ?_
  cases r with
  | error e => exact hr
  | ok fl =>
    cases fl with
    | ret obj =>
      obtain ⟨led, rfl, rfl⟩ := hr
      have hS : (s.heap.push { cls := .type "set", dict := none, data := .set #[] 0 (.fresh 0 0 led) }).get? s.heap.objs.size = some { cls := .type "set", dict := none, data := .set #[] 0 (.fresh 0 0 led) } := Heap.get?_push_size _ rfl
      have hT : Shared.TypeIs { s with heap := s.heap.push { cls := .type "set", dict := none, data := .set #[] 0 (.fresh 0 0 led) } } (.ref s.heap.objs.size) "set" := ⟨_, hS, rfl⟩
      have hli := PySem.F.called_set.init.lookup
      have hbi := PySem.F.called_set.init.bind (.ref s.heap.objs.size)
      repeat (any_goals (first | assumption | wp_step))

      refine codeAny_mono (codeAny_call_builtin (R := wants (fun r s₂ => r = .none ∧ ∃ h' tk D, s₂ = { s with heap := h', toks := tk } ∧
          h'.get? s.heap.objs.size = some (sObj "set" D) ∧ D.1.size = x.cps.toList.length ∧ D.2.2.fits D.1.size = true ∧
          (∀ b o, b < s.heap.objs.size → s.heap.get? b = some o → h'.get? b = some o)) E) PySem.F.called_set.init.plain PySem.F.entry_set_init (check_set_init_1 hT ?_)) fun r₂ s₂ hr₂ => ?_
      · have hsls := PySem.F.sub_str_set
        have hslf := PySem.F.sub_str_frozenset
        have hne : (Value.type "str" == Value.type "dict") = false := by decide
        unfold Builtin.«set.__init__» noKeywords Builtin.Frozenset.updateFrom
        generalize hPI : pyIter = PI
        wp_walk
        subst hPI
        refine wpAny_pyIter_ascii ha ?_
        refine wpAny_bind (wpAny_runValue ?_)
        have hsz : (s.heap.push { cls := .type "set", dict := none, data := .set #[] 0 (.fresh 0 0 led) }).objs.size = s.heap.objs.size + 1 := by rw [Heap.size_push]
        have hne2 : s.heap.objs.size ≠ s.heap.objs.size + 1 := by omega
        have hA : ((s.heap.push { cls := .type "set", dict := none, data := .set #[] 0 (.fresh 0 0 led) }).push (itObj x u 0)).get? s.heap.objs.size = some (sObj "set" (#[], 0, .fresh 0 0 led)) := Heap.get?_push_of_some _ hS
        have hI : ((s.heap.push { cls := .type "set", dict := none, data := .set #[] 0 (.fresh 0 0 led) }).push (itObj x u 0)).get? (s.heap.objs.size + 1) = some (itObj x u 0) := by
          rw [← hsz]
          exact Heap.get?_push_size _ rfl
        obtain ⟨l', hl1, hl2⟩ := runD_ok (P := prog) (w := w) x.cps.toList s.toks (#[], 0, .fresh 0 0 led) [] (TxOk.nil (by rfl))
        rw [hsz]
        have hh3 : A.in1.in1.handled = none := by simp [hh]
        refine code_update (P := prog) (w := w) (s := { s with heap := ((s.heap.push { cls := .type "set", dict := none, data := .set #[] 0 (.fresh 0 0 led) }).push (itObj x u 0)) }) hne2 (u := u) (x := x) (T := "set") hh3 x.cps.toList 0 (#[], 0, .fresh 0 0 led) [] rfl ?hA hI (TxOk.nil (by rfl)) (fun c _ q => by cases q) hnd (by show 0 + x.cps.toList.length < 4096; omega) ?_
        case hA => exact hA
        show wpAny _ _ _ _ _ _
        refine wpAny_pure ?_
        show wpAny _ _ (ret Value.none) _ _ _
        refine wpAny_pure ⟨rfl, _, _, runD w x.cps.toList s.toks (#[], 0, .fresh 0 0 led), rfl, ?_, by rw [hl2.sz, hl1]; simp, hl2.fit, fun b o hb e => ?_⟩
        · refine Heap.get?_push_of_some _ (Heap.get?_push_of_some _ ?_)
          exact PySem.Heap.get?_update_of_ne _ (Ne.symm hne2) (get_upd _ hA rfl)
        · refine Heap.get?_push_of_some _ (Heap.get?_push_of_some _ ?_)
          have n1 : b ≠ s.heap.objs.size := Nat.ne_of_lt hb
          have n2 : b ≠ s.heap.objs.size + 1 := by omega
          exact PySem.Heap.get?_update_of_ne _ (Ne.symm n2) (PySem.Heap.get?_update_of_ne _ (Ne.symm n1) (Heap.get?_push_of_some _ (Heap.get?_push_of_some _ e)))
      · cases r₂ with
        | error e => exact hr₂
        | ok fl₂ =>
          cases fl₂ with
          | ret r =>
            obtain ⟨rfl, h', tk, D, rfl, hS', hz, hf, hk'⟩ := hr₂
            repeat (any_goals (first | assumption | wp_step))
            exact h _ _ D hS' hz hf hk'
          | _ => exact hr₂.elim
    | _ => exact hr.elim
end
section
open L2
variable {X : Cx} {G : List Slot} {a : Expr} {pos p p2 q : Pos}
/-- len(set(x)), a text of unlike ASCII signs -/
theorem ev_lenSetS {x y : Str} {z : List Nat} (hc : X.calm = true) (ha : EvD X G a (.str (SX.S z))) (h1 : z.all (· < 128) = true) (h2 : z.Nodup) (h3 : z.length < 4000) (hx : x = "len") (hy : y = "set") (hg : Gl X x) (hm : X.mg x = none) (hg2 : Gl X y) (hm2 : X.mg y = none)
    (na : starEach [a] X.env = (false, eval a X.env) :: starEach [] X.env := by rfl) : EvD X G (.Call (.Name x p) [.Call (.Name y p2) [a] [] q] [] pos) (.int (z.length : Int)) := fun B0 H0 B H sg Q f qq => by
  subst hx; subst hy
  refine PE.w (t := fun σ H Q => wpE X a σ H fun v H1 => v = .str (SX.S z) ∧ Q (.int (z.length : Int)) H1) ⟨fun pins s σ H Q I h => ?_⟩ (ha B0 H0 B H sg _ f fun v B1 H1 g1 r1 => by cases r1; exact ⟨rfl, qq _ B1 H1 g1 (.int _)⟩)
  refine PyProof.Rows.Call_ (L2.ld_blt I hg hm PySem.boot_len ?_)
  refine PyProof.Rows.callWith_builtin1 (PyProof.Rows.args_cons ?_ rfl) rfl rfl
  refine PyProof.Rows.Call_ (L2.ld_blt I hg2 hm2 boot_setT ?_)
  refine PyProof.Rows.callWith_type1 (PyProof.Rows.args_cons (thn (h pins s I) fun v s1 ⟨x, H1, I1, r1, q1⟩ => PyProof.Rows.args_nil ?_) na) na rfl
  obtain ⟨rfl, q1⟩ := q1
  obtain ⟨t, rfl⟩ := r1
  refine call_set_txt (I1.ok.hd hc) (by rw [← Array.all_toList]; exact h1) h2 h3 fun h' tk D hD hz hf hk => ?_
  refine PyProof.Rows.args_nil ?_
  have I2 : Inv X pins σ H1 { s1 with heap := h', toks := tk } := I1.kept fun b o e => hk b o (Heap.lt_size e) e
  have hz' : D.1.size = z.length := hz
  exact call_len_set (es := D.1) (ep := D.2.1) (t := D.2.2) hD ⟨rfl, rfl, rfl⟩ rfl hf (by rw [hz']; omega) ⟨.int z.length, H1, I2.tok _, ⟨_, by rw [hz']⟩, q1⟩
theorem firstMet_same {ns : List Int} {c : Int} (h : ∀ m ∈ ns, m = c) : ∀ i, i < ns.length → PyProof.Rows.firstMet (fun i => ns.getD i 0) (i + 1) = [c]
  | 0, hi => by
    have e1 : ns.getD 0 0 = c := by
      rw [List.getD_eq_getElem?_getD, List.getElem?_eq_getElem hi]
      exact h _ (List.getElem_mem hi)
    rw [PyProof.Rows.firstMet_succ]
    show (if (([] : List Int).any (· == ns.getD 0 0)) then [] else [] ++ [ns.getD 0 0]) = [c]
    rw [e1]; rfl
  | i + 1, hi => by
    have e1 : ns.getD (i + 1) 0 = c := by
      rw [List.getD_eq_getElem?_getD, List.getElem?_eq_getElem hi]
      exact h _ (List.getElem_mem hi)
    rw [PyProof.Rows.firstMet_succ, firstMet_same h i (by omega)]
    show (if ([c].any (· == ns.getD (i + 1) 0)) then [c] else [c] ++ [ns.getD (i + 1) 0]) = [c]
    rw [e1]; simp
/-- len(set(x)), a list of like ints -/
theorem ev_lenSetI {x y : Str} {ns : List Int} {c : Int} (hc : X.calm = true) (ha : EvP X G a (ns.map Dv.int)) (h1 : ∀ m ∈ ns, m = c) (h2 : ns ≠ []) (h3 : ns.length < 4000) (hx : x = "len") (hy : y = "set") (hg : Gl X x) (hm : X.mg x = none) (hg2 : Gl X y) (hm2 : X.mg y = none)
    (na : starEach [a] X.env = (false, eval a X.env) :: starEach [] X.env := by rfl) : EvD X G (.Call (.Name x p) [.Call (.Name y p2) [a] [] q] [] pos) (.int 1) := fun B0 H0 B H sg Q f qq => by
  subst hx; subst hy
  refine PE.w (t := fun σ H Q => wpE X a σ H fun v H1 => ∃ (l : Addr), v = .ref l ∧ H1 l = some (.lst (ns.map V.int)) ∧ Q (.int 1) H1) ⟨fun pins s σ H Q I h => ?_⟩ (ha B0 H0 B H sg _ f fun l vs B1 H1 g1 h1 r1 => by
    rw [Rps.int_eq r1] at h1
    exact ⟨l, rfl, h1, qq _ B1 H1 g1 (.int _)⟩)
  refine PyProof.Rows.Call_ (L2.ld_blt I hg hm PySem.boot_len ?_)
  refine PyProof.Rows.callWith_builtin1 (PyProof.Rows.args_cons ?_ rfl) rfl rfl
  refine PyProof.Rows.Call_ (L2.ld_blt I hg2 hm2 boot_setT ?_)
  refine PyProof.Rows.callWith_type1 (PyProof.Rows.args_cons (thn (h pins s I) fun v s1 ⟨x, H1, I1, r1, q1⟩ => PyProof.Rows.args_nil ?_) na) na rfl
  obtain ⟨l, rfl, hq, q1⟩ := q1
  cases r1
  obtain ⟨its, r, pl, hz⟩ := I1.list (.inl (.inl hq))
  have hlen : its.toArray.size = ns.length := by rw [List.size_toArray, ← r.length, List.length_map]
  refine call_set_list (I1.ok.hd hc) pl.isList (by simpa using RZ.intsAre_vals r) (by rw [hlen]; unfold scanBound; omega) fun h' tk hS hk => ?_
  refine PyProof.Rows.args_nil ?_
  obtain ⟨k, hk2⟩ : ∃ k, ns.length = k + 1 := ⟨ns.length - 1, by have := List.length_pos_iff.mpr h2; omega⟩
  rw [hlen, hk2, firstMet_same h1 k (by omega)] at hS
  obtain ⟨o, es, ep, t, ho, hex, hd, _, _, _, hf, hn⟩ := hS
  have I2 : Inv X pins σ H1 { s1 with heap := h', toks := tk } := I1.kept fun b o e => hk b o (Heap.lt_size e) e
  exact call_len_set ho hex hd hf (by rw [hn]; simp) ⟨.int 1, H1, I2.tok _, ⟨_, by rw [hn]; rfl⟩, q1⟩
end
end DT

set_option Elab.async false
set_option linter.all false
set_option maxRecDepth 100000
namespace DT
open PySem PySem.Spec L2
open PyProof.Rows hiding St
open SX (S)
local macro_rules | `(tactic| walk_at "less") => `(tactic| repeat (first | exact DT.Less.nil | refine DT.Less.cons ?_ | refine DT.Less.free ?_))
/-! ### mirrors -/
def RB : List Nat := [82, 66]
def TwoT (t : List Nat) : Prop := t = [82, 66] ∨ t = [66, 82]
def CyOk (c : List Nat) : Prop := (∀ q ∈ c, q = 82 ∨ q = 66) ∧ 82 ∈ c ∧ 66 ∈ c ∧ c.length ≤ 1000
def DrOk (n : Nat) (d : Door) : Prop := (0 ≤ d.1 ∧ d.1 < n) ∧ (0 ≤ d.2.1 ∧ d.2.1 < n) ∧ d.1 ≠ d.2.1 ∧ CyOk d.2.2
def connStep (dr : List Door) (ls : List Int) (k : Nat) : List Int := ls.map fun l => if l = ix ls (ix dr k).1 then ix ls (ix dr k).2.1 else l
def connRun (n : Nat) (dr : List Door) (k : Nat) : List Int := iter (connStep dr) (rng n) k
def ConnOk (n : Nat) (dr : List Door) : Prop := ∃ c, ∀ m ∈ connRun n dr dr.length, m = c
theorem connRun_len (n : Nat) (dr : List Door) : ∀ k, (connRun n dr k).length = n
  | 0 => by simp [connRun, iter, rng]
  | k + 1 => by
    have ih := connRun_len n dr k
    show (connStep dr (connRun n dr k) k).length = n
    unfold connStep
    simpa using ih
theorem DrOk.ends {n : Nat} {dr : List Door} (h : ∀ d ∈ dr, DrOk n d) : EndsOk n dr := fun d hd => by
  obtain ⟨a, b, _⟩ := h d hd
  exact ⟨a.1, a.2, b.1, b.2⟩
section
variable {P : Program} {w : World} {K : PySem.W.Frag} {mg : Str → Option Value} {base : Heap}
theorem sc31 : FnScope ["trades", "letter"] ["trades"] (defScope (topS 31)) := ⟨rfl, rfl, rfl, by decide +kernel, rfl, by decide +kernel, by decide +kernel⟩
def R_are_trades : List Dv → Res → Prop := fun ds res => ∃ t, ds = [.str (S t)] ∧ TwoT t ∧ res = .val (.bl true)
theorem d_are_trades (T : Txt K mg) : Df P w K mg base "_are_trades" 1 R_are_trades := by
  have nd := sc31.nd
  refine df_mk (T.fn 31 "_are_trades" rfl) sc31 _ (fun ds res h => by obtain ⟨t, rfl, _, rfl⟩ := h; rfl) (fun _ _ _ _ _ _ us hl => match us, hl with | [_], _ => rfl) (fun f cdv A outer s H E hr tk hp ds res h => ?_)
  obtain ⟨t, rfl, ht, rfl⟩ := h
  have hl : t.length = 2 := by rcases ht with rfl | rfl <;> rfl
  have h1 : t.all (· < 128) = true := by rcases ht with rfl | rfl <;> rfl
  have h2 : t.Nodup := by rcases ht with rfl | rfl <;> decide
  obtain ⟨tt, hlet⟩ := T.lettersE
  refine x_cons (s_if (ew_b (ew_or (eb_lt (lenS (vr 0 rfl) (by omega) rfl rfl T.len) ev_int) (fun _ => (ew_or1 (eb_lt (ev_lenSetS rfl (vr 0 rfl) h1 h2 (by omega) rfl rfl rfl T.len (by rfl) T.set) (lenS (vr 0 rfl) (by omega) rfl rfl T.len)))))) (fun hc => ?_) (fun hc => ?_))
  · rw [hl] at hc; simp at hc
  refine x_nil ?_
  refine x_one (s_ret (ev_all rfl (bs := t.map fun q => decide (q ∈ ([65, 66, 67, 68, 69, 70, 71, 72, 73, 74, 75, 76, 77, 78, 79, 80, 81, 82, 83, 84, 85, 86, 87, 88, 89, 90] : List Nat))) (by
    rw [List.map_map]
    exact (en_p (en_lc rfl nd (lc_map (own := [("letter", 1)]) encL _ (ei_S (vr 0 rfl)) (by omega) (blkOk_by (by kernel_rfl)) (fun x hx => turn_map (by decide) (fun _ _ _ _ _ => (tg 1 nd)) (fun _ _ _ _ _ => (EvB.v (inS (vr 1 rfl) (ev_globS (z := S [65, 66, 67, 68, 69, 70, 71, 72, 73, 74, 75, 76, 77, 78, 79, 80, 81, 82, 83, 84, 85, 86, 87, 88, 89, 90]) rfl hlet) (by rfl))))))))) rfl rfl T.all) ?_)
  show Res.val _ = Res.val _
  rcases ht with rfl | rfl <;> rfl

theorem sc32 : FnScope ["rooms", "trades", "door", "first", "second", "cycle", "letter"] ["rooms", "trades", "door"] (defScope (topS 32)) := ⟨rfl, rfl, rfl, by decide +kernel, rfl, by decide +kernel, by decide +kernel⟩
def R_is_door : List Dv → Res → Prop := fun ds res => ∃ (n : Nat) (t : List Nat) (d : Door), ds = [.int n, .str (S t), encDr d] ∧ TwoT t ∧ DrOk n d ∧ res = .val (.bl true)
theorem d_is_door (T : Txt K mg) : Df P w K mg base "_is_door" 2 R_is_door := by
  have nd := sc32.nd
  have D_is_index := @d_is_index P w K mg base T
  refine df_mk (T.fn 32 "_is_door" rfl) sc32 _ (fun ds res h => by obtain ⟨n, t, d, rfl, _⟩ := h; rfl) (fun _ _ _ _ _ _ us hl => match us, hl with | [_, _, _], _ => rfl) (fun f cdv A outer s H E hr tk hp ds res h => ?_)
  obtain ⟨n, t, d, rfl, ht, ⟨d1, d2, d3, d4, d5, d6, d7⟩, rfl⟩ := h
  have hl : t.length = 2 := by rcases ht with rfl | rfl <;> rfl
  refine x_cons (s_asg (vr 2 rfl) (ag_tup rfl (aw_cons (tg 3 nd) (aw_cons (tg 4 nd) (aw_cons (tg 5 nd) aw_nil)))) ?_)
  refine x_cons (s_if (ew_b (ew_or (eb_not (eb_val (ev_call D_is_index (hr.mono (by decide)) rfl (ea_cons (vr 3 rfl) (ea_cons (vr 0 rfl) ea_nil)) ⟨_, _, rfl, rfl⟩ (by decide)))) (fun _ => (ew_or (eb_not (eb_val (ev_call D_is_index (hr.mono (by decide)) rfl (ea_cons (vr 4 rfl) (ea_cons (vr 0 rfl) ea_nil)) ⟨_, _, rfl, rfl⟩ (by decide)))) (fun _ => (ew_or1 (eb_eq (vr 3 rfl) (vr 4 rfl)))))))) (fun hc => ?_) (fun hc => ?_))
  · simp [d1, d2, d3] at hc
  refine x_nil ?_
  refine x_one (s_ret (EvB.v (ew_b (ew_and (eb_val (ev_all rfl (bs := d.2.2.map fun q => decide (q ∈ t)) (by
    rw [List.map_map]
    exact (en_p (en_lc rfl nd (lc_map (own := [("letter", 6)]) encL _ (ei_S (vr 5 rfl)) (by omega) (blkOk_by (by kernel_rfl)) (fun x hx => turn_map (by decide) (fun _ _ _ _ _ => (tg 6 nd)) (fun _ _ _ _ _ => (EvB.v (inS (vr 6 rfl) (vr 1 rfl) (by rfl))))))))) rfl rfl T.all)) (fun _ => (ew_and1 (eb_val (ev_all rfl (bs := t.map fun q => decide (q ∈ d.2.2)) (by
    rw [List.map_map]
    exact (en_p (en_lc rfl nd (lc_map (own := [("letter", 6)]) encL _ (ei_S (vr 1 rfl)) (by omega) (blkOk_by (by kernel_rfl)) (fun x hx => turn_map (by decide) (fun _ _ _ _ _ => (tg 6 nd)) (fun _ _ _ _ _ => (EvB.v (inS (vr 6 rfl) (vr 5 rfl) (by rfl))))))))) rfl rfl T.all))))))) ?_)
  show Res.val _ = Res.val _
  have e1 : ((d.2.2.map fun q => decide (q ∈ t)).all id) = true := by
    rw [List.all_map, List.all_eq_true]
    intro q hq
    have := d4 q hq
    rcases ht with rfl | rfl <;> simp <;> omega
  have e2 : ((t.map fun q => decide (q ∈ d.2.2)).all id) = true := by
    rcases ht with rfl | rfl <;> simp [d5, d6]
  first
    | rw [e1, e2]; rfl
    | skip

theorem sc33 : FnScope ["rooms", "doors", "labels", "first", "second", "_", "old", "new", "label"] ["rooms", "doors"] (defScope (topS 33)) := ⟨rfl, rfl, rfl, by decide +kernel, rfl, by decide +kernel, by decide +kernel⟩
def R_is_connected : List Dv → Res → Prop := fun ds res => ∃ (n : Nat) (dr : List Door), ds = [.int n, .tup (dr.map encDr)] ∧ 1 ≤ n ∧ n ≤ 100 ∧ EndsOk n dr ∧ ConnOk n dr ∧ res = .val (.bl true)
theorem d_is_connected (T : Txt K mg) : Df P w K mg base "_is_connected" 1 R_is_connected := by
  have nd := sc33.nd
  refine df_mk (T.fn 33 "_is_connected" rfl) sc33 _ (fun ds res h => by obtain ⟨n, dr, rfl, _⟩ := h; rfl) (fun _ _ _ _ _ _ us hl => match us, hl with | [_, _], _ => rfl) (fun f cdv A outer s H E hr tk hp ds res h => ?_)
  obtain ⟨n, dr, rfl, n1, n2, hE, ⟨c, hC⟩, rfl⟩ := h
  refine x_cons (st 2 nd (en_d (en_listRng rfl (vr 0 rfl) (by omega) rfl rfl (by rfl) T.list (by rfl) T.range)) ?_)
  refine x_cons (s_for (S := List Int) hp rfl (ei_tup (vr 1 rfl)) (fun ls => [.sh (.int n), .sh (.tup (dr.map encDr)), .sh (.lst (ls.map Dv.int)), .free, .free, .free, .free, .free, .free]) (fun i ls => ls = connRun n dr i) (rng n) rfl (by rw [rngD_rng]; walk_at "less") ?_ ?_)
  · intro i ls d hd hI
    obtain ⟨q, hq, rfl⟩ := map_get hd
    have hl := connRun_len n dr i
    rw [← hI] at hl
    have hm := hE q (List.mem_of_getElem? hq)
    have hx : ix dr (i : Int) = q := ix_of hq
    refine ⟨_, _, (ag_tup rfl (aw_cons (tg 3 nd) (aw_cons (tg 4 nd) (aw_cons (tg 5 nd) aw_nil)))), ?_⟩
    refine x_cons (s_asg (ev_tup (ea_cons (ixm (f := Dv.int) (ev_p (vr 2 rfl)) (vr 3 rfl) (by omega) (by omega)) (ea_cons (ixm (f := Dv.int) (ev_p (vr 2 rfl)) (vr 4 rfl) (by omega) (by omega)) ea_nil))) (ag_tup rfl (aw_cons (tg 6 nd) (aw_cons (tg 7 nd) aw_nil))) ?_)
    refine x_cons (s_setLc 2 rfl nd rfl rfl (sw_true rfl rfl rfl (by decide +kernel)) (lc_map (own := [("label", 8)]) Dv.int (fun l => Dv.int (if l = ix ls q.1 then ix ls q.2.1 else l)) (ei_list (vr 2 rfl)) (by omega) (blkOk_by (by kernel_rfl)) (fun x hx => turn_map (by decide) (fun _ _ _ _ _ => (tg 8 nd)) (fun _ _ _ _ _ => (ev_ifExp (eb_eq (vr 8 rfl) (vr 6 rfl)) (fun hc => ev_is (vr 7 rfl) (by rw [if_pos (of_decide_eq_true hc)])) (fun hc => ev_is (vr 8 rfl) (by rw [if_neg (of_decide_eq_false hc)])))))) ?_)
    refine x_frz 2 rfl ?_
    refine x_nil ⟨connRun n dr (i + 1), ?_, rfl⟩
    have e : connRun n dr (i + 1) = ls.map (fun l => if l = ix ls q.1 then ix ls q.2.1 else l) := by
      show connStep dr (connRun n dr i) i = _
      unfold connStep
      rw [← hI, hx]
    rw [e, List.map_map]
    walk_at "less"
  · intro ls hI
    have hI' : ls = connRun n dr dr.length := by rw [hI, List.length_map]
    have hl := connRun_len n dr dr.length
    rw [← hI'] at hl hC
    refine x_one (s_ret (EvB.v (eb_eq (ev_lenSetI (c := c) rfl (ev_p (vr 2 rfl)) hC (by intro e; rw [e] at hl; simp at hl; omega) (by omega) rfl rfl rfl T.len (by rfl) T.set) ev_int)) ?_)
    rfl
end
end DT

set_option Elab.async false
set_option linter.all false
set_option maxRecDepth 100000
namespace DT
open PySem PySem.Spec L2
open PyProof.Rows hiding St
open SX (S)
local macro_rules | `(tactic| walk_at "less") => `(tactic| repeat (first | exact DT.Less.nil | refine DT.Less.cons ?_ | refine DT.Less.free ?_))
section
variable {P : Program} {w : World} {K : PySem.W.Frag} {mg : Str → Option Value} {base : Heap}
def hoFs (n : Int) (dr : List Door) (t : List Nat) : List (Str × Dv) := [("rooms", .int n), ("doors", .tup (dr.map encDr)), ("trades", .str (S t))]
def stFs (hs : List Hand) (ps : List Int) : List (Str × Dv) := [("hands", .tup (hs.map encH)), ("places", .tup (ps.map Dv.int))]
structure HIn (n : Nat) (dr : List Door) (t : List Nat) : Prop where
  t : TwoT t
  n1 : 1 ≤ n
  n2 : n ≤ 100
  dl : dr.length ≤ 1000
  ok : ∀ d ∈ dr, DrOk n d
  cn : ConnOk n dr
def R_hinit : List Dv → List (Str × Dv) → Prop := fun ds fs => ∃ (n : Nat) (dr : List Door) (t : List Nat), ds = [.int n, .lst (dr.map encDr), .str (S t)] ∧ HIn n dr t ∧ fs = hoFs n dr t
theorem scH : FnScope ["self", "rooms", "doors", "trades", "door", "first", "second", "cycle"] ["self", "rooms", "doors", "trades"] (defScope (inClass (topS 34) 0)) := ⟨rfl, rfl, rfl, by decide +kernel, rfl, by decide +kernel, by decide +kernel⟩
theorem house_init (T : Txt K mg) {f : Addr} {fd : FuncData} (F : FunD K "__init__" "House.__init__" (defArgs (inClass (topS 34) 0)) (defBody (inClass (topS 34) 0)) (defScope (inClass (topS 34) 0)) [] [("trades", .str "RB")] f fd) :
    FnOk P w K mg base (L2.CX P w) 4 f fd ["self", "rooms", "doors", "trades"] (spIn K (clsA mg "House") R_hinit) := by
  have nd := scH.nd
  have D_are_trades := @d_are_trades P w K mg base T
  have D_is_door := @d_is_door P w K mg base T
  have D_is_connected := @d_is_connected P w K mg base T
  refine init_ok F scH R_hinit (fun ds fs h => by obtain ⟨n, dr, t, rfl, _⟩ := h; rfl) (fun cdv A outer s H E hr tk hp x ds fs h => ?_)
  obtain ⟨n, dr, t, rfl, hI, rfl⟩ := h
  have hc_ := T.ho.cl
  have hn1 := T.ho.no "rooms" (by simp)
  have hn2 := T.ho.no "doors" (by simp)
  have hn3 := T.ho.no "trades" (by simp)
  have a1 := hI.n1
  have a2 := hI.n2
  have a3 := hI.dl
  have ht : t.length = 2 := by rcases hI.t with rfl | rfl <;> rfl
  refine x_cons (s_self 0 rfl (vr 1 rfl) hc_ hn1 (by simp) ?_)
  refine x_cons (s_self 0 rfl (ev_tupleP (en_p (en_lc rfl nd (lc_map (own := [("first", 5), ("second", 6), ("cycle", 7)]) encDr encDr (ei_list (vr 2 rfl)) (by omega) (blkOk_by (by kernel_rfl)) (fun x hx => turn_map (by decide) (fun _ _ _ _ _ => (ag_tup rfl (aw_cons (tg 5 nd) (aw_cons (tg 6 nd) (aw_cons (tg 7 nd) aw_nil))))) (fun _ _ _ _ _ => (ev_tup (ea_cons (vr 5 rfl) (ea_cons (vr 6 rfl) (ea_cons (vr 7 rfl) ea_nil))))))))) rfl (by rfl) T.tuple) hc_ hn2 (by simp [putFd]) ?_)
  refine x_cons (s_self 0 rfl (vr 3 rfl) hc_ hn3 (by simp only [putFd]; split <;> simp) ?_)
  refine x_less (G' := [.slf x (clsA mg "House") (hoFs n dr t), .sh (.int n), .sh (.lst (dr.map encDr)), .sh (.str (S t)), .free, .free, .free, .free]) (by walk_at "less") ?_
  refine x_cons (s_if (t := false) (eb_is (ew_b (ew_or (eb_lt (vr 1 rfl) ev_int) (fun _ => (ew_or1 (eb_not (eb_val (ev_call D_are_trades (hr.mono (by decide)) rfl (ea_cons (vr 3 rfl) ea_nil) ⟨t, rfl, hI.t, rfl⟩ (by decide)))))))) (by simp; omega)) (fun hc => ?_) (fun hc => ?_))
  · cases hc
  refine x_nil ?_
  refine x_cons (s_for (S := Unit) hp rfl (ei_rng (n := dr.length) (ev_is (ev_lenT (ev_self (fs := hoFs n dr t) 0 rfl hc_ hn2 rfl) rfl rfl T.len) (by simp)) (by omega) rfl rfl T.range)
    (fun _ => [.slf x (clsA mg "House") (hoFs n dr t), .sh (.int n), .sh (.lst (dr.map encDr)), .sh (.str (S t)), .free, .free, .free, .free]) (fun i _ => True) () trivial (by walk_at "less") ?_ ?_)
  · intro i st d hd hI'
    obtain ⟨rfl, hi⟩ := rng_get hd
    refine ⟨_, _, (tg 4 nd), ?_⟩
    refine x_cons (s_if (t := false) (eb_is (eb_not (eb_val (ev_call D_is_door (hr.mono (by decide)) rfl (ea_cons (vr 1 rfl) (ea_cons (vr 3 rfl) (ea_cons (ixmT (f := encDr) (ev_self (fs := hoFs n dr t) 0 rfl hc_ hn2 rfl) (vr 4 rfl) (by omega) (by omega)) ea_nil))) ⟨n, t, _, rfl, hI.t, hI.ok _ (mem_ix (by omega) (by omega)), rfl⟩ (by decide)))) rfl) (fun hc => ?_) (fun hc => ?_))
    · cases hc
    exact x_nil (x_nil ⟨(), by walk_at "less", trivial⟩)
  · intro _ _
    refine x_cons (s_if (t := false) (eb_is (eb_not (eb_val (ev_call D_is_connected (hr.mono (by decide)) rfl (ea_cons (vr 1 rfl) (ea_cons (ev_self (fs := hoFs n dr t) 0 rfl hc_ hn2 rfl) ea_nil)) ⟨n, dr, rfl, a1, a2, DrOk.ends hI.ok, hI.cn, rfl⟩ (by decide)))) rfl) (fun hc => ?_) (fun hc => ?_))
    · cases hc
    exact x_nil (x_nil ⟨_, rfl⟩)
def R_sinit : List Dv → List (Str × Dv) → Prop := fun ds fs => ∃ (hs : List Hand) (ps : List Int), ds = [.lst (hs.map encH), .lst (ps.map Dv.int)] ∧ hs.length ≤ 1000 ∧ fs = stFs hs ps
theorem scSd : FnScope ["self", "hands", "places", "hand"] ["self", "hands", "places"] (defScope (inClass (topS 38) 0)) := ⟨rfl, rfl, rfl, by decide +kernel, rfl, by decide +kernel, by decide +kernel⟩
theorem standing_init (T : Txt K mg) {f : Addr} {fd : FuncData} (F : FunD K "__init__" "Standing.__init__" (defArgs (inClass (topS 38) 0)) (defBody (inClass (topS 38) 0)) (defScope (inClass (topS 38) 0)) [] [] f fd) :
    FnOk P w K mg base (L2.CX P w) 1 f fd ["self", "hands", "places"] (spIn K (clsA mg "Standing") R_sinit) := by
  have nd := scSd.nd
  refine init_ok F scSd R_sinit (fun ds fs h => by obtain ⟨hs, ps, rfl, _⟩ := h; rfl) (fun cdv A outer s H E hr tk hp x ds fs h => ?_)
  obtain ⟨hs, ps, rfl, hl, rfl⟩ := h
  have hc_ := T.sd.cl
  have hn1 := T.sd.no "hands" (by simp)
  have hn2 := T.sd.no "places" (by simp)
  refine x_cons (s_self 0 rfl (ev_tupleP (en_p (en_lc rfl nd (lc_map (own := [("hand", 3)]) encH encH (ei_list (vr 1 rfl)) (by omega) (blkOk_by (by kernel_rfl)) (fun x hx => turn_map (by decide) (fun _ _ _ _ _ => (tg 3 nd)) (fun _ _ _ _ _ => (ev_tupleT (vr 3 rfl) rfl (by rfl) T.tuple)))))) rfl (by rfl) T.tuple) hc_ hn1 (by simp) ?_)
  refine x_cons (s_self 0 rfl (ev_tupleP (ev_p (vr 2 rfl)) rfl (by rfl) T.tuple) hc_ hn2 (by simp [putFd]) ?_)
  exact x_nil ⟨_, rfl⟩
end
section
variable {X : Cx} {G : List Slot} {a b c : Expr} {pos p kp : Pos}
theorem bindsI {K : PySem.W.Frag} {f : Addr} {fd : FuncData} (F : FunD K "__init__" "House.__init__" (defArgs (inClass (topS 34) 0)) (defBody (inClass (topS 34) 0)) (defScope (inClass (topS 34) 0)) [] [("trades", .str "RB")] f fd) : ∃ ds, Vals [V.str "RB"] ds ∧ Binds K fd ["self", "rooms", "doors", "trades"] ds :=
  F.binds0 3 (by simp) rfl fun D doc pm an cdv ct us ks hl hk => by
    match us, hl, ks, hk with
    | [_, _, _], _, [_], _ => exact ⟨_, _, _, _, _, _, rfl, rfl, rfl⟩
theorem ev_house {n : Nat} {dr : List Door} (T : Txt X.K X.mg) (hr : Room 5 X.A) (ha : EvA X G [a, b] [.int n, .lst (dr.map encDr)]) (hI : HIn n dr [82, 66]) (hg : Gl X "House" := by rfl)
    (he : starEach [a, b] X.env = (false, eval a X.env) :: starEach [b] X.env := by rfl) (hpl : (backTo pos (starEach [b] X.env)).any (·.1) = false := by rfl) :
    EvD X G (.Call (.Name "House" p) [a, b] [] pos) (encHo X.mg n dr [82, 66]) := by
  obtain ⟨f, fd, M, F⟩ := T.ho.mkI
  obtain ⟨ds, rk, hB⟩ := bindsI F
  exact ev_make M (house_init T F) hr hg T.ho.at_ hB rk (fun B => .cons (.str _) .nil) ha ⟨n, dr, [82, 66], rfl, hI, rfl⟩ (by decide) he hpl
theorem ev_standing {hs : List Hand} {ps : List Int} (T : Txt X.K X.mg) (hr : Room 2 X.A) (ha : EvA X G [a, b] [.lst (hs.map encH), .lst (ps.map Dv.int)]) (hl : hs.length ≤ 1000) (hg : Gl X "Standing" := by rfl)
    (he : starEach [a, b] X.env = (false, eval a X.env) :: starEach [b] X.env := by rfl) (hpl : (backTo pos (starEach [b] X.env)).any (·.1) = false := by rfl) :
    EvD X G (.Call (.Name "Standing" p) [a, b] [] pos) (encSt X.mg hs ps) := by
  obtain ⟨f, fd, M, F⟩ := T.sd.mkI
  exact ev_make (dus := []) (dvs := []) (dds := []) M (standing_init T F) hr hg T.sd.at_ (F.bindsN fun _ _ _ _ _ _ us hl => match us, hl with | [_, _, _], _ => rfl) .nil (fun B => .nil) ha ⟨hs, ps, rfl, hl, rfl⟩ (by decide) he hpl
theorem kbI {K : PySem.W.Frag} {f : Addr} {fd : FuncData} (F : FunD K "__init__" "House.__init__" (defArgs (inClass (topS 34) 0)) (defBody (inClass (topS 34) 0)) (defScope (inClass (topS 34) 0)) [] [("trades", .str "RB")] f fd) :
    ∃ mv : List Value, KBn K fd ["self", "rooms", "doors", "trades"] 3 ["trades"] (fun us ws => us ++ ws) (fun vs zs => vs ++ zs) := by
  obtain ⟨mv, h⟩ := F.kbinds0 (ps := ["self", "rooms", "doors", "trades"]) 3 ["trades"] [] (fun us mz ws => us ++ ws) (by simp) (by simp) (fun r1 _ r3 => r1.append r3) fun D doc pm an cdv ct us mv ws hl h0 hk => by
    match us, hl, ws, hk, mv, h0 with
    | [_, _, _], _, [_], _, [], _ => exact rfl
  exact ⟨mv, h⟩
theorem ev_houseK {n : Nat} {dr : List Door} {t : List Nat} (T : Txt X.K X.mg) (hr : Room 5 X.A) (hab : EvA X G [a, b] [.int n, .lst (dr.map encDr)]) (hc : EvD X G c (.str (S t))) (hI : HIn n dr t) (hg : Gl X "House" := by rfl)
    (hall : (backToKw pos (keywordEach [⟨some "trades", c, kp⟩] X.env)).all (·.1.isSome) = true := by rfl) (hks : (backToKw pos (keywordEach [⟨some "trades", c, kp⟩] X.env)).filterMap (·.1) = (["trades"] : List Str) := by rfl)
    (he : starEach [a, b] X.env = (false, eval a X.env) :: starEach [b] X.env := by rfl) (hpl : ((backTo pos (starEach [a, b] X.env)).any (·.1) || (backToKw pos (keywordEach [⟨some "trades", c, kp⟩] X.env)).any (·.1.isNone)) = false := by rfl) :
    EvD X G (.Call (.Name "House" p) [a, b] [⟨some "trades", c, kp⟩] pos) (encHo X.mg n dr t) := fun B0 H0 B H sg Q fr q => by
  obtain ⟨f, fd, M, F⟩ := T.ho.mkI
  obtain ⟨mv, hB⟩ := kbI F
  refine PE.w (pe_makeK (E := fun _ _ _ => False) M (house_init T F) hr hg T.ho.at_ hB passL pa_w (pk_cons pe_w pk_nil) hall hks (by decide) he hpl) ?_
  refine hab B0 H0 B H sg _ fr fun vs B1 H1 g1 r1 => ?_
  refine hc B0 H0 B1 H1 sg _ (fr.mono g1) fun v B2 H2 g2 r2 => ?_
  refine ⟨by rw [r1.length]; rfl, rfl, fun xx dx nx ndx nex => ?_⟩
  have sB : Same B2 (upd (upd H2 dx (.own xx)) xx (.ins (clsA X.mg "House") dx [])) := (g2.s.trans (same_new ndx)).trans (same_new (by rw [upd_ne (Ne.symm nex)]; exact nx))
  refine ⟨B2, xx, dx, vs ++ [v], [.int n, .lst (dr.map encDr), .str (S t)], hoFs n dr t, rfl, sB, g2.s.free nx, upd_same, (r1.up g2.b).append (.cons r2 .nil), ⟨n, dr, t, rfl, hI, rfl⟩, fun B3 H3 dx' gs g3 b3 h3 r3 => ⟨rfl, ?_⟩⟩
  obtain ⟨g4, r4⟩ := made_end g2.s nx g3 ndx b3 h3 r3
  exact q _ _ _ ((g1.trans g2).trans g4) r4
end
end DT

set_option Elab.async false
set_option linter.all false
set_option maxRecDepth 100000
namespace DT
open PySem PySem.Spec L2
open PyProof.Rows hiding St
open SX (S)
local macro_rules | `(tactic| walk_at "less") => `(tactic| repeat (first | exact DT.Less.nil | refine DT.Less.cons ?_ | refine DT.Less.free ?_))
/-! ### mirrors -/
def cellM (ns : List Int) (k : Int) : Int := if k < ns.length then ix ns k else 0
def mixM (c : Int) (k : Nat) : Int :=
  ((((c + 7919 * (k : Int) + 13) % 2147483647) * (((c + 7919 * (k : Int) + 13) % 2147483647) + 48271)) % 2147483629 * ((((c + 7919 * (k : Int) + 13) % 2147483647) * (((c + 7919 * (k : Int) + 13) % 2147483647) + 48271)) % 2147483629 + 69621) + 31 * (k : Int)) % 2147483647
def rowStep (c : Int) (sizes : List Int) (st : List Int × Int) (k : Nat) : List Int × Int :=
  if 10 ^ 18 ≤ c then (st.1 ++ [st.2 % ix sizes k], st.2 / ix sizes k) else (st.1 ++ [(mixM c k / 9) % ix sizes k], st.2)
def rowRun (c : Int) (sizes : List Int) (k : Nat) : List Int × Int := iter (rowStep c sizes) ([], c - 10 ^ 18) k
def rowM (c : Int) (sizes : List Int) : List Int := (rowRun c sizes sizes.length).1
def SzOk (sizes : List Int) : Prop := (∀ s ∈ sizes, 0 < s ∧ s < 2 ^ 64) ∧ sizes.length < 1000
theorem rowRun_len (c : Int) (sizes : List Int) : ∀ k, (rowRun c sizes k).1.length = k
  | 0 => rfl
  | k + 1 => by
    have ih := rowRun_len c sizes k
    show (rowStep c sizes (rowRun c sizes k) k).1.length = k + 1
    unfold rowStep
    split <;> simp [ih]
theorem ix_app {α : Type} [Inhabited α] {xs : List α} {y : α} {i : Nat} (h : i < xs.length) : ix (xs ++ [y]) i = ix xs i := by
  unfold ix
  rw [List.getD_eq_getElem?_getD, List.getD_eq_getElem?_getD, List.getElem?_append_left (by simpa using h)]
theorem ix_last {α : Type} [Inhabited α] {xs : List α} {y : α} {i : Nat} (h : i = xs.length) : ix (xs ++ [y]) i = y := by
  subst h
  unfold ix
  rw [List.getD_eq_getElem?_getD]
  simp
theorem rowRun_bd (c : Int) (sizes : List Int) (h : SzOk sizes) : ∀ k, k ≤ sizes.length → ∀ i : Nat, i < k → 0 ≤ ix (rowRun c sizes k).1 i ∧ ix (rowRun c sizes k).1 i < ix sizes i
  | 0, _, i, hi => by omega
  | k + 1, hk, i, hi => by
    have ih := rowRun_bd c sizes h k (by omega)
    have hl := rowRun_len c sizes k
    have hs := h.1 _ (mem_ix (xs := sizes) (k := (k : Int)) (by omega) (by omega))
    show 0 ≤ ix (rowStep c sizes (rowRun c sizes k) k).1 i ∧ ix (rowStep c sizes (rowRun c sizes k) k).1 i < _
    unfold rowStep
    by_cases e : i = k
    · subst e
      split
      · rw [ix_last hl.symm]; exact ⟨Int.emod_nonneg _ (by omega), Int.emod_lt_of_pos _ hs.1⟩
      · rw [ix_last hl.symm]; exact ⟨Int.emod_nonneg _ (by omega), Int.emod_lt_of_pos _ hs.1⟩
    · have := ih i (by omega)
      split
      · rw [ix_app (by omega)]; exact this
      · rw [ix_app (by omega)]; exact this
theorem rowM_len (c : Int) (sizes : List Int) : (rowM c sizes).length = sizes.length := rowRun_len c sizes _
theorem rowM_bd (c : Int) (sizes : List Int) (h : SzOk sizes) (i : Int) (h0 : 0 ≤ i) (h1 : i < sizes.length) : 0 ≤ ix (rowM c sizes) i ∧ ix (rowM c sizes) i < ix sizes i := by
  have := rowRun_bd c sizes h sizes.length (Nat.le_refl _) i.toNat (by omega)
  rw [Int.toNat_of_nonneg h0] at this
  exact this
def oddM (row : List Int) (at_ : Int) : List Nat := if ix row (at_ + 1) % 2 = 0 then [82, 66] else [66, 82]
section
variable {P : Program} {w : World} {K : PySem.W.Frag} {mg : Str → Option Value} {base : Heap}
theorem sc60 : FnScope ["_law_script", "_law_k"] ["_law_script", "_law_k"] (defScope (topS 60)) := ⟨rfl, rfl, rfl, by decide +kernel, rfl, by decide +kernel, by decide +kernel⟩
def R_cell : List Dv → Res → Prop := fun ds res => ∃ (ns : List Int) (k : Int), ds = [.scr ns, .int k] ∧ 0 ≤ k ∧ res = .val (.int (cellM ns k))
theorem d_cell (T : Txt K mg) : Df P w K mg base "_law_cell" 1 R_cell := by
  have nd := sc60.nd
  refine df_mk (T.fn 60 "_law_cell" rfl) sc60 _ (fun ds res h => by obtain ⟨ns, k, rfl, _, rfl⟩ := h; rfl) (fun _ _ _ _ _ _ us hl => match us, hl with | [_, _], _ => rfl) (fun f cdv A outer s H E hr tk hp ds res h => ?_)
  obtain ⟨ns, k, rfl, h0, rfl⟩ := h
  refine x_cons (s_if (eb_lt (vr 1 rfl) (ev_lenR (vr 0 rfl) rfl rfl T.len)) (fun hc => ?_) (fun hc => ?_))
  · have hc' := of_decide_eq_true hc
    exact x_one (s_ret (ev_is (ev_ixR (vr 0 rfl) (vr 1 rfl) h0 (ix_get h0 hc') (fun _ _ => rfl)) (by unfold cellM; rw [if_pos hc'])) rfl)
  refine x_nil ?_
  have hc' := of_decide_eq_false hc
  exact x_one (s_ret (ev_is ev_int (by unfold cellM; rw [if_neg hc'])) rfl)

theorem sc61 : FnScope ["_law_cell_here", "_law_sizes", "_law_row_here", "_law_rest", "_law_k", "_law_mixed"] ["_law_cell_here", "_law_sizes"] (defScope (topS 61)) := ⟨rfl, rfl, rfl, by decide +kernel, rfl, by decide +kernel, by decide +kernel⟩
def R_row : List Dv → Res → Prop := fun ds res => ∃ (c : Int) (sizes : List Int), ds = [.int c, .lst (sizes.map Dv.int)] ∧ SzOk sizes ∧ res = .val (.lst ((rowM c sizes).map Dv.int))
theorem d_row (T : Txt K mg) : Df P w K mg base "_law_row" 1 R_row := by
  have nd := sc61.nd
  refine df_mk (T.fn 61 "_law_row" rfl) sc61 _ (fun ds res h => by obtain ⟨c, sizes, rfl, _, rfl⟩ := h; rfl) (fun _ _ _ _ _ _ us hl => match us, hl with | [_, _], _ => rfl) (fun f cdv A outer s H E hr tk hp ds res h => ?_)
  obtain ⟨c, sizes, rfl, hS, rfl⟩ := h
  have hsl := hS.2
  refine x_cons (stN 2 nd (en_lst ea_nil) ?_)
  refine x_cons (DT.st 3 nd (ev_sub (vr 0 rfl) (ev_pow ev_int ev_int ⟨by decide, by decide, by decide⟩)) ?_)
  refine x_cons (s_for (S := List Int × Int) hp rfl (ei_rng (n := sizes.length) (ev_is (ev_lenP (ev_p (vr 1 rfl)) rfl rfl T.len) (by simp)) (by omega) rfl rfl T.range) (fun st => [.sh (.int c), .sh (.lst (sizes.map Dv.int)), .own (st.1.map Dv.int), .sh (.int st.2), .free, .free]) (fun i st => st = rowRun c sizes i) ([], c - 10 ^ 18) rfl (by walk_at "less") ?_ ?_)
  · intro i st d hd hI
    obtain ⟨rfl, hi⟩ := rng_get hd
    have hs := hS.1 _ (mem_ix (xs := sizes) (k := (i : Int)) (by omega) (by omega))
    have hl := rowRun_len c sizes i
    rw [← hI] at hl
    have hdv : CDivW st.2 (ix sizes i) := ⟨hs.1, by
      have h1 : (ix sizes i).natAbs < 2 ^ 64 := by omega
      have h2 := (Nat.log2_lt (n := (ix sizes i).natAbs) (k := 64) (by omega)).mpr h1
      omega⟩
    have hd9 : ∀ x : Int, CDivW x 9 := fun x => ⟨by decide, by decide +kernel⟩
    have hnx : rowRun c sizes (i + 1) = rowStep c sizes st i := by rw [hI]; rfl
    refine ⟨_, _, (tg 4 nd), ?_⟩
    refine x_cons (s_if (eb_ge (vr 0 rfl) (ev_pow ev_int ev_int ⟨by decide, by decide, by decide⟩)) (fun hc => ?_) (fun hc => ?_))
    · have hc' : (10 : Int) ^ 18 ≤ c := of_decide_eq_true hc
      refine x_cons (app 2 rfl (ev_mod (ev_intI (vr 3 rfl) rfl rfl T.int) (ixm (f := Dv.int) (ev_p (vr 1 rfl)) (vr 4 rfl) (by omega) (by omega)) (by omega)) (by rw [List.length_map]; omega) ?_)
      refine x_cons (DT.st 3 nd (ev_fdiv (vr 3 rfl) (ixm (f := Dv.int) (ev_p (vr 1 rfl)) (vr 4 rfl) (by omega) (by omega)) hdv) ?_)
      refine x_nil (x_nil ⟨_, ?_, hnx.symm⟩)
      unfold rowStep
      rw [if_pos hc', List.map_append]
      walk_at "less"
    · have hc' : ¬ (10 : Int) ^ 18 ≤ c := of_decide_eq_false hc
      refine x_cons (DT.st 5 nd (ev_mod (ev_intI (ev_add (ev_add (vr 0 rfl) (ev_mul ev_int (vr 4 rfl) (.inl (by omega)))) ev_int) rfl rfl T.int) ev_int (by omega)) ?_)
      have b1 := Int.emod_lt_of_pos (c + 7919 * (i : Int) + 13) (show (0 : Int) < 2147483647 by decide)
      have b2 := Int.emod_nonneg (c + 7919 * (i : Int) + 13) (show (2147483647 : Int) ≠ 0 by decide)
      refine x_cons (DT.st 5 nd (ev_mod (ev_intI (ev_mul (vr 5 rfl) (ev_add (vr 5 rfl) ev_int) (.inl (by omega))) rfl rfl T.int) ev_int (by omega)) ?_)
      have b3 := Int.emod_lt_of_pos ((c + 7919 * (i : Int) + 13) % 2147483647 * ((c + 7919 * (i : Int) + 13) % 2147483647 + 48271)) (show (0 : Int) < 2147483629 by decide)
      have b4 := Int.emod_nonneg ((c + 7919 * (i : Int) + 13) % 2147483647 * ((c + 7919 * (i : Int) + 13) % 2147483647 + 48271)) (show (2147483629 : Int) ≠ 0 by decide)
      refine x_cons (DT.st 5 nd (ev_mod (ev_intI (ev_add (ev_mul (vr 5 rfl) (ev_add (vr 5 rfl) ev_int) (.inl ⟨by omega, by omega⟩)) (ev_mul ev_int (vr 4 rfl) (.inl (by omega)))) rfl rfl T.int) ev_int (by omega)) ?_)
      refine x_cons (app 2 rfl (ev_mod (ev_intI (ev_fdiv (vr 5 rfl) ev_int (hd9 _)) rfl rfl T.int) (ixm (f := Dv.int) (ev_p (vr 1 rfl)) (vr 4 rfl) (by omega) (by omega)) (by omega)) (by rw [List.length_map]; omega) ?_)
      refine x_nil (x_nil ⟨_, ?_, hnx.symm⟩)
      unfold rowStep mixM
      rw [if_neg hc', List.map_append]
      walk_at "less"
  · intro st hI
    refine x_frz 2 rfl ?_
    refine x_one (s_ret (vr 2 rfl) ?_)
    show Res.val _ = Res.val _
    rw [hI, rng_len]
    rfl

theorem sc62 : FnScope ["_law_row_here", "_law_at", "_law_longest", "_law_size", "_law_letters", "_law_k", "_law_tails"] ["_law_row_here", "_law_at", "_law_longest"] (defScope (topS 62)) := ⟨rfl, rfl, rfl, by decide +kernel, rfl, by decide +kernel, by decide +kernel⟩
def R_odd : List Dv → Res → Prop := fun ds res => ∃ (row : List Int) (k : Int), ds = [.lst (row.map Dv.int), .int k, .int 2] ∧ 0 ≤ k ∧ k + 1 < row.length ∧ res = .val (.str (S (oddM row k)))
theorem d_odd (T : Txt K mg) : Df P w K mg base "_law_odd_cycle" 1 R_odd := by
  have nd := sc62.nd
  refine df_mk (T.fn 62 "_law_odd_cycle" rfl) sc62 _ (fun ds res h => by obtain ⟨row, k, rfl, _, _, rfl⟩ := h; rfl) (fun _ _ _ _ _ _ us hl => match us, hl with | [_, _, _], _ => rfl) (fun f cdv A outer s H E hr tk hp ds res h => ?_)
  obtain ⟨row, k, rfl, h0, h1, rfl⟩ := h
  have e1 : ∀ x : Int, 2 + 2 * (x % (2 / 2)) = 2 := fun x => by omega
  refine x_cons (DT.st 3 nd (ev_is (ev_add ev_int (ev_mul ev_int (ev_intI (ev_mod (ixm (f := Dv.int) (ev_p (vr 0 rfl)) (vr 1 rfl) (by omega) (by omega)) (ev_fdiv (vr 2 rfl) ev_int ⟨by decide, by decide +kernel⟩) (by decide)) rfl rfl T.int) (.inl (by decide)))) (congrArg Dv.int (e1 _))) ?_)
  refine x_cons (DT.st 4 nd (cs []) ?_)
  refine x_cons (s_for (S := Unit) hp rfl (ei_rng (n := 0) (ev_is (ev_sub (vr 3 rfl) ev_int) rfl) (by decide) rfl rfl T.range) (fun st => [.sh (.lst (row.map Dv.int)), .sh (.int k), .sh (.int 2), .sh (.int 2), .sh (.str (S [])), .free, .free]) (fun i st => True) () trivial (by walk_at "less") ?_ ?_)
  · intro i st d hd hI
    obtain ⟨rfl, hi⟩ := rng_get hd
    omega
  · intro st hI
    refine x_cons (DT.st 6 nd (en_d (en_lst (ea_cons (cs [82, 66]) (ea_cons (cs [66, 82]) ea_nil)))) ?_)
    refine x_cons (s_if (t := false) (eb_is (eb_eq (ev_mod (ev_countS (vr 4 rfl) rfl (cs [82])) ev_int (by omega)) ev_int) (by decide +kernel)) (fun hc => ?_) (fun hc => ?_))
    · cases hc
    refine x_nil ?_
    have b1 := Int.emod_lt_of_pos (ix row (k + 2 - 1)) (show (0 : Int) < 2 by decide)
    have b2 := Int.emod_nonneg (ix row (k + 2 - 1)) (show (2 : Int) ≠ 0 by decide)
    have e2 : ix ([[82, 66], [66, 82]] : List (List Nat)) (ix row (k + 2 - 1) % 2) = oddM row k := by
      unfold oddM
      have e3 : k + 2 - 1 = k + 1 := by omega
      rw [e3] at b1 b2 ⊢
      by_cases hz : ix row (k + 1) % 2 = 0
      · rw [if_pos hz, hz]; rfl
      · rw [if_neg hz, show ix row (k + 1) % 2 = 1 by omega]; rfl
    refine x_one (s_ret (addS (y := oddM row k) (vr 4 rfl) (ev_is (ixm (xs := ([[82, 66], [66, 82]] : List (List Nat))) (f := fun l => Dv.str (S l)) (ev_p (vr 6 rfl)) (ev_mod (ixm (f := Dv.int) (ev_p (vr 0 rfl)) (ev_sub (ev_add (vr 1 rfl) (vr 2 rfl)) ev_int) (by omega) (by omega)) ev_int (by omega)) b2 (by simpa using b1)) (by rw [e2])) ?_) rfl)
    unfold oddM
    split <;> decide

theorem sc63 : FnScope ["_law_row_here", "_law_at", "_law_longest", "_law_size", "_law_letters", "_law_k"] ["_law_row_here", "_law_at", "_law_longest"] (defScope (topS 63)) := ⟨rfl, rfl, rfl, by decide +kernel, rfl, by decide +kernel, by decide +kernel⟩
theorem d_any (T : Txt K mg) : Df P w K mg base "_law_any_cycle" 1 R_odd := by
  have nd := sc63.nd
  refine df_mk (T.fn 63 "_law_any_cycle" rfl) sc63 _ (fun ds res h => by obtain ⟨row, k, rfl, _, _, rfl⟩ := h; rfl) (fun _ _ _ _ _ _ us hl => match us, hl with | [_, _, _], _ => rfl) (fun f cdv A outer s H E hr tk hp ds res h => ?_)
  obtain ⟨row, k, rfl, h0, h1, rfl⟩ := h
  have e1 : ∀ x : Int, 2 + x % (2 - 1) = 2 := fun x => by omega
  refine x_cons (DT.st 3 nd (ev_is (ev_add ev_int (ev_intI (ev_mod (ixm (f := Dv.int) (ev_p (vr 0 rfl)) (vr 1 rfl) (by omega) (by omega)) (ev_sub (vr 2 rfl) ev_int) (by decide)) rfl rfl T.int)) (congrArg Dv.int (e1 _))) ?_)
  refine x_cons (DT.st 4 nd (cs []) ?_)
  have b1 := Int.emod_lt_of_pos (ix row (k + 1 + 0)) (show (0 : Int) < 2 by decide)
  have b2 := Int.emod_nonneg (ix row (k + 1 + 0)) (show (2 : Int) ≠ 0 by decide)
  refine x_cons (s_for (S := List Nat) hp rfl (ei_rng (n := 1) (ev_is (ev_sub (vr 3 rfl) ev_int) rfl) (by decide) rfl rfl T.range) (fun st => [.sh (.lst (row.map Dv.int)), .sh (.int k), .sh (.int 2), .sh (.int 2), .sh (.str (S st)), .free]) (fun i st => st = if i = 0 then [] else [ix [82, 66] (ix row (k + 1 + 0) % 2)]) [] rfl (by walk_at "less") ?_ ?_)
  · intro i st d hd hI
    obtain ⟨rfl, hi⟩ := rng_get hd
    have hi0 : i = 0 := by omega
    subst hi0
    rw [if_pos rfl] at hI
    subst hI
    refine ⟨_, _, (tg 5 nd), ?_⟩
    refine x_cons (DT.st 4 nd (addS (vr 4 rfl) (ixS (cs [82, 66]) (ev_mod (ixm (f := Dv.int) (ev_p (vr 0 rfl)) (ev_add (ev_add (vr 1 rfl) ev_int) (vr 5 rfl)) (by omega) (by omega)) ev_int (by omega)) (by decide) b2 (by simpa using b1)) (by simp)) ?_)
    exact x_nil ⟨_, (by walk_at "less"), rfl⟩
  · intro st hI
    have hI' : st = [ix [82, 66] (ix row (k + 1) % 2)] := by
      rw [hI, rng_len]
      simp
    by_cases hz : ix row (k + 1) % 2 = 0
    · rw [hz] at hI'
      have hst : st = [82] := hI'
      subst hst
      refine x_cons (s_if (t := false) (eb_is (eb_eq (ev_countS (vr 4 rfl) rfl (cs [82])) ev_int) (by decide +kernel)) (fun hc => ?_) (fun hc => ?_))
      · cases hc
      refine x_nil ?_
      refine x_cons (s_if (t := true) (eb_is (eb_eq (ev_countS (vr 4 rfl) rfl (cs [66])) ev_int) (by decide +kernel)) (fun hc => ?_) (fun hc => ?_))
      · refine x_one (s_ret (addS (vr 4 rfl) (cs [66]) (by decide)) ?_)
        show Res.val _ = Res.val _
        unfold oddM
        rw [if_pos hz]; rfl
      · cases hc
    · have hz1 : ix row (k + 1) % 2 = 1 := by
        rw [Int.add_zero] at b1 b2; omega
      rw [hz1] at hI'
      have hst : st = [66] := hI'
      subst hst
      refine x_cons (s_if (t := true) (eb_is (eb_eq (ev_countS (vr 4 rfl) rfl (cs [82])) ev_int) (by decide +kernel)) (fun hc => ?_) (fun hc => ?_))
      · refine x_one (s_ret (addS (vr 4 rfl) (cs [82]) (by decide)) ?_)
        show Res.val _ = Res.val _
        unfold oddM
        rw [if_neg hz]; rfl
      · cases hc
end
end DT

set_option Elab.async false
set_option linter.all false
set_option maxRecDepth 100000
namespace DT
open PySem PySem.Spec L2
open PyProof.Rows hiding St
open SX (S)
local macro_rules | `(tactic| walk_at "less") => `(tactic| repeat (first | exact DT.Less.nil | refine DT.Less.cons ?_ | refine DT.Less.free ?_))
/-! ### mirrors -/
def hsz1 : List Int := [6, 1, 1, 2, 3, 4, 5, 6]
def hszB : List Int := [6, 6, 2, 6, 60, 2, 2]
def hszN : Nat → List Int
  | 0 => hsz1
  | k + 1 => hszN k ++ hszB
def hsz : List Int := hszN 5
def insAt {α : Type} (l : List α) (i : Int) (x : α) : List α := l.take i.toNat ++ [x] ++ l.drop i.toNat
def nameStep (row : List Int) (l : List Int) (k : Nat) : List Int := insAt l (ix row (2 + (k : Int))) (k : Int)
def namesM (row : List Int) (n : Nat) : List Int := iter (nameStep row) [] n
def newDoor (row names : List Int) (k : Nat) : Door :=
  if ix row (8 + (k : Int) * 7 + 2) = 1 then (ix names ((k : Int) + 1), ix names (ix row (8 + (k : Int) * 7) % ((k : Int) + 1)), oddM row (8 + (k : Int) * 7 + 4))
  else (ix names (ix row (8 + (k : Int) * 7) % ((k : Int) + 1)), ix names ((k : Int) + 1), oddM row (8 + (k : Int) * 7 + 4))
def doorStep (row names : List Int) (l : List Door) (k : Nat) : List Door := insAt l (ix row (8 + (k : Int) * 7 + 3) % ((l.length : Int) + 1)) (newDoor row names k)
def doorsM (row : List Int) (n : Nat) : List Door := iter (doorStep row (namesM row n)) [] (n - 1)
def roomsM (row : List Int) : Nat := (1 + ix row 0).toNat
def houseM (c : Int) : Nat × List Door := (roomsM (rowM c hsz), doorsM (rowM c hsz) (roomsM (rowM c hsz)))
theorem insAt_len {α : Type} (l : List α) (i : Int) (x : α) : (insAt l i x).length = l.length + 1 := by
  unfold insAt
  simp
  omega
theorem insAt_map {α β : Type} (f : α → β) (l : List α) (i : Int) (x : α) : (l.map f).take i.toNat ++ [f x] ++ (l.map f).drop i.toNat = (insAt l i x).map f := by
  unfold insAt
  rw [List.map_append, List.map_append, List.map_take, List.map_drop]
  rfl
theorem namesM_len (row : List Int) : ∀ n, (namesM row n).length = n
  | 0 => rfl
  | n + 1 => by
    show (nameStep row (namesM row n) n).length = n + 1
    unfold nameStep
    rw [insAt_len, namesM_len row n]
theorem doorsIt_len (row names : List Int) : ∀ k, (iter (doorStep row names) [] k).length = k
  | 0 => rfl
  | k + 1 => by
    show (doorStep row names (iter (doorStep row names) [] k) k).length = k + 1
    exact (insAt_len _ _ _).trans (congrArg (· + 1) (doorsIt_len row names k))
theorem hsz_len : hsz.length = 43 := by decide
theorem hsz_ok : SzOk hsz := ⟨by decide, by decide⟩
/-- the sizes of a house's row -/
theorem hsz_at (k : Nat) (hk : k < 5) : ix hsz (8 + (k : Int) * 7) = 6 ∧ ix hsz (8 + (k : Int) * 7 + 2) = 2 ∧ ix hsz (8 + (k : Int) * 7 + 3) = 6 ∧ ix hsz (8 + (k : Int) * 7 + 5) = 2 := by
  have : k = 0 ∨ k = 1 ∨ k = 2 ∨ k = 3 ∨ k = 4 := by omega
  rcases this with rfl | rfl | rfl | rfl | rfl <;> decide
theorem hsz_nm (k : Nat) (hk : k < 6) : ix hsz (2 + (k : Int)) = (k : Int) + 1 := by
  have : k = 0 ∨ k = 1 ∨ k = 2 ∨ k = 3 ∨ k = 4 ∨ k = 5 := by omega
  rcases this with rfl | rfl | rfl | rfl | rfl | rfl <;> decide
theorem roomsM_bd (c : Int) : 1 ≤ roomsM (rowM c hsz) ∧ roomsM (rowM c hsz) ≤ 6 ∧ (roomsM (rowM c hsz) : Int) = 1 + ix (rowM c hsz) 0 := by
  have h := rowM_bd c hsz hsz_ok 0 (by decide) (by decide)
  have e : ix hsz 0 = 6 := by decide
  rw [e] at h
  unfold roomsM
  omega
section
variable {P : Program} {w : World} {K : PySem.W.Frag} {mg : Str → Option Value} {base : Heap}
theorem sc64 : FnScope ["_law_cell_here", "_law_most", "_law_extra", "_law_longest", "_law_odd", "_law_k", "_law_sizes", "_law_wide", "_law_row_here", "_law_rooms", "_law_many", "_law_names", "_law_doors", "_law_at", "_law_far", "_law_near", "_law_cycle"] ["_law_cell_here", "_law_most", "_law_extra", "_law_longest", "_law_odd"] (defScope (topS 64)) := ⟨rfl, rfl, rfl, by decide +kernel, rfl, by decide +kernel, by decide +kernel⟩
def encHs (h : Nat × List Door) : Dv := .tup [.int h.1, .lst (h.2.map encDr)]
def R_house : List Dv → Res → Prop := fun ds res => ∃ (c : Int), ds = [.int c, .int 6, .int 0, .int 2, .bl true] ∧ res = .val (encHs (houseM c))
theorem d_house (T : Txt K mg) : Df P w K mg base "_law_house" 2 R_house := by
  have nd := sc64.nd
  have D_row := @d_row P w K mg base T
  have D_any := @d_any P w K mg base T
  have D_odd := @d_odd P w K mg base T
  refine df_mk (T.fn 64 "_law_house" rfl) sc64 _ (fun ds res h => by obtain ⟨c, rfl, rfl⟩ := h; rfl) (fun _ _ _ _ _ _ us hl => match us, hl with | [_, _, _, _, _], _ => rfl) (fun f cdv A outer s H E hr tk hp ds res h => ?_)
  obtain ⟨c, rfl, rfl⟩ := h
  refine x_cons (DT.st 6 nd (d := .lst (hsz1.map Dv.int)) (ev_is (en_d (en_cat (en_p (en_lst (ea_cons (vr 1 rfl) (ea_cons (ev_add (vr 2 rfl) ev_int) ea_nil)))) (en_p (en_lc rfl nd (lc_map (own := [("_law_k", 5)]) (xs := List.range 6) (fun i : Nat => Dv.int (i : Int)) (fun i : Nat => Dv.int ((i : Int) + 1)) (ei_rng (n := 6) (vr 1 rfl) (by decide) rfl rfl T.range) (by decide) (blkOk_by (by kernel_rfl)) (fun x hx => turn_map (by decide) (fun _ _ _ _ _ => (tg 5 nd)) (fun _ _ _ _ _ => (ev_add (vr 5 rfl) ev_int)))))) (by decide))) (by rfl)) ?_)
  refine x_cons (DT.st 7 nd (d := .int 7) (ev_is (ev_add (ev_add ev_int (vr 3 rfl)) ev_int) rfl) ?_)
  refine x_cons (s_for (S := List Int) hp rfl (ei_rng (n := 5) (ev_is (ev_add (ev_sub (vr 1 rfl) ev_int) (vr 2 rfl)) rfl) (by decide) rfl rfl T.range) (fun l => [.sh (.int c), .sh (.int 6), .sh (.int 0), .sh (.int 2), .sh (.bl true), .free, .sh (.lst (l.map Dv.int)), .sh (.int 7), .free, .free, .free, .free, .free, .free, .free, .free, .free]) (fun i l => l = hszN i ∧ l.length ≤ 8 + 7 * i) hsz1 ⟨rfl, by decide⟩ (by walk_at "less") ?_ ?_)
  · intro i l d hd hI
    obtain ⟨rfl, hi⟩ := rng_get hd
    obtain ⟨hI, hll⟩ := hI
    refine ⟨_, _, (tg 5 nd), ?_⟩
    refine x_cons (DT.st 6 nd (d := .lst ((l ++ hszB).map Dv.int)) (ev_is (en_d (en_cat (en_p (en_cat (ev_p (vr 6 rfl)) (en_p (en_lst (ea_cons (vr 1 rfl) (ea_cons (vr 1 rfl) (ea_cons ev_int (ea_cons (ev_add (vr 1 rfl) (vr 2 rfl)) (ea_cons ev_int ea_nil))))))) (by rw [List.length_map]; exact Nat.le_trans (show l.length + 5 ≤ 1000 by omega) (by decide)))) (en_p (en_rep (en_p (en_lst (ea_cons ev_int ea_nil))) (vr 3 rfl) ⟨by decide, by decide, by decide⟩)) (by rw [List.length_append, List.length_map]; exact Nat.le_trans (show l.length + 5 + 2 ≤ 1000 by omega) (by decide)))) (by rw [List.map_append, List.append_assoc]; rfl)) ?_)
    refine x_nil ⟨_, by walk_at "less", by rw [hI]; rfl, by rw [List.length_append]; show l.length + 7 ≤ _; omega⟩
  intro l hI
  have hl : l = hsz := hI.1
  subst hl
  have hrl := rowM_len c hsz
  have hrb := rowM_bd c hsz hsz_ok
  have hn := roomsM_bd c
  rw [hsz_len] at hrl
  have hsl := hsz_len
  generalize hrow : rowM c hsz = row at hrl hrb hn
  generalize hnn : roomsM row = n at hn
  have hb1 := hrb 1 (by decide) (by omega)
  have e1 : ix hsz 1 = 1 := by decide
  rw [e1] at hb1
  refine x_cons (DT.st 8 nd (ev_call D_row (hr.mono (by decide)) rfl (ea_cons (vr 0 rfl) (ea_cons (vr 6 rfl) ea_nil)) ⟨c, hsz, rfl, hsz_ok, by rw [hrow]⟩ (by decide)) ?_)
  refine x_cons (DT.st 9 nd (d := .int (n : Int)) (ev_is (ev_add ev_int (ixm (f := Dv.int) (ev_p (vr 8 rfl)) ev_int (by omega) (by omega))) (by rw [hn.2.2])) ?_)
  refine x_cons (DT.st 10 nd (d := .int ((n - 1 : Nat) : Int)) (ev_is (ev_add (ev_sub (vr 9 rfl) ev_int) (ixm (f := Dv.int) (ev_p (vr 8 rfl)) ev_int (by omega) (by omega))) (by congr 1; omega)) ?_)
  refine x_cons (ifset (d1 := .int 0) 10 nd (eb_eq (vr 9 rfl) ev_int) rfl (fun _ => ev_int) ?_)
  have e2 : (if decide ((n : Int) = 1) = true then Dv.int 0 else Dv.int ((n - 1 : Nat) : Int)) = Dv.int ((n - 1 : Nat) : Int) := by
    by_cases h : (n : Int) = 1
    · rw [if_pos (by simpa using h)]; congr 1; omega
    · rw [if_neg (by simpa using h)]
  rw [e2]
  refine x_cons (stN 11 nd (en_lst ea_nil) ?_)
  refine x_cons (s_for (S := List Int) hp rfl (ei_rng (n := n) (vr 9 rfl) (by omega) rfl rfl T.range) (fun l => [.sh (.int c), .sh (.int 6), .sh (.int 0), .sh (.int 2), .sh (.bl true), .free, .free, .sh (.int 7), .sh (.lst (row.map Dv.int)), .sh (.int n), .sh (.int ((n - 1 : Nat) : Int)), .own (l.map Dv.int), .free, .free, .free, .free, .free]) (fun i l => l = namesM row i) [] rfl (by walk_at "less") ?_ ?_)
  · intro i l d hd hI
    obtain ⟨rfl, hi⟩ := rng_get hd
    have hb := hrb (2 + (i : Int)) (by omega) (by omega)
    rw [hsz_nm i (by omega)] at hb
    have hll : l.length = i := by rw [hI, namesM_len]
    refine ⟨_, _, (tg 5 nd), ?_⟩
    refine x_cons (ins 11 rfl (ixm (f := Dv.int) (ev_p (vr 8 rfl)) (ev_add ev_int (vr 5 rfl)) (by omega) (by omega)) (vr 5 rfl) hb.1 (by omega) (by rw [List.length_map]; omega) ?_)
    refine x_nil ⟨namesM row (i + 1), ?_, rfl⟩
    have e : namesM row (i + 1) = insAt l (ix row (2 + (i : Int))) (i : Int) := by rw [hI]; rfl
    rw [e, ← insAt_map]
    walk_at "less"
  intro names hI
  rw [rng_len] at hI
  have hnl : names.length = n := by rw [hI, namesM_len]
  refine x_cons (stN 12 nd (en_lst ea_nil) ?_)
  refine x_cons (s_for (S := List Door) hp rfl (ei_rng (n := n - 1) (vr 10 rfl) (by omega) rfl rfl T.range) (fun l => [.sh (.int c), .sh (.int 6), .sh (.int 0), .sh (.int 2), .sh (.bl true), .free, .free, .sh (.int 7), .sh (.lst (row.map Dv.int)), .sh (.int n), .sh (.int ((n - 1 : Nat) : Int)), .own (names.map Dv.int), .own (l.map encDr), .free, .free, .free, .free]) (fun i l => l = iter (doorStep row names) [] i) [] rfl (by walk_at "less") ?_ ?_)
  · intro i l d hd hIl
    obtain ⟨rfl, hi⟩ := rng_get hd
    obtain ⟨z1, z2, z3, z5⟩ := hsz_at i (by omega)
    have b0 := hrb (8 + (i : Int) * 7) (by omega) (by omega)
    have b2 := hrb (8 + (i : Int) * 7 + 2) (by omega) (by omega)
    have b3 := hrb (8 + (i : Int) * 7 + 3) (by omega) (by omega)
    rw [z1] at b0
    rw [z2] at b2
    rw [z3] at b3
    have hll : l.length = i := by rw [hIl, doorsIt_len]
    have m1 := Int.emod_lt_of_pos (ix row (8 + (i : Int) * 7)) (show (0 : Int) < (i : Int) + 1 by omega)
    have m2 := Int.emod_nonneg (ix row (8 + (i : Int) * 7)) (show ((i : Int) + 1) ≠ 0 by omega)
    have m3 := Int.emod_lt_of_pos (ix row (8 + (i : Int) * 7 + 3)) (show (0 : Int) < (l.length : Int) + 1 by omega)
    have m4 := Int.emod_nonneg (ix row (8 + (i : Int) * 7 + 3)) (show ((l.length : Int) + 1) ≠ 0 by omega)
    refine ⟨_, _, (tg 5 nd), ?_⟩
    refine x_cons (DT.st 13 nd (d := .int (8 + (i : Int) * 7)) (ev_is (ev_add (ev_add ev_int (vr 1 rfl)) (ev_mul (vr 5 rfl) (vr 7 rfl) (.inl ⟨by omega, by omega⟩))) rfl) ?_)
    refine x_cons (DT.st 14 nd (ev_add (vr 5 rfl) ev_int) ?_)
    refine x_cons (DT.st 15 nd (ev_intI (ev_mod (ixm (f := Dv.int) (ev_p (vr 8 rfl)) (vr 13 rfl) (by omega) (by omega)) (vr 14 rfl) (by omega)) rfl rfl T.int) ?_)
    refine x_cons (s_if (t := false) (eb_is (eb_ge (vr 5 rfl) (ev_sub (vr 9 rfl) ev_int)) (decide_eq_false (by omega))) (fun hc => ?_) (fun hc => ?_))
    · cases hc
    refine x_nil ?_
    refine x_cut (fun o => o = .nx [.sh (.int c), .sh (.int 6), .sh (.int 0), .sh (.int 2), .sh (.bl true), .sh (.int (i : Int)), .free, .sh (.int 7), .sh (.lst (row.map Dv.int)), .sh (.int n), .sh (.int ((n - 1 : Nat) : Int)), .own (names.map Dv.int), .own (l.map encDr), .sh (.int (8 + (i : Int) * 7)),
        .sh (.int (if ix row (8 + (i : Int) * 7 + 2) = 1 then ix row (8 + (i : Int) * 7) % ((i : Int) + 1) else (i : Int) + 1)), .sh (.int (if ix row (8 + (i : Int) * 7 + 2) = 1 then (i : Int) + 1 else ix row (8 + (i : Int) * 7) % ((i : Int) + 1))), .free]) ?_ ?_ (fun _ h => nomatch h) (fun _ h => nomatch h)
    · refine s_if (eb_eq (ixm (f := Dv.int) (ev_p (vr 8 rfl)) (ev_add (vr 13 rfl) ev_int) (by omega) (by omega)) ev_int) (fun hc => ?_) (fun hc => ?_)
      · rw [if_pos (of_decide_eq_true hc), if_pos (of_decide_eq_true hc)]
        exact x_cons (s_par rfl nd (i := 15) (j := 14) rfl rfl (by decide) rfl rfl (vr 14 rfl) (vr 15 rfl) rfl (x_nil rfl))
      · rw [if_neg (of_decide_eq_false hc), if_neg (of_decide_eq_false hc)]
        exact x_nil rfl
    intro G' hG'
    cases hG'
    generalize hfar : (if ix row (8 + (i : Int) * 7 + 2) = 1 then ix row (8 + (i : Int) * 7) % ((i : Int) + 1) else (i : Int) + 1) = far
    generalize hnear : (if ix row (8 + (i : Int) * 7 + 2) = 1 then (i : Int) + 1 else ix row (8 + (i : Int) * 7) % ((i : Int) + 1)) = near
    have hf : 0 ≤ far ∧ far < n := by
      rw [← hfar]; split <;> omega
    have hne : 0 ≤ near ∧ near < n := by
      rw [← hnear]; split <;> omega
    refine x_cons (DT.st 16 nd (ev_call D_any (hr.mono (by decide)) rfl (ea_cons (vr 8 rfl) (ea_cons (ev_add (vr 13 rfl) ev_int) (ea_cons (vr 3 rfl) ea_nil))) ⟨row, _, rfl, by omega, by omega, rfl⟩ (by decide)) ?_)
    refine x_cons (ifset (d1 := .str (S (oddM row (8 + (i : Int) * 7 + 4)))) 16 nd (eb_val (vr 4 rfl)) rfl (fun _ => ev_call D_odd (hr.mono (by decide)) rfl (ea_cons (vr 8 rfl) (ea_cons (ev_add (vr 13 rfl) ev_int) (ea_cons (vr 3 rfl) ea_nil))) ⟨row, _, rfl, by omega, by omega, rfl⟩ (by decide)) ?_)
    rw [if_pos rfl]
    refine x_cons (ins 12 rfl (ev_intI (ev_mod (ixm (f := Dv.int) (ev_p (vr 8 rfl)) (ev_add (vr 13 rfl) ev_int) (by omega) (by omega)) (ev_is (ev_add (ev_lenP (vo 12 rfl) rfl rfl T.len) ev_int) (by rw [List.length_map])) (by omega)) rfl rfl T.int) (ev_tup (ea_cons (ixm (f := Dv.int) (vo 11 rfl) (vr 15 rfl) hne.1 (by omega)) (ea_cons (ixm (f := Dv.int) (vo 11 rfl) (vr 14 rfl) hf.1 (by omega)) (ea_cons (vr 16 rfl) ea_nil)))) m4 (by omega) (by rw [List.length_map]; omega) ?_)
    refine x_nil ⟨iter (doorStep row names) [] (i + 1), ?_, rfl⟩
    have e : iter (doorStep row names) [] (i + 1) = insAt l (ix row (8 + (i : Int) * 7 + 3) % ((l.length : Int) + 1)) (ix names near, ix names far, oddM row (8 + (i : Int) * 7 + 4)) := by
      show doorStep row names (iter (doorStep row names) [] i) i = _
      rw [← hIl]
      unfold doorStep newDoor
      rw [← hnear, ← hfar]
      split <;> rfl
    rw [e, ← insAt_map encDr]
    walk_at "less"
  · intro l hIl
    rw [rng_len] at hIl
    refine x_frz 12 rfl ?_
    refine x_one (s_ret (ev_tup (ea_cons (vr 9 rfl) (ea_cons (vr 12 rfl) ea_nil))) ?_)
    show Res.val _ = Res.val _
    unfold houseM encHs doorsM
    rw [hrow, hnn, ← hI, ← hIl]
end
end DT

set_option Elab.async false
set_option linter.all false
set_option maxRecDepth 100000
namespace DT
open PySem PySem.Spec L2
open PyProof.Rows hiding St
open SX (S)
local macro_rules | `(tactic| walk_at "less") => `(tactic| repeat (first | exact DT.Less.nil | refine DT.Less.cons ?_ | refine DT.Less.free ?_))
/-! ### mirrors -/
def hdSizes (n m : Nat) : List Int := ((m : Int) + 1) :: (List.replicate m [(2 : Int), (n : Int)]).flatten
def handStep (row : List Int) (l : List Hand) (k : Nat) : List Hand := l ++ [([ix [82, 66] (ix row (1 + 2 * (k : Int)))], ix row (2 + 2 * (k : Int)))]
def handsRun (row : List Int) (k : Nat) : List Hand := iter (handStep row) [] k
def handsM (c : Int) (n m : Nat) : List Hand := handsRun (rowM c (hdSizes n m)) (ix (rowM c (hdSizes n m)) 0).toNat
def placesM (c : Int) (dr : List Door) : List Int := rowM c (dr.map fun d => (d.2.2.length : Int))
theorem hdSizes_len (n m : Nat) : (hdSizes n m).length = 1 + 2 * m := by
  unfold hdSizes
  have : ∀ m : Nat, ((List.replicate m [(2 : Int), (n : Int)]).flatten).length = 2 * m := by
    intro m
    induction m with
    | zero => rfl
    | succ m ih => rw [List.replicate_succ, List.flatten_cons, List.length_append, ih]; simp; omega
  rw [List.length_cons, this m]
  omega
theorem rep_at {α : Type} [Inhabited α] (a b : α) : ∀ (m k : Nat), k < m → ((List.replicate m [a, b]).flatten)[2 * k]? = some a ∧ ((List.replicate m [a, b]).flatten)[2 * k + 1]? = some b
  | 0, k, h => by omega
  | m + 1, 0, h => by rw [List.replicate_succ, List.flatten_cons]; exact ⟨rfl, rfl⟩
  | m + 1, k + 1, h => by
    rw [List.replicate_succ, List.flatten_cons]
    have ih := rep_at a b m k (by omega)
    constructor
    · rw [List.getElem?_append_right (by simp; omega)]
      simpa [Nat.mul_succ] using ih.1
    · rw [List.getElem?_append_right (by simp; omega)]
      have e : 2 * (k + 1) + 1 - [a, b].length = 2 * k + 1 := by simp; omega
      rw [e]; exact ih.2
theorem ix_some {α : Type} [Inhabited α] {xs : List α} {i : Nat} {x : α} (h : xs[i]? = some x) {k : Int} (hk : k = (i : Int)) : ix xs k = x := by
  subst hk
  exact ix_of h
theorem hdSizes_at (n m k : Nat) (h : k < m) : ix (hdSizes n m) (1 + 2 * (k : Int)) = 2 ∧ ix (hdSizes n m) (2 + 2 * (k : Int)) = (n : Int) := by
  have r := rep_at (2 : Int) (n : Int) m k h
  constructor
  · refine ix_some (i := 2 * k + 1) ?_ (by omega)
    unfold hdSizes
    rw [List.getElem?_cons_succ]; exact r.1
  · refine ix_some (i := 2 * k + 1 + 1) ?_ (by omega)
    unfold hdSizes
    rw [List.getElem?_cons_succ]; exact r.2
theorem hdSizes_ok (n m : Nat) (h1 : 1 ≤ n) (h2 : n ≤ 100) (h3 : m ≤ 100) : SzOk (hdSizes n m) := by
  refine ⟨fun s hs => ?_, by rw [hdSizes_len]; omega⟩
  unfold hdSizes at hs
  rcases List.mem_cons.mp hs with rfl | hs
  · omega
  · rw [List.mem_flatten] at hs
    obtain ⟨l, hl, hs⟩ := hs
    rw [List.mem_replicate] at hl
    rw [hl.2] at hs
    simp at hs
    omega
theorem handsRun_len (row : List Int) : ∀ k, (handsRun row k).length = k
  | 0 => rfl
  | k + 1 => by
    show (handStep row (handsRun row k) k).length = k + 1
    unfold handStep
    simp [handsRun_len row k]
theorem kit_same (K : PySem.W.Frag) (t : Value) : PySem.W.kitOne K t t = some true := if_pos (beq_self_eq_true _)
theorem kit_ib (K : PySem.W.Frag) : PySem.W.kitOne K (.type "int") (.type "bool") = some false := by kernel_rfl
section
variable {P : Program} {w : World} {K : PySem.W.Frag} {mg : Str → Option Value} {base : Heap}
theorem sc65 : FnScope ["_law_cell_here", "_law_rooms", "_law_guild", "_law_most", "_law_row_here", "_law_hands_here", "_law_k"] ["_law_cell_here", "_law_rooms", "_law_guild", "_law_most"] (defScope (topS 65)) := ⟨rfl, rfl, rfl, by decide +kernel, rfl, by decide +kernel, by decide +kernel⟩
def R_hands : List Dv → Res → Prop := fun ds res => ∃ (c : Int) (n m : Nat), ds = [.int c, .int n, .str (S [82, 66]), .int m] ∧ 1 ≤ n ∧ n ≤ 100 ∧ m ≤ 100 ∧ res = .val (.lst ((handsM c n m).map encH))
theorem d_hands (T : Txt K mg) : Df P w K mg base "_law_hands" 2 R_hands := by
  have nd := sc65.nd
  have D_row := @d_row P w K mg base T
  refine df_mk (T.fn 65 "_law_hands" rfl) sc65 _ (fun ds res h => by obtain ⟨c, n, m, rfl, _⟩ := h; rfl) (fun _ _ _ _ _ _ us hl => match us, hl with | [_, _, _, _], _ => rfl) (fun f cdv A outer s H E hr tk hp ds res h => ?_)
  obtain ⟨c, n, m, rfl, n1, n2, m1, rfl⟩ := h
  have hsz := hdSizes_ok n m n1 n2 m1
  have hrl := rowM_len c (hdSizes n m)
  have hrb := rowM_bd c (hdSizes n m) hsz
  have hsl := hdSizes_len n m
  rw [hsl] at hrl
  have e0 : ([Dv.int ((m : Int) + 1)] ++ (List.replicate (m : Int).toNat [Dv.int 2, Dv.int (n : Int)]).flatten) = (hdSizes n m).map Dv.int := by
    unfold hdSizes
    rw [List.map_cons, List.map_flatten, List.map_replicate]
    rfl
  refine x_cons (DT.st 4 nd (ev_call D_row (hr.mono (by decide)) rfl (ea_cons (vr 0 rfl) (ea_cons (ev_is (en_d (en_cat (en_p (en_lst (ea_cons (ev_add (vr 3 rfl) ev_int) ea_nil))) (en_p (en_rep (en_p (en_lst (ea_cons (lenS (vr 2 rfl) (by decide) rfl rfl T.len) (ea_cons (vr 1 rfl) ea_nil)))) (vr 3 rfl) ⟨by omega, by omega, by simp; exact Nat.le_trans (show 2 * m ≤ 200 by omega) (by decide)⟩)) (by
    have h1 : ((List.replicate (m : Int).toNat [Dv.int 2, Dv.int (n : Int)]).flatten).length ≤ 201 := by
      have := congrArg List.length e0
      rw [List.length_append, List.length_map, hsl] at this
      simp at this ⊢
      omega
    exact Nat.le_trans (Nat.add_le_add (show [Dv.int ((m : Int) + 1)].length ≤ 1 from Nat.le_refl _) h1) (by decide)))) (congrArg Dv.lst e0)) ea_nil)) ⟨c, hdSizes n m, rfl, hsz, rfl⟩ (by decide)) ?_)
  generalize hrow : rowM c (hdSizes n m) = row at hrl hrb
  have hb0 := hrb 0 (by decide) (by omega)
  have e1 : ix (hdSizes n m) 0 = (m : Int) + 1 := rfl
  rw [e1] at hb0
  refine x_cons (stN 5 nd (en_lst ea_nil) ?_)
  refine x_cons (s_for (S := List Hand) hp rfl (ei_rng (n := (ix row 0).toNat) (ev_is (ixm (f := Dv.int) (ev_p (vr 4 rfl)) ev_int (by omega) (by omega)) (by congr 1; omega)) (by omega) rfl rfl T.range) (fun l => [.sh (.int c), .sh (.int n), .sh (.str (S [82, 66])), .sh (.int m), .sh (.lst (row.map Dv.int)), .own (l.map encH), .free]) (fun i l => l = handsRun row i) [] rfl (by walk_at "less") ?_ ?_)
  · intro i l d hd hI
    obtain ⟨rfl, hi⟩ := rng_get hd
    have hll : l.length = i := by rw [hI, handsRun_len]
    have hm : i < m := by omega
    obtain ⟨z1, z2⟩ := hdSizes_at n m i hm
    have b1 := hrb (1 + 2 * (i : Int)) (by omega) (by omega)
    have b2 := hrb (2 + 2 * (i : Int)) (by omega) (by omega)
    rw [z1] at b1
    rw [z2] at b2
    refine ⟨_, _, (tg 6 nd), ?_⟩
    refine x_cons (app 5 rfl (ev_tup (ea_cons (ixS (vr 2 rfl) (ixm (f := Dv.int) (ev_p (vr 4 rfl)) (ev_add ev_int (ev_mul ev_int (vr 6 rfl) (.inl (by decide)))) (by omega) (by omega)) (by decide) b1.1 (by simpa using b1.2)) (ea_cons (ixm (f := Dv.int) (ev_p (vr 4 rfl)) (ev_add ev_int (ev_mul ev_int (vr 6 rfl) (.inl (by decide)))) (by omega) (by omega)) ea_nil))) (by rw [List.length_map]; omega) ?_)
    refine x_nil ⟨handsRun row (i + 1), ?_, rfl⟩
    have e : handsRun row (i + 1) = l ++ [([ix [82, 66] (ix row (1 + 2 * (i : Int)))], ix row (2 + 2 * (i : Int)))] := by rw [hI]; rfl
    rw [e, List.map_append]
    walk_at "less"
  · intro l hI
    refine x_frz 5 rfl ?_
    refine x_one (s_ret (vr 5 rfl) ?_)
    show Res.val _ = Res.val _
    unfold handsM
    rw [hI, rng_len, hrow]

theorem sc66 : FnScope ["_law_cell_here", "_law_doors", "_law_door"] ["_law_cell_here", "_law_doors"] (defScope (topS 66)) := ⟨rfl, rfl, rfl, by decide +kernel, rfl, by decide +kernel, by decide +kernel⟩
def CyLen (dr : List Door) : Prop := dr.length ≤ 100 ∧ ∀ d ∈ dr, 0 < d.2.2.length ∧ d.2.2.length ≤ 1000
theorem pl_ok {dr : List Door} (h : CyLen dr) : SzOk (dr.map fun d => (d.2.2.length : Int)) := by
  refine ⟨fun s hs => ?_, by rw [List.length_map]; have := h.1; omega⟩
  obtain ⟨d, hd, rfl⟩ := List.mem_map.mp hs
  have := h.2 d hd
  omega
def R_places : List Dv → Res → Prop := fun ds res => ∃ (c : Int) (dr : List Door), ds = [.int c, .lst (dr.map encDr)] ∧ CyLen dr ∧ res = .val (.lst ((placesM c dr).map Dv.int))
theorem d_places (T : Txt K mg) : Df P w K mg base "_law_places" 2 R_places := by
  have nd := sc66.nd
  have D_row := @d_row P w K mg base T
  refine df_mk (T.fn 66 "_law_places" rfl) sc66 _ (fun ds res h => by obtain ⟨c, dr, rfl, _⟩ := h; rfl) (fun _ _ _ _ _ _ us hl => match us, hl with | [_, _], _ => rfl) (fun f cdv A outer s H E hr tk hp ds res h => ?_)
  obtain ⟨c, dr, rfl, hC, rfl⟩ := h
  have hl := hC.1
  refine x_one (s_ret (ev_call D_row (hr.mono (by decide)) rfl (ea_cons (vr 0 rfl) (ea_cons (en_d (en_lc rfl nd (lc_map (own := [("_law_door", 2)]) encDr (fun d => Dv.int (d.2.2.length : Int)) (ei_list (vr 1 rfl)) (by omega) (blkOk_by (by kernel_rfl)) (fun x hx => turn_map (by decide) (fun _ _ _ _ _ => (tg 2 nd)) (fun _ _ _ _ _ => (lenS (ixt (vr 2 rfl) ⟨by decide, rfl⟩) (by have := hC.2 x hx; omega) rfl rfl T.len)))))) ea_nil)) ⟨c, dr.map fun d : Door => (d.2.2.length : Int), by rw [List.map_map]; rfl, pl_ok hC, rfl⟩ (by decide)) rfl)

theorem sc67 : FnScope ["_law_actual"] ["_law_actual"] (defScope (topS 67)) := ⟨rfl, rfl, rfl, by decide +kernel, rfl, by decide +kernel, by decide +kernel⟩
def R_isint : List Dv → Res → Prop := fun ds res => ∃ (i : Int), ds = [.int i] ∧ res = .val (.bl true)
theorem d_isint (T : Txt K mg) : Df P w K mg base "_law_is_integer" 1 R_isint := by
  have nd := sc67.nd
  refine df_mk (T.fn 67 "_law_is_integer" rfl) sc67 _ (fun ds res h => by obtain ⟨i, rfl, rfl⟩ := h; rfl) (fun _ _ _ _ _ _ us hl => match us, hl with | [_], _ => rfl) (fun f cdv A outer s H E hr tk hp ds res h => ?_)
  obtain ⟨i, rfl, rfl⟩ := h
  exact x_one (s_ret (EvB.v (ew_b (ew_and (eb_val (isTy (n := "int") (t := .type "int") (r := true) (vr 0 rfl) ty_int (kit_same _ _) rfl rfl T.isinstance (by rfl) T.int (by decide +kernel) (by decide) (by decide))) (fun _ => (ew_and1 (eb_not (eb_val (isTy (n := "bool") (t := .type "int") (r := false) (vr 0 rfl) ty_int (kit_ib _) rfl rfl T.isinstance (by rfl) T.bool (by decide +kernel) (by decide) (by decide))))))))) rfl)
end
end DT

set_option Elab.async false
set_option linter.all false
set_option maxRecDepth 100000
namespace DT
open PySem PySem.Spec L2
open PyProof.Rows hiding St
open SX (S)
local macro_rules | `(tactic| walk_at "less") => `(tactic| repeat (first | exact DT.Less.nil | refine DT.Less.cons ?_ | refine DT.Less.free ?_))
/-! ### mirrors -/
abbrev St2 := List Hand × List Int
def deedM (dr : List Door) (hs : List Hand) (ps : List Int) (h d : Int) : Option St2 :=
  if h < 0 ∨ (hs.length : Int) ≤ h ∨ d < 0 ∨ (dr.length : Int) ≤ d then none
  else if (ix hs h).2 ≠ (ix dr d).1 ∧ (ix hs h).2 ≠ (ix dr d).2.1 then none
  else if (ix hs h).1 ≠ [42] ∧ (ix hs h).1 ≠ [ix (ix dr d).2.2 (ix ps d)] then none
  else some (hs.set h.toNat ((ix hs h).1, (ix dr d).1 + (ix dr d).2.1 - (ix hs h).2), ps.set d.toNat ((ix ps d + 1) % ((ix dr d).2.2.length : Int)))
def encS2 (s : St2) : Dv := .tup [.lst (s.1.map encH), .lst (s.2.map Dv.int)]
def encD : Option St2 → Dv
  | none => .non
  | some s => encS2 s
structure PlOk (dr : List Door) (ps : List Int) : Prop where
  l : ps.length = dr.length
  b : ∀ k : Int, 0 ≤ k → k < dr.length → 0 ≤ ix ps k ∧ ix ps k < ((ix dr k).2.2.length : Int)
  c : CyLen dr
def posIn (dr : List Door) (hs : List Hand) (ps : List Int) (h : Nat) (l : List (Int × Int)) (d : Nat) : List (Int × Int) := if (deedM dr hs ps h d).isSome = true then l ++ [((h : Int), (d : Int))] else l
def posOut (dr : List Door) (hs : List Hand) (ps : List Int) (l : List (Int × Int)) (h : Nat) : List (Int × Int) := iter (posIn dr hs ps h) l dr.length
def possM (dr : List Door) (hs : List Hand) (ps : List Int) : List (Int × Int) := iter (posOut dr hs ps) [] hs.length
theorem posIn_len (dr : List Door) (hs : List Hand) (ps : List Int) (h : Nat) (l : List (Int × Int)) : ∀ k, (iter (posIn dr hs ps h) l k).length ≤ l.length + k
  | 0 => Nat.le_refl _
  | k + 1 => by
    have ih := posIn_len dr hs ps h l k
    show (posIn dr hs ps h (iter (posIn dr hs ps h) l k) k).length ≤ _
    unfold posIn
    split
    · rw [List.length_append]; show _ + 1 ≤ _; exact Nat.succ_le_succ ih
    · exact Nat.le_succ_of_le ih
theorem posOut_len (dr : List Door) (hs : List Hand) (ps : List Int) : ∀ k, (iter (posOut dr hs ps) [] k).length ≤ k * dr.length
  | 0 => Nat.zero_le _
  | k + 1 => by
    have ih := posOut_len dr hs ps k
    have h2 := posIn_len dr hs ps k (iter (posOut dr hs ps) [] k) dr.length
    show (posOut dr hs ps (iter (posOut dr hs ps) [] k) k).length ≤ _
    rw [Nat.succ_mul]
    exact Nat.le_trans h2 (Nat.add_le_add_right ih _)
theorem zip_range {α β : Type} [Inhabited α] [Inhabited β] {xs : List α} {ys : List β} (h : xs.length = ys.length) : xs.zip ys = (List.range ys.length).map fun i : Nat => (ix xs (i : Int), ix ys (i : Int)) := by
  apply List.ext_getElem?
  intro i
  rw [List.getElem?_map]
  by_cases hi : i < ys.length
  · rw [List.getElem?_range hi]
    show (xs.zip ys)[i]? = some (ix xs i, ix ys i)
    have e1 := ix_get (xs := xs) (k := (i : Int)) (by omega) (by omega)
    have e2 := ix_get (xs := ys) (k := (i : Int)) (by omega) (by omega)
    rw [List.getElem?_zip_eq_some]
    exact ⟨e1, e2⟩
  · rw [List.getElem?_eq_none (by rw [List.length_zip]; omega), List.getElem?_eq_none (by simp; omega)]
    rfl
theorem lights_ix {dr : List Door} {ps : List Int} (h : PlOk dr ps) : lightsM dr ps = (List.range dr.length).map fun i : Nat => ix (ix dr (i : Int)).2.2 (ix ps (i : Int)) := by
  unfold lightsM
  rw [zip_range h.l, List.map_map]
  apply List.map_congr_left
  intro i hi
  have hb := h.b i (by omega) (by have := List.mem_range.mp hi; omega)
  show ix (ix dr (i : Int)).2.2 (ix ps (i : Int) % ((ix dr (i : Int)).2.2.length : Int)) = _
  rw [Int.emod_eq_of_lt hb.1 hb.2]
def spH (seen : List Bool) (h : Hand) : List Bool := if h.1 = [82] then seen.set h.2.toNat true else seen
def spdIn (dr : List Door) (ls : List Nat) (seen : List Bool) (k : Nat) : List Bool :=
  if ix ls k = 82 ∧ (ix seen (ix dr k).1 = true ∨ ix seen (ix dr k).2.1 = true) then (seen.set (ix dr k).1.toNat true).set (ix dr k).2.1.toNat true else seen
def spTurn (dr : List Door) (ls : List Nat) (seen : List Bool) (_ : Nat) : List Bool := iter (spdIn dr ls) seen dr.length
def sp0 (n : Nat) (hs : List Hand) : List Bool := hs.foldl spH (List.replicate n false)
def spreadM (n : Nat) (dr : List Door) (hs : List Hand) (ls : List Nat) : List Bool := iter (spTurn dr ls) (sp0 n hs) n
theorem spH_len (seen : List Bool) (h : Hand) : (spH seen h).length = seen.length := by
  unfold spH; split <;> simp
theorem spF_len : ∀ (hs : List Hand) (seen : List Bool), (hs.foldl spH seen).length = seen.length
  | [], seen => rfl
  | h :: hs, seen => by rw [List.foldl_cons, spF_len hs, spH_len]
theorem spdIn_len (dr : List Door) (ls : List Nat) (seen : List Bool) (k : Nat) : (spdIn dr ls seen k).length = seen.length := by
  unfold spdIn; split <;> simp
theorem iter_len {T : Type} {f : List T → Nat → List T} (h : ∀ s k, (f s k).length = s.length) (s : List T) : ∀ k, (iter f s k).length = s.length
  | 0 => rfl
  | k + 1 => (h _ _).trans (iter_len h s k)
theorem spTurn_len (dr : List Door) (ls : List Nat) (seen : List Bool) (k : Nat) : (spTurn dr ls seen k).length = seen.length := iter_len (spdIn_len dr ls) seen _
section
variable {P : Program} {w : World} {K : PySem.W.Frag} {mg : Str → Option Value} {base : Heap}
theorem sc69 : FnScope ["_law_doors", "_law_hands_here", "_law_places_here", "_law_hand", "_law_door", "_law_guild", "_law_spot", "_law_new_hands", "_law_new_places"] ["_law_doors", "_law_hands_here", "_law_places_here", "_law_hand", "_law_door"] (defScope (topS 69)) := ⟨rfl, rfl, rfl, by decide +kernel, rfl, by decide +kernel, by decide +kernel⟩
def R_deed : List Dv → Res → Prop := fun ds res => ∃ (dr : List Door) (hs : List Hand) (ps : List Int) (h d : Int), ds = [.lst (dr.map encDr), .lst (hs.map encH), .lst (ps.map Dv.int), .int h, .int d] ∧ PlOk dr ps ∧ res = .val (encD (deedM dr hs ps h d))
theorem d_deed (T : Txt K mg) : Df P w K mg base "_law_deed" 1 R_deed := by
  have nd := sc69.nd
  refine df_mk (T.fn 69 "_law_deed" rfl) sc69 _ (fun ds res h => by obtain ⟨dr, hs, ps, h, d, rfl, _⟩ := h; rfl) (fun _ _ _ _ _ _ us hl => match us, hl with | [_, _, _, _, _], _ => rfl) (fun f cdv A outer s H E hr tk hp ds res h => ?_)
  obtain ⟨dr, hs, ps, h, d, rfl, hP, rfl⟩ := h
  have hpl := hP.l
  refine x_cons (s_if (t := decide (h < 0 ∨ (hs.length : Int) ≤ h ∨ d < 0 ∨ (dr.length : Int) ≤ d)) (eb_is (ew_b (ew_or (eb_lt (vr 3 rfl) ev_int) (fun _ => (ew_or (eb_ge (vr 3 rfl) (ev_lenP (ev_p (vr 1 rfl)) rfl rfl T.len)) (fun _ => (ew_or (eb_lt (vr 4 rfl) ev_int) (fun _ => (ew_or1 (eb_ge (vr 4 rfl) (ev_lenP (ev_p (vr 0 rfl)) rfl rfl T.len)))))))))) (by rw [List.length_map, List.length_map]; simp [Bool.decide_or])) (fun hc => ?_) (fun hc => ?_))
  · refine x_one (s_ret ev_non ?_)
    show Res.val _ = Res.val _
    unfold deedM
    rw [if_pos (of_decide_eq_true hc)]; rfl
  refine x_nil ?_
  have hc1 := of_decide_eq_false hc
  have h0 : 0 ≤ h := by omega
  have h1 : h < hs.length := by omega
  have d0 : 0 ≤ d := by omega
  have d1 : d < dr.length := by omega
  have hb := hP.b d d0 d1
  have hcl := hP.c.2 _ (mem_ix d0 d1)
  refine x_cons (DT.st 5 nd (ixt (ixm (f := encH) (ev_p (vr 1 rfl)) (vr 3 rfl) h0 h1) ⟨by decide, rfl⟩) ?_)
  refine x_cons (DT.st 6 nd (ixt (ixm (f := encH) (ev_p (vr 1 rfl)) (vr 3 rfl) h0 h1) ⟨by decide, rfl⟩) ?_)
  refine x_cons (s_if (t := decide ((ix hs h).2 ≠ (ix dr d).1 ∧ (ix hs h).2 ≠ (ix dr d).2.1)) (eb_is (ew_b (ew_and (eb_ne (vr 6 rfl) (ixt (ixm (f := encDr) (ev_p (vr 0 rfl)) (vr 4 rfl) d0 d1) ⟨by decide, rfl⟩)) (fun _ => (ew_and1 (eb_ne (vr 6 rfl) (ixt (ixm (f := encDr) (ev_p (vr 0 rfl)) (vr 4 rfl) d0 d1) ⟨by decide, rfl⟩)))))) (by simp [Bool.decide_and])) (fun hc => ?_) (fun hc => ?_))
  · refine x_one (s_ret ev_non ?_)
    show Res.val _ = Res.val _
    unfold deedM
    rw [if_neg hc1, if_pos (of_decide_eq_true hc)]; rfl
  refine x_nil ?_
  have hc2 := of_decide_eq_false hc
  refine x_cons (s_if (t := decide ((ix hs h).1 ≠ [42] ∧ (ix hs h).1 ≠ [ix (ix dr d).2.2 (ix ps d)])) (eb_is (ew_b (ew_and (neS (vr 5 rfl) (cs [42])) (fun _ => (ew_and1 (neS (vr 5 rfl) (ixS (ixt (ixm (f := encDr) (ev_p (vr 0 rfl)) (vr 4 rfl) d0 d1) ⟨by decide, rfl⟩) (ixm (f := Dv.int) (ev_p (vr 2 rfl)) (vr 4 rfl) d0 (by omega)) (by omega) hb.1 hb.2)))))) (by simp [Bool.decide_and])) (fun hc => ?_) (fun hc => ?_))
  · refine x_one (s_ret ev_non ?_)
    show Res.val _ = Res.val _
    unfold deedM
    rw [if_neg hc1, if_neg hc2, if_pos (of_decide_eq_true hc)]; rfl
  refine x_nil ?_
  have hc3 := of_decide_eq_false hc
  refine x_cons (stN 7 nd (en_listP (ev_p (vr 1 rfl)) rfl (by rfl) T.list) ?_)
  refine x_cons (sub 7 rfl (ev_tup (ea_cons (vr 5 rfl) (ea_cons (ev_sub (ev_add (ixt (ixm (f := encDr) (ev_p (vr 0 rfl)) (vr 4 rfl) d0 d1) ⟨by decide, rfl⟩) (ixt (ixm (f := encDr) (ev_p (vr 0 rfl)) (vr 4 rfl) d0 d1) ⟨by decide, rfl⟩)) (vr 6 rfl)) ea_nil))) (vr 3 rfl) h0 (by rw [List.length_map]; exact h1) ?_)
  refine x_cons (stN 8 nd (en_listP (ev_p (vr 2 rfl)) rfl (by rfl) T.list) ?_)
  refine x_cons (sub 8 rfl (ev_mod (ev_intI (ev_add (ixm (f := Dv.int) (ev_p (vr 2 rfl)) (vr 4 rfl) d0 (by omega)) ev_int) rfl (by rfl) T.int) (lenS (ixt (ixm (f := encDr) (ev_p (vr 0 rfl)) (vr 4 rfl) d0 d1) ⟨by decide, rfl⟩) (by omega) rfl rfl T.len) (by omega)) (vr 4 rfl) d0 (by rw [List.length_map]; omega) ?_)
  refine x_frz 7 rfl ?_
  refine x_frz 8 rfl ?_
  refine x_one (s_ret (ev_tup (ea_cons (vr 7 rfl) (ea_cons (vr 8 rfl) ea_nil))) ?_)
  show Res.val _ = Res.val _
  unfold deedM
  rw [if_neg hc1, if_neg hc2, if_neg hc3]
  show Res.val (.tup [.lst (List.map encH (hs.set _ _)), .lst (List.map Dv.int (ps.set _ _))]) = _
  rw [List.map_set, List.map_set]
  rfl
theorem isNon_D (o : Option St2) : isNon (encD o) = o.isNone := by cases o <;> rfl

theorem sc70 : FnScope ["_law_doors", "_law_hands_here", "_law_places_here", "_law_deeds", "_law_hand", "_law_door"] ["_law_doors", "_law_hands_here", "_law_places_here"] (defScope (topS 70)) := ⟨rfl, rfl, rfl, by decide +kernel, rfl, by decide +kernel, by decide +kernel⟩
def R_poss : List Dv → Res → Prop := fun ds res => ∃ (dr : List Door) (hs : List Hand) (ps : List Int), ds = [.lst (dr.map encDr), .lst (hs.map encH), .lst (ps.map Dv.int)] ∧ PlOk dr ps ∧ hs.length ≤ 100 ∧ res = .val (.lst ((possM dr hs ps).map encP2))
theorem d_poss (T : Txt K mg) : Df P w K mg base "_law_possible" 2 R_poss := by
  have nd := sc70.nd
  have D_deed := @d_deed P w K mg base T
  refine df_mk (T.fn 70 "_law_possible" rfl) sc70 _ (fun ds res h => by obtain ⟨dr, hs, ps, rfl, _⟩ := h; rfl) (fun _ _ _ _ _ _ us hl => match us, hl with | [_, _, _], _ => rfl) (fun f cdv A outer s H E hr tk hp ds res h => ?_)
  obtain ⟨dr, hs, ps, rfl, hP, hhl, rfl⟩ := h
  have hdl := hP.c.1
  refine x_cons (stN 3 nd (en_lst ea_nil) ?_)
  refine x_cons (s_for (S := List (Int × Int)) hp rfl (ei_rng (n := hs.length) (ev_is (ev_lenP (ev_p (vr 1 rfl)) rfl rfl T.len) (by simp)) (by omega) rfl rfl T.range) (fun l => [.sh (.lst (dr.map encDr)), .sh (.lst (hs.map encH)), .sh (.lst (ps.map Dv.int)), .own (l.map encP2), .free, .free]) (fun i l => l = iter (posOut dr hs ps) [] i) [] rfl (by walk_at "less") ?_ ?_)
  · intro i l d hd hI
    obtain ⟨rfl, hi⟩ := rng_get hd
    have hl1 := posOut_len dr hs ps i
    rw [← hI] at hl1
    have hl2 : i * dr.length ≤ 100 * 100 := Nat.mul_le_mul (by omega) hdl
    refine ⟨_, _, (tg 4 nd), ?_⟩
    refine x_cons (s_for (S := List (Int × Int)) hp rfl (ei_rng (n := dr.length) (ev_is (ev_lenP (ev_p (vr 0 rfl)) rfl rfl T.len) (by simp)) (by omega) rfl rfl T.range) (fun l => [.sh (.lst (dr.map encDr)), .sh (.lst (hs.map encH)), .sh (.lst (ps.map Dv.int)), .own (l.map encP2), .sh (.int (i : Int)), .free]) (fun j l' => l' = iter (posIn dr hs ps i) l j) l rfl (by walk_at "less") ?_ ?_)
    · intro j l' d hd hI'
      obtain ⟨rfl, hj⟩ := rng_get hd
      have hl3 := posIn_len dr hs ps i l j
      rw [← hI'] at hl3
      have hnx : iter (posIn dr hs ps i) l (j + 1) = posIn dr hs ps i l' j := by rw [hI']; rfl
      refine ⟨_, _, (tg 5 nd), ?_⟩
      refine x_cons (s_if (t := (deedM dr hs ps i j).isSome) (eb_is (eb_notN (ev_call D_deed (hr.mono (by decide)) rfl (ea_cons (vr 0 rfl) (ea_cons (vr 1 rfl) (ea_cons (vr 2 rfl) (ea_cons (vr 4 rfl) (ea_cons (vr 5 rfl) ea_nil))))) ⟨dr, hs, ps, _, _, rfl, hP, rfl⟩ (by decide))) (by rw [isNon_D]; cases deedM dr hs ps i j <;> rfl)) (fun hc => ?_) (fun hc => ?_))
      · refine x_cons (app 3 rfl (ev_tup (ea_cons (vr 4 rfl) (ea_cons (vr 5 rfl) ea_nil))) (by rw [List.length_map]; omega) ?_)
        refine x_nil (x_nil ⟨_, ?_, hnx.symm⟩)
        unfold posIn
        rw [if_pos hc, List.map_append]
        walk_at "less"
      · refine x_nil (x_nil ⟨_, ?_, hnx.symm⟩)
        unfold posIn
        rw [if_neg (by simp [hc])]
        walk_at "less"
    · intro l' hI'
      refine x_nil ⟨_, by walk_at "less", ?_⟩
      rw [hI', rng_len, hI]
      rfl
  · intro l hI
    refine x_frz 3 rfl ?_
    refine x_one (s_ret (vr 3 rfl) ?_)
    show Res.val _ = Res.val _
    rw [hI, rng_len]
    rfl

theorem sc71 : FnScope ["_law_doors", "_law_places_here", "_law_back", "_law_k"] ["_law_doors", "_law_places_here", "_law_back"] (defScope (topS 71)) := ⟨rfl, rfl, rfl, by decide +kernel, rfl, by decide +kernel, by decide +kernel⟩
def R_lights : List Dv → Res → Prop := fun ds res => ∃ (dr : List Door) (ps : List Int), ds = [.lst (dr.map encDr), .lst (ps.map Dv.int), .int 0] ∧ PlOk dr ps ∧ res = .val (.lst ((lightsM dr ps).map encL))
theorem d_lights (T : Txt K mg) : Df P w K mg base "_law_lights" 1 R_lights := by
  have nd := sc71.nd
  refine df_mk (T.fn 71 "_law_lights" rfl) sc71 _ (fun ds res h => by obtain ⟨dr, ps, rfl, _⟩ := h; rfl) (fun _ _ _ _ _ _ us hl => match us, hl with | [_, _, _], _ => rfl) (fun f cdv A outer s H E hr tk hp ds res h => ?_)
  obtain ⟨dr, ps, rfl, hP, rfl⟩ := h
  have hdl := hP.c.1
  have hpl := hP.l
  refine x_one (s_ret (en_d (en_lc rfl nd (lc_map (own := [("_law_k", 3)]) (xs := List.range dr.length) (fun i : Nat => Dv.int (i : Int)) (fun i : Nat => encL (ix (ix dr (i : Int)).2.2 (ix ps (i : Int)))) (ei_rng (n := dr.length) (ev_is (ev_lenP (ev_p (vr 0 rfl)) rfl rfl T.len) (by simp)) (by omega) rfl rfl T.range) (by simp; omega) (blkOk_by (by kernel_rfl)) (fun x hx => turn_map (by decide) (fun _ _ _ _ _ => (tg 3 nd)) (fun _ _ _ _ _ => ?e))))) ?_)
  case e =>
    have hx' := List.mem_range.mp hx
    have hb := hP.b (x : Int) (by omega) (by omega)
    have hcl := hP.c.2 _ (mem_ix (xs := dr) (k := (x : Int)) (by omega) (by omega))
    have e : (ix ps (x : Int) - 0) % ((ix dr (x : Int)).2.2.length : Int) = ix ps (x : Int) := by rw [Int.sub_zero]; exact Int.emod_eq_of_lt hb.1 hb.2
    exact ev_is (ixS (ixt (ixm (f := encDr) (ev_p (vr 0 rfl)) (vr 3 rfl) (by omega) (by omega)) ⟨by decide, rfl⟩) (ev_mod (ev_intI (ev_sub (ixm (f := Dv.int) (ev_p (vr 1 rfl)) (vr 3 rfl) (by omega) (by omega)) (vr 2 rfl)) rfl (by rfl) T.int) (lenS (ixt (ixm (f := encDr) (ev_p (vr 0 rfl)) (vr 3 rfl) (by omega) (by omega)) ⟨by decide, rfl⟩) (by omega) rfl rfl T.len) (by omega)) (by omega) (by rw [e]; exact hb.1) (by rw [e]; exact hb.2)) (by rw [e]; rfl)
  · show Res.val _ = Res.val _
    rw [lights_ix hP, List.map_map]
    rfl

theorem sc72 : FnScope ["_law_rooms", "_law_doors", "_law_hands_here", "_law_letters", "_law_guild", "_law_seen_here", "_law_hand", "_law_turn", "_law_k"] ["_law_rooms", "_law_doors", "_law_hands_here", "_law_letters", "_law_guild"] (defScope (topS 72)) := ⟨rfl, rfl, rfl, by decide +kernel, rfl, by decide +kernel, by decide +kernel⟩
def HandsIn (n : Nat) (hs : List Hand) : Prop := ∀ h ∈ hs, 0 ≤ h.2 ∧ h.2 < n
def R_spread : List Dv → Res → Prop := fun ds res => ∃ (n : Nat) (dr : List Door) (hs : List Hand) (ls : List Nat), ds = [.int n, .lst (dr.map encDr), .lst (hs.map encH), .lst (ls.map encL), .str (S [82])] ∧ n ≤ 100 ∧ dr.length ≤ 100 ∧ EndsOk n dr ∧ HandsIn n hs ∧ ls.length = dr.length ∧ res = .val (.lst ((spreadM n dr hs ls).map Dv.bl))
theorem d_spread (T : Txt K mg) : Df P w K mg base "_law_spread" 1 R_spread := by
  have nd := sc72.nd
  refine df_mk (T.fn 72 "_law_spread" rfl) sc72 _ (fun ds res h => by obtain ⟨n, dr, hs, ls, rfl, _⟩ := h; rfl) (fun _ _ _ _ _ _ us hl => match us, hl with | [_, _, _, _, _], _ => rfl) (fun f cdv A outer s H E hr tk hp ds res h => ?_)
  obtain ⟨n, dr, hs, ls, rfl, hn, hdl, hE, hH, hll, rfl⟩ := h
  refine x_cons (stN 5 nd (en_rep (en_p (en_lst (ea_cons ev_bl ea_nil))) (vr 0 rfl) ⟨by omega, by omega, by simp; exact Nat.le_trans hn (by decide)⟩) ?_)
  refine x_cons (s_for (S := List Bool) hp rfl (ei_list (vr 2 rfl)) (fun l => [.sh (.int n), .sh (.lst (dr.map encDr)), .sh (.lst (hs.map encH)), .sh (.lst (ls.map encL)), .sh (.str (S [82])), .own (l.map Dv.bl), .free, .free, .free]) (fun i l => l = (hs.take i).foldl spH (List.replicate n false)) (List.replicate n false) rfl (by
      have e : (List.replicate (Int.toNat (n : Int)) [Dv.bl false]).flatten = (List.replicate n false).map Dv.bl := by simp
      rw [e]; walk_at "less") ?_ ?_)
  · intro i l d hd hI
    obtain ⟨q, hq, rfl⟩ := map_get hd
    have hm := hH q (List.mem_of_getElem? hq)
    have hl : l.length = n := by rw [hI, spF_len]; simp
    have hnx : (hs.take (i + 1)).foldl spH (List.replicate n false) = spH l q := by rw [foldl_take hq, ← hI]
    refine ⟨_, _, (tg 6 nd), ?_⟩
    refine x_cons (s_if (eqS (ixt (vr 6 rfl) ⟨by decide, rfl⟩) (vr 4 rfl)) (fun hc => ?_) (fun hc => ?_))
    · refine x_cons (sub 5 rfl ev_bl (ixt (vr 6 rfl) ⟨by decide, rfl⟩) hm.1 (by rw [List.length_map]; omega) ?_)
      refine x_nil (x_nil ⟨_, ?_, hnx.symm⟩)
      unfold spH
      rw [if_pos (of_decide_eq_true hc), List.map_set]
      walk_at "less"
    · refine x_nil (x_nil ⟨_, ?_, hnx.symm⟩)
      unfold spH
      rw [if_neg (of_decide_eq_false hc)]
      walk_at "less"
  intro l0 hI0
  rw [List.length_map, List.take_length] at hI0
  have hl0 : l0.length = n := by rw [hI0, spF_len]; simp
  refine x_cons (s_for (S := List Bool) hp rfl (ei_rng (n := n) (vr 0 rfl) (by omega) rfl rfl T.range) (fun l => [.sh (.int n), .sh (.lst (dr.map encDr)), .sh (.lst (hs.map encH)), .sh (.lst (ls.map encL)), .sh (.str (S [82])), .own (l.map Dv.bl), .free, .free, .free]) (fun i l => l = iter (spTurn dr ls) l0 i) l0 rfl (by walk_at "less") ?_ ?_)
  · intro i l d hd hI
    obtain ⟨rfl, hi⟩ := rng_get hd
    have hl : l.length = n := by rw [hI, iter_len (spTurn_len dr ls), hl0]
    refine ⟨_, _, (tg 7 nd), ?_⟩
    refine x_cons (s_for (S := List Bool) hp rfl (ei_rng (n := dr.length) (ev_is (ev_lenP (ev_p (vr 1 rfl)) rfl rfl T.len) (by simp)) (by omega) rfl rfl T.range) (fun l => [.sh (.int n), .sh (.lst (dr.map encDr)), .sh (.lst (hs.map encH)), .sh (.lst (ls.map encL)), .sh (.str (S [82])), .own (l.map Dv.bl), .free, .free, .free]) (fun j l' => l' = iter (spdIn dr ls) l j) l rfl (by walk_at "less") ?_ ?_)
    · intro j l' d hd hI'
      obtain ⟨rfl, hj⟩ := rng_get hd
      have hl' : l'.length = n := by rw [hI', iter_len (spdIn_len dr ls), hl]
      obtain ⟨e1, e2, e3, e4⟩ := hE _ (mem_ix (xs := dr) (k := (j : Int)) (by omega) (by omega))
      have hnx : iter (spdIn dr ls) l (j + 1) = spdIn dr ls l' j := by rw [hI']; rfl
      refine ⟨_, _, (tg 8 nd), ?_⟩
      refine x_cons (s_if (t := decide (ix ls (j : Int) = 82 ∧ (ix l' (ix dr (j : Int)).1 = true ∨ ix l' (ix dr (j : Int)).2.1 = true))) (eb_is (ew_b (ew_and (eqS (ixC (ls := ls) (ev_p (vr 3 rfl)) (vr 8 rfl) (by omega) (by omega)) (vr 4 rfl)) (fun _ => (ew_and1 (ew_b (ew_or (eb_val (ixm (f := Dv.bl) (vo 5 rfl) (ixt (ixm (f := encDr) (ev_p (vr 1 rfl)) (vr 8 rfl) (by omega) (by omega)) ⟨by decide, rfl⟩) e1 (by omega))) (fun _ => (ew_or1 (eb_val (ixm (f := Dv.bl) (vo 5 rfl) (ixt (ixm (f := encDr) (ev_p (vr 1 rfl)) (vr 8 rfl) (by omega) (by omega)) ⟨by decide, rfl⟩) e3 (by omega))))))))))) (by simp [Bool.decide_and, Bool.decide_or])) (fun hc => ?_) (fun hc => ?_))
      · refine x_cons (sub 5 rfl ev_bl (ixt (ixm (f := encDr) (ev_p (vr 1 rfl)) (vr 8 rfl) (by omega) (by omega)) ⟨by decide, rfl⟩) e1 (by rw [List.length_map]; omega) ?_)
        refine x_cons (sub 5 rfl ev_bl (ixt (ixm (f := encDr) (ev_p (vr 1 rfl)) (vr 8 rfl) (by omega) (by omega)) ⟨by decide, rfl⟩) e3 (by rw [List.length_set, List.length_map]; omega) ?_)
        refine x_nil (x_nil ⟨_, ?_, hnx.symm⟩)
        unfold spdIn
        rw [if_pos (of_decide_eq_true hc), List.map_set, List.map_set]
        walk_at "less"
      · refine x_nil (x_nil ⟨_, ?_, hnx.symm⟩)
        unfold spdIn
        rw [if_neg (of_decide_eq_false hc)]
        walk_at "less"
    · intro l' hI'
      refine x_nil ⟨_, by walk_at "less", ?_⟩
      rw [hI', rng_len, hI]
      rfl
  · intro l hI
    refine x_frz 5 rfl ?_
    refine x_one (s_ret (vr 5 rfl) ?_)
    show Res.val _ = Res.val _
    rw [hI, rng_len, hI0]
    rfl
end
end DT

set_option Elab.async false
set_option linter.all false
set_option maxRecDepth 100000
namespace DT
open PySem PySem.Spec L2
open PyProof.Rows hiding St
open SX (S)
local macro_rules | `(tactic| walk_at "less") => `(tactic| repeat (first | exact DT.Less.nil | refine DT.Less.cons ?_ | refine DT.Less.free ?_))
/-! ### mirrors -/
def sideA (d : Door) (t : Nat) : Int := if t = 0 then d.1 else d.2.1
def sideB (d : Door) (t : Nat) : Int := if t = 0 then d.2.1 else d.1
abbrev DSt := List Int × List Int
def dTurn (dr : List Door) (us : List Bool) (k d : Nat) (st : DSt) (t : Nat) : DSt :=
  if ix us d = true ∧ sideA (ix dr d) t = ix st.2 k ∧ ix st.1 (sideB (ix dr d) t) < 0 then (st.1.set (sideB (ix dr d) t).toNat (ix st.1 (ix st.2 k) + 1), st.2 ++ [sideB (ix dr d) t]) else st
def dDoor (dr : List Door) (us : List Bool) (k : Nat) (st : DSt) (d : Nat) : DSt := iter (dTurn dr us k d) st 2
def dOut (dr : List Door) (us : List Bool) (st : DSt) (k : Nat) : DSt := if k < st.2.length then iter (dDoor dr us k) st dr.length else st
def dist0 (n : Nat) (s : Int) : DSt := ((List.replicate n (-1 : Int)).set s.toNat 0, [s])
def distRun (n : Nat) (dr : List Door) (us : List Bool) (s : Int) (k : Nat) : DSt := iter (dOut dr us) (dist0 n s) k
def distM (n : Nat) (dr : List Door) (us : List Bool) (s : Int) : List Int := (distRun n dr us s n).1
structure DG (n b : Nat) (st : DSt) : Prop where
  l : st.1.length = n
  q : ∀ x ∈ st.2, 0 ≤ x ∧ x < n
  b : st.2.length ≤ b
theorem sideA_in {n : Nat} {dr : List Door} (h : EndsOk n dr) {d : Nat} (hd : d < dr.length) (t : Nat) : 0 ≤ sideA (ix dr d) t ∧ sideA (ix dr d) t < n := by
  obtain ⟨a, b, c, e⟩ := h _ (mem_ix (xs := dr) (k := (d : Int)) (by omega) (by omega))
  unfold sideA
  split <;> omega
theorem sideB_in {n : Nat} {dr : List Door} (h : EndsOk n dr) {d : Nat} (hd : d < dr.length) (t : Nat) : 0 ≤ sideB (ix dr d) t ∧ sideB (ix dr d) t < n := by
  obtain ⟨a, b, c, e⟩ := h _ (mem_ix (xs := dr) (k := (d : Int)) (by omega) (by omega))
  unfold sideB
  split <;> omega
theorem DG.turn {n b : Nat} {dr : List Door} {us : List Bool} {k d : Nat} {st : DSt} (hE : EndsOk n dr) (hd : d < dr.length) (h : DG n b st) (t : Nat) : DG n (b + 1) (dTurn dr us k d st t) := by
  unfold dTurn
  split
  · refine ⟨by simp [h.l], fun x hx => ?_, by simp; exact h.b⟩
    rcases List.mem_append.mp hx with hx | hx
    · exact h.q x hx
    · have : x = sideB (ix dr d) t := by simpa using hx
      rw [this]; exact sideB_in hE hd t
  · exact ⟨h.l, h.q, Nat.le_succ_of_le h.b⟩
theorem DG.turns {n b : Nat} {dr : List Door} {us : List Bool} {k d : Nat} {st : DSt} (hE : EndsOk n dr) (hd : d < dr.length) (h : DG n b st) : ∀ t, DG n (b + t) (iter (dTurn dr us k d) st t)
  | 0 => h
  | t + 1 => (DG.turns hE hd h t).turn hE hd t
theorem DG.doors {n b : Nat} {dr : List Door} {us : List Bool} {k : Nat} {st : DSt} (hE : EndsOk n dr) (h : DG n b st) : ∀ d, d ≤ dr.length → DG n (b + 2 * d) (iter (dDoor dr us k) st d)
  | 0, _ => h
  | d + 1, hd => (DG.doors hE h d (by omega)).turns hE (by omega) 2
theorem DG.run {n : Nat} {dr : List Door} {us : List Bool} {s : Int} (hE : EndsOk n dr) (h0 : 0 ≤ s) (h1 : s < n) : ∀ k, DG n (1 + k * (2 * dr.length)) (distRun n dr us s k)
  | 0 => ⟨by simp [distRun, iter, dist0], fun x hx => by simp [distRun, iter, dist0] at hx; omega, by simp [distRun, iter, dist0]⟩
  | k + 1 => by
    have ih := DG.run hE h0 h1 (us := us) k
    show DG n _ (dOut dr us (distRun n dr us s k) k)
    unfold dOut
    rw [Nat.succ_mul]
    split
    · have := ih.doors hE (us := us) (k := k) dr.length (Nat.le_refl _)
      exact ⟨this.l, this.q, by have := this.b; omega⟩
    · exact ⟨ih.l, ih.q, by have := ih.b; omega⟩
theorem dTurn_pre {dr : List Door} {us : List Bool} {k d : Nat} {st : DSt} (t : Nat) : ∃ z, (dTurn dr us k d st t).2 = st.2 ++ z := by
  unfold dTurn
  split
  · exact ⟨_, rfl⟩
  · exact ⟨[], by simp⟩
abbrev WSt := List Int × Int
def wTurn (dr : List Door) (far : List Int) (k d : Nat) (st : WSt) (t : Nat) : WSt :=
  if (st.1.length : Int) = k ∧ sideA (ix dr d) t = st.2 ∧ ix far (sideB (ix dr d) t) = ix far st.2 - 1 then (st.1 ++ [(d : Int)], sideB (ix dr d) t) else st
def wDoor (dr : List Door) (far : List Int) (k : Nat) (st : WSt) (d : Nat) : WSt := iter (wTurn dr far k d) st 2
def wOut (dr : List Door) (far : List Int) (st : WSt) (k : Nat) : WSt := iter (wDoor dr far k) st dr.length
def wayRun (dr : List Door) (far : List Int) (near : Int) (k : Nat) : WSt := iter (wOut dr far) ([], near) k
def allT (dr : List Door) : List Bool := List.replicate dr.length true
def wayL (n : Nat) (dr : List Door) (near last : Int) : List Int := (wayRun dr (distM n dr (allT dr) last) near (ix (distM n dr (allT dr) last) near).toNat).1
theorem wTurn_in {n : Nat} {dr : List Door} {far : List Int} {k d : Nat} {st : WSt} (hE : EndsOk n dr) (hd : d < dr.length) (h : 0 ≤ st.2 ∧ st.2 < n) (t : Nat) : 0 ≤ (wTurn dr far k d st t).2 ∧ (wTurn dr far k d st t).2 < n := by
  unfold wTurn
  split
  · exact sideB_in hE hd t
  · exact h
theorem wTurns_in {n : Nat} {dr : List Door} {far : List Int} {k d : Nat} {st : WSt} (hE : EndsOk n dr) (hd : d < dr.length) (h : 0 ≤ st.2 ∧ st.2 < n) : ∀ t, 0 ≤ (iter (wTurn dr far k d) st t).2 ∧ (iter (wTurn dr far k d) st t).2 < n
  | 0 => h
  | t + 1 => wTurn_in hE hd (wTurns_in hE hd h t) t
theorem wDoors_in {n : Nat} {dr : List Door} {far : List Int} {k : Nat} {st : WSt} (hE : EndsOk n dr) (h : 0 ≤ st.2 ∧ st.2 < n) : ∀ d, d ≤ dr.length → 0 ≤ (iter (wDoor dr far k) st d).2 ∧ (iter (wDoor dr far k) st d).2 < n
  | 0, _ => h
  | d + 1, hd => wTurns_in hE (by omega) (wDoors_in hE h d (by omega)) 2
theorem wRun_in {n : Nat} {dr : List Door} {far : List Int} {near : Int} (hE : EndsOk n dr) (h : 0 ≤ near ∧ near < n) : ∀ k, 0 ≤ (wayRun dr far near k).2 ∧ (wayRun dr far near k).2 < n
  | 0 => h
  | k + 1 => wDoors_in hE (wRun_in hE h k) dr.length (Nat.le_refl _)
section
variable {P : Program} {w : World} {K : PySem.W.Frag} {mg : Str → Option Value} {base : Heap}
theorem at_B {d : Door} {t : Nat} (h : t < 2) : atD [.int d.1, .int d.2.1, .str (S d.2.2)] (1 - (t : Int)) (.int (sideB d t)) := by
  have : t = 0 ∨ t = 1 := by omega
  rcases this with rfl | rfl <;> exact ⟨by decide, rfl⟩
theorem at_A {d : Door} {t : Nat} (h : t < 2) : atD [.int d.1, .int d.2.1, .str (S d.2.2)] (t : Int) (.int (sideA d t)) := by
  have : t = 0 ∨ t = 1 := by omega
  rcases this with rfl | rfl <;> exact ⟨by decide, rfl⟩
theorem sc73 : FnScope ["_law_rooms", "_law_doors", "_law_usable", "_law_starts", "_law_far", "_law_queue", "_law_spot", "_law_k", "_law_door", "_law_turn", "_law_other"] ["_law_rooms", "_law_doors", "_law_usable", "_law_starts"] (defScope (topS 73)) := ⟨rfl, rfl, rfl, by decide +kernel, rfl, by decide +kernel, by decide +kernel⟩
def R_dist : List Dv → Res → Prop := fun ds res => ∃ (n : Nat) (dr : List Door) (us : List Bool) (s : Int), ds = [.int n, .lst (dr.map encDr), .lst (us.map Dv.bl), .lst [.int s]] ∧ n ≤ 100 ∧ dr.length ≤ 100 ∧ EndsOk n dr ∧ us.length = dr.length ∧ 0 ≤ s ∧ s < n ∧ res = .val (.lst ((distM n dr us s).map Dv.int))
theorem d_dist (T : Txt K mg) : Df P w K mg base "_law_distances" 1 R_dist := by
  have nd := sc73.nd
  refine df_mk (T.fn 73 "_law_distances" rfl) sc73 _ (fun ds res h => by obtain ⟨n, dr, us, s, rfl, _⟩ := h; rfl) (fun _ _ _ _ _ _ us hl => match us, hl with | [_, _, _, _], _ => rfl) (fun f cdv A outer s H E hr tk hp ds res h => ?_)
  obtain ⟨n, dr, us, s0, rfl, hn, hdl, hE, hul, h0, h1, rfl⟩ := h
  refine x_cons (stN 4 nd (en_rep (en_p (en_lst (ea_cons (ev_neg ev_int) ea_nil))) (vr 0 rfl) ⟨by omega, by omega, by simp; exact Nat.le_trans hn (by decide)⟩) ?_)
  refine x_cons (stN 5 nd (en_lst ea_nil) ?_)
  have e0 : (List.replicate (Int.toNat (n : Int)) [Dv.int (-1)]).flatten = (List.replicate n (-1 : Int)).map Dv.int := by simp
  rw [e0]
  refine x_cons (s_for (S := DSt) hp rfl (ei_list (vr 3 rfl)) (fun st => [.sh (.int n), .sh (.lst (dr.map encDr)), .sh (.lst (us.map Dv.bl)), .sh (.lst [.int s0]), .own (st.1.map Dv.int), .own (st.2.map Dv.int), .free, .free, .free, .free, .free]) (fun i st => st = if i = 0 then (List.replicate n (-1 : Int), []) else dist0 n s0) (List.replicate n (-1 : Int), []) rfl (by walk_at "less") ?_ ?_)
  · intro i st d hd hI
    have hi : i = 0 := by
      have := (List.getElem?_eq_some_iff.mp hd).1
      simpa using this
    subst hi
    have hd' : d = .int s0 := by simpa using hd.symm
    subst hd'
    rw [if_pos rfl] at hI
    subst hI
    have e1 : ix (List.replicate n (-1 : Int)) s0 = -1 := by
      have := ix_get (xs := List.replicate n (-1 : Int)) (k := s0) h0 (by simpa using h1)
      have hm := List.mem_of_getElem? this
      exact (List.mem_replicate.mp hm).2
    refine ⟨_, _, (tg 6 nd), ?_⟩
    refine x_cons (s_if (t := true) (eb_is (eb_lt (ixm (f := Dv.int) (vo 4 rfl) (vr 6 rfl) h0 (by simpa using h1)) ev_int) (by rw [e1]; rfl)) (fun hc => ?_) (fun hc => ?_))
    · refine x_cons (sub 4 rfl ev_int (vr 6 rfl) h0 (by simpa using h1) ?_)
      refine x_cons (app 5 rfl (vr 6 rfl) (by simp) ?_)
      refine x_nil (x_nil ⟨dist0 n s0, ?_, rfl⟩)
      unfold dist0
      rw [List.map_set]
      walk_at "less"
    · cases hc
  intro st0 hI0
  have hst0 : st0 = dist0 n s0 := hI0
  subst hst0
  refine x_cons (s_for (S := DSt) hp rfl (ei_rng (n := n) (vr 0 rfl) (by omega) rfl rfl T.range) (fun st => [.sh (.int n), .sh (.lst (dr.map encDr)), .sh (.lst (us.map Dv.bl)), .sh (.lst [.int s0]), .own (st.1.map Dv.int), .own (st.2.map Dv.int), .free, .free, .free, .free, .free]) (fun i st => st = distRun n dr us s0 i) (dist0 n s0) rfl (by walk_at "less") ?_ ?_)
  · intro i st d hd hI
    obtain ⟨rfl, hi⟩ := rng_get hd
    have hg := DG.run (us := us) hE h0 h1 i
    have hbd : i * (2 * dr.length) ≤ 100 * 200 := Nat.mul_le_mul (by omega) (by omega)
    rw [← hI] at hg
    have hnx : distRun n dr us s0 (i + 1) = dOut dr us st i := by rw [hI]; rfl
    refine ⟨_, _, (tg 7 nd), ?_⟩
    refine x_cons (s_if (eb_lt (vr 7 rfl) (ev_lenP (vo 5 rfl) rfl rfl T.len)) (fun hc => ?_) (fun hc => ?_))
    · have hc' : i < st.2.length := by
        have := of_decide_eq_true hc
        rw [List.length_map] at this
        omega
      have e1 : dOut dr us st i = iter (dDoor dr us i) st dr.length := by unfold dOut; rw [if_pos hc']
      refine x_cons (s_for (S := DSt) hp rfl (ei_rng (n := dr.length) (ev_is (ev_lenP (ev_p (vr 1 rfl)) rfl rfl T.len) (by simp)) (by omega) rfl rfl T.range) (fun st => [.sh (.int n), .sh (.lst (dr.map encDr)), .sh (.lst (us.map Dv.bl)), .sh (.lst [.int s0]), .own (st.1.map Dv.int), .own (st.2.map Dv.int), .free, .sh (.int (i : Int)), .free, .free, .free]) (fun j st' => st' = iter (dDoor dr us i) st j ∧ i < st'.2.length) st ⟨rfl, hc'⟩ (by walk_at "less") ?_ ?_)
      · intro j st' d hd hI'
        obtain ⟨rfl, hj⟩ := rng_get hd
        obtain ⟨hI', hlt⟩ := hI'
        have hg2 := hg.doors hE (us := us) (k := i) j (by omega)
        rw [← hI'] at hg2
        have hnx2 : iter (dDoor dr us i) st (j + 1) = iter (dTurn dr us i j) st' 2 := by rw [hI']; rfl
        refine ⟨_, _, (tg 8 nd), ?_⟩
        refine x_cons (s_for (S := DSt) hp rfl (ei_rng (n := 2) ev_int (by decide) rfl rfl T.range) (fun st => [.sh (.int n), .sh (.lst (dr.map encDr)), .sh (.lst (us.map Dv.bl)), .sh (.lst [.int s0]), .own (st.1.map Dv.int), .own (st.2.map Dv.int), .free, .sh (.int (i : Int)), .sh (.int (j : Int)), .free, .free]) (fun t st'' => st'' = iter (dTurn dr us i j) st' t ∧ i < st''.2.length) st' ⟨rfl, hlt⟩ (by walk_at "less") ?_ ?_)
        · intro t st'' d hd hI''
          obtain ⟨rfl, ht⟩ := rng_get hd
          obtain ⟨hI'', hlt2⟩ := hI''
          have hg3 := hg2.turns hE (us := us) (k := i) (d := j) hj t
          rw [← hI''] at hg3
          have hnx3 : iter (dTurn dr us i j) st' (t + 1) = dTurn dr us i j st'' t := by rw [hI'']; rfl
          have hqi := hg3.q _ (mem_ix (xs := st''.2) (k := (i : Int)) (by omega) (by omega))
          have hB := sideB_in hE hj t
          have hfl := hg3.l
          have hqb := hg3.b
          refine ⟨_, _, (tg 9 nd), ?_⟩
          refine x_cons (DT.st 10 nd (ev_ixT (ixm (f := encDr) (ev_p (vr 1 rfl)) (vr 8 rfl) (by omega) (by omega)) (ev_sub ev_int (vr 9 rfl)) (at_B ht) (fun _ _ => rfl)) ?_)
          refine x_cons (s_if (t := decide (ix us (j : Int) = true ∧ sideA (ix dr (j : Int)) t = ix st''.2 (i : Int) ∧ ix st''.1 (sideB (ix dr (j : Int)) t) < 0)) (eb_is (ew_b (ew_and (eb_val (ixm (f := Dv.bl) (ev_p (vr 2 rfl)) (vr 8 rfl) (by omega) (by omega))) (fun _ => (ew_and (eb_eq (ev_ixT (ixm (f := encDr) (ev_p (vr 1 rfl)) (vr 8 rfl) (by omega) (by omega)) (vr 9 rfl) (at_A ht) (fun _ _ => rfl)) (ixm (f := Dv.int) (vo 5 rfl) (vr 7 rfl) (by omega) (by omega))) (fun _ => (ew_and1 (eb_lt (ixm (f := Dv.int) (vo 4 rfl) (vr 10 rfl) hB.1 (by omega)) ev_int))))))) (by simp [Bool.decide_and])) (fun hc => ?_) (fun hc => ?_))
          · refine x_cons (sub 4 rfl (ev_add (ixm (f := Dv.int) (vo 4 rfl) (ixm (f := Dv.int) (vo 5 rfl) (vr 7 rfl) (by omega) (by omega)) hqi.1 (by omega)) ev_int) (vr 10 rfl) hB.1 (by rw [List.length_map]; omega) ?_)
            refine x_cons (app 5 rfl (vr 10 rfl) (by rw [List.length_map]; omega) ?_)
            refine x_nil (x_nil ⟨dTurn dr us i j st'' t, ?_, hnx3.symm, ?_⟩)
            · unfold dTurn
              rw [if_pos (of_decide_eq_true hc), List.map_set, List.map_append]
              walk_at "less"
            · unfold dTurn
              rw [if_pos (of_decide_eq_true hc), List.length_append]
              omega
          · refine x_nil (x_nil ⟨dTurn dr us i j st'' t, ?_, hnx3.symm, ?_⟩)
            · unfold dTurn
              rw [if_neg (of_decide_eq_false hc)]
              walk_at "less"
            · unfold dTurn
              rw [if_neg (of_decide_eq_false hc)]
              exact hlt2
        · intro st'' hI''
          refine x_nil ⟨st'', by walk_at "less", ?_, hI''.2⟩
          rw [hnx2, hI''.1]; rfl
      · intro st' hI'
        refine x_nil (x_nil ⟨st', by walk_at "less", ?_⟩)
        rw [hnx, e1, hI'.1, rng_len]
    · have hc' : ¬ i < st.2.length := by
        have := of_decide_eq_false hc
        rw [List.length_map] at this
        omega
      refine x_nil (x_nil ⟨st, by walk_at "less", ?_⟩)
      rw [hnx]
      unfold dOut
      rw [if_neg hc']
  · intro st hI
    refine x_frz 4 rfl ?_
    refine x_one (s_ret (vr 4 rfl) ?_)
    show Res.val _ = Res.val _
    rw [hI, rng_len]
    rfl

theorem sc74 : FnScope ["_law_rooms", "_law_doors", "_law_near", "_law_last", "_law_far", "_law_way_here", "_law_spot", "_law_k", "_law_door", "_law_turn", "_law_other"] ["_law_rooms", "_law_doors", "_law_near", "_law_last"] (defScope (topS 74)) := ⟨rfl, rfl, rfl, by decide +kernel, rfl, by decide +kernel, by decide +kernel⟩
def R_wayL : List Dv → Res → Prop := fun ds res => ∃ (n : Nat) (dr : List Door) (a b : Int), ds = [.int n, .lst (dr.map encDr), .int a, .int b] ∧ n ≤ 100 ∧ dr.length ≤ 100 ∧ EndsOk n dr ∧ (0 ≤ a ∧ a < n) ∧ (0 ≤ b ∧ b < n) ∧ (0 ≤ ix (distM n dr (allT dr) b) a ∧ ix (distM n dr (allT dr) b) a ≤ 1000) ∧ res = .val (.lst ((wayL n dr a b).map Dv.int))
theorem d_wayL (T : Txt K mg) : Df P w K mg base "_law_way" 2 R_wayL := by
  have nd := sc74.nd
  have D_dist := @d_dist P w K mg base T
  refine df_mk (T.fn 74 "_law_way" rfl) sc74 _ (fun ds res h => by obtain ⟨n, dr, a, b, rfl, _⟩ := h; rfl) (fun _ _ _ _ _ _ us hl => match us, hl with | [_, _, _, _], _ => rfl) (fun f cdv A outer s H E hr tk hp ds res h => ?_)
  obtain ⟨n, dr, a, b, rfl, hn, hdl, hE, ha, hb, hf, rfl⟩ := h
  have hfl : (distM n dr (allT dr) b).length = n := (DG.run (us := allT dr) hE hb.1 hb.2 n).l
  have e0 : (List.replicate (Int.toNat ((List.map encDr dr).length : Int)) [Dv.bl true]).flatten = (allT dr).map Dv.bl := by simp [allT]
  refine x_cons (DT.st 4 nd (ev_call D_dist (hr.mono (by decide)) rfl (ea_cons (vr 0 rfl) (ea_cons (vr 1 rfl) (ea_cons (ev_is (en_d (en_rep (en_p (en_lst (ea_cons ev_bl ea_nil))) (ev_lenP (ev_p (vr 1 rfl)) rfl rfl T.len) ⟨by omega, by rw [List.length_map]; omega, by simp; exact Nat.le_trans hdl (by decide)⟩)) (congrArg Dv.lst e0)) (ea_cons (en_d (en_lst (ea_cons (vr 3 rfl) ea_nil))) ea_nil)))) ⟨n, dr, allT dr, b, rfl, hn, hdl, hE, by simp [allT], hb.1, hb.2, rfl⟩ (by decide)) ?_)
  refine x_cons (stN 5 nd (en_lst ea_nil) ?_)
  refine x_cons (DT.st 6 nd (vr 2 rfl) ?_)
  generalize hfar : distM n dr (allT dr) b = far at hfl hf
  refine x_cons (s_for (S := WSt) hp rfl (ei_rng (n := (ix far a).toNat) (ev_is (ixm (f := Dv.int) (ev_p (vr 4 rfl)) (vr 2 rfl) ha.1 (by omega)) (by congr 1; omega)) (by omega) rfl rfl T.range) (fun st => [.sh (.int n), .sh (.lst (dr.map encDr)), .sh (.int a), .sh (.int b), .sh (.lst (far.map Dv.int)), .own (st.1.map Dv.int), .sh (.int st.2), .free, .free, .free, .free]) (fun i st => st = wayRun dr far a i) ([], a) rfl (by walk_at "less") ?_ ?_)
  · intro i st d hd hI
    obtain ⟨rfl, hi⟩ := rng_get hd
    have hin := wRun_in (far := far) hE ha i
    rw [← hI] at hin
    refine ⟨_, _, (tg 7 nd), ?_⟩
    refine x_cons (s_for (S := WSt) hp rfl (ei_rng (n := dr.length) (ev_is (ev_lenP (ev_p (vr 1 rfl)) rfl rfl T.len) (by simp)) (by omega) rfl rfl T.range) (fun st => [.sh (.int n), .sh (.lst (dr.map encDr)), .sh (.int a), .sh (.int b), .sh (.lst (far.map Dv.int)), .own (st.1.map Dv.int), .sh (.int st.2), .sh (.int (i : Int)), .free, .free, .free]) (fun j st' => st' = iter (wDoor dr far i) st j) st rfl (by walk_at "less") ?_ ?_)
    · intro j st' d hd hI'
      obtain ⟨rfl, hj⟩ := rng_get hd
      have hin2 := wDoors_in (far := far) (k := i) hE hin j (by omega)
      rw [← hI'] at hin2
      refine ⟨_, _, (tg 8 nd), ?_⟩
      refine x_cons (s_for (S := WSt) hp rfl (ei_rng (n := 2) ev_int (by decide) rfl rfl T.range) (fun st => [.sh (.int n), .sh (.lst (dr.map encDr)), .sh (.int a), .sh (.int b), .sh (.lst (far.map Dv.int)), .own (st.1.map Dv.int), .sh (.int st.2), .sh (.int (i : Int)), .sh (.int (j : Int)), .free, .free]) (fun t st'' => st'' = iter (wTurn dr far i j) st' t) st' rfl (by walk_at "less") ?_ ?_)
      · intro t st'' d hd hI''
        obtain ⟨rfl, ht⟩ := rng_get hd
        have hin3 := wTurns_in (far := far) (k := i) hE hj hin2 t
        rw [← hI''] at hin3
        have hnx3 : iter (wTurn dr far i j) st' (t + 1) = wTurn dr far i j st'' t := by rw [hI'']; rfl
        have hB := sideB_in hE hj t
        refine ⟨_, _, (tg 9 nd), ?_⟩
        refine x_cons (DT.st 10 nd (ev_ixT (ixm (f := encDr) (ev_p (vr 1 rfl)) (vr 8 rfl) (by omega) (by omega)) (ev_sub ev_int (vr 9 rfl)) (at_B ht) (fun _ _ => rfl)) ?_)
        refine x_cons (s_if (t := decide ((st''.1.length : Int) = i ∧ sideA (ix dr (j : Int)) t = st''.2 ∧ ix far (sideB (ix dr (j : Int)) t) = ix far st''.2 - 1)) (eb_is (ew_b (ew_and (eb_eq (ev_lenP (vo 5 rfl) rfl rfl T.len) (vr 7 rfl)) (fun _ => (ew_and (eb_eq (ev_ixT (ixm (f := encDr) (ev_p (vr 1 rfl)) (vr 8 rfl) (by omega) (by omega)) (vr 9 rfl) (at_A ht) (fun _ _ => rfl)) (vr 6 rfl)) (fun _ => (ew_and1 (eb_eq (ixm (f := Dv.int) (ev_p (vr 4 rfl)) (vr 10 rfl) hB.1 (by omega)) (ev_sub (ixm (f := Dv.int) (ev_p (vr 4 rfl)) (vr 6 rfl) hin3.1 (by omega)) ev_int)))))))) (by rw [List.length_map]; simp [Bool.decide_and])) (fun hc => ?_) (fun hc => ?_))
        · have hc' := of_decide_eq_true hc
          refine x_cons (app 5 rfl (vr 8 rfl) (by rw [List.length_map]; omega) ?_)
          refine x_cons (DT.st 6 nd (vr 10 rfl) ?_)
          refine x_nil (x_nil ⟨_, ?_, hnx3.symm⟩)
          unfold wTurn
          rw [if_pos hc', List.map_append]
          walk_at "less"
        · refine x_nil (x_nil ⟨_, ?_, hnx3.symm⟩)
          unfold wTurn
          rw [if_neg (of_decide_eq_false hc)]
          walk_at "less"
      · intro st'' hI''
        refine x_nil ⟨st'', by walk_at "less", ?_⟩
        rw [hI'', rng_len, hI']; rfl
    · intro st' hI'
      refine x_nil ⟨st', by walk_at "less", ?_⟩
      rw [hI', rng_len, hI]; rfl
  · intro st hI
    refine x_frz 5 rfl ?_
    refine x_one (s_ret (vr 5 rfl) ?_)
    show Res.val _ = Res.val _
    unfold wayL
    rw [hfar, hI, rng_len]
end
end DT

set_option Elab.async false
set_option linter.all false
set_option maxRecDepth 100000
namespace DT
open PySem PySem.Spec L2
open PyProof.Rows hiding St
open SX (S)
local macro_rules | `(tactic| walk_at "less") => `(tactic| repeat (first | exact DT.Less.nil | refine DT.Less.cons ?_ | refine DT.Less.free ?_))
/-! ### mirrors -/
def roomStep (c : Int) (wish : Bool) (st : Nat × List Door) (k : Nat) : Nat × List Door := if wish = true ∧ st.1 = 1 then houseM (c + 104729 * ((k : Int) + 1)) else st
def roomyM (c : Int) (wish : Bool) : Nat × List Door := iter (roomStep c wish) (houseM c) 6
theorem roomy_is (c : Int) (wish : Bool) : ∀ k, ∃ c', iter (roomStep c wish) (houseM c) k = houseM c'
  | 0 => ⟨c, rfl⟩
  | k + 1 => by
    obtain ⟨c', h⟩ := roomy_is c wish k
    show ∃ c', roomStep c wish (iter (roomStep c wish) (houseM c) k) k = houseM c'
    unfold roomStep
    split
    · exact ⟨_, rfl⟩
    · exact ⟨c', h⟩
def ordStep (row : List Int) (l : List Int) (k : Nat) : List Int := insAt l (ix row (k : Int) % ((k : Int) + 1)) (k : Int)
def ordL (row : List Int) (n : Nat) : List Int := iter (ordStep row) [] n
theorem ordL_len (row : List Int) : ∀ n, (ordL row n).length = n
  | 0 => rfl
  | n + 1 => (insAt_len _ _ _).trans (congrArg (· + 1) (ordL_len row n))
def laidD (row ord : List Int) (dr : List Door) (k : Nat) : Door :=
  (if 30 ≤ ix row (k : Int) then ix ord ((k : Int) + 1) else ix ord (k : Int), if 30 ≤ ix row (k : Int) then ix ord (k : Int) else ix ord ((k : Int) + 1), (ix dr (k : Int)).2.2)
def laidStep (row ord : List Int) (dr l : List Door) (k : Nat) : List Door := insAt l ((ix row (k : Int) / 7) % ((l.length : Int) + 1)) (laidD row ord dr k)
def laidRun (row ord : List Int) (dr : List Door) (k : Nat) : List Door := iter (laidStep row ord dr) [] k
theorem laidRun_len (row ord : List Int) (dr : List Door) : ∀ k, (laidRun row ord dr k).length = k
  | 0 => rfl
  | k + 1 => (insAt_len _ _ _).trans (congrArg (· + 1) (laidRun_len row ord dr k))
def sz60 (n : Nat) : List Int := List.replicate n 60
def laidM (c : Int) (n : Nat) (dr : List Door) : List Door := laidRun (rowM c (sz60 n)) (ordL (rowM c (sz60 n)) n) dr (n - 1)
theorem ix_rep {α : Type} [Inhabited α] {x : α} {n : Nat} {k : Int} (h0 : 0 ≤ k) (h1 : k < n) : ix (List.replicate n x) k = x := by
  have := List.mem_of_getElem? (ix_get (xs := List.replicate n x) (k := k) h0 (by simpa using h1))
  exact (List.mem_replicate.mp this).2
theorem sz60_ok (n : Nat) (h : n ≤ 100) : SzOk (sz60 n) := ⟨fun s hs => by rw [(List.mem_replicate.mp hs).2]; decide, by simp [sz60]; omega⟩
def parts : List (List Nat) := [[82, 66], [82, 82, 66], [82, 82, 82, 66]]
def letS (row : List Int) (k j : Nat) : List Nat := iter (fun l j => l ++ ix parts (ix row (5 * (k : Int) + 1 + (j : Int)))) [] j
def letF (row : List Int) (k : Nat) : List Nat := letS row k (1 + ix row (5 * (k : Int))).toNat
def turnOf (row : List Int) (k : Nat) : Nat := (ix row (5 * (k : Int) + 4) % ((letF row k).length : Int)).toNat
def swiftC (row : List Int) (k : Nat) : List Nat := (letF row k).drop (turnOf row k) ++ (letF row k).take (turnOf row k)
def swiftStep (row : List Int) (dr l : List Door) (k : Nat) : List Door := l ++ [((ix dr (k : Int)).1, (ix dr (k : Int)).2.1, swiftC row k)]
def swiftRun (row : List Int) (dr : List Door) (k : Nat) : List Door := iter (swiftStep row dr) [] k
def sz5 (m : Nat) : List Int := (List.replicate m [(3 : Int), 3, 3, 3, 12]).flatten
def swiftL (c : Int) (dr : List Door) : List Door := swiftRun (rowM c (sz5 dr.length)) dr dr.length
theorem swiftRun_len (row : List Int) (dr : List Door) : ∀ k, (swiftRun row dr k).length = k
  | 0 => rfl
  | k + 1 => by
    show (swiftRun row dr k ++ _).length = k + 1
    rw [List.length_append, swiftRun_len row dr k]; rfl
theorem sz5_len : ∀ m, (sz5 m).length = 5 * m
  | 0 => rfl
  | m + 1 => by
    unfold sz5
    rw [List.replicate_succ, List.flatten_cons, List.length_append]
    have := sz5_len m
    unfold sz5 at this
    rw [this]
    simp; omega
theorem sz5_get : ∀ (m k j : Nat), k < m → j < 5 → (sz5 m)[5 * k + j]? = ([(3 : Int), 3, 3, 3, 12])[j]?
  | 0, k, j, h, _ => by omega
  | m + 1, k, j, h, hj => by
    unfold sz5
    rw [List.replicate_succ, List.flatten_cons]
    cases k with
    | zero => rw [List.getElem?_append_left (by simp; omega)]; congr 1; omega
    | succ k =>
      rw [List.getElem?_append_right (by simp; omega)]
      have := sz5_get m k j (by omega) hj
      unfold sz5 at this
      rw [← this]
      congr 1
      simp; omega
theorem sz5_at (m k : Nat) (h : k < m) : ix (sz5 m) (5 * (k : Int)) = 3 ∧ ix (sz5 m) (5 * (k : Int) + 1) = 3 ∧ ix (sz5 m) (5 * (k : Int) + 2) = 3 ∧ ix (sz5 m) (5 * (k : Int) + 3) = 3 ∧ ix (sz5 m) (5 * (k : Int) + 4) = 12 := by
  have g := fun j hj => sz5_get m k j h hj
  exact ⟨ix_some (g 0 (by decide)) (by omega), ix_some (g 1 (by decide)) (by omega), ix_some (g 2 (by decide)) (by omega), ix_some (g 3 (by decide)) (by omega), ix_some (g 4 (by decide)) (by omega)⟩
theorem sz5_ok (m : Nat) (h : m ≤ 100) : SzOk (sz5 m) := by
  refine ⟨fun s hs => ?_, by rw [sz5_len]; omega⟩
  unfold sz5 at hs
  rw [List.mem_flatten] at hs
  obtain ⟨l, hl, hs⟩ := hs
  rw [(List.mem_replicate.mp hl).2] at hs
  simp at hs
  omega
theorem letS_bd (row : List Int) (k : Nat) : ∀ j, (∀ i : Nat, i < j → 0 ≤ ix row (5 * (k : Int) + 1 + (i : Int)) ∧ ix row (5 * (k : Int) + 1 + (i : Int)) < 3) → 2 * j ≤ (letS row k j).length ∧ (letS row k j).length ≤ 4 * j
  | 0, _ => ⟨Nat.le_refl _, Nat.le_refl _⟩
  | j + 1, h => by
    have ih := letS_bd row k j fun i hi => h i (by omega)
    have hp : 2 ≤ (ix parts (ix row (5 * (k : Int) + 1 + (j : Int)))).length ∧ (ix parts (ix row (5 * (k : Int) + 1 + (j : Int)))).length ≤ 4 := by
      have := h j (by omega)
      generalize ix row (5 * (k : Int) + 1 + (j : Int)) = x at this
      have : x = 0 ∨ x = 1 ∨ x = 2 := by omega
      rcases this with rfl | rfl | rfl <;> decide
    have e : letS row k (j + 1) = letS row k j ++ ix parts (ix row (5 * (k : Int) + 1 + (j : Int))) := rfl
    rw [e, List.length_append]
    omega
theorem cut_from (l : List Nat) (t : Nat) (h : t ≤ l.length) : cutS (S l) (some (t : Int)) none = S (l.drop t) := by
  unfold cutS
  have hl : (S l).length = l.length := SX.S_len l
  rw [HT.sIx_nat, HT.sIx_none, hl, Nat.min_eq_left h]
  show (⟨((l.drop t).take (l.length - t)).toArray⟩ : Str) = ⟨(l.drop t).toArray⟩
  rw [List.take_of_length_le (by rw [List.length_drop]; omega)]
theorem cut_to (l : List Nat) (t : Nat) (h : t ≤ l.length) : cutS (S l) none (some (t : Int)) = S (l.take t) := by
  unfold cutS
  have hl : (S l).length = l.length := SX.S_len l
  rw [HT.sIx_nat, HT.sIx_none, hl, Nat.min_eq_left h]
  show (⟨((l.drop 0).take (t - 0)).toArray⟩ : Str) = ⟨(l.take t).toArray⟩
  simp
section
variable {P : Program} {w : World} {K : PySem.W.Frag} {mg : Str → Option Value} {base : Heap}
theorem sc75 : FnScope ["_law_cell_here", "_law_most", "_law_longest", "_law_wish", "_law_drawn", "_law_k"] ["_law_cell_here", "_law_most", "_law_longest", "_law_wish"] (defScope (topS 75)) := ⟨rfl, rfl, rfl, by decide +kernel, rfl, by decide +kernel, by decide +kernel⟩
def R_roomy : List Dv → Res → Prop := fun ds res => ∃ (c : Int) (wish : Bool), ds = [.int c, .int 6, .int 2, .bl wish] ∧ res = .val (encHs (roomyM c wish))
theorem d_roomy (T : Txt K mg) : Df P w K mg base "_law_roomy" 3 R_roomy := by
  have nd := sc75.nd
  have D_house := @d_house P w K mg base T
  refine df_mk (T.fn 75 "_law_roomy" rfl) sc75 _ (fun ds res h => by obtain ⟨c, wish, rfl, rfl⟩ := h; rfl) (fun _ _ _ _ _ _ us hl => match us, hl with | [_, _, _, _], _ => rfl) (fun f cdv A outer s H E hr tk hp ds res h => ?_)
  obtain ⟨c, wish, rfl, rfl⟩ := h
  refine x_cons (DT.st 4 nd (ev_call D_house (hr.mono (by decide)) rfl (ea_cons (vr 0 rfl) (ea_cons (vr 1 rfl) (ea_cons ev_int (ea_cons (vr 2 rfl) (ea_cons ev_bl ea_nil))))) ⟨c, rfl, rfl⟩ (by decide)) ?_)
  refine x_cons (s_for (S := Nat × List Door) hp rfl (ei_rng (n := 6) ev_int (by decide) rfl rfl T.range) (fun st => [.sh (.int c), .sh (.int 6), .sh (.int 2), .sh (.bl wish), .sh (encHs st), .free]) (fun i st => st = iter (roomStep c wish) (houseM c) i) (houseM c) rfl (by walk_at "less") ?_ ?_)
  · intro i st d hd hI
    obtain ⟨rfl, hi⟩ := rng_get hd
    have hnx : iter (roomStep c wish) (houseM c) (i + 1) = roomStep c wish st i := by rw [hI]; rfl
    refine ⟨_, _, (tg 5 nd), ?_⟩
    refine x_cons (s_if (t := decide (wish = true ∧ st.1 = 1)) (eb_is (ew_b (ew_and (eb_val (vr 3 rfl)) (fun _ => (ew_and1 (eb_eq (ixt (vr 4 rfl) ⟨by decide, rfl⟩) ev_int))))) (by
      have : decide ((st.1 : Int) = 1) = decide (st.1 = 1) := by
        by_cases h : st.1 = 1
        · rw [h]; rfl
        · rw [decide_eq_false h, decide_eq_false (by omega)]
      rw [this]; simp [Bool.decide_and])) (fun hc => ?_) (fun hc => ?_))
    · refine x_cons (DT.st 4 nd (ev_call D_house (hr.mono (by decide)) rfl (ea_cons (ev_add (vr 0 rfl) (ev_mul ev_int (ev_add (vr 5 rfl) ev_int) (.inl (by decide)))) (ea_cons (vr 1 rfl) (ea_cons ev_int (ea_cons (vr 2 rfl) (ea_cons ev_bl ea_nil))))) ⟨_, rfl, rfl⟩ (by decide)) ?_)
      refine x_nil (x_nil ⟨_, ?_, hnx.symm⟩)
      unfold roomStep
      rw [if_pos (of_decide_eq_true hc)]
      walk_at "less"
    · refine x_nil (x_nil ⟨_, ?_, hnx.symm⟩)
      unfold roomStep
      rw [if_neg (of_decide_eq_false hc)]
      walk_at "less"
  · intro st hI
    refine x_one (s_ret (vr 4 rfl) ?_)
    show Res.val _ = Res.val _
    rw [hI, rng_len]; rfl

theorem sc76 : FnScope ["_law_rooms", "_law_doors", "_law_cell_here", "_law_row_here", "_law_order", "_law_k", "_law_made", "_law_ends"] ["_law_rooms", "_law_doors", "_law_cell_here"] (defScope (topS 76)) := ⟨rfl, rfl, rfl, by decide +kernel, rfl, by decide +kernel, by decide +kernel⟩
def R_laid : List Dv → Res → Prop := fun ds res => ∃ (c : Int) (n : Nat) (dr : List Door), ds = [.int n, .lst (dr.map encDr), .int c] ∧ 1 ≤ n ∧ n ≤ 100 ∧ dr.length = n - 1 ∧ res = .val (.lst ((laidM c n dr).map encDr))
theorem d_laid (T : Txt K mg) : Df P w K mg base "_law_laid" 2 R_laid := by
  have nd := sc76.nd
  have D_row := @d_row P w K mg base T
  refine df_mk (T.fn 76 "_law_laid" rfl) sc76 _ (fun ds res h => by obtain ⟨c, n, dr, rfl, _⟩ := h; rfl) (fun _ _ _ _ _ _ us hl => match us, hl with | [_, _, _], _ => rfl) (fun f cdv A outer s H E hr tk hp ds res h => ?_)
  obtain ⟨c, n, dr, rfl, n1, n2, hdl, rfl⟩ := h
  have hrl := rowM_len c (sz60 n)
  have hrb := rowM_bd c (sz60 n) (sz60_ok n n2)
  have hsl : (sz60 n).length = n := by simp [sz60]
  rw [hsl] at hrl
  have e0 : (List.replicate (n : Int).toNat [Dv.int 60]).flatten = (sz60 n).map Dv.int := by simp [sz60]
  refine x_cons (DT.st 3 nd (ev_call D_row (hr.mono (by decide)) rfl (ea_cons (vr 2 rfl) (ea_cons (ev_is (en_d (en_rep (en_p (en_lst (ea_cons ev_int ea_nil))) (vr 0 rfl) ⟨by omega, by omega, by simp; exact Nat.le_trans n2 (by decide)⟩)) (congrArg Dv.lst e0)) ea_nil)) ⟨c, sz60 n, rfl, sz60_ok n n2, rfl⟩ (by decide)) ?_)
  unfold laidM
  generalize hrow : rowM c (sz60 n) = row at hrl hrb
  refine x_cons (stN 4 nd (en_lst ea_nil) ?_)
  refine x_cons (s_for (S := List Int) hp rfl (ei_rng (n := n) (vr 0 rfl) (by omega) rfl rfl T.range) (fun l => [.sh (.int n), .sh (.lst (dr.map encDr)), .sh (.int c), .sh (.lst (row.map Dv.int)), .own (l.map Dv.int), .free, .free, .free]) (fun i l => l = ordL row i) [] rfl (by walk_at "less") ?_ ?_)
  · intro i l d hd hI
    obtain ⟨rfl, hi⟩ := rng_get hd
    have hll : l.length = i := by rw [hI, ordL_len]
    have m1 := Int.emod_lt_of_pos (ix row (i : Int)) (show (0 : Int) < (i : Int) + 1 by omega)
    have m2 := Int.emod_nonneg (ix row (i : Int)) (show ((i : Int) + 1) ≠ 0 by omega)
    refine ⟨_, _, (tg 5 nd), ?_⟩
    refine x_cons (ins 4 rfl (ev_mod (ev_intI (ixm (f := Dv.int) (ev_p (vr 3 rfl)) (vr 5 rfl) (by omega) (by omega)) rfl (by rfl) T.int) (ev_add (vr 5 rfl) ev_int) (by omega)) (vr 5 rfl) m2 (by omega) (by rw [List.length_map]; omega) ?_)
    refine x_nil ⟨ordL row (i + 1), ?_, rfl⟩
    have e : ordL row (i + 1) = insAt l (ix row (i : Int) % ((i : Int) + 1)) (i : Int) := by rw [hI]; rfl
    rw [e, ← insAt_map Dv.int]
    walk_at "less"
  intro ord hI
  rw [rng_len] at hI
  have hol : ord.length = n := by rw [hI, ordL_len]
  refine x_cons (stN 6 nd (en_lst ea_nil) ?_)
  refine x_cons (s_for (S := List Door) hp rfl (ei_rng (n := n - 1) (ev_is (ev_sub (vr 0 rfl) ev_int) (by congr 1; omega)) (by omega) rfl rfl T.range) (fun l => [.sh (.int n), .sh (.lst (dr.map encDr)), .sh (.int c), .sh (.lst (row.map Dv.int)), .own (ord.map Dv.int), .free, .own (l.map encDr), .free]) (fun i l => l = laidRun row ord dr i) [] rfl (by walk_at "less") ?_ ?_)
  · intro i l d hd hIl
    obtain ⟨rfl, hi⟩ := rng_get hd
    have hll : l.length = i := by rw [hIl, laidRun_len]
    have m3 := Int.emod_lt_of_pos (ix row (i : Int) / 7) (show (0 : Int) < (l.length : Int) + 1 by omega)
    have m4 := Int.emod_nonneg (ix row (i : Int) / 7) (show ((l.length : Int) + 1) ≠ 0 by omega)
    refine ⟨_, _, (tg 5 nd), ?_⟩
    refine x_cons (DT.st 7 nd (en_d (en_lst (ea_cons (ixm (f := Dv.int) (vo 4 rfl) (vr 5 rfl) (by omega) (by omega)) (ea_cons (ixm (f := Dv.int) (vo 4 rfl) (ev_add (vr 5 rfl) ev_int) (by omega) (by omega)) ea_nil)))) ?_)
    refine x_cons (ifset (d1 := .lst [.int (ix ord ((i : Int) + 1)), .int (ix ord (i : Int))]) 7 nd (eb_ge (ixm (f := Dv.int) (ev_p (vr 3 rfl)) (vr 5 rfl) (by omega) (by omega)) ev_int) rfl (fun _ => (en_d (en_lst (ea_cons (ixm (f := Dv.int) (vo 4 rfl) (ev_add (vr 5 rfl) ev_int) (by omega) (by omega)) (ea_cons (ixm (f := Dv.int) (vo 4 rfl) (vr 5 rfl) (by omega) (by omega)) ea_nil))))) ?_)
    have e1 : (if decide (30 ≤ ix row (i : Int)) = true then Dv.lst [.int (ix ord ((i : Int) + 1)), .int (ix ord (i : Int))] else Dv.lst [.int (ix ord (i : Int)), .int (ix ord ((i : Int) + 1))]) = Dv.lst [.int (laidD row ord dr i).1, .int (laidD row ord dr i).2.1] := by
      unfold laidD
      by_cases h : 30 ≤ ix row (i : Int)
      · rw [if_pos (decide_eq_true h), if_pos h, if_pos h]
      · rw [if_neg (by simp [h]), if_neg h, if_neg h]
    rw [e1]
    refine x_cons (ins 6 rfl (ev_mod (ev_intI (ev_fdiv (ixm (f := Dv.int) (ev_p (vr 3 rfl)) (vr 5 rfl) (by omega) (by omega)) ev_int ⟨by decide, by decide +kernel⟩) rfl (by rfl) T.int) (ev_is (ev_add (ev_lenP (vo 6 rfl) rfl rfl T.len) ev_int) (by rw [List.length_map])) (by omega)) (ev_tup (ea_cons (ixl (ev_p (vr 7 rfl)) ⟨by decide, rfl⟩) (ea_cons (ixl (ev_p (vr 7 rfl)) ⟨by decide, rfl⟩) (ea_cons (ixt (ixm (f := encDr) (ev_p (vr 1 rfl)) (vr 5 rfl) (by omega) (by omega)) ⟨by decide, rfl⟩) ea_nil)))) m4 (by omega) (by rw [List.length_map]; omega) ?_)
    refine x_nil ⟨laidRun row ord dr (i + 1), ?_, rfl⟩
    have e : laidRun row ord dr (i + 1) = insAt l ((ix row (i : Int) / 7) % ((l.length : Int) + 1)) (laidD row ord dr i) := by rw [hIl]; rfl
    rw [e, ← insAt_map encDr]
    walk_at "less"
  · intro l hIl
    rw [rng_len] at hIl
    refine x_frz 6 rfl ?_
    refine x_one (s_ret (vr 6 rfl) ?_)
    show Res.val _ = Res.val _
    rw [hIl, hI]

theorem sc77 : FnScope ["_law_cell_here", "_law_doors", "_law_row_here", "_law_made", "_law_k", "_law_letters", "_law_j", "_law_turn"] ["_law_cell_here", "_law_doors"] (defScope (topS 77)) := ⟨rfl, rfl, rfl, by decide +kernel, rfl, by decide +kernel, by decide +kernel⟩
def R_swiftL : List Dv → Res → Prop := fun ds res => ∃ (c : Int) (dr : List Door), ds = [.int c, .lst (dr.map encDr)] ∧ dr.length ≤ 100 ∧ res = .val (.lst ((swiftL c dr).map encDr))
theorem d_swiftL (T : Txt K mg) : Df P w K mg base "_law_swift" 2 R_swiftL := by
  have nd := sc77.nd
  have D_row := @d_row P w K mg base T
  refine df_mk (T.fn 77 "_law_swift" rfl) sc77 _ (fun ds res h => by obtain ⟨c, dr, rfl, _⟩ := h; rfl) (fun _ _ _ _ _ _ us hl => match us, hl with | [_, _], _ => rfl) (fun f cdv A outer s H E hr tk hp ds res h => ?_)
  obtain ⟨c, dr, rfl, hdl, rfl⟩ := h
  have hrl := rowM_len c (sz5 dr.length)
  have hrb := rowM_bd c (sz5 dr.length) (sz5_ok _ hdl)
  have hsl := sz5_len dr.length
  rw [hsl] at hrl
  have e0 : (List.replicate (Int.toNat ((List.map encDr dr).length : Int)) [Dv.int 3, Dv.int 3, Dv.int 3, Dv.int 3, Dv.int 12]).flatten = (sz5 dr.length).map Dv.int := by
    unfold sz5
    rw [List.map_flatten, List.map_replicate, List.length_map]
    rfl
  refine x_cons (DT.st 2 nd (ev_call D_row (hr.mono (by decide)) rfl (ea_cons (vr 0 rfl) (ea_cons (ev_is (en_d (en_rep (en_p (en_lst (ea_cons ev_int (ea_cons ev_int (ea_cons ev_int (ea_cons ev_int (ea_cons ev_int ea_nil))))))) (ev_lenP (ev_p (vr 1 rfl)) rfl rfl T.len) ⟨by omega, by rw [List.length_map]; omega, by simp; exact Nat.le_trans (show 5 * dr.length ≤ 500 by omega) (by decide)⟩)) (congrArg Dv.lst e0)) ea_nil)) ⟨c, sz5 dr.length, rfl, sz5_ok _ hdl, rfl⟩ (by decide)) ?_)
  unfold swiftL
  generalize hrow : rowM c (sz5 dr.length) = row at hrl hrb
  refine x_cons (stN 3 nd (en_lst ea_nil) ?_)
  refine x_cons (s_for (S := List Door) hp rfl (ei_rng (n := dr.length) (ev_is (ev_lenP (ev_p (vr 1 rfl)) rfl rfl T.len) (by simp)) (by omega) rfl rfl T.range) (fun l => [.sh (.int c), .sh (.lst (dr.map encDr)), .sh (.lst (row.map Dv.int)), .own (l.map encDr), .free, .free, .free, .free]) (fun i l => l = swiftRun row dr i) [] rfl (by walk_at "less") ?_ ?_)
  · intro i l d hd hI
    obtain ⟨rfl, hi⟩ := rng_get hd
    have hll : l.length = i := by rw [hI, swiftRun_len]
    obtain ⟨z0, z1, z2, z3, z4⟩ := sz5_at dr.length i hi
    have b0 := hrb (5 * (i : Int)) (by omega) (by omega)
    have b1 := hrb (5 * (i : Int) + 1) (by omega) (by omega)
    have b2 := hrb (5 * (i : Int) + 2) (by omega) (by omega)
    have b3 := hrb (5 * (i : Int) + 3) (by omega) (by omega)
    have b4 := hrb (5 * (i : Int) + 4) (by omega) (by omega)
    rw [z0] at b0
    rw [z1] at b1
    rw [z2] at b2
    rw [z3] at b3
    rw [z4] at b4
    have hpt : ∀ j : Nat, j < 3 → 0 ≤ ix row (5 * (i : Int) + 1 + (j : Int)) ∧ ix row (5 * (i : Int) + 1 + (j : Int)) < 3 := fun j hj => by
      have : j = 0 ∨ j = 1 ∨ j = 2 := by omega
      rcases this with rfl | rfl | rfl
      · simpa using b1
      · have e : 5 * (i : Int) + 1 + ((1 : Nat) : Int) = 5 * (i : Int) + 2 := by omega
        rw [e]; exact b2
      · have e : 5 * (i : Int) + 1 + ((2 : Nat) : Int) = 5 * (i : Int) + 3 := by omega
        rw [e]; exact b3
    refine ⟨_, _, (tg 4 nd), ?_⟩
    refine x_cons (DT.st 5 nd (cs []) ?_)
    refine x_cons (s_for (S := List Nat) hp rfl (ei_rng (n := (1 + ix row (5 * (i : Int))).toNat) (ev_is (ev_add ev_int (ixm (f := Dv.int) (ev_p (vr 2 rfl)) (ev_mul ev_int (vr 4 rfl) (.inl (by decide))) (by omega) (by omega))) (by congr 1; omega)) (by omega) rfl rfl T.range) (fun z => [.sh (.int c), .sh (.lst (dr.map encDr)), .sh (.lst (row.map Dv.int)), .own (l.map encDr), .sh (.int (i : Int)), .sh (.str (S z)), .free, .free]) (fun j z => z = letS row i j) [] rfl (by walk_at "less") ?_ ?_)
    · intro j z d hd hI'
      obtain ⟨rfl, hj⟩ := rng_get hd
      have hzl := (letS_bd row i j fun q hq => hpt q (by omega)).2
      rw [← hI'] at hzl
      have hp3 := hpt j (by omega)
      have hpl : (ix parts (ix row (5 * (i : Int) + 1 + (j : Int)))).length ≤ 4 := by
        generalize ix row (5 * (i : Int) + 1 + (j : Int)) = x at hp3
        have : x = 0 ∨ x = 1 ∨ x = 2 := by omega
        rcases this with rfl | rfl | rfl <;> decide
      refine ⟨_, _, (tg 6 nd), ?_⟩
      refine x_cons (DT.st 5 nd (addS (vr 5 rfl) (ixm (xs := parts) (f := fun l => Dv.str (S l)) (en_p (en_lst (ea_cons (cs [82, 66]) (ea_cons (cs [82, 82, 66]) (ea_cons (cs [82, 82, 82, 66]) ea_nil))))) (ixm (f := Dv.int) (ev_p (vr 2 rfl)) (ev_add (ev_add (ev_mul ev_int (vr 4 rfl) (.inl (by decide))) ev_int) (vr 6 rfl)) (by omega) (by omega)) hp3.1 hp3.2) (by omega)) ?_)
      exact x_nil ⟨letS row i (j + 1), (by rw [hI']; walk_at "less"), rfl⟩
    intro z hI'
    rw [rng_len] at hI'
    have hz : z = letF row i := hI'
    have hzl := letS_bd row i (1 + ix row (5 * (i : Int))).toNat fun q hq => hpt q (by omega)
    rw [← hI'] at hzl
    have m1 := Int.emod_lt_of_pos (ix row (5 * (i : Int) + 4)) (show (0 : Int) < (z.length : Int) by omega)
    have m2 := Int.emod_nonneg (ix row (5 * (i : Int) + 4)) (show (z.length : Int) ≠ 0 by omega)
    have ht : ((turnOf row i : Nat) : Int) = ix row (5 * (i : Int) + 4) % (z.length : Int) := by
      unfold turnOf
      rw [← hz]; omega
    refine x_cons (DT.st 7 nd (d := .int ((turnOf row i : Nat) : Int)) (ev_is (ev_mod (ev_intI (ixm (f := Dv.int) (ev_p (vr 2 rfl)) (ev_add (ev_mul ev_int (vr 4 rfl) (.inl (by decide))) ev_int) (by omega) (by omega)) rfl (by rfl) T.int) (lenS (vr 5 rfl) (by omega) rfl rfl T.len) (by omega)) (by rw [ht])) ?_)
    have e1 := cut_from z (turnOf row i) (by omega)
    have e2 := cut_to z (turnOf row i) (by omega)
    refine x_cons (app 3 rfl (ev_tup (ea_cons (ixt (ixm (f := encDr) (ev_p (vr 1 rfl)) (vr 4 rfl) (by omega) (by omega)) ⟨by decide, rfl⟩) (ea_cons (ixt (ixm (f := encDr) (ev_p (vr 1 rfl)) (vr 4 rfl) (by omega) (by omega)) ⟨by decide, rfl⟩) (ea_cons (addS (ev_is (ev_sliceS (i := some ((turnOf row i : Nat) : Int)) (j := none) (vr 5 rfl) (vr 7 rfl) trivial (by rw [SX.S_len]; exact Nat.le_trans (show z.length ≤ 100 by omega) (by decide))) (congrArg Dv.str e1)) (ev_is (ev_sliceS (i := none) (j := some ((turnOf row i : Nat) : Int)) (vr 5 rfl) trivial (vr 7 rfl) (by rw [SX.S_len]; exact Nat.le_trans (show z.length ≤ 100 by omega) (by decide))) (congrArg Dv.str e2)) (by rw [List.length_drop, List.length_take]; omega)) ea_nil)))) (by rw [List.length_map]; omega) ?_)
    refine x_nil ⟨swiftRun row dr (i + 1), ?_, rfl⟩
    have e : swiftRun row dr (i + 1) = l ++ [((ix dr (i : Int)).1, (ix dr (i : Int)).2.1, z.drop (turnOf row i) ++ z.take (turnOf row i))] := by rw [hI, hz]; rfl
    rw [e, List.map_append]
    walk_at "less"
  · intro l hI
    refine x_frz 3 rfl ?_
    refine x_one (s_ret (vr 3 rfl) ?_)
    show Res.val _ = Res.val _
    rw [hI, rng_len]
end
end DT

set_option Elab.async false
set_option linter.all false
set_option maxRecDepth 100000
namespace DT
open PySem PySem.Spec L2
open PyProof.Rows hiding St
open SX (S)
local macro_rules | `(tactic| walk_at "less") => `(tactic| repeat (first | exact DT.Less.nil | refine DT.Less.cons ?_ | refine DT.Less.free ?_))
/-! ### mirrors -/
structure GraphOk (n : Nat) (dr : List Door) : Prop where
  n1 : 1 ≤ n
  n2 : n ≤ 100
  dl : dr.length ≤ 100
  ends : EndsOk n dr
  far : ∀ a b : Int, 0 ≤ a → a < n → 0 ≤ b → b < n → 0 ≤ ix (distM n dr (allT dr) b) a ∧ ix (distM n dr (allT dr) b) a ≤ 1000
def argM (ns : List Int) : Nat := ns.findIdx fun x => ns.all fun y => decide (y ≤ x)
theorem has_max : ∀ ns : List Int, ns ≠ [] → ∃ x ∈ ns, ∀ y ∈ ns, y ≤ x
  | [], h => absurd rfl h
  | [a], _ => ⟨a, by simp, by simp⟩
  | a :: b :: r, _ => by
    obtain ⟨x, h1, h2⟩ := has_max (b :: r) (by simp)
    by_cases h : a ≤ x
    · exact ⟨x, List.mem_cons_of_mem _ h1, fun y hy => by
        rcases List.mem_cons.mp hy with rfl | hy
        · exact h
        · exact h2 y hy⟩
    · exact ⟨a, List.mem_cons_self, fun y hy => by
        rcases List.mem_cons.mp hy with rfl | hy
        · exact Int.le_refl _
        · have := h2 y hy; omega⟩
theorem argM_ok {ns : List Int} (h : ns ≠ []) : argM ns < ns.length ∧ (∀ y ∈ ns, y ≤ ix ns (argM ns : Nat)) ∧ ∀ (m : Nat) (z : Int), m < argM ns → ns[m]? = some z → z ≠ ix ns (argM ns : Nat) := by
  obtain ⟨x, hx, hm⟩ := has_max ns h
  have h1 : argM ns < ns.length := List.findIdx_lt_length_of_exists ⟨x, hx, by rw [List.all_eq_true]; exact fun y hy => decide_eq_true (hm y hy)⟩
  have h2 := List.findIdx_getElem (xs := ns) (p := fun x => ns.all fun y => decide (y ≤ x)) (w := h1)
  have e : ix ns (argM ns : Nat) = ns[argM ns] := ix_of (List.getElem?_eq_getElem h1)
  have h3 : ∀ y ∈ ns, y ≤ ix ns (argM ns : Nat) := fun y hy => by
    rw [e]
    exact of_decide_eq_true (List.all_eq_true.mp h2 y hy)
  refine ⟨h1, h3, fun m z hm hz hzx => ?_⟩
  have hlt := (List.getElem?_eq_some_iff.mp hz)
  obtain ⟨hml, hme⟩ := hlt
  have h4 := List.not_of_lt_findIdx (xs := ns) (p := fun x => ns.all fun y => decide (y ≤ x)) (i := m) hm
  have h5 : (ns.all fun y => decide (y ≤ ns[m])) = true := by
    rw [List.all_eq_true]
    intro y hy
    rw [hme, hzx]
    exact decide_eq_true (h3 y hy)
  exact absurd h5 (by simpa using h4)
def lsz : List Int := [60, 4, 60, 60, 60, 4]
def lLast (bits : List Int) (n : Nat) : Int := ix bits 0 % (n : Int)
def lNear (bits : List Int) (n : Nat) (far : List Int) : Int := if ix bits 1 = 0 then ix bits 2 % (n : Int) else (argM far : Nat)
def lHands (bits : List Int) (hs : List Hand) (near last : Int) : List Hand :=
  insAt (insAt hs (ix bits 3 % ((hs.length : Int) + 1)) ([82], near)) (ix bits 4 % ((hs.length : Int) + 1 + 1)) ([66], last)
def lLetter (d : Door) (k : Nat) (way : List Int) (last b5 : Int) : List Nat := if (k : Int) ∈ way then [82] else if 0 < b5 ∧ (d.1 = last ∨ d.2.1 = last) then [66] else []
def marksN (cyc letter : List Nat) : List Nat := (List.range cyc.length).filter fun m => decide ([ix cyc (m : Int)] = letter)
def marksM (cyc letter : List Nat) : List Int := (marksN cyc letter).map fun m : Nat => (m : Int)
def litStep (dr : List Door) (way : List Int) (last b5 : Int) (l : List Int) (k : Nat) : List Int :=
  if marksM (ix dr (k : Int)).2.2 (lLetter (ix dr (k : Int)) k way last b5) = [] then l
  else l.set k (ix (marksM (ix dr (k : Int)).2.2 (lLetter (ix dr (k : Int)) k way last b5)) (ix l (k : Int) % ((marksM (ix dr (k : Int)).2.2 (lLetter (ix dr (k : Int)) k way last b5)).length : Int)))
def litRun (dr : List Door) (way : List Int) (last b5 : Int) (ps : List Int) (k : Nat) : List Int := iter (litStep dr way last b5) ps k
theorem litRun_len (dr : List Door) (way : List Int) (last b5 : Int) (ps : List Int) (k : Nat) : (litRun dr way last b5 ps k).length = ps.length :=
  iter_len (fun s k => by unfold litStep; split <;> simp) ps k
def luredM (c : Int) (n : Nat) (dr : List Door) (hs : List Hand) (ps : List Int) : St2 :=
  let bits := rowM c lsz
  let last := lLast bits n
  let near := lNear bits n (distM n dr (allT dr) last)
  (lHands bits hs near last, litRun dr (wayL n dr near last) last (ix bits 5) ps dr.length)
abbrev Best := Option (Int × Int × Int)
def litB (dr : List Door) (ps : List Int) : List Bool := (lightsM dr ps).map fun c => decide (c = 82)
def cIn (hs : List Hand) (far : List Int) (red : Nat) (best : Best) (blue : Nat) : Best :=
  match best with
  | none => if (ix hs (blue : Int)).1 = [66] ∧ 0 ≤ ix far (ix hs (blue : Int)).2 then some ((red : Int), (blue : Int), ix far (ix hs (blue : Int)).2) else none
  | some b => if (ix hs (blue : Int)).1 = [66] ∧ 0 ≤ ix far (ix hs (blue : Int)).2 ∧ ix far (ix hs (blue : Int)).2 < b.2.2 then some ((red : Int), (blue : Int), ix far (ix hs (blue : Int)).2) else some b
def cOut (n : Nat) (dr : List Door) (us : List Bool) (hs : List Hand) (best : Best) (red : Nat) : Best :=
  if (ix hs (red : Int)).1 = [82] then iter (cIn hs (distM n dr us (ix hs (red : Int)).2) red) best hs.length else best
def chasedL (n : Nat) (dr : List Door) (hs : List Hand) (ps : List Int) : Best := iter (cOut n dr (litB dr ps) hs) none hs.length
def encB : Best → Dv
  | none => .non
  | some b => encP3 b
section
variable {P : Program} {w : World} {K : PySem.W.Frag} {mg : Str → Option Value} {base : Heap}
theorem any_ints {l : List Int} {q : Int} : ((l.map Dv.int).any fun y => eqD y (.int q)) = decide (q ∈ l) := by
  induction l with
  | nil => rfl
  | cons a l ih =>
    rw [List.map_cons, List.any_cons, ih]
    show (a == q || decide (q ∈ l)) = decide (q ∈ a :: l)
    by_cases h : a = q
    · subst h; simp
    · have h2 : ¬ q = a := fun z => h z.symm
      simp [h, h2]
theorem flat_ints {l : List Int} : (l.map Dv.int).all flatD = true := by
  induction l with
  | nil => rfl
  | cons a l ih => rw [List.map_cons, List.all_cons, ih]; rfl
theorem lsz_ok : SzOk lsz := ⟨by decide, by decide⟩
theorem sc78 : FnScope ["_law_rooms", "_law_doors", "_law_hands_here", "_law_places_here", "_law_cell_here", "_law_bits", "_law_last", "_law_far", "_law_near", "_law_made", "_law_way_here", "_law_lit", "_law_door", "_law_cycle", "_law_letter", "_law_marks", "_law_mark"] ["_law_rooms", "_law_doors", "_law_hands_here", "_law_places_here", "_law_cell_here"] (defScope (topS 78)) := ⟨rfl, rfl, rfl, by decide +kernel, rfl, by decide +kernel, by decide +kernel⟩
def R_lured : List Dv → Res → Prop := fun ds res => ∃ (c : Int) (n : Nat) (dr : List Door) (hs : List Hand) (ps : List Int), ds = [.int n, .lst (dr.map encDr), .lst (hs.map encH), .lst (ps.map Dv.int), .int c] ∧ GraphOk n dr ∧ CyLen dr ∧ ps.length = dr.length ∧ hs.length ≤ 90 ∧ res = .val (encS2 (luredM c n dr hs ps))
set_option maxHeartbeats 4000000 in
theorem d_lured (T : Txt K mg) : Df P w K mg base "_law_lured" 3 R_lured := by
  have nd := sc78.nd
  have D_row := @d_row P w K mg base T
  have D_dist := @d_dist P w K mg base T
  have D_wayL := @d_wayL P w K mg base T
  refine df_mk (T.fn 78 "_law_lured" rfl) sc78 _ (fun ds res h => by obtain ⟨c, n, dr, hs, ps, rfl, _⟩ := h; rfl) (fun _ _ _ _ _ _ us hl => match us, hl with | [_, _, _, _, _], _ => rfl) (fun f cdv A outer s H E hr tk hp ds res h => ?_)
  obtain ⟨c, n, dr, hs, ps, rfl, hG, hC, hpl, hhl, rfl⟩ := h
  have n1 := hG.n1
  have n2 := hG.n2
  have hdl := hG.dl
  have hrl := rowM_len c lsz
  have hrb := rowM_bd c lsz lsz_ok
  have hsl : lsz.length = 6 := by decide
  rw [hsl] at hrl
  refine x_cons (DT.st 5 nd (ev_call D_row (hr.mono (by decide)) rfl (ea_cons (vr 4 rfl) (ea_cons (en_d (en_lst (ea_cons ev_int (ea_cons ev_int (ea_cons ev_int (ea_cons ev_int (ea_cons ev_int (ea_cons ev_int ea_nil)))))))) ea_nil)) ⟨c, lsz, rfl, lsz_ok, rfl⟩ (by decide)) ?_)
  unfold luredM
  generalize hrow : rowM c lsz = bits at hrl hrb
  dsimp only
  have m1 := Int.emod_lt_of_pos (ix bits 0) (show (0 : Int) < (n : Int) by omega)
  have m2 := Int.emod_nonneg (ix bits 0) (show (n : Int) ≠ 0 by omega)
  have e0 : (List.replicate (Int.toNat ((List.map encDr dr).length : Int)) [Dv.bl true]).flatten = (allT dr).map Dv.bl := by simp [allT]
  refine x_cons (DT.st 6 nd (d := .int (lLast bits n)) (ev_mod (ev_intI (ixm (f := Dv.int) (ev_p (vr 5 rfl)) ev_int (by omega) (by omega)) rfl (by rfl) T.int) (vr 0 rfl) (by omega)) ?_)
  have hl1 : 0 ≤ lLast bits n ∧ lLast bits n < n := ⟨m2, m1⟩
  generalize hlast : lLast bits n = last at hl1
  refine x_cons (DT.st 7 nd (ev_call D_dist (hr.mono (by decide)) rfl (ea_cons (vr 0 rfl) (ea_cons (vr 1 rfl) (ea_cons (ev_is (en_d (en_rep (en_p (en_lst (ea_cons ev_bl ea_nil))) (ev_lenP (ev_p (vr 1 rfl)) rfl rfl T.len) ⟨by omega, by rw [List.length_map]; omega, by simp; exact Nat.le_trans hdl (by decide)⟩)) (congrArg Dv.lst e0)) (ea_cons (en_d (en_lst (ea_cons (vr 6 rfl) ea_nil))) ea_nil)))) ⟨n, dr, allT dr, last, rfl, n2, hdl, hG.ends, by simp [allT], hl1.1, hl1.2, rfl⟩ (by decide)) ?_)
  have hfl : (distM n dr (allT dr) last).length = n := (DG.run (us := allT dr) hG.ends hl1.1 hl1.2 n).l
  have hfb := fun a h0 h1 => hG.far a last h0 h1 hl1.1 hl1.2
  generalize hfar : distM n dr (allT dr) last = far at hfl hfb
  have hfne : far ≠ [] := fun z => by rw [z] at hfl; simp at hfl; omega
  obtain ⟨a1, a2, a3⟩ := argM_ok hfne
  refine x_cons (DT.st 8 nd (d := .int ((argM far : Nat) : Int)) (ev_index (j := argM far) (ev_p (vr 7 rfl)) rfl (ev_max (m := ix far (argM far : Nat)) rfl (ev_p (vr 7 rfl)) (by omega) (fun m' hm' hall => by
    have h1 := a2 m' hm'
    have h2 := hall _ (mem_ix (xs := far) (k := ((argM far : Nat) : Int)) (by omega) (by omega))
    omega) rfl rfl T.max) (by have := ix_get (xs := far) (k := ((argM far : Nat) : Int)) (by omega) (by omega); simpa using this) a3) ?_)
  refine x_cons (ifset (d1 := .int (ix bits 2 % (n : Int))) 8 nd (eb_eq (ixm (f := Dv.int) (ev_p (vr 5 rfl)) ev_int (by omega) (by omega)) ev_int) rfl (fun _ => ev_mod (ev_intI (ixm (f := Dv.int) (ev_p (vr 5 rfl)) ev_int (by omega) (by omega)) rfl (by rfl) T.int) (vr 0 rfl) (by omega)) ?_)
  have m3 := Int.emod_lt_of_pos (ix bits 2) (show (0 : Int) < (n : Int) by omega)
  have m4 := Int.emod_nonneg (ix bits 2) (show (n : Int) ≠ 0 by omega)
  have e1 : (if decide (ix bits 1 = 0) = true then Dv.int (ix bits 2 % (n : Int)) else Dv.int ((argM far : Nat) : Int)) = Dv.int (lNear bits n far) := by
    unfold lNear
    by_cases h : ix bits 1 = 0
    · rw [if_pos (decide_eq_true h), if_pos h]
    · rw [if_neg (by simp [h]), if_neg h]
  rw [e1]
  have hn1 : 0 ≤ lNear bits n far ∧ lNear bits n far < n := by
    unfold lNear
    split <;> omega
  generalize hnear : lNear bits n far = near at hn1
  have m5 := Int.emod_lt_of_pos (ix bits 3) (show (0 : Int) < (hs.length : Int) + 1 by omega)
  have m6 := Int.emod_nonneg (ix bits 3) (show (hs.length : Int) + 1 ≠ 0 by omega)
  have m7 := Int.emod_lt_of_pos (ix bits 4) (show (0 : Int) < (hs.length : Int) + 1 + 1 by omega)
  have m8 := Int.emod_nonneg (ix bits 4) (show (hs.length : Int) + 1 + 1 ≠ 0 by omega)
  refine x_cons (stN 9 nd (en_listP (ev_p (vr 2 rfl)) rfl (by rfl) T.list) ?_)
  refine x_cons (ins (j := ix bits 3 % ((hs.length : Int) + 1)) 9 rfl (ev_mod (ev_intI (ixm (f := Dv.int) (ev_p (vr 5 rfl)) ev_int (by omega) (by omega)) rfl (by rfl) T.int) (ev_is (ev_add (ev_lenP (vo 9 rfl) rfl rfl T.len) ev_int) (by rw [List.length_map])) (by omega)) (ev_tup (ea_cons (cs [82]) (ea_cons (vr 8 rfl) ea_nil))) m6 (by omega) (by rw [List.length_map]; omega) ?_)
  have e2 := insAt_map encH hs (ix bits 3 % ((hs.length : Int) + 1)) ([82], near)
  have hl2 : (insAt hs (ix bits 3 % ((hs.length : Int) + 1)) (([82] : List Nat), near)).length = hs.length + 1 := insAt_len _ _ _
  generalize hh2 : insAt hs (ix bits 3 % ((hs.length : Int) + 1)) (([82] : List Nat), near) = hs2 at e2 hl2
  refine x_less (G' := [.sh (.int n), .sh (.lst (dr.map encDr)), .sh (.lst (hs.map encH)), .sh (.lst (ps.map Dv.int)), .sh (.int c), .sh (.lst (bits.map Dv.int)), .sh (.int last), .sh (.lst (far.map Dv.int)), .sh (.int near), .own (hs2.map encH), .free, .free, .free, .free, .free, .free, .free]) (by rw [← e2]; walk_at "less") ?_
  refine x_cons (ins (j := ix bits 4 % ((hs.length : Int) + 1 + 1)) 9 rfl (ev_mod (ev_intI (ixm (f := Dv.int) (ev_p (vr 5 rfl)) ev_int (by omega) (by omega)) rfl (by rfl) T.int) (ev_is (ev_add (ev_lenP (vo 9 rfl) rfl rfl T.len) ev_int) (by rw [List.length_map, hl2]; congr 1)) (by omega)) (ev_tup (ea_cons (cs [66]) (ea_cons (vr 6 rfl) ea_nil))) m8 (by omega) (by rw [List.length_map]; omega) ?_)
  have e3 := insAt_map encH hs2 (ix bits 4 % ((hs.length : Int) + 1 + 1)) ([66], last)
  generalize hh3 : insAt hs2 (ix bits 4 % ((hs.length : Int) + 1 + 1)) (([66] : List Nat), last) = hs3 at e3
  refine x_less (G' := [.sh (.int n), .sh (.lst (dr.map encDr)), .sh (.lst (hs.map encH)), .sh (.lst (ps.map Dv.int)), .sh (.int c), .sh (.lst (bits.map Dv.int)), .sh (.int last), .sh (.lst (far.map Dv.int)), .sh (.int near), .own (hs3.map encH), .free, .free, .free, .free, .free, .free, .free]) (by rw [← e3]; walk_at "less") ?_
  have hwf := hfb near hn1.1 hn1.2
  refine x_cons (DT.st 10 nd (ev_call D_wayL (hr.mono (by decide)) rfl (ea_cons (vr 0 rfl) (ea_cons (vr 1 rfl) (ea_cons (vr 8 rfl) (ea_cons (vr 6 rfl) ea_nil)))) ⟨n, dr, near, last, rfl, n2, hdl, hG.ends, hn1, hl1, by rw [hfar]; exact hwf, rfl⟩ (by decide)) ?_)
  generalize hway : wayL n dr near last = way
  refine x_cons (stN 11 nd (en_listP (ev_p (vr 3 rfl)) rfl (by rfl) T.list) ?_)
  refine x_cons (s_for (S := List Int) hp rfl (ei_rng (n := dr.length) (ev_is (ev_lenP (ev_p (vr 1 rfl)) rfl rfl T.len) (by simp)) (by omega) rfl rfl T.range) (fun l => [.sh (.int n), .sh (.lst (dr.map encDr)), .sh (.lst (hs.map encH)), .sh (.lst (ps.map Dv.int)), .sh (.int c), .sh (.lst (bits.map Dv.int)), .sh (.int last), .sh (.lst (far.map Dv.int)), .sh (.int near), .own (hs3.map encH), .sh (.lst (way.map Dv.int)), .own (l.map Dv.int), .free, .free, .free, .free, .free]) (fun i l => l = litRun dr way last (ix bits 5) ps i) ps rfl (by walk_at "less") ?_ ?_)
  · intro i l d hd hI
    obtain ⟨rfl, hi⟩ := rng_get hd
    have hll : l.length = dr.length := by rw [hI, litRun_len, hpl]
    have hcl := hC.2 _ (mem_ix (xs := dr) (k := (i : Int)) (by omega) (by omega))
    have hnx : litRun dr way last (ix bits 5) ps (i + 1) = litStep dr way last (ix bits 5) l i := by rw [hI]; rfl
    refine ⟨_, _, (tg 12 nd), ?_⟩
    refine x_cons (DT.st 13 nd (ixt (ixm (f := encDr) (ev_p (vr 1 rfl)) (vr 12 rfl) (by omega) (by omega)) ⟨by decide, rfl⟩) ?_)
    refine x_cons (DT.st 14 nd (cs []) ?_)
    generalize hlet : lLetter (ix dr (i : Int)) i way last (ix bits 5) = letter
    refine x_cut (fun o => o = .nx [.sh (.int n), .sh (.lst (dr.map encDr)), .sh (.lst (hs.map encH)), .sh (.lst (ps.map Dv.int)), .sh (.int c), .sh (.lst (bits.map Dv.int)), .sh (.int last), .sh (.lst (far.map Dv.int)), .sh (.int near), .own (hs3.map encH), .sh (.lst (way.map Dv.int)), .own (l.map Dv.int), .sh (.int (i : Int)), .sh (.str (S (ix dr (i : Int)).2.2)), .sh (.str (S letter)), .free, .free]) ?_ ?_ (fun _ h => nomatch h) (fun _ h => nomatch h)
    · refine s_if (eb_is (eb_inL (vr 12 rfl) (ev_p (vr 10 rfl)) rfl flat_ints (by rfl)) any_ints) (fun hc => ?_) (fun hc => ?_)
      · have hc' := of_decide_eq_true hc
        refine x_one (DT.st 14 nd (cs [82]) ?_)
        rw [← hlet]; unfold lLetter; rw [if_pos hc']; rfl
      · have hc' := of_decide_eq_false hc
        refine x_one (s_if (t := decide (0 < ix bits 5 ∧ ((ix dr (i : Int)).1 = last ∨ (ix dr (i : Int)).2.1 = last))) (eb_is (ew_b (ew_and (eb_gt (ixm (f := Dv.int) (ev_p (vr 5 rfl)) ev_int (by omega) (by omega)) ev_int) (fun _ => (ew_and1 (eb_is (eb_inL (ds := [(ix dr (i : Int)).1, (ix dr (i : Int)).2.1].map Dv.int) (vr 6 rfl) (en_p (en_lst (ea_cons (ixt (ixm (f := encDr) (ev_p (vr 1 rfl)) (vr 12 rfl) (by omega) (by omega)) ⟨by decide, rfl⟩) (ea_cons (ixt (ixm (f := encDr) (ev_p (vr 1 rfl)) (vr 12 rfl) (by omega) (by omega)) ⟨by decide, rfl⟩) ea_nil)))) rfl flat_ints (by rfl)) any_ints))))) (by
          have : decide (last ∈ [(ix dr (i : Int)).1, (ix dr (i : Int)).2.1]) = decide ((ix dr (i : Int)).1 = last ∨ (ix dr (i : Int)).2.1 = last) := by
            rw [decide_eq_decide]
            simp [eq_comm]
          rw [this]; simp [Bool.decide_and])) (fun hc2 => ?_) (fun hc2 => ?_))
        · refine x_one (DT.st 14 nd (cs [66]) ?_)
          rw [← hlet]; unfold lLetter; rw [if_neg hc', if_pos (of_decide_eq_true hc2)]; rfl
        · refine x_nil ?_
          rw [← hlet]; unfold lLetter; rw [if_neg hc', if_neg (of_decide_eq_false hc2)]; rfl
    intro G' hG'
    cases hG'
    generalize hcyc : (ix dr (i : Int)).2.2 = cyc at hcl
    have emk : ((List.range cyc.length).filter fun m : Nat => decide ([ix cyc (m : Int)] = letter)).map (fun i : Nat => Dv.int (i : Int)) = (marksM cyc letter).map Dv.int := by
      unfold marksM marksN
      rw [List.map_map]; rfl
    refine x_cons (s_setLc 15 rfl nd rfl rfl (sw_true rfl rfl rfl (by decide +kernel)) (lc_if (own := [("_law_mark", 16)]) (xs := List.range cyc.length) (fun i : Nat => Dv.int (i : Int)) (fun m : Nat => decide ([ix cyc (m : Int)] = letter)) (fun i : Nat => Dv.int (i : Int)) (ei_rng (n := cyc.length) (lenS (vr 13 rfl) (by omega) rfl rfl T.len) (by omega) rfl rfl T.range) (by simp; omega) (blkOk_by (by kernel_rfl)) (fun x hx => turn_if (by decide) (fun _ _ _ _ _ => (tg 16 nd)) (fun _ _ _ _ _ => (eqS (ixS (vr 13 rfl) (vr 16 rfl) (by omega) (by omega) (by have := List.mem_range.mp hx; omega)) (vr 14 rfl))) (fun _ _ _ _ _ _ => (vr 16 rfl)))) ?_)
    refine x_frz 15 rfl ?_
    rw [emk]
    have hmk : litStep dr way last (ix bits 5) l i = if marksM cyc letter = [] then l else l.set i (ix (marksM cyc letter) (ix l (i : Int) % ((marksM cyc letter).length : Int))) := by
      unfold litStep
      rw [hcyc, hlet]
    generalize hmks : marksM cyc letter = mk at hmk
    refine x_cons (s_if (t := !mk.isEmpty) (eb_is (neNil hr.units (ev_p (vr 15 rfl)) (fun d hd => by obtain ⟨x, _, rfl⟩ := List.mem_map.mp hd; exact eqOk_int x)) (by cases mk <;> rfl)) (fun hc => ?_) (fun hc => ?_))
    · have hne : mk ≠ [] := by intro z; rw [z] at hc; cases hc
      have hpos := List.length_pos_iff.mpr hne
      have q1 := Int.emod_lt_of_pos (ix l (i : Int)) (show (0 : Int) < (mk.length : Int) by omega)
      have q2 := Int.emod_nonneg (ix l (i : Int)) (show (mk.length : Int) ≠ 0 by omega)
      refine x_cons (sub 11 rfl (ixm (f := Dv.int) (ev_p (vr 15 rfl)) (ev_mod (ev_intI (ixm (f := Dv.int) (vo 11 rfl) (vr 12 rfl) (by omega) (by omega)) rfl (by rfl) T.int) (ev_is (ev_lenP (ev_p (vr 15 rfl)) rfl rfl T.len) (by rw [List.length_map])) (by omega)) q2 q1) (vr 12 rfl) (by omega) (by rw [List.length_map]; omega) ?_)
      refine x_nil (x_nil ⟨_, ?_, hnx.symm⟩)
      rw [hmk, if_neg hne, List.map_set]
      walk_at "less"
    · have he : mk = [] := by cases mk with
        | nil => rfl
        | cons a b => cases hc
      refine x_nil (x_nil ⟨_, ?_, hnx.symm⟩)
      rw [hmk, if_pos he]
      walk_at "less"
  · intro l hI
    rw [rng_len] at hI
    refine x_frz 9 rfl ?_
    refine x_frz 11 rfl ?_
    refine x_one (s_ret (ev_tup (ea_cons (vr 9 rfl) (ea_cons (vr 11 rfl) ea_nil))) ?_)
    show Res.val _ = Res.val _
    unfold encS2 lHands
    rw [hI, hh2, hh3]
end
end DT

set_option Elab.async false
set_option linter.all false
set_option maxRecDepth 100000
namespace DT
open PySem PySem.Spec L2
open PyProof.Rows hiding St
open SX (S)
local macro_rules | `(tactic| walk_at "less") => `(tactic| repeat (first | exact DT.Less.nil | refine DT.Less.cons ?_ | refine DT.Less.free ?_))
/-! ### mirrors -/
def metM (hs : List Hand) : Bool := !(hs.filter fun h => decide (h.1 = [82]) && decide ((([66] : List Nat), h.2) ∈ hs)).isEmpty
def choiceM (dr : List Door) (st : St2) (c : Nat) : List (Int × Int) := (possM dr st.1 st.2).filter fun q => decide ((ix st.1 q.1).1 = [c])
def flightC (dr : List Door) (st : St2) (ch bit : Int) : List (Int × Int) :=
  if bit = 0 ∧ ((choiceM dr st 66).filter fun q => decide (q.1 = ch)) ≠ [] then (choiceM dr st 66).filter fun q => decide (q.1 = ch) else choiceM dr st 66
def flightM (dr : List Door) (st : St2) (ch bit num : Int) : Option St2 :=
  if num % (((flightC dr st ch bit).length : Int) + 1) = ((flightC dr st ch bit).length : Int) then some st
  else deedM dr st.1 st.2 (ix (flightC dr st ch bit) (num % (((flightC dr st ch bit).length : Int) + 1))).1 (ix (flightC dr st ch bit) (num % (((flightC dr st ch bit).length : Int) + 1))).2
def caughtM (hs : List Hand) (sp : List Bool) : List Hand := hs.filter fun h => decide (h.1 = [66]) && ix sp h.2
def HCodes (hs : List Hand) : Prop := ∀ h ∈ hs, Codes h.1
theorem poss_mem (dr : List Door) (hs : List Hand) (ps : List Int) : ∀ q ∈ possM dr hs ps, (deedM dr hs ps q.1 q.2).isSome = true := by
  have key : ∀ (h : Nat) (l : List (Int × Int)), (∀ q ∈ l, (deedM dr hs ps q.1 q.2).isSome = true) → ∀ k, ∀ q ∈ iter (posIn dr hs ps h) l k, (deedM dr hs ps q.1 q.2).isSome = true := by
    intro h l hl k
    induction k with
    | zero => exact hl
    | succ k ih =>
      intro q hq
      have hq' : q ∈ posIn dr hs ps h (iter (posIn dr hs ps h) l k) k := hq
      unfold posIn at hq'
      split at hq'
      · rename_i hs'
        rcases List.mem_append.mp hq' with h1 | h1
        · exact ih q h1
        · have : q = ((h : Int), (k : Int)) := by simpa using h1
          rw [this]; exact hs'
      · exact ih q hq'
  have key2 : ∀ k, ∀ q ∈ iter (posOut dr hs ps) [] k, (deedM dr hs ps q.1 q.2).isSome = true := by
    intro k
    induction k with
    | zero => intro q hq; cases hq
    | succ k ih => exact key k _ ih dr.length
  exact key2 hs.length
theorem deed_range {dr : List Door} {hs : List Hand} {ps : List Int} {h d : Int} (x : (deedM dr hs ps h d).isSome = true) : (0 ≤ h ∧ h < hs.length) ∧ 0 ≤ d ∧ d < dr.length := by
  unfold deedM at x
  split at x
  · cases x
  · omega
section
variable {X : Cx} {W : WX} {G : List Slot} {a b c e o : Expr} {es rest : List Expr} {pos p p2 : Pos} {d d0 d1 d2 d3 : Dv} {ds ds1 ds2 : List Dv} {k : Out → Prop}
theorem eb_inD (hu : X.A.units + 65 < cLine) (ha : EvD X G a d) (hb : EvP X G b ds) (h1 : EqOk d) (h2 : ∀ d ∈ ds, EqOk d) (hm : behindInMarks .In b = false) : EvB X G (.Compare a [.In] [b] pos) ((pys ds).any fun z => PyData.eqv z (py d)) :=
  eb_cmpP (op_inD hu) ha hb (fun B H v l ws Q s r1 e2 r2 q => ⟨py d, pys ds, Rp.dp s _ _ r1 h1.1, .lst (.inl (.inl e2)) (Rps.dp s _ _ r2 (eqOk_all ds h2).1), by
    unfold SeqAt.shaped
    rw [Bool.and_eq_true]
    exact ⟨h1.2.1, decide_eq_true (by have := h1.2.2; omega)⟩, shaped_list h2, q⟩) hm
theorem eqv_H (x y : Hand) : PyData.eqv (py (encH x)) (py (encH y)) = decide (x = y) := by
  obtain ⟨a, i⟩ := x
  obtain ⟨b, j⟩ := y
  show PyData.eqv (.tuple [.str (S a), .int i]) (.tuple [.str (S b), .int j]) = _
  simp only [PyData.eqv, PyData.eqvAll, SX.S_beq, Bool.and_true]
  by_cases h1 : a = b
  · subst h1
    by_cases h2 : i = j
    · subst h2; simp
    · have : ¬ (a, i) = (a, j) := by intro z; exact h2 (Prod.mk.inj z).2
      rw [decide_eq_false this]; simp [h2]
  · have : ¬ (a, i) = (b, j) := by intro z; exact h1 (Prod.mk.inj z).1
    rw [decide_eq_false this]; simp [h1]
theorem any_H (hs : List Hand) (x : Hand) : ((pys (hs.map encH)).any fun z => PyData.eqv z (py (encH x))) = decide (x ∈ hs) := by
  rw [pys_map]
  induction hs with
  | nil => rfl
  | cons h hs ih =>
    rw [List.map_cons, List.map_cons, List.any_cons, ih, eqv_H]
    by_cases e : h = x
    · subst e; simp
    · have : ¬ x = h := fun z => e z.symm
      simp [e, this]
end
section
variable {P : Program} {w : World} {K : PySem.W.Frag} {mg : Str → Option Value} {base : Heap}
theorem sc79 : FnScope ["_law_rooms", "_law_doors", "_law_hands_here", "_law_places_here", "_law_lit", "_law_best", "_law_red", "_law_far", "_law_blue", "_law_distance", "_law_letter"] ["_law_rooms", "_law_doors", "_law_hands_here", "_law_places_here"] (defScope (topS 79)) := ⟨rfl, rfl, rfl, by decide +kernel, rfl, by decide +kernel, by decide +kernel⟩
def R_chased : List Dv → Res → Prop := fun ds res => ∃ (n : Nat) (dr : List Door) (hs : List Hand) (ps : List Int), ds = [.int n, .lst (dr.map encDr), .lst (hs.map encH), .lst (ps.map Dv.int)] ∧ n ≤ 100 ∧ EndsOk n dr ∧ PlOk dr ps ∧ HandsIn n hs ∧ hs.length ≤ 100 ∧ res = .val (encB (chasedL n dr hs ps))
theorem d_chased (T : Txt K mg) : Df P w K mg base "_law_chased" 2 R_chased := by
  have nd := sc79.nd
  have D_lights := @d_lights P w K mg base T
  have D_dist := @d_dist P w K mg base T
  refine df_mk (T.fn 79 "_law_chased" rfl) sc79 _ (fun ds res h => by obtain ⟨n, dr, hs, ps, rfl, _⟩ := h; rfl) (fun _ _ _ _ _ _ us hl => match us, hl with | [_, _, _, _], _ => rfl) (fun f cdv A outer s H E hr tk hp ds res h => ?_)
  obtain ⟨n, dr, hs, ps, rfl, n2, hE, hP, hH, hhl, rfl⟩ := h
  have hdl := hP.c.1
  have hll := lights_len (dr := dr) (ps := ps) hP.l
  refine x_cons (s_setLc 4 rfl nd rfl rfl (sw_true rfl rfl rfl (by decide +kernel)) (lc_map (own := [("_law_letter", 10)]) (xs := lightsM dr ps) encL (fun c => Dv.bl (decide (c = 82))) (ei_list (ev_call D_lights (hr.mono (by decide)) rfl (ea_cons (vr 1 rfl) (ea_cons (vr 3 rfl) (ea_cons ev_int ea_nil))) ⟨dr, ps, rfl, hP, rfl⟩ (by decide))) (by omega) (blkOk_by (by kernel_rfl)) (fun x hx => turn_map (by decide) (fun _ _ _ _ _ => (tg 10 nd)) (fun _ _ _ _ _ => ev_is (EvB.v (eqS (x := [x]) (vr 10 rfl) (cs [82]))) (by simp)))) ?_)
  refine x_frz 4 rfl ?_
  have elit : (lightsM dr ps).map (fun c => Dv.bl (decide (c = 82))) = (litB dr ps).map Dv.bl := by unfold litB; rw [List.map_map]; rfl
  have hlb : (litB dr ps).length = dr.length := by unfold litB; rw [List.length_map, hll]
  rw [elit]
  unfold chasedL
  generalize litB dr ps = us at hlb
  refine x_cons (DT.st 5 nd ev_non ?_)
  refine x_cons (s_for (S := Best) hp rfl (ei_rng (n := hs.length) (ev_is (ev_lenP (ev_p (vr 2 rfl)) rfl rfl T.len) (by simp)) (by omega) rfl rfl T.range) (fun st => [.sh (.int n), .sh (.lst (dr.map encDr)), .sh (.lst (hs.map encH)), .sh (.lst (ps.map Dv.int)), .sh (.lst (us.map Dv.bl)), .sh (encB st), .free, .free, .free, .free, .free]) (fun i st => st = iter (cOut n dr us hs) none i) none rfl (by walk_at "less") ?_ ?_)
  · intro i st d hd hI
    obtain ⟨rfl, hi⟩ := rng_get hd
    have hm := hH _ (mem_ix (xs := hs) (k := (i : Int)) (by omega) (by omega))
    have hnx : iter (cOut n dr us hs) none (i + 1) = cOut n dr us hs st i := by rw [hI]; rfl
    refine ⟨_, _, (tg 6 nd), ?_⟩
    refine x_cons (s_if (eqS (ixt (ixm (f := encH) (ev_p (vr 2 rfl)) (vr 6 rfl) (by omega) (by omega)) ⟨by decide, rfl⟩) (cs [82])) (fun hc => ?_) (fun hc => ?_))
    · have hc' := of_decide_eq_true hc
      have hfl : (distM n dr us (ix hs (i : Int)).2).length = n := (DG.run (us := us) hE hm.1 hm.2 n).l
      refine x_cons (DT.st 7 nd (ev_call D_dist (hr.mono (by decide)) rfl (ea_cons (vr 0 rfl) (ea_cons (vr 1 rfl) (ea_cons (vr 4 rfl) (ea_cons (en_d (en_lst (ea_cons (ixt (ixm (f := encH) (ev_p (vr 2 rfl)) (vr 6 rfl) (by omega) (by omega)) ⟨by decide, rfl⟩) ea_nil))) ea_nil)))) ⟨n, dr, us, (ix hs (i : Int)).2, rfl, n2, hdl, hE, hlb, hm.1, hm.2, rfl⟩ (by decide)) ?_)
      have hco : cOut n dr us hs st i = iter (cIn hs (distM n dr us (ix hs (i : Int)).2) i) st hs.length := by unfold cOut; rw [if_pos hc']
      generalize distM n dr us (ix hs (i : Int)).2 = far at hfl hco
      refine x_cons (s_for (S := Best) hp rfl (ei_rng (n := hs.length) (ev_is (ev_lenP (ev_p (vr 2 rfl)) rfl rfl T.len) (by simp)) (by omega) rfl rfl T.range) (fun st => [.sh (.int n), .sh (.lst (dr.map encDr)), .sh (.lst (hs.map encH)), .sh (.lst (ps.map Dv.int)), .sh (.lst (us.map Dv.bl)), .sh (encB st), .sh (.int (i : Int)), .sh (.lst (far.map Dv.int)), .free, .free, .free]) (fun j st' => st' = iter (cIn hs far i) st j) st rfl (by walk_at "less") ?_ ?_)
      · intro j st' d hd hI'
        obtain ⟨rfl, hj⟩ := rng_get hd
        have hm2 := hH _ (mem_ix (xs := hs) (k := (j : Int)) (by omega) (by omega))
        have hnx2 : iter (cIn hs far i) st (j + 1) = cIn hs far i st' j := by rw [hI']; rfl
        refine ⟨_, _, (tg 8 nd), ?_⟩
        refine x_cons (DT.st 9 nd (ixm (f := Dv.int) (ev_p (vr 7 rfl)) (ixt (ixm (f := encH) (ev_p (vr 2 rfl)) (vr 8 rfl) (by omega) (by omega)) ⟨by decide, rfl⟩) hm2.1 (by omega)) ?_)
        cases st' with
        | none =>
          refine x_cons (s_if (t := decide ((ix hs (j : Int)).1 = [66] ∧ 0 ≤ ix far (ix hs (j : Int)).2)) (eb_is (ew_b (ew_and (eqS (ixt (ixm (f := encH) (ev_p (vr 2 rfl)) (vr 8 rfl) (by omega) (by omega)) ⟨by decide, rfl⟩) (cs [66])) (fun _ => (ew_and (eb_ge (vr 9 rfl) ev_int) (fun _ => (ew_and1 (ew_b (ew_or (y := true) (eb_isN (vr 5 rfl)) (fun h => nomatch h))))))))) (by
            have : isNon (encB none) = true := rfl
            rw [this]; simp [Bool.decide_and])) (fun hc => ?_) (fun hc => ?_))
          · refine x_cons (DT.st 5 nd (ev_tup (ea_cons (vr 6 rfl) (ea_cons (vr 8 rfl) (ea_cons (vr 9 rfl) ea_nil)))) ?_)
            refine x_nil (x_nil ⟨_, ?_, hnx2.symm⟩)
            show Less _ _
            unfold cIn
            dsimp only
            rw [if_pos (of_decide_eq_true hc)]
            walk_at "less"
          · refine x_nil (x_nil ⟨_, ?_, hnx2.symm⟩)
            unfold cIn
            dsimp only
            rw [if_neg (of_decide_eq_false hc)]
            walk_at "less"
        | some b =>
          refine x_cons (s_if (t := decide ((ix hs (j : Int)).1 = [66] ∧ 0 ≤ ix far (ix hs (j : Int)).2 ∧ ix far (ix hs (j : Int)).2 < b.2.2)) (eb_is (ew_b (ew_and (eqS (ixt (ixm (f := encH) (ev_p (vr 2 rfl)) (vr 8 rfl) (by omega) (by omega)) ⟨by decide, rfl⟩) (cs [66])) (fun _ => (ew_and (eb_ge (vr 9 rfl) ev_int) (fun _ => (ew_and1 (ew_b (ew_or (eb_isN (vr 5 rfl)) (fun _ => (ew_or1 (eb_lt (vr 9 rfl) (ixt (vr 5 rfl) ⟨by decide, rfl⟩)))))))))))) (by
            have : isNon (encB (some b)) = false := rfl
            rw [this]; simp [Bool.decide_and])) (fun hc => ?_) (fun hc => ?_))
          · refine x_cons (DT.st 5 nd (ev_tup (ea_cons (vr 6 rfl) (ea_cons (vr 8 rfl) (ea_cons (vr 9 rfl) ea_nil)))) ?_)
            refine x_nil (x_nil ⟨_, ?_, hnx2.symm⟩)
            unfold cIn
            dsimp only
            rw [if_pos (of_decide_eq_true hc)]
            walk_at "less"
          · refine x_nil (x_nil ⟨_, ?_, hnx2.symm⟩)
            unfold cIn
            dsimp only
            rw [if_neg (of_decide_eq_false hc)]
            walk_at "less"
      · intro st' hI'
        refine x_nil (x_nil ⟨st', by walk_at "less", ?_⟩)
        rw [hnx, hco, hI', rng_len]
    · refine x_nil (x_nil ⟨_, ?_, hnx.symm⟩)
      unfold cOut
      rw [if_neg (of_decide_eq_false hc)]
      walk_at "less"
  · intro st hI
    refine x_one (s_ret (vr 5 rfl) ?_)
    show Res.val _ = Res.val _
    rw [hI, rng_len]

theorem sc81 : FnScope ["_law_hands_here", "_law_hand"] ["_law_hands_here"] (defScope (topS 81)) := ⟨rfl, rfl, rfl, by decide +kernel, rfl, by decide +kernel, by decide +kernel⟩
def R_met : List Dv → Res → Prop := fun ds res => ∃ (hs : List Hand), ds = [.lst (hs.map encH)] ∧ HCodes hs ∧ hs.length ≤ 100 ∧ res = .val (.bl (metM hs))
theorem eqOk_hs {hs : List Hand} (h : HCodes hs) : ∀ d ∈ hs.map encH, EqOk d := fun d hd => by
  obtain ⟨x, hx, rfl⟩ := List.mem_map.mp hd
  exact eqOk_H (h x hx)
theorem d_met (T : Txt K mg) : Df P w K mg base "_law_met" 1 R_met := by
  have nd := sc81.nd
  refine df_mk (T.fn 81 "_law_met" rfl) sc81 _ (fun ds res h => by obtain ⟨hs, rfl, _⟩ := h; rfl) (fun _ _ _ _ _ _ us hl => match us, hl with | [_], _ => rfl) (fun f cdv A outer s H E hr tk hp ds res h => ?_)
  obtain ⟨hs, rfl, hC, hhl, rfl⟩ := h
  have hu : (A.deeper (envOfC "_law_met" (defScope (topS 81)) s.heap.objs.size f cdv)).units + 65 < cLine := by have := hr.un; omega
  refine x_one (s_ret (EvB.v (neNil hr.units (ds := ((hs.filter fun h => decide (h.1 = [82]) && decide ((([66] : List Nat), h.2) ∈ hs)).map encH)) (en_p (en_lc rfl nd (lc_if (own := [("_law_hand", 1)]) (xs := hs) encH (fun h => decide (h.1 = [82]) && decide ((([66] : List Nat), h.2) ∈ hs)) encH (ei_list (vr 0 rfl)) (by omega) (blkOk_by (by kernel_rfl)) (fun x hx => turn_if (by decide) (fun _ _ _ _ _ => (tg 1 nd)) (fun _ _ _ _ _ => (ew_b (ew_and (eqS (ixt (vr 1 rfl) ⟨by decide, rfl⟩) (cs [82])) (fun _ => (ew_and1 (eb_is (eb_inD (d := encH (([66] : List Nat), x.2)) hu (ev_tup (ea_cons (cs [66]) (ea_cons (ixt (vr 1 rfl) ⟨by decide, rfl⟩) ea_nil))) (ev_p (vr 0 rfl)) (eqOk_H (by intro c hc; simp at hc; omega)) (eqOk_hs hC) (by rfl)) (any_H hs _))))))) (fun _ _ _ _ _ _ => (vr 1 rfl)))))) (fun d hd => by
    obtain ⟨x, hx, rfl⟩ := List.mem_map.mp hd
    exact eqOk_H (hC x (List.mem_filter.mp hx).1)))) ?_)
  show Res.val _ = Res.val _
  unfold metM
  rw [List.isEmpty_map]
end
end DT

set_option Elab.async false
set_option linter.all false
set_option maxRecDepth 100000
namespace DT
open PySem PySem.Spec L2
open PyProof.Rows hiding St
open SX (S)
local macro_rules | `(tactic| walk_at "less") => `(tactic| repeat (first | exact DT.Less.nil | refine DT.Less.cons ?_ | refine DT.Less.free ?_))
/-! ### what the game asks -/
/-- a state of the game that fits -/
structure GState (n : Nat) (dr : List Door) (hs : List Hand) (ps : List Int) : Prop where
  g : GraphOk n dr
  p : PlOk dr ps
  h : HandsIn n hs
  c : HCodes hs
  l : hs.length ≤ 100
/-- the answers of is_forced and chased_pair -/
structure SeenOk (n : Nat) (dr : List Door) (hs : List Hand) (ps : List Int) : Prop where
  s : GState n dr hs ps
  pr : PairOk n dr [82, 66] hs ps []
  nd : needM n dr [82, 66] hs ps [] = none
  f1 : (caughtM hs (spreadM n dr hs (lightsM dr ps)) ≠ []) ↔ (pairM n dr hs ps).isSome = true
  f2 : pairM n dr hs ps = (chasedL n dr hs ps).map fun b => (b.1, b.2.1)
/-- one turn of the hunt: the way, the door -/
structure HuntAt (n : Nat) (dr : List Door) (r b : Int) (hs : List Hand) (ps : List Int) (ws : List Int) : Prop where
  s : GState n dr hs ps
  pr : PairOk n dr [82, 66] hs ps [r, b]
  nd : needM n dr [82, 66] hs ps [r, b] = none
  rr : 0 ≤ r ∧ r < hs.length
  bb : 0 ≤ b ∧ b < hs.length
  w : WayR (dictM (orderM n dr (ix hs b).2)) (ix hs b).2 (ix hs r).2 ws
  e : wayL n dr (ix hs r).2 (ix hs b).2 = ws
  ne : ws ≠ []
  a : chaseM n dr [82, 66] hs ps r b ws = .val (.int (ix ws 0))
def HuntOk (n : Nat) (dr : List Door) (r b : Int) (row : List Int) : Nat → Nat → St2 → Prop
  | 0, _, st => metM st.1 = true ∧ HCodes st.1 ∧ st.1.length ≤ 100
  | m + 1, k, st => (HCodes st.1 ∧ st.1.length ≤ 100) ∧ (metM st.1 = true ∨ ∃ ws st1, HuntAt n dr r b st.1 st.2 ws ∧ deedM dr st.1 st.2 r (ix ws 0) = some st1 ∧ (HCodes st1.1 ∧ st1.1.length ≤ 100) ∧
      (metM st1.1 = true ∨ (PlOk dr st1.2 ∧ ∃ st2, flightM dr st1 b (ix row (2 * (k : Int))) (ix row (2 * (k : Int) + 1)) = some st2 ∧ HuntOk n dr r b row m (k + 1) st2)))
theorem HuntOk.met {n : Nat} {dr : List Door} {r b : Int} {row : List Int} : ∀ (m k : Nat) (st : St2), metM st.1 = true → HCodes st.1 → st.1.length ≤ 100 → HuntOk n dr r b row m k st
  | 0, _, _, h, hc, hl => ⟨h, hc, hl⟩
  | _ + 1, _, _, h, hc, hl => ⟨⟨hc, hl⟩, .inl h⟩
def RoamOk (n : Nat) (dr : List Door) (row : List Int) : Nat → Nat → St2 → Prop
  | 0, _, _ => True
  | m + 1, k, st => (PlOk dr st.2 ∧ st.1.length ≤ 100) ∧ (choiceM dr st 82 = [] ∨ ∃ st1, deedM dr st.1 st.2 (ix (choiceM dr st 82) (ix row (k : Int) % ((choiceM dr st 82).length : Int))).1 (ix (choiceM dr st 82) (ix row (k : Int) % ((choiceM dr st 82).length : Int))).2 = some st1 ∧
      HCodes st1.1 ∧ st1.1.length ≤ 100 ∧ metM st1.1 = false ∧ PairOk n dr [82, 66] st1.1 st1.2 [] ∧ needM n dr [82, 66] st1.1 st1.2 [] = none ∧ pairM n dr st1.1 st1.2 = none ∧ RoamOk n dr row m (k + 1) st1)
theorem poss_len (dr : List Door) (hs : List Hand) (ps : List Int) : (possM dr hs ps).length ≤ hs.length * dr.length := posOut_len dr hs ps _
theorem caught_enc (hs : List Hand) (sp : List Bool) : (hs.filter fun h => decide (h.1 = [66]) && ix sp h.2).map encH = (caughtM hs sp).map encH := rfl
section
variable {P : Program} {w : World} {K : PySem.W.Frag} {mg : Str → Option Value} {base : Heap}
theorem sc80 : FnScope ["_law_rooms", "_law_doors", "_law_hands_here", "_law_places_here", "_law_house_here", "_law_standing", "_law_spread_here", "_law_caught", "_law_forced", "_law_told", "_law_best", "_law_hand"] ["_law_rooms", "_law_doors", "_law_hands_here", "_law_places_here", "_law_house_here", "_law_standing"] (defScope (topS 80)) := ⟨rfl, rfl, rfl, by decide +kernel, rfl, by decide +kernel, by decide +kernel⟩
def R_seen (mg : Str → Option Value) : List Dv → Res → Prop := fun ds res => ∃ (n : Nat) (dr : List Door) (hs : List Hand) (ps : List Int), ds = [.int n, .lst (dr.map encDr), .lst (hs.map encH), .lst (ps.map Dv.int), encHo mg n dr [82, 66], encSt mg hs ps] ∧ SeenOk n dr hs ps ∧ res = .val (.bl true)
theorem kit_bb (K : PySem.W.Frag) : PySem.W.kitOne K (.type "bool") (.type "bool") = some true := kit_same _ _
theorem d_seen (T : Txt K mg) : Df P w K mg base "_law_seen" 7 (R_seen mg) := by
  have nd := sc80.nd
  have D_spread := @d_spread P w K mg base T
  have D_lights := @d_lights P w K mg base T
  have D_is_forced := @d_is_forced P w K mg base T
  have D_chased_pair := @d_chased_pair P w K mg base T
  have D_chased := @d_chased P w K mg base T
  have D_isint := @d_isint P w K mg base T
  refine df_mk (T.fn 80 "_law_seen" rfl) sc80 _ (fun ds res h => by obtain ⟨n, dr, hs, ps, rfl, _⟩ := h; rfl) (fun _ _ _ _ _ _ us hl => match us, hl with | [_, _, _, _, _, _], _ => rfl) (fun f cdv A outer s H E hr tk hp ds res h => ?_)
  obtain ⟨n, dr, hs, ps, rfl, hS, rfl⟩ := h
  have hG := hS.s.g
  have hhl := hS.s.l
  have hll := lights_len (dr := dr) (ps := ps) hS.s.p.l
  refine x_cons (DT.st 6 nd (ev_call D_spread (hr.mono (by decide)) rfl (ea_cons (vr 0 rfl) (ea_cons (vr 1 rfl) (ea_cons (vr 2 rfl) (ea_cons (ev_call D_lights (hr.mono (by decide)) rfl (ea_cons (vr 1 rfl) (ea_cons (vr 3 rfl) (ea_cons ev_int ea_nil))) ⟨dr, ps, rfl, hS.s.p, rfl⟩ (by decide)) (ea_cons (cs [82]) ea_nil))))) ⟨n, dr, hs, lightsM dr ps, rfl, hG.n2, hG.dl, hG.ends, hS.s.h, hll, rfl⟩ (by decide)) ?_)
  have hspl : (spreadM n dr hs (lightsM dr ps)).length = n := by
    unfold spreadM sp0
    rw [iter_len (spTurn_len dr (lightsM dr ps)), spF_len]; simp
  have hf1 := hS.f1
  generalize spreadM n dr hs (lightsM dr ps) = sp at hspl hf1
  refine x_cons (s_setLc 7 rfl nd rfl rfl (sw_true rfl rfl rfl (by decide +kernel)) (lc_if (own := [("_law_hand", 11)]) (xs := hs) encH (fun h => decide (h.1 = [66]) && ix sp h.2) encH (ei_list (vr 2 rfl)) (by omega) (blkOk_by (by kernel_rfl)) (fun x hx => turn_if (by decide) (fun _ _ _ _ _ => (tg 11 nd)) (fun _ _ _ _ _ => (ew_b (ew_and (eqS (ixt (vr 11 rfl) ⟨by decide, rfl⟩) (cs [66])) (fun _ => (ew_and1 (eb_val (ixm (f := Dv.bl) (ev_p (vr 6 rfl)) (ixt (vr 11 rfl) ⟨by decide, rfl⟩) (hS.s.h x hx).1 (by have := (hS.s.h x hx).2; omega)))))))) (fun _ _ _ _ _ _ => (vr 11 rfl)))) ?_)
  refine x_frz 7 rfl ?_
  rw [caught_enc]
  refine x_cons (DT.st 8 nd (d := .bl (pairM n dr hs ps).isSome) (ev_call D_is_forced (hr.mono (by decide)) rfl (ea_cons (vr 4 rfl) (ea_cons (vr 5 rfl) ea_nil)) ⟨n, dr, [82, 66], hs, ps, rfl, hS.pr, by rw [hS.nd]; rfl⟩ (by decide)) ?_)
  refine x_cons (DT.st 9 nd (d := encO (pairM n dr hs ps)) (ev_call D_chased_pair (hr.mono (by decide)) rfl (ea_cons (vr 4 rfl) (ea_cons (vr 5 rfl) ea_nil)) ⟨n, dr, [82, 66], hs, ps, rfl, hS.pr, by rw [hS.nd]; rfl⟩ (by decide)) ?_)
  have hcd : ∀ d ∈ (caughtM hs sp).map encH, EqOk d := fun d hd => by
    obtain ⟨x, hx, rfl⟩ := List.mem_map.mp hd
    exact eqOk_H (hS.s.c x (List.mem_filter.mp hx).1)
  have hce : (!((caughtM hs sp).map encH).isEmpty) = (pairM n dr hs ps).isSome := by
    rw [List.isEmpty_map, Bool.eq_iff_iff, ← hf1]
    cases caughtM hs sp <;> simp
  have hf2 := hS.f2
  generalize hcg : caughtM hs sp = cg at hcd hce
  refine x_cons (s_if (t := false) (eb_is (ew_b (ew_or (eb_not (eb_val (isTy (n := "bool") (t := .type "bool") (r := true) (vr 8 rfl) ty_bl (kit_same _ _) rfl rfl T.isinstance (by rfl) T.bool (by decide +kernel) (by decide) (by decide)))) (fun _ => (ew_or1 (eb_neB (vr 8 rfl) (EvB.v (neNil hr.units (ev_p (vr 7 rfl)) hcd))))))) (by rw [hce]; simp)) (fun hc => ?_) (fun hc => ?_))
  · cases hc
  refine x_nil ?_
  cases hbest : chasedL n dr hs ps with
  | none =>
    have hpn : pairM n dr hs ps = none := by rw [hf2, hbest]; rfl
    rw [hpn] at hce ⊢
    have hcn : (cg.map encH).isEmpty = true := by simpa using hce
    refine x_cons (s_if (t := true) (eb_is (eqNil hr.units (ev_p (vr 7 rfl)) hcd) hcn) (fun hc => ?_) (fun hc => ?_))
    · exact x_one (s_ret (EvB.v (eb_isN (vr 9 rfl))) rfl)
    · cases hc
  | some b =>
    have hpn : pairM n dr hs ps = some (b.1, b.2.1) := by rw [hf2, hbest]; rfl
    rw [hpn] at hce ⊢
    have hcn : (cg.map encH).isEmpty = false := by simpa using hce
    refine x_cons (s_if (t := false) (eb_is (eqNil hr.units (ev_p (vr 7 rfl)) hcd) hcn) (fun hc => ?_) (fun hc => ?_))
    · cases hc
    refine x_nil ?_
    refine x_cons (DT.st 10 nd (d := encB (some b)) (ev_call D_chased (hr.mono (by decide)) rfl (ea_cons (vr 0 rfl) (ea_cons (vr 1 rfl) (ea_cons (vr 2 rfl) (ea_cons (vr 3 rfl) ea_nil)))) ⟨n, dr, hs, ps, rfl, hG.n2, hG.ends, hS.s.p, hS.s.h, hhl, by rw [hbest]⟩ (by decide)) ?_)
    refine x_cons (s_if (t := false) (eb_is (ew_b (ew_or (eb_not (eb_val (isTy (n := "tuple") (t := .type "tuple") (r := true) (vr 9 rfl) ty_tup (kit_same _ _) rfl rfl T.isinstance (by rfl) T.tuple (by decide +kernel) (by decide) (by decide)))) (fun _ => (ew_or1 (eb_ne (ev_lenT (vr 9 rfl) rfl rfl T.len) ev_int))))) rfl) (fun hc => ?_) (fun hc => ?_))
    · cases hc
    refine x_nil ?_
    refine x_cons (s_if (t := false) (eb_is (ew_b (ew_or (eb_not (eb_val (ev_call D_isint (hr.mono (by decide)) rfl (ea_cons (ixt (vr 9 rfl) ⟨by decide, rfl⟩) ea_nil) ⟨_, rfl, rfl⟩ (by decide)))) (fun _ => (ew_or1 (eb_not (eb_val (ev_call D_isint (hr.mono (by decide)) rfl (ea_cons (ixt (vr 9 rfl) ⟨by decide, rfl⟩) ea_nil) ⟨_, rfl, rfl⟩ (by decide)))))))) rfl) (fun hc => ?_) (fun hc => ?_))
    · cases hc
    refine x_nil ?_
    refine x_one (s_ret (d := .bl true) (ev_is (EvB.v (ew_b (ew_and (eb_eq (ixt (vr 9 rfl) ⟨by decide, rfl⟩) (ixt (vr 10 rfl) ⟨by decide, rfl⟩)) (fun _ => (ew_and1 (eb_eq (ixt (vr 9 rfl) ⟨by decide, rfl⟩) (ixt (vr 10 rfl) ⟨by decide, rfl⟩))))))) (by simp)) rfl)

theorem sc82 : FnScope ["_law_doors", "_law_state", "_law_chased_here", "_law_bit", "_law_number", "_law_choices", "_law_own", "_law_at", "_law_deed_here"] ["_law_doors", "_law_state", "_law_chased_here", "_law_bit", "_law_number"] (defScope (topS 82)) := ⟨rfl, rfl, rfl, by decide +kernel, rfl, by decide +kernel, by decide +kernel⟩
def R_flight : List Dv → Res → Prop := fun ds res => ∃ (dr : List Door) (st : St2) (ch bit num : Int), ds = [.lst (dr.map encDr), encS2 st, .int ch, .int bit, .int num] ∧ PlOk dr st.2 ∧ st.1.length ≤ 100 ∧ res = .val (encD (flightM dr st ch bit num))
set_option maxHeartbeats 1000000 in
theorem d_flight (T : Txt K mg) : Df P w K mg base "_law_flight" 3 R_flight := by
  have nd := sc82.nd
  have D_poss := @d_poss P w K mg base T
  have D_deed := @d_deed P w K mg base T
  refine df_mk (T.fn 82 "_law_flight" rfl) sc82 _ (fun ds res h => by obtain ⟨dr, st, ch, bit, num, rfl, _⟩ := h; rfl) (fun _ _ _ _ _ _ us hl => match us, hl with | [_, _, _, _, _], _ => rfl) (fun f cdv A outer s H E hr tk hp ds res h => ?_)
  obtain ⟨dr, st, ch, bit, num, rfl, hP, hhl, rfl⟩ := h
  have hdl := hP.c.1
  have hpl := poss_len dr st.1 st.2
  have hpb : (possM dr st.1 st.2).length ≤ 100 * 100 := Nat.le_trans hpl (Nat.mul_le_mul hhl hdl)
  refine x_cons (s_setLc 5 rfl nd rfl rfl (sw_true rfl rfl rfl (by decide +kernel)) (lc_if (own := [("_law_deed_here", 8)]) (xs := possM dr st.1 st.2) encP2 (fun q => decide ((ix st.1 q.1).1 = [66])) encP2 (ei_list (ev_call D_poss (hr.mono (by decide)) rfl (ea_cons (vr 0 rfl) (ea_cons (ixt (vr 1 rfl) ⟨by decide, rfl⟩) (ea_cons (ixt (vr 1 rfl) ⟨by decide, rfl⟩) ea_nil))) ⟨dr, st.1, st.2, rfl, hP, hhl, rfl⟩ (by decide))) (by omega) (blkOk_by (by kernel_rfl)) (fun x hx => turn_if (by decide) (fun _ _ _ _ _ => (tg 8 nd)) (fun _ _ _ _ _ => (eqS (ixt (ixm (f := encH) (xs := st.1) (ev_p (ixt (vr 1 rfl) ⟨by decide, rfl⟩)) (ixt (vr 8 rfl) ⟨by decide, rfl⟩) (deed_range (poss_mem _ _ _ x hx)).1.1 (deed_range (poss_mem _ _ _ x hx)).1.2) ⟨by decide, rfl⟩) (cs [66]))) (fun _ _ _ _ _ _ => (vr 8 rfl)))) ?_)
  refine x_frz 5 rfl ?_
  have e1 : ((possM dr st.1 st.2).filter fun q => decide ((ix st.1 q.1).1 = [66])) = choiceM dr st 66 := rfl
  rw [e1]
  have hcb : (choiceM dr st 66).length ≤ 100 * 100 := Nat.le_trans (List.length_filter_le _ _) hpb
  have hfm : flightC dr st ch bit = if bit = 0 ∧ ((choiceM dr st 66).filter fun q => decide (q.1 = ch)) ≠ [] then (choiceM dr st 66).filter fun q => decide (q.1 = ch) else choiceM dr st 66 := rfl
  unfold flightM
  generalize flightC dr st ch bit = fc at hfm
  generalize choiceM dr st 66 = cm at hcb hfm
  refine x_cons (s_setLc 6 rfl nd rfl rfl (sw_true rfl rfl rfl (by decide +kernel)) (lc_if (own := [("_law_deed_here", 8)]) (xs := cm) encP2 (fun q => decide (q.1 = ch)) encP2 (ei_list (vr 5 rfl)) (by omega) (blkOk_by (by kernel_rfl)) (fun x hx => turn_if (by decide) (fun _ _ _ _ _ => (tg 8 nd)) (fun _ _ _ _ _ => (eb_eq (ixt (vr 8 rfl) ⟨by decide, rfl⟩) (vr 2 rfl))) (fun _ _ _ _ _ _ => (vr 8 rfl)))) ?_)
  refine x_frz 6 rfl ?_
  have hob : (cm.filter fun q => decide (q.1 = ch)).length ≤ 100 * 100 := Nat.le_trans (List.length_filter_le _ _) hcb
  generalize (cm.filter fun q => decide (q.1 = ch)) = own at hfm hob
  refine x_cons (ifset (t := decide (bit = 0 ∧ own ≠ [])) (d1 := .lst (own.map encP2)) 5 nd (eb_is (ew_b (ew_and (eb_eq (vr 3 rfl) ev_int) (fun _ => (ew_and1 (neNil hr.units (ev_p (vr 6 rfl)) (fun d hd => by obtain ⟨x, _, rfl⟩ := List.mem_map.mp hd; exact eqOk_P2 x)))))) (by
    rw [List.isEmpty_map]
    cases own <;> simp)) rfl (fun _ => vr 6 rfl) ?_)
  have e2 : (if decide (bit = 0 ∧ own ≠ []) = true then Dv.lst (own.map encP2) else Dv.lst (cm.map encP2)) = Dv.lst (fc.map encP2) := by
    rw [hfm]
    by_cases h : bit = 0 ∧ own ≠ []
    · rw [if_pos (decide_eq_true h), if_pos h]
    · rw [if_neg (by rw [decide_eq_false h]; simp), if_neg h]
  rw [e2]
  have hfb : fc.length ≤ 100 * 100 := by
    rw [hfm]; split <;> omega
  have m1 := Int.emod_lt_of_pos num (show (0 : Int) < (fc.length : Int) + 1 by omega)
  have m2 := Int.emod_nonneg num (show (fc.length : Int) + 1 ≠ 0 by omega)
  refine x_cons (DT.st 7 nd (d := .int (num % ((fc.length : Int) + 1))) (ev_mod (ev_intI (vr 4 rfl) rfl (by rfl) T.int) (ev_is (ev_add (ev_lenP (ev_p (vr 5 rfl)) rfl rfl T.len) ev_int) (by rw [List.length_map])) (by omega)) ?_)
  refine x_cons (s_if (t := decide (num % ((fc.length : Int) + 1) = (fc.length : Int))) (eb_is (eb_eq (vr 7 rfl) (ev_lenP (ev_p (vr 5 rfl)) rfl rfl T.len)) (by rw [List.length_map])) (fun hc => ?_) (fun hc => ?_))
  · refine x_one (s_ret (vr 1 rfl) ?_)
    rw [if_pos (of_decide_eq_true hc)]; rfl
  refine x_nil ?_
  have hc' := of_decide_eq_false hc
  refine x_one (s_ret (ev_call D_deed (hr.mono (by decide)) rfl (ea_cons (vr 0 rfl) (ea_cons (ixt (vr 1 rfl) ⟨by decide, rfl⟩) (ea_cons (ixt (vr 1 rfl) ⟨by decide, rfl⟩) (ea_cons (ixt (ixm (f := encP2) (ev_p (vr 5 rfl)) (vr 7 rfl) m2 (by omega)) ⟨by decide, rfl⟩) (ea_cons (ixt (ixm (f := encP2) (ev_p (vr 5 rfl)) (vr 7 rfl) m2 (by omega)) ⟨by decide, rfl⟩) ea_nil))))) ⟨dr, st.1, st.2, _, _, rfl, hP, rfl⟩ (by decide)) ?_)
  rw [if_neg hc']; rfl
end
end DT

set_option Elab.async false
set_option linter.all false
set_option maxRecDepth 100000
namespace DT
open PySem PySem.Spec L2
open PyProof.Rows hiding St
open SX (S)
local macro_rules | `(tactic| walk_at "less") => `(tactic| repeat (first | exact DT.Less.nil | refine DT.Less.cons ?_ | refine DT.Less.free ?_))
def sz2 (n : Nat) : List Int := (List.replicate n [(2 : Int), 60]).flatten
theorem sz2_len : ∀ m, (sz2 m).length = 2 * m
  | 0 => rfl
  | m + 1 => by
    unfold sz2
    rw [List.replicate_succ, List.flatten_cons, List.length_append]
    have := sz2_len m
    unfold sz2 at this
    rw [this]
    simp; omega
theorem sz2_ok (m : Nat) (h : m ≤ 100) : SzOk (sz2 m) := by
  refine ⟨fun s hs => ?_, by rw [sz2_len]; omega⟩
  unfold sz2 at hs
  rw [List.mem_flatten] at hs
  obtain ⟨l, hl, hs⟩ := hs
  rw [(List.mem_replicate.mp hl).2] at hs
  simp at hs
  omega
def szR : List Int := List.replicate 10 5040
theorem szR_ok : SzOk szR := ⟨by decide, by decide⟩
section
variable {P : Program} {w : World} {K : PySem.W.Frag} {mg : Str → Option Value} {base : Heap}
theorem sc83 : FnScope ["_law_rooms", "_law_doors", "_law_hands_here", "_law_places_here", "_law_house_here", "_law_cell_here", "_law_best", "_law_row_here", "_law_state", "_law_turn", "_law_way_here", "_law_told"] ["_law_rooms", "_law_doors", "_law_hands_here", "_law_places_here", "_law_house_here", "_law_cell_here"] (defScope (topS 83)) := ⟨rfl, rfl, rfl, by decide +kernel, rfl, by decide +kernel, by decide +kernel⟩
def R_hunted (mg : Str → Option Value) : List Dv → Res → Prop := fun ds res => ∃ (n : Nat) (dr : List Door) (hs : List Hand) (ps : List Int) (c r b x : Int), ds = [.int n, .lst (dr.map encDr), .lst (hs.map encH), .lst (ps.map Dv.int), encHo mg n dr [82, 66], .int c] ∧ GState n dr hs ps ∧ chasedL n dr hs ps = some (r, b, x) ∧
  HuntOk n dr r b (rowM c (sz2 n)) (n - 1) 0 (hs, ps) ∧ res = .val (.bl true)
set_option maxHeartbeats 2000000 in
theorem d_hunted (T : Txt K mg) : Df P w K mg base "_law_hunted" 7 (R_hunted mg) := by
  have nd := sc83.nd
  have D_chased := @d_chased P w K mg base T
  have D_row := @d_row P w K mg base T
  have D_met := @d_met P w K mg base T
  have D_wayL := @d_wayL P w K mg base T
  have D_chase_door := @d_chase_door P w K mg base T
  have D_isint := @d_isint P w K mg base T
  have D_deed := @d_deed P w K mg base T
  have D_flight := @d_flight P w K mg base T
  refine df_mk (T.fn 83 "_law_hunted" rfl) sc83 _ (fun ds res h => by obtain ⟨n, dr, hs, ps, c, r, b, x, rfl, _⟩ := h; rfl) (fun _ _ _ _ _ _ us hl => match us, hl with | [_, _, _, _, _, _], _ => rfl) (fun f cdv A outer s H E hr tk hp ds res h => ?_)
  obtain ⟨n, dr, hs, ps, c, r, b, x, rfl, hS, hB, hHu, rfl⟩ := h
  have hG := hS.g
  have n1 := hG.n1
  have n2 := hG.n2
  have hrl := rowM_len c (sz2 n)
  have hsl := sz2_len n
  rw [hsl] at hrl
  have e0 : (List.replicate (n : Int).toNat [Dv.int 2, Dv.int 60]).flatten = (sz2 n).map Dv.int := by
    unfold sz2
    rw [List.map_flatten, List.map_replicate]
    rfl
  refine x_cons (DT.st 6 nd (d := encB (some (r, b, x))) (ev_call D_chased (hr.mono (by decide)) rfl (ea_cons (vr 0 rfl) (ea_cons (vr 1 rfl) (ea_cons (vr 2 rfl) (ea_cons (vr 3 rfl) ea_nil)))) ⟨n, dr, hs, ps, rfl, n2, hG.ends, hS.p, hS.h, hS.l, by rw [hB]⟩ (by decide)) ?_)
  refine x_cons (DT.st 7 nd (ev_call D_row (hr.mono (by decide)) rfl (ea_cons (vr 5 rfl) (ea_cons (ev_is (en_d (en_rep (en_p (en_lst (ea_cons ev_int (ea_cons ev_int ea_nil)))) (vr 0 rfl) ⟨by omega, by omega, by simp; exact Nat.le_trans (show 2 * n ≤ 200 by omega) (by decide)⟩)) (congrArg Dv.lst e0)) ea_nil)) ⟨c, sz2 n, rfl, sz2_ok n n2, rfl⟩ (by decide)) ?_)
  generalize rowM c (sz2 n) = row at hrl hHu
  refine x_cons (DT.st 8 nd (d := encS2 (hs, ps)) (ev_tup (ea_cons (vr 2 rfl) (ea_cons (vr 3 rfl) ea_nil))) ?_)
  refine x_cons (s_for (S := St2) hp rfl (ei_rng (n := n - 1) (ev_is (ev_sub (vr 0 rfl) ev_int) (by congr 1; omega)) (by omega) rfl rfl T.range) (fun st => [.sh (.int n), .sh (.lst (dr.map encDr)), .sh (.lst (hs.map encH)), .sh (.lst (ps.map Dv.int)), .sh (encHo mg n dr [82, 66]), .sh (.int c), .sh (encB (some (r, b, x))), .sh (.lst (row.map Dv.int)), .sh (encS2 st), .free, .free, .free]) (fun i st => HuntOk n dr r b row (n - 1 - i) i st) (hs, ps) hHu (by walk_at "less") ?_ ?_)
  · intro i st d hd hI
    obtain ⟨rfl, hi⟩ := rng_get hd
    rw [show n - 1 - i = (n - 1 - (i + 1)) + 1 by omega] at hI
    obtain ⟨⟨hc1, hc2⟩, hI⟩ := hI
    refine ⟨_, _, (tg 9 nd), ?_⟩
    refine x_cons (s_if (eb_val (ev_call D_met (hr.mono (by decide)) rfl (ea_cons (ixt (vr 8 rfl) ⟨by decide, rfl⟩) ea_nil) ⟨st.1, rfl, hc1, hc2, rfl⟩ (by decide))) (fun hc => ?_) (fun hc => ?_))
    · exact x_one (s_ret ev_bl rfl)
    refine x_nil ?_
    rcases hI with hI | ⟨ws, st1, hA, hD, ⟨hd1, hd2⟩, hN⟩
    · rw [hI] at hc; cases hc
    have hra := hA.s.h _ (mem_ix (xs := st.1) (k := r) hA.rr.1 hA.rr.2)
    have hba := hA.s.h _ (mem_ix (xs := st.1) (k := b) hA.bb.1 hA.bb.2)
    have hpos : 0 < ws.length := List.length_pos_iff.mpr hA.ne
    refine x_cons (DT.st 10 nd (d := .lst (ws.map Dv.int)) (ev_call D_wayL (hr.mono (by decide)) rfl (ea_cons (vr 0 rfl) (ea_cons (vr 1 rfl) (ea_cons (ixt (ixm (f := encH) (xs := st.1) (ev_p (ixt (vr 8 rfl) ⟨by decide, rfl⟩)) (ixt (vr 6 rfl) ⟨by decide, rfl⟩) hA.rr.1 hA.rr.2) ⟨by decide, rfl⟩) (ea_cons (ixt (ixm (f := encH) (xs := st.1) (ev_p (ixt (vr 8 rfl) ⟨by decide, rfl⟩)) (ixt (vr 6 rfl) ⟨by decide, rfl⟩) hA.bb.1 hA.bb.2) ⟨by decide, rfl⟩) ea_nil)))) ⟨n, dr, _, _, rfl, n2, hG.dl, hG.ends, hra, hba, hG.far _ _ hra.1 hra.2 hba.1 hba.2, by rw [hA.e]⟩ (by decide)) ?_)
    refine x_cons (DT.st 11 nd (d := .int (ix ws 0)) (ev_call D_chase_door (hr.mono (by decide)) rfl (ea_cons (vr 4 rfl) (ea_cons (ev_standing (hs := st.1) (ps := st.2) T (hr.mono (by decide)) (ea_cons (en_d (en_listP (ev_p (ixt (vr 8 rfl) ⟨by decide, rfl⟩)) rfl (by rfl) T.list)) (ea_cons (en_d (en_listP (ev_p (ixt (vr 8 rfl) ⟨by decide, rfl⟩)) rfl (by rfl) T.list)) ea_nil)) (by omega)) (ea_cons (ev_tup (ea_cons (ixt (vr 6 rfl) ⟨by decide, rfl⟩) (ea_cons (ixt (vr 6 rfl) ⟨by decide, rfl⟩) ea_nil))) ea_nil))) ⟨n, dr, [82, 66], st.1, st.2, false, r, b, ws, rfl, hA.pr, fun _ => hA.w, hA.a.symm⟩ (by decide)) ?_)
    refine x_cons (s_if (t := false) (eb_is (ew_b (ew_or (eb_not (eb_val (ev_call D_isint (hr.mono (by decide)) rfl (ea_cons (vr 11 rfl) ea_nil) ⟨_, rfl, rfl⟩ (by decide)))) (fun _ => (ew_or1 (eb_ne (vr 11 rfl) (ixm (f := Dv.int) (ev_p (vr 10 rfl)) ev_int (by omega) (by omega))))))) (by simp)) (fun hc => ?_) (fun hc => ?_))
    · cases hc
    refine x_nil ?_
    refine x_cons (DT.st 8 nd (d := encD (some st1)) (ev_call D_deed (hr.mono (by decide)) rfl (ea_cons (vr 1 rfl) (ea_cons (ixt (vr 8 rfl) ⟨by decide, rfl⟩) (ea_cons (ixt (vr 8 rfl) ⟨by decide, rfl⟩) (ea_cons (ixt (vr 6 rfl) ⟨by decide, rfl⟩) (ea_cons (vr 11 rfl) ea_nil))))) ⟨dr, st.1, st.2, r, ix ws 0, rfl, hA.s.p, by rw [hD]⟩ (by decide)) ?_)
    refine x_cons (s_if (t := false) (eb_is (eb_isN (vr 8 rfl)) rfl) (fun hc => ?_) (fun hc => ?_))
    · cases hc
    refine x_nil ?_
    refine x_cons (s_if (eb_not (eb_val (ev_call D_met (hr.mono (by decide)) rfl (ea_cons (ixt (ds := [.lst (st1.1.map encH), .lst (st1.2.map Dv.int)]) (vr 8 rfl) ⟨by decide, rfl⟩) ea_nil) ⟨st1.1, rfl, hd1, hd2, rfl⟩ (by decide)))) (fun hc => ?_) (fun hc => ?_))
    · rcases hN with hN | ⟨hp1, st2, hF, hR⟩
      · rw [hN] at hc; cases hc
      refine x_cons (DT.st 8 nd (d := encD (some st2)) (ev_call D_flight (hr.mono (by decide)) rfl (ea_cons (vr 1 rfl) (ea_cons (vr 8 rfl) (ea_cons (ixt (vr 6 rfl) ⟨by decide, rfl⟩) (ea_cons (ixm (f := Dv.int) (ev_p (vr 7 rfl)) (ev_mul ev_int (vr 9 rfl) (.inl (by decide))) (by omega) (by omega)) (ea_cons (ixm (f := Dv.int) (ev_p (vr 7 rfl)) (ev_add (ev_mul ev_int (vr 9 rfl) (.inl (by decide))) ev_int) (by omega) (by omega)) ea_nil))))) ⟨dr, st1, b, _, _, rfl, hp1, hd2, by rw [hF]⟩ (by decide)) ?_)
      exact x_nil (x_nil ⟨st2, by walk_at "less", hR⟩)
    · have hm1 : metM st1.1 = true := by simpa using hc
      exact x_nil (x_nil ⟨st1, by walk_at "less", HuntOk.met _ _ _ hm1 hd1 hd2⟩)
  · intro st hI
    rw [rng_len, show n - 1 - (n - 1) = 0 by omega] at hI
    obtain ⟨h1, h2, h3⟩ := hI
    exact x_one (s_ret (ev_call D_met (hr.mono (by decide)) rfl (ea_cons (ixt (vr 8 rfl) ⟨by decide, rfl⟩) ea_nil) ⟨st.1, rfl, h2, h3, by rw [h1]⟩ (by decide)) rfl)

theorem sc84 : FnScope ["_law_doors", "_law_hands_here", "_law_places_here", "_law_house_here", "_law_cell_here", "_law_row_here", "_law_state", "_law_turn", "_law_deed_here", "_law_choices", "_law_now"] ["_law_doors", "_law_hands_here", "_law_places_here", "_law_house_here", "_law_cell_here"] (defScope (topS 84)) := ⟨rfl, rfl, rfl, by decide +kernel, rfl, by decide +kernel, by decide +kernel⟩
def R_roamed (mg : Str → Option Value) : List Dv → Res → Prop := fun ds res => ∃ (n : Nat) (dr : List Door) (hs : List Hand) (ps : List Int) (c : Int), ds = [.lst (dr.map encDr), .lst (hs.map encH), .lst (ps.map Dv.int), encHo mg n dr [82, 66], .int c] ∧ RoamOk n dr (rowM c szR) 10 0 (hs, ps) ∧ res = .val (.bl true)
set_option maxHeartbeats 2000000 in
theorem d_roamed (T : Txt K mg) : Df P w K mg base "_law_roamed" 7 (R_roamed mg) := by
  have nd := sc84.nd
  have D_row := @d_row P w K mg base T
  have D_met := @d_met P w K mg base T
  have D_poss := @d_poss P w K mg base T
  have D_deed := @d_deed P w K mg base T
  have D_is_forced := @d_is_forced P w K mg base T
  have D_chased_pair := @d_chased_pair P w K mg base T
  refine df_mk (T.fn 84 "_law_roamed" rfl) sc84 _ (fun ds res h => by obtain ⟨n, dr, hs, ps, c, rfl, _⟩ := h; rfl) (fun _ _ _ _ _ _ us hl => match us, hl with | [_, _, _, _, _], _ => rfl) (fun f cdv A outer s H E hr tk hp ds res h => ?_)
  obtain ⟨n, dr, hs, ps, c, rfl, hRo, rfl⟩ := h
  have hrl := rowM_len c szR
  have hsl : szR.length = 10 := by decide
  rw [hsl] at hrl
  refine x_cons (DT.st 5 nd (ev_call D_row (hr.mono (by decide)) rfl (ea_cons (vr 4 rfl) (ea_cons (ev_is (en_d (en_rep (en_p (en_lst (ea_cons ev_int ea_nil))) ev_int ⟨by decide, by decide, by decide⟩)) (d1 := .lst (szR.map Dv.int)) (by rfl)) ea_nil)) ⟨c, szR, rfl, szR_ok, rfl⟩ (by decide)) ?_)
  generalize rowM c szR = row at hrl hRo
  refine x_cons (DT.st 6 nd (d := encS2 (hs, ps)) (ev_tup (ea_cons (vr 1 rfl) (ea_cons (vr 2 rfl) ea_nil))) ?_)
  refine x_cons (s_for (S := St2) hp rfl (ei_rng (n := 10) ev_int (by decide) rfl rfl T.range) (fun st => [.sh (.lst (dr.map encDr)), .sh (.lst (hs.map encH)), .sh (.lst (ps.map Dv.int)), .sh (encHo mg n dr [82, 66]), .sh (.int c), .sh (.lst (row.map Dv.int)), .sh (encS2 st), .free, .free, .free, .free]) (fun i st => RoamOk n dr row (10 - i) i st) (hs, ps) hRo (by walk_at "less") ?_ ?_)
  · intro i st d hd hI
    obtain ⟨rfl, hi⟩ := rng_get hd
    rw [show 10 - i = (10 - (i + 1)) + 1 by omega] at hI
    obtain ⟨⟨hP, hhl⟩, hI⟩ := hI
    have hpb : (possM dr st.1 st.2).length ≤ 100 * 100 := Nat.le_trans (poss_len dr st.1 st.2) (Nat.mul_le_mul hhl hP.c.1)
    refine ⟨_, _, (tg 7 nd), ?_⟩
    refine x_cons (s_setLc 9 rfl nd rfl rfl (sw_true rfl rfl rfl (by decide +kernel)) (lc_if (own := [("_law_deed_here", 8)]) (xs := possM dr st.1 st.2) encP2 (fun q => decide ((ix st.1 q.1).1 = [82])) encP2 (ei_list (ev_call D_poss (hr.mono (by decide)) rfl (ea_cons (vr 0 rfl) (ea_cons (ixt (vr 6 rfl) ⟨by decide, rfl⟩) (ea_cons (ixt (vr 6 rfl) ⟨by decide, rfl⟩) ea_nil))) ⟨dr, st.1, st.2, rfl, hP, hhl, rfl⟩ (by decide))) (by omega) (blkOk_by (by kernel_rfl)) (fun x hx => turn_if (by decide) (fun _ _ _ _ _ => (tg 8 nd)) (fun _ _ _ _ _ => (eqS (ixt (ixm (f := encH) (xs := st.1) (ev_p (ixt (vr 6 rfl) ⟨by decide, rfl⟩)) (ixt (vr 8 rfl) ⟨by decide, rfl⟩) (deed_range (poss_mem _ _ _ x hx)).1.1 (deed_range (poss_mem _ _ _ x hx)).1.2) ⟨by decide, rfl⟩) (cs [82]))) (fun _ _ _ _ _ _ => (vr 8 rfl)))) ?_)
    refine x_frz 9 rfl ?_
    have e1 : ((possM dr st.1 st.2).filter fun q => decide ((ix st.1 q.1).1 = [82])) = choiceM dr st 82 := rfl
    rw [e1]
    generalize hcm : choiceM dr st 82 = cm at hI
    refine x_cons (s_if (eqNil hr.units (ev_p (vr 9 rfl)) (fun d hd => by obtain ⟨x, _, rfl⟩ := List.mem_map.mp hd; exact eqOk_P2 x)) (fun hc => ?_) (fun hc => ?_))
    · exact x_one (s_ret ev_bl rfl)
    refine x_nil ?_
    rw [List.isEmpty_map] at hc
    rcases hI with hI | ⟨st1, hD, hc1, hl1, hm1, hpr, hnd, hpn, hR⟩
    · rw [hI] at hc; cases hc
    have hpos : 0 < cm.length := by
      cases cm with
      | nil => cases hc
      | cons a b => simp
    have m1 := Int.emod_lt_of_pos (ix row (i : Int)) (show (0 : Int) < (cm.length : Int) by omega)
    have m2 := Int.emod_nonneg (ix row (i : Int)) (show (cm.length : Int) ≠ 0 by omega)
    refine x_cons (DT.st 8 nd (ixm (f := encP2) (ev_p (vr 9 rfl)) (ev_mod (ev_intI (ixm (f := Dv.int) (ev_p (vr 5 rfl)) (vr 7 rfl) (by omega) (by omega)) rfl (by rfl) T.int) (ev_is (ev_lenP (ev_p (vr 9 rfl)) rfl rfl T.len) (by rw [List.length_map])) (by omega)) m2 m1) ?_)
    refine x_cons (DT.st 6 nd (d := encD (some st1)) (ev_call D_deed (hr.mono (by decide)) rfl (ea_cons (vr 0 rfl) (ea_cons (ixt (vr 6 rfl) ⟨by decide, rfl⟩) (ea_cons (ixt (vr 6 rfl) ⟨by decide, rfl⟩) (ea_cons (ixt (vr 8 rfl) ⟨by decide, rfl⟩) (ea_cons (ixt (vr 8 rfl) ⟨by decide, rfl⟩) ea_nil))))) ⟨dr, st.1, st.2, _, _, rfl, hP, by rw [hD]⟩ (by decide)) ?_)
    refine x_cons (DT.st 10 nd (ev_standing (hs := st1.1) (ps := st1.2) T (hr.mono (by decide)) (ea_cons (en_d (en_listP (ev_p (ixt (ds := [.lst (st1.1.map encH), .lst (st1.2.map Dv.int)]) (vr 6 rfl) ⟨by decide, rfl⟩)) rfl (by rfl) T.list)) (ea_cons (en_d (en_listP (ev_p (ixt (ds := [.lst (st1.1.map encH), .lst (st1.2.map Dv.int)]) (vr 6 rfl) ⟨by decide, rfl⟩)) rfl (by rfl) T.list)) ea_nil)) (by omega)) ?_)
    refine x_cons (s_if (t := false) (eb_is (ew_b (ew_or (eb_val (ev_call D_met (hr.mono (by decide)) rfl (ea_cons (ixt (ds := [.lst (st1.1.map encH), .lst (st1.2.map Dv.int)]) (vr 6 rfl) ⟨by decide, rfl⟩) ea_nil) ⟨st1.1, rfl, hc1, hl1, rfl⟩ (by decide))) (fun _ => (ew_or (eb_isnotB (ev_call D_is_forced (hr.mono (by decide)) rfl (ea_cons (vr 3 rfl) (ea_cons (vr 10 rfl) ea_nil)) ⟨n, dr, [82, 66], st1.1, st1.2, rfl, hpr, by rw [hnd, hpn]; rfl⟩ (by decide)) ev_bl) (fun _ => (ew_or1 (eb_notN (ev_call D_chased_pair (hr.mono (by decide)) rfl (ea_cons (vr 3 rfl) (ea_cons (vr 10 rfl) ea_nil)) ⟨n, dr, [82, 66], st1.1, st1.2, rfl, hpr, by rw [hnd, hpn]; rfl⟩ (by decide))))))))) (by rw [hm1]; rfl)) (fun hc => ?_) (fun hc => ?_))
    · cases hc
    exact x_nil (x_nil ⟨st1, by walk_at "less", hR⟩)
  · intro st hI
    exact x_one (s_ret ev_bl rfl)
end
end DT

set_option Elab.async false
set_option linter.all false
set_option maxRecDepth 100000
namespace DT
open PySem PySem.Spec L2
open PyProof.Rows hiding St
open SX (S)
section
variable {X : Cx}
theorem countU {K : PySem.W.Frag} {y : V} {uy : Value} (ry : RelV y uy) : ∀ {ys : List V} {us : List Value}, Vals ys us → ys.all flatV = true → us.countP (eqU y) = ys.countP (fun z => eqV z y)
  | _, _, .nil, _ => rfl
  | z :: ys, u :: us, .cons r t, h => by
    rw [List.all_cons, Bool.and_eq_true] at h
    rw [List.countP_cons, List.countP_cons, countU (K := K) ry t h.2, eqU_of r h.1]
def rCntF (K : PySem.W.Frag) : V → List V → Hp → VK → Prop := fun x xs H Q => ∃ (a : Addr) (ys : List V) (y : V), x = .ref a ∧ xs = [y] ∧ SqL K H a ys ∧ flatV y = true ∧ ys.all flatV = true ∧ Q (.int (ys.countP (fun z => eqV z y) : Nat)) H
theorem mt_countF : MtR X "list.count" (rCntF X.K) := by
  intro pins s σ H x xs v us Q I rx rxs h
  obtain ⟨a, ys, y, rfl, rfl, hs, fy, fys, q⟩ := h
  cases rx
  cases rxs with
  | cons ry rt =>
    rename_i uy ut
    cases rt
    obtain ⟨its, rv, ⟨⟨cls, dd, data, sl⟩, n, ho, hc, hdn, hd⟩, hlen⟩ := I.list hs
    simp only at hc hd
    subst hc hd
    refine call_meets PySem.F.slot_list_count ⟨_, ho, rfl⟩ PySem.F.entry_list_count (PySem.F.args_list_count_2 _ _)
      (SeqAt.list_countAt a its.toArray n dd sl uy (eqU y)) ⟨ho, fun u' hu' => mem_eqAt ry fy rv fys u' (by simpa using hu'), ?_⟩
    have ec : its.toArray.toList.countP (eqU y) = ys.countP (fun z => eqV z y) := countU (K := X.K) ry rv fys
    refine ⟨.int (ys.countP (fun z => eqV z y) : Nat), H, I.tok _, ⟨s.toks, ?_⟩, q⟩
    show Value.int ((its.toArray.toList.countP (eqU y) : Nat) : Int) s.toks = _
    rw [ec]
end
section
variable {X : Cx} {W : WX} {G : List Slot} {a b c e o : Expr} {es rest : List Expr} {pos p p2 : Pos} {d d0 d1 d2 d3 : Dv} {ds ds1 ds2 : List Dv} {k : Out → Prop}
theorem flat_bls (bs : List Bool) : (bs.map V.bl).all flatV = true := by
  rw [List.all_map, List.all_eq_true]
  intro b _; rfl
/-- xs.count(y) of a list of bools -/
theorem ev_countB {nm : Str} {bs : List Bool} {y : Bool} {ap : Pos} (ha : EvP X G a (bs.map Dv.bl)) (hnm : nm = "count") (he : EvD X G e (.bl y))
    (hbase : attributeBase a nm X.env (eval a X.env) = eval a X.env := by rfl)
    (hall : (((backTo p (starEach (e :: []) X.env)).all (fun x => !x.1) && (backToKw p (keywordEach [] X.env)).all (fun x => x.1.isSome)) && decide ((e :: ([] : List Expr)).length + ([] : List Keyword).length + (if ([] : List Keyword).isEmpty = true then 0 else 1) < 30)) = true := by rfl)
    (hline : (ap.endLine == p.line) = true := by rfl) (hst : starEach (e :: []) X.env = (false, eval e X.env) :: starEach [] X.env := by rfl) (hpl : (backTo p (starEach [] X.env)).any (·.1) = false := by rfl) :
    EvD X G (.Call (.Attribute a nm ap) [e] [] p) (.int ((bs.countP fun z => z == y : Nat) : Int)) := fun B0 H0 B H sg Q f q => by
  subst hnm
  refine PE.w (pe_bm PySem.F.plainAttrs_list PySem.F.slot_list_count PySem.F.type_list_count mt_countF pe_w (pa_cons pe_w pa_nil hst) hbase hall hline hst hpl) (ha B0 H0 B H sg _ f fun l vs B1 H1 g1 e1 r1 =>
    ⟨.inl ⟨rfl, _, .inl (.inl e1)⟩, he B0 H0 B1 H1 sg _ (f.mono g1) fun v B2 H2 g2 r2 => ?_⟩)
  cases r2
  have ev := r1.bl_eq
  subst ev
  refine ⟨l, _, .bl y, rfl, rfl, .inl (.inl (g2.h _ _ e1)), rfl, flat_bls bs, ?_⟩
  have ec : (bs.map V.bl).countP (fun z => eqV z (.bl y)) = bs.countP fun z => z == y := by
    rw [List.countP_map]
    congr 1
  rw [ec]
  exact q _ B2 H2 (g1.trans g2) (.int _)
theorem ev_indexB {nm : Str} {bs : List Bool} {y : Bool} {j : Nat} {ap : Pos} (ha : EvP X G a (bs.map Dv.bl)) (hnm : nm = "index") (he : EvD X G e (.bl y)) (h1 : bs[j]? = some y) (h2 : ∀ m z, m < j → bs[m]? = some z → z ≠ y)
    (hbase : attributeBase a nm X.env (eval a X.env) = eval a X.env := by rfl)
    (hall : (((backTo p (starEach (e :: []) X.env)).all (fun x => !x.1) && (backToKw p (keywordEach [] X.env)).all (fun x => x.1.isSome)) && decide ((e :: ([] : List Expr)).length + ([] : List Keyword).length + (if ([] : List Keyword).isEmpty = true then 0 else 1) < 30)) = true := by rfl)
    (hline : (ap.endLine == p.line) = true := by rfl) (hst : starEach (e :: []) X.env = (false, eval e X.env) :: starEach [] X.env := by rfl) (hpl : (backTo p (starEach [] X.env)).any (·.1) = false := by rfl) :
    EvD X G (.Call (.Attribute a nm ap) [e] [] p) (.int (j : Int)) := fun B0 H0 B H sg Q f q => by
  subst hnm
  refine PE.w (pe_bm PySem.F.plainAttrs_list PySem.F.slot_list_index PySem.F.type_list_index mt_index pe_w (pa_cons pe_w pa_nil hst) hbase hall hline hst hpl) (ha B0 H0 B H sg _ f fun l vs B1 H1 g1 e1 r1 =>
    ⟨.inl ⟨rfl, _, .inl (.inl e1)⟩, he B0 H0 B1 H1 sg _ (f.mono g1) fun v B2 H2 g2 r2 => ?_⟩)
  cases r2
  have ev := r1.bl_eq
  subst ev
  refine ⟨l, _, .bl y, j, .bl y, rfl, rfl, .inl (.inl (g2.h _ _ e1)), rfl, flat_bls bs, by rw [List.getElem?_map, h1]; rfl, by simp [eqV], fun m z hm hz => ?_, q _ B2 H2 (g1.trans g2) (.int _)⟩
  rw [List.getElem?_map] at hz
  cases e : bs[m]? with
  | none => rw [e] at hz; cases hz
  | some w =>
    rw [e] at hz
    cases hz
    simpa [eqV] using h2 m w hm e
/-- isinstance(e, C), e the caught error -/
theorem isE {x : Str} {r : Bool} {D ad : Addr} {oe : Obj} {pn : List (Addr × Obj)} {cv : Value} {v : V} (C : ExcC X.K D) (hz : Zc (.ref D) none oe) (hf : ∃ vs, oe.data = .fields vs)
    (ha : EvD (X.suite ad ((ad, oe) :: pn)) G a (.exn ad)) (hb : PE (X.suite ad ((ad, oe) :: pn)) b (tC v)) (hv : ∀ u, RelV v u → u = cv) (hk : PySem.W.kitOne X.K (.ref D) cv = some r) (hx : x = "isinstance") (hg : Gl (X.suite ad ((ad, oe) :: pn)) x) (hm : X.mg x = none)
    (he : starEach [a, b] X.env = (false, eval a X.env) :: starEach [b] X.env := by rfl) (he2 : starEach [b] X.env = (false, eval b X.env) :: starEach [] X.env := by rfl)
    (hpl : (backTo pos (starEach [b] X.env)).any (·.1) = false := by rfl) : EvD (X.suite ad ((ad, oe) :: pn)) G (.Call (.Name x p) [a, b] [] pos) (.bl r) := fun B0 H0 B H sg Q f q => by
  subst hx
  exact PE.w (pe_callB (call_isE C hz hf) hg hm (by decide +kernel) (pa_cons pe_w (pa_cons hb pa_nil he2) he) (he := he) (hpl := hpl)) (ha B0 H0 B H sg _ f fun v1 B1 H1 g1 r1 => by
    cases r1
    exact ⟨v, cv, r, rfl, hv, hk, q _ B1 H1 g1 (.bl _)⟩)
theorem less_free : ∀ G : List Slot, Less (List.replicate G.length .free) G
  | [] => .nil
  | _ :: G => .free (less_free G)
/-- try: .. except x as n: .. ; the suite returns -/
theorem s_try {x n : Str} {cl : Value} {body suite : List Stmt} {b₀ : Stmt} {np pos' : Pos} {M : Out → Prop} (i : Nat) (hs : X.stack = X.env :: X.outer) (hf : X.env.frame = some X.env.locals) (hN : X.N.Nodup) (hi : X.N[i]? = some n) (hln : X.env.kindOf n = some .local) (hc : Names X x cl)
    (hb : ∀ (W : WX) (pn : List (Addr × Obj)) (xe : Value → Shared → Prop), Takes (X.tr pn xe) W → PassesOwn (model X.prog X.w) X.A X.env xe → Ex (X.tr pn xe) W G body M)
    (hn : ∀ G', M (.nx G') → k (.nx G')) (hr : ∀ d, M (.rt d) → k (.rt d))
    (hx : ∀ y, M (.ex y) → PySem.W.exmOne X.K (ca X.mg y) cl = some true ∧ ∀ (ad : Addr) (oe : Obj) (pn : List (Addr × Obj)), Zc (ca X.mg y) none oe → (∃ vs, oe.data = .fields vs) →
      Ex (X.suite ad ((ad, oe) :: pn)) (fun _ _ _ _ => False) ((List.replicate X.N.length Slot.free).set i (.sh (.exn ad))) (b₀ :: suite) (fun o => ∃ d, o = .rt d ∧ k (.rt d))) :
    ExS X W G (.Try body [.ExceptHandler (some (.Name x np)) (some n) (b₀ :: suite) pos'] [] [] pos) k := fun B0 H0 B H sg D f fin => by
  refine PS.w (ps_try_as (tb := fun W' D' σ H' => ∀ (pn : List (Addr × Obj)) (xe : Value → Shared → Prop), Takes (X.tr pn xe) W' → PassesOwn (model X.prog X.w) X.A X.env xe → wpSs (X.tr pn xe) body D' σ H')
    (ts := fun a cls d D' σ H' => σ.length = X.N.length → ∀ (oe : Obj) (pn : List (Addr × Obj)), Zc cls d oe → (∃ vs, oe.data = .fields vs) → wpSs (X.suite a ((a, oe) :: pn)) (b₀ :: suite) D' σ H') (Wout := fun _ _ _ _ => False) hs hf hN hi hln hc takes0
    (fun W' pn xe tk pa => ⟨fun pins s sg H D I h => (h pn xe tk pa) pins s I⟩) (fun a oe cls d pn hz hfd => ⟨fun pins s sg H D I h => (h I.len oe pn hz hfd) pins s I⟩)) ?_
  intro pn xe tk pa
  refine hb _ pn xe tk pa B0 H0 B H sg D f ⟨fun G' B' H' sg' q f' => fin.nx G' B' H' sg' (hn G' q) f', fun d v B' H' q g r => fin.rt d v B' H' (hr d q) g r, fun y G' B' H' sg' q f' => ?_⟩
  refine ⟨true, (hx y q).1, fun _ ad _ hl oe pn' hz hfd => ?_, fun z => nomatch z⟩
  have hl' : G'.length = X.N.length := by
    have h1 := f'.len
    rw [List.length_set] at hl
    omega
  have f2 : FrOk X.K B0 H0 B' H' (List.replicate X.N.length Slot.free) sg' := by
    rw [← hl']
    exact f'.less (less_free G')
  exact (hx y q).2 ad oe pn' hz hfd B0 H0 B' H' _ _ (f2.setS .exn) ⟨fun G2 B2 H2 sg2 ⟨d, e, _⟩ _ => (nomatch e), fun d v B2 H2 ⟨d', e, hk⟩ g r => by cases e; exact fin.rt d v B2 H2 hk g r, fun y2 G2 B2 H2 sg2 ⟨d, e, _⟩ _ => (nomatch e)⟩
end
end DT

set_option Elab.async false
set_option linter.all false
set_option maxRecDepth 100000
namespace DT
open PySem PySem.Spec L2
open PyProof.Rows hiding St
open SX (S)
local macro_rules | `(tactic| walk_at "less") => `(tactic| repeat (first | exact DT.Less.nil | refine DT.Less.cons ?_ | refine DT.Less.free ?_))
def codeX (x : Str) : Int := ((anames.findIdx fun y => decide (x = y) : Nat) : Int)
/-- more of the top: the errors' kinds, the type of Standing -/
structure Txt2 (K : PySem.W.Frag) (mg : Str → Option Value) : Prop where
  t : Txt K mg
  gl : ∀ y ∈ anames, mg y = some (.ref (clsA mg y))
  he : mg "HouseError" = some (.ref (clsA mg "HouseError"))
  ve : mg "ValueError" = none
  ex : ∀ x ∈ xnames, ExcC K (clsA mg x) ∧ PySem.W.exmOne K (.ref (clsA mg x)) (.ref (clsA mg "HouseError")) = some true ∧ PySem.W.kitOne K (.ref (clsA mg x)) (.type "ValueError") = some true ∧ ∀ y ∈ anames, PySem.W.kitOne K (.ref (clsA mg x)) (.ref (clsA mg y)) = some (decide (x = y))
  sa : PySem.W.findIn K (.ref (clsA mg "Standing")) "__class__" = some (some (.builtin "object.__class__"))
  sn : PySem.W.specialIn K (.builtin "object.__class__") "__get__" = some (some (.builtin "getset_descriptor.__get__"))
  sk : PySem.W.takesIn K (.builtin "object.__class__") = some true
  sm : PySem.W.mroIn K (clsA mg "Standing") (.type "object") = some true
theorem xin {x : Str} (h : x ∈ xnames) : x ∈ anames := by
  have : ∀ x ∈ xnames, x ∈ anames := by decide
  exact this x h
theorem need_names {n : Nat} {dr : List Door} {t : List Nat} {hs : List Hand} {ps ks : List Int} {x : Str} (h : needM n dr t hs ps ks = some x) : x ∈ xnames := by
  unfold needM at h
  split at h
  · cases h; decide
  split at h
  · cases h; decide
  split at h
  · cases h; decide
  split at h
  · cases h; decide
  split at h
  · cases h; decide
  split at h
  · cases h; decide
  · cases h
theorem chase_names {n : Nat} {dr : List Door} {t : List Nat} {hs : List Hand} {ps : List Int} {a b : Int} {ws : List Int} {x : Str} (h : chaseM n dr t hs ps a b ws = .exc x) : x ∈ xnames := by
  unfold chaseM at h
  cases hN : needM n dr t hs ps [a, b] with
  | some y =>
    rw [hN] at h
    cases h
    exact need_names hN
  | none =>
    rw [hN] at h
    dsimp only at h
    split at h
    · cases h; decide
    split at h
    · cases h; decide
    · cases h
def RefOk (kind : Int) (n : Nat) (dr : List Door) (t : List Nat) (hs : List Hand) (ps : List Int) (pr : Dv) (x : Str) : Prop :=
  ((kind = 0 ∨ kind = 1) ∧ PairOk n dr t hs ps [] ∧ needM n dr t hs ps [] = some x) ∨
  (kind = 2 ∧ ∃ (li : Bool) (a b : Int) (ws : List Int), pr = pairD li a b ∧ PairOk n dr t hs ps [a, b] ∧ (needM n dr t hs ps [a, b] = none → WayR (dictM (orderM n dr (ix hs b).2)) (ix hs b).2 (ix hs a).2 ws) ∧ chaseM n dr t hs ps a b ws = .exc x)
theorem RefOk.name {kind : Int} {n : Nat} {dr : List Door} {t : List Nat} {hs : List Hand} {ps : List Int} {pr : Dv} {x : Str} (h : RefOk kind n dr t hs ps pr x) : x ∈ xnames := by
  rcases h with ⟨_, _, h⟩ | ⟨_, _, _, _, _, _, _, _, h⟩
  · exact need_names h
  · exact chase_names h
def mk (x : Str) (j : Nat) : List Bool := (anames.take j).map fun y => decide (x = y)
theorem mk_room (x : Str) (j : Nat) (ds : List Dv) (h1 : j ≤ 25) (h2 : ds.length ≤ 10) : ((mk x j).map Dv.bl).length + ds.length ≤ sizeLine := by
  have : ((mk x j).map Dv.bl).length ≤ j := by
    unfold mk
    rw [List.length_map, List.length_map, List.length_take]
    omega
  exact Nat.le_trans (show _ ≤ 35 by omega) (by decide)
section
variable {X : Cx} {G : List Slot} {ad : Addr} {oe : Obj} {pn : List (Addr × Obj)} {x : Str} {pos p p1 p2 : Pos}
theorem isX {y f : Str} (T : Txt2 X.K X.mg) (hxm : x ∈ xnames) (hz : Zc (.ref (clsA X.mg x)) none oe) (hf : ∃ vs, oe.data = .fields vs) (ha : EvD (X.suite ad ((ad, oe) :: pn)) G e (.exn ad)) (hy : y ∈ anames) (hgy : Gl (X.suite ad ((ad, oe) :: pn)) y) (hdy : (y == ("__debug__" : Str)) = false) (hx : f = "isinstance") (hg : Gl (X.suite ad ((ad, oe) :: pn)) f)
    (he : starEach [e, Expr.Name y p2] X.env = (false, eval e X.env) :: starEach [Expr.Name y p2] X.env := by rfl) (he2 : starEach [Expr.Name y p2] X.env = (false, eval (Expr.Name y p2) X.env) :: starEach [] X.env := by rfl)
    (hpl : (backTo pos (starEach [Expr.Name y p2] X.env)).any (·.1) = false := by rfl) : EvD (X.suite ad ((ad, oe) :: pn)) G (.Call (.Name f p) [e, .Name y p2] [] pos) (.bl (decide (x = y))) := by
  subst hx
  obtain ⟨h1, h2, h3, h4⟩ := T.ex x hxm
  exact isE h1 hz hf ha (pe_glob (v := .ref (clsA X.mg y)) hgy (T.gl y hy) rfl hdy) (fun u r => r) (h4 y hy) rfl hg T.t.isinstance he he2 hpl
theorem isVE {y f : Str} (T : Txt2 X.K X.mg) (hxm : x ∈ xnames) (hz : Zc (.ref (clsA X.mg x)) none oe) (hf : ∃ vs, oe.data = .fields vs) (ha : EvD (X.suite ad ((ad, oe) :: pn)) G e (.exn ad)) (hy : y = "ValueError") (hgy : Gl (X.suite ad ((ad, oe) :: pn)) y) (hx : f = "isinstance") (hg : Gl (X.suite ad ((ad, oe) :: pn)) f)
    (he : starEach [e, Expr.Name y p2] X.env = (false, eval e X.env) :: starEach [Expr.Name y p2] X.env := by rfl) (he2 : starEach [Expr.Name y p2] X.env = (false, eval (Expr.Name y p2) X.env) :: starEach [] X.env := by rfl)
    (hpl : (backTo pos (starEach [Expr.Name y p2] X.env)).any (·.1) = false := by rfl) : EvD (X.suite ad ((ad, oe) :: pn)) G (.Call (.Name f p) [e, .Name y p2] [] pos) (.bl true) := by
  subst hy
  subst hx
  obtain ⟨h1, h2, h3, h4⟩ := T.ex x hxm
  exact isE h1 hz hf ha (pe_bltn (v := .ty "ValueError") hgy T.ve (by decide +kernel) rfl (by decide) (by decide)) (fun u r => r) h3 rfl hg T.t.isinstance he he2 hpl
end
section
variable {P : Program} {w : World} {K : PySem.W.Frag} {mg : Str → Option Value} {base : Heap}
theorem sc85 : FnScope ["_law_kind", "_law_house_here", "_law_standing", "_law_pair", "e", "_law_marks"] ["_law_kind", "_law_house_here", "_law_standing", "_law_pair"] (defScope (topS 85)) := ⟨rfl, rfl, rfl, by decide +kernel, rfl, by decide +kernel, by decide +kernel⟩
def R_refusal (mg : Str → Option Value) : List Dv → Res → Prop := fun ds res => ∃ (kind : Int) (n : Nat) (dr : List Door) (t : List Nat) (hs : List Hand) (ps : List Int) (pr : Dv) (x : Str), ds = [.int kind, encHo mg n dr t, encSt mg hs ps, pr] ∧ RefOk kind n dr t hs ps pr x ∧ res = .val (.int (codeX x))
set_option maxHeartbeats 2000000 in
theorem d_refusal (T : Txt2 K mg) : Df P w K mg base "_law_refusal" 7 (R_refusal mg) := by
  have nd := sc85.nd
  have D_is_forced := @d_is_forced P w K mg base T.t
  have D_chased_pair := @d_chased_pair P w K mg base T.t
  have D_chase_door := @d_chase_door P w K mg base T.t
  refine df_mk (T.t.fn 85 "_law_refusal" rfl) sc85 _ (fun ds res h => by obtain ⟨kind, n, dr, t, hs, ps, pr, x, rfl, _⟩ := h; rfl) (fun _ _ _ _ _ _ us hl => match us, hl with | [_, _, _, _], _ => rfl) (fun f cdv A outer s H E hr tk hp ds res h => ?_)
  obtain ⟨kind, n, dr, t, hs, ps, pr, x, rfl, hR, rfl⟩ := h
  have hxm := hR.name
  have hxa := xin hxm
  have ecx : ca mg x = .ref (clsA mg x) := by unfold ca; rw [T.gl x hxa]; rfl
  refine x_cons (s_try (M := fun o => o = .ex x) 4 rfl rfl nd rfl rfl ⟨rfl, by decide, .inl T.he⟩ (fun W' pn xe tk' pa => ?_) (fun _ h => nomatch h) (fun _ h => nomatch h) (fun y hy => ?_))
  · rcases hR with ⟨hk, hp1, hn1⟩ | ⟨hk, li, a, b, ws, rfl, hp1, hw1, hc1⟩
    · rcases hk with rfl | rfl
      · refine x_one (s_if (t := true) (eb_is (eb_eq (vr 0 rfl) ev_int) (by decide)) (fun _ => ?_) (fun h => nomatch h))
        exact x_one (s_exprX (ex_call tk' D_is_forced (hr.mono (by decide)) rfl (ea_cons (vr 1 rfl) (ea_cons (vr 2 rfl) ea_nil)) ⟨n, dr, t, hs, ps, rfl, hp1, by rw [hn1]; rfl⟩ (by decide)) rfl)
      · refine x_one (s_if (t := false) (eb_is (eb_eq (vr 0 rfl) ev_int) (by decide)) (fun h => nomatch h) (fun _ => ?_))
        refine x_one (s_if (t := true) (eb_is (eb_eq (vr 0 rfl) ev_int) (by decide)) (fun _ => ?_) (fun h => nomatch h))
        exact x_one (s_exprX (ex_call tk' D_chased_pair (hr.mono (by decide)) rfl (ea_cons (vr 1 rfl) (ea_cons (vr 2 rfl) ea_nil)) ⟨n, dr, t, hs, ps, rfl, hp1, by rw [hn1]; rfl⟩ (by decide)) rfl)
    · subst hk
      refine x_one (s_if (t := false) (eb_is (eb_eq (vr 0 rfl) ev_int) (by decide)) (fun h => nomatch h) (fun _ => ?_))
      refine x_one (s_if (t := false) (eb_is (eb_eq (vr 0 rfl) ev_int) (by decide)) (fun h => nomatch h) (fun _ => ?_))
      exact x_one (s_exprX (ex_call tk' D_chase_door (hr.mono (by decide)) rfl (ea_cons (vr 1 rfl) (ea_cons (vr 2 rfl) (ea_cons (vr 3 rfl) ea_nil))) ⟨n, dr, t, hs, ps, li, a, b, ws, rfl, hp1, hw1, hc1.symm⟩ (by decide)) rfl)
  · cases hy
    refine ⟨by rw [show ca (cxOf (L2.CX P w) P w K mg base ["_law_kind", "_law_house_here", "_law_standing", "_law_pair", "e", "_law_marks"] "_law_refusal" (defScope (topS 85)) f cdv A outer s H E).mg x = .ref (clsA mg x) from ecx]; exact (T.ex x hxm).2.1, fun ad oe pn hz hfd => ?_⟩
    rw [show ca (cxOf (L2.CX P w) P w K mg base ["_law_kind", "_law_house_here", "_law_standing", "_law_pair", "e", "_law_marks"] "_law_refusal" (defScope (topS 85)) f cdv A outer s H E).mg x = .ref (clsA mg x) from ecx] at hz
    refine x_cons (DT.st 5 nd (d := .lst ((mk x 3).map Dv.bl)) (ev_is (en_d (en_lst (ea_cons (isX T hxm hz hfd (vr 4 rfl) (by decide) rfl (by decide) rfl rfl) (ea_cons (isX T hxm hz hfd (vr 4 rfl) (by decide) rfl (by decide) rfl rfl) (ea_cons (isX T hxm hz hfd (vr 4 rfl) (by decide) rfl (by decide) rfl rfl) ea_nil))))) rfl) ?_)
    refine x_cons (DT.st 5 nd (d := .lst ((mk x 6).map Dv.bl)) (ev_is (en_d (en_cat (ev_p (vr 5 rfl)) (en_p (en_lst (ea_cons (isX T hxm hz hfd (vr 4 rfl) (by decide) rfl (by decide) rfl rfl) (ea_cons (isX T hxm hz hfd (vr 4 rfl) (by decide) rfl (by decide) rfl rfl) (ea_cons (isX T hxm hz hfd (vr 4 rfl) (by decide) rfl (by decide) rfl rfl) ea_nil))))) (mk_room x _ _ (by decide) (Nat.le_of_ble_eq_true rfl)))) rfl) ?_)
    refine x_cons (DT.st 5 nd (d := .lst ((mk x 9).map Dv.bl)) (ev_is (en_d (en_cat (ev_p (vr 5 rfl)) (en_p (en_lst (ea_cons (isX T hxm hz hfd (vr 4 rfl) (by decide) rfl (by decide) rfl rfl) (ea_cons (isX T hxm hz hfd (vr 4 rfl) (by decide) rfl (by decide) rfl rfl) (ea_cons (isX T hxm hz hfd (vr 4 rfl) (by decide) rfl (by decide) rfl rfl) ea_nil))))) (mk_room x _ _ (by decide) (Nat.le_of_ble_eq_true rfl)))) rfl) ?_)
    refine x_cons (DT.st 5 nd (d := .lst ((mk x 12).map Dv.bl)) (ev_is (en_d (en_cat (ev_p (vr 5 rfl)) (en_p (en_lst (ea_cons (isX T hxm hz hfd (vr 4 rfl) (by decide) rfl (by decide) rfl rfl) (ea_cons (isX T hxm hz hfd (vr 4 rfl) (by decide) rfl (by decide) rfl rfl) (ea_cons (isX T hxm hz hfd (vr 4 rfl) (by decide) rfl (by decide) rfl rfl) ea_nil))))) (mk_room x _ _ (by decide) (Nat.le_of_ble_eq_true rfl)))) rfl) ?_)
    refine x_cons (DT.st 5 nd (d := .lst ((mk x 15).map Dv.bl)) (ev_is (en_d (en_cat (ev_p (vr 5 rfl)) (en_p (en_lst (ea_cons (isX T hxm hz hfd (vr 4 rfl) (by decide) rfl (by decide) rfl rfl) (ea_cons (isX T hxm hz hfd (vr 4 rfl) (by decide) rfl (by decide) rfl rfl) (ea_cons (isX T hxm hz hfd (vr 4 rfl) (by decide) rfl (by decide) rfl rfl) ea_nil))))) (mk_room x _ _ (by decide) (Nat.le_of_ble_eq_true rfl)))) rfl) ?_)
    refine x_cons (DT.st 5 nd (d := .lst ((mk x 18).map Dv.bl)) (ev_is (en_d (en_cat (ev_p (vr 5 rfl)) (en_p (en_lst (ea_cons (isX T hxm hz hfd (vr 4 rfl) (by decide) rfl (by decide) rfl rfl) (ea_cons (isX T hxm hz hfd (vr 4 rfl) (by decide) rfl (by decide) rfl rfl) (ea_cons (isX T hxm hz hfd (vr 4 rfl) (by decide) rfl (by decide) rfl rfl) ea_nil))))) (mk_room x _ _ (by decide) (Nat.le_of_ble_eq_true rfl)))) rfl) ?_)
    refine x_cons (DT.st 5 nd (d := .lst ((mk x 21).map Dv.bl)) (ev_is (en_d (en_cat (ev_p (vr 5 rfl)) (en_p (en_lst (ea_cons (isX T hxm hz hfd (vr 4 rfl) (by decide) rfl (by decide) rfl rfl) (ea_cons (isX T hxm hz hfd (vr 4 rfl) (by decide) rfl (by decide) rfl rfl) (ea_cons (isX T hxm hz hfd (vr 4 rfl) (by decide) rfl (by decide) rfl rfl) ea_nil))))) (mk_room x _ _ (by decide) (Nat.le_of_ble_eq_true rfl)))) rfl) ?_)
    refine x_cons (DT.st 5 nd (d := .lst ((mk x 24).map Dv.bl)) (ev_is (en_d (en_cat (ev_p (vr 5 rfl)) (en_p (en_lst (ea_cons (isX T hxm hz hfd (vr 4 rfl) (by decide) rfl (by decide) rfl rfl) (ea_cons (isX T hxm hz hfd (vr 4 rfl) (by decide) rfl (by decide) rfl rfl) (ea_cons (isX T hxm hz hfd (vr 4 rfl) (by decide) rfl (by decide) rfl rfl) ea_nil))))) (mk_room x _ _ (by decide) (Nat.le_of_ble_eq_true rfl)))) rfl) ?_)
    refine x_cons (DT.st 5 nd (d := .lst ((mk x 25).map Dv.bl)) (ev_is (en_d (en_cat (ev_p (vr 5 rfl)) (en_p (en_lst (ea_cons (isX T hxm hz hfd (vr 4 rfl) (by decide) rfl (by decide) rfl rfl) ea_nil))) (mk_room x _ _ (by decide) (Nat.le_of_ble_eq_true rfl)))) rfl) ?_)
    have hcnt : ∀ x ∈ xnames, ((mk x 25).countP fun z => z == true) = 1 := by decide
    have hat : ∀ x ∈ xnames, (mk x 25)[anames.findIdx fun y => decide (x = y)]? = some true := by decide
    have hbe : ∀ x ∈ xnames, ∀ m < (anames.findIdx fun y => decide (x = y)), (mk x 25)[m]? = some false := by decide
    refine x_cons (s_if (t := true) (eb_is (ew_b (ew_and (eb_eq (ev_countB (bs := mk x 25) (ev_p (vr 5 rfl)) rfl ev_bl) ev_int) (fun _ => (ew_and1 (eb_val (isVE T hxm hz hfd (vr 4 rfl) rfl rfl rfl rfl)))))) (by rw [hcnt x hxm]; rfl)) (fun hc => ?_) (fun hc => ?_))
    · exact x_one (s_ret (ev_indexB (bs := mk x 25) (j := anames.findIdx fun y => decide (x = y)) (ev_p (vr 5 rfl)) rfl ev_bl (hat x hxm) (fun m z hm hz' => by
        rw [hbe x hxm m hm] at hz'
        cases hz'
        decide)) ⟨_, rfl, rfl⟩)
    · cases hc
end
end DT

set_option Elab.async false
set_option linter.all false
set_option maxRecDepth 100000
set_option maxHeartbeats 0
namespace DT
open PySem PySem.Spec L2
open PyProof.Rows hiding St
theorem clsA_eq {mg : Str → Option Value} {x : Str} {a : Addr} (h : mg x = some (.ref a)) : clsA mg x = a := by
  unfold clsA
  rw [h]
theorem factM {fa : List He.Fa} {fn : List He.DefD} {K : PySem.W.Frag} (c : He.SaysD fa fn K) {f : He.Fa} (h : f ∈ fa) : f.ok K = true := by
  obtain ⟨i, hi, e⟩ := List.mem_iff_getElem.mp h
  exact c.fact i (f := f) (by rw [List.getElem?_eq_getElem hi, e])
def mkD (x : Str) (i : Nat) : He.DefD := ⟨(x, none), x, x, L2.defArgs (topS i), L2.defBody (topS i), L2.defScope (topS i), [], []⟩
def idx : List (Nat × Str) := [(28, ("is_index" : Str)), (31, ("_are_trades" : Str)), (32, ("_is_door" : Str)), (33, ("_is_connected" : Str)), (35, ("is_tree" : Str)), (36, ("is_swift" : Str)), (39, ("_is_trade" : Str)), (40, ("fits" : Str)), (41, ("lights_at" : Str)), (43, ("need_fits" : Str)), (44, ("need_hands" : Str)), (45, ("need_no_masters" : Str)), (46, ("need_two_trades" : Str)), (47, ("need_tree" : Str)), (48, ("need_swift" : Str)), (50, ("tree_doors" : Str)), (51, ("tree_order" : Str)), (52, ("way_of" : Str)), (54, ("_need_chase" : Str)), (55, ("_red_distances" : Str)), (56, ("is_forced" : Str)), (57, ("chased_pair" : Str)), (58, ("chase_door" : Str)), (60, ("_law_cell" : Str)), (61, ("_law_row" : Str)), (62, ("_law_odd_cycle" : Str)), (63, ("_law_any_cycle" : Str)), (64, ("_law_house" : Str)), (65, ("_law_hands" : Str)), (66, ("_law_places" : Str)), (67, ("_law_is_integer" : Str)), (68, ("_law_is_standing" : Str)), (69, ("_law_deed" : Str)), (70, ("_law_possible" : Str)), (71, ("_law_lights" : Str)), (72, ("_law_spread" : Str)), (73, ("_law_distances" : Str)), (74, ("_law_way" : Str)), (75, ("_law_roomy" : Str)), (76, ("_law_laid" : Str)), (77, ("_law_swift" : Str)), (78, ("_law_lured" : Str)), (79, ("_law_chased" : Str)), (80, ("_law_seen" : Str)), (81, ("_law_met" : Str)), (82, ("_law_flight" : Str)), (83, ("_law_hunted" : Str)), (84, ("_law_roamed" : Str)), (85, ("_law_refusal" : Str)), (86, ("_law_fits" : Str)), (87, ("_law_due" : Str)), (88, ("_law_paired" : Str)), (89, ("_law_spoil" : Str)), (90, ("law" : Str))]
def okI (i : Nat) : Bool := match fnName (topS i) with
  | some x => idx.any fun p => decide (p.1 = i) && decide (p.2 = x)
  | none => true
theorem okAll : (List.range 100).all okI = true := by decide +kernel
theorem topLen : PySem.Challenge.pw_lanternhouse_k63_whole_chase.main.body.length ≤ 100 := by decide +kernel
theorem idx_of {i : Nat} {x : Str} (h : fnName (topS i) = some x) : (i, x) ∈ idx := by
  by_cases hi : i < 100
  · have k := List.all_eq_true.mp okAll i (List.mem_range.mpr hi)
    unfold okI at k
    rw [h] at k
    obtain ⟨p, hp, e⟩ := List.any_eq_true.mp k
    rw [Bool.and_eq_true] at e
    obtain ⟨e1, e2⟩ := e
    have e1 := of_decide_eq_true e1
    have e2 := of_decide_eq_true e2
    obtain ⟨a, b⟩ := p
    cases e1
    cases e2
    exact hp
  · exfalso
    have e : topS i = .Pass ⟨0, 0, 0, 0⟩ := by
      unfold topS
      have := topLen
      rw [List.getD_eq_getElem?_getD, List.getElem?_eq_none (by omega)]
      rfl
    rw [e] at h
    cases h
section
variable {K : PySem.W.Frag} {h : Heap} {mg : Str → Option Value}
theorem fnT {fa : List He.Fa} {fn : List He.DefD} (X : K.In h) (G : h.Ns mainGlobals mg) (c : He.SaysD fa fn K) {x : Str} {i : Nat} (g : (He.Fa.glo x).ok K = true) (j : Nat) (e : fn[j]? = some (mkD x i)) : FnTxt K mg x (topS i) := by
  obtain ⟨fd, F⟩ := c.def_ j e
  exact ⟨_, fd, F, He.glo_ok X G g⟩
theorem fnAll (X : K.In h) (G : h.Ns mainGlobals mg) (cA : He.SaysD hfaA hfnA K) (cB : He.SaysD hfaB hfnB K) : ∀ p ∈ idx, FnTxt K mg p.2 (topS p.1) := by
  refine List.forall_mem_cons.2 ⟨fnT (x := "is_index") (i := 28) X G cA (cB.fact 0 (f := .glo "is_index") rfl) 2 rfl, ?_⟩
  refine List.forall_mem_cons.2 ⟨fnT (x := "_are_trades") (i := 31) X G cA (cB.fact 1 (f := .glo "_are_trades") rfl) 3 rfl, ?_⟩
  refine List.forall_mem_cons.2 ⟨fnT (x := "_is_door") (i := 32) X G cA (cB.fact 2 (f := .glo "_is_door") rfl) 4 rfl, ?_⟩
  refine List.forall_mem_cons.2 ⟨fnT (x := "_is_connected") (i := 33) X G cA (cB.fact 3 (f := .glo "_is_connected") rfl) 5 rfl, ?_⟩
  refine List.forall_mem_cons.2 ⟨fnT (x := "is_tree") (i := 35) X G cA (cB.fact 4 (f := .glo "is_tree") rfl) 6 rfl, ?_⟩
  refine List.forall_mem_cons.2 ⟨fnT (x := "is_swift") (i := 36) X G cA (cB.fact 5 (f := .glo "is_swift") rfl) 7 rfl, ?_⟩
  refine List.forall_mem_cons.2 ⟨fnT (x := "_is_trade") (i := 39) X G cA (cB.fact 6 (f := .glo "_is_trade") rfl) 8 rfl, ?_⟩
  refine List.forall_mem_cons.2 ⟨fnT (x := "fits") (i := 40) X G cA (cB.fact 7 (f := .glo "fits") rfl) 9 rfl, ?_⟩
  refine List.forall_mem_cons.2 ⟨fnT (x := "lights_at") (i := 41) X G cA (cB.fact 8 (f := .glo "lights_at") rfl) 10 rfl, ?_⟩
  refine List.forall_mem_cons.2 ⟨fnT (x := "need_fits") (i := 43) X G cA (cB.fact 9 (f := .glo "need_fits") rfl) 11 rfl, ?_⟩
  refine List.forall_mem_cons.2 ⟨fnT (x := "need_hands") (i := 44) X G cA (cB.fact 10 (f := .glo "need_hands") rfl) 12 rfl, ?_⟩
  refine List.forall_mem_cons.2 ⟨fnT (x := "need_no_masters") (i := 45) X G cA (cB.fact 11 (f := .glo "need_no_masters") rfl) 13 rfl, ?_⟩
  refine List.forall_mem_cons.2 ⟨fnT (x := "need_two_trades") (i := 46) X G cA (cB.fact 12 (f := .glo "need_two_trades") rfl) 14 rfl, ?_⟩
  refine List.forall_mem_cons.2 ⟨fnT (x := "need_tree") (i := 47) X G cA (cB.fact 13 (f := .glo "need_tree") rfl) 15 rfl, ?_⟩
  refine List.forall_mem_cons.2 ⟨fnT (x := "need_swift") (i := 48) X G cA (cB.fact 14 (f := .glo "need_swift") rfl) 16 rfl, ?_⟩
  refine List.forall_mem_cons.2 ⟨fnT (x := "tree_doors") (i := 50) X G cA (cB.fact 15 (f := .glo "tree_doors") rfl) 17 rfl, ?_⟩
  refine List.forall_mem_cons.2 ⟨fnT (x := "tree_order") (i := 51) X G cA (cB.fact 16 (f := .glo "tree_order") rfl) 18 rfl, ?_⟩
  refine List.forall_mem_cons.2 ⟨fnT (x := "way_of") (i := 52) X G cA (cB.fact 17 (f := .glo "way_of") rfl) 19 rfl, ?_⟩
  refine List.forall_mem_cons.2 ⟨fnT (x := "_need_chase") (i := 54) X G cA (cB.fact 18 (f := .glo "_need_chase") rfl) 20 rfl, ?_⟩
  refine List.forall_mem_cons.2 ⟨fnT (x := "_red_distances") (i := 55) X G cA (cB.fact 19 (f := .glo "_red_distances") rfl) 21 rfl, ?_⟩
  refine List.forall_mem_cons.2 ⟨fnT (x := "is_forced") (i := 56) X G cA (cB.fact 20 (f := .glo "is_forced") rfl) 22 rfl, ?_⟩
  refine List.forall_mem_cons.2 ⟨fnT (x := "chased_pair") (i := 57) X G cA (cB.fact 21 (f := .glo "chased_pair") rfl) 23 rfl, ?_⟩
  refine List.forall_mem_cons.2 ⟨fnT (x := "chase_door") (i := 58) X G cA (cB.fact 22 (f := .glo "chase_door") rfl) 24 rfl, ?_⟩
  refine List.forall_mem_cons.2 ⟨fnT (x := "_law_cell") (i := 60) X G cA (cB.fact 23 (f := .glo "_law_cell") rfl) 25 rfl, ?_⟩
  refine List.forall_mem_cons.2 ⟨fnT (x := "_law_row") (i := 61) X G cA (cB.fact 24 (f := .glo "_law_row") rfl) 26 rfl, ?_⟩
  refine List.forall_mem_cons.2 ⟨fnT (x := "_law_odd_cycle") (i := 62) X G cA (cB.fact 25 (f := .glo "_law_odd_cycle") rfl) 27 rfl, ?_⟩
  refine List.forall_mem_cons.2 ⟨fnT (x := "_law_any_cycle") (i := 63) X G cA (cB.fact 26 (f := .glo "_law_any_cycle") rfl) 28 rfl, ?_⟩
  refine List.forall_mem_cons.2 ⟨fnT (x := "_law_house") (i := 64) X G cA (cB.fact 27 (f := .glo "_law_house") rfl) 29 rfl, ?_⟩
  refine List.forall_mem_cons.2 ⟨fnT (x := "_law_hands") (i := 65) X G cA (cB.fact 28 (f := .glo "_law_hands") rfl) 30 rfl, ?_⟩
  refine List.forall_mem_cons.2 ⟨fnT (x := "_law_places") (i := 66) X G cA (cB.fact 29 (f := .glo "_law_places") rfl) 31 rfl, ?_⟩
  refine List.forall_mem_cons.2 ⟨fnT (x := "_law_is_integer") (i := 67) X G cB (cB.fact 30 (f := .glo "_law_is_integer") rfl) 0 rfl, ?_⟩
  refine List.forall_mem_cons.2 ⟨fnT (x := "_law_is_standing") (i := 68) X G cB (cB.fact 31 (f := .glo "_law_is_standing") rfl) 1 rfl, ?_⟩
  refine List.forall_mem_cons.2 ⟨fnT (x := "_law_deed") (i := 69) X G cB (cB.fact 32 (f := .glo "_law_deed") rfl) 2 rfl, ?_⟩
  refine List.forall_mem_cons.2 ⟨fnT (x := "_law_possible") (i := 70) X G cB (cB.fact 33 (f := .glo "_law_possible") rfl) 3 rfl, ?_⟩
  refine List.forall_mem_cons.2 ⟨fnT (x := "_law_lights") (i := 71) X G cB (cB.fact 34 (f := .glo "_law_lights") rfl) 4 rfl, ?_⟩
  refine List.forall_mem_cons.2 ⟨fnT (x := "_law_spread") (i := 72) X G cB (cB.fact 35 (f := .glo "_law_spread") rfl) 5 rfl, ?_⟩
  refine List.forall_mem_cons.2 ⟨fnT (x := "_law_distances") (i := 73) X G cB (cB.fact 36 (f := .glo "_law_distances") rfl) 6 rfl, ?_⟩
  refine List.forall_mem_cons.2 ⟨fnT (x := "_law_way") (i := 74) X G cB (cB.fact 37 (f := .glo "_law_way") rfl) 7 rfl, ?_⟩
  refine List.forall_mem_cons.2 ⟨fnT (x := "_law_roomy") (i := 75) X G cB (cB.fact 38 (f := .glo "_law_roomy") rfl) 8 rfl, ?_⟩
  refine List.forall_mem_cons.2 ⟨fnT (x := "_law_laid") (i := 76) X G cB (cB.fact 39 (f := .glo "_law_laid") rfl) 9 rfl, ?_⟩
  refine List.forall_mem_cons.2 ⟨fnT (x := "_law_swift") (i := 77) X G cB (cB.fact 40 (f := .glo "_law_swift") rfl) 10 rfl, ?_⟩
  refine List.forall_mem_cons.2 ⟨fnT (x := "_law_lured") (i := 78) X G cB (cB.fact 41 (f := .glo "_law_lured") rfl) 11 rfl, ?_⟩
  refine List.forall_mem_cons.2 ⟨fnT (x := "_law_chased") (i := 79) X G cB (cB.fact 42 (f := .glo "_law_chased") rfl) 12 rfl, ?_⟩
  refine List.forall_mem_cons.2 ⟨fnT (x := "_law_seen") (i := 80) X G cB (cB.fact 43 (f := .glo "_law_seen") rfl) 13 rfl, ?_⟩
  refine List.forall_mem_cons.2 ⟨fnT (x := "_law_met") (i := 81) X G cB (cB.fact 44 (f := .glo "_law_met") rfl) 14 rfl, ?_⟩
  refine List.forall_mem_cons.2 ⟨fnT (x := "_law_flight") (i := 82) X G cB (cB.fact 45 (f := .glo "_law_flight") rfl) 15 rfl, ?_⟩
  refine List.forall_mem_cons.2 ⟨fnT (x := "_law_hunted") (i := 83) X G cB (cB.fact 46 (f := .glo "_law_hunted") rfl) 16 rfl, ?_⟩
  refine List.forall_mem_cons.2 ⟨fnT (x := "_law_roamed") (i := 84) X G cB (cB.fact 47 (f := .glo "_law_roamed") rfl) 17 rfl, ?_⟩
  refine List.forall_mem_cons.2 ⟨fnT (x := "_law_refusal") (i := 85) X G cB (cB.fact 48 (f := .glo "_law_refusal") rfl) 18 rfl, ?_⟩
  refine List.forall_mem_cons.2 ⟨fnT (x := "_law_fits") (i := 86) X G cB (cB.fact 49 (f := .glo "_law_fits") rfl) 19 rfl, ?_⟩
  refine List.forall_mem_cons.2 ⟨fnT (x := "_law_due") (i := 87) X G cB (cB.fact 50 (f := .glo "_law_due") rfl) 20 rfl, ?_⟩
  refine List.forall_mem_cons.2 ⟨fnT (x := "_law_paired") (i := 88) X G cB (cB.fact 51 (f := .glo "_law_paired") rfl) 21 rfl, ?_⟩
  refine List.forall_mem_cons.2 ⟨fnT (x := "_law_spoil") (i := 89) X G cB (cB.fact 52 (f := .glo "_law_spoil") rfl) 22 rfl, ?_⟩
  refine List.forall_mem_cons.2 ⟨fnT (x := "law") (i := 90) X G cB (cB.fact 53 (f := .glo "law") rfl) 23 rfl, ?_⟩
  exact fun _ h => nomatch h
theorem xT (X : K.In h) (G : h.Ns mainGlobals mg) {x : Str} (g : (He.Fa.glo x).ok K = true) (e : (He.Fa.exc x).ok K = true) : XTxt K mg x := by
  obtain ⟨c1, c2, c3, c4⟩ := He.exc_ok e
  exact ⟨_, _, _, _, _, PySem.F.excBase_ValueError, c1, He.glo_ok X G g, c2, c3, c4⟩
theorem txt_of (X : K.In h) (G : h.Ns mainGlobals mg) (cA : He.SaysD hfaA hfnA K) (cB : He.SaysD hfaB hfnB K) : Txt K mg where
  fn := fun i x e => fnAll X G cA cB _ (idx_of e)
  lettersE := He.str_ok X G (cA.fact 13 (f := .str "LETTERS" "ABCDEFGHIJKLMNOPQRSTUVWXYZ") rfl)
  len := He.free_ok X G (cA.fact 0 (f := .free "len") rfl)
  range := He.free_ok X G (cA.fact 1 (f := .free "range") rfl)
  int := He.free_ok X G (cA.fact 2 (f := .free "int") rfl)
  list := He.free_ok X G (cA.fact 3 (f := .free "list") rfl)
  tuple := He.free_ok X G (cA.fact 4 (f := .free "tuple") rfl)
  isinstance := He.free_ok X G (cA.fact 5 (f := .free "isinstance") rfl)
  all := He.free_ok X G (cA.fact 6 (f := .free "all") rfl)
  min := He.free_ok X G (cA.fact 7 (f := .free "min") rfl)
  max := He.free_ok X G (cA.fact 8 (f := .free "max") rfl)
  zip := He.free_ok X G (cA.fact 9 (f := .free "zip") rfl)
  set := He.free_ok X G (cA.fact 10 (f := .free "set") rfl)
  bool := He.free_ok X G (cA.fact 11 (f := .free "bool") rfl)
  str := He.free_ok X G (cA.fact 12 (f := .free "str") rfl)
  xs := by
    refine List.forall_mem_cons.2 ⟨xT X G (cA.fact 25 (f := .glo "InvalidStanding") rfl) (cA.fact 26 (f := .exc "InvalidStanding") rfl), ?_⟩
    refine List.forall_mem_cons.2 ⟨xT X G (cA.fact 27 (f := .glo "UnknownPart") rfl) (cA.fact 28 (f := .exc "UnknownPart") rfl), ?_⟩
    refine List.forall_mem_cons.2 ⟨xT X G (cA.fact 29 (f := .glo "WrongTrades") rfl) (cA.fact 30 (f := .exc "WrongTrades") rfl), ?_⟩
    refine List.forall_mem_cons.2 ⟨xT X G (cA.fact 31 (f := .glo "NotTree") rfl) (cA.fact 32 (f := .exc "NotTree") rfl), ?_⟩
    refine List.forall_mem_cons.2 ⟨xT X G (cA.fact 33 (f := .glo "NotSwift") rfl) (cA.fact 34 (f := .exc "NotSwift") rfl), ?_⟩
    refine List.forall_mem_cons.2 ⟨xT X G (cA.fact 35 (f := .glo "NoPair") rfl) (cA.fact 36 (f := .exc "NoPair") rfl), ?_⟩
    refine List.forall_mem_cons.2 ⟨xT X G (cA.fact 37 (f := .glo "NotThere") rfl) (cA.fact 38 (f := .exc "NotThere") rfl), ?_⟩
    exact fun _ h => nomatch h
  ho := by
    have g := He.glo_ok X G (cA.fact 14 (f := .glo "House") rfl)
    have e := clsA_eq g
    obtain ⟨fd, F⟩ := cA.def_ 0 (d := ⟨("House", some "__init__"), "__init__", "House.__init__", L2.defArgs (L2.inClass (topS 34) 0), L2.defBody (L2.inClass (topS 34) 0), L2.defScope (L2.inClass (topS 34) 0), [], [("trades", .str "RB")]⟩) rfl
    refine ⟨by rw [e]; exact g, by rw [e]; exact He.cls_ok (cA.fact 16 (f := .cls "House") rfl), ?_, ⟨_, fd, by rw [e]; exact He.mkr_ok (cA.fact 23 (f := .mkr "House") rfl), F⟩⟩
    rw [e]
    exact List.forall_mem_cons.2 ⟨He.noat_ok (cA.fact 18 (f := .noat "House" "rooms") rfl), List.forall_mem_cons.2 ⟨He.noat_ok (cA.fact 19 (f := .noat "House" "doors") rfl), List.forall_mem_cons.2 ⟨He.noat_ok (cA.fact 20 (f := .noat "House" "trades") rfl), fun _ h => nomatch h⟩⟩⟩
  sd := by
    have g := He.glo_ok X G (cA.fact 15 (f := .glo "Standing") rfl)
    have e := clsA_eq g
    obtain ⟨fd, F⟩ := cA.def_ 1 (d := ⟨("Standing", some "__init__"), "__init__", "Standing.__init__", L2.defArgs (L2.inClass (topS 38) 0), L2.defBody (L2.inClass (topS 38) 0), L2.defScope (L2.inClass (topS 38) 0), [], []⟩) rfl
    refine ⟨by rw [e]; exact g, by rw [e]; exact He.cls_ok (cA.fact 17 (f := .cls "Standing") rfl), ?_, ⟨_, fd, by rw [e]; exact He.mkr_ok (cA.fact 24 (f := .mkr "Standing") rfl), F⟩⟩
    rw [e]
    exact List.forall_mem_cons.2 ⟨He.noat_ok (cA.fact 21 (f := .noat "Standing" "hands") rfl), List.forall_mem_cons.2 ⟨He.noat_ok (cA.fact 22 (f := .noat "Standing" "places") rfl), fun _ h => nomatch h⟩⟩
theorem txt2_of (X : K.In h) (G : h.Ns mainGlobals mg) (cA : He.SaysD hfaA hfnA K) (cB : He.SaysD hfaB hfnB K) (cX : xB K = true) : Txt2 K mg := by
  have T := txt_of X G cA cB
  obtain ⟨c1, cX⟩ := He.ba cX
  obtain ⟨c2, cX⟩ := He.ba cX
  obtain ⟨c3, c4⟩ := He.ba cX
  obtain ⟨o1, o2⟩ := He.ba c1
  obtain ⟨s1, s2⟩ := He.ba c2
  obtain ⟨g1, g2⟩ := He.ba c3
  obtain ⟨g2, g3⟩ := He.ba g2
  have o1 := He.eqO_ok o1
  have o2 := of_decide_eq_true o2
  have gl : ∀ y ∈ anames, mg y = some (.ref (He.ga K y)) := fun y hy => PySem.W.mg_of X G (He.eqO_ok (List.all_eq_true.mp g1 y hy))
  have eq : ∀ y ∈ anames, clsA mg y = He.ga K y := fun y hy => clsA_eq (gl y hy)
  have he : mg "HouseError" = some (.ref (He.ga K "HouseError")) := PySem.W.mg_of X G (He.eqO_ok g2)
  have ehe := clsA_eq he
  have eS : clsA mg "Standing" = He.ga K "Standing" := clsA_eq (He.glo_ok X G (cA.fact 15 (f := .glo "Standing") rfl))
  refine ⟨T, fun y hy => by rw [eq y hy]; exact gl y hy, by rw [ehe]; exact he, PySem.W.mg_none_of X G (He.eqO_ok g3), fun x hx => ?_, by rw [eS]; exact He.eqO_ok s1, o1, o2, by rw [eS]; exact of_decide_eq_true s2⟩
  have hh := List.all_eq_true.mp c4 x hx
  obtain ⟨e1, hh⟩ := He.ba hh
  obtain ⟨e2, hh⟩ := He.ba hh
  obtain ⟨e3, e4⟩ := He.ba hh
  rw [eq x (xin hx), ehe]
  obtain ⟨a1, e1⟩ := He.ba e1
  obtain ⟨a2, e1⟩ := He.ba e1
  obtain ⟨a3, e1⟩ := He.ba e1
  obtain ⟨a4, e1⟩ := He.ba e1
  obtain ⟨a5, a6⟩ := He.ba e1
  refine ⟨⟨He.eqO_ok a1, He.eqO_ok a2, of_decide_eq_true a3, a4, He.eqO_ok a5, o1, o2, of_decide_eq_true a6⟩, of_decide_eq_true e2, of_decide_eq_true e3, fun y hy => ?_⟩
  rw [eq y hy]
  exact of_decide_eq_true (List.all_eq_true.mp e4 y hy)
end
end DT

set_option Elab.async false
set_option linter.all false
set_option maxRecDepth 100000
namespace DT
open PySem PySem.Spec L2
open PyProof.Rows hiding St
open SX (S)
local macro_rules | `(tactic| walk_at "less") => `(tactic| repeat (first | exact DT.Less.nil | refine DT.Less.cons ?_ | refine DT.Less.free ?_))
def codeN : Option Str → Int
  | none => -1
  | some x => codeX x
def codeR : Res → Int
  | .val _ => -1
  | .exc x => codeX x
/-- what _law_due answers -/
def dueM (kind : Int) (n : Nat) (dr : List Door) (t : List Nat) (hs : List Hand) (ps : List Int) (a b : Int) (ws : List Int) : Int :=
  if kind = 2 then codeR (chaseM n dr t hs ps a b ws) else codeN (needM n dr t hs ps [])
theorem twin_two (q : Nat) (c : List Nat) (h : 0 < c.length) : twin q (c ++ c) = twin q (c ++ [ix c 0]) := by
  obtain ⟨a, r, rfl⟩ : ∃ a r, c = a :: r := by
    cases c with
    | nil => simp at h
    | cons a r => exact ⟨a, r, rfl⟩
  have e0 : ix (a :: r) 0 = a := rfl
  rw [e0, Bool.eq_iff_iff, twin_iff, twin_iff]
  constructor
  · rintro ⟨i, h1, h2⟩
    by_cases hi : i + 1 < (a :: r).length
    · exact ⟨i, by rw [List.getElem?_append_left (by omega)] at h1 ⊢; exact h1, by rw [List.getElem?_append_left hi] at h2 ⊢; exact h2⟩
    · by_cases hj : i < (a :: r).length
      · refine ⟨i, by rw [List.getElem?_append_left hj] at h1 ⊢; exact h1, ?_⟩
        rw [List.getElem?_append_right (by omega)] at h2 ⊢
        have : i + 1 - (a :: r).length = 0 := by omega
        rw [this] at h2 ⊢
        exact h2
      · rw [List.getElem?_append_right (by omega)] at h1 h2
        refine ⟨i - (a :: r).length, ?_, ?_⟩
        · rw [List.getElem?_append_left (List.getElem?_eq_some_iff.mp h1).1]; exact h1
        · have e : i + 1 - (a :: r).length = i - (a :: r).length + 1 := by omega
          rw [e] at h2
          rw [List.getElem?_append_left (List.getElem?_eq_some_iff.mp h2).1]; exact h2
  · rintro ⟨i, h1, h2⟩
    by_cases hi : i + 1 < (a :: r).length
    · exact ⟨i, by rw [List.getElem?_append_left (by omega)] at h1 ⊢; exact h1, by rw [List.getElem?_append_left hi] at h2 ⊢; exact h2⟩
    · have hlt := (List.getElem?_eq_some_iff.mp h2).1
      rw [List.length_append] at hlt
      have hlen : [a].length = 1 := rfl
      refine ⟨i, by rw [List.getElem?_append_left (by omega)] at h1 ⊢; exact h1, ?_⟩
      rw [List.getElem?_append_right (by omega)] at h2 ⊢
      have : i + 1 - (a :: r).length = 0 := by omega
      rw [this] at h2 ⊢
      exact h2
theorem ix_map {α β : Type} [Inhabited α] [Inhabited β] {f : α → β} {xs : List α} {k : Int} (h0 : 0 ≤ k) (h1 : k < xs.length) : ix (xs.map f) k = f (ix xs k) := by
  have e := ix_get (xs := xs) h0 h1
  have e2 : (xs.map f)[k.toNat]? = some (f (ix xs k)) := by rw [List.getElem?_map, e]; rfl
  have := ix_of e2
  rw [Int.toNat_of_nonneg h0] at this
  exact this
section
variable {P : Program} {w : World} {K : PySem.W.Frag} {mg : Str → Option Value} {base : Heap}
theorem sc86 : FnScope ["_law_rooms", "_law_doors", "_law_guild", "_law_hands_here", "_law_places_here", "_law_k", "_law_hand"] ["_law_rooms", "_law_doors", "_law_guild", "_law_hands_here", "_law_places_here"] (defScope (topS 86)) := ⟨rfl, rfl, rfl, by decide +kernel, rfl, by decide +kernel, by decide +kernel⟩
def R_fitsL : List Dv → Res → Prop := fun ds res => ∃ (n : Nat) (dr : List Door) (t : List Nat) (hs : List Hand) (ps : List Int), ds = [.int n, .lst (dr.map encDr), .str (S t), .lst (hs.map encH), .lst (ps.map Dv.int)] ∧ Wf dr hs ∧ res = .val (.bl (fitsM n dr t hs ps))
theorem d_fitsL (T : Txt K mg) : Df P w K mg base "_law_fits" 1 R_fitsL := by
  have nd := sc86.nd
  refine df_mk (T.fn 86 "_law_fits" rfl) sc86 _ (fun ds res h => by obtain ⟨n, dr, t, hs, ps, rfl, _⟩ := h; rfl) (fun _ _ _ _ _ _ us hl => match us, hl with | [_, _, _, _, _], _ => rfl) (fun f cdv A outer s H E hr tk hp ds res h => ?_)
  obtain ⟨n, dr, t, hs, ps, rfl, ⟨hdl, hd, hh⟩, rfl⟩ := h
  refine x_cons (s_if (t := !decide ((ps.length : Int) = dr.length)) (eb_is (eb_ne (ev_lenP (ev_p (vr 4 rfl)) rfl rfl T.len) (ev_lenP (ev_p (vr 1 rfl)) rfl rfl T.len)) (by rw [List.length_map, List.length_map])) (fun hc => ?_) (fun hc => ?_))
  · refine x_one (s_ret ev_bl ?_)
    show Res.val _ = Res.val _
    have hc' : ¬ (ps.length : Int) = dr.length := by simpa using hc
    have : fitsM n dr t hs ps = false := by
      unfold fitsM
      rw [decide_eq_false hc']; rfl
    rw [this]
  refine x_nil ?_
  have hpl : ps.length = dr.length := by
    have : (ps.length : Int) = dr.length := by simpa using hc
    omega
  have ez : ((ps.zip dr).all fun q => decide (0 ≤ q.1 ∧ q.1 < (q.2.2.2.length : Int))) = (List.range dr.length).all fun i : Nat => decide (0 ≤ ix ps (i : Int) ∧ ix ps (i : Int) < ((ix dr (i : Int)).2.2.length : Int)) := by
    rw [zip_range hpl, List.all_map]
    rfl
  refine x_cons (s_each (List.range dr.length) (fun i : Nat => Dv.int (i : Int)) (fun i : Nat => decide (0 ≤ ix ps (i : Int) ∧ ix ps (i : Int) < ((ix dr (i : Int)).2.2.length : Int))) [.sh (.int n), .sh (.lst (dr.map encDr)), .sh (.str (S t)), .sh (.lst (hs.map encH)), .sh (.lst (ps.map Dv.int)), .free, .free] hp rfl (ei_rng (n := dr.length) (ev_is (ev_lenP (ev_p (vr 1 rfl)) rfl rfl T.len) (by simp)) (by omega) rfl rfl T.range) (by walk_at "less") (fun i x hx => ?_) (fun ha => ?_))
  · have hx' : x < dr.length := List.mem_range.mp (List.mem_of_getElem? hx)
    have hcl := hd _ (mem_ix (xs := dr) (k := (x : Int)) (by omega) (by omega))
    refine ⟨_, _, (tg 5 nd), ?_⟩
    refine x_cons (s_if (t := decide (ix ps (x : Int) < 0 ∨ ((ix dr (x : Int)).2.2.length : Int) ≤ ix ps (x : Int))) (eb_is (ew_b (ew_or (eb_lt (ixm (f := Dv.int) (ev_p (vr 4 rfl)) (vr 5 rfl) (by omega) (by omega)) ev_int) (fun _ => (ew_or1 (eb_ge (ixm (f := Dv.int) (ev_p (vr 4 rfl)) (vr 5 rfl) (by omega) (by omega)) (lenS (ixt (ixm (f := encDr) (ev_p (vr 1 rfl)) (vr 5 rfl) (by omega) (by omega)) ⟨by decide, rfl⟩) (by omega) rfl rfl T.len)))))) (by simp [Bool.decide_or])) (fun hc => ?_) (fun hc => ?_))
    · refine x_one (s_ret ev_bl ?_)
      show Res.val _ = Res.val _
      have : fitsM n dr t hs ps = false := by
        unfold fitsM
        rw [ez]
        have : ((List.range dr.length).all fun i : Nat => decide (0 ≤ ix ps (i : Int) ∧ ix ps (i : Int) < ((ix dr (i : Int)).2.2.length : Int))) = false := by
          rw [List.all_eq_false]
          refine ⟨x, List.mem_range.mpr hx', ?_⟩
          have := of_decide_eq_true hc
          simp
          omega
        rw [this]
        simp
      rw [this]
    refine x_nil (x_nil ⟨?_, by walk_at "less"⟩)
    have := of_decide_eq_false hc
    exact decide_eq_true (by omega)
  have eh : (hs.all fun h => isTradeM t h.1 && decide (0 ≤ h.2 ∧ h.2 < (n : Int))) = fitsM n dr t hs ps := by
    unfold fitsM
    rw [ez, ha, hpl]
    simp
  refine x_cons (s_each hs encH (fun h => isTradeM t h.1 && decide (0 ≤ h.2 ∧ h.2 < (n : Int))) [.sh (.int n), .sh (.lst (dr.map encDr)), .sh (.str (S t)), .sh (.lst (hs.map encH)), .sh (.lst (ps.map Dv.int)), .free, .free] hp rfl (ei_list (vr 3 rfl)) (by walk_at "less") (fun i x hx => ?_) (fun ha2 => ?_))
  · have hm := List.mem_of_getElem? hx
    have hhl := hh x hm
    have hfalse : (isTradeM t x.1 && decide (0 ≤ x.2 ∧ x.2 < (n : Int))) = false → fitsM n dr t hs ps = false := fun z => by
      rw [← eh, List.all_eq_false]
      exact ⟨x, hm, by rw [z]; simp⟩
    refine ⟨_, _, (tg 6 nd), ?_⟩
    refine x_cons (s_if (t := !isTradeM t x.1) (eb_is (ew_b (ew_and (neS (ixt (vr 6 rfl) ⟨by decide, rfl⟩) (cs [42])) (fun _ => (ew_and1 (ew_b (ew_or (eb_ne (lenS (ixt (vr 6 rfl) ⟨by decide, rfl⟩) (by omega) rfl rfl T.len) ev_int) (fun _ => (ew_or1 (eb_ninS (ixt (vr 6 rfl) ⟨by decide, rfl⟩) (vr 2 rfl) (by rfl)))))))))) (by
      unfold isTradeM
      cases decide (x.1 = [42]) <;> cases decide ((x.1.length : Int) = 1) <;> cases hasStr (S t) (S x.1) <;> rfl)) (fun hc => ?_) (fun hc => ?_))
    · refine x_one (s_ret ev_bl ?_)
      show Res.val _ = Res.val _
      have hc' : isTradeM t x.1 = false := by simpa using hc
      rw [hfalse (by rw [hc']; rfl)]
    refine x_nil ?_
    have hc1 : isTradeM t x.1 = true := by simpa using hc
    refine x_cons (s_if (t := decide (x.2 < 0 ∨ (n : Int) ≤ x.2)) (eb_is (ew_b (ew_or (eb_lt (ixt (vr 6 rfl) ⟨by decide, rfl⟩) ev_int) (fun _ => (ew_or1 (eb_ge (ixt (vr 6 rfl) ⟨by decide, rfl⟩) (vr 0 rfl)))))) (by simp [Bool.decide_or])) (fun hc => ?_) (fun hc => ?_))
    · refine x_one (s_ret ev_bl ?_)
      show Res.val _ = Res.val _
      have := of_decide_eq_true hc
      rw [hfalse (by rw [hc1, decide_eq_false (by omega)]; rfl)]
    refine x_nil (x_nil ⟨?_, by walk_at "less"⟩)
    have := of_decide_eq_false hc
    rw [hc1, decide_eq_true (by omega)]; rfl
  · refine x_one (s_ret ev_bl ?_)
    show Res.val _ = Res.val _
    rw [← eh, ha2]

theorem sc87 : FnScope ["_law_kind", "_law_rooms", "_law_doors", "_law_guild", "_law_hands_here", "_law_places_here", "_law_pair", "_law_letters", "_law_lit", "_law_way_here", "_law_hand", "_law_door"] ["_law_kind", "_law_rooms", "_law_doors", "_law_guild", "_law_hands_here", "_law_places_here", "_law_pair"] (defScope (topS 87)) := ⟨rfl, rfl, rfl, by decide +kernel, rfl, by decide +kernel, by decide +kernel⟩
/-- what _law_due asks: short texts, letters R and B; the way, if nothing is amiss -/
structure DueIn (kind : Int) (n : Nat) (dr : List Door) (t : List Nat) (hs : List Hand) (ps : List Int) (a b : Int) (ws : List Int) : Prop where
  w : Wf dr hs
  dl : dr.length ≤ 100
  hl : hs.length ≤ 100
  cy : ∀ d ∈ dr, CyOk d.2.2
  g : kind = 2 → needM n dr t hs ps [a, b] = none → GraphOk n dr ∧ wayL n dr (ix hs a).2 (ix hs b).2 = ws ∧ ws.length ≤ 1000 ∧ ∀ d ∈ ws, 0 ≤ d ∧ d < dr.length
def R_due : List Dv → Res → Prop := fun ds res => ∃ (kind : Int) (n : Nat) (dr : List Door) (t : List Nat) (hs : List Hand) (ps : List Int) (a b : Int) (ws : List Int), ds = [.int kind, .int n, .lst (dr.map encDr), .str (S t), .lst (hs.map encH), .lst (ps.map Dv.int), .lst [.int a, .int b]] ∧ DueIn kind n dr t hs ps a b ws ∧ res = .val (.int (dueM kind n dr t hs ps a b ws))
theorem any_str {l : List (List Nat)} {q : List Nat} : ((l.map fun x => Dv.str (S x)).any fun y => eqD y (.str (S q))) = decide (q ∈ l) := by
  induction l with
  | nil => rfl
  | cons a l ih =>
    rw [List.map_cons, List.any_cons, ih]
    show (S a == S q || decide (q ∈ l)) = decide (q ∈ a :: l)
    rw [SX.S_beq]
    by_cases h : q = a
    · subst h; simp
    · have : (a == q) = false := by simp; exact fun z => h z.symm
      rw [this]; simp [h]
theorem flat_str {l : List (List Nat)} : (l.map fun x => Dv.str (S x)).all flatD = true := by
  rw [List.all_map, List.all_eq_true]
  intro x _; rfl
theorem mem_star (hs : List Hand) : decide (([42] : List Nat) ∈ hs.map fun h => h.1) = !noMaster hs := by
  unfold noMaster
  induction hs with
  | nil => rfl
  | cons h hs ih =>
    rw [List.map_cons, List.all_cons]
    by_cases e : h.1 = [42]
    · simp [e]
    · have e2 : ¬ ([42] : List Nat) = h.1 := fun z => e z.symm
      have e3 : decide (([42] : List Nat) ∈ h.1 :: hs.map fun h => h.1) = decide (([42] : List Nat) ∈ hs.map fun h => h.1) := by
        rw [decide_eq_decide, List.mem_cons]
        exact ⟨fun z => z.resolve_left e2, .inr⟩
      rw [e3, ih]
      simp [e]
def ksOf (kind a b : Int) : List Int := if kind = 2 then [a, b] else []
theorem due_some {kind : Int} {n : Nat} {dr : List Door} {t : List Nat} {hs : List Hand} {ps : List Int} {a b : Int} {ws : List Int} {x : Str} (h : needM n dr t hs ps (ksOf kind a b) = some x) : dueM kind n dr t hs ps a b ws = codeX x := by
  unfold dueM
  unfold ksOf at h
  by_cases hk : kind = 2
  · rw [if_pos hk] at h ⊢
    unfold chaseM
    rw [h]; rfl
  · rw [if_neg hk] at h ⊢
    rw [h]; rfl
theorem due_none {kind : Int} {n : Nat} {dr : List Door} {t : List Nat} {hs : List Hand} {ps : List Int} {a b : Int} {ws : List Int} (h : needM n dr t hs ps (ksOf kind a b) = none) : dueM kind n dr t hs ps a b ws =
    if kind = 2 ∧ ((ix hs a).1 ≠ [82] ∨ (ix hs b).1 ≠ [66]) then 11 else if kind = 2 ∧ (ws = [] ∨ 66 ∈ ws.map (fun d => ix (lightsM dr ps) d)) then 15 else -1 := by
  unfold dueM
  unfold ksOf at h
  by_cases hk : kind = 2
  · rw [if_pos hk] at h ⊢
    unfold chaseM
    rw [h]
    dsimp only
    by_cases c1 : (ix hs a).1 ≠ [82] ∨ (ix hs b).1 ≠ [66]
    · rw [if_pos c1, if_pos ⟨hk, c1⟩]; decide
    · rw [if_neg c1, if_neg (show ¬ (kind = 2 ∧ ((ix hs a).1 ≠ [82] ∨ (ix hs b).1 ≠ [66])) from fun z => c1 z.2)]
      by_cases c2 : ws = [] ∨ 66 ∈ ws.map (fun d => ix (lightsM dr ps) d)
      · rw [if_pos c2, if_pos ⟨hk, c2⟩]; decide
      · rw [if_neg c2, if_neg (fun z => c2 z.2)]; rfl
  · rw [if_neg hk] at h ⊢
    rw [h, if_neg (fun z => hk z.1), if_neg (fun z => hk z.1)]; rfl
theorem swift_filter {dr : List Door} (h : ∀ d ∈ dr, 0 < d.2.2.length) : (!((dr.filter fun d => twin 66 (d.2.2 ++ d.2.2)).map encDr).isEmpty) = !swiftM dr := by
  rw [List.isEmpty_map]
  unfold swiftM
  induction dr with
  | nil => rfl
  | cons d dr ih =>
    have ih' := ih fun x hx => h x (List.mem_cons_of_mem _ hx)
    have e := twin_two 66 d.2.2 (h d List.mem_cons_self)
    rw [List.filter_cons, List.all_cons, e]
    cases twin 66 (d.2.2 ++ [ix d.2.2 0]) with
    | true => rfl
    | false => simpa using ih'
theorem lights_two {dr : List Door} {ps : List Int} (hP : PlOk dr ps) (hc : ∀ d ∈ dr, CyOk d.2.2) (d : Int) (h0 : 0 ≤ d) (h1 : d < dr.length) : ix (lightsM dr ps) d = 82 ∨ ix (lightsM dr ps) d = 66 := by
  rw [lights_ix hP]
  have e := ix_map (f := fun i : Nat => ix (ix dr (i : Int)).2.2 (ix ps (i : Int))) (xs := List.range dr.length) (k := d) h0 (by simpa using h1)
  rw [e]
  have e2 : ix (List.range dr.length) d = d.toNat := ix_some (i := d.toNat) (List.getElem?_range (by omega)) (by omega)
  rw [e2, Int.toNat_of_nonneg h0]
  have hb := hP.b d h0 h1
  exact (hc _ (mem_ix h0 h1)).1 _ (mem_ix hb.1 hb.2)
theorem pl_of {n : Nat} {dr : List Door} {t : List Nat} {hs : List Hand} {ps : List Int} (h : fitsM n dr t hs ps = true) (hd : dr.length ≤ 100) (hc : ∀ d ∈ dr, 0 < d.2.2.length ∧ d.2.2.length ≤ 1000) : PlOk dr ps := by
  obtain ⟨f1, f2, f3⟩ := fits_facts h
  refine ⟨f1, fun k h0 h1 => ?_, hd, hc⟩
  rw [zip_range f1] at f2
  have := f2 (ix ps k, ix dr k) (List.mem_map.mpr ⟨k.toNat, List.mem_range.mpr (by omega), by rw [Int.toNat_of_nonneg h0]⟩)
  exact this
set_option maxHeartbeats 1000000 in
theorem d_due (T : Txt K mg) : Df P w K mg base "_law_due" 3 R_due := by
  have nd := sc87.nd
  have D_fitsL := @d_fitsL P w K mg base T
  have D_lights := @d_lights P w K mg base T
  have D_wayL := @d_wayL P w K mg base T
  refine df_mk (T.fn 87 "_law_due" rfl) sc87 _ (fun ds res h => by obtain ⟨kind, n, dr, t, hs, ps, a, b, ws, rfl, _⟩ := h; rfl) (fun _ _ _ _ _ _ us hl => match us, hl with | [_, _, _, _, _, _, _], _ => rfl) (fun f cdv A outer s H E hr tk hp ds res h => ?_)
  obtain ⟨kind, n, dr, t, hs, ps, a, b, ws, rfl, hD, rfl⟩ := h
  have hdl := hD.dl
  have hhl := hD.hl
  have hW := hD.w
  refine x_cons (s_setLc 7 rfl nd rfl rfl (sw_true rfl rfl rfl (by decide +kernel)) (lc_map (own := [("_law_hand", 10)]) encH (fun h => Dv.str (S h.1)) (ei_list (vr 4 rfl)) (by omega) (blkOk_by (by kernel_rfl)) (fun x hx => turn_map (by decide) (fun _ _ _ _ _ => (tg 10 nd)) (fun _ _ _ _ _ => (ixt (vr 10 rfl) ⟨by decide, rfl⟩)))) ?_)
  refine x_frz 7 rfl ?_
  have elt : hs.map (fun h => Dv.str (S h.1)) = (hs.map fun h => h.1).map fun x => Dv.str (S x) := by rw [List.map_map]; rfl
  rw [elt]
  generalize hN : needM n dr t hs ps (ksOf kind a b) = N
  have hN' := hN
  unfold needM at hN'
  refine x_cons (s_if (eb_not (eb_val (ev_call D_fitsL (hr.mono (by decide)) rfl (ea_cons (vr 1 rfl) (ea_cons (vr 2 rfl) (ea_cons (vr 3 rfl) (ea_cons (vr 4 rfl) (ea_cons (vr 5 rfl) ea_nil))))) ⟨n, dr, t, hs, ps, rfl, hW, rfl⟩ (by decide)))) (fun hc => ?_) (fun hc => ?_))
  · have hc' : fitsM n dr t hs ps = false := by simpa using hc
    rw [if_pos hc'] at hN'
    subst hN'
    exact x_one (s_ret ev_int (by rw [due_some hN]; rfl))
  refine x_nil ?_
  have c1 : fitsM n dr t hs ps = true := by simpa using hc
  rw [if_neg (by simp [c1])] at hN'
  have hP := pl_of c1 hdl hW.2.1
  have hmin : ∀ m', m' ∈ [a, b] → (∀ y ∈ [a, b], m' ≤ y) → m' = (if a ≤ b then a else b) := fun m' h1 h2 => by
    simp at h1 h2
    split <;> omega
  have hmax : ∀ m', m' ∈ [a, b] → (∀ y ∈ [a, b], y ≤ m') → m' = (if a ≤ b then b else a) := fun m' h1 h2 => by
    simp at h1 h2
    split <;> omega
  refine x_cons (s_if (t := !knownM hs (ksOf kind a b)) (eb_is (ew_b (ew_and (eb_eq (vr 0 rfl) ev_int) (fun _ => (ew_and1 (ew_b (ew_or (eb_lt (ev_min (ns := [a, b]) (m := if a ≤ b then a else b) rfl (ev_p (vr 6 rfl)) (by simp) hmin rfl rfl T.min) ev_int) (fun _ => (ew_or1 (eb_ge (ev_max (ns := [a, b]) (m := if a ≤ b then b else a) rfl (ev_p (vr 6 rfl)) (by simp) hmax rfl rfl T.max) (ev_lenP (ev_p (vr 4 rfl)) rfl rfl T.len)))))))))) (by
      rw [List.length_map]
      unfold ksOf knownM
      by_cases hk : kind = 2
      · rw [if_pos hk, decide_eq_true hk, Bool.eq_iff_iff]
        simp
        by_cases hab : a ≤ b
        · rw [if_pos hab, if_pos hab]; omega
        · rw [if_neg hab, if_neg hab]; omega
      · rw [if_neg hk, decide_eq_false hk]; rfl)) (fun hc => ?_) (fun hc => ?_))
  · have hc' : knownM hs (ksOf kind a b) = false := by simpa using hc
    rw [if_pos hc'] at hN'
    subst hN'
    exact x_one (s_ret ev_int (by rw [due_some hN]; rfl))
  refine x_nil ?_
  have c2 : knownM hs (ksOf kind a b) = true := by simpa using hc
  rw [if_neg (by simp [c2])] at hN'
  refine x_cons (s_if (t := !decide (t = [82, 66]) || !noMaster hs) (eb_is (ew_b (ew_or (neS (vr 3 rfl) (cs [82, 66])) (fun _ => (ew_or1 (eb_is (eb_inL (cs [42]) (ev_p (vr 7 rfl)) rfl flat_str (by rfl)) any_str))))) (by rw [mem_star])) (fun hc => ?_) (fun hc => ?_))
  · have hx : N = some "WrongTrades" := by
      by_cases c3 : t ≠ [82, 66]
      · rw [if_pos c3] at hN'; exact hN'.symm
      · rw [if_neg c3] at hN'
        have c3' : t = [82, 66] := by simpa using c3
        have c4 : noMaster hs = false := by simpa [c3'] using hc
        rw [if_pos c4] at hN'; exact hN'.symm
    subst hx
    exact x_one (s_ret ev_int (by rw [due_some hN]; rfl))
  refine x_nil ?_
  have c3 : t = [82, 66] ∧ noMaster hs = true := by simpa using hc
  rw [if_neg (by simp [c3.1]), if_neg (by simp [c3.2])] at hN'
  refine x_cons (s_if (t := !decide ((dr.length : Int) = (n : Int) - 1)) (eb_is (eb_ne (ev_lenP (ev_p (vr 2 rfl)) rfl rfl T.len) (ev_sub (vr 1 rfl) ev_int)) (by rw [List.length_map])) (fun hc => ?_) (fun hc => ?_))
  · have hc' : (dr.length : Int) ≠ (n : Int) - 1 := by simpa using hc
    rw [if_pos hc'] at hN'
    subst hN'
    exact x_one (s_ret ev_int (by rw [due_some hN]; rfl))
  refine x_nil ?_
  have c5 : (dr.length : Int) = (n : Int) - 1 := by simpa using hc
  rw [if_neg (by simp [c5])] at hN'
  refine x_cons (s_if (t := !swiftM dr) (eb_is (neNil hr.units (ds := (dr.filter fun d => twin 66 (d.2.2 ++ d.2.2)).map encDr) (en_p (en_lc rfl nd (lc_if (own := [("_law_door", 11)]) (xs := dr) encDr (fun d => twin 66 (d.2.2 ++ d.2.2)) encDr (ei_list (vr 2 rfl)) (by omega) (blkOk_by (by kernel_rfl)) (fun x hx => turn_if (by decide) (fun _ _ _ _ _ => (tg 11 nd)) (fun _ _ _ _ _ => (eb_is (eb_inS (cs [66, 66]) (addS (ixt (vr 11 rfl) ⟨by decide, rfl⟩) (ixt (vr 11 rfl) ⟨by decide, rfl⟩) (by have := hW.2.1 x hx; omega)) (by rfl)) (has_two _ _))) (fun _ _ _ _ _ _ => (vr 11 rfl)))))) (fun d hd => by
      obtain ⟨x, hx, rfl⟩ := List.mem_map.mp hd
      exact eqOk_Dr fun c hc => by rcases (hD.cy x (List.mem_filter.mp hx).1).1 c hc with rfl | rfl <;> decide)) (swift_filter fun d hd => (hW.2.1 d hd).1)) (fun hc => ?_) (fun hc => ?_))
  · have hc' : swiftM dr = false := by simpa using hc
    rw [if_pos hc'] at hN'
    subst hN'
    exact x_one (s_ret ev_int (by rw [due_some hN]; rfl))
  refine x_nil ?_
  have c6 : swiftM dr = true := by simpa using hc
  rw [if_neg (by simp [c6])] at hN'
  subst hN'
  rw [due_none hN]
  have hkn : kind = 2 → (0 ≤ a ∧ a < hs.length) ∧ 0 ≤ b ∧ b < hs.length := fun hk => by
    unfold ksOf knownM at c2
    rw [if_pos hk] at c2
    simpa using c2
  refine x_cons (s_if (t := decide (kind = 2 ∧ ((ix hs a).1 ≠ [82] ∨ (ix hs b).1 ≠ [66]))) (eb_is (ew_b (ew_and (y := decide ((ix hs a).1 ≠ [82] ∨ (ix hs b).1 ≠ [66])) (eb_eq (vr 0 rfl) ev_int) (fun hk => (ew_and1 (eb_is (ew_b (ew_or (neS (ixm (xs := hs.map fun h => h.1) (f := fun x => Dv.str (S x)) (ev_p (vr 7 rfl)) (ixl (ev_p (vr 6 rfl)) ⟨by decide, rfl⟩) (hkn (of_decide_eq_true hk)).1.1 (by rw [List.length_map]; exact (hkn (of_decide_eq_true hk)).1.2)) (cs [82])) (fun _ => (ew_or1 (neS (ixm (xs := hs.map fun h => h.1) (f := fun x => Dv.str (S x)) (ev_p (vr 7 rfl)) (ixl (ev_p (vr 6 rfl)) ⟨by decide, rfl⟩) (hkn (of_decide_eq_true hk)).2.1 (by rw [List.length_map]; exact (hkn (of_decide_eq_true hk)).2.2)) (cs [66])))))) (by
      have k1 := (hkn (of_decide_eq_true hk))
      rw [ix_map k1.1.1 k1.1.2, ix_map k1.2.1 k1.2.2]
      simp [Bool.decide_or])))))) (by simp [Bool.decide_and])) (fun hc => ?_) (fun hc => ?_))
  · exact x_one (s_ret ev_int (by rw [if_pos (of_decide_eq_true hc)]; rfl))
  refine x_nil ?_
  rw [if_neg (of_decide_eq_false hc)]
  refine x_cons (DT.st 8 nd (ev_call D_lights (hr.mono (by decide)) rfl (ea_cons (vr 2 rfl) (ea_cons (vr 5 rfl) (ea_cons ev_int ea_nil))) ⟨dr, ps, rfl, hP, rfl⟩ (by decide)) ?_)
  have hll := lights_len (dr := dr) (ps := ps) hP.l
  refine x_cons (s_if (eb_eq (vr 0 rfl) ev_int) (fun hc2 => ?_) (fun hc2 => ?_))
  · have hk := of_decide_eq_true hc2
    have hkn' := hkn hk
    have hN2 : needM n dr t hs ps [a, b] = none := by
      unfold ksOf at hN
      rw [if_pos hk] at hN
      exact hN
    obtain ⟨hG, hwl, hwn, hwb⟩ := hD.g hk hN2
    obtain ⟨f1, f2, f3⟩ := fits_facts c1
    have ma := f3 _ (mem_ix (xs := hs) (k := a) hkn'.1.1 hkn'.1.2)
    have mb := f3 _ (mem_ix (xs := hs) (k := b) hkn'.2.1 hkn'.2.2)
    refine x_cons (DT.st 9 nd (d := .lst (ws.map Dv.int)) (ev_call D_wayL (hr.mono (by decide)) rfl (ea_cons (vr 1 rfl) (ea_cons (vr 2 rfl) (ea_cons (ixt (ixm (f := encH) (ev_p (vr 4 rfl)) (ixl (ev_p (vr 6 rfl)) ⟨by decide, rfl⟩) hkn'.1.1 hkn'.1.2) ⟨by decide, rfl⟩) (ea_cons (ixt (ixm (f := encH) (ev_p (vr 4 rfl)) (ixl (ev_p (vr 6 rfl)) ⟨by decide, rfl⟩) hkn'.2.1 hkn'.2.2) ⟨by decide, rfl⟩) ea_nil)))) ⟨n, dr, _, _, rfl, hG.n2, hdl, hG.ends, ma.2, mb.2, hG.far _ _ ma.2.1 ma.2.2 mb.2.1 mb.2.2, by rw [hwl]⟩ (by decide)) ?_)
    have eqi : ∀ d ∈ ws.map Dv.int, EqOk d := fun d hd => by obtain ⟨x, _, rfl⟩ := List.mem_map.mp hd; exact eqOk_int x
    refine x_cons (s_if (t := decide (ws = [] ∨ 66 ∈ ws.map (fun d => ix (lightsM dr ps) d))) (eb_is (ew_b (ew_or (eqNil hr.units (ev_p (vr 9 rfl)) eqi) (fun _ => (ew_or1 (neNil hr.units (ds := (ws.filter fun d => !decide (ix (lightsM dr ps) d = 82)).map Dv.int) (en_p (en_lc rfl nd (lc_if (own := [("_law_door", 11)]) (xs := ws) Dv.int (fun d => !decide (ix (lightsM dr ps) d = 82)) Dv.int (ei_list (vr 9 rfl)) (by omega) (blkOk_by (by kernel_rfl)) (fun x hx => turn_if (by decide) (fun _ _ _ _ _ => (tg 11 nd)) (fun _ _ _ _ _ => (eb_is (neS (x := [ix (lightsM dr ps) x]) (ixC (ls := lightsM dr ps) (ev_p (vr 8 rfl)) (vr 11 rfl) (hwb x hx).1 (by have := (hwb x hx).2; omega)) (cs [82])) (by simp))) (fun _ _ _ _ _ _ => (vr 11 rfl)))))) (fun d hd => by obtain ⟨x, _, rfl⟩ := List.mem_map.mp hd; exact eqOk_int x)))))) (by
      rw [List.isEmpty_map, List.isEmpty_map, Bool.eq_iff_iff]
      simp only [Bool.or_eq_true, List.isEmpty_iff, Bool.not_eq_true', decide_eq_true_eq]
      have : ((ws.filter fun d => !decide (ix (lightsM dr ps) d = 82)).isEmpty = false) ↔ 66 ∈ ws.map (fun d => ix (lightsM dr ps) d) := by
        rw [List.mem_map, List.isEmpty_eq_false_iff, Ne, List.filter_eq_nil_iff]
        constructor
        · intro h
          simp only [Bool.not_eq_true', decide_eq_false_iff_not, Classical.not_not] at h
          simp only [Classical.not_forall] at h
          obtain ⟨d, hd, hne⟩ := h
          exact ⟨d, hd, (lights_two hP hD.cy d (hwb d hd).1 (hwb d hd).2).resolve_left hne⟩
        · rintro ⟨d, hd, he⟩ h
          have := h d hd
          rw [he] at this
          simp at this
      rw [this])) (fun hc3 => ?_) (fun hc3 => ?_))
    · exact x_one (s_ret ev_int (by rw [if_pos ⟨hk, of_decide_eq_true hc3⟩]; rfl))
    refine x_nil (x_nil ?_)
    rw [if_neg (fun z => of_decide_eq_false hc3 z.2)]
    exact x_one (s_ret (ev_neg ev_int) rfl)
  · refine x_nil ?_
    rw [if_neg (fun z => of_decide_eq_false hc2 z.1)]
    exact x_one (s_ret (ev_neg ev_int) rfl)
end
end DT

set_option Elab.async false
set_option linter.all false
set_option maxRecDepth 100000
namespace DT
open PySem PySem.Spec L2
open PyProof.Rows hiding St
open SX (S)
local macro_rules | `(tactic| walk_at "less") => `(tactic| repeat (first | exact DT.Less.nil | refine DT.Less.cons ?_ | refine DT.Less.free ?_))
structure Bad where
  dr : List Door
  t : List Nat
  hs : List Hand
  ps : List Int
  p : Int
  q : Int
def encBad (b : Bad) : Dv := .tup [.lst (b.dr.map encDr), .str (S b.t), .lst (b.hs.map encH), .lst (b.ps.map Dv.int), .lst [.int b.p, .int b.q]]
def cuts : List (List Nat) := [[82, 82, 66, 66], [66, 82, 66], [82, 66, 66], [66, 82, 82, 66]]
/-- the cut door's place, the doors, the marks -/
def cutAt (b : Bad) (bit : Int) : Nat := (bit % (b.dr.length : Int)).toNat
def cutDr (b : Bad) (bit : Int) : List Door := b.dr.take (cutAt b bit) ++ [((ix b.dr (cutAt b bit : Nat)).1, (ix b.dr (cutAt b bit : Nat)).2.1, ix cuts bit)] ++ b.dr.drop (cutAt b bit + 1)
def cutPs (b : Bad) (bit : Int) : List Int := b.ps.take (cutAt b bit) ++ [ix b.ps (cutAt b bit : Nat) % ((ix cuts bit).length : Int)] ++ b.ps.drop (cutAt b bit + 1)
def spoilM (kind bit : Int) (n : Nat) (b : Bad) : Bad :=
  if kind = 0 ∧ bit = 0 then { b with ps := b.ps ++ [0] }
  else if kind = 0 ∧ bit = 1 then { b with hs := b.hs ++ [([82], (n : Int))] }
  else if kind = 0 ∧ bit = 2 then { b with hs := b.hs ++ [([], 0)] }
  else if kind = 0 then { b with hs := b.hs.map fun h => (h.1, h.2 - (n : Int)) }
  else if kind = 1 ∧ bit < 2 then { b with p := if bit = 0 then -1 else b.p, q := if bit = 0 then b.q else 999999999 }
  else if kind = 1 then { b with p := if bit = 2 then (b.hs.length : Int) else b.p, q := if bit = 2 then b.q else b.q - (b.hs.length : Int) - 1 }
  else if kind = 2 ∧ bit < 2 then { b with hs := b.hs ++ [([42], 0)] }
  else if kind = 2 then { b with t := [66, 82] }
  else if kind = 3 ∧ b.dr ≠ [] then { b with dr := b.dr ++ [((ix b.dr 0).2.1, (ix b.dr 0).1, [82, 66])], ps := b.ps ++ [0] }
  else if kind = 4 ∧ b.dr ≠ [] then { b with dr := cutDr b bit, ps := cutPs b bit }
  else b
section
variable {X : Cx} {G : List Slot} {a b : Expr} {pos p : Pos}
/-- isinstance(x, Standing) -/
theorem isSt {x y : Str} {hs : List Hand} {ps : List Int} {py : Pos} (T : Txt2 X.K X.mg) (ha : EvD X G a (encSt X.mg hs ps)) (hx : x = "isinstance") (hg : Gl X x) (hy : y = "Standing") (hgy : Gl X y)
    (he : starEach [a, .Name y py] X.env = (false, eval a X.env) :: starEach [.Name y py] X.env := by rfl) (he2 : starEach [Expr.Name y py] X.env = (false, eval (.Name y py) X.env) :: starEach [] X.env := by rfl)
    (hpl : (backTo pos (starEach [.Name y py] X.env)).any (·.1) = false := by rfl) : EvD X G (.Call (.Name x p) [a, .Name y py] [] pos) (.bl true) := fun B0 H0 B H sg Q f q => by
  subst hx; subst hy
  exact PE.w (pe_callB call_isi hg T.t.isinstance (by decide +kernel) (pa_cons pe_w (pa_cons (pe_glob (v := .ref (clsA X.mg "Standing")) hgy T.t.sd.at_ rfl) pa_nil he2) he) (he := he) (hpl := hpl)) (ha B0 H0 B H sg _ f fun v B1 H1 g1 r1 => by
    cases r1 with
    | ins e r =>
      exact ⟨_, _, .ref (clsA X.mg "Standing"), .ref (clsA X.mg "Standing"), true, rfl, .own _, .base (.ins (g1.s _ _ e) T.t.sd.cl T.sa T.sn T.sk T.sm), kit_same _ _, q _ B1 H1 g1 (.bl _)⟩)
end
section
variable {P : Program} {w : World} {K : PySem.W.Frag} {mg : Str → Option Value} {base : Heap}
theorem sc68 : FnScope ["_law_actual", "_law_hands_here", "_law_places_here", "_law_k", "_law_hand"] ["_law_actual", "_law_hands_here", "_law_places_here"] (defScope (topS 68)) := ⟨rfl, rfl, rfl, by decide +kernel, rfl, by decide +kernel, by decide +kernel⟩
def R_isst (mg : Str → Option Value) : List Dv → Res → Prop := fun ds res => ∃ (hs : List Hand) (ps : List Int), ds = [encSt mg hs ps, .lst (hs.map encH), .lst (ps.map Dv.int)] ∧ hs.length ≤ 1000 ∧ ps.length ≤ 1000 ∧ res = .val (.bl true)
theorem d_isst (T : Txt2 K mg) : Df P w K mg base "_law_is_standing" 2 (R_isst mg) := by
  have nd := sc68.nd
  have D_isint := @d_isint P w K mg base T.t
  have T' := T.t
  refine df_mk (T.t.fn 68 "_law_is_standing" rfl) sc68 _ (fun ds res h => by obtain ⟨hs, ps, rfl, _⟩ := h; rfl) (fun _ _ _ _ _ _ us hl => match us, hl with | [_, _, _], _ => rfl) (fun f cdv A outer s H E hr tk hp ds res h => ?_)
  obtain ⟨hs, ps, rfl, h1, h2, rfl⟩ := h
  refine x_cons (s_if (t := false) (eb_is (eb_not (eb_val (isSt T (vr 0 rfl) rfl rfl rfl rfl))) rfl) (fun hc => ?_) (fun hc => ?_))
  · cases hc
  refine x_nil ?_
  refine x_cons (s_if (t := false) (eb_is (ew_b (ew_or (eb_not (eb_val (isTy (n := "tuple") (t := .type "tuple") (r := true) (fld_hands T' (vr 0 rfl)) ty_tup (kit_same _ _) rfl rfl T'.isinstance (by rfl) T'.tuple (by decide +kernel) (by decide) (by decide)))) (fun _ => (ew_or1 (eb_not (eb_val (isTy (n := "tuple") (t := .type "tuple") (r := true) (fld_places T' (vr 0 rfl)) ty_tup (kit_same _ _) rfl rfl T'.isinstance (by rfl) T'.tuple (by decide +kernel) (by decide) (by decide)))))))) rfl) (fun hc => ?_) (fun hc => ?_))
  · cases hc
  refine x_nil ?_
  refine x_cons (s_if (t := false) (eb_is (ew_b (ew_or (eb_ne (ev_lenT (fld_hands T' (vr 0 rfl)) rfl rfl T'.len) (ev_lenP (ev_p (vr 1 rfl)) rfl rfl T'.len)) (fun _ => (ew_or1 (eb_ne (ev_lenT (fld_places T' (vr 0 rfl)) rfl rfl T'.len) (ev_lenP (ev_p (vr 2 rfl)) rfl rfl T'.len)))))) (by simp)) (fun hc => ?_) (fun hc => ?_))
  · cases hc
  refine x_nil ?_
  refine x_cons (s_for (S := Unit) hp rfl (ei_rng (n := hs.length) (ev_is (ev_lenP (ev_p (vr 1 rfl)) rfl rfl T'.len) (by simp)) (by omega) rfl rfl T'.range) (fun _ => [.sh (encSt mg hs ps), .sh (.lst (hs.map encH)), .sh (.lst (ps.map Dv.int)), .free, .free]) (fun i _ => True) () trivial (by walk_at "less") ?_ ?_)
  · intro i st d hd hI
    obtain ⟨rfl, hi⟩ := rng_get hd
    refine ⟨_, _, (tg 3 nd), ?_⟩
    refine x_cons (DT.st 4 nd (ixmT (f := encH) (fld_hands T' (vr 0 rfl)) (vr 3 rfl) (by omega) (by omega)) ?_)
    refine x_cons (s_if (t := false) (eb_is (ew_b (ew_or (eb_not (eb_val (isTy (n := "tuple") (t := .type "tuple") (r := true) (vr 4 rfl) ty_tup (kit_same _ _) rfl rfl T'.isinstance (by rfl) T'.tuple (by decide +kernel) (by decide) (by decide)))) (fun _ => (ew_or1 (eb_ne (ev_lenT (vr 4 rfl) rfl rfl T'.len) ev_int))))) rfl) (fun hc => ?_) (fun hc => ?_))
    · cases hc
    refine x_nil ?_
    refine x_cons (s_if (t := false) (eb_is (ew_b (ew_or (eb_not (eb_val (isTy (n := "str") (t := .type "str") (r := true) (ixt (vr 4 rfl) ⟨by decide, rfl⟩) ty_str (kit_same _ _) rfl rfl T'.isinstance (by rfl) T'.str (by decide +kernel) (by decide) (by decide)))) (fun _ => (ew_or1 (eb_not (eb_val (ev_call D_isint (hr.mono (by decide)) rfl (ea_cons (ixt (vr 4 rfl) ⟨by decide, rfl⟩) ea_nil) ⟨_, rfl, rfl⟩ (by decide)))))))) rfl) (fun hc => ?_) (fun hc => ?_))
    · cases hc
    refine x_nil ?_
    refine x_cons (s_if (t := false) (eb_is (ew_b (ew_or (neS (ixt (vr 4 rfl) ⟨by decide, rfl⟩) (ixt (ixm (f := encH) (ev_p (vr 1 rfl)) (vr 3 rfl) (by omega) (by omega)) ⟨by decide, rfl⟩)) (fun _ => (ew_or1 (eb_ne (ixt (vr 4 rfl) ⟨by decide, rfl⟩) (ixt (ixm (f := encH) (ev_p (vr 1 rfl)) (vr 3 rfl) (by omega) (by omega)) ⟨by decide, rfl⟩)))))) (by simp)) (fun hc => ?_) (fun hc => ?_))
    · cases hc
    exact x_nil (x_nil ⟨(), by walk_at "less", trivial⟩)
  intro _ _
  refine x_cons (s_for (S := Unit) hp rfl (ei_rng (n := ps.length) (ev_is (ev_lenP (ev_p (vr 2 rfl)) rfl rfl T'.len) (by simp)) (by omega) rfl rfl T'.range) (fun _ => [.sh (encSt mg hs ps), .sh (.lst (hs.map encH)), .sh (.lst (ps.map Dv.int)), .free, .free]) (fun i _ => True) () trivial (by walk_at "less") ?_ ?_)
  · intro i st d hd hI
    obtain ⟨rfl, hi⟩ := rng_get hd
    refine ⟨_, _, (tg 3 nd), ?_⟩
    refine x_cons (s_if (t := false) (eb_is (ew_b (ew_or (eb_not (eb_val (ev_call D_isint (hr.mono (by decide)) rfl (ea_cons (ixmT (f := Dv.int) (fld_places T' (vr 0 rfl)) (vr 3 rfl) (by omega) (by omega)) ea_nil) ⟨_, rfl, rfl⟩ (by decide)))) (fun _ => (ew_or1 (eb_ne (ixmT (f := Dv.int) (fld_places T' (vr 0 rfl)) (vr 3 rfl) (by omega) (by omega)) (ixm (f := Dv.int) (ev_p (vr 2 rfl)) (vr 3 rfl) (by omega) (by omega))))))) (by simp)) (fun hc => ?_) (fun hc => ?_))
    · cases hc
    exact x_nil (x_nil ⟨(), by walk_at "less", trivial⟩)
  intro _ _
  exact x_one (s_ret ev_bl rfl)

theorem sc88 : FnScope ["_law_rooms", "_law_doors", "_law_hands_here", "_law_places_here", "_law_house_here", "_law_standing", "_law_pair", "_law_listed", "_law_given", "_law_due_here", "_law_told", "_law_way_here"] ["_law_rooms", "_law_doors", "_law_hands_here", "_law_places_here", "_law_house_here", "_law_standing", "_law_pair", "_law_listed"] (defScope (topS 88)) := ⟨rfl, rfl, rfl, by decide +kernel, rfl, by decide +kernel, by decide +kernel⟩
/-- what _law_paired asks -/
structure PairedIn (n : Nat) (dr : List Door) (hs : List Hand) (ps : List Int) (a b : Int) (ws : List Int) : Prop where
  d : DueIn 2 n dr [82, 66] hs ps a b ws
  p : PairOk n dr [82, 66] hs ps [a, b]
  w : needM n dr [82, 66] hs ps [a, b] = none → WayR (dictM (orderM n dr (ix hs b).2)) (ix hs b).2 (ix hs a).2 ws
def R_paired (mg : Str → Option Value) : List Dv → Res → Prop := fun ds res => ∃ (n : Nat) (dr : List Door) (hs : List Hand) (ps : List Int) (a b : Int) (li : Bool) (ws : List Int), ds = [.int n, .lst (dr.map encDr), .lst (hs.map encH), .lst (ps.map Dv.int), encHo mg n dr [82, 66], encSt mg hs ps, .lst [.int a, .int b], .bl li] ∧ PairedIn n dr hs ps a b ws ∧ res = .val (.bl true)
theorem en_listPair {X : Cx} {G : List Slot} {e : Expr} {x : Str} {pos p : Pos} {li : Bool} {a b : Int} (ha : EvD X G e (pairD li a b)) (hx : x = "list") (hg : Gl X x) (hm : X.mg x = none) (he : starEach (e :: []) X.env = (false, eval e X.env) :: starEach [] X.env := by rfl) (hpl : (backTo pos (starEach [] X.env)).any (·.1) = false := by rfl) :
    EvN X G (.Call (.Name x p) [e] [] pos) [.int a, .int b] := by
  cases li with
  | true => exact en_listP (ev_p ha) hx hg hm he hpl
  | false => exact en_listT ha hx hg hm he hpl
theorem codeX_ge {x : Str} : 0 ≤ codeX x := by unfold codeX; omega
set_option maxHeartbeats 1000000 in
theorem d_paired (T : Txt2 K mg) : Df P w K mg base "_law_paired" 8 (R_paired mg) := by
  have nd := sc88.nd
  have T' := T.t
  have D_due := @d_due P w K mg base T.t
  have D_refusal := @d_refusal P w K mg base T
  have D_chase_door := @d_chase_door P w K mg base T.t
  have D_wayL := @d_wayL P w K mg base T.t
  have D_isint := @d_isint P w K mg base T.t
  refine df_mk (T.t.fn 88 "_law_paired" rfl) sc88 _ (fun ds res h => by obtain ⟨n, dr, hs, ps, a, b, li, ws, rfl, _⟩ := h; rfl) (fun _ _ _ _ _ _ us hl => match us, hl with | [_, _, _, _, _, _, _, _], _ => rfl) (fun f cdv A outer s H E hr tk hp ds res h => ?_)
  obtain ⟨n, dr, hs, ps, a, b, li, ws, rfl, hI, rfl⟩ := h
  refine x_cons (DT.st 8 nd (ev_tupleP (ev_p (vr 6 rfl)) rfl (by rfl) T'.tuple) ?_)
  refine x_cons (ifset (d1 := .lst [.int a, .int b]) 8 nd (eb_val (vr 7 rfl)) rfl (fun _ => en_d (en_listP (ev_p (vr 6 rfl)) rfl (by rfl) T'.list)) ?_)
  have e1 : (if li = true then Dv.lst [.int a, .int b] else Dv.tup [.int a, .int b]) = pairD li a b := rfl
  rw [e1]
  refine x_cons (DT.st 9 nd (ev_call D_due (hr.mono (by decide)) rfl (ea_cons ev_int (ea_cons (vr 0 rfl) (ea_cons (vr 1 rfl) (ea_cons (cs [82, 66]) (ea_cons (vr 2 rfl) (ea_cons (vr 3 rfl) (ea_cons (vr 6 rfl) ea_nil))))))) ⟨2, n, dr, [82, 66], hs, ps, a, b, ws, rfl, hI.d, rfl⟩ (by decide)) ?_)
  have e2 : dueM 2 n dr [82, 66] hs ps a b ws = codeR (chaseM n dr [82, 66] hs ps a b ws) := by unfold dueM; rw [if_pos rfl]
  rw [e2]
  have hok : ∀ d ∈ [Dv.int a, Dv.int b], EqOk d := fun d hd => by
    simp at hd
    rcases hd with rfl | rfl <;> exact eqOk_int _
  have hself : PyData.eqv (.list (pys [Dv.int a, Dv.int b])) (.list (pys [Dv.int a, Dv.int b])) = true := by simp [pys, py, PyData.eqv, PyData.eqvAll]
  have hpd := (eqOk_all _ hok).1
  have hsh := shaped_list hok
  cases hch : chaseM n dr [82, 66] hs ps a b ws with
  | exc x =>
    have hge : 0 ≤ codeX x := codeX_ge
    refine x_cons (s_if (t := true) (eb_is (eb_ge (vr 9 rfl) ev_int) (decide_eq_true hge)) (fun hc => ?_) (fun hc => ?_))
    · refine x_one (s_ret (d := .bl true) (ev_is (EvB.v (ew_b (ew_and (eb_eq (ev_call D_refusal (hr.mono (by decide)) rfl (ea_cons ev_int (ea_cons (vr 4 rfl) (ea_cons (vr 5 rfl) (ea_cons (vr 8 rfl) ea_nil)))) ⟨2, n, dr, [82, 66], hs, ps, pairD li a b, x, rfl, .inr ⟨rfl, li, a, b, ws, rfl, hI.p, hI.w, hch⟩, rfl⟩ (by decide)) (vr 9 rfl)) (fun _ => (ew_and1 (eb_is (eb_eqLL hr.units (en_p (en_listPair (vr 8 rfl) rfl (by rfl) T'.list)) (ev_p (vr 6 rfl)) hpd hpd hsh hsh) hself)))))) (by simp [codeR])) rfl)
    · cases hc
  | val d =>
    refine x_cons (s_if (t := false) (eb_is (eb_ge (vr 9 rfl) ev_int) (by show decide ((0 : Int) ≤ -1) = false; decide)) (fun hc => ?_) (fun hc => ?_))
    · cases hc
    refine x_nil ?_
    have hN : needM n dr [82, 66] hs ps [a, b] = none := by
      unfold chaseM at hch
      cases h : needM n dr [82, 66] hs ps [a, b] with
      | none => rfl
      | some x => rw [h] at hch; cases hch
    have hch2 := hch
    unfold chaseM at hch2
    rw [hN] at hch2
    dsimp only at hch2
    split at hch2
    · cases hch2
    split at hch2
    · cases hch2
    rename_i c1 c2
    have hd : d = .int (ix ws 0) := (Res.val.inj hch2).symm
    subst hd
    have hne : ws ≠ [] := fun z => c2 (.inl z)
    have hpos := List.length_pos_iff.mpr hne
    obtain ⟨hG, hwl, hwn, hwb⟩ := hI.d.g rfl hN
    have hk := need_known hN
    unfold knownM at hk
    simp at hk
    obtain ⟨⟨ka0, ka1⟩, kb0, kb1⟩ := hk
    obtain ⟨f1, f2, f3⟩ := fits_facts (need_fit hN)
    have ma := f3 _ (mem_ix (xs := hs) (k := a) ka0 ka1)
    have mb := f3 _ (mem_ix (xs := hs) (k := b) kb0 kb1)
    refine x_cons (DT.st 10 nd (d := .int (ix ws 0)) (ev_call D_chase_door (hr.mono (by decide)) rfl (ea_cons (vr 4 rfl) (ea_cons (vr 5 rfl) (ea_cons (vr 8 rfl) ea_nil))) ⟨n, dr, [82, 66], hs, ps, li, a, b, ws, rfl, hI.p, hI.w, hch.symm⟩ (by decide)) ?_)
    refine x_cons (DT.st 11 nd (d := .lst (ws.map Dv.int)) (ev_call D_wayL (hr.mono (by decide)) rfl (ea_cons (vr 0 rfl) (ea_cons (vr 1 rfl) (ea_cons (ixt (ixm (f := encH) (ev_p (vr 2 rfl)) (ixl (ev_p (vr 6 rfl)) ⟨by decide, rfl⟩) ka0 ka1) ⟨by decide, rfl⟩) (ea_cons (ixt (ixm (f := encH) (ev_p (vr 2 rfl)) (ixl (ev_p (vr 6 rfl)) ⟨by decide, rfl⟩) kb0 kb1) ⟨by decide, rfl⟩) ea_nil)))) ⟨n, dr, _, _, rfl, hG.n2, hG.dl, hG.ends, ma.2, mb.2, hG.far _ _ ma.2.1 ma.2.2 mb.2.1 mb.2.2, by rw [hwl]⟩ (by decide)) ?_)
    refine x_one (s_ret (d := .bl true) (ev_is (EvB.v (ew_b (ew_and (eb_val (ev_call D_isint (hr.mono (by decide)) rfl (ea_cons (vr 10 rfl) ea_nil) ⟨_, rfl, rfl⟩ (by decide))) (fun _ => (ew_and (eb_eq (vr 10 rfl) (ixm (f := Dv.int) (ev_p (vr 11 rfl)) ev_int (by omega) (by omega))) (fun _ => (ew_and1 (eb_is (eb_eqLL hr.units (en_p (en_listPair (vr 8 rfl) rfl (by rfl) T'.list)) (ev_p (vr 6 rfl)) hpd hpd hsh hsh) hself)))))))) (by simp)) rfl)
end
end DT

set_option Elab.async false
set_option linter.all false
set_option maxRecDepth 100000
namespace DT
open PySem PySem.Spec L2
open PyProof.Rows hiding St
open SX (S)
local macro_rules | `(tactic| walk_at "less") => `(tactic| repeat (first | exact DT.Less.nil | refine DT.Less.cons ?_ | refine DT.Less.free ?_))
section
variable {P : Program} {w : World} {K : PySem.W.Frag} {mg : Str → Option Value} {base : Heap}
theorem sc89 : FnScope ["_law_kind", "_law_bit", "_law_rooms", "_law_bad", "_law_doors", "_law_guild", "_law_hands_here", "_law_places_here", "_law_pair", "_law_at", "_law_cut", "_law_marks", "_law_hand"] ["_law_kind", "_law_bit", "_law_rooms", "_law_bad"] (defScope (topS 89)) := ⟨rfl, rfl, rfl, by decide +kernel, rfl, by decide +kernel, by decide +kernel⟩
structure BadSz (b : Bad) : Prop where
  dl : b.dr.length ≤ 100
  pl : b.dr.length ≤ b.ps.length
  pm : b.ps.length ≤ 1000
  hl : b.hs.length ≤ 100
  dc : ∀ d ∈ b.dr, d.2.2.length ≤ 1000 ∧ CyOk d.2.2
def R_spoil : List Dv → Res → Prop := fun ds res => ∃ (kind bit : Int) (n : Nat) (b : Bad), ds = [.int kind, .int bit, .int n, encBad b] ∧ 0 ≤ bit ∧ bit < 4 ∧ BadSz b ∧ res = .val (encBad (spoilM kind bit n b))
theorem cut_s {α : Type} (xs : List α) (k : Nat) (h : k < xs.length) : ((xs.drop (HT.sIx xs.length 0 none)).take (HT.sIx xs.length xs.length (some (k : Int)) - HT.sIx xs.length 0 none)) = xs.take k := by
  rw [HT.sIx_nat, HT.sIx_none, Nat.min_eq_left (by omega)]
  simp
theorem cut_e {α : Type} (xs : List α) (k : Nat) (h : k < xs.length) : ((xs.drop (HT.sIx xs.length 0 (some ((k : Int) + 1)))).take (HT.sIx xs.length xs.length none - HT.sIx xs.length 0 (some ((k : Int) + 1)))) = xs.drop (k + 1) := by
  have e : (k : Int) + 1 = ((k + 1 : Nat) : Int) := by omega
  rw [e, HT.sIx_nat, HT.sIx_none, Nat.min_eq_left (by omega)]
  exact List.take_of_length_le (by rw [List.length_drop]; omega)
theorem room_of {a b : Nat} (ha : a ≤ 1000) (hb : b ≤ 1000) : a + b ≤ sizeLine := Nat.le_trans (show a + b ≤ 2000 by omega) (by decide)
set_option maxHeartbeats 4000000 in
theorem d_spoil (T : Txt K mg) : Df P w K mg base "_law_spoil" 1 R_spoil := by
  have nd := sc89.nd
  refine df_mk (T.fn 89 "_law_spoil" rfl) sc89 _ (fun ds res h => by obtain ⟨kind, bit, n, b, rfl, _⟩ := h; rfl) (fun _ _ _ _ _ _ us hl => match us, hl with | [_, _, _, _], _ => rfl) (fun f cdv A outer s H E hr tk hp ds res h => ?_)
  obtain ⟨kind, bit, n, b, rfl, b0, b4, hZ, rfl⟩ := h
  obtain ⟨dr, t, hs, ps, p, q⟩ := b
  obtain ⟨z1, z2, z3, z4, z5⟩ := hZ
  dsimp only at z1 z2 z3 z4 z5
  refine x_cons (s_asg (vr 3 rfl) (ag_tup rfl (aw_cons (tg 4 nd) (aw_cons (tg 5 nd) (aw_cons (tg 6 nd) (aw_cons (tg 7 nd) (aw_cons (tg 8 nd) aw_nil)))))) ?_)
  unfold spoilM
  dsimp only
  refine x_cons (s_if (t := decide (kind = 0 ∧ bit = 0)) (eb_is (ew_b (ew_and (eb_eq (vr 0 rfl) ev_int) (fun _ => (ew_and1 (eb_eq (vr 1 rfl) ev_int))))) (by simp [Bool.decide_and])) (fun hc => ?_) (fun hc => ?_))
  · rw [if_pos (of_decide_eq_true hc)]
    refine x_one (s_ret (ev_tup (ea_cons (vr 4 rfl) (ea_cons (vr 5 rfl) (ea_cons (vr 6 rfl) (ea_cons (ev_is (en_d (en_cat (ev_p (vr 7 rfl)) (en_p (en_lst (ea_cons ev_int ea_nil))) (room_of (by rw [List.length_map]; omega) (by simp)))) (d1 := .lst ((ps ++ [0]).map Dv.int)) (by rw [List.map_append]; rfl)) (ea_cons (vr 8 rfl) ea_nil)))))) (by show Res.val _ = Res.val _; rfl))
  rw [if_neg (of_decide_eq_false hc)]
  refine x_nil ?_
  refine x_cons (s_if (t := decide (kind = 0 ∧ bit = 1)) (eb_is (ew_b (ew_and (eb_eq (vr 0 rfl) ev_int) (fun _ => (ew_and1 (eb_eq (vr 1 rfl) ev_int))))) (by simp [Bool.decide_and])) (fun hc => ?_) (fun hc => ?_))
  · rw [if_pos (of_decide_eq_true hc)]
    refine x_one (s_ret (ev_tup (ea_cons (vr 4 rfl) (ea_cons (vr 5 rfl) (ea_cons (ev_is (en_d (en_cat (ev_p (vr 6 rfl)) (en_p (en_lst (ea_cons (ev_tup (ea_cons (cs [82]) (ea_cons (vr 2 rfl) ea_nil))) ea_nil))) (room_of (by rw [List.length_map]; omega) (by simp)))) (d1 := .lst ((hs ++ [(([82] : List Nat), (n : Int))]).map encH)) (by rw [List.map_append]; rfl)) (ea_cons (vr 7 rfl) (ea_cons (vr 8 rfl) ea_nil)))))) (by show Res.val _ = Res.val _; rfl))
  rw [if_neg (of_decide_eq_false hc)]
  refine x_nil ?_
  refine x_cons (s_if (t := decide (kind = 0 ∧ bit = 2)) (eb_is (ew_b (ew_and (eb_eq (vr 0 rfl) ev_int) (fun _ => (ew_and1 (eb_eq (vr 1 rfl) ev_int))))) (by simp [Bool.decide_and])) (fun hc => ?_) (fun hc => ?_))
  · rw [if_pos (of_decide_eq_true hc)]
    refine x_one (s_ret (ev_tup (ea_cons (vr 4 rfl) (ea_cons (vr 5 rfl) (ea_cons (ev_is (en_d (en_cat (ev_p (vr 6 rfl)) (en_p (en_lst (ea_cons (ev_tup (ea_cons (cs []) (ea_cons ev_int ea_nil))) ea_nil))) (room_of (by rw [List.length_map]; omega) (by simp)))) (d1 := .lst ((hs ++ [(([] : List Nat), (0 : Int))]).map encH)) (by rw [List.map_append]; rfl)) (ea_cons (vr 7 rfl) (ea_cons (vr 8 rfl) ea_nil)))))) (by show Res.val _ = Res.val _; rfl))
  rw [if_neg (of_decide_eq_false hc)]
  refine x_nil ?_
  refine x_cons (s_if (eb_eq (vr 0 rfl) ev_int) (fun hc => ?_) (fun hc => ?_))
  · rw [if_pos (of_decide_eq_true hc)]
    refine x_one (s_ret (ev_tup (ea_cons (vr 4 rfl) (ea_cons (vr 5 rfl) (ea_cons (ev_is (en_d (en_lc rfl nd (lc_map (own := [("_law_hand", 12)]) encH (fun h : Hand => encH (h.1, h.2 - (n : Int))) (ei_list (vr 6 rfl)) (by omega) (blkOk_by (by kernel_rfl)) (fun x hx => turn_map (by decide) (fun _ _ _ _ _ => (tg 12 nd)) (fun _ _ _ _ _ => (ev_tup (ea_cons (ixt (vr 12 rfl) ⟨by decide, rfl⟩) (ea_cons (ev_sub (ixt (vr 12 rfl) ⟨by decide, rfl⟩) (vr 2 rfl)) ea_nil)))))))) (d1 := .lst ((hs.map fun h : Hand => (h.1, h.2 - (n : Int))).map encH)) (by rw [List.map_map]; rfl)) (ea_cons (vr 7 rfl) (ea_cons (vr 8 rfl) ea_nil)))))) (by show Res.val _ = Res.val _; rfl))
  rw [if_neg (of_decide_eq_false hc)]
  refine x_nil ?_
  refine x_cons (s_if (t := decide (kind = 1 ∧ bit < 2)) (eb_is (ew_b (ew_and (eb_eq (vr 0 rfl) ev_int) (fun _ => (ew_and1 (eb_lt (vr 1 rfl) ev_int))))) (by simp [Bool.decide_and])) (fun hc => ?_) (fun hc => ?_))
  · have hc' := of_decide_eq_true hc
    rw [if_pos hc']
    have hb : bit = 0 ∨ bit = 1 := by omega
    rcases hb with rfl | rfl
    · exact x_one (s_ret (ev_tup (ea_cons (vr 4 rfl) (ea_cons (vr 5 rfl) (ea_cons (vr 6 rfl) (ea_cons (vr 7 rfl) (ea_cons (ev_ixL (en_p (en_lst (ea_cons (en_d (en_lst (ea_cons (ev_neg ev_int) (ea_cons (ixl (ev_p (vr 8 rfl)) ⟨by decide, rfl⟩) ea_nil)))) (ea_cons (en_d (en_lst (ea_cons (ixl (ev_p (vr 8 rfl)) ⟨by decide, rfl⟩) (ea_cons ev_int ea_nil)))) ea_nil)))) (vr 1 rfl) ⟨by decide, rfl⟩ (fun _ _ => rfl)) ea_nil)))))) (by show Res.val _ = Res.val _; rfl))
    · exact x_one (s_ret (ev_tup (ea_cons (vr 4 rfl) (ea_cons (vr 5 rfl) (ea_cons (vr 6 rfl) (ea_cons (vr 7 rfl) (ea_cons (ev_ixL (en_p (en_lst (ea_cons (en_d (en_lst (ea_cons (ev_neg ev_int) (ea_cons (ixl (ev_p (vr 8 rfl)) ⟨by decide, rfl⟩) ea_nil)))) (ea_cons (en_d (en_lst (ea_cons (ixl (ev_p (vr 8 rfl)) ⟨by decide, rfl⟩) (ea_cons ev_int ea_nil)))) ea_nil)))) (vr 1 rfl) ⟨by decide, rfl⟩ (fun _ _ => rfl)) ea_nil)))))) (by show Res.val _ = Res.val _; rfl))
  have hk1 := of_decide_eq_false hc
  rw [if_neg hk1]
  refine x_nil ?_
  refine x_cons (s_if (eb_eq (vr 0 rfl) ev_int) (fun hc => ?_) (fun hc => ?_))
  · have hc' := of_decide_eq_true hc
    rw [if_pos hc']
    have hb : bit = 2 ∨ bit = 3 := by omega
    have el : ((List.map encH hs).length : Int) = (hs.length : Int) := by rw [List.length_map]
    rcases hb with rfl | rfl
    · exact x_one (s_ret (ev_tup (ea_cons (vr 4 rfl) (ea_cons (vr 5 rfl) (ea_cons (vr 6 rfl) (ea_cons (vr 7 rfl) (ea_cons (ev_ixL (en_p (en_lst (ea_cons (en_d (en_lst (ea_cons (ev_is (ev_lenP (ev_p (vr 6 rfl)) rfl rfl T.len) (congrArg Dv.int el)) (ea_cons (ixl (ev_p (vr 8 rfl)) ⟨by decide, rfl⟩) ea_nil)))) (ea_cons (en_d (en_lst (ea_cons (ixl (ev_p (vr 8 rfl)) ⟨by decide, rfl⟩) (ea_cons (ev_sub (ev_sub (ixl (ev_p (vr 8 rfl)) ⟨by decide, rfl⟩) (ev_is (ev_lenP (ev_p (vr 6 rfl)) rfl rfl T.len) (congrArg Dv.int el))) ev_int) ea_nil)))) ea_nil)))) (ev_sub (vr 1 rfl) ev_int) ⟨by decide, rfl⟩ (fun _ _ => rfl)) ea_nil)))))) (by show Res.val _ = Res.val _; rfl))
    · exact x_one (s_ret (ev_tup (ea_cons (vr 4 rfl) (ea_cons (vr 5 rfl) (ea_cons (vr 6 rfl) (ea_cons (vr 7 rfl) (ea_cons (ev_ixL (en_p (en_lst (ea_cons (en_d (en_lst (ea_cons (ev_is (ev_lenP (ev_p (vr 6 rfl)) rfl rfl T.len) (congrArg Dv.int el)) (ea_cons (ixl (ev_p (vr 8 rfl)) ⟨by decide, rfl⟩) ea_nil)))) (ea_cons (en_d (en_lst (ea_cons (ixl (ev_p (vr 8 rfl)) ⟨by decide, rfl⟩) (ea_cons (ev_sub (ev_sub (ixl (ev_p (vr 8 rfl)) ⟨by decide, rfl⟩) (ev_is (ev_lenP (ev_p (vr 6 rfl)) rfl rfl T.len) (congrArg Dv.int el))) ev_int) ea_nil)))) ea_nil)))) (ev_sub (vr 1 rfl) ev_int) ⟨by decide, rfl⟩ (fun _ _ => rfl)) ea_nil)))))) (by show Res.val _ = Res.val _; rfl))
  rw [if_neg (of_decide_eq_false hc)]
  refine x_nil ?_
  refine x_cons (s_if (t := decide (kind = 2 ∧ bit < 2)) (eb_is (ew_b (ew_and (eb_eq (vr 0 rfl) ev_int) (fun _ => (ew_and1 (eb_lt (vr 1 rfl) ev_int))))) (by simp [Bool.decide_and])) (fun hc => ?_) (fun hc => ?_))
  · rw [if_pos (of_decide_eq_true hc)]
    exact x_one (s_ret (ev_tup (ea_cons (vr 4 rfl) (ea_cons (vr 5 rfl) (ea_cons (ev_is (en_d (en_cat (ev_p (vr 6 rfl)) (en_p (en_lst (ea_cons (ev_tup (ea_cons (cs [42]) (ea_cons ev_int ea_nil))) ea_nil))) (room_of (by rw [List.length_map]; omega) (by simp)))) (d1 := .lst ((hs ++ [(([42] : List Nat), (0 : Int))]).map encH)) (by rw [List.map_append]; rfl)) (ea_cons (vr 7 rfl) (ea_cons (vr 8 rfl) ea_nil)))))) (by show Res.val _ = Res.val _; rfl))
  rw [if_neg (of_decide_eq_false hc)]
  refine x_nil ?_
  refine x_cons (s_if (eb_eq (vr 0 rfl) ev_int) (fun hc => ?_) (fun hc => ?_))
  · rw [if_pos (of_decide_eq_true hc)]
    exact x_one (s_ret (ev_tup (ea_cons (vr 4 rfl) (ea_cons (cs [66, 82]) (ea_cons (vr 6 rfl) (ea_cons (vr 7 rfl) (ea_cons (vr 8 rfl) ea_nil)))))) (by show Res.val _ = Res.val _; rfl))
  rw [if_neg (of_decide_eq_false hc)]
  refine x_nil ?_
  have hdr : ∀ d ∈ dr.map encDr, EqOk d := fun d hd => by
    obtain ⟨x, hx, rfl⟩ := List.mem_map.mp hd
    exact eqOk_Dr fun c hc => by rcases (z5 x hx).2.1 c hc with rfl | rfl <;> decide
  refine x_cons (s_if (t := decide (kind = 3 ∧ dr ≠ [])) (eb_is (ew_b (ew_and (eb_eq (vr 0 rfl) ev_int) (fun _ => (ew_and1 (neNil hr.units (ev_p (vr 4 rfl)) hdr))))) (by rw [List.isEmpty_map]; cases dr <;> simp)) (fun hc => ?_) (fun hc => ?_))
  · have hc' := of_decide_eq_true hc
    rw [if_pos hc']
    have hpos := List.length_pos_iff.mpr hc'.2
    exact x_one (s_ret (ev_tup (ea_cons (ev_is (en_d (en_cat (ev_p (vr 4 rfl)) (en_p (en_lst (ea_cons (ev_tup (ea_cons (ixt (ixm (f := encDr) (ev_p (vr 4 rfl)) ev_int (by omega) (by omega)) ⟨by decide, rfl⟩) (ea_cons (ixt (ixm (f := encDr) (ev_p (vr 4 rfl)) ev_int (by omega) (by omega)) ⟨by decide, rfl⟩) (ea_cons (cs [82, 66]) ea_nil)))) ea_nil))) (room_of (by rw [List.length_map]; omega) (by simp)))) (d1 := .lst ((dr ++ [((ix dr 0).2.1, (ix dr 0).1, ([82, 66] : List Nat))]).map encDr)) (by rw [List.map_append]; rfl)) (ea_cons (vr 5 rfl) (ea_cons (vr 6 rfl) (ea_cons (ev_is (en_d (en_cat (ev_p (vr 7 rfl)) (en_p (en_lst (ea_cons ev_int ea_nil))) (room_of (by rw [List.length_map]; omega) (by simp)))) (d1 := .lst ((ps ++ [0]).map Dv.int)) (by rw [List.map_append]; rfl)) (ea_cons (vr 8 rfl) ea_nil)))))) (by show Res.val _ = Res.val _; rfl))
  rw [if_neg (of_decide_eq_false hc)]
  refine x_nil ?_
  refine x_cons (s_if (t := decide (kind = 4 ∧ dr ≠ [])) (eb_is (ew_b (ew_and (eb_eq (vr 0 rfl) ev_int) (fun _ => (ew_and1 (neNil hr.units (ev_p (vr 4 rfl)) hdr))))) (by rw [List.isEmpty_map]; cases dr <;> simp)) (fun hc => ?_) (fun hc => ?_))
  · have hc' := of_decide_eq_true hc
    rw [if_pos hc']
    have hpos := List.length_pos_iff.mpr hc'.2
    have m1 := Int.emod_lt_of_pos bit (show (0 : Int) < (dr.length : Int) by omega)
    have m2 := Int.emod_nonneg bit (show (dr.length : Int) ≠ 0 by omega)
    unfold cutDr cutPs
    have hat : ((cutAt ⟨dr, t, hs, ps, p, q⟩ bit : Nat) : Int) = bit % (dr.length : Int) := by
      unfold cutAt
      show ((bit % (dr.length : Int)).toNat : Int) = _
      omega
    have hlt : cutAt ⟨dr, t, hs, ps, p, q⟩ bit < dr.length := by omega
    generalize cutAt ⟨dr, t, hs, ps, p, q⟩ bit = k at hat hlt
    dsimp only
    have hcu : bit < cuts.length := by show bit < 4; exact b4
    have hcl : 0 < (ix cuts bit).length ∧ (ix cuts bit).length ≤ 4 := by
      have : bit = 0 ∨ bit = 1 ∨ bit = 2 ∨ bit = 3 := by omega
      rcases this with rfl | rfl | rfl | rfl <;> decide
    refine x_cons (DT.st 9 nd (d := .int (k : Int)) (ev_is (ev_mod (ev_intI (vr 1 rfl) rfl (by rfl) T.int) (ev_is (ev_lenP (ev_p (vr 4 rfl)) rfl rfl T.len) (by rw [List.length_map])) (by omega)) (by rw [hat])) ?_)
    refine x_cons (DT.st 10 nd (d := encDr ((ix dr (k : Int)).1, (ix dr (k : Int)).2.1, ix cuts bit)) (ev_tup (ea_cons (ixt (ixm (f := encDr) (ev_p (vr 4 rfl)) (vr 9 rfl) (by omega) (by omega)) ⟨by decide, rfl⟩) (ea_cons (ixt (ixm (f := encDr) (ev_p (vr 4 rfl)) (vr 9 rfl) (by omega) (by omega)) ⟨by decide, rfl⟩) (ea_cons (ixm (xs := cuts) (f := fun l => Dv.str (S l)) (en_p (en_lst (ea_cons (cs [82, 82, 66, 66]) (ea_cons (cs [66, 82, 66]) (ea_cons (cs [82, 66, 66]) (ea_cons (cs [66, 82, 82, 66]) ea_nil)))))) (vr 1 rfl) b0 hcu) ea_nil)))) ?_)
    have s1 := cut_s (ps.map Dv.int) k (by rw [List.length_map]; omega)
    have s2 := cut_e (ps.map Dv.int) k (by rw [List.length_map]; omega)
    have s3 := cut_s (dr.map encDr) k (by rw [List.length_map]; omega)
    have s4 := cut_e (dr.map encDr) k (by rw [List.length_map]; omega)
    refine x_cons (DT.st 11 nd (d := .lst ((ps.take k ++ [ix ps (k : Int) % ((ix cuts bit).length : Int)] ++ ps.drop (k + 1)).map Dv.int)) (ev_is (en_d (en_cat (en_p (en_cat (en_p (en_slice (i := none) (j := some (k : Int)) (ev_p (vr 7 rfl)) trivial (vr 9 rfl))) (en_p (en_lst (ea_cons (ev_mod (ev_intI (ixm (f := Dv.int) (ev_p (vr 7 rfl)) (vr 9 rfl) (by omega) (by omega)) rfl (by rfl) T.int) (lenS (z := ix cuts bit) (ixt (vr 10 rfl) ⟨by decide, rfl⟩) (by omega) rfl rfl T.len) (by omega)) ea_nil))) (by rw [s1]; exact room_of (by rw [List.length_take, List.length_map]; omega) (by simp)))) (en_p (en_slice (i := some ((k : Int) + 1)) (j := none) (ev_p (vr 7 rfl)) (ev_add (vr 9 rfl) ev_int) trivial)) (by rw [s1, s2]; exact room_of (by rw [List.length_append, List.length_take, List.length_map]; simp; omega) (by rw [List.length_drop, List.length_map]; omega)))) (by rw [s1, s2]; simp [List.map_take, List.map_drop])) ?_)
    exact x_one (s_ret (ev_tup (ea_cons (ev_is (en_d (en_cat (en_p (en_cat (en_p (en_slice (i := none) (j := some (k : Int)) (ev_p (vr 4 rfl)) trivial (vr 9 rfl))) (en_p (en_lst (ea_cons (vr 10 rfl) ea_nil))) (by rw [s3]; exact room_of (by rw [List.length_take, List.length_map]; omega) (by simp)))) (en_p (en_slice (i := some ((k : Int) + 1)) (j := none) (ev_p (vr 4 rfl)) (ev_add (vr 9 rfl) ev_int) trivial)) (by rw [s3, s4]; exact room_of (by rw [List.length_append, List.length_take, List.length_map]; simp; omega) (by rw [List.length_drop, List.length_map]; omega)))) (d1 := .lst ((dr.take k ++ [((ix dr (k : Int)).1, (ix dr (k : Int)).2.1, ix cuts bit)] ++ dr.drop (k + 1)).map encDr)) (by rw [s3, s4]; simp [List.map_take, List.map_drop])) (ea_cons (vr 5 rfl) (ea_cons (vr 6 rfl) (ea_cons (vr 11 rfl) (ea_cons (vr 8 rfl) ea_nil)))))) (by show Res.val _ = Res.val _; rfl))
  rw [if_neg (of_decide_eq_false hc)]
  refine x_nil ?_
  exact x_one (s_ret (vr 3 rfl) rfl)
end
end DT

set_option Elab.async false
set_option linter.all false
set_option maxRecDepth 100000
set_option maxHeartbeats 0
namespace DT
open PySem PySem.Spec L2
open PyProof.Rows hiding St
open SX (S)
local macro_rules | `(tactic| walk_at "less") => `(tactic| repeat (first | exact DT.Less.nil | refine DT.Less.cons ?_ | refine DT.Less.free ?_))
/-! ### the law's values -/
def szP : List Int := [6, 8, 4, 8, 4, 6, 2]
theorem szP_ok : SzOk szP := ⟨by decide, by decide⟩
def szW : List Int := (List.replicate 8 [(9 : Int), 9, 2]).flatten
theorem szW_ok : SzOk szW := ⟨by decide, by decide⟩
def pickM (ns : List Int) : List Int := rowM (cellM ns 5) szP
def h0M (ns : List Int) : Nat × List Door := roomyM (cellM ns 0) (decide (0 < ix (pickM ns) 5))
def nM (ns : List Int) : Nat := (h0M ns).1
def dr1M (ns : List Int) : List Door := if ix (pickM ns) 6 = 1 then laidM (cellM ns 9) (nM ns) (h0M ns).2 else (h0M ns).2
def drM (ns : List Int) : List Door := swiftL (cellM ns 3) (dr1M ns)
def mosts : List Int := [5, 5, 5, 2, 0, 0]
def hmM (ns : List Int) : Nat := (ix mosts (ix (pickM ns) 0)).toNat
def hs0M (ns : List Int) : List Hand := handsM (cellM ns 1) (nM ns) (hmM ns)
def ps0M (ns : List Int) : List Int := placesM (cellM ns 2) (drM ns)
def stM (ns : List Int) : St2 := if 1 < ix (pickM ns) 0 then luredM (cellM ns 4) (nM ns) (drM ns) (hs0M ns) (ps0M ns) else (hs0M ns, ps0M ns)
def rowW (ns : List Int) : List Int := rowM (cellM ns 8) szW
def bad0M (ns : List Int) : Bad := ⟨drM ns, [82, 66], (stM ns).1, (stM ns).2, ix (rowW ns) 0, ix (rowW ns) 1⟩
def badM (ns : List Int) (k : Nat) : Bad := iter (fun b k => spoilM (ix (pickM ns) (1 + 2 * (k : Int))) (ix (pickM ns) (2 + 2 * (k : Int))) (nM ns) b) (bad0M ns) k
def paM (ns : List Int) (k : Nat) : Int := ix (rowW ns) (3 * (k : Int)) % (((stM ns).1.length : Int) + 2) - 1
def pbM (ns : List Int) (k : Nat) : Int := ix (rowW ns) (3 * (k : Int) + 1) % (((stM ns).1.length : Int) + 2) - 1
/-- what the plain law shows -/
structure LawOk (ns : List Int) : Prop where
  n1 : 1 ≤ nM ns
  n2 : nM ns ≤ 100
  d0 : (h0M ns).2.length = nM ns - 1
  d1 : (dr1M ns).length ≤ 100
  g : GraphOk (nM ns) (drM ns)
  cl : CyLen (drM ns)
  h0 : (hs0M ns).length ≤ 90
  hi : HIn (nM ns) (drM ns) [82, 66]
  bz : ∀ k, k < 2 → BadSz (badM ns k)
  hb : HIn (nM ns) (badM ns 2).dr (badM ns 2).t
  hl : (badM ns 2).hs.length ≤ 1000
  due : ∀ kind : Int, 0 ≤ kind → kind < 3 → ∃ ws, DueIn kind (nM ns) (badM ns 2).dr (badM ns 2).t (badM ns 2).hs (badM ns 2).ps (badM ns 2).p (badM ns 2).q ws ∧
    (∀ ks, (kind = 2 → ks = [(badM ns 2).p, (badM ns 2).q]) → (kind ≠ 2 → ks = []) → PairOk (nM ns) (badM ns 2).dr (badM ns 2).t (badM ns 2).hs (badM ns 2).ps ks) ∧
    (kind = 2 → needM (nM ns) (badM ns 2).dr (badM ns 2).t (badM ns 2).hs (badM ns 2).ps [(badM ns 2).p, (badM ns 2).q] = none → WayR (dictM (orderM (nM ns) (badM ns 2).dr (ix (badM ns 2).hs (badM ns 2).q).2)) (ix (badM ns 2).hs (badM ns 2).q).2 (ix (badM ns 2).hs (badM ns 2).p).2 ws)
  pr : ∀ k, k < 8 → ∃ ws, PairedIn (nM ns) (drM ns) (stM ns).1 (stM ns).2 (paM ns k) (pbM ns k) ws
  sn : SeenOk (nM ns) (drM ns) (stM ns).1 (stM ns).2
  ga : match chasedL (nM ns) (drM ns) (stM ns).1 (stM ns).2 with
    | none => RoamOk (nM ns) (drM ns) (rowM (cellM ns 7) szR) 10 0 (stM ns)
    | some b => HuntOk (nM ns) (drM ns) b.1 b.2.1 (rowM (cellM ns 6) (sz2 (nM ns))) (nM ns - 1) 0 (stM ns)
theorem due_ref {kind : Int} {n : Nat} {dr : List Door} {t : List Nat} {hs : List Hand} {ps : List Int} {a b : Int} {ws : List Int} (h0 : 0 ≤ kind) (h3 : kind < 3)
    (hp : ∀ ks, (kind = 2 → ks = [a, b]) → (kind ≠ 2 → ks = []) → PairOk n dr t hs ps ks) (hw : kind = 2 → needM n dr t hs ps [a, b] = none → WayR (dictM (orderM n dr (ix hs b).2)) (ix hs b).2 (ix hs a).2 ws) (hd : 0 ≤ dueM kind n dr t hs ps a b ws) :
    ∃ x, RefOk kind n dr t hs ps (.lst [.int a, .int b]) x ∧ codeX x = dueM kind n dr t hs ps a b ws := by
  unfold dueM at hd ⊢
  by_cases hk : kind = 2
  · rw [if_pos hk] at hd ⊢
    cases hc : chaseM n dr t hs ps a b ws with
    | val d => rw [hc] at hd; exact absurd hd (by show ¬ (0 : Int) ≤ -1; decide)
    | exc x => exact ⟨x, .inr ⟨hk, true, a, b, ws, rfl, hp _ (fun _ => rfl) (fun z => absurd hk z), hw hk, hc⟩, rfl⟩
  · rw [if_neg hk] at hd ⊢
    cases hc : needM n dr t hs ps [] with
    | none => rw [hc] at hd; exact absurd hd (by show ¬ (0 : Int) ≤ -1; decide)
    | some x => exact ⟨x, .inl ⟨by omega, hp _ (fun z => absurd z hk) (fun _ => rfl), hc⟩, rfl⟩
theorem eqv_Dr (l : List Door) : PyData.eqv (.list (pys (l.map encDr))) (.list (pys (l.map encDr))) = true := by
  show PyData.eqvAll (pys (l.map encDr)) (pys (l.map encDr)) = true
  induction l with
  | nil => rfl
  | cons d l ih =>
    show (PyData.eqv (py (encDr d)) (py (encDr d)) && PyData.eqvAll _ _) = true
    rw [ih]
    show (PyData.eqv (.tuple [.int d.1, .int d.2.1, .str (S d.2.2)]) (.tuple [.int d.1, .int d.2.1, .str (S d.2.2)]) && true) = true
    simp [PyData.eqv, PyData.eqvAll]
section
variable {P : Program} {w : World} {K : PySem.W.Frag} {mg : Str → Option Value} {base : Heap}
theorem sc90 : FnScope ["_law_script", "_law_pick", "_law_rooms", "_law_doors", "_law_hands_here", "_law_places_here", "_law_house_here", "_law_standing", "_law_row_here", "_law_bad", "_law_k", "_law_wrong", "_law_misfit", "_law_kind", "_law_due_here", "_law_pair"] ["_law_script"] (defScope (topS 90)) := ⟨rfl, rfl, rfl, by decide +kernel, rfl, by decide +kernel, by decide +kernel⟩
def R_law : List Dv → Res → Prop := fun ds res => ∃ (ns : List Int), ds = [.scr ns] ∧ LawOk ns ∧ res = .val (.bl true)
set_option maxHeartbeats 8000000 in
theorem fn_mk {x : Str} {st : Stmt} {N ps : List Str} {k : Nat} {f : Addr} {fd : FuncData} (F : FunD K x x (defArgs st) (defBody st) (defScope st) [] [] f fd) (S : FnScope N ps (defScope st)) (R : List Dv → Res → Prop) (hlen : ∀ ds res, R ds res → ds.length = ps.length)
    (hbody : ∀ (f : Addr) (cdv : Value) (A : Around) (outer : List Env) (s : Shared) (H : Hp) (E : XK), Room k (A.deeper (envOfC x (defScope st) s.heap.objs.size f cdv)) →
      Takes (cxOf (L2.CX P w) P w K mg base N x (defScope st) f cdv A outer s H E) (wE E) → PassesOwn (model P w) (A.deeper (envOfC x (defScope st) s.heap.objs.size f cdv)) (envOfC x (defScope st) s.heap.objs.size f cdv) (cxOf (L2.CX P w) P w K mg base N x (defScope st) f cdv A outer s H E).xe →
      ∀ ds res, R ds res → Ex (cxOf (L2.CX P w) P w K mg base N x (defScope st) f cdv A outer s H E) (wE E) (startG N ds) (defBody st) (Fit res)) :
    FnOk P w K mg base (L2.CX P w) (k + 1) f fd ps (spOf K mg R) := by
  refine F.ok S (fun vs H Q E h => ?_) (fun cdv A outer s H vs Q E hr h => ?_)
  · obtain ⟨B, ds, res, _, r, hR, _⟩ := h
    rw [r.length]
    exact hlen ds res hR
  · obtain ⟨B, ds, res, sB, r, hR, fin⟩ := h
    refine ⟨_, pss_w, hbody f cdv A outer s H E hr (takes_of rfl rfl rfl rfl) (passes_of rfl) ds res hR B H B H _ _ (startOk sB r N) ⟨fun G' B' H' sg' q f' => ?_, fun d v B' H' q g' r' => ?_, fun y G' B' H' sg' q f' => ?_⟩⟩
    · have q' : res = .val .non := q
      subst q'
      exact fin .non B' H' f'.g .non
    · have q' : res = .val d := q
      subst q'
      exact fin v B' H' g' r'
    · have q' : res = .exc y := q
      subst q'
      exact fin H' f'.g.h
theorem fn_law (T : Txt2 K mg) {f : Addr} {fd : FuncData} (F : FunD K "law" "law" (defArgs (topS 90)) (defBody (topS 90)) (defScope (topS 90)) [] [] f fd) : FnOk P w K mg base (L2.CX P w) 10 f fd ["_law_script"] (spOf K mg R_law) := by
  have nd := sc90.nd
  have T' := T.t
  have D_cell := @d_cell P w K mg base T.t
  have D_row := @d_row P w K mg base T.t
  have D_roomy := @d_roomy P w K mg base T.t
  have D_laid := @d_laid P w K mg base T.t
  have D_swiftL := @d_swiftL P w K mg base T.t
  have D_hands := @d_hands P w K mg base T.t
  have D_places := @d_places P w K mg base T.t
  have D_lured := @d_lured P w K mg base T.t
  have D_spoil := @d_spoil P w K mg base T.t
  have D_due := @d_due P w K mg base T.t
  have D_refusal := @d_refusal P w K mg base T
  have D_paired := @d_paired P w K mg base T
  have D_seen := @d_seen P w K mg base T.t
  have D_chased := @d_chased P w K mg base T.t
  have D_roamed := @d_roamed P w K mg base T.t
  have D_hunted := @d_hunted P w K mg base T.t
  have D_isst := @d_isst P w K mg base T
  refine fn_mk F sc90 _ (fun ds res h => by obtain ⟨ns, rfl, _⟩ := h; rfl) (fun f cdv A outer s H E hr tk hp ds res h => ?_)
  obtain ⟨ns, rfl, L, rfl⟩ := h
  have n1 := L.n1
  have n2 := L.n2
  have hgs := L.sn.s
  have hpl := rowM_len (cellM ns 5) szP
  have hpb := rowM_bd (cellM ns 5) szP szP_ok
  have hpsz : szP.length = 7 := by decide
  have hpl' : (pickM ns).length = 7 := by show (rowM _ _).length = 7; rw [hpl]; decide
  have hpb' : ∀ i : Int, 0 ≤ i → i < 7 → 0 ≤ ix (pickM ns) i ∧ ix (pickM ns) i < ix szP i := fun i a b => hpb i a (by rw [hpsz]; exact b)
  have hwl : (rowW ns).length = 24 := by show (rowM _ _).length = 24; rw [rowM_len]; decide
  have cell : ∀ k : Int, 0 ≤ k → R_cell [.scr ns, .int k] (.val (.int (cellM ns k))) := fun k hk => ⟨ns, k, rfl, hk, rfl⟩
  refine x_cons (DT.st 1 nd (d := .lst ((pickM ns).map Dv.int)) (ev_call D_row (hr.mono (by decide)) rfl (ea_cons (ev_call D_cell (hr.mono (by decide)) rfl (ea_cons (vr 0 rfl) (ea_cons ev_int ea_nil)) (cell _ (by decide)) (by decide)) (ea_cons (en_d (en_lst (ea_cons ev_int (ea_cons ev_int (ea_cons ev_int (ea_cons ev_int (ea_cons ev_int (ea_cons ev_int (ea_cons ev_int ea_nil))))))))) ea_nil)) ⟨cellM ns 5, szP, rfl, szP_ok, rfl⟩ (by decide)) ?_)
  refine x_cons (s_asg (d := encHs (h0M ns)) (ev_call D_roomy (hr.mono (by decide)) rfl (ea_cons (ev_call D_cell (hr.mono (by decide)) rfl (ea_cons (vr 0 rfl) (ea_cons ev_int ea_nil)) (cell _ (by decide)) (by decide)) (ea_cons ev_int (ea_cons ev_int (ea_cons (EvB.v (eb_gt (ixm (f := Dv.int) (ev_p (vr 1 rfl)) ev_int (by omega) (by omega)) ev_int)) ea_nil)))) ⟨_, _, rfl, rfl⟩ (by decide)) (ag_tup rfl (aw_cons (tg 2 nd) (aw_cons (tg 3 nd) aw_nil))) ?_)
  refine x_cons (ifset (d1 := .lst ((laidM (cellM ns 9) (nM ns) (h0M ns).2).map encDr)) 3 nd (eb_eq (ixm (f := Dv.int) (ev_p (vr 1 rfl)) ev_int (by omega) (by omega)) ev_int) rfl (fun _ => ev_call D_laid (hr.mono (by decide)) rfl (ea_cons (vr 2 rfl) (ea_cons (vr 3 rfl) (ea_cons (ev_call D_cell (hr.mono (by decide)) rfl (ea_cons (vr 0 rfl) (ea_cons ev_int ea_nil)) (cell _ (by decide)) (by decide)) ea_nil))) ⟨cellM ns 9, nM ns, (h0M ns).2, rfl, n1, n2, L.d0, rfl⟩ (by decide)) ?_)
  have e1 : (if decide (ix (pickM ns) 6 = 1) = true then Dv.lst ((laidM (cellM ns 9) (nM ns) (h0M ns).2).map encDr) else Dv.lst ((h0M ns).2.map encDr)) = Dv.lst ((dr1M ns).map encDr) := by
    unfold dr1M
    by_cases h : ix (pickM ns) 6 = 1
    · rw [if_pos (decide_eq_true h), if_pos h]
    · rw [if_neg (by simp [h]), if_neg h]
  rw [e1]
  refine x_cons (DT.st 3 nd (d := .lst ((drM ns).map encDr)) (ev_call D_swiftL (hr.mono (by decide)) rfl (ea_cons (ev_call D_cell (hr.mono (by decide)) rfl (ea_cons (vr 0 rfl) (ea_cons ev_int ea_nil)) (cell _ (by decide)) (by decide)) (ea_cons (vr 3 rfl) ea_nil)) ⟨cellM ns 3, dr1M ns, rfl, L.d1, rfl⟩ (by decide)) ?_)
  have hp0 := hpb' 0 (by decide) (by decide)
  have hp0' : ix (pickM ns) 0 < mosts.length := by
    have e : ix szP 0 = 6 := by decide
    rw [e] at hp0
    exact hp0.2
  have hm0 : (0 : Int) ≤ ix mosts (ix (pickM ns) 0) ∧ ix mosts (ix (pickM ns) 0) ≤ 5 := by
    have h := mem_ix (xs := mosts) hp0.1 hp0'
    have : ∀ x ∈ mosts, (0 : Int) ≤ x ∧ x ≤ 5 := by decide
    exact this _ h
  have hmc : ((hmM ns : Nat) : Int) = ix mosts (ix (pickM ns) 0) := by unfold hmM; omega
  refine x_cons (DT.st 4 nd (d := .lst ((hs0M ns).map encH)) (ev_call D_hands (hr.mono (by decide)) rfl (ea_cons (ev_call D_cell (hr.mono (by decide)) rfl (ea_cons (vr 0 rfl) (ea_cons ev_int ea_nil)) (cell _ (by decide)) (by decide)) (ea_cons (vr 2 rfl) (ea_cons (cs [82, 66]) (ea_cons (ev_is (ixm (xs := mosts) (f := Dv.int) (en_p (en_lst (ea_cons ev_int (ea_cons ev_int (ea_cons ev_int (ea_cons ev_int (ea_cons ev_int (ea_cons ev_int ea_nil)))))))) (ixm (f := Dv.int) (ev_p (vr 1 rfl)) ev_int (by omega) (by omega)) hp0.1 hp0') (d1 := .int ((hmM ns : Nat) : Int)) (by rw [hmc])) ea_nil)))) ⟨cellM ns 1, nM ns, hmM ns, rfl, n1, n2, by omega, rfl⟩ (by decide)) ?_)
  refine x_cons (DT.st 5 nd (d := .lst ((ps0M ns).map Dv.int)) (ev_call D_places (hr.mono (by decide)) rfl (ea_cons (ev_call D_cell (hr.mono (by decide)) rfl (ea_cons (vr 0 rfl) (ea_cons ev_int ea_nil)) (cell _ (by decide)) (by decide)) (ea_cons (vr 3 rfl) ea_nil)) ⟨cellM ns 2, drM ns, rfl, L.cl, rfl⟩ (by decide)) ?_)
  have hp0l : (ps0M ns).length = (drM ns).length := by show (rowM _ _).length = _; rw [rowM_len, List.length_map]
  refine x_cut (fun o => o = .nx [.sh (.scr ns), .sh (.lst ((pickM ns).map Dv.int)), .sh (.int (nM ns)), .sh (.lst ((drM ns).map encDr)), .sh (.lst ((stM ns).1.map encH)), .sh (.lst ((stM ns).2.map Dv.int)), .free, .free, .free, .free, .free, .free, .free, .free, .free, .free]) ?_ ?_ (fun _ h => nomatch h) (fun _ h => nomatch h)
  · refine s_if (eb_gt (ixm (f := Dv.int) (ev_p (vr 1 rfl)) ev_int (by omega) (by omega)) ev_int) (fun hc => ?_) (fun hc => ?_)
    · have es : stM ns = luredM (cellM ns 4) (nM ns) (drM ns) (hs0M ns) (ps0M ns) := by unfold stM; rw [if_pos (of_decide_eq_true hc)]
      refine x_one (s_asg (d := encS2 (stM ns)) (ev_call D_lured (hr.mono (by decide)) rfl (ea_cons (vr 2 rfl) (ea_cons (vr 3 rfl) (ea_cons (vr 4 rfl) (ea_cons (vr 5 rfl) (ea_cons (ev_call D_cell (hr.mono (by decide)) rfl (ea_cons (vr 0 rfl) (ea_cons ev_int ea_nil)) (cell _ (by decide)) (by decide)) ea_nil))))) ⟨cellM ns 4, nM ns, drM ns, hs0M ns, ps0M ns, rfl, L.g, L.cl, hp0l, L.h0, by rw [es]⟩ (by decide)) (ag_tup rfl (aw_cons (tg 4 nd) (aw_cons (tg 5 nd) aw_nil))) rfl)
    · have es : stM ns = (hs0M ns, ps0M ns) := by unfold stM; rw [if_neg (of_decide_eq_false hc)]
      rw [es]
      exact x_nil rfl
  intro G' hG'
  cases hG'
  have hsl := hgs.l
  have hpsl := hgs.p.l
  have hdl := L.g.dl
  refine x_cons (DT.st 6 nd (ev_house (n := nM ns) (dr := drM ns) T' (hr.mono (by decide)) (ea_cons (vr 2 rfl) (ea_cons (en_d (en_listP (ev_p (vr 3 rfl)) rfl (by rfl) T'.list)) ea_nil)) L.hi) ?_)
  refine x_cons (DT.st 7 nd (ev_standing (hs := (stM ns).1) (ps := (stM ns).2) T' (hr.mono (by decide)) (ea_cons (en_d (en_listP (ev_p (vr 4 rfl)) rfl (by rfl) T'.list)) (ea_cons (en_d (en_listP (ev_p (vr 5 rfl)) rfl (by rfl) T'.list)) ea_nil)) (by omega)) ?_)
  refine x_cons (DT.st 8 nd (d := .lst ((rowW ns).map Dv.int)) (ev_call D_row (hr.mono (by decide)) rfl (ea_cons (ev_call D_cell (hr.mono (by decide)) rfl (ea_cons (vr 0 rfl) (ea_cons ev_int ea_nil)) (cell _ (by decide)) (by decide)) (ea_cons (ev_is (en_d (en_rep (en_p (en_lst (ea_cons ev_int (ea_cons ev_int (ea_cons ev_int ea_nil))))) ev_int ⟨by decide, by decide, by decide⟩)) (d1 := .lst (szW.map Dv.int)) (by rfl)) ea_nil)) ⟨cellM ns 8, szW, rfl, szW_ok, rfl⟩ (by decide)) ?_)
  refine x_cons (DT.st 9 nd (d := encBad (bad0M ns)) (ev_tup (ea_cons (vr 3 rfl) (ea_cons (cs [82, 66]) (ea_cons (vr 4 rfl) (ea_cons (vr 5 rfl) (ea_cons (en_d (en_lst (ea_cons (ixm (f := Dv.int) (ev_p (vr 8 rfl)) ev_int (by omega) (by omega)) (ea_cons (ixm (f := Dv.int) (ev_p (vr 8 rfl)) ev_int (by omega) (by omega)) ea_nil)))) ea_nil)))))) ?_)
  refine x_cons (s_for (S := Bad) hp rfl (ei_rng (n := 2) ev_int (by decide) rfl rfl T'.range) (fun b => [.sh (.scr ns), .sh (.lst ((pickM ns).map Dv.int)), .sh (.int (nM ns)), .sh (.lst ((drM ns).map encDr)), .sh (.lst ((stM ns).1.map encH)), .sh (.lst ((stM ns).2.map Dv.int)), .sh (encHo mg (nM ns) (drM ns) [82, 66]), .sh (encSt mg (stM ns).1 (stM ns).2), .sh (.lst ((rowW ns).map Dv.int)), .sh (encBad b), .free, .free, .free, .free, .free, .free]) (fun i b => b = badM ns i) (bad0M ns) rfl (by walk_at "less") ?_ ?_)
  · intro i b d hd hI
    obtain ⟨rfl, hi⟩ := rng_get hd
    have hbz := L.bz i hi
    rw [← hI] at hbz
    have b1 := hpb' (1 + 2 * (i : Int)) (by omega) (by omega)
    have b2 := hpb' (2 + 2 * (i : Int)) (by omega) (by omega)
    have hb4 : ix (pickM ns) (2 + 2 * (i : Int)) < 4 := by
      have : i = 0 ∨ i = 1 := by omega
      rcases this with rfl | rfl
      · exact b2.2
      · exact b2.2
    refine ⟨_, _, (tg 10 nd), ?_⟩
    refine x_cons (DT.st 9 nd (d := encBad (badM ns (i + 1))) (ev_call D_spoil (hr.mono (by decide)) rfl (ea_cons (ixm (f := Dv.int) (ev_p (vr 1 rfl)) (ev_add ev_int (ev_mul ev_int (vr 10 rfl) (.inl (by decide)))) (by omega) (by omega)) (ea_cons (ixm (f := Dv.int) (ev_p (vr 1 rfl)) (ev_add ev_int (ev_mul ev_int (vr 10 rfl) (.inl (by decide)))) (by omega) (by omega)) (ea_cons (vr 2 rfl) (ea_cons (vr 9 rfl) ea_nil)))) ⟨_, _, nM ns, b, rfl, b2.1, hb4, hbz, by rw [hI]; rfl⟩ (by decide)) ?_)
    exact x_nil ⟨badM ns (i + 1), by walk_at "less", rfl⟩
  intro b hI
  have hb : b = badM ns 2 := hI
  subst hb
  refine x_cons (DT.st 11 nd (ev_houseK (n := nM ns) (dr := (badM ns 2).dr) (t := (badM ns 2).t) T' (hr.mono (by decide)) (ea_cons (vr 2 rfl) (ea_cons (en_d (en_listP (ev_p (ixt (vr 9 rfl) ⟨by decide, rfl⟩)) rfl (by rfl) T'.list)) ea_nil)) (ixt (vr 9 rfl) ⟨by decide, rfl⟩) L.hb) ?_)
  refine x_cons (DT.st 12 nd (ev_standing (hs := (badM ns 2).hs) (ps := (badM ns 2).ps) T' (hr.mono (by decide)) (ea_cons (en_d (en_listP (ev_p (ixt (vr 9 rfl) ⟨by decide, rfl⟩)) rfl (by rfl) T'.list)) (ea_cons (en_d (en_listP (ev_p (ixt (vr 9 rfl) ⟨by decide, rfl⟩)) rfl (by rfl) T'.list)) ea_nil)) L.hl) ?_)
  refine x_cons (s_for (S := Unit) hp rfl (ei_rng (n := 3) ev_int (by decide) rfl rfl T'.range) (fun _ => [.sh (.scr ns), .sh (.lst ((pickM ns).map Dv.int)), .sh (.int (nM ns)), .sh (.lst ((drM ns).map encDr)), .sh (.lst ((stM ns).1.map encH)), .sh (.lst ((stM ns).2.map Dv.int)), .sh (encHo mg (nM ns) (drM ns) [82, 66]), .sh (encSt mg (stM ns).1 (stM ns).2), .sh (.lst ((rowW ns).map Dv.int)), .sh (encBad (badM ns 2)), .free, .sh (encHo mg (nM ns) (badM ns 2).dr (badM ns 2).t), .sh (encSt mg (badM ns 2).hs (badM ns 2).ps), .free, .free, .free]) (fun i _ => True) () trivial (by walk_at "less") ?_ ?_)
  · intro i _ d hd _
    obtain ⟨rfl, hi⟩ := rng_get hd
    obtain ⟨ws, hdu, hpr, hwr⟩ := L.due (i : Int) (by omega) (by omega)
    refine ⟨_, _, (tg 13 nd), ?_⟩
    refine x_cons (DT.st 14 nd (ev_call D_due (hr.mono (by decide)) rfl (ea_cons (vr 13 rfl) (ea_cons (vr 2 rfl) (ea_cons (ixt (vr 9 rfl) ⟨by decide, rfl⟩) (ea_cons (ixt (vr 9 rfl) ⟨by decide, rfl⟩) (ea_cons (ixt (vr 9 rfl) ⟨by decide, rfl⟩) (ea_cons (ixt (vr 9 rfl) ⟨by decide, rfl⟩) (ea_cons (ixt (vr 9 rfl) ⟨by decide, rfl⟩) ea_nil))))))) ⟨(i : Int), nM ns, (badM ns 2).dr, (badM ns 2).t, (badM ns 2).hs, (badM ns 2).ps, (badM ns 2).p, (badM ns 2).q, ws, rfl, hdu, rfl⟩ (by decide)) ?_)
    generalize hdm : dueM (i : Int) (nM ns) (badM ns 2).dr (badM ns 2).t (badM ns 2).hs (badM ns 2).ps (badM ns 2).p (badM ns 2).q ws = dm
    by_cases hge : 0 ≤ dm
    · obtain ⟨x, hx, hcx⟩ := due_ref (by omega) (by omega) hpr hwr (by rw [hdm]; exact hge)
      refine x_cons (s_if (t := false) (eb_is (ew_b (ew_and (eb_ge (vr 14 rfl) ev_int) (fun _ => (ew_and1 (eb_ne (ev_call D_refusal (hr.mono (by decide)) rfl (ea_cons (vr 13 rfl) (ea_cons (vr 11 rfl) (ea_cons (vr 12 rfl) (ea_cons (en_d (en_listP (ev_p (ixt (vr 9 rfl) ⟨by decide, rfl⟩)) rfl (by rfl) T'.list)) ea_nil)))) ⟨(i : Int), nM ns, (badM ns 2).dr, (badM ns 2).t, (badM ns 2).hs, (badM ns 2).ps, _, x, rfl, hx, rfl⟩ (by decide)) (vr 14 rfl)))))) (by rw [hcx, hdm]; simp)) (fun hc => ?_) (fun hc => ?_))
      · cases hc
      exact x_nil (x_nil ⟨(), by walk_at "less", trivial⟩)
    · refine x_cons (s_if (t := false) (eb_is (ew_b (ew_and (y := false) (eb_ge (vr 14 rfl) ev_int) (fun hz => absurd (of_decide_eq_true hz) hge))) (by simp)) (fun hc => ?_) (fun hc => ?_))
      · cases hc
      exact x_nil (x_nil ⟨(), by walk_at "less", trivial⟩)
  intro _ _
  refine x_cons (s_for (S := Unit) hp rfl (ei_rng (n := 8) ev_int (by decide) rfl rfl T'.range) (fun _ => [.sh (.scr ns), .sh (.lst ((pickM ns).map Dv.int)), .sh (.int (nM ns)), .sh (.lst ((drM ns).map encDr)), .sh (.lst ((stM ns).1.map encH)), .sh (.lst ((stM ns).2.map Dv.int)), .sh (encHo mg (nM ns) (drM ns) [82, 66]), .sh (encSt mg (stM ns).1 (stM ns).2), .sh (.lst ((rowW ns).map Dv.int)), .free, .free, .free, .free, .free, .free, .free]) (fun i _ => True) () trivial (by walk_at "less") ?_ ?_)
  · intro i _ d hd _
    obtain ⟨rfl, hi⟩ := rng_get hd
    obtain ⟨ws, hpi⟩ := L.pr i hi
    have el : ((List.map encH (stM ns).1).length : Int) = ((stM ns).1.length : Int) := by rw [List.length_map]
    refine ⟨_, _, (tg 10 nd), ?_⟩
    refine x_cons (DT.st 15 nd (d := .lst [.int (paM ns i), .int (pbM ns i)]) (en_d (en_lst (ea_cons (ev_sub (ev_mod (ev_intI (ixm (f := Dv.int) (ev_p (vr 8 rfl)) (ev_mul ev_int (vr 10 rfl) (.inl (by decide))) (by omega) (by omega)) rfl (by rfl) T'.int) (ev_add (ev_is (ev_lenP (ev_p (vr 4 rfl)) rfl rfl T'.len) (congrArg Dv.int el)) ev_int) (by omega)) ev_int) (ea_cons (ev_sub (ev_mod (ev_intI (ixm (f := Dv.int) (ev_p (vr 8 rfl)) (ev_add (ev_mul ev_int (vr 10 rfl) (.inl (by decide))) ev_int) (by omega) (by omega)) rfl (by rfl) T'.int) (ev_add (ev_is (ev_lenP (ev_p (vr 4 rfl)) rfl rfl T'.len) (congrArg Dv.int el)) ev_int) (by omega)) ev_int) ea_nil)))) ?_)
    refine x_cons (s_if (t := false) (eb_is (eb_not (eb_val (ev_call D_paired (hr.mono (by decide)) rfl (ea_cons (vr 2 rfl) (ea_cons (vr 3 rfl) (ea_cons (vr 4 rfl) (ea_cons (vr 5 rfl) (ea_cons (vr 6 rfl) (ea_cons (vr 7 rfl) (ea_cons (vr 15 rfl) (ea_cons (EvB.v (eb_eq (ixm (f := Dv.int) (ev_p (vr 8 rfl)) (ev_add (ev_mul ev_int (vr 10 rfl) (.inl (by decide))) ev_int) (by omega) (by omega)) ev_int)) ea_nil)))))))) ⟨nM ns, drM ns, (stM ns).1, (stM ns).2, paM ns i, pbM ns i, _, ws, rfl, hpi, rfl⟩ (by decide)))) rfl) (fun hc => ?_) (fun hc => ?_))
    · cases hc
    exact x_nil (x_nil ⟨(), by walk_at "less", trivial⟩)
  intro _ _
  refine x_cons (s_if (t := false) (eb_is (eb_not (eb_val (ev_call D_seen (hr.mono (by decide)) rfl (ea_cons (vr 2 rfl) (ea_cons (vr 3 rfl) (ea_cons (vr 4 rfl) (ea_cons (vr 5 rfl) (ea_cons (vr 6 rfl) (ea_cons (vr 7 rfl) ea_nil)))))) ⟨nM ns, drM ns, (stM ns).1, (stM ns).2, rfl, L.sn, rfl⟩ (by decide)))) rfl) (fun hc => ?_) (fun hc => ?_))
  · cases hc
  refine x_nil ?_
  have ga := L.ga
  refine x_cut (fun o => o = .nx [.sh (.scr ns), .sh (.lst ((pickM ns).map Dv.int)), .sh (.int (nM ns)), .sh (.lst ((drM ns).map encDr)), .sh (.lst ((stM ns).1.map encH)), .sh (.lst ((stM ns).2.map Dv.int)), .sh (encHo mg (nM ns) (drM ns) [82, 66]), .sh (encSt mg (stM ns).1 (stM ns).2), .sh (.lst ((rowW ns).map Dv.int)), .free, .free, .free, .free, .free, .free, .free]) ?_ ?_ (fun _ h => nomatch h) (fun _ h => nomatch h)
  · have hch : R_chased [.int (nM ns), .lst ((drM ns).map encDr), .lst ((stM ns).1.map encH), .lst ((stM ns).2.map Dv.int)] (.val (encB (chasedL (nM ns) (drM ns) (stM ns).1 (stM ns).2))) := ⟨nM ns, drM ns, (stM ns).1, (stM ns).2, rfl, n2, L.g.ends, hgs.p, hgs.h, hgs.l, rfl⟩
    cases hcb : chasedL (nM ns) (drM ns) (stM ns).1 (stM ns).2 with
    | none =>
      rw [hcb] at ga hch
      refine s_if (t := true) (eb_is (eb_isN (ev_call D_chased (hr.mono (by decide)) rfl (ea_cons (vr 2 rfl) (ea_cons (vr 3 rfl) (ea_cons (vr 4 rfl) (ea_cons (vr 5 rfl) ea_nil)))) hch (by decide))) rfl) (fun _ => ?_) (fun h => nomatch h)
      refine x_one (s_if (t := false) (eb_is (eb_not (eb_val (ev_call D_roamed (hr.mono (by decide)) rfl (ea_cons (vr 3 rfl) (ea_cons (vr 4 rfl) (ea_cons (vr 5 rfl) (ea_cons (vr 6 rfl) (ea_cons (ev_call D_cell (hr.mono (by decide)) rfl (ea_cons (vr 0 rfl) (ea_cons ev_int ea_nil)) (cell _ (by decide)) (by decide)) ea_nil))))) ⟨nM ns, drM ns, (stM ns).1, (stM ns).2, cellM ns 7, rfl, ga, rfl⟩ (by decide)))) rfl) (fun h => nomatch h) (fun _ => x_nil rfl))
    | some b =>
      rw [hcb] at ga hch
      refine s_if (t := false) (eb_is (eb_isN (ev_call D_chased (hr.mono (by decide)) rfl (ea_cons (vr 2 rfl) (ea_cons (vr 3 rfl) (ea_cons (vr 4 rfl) (ea_cons (vr 5 rfl) ea_nil)))) hch (by decide))) rfl) (fun h => nomatch h) (fun _ => ?_)
      refine x_one (s_if (t := false) (eb_is (eb_not (eb_val (ev_call D_hunted (hr.mono (by decide)) rfl (ea_cons (vr 2 rfl) (ea_cons (vr 3 rfl) (ea_cons (vr 4 rfl) (ea_cons (vr 5 rfl) (ea_cons (vr 6 rfl) (ea_cons (ev_call D_cell (hr.mono (by decide)) rfl (ea_cons (vr 0 rfl) (ea_cons ev_int ea_nil)) (cell _ (by decide)) (by decide)) ea_nil)))))) ⟨nM ns, drM ns, (stM ns).1, (stM ns).2, cellM ns 6, b.1, b.2.1, b.2.2, rfl, hgs, hcb, ga, rfl⟩ (by decide)))) rfl) (fun h => nomatch h) (fun _ => x_nil rfl))
  intro G' hG'
  cases hG'
  refine x_cons (s_if (t := false) (eb_is (eb_not (eb_val (ev_call D_seen (hr.mono (by decide)) rfl (ea_cons (vr 2 rfl) (ea_cons (vr 3 rfl) (ea_cons (vr 4 rfl) (ea_cons (vr 5 rfl) (ea_cons (vr 6 rfl) (ea_cons (vr 7 rfl) ea_nil)))))) ⟨nM ns, drM ns, (stM ns).1, (stM ns).2, rfl, L.sn, rfl⟩ (by decide)))) rfl) (fun hc => ?_) (fun hc => ?_))
  · cases hc
  refine x_nil ?_
  have hdok : ∀ d ∈ (drM ns).map encDr, EqOk d := fun d hd => by
    obtain ⟨x, hx, rfl⟩ := List.mem_map.mp hd
    exact eqOk_Dr fun c hc => by rcases (L.hi.ok x hx).2.2.2.1 c hc with rfl | rfl <;> decide
  have hpd := (eqOk_all _ hdok).1
  have hsh := shaped_list hdok
  refine x_one (s_ret (d := .bl true) (ev_is (EvB.v (ew_b (ew_and (eb_val (ev_call D_isst (hr.mono (by decide)) rfl (ea_cons (vr 7 rfl) (ea_cons (vr 4 rfl) (ea_cons (vr 5 rfl) ea_nil))) ⟨(stM ns).1, (stM ns).2, rfl, by omega, by omega, rfl⟩ (by decide))) (fun _ => (ew_and (eb_eq (fld_rooms T' (vr 6 rfl)) (vr 2 rfl)) (fun _ => (ew_and1 (eb_is (eb_eqLL hr.units (en_p (en_listT (fld_doors T' (vr 6 rfl)) rfl (by rfl) T'.list)) (ev_p (vr 3 rfl)) hpd hpd hsh hsh) (eqv_Dr _))))))))) (by simp)) rfl)
end
end DT

set_option Elab.async false
set_option linter.all false
set_option maxRecDepth 100000
namespace DT
/-! ### trees -/
def Rm (n : Nat) (v : Int) : Prop := 0 ≤ v ∧ v < n
def Joins (dr : List Door) (d u v : Int) : Prop := (0 ≤ d ∧ d < dr.length) ∧ (((ix dr d).1 = u ∧ (ix dr d).2.1 = v) ∨ ((ix dr d).1 = v ∧ (ix dr d).2.1 = u))
theorem Joins.symm {dr : List Door} {d u v : Int} (h : Joins dr d u v) : Joins dr d v u := ⟨h.1, h.2.symm⟩
theorem Joins.two {dr : List Door} {d a b x y : Int} (h : Joins dr d a b) (k : Joins dr d x y) : (x = a ∧ y = b) ∨ (x = b ∧ y = a) := by
  obtain ⟨_, h⟩ := h
  obtain ⟨_, k⟩ := k
  omega
inductive Chain (pa : Int → Int) (r : Int) : Nat → Int → Prop
  | root : Chain pa r 0 r
  | up {k : Nat} {v : Int} : v ≠ r → Chain pa r k (pa v) → Chain pa r (k + 1) v
theorem Chain.uniq {pa : Int → Int} {r : Int} : ∀ {k j : Nat} {v : Int}, Chain pa r k v → Chain pa r j v → k = j
  | _, _, _, .root, .root => rfl
  | _, _, _, .root, .up h _ => absurd rfl h
  | _, _, _, .up h _, .root => absurd rfl h
  | _, _, _, .up _ a, .up _ b => congrArg (· + 1) (Chain.uniq a b)
structure Rooted (n : Nat) (dr : List Door) (r : Int) (pd pa : Int → Int) : Prop where
  rr : Rm n r
  jn : ∀ v, Rm n v → v ≠ r → Joins dr (pd v) v (pa v) ∧ Rm n (pa v)
  inj : ∀ v w, Rm n v → Rm n w → v ≠ r → w ≠ r → pd v = pd w → v = w
  on : ∀ d : Int, 0 ≤ d → d < dr.length → ∃ v, Rm n v ∧ v ≠ r ∧ pd v = d
  ch : ∀ v, Rm n v → ∃ k, Chain pa r k v
/-- the root goes to a child -/
theorem Rooted.move {n : Nat} {dr : List Door} {r c : Int} {pd pa : Int → Int} (h : Rooted n dr r pd pa) (hc : Rm n c) (hcr : c ≠ r) (hp : pa c = r) :
    Rooted n dr c (fun v => if v = r then pd c else pd v) (fun v => if v = r then c else pa v) where
  rr := hc
  jn := fun v hv hvc => by
    by_cases e : v = r
    · subst e
      rw [if_pos rfl, if_pos rfl]
      have := (h.jn c hc hcr).1
      rw [hp] at this
      exact ⟨this.symm, hc⟩
    · rw [if_neg e, if_neg e]
      exact h.jn v hv e
  inj := fun v w hv hw hvc hwc e => by
    by_cases e1 : v = r <;> by_cases e2 : w = r
    · rw [e1, e2]
    · rw [if_pos e1, if_neg e2] at e
      exact absurd (h.inj c w hc hw hcr e2 e).symm hwc
    · rw [if_neg e1, if_pos e2] at e
      exact absurd (h.inj v c hv hc e1 hcr e) hvc
    · rw [if_neg e1, if_neg e2] at e
      exact h.inj v w hv hw e1 e2 e
  on := fun d d0 d1 => by
    obtain ⟨v, hv, hvr, e⟩ := h.on d d0 d1
    by_cases ec : v = c
    · exact ⟨r, h.rr, fun z => hcr z.symm, by rw [if_pos rfl, ← ec]; exact e⟩
    · exact ⟨v, hv, ec, by rw [if_neg hvr]; exact e⟩
  ch := fun v hv => by
    obtain ⟨k, hk⟩ := h.ch v hv
    clear hv
    induction hk with
    | root => exact ⟨1, .up (fun z => hcr z.symm) (by rw [if_pos rfl]; exact .root)⟩
    | @up k v hvr _ ih =>
      obtain ⟨j, hj⟩ := ih
      by_cases ec : v = c
      · rw [ec]; exact ⟨0, .root⟩
      · exact ⟨j + 1, .up ec (by rw [if_neg hvr]; exact hj)⟩
theorem Rooted.pa_rm {n : Nat} {dr : List Door} {r v : Int} {pd pa : Int → Int} (h : Rooted n dr r pd pa) (hv : Rm n v) (hr : v ≠ r) : Rm n (pa v) := (h.jn v hv hr).2
/-- every room may be the root -/
theorem Rooted.all {n : Nat} {dr : List Door} {r : Int} {pd pa : Int → Int} (h : Rooted n dr r pd pa) : ∀ v, Rm n v → ∃ pd' pa', Rooted n dr v pd' pa' := by
  intro v hv
  obtain ⟨k, hk⟩ := h.ch v hv
  induction hk with
  | root => exact ⟨pd, pa, h⟩
  | @up k v hvr _ ih =>
    obtain ⟨pd1, pa1, h1⟩ := ih (h.pa_rm hv hvr)
    have jv := (h.jn v hv hvr).1
    obtain ⟨x, hx, hxu, hpx⟩ := h1.on (pd v) jv.1.1 jv.1.2
    have jx := (h1.jn x hx hxu).1
    rw [hpx] at jx
    rcases jv.two jx with ⟨e1, e2⟩ | ⟨e1, e2⟩
    · subst e1
      exact ⟨_, _, h1.move hx hxu e2⟩
    · exact absurd e1 hxu
structure Tree (n : Nat) (dr : List Door) : Prop where
  n1 : 1 ≤ n
  n2 : n ≤ 100
  len : dr.length = n - 1
  ends : EndsOk n dr
  ne : ∀ d ∈ dr, d.1 ≠ d.2.1
  rt : ∀ r, Rm n r → ∃ pd pa, Rooted n dr r pd pa
/-! ### the subtree -/
inductive Under (pa : Int → Int) (r c : Int) : Int → Prop
  | self : Under pa r c c
  | up {v : Int} : v ≠ r → v ≠ c → Under pa r c (pa v) → Under pa r c v
theorem Under.pa {pa : Int → Int} {r c v : Int} (h1 : v ≠ r) (h2 : v ≠ c) : Under pa r c v ↔ Under pa r c (pa v) :=
  ⟨fun h => by cases h with
    | self => exact absurd rfl h2
    | up _ _ h => exact h, fun h => .up h1 h2 h⟩
theorem Under.chain {pa : Int → Int} {r c : Int} : ∀ {v : Int}, Under pa r c v → ∀ {k : Nat}, Chain pa r k v → ∃ j, j ≤ k ∧ Chain pa r j c
  | _, .self, k, h => ⟨k, Nat.le_refl _, h⟩
  | _, .up hr _ u, k, h => by
    cases h with
    | root => exact absurd rfl hr
    | up _ h =>
      obtain ⟨j, h1, h2⟩ := Under.chain u h
      exact ⟨j, by omega, h2⟩
theorem Rooted.not_under {n : Nat} {dr : List Door} {r c : Int} {pd pa : Int → Int} (h : Rooted n dr r pd pa) (hc : Rm n c) (hr : c ≠ r) : ¬ Under pa r c (pa c) := fun u => by
  obtain ⟨k, hk⟩ := h.ch (pa c) (h.pa_rm hc hr)
  obtain ⟨j, h1, h2⟩ := u.chain hk
  have := h2.uniq (.up hr hk)
  omega
/-! ### every door is chosen -/
theorem ix_rng {n : Nat} {v : Int} (h : Rm n v) : ix (rng n) v = v := by
  have e : (rng n)[v.toNat]? = some v := by
    unfold rng
    rw [List.getElem?_map, List.getElem?_range (by have := h.1; have := h.2; omega)]
    show some ((v.toNat : Nat) : Int) = some v
    rw [Int.toNat_of_nonneg h.1]
  have := ix_of e
  rw [Int.toNat_of_nonneg h.1] at this
  exact this
theorem rng_succ (k : Nat) : rng (k + 1) = rng k ++ [(k : Int)] := by
  unfold rng
  rw [List.range_succ, List.map_append]; rfl
theorem Tree.chosen {n : Nat} {dr : List Door} {r : Int} {pd pa : Int → Int} (hE : EndsOk n dr) (h : Rooted n dr r pd pa) : ∀ k : Nat, k ≤ dr.length →
    (treeRun n dr k).2 = rng k ∧ ∀ c, Rm n c → c ≠ r → (k : Int) ≤ pd c → ∀ v w, Rm n v → Rm n w → ix (treeRun n dr k).1 v = ix (treeRun n dr k).1 w → (Under pa r c v ↔ Under pa r c w)
  | 0, _ => ⟨rfl, fun c _ _ _ v w hv hw e => by
      have e' : ix (rng n) v = ix (rng n) w := e
      rw [ix_rng hv, ix_rng hw] at e'
      rw [e']⟩
  | k + 1, hk => by
    obtain ⟨ih1, ih2⟩ := Tree.chosen hE h k (by omega)
    have hll := treeRun_len n dr k
    obtain ⟨c0, hc0, hr0, hp0⟩ := h.on (k : Int) (by omega) (by omega)
    have jc := (h.jn c0 hc0 hr0).1
    rw [hp0] at jc
    have nu := h.not_under hc0 hr0
    have hpc := h.pa_rm hc0 hr0
    obtain ⟨d1, d2, d3, d4⟩ := hE _ (mem_ix (xs := dr) (k := (k : Int)) (by omega) (by omega))
    have hA : Rm n (ix dr (k : Int)).1 := ⟨d1, d2⟩
    have hB : Rm n (ix dr (k : Int)).2.1 := ⟨d3, d4⟩
    have hne : ¬ ix (treeRun n dr k).1 (ix dr (k : Int)).1 = ix (treeRun n dr k).1 (ix dr (k : Int)).2.1 := fun e => by
      have q := ih2 c0 hc0 hr0 (by omega) _ _ hA hB e
      rcases jc.2 with ⟨e1, e2⟩ | ⟨e1, e2⟩
      · rw [e1, e2] at q; exact nu (q.mp .self)
      · rw [e1, e2] at q; exact nu (q.mpr .self)
    have hst : treeRun n dr (k + 1) = ((treeRun n dr k).1.map (fun l => if l = ix (treeRun n dr k).1 (ix dr (k : Int)).2.1 then ix (treeRun n dr k).1 (ix dr (k : Int)).1 else l), (treeRun n dr k).2 ++ [(k : Int)]) := by
      show treeStep dr (treeRun n dr k) k = _
      unfold treeStep
      rw [if_neg hne]
    rw [hst]
    generalize hl : (treeRun n dr k).1 = l at *
    refine ⟨by rw [ih1, rng_succ], fun c hc hcr hpd v w hv hw e => ?_⟩
    have hcc : c ≠ c0 := fun z => by rw [z, hp0] at hpd; omega
    have hfs : Under pa r c (ix dr (k : Int)).1 ↔ Under pa r c (ix dr (k : Int)).2.1 := by
      have q := Under.pa (pa := pa) (r := r) (c := c) hr0 (fun z => hcc z.symm)
      rcases jc.2 with ⟨e1, e2⟩ | ⟨e1, e2⟩
      · rw [e1, e2]; exact q
      · rw [e1, e2]; exact q.symm
    have I := ih2 c hc hcr (by omega)
    have lv : ∀ x, Rm n x → ix (l.map (fun y => if y = ix l (ix dr (k : Int)).2.1 then ix l (ix dr (k : Int)).1 else y)) x = if ix l x = ix l (ix dr (k : Int)).2.1 then ix l (ix dr (k : Int)).1 else ix l x := fun x hx => ix_map hx.1 (by have := hx.2; omega)
    rw [lv v hv, lv w hw] at e
    by_cases ev : ix l v = ix l (ix dr (k : Int)).2.1 <;> by_cases ew : ix l w = ix l (ix dr (k : Int)).2.1
    · exact (I v _ hv hB ev).trans (I w _ hw hB ew).symm
    · rw [if_pos ev, if_neg ew] at e
      exact ((I v _ hv hB ev).trans hfs.symm).trans (I _ w hA hw e)
    · rw [if_neg ev, if_pos ew] at e
      exact (I v _ hv hA e).trans (hfs.trans (I w _ hw hB ew).symm)
    · rw [if_neg ev, if_neg ew] at e
      exact I v w hv hw e
theorem tree_all {n : Nat} {dr : List Door} {r : Int} {pd pa : Int → Int} (hE : EndsOk n dr) (h : Rooted n dr r pd pa) : treeDoorsM n dr = rng dr.length := (Tree.chosen hE h dr.length (Nat.le_refl _)).1
/-! ### counting -/
theorem count_all : ∀ (n : Nat) (l : List Int), (∀ v, Rm n v → v ∈ l) → n ≤ l.length
  | 0, l, _ => Nat.zero_le _
  | n + 1, l, h => by
    have hm := h (n : Int) ⟨by omega, by omega⟩
    have h2 := count_all n (l.erase (n : Int)) fun v hv => (List.mem_erase_of_ne (by have := hv.2; omega)).mpr (h v ⟨hv.1, by have := hv.2; omega⟩)
    rw [List.length_erase_of_mem hm] at h2
    have := List.length_pos_of_mem hm
    omega
theorem count_nodup : ∀ (n : Nat) (l : List Int), l.Nodup → (∀ v ∈ l, Rm n v) → l.length ≤ n
  | 0, [], _, _ => Nat.le_refl _
  | 0, v :: l, _, h => by
    have := h v List.mem_cons_self
    unfold Rm at this
    omega
  | n + 1, l, hd, h => by
    by_cases hm : (n : Int) ∈ l
    · have h2 := count_nodup n (l.erase (n : Int)) (hd.erase _) fun v hv => by
        have h3 := h v (List.mem_of_mem_erase hv)
        have h4 : v ≠ (n : Int) := fun z => by
          rw [z] at hv
          exact (List.Nodup.not_mem_erase hd) hv
        exact ⟨h3.1, by have := h3.2; omega⟩
      rw [List.length_erase_of_mem hm] at h2
      omega
    · have h2 := count_nodup n l hd fun v hv => by
        have h3 := h v hv
        have h4 : v ≠ (n : Int) := fun z => hm (z ▸ hv)
        exact ⟨h3.1, by have := h3.2; omega⟩
      omega
/-- a chain is shorter than the rooms -/
theorem chain_short {n : Nat} {dr : List Door} {r : Int} {pd pa : Int → Int} (h : Rooted n dr r pd pa) : ∀ {k : Nat} {v : Int}, Rm n v → Chain pa r k v → k < n := by
  have key : ∀ {k : Nat} {v : Int}, Rm n v → Chain pa r k v → ∃ l : List Int, l.length = k + 1 ∧ l.Nodup ∧ ∀ w ∈ l, Rm n w ∧ ∃ j, j ≤ k ∧ Chain pa r j w := by
    intro k v hv hc
    induction hc with
    | root => exact ⟨[r], rfl, by simp, fun w hw => by simp at hw; rw [hw]; exact ⟨h.rr, 0, Nat.le_refl _, .root⟩⟩
    | @up k v hvr hc ih =>
      obtain ⟨l, h1, h2, h3⟩ := ih (h.pa_rm hv hvr)
      refine ⟨v :: l, by rw [List.length_cons, h1], List.nodup_cons.mpr ⟨fun hm => ?_, h2⟩, fun w hw => ?_⟩
      · obtain ⟨_, j, hj, hcj⟩ := h3 v hm
        have := hcj.uniq (.up hvr hc)
        omega
      · rcases List.mem_cons.mp hw with rfl | hw
        · exact ⟨hv, k + 1, Nat.le_refl _, .up hvr hc⟩
        · obtain ⟨h4, j, hj, hcj⟩ := h3 w hw
          exact ⟨h4, j, by omega, hcj⟩
  intro k v hv hc
  obtain ⟨l, h1, h2, h3⟩ := key hv hc
  have := count_nodup n l h2 fun w hw => (h3 w hw).1
  omega
end DT

set_option Elab.async false
set_option linter.all false
set_option maxRecDepth 100000
namespace DT
theorem ix_set {α : Type} [Inhabited α] {n : Nat} {l : List α} {x v : Int} {a : α} (hl : l.length = n) (hx : Rm n x) (hv : Rm n v) : ix (l.set x.toNat a) v = if v = x then a else ix l v := by
  have h1 := hx.1
  have h2 := hx.2
  have h3 := hv.1
  have h4 := hv.2
  by_cases e : v = x
  · subst e
    rw [if_pos rfl]
    have := ix_of (xs := l.set v.toNat a) (i := v.toNat) (x := a) (List.getElem?_set_self (by omega))
    rw [Int.toNat_of_nonneg hv.1] at this
    exact this
  · rw [if_neg e]
    unfold ix
    rw [List.getD_eq_getElem?_getD, List.getD_eq_getElem?_getD, List.getElem?_set_ne (by omega)]
structure OB (n : Nat) (dr : List Door) (r : Int) (pd pa : Int → Int) (st : OrdSt) : Prop where
  fl : st.1.length = n
  fd : ∀ v, Rm n v → (ix st.1 v = true ↔ v ∈ st.2.1)
  rm : ∀ v ∈ st.2.1, Rm n v
  nd : st.2.1.Nodup
  ro : st.2.1 = r :: st.2.2.map (·.1)
  en : ∀ (i : Nat) (o : Int × Int × Int), st.2.2[i]? = some o → o.1 ≠ r ∧ o.2.1 = pd o.1 ∧ o.2.2 = pa o.1 ∧ o.2.2 ∈ r :: (st.2.2.take i).map (·.1)
theorem OB.par {n : Nat} {dr : List Door} {r v : Int} {pd pa : Int → Int} {st : OrdSt} (b : OB n dr r pd pa st) (hv : v ∈ st.2.1) (hr : v ≠ r) : pa v ∈ st.2.1 := by
  rw [b.ro] at hv ⊢
  rcases List.mem_cons.mp hv with e | hv
  · exact absurd e hr
  · obtain ⟨o, ho, rfl⟩ := List.mem_map.mp hv
    obtain ⟨i, hi⟩ := List.mem_iff_getElem?.mp ho
    obtain ⟨_, _, h3, h4⟩ := b.en i o hi
    rw [← h3]
    rcases List.mem_cons.mp h4 with e | h4
    · rw [e]; exact List.mem_cons_self
    · refine List.mem_cons_of_mem _ ?_
      obtain ⟨o2, h5, h6⟩ := List.mem_map.mp h4
      exact List.mem_map.mpr ⟨o2, List.mem_of_mem_take h5, h6⟩
def Cl (n : Nat) (r : Int) (pa : Int → Int) (k : Nat) (rooms : List Int) : Prop := ∀ (i : Nat) (p : Int), i < k → rooms[i]? = some p → ∀ v, Rm n v → v ≠ r → pa v = p → v ∈ rooms
theorem OB.step {n : Nat} {dr : List Door} {r par : Int} {pd pa : Int → Int} {st : OrdSt} (h : Rooted n dr r pd pa) (b : OB n dr r pd pa st) (hp : par ∈ st.2.1) {d : Int} (d0 : 0 ≤ d) (d1 : d < dr.length) :
    OB n dr r pd pa (ordIn dr par st d) ∧ (∃ z, (ordIn dr par st d).2.1 = st.2.1 ++ z) ∧ ∀ v, Rm n v → v ≠ r → pa v = par → pd v = d → v ∈ (ordIn dr par st d).2.1 := by
  obtain ⟨c, hc, hcr, hpc⟩ := h.on d d0 d1
  have jc := (h.jn c hc hcr).1
  rw [hpc] at jc
  have hrm : Rm n (pa c) := h.pa_rm hc hcr
  have hpar := b.rm par hp
  have hr : r ∈ st.2.1 := by rw [b.ro]; exact List.mem_cons_self
  by_cases hcond : ((ix dr d).1 = par ∨ (ix dr d).2.1 = par) ∧ ix st.1 ((ix dr d).1 + (ix dr d).2.1 - par) = false
  · have e : ordIn dr par st d = (st.1.set ((ix dr d).1 + (ix dr d).2.1 - par).toNat true, st.2.1 ++ [(ix dr d).1 + (ix dr d).2.1 - par], st.2.2 ++ [((ix dr d).1 + (ix dr d).2.1 - par, d, par)]) := by
      unfold ordIn; rw [if_pos hcond]
    obtain ⟨hc1, hc2⟩ := hcond
    have jx : Joins dr d par ((ix dr d).1 + (ix dr d).2.1 - par) := ⟨jc.1, by omega⟩
    generalize hx : (ix dr d).1 + (ix dr d).2.1 - par = x at *
    have hxr : Rm n x := by
      rcases jc.two jx with ⟨e1, e2⟩ | ⟨e1, e2⟩
      · rw [e2]; exact hrm
      · rw [e2]; exact hc
    have hxn : x ∉ st.2.1 := fun z => by rw [(b.fd x hxr).mpr z] at hc2; cases hc2
    have hcx : c = x ∧ pa c = par := by
      rcases jc.two jx with ⟨e1, e2⟩ | ⟨e1, e2⟩
      · exfalso
        have hpr : par ≠ r := by rw [e1]; exact hcr
        have := b.par hp hpr
        rw [e1, ← e2] at this
        exact hxn this
      · exact ⟨e2.symm, e1.symm⟩
    obtain ⟨rfl, hpac⟩ := hcx
    rw [e]
    refine ⟨⟨by rw [List.length_set]; exact b.fl, fun v hv => ?_, fun v hv => ?_, ?_, ?_, fun i o ho => ?_⟩, ⟨_, rfl⟩, fun v hv hvr hpv hpd => ?_⟩
    · show ix (st.1.set c.toNat true) v = true ↔ v ∈ st.2.1 ++ [c]
      rw [ix_set b.fl hxr hv]
      by_cases ev : v = c
      · rw [if_pos ev]; simp [ev]
      · rw [if_neg ev, b.fd v hv]; simp [ev]
    · rcases List.mem_append.mp hv with hv | hv
      · exact b.rm v hv
      · have : v = c := by simpa using hv
        rw [this]; exact hxr
    · show (st.2.1 ++ [c]).Nodup
      rw [List.nodup_append]
      exact ⟨b.nd, by simp, fun a ha b' hb' => by
        have : b' = c := by simpa using hb'
        rw [this]; exact fun z => hxn (z ▸ ha)⟩
    · show st.2.1 ++ [c] = r :: (st.2.2 ++ [(c, d, par)]).map (·.1)
      rw [List.map_append, b.ro]; rfl
    · show o.1 ≠ r ∧ o.2.1 = pd o.1 ∧ o.2.2 = pa o.1 ∧ o.2.2 ∈ r :: ((st.2.2 ++ [(c, d, par)]).take i).map (·.1)
      have ho' : (st.2.2 ++ [(c, d, par)])[i]? = some o := ho
      by_cases hi : i < st.2.2.length
      · rw [List.getElem?_append_left hi] at ho'
        rw [List.take_append_of_le_length (by omega)]
        exact b.en i o ho'
      · rw [List.getElem?_append_right (by omega)] at ho'
        have hi0 : i - st.2.2.length = 0 := by
          have := (List.getElem?_eq_some_iff.mp ho').1
          simpa using this
        rw [hi0] at ho'
        have : o = (c, d, par) := by simpa using ho'.symm
        subst this
        refine ⟨hcr, hpc.symm, hpac.symm, ?_⟩
        rw [show i = st.2.2.length by omega, List.take_left, ← b.ro]
        exact hp
    · show v ∈ st.2.1 ++ [c]
      have : v = c := h.inj v c hv hc hvr hcr (by rw [hpd, hpc])
      rw [this]; simp
  · have e : ordIn dr par st d = st := by unfold ordIn; rw [if_neg hcond]
    rw [e]
    refine ⟨b, ⟨[], by simp⟩, fun v hv hvr hpv hpd => ?_⟩
    have hvc : v = c := h.inj v c hv hc hvr hcr (by rw [hpd, hpc])
    subst hvc
    rw [hpv] at jc
    have h1 : (ix dr d).1 + (ix dr d).2.1 - par = v := by have := jc.2; omega
    have h2 : (ix dr d).1 = par ∨ (ix dr d).2.1 = par := by have := jc.2; omega
    rw [h1] at hcond
    rw [← b.fd v hv]
    cases hf : ix st.1 v with
    | true => rfl
    | false => exact absurd ⟨h2, hf⟩ hcond
theorem OB.fold {n : Nat} {dr : List Door} {r par : Int} {pd pa : Int → Int} {st : OrdSt} (h : Rooted n dr r pd pa) (b : OB n dr r pd pa st) (hp : par ∈ st.2.1) : ∀ m : Nat, m ≤ dr.length →
    OB n dr r pd pa ((rng m).foldl (ordIn dr par) st) ∧ (∃ z, ((rng m).foldl (ordIn dr par) st).2.1 = st.2.1 ++ z) ∧ ∀ v, Rm n v → v ≠ r → pa v = par → pd v < m → v ∈ ((rng m).foldl (ordIn dr par) st).2.1
  | 0, _ => ⟨b, ⟨[], by simp [rng]⟩, fun v hv hvr hpv hpd => by
      have := (h.jn v hv hvr).1.1.1
      omega⟩
  | m + 1, hm => by
    obtain ⟨b1, ⟨z, hz⟩, c1⟩ := OB.fold h b hp m (by omega)
    have hp1 : par ∈ ((rng m).foldl (ordIn dr par) st).2.1 := by rw [hz]; exact List.mem_append_left _ hp
    obtain ⟨b2, ⟨z2, hz2⟩, c2⟩ := b1.step h hp1 (d := (m : Int)) (by omega) (by omega)
    rw [rng_succ, List.foldl_append]
    refine ⟨b2, ⟨z ++ z2, ?_⟩, fun v hv hvr hpv hpd => ?_⟩
    · show (ordIn dr par _ _).2.1 = _
      rw [hz2, hz, List.append_assoc]
    · show v ∈ (ordIn dr par _ _).2.1
      by_cases e : pd v = m
      · exact c2 v hv hvr hpv e
      · rw [hz2]
        exact List.mem_append_left _ (c1 v hv hvr hpv (by omega))
theorem OB.full {n : Nat} {dr : List Door} {r : Int} {pd pa : Int → Int} {st : OrdSt} {k : Nat} (h : Rooted n dr r pd pa) (b : OB n dr r pd pa st) (c : Cl n r pa k st.2.1) (hk : st.2.1.length ≤ k) : ∀ v, Rm n v → v ∈ st.2.1 := by
  intro v hv
  obtain ⟨j, hj⟩ := h.ch v hv
  induction hj with
  | root => rw [b.ro]; exact List.mem_cons_self
  | @up j v hvr _ ih =>
    have hm := ih (h.pa_rm hv hvr)
    obtain ⟨i, hi⟩ := List.mem_iff_getElem?.mp hm
    exact c i _ (by have := (List.getElem?_eq_some_iff.mp hi).1; omega) hi v hv hvr rfl
theorem ordRun_ok {n : Nat} {dr : List Door} {r : Int} {pd pa : Int → Int} (hE : EndsOk n dr) (h : Rooted n dr r pd pa) : ∀ k : Nat, k ≤ n → OB n dr r pd pa (ordRun n dr r k) ∧ Cl n r pa k (ordRun n dr r k).2.1
  | 0, _ => by
    refine ⟨⟨by simp [ordRun, iter, ord0, rng], fun v hv => ?_, fun v hv => ?_, ?_, rfl, fun i o ho => ?_⟩, fun i p hi => by omega⟩
    · show ix ((rng n).map fun v => decide (v = r)) v = true ↔ v ∈ [r]
      rw [ix_map hv.1 (by unfold rng; simp; exact hv.2), ix_rng hv]
      simp
    · have : v = r := by
        have hv' : v ∈ [r] := hv
        simpa using hv'
      rw [this]; exact h.rr
    · show [r].Nodup
      simp
    · have ho' : ([] : List (Int × Int × Int))[i]? = some o := ho
      simp at ho'
  | k + 1, hk => by
    obtain ⟨b, c⟩ := ordRun_ok hE h k (by omega)
    have hlt : k < (ordRun n dr r k).2.1.length := by
      refine Nat.lt_of_not_le fun hle => ?_
      have := count_all n _ (b.full h c hle)
      omega
    have hp : ix (ordRun n dr r k).2.1 (k : Int) ∈ (ordRun n dr r k).2.1 := mem_ix (by omega) (by omega)
    have e : ordRun n dr r (k + 1) = (rng dr.length).foldl (ordIn dr (ix (ordRun n dr r k).2.1 (k : Int))) (ordRun n dr r k) := by
      show ordOut dr (treeDoorsM n dr) (ordRun n dr r k) k = _
      unfold ordOut
      rw [tree_all hE h]
    obtain ⟨b1, ⟨z, hz⟩, c1⟩ := b.fold h hp dr.length (Nat.le_refl _)
    rw [e]
    refine ⟨b1, fun i p hi hip v hv hvr hpv => ?_⟩
    rw [hz] at hip
    rw [List.getElem?_append_left (by omega)] at hip
    by_cases hik : i = k
    · subst hik
      have : p = ix (ordRun n dr r i).2.1 (i : Int) := (ix_of hip).symm
      rw [this] at hpv
      exact c1 v hv hvr hpv (h.jn v hv hvr).1.1.2
    · rw [hz]
      exact List.mem_append_left _ (c i p (by omega) hip v hv hvr hpv)
theorem ord_ok {n : Nat} {dr : List Door} {r : Int} {pd pa : Int → Int} (hE : EndsOk n dr) (h : Rooted n dr r pd pa) : OrdOk n dr r := fun k hk => by
  obtain ⟨b, c⟩ := ordRun_ok hE h k (by omega)
  refine Nat.lt_of_not_le fun hle => ?_
  have := count_all n _ (b.full h c hle)
  omega
/-- the order: every room but the root once, behind its parent -/
theorem order_ok {n : Nat} {dr : List Door} {r : Int} {pd pa : Int → Int} (hE : EndsOk n dr) (h : Rooted n dr r pd pa) :
    (∀ v, Rm n v → v ≠ r → v ∈ (orderM n dr r).map (·.1)) ∧ (r :: (orderM n dr r).map (·.1)).Nodup ∧ (∀ o ∈ orderM n dr r, Rm n o.1) ∧
    ∀ (i : Nat) (o : Int × Int × Int), (orderM n dr r)[i]? = some o → o.1 ≠ r ∧ o.2.1 = pd o.1 ∧ o.2.2 = pa o.1 ∧ o.2.2 ∈ r :: ((orderM n dr r).take i).map (·.1) := by
  obtain ⟨b, c⟩ := ordRun_ok hE h n (Nat.le_refl _)
  have hle := count_nodup n _ b.nd b.rm
  have full := b.full h c hle
  have ro := b.ro
  refine ⟨fun v hv hvr => ?_, ?_, fun o ho => ?_, b.en⟩
  · have := full v hv
    rw [ro] at this
    exact (List.mem_cons.mp this).resolve_left hvr
  · show (r :: (ordRun n dr r n).2.2.map (·.1)).Nodup
    rw [← ro]; exact b.nd
  · refine b.rm _ ?_
    rw [ro]
    exact List.mem_cons_of_mem _ (List.mem_map.mpr ⟨o, ho, rfl⟩)
end DT

set_option Elab.async false
set_option linter.all false
set_option maxRecDepth 100000
namespace DT
/-! ### distances along usable doors -/
structure Sp (n : Nat) (s : Int) (pd pa : Int → Int) (us : Int → Bool) (f : Int → Int) : Prop where
  z : f s = 0
  st : ∀ v, Rm n v → v ≠ s → f v = if us (pd v) = true ∧ 0 ≤ f (pa v) then f (pa v) + 1 else -1
theorem Sp.uniq {n : Nat} {dr : List Door} {s : Int} {pd pa : Int → Int} {us : Int → Bool} {f g : Int → Int} (h : Rooted n dr s pd pa) (a : Sp n s pd pa us f) (b : Sp n s pd pa us g) : ∀ v, Rm n v → f v = g v := by
  intro v hv
  obtain ⟨j, hj⟩ := h.ch v hv
  induction hj with
  | root => rw [a.z, b.z]
  | @up j v hvr _ ih => rw [a.st v hv hvr, b.st v hv hvr, ih (h.pa_rm hv hvr)]
theorem Sp.ge {n : Nat} {dr : List Door} {s : Int} {pd pa : Int → Int} {us : Int → Bool} {f : Int → Int} (h : Rooted n dr s pd pa) (a : Sp n s pd pa us f) {v : Int} (hv : Rm n v) : -1 ≤ f v := by
  by_cases e : v = s
  · rw [e, a.z]; decide
  · rw [a.st v hv e]
    split <;> omega
theorem Sp.chain {n : Nat} {dr : List Door} {s : Int} {pd pa : Int → Int} {us : Int → Bool} {f : Int → Int} (h : Rooted n dr s pd pa) (a : Sp n s pd pa us f) : ∀ {k : Nat} {v : Int}, Rm n v → Chain pa s k v → f v ≤ k := by
  intro k v hv hc
  induction hc with
  | root => rw [a.z]; decide
  | @up k v hvr _ ih =>
    have := ih (h.pa_rm hv hvr)
    rw [a.st v hv hvr]
    split <;> omega
theorem Sp.lt {n : Nat} {dr : List Door} {s : Int} {pd pa : Int → Int} {us : Int → Bool} {f : Int → Int} (h : Rooted n dr s pd pa) (a : Sp n s pd pa us f) {v : Int} (hv : Rm n v) : f v < n := by
  obtain ⟨k, hk⟩ := h.ch v hv
  have h1 := a.chain h hv hk
  have h2 := chain_short h hv hk
  omega
theorem Sp.full {n : Nat} {dr : List Door} {s : Int} {pd pa : Int → Int} {us : Int → Bool} {f : Int → Int} (h : Rooted n dr s pd pa) (a : Sp n s pd pa us f) (hu : ∀ d : Int, 0 ≤ d → d < dr.length → us d = true) : ∀ {k : Nat} {v : Int}, Rm n v → Chain pa s k v → f v = k := by
  intro k v hv hc
  induction hc with
  | root => rw [a.z]; rfl
  | @up k v hvr _ ih =>
    have e := ih (h.pa_rm hv hvr)
    have j := (h.jn v hv hvr).1.1
    rw [a.st v hv hvr, if_pos ⟨hu _ j.1 j.2, by omega⟩, e]
    omega
/-- two ends of a usable door -/
theorem Sp.adj {n : Nat} {dr : List Door} {s : Int} {pd pa : Int → Int} {us : Int → Bool} {f : Int → Int} (h : Rooted n dr s pd pa) (a : Sp n s pd pa us f) {d x y : Int} (j : Joins dr d x y) (hu : us d = true) : 0 ≤ f x ↔ 0 ≤ f y := by
  obtain ⟨c, hc, hcr, hpc⟩ := h.on d j.1.1 j.1.2
  have jc := (h.jn c hc hcr).1
  rw [hpc] at jc
  have key : 0 ≤ f c ↔ 0 ≤ f (pa c) := by
    rw [a.st c hc hcr, hpc]
    by_cases hp : 0 ≤ f (pa c)
    · rw [if_pos ⟨hu, hp⟩]; omega
    · rw [if_neg (fun z => hp z.2)]; omega
  rcases jc.two j with ⟨e1, e2⟩ | ⟨e1, e2⟩
  · rw [e1, e2]; exact key
  · rw [e1, e2]; exact key.symm
/-! ### the queue -/
structure DB (n : Nat) (dr : List Door) (s : Int) (pd pa : Int → Int) (us : Int → Bool) (st : DSt) : Prop where
  fl : st.1.length = n
  ms : s ∈ st.2
  z : ix st.1 s = 0
  rm : ∀ v ∈ st.2, Rm n v
  nd : st.2.Nodup
  inn : ∀ v, v ∈ st.2 → 0 ≤ ix st.1 v
  out : ∀ v, Rm n v → v ∉ st.2 → ix st.1 v = -1
  up : ∀ v, v ∈ st.2 → v ≠ s → us (pd v) = true ∧ pa v ∈ st.2 ∧ ix st.1 v = ix st.1 (pa v) + 1
def ClU (n : Nat) (s : Int) (pd pa : Int → Int) (us : Int → Bool) (k : Nat) (q : List Int) : Prop := ∀ (i : Nat) (p : Int), i < k → q[i]? = some p → ∀ v, Rm n v → v ≠ s → pa v = p → us (pd v) = true → v ∈ q
theorem DB.step {n : Nat} {dr : List Door} {s : Int} {pd pa : Int → Int} {us : List Bool} {st : DSt} {k d : Nat} (hE : EndsOk n dr) (h : Rooted n dr s pd pa) (b : DB n dr s pd pa (fun d => ix us d) st) (hk : k < st.2.length) (hd : d < dr.length) (t : Nat) :
    DB n dr s pd pa (fun d => ix us d) (dTurn dr us k d st t) ∧ (∃ z, (dTurn dr us k d st t).2 = st.2 ++ z) ∧ (ix us (d : Int) = true → sideA (ix dr (d : Int)) t = ix st.2 (k : Int) → sideB (ix dr (d : Int)) t ∈ (dTurn dr us k d st t).2) := by
  obtain ⟨c, hc, hcr, hpc⟩ := h.on (d : Int) (by omega) (by omega)
  have jc := (h.jn c hc hcr).1
  rw [hpc] at jc
  have hB : Rm n (sideB (ix dr (d : Int)) t) := sideB_in hE hd t
  have jx : Joins dr (d : Int) (sideA (ix dr (d : Int)) t) (sideB (ix dr (d : Int)) t) := ⟨jc.1, by unfold sideA sideB; by_cases ht : t = 0 <;> simp [ht]⟩
  have hq : ix st.2 (k : Int) ∈ st.2 := mem_ix (by omega) (by omega)
  generalize hp : ix st.2 (k : Int) = p at hq
  generalize hx : sideB (ix dr (d : Int)) t = x at *
  by_cases hcond : ix us (d : Int) = true ∧ sideA (ix dr (d : Int)) t = p ∧ ix st.1 x < 0
  · have e : dTurn dr us k d st t = (st.1.set x.toNat (ix st.1 p + 1), st.2 ++ [x]) := by
      unfold dTurn; rw [hx, hp, if_pos hcond]
    obtain ⟨h1, h2, h3⟩ := hcond
    rw [h2] at jx
    have hxn : x ∉ st.2 := fun z => by have := b.inn x z; omega
    have hcx : c = x ∧ pa c = p := by
      rcases jc.two jx with ⟨e1, e2⟩ | ⟨e1, e2⟩
      · exfalso
        have hpr : p ≠ s := by rw [e1]; exact hcr
        have := (b.up p hq hpr).2.1
        rw [e1, ← e2] at this
        exact hxn this
      · exact ⟨e2.symm, e1.symm⟩
    obtain ⟨rfl, hpac⟩ := hcx
    have hps := b.rm p hq
    have hcp : ∀ v, v ∈ st.2 → v ≠ c := fun v hv z => hxn (z ▸ hv)
    have old : ∀ v, v ∈ st.2 → ix (st.1.set c.toNat (ix st.1 p + 1)) v = ix st.1 v := fun v hv => by
      rw [ix_set b.fl hB (b.rm v hv), if_neg (hcp v hv)]
    have new : ix (st.1.set c.toNat (ix st.1 p + 1)) c = ix st.1 p + 1 := by rw [ix_set b.fl hB hB, if_pos rfl]
    rw [e]
    refine ⟨⟨by rw [List.length_set]; exact b.fl, List.mem_append_left _ b.ms, by rw [old s b.ms]; exact b.z, fun v hv => ?_, ?_, fun v hv => ?_, fun v hv hn => ?_, fun v hv hvs => ?_⟩, ⟨_, rfl⟩, fun _ _ => by simp⟩
    · rcases List.mem_append.mp hv with hv | hv
      · exact b.rm v hv
      · have : v = c := by simpa using hv
        rw [this]; exact hB
    · show (st.2 ++ [c]).Nodup
      rw [List.nodup_append]
      exact ⟨b.nd, by simp, fun a ha b' hb' => by
        have : b' = c := by simpa using hb'
        rw [this]; exact fun z => hxn (z ▸ ha)⟩
    · show 0 ≤ ix (st.1.set c.toNat (ix st.1 p + 1)) v
      rcases List.mem_append.mp hv with hv | hv
      · rw [old v hv]; exact b.inn v hv
      · have : v = c := by simpa using hv
        rw [this, new]
        have := b.inn p hq
        omega
    · show ix (st.1.set c.toNat (ix st.1 p + 1)) v = -1
      have hn' : v ∉ st.2 ++ [c] := hn
      have h4 : v ∉ st.2 ∧ v ≠ c := by simpa using hn'
      rw [ix_set b.fl hB hv, if_neg h4.2]
      exact b.out v hv h4.1
    · show ix us (pd v) = true ∧ pa v ∈ st.2 ++ [c] ∧ ix (st.1.set c.toNat (ix st.1 p + 1)) v = ix (st.1.set c.toNat (ix st.1 p + 1)) (pa v) + 1
      rcases List.mem_append.mp hv with hv | hv
      · obtain ⟨u1, u2, u3⟩ := b.up v hv hvs
        exact ⟨u1, List.mem_append_left _ u2, by rw [old v hv, old _ u2]; exact u3⟩
      · have : v = c := by simpa using hv
        subst this
        rw [hpac, hpc]
        exact ⟨h1, List.mem_append_left _ hq, by rw [new, old p hq]⟩
  · have e : dTurn dr us k d st t = st := by unfold dTurn; rw [hx, hp, if_neg hcond]
    rw [e]
    refine ⟨b, ⟨[], by simp⟩, fun h1 h2 => ?_⟩
    apply Classical.byContradiction
    intro hn
    exact hcond ⟨h1, h2, by rw [b.out x hB hn]; decide⟩
theorem ix_pre {α : Type} [Inhabited α] {l z : List α} {k : Nat} (h : k < l.length) : ix (l ++ z) (k : Int) = ix l (k : Int) := by
  unfold ix
  rw [List.getD_eq_getElem?_getD, List.getD_eq_getElem?_getD, List.getElem?_append_left (by simpa using h)]
theorem DB.door {n : Nat} {dr : List Door} {s : Int} {pd pa : Int → Int} {us : List Bool} {st : DSt} {k : Nat} (hE : EndsOk n dr) (h : Rooted n dr s pd pa) (b : DB n dr s pd pa (fun d => ix us d) st) (hk : k < st.2.length) : ∀ m : Nat, m ≤ dr.length →
    DB n dr s pd pa (fun d => ix us d) (iter (dDoor dr us k) st m) ∧ (∃ z, (iter (dDoor dr us k) st m).2 = st.2 ++ z) ∧ ∀ v, Rm n v → v ≠ s → pa v = ix st.2 (k : Int) → ix us (pd v) = true → pd v < m → v ∈ (iter (dDoor dr us k) st m).2
  | 0, _ => ⟨b, ⟨[], by simp [iter]⟩, fun v hv hvr hpv hu hpd => by
      have := (h.jn v hv hvr).1.1.1
      omega⟩
  | m + 1, hm => by
    obtain ⟨b1, ⟨z, hz⟩, c1⟩ := DB.door hE h b hk m (by omega)
    have hk1 : k < (iter (dDoor dr us k) st m).2.length := by rw [hz, List.length_append]; omega
    have hq1 : ix (iter (dDoor dr us k) st m).2 (k : Int) = ix st.2 (k : Int) := by rw [hz]; exact ix_pre hk
    obtain ⟨b2, ⟨z2, hz2⟩, c2⟩ := b1.step hE h hk1 (d := m) (by omega) 0
    have hk2 : k < (dTurn dr us k m (iter (dDoor dr us k) st m) 0).2.length := by rw [hz2, List.length_append]; omega
    have hq2 : ix (dTurn dr us k m (iter (dDoor dr us k) st m) 0).2 (k : Int) = ix st.2 (k : Int) := by rw [hz2, ix_pre hk1, hq1]
    obtain ⟨b3, ⟨z3, hz3⟩, c3⟩ := b2.step hE h hk2 (d := m) (by omega) 1
    have e : iter (dDoor dr us k) st (m + 1) = dTurn dr us k m (dTurn dr us k m (iter (dDoor dr us k) st m) 0) 1 := rfl
    rw [e]
    refine ⟨b3, ⟨z ++ z2 ++ z3, by rw [hz3, hz2, hz]; simp⟩, fun v hv hvr hpv hu hpd => ?_⟩
    by_cases em : pd v = m
    · have jv := (h.jn v hv hvr).1
      rw [em] at jv hu
      rw [hpv] at jv
      rcases jv.2 with ⟨e1, e2⟩ | ⟨e1, e2⟩
      · have := c3 hu (by rw [hq2]; show (ix dr (m : Int)).2.1 = _; exact e2)
        have e3 : sideB (ix dr (m : Int)) 1 = v := e1
        rw [e3] at this
        exact this
      · have := c2 hu (by rw [hq1]; show (ix dr (m : Int)).1 = _; exact e1)
        have e3 : sideB (ix dr (m : Int)) 0 = v := e2
        rw [e3] at this
        rw [hz3]
        exact List.mem_append_left _ this
    · rw [hz3, hz2]
      exact List.mem_append_left _ (List.mem_append_left _ (c1 v hv hvr hpv hu (by omega)))
theorem distRun_ok {n : Nat} {dr : List Door} {s : Int} {pd pa : Int → Int} {us : List Bool} (hE : EndsOk n dr) (h : Rooted n dr s pd pa) : ∀ k : Nat, DB n dr s pd pa (fun d => ix us d) (distRun n dr us s k) ∧ ClU n s pd pa (fun d => ix us d) k (distRun n dr us s k).2
  | 0 => by
    have h0 : ∀ v, Rm n v → ix ((List.replicate n (-1 : Int)).set s.toNat 0) v = if v = s then 0 else -1 := fun v hv => by
      rw [ix_set (n := n) (by simp) h.rr hv]
      by_cases e : v = s
      · rw [if_pos e, if_pos e]
      · rw [if_neg e, if_neg e, ix_rep hv.1 hv.2]
    refine ⟨⟨by simp [distRun, iter, dist0], ?_, ?_, fun v hv => ?_, ?_, fun v hv => ?_, fun v hv hn => ?_, fun v hv hvs => ?_⟩, fun i p hi => by omega⟩
    · show s ∈ [s]; simp
    · show ix ((List.replicate n (-1 : Int)).set s.toNat 0) s = 0
      rw [h0 s h.rr, if_pos rfl]
    · have hv' : v ∈ [s] := hv
      have : v = s := by simpa using hv'
      rw [this]; exact h.rr
    · show [s].Nodup; simp
    · have hv' : v ∈ [s] := hv
      have : v = s := by simpa using hv'
      show 0 ≤ ix ((List.replicate n (-1 : Int)).set s.toNat 0) v
      rw [this, h0 s h.rr, if_pos rfl]; decide
    · have hn' : v ∉ [s] := hn
      show ix ((List.replicate n (-1 : Int)).set s.toNat 0) v = -1
      rw [h0 v hv, if_neg (by simpa using hn')]
    · have hv' : v ∈ [s] := hv
      exact absurd (by simpa using hv') hvs
  | k + 1 => by
    obtain ⟨b, c⟩ := distRun_ok hE h (us := us) k
    have e : distRun n dr us s (k + 1) = dOut dr us (distRun n dr us s k) k := rfl
    rw [e]
    unfold dOut
    by_cases hk : k < (distRun n dr us s k).2.length
    · rw [if_pos hk]
      obtain ⟨b1, ⟨z, hz⟩, c1⟩ := b.door hE h hk dr.length (Nat.le_refl _)
      refine ⟨b1, fun i p hi hip v hv hvr hpv hu => ?_⟩
      rw [hz, List.getElem?_append_left (by omega)] at hip
      by_cases hik : i = k
      · subst hik
        have : p = ix (distRun n dr us s i).2 (i : Int) := (ix_of hip).symm
        rw [this] at hpv
        exact c1 v hv hvr hpv hu (h.jn v hv hvr).1.1.2
      · rw [hz]
        exact List.mem_append_left _ (c i p (by omega) hip v hv hvr hpv hu)
    · rw [if_neg hk]
      refine ⟨b, fun i p hi hip v hv hvr hpv hu => ?_⟩
      have := (List.getElem?_eq_some_iff.mp hip).1
      exact c i p (by omega) hip v hv hvr hpv hu
theorem dist_sp {n : Nat} {dr : List Door} {s : Int} {pd pa : Int → Int} {us : List Bool} (hE : EndsOk n dr) (h : Rooted n dr s pd pa) : Sp n s pd pa (fun d => ix us d) (fun v => ix (distM n dr us s) v) := by
  obtain ⟨b, c⟩ := distRun_ok hE h (us := us) n
  have hle := count_nodup n _ b.nd b.rm
  refine ⟨b.z, fun v hv hvs => ?_⟩
  show ix (distRun n dr us s n).1 v = if ix us (pd v) = true ∧ 0 ≤ ix (distRun n dr us s n).1 (pa v) then ix (distRun n dr us s n).1 (pa v) + 1 else -1
  have hpr := h.pa_rm hv hvs
  by_cases hcond : ix us (pd v) = true ∧ 0 ≤ ix (distRun n dr us s n).1 (pa v)
  · rw [if_pos hcond]
    have hm : pa v ∈ (distRun n dr us s n).2 := by
      apply Classical.byContradiction
      intro hn
      have := b.out _ hpr hn
      omega
    obtain ⟨i, hi⟩ := List.mem_iff_getElem?.mp hm
    have hv2 := c i _ (by have := (List.getElem?_eq_some_iff.mp hi).1; omega) hi v hv hvs rfl hcond.1
    exact (b.up v hv2 hvs).2.2
  · rw [if_neg hcond]
    refine b.out v hv fun hm => ?_
    obtain ⟨u1, u2, u3⟩ := b.up v hm hvs
    exact hcond ⟨u1, b.inn _ u2⟩
theorem distM_len {n : Nat} {dr : List Door} {us : List Bool} {s : Int} (hE : EndsOk n dr) (hs : Rm n s) : (distM n dr us s).length = n := (DG.run (us := us) hE hs.1 hs.2 n).l
/-! ### the program's distances -/
theorem red_sp {n : Nat} {dr : List Door} {s : Int} {pd pa : Int → Int} {ls : List Nat} (hE : EndsOk n dr) (h : Rooted n dr s pd pa) : Sp n s pd pa (fun d => decide (ix ls d = 82)) (fun v => ix (redM n ls (orderM n dr s) s) v) := by
  obtain ⟨o1, o2, o3, o4⟩ := order_ok hE h
  generalize orderM n dr s = os at *
  have h0 : ∀ v, Rm n v → ix (red0 n s) v = if v = s then 0 else -1 := fun v hv => by
    unfold red0
    rw [ix_set (n := n) (by simp) h.rr hv]
    by_cases e : v = s
    · rw [if_pos e, if_pos e]
    · rw [if_neg e, if_neg e, ix_rep hv.1 hv.2]
  have key : ∀ i : Nat, i ≤ os.length → ix ((os.take i).foldl (redStep ls) (red0 n s)) s = 0 ∧ (∀ v, Rm n v → v ≠ s → v ∉ (os.take i).map (·.1) → ix ((os.take i).foldl (redStep ls) (red0 n s)) v = -1) ∧
      ∀ v, Rm n v → v ≠ s → v ∈ (os.take i).map (·.1) → ix ((os.take i).foldl (redStep ls) (red0 n s)) v = if decide (ix ls (pd v) = 82) = true ∧ 0 ≤ ix ((os.take i).foldl (redStep ls) (red0 n s)) (pa v) then ix ((os.take i).foldl (redStep ls) (red0 n s)) (pa v) + 1 else -1 := by
    intro i
    induction i with
    | zero =>
      intro _
      refine ⟨by show ix (red0 n s) s = 0; rw [h0 s h.rr, if_pos rfl], fun v hv hvs _ => by show ix (red0 n s) v = -1; rw [h0 v hv, if_neg hvs], fun v _ _ hm => by simp at hm⟩
    | succ i ih =>
      intro hi
      obtain ⟨i1, i2, i3⟩ := ih (by omega)
      have hlen := redFold_len n ls s (os.take i) _ (red0_len n s)
      obtain ⟨o, ho⟩ : ∃ o, os[i]? = some o := ⟨_, List.getElem?_eq_getElem (by omega)⟩
      obtain ⟨q1, q2, q3, q4⟩ := o4 i o ho
      have hor := o3 o (List.mem_of_getElem? ho)
      rw [foldl_take ho]
      generalize hD : (os.take i).foldl (redStep ls) (red0 n s) = D at *
      have hnot : o.1 ∉ s :: (os.take i).map (·.1) := by
        have hsplit : os.map (·.1) = (os.take i).map (·.1) ++ (os.drop i).map (·.1) := by rw [← List.map_append, List.take_append_drop]
        have hd : (os.drop i).map (·.1) = o.1 :: (os.drop (i + 1)).map (·.1) := by
          rw [List.drop_eq_getElem_cons (by omega), List.map_cons]
          have := (List.getElem?_eq_some_iff.mp ho)
          obtain ⟨_, e⟩ := this
          rw [e]
        rw [hsplit, hd] at o2
        intro hm
        have : (s :: (os.take i).map (·.1) ++ (o.1 :: (os.drop (i + 1)).map (·.1))).Nodup := o2
        rw [List.nodup_append] at this
        exact this.2.2 _ hm _ List.mem_cons_self rfl
      have htk : (os.take (i + 1)).map (·.1) = (os.take i).map (·.1) ++ [o.1] := by
        rw [List.take_add_one, ho, List.map_append]; rfl
      have hpr : Rm n (pa o.1) := h.pa_rm hor q1
      have hstep : ∀ v, Rm n v → v ≠ o.1 → ix (redStep ls D o) v = ix D v := fun v hv hne => by
        unfold redStep
        split
        · rw [ix_set hlen hor hv, if_neg hne]
        · rfl
      have hnew : ix (redStep ls D o) o.1 = if decide (ix ls (pd o.1) = 82) = true ∧ 0 ≤ ix D (pa o.1) then ix D (pa o.1) + 1 else -1 := by
        unfold redStep
        rw [q2, q3]
        by_cases hc : ix ls (pd o.1) = 82 ∧ 0 ≤ ix D (pa o.1)
        · rw [if_pos hc, ix_set hlen hor hor, if_pos rfl, if_pos ⟨decide_eq_true hc.1, hc.2⟩]
        · rw [if_neg hc, if_neg (fun z => hc ⟨of_decide_eq_true z.1, z.2⟩)]
          exact i2 o.1 hor q1 fun hm => hnot (List.mem_cons_of_mem _ hm)
      have hpo : ∀ w, w ∈ s :: (os.take i).map (·.1) → w ≠ o.1 := fun w hw z => hnot (z ▸ hw)
      refine ⟨by rw [hstep s h.rr (hpo s List.mem_cons_self)]; exact i1, fun v hv hvs hn => ?_, fun v hv hvs hm => ?_⟩
      · rw [htk] at hn
        have hn' : v ∉ (os.take i).map (·.1) ∧ v ≠ o.1 := ⟨fun z => hn (List.mem_append_left _ z), fun z => hn (List.mem_append_right _ (by simp [z]))⟩
        rw [hstep v hv hn'.2]
        exact i2 v hv hvs hn'.1
      · rw [htk] at hm
        rcases List.mem_append.mp hm with hm | hm
        · have hvo := hpo v (List.mem_cons_of_mem _ hm)
          have hpa : pa v ∈ s :: (os.take i).map (·.1) := by
            obtain ⟨o', ho', rfl⟩ := List.mem_map.mp hm
            obtain ⟨j, hj⟩ := List.mem_iff_getElem?.mp ho'
            have hji : j < i := by
              have := (List.getElem?_eq_some_iff.mp hj).1
              rw [List.length_take] at this
              omega
            rw [List.getElem?_take, if_pos hji] at hj
            obtain ⟨_, _, r3, r4⟩ := o4 j o' hj
            rw [← r3]
            rcases List.mem_cons.mp r4 with e | r4
            · rw [e]; exact List.mem_cons_self
            · refine List.mem_cons_of_mem _ ?_
              obtain ⟨o5, h5, h6⟩ := List.mem_map.mp r4
              refine List.mem_map.mpr ⟨o5, ?_, h6⟩
              have : os.take j = (os.take i).take j := by rw [List.take_take, Nat.min_eq_left (by omega)]
              rw [this] at h5
              exact List.mem_of_mem_take h5
          rw [hstep v hv hvo, hstep (pa v) (h.pa_rm hv hvs) (hpo _ hpa)]
          exact i3 v hv hvs hm
        · have : v = o.1 := by simpa using hm
          subst this
          have hpa : pa o.1 ∈ s :: (os.take i).map (·.1) := by rw [← q3]; exact q4
          rw [hnew, hstep _ hpr (hpo _ hpa)]
  obtain ⟨k1, k2, k3⟩ := key os.length (Nat.le_refl _)
  rw [List.take_length] at k1 k2 k3
  exact ⟨k1, fun v hv hvs => k3 v hv hvs (o1 v hv hvs)⟩
theorem red_dist {n : Nat} {dr : List Door} {s : Int} {pd pa : Int → Int} {ls : List Nat} (hE : EndsOk n dr) (h : Rooted n dr s pd pa) (hl : ls.length = dr.length) : redM n ls (orderM n dr s) s = distM n dr (ls.map fun c => decide (c = 82)) s := by
  have a := red_sp (ls := ls) hE h
  have b := dist_sp (us := ls.map fun c => decide (c = 82)) hE h
  have b' : Sp n s pd pa (fun d => decide (ix ls d = 82)) (fun v => ix (distM n dr (ls.map fun c => decide (c = 82)) s) v) := ⟨b.z, fun v hv hvs => by
    have j := (h.jn v hv hvs).1.1
    have e := b.st v hv hvs
    rw [show ix (ls.map fun c => decide (c = 82)) (pd v) = decide (ix ls (pd v) = 82) from ix_map j.1 (by omega)] at e
    exact e⟩
  have u := Sp.uniq h a b'
  apply List.ext_getElem?
  intro i
  have l1 : (redM n ls (orderM n dr s) s).length = n := redFold_len n ls s _ _ (red0_len n s)
  have l2 := distM_len (us := ls.map fun c => decide (c = 82)) hE h.rr
  by_cases hi : i < n
  · have e1 := ix_get (xs := redM n ls (orderM n dr s) s) (k := (i : Int)) (by omega) (by omega)
    have e2 := ix_get (xs := distM n dr (ls.map fun c => decide (c = 82)) s) (k := (i : Int)) (by omega) (by omega)
    simp only [Int.toNat_natCast] at e1 e2
    rw [e1, e2, u (i : Int) ⟨by omega, by omega⟩]
  · rw [List.getElem?_eq_none (by omega), List.getElem?_eq_none (by omega)]
end DT

set_option Elab.async false
set_option linter.all false
set_option maxRecDepth 100000
namespace DT
/-! ### the way -/
theorem look_put (kvs : List (Int × Dv)) (k v : Int) (d : Dv) : lookD (putD kvs k d) v = if v = k then some d else lookD kvs v := by
  unfold putD
  by_cases ha : (kvs.any fun kv => decide (kv.1 = k)) = true
  · rw [if_pos ha]
    induction kvs with
    | nil => simp at ha
    | cons kv kvs ih =>
      unfold lookD at *
      rw [List.map_cons, List.find?_cons, List.find?_cons]
      by_cases e1 : kv.1 = k
      · rw [if_pos e1]
        by_cases e2 : v = k
        · rw [if_pos e2]
          simp [e1, e2]
        · rw [if_neg e2]
          have h1 : ¬ kv.1 = v := fun z => e2 (by omega)
          simp only [h1, decide_false]
          by_cases ha2 : (kvs.any fun kv => decide (kv.1 = k)) = true
          · have := ih ha2
            rw [if_neg e2] at this
            exact this
          · have : kvs.map (fun kv => if kv.1 = k then (kv.1, d) else kv) = kvs := by
              have hn : ∀ x ∈ kvs, ¬ x.1 = k := fun x hx z => ha2 (List.any_eq_true.mpr ⟨x, hx, decide_eq_true z⟩)
              calc kvs.map (fun kv => if kv.1 = k then (kv.1, d) else kv) = kvs.map id := List.map_congr_left fun x hx => by rw [if_neg (hn x hx)]; rfl
                _ = kvs := List.map_id kvs
            rw [this]
      · rw [if_neg e1]
        have ha2 : (kvs.any fun kv => decide (kv.1 = k)) = true := by
          rw [List.any_cons, Bool.or_eq_true] at ha
          exact ha.resolve_left (by simpa using e1)
        by_cases e3 : kv.1 = v
        · have e2 : ¬ v = k := by omega
          rw [if_neg e2]
          simp [e3]
        · simp only [e3, decide_false]
          exact ih ha2
  · rw [if_neg ha]
    unfold lookD
    rw [List.find?_append]
    by_cases e : v = k
    · rw [if_pos e]
      have : kvs.find? (fun kv => decide (kv.1 = v)) = none := by
        rw [List.find?_eq_none]
        intro x hx z
        exact ha (List.any_eq_true.mpr ⟨x, hx, by rw [← e]; exact z⟩)
      rw [this, e]
      simp
    · rw [if_neg e]
      have : ([(k, d)] : List (Int × Dv)).find? (fun kv => decide (kv.1 = v)) = none := by
        rw [List.find?_eq_none]
        intro x hx
        have : x = (k, d) := by simpa using hx
        rw [this]
        simp
        exact fun z => e z.symm
      rw [this]
      cases kvs.find? (fun kv => decide (kv.1 = v)) <;> rfl
theorem dict_look {pd pa : Int → Int} : ∀ (os : List (Int × Int × Int)), (∀ o ∈ os, o.2.1 = pd o.1 ∧ o.2.2 = pa o.1) → ∀ (kv : List (Int × Dv)) (v : Int), lookD (os.foldl (fun kv o => putD kv o.1 (.tup [.int o.2.1, .int o.2.2])) kv) v = if v ∈ os.map (·.1) then some (.tup [.int (pd v), .int (pa v)]) else lookD kv v
  | [], _, kv, v => by simp
  | o :: os, h, kv, v => by
    rw [List.foldl_cons, dict_look os (fun x hx => h x (List.mem_cons_of_mem _ hx)), look_put, List.map_cons]
    obtain ⟨h1, h2⟩ := h o List.mem_cons_self
    by_cases e1 : v ∈ os.map (·.1)
    · rw [if_pos e1, if_pos (List.mem_cons_of_mem _ e1)]
    · rw [if_neg e1]
      by_cases e2 : v = o.1
      · rw [if_pos e2, if_pos (by rw [e2]; exact List.mem_cons_self), h1, h2, e2]
      · rw [if_neg e2, if_neg (by simp [e2, e1])]
def wl (pd pa : Int → Int) : Nat → Int → List Int
  | 0, _ => []
  | k + 1, v => pd v :: wl pd pa k (pa v)
theorem wl_len (pd pa : Int → Int) : ∀ k v, (wl pd pa k v).length = k
  | 0, _ => rfl
  | k + 1, v => by rw [wl, List.length_cons, wl_len pd pa k]
section
variable {n : Nat} {dr : List Door} {r : Int} {pd pa : Int → Int}
theorem dict_at (hE : EndsOk n dr) (h : Rooted n dr r pd pa) {v : Int} (hv : Rm n v) (hr : v ≠ r) : lookD (dictM (orderM n dr r)) v = some (.tup [.int (pd v), .int (pa v)]) := by
  obtain ⟨o1, o2, o3, o4⟩ := order_ok hE h
  unfold dictM
  rw [dict_look (pd := pd) (pa := pa) _ (fun o ho => by
    obtain ⟨i, hi⟩ := List.mem_iff_getElem?.mp ho
    exact ⟨(o4 i o hi).2.1, (o4 i o hi).2.2.1⟩), if_pos (o1 v hv hr)]
theorem way_chain (hE : EndsOk n dr) (h : Rooted n dr r pd pa) : ∀ {k : Nat} {v : Int}, Rm n v → Chain pa r k v → WayR (dictM (orderM n dr r)) r v (wl pd pa k v) := by
  intro k v hv hc
  induction hc with
  | root => exact .nil
  | @up k v hvr _ ih => exact .cons hvr (dict_at hE h hv hvr) (ih (h.pa_rm hv hvr))
theorem way_uniq (hE : EndsOk n dr) (h : Rooted n dr r pd pa) : ∀ {k : Nat} {v : Int} {ws : List Int}, Rm n v → Chain pa r k v → WayR (dictM (orderM n dr r)) r v ws → ws = wl pd pa k v := by
  intro k v ws hv hc hw
  induction hc generalizing ws with
  | root =>
    cases hw with
    | nil => rfl
    | cons hne _ _ => exact absurd rfl hne
  | @up k v hvr _ ih =>
    cases hw with
    | nil => exact absurd rfl hvr
    | @cons _ d p ws' _ hl hr' =>
      rw [dict_at hE h hv hvr] at hl
      have e : d = pd v ∧ p = pa v := by
        have := Option.some.inj hl
        injection this with this
        injection this with h1 h2
        injection h2 with h2 _
        injection h1 with h1
        injection h2 with h2
        exact ⟨h1.symm, h2.symm⟩
      obtain ⟨rfl, rfl⟩ := e
      rw [ih (h.pa_rm hv hvr) hr']
      rfl
theorem wl_in (h : Rooted n dr r pd pa) : ∀ {k : Nat} {v : Int}, Rm n v → Chain pa r k v → ∀ d ∈ wl pd pa k v, 0 ≤ d ∧ d < dr.length := by
  intro k v hv hc
  induction hc with
  | root => intro d hd; cases hd
  | @up k v hvr _ ih =>
    intro d hd
    rcases List.mem_cons.mp hd with rfl | hd
    · exact (h.jn v hv hvr).1.1
    · exact ih (h.pa_rm hv hvr) d hd
theorem allT_ix {d : Int} (h0 : 0 ≤ d) (h1 : d < dr.length) : ix (allT dr) d = true := ix_rep h0 h1
theorem far_chain (hE : EndsOk n dr) (h : Rooted n dr r pd pa) {k : Nat} {v : Int} (hv : Rm n v) (hc : Chain pa r k v) : ix (distM n dr (allT dr) r) v = k :=
  Sp.full h (dist_sp (us := allT dr) hE h) (fun d h0 h1 => allT_ix h0 h1) hv hc
/-- one turn of the law's way: only the parent's door moves it -/
theorem wTurn_at (hE : EndsOk n dr) (h : Rooted n dr r pd pa) {k : Nat} {st : WSt} {j : Nat} {v : Int} (hv : Rm n v) (hc : Chain pa r (j + 1) v) (hst : st.2 = v) (hsl : st.1.length = k) {d : Nat} (hd : d < dr.length) (t : Nat) :
    wTurn dr (distM n dr (allT dr) r) k d st t = if (d : Int) = pd v ∧ sideA (ix dr (d : Int)) t = v then (st.1 ++ [(d : Int)], pa v) else st := by
  have hvr : v ≠ r := by cases hc; assumption
  have hcp : Chain pa r j (pa v) := by cases hc; assumption
  have hpr := h.pa_rm hv hvr
  have jv := (h.jn v hv hvr).1
  unfold wTurn
  rw [hst]
  by_cases hA : sideA (ix dr (d : Int)) t = v
  · have jd : Joins dr (d : Int) v (sideB (ix dr (d : Int)) t) := by
      refine ⟨⟨by omega, by omega⟩, ?_⟩
      rw [← hA]
      unfold sideA sideB
      by_cases ht : t = 0 <;> simp [ht]
    have hB := sideB_in hE hd t
    by_cases hp : (d : Int) = pd v
    · have e : sideB (ix dr (d : Int)) t = pa v := by
        rw [hp] at jd ⊢
        have h1 := jd.2
        have h2 := jv.2
        omega
      rw [if_pos ⟨by omega, hA, by rw [e, far_chain hE h hpr hcp, far_chain hE h hv hc]; omega⟩, if_pos ⟨hp, hA⟩, e]
    · have hL : ¬ ((st.1.length : Int) = k ∧ sideA (ix dr (d : Int)) t = v ∧ ix (distM n dr (allT dr) r) (sideB (ix dr (d : Int)) t) = ix (distM n dr (allT dr) r) v - 1) := by
        intro z
        obtain ⟨c, hc0, hcr, hpc⟩ := h.on (d : Int) (by omega) (by omega)
        have jc := (h.jn c hc0 hcr).1
        rw [hpc] at jc
        rcases jd.two jc with ⟨e1, e2⟩ | ⟨e1, e2⟩
        · exact hp (by rw [← hpc, e1])
        · have z3 := z.2.2
          have hcc : Chain pa r (j + 2) c := .up hcr (by rw [e2]; exact hc)
          rw [← e1, far_chain hE h hc0 hcc, far_chain hE h hv hc] at z3
          omega
      have hR : ¬ ((d : Int) = pd v ∧ sideA (ix dr (d : Int)) t = v) := fun z => hp z.1
      rw [if_neg hL, if_neg hR]
  · have hL : ¬ ((st.1.length : Int) = k ∧ sideA (ix dr (d : Int)) t = v ∧ ix (distM n dr (allT dr) r) (sideB (ix dr (d : Int)) t) = ix (distM n dr (allT dr) r) v - 1) := fun z => hA z.2.1
    have hR : ¬ ((d : Int) = pd v ∧ sideA (ix dr (d : Int)) t = v) := fun z => hA z.2
    rw [if_neg hL, if_neg hR]
theorem wTurn_done {k d : Nat} {st : WSt} {far : List Int} (hsl : st.1.length ≠ k) (t : Nat) : wTurn dr far k d st t = st := by
  unfold wTurn
  rw [if_neg (fun z => hsl (by omega))]
theorem wDoor_at (hE : EndsOk n dr) (hne : ∀ d ∈ dr, d.1 ≠ d.2.1) (h : Rooted n dr r pd pa) {k : Nat} {st : WSt} {j : Nat} {v : Int} (hv : Rm n v) (hc : Chain pa r (j + 1) v) (hst : st.2 = v) (hsl : st.1.length = k) {d : Nat} (hd : d < dr.length) :
    wDoor dr (distM n dr (allT dr) r) k st d = if (d : Int) = pd v then (st.1 ++ [(d : Int)], pa v) else st := by
  have hvr : v ≠ r := by cases hc; assumption
  have jv := (h.jn v hv hvr).1
  show wTurn dr _ k d (wTurn dr _ k d st 0) 1 = _
  have hd2 := hne _ (mem_ix (xs := dr) (k := (d : Int)) (by omega) (by omega))
  rw [wTurn_at hE h hv hc hst hsl hd 0]
  by_cases hp : (d : Int) = pd v
  · rw [if_pos hp]
    by_cases hA : sideA (ix dr (d : Int)) 0 = v
    · rw [if_pos ⟨hp, hA⟩]
      exact wTurn_done (by simp; omega) 1
    · rw [if_neg (fun z => hA z.2), wTurn_at hE h hv hc hst hsl hd 1, if_pos]
      refine ⟨hp, ?_⟩
      rw [← hp] at jv
      have h1 := jv.2
      have h2 : ¬ (ix dr (d : Int)).1 = v := hA
      show (ix dr (d : Int)).2.1 = v
      omega
  · rw [if_neg (fun z => hp z.1), if_neg hp, wTurn_at hE h hv hc hst hsl hd 1, if_neg (fun z => hp z.1)]
theorem wDoor_done {k d : Nat} {st : WSt} {far : List Int} (hsl : st.1.length ≠ k) : wDoor dr far k st d = st := by
  show wTurn dr far k d (wTurn dr far k d st 0) 1 = st
  rw [wTurn_done hsl, wTurn_done hsl]
theorem wOut_at (hE : EndsOk n dr) (hne : ∀ d ∈ dr, d.1 ≠ d.2.1) (h : Rooted n dr r pd pa) {k : Nat} {st : WSt} {j : Nat} {v : Int} (hv : Rm n v) (hc : Chain pa r (j + 1) v) (hst : st.2 = v) (hsl : st.1.length = k) :
    wOut dr (distM n dr (allT dr) r) st k = (st.1 ++ [pd v], pa v) := by
  have hvr : v ≠ r := by cases hc; assumption
  have jv := (h.jn v hv hvr).1.1
  have key : ∀ m : Nat, m ≤ dr.length → iter (wDoor dr (distM n dr (allT dr) r) k) st m = if pd v < m then (st.1 ++ [pd v], pa v) else st := by
    intro m
    induction m with
    | zero => intro _; rw [if_neg (by omega)]; rfl
    | succ m ih =>
      intro hm
      have ih' := ih (by omega)
      show wDoor dr _ k (iter (wDoor dr _ k) st m) m = _
      rw [ih']
      by_cases h1 : pd v < m
      · rw [if_pos h1, if_pos (by omega)]
        exact wDoor_done (by simp; omega)
      · rw [if_neg h1, wDoor_at hE hne h hv hc hst hsl (by omega)]
        by_cases h2 : (m : Int) = pd v
        · rw [if_pos h2, if_pos (by omega), h2]
        · rw [if_neg h2, if_neg (by omega)]
  have := key dr.length (Nat.le_refl _)
  rw [if_pos jv.2] at this
  exact this
theorem wayL_is (hE : EndsOk n dr) (hne : ∀ d ∈ dr, d.1 ≠ d.2.1) (h : Rooted n dr r pd pa) {k : Nat} {v : Int} (hv : Rm n v) (hc : Chain pa r k v) : wayL n dr v r = wl pd pa k v := by
  have gen : ∀ (m i : Nat) (don : List Int) (u : Int), Rm n u → Chain pa r m u → don.length = i → wayRun dr (distM n dr (allT dr) r) v i = (don, u) → (wayRun dr (distM n dr (allT dr) r) v (i + m)).1 = don ++ wl pd pa m u := by
    intro m
    induction m with
    | zero => intro i don u _ _ _ e; rw [Nat.add_zero, e]; simp [wl]
    | succ m ih =>
      intro i don u hu hcu hdl e
      have hur : u ≠ r := by cases hcu; assumption
      have hcp : Chain pa r m (pa u) := by cases hcu; assumption
      have e2 : wayRun dr (distM n dr (allT dr) r) v (i + 1) = (don ++ [pd u], pa u) := by
        show wOut dr _ (wayRun dr _ v i) i = _
        rw [e]
        exact wOut_at hE hne h hu hcu rfl hdl
      have := ih (i + 1) (don ++ [pd u]) (pa u) (h.pa_rm hu hur) hcp (by simp [hdl]) e2
      rw [show i + (m + 1) = i + 1 + m by omega, this]
      simp [wl]
  unfold wayL
  rw [far_chain hE h hv hc]
  have := gen k 0 [] v hv hc rfl rfl
  rw [Nat.zero_add] at this
  simpa using this
end
/-! ### the house -/
theorem Tree.dl {n : Nat} {dr : List Door} (h : Tree n dr) : dr.length ≤ 100 := by
  have h1 := h.len
  have h2 := h.n2
  omega
theorem Tree.house {n : Nat} {dr : List Door} (h : Tree n dr) : HouseOk n dr where
  n1 := h.n2
  dl := h.dl
  ends := h.ends
  run := fun r r0 r1 => by
    obtain ⟨pd, pa, R⟩ := h.rt r ⟨r0, r1⟩
    exact ord_ok h.ends R
  ord := fun r r0 r1 o ho => by
    obtain ⟨pd, pa, R⟩ := h.rt r ⟨r0, r1⟩
    obtain ⟨o1, o2, o3, o4⟩ := order_ok h.ends R
    obtain ⟨i, hi⟩ := List.mem_iff_getElem?.mp ho
    obtain ⟨q1, q2, q3, _⟩ := o4 i o hi
    have hr := o3 o ho
    have j := R.jn o.1 hr q1
    rw [q2, q3]
    exact ⟨hr, j.1.1, j.2⟩
  way := fun r v r0 r1 v0 v1 => by
    obtain ⟨pd, pa, R⟩ := h.rt r ⟨r0, r1⟩
    obtain ⟨k, hk⟩ := R.ch v ⟨v0, v1⟩
    exact ⟨_, way_chain h.ends R ⟨v0, v1⟩ hk⟩
  wd := fun r v ws r0 r1 v0 v1 hw => by
    obtain ⟨pd, pa, R⟩ := h.rt r ⟨r0, r1⟩
    obtain ⟨k, hk⟩ := R.ch v ⟨v0, v1⟩
    have e := way_uniq h.ends R ⟨v0, v1⟩ hk hw
    have hs := chain_short R ⟨v0, v1⟩ hk
    rw [e]
    exact ⟨by rw [wl_len]; omega, wl_in R ⟨v0, v1⟩ hk⟩
theorem Tree.graph {n : Nat} {dr : List Door} (h : Tree n dr) : GraphOk n dr where
  n1 := h.n1
  n2 := h.n2
  dl := h.dl
  ends := h.ends
  far := fun a b a0 a1 b0 b1 => by
    obtain ⟨pd, pa, R⟩ := h.rt b ⟨b0, b1⟩
    obtain ⟨k, hk⟩ := R.ch a ⟨a0, a1⟩
    have hs := chain_short R ⟨a0, a1⟩ hk
    have n2 := h.n2
    rw [far_chain h.ends R ⟨a0, a1⟩ hk]
    omega
/-- the way by both -/
theorem Tree.way {n : Nat} {dr : List Door} (h : Tree n dr) {a b : Int} (ha : Rm n a) (hb : Rm n b) : WayR (dictM (orderM n dr b)) b a (wayL n dr a b) ∧ (wayL n dr a b).length ≤ 100 ∧ ∀ d ∈ wayL n dr a b, 0 ≤ d ∧ d < dr.length := by
  obtain ⟨pd, pa, R⟩ := h.rt b hb
  obtain ⟨k, hk⟩ := R.ch a ha
  have hs := chain_short R ha hk
  have n2 := h.n2
  rw [wayL_is h.ends h.ne R ha hk]
  exact ⟨way_chain h.ends R ha hk, by rw [wl_len]; omega, wl_in R ha hk⟩
theorem Tree.red {n : Nat} {dr : List Door} (h : Tree n dr) {s : Int} (hs : Rm n s) {ls : List Nat} (hl : ls.length = dr.length) : redM n ls (orderM n dr s) s = distM n dr (ls.map fun c => decide (c = 82)) s := by
  obtain ⟨pd, pa, R⟩ := h.rt s hs
  exact red_dist h.ends R hl
theorem Tree.far_lt {n : Nat} {dr : List Door} (h : Tree n dr) {s v : Int} (hs : Rm n s) (hv : Rm n v) (us : List Bool) : -1 ≤ ix (distM n dr us s) v ∧ ix (distM n dr us s) v < n := by
  obtain ⟨pd, pa, R⟩ := h.rt s hs
  have a := dist_sp (us := us) h.ends R
  exact ⟨a.ge R hv, a.lt R hv⟩
/-! ### the chased pair -/
theorem pair_is {n : Nat} {dr : List Door} {hs : List Hand} {ps : List Int} (h : Tree n dr) (hP : PlOk dr ps) (hH : HandsIn n hs) : pairM n dr hs ps = (chasedL n dr hs ps).map fun b => (b.1, b.2.1) := by
  have hll := lights_len (dr := dr) (ps := ps) hP.l
  have hin : ∀ i : Nat, i < hs.length → Rm n (ix hs (i : Int)).2 := fun i hi => hH _ (mem_ix (by omega) (by omega))
  let enc : Best → Option (Int × Int) × Int := fun b => match b with
    | none => (none, (n : Int))
    | some b => (some (b.1, b.2.1), b.2.2)
  have inner : ∀ (red : Nat) (far : List Int) (best : Best), (∀ i : Nat, i < hs.length → ix far (ix hs (i : Int)).2 < n) → ∀ k, k ≤ hs.length → iter (chIn hs far red) (enc best) k = enc (iter (cIn hs far red) best k) := by
    intro red far best hf k
    induction k with
    | zero => intro _; rfl
    | succ k ih =>
      intro hk
      show chIn hs far red (iter (chIn hs far red) (enc best) k) k = enc (cIn hs far red (iter (cIn hs far red) best k) k)
      rw [ih (by omega)]
      have hlt := hf k (by omega)
      cases iter (cIn hs far red) best k with
      | none =>
        unfold chIn cIn
        dsimp only [enc]
        by_cases hc : (ix hs (k : Int)).1 = [66] ∧ 0 ≤ ix far (ix hs (k : Int)).2
        · rw [if_pos hc, if_pos ⟨hc.1, hc.2, hlt⟩]
        · rw [if_neg hc, if_neg (fun z => hc ⟨z.1, z.2.1⟩)]
      | some b =>
        unfold chIn cIn
        dsimp only [enc]
        by_cases hc : (ix hs (k : Int)).1 = [66] ∧ 0 ≤ ix far (ix hs (k : Int)).2 ∧ ix far (ix hs (k : Int)).2 < b.2.2
        · rw [if_pos hc, if_pos hc]
        · rw [if_neg hc, if_neg hc]
  have outer : ∀ k, k ≤ hs.length → pairRun n dr (lightsM dr ps) hs k = enc (iter (cOut n dr (litB dr ps) hs) none k) := by
    intro k
    induction k with
    | zero => intro _; rfl
    | succ k ih =>
      intro hk
      show chOut n dr (lightsM dr ps) hs (pairRun n dr (lightsM dr ps) hs k) k = enc (cOut n dr (litB dr ps) hs (iter (cOut n dr (litB dr ps) hs) none k) k)
      rw [ih (by omega)]
      unfold chOut cOut
      by_cases hc : (ix hs (k : Int)).1 = [82]
      · rw [if_pos hc, if_pos hc, h.red (hin k (by omega)) hll]
        exact inner k _ _ (fun i hi => (h.far_lt (hin k (by omega)) (hin i hi) _).2) hs.length (Nat.le_refl _)
      · rw [if_neg hc, if_neg hc]
  unfold pairM chasedL
  rw [outer hs.length (Nat.le_refl _)]
  cases iter (cOut n dr (litB dr ps) hs) none hs.length <;> rfl
end DT

set_option Elab.async false
set_option linter.all false
set_option maxRecDepth 100000
namespace DT
/-! ### what the reds reach -/
def Rch (n : Nat) (dr : List Door) (hs : List Hand) (us : List Bool) (v : Int) : Prop := ∃ h ∈ hs, h.1 = [82] ∧ 0 ≤ ix (distM n dr us h.2) v
section
variable {n : Nat} {dr : List Door} {hs : List Hand} {ls : List Nat}
theorem spdIn_at {st : List Bool} {k : Nat} {v : Int} (hE : EndsOk n dr) (hl : st.length = n) (hk : k < dr.length) (hv : Rm n v) :
    ix (spdIn dr ls st k) v = if ix ls (k : Int) = 82 ∧ (ix st (ix dr (k : Int)).1 = true ∨ ix st (ix dr (k : Int)).2.1 = true) then (if v = (ix dr (k : Int)).2.1 then true else if v = (ix dr (k : Int)).1 then true else ix st v) else ix st v := by
  obtain ⟨a, b, c, d⟩ := hE _ (mem_ix (xs := dr) (k := (k : Int)) (by omega) (by omega))
  unfold spdIn
  split
  · rw [ix_set (n := n) (by simp [hl]) ⟨c, d⟩ hv, ix_set hl ⟨a, b⟩ hv]
  · rfl
theorem spdIn_mono {st : List Bool} {k : Nat} {v : Int} (hE : EndsOk n dr) (hl : st.length = n) (hk : k < dr.length) (hv : Rm n v) (h : ix st v = true) : ix (spdIn dr ls st k) v = true := by
  rw [spdIn_at hE hl hk hv]
  split
  · split
    · rfl
    · split
      · rfl
      · exact h
  · exact h
theorem spIt_mono {st : List Bool} {v : Int} (hE : EndsOk n dr) (hl : st.length = n) (hv : Rm n v) {i : Nat} (h : ix (iter (spdIn dr ls) st i) v = true) : ∀ j, i ≤ j → j ≤ dr.length → ix (iter (spdIn dr ls) st j) v = true := by
  intro j hij hj
  induction j with
  | zero => have : i = 0 := by omega
            rw [this] at h; exact h
  | succ j ih =>
    by_cases e : i = j + 1
    · rw [← e]; exact h
    · exact spdIn_mono hE (by rw [iter_len (spdIn_len dr ls), hl]) (by omega) hv (ih (by omega) (by omega))
theorem sp0_at {v : Int} (hH : HandsIn n hs) (hv : Rm n v) : ix (sp0 n hs) v = true ↔ ∃ h ∈ hs, h.1 = [82] ∧ h.2 = v := by
  have key : ∀ (l : List Hand), (∀ h ∈ l, Rm n h.2) → ∀ st : List Bool, st.length = n → (ix (l.foldl spH st) v = true ↔ ix st v = true ∨ ∃ h ∈ l, h.1 = [82] ∧ h.2 = v) := by
    intro l
    induction l with
    | nil => intro _ st _; simp
    | cons h l ih =>
      intro hl st hst
      rw [List.foldl_cons, ih (fun x hx => hl x (List.mem_cons_of_mem _ hx)) _ (by rw [spH_len, hst])]
      have hh := hl h List.mem_cons_self
      have e : ix (spH st h) v = true ↔ ix st v = true ∨ (h.1 = [82] ∧ h.2 = v) := by
        unfold spH
        by_cases hc : h.1 = [82]
        · rw [if_pos hc, ix_set hst hh hv]
          by_cases e : v = h.2
          · rw [if_pos e]; simp [hc, e]
          · rw [if_neg e]; simp [hc]; exact fun z => absurd z.symm e
        · rw [if_neg hc]; simp [hc]
      rw [e]
      constructor
      · rintro ((h1 | h1) | ⟨x, hx, h1⟩)
        · exact .inl h1
        · exact .inr ⟨h, List.mem_cons_self, h1⟩
        · exact .inr ⟨x, List.mem_cons_of_mem _ hx, h1⟩
      · rintro (h1 | ⟨x, hx, h1⟩)
        · exact .inl (.inl h1)
        · rcases List.mem_cons.mp hx with rfl | hx
          · exact .inl (.inr h1)
          · exact .inr ⟨x, hx, h1⟩
  have := key hs hH (List.replicate n false) (by simp)
  unfold sp0
  rw [this, ix_rep hv.1 hv.2]
  simp
theorem sound (h : Tree n dr) (hH : HandsIn n hs) (hll : ls.length = dr.length) : ∀ t : Nat, ∀ v, Rm n v → ix (iter (spTurn dr ls) (sp0 n hs) t) v = true → Rch n dr hs (ls.map fun c => decide (c = 82)) v := by
  have hE := h.ends
  have hl0 : (sp0 n hs).length = n := by unfold sp0; rw [spF_len]; simp
  intro t
  induction t with
  | zero =>
    intro v hv hs'
    obtain ⟨q, hq, h1, h2⟩ := (sp0_at hH hv).mp hs'
    obtain ⟨pd, pa, R⟩ := h.rt q.2 (hH q hq)
    have := (dist_sp (us := ls.map fun c => decide (c = 82)) hE R).z
    exact ⟨q, hq, h1, by rw [← h2]; exact Int.le_of_eq this.symm⟩
  | succ t ih =>
    have hlt : (iter (spTurn dr ls) (sp0 n hs) t).length = n := by rw [iter_len (spTurn_len dr ls), hl0]
    have key : ∀ k : Nat, k ≤ dr.length → ∀ v, Rm n v → ix (iter (spdIn dr ls) (iter (spTurn dr ls) (sp0 n hs) t) k) v = true → Rch n dr hs (ls.map fun c => decide (c = 82)) v := by
      intro k
      induction k with
      | zero => intro _ v hv hs'; exact ih v hv hs'
      | succ k ihk =>
        intro hk v hv hs'
        have hlk : (iter (spdIn dr ls) (iter (spTurn dr ls) (sp0 n hs) t) k).length = n := by rw [iter_len (spdIn_len dr ls), hlt]
        have ihk' := ihk (by omega)
        have hs2 : ix (spdIn dr ls (iter (spdIn dr ls) (iter (spTurn dr ls) (sp0 n hs) t) k) k) v = true := hs'
        rw [spdIn_at hE hlk (by omega) hv] at hs2
        obtain ⟨a, b, c, d⟩ := hE _ (mem_ix (xs := dr) (k := (k : Int)) (by omega) (by omega))
        by_cases hc : ix ls (k : Int) = 82 ∧ (ix (iter (spdIn dr ls) (iter (spTurn dr ls) (sp0 n hs) t) k) (ix dr (k : Int)).1 = true ∨ ix (iter (spdIn dr ls) (iter (spTurn dr ls) (sp0 n hs) t) k) (ix dr (k : Int)).2.1 = true)
        · rw [if_pos hc] at hs2
          have hu : ix (ls.map fun c => decide (c = 82)) (k : Int) = true := by
            rw [ix_map (by omega) (by omega), hc.1]; rfl
          have both : Rch n dr hs (ls.map fun c => decide (c = 82)) (ix dr (k : Int)).1 ∧ Rch n dr hs (ls.map fun c => decide (c = 82)) (ix dr (k : Int)).2.1 := by
            have j : Joins dr (k : Int) (ix dr (k : Int)).1 (ix dr (k : Int)).2.1 := ⟨⟨by omega, by omega⟩, .inl ⟨rfl, rfl⟩⟩
            rcases hc.2 with hs3 | hs3
            · obtain ⟨q, hq, h1, h2⟩ := ihk' _ ⟨a, b⟩ hs3
              obtain ⟨pd, pa, R⟩ := h.rt q.2 (hH q hq)
              exact ⟨⟨q, hq, h1, h2⟩, q, hq, h1, ((dist_sp (us := ls.map fun c => decide (c = 82)) hE R).adj R j hu).mp h2⟩
            · obtain ⟨q, hq, h1, h2⟩ := ihk' _ ⟨c, d⟩ hs3
              obtain ⟨pd, pa, R⟩ := h.rt q.2 (hH q hq)
              exact ⟨⟨q, hq, h1, ((dist_sp (us := ls.map fun c => decide (c = 82)) hE R).adj R j hu).mpr h2⟩, q, hq, h1, h2⟩
          by_cases e1 : v = (ix dr (k : Int)).2.1
          · rw [e1]; exact both.2
          · rw [if_neg e1] at hs2
            by_cases e2 : v = (ix dr (k : Int)).1
            · rw [e2]; exact both.1
            · rw [if_neg e2] at hs2
              exact ihk' v hv hs2
        · rw [if_neg hc] at hs2
          exact ihk' v hv hs2
    exact key dr.length (Nat.le_refl _)
theorem complete (h : Tree n dr) (hH : HandsIn n hs) (hll : ls.length = dr.length) : ∀ t : Nat, ∀ q ∈ hs, q.1 = [82] → ∀ v, Rm n v → 0 ≤ ix (distM n dr (ls.map fun c => decide (c = 82)) q.2) v → ix (distM n dr (ls.map fun c => decide (c = 82)) q.2) v ≤ t → ix (iter (spTurn dr ls) (sp0 n hs) t) v = true := by
  have hE := h.ends
  have hl0 : (sp0 n hs).length = n := by unfold sp0; rw [spF_len]; simp
  intro t
  induction t with
  | zero =>
    intro q hq hq1 v hv h0 h1
    obtain ⟨pd, pa, R⟩ := h.rt q.2 (hH q hq)
    have sp := dist_sp (us := ls.map fun c => decide (c = 82)) hE R
    have e : v = q.2 := by
      apply Classical.byContradiction
      intro hne
      have := sp.st v hv hne
      split at this <;> omega
    exact (sp0_at hH hv).mpr ⟨q, hq, hq1, e.symm⟩
  | succ t ih =>
    intro q hq hq1 v hv h0 h1
    have hlt : (iter (spTurn dr ls) (sp0 n hs) t).length = n := by rw [iter_len (spTurn_len dr ls), hl0]
    obtain ⟨pd, pa, R⟩ := h.rt q.2 (hH q hq)
    have sp := dist_sp (us := ls.map fun c => decide (c = 82)) hE R
    show ix (iter (spdIn dr ls) (iter (spTurn dr ls) (sp0 n hs) t) dr.length) v = true
    by_cases hle : ix (distM n dr (ls.map fun c => decide (c = 82)) q.2) v ≤ t
    · exact spIt_mono hE hlt hv (i := 0) (ih q hq hq1 v hv h0 hle) dr.length (by omega) (Nat.le_refl _)
    · have hne : v ≠ q.2 := fun z => hle (by rw [z]; exact Int.le_trans (Int.le_of_eq sp.z) (by omega))
      have hst := sp.st v hv hne
      have j := (R.jn v hv hne).1
      have hpr := R.pa_rm hv hne
      by_cases hc : ix (ls.map fun c => decide (c = 82)) (pd v) = true ∧ 0 ≤ ix (distM n dr (ls.map fun c => decide (c = 82)) q.2) (pa v)
      · rw [if_pos hc] at hst
        have hp := ih q hq hq1 (pa v) hpr hc.2 (by omega)
        have hpk : ((pd v).toNat : Int) = pd v := by have := j.1.1; omega
        have hkl : (pd v).toNat < dr.length := by have := j.1; omega
        have hp2 := spIt_mono (ls := ls) hE hlt hpr (i := 0) hp (pd v).toNat (by omega) (by omega)
        have hstep : ix (iter (spdIn dr ls) (iter (spTurn dr ls) (sp0 n hs) t) ((pd v).toNat + 1)) v = true := by
          show ix (spdIn dr ls (iter (spdIn dr ls) (iter (spTurn dr ls) (sp0 n hs) t) (pd v).toNat) (pd v).toNat) v = true
          rw [spdIn_at hE (by rw [iter_len (spdIn_len dr ls), hlt]) hkl hv, hpk]
          have hu : ix ls (pd v) = 82 := by
            have := hc.1
            rw [ix_map j.1.1 (by have := j.1.2; omega)] at this
            exact of_decide_eq_true this
          have hj := j.2
          rw [if_pos]
          · rcases hj with ⟨e1, e2⟩ | ⟨e1, e2⟩
            · rw [e1, e2]
              split
              · rfl
              · rw [if_pos rfl]
            · rw [e2, if_pos rfl]
          · refine ⟨hu, ?_⟩
            rcases hj with ⟨e1, e2⟩ | ⟨e1, e2⟩
            · rw [e2]; exact .inr hp2
            · rw [e1]; exact .inl hp2
        exact spIt_mono hE hlt hv hstep dr.length (by omega) (Nat.le_refl _)
      · rw [if_neg hc] at hst
        omega
theorem seen_iff (h : Tree n dr) (hH : HandsIn n hs) (hll : ls.length = dr.length) {v : Int} (hv : Rm n v) : ix (spreadM n dr hs ls) v = true ↔ Rch n dr hs (ls.map fun c => decide (c = 82)) v := by
  refine ⟨sound h hH hll n v hv, fun ⟨q, hq, h1, h2⟩ => complete h hH hll n q hq h1 v hv h2 ?_⟩
  have := (h.far_lt (hH q hq) hv (ls.map fun c => decide (c = 82))).2
  omega
end
/-! ### the chased pair, is there one -/
theorem cIn_none {hs : List Hand} {far : List Int} {red : Nat} (best : Best) : ∀ k, iter (cIn hs far red) best k = none ↔ best = none ∧ ∀ j : Nat, j < k → ¬ ((ix hs (j : Int)).1 = [66] ∧ 0 ≤ ix far (ix hs (j : Int)).2)
  | 0 => by
    show best = none ↔ _
    exact ⟨fun h => ⟨h, fun j hj => by omega⟩, fun h => h.1⟩
  | k + 1 => by
    have ih := cIn_none (hs := hs) (far := far) (red := red) best k
    show cIn hs far red (iter (cIn hs far red) best k) k = none ↔ _
    cases e : iter (cIn hs far red) best k with
    | none =>
      obtain ⟨h1, h2⟩ := ih.mp e
      unfold cIn
      dsimp only
      by_cases hc : (ix hs (k : Int)).1 = [66] ∧ 0 ≤ ix far (ix hs (k : Int)).2
      · rw [if_pos hc]
        exact ⟨fun z => (nomatch z), fun z => absurd hc (z.2 k (by omega))⟩
      · rw [if_neg hc]
        refine ⟨fun _ => ⟨h1, fun j hj => ?_⟩, fun _ => rfl⟩
        by_cases ej : j = k
        · rw [ej]; exact hc
        · exact h2 j (by omega)
    | some b =>
      have hn : ¬ (best = none ∧ ∀ j : Nat, j < k → ¬ ((ix hs (j : Int)).1 = [66] ∧ 0 ≤ ix far (ix hs (j : Int)).2)) := fun z => by rw [ih.mpr z] at e; cases e
      unfold cIn
      dsimp only
      refine ⟨fun z => ?_, fun z => absurd ⟨z.1, fun j hj => z.2 j (by omega)⟩ hn⟩
      split at z <;> cases z
theorem chased_none {n : Nat} {dr : List Door} {hs : List Hand} {ps : List Int} : chasedL n dr hs ps = none ↔ ∀ i : Nat, i < hs.length → (ix hs (i : Int)).1 = [82] → ∀ j : Nat, j < hs.length → ¬ ((ix hs (j : Int)).1 = [66] ∧ 0 ≤ ix (distM n dr (litB dr ps) (ix hs (i : Int)).2) (ix hs (j : Int)).2) := by
  have key : ∀ k, iter (cOut n dr (litB dr ps) hs) none k = none ↔ ∀ i : Nat, i < k → (ix hs (i : Int)).1 = [82] → ∀ j : Nat, j < hs.length → ¬ ((ix hs (j : Int)).1 = [66] ∧ 0 ≤ ix (distM n dr (litB dr ps) (ix hs (i : Int)).2) (ix hs (j : Int)).2) := by
    intro k
    induction k with
    | zero => exact ⟨fun _ i hi => by omega, fun _ => rfl⟩
    | succ k ih =>
      show cOut n dr (litB dr ps) hs (iter (cOut n dr (litB dr ps) hs) none k) k = none ↔ _
      by_cases hc : (ix hs (k : Int)).1 = [82]
      · rw [show cOut n dr (litB dr ps) hs (iter (cOut n dr (litB dr ps) hs) none k) k = iter (cIn hs (distM n dr (litB dr ps) (ix hs (k : Int)).2) k) (iter (cOut n dr (litB dr ps) hs) none k) hs.length from if_pos hc, cIn_none]
        refine ⟨fun z i hi h1 j hj => ?_, fun z => ⟨ih.mpr fun i hi => z i (by omega), fun j hj => z k (by omega) hc j hj⟩⟩
        by_cases ei : i = k
        · rw [ei]; exact z.2 j hj
        · exact ih.mp z.1 i (by omega) h1 j hj
      · rw [show cOut n dr (litB dr ps) hs (iter (cOut n dr (litB dr ps) hs) none k) k = iter (cOut n dr (litB dr ps) hs) none k from if_neg hc, ih]
        refine ⟨fun z i hi h1 => ?_, fun z i hi => z i (by omega)⟩
        by_cases ei : i = k
        · rw [ei] at h1; exact absurd h1 hc
        · exact z i (by omega) h1
  exact key hs.length
theorem cIn_some {hs : List Hand} {far : List Int} {red : Nat} {best b : Best} (P : Int × Int × Int → Prop) (hb : ∀ x, best = some x → P x) (hc : ∀ j : Nat, j < hs.length → (ix hs (j : Int)).1 = [66] → 0 ≤ ix far (ix hs (j : Int)).2 → P ((red : Int), (j : Int), ix far (ix hs (j : Int)).2)) : ∀ k, k ≤ hs.length → ∀ x, iter (cIn hs far red) best k = some x → P x
  | 0, _, x, h => hb x h
  | k + 1, hk, x, h => by
    have ih := cIn_some P hb hc (b := b) k (by omega)
    have h' : cIn hs far red (iter (cIn hs far red) best k) k = some x := h
    cases e : iter (cIn hs far red) best k with
    | none =>
      rw [e] at h'
      unfold cIn at h'
      dsimp only at h'
      split at h'
      · rename_i hcc
        cases h'
        exact hc k (by omega) hcc.1 hcc.2
      · cases h'
    | some y =>
      rw [e] at h'
      unfold cIn at h'
      dsimp only at h'
      split at h'
      · rename_i hcc
        cases h'
        exact hc k (by omega) hcc.1 hcc.2.1
      · cases h'
        exact ih x e
theorem chased_some {n : Nat} {dr : List Door} {hs : List Hand} {ps : List Int} {x : Int × Int × Int} (h : chasedL n dr hs ps = some x) :
    (0 ≤ x.1 ∧ x.1 < hs.length) ∧ (0 ≤ x.2.1 ∧ x.2.1 < hs.length) ∧ (ix hs x.1).1 = [82] ∧ (ix hs x.2.1).1 = [66] ∧ 0 ≤ ix (distM n dr (litB dr ps) (ix hs x.1).2) (ix hs x.2.1).2 := by
  have key : ∀ k, k ≤ hs.length → ∀ x, iter (cOut n dr (litB dr ps) hs) none k = some x → (0 ≤ x.1 ∧ x.1 < hs.length) ∧ (0 ≤ x.2.1 ∧ x.2.1 < hs.length) ∧ (ix hs x.1).1 = [82] ∧ (ix hs x.2.1).1 = [66] ∧ 0 ≤ ix (distM n dr (litB dr ps) (ix hs x.1).2) (ix hs x.2.1).2 := by
    intro k
    induction k with
    | zero => intro _ x h; cases h
    | succ k ih =>
      intro hk x h
      have h' : cOut n dr (litB dr ps) hs (iter (cOut n dr (litB dr ps) hs) none k) k = some x := h
      unfold cOut at h'
      split at h'
      · rename_i hc
        exact cIn_some (b := none) (fun x => (0 ≤ x.1 ∧ x.1 < hs.length) ∧ (0 ≤ x.2.1 ∧ x.2.1 < hs.length) ∧ (ix hs x.1).1 = [82] ∧ (ix hs x.2.1).1 = [66] ∧ 0 ≤ ix (distM n dr (litB dr ps) (ix hs x.1).2) (ix hs x.2.1).2) (fun y hy => ih (by omega) y hy)
          (fun j hj h1 h2 => ⟨⟨by omega, by omega⟩, ⟨by show (0 : Int) ≤ (j : Int); omega, by show (j : Int) < _; omega⟩, hc, h1, h2⟩) hs.length (Nat.le_refl _) x h'
      · exact ih (by omega) x h'
  exact key hs.length (Nat.le_refl _) x h
/-- forced, told by both -/
theorem forced_iff {n : Nat} {dr : List Door} {hs : List Hand} {ps : List Int} (h : Tree n dr) (hP : PlOk dr ps) (hH : HandsIn n hs) : caughtM hs (spreadM n dr hs (lightsM dr ps)) ≠ [] ↔ (pairM n dr hs ps).isSome = true := by
  have hll := lights_len (dr := dr) (ps := ps) hP.l
  have e1 : (pairM n dr hs ps).isSome = true ↔ ¬ chasedL n dr hs ps = none := by
    rw [pair_is h hP hH]
    cases chasedL n dr hs ps <;> simp
  rw [e1, chased_none]
  unfold caughtM
  constructor
  · intro hne hno
    obtain ⟨b, hb⟩ := List.exists_mem_of_ne_nil _ hne
    obtain ⟨hb1, hb2⟩ := List.mem_filter.mp hb
    rw [Bool.and_eq_true] at hb2
    obtain ⟨q, hq, q1, q2⟩ := (seen_iff h hH hll (hH b hb1)).mp hb2.2
    obtain ⟨i, hi⟩ := List.mem_iff_getElem?.mp hq
    obtain ⟨j, hj⟩ := List.mem_iff_getElem?.mp hb1
    have ei := ix_of hi
    have ej := ix_of hj
    refine hno i (List.getElem?_eq_some_iff.mp hi).1 (by rw [ei]; exact q1) j (List.getElem?_eq_some_iff.mp hj).1 ⟨by rw [ej]; exact of_decide_eq_true hb2.1, ?_⟩
    rw [ei, ej]
    exact q2
  · intro hno he
    refine hno fun i hi h1 j hj hc => ?_
    have mi := mem_ix (xs := hs) (k := (i : Int)) (by omega) (by omega)
    have mj := mem_ix (xs := hs) (k := (j : Int)) (by omega) (by omega)
    have hm : ix hs (j : Int) ∈ hs.filter fun h' => decide (h'.1 = [66]) && ix (spreadM n dr hs (lightsM dr ps)) h'.2 := by
      rw [List.mem_filter, Bool.and_eq_true]
      exact ⟨mj, decide_eq_true hc.1, (seen_iff h hH hll (hH _ mj)).mpr ⟨_, mi, h1, hc.2⟩⟩
    rw [he] at hm
    cases hm
end DT

set_option Elab.async false
set_option linter.all false
set_option maxRecDepth 100000
namespace DT
/-! ### trees that grow leaf by leaf -/
structure RootS (rs : List Int) (dr : List Door) (r : Int) (pd pa : Int → Int) : Prop where
  rr : r ∈ rs
  jn : ∀ v ∈ rs, v ≠ r → Joins dr (pd v) v (pa v) ∧ pa v ∈ rs
  inj : ∀ v ∈ rs, ∀ w ∈ rs, v ≠ r → w ≠ r → pd v = pd w → v = w
  on : ∀ d : Int, 0 ≤ d → d < dr.length → ∃ v ∈ rs, v ≠ r ∧ pd v = d
  ch : ∀ v ∈ rs, ∃ k, Chain pa r k v
theorem insAt_get {α : Type} [Inhabited α] (l : List α) (i : Nat) (x : α) (hi : i ≤ l.length) (d : Int) (d0 : 0 ≤ d) (d1 : d < l.length) : ix (insAt l (i : Int) x) (if d < i then d else d + 1) = ix l d := by
  have e : insAt l (i : Int) x = l.take i ++ [x] ++ l.drop i := rfl
  rw [e]
  by_cases h : d < i
  · rw [if_pos h]
    refine ix_some (i := d.toNat) ?_ (by omega)
    rw [List.append_assoc, List.getElem?_append_left (by rw [List.length_take]; omega), List.getElem?_take, if_pos (by omega)]
    exact ix_get d0 d1
  · rw [if_neg h]
    refine ix_some (i := d.toNat + 1) ?_ (by omega)
    rw [List.getElem?_append_right (by simp; omega), List.getElem?_drop]
    have : i + (d.toNat + 1 - (l.take i ++ [x]).length) = d.toNat := by
      rw [List.length_append, List.length_take, Nat.min_eq_left hi]
      simp
      omega
    rw [this]
    exact ix_get d0 d1
theorem insAt_new {α : Type} [Inhabited α] (l : List α) (i : Nat) (x : α) (hi : i ≤ l.length) : ix (insAt l (i : Int) x) (i : Int) = x := by
  have e : insAt l (i : Int) x = l.take i ++ [x] ++ l.drop i := rfl
  rw [e]
  refine ix_some (i := i) ?_ rfl
  rw [List.append_assoc, List.getElem?_append_right (by rw [List.length_take]; omega), List.length_take, Nat.min_eq_left hi]
  simp
theorem insAt_mem {α : Type} (l : List α) (i : Int) (x y : α) : y ∈ insAt l i x ↔ y = x ∨ y ∈ l := by
  unfold insAt
  constructor
  · intro h
    rcases List.mem_append.mp h with h | h
    · rcases List.mem_append.mp h with h | h
      · exact .inr (List.mem_of_mem_take h)
      · exact .inl (by simpa using h)
    · exact .inr (List.mem_of_mem_drop h)
  · rintro (h | h)
    · rw [h]; simp
    · rw [← List.take_append_drop i.toNat l] at h
      rcases List.mem_append.mp h with h | h
      · exact List.mem_append_left _ (List.mem_append_left _ h)
      · exact List.mem_append_right _ h
theorem insAt_nodup {α : Type} {l : List α} {i : Int} {x : α} (h : l.Nodup) (hx : x ∉ l) : (insAt l i x).Nodup := by
  unfold insAt
  have hp : (l.take i.toNat ++ [x] ++ l.drop i.toNat).Perm (x :: l) := by
    rw [List.append_assoc]
    refine (List.perm_middle).trans ?_
    show (x :: (l.take i.toNat ++ l.drop i.toNat)).Perm (x :: l)
    rw [List.take_append_drop]
  exact hp.nodup_iff.mpr (List.nodup_cons.mpr ⟨hx, h⟩)
/-- a leaf more -/
theorem RootS.add {rs : List Int} {dr : List Door} {r a b : Int} {pd pa : Int → Int} (h : RootS rs dr r pd pa) (ha : a ∈ rs) (hb : b ∉ rs) (d : Door) (hd : (d.1 = a ∧ d.2.1 = b) ∨ (d.1 = b ∧ d.2.1 = a)) (i : Nat) (hi : i ≤ dr.length) :
    RootS (rs ++ [b]) (insAt dr (i : Int) d) r (fun v => if v = b then (i : Int) else if pd v < i then pd v else pd v + 1) (fun v => if v = b then a else pa v) := by
  have hrb : r ≠ b := fun z => hb (z ▸ h.rr)
  have old : ∀ v ∈ rs, v ≠ b := fun v hv z => hb (z ▸ hv)
  have hl : (insAt dr (i : Int) d).length = dr.length + 1 := insAt_len _ _ _
  refine ⟨List.mem_append_left _ h.rr, fun v hv hvr => ?_, fun v hv w hw hvr hwr e => ?_, fun k k0 k1 => ?_, fun v hv => ?_⟩
  · by_cases e : v = b
    · subst e
      rw [if_pos rfl, if_pos rfl]
      refine ⟨⟨⟨by omega, by rw [hl]; omega⟩, ?_⟩, List.mem_append_left _ ha⟩
      rw [insAt_new dr i d hi]
      omega
    · have hvm : v ∈ rs := by
        rcases List.mem_append.mp hv with hv | hv
        · exact hv
        · exact absurd (by simpa using hv) e
      obtain ⟨j1, j2⟩ := h.jn v hvm hvr
      rw [if_neg e, if_neg e]
      refine ⟨⟨?_, ?_⟩, List.mem_append_left _ j2⟩
      · have := j1.1
        rw [hl]
        split <;> omega
      · rw [insAt_get dr i d hi (pd v) j1.1.1 j1.1.2]
        exact j1.2
  · by_cases e1 : v = b <;> by_cases e2 : w = b
    · rw [e1, e2]
    · exfalso
      rw [if_pos e1, if_neg e2] at e
      split at e <;> omega
    · exfalso
      rw [if_neg e1, if_pos e2] at e
      split at e <;> omega
    · have hvm : v ∈ rs := by
        rcases List.mem_append.mp hv with hv | hv
        · exact hv
        · exact absurd (by simpa using hv) e1
      have hwm : w ∈ rs := by
        rcases List.mem_append.mp hw with hw | hw
        · exact hw
        · exact absurd (by simpa using hw) e2
      rw [if_neg e1, if_neg e2] at e
      refine h.inj v hvm w hwm hvr hwr ?_
      split at e <;> split at e <;> omega
  · rw [hl] at k1
    by_cases e : k = i
    · exact ⟨b, by simp, fun z => hrb z.symm, by rw [if_pos rfl, e]⟩
    · by_cases hlt : k < i
      · obtain ⟨v, hv, hvr, hp⟩ := h.on k k0 (by omega)
        exact ⟨v, List.mem_append_left _ hv, hvr, by rw [if_neg (old v hv), if_pos (by omega), hp]⟩
      · obtain ⟨v, hv, hvr, hp⟩ := h.on (k - 1) (by omega) (by omega)
        exact ⟨v, List.mem_append_left _ hv, hvr, by rw [if_neg (old v hv), if_neg (by omega), hp]; omega⟩
  · have keep : ∀ {k : Nat} {v : Int}, v ∈ rs → Chain pa r k v → Chain (fun v => if v = b then a else pa v) r k v := by
      intro k v hv hc
      induction hc with
      | root => exact .root
      | @up k v hvr _ ih =>
        refine .up hvr ?_
        rw [if_neg (old v hv)]
        exact ih (h.jn v hv hvr).2
    rcases List.mem_append.mp hv with hv | hv
    · obtain ⟨k, hk⟩ := h.ch v hv
      exact ⟨k, keep hv hk⟩
    · have e : v = b := by simpa using hv
      obtain ⟨k, hk⟩ := h.ch a ha
      refine ⟨k + 1, .up (by rw [e]; exact fun z => hrb z.symm) ?_⟩
      rw [if_pos e]
      exact keep ha hk
theorem RootS.tree {n : Nat} {rs : List Int} {dr : List Door} {r : Int} {pd pa : Int → Int} (h : RootS rs dr r pd pa) (hr : ∀ v, v ∈ rs ↔ Rm n v) : Rooted n dr r pd pa :=
  ⟨(hr r).mp h.rr, fun v hv hvr => ⟨(h.jn v ((hr v).mpr hv) hvr).1, (hr _).mp (h.jn v ((hr v).mpr hv) hvr).2⟩, fun v w hv hw => h.inj v ((hr v).mpr hv) w ((hr w).mpr hw),
    fun d d0 d1 => by
      obtain ⟨v, hv, h1, h2⟩ := h.on d d0 d1
      exact ⟨v, (hr v).mp hv, h1, h2⟩, fun v hv => h.ch v ((hr v).mpr hv)⟩
/-- doors along names: the k-th goes from an earlier name to the next -/
theorem grown {n : Nat} {names : List Int} (hn : 1 ≤ n) (hnl : names.length = n) (hnd : names.Nodup) (hnm : ∀ v, v ∈ names ↔ Rm n v) (dk : Nat → Door) (at_ : Nat → List Door → Nat) (hat : ∀ k l, at_ k l ≤ l.length)
    (hdk : ∀ k : Nat, k < n - 1 → ∃ j : Nat, j ≤ k ∧ (((dk k).1 = ix names (j : Int) ∧ (dk k).2.1 = ix names ((k : Int) + 1)) ∨ ((dk k).1 = ix names ((k : Int) + 1) ∧ (dk k).2.1 = ix names (j : Int)))) :
    ∃ r pd pa, Rooted n (iter (fun l k => insAt l (at_ k l : Nat) (dk k)) [] (n - 1)) r pd pa := by
  have key : ∀ k : Nat, k ≤ n - 1 → ∃ r pd pa, RootS (names.take (k + 1)) (iter (fun l k => insAt l (at_ k l : Nat) (dk k)) [] k) r pd pa := by
    intro k
    induction k with
    | zero =>
      intro _
      have h0 : names[0]? = some (ix names 0) := ix_get (k := (0 : Int)) (by decide) (by omega)
      have e : names.take 1 = [ix names 0] := by
        cases names with
        | nil => simp at h0
        | cons x xs => simp at h0 ⊢; exact h0
      refine ⟨ix names 0, fun _ => 0, fun v => v, ?_⟩
      rw [e]
      exact ⟨by simp, fun v hv hvr => absurd (by simpa using hv) hvr, fun v hv w hw hvr => absurd (by simpa using hv) hvr, fun d d0 d1 => by
        have d1' : d < (([] : List Door).length : Int) := d1
        simp at d1'
        omega, fun v hv => ⟨0, by have : v = ix names 0 := by simpa using hv
                                  rw [this]; exact .root⟩⟩
    | succ k ih =>
      intro hk
      obtain ⟨r, pd, pa, R⟩ := ih (by omega)
      obtain ⟨j, hj, hd⟩ := hdk k (by omega)
      have hb := ix_get (xs := names) (k := ((k + 1 : Nat) : Int)) (by omega) (by omega)
      rw [Int.toNat_natCast] at hb
      have eb : ((k + 1 : Nat) : Int) = (k : Int) + 1 := by omega
      rw [eb] at hb
      have ha := ix_get (xs := names) (k := (j : Int)) (by omega) (by omega)
      rw [Int.toNat_natCast] at ha
      have htk : names.take (k + 1 + 1) = names.take (k + 1) ++ [ix names ((k : Int) + 1)] := by rw [List.take_add_one, hb]; rfl
      have hm : ix names (j : Int) ∈ names.take (k + 1) := by
        refine List.mem_iff_getElem?.mpr ⟨j, ?_⟩
        rw [List.getElem?_take, if_pos (by omega)]
        exact ha
      have hnm2 : ix names ((k : Int) + 1) ∉ names.take (k + 1) := fun hm2 => by
        have h3 : (names.take (k + 1 + 1)).Nodup := hnd.sublist (List.take_sublist _ _)
        rw [htk, List.nodup_append] at h3
        exact h3.2.2 _ hm2 _ (by simp) rfl
      have := R.add hm hnm2 (dk k) hd (at_ k (iter (fun l k => insAt l (at_ k l : Nat) (dk k)) [] k)) (hat _ _)
      rw [← htk] at this
      exact ⟨r, _, _, this⟩
  obtain ⟨r, pd, pa, R⟩ := key (n - 1) (Nat.le_refl _)
  rw [show n - 1 + 1 = names.length by omega, List.take_length] at R
  exact ⟨r, pd, pa, R.tree hnm⟩
theorem grown_len {dk : Nat → Door} {at_ : Nat → List Door → Nat} : ∀ k, (iter (fun l k => insAt l (at_ k l : Nat) (dk k)) [] k).length = k
  | 0 => rfl
  | k + 1 => (insAt_len _ _ _).trans (congrArg (· + 1) (grown_len k))
theorem grown_mem {dk : Nat → Door} {at_ : Nat → List Door → Nat} : ∀ m, ∀ d ∈ iter (fun l k => insAt l (at_ k l : Nat) (dk k)) [] m, ∃ k, k < m ∧ d = dk k
  | 0, d, h => by cases h
  | m + 1, d, h => by
    rcases (insAt_mem _ _ _ _).mp h with e | h
    · exact ⟨m, by omega, e⟩
    · obtain ⟨k, hk, e⟩ := grown_mem m d h
      exact ⟨k, by omega, e⟩
/-- only the ends count -/
theorem Rooted.congr {n : Nat} {dr dr' : List Door} {r : Int} {pd pa : Int → Int} (hl : dr'.length = dr.length) (he : ∀ k : Int, 0 ≤ k → k < dr.length → (ix dr' k).1 = (ix dr k).1 ∧ (ix dr' k).2.1 = (ix dr k).2.1) (h : Rooted n dr r pd pa) : Rooted n dr' r pd pa :=
  ⟨h.rr, fun v hv hvr => by
    obtain ⟨⟨j1, j2⟩, j3⟩ := h.jn v hv hvr
    obtain ⟨e1, e2⟩ := he (pd v) j1.1 j1.2
    exact ⟨⟨by rw [hl]; exact j1, by rw [e1, e2]; exact j2⟩, j3⟩, h.inj, fun d d0 d1 => h.on d d0 (by rw [hl] at d1; exact d1), h.ch⟩
theorem Tree.congr {n : Nat} {dr dr' : List Door} (hl : dr'.length = dr.length) (he : ∀ k : Int, 0 ≤ k → k < dr.length → (ix dr' k).1 = (ix dr k).1 ∧ (ix dr' k).2.1 = (ix dr k).2.1) (h : Tree n dr) : Tree n dr' := by
  have key : ∀ d ∈ dr', ∃ d0 ∈ dr, d.1 = d0.1 ∧ d.2.1 = d0.2.1 := fun d hd => by
    obtain ⟨i, hi⟩ := List.mem_iff_getElem?.mp hd
    have hil := (List.getElem?_eq_some_iff.mp hi).1
    have e := ix_of hi
    obtain ⟨e1, e2⟩ := he (i : Int) (by omega) (by omega)
    exact ⟨_, mem_ix (xs := dr) (k := (i : Int)) (by omega) (by omega), by rw [← e]; exact e1, by rw [← e]; exact e2⟩
  refine ⟨h.n1, h.n2, by rw [hl, h.len], fun d hd => ?_, fun d hd => ?_, fun r hr => ?_⟩
  · obtain ⟨d0, h0, e1, e2⟩ := key d hd
    rw [e1, e2]; exact h.ends d0 h0
  · obtain ⟨d0, h0, e1, e2⟩ := key d hd
    rw [e1, e2]; exact h.ne d0 h0
  · obtain ⟨pd, pa, R⟩ := h.rt r hr
    exact ⟨pd, pa, R.congr hl he⟩
/-- a tree from names and doors -/
theorem grown_tree {n : Nat} {names : List Int} (hn : 1 ≤ n) (hn2 : n ≤ 100) (hnl : names.length = n) (hnd : names.Nodup) (hnm : ∀ v, v ∈ names ↔ Rm n v) (dk : Nat → Door) (at_ : Nat → List Door → Nat) (hat : ∀ k l, at_ k l ≤ l.length)
    (hdk : ∀ k : Nat, k < n - 1 → ∃ j : Nat, j ≤ k ∧ (((dk k).1 = ix names (j : Int) ∧ (dk k).2.1 = ix names ((k : Int) + 1)) ∨ ((dk k).1 = ix names ((k : Int) + 1) ∧ (dk k).2.1 = ix names (j : Int)))) :
    Tree n (iter (fun l k => insAt l (at_ k l : Nat) (dk k)) [] (n - 1)) := by
  obtain ⟨r, pd, pa, R⟩ := grown hn hnl hnd hnm dk at_ hat hdk
  have hk : ∀ k : Nat, k < n - 1 → Rm n (dk k).1 ∧ Rm n (dk k).2.1 ∧ (dk k).1 ≠ (dk k).2.1 := fun k hk => by
    obtain ⟨j, hj, hd⟩ := hdk k hk
    have r1 := (hnm _).mp (mem_ix (xs := names) (k := (j : Int)) (by omega) (by omega))
    have r2 := (hnm _).mp (mem_ix (xs := names) (k := (k : Int) + 1) (by omega) (by omega))
    have hne : ix names (j : Int) ≠ ix names ((k : Int) + 1) := fun e => by
      have a1 := ix_get (xs := names) (k := (j : Int)) (by omega) (by omega)
      have a2 := ix_get (xs := names) (k := (k : Int) + 1) (by omega) (by omega)
      rw [e] at a1
      obtain ⟨q1, q2⟩ := List.getElem?_eq_some_iff.mp a1
      obtain ⟨q3, q4⟩ := List.getElem?_eq_some_iff.mp a2
      have := (List.pairwise_iff_getElem.mp hnd) (j : Int).toNat ((k : Int) + 1).toNat q1 q3 (by omega)
      exact this (q2.trans q4.symm)
    rcases hd with ⟨e1, e2⟩ | ⟨e1, e2⟩
    · rw [e1, e2]; exact ⟨r1, r2, hne⟩
    · rw [e1, e2]; exact ⟨r2, r1, fun z => hne z.symm⟩
  refine ⟨hn, hn2, grown_len _, fun d hd => ?_, fun d hd => ?_, R.all⟩
  · obtain ⟨k, h1, rfl⟩ := grown_mem _ d hd
    obtain ⟨a, b, _⟩ := hk k h1
    exact ⟨a.1, a.2, b.1, b.2⟩
  · obtain ⟨k, h1, rfl⟩ := grown_mem _ d hd
    exact (hk k h1).2.2
end DT

set_option Elab.async false
set_option linter.all false
set_option maxRecDepth 100000
namespace DT
theorem insAt_nat {α : Type} (l : List α) (i : Int) (x : α) : insAt l i x = insAt l ((i.toNat : Nat) : Int) x := by
  unfold insAt
  rw [Int.toNat_natCast]
theorem perm_ins (f : Nat → List Int → Int) : ∀ n : Nat, (iter (fun l k => insAt l (f k l) (k : Int)) [] n).length = n ∧ (iter (fun l k => insAt l (f k l) (k : Int)) [] n).Nodup ∧ ∀ v, v ∈ iter (fun l k => insAt l (f k l) (k : Int)) [] n ↔ Rm n v
  | 0 => ⟨rfl, List.nodup_nil, fun v => ⟨fun h => (by cases h), fun h => (by unfold Rm at h; omega)⟩⟩
  | n + 1 => by
    obtain ⟨h1, h2, h3⟩ := perm_ins f n
    refine ⟨(insAt_len _ _ _).trans (congrArg (· + 1) h1), insAt_nodup h2 fun hm => ?_, fun v => ?_⟩
    · have := (h3 _).mp hm
      unfold Rm at this
      omega
    · refine (insAt_mem _ _ _ _).trans ?_
      rw [h3]
      unfold Rm
      omega
theorem emod_at (x : Int) (m : Nat) : (x % ((m : Int) + 1)).toNat ≤ m := by
  have h1 := Int.emod_lt_of_pos x (show (0 : Int) < (m : Int) + 1 by omega)
  have h2 := Int.emod_nonneg x (show (m : Int) + 1 ≠ 0 by omega)
  omega
theorem house_tree (c : Int) : Tree (houseM c).1 (houseM c).2 := by
  obtain ⟨n1, n6, _⟩ := roomsM_bd c
  unfold houseM
  dsimp only
  generalize rowM c hsz = row at *
  generalize roomsM row = n at *
  have hp := perm_ins (fun k l => ix row (2 + (k : Int))) n
  have hnames : namesM row n = iter (fun l k => insAt l (ix row (2 + (k : Int))) (k : Int)) [] n := rfl
  rw [← hnames] at hp
  have e : doorsM row n = iter (fun (l : List Door) (k : Nat) => insAt l (((ix row (8 + (k : Int) * 7 + 3) % ((l.length : Int) + 1)).toNat : Nat) : Int) (newDoor row (namesM row n) k)) [] (n - 1) := by
    unfold doorsM
    have : doorStep row (namesM row n) = fun (l : List Door) (k : Nat) => insAt l (((ix row (8 + (k : Int) * 7 + 3) % ((l.length : Int) + 1)).toNat : Nat) : Int) (newDoor row (namesM row n) k) := by
      funext l k
      unfold doorStep
      exact insAt_nat _ _ _
    rw [this]
  rw [e]
  refine grown_tree n1 (by omega) hp.1 hp.2.1 hp.2.2 (newDoor row (namesM row n)) (fun k l => (ix row (8 + (k : Int) * 7 + 3) % ((l.length : Int) + 1)).toNat) (fun k l => emod_at _ _) (fun k hk => ?_)
  refine ⟨(ix row (8 + (k : Int) * 7) % ((k : Int) + 1)).toNat, emod_at _ _, ?_⟩
  have h2 := Int.emod_nonneg (ix row (8 + (k : Int) * 7)) (show (k : Int) + 1 ≠ 0 by omega)
  rw [Int.toNat_of_nonneg h2]
  unfold newDoor
  split
  · exact .inr ⟨rfl, rfl⟩
  · exact .inl ⟨rfl, rfl⟩
theorem laid_tree (c : Int) (n : Nat) (dr : List Door) (n1 : 1 ≤ n) (n2 : n ≤ 100) : Tree n (laidM c n dr) := by
  unfold laidM
  generalize rowM c (sz60 n) = row
  have hp := perm_ins (fun k l => ix row (k : Int) % ((k : Int) + 1)) n
  have hnames : ordL row n = iter (fun l k => insAt l (ix row (k : Int) % ((k : Int) + 1)) (k : Int)) [] n := rfl
  rw [← hnames] at hp
  have e : laidRun row (ordL row n) dr (n - 1) = iter (fun (l : List Door) (k : Nat) => insAt l ((((ix row (k : Int) / 7) % ((l.length : Int) + 1)).toNat : Nat) : Int) (laidD row (ordL row n) dr k)) [] (n - 1) := by
    unfold laidRun
    have : laidStep row (ordL row n) dr = fun (l : List Door) (k : Nat) => insAt l ((((ix row (k : Int) / 7) % ((l.length : Int) + 1)).toNat : Nat) : Int) (laidD row (ordL row n) dr k) := by
      funext l k
      unfold laidStep
      exact insAt_nat _ _ _
    rw [this]
  rw [e]
  refine grown_tree n1 n2 hp.1 hp.2.1 hp.2.2 (laidD row (ordL row n) dr) (fun k l => ((ix row (k : Int) / 7) % ((l.length : Int) + 1)).toNat) (fun k l => emod_at _ _) (fun k hk => ?_)
  refine ⟨k, Nat.le_refl _, ?_⟩
  unfold laidD
  by_cases h : 30 ≤ ix row (k : Int)
  · rw [if_pos h, if_pos h]; exact .inr ⟨rfl, rfl⟩
  · rw [if_neg h, if_neg h]; exact .inl ⟨rfl, rfl⟩
/-! ### swift cycles -/
theorem swiftRun_map (row : List Int) (dr : List Door) : ∀ k, swiftRun row dr k = (List.range k).map fun i : Nat => ((ix dr (i : Int)).1, (ix dr (i : Int)).2.1, swiftC row i)
  | 0 => rfl
  | k + 1 => by
    show swiftRun row dr k ++ _ = _
    rw [swiftRun_map row dr k, List.range_succ, List.map_append]; rfl
theorem swiftL_at (c : Int) (dr : List Door) (k : Int) (k0 : 0 ≤ k) (k1 : k < dr.length) : ix (swiftL c dr) k = ((ix dr k).1, (ix dr k).2.1, swiftC (rowM c (sz5 dr.length)) k.toNat) := by
  unfold swiftL
  rw [swiftRun_map]
  refine ix_some (i := k.toNat) ?_ (by omega)
  rw [List.getElem?_map, List.getElem?_range (by omega)]
  show some (_, _, _) = _
  rw [Int.toNat_of_nonneg k0]
theorem swiftL_len (c : Int) (dr : List Door) : (swiftL c dr).length = dr.length := swiftRun_len _ _ _
theorem swift_tree {n : Nat} {dr : List Door} (c : Int) (h : Tree n dr) : Tree n (swiftL c dr) := h.congr (swiftL_len c dr) fun k k0 k1 => by rw [swiftL_at c dr k k0 k1]; exact ⟨rfl, rfl⟩
def Good66 (l : List Nat) : Prop := twin 66 l = false ∧ (∃ r, l = 82 :: r) ∧ (∀ q ∈ l, q = 82 ∨ q = 66) ∧ 66 ∈ l
theorem twin_app {l : List Nat} : ∀ {m : List Nat}, twin 66 l = false → twin 66 m = false → (∃ r, m = 82 :: r) → twin 66 (l ++ m) = false := by
  intro m h1 h2 ⟨r, hr⟩
  cases e : twin 66 (l ++ m) with
  | false => rfl
  | true =>
    exfalso
    obtain ⟨i, a, b⟩ := (twin_iff 66 _).mp e
    by_cases hi : i + 1 < l.length
    · rw [List.getElem?_append_left (by omega)] at a
      rw [List.getElem?_append_left hi] at b
      have := (twin_iff 66 l).mpr ⟨i, a, b⟩
      rw [h1] at this; cases this
    · by_cases hj : i < l.length
      · rw [List.getElem?_append_right (by omega), show i + 1 - l.length = 0 by omega, hr] at b
        simp at b
      · rw [List.getElem?_append_right (by omega)] at a b
        rw [show i + 1 - l.length = i - l.length + 1 by omega] at b
        have := (twin_iff 66 m).mpr ⟨_, a, b⟩
        rw [h2] at this; cases this
theorem Good66.app {l m : List Nat} (a : Good66 l) (b : Good66 m) : Good66 (l ++ m) := by
  obtain ⟨a1, ⟨r, a2⟩, a3, a4⟩ := a
  obtain ⟨b1, b2, b3, b4⟩ := b
  refine ⟨twin_app a1 b1 b2, ⟨r ++ m, by rw [a2]; rfl⟩, fun q hq => ?_, List.mem_append_left _ a4⟩
  rcases List.mem_append.mp hq with hq | hq
  · exact a3 q hq
  · exact b3 q hq
theorem part_good {x : Int} (h0 : 0 ≤ x) (h3 : x < 3) : Good66 (ix parts x) := by
  have : x = 0 ∨ x = 1 ∨ x = 2 := by omega
  rcases this with rfl | rfl | rfl
  · exact ⟨by decide, ⟨[66], rfl⟩, by decide, by decide⟩
  · exact ⟨by decide, ⟨[82, 66], rfl⟩, by decide, by decide⟩
  · exact ⟨by decide, ⟨[82, 82, 66], rfl⟩, by decide, by decide⟩
theorem letS_good {row : List Int} {k : Nat} : ∀ j, (∀ i : Nat, i < j + 1 → 0 ≤ ix row (5 * (k : Int) + 1 + (i : Int)) ∧ ix row (5 * (k : Int) + 1 + (i : Int)) < 3) → Good66 (letS row k (j + 1))
  | 0, h => by
    obtain ⟨h0, h1⟩ := h 0 (by omega)
    have e : letS row k 1 = ix parts (ix row (5 * (k : Int) + 1 + ((0 : Nat) : Int))) := by
      show [] ++ _ = _
      rw [List.nil_append]
    rw [e]
    exact part_good h0 h1
  | j + 1, h => by
    have ih := letS_good j fun i hi => h i (by omega)
    obtain ⟨h0, h1⟩ := h (j + 1) (by omega)
    exact ih.app (part_good h0 h1)
theorem twin_infix {p l s : List Nat} (h : twin 66 (p ++ l ++ s) = false) : twin 66 l = false := by
  cases e : twin 66 l with
  | false => rfl
  | true =>
    exfalso
    obtain ⟨i, a, b⟩ := (twin_iff 66 _).mp e
    have hi := (List.getElem?_eq_some_iff.mp b).1
    have : twin 66 (p ++ l ++ s) = true := (twin_iff 66 _).mpr ⟨p.length + i, by
      rw [List.append_assoc, List.getElem?_append_right (by omega), List.getElem?_append_left (by omega), show p.length + i - p.length = i by omega]
      exact a, by
      rw [List.append_assoc, List.getElem?_append_right (by omega), List.getElem?_append_left (by omega), show p.length + i + 1 - p.length = i + 1 by omega]
      exact b⟩
    rw [h] at this; cases this
theorem swiftC_ok {row : List Int} {k : Nat} {m : Nat} (hk : k < m) (hb : ∀ i : Int, 0 ≤ i → i < 5 * m → 0 ≤ ix row i ∧ ix row i < ix (sz5 m) i) : CyOk (swiftC row k) ∧ twin 66 (swiftC row k ++ swiftC row k) = false ∧ 0 < (swiftC row k).length := by
  obtain ⟨z0, z1, z2, z3, z4⟩ := sz5_at m k hk
  have b0 := hb (5 * (k : Int)) (by omega) (by omega)
  have b1 := hb (5 * (k : Int) + 1) (by omega) (by omega)
  have b2 := hb (5 * (k : Int) + 2) (by omega) (by omega)
  have b3 := hb (5 * (k : Int) + 3) (by omega) (by omega)
  rw [z0] at b0
  rw [z1] at b1
  rw [z2] at b2
  rw [z3] at b3
  have hpt : ∀ j : Nat, j < 3 → 0 ≤ ix row (5 * (k : Int) + 1 + (j : Int)) ∧ ix row (5 * (k : Int) + 1 + (j : Int)) < 3 := fun j hj => by
    have : j = 0 ∨ j = 1 ∨ j = 2 := by omega
    rcases this with rfl | rfl | rfl
    · simpa using b1
    · have e : 5 * (k : Int) + 1 + ((1 : Nat) : Int) = 5 * (k : Int) + 2 := by omega
      rw [e]; exact b2
    · have e : 5 * (k : Int) + 1 + ((2 : Nat) : Int) = 5 * (k : Int) + 3 := by omega
      rw [e]; exact b3
  obtain ⟨j, hj⟩ : ∃ j : Nat, (1 + ix row (5 * (k : Int))).toNat = j + 1 := ⟨(ix row (5 * (k : Int))).toNat, by omega⟩
  have hg : Good66 (letF row k) := by
    unfold letF
    rw [hj]
    exact letS_good j fun i hi => hpt i (by omega)
  have hlen := letS_bd row k (1 + ix row (5 * (k : Int))).toNat fun i hi => hpt i (by omega)
  have hlen' : (letF row k).length ≤ 12 := by
    show (letS row k _).length ≤ 12
    omega
  unfold swiftC
  generalize letF row k = l at *
  generalize turnOf row k = t
  obtain ⟨g1, ⟨r, g2⟩, g3, g4⟩ := hg
  have hm : ∀ q, q ∈ l.drop t ++ l.take t ↔ q ∈ l := fun q => by
    conv => rhs; rw [← List.take_append_drop t l]
    rw [List.mem_append, List.mem_append]
    exact Or.comm
  have hll : (l.drop t ++ l.take t).length = l.length := by
    rw [List.length_append, List.length_drop, List.length_take]; omega
  refine ⟨⟨fun q hq => g3 q ((hm q).mp hq), (hm 82).mpr (by rw [g2]; exact List.mem_cons_self), (hm 66).mpr g4, by omega⟩, ?_, by rw [hll, g2]; simp⟩
  have h3 : twin 66 (l ++ l ++ l) = false := by
    have : Good66 l := ⟨g1, ⟨r, g2⟩, g3, g4⟩
    exact ((this.app this).app this).1
  have e : l.take t ++ (l.drop t ++ l.take t ++ (l.drop t ++ l.take t)) ++ l.drop t = l ++ l ++ l := by
    have e1 := List.take_append_drop t l
    calc _ = (l.take t ++ l.drop t) ++ (l.take t ++ l.drop t) ++ (l.take t ++ l.drop t) := by simp only [List.append_assoc]
      _ = _ := by rw [e1]
  rw [← e] at h3
  exact twin_infix h3
theorem swiftL_doors {c : Int} {dr : List Door} (hl : dr.length ≤ 100) : (∀ d ∈ swiftL c dr, CyOk d.2.2 ∧ 0 < d.2.2.length) ∧ swiftM (swiftL c dr) = true := by
  have key : ∀ d ∈ swiftL c dr, CyOk d.2.2 ∧ twin 66 (d.2.2 ++ d.2.2) = false ∧ 0 < d.2.2.length := fun d hd => by
    obtain ⟨i, hi⟩ := List.mem_iff_getElem?.mp hd
    have hil := (List.getElem?_eq_some_iff.mp hi).1
    rw [swiftL_len] at hil
    have e := ix_of hi
    rw [swiftL_at c dr (i : Int) (by omega) (by omega)] at e
    rw [← e]
    exact swiftC_ok (m := dr.length) (by omega) fun j j0 j1 => rowM_bd c (sz5 dr.length) (sz5_ok _ hl) j j0 (by rw [sz5_len]; omega)
  refine ⟨fun d hd => ⟨(key d hd).1, (key d hd).2.2⟩, ?_⟩
  unfold swiftM
  rw [List.all_eq_true]
  intro d hd
  obtain ⟨_, h2, h3⟩ := key d hd
  rw [← twin_two 66 d.2.2 h3, h2]
  rfl
end DT

set_option Elab.async false
set_option linter.all false
set_option maxRecDepth 100000
namespace DT
structure Good (n : Nat) (dr : List Door) (hs : List Hand) (ps : List Int) : Prop where
  t : Tree n dr
  cy : ∀ d ∈ dr, CyOk d.2.2 ∧ 0 < d.2.2.length
  sw : swiftM dr = true
  p : PlOk dr ps
  h : HandsIn n hs
  lt : ∀ h ∈ hs, h.1 = [82] ∨ h.1 = [66]
  hl : hs.length ≤ 100
section
variable {n : Nat} {dr : List Door} {hs : List Hand} {ps : List Int}
theorem Good.cl (g : Good n dr hs ps) : CyLen dr := ⟨g.t.dl, fun d hd => ⟨(g.cy d hd).2, (g.cy d hd).1.2.2.2⟩⟩
theorem Good.wf (g : Good n dr hs ps) : Wf dr hs := ⟨by have := g.t.dl; omega, fun d hd => ⟨(g.cy d hd).2, (g.cy d hd).1.2.2.2⟩, fun h hh => by rcases g.lt h hh with e | e <;> rw [e] <;> decide⟩
theorem Good.codes (g : Good n dr hs ps) : HCodes hs := fun h hh c hc => by
  rcases g.lt h hh with e | e <;> rw [e] at hc <;> simp at hc <;> omega
theorem Good.fits (g : Good n dr hs ps) : fitsM n dr [82, 66] hs ps = true := by
  unfold fitsM
  rw [zip_range g.p.l]
  simp only [Bool.and_eq_true, decide_eq_true_eq, List.all_eq_true]
  refine ⟨⟨by have := g.p.l; omega, fun q hq => ?_⟩, fun h hh => ⟨?_, g.h h hh⟩⟩
  · obtain ⟨i, hi, rfl⟩ := List.mem_map.mp hq
    exact g.p.b (i : Int) (by omega) (by have := List.mem_range.mp hi; omega)
  · rcases g.lt h hh with e | e <;> rw [e] <;> decide +kernel
theorem Good.need (g : Good n dr hs ps) {ks : List Int} (hk : knownM hs ks = true) : needM n dr [82, 66] hs ps ks = none := by
  have hm : noMaster hs = true := by
    unfold noMaster
    rw [List.all_eq_true]
    intro h hh
    rcases g.lt h hh with e | e <;> rw [e] <;> decide
  have hl : ¬ (dr.length : Int) ≠ (n : Int) - 1 := by
    have h1 := g.t.len
    have h2 := g.t.n1
    omega
  unfold needM
  rw [if_neg (by rw [g.fits]; simp), if_neg (by rw [hk]; simp), if_neg (by simp), if_neg (by rw [hm]; simp), if_neg hl, if_neg (by rw [g.sw]; simp)]
theorem Good.pair (g : Good n dr hs ps) (ks : List Int) : PairOk n dr [82, 66] hs ps ks := ⟨g.wf, fun _ => ⟨g.t.house, by have := g.hl; omega⟩⟩
theorem Good.state (g : Good n dr hs ps) : GState n dr hs ps := ⟨g.t.graph, g.p, g.h, g.codes, g.hl⟩
theorem Good.seen (g : Good n dr hs ps) : SeenOk n dr hs ps := ⟨g.state, g.pair [], g.need rfl, forced_iff g.t g.p g.h, pair_is g.t g.p g.h⟩
theorem Good.paired (g : Good n dr hs ps) (a b : Int) : PairedIn n dr hs ps a b (wayL n dr (ix hs a).2 (ix hs b).2) := by
  have key : needM n dr [82, 66] hs ps [a, b] = none → Rm n (ix hs a).2 ∧ Rm n (ix hs b).2 := fun hN => by
    have hk := need_known hN
    unfold knownM at hk
    simp at hk
    exact ⟨g.h _ (mem_ix hk.1.1 hk.1.2), g.h _ (mem_ix hk.2.1 hk.2.2)⟩
  refine ⟨⟨g.wf, g.t.dl, g.hl, fun d hd => (g.cy d hd).1, fun _ hN => ?_⟩, g.pair _, fun hN => ?_⟩
  · obtain ⟨ha, hb⟩ := key hN
    obtain ⟨w1, w2, w3⟩ := g.t.way ha hb
    exact ⟨g.t.graph, rfl, by omega, w3⟩
  · obtain ⟨ha, hb⟩ := key hN
    exact (g.t.way ha hb).1
end
/-! ### the first state -/
theorem hands_mem {row : List Int} : ∀ k, ∀ h ∈ handsRun row k, ∃ i : Nat, i < k ∧ h = ([ix [82, 66] (ix row (1 + 2 * (i : Int)))], ix row (2 + 2 * (i : Int)))
  | 0, h, hh => by cases hh
  | k + 1, h, hh => by
    have hh' : h ∈ handsRun row k ++ [([ix [82, 66] (ix row (1 + 2 * (k : Int)))], ix row (2 + 2 * (k : Int)))] := hh
    rcases List.mem_append.mp hh' with h1 | h1
    · obtain ⟨i, hi, e⟩ := hands_mem k h h1
      exact ⟨i, by omega, e⟩
    · exact ⟨k, by omega, by simpa using h1⟩
theorem hands_ok (c : Int) (n m : Nat) (h1 : 1 ≤ n) (h2 : n ≤ 100) (h3 : m ≤ 50) : (∀ h ∈ handsM c n m, (h.1 = [82] ∨ h.1 = [66]) ∧ Rm n h.2) ∧ (handsM c n m).length ≤ 50 := by
  have hb := rowM_bd c (hdSizes n m) (hdSizes_ok n m h1 h2 (by omega))
  have hsl := hdSizes_len n m
  unfold handsM
  generalize rowM c (hdSizes n m) = row at *
  have b0 := hb 0 (by decide) (by omega)
  have e0 : ix (hdSizes n m) 0 = (m : Int) + 1 := rfl
  rw [e0] at b0
  refine ⟨fun h hh => ?_, by rw [handsRun_len]; omega⟩
  obtain ⟨i, hi, e⟩ := hands_mem _ h hh
  have him : i < m := by omega
  obtain ⟨z1, z2⟩ := hdSizes_at n m i him
  have b1 := hb (1 + 2 * (i : Int)) (by omega) (by omega)
  have b2 := hb (2 + 2 * (i : Int)) (by omega) (by omega)
  rw [z1] at b1
  rw [z2] at b2
  rw [e]
  refine ⟨?_, b2⟩
  have : ix row (1 + 2 * (i : Int)) = 0 ∨ ix row (1 + 2 * (i : Int)) = 1 := by omega
  rcases this with e | e <;> rw [e]
  · exact .inl rfl
  · exact .inr rfl
theorem places_ok (c : Int) {dr : List Door} (h : CyLen dr) : PlOk dr (placesM c dr) := by
  have hb := rowM_bd c _ (pl_ok h)
  refine ⟨by unfold placesM; rw [rowM_len, List.length_map], fun k k0 k1 => ?_, h⟩
  have := hb k k0 (by rw [List.length_map]; exact k1)
  rw [ix_map k0 k1] at this
  exact this
theorem marks_in {cyc letter : List Nat} {x : Int} (h : x ∈ marksM cyc letter) : 0 ≤ x ∧ x < cyc.length := by
  unfold marksM marksN at h
  obtain ⟨m, hm, rfl⟩ := List.mem_map.mp h
  have := List.mem_range.mp (List.mem_filter.mp hm).1
  omega
theorem lit_ok {dr : List Door} {ps way : List Int} {last b5 : Int} (h : PlOk dr ps) : ∀ k, k ≤ dr.length → PlOk dr (litRun dr way last b5 ps k)
  | 0, _ => h
  | k + 1, hk => by
    have ih := lit_ok (way := way) (last := last) (b5 := b5) h k (by omega)
    show PlOk dr (litStep dr way last b5 (litRun dr way last b5 ps k) k)
    unfold litStep
    split
    · exact ih
    · rename_i hne
      have hpos := List.length_pos_iff.mpr hne
      have m1 := Int.emod_lt_of_pos (ix (litRun dr way last b5 ps k) (k : Int)) (show (0 : Int) < ((marksM (ix dr (k : Int)).2.2 (lLetter (ix dr (k : Int)) k way last b5)).length : Int) by omega)
      have m2 := Int.emod_nonneg (ix (litRun dr way last b5 ps k) (k : Int)) (show ((marksM (ix dr (k : Int)).2.2 (lLetter (ix dr (k : Int)) k way last b5)).length : Int) ≠ 0 by omega)
      have hm := marks_in (mem_ix m2 m1)
      have hl := ih.l
      refine ⟨by rw [List.length_set]; exact hl, fun j j0 j1 => ?_, h.c⟩
      have e := ix_set (n := dr.length) (l := litRun dr way last b5 ps k) (x := (k : Int)) (v := j) (a := ix (marksM (ix dr (k : Int)).2.2 (lLetter (ix dr (k : Int)) k way last b5)) (ix (litRun dr way last b5 ps k) (k : Int) % ((marksM (ix dr (k : Int)).2.2 (lLetter (ix dr (k : Int)) k way last b5)).length : Int))) hl ⟨by omega, by omega⟩ ⟨j0, j1⟩
      rw [Int.toNat_natCast] at e
      rw [e]
      by_cases ej : j = k
      · rw [if_pos ej, ej]; exact hm
      · rw [if_neg ej]; exact ih.b j j0 j1
theorem lured_ok (c : Int) {n : Nat} {dr : List Door} {hs : List Hand} {ps : List Int} (g : Good n dr hs ps) (hl : hs.length ≤ 50) : Good n dr (luredM c n dr hs ps).1 (luredM c n dr hs ps).2 := by
  have n1 := g.t.n1
  unfold luredM
  dsimp only
  generalize rowM c lsz = bits
  have m1 := Int.emod_lt_of_pos (ix bits 0) (show (0 : Int) < (n : Int) by omega)
  have m2 := Int.emod_nonneg (ix bits 0) (show (n : Int) ≠ 0 by omega)
  have hlast : Rm n (lLast bits n) := ⟨m2, m1⟩
  generalize lLast bits n = last at *
  have hfl := distM_len (us := allT dr) g.t.ends hlast
  have hnear : Rm n (lNear bits n (distM n dr (allT dr) last)) := by
    unfold lNear
    split
    · exact ⟨Int.emod_nonneg _ (by omega), Int.emod_lt_of_pos _ (by omega)⟩
    · have := (argM_ok (ns := distM n dr (allT dr) last) (by intro z; rw [z] at hfl; simp at hfl; omega)).1
      exact ⟨by omega, by omega⟩
  generalize lNear bits n (distM n dr (allT dr) last) = near at *
  have hm : ∀ h, h ∈ lHands bits hs near last → h = (([66] : List Nat), last) ∨ h = (([82] : List Nat), near) ∨ h ∈ hs := fun h hh => by
    unfold lHands at hh
    rcases (insAt_mem _ _ _ _).mp hh with e | hh
    · exact .inl e
    · exact .inr ((insAt_mem _ _ _ _).mp hh)
  refine ⟨g.t, g.cy, g.sw, lit_ok g.p dr.length (Nat.le_refl _), fun h hh => ?_, fun h hh => ?_, ?_⟩
  · rcases hm h hh with e | e | e
    · rw [e]; exact hlast
    · rw [e]; exact hnear
    · exact g.h h e
  · rcases hm h hh with e | e | e
    · rw [e]; exact .inr rfl
    · rw [e]; exact .inl rfl
    · exact g.lt h e
  · unfold lHands
    rw [insAt_len, insAt_len]
    omega
theorem roomy_tree (c : Int) (w : Bool) : Tree (roomyM c w).1 (roomyM c w).2 := by
  obtain ⟨c', e⟩ := roomy_is c w 6
  have : roomyM c w = houseM c' := e
  rw [this]
  exact house_tree c'
theorem roomy_six (c : Int) (w : Bool) : (roomyM c w).1 ≤ 6 := by
  obtain ⟨c', e⟩ := roomy_is c w 6
  have : roomyM c w = houseM c' := e
  rw [this]
  exact (roomsM_bd c').2.1
theorem dr1_tree (ns : List Int) : Tree (nM ns) (dr1M ns) := by
  have h0 := roomy_tree (cellM ns 0) (decide (0 < ix (pickM ns) 5))
  unfold dr1M
  split
  · exact laid_tree _ _ _ h0.n1 h0.n2
  · exact h0
theorem dr_tree (ns : List Int) : Tree (nM ns) (drM ns) := swift_tree _ (dr1_tree ns)
theorem hm_le (ns : List Int) : hmM ns ≤ 5 := by
  have hb := rowM_bd (cellM ns 5) szP szP_ok 0 (by decide) (by decide)
  have e : ix szP 0 = 6 := by decide
  rw [e] at hb
  have hm := mem_ix (xs := mosts) hb.1 (by show _ < (6 : Int); exact hb.2)
  have : ∀ x ∈ mosts, (0 : Int) ≤ x ∧ x ≤ 5 := by decide
  have := this _ hm
  unfold hmM pickM
  omega
theorem good_st (ns : List Int) : Good (nM ns) (drM ns) (stM ns).1 (stM ns).2 := by
  have ht := dr_tree ns
  obtain ⟨d1, d2⟩ := swiftL_doors (c := cellM ns 3) (dr := dr1M ns) (dr1_tree ns).dl
  have hcl : CyLen (drM ns) := ⟨ht.dl, fun d hd => ⟨(d1 d hd).2, (d1 d hd).1.2.2.2⟩⟩
  obtain ⟨h1, h2⟩ := hands_ok (cellM ns 1) (nM ns) (hmM ns) ht.n1 ht.n2 (by have := hm_le ns; omega)
  have g0 : Good (nM ns) (drM ns) (hs0M ns) (ps0M ns) := ⟨ht, d1, d2, places_ok _ hcl, fun h hh => (h1 h hh).2, fun h hh => (h1 h hh).1, by show (handsM _ _ _).length ≤ 100; omega⟩
  unfold stM
  split
  · exact lured_ok _ g0 h2
  · exact g0
end DT

set_option Elab.async false
set_option linter.all false
set_option maxRecDepth 100000
namespace DT
/-! ### connected -/
theorem conn_ends {n : Nat} {dr dr' : List Door} : ∀ k : Nat, (∀ j : Nat, j < k → (ix dr' (j : Int)).1 = (ix dr (j : Int)).1 ∧ (ix dr' (j : Int)).2.1 = (ix dr (j : Int)).2.1) → connRun n dr' k = connRun n dr k
  | 0, _ => rfl
  | k + 1, h => by
    have ih := conn_ends (n := n) k fun j hj => h j (by omega)
    obtain ⟨e1, e2⟩ := h k (by omega)
    show connStep dr' (connRun n dr' k) k = connStep dr (connRun n dr k) k
    rw [ih]
    unfold connStep
    rw [e1, e2]
theorem conn_tree {n : Nat} {dr : List Door} (h : Tree n dr) : ConnOk n dr := by
  have hE := h.ends
  have key : ∀ k : Nat, k ≤ dr.length → ∀ j : Nat, j < k → ix (connRun n dr k) (ix dr (j : Int)).1 = ix (connRun n dr k) (ix dr (j : Int)).2.1 := by
    intro k
    induction k with
    | zero => intro _ j hj; omega
    | succ k ih =>
      intro hk j hj
      have hl := connRun_len n dr k
      have hjd := hE _ (mem_ix (xs := dr) (k := (j : Int)) (by omega) (by omega))
      have hkd := hE _ (mem_ix (xs := dr) (k := (k : Int)) (by omega) (by omega))
      have at_ : ∀ v, Rm n v → ix (connRun n dr (k + 1)) v = if ix (connRun n dr k) v = ix (connRun n dr k) (ix dr (k : Int)).1 then ix (connRun n dr k) (ix dr (k : Int)).2.1 else ix (connRun n dr k) v := fun v hv => ix_map hv.1 (by have := hv.2; have h5 := connRun_len n dr k; unfold connRun at h5; omega)
      rw [at_ _ ⟨hjd.1, hjd.2.1⟩, at_ _ ⟨hjd.2.2.1, hjd.2.2.2⟩]
      by_cases e : j = k
      · subst e
        rw [if_pos rfl]
        split <;> rfl
      · rw [ih (by omega) j (by omega)]
  obtain ⟨pd, pa, R⟩ := h.rt 0 ⟨by decide, by have := h.n1; omega⟩
  have hl := connRun_len n dr dr.length
  have all : ∀ v, Rm n v → ix (connRun n dr dr.length) v = ix (connRun n dr dr.length) 0 := by
    intro v hv
    obtain ⟨k, hk⟩ := R.ch v hv
    induction hk with
    | root => rfl
    | @up k v hvr _ ih =>
      obtain ⟨⟨j1, j2⟩, j3⟩ := R.jn v hv hvr
      have e := key dr.length (Nat.le_refl _) (pd v).toNat (by omega)
      rw [Int.toNat_of_nonneg j1.1] at e
      rw [← ih j3]
      rcases j2 with ⟨e1, e2⟩ | ⟨e1, e2⟩
      · rw [e1, e2] at e; exact e
      · rw [e1, e2] at e; exact e.symm
  refine ⟨ix (connRun n dr dr.length) 0, fun m hm => ?_⟩
  obtain ⟨i, hi⟩ := List.mem_iff_getElem?.mp hm
  have := ix_of hi
  rw [← this]
  exact all (i : Int) ⟨by omega, by have := (List.getElem?_eq_some_iff.mp hi).1; omega⟩
theorem conn_app {n : Nat} {dr : List Door} (x : Door) (h : ConnOk n dr) (hx : EndsOk n [x]) : ConnOk n (dr ++ [x]) := by
  obtain ⟨c, hc⟩ := h
  have e : connRun n (dr ++ [x]) dr.length = connRun n dr dr.length := conn_ends _ fun j hj => by rw [ix_pre hj]; exact ⟨rfl, rfl⟩
  refine ⟨c, fun m hm => ?_⟩
  rw [List.length_append] at hm
  have hm' : m ∈ connStep (dr ++ [x]) (connRun n (dr ++ [x]) dr.length) dr.length := hm
  rw [e] at hm'
  unfold connStep at hm'
  obtain ⟨l, hl, rfl⟩ := List.mem_map.mp hm'
  have ex : ix (dr ++ [x]) (dr.length : Int) = x := ix_last rfl
  obtain ⟨_, _, x3, x4⟩ := hx x (by simp)
  rw [ex]
  split
  · exact hc _ (mem_ix x3 (by rw [connRun_len]; exact x4))
  · exact hc _ hl
/-! ### the spoilt states -/
structure SpI (n : Nat) (b : Bad) (k : Nat) : Prop where
  dr : ∀ d ∈ b.dr, DrOk n d
  cn : ConnOk n b.dr
  lo : n - 1 ≤ b.dr.length
  hi : b.dr.length ≤ n - 1 + k
  tr : b.dr.length = n - 1 → Tree n b.dr
  t : TwoT b.t
  hl : b.hs.length ≤ 80 + k
  ht : ∀ h ∈ b.hs, h.1.length ≤ 1
  pl : b.dr.length ≤ b.ps.length
  pm : b.ps.length ≤ n + 2 * k
theorem cuts_ok {bit : Int} (h0 : 0 ≤ bit) (h4 : bit < 4) : CyOk (ix cuts bit) := by
  have : bit = 0 ∨ bit = 1 ∨ bit = 2 ∨ bit = 3 := by omega
  rcases this with rfl | rfl | rfl | rfl
  · exact ⟨by decide, by decide, by decide, by decide⟩
  · exact ⟨by decide, by decide, by decide, by decide⟩
  · exact ⟨by decide, by decide, by decide, by decide⟩
  · exact ⟨by decide, by decide, by decide, by decide⟩
theorem cy_rb : CyOk [82, 66] := ⟨by decide, by decide, by decide, by decide⟩
theorem SpI.spoil {n : Nat} {b : Bad} {k : Nat} {kind bit : Int} (h : SpI n b k) (hn : 1 ≤ n) (b0 : 0 ≤ bit) (b4 : bit < 4) : SpI n (spoilM kind bit n b) (k + 1) := by
  have up : SpI n b (k + 1) := ⟨h.dr, h.cn, h.lo, by have := h.hi; omega, h.tr, h.t, by have := h.hl; omega, h.ht, h.pl, by have := h.pm; omega⟩
  unfold spoilM
  split
  · exact ⟨h.dr, h.cn, h.lo, up.hi, h.tr, h.t, up.hl, h.ht, by show b.dr.length ≤ (b.ps ++ [0]).length; rw [List.length_append]; have := h.pl; omega, by show (b.ps ++ [0]).length ≤ _; rw [List.length_append]; have := h.pm; show b.ps.length + 1 ≤ _; omega⟩
  split
  · exact ⟨h.dr, h.cn, h.lo, up.hi, h.tr, h.t, by show (b.hs ++ [_]).length ≤ _; rw [List.length_append]; have := h.hl; show b.hs.length + 1 ≤ _; omega, fun x hx => by
      rcases List.mem_append.mp hx with hx | hx
      · exact h.ht x hx
      · have : x = (([82] : List Nat), (n : Int)) := by simpa using hx
        rw [this]; simp, h.pl, up.pm⟩
  split
  · exact ⟨h.dr, h.cn, h.lo, up.hi, h.tr, h.t, by show (b.hs ++ [_]).length ≤ _; rw [List.length_append]; have := h.hl; show b.hs.length + 1 ≤ _; omega, fun x hx => by
      rcases List.mem_append.mp hx with hx | hx
      · exact h.ht x hx
      · have : x = (([] : List Nat), (0 : Int)) := by simpa using hx
        rw [this]; simp, h.pl, up.pm⟩
  split
  · exact ⟨h.dr, h.cn, h.lo, up.hi, h.tr, h.t, by show (b.hs.map _).length ≤ _; rw [List.length_map]; have := h.hl; omega, fun x hx => by
      obtain ⟨y, hy, rfl⟩ := List.mem_map.mp hx
      exact h.ht y hy, h.pl, up.pm⟩
  split
  · exact ⟨h.dr, h.cn, h.lo, up.hi, h.tr, h.t, up.hl, h.ht, h.pl, up.pm⟩
  split
  · exact ⟨h.dr, h.cn, h.lo, up.hi, h.tr, h.t, up.hl, h.ht, h.pl, up.pm⟩
  split
  · exact ⟨h.dr, h.cn, h.lo, up.hi, h.tr, h.t, by show (b.hs ++ [_]).length ≤ _; rw [List.length_append]; have := h.hl; show b.hs.length + 1 ≤ _; omega, fun x hx => by
      rcases List.mem_append.mp hx with hx | hx
      · exact h.ht x hx
      · have : x = (([42] : List Nat), (0 : Int)) := by simpa using hx
        rw [this]; simp, h.pl, up.pm⟩
  split
  · exact ⟨h.dr, h.cn, h.lo, up.hi, h.tr, .inr rfl, up.hl, h.ht, h.pl, up.pm⟩
  split
  · rename_i hc
    have hpos := List.length_pos_iff.mpr hc.2
    obtain ⟨d1, d2, d3, d4⟩ := h.dr _ (mem_ix (xs := b.dr) (k := (0 : Int)) (by decide) (by omega))
    have hlen : (b.dr ++ [((ix b.dr 0).2.1, (ix b.dr 0).1, ([82, 66] : List Nat))]).length = b.dr.length + 1 := by simp
    refine ⟨fun d hd => ?_, conn_app _ h.cn (fun d hd => ?_), by show n - 1 ≤ (b.dr ++ [_]).length; rw [hlen]; have := h.lo; omega, by show (b.dr ++ [_]).length ≤ _; rw [hlen]; have := h.hi; omega, fun e => ?_, h.t, up.hl, h.ht, ?_, ?_⟩
    · rcases List.mem_append.mp hd with hd | hd
      · exact h.dr d hd
      · have : d = ((ix b.dr 0).2.1, (ix b.dr 0).1, ([82, 66] : List Nat)) := by simpa using hd
        rw [this]
        exact ⟨d2, d1, fun z => d3 z.symm, cy_rb⟩
    · have : d = ((ix b.dr 0).2.1, (ix b.dr 0).1, ([82, 66] : List Nat)) := by simpa using hd
      rw [this]
      exact ⟨d2.1, d2.2, d1.1, d1.2⟩
    · have e' : (b.dr ++ [((ix b.dr 0).2.1, (ix b.dr 0).1, ([82, 66] : List Nat))]).length = n - 1 := e
      rw [hlen] at e'
      have := h.lo
      omega
    · show (b.dr ++ [_]).length ≤ (b.ps ++ [0]).length
      rw [hlen, List.length_append]; have := h.pl; show _ ≤ b.ps.length + 1; omega
    · show (b.ps ++ [0]).length ≤ _
      rw [List.length_append]; have := h.pm; show b.ps.length + 1 ≤ _; omega
  split
  · rename_i hc
    have hpos := List.length_pos_iff.mpr hc.2
    have m1 := Int.emod_lt_of_pos bit (show (0 : Int) < (b.dr.length : Int) by omega)
    have m2 := Int.emod_nonneg bit (show (b.dr.length : Int) ≠ 0 by omega)
    have hat : cutAt b bit < b.dr.length := by unfold cutAt; omega
    obtain ⟨d1, d2, d3, d4⟩ := h.dr _ (mem_ix (xs := b.dr) (k := ((cutAt b bit : Nat) : Int)) (by omega) (by omega))
    have ed : cutDr b bit = b.dr.set (cutAt b bit) ((ix b.dr (cutAt b bit : Nat)).1, (ix b.dr (cutAt b bit : Nat)).2.1, ix cuts bit) := by
      unfold cutDr
      rw [List.set_eq_take_append_cons_drop, if_pos hat, List.append_assoc]; rfl
    have ep : cutPs b bit = b.ps.set (cutAt b bit) (ix b.ps (cutAt b bit : Nat) % ((ix cuts bit).length : Int)) := by
      unfold cutPs
      rw [List.set_eq_take_append_cons_drop, if_pos (by have := h.pl; omega), List.append_assoc]; rfl
    have hld : (cutDr b bit).length = b.dr.length := by rw [ed, List.length_set]
    have hlp : (cutPs b bit).length = b.ps.length := by rw [ep, List.length_set]
    have ends : ∀ j : Int, 0 ≤ j → j < b.dr.length → (ix (cutDr b bit) j).1 = (ix b.dr j).1 ∧ (ix (cutDr b bit) j).2.1 = (ix b.dr j).2.1 := fun j j0 j1 => by
      have e := ix_set (n := b.dr.length) (l := b.dr) (x := ((cutAt b bit : Nat) : Int)) (v := j) (a := ((ix b.dr (cutAt b bit : Nat)).1, (ix b.dr (cutAt b bit : Nat)).2.1, ix cuts bit)) rfl ⟨by omega, by omega⟩ ⟨j0, j1⟩
      rw [Int.toNat_natCast, ← ed] at e
      rw [e]
      by_cases ej : j = (cutAt b bit : Nat)
      · rw [if_pos ej, ej]; exact ⟨rfl, rfl⟩
      · rw [if_neg ej]; exact ⟨rfl, rfl⟩
    refine ⟨fun d hd => ?_, ?_, by show n - 1 ≤ (cutDr b bit).length; rw [hld]; exact h.lo, by show (cutDr b bit).length ≤ _; rw [hld]; exact up.hi, fun e => ?_, h.t, up.hl, h.ht, by show (cutDr b bit).length ≤ (cutPs b bit).length; rw [hld, hlp]; exact h.pl, by show (cutPs b bit).length ≤ _; rw [hlp]; exact up.pm⟩
    · have hd' : d ∈ cutDr b bit := hd
      rw [ed] at hd'
      rcases List.mem_or_eq_of_mem_set hd' with hd' | hd'
      · exact h.dr d hd'
      · rw [hd']
        exact ⟨d1, d2, d3, cuts_ok b0 b4⟩
    · obtain ⟨c, hcn⟩ := h.cn
      refine ⟨c, fun m hm => ?_⟩
      have hm' : m ∈ connRun n (cutDr b bit) (cutDr b bit).length := hm
      rw [hld, conn_ends (dr := b.dr) b.dr.length fun j hj => ends (j : Int) (by omega) (by omega)] at hm'
      exact hcn m hm'
    · have e' : (cutDr b bit).length = n - 1 := e
      rw [hld] at e'
      exact (h.tr e').congr hld ends
  · exact up
theorem need_len {n : Nat} {dr : List Door} {t : List Nat} {hs : List Hand} {ps ks : List Int} (h : needM n dr t hs ps ks = none) : (dr.length : Int) = (n : Int) - 1 := by
  unfold needM at h
  split at h
  · cases h
  split at h
  · cases h
  split at h
  · cases h
  split at h
  · cases h
  split at h
  · cases h
  rename_i h5
  exact Classical.not_not.mp h5
theorem SpI.wf {n : Nat} {b : Bad} {k : Nat} (h : SpI n b k) (hn : n + k ≤ 90) : Wf b.dr b.hs := by
  refine ⟨by have := h.hi; omega, fun d hd => ?_, fun x hx => by have := h.ht x hx; omega⟩
  obtain ⟨_, _, _, _, h82, _, hl⟩ := h.dr d hd
  exact ⟨List.length_pos_of_mem h82, hl⟩
theorem SpI.tree {n : Nat} {b : Bad} {k : Nat} {ks : List Int} (h : SpI n b k) (hn : 1 ≤ n) (hN : needM n b.dr b.t b.hs b.ps ks = none) : Tree n b.dr := h.tr (by have := need_len hN; omega)
theorem SpI.due {n : Nat} {b : Bad} {k : Nat} (h : SpI n b k) (hn : 1 ≤ n) (hn2 : n + k ≤ 90) (hk : k ≤ 10) (kind : Int) : ∃ ws, DueIn kind n b.dr b.t b.hs b.ps b.p b.q ws ∧
    (∀ ks, (kind = 2 → ks = [b.p, b.q]) → (kind ≠ 2 → ks = []) → PairOk n b.dr b.t b.hs b.ps ks) ∧
    (kind = 2 → needM n b.dr b.t b.hs b.ps [b.p, b.q] = none → WayR (dictM (orderM n b.dr (ix b.hs b.q).2)) (ix b.hs b.q).2 (ix b.hs b.p).2 ws) := by
  have key : needM n b.dr b.t b.hs b.ps [b.p, b.q] = none → Tree n b.dr ∧ Rm n (ix b.hs b.p).2 ∧ Rm n (ix b.hs b.q).2 := fun hN => by
    have hkn := need_known hN
    unfold knownM at hkn
    simp at hkn
    obtain ⟨f1, f2, f3⟩ := fits_facts (need_fit hN)
    exact ⟨h.tree hn hN, (f3 _ (mem_ix hkn.1.1 hkn.1.2)).2, (f3 _ (mem_ix hkn.2.1 hkn.2.2)).2⟩
  refine ⟨wayL n b.dr (ix b.hs b.p).2 (ix b.hs b.q).2, ⟨h.wf hn2, by have := h.hi; omega, by have := h.hl; omega, fun d hd => (h.dr d hd).2.2.2, fun _ hN => ?_⟩, fun ks _ _ => ⟨h.wf hn2, fun hN => ⟨(h.tree hn hN).house, by have := h.hl; omega⟩⟩, fun _ hN => ?_⟩
  · obtain ⟨ht, hp, hq⟩ := key hN
    obtain ⟨w1, w2, w3⟩ := ht.way hp hq
    exact ⟨ht.graph, rfl, by omega, w3⟩
  · obtain ⟨ht, hp, hq⟩ := key hN
    exact (ht.way hp hq).1
theorem spi_at (ns : List Int) : ∀ k : Nat, k ≤ 2 → SpI (nM ns) (badM ns k) k
  | 0, _ => by
    have g := good_st ns
    have hn := g.t.n1
    have hlen := g.t.len
    have hpl := g.p.l
    refine ⟨fun d hd => ?_, conn_tree g.t, by show nM ns - 1 ≤ (drM ns).length; omega, by show (drM ns).length ≤ _; omega, fun _ => g.t, .inl rfl, ?_, fun x hx => by rcases g.lt x hx with e | e <;> rw [e] <;> decide, by show (drM ns).length ≤ (stM ns).2.length; omega, by show (stM ns).2.length ≤ _; omega⟩
    · obtain ⟨a, b, c, d'⟩ := g.t.ends d hd
      exact ⟨⟨a, b⟩, ⟨c, d'⟩, g.t.ne d hd, (g.cy d hd).1⟩
    · obtain ⟨h1, h2⟩ := hands_ok (cellM ns 1) (nM ns) (hmM ns) g.t.n1 g.t.n2 (by have := hm_le ns; omega)
      show (stM ns).1.length ≤ 80 + 0
      unfold stM
      split
      · unfold luredM lHands
        dsimp only
        rw [insAt_len, insAt_len]
        show (handsM _ _ _).length + 1 + 1 ≤ _
        omega
      · show (handsM _ _ _).length ≤ _
        omega
  | k + 1, hk => by
    have ih := spi_at ns k (by omega)
    have hb := rowM_bd (cellM ns 5) szP szP_ok (2 + 2 * (k : Int)) (by omega) (by show _ < (7 : Int); omega)
    have hb4 : ix (pickM ns) (2 + 2 * (k : Int)) < 4 := by
      have : k = 0 ∨ k = 1 := by omega
      rcases this with rfl | rfl
      · exact hb.2
      · exact hb.2
    exact ih.spoil (good_st ns).t.n1 hb.1 hb4
end DT

set_option Elab.async false
set_option linter.all false
set_option maxRecDepth 100000
namespace DT
section
variable {n : Nat} {dr : List Door} {hs : List Hand} {ps : List Int}
theorem light_at (hP : PlOk dr ps) {d : Int} (h0 : 0 ≤ d) (h1 : d < dr.length) : ix (lightsM dr ps) d = ix (ix dr d).2.2 (ix ps d) := by
  rw [lights_ix hP]
  have e := ix_map (f := fun i : Nat => ix (ix dr (i : Int)).2.2 (ix ps (i : Int))) (xs := List.range dr.length) (k := d) h0 (by simpa using h1)
  rw [e]
  have e2 : ix (List.range dr.length) d = d.toNat := ix_some (i := d.toNat) (List.getElem?_range (by omega)) (by omega)
  rw [e2, Int.toNat_of_nonneg h0]
theorem litB_at (hP : PlOk dr ps) {d : Int} (h0 : 0 ≤ d) (h1 : d < dr.length) : ix (litB dr ps) d = decide (ix (ix dr d).2.2 (ix ps d) = 82) := by
  have hll := lights_len (dr := dr) (ps := ps) hP.l
  unfold litB
  rw [ix_map h0 (by omega), light_at hP h0 h1]
/-- what a deed does -/
structure DeedOk (dr : List Door) (hs : List Hand) (ps : List Int) (h d : Int) (st1 : St2) : Prop where
  hh : 0 ≤ h ∧ h < hs.length
  dd : 0 ≤ d ∧ d < dr.length
  j : Joins dr d (ix hs h).2 ((ix dr d).1 + (ix dr d).2.1 - (ix hs h).2)
  l : (ix hs h).1 = [42] ∨ (ix hs h).1 = [ix (ix dr d).2.2 (ix ps d)]
  e1 : st1.1 = hs.set h.toNat ((ix hs h).1, (ix dr d).1 + (ix dr d).2.1 - (ix hs h).2)
  e2 : st1.2 = ps.set d.toNat ((ix ps d + 1) % ((ix dr d).2.2.length : Int))
theorem deed_ok {h d : Int} {st1 : St2} (e : deedM dr hs ps h d = some st1) : DeedOk dr hs ps h d st1 := by
  have hr := deed_range (by rw [e]; rfl : (deedM dr hs ps h d).isSome = true)
  unfold deedM at e
  split at e
  · cases e
  split at e
  · cases e
  split at e
  · cases e
  rename_i c1 c2 c3
  cases e
  refine ⟨hr.1, hr.2, ⟨hr.2, ?_⟩, ?_, rfl, rfl⟩
  · by_cases h1 : (ix hs h).2 = (ix dr d).1
    · left; omega
    · by_cases h2 : (ix hs h).2 = (ix dr d).2.1
      · right; omega
      · exact absurd ⟨h1, h2⟩ c2
  · by_cases h1 : (ix hs h).1 = [42]
    · exact .inl h1
    · by_cases h2 : (ix hs h).1 = [ix (ix dr d).2.2 (ix ps d)]
      · exact .inr h2
      · exact absurd ⟨h1, h2⟩ c3
theorem DeedOk.hand {h d : Int} {st1 : St2} (o : DeedOk dr hs ps h d st1) {i : Int} (i0 : 0 ≤ i) (i1 : i < hs.length) : ix st1.1 i = if i = h then ((ix hs h).1, (ix dr d).1 + (ix dr d).2.1 - (ix hs h).2) else ix hs i := by
  rw [o.e1]
  exact ix_set (n := hs.length) rfl o.hh ⟨i0, i1⟩
theorem DeedOk.place {h d : Int} {st1 : St2} (o : DeedOk dr hs ps h d st1) (hP : PlOk dr ps) {i : Int} (i0 : 0 ≤ i) (i1 : i < dr.length) : ix st1.2 i = if i = d then (ix ps d + 1) % ((ix dr d).2.2.length : Int) else ix ps i := by
  rw [o.e2]
  exact ix_set (n := dr.length) hP.l o.dd ⟨i0, i1⟩
theorem Good.deed {h d : Int} {st1 : St2} (g : Good n dr hs ps) (o : DeedOk dr hs ps h d st1) : Good n dr st1.1 st1.2 := by
  have hl1 : st1.1.length = hs.length := by rw [o.e1, List.length_set]
  have hl2 : st1.2.length = ps.length := by rw [o.e2, List.length_set]
  have hm := mem_ix o.hh.1 o.hh.2
  have hx : Rm n ((ix dr d).1 + (ix dr d).2.1 - (ix hs h).2) := by
    obtain ⟨a, b, c, e⟩ := g.t.ends _ (mem_ix o.dd.1 o.dd.2)
    have := o.j.2
    unfold Rm
    omega
  have all : ∀ x ∈ st1.1, x = ((ix hs h).1, (ix dr d).1 + (ix dr d).2.1 - (ix hs h).2) ∨ x ∈ hs := fun x hx => by
    rw [o.e1] at hx
    exact (List.mem_or_eq_of_mem_set hx).symm
  refine ⟨g.t, g.cy, g.sw, ⟨by rw [hl2, g.p.l], fun k k0 k1 => ?_, g.p.c⟩, fun x hx2 => ?_, fun x hx2 => ?_, by rw [hl1]; exact g.hl⟩
  · rw [o.place g.p k0 k1]
    by_cases e : k = d
    · rw [if_pos e, e]
      have hc := (g.cy _ (mem_ix o.dd.1 o.dd.2)).2
      exact ⟨Int.emod_nonneg _ (by omega), Int.emod_lt_of_pos _ (by omega)⟩
    · rw [if_neg e]; exact g.p.b k k0 k1
  · rcases all x hx2 with e | e
    · rw [e]; exact hx
    · exact g.h x e
  · rcases all x hx2 with e | e
    · rw [e]
      show (ix hs h).1 = [82] ∨ (ix hs h).1 = [66]
      exact g.lt _ hm
    · exact g.lt x e
/-- a letter of a red or blue is the light -/
theorem Good.light {h d : Int} {st1 : St2} (g : Good n dr hs ps) (o : DeedOk dr hs ps h d st1) : (ix hs h).1 = [ix (ix dr d).2.2 (ix ps d)] := by
  rcases o.l with e | e
  · rcases g.lt _ (mem_ix o.hh.1 o.hh.2) with e2 | e2 <;> rw [e] at e2 <;> simp at e2
  · exact e
/-! ### roaming -/
theorem reach_closed {s : Int} {us : List Bool} (h : Tree n dr) (hs : Rm n s) (C : Int → Prop) (hC : ∀ d u w, Joins dr d u w → ix us d = true → C u → C w) (h0 : C s) : ∀ v, Rm n v → 0 ≤ ix (distM n dr us s) v → C v := by
  obtain ⟨pd, pa, R⟩ := h.rt s hs
  have sp := dist_sp (us := us) h.ends R
  intro v hv
  obtain ⟨k, hk⟩ := R.ch v hv
  induction hk with
  | root => intro _; exact h0
  | @up k v hvr _ ih =>
    intro hf
    have hst : ix (distM n dr us s) v = if ix us (pd v) = true ∧ 0 ≤ ix (distM n dr us s) (pa v) then ix (distM n dr us s) (pa v) + 1 else -1 := sp.st v hv hvr
    by_cases hc : ix us (pd v) = true ∧ 0 ≤ ix (distM n dr us s) (pa v)
    · exact hC _ _ _ (R.jn v hv hvr).1.symm hc.1 (ih (R.pa_rm hv hvr) hc.2)
    · rw [if_neg hc] at hst
      omega
theorem no_meet (g : Good n dr hs ps) (hc : chasedL n dr hs ps = none) : metM hs = false := by
  unfold metM
  cases e : (hs.filter fun h => decide (h.1 = [82]) && decide ((([66] : List Nat), h.2) ∈ hs)) with
  | nil => rfl
  | cons x l =>
    exfalso
    have hx : x ∈ hs.filter fun h => decide (h.1 = [82]) && decide ((([66] : List Nat), h.2) ∈ hs) := by rw [e]; exact List.mem_cons_self
    obtain ⟨hx1, hx2⟩ := List.mem_filter.mp hx
    rw [Bool.and_eq_true] at hx2
    have h1 := of_decide_eq_true hx2.1
    have h2 := of_decide_eq_true hx2.2
    obtain ⟨i, hi⟩ := List.mem_iff_getElem?.mp hx1
    obtain ⟨j, hj⟩ := List.mem_iff_getElem?.mp h2
    have ei := ix_of hi
    have ej := ix_of hj
    refine chased_none.mp hc i (List.getElem?_eq_some_iff.mp hi).1 (by rw [ei]; exact h1) j (List.getElem?_eq_some_iff.mp hj).1 ⟨by rw [ej], ?_⟩
    rw [ei, ej]
    obtain ⟨pd, pa, R⟩ := g.t.rt x.2 (g.h x hx1)
    exact Int.le_of_eq (dist_sp (us := litB dr ps) g.t.ends R).z.symm
theorem roam_step {h d : Int} {st1 : St2} (g : Good n dr hs ps) (hc : chasedL n dr hs ps = none) (hred : (ix hs h).1 = [82]) (o : DeedOk dr hs ps h d st1) : chasedL n dr st1.1 st1.2 = none := by
  have g1 := g.deed o
  have hl1 : st1.1.length = hs.length := by rw [o.e1, List.length_set]
  have hlight := g.light o
  rw [hred] at hlight
  have hl82 : ix (ix dr d).2.2 (ix ps d) = 82 := by
    have := List.cons.inj hlight
    exact this.1.symm
  have hm := mem_ix o.hh.1 o.hh.2
  let C : Int → Prop := fun v => Rm n v ∧ Rch n dr hs (litB dr ps) v
  have adj : ∀ d' u w, Joins dr d' u w → ix (litB dr ps) d' = true → C u → C w := fun d' u w j hu ⟨hur, q, hq, q1, q2⟩ => by
    obtain ⟨pd, pa, R⟩ := g.t.rt q.2 (g.h q hq)
    have hw : Rm n w := by
      obtain ⟨a, b, c, e⟩ := g.t.ends _ (mem_ix j.1.1 j.1.2)
      have := j.2
      unfold Rm
      omega
    exact ⟨hw, q, hq, q1, ((dist_sp (us := litB dr ps) g.t.ends R).adj R j hu).mp q2⟩
  have self : ∀ q ∈ hs, q.1 = [82] → C q.2 := fun q hq q1 => by
    obtain ⟨pd, pa, R⟩ := g.t.rt q.2 (g.h q hq)
    exact ⟨g.h q hq, q, hq, q1, Int.le_of_eq (dist_sp (us := litB dr ps) g.t.ends R).z.symm⟩
  have hdl : ix (litB dr ps) d = true := by rw [litB_at g.p o.dd.1 o.dd.2]; exact decide_eq_true hl82
  have hnew : C ((ix dr d).1 + (ix dr d).2.1 - (ix hs h).2) := adj d _ _ o.j hdl (self _ hm hred)
  have adj1 : ∀ d' u w, Joins dr d' u w → ix (litB dr st1.2) d' = true → C u → C w := fun d' u w j hu hcu => by
    by_cases e : d' = d
    · subst e
      exact adj d' u w j hdl hcu
    · refine adj d' u w j ?_ hcu
      rw [litB_at g1.p j.1.1 j.1.2, o.place g.p j.1.1 j.1.2, if_neg e] at hu
      rw [litB_at g.p j.1.1 j.1.2]
      exact hu
  refine chased_none.mpr fun i hi h1 j hj h2 => ?_
  rw [hl1] at hi hj
  have ei := o.hand (i := (i : Int)) (by omega) (by omega)
  have ej := o.hand (i := (j : Int)) (by omega) (by omega)
  have hri : C (ix st1.1 (i : Int)).2 := by
    rw [ei] at h1 ⊢
    by_cases e : (i : Int) = h
    · rw [if_pos e]; exact hnew
    · rw [if_neg e] at h1 ⊢
      exact self _ (mem_ix (by omega) (by omega)) h1
  have hjb : (j : Int) ≠ h := fun e => by
    rw [ej, if_pos e] at h2
    rw [hred] at h2
    simp at h2
  rw [if_neg hjb] at ej
  have hv := g.h _ (mem_ix (xs := hs) (k := (j : Int)) (by omega) (by omega))
  have hcl := reach_closed g.t hri.1 C adj1 hri (ix hs (j : Int)).2 hv (by rw [ej] at h2; exact h2.2)
  obtain ⟨_, q, hq, q1, q2⟩ := hcl
  obtain ⟨i2, hi2⟩ := List.mem_iff_getElem?.mp hq
  have e2 := ix_of hi2
  rw [ej] at h2
  exact chased_none.mp hc i2 (List.getElem?_eq_some_iff.mp hi2).1 (by rw [e2]; exact q1) j hj ⟨h2.1, by rw [e2]; exact q2⟩
theorem roam_ok {row : List Int} : ∀ (m k : Nat) (st : St2), Good n dr st.1 st.2 → chasedL n dr st.1 st.2 = none → RoamOk n dr row m k st
  | 0, _, _, _, _ => trivial
  | m + 1, k, st, g, hc => by
    refine ⟨⟨g.p, g.hl⟩, ?_⟩
    by_cases he : choiceM dr st 82 = []
    · exact .inl he
    · refine .inr ?_
      have hpos := List.length_pos_iff.mpr he
      have m1 := Int.emod_lt_of_pos (ix row (k : Int)) (show (0 : Int) < ((choiceM dr st 82).length : Int) by omega)
      have m2 := Int.emod_nonneg (ix row (k : Int)) (show ((choiceM dr st 82).length : Int) ≠ 0 by omega)
      have hm := mem_ix m2 m1
      generalize ix (choiceM dr st 82) (ix row (k : Int) % ((choiceM dr st 82).length : Int)) = q at hm
      have hm' : q ∈ (possM dr st.1 st.2).filter fun q => decide ((ix st.1 q.1).1 = [82]) := hm
      obtain ⟨q1, q2⟩ := List.mem_filter.mp hm'
      have hs1 := poss_mem _ _ _ q q1
      obtain ⟨st1, hst⟩ := Option.isSome_iff_exists.mp hs1
      have o := deed_ok hst
      have g1 := g.deed o
      have hc1 := roam_step g hc (of_decide_eq_true q2) o
      refine ⟨st1, hst, g1.codes, g1.hl, no_meet g1 hc1, g1.pair [], g1.need rfl, ?_, roam_ok m (k + 1) st1 g1 hc1⟩
      rw [pair_is g1.t g1.p g1.h, hc1]; rfl
end
end DT

set_option Elab.async false
set_option linter.all false
set_option maxRecDepth 100000
namespace DT
/-- from w upward j steps to u, over doors with the light -/
inductive Lane (pd pa : Int → Int) (r0 : Int) (lit : Int → Prop) (u : Int) : Nat → Int → Prop
  | here : Lane pd pa r0 lit u 0 u
  | up {j : Nat} {w : Int} : w ≠ r0 → lit (pd w) → Lane pd pa r0 lit u j (pa w) → Lane pd pa r0 lit u (j + 1) w
section
variable {n : Nat} {dr : List Door} {r0 u w : Int} {pd pa : Int → Int} {lit lit' : Int → Prop}
theorem Lane.depth : ∀ {j : Nat} {w : Int}, Lane pd pa r0 lit u j w → ∀ {k : Nat}, Chain pa r0 k u → Chain pa r0 (k + j) w
  | _, _, .here, k, h => h
  | _, _, .up hw _ l, k, h => .up hw (Lane.depth l h)
/-- the child of u on the lane -/
theorem Lane.child : ∀ {j : Nat} {w : Int}, Lane pd pa r0 lit u (j + 1) w → ∃ c, Lane pd pa r0 lit c j w ∧ pa c = u ∧ c ≠ r0 ∧ lit (pd c)
  | 0, w, .up hw hl l => by
    cases l
    exact ⟨w, .here, rfl, hw, hl⟩
  | j + 1, w, .up hw hl l => by
    obtain ⟨c, h1, h2⟩ := Lane.child l
    exact ⟨c, .up hw hl h1, h2⟩
theorem Lane.rm (R : Rooted n dr r0 pd pa) : ∀ {j : Nat} {w : Int}, Rm n w → Lane pd pa r0 lit u j w → Rm n u
  | _, _, h, .here => h
  | _, _, h, .up hw _ l => Lane.rm R (R.pa_rm h hw) l
/-- only doors below u count -/
theorem Lane.mono (R : Rooted n dr r0 pd pa) {k : Nat} (hk : Chain pa r0 k u) (hl : ∀ e q, Rm n e → e ≠ r0 → k < q → Chain pa r0 q e → lit (pd e) → lit' (pd e)) : ∀ {j : Nat} {w : Int}, Rm n w → Lane pd pa r0 lit u j w → Lane pd pa r0 lit' u j w
  | _, _, _, .here => .here
  | _, w, h, .up (j := j) hw hl0 l => .up hw (hl w (k + (j + 1)) h hw (by omega) (Chain.up hw (l.depth hk)) hl0) (Lane.mono R hk hl (R.pa_rm h hw) l)
theorem pa_ne (R : Rooted n dr r0 pd pa) {v : Int} (hv : Rm n v) (hr : v ≠ r0) : pa v ≠ v := fun e => by
  obtain ⟨k, hk⟩ := R.ch (pa v) (R.pa_rm hv hr)
  have h1 : Chain pa r0 (k + 1) v := .up hr hk
  rw [e] at hk
  have := hk.uniq h1
  omega
/-- the lane, seen from w's tree -/
theorem lane_way {pd' pa' : Int → Int} (R : Rooted n dr r0 pd pa) (Q : Rooted n dr w pd' pa') : ∀ {j : Nat} {u : Int}, Lane pd pa r0 lit u j w → Chain pa' w j u ∧ ∀ i, j = i + 1 → ∃ c, Lane pd pa r0 lit c i w ∧ pa c = u ∧ c ≠ r0 ∧ lit (pd c) ∧ pd' u = pd c ∧ pa' u = c
  | 0, u, h => by
    cases h
    exact ⟨.root, fun i hi => by omega⟩
  | j + 1, u, h => by
    obtain ⟨c, h1, h2, h3, h4⟩ := h.child
    obtain ⟨i1, i2⟩ := lane_way R Q h1
    have hc := h1.rm R Q.rr
    have hu := h.rm R Q.rr
    have jc := (R.jn c hc h3).1
    rw [h2] at jc
    obtain ⟨x, hx, hxw, hpx⟩ := Q.on (pd c) jc.1.1 jc.1.2
    have jx := (Q.jn x hx hxw).1
    rw [hpx] at jx
    rcases jc.two jx with ⟨e1, e2⟩ | ⟨e1, e2⟩
    · exfalso
      subst e1
      cases j with
      | zero => cases h1; exact hxw rfl
      | succ j =>
        obtain ⟨e, g1, g2, g3, g4, g5, g6⟩ := i2 j rfl
        have he := g1.rm R Q.rr
        have : x = e := R.inj x e hx he h3 g3 (by rw [← hpx, g5])
        rw [← this] at g2
        exact pa_ne R hx h3 g2
    · subst e1
      refine ⟨.up hxw (by rw [e2]; exact i1), fun i hi => ?_⟩
      have : i = j := by omega
      subst this
      exact ⟨c, h1, h2, h3, h4, hpx, e2⟩
theorem lane_doors {pd' pa' : Int → Int} (R : Rooted n dr r0 pd pa) (Q : Rooted n dr w pd' pa') : ∀ {j : Nat} {u : Int}, Lane pd pa r0 lit u j w → ∀ d ∈ wl pd' pa' j u, lit d
  | 0, u, _ => fun d hd => by cases hd
  | j + 1, u, h => fun d hd => by
    obtain ⟨_, i2⟩ := lane_way R Q h
    obtain ⟨c, h1, h2, h3, h4, h5, h6⟩ := i2 j rfl
    rcases List.mem_cons.mp hd with e | hd
    · rw [e, h5]; exact h4
    · rw [h6] at hd
      exact lane_doors R Q h1 d hd
/-- from a distance over lit doors -/
theorem lane_of {us : List Bool} (hE : EndsOk n dr) (R : Rooted n dr r0 pd pa) : ∀ {k : Nat} {v : Int}, Rm n v → Chain pa r0 k v → 0 ≤ ix (distM n dr us r0) v → Lane pd pa r0 (fun d => ix us d = true) r0 k v := by
  have sp := dist_sp (us := us) hE R
  intro k v hv hc
  induction hc with
  | root => intro _; exact .here
  | @up k v hvr _ ih =>
    intro hf
    have hst : ix (distM n dr us r0) v = if ix us (pd v) = true ∧ 0 ≤ ix (distM n dr us r0) (pa v) then ix (distM n dr us r0) (pa v) + 1 else -1 := sp.st v hv hvr
    by_cases hcnd : ix us (pd v) = true ∧ 0 ≤ ix (distM n dr us r0) (pa v)
    · exact .up hvr hcnd.1 (ih (R.pa_rm hv hvr) hcnd.2)
    · rw [if_neg hcnd] at hst
      omega
end
/-- behind a B comes an R -/
theorem swift_next {c : List Nat} {p : Int} (hc : CyOk c) (ht : twin 66 (c ++ [ix c 0]) = false) (h0 : 0 ≤ p) (h1 : p < c.length) (hp : ix c p = 66) : ix c ((p + 1) % (c.length : Int)) = 82 := by
  have hpos : (0 : Int) < c.length := by omega
  have m1 := Int.emod_lt_of_pos (p + 1) hpos
  have m2 := Int.emod_nonneg (p + 1) (show (c.length : Int) ≠ 0 by omega)
  have hm := hc.1 _ (mem_ix m2 m1)
  refine hm.resolve_right fun h66 => ?_
  have hg := ix_get h0 h1
  rw [hp] at hg
  have : twin 66 (c ++ [ix c 0]) = true := (twin_iff 66 _).mpr ⟨p.toNat, by rw [List.getElem?_append_left (by omega)]; exact hg, by
    by_cases hlt : p + 1 < c.length
    · rw [List.getElem?_append_left (by omega)]
      rw [Int.emod_eq_of_lt (by omega) hlt] at h66
      have := ix_get (xs := c) (k := p + 1) (by omega) hlt
      rw [h66] at this
      rw [show p.toNat + 1 = (p + 1).toNat by omega]
      exact this
    · have e : p + 1 = (c.length : Int) := by omega
      rw [e, Int.emod_self] at h66
      rw [List.getElem?_append_right (by omega), show p.toNat + 1 - c.length = 0 by omega, h66]; rfl⟩
  rw [ht] at this
  cases this
section
variable {n : Nat} {dr : List Door}
/-- the light of a door -/
def Lt (dr : List Door) (ps : List Int) (d : Int) : Prop := ix (ix dr d).2.2 (ix ps d) = 82
structure Inv (n : Nat) (dr : List Door) (r b : Int) (r0 : Int) (pd pa : Int → Int) (k : Nat) (st : St2) : Prop where
  g : Good n dr st.1 st.2
  rr : 0 ≤ r ∧ r < st.1.length
  bb : 0 ≤ b ∧ b < st.1.length
  r1 : (ix st.1 r).1 = [82]
  b1 : (ix st.1 b).1 = [66]
  c : Chain pa r0 k (ix st.1 r).2
  l : ∃ j, Lane pd pa r0 (Lt dr st.2) (ix st.1 r).2 j (ix st.1 b).2
theorem met_of {hs : List Hand} {r b : Int} (r0 : 0 ≤ r ∧ r < hs.length) (b0 : 0 ≤ b ∧ b < hs.length) (r1 : (ix hs r).1 = [82]) (b1 : (ix hs b).1 = [66]) (e : (ix hs r).2 = (ix hs b).2) : metM hs = true := by
  unfold metM
  have hr := mem_ix r0.1 r0.2
  have hb := mem_ix b0.1 b0.2
  have hm : ix hs r ∈ hs.filter fun h => decide (h.1 = [82]) && decide ((([66] : List Nat), h.2) ∈ hs) := by
    rw [List.mem_filter, Bool.and_eq_true]
    refine ⟨hr, decide_eq_true r1, decide_eq_true ?_⟩
    have : (([66] : List Nat), (ix hs r).2) = ix hs b := by rw [e, ← b1]
    rw [this]; exact hb
  cases h : (hs.filter fun h => decide (h.1 = [82]) && decide ((([66] : List Nat), h.2) ∈ hs)) with
  | nil => rw [h] at hm; cases hm
  | cons x l => rfl
theorem flightC_sub {st : St2} {ch bit : Int} {q : Int × Int} (h : q ∈ flightC dr st ch bit) : (deedM dr st.1 st.2 q.1 q.2).isSome = true ∧ (ix st.1 q.1).1 = [66] := by
  have hq : q ∈ choiceM dr st 66 := by
    unfold flightC at h
    split at h
    · exact (List.mem_filter.mp h).1
    · exact h
  have hq' : q ∈ (possM dr st.1 st.2).filter fun q => decide ((ix st.1 q.1).1 = [66]) := hq
  obtain ⟨q1, q2⟩ := List.mem_filter.mp hq'
  exact ⟨poss_mem _ _ _ q q1, of_decide_eq_true q2⟩
theorem other_of {d x : Int} (dr : List Door) (e : x = (ix dr d).1 ∨ x = (ix dr d).2.1) {y : Int} (j : Joins dr d x y) : (ix dr d).1 + (ix dr d).2.1 - x = y := by
  have := j.2
  omega
theorem hunt_ok {r b r0 : Int} {pd pa : Int → Int} {row : List Int} (T : Tree n dr) (R : Rooted n dr r0 pd pa) : ∀ (m k : Nat) (st : St2), k + m + 1 = n → Inv n dr r b r0 pd pa k st → HuntOk n dr r b row m k st
  | 0, k, st, hk, I => by
    obtain ⟨j, hl⟩ := I.l
    have hb := I.g.h _ (mem_ix I.bb.1 I.bb.2)
    have hd := hl.depth I.c
    have hs := chain_short R hb hd
    have : j = 0 := by omega
    subst this
    refine ⟨met_of I.rr I.bb I.r1 I.b1 ?_, I.g.codes, I.g.hl⟩
    generalize hw : (ix st.1 b).2 = w at hl
    cases hl
    rfl
  | m + 1, k, st, hk, I => by
    refine ⟨⟨I.g.codes, I.g.hl⟩, ?_⟩
    obtain ⟨j, hl⟩ := I.l
    have g := I.g
    have hru := g.h _ (mem_ix I.rr.1 I.rr.2)
    have hbw := g.h _ (mem_ix I.bb.1 I.bb.2)
    cases j with
    | zero =>
      left
      refine met_of I.rr I.bb I.r1 I.b1 ?_
      generalize hw : (ix st.1 b).2 = w at hl
      cases hl
      rfl
    | succ j =>
      right
      obtain ⟨pd', pa', Q⟩ := T.rt _ hbw
      obtain ⟨hch, hfirst⟩ := lane_way R Q hl
      obtain ⟨c, c1, c2, c3, c4, c5, c6⟩ := hfirst j rfl
      have hc := c1.rm R hbw
      have hway := wayL_is T.ends T.ne Q hru hch
      have hwr := way_chain T.ends Q hru hch
      have hwin := wl_in Q hru hch
      have hdoors := lane_doors R Q hl
      have hne : wl pd' pa' (j + 1) (ix st.1 r).2 ≠ [] := by simp [wl]
      have h0 : ix (wl pd' pa' (j + 1) (ix st.1 r).2) 0 = pd c := by
        show pd' (ix st.1 r).2 = pd c
        exact c5
      have hkn : knownM st.1 [r, b] = true := by
        unfold knownM
        have := I.rr
        have := I.bb
        simp
        omega
      have hneed := g.need hkn
      have hcha : chaseM n dr [82, 66] st.1 st.2 r b (wl pd' pa' (j + 1) (ix st.1 r).2) = .val (.int (ix (wl pd' pa' (j + 1) (ix st.1 r).2) 0)) := by
        unfold chaseM
        rw [hneed]
        dsimp only
        rw [if_neg (by rw [I.r1, I.b1]; simp), if_neg]
        rintro (z | z)
        · exact hne z
        · obtain ⟨d, hd, e⟩ := List.mem_map.mp z
          have h1 := hwin d hd
          rw [light_at g.p h1.1 h1.2] at e
          have h2 : ix (ix dr d).2.2 (ix st.2 d) = 82 := hdoors d hd
          rw [h2] at e
          cases e
      have jc := (R.jn c hc c3).1
      rw [c2] at jc
      -- the red's deed
      have hde : deedM dr st.1 st.2 r (pd c) = some (st.1.set r.toNat ((ix st.1 r).1, (ix dr (pd c)).1 + (ix dr (pd c)).2.1 - (ix st.1 r).2), st.2.set (pd c).toNat ((ix st.2 (pd c) + 1) % ((ix dr (pd c)).2.2.length : Int))) := by
        have c4' : ix (ix dr (pd c)).2.2 (ix st.2 (pd c)) = 82 := c4
        have hr := I.rr
        have hd := jc.1
        have hj := jc.2
        unfold deedM
        rw [if_neg (by omega), if_neg (by omega), if_neg (by rw [I.r1, c4']; simp)]
      generalize hst1 : ((st.1.set r.toNat ((ix st.1 r).1, (ix dr (pd c)).1 + (ix dr (pd c)).2.1 - (ix st.1 r).2), st.2.set (pd c).toNat ((ix st.2 (pd c) + 1) % ((ix dr (pd c)).2.2.length : Int))) : St2) = st1 at hde
      have o := deed_ok hde
      have g1 := g.deed o
      have hl1 : st1.1.length = st.1.length := by rw [o.e1, List.length_set]
      have hrb : b ≠ r := fun e => by have := I.b1; rw [e, I.r1] at this; simp at this
      have her : ix st1.1 r = ([82], c) := by
        rw [o.hand I.rr.1 I.rr.2, if_pos rfl, I.r1]
        have : (ix dr (pd c)).1 + (ix dr (pd c)).2.1 - (ix st.1 r).2 = c := by have := jc.2; omega
        rw [this]
      have heb : ix st1.1 b = ix st.1 b := by rw [o.hand I.bb.1 I.bb.2, if_neg hrb]
      have hcc : Chain pa r0 (k + 1) c := .up c3 (by rw [c2]; exact I.c)
      have lane1 : Lane pd pa r0 (Lt dr st1.2) c j (ix st.1 b).2 := by
        refine c1.mono R hcc (fun e q he her' hq hcq hle => ?_) hbw
        have hed := (R.jn e he her').1.1
        have hne2 : pd e ≠ pd c := fun z => by
          have : e = c := R.inj e c he hc her' c3 z
          rw [this] at hcq
          have := hcq.uniq hcc
          omega
        show ix (ix dr (pd e)).2.2 (ix st1.2 (pd e)) = 82
        rw [o.place g.p hed.1 hed.2, if_neg hne2]
        exact hle
      refine ⟨wl pd' pa' (j + 1) (ix st.1 r).2, st1, ⟨g.state, g.pair _, hneed, I.rr, I.bb, hwr, hway, hne, hcha⟩, by rw [h0]; exact hde, ⟨g1.codes, g1.hl⟩, ?_⟩
      by_cases hmet : metM st1.1 = true
      · exact .inl hmet
      right
      refine ⟨g1.p, ?_⟩
      -- the lane has a step, for they did not meet
      have hj : ∃ i, j = i + 1 := by
        cases j with
        | succ i => exact ⟨i, rfl⟩
        | zero =>
          exfalso
          refine hmet (met_of (r := r) (b := b) (by rw [hl1]; exact I.rr) (by rw [hl1]; exact I.bb) (by rw [her]) (by rw [heb]; exact I.b1) ?_)
          rw [her, heb]
          generalize hw : (ix st.1 b).2 = w at lane1
          cases lane1
          rfl
      obtain ⟨i, rfl⟩ := hj
      have I1 : ∀ st2 : St2, Good n dr st2.1 st2.2 → st2.1.length = st.1.length → ix st2.1 r = ([82], c) → (ix st2.1 b).1 = [66] → (∃ j, Lane pd pa r0 (Lt dr st2.2) c j (ix st2.1 b).2) → Inv n dr r b r0 pd pa (k + 1) st2 := fun st2 g2 hl2 e1 e2 e3 =>
        ⟨g2, by rw [hl2]; exact I.rr, by rw [hl2]; exact I.bb, by rw [e1], e2, by rw [e1]; exact hcc, by rw [e1]; exact e3⟩
      by_cases hpass : (ix row (2 * (k : Int) + 1)) % (((flightC dr st1 b (ix row (2 * (k : Int)))).length : Int) + 1) = ((flightC dr st1 b (ix row (2 * (k : Int)))).length : Int)
      · refine ⟨st1, by unfold flightM; rw [if_pos hpass], hunt_ok T R m (k + 1) st1 (by omega) (I1 st1 g1 hl1 her (by rw [heb]; exact I.b1) ⟨_, by rw [heb]; exact lane1⟩)⟩
      · have m1 := Int.emod_lt_of_pos (ix row (2 * (k : Int) + 1)) (show (0 : Int) < ((flightC dr st1 b (ix row (2 * (k : Int)))).length : Int) + 1 by omega)
        have m2 := Int.emod_nonneg (ix row (2 * (k : Int) + 1)) (show ((flightC dr st1 b (ix row (2 * (k : Int)))).length : Int) + 1 ≠ 0 by omega)
        have hq := mem_ix (xs := flightC dr st1 b (ix row (2 * (k : Int)))) m2 (by omega)
        have hfl : flightM dr st1 b (ix row (2 * (k : Int))) (ix row (2 * (k : Int) + 1)) = deedM dr st1.1 st1.2 (ix (flightC dr st1 b (ix row (2 * (k : Int)))) ((ix row (2 * (k : Int) + 1)) % (((flightC dr st1 b (ix row (2 * (k : Int)))).length : Int) + 1))).1 (ix (flightC dr st1 b (ix row (2 * (k : Int)))) ((ix row (2 * (k : Int) + 1)) % (((flightC dr st1 b (ix row (2 * (k : Int)))).length : Int) + 1))).2 := by
          unfold flightM; rw [if_neg hpass]
        rw [hfl]
        generalize ix (flightC dr st1 b (ix row (2 * (k : Int)))) ((ix row (2 * (k : Int) + 1)) % (((flightC dr st1 b (ix row (2 * (k : Int)))).length : Int) + 1)) = q at hq
        obtain ⟨q1, q2⟩ := flightC_sub hq
        obtain ⟨st2, hst2⟩ := Option.isSome_iff_exists.mp q1
        have o2 := deed_ok hst2
        have g2 := g1.deed o2
        have hl2 : st2.1.length = st.1.length := by rw [o2.e1, List.length_set, hl1]
        have hB : ix (ix dr q.2).2.2 (ix st1.2 q.2) = 66 := by
          have := g1.light o2
          rw [q2] at this
          exact (List.cons.inj this).1.symm
        have hqr : r ≠ q.1 := fun e => by rw [← e, her] at q2; simp at q2
        have er2 : ix st2.1 r = ([82], c) := by rw [o2.hand (by exact I.rr.1) (by rw [hl1]; exact I.rr.2), if_neg hqr, her]
        have keep : ∀ e, Rm n e → e ≠ r0 → Lt dr st1.2 (pd e) → Lt dr st2.2 (pd e) := fun e he her' hle => by
          have hed := (R.jn e he her').1.1
          have hne2 : pd e ≠ q.2 := fun z => by
            have hle' : ix (ix dr (pd e)).2.2 (ix st1.2 (pd e)) = 82 := hle
            rw [z, hB] at hle'
            cases hle'
          show ix (ix dr (pd e)).2.2 (ix st2.2 (pd e)) = 82
          rw [o2.place g1.p hed.1 hed.2, if_neg hne2]
          exact hle
        have lane2 : Lane pd pa r0 (Lt dr st2.2) c (i + 1) (ix st.1 b).2 := lane1.mono R hcc (fun e q' he her' _ _ hle => keep e he her' hle) hbw
        refine ⟨st2, hst2, hunt_ok T R m (k + 1) st2 (by omega) (I1 st2 g2 hl2 er2 ?_ ?_)⟩
        · rw [o2.hand (by exact I.bb.1) (by rw [hl1]; exact I.bb.2)]
          split
          · exact q2
          · rw [heb]; exact I.b1
        · by_cases hqb : b = q.1
          · -- the chased one runs outward
            have eb2 : ix st2.1 b = ((ix st1.1 q.1).1, (ix dr q.2).1 + (ix dr q.2).2.1 - (ix st1.1 q.1).2) := by rw [o2.hand (by exact I.bb.1) (by rw [hl1]; exact I.bb.2), if_pos hqb]
            have ew : (ix st1.1 q.1).2 = (ix st.1 b).2 := by rw [← hqb, heb]
            have jq := o2.j
            rw [ew] at jq
            rw [eb2, ew]
            generalize hx : (ix dr q.2).1 + (ix dr q.2).2.1 - (ix st.1 b).2 = x at jq
            obtain ⟨e, he, her', hpe⟩ := R.on q.2 jq.1.1 jq.1.2
            have je := (R.jn e he her').1
            rw [hpe] at je
            rcases jq.two je with ⟨e1, e2⟩ | ⟨e1, e2⟩
            · exfalso
              cases lane1 with
              | up hw hlw _ =>
                have hlw' : ix (ix dr (pd (ix st.1 b).2)).2.2 (ix st1.2 (pd (ix st.1 b).2)) = 82 := hlw
                rw [← e1, hpe, hB] at hlw'
                cases hlw'
            · refine ⟨i + 2, ?_⟩
              subst e1
              refine .up her' ?_ (by rw [e2]; exact lane2)
              show ix (ix dr (pd e)).2.2 (ix st2.2 (pd e)) = 82
              rw [hpe, o2.place g1.p o2.dd.1 o2.dd.2, if_pos rfl]
              have hdm := mem_ix o2.dd.1 o2.dd.2
              have hsw : twin 66 ((ix dr q.2).2.2 ++ [ix (ix dr q.2).2.2 0]) = false := by
                have := List.all_eq_true.mp g1.sw _ hdm
                simpa using this
              have hb2 := g1.p.b q.2 o2.dd.1 o2.dd.2
              exact swift_next (g1.cy _ hdm).1 hsw hb2.1 hb2.2 hB
          · refine ⟨i + 1, ?_⟩
            rw [o2.hand (by exact I.bb.1) (by rw [hl1]; exact I.bb.2), if_neg hqb, heb]
            exact lane2
end
/-! ### the law -/
theorem law_ok (ns : List Int) : LawOk ns where
  n1 := (good_st ns).t.n1
  n2 := (good_st ns).t.n2
  d0 := (roomy_tree (cellM ns 0) (decide (0 < ix (pickM ns) 5))).len
  d1 := (dr1_tree ns).dl
  g := (good_st ns).t.graph
  cl := (good_st ns).cl
  h0 := by
    have := (hands_ok (cellM ns 1) (nM ns) (hmM ns) (good_st ns).t.n1 (good_st ns).t.n2 (by have := hm_le ns; omega)).2
    show (handsM _ _ _).length ≤ 90
    omega
  hi := by
    have h := spi_at ns 0 (by omega)
    exact ⟨.inl rfl, (good_st ns).t.n1, (good_st ns).t.n2, by have := (good_st ns).t.dl; omega, h.dr, h.cn⟩
  bz := fun k hk => by
    have h := spi_at ns k (by omega)
    have hn : nM ns ≤ 6 := roomy_six (cellM ns 0) (decide (0 < ix (pickM ns) 5))
    exact ⟨by have := h.hi; omega, h.pl, by have := h.pm; omega, by have := h.hl; omega, fun d hd => ⟨(h.dr d hd).2.2.2.2.2.2, (h.dr d hd).2.2.2⟩⟩
  hb := by
    have h := spi_at ns 2 (by omega)
    have hn : nM ns ≤ 6 := roomy_six (cellM ns 0) (decide (0 < ix (pickM ns) 5))
    exact ⟨h.t, (good_st ns).t.n1, (good_st ns).t.n2, by have := h.hi; omega, h.dr, h.cn⟩
  hl := by have := (spi_at ns 2 (by omega)).hl; omega
  due := fun kind _ _ => by
    have hn : nM ns ≤ 6 := roomy_six (cellM ns 0) (decide (0 < ix (pickM ns) 5))
    exact (spi_at ns 2 (by omega)).due (good_st ns).t.n1 (by omega) (by omega) kind
  pr := fun k _ => ⟨_, (good_st ns).paired _ _⟩
  sn := (good_st ns).seen
  ga := by
    have g := good_st ns
    cases hc : chasedL (nM ns) (drM ns) (stM ns).1 (stM ns).2 with
    | none => exact roam_ok 10 0 (stM ns) g hc
    | some b =>
      obtain ⟨h1, h2, h3, h4, h5⟩ := chased_some hc
      have hr := g.h _ (mem_ix h1.1 h1.2)
      have hb := g.h _ (mem_ix h2.1 h2.2)
      obtain ⟨pd, pa, R⟩ := g.t.rt _ hr
      obtain ⟨k, hk⟩ := R.ch _ hb
      have lane := lane_of (us := litB (drM ns) (stM ns).2) g.t.ends R hb hk h5
      have n1 := g.t.n1
      refine hunt_ok g.t R (nM ns - 1) 0 (stM ns) (by omega) ⟨g, h1, h2, h3, h4, .root, k, ?_⟩
      refine lane.mono R .root (fun e q he her _ _ hle => ?_) hb
      have hed := (R.jn e he her).1.1
      rw [litB_at g.p hed.1 hed.2] at hle
      unfold Lt; simpa using hle
end DT

set_option Elab.async false
set_option linter.all false
set_option maxRecDepth 100000
set_option maxHeartbeats 0
namespace DT
open PySem PySem.Spec L2
open PyProof.Rows hiding St
/-- three kinds of facts over one part of the heap -/
def hookT (as : List Addr) (fa1 fa2 : List He.Fa) (fn1 fn2 : List He.DefD) (xb : PySem.W.Frag → Bool) : PySem.W.Hook where
  α := He.AlD × He.AlD × Bool
  obs := fun s => (He.obsD fa1 fn1 (He.frG s.heap.get? as), He.obsD fa2 fn2 (He.frG s.heap.get? as), xb (He.frG s.heap.get? as))
  val := fun _ => (He.valD fn1, He.valD fn2, true)
  says := fun _ h => ∃ K : PySem.W.Frag, K.In h ∧ He.SaysD fa1 fn1 K ∧ He.SaysD fa2 fn2 K ∧ xb K = true
  of := fun _ _ e => ⟨_, He.frG_in, congrArg Prod.fst e, congrArg Prod.fst (congrArg Prod.snd e), congrArg Prod.snd (congrArg Prod.snd e)⟩
  keeps := fun _ _ _ ⟨K, hK, c⟩ k => ⟨K, PySem.W.Frag.In.keeps hK k, c⟩
theorem hookT_eq (as : List Addr) (fa1 fa2 : List He.Fa) (fn1 fn2 : List He.DefD) (xb : PySem.W.Frag → Bool) (s : PySem.W.SharedT) : (He.obsD fa1 fn1 (He.frG (HandSHeadRun.getT s) as), He.obsD fa2 fn2 (He.frG (HandSHeadRun.getT s) as), xb (He.frG (HandSHeadRun.getT s) as)) = (hookT as fa1 fa2 fn1 fn2 xb).obs s.abs := by
  have e : HandSHeadRun.getT s = s.abs.heap.get? := funext (HandSHeadRun.getT_eq s)
  rw [e]
  rfl
abbrev hook3 : PySem.W.Hook := hookT hks hfaA hfaB hfnA hfnB xB
def hobT (s : PySem.W.SharedT) : He.AlD × He.AlD × Bool := (hob1 s, hob2 s, hob3 s)
theorem hobT_eq (s : PySem.W.SharedT) : hobT s = hook3.obs s.abs := hookT_eq hks hfaA hfaB hfnA hfnB xB s
theorem hrunT (w : World) : HandSHeadRun.RunEq HR hqv hook3 hobT 30000 hnm w := fun os => hrun w os
theorem noCX {P : Program} {w : World} {H : Hp} {s : Shared} {e : Value} {s' : Shared} (z : L2.CX P w [] H s (fun _ _ _ => False) e s') : False := by
  obtain ⟨_, _, _, _, _, _, _, _, _, _, _, _, f⟩ := z
  exact f
theorem sp_law {K : PySem.W.Frag} {mg : Str → Option Value} {H : Hp} {a : Addr} {ns : List Int} (S : SqL K H a (ns.map V.int)) : spOf K mg R_law [.ref a] H (fun v _ => v = .bl true) fun _ _ _ => False := by
  refine ⟨H, [.scr ns], .val (.bl true), ?_, .cons (.scr S) .nil, ⟨ns, rfl, law_ok ns, rfl⟩, fun v B' H' _ r => ?_⟩
  · exact Same.refl _
  · cases r
    rfl
end DT
open PySem PySem.W PySem.Calls PyProof.Rows
theorem PySem.Challenge.cw_lanternhouse_k63_whole_chase_holds : PySem.Challenge.rw_lanternhouse_k63_whole_chase.Holds := by
  w_on; o_law
  refine HandSHeadRun.head_any (r := OpenLaw.row PySem.Challenge.rw_lanternhouse_k63_whole_chase) (q := DT.hqv) (H := DT.hook3) (ob := DT.hobT) (M := 30000) (loose := DT.hnm) (d := HandSHeadRun.topDef (OpenLaw.row PySem.Challenge.rw_lanternhouse_k63_whole_chase).prog 90) (kwd := []) DT.hobT_eq
    (by kernel_rfl) (fun s => by kernel_rfl) DT.hrunT (by kernel_rfl) (by kernel_rfl) (by kernel_rfl) (by rfl) (by first | assumption | decide +kernel) (by decide +kernel) ⟨rfl, rfl, rfl, rfl, rfl, by decide +kernel⟩ ?hw ?hc
  case hw => w_witness2
  case hc =>
    refine Att.attach_call (l := PySem.Challenge.rw_lanternhouse_k63_whole_chase) (n := 63) rfl (by kernel_rfl) fun w t0 t1 mg mb fa o pm cd doc a vs ns G Y ho hd hcd hmg0 hobj hints hlen hg => ?_
    obtain ⟨K, KX, cA, cB, cX⟩ := Y
    have hmg : mg ("law" : PySem.Str) = some (.ref fa) := by
      have e : (HandSHeadRun.topDef (OpenLaw.row PySem.Challenge.rw_lanternhouse_k63_whole_chase).prog 90).name = ("law" : PySem.Str) := by kernel_rfl
      rw [← e]
      exact hmg0
    have T := DT.txt2_of KX G.T.g cA cB cX
    obtain ⟨f, fd, F, hf⟩ := (T.t.fn 90 "law" rfl).ex
    cases hf.symm.trans hmg
    refine L2.law_call (CX := L2.CX _ w) (k := 10) (x := "_law_script") KX G.T.g G.T.b G.T.builtins G.T.nolimit hg hobj hints (Nat.le_trans hlen (by decide)) ⟨rfl, by decide, by decide⟩ (fun base _ _ => DT.fn_law T F) (fun s u => F.bindsA (ps := ["_law_script"]) (fun _ _ _ _ _ _ us hl => match us, hl with | [_], _ => rfl) s [u] rfl) (fun H _ hS => DT.sp_law hS) fun H e s' => DT.noCX

