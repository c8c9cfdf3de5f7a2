import PyProof.Rows.All
import Wide.All
import OpenK.AllK
import Wide.FinOn
import HandS.ForMost
import HandS.ForExc
import HandS.Nested
import HandS.TryMany
import HandS.Wide
import HandS.WideBits
import HandS.Zip
import HandS.TupAny
import HandS.TupMul
import HandS.TupLe
import HandS.IsInst
import HandS.Conv
import HandS.Style
import HandS.Flow
import HandS.Defaults
import HandS.HeadWalk
import HandS.HeadHook4
import HandS.Deep
import HandS.StrMore
import HandS.Iter
import HandS.Rev
import HandS.ExcInit
import HandS.ExcSuper
import KE.KSuper
import KE.KExcSuper
import HandS.ExcField
import PyProof.Draws
import PyProof.EnumMake
import PyProof.TupleIter
import HandS.Gcd
import KE.KExcIs
import PySem.Challenge.RW_wholedigits_k85_texts_that_are_none
import HandS.Head0
import HandS.Head1
import HandS.Head2
import HandS.Head3
import HandS.HeadEnd
import HandS.HeadHook1
import HandS.HeadHook2
import KE.KStateDown
set_option Elab.async false
set_option linter.all false
set_option maxRecDepth 100000
/-! Ev1: data, the relation to the layer's values, steps. -/
namespace Ev
open PySem PySem.Spec PyProof.Rows L2 NdefX

inductive D where
  | non | bl (b : Bool) | int (i : Int) | str (x : Str) | tup (ds : List D) | ref (n : Nat) | ty (n : String) | own (c : Str) | exn (c : Str) (v : D) | fn (f : Str) | cl (ds : List D)
  deriving Inhabited
/-- an object of the small heap -/
inductive Ob where
  | lst (ds : List D)
  deriving Inhabited
abbrev VH := List Ob
structure Gd where
  K : PySem.W.Frag
  mg : Str → Option Value
  T : List NTab

/-- a list that nobody writes -/
def SqC (K : PySem.W.Frag) (H : Hp) (a : Addr) (xs : List V) : Prop :=
  (∃ o, H a = some (.frz o (.lst xs))) ∨
    ∃ (o : Obj) (its : Array Value) (n : Nat), K.lookup a = some o ∧ o.cls = .type "list" ∧ o.dict = none ∧ o.data = .seq its n ∧ its.size ≤ sizeLine ∧ Vals xs its.toList
theorem SqC.l {K : PySem.W.Frag} {H : Hp} {a : Addr} {xs : List V} (h : SqC K H a xs) : SqL K H a xs := by
  rcases h with ⟨o, h⟩ | h
  · exact .inl (.inr ⟨o, h⟩)
  · exact .inr h
mutual
inductive Rp (G : Gd) (H : Hp) (ρ : Nat → Addr) (n : Nat) : D → V → Prop
  | non : Rp G H ρ n .non .non
  | bl (b : Bool) : Rp G H ρ n (.bl b) (.bl b)
  | int (i : Int) : Rp G H ρ n (.int i) (.int i)
  | str (x : Str) : Rp G H ρ n (.str x) (.str x)
  | tup {a : Addr} {xs : List V} {ds : List D} : SqT G.K H a xs → RpA G H ρ n ds xs → Rp G H ρ n (.tup ds) (.ref a)
  | ref {k : Nat} : k < n → Rp G H ρ n (.ref k) (.ref (ρ k))
  | ty (t : String) : Rp G H ρ n (.ty t) (.ty t)
  | own {c : Str} {a : Addr} : G.mg c = some (.ref a) → Rp G H ρ n (.own c) (.ref a)
  | exn {c : Str} {d : D} {a C dx : Addr} {oe : Obj} {u : HO} {w : V} : G.mg c = some (.ref C) → H a = some (.frz oe u) → oe.cls = .ref C → oe.dict = some dx → (∃ vs, oe.data = .fields vs) → H dx = some (.xd [("value", w)]) →
      Rp G H ρ n d w → Rp G H ρ n (.exn c d) (.ref a)
  | fn {f : Str} {a : Addr} : G.mg f = some (.ref a) → Rp G H ρ n (.fn f) (.ref a)
  | cl {a : Addr} {xs : List V} {ds : List D} : SqC G.K H a xs → RpA G H ρ n ds xs → Rp G H ρ n (.cl ds) (.ref a)
inductive RpA (G : Gd) (H : Hp) (ρ : Nat → Addr) (n : Nat) : List D → List V → Prop
  | nil : RpA G H ρ n [] []
  | cons {d : D} {ds : List D} {v : V} {vs : List V} : Rp G H ρ n d v → RpA G H ρ n ds vs → RpA G H ρ n (d :: ds) (v :: vs)
end

/-- what never changes is kept -/
structure Kp (H H' : Hp) : Prop where
  tup : ∀ b xs, H b = some (.tup xs) → H' b = some (.tup xs)
  frz : ∀ b o u, H b = some (.frz o u) → H' b = some (.frz o u)
  xd : ∀ b fs, H b = some (.xd fs) → H' b = some (.xd fs)
theorem Kp.refl (H : Hp) : Kp H H := ⟨fun _ _ h => h, fun _ _ _ h => h, fun _ _ h => h⟩
theorem Kp.trans {H H1 H2 : Hp} (a : Kp H H1) (b : Kp H1 H2) : Kp H H2 := ⟨fun c x h => b.tup c x (a.tup c x h), fun c o u h => b.frz c o u (a.frz c o u h), fun c o h => b.xd c o (a.xd c o h)⟩
theorem Kp.sqT {K : PySem.W.Frag} {H H' : Hp} (k : Kp H H') {a : Addr} {xs : List V} (h : SqT K H a xs) : SqT K H' a xs := by
  rcases h with (h | ⟨o, h⟩) | h
  · exact .inl (.inl (k.tup _ _ h))
  · exact .inl (.inr ⟨o, k.frz _ _ _ h⟩)
  · exact .inr h

theorem Kp.sqC {K : PySem.W.Frag} {H H' : Hp} (k : Kp H H') {a : Addr} {xs : List V} (h : SqC K H a xs) : SqC K H' a xs := by
  rcases h with ⟨o, h⟩ | h
  · exact .inl ⟨o, k.frz _ _ _ h⟩
  · exact .inr h
section
variable {G : Gd} {H H' : Hp} {ρ ρ' : Nat → Addr} {n n' : Nat}
mutual
theorem Rp.mono (k : Kp H H') (ha : ∀ i, i < n → ρ' i = ρ i) (hn : n ≤ n') : ∀ {d : D} {v : V}, Rp G H ρ n d v → Rp G H' ρ' n' d v
  | _, _, .non => .non
  | _, _, .bl b => .bl b
  | _, _, .int i => .int i
  | _, _, .str x => .str x
  | _, _, .tup h r => .tup (k.sqT h) (RpA.mono k ha hn r)
  | _, _, .ref h => by
    rw [← ha _ h]
    exact .ref (Nat.lt_of_lt_of_le h hn)
  | _, _, .ty t => .ty t
  | _, _, .own h => .own h
  | _, _, .exn h1 h2 h3 h4 h5 h6 r => .exn h1 (k.frz _ _ _ h2) h3 h4 h5 (k.xd _ _ h6) (Rp.mono k ha hn r)
  | _, _, .fn h => .fn h
  | _, _, .cl h r => .cl (k.sqC h) (RpA.mono k ha hn r)
theorem RpA.mono (k : Kp H H') (ha : ∀ i, i < n → ρ' i = ρ i) (hn : n ≤ n') : ∀ {ds : List D} {vs : List V}, RpA G H ρ n ds vs → RpA G H' ρ' n' ds vs
  | _, _, .nil => .nil
  | _, _, .cons r t => .cons (Rp.mono k ha hn r) (RpA.mono k ha hn t)
end
theorem RpA.length : ∀ {ds : List D} {vs : List V}, RpA G H ρ n ds vs → ds.length = vs.length
  | _, _, .nil => rfl
  | _, _, .cons _ t => congrArg Nat.succ (RpA.length t)
theorem RpA.get : ∀ {ds : List D} {vs : List V} {i : Nat} {d : D}, RpA G H ρ n ds vs → ds[i]? = some d → ∃ v, vs[i]? = some v ∧ Rp G H ρ n d v
  | _, _, _, _, .nil, e => by simp at e
  | _, _, 0, _, .cons r _, e => by simp at e; subst e; exact ⟨_, rfl, r⟩
  | _, _, i + 1, d, .cons _ t, e => by
    obtain ⟨v, h1, h2⟩ := RpA.get (i := i) (d := d) t (by simpa using e)
    exact ⟨v, by simpa using h1, h2⟩
theorem RpA.append : ∀ {ds es : List D} {vs ws : List V}, RpA G H ρ n ds vs → RpA G H ρ n es ws → RpA G H ρ n (ds ++ es) (vs ++ ws)
  | _, _, _, _, .nil, s => s
  | _, _, _, _, .cons r t, s => .cons r (RpA.append t s)
theorem RpA.drop : ∀ {ds : List D} {vs : List V} (k : Nat), RpA G H ρ n ds vs → RpA G H ρ n (ds.drop k) (vs.drop k)
  | _, _, 0, r => r
  | _, _, _ + 1, .nil => .nil
  | _, _, k + 1, .cons _ t => RpA.drop k t
theorem RpA.take : ∀ {ds : List D} {vs : List V} (k : Nat), RpA G H ρ n ds vs → RpA G H ρ n (ds.take k) (vs.take k)
  | _, _, 0, _ => .nil
  | _, _, _ + 1, .nil => .nil
  | _, _, k + 1, .cons r t => .cons r (RpA.take k t)
theorem RpA.reverse {ds : List D} {vs : List V} (r : RpA G H ρ n ds vs) : RpA G H ρ n ds.reverse vs.reverse := by
  induction ds generalizing vs with
  | nil => cases r; exact .nil
  | cons d ds ih =>
    cases r with
    | cons r t =>
      rw [List.reverse_cons, List.reverse_cons]
      exact (ih t).append (.cons r .nil)
theorem RpA.set {d : D} {v : V} (r : Rp G H ρ n d v) : ∀ {ds : List D} {vs : List V} (i : Nat), RpA G H ρ n ds vs → RpA G H ρ n (ds.set i d) (vs.set i v)
  | _, _, _, .nil => .nil
  | _, _, 0, .cons _ t => .cons r t
  | _, _, i + 1, .cons q t => .cons q (RpA.set r i t)
theorem RpA.none_of {ds : List D} {vs : List V} {i : Nat} (r : RpA G H ρ n ds vs) (h : vs[i]? = none) : ds[i]? = none := by
  rw [List.getElem?_eq_none_iff] at h ⊢
  rw [r.length]; exact h
end

def ObR (G : Gd) (H : Hp) (ρ : Nat → Addr) (n : Nat) : Ob → Addr → Prop
  | .lst ds, a => ∃ xs, H a = some (.lst xs) ∧ RpA G H ρ n ds xs
structure VOk (G : Gd) (H : Hp) (ρ : Nat → Addr) (h : VH) : Prop where
  ob : ∀ k o, h[k]? = some o → ObR G H ρ h.length o (ρ k)
  inj : ∀ i j, i < h.length → j < h.length → ρ i = ρ j → i = j

/-- one step: all that was tracked is kept but the small heap's own objects (and tables grow) -/
structure Stp (G : Gd) (ρ : Nat → Addr) (h : VH) (H : Hp) (ρ' : Nat → Addr) (h' : VH) (H' : Hp) : Prop where
  len : h.length ≤ h'.length
  agr : ∀ k, k < h.length → ρ' k = ρ k
  keep : ∀ b o, H b = some o → (∀ k, k < h.length → ρ k ≠ b) → (∀ ps, o ≠ .tbl ps) → H' b = some o
  fresh : ∀ k, h.length ≤ k → k < h'.length → H (ρ' k) = none
  dom : ∀ b, H' b = none → H b = none
  ok : VOk G H' ρ' h'
  tb : TabsN G.T H → TabsN G.T H'
section
variable {G : Gd} {H H1 H2 : Hp} {ρ ρ1 ρ2 : Nat → Addr} {h h1 h2 : VH}
theorem VOk.isLst (ok : VOk G H ρ h) {k : Nat} (hk : k < h.length) : ∃ xs, H (ρ k) = some (.lst xs) := by
  have e : h[k]? = some h[k] := List.getElem?_eq_getElem hk
  have q := ok.ob k _ e
  cases hz : h[k] with
  | lst ds =>
    rw [hz] at q
    obtain ⟨xs, e1, _⟩ := q
    exact ⟨xs, e1⟩
theorem VOk.ne (ok : VOk G H ρ h) {b : Addr} {o : HO} (e : H b = some o) (hn : ∀ xs, o ≠ .lst xs) : ∀ k, k < h.length → ρ k ≠ b := fun k hk z => by
  obtain ⟨xs, e1⟩ := ok.isLst hk
  rw [z, e] at e1
  exact hn xs (Option.some.inj e1)
theorem Stp.kp (ok : VOk G H ρ h) (s : Stp G ρ h H ρ1 h1 H1) : Kp H H1 :=
  ⟨fun b xs e => s.keep b _ e (ok.ne e (by intro _ z; cases z)) (by intro _ z; cases z), fun b o u e => s.keep b _ e (ok.ne e (by intro _ z; cases z)) (by intro _ z; cases z),
   fun b xs e => s.keep b _ e (ok.ne e (by intro _ z; cases z)) (by intro _ z; cases z)⟩
theorem Stp.refl (ok : VOk G H ρ h) : Stp G ρ h H ρ h H :=
  ⟨Nat.le_refl _, fun _ _ => rfl, fun _ _ e _ _ => e, fun k h1 h2 => absurd h2 (Nat.not_lt.mpr h1), fun _ e => e, ok, fun t => t⟩
theorem Stp.trans (a : Stp G ρ h H ρ1 h1 H1) (b : Stp G ρ1 h1 H1 ρ2 h2 H2) : Stp G ρ h H ρ2 h2 H2 where
  len := Nat.le_trans a.len b.len
  agr := fun k hk => (b.agr k (Nat.lt_of_lt_of_le hk a.len)).trans (a.agr k hk)
  keep := fun c o e n t => b.keep c o (a.keep c o e n t) (fun k hk => by
    by_cases hh : k < h.length
    · rw [a.agr k hh]; exact n k hh
    · intro z
      have := a.fresh k (Nat.not_lt.mp hh) hk
      rw [z, e] at this
      cases this) t
  fresh := fun k h1' h2' => by
    by_cases hh : k < h1.length
    · rw [b.agr k hh]; exact a.fresh k h1' hh
    · exact a.dom _ (b.fresh k (Nat.not_lt.mp hh) h2')
  dom := fun c e => a.dom c (b.dom c e)
  ok := b.ok
  tb := fun t => b.tb (a.tb t)
theorem Stp.rp (ok : VOk G H ρ h) (s : Stp G ρ h H ρ1 h1 H1) {d : D} {v : V} (r : Rp G H ρ h.length d v) : Rp G H1 ρ1 h1.length d v := r.mono (s.kp ok) s.agr s.len
theorem Stp.rpA (ok : VOk G H ρ h) (s : Stp G ρ h H ρ1 h1 H1) {d : List D} {v : List V} (r : RpA G H ρ h.length d v) : RpA G H1 ρ1 h1.length d v := r.mono (s.kp ok) s.agr s.len

theorem upd_dom {H : Hp} {a b : Addr} {o : HO} (e : upd H a o b = none) : H b = none := by
  unfold upd at e
  split at e
  · cases e
  · exact e
theorem TabsN.upd {T : List NTab} {H : Hp} {a : Addr} {o : HO} (hn : H a = none ∨ ∃ xs, H a = some (.lst xs)) (t : TabsN T H) : TabsN T (upd H a o) := fun p hp => by
  obtain ⟨ps, h1, h2, h3⟩ := t p hp
  have ne1 : ∀ {b : Addr} {u : HO}, H b = some u → (∀ xs, u ≠ .lst xs) → b ≠ a := fun {b u} e q z => by
    subst z
    rcases hn with hn | ⟨xs, hn⟩
    · rw [e] at hn; cases hn
    · rw [e] at hn; exact q xs (Option.some.inj hn)
  refine ⟨ps, by rw [upd_ne (ne1 h1 (by intro _ z; cases z))]; exact h1, h2, fun pos cv hc => ?_⟩
  obtain ⟨c, e1, e2⟩ := h3 pos cv hc
  have ne2 : c ≠ a := ne1 e2 (fun xs z => by
    have z' : HO.ext _ = HO.lst xs := z
    cases z')
  exact ⟨c, e1, by rw [upd_ne ne2]; exact e2⟩
/-- a new object that the small heap does not know (a tuple, a list that goes) -/
theorem Stp.new {p : Addr} {o : HO} (ok : VOk G H ρ h) (hp : H p = none) : Stp G ρ h H ρ h (upd H p o) := by
  have k : Kp H (L2.upd H p o) := ⟨fun b xs e => by rw [upd_ne (ne_of_none e hp)]; exact e, fun b xs u e => by rw [upd_ne (ne_of_none e hp)]; exact e, fun b xs e => by rw [upd_ne (ne_of_none e hp)]; exact e⟩
  refine ⟨Nat.le_refl _, fun _ _ => rfl, fun b u e _ _ => by rw [upd_ne (ne_of_none e hp)]; exact e, fun k h1 h2 => absurd h2 (Nat.not_lt.mpr h1), fun _ e => upd_dom e, ⟨fun i ob e => ?_, ok.inj⟩, TabsN.upd (.inl hp)⟩
  have q := ok.ob i ob e
  cases ob with
  | lst ds =>
    obtain ⟨xs, e1, r⟩ := q
    exact ⟨xs, by rw [upd_ne (ne_of_none e1 hp)]; exact e1, r.mono k (fun _ _ => rfl) (Nat.le_refl _)⟩
/-- the map with one place more -/
def ext (ρ : Nat → Addr) (n : Nat) (p : Addr) : Nat → Addr := fun k => if k = n then p else ρ k
theorem ext_lt {ρ : Nat → Addr} {n : Nat} {p : Addr} {k : Nat} (h : k < n) : ext ρ n p k = ρ k := if_neg (Nat.ne_of_lt h)
theorem ext_self {ρ : Nat → Addr} {n : Nat} {p : Addr} : ext ρ n p n = p := if_pos rfl
/-- a new list that the small heap knows -/
theorem Stp.alloc {p : Addr} {ds : List D} {xs : List V} (ok : VOk G H ρ h) (hp : H p = none) (r : RpA G H ρ h.length ds xs) : Stp G ρ h H (ext ρ h.length p) (h ++ [.lst ds]) (upd H p (.lst xs)) := by
  have kp : Kp H (L2.upd H p (.lst xs)) := ⟨fun b xs e => by rw [upd_ne (ne_of_none e hp)]; exact e, fun b xs u e => by rw [upd_ne (ne_of_none e hp)]; exact e, fun b xs e => by rw [upd_ne (ne_of_none e hp)]; exact e⟩
  have lenE : (h ++ [Ob.lst ds]).length = h.length + 1 := by simp
  refine ⟨by rw [lenE]; exact Nat.le_succ _, fun _ hk => ext_lt hk, fun b u e _ _ => by rw [upd_ne (ne_of_none e hp)]; exact e, fun k h1 h2 => ?_, fun _ e => upd_dom e, ⟨fun i ob e => ?_, fun i j hi hj e => ?_⟩, TabsN.upd (.inl hp)⟩
  · have : k = h.length := by rw [lenE] at h2; omega
    subst this
    rw [ext_self]; exact hp
  · by_cases hi : i < h.length
    · rw [List.getElem?_append_left hi] at e
      rw [ext_lt hi]
      have q := ok.ob i ob e
      cases ob with
      | lst es =>
        obtain ⟨ys, e1, r1⟩ := q
        refine ⟨ys, by rw [upd_ne (ne_of_none e1 hp)]; exact e1, ?_⟩
        rw [lenE]
        exact r1.mono kp (fun _ hk => ext_lt hk) (Nat.le_succ _)
    · have hl := (List.getElem?_eq_some_iff.mp e).1
      have : i = h.length := by rw [lenE] at hl; omega
      subst this
      rw [List.getElem?_append_right (Nat.le_refl _)] at e
      simp at e
      subst e
      rw [ext_self]
      refine ⟨xs, upd_same, ?_⟩
      rw [lenE]
      exact r.mono kp (fun _ hk => ext_lt hk) (Nat.le_succ _)
  · rw [lenE] at hi hj
    have np : ∀ k, k < h.length → ρ k ≠ p := fun k hk z => by
      obtain ⟨ys, e1⟩ := ok.isLst hk
      rw [z, hp] at e1; cases e1
    by_cases h1 : i < h.length <;> by_cases h2 : j < h.length
    · rw [ext_lt h1, ext_lt h2] at e
      exact ok.inj i j h1 h2 e
    · have : j = h.length := by omega
      subst this
      rw [ext_lt h1, ext_self] at e
      exact absurd e (np i h1)
    · have : i = h.length := by omega
      subst this
      rw [ext_lt h2, ext_self] at e
      exact absurd e.symm (np j h2)
    · omega
/-- a list of the small heap is written -/
theorem Stp.write {k : Nat} {ds : List D} {xs : List V} (ok : VOk G H ρ h) (hk : k < h.length) (r : RpA G H ρ h.length ds xs) : Stp G ρ h H ρ (h.set k (.lst ds)) (upd H (ρ k) (.lst xs)) := by
  obtain ⟨ys, e0⟩ := ok.isLst hk
  have ne1 : ∀ {b : Addr} {u : HO}, H b = some u → (∀ xs, u ≠ .lst xs) → b ≠ ρ k := fun {b u} e q z => by
    subst z
    rw [e] at e0; exact q ys (Option.some.inj e0)
  have kp : Kp H (L2.upd H (ρ k) (.lst xs)) := ⟨fun b xs e => by rw [upd_ne (ne1 e (by intro _ z; cases z))]; exact e, fun b xs u e => by rw [upd_ne (ne1 e (by intro _ z; cases z))]; exact e, fun b xs e => by rw [upd_ne (ne1 e (by intro _ z; cases z))]; exact e⟩
  have lenE : (h.set k (Ob.lst ds)).length = h.length := List.length_set
  refine ⟨by rw [lenE]; exact Nat.le_refl _, fun _ _ => rfl, fun b u e n _ => by rw [upd_ne (fun z => n k hk z.symm)]; exact e, fun j h1 h2 => by rw [lenE] at h2; omega, fun _ e => upd_dom e, ⟨fun i ob e => ?_, fun i j hi hj e => ?_⟩, TabsN.upd (.inr ⟨ys, e0⟩)⟩
  · rw [lenE]
    by_cases hi : k = i
    · subst hi
      rw [List.getElem?_set_self hk] at e
      cases e
      exact ⟨xs, upd_same, r.mono kp (fun _ _ => rfl) (Nat.le_refl _)⟩
    · rw [List.getElem?_set_ne hi] at e
      have q := ok.ob i ob e
      have hi2 := (List.getElem?_eq_some_iff.mp e).1
      cases ob with
      | lst es =>
        obtain ⟨zs, e1, r1⟩ := q
        exact ⟨zs, by rw [upd_ne (fun z => hi (ok.inj k i hk hi2 z.symm))]; exact e1, r1.mono kp (fun _ _ => rfl) (Nat.le_refl _)⟩
  · rw [lenE] at hi hj
    exact ok.inj i j hi hj e
end
end Ev

set_option Elab.async false
set_option linter.all false
set_option maxRecDepth 100000
/-! Ev2: the lifted readings; operators by data. -/
namespace Ev
open PySem PySem.Spec PyProof.Rows L2 NdefX

abbrev Env := List (Option D)
abbrev PQ := D → VH → Prop
abbrev PB := Bool → VH → Prop
abbrev PL := List D → VH → Prop
abbrev PX := Str → D → VH → Prop
abbrev FE := Env → VH → PQ → PX → Prop
abbrev FA := Env → VH → PL → PX → Prop
abbrev FT := Env → VH → PB → PX → Prop

def gd (X : Cx) (T : List NTab) : Gd := ⟨X.K, X.mg, T⟩

structure M (G : Gd) (ρ : Nat → Addr) (env : Env) (h : VH) (σ : L2.St) (H : Hp) : Prop where
  ok : VOk G H ρ h
  tabs : TabsN G.T H
  len : env.length = σ.length
  env : ∀ (i : Nat) (d : D), env[i]? = some (some d) → ∃ v : V, σ[i]? = some (some v) ∧ Rp G H ρ h.length d v
section
variable {G : Gd} {H H1 H2 : Hp} {ρ ρ1 ρ2 : Nat → Addr} {env : Env} {h h1 h2 : VH} {σ : L2.St}
theorem M.step (m : M G ρ env h σ H) (s : Stp G ρ h H ρ1 h1 H1) : M G ρ1 env h1 σ H1 :=
  ⟨s.ok, s.tb m.tabs, m.len, fun i d e => by
    obtain ⟨v, e1, r⟩ := m.env i d e
    exact ⟨v, e1, s.rp m.ok r⟩⟩
theorem M.set {d : D} {v : V} (m : M G ρ env h σ H) (i : Nat) (r : Rp G H ρ h.length d v) : M G ρ (env.set i (some d)) h (σ.set i (some v)) H :=
  ⟨m.ok, m.tabs, by rw [List.length_set, List.length_set]; exact m.len, fun j e q => by
    by_cases hj : i = j
    · subst hj
      by_cases hl : i < env.length
      · rw [List.getElem?_set_self hl] at q
        cases q
        exact ⟨v, by rw [List.getElem?_set_self (by rw [← m.len]; exact hl)], r⟩
      · rw [List.getElem?_eq_none (by rw [List.length_set]; exact Nat.not_lt.mp hl)] at q
        cases q
    · rw [List.getElem?_set_ne hj] at q ⊢
      exact m.env j e q⟩
theorem M.clear (m : M G ρ env h σ H) (i : Nat) : M G ρ (env.set i none) h (σ.set i none) H :=
  ⟨m.ok, m.tabs, by rw [List.length_set, List.length_set]; exact m.len, fun j e q => by
    by_cases hj : i = j
    · subst hj
      by_cases hl : i < env.length
      · rw [List.getElem?_set_self hl] at q
        cases q
      · rw [List.getElem?_eq_none (by rw [List.length_set]; exact Nat.not_lt.mp hl)] at q
        cases q
    · rw [List.getElem?_set_ne hj] at q ⊢
      exact m.env j e q⟩
/-- the environment with places forgotten -/
def wipeD (env : Env) : List Nat → Env
  | [] => env
  | v :: vs => (wipeD env vs).set v none
theorem M.wipe (m : M G ρ env h σ H) : ∀ vs : List Nat, M G ρ (wipeD env vs) h (wipe σ vs) H
  | [] => m
  | v :: vs => (M.wipe m vs).clear v
end

def QV (G : Gd) (ρ : Nat → Addr) (h : VH) (H : Hp) (Q : VK) : PQ := fun d h' => ∀ ρ' v H', Stp G ρ h H ρ' h' H' → Rp G H' ρ' h'.length d v → Q v H'
def QB (G : Gd) (ρ : Nat → Addr) (h : VH) (H : Hp) (Q : Bool → Hp → Prop) : PB := fun b h' => ∀ ρ' H', Stp G ρ h H ρ' h' H' → Q b H'
def QL (G : Gd) (ρ : Nat → Addr) (h : VH) (H : Hp) (Q : List V → Hp → Prop) : PL := fun ds h' => ∀ ρ' vs H', Stp G ρ h H ρ' h' H' → RpA G H' ρ' h'.length ds vs → Q vs H'
def QX (G : Gd) (ρ : Nat → Addr) (h : VH) (H : Hp) (W : WX) (σ : L2.St) : PX := fun c d h' => ∀ ρ' H' C dx w, Stp G ρ h H ρ' h' H' → G.mg c = some (.ref C) → H' dx = some (.xd [("value", w)]) → Rp G H' ρ' h'.length d w →
  W (.ref C) (some dx) σ H'
section
variable {G : Gd} {H H1 : Hp} {ρ ρ1 : Nat → Addr} {h h1 : VH} {W : WX} {σ : L2.St}
theorem QV.step {Q : VK} (s : Stp G ρ h H ρ1 h1 H1) {d : D} {h' : VH} (q : QV G ρ h H Q d h') : QV G ρ1 h1 H1 Q d h' := fun ρ' v H' s' r => q ρ' v H' (s.trans s') r
theorem QB.step {Q : Bool → Hp → Prop} (s : Stp G ρ h H ρ1 h1 H1) {d : Bool} {h' : VH} (q : QB G ρ h H Q d h') : QB G ρ1 h1 H1 Q d h' := fun ρ' H' s' => q ρ' H' (s.trans s')
theorem QL.step {Q : List V → Hp → Prop} (s : Stp G ρ h H ρ1 h1 H1) {d : List D} {h' : VH} (q : QL G ρ h H Q d h') : QL G ρ1 h1 H1 Q d h' := fun ρ' v H' s' r => q ρ' v H' (s.trans s') r
theorem QX.step (s : Stp G ρ h H ρ1 h1 H1) {c : Str} {d : D} {h' : VH} (q : QX G ρ h H W σ c d h') : QX G ρ1 h1 H1 W σ c d h' := fun ρ' H' C dx w s' a b r => q ρ' H' C dx w (s.trans s') a b r
end

def lE (G : Gd) (W : WX) (f : FE) : TE := fun σ H Q => ∃ ρ env h, M G ρ env h σ H ∧ f env h (QV G ρ h H Q) (QX G ρ h H W σ)
def lA (G : Gd) (W : WX) (f : FA) : TA := fun σ H Q => ∃ ρ env h, M G ρ env h σ H ∧ f env h (QL G ρ h H Q) (QX G ρ h H W σ)
def lT (G : Gd) (W : WX) (f : FT) : TT := fun σ H Q => ∃ ρ env h, M G ρ env h σ H ∧ f env h (QB G ρ h H Q) (QX G ρ h H W σ)
structure MonE (f : FE) : Prop where
  mo : ∀ {env : Env} {h : VH} {Q Q' : PQ} {E E' : PX}, (∀ d h, Q d h → Q' d h) → (∀ c d h, E c d h → E' c d h) → f env h Q E → f env h Q' E'
structure MonA (f : FA) : Prop where
  mo : ∀ {env : Env} {h : VH} {Q Q' : PL} {E E' : PX}, (∀ d h, Q d h → Q' d h) → (∀ c d h, E c d h → E' c d h) → f env h Q E → f env h Q' E'
structure MonT (f : FT) : Prop where
  mo : ∀ {env : Env} {h : VH} {Q Q' : PB} {E E' : PX}, (∀ d h, Q d h → Q' d h) → (∀ c d h, E c d h → E' c d h) → f env h Q E → f env h Q' E'

theorem PE.imp {X : Cx} {e : Expr} {t t' : TE} (h : PE X e t) (k : ∀ σ H Q, t' σ H Q → t σ H Q) : PE X e t' := ⟨fun pins s σ H Q I q => h.run pins s σ H Q I (k σ H Q q)⟩
theorem PT.imp {X : Cx} {e : Expr} {t t' : TT} (h : PT X e t) (k : ∀ σ H Q, t' σ H Q → t σ H Q) : PT X e t' := ⟨fun pins s σ H Q I q => h.run pins s σ H Q I (k σ H Q q)⟩
theorem PW.imp {X : Cx} {e : Expr} {t t' : TT} (h : PW X e t) (k : ∀ σ H Q, t' σ H Q → t σ H Q) : PW X e t' := ⟨fun w pins s σ H Q I q => h.run w pins s σ H Q I (k σ H Q q)⟩
theorem PA.imp {X : Cx} {e : List Expr} {t t' : TA} (h : PA X e t) (k : ∀ σ H Q, t' σ H Q → t σ H Q) : PA X e t' := ⟨fun p pins s σ H Q I q => h.run p pins s σ H Q I (k σ H Q q)⟩
theorem PS.imp {X : Cx} {e : Stmt} {t t' : TS} (h : PS X e t) (k : ∀ D σ H, t' D σ H → t D σ H) : PS X e t' := ⟨fun pins s σ H D I q => h.run pins s σ H D I (k D σ H q)⟩
theorem PSs.imp {X : Cx} {e : List Stmt} {t t' : TS} (h : PSs X e t) (k : ∀ D σ H, t' D σ H → t D σ H) : PSs X e t' := ⟨fun pins s σ H D I q => h.run pins s σ H D I (k D σ H q)⟩

/-! ### what an operation on data gives -/
inductive Res where
  | val (d : D) | new (ds : List D)
def Res.run (r : Res) (h : VH) (Q : PQ) : Prop := match r with
  | .val d => Q d h
  | .new ds => Q (.ref h.length) (h ++ [.lst ds])
def fin (o : Option Res) (h : VH) (Q : PQ) : Prop := match o with
  | none => False
  | some r => r.run h Q
theorem fin_mono {o : Option Res} {h : VH} {Q Q' : PQ} (k : ∀ d h, Q d h → Q' d h) (q : fin o h Q) : fin o h Q' := by
  cases o with
  | none => exact q.elim
  | some r => cases r <;> exact k _ _ q

abbrev F2 := D → D → VH → Option Res
def rOf (G : Gd) (g : F2) : R2 := fun x y H Q => ∃ ρ h dx dy, VOk G H ρ h ∧ Rp G H ρ h.length dx x ∧ Rp G H ρ h.length dy y ∧ fin (g dx dy h) h (QV G ρ h H Q)
abbrev F1 := D → VH → Option Res
def rOf1 (G : Gd) (g : F1) : V → Hp → VK → Prop := fun x H Q => ∃ ρ h dx, VOk G H ρ h ∧ Rp G H ρ h.length dx x ∧ fin (g dx h) h (QV G ρ h H Q)
abbrev FN := List D → VH → Option Res
def rOfN (G : Gd) (g : FN) : List V → Hp → VK → Prop := fun xs H Q => ∃ ρ h ds, VOk G H ρ h ∧ RpA G H ρ h.length ds xs ∧ fin (g ds h) h (QV G ρ h H Q)

section
variable {G : Gd} {H : Hp} {ρ : Nat → Addr} {h : VH} {Q : VK}
/-- a value at once -/
theorem fin_val {d : D} {v : V} (ok : VOk G H ρ h) (r : Rp G H ρ h.length d v) (q : QV G ρ h H Q d h) : Q v H := q ρ v H (Stp.refl ok) r
/-- a new tuple -/
theorem fin_tup {ds : List D} {xs : List V} (ok : VOk G H ρ h) (r : RpA G H ρ h.length ds xs) (q : QV G ρ h H Q (.tup ds) h) : ∀ p, H p = none → Q (.ref p) (upd H p (.tup xs)) := fun p hp => by
  have s := Stp.new (o := .tup xs) ok hp
  exact q ρ _ _ s (.tup (.of upd_same) (s.rpA ok r))
/-- a new list -/
theorem fin_new {ds : List D} {xs : List V} (ok : VOk G H ρ h) (r : RpA G H ρ h.length ds xs) (q : QV G ρ h H Q (.ref h.length) (h ++ [.lst ds])) : ∀ p, H p = none → Q (.ref p) (upd H p (.lst xs)) := fun p hp => by
  have s := Stp.alloc ok hp r
  have e : V.ref p = V.ref (ext ρ h.length p h.length) := by rw [ext_self]
  rw [e]
  exact q _ _ _ s (.ref (by simp))
end

/-! ### operators -/
def line : Nat := 16777216
theorem fuel_ex : ∃ n : Nat, n = 16777216 := ⟨_, rfl⟩
/-- the turns that a loop may take; the kernel is not to count them -/
noncomputable def fuel : Nat := Classical.choose fuel_ex
theorem fuel_eq : fuel = 16777216 := Classical.choose_spec fuel_ex
theorem line_eq : line = sizeLine := by rw [sizeLine_eq]; rfl
def lstAt (h : VH) (k : Nat) : Option (List D) := match h[k]? with
  | some (.lst ds) => some ds
  | _ => none
theorem VOk.lst {G : Gd} {H : Hp} {ρ : Nat → Addr} {h : VH} (ok : VOk G H ρ h) {k : Nat} {ds : List D} (e : lstAt h k = some ds) : ∃ xs, H (ρ k) = some (.lst xs) ∧ RpA G H ρ h.length ds xs ∧ k < h.length := by
  unfold lstAt at e
  cases q : h[k]? with
  | none => rw [q] at e; cases e
  | some o =>
    rw [q] at e
    cases o with
    | lst es =>
      cases e
      obtain ⟨xs, e1, r⟩ := ok.ob k _ q
      exact ⟨xs, e1, r, (List.getElem?_eq_some_iff.mp q).1⟩
def gAdd : F2 := fun x y h => match x, y with
  | .int i, .int j => some (.val (.int (i + j)))
  | .str a, .str b => if a.length + b.length ≤ line then some (.val (.str (a ++ b))) else none
  | .tup a, .tup b => if a.length + b.length ≤ line then some (.val (.tup (a ++ b))) else none
  | .ref k, .ref l => match lstAt h k, lstAt h l with
    | some a, some b => if a.length + b.length ≤ line then some (.new (a ++ b)) else none
    | _, _ => none
  | _, _ => none
def gSub : F2 := fun x y _ => match x, y with
  | .int i, .int j => some (.val (.int (i - j)))
  | _, _ => none
/-- the size of a product of ints -/
def mulOk (i j : Int) : Bool := decide (i.natAbs < 18446744073709551616) || (decide (j.natAbs < 18446744073709551616) || (decide (i.natAbs.log2 < 400000) && decide (j.natAbs.log2 < 400000)))
def gMul : F2 := fun x y h => match x, y with
  | .int i, .int j => if mulOk i j then some (.val (.int (i * j))) else none
  | .tup a, .int k => if a ≠ [] ∧ 2 ≤ k ∧ k ≤ 1000 ∧ a.length ≤ 1000 then some (.val (.tup (List.replicate k.toNat a).flatten)) else none
  | .ref l, .int k => match lstAt h l with
    | some a => if -9223372036854775808 ≤ k ∧ k < 9223372036854775808 ∧ a.length * k.toNat ≤ line then some (.new (List.replicate k.toNat a).flatten) else none
    | none => none
  | _, _ => none
def gDiv : F2 := fun x y _ => match x, y with
  | .int i, .int j => if 0 < j ∧ j.natAbs.log2 < 8000 then some (.val (.int (i / j))) else none
  | _, _ => none
def gMod : F2 := fun x y _ => match x, y with
  | .int i, .int j => if 0 < j then some (.val (.int (i % j))) else none
  | _, _ => none
def gPow : F2 := fun x y _ => match x, y with
  | .int i, .int j => if 0 ≤ j ∧ j ≤ 1000 ∧ i.natAbs < 18446744073709551616 then some (.val (.int (i ^ j.toNat))) else none
  | _, _ => none
end Ev
namespace Ev
open PySem PySem.Spec PyProof.Rows L2 NdefX
section
variable {X : Cx} {T : List NTab}
theorem or_add : OpR X (binaryOp .Add) (rOf (gd X T) gAdd) := by
  intro pins s σ H x y v u Q I rx ry ⟨ρ, h, dx, dy, ok, r1, r2, hf⟩
  cases r1 with
  | int i => cases r2 with
    | int j => exact op_add pins s σ H _ _ v u Q I rx ry ⟨i, j, rfl, rfl, fin_val ok (.int _) hf⟩
    | _ => exact hf.elim
  | str i => cases r2 with
    | str j =>
      simp only [gAdd] at hf
      split at hf
      · rename_i hl
        exact op_add_str pins s σ H _ _ v u Q I rx ry ⟨i, j, rfl, rfl, by rw [← line_eq]; exact hl, fin_val ok (.str _) hf⟩
      · exact hf.elim
    | _ => exact hf.elim
  | tup q1 t1 => cases r2 with
    | tup q2 t2 =>
      simp only [gAdd] at hf
      split at hf
      · rename_i hl
        rw [t1.length, t2.length] at hl
        refine op_catA pins s σ H _ _ v u Q I rx ry ⟨_, _, _, _, rfl, rfl, q1, q2, by rw [← line_eq]; exact hl, fun e => ?_, fun _ e => ?_, fun _ _ => fin_tup ok (t1.append t2) hf⟩
        · subst e
          cases t1
          exact fin_val ok (.tup q2 t2) hf
        · subst e
          cases t2
          rw [List.append_nil] at hf
          exact fin_val ok (.tup q1 t1) hf
      · exact hf.elim
    | _ => exact hf.elim
  | ref k => cases r2 with
    | ref l =>
      simp only [gAdd] at hf
      split at hf
      · rename_i a b ea eb
        split at hf
        · rename_i hl
          obtain ⟨xs, e1, t1, _⟩ := ok.lst ea
          obtain ⟨ys, e2, t2, _⟩ := ok.lst eb
          rw [t1.length, t2.length] at hl
          exact op_cat pins s σ H _ _ v u Q I rx ry ⟨_, _, _, _, rfl, rfl, e1, e2, by rw [← line_eq]; exact hl, fin_new ok (t1.append t2) hf⟩
        · exact hf.elim
      · exact hf.elim
    | _ => exact hf.elim
  | _ => exact hf.elim
theorem or_sub : OpR X (binaryOp .Sub) (rOf (gd X T) gSub) := by
  intro pins s σ H x y v u Q I rx ry ⟨ρ, h, dx, dy, ok, r1, r2, hf⟩
  cases r1 with
  | int i => cases r2 with
    | int j => exact op_sub pins s σ H _ _ v u Q I rx ry ⟨i, j, rfl, rfl, fin_val ok (.int _) hf⟩
    | _ => exact hf.elim
  | _ => exact hf.elim
theorem mulOk_ok {i j : Int} (h : mulOk i j = true) : CMul i j ∨ CMulW i j := by
  unfold mulOk at h
  simp only [Bool.or_eq_true, Bool.and_eq_true, decide_eq_true_eq] at h
  rcases h with h | h | ⟨h1, h2⟩
  · exact .inl (.inl ⟨by omega, by omega⟩)
  · exact .inl (.inr ⟨by omega, by omega⟩)
  · exact .inr (by unfold CMulW; omega)
theorem rpA_rep {G : Gd} {H : Hp} {ρ : Nat → Addr} {n : Nat} {ds : List D} {xs : List V} (r : RpA G H ρ n ds xs) : ∀ k : Nat, RpA G H ρ n (List.replicate k ds).flatten (List.replicate k xs).flatten
  | 0 => .nil
  | k + 1 => by
    rw [List.replicate_succ, List.replicate_succ, List.flatten_cons, List.flatten_cons]
    exact r.append (rpA_rep r k)
theorem or_mul : OpR X (binaryOp .Mult) (rOf (gd X T) gMul) := by
  intro pins s σ H x y v u Q I rx ry ⟨ρ, h, dx, dy, ok, r1, r2, hf⟩
  cases r1 with
  | int i => cases r2 with
    | int j =>
      simp only [gMul] at hf
      split at hf
      · rename_i hl
        rcases mulOk_ok hl with c | c
        · exact op_mul pins s σ H _ _ v u Q I rx ry ⟨i, j, rfl, rfl, c, fin_val ok (.int _) hf⟩
        · exact op_mulW pins s σ H _ _ v u Q I rx ry ⟨i, j, rfl, rfl, c, fin_val ok (.int _) hf⟩
      · exact hf.elim
    | _ => exact hf.elim
  | tup q1 t1 => cases r2 with
    | int k =>
      simp only [gMul] at hf
      split at hf
      · rename_i hl
        obtain ⟨h0, h1, h2, h3⟩ := hl
        rw [t1.length] at h3
        refine op_repT pins s σ H _ _ v u Q I rx ry ⟨_, _, _, rfl, rfl, q1, fun e => ?_, h1, h2, h3, fin_tup ok (rpA_rep t1 _) hf⟩
        subst e
        cases t1
        exact h0 rfl
      · exact hf.elim
    | _ => exact hf.elim
  | ref k => cases r2 with
    | int j =>
      simp only [gMul] at hf
      split at hf
      · rename_i a ea
        split at hf
        · rename_i hl
          obtain ⟨h0, h1, h2⟩ := hl
          obtain ⟨xs, e1, t1, _⟩ := ok.lst ea
          rw [t1.length] at h2
          exact op_rep pins s σ H _ _ v u Q I rx ry ⟨_, _, _, rfl, rfl, e1, by omega, by omega, by rw [← line_eq]; exact h2, fin_new ok (rpA_rep t1 _) hf⟩
        · exact hf.elim
      · exact hf.elim
    | _ => exact hf.elim
  | _ => exact hf.elim
theorem or_div : OpR X (binaryOp .FloorDiv) (rOf (gd X T) gDiv) := by
  intro pins s σ H x y v u Q I rx ry ⟨ρ, h, dx, dy, ok, r1, r2, hf⟩
  cases r1 with
  | int i => cases r2 with
    | int j =>
      simp only [gDiv] at hf
      split at hf
      · rename_i hl
        exact op_fdivW pins s σ H _ _ v u Q I rx ry ⟨i, j, rfl, rfl, ⟨hl.1, by omega⟩, fin_val ok (.int _) hf⟩
      · exact hf.elim
    | _ => exact hf.elim
  | _ => exact hf.elim
theorem or_mod : OpR X (binaryOp .Mod) (rOf (gd X T) gMod) := by
  intro pins s σ H x y v u Q I rx ry ⟨ρ, h, dx, dy, ok, r1, r2, hf⟩
  cases r1 with
  | int i => cases r2 with
    | int j =>
      simp only [gMod] at hf
      split at hf
      · rename_i hl
        exact op_mod pins s σ H _ _ v u Q I rx ry ⟨i, j, rfl, rfl, hl, fin_val ok (.int _) hf⟩
      · exact hf.elim
    | _ => exact hf.elim
  | _ => exact hf.elim
theorem or_pow : OpR X (binaryOp .Pow) (rOf (gd X T) gPow) := by
  intro pins s σ H x y v u Q I rx ry ⟨ρ, h, dx, dy, ok, r1, r2, hf⟩
  cases r1 with
  | int i => cases r2 with
    | int j =>
      simp only [gPow] at hf
      split at hf
      · rename_i hl
        exact op_pow pins s σ H _ _ v u Q I rx ry ⟨i, j, rfl, rfl, ⟨hl.1, by omega, by omega⟩, fin_val ok (.int _) hf⟩
      · exact hf.elim
    | _ => exact hf.elim
  | _ => exact hf.elim
end
inductive Bop where
  | add | sub | mul | div | mod | pow
def Bop.g : Bop → F2
  | .add => gAdd | .sub => gSub | .mul => gMul | .div => gDiv | .mod => gMod | .pow => gPow
def Bop.op : Bop → Operator
  | .add => .Add | .sub => .Sub | .mul => .Mult | .div => .FloorDiv | .mod => .Mod | .pow => .Pow
theorem or_bin {X : Cx} {T : List NTab} : ∀ b : Bop, OpR X (binaryOp b.op) (rOf (gd X T) b.g)
  | .add => or_add | .sub => or_sub | .mul => or_mul | .div => or_div | .mod => or_mod | .pow => or_pow
/-! ### a op b -/
def fBin (g : F2) (fa fb : FE) : FE := fun env h Q E => fa env h (fun x h1 => fb env h1 (fun y h2 => fin (g x y h2) h2 Q) E) E
theorem fBin_mono {g : F2} {fa fb : FE} (ma : MonE fa) (mb : MonE fb) : MonE (fBin g fa fb) := ⟨fun kQ kE q => ma.mo (fun _ _ q1 => mb.mo (fun _ _ q2 => fin_mono kQ q2) kE q1) kE q⟩
section
variable {X : Cx} {T : List NTab} {W : WX} {a b : Expr} {fa fb : FE} {pos : Pos}
theorem lE_bin {G : Gd} {g : F2} (ma : MonE fa) (mb : MonE fb) {σ : L2.St} {H : Hp} {Q : VK} (q : lE G W (fBin g fa fb) σ H Q) : tOp (rOf G g) (lE G W fa) (lE G W fb) σ H Q := by
  obtain ⟨ρ, env, h, m, hf⟩ := q
  refine ⟨ρ, env, h, m, ma.mo (fun x h1 q1 => ?_) (fun _ _ _ e => e) hf⟩
  intro ρ1 v H1 s1 r1
  refine ⟨ρ1, env, h1, m.step s1, mb.mo (fun y h2 q2 => ?_) (fun _ _ _ e => e.step s1) q1⟩
  intro ρ2 u H2 s2 r2
  exact ⟨ρ2, h2, x, y, s2.ok, s2.rp s1.ok r1, r2, fin_mono (fun _ _ z => z.step (s1.trans s2)) q2⟩
theorem se_bin (o : Bop) (ma : MonE fa) (mb : MonE fb) (ha : PE X a (lE (gd X T) W fa)) (hb : PE X b (lE (gd X T) W fb)) : PE X (.BinOp a o.op b pos) (lE (gd X T) W (fBin o.g fa fb)) :=
  PE.imp (pe_op (or_bin o) ha hb) fun _ _ _ q => lE_bin ma mb q
end
end Ev

set_option Elab.async false
set_option linter.all false
set_option maxRecDepth 100000
/-! Ev3: comparisons and built-ins by data. -/
namespace Ev
open PySem PySem.Spec PyProof.Rows L2 NdefX

/-! ### data as the library has it -/
def allSome {α β : Type} (f : α → Option β) : List α → Option (List β)
  | [] => some []
  | x :: xs => match f x with
    | none => none
    | some y => match allSome f xs with
      | none => none
      | some ys => some (y :: ys)
def toPy (h : VH) : Nat → D → Option PyData
  | 0, _ => none
  | n + 1, d => match d with
    | .non => some .none
    | .bl b => some (.bool b)
    | .int i => some (.int i)
    | .str x => if PyData.strOk x then some (.str x) else none
    | .tup ds => match allSome (toPy h n) ds with
      | some ps => some (.tuple ps)
      | none => none
    | .ref k => match lstAt h k with
      | some ds => match allSome (toPy h n) ds with
        | some ps => some (.list ps)
        | none => none
      | none => none
    | _ => none
section
variable {G : Gd} {H : Hp} {ρ : Nat → Addr} {h : VH}
theorem allSome_dp (f : D → Option PyData) {m : Nat} : ∀ {ds : List D} {vs : List V} {ps : List PyData}, (∀ d v p, f d = some p → Rp G H ρ h.length d v → Dp G.K H v p ∧ p.canLay0 = true ∧ p.depth ≤ m) →
    allSome f ds = some ps → RpA G H ρ h.length ds vs → DpAll G.K H vs ps ∧ PyData.canLayAll0 ps = true ∧ PyData.depthAll ps ≤ m
  | [], _, ps, _, e, r => by
    cases r
    cases e
    exact ⟨.nil, rfl, Nat.zero_le _⟩
  | d :: ds, _, ps, k, e, r => by
    cases r with
    | cons r t =>
      unfold allSome at e
      cases e1 : f d with
      | none => rw [e1] at e; cases e
      | some p =>
        rw [e1] at e
        simp only at e
        cases e2 : allSome f ds with
        | none => rw [e2] at e; cases e
        | some qs =>
          rw [e2] at e
          cases e
          obtain ⟨a1, a2, a3⟩ := k d _ p e1 r
          obtain ⟨b1, b2, b3⟩ := allSome_dp f k e2 t
          refine ⟨.cons a1 b1, by simp only [PyData.canLayAll0, a2, b2, Bool.and_self], ?_⟩
          simp only [PyData.depthAll]
          omega
theorem toPy_dp (ok : VOk G H ρ h) : ∀ (n : Nat) (d : D) (v : V) (p : PyData), toPy h n d = some p → Rp G H ρ h.length d v → Dp G.K H v p ∧ p.canLay0 = true ∧ p.depth ≤ n
  | 0, _, _, _, e, _ => by cases e
  | n + 1, d, v, p, e, r => by
    have ih := toPy_dp ok n
    cases r with
    | non => cases e; exact ⟨.non, rfl, Nat.zero_le _⟩
    | bl b => cases e; exact ⟨.bl b, rfl, Nat.zero_le _⟩
    | int i => cases e; exact ⟨.int i, rfl, Nat.zero_le _⟩
    | str x =>
      simp only [toPy] at e
      split at e
      · rename_i hs
        cases e
        exact ⟨.str x, hs, Nat.zero_le _⟩
      · cases e
    | tup q t =>
      simp only [toPy] at e
      split at e
      · rename_i ps e1
        cases e
        obtain ⟨a1, a2, a3⟩ := allSome_dp (toPy h n) ih e1 t
        exact ⟨.tup q a1, a2, by simp only [PyData.depth]; omega⟩
      · cases e
    | ref k =>
      simp only [toPy] at e
      split at e
      · rename_i ds e1
        split at e
        · rename_i ps e2
          cases e
          obtain ⟨xs, e3, t, _⟩ := ok.lst e1
          obtain ⟨a1, a2, a3⟩ := allSome_dp (toPy h n) ih e2 t
          exact ⟨.lst (.of e3) a1, a2, by simp only [PyData.depth]; omega⟩
        · cases e
      · cases e
    | _ => cases e
theorem toPy_shaped (ok : VOk G H ρ h) {d : D} {v : V} {p : PyData} (e : toPy h 60 d = some p) (r : Rp G H ρ h.length d v) : Dp G.K H v p ∧ SeqAt.shaped p = true := by
  obtain ⟨a1, a2, a3⟩ := toPy_dp ok 60 d v p e r
  refine ⟨a1, ?_⟩
  unfold SeqAt.shaped
  rw [a2, Bool.true_and]
  exact decide_eq_true (by omega)
end
/-! ### order of tuples -/
def lexB (le : D → D → Option Bool) (py : D → Option PyData) : List D → List D → Option Bool
  | [], _ => some true
  | _ :: _, [] => some false
  | a :: as, b :: bs => match py a, py b, lexB le py as bs with
    | some p, some q, some t => if PyData.eqv p q = true then some t else le a b
    | _, _, _ => none
def leD (h : VH) : Nat → D → D → Option Bool
  | 0, _, _ => none
  | n + 1, x, y => match x, y with
    | .int i, .int j => some (decide (i ≤ j))
    | .tup as, .tup bs => lexB (leD h n) (toPy h 50) as bs
    | _, _ => none
theorem lexAt_shift {e r : Nat → Bool} {z : Bool} : ∀ (k i : Nat), Ob.lexAt e r z (i + 1) k = Ob.lexAt (fun j => e (j + 1)) (fun j => r (j + 1)) z i k
  | 0, _ => rfl
  | k + 1, i => by
    rw [Ob.lexAt_succ, Ob.lexAt_succ, lexAt_shift k (i + 1)]
theorem lexB_at {le : D → D → Option Bool} {py : D → Option PyData} : ∀ {as bs : List D} {k : Bool}, lexB le py as bs = some k →
    ∃ e r : Nat → Bool, (∀ j a b, as[j]? = some a → bs[j]? = some b → ∃ p q, py a = some p ∧ py b = some q ∧ e j = PyData.eqv p q ∧ (e j = false → le a b = some (r j))) ∧
      Ob.lexAt e r (decide (as.length ≤ bs.length)) 0 (min as.length bs.length) = k
  | [], bs, k, h => by
    cases h
    refine ⟨fun _ => true, fun _ => true, fun j a b ha => by simp at ha, ?_⟩
    simp [Ob.lexAt_zero]
  | a :: as, [], k, h => by
    cases h
    refine ⟨fun _ => true, fun _ => true, fun j a b _ hb => by simp at hb, ?_⟩
    simp [Ob.lexAt_zero]
  | a :: as, b :: bs, k, h => by
    unfold lexB at h
    split at h
    · rename_i p q t h1 h2 h3
      obtain ⟨e, r, hh, hl⟩ := lexB_at h3
      cases hk : PyData.eqv p q with
      | true =>
        rw [hk, if_pos rfl] at h
        cases h
        refine ⟨fun j => match j with | 0 => true | j + 1 => e j, fun j => match j with | 0 => true | j + 1 => r j, fun j x y hx hy => ?_, ?_⟩
        · cases j with
          | zero =>
            simp at hx hy
            subst hx hy
            exact ⟨p, q, h1, h2, hk.symm, fun z => absurd z (by simp)⟩
          | succ j => exact hh j x y (by simpa using hx) (by simpa using hy)
        · have e1 : min (a :: as).length (b :: bs).length = min as.length bs.length + 1 := by simp only [List.length_cons]; omega
          have e2 : decide ((a :: as).length ≤ (b :: bs).length) = decide (as.length ≤ bs.length) := by simp
          rw [e1, e2, Ob.lexAt_succ, if_pos rfl, lexAt_shift]
          exact hl
      | false =>
        rw [hk, if_neg Bool.false_ne_true] at h
        refine ⟨fun j => match j with | 0 => false | j + 1 => e j, fun j => match j with | 0 => k | j + 1 => r j, fun j x y hx hy => ?_, ?_⟩
        · cases j with
          | zero =>
            simp at hx hy
            subst hx hy
            exact ⟨p, q, h1, h2, hk.symm, fun _ => h⟩
          | succ j => exact hh j x y (by simpa using hx) (by simpa using hy)
        · have e1 : min (a :: as).length (b :: bs).length = min as.length bs.length + 1 := by simp only [List.length_cons]; omega
          rw [e1, Ob.lexAt_succ, if_neg Bool.false_ne_true]
    · cases h
theorem leD_rc {X : Cx} {pins : List (Addr × Obj)} {σ : L2.St} {T : List NTab} {H : Hp} {ρ : Nat → Addr} {h : VH} {s : Shared} (I : Inv X pins σ H s) (ok : VOk (gd X T) H ρ h) : ∀ (n : Nat) (x y : D) (v w : V) (a b : Value) (k : Bool) (A : Around),
    leD h n x y = some k → Rp (gd X T) H ρ h.length x v → Rp (gd X T) H ρ h.length y w → RelV v a → RelV w b → A.units + 52 + n < cLine → Ob.RcOp .LtE A s a b k
  | 0, _, _, _, _, _, _, _, _, e, _, _, _, _, _ => by cases e
  | n + 1, x, y, v, w, a, b, k, A, e, r1, r2, q1, q2, hu => by
    unfold leD at e
    split at e
    · cases r1
      cases r2
      obtain ⟨t, rfl⟩ := q1
      obtain ⟨t', rfl⟩ := q2
      cases e
      exact Ob.RcOp.le_int _ _ _ _
    · rename_i as bs
      cases r1 with
      | tup s1 t1 =>
        cases r2 with
        | tup s2 t2 =>
          cases q1
          cases q2
          obtain ⟨e', r', hh, hl⟩ := lexB_at e
          obtain ⟨its, p1, m1, _⟩ := I.tuple s1
          obtain ⟨its2, p2, m2, _⟩ := I.tuple s2
          have l1 : its.toArray.size = as.length := by rw [List.size_toArray, t1.length]; exact p1.length.symm
          have l2 : its2.toArray.size = bs.length := by rw [List.size_toArray, t2.length]; exact p2.length.symm
          have at1 : ∀ j (h1 : j < its.toArray.size), ∃ d v, as[j]? = some d ∧ Rp (gd X T) H ρ h.length d v ∧ RelV v its.toArray[j] := fun j h1 => by
            rw [l1] at h1
            obtain ⟨v, e1, r⟩ := t1.get (List.getElem?_eq_getElem h1)
            obtain ⟨u, e2, rv⟩ := p1.get e1
            refine ⟨_, v, List.getElem?_eq_getElem h1, r, ?_⟩
            have : its.toArray[j] = u := by
              have := (List.getElem?_eq_some_iff.mp e2).2
              simpa using this
            rw [this]
            exact rv
          have at2 : ∀ j (h1 : j < its2.toArray.size), ∃ d v, bs[j]? = some d ∧ Rp (gd X T) H ρ h.length d v ∧ RelV v its2.toArray[j] := fun j h1 => by
            rw [l2] at h1
            obtain ⟨v, e1, r⟩ := t2.get (List.getElem?_eq_getElem h1)
            obtain ⟨u, e2, rv⟩ := p2.get e1
            refine ⟨_, v, List.getElem?_eq_getElem h1, r, ?_⟩
            have : its2.toArray[j] = u := by
              have := (List.getElem?_eq_some_iff.mp e2).2
              simpa using this
            rw [this]
            exact rv
          have R := Ob.RcOp.tuples_le (A := A) (s := s) (e := e') (r := r') m1 m2 (by omega) (fun j h1 h2 => ?_) (fun j h1 h2 hj => ?_)
          · rw [l1, l2, hl] at R
            exact R
          · obtain ⟨d1, v1, g1, rr1, rv1⟩ := at1 j h1
            obtain ⟨d2, v2, g2, rr2, rv2⟩ := at2 j h2
            obtain ⟨p, q, c1, c2, c3, _⟩ := hh j d1 d2 g1 g2
            rw [c3]
            obtain ⟨a1, a2, a3⟩ := toPy_dp ok 50 d1 v1 p c1 rr1
            obtain ⟨b1, b2, b3⟩ := toPy_dp ok 50 d2 v2 q c2 rr2
            obtain ⟨as', z1⟩ := Dp.reads I p _ _ a1 rv1
            obtain ⟨bs', z2⟩ := Dp.reads I q _ _ b1 rv2
            exact SeqAt.eqAt_reads p q A.in1 s _ _ as' bs' z1 z2 a2 b2 (by
              have : A.in1.units ≤ A.units + 1 := Nat.le_refl _
              omega)
          · obtain ⟨d1, v1, g1, rr1, rv1⟩ := at1 j h1
            obtain ⟨d2, v2, g2, rr2, rv2⟩ := at2 j h2
            obtain ⟨p, q, _, _, _, c4⟩ := hh j d1 d2 g1 g2
            exact leD_rc I ok n d1 d2 v1 v2 _ _ _ A.in1 (c4 hj) rr1 rr2 rv1 rv2 (by
              have : A.in1.units ≤ A.units + 1 := Nat.le_refl _
              omega)
    · cases e
/-- ==, as a Bool -/
def eqD (x y : D) (h : VH) : Option Bool := match x, y with
  | .int i, .int j => some (decide (i = j))
  | .str a, .str b => some (decide (a = b))
  | .bl a, .bl b => some (decide (a = b))
  | x, y => match toPy h 60 x, toPy h 60 y with
    | some p, some q => some (PyData.eqv p q)
    | _, _ => none
def resB (o : Option Bool) : Option Res := match o with
  | some b => some (.val (.bl b))
  | none => none
def gEq : F2 := fun x y h => resB (eqD x y h)
def gNe : F2 := fun x y h => resB ((eqD x y h).map (!·))
def gLt : F2 := fun x y _ => match x, y with
  | .int i, .int j => some (.val (.bl (decide (i < j))))
  | _, _ => none
def gLe : F2 := fun x y h => match x, y with
  | .int i, .int j => some (.val (.bl (decide (i ≤ j))))
  | .tup as, .tup bs => resB (leD h 8 (.tup as) (.tup bs))
  | _, _ => none
def gGt : F2 := fun x y _ => match x, y with
  | .int i, .int j => some (.val (.bl (decide (j < i))))
  | _, _ => none
def gGe : F2 := fun x y _ => match x, y with
  | .int i, .int j => some (.val (.bl (decide (j ≤ i))))
  | _, _ => none
/-- a flat value -/
def scD : D → Option V
  | .non => some .non
  | .bl b => some (.bl b)
  | .int i => some (.int i)
  | .str x => some (.str x)
  | _ => none
def inSeq (x : D) (ds : List D) : Option Bool := match scD x, allSome scD ds with
  | some v, some vs => some (inV v vs)
  | _, _ => none
def inD (x y : D) (h : VH) : Option Bool := match y with
  | .tup ds => inSeq x ds
  | .ref k => match lstAt h k with
    | some ds => inSeq x ds
    | none => none
  | .str z => match x with
    | .str c => if c.cps.size = 1 then some (decide (c.cps.getD 0 0 ∈ z.cps.toList)) else none
    | _ => none
  | _ => none
def gIn : F2 := fun x y h => resB (inD x y h)
def gNin : F2 := fun x y h => resB ((inD x y h).map (!·))
section
variable {X : Cx} {T : List NTab}
theorem room64 {k : Nat} {A : Around} (hr : Room k A) : A.units + 64 < cLine := hr.units
theorem or_eq (hu : X.A.units + 64 < cLine) : OpR X (compareOp .Eq) (rOf (gd X T) gEq) := by
  intro pins s σ H x y v u Q I rx ry ⟨ρ, h, dx, dy, ok, r1, r2, hf⟩
  have gen : (∀ i, dx = .int i → ∀ j, dy ≠ .int j) → (∀ i, dx = .str i → ∀ j, dy ≠ .str j) → (∀ i, dx = .bl i → ∀ j, dy ≠ .bl j) → wpAny (model X.prog X.w) X.A (compareOp .Eq v u) (EP X pins σ Q) X.xe s := fun n1 n2 n3 => by
    have e : eqD dx dy h = (match toPy h 60 dx, toPy h 60 dy with
      | some p, some q => some (PyData.eqv p q)
      | _, _ => none) := by
      unfold eqD
      split
      · exact absurd rfl (n1 _ rfl _)
      · exact absurd rfl (n2 _ rfl _)
      · exact absurd rfl (n3 _ rfl _)
      · rfl
    unfold gEq at hf
    rw [e] at hf
    cases e1 : toPy h 60 dx with
    | none => rw [e1] at hf; exact hf.elim
    | some p =>
      cases e2 : toPy h 60 dy with
      | none => rw [e1, e2] at hf; exact hf.elim
      | some q =>
        rw [e1, e2] at hf
        obtain ⟨a1, a2⟩ := toPy_shaped ok e1 r1
        obtain ⟨b1, b2⟩ := toPy_shaped ok e2 r2
        exact op_eqD hu pins s σ H x y v u Q I rx ry ⟨p, q, a1, b1, a2, b2, fin_val ok (.bl _) hf⟩
  cases dx with
  | int i =>
    cases dy with
    | int j => cases r1; cases r2; exact op_eq pins s σ H _ _ v u Q I rx ry ⟨rfl, fin_val ok (.bl _) (by rw [dec_int]; exact hf)⟩
    | _ => exact gen (fun _ _ _ z => by cases z) (fun _ z => by cases z) (fun _ z => by cases z)
  | str i =>
    cases dy with
    | str j => cases r1; cases r2; exact op_eq pins s σ H _ _ v u Q I rx ry ⟨rfl, fin_val ok (.bl _) (by rw [dec_str]; exact hf)⟩
    | _ => exact gen (fun _ z => by cases z) (fun _ _ _ z => by cases z) (fun _ z => by cases z)
  | bl i =>
    cases dy with
    | bl j => cases r1; cases r2; exact op_eq pins s σ H _ _ v u Q I rx ry ⟨rfl, fin_val ok (.bl _) (by rw [dec_bl]; exact hf)⟩
    | _ => exact gen (fun _ z => by cases z) (fun _ z => by cases z) (fun _ _ _ z => by cases z)
  | _ => exact gen (fun _ z => by cases z) (fun _ z => by cases z) (fun _ z => by cases z)
theorem or_ne (hu : X.A.units + 64 < cLine) : OpR X (compareOp .NotEq) (rOf (gd X T) gNe) := by
  intro pins s σ H x y v u Q I rx ry ⟨ρ, h, dx, dy, ok, r1, r2, hf⟩
  have gen : (∀ i, dx = .int i → ∀ j, dy ≠ .int j) → (∀ i, dx = .str i → ∀ j, dy ≠ .str j) → (∀ i, dx = .bl i → ∀ j, dy ≠ .bl j) → wpAny (model X.prog X.w) X.A (compareOp .NotEq v u) (EP X pins σ Q) X.xe s := fun n1 n2 n3 => by
    have e : eqD dx dy h = (match toPy h 60 dx, toPy h 60 dy with
      | some p, some q => some (PyData.eqv p q)
      | _, _ => none) := by
      unfold eqD
      split
      · exact absurd rfl (n1 _ rfl _)
      · exact absurd rfl (n2 _ rfl _)
      · exact absurd rfl (n3 _ rfl _)
      · rfl
    unfold gNe at hf
    rw [e] at hf
    cases e1 : toPy h 60 dx with
    | none => rw [e1] at hf; exact hf.elim
    | some p =>
      cases e2 : toPy h 60 dy with
      | none => rw [e1, e2] at hf; exact hf.elim
      | some q =>
        rw [e1, e2] at hf
        obtain ⟨a1, a2⟩ := toPy_shaped ok e1 r1
        obtain ⟨b1, b2⟩ := toPy_shaped ok e2 r2
        exact op_neD hu pins s σ H x y v u Q I rx ry ⟨p, q, a1, b1, a2, b2, fin_val ok (.bl _) hf⟩
  cases dx with
  | int i =>
    cases dy with
    | int j => cases r1; cases r2; exact op_ne pins s σ H _ _ v u Q I rx ry ⟨rfl, fin_val ok (.bl _) (by rw [dec_int]; exact hf)⟩
    | _ => exact gen (fun _ _ _ z => by cases z) (fun _ z => by cases z) (fun _ z => by cases z)
  | str i =>
    cases dy with
    | str j => cases r1; cases r2; exact op_ne pins s σ H _ _ v u Q I rx ry ⟨rfl, fin_val ok (.bl _) (by rw [dec_str]; exact hf)⟩
    | _ => exact gen (fun _ z => by cases z) (fun _ _ _ z => by cases z) (fun _ z => by cases z)
  | bl i =>
    cases dy with
    | bl j => cases r1; cases r2; exact op_ne pins s σ H _ _ v u Q I rx ry ⟨rfl, fin_val ok (.bl _) (by rw [dec_bl]; exact hf)⟩
    | _ => exact gen (fun _ z => by cases z) (fun _ z => by cases z) (fun _ _ _ z => by cases z)
  | _ => exact gen (fun _ z => by cases z) (fun _ z => by cases z) (fun _ z => by cases z)

theorem or_lt : OpR X (compareOp .Lt) (rOf (gd X T) gLt) := by
  intro pins s σ H x y v u Q I rx ry ⟨ρ, h, dx, dy, ok, r1, r2, hf⟩
  cases r1 with
  | int i => cases r2 with
    | int j => exact op_lt pins s σ H _ _ v u Q I rx ry ⟨i, j, rfl, rfl, fin_val ok (.bl _) hf⟩
    | _ => exact hf.elim
  | _ => exact hf.elim
theorem or_le (hu : X.A.units + 64 < cLine) : OpR X (compareOp .LtE) (rOf (gd X T) gLe) := by
  intro pins s σ H x y v u Q I rx ry ⟨ρ, h, dx, dy, ok, r1, r2, hf⟩
  cases r1 with
  | int i => cases r2 with
    | int j => exact op_le pins s σ H _ _ v u Q I rx ry ⟨i, j, rfl, rfl, fin_val ok (.bl _) hf⟩
    | _ => exact hf.elim
  | tup s1 t1 => cases r2 with
    | tup s2 t2 =>
      rename_i as a2 ys bs
      simp only [gLe] at hf
      cases e : leD h 8 (.tup _) (.tup _) with
      | none => rw [e] at hf; exact hf.elim
      | some k =>
        rw [e] at hf
        have R := leD_rc I ok 8 _ _ _ _ v u k X.A e (.tup s1 t1) (.tup s2 t2) rx ry (by omega)
        exact R X.prog X.w X.xe (EP X pins σ Q) ⟨.bl k, H, I, rfl, fin_val ok (.bl _) hf⟩
    | _ => exact hf.elim
  | _ => exact hf.elim
theorem or_gt : OpR X (compareOp .Gt) (rOf (gd X T) gGt) := by
  intro pins s σ H x y v u Q I rx ry ⟨ρ, h, dx, dy, ok, r1, r2, hf⟩
  cases r1 with
  | int i => cases r2 with
    | int j => exact op_gt pins s σ H _ _ v u Q I rx ry ⟨i, j, rfl, rfl, fin_val ok (.bl _) hf⟩
    | _ => exact hf.elim
  | _ => exact hf.elim
theorem or_ge : OpR X (compareOp .GtE) (rOf (gd X T) gGe) := by
  intro pins s σ H x y v u Q I rx ry ⟨ρ, h, dx, dy, ok, r1, r2, hf⟩
  cases r1 with
  | int i => cases r2 with
    | int j => exact op_ge pins s σ H _ _ v u Q I rx ry ⟨i, j, rfl, rfl, fin_val ok (.bl _) hf⟩
    | _ => exact hf.elim
  | _ => exact hf.elim
theorem scD_v {G : Gd} {H : Hp} {ρ : Nat → Addr} {n : Nat} {d : D} {v w : V} (e : scD d = some w) (r : Rp G H ρ n d v) : v = w ∧ flatV w = true := by
  cases r <;> first | (cases e; exact ⟨rfl, rfl⟩) | cases e
theorem allSc_v {G : Gd} {H : Hp} {ρ : Nat → Addr} {n : Nat} : ∀ {ds : List D} {vs ws : List V}, allSome scD ds = some ws → RpA G H ρ n ds vs → vs = ws ∧ ws.all flatV = true
  | [], _, ws, e, r => by
    cases r
    cases e
    exact ⟨rfl, rfl⟩
  | d :: ds, _, ws, e, r => by
    cases r with
    | cons r t =>
      unfold allSome at e
      cases e1 : scD d with
      | none => rw [e1] at e; cases e
      | some p =>
        rw [e1] at e
        simp only at e
        cases e2 : allSome scD ds with
        | none => rw [e2] at e; cases e
        | some qs =>
          rw [e2] at e
          cases e
          obtain ⟨a1, a2⟩ := scD_v e1 r
          obtain ⟨b1, b2⟩ := allSc_v e2 t
          subst a1 b1
          exact ⟨rfl, by rw [List.all_cons, a2, b2]; rfl⟩
theorem inSeq_v {G : Gd} {H : Hp} {ρ : Nat → Addr} {n : Nat} {d : D} {ds : List D} {v : V} {vs : List V} {b : Bool} (e : inSeq d ds = some b) (r : Rp G H ρ n d v) (t : RpA G H ρ n ds vs) : flatV v = true ∧ vs.all flatV = true ∧ inV v vs = b := by
  unfold inSeq at e
  cases e1 : scD d with
  | none => rw [e1] at e; cases e
  | some p =>
    cases e2 : allSome scD ds with
    | none => rw [e1, e2] at e; cases e
    | some qs =>
      rw [e1, e2] at e
      cases e
      obtain ⟨a1, a2⟩ := scD_v e1 r
      obtain ⟨b1, b2⟩ := allSc_v e2 t
      subst a1 b1
      exact ⟨a2, b2, rfl⟩
theorem str_one {c : Str} (h : c.cps.size = 1) : c = ⟨#[c.cps.getD 0 0]⟩ := by
  obtain ⟨⟨l⟩⟩ := c
  have h' : l.length = 1 := h
  match l, h' with
  | [x], _ => rfl
theorem or_in : OpR X (compareOp .In) (rOf (gd X T) gIn) := by
  intro pins s σ H x y v u Q I rx ry ⟨ρ, h, dx, dy, ok, r1, r2, hf⟩
  cases e : inD dx dy h with
  | none => unfold gIn at hf; rw [e] at hf; exact hf.elim
  | some b =>
    unfold gIn at hf
    rw [e] at hf
    have hq := fin_val ok (.bl b) hf
    cases r2 with
    | tup q t =>
      obtain ⟨a1, a2, a3⟩ := inSeq_v e r1 t
      exact op_in_seq pins s σ H _ _ v u Q I rx ry ⟨_, _, rfl, .inr q, a1, a2, by rw [a3]; exact hq⟩
    | ref k =>
      simp only [inD] at e
      split at e
      · rename_i ds e1
        obtain ⟨xs, e3, t, _⟩ := ok.lst e1
        obtain ⟨a1, a2, a3⟩ := inSeq_v e r1 t
        exact op_in_seq pins s σ H _ _ v u Q I rx ry ⟨_, _, rfl, .inl (.of e3), a1, a2, by rw [a3]; exact hq⟩
      · cases e
    | str z =>
      simp only [inD] at e
      split at e
      · rename_i c
        split at e
        · rename_i hc
          cases e
          cases r1
          exact op_in_sign pins s σ H _ _ v u Q I rx ry ⟨c.cps.getD 0 0, z, congrArg V.str (str_one hc), rfl, hq⟩
        · cases e
      · cases e
    | _ => cases e
theorem or_nin : OpR X (compareOp .NotIn) (rOf (gd X T) gNin) := by
  intro pins s σ H x y v u Q I rx ry ⟨ρ, h, dx, dy, ok, r1, r2, hf⟩
  cases e : inD dx dy h with
  | none => unfold gNin at hf; rw [e] at hf; exact hf.elim
  | some b =>
    unfold gNin at hf
    rw [e] at hf
    have hq := fin_val ok (.bl (!b)) hf
    cases r2 with
    | tup q t =>
      obtain ⟨a1, a2, a3⟩ := inSeq_v e r1 t
      exact op_notIn_seq pins s σ H _ _ v u Q I rx ry ⟨_, _, rfl, .inr q, a1, a2, by rw [a3]; exact hq⟩
    | ref k =>
      simp only [inD] at e
      split at e
      · rename_i ds e1
        obtain ⟨xs, e3, t, _⟩ := ok.lst e1
        obtain ⟨a1, a2, a3⟩ := inSeq_v e r1 t
        exact op_notIn_seq pins s σ H _ _ v u Q I rx ry ⟨_, _, rfl, .inl (.of e3), a1, a2, by rw [a3]; exact hq⟩
      · cases e
    | str z =>
      simp only [inD] at e
      split at e
      · rename_i c
        split at e
        · rename_i hc
          cases e
          cases r1
          exact op_notIn_sign pins s σ H _ _ v u Q I rx ry ⟨c.cps.getD 0 0, z, congrArg V.str (str_one hc), rfl, hq⟩
        · cases e
      · cases e
    | _ => cases e
end
inductive Cop where
  | eq | ne | lt | le | gt | ge | in_ | nin
def Cop.g : Cop → F2
  | .eq => gEq | .ne => gNe | .lt => gLt | .le => gLe | .gt => gGt | .ge => gGe | .in_ => gIn | .nin => gNin
def Cop.op : Cop → CmpOp
  | .eq => .Eq | .ne => .NotEq | .lt => .Lt | .le => .LtE | .gt => .Gt | .ge => .GtE | .in_ => .In | .nin => .NotIn
theorem or_cmp {X : Cx} {T : List NTab} (hu : X.A.units + 64 < cLine) : ∀ b : Cop, OpR X (compareOp b.op) (rOf (gd X T) b.g)
  | .eq => or_eq hu | .ne => or_ne hu | .lt => or_lt | .le => or_le hu | .gt => or_gt | .ge => or_ge | .in_ => or_in | .nin => or_nin

/-! ### subscripts -/
def gIx : F2 := fun x y h => match x, y with
  | .tup ds, .int i => (atI ds i).map .val
  | .ref k, .int i => match lstAt h k with
    | some ds => (atI ds i).map .val
    | none => none
  | .str z, .int i => if z.length ≤ line then (atI z.cps.toList i).map fun c => .val (.str ⟨#[c]⟩) else none
  | _, _ => none
theorem atI_rp {G : Gd} {H : Hp} {ρ : Nat → Addr} {n : Nat} {ds : List D} {vs : List V} {i : Int} {d : D} (r : RpA G H ρ n ds vs) (e : atI ds i = some d) : ∃ v, atI vs i = some v ∧ Rp G H ρ n d v := by
  unfold atI at e ⊢
  rw [← r.length]
  cases q : ixN ds.length i with
  | none => rw [q] at e; cases e
  | some j =>
    rw [q] at e
    exact r.get e
theorem ix_all {X : Cx} {T : List NTab} : IxR X (rOf (gd X T) gIx) := by
  intro va sl pins s σ H x y v u Q I rx ry ⟨ρ, h, dx, dy, ok, r1, r2, hf⟩ hsub
  refine ix_seq va sl pins s σ H x y v u Q I rx ry ?_ hsub
  cases r1 with
  | tup q t =>
    cases r2 with
    | int i =>
      simp only [gIx] at hf
      rename_i ds
      cases e : atI ds i with
      | none => rw [e] at hf; exact hf.elim
      | some d =>
        rw [e] at hf
        obtain ⟨w, e1, r⟩ := atI_rp t e
        exact .inr (.inl ⟨_, _, i, w, rfl, rfl, q, e1, fin_val ok r hf⟩)
    | _ => exact hf.elim
  | ref k =>
    cases r2 with
    | int i =>
      simp only [gIx] at hf
      split at hf
      · rename_i ds e0
        obtain ⟨xs, e3, t, _⟩ := ok.lst e0
        cases e : atI ds i with
        | none => rw [e] at hf; exact hf.elim
        | some d =>
          rw [e] at hf
          obtain ⟨w, e1, r⟩ := atI_rp t e
          exact .inl ⟨_, _, i, w, rfl, rfl, .of e3, e1, fin_val ok r hf⟩
      · exact hf.elim
    | _ => exact hf.elim
  | str z =>
    cases r2 with
    | int i =>
      simp only [gIx] at hf
      split at hf
      · rename_i hz
        cases e : atI z.cps.toList i with
        | none => rw [e] at hf; exact hf.elim
        | some c =>
          rw [e] at hf
          exact .inr (.inr ⟨z, i, c, rfl, rfl, by rw [← line_eq]; exact hz, e, fin_val ok (.str _) hf⟩)
      · exact hf.elim
    | _ => exact hf.elim
  | _ => exact hf.elim
def cutD (ds : List D) (lo hi : Option Int) : List D := (ds.drop (HT.sIx ds.length 0 lo)).take (HT.sIx ds.length ds.length hi - HT.sIx ds.length 0 lo)
def gSl (x : D) (lo hi : Option Int) (h : VH) : Option Res := match x with
  | .tup ds => some (.val (.tup (cutD ds lo hi)))
  | .ref k => match lstAt h k with
    | some ds => some (.new (cutD ds lo hi))
    | none => none
  | .str z => if z.length ≤ line then some (.val (.str (cutS z lo hi))) else none
  | _ => none
theorem cut_rp {G : Gd} {H : Hp} {ρ : Nat → Addr} {n : Nat} {ds : List D} {vs : List V} {lo hi : Option Int} (r : RpA G H ρ n ds vs) : RpA G H ρ n (cutD ds lo hi) (cutV vs lo hi) := by
  unfold cutD cutV
  rw [← r.length]
  exact (r.drop _).take _
def rSl (G : Gd) : V → Option Int → Option Int → Hp → VK → Prop := fun x lo hi H Q => ∃ ρ h dx, VOk G H ρ h ∧ Rp G H ρ h.length dx x ∧ fin (gSl dx lo hi h) h (QV G ρ h H Q)
theorem sl_all {X : Cx} {T : List NTab} : SlR X (rSl (gd X T)) := by
  intro pins s σ H x v vl vu lo hi sl Q I rx hs pl pu hh
  obtain ⟨ρ, h, dx, ok, r1, hf⟩ := hh
  cases r1 with
  | tup q t =>
    refine sl_tupA pins s σ H _ v vl vu lo hi sl Q I rx hs pl pu ⟨_, _, rfl, q, fun hw => ?_, fun _ => fin_tup ok (cut_rp t) hf⟩
    rename_i a xs ds
    have e : cutD ds lo hi = ds := by
      unfold cutD
      rw [t.length, hw.1, hw.2, ← t.length]
      simp
    simp only [gSl, e] at hf
    exact fin_val ok (.tup q t) hf
  | ref k =>
    simp only [gSl] at hf
    split at hf
    · rename_i ds e0
      obtain ⟨xs, e3, t, _⟩ := ok.lst e0
      exact sl_list pins s σ H _ v vl vu lo hi sl Q I rx hs pl pu ⟨_, _, rfl, .of e3, fin_new ok (cut_rp t) hf⟩
    · exact hf.elim
  | str z =>
    simp only [gSl] at hf
    split at hf
    · rename_i hz
      exact sl_str pins s σ H _ v vl vu lo hi sl Q I rx hs pl pu ⟨z, rfl, by rw [← line_eq]; exact hz, fin_val ok (.str _) hf⟩
    · exact hf.elim
  | _ => exact hf.elim
end Ev

set_option Elab.async false
set_option linter.all false
set_option maxRecDepth 100000
/-! Ev3b: built-in calls by data. -/
namespace Ev
open PySem PySem.Spec PyProof.Rows L2 NdefX

abbrev FC := List D → Option Res
/-- a call with one list that is read -/
def rC (G : Gd) (g : FC) : List V → Hp → VK → Prop := fun xs H Q => ∃ ρ h p vs ds, xs = [.ref p] ∧ VOk G H ρ h ∧ SqL G.K H p vs ∧ RpA G H ρ h.length ds vs ∧ fin (g ds) h (QV G ρ h H Q)
def boolsD : List D → Option (List Bool)
  | [] => some []
  | .bl b :: ds => (boolsD ds).map (b :: ·)
  | _ :: _ => none
def intsD : List D → Option (List Int)
  | [] => some []
  | .int b :: ds => (intsD ds).map (b :: ·)
  | _ :: _ => none
def cAll : FC := fun ds => (boolsD ds).map fun bs => .val (.bl (bs.all id))
def cAny : FC := fun ds => (boolsD ds).map fun bs => .val (.bl (bs.any id))
def cTuple : FC := fun ds => some (.val (.tup ds))
def cList : FC := fun ds => some (.new ds)
def cLen : FC := fun ds => some (.val (.int ds.length))
def cSum : FC := fun ds => (intsD ds).map fun ns => .val (.int ns.sum)
def maxOf : Int → List Int → Int
  | m, [] => m
  | m, n :: ns => maxOf (if m < n then n else m) ns
def minOf : Int → List Int → Int
  | m, [] => m
  | m, n :: ns => minOf (if n < m then n else m) ns
def cMax : FC := fun ds => match intsD ds with
  | some (n :: ns) => some (.val (.int (maxOf n ns)))
  | _ => none
def cMin : FC := fun ds => match intsD ds with
  | some (n :: ns) => some (.val (.int (minOf n ns)))
  | _ => none
theorem maxOf_spec : ∀ (ns : List Int) (m : Int), m ≤ maxOf m ns ∧ (∀ y ∈ ns, y ≤ maxOf m ns) ∧ (maxOf m ns = m ∨ maxOf m ns ∈ ns)
  | [], m => ⟨Int.le_refl _, (fun _ h => by cases h), .inl rfl⟩
  | n :: ns, m => by
    unfold maxOf
    obtain ⟨h1, h2, h3⟩ := maxOf_spec ns (if m < n then n else m)
    have a1 : m ≤ (if m < n then n else m) := by split <;> omega
    have a2 : n ≤ (if m < n then n else m) := by split <;> omega
    refine ⟨Int.le_trans a1 h1, fun y hy => ?_, ?_⟩
    · rcases List.mem_cons.mp hy with e | hy
      · rw [e]; exact Int.le_trans a2 h1
      · exact h2 y hy
    · rcases h3 with h3 | h3
      · rw [h3]
        split
        · exact .inr List.mem_cons_self
        · exact .inl rfl
      · exact .inr (List.mem_cons_of_mem _ h3)
theorem minOf_spec : ∀ (ns : List Int) (m : Int), minOf m ns ≤ m ∧ (∀ y ∈ ns, minOf m ns ≤ y) ∧ (minOf m ns = m ∨ minOf m ns ∈ ns)
  | [], m => ⟨Int.le_refl _, (fun _ h => by cases h), .inl rfl⟩
  | n :: ns, m => by
    unfold minOf
    obtain ⟨h1, h2, h3⟩ := minOf_spec ns (if n < m then n else m)
    have a1 : (if n < m then n else m) ≤ m := by split <;> omega
    have a2 : (if n < m then n else m) ≤ n := by split <;> omega
    refine ⟨Int.le_trans h1 a1, fun y hy => ?_, ?_⟩
    · rcases List.mem_cons.mp hy with e | hy
      · rw [e]; exact Int.le_trans h1 a2
      · exact h2 y hy
    · rcases h3 with h3 | h3
      · rw [h3]
        split
        · exact .inr List.mem_cons_self
        · exact .inl rfl
      · exact .inr (List.mem_cons_of_mem _ h3)
section
variable {G : Gd} {H : Hp} {ρ : Nat → Addr} {n : Nat}
theorem bools_v : ∀ {ds : List D} {vs : List V} {bs : List Bool}, boolsD ds = some bs → RpA G H ρ n ds vs → vs = bs.map V.bl
  | [], _, bs, e, r => by
    cases r; cases e; rfl
  | d :: ds, _, bs, e, r => by
    cases r with
    | cons r t =>
      cases r with
      | bl b =>
        simp only [boolsD] at e
        cases e1 : boolsD ds with
        | none => rw [e1] at e; cases e
        | some cs =>
          rw [e1] at e
          cases e
          rw [bools_v e1 t]; rfl
      | _ => cases e
theorem ints_v : ∀ {ds : List D} {vs : List V} {bs : List Int}, intsD ds = some bs → RpA G H ρ n ds vs → vs = bs.map V.int
  | [], _, bs, e, r => by
    cases r; cases e; rfl
  | d :: ds, _, bs, e, r => by
    cases r with
    | cons r t =>
      cases r with
      | int b =>
        simp only [intsD] at e
        cases e1 : intsD ds with
        | none => rw [e1] at e; cases e
        | some cs =>
          rw [e1] at e
          cases e
          rw [ints_v e1 t]; rfl
      | _ => cases e
end
section
variable {X : Cx} {T : List NTab}
theorem cr_cAll (hc : X.calm = true) : CallR X (.builtin "all") (rC (gd X T) cAll) := by
  intro pins s σ H xs us Q I r hh
  obtain ⟨ρ, h, p, vs, ds, rfl, ok, q, t, hf⟩ := hh
  unfold cAll at hf
  cases e : boolsD ds with
  | none => rw [e] at hf; exact hf.elim
  | some bs =>
    rw [e] at hf
    have ev := bools_v e t
    subst ev
    exact cr_all hc pins s σ H _ us Q I r ⟨p, bs, rfl, q, fin_val ok (.bl _) hf⟩
theorem cr_cAny (hc : X.calm = true) : CallR X (.builtin "any") (rC (gd X T) cAny) := by
  intro pins s σ H xs us Q I r hh
  obtain ⟨ρ, h, p, vs, ds, rfl, ok, q, t, hf⟩ := hh
  unfold cAny at hf
  cases e : boolsD ds with
  | none => rw [e] at hf; exact hf.elim
  | some bs =>
    rw [e] at hf
    have ev := bools_v e t
    subst ev
    exact cr_any hc pins s σ H _ us Q I r ⟨p, bs, rfl, q, fin_val ok (.bl _) hf⟩
theorem cr_cSum (hc : X.calm = true) : CallR X (.builtin "sum") (rC (gd X T) cSum) := by
  intro pins s σ H xs us Q I r hh
  obtain ⟨ρ, h, p, vs, ds, rfl, ok, q, t, hf⟩ := hh
  unfold cSum at hf
  cases e : intsD ds with
  | none => rw [e] at hf; exact hf.elim
  | some bs =>
    rw [e] at hf
    have ev := ints_v e t
    subst ev
    exact cr_sum hc pins s σ H _ us Q I r ⟨p, bs, rfl, q, fin_val ok (.int _) hf⟩
theorem cr_cMax (hc : X.calm = true) : CallR X (.builtin "max") (rC (gd X T) cMax) := by
  intro pins s σ H xs us Q I r hh
  obtain ⟨ρ, h, p, vs, ds, rfl, ok, q, t, hf⟩ := hh
  unfold cMax at hf
  cases e : intsD ds with
  | none => rw [e] at hf; exact hf.elim
  | some bs =>
    rw [e] at hf
    have ev := ints_v e t
    subst ev
    cases bs with
    | nil => exact hf.elim
    | cons n ns =>
      obtain ⟨h1, h2, h3⟩ := maxOf_spec ns n
      refine cr_max hc pins s σ H _ us Q I r ⟨p, _, rfl, q, Nat.succ_pos _, fun m hm hx => ?_⟩
      have e : m = maxOf n ns := by
        have b1 : m ≤ maxOf n ns := by
          rcases List.mem_cons.mp hm with z | z
          · rw [z]; exact h1
          · exact h2 _ z
        have b2 : maxOf n ns ≤ m := by
          rcases h3 with z | z
          · rw [z]; exact hx _ List.mem_cons_self
          · exact hx _ (List.mem_cons_of_mem _ z)
        omega
      rw [e]
      exact fin_val ok (.int _) hf
theorem cr_cMin (hc : X.calm = true) : CallR X (.builtin "min") (rC (gd X T) cMin) := by
  intro pins s σ H xs us Q I r hh
  obtain ⟨ρ, h, p, vs, ds, rfl, ok, q, t, hf⟩ := hh
  unfold cMin at hf
  cases e : intsD ds with
  | none => rw [e] at hf; exact hf.elim
  | some bs =>
    rw [e] at hf
    have ev := ints_v e t
    subst ev
    cases bs with
    | nil => exact hf.elim
    | cons n ns =>
      obtain ⟨h1, h2, h3⟩ := minOf_spec ns n
      refine cr_min hc pins s σ H _ us Q I r ⟨p, _, rfl, q, Nat.succ_pos _, fun m hm hx => ?_⟩
      have e : m = minOf n ns := by
        have b1 : minOf n ns ≤ m := by
          rcases List.mem_cons.mp hm with z | z
          · rw [z]; exact h1
          · exact h2 _ z
        have b2 : m ≤ minOf n ns := by
          rcases h3 with z | z
          · rw [z]; exact hx _ List.mem_cons_self
          · exact hx _ (List.mem_cons_of_mem _ z)
        omega
      rw [e]
      exact fin_val ok (.int _) hf
theorem cr_cTuple : CallR X (.type "tuple") (rC (gd X T) cTuple) := by
  intro pins s σ H xs us Q I r hh
  obtain ⟨ρ, h, p, vs, ds, rfl, ok, q, t, hf⟩ := hh
  exact call_tuple_of pins s σ H _ us Q I r ⟨p, vs, rfl, .inl ⟨q, fin_tup ok t hf⟩⟩
theorem cr_cList : CallR X (.type "list") (rC (gd X T) cList) := by
  intro pins s σ H xs us Q I r hh
  obtain ⟨ρ, h, p, vs, ds, rfl, ok, q, t, hf⟩ := hh
  exact call_list_of pins s σ H _ us Q I r ⟨p, vs, rfl, .inl q, fin_new ok t hf⟩
theorem cr_cLen : CallR X (.builtin "len") (rC (gd X T) cLen) := by
  intro pins s σ H xs us Q I r hh
  obtain ⟨ρ, h, p, vs, ds, rfl, ok, q, t, hf⟩ := hh
  refine call_len_seq pins s σ H _ us Q I r ⟨p, vs, rfl, .inl q, ?_⟩
  rw [← t.length]
  exact fin_val ok (.int _) hf
end
/-! ### calls with any values -/
def onList (c : FC) : FN := fun ds h => match ds with
  | [.ref k] => match lstAt h k with
    | some xs => c xs
    | none => none
  | _ => none
def gLen : FN := fun ds h => match ds with
  | [.tup xs] => some (.val (.int xs.length))
  | [.str z] => if z.length ≤ line then some (.val (.int z.length)) else none
  | [.ref k] => match lstAt h k with
    | some xs => some (.val (.int xs.length))
    | none => none
  | _ => none
def gTuple : FN := fun ds h => match ds with
  | [.tup xs] => some (.val (.tup xs))
  | [.ref k] => match lstAt h k with
    | some xs => some (.val (.tup xs))
    | none => none
  | _ => none
def gList : FN := fun ds h => match ds with
  | [.tup xs] => some (.new xs)
  | [.cl xs] => some (.new xs)
  | [.ref k] => match lstAt h k with
    | some xs => some (.new xs)
    | none => none
  | _ => none
def gInt : FN := fun ds _ => match ds with
  | [.int i] => some (.val (.int i))
  | [.bl k] => some (.val (.int (if k then 1 else 0)))
  | [.str a] => if a.length ≤ 640 then (PySem.intText? a).map fun n => .val (.int n) else none
  | _ => none
def gStr : FN := fun ds _ => match ds with
  | [.int i] => if i.natAbs.log2 < 1920 then some (.val (.str (toString i))) else none
  | _ => none
def gAbs : FN := fun ds _ => match ds with
  | [.int i] => some (.val (.int (if i < 0 then -i else i)))
  | _ => none
def gMax : FN := fun ds h => match ds with
  | [.int i, .int j] => some (.val (.int (if j > i then j else i)))
  | ds => onList cMax ds h
def gMin : FN := fun ds h => match ds with
  | [.int i, .int j] => some (.val (.int (if j < i then j else i)))
  | ds => onList cMin ds h
section
variable {X : Cx} {T : List NTab}
theorem cr_on {f : Value} {c : FC} (hc : CallR X f (rC (gd X T) c)) : CallR X f (rOfN (gd X T) (onList c)) := by
  intro pins s σ H xs us Q I r hh
  obtain ⟨ρ, h, ds, ok, t, hf⟩ := hh
  unfold onList at hf
  split at hf
  · split at hf
    · rename_i k ys e
      cases t with
      | cons r1 t =>
        cases t
        cases r1
        obtain ⟨zs, e1, t1, _⟩ := ok.lst e
        exact hc pins s σ H _ us Q I r ⟨ρ, h, _, zs, ys, rfl, ok, .of e1, t1, hf⟩
    · exact hf.elim
  · exact hf.elim
theorem cr_len : CallR X (.builtin "len") (rOfN (gd X T) gLen) := by
  intro pins s σ H xs us Q I r hh
  obtain ⟨ρ, h, ds, ok, t, hf⟩ := hh
  unfold gLen at hf
  split at hf
  · cases t with
    | cons r1 t =>
      cases t
      cases r1 with
      | tup q t1 =>
        refine call_len_seq pins s σ H _ us Q I r ⟨_, _, rfl, .inr q, ?_⟩
        rw [← t1.length]
        exact fin_val ok (.int _) hf
  · cases t with
    | cons r1 t =>
      cases t
      cases r1
      split at hf
      · rename_i hz
        exact call_len_str pins s σ H _ us Q I r ⟨_, rfl, by rw [← line_eq]; exact hz, fin_val ok (.int _) hf⟩
      · exact hf.elim
  · split at hf
    · rename_i k ys e
      cases t with
      | cons r1 t =>
        cases t
        cases r1
        obtain ⟨zs, e1, t1, _⟩ := ok.lst e
        refine call_len_seq pins s σ H _ us Q I r ⟨_, _, rfl, .inl (.of e1), ?_⟩
        rw [← t1.length]
        exact fin_val ok (.int _) hf
    · exact hf.elim
  · exact hf.elim
theorem cr_tuple : CallR X (.type "tuple") (rOfN (gd X T) gTuple) := by
  intro pins s σ H xs us Q I r hh
  obtain ⟨ρ, h, ds, ok, t, hf⟩ := hh
  unfold gTuple at hf
  split at hf
  · cases t with
    | cons r1 t =>
      cases t
      cases r1 with
      | tup q t1 => exact call_tuple_of pins s σ H _ us Q I r ⟨_, _, rfl, .inr ⟨q, fin_val ok (.tup q t1) hf⟩⟩
  · split at hf
    · rename_i k ys e
      cases t with
      | cons r1 t =>
        cases t
        cases r1
        obtain ⟨zs, e1, t1, _⟩ := ok.lst e
        exact call_tuple_of pins s σ H _ us Q I r ⟨_, _, rfl, .inl ⟨.of e1, fin_tup ok t1 hf⟩⟩
    · exact hf.elim
  · exact hf.elim
theorem cr_list : CallR X (.type "list") (rOfN (gd X T) gList) := by
  intro pins s σ H xs us Q I r hh
  obtain ⟨ρ, h, ds, ok, t, hf⟩ := hh
  unfold gList at hf
  split at hf
  · cases t with
    | cons r1 t =>
      cases t
      cases r1 with
      | tup q t1 => exact call_list_of pins s σ H _ us Q I r ⟨_, _, rfl, .inr q, fin_new ok t1 hf⟩
  · cases t with
    | cons r1 t =>
      cases t
      cases r1 with
      | cl q t1 => exact call_list_of pins s σ H _ us Q I r ⟨_, _, rfl, .inl q.l, fin_new ok t1 hf⟩
  · split at hf
    · rename_i k ys e
      cases t with
      | cons r1 t =>
        cases t
        cases r1
        obtain ⟨zs, e1, t1, _⟩ := ok.lst e
        exact call_list_of pins s σ H _ us Q I r ⟨_, _, rfl, .inl (.of e1), fin_new ok t1 hf⟩
    · exact hf.elim
  · exact hf.elim
theorem cr_int : CallR X (.type "int") (rOfN (gd X T) gInt) := by
  intro pins s σ H xs us Q I r hh
  obtain ⟨ρ, h, ds, ok, t, hf⟩ := hh
  unfold gInt at hf
  split at hf
  · cases t with
    | cons r1 t =>
      cases t
      cases r1
      exact call_int1 pins s σ H _ us Q I r (.inl ⟨_, rfl, fin_val ok (.int _) hf⟩)
  · cases t with
    | cons r1 t =>
      cases t
      cases r1
      exact call_int1 pins s σ H _ us Q I r (.inr ⟨_, rfl, fin_val ok (.int _) hf⟩)
  · cases t with
    | cons r1 t =>
      cases t
      cases r1
      rename_i a
      split at hf
      · rename_i hl
        cases e : PySem.intText? a with
        | none => rw [e] at hf; exact hf.elim
        | some n =>
          rw [e] at hf
          exact call_int_str pins s σ H _ us Q I r ⟨a, n, rfl, e, hl, fin_val ok (.int _) hf⟩
      · exact hf.elim
  · exact hf.elim
theorem cr_str : CallR X (.type "str") (rOfN (gd X T) gStr) := by
  intro pins s σ H xs us Q I r hh
  obtain ⟨ρ, h, ds, ok, t, hf⟩ := hh
  unfold gStr at hf
  split at hf
  · cases t with
    | cons r1 t =>
      cases t
      cases r1
      split at hf
      · rename_i hl
        exact call_str_int pins s σ H _ us Q I r ⟨_, rfl, hl, fin_val ok (.str _) hf⟩
      · exact hf.elim
  · exact hf.elim
theorem cr_abs : CallR X (.builtin "abs") (rOfN (gd X T) gAbs) := by
  intro pins s σ H xs us Q I r hh
  obtain ⟨ρ, h, ds, ok, t, hf⟩ := hh
  unfold gAbs at hf
  split at hf
  · cases t with
    | cons r1 t =>
      cases t
      cases r1
      exact call_abs pins s σ H _ us Q I r ⟨_, rfl, fin_val ok (.int _) hf⟩
  · exact hf.elim
theorem cr_max (hc : X.calm = true) : CallR X (.builtin "max") (rOfN (gd X T) gMax) := by
  intro pins s σ H xs us Q I r hh
  obtain ⟨ρ, h, ds, ok, t, hf⟩ := hh
  unfold gMax at hf
  split at hf
  · cases t with
    | cons r1 t =>
      cases t with
      | cons r2 t =>
        cases t
        cases r1
        cases r2
        exact call_max2 hc pins s σ H _ us Q I r ⟨_, _, rfl, fin_val ok (.int _) hf⟩
  · exact cr_on (cr_cMax hc) pins s σ H _ us Q I r ⟨ρ, h, _, ok, t, hf⟩
theorem cr_min (hc : X.calm = true) : CallR X (.builtin "min") (rOfN (gd X T) gMin) := by
  intro pins s σ H xs us Q I r hh
  obtain ⟨ρ, h, ds, ok, t, hf⟩ := hh
  unfold gMin at hf
  split at hf
  · cases t with
    | cons r1 t =>
      cases t with
      | cons r2 t =>
        cases t
        cases r1
        cases r2
        exact call_min2 hc pins s σ H _ us Q I r ⟨_, _, rfl, fin_val ok (.int _) hf⟩
  · exact cr_on (cr_cMin hc) pins s σ H _ us Q I r ⟨ρ, h, _, ok, t, hf⟩
end
/-! ### the built-ins by names -/
inductive Bi where
  | len | tuple | list | int | str | abs | max | min | all | any | sum
  deriving DecidableEq
def Bi.g : Bi → FN
  | .len => gLen | .tuple => gTuple | .list => gList | .int => gInt | .str => gStr | .abs => gAbs | .max => gMax | .min => gMin | .all => onList cAll | .any => onList cAny | .sum => onList cSum
/-- of a list's content -/
def Bi.c : Bi → Option FC
  | .len => some cLen | .tuple => some cTuple | .list => some cList | .max => some cMax | .min => some cMin | .all => some cAll | .any => some cAny | .sum => some cSum | _ => none
def Bi.name : Bi → String
  | .len => "len" | .tuple => "tuple" | .list => "list" | .int => "int" | .str => "str" | .abs => "abs" | .max => "max" | .min => "min" | .all => "all" | .any => "any" | .sum => "sum"
def Bi.val : Bi → Value
  | .tuple => .type "tuple" | .list => .type "list" | .int => .type "int" | .str => .type "str" | b => .builtin b.name
theorem Bi.boot : ∀ b : Bi, bootBuiltins (Str.ofString b.name) = some b.val
  | .len => by decide +kernel
  | .tuple => by decide +kernel
  | .list => by decide +kernel
  | .int => by decide +kernel
  | .str => by decide +kernel
  | .abs => by decide +kernel
  | .max => by decide +kernel
  | .min => by decide +kernel
  | .all => by decide +kernel
  | .any => by decide +kernel
  | .sum => by decide +kernel
theorem Bi.call {X : Cx} {T : List NTab} (hc : X.calm = true) : ∀ b : Bi, CallR X b.val (rOfN (gd X T) b.g)
  | .len => cr_len | .tuple => cr_tuple | .list => cr_list | .int => cr_int | .str => cr_str | .abs => cr_abs | .max => cr_max hc | .min => cr_min hc
  | .all => cr_on (cr_cAll hc) | .any => cr_on (cr_cAny hc) | .sum => cr_on (cr_cSum hc)
theorem Bi.callC {X : Cx} {T : List NTab} (hc : X.calm = true) : ∀ (b : Bi) (c : FC), b.c = some c → CallR X b.val (rC (gd X T) c)
  | .len, _, rfl => cr_cLen | .tuple, _, rfl => cr_cTuple | .list, _, rfl => cr_cList | .max, _, rfl => cr_cMax hc | .min, _, rfl => cr_cMin hc
  | .all, _, rfl => cr_cAll hc | .any, _, rfl => cr_cAny hc | .sum, _, rfl => cr_cSum hc
end Ev

set_option Elab.async false
set_option linter.all false
set_option maxRecDepth 100000
/-! Ev3c: isinstance of built-in types, methods. -/
namespace Ev
open PySem PySem.Spec PyProof.Rows L2 NdefX

inductive Ty where
  | non | bl | int | str | tup | lst
  deriving DecidableEq
def Ty.name : Ty → String
  | .non => "NoneType" | .bl => "bool" | .int => "int" | .str => "str" | .tup => "tuple" | .lst => "list"
def Ty.isa : Ty → Ty → Bool
  | .non, .non => true | .bl, .bl => true | .bl, .int => true | .int, .int => true | .str, .str => true | .tup, .tup => true | .lst, .lst => true | _, _ => false
theorem kit_isa : ∀ a b : Ty, kitB a.name b.name = some (a.isa b)
  | .non, .non => by decide +kernel
  | .non, .bl => by decide +kernel
  | .non, .int => by decide +kernel
  | .non, .str => by decide +kernel
  | .non, .tup => by decide +kernel
  | .non, .lst => by decide +kernel
  | .bl, .non => by decide +kernel
  | .bl, .bl => by decide +kernel
  | .bl, .int => by decide +kernel
  | .bl, .str => by decide +kernel
  | .bl, .tup => by decide +kernel
  | .bl, .lst => by decide +kernel
  | .int, .non => by decide +kernel
  | .int, .bl => by decide +kernel
  | .int, .int => by decide +kernel
  | .int, .str => by decide +kernel
  | .int, .tup => by decide +kernel
  | .int, .lst => by decide +kernel
  | .str, .non => by decide +kernel
  | .str, .bl => by decide +kernel
  | .str, .int => by decide +kernel
  | .str, .str => by decide +kernel
  | .str, .tup => by decide +kernel
  | .str, .lst => by decide +kernel
  | .tup, .non => by decide +kernel
  | .tup, .bl => by decide +kernel
  | .tup, .int => by decide +kernel
  | .tup, .str => by decide +kernel
  | .tup, .tup => by decide +kernel
  | .tup, .lst => by decide +kernel
  | .lst, .non => by decide +kernel
  | .lst, .bl => by decide +kernel
  | .lst, .int => by decide +kernel
  | .lst, .str => by decide +kernel
  | .lst, .tup => by decide +kernel
  | .lst, .lst => by decide +kernel
theorem kitAny_isa {K : PySem.W.Frag} (a : Ty) : ∀ ts : List Ty, PySem.W.kitAny K (.type a.name) (ts.map fun t => .type t.name) = some (ts.any a.isa)
  | [] => rfl
  | t :: ts => by
    refine kitAny_cons (K := K) (b := a.isa t) (kit_ty (kit_isa a t)) (fun hb => ?_) fun hb => ?_
    · rw [List.any_cons, hb, Bool.false_or]
      exact kitAny_isa a ts
    · rw [List.any_cons, hb, Bool.true_or]
def tyD (d : D) (h : VH) : Option Ty := match d with
  | .non => some .non
  | .bl _ => some .bl
  | .int _ => some .int
  | .str _ => some .str
  | .tup _ => some .tup
  | .ref k => match lstAt h k with
    | some _ => some .lst
    | none => none
  | _ => none
theorem tyD_x {G : Gd} {H : Hp} {ρ : Nat → Addr} {h : VH} {d : D} {v : V} {t : Ty} (ok : VOk G H ρ h) (r : Rp G H ρ h.length d v) (e : tyD d h = some t) : TyX G.K H v (.type t.name) := by
  cases r with
  | non => cases e; exact .base .non
  | bl b => cases e; exact .base (.bl b)
  | int b => cases e; exact .base (.int b)
  | str b => cases e; exact .base (.str b)
  | tup q t =>
    cases e
    rcases q with (q | ⟨o, q⟩) | ⟨o, its, n, q, c, _⟩
    · exact .base (.tup q)
    · exact .fTuple q
    · exact .kTuple q c
  | ref k =>
    simp only [tyD] at e
    split at e
    · rename_i ds e1
      cases e
      obtain ⟨xs, e2, _⟩ := ok.lst e1
      exact .base (.lst e2)
    · cases e
  | _ => cases e

/-! ### methods -/
inductive Eff where
  | pure (r : Res) | wr (k : Nat) (ds : List D) (d : D)
def finE (o : Option Eff) (h : VH) (Q : PQ) : Prop := match o with
  | none => False
  | some (.pure r) => r.run h Q
  | some (.wr k ds d) => Q d (h.set k (.lst ds))
theorem finE_mono {o : Option Eff} {h : VH} {Q Q' : PQ} (k : ∀ d h, Q d h → Q' d h) (q : finE o h Q) : finE o h Q' := by
  cases o with
  | none => exact q.elim
  | some r => cases r with
    | pure r => exact fin_mono (o := some r) k q
    | wr _ _ _ => exact k _ _ q
abbrev FM := D → List D → VH → Option Eff
def rOfM (G : Gd) (g : FM) : V → List V → Hp → VK → Prop := fun x xs H Q => ∃ ρ h dx ds, VOk G H ρ h ∧ Rp G H ρ h.length dx x ∧ RpA G H ρ h.length ds xs ∧ finE (g dx ds h) h (QV G ρ h H Q)
theorem fin_wr {G : Gd} {H : Hp} {ρ : Nat → Addr} {h : VH} {Q : VK} {k : Nat} {ds : List D} {xs : List V} {d : D} {v : V} (ok : VOk G H ρ h) (hk : k < h.length) (r : RpA G H ρ h.length ds xs) (rd : Rp G H ρ h.length d v)
    (q : QV G ρ h H Q d (h.set k (.lst ds))) : Q v (upd H (ρ k) (.lst xs)) := by
  have s := Stp.write ok hk r
  exact q ρ v _ s (s.rp ok rd)
def gAppend : FM := fun x ds h => match x, ds with
  | .ref k, [d] => match lstAt h k with
    | some xs => if xs.length < line then some (.wr k (xs ++ [d]) .non) else none
    | none => none
  | _, _ => none
def gExtend : FM := fun x ds h => match x, ds with
  | .ref k, [.ref l] => match lstAt h k, lstAt h l with
    | some xs, some ys => if xs.length + ys.length ≤ line then some (.wr k (xs ++ ys) .non) else none
    | _, _ => none
  | _, _ => none
def gPop : FM := fun x ds h => match x, ds with
  | .ref k, [] => match lstAt h k with
    | some xs => match xs[xs.length - 1]? with
      | some d => some (.wr k xs.dropLast d)
      | none => none
    | none => none
  | .ref k, [.int i] => match lstAt h k with
    | some xs => match ixN xs.length i with
      | some j => match xs[j]? with
        | some d => if -9223372036854775808 ≤ i ∧ i < 9223372036854775808 then some (.wr k (xs.eraseIdx j) d) else none
        | none => none
      | none => none
    | none => none
  | _, _ => none
def gStarts : FM := fun x ds _ => match x, ds with
  | .str a, [.str b] => some (.pure (.val (.bl (Txt.startswith a b))))
  | _, _ => none
def gSplit : FM := fun x ds _ => match x, ds with
  | .str a, [.str b] => if (b.length == 0) = false ∧ a.length + 2 ≤ line then some (.pure (.new ((Txt.split a b).map .str))) else none
  | _, _ => none
def gPart : FM := fun x ds _ => match x, ds with
  | .str a, [.str b] => if (b.length == 0) = false ∧ a.length ≤ line then some (.pure (.val (.tup [.str (Txt.partition a b).1, .str (Txt.partition a b).2.1, .str (Txt.partition a b).2.2]))) else none
  | _, _ => none
def strsD : List D → Option (List Str)
  | [] => some []
  | .str b :: ds => (strsD ds).map (b :: ·)
  | _ :: _ => none
def joinRes (a : Str) (ds : List D) : Option Eff := match strsD ds with
  | some ys => if (ys.map (·.length)).sum + ys.length * a.length ≤ 16777216 then some (.pure (.val (.str (Txt.join a ys)))) else none
  | none => none
def gJoin : FM := fun x ds h => match x, ds with
  | .str a, [.tup xs] => joinRes a xs
  | .str a, [.ref k] => match lstAt h k with
    | some xs => joinRes a xs
    | none => none
  | _, _ => none
def gLstrip : FM := fun x ds _ => match x, ds with
  | .str a, [.str b] => if a.length ≤ line then some (.pure (.val (.str (Txt.lstripChars a b)))) else none
  | _, _ => none
theorem strs_rp {G : Gd} {H : Hp} {ρ : Nat → Addr} {n : Nat} : ∀ ys : List Str, RpA G H ρ n (ys.map D.str) (ys.map V.str)
  | [] => .nil
  | y :: ys => .cons (.str y) (strs_rp ys)
theorem strs_v {G : Gd} {H : Hp} {ρ : Nat → Addr} {n : Nat} : ∀ {ds : List D} {vs : List V} {bs : List Str}, strsD ds = some bs → RpA G H ρ n ds vs → vs = bs.map V.str
  | [], _, bs, e, r => by
    cases r; cases e; rfl
  | d :: ds, _, bs, e, r => by
    cases r with
    | cons r t =>
      cases r with
      | str b =>
        simp only [strsD] at e
        cases e1 : strsD ds with
        | none => rw [e1] at e; cases e
        | some cs =>
          rw [e1] at e
          cases e
          rw [strs_v e1 t]; rfl
      | _ => cases e
section
variable {X : Cx} {T : List NTab}
theorem mr_append : MtR X "list.append" (rOfM (gd X T) gAppend) := by
  intro pins s σ H x xs v us Q I rx r hh
  obtain ⟨ρ, h, dx, ds, ok, r1, t, hf⟩ := hh
  unfold gAppend at hf
  split at hf
  · split at hf
    · rename_i k d ys e
      split at hf
      · rename_i hl
        cases r1
        cases t with
        | cons r2 t =>
          cases t
          obtain ⟨zs, e1, t1, hk⟩ := ok.lst e
          rw [t1.length] at hl
          exact mt_append pins s σ H _ _ v us Q I rx r ⟨_, zs, _, rfl, rfl, e1, by rw [← line_eq]; exact hl, fin_wr ok hk (t1.append (.cons r2 .nil)) .non hf⟩
      · exact hf.elim
    · exact hf.elim
  · exact hf.elim
theorem mr_extend : MtR X "list.extend" (rOfM (gd X T) gExtend) := by
  intro pins s σ H x xs v us Q I rx r hh
  obtain ⟨ρ, h, dx, ds, ok, r1, t, hf⟩ := hh
  unfold gExtend at hf
  split at hf
  · split at hf
    · rename_i k l ys zs e e'
      split at hf
      · rename_i hl
        cases r1
        cases t with
        | cons r2 t =>
          cases t
          cases r2
          obtain ⟨ws, e1, t1, hk⟩ := ok.lst e
          obtain ⟨us', e2, t2, _⟩ := ok.lst e'
          rw [t1.length, t2.length] at hl
          exact mt_extend pins s σ H _ _ v us Q I rx r ⟨_, _, ws, us', rfl, rfl, e1, e2, by rw [← line_eq]; exact hl, fin_wr ok hk (t1.append t2) .non hf⟩
      · exact hf.elim
    · exact hf.elim
  · exact hf.elim
theorem dropLast_rp {G : Gd} {H : Hp} {ρ : Nat → Addr} {n : Nat} {ds : List D} {vs : List V} (r : RpA G H ρ n ds vs) : RpA G H ρ n ds.dropLast vs.dropLast := by
  rw [List.dropLast_eq_take, List.dropLast_eq_take, ← r.length]
  exact r.take _
theorem eraseIdx_rp {G : Gd} {H : Hp} {ρ : Nat → Addr} {n : Nat} {ds : List D} {vs : List V} (r : RpA G H ρ n ds vs) (k : Nat) : RpA G H ρ n (ds.eraseIdx k) (vs.eraseIdx k) := by
  rw [List.eraseIdx_eq_take_drop_succ, List.eraseIdx_eq_take_drop_succ]
  exact (r.take _).append (r.drop _)
theorem mr_pop : MtR X "list.pop" (rOfM (gd X T) gPop) := by
  intro pins s σ H x xs v us Q I rx r hh
  obtain ⟨ρ, h, dx, ds, ok, r1, t, hf⟩ := hh
  unfold gPop at hf
  split at hf
  · split at hf
    · rename_i k ys e
      split at hf
      · rename_i d ed
        cases r1
        cases t
        obtain ⟨zs, e1, t1, hk⟩ := ok.lst e
        obtain ⟨w, e2, rd⟩ := t1.get ed
        rw [t1.length] at e2
        exact mt_pop pins s σ H _ _ v us Q I rx r ⟨_, zs, w, rfl, rfl, e1, e2, fin_wr ok hk (dropLast_rp t1) rd hf⟩
      · exact hf.elim
    · exact hf.elim
  · split at hf
    · rename_i k i ys e
      split at hf
      · rename_i j ej
        split at hf
        · rename_i d ed
          split at hf
          · rename_i hb
            cases r1
            cases t with
            | cons r2 t =>
              cases t
              cases r2
              obtain ⟨zs, e1, t1, hk⟩ := ok.lst e
              obtain ⟨w, e2, rd⟩ := t1.get ed
              obtain ⟨es, _⟩ := ixN_seq ej
              rw [t1.length] at es
              exact mt_popAt pins s σ H _ _ v us Q I rx r ⟨_, zs, _, _, w, rfl, rfl, e1, by omega, by omega, es, e2, fin_wr ok hk (eraseIdx_rp t1 _) rd hf⟩
          · exact hf.elim
        · exact hf.elim
      · exact hf.elim
    · exact hf.elim
  · exact hf.elim
theorem mr_starts : MtR X "str.startswith" (rOfM (gd X T) gStarts) := by
  intro pins s σ H x xs v us Q I rx r hh
  obtain ⟨ρ, h, dx, ds, ok, r1, t, hf⟩ := hh
  unfold gStarts at hf
  split at hf
  · cases r1
    cases t with
    | cons r2 t =>
      cases t
      cases r2
      exact mt_startswith pins s σ H _ _ v us Q I rx r ⟨_, _, rfl, rfl, fin_val ok (.bl _) hf⟩
  · exact hf.elim
theorem mr_split : MtR X "str.split" (rOfM (gd X T) gSplit) := by
  intro pins s σ H x xs v us Q I rx r hh
  obtain ⟨ρ, h, dx, ds, ok, r1, t, hf⟩ := hh
  unfold gSplit at hf
  split at hf
  · split at hf
    · rename_i hl
      cases r1
      cases t with
      | cons r2 t =>
        cases t
        cases r2
        exact mt_split pins s σ H _ _ v us Q I rx r ⟨_, _, rfl, rfl, hl.1, by rw [← line_eq]; exact hl.2, fin_new ok (strs_rp _) hf⟩
    · exact hf.elim
  · exact hf.elim
theorem mr_part : MtR X "str.partition" (rOfM (gd X T) gPart) := by
  intro pins s σ H x xs v us Q I rx r hh
  obtain ⟨ρ, h, dx, ds, ok, r1, t, hf⟩ := hh
  unfold gPart at hf
  split at hf
  · split at hf
    · rename_i hl
      cases r1
      cases t with
      | cons r2 t =>
        cases t
        cases r2
        exact mt_partition pins s σ H _ _ v us Q I rx r ⟨_, _, rfl, rfl, hl.1, by rw [← line_eq]; exact hl.2, fin_tup ok (.cons (.str _) (.cons (.str _) (.cons (.str _) .nil))) hf⟩
    · exact hf.elim
  · exact hf.elim
theorem mr_join : MtR X "str.join" (rOfM (gd X T) gJoin) := by
  intro pins s σ H x xs v us Q I rx r hh
  obtain ⟨ρ, h, dx, ds, ok, r1, t, hf⟩ := hh
  have fin : ∀ {a : Str} {es : List D} {vs : List V} {p : Addr}, x = .str a → xs = [.ref p] → (SqL X.K H p vs ∨ SqT X.K H p vs) → RpA (gd X T) H ρ h.length es vs → finE (joinRes a es) h (QV (gd X T) ρ h H Q) → wpAny (model X.prog X.w) X.A (call (.builtin "str.join") (v :: us)) (EP X pins σ Q) X.xe s := by
    intro a es vs p hx hxs hq ht hf
    unfold joinRes at hf
    split at hf
    · rename_i ys e
      split at hf
      · rename_i hl
        have ev := strs_v e ht
        subst ev hx hxs
        exact mt_join pins s σ H _ _ v us Q I rx r ⟨a, p, ys, rfl, rfl, hq, hl, fin_val ok (.str _) hf⟩
      · exact hf.elim
    · exact hf.elim
  unfold gJoin at hf
  split at hf
  · cases r1
    cases t with
    | cons r2 t =>
      cases t
      cases r2 with
      | tup q t1 => exact fin rfl rfl (.inr q) t1 hf
  · split at hf
    · rename_i k ys e
      cases r1
      cases t with
      | cons r2 t =>
        cases t
        cases r2
        obtain ⟨zs, e1, t1, _⟩ := ok.lst e
        exact fin rfl rfl (.inl (.of e1)) t1 hf
    · exact hf.elim
  · exact hf.elim
theorem mr_lstrip : MtR X "str.lstrip" (rOfM (gd X T) gLstrip) := by
  intro pins s σ H x xs v us Q I rx r hh
  obtain ⟨ρ, h, dx, ds, ok, r1, t, hf⟩ := hh
  unfold gLstrip at hf
  split at hf
  · split at hf
    · rename_i hl
      cases r1
      cases t with
      | cons r2 t =>
        cases t
        cases r2
        exact mt_lstripChars pins s σ H _ _ v us Q I rx r ⟨_, _, rfl, rfl, by rw [← line_eq]; exact hl, fin_val ok (.str _) hf⟩
    · exact hf.elim
  · exact hf.elim
end
inductive Mt where
  | append | extend | pop | starts | split | part | join | lstrip
  deriving DecidableEq
def Mt.g : Mt → FM
  | .append => gAppend | .extend => gExtend | .pop => gPop | .starts => gStarts | .split => gSplit | .part => gPart | .join => gJoin | .lstrip => gLstrip
def Mt.ty : Mt → String
  | .append => "list" | .extend => "list" | .pop => "list" | _ => "str"
def Mt.name : Mt → String
  | .append => "append" | .extend => "extend" | .pop => "pop" | .starts => "startswith" | .split => "split" | .part => "partition" | .join => "join" | .lstrip => "lstrip"
def Mt.id : Mt → String
  | .append => "list.append" | .extend => "list.extend" | .pop => "list.pop" | .starts => "str.startswith" | .split => "str.split" | .part => "str.partition" | .join => "str.join" | .lstrip => "str.lstrip"
theorem Mt.pa : ∀ m : Mt, PlainAttrs m.ty
  | .append => PySem.F.plainAttrs_list | .extend => PySem.F.plainAttrs_list | .pop => PySem.F.plainAttrs_list | .starts => PySem.F.plainAttrs_str | .split => PySem.F.plainAttrs_str | .part => PySem.F.plainAttrs_str | .join => PySem.F.plainAttrs_str | .lstrip => PySem.F.plainAttrs_str
theorem Mt.slot : ∀ m : Mt, Slot m.ty (Str.ofString m.name) m.id
  | .append => PySem.F.slot_list_append | .extend => PySem.F.slot_list_extend | .pop => PySem.F.slot_list_pop | .starts => PySem.F.slot_str_startswith | .split => PySem.F.slot_str_split | .part => PySem.F.slot_str_partition | .join => PySem.F.slot_str_join | .lstrip => PySem.F.slot_str_lstrip
theorem Mt.tyo : ∀ m : Mt, typeOf (.builtin m.id) = pure (.type "method_descriptor")
  | .append => PySem.F.type_list_append | .extend => PySem.F.type_list_extend | .pop => PySem.F.type_list_pop | .starts => PySem.F.type_str_startswith | .split => PySem.F.type_str_split | .part => PySem.F.type_str_partition | .join => PySem.F.type_str_join | .lstrip => PySem.F.type_str_lstrip
theorem Mt.mr {X : Cx} {T : List NTab} : ∀ m : Mt, MtR X m.id (rOfM (gd X T) m.g)
  | .append => mr_append | .extend => mr_extend | .pop => mr_pop | .starts => mr_starts | .split => mr_split | .part => mr_part | .join => mr_join | .lstrip => mr_lstrip
/-- the receiver is of the method's type -/
theorem Mt.tyV {G : Gd} {H : Hp} {ρ : Nat → Addr} {h : VH} {d : D} {v : V} (ok : VOk G H ρ h) (r : Rp G H ρ h.length d v) (m : Mt) (hd : (match d with | .str _ => m.ty = "str" | .ref k => m.ty = "list" | _ => False)) : L2.tyV G.K m.ty v H := by
  cases r with
  | str x => exact hd
  | ref hk =>
    obtain ⟨xs, e⟩ := ok.isLst hk
    exact .inl ⟨hd, xs, .of e⟩
  | _ => exact hd.elim
end Ev

set_option Elab.async false
set_option linter.all false
set_option maxRecDepth 100000
/-! Ev4: expressions: what each construct does on data, and that it is sound. -/
namespace Ev
open PySem PySem.Spec PyProof.Rows L2 NdefX

def noX : PX := fun _ _ _ => False
def one (Q : PQ) : PL := fun ds h => match ds with
  | [d] => Q d h
  | _ => False
def eOf (f : FA) : FE := fun env h Q E => f env h (one Q) E
def aOf (f : FE) : FA := fun env h Q E => f env h (fun d h => Q [d] h) E
def tOf (f : FE) : FT := fun env h Q E => f env h (fun d h => match d with
  | .bl b => Q b h
  | _ => False) E
theorem one_mono {Q Q' : PQ} (k : ∀ d h, Q d h → Q' d h) : ∀ ds h, one Q ds h → one Q' ds h
  | [], _, q => q
  | [_], _, q => k _ _ q
  | _ :: _ :: _, _, q => q
theorem MonA.e {f : FA} (m : MonA f) : MonE (eOf f) := ⟨fun kQ kE q => m.mo (one_mono kQ) kE q⟩
theorem MonE.a {f : FE} (m : MonE f) : MonA (aOf f) := ⟨fun kQ kE q => m.mo (fun _ _ z => kQ _ _ z) kE q⟩
theorem MonE.t {f : FE} (m : MonE f) : MonT (tOf f) := ⟨fun kQ kE q => m.mo (fun d _ z => by
  cases d <;> first | exact kQ _ _ z | exact z) kE q⟩

section
variable {G : Gd} {W : WX} {f : FE} {σ : L2.St} {H : Hp}
/-- a reading used as a test -/
theorem lT_of (m : MonE f) {Q : Bool → Hp → Prop} (q : lT G W (tOf f) σ H Q) : lE G W f σ H fun x H1 => ∃ c, x = .bl c ∧ Q c H1 := by
  obtain ⟨ρ, env, h, mm, hf⟩ := q
  refine ⟨ρ, env, h, mm, m.mo (fun d h1 q1 => ?_) (fun _ _ _ e => e) hf⟩
  intro ρ1 v H1 s1 r1
  cases r1 with
  | bl b => exact ⟨b, rfl, q1 ρ1 H1 s1⟩
  | _ => exact q1.elim
/-- the general step behind an expression -/
theorem lE_then (m : MonE f) {env : Env} {h : VH} {ρ : Nat → Addr} (mm : M G ρ env h σ H) {Q : PQ} {E : PX} {R : VK} (hf : f env h Q E) (kQ : ∀ d h', Q d h' → QV G ρ h H R d h') (kE : ∀ c d h', E c d h' → QX G ρ h H W σ c d h') : lE G W f σ H R :=
  ⟨ρ, env, h, mm, m.mo kQ kE hf⟩
end

/-! ### names, constants -/
def fVar (i : Nat) : FE := fun env h Q _ => match env[i]? with
  | some (some d) => Q d h
  | _ => False
def fLit (d : D) : FE := fun _ h Q _ => Q d h
theorem fVar_mono {i : Nat} : MonE (fVar i) := ⟨fun {env h Q Q' E E'} kQ _ q => by
  unfold fVar at q ⊢
  split at q
  · exact kQ _ _ q
  · exact q.elim⟩
theorem fLit_mono {d : D} : MonE (fLit d) := ⟨fun kQ _ q => kQ _ _ q⟩
section
variable {X : Cx} {T : List NTab} {W : WX} {a b c : Expr} {fa fb fc : FE} {pos : Pos}
theorem se_var {i : Nat} {x : Str} (hN : X.N[i]? = some x) (hv : Vis X.env.scope x) (hd : (x == ("__debug__" : Str)) = false) (hcd : (x == ("__classdict__" : Str)) = false) : PE X (.Name x pos) (lE (gd X T) W (fVar i)) :=
  PE.imp (pe_var hN hv hd hcd) fun σ H Q q => by
    obtain ⟨ρ, env, h, m, hf⟩ := q
    unfold fVar at hf
    split at hf
    · rename_i d e
      obtain ⟨v, e1, r⟩ := m.env i d e
      exact ⟨v, e1, hf ρ v H (Stp.refl m.ok) r⟩
    · exact hf.elim
/-- a value that stands: v is d in every heap -/
theorem se_const {e : Expr} {d : D} {v : V} (h : PE X e (tC v)) (hr : ∀ H ρ n, Rp (gd X T) H ρ n d v) : PE X e (lE (gd X T) W (fLit d)) :=
  PE.imp h fun σ H Q q => by
    obtain ⟨ρ, env, h, m, hf⟩ := q
    exact hf ρ v H (Stp.refl m.ok) (hr _ _ _)

/-! ### unary, is None -/
def fNeg (fa : FE) : FE := fun env h Q E => fa env h (fun x h1 => match x with
  | .int i => Q (.int (-i)) h1
  | _ => False) E
theorem fNeg_mono (ma : MonE fa) : MonE (fNeg fa) := ⟨fun kQ kE q => ma.mo (fun d _ q1 => by cases d <;> first | exact kQ _ _ q1 | exact q1) kE q⟩
theorem se_neg (ma : MonE fa) (ha : PE X a (lE (gd X T) W fa)) : PE X (.UnaryOp .USub a pos) (lE (gd X T) W (fNeg fa)) :=
  PE.imp (pe_un un_neg ha) fun σ H Q q => by
    obtain ⟨ρ, env, h, m, hf⟩ := q
    refine ⟨ρ, env, h, m, ma.mo (fun x h1 q1 => ?_) (fun _ _ _ e => e) hf⟩
    intro ρ1 v H1 s1 r1
    cases r1 with
    | int i => exact ⟨i, rfl, q1 ρ1 _ H1 s1 (.int _)⟩
    | _ => exact q1.elim
def isNon : D → Bool
  | .non => true
  | _ => false
theorem isNon_v {G : Gd} {H : Hp} {ρ : Nat → Addr} {n : Nat} {d : D} {v : V} (r : Rp G H ρ n d v) : decide (v = .non) = isNon d := by
  cases r <;> rfl
def fIsN (neg : Bool) (fa : FE) : FE := fun env h Q E => fa env h (fun x h1 => Q (.bl (if neg then !isNon x else isNon x)) h1) E
theorem fIsN_mono {n : Bool} (ma : MonE fa) : MonE (fIsN n fa) := ⟨fun kQ kE q => ma.mo (fun _ _ q1 => kQ _ _ q1) kE q⟩
theorem lE_isN {G : Gd} {n : Bool} (ma : MonE fa) {σ : L2.St} {H : Hp} {Q : VK} (q : lE G W (fIsN n fa) σ H Q) : lE G W fa σ H fun x H1 => Q (.bl (if n then !decide (x = .non) else decide (x = .non))) H1 := by
  obtain ⟨ρ, env, h, m, hf⟩ := q
  refine ⟨ρ, env, h, m, ma.mo (fun x h1 q1 => ?_) (fun _ _ _ e => e) hf⟩
  intro ρ1 v H1 s1 r1
  rw [isNon_v r1]
  exact q1 ρ1 _ H1 s1 (.bl _)
theorem se_isN {j pos'} (ma : MonE fa) (ha : PE X a (lE (gd X T) W fa)) : PE X (.Compare a [.Is] [.Constant .none j pos'] pos) (lE (gd X T) W (fIsN false fa)) :=
  PE.imp (pe_cmp (pc_isN ha)) fun _ _ _ q => lE_isN (n := false) ma q
theorem se_notN {j pos'} (ma : MonE fa) (ha : PE X a (lE (gd X T) W fa)) : PE X (.Compare a [.IsNot] [.Constant .none j pos'] pos) (lE (gd X T) W (fIsN true fa)) :=
  PE.imp (pe_cmp (pc_notN ha)) fun _ _ _ q => lE_isN (n := true) ma q
theorem st_isN {j pos'} (ma : MonE fa) (ha : PE X a (lE (gd X T) W fa)) : PT X (.Compare a [.Is] [.Constant .none j pos'] pos) (lT (gd X T) W (tOf (fIsN false fa))) :=
  PT.imp (pt_cmp (pc_isN ha)) fun _ _ _ q => lE_isN (n := false) ma (lT_of (fIsN_mono ma) q)
theorem st_notN {j pos'} (ma : MonE fa) (ha : PE X a (lE (gd X T) W fa)) : PT X (.Compare a [.IsNot] [.Constant .none j pos'] pos) (lT (gd X T) W (tOf (fIsN true fa))) :=
  PT.imp (pt_cmp (pc_notN ha)) fun _ _ _ q => lE_isN (n := true) ma (lT_of (fIsN_mono ma) q)

/-! ### comparisons -/
theorem se_cmp (hu : X.A.units + 64 < cLine) (o : Cop) (ma : MonE fa) (mb : MonE fb) (ha : PE X a (lE (gd X T) W fa)) (hb : PE X b (lE (gd X T) W fb)) (hm : behindInMarks o.op b = false) : PE X (.Compare a [o.op] [b] pos) (lE (gd X T) W (fBin o.g fa fb)) :=
  PE.imp (pe_cmpR (or_cmp hu o) ha hb hm) fun _ _ _ q => lE_bin ma mb q
theorem st_cmp (hu : X.A.units + 64 < cLine) (o : Cop) (ma : MonE fa) (mb : MonE fb) (ha : PE X a (lE (gd X T) W fa)) (hb : PE X b (lE (gd X T) W fb)) (hm : behindInMarks o.op b = false) : PT X (.Compare a [o.op] [b] pos) (lT (gd X T) W (tOf (fBin o.g fa fb))) :=
  PT.imp (pt_cmpR (or_cmp hu o) ha hb hm) fun _ _ _ q => lE_bin ma mb (lT_of (fBin_mono ma mb) q)
def fChain (g g' : F2) (fa fb fc : FE) : FE := fun env h Q E => fa env h (fun x h1 => fb env h1 (fun y h2 => fin (g x y h2) h2 (fun k h3 => match k with
  | .bl true => fc env h3 (fun z h4 => fin (g' y z h4) h4 Q) E
  | .bl false => Q (.bl false) h3
  | _ => False)) E) E
theorem fChain_mono {g g' : F2} (ma : MonE fa) (mb : MonE fb) (mc : MonE fc) : MonE (fChain g g' fa fb fc) := ⟨fun {env h Q Q' E E'} kQ kE q => by
  refine ma.mo (fun x h1 q1 => mb.mo (fun y h2 q2 => fin_mono (fun k h3 q3 => ?_) q2) kE q1) kE q
  cases k with
  | bl b =>
    cases b with
    | true => exact mc.mo (fun _ _ q4 => fin_mono kQ q4) kE q3
    | false => exact kQ _ _ q3
  | _ => exact q3⟩
theorem lE_chain {G : Gd} {g g' : F2} (ma : MonE fa) (mb : MonE fb) (mc : MonE fc) {σ : L2.St} {H : Hp} {Q : VK} (q : lE G W (fChain g g' fa fb fc) σ H Q) : tChain (rOf G g) (rOf G g') (lE G W fa) (lE G W fb) (lE G W fc) σ H Q := by
  obtain ⟨ρ, env, h, m, hf⟩ := q
  refine ⟨ρ, env, h, m, ma.mo (fun x h1 q1 => ?_) (fun _ _ _ e => e) hf⟩
  intro ρ1 v H1 s1 r1
  refine ⟨ρ1, env, h1, m.step s1, mb.mo (fun y h2 q2 => ?_) (fun _ _ _ e => e.step s1) q1⟩
  intro ρ2 u H2 s2 r2
  refine ⟨ρ2, h2, x, y, s2.ok, s2.rp s1.ok r1, r2, fin_mono (fun k h3 q3 => ?_) q2⟩
  intro ρ3 z H3 s3 r3
  cases r3 with
  | bl b =>
    refine ⟨b, rfl, ?_⟩
    have s12 := s1.trans s2
    have s13 := s12.trans s3
    cases b with
    | true =>
      rw [if_pos rfl]
      refine ⟨ρ3, env, h3, m.step s13, mc.mo (fun z h4 q4 => ?_) (fun _ _ _ e => e.step s13) q3⟩
      intro ρ4 w H4 s4 r4
      exact ⟨ρ4, h4, y, z, s4.ok, s4.rp s3.ok (s3.rp s2.ok r2), r4, fin_mono (fun _ _ e => e.step (s13.trans s4)) q4⟩
    | false =>
      rw [if_neg Bool.false_ne_true]
      exact q3 ρ3 _ H3 s13 (.bl _)
  | _ => exact q3.elim
theorem se_chain (hu : X.A.units + 64 < cLine) (o o' : Cop) (ma : MonE fa) (mb : MonE fb) (mc : MonE fc) (ha : PE X a (lE (gd X T) W fa)) (hb : PE X b (lE (gd X T) W fb)) (hc : PE X c (lE (gd X T) W fc)) (hm : lastMarks [o.op, o'.op] [b, c] = false) :
    PE X (.Compare a [o.op, o'.op] [b, c] pos) (lE (gd X T) W (fChain o.g o'.g fa fb fc)) := PE.imp (pe_chain (or_cmp hu o) (or_cmp hu o') ha hb hc hm) fun _ _ _ q => lE_chain ma mb mc q
theorem st_chain (hu : X.A.units + 64 < cLine) (o o' : Cop) (ma : MonE fa) (mb : MonE fb) (mc : MonE fc) (ha : PE X a (lE (gd X T) W fa)) (hb : PE X b (lE (gd X T) W fb)) (hc : PE X c (lE (gd X T) W fc)) (hm : lastMarks [o.op, o'.op] [b, c] = false) :
    PT X (.Compare a [o.op, o'.op] [b, c] pos) (lT (gd X T) W (tOf (fChain o.g o'.g fa fb fc))) := PT.imp (pt_chain (or_cmp hu o) (or_cmp hu o') ha hb hc hm) fun _ _ _ q => lE_chain ma mb mc (lT_of (fChain_mono ma mb mc) q)

/-! ### and, or, not, if -/
def fAnd (fa fb : FE) : FE := fun env h Q E => fa env h (fun x h1 => match x with
  | .bl true => fb env h1 Q E
  | .bl false => Q (.bl false) h1
  | _ => False) E
def fOr (fa fb : FE) : FE := fun env h Q E => fa env h (fun x h1 => match x with
  | .bl true => Q (.bl true) h1
  | .bl false => fb env h1 Q E
  | _ => False) E
def fNot (fa : FE) : FE := fun env h Q E => fa env h (fun x h1 => match x with
  | .bl b => Q (.bl (!b)) h1
  | _ => False) E
def fIte (fc fa fb : FE) : FE := fun env h Q E => fc env h (fun x h1 => match x with
  | .bl true => fa env h1 Q E
  | .bl false => fb env h1 Q E
  | _ => False) E
theorem fAnd_mono (ma : MonE fa) (mb : MonE fb) : MonE (fAnd fa fb) := ⟨fun kQ kE q => ma.mo (fun d _ q1 => by
  cases d with
  | bl b => cases b with
    | true => exact mb.mo kQ kE q1
    | false => exact kQ _ _ q1
  | _ => exact q1) kE q⟩
theorem fOr_mono (ma : MonE fa) (mb : MonE fb) : MonE (fOr fa fb) := ⟨fun kQ kE q => ma.mo (fun d _ q1 => by
  cases d with
  | bl b => cases b with
    | false => exact mb.mo kQ kE q1
    | true => exact kQ _ _ q1
  | _ => exact q1) kE q⟩
theorem fNot_mono (ma : MonE fa) : MonE (fNot fa) := ⟨fun kQ kE q => ma.mo (fun d _ q1 => by cases d <;> first | exact kQ _ _ q1 | exact q1) kE q⟩
theorem fIte_mono (mc : MonE fc) (ma : MonE fa) (mb : MonE fb) : MonE (fIte fc fa fb) := ⟨fun kQ kE q => mc.mo (fun d _ q1 => by
  cases d with
  | bl b => cases b with
    | true => exact ma.mo kQ kE q1
    | false => exact mb.mo kQ kE q1
  | _ => exact q1) kE q⟩
variable {rest : List Expr}
theorem se_and (ma : MonE fa) (mb : MonE fb) (ha : PE X a (lE (gd X T) W fa)) (hb : PE X (.BoolOp .And (b :: rest) pos) (lE (gd X T) W fb)) : PE X (.BoolOp .And (a :: b :: rest) pos) (lE (gd X T) W (fAnd fa fb)) :=
  PE.imp (pe_and ha hb) fun σ H Q q => by
    obtain ⟨ρ, env, h, m, hf⟩ := q
    refine ⟨ρ, env, h, m, ma.mo (fun x h1 q1 => ?_) (fun _ _ _ e => e) hf⟩
    intro ρ1 v H1 s1 r1
    cases r1 with
    | bl k =>
      refine ⟨k, rfl, ?_⟩
      cases k with
      | true =>
        rw [if_pos rfl]
        exact ⟨ρ1, env, h1, m.step s1, mb.mo (fun _ _ e => e.step s1) (fun _ _ _ e => e.step s1) q1⟩
      | false =>
        rw [if_neg Bool.false_ne_true]
        exact q1 ρ1 _ H1 s1 (.bl _)
    | _ => exact q1.elim
theorem se_or (ma : MonE fa) (mb : MonE fb) (ha : PE X a (lE (gd X T) W fa)) (hb : PE X (.BoolOp .Or (b :: rest) pos) (lE (gd X T) W fb)) : PE X (.BoolOp .Or (a :: b :: rest) pos) (lE (gd X T) W (fOr fa fb)) :=
  PE.imp (pe_or ha hb) fun σ H Q q => by
    obtain ⟨ρ, env, h, m, hf⟩ := q
    refine ⟨ρ, env, h, m, ma.mo (fun x h1 q1 => ?_) (fun _ _ _ e => e) hf⟩
    intro ρ1 v H1 s1 r1
    cases r1 with
    | bl k =>
      refine ⟨k, rfl, ?_⟩
      cases k with
      | false =>
        rw [if_neg Bool.false_ne_true]
        exact ⟨ρ1, env, h1, m.step s1, mb.mo (fun _ _ e => e.step s1) (fun _ _ _ e => e.step s1) q1⟩
      | true =>
        rw [if_pos rfl]
        exact q1 ρ1 _ H1 s1 (.bl _)
    | _ => exact q1.elim
theorem se_not (ma : MonE fa) (ha : PE X a (lE (gd X T) W fa)) : PE X (.UnaryOp .Not a pos) (lE (gd X T) W (fNot fa)) :=
  PE.imp (pe_not ha) fun σ H Q q => by
    obtain ⟨ρ, env, h, m, hf⟩ := q
    refine ⟨ρ, env, h, m, ma.mo (fun x h1 q1 => ?_) (fun _ _ _ e => e) hf⟩
    intro ρ1 v H1 s1 r1
    cases r1 with
    | bl k => exact ⟨k, rfl, q1 ρ1 _ H1 s1 (.bl _)⟩
    | _ => exact q1.elim
/-- tests -/
theorem sw_and (ma : MonE fa) (mb : MonE fb) (ha : PT X a (lT (gd X T) W (tOf fa))) (hb : PW X (.BoolOp .And (b :: rest) pos) (lT (gd X T) W (tOf fb))) : PW X (.BoolOp .And (a :: b :: rest) pos) (lT (gd X T) W (tOf (fAnd fa fb))) :=
  PW.imp (pw_and ha hb) fun σ H Q q => by
    obtain ⟨ρ, env, h, m, hf⟩ := q
    refine ⟨ρ, env, h, m, ma.mo (fun x h1 q1 => ?_) (fun _ _ _ e => e) hf⟩
    cases x with
    | bl k =>
      intro ρ1 H1 s1
      cases k with
      | true =>
        rw [if_pos rfl]
        exact ⟨ρ1, env, h1, m.step s1, mb.mo (fun d _ e => by cases d <;> first | exact e.step s1 | exact e) (fun _ _ _ e => e.step s1) q1⟩
      | false =>
        rw [if_neg Bool.false_ne_true]
        exact q1 ρ1 H1 s1
    | _ => exact q1
theorem sw_or (ma : MonE fa) (mb : MonE fb) (ha : PT X a (lT (gd X T) W (tOf fa))) (hb : PW X (.BoolOp .Or (b :: rest) pos) (lT (gd X T) W (tOf fb))) : PW X (.BoolOp .Or (a :: b :: rest) pos) (lT (gd X T) W (tOf (fOr fa fb))) :=
  PW.imp (pw_or ha hb) fun σ H Q q => by
    obtain ⟨ρ, env, h, m, hf⟩ := q
    refine ⟨ρ, env, h, m, ma.mo (fun x h1 q1 => ?_) (fun _ _ _ e => e) hf⟩
    cases x with
    | bl k =>
      intro ρ1 H1 s1
      cases k with
      | false =>
        rw [if_neg Bool.false_ne_true]
        exact ⟨ρ1, env, h1, m.step s1, mb.mo (fun d _ e => by cases d <;> first | exact e.step s1 | exact e) (fun _ _ _ e => e.step s1) q1⟩
      | true =>
        rw [if_pos rfl]
        exact q1 ρ1 H1 s1
    | _ => exact q1
theorem st_not (ma : MonE fa) (ha : PT X a (lT (gd X T) W (tOf fa))) : PT X (.UnaryOp .Not a pos) (lT (gd X T) W (tOf (fNot fa))) :=
  PT.imp (pt_not ha) fun σ H Q q => by
    obtain ⟨ρ, env, h, m, hf⟩ := q
    refine ⟨ρ, env, h, m, ma.mo (fun x h1 q1 => ?_) (fun _ _ _ e => e) hf⟩
    cases x with
    | bl k => exact fun ρ1 H1 s1 => q1 ρ1 H1 s1
    | _ => exact q1
theorem lT_ite {G : Gd} (mc : MonE fc) (ma : MonE fa) (mb : MonE fb) {σ : L2.St} {H : Hp} {Q : VK} (q : lE G W (fIte fc fa fb) σ H Q) : tIf (lT G W (tOf fc)) (lE G W fa) (lE G W fb) σ H Q := by
  obtain ⟨ρ, env, h, m, hf⟩ := q
  refine ⟨ρ, env, h, m, mc.mo (fun x h1 q1 => ?_) (fun _ _ _ e => e) hf⟩
  cases x with
  | bl k =>
    intro ρ1 H1 s1
    cases k with
    | true =>
      rw [if_pos rfl]
      exact ⟨ρ1, env, h1, m.step s1, ma.mo (fun _ _ e => e.step s1) (fun _ _ _ e => e.step s1) q1⟩
    | false =>
      rw [if_neg Bool.false_ne_true]
      exact ⟨ρ1, env, h1, m.step s1, mb.mo (fun _ _ e => e.step s1) (fun _ _ _ e => e.step s1) q1⟩
  | _ => exact q1
theorem se_ite (mc : MonE fc) (ma : MonE fa) (mb : MonE fb) (hc : PT X c (lT (gd X T) W (tOf fc))) (ha : PE X a (lE (gd X T) W fa)) (hb : PE X b (lE (gd X T) W fb)) : PE X (.IfExp c a b pos) (lE (gd X T) W (fIte fc fa fb)) :=
  PE.imp (pe_ifExp hc ha hb) fun _ _ _ q => lT_ite mc ma mb q
theorem st_ite (mc : MonE fc) (ma : MonE fa) (mb : MonE fb) (hc : PT X c (lT (gd X T) W (tOf fc))) (ha : PT X a (lT (gd X T) W (tOf fa))) (hb : PT X b (lT (gd X T) W (tOf fb))) : PT X (.IfExp c a b pos) (lT (gd X T) W (tOf (fIte fc fa fb))) := by
  refine ⟨fun pins s σ H Q I q => ?_⟩
  obtain ⟨ρ, env, h, m, hf⟩ := q
  refine isTrue_IfExp (thn (hc.run pins s σ H (fun k H1 => if k = true then lT (gd X T) W (tOf fa) σ H1 Q else lT (gd X T) W (tOf fb) σ H1 Q) I ⟨ρ, env, h, m, mc.mo (fun x h1 q1 => ?_) (fun _ _ _ e => e) hf⟩) fun k s1 hk => ?_)
  · cases x with
    | bl k =>
      intro ρ1 H1 s1
      cases k with
      | true =>
        rw [if_pos rfl]
        exact ⟨ρ1, env, h1, m.step s1, ma.mo (fun d _ e => by cases d <;> first | exact e.step s1 | exact e) (fun _ _ _ e => e.step s1) q1⟩
      | false =>
        rw [if_neg Bool.false_ne_true]
        exact ⟨ρ1, env, h1, m.step s1, mb.mo (fun d _ e => by cases d <;> first | exact e.step s1 | exact e) (fun _ _ _ e => e.step s1) q1⟩
    | _ => exact q1
  · obtain ⟨H1, I1, q1⟩ := hk
    cases k with
    | true => exact ha.run pins s1 σ H1 Q I1 q1
    | false => exact hb.run pins s1 σ H1 Q I1 q1
/-- a plain expression as a test -/
theorem st_val {e : Expr} {f : FE} (m : MonE f) (h : PE X e (lE (gd X T) W f)) (he : ∀ whole, isTrue e X.env whole = (do let v ← whole; standAt e.pos; holding [v] (truthy v))) : PT X e (lT (gd X T) W (tOf f)) :=
  PT.imp (pt_val h he) fun _ _ _ q => lT_of m q
end
end Ev

set_option Elab.async false
set_option linter.all false
set_option maxRecDepth 100000
/-! Ev4b: displays, subscripts, calls of built-ins, methods, isinstance, calls of defs. -/
namespace Ev
open PySem PySem.Spec PyProof.Rows L2 NdefX

/-- a check on the way -/
def chk (b : Bool) (p : Prop) : Prop := match b with
  | true => p
  | false => False
theorem chk_of {b : Bool} {p : Prop} (hb : b = true) (h : p) : chk b p := by subst hb; exact h
theorem chk_iff {b : Bool} {p : Prop} : chk b p ↔ b = true ∧ p := by cases b <;> simp [chk]
/-! ### a term of this kit: the step's own meaning keeps implications, and it is sound -/
structure SE (X : Cx) (T : List NTab) (W : WX) (e : Expr) (f : FE) : Prop where
  m : MonE f
  p : PE X e (lE (gd X T) W f)
structure SA (X : Cx) (T : List NTab) (W : WX) (e : List Expr) (f : FA) : Prop where
  m : MonA f
  p : PA X e (lA (gd X T) W f)
structure ST (X : Cx) (T : List NTab) (W : WX) (e : Expr) (f : FE) : Prop where
  m : MonE f
  p : PT X e (lT (gd X T) W (tOf f))
structure SW (X : Cx) (T : List NTab) (W : WX) (e : Expr) (f : FE) : Prop where
  m : MonE f
  p : PW X e (lT (gd X T) W (tOf f))
def fNil : FA := fun _ h Q _ => Q [] h
def fCons (fa : FE) (ft : FA) : FA := fun env h Q E => fa env h (fun d h1 => ft env h1 (fun ds h2 => Q (d :: ds) h2) E) E
def fTup (ft : FA) : FE := fun env h Q E => ft env h (fun ds h1 => chk (decide (ds.length ≤ line)) (Q (.tup ds) h1)) E
def fLst (ft : FA) : FE := fun env h Q E => ft env h (fun ds h1 => chk (decide (ds.length ≤ line)) (Q (.ref h1.length) (h1 ++ [.lst ds]))) E
def fFN (g : FN) (ft : FA) : FE := fun env h Q E => ft env h (fun ds h1 => fin (g ds h1) h1 Q) E
def fMt (m : Mt) (fo : FE) (ft : FA) : FE := fun env h Q E => fo env h (fun x h1 => chk (match x with
  | .str _ => decide (m.ty = "str")
  | .ref _ => decide (m.ty = "list")
  | _ => false) (ft env h1 (fun ds h2 => finE (m.g x ds h2) h2 Q) E)) E
def fIsi (fa : FE) (ts : List Ty) : FE := fun env h Q E => fa env h (fun x h1 => match tyD x h1 with
  | some t => Q (.bl (ts.any t.isa)) h1
  | none => False) E
abbrev Spec := List D → VH → PQ → PX → Prop
structure MonSp (sp : Spec) : Prop where
  mo : ∀ {ds : List D} {h : VH} {Q Q' : PQ} {E E' : PX}, (∀ d h, Q d h → Q' d h) → (∀ c d h, E c d h → E' c d h) → sp ds h Q E → sp ds h Q' E'
def fCall (sp : Spec) (ft : FA) : FE := fun env h Q E => ft env h (fun ds h1 => sp ds h1 Q E) E
def fSl1 (fx : FE) (lo hi : Option FE) : FE := fun env h Q E => fx env h (fun x h1 => match lo, hi with
  | none, none => fin (gSl x none none h1) h1 Q
  | some fl, none => fl env h1 (fun y h2 => match y with
    | .int i => fin (gSl x (some i) none h2) h2 Q
    | _ => False) E
  | none, some fu => fu env h1 (fun y h2 => match y with
    | .int i => fin (gSl x none (some i) h2) h2 Q
    | _ => False) E
  | some fl, some fu => fl env h1 (fun y h2 => match y with
    | .int i => fu env h2 (fun z h3 => match z with
      | .int j => fin (gSl x (some i) (some j) h3) h3 Q
      | _ => False) E
    | _ => False) E) E
section
variable {ft : FA} {fa fo fx : FE} {g : FN}
theorem chk_mono {b : Bool} {p q : Prop} (h : p → q) (c : chk b p) : chk b q := by
  cases b with
  | true => exact h c
  | false => exact c
theorem fNil_mono : MonA fNil := ⟨fun kQ _ q => kQ _ _ q⟩
theorem fCons_mono (ma : MonE fa) (mt : MonA ft) : MonA (fCons fa ft) := ⟨fun kQ kE q => ma.mo (fun _ _ q1 => mt.mo (fun _ _ q2 => kQ _ _ q2) kE q1) kE q⟩
theorem fTup_mono (mt : MonA ft) : MonE (fTup ft) := ⟨fun kQ kE q => mt.mo (fun _ _ q1 => chk_mono (kQ _ _) q1) kE q⟩
theorem fLst_mono (mt : MonA ft) : MonE (fLst ft) := ⟨fun kQ kE q => mt.mo (fun _ _ q1 => chk_mono (kQ _ _) q1) kE q⟩
theorem fFN_mono (mt : MonA ft) : MonE (fFN g ft) := ⟨fun kQ kE q => mt.mo (fun _ _ q1 => fin_mono kQ q1) kE q⟩
theorem fMt_mono {m : Mt} (mo : MonE fo) (mt : MonA ft) : MonE (fMt m fo ft) := ⟨fun kQ kE q => mo.mo (fun x h1 q1 => chk_mono (fun q2 => mt.mo (fun _ _ q3 => finE_mono kQ q3) kE q2) q1) kE q⟩
theorem fIsi_mono {ts : List Ty} (ma : MonE fa) : MonE (fIsi fa ts) := ⟨fun kQ kE q => ma.mo (fun x h1 q1 => by
  revert q1
  cases tyD x h1 with
  | none => exact id
  | some t => exact kQ _ _) kE q⟩
theorem fCall_mono {sp : Spec} (ms : MonSp sp) (mt : MonA ft) : MonE (fCall sp ft) := ⟨fun kQ kE q => mt.mo (fun _ _ q1 => ms.mo kQ kE q1) kE q⟩
end
section
variable {X : Cx} {T : List NTab} {W : WX} {e a b c o : Expr} {es rest : List Expr} {fa fb fc fo : FE} {ft : FA} {pos p p2 apos : Pos} {x : Str}
/-! #### as in Ev4 -/
theorem e_var {i : Nat} (hN : X.N[i]? = some x) (hv : Vis X.env.scope x) (hd : (x == ("__debug__" : Str)) = false := by decide) (hcd : (x == ("__classdict__" : Str)) = false := by decide) : SE X T W (.Name x p) (fVar i) := ⟨fVar_mono, se_var hN hv hd hcd⟩
theorem e_int {i : Int} {j : Nat} : SE X T W (.Constant (.int i) j p) (fLit (.int i)) := ⟨fLit_mono, se_const pe_int fun _ _ _ => .int _⟩
theorem e_bl {i : Bool} {j : Nat} : SE X T W (.Constant (.bool i) j p) (fLit (.bl i)) := ⟨fLit_mono, se_const pe_bl fun _ _ _ => .bl _⟩
theorem e_str {i : Str} {j : Nat} : SE X T W (.Constant (.str i) j p) (fLit (.str i)) := ⟨fLit_mono, se_const pe_str fun _ _ _ => .str _⟩
theorem e_non {j : Nat} : SE X T W (.Constant .none j p) (fLit .non) := ⟨fLit_mono, se_const pe_non fun _ _ _ => .non⟩
theorem e_neg (ha : SE X T W a fa) : SE X T W (.UnaryOp .USub a p) (fNeg fa) := ⟨fNeg_mono ha.m, se_neg ha.m ha.p⟩
theorem e_bin (o : Bop) (ha : SE X T W a fa) (hb : SE X T W b fb) : SE X T W (.BinOp a o.op b p) (fBin o.g fa fb) := ⟨fBin_mono ha.m hb.m, se_bin o ha.m hb.m ha.p hb.p⟩
theorem e_isN {j pos'} (ha : SE X T W a fa) : SE X T W (.Compare a [.Is] [.Constant .none j pos'] p) (fIsN false fa) := ⟨fIsN_mono ha.m, se_isN ha.m ha.p⟩
theorem e_notN {j pos'} (ha : SE X T W a fa) : SE X T W (.Compare a [.IsNot] [.Constant .none j pos'] p) (fIsN true fa) := ⟨fIsN_mono ha.m, se_notN ha.m ha.p⟩
theorem t_isN {j pos'} (ha : SE X T W a fa) : ST X T W (.Compare a [.Is] [.Constant .none j pos'] p) (fIsN false fa) := ⟨fIsN_mono ha.m, st_isN ha.m ha.p⟩
theorem t_notN {j pos'} (ha : SE X T W a fa) : ST X T W (.Compare a [.IsNot] [.Constant .none j pos'] p) (fIsN true fa) := ⟨fIsN_mono ha.m, st_notN ha.m ha.p⟩
theorem e_cmp (hu : X.A.units + 64 < cLine) (o : Cop) (ha : SE X T W a fa) (hb : SE X T W b fb) (hm : behindInMarks o.op b = false := by rfl) : SE X T W (.Compare a [o.op] [b] p) (fBin o.g fa fb) := ⟨fBin_mono ha.m hb.m, se_cmp hu o ha.m hb.m ha.p hb.p hm⟩
theorem t_cmp (hu : X.A.units + 64 < cLine) (o : Cop) (ha : SE X T W a fa) (hb : SE X T W b fb) (hm : behindInMarks o.op b = false := by rfl) : ST X T W (.Compare a [o.op] [b] p) (fBin o.g fa fb) := ⟨fBin_mono ha.m hb.m, st_cmp hu o ha.m hb.m ha.p hb.p hm⟩
theorem e_chain (hu : X.A.units + 64 < cLine) (o o' : Cop) (ha : SE X T W a fa) (hb : SE X T W b fb) (hc : SE X T W c fc) (hm : lastMarks [o.op, o'.op] [b, c] = false := by rfl) : SE X T W (.Compare a [o.op, o'.op] [b, c] p) (fChain o.g o'.g fa fb fc) := ⟨fChain_mono ha.m hb.m hc.m, se_chain hu o o' ha.m hb.m hc.m ha.p hb.p hc.p hm⟩
theorem t_chain (hu : X.A.units + 64 < cLine) (o o' : Cop) (ha : SE X T W a fa) (hb : SE X T W b fb) (hc : SE X T W c fc) (hm : lastMarks [o.op, o'.op] [b, c] = false := by rfl) : ST X T W (.Compare a [o.op, o'.op] [b, c] p) (fChain o.g o'.g fa fb fc) := ⟨fChain_mono ha.m hb.m hc.m, st_chain hu o o' ha.m hb.m hc.m ha.p hb.p hc.p hm⟩
theorem e_one {op : BoolOp} (ha : SE X T W a fa) : SE X T W (.BoolOp op [a] p) fa := ⟨ha.m, pe_one ha.p⟩
theorem e_and (ha : SE X T W a fa) (hb : SE X T W (.BoolOp .And (b :: rest) p) fb) : SE X T W (.BoolOp .And (a :: b :: rest) p) (fAnd fa fb) := ⟨fAnd_mono ha.m hb.m, se_and ha.m hb.m ha.p hb.p⟩
theorem e_or (ha : SE X T W a fa) (hb : SE X T W (.BoolOp .Or (b :: rest) p) fb) : SE X T W (.BoolOp .Or (a :: b :: rest) p) (fOr fa fb) := ⟨fOr_mono ha.m hb.m, se_or ha.m hb.m ha.p hb.p⟩
theorem e_not (ha : SE X T W a fa) : SE X T W (.UnaryOp .Not a p) (fNot fa) := ⟨fNot_mono ha.m, se_not ha.m ha.p⟩
theorem w_one {op : BoolOp} (ha : ST X T W a fa) : SW X T W (.BoolOp op [a] p) fa := ⟨ha.m, by
  cases op
  · exact pw_and1 ha.p
  · exact pw_or1 ha.p⟩
theorem w_and (ha : ST X T W a fa) (hb : SW X T W (.BoolOp .And (b :: rest) p) fb) : SW X T W (.BoolOp .And (a :: b :: rest) p) (fAnd fa fb) := ⟨fAnd_mono ha.m hb.m, sw_and ha.m hb.m ha.p hb.p⟩
theorem w_or (ha : ST X T W a fa) (hb : SW X T W (.BoolOp .Or (b :: rest) p) fb) : SW X T W (.BoolOp .Or (a :: b :: rest) p) (fOr fa fb) := ⟨fOr_mono ha.m hb.m, sw_or ha.m hb.m ha.p hb.p⟩
theorem SW.t (h : SW X T W e fa) : ST X T W e fa := ⟨h.m, h.p.pt⟩
theorem t_not (ha : ST X T W a fa) : ST X T W (.UnaryOp .Not a p) (fNot fa) := ⟨fNot_mono ha.m, st_not ha.m ha.p⟩
theorem e_ite (hc : ST X T W c fc) (ha : SE X T W a fa) (hb : SE X T W b fb) : SE X T W (.IfExp c a b p) (fIte fc fa fb) := ⟨fIte_mono hc.m ha.m hb.m, se_ite hc.m ha.m hb.m hc.p ha.p hb.p⟩
theorem t_ite (hc : ST X T W c fc) (ha : ST X T W a fa) (hb : ST X T W b fb) : ST X T W (.IfExp c a b p) (fIte fc fa fb) := ⟨fIte_mono hc.m ha.m hb.m, st_ite hc.m ha.m hb.m hc.p ha.p hb.p⟩
theorem t_val (ha : SE X T W a fa) (he : ∀ whole, isTrue a X.env whole = (do let v ← whole; standAt a.pos; holding [v] (truthy v)) := by exact fun _ => rfl) : ST X T W a fa := ⟨ha.m, st_val ha.m ha.p he⟩
/-! #### argument lists, displays -/
theorem a_nil : SA X T W [] fNil := ⟨fNil_mono, PA.imp pa_nil fun σ H Q q => by
  obtain ⟨ρ, env, h, m, hf⟩ := q
  exact hf ρ [] H (Stp.refl m.ok) .nil⟩
theorem a_cons (ha : SE X T W a fa) (ht : SA X T W es ft) (hs : starEach (a :: es) X.env = (false, eval a X.env) :: starEach es X.env := by rfl) : SA X T W (a :: es) (fCons fa ft) :=
  ⟨fCons_mono ha.m ht.m, PA.imp (pa_cons ha.p ht.p hs) fun σ H Q q => by
    obtain ⟨ρ, env, h, m, hf⟩ := q
    refine ⟨ρ, env, h, m, ha.m.mo (fun d h1 q1 => ?_) (fun _ _ _ z => z) hf⟩
    intro ρ1 v H1 s1 r1
    refine ⟨ρ1, env, h1, m.step s1, ht.m.mo (fun ds h2 q2 => ?_) (fun _ _ _ z => z.step s1) q1⟩
    intro ρ2 vs H2 s2 r2
    exact q2 ρ2 _ H2 (s1.trans s2) (.cons (s2.rp s1.ok r1) r2)⟩
theorem e_tup {x1} (ht : SA X T W es ft) : SE X T W (.Tuple es x1 p) (fTup ft) :=
  ⟨fTup_mono ht.m, PE.imp (pe_tup ht.p) fun σ H Q q => by
    obtain ⟨ρ, env, h, m, hf⟩ := q
    refine ⟨ρ, env, h, m, ht.m.mo (fun ds h1 q1 => ?_) (fun _ _ _ z => z) hf⟩
    intro ρ1 vs H1 s1 r1
    obtain ⟨hl, q2⟩ := chk_iff.mp q1
    have hl := of_decide_eq_true hl
    rw [r1.length] at hl
    exact ⟨by rw [← line_eq]; exact hl, fin_tup s1.ok r1 (q2.step s1)⟩⟩
theorem e_lst (ht : SA X T W es ft) : SE X T W (.List es p) (fLst ft) :=
  ⟨fLst_mono ht.m, PE.imp (pe_lst ht.p) fun σ H Q q => by
    obtain ⟨ρ, env, h, m, hf⟩ := q
    refine ⟨ρ, env, h, m, ht.m.mo (fun ds h1 q1 => ?_) (fun _ _ _ z => z) hf⟩
    intro ρ1 vs H1 s1 r1
    obtain ⟨hl, q2⟩ := chk_iff.mp q1
    have hl := of_decide_eq_true hl
    rw [r1.length] at hl
    exact ⟨by rw [← line_eq]; exact hl, fin_new s1.ok r1 (q2.step s1)⟩⟩
/-! #### subscripts -/
theorem e_ix (ha : SE X T W a fa) (hb : SE X T W b fb) (hs : PlainIx b := by exact fun _ _ => rfl) : SE X T W (.Subscript a b p) (fBin gIx fa fb) := ⟨fBin_mono ha.m hb.m, PE.imp (pe_ix ix_all ha.p hb.p hs) fun _ _ _ q => lE_bin ha.m hb.m q⟩
/-- a slice's part -/
inductive SO (X : Cx) (T : List NTab) (W : WX) : Option Expr → Option FE → Prop
  | none : SO X T W Option.none Option.none
  | some {e : Expr} {f : FE} (h : SE X T W e f) : SO X T W (Option.some e) (Option.some f)
theorem fSl1_mono {lo hi : Option FE} {fx : FE} (mx : MonE fx) (ml : ∀ f, lo = some f → MonE f) (mh : ∀ f, hi = some f → MonE f) : MonE (fSl1 fx lo hi) := ⟨fun kQ kE q => mx.mo (fun x h1 q1 => by
  cases lo with
  | none =>
    cases hi with
    | none => exact fin_mono kQ q1
    | some f => exact (mh f rfl).mo (fun y h2 q2 => by cases y <;> first | exact q2.elim | exact fin_mono kQ q2) kE q1
  | some l =>
    cases hi with
    | none => exact (ml l rfl).mo (fun y h2 q2 => by cases y <;> first | exact q2.elim | exact fin_mono kQ q2) kE q1
    | some f => exact (ml l rfl).mo (fun y h2 q2 => by cases y <;> first | exact q2.elim | exact (mh f rfl).mo (fun z h3 q3 => by cases z <;> first | exact q3.elim | exact fin_mono kQ q3) kE q2) kE q1) kE q⟩
theorem SO.mono {eo : Option Expr} {fo : Option FE} (h : SO X T W eo fo) : ∀ f, fo = Option.some f → MonE f := by
  intro f e
  cases h with
  | none => cases e
  | some h => cases e; exact h.m
theorem e_sl {lo hi : Option Expr} {flo fhi : Option FE} (ha : SE X T W a fa) (hl : SO X T W lo flo) (hh : SO X T W hi fhi) : SE X T W (.Subscript a (.Slice lo hi none p2) p) (fSl1 fa flo fhi) := by
  refine ⟨fSl1_mono ha.m hl.mono hh.mono, ?_⟩
  cases hl with
  | none =>
    cases hh with
    | none =>
      refine PE.imp (pe_slice (sl_all (T := T)) ha.p po_none po_none) fun σ H Q q => ?_
      obtain ⟨ρ, env, h, m, hf⟩ := q
      refine ⟨ρ, env, h, m, ha.m.mo (fun x h1 q1 => ?_) (fun _ _ _ z => z) hf⟩
      intro ρ1 v H1 s1 r1
      exact ⟨ρ1, h1, x, s1.ok, r1, fin_mono (fun _ _ z => z.step s1) q1⟩
    | some hh =>
      refine PE.imp (pe_slice (sl_all (T := T)) ha.p po_none (po_some hh.p)) fun σ H Q q => ?_
      obtain ⟨ρ, env, h, m, hf⟩ := q
      refine ⟨ρ, env, h, m, ha.m.mo (fun x h1 q1 => ?_) (fun _ _ _ z => z) hf⟩
      intro ρ1 v H1 s1 r1
      refine ⟨ρ1, env, h1, m.step s1, hh.m.mo (fun y h2 q2 => ?_) (fun _ _ _ z => z.step s1) q1⟩
      intro ρ2 w H2 s2 r2
      cases r2 with
      | int i => exact ⟨i, rfl, ρ2, h2, x, s2.ok, s2.rp s1.ok r1, fin_mono (fun _ _ z => z.step (s1.trans s2)) q2⟩
      | _ => exact q2.elim
  | some hl =>
    cases hh with
    | none =>
      refine PE.imp (pe_slice (sl_all (T := T)) ha.p (po_some hl.p) po_none) fun σ H Q q => ?_
      obtain ⟨ρ, env, h, m, hf⟩ := q
      refine ⟨ρ, env, h, m, ha.m.mo (fun x h1 q1 => ?_) (fun _ _ _ z => z) hf⟩
      intro ρ1 v H1 s1 r1
      refine ⟨ρ1, env, h1, m.step s1, hl.m.mo (fun y h2 q2 => ?_) (fun _ _ _ z => z.step s1) q1⟩
      intro ρ2 w H2 s2 r2
      cases r2 with
      | int i => exact ⟨i, rfl, ρ2, h2, x, s2.ok, s2.rp s1.ok r1, fin_mono (fun _ _ z => z.step (s1.trans s2)) q2⟩
      | _ => exact q2.elim
    | some hh =>
      refine PE.imp (pe_slice (sl_all (T := T)) ha.p (po_some hl.p) (po_some hh.p)) fun σ H Q q => ?_
      obtain ⟨ρ, env, h, m, hf⟩ := q
      refine ⟨ρ, env, h, m, ha.m.mo (fun x h1 q1 => ?_) (fun _ _ _ z => z) hf⟩
      intro ρ1 v H1 s1 r1
      refine ⟨ρ1, env, h1, m.step s1, hl.m.mo (fun y h2 q2 => ?_) (fun _ _ _ z => z.step s1) q1⟩
      intro ρ2 w H2 s2 r2
      cases r2 with
      | int i =>
        refine ⟨i, rfl, ρ2, env, h2, (m.step s1).step s2, hh.m.mo (fun y h3 q3 => ?_) (fun _ _ _ z => (z.step s1).step s2) q2⟩
        intro ρ3 w H3 s3 r3
        cases r3 with
        | int j => exact ⟨j, rfl, ρ3, h3, x, s3.ok, s3.rp s2.ok (s2.rp s1.ok r1), fin_mono (fun _ _ z => z.step ((s1.trans s2).trans s3)) q3⟩
        | _ => exact q3.elim
      | _ => exact q2.elim
/-! #### built-ins -/
theorem lE_fn {G : Gd} {g : FN} (mt : MonA ft) {σ : L2.St} {H : Hp} {Q : VK} (q : lE G W (fFN g ft) σ H Q) : tCB (rOfN G g) (lA G W ft) σ H Q := by
  obtain ⟨ρ, env, h, m, hf⟩ := q
  refine ⟨ρ, env, h, m, mt.mo (fun ds h1 q1 => ?_) (fun _ _ _ z => z) hf⟩
  intro ρ1 vs H1 s1 r1
  exact ⟨ρ1, h1, ds, s1.ok, r1, fin_mono (fun _ _ z => z.step s1) q1⟩
theorem e_bi (hc : X.calm = true) (bi : Bi) (hx : Str.ofString bi.name = x) (hg : Gl X x) (hm : X.mg x = none) (ha : SA X T W (e :: es) ft) (hn : x ≠ "__name__" := by decide) (hdb : (x == ("__debug__" : Str)) = false := by decide)
    (he : starEach (e :: es) X.env = (false, eval e X.env) :: starEach es X.env := by rfl) (hpl : (backTo pos (starEach es X.env)).any (·.1) = false := by rfl) : SE X T W (.Call (.Name x p) (e :: es) [] pos) (fFN bi.g ft) := by
  refine ⟨fFN_mono ha.m, ?_⟩
  have hb := Bi.boot bi
  rw [hx] at hb
  have hcc := Bi.call (T := T) hc bi
  cases bi <;> first
    | exact PE.imp (pe_callB hcc hg hm hb ha.p hn hdb he hpl) fun _ _ _ q => lE_fn ha.m q
    | exact PE.imp (pe_callTy hcc hg hm hb ha.p hn hdb he hpl) fun _ _ _ q => lE_fn ha.m q
theorem e_mt (mt : Mt) (hx : Str.ofString mt.name = x) (ho : SE X T W o fo) (ha : SA X T W (e :: es) ft)
    (hbase : attributeBase o x X.env (eval o X.env) = eval o X.env := by rfl)
    (hfew : ((backTo pos (starEach (e :: es) X.env)).all (fun x => !x.1) && (backToKw pos (keywordEach [] X.env)).all (fun x => x.1.isSome)
      && decide ((e :: es).length + ([] : List Keyword).length + (if ([] : List Keyword).isEmpty then 0 else 1) < 30)) = true := by rfl)
    (hline : (apos.endLine == pos.line) = true := by rfl) (hs : starEach (e :: es) X.env = (false, eval e X.env) :: starEach es X.env := by rfl) (hplain : (backTo pos (starEach es X.env)).any (·.1) = false := by rfl) :
    SE X T W (.Call (.Attribute o x apos) (e :: es) [] pos) (fMt mt fo ft) := by
  subst hx
  refine ⟨fMt_mono ho.m ha.m, PE.imp (pe_bm mt.pa mt.slot mt.tyo (Mt.mr (T := T) mt) ho.p ha.p hbase hfew hline hs hplain) fun σ H Q q => ?_⟩
  obtain ⟨ρ, env, h, m, hf⟩ := q
  refine ⟨ρ, env, h, m, ho.m.mo (fun x h1 q1 => ?_) (fun _ _ _ z => z) hf⟩
  intro ρ1 v H1 s1 r1
  obtain ⟨hd, q2⟩ := chk_iff.mp q1
  refine ⟨Mt.tyV s1.ok r1 mt ?_, ρ1, env, h1, m.step s1, ha.m.mo (fun ds h2 q3 => ?_) (fun _ _ _ z => z.step s1) q2⟩
  · cases x <;> first | exact of_decide_eq_true hd | exact absurd hd Bool.false_ne_true
  · intro ρ2 vs H2 s2 r2
    exact ⟨ρ2, h2, x, ds, s2.ok, s2.rp s1.ok r1, r2, finE_mono (fun _ _ z => z.step (s1.trans s2)) q3⟩
theorem e_mt0 (mt : Mt) (hx : Str.ofString mt.name = x) (ho : SE X T W o fo)
    (hbase : attributeBase o x X.env (eval o X.env) = eval o X.env := by rfl) (hline : (apos.endLine == pos.line) = true := by rfl) :
    SE X T W (.Call (.Attribute o x apos) [] [] pos) (fMt mt fo fNil) := by
  subst hx
  refine ⟨fMt_mono ho.m fNil_mono, PE.imp (pe_bm0 mt.pa mt.slot mt.tyo (Mt.mr (T := T) mt) ho.p hbase hline) fun σ H Q q => ?_⟩
  obtain ⟨ρ, env, h, m, hf⟩ := q
  refine ⟨ρ, env, h, m, ho.m.mo (fun x h1 q1 => ?_) (fun _ _ _ z => z) hf⟩
  intro ρ1 v H1 s1 r1
  obtain ⟨hd, q2⟩ := chk_iff.mp q1
  refine ⟨Mt.tyV s1.ok r1 mt ?_, ρ1, h1, x, [], s1.ok, r1, .nil, finE_mono (fun _ _ z => z.step s1) q2⟩
  cases x <;> first | exact of_decide_eq_true hd | exact absurd hd Bool.false_ne_true
/-! #### isinstance -/
/-- names of built-in types -/
structure TyN (X : Cx) (e : Expr) (t : Ty) : Prop where
  p : PE X e (tC (.ty t.name))
theorem ty_name (t : Ty) (hx : Str.ofString t.name = x) (hb : bootBuiltins x = some (.type t.name)) (hg : Gl X x) (hm : X.mg x = none) (hn : x ≠ "__name__" := by decide) (hdb : (x == ("__debug__" : Str)) = false := by decide) : TyN X (.Name x p) t := ⟨pe_bltn hg hm hb rfl hn hdb⟩
structure TyA (X : Cx) (es : List Expr) (ts : List Ty) : Prop where
  p : PA X es (fun _ H Q => Q (ts.map fun t => V.ty t.name) H)
theorem ty_nil : TyA X [] [] := ⟨pa_nil⟩
theorem ty_cons {t : Ty} {ts : List Ty} (ha : TyN X a t) (hr : TyA X es ts) (hs : starEach (a :: es) X.env = (false, eval a X.env) :: starEach es X.env := by rfl) : TyA X (a :: es) (t :: ts) := ⟨pa_cons ha.p hr.p hs⟩
theorem e_isi {t : Ty} (hg : Gl X "isinstance") (hm : X.mg "isinstance" = none) (ha : SE X T W a fa) (hb : TyN X b t)
    (he : starEach [a, b] X.env = (false, eval a X.env) :: starEach [b] X.env := by rfl) (hb' : starEach [b] X.env = (false, eval b X.env) :: starEach [] X.env := by rfl) (hpl : (backTo pos (starEach [b] X.env)).any (·.1) = false := by rfl) : SE X T W (.Call (.Name "isinstance" p) [a, b] [] pos) (fIsi fa [t]) :=
  ⟨fIsi_mono ha.m, PE.imp (pe_callB call_isi hg hm (by decide +kernel) (pa_cons ha.p (pa_cons hb.p pa_nil hb') he) (by decide) (by decide) he hpl) fun σ H Q q => by
    obtain ⟨ρ, env, h, m, hf⟩ := q
    refine ⟨ρ, env, h, m, ha.m.mo (fun x h1 q1 => ?_) (fun _ _ _ z => z) hf⟩
    intro ρ1 v H1 s1 r1
    cases e : tyD x h1 with
    | none => rw [e] at q1; exact q1.elim
    | some u =>
      rw [e] at q1
      refine ⟨v, _, _, _, u.isa t, rfl, .ty t.name, tyD_x s1.ok r1 e, kit_ty (kit_isa u t), ?_⟩
      have : [t].any u.isa = u.isa t := by simp
      rw [← this]
      exact q1 ρ1 _ H1 s1 (.bl _)⟩
theorem paired_ty : ∀ ts : List Ty, Paired ClsV (ts.map fun t => V.ty t.name) (ts.map fun t => Value.type t.name)
  | [] => .nil
  | t :: ts => .cons (.ty t.name) (paired_ty ts)
theorem e_isiT {ts : List Ty} {x1} (hg : Gl X "isinstance") (hm : X.mg "isinstance" = none) (ha : SE X T W a fa) (hb : TyA X es ts) (hl : ts.length ≤ line)
    (he : starEach [a, .Tuple es x1 p2] X.env = (false, eval a X.env) :: starEach [.Tuple es x1 p2] X.env := by rfl) (hb' : starEach [.Tuple es x1 p2] X.env = (false, eval (.Tuple es x1 p2) X.env) :: starEach [] X.env := by rfl) (hpl : (backTo pos (starEach [.Tuple es x1 p2] X.env)).any (·.1) = false := by rfl) : SE X T W (.Call (.Name "isinstance" p) [a, .Tuple es x1 p2] [] pos) (fIsi fa ts) :=
  ⟨fIsi_mono ha.m, PE.imp (pe_callB call_isiT hg hm (by decide +kernel) (pa_cons ha.p (pa_cons (pe_tup hb.p) pa_nil hb') he) (by decide) (by decide) he hpl) fun σ H Q q => by
    obtain ⟨ρ, env, h, m, hf⟩ := q
    refine ⟨ρ, env, h, m, ha.m.mo (fun x h1 q1 => ?_) (fun _ _ _ z => z) hf⟩
    intro ρ1 v H1 s1 r1
    refine ⟨by rw [List.length_map, ← line_eq]; exact hl, fun tp htp => ?_⟩
    have s2 := Stp.new (o := .tup (ts.map fun t => V.ty t.name)) s1.ok htp
    cases e : tyD x h1 with
    | none => rw [e] at q1; exact q1.elim
    | some u =>
      rw [e] at q1
      exact ⟨v, tp, _, _, _, ts.any u.isa, rfl, upd_same, paired_ty ts, tyD_x s2.ok (s2.rp s1.ok r1) e, kitAny_isa u ts, q1 ρ1 _ _ (s1.trans s2) (.bl _)⟩⟩
end
end Ev

set_option Elab.async false
set_option linter.all false
set_option maxRecDepth 100000
/-! Ev4c: calls of defs. -/
namespace Ev
open PySem PySem.Spec PyProof.Rows L2 NdefX

def QXE (G : Gd) (ρ : Nat → Addr) (h : VH) (H : Hp) (E : XK) : PX := fun c d h' => ∀ ρ' H' C dx w, Stp G ρ h H ρ' h' H' → G.mg c = some (.ref C) → H' dx = some (.xd [("value", w)]) → Rp G H' ρ' h'.length d w → E (.ref C) (some dx) H'
/-- a promise by data, as the layer's promise -/
def spOf (G : Gd) (sp : Spec) : Sp := fun vs H Q E => ∃ ρ h ds, VOk G H ρ h ∧ TabsN G.T H ∧ RpA G H ρ h.length ds vs ∧ sp ds h (QV G ρ h H Q) (QXE G ρ h H E)
/-- the def x (its statement st, its parameters ps) keeps the promise sp, at level k -/
structure Fn (P : Program) (w : World) (K : PySem.W.Frag) (mg : Str → Option Value) (base : Heap) (T : List NTab) (x : Str) (st : Stmt) (ps : List Str) (k : Nat) (sp : Spec) : Prop where
  mo : MonSp sp
  len : ∀ ds h Q E, sp ds h Q E → ds.length = ps.length
  ex : ∃ f fd, mg x = some (.ref f) ∧ FunD K x x (defArgs st) (defBody st) (defScope st) [] [] f fd ∧ Binds K fd ps [] ∧ FnOk P w K mg base (L2.CX P w) k f fd ps (spOf ⟨K, mg, T⟩ sp)
theorem Fn.up {P : Program} {w : World} {K : PySem.W.Frag} {mg : Str → Option Value} {base : Heap} {T : List NTab} {x : Str} {st : Stmt} {ps : List Str} {j k : Nat} {sp : Spec} (F : Fn P w K mg base T x st ps j sp) (h : j ≤ k) : Fn P w K mg base T x st ps k sp :=
  ⟨F.mo, F.len, by
    obtain ⟨f, fd, h1, h2, h3, h4⟩ := F.ex
    exact ⟨f, fd, h1, h2, h3, h4.mono h⟩⟩
section
variable {X : Cx} {T : List NTab} {W : WX} {e : Expr} {es : List Expr} {ft : FA} {pos p : Pos} {x : Str} {st : Stmt} {ps : List Str} {j k : Nat} {sp : Spec}
theorem lE_call {σ : L2.St} {H : Hp} {Q : VK} (mt : MonA ft) (ms : MonSp sp) (q : lE (gd X T) W (fCall sp ft) σ H Q) : tCallS (spOf (gd X T) sp) (WE W) (lA (gd X T) W ft) σ H Q := by
  obtain ⟨ρ, env, h, m, hf⟩ := q
  refine ⟨ρ, env, h, m, mt.mo (fun ds h1 q1 => ?_) (fun _ _ _ z => z) hf⟩
  intro ρ1 vs H1 s1 r1
  exact ⟨ρ1, h1, ds, s1.ok, s1.tb m.tabs, r1, ms.mo (fun _ _ z => z.step s1) (fun _ _ _ z => QX.step (σ := σ) (W := W) s1 z) q1⟩
theorem e_call (F : Fn X.prog X.w X.K X.mg X.base T x st ps j sp) (hk : j ≤ k) (hr : Room k X.A) (tk : Takes X W) (hg : Gl X x) (ha : SA X T W (e :: es) ft) (hdb : (x == ("__debug__" : Str)) = false := by decide)
    (he : starEach (e :: es) X.env = (false, eval e X.env) :: starEach es X.env := by rfl) (hpl : (backTo pos (starEach es X.env)).any (·.1) = false := by rfl) : SE X T W (.Call (.Name x p) (e :: es) [] pos) (fCall sp ft) := by
  refine ⟨fCall_mono F.mo ha.m, ?_⟩
  obtain ⟨f, fd, hm, D, hb, ok⟩ := F.ex
  exact PE.imp (pe_callS ok (hr.mono hk) hg hm D.kp hb (fun σ => passAt tk σ) ha.p hdb he hpl) fun σ H Q q => lE_call ha.m F.mo q
theorem e_call0 (F : Fn X.prog X.w X.K X.mg X.base T x st ps j sp) (hk : j ≤ k) (hr : Room k X.A) (tk : Takes X W) (hg : Gl X x) (hdb : (x == ("__debug__" : Str)) = false := by decide) : SE X T W (.Call (.Name x p) [] [] pos) (fCall sp fNil) := by
  refine ⟨fCall_mono F.mo fNil_mono, ?_⟩
  obtain ⟨f, fd, hm, D, hb, ok⟩ := F.ex
  refine ⟨fun pins s σ H Q I h => ?_⟩
  refine wpAny_Call_Name_kw (ld_glob I hg hm ?_ hdb)
  obtain ⟨ρ, env, hh, m, hf⟩ := h
  exact PySem.W.callWith_K0 I.kIn D.kp (run_fnS (us := []) ok (hr.mono hk) hb (E := WE W) (passAt tk σ) I .nil ⟨ρ, hh, [], m.ok, m.tabs, .nil, hf⟩)
/-- keywords: as a list of expressions -/
structure SK (X : Cx) (T : List NTab) (W : WX) (kws : List Keyword) (f : FA) : Prop where
  m : MonA f
  p : PK X kws (lA (gd X T) W f)
theorem k_nil : SK X T W [] fNil := ⟨fNil_mono, ⟨fun pos pins s σ H Q I h => pk_nil.run pos pins s σ H Q I (by
  obtain ⟨ρ, env, h, m, hf⟩ := h
  exact hf ρ [] H (Stp.refl m.ok) .nil)⟩⟩
theorem k_cons {kws : List Keyword} {nm : Option Str} {kpos : Pos} {fa : FE} (ha : SE X T W e fa) (ht : SK X T W kws ft) : SK X T W (⟨nm, e, kpos⟩ :: kws) (fCons fa ft) :=
  ⟨fCons_mono ha.m ht.m, ⟨fun pos pins s σ H Q I q => (pk_cons ha.p ht.p).run pos pins s σ H Q I (by
    obtain ⟨ρ, env, h, m, hf⟩ := q
    refine ⟨ρ, env, h, m, ha.m.mo (fun d h1 q1 => ?_) (fun _ _ _ z => z) hf⟩
    intro ρ1 v H1 s1 r1
    refine ⟨ρ1, env, h1, m.step s1, ht.m.mo (fun ds h2 q2 => ?_) (fun _ _ _ z => z.step s1) q1⟩
    intro ρ2 vs H2 s2 r2
    exact q2 ρ2 _ H2 (s1.trans s2) (.cons (s2.rp s1.ok r1) r2))⟩⟩
/-- f(k = v, ..) -/
theorem e_callK0 {kws : List Keyword} {ks : List Str} (F : Fn X.prog X.w X.K X.mg X.base T x st ps j sp) (hk : j ≤ k) (hr : Room k X.A) (tk : Takes X W) (hg : Gl X x) (ha : SK X T W kws ft)
    (hb : ∀ (kV doc pm : Value) (an : Option Addr) (cdv ct : Value) (ws : List Value), ws.length = ps.length → bindArgs (PySem.W.fnOf x x (defArgs st) (defBody st) (defScope st) .none kV doc pm an cdv ct) ⟨[], ks.zip ws⟩ = pure (ps.zip ws))
    (hall : (backToKw pos (keywordEach kws X.env)).all (·.1.isSome) = true := by rfl) (hks : (backToKw pos (keywordEach kws X.env)).filterMap (·.1) = ks := by rfl)
    (hdb : (x == ("__debug__" : Str)) = false := by decide) (hpl : ((backTo pos (starEach [] X.env)).any (·.1) || (backToKw pos (keywordEach kws X.env)).any (·.1.isNone)) = false := by rfl) :
    SE X T W (.Call (.Name x p) [] kws pos) (fCall sp ft) := by
  refine ⟨fCall_mono F.mo ha.m, ?_⟩
  obtain ⟨f, fd, hm, D, _, ok⟩ := F.ex
  refine ⟨fun pins s σ H Q I h => ?_⟩
  refine wpAny_Call_Name_kw (ld_glob I hg hm ?_ hdb)
  obtain ⟨oc, od, dV, kV, doc, pm, an, cdv, ct, osl, rfl, lk, hcd, hD, hK⟩ := D.ex
  rcases hD with ⟨_, rfl⟩ | ⟨z, _⟩
  · obtain ⟨ρ, env, hh, m, hf⟩ := h
    refine PySem.W.callWith_KW0 (h₀ := X.base) I.ok.mod.kin D.kp hall (thn (ha.p.run pos pins s σ H (fun zs H1 => spOf (gd X T) sp zs H1 Q (WE W σ)) I ⟨ρ, env, hh, m, ha.m.mo (fun ds h1 q1 => ?_) (fun _ _ _ z => z) hf⟩) fun ws s1 ⟨zs, H1, I1, rz, q1⟩ => ⟨I1.kIn, ?_⟩) hpl
    · intro ρ1 vs H1 s1 r1
      exact ⟨ρ1, h1, ds, s1.ok, s1.tb m.tabs, r1, F.mo.mo (fun _ _ z => z.step s1) (fun _ _ _ z => QX.step (σ := σ) (W := W) s1 z) q1⟩
    · rw [hks]
      have hl : ws.length = ps.length := by rw [← rz.length]; exact ok.len _ _ _ _ q1
      refine wpAny_call (codeAny_mono (ok.run X.A X.stack s1 H1 ⟨[], ks.zip ws⟩ ws zs Q (WE W σ) (hr.mono hk) I1.env0 (.of_eq (hb kV doc pm an cdv ct ws hl)) rz q1) fun r s' hq => ?_)
      cases r with
      | error e => exact passAt tk σ pins H1 s1 e s' I1 hq
      | ok fl =>
        cases fl with
        | ret u => exact I1.after hq
        | next => exact False.elim hq
        | brk => exact False.elim hq
        | cont => exact False.elim hq
  · exact absurd rfl z
end
end Ev

set_option Elab.async false
set_option linter.all false
set_option maxRecDepth 100000
/-! Ev4d: x[::-1] of lists and tuples; order of tuples of ints. -/
namespace HT
open PySem PySem.Spec PyProof.Rows
section
variable {prog : Program} {w : World} {A : Around} {E : Value → Shared → Prop} {s : Shared}
theorem sliceApplied_rev {sl : Addr} {vl vu vs : Value} {n : Nat} {Q : Int × Int × Nat → Shared → Prop} (hs : s.heap.IsSliceOf sl vl vu vs) (pl : IsPart vl none) (pu : IsPart vu none) (ps : IsPart vs (some (-1)))
    (h : Q ((n : Int) - 1, -1, n) s) : wpAny (model prog w) A (Builtin.Slice.sliceApplied (.ref sl) (pure (n : Int))) Q E s := by
  obtain ⟨os, hos, hcs, hds⟩ := id hs
  unfold Builtin.Slice.sliceApplied Builtin.Slice.sliceFields
  refine wpAny_bind (wpAny_bind (wpAny_field hos hds (x := vl) rfl (wpAny_bind (wpAny_field hos hds (x := vu) rfl (wpAny_bind (wpAny_field hos hds (x := vs) rfl (wpAny_pure ?_)))))))
  refine wpAny_bind (slicePart_ ps ?_)
  show wpAny _ _ (if ((-1 : Int) == 0) = true then _ else _) _ _ s
  rw [if_neg (by decide)]
  refine wpAny_bind (slicePart_ pl (wpAny_bind (slicePart_ pu (wpAny_bind (wpAny_pure ?_)))))
  show wpAny _ _ (match Builtin.Slice.sliceAdjust none none (-1) (n : Int) with | (lo, hi) => pure (lo, (-1 : Int), Builtin.Slice.slicePlaces lo hi (-1))) _ _ s
  have e1 : Builtin.Slice.sliceAdjust none none (-1) (n : Int) = ((n : Int) - 1, -1) := by
    unfold Builtin.Slice.sliceAdjust
    simp
  rw [e1]
  show wpAny _ _ (pure ((n : Int) - 1, (-1 : Int), Builtin.Slice.slicePlaces ((n : Int) - 1) (-1) (-1))) _ _ s
  have e2 : Builtin.Slice.slicePlaces ((n : Int) - 1) (-1) (-1) = n := by
    unfold Builtin.Slice.slicePlaces
    have h1 : ¬ ((-1 : Int) > 0) := by decide
    simp only [h1, if_false, Int.neg_neg, Int.ediv_one]
    split <;> omega
  rw [e2]
  exact wpAny_pure h
theorem fm_congr {α β : Type} {f g : α → Option β} : ∀ {l : List α}, (∀ a ∈ l, f a = g a) → l.filterMap f = l.filterMap g
  | [], _ => rfl
  | a :: l, h => by
    rw [List.filterMap_cons, List.filterMap_cons, h a (List.mem_cons_self ..), fm_congr fun b hb => h b (List.mem_cons_of_mem _ hb)]
theorem pick_revL (l : List Value) : ((List.range l.length).filterMap fun (m : Nat) => l[((l.length : Int) - 1 + (m : Int) * (-1)).toNat]?) = l.reverse := by
  have e : ((List.range l.length).filterMap fun (m : Nat) => l[((l.length : Int) - 1 + (m : Int) * (-1)).toNat]?) = (List.range l.length).filterMap (some ∘ fun m => l.getD (l.length - 1 - m) .none) := by
    apply fm_congr
    intro m hm
    have := List.mem_range.mp hm
    have q : ((l.length : Int) - 1 + (m : Int) * (-1)).toNat = l.length - 1 - m := by omega
    simp only [Function.comp]
    rw [q, List.getD_eq_getElem?_getD, List.getElem?_eq_getElem (by omega)]
    rfl
  rw [e, List.filterMap_eq_map]
  apply List.ext_getElem
  · simp
  · intro i h1 h2
    have h1 : i < l.length := by simpa using h1
    simp only [List.getElem_map, List.getElem_range, List.getElem_reverse]
    rw [List.getD_eq_getElem?_getD, List.getElem?_eq_getElem (by omega)]
    rfl
theorem pick_rev (xs : Array Value) : ((List.range xs.size).filterMap fun (m : Nat) => xs[((xs.size : Int) - 1 + (m : Int) * (-1)).toNat]?).toArray = xs.toList.reverse.toArray := by
  have := pick_revL xs.toList
  congr 1
  simpa using this
theorem getItem_tuple_rev {t sl : Addr} {items : Array Value} {vl vu vs : Value} {Q : Value → Shared → Prop} (ht : IsTup s.heap t items) (hs : s.heap.IsSliceOf sl vl vu vs) (pl : IsPart vl none) (pu : IsPart vu none) (ps : IsPart vs (some (-1)))
    (h : Q (.ref s.heap.objs.size) { s with heap := s.heap.push { cls := .type "tuple", data := .seq items.toList.reverse.toArray } })
    (hsz : items.size ≤ sizeLine) : wpAny (model prog w) A (getItem (.ref t) (.ref sl)) Q E s := by
  have htake : sizeOk (.seq items.toList.reverse.toArray) := by
    show items.toList.reverse.toArray.size ≤ sizeLine
    simpa using hsz
  obtain ⟨os, hos, hcs, hds⟩ := id hs
  have hTs : s.TypeIs (.ref sl) "slice" := ⟨os, hos, hcs⟩
  unfold getItem
  try with_reducible refine wpAny_holding ?_
  first | refine wpAny_bind (wpAny_pure ?_) | skip
  refine wpAny_bind (wpAny_sequenceKey ht.typeIs (by decide) ?_)
  refine wpAny_bind (wpAny_callSpecial?_slot (name := Str.ofString "__getitem__") ht.typeIs PyProof.Rows.slot_tuple_getitem
    (wpAny_call_entry PyProof.Rows.slot_tuple_getitem ht.typeIs entry_tuple_getitem ?_ (args_tuple_getitem _ _)))
  show wpAny _ _ (Builtin.Tuple.tupleItemsOf (.ref t) >>= _) _ _ s
  refine wpAny_bind (tupleItemsOf_ ht ?_)
  refine wpAny_bind (wpAny_typeOf hTs ?_)
  rw [if_pos (by decide)]
  refine wpAny_bind (sliceApplied_rev hs pl pu ps ?_)
  have hno : ¬ (((((items.size : Nat) : Int) - 1) == 0 && (-1 : Int) == 1 && items.size == items.size) = true) := by
    rw [Bool.and_eq_true, Bool.and_eq_true]
    intro q
    exact absurd q.1.2 (by decide)
  show wpAny _ _ (if ((((items.size : Nat) : Int) - 1) == 0 && (-1 : Int) == 1 && items.size == items.size) = true then _ else _) _ _ s
  rw [if_neg hno, pick_rev]
  first
    | exact wpAny_bind (m := Builtin.Tuple.tupleExact _) (wpAny_newObj_type (wpAny_pure ⟨_, rfl, wpAny_pure h⟩) htake)
    | exact wpAny_bind (m := Builtin.Tuple.tupleExact _) (wpAny_newObj_type (wpAny_bind (wpAny_pure (wpAny_pure ⟨_, rfl, wpAny_pure h⟩))) htake)
    | exact wpAny_bind (wpAny_bind (m := Builtin.Tuple.tupleExact _) (wpAny_newObj_type (wpAny_pure (wpAny_pure ⟨_, rfl, wpAny_pure h⟩)) htake))
    | exact wpAny_bind (wpAny_bind (m := Builtin.Tuple.tupleExact _) (wpAny_newObj_type (wpAny_pure ⟨_, rfl, wpAny_pure h⟩) htake))
end
end HT

namespace Ev
open PySem PySem.Spec PyProof.Rows L2 NdefX
def fRev (fx : FE) : FE := fun env h Q E => fx env h (fun x h1 => match x with
  | .tup ds => Q (.tup ds.reverse) h1
  | .ref k => match lstAt h1 k with
    | some ds => Q (.ref h1.length) (h1 ++ [.lst ds.reverse])
    | none => False
  | _ => False) E
theorem fRev_mono {fx : FE} (mx : MonE fx) : MonE (fRev fx) := ⟨fun kQ kE q => mx.mo (fun x h1 q1 => by
  cases x with
  | tup ds => exact kQ _ _ q1
  | ref k =>
    revert q1
    show (match lstAt h1 k with | some ds => _ | none => False) → (match lstAt h1 k with | some ds => _ | none => False)
    cases lstAt h1 k with
    | none => exact id
    | some ds => exact kQ _ _
  | _ => exact q1) kE q⟩
section
variable {X : Cx} {T : List NTab} {W : WX} {a : Expr} {fa : FE}
theorem e_rev {k : Nat} {p1 p2 p3 pos : Pos} (ha : SE X T W a fa) : SE X T W (.Subscript a (.Slice none none (some (.UnaryOp .USub (.Constant (.int 1) k p1) p2)) p3) pos) (fRev fa) := by
  refine ⟨fRev_mono ha.m, ⟨fun pins s σ H Q I hh => ?_⟩⟩
  obtain ⟨ρ, env, h, m, hf⟩ := hh
  refine Subscript_ (thn (ha.p.run pins s σ H (fun v H1 => ∃ ρ1 x h1, VOk (gd X T) H1 ρ1 h1 ∧ Rp (gd X T) H1 ρ1 h1.length x v ∧ (match x with
    | .tup ds => QV (gd X T) ρ1 h1 H1 Q (.tup ds.reverse) h1
    | .ref k => match lstAt h1 k with
      | some ds => QV (gd X T) ρ1 h1 H1 Q (.ref h1.length) (h1 ++ [.lst ds.reverse])
      | none => False
    | _ => False)) I ⟨ρ, env, h, m, ha.m.mo (fun x h1 q1 => ?_) (fun _ _ _ z => z) hf⟩) fun v s1 ⟨x, H1, I1, r1, ρ1, d, h1, ok, rd, q1⟩ => ?_)
  · intro ρ1 v H1 s1 r1
    refine ⟨ρ1, x, h1, s1.ok, r1, ?_⟩
    cases x with
    | tup ds => exact QV.step s1 q1
    | ref k =>
      revert q1
      show (match lstAt h1 k with | some ds => _ | none => False) → (match lstAt h1 k with | some ds => _ | none => False)
      cases lstAt h1 k with
      | none => exact id
      | some ds => exact QV.step s1
    | _ => exact q1
  have hst : PO X (some (.UnaryOp .USub (.Constant (.int 1) k p1) p2)) (tPart (tUn (rU fun i => .int (-i)) (tC (.int 1)))) := po_some (pe_un un_neg pe_int)
  refine wpAny_Slice (thn (po_none.run pins s1 σ H1 (fun o H2 => o = none ∧ H2 = H1) I1 ⟨rfl, rfl⟩) fun vl s2 ⟨l, H2, I2, pl, el, e2⟩ => ?_)
  subst el e2
  refine thn (po_none.run pins s2 σ H2 (fun o H3 => o = none ∧ H3 = H2) I2 ⟨rfl, rfl⟩) fun vu s3 ⟨u, H3, I3, pu, eu, e3⟩ => ?_
  subst eu e3
  refine thn (hst.run pins s3 σ H3 (fun o H4 => o = some (-1) ∧ H4 = H3) I3 ⟨1, rfl, -1, rfl, rfl, rfl⟩) fun vs s4 ⟨o, H4, I4, ps, eo, e4⟩ => ?_
  subst eo e4
  have I5 : Inv X pins σ H4 { s4 with heap := s4.heap.push { cls := .type "slice", data := .fields #[vl, vu, vs] } } := I4.kept (t' := s4.toks) fun b ob q => Heap.get?_push_of_some _ q
  cases rd with
  | @tup a xs ds hx t =>
    cases r1
    obtain ⟨its, r, ht, hz⟩ := I5.tuple hx
    have hlen := r.length
    show wpAny (model X.prog X.w) X.A (subscriptTail _ (.Slice none none (some (.UnaryOp .USub (.Constant (.int 1) k p1) p2)) p3) (.ref a) (.ref s4.heap.objs.size)) (EP X pins σ Q) X.xe { s4 with heap := s4.heap.push { cls := .type "slice", data := .fields #[vl, vu, vs] } }
    refine tail_any (ops := [.ref a, .ref s4.heap.objs.size]) ht.typeIs PyProof.Rows.slot_tuple_getitem.lookup ?_ (by with_unfolding_all rfl)
    refine HT.getItem_tuple_rev ht (Heap.IsSliceOf.new _ vl vu vs) pl pu ps ?_ (by rw [List.size_toArray]; omega)
    refine ⟨.ref _, _, I5.laid (t' := s4.toks) (o := .tup xs.reverse) (fun b ob q => Heap.get?_push_of_some _ q) (Nat.le_refl _) ?_, rfl, fin_tup ok t.reverse q1 _ (I5.hok.fresh (Nat.le_refl _))⟩
    exact ⟨by rw [List.length_reverse]; exact hz, _, r.reverse, ⟨_, Heap.get?_push_size _ rfl, rfl, 0, rfl⟩⟩
  | @ref n hk =>
    cases r1
    cases e : lstAt h1 n with
    | none => simp only [e] at q1
    | some ds =>
      simp only [e] at q1
      obtain ⟨xs, e1, t, _⟩ := ok.lst e
      obtain ⟨its, r, ht, hz⟩ := I5.list (SqL.of e1)
      have hlen := r.length
      show wpAny (model X.prog X.w) X.A (subscriptTail _ (.Slice none none (some (.UnaryOp .USub (.Constant (.int 1) k p1) p2)) p3) (.ref (ρ1 n)) (.ref s4.heap.objs.size)) (EP X pins σ Q) X.xe { s4 with heap := s4.heap.push { cls := .type "slice", data := .fields #[vl, vu, vs] } }
      refine tail_any (ops := [.ref (ρ1 n), .ref s4.heap.objs.size]) ht.isList.typeIs (PySem.slot_list_getitem.lookup) ?_ (by with_unfolding_all rfl)
      refine wpAny_getItem_list_slice ht.isList (Heap.IsSliceOf.new _ vl vu vs) pl pu ps (by decide) ?_ (by rw [List.size_toArray]; omega)
      rw [PySem.W.krv_pick]
      refine ⟨.ref _, _, I5.laid (t' := s4.toks) (o := .lst xs.reverse) (fun b ob q => Heap.get?_push_of_some _ q) (Nat.le_refl _) ?_, rfl, fin_new ok t.reverse q1 _ (I5.hok.fresh (Nat.le_refl _))⟩
      exact ⟨by rw [List.length_reverse]; exact hz, _, 0, r.reverse, Heap.get?_push_size _ rfl⟩
  | _ => exact q1.elim
end
end Ev

set_option Elab.async false
set_option linter.all false
set_option maxRecDepth 100000
/-! Ev4e: targets, iterators, comprehensions. -/
namespace Ev
open PySem PySem.Spec PyProof.Rows L2 NdefX RZ RT

mutual
inductive Tg where
  | nm (i : Nat)
  | tp (ts : TgL)
inductive TgL where
  | nil
  | cons (t : Tg) (ts : TgL)
end
mutual
def Tg.slots : Tg → List Nat
  | .nm i => [i]
  | .tp ts => ts.slots
def TgL.slots : TgL → List Nat
  | .nil => []
  | .cons t ts => t.slots ++ ts.slots
end
def TgL.len : TgL → Nat
  | .nil => 0
  | .cons _ ts => ts.len + 1
mutual
def asgT : Tg → D → VH → Env → Option Env
  | .nm i, d, _, env => some (env.set i (some d))
  | .tp ts, d, h, env => match d with
    | .tup ds => asgL ts ds h env
    | .ref k => match lstAt h k with
      | some ds => asgL ts ds h env
      | none => none
    | _ => none
def asgL : TgL → List D → VH → Env → Option Env
  | .nil, ds, _, env => match ds with
    | [] => some env
    | _ => none
  | .cons t ts, ds, h, env => match ds with
    | [] => none
    | d :: ds => match asgT t d h env with
      | some e => asgL ts ds h e
      | none => none
end
theorem asgL_len : ∀ {ts : TgL} {ds : List D} {h : VH} {env env' : Env}, asgL ts ds h env = some env' → ds.length = ts.len
  | .nil, ds, h, env, env', e => by
    cases ds with
    | nil => rfl
    | cons d ds => simp [asgL] at e
  | .cons t ts, [], h, env, env', e => by simp [asgL] at e
  | .cons t ts, d :: ds, h, env, env', e => by
    simp only [asgL] at e
    cases q : asgT t d h env with
    | none => rw [q] at e; cases e
    | some e1 =>
      rw [q] at e
      simp only [TgL.len, List.length_cons, asgL_len e]
def WipeOk (sl : List Nat) (σ σ' : L2.St) : Prop := ∀ vs : List Nat, (∀ i ∈ sl, i ∈ vs) → wipe σ' vs = wipe σ vs
def lG (G : Gd) (t : Tg) : TG := fun v σ H Q => ∃ ρ env h d env', M G ρ env h σ H ∧ Rp G H ρ h.length d v ∧ asgT t d h env = some env' ∧ ∀ σ', M G ρ env' h σ' H → WipeOk t.slots σ σ' → Q σ' H
def lGs (G : Gd) (ts : TgL) : TGs := fun vs σ H Q => ∃ ρ env h ds env', M G ρ env h σ H ∧ RpA G H ρ h.length ds vs ∧ asgL ts ds h env = some env' ∧ ∀ σ', M G ρ env' h σ' H → WipeOk ts.slots σ σ' → Q σ' H
structure SG (X : Cx) (T : List NTab) (tg : Expr) (t : Tg) : Prop where
  p : PG X tg (lG (gd X T) t)
structure SGs (X : Cx) (T : List NTab) (tg : List Expr) (t : TgL) : Prop where
  p : PGs X tg (lGs (gd X T) t)
theorem PG.imp {X : Cx} {e : Expr} {t t' : TG} (h : PG X e t) (k : ∀ v σ H Q, t' v σ H Q → t v σ H Q) : PG X e t' := ⟨fun pins s σ H v u Q I r q => h.run pins s σ H v u Q I r (k v σ H Q q)⟩
theorem PG.or {X : Cx} {e : Expr} {t t' : TG} (h : PG X e t) (h' : PG X e t') : PG X e (fun v σ H Q => t v σ H Q ∨ t' v σ H Q) := ⟨fun pins s σ H v u Q I r q => by
  rcases q with q | q
  · exact h.run pins s σ H v u Q I r q
  · exact h'.run pins s σ H v u Q I r q⟩
theorem PGs.imp {X : Cx} {e : List Expr} {t t' : TGs} (h : PGs X e t) (k : ∀ v σ H Q, t' v σ H Q → t v σ H Q) : PGs X e t' := ⟨fun pins s σ H v u Q I r q => h.run pins s σ H v u Q I r (k v σ H Q q)⟩
theorem set_wipe {σ : L2.St} {i : Nat} {v : Option V} : ∀ {vs : List Nat}, i ∈ vs → wipe (σ.set i v) vs = wipe σ vs
  | [], h => by simp at h
  | w :: vs, h => by
    show (wipe (σ.set i v) vs).set w none = (wipe σ vs).set w none
    by_cases hi : i ∈ vs
    · rw [set_wipe hi]
    · have e : i = w := by
        rcases List.mem_cons.mp h with h | h
        · exact h
        · exact absurd h hi
      subst e
      have comm : ∀ vs : List Nat, i ∉ vs → wipe (σ.set i v) vs = (wipe σ vs).set i v := by
        intro vs
        induction vs with
        | nil => intro _; rfl
        | cons w vs ih =>
          intro hn
          have h1 : i ≠ w := fun z => hn (z ▸ List.mem_cons_self ..)
          have h2 : i ∉ vs := fun z => hn (List.mem_cons_of_mem _ z)
          show (wipe (σ.set i v) vs).set w none = ((wipe σ vs).set w none).set i v
          rw [ih h2, List.set_comm _ _ h1]
      rw [comm vs hi, List.set_set]
theorem WipeOk.set {i : Nat} {σ : L2.St} {v : Option V} : WipeOk [i] σ (σ.set i v) := fun vs h => set_wipe (h i (by simp))
theorem WipeOk.trans {a b : List Nat} {σ σ1 σ2 : L2.St} (h1 : WipeOk a σ σ1) (h2 : WipeOk b σ1 σ2) : WipeOk (a ++ b) σ σ2 := fun vs h => (h2 vs fun i hi => h i (by simp [hi])).trans (h1 vs fun i hi => h i (by simp [hi]))
section
variable {X : Cx} {T : List NTab} {W : WX} {e a b : Expr} {es : List Expr} {fa fb fe : FE} {ft : FA} {pos p : Pos} {x : Str} {t : Tg} {ts : TgL}
theorem g_nm {i : Nat} (hN : X.N.Nodup) (hi : X.N[i]? = some x) (hx : Loc X.env.scope x) (hf : X.fn x = true ∨ X.env.scope.names.lookup x = some .local := by first | exact .inl rfl | exact .inr rfl | assumption) : SG X T (.Name x p) (.nm i) :=
  ⟨PG.imp (pg_name hN hi hx hf) fun v σ H Q q => by
    obtain ⟨ρ, env, h, d, env', m, r, ea, k⟩ := q
    cases ea
    exact k _ (m.set i r) WipeOk.set⟩
theorem gs_nil : SGs X T [] .nil := ⟨PGs.imp pgs_nil fun vs σ H Q q => by
  obtain ⟨ρ, env, h, ds, env', m, r, ea, k⟩ := q
  cases ds with
  | nil =>
    cases r
    cases ea
    exact ⟨rfl, k σ m fun _ _ => rfl⟩
  | cons d ds => simp [asgL] at ea⟩
theorem gs_cons (h1 : SG X T e t) (h2 : SGs X T es ts) (hs : (assignEach (e :: es) X.env).map (·.2) = assign e X.env :: (assignEach es X.env).map (·.2) := by rfl) : SGs X T (e :: es) (.cons t ts) :=
  ⟨PGs.imp (pgs_cons h1.p h2.p hs) fun vs σ H Q q => by
    obtain ⟨ρ, env, h, ds, env', m, r, ea, k⟩ := q
    cases ds with
    | nil => simp [asgL] at ea
    | cons d ds =>
      simp only [asgL] at ea
      cases q : asgT t d h env with
      | none => rw [q] at ea; cases ea
      | some e1 =>
        rw [q] at ea
        cases r with
        | cons r1 r2 =>
          refine ⟨_, _, rfl, ρ, env, h, d, e1, m, r1, q, fun σ1 m1 w1 => ?_⟩
          exact ⟨ρ, e1, h, ds, env', m1, r2, ea, fun σ2 m2 w2 => k σ2 m2 (w1.trans w2)⟩⟩
theorem g_tp {k : Nat} (hc : X.calm = true) (h : SGs X T es ts) (hn : (assignEach es X.env).length = ts.len := by rfl) (hst : (assignEach es X.env).findIdx? (·.1) = none := by rfl) : SG X T (.Tuple es k p) (.tp ts) :=
  ⟨PG.imp (PG.or (pg_tup hc h.p hn hst) (pg_lst hc h.p hn hst)) fun v σ H Q q => by
    obtain ⟨ρ, env, h, d, env', m, r, ea, k⟩ := q
    cases r with
    | @tup a xs ds hq t1 =>
      have hl := asgL_len (ts := ts) (ds := ds) (env := env) (env' := env') (h := h) ea
      exact .inl ⟨a, xs, rfl, hq, by rw [← t1.length]; exact hl, ρ, env, h, ds, env', m, t1, ea, k⟩
    | @ref n hk =>
      simp only [asgT] at ea
      cases q : lstAt h n with
      | none => rw [q] at ea; cases ea
      | some ds =>
        rw [q] at ea
        obtain ⟨xs, e1, t1, _⟩ := m.ok.lst q
        have hl := asgL_len ea
        exact .inr ⟨ρ n, xs, rfl, .of e1, by rw [← t1.length]; exact hl, ρ, env, h, ds, env', m, t1, ea, k⟩
    | _ => simp [asgT] at ea⟩

/-! ### iterators -/
abbrev ItF := Nat → VH → Option (Option D)
structure ItR (G : Gd) (ρ : Nat → Addr) (h : VH) (H : Hp) (J : It) (f : ItF) : Prop where
  stop : ∀ i ρ' h' H', Stp G ρ h H ρ' h' H' → f i h' = some none → J.stop i H'
  go : ∀ i ρ' h' H' d, Stp G ρ h H ρ' h' H' → f i h' = some (some d) → J.go i H'
  yld : ∀ i ρ' h' H' d x H'', Stp G ρ h H ρ' h' H' → f i h' = some (some d) → J.yld i H' x H'' → ∃ ρ'', Stp G ρ' h' H' ρ'' h' H'' ∧ Rp G H'' ρ'' h'.length d x
theorem ItR.step {G : Gd} {ρ ρ1 : Nat → Addr} {h h1 : VH} {H H1 : Hp} {J : It} {f : ItF} (r : ItR G ρ h H J f) (s : Stp G ρ h H ρ1 h1 H1) : ItR G ρ1 h1 H1 J f :=
  ⟨fun i ρ' h' H' s' => r.stop i ρ' h' H' (s.trans s'), fun i ρ' h' H' d s' => r.go i ρ' h' H' d (s.trans s'), fun i ρ' h' H' d x H'' s' => r.yld i ρ' h' H' d x H'' (s.trans s')⟩
abbrev FI := Env → VH → (ItF → VH → Prop) → PX → Prop
structure MonI (f : FI) : Prop where
  mo : ∀ {env : Env} {h : VH} {Q Q' : ItF → VH → Prop} {E E' : PX}, (∀ d h, Q d h → Q' d h) → (∀ c d h, E c d h → E' c d h) → f env h Q E → f env h Q' E'
def QI (G : Gd) (ρ : Nat → Addr) (h : VH) (H : Hp) (R : It → Hp → Prop) : ItF → VH → Prop := fun f h1 => ∀ ρ1 J H1, Stp G ρ h H ρ1 h1 H1 → ItR G ρ1 h1 H1 J f → R J H1
def lI (G : Gd) (W : WX) (f : FI) : TI := fun σ H R => ∃ ρ env h, M G ρ env h σ H ∧ f env h (QI G ρ h H R) (QX G ρ h H W σ)
structure SI (X : Cx) (T : List NTab) (W : WX) (tg it : Expr) (f : FI) : Prop where
  m : MonI f
  p : PI X tg it (lI (gd X T) W f)
theorem PI.imp {X : Cx} {tg e : Expr} {t t' : TI} (h : PI X tg e t) (k : ∀ σ H R, t' σ H R → t σ H R) : PI X tg e t' := ⟨fun pins s σ H R I q => h.run pins s σ H R I (k σ H R q)⟩
def itTup (ds : List D) : ItF := fun i _ => some ds[i]?
def itLst (k : Nat) : ItF := fun i h => (lstAt h k).map (·[i]?)
def itStr (s : Str) : ItF := fun i _ => some (s.cps[i]?.map fun c => .str ⟨#[c]⟩)
def itRng (lo : Int) (n : Nat) (c : Int) : ItF := fun i _ => if i < n then some (some (.int (lo + (i : Nat) * c))) else some none
def itZip (f g : ItF) : ItF := fun i h => match f i h, g i h with
  | some none, some _ => some none
  | some _, some none => some none
  | some (some a), some (some b) => some (some (.tup [a, b]))
  | _, _ => none
def fSeq (fe : FE) : FI := fun env h R E => fe env h (fun x h1 => match x with
  | .tup ds => R (itTup ds) h1
  | .ref k => chk (lstAt h1 k).isSome (R (itLst k) h1)
  | .str s => R (itStr s) h1
  | _ => False) E
theorem fSeq_mono {fe : FE} (m : MonE fe) : MonI (fSeq fe) := ⟨fun kQ kE q => m.mo (fun x h1 q1 => by
  cases x with
  | tup ds => exact kQ _ _ q1
  | ref k => exact chk_mono (kQ _ _) q1
  | str s => exact kQ _ _ q1
  | _ => exact q1) kE q⟩
section
variable {G : Gd} {ρ : Nat → Addr} {h : VH} {H : Hp}
theorem lstAt_len {h : VH} {k : Nat} {ds : List D} (e : lstAt h k = some ds) : k < h.length := by
  unfold lstAt at e
  cases q : h[k]? with
  | none => rw [q] at e; cases e
  | some o => exact (List.getElem?_eq_some_iff.mp q).1
theorem itr_tup {a : Addr} {xs : List V} {ds : List D} (ok : VOk G H ρ h) (hq : SqT G.K H a xs) (t : RpA G H ρ h.length ds xs) : ItR G ρ h H (Itt G.K a) (itTup ds) where
  stop := fun i ρ' h' H' s e => ⟨xs, (s.kp ok).sqT hq, by
    have e : ds[i]? = none := Option.some.inj e
    rw [← t.length]; exact List.getElem?_eq_none_iff.mp e⟩
  go := fun i ρ' h' H' d s e => by
    obtain ⟨v, e1, r⟩ := t.get (Option.some.inj e)
    exact ⟨xs, v, (s.kp ok).sqT hq, e1⟩
  yld := fun i ρ' h' H' d x H'' s e hy => by
    obtain ⟨v, e1, r⟩ := t.get (Option.some.inj e)
    obtain ⟨rfl, hx⟩ := hy
    have e2 := hx xs ((s.kp ok).sqT hq)
    rw [e1] at e2
    cases e2
    exact ⟨ρ', Stp.refl s.ok, s.rp ok r⟩
theorem itr_lst {k : Nat} (ok : VOk G H ρ h) (hk : k < h.length) : ItR G ρ h H (Itl G.K (ρ k)) (itLst k) where
  stop := fun i ρ' h' H' s e => by
    unfold itLst at e
    cases q : lstAt h' k with
    | none => rw [q] at e; cases e
    | some ds =>
      rw [q] at e
      obtain ⟨xs, e1, t, _⟩ := s.ok.lst q
      rw [s.agr k hk] at e1
      refine ⟨xs, .of e1, ?_⟩
      have e : ds[i]? = none := Option.some.inj e
      rw [← t.length]; exact List.getElem?_eq_none_iff.mp e
  go := fun i ρ' h' H' d s e => by
    unfold itLst at e
    cases q : lstAt h' k with
    | none => rw [q] at e; cases e
    | some ds =>
      rw [q] at e
      obtain ⟨xs, e1, t, _⟩ := s.ok.lst q
      rw [s.agr k hk] at e1
      obtain ⟨v, e2, r⟩ := t.get (Option.some.inj e)
      exact ⟨xs, v, .of e1, e2⟩
  yld := fun i ρ' h' H' d x H'' s e hy => by
    unfold itLst at e
    cases q : lstAt h' k with
    | none => rw [q] at e; cases e
    | some ds =>
      rw [q] at e
      obtain ⟨xs, e1, t, _⟩ := s.ok.lst q
      rw [s.agr k hk] at e1
      obtain ⟨v, e2, r⟩ := t.get (Option.some.inj e)
      obtain ⟨rfl, hx⟩ := hy
      have e3 := hx xs (.of e1)
      rw [e2] at e3
      cases e3
      exact ⟨ρ', Stp.refl s.ok, r⟩
theorem itr_str {x : Str} : ItR G ρ h H (Its x) (itStr x) where
  stop := fun i ρ' h' H' s e => by
    have e : (x.cps[i]?.map fun c => D.str ⟨#[c]⟩) = none := Option.some.inj e
    rw [Option.map_eq_none_iff] at e
    show x.cps.size ≤ i
    simpa using e
  go := fun i ρ' h' H' d s e => by
    have e : (x.cps[i]?.map fun c => D.str ⟨#[c]⟩) = some d := Option.some.inj e
    rw [Option.map_eq_some_iff] at e
    obtain ⟨c, e, _⟩ := e
    exact (Array.getElem?_eq_some_iff.mp e).1
  yld := fun i ρ' h' H' d y H'' s e hy => by
    have e : (x.cps[i]?.map fun c => D.str ⟨#[c]⟩) = some d := Option.some.inj e
    rw [Option.map_eq_some_iff] at e
    obtain ⟨c, ec, rfl⟩ := e
    obtain ⟨rfl, c', e', rfl⟩ := hy
    rw [ec] at e'
    cases e'
    exact ⟨ρ', Stp.refl s.ok, .str _⟩
theorem itr_rng {lo c : Int} {n : Nat} : ItR G ρ h H (Itc lo c n) (itRng lo n c) where
  stop := fun i ρ' h' H' s e => by
    unfold itRng at e
    split at e
    · cases e
    · rename_i hn; exact Nat.not_lt.mp hn
  go := fun i ρ' h' H' d s e => by
    unfold itRng at e
    split at e
    · rename_i hn; exact hn
    · cases e
  yld := fun i ρ' h' H' d y H'' s e hy => by
    unfold itRng at e
    split at e
    · cases e
      obtain ⟨rfl, rfl⟩ := hy
      exact ⟨ρ', Stp.refl s.ok, .int _⟩
    · cases e
theorem itr_rng1 {lo : Int} {n : Nat} : ItR G ρ h H (Itr lo n) (itRng lo n 1) where
  stop := fun i ρ' h' H' s e => by
    unfold itRng at e
    split at e
    · cases e
    · rename_i hn; exact Nat.not_lt.mp hn
  go := fun i ρ' h' H' d s e => by
    unfold itRng at e
    split at e
    · rename_i hn; exact hn
    · cases e
  yld := fun i ρ' h' H' d y H'' s e hy => by
    unfold itRng at e
    split at e
    · cases e
      obtain ⟨rfl, rfl⟩ := hy
      rw [Int.mul_one]
      exact ⟨ρ', Stp.refl s.ok, .int _⟩
    · cases e
theorem itr_zipT {a b : Addr} {xs ys : List V} {ds es : List D} (ok : VOk G H ρ h) (hq : SqT G.K H a xs) (t : RpA G H ρ h.length ds xs) (hq2 : SqT G.K H b ys) (t2 : RpA G H ρ h.length es ys) : ItR G ρ h H (ItzT G.K a b) (itZip (itTup ds) (itTup es)) where
  stop := fun i ρ' h' H' s e => by
    refine ⟨xs, ys, (s.kp ok).sqT hq, (s.kp ok).sqT hq2, ?_⟩
    rw [← t.length, ← t2.length]
    unfold itZip itTup at e
    cases q1 : ds[i]? with
    | none => exact .inl (List.getElem?_eq_none_iff.mp q1)
    | some d =>
      cases q2 : es[i]? with
      | none => exact .inr (List.getElem?_eq_none_iff.mp q2)
      | some d => simp only [q1, q2] at e; cases e
  go := fun i ρ' h' H' d s e => by
    unfold itZip itTup at e
    cases q1 : ds[i]? with
    | none => cases q2 : es[i]? <;> simp only [q1, q2] at e <;> cases e
    | some d1 =>
      cases q2 : es[i]? with
      | none => simp only [q1, q2] at e; cases e
      | some d2 =>
        obtain ⟨v, e1, r⟩ := t.get q1
        obtain ⟨w, e2, r2⟩ := t2.get q2
        exact ⟨xs, ys, v, w, (s.kp ok).sqT hq, (s.kp ok).sqT hq2, e1, e2⟩
  yld := fun i ρ' h' H' d x H'' s e hy => by
    unfold itZip itTup at e
    cases q1 : ds[i]? with
    | none => cases q2 : es[i]? <;> simp only [q1, q2] at e <;> cases e
    | some d1 =>
      cases q2 : es[i]? with
      | none => simp only [q1, q2] at e; cases e
      | some d2 =>
        simp only [q1, q2] at e
        cases e
        obtain ⟨v, e1, r⟩ := t.get q1
        obtain ⟨w, e2, r2⟩ := t2.get q2
        obtain ⟨T, x1, y1, rfl, hT, rfl, hx, hy⟩ := hy
        have z1 := hx xs ((s.kp ok).sqT hq)
        have z2 := hy ys ((s.kp ok).sqT hq2)
        rw [e1] at z1
        rw [e2] at z2
        cases z1
        cases z2
        have s2 := Stp.new (o := .tup [v, w]) s.ok hT
        exact ⟨ρ', s2, .tup (.of upd_same) (.cons (s2.rp s.ok (s.rp ok r)) (.cons (s2.rp s.ok (s.rp ok r2)) .nil))⟩
theorem itr_zipL {k l : Nat} (ok : VOk G H ρ h) (hk : k < h.length) (hl : l < h.length) : ItR G ρ h H (Itz G.K (ρ k) (ρ l)) (itZip (itLst k) (itLst l)) where
  stop := fun i ρ' h' H' s e => by
    unfold itZip itLst at e
    cases q1 : lstAt h' k with
    | none => simp only [q1, Option.map_none] at e; cases e
    | some ds =>
      cases q2 : lstAt h' l with
      | none => simp only [q1, q2, Option.map_none, Option.map_some] at e; cases z : ds[i]? <;> simp only [z] at e <;> cases e
      | some es =>
        obtain ⟨xs, e1, t, _⟩ := s.ok.lst q1
        obtain ⟨ys, e2, t2, _⟩ := s.ok.lst q2
        rw [s.agr k hk] at e1
        rw [s.agr l hl] at e2
        refine ⟨xs, ys, .of e1, .of e2, ?_⟩
        rw [← t.length, ← t2.length]
        simp only [q1, q2, Option.map_some] at e
        cases z1 : ds[i]? with
        | none => exact .inl (List.getElem?_eq_none_iff.mp z1)
        | some d =>
          cases z2 : es[i]? with
          | none => exact .inr (List.getElem?_eq_none_iff.mp z2)
          | some d => simp only [z1, z2] at e; cases e
  go := fun i ρ' h' H' d s e => by
    unfold itZip itLst at e
    cases q1 : lstAt h' k with
    | none => simp only [q1, Option.map_none] at e; cases e
    | some ds =>
      cases q2 : lstAt h' l with
      | none => simp only [q1, q2, Option.map_none, Option.map_some] at e; cases z : ds[i]? <;> simp only [z] at e <;> cases e
      | some es =>
        obtain ⟨xs, e1, t, _⟩ := s.ok.lst q1
        obtain ⟨ys, e2, t2, _⟩ := s.ok.lst q2
        rw [s.agr k hk] at e1
        rw [s.agr l hl] at e2
        simp only [q1, q2, Option.map_some] at e
        cases z1 : ds[i]? with
        | none => cases z2 : es[i]? <;> simp only [z1, z2] at e <;> cases e
        | some d1 =>
          cases z2 : es[i]? with
          | none => simp only [z1, z2] at e; cases e
          | some d2 =>
            obtain ⟨v, w1, r⟩ := t.get z1
            obtain ⟨w, w2, r2⟩ := t2.get z2
            exact ⟨xs, ys, v, w, .of e1, .of e2, w1, w2⟩
  yld := fun i ρ' h' H' d x H'' s e hy => by
    unfold itZip itLst at e
    cases q1 : lstAt h' k with
    | none => simp only [q1, Option.map_none] at e; cases e
    | some ds =>
      cases q2 : lstAt h' l with
      | none => simp only [q1, q2, Option.map_none, Option.map_some] at e; cases z : ds[i]? <;> simp only [z] at e <;> cases e
      | some es =>
        obtain ⟨xs, e1, t, _⟩ := s.ok.lst q1
        obtain ⟨ys, e2, t2, _⟩ := s.ok.lst q2
        rw [s.agr k hk] at e1
        rw [s.agr l hl] at e2
        simp only [q1, q2, Option.map_some] at e
        cases z1 : ds[i]? with
        | none => cases z2 : es[i]? <;> simp only [z1, z2] at e <;> cases e
        | some d1 =>
          cases z2 : es[i]? with
          | none => simp only [z1, z2] at e; cases e
          | some d2 =>
            simp only [z1, z2] at e
            cases e
            obtain ⟨v, w1, r⟩ := t.get z1
            obtain ⟨w, w2, r2⟩ := t2.get z2
            obtain ⟨T, x1, y1, rfl, hT, rfl, hx, hy⟩ := hy
            have y1 := hx xs (.of e1)
            have y2 := hy ys (.of e2)
            rw [w1] at y1
            rw [w2] at y2
            cases y1
            cases y2
            have s2 := Stp.new (o := .tup [v, w]) s.ok hT
            exact ⟨ρ', s2, .tup (.of upd_same) (.cons (s2.rp s.ok r) (.cons (s2.rp s.ok r2) .nil))⟩
end
theorem i_seq {tg : Expr} (ha : SE X T W a fa) : SI X T W tg a (fSeq fa) := by
  refine ⟨fSeq_mono ha.m, ⟨fun pins s σ H R I hh => ?_⟩⟩
  obtain ⟨ρ, env, h, m, hf⟩ := hh
  refine thn (ha.p.run pins s σ H (fun v H1 => (∃ a xs, v = .ref a ∧ SqL X.K H1 a xs ∧ R (Itl X.K a) H1) ∨ (∃ a xs, v = .ref a ∧ SqT X.K H1 a xs ∧ R (Itt X.K a) H1) ∨ ∃ x, v = .str x ∧ R (Its x) H1) I ⟨ρ, env, h, m, ha.m.mo (fun x h1 q1 => ?_) (fun _ _ _ z => z) hf⟩) fun v s1 ⟨y, H1, I1, r1, q⟩ => ?_
  · intro ρ1 v H1 s1 r1
    cases r1 with
    | tup hq t => exact .inr (.inl ⟨_, _, rfl, hq, q1 ρ1 _ H1 s1 (itr_tup s1.ok hq t)⟩)
    | @ref k hk =>
      obtain ⟨q2, q3⟩ := chk_iff.mp q1
      obtain ⟨ds, e⟩ := Option.isSome_iff_exists.mp q2
      obtain ⟨xs, e1, _, _⟩ := s1.ok.lst e
      exact .inl ⟨_, xs, rfl, .of e1, q3 ρ1 _ H1 s1 (itr_lst s1.ok hk)⟩
    | str x => exact .inr (.inr ⟨x, rfl, q1 ρ1 _ H1 s1 itr_str⟩)
    | _ => exact q1.elim
  · rcases q with ⟨a, xs, e, hq, q⟩ | ⟨a, xs, e, hq, q⟩ | ⟨x, ex, q⟩
    · subst e
      cases r1
      obtain ⟨its, rv, p, hz⟩ := I1.list hq
      refine wpAny_pyIter_list p.isList ?_
      refine ⟨s1.heap.objs.size, [s1.heap.objs.size], _, _, H1, rfl, I1.kept (t' := s1.toks) fun b o e => Heap.get?_push_of_some _ e, turn_list a _, ⟨_, Heap.get?_push_size _ rfl, rfl, rfl⟩, fun b hb => ?_, q⟩
      have e : b = s1.heap.objs.size := by simpa using hb
      subst e
      exact I1.fpOk (Nat.le_refl _) (I1.hok.fresh (Nat.le_refl _))
    · subst e
      cases r1
      obtain ⟨its, rv, p, hz⟩ := I1.tuple hq
      refine wpAny_pyIter_tuple (show s1.heap.IsTuple a its.toArray from p) ?_
      refine ⟨s1.heap.objs.size, [s1.heap.objs.size], _, _, H1, rfl, I1.kept (t' := s1.toks) fun b o e => Heap.get?_push_of_some _ e, turn_tuple a _, ⟨_, Heap.get?_push_size _ rfl, rfl, rfl⟩, fun b hb => ?_, q⟩
      have e : b = s1.heap.objs.size := by simpa using hb
      subst e
      exact I1.fpOk (Nat.le_refl _) (I1.hok.fresh (Nat.le_refl _))
    · subst ex
      obtain ⟨t, rfl⟩ := r1
      cases ha : x.cps.all (· < 128)
      · exact wpAny_pyIter_wide ha (pi_one (tk := s1.toks) I1 _ (turn_str _ x t "str_iterator" (.inr rfl)) ⟨_, Heap.get?_push_size _ rfl, rfl, rfl⟩ q)
      · exact wpAny_pyIter_ascii ha (pi_one (tk := s1.toks) I1 _ (turn_str _ x t "str_ascii_iterator" (.inl rfl)) ⟨_, Heap.get?_push_size _ rfl, rfl, rfl⟩ q)
/-- iterators from argument values -/
def fIt (g : List D → VH → Option ItF) (ft : FA) : FI := fun env h R E => ft env h (fun ds h1 => match g ds h1 with
  | some f => R f h1
  | none => False) E
theorem fIt_mono {g : List D → VH → Option ItF} {ft : FA} (m : MonA ft) : MonI (fIt g ft) := ⟨fun kQ kE q => m.mo (fun ds h1 q1 => by
  revert q1
  show (match g ds h1 with | some f => _ | none => False) → (match g ds h1 with | some f => _ | none => False)
  cases g ds h1 with
  | none => exact id
  | some f => exact kQ _ _) kE q⟩
def big62 (i : Int) : Bool := decide (i.natAbs < 4611686018427387904)
theorem big62_ok {i : Int} (h : big62 i = true) : -(2 ^ 62) ≤ i ∧ i < 2 ^ 62 := by
  unfold big62 at h
  simp only [decide_eq_true_eq] at h
  omega
def gRange1 : List D → VH → Option ItF := fun ds _ => match ds with
  | [.int j] => if big62 j = true then some (itRng 0 j.toNat 1) else none
  | _ => none
def gRange2 : List D → VH → Option ItF := fun ds _ => match ds with
  | [.int i, .int j] => if big62 i = true ∧ big62 j = true then some (itRng i (j - i).toNat 1) else none
  | _ => none
def gZip : List D → VH → Option ItF := fun ds h => match ds with
  | [.tup xs, .tup ys] => some (itZip (itTup xs) (itTup ys))
  | [.ref k, .ref l] => if (lstAt h k).isSome = true ∧ (lstAt h l).isSome = true then some (itZip (itLst k) (itLst l)) else none
  | _ => none
theorem i_range1 {tg : Expr} (hg : Gl X "range") (hm : X.mg "range" = none) (ha : SA X T W [a] ft) (hs : starEach [a] X.env = (false, eval a X.env) :: starEach [] X.env := by rfl) : SI X T W tg (.Call (.Name "range" p) [a] [] pos) (fIt gRange1 ft) :=
  ⟨fIt_mono ha.m, PI.imp (pi_range1 hg hm ha.p hs) fun σ H R q => by
    obtain ⟨ρ, env, h, m, hf⟩ := q
    refine ⟨ρ, env, h, m, ha.m.mo (fun ds h1 q1 => ?_) (fun _ _ _ z => z) hf⟩
    intro ρ1 vs H1 s1 r1
    unfold gRange1 at q1
    split at q1
    · rename_i f e
      split at e
      · split at e
        · rename_i j hj
          cases e
          cases r1 with
          | cons r t =>
            cases t
            cases r
            have := big62_ok hj
            exact ⟨j, rfl, this.1, this.2, q1 ρ1 _ H1 s1 itr_rng1⟩
        · cases e
      · cases e
    · exact q1.elim⟩
theorem i_range2 {tg : Expr} (hg : Gl X "range") (hm : X.mg "range" = none) (ha : SA X T W [a, b] ft) (hs : starEach [a, b] X.env = [(false, eval a X.env), (false, eval b X.env)] := by rfl) (hs2 : starEach [b] X.env = [(false, eval b X.env)] := by rfl) : SI X T W tg (.Call (.Name "range" p) [a, b] [] pos) (fIt gRange2 ft) :=
  ⟨fIt_mono ha.m, PI.imp (pi_range2 hg hm ha.p hs hs2) fun σ H R q => by
    obtain ⟨ρ, env, h, m, hf⟩ := q
    refine ⟨ρ, env, h, m, ha.m.mo (fun ds h1 q1 => ?_) (fun _ _ _ z => z) hf⟩
    intro ρ1 vs H1 s1 r1
    unfold gRange2 at q1
    split at q1
    · rename_i f e
      split at e
      · split at e
        · rename_i i j hj
          cases e
          cases r1 with
          | cons r t =>
            cases t with
            | cons r2 t =>
              cases t
              cases r
              cases r2
              have h1 := big62_ok hj.1
              have h2 := big62_ok hj.2
              exact ⟨i, j, rfl, ⟨h1.1, h1.2, h2.1, h2.2⟩, q1 ρ1 _ H1 s1 itr_rng1⟩
        · cases e
      · cases e
    · exact q1.elim⟩
theorem i_zip {elts : List Expr} {kk : Nat} {tpos : Pos} (hg : Gl X "zip") (hm : X.mg "zip" = none) (ha : SA X T W [a, b] ft)
    (hs : starEach [a, b] X.env = (false, eval a X.env) :: starEach [b] X.env := by rfl) (hpl : (backTo pos (starEach [b] X.env)).any (·.1) = false := by rfl) : SI X T W (.Tuple elts kk tpos) (.Call (.Name "zip" p) [a, b] [] pos) (fIt gZip ft) :=
  ⟨fIt_mono ha.m, PI.imp (pi_zipA hg hm ha.p hs hpl) fun σ H R q => by
    obtain ⟨ρ, env, h, m, hf⟩ := q
    refine ⟨ρ, env, h, m, ha.m.mo (fun ds h1 q1 => ?_) (fun _ _ _ z => z) hf⟩
    intro ρ1 vs H1 s1 r1
    unfold gZip at q1
    split at q1
    · rename_i f e
      split at e
      · cases e
        cases r1 with
        | cons r t =>
          cases t with
          | cons r2 t =>
            cases t
            cases r with
            | tup hq t1 =>
              cases r2 with
              | tup hq2 t2 => exact ⟨_, _, _, _, rfl, .inr ⟨hq, hq2, q1 ρ1 _ H1 s1 (itr_zipT s1.ok hq t1 hq2 t2)⟩⟩
      · split at e
        · rename_i k l hkl
          cases e
          cases r1 with
          | cons r t =>
            cases t with
            | cons r2 t =>
              cases t
              cases r with
              | ref hk =>
                cases r2 with
                | ref hl =>
                  obtain ⟨ds, e1⟩ := Option.isSome_iff_exists.mp hkl.1
                  obtain ⟨es, e2⟩ := Option.isSome_iff_exists.mp hkl.2
                  obtain ⟨xs, w1, _, _⟩ := s1.ok.lst e1
                  obtain ⟨ys, w2, _, _⟩ := s1.ok.lst e2
                  exact ⟨_, _, xs, ys, rfl, .inl ⟨.of w1, .of w2, q1 ρ1 _ H1 s1 (itr_zipL s1.ok hk hl)⟩⟩
        · cases e
      · cases e
    · exact q1.elim⟩
end
end Ev

set_option Elab.async false
set_option linter.all false
set_option maxRecDepth 100000
/-! Ev4f: list comprehensions. -/
namespace Ev
open PySem PySem.Spec PyProof.Rows L2 NdefX

theorem wipe_in {σ : L2.St} {i : Nat} : ∀ {vs : List Nat}, i ∈ vs → (wipe σ vs)[i]? = if i < σ.length then some none else none
  | [], h => by simp at h
  | w :: vs, h => by
    show ((wipe σ vs).set w none)[i]? = _
    by_cases hw : w = i
    · subst hw
      by_cases hl : w < σ.length
      · rw [List.getElem?_set_self (by rw [wipe_length]; exact hl), if_pos hl]
      · rw [List.getElem?_eq_none (by rw [List.length_set, wipe_length]; omega), if_neg hl]
    · rw [List.getElem?_set_ne hw]
      have : i ∈ vs := by
        rcases List.mem_cons.mp h with h | h
        · exact absurd h.symm hw
        · exact h
      exact wipe_in this
theorem wipe_idem (σ : L2.St) (vs : List Nat) : wipe (wipe σ vs) vs = wipe σ vs := by
  apply List.ext_getElem?
  intro i
  by_cases h : i ∈ vs
  · rw [wipe_in h, wipe_in h, wipe_length]
  · rw [wipe_out h]
abbrev W0 : WX := fun _ _ _ _ => False
def compL (it : ItF) (tg : Tg) (fc : Option FE) (fe : FE) (env : Env) : Nat → Nat → List D → VH → PL → Prop
  | 0, _, _, _, _ => False
  | n + 1, i, acc, h, Q => match it i h with
    | none => False
    | some none => Q acc h
    | some (some d) => match asgT tg d h env with
      | none => False
      | some env2 => match fc with
        | none => fe env2 h (fun y h2 => chk (decide (acc.length < line)) (compL it tg fc fe env n (i + 1) (acc ++ [y]) h2 Q)) noX
        | some c => c env2 h (fun b h2 => match b with
          | .bl true => fe env2 h2 (fun y h3 => chk (decide (acc.length < line)) (compL it tg fc fe env n (i + 1) (acc ++ [y]) h3 Q)) noX
          | .bl false => compL it tg fc fe env n (i + 1) acc h2 Q
          | _ => False) noX
noncomputable def fComp (fi : FI) (tg : Tg) (vs : List Nat) (fc : Option FE) (fe : FE) : FA := fun env h Q E => fi env h (fun it h1 => compL it tg fc fe (wipeD env vs) fuel 0 [] h1 Q) E
theorem compL_mono {it : ItF} {tg : Tg} {fc : Option FE} {fe : FE} {env : Env} (mc : ∀ c, fc = some c → MonE c) (me : MonE fe) {Q Q' : PL} (k : ∀ d h, Q d h → Q' d h) : ∀ (n i : Nat) (acc : List D) (h : VH), compL it tg fc fe env n i acc h Q → compL it tg fc fe env n i acc h Q'
  | 0, _, _, _, q => q
  | n + 1, i, acc, h, q => by
    unfold compL at q ⊢
    cases e : it i h with
    | none => simp only [e] at q
    | some o =>
      cases o with
      | none => simp only [e] at q ⊢; exact k _ _ q
      | some d =>
        simp only [e] at q ⊢
        cases e2 : asgT tg d h env with
        | none => simp only [e2] at q
        | some env2 =>
          simp only [e2] at q ⊢
          cases fc with
          | none => exact me.mo (fun y h2 q2 => chk_mono (fun q3 => compL_mono mc me k n _ _ _ q3) q2) (fun _ _ _ z => z) q
          | some c =>
            refine (mc c rfl).mo (fun b h2 q2 => ?_) (fun _ _ _ z => z) q
            cases b with
            | bl b =>
              cases b with
              | true => exact me.mo (fun y h2 q2 => chk_mono (fun q3 => compL_mono mc me k n _ _ _ q3) q2) (fun _ _ _ z => z) q2
              | false => exact compL_mono mc me k n _ _ _ q2
            | _ => exact q2
theorem fComp_mono {fi : FI} {tg : Tg} {vs : List Nat} {fc : Option FE} {fe : FE} (mi : MonI fi) (mc : ∀ c, fc = some c → MonE c) (me : MonE fe) : MonA (fComp fi tg vs fc fe) := ⟨fun kQ kE q => mi.mo (fun _ _ q1 => compL_mono mc me kQ _ _ _ _ q1) kE q⟩
/-- a list object that the small heap does not know -/
def QLs (G : Gd) (ρ : Nat → Addr) (h : VH) (H : Hp) (Q : VK) : PL := fun ds h' => ∀ ρ' H' p vs, Stp G ρ h H ρ' h' H' → H' p = some (.lst vs) → (∀ k, k < h'.length → ρ' k ≠ p) → H p = none → RpA G H' ρ' h'.length ds vs → Q (.ref p) H'
def lLs (G : Gd) (W : WX) (f : FA) : TE := fun σ H Q => ∃ ρ env h, M G ρ env h σ H ∧ f env h (QLs G ρ h H Q) (QX G ρ h H W σ)
structure SL (X : Cx) (T : List NTab) (W : WX) (e : Expr) (f : FA) : Prop where
  m : MonA f
  p : PE X e (lLs (gd X T) W f)
section
variable {G : Gd} {H H1 Hc : Hp} {ρ ρ1 ρc : Nat → Addr} {h h1 hc : VH}
theorem kp_poke {a : Addr} {o : HO} (hn : H a = none ∨ ∃ xs, H a = some (.lst xs)) : Kp H (L2.upd H a o) := by
  have ne : ∀ {b : Addr} {u : HO}, H b = some u → (∀ xs, u ≠ .lst xs) → b ≠ a := fun {b u} e q z => by
    subst z
    rcases hn with hn | ⟨xs, hn⟩
    · rw [e] at hn; cases hn
    · rw [e] at hn; exact q xs (Option.some.inj hn)
  exact ⟨fun b xs e => by rw [upd_ne (ne e (by intro _ z; cases z))]; exact e, fun b xs u e => by rw [upd_ne (ne e (by intro _ z; cases z))]; exact e, fun b xs e => by rw [upd_ne (ne e (by intro _ z; cases z))]; exact e⟩
/-- an object outside is written -/
theorem Stp.poke {a : Addr} {xs : List V} (s : Stp G ρ1 h1 H1 ρc hc Hc) (h0 : H1 a = none) (hn : Hc a = none ∨ ∃ xs, Hc a = some (.lst xs)) (hf : ∀ k, k < hc.length → ρc k ≠ a) : Stp G ρ1 h1 H1 ρc hc (upd Hc a (.lst xs)) := by
  refine ⟨s.len, s.agr, fun b o e n t => ?_, s.fresh, fun b e => s.dom b (upd_dom e), ⟨fun k o e => ?_, s.ok.inj⟩, fun t => TabsN.upd hn (s.tb t)⟩
  · have ne : b ≠ a := fun z => by rw [z, h0] at e; cases e
    rw [upd_ne ne]
    exact s.keep b o e n t
  · have q := s.ok.ob k o e
    have hk := (List.getElem?_eq_some_iff.mp e).1
    cases o with
    | lst ds =>
      obtain ⟨ys, e1, r⟩ := q
      exact ⟨ys, by rw [upd_ne (hf k hk)]; exact e1, r.mono (kp_poke hn) (fun _ _ => rfl) (Nat.le_refl _)⟩
/-- such a list comes into the small heap -/
theorem Stp.adopt {a : Addr} {xs : List V} {ds : List D} (s : Stp G ρ h H ρc hc Hc) (h0 : H a = none) (e : Hc a = some (.lst xs)) (hf : ∀ k, k < hc.length → ρc k ≠ a) (r : RpA G Hc ρc hc.length ds xs) : Stp G ρ h H (ext ρc hc.length a) (hc ++ [.lst ds]) Hc := by
  have lenE : (hc ++ [Ob.lst ds]).length = hc.length + 1 := by simp
  refine ⟨by rw [lenE]; exact Nat.le_succ_of_le s.len, fun k hk => (ext_lt (Nat.lt_of_lt_of_le hk s.len)).trans (s.agr k hk), s.keep, fun k a1 a2 => ?_, s.dom, ⟨fun i ob q => ?_, fun i j hi hj e => ?_⟩, s.tb⟩
  · by_cases hk : k < hc.length
    · rw [ext_lt hk]; exact s.fresh k a1 hk
    · have : k = hc.length := by rw [lenE] at a2; omega
      subst this
      rw [ext_self]; exact h0
  · by_cases hi : i < hc.length
    · rw [List.getElem?_append_left hi] at q
      rw [ext_lt hi]
      have z := s.ok.ob i ob q
      cases ob with
      | lst es =>
        obtain ⟨ys, e1, r1⟩ := z
        refine ⟨ys, e1, ?_⟩
        rw [lenE]
        exact r1.mono (Kp.refl _) (fun _ hk => ext_lt hk) (Nat.le_succ _)
    · have hl := (List.getElem?_eq_some_iff.mp q).1
      have : i = hc.length := by rw [lenE] at hl; omega
      subst this
      rw [List.getElem?_append_right (Nat.le_refl _)] at q
      simp at q
      subst q
      rw [ext_self]
      refine ⟨xs, e, ?_⟩
      rw [lenE]
      exact r.mono (Kp.refl _) (fun _ hk => ext_lt hk) (Nat.le_succ _)
  · rw [lenE] at hi hj
    by_cases h1 : i < hc.length <;> by_cases h2 : j < hc.length
    · rw [ext_lt h1, ext_lt h2] at e
      exact s.ok.inj i j h1 h2 e
    · have : j = hc.length := by omega
      subst this
      rw [ext_lt h1, ext_self] at e
      exact absurd e (hf i h1)
    · have : i = hc.length := by omega
      subst this
      rw [ext_lt h2, ext_self] at e
      exact absurd e.symm (hf j h2)
    · omega
/-- a step keeps an object outside outside -/
theorem Stp.out {a : Addr} {o : HO} (s : Stp G ρ h H ρ1 h1 H1) (e : H a = some o) (hf : ∀ k, k < h.length → ρ k ≠ a) : ∀ k, k < h1.length → ρ1 k ≠ a := fun k hk z => by
  by_cases hh : k < h.length
  · rw [s.agr k hh] at z; exact hf k hh z
  · have := s.fresh k (Nat.not_lt.mp hh) hk
    rw [z, e] at this; cases this
end
def fNewL (f : FA) : FE := fun env h Q E => f env h (fun ds h1 => Q (.ref h1.length) (h1 ++ [.lst ds])) E
def fFC (c : FC) (f : FA) : FE := fun env h Q E => f env h (fun ds h1 => fin (c ds) h1 Q) E
section
variable {X : Cx} {T : List NTab} {W : WX} {e elt tg iter : Expr} {fe : FE} {f : FA} {fi : FI} {pos p : Pos} {x : Str} {t : Tg}
theorem e_newL (h : SL X T W e f) : SE X T W e (fNewL f) :=
  ⟨⟨fun kQ kE q => h.m.mo (fun _ _ q1 => kQ _ _ q1) kE q⟩, PE.imp h.p fun σ H Q q => by
    obtain ⟨ρ, env, hh, m, hf⟩ := q
    refine ⟨ρ, env, hh, m, h.m.mo (fun ds h1 q1 => ?_) (fun _ _ _ z => z) hf⟩
    intro ρ1 H1 p vs s1 hp hf h0 r
    have s2 := s1.adopt h0 hp hf r
    have e : V.ref p = V.ref (ext ρ1 h1.length p h1.length) := by rw [ext_self]
    rw [e]
    exact q1 _ _ _ s2 (.ref (by simp))⟩
theorem e_bic (hc : X.calm = true) (bi : Bi) (c : FC) (hbc : bi.c = some c) (hx : Str.ofString bi.name = x) (hg : Gl X x) (hm : X.mg x = none) (h : SL X T W e f) (hn : x ≠ "__name__" := by decide) (hdb : (x == ("__debug__" : Str)) = false := by decide)
    (he : starEach [e] X.env = (false, eval e X.env) :: starEach [] X.env := by rfl) (hpl : (backTo pos (starEach [] X.env)).any (·.1) = false := by rfl) : SE X T W (.Call (.Name x p) [e] [] pos) (fFC c f) := by
  refine ⟨⟨fun kQ kE q => h.m.mo (fun _ _ q1 => fin_mono kQ q1) kE q⟩, ?_⟩
  have hb := Bi.boot bi
  rw [hx] at hb
  have hcc := Bi.callC (T := T) hc bi c hbc
  have key : ∀ σ H Q, lE (gd X T) W (fFC c f) σ H Q → tCB (rC (gd X T) c) (tCons (lLs (gd X T) W f) tNil) σ H Q := fun σ H Q q => by
    obtain ⟨ρ, env, hh, m, hf⟩ := q
    refine ⟨ρ, env, hh, m, h.m.mo (fun ds h1 q1 => ?_) (fun _ _ _ z => z) hf⟩
    intro ρ1 H1 p vs s1 hp hf h0 r
    exact ⟨ρ1, h1, p, vs, ds, rfl, s1.ok, .of hp, r, fin_mono (fun _ _ z => z.step s1) q1⟩
  cases bi <;> first
    | exact PE.imp (pe_callB hcc hg hm hb (pa_cons h.p pa_nil he) hn hdb he hpl) key
    | exact PE.imp (pe_callTy hcc hg hm hb (pa_cons h.p pa_nil he) hn hdb he hpl) key
/-- the conditions of a comprehension: none or one -/
inductive SC (B : Shared → Hp → Addr → List (Str × Addr) → List Addr → Cx) (T : List NTab) : List Expr → Option FE → Prop
  | none : SC B T [] Option.none
  | one {c : Expr} {f : FE} (h : ∀ s H C cl fp, ST (B s H C cl fp) T W0 c f) : SC B T [c] (Option.some f)
def rdC (G : Gd) (fc : Option FE) : TT := match fc with
  | none => tYes
  | some c => lT G W0 (tOf c)
theorem lc_key {vs0 : List Nat} {fc : Option FE} (mi : MonI fi) (mc : ∀ c, fc = some c → MonE c) (me : MonE fe) (hsl : ∀ i ∈ t.slots, i ∈ vs0) {σ : L2.St} {H : Hp} {Q : VK} (q : lLs (gd X T) W (fComp fi t vs0 fc fe) σ H Q) :
    tLc (lI (gd X T) W fi) (lG (gd X T) t) (rdC (gd X T) fc) (lE (gd X T) W0 fe) vs0 σ H Q := by
  obtain ⟨ρ, env, h, m, hf⟩ := q
  refine ⟨ρ, env, h, m, mi.mo (fun it h1 q1 => ?_) (fun _ _ _ z => z) hf⟩
  intro ρ1 J H1 s1 ir D hD
  have m1 := (m.step s1).wipe vs0
  have nD1 : ∀ k, k < h1.length → ρ1 k ≠ D := fun k hk z => by
    obtain ⟨xs, e⟩ := s1.ok.isLst hk
    rw [z, hD] at e; cases e
  refine ⟨fun i m Hc => ∃ ρc hcc acc vs, Stp (gd X T) ρ1 h1 H1 ρc hcc Hc ∧ Hc D = some (.lst vs) ∧ (∀ k, k < hcc.length → ρc k ≠ D) ∧ RpA (gd X T) Hc ρc hcc.length acc vs ∧ compL it t fc fe (wipeD env vs0) m i acc hcc (QLs (gd X T) ρ h H Q),
    ⟨fuel, ρ1, h1, [], [], (Stp.refl s1.ok).poke hD (.inl hD) nD1, upd_same, nD1, .nil, q1⟩, ?_⟩
  intro i m' Hc hW
  obtain ⟨ρc, hcc, acc, vs, sc, eD, nD, rA, hl⟩ := hW
  cases m' with
  | zero => exact hl.elim
  | succ n =>
    unfold compL at hl
    cases e : it i hcc with
    | none => simp only [e] at hl
    | some o =>
      cases o with
      | none =>
        simp only [e] at hl
        exact .inl ⟨ir.stop i ρc hcc Hc sc e, hl ρc Hc D vs (s1.trans sc) eD nD (s1.dom D hD) rA⟩
      | some d =>
        simp only [e] at hl
        refine .inr ⟨ir.go i ρc hcc Hc d sc e, (fun Hn => ∃ ρc hcc ac vs, Stp (gd X T) ρ1 h1 H1 ρc hcc Hn ∧ Hn D = some (.lst vs) ∧ (∀ k, k < hcc.length → ρc k ≠ D) ∧ RpA (gd X T) Hn ρc hcc.length ac vs ∧ compL it t fc fe (wipeD env vs0) n (i + 1) ac hcc (QLs (gd X T) ρ h H Q)), fun H' z => ⟨n, Nat.lt_succ_self _, z⟩, fun x H' hy => ?_⟩
        obtain ⟨ρ2, s2, r2⟩ := ir.yld i ρc hcc Hc d x H' sc e hy
        have m2 := (m1.step sc).step s2
        cases e2 : asgT t d hcc (wipeD env vs0) with
        | none => simp only [e2] at hl
        | some env2 =>
          simp only [e2] at hl
          refine ⟨ρ2, _, hcc, d, env2, m2, r2, e2, fun σ2 m3 w3 => ⟨?_, ?_⟩⟩
          · have q := w3 vs0 hsl
            rw [q]
            exact wipe_idem _ _
          · have elem : ∀ {ρ3 h3 H3}, Stp (gd X T) ρ2 hcc H' ρ3 h3 H3 → fe env2 h3 (fun y h4 => chk (decide (acc.length < line)) (compL it t fc fe (wipeD env vs0) n (i + 1) (acc ++ [y]) h4 (QLs (gd X T) ρ h H Q))) noX →
                lE (gd X T) W0 fe σ2 H3 fun y H4 => ∃ acc, H4 D = some (.lst acc) ∧ acc.length < sizeLine ∧ ∃ ρc hcc ac vs, Stp (gd X T) ρ1 h1 H1 ρc hcc (upd H4 D (.lst (acc ++ [y]))) ∧ (upd H4 D (.lst (acc ++ [y]))) D = some (.lst vs) ∧ (∀ k, k < hcc.length → ρc k ≠ D) ∧ RpA (gd X T) (upd H4 D (.lst (acc ++ [y]))) ρc hcc.length ac vs ∧ compL it t fc fe (wipeD env vs0) n (i + 1) ac hcc (QLs (gd X T) ρ h H Q) := fun {ρ3 h3 H3} s3 q3 => by
              refine ⟨ρ3, env2, h3, m3.step s3, me.mo (fun y h4 q4 => ?_) (fun _ _ _ z => z.elim) q3⟩
              intro ρ4 v H4 s4 r4
              obtain ⟨hl4, q5⟩ := chk_iff.mp q4
              have hl4 := of_decide_eq_true hl4
              have s24 := s2.trans (s3.trans s4)
              have eD4 : H4 D = some (.lst vs) := s24.keep D _ eD (fun k hk => nD k hk) (by intro _ z; cases z)
              have nD4 := s24.out eD nD
              have rA4 := s24.rpA sc.ok rA
              have kp := kp_poke (o := .lst (vs ++ [v])) (.inr ⟨_, eD4⟩)
              refine ⟨vs, eD4, by rw [← line_eq, ← rA.length]; exact hl4, ρ4, h4, acc ++ [y], vs ++ [v], (sc.trans s24).poke hD (.inr ⟨_, eD4⟩) nD4, upd_same, nD4, ?_, q5⟩
              exact (rA4.append (.cons r4 .nil)).mono kp (fun _ _ => rfl) (Nat.le_refl _)
            cases fc with
            | none =>
              simp only at hl
              exact L2.iteT (B := (fun Hn => ∃ ρc hcc ac vs, Stp (gd X T) ρ1 h1 H1 ρc hcc Hn ∧ Hn D = some (.lst vs) ∧ (∀ k, k < hcc.length → ρc k ≠ D) ∧ RpA (gd X T) Hn ρc hcc.length ac vs ∧ compL it t none fe (wipeD env vs0) n (i + 1) ac hcc (QLs (gd X T) ρ h H Q)) H') (elem (Stp.refl s2.ok) hl)
            | some c =>
              simp only at hl
              refine ⟨ρ2, env2, hcc, m3, (mc c rfl).mo (fun b h3 q3 => ?_) (fun _ _ _ z => z.elim) hl⟩
              cases b with
              | bl b =>
                intro ρ3 H3 s3
                cases b with
                | true =>
                  rw [if_pos rfl]
                  exact elem s3 q3
                | false =>
                  rw [if_neg Bool.false_ne_true]
                  have s23 := s2.trans s3
                  exact ⟨ρ3, h3, acc, vs, sc.trans s23, s23.keep D _ eD (fun k hk => nD k hk) (by intro _ z; cases z), s23.out eD nD, s23.rpA sc.ok rA, q3⟩
              | _ => exact q3
theorem e_lc {scope : Scope} {own : List (Str × Nat)} {ifs : List Expr} {fc : Option FE} (hc : X.calm = true) (hN : X.N.Nodup) (hi : SI X T W tg iter fi) (ok : BlkOk X.N X.env.scope scope own) (hsl : ∀ i ∈ t.slots, i ∈ own.map (·.2))
    (hg : ∀ (s : Shared) (H : Hp) (C : Addr) (cl : List (Str × Addr)) (fp : List Addr), SG (X.blk s H scope (compEnvC scope cl C X.env) fp) T tg t) (ht : SC (fun s H C cl fp => X.blk s H scope (compEnvC scope cl C X.env) fp) T ifs fc)
    (he : ∀ (s : Shared) (H : Hp) (C : Addr) (cl : List (Str × Addr)) (fp : List Addr), SE (X.blk s H scope (compEnvC scope cl C X.env) fp) T W0 elt fe) (hs : ∀ x, foldedSetIterable iter X.env x = pure x := by intro _; rfl) :
    SL X T W (.ListComp elt [⟨tg, iter, ifs, 0⟩] scope pos) (fComp fi t (own.map (·.2)) fc fe) := by
  have mc : ∀ c, fc = some c → MonE c := by
    intro c ec
    cases ht with
    | none => cases ec
    | one h => cases ec; exact (h X.s_0 X.H_0 0 [] []).m
  have me : MonE fe := (he X.s_0 X.H_0 0 [] []).m
  refine ⟨fComp_mono hi.m mc me, ?_⟩
  have htt : ∀ (s : Shared) (H : Hp) (C : Addr) (cl : List (Str × Addr)) (fp : List Addr), PTs (X.blk s H scope (compEnvC scope cl C X.env) fp) ifs (rdC (gd X T) fc) := by
    intro s H C cl fp
    cases ht with
    | none => exact pts_nil
    | one h => exact pts_one (h s H C cl fp).p
  exact PE.imp (pe_lc (g := lG (gd X T) t) (te := lE (gd X T) W0 fe) hc hN hi.p ok (fun s H C cl fp => (hg s H C cl fp).p) htt (fun s H C cl fp => (he s H C cl fp).p) hs) fun σ H Q q => lc_key hi.m mc me hsl q
theorem SC.mc {B : Shared → Hp → Addr → List (Str × Addr) → List Addr → Cx} {ifs : List Expr} {fc : Option FE} (s : Shared) (H : Hp) (ht : SC B T ifs fc) : ∀ c, fc = Option.some c → MonE c := by
  intro c ec
  cases ht with
  | none => cases ec
  | one h => cases ec; exact (h s H 0 [] []).m
theorem SC.pts {scope : Scope} {ifs : List Expr} {fc : Option FE} (ht : SC (fun s H C cl fp => X.blk s H scope (compEnvC scope cl C X.env) fp) T ifs fc) (s : Shared) (H : Hp) (C : Addr) (cl : List (Str × Addr)) (fp : List Addr) : PTs (X.blk s H scope (compEnvC scope cl C X.env) fp) ifs (rdC (gd X T) fc) := by
  cases ht with
  | none => exact pts_nil
  | one h => exact pts_one (h s H C cl fp).p
end
end Ev

set_option Elab.async false
set_option linter.all false
set_option maxRecDepth 100000
/-! Ev5: statements. -/
namespace Ev
open PySem PySem.Spec PyProof.Rows L2 NdefX

abbrev PN := Env → VH → Prop
structure ED where
  nx : PN
  rt : PQ
  bk : PN
  ct : PN
  ex : Str → D → Env → VH → Prop
abbrev FS := Env → VH → ED → Prop
structure EDle (a b : ED) : Prop where
  nx : ∀ e h, a.nx e h → b.nx e h
  rt : ∀ d h, a.rt d h → b.rt d h
  bk : ∀ e h, a.bk e h → b.bk e h
  ct : ∀ e h, a.ct e h → b.ct e h
  ex : ∀ c d e h, a.ex c d e h → b.ex c d e h
structure MonS (f : FS) : Prop where
  mo : ∀ {env : Env} {h : VH} {a b : ED}, EDle a b → f env h a → f env h b
def exE (a : ED) (env : Env) : PX := fun c d h => a.ex c d env h
def QN (G : Gd) (ρ : Nat → Addr) (h : VH) (H : Hp) (Q : L2.St → Hp → Prop) : PN := fun env' h' => ∀ ρ' σ' H', Stp G ρ h H ρ' h' H' → M G ρ' env' h' σ' H' → Q σ' H'
def QXs (G : Gd) (ρ : Nat → Addr) (h : VH) (H : Hp) (W : WX) : Str → D → Env → VH → Prop := fun c d env' h' => ∀ ρ' σ' H' C dx w, Stp G ρ h H ρ' h' H' → M G ρ' env' h' σ' H' → G.mg c = some (.ref C) → H' dx = some (.xd [("value", w)]) → Rp G H' ρ' h'.length d w → W (.ref C) (some dx) σ' H'
def QD (G : Gd) (ρ : Nat → Addr) (h : VH) (H : Hp) (W : WX) (D : Ends) : ED := ⟨QN G ρ h H D.nx, QV G ρ h H D.rt, QN G ρ h H D.bk, QN G ρ h H D.ct, QXs G ρ h H W⟩
section
variable {G : Gd} {ρ ρ1 : Nat → Addr} {h h1 : VH} {H H1 : Hp} {W : WX}
theorem QN.step {Q : L2.St → Hp → Prop} (s : Stp G ρ h H ρ1 h1 H1) {env : Env} {h' : VH} (q : QN G ρ h H Q env h') : QN G ρ1 h1 H1 Q env h' := fun ρ' σ' H' s' m => q ρ' σ' H' (s.trans s') m
theorem QXs.step (s : Stp G ρ h H ρ1 h1 H1) {c : Str} {d : D} {env : Env} {h' : VH} (q : QXs G ρ h H W c d env h') : QXs G ρ1 h1 H1 W c d env h' := fun ρ' σ' H' C dx w s' => q ρ' σ' H' C dx w (s.trans s')
theorem QD.step {D : Ends} (s : Stp G ρ h H ρ1 h1 H1) : EDle (QD G ρ h H W D) (QD G ρ1 h1 H1 W D) :=
  ⟨fun _ _ q => QN.step s q, fun _ _ q => QV.step s q, fun _ _ q => QN.step s q, fun _ _ q => QN.step s q, fun _ _ _ _ q => QXs.step s q⟩
theorem QD.x {D : Ends} {env : Env} {σ : L2.St} (m : M G ρ env h σ H) : ∀ c d h', exE (QD G ρ h H W D) env c d h' → QX G ρ h H W σ c d h' := fun c d h' q ρ' H' C dx w s a b r => q ρ' σ H' C dx w s (m.step s) a b r
end
def lS (G : Gd) (W : WX) (f : FS) : TS := fun Dn σ H => ∃ ρ env h, M G ρ env h σ H ∧ f env h (QD G ρ h H W Dn)
structure SS (X : Cx) (T : List NTab) (W : WX) (st : Stmt) (f : FS) : Prop where
  m : MonS f
  p : PS X st (lS (gd X T) W f)
structure SSs (X : Cx) (T : List NTab) (W : WX) (st : List Stmt) (f : FS) : Prop where
  m : MonS f
  p : PSs X st (lS (gd X T) W f)
theorem EDle.refl (a : ED) : EDle a a := ⟨fun _ _ q => q, fun _ _ q => q, fun _ _ q => q, fun _ _ q => q, fun _ _ _ _ q => q⟩
theorem EDle.trans {a b c : ED} (x : EDle a b) (y : EDle b c) : EDle a c := ⟨fun _ _ q => y.nx _ _ (x.nx _ _ q), fun _ _ q => y.rt _ _ (x.rt _ _ q), fun _ _ q => y.bk _ _ (x.bk _ _ q), fun _ _ q => y.ct _ _ (x.ct _ _ q), fun _ _ _ _ q => y.ex _ _ _ _ (x.ex _ _ _ _ q)⟩

/-! ### the meanings -/
def sNil : FS := fun env h D => D.nx env h
def sSeq (a b : FS) : FS := fun env h D => a env h { D with nx := fun e h1 => b e h1 D }
def sBrk : FS := fun env h D => D.bk env h
def sCnt : FS := fun env h D => D.ct env h
def sExp (f : FE) : FS := fun env h D => f env h (fun _ h1 => D.nx env h1) (exE D env)
def sRet (f : FE) : FS := fun env h D => f env h D.rt (exE D env)
def sRetN : FS := fun env h D => D.rt .non h
def sIf (c : FE) (a b : FS) : FS := fun env h D => c env h (fun x h1 => match x with
  | .bl true => a env h1 D
  | .bl false => b env h1 D
  | _ => False) (exE D env)
def sAsg (f : FE) (t : Tg) : FS := fun env h D => f env h (fun x h1 => match asgT t x h1 env with
  | some e => D.nx e h1
  | none => False) (exE D env)
def sPar (f : FA) (ts : TgL) : FS := fun env h D => f env h (fun xs h1 => match asgL ts xs h1 env with
  | some e => D.nx e h1
  | none => False) (exE D env)
/-- o[i] = x in data -/
def gSet (o i x : D) (h : VH) : Option VH := match o, i with
  | .ref k, .int n => match lstAt h k with
    | some ds => match ixN ds.length n with
      | some j => some (h.set k (.lst (ds.set j x)))
      | none => none
    | none => none
  | _, _ => none
def sSet (fo fi fe : FE) : FS := fun env h D => fe env h (fun x h1 => fo env h1 (fun o h2 => fi env h2 (fun i h3 => match gSet o i x h3 with
  | some h4 => D.nx env h4
  | none => False) (exE D env)) (exE D env)) (exE D env)
/-- a op= b of ints, texts -/
def gInp (op : Bop) : F2 := match op with
  | .add => fun x y _ => match x, y with
    | .int i, .int j => some (.val (.int (i + j)))
    | .str i, .str j => if i.length + j.length ≤ line then some (.val (.str (i ++ j))) else none
    | _, _ => none
  | .sub => gSub
  | _ => fun _ _ _ => none
def sAug (i : Nat) (op : Bop) (f : FE) : FS := fun env h D => match env[i]? with
  | some (some x) => f env h (fun y h1 => fin (gInp op x y h1) h1 (fun z h2 => D.nx (env.set i (some z)) h2)) (exE D env)
  | _ => False
def gIxL : F2 := fun x y h => match x with
  | .ref _ => gIx x y h
  | _ => none
def sAugS (fo fi : FE) (op : Bop) (f : FE) : FS := fun env h D => fo env h (fun o h1 => fi env h1 (fun i h2 => fin (gIxL o i h2) h2 (fun x h3 => f env h3 (fun y h4 => fin (gInp op x y h4) h4 (fun z h5 => match gSet o i z h5 with
  | some h6 => D.nx env h6
  | none => False)) (exE D env))) (exE D env)) (exE D env)
def whL (c : FE) (b : FS) : Nat → Env → VH → ED → Prop
  | 0, _, _, _ => False
  | n + 1, env, h, D => c env h (fun x h1 => match x with
    | .bl true => b env h1 { D with nx := fun e h2 => whL c b n e h2 D, ct := fun e h2 => whL c b n e h2 D, bk := D.nx }
    | .bl false => D.nx env h1
    | _ => False) (exE D env)
noncomputable def sWhile (c : FE) (b : FS) : FS := fun env h D => whL c b fuel env h D
def foL (it : ItF) (t : Tg) (b : FS) : Nat → Nat → Env → VH → ED → Prop
  | 0, _, _, _, _ => False
  | n + 1, i, env, h, D => match it i h with
    | none => False
    | some none => D.nx env h
    | some (some d) => match asgT t d h env with
      | none => False
      | some e => b e h { D with nx := fun e h2 => foL it t b n (i + 1) e h2 D, ct := fun e h2 => foL it t b n (i + 1) e h2 D, bk := D.nx }
noncomputable def sFor (fi : FI) (t : Tg) (b : FS) : FS := fun env h D => fi env h (fun it h1 => foL it t b fuel 0 env h1 D) (exE D env)
/-! ### they keep implications -/
theorem exE_mono {a b : ED} {env : Env} (k : EDle a b) : ∀ c d h, exE a env c d h → exE b env c d h := fun c d h q => k.ex c d env h q
theorem sNil_mono : MonS sNil := ⟨fun k q => k.nx _ _ q⟩
theorem sSeq_mono {a b : FS} (ma : MonS a) (mb : MonS b) : MonS (sSeq a b) := ⟨fun {env h x y} k q => ma.mo (a := { x with nx := fun e h1 => b e h1 x }) (b := { y with nx := fun e h1 => b e h1 y }) ⟨fun _ _ z => mb.mo k z, k.rt, k.bk, k.ct, k.ex⟩ q⟩
theorem sBrk_mono : MonS sBrk := ⟨fun k q => k.bk _ _ q⟩
theorem sCnt_mono : MonS sCnt := ⟨fun k q => k.ct _ _ q⟩
theorem sExp_mono {f : FE} (m : MonE f) : MonS (sExp f) := ⟨fun k q => m.mo (fun _ _ z => k.nx _ _ z) (exE_mono k) q⟩
theorem sRet_mono {f : FE} (m : MonE f) : MonS (sRet f) := ⟨fun k q => m.mo (fun _ _ z => k.rt _ _ z) (exE_mono k) q⟩
theorem sRetN_mono : MonS sRetN := ⟨fun k q => k.rt _ _ q⟩
theorem sIf_mono {c : FE} {a b : FS} (mc : MonE c) (ma : MonS a) (mb : MonS b) : MonS (sIf c a b) := ⟨fun k q => mc.mo (fun x _ z => by
  cases x with
  | bl x =>
    cases x with
    | true => exact ma.mo k z
    | false => exact mb.mo k z
  | _ => exact z) (exE_mono k) q⟩
theorem sAsg_mono {f : FE} {t : Tg} (m : MonE f) : MonS (sAsg f t) := ⟨fun {env h a b} k q => m.mo (fun x h1 z => by
  cases e : asgT t x h1 env with
  | none => rw [e] at z; exact z.elim
  | some e1 => rw [e] at z; exact k.nx _ _ z) (exE_mono k) q⟩
theorem sPar_mono {f : FA} {t : TgL} (m : MonA f) : MonS (sPar f t) := ⟨fun {env h a b} k q => m.mo (fun x h1 z => by
  cases e : asgL t x h1 env with
  | none => rw [e] at z; exact z.elim
  | some e1 => rw [e] at z; exact k.nx _ _ z) (exE_mono k) q⟩
theorem sSet_mono {fo fi fe : FE} (mo : MonE fo) (mi : MonE fi) (me : MonE fe) : MonS (sSet fo fi fe) := ⟨fun {env h a b} k q => me.mo (fun x h1 z => mo.mo (fun o h2 z => mi.mo (fun i h3 z => by
  cases e : gSet o i x h3 with
  | none => rw [e] at z; exact z.elim
  | some h4 => rw [e] at z; exact k.nx _ _ z) (exE_mono k) z) (exE_mono k) z) (exE_mono k) q⟩
theorem sAug_mono {i : Nat} {op : Bop} {f : FE} (m : MonE f) : MonS (sAug i op f) := ⟨fun {env h a b} k q => by
  unfold sAug at q ⊢
  split at q
  · exact m.mo (fun y h1 z => fin_mono (fun _ _ z => k.nx _ _ z) z) (exE_mono k) q
  · exact q.elim⟩
theorem sAugS_mono {fo fi f : FE} {op : Bop} (mo : MonE fo) (mi : MonE fi) (me : MonE f) : MonS (sAugS fo fi op f) := ⟨fun {env h a b} k q => mo.mo (fun o h1 z => mi.mo (fun i h2 z => fin_mono (fun x h3 z => me.mo (fun y h4 z => fin_mono (fun z' h5 z => by
  cases e : gSet o i z' h5 with
  | none => rw [e] at z; exact z.elim
  | some h4 => rw [e] at z; exact k.nx _ _ z) z) (exE_mono k) z) z) (exE_mono k) z) (exE_mono k) q⟩
theorem whL_mono {c : FE} {b : FS} (mc : MonE c) (mb : MonS b) : ∀ (n : Nat) {env : Env} {h : VH} {x y : ED}, EDle x y → whL c b n env h x → whL c b n env h y
  | 0, _, _, _, _, _, q => q
  | n + 1, env, h, x, y, k, q => mc.mo (fun v h1 z => by
    cases v with
    | bl v =>
      cases v with
      | true => exact mb.mo (a := { x with nx := fun e h2 => whL c b n e h2 x, ct := fun e h2 => whL c b n e h2 x, bk := x.nx }) (b := { y with nx := fun e h2 => whL c b n e h2 y, ct := fun e h2 => whL c b n e h2 y, bk := y.nx }) ⟨fun _ _ z => whL_mono mc mb n k z, k.rt, fun _ _ z => k.nx _ _ z, fun _ _ z => whL_mono mc mb n k z, k.ex⟩ z
      | false => exact k.nx _ _ z
    | _ => exact z) (exE_mono k) q
theorem sWhile_mono {c : FE} {b : FS} (mc : MonE c) (mb : MonS b) : MonS (sWhile c b) := ⟨fun k q => whL_mono mc mb _ k q⟩
theorem foL_mono {it : ItF} {t : Tg} {b : FS} (mb : MonS b) : ∀ (n i : Nat) {env : Env} {h : VH} {x y : ED}, EDle x y → foL it t b n i env h x → foL it t b n i env h y
  | 0, _, _, _, _, _, _, q => q
  | n + 1, i, env, h, x, y, k, q => by
    unfold foL at q ⊢
    cases e : it i h with
    | none => simp only [e] at q
    | some o =>
      cases o with
      | none => simp only [e] at q ⊢; exact k.nx _ _ q
      | some d =>
        simp only [e] at q ⊢
        cases e2 : asgT t d h env with
        | none => simp only [e2] at q
        | some e3 =>
          simp only [e2] at q ⊢
          exact mb.mo (a := { x with nx := fun e h2 => foL it t b n (i + 1) e h2 x, ct := fun e h2 => foL it t b n (i + 1) e h2 x, bk := x.nx }) (b := { y with nx := fun e h2 => foL it t b n (i + 1) e h2 y, ct := fun e h2 => foL it t b n (i + 1) e h2 y, bk := y.nx }) ⟨fun _ _ z => foL_mono mb n _ k z, k.rt, fun _ _ z => k.nx _ _ z, fun _ _ z => foL_mono mb n _ k z, k.ex⟩ q
theorem sFor_mono {fi : FI} {t : Tg} {b : FS} (mi : MonI fi) (mb : MonS b) : MonS (sFor fi t b) := ⟨fun k q => mi.mo (fun _ _ z => foL_mono mb _ _ k z) (exE_mono k) q⟩

/-! ### they are sound -/
section
variable {X : Cx} {T : List NTab} {W : WX} {st : Stmt} {rest body : List Stmt} {e c a b o i tg iter : Expr} {es : List Expr} {f fc fo fi fe : FE} {ft : FA} {it : FI} {s1 s2 : FS} {t : Tg} {ts : TgL} {pos p px py pt : Pos} {x y : Str}
theorem ss_nil : SSs X T W [] sNil := ⟨sNil_mono, PSs.imp pss_nil fun Dn σ H q => by
  obtain ⟨ρ, env, h, m, hf⟩ := q
  exact hf ρ σ H (Stp.refl m.ok) m⟩
theorem ss_cons (h1 : SS X T W st s1) (h2 : SSs X T W rest s2) : SSs X T W (st :: rest) (sSeq s1 s2) :=
  ⟨sSeq_mono h1.m h2.m, PSs.imp (pss_cons h1.p h2.p) fun Dn σ H q => by
    obtain ⟨ρ, env, h, m, hf⟩ := q
    refine ⟨ρ, env, h, m, h1.m.mo (a := { QD (gd X T) ρ h H W Dn with nx := fun e h1 => s2 e h1 (QD (gd X T) ρ h H W Dn) }) (b := QD (gd X T) ρ h H W { Dn with nx := lS (gd X T) W s2 Dn }) ⟨fun e h' q => ?_, fun _ _ q => q, fun _ _ q => q, fun _ _ q => q, fun _ _ _ _ q => q⟩ hf⟩
    intro ρ' σ' H' s' m'
    exact ⟨ρ', e, h', m', h2.m.mo (QD.step s') q⟩⟩
theorem ss_one (h1 : SS X T W st s1) : SSs X T W [st] s1 := ⟨h1.m, pss_one h1.p⟩
theorem s_brk : SS X T W (.Break p) sBrk := ⟨sBrk_mono, PS.imp ps_break fun Dn σ H q => by
  obtain ⟨ρ, env, h, m, hf⟩ := q
  exact hf ρ σ H (Stp.refl m.ok) m⟩
theorem s_cnt : SS X T W (.Continue p) sCnt := ⟨sCnt_mono, PS.imp ps_continue fun Dn σ H q => by
  obtain ⟨ρ, env, h, m, hf⟩ := q
  exact hf ρ σ H (Stp.refl m.ok) m⟩
theorem s_pass : SS X T W (.Pass p) sNil := ⟨sNil_mono, PS.imp ps_pass fun Dn σ H q => by
  obtain ⟨ρ, env, h, m, hf⟩ := q
  exact hf ρ σ H (Stp.refl m.ok) m⟩
theorem s_exp (h : SE X T W e f) (hs : swapsWith e none pos.line X.env = pure false := by rfl) : SS X T W (.Expr e pos) (sExp f) :=
  ⟨sExp_mono h.m, PS.imp (ps_expr h.p hs) fun Dn σ H q => by
    obtain ⟨ρ, env, hh, m, hf⟩ := q
    refine ⟨ρ, env, hh, m, h.m.mo (fun d h1 q1 => ?_) (QD.x m) hf⟩
    intro ρ1 v H1 s1 r1
    exact q1 ρ1 σ H1 s1 (m.step s1)⟩
theorem s_ret (h : SE X T W e f) : SS X T W (.Return (some e) pos) (sRet f) :=
  ⟨sRet_mono h.m, PS.imp (ps_ret h.p) fun Dn σ H q => by
    obtain ⟨ρ, env, hh, m, hf⟩ := q
    exact ⟨ρ, env, hh, m, h.m.mo (fun d h1 q1 => q1) (QD.x m) hf⟩⟩
theorem s_retN : SS X T W (.Return none pos) sRetN := ⟨sRetN_mono, PS.imp ps_retN fun Dn σ H q => by
  obtain ⟨ρ, env, h, m, hf⟩ := q
  exact hf ρ .non H (Stp.refl m.ok) .non⟩
theorem s_if (hc : ST X T W c fc) (h1 : SSs X T W rest s1) (h2 : SSs X T W body s2) : SS X T W (.If c rest body pos) (sIf fc s1 s2) :=
  ⟨sIf_mono hc.m h1.m h2.m, PS.imp (ps_if hc.p h1.p h2.p) fun Dn σ H q => by
    obtain ⟨ρ, env, h, m, hf⟩ := q
    refine ⟨ρ, env, h, m, hc.m.mo (fun x h1' q1 => ?_) (QD.x m) hf⟩
    cases x with
    | bl k =>
      intro ρ1 H1 st1
      cases k with
      | true =>
        rw [if_pos rfl]
        exact ⟨ρ1, env, h1', m.step st1, h1.m.mo (QD.step st1) q1⟩
      | false =>
        rw [if_neg Bool.false_ne_true]
        exact ⟨ρ1, env, h1', m.step st1, h2.m.mo (QD.step st1) q1⟩
    | _ => exact q1⟩
theorem lS_asg {Dn : Ends} {σ : L2.St} {H : Hp} (m1 : MonE f) (q : lS (gd X T) W (sAsg f t) Dn σ H) : tAsg (lE (gd X T) W f) (lG (gd X T) t) Dn σ H := by
  obtain ⟨ρ, env, h, m, hf⟩ := q
  refine ⟨ρ, env, h, m, m1.mo (fun x h1 q1 => ?_) (QD.x m) hf⟩
  intro ρ1 v H1 st1 r1
  cases ea : asgT t x h1 env with
  | none => rw [ea] at q1; exact q1.elim
  | some e1 =>
    rw [ea] at q1
    exact ⟨ρ1, env, h1, x, e1, m.step st1, r1, ea, fun σ' m' _ => q1 ρ1 σ' H1 st1 m'⟩
theorem s_asg (h : SE X T W e f) (hg : SG X T tg t) (hs : swapsWithSole [tg] e pos.line X.env = pure false := by rfl) (hw : swappedStores [tg] e X.env = pure none := by rfl)
    (h1 : (assignEach [tg] X.env).map (·.2) = [assign tg X.env] := by rfl) : SS X T W (.Assign [tg] e pos) (sAsg f t) :=
  ⟨sAsg_mono h.m, PS.imp (ps_asg h.p hg.p hs hw h1) fun Dn σ H q => lS_asg h.m q⟩
/-- name = value -/
theorem s_set {j : Nat} (hN : X.N.Nodup) (hi : X.N[j]? = some x) (hx : Loc X.env.scope x) (h : SE X T W e f) (hs : swapsWith e (some (.Name x p)) pos.line X.env = pure false := by rfl) (hf : X.fn x = true ∨ X.env.scope.names.lookup x = some .local := by first | exact .inl rfl | exact .inr rfl | assumption) :
    SS X T W (.Assign [.Name x p] e pos) (sAsg f (.nm j)) :=
  ⟨sAsg_mono h.m, PS.imp (ps_set hN hi hx h.p hs hf) fun Dn σ H q => by
    obtain ⟨ρ, env, hh, m, hf⟩ := q
    refine ⟨ρ, env, hh, m, h.m.mo (fun x h1 q1 => ?_) (QD.x m) hf⟩
    intro ρ1 v H1 st1 r1
    exact q1 ρ1 _ H1 st1 ((m.step st1).set j r1)⟩
theorem s_par {i1 j1 k0 k2} {p2 : Pos} (hc : X.calm = true) (hN : X.N.Nodup) (hi : X.N[i1]? = some x) (hj : X.N[j1]? = some y) (hij : i1 ≠ j1)
    (hx : X.env.scope.names.lookup x = some .local) (hy : X.env.scope.names.lookup y = some .local) (ha : SA X T W [a, b] ft) (hw : swappedStores [.Tuple [.Name x px, .Name y py] k0 pt] (.Tuple [a, b] k2 p2) X.env = pure (some [x, y]) := by rfl)
    (hs : swapsWithSole [.Tuple [.Name x px, .Name y py] k0 pt] (.Tuple [a, b] k2 p2) pos.line X.env = pure false := by rfl) :
    SS X T W (.Assign [.Tuple [.Name x px, .Name y py] k0 pt] (.Tuple [a, b] k2 p2) pos) (sPar ft (.cons (.nm i1) (.cons (.nm j1) .nil))) :=
  ⟨sPar_mono ha.m, PS.imp (ps_par hc hN hi hj hij hx hy ha.p hw hs) fun Dn σ H q => by
    obtain ⟨ρ, env, h, m, hf⟩ := q
    refine ⟨ρ, env, h, m, ha.m.mo (fun xs h1 q1 => ?_) (QD.x m) hf⟩
    intro ρ1 vs H1 st1 r1
    cases ea : asgL (.cons (.nm i1) (.cons (.nm j1) .nil)) xs h1 env with
    | none => rw [ea] at q1; exact q1.elim
    | some e1 =>
      rw [ea] at q1
      have hl := asgL_len ea
      match xs, hl, r1, ea with
      | [d1, d2], _, .cons r1 (.cons r2 .nil), ea =>
        simp only [asgL, asgT] at ea
        cases ea
        exact ⟨_, _, rfl, q1 ρ1 _ H1 st1 (((m.step st1).set i1 r1).set j1 r2)⟩⟩
theorem s_par3 {z : Str} {i1 j1 l1 k0 k2} {p2 pz : Pos} (hc : X.calm = true) (hN : X.N.Nodup) (hi : X.N[i1]? = some x) (hj : X.N[j1]? = some y) (hl : X.N[l1]? = some z) (hij : i1 ≠ j1) (hil : i1 ≠ l1) (hjl : j1 ≠ l1)
    (hx : X.env.scope.names.lookup x = some .local) (hy : X.env.scope.names.lookup y = some .local) (hz : X.env.scope.names.lookup z = some .local) (ha : SA X T W [a, b, c] ft)
    (hw : swappedStores [.Tuple [.Name x px, .Name y py, .Name z pz] k0 pt] (.Tuple [a, b, c] k2 p2) X.env = pure (some [x, y, z]) := by rfl)
    (hs : swapsWithSole [.Tuple [.Name x px, .Name y py, .Name z pz] k0 pt] (.Tuple [a, b, c] k2 p2) pos.line X.env = pure false := by rfl) :
    SS X T W (.Assign [.Tuple [.Name x px, .Name y py, .Name z pz] k0 pt] (.Tuple [a, b, c] k2 p2) pos) (sPar ft (.cons (.nm i1) (.cons (.nm j1) (.cons (.nm l1) .nil)))) :=
  ⟨sPar_mono ha.m, PS.imp (ps_par3 hc hN hi hj hl hij hil hjl hx hy hz ha.p hw hs) fun Dn σ H q => by
    obtain ⟨ρ, env, h, m, hf⟩ := q
    refine ⟨ρ, env, h, m, ha.m.mo (fun xs h1 q1 => ?_) (QD.x m) hf⟩
    intro ρ1 vs H1 st1 r1
    cases ea : asgL (.cons (.nm i1) (.cons (.nm j1) (.cons (.nm l1) .nil))) xs h1 env with
    | none => rw [ea] at q1; exact q1.elim
    | some e1 =>
      rw [ea] at q1
      have hl := asgL_len ea
      match xs, hl, r1, ea with
      | [d1, d2, d3], _, .cons r1 (.cons r2 (.cons r3 .nil)), ea =>
        simp only [asgL, asgT] at ea
        cases ea
        exact ⟨_, _, _, rfl, q1 ρ1 _ H1 st1 ((((m.step st1).set i1 r1).set j1 r2).set l1 r3)⟩⟩
/-- name = [..] on one line -/
theorem s_setLc {j : Nat} {elt : Expr} {scope : Scope} {own : List (Str × Nat)} {ifs : List Expr} {fcc : Option FE} (hc : X.calm = true) (hN : X.N.Nodup) (hy : X.N[j]? = some y) (hyl : X.env.scope.names.lookup y = some .local)
    (hi : SI X T W tg iter it) (ok : BlkOk X.N X.env.scope scope own) (hsl : ∀ i ∈ t.slots, i ∈ own.map (·.2))
    (hg : ∀ (s : Shared) (H : Hp) (C : Addr) (cl : List (Str × Addr)) (fp : List Addr), SG (X.blk s H scope (compEnvC scope cl C X.env) fp) T tg t) (ht : SC (fun s H C cl fp => X.blk s H scope (compEnvC scope cl C X.env) fp) T ifs fcc)
    (he : ∀ (s : Shared) (H : Hp) (C : Addr) (cl : List (Str × Addr)) (fp : List Addr), SE (X.blk s H scope (compEnvC scope cl C X.env) fp) T W0 elt fe)
    (hsw : swapsWith (.ListComp elt [⟨tg, iter, ifs, 0⟩] scope p) (some (.Name y py)) pos.line X.env = pure true := by rfl) (hs : ∀ x, foldedSetIterable iter X.env x = pure x := by intro _; rfl) :
    SS X T W (.Assign [.Name y py] (.ListComp elt [⟨tg, iter, ifs, 0⟩] scope p) pos) (sAsg (fNewL (fComp it t (own.map (·.2)) fcc fe)) (.nm j)) := by
  have mc := ht.mc X.s_0 X.H_0
  have me : MonE fe := (he X.s_0 X.H_0 0 [] []).m
  have ml : MonA (fComp it t (own.map (·.2)) fcc fe) := fComp_mono hi.m mc me
  refine ⟨sAsg_mono ⟨fun kQ kE q => ml.mo (fun _ _ q1 => kQ _ _ q1) kE q⟩, PS.imp (ps_setLc (g := lG (gd X T) t) (te := lE (gd X T) W0 fe) hc hN hy hyl hsw hi.p ok (fun s H C cl fp => (hg s H C cl fp).p) ht.pts (fun s H C cl fp => (he s H C cl fp).p) hs) fun Dn σ H q => ?_⟩
  obtain ⟨ρ, env, h, m, hf⟩ := q
  refine lc_key hi.m mc me hsl ⟨ρ, env, h, m, ml.mo (fun ds h1 q1 => ?_) (QD.x m) hf⟩
  intro ρ1 H1 p vs st1 hp hfr h0 r
  have st2 := st1.adopt h0 hp hfr r
  have e : V.ref p = V.ref (ext ρ1 h1.length p h1.length) := by rw [ext_self]
  rw [e]
  exact q1 _ _ _ st2 ((m.step st2).set j (.ref (by simp)))
/-! #### stores by index -/
def rSet (G : Gd) : TSet := fun o i v H Q => ∃ ρ h od di dv h', VOk G H ρ h ∧ Rp G H ρ h.length od o ∧ Rp G H ρ h.length di i ∧ Rp G H ρ h.length dv v ∧ gSet od di dv h = some h' ∧ ∀ H', Stp G ρ h H ρ h' H' → Q H'
theorem set_all : PSet X (rSet (gd X T)) := by
  intro pins s σ H o i v ov iv u Q I ro ri rv hh
  obtain ⟨ρ, h, od, di, dv, h', ok, r1, r2, r3, e, k⟩ := hh
  unfold gSet at e
  split at e
  · rename_i kk n
    cases el : lstAt h kk with
    | none => simp only [el] at e; cases e
    | some ds =>
      simp only [el] at e
      cases ej : ixN ds.length n with
      | none => simp only [ej] at e; cases e
      | some j =>
        simp only [ej] at e
        cases e
        cases r1
        cases r2
        obtain ⟨xs, e1, t1, hk⟩ := ok.lst el
        exact set_list pins s σ H _ _ v ov iv u Q I ro ri rv ⟨_, xs, _, j, rfl, rfl, e1, by rw [← t1.length]; exact ej, k _ (Stp.write ok hk (RpA.set r3 j t1))⟩
  · cases e
theorem get_all : PGet X (rOf (gd X T) gIxL) := by
  intro pins s σ H o i ov iv Q I ro ri hh
  obtain ⟨ρ, h, dx, dy, ok, r1, r2, hf⟩ := hh
  unfold gIxL at hf
  split at hf
  · cases r1 with
    | ref hk =>
      rename_i kk
      cases r2 with
      | int n =>
        simp only [gIx] at hf
        cases el : lstAt h kk with
        | none => rw [el] at hf; exact hf.elim
        | some ds =>
          rw [el] at hf
          simp only at hf
          cases ea : atI ds n with
          | none => rw [ea] at hf; exact hf.elim
          | some d =>
            rw [ea] at hf
            obtain ⟨xs, e1, t1, _⟩ := ok.lst el
            obtain ⟨z, ez, rz⟩ := atI_rp t1 ea
            cases ro
            obtain ⟨t, rfl⟩ := ri
            obtain ⟨its, r, pl, hz⟩ := I.list (SqL.of e1)
            obtain ⟨j, h1, h2, h3, h4, h5⟩ := atI_get ez
            obtain ⟨w, ew, rw'⟩ := r.get h2
            have hl := r.length
            have hn := line63
            have fin : EP X pins σ Q w s := ⟨z, H, I, rw', fin_val ok rz hf⟩
            by_cases h0 : 0 ≤ n
            · have hj : n.toNat = j := by
                rw [seqIndex_of h0 h5] at h1
                exact Option.some.inj h1
              exact wpAny_getItem_list pl.isList h0 (by omega) (by rw [hj]; simpa using ew) fin
            · have hj : (n + (its.toArray.size : Int)).toNat = j := by
                rw [seqIndex_neg (by omega) h4] at h1
                rw [List.size_toArray, ← hl]
                exact Option.some.inj h1
              exact wpAny_getItem_list_neg pl.isList (by omega) (by rw [List.size_toArray] <;> omega) (by omega) (by rw [hj]; simpa using ew) fin
      | _ => exact hf.elim
  · exact hf.elim
theorem s_setix {tpos : Pos} (ho : SE X T W o fo) (hi : SE X T W i fi) (he : SE X T W e fe) (hs : swapsWithSole [.Subscript o i tpos] e pos.line X.env = pure false := by rfl) (hw : swappedStores [.Subscript o i tpos] e X.env = pure none := by rfl)
    (h1 : (assignEach [.Subscript o i tpos] X.env).map (·.2) = [assign (.Subscript o i tpos) X.env] := by rfl)
    (ha : ∀ v, assign (.Subscript o i tpos) X.env v = (do
      let ov ← holding [v] (eval o X.env)
      let iv ← holding [v, ov] (eval i X.env)
      standAt tpos
      holding [v, ov, iv] (setItem ov iv v)
      release [v, ov, iv] []) := by intro _; rfl) : SS X T W (.Assign [.Subscript o i tpos] e pos) (sSet fo fi fe) :=
  ⟨sSet_mono ho.m hi.m he.m, PS.imp (ps_asg he.p (pg_sub ho.p hi.p (set_all (T := T)) ha) hs hw h1) fun Dn σ H q => by
    obtain ⟨ρ, env, h, m, hf⟩ := q
    refine ⟨ρ, env, h, m, he.m.mo (fun x h1 q1 => ?_) (QD.x m) hf⟩
    intro ρ1 v H1 st1 r1
    refine ⟨ρ1, env, h1, m.step st1, ho.m.mo (fun y h2 q2 => ?_) (fun c d h' z => (QD.x m c d h' z).step st1) q1⟩
    intro ρ2 w H2 st2 r2
    have st12 := st1.trans st2
    refine ⟨ρ2, env, h2, m.step st12, hi.m.mo (fun y3 h3 q3 => ?_) (fun c d h' z => (QD.x m c d h' z).step st12) q2⟩
    intro ρ3 w3 H3 st3 r3
    have st13 := st12.trans st3
    cases eg : gSet y y3 x h3 with
    | none => rw [eg] at q3; exact q3.elim
    | some h4 =>
      rw [eg] at q3
      exact ⟨ρ3, h3, y, y3, x, h4, st3.ok, st3.rp st2.ok r2, r3, (st2.trans st3).rp st1.ok r1, eg, fun H' st4 => q3 ρ3 σ H' (st13.trans st4) (m.step (st13.trans st4))⟩⟩
/-! #### in place -/
theorem ip_all (op : Bop) : PIp X op.op (rOf (gd X T) (gInp op)) := by
  intro pins s σ H x y v u Q I rx ry hh
  obtain ⟨ρ, h, dx, dy, ok, r1, r2, hf⟩ := hh
  cases op with
  | add =>
    simp only [gInp] at hf
    split at hf
    · cases r1
      cases r2
      exact ip_add pins s σ H _ _ v u Q I rx ry ⟨_, _, rfl, rfl, fin_val ok (.int _) hf⟩
    · split at hf
      · rename_i hl
        cases r1
        cases r2
        exact iop_add_str pins s σ H _ _ v u Q I rx ry ⟨_, _, rfl, rfl, by rw [← line_eq]; exact hl, fin_val ok (.str _) hf⟩
      · exact hf.elim
    · exact hf.elim
  | sub =>
    simp only [gInp] at hf
    cases r1 with
    | int i => cases r2 with
      | int j => exact ip_sub pins s σ H _ _ v u Q I rx ry ⟨i, j, rfl, rfl, fin_val ok (.int _) hf⟩
      | _ => exact hf.elim
    | _ => exact hf.elim
  | _ => exact hf.elim
theorem s_aug {j : Nat} (op : Bop) (hN : X.N.Nodup) (hi : X.N[j]? = some x) (hx : Loc X.env.scope x) (he : SE X T W e f) (hf : X.fn x = true ∨ X.env.scope.names.lookup x = some .local := by first | exact .inl rfl | exact .inr rfl | assumption) : SS X T W (.AugAssign (.Name x p) op.op e pos) (sAug j op f) :=
  ⟨sAug_mono he.m, PS.imp (ps_aug hN hi hx he.p (ip_all (T := T) op) hf) fun Dn σ H q => by
    obtain ⟨ρ, env, h, m, hff⟩ := q
    unfold sAug at hff
    split at hff
    · rename_i d e1
      obtain ⟨v, ev, rv⟩ := m.env j d e1
      refine ⟨v, ev, ρ, env, h, m, he.m.mo (fun y h1 q1 => ?_) (QD.x m) hff⟩
      intro ρ1 w H1 st1 r1
      refine ⟨ρ1, h1, d, y, st1.ok, st1.rp m.ok rv, r1, fin_mono (fun z h2 q2 => ?_) q1⟩
      intro ρ2 z' H2 st2 r2
      exact q2 ρ2 _ H2 (st1.trans st2) ((m.step (st1.trans st2)).set j r2)
    · exact hff.elim⟩
theorem s_augS {tpos : Pos} (op : Bop) (ho : SE X T W o fo) (hi : SE X T W i fi) (he : SE X T W e fe) (ha : ∀ ov iv new, augStore i ov iv new = (do holding [new, ov, iv] (setItem ov iv new); release [new, ov, iv] []; pure .next) := by intros; rfl) :
    SS X T W (.AugAssign (.Subscript o i tpos) op.op e pos) (sAugS fo fi op fe) :=
  ⟨sAugS_mono ho.m hi.m he.m, PS.imp (ps_augS ho.p hi.p (get_all (T := T)) he.p (ip_all (T := T) op) (set_all (T := T)) ha) fun Dn σ H q => by
    obtain ⟨ρ, env, h, m, hf⟩ := q
    refine ⟨ρ, env, h, m, ho.m.mo (fun x h1 q1 => ?_) (QD.x m) hf⟩
    intro ρ1 v H1 st1 r1
    refine ⟨ρ1, env, h1, m.step st1, hi.m.mo (fun y h2 q2 => ?_) (fun c d h' z => (QD.x m c d h' z).step st1) q1⟩
    intro ρ2 w H2 st2 r2
    have st12 := st1.trans st2
    refine ⟨ρ2, h2, x, y, st2.ok, st2.rp st1.ok r1, r2, fin_mono (fun old h3 q3 => ?_) q2⟩
    intro ρ3 w3 H3 st3 r3
    have st13 := st12.trans st3
    refine ⟨ρ3, env, h3, m.step st13, he.m.mo (fun y4 h4 q4 => ?_) (fun c d h' z => (QD.x m c d h' z).step st13) q3⟩
    intro ρ4 w4 H4 st4 r4
    have st14 := st13.trans st4
    refine ⟨ρ4, h4, old, y4, st4.ok, st4.rp st3.ok r3, r4, fin_mono (fun z h5 q5 => ?_) q4⟩
    intro ρ5 w5 H5 st5 r5
    have st15 := st14.trans st5
    cases eg : gSet x y z h5 with
    | none => rw [eg] at q5; exact q5.elim
    | some h6 =>
      rw [eg] at q5
      exact ⟨ρ5, h5, x, y, z, h6, st5.ok, ((st2.trans st3).trans (st4.trans st5)).rp st1.ok r1, (st3.trans (st4.trans st5)).rp st2.ok r2, r5, eg, fun H' st6 => q5 ρ5 σ H' (st15.trans st6) (m.step (st15.trans st6))⟩⟩
/-! #### loops -/
theorem s_while (hp : PassesOwn (model X.prog X.w) X.A X.env X.xe) (hc : ST X T W c fc) (hb : SSs X T W body s1) : SS X T W (.While c body [] pos) (sWhile fc s1) :=
  ⟨sWhile_mono hc.m hb.m, PS.imp (ps_while hp hc.p hb.p) fun Dn σ H q => by
    obtain ⟨ρ, env, h, m, hf⟩ := q
    refine ⟨fun n σ1 H1 => ∃ ρ1 env1 h1, Stp (gd X T) ρ h H ρ1 h1 H1 ∧ M (gd X T) ρ1 env1 h1 σ1 H1 ∧ whL fc s1 n env1 h1 (QD (gd X T) ρ h H W Dn), ⟨fuel, ρ, env, h, Stp.refl m.ok, m, hf⟩, ?_⟩
    rintro n σ1 H1 ⟨ρ1, env1, h1, st1, m1, q1⟩
    cases n with
    | zero => exact q1.elim
    | succ n =>
      refine ⟨ρ1, env1, h1, m1, hc.m.mo (fun x h2 q2 => ?_) (fun c d h' z => QD.x (D := Dn) m1 c d h' ((QD.step st1).ex c d env1 h' z)) q1⟩
      cases x with
      | bl k =>
        intro ρ2 H2 st2
        cases k with
        | true =>
          rw [if_pos rfl]
          refine ⟨fun σ3 H3 => ∃ ρ1 env1 h1, Stp (gd X T) ρ h H ρ1 h1 H3 ∧ M (gd X T) ρ1 env1 h1 σ3 H3 ∧ whL fc s1 n env1 h1 (QD (gd X T) ρ h H W Dn), fun σ3 H3 z => ⟨n, Nat.lt_succ_self _, z⟩, ?_⟩
          have st12 := st1.trans st2
          refine ⟨ρ2, env1, h2, m1.step st2, hb.m.mo (b := QD (gd X T) ρ2 h2 H2 W { Dn with nx := fun σ3 H3 => ∃ ρ1 env1 h1, Stp (gd X T) ρ h H ρ1 h1 H3 ∧ M (gd X T) ρ1 env1 h1 σ3 H3 ∧ whL fc s1 n env1 h1 (QD (gd X T) ρ h H W Dn), ct := fun σ3 H3 => ∃ ρ1 env1 h1, Stp (gd X T) ρ h H ρ1 h1 H3 ∧ M (gd X T) ρ1 env1 h1 σ3 H3 ∧ whL fc s1 n env1 h1 (QD (gd X T) ρ h H W Dn), bk := Dn.nx }) ⟨fun e h' z => ?_, fun d h' z => QV.step st12 z, fun e h' z => QN.step st12 z, fun e h' z => ?_, fun c d e h' z => QXs.step st12 z⟩ q2⟩
          · intro ρ' σ' H' st' m'
            exact ⟨ρ', e, h', st12.trans st', m', z⟩
          · intro ρ' σ' H' st' m'
            exact ⟨ρ', e, h', st12.trans st', m', z⟩
        | false =>
          rw [if_neg Bool.false_ne_true]
          exact q2 ρ2 σ1 H2 (st1.trans st2) (m1.step st2)
      | _ => exact q2⟩
theorem s_for (hp : PassesOwn (model X.prog X.w) X.A X.env X.xe) (hcalm : X.calm = true) (hi : SI X T W tg iter it) (hg : SG X T tg t) (hb : SSs X T W body s1) (hs : ∀ x, foldedSetIterable iter X.env x = pure x := by intro _; rfl) : SS X T W (.For tg iter body [] pos) (sFor it t s1) :=
  ⟨sFor_mono hi.m hb.m, PS.imp (ps_for hp hcalm hi.p hg.p hb.p hs) fun Dn σ H q => by
    obtain ⟨ρ, env, h, m, hf⟩ := q
    refine ⟨ρ, env, h, m, hi.m.mo (fun itf h1 q1 => ?_) (QD.x m) hf⟩
    intro ρ1 J H1 st1 ir
    refine ⟨fun i n σ2 H2 => ∃ ρ2 env2 h2, Stp (gd X T) ρ h H ρ2 h2 H2 ∧ Stp (gd X T) ρ1 h1 H1 ρ2 h2 H2 ∧ M (gd X T) ρ2 env2 h2 σ2 H2 ∧ foL itf t s1 n i env2 h2 (QD (gd X T) ρ h H W Dn), ⟨fuel, ρ1, env, h1, st1, Stp.refl st1.ok, m.step st1, q1⟩, ?_⟩
    rintro i n σ2 H2 ⟨ρ2, env2, h2, st2, st12, m2, q2⟩
    cases n with
    | zero => exact q2.elim
    | succ n =>
      unfold foL at q2
      cases e : itf i h2 with
      | none => simp only [e] at q2
      | some o =>
        cases o with
        | none =>
          simp only [e] at q2
          exact .inl ⟨ir.stop i ρ2 h2 H2 st12 e, q2 ρ2 σ2 H2 st2 m2⟩
        | some d =>
          simp only [e] at q2
          refine .inr ⟨ir.go i ρ2 h2 H2 d st12 e, (fun σ3 H3 => ∃ ρ2 env2 h2, Stp (gd X T) ρ h H ρ2 h2 H3 ∧ Stp (gd X T) ρ1 h1 H1 ρ2 h2 H3 ∧ M (gd X T) ρ2 env2 h2 σ3 H3 ∧ foL itf t s1 n (i + 1) env2 h2 (QD (gd X T) ρ h H W Dn)), fun σ' H' z => ⟨n, Nat.lt_succ_self _, z⟩, fun x H' hy => ?_⟩
          obtain ⟨ρ3, st3, r3⟩ := ir.yld i ρ2 h2 H2 d x H' st12 e hy
          cases ea : asgT t d h2 env2 with
          | none => simp only [ea] at q2
          | some env3 =>
            simp only [ea] at q2
            refine ⟨ρ3, env2, h2, d, env3, m2.step st3, r3, ea, fun σ3 m3 _ => ?_⟩
            have st23 := st2.trans st3
            refine ⟨ρ3, env3, h2, m3, hb.m.mo (b := QD (gd X T) ρ3 h2 H' W { Dn with nx := fun σ3 H3 => ∃ ρ2 env2 h2, Stp (gd X T) ρ h H ρ2 h2 H3 ∧ Stp (gd X T) ρ1 h1 H1 ρ2 h2 H3 ∧ M (gd X T) ρ2 env2 h2 σ3 H3 ∧ foL itf t s1 n (i + 1) env2 h2 (QD (gd X T) ρ h H W Dn), ct := fun σ3 H3 => ∃ ρ2 env2 h2, Stp (gd X T) ρ h H ρ2 h2 H3 ∧ Stp (gd X T) ρ1 h1 H1 ρ2 h2 H3 ∧ M (gd X T) ρ2 env2 h2 σ3 H3 ∧ foL itf t s1 n (i + 1) env2 h2 (QD (gd X T) ρ h H W Dn), bk := Dn.nx }) ⟨fun e h' z => ?_, fun d h' z => QV.step st23 z, fun e h' z => QN.step st23 z, fun e h' z => ?_, fun c d e h' z => QXs.step st23 z⟩ q2⟩
            · intro ρ' σ' H' st' m'
              exact ⟨ρ', e, h', st23.trans st', (st12.trans st3).trans st', m', z⟩
            · intro ρ' σ' H' st' m'
              exact ⟨ρ', e, h', st23.trans st', (st12.trans st3).trans st', m', z⟩⟩
end
end Ev

set_option Elab.async false
set_option linter.all false
set_option maxRecDepth 100000
/-! Ev6a: an own exception (below ValueError) whose __init__ says super().__init__(value); self.value = value. -/
namespace Ev
open PySem PySem.Spec PyProof.Rows L2 NdefX

/-- what the written part says of the __init__ at f, of the class at D -/
structure IniK (P : Program) (K : PySem.W.Frag) (mg : Str → Option Value) (D f : Addr) (qual : Str) (params : Arguments) (body : List Stmt) (scope : Scope) (oc : Value) (od : Option Addr) (osl : Array (Option Value)) (kV doc pm ct : Value) (an : Option Addr) (cc cD : Addr) : Prop where
  lk : K.lookup f = some ⟨oc, od, .func (PySem.W.fnX "__init__" qual params body scope [("__class__", cc)] .none kV doc pm an (.ref cD) ct), osl⟩
  code : PySem.W.codeIn K (.ref cD) qual = true
  cell : ∃ c1 c2 c3, K.lookup cc = some ⟨c1, c2, .cell (some (.ref D)), c3⟩
  cls : ∃ cd, PySem.W.clsIn K D = some cd
  file : ∃ c1 c2 vs c3 fl tf, K.lookup cD = some ⟨c1, c2, .fields vs, c3⟩ ∧ vs[2]? = some (.str fl tf) ∧ ((P.main.file : Str) == fl) = true
  sup : mg "super" = none
  top : (P.main.scope.names.lookup ("super" : Str)).isSome = false
  stat : PySem.W.nsIn K cStatics "thirdparty.any" = some none
/-- of a class below D -/
structure IniC (K : PySem.W.Frag) (D C : Addr) : Prop where
  o : OexC K C
  sup : PySem.W.ks_superIn K C D "__init__" = some (some (.builtin "ValueError.__init__"))
  ve : PySem.W.subIn K (.ref C) (.type "ValueError") = some true
  mro : PySem.W.mroIn K C (.ref D) = some true
  no : PySem.W.findIn K (.ref C) "value" = some none
def spIni (K : PySem.W.Frag) (D : Addr) : Sp := fun vs H Q _ => ∃ a C v, vs = [.ref a, v] ∧ IniC K D C ∧ H a = some (exo a C none) ∧ ∀ dx, H dx = none → dx ≠ a → Q .non (upd (upd H dx (exd dx [("value", v)])) a (exo a C (some dx)))
section
variable {prog : Program} {w : World} {A : Around} {E : Value → Shared → Prop} {h : Heap} {g : Array GenState} {d : Drawn} {t : Nat} {os : OsState}
open PySem.W in
/-- the bound ValueError.__init__ is called -/
theorem call_mwV {X : Cx} {pins : List (Addr × Obj)} {σ : L2.St} {H : Hp} {s : Shared} {u a C : Addr} {us : List Value} {Q : Value → Shared → Prop} {E : Value → Shared → Prop} (T : OexC X.K C) (I : Inv X pins σ H s) (e : H a = some (exo a C none)) (hu : s.heap.get? u = some (kxs_mw "ValueError.__init__" a)) (hz : us.length ≤ sizeLine)
    (hq : ∀ s', Inv X pins σ H s' → Q .none s') : wpAny (model X.prog X.w) X.A (call (.ref u) us) Q E s := by
  obtain ⟨nm, q, N, bs, bm, sn, sub, ab, col, dd, k0, k1, k2, k3, k5, hC, hbm⟩ := T.cls
  obtain ⟨t1, ho⟩ := exo_at I.hok e
  obtain ⟨hp, g, d, tk, os⟩ := s
  refine wpAny_call (codeAny_of_tree ?_)
  show wpAny _ X.A.in1 (callAny (.ref u) ⟨us, []⟩) _ _ _
  simp only [callAny]
  refine wpAny_bind (wpAny_load hu ?_)
  simp only [kxs_mw, show (Value.type "method-wrapper" == Value.type "method" || Value.type "method-wrapper" == Value.type "builtin_function_or_method" || Value.type "method-wrapper" == Value.type "method-wrapper") = true by decide, if_true]
  refine KFB.if_so (by decide) ?_
  refine wpAny_bind (check_bound_init F.excBase_ValueError.toExcCallFacts (I.kIn _ _ hC) ho rfl ?_)
  refine wpAny_bind (wpAny_pure (wpAny_pure ?_))
  refine ⟨plainId_quiet F.excBase_ValueError.init.plain _, codeAny_builtin F.excBase_ValueError.initEntry ?_⟩
  refine exc_init_tree (cls := .ref C) (t0 := t1) (dv := none) (c2 := .none) (c3 := .none) (b4 := .bool false) ho hz fun h' k hx hy => ?_
  have J := I.write (t' := tk) (x := a) (e := a) (o := exo a C none) (by rw [e]; exact True.intro) (.inl rfl) k ⟨_, hx⟩ (exo_ok hx)
  have eu : upd H a (exo a C none) = H := by
    funext b
    by_cases hb : b = a
    · rw [hb, upd_same, e]
    · rw [upd_ne hb]
  rw [eu] at J
  exact hq _ J
end
section
variable {P : Program} {w : World} {K : PySem.W.Frag} {mg : Str → Option Value} {base : Heap} {D f : Addr} {qual : Str} {params : Arguments} {scope : Scope} {oc : Value} {od : Option Addr} {osl : Array (Option Value)} {kV doc pm ct : Value} {an : Option Addr} {cc cD : Addr} {k : Nat}
  {p0 p1 p2 p3 p4 p5 p6 p7 p8 p9 : Pos}
/-- the body -/
abbrev iniBody (p0 p1 p2 p3 p4 p5 p6 p7 p8 p9 : Pos) : List Stmt := [.Expr (.Call (.Attribute (.Call (.Name "super" p0) [] [] p1) "__init__" p2) [.Name "value" p3] [] p4) p5, .Assign [.Attribute (.Name "self" p6) "value" p7] (.Name "value" p8) p9]
open PySem.W in
theorem ini_ok {body : List Stmt} (eb : body = iniBody p0 p1 p2 p3 p4 p5 p6 p7 p8 p9) (F : IniK P K mg D f qual params body scope oc od osl kV doc pm ct an cc cD)
    (S : NScope ["self", "value", "__class__"] ["self", "value"] ["__class__"] scope) (hsup : scope.names.lookup ("super" : Str) = some .globalImplicit) (har : ∃ ar r, params.posonlyargs ++ params.args = ar :: r ∧ ar.arg = ("self" : Str))
    (hev : ∀ env, ∃ pl, eval (.Call (.Attribute (.Call (.Name "super" p0) [] [] p1) "__init__" p2) [.Name "value" p3] [] p4) env = (do
      let ov ← attributeBase (.Call (.Name "super" p0) [] [] p1) "__init__" env (eval (.Call (.Name "super" p0) [] [] p1) env)
      standAt p2.atName
      let (f, first) ← holding [ov] (getMethod ov "__init__" pl)
      callWith p4 f first (backTo p4 (starEach [.Name "value" p3] env)) [])) (hsw1 : ∀ env, swapsWith (.Call (.Attribute (.Call (.Name "super" p0) [] [] p1) "__init__" p2) [.Name "value" p3] [] p4) none p5.line env = pure false) :
    FnOk P w K mg base (L2.CX P w) (k + 1) f (fnX "__init__" qual params body scope [("__class__", cc)] .none kV doc pm an (.ref cD) ct) ["self", "value"] (spIni K D) := by
  subst eb
  refine ⟨fun vs H Q E ⟨a, C, v, e, _⟩ => by rw [e]; rfl, fun A outer s H args us vs Q E hr e0 hb r hsp => ?_⟩
  obtain ⟨a, C, v, rfl, IC, ea, hq⟩ := hsp
  have KX : K.In s.heap := e0.mod.kin.keeps fun b o e => (e0.bs b o e).1
  have lim : s.heap.NoLimit := e0.mod.nolimit.keeps fun b o e => (e0.bs b o e).1
  obtain ⟨c1, c2, c3, hcell⟩ := F.cell
  obtain ⟨cdD, hcls⟩ := F.cls
  obtain ⟨f1, f2, fvs, f3, fl, tf, hcode, hfl, hfile⟩ := F.file
  obtain ⟨ar, arr, harq, hself⟩ := har
  refine ks_codeAny_call_defAt hr.depth (KX _ _ F.lk) rfl lim (codeRec_of KX F.code) rfl hb S.nocell (fun ⟨n, _⟩ hy => S.par n (List.of_mem_zip hy).1) (fun h₀ hns kp => ?_) S.co S.gen S.kind
  have hl : us.length = 2 := by rw [← r.length]; rfl
  let NFf : NF := ⟨"__init__", qual, params, iniBody p0 p1 p2 p3 p4 p5 p6 p7 p8 p9, scope, [("__class__", cc)], cD⟩
  have CA : CellsAt NFf.cl ["__class__"] [some (.ref D)] s.heap H := by
    have look : ∀ y c, NFf.cl.lookup y = some c → y = ("__class__" : Str) ∧ c = cc := fun y c e => by
      have e : ([("__class__", cc)] : List (Str × Addr)).lookup y = some c := e
      rw [List.lookup_cons] at e
      cases q : (y == ("__class__" : Str)) with
      | true => rw [q] at e; exact ⟨beq_iff_eq.mp q, (Option.some.inj e).symm⟩
      | false => rw [q] at e; cases e
    have hcc : s.heap.get? cc = some ⟨c1, c2, .cell (some (.ref D)), c3⟩ := KX _ _ hcell
    refine ⟨rfl, fun y c e => ?_, fun x y c e1 e2 => ?_, fun i y e => ?_⟩
    · obtain ⟨_, rfl⟩ := look y c e
      exact ⟨(e0.bs _ _ (e0.mod.kin _ _ hcell)).2, _, ⟨_, hcc, rfl⟩⟩
    · rw [(look x c e1).1, (look y c e2).1]
    · cases i with
      | zero =>
        cases e
        refine ⟨cc, by rfl, fun v hv => ?_⟩
        have hv : some (some (V.ref D)) = some (some v) := hv
        cases hv
        exact ⟨.ref D, rfl, ⟨_, hcc, rfl⟩⟩
      | succ i => simp at e
  have I : Inv (ncx (L2.CX P w) P w K mg base ["self", "value", "__class__"] NFf f A outer s H E) [] (startF ["self", "value", "__class__"] [.ref a, v] [some (.ref D)]) H { s with heap := h₀, toks := s.toks + ((["self", "value"] : List Str).zip us).length } :=
    inv_startN (F := NFf) S hr.hd e0 rfl r CA hns kp
  generalize hs1 : ({ s with heap := h₀, toks := s.toks + ((["self", "value"] : List Str).zip us).length } : Shared) = s1 at I ⊢
  have fin : ∀ {σ' : L2.St} {H' : Hp} {v : V} {u : Value} {s' : Shared}, Inv (ncx (L2.CX P w) P w K mg base ["self", "value", "__class__"] NFf f A outer s H E) [] σ' H' s' → L2.RelV v u → Q v H' → CE outer P w H s Q u s' :=
    fun {σ' H' v u s'} J rv q => ⟨v, H', J.os, J.bare, J.base, J.hok, rv, q⟩
  show _root_.PySem.wpAt (model P w) (A.deeper (envF NFf f s.heap.objs.size)) (.func NFf.body (envF NFf f s.heap.objs.size)) (execs (iniBody p0 p1 p2 p3 p4 p5 p6 p7 p8 p9) (envF NFf f s.heap.objs.size)) _ _ s1
  -- the second statement
  have two : ∀ s2, Inv (ncx (L2.CX P w) P w K mg base ["self", "value", "__class__"] NFf f A outer s H E) [] (startF ["self", "value", "__class__"] [.ref a, v] [some (.ref D)]) H s2 → wpAny (model P w) (A.deeper (envF NFf f s.heap.objs.size)) (execs [.Assign [.Attribute (.Name "self" p6) "value" p7] (.Name "value" p8) p9] (envF NFf f s.heap.objs.size))
      (fun fl s' => CR (L2.CX P w) outer P w H s Q E (.ok (.ret (match fl with | .ret v => v | _ => .none))) s') (fun e s' => wpAny (model P w) (A.deeper (envF NFf f s.heap.objs.size)) (leaving (envF NFf f s.heap.objs.size) e) (fun _ s'' => CR (L2.CX P w) outer P w H s Q E (.error e) s'') (fun e' s'' => CR (L2.CX P w) outer P w H s Q E (.error e') s'') s') s2 := fun s2 I2 => by
    have hp : PSs (ncx (L2.CX P w) P w K mg base ["self", "value", "__class__"] NFf f A outer s H E) [.Assign [.Attribute (.Name "self" p6) "value" p7] (.Name "value" p8) p9] (tOst K "value" (tVar 0) (tVar 1)) :=
      pss_one (ps_ost (pe_var (i := 0) rfl (.inl (S.par "self" (by simp))) (by decide) (by decide)) (pe_var (i := 1) rfl (.inl (S.par "value" (by simp))) (by decide) (by decide)))
    refine wpAny_mono (hp.run [] s2 _ H { nx := fun _ H' => Q .non H', rt := Q } I2 ⟨v, rfl, .ref a, rfl, a, C, rfl, IC.o, IC.no, .inl ⟨ea, fun dx h1 h2 => hq dx h1 h2⟩⟩) (fun fl s' hs => ?_) fun e s' hs => hs
    cases fl with
    | next =>
      obtain ⟨σ', H', J, q⟩ := hs
      exact fin (v := V.non) (u := Value.none) J rfl q
    | ret u =>
      obtain ⟨v, σ', H', J, rv, q⟩ := hs
      exact fin J rv q
    | brk =>
      obtain ⟨_, _, _, q⟩ := hs
      exact False.elim q
    | cont =>
      obtain ⟨_, _, _, q⟩ := hs
      exact False.elim q
  have hHa : s1.heap.get? f = some ⟨oc, od, .func (fnX "__init__" qual params (iniBody p0 p1 p2 p3 p4 p5 p6 p7 p8 p9) scope [("__class__", cc)] .none kV doc pm an (.ref cD) ct), osl⟩ := I.kIn _ _ F.lk
  obtain ⟨oD, hD1, hD2⟩ : ∃ oD, s1.heap.get? D = some oD ∧ oD.data = .cls cdD := by
    unfold clsIn at hcls
    split at hcls
    · rename_i c d cd' sl ho
      cases hcls
      exact ⟨_, I.kIn _ _ ho, rfl⟩
    · cases hcls
  obtain ⟨mL, hnL, lookL⟩ := I.loc
  have hselfV : mL "self" = some (.ref a) := by
    obtain ⟨u, ru, lu⟩ := lookL 0 "self" (.ref a) rfl rfl (.inl (S.par "self" (by simp)))
    cases ru
    rcases lu with ⟨_, lu⟩ | ⟨lu, _⟩
    · exact lu
    · have := S.par "self" (by simp)
      rcases lu with lu | lu <;> (have lu : scope.names.lookup ("self" : Str) = _ := lu; rw [this] at lu; cases lu)
  obtain ⟨t1, hobj⟩ := exo_at I.hok ea
  obtain ⟨mb, hmb1, hmb2⟩ := I.mod.blt
  have hint : interactive (envF NFf f s.heap.objs.size) = false := by
    have e : (envF NFf f s.heap.objs.size).scope.kind = .function := S.kind
    unfold interactive
    rw [e]
    rfl
  obtain ⟨pl, hevp⟩ := hev (envF NFf f s.heap.objs.size)
  refine ks_wpAt_execs_cons (ks_wpAt_Expr_any (ks_wpAt_MethodCall (pl := pl) (ks_wpAt_super_base (env := envF NFf f s.heap.objs.size) hsup (S.frk "__class__" (by simp)) (by decide) rfl hHa rfl (by show (params.posonlyargs ++ params.args).head? = some ar; rw [harq]; rfl) rfl (I.kIn _ _ hcode) rfl hfl hfile F.top ?_) hevp) hint (hsw1 _))
  refine ks_loadName_global (env := envF NFf f s.heap.objs.size) S.kind hsup (Calls.loadGlobal_builtin (env := envF NFf f s.heap.objs.size) (I.mod.glob.keeps I.bk) F.sup (hmb1.keeps I.bk) ((hmb2 "super" (by decide)).trans (by decide +kernel)) ⟨rfl, ?_⟩)
  refine wpAny_loadName_free S.kind (S.frk "__class__" (by simp)) (c := cc) rfl ⟨_, I.kIn _ _ hcell, rfl⟩ ?_
  rw [hself]
  refine wpAny_loadName_local S.kind (S.par "self" (by simp)) hnL hselfV ?_
  refine ks_wpAny_isType_cls hD1 hD2 ⟨rfl, ?_⟩
  obtain ⟨hp, g, dr, tk, os⟩ := s1
  refine ks_wpAny_call_super hD1 hD2 hobj rfl (fun c e => by cases e) (looks_mroIn I.kIn IC.mro) (fun h' e k => ?_)
  have I2 : Inv (ncx (L2.CX P w) P w K mg base ["self", "value", "__class__"] NFf f A outer s H E) [] (startF ["self", "value", "__class__"] [.ref a, v] [some (.ref D)]) H ⟨h', g, dr, tk, os⟩ := I.kept (t' := tk) k
  have I2 := I2
  have hobj2 := k _ _ hobj
  have IA : InstAt h' a { cls := .ref C, dict := none, data := .fields #[.ref t1, .none, .none, .none, .bool false, .none] } C none := ⟨hobj2, rfl, rfl, trivial⟩
  have hI : Looks (model P w) h' (isInstance (.ref a) (.type "ValueError")) true := IA.type.andThen (looks_subIn I2.kIn IC.ve)
  have hsupA := IC.sup
  unfold ks_superIn at hsupA
  cases hcC : clsIn K C with
  | none => rw [hcC] at hsupA; cases hsupA
  | some cdC =>
    rw [hcC] at hsupA
    refine kxs_getMethod kxs_ValueError e (looks_opaque I2.kIn F.stat) (l₀ := cdC.mro) (fun A Q E s k q => wpAny_bind ((looks_clsIn I2.kIn hcC) A _ E s k (wpAny_pure q))) rfl I2.kIn hsupA hI (ks_ne I2.kIn IA hcC) (by decide) ?_
    have I3 : Inv (ncx (L2.CX P w) P w K mg base ["self", "value", "__class__"] NFf f A outer s H E) [] (startF ["self", "value", "__class__"] [.ref a, v] [some (.ref D)]) H ⟨h'.push (kxs_mw "ValueError.__init__" a), g, dr, tk + 1, os⟩ := I2.kept (t' := tk + 1) fun b o e => Heap.get?_push_of_some _ e
    have I4 : Inv (ncx (L2.CX P w) P w K mg base ["self", "value", "__class__"] NFf f A outer s H E) [(h'.objs.size, kxs_mw "ValueError.__init__" a)] (startF ["self", "value", "__class__"] [.ref a, v] [some (.ref D)]) H ⟨h'.push (kxs_mw "ValueError.__init__" a), g, dr, tk + 1, os⟩ := I3.pins_of fun p hp => by
      have e : p = (h'.objs.size, kxs_mw "ValueError.__init__" a) := by simpa using hp
      subst e
      exact ⟨Heap.get?_push_size _ rfl, I2.hok.fresh (Nat.le_refl _), Nat.ne_of_gt I2.lt, I2.nofs (Nat.le_refl _), fun v z => by cases z⟩
    have ha : PA (ncx (L2.CX P w) P w K mg base ["self", "value", "__class__"] NFf f A outer s H E) [.Name "value" p3] (tCons (tVar 1) tNil) := pa_cons (pe_var (i := 1) rfl (.inl (S.par "value" (by simp))) (by decide) (by decide)) pa_nil
    refine kxs_callWith (i := "ValueError.__init__") (x := a) rfl (PySem.Calls.evalArgs_plain (thn (ha.run p4 _ _ _ H (fun vs H1 => vs = [v] ∧ H1 = H) I4 ⟨v, rfl, rfl, rfl⟩) fun us2 s5 ⟨vs2, H5, I5, r5, ev5, eH5⟩ => ?_))
    subst ev5 eH5
    obtain ⟨hu5, _⟩ := I5.pin (h'.objs.size, kxs_mw "ValueError.__init__" a) (by simp)
    have I6 := I5.pins_of (pins' := []) (fun p hp => absurd hp (by simp))
    refine ⟨hu5, call_mwV IC.o I6 ea hu5 (by show us2.length ≤ sizeLine; rw [← r5.length]; show 1 ≤ sizeLine; rw [sizeLine_eq]; omega) fun s7 I7 => ?_⟩
    exact wpAt_of_wpAny (two s7 I7)
end
end Ev

set_option Elab.async false
set_option linter.all false
set_option maxRecDepth 100000
/-! Ev6b: raise, try, e.value. -/
namespace Ev
open PySem PySem.Spec PyProof.Rows L2 NdefX

/-- the exception class x: made by one value -/
structure Xc (P : Program) (w : World) (K : PySem.W.Frag) (mg : Str → Option Value) (base : Heap) (x : Str) : Prop where
  ex : ∃ C D fI fd, mg x = some (.ref C) ∧ IniC K D C ∧ PySem.W.findIn K (.ref C) "__init__" = some (some (.ref fI)) ∧ PySem.W.typeIn K (.ref fI) = some (.type "function") ∧ FnOk P w K mg base (L2.CX P w) 1 fI fd ["self", "value"] (spIni K D) ∧ Binds K fd ["self", "value"] []
def sRaise (c : Str) (f : FE) : FS := fun env h D => f env h (fun d h1 => D.ex c d env h1) (exE D env)
theorem sRaise_mono {c : Str} {f : FE} (m : MonE f) : MonS (sRaise c f) := ⟨fun k q => m.mo (fun _ _ z => k.ex _ _ _ _ z) (exE_mono k) q⟩
section
variable {X : Cx} {T : List NTab} {W : WX} {st : Stmt} {rest body : List Stmt} {e c a b o i tg iter : Expr} {es : List Expr} {f fc fo fi fe fa : FE} {ft : FA} {pos pos' p : Pos} {x y : Str} {k : Nat}
theorem s_raise (Ec : Xc X.prog X.w X.K X.mg X.base x) (hcalm : X.calm = true) (tk : Takes X W) (hr : Room k X.A) (hk : 2 ≤ k) (hg : Gl X x) (ha : SE X T W a fa)
    (hdb : (x == ("__debug__" : Str)) = false := by decide) (he : starEach [a] X.env = (false, eval a X.env) :: starEach [] X.env := by rfl) (hpl : (backTo pos (starEach [] X.env)).any (·.1) = false := by rfl) :
    SS X T W (.Raise (some (.Call (.Name x p) [a] [] pos)) none pos') (sRaise x fa) := by
  refine ⟨sRaise_mono ha.m, ?_⟩
  obtain ⟨C, D, fI, fd, hm, IC, iC, tI, F1, hb⟩ := Ec.ex
  refine PS.imp (ps_raise hcalm tk (pmk_oex IC.o iC tI F1 (hr.mono hk) hb .nil passL hg hm (pa_cons ha.p pa_nil he) hdb he hpl)) fun Dn σ H q => ?_
  obtain ⟨ρ, env, h, m, hf⟩ := q
  refine ⟨ρ, env, h, m, ha.m.mo (fun d h1 q1 => ?_) (QD.x m) hf⟩
  intro ρ1 v H1 s1 r1
  refine ⟨by show 1 ≤ 1000; decide, fun b hb' => ⟨b, C, v, by rw [List.append_nil], IC, upd_same, fun dx hdx hne => ⟨rfl, dx, [("value", v)], upd_same, by rw [upd_ne hne, upd_same], by rw [upd_ne hne] at hdx; exact hdx, ?_⟩⟩⟩
  rw [upd_ne hne] at hdx
  have e : upd (del (upd (upd (upd H1 b (exo b C none)) dx (exd dx [("value", v)])) b (exo b C (some dx))) b) dx (.xd [("value", v)]) = upd H1 dx (.xd [("value", v)]) := by
    funext z
    by_cases h1 : z = dx
    · rw [h1, upd_same, upd_same]
    · rw [upd_ne h1, upd_ne h1]
      by_cases h2 : z = b
      · rw [h2, del_same, hb']
      · rw [del_ne h2, upd_ne h2, upd_ne h1, upd_ne h2]
  rw [e]
  have s2 := Stp.new (o := .xd [("value", v)]) s1.ok hdx
  have s12 := s1.trans s2
  exact q1 ρ1 σ _ C dx v s12 (m.step s12) hm upd_same (s2.rp s1.ok r1)
end
/-! ### try -/
section
variable {X : Cx} {pins : List (Addr × Obj)} {σ : L2.St} {H : Hp} {s : Shared}
theorem inv_frz {a : Addr} {oe : Obj} {vs : Array Value} (I : Inv X pins σ H s) (h0 : X.s_0.heap.get? a = none) (ha : s.heap.get? a = some oe) (hd : oe.data = .fields vs) (na : H a = none) (nL : a ≠ X.env.locals) (np : ∀ p ∈ X.pn ++ pins, p.1 ≠ a) :
    Inv X pins σ (upd H a (.frz oe (.own a))) s := by
  refine ⟨I.ok, I.os, I.bare, ⟨I.base.keep, I.base.slot, fun b o e n hx => ?_, I.base.there, fun b xs e => ?_, fun b o u e => ?_, fun b ps e => ?_⟩, I.loc, I.cell, ?_, fun y c e => ?_, fun p hp => ?_, fun b u e => ?_, I.len⟩
  · rw [upd_ne (fun z => by rw [z, h0] at e; cases e)]
    exact I.base.free b o e n hx
  · have := I.base.tups b xs e
    rw [upd_ne (ne_of_none this na)]; exact this
  · have := I.base.frzs b o u e
    rw [upd_ne (ne_of_none this na)]; exact this
  · obtain ⟨more, q⟩ := I.base.tbls b ps e
    exact ⟨more, by rw [upd_ne (ne_of_none q na)]; exact q⟩
  · rw [upd_ne nL.symm]; exact I.free
  · have : c ≠ a := fun z => by
      obtain ⟨v, o, ho, hd'⟩ := I.cell y c e
      rw [z, ha] at ho
      cases ho
      rw [hd] at hd'
      cases hd'
    rw [upd_ne this]
    exact I.freeC y c e
  · obtain ⟨p1, p2, p3⟩ := I.pin p hp
    exact ⟨p1, by rw [upd_ne (np p hp)]; exact p2, p3⟩
  · by_cases hb : b = a
    · subst hb
      rw [upd_same] at e
      cases e
      exact ⟨ha, ⟨oe, ha⟩⟩
    · rw [upd_ne hb] at e
      exact (I.hok b u e).stay (fun c v _ q => q) (fun c q => by rw [upd_ne (ne_of_none q na)]; exact q) fun c xs q => by rw [upd_ne (ne_of_none q na)]; exact q
theorem inv_suite {a : Addr} (I : Inv X pins σ H s) : Inv (X.suite a (X.pn ++ pins)) [] σ H s :=
  ⟨I.ok.suite _ _, I.os, I.bare, I.base, I.loc, I.cell, I.free, I.freeC, fun p hp => I.pin p (by rw [List.append_nil] at hp; exact hp), I.hok, I.len⟩
theorem inv_unsuite {a : Addr} {pn' : List (Addr × Obj)} (I : Inv (X.suite a (X.pn ++ pins)) pn' σ H s) (ok : X.Ok) : Inv X pins σ H s :=
  ⟨ok, I.os, I.bare, I.base, I.loc, I.cell, I.free, I.freeC, fun p hp => I.pin p (List.mem_append_left _ hp), I.hok, I.len⟩
end
def wFz (K : PySem.W.Frag) (c : Value) (i : Nat) (ts : TS) (Wout : WX) (D : Ends) : WX := fun cls d σ H =>
  ∃ b, PySem.W.exmOne K cls c = some b ∧ (b = true → ∀ a oe, H a = none → oe.cls = cls → oe.dict = d → (∃ vs, oe.data = .fields vs) →
    ts { nx := fun σ' H' => D.nx (σ'.set i none) H', rt := D.rt, bk := fun σ' H' => D.bk (σ'.set i none) H', ct := fun σ' H' => D.ct (σ'.set i none) H' } (σ.set i (some (.ref a))) (upd H a (.frz oe (.own a)))) ∧
    (b = false → Wout cls d σ H)
section
variable {X : Cx} {x n : Str} {c : Value} {i : Nat} {body suite : List Stmt} {b₀ : Stmt} {np pos pos' : Pos} {tb : WX → TS} {ts : TS} {Wout : WX}
theorem ps_try_fz (hs : X.stack = X.env :: X.outer) (hf : X.env.frame = some X.env.locals) (hex : X.ex = []) (hN : X.N.Nodup) (hi : X.N[i]? = some n) (hln : X.env.kindOf n = some .local) (hc : Names X x c) (tk : Takes X Wout)
    (hb : ∀ (W : WX) (pn : List (Addr × Obj)) (xe : Value → Shared → Prop), Takes (X.tr pn xe) W → PassesOwn (model X.prog X.w) X.A X.env xe → PSs (X.tr pn xe) body (tb W))
    (hsu : ∀ (a : Addr) (pn : List (Addr × Obj)), PSs (X.suite a pn) (b₀ :: suite) ts) :
    PS X (.Try body [.ExceptHandler (some (.Name x np)) (some n) (b₀ :: suite) pos'] [] [] pos) (fun D σ H => tb (wFz X.K c i ts Wout D) D σ H) := by
  refine ⟨fun pins s σ H D I h => ?_⟩
  have ok := I.ok
  have hfr : X.A.frames = some (X.env :: X.outer) := by rw [ok.frames, hs]
  have hloc : Loc X.env.scope n := .inl hln
  refine wpAny_Try_except ?_
  refine wpAny_mono ((hb (wFz X.K c i ts Wout D) (X.pn ++ pins) (fun e s₁ => wpAny (model X.prog X.w) X.A (noteFrame e X.env) (fun _ s₂ => wpAny (model X.prog X.w) X.A (setFlight e none) (fun _ s₃ =>
    wpAny (model X.prog X.w) X.A (handleBy e X.env [.ExceptHandler (some (.Name x np)) (some n) (b₀ :: suite) pos']) (SP X pins D) X.xe s₃) X.xe s₂) X.xe s₁) (fun u s' xx => ?_) PassesOwn.looking).run [] s σ H D (I.toTry _) h) (fun f s1 hsp => ?_) (fun e s1 he => he)
  · -- the catch
    obtain ⟨a, B, sI, pins', σ', H', cls, d, rfl, J', nb, up, sky, na, os, ag, b, hb1, hyes, hno⟩ := xx
    have J : Inv X pins σ' H' sI := J'.ofTry ok
    have sky' : Sky B (X.env :: X.outer) a (Zc cls d) X.env.locals s'.heap := by rw [← hs]; exact sky
    show wpAny (model X.prog X.w) X.A (noteFrame (.ref a) X.env) _ _ _
    refine Sky.land Zc.steady hfr hf sky' fun h3 fl3 up3 => ?_
    have J3 : Inv X pins σ' H' { s' with heap := h3 } := J.landed nb fl3.1 (up.trans up3) os ag
    obtain ⟨oe3, vs3, he3, hz3, hd3⟩ := fl3.there
    have notFr : ∀ {h : Heap} {o : Obj} {vs : Array Value}, h.FunFrames B (X.env :: X.outer) → h.get? a = some o → o.data = .fields vs → a ∉ frs (X.env :: X.outer) := fun {h o vs} ff e dd hm => by
      obtain ⟨_, o', e', hnf⟩ := ff.mem hm
      rw [e] at e'; cases e'
      exact hnf _ dd
    have nfr := notFr fl3.2.2.1 he3 hd3
    have nL : a ≠ X.env.locals := fun z => nfr (List.mem_filterMap.mpr ⟨X.env, List.mem_cons_self, by rw [hf, z]⟩)
    have nF : a ∉ X.fs := fun hm => by
      obtain ⟨e, he, q⟩ := List.mem_filterMap.mp hm
      exact nfr (List.mem_filterMap.mpr ⟨e, List.mem_cons_of_mem _ he, q⟩)
    have S3 := J3.suite he3 hd3 na nL nF
    have hBa : B.get? a = none := fl3.2.1
    have hIa : sI.heap.get? a = none := by
      cases q : sI.heap.get? a with
      | none => rfl
      | some o =>
        have := nb a o q (by rw [hs]; exact nfr)
        rw [hBa] at this; cases this
    have h0a : X.s_0.heap.get? a = none := by
      cases q : X.s_0.heap.get? a with
      | none => rfl
      | some o =>
        obtain ⟨o', e⟩ := J.base.there a o q (by rw [hex]; simp)
        rw [hIa] at e; cases e
    have npa : ∀ p ∈ X.pn ++ pins, p.1 ≠ a := fun p hp z => by
      have := (J.pin p hp).1
      rw [z, hIa] at this; cases this
    refine wpAny_handleBy_cons (codeAny_handlers_test ?_) (by intro q; cases q)
    have LT : PySem.W.Looks (model X.prog X.w) h3 (typeOf (.ref a)) cls := fun A Q E s k q => wpAny_typeOf_ref (k _ _ he3) (by rw [hz3.1]; exact q)
    have LM := PySem.W.exm_one (M := model X.prog X.w) (J3.kIn) LT hb1
    have test : ∀ {Q : Value → Shared → Prop} {E : Value → Shared → Prop}, Q c { s' with heap := h3 } → wpAny (model X.prog X.w) (X.A.mark (some (.ref a))) (eval (.Name x np) X.env) Q E { s' with heap := h3 } := fun {Q E} q => by
      obtain ⟨hg, hdbg, hm | ⟨hm, hv, hnn⟩⟩ := hc
      · exact ld_glob (X := X.suite a ((a, oe3) :: (X.pn ++ pins))) S3 hg hm q hdbg
      · exact ld_blt (X := X.suite a ((a, oe3) :: (X.pn ++ pins))) S3 hg hm hv q hnn hdbg
    refine test (LM.here ?_)
    cases b with
    | true =>
      refine codeAny_handlers_suite_as ?_
      refine HandSPX.lands_againZ fl3 fun h4 fl4 up4 => ?_
      have J4 : Inv X pins σ' H' { s' with heap := h4 } := J.landed nb fl4.1 ((up.trans up3).trans up4) os ag
      obtain ⟨oe4, vs4, he4, hz4, hd4⟩ := fl4.there
      have J5 := inv_frz J4 h0a he4 hd4 na nL npa
      have S4 := inv_suite (a := a) J5
      refine store_ok (X := X.suite a (X.pn ++ pins)) (v := .ref a) S4 hN hi hloc rfl (fun s5 S5 => ?_) (.inr hln)
      refine wpAny_mono ((hsu a (X.pn ++ pins)).run [] s5 _ _ _ S5 (hyes rfl a oe4 na hz4.1 hz4.2 ⟨_, hd4⟩)) (fun f s6 hsp => ?_) (fun _ _ z => False.elim z)
      have end_ : ∀ {σ6 : L2.St} {H6 : Hp} {Q : Shared → Prop}, Inv (X.suite a (X.pn ++ pins)) [] σ6 H6 s6 → (∀ s7, Inv X pins (σ6.set i none) H6 s7 → Q s7) →
          wpAny (model X.prog X.w) X.A (do bindName X.env n .none; unbindBehindTheSuite X.env n pos') (fun _ s7 => Q s7) X.xe s6 := fun {σ6 H6 Q} S6 hq => gone_ok (inv_unsuite S6 ok) hN hi hln hq
      cases f with
      | next =>
        obtain ⟨σ6, H6, S6, q6⟩ := hsp
        exact end_ S6 fun s7 J7 => ⟨_, _, J7, q6⟩
      | brk =>
        obtain ⟨σ6, H6, S6, q6⟩ := hsp
        exact end_ S6 fun s7 J7 => ⟨_, _, J7, q6⟩
      | cont =>
        obtain ⟨σ6, H6, S6, q6⟩ := hsp
        exact end_ S6 fun s7 J7 => ⟨_, _, J7, q6⟩
      | ret u =>
        obtain ⟨v6, σ6, H6, S6, r6, q6⟩ := hsp
        exact end_ S6 fun s7 J7 => ⟨_, _, _, J7, r6, q6⟩
    | false =>
      show wpAny _ X.A (handleBy (.ref a) X.env []) _ _ _
      refine wpAny_handleBy_nil ?_
      obtain ⟨k1, k2, k3, oe, vs, T, oT, ts', he, hz, hd, h1, hr⟩ := id fl3
      unfold PySem.passOn
      refine wpAny_bind (wpAny_field he hd h1 ?_)
      rw [if_neg (show ¬ ((Value.ref T == Value.none) = true) from by simp)]
      have fin : wpAny (model X.prog X.w) X.A (setFlight (.ref a) X.env.frame) (fun _ s4 => wpAny (model X.prog X.w) X.A (throw (.ref a) : Sem Flow) (SP X pins D) X.xe s4) X.xe { s' with heap := h3 } := by
        rw [hf]
        refine HandSPX.setFlight_upZ fl3 fun h4 hh4 up4 => wpAny_throw (tk _ _ ?_)
        exact ⟨a, B, sI, pins, σ', H', cls, d, rfl, J, nb, (up.trans up3).trans up4, .inr (.inr (by rw [hs]; exact hh4)), na, os, ag, hno rfl⟩
      first
        | exact wpAny_bind (wpAny_pure (wpAny_bind fin))
        | exact wpAny_bind fin
  · cases f with
    | next =>
      obtain ⟨σ', H', J', q⟩ := hsp
      exact wpAny_execs_nil ⟨σ', H', J'.ofTry ok, q⟩
    | brk =>
      obtain ⟨σ', H', J', q⟩ := hsp
      exact ⟨σ', H', J'.ofTry ok, q⟩
    | cont =>
      obtain ⟨σ', H', J', q⟩ := hsp
      exact ⟨σ', H', J'.ofTry ok, q⟩
    | ret u =>
      obtain ⟨v, σ', H', J', r, q⟩ := hsp
      exact ⟨v, σ', H', J'.ofTry ok, r, q⟩
end
/-- which classes the clause takes, by names -/
abbrev SubF := Str → Option Bool
def suD (D : ED) (i : Nat) : ED := { nx := fun e h => D.nx (e.set i none) h, rt := D.rt, bk := fun e h => D.bk (e.set i none) h, ct := fun e h => D.ct (e.set i none) h, ex := fun _ _ _ _ => False }
def trD (D : ED) (sub : SubF) (i : Nat) (su : FS) : ED := { D with ex := fun c d env' h' => match sub c with
  | some true => su (env'.set i (some (.exn c d))) h' (suD D i)
  | some false => D.ex c d env' h'
  | none => False }
def sTry (b : FS) (sub : SubF) (i : Nat) (su : FS) : FS := fun env h D => b env h (trD D sub i su)
theorem suD_le {a b : ED} (k : EDle a b) (i : Nat) : EDle (suD a i) (suD b i) := ⟨fun _ _ z => k.nx _ _ z, k.rt, fun _ _ z => k.bk _ _ z, fun _ _ z => k.ct _ _ z, fun _ _ _ _ z => z⟩
theorem trD_le {a b : ED} (k : EDle a b) {sub : SubF} {i : Nat} {su : FS} (m : MonS su) : EDle (trD a sub i su) (trD b sub i su) := ⟨k.nx, k.rt, k.bk, k.ct, fun c d e h z => by
  revert z
  show (match sub c with | some true => _ | some false => _ | none => False) → (match sub c with | some true => _ | some false => _ | none => False)
  cases sub c with
  | none => exact id
  | some q =>
    cases q with
    | true => exact m.mo (suD_le k i)
    | false => exact k.ex _ _ _ _⟩
theorem sTry_mono {b su : FS} {sub : SubF} {i : Nat} (mb : MonS b) (ms : MonS su) : MonS (sTry b sub i su) := ⟨fun k q => mb.mo (trD_le k ms) q⟩
section
variable {X : Cx} {T : List NTab} {W : WX} {x n : Str} {c : Value} {i : Nat} {body suite : List Stmt} {b₀ : Stmt} {np pos pos' : Pos} {fb fs : FS} {sub : SubF}
theorem s_try (hs : X.stack = X.env :: X.outer) (hf : X.env.frame = some X.env.locals) (hex : X.ex = []) (hN : X.N.Nodup) (hi : X.N[i]? = some n) (hln : X.env.kindOf n = some .local) (hc : Names X x c) (tk : Takes X W)
    (hsub : ∀ y C q, sub y = some q → X.mg y = some (.ref C) → PySem.W.exmOne X.K (.ref C) c = some q)
    (hb : ∀ (W : WX) (pn : List (Addr × Obj)) (xe : Value → Shared → Prop), Takes (X.tr pn xe) W → PassesOwn (model X.prog X.w) X.A X.env xe → SSs (X.tr pn xe) T W body fb)
    (hsu : ∀ (a : Addr) (pn : List (Addr × Obj)), SSs (X.suite a pn) T W0 (b₀ :: suite) fs) :
    SS X T W (.Try body [.ExceptHandler (some (.Name x np)) (some n) (b₀ :: suite) pos'] [] [] pos) (sTry fb sub i fs) := by
  have ms : MonS fs := (hsu 0 []).m
  have mb : MonS fb := (hb W0 [] (fun _ _ => False) takes0 PassesOwn.never).m
  refine ⟨sTry_mono mb ms, PS.imp (ps_try_fz (tb := fun W => lS (gd X T) W fb) (ts := lS (gd X T) W0 fs) hs hf hex hN hi hln hc tk (fun W pn xe t hp => (hb W pn xe t hp).p) (fun a pn => (hsu a pn).p)) fun Dn σ H q => ?_⟩
  obtain ⟨ρ, env, h, m, hff⟩ := q
  refine ⟨ρ, env, h, m, mb.mo (a := trD (QD (gd X T) ρ h H W Dn) sub i fs) ⟨fun _ _ z => z, fun _ _ z => z, fun _ _ z => z, fun _ _ z => z, fun y d env' h' z => ?_⟩ hff⟩
  intro ρ' σ' H' C dx w s' m' hm hx r
  have z : (match sub y with | some true => fs (env'.set i (some (.exn y d))) h' (suD (QD (gd X T) ρ h H W Dn) i) | some false => (QD (gd X T) ρ h H W Dn).ex y d env' h' | none => False) := z
  cases eq : sub y with
  | none => rw [eq] at z; exact z.elim
  | some q =>
    rw [eq] at z
    refine ⟨q, hsub y C q eq hm, fun hq a oe na e1 e2 e3 => ?_, fun hq => ?_⟩
    · subst hq
      have s2 := Stp.new (o := .frz oe (.own a)) s'.ok na
      have hne : dx ≠ a := ne_of_none hx na
      have rr : Rp (gd X T) (upd H' a (.frz oe (.own a))) ρ' h'.length (.exn y d) (.ref a) := .exn hm upd_same e1 e2 e3 (by rw [upd_ne hne]; exact hx) (s2.rp s'.ok r)
      refine ⟨ρ', _, h', (m'.step s2).set i rr, ms.mo (a := suD (QD (gd X T) ρ h H W Dn) i) ⟨fun e h2 z2 => ?_, fun d2 h2 z2 => QV.step (s'.trans s2) z2, fun e h2 z2 => ?_, fun e h2 z2 => ?_, fun _ _ _ _ z2 => z2.elim⟩ z⟩
      · intro ρ3 σ3 H3 s3 m3
        exact z2 ρ3 _ H3 ((s'.trans s2).trans s3) (m3.clear i)
      · intro ρ3 σ3 H3 s3 m3
        exact z2 ρ3 _ H3 ((s'.trans s2).trans s3) (m3.clear i)
      · intro ρ3 σ3 H3 s3 m3
        exact z2 ρ3 _ H3 ((s'.trans s2).trans s3) (m3.clear i)
    · subst hq
      exact z ρ' σ' H' C dx w s' m' hm hx r
end
/-! ### e.value -/
def fXv (cs : List Str) (f : FE) : FE := fun env h Q E => f env h (fun x h1 => match x with
  | .exn c d => chk (cs.contains c) (Q d h1)
  | _ => False) E
theorem fXv_mono {cs : List Str} {f : FE} (m : MonE f) : MonE (fXv cs f) := ⟨fun kQ kE q => m.mo (fun x h1 z => by
  cases x with
  | exn c d => exact chk_mono (kQ _ _) z
  | _ => exact z) kE q⟩
section
variable {X : Cx} {T : List NTab} {W : WX} {e : Expr} {f : FE} {pos : Pos}
theorem e_xv {cs : List Str} (hcs : ∀ c C, c ∈ cs → X.mg c = some (.ref C) → XfC X.K C ∧ PySem.W.findIn X.K (.ref C) "value" = some none) (he : SE X T W e f) (hb : attributeBase e "value" X.env (eval e X.env) = eval e X.env := by rfl) : SE X T W (.Attribute e "value" pos) (fXv cs f) := by
  refine ⟨fXv_mono he.m, ⟨fun pins s σ H Q I q => ?_⟩⟩
  obtain ⟨ρ, env, h, m, hf⟩ := q
  refine attr_of hb (thn (he.p.run pins s σ H (fun x H1 => ∃ a oe u C dx w, x = .ref a ∧ H1 a = some (.frz oe u) ∧ oe.cls = .ref C ∧ oe.dict = some dx ∧ (∃ vs, oe.data = .fields vs) ∧ H1 dx = some (.xd [("value", w)]) ∧ XfC X.K C ∧ PySem.W.findIn X.K (.ref C) "value" = some none ∧ Q w H1) I ⟨ρ, env, h, m, he.m.mo (fun x h1 q1 => ?_) (fun _ _ _ z => z) hf⟩) fun u s1 hh => ?_)
  · intro ρ1 v H1 s1 r1
    cases r1 with
    | exn h1 h2 h3 h4 h5 h6 r =>
      obtain ⟨c1, c2⟩ := chk_iff.mp q1
      obtain ⟨t1, t2⟩ := hcs _ _ (List.contains_iff_mem.mp c1) h1
      exact ⟨_, _, _, _, _, _, rfl, h2, h3, h4, h5, h6, t1, t2, c2 ρ1 _ H1 s1 r⟩
    | _ => exact q1.elim
  · obtain ⟨x, H1, I1, rx, a, oe, u0, C, dx, w, ex, ha, hc, hdx, ⟨vs, hd⟩, ea, Tc, hno, q⟩ := hh
    subst ex
    obtain rfl : u = Value.ref a := rx
    obtain ⟨hga, _⟩ := (show ObjOk X.prog X.w H1 s1.heap a (.frz oe u0) from I1.hok a _ ha)
    have hx : ObjOk X.prog X.w H1 s1.heap dx (.xd [("value", w)]) := I1.hok dx _ ea
    obtain ⟨mA, hns, hr⟩ := hx
    obtain ⟨od, ho, hl⟩ := lookIn_ns hns
    obtain ⟨u, hu, ru⟩ := RelO.some_of (v := w) (o := mA "value") (hr "value")
    have J : PySem.W.InstAt s1.heap a oe C (some od) := ⟨hga, hc, by unfold PySem.W.notCls; rw [hd] <;> rfl, by rw [hdx]; exact ho⟩
    exact HandSPX.exc_get I1.kIn J Tc.ga Tc.gg Tc.exC (PySem.W.findObj_own Tc.hdC hno rfl (by rw [hl, hu])) (handed_of ru) ⟨w, H1, I1.tok _, ru, q⟩
end
end Ev

set_option Elab.async false
set_option linter.all false
set_option maxRecDepth 100000
/-! Ev6c: defs. -/
namespace Ev
open PySem PySem.Spec PyProof.Rows L2 NdefX

def fnD (Q : PQ) (E : PX) : ED := ⟨fun _ h => Q .non h, Q, fun _ _ => False, fun _ _ => False, fun c d _ h => E c d h⟩
/-- a def of n parameters, k names in all -/
def fnSp (n k : Nat) (b : FS) : Spec := fun ds h Q E => chk (decide (ds.length = n)) (b (ds.map some ++ List.replicate (k - n) none) h (fnD Q E))
theorem fnD_le {Q Q' : PQ} {E E' : PX} (kQ : ∀ d h, Q d h → Q' d h) (kE : ∀ c d h, E c d h → E' c d h) : EDle (fnD Q E) (fnD Q' E') := ⟨fun _ _ z => kQ _ _ z, kQ, fun _ _ z => z, fun _ _ z => z, fun _ _ _ _ z => kE _ _ _ z⟩
theorem fnSp_mono {n k : Nat} {b : FS} (m : MonS b) : MonSp (fnSp n k b) := ⟨fun kQ kE q => chk_mono (fun z => m.mo (fnD_le kQ kE) z) q⟩
section
variable {P : Program} {w : World} {K : PySem.W.Frag} {mg : Str → Option Value} {base : Heap} {T : List NTab} {x : Str} {st : Stmt} {N ps : List Str} {k : Nat} {b : FS}
/-- the context of the def's body -/
abbrev bcx (P : Program) (w : World) (K : PySem.W.Frag) (mg : Str → Option Value) (base : Heap) (N : List Str) (x : Str) (st : Stmt) (f : Addr) (cdv : Value) (A : Around) (outer : List PySem.Env) (s : Shared) (H : Hp) (E : XK) : Cx := cxOf (L2.CX P w) P w K mg base N x (defScope st) f cdv A outer s H E
theorem bcx_takes {f : Addr} {cdv : Value} {A : Around} {outer : List PySem.Env} {s : Shared} {H : Hp} {E : XK} : Takes (bcx P w K mg base N x st f cdv A outer s H E) (fun cls d _ H' => E cls d H') :=
  takes_of (X := bcx P w K mg base N x st f cdv A outer s H E) rfl rfl rfl rfl
theorem bcx_owns {f : Addr} {cdv : Value} {A : Around} {outer : List PySem.Env} {s : Shared} {H : Hp} {E : XK} : PassesOwn (model P w) (bcx P w K mg base N x st f cdv A outer s H E).A (bcx P w K mg base N x st f cdv A outer s H E).env (bcx P w K mg base N x st f cdv A outer s H E).xe :=
  passes_of (X := bcx P w K mg base N x st f cdv A outer s H E) rfl
theorem fn_ok {f : Addr} {fd : FuncData} (hm : mg x = some (.ref f)) (D : FunD K x x (defArgs st) (defBody st) (defScope st) [] [] f fd) (S : FnScope N ps (defScope st)) (hlen : ps.length ≤ N.length)
    (hbind : ∀ (kV doc pm : Value) (an : Option Addr) (cdv ct : Value) (us : List Value), us.length = ps.length → bindArgs (PySem.W.fnOf x x (defArgs st) (defBody st) (defScope st) .none kV doc pm an cdv ct) ⟨us, []⟩ = pure (ps.zip us)) (mb : MonS b)
    (hb : ∀ (cdv : Value) (A : Around) (outer : List PySem.Env) (s : Shared) (H : Hp) (E : XK), Room k (A.deeper (envOfC x (defScope st) s.heap.objs.size f cdv)) → SSs (bcx P w K mg base N x st f cdv A outer s H E) T (fun cls d _ H' => E cls d H') (defBody st) b) :
    Fn P w K mg base T x st ps (k + 1) (fnSp ps.length N.length b) := by
  refine ⟨fnSp_mono mb, fun ds h Q E q => of_decide_eq_true (chk_iff.mp q).1, f, fd, hm, D, D.bindsN hbind, ?_⟩
  refine FunD.ok D S (fun vs H Q E q => ?_) fun cdv A outer s H vs Q E hr q => ?_
  · obtain ⟨ρ, h, ds, ok, tb, r, q⟩ := q
    rw [← r.length]
    exact of_decide_eq_true (chk_iff.mp q).1
  · obtain ⟨ρ, h, ds, ok, tb, r, q⟩ := q
    obtain ⟨hl, q⟩ := chk_iff.mp q
    have hl := of_decide_eq_true hl
    have B := hb cdv A outer s H E hr
    refine ⟨_, B.p, ρ, _, h, ⟨ok, tb, ?_, fun i d e => ?_⟩, mb.mo (a := fnD (QV ⟨K, mg, T⟩ ρ h H Q) (QXE ⟨K, mg, T⟩ ρ h H E)) ⟨fun _ _ z => ?_, fun _ _ z => z, fun _ _ z => z.elim, fun _ _ z => z.elim, fun c d e h' z => ?_⟩ q⟩
    · unfold L2.start
      rw [List.length_append, List.length_append, List.length_map, List.length_map, List.length_replicate, List.length_replicate, ← r.length, hl]
    · by_cases hi : i < ds.length
      · rw [List.getElem?_append_left (by rw [List.length_map]; exact hi), List.getElem?_map] at e
        cases z : ds[i]? with
        | none => rw [z] at e; cases e
        | some d' =>
          rw [z] at e
          cases e
          obtain ⟨v, e1, rv⟩ := r.get z
          refine ⟨v, ?_, rv⟩
          unfold L2.start
          rw [List.getElem?_append_left (by rw [List.length_map, ← r.length]; exact hi), List.getElem?_map, e1] <;> rfl
      · rw [List.getElem?_append_right (by rw [List.length_map]; omega), List.getElem?_replicate] at e
        split at e <;> cases e
    · intro ρ' σ' H' s' m'
      exact z ρ' .non H' s' .non
    · intro ρ' σ' H' C dx w' s' m' hm' hx rw'
      exact z ρ' H' C dx w' s' hm' hx rw'
end
end Ev

set_option Elab.async false
set_option linter.all false
set_option maxRecDepth 100000
/-! Ev7: what the printed walks use. -/
namespace Ev
open PySem PySem.Spec PyProof.Rows L2 NdefX

theorem fNewL_mono {f : FA} (m : MonA f) : MonE (fNewL f) := ⟨fun kQ kE q => m.mo (fun _ _ q1 => kQ _ _ q1) kE q⟩
theorem fFC_mono {c : FC} {f : FA} (m : MonA f) : MonE (fFC c f) := ⟨fun kQ kE q => m.mo (fun _ _ q1 => fin_mono kQ q1) kE q⟩
theorem mo_no : ∀ c : FE, (none : Option FE) = some c → MonE c := fun _ h => nomatch h
theorem mo_so {f : FE} (m : MonE f) : ∀ c : FE, some f = some c → MonE c := fun c h => by cases h; exact m
section
variable {X : Cx} {T : List NTab} {W : WX} {x : Str} {p : Pos}
theorem vr (i : Nat) (hN : X.N[i]? = some x := by rfl) (hv : Vis X.env.scope x := by first | exact Or.inl rfl | exact Or.inr (Or.inl rfl) | exact Or.inr (Or.inr rfl)) (hd : (x == ("__debug__" : Str)) = false := by decide) (hcd : (x == ("__classdict__" : Str)) = false := by decide) : SE X T W (.Name x p) (fVar i) := e_var hN hv hd hcd
theorem tg (i : Nat) (hN : X.N.Nodup) (hi : X.N[i]? = some x := by rfl) (hx : Loc X.env.scope x := by first | exact Or.inl rfl | exact Or.inr rfl) (hf : X.fn x = true ∨ X.env.scope.names.lookup x = some .local := by first | exact .inl rfl | exact .inr rfl) : SG X T (.Name x p) (.nm i) := g_nm hN hi hx hf
/-- an int constant of the module -/
theorem e_gint {i : Int} (hg : Gl X x) (hm : ∃ t, X.mg x = some (.int i t)) (hd : (x == ("__debug__" : Str)) = false := by decide) : SE X T W (.Name x p) (fLit (.int i)) := by
  obtain ⟨t, hm⟩ := hm
  exact ⟨fLit_mono, se_const (pe_glob (v := .int i) hg hm ⟨t, rfl⟩ hd) fun _ _ _ => .int _⟩
end
/-- the promise of nothing -/
def spNo : Spec := fun _ _ _ _ => False
theorem fn_no {P : Program} {w : World} {K : PySem.W.Frag} {mg : Str → Option Value} {base : Heap} {T : List NTab} {x : Str} {st : Stmt} {ps : List Str} {f : Addr} {fd : FuncData} (hm : mg x = some (.ref f)) (D : FunD K x x (defArgs st) (defBody st) (defScope st) [] [] f fd)
    (hbind : ∀ (kV doc pm : Value) (an : Option Addr) (cdv ct : Value) (us : List Value), us.length = ps.length → bindArgs (PySem.W.fnOf x x (defArgs st) (defBody st) (defScope st) .none kV doc pm an cdv ct) ⟨us, []⟩ = pure (ps.zip us)) : Fn P w K mg base T x st ps 0 spNo :=
  ⟨⟨fun _ _ q => q⟩, fun _ _ _ _ q => q.elim, f, fd, hm, D, D.bindsN hbind, ⟨fun _ _ _ _ ⟨_, _, _, _, _, _, q⟩ => q.elim, fun _ _ _ _ _ _ _ _ _ _ _ _ _ ⟨_, _, _, _, _, _, q⟩ => q.elim⟩⟩
end Ev

set_option Elab.async false
set_option linter.all false
set_option maxRecDepth 100000
/-! Ev8: the draws and the comparison that all laws share. -/
namespace Ev
open PySem PySem.Spec PyProof.Rows L2 NdefX
def b_pot : FS := (sRet (fBin gAdd (fLst (fCons (fLit (.int 0)) (fCons (fLit (.int 12582917)) (fCons (fLit (.int 0)) (fCons (fLit (.int 4)) fNil))))) (fFN gList (fCons (fVar 0) fNil))))
def b_take : FS := (sSeq (sIf (fAnd (fBin gEq (fBin gIx (fVar 0) (fLit (.int 0))) (fLit (.int 0))) (fBin gLt (fBin gIx (fVar 0) (fLit (.int 3))) (fFN gLen (fCons (fVar 0) fNil)))) (sSeq (sAsg (fBin gIx (fVar 0) (fBin gIx (fVar 0) (fLit (.int 3)))) (.nm 2)) (sSeq (sAugS (fVar 0) (fLit (.int 3)) .add (fLit (.int 1))) (sIf (fBin gGe (fVar 2) (fBin gPow (fLit (.int 10)) (fLit (.int 18)))) (sSet (fVar 0) (fLit (.int 0)) (fBin gSub (fVar 2) (fBin gPow (fLit (.int 10)) (fLit (.int 18))))) (sSet (fVar 0) (fLit (.int 1)) (fBin gMod (fFN gInt (fCons (fBin gAdd (fBin gMul (fBin gAdd (fBin gIx (fVar 0) (fLit (.int 1))) (fBin gMul (fLit (.int 7)) (fVar 2))) (fLit (.int 3145739))) (fBin gMul (fLit (.int 769)) (fBin gIx (fVar 0) (fLit (.int 3))))) fNil)) (fLit (.int 2305843009213693907))))))) sNil) (sSeq (sIf (fBin gGt (fBin gIx (fVar 0) (fLit (.int 0))) (fLit (.int 0))) (sSeq (sAsg (fBin gMod (fFN gInt (fCons (fBin gIx (fVar 0) (fLit (.int 0))) fNil)) (fVar 1)) (.nm 3)) (sSeq (sSet (fVar 0) (fLit (.int 0)) (fBin gDiv (fBin gIx (fVar 0) (fLit (.int 0))) (fVar 1))) (sRet (fVar 3)))) sNil) (sSeq (sAugS (fVar 0) (fLit (.int 2)) .add (fLit (.int 1))) (sSeq (sAsg (fBin gMod (fFN gInt (fCons (fBin gPow (fBin gAdd (fBin gIx (fVar 0) (fLit (.int 1))) (fBin gMul (fLit (.int 1572869)) (fBin gIx (fVar 0) (fLit (.int 2))))) (fLit (.int 3))) fNil)) (fLit (.int 2305843009213693907))) (.nm 4)) (sSeq (sAsg (fBin gMod (fFN gInt (fCons (fBin gPow (fBin gAdd (fVar 4) (fBin gMul (fLit (.int 389)) (fBin gIx (fVar 0) (fLit (.int 2))))) (fLit (.int 2))) fNil)) (fLit (.int 999999999999999877))) (.nm 4)) (sRet (fBin gMod (fFN gInt (fCons (fBin gDiv (fVar 4) (fLit (.int 16))) fNil)) (fVar 1))))))))
noncomputable def b_same (sp : Ev.Spec) : FS := (sSeq (sIf (fIsN false (fVar 1)) (sRet (fIsN false (fVar 0))) sNil) (sSeq (sIf (fIsi (fVar 1) [.bl, .str]) (sRet (fAnd (fBin gEq (fIsi (fVar 0) [.bl]) (fIsi (fVar 1) [.bl])) (fAnd (fIsi (fVar 0) [.bl, .str]) (fBin gEq (fVar 0) (fVar 1))))) sNil) (sSeq (sIf (fIsi (fVar 1) [.int]) (sRet (fAnd (fIsi (fVar 0) [.int]) (fAnd (fNot (fIsi (fVar 0) [.bl])) (fBin gEq (fVar 0) (fVar 1))))) sNil) (sSeq (sIf (fOr (fBin gNe (fIsi (fVar 1) [.lst]) (fIsi (fVar 0) [.lst])) (fBin gNe (fIsi (fVar 1) [.tup]) (fIsi (fVar 0) [.tup]))) (sRet (fLit (.bl false))) sNil) (sRet (fAnd (fBin gEq (fFN gLen (fCons (fVar 0) fNil)) (fFN gLen (fCons (fVar 1) fNil))) (fFC cAll (fComp (fIt gRange1 (fCons (fFN gLen (fCons (fVar 1) fNil)) fNil)) (.nm 2) [2] none (fCall sp (fCons (fBin gIx (fVar 0) (fVar 2)) (fCons (fBin gIx (fVar 1) (fVar 2)) fNil)))))))))))
def sp_pot : Ev.Spec := fnSp 1 1 b_pot
def sp_take : Ev.Spec := fnSp 2 5 b_take
noncomputable def sp_same : Nat → Ev.Spec
  | 0 => spNo
  | n + 1 => fnSp 2 3 (b_same (sp_same n))
/-! ### steps -/
theorem seq_ {a b : FS} {env : Env} {h : VH} {D : ED} (H : ∀ D' : ED, (∀ e h1, D'.nx e h1 = b e h1 D) → D'.rt = D.rt → D'.bk = D.bk → D'.ct = D.ct → D'.ex = D.ex → a env h D') : sSeq a b env h D := H _ (fun _ _ => rfl) rfl rfl rfl rfl
theorem fnSp_of {n k : Nat} {b : FS} {ds : List D} {h : VH} {Q : PQ} {E : PX} (hl : ds.length = n) (H : b (ds.map some ++ List.replicate (k - n) none) h (fnD Q E)) : fnSp n k b ds h Q E := chk_of (decide_eq_true hl) H
section
variable {d : D} {h : VH} {Q : PQ} {ds : List D} {i j : Int} {a b : Str} {x y : Bool} {k : Nat}
theorem fin_v : fin (some (.val d)) h Q = Q d h := rfl
theorem fin_n : fin (some (.new ds)) h Q = Q (.ref h.length) (h ++ [.lst ds]) := rfl
theorem finE_v : finE (some (.pure (.val d))) h Q = Q d h := rfl
theorem finE_n : finE (some (.pure (.new ds))) h Q = Q (.ref h.length) (h ++ [.lst ds]) := rfl
theorem finE_w : finE (some (.wr k ds d)) h Q = Q d (h.set k (.lst ds)) := rfl
theorem chk_t {p : Prop} : chk true p = p := rfl
theorem gAdd_i : gAdd (.int i) (.int j) h = some (.val (.int (i + j))) := rfl
theorem gAdd_s (hl : a.length + b.length ≤ line) : gAdd (.str a) (.str b) h = some (.val (.str (a ++ b))) := if_pos hl
theorem gAdd_t {xs ys : List D} (hl : xs.length + ys.length ≤ line) : gAdd (.tup xs) (.tup ys) h = some (.val (.tup (xs ++ ys))) := if_pos hl
theorem gAdd_l {xs ys : List D} {l : Nat} (e1 : lstAt h k = some xs) (e2 : lstAt h l = some ys) (hl : xs.length + ys.length ≤ line) : gAdd (.ref k) (.ref l) h = some (.new (xs ++ ys)) := by
  unfold gAdd
  simp only [e1, e2, if_pos hl]
theorem gSub_i : gSub (.int i) (.int j) h = some (.val (.int (i - j))) := rfl
theorem gMul_i (hm : mulOk i j = true) : gMul (.int i) (.int j) h = some (.val (.int (i * j))) := if_pos hm
theorem gDiv_i (h0 : 0 < j) (h1 : j.natAbs.log2 < 8000) : gDiv (.int i) (.int j) h = some (.val (.int (i / j))) := if_pos ⟨h0, h1⟩
theorem gMod_i (h0 : 0 < j) : gMod (.int i) (.int j) h = some (.val (.int (i % j))) := if_pos h0
theorem gPow_i (h0 : 0 ≤ j ∧ j ≤ 1000 ∧ i.natAbs < 18446744073709551616) : gPow (.int i) (.int j) h = some (.val (.int (i ^ j.toNat))) := if_pos h0
theorem gEq_i : gEq (.int i) (.int j) h = some (.val (.bl (decide (i = j)))) := rfl
theorem gEq_b : gEq (.bl x) (.bl y) h = some (.val (.bl (decide (x = y)))) := rfl
theorem gEq_s : gEq (.str a) (.str b) h = some (.val (.bl (decide (a = b)))) := rfl
theorem gNe_i : gNe (.int i) (.int j) h = some (.val (.bl (!decide (i = j)))) := rfl
theorem gNe_b : gNe (.bl x) (.bl y) h = some (.val (.bl (!decide (x = y)))) := rfl
theorem gLt_i : gLt (.int i) (.int j) h = some (.val (.bl (decide (i < j)))) := rfl
theorem gLe_i : gLe (.int i) (.int j) h = some (.val (.bl (decide (i ≤ j)))) := rfl
theorem gGt_i : gGt (.int i) (.int j) h = some (.val (.bl (decide (j < i)))) := rfl
theorem gGe_i : gGe (.int i) (.int j) h = some (.val (.bl (decide (j ≤ i)))) := rfl
theorem gInt_i : gInt [.int i] h = some (.val (.int i)) := rfl
theorem gInt_b : gInt [.bl x] h = some (.val (.int (if x = true then 1 else 0))) := rfl
theorem gInp_a : gInp .add (.int i) (.int j) h = some (.val (.int (i + j))) := rfl
theorem gInp_s : gInp .sub (.int i) (.int j) h = some (.val (.int (i - j))) := rfl
theorem gLen_t : gLen [.tup ds] h = some (.val (.int ds.length)) := rfl
theorem gLen_l (e : lstAt h k = some ds) : gLen [.ref k] h = some (.val (.int ds.length)) := by unfold gLen; simp only [e]
theorem gTuple_t : gTuple [.tup ds] h = some (.val (.tup ds)) := rfl
theorem gTuple_l (e : lstAt h k = some ds) : gTuple [.ref k] h = some (.val (.tup ds)) := by unfold gTuple; simp only [e]
theorem gList_t : gList [.tup ds] h = some (.new ds) := rfl
theorem gIx_l (e : lstAt h k = some ds) (ea : atI ds i = some d) : gIx (.ref k) (.int i) h = some (.val d) := by unfold gIx; simp only [e, ea]; rfl
theorem gIx_t (ea : atI ds i = some d) : gIx (.tup ds) (.int i) h = some (.val d) := by unfold gIx; simp only [ea]; rfl
theorem gIxL_l (e : lstAt h k = some ds) (ea : atI ds i = some d) : gIxL (.ref k) (.int i) h = some (.val d) := gIx_l e ea
theorem gSet_l {n : Nat} (e : lstAt h k = some ds) (ej : ixN ds.length i = some n) : gSet (.ref k) (.int i) d h = some (h.set k (.lst (ds.set n d))) := by unfold gSet; simp only [e, ej]
theorem gRange1_i (hb : big62 i = true) : gRange1 [.int i] h = some (itRng 0 i.toNat 1) := if_pos hb
theorem gAppend_l (e : lstAt h k = some ds) (hl : ds.length < line) : gAppend (.ref k) [d] h = some (.wr k (ds ++ [d]) .non) := by
  unfold gAppend
  simp only [e, if_pos hl]
theorem gPop_l {xs : List D} (e : lstAt h k = some (xs ++ [d])) : gPop (.ref k) [] h = some (.wr k xs d) := by
  unfold gPop
  simp only [e]
  have e1 : (xs ++ [d])[(xs ++ [d]).length - 1]? = some d := by
    rw [List.length_append, List.length_singleton, Nat.add_sub_cancel, List.getElem?_append_right (Nat.le_refl _), Nat.sub_self] <;> rfl
  rw [e1]
  simp
end
/-! ### the small heap -/
theorem lstAt_set {h : VH} {k : Nat} {ds : List D} (hk : k < h.length) : lstAt (h.set k (.lst ds)) k = some ds := by
  unfold lstAt
  rw [List.getElem?_set_self hk]
theorem lstAt_ne {h : VH} {k l : Nat} {o : Ob} (hk : k ≠ l) : lstAt (h.set k o) l = lstAt h l := by
  unfold lstAt
  rw [List.getElem?_set_ne hk]
theorem lstAt_app {h g : VH} {k : Nat} {ds : List D} (e : lstAt h k = some ds) : lstAt (h ++ g) k = some ds := by
  have hk := lstAt_len e
  unfold lstAt at e ⊢
  rw [List.getElem?_append_left hk]
  exact e
theorem lstAt_new {h : VH} {ds : List D} {g : VH} : lstAt (h ++ Ob.lst ds :: g) h.length = some ds := by
  unfold lstAt
  rw [List.getElem?_append_right (Nat.le_refl _), Nat.sub_self] <;> rfl
theorem set_set {h : VH} {k : Nat} {a b : Ob} : (h.set k a).set k b = h.set k b := List.set_set ..
/-! ### the pot -/
def potL (i j k p : Int) (cells : List Int) : List D := .int i :: .int j :: .int k :: .int p :: cells.map .int
structure PotC (c : Nat) (i j k p : Int) : Prop where
  i0 : 0 ≤ i
  j0 : 0 ≤ j
  j1 : j < 2305843009213693907
  k0 : 0 ≤ k
  k1 : k ≤ c
  p0 : 4 ≤ p
/-- the object k is a pot, c draws were made at most -/
def PotAt (h : VH) (kk c : Nat) : Prop := ∃ i j k p cells, lstAt h kk = some (potL i j k p cells) ∧ PotC c i j k p ∧ cells.length ≤ 1000
section
variable {α : Type} {a b c d : α} {l : List α}
theorem atI_0 : atI (a :: l) 0 = some a := by
  unfold atI ixN
  rw [if_pos (by omega), if_pos (by simp only [List.length_cons]; omega)] <;> rfl
theorem atI_1 : atI (a :: b :: l) 1 = some b := by
  unfold atI ixN
  rw [if_pos (by omega), if_pos (by simp only [List.length_cons]; omega)] <;> rfl
theorem atI_2 : atI (a :: b :: c :: l) 2 = some c := by
  unfold atI ixN
  rw [if_pos (by omega), if_pos (by simp only [List.length_cons]; omega)] <;> rfl
theorem atI_3 : atI (a :: b :: c :: d :: l) 3 = some d := by
  unfold atI ixN
  rw [if_pos (by omega), if_pos (by simp only [List.length_cons]; omega)] <;> rfl
theorem ixN_lit {n j : Nat} (h : j < n) : ixN n (j : Int) = some j := by
  unfold ixN
  rw [if_pos (by omega), if_pos (by omega)] <;> rfl
end
theorem ixN_0 {n : Nat} : ixN (n + 1) 0 = some 0 := ixN_lit (j := 0) (by omega)
theorem ixN_1 {n : Nat} : ixN (n + 1 + 1) 1 = some 1 := ixN_lit (j := 1) (by omega)
theorem ixN_2 {n : Nat} : ixN (n + 1 + 1 + 1) 2 = some 2 := ixN_lit (j := 2) (by omega)
theorem ixN_3 {n : Nat} : ixN (n + 1 + 1 + 1 + 1) 3 = some 3 := ixN_lit (j := 3) (by omega)
theorem pot_cell {i j k p : Int} {cells : List Int} (h4 : 4 ≤ p) (hl : p < (cells.length : Int) + 4) : ∃ c, atI (.int i :: .int j :: .int k :: .int p :: cells.map D.int) p = some (.int c) := by
  obtain ⟨n, rfl⟩ : ∃ n : Nat, p = ((n + 4 : Nat) : Int) := ⟨(p - 4).toNat, by omega⟩
  have hn : n < cells.length := by omega
  refine ⟨cells[n], ?_⟩
  unfold atI
  rw [ixN_lit (by simp only [List.length_cons, List.length_map]; omega)]
  show (cells.map D.int)[n]? = _
  rw [List.getElem?_map, List.getElem?_eq_getElem hn] <;> rfl
theorem mul_l {i j : Int} (h : i.natAbs < 18446744073709551616) : mulOk i j = true := by unfold mulOk; rw [decide_eq_true h] <;> rfl
theorem mul_r {i j : Int} (h : j.natAbs < 18446744073709551616) : mulOk i j = true := by unfold mulOk; rw [decide_eq_true h]; simp
theorem pot_set0 {i i' j k p : Int} {cells : List Int} : (potL i j k p cells).set 0 (.int i') = potL i' j k p cells := rfl
theorem pot_set1 {i j' j k p : Int} {cells : List Int} : (potL i j k p cells).set 1 (.int j') = potL i j' k p cells := rfl
theorem pot_set2 {i k' j k p : Int} {cells : List Int} : (potL i j k p cells).set 2 (.int k') = potL i j k' p cells := rfl
theorem pot_set3 {i p' j k p : Int} {cells : List Int} : (potL i j k p cells).set 3 (.int p') = potL i j k p' cells := rfl
theorem pot_0 {i j k p : Int} {cells : List Int} : atI (potL i j k p cells) 0 = some (.int i) := atI_0
theorem pot_1 {i j k p : Int} {cells : List Int} : atI (potL i j k p cells) 1 = some (.int j) := atI_1
theorem pot_2 {i j k p : Int} {cells : List Int} : atI (potL i j k p cells) 2 = some (.int k) := atI_2
theorem pot_3 {i j k p : Int} {cells : List Int} : atI (potL i j k p cells) 3 = some (.int p) := atI_3
theorem pot_len {i j k p : Int} {cells : List Int} : (potL i j k p cells).length = cells.length + 4 := by unfold potL; simp
section
variable {h : VH} {kk : Nat} {i j k p v : Int} {cells : List Int}
theorem ps0 (e : lstAt h kk = some (potL i j k p cells)) : gSet (.ref kk) (.int 0) (.int v) h = some (h.set kk (.lst (potL v j k p cells))) := gSet_l e (ixN_lit (j := 0) (by rw [pot_len]; omega))
theorem ps1 (e : lstAt h kk = some (potL i j k p cells)) : gSet (.ref kk) (.int 1) (.int v) h = some (h.set kk (.lst (potL i v k p cells))) := gSet_l e (ixN_lit (j := 1) (by rw [pot_len]; omega))
theorem ps2 (e : lstAt h kk = some (potL i j k p cells)) : gSet (.ref kk) (.int 2) (.int v) h = some (h.set kk (.lst (potL i j v p cells))) := gSet_l e (ixN_lit (j := 2) (by rw [pot_len]; omega))
theorem ps3 (e : lstAt h kk = some (potL i j k p cells)) : gSet (.ref kk) (.int 3) (.int v) h = some (h.set kk (.lst (potL i j k v cells))) := gSet_l e (ixN_lit (j := 3) (by rw [pot_len]; omega))
end
/-- what a draw from a pot without a number in hand gives -/
theorem take_tail {h : VH} {kk c : Nat} {many i j k p : Int} {cells : List Int} {Q : PQ} {E : PX} {z : Option D} (hk : kk < h.length) (C : PotC c i j k p) (hc : c ≤ 1000000) (hl : cells.length ≤ 1000) (hm : 0 < many) (hm2 : many.natAbs.log2 < 8000)
    (hQ : ∀ v h', 0 ≤ v → v < many → h'.length = h.length → (∀ l, l ≠ kk → lstAt h' l = lstAt h l) → PotAt h' kk (c + 1) → Q (.int v) h') :
    sSeq (sIf (fBin gGt (fBin gIx (fVar 0) (fLit (.int 0))) (fLit (.int 0))) (sSeq (sAsg (fBin gMod (fFN gInt (fCons (fBin gIx (fVar 0) (fLit (.int 0))) fNil)) (fVar 1)) (.nm 3)) (sSeq (sSet (fVar 0) (fLit (.int 0)) (fBin gDiv (fBin gIx (fVar 0) (fLit (.int 0))) (fVar 1))) (sRet (fVar 3)))) sNil) (sSeq (sAugS (fVar 0) (fLit (.int 2)) .add (fLit (.int 1))) (sSeq (sAsg (fBin gMod (fFN gInt (fCons (fBin gPow (fBin gAdd (fBin gIx (fVar 0) (fLit (.int 1))) (fBin gMul (fLit (.int 1572869)) (fBin gIx (fVar 0) (fLit (.int 2))))) (fLit (.int 3))) fNil)) (fLit (.int 2305843009213693907))) (.nm 4)) (sSeq (sAsg (fBin gMod (fFN gInt (fCons (fBin gPow (fBin gAdd (fVar 4) (fBin gMul (fLit (.int 389)) (fBin gIx (fVar 0) (fLit (.int 2))))) (fLit (.int 2))) fNil)) (fLit (.int 999999999999999877))) (.nm 4)) (sRet (fBin gMod (fFN gInt (fCons (fBin gDiv (fVar 4) (fLit (.int 16))) fNil)) (fVar 1))))))
      [some (.ref kk), some (.int many), z, none, none] (h.set kk (.lst (potL i j k p cells))) (fnD Q E) := by
  obtain ⟨i0, j0, j1, k0, k1, p0⟩ := C
  have L : ∀ ds : List D, lstAt (h.set kk (.lst ds)) kk = some ds := fun ds => lstAt_set hk
  have I0 := fun i j k p => gIx_l (i := 0) (L (potL i j k p cells)) pot_0
  have I1 := fun i j k p => gIx_l (i := 1) (L (potL i j k p cells)) pot_1
  have I2 := fun i j k p => gIx_l (i := 2) (L (potL i j k p cells)) pot_2
  have J2 := fun i j k p => gIxL_l (i := 2) (L (potL i j k p cells)) pot_2
  have S0 := fun i j k p v => ps0 (v := v) (L (potL i j k p cells))
  have S2 := fun i j k p v => ps2 (v := v) (L (potL i j k p cells))
  have fin : ∀ i' k' v, 0 ≤ i' → 0 ≤ k' → k' ≤ (c : Int) + 1 → 0 ≤ v → v < many → Q (.int v) (h.set kk (.lst (potL i' j k' p cells))) := fun i' k' v a1 a2 a3 a4 a5 =>
    hQ v _ a4 a5 List.length_set (fun l hl => lstAt_ne hl.symm) ⟨i', j, k', p, cells, L _, ⟨a1, j0, j1, a2, by omega, p0⟩, hl⟩
  refine seq_ fun D hn hr hb hc' hx => ?_
  by_cases hi : 0 < i
  · simp only [sAsg, sPar, sIf, sRet, sRetN, sExp, sSet, sAug, sAugS, sBrk, sCnt, sRaise, sNil, exE, fVar, fLit, fNeg, fIsN, fBin, fChain, fAnd, fOr, fNot, fIte, fNil, fCons, fTup, fLst, fFN, fMt, fIsi, fCall, fSl1, fRev, fNewL, fFC, fXv, fIt, fSeq, fin_v, fin_n, finE_v, finE_n, gAdd_i, gAdd_s, gSub_i, gEq_i, gEq_b, gNe_i, gNe_b, gLt_i, gLe_i, gGt_i, gGe_i, gInt_i, gInt_b, gInp_a, gInp_s, gLen_t, gTuple_t, gList_t, chk_t, asgT, asgL, tyD, isNon, gRange1_i, Ty.isa, List.getElem?_cons_zero, List.getElem?_cons_succ, List.set_cons_zero, List.set_cons_succ, List.map_cons, List.map_nil, List.cons_append, List.nil_append, List.any_cons, List.any_nil, Option.map_some, Option.map_none, Bool.or_false, Bool.false_or, Bool.or_true, Bool.true_or, Bool.and_true, Bool.true_and, Bool.and_false, Bool.false_and, Bool.not_true, Bool.not_false, I0, decide_eq_true hi]
    refine seq_ fun D' hn' hr' hb' hc2 hx' => ?_
    simp only [sAsg, sPar, sIf, sRet, sRetN, sExp, sSet, sAug, sAugS, sBrk, sCnt, sRaise, sNil, exE, fVar, fLit, fNeg, fIsN, fBin, fChain, fAnd, fOr, fNot, fIte, fNil, fCons, fTup, fLst, fFN, fMt, fIsi, fCall, fSl1, fRev, fNewL, fFC, fXv, fIt, fSeq, fin_v, fin_n, finE_v, finE_n, gAdd_i, gAdd_s, gSub_i, gEq_i, gEq_b, gNe_i, gNe_b, gLt_i, gLe_i, gGt_i, gGe_i, gInt_i, gInt_b, gInp_a, gInp_s, gLen_t, gTuple_t, gList_t, chk_t, asgT, asgL, tyD, isNon, gRange1_i, Ty.isa, List.getElem?_cons_zero, List.getElem?_cons_succ, List.set_cons_zero, List.set_cons_succ, List.map_cons, List.map_nil, List.cons_append, List.nil_append, List.any_cons, List.any_nil, Option.map_some, Option.map_none, Bool.or_false, Bool.false_or, Bool.or_true, Bool.true_or, Bool.and_true, Bool.true_and, Bool.and_false, Bool.false_and, Bool.not_true, Bool.not_false, I0, gMod_i hm]
    rw [hn']
    refine seq_ fun D' hn' hr' hb' hc2 hx' => ?_
    simp only [sAsg, sPar, sIf, sRet, sRetN, sExp, sSet, sAug, sAugS, sBrk, sCnt, sRaise, sNil, exE, fVar, fLit, fNeg, fIsN, fBin, fChain, fAnd, fOr, fNot, fIte, fNil, fCons, fTup, fLst, fFN, fMt, fIsi, fCall, fSl1, fRev, fNewL, fFC, fXv, fIt, fSeq, fin_v, fin_n, finE_v, finE_n, gAdd_i, gAdd_s, gSub_i, gEq_i, gEq_b, gNe_i, gNe_b, gLt_i, gLe_i, gGt_i, gGe_i, gInt_i, gInt_b, gInp_a, gInp_s, gLen_t, gTuple_t, gList_t, chk_t, asgT, asgL, tyD, isNon, gRange1_i, Ty.isa, List.getElem?_cons_zero, List.getElem?_cons_succ, List.set_cons_zero, List.set_cons_succ, List.map_cons, List.map_nil, List.cons_append, List.nil_append, List.any_cons, List.any_nil, Option.map_some, Option.map_none, Bool.or_false, Bool.false_or, Bool.or_true, Bool.true_or, Bool.and_true, Bool.true_and, Bool.and_false, Bool.false_and, Bool.not_true, Bool.not_false, I0, gDiv_i hm hm2, S0, set_set]
    rw [hn']
    simp only [sAsg, sPar, sIf, sRet, sRetN, sExp, sSet, sAug, sAugS, sBrk, sCnt, sRaise, sNil, exE, fVar, fLit, fNeg, fIsN, fBin, fChain, fAnd, fOr, fNot, fIte, fNil, fCons, fTup, fLst, fFN, fMt, fIsi, fCall, fSl1, fRev, fNewL, fFC, fXv, fIt, fSeq, fin_v, fin_n, finE_v, finE_n, gAdd_i, gAdd_s, gSub_i, gEq_i, gEq_b, gNe_i, gNe_b, gLt_i, gLe_i, gGt_i, gGe_i, gInt_i, gInt_b, gInp_a, gInp_s, gLen_t, gTuple_t, gList_t, chk_t, asgT, asgL, tyD, isNon, gRange1_i, Ty.isa, List.getElem?_cons_zero, List.getElem?_cons_succ, List.set_cons_zero, List.set_cons_succ, List.map_cons, List.map_nil, List.cons_append, List.nil_append, List.any_cons, List.any_nil, Option.map_some, Option.map_none, Bool.or_false, Bool.false_or, Bool.or_true, Bool.true_or, Bool.and_true, Bool.true_and, Bool.and_false, Bool.false_and, Bool.not_true, Bool.not_false]
    rw [hr]
    exact fin _ _ _ (Int.ediv_nonneg i0 (by omega)) k0 (by omega) (Int.emod_nonneg _ (by omega)) (Int.emod_lt_of_pos _ hm)
  · simp only [sAsg, sPar, sIf, sRet, sRetN, sExp, sSet, sAug, sAugS, sBrk, sCnt, sRaise, sNil, exE, fVar, fLit, fNeg, fIsN, fBin, fChain, fAnd, fOr, fNot, fIte, fNil, fCons, fTup, fLst, fFN, fMt, fIsi, fCall, fSl1, fRev, fNewL, fFC, fXv, fIt, fSeq, fin_v, fin_n, finE_v, finE_n, gAdd_i, gAdd_s, gSub_i, gEq_i, gEq_b, gNe_i, gNe_b, gLt_i, gLe_i, gGt_i, gGe_i, gInt_i, gInt_b, gInp_a, gInp_s, gLen_t, gTuple_t, gList_t, chk_t, asgT, asgL, tyD, isNon, gRange1_i, Ty.isa, List.getElem?_cons_zero, List.getElem?_cons_succ, List.set_cons_zero, List.set_cons_succ, List.map_cons, List.map_nil, List.cons_append, List.nil_append, List.any_cons, List.any_nil, Option.map_some, Option.map_none, Bool.or_false, Bool.false_or, Bool.or_true, Bool.true_or, Bool.and_true, Bool.true_and, Bool.and_false, Bool.false_and, Bool.not_true, Bool.not_false, I0, decide_eq_false hi]
    rw [hn]
    refine seq_ fun D' hn' hr' hb' hc2 hx' => ?_
    simp only [sAsg, sPar, sIf, sRet, sRetN, sExp, sSet, sAug, sAugS, sBrk, sCnt, sRaise, sNil, exE, fVar, fLit, fNeg, fIsN, fBin, fChain, fAnd, fOr, fNot, fIte, fNil, fCons, fTup, fLst, fFN, fMt, fIsi, fCall, fSl1, fRev, fNewL, fFC, fXv, fIt, fSeq, fin_v, fin_n, finE_v, finE_n, gAdd_i, gAdd_s, gSub_i, gEq_i, gEq_b, gNe_i, gNe_b, gLt_i, gLe_i, gGt_i, gGe_i, gInt_i, gInt_b, gInp_a, gInp_s, gLen_t, gTuple_t, gList_t, chk_t, asgT, asgL, tyD, isNon, gRange1_i, Ty.isa, List.getElem?_cons_zero, List.getElem?_cons_succ, List.set_cons_zero, List.set_cons_succ, List.map_cons, List.map_nil, List.cons_append, List.nil_append, List.any_cons, List.any_nil, Option.map_some, Option.map_none, Bool.or_false, Bool.false_or, Bool.or_true, Bool.true_or, Bool.and_true, Bool.true_and, Bool.and_false, Bool.false_and, Bool.not_true, Bool.not_false, I2, J2, S2, set_set]
    rw [hn']
    refine seq_ fun D' hn' hr' hb' hc2 hx' => ?_
    have g1 : (0:Int) ≤ 3 ∧ (3:Int) ≤ 1000 ∧ (j + 1572869 * (k + 1)).natAbs < 18446744073709551616 := by omega
    simp only [sAsg, sPar, sIf, sRet, sRetN, sExp, sSet, sAug, sAugS, sBrk, sCnt, sRaise, sNil, exE, fVar, fLit, fNeg, fIsN, fBin, fChain, fAnd, fOr, fNot, fIte, fNil, fCons, fTup, fLst, fFN, fMt, fIsi, fCall, fSl1, fRev, fNewL, fFC, fXv, fIt, fSeq, fin_v, fin_n, finE_v, finE_n, gAdd_i, gAdd_s, gSub_i, gEq_i, gEq_b, gNe_i, gNe_b, gLt_i, gLe_i, gGt_i, gGe_i, gInt_i, gInt_b, gInp_a, gInp_s, gLen_t, gTuple_t, gList_t, chk_t, asgT, asgL, tyD, isNon, gRange1_i, Ty.isa, List.getElem?_cons_zero, List.getElem?_cons_succ, List.set_cons_zero, List.set_cons_succ, List.map_cons, List.map_nil, List.cons_append, List.nil_append, List.any_cons, List.any_nil, Option.map_some, Option.map_none, Bool.or_false, Bool.false_or, Bool.or_true, Bool.true_or, Bool.and_true, Bool.true_and, Bool.and_false, Bool.false_and, Bool.not_true, Bool.not_false, I1, I2, gMul_i (mul_l (i := 1572869) (by decide)), gPow_i g1, gMod_i (show (0:Int) < 2305843009213693907 by decide)]
    rw [hn']
    refine seq_ fun D' hn' hr' hb' hc2 hx' => ?_
    have b1 := Int.emod_nonneg ((j + 1572869 * (k + 1)) ^ (3:Int).toNat) (show (2305843009213693907:Int) ≠ 0 by decide)
    have b2 := Int.emod_lt_of_pos ((j + 1572869 * (k + 1)) ^ (3:Int).toNat) (show (0:Int) < 2305843009213693907 by decide)
    generalize (j + 1572869 * (k + 1)) ^ (3:Int).toNat % 2305843009213693907 = m1 at b1 b2
    have g2 : (0:Int) ≤ 2 ∧ (2:Int) ≤ 1000 ∧ (m1 + 389 * (k + 1)).natAbs < 18446744073709551616 := by omega
    simp only [sAsg, sPar, sIf, sRet, sRetN, sExp, sSet, sAug, sAugS, sBrk, sCnt, sRaise, sNil, exE, fVar, fLit, fNeg, fIsN, fBin, fChain, fAnd, fOr, fNot, fIte, fNil, fCons, fTup, fLst, fFN, fMt, fIsi, fCall, fSl1, fRev, fNewL, fFC, fXv, fIt, fSeq, fin_v, fin_n, finE_v, finE_n, gAdd_i, gAdd_s, gSub_i, gEq_i, gEq_b, gNe_i, gNe_b, gLt_i, gLe_i, gGt_i, gGe_i, gInt_i, gInt_b, gInp_a, gInp_s, gLen_t, gTuple_t, gList_t, chk_t, asgT, asgL, tyD, isNon, gRange1_i, Ty.isa, List.getElem?_cons_zero, List.getElem?_cons_succ, List.set_cons_zero, List.set_cons_succ, List.map_cons, List.map_nil, List.cons_append, List.nil_append, List.any_cons, List.any_nil, Option.map_some, Option.map_none, Bool.or_false, Bool.false_or, Bool.or_true, Bool.true_or, Bool.and_true, Bool.true_and, Bool.and_false, Bool.false_and, Bool.not_true, Bool.not_false, I1, I2, gMul_i (mul_l (i := 389) (by decide)), gPow_i g2, gMod_i (show (0:Int) < 999999999999999877 by decide)]
    rw [hn']
    simp only [sAsg, sPar, sIf, sRet, sRetN, sExp, sSet, sAug, sAugS, sBrk, sCnt, sRaise, sNil, exE, fVar, fLit, fNeg, fIsN, fBin, fChain, fAnd, fOr, fNot, fIte, fNil, fCons, fTup, fLst, fFN, fMt, fIsi, fCall, fSl1, fRev, fNewL, fFC, fXv, fIt, fSeq, fin_v, fin_n, finE_v, finE_n, gAdd_i, gAdd_s, gSub_i, gEq_i, gEq_b, gNe_i, gNe_b, gLt_i, gLe_i, gGt_i, gGe_i, gInt_i, gInt_b, gInp_a, gInp_s, gLen_t, gTuple_t, gList_t, chk_t, asgT, asgL, tyD, isNon, gRange1_i, Ty.isa, List.getElem?_cons_zero, List.getElem?_cons_succ, List.set_cons_zero, List.set_cons_succ, List.map_cons, List.map_nil, List.cons_append, List.nil_append, List.any_cons, List.any_nil, Option.map_some, Option.map_none, Bool.or_false, Bool.false_or, Bool.or_true, Bool.true_or, Bool.and_true, Bool.true_and, Bool.and_false, Bool.false_and, Bool.not_true, Bool.not_false, gDiv_i (show (0:Int) < 16 by decide) (show (16:Int).natAbs.log2 < 8000 by decide), gMod_i hm]
    exact fin _ _ _ i0 (by omega) (by omega) (Int.emod_nonneg _ (by omega)) (Int.emod_lt_of_pos _ hm)
/-- a draw: 0 ≤ v < many -/
theorem take_ok {h : VH} {kk c : Nat} {many : Int} {Q : PQ} {E : PX} (hp : PotAt h kk c) (hc : c ≤ 1000000) (hm : 0 < many) (hm2 : many.natAbs.log2 < 8000)
    (hQ : ∀ v h', 0 ≤ v → v < many → h'.length = h.length → (∀ l, l ≠ kk → lstAt h' l = lstAt h l) → PotAt h' kk (c + 1) → Q (.int v) h') : sp_take [.ref kk, .int many] h Q E := by
  obtain ⟨i, j, k, p, cells, e, C, hl⟩ := hp
  have hk := lstAt_len e
  have L : ∀ ds : List D, lstAt (h.set kk (.lst ds)) kk = some ds := fun ds => lstAt_set hk
  have eself : h.set kk (.lst (potL i j k p cells)) = h := by
    apply List.ext_getElem?
    intro n
    by_cases hn : kk = n
    · subst hn
      rw [List.getElem?_set_self hk]
      unfold lstAt at e
      cases q : h[kk]? with
      | none => rw [q] at e; cases e
      | some o =>
        rw [q] at e
        cases o with
        | lst ds => cases e; rfl
    · rw [List.getElem?_set_ne hn]
  have I0 := gIx_l (i := 0) e pot_0
  have I3 := gIx_l (i := 3) e pot_3
  have len := gLen_l e
  refine fnSp_of rfl ?_
  show b_take [some (.ref kk), some (.int many), none, none, none] h (fnD Q E)
  refine seq_ fun D hn hr hb hc' hx => ?_
  have tail : ∀ (z : Option Ev.D) i' j' p', PotC c i' j' k p' → D.nx [some (.ref kk), some (.int many), z, none, none] (h.set kk (.lst (potL i' j' k p' cells))) := fun z i' j' p' C' => by
    rw [hn]
    exact take_tail hk C' hc hl hm hm2 hQ
  have stay : D.nx [some (.ref kk), some (.int many), none, none, none] h := by
    have := tail none i j p C
    rw [eself] at this
    exact this
  obtain ⟨i0, j0, j1, k0, k1, p0⟩ := C
  by_cases h1 : i = 0
  · by_cases h2 : p < (potL i j k p cells).length
    · simp only [sAsg, sPar, sIf, sRet, sRetN, sExp, sSet, sAug, sAugS, sBrk, sCnt, sRaise, sNil, exE, fVar, fLit, fNeg, fIsN, fBin, fChain, fAnd, fOr, fNot, fIte, fNil, fCons, fTup, fLst, fFN, fMt, fIsi, fCall, fSl1, fRev, fNewL, fFC, fXv, fIt, fSeq, fin_v, fin_n, finE_v, finE_n, gAdd_i, gAdd_s, gSub_i, gEq_i, gEq_b, gNe_i, gNe_b, gLt_i, gLe_i, gGt_i, gGe_i, gInt_i, gInt_b, gInp_a, gInp_s, gLen_t, gTuple_t, gList_t, chk_t, asgT, asgL, tyD, isNon, gRange1_i, Ty.isa, List.getElem?_cons_zero, List.getElem?_cons_succ, List.set_cons_zero, List.set_cons_succ, List.map_cons, List.map_nil, List.cons_append, List.nil_append, List.any_cons, List.any_nil, Option.map_some, Option.map_none, Bool.or_false, Bool.false_or, Bool.or_true, Bool.true_or, Bool.and_true, Bool.true_and, Bool.and_false, Bool.false_and, Bool.not_true, Bool.not_false, I0, I3, len, decide_eq_true h1, decide_eq_true h2]
      rw [pot_len] at h2
      obtain ⟨cell, ec⟩ := pot_cell (i := i) (j := j) (k := k) (cells := cells) p0 (by omega)
      have Ic := gIx_l e ec
      have J3 := gIxL_l (i := 3) e pot_3
      have S3 := ps3 (v := p + 1) e
      refine seq_ fun D1 hn1 hr1 hb1 hc1 hx1 => ?_
      simp only [sAsg, sPar, sIf, sRet, sRetN, sExp, sSet, sAug, sAugS, sBrk, sCnt, sRaise, sNil, exE, fVar, fLit, fNeg, fIsN, fBin, fChain, fAnd, fOr, fNot, fIte, fNil, fCons, fTup, fLst, fFN, fMt, fIsi, fCall, fSl1, fRev, fNewL, fFC, fXv, fIt, fSeq, fin_v, fin_n, finE_v, finE_n, gAdd_i, gAdd_s, gSub_i, gEq_i, gEq_b, gNe_i, gNe_b, gLt_i, gLe_i, gGt_i, gGe_i, gInt_i, gInt_b, gInp_a, gInp_s, gLen_t, gTuple_t, gList_t, chk_t, asgT, asgL, tyD, isNon, gRange1_i, Ty.isa, List.getElem?_cons_zero, List.getElem?_cons_succ, List.set_cons_zero, List.set_cons_succ, List.map_cons, List.map_nil, List.cons_append, List.nil_append, List.any_cons, List.any_nil, Option.map_some, Option.map_none, Bool.or_false, Bool.false_or, Bool.or_true, Bool.true_or, Bool.and_true, Bool.true_and, Bool.and_false, Bool.false_and, Bool.not_true, Bool.not_false, I3, Ic]
      rw [hn1]
      refine seq_ fun D2 hn2 hr2 hb2 hc2 hx2 => ?_
      simp only [sAsg, sPar, sIf, sRet, sRetN, sExp, sSet, sAug, sAugS, sBrk, sCnt, sRaise, sNil, exE, fVar, fLit, fNeg, fIsN, fBin, fChain, fAnd, fOr, fNot, fIte, fNil, fCons, fTup, fLst, fFN, fMt, fIsi, fCall, fSl1, fRev, fNewL, fFC, fXv, fIt, fSeq, fin_v, fin_n, finE_v, finE_n, gAdd_i, gAdd_s, gSub_i, gEq_i, gEq_b, gNe_i, gNe_b, gLt_i, gLe_i, gGt_i, gGe_i, gInt_i, gInt_b, gInp_a, gInp_s, gLen_t, gTuple_t, gList_t, chk_t, asgT, asgL, tyD, isNon, gRange1_i, Ty.isa, List.getElem?_cons_zero, List.getElem?_cons_succ, List.set_cons_zero, List.set_cons_succ, List.map_cons, List.map_nil, List.cons_append, List.nil_append, List.any_cons, List.any_nil, Option.map_some, Option.map_none, Bool.or_false, Bool.false_or, Bool.or_true, Bool.true_or, Bool.and_true, Bool.true_and, Bool.and_false, Bool.false_and, Bool.not_true, Bool.not_false, J3, S3]
      rw [hn2]
      have I1 := gIx_l (i := 1) (L (potL i j k (p + 1) cells)) pot_1
      have I3' := gIx_l (i := 3) (L (potL i j k (p + 1) cells)) pot_3
      have S0 := ps0 (v := cell - 10 ^ (18 : Int).toNat) (L (potL i j k (p + 1) cells))
      have S1 := ps1 (v := ((j + 7 * cell) * 3145739 + 769 * (p + 1)) % 2305843009213693907) (L (potL i j k (p + 1) cells))
      have gp : (0:Int) ≤ 18 ∧ (18:Int) ≤ 1000 ∧ (10:Int).natAbs < 18446744073709551616 := by decide
      by_cases h3 : (10:Int) ^ (18 : Int).toNat ≤ cell
      · simp only [sAsg, sPar, sIf, sRet, sRetN, sExp, sSet, sAug, sAugS, sBrk, sCnt, sRaise, sNil, exE, fVar, fLit, fNeg, fIsN, fBin, fChain, fAnd, fOr, fNot, fIte, fNil, fCons, fTup, fLst, fFN, fMt, fIsi, fCall, fSl1, fRev, fNewL, fFC, fXv, fIt, fSeq, fin_v, fin_n, finE_v, finE_n, gAdd_i, gAdd_s, gSub_i, gEq_i, gEq_b, gNe_i, gNe_b, gLt_i, gLe_i, gGt_i, gGe_i, gInt_i, gInt_b, gInp_a, gInp_s, gLen_t, gTuple_t, gList_t, chk_t, asgT, asgL, tyD, isNon, gRange1_i, Ty.isa, List.getElem?_cons_zero, List.getElem?_cons_succ, List.set_cons_zero, List.set_cons_succ, List.map_cons, List.map_nil, List.cons_append, List.nil_append, List.any_cons, List.any_nil, Option.map_some, Option.map_none, Bool.or_false, Bool.false_or, Bool.or_true, Bool.true_or, Bool.and_true, Bool.true_and, Bool.and_false, Bool.false_and, Bool.not_true, Bool.not_false, gPow_i gp, decide_eq_true h3, S0, set_set]
        exact tail _ _ _ _ ⟨by omega, j0, j1, k0, k1, by omega⟩
      · simp only [sAsg, sPar, sIf, sRet, sRetN, sExp, sSet, sAug, sAugS, sBrk, sCnt, sRaise, sNil, exE, fVar, fLit, fNeg, fIsN, fBin, fChain, fAnd, fOr, fNot, fIte, fNil, fCons, fTup, fLst, fFN, fMt, fIsi, fCall, fSl1, fRev, fNewL, fFC, fXv, fIt, fSeq, fin_v, fin_n, finE_v, finE_n, gAdd_i, gAdd_s, gSub_i, gEq_i, gEq_b, gNe_i, gNe_b, gLt_i, gLe_i, gGt_i, gGe_i, gInt_i, gInt_b, gInp_a, gInp_s, gLen_t, gTuple_t, gList_t, chk_t, asgT, asgL, tyD, isNon, gRange1_i, Ty.isa, List.getElem?_cons_zero, List.getElem?_cons_succ, List.set_cons_zero, List.set_cons_succ, List.map_cons, List.map_nil, List.cons_append, List.nil_append, List.any_cons, List.any_nil, Option.map_some, Option.map_none, Bool.or_false, Bool.false_or, Bool.or_true, Bool.true_or, Bool.and_true, Bool.true_and, Bool.and_false, Bool.false_and, Bool.not_true, Bool.not_false, gPow_i gp, decide_eq_false h3, I1, I3', gMul_i (mul_l (i := 7) (by decide)), gMul_i (mul_l (i := 769) (by decide)), gMul_i (mul_r (i := j + 7 * cell) (j := 3145739) (by decide)), gMod_i (show (0:Int) < 2305843009213693907 by decide), S1, set_set]
        exact tail _ _ _ _ ⟨i0, Int.emod_nonneg _ (by decide), Int.emod_lt_of_pos _ (by decide), k0, k1, by omega⟩
    · simp only [sAsg, sPar, sIf, sRet, sRetN, sExp, sSet, sAug, sAugS, sBrk, sCnt, sRaise, sNil, exE, fVar, fLit, fNeg, fIsN, fBin, fChain, fAnd, fOr, fNot, fIte, fNil, fCons, fTup, fLst, fFN, fMt, fIsi, fCall, fSl1, fRev, fNewL, fFC, fXv, fIt, fSeq, fin_v, fin_n, finE_v, finE_n, gAdd_i, gAdd_s, gSub_i, gEq_i, gEq_b, gNe_i, gNe_b, gLt_i, gLe_i, gGt_i, gGe_i, gInt_i, gInt_b, gInp_a, gInp_s, gLen_t, gTuple_t, gList_t, chk_t, asgT, asgL, tyD, isNon, gRange1_i, Ty.isa, List.getElem?_cons_zero, List.getElem?_cons_succ, List.set_cons_zero, List.set_cons_succ, List.map_cons, List.map_nil, List.cons_append, List.nil_append, List.any_cons, List.any_nil, Option.map_some, Option.map_none, Bool.or_false, Bool.false_or, Bool.or_true, Bool.true_or, Bool.and_true, Bool.true_and, Bool.and_false, Bool.false_and, Bool.not_true, Bool.not_false, I0, I3, len, decide_eq_true h1, decide_eq_false h2]
      exact stay
  · simp only [sAsg, sPar, sIf, sRet, sRetN, sExp, sSet, sAug, sAugS, sBrk, sCnt, sRaise, sNil, exE, fVar, fLit, fNeg, fIsN, fBin, fChain, fAnd, fOr, fNot, fIte, fNil, fCons, fTup, fLst, fFN, fMt, fIsi, fCall, fSl1, fRev, fNewL, fFC, fXv, fIt, fSeq, fin_v, fin_n, finE_v, finE_n, gAdd_i, gAdd_s, gSub_i, gEq_i, gEq_b, gNe_i, gNe_b, gLt_i, gLe_i, gGt_i, gGe_i, gInt_i, gInt_b, gInp_a, gInp_s, gLen_t, gTuple_t, gList_t, chk_t, asgT, asgL, tyD, isNon, gRange1_i, Ty.isa, List.getElem?_cons_zero, List.getElem?_cons_succ, List.set_cons_zero, List.set_cons_succ, List.map_cons, List.map_nil, List.cons_append, List.nil_append, List.any_cons, List.any_nil, Option.map_some, Option.map_none, Bool.or_false, Bool.false_or, Bool.or_true, Bool.true_or, Bool.and_true, Bool.true_and, Bool.and_false, Bool.false_and, Bool.not_true, Bool.not_false, I0, decide_eq_false h1]
    exact stay
/-- the pot at the start -/
theorem pot_ok {h : VH} {d : D} {ns : List Int} {Q : PQ} {E : PX} (hd : ∀ g, gList [d] (h ++ g) = some (.new (ns.map D.int))) (hl : ns.length ≤ 1000) (hQ : ∀ h' kk, h.length ≤ kk → PotAt h' kk 0 → (∀ l, l < h.length → lstAt h' l = lstAt h l) → Q (.ref kk) h') : sp_pot [d] h Q E := by
  refine fnSp_of rfl ?_
  show b_pot [some d] h (fnD Q E)
  have e0 := hd []
  rw [List.append_nil] at e0
  have e1 := hd [Ob.lst [.int 0, .int 12582917, .int 0, .int 4]]
  have c1 : decide ([D.int 0, .int 12582917, .int 0, .int 4].length ≤ line) = true := by decide
  have A := gAdd_l (h := h ++ [Ob.lst [.int 0, .int 12582917, .int 0, .int 4]] ++ [Ob.lst (ns.map D.int)]) (k := h.length) (l := (h ++ [Ob.lst [.int 0, .int 12582917, .int 0, .int 4]]).length) (xs := [.int 0, .int 12582917, .int 0, .int 4]) (ys := ns.map D.int)
    (by rw [List.append_assoc]; exact lstAt_new) lstAt_new (by rw [List.length_map]; show 4 + ns.length ≤ 16777216; omega)
  simp only [sAsg, sPar, sIf, sRet, sRetN, sExp, sSet, sAug, sAugS, sBrk, sCnt, sRaise, sNil, exE, fVar, fLit, fNeg, fIsN, fBin, fChain, fAnd, fOr, fNot, fIte, fNil, fCons, fTup, fLst, fFN, fMt, fIsi, fCall, fSl1, fRev, fNewL, fFC, fXv, fIt, fSeq, fin_v, fin_n, finE_v, finE_n, gAdd_i, gAdd_s, gSub_i, gEq_i, gEq_b, gNe_i, gNe_b, gLt_i, gLe_i, gGt_i, gGe_i, gInt_i, gInt_b, gInp_a, gInp_s, gLen_t, gTuple_t, gList_t, chk_t, asgT, asgL, tyD, isNon, gRange1_i, Ty.isa, List.getElem?_cons_zero, List.getElem?_cons_succ, List.set_cons_zero, List.set_cons_succ, List.map_cons, List.map_nil, List.cons_append, List.nil_append, List.any_cons, List.any_nil, Option.map_some, Option.map_none, Bool.or_false, Bool.false_or, Bool.or_true, Bool.true_or, Bool.and_true, Bool.true_and, Bool.and_false, Bool.false_and, Bool.not_true, Bool.not_false, b_pot, c1, e1, A]
  refine hQ _ _ ?_ ⟨0, 12582917, 0, 4, ns, ?_, ⟨by decide, by decide, by decide, by decide, by decide, by decide⟩, hl⟩ fun l hl => ?_
  · simp only [List.length_append]; omega
  · exact lstAt_new
  · unfold lstAt
    rw [List.append_assoc, List.append_assoc, List.getElem?_append_left hl]
/-! ### comprehensions whose items leave the heap alone -/
theorem compL_pure {it : ItF} {tg : Tg} {fe : FE} {env : Env} {h : VH} {Q : PL} {xs ys : List D} (hit : ∀ i, it i h = some xs[i]?)
    (hb : ∀ (i : Nat) (x : D), xs[i]? = some x → ∃ (env2 : Env) (y : D), asgT tg x h env = some env2 ∧ ys[i]? = some y ∧ ∀ Q' : PQ, Q' y h → fe env2 h Q' noX) (hlen : ys.length = xs.length) (hl : xs.length < line) (hQ : Q ys h) : compL it tg none fe env fuel 0 [] h Q := by
  have key : ∀ n i, i ≤ xs.length → xs.length < n + i → compL it tg none fe env n i (ys.take i) h Q := by
    intro n
    induction n with
    | zero => intro i h1 h2; omega
    | succ n ih =>
      intro i h1 h2
      unfold compL
      rw [hit i]
      cases e : xs[i]? with
      | none =>
        have : xs.length ≤ i := List.getElem?_eq_none_iff.mp e
        rw [List.take_of_length_le (by omega)]
        exact hQ
      | some x =>
        obtain ⟨env2, y, e1, e2, e3⟩ := hb i x e
        have hi : i < xs.length := (List.getElem?_eq_some_iff.mp e).1
        simp only [e1]
        refine e3 _ ?_
        refine chk_of (decide_eq_true (by rw [List.length_take]; omega)) ?_
        have := ih (i + 1) hi (by omega)
        rw [List.take_add_one, e2] at this
        exact this
  exact key fuel 0 (Nat.zero_le _) (by rw [fuel_eq]; have : line = 16777216 := rfl; omega)
theorem bools_map (bs : List Bool) : boolsD (bs.map D.bl) = some bs := by
  induction bs with
  | nil => rfl
  | cons b bs ih =>
    show (boolsD (bs.map D.bl)).map (b :: ·) = some (b :: bs)
    rw [ih] <;> rfl
theorem cAll_true {n : Nat} : cAll (List.replicate n (D.bl true)) = some (.val (.bl true)) := by
  unfold cAll
  have e : List.replicate n (D.bl true) = (List.replicate n true).map D.bl := by simp
  rw [e, bools_map]
  simp
/-! ### the comparison -/
def SameD (h : VH) : Nat → D → D → Prop
  | 0, _, _ => False
  | n + 1, got, due => match due with
    | .non => got = .non
    | .bl b => got = .bl b
    | .str s => got = .str s
    | .int i => got = .int i
    | .tup ds => ∃ gs, got = .tup gs ∧ gs.length = ds.length ∧ ds.length < 1000000 ∧ ∀ (i : Nat) (g d : D), gs[i]? = some g → ds[i]? = some d → SameD h n g d
    | .ref k => ∃ l gs ds, got = .ref l ∧ lstAt h l = some gs ∧ lstAt h k = some ds ∧ gs.length = ds.length ∧ ds.length < 1000000 ∧ ∀ (i : Nat) (g d : D), gs[i]? = some g → ds[i]? = some d → SameD h n g d
    | _ => False
theorem atI_nat' {xs : List D} {j : Nat} {v : D} (h : xs[j]? = some v) : atI xs (j : Int) = some v := atI_nat h
theorem same_seq {h : VH} {sp : Ev.Spec} {got due : D} {gs ds : List D} {Q : PQ} (hl : gs.length = ds.length) (hs : ds.length < 1000000) (g2 : gLen [due] h = some (.val (.int ds.length)))
    (i1 : ∀ (i : Nat) (g : D), gs[i]? = some g → gIx got (.int i) h = some (.val g)) (i2 : ∀ (i : Nat) (g : D), ds[i]? = some g → gIx due (.int i) h = some (.val g))
    (hsp : ∀ (i : Nat) (g d : D), gs[i]? = some g → ds[i]? = some d → ∀ Q' : PQ, Q' (.bl true) h → sp [g, d] h Q' noX) (hQ : Q (.bl true) h) {E : PX} (g1 : gLen [got] h = some (.val (.int gs.length))) :
    sRet (fAnd (fBin gEq (fFN gLen (fCons (fVar 0) fNil)) (fFN gLen (fCons (fVar 1) fNil))) (fFC cAll (fComp (fIt gRange1 (fCons (fFN gLen (fCons (fVar 1) fNil)) fNil)) (.nm 2) [2] none (fCall sp (fCons (fBin gIx (fVar 0) (fVar 2)) (fCons (fBin gIx (fVar 1) (fVar 2)) fNil)))))) [some got, some due, none] h (fnD Q E) := by
  have hb : big62 (ds.length : Int) = true := by
    unfold big62
    exact decide_eq_true (by omega)
  have hd : decide ((gs.length : Int) = (ds.length : Int)) = true := decide_eq_true (by omega)
  simp only [sAsg, sPar, sIf, sRet, sRetN, sExp, sSet, sAug, sAugS, sBrk, sCnt, sRaise, sNil, exE, fVar, fLit, fNeg, fIsN, fBin, fChain, fAnd, fOr, fNot, fIte, fNil, fCons, fTup, fLst, fFN, fMt, fIsi, fCall, fSl1, fRev, fNewL, fFC, fXv, fIt, fSeq, fin_v, fin_n, finE_v, finE_n, gAdd_i, gAdd_s, gSub_i, gEq_i, gEq_b, gNe_i, gNe_b, gLt_i, gLe_i, gGt_i, gGe_i, gInt_i, gInt_b, gInp_a, gInp_s, gLen_t, gTuple_t, gList_t, chk_t, asgT, asgL, tyD, isNon, gRange1_i, Ty.isa, List.getElem?_cons_zero, List.getElem?_cons_succ, List.set_cons_zero, List.set_cons_succ, List.map_cons, List.map_nil, List.cons_append, List.nil_append, List.any_cons, List.any_nil, Option.map_some, Option.map_none, Bool.or_false, Bool.false_or, Bool.or_true, Bool.true_or, Bool.and_true, Bool.true_and, Bool.and_false, Bool.false_and, Bool.not_true, Bool.not_false, g1, g2, hd, fComp, gRange1_i hb, Int.toNat_natCast]
  refine compL_pure (xs := (List.range ds.length).map fun i => .int (i : Nat)) (ys := List.replicate ds.length (.bl true)) (fun i => ?_) (fun i x e => ?_) (by simp) (by rw [List.length_map, List.length_range]; show ds.length < 16777216; omega) ?_
  · unfold itRng
    by_cases hi : i < ds.length
    · rw [if_pos hi, List.getElem?_map, List.getElem?_range hi]
      simp
    · rw [if_neg hi, List.getElem?_eq_none (by simpa using hi)]
  · have hi : i < ds.length := by
      have := (List.getElem?_eq_some_iff.mp e).1
      simpa using this
    rw [List.getElem?_map, List.getElem?_range hi] at e
    cases e
    have hi2 : i < gs.length := by omega
    refine ⟨_, _, rfl, by rw [List.getElem?_replicate, if_pos hi], fun Q' q => ?_⟩
    have a1 := i1 i _ (List.getElem?_eq_getElem hi2)
    have a2 := i2 i _ (List.getElem?_eq_getElem hi)
    simp only [sAsg, sPar, sIf, sRet, sRetN, sExp, sSet, sAug, sAugS, sBrk, sCnt, sRaise, sNil, exE, fVar, fLit, fNeg, fIsN, fBin, fChain, fAnd, fOr, fNot, fIte, fNil, fCons, fTup, fLst, fFN, fMt, fIsi, fCall, fSl1, fRev, fNewL, fFC, fXv, fIt, fSeq, fin_v, fin_n, finE_v, finE_n, gAdd_i, gAdd_s, gSub_i, gEq_i, gEq_b, gNe_i, gNe_b, gLt_i, gLe_i, gGt_i, gGe_i, gInt_i, gInt_b, gInp_a, gInp_s, gLen_t, gTuple_t, gList_t, chk_t, asgT, asgL, tyD, isNon, gRange1_i, Ty.isa, List.getElem?_cons_zero, List.getElem?_cons_succ, List.set_cons_zero, List.set_cons_succ, List.map_cons, List.map_nil, List.cons_append, List.nil_append, List.any_cons, List.any_nil, Option.map_some, Option.map_none, Bool.or_false, Bool.false_or, Bool.or_true, Bool.true_or, Bool.and_true, Bool.true_and, Bool.and_false, Bool.false_and, Bool.not_true, Bool.not_false, wipeD, a1, a2]
    exact hsp i _ _ (List.getElem?_eq_getElem hi2) (List.getElem?_eq_getElem hi) Q' q
  · simp only [cAll_true, fin_v]
    exact hQ
theorem same_ok : ∀ (n : Nat) {got due : D} {h : VH} {Q : PQ} {E : PX}, SameD h n got due → Q (.bl true) h → sp_same n [got, due] h Q E
  | 0, _, _, _, _, _, s, _ => s.elim
  | n + 1, got, due, h, Q, E, s, hQ => by
    refine fnSp_of rfl ?_
    show b_same (sp_same n) [some got, some due, none] h (fnD Q E)
    have ih : ∀ {g d : D} {Q' : PQ}, SameD h n g d → Q' (.bl true) h → sp_same n [g, d] h Q' noX := fun s q => same_ok n s q
    generalize sp_same n = sp at ih
    unfold SameD at s
    refine seq_ fun D hn hr hb hc' hx => ?_
    cases due with
    | non =>
      subst s
      simp only [sAsg, sPar, sIf, sRet, sRetN, sExp, sSet, sAug, sAugS, sBrk, sCnt, sRaise, sNil, exE, fVar, fLit, fNeg, fIsN, fBin, fChain, fAnd, fOr, fNot, fIte, fNil, fCons, fTup, fLst, fFN, fMt, fIsi, fCall, fSl1, fRev, fNewL, fFC, fXv, fIt, fSeq, fin_v, fin_n, finE_v, finE_n, gAdd_i, gAdd_s, gSub_i, gEq_i, gEq_b, gNe_i, gNe_b, gLt_i, gLe_i, gGt_i, gGe_i, gInt_i, gInt_b, gInp_a, gInp_s, gLen_t, gTuple_t, gList_t, chk_t, asgT, asgL, tyD, isNon, gRange1_i, Ty.isa, List.getElem?_cons_zero, List.getElem?_cons_succ, List.set_cons_zero, List.set_cons_succ, List.map_cons, List.map_nil, List.cons_append, List.nil_append, List.any_cons, List.any_nil, Option.map_some, Option.map_none, Bool.or_false, Bool.false_or, Bool.or_true, Bool.true_or, Bool.and_true, Bool.true_and, Bool.and_false, Bool.false_and, Bool.not_true, Bool.not_false]
      rw [hr]
      exact hQ
    | bl b =>
      subst s
      simp only [sAsg, sPar, sIf, sRet, sRetN, sExp, sSet, sAug, sAugS, sBrk, sCnt, sRaise, sNil, exE, fVar, fLit, fNeg, fIsN, fBin, fChain, fAnd, fOr, fNot, fIte, fNil, fCons, fTup, fLst, fFN, fMt, fIsi, fCall, fSl1, fRev, fNewL, fFC, fXv, fIt, fSeq, fin_v, fin_n, finE_v, finE_n, gAdd_i, gAdd_s, gSub_i, gEq_i, gEq_b, gNe_i, gNe_b, gLt_i, gLe_i, gGt_i, gGe_i, gInt_i, gInt_b, gInp_a, gInp_s, gLen_t, gTuple_t, gList_t, chk_t, asgT, asgL, tyD, isNon, gRange1_i, Ty.isa, List.getElem?_cons_zero, List.getElem?_cons_succ, List.set_cons_zero, List.set_cons_succ, List.map_cons, List.map_nil, List.cons_append, List.nil_append, List.any_cons, List.any_nil, Option.map_some, Option.map_none, Bool.or_false, Bool.false_or, Bool.or_true, Bool.true_or, Bool.and_true, Bool.true_and, Bool.and_false, Bool.false_and, Bool.not_true, Bool.not_false]
      rw [hn]
      refine seq_ fun D2 hn2 hr2 hb2 hc2 hx2 => ?_
      simp only [sAsg, sPar, sIf, sRet, sRetN, sExp, sSet, sAug, sAugS, sBrk, sCnt, sRaise, sNil, exE, fVar, fLit, fNeg, fIsN, fBin, fChain, fAnd, fOr, fNot, fIte, fNil, fCons, fTup, fLst, fFN, fMt, fIsi, fCall, fSl1, fRev, fNewL, fFC, fXv, fIt, fSeq, fin_v, fin_n, finE_v, finE_n, gAdd_i, gAdd_s, gSub_i, gEq_i, gEq_b, gNe_i, gNe_b, gLt_i, gLe_i, gGt_i, gGe_i, gInt_i, gInt_b, gInp_a, gInp_s, gLen_t, gTuple_t, gList_t, chk_t, asgT, asgL, tyD, isNon, gRange1_i, Ty.isa, List.getElem?_cons_zero, List.getElem?_cons_succ, List.set_cons_zero, List.set_cons_succ, List.map_cons, List.map_nil, List.cons_append, List.nil_append, List.any_cons, List.any_nil, Option.map_some, Option.map_none, Bool.or_false, Bool.false_or, Bool.or_true, Bool.true_or, Bool.and_true, Bool.true_and, Bool.and_false, Bool.false_and, Bool.not_true, Bool.not_false, decide_true]
      rw [hr2]
      exact hQ
    | str b =>
      subst s
      simp only [sAsg, sPar, sIf, sRet, sRetN, sExp, sSet, sAug, sAugS, sBrk, sCnt, sRaise, sNil, exE, fVar, fLit, fNeg, fIsN, fBin, fChain, fAnd, fOr, fNot, fIte, fNil, fCons, fTup, fLst, fFN, fMt, fIsi, fCall, fSl1, fRev, fNewL, fFC, fXv, fIt, fSeq, fin_v, fin_n, finE_v, finE_n, gAdd_i, gAdd_s, gSub_i, gEq_i, gEq_b, gNe_i, gNe_b, gLt_i, gLe_i, gGt_i, gGe_i, gInt_i, gInt_b, gInp_a, gInp_s, gLen_t, gTuple_t, gList_t, chk_t, asgT, asgL, tyD, isNon, gRange1_i, Ty.isa, List.getElem?_cons_zero, List.getElem?_cons_succ, List.set_cons_zero, List.set_cons_succ, List.map_cons, List.map_nil, List.cons_append, List.nil_append, List.any_cons, List.any_nil, Option.map_some, Option.map_none, Bool.or_false, Bool.false_or, Bool.or_true, Bool.true_or, Bool.and_true, Bool.true_and, Bool.and_false, Bool.false_and, Bool.not_true, Bool.not_false]
      rw [hn]
      refine seq_ fun D2 hn2 hr2 hb2 hc2 hx2 => ?_
      simp only [sAsg, sPar, sIf, sRet, sRetN, sExp, sSet, sAug, sAugS, sBrk, sCnt, sRaise, sNil, exE, fVar, fLit, fNeg, fIsN, fBin, fChain, fAnd, fOr, fNot, fIte, fNil, fCons, fTup, fLst, fFN, fMt, fIsi, fCall, fSl1, fRev, fNewL, fFC, fXv, fIt, fSeq, fin_v, fin_n, finE_v, finE_n, gAdd_i, gAdd_s, gSub_i, gEq_i, gEq_b, gNe_i, gNe_b, gLt_i, gLe_i, gGt_i, gGe_i, gInt_i, gInt_b, gInp_a, gInp_s, gLen_t, gTuple_t, gList_t, chk_t, asgT, asgL, tyD, isNon, gRange1_i, Ty.isa, List.getElem?_cons_zero, List.getElem?_cons_succ, List.set_cons_zero, List.set_cons_succ, List.map_cons, List.map_nil, List.cons_append, List.nil_append, List.any_cons, List.any_nil, Option.map_some, Option.map_none, Bool.or_false, Bool.false_or, Bool.or_true, Bool.true_or, Bool.and_true, Bool.true_and, Bool.and_false, Bool.false_and, Bool.not_true, Bool.not_false, decide_true, gEq_s]
      rw [hr2]
      exact hQ
    | int b =>
      subst s
      simp only [sAsg, sPar, sIf, sRet, sRetN, sExp, sSet, sAug, sAugS, sBrk, sCnt, sRaise, sNil, exE, fVar, fLit, fNeg, fIsN, fBin, fChain, fAnd, fOr, fNot, fIte, fNil, fCons, fTup, fLst, fFN, fMt, fIsi, fCall, fSl1, fRev, fNewL, fFC, fXv, fIt, fSeq, fin_v, fin_n, finE_v, finE_n, gAdd_i, gAdd_s, gSub_i, gEq_i, gEq_b, gNe_i, gNe_b, gLt_i, gLe_i, gGt_i, gGe_i, gInt_i, gInt_b, gInp_a, gInp_s, gLen_t, gTuple_t, gList_t, chk_t, asgT, asgL, tyD, isNon, gRange1_i, Ty.isa, List.getElem?_cons_zero, List.getElem?_cons_succ, List.set_cons_zero, List.set_cons_succ, List.map_cons, List.map_nil, List.cons_append, List.nil_append, List.any_cons, List.any_nil, Option.map_some, Option.map_none, Bool.or_false, Bool.false_or, Bool.or_true, Bool.true_or, Bool.and_true, Bool.true_and, Bool.and_false, Bool.false_and, Bool.not_true, Bool.not_false]
      rw [hn]
      refine seq_ fun D2 hn2 hr2 hb2 hc2 hx2 => ?_
      simp only [sAsg, sPar, sIf, sRet, sRetN, sExp, sSet, sAug, sAugS, sBrk, sCnt, sRaise, sNil, exE, fVar, fLit, fNeg, fIsN, fBin, fChain, fAnd, fOr, fNot, fIte, fNil, fCons, fTup, fLst, fFN, fMt, fIsi, fCall, fSl1, fRev, fNewL, fFC, fXv, fIt, fSeq, fin_v, fin_n, finE_v, finE_n, gAdd_i, gAdd_s, gSub_i, gEq_i, gEq_b, gNe_i, gNe_b, gLt_i, gLe_i, gGt_i, gGe_i, gInt_i, gInt_b, gInp_a, gInp_s, gLen_t, gTuple_t, gList_t, chk_t, asgT, asgL, tyD, isNon, gRange1_i, Ty.isa, List.getElem?_cons_zero, List.getElem?_cons_succ, List.set_cons_zero, List.set_cons_succ, List.map_cons, List.map_nil, List.cons_append, List.nil_append, List.any_cons, List.any_nil, Option.map_some, Option.map_none, Bool.or_false, Bool.false_or, Bool.or_true, Bool.true_or, Bool.and_true, Bool.true_and, Bool.and_false, Bool.false_and, Bool.not_true, Bool.not_false, decide_true]
      rw [hn2]
      refine seq_ fun D3 hn3 hr3 hb3 hc3 hx3 => ?_
      simp only [sAsg, sPar, sIf, sRet, sRetN, sExp, sSet, sAug, sAugS, sBrk, sCnt, sRaise, sNil, exE, fVar, fLit, fNeg, fIsN, fBin, fChain, fAnd, fOr, fNot, fIte, fNil, fCons, fTup, fLst, fFN, fMt, fIsi, fCall, fSl1, fRev, fNewL, fFC, fXv, fIt, fSeq, fin_v, fin_n, finE_v, finE_n, gAdd_i, gAdd_s, gSub_i, gEq_i, gEq_b, gNe_i, gNe_b, gLt_i, gLe_i, gGt_i, gGe_i, gInt_i, gInt_b, gInp_a, gInp_s, gLen_t, gTuple_t, gList_t, chk_t, asgT, asgL, tyD, isNon, gRange1_i, Ty.isa, List.getElem?_cons_zero, List.getElem?_cons_succ, List.set_cons_zero, List.set_cons_succ, List.map_cons, List.map_nil, List.cons_append, List.nil_append, List.any_cons, List.any_nil, Option.map_some, Option.map_none, Bool.or_false, Bool.false_or, Bool.or_true, Bool.true_or, Bool.and_true, Bool.true_and, Bool.and_false, Bool.false_and, Bool.not_true, Bool.not_false, decide_true]
      rw [hr3]
      exact hQ
    | tup ds =>
      obtain ⟨gs, rfl, hl, hs, hh⟩ := s
      simp only [sAsg, sPar, sIf, sRet, sRetN, sExp, sSet, sAug, sAugS, sBrk, sCnt, sRaise, sNil, exE, fVar, fLit, fNeg, fIsN, fBin, fChain, fAnd, fOr, fNot, fIte, fNil, fCons, fTup, fLst, fFN, fMt, fIsi, fCall, fSl1, fRev, fNewL, fFC, fXv, fIt, fSeq, fin_v, fin_n, finE_v, finE_n, gAdd_i, gAdd_s, gSub_i, gEq_i, gEq_b, gNe_i, gNe_b, gLt_i, gLe_i, gGt_i, gGe_i, gInt_i, gInt_b, gInp_a, gInp_s, gLen_t, gTuple_t, gList_t, chk_t, asgT, asgL, tyD, isNon, gRange1_i, Ty.isa, List.getElem?_cons_zero, List.getElem?_cons_succ, List.set_cons_zero, List.set_cons_succ, List.map_cons, List.map_nil, List.cons_append, List.nil_append, List.any_cons, List.any_nil, Option.map_some, Option.map_none, Bool.or_false, Bool.false_or, Bool.or_true, Bool.true_or, Bool.and_true, Bool.true_and, Bool.and_false, Bool.false_and, Bool.not_true, Bool.not_false]
      rw [hn]
      refine seq_ fun D2 hn2 hr2 hb2 hc2 hx2 => ?_
      simp only [sAsg, sPar, sIf, sRet, sRetN, sExp, sSet, sAug, sAugS, sBrk, sCnt, sRaise, sNil, exE, fVar, fLit, fNeg, fIsN, fBin, fChain, fAnd, fOr, fNot, fIte, fNil, fCons, fTup, fLst, fFN, fMt, fIsi, fCall, fSl1, fRev, fNewL, fFC, fXv, fIt, fSeq, fin_v, fin_n, finE_v, finE_n, gAdd_i, gAdd_s, gSub_i, gEq_i, gEq_b, gNe_i, gNe_b, gLt_i, gLe_i, gGt_i, gGe_i, gInt_i, gInt_b, gInp_a, gInp_s, gLen_t, gTuple_t, gList_t, chk_t, asgT, asgL, tyD, isNon, gRange1_i, Ty.isa, List.getElem?_cons_zero, List.getElem?_cons_succ, List.set_cons_zero, List.set_cons_succ, List.map_cons, List.map_nil, List.cons_append, List.nil_append, List.any_cons, List.any_nil, Option.map_some, Option.map_none, Bool.or_false, Bool.false_or, Bool.or_true, Bool.true_or, Bool.and_true, Bool.true_and, Bool.and_false, Bool.false_and, Bool.not_true, Bool.not_false, decide_true]
      rw [hn2]
      refine seq_ fun D3 hn3 hr3 hb3 hc3 hx3 => ?_
      simp only [sAsg, sPar, sIf, sRet, sRetN, sExp, sSet, sAug, sAugS, sBrk, sCnt, sRaise, sNil, exE, fVar, fLit, fNeg, fIsN, fBin, fChain, fAnd, fOr, fNot, fIte, fNil, fCons, fTup, fLst, fFN, fMt, fIsi, fCall, fSl1, fRev, fNewL, fFC, fXv, fIt, fSeq, fin_v, fin_n, finE_v, finE_n, gAdd_i, gAdd_s, gSub_i, gEq_i, gEq_b, gNe_i, gNe_b, gLt_i, gLe_i, gGt_i, gGe_i, gInt_i, gInt_b, gInp_a, gInp_s, gLen_t, gTuple_t, gList_t, chk_t, asgT, asgL, tyD, isNon, gRange1_i, Ty.isa, List.getElem?_cons_zero, List.getElem?_cons_succ, List.set_cons_zero, List.set_cons_succ, List.map_cons, List.map_nil, List.cons_append, List.nil_append, List.any_cons, List.any_nil, Option.map_some, Option.map_none, Bool.or_false, Bool.false_or, Bool.or_true, Bool.true_or, Bool.and_true, Bool.true_and, Bool.and_false, Bool.false_and, Bool.not_true, Bool.not_false, decide_true]
      rw [hn3]
      refine seq_ fun D4 hn4 hr4 hb4 hc4 hx4 => ?_
      simp only [sAsg, sPar, sIf, sRet, sRetN, sExp, sSet, sAug, sAugS, sBrk, sCnt, sRaise, sNil, exE, fVar, fLit, fNeg, fIsN, fBin, fChain, fAnd, fOr, fNot, fIte, fNil, fCons, fTup, fLst, fFN, fMt, fIsi, fCall, fSl1, fRev, fNewL, fFC, fXv, fIt, fSeq, fin_v, fin_n, finE_v, finE_n, gAdd_i, gAdd_s, gSub_i, gEq_i, gEq_b, gNe_i, gNe_b, gLt_i, gLe_i, gGt_i, gGe_i, gInt_i, gInt_b, gInp_a, gInp_s, gLen_t, gTuple_t, gList_t, chk_t, asgT, asgL, tyD, isNon, gRange1_i, Ty.isa, List.getElem?_cons_zero, List.getElem?_cons_succ, List.set_cons_zero, List.set_cons_succ, List.map_cons, List.map_nil, List.cons_append, List.nil_append, List.any_cons, List.any_nil, Option.map_some, Option.map_none, Bool.or_false, Bool.false_or, Bool.or_true, Bool.true_or, Bool.and_true, Bool.true_and, Bool.and_false, Bool.false_and, Bool.not_true, Bool.not_false, decide_true]
      rw [hn4]
      exact same_seq hl hs rfl (fun i g e => gIx_t (atI_nat e)) (fun i g e => gIx_t (atI_nat e)) (fun i g d e1 e2 Q' q => ih (hh i g d e1 e2) q) hQ rfl
    | ref k =>
      obtain ⟨l, gs, ds, rfl, e1, e2, hl, hs, hh⟩ := s
      simp only [sAsg, sPar, sIf, sRet, sRetN, sExp, sSet, sAug, sAugS, sBrk, sCnt, sRaise, sNil, exE, fVar, fLit, fNeg, fIsN, fBin, fChain, fAnd, fOr, fNot, fIte, fNil, fCons, fTup, fLst, fFN, fMt, fIsi, fCall, fSl1, fRev, fNewL, fFC, fXv, fIt, fSeq, fin_v, fin_n, finE_v, finE_n, gAdd_i, gAdd_s, gSub_i, gEq_i, gEq_b, gNe_i, gNe_b, gLt_i, gLe_i, gGt_i, gGe_i, gInt_i, gInt_b, gInp_a, gInp_s, gLen_t, gTuple_t, gList_t, chk_t, asgT, asgL, tyD, isNon, gRange1_i, Ty.isa, List.getElem?_cons_zero, List.getElem?_cons_succ, List.set_cons_zero, List.set_cons_succ, List.map_cons, List.map_nil, List.cons_append, List.nil_append, List.any_cons, List.any_nil, Option.map_some, Option.map_none, Bool.or_false, Bool.false_or, Bool.or_true, Bool.true_or, Bool.and_true, Bool.true_and, Bool.and_false, Bool.false_and, Bool.not_true, Bool.not_false]
      rw [hn]
      refine seq_ fun D2 hn2 hr2 hb2 hc2 hx2 => ?_
      simp only [sAsg, sPar, sIf, sRet, sRetN, sExp, sSet, sAug, sAugS, sBrk, sCnt, sRaise, sNil, exE, fVar, fLit, fNeg, fIsN, fBin, fChain, fAnd, fOr, fNot, fIte, fNil, fCons, fTup, fLst, fFN, fMt, fIsi, fCall, fSl1, fRev, fNewL, fFC, fXv, fIt, fSeq, fin_v, fin_n, finE_v, finE_n, gAdd_i, gAdd_s, gSub_i, gEq_i, gEq_b, gNe_i, gNe_b, gLt_i, gLe_i, gGt_i, gGe_i, gInt_i, gInt_b, gInp_a, gInp_s, gLen_t, gTuple_t, gList_t, chk_t, asgT, asgL, tyD, isNon, gRange1_i, Ty.isa, List.getElem?_cons_zero, List.getElem?_cons_succ, List.set_cons_zero, List.set_cons_succ, List.map_cons, List.map_nil, List.cons_append, List.nil_append, List.any_cons, List.any_nil, Option.map_some, Option.map_none, Bool.or_false, Bool.false_or, Bool.or_true, Bool.true_or, Bool.and_true, Bool.true_and, Bool.and_false, Bool.false_and, Bool.not_true, Bool.not_false, decide_true, e1, e2]
      rw [hn2]
      refine seq_ fun D3 hn3 hr3 hb3 hc3 hx3 => ?_
      simp only [sAsg, sPar, sIf, sRet, sRetN, sExp, sSet, sAug, sAugS, sBrk, sCnt, sRaise, sNil, exE, fVar, fLit, fNeg, fIsN, fBin, fChain, fAnd, fOr, fNot, fIte, fNil, fCons, fTup, fLst, fFN, fMt, fIsi, fCall, fSl1, fRev, fNewL, fFC, fXv, fIt, fSeq, fin_v, fin_n, finE_v, finE_n, gAdd_i, gAdd_s, gSub_i, gEq_i, gEq_b, gNe_i, gNe_b, gLt_i, gLe_i, gGt_i, gGe_i, gInt_i, gInt_b, gInp_a, gInp_s, gLen_t, gTuple_t, gList_t, chk_t, asgT, asgL, tyD, isNon, gRange1_i, Ty.isa, List.getElem?_cons_zero, List.getElem?_cons_succ, List.set_cons_zero, List.set_cons_succ, List.map_cons, List.map_nil, List.cons_append, List.nil_append, List.any_cons, List.any_nil, Option.map_some, Option.map_none, Bool.or_false, Bool.false_or, Bool.or_true, Bool.true_or, Bool.and_true, Bool.true_and, Bool.and_false, Bool.false_and, Bool.not_true, Bool.not_false, decide_true, e1, e2]
      rw [hn3]
      refine seq_ fun D4 hn4 hr4 hb4 hc4 hx4 => ?_
      simp only [sAsg, sPar, sIf, sRet, sRetN, sExp, sSet, sAug, sAugS, sBrk, sCnt, sRaise, sNil, exE, fVar, fLit, fNeg, fIsN, fBin, fChain, fAnd, fOr, fNot, fIte, fNil, fCons, fTup, fLst, fFN, fMt, fIsi, fCall, fSl1, fRev, fNewL, fFC, fXv, fIt, fSeq, fin_v, fin_n, finE_v, finE_n, gAdd_i, gAdd_s, gSub_i, gEq_i, gEq_b, gNe_i, gNe_b, gLt_i, gLe_i, gGt_i, gGe_i, gInt_i, gInt_b, gInp_a, gInp_s, gLen_t, gTuple_t, gList_t, chk_t, asgT, asgL, tyD, isNon, gRange1_i, Ty.isa, List.getElem?_cons_zero, List.getElem?_cons_succ, List.set_cons_zero, List.set_cons_succ, List.map_cons, List.map_nil, List.cons_append, List.nil_append, List.any_cons, List.any_nil, Option.map_some, Option.map_none, Bool.or_false, Bool.false_or, Bool.or_true, Bool.true_or, Bool.and_true, Bool.true_and, Bool.and_false, Bool.false_and, Bool.not_true, Bool.not_false, decide_true, e1, e2]
      rw [hn4]
      exact same_seq hl hs (gLen_l e2) (fun i g e => gIx_l e1 (atI_nat e)) (fun i g e => gIx_l e2 (atI_nat e)) (fun i g d e1 e2 Q' q => ih (hh i g d e1 e2) q) hQ (gLen_l e1)
    | _ => exact s.elim
end Ev

set_option Elab.async false
set_option linter.all false
set_option maxRecDepth 100000
set_option maxHeartbeats 0
/-! Ev9: the head's facts of own exceptions below ValueError that keep a value. -/
namespace Ev
open PySem PySem.Spec PyProof.Rows L2 NdefX
/-! ### a class -/
def oexB (K : PySem.W.Frag) (C : Addr) : Bool := (match K.lookup C with
  | some ⟨.type "type", _, .cls cd, sl⟩ => (match cd.mro, sl.toList with
    | .ref C' :: bm, [_, _, _, _, some (.builtin n), _] => C' == C && n == "ValueError.__new__" && !cd.hasDel && cd.hasDict && PySem.HandSPX.refsVE bm
    | _, _ => false)
  | _ => false)
def oexB2 (K : PySem.W.Frag) (C : Addr) : Bool := oexB K C && (He.eqO (PySem.W.findIn K (.ref C) "__setattr__") (some (some (.builtin "object.__setattr__"))) && (decide (PySem.W.subIn K (.ref C) (.type "BaseException") = some true) && (decide (PySem.W.typeIn K (.ref C) = some (.type "type")) && PySem.W.keepIn K (.ref C))))
theorem oexB_ok {K : PySem.W.Frag} {C : Addr} (h : oexB2 K C = true) : OexC K C := by
  obtain ⟨q, h⟩ := He.ba h
  obtain ⟨h2, h⟩ := He.ba h
  obtain ⟨h3, h⟩ := He.ba h
  obtain ⟨h4, h5⟩ := He.ba h
  refine ⟨?_, He.eqO_ok h2, of_decide_eq_true h3, of_decide_eq_true h4, h5⟩
  unfold oexB at q
  split at q
  · rename_i dd cd sl ho
    split at q
    · rename_i C' bm k0 k1 k2 k3 n k5 hm hs
      simp only [Bool.and_eq_true, beq_iff_eq, Bool.not_eq_true'] at q
      obtain ⟨⟨⟨⟨rfl, rfl⟩, hdel⟩, hhd⟩, hr⟩ := q
      obtain ⟨nm, bs, mro, ns, qn, hd, sn, sub, ab, col, del⟩ := cd
      dsimp only at hm hdel hhd
      subst hm hdel hhd
      have hsl : sl = #[k0, k1, k2, k3, some (.builtin "ValueError.__new__"), k5] := by
        obtain ⟨l⟩ := sl
        simp only at hs
        rw [hs]
      subst hsl
      exact ⟨nm, qn, ns, bs, bm, sn, sub, ab, col, dd, k0, k1, k2, k3, k5, ho, hr⟩
    · cases q
  · cases q
def inicB (K : PySem.W.Frag) (D C : Addr) : Bool := oexB2 K C && (He.eqO (PySem.W.ks_superIn K C D "__init__") (some (some (.builtin "ValueError.__init__"))) && (decide (PySem.W.subIn K (.ref C) (.type "ValueError") = some true) && (decide (PySem.W.mroIn K C (.ref D) = some true) && He.eqO (PySem.W.findIn K (.ref C) "value") (some none))))
theorem inicB_ok {K : PySem.W.Frag} {D C : Addr} (h : inicB K D C = true) : IniC K D C := by
  obtain ⟨h1, h⟩ := He.ba h
  obtain ⟨h2, h⟩ := He.ba h
  obtain ⟨h3, h⟩ := He.ba h
  obtain ⟨h4, h5⟩ := He.ba h
  exact ⟨oexB_ok h1, He.eqO_ok h2, of_decide_eq_true h3, of_decide_eq_true h4, He.eqO_ok h5⟩
/-! ### the __init__ -/
abbrev IniV : Type := Option (Str × Str × Arguments × FuncBody × Scope × Addr × List Str × Value × Addr)
def iniObs (K : PySem.W.Frag) (a : Addr) : IniV := match K.lookup a with
  | some ⟨_, _, .func fd, _⟩ => some (fd.name, fd.qualname, fd.params, fd.body, fd.scope, fd.globals, fd.closure.map (·.1), fd.defaults, fd.builtins)
  | _ => none
def iniVal (qual : Str) (st : Stmt) : IniV := some ("__init__", qual, defArgs st, .stmts (defBody st), defScope st, mainGlobals, ["__class__"], .none, builtinsNs)
def clsSome (K : PySem.W.Frag) (D : Addr) : Bool := (PySem.W.clsIn K D).isSome
def fileB (K : PySem.W.Frag) (file : Str) (c : Value) : Bool := match c with
  | .ref c => (match K.lookup c with
    | some ⟨_, _, .fields vs, _⟩ => (match (vs[2]? : Option Value) with
      | some (.str fl _) => file == fl
      | _ => false)
    | _ => false)
  | _ => false
def cellB (K : PySem.W.Frag) (D : Addr) (cl : List (Str × Addr)) : Bool := match cl with
  | [(_, cc)] => (match K.lookup cc with
    | some ⟨_, _, .cell (some (.ref D')), _⟩ => D' == D
    | _ => false)
  | _ => false
/-- the class D, its __init__ at a -/
def iniB (K : PySem.W.Frag) (file qual : Str) (D a : Addr) : Bool := (match K.lookup a with
  | some ⟨_, _, .func fd, _⟩ => PySem.W.codeIn K fd.code qual && (fileB K file fd.code && cellB K D fd.closure)
  | _ => false) && (clsSome K D && (He.eqO (PySem.W.nsIn K cStatics "thirdparty.any") (some none) && decide (PySem.W.typeIn K (.ref a) = some (.type "function"))))
section
variable {P : Program} {w : World} {K : PySem.W.Frag} {mg : Str → Option Value} {base : Heap} {D a : Addr} {file qual : Str} {st : Stmt}
theorem iniK_of (e : iniObs K a = iniVal qual st) (h : iniB K P.main.file qual D a = true) (sup : mg "super" = none) (top : (P.main.scope.names.lookup ("super" : Str)).isSome = false) :
    (∃ oc od osl kV doc pm ct an cc cD, IniK P K mg D a qual (defArgs st) (defBody st) (defScope st) oc od osl kV doc pm ct an cc cD) ∧ PySem.W.typeIn K (.ref a) = some (.type "function") := by
  obtain ⟨h1, h⟩ := He.ba h
  obtain ⟨h2, h⟩ := He.ba h
  obtain ⟨h3, h4⟩ := He.ba h
  refine ⟨?_, of_decide_eq_true h4⟩
  unfold iniObs at e
  cases q : K.lookup a with
  | none => rw [q] at e; cases e
  | some o =>
    obtain ⟨oc, od, dt, osl⟩ := o
    rw [q] at e h1
    cases dt with
    | func fd =>
      obtain ⟨n1, n2, n3, n4, n5, n6, n7, n8, n9, n10, n11, n12, n13, n14, n15⟩ := fd
      have e2 : (some (n1, n2, n3, n4, n5, n6, n7.map (·.1), n8, n15) : IniV) = iniVal qual st := e
      unfold iniVal at e2
      simp only [Option.some.injEq, Prod.mk.injEq] at e2
      obtain ⟨z1, z2, z3, z4, z5, z6, z7, z8, z9⟩ := e2
      subst z1 z2 z3 z4 z5 z6 z8 z9
      have h1 : (PySem.W.codeIn K n13 n2 && (fileB K P.main.file n13 && cellB K D n7)) = true := h1
      obtain ⟨k1, k2⟩ := He.ba h1
      obtain ⟨k4, k3⟩ := He.ba k2
      obtain ⟨cD, rfl⟩ := He.codeIn_ref k1
      obtain ⟨cc, rfl, hcc⟩ : ∃ cc, n7 = [(("__class__" : Str), cc)] ∧ ∃ c1 c2 c3, K.lookup cc = some ⟨c1, c2, .cell (some (.ref D)), c3⟩ := by
        clear q e h1
        unfold cellB at k3
        split at k3
        · rename_i o3 nm cc
          split at k3
          · rename_i c1 c2 D' c3 hl
            have : D' = D := beq_iff_eq.mp k3
            subst this
            have z7 : ([nm] : List Str) = [("__class__" : Str)] := z7
            cases z7
            exact ⟨cc, rfl, _, _, _, hl⟩
          · cases k3
        · cases k3
      refine ⟨oc, od, osl, n9, n10, n11, n14, n12, cc, cD, q, k1, hcc, ?_, ?_, sup, top, He.eqO_ok h3⟩
      · cases z : PySem.W.clsIn K D with
        | none => unfold clsSome at h2; rw [z] at h2; cases h2
        | some cd => exact ⟨cd, rfl⟩
      · have k2 : (match K.lookup cD with
          | some ⟨_, _, .fields vs, _⟩ => (match (vs[2]? : Option Value) with
            | some (.str fl _) => P.main.file == fl
            | _ => false)
          | _ => false) = true := k4
        split at k2
        · rename_i c1 c2 vs c3 hl
          split at k2
          · rename_i fl tf hv
            exact ⟨c1, c2, vs, c3, fl, tf, hl, hv, k2⟩
          · cases k2
        · cases k2
    | _ => cases e
variable {p0 p1 p2 p3 p4 p5 p6 p7 p8 p9 : Pos}
/-- what the text of the __init__ gives -/
structure IniT (st : Stmt) (p0 p1 p2 p3 p4 p5 p6 p7 p8 p9 : Pos) : Prop where
  eb : defBody st = iniBody p0 p1 p2 p3 p4 p5 p6 p7 p8 p9
  S : NScope ["self", "value", "__class__"] ["self", "value"] ["__class__"] (defScope st)
  hsup : (defScope st).names.lookup ("super" : Str) = some .globalImplicit
  har : ∃ ar r, (defArgs st).posonlyargs ++ (defArgs st).args = ar :: r ∧ ar.arg = ("self" : Str)
  hev : ∀ env, ∃ pl, eval (.Call (.Attribute (.Call (.Name "super" p0) [] [] p1) "__init__" p2) [.Name "value" p3] [] p4) env = (do
      let ov ← attributeBase (.Call (.Name "super" p0) [] [] p1) "__init__" env (eval (.Call (.Name "super" p0) [] [] p1) env)
      standAt p2.atName
      let (f, first) ← holding [ov] (getMethod ov "__init__" pl)
      callWith p4 f first (backTo p4 (starEach [.Name "value" p3] env)) [])
  hsw1 : ∀ env, swapsWith (.Call (.Attribute (.Call (.Name "super" p0) [] [] p1) "__init__" p2) [.Name "value" p3] [] p4) none p5.line env = pure false
  bind : ∀ (qual : Str) (cl : List (Str × Addr)) (kV doc pm : Value) (an : Option Addr) (cdv ct : Value) (us : List Value), us.length = 2 → bindArgs (PySem.W.fnX "__init__" qual (defArgs st) (defBody st) (defScope st) cl .none kV doc pm an cdv ct) ⟨us, []⟩ = pure ((["self", "value"] : List Str).zip us)
theorem xc_of {x : Str} {C : Addr} (T : IniT st p0 p1 p2 p3 p4 p5 p6 p7 p8 p9) (e : iniObs K a = iniVal qual st) (h : iniB K P.main.file qual D a = true) (sup : mg "super" = none) (top : (P.main.scope.names.lookup ("super" : Str)).isSome = false)
    (hx : mg x = some (.ref C)) (hc : inicB K D C = true) (hf : PySem.W.findIn K (.ref C) "__init__" = some (some (.ref a))) : Xc P w K mg base x := by
  obtain ⟨⟨oc, od, osl, kV, doc, pm, ct, an, cc, cD, IK⟩, ht⟩ := iniK_of (P := P) e h sup top
  exact ⟨C, D, a, _, hx, inicB_ok hc, hf, ht, ini_ok (k := 0) T.eb IK T.S T.hsup T.har T.hev T.hsw1, Binds.all fun us hl => T.bind _ _ _ _ _ _ _ _ us hl⟩
end
/-! ### the Hook -/
/-- an __init__: the class, its qualified name, its text -/
structure InD where
  cls : Str
  qual : Str
  st : Stmt
def inAd (K : PySem.W.Frag) (d : InD) : Addr := He.ma K (He.ga K d.cls) "__init__"
abbrev AlY : Type := He.AlD × Bool × List IniV
def obsY (n : Nat) (fa : List He.Fa) (fn : List He.DefD) (ins : List InD) (ex : PySem.W.Frag → Bool) (g : Addr → Option Obj) : AlY := (fun K : PySem.W.Frag => (He.obsD fa fn K, ex K, ins.map fun d => iniObs K (inAd K d))) (He.frG g (cStatics :: He.asD g n))
def valY (fn : List He.DefD) (ins : List InD) : AlY := (He.valD fn, true, ins.map fun d => iniVal d.qual d.st)
structure SaysY (fa : List He.Fa) (fn : List He.DefD) (ins : List InD) (ex : PySem.W.Frag → Bool) (K : PySem.W.Frag) : Prop where
  d : He.SaysD fa fn K
  more : ex K = true
  ini : ∀ d ∈ ins, iniObs K (inAd K d) = iniVal d.qual d.st
theorem saysY_of {n : Nat} {fa : List He.Fa} {fn : List He.DefD} {ins : List InD} {ex : PySem.W.Frag → Bool} {g : Addr → Option Obj} (e : obsY n fa fn ins ex g = valY fn ins) : SaysY fa fn ins ex (He.frG g (cStatics :: He.asD g n)) := by
  refine ⟨congrArg (fun z : AlY => z.1) e, congrArg (fun z : AlY => z.2.1) e, ?_⟩
  have e3 : (ins.map fun d => iniObs (He.frG g (cStatics :: He.asD g n)) (inAd (He.frG g (cStatics :: He.asD g n)) d)) = ins.map fun d => iniVal d.qual d.st := congrArg (fun z : AlY => z.2.2) e
  intro d hd
  exact List.map_inj_left.mp e3 d hd
def hookY (n : Nat) (fa : List He.Fa) (fn : List He.DefD) (ins : List InD) (ex : PySem.W.Frag → Bool) : PySem.W.Hook where
  α := AlY
  obs := fun s => obsY n fa fn ins ex s.heap.get?
  val := fun _ => valY fn ins
  says := fun _ h => ∃ K : PySem.W.Frag, K.In h ∧ SaysY fa fn ins ex K
  of := fun _ _ e => ⟨_, He.frG_in, saysY_of e⟩
  keeps := fun _ _ _ ⟨K, hK, c⟩ k => ⟨K, PySem.W.Frag.In.keeps hK k, c⟩
theorem obsY_eq {n : Nat} {fa : List He.Fa} {fn : List He.DefD} {ins : List InD} {ex : PySem.W.Frag → Bool} {g : Addr → Option Obj} {s : Shared} (h : ∀ a, g a = s.heap.get? a) : obsY n fa fn ins ex g = (hookY n fa fn ins ex).obs s := by
  have e : g = s.heap.get? := funext h
  rw [e] <;> rfl
end Ev

set_option Elab.async false
set_option linter.all false
set_option maxRecDepth 100000
set_option maxHeartbeats 0
/-! Ev10: a law's end. -/
namespace Ev
open PySem PySem.Spec PyProof.Rows L2 NdefX
theorem funD_uniq {K : PySem.W.Frag} {x qual x' qual' : Str} {params params' : Arguments} {body body' : List Stmt} {scope scope' : Scope} {f : Addr} {fd fd' : FuncData} (F : FunD K x qual params body scope [] [] f fd) (F' : FunD K x' qual' params' body' scope' [] [] f fd') : fd = fd' := by
  obtain ⟨oc, od, dV, kV, doc, pm, an, cdv, ct, osl, e, lk, _⟩ := F.ex
  obtain ⟨oc', od', dV', kV', doc', pm', an', cdv', ct', osl', e', lk', _⟩ := F'.ex
  rw [lk] at lk'
  injection lk' with z
  injection z with z1 z2 z3 z4
  injection z3
theorem rpa_ints {G : Gd} {H : Hp} {ρ : Nat → Addr} {n : Nat} : ∀ ns : List Int, RpA G H ρ n (ns.map D.int) (ns.map V.int)
  | [] => .nil
  | i :: r => .cons (.int i) (rpa_ints r)
theorem spOf_law {K : PySem.W.Frag} {mg : Str → Option Value} {sp : Spec} {H : Hp} {a : Addr} {ns : List Int} (hS : SqL K H a (ns.map V.int))
    (hl : ∀ d h Q E, (∀ g, gList [d] (h ++ g) = some (.new (ns.map D.int))) → (∀ h', Q (.bl true) h') → sp [d] h Q E) : spOf ⟨K, mg, []⟩ sp [.ref a] H (fun v _ => v = .bl true) fun _ _ _ => False := by
  have q : ∀ ρ h h', QV ⟨K, mg, []⟩ ρ h H (fun v _ => v = .bl true) (.bl true) h' := fun ρ h h' ρ' v H' _ r => by
    cases r
    rfl
  have cc : SqC K H a (ns.map V.int) → spOf ⟨K, mg, []⟩ sp [.ref a] H (fun v _ => v = .bl true) fun _ _ _ => False := fun z =>
    ⟨fun _ => a, [], [.cl (ns.map D.int)], ⟨fun k o e => by simp at e, fun i j h => absurd h (Nat.not_lt_zero _)⟩, (fun p hp => nomatch hp), .cons (.cl z (rpa_ints ns)) .nil, hl _ _ _ _ (fun g => rfl) (q _ _)⟩
  rcases hS with (h | ⟨o, h⟩) | h
  · refine ⟨fun _ => a, [.lst (ns.map D.int)], [.ref 0], ⟨fun k o e => ?_, fun i j hi hj _ => ?_⟩, (fun p hp => nomatch hp), .cons (.ref (Nat.zero_lt_one)) .nil, hl _ _ _ _ (fun g => rfl) (q _ _)⟩
    · rcases k with _ | k
      · cases e
        exact ⟨_, h, rpa_ints ns⟩
      · simp at e
    · simp only [List.length_cons, List.length_nil] at hi hj
      omega
  · exact cc (.inl ⟨o, h⟩)
  · exact cc (.inr h)
theorem law_at {l : PySem.W.OpenLaw} {w : World} {K : PySem.W.Frag} {mg : Str → Option Value} {fa fa' : Addr} {fd : FuncData} {h : Heap} {n k : Nat} {st : Stmt} {sp : Spec} (hm : mg "law" = some (.ref fa)) (hm' : mg "law" = some (.ref fa'))
    (DF : FunD K "law" "law" (defArgs st) (defBody st) (defScope st) [] [] fa' fd) (F : ∀ base : Heap, K.In base → base.Ns mainGlobals mg → Fn l.prog w K mg base [] "law" st ["script"] k sp)
    (hbind : ∀ (kV doc pm : Value) (an : Option Addr) (cdv ct : Value) (us : List Value), us.length = 1 → bindArgs (PySem.W.fnOf "law" "law" (defArgs st) (defBody st) (defScope st) .none kV doc pm an cdv ct) ⟨us, []⟩ = pure ((["script"] : List Str).zip us))
    (hl : ∀ (ns : List Int) d h Q E, ns.length ≤ n → (∀ g, gList [d] (h ++ g) = some (.new (ns.map D.int))) → (∀ h', Q (.bl true) h') → sp [d] h Q E) : LamX.LawAtS l w K (L2.CX l.prog w) k n "script" mg fa h := by
  have e := hm.symm.trans hm'
  cases e
  refine ⟨fd, [], spOf ⟨K, mg, []⟩ sp, fun p hp => by simp at hp, fun p hp => by simp at hp, fun p hp => by simp at hp, fun s u => DF.bindsA (ps := ["script"]) hbind s [u] rfl, fun H a ns hlen _ _ hS => spOf_law hS fun d h Q E => hl ns d h Q E hlen, fun base hb hg _ => ?_⟩
  obtain ⟨f2, fd2, m2, D2, _, ok⟩ := (F base hb hg).ex
  have e := hm.symm.trans m2
  cases e
  rw [funD_uniq DF D2]
  exact ok
theorem cx_no {P : Program} {w : World} {H : Hp} {s : Shared} {e : Value} {s' : Shared} (h : L2.CX P w [] H s (fun _ _ _ => False) e s') : False := by
  obtain ⟨_, _, _, _, _, _, _, _, _, _, _, _, z⟩ := h
  exact z
end Ev

set_option Elab.async false
set_option linter.all false
set_option maxRecDepth 100000
set_option maxHeartbeats 0
/-! Ev11: twins of the meanings that compute: what is run on given data in the kernel. -/
namespace Ev
open PySem PySem.Spec PyProof.Rows L2 NdefX
/-! ### values are worked out before they are kept -/
section
variable {α : Type}
def frcN (n : Nat) (k : Nat → α) : α := match n with
  | 0 => k 0
  | n + 1 => k (n + 1)
theorem frcN_eq (n : Nat) (k : Nat → α) : frcN n k = k n := by cases n <;> rfl
def frcI (i : Int) (k : Int → α) : α := match i with
  | .ofNat n => frcN n fun n => k (.ofNat n)
  | .negSucc n => frcN n fun n => k (.negSucc n)
theorem frcI_eq (i : Int) (k : Int → α) : frcI i k = k i := by
  cases i with
  | ofNat n => exact frcN_eq n fun n => k (.ofNat n)
  | negSucc n => exact frcN_eq n fun n => k (.negSucc n)
def frcNs : List Nat → (List Nat → α) → α
  | [], k => k []
  | n :: t, k => frcN n fun n => frcNs t fun t => k (n :: t)
theorem frcNs_eq : ∀ (l : List Nat) (k : List Nat → α), frcNs l k = k l
  | [], k => rfl
  | n :: t, k => by
    show frcN n (fun n => frcNs t fun t => k (n :: t)) = _
    rw [frcN_eq, frcNs_eq t]
def frcS (s : Str) (k : Str → α) : α := match s with
  | ⟨⟨l⟩⟩ => frcNs l fun l => k ⟨⟨l⟩⟩
theorem frcS_eq (s : Str) (k : Str → α) : frcS s k = k s := by
  obtain ⟨⟨l⟩⟩ := s
  exact frcNs_eq l fun l => k ⟨⟨l⟩⟩
/-- the row of a list -/
def frcL {β : Type} : List β → (List β → α) → α
  | [], k => k []
  | d :: t, k => frcL t fun t => k (d :: t)
theorem frcL_eq {β : Type} : ∀ (l : List β) (k : List β → α), frcL l k = k l
  | [], k => rfl
  | d :: t, k => frcL_eq t fun t => k (d :: t)
/-- a value, to its first tuple -/
def frcD1 (d : D) (k : D → α) : α := match d with
  | .non => k .non
  | .bl b => (match b with
    | true => k (.bl true)
    | false => k (.bl false))
  | .int i => frcI i fun i => k (.int i)
  | .str s => frcS s fun s => k (.str s)
  | .tup ds => frcL ds fun ds => k (.tup ds)
  | .ref n => frcN n fun n => k (.ref n)
  | d => k d
theorem frcD1_eq (d : D) (k : D → α) : frcD1 d k = k d := by
  cases d with
  | bl b => cases b <;> rfl
  | int i => exact frcI_eq i fun i => k (.int i)
  | str s => exact frcS_eq s fun s => k (.str s)
  | tup ds => exact frcL_eq ds fun ds => k (.tup ds)
  | ref n => exact frcN_eq n fun n => k (.ref n)
  | _ => rfl
def frcDs : List D → (List D → α) → α
  | [], k => k []
  | d :: t, k => frcD1 d fun d => frcDs t fun t => k (d :: t)
theorem frcDs_eq : ∀ (l : List D) (k : List D → α), frcDs l k = k l
  | [], k => rfl
  | d :: t, k => by
    show frcD1 d (fun d => frcDs t fun t => k (d :: t)) = _
    rw [frcD1_eq, frcDs_eq t]
def frcD (d : D) (k : D → α) : α := match d with
  | .tup ds => frcDs ds fun ds => k (.tup ds)
  | d => frcD1 d k
theorem frcD_eq (d : D) (k : D → α) : frcD d k = k d := by
  cases d with
  | tup ds => exact frcDs_eq ds fun ds => k (.tup ds)
  | non => exact frcD1_eq .non k
  | bl b => exact frcD1_eq (.bl b) k
  | int i => exact frcD1_eq (.int i) k
  | str s => exact frcD1_eq (.str s) k
  | ref n => exact frcD1_eq (.ref n) k
  | ty n => exact frcD1_eq (.ty n) k
  | own c => exact frcD1_eq (.own c) k
  | exn c d => exact frcD1_eq (.exn c d) k
  | fn f => exact frcD1_eq (.fn f) k
  | cl ds => exact frcD1_eq (.cl ds) k
def nth : List (Option D) → Nat → Option (Option D)
  | [], _ => none
  | o :: _, 0 => some o
  | _ :: t, n + 1 => nth t n
theorem nth_eq : ∀ (l : List (Option D)) (n : Nat), nth l n = l[n]?
  | [], n => by simp [nth]
  | o :: _, 0 => rfl
  | _ :: t, n + 1 => by
    show nth t n = _
    rw [nth_eq t n, List.getElem?_cons_succ]
def put : Env → Nat → Option D → (Env → α) → α
  | [], _, _, k => k []
  | _ :: t, 0, d, k => k (d :: t)
  | o :: t, n + 1, d, k => put t n d fun t => k (o :: t)
theorem put_eq : ∀ (l : Env) (n : Nat) (d : Option D) (k : Env → α), put l n d k = k (l.set n d)
  | [], _, _, _ => rfl
  | _ :: t, 0, _, _ => rfl
  | o :: t, n + 1, d, k => put_eq t n d fun t => k (o :: t)
/-- one more object -/
def lay : VH → List D → (VH → α) → α
  | [], ds, k => k [.lst ds]
  | o :: t, ds, k => lay t ds fun t => k (o :: t)
theorem lay_eq : ∀ (h : VH) (ds : List D) (k : VH → α), lay h ds k = k (h ++ [.lst ds])
  | [], _, _ => rfl
  | o :: t, ds, k => lay_eq t ds fun t => k (o :: t)
end
/-! ### what a run gives -/
inductive R (α : Type) where
  | ok (a : α) (h : VH) | ex (c : Str) (d : D) (h : VH) | no
section
variable {α β : Type}
def R.to (r : R α) (Q : α → VH → Prop) (E : PX) : Prop := match r with
  | .ok a h => Q a h
  | .ex c d h => E c d h
  | .no => False
def R.bd (r : R α) (k : α → VH → R β) : R β := match r with
  | .ok a h => k a h
  | .ex c d h => .ex c d h
  | .no => .no
theorem R.bd_to {r : R α} {k : α → VH → R β} {Q : β → VH → Prop} {E : PX} (q : (r.bd k).to Q E) : r.to (fun a h => (k a h).to Q E) E := by
  cases r <;> exact q
theorem R.go {r : R α} {k : α → VH → R β} {Q : β → VH → Prop} {E : PX} {Q' : α → VH → Prop} (q : (r.bd k).to Q E) (f : ∀ a h, (k a h).to Q E → Q' a h) : r.to Q' E := by
  cases r with
  | ok a h => exact f _ _ q
  | ex c d h => exact q
  | no => exact q
theorem R.mo {r : R α} {Q Q' : α → VH → Prop} {E : PX} (q : r.to Q E) (k : ∀ a h, Q a h → Q' a h) : r.to Q' E := by
  cases r with
  | ok a h => exact k _ _ q
  | ex c d h => exact q
  | no => exact q
end
abbrev XE := Env → VH → R D
abbrev XA := Env → VH → R (List D)
abbrev XI := Env → VH → R ItF
abbrev XSp := List D → VH → R D
structure Xe (f : FE) (x : XE) : Prop where
  ok : ∀ {env : Env} {h : VH} {Q : PQ} {E : PX}, (x env h).to Q E → f env h Q E
structure Xa (f : FA) (x : XA) : Prop where
  ok : ∀ {env : Env} {h : VH} {Q : PL} {E : PX}, (x env h).to Q E → f env h Q E
structure Xi (f : FI) (x : XI) : Prop where
  ok : ∀ {env : Env} {h : VH} {Q : ItF → VH → Prop} {E : PX}, (x env h).to Q E → f env h Q E
structure Xsp (f : Spec) (x : XSp) : Prop where
  ok : ∀ {ds : List D} {h : VH} {Q : PQ} {E : PX}, (x ds h).to Q E → f ds h Q E
def xfin (o : Option Res) (h : VH) : R D := match o with
  | none => .no
  | some (.val d) => frcD d fun d => .ok d h
  | some (.new ds) => frcDs ds fun ds => lay h ds fun h' => frcN h.length fun n => .ok (.ref n) h'
theorem xfin_to {o : Option Res} {h : VH} {Q : PQ} {E : PX} (q : (xfin o h).to Q E) : fin o h Q := by
  cases o with
  | none => exact q
  | some r => cases r with
    | val d =>
      have q : (frcD d fun d => (.ok d h : R D)).to Q E := q
      rw [frcD_eq] at q
      exact q
    | new ds =>
      have q : (frcDs ds fun ds => lay h ds fun h' => frcN h.length fun n => (.ok (.ref n) h' : R D)).to Q E := q
      rw [frcDs_eq, lay_eq, frcN_eq] at q
      exact q
def xfinE (o : Option Eff) (h : VH) : R D := match o with
  | none => .no
  | some (.pure r) => xfin (some r) h
  | some (.wr k ds d) => frcDs ds fun ds => frcL (h.set k (.lst ds)) fun h' => frcD d fun d => .ok d h'
theorem xfinE_to {o : Option Eff} {h : VH} {Q : PQ} {E : PX} (q : (xfinE o h).to Q E) : finE o h Q := by
  cases o with
  | none => exact q
  | some r => cases r with
    | pure r => exact xfin_to (o := some r) q
    | wr k ds d =>
      have q : (frcDs ds fun ds => frcL (h.set k (.lst ds)) fun h' => frcD d fun d => (.ok d h' : R D)).to Q E := q
      rw [frcDs_eq, frcL_eq, frcD_eq] at q
      exact q
def xck {α : Type} (b : Bool) (r : R α) : R α := match b with
  | true => r
  | false => .no
theorem xck_to {α : Type} {b : Bool} {r : R α} {Q : α → VH → Prop} {E : PX} (q : (xck b r).to Q E) : b = true ∧ r.to Q E := by
  cases b with
  | true => exact ⟨rfl, q⟩
  | false => exact q.elim
/-! ### expressions -/
def xVar (i : Nat) : XE := fun env h => match nth env i with
  | some (some d) => .ok d h
  | _ => .no
def xLit (d : D) : XE := fun _ h => .ok d h
def xNeg (fa : XE) : XE := fun env h => (fa env h).bd fun x h1 => match x with
  | .int i => frcI (-i) fun i => .ok (.int i) h1
  | _ => .no
def xIsN (neg : Bool) (fa : XE) : XE := fun env h => (fa env h).bd fun x h1 => frcD1 (.bl (if neg then !isNon x else isNon x)) fun d => .ok d h1
def xBin (g : F2) (fa fb : XE) : XE := fun env h => (fa env h).bd fun x h1 => (fb env h1).bd fun y h2 => xfin (g x y h2) h2
def xChain (g g' : F2) (fa fb fc : XE) : XE := fun env h => (fa env h).bd fun x h1 => (fb env h1).bd fun y h2 => (xfin (g x y h2) h2).bd fun k h3 => match k with
  | .bl true => (fc env h3).bd fun z h4 => xfin (g' y z h4) h4
  | .bl false => .ok (.bl false) h3
  | _ => .no
def xAnd (fa fb : XE) : XE := fun env h => (fa env h).bd fun x h1 => match x with
  | .bl true => fb env h1
  | .bl false => .ok (.bl false) h1
  | _ => .no
def xOr (fa fb : XE) : XE := fun env h => (fa env h).bd fun x h1 => match x with
  | .bl true => .ok (.bl true) h1
  | .bl false => fb env h1
  | _ => .no
def xNot (fa : XE) : XE := fun env h => (fa env h).bd fun x h1 => match x with
  | .bl b => frcD1 (.bl (!b)) fun d => .ok d h1
  | _ => .no
def xIte (fc fa fb : XE) : XE := fun env h => (fc env h).bd fun x h1 => match x with
  | .bl true => fa env h1
  | .bl false => fb env h1
  | _ => .no
def xNil : XA := fun _ h => .ok [] h
def xCons (fa : XE) (ft : XA) : XA := fun env h => (fa env h).bd fun d h1 => (ft env h1).bd fun ds h2 => .ok (d :: ds) h2
def xTup (ft : XA) : XE := fun env h => (ft env h).bd fun ds h1 => xck (decide (ds.length ≤ line)) (.ok (.tup ds) h1)
def xLst (ft : XA) : XE := fun env h => (ft env h).bd fun ds h1 => xck (decide (ds.length ≤ line)) (lay h1 ds fun h2 => frcN h1.length fun n => .ok (.ref n) h2)
def xFN (g : FN) (ft : XA) : XE := fun env h => (ft env h).bd fun ds h1 => xfin (g ds h1) h1
def xMt (m : Mt) (fo : XE) (ft : XA) : XE := fun env h => (fo env h).bd fun x h1 => xck (match x with
  | .str _ => decide (m.ty = "str")
  | .ref _ => decide (m.ty = "list")
  | _ => false) ((ft env h1).bd fun ds h2 => xfinE (m.g x ds h2) h2)
def xIsi (fa : XE) (ts : List Ty) : XE := fun env h => (fa env h).bd fun x h1 => match tyD x h1 with
  | some t => frcD1 (.bl (ts.any t.isa)) fun d => .ok d h1
  | none => .no
def xCall (sp : XSp) (ft : XA) : XE := fun env h => (ft env h).bd fun ds h1 => sp ds h1
def xSl1 (fx : XE) (lo hi : Option XE) : XE := fun env h => (fx env h).bd fun x h1 => match lo, hi with
  | none, none => xfin (gSl x none none h1) h1
  | some fl, none => (fl env h1).bd fun y h2 => match y with
    | .int i => xfin (gSl x (some i) none h2) h2
    | _ => .no
  | none, some fu => (fu env h1).bd fun y h2 => match y with
    | .int i => xfin (gSl x none (some i) h2) h2
    | _ => .no
  | some fl, some fu => (fl env h1).bd fun y h2 => match y with
    | .int i => (fu env h2).bd fun z h3 => match z with
      | .int j => xfin (gSl x (some i) (some j) h3) h3
      | _ => .no
    | _ => .no
def xRev (fx : XE) : XE := fun env h => (fx env h).bd fun x h1 => match x with
  | .tup ds => frcL ds.reverse fun ds => .ok (.tup ds) h1
  | .ref k => match lstAt h1 k with
    | some ds => frcL ds.reverse fun ds => lay h1 ds fun h2 => frcN h1.length fun n => .ok (.ref n) h2
    | none => .no
  | _ => .no
def xNewL (f : XA) : XE := fun env h => (f env h).bd fun ds h1 => lay h1 ds fun h2 => frcN h1.length fun n => .ok (.ref n) h2
def xFC (c : FC) (f : XA) : XE := fun env h => (f env h).bd fun ds h1 => xfin (c ds) h1
def xXv (cs : List Str) (f : XE) : XE := fun env h => (f env h).bd fun x h1 => match x with
  | .exn c d => xck (cs.contains c) (.ok d h1)
  | _ => .no
def xSeq (fe : XE) : XI := fun env h => (fe env h).bd fun x h1 => match x with
  | .tup ds => .ok (itTup ds) h1
  | .ref k => xck (lstAt h1 k).isSome (.ok (itLst k) h1)
  | .str s => .ok (itStr s) h1
  | _ => .no
def xIt (g : List D → VH → Option ItF) (ft : XA) : XI := fun env h => (ft env h).bd fun ds h1 => match g ds h1 with
  | some f => .ok f h1
  | none => .no
def xcompL (it : ItF) (tg : Tg) (fc : Option XE) (fe : XE) (env : Env) : Nat → Nat → List D → VH → R (List D)
  | 0, _, _, _ => .no
  | n + 1, i, acc, h => match it i h with
    | none => .no
    | some none => frcL acc.reverse fun acc => .ok acc h
    | some (some d) => frcD d fun d => frcN (i + 1) fun i1 => match asgT tg d h env with
      | none => .no
      | some env2 => match fc with
        | none => match fe env2 h with
          | .ok y h2 => xcompL it tg fc fe env n i1 (y :: acc) h2
          | _ => .no
        | some c => match c env2 h with
          | .ok (.bl true) h2 => (match fe env2 h2 with
            | .ok y h3 => xcompL it tg fc fe env n i1 (y :: acc) h3
            | _ => .no)
          | .ok (.bl false) h2 => xcompL it tg fc fe env n i1 acc h2
          | _ => .no
def xComp (F : Nat) (fi : XI) (tg : Tg) (vs : List Nat) (fc : Option XE) (fe : XE) : XA := fun env h => (fi env h).bd fun it h1 => frcL (wipeD env vs) fun env => xcompL it tg fc fe env F 0 [] h1
section
variable {f fa fb fc fo fx fe : FE} {x xa xb xc xo xx xe : XE} {ft : FA} {xt : XA} {fi : FI} {xi : XI} {g g' : F2}
theorem fVar_x {i : Nat} : Xe (fVar i) (xVar i) := ⟨fun {env h Q E} q => by
  unfold xVar at q
  unfold fVar
  rw [nth_eq] at q
  split
  · rename_i d e
    rw [e] at q
    exact q
  · rename_i hn
    split at q
    · rename_i d e
      exact (hn d e).elim
    · exact q⟩
theorem fLit_x {d : D} : Xe (fLit d) (xLit d) := ⟨fun q => q⟩
theorem fLit_xs {d d' : D} (e : d = d') : Xe (fLit d) (xLit d') := by subst e; exact fLit_x
theorem fNeg_x (A : Xe fa xa) : Xe (fNeg fa) (xNeg xa) := ⟨fun q => A.ok (R.go q fun x h1 q => by
  cases x with
  | int i =>
    have q : (frcI (-i) fun i => (.ok (.int i) h1 : R D)).to _ _ := q
    rw [frcI_eq] at q
    exact q
  | _ => exact q)⟩
theorem fIsN_x {n : Bool} (A : Xe fa xa) : Xe (fIsN n fa) (xIsN n xa) := ⟨fun q => A.ok (R.go q fun x h1 q => by
  rw [frcD1_eq] at q
  exact q)⟩
theorem fBin_x (A : Xe fa xa) (B : Xe fb xb) : Xe (fBin g fa fb) (xBin g xa xb) := ⟨fun q => A.ok (R.go q fun x h1 q => B.ok (R.go q fun y h2 q => xfin_to q))⟩
theorem fChain_x (A : Xe fa xa) (B : Xe fb xb) (C : Xe fc xc) : Xe (fChain g g' fa fb fc) (xChain g g' xa xb xc) := ⟨fun {env h Q E} q => A.ok (R.go q fun x h1 q => B.ok (R.go q fun y h2 q => fin_mono (fun k h3 q => by
  cases k with
  | bl b =>
    cases b with
    | true => exact C.ok (R.go q fun z h4 q => xfin_to q)
    | false => exact q
  | _ => exact q) (xfin_to (E := E) (R.bd_to q))))⟩
theorem fAnd_x (A : Xe fa xa) (B : Xe fb xb) : Xe (fAnd fa fb) (xAnd xa xb) := ⟨fun q => A.ok (R.go q fun x h1 q => by
  cases x with
  | bl b => cases b with
    | true => exact B.ok q
    | false => exact q
  | _ => exact q)⟩
theorem fOr_x (A : Xe fa xa) (B : Xe fb xb) : Xe (fOr fa fb) (xOr xa xb) := ⟨fun q => A.ok (R.go q fun x h1 q => by
  cases x with
  | bl b => cases b with
    | true => exact q
    | false => exact B.ok q
  | _ => exact q)⟩
theorem fNot_x (A : Xe fa xa) : Xe (fNot fa) (xNot xa) := ⟨fun q => A.ok (R.go q fun x h1 q => by
  cases x with
  | bl b =>
    have q : (frcD1 (.bl (!b)) fun d => (.ok d h1 : R D)).to _ _ := q
    rw [frcD1_eq] at q
    exact q
  | _ => exact q)⟩
theorem fIte_x (C : Xe fc xc) (A : Xe fa xa) (B : Xe fb xb) : Xe (fIte fc fa fb) (xIte xc xa xb) := ⟨fun q => C.ok (R.go q fun x h1 q => by
  cases x with
  | bl b => cases b with
    | true => exact A.ok q
    | false => exact B.ok q
  | _ => exact q)⟩
theorem fNil_x : Xa fNil xNil := ⟨fun q => q⟩
theorem fCons_x (A : Xe fa xa) (T : Xa ft xt) : Xa (fCons fa ft) (xCons xa xt) := ⟨fun q => A.ok (R.go q fun d h1 q => T.ok (R.go q fun ds h2 q => q))⟩
theorem fTup_x (T : Xa ft xt) : Xe (fTup ft) (xTup xt) := ⟨fun q => T.ok (R.go q fun ds h1 q => chk_iff.mpr (xck_to q))⟩
theorem fLst_x (T : Xa ft xt) : Xe (fLst ft) (xLst xt) := ⟨fun q => T.ok (R.go q fun ds h1 q => by
  obtain ⟨c, q⟩ := xck_to q
  rw [lay_eq, frcN_eq] at q
  exact chk_iff.mpr ⟨c, q⟩)⟩
theorem fFN_x {g : FN} (T : Xa ft xt) : Xe (fFN g ft) (xFN g xt) := ⟨fun q => T.ok (R.go q fun ds h1 q => xfin_to q)⟩
theorem fMt_x {m : Mt} (O : Xe fo xo) (T : Xa ft xt) : Xe (fMt m fo ft) (xMt m xo xt) := ⟨fun q => O.ok (R.go q fun x h1 q => by
  obtain ⟨c, q⟩ := xck_to q
  exact chk_iff.mpr ⟨c, T.ok (R.go q fun ds h2 q => xfinE_to q)⟩)⟩
theorem fIsi_x {ts : List Ty} (A : Xe fa xa) : Xe (fIsi fa ts) (xIsi xa ts) := ⟨fun q => A.ok (R.go q fun x h1 q => by
  revert q
  show (match tyD x h1 with | some t => frcD1 (.bl (ts.any t.isa)) fun d => (.ok d h1 : R D) | none => .no : R D).to _ _ → (match tyD x h1 with | some t => _ | none => False)
  cases tyD x h1 with
  | none => exact id
  | some t =>
    intro q
    have q : (frcD1 (.bl (ts.any t.isa)) fun d => (.ok d h1 : R D)).to _ _ := q
    rw [frcD1_eq] at q
    exact q)⟩
theorem fCall_x {sp : Spec} {xp : XSp} (S : Xsp sp xp) (T : Xa ft xt) : Xe (fCall sp ft) (xCall xp xt) := ⟨fun q => T.ok (R.go q fun ds h1 q => S.ok q)⟩
inductive Xo : Option FE → Option XE → Prop
  | no : Xo none none
  | so {f : FE} {x : XE} : Xe f x → Xo (some f) (some x)
theorem xo_no : Xo none none := .no
theorem xo_so (A : Xe f x) : Xo (some f) (some x) := .so A
theorem fSl1_x {lo hi : Option FE} {xl xh : Option XE} (A : Xe fx xx) (L : Xo lo xl) (U : Xo hi xh) : Xe (fSl1 fx lo hi) (xSl1 xx xl xh) := ⟨fun q => A.ok (R.go q fun x h1 q => by
  cases L with
  | no =>
    cases U with
    | no => exact xfin_to q
    | so U => exact U.ok (R.go q fun y h2 q => by
        cases y with
        | int i => exact xfin_to q
        | _ => exact q)
  | so L =>
    cases U with
    | no => exact L.ok (R.go q fun y h2 q => by
        cases y with
        | int i => exact xfin_to q
        | _ => exact q)
    | so U => exact L.ok (R.go q fun y h2 q => by
        cases y with
        | int i => exact U.ok (R.go q fun z h3 q => by
            cases z with
            | int j => exact xfin_to q
            | _ => exact q)
        | _ => exact q))⟩
theorem fRev_x (A : Xe fx xx) : Xe (fRev fx) (xRev xx) := ⟨fun q => A.ok (R.go q fun x h1 q => by
  cases x with
  | tup ds =>
    have q : (frcL ds.reverse fun ds => (.ok (.tup ds) h1 : R D)).to _ _ := q
    rw [frcL_eq] at q
    exact q
  | ref k =>
    revert q
    show (match lstAt h1 k with | some ds => frcL ds.reverse fun ds => lay h1 ds fun h2 => frcN h1.length fun n => (.ok (.ref n) h2 : R D) | none => .no : R D).to _ _ → (match lstAt h1 k with | some ds => _ | none => False)
    cases lstAt h1 k with
    | none => exact id
    | some ds =>
      intro q
      have q : (frcL ds.reverse fun ds => lay h1 ds fun h2 => frcN h1.length fun n => (.ok (.ref n) h2 : R D)).to _ _ := q
      rw [frcL_eq, lay_eq, frcN_eq] at q
      exact q
  | _ => exact q)⟩
theorem fNewL_x (T : Xa ft xt) : Xe (fNewL ft) (xNewL xt) := ⟨fun q => T.ok (R.go q fun ds h1 q => by
  rw [lay_eq, frcN_eq] at q
  exact q)⟩
theorem fFC_x {c : FC} (T : Xa ft xt) : Xe (fFC c ft) (xFC c xt) := ⟨fun q => T.ok (R.go q fun ds h1 q => xfin_to q)⟩
theorem fXv_x {cs : List Str} (A : Xe fa xa) : Xe (fXv cs fa) (xXv cs xa) := ⟨fun q => A.ok (R.go q fun x h1 q => by
  cases x with
  | exn c d => exact chk_iff.mpr (xck_to q)
  | _ => exact q)⟩
theorem fSeq_x (A : Xe fa xa) : Xi (fSeq fa) (xSeq xa) := ⟨fun q => A.ok (R.go q fun x h1 q => by
  cases x with
  | ref k => exact chk_iff.mpr (xck_to q)
  | _ => exact q)⟩
theorem fIt_x {g : List D → VH → Option ItF} (T : Xa ft xt) : Xi (fIt g ft) (xIt g xt) := ⟨fun q => T.ok (R.go q fun ds h1 q => by
  revert q
  show (match g ds h1 with | some f => (.ok f h1 : R ItF) | none => .no : R ItF).to _ _ → (match g ds h1 with | some f => _ | none => False)
  cases g ds h1 with
  | none => exact id
  | some f => exact id)⟩
theorem compL_x {it : ItF} {tg : Tg} {fc : Option FE} {xc : Option XE} {env : Env} (C : Xo fc xc) (A : Xe fe xe) {Q : PL} {E : PX} : ∀ (n : Nat) (m i : Nat) (acc : List D) (h : VH), n + acc.length ≤ 16777216 → n ≤ m → (xcompL it tg xc xe env n i acc h).to Q E → compL it tg fc fe env m i acc.reverse h Q := by
  intro n
  induction n with
  | zero => intro m i acc h _ _ q; exact q.elim
  | succ n ih =>
    intro m i acc h hl hm q
    obtain ⟨m, rfl⟩ : ∃ m', m = m' + 1 := ⟨m - 1, by omega⟩
    unfold compL
    unfold xcompL at q
    have hk : decide (acc.reverse.length < line) = true := decide_eq_true (by
      rw [List.length_reverse]
      have e : line = 16777216 := rfl
      omega)
    cases e : it i h with
    | none => rw [e] at q; exact q.elim
    | some o =>
      rw [e] at q
      cases o with
      | none =>
        simp only [frcL_eq] at q
        exact q
      | some d =>
        simp only [frcD_eq, frcN_eq] at q
        simp only
        cases e2 : asgT tg d h env with
        | none => rw [e2] at q; exact q.elim
        | some env2 =>
          rw [e2] at q
          have stp : ∀ (y : D) (h2 : VH), (xcompL it tg xc xe env n (i + 1) (y :: acc) h2).to Q E → chk (decide (acc.reverse.length < line)) (compL it tg fc fe env m (i + 1) (acc.reverse ++ [y]) h2 Q) := fun y h2 q => by
            rw [hk]
            have := ih m (i + 1) (y :: acc) h2 (by simp only [List.length_cons]; omega) (by omega) q
            rw [List.reverse_cons] at this
            exact this
          cases C with
          | no =>
            simp only at q ⊢
            refine A.ok (Q := _) (E := noX) ?_
            revert q
            cases xe env2 h with
            | ok y h2 => exact stp y h2
            | ex c d h => exact False.elim
            | no => exact False.elim
          | so C =>
            simp only at q ⊢
            refine C.ok (Q := _) (E := noX) ?_
            revert q
            generalize hz : (‹XE› env2 h) = z
            cases z with
            | ok b h2 =>
              cases b with
              | bl b =>
                cases b with
                | true =>
                  intro q
                  refine A.ok (Q := _) (E := noX) ?_
                  revert q
                  simp only
                  cases xe env2 h2 with
                  | ok y h3 => exact stp y h3
                  | ex c d h => exact False.elim
                  | no => exact False.elim
                | false =>
                  intro q
                  exact ih m (i + 1) acc h2 (by omega) (by omega) q
              | _ => exact False.elim
            | ex c d h => exact False.elim
            | no => exact False.elim
theorem fComp_x {F : Nat} {tg : Tg} {vs : List Nat} {fc : Option FE} {xc : Option XE} (hF : F ≤ 16777216) (I : Xi fi xi) (C : Xo fc xc) (A : Xe fe xe) : Xa (fComp fi tg vs fc fe) (xComp F xi tg vs xc xe) := ⟨fun q => I.ok (R.go q fun it h1 q => by
  rw [frcL_eq] at q
  exact compL_x C A F fuel 0 [] h1 hF (by rw [fuel_eq]; exact hF) q)⟩
end
end Ev

set_option Elab.async false
set_option linter.all false
set_option maxRecDepth 100000
set_option maxHeartbeats 0
/-! X1: the rules with meanings that compute: expressions. -/
namespace Ev
open PySem PySem.Spec PyProof.Rows L2 NdefX
theorem R.map {α : Type} {r : R α} {Q Q' : α → VH → Prop} {E E' : PX} (kQ : ∀ d h, Q d h → Q' d h) (kE : ∀ c d h, E c d h → E' c d h) (q : r.to Q E) : r.to Q' E' := by
  cases r with
  | ok a h => exact kQ _ _ q
  | ex c d h => exact kE _ _ _ q
  | no => exact q
def lx (x : XE) : FE := fun env h Q E => (x env h).to Q E
def la (x : XA) : FA := fun env h Q E => (x env h).to Q E
def li (x : XI) : FI := fun env h Q E => (x env h).to Q E
def lsp (x : XSp) : Spec := fun ds h Q E => (x ds h).to Q E
theorem lx_mono {x : XE} : MonE (lx x) := ⟨fun kQ kE q => R.map kQ kE q⟩
theorem la_mono {x : XA} : MonA (la x) := ⟨fun kQ kE q => R.map kQ kE q⟩
theorem li_mono {x : XI} : MonI (li x) := ⟨fun kQ kE q => R.map kQ kE q⟩
theorem lsp_mono {x : XSp} : MonSp (lsp x) := ⟨fun kQ kE q => R.map kQ kE q⟩
theorem lx_x {x : XE} : Xe (lx x) x := ⟨fun q => q⟩
theorem la_x {x : XA} : Xa (la x) x := ⟨fun q => q⟩
theorem li_x {x : XI} : Xi (li x) x := ⟨fun q => q⟩
theorem lsp_x {x : XSp} : Xsp (lsp x) x := ⟨fun q => q⟩
section
variable {X : Cx} {T : List NTab} {W : WX} {e a b c o elt iter : Expr} {es rest : List Expr} {f : FE} {fA : FA} {fI : FI} {x xa xb xc xo xx xe : XE} {xt : XA} {xi : XI} {pos p p2 apos : Pos} {n : Str}
theorem SE.tx (s : SE X T W e f) (r : Xe f x) : SE X T W e (lx x) := ⟨lx_mono, PE.imp s.p fun σ H Q q => by
  obtain ⟨ρ, env, h, m, q⟩ := q
  exact ⟨ρ, env, h, m, r.ok q⟩⟩
theorem ST.tx (s : ST X T W e f) (r : Xe f x) : ST X T W e (lx x) := ⟨lx_mono, PT.imp s.p fun σ H Q q => by
  obtain ⟨ρ, env, h, m, q⟩ := q
  exact ⟨ρ, env, h, m, r.ok q⟩⟩
theorem SW.tx (s : SW X T W e f) (r : Xe f x) : SW X T W e (lx x) := ⟨lx_mono, PW.imp s.p fun σ H Q q => by
  obtain ⟨ρ, env, h, m, q⟩ := q
  exact ⟨ρ, env, h, m, r.ok q⟩⟩
theorem SA.tx (s : SA X T W es fA) (r : Xa fA xt) : SA X T W es (la xt) := ⟨la_mono, PA.imp s.p fun σ H Q q => by
  obtain ⟨ρ, env, h, m, q⟩ := q
  exact ⟨ρ, env, h, m, r.ok q⟩⟩
theorem SL.tx (s : SL X T W e fA) (r : Xa fA xt) : SL X T W e (la xt) := ⟨la_mono, PE.imp s.p fun σ H Q q => by
  obtain ⟨ρ, env, h, m, q⟩ := q
  exact ⟨ρ, env, h, m, r.ok q⟩⟩
theorem SI.tx {tg : Expr} (s : SI X T W tg e fI) (r : Xi fI xi) : SI X T W tg e (li xi) := ⟨li_mono, PI.imp s.p fun σ H Q q => by
  obtain ⟨ρ, env, h, m, q⟩ := q
  exact ⟨ρ, env, h, m, r.ok q⟩⟩
theorem SK.tx {kws : List Keyword} (s : SK X T W kws fA) (r : Xa fA xt) : SK X T W kws (la xt) := ⟨la_mono, ⟨fun pos pins s1 σ H Q I q => s.p.run pos pins s1 σ H Q I (by
  obtain ⟨ρ, env, h, m, q⟩ := q
  exact ⟨ρ, env, h, m, r.ok q⟩)⟩⟩
/-! #### expressions -/
theorem y_var {i : Nat} (hN : X.N[i]? = some n) (hv : Vis X.env.scope n) (hd : (n == ("__debug__" : Str)) = false := by decide) (hcd : (n == ("__classdict__" : Str)) = false := by decide) : SE X T W (.Name n p) (lx (xVar i)) := (e_var hN hv hd hcd).tx fVar_x
theorem yr (i : Nat) (hN : X.N[i]? = some n := by rfl) (hv : Vis X.env.scope n := by first | exact Or.inl rfl | exact Or.inr (Or.inl rfl) | exact Or.inr (Or.inr rfl)) (hd : (n == ("__debug__" : Str)) = false := by decide) (hcd : (n == ("__classdict__" : Str)) = false := by decide) : SE X T W (.Name n p) (lx (xVar i)) := y_var hN hv hd hcd
theorem y_int {i : Int} {j : Nat} : SE X T W (.Constant (.int i) j p) (lx (xLit (.int i))) := e_int.tx fLit_x
theorem y_bl {i : Bool} {j : Nat} : SE X T W (.Constant (.bool i) j p) (lx (xLit (.bl i))) := e_bl.tx fLit_x
theorem y_str {i : Str} {j : Nat} : SE X T W (.Constant (.str i) j p) (lx (xLit (.str i))) := e_str.tx fLit_x
theorem y_non {j : Nat} : SE X T W (.Constant .none j p) (lx (xLit .non)) := e_non.tx fLit_x
theorem y_gint {i : Int} (hg : Gl X n) (hm : ∃ t, X.mg n = some (.int i t)) (hd : (n == ("__debug__" : Str)) = false := by decide) : SE X T W (.Name n p) (lx (xLit (.int i))) := (e_gint hg hm hd).tx fLit_x
theorem y_neg (ha : SE X T W a (lx xa)) : SE X T W (.UnaryOp .USub a p) (lx (xNeg xa)) := (e_neg ha).tx (fNeg_x lx_x)
theorem y_bin (o : Bop) (ha : SE X T W a (lx xa)) (hb : SE X T W b (lx xb)) : SE X T W (.BinOp a o.op b p) (lx (xBin o.g xa xb)) := (e_bin o ha hb).tx (fBin_x lx_x lx_x)
theorem y_isN {j pos'} (ha : SE X T W a (lx xa)) : SE X T W (.Compare a [.Is] [.Constant .none j pos'] p) (lx (xIsN false xa)) := (e_isN ha).tx (fIsN_x lx_x)
theorem y_notN {j pos'} (ha : SE X T W a (lx xa)) : SE X T W (.Compare a [.IsNot] [.Constant .none j pos'] p) (lx (xIsN true xa)) := (e_notN ha).tx (fIsN_x lx_x)
theorem yt_isN {j pos'} (ha : SE X T W a (lx xa)) : ST X T W (.Compare a [.Is] [.Constant .none j pos'] p) (lx (xIsN false xa)) := (t_isN ha).tx (fIsN_x lx_x)
theorem yt_notN {j pos'} (ha : SE X T W a (lx xa)) : ST X T W (.Compare a [.IsNot] [.Constant .none j pos'] p) (lx (xIsN true xa)) := (t_notN ha).tx (fIsN_x lx_x)
theorem y_cmp (hu : X.A.units + 64 < cLine) (o : Cop) (ha : SE X T W a (lx xa)) (hb : SE X T W b (lx xb)) (hm : behindInMarks o.op b = false := by rfl) : SE X T W (.Compare a [o.op] [b] p) (lx (xBin o.g xa xb)) := (e_cmp hu o ha hb hm).tx (fBin_x lx_x lx_x)
theorem yt_cmp (hu : X.A.units + 64 < cLine) (o : Cop) (ha : SE X T W a (lx xa)) (hb : SE X T W b (lx xb)) (hm : behindInMarks o.op b = false := by rfl) : ST X T W (.Compare a [o.op] [b] p) (lx (xBin o.g xa xb)) := (t_cmp hu o ha hb hm).tx (fBin_x lx_x lx_x)
theorem y_chain (hu : X.A.units + 64 < cLine) (o o' : Cop) (ha : SE X T W a (lx xa)) (hb : SE X T W b (lx xb)) (hc : SE X T W c (lx xc)) (hm : lastMarks [o.op, o'.op] [b, c] = false := by rfl) : SE X T W (.Compare a [o.op, o'.op] [b, c] p) (lx (xChain o.g o'.g xa xb xc)) := (e_chain hu o o' ha hb hc hm).tx (fChain_x lx_x lx_x lx_x)
theorem yt_chain (hu : X.A.units + 64 < cLine) (o o' : Cop) (ha : SE X T W a (lx xa)) (hb : SE X T W b (lx xb)) (hc : SE X T W c (lx xc)) (hm : lastMarks [o.op, o'.op] [b, c] = false := by rfl) : ST X T W (.Compare a [o.op, o'.op] [b, c] p) (lx (xChain o.g o'.g xa xb xc)) := (t_chain hu o o' ha hb hc hm).tx (fChain_x lx_x lx_x lx_x)
theorem y_one {op : BoolOp} (ha : SE X T W a (lx xa)) : SE X T W (.BoolOp op [a] p) (lx xa) := e_one ha
theorem y_and (ha : SE X T W a (lx xa)) (hb : SE X T W (.BoolOp .And (b :: rest) p) (lx xb)) : SE X T W (.BoolOp .And (a :: b :: rest) p) (lx (xAnd xa xb)) := (e_and ha hb).tx (fAnd_x lx_x lx_x)
theorem y_or (ha : SE X T W a (lx xa)) (hb : SE X T W (.BoolOp .Or (b :: rest) p) (lx xb)) : SE X T W (.BoolOp .Or (a :: b :: rest) p) (lx (xOr xa xb)) := (e_or ha hb).tx (fOr_x lx_x lx_x)
theorem y_not (ha : SE X T W a (lx xa)) : SE X T W (.UnaryOp .Not a p) (lx (xNot xa)) := (e_not ha).tx (fNot_x lx_x)
theorem yw_one {op : BoolOp} (ha : ST X T W a (lx xa)) : SW X T W (.BoolOp op [a] p) (lx xa) := w_one ha
theorem yw_and (ha : ST X T W a (lx xa)) (hb : SW X T W (.BoolOp .And (b :: rest) p) (lx xb)) : SW X T W (.BoolOp .And (a :: b :: rest) p) (lx (xAnd xa xb)) := (w_and ha hb).tx (fAnd_x lx_x lx_x)
theorem yw_or (ha : ST X T W a (lx xa)) (hb : SW X T W (.BoolOp .Or (b :: rest) p) (lx xb)) : SW X T W (.BoolOp .Or (a :: b :: rest) p) (lx (xOr xa xb)) := (w_or ha hb).tx (fOr_x lx_x lx_x)
theorem yw_t (h : SW X T W e (lx xa)) : ST X T W e (lx xa) := h.t
theorem yt_not (ha : ST X T W a (lx xa)) : ST X T W (.UnaryOp .Not a p) (lx (xNot xa)) := (t_not ha).tx (fNot_x lx_x)
theorem y_ite (hc : ST X T W c (lx xc)) (ha : SE X T W a (lx xa)) (hb : SE X T W b (lx xb)) : SE X T W (.IfExp c a b p) (lx (xIte xc xa xb)) := (e_ite hc ha hb).tx (fIte_x lx_x lx_x lx_x)
theorem yt_ite (hc : ST X T W c (lx xc)) (ha : ST X T W a (lx xa)) (hb : ST X T W b (lx xb)) : ST X T W (.IfExp c a b p) (lx (xIte xc xa xb)) := (t_ite hc ha hb).tx (fIte_x lx_x lx_x lx_x)
theorem yt_val (ha : SE X T W a (lx xa)) (he : ∀ whole, isTrue a X.env whole = (do let v ← whole; standAt a.pos; holding [v] (truthy v)) := by exact fun _ => rfl) : ST X T W a (lx xa) := t_val ha he
theorem ya_nil : SA X T W [] (la xNil) := a_nil.tx fNil_x
theorem ya_cons (ha : SE X T W a (lx xa)) (ht : SA X T W es (la xt)) (hs : starEach (a :: es) X.env = (false, eval a X.env) :: starEach es X.env := by rfl) : SA X T W (a :: es) (la (xCons xa xt)) := (a_cons ha ht hs).tx (fCons_x lx_x la_x)
theorem yk_nil : SK X T W [] (la xNil) := k_nil.tx fNil_x
theorem yk_cons {kws : List Keyword} {nm : Option Str} {kpos : Pos} (ha : SE X T W e (lx xa)) (ht : SK X T W kws (la xt)) : SK X T W (⟨nm, e, kpos⟩ :: kws) (la (xCons xa xt)) := (k_cons ha ht).tx (fCons_x lx_x la_x)
theorem y_tup {x1} (ht : SA X T W es (la xt)) : SE X T W (.Tuple es x1 p) (lx (xTup xt)) := (e_tup ht).tx (fTup_x la_x)
theorem y_lst (ht : SA X T W es (la xt)) : SE X T W (.List es p) (lx (xLst xt)) := (e_lst ht).tx (fLst_x la_x)
theorem y_ix (ha : SE X T W a (lx xa)) (hb : SE X T W b (lx xb)) (hs : PlainIx b := by exact fun _ _ => rfl) : SE X T W (.Subscript a b p) (lx (xBin gIx xa xb)) := (e_ix ha hb hs).tx (fBin_x lx_x lx_x)
inductive YO (X : Cx) (T : List NTab) (W : WX) : Option Expr → Option XE → Prop
  | none : YO X T W Option.none Option.none
  | some {e : Expr} {f : XE} (h : SE X T W e (lx f)) : YO X T W (Option.some e) (Option.some f)
theorem y_sl {lo hi : Option Expr} {xl xh : Option XE} (ha : SE X T W a (lx xa)) (hl : YO X T W lo xl) (hh : YO X T W hi xh) : SE X T W (.Subscript a (.Slice lo hi none p2) p) (lx (xSl1 xa xl xh)) := by
  cases hl with
  | none => cases hh with
    | none => exact (e_sl ha .none .none).tx (fSl1_x lx_x .no .no)
    | some h => exact (e_sl ha .none (.some h)).tx (fSl1_x lx_x .no (.so lx_x))
  | some l => cases hh with
    | none => exact (e_sl ha (.some l) .none).tx (fSl1_x lx_x (.so lx_x) .no)
    | some h => exact (e_sl ha (.some l) (.some h)).tx (fSl1_x lx_x (.so lx_x) (.so lx_x))
theorem y_rev {k : Nat} {p1 p2 p3 : Pos} (ha : SE X T W a (lx xa)) : SE X T W (.Subscript a (.Slice none none (some (.UnaryOp .USub (.Constant (.int 1) k p1) p2)) p3) pos) (lx (xRev xa)) := (e_rev ha).tx (fRev_x lx_x)
theorem y_bi (hc : X.calm = true) (bi : Bi) (hx : Str.ofString bi.name = n) (hg : Gl X n) (hm : X.mg n = none) (ha : SA X T W (e :: es) (la xt)) (hn : n ≠ "__name__" := by decide) (hdb : (n == ("__debug__" : Str)) = false := by decide)
    (he : starEach (e :: es) X.env = (false, eval e X.env) :: starEach es X.env := by rfl) (hpl : (backTo pos (starEach es X.env)).any (·.1) = false := by rfl) : SE X T W (.Call (.Name n p) (e :: es) [] pos) (lx (xFN bi.g xt)) := (e_bi hc bi hx hg hm ha hn hdb he hpl).tx (fFN_x la_x)
theorem y_mt (mt : Mt) (hx : Str.ofString mt.name = n) (ho : SE X T W o (lx xo)) (ha : SA X T W (e :: es) (la xt))
    (hbase : attributeBase o n X.env (eval o X.env) = eval o X.env := by rfl)
    (hfew : ((backTo pos (starEach (e :: es) X.env)).all (fun x => !x.1) && (backToKw pos (keywordEach [] X.env)).all (fun x => x.1.isSome)
      && decide ((e :: es).length + ([] : List Keyword).length + (if ([] : List Keyword).isEmpty then 0 else 1) < 30)) = true := by rfl)
    (hline : (apos.endLine == pos.line) = true := by rfl) (hs : starEach (e :: es) X.env = (false, eval e X.env) :: starEach es X.env := by rfl) (hplain : (backTo pos (starEach es X.env)).any (·.1) = false := by rfl) :
    SE X T W (.Call (.Attribute o n apos) (e :: es) [] pos) (lx (xMt mt xo xt)) := (e_mt mt hx ho ha hbase hfew hline hs hplain).tx (fMt_x lx_x la_x)
theorem y_mt0 (mt : Mt) (hx : Str.ofString mt.name = n) (ho : SE X T W o (lx xo))
    (hbase : attributeBase o n X.env (eval o X.env) = eval o X.env := by rfl) (hline : (apos.endLine == pos.line) = true := by rfl) :
    SE X T W (.Call (.Attribute o n apos) [] [] pos) (lx (xMt mt xo xNil)) := (e_mt0 mt hx ho hbase hline).tx (fMt_x lx_x fNil_x)
theorem y_isi {t : Ty} (hg : Gl X "isinstance") (hm : X.mg "isinstance" = none) (ha : SE X T W a (lx xa)) (hb : TyN X b t)
    (he : starEach [a, b] X.env = (false, eval a X.env) :: starEach [b] X.env := by rfl) (hb' : starEach [b] X.env = (false, eval b X.env) :: starEach [] X.env := by rfl) (hpl : (backTo pos (starEach [b] X.env)).any (·.1) = false := by rfl) : SE X T W (.Call (.Name "isinstance" p) [a, b] [] pos) (lx (xIsi xa [t])) := (e_isi hg hm ha hb he hb' hpl).tx (fIsi_x lx_x)
theorem y_isiT {ts : List Ty} {x1} (hg : Gl X "isinstance") (hm : X.mg "isinstance" = none) (ha : SE X T W a (lx xa)) (hb : TyA X es ts) (hl : ts.length ≤ line)
    (he : starEach [a, .Tuple es x1 p2] X.env = (false, eval a X.env) :: starEach [.Tuple es x1 p2] X.env := by rfl) (hb' : starEach [.Tuple es x1 p2] X.env = (false, eval (.Tuple es x1 p2) X.env) :: starEach [] X.env := by rfl) (hpl : (backTo pos (starEach [.Tuple es x1 p2] X.env)).any (·.1) = false := by rfl) : SE X T W (.Call (.Name "isinstance" p) [a, .Tuple es x1 p2] [] pos) (lx (xIsi xa ts)) := (e_isiT hg hm ha hb hl he hb' hpl).tx (fIsi_x lx_x)
theorem y_call {st : Stmt} {ps : List Str} {j k : Nat} {sp : XSp} (F : Fn X.prog X.w X.K X.mg X.base T n st ps j (lsp sp)) (hk : j ≤ k) (hr : Room k X.A) (tk : Takes X W) (hg : Gl X n) (ha : SA X T W (e :: es) (la xt)) (hdb : (n == ("__debug__" : Str)) = false := by decide)
    (he : starEach (e :: es) X.env = (false, eval e X.env) :: starEach es X.env := by rfl) (hpl : (backTo pos (starEach es X.env)).any (·.1) = false := by rfl) : SE X T W (.Call (.Name n p) (e :: es) [] pos) (lx (xCall sp xt)) := (e_call F hk hr tk hg ha hdb he hpl).tx (fCall_x lsp_x la_x)
theorem y_call0 {st : Stmt} {ps : List Str} {j k : Nat} {sp : XSp} (F : Fn X.prog X.w X.K X.mg X.base T n st ps j (lsp sp)) (hk : j ≤ k) (hr : Room k X.A) (tk : Takes X W) (hg : Gl X n) (hdb : (n == ("__debug__" : Str)) = false := by decide) : SE X T W (.Call (.Name n p) [] [] pos) (lx (xCall sp xNil)) := (e_call0 F hk hr tk hg hdb).tx (fCall_x lsp_x fNil_x)
theorem y_callK0 {st : Stmt} {ps : List Str} {j k : Nat} {sp : XSp} {kws : List Keyword} {ks : List Str} (F : Fn X.prog X.w X.K X.mg X.base T n st ps j (lsp sp)) (hk : j ≤ k) (hr : Room k X.A) (tk : Takes X W) (hg : Gl X n) (ha : SK X T W kws (la xt))
    (hb : ∀ (kV doc pm : Value) (an : Option Addr) (cdv ct : Value) (ws : List Value), ws.length = ps.length → bindArgs (PySem.W.fnOf n n (defArgs st) (defBody st) (defScope st) .none kV doc pm an cdv ct) ⟨[], ks.zip ws⟩ = pure (ps.zip ws))
    (hall : (backToKw pos (keywordEach kws X.env)).all (·.1.isSome) = true := by rfl) (hks : (backToKw pos (keywordEach kws X.env)).filterMap (·.1) = ks := by rfl)
    (hdb : (n == ("__debug__" : Str)) = false := by decide) (hpl : ((backTo pos (starEach [] X.env)).any (·.1) || (backToKw pos (keywordEach kws X.env)).any (·.1.isNone)) = false := by rfl) :
    SE X T W (.Call (.Name n p) [] kws pos) (lx (xCall sp xt)) := (e_callK0 F hk hr tk hg ha hb hall hks hdb hpl).tx (fCall_x lsp_x la_x)
theorem y_newL (h : SL X T W e (la xt)) : SE X T W e (lx (xNewL xt)) := (e_newL h).tx (fNewL_x la_x)
theorem y_bic (hc : X.calm = true) (bi : Bi) (c : FC) (hbc : bi.c = some c) (hx : Str.ofString bi.name = n) (hg : Gl X n) (hm : X.mg n = none) (h : SL X T W e (la xt)) (hn : n ≠ "__name__" := by decide) (hdb : (n == ("__debug__" : Str)) = false := by decide)
    (he : starEach [e] X.env = (false, eval e X.env) :: starEach [] X.env := by rfl) (hpl : (backTo pos (starEach [] X.env)).any (·.1) = false := by rfl) : SE X T W (.Call (.Name n p) [e] [] pos) (lx (xFC c xt)) := (e_bic hc bi c hbc hx hg hm h hn hdb he hpl).tx (fFC_x la_x)
theorem y_xv {cs : List Str} (hcs : ∀ c C, c ∈ cs → X.mg c = some (.ref C) → XfC X.K C ∧ PySem.W.findIn X.K (.ref C) "value" = some none) (he : SE X T W e (lx xa)) (hb : attributeBase e "value" X.env (eval e X.env) = eval e X.env := by rfl) : SE X T W (.Attribute e "value" pos) (lx (xXv cs xa)) := (e_xv hcs he hb).tx (fXv_x lx_x)
/-! #### what is walked -/
theorem yi_seq {tg : Expr} (ha : SE X T W a (lx xa)) : SI X T W tg a (li (xSeq xa)) := (i_seq ha).tx (fSeq_x lx_x)
theorem yi_range1 {tg : Expr} (hg : Gl X "range") (hm : X.mg "range" = none) (ha : SA X T W [a] (la xt)) (hs : starEach [a] X.env = (false, eval a X.env) :: starEach [] X.env := by rfl) : SI X T W tg (.Call (.Name "range" p) [a] [] pos) (li (xIt gRange1 xt)) := (i_range1 hg hm ha hs).tx (fIt_x la_x)
theorem yi_range2 {tg : Expr} (hg : Gl X "range") (hm : X.mg "range" = none) (ha : SA X T W [a, b] (la xt)) (hs : starEach [a, b] X.env = [(false, eval a X.env), (false, eval b X.env)] := by rfl) (hs2 : starEach [b] X.env = [(false, eval b X.env)] := by rfl) : SI X T W tg (.Call (.Name "range" p) [a, b] [] pos) (li (xIt gRange2 xt)) := (i_range2 hg hm ha hs hs2).tx (fIt_x la_x)
theorem yi_zip {elts : List Expr} {kk : Nat} {tpos : Pos} (hg : Gl X "zip") (hm : X.mg "zip" = none) (ha : SA X T W [a, b] (la xt))
    (hs : starEach [a, b] X.env = (false, eval a X.env) :: starEach [b] X.env := by rfl) (hpl : (backTo pos (starEach [b] X.env)).any (·.1) = false := by rfl) : SI X T W (.Tuple elts kk tpos) (.Call (.Name "zip" p) [a, b] [] pos) (li (xIt gZip xt)) := (i_zip hg hm ha hs hpl).tx (fIt_x la_x)
end
end Ev

set_option Elab.async false
set_option linter.all false
set_option maxRecDepth 100000
set_option maxHeartbeats 0
/-! X2: comprehensions, statements. -/
namespace Ev
open PySem PySem.Spec PyProof.Rows L2 NdefX
inductive YC (B : Shared → Hp → Addr → List (Str × Addr) → List Addr → Cx) (T : List NTab) : List Expr → Option XE → Prop
  | none : YC B T [] none
  | one {e : Expr} {x : XE} (h : ∀ (s : Shared) (H : Hp) (C : Addr) (cl : List (Str × Addr)) (fp : List Addr), ST (B s H C cl fp) T W0 e (lx x)) : YC B T [e] (some x)
section
variable {X : Cx} {T : List NTab} {W : WX} {elt tg iter : Expr} {xe : XE} {xi : XI} {pos p : Pos} {t : Tg}
theorem y_lc {F : Nat} {scope : Scope} {own : List (Str × Nat)} {ifs : List Expr} {xc : Option XE} (hF : F ≤ 16777216) (hc : X.calm = true) (hN : X.N.Nodup) (hi : SI X T W tg iter (li xi)) (ok : BlkOk X.N X.env.scope scope own) (hsl : ∀ i ∈ t.slots, i ∈ own.map (·.2))
    (hg : ∀ (s : Shared) (H : Hp) (C : Addr) (cl : List (Str × Addr)) (fp : List Addr), SG (X.blk s H scope (compEnvC scope cl C X.env) fp) T tg t) (ht : YC (fun s H C cl fp => X.blk s H scope (compEnvC scope cl C X.env) fp) T ifs xc)
    (he : ∀ (s : Shared) (H : Hp) (C : Addr) (cl : List (Str × Addr)) (fp : List Addr), SE (X.blk s H scope (compEnvC scope cl C X.env) fp) T W0 elt (lx xe)) (hs : ∀ x, foldedSetIterable iter X.env x = pure x := by intro _; rfl) :
    SL X T W (.ListComp elt [⟨tg, iter, ifs, 0⟩] scope pos) (la (xComp F xi t (own.map (·.2)) xc xe)) := by
  cases ht with
  | none => exact (e_lc hc hN hi ok hsl hg .none he hs).tx (fComp_x hF li_x .no lx_x)
  | one h => exact (e_lc hc hN hi ok hsl hg (.one h) he hs).tx (fComp_x hF li_x (.so lx_x) lx_x)
end
/-! ### statements -/
inductive RS where
  | nx (e : Env) (h : VH) | rt (d : D) (h : VH) | bk (e : Env) (h : VH) | ct (e : Env) (h : VH) | ex (c : Str) (d : D) (e : Env) (h : VH) | no
abbrev XS := Env → VH → RS
def RS.to (r : RS) (Dn : ED) : Prop := match r with
  | .nx e h => Dn.nx e h
  | .rt d h => Dn.rt d h
  | .bk e h => Dn.bk e h
  | .ct e h => Dn.ct e h
  | .ex c d e h => Dn.ex c d e h
  | .no => False
theorem RS.mo {r : RS} {a b : ED} (k : EDle a b) (q : r.to a) : r.to b := by
  cases r with
  | nx e h => exact k.nx _ _ q
  | rt d h => exact k.rt _ _ q
  | bk e h => exact k.bk _ _ q
  | ct e h => exact k.ct _ _ q
  | ex c d e h => exact k.ex _ _ _ _ q
  | no => exact q
def ls (x : XS) : FS := fun env h Dn => (x env h).to Dn
theorem ls_mono {x : XS} : MonS (ls x) := ⟨fun k q => RS.mo k q⟩
structure Xs (f : FS) (x : XS) : Prop where
  ok : ∀ {env : Env} {h : VH} {Dn : ED}, (x env h).to Dn → f env h Dn
theorem ls_x {x : XS} : Xs (ls x) x := ⟨fun q => q⟩
def R.sb {α : Type} (r : R α) (env : Env) (k : α → VH → RS) : RS := match r with
  | .ok a h => k a h
  | .ex c d h => .ex c d env h
  | .no => .no
theorem R.sgo {α : Type} {r : R α} {env : Env} {k : α → VH → RS} {Dn : ED} {Q' : α → VH → Prop} (q : (r.sb env k).to Dn) (f : ∀ a h, (k a h).to Dn → Q' a h) : r.to Q' (exE Dn env) := by
  cases r with
  | ok a h => exact f _ _ q
  | ex c d h => exact q
  | no => exact q
def xsNil : XS := fun env h => .nx env h
def xsSeq (a b : XS) : XS := fun env h => match a env h with
  | .nx e h1 => b e h1
  | r => r
def xsBrk : XS := fun env h => .bk env h
def xsCnt : XS := fun env h => .ct env h
def xsExp (f : XE) : XS := fun env h => (f env h).sb env fun _ h1 => .nx env h1
def xsRet (f : XE) : XS := fun env h => (f env h).sb env fun d h1 => .rt d h1
def xsRetN : XS := fun env h => .rt .non h
def xsIf (c : XE) (a b : XS) : XS := fun env h => (c env h).sb env fun x h1 => match x with
  | .bl true => a env h1
  | .bl false => b env h1
  | _ => .no
def xto (o : Option Env) (h : VH) : RS := match o with
  | some e => frcL e fun e => .nx e h
  | none => .no
def xtoH (o : Option VH) (env : Env) : RS := match o with
  | some h => frcL h fun h => .nx env h
  | none => .no
theorem xto_to {o : Option Env} {h : VH} {Dn : ED} (q : (xto o h).to Dn) : ∃ e, o = some e ∧ Dn.nx e h := by
  cases o with
  | none => exact q.elim
  | some e =>
    have q : (frcL e fun e => (.nx e h : RS)).to Dn := q
    rw [frcL_eq] at q
    exact ⟨_, rfl, q⟩
theorem xtoH_to {o : Option VH} {env : Env} {Dn : ED} (q : (xtoH o env).to Dn) : ∃ h, o = some h ∧ Dn.nx env h := by
  cases o with
  | none => exact q.elim
  | some e =>
    have q : (frcL e fun e => (.nx env e : RS)).to Dn := q
    rw [frcL_eq] at q
    exact ⟨_, rfl, q⟩
def xsAsg (f : XE) (t : Tg) : XS := fun env h => (f env h).sb env fun x h1 => xto (asgT t x h1 env) h1
def xsPar (f : XA) (ts : TgL) : XS := fun env h => (f env h).sb env fun xs h1 => xto (asgL ts xs h1 env) h1
def xsSet (fo fi fe : XE) : XS := fun env h => (fe env h).sb env fun x h1 => (fo env h1).sb env fun o h2 => (fi env h2).sb env fun i h3 => xtoH (gSet o i x h3) env
def xsAug (i : Nat) (op : Bop) (f : XE) : XS := fun env h => match nth env i with
  | some (some x) => (f env h).sb env fun y h1 => (xfin (gInp op x y h1) h1).sb env fun z h2 => put env i (some z) fun e => .nx e h2
  | _ => .no
def xsAugS (fo fi : XE) (op : Bop) (f : XE) : XS := fun env h => (fo env h).sb env fun o h1 => (fi env h1).sb env fun i h2 => (xfin (gIxL o i h2) h2).sb env fun x h3 => (f env h3).sb env fun y h4 => (xfin (gInp op x y h4) h4).sb env fun z h5 => xtoH (gSet o i z h5) env
def xwhL (c : XE) (b : XS) : Nat → Env → VH → RS
  | 0, _, _ => .no
  | n + 1, env, h => (c env h).sb env fun x h1 => match x with
    | .bl true => (match b env h1 with
      | .nx e h2 => xwhL c b n e h2
      | .ct e h2 => xwhL c b n e h2
      | .bk e h2 => .nx e h2
      | r => r)
    | .bl false => .nx env h1
    | _ => .no
def xsWhile (F : Nat) (c : XE) (b : XS) : XS := fun env h => xwhL c b F env h
def xfoL (it : ItF) (t : Tg) (b : XS) : Nat → Nat → Env → VH → RS
  | 0, _, _, _ => .no
  | n + 1, i, env, h => match it i h with
    | none => .no
    | some none => .nx env h
    | some (some d) => frcD d fun d => frcN (i + 1) fun i1 => match asgT t d h env with
      | none => .no
      | some e => frcL e fun e => match b e h with
        | .nx e h2 => xfoL it t b n i1 e h2
        | .ct e h2 => xfoL it t b n i1 e h2
        | .bk e h2 => .nx e h2
        | r => r
def xsFor (F : Nat) (fi : XI) (t : Tg) (b : XS) : XS := fun env h => (fi env h).sb env fun it h1 => xfoL it t b F 0 env h1
def xsRaise (c : Str) (f : XE) : XS := fun env h => (f env h).sb env fun d h1 => .ex c d env h1
def xsTry (b : XS) (sub : SubF) (i : Nat) (su : XS) : XS := fun env h => match b env h with
  | .ex c d e h1 => (match sub c with
    | some true => put e i (some (.exn c d)) fun e => (match su e h1 with
      | .nx e h => put e i none fun e => .nx e h
      | .rt d h => .rt d h
      | .bk e h => put e i none fun e => .bk e h
      | .ct e h => put e i none fun e => .ct e h
      | _ => .no)
    | some false => .ex c d e h1
    | none => .no)
  | r => r
section
variable {f fo fi fe fc : FE} {x xo xi xe xc : XE} {ft : FA} {xt : XA} {fit : FI} {xit : XI} {s1 s2 : FS} {x1 x2 : XS}
theorem sNil_x : Xs sNil xsNil := ⟨fun q => q⟩
theorem sSeq_x (m1 : MonS s1) (A : Xs s1 x1) (B : Xs s2 x2) : Xs (sSeq s1 s2) (xsSeq x1 x2) := ⟨fun {env h Dn} q => by
  refine A.ok ?_
  revert q
  show (match x1 env h with | .nx e h1 => x2 e h1 | r => r : RS).to Dn → _
  cases x1 env h with
  | nx e h => exact fun q => B.ok q
  | _ => exact fun q => q⟩
theorem sBrk_x : Xs sBrk xsBrk := ⟨fun q => q⟩
theorem sCnt_x : Xs sCnt xsCnt := ⟨fun q => q⟩
theorem sExp_x (A : Xe f x) : Xs (sExp f) (xsExp x) := ⟨fun q => A.ok (R.sgo q fun _ _ q => q)⟩
theorem sRet_x (A : Xe f x) : Xs (sRet f) (xsRet x) := ⟨fun q => A.ok (R.sgo q fun _ _ q => q)⟩
theorem sRetN_x : Xs sRetN xsRetN := ⟨fun q => q⟩
theorem sIf_x (C : Xe fc xc) (A : Xs s1 x1) (B : Xs s2 x2) : Xs (sIf fc s1 s2) (xsIf xc x1 x2) := ⟨fun q => C.ok (R.sgo q fun x h1 q => by
  cases x with
  | bl b => cases b with
    | true => exact A.ok q
    | false => exact B.ok q
  | _ => exact q)⟩
theorem sAsg_x {t : Tg} (A : Xe f x) : Xs (sAsg f t) (xsAsg x t) := ⟨fun {env h Dn} q => A.ok (R.sgo q fun y h1 q => by
  obtain ⟨e, z, q⟩ := xto_to q
  rw [z]
  exact q)⟩
theorem sPar_x {t : TgL} (A : Xa ft xt) : Xs (sPar ft t) (xsPar xt t) := ⟨fun {env h Dn} q => A.ok (R.sgo q fun y h1 q => by
  obtain ⟨e, z, q⟩ := xto_to q
  rw [z]
  exact q)⟩
theorem sSet_x (O : Xe fo xo) (I : Xe fi xi) (A : Xe fe xe) : Xs (sSet fo fi fe) (xsSet xo xi xe) := ⟨fun {env h Dn} q => A.ok (R.sgo q fun y h1 q => O.ok (R.sgo q fun o h2 q => I.ok (R.sgo q fun i h3 q => by
  obtain ⟨e, z, q⟩ := xtoH_to q
  rw [z]
  exact q)))⟩
theorem sAug_x {i : Nat} {op : Bop} (A : Xe f x) : Xs (sAug i op f) (xsAug i op x) := ⟨fun {env h Dn} q => by
  unfold xsAug at q
  unfold sAug
  rw [nth_eq] at q
  split
  · rename_i d e
    rw [e] at q
    refine A.ok (R.sgo q fun y h1 q => ?_)
    have q := xfin_to (E := exE Dn env) (R.sgo q fun z h2 q => q)
    exact fin_mono (fun z h2 q => by
      have q : (put env i (some z) fun e => (.nx e h2 : RS)).to Dn := q
      rw [put_eq] at q
      exact q) q
  · rename_i hn
    split at q
    · rename_i d e
      exact (hn d e).elim
    · exact q⟩
theorem sAugS_x {op : Bop} (O : Xe fo xo) (I : Xe fi xi) (A : Xe f x) : Xs (sAugS fo fi op f) (xsAugS xo xi op x) := ⟨fun {env h Dn} q => O.ok (R.sgo q fun o h1 q => I.ok (R.sgo q fun i h2 q => fin_mono (fun y h3 q => A.ok (R.sgo q fun y2 h4 q => fin_mono (fun z h5 q => by
  obtain ⟨e, z, q⟩ := xtoH_to q
  rw [z]
  exact q) (xfin_to (E := exE Dn env) (R.sgo q fun z h5 q => q)))) (xfin_to (E := exE Dn env) (R.sgo q fun y h3 q => q))))⟩
theorem whL_x (C : Xe fc xc) (m : MonS s1) (B : Xs s1 x1) : ∀ (n m : Nat) (env : Env) (h : VH) (Dn : ED), n ≤ m → (xwhL xc x1 n env h).to Dn → whL fc s1 m env h Dn := by
  intro n
  induction n with
  | zero => intro m env h Dn _ q; exact q.elim
  | succ n ih =>
    intro m env h Dn hm q
    obtain ⟨m, rfl⟩ : ∃ m', m = m' + 1 := ⟨m - 1, by omega⟩
    unfold whL
    unfold xwhL at q
    refine C.ok (R.sgo q fun x h1 q => ?_)
    cases x with
    | bl b =>
      cases b with
      | true =>
        refine B.ok ?_
        revert q
        show (match x1 env h1 with | .nx e h2 => xwhL xc x1 n e h2 | .ct e h2 => xwhL xc x1 n e h2 | .bk e h2 => .nx e h2 | r => r : RS).to Dn → _
        cases x1 env h1 with
        | nx e h => exact fun q => ih m e h Dn (by omega) q
        | ct e h => exact fun q => ih m e h Dn (by omega) q
        | _ => exact fun q => q
      | false => exact q
    | _ => exact q
theorem sWhile_x {F : Nat} (hF : F ≤ 16777216) (C : Xe fc xc) (m : MonS s1) (B : Xs s1 x1) : Xs (sWhile fc s1) (xsWhile F xc x1) := ⟨fun q => whL_x C m B F fuel _ _ _ (by rw [fuel_eq]; exact hF) q⟩
theorem foL_x {it : ItF} {t : Tg} (B : Xs s1 x1) : ∀ (n m i : Nat) (env : Env) (h : VH) (Dn : ED), n ≤ m → (xfoL it t x1 n i env h).to Dn → foL it t s1 m i env h Dn := by
  intro n
  induction n with
  | zero => intro m i env h Dn _ q; exact q.elim
  | succ n ih =>
    intro m i env h Dn hm q
    obtain ⟨m, rfl⟩ : ∃ m', m = m' + 1 := ⟨m - 1, by omega⟩
    unfold foL
    unfold xfoL at q
    cases e : it i h with
    | none => rw [e] at q; exact q.elim
    | some o =>
      rw [e] at q
      cases o with
      | none => exact q
      | some d =>
        simp only [frcD_eq, frcN_eq] at q
        simp only
        cases e2 : asgT t d h env with
        | none => rw [e2] at q; exact q.elim
        | some e3 =>
          rw [e2] at q
          simp only [frcL_eq] at q
          simp only
          refine B.ok ?_
          revert q
          cases x1 e3 h with
          | nx e h => exact fun q => ih m (i + 1) e h Dn (by omega) q
          | ct e h => exact fun q => ih m (i + 1) e h Dn (by omega) q
          | _ => exact fun q => q
theorem sFor_x {F : Nat} {t : Tg} (hF : F ≤ 16777216) (I : Xi fit xit) (B : Xs s1 x1) : Xs (sFor fit t s1) (xsFor F xit t x1) := ⟨fun q => I.ok (R.sgo q fun it h1 q => foL_x B F fuel 0 _ _ _ (by rw [fuel_eq]; exact hF) q)⟩
theorem sRaise_x {c : Str} (A : Xe f x) : Xs (sRaise c f) (xsRaise c x) := ⟨fun q => A.ok (R.sgo q fun _ _ q => q)⟩
theorem sTry_x {sub : SubF} {i : Nat} (A : Xs s1 x1) (B : Xs s2 x2) : Xs (sTry s1 sub i s2) (xsTry x1 sub i x2) := ⟨fun {env h Dn} q => by
  refine A.ok ?_
  unfold xsTry at q
  revert q
  cases x1 env h with
  | ex c d e h1 =>
    simp only [put_eq]
    show _ → (match sub c with | some true => s2 (e.set i (some (.exn c d))) h1 (suD Dn i) | some false => Dn.ex c d e h1 | none => False)
    cases sub c with
    | none => exact id
    | some b =>
      cases b with
      | false => exact id
      | true =>
        simp only
        intro q
        refine B.ok ?_
        revert q
        cases x2 (e.set i (some (.exn c d))) h1 <;> exact id
  | _ => exact id⟩
end
section
variable {X : Cx} {T : List NTab} {W : WX} {st : Stmt} {sts rest body : List Stmt} {f : FS} {x x1 x2 : XS}
theorem SS.tx (s : SS X T W st f) (r : Xs f x) : SS X T W st (ls x) := ⟨ls_mono, PS.imp s.p fun Dn σ H q => by
  obtain ⟨ρ, env, h, m, q⟩ := q
  exact ⟨ρ, env, h, m, r.ok q⟩⟩
theorem SSs.tx (s : SSs X T W sts f) (r : Xs f x) : SSs X T W sts (ls x) := ⟨ls_mono, PSs.imp s.p fun Dn σ H q => by
  obtain ⟨ρ, env, h, m, q⟩ := q
  exact ⟨ρ, env, h, m, r.ok q⟩⟩
variable {e c a b o i tg iter elt : Expr} {es : List Expr} {xe xc xo xi : XE} {xt : XA} {xit : XI} {t : Tg} {pos p px py pt : Pos} {n y z : Str}
theorem yss_nil : SSs X T W [] (ls xsNil) := ss_nil.tx sNil_x
theorem yss_cons (h1 : SS X T W st (ls x1)) (h2 : SSs X T W rest (ls x2)) : SSs X T W (st :: rest) (ls (xsSeq x1 x2)) := (ss_cons h1 h2).tx (sSeq_x ls_mono ls_x ls_x)
theorem yss_one (h1 : SS X T W st (ls x1)) : SSs X T W [st] (ls x1) := ss_one h1
theorem ys_brk : SS X T W (.Break p) (ls xsBrk) := s_brk.tx sBrk_x
theorem ys_cnt : SS X T W (.Continue p) (ls xsCnt) := s_cnt.tx sCnt_x
theorem ys_pass : SS X T W (.Pass p) (ls xsNil) := s_pass.tx sNil_x
theorem ys_exp (h : SE X T W e (lx xe)) (hs : swapsWith e none pos.line X.env = pure false := by rfl) : SS X T W (.Expr e pos) (ls (xsExp xe)) := (s_exp h hs).tx (sExp_x lx_x)
theorem ys_ret (h : SE X T W e (lx xe)) : SS X T W (.Return (some e) pos) (ls (xsRet xe)) := (s_ret h).tx (sRet_x lx_x)
theorem ys_retN : SS X T W (.Return none pos) (ls xsRetN) := s_retN.tx sRetN_x
theorem ys_if (hc : ST X T W c (lx xc)) (h1 : SSs X T W rest (ls x1)) (h2 : SSs X T W body (ls x2)) : SS X T W (.If c rest body pos) (ls (xsIf xc x1 x2)) := (s_if hc h1 h2).tx (sIf_x lx_x ls_x ls_x)
theorem ys_asg (h : SE X T W e (lx xe)) (hg : SG X T tg t) (hs : swapsWithSole [tg] e pos.line X.env = pure false := by rfl) (hw : swappedStores [tg] e X.env = pure none := by rfl)
    (h1 : (assignEach [tg] X.env).map (·.2) = [assign tg X.env] := by rfl) : SS X T W (.Assign [tg] e pos) (ls (xsAsg xe t)) := (s_asg h hg hs hw h1).tx (sAsg_x lx_x)
theorem ys_set {j : Nat} (hN : X.N.Nodup) (hi : X.N[j]? = some n) (hx : Loc X.env.scope n) (h : SE X T W e (lx xe)) (hs : swapsWith e (some (.Name n p)) pos.line X.env = pure false := by rfl) (hf : X.fn n = true ∨ X.env.scope.names.lookup n = some .local := by first | exact .inl rfl | exact .inr rfl | assumption) :
    SS X T W (.Assign [.Name n p] e pos) (ls (xsAsg xe (.nm j))) := (s_set hN hi hx h hs hf).tx (sAsg_x lx_x)
theorem ys_par {i1 j1 k0 k2} {p2 : Pos} (hc : X.calm = true) (hN : X.N.Nodup) (hi : X.N[i1]? = some n) (hj : X.N[j1]? = some y) (hij : i1 ≠ j1)
    (hx : X.env.scope.names.lookup n = some .local) (hy : X.env.scope.names.lookup y = some .local) (ha : SA X T W [a, b] (la xt)) (hw : swappedStores [.Tuple [.Name n px, .Name y py] k0 pt] (.Tuple [a, b] k2 p2) X.env = pure (some [n, y]) := by rfl)
    (hs : swapsWithSole [.Tuple [.Name n px, .Name y py] k0 pt] (.Tuple [a, b] k2 p2) pos.line X.env = pure false := by rfl) :
    SS X T W (.Assign [.Tuple [.Name n px, .Name y py] k0 pt] (.Tuple [a, b] k2 p2) pos) (ls (xsPar xt (.cons (.nm i1) (.cons (.nm j1) .nil)))) := (s_par hc hN hi hj hij hx hy ha hw hs).tx (sPar_x la_x)
theorem ys_par3 {i1 j1 l1 k0 k2} {p2 pz : Pos} (hc : X.calm = true) (hN : X.N.Nodup) (hi : X.N[i1]? = some n) (hj : X.N[j1]? = some y) (hl : X.N[l1]? = some z) (hij : i1 ≠ j1) (hil : i1 ≠ l1) (hjl : j1 ≠ l1)
    (hx : X.env.scope.names.lookup n = some .local) (hy : X.env.scope.names.lookup y = some .local) (hz : X.env.scope.names.lookup z = some .local) (ha : SA X T W [a, b, c] (la xt))
    (hw : swappedStores [.Tuple [.Name n px, .Name y py, .Name z pz] k0 pt] (.Tuple [a, b, c] k2 p2) X.env = pure (some [n, y, z]) := by rfl)
    (hs : swapsWithSole [.Tuple [.Name n px, .Name y py, .Name z pz] k0 pt] (.Tuple [a, b, c] k2 p2) pos.line X.env = pure false := by rfl) :
    SS X T W (.Assign [.Tuple [.Name n px, .Name y py, .Name z pz] k0 pt] (.Tuple [a, b, c] k2 p2) pos) (ls (xsPar xt (.cons (.nm i1) (.cons (.nm j1) (.cons (.nm l1) .nil))))) := (s_par3 hc hN hi hj hl hij hil hjl hx hy hz ha hw hs).tx (sPar_x la_x)
theorem ys_setLc {F j : Nat} {scope : Scope} {own : List (Str × Nat)} {ifs : List Expr} {xcc : Option XE} (hF : F ≤ 16777216) (hc : X.calm = true) (hN : X.N.Nodup) (hy : X.N[j]? = some y) (hyl : X.env.scope.names.lookup y = some .local)
    (hi : SI X T W tg iter (li xit)) (ok : BlkOk X.N X.env.scope scope own) (hsl : ∀ i ∈ t.slots, i ∈ own.map (·.2))
    (hg : ∀ (s : Shared) (H : Hp) (C : Addr) (cl : List (Str × Addr)) (fp : List Addr), SG (X.blk s H scope (compEnvC scope cl C X.env) fp) T tg t) (ht : YC (fun s H C cl fp => X.blk s H scope (compEnvC scope cl C X.env) fp) T ifs xcc)
    (he : ∀ (s : Shared) (H : Hp) (C : Addr) (cl : List (Str × Addr)) (fp : List Addr), SE (X.blk s H scope (compEnvC scope cl C X.env) fp) T W0 elt (lx xe))
    (hsw : swapsWith (.ListComp elt [⟨tg, iter, ifs, 0⟩] scope p) (some (.Name y py)) pos.line X.env = pure true := by rfl) (hs : ∀ x, foldedSetIterable iter X.env x = pure x := by intro _; rfl) :
    SS X T W (.Assign [.Name y py] (.ListComp elt [⟨tg, iter, ifs, 0⟩] scope p) pos) (ls (xsAsg (xNewL (xComp F xit t (own.map (·.2)) xcc xe)) (.nm j))) := by
  cases ht with
  | none => exact (s_setLc hc hN hy hyl hi ok hsl hg .none he hsw hs).tx (sAsg_x (fNewL_x (fComp_x hF li_x .no lx_x)))
  | one h => exact (s_setLc hc hN hy hyl hi ok hsl hg (.one h) he hsw hs).tx (sAsg_x (fNewL_x (fComp_x hF li_x (.so lx_x) lx_x)))
theorem ys_setix {tpos : Pos} (ho : SE X T W o (lx xo)) (hi : SE X T W i (lx xi)) (he : SE X T W e (lx xe)) (hs : swapsWithSole [.Subscript o i tpos] e pos.line X.env = pure false := by rfl) (hw : swappedStores [.Subscript o i tpos] e X.env = pure none := by rfl)
    (h1 : (assignEach [.Subscript o i tpos] X.env).map (·.2) = [assign (.Subscript o i tpos) X.env] := by rfl)
    (ha : ∀ v, assign (.Subscript o i tpos) X.env v = (do
      let ov ← holding [v] (eval o X.env)
      let iv ← holding [v, ov] (eval i X.env)
      standAt tpos
      holding [v, ov, iv] (setItem ov iv v)
      release [v, ov, iv] []) := by intro _; rfl) : SS X T W (.Assign [.Subscript o i tpos] e pos) (ls (xsSet xo xi xe)) := (s_setix ho hi he hs hw h1 ha).tx (sSet_x lx_x lx_x lx_x)
theorem ys_aug {j : Nat} (op : Bop) (hN : X.N.Nodup) (hi : X.N[j]? = some n) (hx : Loc X.env.scope n) (he : SE X T W e (lx xe)) (hf : X.fn n = true ∨ X.env.scope.names.lookup n = some .local := by first | exact .inl rfl | exact .inr rfl | assumption) : SS X T W (.AugAssign (.Name n p) op.op e pos) (ls (xsAug j op xe)) := (s_aug op hN hi hx he hf).tx (sAug_x lx_x)
theorem ys_augS {tpos : Pos} (op : Bop) (ho : SE X T W o (lx xo)) (hi : SE X T W i (lx xi)) (he : SE X T W e (lx xe)) (ha : ∀ ov iv new, augStore i ov iv new = (do holding [new, ov, iv] (setItem ov iv new); release [new, ov, iv] []; pure .next) := by intros; rfl) :
    SS X T W (.AugAssign (.Subscript o i tpos) op.op e pos) (ls (xsAugS xo xi op xe)) := (s_augS op ho hi he ha).tx (sAugS_x lx_x lx_x lx_x)
theorem ys_while {F : Nat} (hF : F ≤ 16777216) (hp : PassesOwn (model X.prog X.w) X.A X.env X.xe) (hc : ST X T W c (lx xc)) (hb : SSs X T W body (ls x1)) : SS X T W (.While c body [] pos) (ls (xsWhile F xc x1)) := (s_while hp hc hb).tx (sWhile_x hF lx_x ls_mono ls_x)
theorem ys_for {F : Nat} (hF : F ≤ 16777216) (hp : PassesOwn (model X.prog X.w) X.A X.env X.xe) (hcalm : X.calm = true) (hi : SI X T W tg iter (li xit)) (hg : SG X T tg t) (hb : SSs X T W body (ls x1)) (hs : ∀ x, foldedSetIterable iter X.env x = pure x := by intro _; rfl) : SS X T W (.For tg iter body [] pos) (ls (xsFor F xit t x1)) := (s_for hp hcalm hi hg hb hs).tx (sFor_x hF li_x ls_x)
theorem ys_raise {k : Nat} {pos' : Pos} (Ec : Xc X.prog X.w X.K X.mg X.base n) (hcalm : X.calm = true) (tk : Takes X W) (hr : Room k X.A) (hk : 2 ≤ k) (hg : Gl X n) (ha : SE X T W a (lx xe))
    (hdb : (n == ("__debug__" : Str)) = false := by decide) (he : starEach [a] X.env = (false, eval a X.env) :: starEach [] X.env := by rfl) (hpl : (backTo pos (starEach [] X.env)).any (·.1) = false := by rfl) :
    SS X T W (.Raise (some (.Call (.Name n p) [a] [] pos)) none pos') (ls (xsRaise n xe)) := (s_raise Ec hcalm tk hr hk hg ha hdb he hpl).tx (sRaise_x lx_x)
theorem ys_try {x : Str} {c : Value} {i : Nat} {suite : List Stmt} {b₀ : Stmt} {np pos' : Pos} {sub : SubF} (hs : X.stack = X.env :: X.outer) (hf : X.env.frame = some X.env.locals) (hex : X.ex = []) (hN : X.N.Nodup) (hi : X.N[i]? = some n) (hln : X.env.kindOf n = some .local) (hc : Names X x c) (tk : Takes X W)
    (hsub : ∀ y C q, sub y = some q → X.mg y = some (.ref C) → PySem.W.exmOne X.K (.ref C) c = some q)
    (hb : ∀ (W : WX) (pn : List (Addr × Obj)) (xe : Value → Shared → Prop), Takes (X.tr pn xe) W → PassesOwn (model X.prog X.w) X.A X.env xe → SSs (X.tr pn xe) T W body (ls x1))
    (hsu : ∀ (a : Addr) (pn : List (Addr × Obj)), SSs (X.suite a pn) T W0 (b₀ :: suite) (ls x2)) :
    SS X T W (.Try body [.ExceptHandler (some (.Name x np)) (some n) (b₀ :: suite) pos'] [] [] pos) (ls (xsTry x1 sub i x2)) := (s_try hs hf hex hN hi hln hc tk hsub hb hsu).tx (sTry_x ls_x ls_x)
end
end Ev

set_option Elab.async false
set_option linter.all false
set_option maxRecDepth 100000
set_option maxHeartbeats 0
/-! X3: defs: general ones, pure ones (run on an empty heap), ones that give new lists. -/
namespace Ev
open PySem PySem.Spec PyProof.Rows L2 NdefX
def lenIs {α : Type} : List α → Nat → Bool
  | [], 0 => true
  | _ :: t, n + 1 => lenIs t n
  | _, _ => false
theorem lenIs_iff {α : Type} : ∀ {l : List α} {n : Nat}, lenIs l n = true ↔ l.length = n
  | [], 0 => by simp [lenIs]
  | [], n + 1 => by simp [lenIs]
  | _ :: _, 0 => by simp [lenIs]
  | _ :: t, n + 1 => by
    show lenIs t n = true ↔ _
    rw [lenIs_iff, List.length_cons]
    omega
def envOf (k : Nat) : List D → Env
  | [] => List.replicate k none
  | d :: t => some d :: envOf (k - 1) t
theorem envOf_eq : ∀ (ds : List D) (k : Nat), envOf k ds = ds.map some ++ List.replicate (k - ds.length) none
  | [], k => by simp [envOf]
  | d :: t, k => by
    show some d :: envOf (k - 1) t = _
    rw [envOf_eq t]
    have : k - 1 - t.length = k - (d :: t).length := by simp only [List.length_cons]; omega
    rw [this]
    rfl
def RS.fn (r : RS) : R D := match r with
  | .nx _ h => .ok .non h
  | .rt d h => .ok d h
  | .ex c d _ h => .ex c d h
  | _ => .no
def fnX (n k : Nat) (b : XS) : XSp := fun ds h => match lenIs ds n with
  | true => (b (envOf k ds) h).fn
  | false => .no
theorem RS.fn_to {r : RS} {Q : PQ} {E : PX} (q : r.fn.to Q E) : r.to (fnD Q E) := by
  cases r <;> exact q
section
variable {P : Program} {w : World} {K : PySem.W.Frag} {mg : Str → Option Value} {base : Heap} {T : List NTab} {x : Str} {st : Stmt} {N ps : List Str} {k j : Nat} {b : XS}
theorem Fn.weak {sp : Spec} {xp : XSp} (F : Fn P w K mg base T x st ps j sp) (h : ∀ ds h Q E, (xp ds h).to Q E → sp ds h Q E) : Fn P w K mg base T x st ps j (lsp xp) := by
  refine ⟨lsp_mono, fun ds h' Q E q => F.len ds h' Q E (h _ _ _ _ q), ?_⟩
  obtain ⟨f, fd, h1, h2, h3, h4⟩ := F.ex
  refine ⟨f, fd, h1, h2, h3, ⟨fun vs H Q E q => ?_, fun A outer s H args us vs Q E hr e0 hb r q => ?_⟩⟩
  · obtain ⟨ρ, hh, ds, a, b, c, q⟩ := q
    exact h4.len vs H Q E ⟨ρ, hh, ds, a, b, c, h _ _ _ _ q⟩
  · obtain ⟨ρ, hh, ds, a, b, c, q⟩ := q
    exact h4.run A outer s H args us vs Q E hr e0 hb r ⟨ρ, hh, ds, a, b, c, h _ _ _ _ q⟩
theorem fnX_spec (ds : List D) (h : VH) (Q : PQ) (E : PX) {n k : Nat} (q : (fnX n k b ds h).to Q E) : fnSp n k (ls b) ds h Q E := by
  unfold fnX at q
  cases e : lenIs ds n with
  | false => rw [e] at q; exact q.elim
  | true =>
    rw [e] at q
    have e := lenIs_iff.mp e
    have q := RS.fn_to (r := b (envOf k ds) h) q
    rw [envOf_eq, e] at q
    exact chk_of (decide_eq_true e) q
end
/-! ### values without lists -/
mutual
def free : D → Bool
  | .ref _ => false
  | .tup ds => freeA ds
  | .cl ds => freeA ds
  | .exn _ d => free d
  | _ => true
def freeA : List D → Bool
  | [] => true
  | d :: t => match free d with
    | true => freeA t
    | false => false
end
section
variable {G : Gd} {H : Hp} {ρ ρ' : Nat → Addr} {n m : Nat}
mutual
theorem Rp.lo : ∀ {d : D} {v : V}, free d = true → Rp G H ρ n d v → Rp G H ρ' m d v
  | _, _, _, .non => .non
  | _, _, _, .bl b => .bl b
  | _, _, _, .int i => .int i
  | _, _, _, .str x => .str x
  | _, _, e, .tup h r => .tup h (RpA.lo e r)
  | _, _, e, .ref h => by cases e
  | _, _, _, .ty t => .ty t
  | _, _, _, .own h => .own h
  | _, _, e, .exn h1 h2 h3 h4 h5 h6 r => .exn h1 h2 h3 h4 h5 h6 (Rp.lo e r)
  | _, _, _, .fn h => .fn h
  | _, _, e, .cl h r => .cl h (RpA.lo e r)
theorem RpA.lo : ∀ {ds : List D} {vs : List V}, freeA ds = true → RpA G H ρ n ds vs → RpA G H ρ' m ds vs
  | _, _, _, .nil => .nil
  | d :: ds, _ :: _, e, .cons r t => by
    have e : (match free d with | true => freeA ds | false => false) = true := e
    cases z : free d with
    | false => rw [z] at e; cases e
    | true =>
      rw [z] at e
      exact .cons (Rp.lo z r) (RpA.lo e t)
end
end
theorem vok_nil {G : Gd} {H : Hp} {ρ : Nat → Addr} : VOk G H ρ [] := ⟨fun k o e => by simp at e, fun i j h => absurd h (Nat.not_lt_zero _)⟩
theorem Stp.frame {G : Gd} {H H1 : Hp} {ρ ρ0 ρ1 : Nat → Addr} {h h1 : VH} (ok : VOk G H ρ h) (s : Stp G ρ0 [] H ρ1 h1 H1) : Stp G ρ h H ρ h H1 := by
  have kp : ∀ b o, H b = some o → (∀ ps, o ≠ .tbl ps) → H1 b = some o := fun b o e n => s.keep b o e (fun k hk => absurd hk (Nat.not_lt_zero _)) n
  have k : Kp H H1 := ⟨fun b xs e => kp b _ e (by intro _ z; cases z), fun b o u e => kp b _ e (by intro _ z; cases z), fun b xs e => kp b _ e (by intro _ z; cases z)⟩
  refine ⟨Nat.le_refl _, fun _ _ => rfl, fun b o e _ n => kp b o e n, fun k h1 h2 => absurd h2 (Nat.not_lt.mpr h1), s.dom, ⟨fun i o e => ?_, ok.inj⟩, s.tb⟩
  have q := ok.ob i o e
  cases o with
  | lst ds =>
    obtain ⟨xs, e1, r⟩ := q
    exact ⟨xs, kp _ _ e1 (by intro _ z; cases z), r.mono k (fun _ _ => rfl) (Nat.le_refl _)⟩
/-- what a pure def gives -/
inductive RP where
  | val (d : D) | ex (c : Str) (d : D) | no
abbrev XP := List D → RP
def RP.up (r : RP) (h : VH) : R D := match r with
  | .val d => .ok d h
  | .ex c d => .ex c d h
  | .no => .no
def lp (p : XP) : XSp := fun ds h => (p ds).up h
def RP.chk (b : Bool) (r : RP) : RP := match b with
  | true => r
  | false => .no
def RS.pu (r : RS) : RP := match r with
  | .nx _ _ => .val .non
  | .rt d _ => .chk (free d) (.val d)
  | .ex c d _ _ => .chk (free d) (.ex c d)
  | _ => .no
def fnP (n k : Nat) (b : XS) : XP := fun ds => match lenIs ds n with
  | true => .chk (freeA ds) (b (envOf k ds) []).pu
  | false => .no
theorem RP.chk_up {b : Bool} {r : RP} {h : VH} {Q : PQ} {E : PX} (q : ((RP.chk b r).up h).to Q E) : b = true ∧ (r.up h).to Q E := by
  cases b with
  | true => exact ⟨rfl, q⟩
  | false => exact q.elim
section
variable {P : Program} {w : World} {K : PySem.W.Frag} {mg : Str → Option Value} {base : Heap} {T : List NTab} {x : Str} {st : Stmt} {N ps : List Str} {k j : Nat} {b : XS}
theorem fnX_ok {f : Addr} {fd : FuncData} (hm : mg x = some (.ref f)) (D : FunD K x x (defArgs st) (defBody st) (defScope st) [] [] f fd) (S : FnScope N ps (defScope st)) (hlen : ps.length ≤ N.length)
    (hbind : ∀ (kV doc pm : Value) (an : Option Addr) (cdv ct : Value) (us : List Value), us.length = ps.length → bindArgs (PySem.W.fnOf x x (defArgs st) (defBody st) (defScope st) .none kV doc pm an cdv ct) ⟨us, []⟩ = pure (ps.zip us))
    (hb : ∀ (cdv : Value) (A : Around) (outer : List PySem.Env) (s : Shared) (H : Hp) (E : XK), Room k (A.deeper (envOfC x (defScope st) s.heap.objs.size f cdv)) → SSs (bcx P w K mg base N x st f cdv A outer s H E) T (fun cls d _ H' => E cls d H') (defBody st) (ls b)) :
    Fn P w K mg base T x st ps (k + 1) (lsp (fnX ps.length N.length b)) := (fn_ok hm D S hlen hbind ls_mono hb).weak fun ds h Q E q => fnX_spec ds h Q E q
theorem Fn.pure (F : Fn P w K mg base T x st ps j (lsp (fnX ps.length N.length b))) : Fn P w K mg base T x st ps j (lsp (lp (fnP ps.length N.length b))) := by
  have hl : ∀ ds h Q E, lsp (lp (fnP ps.length N.length b)) ds h Q E → ds.length = ps.length ∧ freeA ds = true ∧ ((b (envOf N.length ds) []).pu.up h).to Q E := fun ds h Q E q => by
    have q : ((fnP ps.length N.length b ds).up h).to Q E := q
    unfold fnP at q
    cases e : lenIs ds ps.length with
    | false => rw [e] at q; exact q.elim
    | true =>
      rw [e] at q
      obtain ⟨q1, q2⟩ := RP.chk_up q
      exact ⟨lenIs_iff.mp e, q1, q2⟩
  refine ⟨lsp_mono, fun ds h Q E q => (hl ds h Q E q).1, ?_⟩
  obtain ⟨f, fd, h1, h2, h3, h4⟩ := F.ex
  have key : ∀ vs H Q E, spOf ⟨K, mg, T⟩ (lsp (lp (fnP ps.length N.length b))) vs H Q E → spOf ⟨K, mg, T⟩ (lsp (fnX ps.length N.length b)) vs H Q E := fun vs H Q E q => by
    obtain ⟨ρ, hh, ds, ok, tb, r, q⟩ := q
    obtain ⟨e1, e2, q⟩ := hl _ _ _ _ q
    refine ⟨ρ, [], ds, vok_nil, tb, r.lo e2, ?_⟩
    show (fnX ps.length N.length b ds []).to _ _
    unfold fnX
    rw [lenIs_iff.mpr e1]
    show ((b (envOf N.length ds) []).fn).to _ _
    revert q
    cases b (envOf N.length ds) [] with
    | nx e h =>
      intro q ρ' v H' s' r'
      cases r'
      exact q ρ _ H' (s'.frame ok) .non
    | rt d h =>
      intro q
      obtain ⟨e, q⟩ := RP.chk_up q
      exact fun ρ' v H' s' r' => q ρ v H' (s'.frame ok) (r'.lo e)
    | ex c d e h =>
      intro q
      obtain ⟨e, q⟩ := RP.chk_up q
      exact fun ρ' H' C dx w s' a b r' => q ρ H' C dx w (s'.frame ok) a b (r'.lo e)
    | _ => exact fun q => q.elim
  exact ⟨f, fd, h1, h2, h3, ⟨fun vs H Q E q => h4.len vs H Q E (key vs H Q E q), fun A outer s H args us vs Q E hr e0 hb r q => h4.run A outer s H args us vs Q E hr e0 hb r (key vs H Q E q)⟩⟩
end
/-! ### a def that gives new lists -/
mutual
def shf (n : Nat) : D → D
  | .ref k => .ref (n + k)
  | .tup ds => .tup (shfA n ds)
  | .cl ds => .cl (shfA n ds)
  | .exn c d => .exn c (shf n d)
  | d => d
def shfA (n : Nat) : List D → List D
  | [] => []
  | d :: t => shf n d :: shfA n t
end
def shfO (n : Nat) : Ob → Ob
  | .lst ds => .lst (shfA n ds)
section
variable {G : Gd} {H : Hp} {ρ ρ' : Nat → Addr} {n m l : Nat}
mutual
theorem Rp.sh (hr : ∀ k, k < n → l + k < m ∧ ρ' (l + k) = ρ k) : ∀ {d : D} {v : V}, Rp G H ρ n d v → Rp G H ρ' m (shf l d) v
  | _, _, .non => .non
  | _, _, .bl b => .bl b
  | _, _, .int i => .int i
  | _, _, .str x => .str x
  | _, _, .tup h r => .tup h (RpA.sh hr r)
  | .ref k, _, .ref h => by
    show Rp G H ρ' m (.ref (l + k)) _
    rw [← (hr k h).2]
    exact .ref (hr k h).1
  | _, _, .ty t => .ty t
  | _, _, .own h => .own h
  | _, _, .exn h1 h2 h3 h4 h5 h6 r => .exn h1 h2 h3 h4 h5 h6 (Rp.sh hr r)
  | _, _, .fn h => .fn h
  | _, _, .cl h r => .cl h (RpA.sh hr r)
theorem RpA.sh (hr : ∀ k, k < n → l + k < m ∧ ρ' (l + k) = ρ k) : ∀ {ds : List D} {vs : List V}, RpA G H ρ n ds vs → RpA G H ρ' m (shfA l ds) vs
  | _, _, .nil => .nil
  | _, _, .cons r t => .cons (Rp.sh hr r) (RpA.sh hr t)
end
end
def glue (ρ ρ' : Nat → Addr) (n : Nat) : Nat → Addr := fun k => if k < n then ρ k else ρ' (k - n)
theorem Stp.graft {G : Gd} {H H1 : Hp} {ρ ρ0 ρ1 : Nat → Addr} {h h1 : VH} (ok : VOk G H ρ h) (s : Stp G ρ0 [] H ρ1 h1 H1) : Stp G ρ h H (glue ρ ρ1 h.length) (h ++ h1.map (shfO h.length)) H1 := by
  have st := s.frame (h := h) ok
  have g1 : ∀ k, k < h.length → glue ρ ρ1 h.length k = ρ k := fun k hk => if_pos hk
  have g2 : ∀ k, glue ρ ρ1 h.length (h.length + k) = ρ1 k := fun k => by
    unfold glue
    rw [if_neg (by omega), Nat.add_sub_cancel_left]
  have g3 : ∀ k, ¬ k < h.length → glue ρ ρ1 h.length k = ρ1 (k - h.length) := fun k hk => if_neg hk
  have lenE : (h ++ h1.map (shfO h.length)).length = h.length + h1.length := by rw [List.length_append, List.length_map]
  have frs : ∀ k, k < h1.length → H (ρ1 k) = none := fun k hk => s.fresh k (Nat.zero_le _) hk
  refine ⟨by rw [lenE]; omega, g1, fun b o e n t => st.keep b o e n t, fun k hk hk2 => ?_, s.dom, ⟨fun i o e => ?_, fun i j hi hj e => ?_⟩, s.tb⟩
  · rw [lenE] at hk2
    rw [g3 k (by omega)]
    exact frs _ (by omega)
  · rw [lenE]
    by_cases hi : i < h.length
    · rw [List.getElem?_append_left hi] at e
      rw [g1 i hi]
      have q := st.ok.ob i o e
      cases o with
      | lst ds =>
        obtain ⟨xs, e1, r⟩ := q
        exact ⟨xs, e1, r.mono (Kp.refl _) g1 (by omega)⟩
    · rw [List.getElem?_append_right (by omega), List.getElem?_map] at e
      rw [g3 i hi]
      cases z : h1[i - h.length]? with
      | none => rw [z] at e; cases e
      | some o1 =>
        rw [z] at e
        cases e
        have q := s.ok.ob _ o1 z
        cases o1 with
        | lst ds =>
          obtain ⟨xs, e1, r⟩ := q
          exact ⟨xs, e1, RpA.sh (fun k hk => ⟨by omega, g2 k⟩) r⟩
  · rw [lenE] at hi hj
    by_cases h1' : i < h.length <;> by_cases h2' : j < h.length
    · rw [g1 i h1', g1 j h2'] at e
      exact ok.inj i j h1' h2' e
    · rw [g1 i h1', g3 j h2'] at e
      obtain ⟨xs, e1⟩ := ok.isLst h1'
      have := frs (j - h.length) (by omega)
      rw [← e, e1] at this
      cases this
    · rw [g3 i h1', g1 j h2'] at e
      obtain ⟨xs, e1⟩ := ok.isLst h2'
      have := frs (i - h.length) (by omega)
      rw [e, e1] at this
      cases this
    · rw [g3 i h1', g3 j h2'] at e
      have := s.ok.inj _ _ (by omega) (by omega) e
      omega
/-- what a def without lists among its arguments gives: a value, its new lists -/
abbrev XN := List D → R D
def RS.nw (r : RS) : R D := match r with
  | .nx _ h => .ok .non h
  | .rt d h => .ok d h
  | .ex c d _ h => .ex c d h
  | _ => .no
def catV (h : VH) : VH → VH := fun g => h ++ g.map (shfO h.length)
def R.sh (r : R D) (h : VH) : R D := match r with
  | .ok d g => frcL (catV h g) fun h' => .ok (shf h.length d) h'
  | .ex c d g => frcL (catV h g) fun h' => .ex c (shf h.length d) h'
  | .no => .no
def ln (p : XN) : XSp := fun ds h => (p ds).sh h
def fnN (n k : Nat) (b : XS) : XN := fun ds => match lenIs ds n with
  | true => match freeA ds with
    | true => (b (envOf k ds) []).fn
    | false => .no
  | false => .no
section
variable {P : Program} {w : World} {K : PySem.W.Frag} {mg : Str → Option Value} {base : Heap} {T : List NTab} {x : Str} {st : Stmt} {N ps : List Str} {k j : Nat} {b : XS}
theorem R.sh_to {r : R D} {h : VH} {Q : PQ} {E : PX} (q : (r.sh h).to Q E) : r.to (fun d g => Q (shf h.length d) (catV h g)) (fun c d g => E c (shf h.length d) (catV h g)) := by
  cases r with
  | ok d g =>
    have q : (frcL (catV h g) fun h' => (.ok (shf h.length d) h' : R D)).to Q E := q
    rw [frcL_eq] at q
    exact q
  | ex c d g =>
    have q : (frcL (catV h g) fun h' => (.ex c (shf h.length d) h' : R D)).to Q E := q
    rw [frcL_eq] at q
    exact q
  | no => exact q
theorem Fn.news (F : Fn P w K mg base T x st ps j (lsp (fnX ps.length N.length b))) : Fn P w K mg base T x st ps j (lsp (ln (fnN ps.length N.length b))) := by
  have hl : ∀ ds h Q E, lsp (ln (fnN ps.length N.length b)) ds h Q E → ds.length = ps.length ∧ freeA ds = true ∧ ((b (envOf N.length ds) []).fn).to (fun d g => Q (shf h.length d) (catV h g)) (fun c d g => E c (shf h.length d) (catV h g)) := fun ds h Q E q => by
    have q := R.sh_to (r := fnN ps.length N.length b ds) q
    unfold fnN at q
    cases e : lenIs ds ps.length with
    | false => rw [e] at q; exact q.elim
    | true =>
      rw [e] at q
      cases e2 : freeA ds with
      | false => rw [e2] at q; exact q.elim
      | true =>
        rw [e2] at q
        exact ⟨lenIs_iff.mp e, rfl, q⟩
  refine ⟨lsp_mono, fun ds h Q E q => (hl ds h Q E q).1, ?_⟩
  obtain ⟨f, fd, h1, h2, h3, h4⟩ := F.ex
  have key : ∀ vs H Q E, spOf ⟨K, mg, T⟩ (lsp (ln (fnN ps.length N.length b))) vs H Q E → spOf ⟨K, mg, T⟩ (lsp (fnX ps.length N.length b)) vs H Q E := fun vs H Q E q => by
    obtain ⟨ρ, hh, ds, ok, tb, r, q⟩ := q
    obtain ⟨e1, e2, q⟩ := hl _ _ _ _ q
    refine ⟨ρ, [], ds, vok_nil, tb, r.lo e2, ?_⟩
    show (fnX ps.length N.length b ds []).to _ _
    unfold fnX
    rw [lenIs_iff.mpr e1]
    have gg : ∀ (ρ1 : Nat → Addr) (k n : Nat), k < n → hh.length + k < hh.length + n ∧ glue ρ ρ1 hh.length (hh.length + k) = ρ1 k := fun ρ1 k n hk => ⟨by omega, by
      unfold glue
      rw [if_neg (by omega), Nat.add_sub_cancel_left]⟩
    have lenE : ∀ g : VH, (catV hh g).length = hh.length + g.length := fun g => by unfold catV; rw [List.length_append, List.length_map]
    refine R.map (fun d g q => ?_) (fun c d g q => ?_) q
    · intro ρ' v H' s' r'
      refine q _ v H' (s'.graft ok) ?_
      rw [lenE]
      exact Rp.sh (fun k hk => gg ρ' k _ hk) r'
    · intro ρ' H' C dx w s' a b r'
      refine q _ H' C dx w (s'.graft ok) a b ?_
      rw [lenE]
      exact Rp.sh (fun k hk => gg ρ' k _ hk) r'
  exact ⟨f, fd, h1, h2, h3, ⟨fun vs H Q E q => h4.len vs H Q E (key vs H Q E q), fun A outer s H args us vs Q E hr e0 hb r q => h4.run A outer s H args us vs Q E hr e0 hb r (key vs H Q E q)⟩⟩
end
/-- the promise of nothing -/
def xpNo : XSp := fun _ _ => .no
def xP0 : XP := fun _ => .no
def xN0 : XN := fun _ => .no
theorem fn_noX {P : Program} {w : World} {K : PySem.W.Frag} {mg : Str → Option Value} {base : Heap} {T : List NTab} {x : Str} {st : Stmt} {ps : List Str} {f : Addr} {fd : FuncData} {xp : XSp} (h0 : ∀ ds h, xp ds h = .no) (hm : mg x = some (.ref f)) (D : FunD K x x (defArgs st) (defBody st) (defScope st) [] [] f fd)
    (hbind : ∀ (kV doc pm : Value) (an : Option Addr) (cdv ct : Value) (us : List Value), us.length = ps.length → bindArgs (PySem.W.fnOf x x (defArgs st) (defBody st) (defScope st) .none kV doc pm an cdv ct) ⟨us, []⟩ = pure (ps.zip us)) : Fn P w K mg base T x st ps 0 (lsp xp) :=
  (fn_no hm D hbind).weak fun ds h Q E q => by
    rw [h0] at q
    exact q
end Ev

set_option Elab.async false
set_option linter.all false
set_option maxRecDepth 100000
set_option maxHeartbeats 0
/-! X3b: a def run on an empty heap where its arguments hold no lists, else on the whole heap. -/
namespace Ev
open PySem PySem.Spec PyProof.Rows L2 NdefX
def R.au (r : R D) (h : VH) : R D := match r with
  | .ok d g => (match free d with
    | true => .ok d h
    | false => (R.ok d g).sh h)
  | .ex c d g => (match free d with
    | true => .ex c d h
    | false => (R.ex c d g).sh h)
  | .no => .no
def fnA (n k : Nat) (b : XS) : XSp := fun ds h => match lenIs ds n with
  | true => (match freeA ds with
    | true => (b (envOf k ds) []).fn.au h
    | false => (b (envOf k ds) h).fn)
  | false => .no
section
variable {P : Program} {w : World} {K : PySem.W.Frag} {mg : Str → Option Value} {base : Heap} {T : List NTab} {x : Str} {st : Stmt} {N ps : List Str} {k j : Nat} {b : XS}
theorem Fn.auto (F : Fn P w K mg base T x st ps j (lsp (fnX ps.length N.length b))) : Fn P w K mg base T x st ps j (lsp (fnA ps.length N.length b)) := by
  have hlen : ∀ ds h Q E, lsp (fnA ps.length N.length b) ds h Q E → ds.length = ps.length := fun ds h Q E q => by
    have q : (fnA ps.length N.length b ds h).to Q E := q
    unfold fnA at q
    cases e : lenIs ds ps.length with
    | false => rw [e] at q; exact q.elim
    | true => exact lenIs_iff.mp e
  refine ⟨lsp_mono, hlen, ?_⟩
  obtain ⟨f, fd, h1, h2, h3, h4⟩ := F.ex
  have key : ∀ vs H Q E, spOf ⟨K, mg, T⟩ (lsp (fnA ps.length N.length b)) vs H Q E → spOf ⟨K, mg, T⟩ (lsp (fnX ps.length N.length b)) vs H Q E := fun vs H Q E q => by
    obtain ⟨ρ, hh, ds, ok, tb, r, q⟩ := q
    have q : (fnA ps.length N.length b ds hh).to _ _ := q
    have e1 := hlen _ _ _ _ q
    unfold fnA at q
    rw [lenIs_iff.mpr e1] at q
    have fx : ∀ h, fnX ps.length N.length b ds h = (b (envOf N.length ds) h).fn := fun h => by
      unfold fnX
      rw [lenIs_iff.mpr e1]
    cases e2 : freeA ds with
    | false =>
      rw [e2] at q
      exact ⟨ρ, hh, ds, ok, tb, r, by show (fnX ps.length N.length b ds hh).to _ _; rw [fx]; exact q⟩
    | true =>
      rw [e2] at q
      refine ⟨ρ, [], ds, vok_nil, tb, r.lo e2, ?_⟩
      show (fnX ps.length N.length b ds []).to _ _
      rw [fx]
      have gg : ∀ (ρ1 : Nat → Addr) (k n : Nat), k < n → hh.length + k < hh.length + n ∧ glue ρ ρ1 hh.length (hh.length + k) = ρ1 k := fun ρ1 k n hk => ⟨by omega, by
        unfold glue
        rw [if_neg (by omega), Nat.add_sub_cancel_left]⟩
      have lenE : ∀ g : VH, (catV hh g).length = hh.length + g.length := fun g => by unfold catV; rw [List.length_append, List.length_map]
      revert q
      cases (b (envOf N.length ds) []).fn with
      | ok d g =>
        show ((match free d with | true => .ok d hh | false => (R.ok d g).sh hh : R D)).to _ _ → _
        cases e3 : free d with
        | true => exact fun q ρ' v H' s' r' => q ρ v H' (s'.frame ok) (r'.lo e3)
        | false =>
          intro q
          have q := R.sh_to (r := R.ok d g) q
          intro ρ' v H' s' r'
          refine q _ v H' (s'.graft ok) ?_
          rw [lenE]
          exact Rp.sh (fun k hk => gg ρ' k _ hk) r'
      | ex c d g =>
        show ((match free d with | true => .ex c d hh | false => (R.ex c d g).sh hh : R D)).to _ _ → _
        cases e3 : free d with
        | true => exact fun q ρ' H' C dx w s' a b r' => q ρ H' C dx w (s'.frame ok) a b (r'.lo e3)
        | false =>
          intro q
          have q := R.sh_to (r := R.ex c d g) q
          intro ρ' H' C dx w s' a b r'
          refine q _ H' C dx w (s'.graft ok) a b ?_
          rw [lenE]
          exact Rp.sh (fun k hk => gg ρ' k _ hk) r'
      | no => exact fun q => q.elim
  exact ⟨f, fd, h1, h2, h3, ⟨fun vs H Q E q => h4.len vs H Q E (key vs H Q E q), fun A outer s H args us vs Q E hr e0 hb r q => h4.run A outer s H args us vs Q E hr e0 hb r (key vs H Q E q)⟩⟩
end
end Ev

set_option Elab.async false
set_option linter.all false
set_option maxRecDepth 100000
set_option maxHeartbeats 0
/-! X4: enumerate of tuples and lists; gcd; constants of the module; x is True. -/
namespace Ev
open PySem PySem.Spec PyProof.Rows L2 NdefX
open Sem (wp)
open AutoSeq1 (wpAny_loadPart')
/-! ### enumerate(tuple) -/
theorem tupEnum_new (l : Addr) (items : Array Value) (n : Nat) (dct : Option Addr) (sl : Array (Option Value)) : Meets (Builtin.«enumerate.__new__» ⟨[.type "enumerate", .ref l], []⟩) (fun _ R s => s.heap.get? l = some { cls := .type "tuple", dict := dct, data := .seq items n, slots := sl } ∧
      R (.ok (.ret (.ref (s.heap.push { cls := .type "tuple_iterator", data := .fields #[.ref l, .int 0 0] }).objs.size))) { s with heap := (s.heap.push { cls := .type "tuple_iterator", data := .fields #[.ref l, .int 0 0] }).push { cls := .type "enumerate", data := .fields #[.none, .bool false, .ref s.heap.objs.size, rawInt 0, .none, .none] } }) :=
  .of_wp fun prog w A R s h => by
    obtain ⟨hp, g, d, tk, os⟩ := s; have hsub := sub_enumerate; obtain ⟨hl, h⟩ := h
    have hL : Heap.IsTuple (Shared.heap ⟨hp, g, d, tk, os⟩) l items := ⟨_, hl, rfl, n, rfl⟩
    wp_walk using wpAny_loadPart' hl
    refine wpAny_stack_any fun st => wpAny_pure ?_
    split
    · rename_i c _ _ _ _ _
      cases (c == Value.type "enumerate") <;> (wp_walk using wpAny_loadPart' hl, wpAny_pyIter_tuple hL; exact ⟨_, rfl, h⟩)
    · wp_walk using wpAny_loadPart' hl, wpAny_pyIter_tuple hL
      exact ⟨_, rfl, h⟩
section
variable {prog : Program} {w : World} {A : Around} {E : Value → Shared → Prop} {s : Shared}
theorem tupEnum_call {l : Addr} {items : Array Value} {Q : Value → Shared → Prop} (hL : s.heap.IsTuple l items)
    (h : ∀ h', IsEnum h' (s.heap.objs.size + 1) s.heap.objs.size 0 .none → h'.IsTupleIter s.heap.objs.size l 0 → (∀ b o, s.heap.get? b = some o → h'.get? b = some o) → Q (.ref (s.heap.objs.size + 1)) { s with heap := h' }) :
    wpAny (model prog w) A (call (.type "enumerate") [.ref l]) Q E s := by
  obtain ⟨⟨c, dct, dt, sl⟩, hl, hc, n, hd⟩ := hL
  obtain rfl : c = .type "tuple" := hc
  obtain rfl : dt = .seq items n := hd
  refine callType_new F.called_enumerate (by decide) (F.typeCall_enumerate_1 _) (F.newCall_enumerate_1 _) (fun obj => F.args_object_init_2 obj _) F.entry_enumerate_new (tupEnum_new l items n dct sl) ⟨hl, ?_⟩
  have hz : (s.heap.push { cls := .type "tuple_iterator", data := .fields #[.ref l, .int 0 0] }).objs.size = s.heap.objs.size + 1 := Heap.size_push ..
  show _ ∧ _
  rw [hz]
  have he : IsEnum ((s.heap.push { cls := .type "tuple_iterator", data := .fields #[.ref l, .int 0 0] }).push { cls := .type "enumerate", data := .fields #[.none, .bool false, .ref s.heap.objs.size, rawInt 0, .none, .none] }) (s.heap.objs.size + 1) s.heap.objs.size 0 .none := by
    have := Heap.get?_push_size (s.heap.push { cls := .type "tuple_iterator", data := .fields #[.ref l, .int 0 0] }) (o := { cls := .type "enumerate", data := .fields #[.none, .bool false, .ref s.heap.objs.size, rawInt 0, .none, .none] }) rfl
    rw [hz] at this
    exact this
  exact ⟨⟨_, he, rfl⟩, h _ he ⟨_, Heap.get?_push_of_some _ (Heap.get?_push_size _ rfl), rfl, rfl⟩ fun b o x => Heap.get?_push_of_some _ (Heap.get?_push_of_some _ x)⟩
theorem tupNext_item {it t : Addr} {i : Nat} {items} {x : Value} {Q : Value → Shared → Prop} (hit : s.heap.IsTupleIter it t i) (ht : s.heap.IsTuple t items) (hx : items[i]? = some x)
    (hQ : ∀ h', h'.IsTupleIter it t (i + 1) → Heap.SameBut it s.heap h' → Q x { s with heap := h' }) : wpAny (model prog w) A (Builtin.SmallTypes.nextOf (.ref it)) Q E s := by
  obtain ⟨o, ho, hc, hd⟩ := id hit; obtain ⟨ol, hol, _, nl, hdl⟩ := ht
  unfold Builtin.SmallTypes.nextOf
  refine wpAny_bind (wpAny_callSpecial?_slot (name := Str.ofString "__next__") hit.typeIs F.slot_tuple_iterator_next (wpAny_call_entry F.slot_tuple_iterator_next hit.typeIs F.entry_tuple_iterator_next ?_ (F.args_tuple_iterator_next_1 _)))
  show wpAny _ _ (field (.ref it) 0 >>= _) _ _ s; refine wpAny_bind (wpAny_field ho hd (x := .ref t) rfl ?_)
  show wpAny _ _ (if (Value.ref t == Value.none) = true then _ else _) _ _ s; rw [if_neg (show ¬ ((Value.ref t == Value.none) = true) from Bool.false_ne_true)]
  show wpAny _ _ (field (.ref it) 1 >>= _) _ _ s; refine wpAny_bind (wpAny_field ho hd (x := .int i 0) rfl ?_)
  show wpAny _ _ (seqItems? (.ref t) >>= _) _ _ s; refine wpAny_bind (wpAny_seqItems hol hdl ?_)
  simp only [Int.toNat_natCast, hx]
  refine wpAny_bind (wpAny_setField ho hd (by simp) (wpAny_pure ⟨x, rfl, wpAny_pure (hQ _ ?_ (Heap.SameBut.update ..))⟩))
  exact ⟨_, Heap.get?_update_self _ ho (Obj.isFreed_of_fields (Obj.data_mapFields hd _)), (Obj.cls_mapFields ..).trans hc, by rw [Obj.data_mapFields hd]; simp [rawInt]⟩
theorem tupNext_end {it t : Addr} {i : Nat} {items} {Q : Value → Shared → Prop} (hh : A.handled = none) (hit : s.heap.IsTupleIter it t i) (ht : s.heap.IsTuple t items) (hx : items[i]? = none)
    (hE : ∀ h' e, Heap.ExtBut it s.heap h' → (∃ o, h'.get? e = some o ∧ o.cls = .type "StopIteration") → E (.ref e) { s with heap := h' }) : wpAny (model prog w) A (Builtin.SmallTypes.nextOf (.ref it)) Q E s := by
  obtain ⟨o, ho, hc, hd⟩ := id hit; obtain ⟨ol, hol, _, nl, hdl⟩ := ht
  unfold Builtin.SmallTypes.nextOf
  refine wpAny_bind (wpAny_callSpecial?_slot (name := Str.ofString "__next__") hit.typeIs F.slot_tuple_iterator_next (wpAny_call_entry F.slot_tuple_iterator_next hit.typeIs F.entry_tuple_iterator_next ?_ (F.args_tuple_iterator_next_1 _)))
  show wpAny _ _ (field (.ref it) 0 >>= _) _ _ s; refine wpAny_bind (wpAny_field ho hd (x := .ref t) rfl ?_)
  show wpAny _ _ (if (Value.ref t == Value.none) = true then _ else _) _ _ s; rw [if_neg (show ¬ ((Value.ref t == Value.none) = true) from Bool.false_ne_true)]
  show wpAny _ _ (field (.ref it) 1 >>= _) _ _ s; refine wpAny_bind (wpAny_field ho hd (x := .int i 0) rfl ?_)
  show wpAny _ _ (seqItems? (.ref t) >>= _) _ _ s; refine wpAny_bind (wpAny_seqItems hol hdl ?_)
  simp only [Int.toNat_natCast, hx]
  refine wpAny_bind (wpAny_rule (wpAny_bind (wpAny_setField ho hd (by simp) ?_)))
  show wpAny _ _ (newExc (.type "StopIteration") [] >>= _) _ _ _; refine wpAny_bind ?_
  simp only [newExc, newTuple]; refine wpAny_bind (wpAny_newObj_type ?_ (by size_fits))
  refine wpAny_bind (m := firstArgMember _ _) (wpAny_of_eq (a := Value.none) (by first | rfl | (simp only [firstArgMember]; rfl)) ?_); refine wpAny_newObj_type ?_ (by size_fits)
  simp only [raiseNew]; refine wpAny_bind (wpAny_handled ?_)
  first | rw [show A.in1.handled = none from hh] | rw [hh]
  exact wpAny_bind (wpAny_pure (wpAny_throw (hE _ _ (((Heap.SameBut.update ..).extBut.push _).push _) ⟨_, Heap.get?_push_size _ rfl, rfl⟩)))
theorem tupDraws (hh : A.handled = none) (it l : Addr) (hne : l ≠ it) (items : Array Value) : Draws prog w A it [it, l] items.size (fun i v => items[i]? = some v) (fun i h => h.IsTupleIter it l i ∧ h.IsTuple l items) where
  live := fun _ _ st => let ⟨o, ho, _⟩ := st.1; ⟨o, ho⟩
  frame := fun _ _ _ st hk => ⟨let ⟨o, ho, r⟩ := st.1; ⟨o, hk it (by simp) o ho, r⟩, let ⟨o, ho, r⟩ := st.2; ⟨o, hk l (by simp) o ho, r⟩⟩
  item := fun i s Q E hi st hQ => tupNext_item st.1 st.2 (x := items[i]) (by simp [hi]) fun h' hit' hs' => hQ _ h' s.toks (by simp [hi]) ⟨hit', st.2.extBut hs'.extBut hne⟩ hs'
  done := fun s Q E st hE => tupNext_end hh st.1 st.2 (by simp) hE
end
/-- the tuple at a, each item in a new pair with its number -/
def IteT (K : PySem.W.Frag) (a : Addr) : It :=
  ⟨fun i H => ∃ (xs : List V) (x : V), SqT K H a xs ∧ xs[i]? = some x, fun i H v H' => ∃ T x, v = .ref T ∧ H T = none ∧ H' = upd H T (.tup [.int (i : Nat), x]) ∧ ∀ xs, SqT K H a xs → xs[i]? = some x, fun i H => ∃ xs : List V, SqT K H a xs ∧ xs.length ≤ i⟩
theorem turn_enumT {P : Program} {w : World} {K : PySem.W.Frag} {elts : List Expr} {kk : Nat} {tpos : Pos} (a e it : Addr) : Turn P w K (.Tuple elts kk tpos) (IteT K a) [e, it] e (fun i h => (∃ old, IsEnum h e it ((i : Nat) : Int) old) ∧ h.IsTupleIter it a i ∧ e ≠ it ∧ a ≠ it ∧ a ≠ e) where
  mem := by simp
  obj := fun i h st b hb => by
    obtain ⟨⟨old, he⟩, ⟨o, ho, hc, hd⟩, _⟩ := st
    rcases (show b = e ∨ b = it by simpa using hb) with z | z
    · (rw [z]; exact ⟨_, he, fun v q => (nomatch q)⟩)
    · exact ⟨o, by rw [z]; exact ho, fun v q => by rw [hd] at q; cases q⟩
  keep := fun i h h' st k => by
    obtain ⟨⟨old, he⟩, ⟨o, ho, r⟩, hne⟩ := st
    exact ⟨⟨old, k e (by simp) _ he⟩, ⟨o, k it (by simp) o ho, r⟩, hne⟩
  item := by
    intro X hP hw hK hc i pins s σ H E I hf st hg
    subst hP hw hK
    obtain ⟨⟨old, he⟩, hit, hne, hai, hae⟩ := st
    obtain ⟨xs, x, hq, hx⟩ := hg
    obtain ⟨its, rv, p, hz⟩ := I.tuple hq
    have hi : i < its.toArray.size := by
      have := (List.getElem?_eq_some_iff.mp hx).1
      rw [List.size_toArray, ← rv.length]
      exact this
    have hel : e < s.heap.objs.size := Heap.lt_size he
    have hil : it < s.heap.objs.size := by obtain ⟨_, q, _⟩ := hit; exact Heap.lt_size q
    refine wpAny_pyNext_enum_itemD (tupDraws (A := X.A.in1) (show X.A.in1.handled = none from I.ok.hd hc) it a hai its.toArray) he ⟨hit, p⟩ hi hne (by simp only [List.mem_cons, List.not_mem_nil, or_false]; rintro (z | z); exact hne z; exact hae z.symm) fun v h' tk hv ho hst hT hsz hk => ?_
    obtain ⟨hit', p'⟩ := hst
    refine ⟨_, rfl, wpAny_letOwnedTupleGo_enum (s := { s with heap := h', toks := tk + 1 }) ho fun h'' he' sb => ?_⟩
    have hT2 : h''.get? s.heap.objs.size = some { cls := .type "tuple", data := .seq #[.int i tk, v] } := (sb.2 _ (Nat.ne_of_gt hel)).trans hT
    have ru : L2.RelV x v := by
      obtain ⟨u, hu, ru⟩ := rv.get hx
      have : some u = some v := by rw [← hv, ← hu]; simp
      cases this
      exact ru
    have new : ObjOk X.prog X.w (upd H s.heap.objs.size (.tup [.int (i : Nat), x])) h'' s.heap.objs.size (.tup [.int (i : Nat), x]) := ⟨by show 2 ≤ sizeLine; decide, [.int i tk, v], .cons ⟨_, rfl⟩ (.cons ru .nil), ⟨_, hT2, rfl, _, rfl⟩⟩
    have I1 : Inv X pins σ (upd H s.heap.objs.size (.tup [.int (i : Nat), x])) { s with heap := h'', toks := tk + 1 } := I.turnedNew (ch := [e, it]) (fun b ob hb q => (sb.2 b (fun z => hb (by simp [z]))).trans (hk b ob (fun z => hb (by simp [z])) (fun z => hb (by simp [z])) q)) hf (Nat.le_refl _) new
    refine ⟨.ref s.heap.objs.size, _, I1, rfl, ⟨_, x, rfl, I.hok.fresh (Nat.le_refl _), rfl, fun ys hy => by rw [I.tuple_inj hy hq]; exact hx⟩, ⟨⟨v, ?_⟩, ?_, hne, hai, hae⟩, fun b hb => ?_⟩
    · have e1 : ((i + 1 : Nat) : Int) = (i : Int) + 1 := by omega
      rw [e1]
      exact he'
    · obtain ⟨o, ho2, r⟩ := hit'
      exact ⟨o, (sb.2 it (Ne.symm hne)).trans ho2, r⟩
    · have hb' : b < s.heap.objs.size := by rcases (show b = e ∨ b = it by simpa using hb) with z | z <;> (rw [z]; assumption)
      rw [upd_ne (Nat.ne_of_lt hb')]
      exact (hf b hb).1
  done := by
    intro X hP hw hK hc i pins s σ H E I hf st hg
    subst hP hw hK
    obtain ⟨⟨old, he⟩, hit, hne, hai, hae⟩ := st
    obtain ⟨xs, hq, hx⟩ := hg
    obtain ⟨its, rv, p, hz⟩ := I.tuple hq
    obtain ⟨f0, f1, f2, f3, f4, f5⟩ := hf it (by simp)
    have hl := rv.length
    have D : Draws X.prog X.w X.A.in1 it [it, a] i (fun _ _ => True) (fun j h => j = i ∧ h.IsTupleIter it a i ∧ h.IsTuple a its.toArray) := ⟨fun j h st => by
        obtain ⟨_, ⟨o, ho, _⟩, _⟩ := st
        exact ⟨o, ho⟩, fun j h h' st k => by
        obtain ⟨h0, ⟨o, ho, r⟩, ⟨o2, ho2, r2⟩⟩ := st
        exact ⟨h0, ⟨o, k it (by simp) o ho, r⟩, ⟨o2, k a (by simp) o2 ho2, r2⟩⟩, fun j s Q E hj st hQ => absurd st.1 (Nat.ne_of_lt hj), fun s Q E st hE => tupNext_end (show X.A.in1.handled = none from I.ok.hd hc) st.2.1 st.2.2 (by simp; omega) hE⟩
    exact wpAny_pyNext_enum_endD D he ⟨rfl, hit, p⟩ fun h' eb => ⟨rfl, I.turned (t' := s.toks) (fun b o hb q => eb b o hb q) f0 f1 f3 f4 f5⟩
  self := fun A i s Q E st h => let ⟨⟨_, he⟩, _⟩ := st; wpAny_pyIter_enum he h
end Ev

set_option Elab.async false
set_option linter.all false
set_option maxRecDepth 100000
set_option maxHeartbeats 400000
/-! X4b: enumerate as data; gcd; constants of the module. -/
namespace Ev
open PySem PySem.Spec PyProof.Rows L2 NdefX
/-! ### enumerate as data -/
def itEnum (f : ItF) : ItF := fun i h => match f i h with
  | some (some d) => some (some (.tup [.int (i : Nat), d]))
  | some none => some none
  | none => none
def gEnum : List D → VH → Option ItF := fun ds h => match ds with
  | [.tup xs] => some (itEnum (itTup xs))
  | [.ref k] => if (lstAt h k).isSome then some (itEnum (itLst k)) else none
  | _ => none
section
variable {G : Gd} {H : Hp} {ρ : Nat → Addr} {h : VH}
theorem itr_enumT {a : Addr} {xs : List V} {ds : List D} (ok : VOk G H ρ h) (hq : SqT G.K H a xs) (t : RpA G H ρ h.length ds xs) : ItR G ρ h H (IteT G.K a) (itEnum (itTup ds)) where
  stop := fun i ρ' h' H' s e => by
    unfold itEnum itTup at e
    cases z : ds[i]? with
    | none => exact ⟨xs, (s.kp ok).sqT hq, by rw [← t.length]; exact List.getElem?_eq_none_iff.mp z⟩
    | some d => rw [z] at e; cases e
  go := fun i ρ' h' H' d s e => by
    unfold itEnum itTup at e
    cases z : ds[i]? with
    | none => rw [z] at e; cases e
    | some d =>
      obtain ⟨v, ev, _⟩ := t.get z
      exact ⟨xs, v, (s.kp ok).sqT hq, ev⟩
  yld := fun i ρ' h' H' d x H'' s e y => by
    unfold itEnum itTup at e
    cases z : ds[i]? with
    | none => rw [z] at e; cases e
    | some d1 =>
      rw [z] at e
      cases e
      obtain ⟨T, v, rfl, hT, rfl, hv⟩ := y
      obtain ⟨u, eu, ru⟩ := (s.rpA ok t).get z
      have := hv xs ((s.kp ok).sqT hq)
      rw [eu] at this
      obtain rfl : u = v := Option.some.inj this
      have s2 := Stp.new (o := .tup [.int (i : Nat), u]) s.ok hT
      exact ⟨ρ', s2, .tup (.of upd_same) (.cons (.int _) (.cons (s2.rp s.ok ru) .nil))⟩
theorem itr_enumL {k : Nat} (ok : VOk G H ρ h) (hk : k < h.length) : ItR G ρ h H (Ite G.K (ρ k)) (itEnum (itLst k)) where
  stop := fun i ρ' h' H' s e => by
    unfold itEnum itLst at e
    cases z : lstAt h' k with
    | none => rw [z] at e; cases e
    | some ds =>
      obtain ⟨xs, e1, t1, _⟩ := s.ok.lst z
      rw [s.agr k hk] at e1
      refine ⟨xs, .of e1, ?_⟩
      cases q : ds[i]? with
      | none => rw [← t1.length]; exact List.getElem?_eq_none_iff.mp q
      | some d => simp only [z, Option.map_some, q] at e; cases e
  go := fun i ρ' h' H' d s e => by
    unfold itEnum itLst at e
    cases z : lstAt h' k with
    | none => rw [z] at e; cases e
    | some ds =>
      obtain ⟨xs, e1, t1, _⟩ := s.ok.lst z
      rw [s.agr k hk] at e1
      cases q : ds[i]? with
      | none => simp only [z, Option.map_some, q] at e; cases e
      | some d =>
        obtain ⟨v, ev, _⟩ := t1.get q
        exact ⟨xs, v, .of e1, ev⟩
  yld := fun i ρ' h' H' d x H'' s e y => by
    unfold itEnum itLst at e
    cases z : lstAt h' k with
    | none => rw [z] at e; cases e
    | some ds =>
      obtain ⟨xs, e1, t1, _⟩ := s.ok.lst z
      rw [s.agr k hk] at e1
      cases q : ds[i]? with
      | none => simp only [z, Option.map_some, q] at e; cases e
      | some d1 =>
        simp only [z, Option.map_some, q, Option.some.injEq] at e
        subst e
        obtain ⟨T, v, rfl, hT, rfl, hv⟩ := y
        obtain ⟨u, eu, ru⟩ := t1.get q
        have := hv xs (.of e1)
        rw [eu] at this
        obtain rfl : u = v := Option.some.inj this
        have s2 := Stp.new (o := .tup [.int (i : Nat), u]) s.ok hT
        exact ⟨ρ', s2, .tup (.of upd_same) (.cons (.int _) (.cons (s2.rp s.ok ru) .nil))⟩
end
section
variable {X : Cx} {T : List NTab} {W : WX} {e a b : Expr} {es : List Expr} {ft : FA} {fa : FE} {xt : XA} {xa : XE} {pos p tpos : Pos} {elts : List Expr} {kk : Nat} {n : Str}
theorem i_enum (hg : Gl X "enumerate") (hm : X.mg "enumerate" = none) (ha : SA X T W [e] ft) (hs : starEach [e] X.env = [(false, eval e X.env)] := by rfl) : SI X T W (.Tuple elts kk tpos) (.Call (.Name "enumerate" p) [e] [] pos) (fIt gEnum ft) := by
  refine ⟨fIt_mono ha.m, ⟨fun pins s σ H R I q => ?_⟩⟩
  obtain ⟨ρ, env, h, m, hf⟩ := q
  refine Call_ (ld_blt I hg hm boot_enumerate (PyProof.Rows.callWith_type1 (thn (ha.p.run pos pins s σ H (fun vs H1 => (∃ a xs, vs = [.ref a] ∧ SqL X.K H1 a xs ∧ R (Ite X.K a) H1) ∨ ∃ a xs, vs = [.ref a] ∧ SqT X.K H1 a xs ∧ R (IteT X.K a) H1) I ⟨ρ, env, h, m, ha.m.mo (fun ds h1 q1 => ?_) (fun _ _ _ z => z) hf⟩) fun us s1 ⟨vs, H1, I1, r1, q1⟩ => ?_) hs rfl))
  · intro ρ1 vs H1 s1 r1
    unfold gEnum at q1
    match ds, r1, q1 with
    | [.tup xs], .cons (.tup hq t) .nil, q1 => exact .inr ⟨_, _, rfl, hq, q1 ρ1 _ H1 s1 (itr_enumT s1.ok hq t)⟩
    | [.ref k], .cons (.ref hk) .nil, q1 =>
      simp only at q1
      by_cases z : (lstAt h1 k).isSome = true
      · rw [if_pos z] at q1
        obtain ⟨ds, e⟩ := Option.isSome_iff_exists.mp z
        obtain ⟨xs, e1, _, _⟩ := s1.ok.lst e
        exact .inl ⟨_, xs, rfl, .of e1, q1 ρ1 _ H1 s1 (itr_enumL s1.ok hk)⟩
      · rw [if_neg z] at q1
        exact q1.elim
  · rcases q1 with ⟨a, xs, ex, hq, q⟩ | ⟨a, xs, ex, hq, q⟩
    · subst ex
      obtain ⟨its, rv, p', hz⟩ := I1.list hq
      cases r1 with
      | cons r rr =>
        cases rr
        cases r
        refine call_enumerate_list p'.isList fun h' he hit hsz hk => wpAny_pyIter_enum he ?_
        have I2 : Inv X pins σ H1 { s1 with heap := h' } := I1.kept (t' := s1.toks) hk
        refine ⟨s1.heap.objs.size + 1, [s1.heap.objs.size + 1, s1.heap.objs.size], _, _, H1, rfl, I2, turn_enum a (s1.heap.objs.size + 1) s1.heap.objs.size, ⟨⟨.none, he⟩, hit, Nat.succ_ne_self _⟩, fun b hb => ?_, q⟩
        have hle : s1.heap.objs.size ≤ b := by exact (show b = s1.heap.objs.size + 1 ∨ b = s1.heap.objs.size by simpa using hb).elim (fun z => z ▸ Nat.le_add_right _ _) fun z => z ▸ Nat.le_refl _
        exact I1.fpOk hle (I1.hok.fresh hle)
    · subst ex
      obtain ⟨its, rv, p', hz⟩ := I1.tuple hq
      cases r1 with
      | cons r rr =>
        cases rr
        cases r
        have hal : a < s1.heap.objs.size := (show s1.heap.IsTuple a its.toArray from p').elim fun o ho => Heap.lt_size ho.1
        refine tupEnum_call p' fun h' he hit hk => wpAny_pyIter_enum he ?_
        have I2 : Inv X pins σ H1 { s1 with heap := h' } := I1.kept (t' := s1.toks) hk
        refine ⟨s1.heap.objs.size + 1, [s1.heap.objs.size + 1, s1.heap.objs.size], _, _, H1, rfl, I2, turn_enumT a (s1.heap.objs.size + 1) s1.heap.objs.size, ⟨⟨.none, he⟩, hit, Nat.succ_ne_self _, Nat.ne_of_lt hal, Nat.ne_of_lt (Nat.lt_succ_of_lt hal)⟩, fun b hb => ?_, q⟩
        have hle : s1.heap.objs.size ≤ b := by exact (show b = s1.heap.objs.size + 1 ∨ b = s1.heap.objs.size by simpa using hb).elim (fun z => z ▸ Nat.le_add_right _ _) fun z => z ▸ Nat.le_refl _
        exact I1.fpOk hle (I1.hok.fresh hle)
theorem yi_enum (hg : Gl X "enumerate") (hm : X.mg "enumerate" = none) (ha : SA X T W [e] (la xt)) (hs : starEach [e] X.env = [(false, eval e X.env)] := by rfl) : SI X T W (.Tuple elts kk tpos) (.Call (.Name "enumerate" p) [e] [] pos) (li (xIt gEnum xt)) := (i_enum hg hm ha hs).tx (fIt_x la_x)
/-! ### gcd -/
def gGcd : FN := fun ds _ => match ds with
  | [.int a, .int b] => some (.val (.int ((Nat.gcd a.natAbs b.natAbs : Nat) : Int)))
  | _ => none
theorem cr_gcdD : CallR X (.builtin "math.gcd") (rOfN (gd X T) gGcd) := by
  intro pins s σ H vs us Q I r h
  obtain ⟨ρ, hh, ds, ok, ra, q⟩ := h
  unfold gGcd at q
  match ds, ra, q with
  | [.int a, .int b], .cons (.int _) (.cons (.int _) .nil), q => exact cr_gcd pins s σ H _ us Q I r ⟨a, b, rfl, fin_val ok (.int _) q⟩
theorem y_gcd (hg : Gl X n) (hm : X.mg n = some (.builtin "math.gcd")) (ha : SA X T W (e :: es) (la xt)) (hdb : (n == ("__debug__" : Str)) = false := by decide)
    (he : starEach (e :: es) X.env = (false, eval e X.env) :: starEach es X.env := by rfl) (hpl : (backTo pos (starEach es X.env)).any (·.1) = false := by rfl) : SE X T W (.Call (.Name n p) (e :: es) [] pos) (lx (xFN gGcd xt)) :=
  (show SE X T W (.Call (.Name n p) (e :: es) [] pos) (fFN gGcd (la xt)) from ⟨fFN_mono ha.m, PE.imp (pe_callBfun cr_gcdD hg hm ha.p hdb he hpl) fun _ _ _ q => lE_fn ha.m q⟩).tx (fFN_x la_x)
/-! ### constants of the module -/
/-- a value of the written part is this data -/
inductive DatK (K : PySem.W.Frag) : Value → D → Prop
  | non : DatK K .none .non
  | bl (b : Bool) : DatK K (.bool b) (.bl b)
  | int (i : Int) (t : Tok) : DatK K (.int i t) (.int i)
  | str (x : Str) (t : Tok) : DatK K (.str x t) (.str x)
  | tup {a : Addr} {o : Obj} {its : Array Value} {m : Nat} {ds : List D} : K.lookup a = some o → o.cls = .type "tuple" → o.data = .seq its m → its.size ≤ sizeLine → ds.length = its.toList.length → (∀ (i : Nat) (v : Value) (d : D), its.toList[i]? = some v → ds[i]? = some d → DatK K v d) → DatK K (.ref a) (.tup ds)
def datB (K : PySem.W.Frag) : Nat → Value → D → Bool
  | _, .none, .non => true
  | _, .bool b, .bl c => b == c
  | _, .int i _, .int j => decide (i = j)
  | _, .str x _, .str y => decide (x = y)
  | n + 1, .ref a, .tup ds => (match K.lookup a with
    | some ⟨.type c, _, .seq its _, _⟩ => decide (c = "tuple") && (decide (its.size ≤ sizeLine) && (decide (ds.length = its.toList.length) && (its.toList.zip ds).all fun p => datB K n p.1 p.2))
    | _ => false)
  | _, _, _ => false
theorem datB_ok {K : PySem.W.Frag} : ∀ (n : Nat) (v : Value) (d : D), datB K n v d = true → DatK K v d := by
  intro n
  induction n with
  | zero =>
    intro v d h
    unfold datB at h
    split at h
    · exact .non
    · rw [beq_iff_eq.mp h]; exact .bl _
    · rw [of_decide_eq_true h]; exact .int _ _
    · rw [of_decide_eq_true h]; exact .str _ _
    · rename_i z; exact nomatch z
    · cases h
  | succ n ih =>
    intro v d h
    unfold datB at h
    split at h
    · exact .non
    · rw [beq_iff_eq.mp h]; exact .bl _
    · rw [of_decide_eq_true h]; exact .int _ _
    · rw [of_decide_eq_true h]; exact .str _ _
    · rename_i n' a ds z
      cases z
      split at h
      · rename_i c x1 its x2 x3 e
        simp only [Bool.and_eq_true, decide_eq_true_eq, List.all_eq_true] at h
        obtain ⟨h1, h2, h3, h4⟩ := h
        refine .tup e (congrArg Value.type h1) rfl h2 h3 fun i v d e1 e2 => ih v d (h4 (v, d) ?_)
        have : (its.toList.zip ds)[i]? = some (v, d) := by rw [List.getElem?_zip_eq_some]; exact ⟨e1, e2⟩
        exact List.mem_of_getElem? this
      · cases h
    · cases h
/-- what it is as a value of the layer -/
theorem datK_v {G : Gd} {v : Value} {d : D} (h : DatK G.K v d) : ∃ u : V, L2.RelV u v ∧ ∀ H ρ n, Rp G H ρ n d u := by
  induction h with
  | non => exact ⟨.non, rfl, fun _ _ _ => .non⟩
  | bl b => exact ⟨.bl b, rfl, fun _ _ _ => .bl b⟩
  | int i t => exact ⟨.int i, ⟨t, rfl⟩, fun _ _ _ => .int i⟩
  | str x t => exact ⟨.str x, ⟨t, rfl⟩, fun _ _ _ => .str x⟩
  | @tup a o its m ds e1 e2 e3 e4 e5 _ ih =>
    have key : ∀ (l : List Value) (ds : List D), ds.length = l.length → (∀ (i : Nat) (v : Value) (d : D), l[i]? = some v → ds[i]? = some d → ∃ u : V, L2.RelV u v ∧ ∀ H ρ n, Rp G H ρ n d u) → ∃ us : List V, Vals us l ∧ ∀ H ρ n, RpA G H ρ n ds us := by
      intro l
      induction l with
      | nil =>
        intro ds hl _
        cases ds with
        | nil => exact ⟨[], .nil, fun _ _ _ => .nil⟩
        | cons d ds => simp at hl
      | cons v l ihl =>
        intro ds hl hh
        cases ds with
        | nil => simp at hl
        | cons d ds =>
          obtain ⟨u, r1, r2⟩ := hh 0 v d rfl rfl
          obtain ⟨us, q1, q2⟩ := ihl ds (by simpa using hl) fun i v d e1 e2 => hh (i + 1) v d (by simpa using e1) (by simpa using e2)
          exact ⟨u :: us, .cons r1 q1, fun H ρ n => .cons (r2 H ρ n) (q2 H ρ n)⟩
    obtain ⟨us, q1, q2⟩ := key its.toList ds e5 ih
    exact ⟨.ref a, rfl, fun H ρ n => .tup (.inr ⟨o, its, m, e1, e2, e3, e4, q1⟩) (q2 H ρ n)⟩
theorem y_con {d : D} (hg : Gl X n) (hm : ∃ v, X.mg n = some v ∧ DatK X.K v d) (hd : (n == ("__debug__" : Str)) = false := by decide) : SE X T W (.Name n p) (lx (xLit d)) := by
  obtain ⟨v, hm, hk⟩ := hm
  obtain ⟨u, r1, r2⟩ := datK_v (G := gd X T) hk
  exact (show SE X T W (.Name n p) (fLit d) from ⟨fLit_mono, se_const (pe_glob (v := u) hg hm r1 hd) fun H ρ n => r2 H ρ n⟩).tx fLit_x
end
end Ev

set_option Elab.async false
set_option linter.all false
set_option maxRecDepth 100000
set_option maxHeartbeats 400000
/-! X5: x is True; isinstance of own exceptions. -/
namespace Ev
open PySem PySem.Spec PyProof.Rows L2 NdefX
def gIsB (neg : Bool) : F2 := fun x y _ => match y with
  | .bl b => some (.val (.bl (match x with
    | .bl a => if neg then !decide (a = b) else decide (a = b)
    | _ => neg)))
  | _ => none
section
variable {X : Cx} {T : List NTab} {W : WX} {e a b : Expr} {es : List Expr} {xt : XA} {xa xb : XE} {pos p p2 : Pos} {n : Str}
theorem or_isB (neg : Bool) : OpR X (compareOp (if neg then .IsNot else .Is)) (rOf (gd X T) (gIsB neg)) := by
  intro pins s σ H x y v u Q I rx ry ⟨ρ, h, dx, dy, ok, r1, r2, hf⟩
  cases r2 with
  | bl c =>
    cases (show u = Value.bool c from ry)
    have key : ∀ (hp : plainIs v (.bool c) = true) (k : Bool), (v == .bool c) = k → (QV (gd X T) ρ h H Q (.bl (if neg then !k else k)) h) → wpAny (model X.prog X.w) X.A (compareOp (if neg then .IsNot else .Is) v (.bool c)) (EP X pins σ Q) X.xe s := fun hp k hk q => by
      cases neg with
      | false => exact wpAny_is_plain hp (by rw [hk]; exact ⟨.bl k, H, I, rfl, fin_val ok (.bl _) q⟩)
      | true => exact wpAny_isNot_plain hp (by rw [hk]; exact ⟨.bl _, H, I, rfl, fin_val ok (.bl _) q⟩)
    cases r1 with
    | bl d =>
      cases (show v = Value.bool d from rx)
      refine key rfl (decide (d = c)) ?_ ?_
      · cases d <;> cases c <;> rfl
      · cases neg <;> exact hf
    | non => cases rx; exact key rfl false rfl (by cases neg <;> exact hf)
    | int i => obtain ⟨t, rfl⟩ := rx; exact key rfl false rfl (by cases neg <;> exact hf)
    | str i => obtain ⟨t, rfl⟩ := rx; exact key rfl false rfl (by cases neg <;> exact hf)
    | ty t => cases rx; exact key rfl false rfl (by cases neg <;> exact hf)
    | _ => cases rx; exact key rfl false rfl (by cases neg <;> exact hf)
  | _ => exact hf.elim
theorem y_isB {k : Bool} {j pos'} (ha : SE X T W a (lx xa)) : SE X T W (.Compare a [.Is] [.Constant (.bool k) j pos'] p) (lx (xBin (gIsB false) xa (xLit (.bl k)))) :=
  (show SE X T W _ (fBin (gIsB false) (lx xa) (lx (xLit (.bl k)))) from ⟨fBin_mono ha.m lx_mono, PE.imp (pe_cmpR (or_isB (T := T) false) ha.p (y_bl (T := T) (W := W)).p (by first | rfl | exact nomark _)) fun _ _ _ q => lE_bin ha.m lx_mono q⟩).tx (fBin_x lx_x lx_x)
theorem yt_isB {k : Bool} {j pos'} (ha : SE X T W a (lx xa)) : ST X T W (.Compare a [.Is] [.Constant (.bool k) j pos'] p) (lx (xBin (gIsB false) xa (xLit (.bl k)))) :=
  (show ST X T W _ (fBin (gIsB false) (lx xa) (lx (xLit (.bl k)))) from ⟨fBin_mono ha.m lx_mono, PT.imp (pt_cmpR (or_isB (T := T) false) ha.p (y_bl (T := T) (W := W)).p (by first | rfl | exact nomark _)) fun _ _ _ q => lE_bin ha.m lx_mono (lT_of (fBin_mono ha.m lx_mono) q)⟩).tx (fBin_x lx_x lx_x)
end
/-! ### isinstance(e, C), e an own exception -/
structure ExK (K : PySem.W.Frag) (C : Addr) : Prop where
  hcl : (PySem.W.clsIn K C).isSome = true
  hga : PySem.W.findIn K (.ref C) "__getattribute__" = some (some (.builtin "BaseException.__getattribute__"))
  hgt : ∃ gt, PySem.W.findIn K (.ref C) "__getattr__" = some gt
  hsub : PySem.W.subIn K (.ref C) (.type "BaseException") = some true
  ha : PySem.W.findIn K (.ref C) "__class__" = some (some (.builtin "object.__class__"))
  hn : PySem.W.specialIn K (.builtin "object.__class__") "__get__" = some (some (.builtin "getset_descriptor.__get__"))
  htk : PySem.W.takesIn K (.builtin "object.__class__") = some true
  hm : PySem.W.mroIn K C (.type "object") = some true
def exkB (K : PySem.W.Frag) (C : Addr) : Bool := (PySem.W.clsIn K C).isSome && (decide (PySem.W.findIn K (.ref C) "__getattribute__" = some (some (.builtin "BaseException.__getattribute__"))) && ((PySem.W.findIn K (.ref C) "__getattr__").isSome && (decide (PySem.W.subIn K (.ref C) (.type "BaseException") = some true) && (decide (PySem.W.findIn K (.ref C) "__class__" = some (some (.builtin "object.__class__"))) &&
  (decide (PySem.W.specialIn K (.builtin "object.__class__") "__get__" = some (some (.builtin "getset_descriptor.__get__"))) && (decide (PySem.W.takesIn K (.builtin "object.__class__") = some true) && decide (PySem.W.mroIn K C (.type "object") = some true)))))))
theorem exkB_ok {K : PySem.W.Frag} {C : Addr} (h : exkB K C = true) : ExK K C := by
  unfold exkB at h
  simp only [Bool.and_eq_true, decide_eq_true_eq] at h
  obtain ⟨h1, h2, h3, h4, h5, h6, h7, h8⟩ := h
  exact ⟨h1, h2, Option.isSome_iff_exists.mp h3, h4, h5, h6, h7, h8⟩
section
variable {X : Cx} {T : List NTab} {W : WX} {e a b : Expr} {xa : XE} {fa : FE} {pos p p2 : Pos} {n : Str} {sub : SubF}
def rIsX (K : PySem.W.Frag) : List V → Hp → VK → Prop := fun vs H Q => ∃ (a C dx : Addr) (oe : Obj) (u : HO) (w v : V) (cv : Value) (b : Bool), vs = [.ref a, v] ∧ H a = some (.frz oe u) ∧ oe.cls = .ref C ∧ oe.dict = some dx ∧ (∃ fs, oe.data = .fields fs) ∧ H dx = some (.xd [("value", w)]) ∧ ExK K C ∧ (∀ u, L2.RelV v u → u = cv) ∧ PySem.W.kitOne K (.ref C) cv = some b ∧ Q (.bl b) H
theorem call_isx : CallR X (.builtin "isinstance") (rIsX X.K) := by
  intro pins s σ H xs us Q I r h
  obtain ⟨a, C, dx, oe, u, w, v, cv, b, rfl, ha, hc, hdx, ⟨fs, hd⟩, ea, Ex, hcv, hk, q⟩ := h
  cases r with
  | cons rx rr =>
    cases rr with
    | cons rt rr =>
      cases rr
      cases rx
      have ec := hcv _ rt
      subst ec
      obtain ⟨hga, _⟩ := (show ObjOk X.prog X.w H s.heap a (.frz oe u) from I.hok a _ ha)
      have hx : ObjOk X.prog X.w H s.heap dx (.xd [("value", w)]) := I.hok dx _ ea
      obtain ⟨mA, hns, hr⟩ := hx
      obtain ⟨od, ho, hl⟩ := lookIn_ns hns
      have J : PySem.W.InstAt s.heap a oe C (some od) := ⟨hga, hc, by unfold PySem.W.notCls; rw [hd] <;> rfl, by rw [hdx]; exact ho⟩
      obtain ⟨gt, hgt⟩ := Ex.hgt
      exact PySem.W.kia_one (PySem.W.kitx_exc Ex.hcl Ex.hga hgt Ex.hsub Ex.ha Ex.hn Ex.htk Ex.hm) I.kIn J hk (fun z => nomatch z) fun tk => ⟨.bl b, H, I.kept (t' := tk) fun _ _ z => z, rfl, q⟩
/-- a class in isinstance's second place -/
structure ClN (X : Cx) (e : Expr) (cv : Value) : Prop where
  ex : ∃ v : V, PE X e (tC v) ∧ ∀ u, L2.RelV v u → u = cv
theorem cl_own {C : Addr} (hg : Gl X n) (hm : X.mg n = some (.ref C)) (hd : (n == ("__debug__" : Str)) = false := by decide) : ClN X (.Name n p) (.ref C) := ⟨.ref C, pe_glob (v := .ref C) hg hm rfl hd, fun u r => by cases r; rfl⟩
theorem cl_blt {t : String} (hb : bootBuiltins n = some (.type t)) (hg : Gl X n) (hm : X.mg n = none) (hn : n ≠ "__name__" := by decide) (hdb : (n == ("__debug__" : Str)) = false := by decide) : ClN X (.Name n p) (.type t) := ⟨.ty t, pe_bltn hg hm hb rfl hn hdb, fun u r => by cases r; rfl⟩
def fIsx (sub : SubF) (fa : FE) : FE := fun env h Q E => fa env h (fun x h1 => match x with
  | .exn c _ => (match sub c with
    | some b => Q (.bl b) h1
    | none => False)
  | _ => False) E
theorem fIsx_mono (ma : MonE fa) : MonE (fIsx sub fa) := ⟨fun kQ kE q => ma.mo (fun x h1 z => by
  cases x with
  | exn c d =>
    simp only at z ⊢
    cases e : sub c with
    | none => rw [e] at z; exact z
    | some b => rw [e] at z; exact kQ _ _ z
  | _ => exact z) kE q⟩
def xIsx (sub : SubF) (fa : XE) : XE := fun env h => (fa env h).bd fun x h1 => match x with
  | .exn c _ => (match sub c with
    | some b => .ok (.bl b) h1
    | none => .no)
  | _ => .no
theorem fIsx_x (A : Xe fa xa) : Xe (fIsx sub fa) (xIsx sub xa) := ⟨fun q => A.ok (R.go q fun x h1 q => by
  cases x with
  | exn c d =>
    simp only at q ⊢
    cases e : sub c with
    | none => rw [e] at q; exact q
    | some b => rw [e] at q; exact q
  | _ => exact q)⟩
theorem e_isx {cv : Value} (hg : Gl X "isinstance") (hm : X.mg "isinstance" = none) (hs : ∀ c b, sub c = some b → ∀ C, X.mg c = some (.ref C) → ExK X.K C ∧ PySem.W.kitOne X.K (.ref C) cv = some b) (ha : SE X T W a fa) (hb : ClN X b cv)
    (he : starEach [a, b] X.env = (false, eval a X.env) :: starEach [b] X.env := by rfl) (hb' : starEach [b] X.env = (false, eval b X.env) :: starEach [] X.env := by rfl) (hpl : (backTo pos (starEach [b] X.env)).any (·.1) = false := by rfl) : SE X T W (.Call (.Name "isinstance" p) [a, b] [] pos) (fIsx sub fa) := by
  obtain ⟨v, hv, hcv⟩ := hb.ex
  refine ⟨fIsx_mono ha.m, PE.imp (pe_callB call_isx hg hm (by decide +kernel) (pa_cons ha.p (pa_cons hv pa_nil hb') he) (by decide) (by decide) he hpl) fun σ H Q q => ?_⟩
  obtain ⟨ρ, env, h, m, hf⟩ := q
  refine ⟨ρ, env, h, m, ha.m.mo (fun x h1 q1 => ?_) (fun _ _ _ z => z) hf⟩
  intro ρ1 y H1 s1 r1
  cases r1 with
  | exn h1 h2 h3 h4 h5 h6 r =>
    simp only at q1
    split at q1
    · rename_i b e
      obtain ⟨k1, k2⟩ := hs _ b e _ h1
      exact ⟨_, _, _, _, _, _, v, cv, b, rfl, h2, h3, h4, h5, h6, k1, hcv, k2, q1 ρ1 _ H1 s1 (.bl _)⟩
    · exact q1.elim
  | _ => exact q1.elim
theorem y_isx {cv : Value} (hg : Gl X "isinstance") (hm : X.mg "isinstance" = none) (hs : ∀ c b, sub c = some b → ∀ C, X.mg c = some (.ref C) → ExK X.K C ∧ PySem.W.kitOne X.K (.ref C) cv = some b) (ha : SE X T W a (lx xa)) (hb : ClN X b cv)
    (he : starEach [a, b] X.env = (false, eval a X.env) :: starEach [b] X.env := by rfl) (hb' : starEach [b] X.env = (false, eval b X.env) :: starEach [] X.env := by rfl) (hpl : (backTo pos (starEach [b] X.env)).any (·.1) = false := by rfl) : SE X T W (.Call (.Name "isinstance" p) [a, b] [] pos) (lx (xIsx sub xa)) := (e_isx hg hm hs ha hb he hb' hpl).tx (fIsx_x lx_x)
end
end Ev

set_option Elab.async false
set_option linter.all false
set_option maxRecDepth 100000
set_option maxHeartbeats 0
/-! X8: the draws and the comparison that all laws share, with meanings that compute. -/
namespace Ev
open PySem PySem.Spec PyProof.Rows L2 NdefX
noncomputable def xb_pot : XS := (xsRet (xBin gAdd (xLst (xCons (xLit (.int 0)) (xCons (xLit (.int 12582917)) (xCons (xLit (.int 0)) (xCons (xLit (.int 4)) xNil))))) (xFN gList (xCons (xVar 0) xNil))))
noncomputable def xb_take1 : XS := (xsIf (xAnd (xBin gEq (xBin gIx (xVar 0) (xLit (.int 0))) (xLit (.int 0))) (xBin gLt (xBin gIx (xVar 0) (xLit (.int 3))) (xFN gLen (xCons (xVar 0) xNil)))) (xsSeq (xsAsg (xBin gIx (xVar 0) (xBin gIx (xVar 0) (xLit (.int 3)))) (.nm 2)) (xsSeq (xsAugS (xVar 0) (xLit (.int 3)) .add (xLit (.int 1))) (xsIf (xBin gGe (xVar 2) (xBin gPow (xLit (.int 10)) (xLit (.int 18)))) (xsSet (xVar 0) (xLit (.int 0)) (xBin gSub (xVar 2) (xBin gPow (xLit (.int 10)) (xLit (.int 18))))) (xsSet (xVar 0) (xLit (.int 1)) (xBin gMod (xFN gInt (xCons (xBin gAdd (xBin gMul (xBin gAdd (xBin gIx (xVar 0) (xLit (.int 1))) (xBin gMul (xLit (.int 7)) (xVar 2))) (xLit (.int 3145739))) (xBin gMul (xLit (.int 769)) (xBin gIx (xVar 0) (xLit (.int 3))))) xNil)) (xLit (.int 2305843009213693907))))))) xsNil)
noncomputable def xb_take2 : XS := (xsSeq (xsIf (xBin gGt (xBin gIx (xVar 0) (xLit (.int 0))) (xLit (.int 0))) (xsSeq (xsAsg (xBin gMod (xFN gInt (xCons (xBin gIx (xVar 0) (xLit (.int 0))) xNil)) (xVar 1)) (.nm 3)) (xsSeq (xsSet (xVar 0) (xLit (.int 0)) (xBin gDiv (xBin gIx (xVar 0) (xLit (.int 0))) (xVar 1))) (xsRet (xVar 3)))) xsNil) (xsSeq (xsAugS (xVar 0) (xLit (.int 2)) .add (xLit (.int 1))) (xsSeq (xsAsg (xBin gMod (xFN gInt (xCons (xBin gPow (xBin gAdd (xBin gIx (xVar 0) (xLit (.int 1))) (xBin gMul (xLit (.int 1572869)) (xBin gIx (xVar 0) (xLit (.int 2))))) (xLit (.int 3))) xNil)) (xLit (.int 2305843009213693907))) (.nm 4)) (xsSeq (xsAsg (xBin gMod (xFN gInt (xCons (xBin gPow (xBin gAdd (xVar 4) (xBin gMul (xLit (.int 389)) (xBin gIx (xVar 0) (xLit (.int 2))))) (xLit (.int 2))) xNil)) (xLit (.int 999999999999999877))) (.nm 4)) (xsRet (xBin gMod (xFN gInt (xCons (xBin gDiv (xVar 4) (xLit (.int 16))) xNil)) (xVar 1)))))))
noncomputable def xb_take : XS := xsSeq xb_take1 xb_take2
noncomputable def xb_same (F : Nat) (sp : XSp) : XS := (xsSeq (xsIf (xIsN false (xVar 1)) (xsRet (xIsN false (xVar 0))) xsNil) (xsSeq (xsIf (xIsi (xVar 1) [.bl, .str]) (xsRet (xAnd (xBin gEq (xIsi (xVar 0) [.bl]) (xIsi (xVar 1) [.bl])) (xAnd (xIsi (xVar 0) [.bl, .str]) (xBin gEq (xVar 0) (xVar 1))))) xsNil) (xsSeq (xsIf (xIsi (xVar 1) [.int]) (xsRet (xAnd (xIsi (xVar 0) [.int]) (xAnd (xNot (xIsi (xVar 0) [.bl])) (xBin gEq (xVar 0) (xVar 1))))) xsNil) (xsSeq (xsIf (xOr (xBin gNe (xIsi (xVar 1) [.lst]) (xIsi (xVar 0) [.lst])) (xBin gNe (xIsi (xVar 1) [.tup]) (xIsi (xVar 0) [.tup]))) (xsRet (xLit (.bl false))) xsNil) (xsRet (xAnd (xBin gEq (xFN gLen (xCons (xVar 0) xNil)) (xFN gLen (xCons (xVar 1) xNil))) (xFC cAll (xComp F (xIt gRange1 (xCons (xFN gLen (xCons (xVar 1) xNil)) xNil)) (.nm 2) [2] none (xCall sp (xCons (xBin gIx (xVar 0) (xVar 2)) (xCons (xBin gIx (xVar 1) (xVar 2)) xNil)))))))))))
noncomputable def xp_pot : XSp := fnX 1 1 xb_pot
noncomputable def xp_take : XSp := fnX 2 5 xb_take
noncomputable def xp_same (F : Nat) : Nat → XSp
  | 0 => xpNo
  | n + 1 => fnX 2 3 (xb_same F (xp_same F n))
/-! ### steps -/
theorem xseq_ {a b : XS} {env : Env} {h : VH} {D : ED} (H : ∀ D' : ED, (∀ e h1, D'.nx e h1 = (b e h1).to D) → D'.rt = D.rt → D'.bk = D.bk → D'.ct = D.ct → D'.ex = D.ex → (a env h).to D') : (xsSeq a b env h).to D := by
  have q := H { D with nx := fun e h1 => (b e h1).to D } (fun _ _ => rfl) rfl rfl rfl rfl
  show (match a env h with | .nx e h1 => b e h1 | r => r : RS).to D
  revert q
  cases a env h <;> exact id
theorem RS.to_fn {r : RS} {Q : PQ} {E : PX} (q : r.to (fnD Q E)) : r.fn.to Q E := by
  cases r <;> exact q
theorem fnX_of {n k : Nat} {b : XS} {ds : List D} {h : VH} {Q : PQ} {E : PX} (hl : lenIs ds n = true) (H : (b (envOf k ds) h).to (fnD Q E)) : (fnX n k b ds h).to Q E := by
  unfold fnX
  rw [hl]
  exact RS.to_fn H
theorem fnA_of {n k : Nat} {b : XS} {ds : List D} {h : VH} {Q : PQ} {E : PX} (hl : lenIs ds n = true) (hf : freeA ds = false) (H : (b (envOf k ds) h).to (fnD Q E)) : (fnA n k b ds h).to Q E := by
  unfold fnA
  rw [hl, hf]
  exact RS.to_fn H
theorem fnA_free {n k : Nat} {b : XS} {ds : List D} {h : VH} {Q : PQ} {E : PX} (hl : lenIs ds n = true) (hf : freeA ds = true) (H : (b (envOf k ds) []).to (fnD (fun d g => free d = true ∧ Q d h) (fun c d g => free d = true ∧ E c d h))) : (fnA n k b ds h).to Q E := by
  unfold fnA
  rw [hl, hf]
  have q := RS.to_fn H
  revert q
  show (b (envOf k ds) []).fn.to _ _ → ((b (envOf k ds) []).fn.au h).to Q E
  cases (b (envOf k ds) []).fn with
  | ok d g =>
    intro q
    show ((match free d with | true => .ok d h | false => (R.ok d g).sh h : R D)).to Q E
    rw [q.1]
    exact q.2
  | ex c d g =>
    intro q
    show ((match free d with | true => .ex c d h | false => (R.ex c d g).sh h : R D)).to Q E
    rw [q.1]
    exact q.2
  | no => exact id
theorem fnP_of {n k : Nat} {b : XS} {ds : List D} {d : D} {h : VH} (hl : lenIs ds n = true) (hf : freeA ds = true) (H : b (envOf k ds) [] = .rt d h) (hd : free d = true) : fnP n k b ds = .val d := by
  unfold fnP
  rw [hl, hf, H]
  show RP.chk true (RP.chk (free d) (.val d)) = _
  rw [hd] <;> rfl
/-- what a draw from a pot without a number in hand gives -/
theorem xtake_tail {h : VH} {kk c : Nat} {many i j k p : Int} {cells : List Int} {Q : PQ} {E : PX} {z : Option D} (hk : kk < h.length) (C : PotC c i j k p) (hc : c ≤ 1000000) (hl : cells.length ≤ 1000) (hm : 0 < many) (hm2 : many.natAbs.log2 < 8000)
    (hQ : ∀ v h', 0 ≤ v → v < many → h'.length = h.length → (∀ l, l ≠ kk → lstAt h' l = lstAt h l) → PotAt h' kk (c + 1) → Q (.int v) h') :
    (xb_take2 [some (.ref kk), some (.int many), z, none, none] (h.set kk (.lst (potL i j k p cells)))).to (fnD Q E) := by
  obtain ⟨i0, j0, j1, k0, k1, p0⟩ := C
  have L : ∀ ds : List D, lstAt (h.set kk (.lst ds)) kk = some ds := fun ds => lstAt_set hk
  have I0 := fun i j k p => gIx_l (i := 0) (L (potL i j k p cells)) pot_0
  have I1 := fun i j k p => gIx_l (i := 1) (L (potL i j k p cells)) pot_1
  have I2 := fun i j k p => gIx_l (i := 2) (L (potL i j k p cells)) pot_2
  have J2 := fun i j k p => gIxL_l (i := 2) (L (potL i j k p cells)) pot_2
  have S0 := fun i j k p v => ps0 (v := v) (L (potL i j k p cells))
  have S2 := fun i j k p v => ps2 (v := v) (L (potL i j k p cells))
  have fin : ∀ i' k' v, 0 ≤ i' → 0 ≤ k' → k' ≤ (c : Int) + 1 → 0 ≤ v → v < many → Q (.int v) (h.set kk (.lst (potL i' j k' p cells))) := fun i' k' v a1 a2 a3 a4 a5 =>
    hQ v _ a4 a5 List.length_set (fun l hl => lstAt_ne hl.symm) ⟨i', j, k', p, cells, L _, ⟨a1, j0, j1, a2, by omega, p0⟩, hl⟩
  unfold xb_take2
  refine xseq_ fun D hn hr hb hc' hx => ?_
  by_cases hi : 0 < i
  · simp only [xsAsg, xsPar, xsIf, xsRet, xsRetN, xsExp, xsSet, xsAug, xsAugS, xsBrk, xsCnt, xsRaise, xsNil, exE, xVar, xLit, xNeg, xIsN, xBin, xChain, xAnd, xOr, xNot, xIte, xNil, xCons, xTup, xLst, xFN, xMt, xIsi, xIsx, xCall, xSl1, xRev, xNewL, xFC, xXv, xIt, xSeq, nth, R.bd, R.sb, RS.to, R.to, xto, xtoH, xfin, xfinE, xck, frcD_eq, frcD1_eq, frcN_eq, frcI_eq, frcL_eq, frcDs_eq, lay_eq, put_eq, gAdd_i, gAdd_s, gSub_i, gEq_i, gEq_b, gNe_i, gNe_b, gLt_i, gLe_i, gGt_i, gGe_i, gInt_i, gInt_b, gInp_a, gInp_s, gLen_t, gTuple_t, gList_t, asgT, asgL, tyD, Ev.isNon, gRange1_i, Ty.isa, List.getElem?_cons_zero, List.getElem?_cons_succ, List.set_cons_zero, List.set_cons_succ, List.map_cons, List.map_nil, List.cons_append, List.nil_append, List.any_cons, List.any_nil, Option.map_some, Option.map_none, Bool.or_false, Bool.false_or, Bool.or_true, Bool.true_or, Bool.and_true, Bool.true_and, Bool.and_false, Bool.false_and, Bool.not_true, Bool.not_false, Bool.false_eq_true, if_false, if_true, I0, decide_eq_true hi]
    refine xseq_ fun D' hn' hr' hb' hc2 hx' => ?_
    simp only [xsAsg, xsPar, xsIf, xsRet, xsRetN, xsExp, xsSet, xsAug, xsAugS, xsBrk, xsCnt, xsRaise, xsNil, exE, xVar, xLit, xNeg, xIsN, xBin, xChain, xAnd, xOr, xNot, xIte, xNil, xCons, xTup, xLst, xFN, xMt, xIsi, xIsx, xCall, xSl1, xRev, xNewL, xFC, xXv, xIt, xSeq, nth, R.bd, R.sb, RS.to, R.to, xto, xtoH, xfin, xfinE, xck, frcD_eq, frcD1_eq, frcN_eq, frcI_eq, frcL_eq, frcDs_eq, lay_eq, put_eq, gAdd_i, gAdd_s, gSub_i, gEq_i, gEq_b, gNe_i, gNe_b, gLt_i, gLe_i, gGt_i, gGe_i, gInt_i, gInt_b, gInp_a, gInp_s, gLen_t, gTuple_t, gList_t, asgT, asgL, tyD, Ev.isNon, gRange1_i, Ty.isa, List.getElem?_cons_zero, List.getElem?_cons_succ, List.set_cons_zero, List.set_cons_succ, List.map_cons, List.map_nil, List.cons_append, List.nil_append, List.any_cons, List.any_nil, Option.map_some, Option.map_none, Bool.or_false, Bool.false_or, Bool.or_true, Bool.true_or, Bool.and_true, Bool.true_and, Bool.and_false, Bool.false_and, Bool.not_true, Bool.not_false, Bool.false_eq_true, if_false, if_true, I0, gMod_i hm]
    rw [hn']
    refine xseq_ fun D' hn' hr' hb' hc2 hx' => ?_
    simp only [xsAsg, xsPar, xsIf, xsRet, xsRetN, xsExp, xsSet, xsAug, xsAugS, xsBrk, xsCnt, xsRaise, xsNil, exE, xVar, xLit, xNeg, xIsN, xBin, xChain, xAnd, xOr, xNot, xIte, xNil, xCons, xTup, xLst, xFN, xMt, xIsi, xIsx, xCall, xSl1, xRev, xNewL, xFC, xXv, xIt, xSeq, nth, R.bd, R.sb, RS.to, R.to, xto, xtoH, xfin, xfinE, xck, frcD_eq, frcD1_eq, frcN_eq, frcI_eq, frcL_eq, frcDs_eq, lay_eq, put_eq, gAdd_i, gAdd_s, gSub_i, gEq_i, gEq_b, gNe_i, gNe_b, gLt_i, gLe_i, gGt_i, gGe_i, gInt_i, gInt_b, gInp_a, gInp_s, gLen_t, gTuple_t, gList_t, asgT, asgL, tyD, Ev.isNon, gRange1_i, Ty.isa, List.getElem?_cons_zero, List.getElem?_cons_succ, List.set_cons_zero, List.set_cons_succ, List.map_cons, List.map_nil, List.cons_append, List.nil_append, List.any_cons, List.any_nil, Option.map_some, Option.map_none, Bool.or_false, Bool.false_or, Bool.or_true, Bool.true_or, Bool.and_true, Bool.true_and, Bool.and_false, Bool.false_and, Bool.not_true, Bool.not_false, Bool.false_eq_true, if_false, if_true, I0, gDiv_i hm hm2, S0, set_set]
    rw [hn']
    simp only [xsAsg, xsPar, xsIf, xsRet, xsRetN, xsExp, xsSet, xsAug, xsAugS, xsBrk, xsCnt, xsRaise, xsNil, exE, xVar, xLit, xNeg, xIsN, xBin, xChain, xAnd, xOr, xNot, xIte, xNil, xCons, xTup, xLst, xFN, xMt, xIsi, xIsx, xCall, xSl1, xRev, xNewL, xFC, xXv, xIt, xSeq, nth, R.bd, R.sb, RS.to, R.to, xto, xtoH, xfin, xfinE, xck, frcD_eq, frcD1_eq, frcN_eq, frcI_eq, frcL_eq, frcDs_eq, lay_eq, put_eq, gAdd_i, gAdd_s, gSub_i, gEq_i, gEq_b, gNe_i, gNe_b, gLt_i, gLe_i, gGt_i, gGe_i, gInt_i, gInt_b, gInp_a, gInp_s, gLen_t, gTuple_t, gList_t, asgT, asgL, tyD, Ev.isNon, gRange1_i, Ty.isa, List.getElem?_cons_zero, List.getElem?_cons_succ, List.set_cons_zero, List.set_cons_succ, List.map_cons, List.map_nil, List.cons_append, List.nil_append, List.any_cons, List.any_nil, Option.map_some, Option.map_none, Bool.or_false, Bool.false_or, Bool.or_true, Bool.true_or, Bool.and_true, Bool.true_and, Bool.and_false, Bool.false_and, Bool.not_true, Bool.not_false, Bool.false_eq_true, if_false, if_true]
    rw [hr]
    exact fin _ _ _ (Int.ediv_nonneg i0 (by omega)) k0 (by omega) (Int.emod_nonneg _ (by omega)) (Int.emod_lt_of_pos _ hm)
  · simp only [xsAsg, xsPar, xsIf, xsRet, xsRetN, xsExp, xsSet, xsAug, xsAugS, xsBrk, xsCnt, xsRaise, xsNil, exE, xVar, xLit, xNeg, xIsN, xBin, xChain, xAnd, xOr, xNot, xIte, xNil, xCons, xTup, xLst, xFN, xMt, xIsi, xIsx, xCall, xSl1, xRev, xNewL, xFC, xXv, xIt, xSeq, nth, R.bd, R.sb, RS.to, R.to, xto, xtoH, xfin, xfinE, xck, frcD_eq, frcD1_eq, frcN_eq, frcI_eq, frcL_eq, frcDs_eq, lay_eq, put_eq, gAdd_i, gAdd_s, gSub_i, gEq_i, gEq_b, gNe_i, gNe_b, gLt_i, gLe_i, gGt_i, gGe_i, gInt_i, gInt_b, gInp_a, gInp_s, gLen_t, gTuple_t, gList_t, asgT, asgL, tyD, Ev.isNon, gRange1_i, Ty.isa, List.getElem?_cons_zero, List.getElem?_cons_succ, List.set_cons_zero, List.set_cons_succ, List.map_cons, List.map_nil, List.cons_append, List.nil_append, List.any_cons, List.any_nil, Option.map_some, Option.map_none, Bool.or_false, Bool.false_or, Bool.or_true, Bool.true_or, Bool.and_true, Bool.true_and, Bool.and_false, Bool.false_and, Bool.not_true, Bool.not_false, Bool.false_eq_true, if_false, if_true, I0, decide_eq_false hi]
    rw [hn]
    refine xseq_ fun D' hn' hr' hb' hc2 hx' => ?_
    simp only [xsAsg, xsPar, xsIf, xsRet, xsRetN, xsExp, xsSet, xsAug, xsAugS, xsBrk, xsCnt, xsRaise, xsNil, exE, xVar, xLit, xNeg, xIsN, xBin, xChain, xAnd, xOr, xNot, xIte, xNil, xCons, xTup, xLst, xFN, xMt, xIsi, xIsx, xCall, xSl1, xRev, xNewL, xFC, xXv, xIt, xSeq, nth, R.bd, R.sb, RS.to, R.to, xto, xtoH, xfin, xfinE, xck, frcD_eq, frcD1_eq, frcN_eq, frcI_eq, frcL_eq, frcDs_eq, lay_eq, put_eq, gAdd_i, gAdd_s, gSub_i, gEq_i, gEq_b, gNe_i, gNe_b, gLt_i, gLe_i, gGt_i, gGe_i, gInt_i, gInt_b, gInp_a, gInp_s, gLen_t, gTuple_t, gList_t, asgT, asgL, tyD, Ev.isNon, gRange1_i, Ty.isa, List.getElem?_cons_zero, List.getElem?_cons_succ, List.set_cons_zero, List.set_cons_succ, List.map_cons, List.map_nil, List.cons_append, List.nil_append, List.any_cons, List.any_nil, Option.map_some, Option.map_none, Bool.or_false, Bool.false_or, Bool.or_true, Bool.true_or, Bool.and_true, Bool.true_and, Bool.and_false, Bool.false_and, Bool.not_true, Bool.not_false, Bool.false_eq_true, if_false, if_true, I2, J2, S2, set_set]
    rw [hn']
    refine xseq_ fun D' hn' hr' hb' hc2 hx' => ?_
    have g1 : (0:Int) ≤ 3 ∧ (3:Int) ≤ 1000 ∧ (j + 1572869 * (k + 1)).natAbs < 18446744073709551616 := by omega
    simp only [xsAsg, xsPar, xsIf, xsRet, xsRetN, xsExp, xsSet, xsAug, xsAugS, xsBrk, xsCnt, xsRaise, xsNil, exE, xVar, xLit, xNeg, xIsN, xBin, xChain, xAnd, xOr, xNot, xIte, xNil, xCons, xTup, xLst, xFN, xMt, xIsi, xIsx, xCall, xSl1, xRev, xNewL, xFC, xXv, xIt, xSeq, nth, R.bd, R.sb, RS.to, R.to, xto, xtoH, xfin, xfinE, xck, frcD_eq, frcD1_eq, frcN_eq, frcI_eq, frcL_eq, frcDs_eq, lay_eq, put_eq, gAdd_i, gAdd_s, gSub_i, gEq_i, gEq_b, gNe_i, gNe_b, gLt_i, gLe_i, gGt_i, gGe_i, gInt_i, gInt_b, gInp_a, gInp_s, gLen_t, gTuple_t, gList_t, asgT, asgL, tyD, Ev.isNon, gRange1_i, Ty.isa, List.getElem?_cons_zero, List.getElem?_cons_succ, List.set_cons_zero, List.set_cons_succ, List.map_cons, List.map_nil, List.cons_append, List.nil_append, List.any_cons, List.any_nil, Option.map_some, Option.map_none, Bool.or_false, Bool.false_or, Bool.or_true, Bool.true_or, Bool.and_true, Bool.true_and, Bool.and_false, Bool.false_and, Bool.not_true, Bool.not_false, Bool.false_eq_true, if_false, if_true, I1, I2, gMul_i (mul_l (i := 1572869) (by decide)), gPow_i g1, gMod_i (show (0:Int) < 2305843009213693907 by decide)]
    rw [hn']
    refine xseq_ fun D' hn' hr' hb' hc2 hx' => ?_
    have b1 := Int.emod_nonneg ((j + 1572869 * (k + 1)) ^ (3:Int).toNat) (show (2305843009213693907:Int) ≠ 0 by decide)
    have b2 := Int.emod_lt_of_pos ((j + 1572869 * (k + 1)) ^ (3:Int).toNat) (show (0:Int) < 2305843009213693907 by decide)
    generalize (j + 1572869 * (k + 1)) ^ (3:Int).toNat % 2305843009213693907 = m1 at b1 b2
    have g2 : (0:Int) ≤ 2 ∧ (2:Int) ≤ 1000 ∧ (m1 + 389 * (k + 1)).natAbs < 18446744073709551616 := by omega
    simp only [xsAsg, xsPar, xsIf, xsRet, xsRetN, xsExp, xsSet, xsAug, xsAugS, xsBrk, xsCnt, xsRaise, xsNil, exE, xVar, xLit, xNeg, xIsN, xBin, xChain, xAnd, xOr, xNot, xIte, xNil, xCons, xTup, xLst, xFN, xMt, xIsi, xIsx, xCall, xSl1, xRev, xNewL, xFC, xXv, xIt, xSeq, nth, R.bd, R.sb, RS.to, R.to, xto, xtoH, xfin, xfinE, xck, frcD_eq, frcD1_eq, frcN_eq, frcI_eq, frcL_eq, frcDs_eq, lay_eq, put_eq, gAdd_i, gAdd_s, gSub_i, gEq_i, gEq_b, gNe_i, gNe_b, gLt_i, gLe_i, gGt_i, gGe_i, gInt_i, gInt_b, gInp_a, gInp_s, gLen_t, gTuple_t, gList_t, asgT, asgL, tyD, Ev.isNon, gRange1_i, Ty.isa, List.getElem?_cons_zero, List.getElem?_cons_succ, List.set_cons_zero, List.set_cons_succ, List.map_cons, List.map_nil, List.cons_append, List.nil_append, List.any_cons, List.any_nil, Option.map_some, Option.map_none, Bool.or_false, Bool.false_or, Bool.or_true, Bool.true_or, Bool.and_true, Bool.true_and, Bool.and_false, Bool.false_and, Bool.not_true, Bool.not_false, Bool.false_eq_true, if_false, if_true, I1, I2, gMul_i (mul_l (i := 389) (by decide)), gPow_i g2, gMod_i (show (0:Int) < 999999999999999877 by decide)]
    rw [hn']
    simp only [xsAsg, xsPar, xsIf, xsRet, xsRetN, xsExp, xsSet, xsAug, xsAugS, xsBrk, xsCnt, xsRaise, xsNil, exE, xVar, xLit, xNeg, xIsN, xBin, xChain, xAnd, xOr, xNot, xIte, xNil, xCons, xTup, xLst, xFN, xMt, xIsi, xIsx, xCall, xSl1, xRev, xNewL, xFC, xXv, xIt, xSeq, nth, R.bd, R.sb, RS.to, R.to, xto, xtoH, xfin, xfinE, xck, frcD_eq, frcD1_eq, frcN_eq, frcI_eq, frcL_eq, frcDs_eq, lay_eq, put_eq, gAdd_i, gAdd_s, gSub_i, gEq_i, gEq_b, gNe_i, gNe_b, gLt_i, gLe_i, gGt_i, gGe_i, gInt_i, gInt_b, gInp_a, gInp_s, gLen_t, gTuple_t, gList_t, asgT, asgL, tyD, Ev.isNon, gRange1_i, Ty.isa, List.getElem?_cons_zero, List.getElem?_cons_succ, List.set_cons_zero, List.set_cons_succ, List.map_cons, List.map_nil, List.cons_append, List.nil_append, List.any_cons, List.any_nil, Option.map_some, Option.map_none, Bool.or_false, Bool.false_or, Bool.or_true, Bool.true_or, Bool.and_true, Bool.true_and, Bool.and_false, Bool.false_and, Bool.not_true, Bool.not_false, Bool.false_eq_true, if_false, if_true, gDiv_i (show (0:Int) < 16 by decide) (show (16:Int).natAbs.log2 < 8000 by decide), gMod_i hm]
    exact fin _ _ _ i0 (by omega) (by omega) (Int.emod_nonneg _ (by omega)) (Int.emod_lt_of_pos _ hm)
/-- a draw: 0 ≤ v < many -/
theorem xtake_ok {h : VH} {kk c : Nat} {many : Int} {Q : PQ} {E : PX} (hp : PotAt h kk c) (hc : c ≤ 1000000) (hm : 0 < many) (hm2 : many.natAbs.log2 < 8000)
    (hQ : ∀ v h', 0 ≤ v → v < many → h'.length = h.length → (∀ l, l ≠ kk → lstAt h' l = lstAt h l) → PotAt h' kk (c + 1) → Q (.int v) h') : (xp_take [.ref kk, .int many] h).to Q E := by
  obtain ⟨i, j, k, p, cells, e, C, hl⟩ := hp
  have hk := lstAt_len e
  have L : ∀ ds : List D, lstAt (h.set kk (.lst ds)) kk = some ds := fun ds => lstAt_set hk
  have eself : h.set kk (.lst (potL i j k p cells)) = h := by
    apply List.ext_getElem?
    intro n
    by_cases hn : kk = n
    · subst hn
      rw [List.getElem?_set_self hk]
      unfold lstAt at e
      cases q : h[kk]? with
      | none => rw [q] at e; cases e
      | some o =>
        rw [q] at e
        cases o with
        | lst ds => cases e; rfl
    · rw [List.getElem?_set_ne hn]
  have I0 := gIx_l (i := 0) e pot_0
  have I3 := gIx_l (i := 3) e pot_3
  have len := gLen_l e
  refine fnX_of rfl ?_
  show (xsSeq xb_take1 xb_take2 [some (.ref kk), some (.int many), none, none, none] h).to (fnD Q E)
  refine xseq_ fun D hn hr hb hc' hx => ?_
  have tail : ∀ (z : Option Ev.D) i' j' p', PotC c i' j' k p' → D.nx [some (.ref kk), some (.int many), z, none, none] (h.set kk (.lst (potL i' j' k p' cells))) := fun z i' j' p' C' => by
    rw [hn]
    exact xtake_tail hk C' hc hl hm hm2 hQ
  have stay : D.nx [some (.ref kk), some (.int many), none, none, none] h := by
    have := tail none i j p C
    rw [eself] at this
    exact this
  obtain ⟨i0, j0, j1, k0, k1, p0⟩ := C
  unfold xb_take1
  by_cases h1 : i = 0
  · by_cases h2 : p < (potL i j k p cells).length
    · simp only [xsAsg, xsPar, xsIf, xsRet, xsRetN, xsExp, xsSet, xsAug, xsAugS, xsBrk, xsCnt, xsRaise, xsNil, exE, xVar, xLit, xNeg, xIsN, xBin, xChain, xAnd, xOr, xNot, xIte, xNil, xCons, xTup, xLst, xFN, xMt, xIsi, xIsx, xCall, xSl1, xRev, xNewL, xFC, xXv, xIt, xSeq, nth, R.bd, R.sb, RS.to, R.to, xto, xtoH, xfin, xfinE, xck, frcD_eq, frcD1_eq, frcN_eq, frcI_eq, frcL_eq, frcDs_eq, lay_eq, put_eq, gAdd_i, gAdd_s, gSub_i, gEq_i, gEq_b, gNe_i, gNe_b, gLt_i, gLe_i, gGt_i, gGe_i, gInt_i, gInt_b, gInp_a, gInp_s, gLen_t, gTuple_t, gList_t, asgT, asgL, tyD, Ev.isNon, gRange1_i, Ty.isa, List.getElem?_cons_zero, List.getElem?_cons_succ, List.set_cons_zero, List.set_cons_succ, List.map_cons, List.map_nil, List.cons_append, List.nil_append, List.any_cons, List.any_nil, Option.map_some, Option.map_none, Bool.or_false, Bool.false_or, Bool.or_true, Bool.true_or, Bool.and_true, Bool.true_and, Bool.and_false, Bool.false_and, Bool.not_true, Bool.not_false, Bool.false_eq_true, if_false, if_true, I0, I3, len, decide_eq_true h1, decide_eq_true h2]
      rw [pot_len] at h2
      obtain ⟨cell, ec⟩ := pot_cell (i := i) (j := j) (k := k) (cells := cells) p0 (by omega)
      have Ic := gIx_l e ec
      have J3 := gIxL_l (i := 3) e pot_3
      have S3 := ps3 (v := p + 1) e
      refine xseq_ fun D1 hn1 hr1 hb1 hc1 hx1 => ?_
      simp only [xsAsg, xsPar, xsIf, xsRet, xsRetN, xsExp, xsSet, xsAug, xsAugS, xsBrk, xsCnt, xsRaise, xsNil, exE, xVar, xLit, xNeg, xIsN, xBin, xChain, xAnd, xOr, xNot, xIte, xNil, xCons, xTup, xLst, xFN, xMt, xIsi, xIsx, xCall, xSl1, xRev, xNewL, xFC, xXv, xIt, xSeq, nth, R.bd, R.sb, RS.to, R.to, xto, xtoH, xfin, xfinE, xck, frcD_eq, frcD1_eq, frcN_eq, frcI_eq, frcL_eq, frcDs_eq, lay_eq, put_eq, gAdd_i, gAdd_s, gSub_i, gEq_i, gEq_b, gNe_i, gNe_b, gLt_i, gLe_i, gGt_i, gGe_i, gInt_i, gInt_b, gInp_a, gInp_s, gLen_t, gTuple_t, gList_t, asgT, asgL, tyD, Ev.isNon, gRange1_i, Ty.isa, List.getElem?_cons_zero, List.getElem?_cons_succ, List.set_cons_zero, List.set_cons_succ, List.map_cons, List.map_nil, List.cons_append, List.nil_append, List.any_cons, List.any_nil, Option.map_some, Option.map_none, Bool.or_false, Bool.false_or, Bool.or_true, Bool.true_or, Bool.and_true, Bool.true_and, Bool.and_false, Bool.false_and, Bool.not_true, Bool.not_false, Bool.false_eq_true, if_false, if_true, I3, Ic]
      rw [hn1]
      refine xseq_ fun D2 hn2 hr2 hb2 hc2 hx2 => ?_
      simp only [xsAsg, xsPar, xsIf, xsRet, xsRetN, xsExp, xsSet, xsAug, xsAugS, xsBrk, xsCnt, xsRaise, xsNil, exE, xVar, xLit, xNeg, xIsN, xBin, xChain, xAnd, xOr, xNot, xIte, xNil, xCons, xTup, xLst, xFN, xMt, xIsi, xIsx, xCall, xSl1, xRev, xNewL, xFC, xXv, xIt, xSeq, nth, R.bd, R.sb, RS.to, R.to, xto, xtoH, xfin, xfinE, xck, frcD_eq, frcD1_eq, frcN_eq, frcI_eq, frcL_eq, frcDs_eq, lay_eq, put_eq, gAdd_i, gAdd_s, gSub_i, gEq_i, gEq_b, gNe_i, gNe_b, gLt_i, gLe_i, gGt_i, gGe_i, gInt_i, gInt_b, gInp_a, gInp_s, gLen_t, gTuple_t, gList_t, asgT, asgL, tyD, Ev.isNon, gRange1_i, Ty.isa, List.getElem?_cons_zero, List.getElem?_cons_succ, List.set_cons_zero, List.set_cons_succ, List.map_cons, List.map_nil, List.cons_append, List.nil_append, List.any_cons, List.any_nil, Option.map_some, Option.map_none, Bool.or_false, Bool.false_or, Bool.or_true, Bool.true_or, Bool.and_true, Bool.true_and, Bool.and_false, Bool.false_and, Bool.not_true, Bool.not_false, Bool.false_eq_true, if_false, if_true, J3, S3]
      rw [hn2]
      have I1 := gIx_l (i := 1) (L (potL i j k (p + 1) cells)) pot_1
      have I3' := gIx_l (i := 3) (L (potL i j k (p + 1) cells)) pot_3
      have S0 := ps0 (v := cell - 10 ^ (18 : Int).toNat) (L (potL i j k (p + 1) cells))
      have S1 := ps1 (v := ((j + 7 * cell) * 3145739 + 769 * (p + 1)) % 2305843009213693907) (L (potL i j k (p + 1) cells))
      have gp : (0:Int) ≤ 18 ∧ (18:Int) ≤ 1000 ∧ (10:Int).natAbs < 18446744073709551616 := by decide
      by_cases h3 : (10:Int) ^ (18 : Int).toNat ≤ cell
      · simp only [xsAsg, xsPar, xsIf, xsRet, xsRetN, xsExp, xsSet, xsAug, xsAugS, xsBrk, xsCnt, xsRaise, xsNil, exE, xVar, xLit, xNeg, xIsN, xBin, xChain, xAnd, xOr, xNot, xIte, xNil, xCons, xTup, xLst, xFN, xMt, xIsi, xIsx, xCall, xSl1, xRev, xNewL, xFC, xXv, xIt, xSeq, nth, R.bd, R.sb, RS.to, R.to, xto, xtoH, xfin, xfinE, xck, frcD_eq, frcD1_eq, frcN_eq, frcI_eq, frcL_eq, frcDs_eq, lay_eq, put_eq, gAdd_i, gAdd_s, gSub_i, gEq_i, gEq_b, gNe_i, gNe_b, gLt_i, gLe_i, gGt_i, gGe_i, gInt_i, gInt_b, gInp_a, gInp_s, gLen_t, gTuple_t, gList_t, asgT, asgL, tyD, Ev.isNon, gRange1_i, Ty.isa, List.getElem?_cons_zero, List.getElem?_cons_succ, List.set_cons_zero, List.set_cons_succ, List.map_cons, List.map_nil, List.cons_append, List.nil_append, List.any_cons, List.any_nil, Option.map_some, Option.map_none, Bool.or_false, Bool.false_or, Bool.or_true, Bool.true_or, Bool.and_true, Bool.true_and, Bool.and_false, Bool.false_and, Bool.not_true, Bool.not_false, Bool.false_eq_true, if_false, if_true, gPow_i gp, decide_eq_true h3, S0, set_set]
        exact tail _ _ _ _ ⟨by omega, j0, j1, k0, k1, by omega⟩
      · simp only [xsAsg, xsPar, xsIf, xsRet, xsRetN, xsExp, xsSet, xsAug, xsAugS, xsBrk, xsCnt, xsRaise, xsNil, exE, xVar, xLit, xNeg, xIsN, xBin, xChain, xAnd, xOr, xNot, xIte, xNil, xCons, xTup, xLst, xFN, xMt, xIsi, xIsx, xCall, xSl1, xRev, xNewL, xFC, xXv, xIt, xSeq, nth, R.bd, R.sb, RS.to, R.to, xto, xtoH, xfin, xfinE, xck, frcD_eq, frcD1_eq, frcN_eq, frcI_eq, frcL_eq, frcDs_eq, lay_eq, put_eq, gAdd_i, gAdd_s, gSub_i, gEq_i, gEq_b, gNe_i, gNe_b, gLt_i, gLe_i, gGt_i, gGe_i, gInt_i, gInt_b, gInp_a, gInp_s, gLen_t, gTuple_t, gList_t, asgT, asgL, tyD, Ev.isNon, gRange1_i, Ty.isa, List.getElem?_cons_zero, List.getElem?_cons_succ, List.set_cons_zero, List.set_cons_succ, List.map_cons, List.map_nil, List.cons_append, List.nil_append, List.any_cons, List.any_nil, Option.map_some, Option.map_none, Bool.or_false, Bool.false_or, Bool.or_true, Bool.true_or, Bool.and_true, Bool.true_and, Bool.and_false, Bool.false_and, Bool.not_true, Bool.not_false, Bool.false_eq_true, if_false, if_true, gPow_i gp, decide_eq_false h3, I1, I3', gMul_i (mul_l (i := 7) (by decide)), gMul_i (mul_l (i := 769) (by decide)), gMul_i (mul_r (i := j + 7 * cell) (j := 3145739) (by decide)), gMod_i (show (0:Int) < 2305843009213693907 by decide), S1, set_set]
        exact tail _ _ _ _ ⟨i0, Int.emod_nonneg _ (by decide), Int.emod_lt_of_pos _ (by decide), k0, k1, by omega⟩
    · simp only [xsAsg, xsPar, xsIf, xsRet, xsRetN, xsExp, xsSet, xsAug, xsAugS, xsBrk, xsCnt, xsRaise, xsNil, exE, xVar, xLit, xNeg, xIsN, xBin, xChain, xAnd, xOr, xNot, xIte, xNil, xCons, xTup, xLst, xFN, xMt, xIsi, xIsx, xCall, xSl1, xRev, xNewL, xFC, xXv, xIt, xSeq, nth, R.bd, R.sb, RS.to, R.to, xto, xtoH, xfin, xfinE, xck, frcD_eq, frcD1_eq, frcN_eq, frcI_eq, frcL_eq, frcDs_eq, lay_eq, put_eq, gAdd_i, gAdd_s, gSub_i, gEq_i, gEq_b, gNe_i, gNe_b, gLt_i, gLe_i, gGt_i, gGe_i, gInt_i, gInt_b, gInp_a, gInp_s, gLen_t, gTuple_t, gList_t, asgT, asgL, tyD, Ev.isNon, gRange1_i, Ty.isa, List.getElem?_cons_zero, List.getElem?_cons_succ, List.set_cons_zero, List.set_cons_succ, List.map_cons, List.map_nil, List.cons_append, List.nil_append, List.any_cons, List.any_nil, Option.map_some, Option.map_none, Bool.or_false, Bool.false_or, Bool.or_true, Bool.true_or, Bool.and_true, Bool.true_and, Bool.and_false, Bool.false_and, Bool.not_true, Bool.not_false, Bool.false_eq_true, if_false, if_true, I0, I3, len, decide_eq_true h1, decide_eq_false h2]
      exact stay
  · simp only [xsAsg, xsPar, xsIf, xsRet, xsRetN, xsExp, xsSet, xsAug, xsAugS, xsBrk, xsCnt, xsRaise, xsNil, exE, xVar, xLit, xNeg, xIsN, xBin, xChain, xAnd, xOr, xNot, xIte, xNil, xCons, xTup, xLst, xFN, xMt, xIsi, xIsx, xCall, xSl1, xRev, xNewL, xFC, xXv, xIt, xSeq, nth, R.bd, R.sb, RS.to, R.to, xto, xtoH, xfin, xfinE, xck, frcD_eq, frcD1_eq, frcN_eq, frcI_eq, frcL_eq, frcDs_eq, lay_eq, put_eq, gAdd_i, gAdd_s, gSub_i, gEq_i, gEq_b, gNe_i, gNe_b, gLt_i, gLe_i, gGt_i, gGe_i, gInt_i, gInt_b, gInp_a, gInp_s, gLen_t, gTuple_t, gList_t, asgT, asgL, tyD, Ev.isNon, gRange1_i, Ty.isa, List.getElem?_cons_zero, List.getElem?_cons_succ, List.set_cons_zero, List.set_cons_succ, List.map_cons, List.map_nil, List.cons_append, List.nil_append, List.any_cons, List.any_nil, Option.map_some, Option.map_none, Bool.or_false, Bool.false_or, Bool.or_true, Bool.true_or, Bool.and_true, Bool.true_and, Bool.and_false, Bool.false_and, Bool.not_true, Bool.not_false, Bool.false_eq_true, if_false, if_true, I0, decide_eq_false h1]
    exact stay
end Ev

set_option Elab.async false
set_option linter.all false
set_option maxRecDepth 100000
set_option maxHeartbeats 0
/-! X8b: the pot, comprehensions, the comparison. -/
namespace Ev
open PySem PySem.Spec PyProof.Rows L2 NdefX
/-- the pot at the start -/
theorem xpot_ok {h : VH} {d : D} {ns : List Int} {Q : PQ} {E : PX} (hd : ∀ g, gList [d] (h ++ g) = some (.new (ns.map D.int))) (hl : ns.length ≤ 1000) (hQ : ∀ h' kk, h.length ≤ kk → PotAt h' kk 0 → (∀ l, l < h.length → lstAt h' l = lstAt h l) → Q (.ref kk) h') : (xp_pot [d] h).to Q E := by
  refine fnX_of rfl ?_
  show (xb_pot [some d] h).to (fnD Q E)
  have e0 := hd []
  rw [List.append_nil] at e0
  have e1 := hd [Ob.lst [.int 0, .int 12582917, .int 0, .int 4]]
  have c1 : decide ([D.int 0, .int 12582917, .int 0, .int 4].length ≤ line) = true := by decide
  have A := gAdd_l (h := h ++ [Ob.lst [.int 0, .int 12582917, .int 0, .int 4]] ++ [Ob.lst (ns.map D.int)]) (k := h.length) (l := (h ++ [Ob.lst [.int 0, .int 12582917, .int 0, .int 4]]).length) (xs := [.int 0, .int 12582917, .int 0, .int 4]) (ys := ns.map D.int)
    (by rw [List.append_assoc]; exact lstAt_new) lstAt_new (by rw [List.length_map]; show 4 + ns.length ≤ 16777216; omega)
  simp only [xsAsg, xsPar, xsIf, xsRet, xsRetN, xsExp, xsSet, xsAug, xsAugS, xsBrk, xsCnt, xsRaise, xsNil, exE, xVar, xLit, xNeg, xIsN, xBin, xChain, xAnd, xOr, xNot, xIte, xNil, xCons, xTup, xLst, xFN, xMt, xIsi, xIsx, xCall, xSl1, xRev, xNewL, xFC, xXv, xIt, xSeq, nth, R.bd, R.sb, RS.to, R.to, xto, xtoH, xfin, xfinE, xck, frcD_eq, frcD1_eq, frcN_eq, frcI_eq, frcL_eq, frcDs_eq, lay_eq, put_eq, gAdd_i, gAdd_s, gSub_i, gEq_i, gEq_b, gNe_i, gNe_b, gLt_i, gLe_i, gGt_i, gGe_i, gInt_i, gInt_b, gInp_a, gInp_s, gLen_t, gTuple_t, gList_t, asgT, asgL, tyD, Ev.isNon, gRange1_i, Ty.isa, List.getElem?_cons_zero, List.getElem?_cons_succ, List.set_cons_zero, List.set_cons_succ, List.map_cons, List.map_nil, List.cons_append, List.nil_append, List.any_cons, List.any_nil, Option.map_some, Option.map_none, Bool.or_false, Bool.false_or, Bool.or_true, Bool.true_or, Bool.and_true, Bool.true_and, Bool.and_false, Bool.false_and, Bool.not_true, Bool.not_false, Bool.false_eq_true, if_false, if_true, xb_pot, c1, e1, A]
  refine hQ _ _ ?_ ⟨0, 12582917, 0, 4, ns, ?_, ⟨by decide, by decide, by decide, by decide, by decide, by decide⟩, hl⟩ fun l hl => ?_
  · simp only [List.length_append]; omega
  · exact lstAt_new
  · unfold lstAt
    rw [List.append_assoc, List.append_assoc, List.getElem?_append_left hl]
/-- a comprehension whose items leave the heap alone -/
theorem xcompL_pure {it : ItF} {tg : Tg} {xe : XE} {env : Env} {h : VH} {F : Nat} {xs ys : List D} (hit : ∀ i, it i h = some xs[i]?)
    (hb : ∀ (i : Nat) (x : D), xs[i]? = some x → ∃ (env2 : Env) (y : D), asgT tg x h env = some env2 ∧ ys[i]? = some y ∧ xe env2 h = .ok y h) (hlen : ys.length = xs.length) (hl : xs.length < F) : xcompL it tg none xe env F 0 [] h = .ok ys h := by
  have key : ∀ n i, i ≤ xs.length → xs.length < n + i → xcompL it tg none xe env n i (ys.take i).reverse h = .ok ys h := by
    intro n
    induction n with
    | zero => intro i h1 h2; omega
    | succ n ih =>
      intro i h1 h2
      unfold xcompL
      rw [hit i]
      cases e : xs[i]? with
      | none =>
        have : xs.length ≤ i := List.getElem?_eq_none_iff.mp e
        simp only [frcL_eq, List.reverse_reverse]
        rw [List.take_of_length_le (by omega)]
      | some x =>
        obtain ⟨env2, y, e1, e2, e3⟩ := hb i x e
        have hi : i < xs.length := (List.getElem?_eq_some_iff.mp e).1
        simp only [frcD_eq, frcN_eq, e1, e3]
        have := ih (i + 1) hi (by omega)
        rw [List.take_add_one, e2] at this
        simpa using this
  exact key F 0 (Nat.zero_le _) (by omega)
theorem itRng_map {n : Nat} {h : VH} (i : Nat) : itRng 0 n 1 i h = some ((List.range n).map fun j => D.int (j : Nat))[i]? := by
  unfold itRng
  by_cases hi : i < n
  · rw [if_pos hi, List.getElem?_map, List.getElem?_range hi]
    simp
  · rw [if_neg hi, List.getElem?_eq_none (by simpa using hi)]
theorem xsame_seq {F : Nat} {h : VH} {sp : XSp} {got due : D} {gs ds : List D} (hl : gs.length = ds.length) (hs : ds.length < 1000000) (hF : ds.length < F) (g2 : gLen [due] h = some (.val (.int ds.length)))
    (i1 : ∀ (i : Nat) (g : D), gs[i]? = some g → gIx got (.int i) h = some (.val g)) (i2 : ∀ (i : Nat) (g : D), ds[i]? = some g → gIx due (.int i) h = some (.val g))
    (hsp : ∀ (i : Nat) (g d : D), gs[i]? = some g → ds[i]? = some d → sp [g, d] h = .ok (.bl true) h) (g1 : gLen [got] h = some (.val (.int gs.length))) :
    (xsRet (xAnd (xBin gEq (xFN gLen (xCons (xVar 0) xNil)) (xFN gLen (xCons (xVar 1) xNil))) (xFC cAll (xComp F (xIt gRange1 (xCons (xFN gLen (xCons (xVar 1) xNil)) xNil)) (.nm 2) [2] none (xCall sp (xCons (xBin gIx (xVar 0) (xVar 2)) (xCons (xBin gIx (xVar 1) (xVar 2)) xNil)))))) [some got, some due, none] h) = .rt (.bl true) h := by
  have hb : big62 (ds.length : Int) = true := by
    unfold big62
    exact decide_eq_true (by omega)
  have hd : decide ((gs.length : Int) = (ds.length : Int)) = true := decide_eq_true (by omega)
  simp only [xsAsg, xsPar, xsIf, xsRet, xsRetN, xsExp, xsSet, xsAug, xsAugS, xsBrk, xsCnt, xsRaise, xsNil, exE, xVar, xLit, xNeg, xIsN, xBin, xChain, xAnd, xOr, xNot, xIte, xNil, xCons, xTup, xLst, xFN, xMt, xIsi, xIsx, xCall, xSl1, xRev, xNewL, xFC, xXv, xIt, xSeq, nth, R.bd, R.sb, RS.to, R.to, xto, xtoH, xfin, xfinE, xck, frcD_eq, frcD1_eq, frcN_eq, frcI_eq, frcL_eq, frcDs_eq, lay_eq, put_eq, gAdd_i, gAdd_s, gSub_i, gEq_i, gEq_b, gNe_i, gNe_b, gLt_i, gLe_i, gGt_i, gGe_i, gInt_i, gInt_b, gInp_a, gInp_s, gLen_t, gTuple_t, gList_t, asgT, asgL, tyD, Ev.isNon, gRange1_i, Ty.isa, List.getElem?_cons_zero, List.getElem?_cons_succ, List.set_cons_zero, List.set_cons_succ, List.map_cons, List.map_nil, List.cons_append, List.nil_append, List.any_cons, List.any_nil, Option.map_some, Option.map_none, Bool.or_false, Bool.false_or, Bool.or_true, Bool.true_or, Bool.and_true, Bool.true_and, Bool.and_false, Bool.false_and, Bool.not_true, Bool.not_false, Bool.false_eq_true, if_false, if_true, g1, g2, hd, xComp, gRange1_i hb, Int.toNat_natCast]
  rw [xcompL_pure (xs := (List.range ds.length).map fun i => .int (i : Nat)) (ys := List.replicate ds.length (.bl true)) (fun i => itRng_map i) (fun i x e => ?_) (by simp) (by rw [List.length_map, List.length_range]; exact hF)]
  · simp only [xsAsg, xsPar, xsIf, xsRet, xsRetN, xsExp, xsSet, xsAug, xsAugS, xsBrk, xsCnt, xsRaise, xsNil, exE, xVar, xLit, xNeg, xIsN, xBin, xChain, xAnd, xOr, xNot, xIte, xNil, xCons, xTup, xLst, xFN, xMt, xIsi, xIsx, xCall, xSl1, xRev, xNewL, xFC, xXv, xIt, xSeq, nth, R.bd, R.sb, RS.to, R.to, xto, xtoH, xfin, xfinE, xck, frcD_eq, frcD1_eq, frcN_eq, frcI_eq, frcL_eq, frcDs_eq, lay_eq, put_eq, gAdd_i, gAdd_s, gSub_i, gEq_i, gEq_b, gNe_i, gNe_b, gLt_i, gLe_i, gGt_i, gGe_i, gInt_i, gInt_b, gInp_a, gInp_s, gLen_t, gTuple_t, gList_t, asgT, asgL, tyD, Ev.isNon, gRange1_i, Ty.isa, List.getElem?_cons_zero, List.getElem?_cons_succ, List.set_cons_zero, List.set_cons_succ, List.map_cons, List.map_nil, List.cons_append, List.nil_append, List.any_cons, List.any_nil, Option.map_some, Option.map_none, Bool.or_false, Bool.false_or, Bool.or_true, Bool.true_or, Bool.and_true, Bool.true_and, Bool.and_false, Bool.false_and, Bool.not_true, Bool.not_false, Bool.false_eq_true, if_false, if_true, cAll_true]
  · have hi : i < ds.length := by
      have := (List.getElem?_eq_some_iff.mp e).1
      simpa using this
    rw [List.getElem?_map, List.getElem?_range hi] at e
    cases e
    have hi2 : i < gs.length := by omega
    refine ⟨_, _, rfl, by rw [List.getElem?_replicate, if_pos hi], ?_⟩
    have a1 := i1 i _ (List.getElem?_eq_getElem hi2)
    have a2 := i2 i _ (List.getElem?_eq_getElem hi)
    simp only [xsAsg, xsPar, xsIf, xsRet, xsRetN, xsExp, xsSet, xsAug, xsAugS, xsBrk, xsCnt, xsRaise, xsNil, exE, xVar, xLit, xNeg, xIsN, xBin, xChain, xAnd, xOr, xNot, xIte, xNil, xCons, xTup, xLst, xFN, xMt, xIsi, xIsx, xCall, xSl1, xRev, xNewL, xFC, xXv, xIt, xSeq, nth, R.bd, R.sb, RS.to, R.to, xto, xtoH, xfin, xfinE, xck, frcD_eq, frcD1_eq, frcN_eq, frcI_eq, frcL_eq, frcDs_eq, lay_eq, put_eq, gAdd_i, gAdd_s, gSub_i, gEq_i, gEq_b, gNe_i, gNe_b, gLt_i, gLe_i, gGt_i, gGe_i, gInt_i, gInt_b, gInp_a, gInp_s, gLen_t, gTuple_t, gList_t, asgT, asgL, tyD, Ev.isNon, gRange1_i, Ty.isa, List.getElem?_cons_zero, List.getElem?_cons_succ, List.set_cons_zero, List.set_cons_succ, List.map_cons, List.map_nil, List.cons_append, List.nil_append, List.any_cons, List.any_nil, Option.map_some, Option.map_none, Bool.or_false, Bool.false_or, Bool.or_true, Bool.true_or, Bool.and_true, Bool.true_and, Bool.and_false, Bool.false_and, Bool.not_true, Bool.not_false, Bool.false_eq_true, if_false, if_true, wipeD, a1, a2]
    exact hsp i _ _ (List.getElem?_eq_getElem hi2) (List.getElem?_eq_getElem hi)
theorem fnX_rt {n k : Nat} {b : XS} {ds : List D} {d : D} {h h' : VH} (hl : lenIs ds n = true) (H : b (envOf k ds) h = .rt d h') : fnX n k b ds h = .ok d h' := by
  unfold fnX
  rw [hl]
  show (b (envOf k ds) h).fn = _
  rw [H] <;> rfl
theorem xseq_nx {a b : XS} {env e1 : Env} {h h1 : VH} (H : a env h = .nx e1 h1) : xsSeq a b env h = b e1 h1 := by
  show (match a env h with | .nx e h1 => b e h1 | r => r : RS) = _
  rw [H]
theorem xseq_rt {a b : XS} {env : Env} {h h1 : VH} {d : D} (H : a env h = .rt d h1) : xsSeq a b env h = .rt d h1 := by
  show (match a env h with | .nx e h1 => b e h1 | r => r : RS) = _
  rw [H]
/-- two values that the comparison takes for the same; the lengths below F -/
theorem xsame_ok {F : Nat} (hF : 1000000 ≤ F) : ∀ (n : Nat) {got due : D} {h : VH}, SameD h n got due → xp_same F n [got, due] h = .ok (.bl true) h
  | 0, _, _, _, s => s.elim
  | n + 1, got, due, h, s => by
    refine fnX_rt rfl ?_
    show xb_same F (xp_same F n) [some got, some due, none] h = _
    have ih : ∀ {g d : D}, SameD h n g d → xp_same F n [g, d] h = .ok (.bl true) h := fun s => xsame_ok hF n s
    generalize xp_same F n = sp at ih
    unfold SameD at s
    unfold xb_same
    cases due with
    | non =>
      subst s
      exact xseq_rt (by simp only [xsAsg, xsPar, xsIf, xsRet, xsRetN, xsExp, xsSet, xsAug, xsAugS, xsBrk, xsCnt, xsRaise, xsNil, exE, xVar, xLit, xNeg, xIsN, xBin, xChain, xAnd, xOr, xNot, xIte, xNil, xCons, xTup, xLst, xFN, xMt, xIsi, xIsx, xCall, xSl1, xRev, xNewL, xFC, xXv, xIt, xSeq, nth, R.bd, R.sb, RS.to, R.to, xto, xtoH, xfin, xfinE, xck, frcD_eq, frcD1_eq, frcN_eq, frcI_eq, frcL_eq, frcDs_eq, lay_eq, put_eq, gAdd_i, gAdd_s, gSub_i, gEq_i, gEq_b, gNe_i, gNe_b, gLt_i, gLe_i, gGt_i, gGe_i, gInt_i, gInt_b, gInp_a, gInp_s, gLen_t, gTuple_t, gList_t, asgT, asgL, tyD, Ev.isNon, gRange1_i, Ty.isa, List.getElem?_cons_zero, List.getElem?_cons_succ, List.set_cons_zero, List.set_cons_succ, List.map_cons, List.map_nil, List.cons_append, List.nil_append, List.any_cons, List.any_nil, Option.map_some, Option.map_none, Bool.or_false, Bool.false_or, Bool.or_true, Bool.true_or, Bool.and_true, Bool.true_and, Bool.and_false, Bool.false_and, Bool.not_true, Bool.not_false, Bool.false_eq_true, if_false, if_true])
    | bl b =>
      subst s
      rw [xseq_nx (by simp only [xsAsg, xsPar, xsIf, xsRet, xsRetN, xsExp, xsSet, xsAug, xsAugS, xsBrk, xsCnt, xsRaise, xsNil, exE, xVar, xLit, xNeg, xIsN, xBin, xChain, xAnd, xOr, xNot, xIte, xNil, xCons, xTup, xLst, xFN, xMt, xIsi, xIsx, xCall, xSl1, xRev, xNewL, xFC, xXv, xIt, xSeq, nth, R.bd, R.sb, RS.to, R.to, xto, xtoH, xfin, xfinE, xck, frcD_eq, frcD1_eq, frcN_eq, frcI_eq, frcL_eq, frcDs_eq, lay_eq, put_eq, gAdd_i, gAdd_s, gSub_i, gEq_i, gEq_b, gNe_i, gNe_b, gLt_i, gLe_i, gGt_i, gGe_i, gInt_i, gInt_b, gInp_a, gInp_s, gLen_t, gTuple_t, gList_t, asgT, asgL, tyD, Ev.isNon, gRange1_i, Ty.isa, List.getElem?_cons_zero, List.getElem?_cons_succ, List.set_cons_zero, List.set_cons_succ, List.map_cons, List.map_nil, List.cons_append, List.nil_append, List.any_cons, List.any_nil, Option.map_some, Option.map_none, Bool.or_false, Bool.false_or, Bool.or_true, Bool.true_or, Bool.and_true, Bool.true_and, Bool.and_false, Bool.false_and, Bool.not_true, Bool.not_false, Bool.false_eq_true, if_false, if_true]; rfl)]
      exact xseq_rt (by simp only [xsAsg, xsPar, xsIf, xsRet, xsRetN, xsExp, xsSet, xsAug, xsAugS, xsBrk, xsCnt, xsRaise, xsNil, exE, xVar, xLit, xNeg, xIsN, xBin, xChain, xAnd, xOr, xNot, xIte, xNil, xCons, xTup, xLst, xFN, xMt, xIsi, xIsx, xCall, xSl1, xRev, xNewL, xFC, xXv, xIt, xSeq, nth, R.bd, R.sb, RS.to, R.to, xto, xtoH, xfin, xfinE, xck, frcD_eq, frcD1_eq, frcN_eq, frcI_eq, frcL_eq, frcDs_eq, lay_eq, put_eq, gAdd_i, gAdd_s, gSub_i, gEq_i, gEq_b, gNe_i, gNe_b, gLt_i, gLe_i, gGt_i, gGe_i, gInt_i, gInt_b, gInp_a, gInp_s, gLen_t, gTuple_t, gList_t, asgT, asgL, tyD, Ev.isNon, gRange1_i, Ty.isa, List.getElem?_cons_zero, List.getElem?_cons_succ, List.set_cons_zero, List.set_cons_succ, List.map_cons, List.map_nil, List.cons_append, List.nil_append, List.any_cons, List.any_nil, Option.map_some, Option.map_none, Bool.or_false, Bool.false_or, Bool.or_true, Bool.true_or, Bool.and_true, Bool.true_and, Bool.and_false, Bool.false_and, Bool.not_true, Bool.not_false, Bool.false_eq_true, if_false, if_true, decide_true])
    | str b =>
      subst s
      rw [xseq_nx (by simp only [xsAsg, xsPar, xsIf, xsRet, xsRetN, xsExp, xsSet, xsAug, xsAugS, xsBrk, xsCnt, xsRaise, xsNil, exE, xVar, xLit, xNeg, xIsN, xBin, xChain, xAnd, xOr, xNot, xIte, xNil, xCons, xTup, xLst, xFN, xMt, xIsi, xIsx, xCall, xSl1, xRev, xNewL, xFC, xXv, xIt, xSeq, nth, R.bd, R.sb, RS.to, R.to, xto, xtoH, xfin, xfinE, xck, frcD_eq, frcD1_eq, frcN_eq, frcI_eq, frcL_eq, frcDs_eq, lay_eq, put_eq, gAdd_i, gAdd_s, gSub_i, gEq_i, gEq_b, gNe_i, gNe_b, gLt_i, gLe_i, gGt_i, gGe_i, gInt_i, gInt_b, gInp_a, gInp_s, gLen_t, gTuple_t, gList_t, asgT, asgL, tyD, Ev.isNon, gRange1_i, Ty.isa, List.getElem?_cons_zero, List.getElem?_cons_succ, List.set_cons_zero, List.set_cons_succ, List.map_cons, List.map_nil, List.cons_append, List.nil_append, List.any_cons, List.any_nil, Option.map_some, Option.map_none, Bool.or_false, Bool.false_or, Bool.or_true, Bool.true_or, Bool.and_true, Bool.true_and, Bool.and_false, Bool.false_and, Bool.not_true, Bool.not_false, Bool.false_eq_true, if_false, if_true]; rfl)]
      exact xseq_rt (by simp only [xsAsg, xsPar, xsIf, xsRet, xsRetN, xsExp, xsSet, xsAug, xsAugS, xsBrk, xsCnt, xsRaise, xsNil, exE, xVar, xLit, xNeg, xIsN, xBin, xChain, xAnd, xOr, xNot, xIte, xNil, xCons, xTup, xLst, xFN, xMt, xIsi, xIsx, xCall, xSl1, xRev, xNewL, xFC, xXv, xIt, xSeq, nth, R.bd, R.sb, RS.to, R.to, xto, xtoH, xfin, xfinE, xck, frcD_eq, frcD1_eq, frcN_eq, frcI_eq, frcL_eq, frcDs_eq, lay_eq, put_eq, gAdd_i, gAdd_s, gSub_i, gEq_i, gEq_b, gNe_i, gNe_b, gLt_i, gLe_i, gGt_i, gGe_i, gInt_i, gInt_b, gInp_a, gInp_s, gLen_t, gTuple_t, gList_t, asgT, asgL, tyD, Ev.isNon, gRange1_i, Ty.isa, List.getElem?_cons_zero, List.getElem?_cons_succ, List.set_cons_zero, List.set_cons_succ, List.map_cons, List.map_nil, List.cons_append, List.nil_append, List.any_cons, List.any_nil, Option.map_some, Option.map_none, Bool.or_false, Bool.false_or, Bool.or_true, Bool.true_or, Bool.and_true, Bool.true_and, Bool.and_false, Bool.false_and, Bool.not_true, Bool.not_false, Bool.false_eq_true, if_false, if_true, decide_true, gEq_s])
    | int b =>
      subst s
      rw [xseq_nx (by simp only [xsAsg, xsPar, xsIf, xsRet, xsRetN, xsExp, xsSet, xsAug, xsAugS, xsBrk, xsCnt, xsRaise, xsNil, exE, xVar, xLit, xNeg, xIsN, xBin, xChain, xAnd, xOr, xNot, xIte, xNil, xCons, xTup, xLst, xFN, xMt, xIsi, xIsx, xCall, xSl1, xRev, xNewL, xFC, xXv, xIt, xSeq, nth, R.bd, R.sb, RS.to, R.to, xto, xtoH, xfin, xfinE, xck, frcD_eq, frcD1_eq, frcN_eq, frcI_eq, frcL_eq, frcDs_eq, lay_eq, put_eq, gAdd_i, gAdd_s, gSub_i, gEq_i, gEq_b, gNe_i, gNe_b, gLt_i, gLe_i, gGt_i, gGe_i, gInt_i, gInt_b, gInp_a, gInp_s, gLen_t, gTuple_t, gList_t, asgT, asgL, tyD, Ev.isNon, gRange1_i, Ty.isa, List.getElem?_cons_zero, List.getElem?_cons_succ, List.set_cons_zero, List.set_cons_succ, List.map_cons, List.map_nil, List.cons_append, List.nil_append, List.any_cons, List.any_nil, Option.map_some, Option.map_none, Bool.or_false, Bool.false_or, Bool.or_true, Bool.true_or, Bool.and_true, Bool.true_and, Bool.and_false, Bool.false_and, Bool.not_true, Bool.not_false, Bool.false_eq_true, if_false, if_true]; rfl), xseq_nx (by simp only [xsAsg, xsPar, xsIf, xsRet, xsRetN, xsExp, xsSet, xsAug, xsAugS, xsBrk, xsCnt, xsRaise, xsNil, exE, xVar, xLit, xNeg, xIsN, xBin, xChain, xAnd, xOr, xNot, xIte, xNil, xCons, xTup, xLst, xFN, xMt, xIsi, xIsx, xCall, xSl1, xRev, xNewL, xFC, xXv, xIt, xSeq, nth, R.bd, R.sb, RS.to, R.to, xto, xtoH, xfin, xfinE, xck, frcD_eq, frcD1_eq, frcN_eq, frcI_eq, frcL_eq, frcDs_eq, lay_eq, put_eq, gAdd_i, gAdd_s, gSub_i, gEq_i, gEq_b, gNe_i, gNe_b, gLt_i, gLe_i, gGt_i, gGe_i, gInt_i, gInt_b, gInp_a, gInp_s, gLen_t, gTuple_t, gList_t, asgT, asgL, tyD, Ev.isNon, gRange1_i, Ty.isa, List.getElem?_cons_zero, List.getElem?_cons_succ, List.set_cons_zero, List.set_cons_succ, List.map_cons, List.map_nil, List.cons_append, List.nil_append, List.any_cons, List.any_nil, Option.map_some, Option.map_none, Bool.or_false, Bool.false_or, Bool.or_true, Bool.true_or, Bool.and_true, Bool.true_and, Bool.and_false, Bool.false_and, Bool.not_true, Bool.not_false, Bool.false_eq_true, if_false, if_true]; rfl)]
      exact xseq_rt (by simp only [xsAsg, xsPar, xsIf, xsRet, xsRetN, xsExp, xsSet, xsAug, xsAugS, xsBrk, xsCnt, xsRaise, xsNil, exE, xVar, xLit, xNeg, xIsN, xBin, xChain, xAnd, xOr, xNot, xIte, xNil, xCons, xTup, xLst, xFN, xMt, xIsi, xIsx, xCall, xSl1, xRev, xNewL, xFC, xXv, xIt, xSeq, nth, R.bd, R.sb, RS.to, R.to, xto, xtoH, xfin, xfinE, xck, frcD_eq, frcD1_eq, frcN_eq, frcI_eq, frcL_eq, frcDs_eq, lay_eq, put_eq, gAdd_i, gAdd_s, gSub_i, gEq_i, gEq_b, gNe_i, gNe_b, gLt_i, gLe_i, gGt_i, gGe_i, gInt_i, gInt_b, gInp_a, gInp_s, gLen_t, gTuple_t, gList_t, asgT, asgL, tyD, Ev.isNon, gRange1_i, Ty.isa, List.getElem?_cons_zero, List.getElem?_cons_succ, List.set_cons_zero, List.set_cons_succ, List.map_cons, List.map_nil, List.cons_append, List.nil_append, List.any_cons, List.any_nil, Option.map_some, Option.map_none, Bool.or_false, Bool.false_or, Bool.or_true, Bool.true_or, Bool.and_true, Bool.true_and, Bool.and_false, Bool.false_and, Bool.not_true, Bool.not_false, Bool.false_eq_true, if_false, if_true, decide_true])
    | tup ds =>
      obtain ⟨gs, rfl, hl, hs, hh⟩ := s
      rw [xseq_nx (by simp only [xsAsg, xsPar, xsIf, xsRet, xsRetN, xsExp, xsSet, xsAug, xsAugS, xsBrk, xsCnt, xsRaise, xsNil, exE, xVar, xLit, xNeg, xIsN, xBin, xChain, xAnd, xOr, xNot, xIte, xNil, xCons, xTup, xLst, xFN, xMt, xIsi, xIsx, xCall, xSl1, xRev, xNewL, xFC, xXv, xIt, xSeq, nth, R.bd, R.sb, RS.to, R.to, xto, xtoH, xfin, xfinE, xck, frcD_eq, frcD1_eq, frcN_eq, frcI_eq, frcL_eq, frcDs_eq, lay_eq, put_eq, gAdd_i, gAdd_s, gSub_i, gEq_i, gEq_b, gNe_i, gNe_b, gLt_i, gLe_i, gGt_i, gGe_i, gInt_i, gInt_b, gInp_a, gInp_s, gLen_t, gTuple_t, gList_t, asgT, asgL, tyD, Ev.isNon, gRange1_i, Ty.isa, List.getElem?_cons_zero, List.getElem?_cons_succ, List.set_cons_zero, List.set_cons_succ, List.map_cons, List.map_nil, List.cons_append, List.nil_append, List.any_cons, List.any_nil, Option.map_some, Option.map_none, Bool.or_false, Bool.false_or, Bool.or_true, Bool.true_or, Bool.and_true, Bool.true_and, Bool.and_false, Bool.false_and, Bool.not_true, Bool.not_false, Bool.false_eq_true, if_false, if_true]; rfl), xseq_nx (by simp only [xsAsg, xsPar, xsIf, xsRet, xsRetN, xsExp, xsSet, xsAug, xsAugS, xsBrk, xsCnt, xsRaise, xsNil, exE, xVar, xLit, xNeg, xIsN, xBin, xChain, xAnd, xOr, xNot, xIte, xNil, xCons, xTup, xLst, xFN, xMt, xIsi, xIsx, xCall, xSl1, xRev, xNewL, xFC, xXv, xIt, xSeq, nth, R.bd, R.sb, RS.to, R.to, xto, xtoH, xfin, xfinE, xck, frcD_eq, frcD1_eq, frcN_eq, frcI_eq, frcL_eq, frcDs_eq, lay_eq, put_eq, gAdd_i, gAdd_s, gSub_i, gEq_i, gEq_b, gNe_i, gNe_b, gLt_i, gLe_i, gGt_i, gGe_i, gInt_i, gInt_b, gInp_a, gInp_s, gLen_t, gTuple_t, gList_t, asgT, asgL, tyD, Ev.isNon, gRange1_i, Ty.isa, List.getElem?_cons_zero, List.getElem?_cons_succ, List.set_cons_zero, List.set_cons_succ, List.map_cons, List.map_nil, List.cons_append, List.nil_append, List.any_cons, List.any_nil, Option.map_some, Option.map_none, Bool.or_false, Bool.false_or, Bool.or_true, Bool.true_or, Bool.and_true, Bool.true_and, Bool.and_false, Bool.false_and, Bool.not_true, Bool.not_false, Bool.false_eq_true, if_false, if_true]; rfl), xseq_nx (by simp only [xsAsg, xsPar, xsIf, xsRet, xsRetN, xsExp, xsSet, xsAug, xsAugS, xsBrk, xsCnt, xsRaise, xsNil, exE, xVar, xLit, xNeg, xIsN, xBin, xChain, xAnd, xOr, xNot, xIte, xNil, xCons, xTup, xLst, xFN, xMt, xIsi, xIsx, xCall, xSl1, xRev, xNewL, xFC, xXv, xIt, xSeq, nth, R.bd, R.sb, RS.to, R.to, xto, xtoH, xfin, xfinE, xck, frcD_eq, frcD1_eq, frcN_eq, frcI_eq, frcL_eq, frcDs_eq, lay_eq, put_eq, gAdd_i, gAdd_s, gSub_i, gEq_i, gEq_b, gNe_i, gNe_b, gLt_i, gLe_i, gGt_i, gGe_i, gInt_i, gInt_b, gInp_a, gInp_s, gLen_t, gTuple_t, gList_t, asgT, asgL, tyD, Ev.isNon, gRange1_i, Ty.isa, List.getElem?_cons_zero, List.getElem?_cons_succ, List.set_cons_zero, List.set_cons_succ, List.map_cons, List.map_nil, List.cons_append, List.nil_append, List.any_cons, List.any_nil, Option.map_some, Option.map_none, Bool.or_false, Bool.false_or, Bool.or_true, Bool.true_or, Bool.and_true, Bool.true_and, Bool.and_false, Bool.false_and, Bool.not_true, Bool.not_false, Bool.false_eq_true, if_false, if_true]; rfl), xseq_nx (by simp only [xsAsg, xsPar, xsIf, xsRet, xsRetN, xsExp, xsSet, xsAug, xsAugS, xsBrk, xsCnt, xsRaise, xsNil, exE, xVar, xLit, xNeg, xIsN, xBin, xChain, xAnd, xOr, xNot, xIte, xNil, xCons, xTup, xLst, xFN, xMt, xIsi, xIsx, xCall, xSl1, xRev, xNewL, xFC, xXv, xIt, xSeq, nth, R.bd, R.sb, RS.to, R.to, xto, xtoH, xfin, xfinE, xck, frcD_eq, frcD1_eq, frcN_eq, frcI_eq, frcL_eq, frcDs_eq, lay_eq, put_eq, gAdd_i, gAdd_s, gSub_i, gEq_i, gEq_b, gNe_i, gNe_b, gLt_i, gLe_i, gGt_i, gGe_i, gInt_i, gInt_b, gInp_a, gInp_s, gLen_t, gTuple_t, gList_t, asgT, asgL, tyD, Ev.isNon, gRange1_i, Ty.isa, List.getElem?_cons_zero, List.getElem?_cons_succ, List.set_cons_zero, List.set_cons_succ, List.map_cons, List.map_nil, List.cons_append, List.nil_append, List.any_cons, List.any_nil, Option.map_some, Option.map_none, Bool.or_false, Bool.false_or, Bool.or_true, Bool.true_or, Bool.and_true, Bool.true_and, Bool.and_false, Bool.false_and, Bool.not_true, Bool.not_false, Bool.false_eq_true, if_false, if_true, decide_true]; rfl)]
      exact xsame_seq hl hs (by omega) rfl (fun i g e => gIx_t (atI_nat e)) (fun i g e => gIx_t (atI_nat e)) (fun i g d e1 e2 => ih (hh i g d e1 e2)) rfl
    | ref k =>
      obtain ⟨l, gs, ds, rfl, e1, e2, hl, hs, hh⟩ := s
      rw [xseq_nx (by simp only [xsAsg, xsPar, xsIf, xsRet, xsRetN, xsExp, xsSet, xsAug, xsAugS, xsBrk, xsCnt, xsRaise, xsNil, exE, xVar, xLit, xNeg, xIsN, xBin, xChain, xAnd, xOr, xNot, xIte, xNil, xCons, xTup, xLst, xFN, xMt, xIsi, xIsx, xCall, xSl1, xRev, xNewL, xFC, xXv, xIt, xSeq, nth, R.bd, R.sb, RS.to, R.to, xto, xtoH, xfin, xfinE, xck, frcD_eq, frcD1_eq, frcN_eq, frcI_eq, frcL_eq, frcDs_eq, lay_eq, put_eq, gAdd_i, gAdd_s, gSub_i, gEq_i, gEq_b, gNe_i, gNe_b, gLt_i, gLe_i, gGt_i, gGe_i, gInt_i, gInt_b, gInp_a, gInp_s, gLen_t, gTuple_t, gList_t, asgT, asgL, tyD, Ev.isNon, gRange1_i, Ty.isa, List.getElem?_cons_zero, List.getElem?_cons_succ, List.set_cons_zero, List.set_cons_succ, List.map_cons, List.map_nil, List.cons_append, List.nil_append, List.any_cons, List.any_nil, Option.map_some, Option.map_none, Bool.or_false, Bool.false_or, Bool.or_true, Bool.true_or, Bool.and_true, Bool.true_and, Bool.and_false, Bool.false_and, Bool.not_true, Bool.not_false, Bool.false_eq_true, if_false, if_true, e1, e2]; rfl), xseq_nx (by simp only [xsAsg, xsPar, xsIf, xsRet, xsRetN, xsExp, xsSet, xsAug, xsAugS, xsBrk, xsCnt, xsRaise, xsNil, exE, xVar, xLit, xNeg, xIsN, xBin, xChain, xAnd, xOr, xNot, xIte, xNil, xCons, xTup, xLst, xFN, xMt, xIsi, xIsx, xCall, xSl1, xRev, xNewL, xFC, xXv, xIt, xSeq, nth, R.bd, R.sb, RS.to, R.to, xto, xtoH, xfin, xfinE, xck, frcD_eq, frcD1_eq, frcN_eq, frcI_eq, frcL_eq, frcDs_eq, lay_eq, put_eq, gAdd_i, gAdd_s, gSub_i, gEq_i, gEq_b, gNe_i, gNe_b, gLt_i, gLe_i, gGt_i, gGe_i, gInt_i, gInt_b, gInp_a, gInp_s, gLen_t, gTuple_t, gList_t, asgT, asgL, tyD, Ev.isNon, gRange1_i, Ty.isa, List.getElem?_cons_zero, List.getElem?_cons_succ, List.set_cons_zero, List.set_cons_succ, List.map_cons, List.map_nil, List.cons_append, List.nil_append, List.any_cons, List.any_nil, Option.map_some, Option.map_none, Bool.or_false, Bool.false_or, Bool.or_true, Bool.true_or, Bool.and_true, Bool.true_and, Bool.and_false, Bool.false_and, Bool.not_true, Bool.not_false, Bool.false_eq_true, if_false, if_true, e1, e2]; rfl), xseq_nx (by simp only [xsAsg, xsPar, xsIf, xsRet, xsRetN, xsExp, xsSet, xsAug, xsAugS, xsBrk, xsCnt, xsRaise, xsNil, exE, xVar, xLit, xNeg, xIsN, xBin, xChain, xAnd, xOr, xNot, xIte, xNil, xCons, xTup, xLst, xFN, xMt, xIsi, xIsx, xCall, xSl1, xRev, xNewL, xFC, xXv, xIt, xSeq, nth, R.bd, R.sb, RS.to, R.to, xto, xtoH, xfin, xfinE, xck, frcD_eq, frcD1_eq, frcN_eq, frcI_eq, frcL_eq, frcDs_eq, lay_eq, put_eq, gAdd_i, gAdd_s, gSub_i, gEq_i, gEq_b, gNe_i, gNe_b, gLt_i, gLe_i, gGt_i, gGe_i, gInt_i, gInt_b, gInp_a, gInp_s, gLen_t, gTuple_t, gList_t, asgT, asgL, tyD, Ev.isNon, gRange1_i, Ty.isa, List.getElem?_cons_zero, List.getElem?_cons_succ, List.set_cons_zero, List.set_cons_succ, List.map_cons, List.map_nil, List.cons_append, List.nil_append, List.any_cons, List.any_nil, Option.map_some, Option.map_none, Bool.or_false, Bool.false_or, Bool.or_true, Bool.true_or, Bool.and_true, Bool.true_and, Bool.and_false, Bool.false_and, Bool.not_true, Bool.not_false, Bool.false_eq_true, if_false, if_true, e1, e2]; rfl), xseq_nx (by simp only [xsAsg, xsPar, xsIf, xsRet, xsRetN, xsExp, xsSet, xsAug, xsAugS, xsBrk, xsCnt, xsRaise, xsNil, exE, xVar, xLit, xNeg, xIsN, xBin, xChain, xAnd, xOr, xNot, xIte, xNil, xCons, xTup, xLst, xFN, xMt, xIsi, xIsx, xCall, xSl1, xRev, xNewL, xFC, xXv, xIt, xSeq, nth, R.bd, R.sb, RS.to, R.to, xto, xtoH, xfin, xfinE, xck, frcD_eq, frcD1_eq, frcN_eq, frcI_eq, frcL_eq, frcDs_eq, lay_eq, put_eq, gAdd_i, gAdd_s, gSub_i, gEq_i, gEq_b, gNe_i, gNe_b, gLt_i, gLe_i, gGt_i, gGe_i, gInt_i, gInt_b, gInp_a, gInp_s, gLen_t, gTuple_t, gList_t, asgT, asgL, tyD, Ev.isNon, gRange1_i, Ty.isa, List.getElem?_cons_zero, List.getElem?_cons_succ, List.set_cons_zero, List.set_cons_succ, List.map_cons, List.map_nil, List.cons_append, List.nil_append, List.any_cons, List.any_nil, Option.map_some, Option.map_none, Bool.or_false, Bool.false_or, Bool.or_true, Bool.true_or, Bool.and_true, Bool.true_and, Bool.and_false, Bool.false_and, Bool.not_true, Bool.not_false, Bool.false_eq_true, if_false, if_true, decide_true, e1, e2]; rfl)]
      exact xsame_seq hl hs (by omega) (gLen_l e2) (fun i g e => gIx_l e1 (atI_nat e)) (fun i g e => gIx_l e2 (atI_nat e)) (fun i g d e1 e2 => ih (hh i g d e1 e2)) (gLen_l e1)
    | _ => exact s.elim
end Ev

set_option Elab.async false
set_option linter.all false
set_option maxRecDepth 100000
set_option maxHeartbeats 0
/-! X8c: loops, heaps that grow, checks of data. -/
namespace Ev
open PySem PySem.Spec PyProof.Rows L2 NdefX
/-! ### loops by an invariant -/
theorem xfor_inv {it : ItF} {t : Tg} {b : XS} {F : Nat} {Dn : ED} {xs : List D} (I : Nat → Env → VH → Prop) (hF : xs.length < F) (hit : ∀ j e h, I j e h → it j h = some xs[j]?)
    (hb : ∀ j x e h, xs[j]? = some x → I j e h → ∃ e2, asgT t x h e = some e2 ∧ (b e2 h).to { Dn with nx := fun e h => I (j + 1) e h, ct := fun e h => I (j + 1) e h, bk := Dn.nx })
    (hd : ∀ e h, I xs.length e h → Dn.nx e h) {env : Env} {h : VH} (h0 : I 0 env h) : (xfoL it t b F 0 env h).to Dn := by
  have key : ∀ n i e h, i ≤ xs.length → xs.length < n + i → I i e h → (xfoL it t b n i e h).to Dn := by
    intro n
    induction n with
    | zero => intro i e h h1 h2; omega
    | succ n ih =>
      intro i e h h1 h2 hi
      unfold xfoL
      rw [hit i e h hi]
      cases z : xs[i]? with
      | none =>
        have : xs.length ≤ i := List.getElem?_eq_none_iff.mp z
        have : i = xs.length := by omega
        subst this
        exact hd e h hi
      | some x =>
        obtain ⟨e2, a1, a2⟩ := hb i x e h z hi
        have hl : i < xs.length := (List.getElem?_eq_some_iff.mp z).1
        simp only [frcD_eq, frcN_eq, frcL_eq, a1]
        revert a2
        cases b e2 h with
        | nx e h => exact fun q => ih (i + 1) e h hl (by omega) q
        | ct e h => exact fun q => ih (i + 1) e h hl (by omega) q
        | _ => exact fun q => q
  exact key F 0 env h (Nat.zero_le _) (by omega) h0
theorem xfor_rng {n i : Nat} {b : XS} {F : Nat} {Dn : ED} (I : Nat → Env → VH → Prop) (hF : n < F)
    (hb : ∀ (j : Nat) e h, j < n → I j e h → (b (e.set i (some (.int (j : Nat)))) h).to { Dn with nx := fun e h => I (j + 1) e h, ct := fun e h => I (j + 1) e h, bk := Dn.nx })
    (hd : ∀ e h, I n e h → Dn.nx e h) {env : Env} {h : VH} (h0 : I 0 env h) : (xfoL (itRng 0 n 1) (.nm i) b F 0 env h).to Dn := by
  have hl : ((List.range n).map fun j => D.int (j : Nat)).length = n := by simp
  refine xfor_inv (xs := (List.range n).map fun j => D.int (j : Nat)) I (by rw [hl]; exact hF) (fun j e h _ => itRng_map j) (fun j x e h z hi => ?_) (fun e h hi => hd e h (by rw [hl] at hi; exact hi)) h0
  have hj : j < n := by
    have := (List.getElem?_eq_some_iff.mp z).1
    simpa using this
  rw [List.getElem?_map, List.getElem?_range hj] at z
  cases z
  exact ⟨_, rfl, hb j e h hj hi⟩
/-- for .. in range(n), n written -/
theorem xfor_lit {F : Nat} {i : Int} {t : Tg} {b : XS} {env : Env} {h : VH} (hb : big62 i = true) : xsFor F (xIt gRange1 (xCons (xLit (.int i)) xNil)) t b env h = xfoL (itRng 0 i.toNat 1) t b F 0 env h := by
  simp only [xsFor, xIt, xCons, xLit, xNil, R.bd, R.sb, gRange1_i hb]
/-! ### heaps that only grow -/
structure Up (h h' : VH) : Prop where
  len : h.length ≤ h'.length
  at_ : ∀ l, l < h.length → h'[l]? = h[l]?
theorem Up.refl (h : VH) : Up h h := ⟨Nat.le_refl _, fun _ _ => rfl⟩
theorem Up.trans {a b c : VH} (x : Up a b) (y : Up b c) : Up a c := ⟨Nat.le_trans x.len y.len, fun l hl => (y.at_ l (Nat.lt_of_lt_of_le hl x.len)).trans (x.at_ l hl)⟩
theorem Up.app {h g : VH} : Up h (h ++ g) := ⟨by simp, fun l hl => List.getElem?_append_left hl⟩
theorem Up.cat {h g : VH} : Up h (catV h g) := Up.app
theorem Up.lst {h h' : VH} (u : Up h h') {k : Nat} {ds : List D} (e : lstAt h k = some ds) : lstAt h' k = some ds := by
  have := u.at_ k (lstAt_len e)
  unfold lstAt at e ⊢
  rw [this]
  exact e
theorem Up.pot {h h' : VH} (u : Up h h') {k c : Nat} (p : PotAt h k c) : PotAt h' k c := by
  obtain ⟨i, j, k', p', cells, e, C, hl⟩ := p
  exact ⟨i, j, k', p', cells, u.lst e, C, hl⟩
/-- all but one list stay, more may come -/
structure Gr (kp : Nat) (h h' : VH) : Prop where
  len : h.length ≤ h'.length
  at_ : ∀ l, l < h.length → l ≠ kp → lstAt h' l = lstAt h l
theorem Gr.refl {kp : Nat} (h : VH) : Gr kp h h := ⟨Nat.le_refl _, fun _ _ _ => rfl⟩
theorem Gr.trans {kp : Nat} {a b c : VH} (x : Gr kp a b) (y : Gr kp b c) : Gr kp a c := ⟨Nat.le_trans x.len y.len, fun l hl n => (y.at_ l (Nat.lt_of_lt_of_le hl x.len) n).trans (x.at_ l hl n)⟩
theorem Up.gr {kp : Nat} {h h' : VH} (u : Up h h') : Gr kp h h' := ⟨u.len, fun l hl _ => by unfold lstAt; rw [u.at_ l hl]⟩
theorem Gr.lst {kp : Nat} {h h' : VH} (u : Gr kp h h') {k : Nat} {ds : List D} (e : lstAt h k = some ds) (n : k ≠ kp) : lstAt h' k = some ds := (u.at_ k (lstAt_len e) n).trans e
/-- a draw, as an equation -/
theorem xtake_eq {h : VH} {kk c : Nat} {many : Int} (hp : PotAt h kk c) (hc : c ≤ 1000000) (hm : 0 < many) (hm2 : many.natAbs.log2 < 8000) : ∃ v h', xp_take [.ref kk, .int many] h = .ok (.int v) h' ∧ 0 ≤ v ∧ v < many ∧ Gr kk h h' ∧ PotAt h' kk (c + 1) := by
  have q : (xp_take [.ref kk, .int many] h).to (fun d h' => ∃ v, d = .int v ∧ 0 ≤ v ∧ v < many ∧ Gr kk h h' ∧ PotAt h' kk (c + 1)) noX := xtake_ok hp hc hm hm2 fun v h' a1 a2 a3 a4 a5 => ⟨v, rfl, a1, a2, ⟨Nat.le_of_eq a3.symm, fun l _ n => a4 l n⟩, a5⟩
  revert q
  cases xp_take [.ref kk, .int many] h with
  | ok d h' =>
    intro q
    obtain ⟨v, rfl, a1, a2, a3, a4⟩ := q
    exact ⟨v, h', rfl, a1, a2, a3, a4⟩
  | ex c d h' => exact fun q => q.elim
  | no => exact fun q => q.elim
/-! ### data -/
mutual
def eqDD : D → D → Bool
  | .non, .non => true
  | .bl a, .bl b => a == b
  | .int i, .int j => decide (i = j)
  | .str x, .str y => decide (x = y)
  | .tup a, .tup b => eqDA a b
  | .ref j, .ref k => decide (j = k)
  | _, _ => false
def eqDA : List D → List D → Bool
  | [], [] => true
  | a :: as, b :: bs => match eqDD a b with
    | true => eqDA as bs
    | false => false
  | _, _ => false
end
mutual
theorem eqDD_ok : ∀ {a b : D}, eqDD a b = true → a = b
  | .non, .non, _ => rfl
  | .bl a, .bl b, h => by rw [beq_iff_eq.mp (show (a == b) = true from h)]
  | .int i, .int j, h => by rw [of_decide_eq_true (show decide (i = j) = true from h)]
  | .str x, .str y, h => by rw [of_decide_eq_true (show decide (x = y) = true from h)]
  | .tup a, .tup b, h => by rw [eqDA_ok (show eqDA a b = true from h)]
  | .ref j, .ref k, h => by rw [of_decide_eq_true (show decide (j = k) = true from h)]
theorem eqDA_ok : ∀ {a b : List D}, eqDA a b = true → a = b
  | [], [], _ => rfl
  | a :: as, b :: bs, h => by
    have h : (match eqDD a b with | true => eqDA as bs | false => false) = true := h
    cases z : eqDD a b with
    | false => rw [z] at h; cases h
    | true =>
      rw [z] at h
      rw [eqDD_ok z, eqDA_ok h]
end
mutual
theorem shf_free {n : Nat} : ∀ {d : D}, free d = true → shf n d = d
  | .ref _, h => by cases h
  | .tup ds, h => by show D.tup (shfA n ds) = _; rw [shfA_free (show freeA ds = true from h)]
  | .cl ds, h => by show D.cl (shfA n ds) = _; rw [shfA_free (show freeA ds = true from h)]
  | .exn c d, h => by show D.exn c (shf n d) = _; rw [shf_free (show free d = true from h)]
  | .non, _ => rfl
  | .bl _, _ => rfl
  | .int _, _ => rfl
  | .str _, _ => rfl
  | .ty _, _ => rfl
  | .own _, _ => rfl
  | .fn _, _ => rfl
theorem shfA_free {n : Nat} : ∀ {ds : List D}, freeA ds = true → shfA n ds = ds
  | [], _ => rfl
  | d :: ds, h => by
    have h : (match free d with | true => freeA ds | false => false) = true := h
    cases z : free d with
    | false => rw [z] at h; cases h
    | true =>
      rw [z] at h
      show shf n d :: shfA n ds = _
      rw [shf_free z, shfA_free h]
end
theorem lstAt_cat {h g : VH} {k : Nat} {ds : List D} (e : lstAt g k = some ds) : lstAt (catV h g) (h.length + k) = some (shfA h.length ds) := by
  unfold lstAt at e ⊢
  unfold catV
  rw [List.getElem?_append_right (by omega), Nat.add_sub_cancel_left, List.getElem?_map]
  cases z : g[k]? with
  | none => rw [z] at e; cases e
  | some o =>
    rw [z] at e
    cases o with
    | lst ds' =>
      cases e
      rfl
theorem freeA_cons {d : D} {ds : List D} (h1 : free d = true) (h2 : freeA ds = true) : freeA (d :: ds) = true := by
  show (match free d with | true => freeA ds | false => false) = true
  rw [h1]
  exact h2
theorem freeA_ints (l : List Int) : freeA (l.map D.int) = true := by
  induction l with
  | nil => rfl
  | cons a l ih => exact freeA_cons rfl ih
mutual
def plainD : Nat → D → Bool
  | 0, _ => false
  | _ + 1, .non => true
  | _ + 1, .bl _ => true
  | _ + 1, .int _ => true
  | _ + 1, .str _ => true
  | n + 1, .tup ds => decide (ds.length < 1000000) && plainA n ds
  | _ + 1, _ => false
def plainA : Nat → List D → Bool
  | _, [] => true
  | n, d :: ds => plainD n d && plainA n ds
end
mutual
theorem same_self {h : VH} : ∀ {n : Nat} {d : D}, plainD n d = true → SameD h n d d
  | 0, _, e => by unfold plainD at e; cases e
  | n + 1, .non, _ => rfl
  | n + 1, .bl _, _ => rfl
  | n + 1, .int _, _ => rfl
  | n + 1, .str _, _ => rfl
  | n + 1, .tup ds, e => by
    obtain ⟨e1, e2⟩ := Bool.and_eq_true_iff.mp (show (decide (ds.length < 1000000) && plainA n ds) = true from e)
    refine ⟨ds, rfl, rfl, of_decide_eq_true e1, fun i g d h1 h2 => ?_⟩
    rw [h1] at h2
    cases h2
    exact same_selfA e2 i g h1
theorem same_selfA {h : VH} : ∀ {n : Nat} {ds : List D}, plainA n ds = true → ∀ (i : Nat) (g : D), ds[i]? = some g → SameD h n g g
  | _, [], _, i, g, h1 => by simp at h1
  | n, d :: ds, e, i, g, h1 => by
    obtain ⟨e1, e2⟩ := Bool.and_eq_true_iff.mp (show (plainD n d && plainA n ds) = true from e)
    cases i with
    | zero =>
      simp at h1
      subst h1
      exact same_self e1
    | succ i => exact same_selfA e2 i g (by simpa using h1)
end
end Ev

set_option Elab.async false
set_option linter.all false
set_option maxRecDepth 100000
set_option maxHeartbeats 0
namespace K85
open PySem PySem.Spec PyProof.Rows L2 NdefX Ev
def top (i : Nat) : Stmt := PySem.Challenge.pw_wholedigits_k85_texts_that_are_none.main.body.getD i (.Pass ⟨0, 0, 0, 0⟩)
def xcs : List Str := ["InvalidInteger", "Unreadable"]
def sub_DigitsError : SubF := fun c => if c = "InvalidInteger" then some true else if c = "Unreadable" then some true else none
def sub_InvalidInteger : SubF := fun c => if c = "InvalidInteger" then some true else if c = "Unreadable" then some false else none
def isi_Unreadable : SubF := fun c => if c = "InvalidInteger" then some false else if c = "Unreadable" then some true else none
structure Fx (P : Program) (w : World) (K : PySem.W.Frag) (mg : Str → Option Value) (base : Heap) where
  d_is_integer : ∃ f fd, mg "is_integer" = some (.ref f) ∧ FunD K "is_integer" "is_integer" (defArgs (top 9)) (defBody (top 9)) (defScope (top 9)) [] [] f fd
  d_is_natural : ∃ f fd, mg "is_natural" = some (.ref f) ∧ FunD K "is_natural" "is_natural" (defArgs (top 10)) (defBody (top 10)) (defScope (top 10)) [] [] f fd
  d_is_base : ∃ f fd, mg "is_base" = some (.ref f) ∧ FunD K "is_base" "is_base" (defArgs (top 11)) (defBody (top 11)) (defScope (top 11)) [] [] f fd
  d_is_letter : ∃ f fd, mg "is_letter" = some (.ref f) ∧ FunD K "is_letter" "is_letter" (defArgs (top 12)) (defBody (top 12)) (defScope (top 12)) [] [] f fd
  d_is_word : ∃ f fd, mg "is_word" = some (.ref f) ∧ FunD K "is_word" "is_word" (defArgs (top 13)) (defBody (top 13)) (defScope (top 13)) [] [] f fd
  d_are_below : ∃ f fd, mg "are_below" = some (.ref f) ∧ FunD K "are_below" "are_below" (defArgs (top 14)) (defBody (top 14)) (defScope (top 14)) [] [] f fd
  d_power : ∃ f fd, mg "power" = some (.ref f) ∧ FunD K "power" "power" (defArgs (top 15)) (defBody (top 15)) (defScope (top 15)) [] [] f fd
  d_is_state : ∃ f fd, mg "is_state" = some (.ref f) ∧ FunD K "is_state" "is_state" (defArgs (top 17)) (defBody (top 17)) (defScope (top 17)) [] [] f fd
  d_is_row_value : ∃ f fd, mg "is_row_value" = some (.ref f) ∧ FunD K "is_row_value" "is_row_value" (defArgs (top 18)) (defBody (top 18)) (defScope (top 18)) [] [] f fd
  d_is_poly : ∃ f fd, mg "is_poly" = some (.ref f) ∧ FunD K "is_poly" "is_poly" (defArgs (top 20)) (defBody (top 20)) (defScope (top 20)) [] [] f fd
  d_check_prime : ∃ f fd, mg "check_prime" = some (.ref f) ∧ FunD K "check_prime" "check_prime" (defArgs (top 22)) (defBody (top 22)) (defScope (top 22)) [] [] f fd
  d_is_equation_of : ∃ f fd, mg "is_equation_of" = some (.ref f) ∧ FunD K "is_equation_of" "is_equation_of" (defArgs (top 24)) (defBody (top 24)) (defScope (top 24)) [] [] f fd
  d_is_morphism_value : ∃ f fd, mg "is_morphism_value" = some (.ref f) ∧ FunD K "is_morphism_value" "is_morphism_value" (defArgs (top 26)) (defBody (top 26)) (defScope (top 26)) [] [] f fd
  d_made : ∃ f fd, mg "made" = some (.ref f) ∧ FunD K "made" "made" (defArgs (top 29)) (defBody (top 29)) (defScope (top 29)) [] [] f fd
  d_plus_of : ∃ f fd, mg "plus_of" = some (.ref f) ∧ FunD K "plus_of" "plus_of" (defArgs (top 30)) (defBody (top 30)) (defScope (top 30)) [] [] f fd
  d_times_of : ∃ f fd, mg "times_of" = some (.ref f) ∧ FunD K "times_of" "times_of" (defArgs (top 31)) (defBody (top 31)) (defScope (top 31)) [] [] f fd
  d_sum_of : ∃ f fd, mg "sum_of" = some (.ref f) ∧ FunD K "sum_of" "sum_of" (defArgs (top 32)) (defBody (top 32)) (defScope (top 32)) [] [] f fd
  d_is_fraction : ∃ f fd, mg "is_fraction" = some (.ref f) ∧ FunD K "is_fraction" "is_fraction" (defArgs (top 34)) (defBody (top 34)) (defScope (top 34)) [] [] f fd
  d_are_fractions : ∃ f fd, mg "are_fractions" = some (.ref f) ∧ FunD K "are_fractions" "are_fractions" (defArgs (top 35)) (defBody (top 35)) (defScope (top 35)) [] [] f fd
  d_is_square : ∃ f fd, mg "is_square" = some (.ref f) ∧ FunD K "is_square" "is_square" (defArgs (top 36)) (defBody (top 36)) (defScope (top 36)) [] [] f fd
  d_product_with : ∃ f fd, mg "product_with" = some (.ref f) ∧ FunD K "product_with" "product_with" (defArgs (top 37)) (defBody (top 37)) (defScope (top 37)) [] [] f fd
  d_by_column : ∃ f fd, mg "by_column" = some (.ref f) ∧ FunD K "by_column" "by_column" (defArgs (top 38)) (defBody (top 38)) (defScope (top 38)) [] [] f fd
  d_have_tables : ∃ f fd, mg "have_tables" = some (.ref f) ∧ FunD K "have_tables" "have_tables" (defArgs (top 40)) (defBody (top 40)) (defScope (top 40)) [] [] f fd
  d_is_regular_value : ∃ f fd, mg "is_regular_value" = some (.ref f) ∧ FunD K "is_regular_value" "is_regular_value" (defArgs (top 41)) (defBody (top 41)) (defScope (top 41)) [] [] f fd
  d_fraction_text : ∃ f fd, mg "fraction_text" = some (.ref f) ∧ FunD K "fraction_text" "fraction_text" (defArgs (top 43)) (defBody (top 43)) (defScope (top 43)) [] [] f fd
  d_word_text : ∃ f fd, mg "word_text" = some (.ref f) ∧ FunD K "word_text" "word_text" (defArgs (top 44)) (defBody (top 44)) (defScope (top 44)) [] [] f fd
  d_joined_text : ∃ f fd, mg "joined_text" = some (.ref f) ∧ FunD K "joined_text" "joined_text" (defArgs (top 45)) (defBody (top 45)) (defScope (top 45)) [] [] f fd
  d_row_text : ∃ f fd, mg "row_text" = some (.ref f) ∧ FunD K "row_text" "row_text" (defArgs (top 46)) (defBody (top 46)) (defScope (top 46)) [] [] f fd
  d_morphism_text : ∃ f fd, mg "morphism_text" = some (.ref f) ∧ FunD K "morphism_text" "morphism_text" (defArgs (top 47)) (defBody (top 47)) (defScope (top 47)) [] [] f fd
  d_term_text : ∃ f fd, mg "term_text" = some (.ref f) ∧ FunD K "term_text" "term_text" (defArgs (top 48)) (defBody (top 48)) (defScope (top 48)) [] [] f fd
  d_polynomial_text : ∃ f fd, mg "polynomial_text" = some (.ref f) ∧ FunD K "polynomial_text" "polynomial_text" (defArgs (top 49)) (defBody (top 49)) (defScope (top 49)) [] [] f fd
  d_equation_text : ∃ f fd, mg "equation_text" = some (.ref f) ∧ FunD K "equation_text" "equation_text" (defArgs (top 50)) (defBody (top 50)) (defScope (top 50)) [] [] f fd
  d_fractions_text : ∃ f fd, mg "fractions_text" = some (.ref f) ∧ FunD K "fractions_text" "fractions_text" (defArgs (top 51)) (defBody (top 51)) (defScope (top 51)) [] [] f fd
  d_table_text : ∃ f fd, mg "table_text" = some (.ref f) ∧ FunD K "table_text" "table_text" (defArgs (top 52)) (defBody (top 52)) (defScope (top 52)) [] [] f fd
  d_regular_text : ∃ f fd, mg "regular_text" = some (.ref f) ∧ FunD K "regular_text" "regular_text" (defArgs (top 53)) (defBody (top 53)) (defScope (top 53)) [] [] f fd
  d_natural_of : ∃ f fd, mg "natural_of" = some (.ref f) ∧ FunD K "natural_of" "natural_of" (defArgs (top 56)) (defBody (top 56)) (defScope (top 56)) [] [] f fd
  d_integer_of : ∃ f fd, mg "integer_of" = some (.ref f) ∧ FunD K "integer_of" "integer_of" (defArgs (top 57)) (defBody (top 57)) (defScope (top 57)) [] [] f fd
  d_naturals_of : ∃ f fd, mg "naturals_of" = some (.ref f) ∧ FunD K "naturals_of" "naturals_of" (defArgs (top 58)) (defBody (top 58)) (defScope (top 58)) [] [] f fd
  d_fraction_from : ∃ f fd, mg "fraction_from" = some (.ref f) ∧ FunD K "fraction_from" "fraction_from" (defArgs (top 59)) (defBody (top 59)) (defScope (top 59)) [] [] f fd
  d_word_from : ∃ f fd, mg "word_from" = some (.ref f) ∧ FunD K "word_from" "word_from" (defArgs (top 60)) (defBody (top 60)) (defScope (top 60)) [] [] f fd
  d_row_from_text : ∃ f fd, mg "row_from_text" = some (.ref f) ∧ FunD K "row_from_text" "row_from_text" (defArgs (top 61)) (defBody (top 61)) (defScope (top 61)) [] [] f fd
  d_morphism_from : ∃ f fd, mg "morphism_from" = some (.ref f) ∧ FunD K "morphism_from" "morphism_from" (defArgs (top 62)) (defBody (top 62)) (defScope (top 62)) [] [] f fd
  d_term_from : ∃ f fd, mg "term_from" = some (.ref f) ∧ FunD K "term_from" "term_from" (defArgs (top 63)) (defBody (top 63)) (defScope (top 63)) [] [] f fd
  d_polynomial_from : ∃ f fd, mg "polynomial_from" = some (.ref f) ∧ FunD K "polynomial_from" "polynomial_from" (defArgs (top 64)) (defBody (top 64)) (defScope (top 64)) [] [] f fd
  d_part_from : ∃ f fd, mg "part_from" = some (.ref f) ∧ FunD K "part_from" "part_from" (defArgs (top 65)) (defBody (top 65)) (defScope (top 65)) [] [] f fd
  d_equation_from : ∃ f fd, mg "equation_from" = some (.ref f) ∧ FunD K "equation_from" "equation_from" (defArgs (top 66)) (defBody (top 66)) (defScope (top 66)) [] [] f fd
  d_fractions_from : ∃ f fd, mg "fractions_from" = some (.ref f) ∧ FunD K "fractions_from" "fractions_from" (defArgs (top 67)) (defBody (top 67)) (defScope (top 67)) [] [] f fd
  d_table_from : ∃ f fd, mg "table_from" = some (.ref f) ∧ FunD K "table_from" "table_from" (defArgs (top 68)) (defBody (top 68)) (defScope (top 68)) [] [] f fd
  d_regular_from : ∃ f fd, mg "regular_from" = some (.ref f) ∧ FunD K "regular_from" "regular_from" (defArgs (top 69)) (defBody (top 69)) (defScope (top 69)) [] [] f fd
  d_given : ∃ f fd, mg "given" = some (.ref f) ∧ FunD K "given" "given" (defArgs (top 70)) (defBody (top 70)) (defScope (top 70)) [] [] f fd
  d_read_fraction : ∃ f fd, mg "read_fraction" = some (.ref f) ∧ FunD K "read_fraction" "read_fraction" (defArgs (top 71)) (defBody (top 71)) (defScope (top 71)) [] [] f fd
  d_read_word : ∃ f fd, mg "read_word" = some (.ref f) ∧ FunD K "read_word" "read_word" (defArgs (top 72)) (defBody (top 72)) (defScope (top 72)) [] [] f fd
  d_read_row : ∃ f fd, mg "read_row" = some (.ref f) ∧ FunD K "read_row" "read_row" (defArgs (top 73)) (defBody (top 73)) (defScope (top 73)) [] [] f fd
  d_read_morphism : ∃ f fd, mg "read_morphism" = some (.ref f) ∧ FunD K "read_morphism" "read_morphism" (defArgs (top 74)) (defBody (top 74)) (defScope (top 74)) [] [] f fd
  d_read_polynomial : ∃ f fd, mg "read_polynomial" = some (.ref f) ∧ FunD K "read_polynomial" "read_polynomial" (defArgs (top 75)) (defBody (top 75)) (defScope (top 75)) [] [] f fd
  d_read_equation : ∃ f fd, mg "read_equation" = some (.ref f) ∧ FunD K "read_equation" "read_equation" (defArgs (top 76)) (defBody (top 76)) (defScope (top 76)) [] [] f fd
  d_read_regular : ∃ f fd, mg "read_regular" = some (.ref f) ∧ FunD K "read_regular" "read_regular" (defArgs (top 77)) (defBody (top 77)) (defScope (top 77)) [] [] f fd
  d__law_pot : ∃ f fd, mg "_law_pot" = some (.ref f) ∧ FunD K "_law_pot" "_law_pot" (defArgs (top 79)) (defBody (top 79)) (defScope (top 79)) [] [] f fd
  d__law_take : ∃ f fd, mg "_law_take" = some (.ref f) ∧ FunD K "_law_take" "_law_take" (defArgs (top 80)) (defBody (top 80)) (defScope (top 80)) [] [] f fd
  d__law_same : ∃ f fd, mg "_law_same" = some (.ref f) ∧ FunD K "_law_same" "_law_same" (defArgs (top 81)) (defBody (top 81)) (defScope (top 81)) [] [] f fd
  d__law_read : ∃ f fd, mg "_law_read" = some (.ref f) ∧ FunD K "_law_read" "_law_read" (defArgs (top 82)) (defBody (top 82)) (defScope (top 82)) [] [] f fd
  d__law_lots : ∃ f fd, mg "_law_lots" = some (.ref f) ∧ FunD K "_law_lots" "_law_lots" (defArgs (top 83)) (defBody (top 83)) (defScope (top 83)) [] [] f fd
  d__law_refused : ∃ f fd, mg "_law_refused" = some (.ref f) ∧ FunD K "_law_refused" "_law_refused" (defArgs (top 84)) (defBody (top 84)) (defScope (top 84)) [] [] f fd
  d_law : ∃ f fd, mg "law" = some (.ref f) ∧ FunD K "law" "law" (defArgs (top 85)) (defBody (top 85)) (defScope (top 85)) [] [] f fd
  g_all : mg "all" = none
  g_any : mg "any" = none
  g_bool : mg "bool" = none
  g_enumerate : mg "enumerate" = none
  g_int : mg "int" = none
  g_isinstance : mg "isinstance" = none
  g_len : mg "len" = none
  g_list : mg "list" = none
  g_max : mg "max" = none
  g_range : mg "range" = none
  g_str : mg "str" = none
  g_tuple : mg "tuple" = none
  g_zip : mg "zip" = none
  f_gcd : mg "gcd" = some (.builtin "math.gcd")
  c_FIGURES : ∃ v, mg "FIGURES" = some v ∧ DatK K v (.str "0123456789")
  c_LEAST_BASE : ∃ v, mg "LEAST_BASE" = some v ∧ DatK K v (.int 2)
  c_MOST_BASE : ∃ v, mg "MOST_BASE" = some v ∧ DatK K v (.int 5)
  c_MOST_LETTER : ∃ v, mg "MOST_LETTER" = some v ∧ DatK K v (.int 9)
  c_NOTHING : ∃ v, mg "NOTHING" = some v ∧ DatK K v (.tup [(.int 0), (.int 1)])
  x_InvalidInteger : Xc P w K mg base "InvalidInteger"
  x_Unreadable : Xc P w K mg base "Unreadable"
  xv : ∀ c C, c ∈ xcs → mg c = some (.ref C) → XfC K C ∧ PySem.W.findIn K (.ref C) "value" = some none
  ka_DigitsError : Addr
  k_DigitsError : mg "DigitsError" = some (.ref ka_DigitsError) ∧ ∀ y C q, sub_DigitsError y = some q → mg y = some (.ref C) → PySem.W.exmOne K (.ref C) (.ref ka_DigitsError) = some q
  ka_InvalidInteger : Addr
  k_InvalidInteger : mg "InvalidInteger" = some (.ref ka_InvalidInteger) ∧ ∀ y C q, sub_InvalidInteger y = some q → mg y = some (.ref C) → PySem.W.exmOne K (.ref C) (.ref ka_InvalidInteger) = some q
  iv_Unreadable : Addr
  ia_Unreadable : mg "Unreadable" = some (.ref iv_Unreadable)
  i_Unreadable : ∀ c b, isi_Unreadable c = some b → ∀ C, mg c = some (.ref C) → ExK K C ∧ PySem.W.kitOne K (.ref C) (.ref iv_Unreadable) = some b
section
variable {P : Program} {w : World} {K : PySem.W.Frag} {mg : Str → Option Value} {base : Heap} {F : Nat}
abbrev s_is_integer : Stmt := top 9
theorem sc_is_integer : FnScope ["value"] ["value"] (defScope s_is_integer) := ⟨rfl, rfl, rfl, by decide +kernel, rfl, by decide +kernel, by decide +kernel⟩
noncomputable def b_is_integer (F : Nat) : XS := (xsRet (xAnd (xIsi (xVar 0) [.int]) (xNot (xIsi (xVar 0) [.bl]))))
noncomputable def p_is_integer (F : Nat) : XP := fnP 1 1 (b_is_integer F)
theorem ok_is_integer (A : Fx P w K mg base) (hF : F ≤ 16777216) : Fn P w K mg base [] "is_integer" s_is_integer ["value"] 1 (lsp (lp (p_is_integer F))) := by
  obtain ⟨f, fd, hm, D⟩ := A.d_is_integer
  exact Fn.pure (fnX_ok hm D sc_is_integer (by decide) (fun _ _ _ _ _ _ us hl => match us, hl with | [_], _ => rfl) fun cdv A' outer s H E hr => (yss_one (ys_ret (y_and (y_isi rfl A.g_isinstance (yr 0) (ty_name .int rfl (by decide +kernel) rfl A.g_int)) (y_one (y_not (y_isi rfl A.g_isinstance (yr 0) (ty_name .bl rfl (by decide +kernel) rfl A.g_bool))))))))
abbrev s_is_natural : Stmt := top 10
theorem sc_is_natural : FnScope ["value"] ["value"] (defScope s_is_natural) := ⟨rfl, rfl, rfl, by decide +kernel, rfl, by decide +kernel, by decide +kernel⟩
noncomputable def b_is_natural (F : Nat) : XS := (xsRet (xAnd (xCall (lp (p_is_integer F)) (xCons (xVar 0) xNil)) (xBin gGe (xVar 0) (xLit (.int 0)))))
noncomputable def p_is_natural (F : Nat) : XP := fnP 1 1 (b_is_natural F)
theorem ok_is_natural (A : Fx P w K mg base) (hF : F ≤ 16777216) : Fn P w K mg base [] "is_natural" s_is_natural ["value"] 2 (lsp (lp (p_is_natural F))) := by
  obtain ⟨f, fd, hm, D⟩ := A.d_is_natural
  exact Fn.pure (fnX_ok hm D sc_is_natural (by decide) (fun _ _ _ _ _ _ us hl => match us, hl with | [_], _ => rfl) fun cdv A' outer s H E hr => (yss_one (ys_ret (y_and (y_call (ok_is_integer A hF) (by decide) hr bcx_takes rfl (ya_cons (yr 0) ya_nil)) (y_one (y_cmp (room64 hr) .ge (yr 0) y_int))))))
abbrev s_is_base : Stmt := top 11
theorem sc_is_base : FnScope ["value"] ["value"] (defScope s_is_base) := ⟨rfl, rfl, rfl, by decide +kernel, rfl, by decide +kernel, by decide +kernel⟩
noncomputable def b_is_base (F : Nat) : XS := (xsRet (xAnd (xCall (lp (p_is_integer F)) (xCons (xVar 0) xNil)) (xChain gLe gLe (xLit (.int 2)) (xVar 0) (xLit (.int 5)))))
noncomputable def p_is_base (F : Nat) : XP := fnP 1 1 (b_is_base F)
theorem ok_is_base (A : Fx P w K mg base) (hF : F ≤ 16777216) : Fn P w K mg base [] "is_base" s_is_base ["value"] 2 (lsp (lp (p_is_base F))) := by
  obtain ⟨f, fd, hm, D⟩ := A.d_is_base
  exact Fn.pure (fnX_ok hm D sc_is_base (by decide) (fun _ _ _ _ _ _ us hl => match us, hl with | [_], _ => rfl) fun cdv A' outer s H E hr => (yss_one (ys_ret (y_and (y_call (ok_is_integer A hF) (by decide) hr bcx_takes rfl (ya_cons (yr 0) ya_nil)) (y_one (y_chain (room64 hr) .le .le (y_con rfl A.c_LEAST_BASE) (yr 0) (y_con rfl A.c_MOST_BASE)))))))
abbrev s_is_letter : Stmt := top 12
theorem sc_is_letter : FnScope ["value"] ["value"] (defScope s_is_letter) := ⟨rfl, rfl, rfl, by decide +kernel, rfl, by decide +kernel, by decide +kernel⟩
noncomputable def b_is_letter (F : Nat) : XS := (xsRet (xAnd (xCall (lp (p_is_natural F)) (xCons (xVar 0) xNil)) (xBin gLe (xVar 0) (xLit (.int 9)))))
noncomputable def p_is_letter (F : Nat) : XP := fnP 1 1 (b_is_letter F)
theorem ok_is_letter (A : Fx P w K mg base) (hF : F ≤ 16777216) : Fn P w K mg base [] "is_letter" s_is_letter ["value"] 3 (lsp (lp (p_is_letter F))) := by
  obtain ⟨f, fd, hm, D⟩ := A.d_is_letter
  exact Fn.pure (fnX_ok hm D sc_is_letter (by decide) (fun _ _ _ _ _ _ us hl => match us, hl with | [_], _ => rfl) fun cdv A' outer s H E hr => (yss_one (ys_ret (y_and (y_call (ok_is_natural A hF) (by decide) hr bcx_takes rfl (ya_cons (yr 0) ya_nil)) (y_one (y_cmp (room64 hr) .le (yr 0) (y_con rfl A.c_MOST_LETTER)))))))
abbrev s_is_word : Stmt := top 13
theorem sc_is_word : FnScope ["value", "own"] ["value"] (defScope s_is_word) := ⟨rfl, rfl, rfl, by decide +kernel, rfl, by decide +kernel, by decide +kernel⟩
noncomputable def b_is_word (F : Nat) : XS := (xsRet (xAnd (xIsi (xVar 0) [.tup]) (xFC cAll (xComp F (xSeq (xVar 0)) (.nm 1) [1] none (xCall (lp (p_is_letter F)) (xCons (xVar 1) xNil))))))
noncomputable def p_is_word (F : Nat) : XP := fnP 1 2 (b_is_word F)
theorem ok_is_word (A : Fx P w K mg base) (hF : F ≤ 16777216) : Fn P w K mg base [] "is_word" s_is_word ["value"] 4 (lsp (lp (p_is_word F))) := by
  obtain ⟨f, fd, hm, D⟩ := A.d_is_word
  exact Fn.pure (fnX_ok hm D sc_is_word (by decide) (fun _ _ _ _ _ _ us hl => match us, hl with | [_], _ => rfl) fun cdv A' outer s H E hr => (yss_one (ys_ret (y_and (y_isi rfl A.g_isinstance (yr 0) (ty_name .tup rfl (by decide +kernel) rfl A.g_tuple)) (y_one (y_bic rfl .all cAll rfl rfl rfl A.g_all (y_lc (own := [("own", 1)]) hF rfl sc_is_word.nd (yi_seq (yr 0)) (blkOk_by rfl) (by decide) (fun s H C cl fp => (tg 1 sc_is_word.nd)) .none (fun s H C cl fp => (y_call (ok_is_letter A hF) (by decide) hr takes0 rfl (ya_cons (yr 1) ya_nil))))))))))
abbrev s_are_below : Stmt := top 14
theorem sc_are_below : FnScope ["value", "many", "own"] ["value", "many"] (defScope s_are_below) := ⟨rfl, rfl, rfl, by decide +kernel, rfl, by decide +kernel, by decide +kernel⟩
noncomputable def b_are_below (F : Nat) : XS := (xsRet (xAnd (xIsi (xVar 0) [.tup]) (xFC cAll (xComp F (xSeq (xVar 0)) (.nm 2) [2] none (xAnd (xCall (lp (p_is_natural F)) (xCons (xVar 2) xNil)) (xBin gLt (xVar 2) (xVar 1)))))))
noncomputable def p_are_below (F : Nat) : XP := fnP 2 3 (b_are_below F)
theorem ok_are_below (A : Fx P w K mg base) (hF : F ≤ 16777216) : Fn P w K mg base [] "are_below" s_are_below ["value", "many"] 3 (lsp (lp (p_are_below F))) := by
  obtain ⟨f, fd, hm, D⟩ := A.d_are_below
  exact Fn.pure (fnX_ok hm D sc_are_below (by decide) (fun _ _ _ _ _ _ us hl => match us, hl with | [_, _], _ => rfl) fun cdv A' outer s H E hr => (yss_one (ys_ret (y_and (y_isi rfl A.g_isinstance (yr 0) (ty_name .tup rfl (by decide +kernel) rfl A.g_tuple)) (y_one (y_bic rfl .all cAll rfl rfl rfl A.g_all (y_lc (own := [("own", 2)]) hF rfl sc_are_below.nd (yi_seq (yr 0)) (blkOk_by rfl) (by decide) (fun s H C cl fp => (tg 2 sc_are_below.nd)) .none (fun s H C cl fp => (y_and (y_call (ok_is_natural A hF) (by decide) hr takes0 rfl (ya_cons (yr 2) ya_nil)) (y_one (y_cmp (room64 hr) .lt (yr 2) (yr 1))))))))))))
abbrev s_power : Stmt := top 15
theorem sc_power : FnScope ["k", "e", "found", "turn"] ["k", "e"] (defScope s_power) := ⟨rfl, rfl, rfl, by decide +kernel, rfl, by decide +kernel, by decide +kernel⟩
noncomputable def b_power (F : Nat) : XS := (xsSeq (xsAsg (xLit (.int 1)) (.nm 2)) (xsSeq (xsFor F (xIt gRange1 (xCons (xVar 1) xNil)) (.nm 3) (xsAsg (xBin gMul (xVar 2) (xVar 0)) (.nm 2))) (xsRet (xVar 2))))
noncomputable def p_power (F : Nat) : XP := fnP 2 4 (b_power F)
theorem ok_power (A : Fx P w K mg base) (hF : F ≤ 16777216) : Fn P w K mg base [] "power" s_power ["k", "e"] 1 (lsp (lp (p_power F))) := by
  obtain ⟨f, fd, hm, D⟩ := A.d_power
  exact Fn.pure (fnX_ok hm D sc_power (by decide) (fun _ _ _ _ _ _ us hl => match us, hl with | [_, _], _ => rfl) fun cdv A' outer s H E hr => (yss_cons (ys_set (j := 2) sc_power.nd rfl (by first | exact Or.inl rfl | exact Or.inr rfl) y_int) (yss_cons (ys_for hF bcx_owns rfl (yi_range1 rfl A.g_range (ya_cons (yr 1) ya_nil)) (tg 3 sc_power.nd) (yss_one (ys_set (j := 2) sc_power.nd rfl (by first | exact Or.inl rfl | exact Or.inr rfl) (y_bin .mul (yr 2) (yr 0))))) (yss_one (ys_ret (yr 2))))))
abbrev s_is_state : Stmt := top 17
theorem sc_is_state : FnScope ["k", "many", "value", "own"] ["k", "many", "value"] (defScope s_is_state) := ⟨rfl, rfl, rfl, by decide +kernel, rfl, by decide +kernel, by decide +kernel⟩
noncomputable def b_is_state (F : Nat) : XS := (xsSeq (xsIf (xOr (xNot (xIsi (xVar 2) [.tup])) (xOr (xBin gNe (xFN gLen (xCons (xVar 2) xNil)) (xLit (.int 2))) (xOr (xNot (xIsi (xBin gIx (xVar 2) (xLit (.int 0))) [.tup])) (xBin gNe (xFN gLen (xCons (xBin gIx (xVar 2) (xLit (.int 0))) xNil)) (xVar 0))))) (xsRet (xLit (.bl false))) xsNil) (xsRet (xAnd (xFC cAll (xComp F (xSeq (xBin gIx (xVar 2) (xLit (.int 0)))) (.nm 3) [3] none (xAnd (xCall (lp (p_is_natural F)) (xCons (xVar 3) xNil)) (xBin gLt (xVar 3) (xVar 1))))) (xCall (lp (p_is_letter F)) (xCons (xBin gIx (xVar 2) (xLit (.int 1))) xNil)))))
noncomputable def p_is_state (F : Nat) : XP := fnP 3 4 (b_is_state F)
theorem ok_is_state (A : Fx P w K mg base) (hF : F ≤ 16777216) : Fn P w K mg base [] "is_state" s_is_state ["k", "many", "value"] 4 (lsp (lp (p_is_state F))) := by
  obtain ⟨f, fd, hm, D⟩ := A.d_is_state
  exact Fn.pure (fnX_ok hm D sc_is_state (by decide) (fun _ _ _ _ _ _ us hl => match us, hl with | [_, _, _], _ => rfl) fun cdv A' outer s H E hr => (yss_cons (ys_if (yw_t (yw_or (yt_not (yt_val (y_isi rfl A.g_isinstance (yr 2) (ty_name .tup rfl (by decide +kernel) rfl A.g_tuple)))) (yw_or (yt_cmp (room64 hr) .ne (y_bi rfl .len rfl rfl A.g_len (ya_cons (yr 2) ya_nil)) y_int) (yw_or (yt_not (yt_val (y_isi rfl A.g_isinstance (y_ix (yr 2) y_int) (ty_name .tup rfl (by decide +kernel) rfl A.g_tuple)))) (yw_one (yt_cmp (room64 hr) .ne (y_bi rfl .len rfl rfl A.g_len (ya_cons (y_ix (yr 2) y_int) ya_nil)) (yr 0))))))) (yss_one (ys_ret y_bl)) yss_nil) (yss_one (ys_ret (y_and (y_bic rfl .all cAll rfl rfl rfl A.g_all (y_lc (own := [("own", 3)]) hF rfl sc_is_state.nd (yi_seq (y_ix (yr 2) y_int)) (blkOk_by rfl) (by decide) (fun s H C cl fp => (tg 3 sc_is_state.nd)) .none (fun s H C cl fp => (y_and (y_call (ok_is_natural A hF) (by decide) hr takes0 rfl (ya_cons (yr 3) ya_nil)) (y_one (y_cmp (room64 hr) .lt (yr 3) (yr 1))))))) (y_one (y_call (ok_is_letter A hF) (by decide) hr bcx_takes rfl (ya_cons (y_ix (yr 2) y_int) ya_nil))))))))
abbrev s_is_row_value : Stmt := top 18
theorem sc_is_row_value : FnScope ["value", "k", "states", "own", "steps", "letter"] ["value"] (defScope s_is_row_value) := ⟨rfl, rfl, rfl, by decide +kernel, rfl, by decide +kernel, by decide +kernel⟩
noncomputable def b_is_row_value (F : Nat) : XS := (xsSeq (xsIf (xOr (xNot (xIsi (xVar 0) [.tup])) (xOr (xBin gNe (xFN gLen (xCons (xVar 0) xNil)) (xLit (.int 2))) (xNot (xCall (lp (p_is_base F)) (xCons (xBin gIx (xVar 0) (xLit (.int 0))) xNil))))) (xsRet (xLit (.bl false))) xsNil) (xsSeq (xsAsg (xVar 0) (.tp (.cons (.nm 1) (.cons (.nm 2) .nil)))) (xsSeq (xsIf (xOr (xNot (xIsi (xVar 2) [.tup])) (xOr (xBin gEq (xVar 2) (xTup xNil)) (xNot (xFC cAll (xComp F (xSeq (xVar 2)) (.nm 3) [3] none (xCall (lp (p_is_state F)) (xCons (xVar 1) (xCons (xFN gLen (xCons (xVar 2) xNil)) (xCons (xVar 3) xNil))))))))) (xsRet (xLit (.bl false))) xsNil) (xsRet (xFC cAll (xComp F (xSeq (xVar 2)) (.tp (.cons (.nm 4) (.cons (.nm 5) .nil))) [4, 5] none (xBin gEq (xBin gIx (xBin gIx (xVar 2) (xBin gIx (xVar 4) (xLit (.int 0)))) (xLit (.int 1))) (xVar 5))))))))
noncomputable def p_is_row_value (F : Nat) : XP := fnP 1 6 (b_is_row_value F)
theorem ok_is_row_value (A : Fx P w K mg base) (hF : F ≤ 16777216) : Fn P w K mg base [] "is_row_value" s_is_row_value ["value"] 5 (lsp (lp (p_is_row_value F))) := by
  obtain ⟨f, fd, hm, D⟩ := A.d_is_row_value
  exact Fn.pure (fnX_ok hm D sc_is_row_value (by decide) (fun _ _ _ _ _ _ us hl => match us, hl with | [_], _ => rfl) fun cdv A' outer s H E hr => (yss_cons (ys_if (yw_t (yw_or (yt_not (yt_val (y_isi rfl A.g_isinstance (yr 0) (ty_name .tup rfl (by decide +kernel) rfl A.g_tuple)))) (yw_or (yt_cmp (room64 hr) .ne (y_bi rfl .len rfl rfl A.g_len (ya_cons (yr 0) ya_nil)) y_int) (yw_one (yt_not (yt_val (y_call (ok_is_base A hF) (by decide) hr bcx_takes rfl (ya_cons (y_ix (yr 0) y_int) ya_nil)))))))) (yss_one (ys_ret y_bl)) yss_nil) (yss_cons (ys_asg (yr 0) (g_tp rfl (gs_cons (tg 1 sc_is_row_value.nd) (gs_cons (tg 2 sc_is_row_value.nd) gs_nil)))) (yss_cons (ys_if (yw_t (yw_or (yt_not (yt_val (y_isi rfl A.g_isinstance (yr 2) (ty_name .tup rfl (by decide +kernel) rfl A.g_tuple)))) (yw_or (yt_cmp (room64 hr) .eq (yr 2) (y_tup ya_nil)) (yw_one (yt_not (yt_val (y_bic rfl .all cAll rfl rfl rfl A.g_all (y_lc (own := [("own", 3)]) hF rfl sc_is_row_value.nd (yi_seq (yr 2)) (blkOk_by rfl) (by decide) (fun s H C cl fp => (tg 3 sc_is_row_value.nd)) .none (fun s H C cl fp => (y_call (ok_is_state A hF) (by decide) hr takes0 rfl (ya_cons (yr 1) (ya_cons (y_bi rfl .len rfl rfl A.g_len (ya_cons (yr 2) ya_nil)) (ya_cons (yr 3) ya_nil))))))))))))) (yss_one (ys_ret y_bl)) yss_nil) (yss_one (ys_ret (y_bic rfl .all cAll rfl rfl rfl A.g_all (y_lc (own := [("steps", 4), ("letter", 5)]) hF rfl sc_is_row_value.nd (yi_seq (yr 2)) (blkOk_by rfl) (by decide) (fun s H C cl fp => (g_tp rfl (gs_cons (tg 4 sc_is_row_value.nd) (gs_cons (tg 5 sc_is_row_value.nd) gs_nil)))) .none (fun s H C cl fp => (y_cmp (room64 hr) .eq (y_ix (y_ix (yr 2) (y_ix (yr 4) y_int)) y_int) (yr 5)))))))))))
abbrev s_is_poly : Stmt := top 20
theorem sc_is_poly : FnScope ["p", "value", "own"] ["p", "value"] (defScope s_is_poly) := ⟨rfl, rfl, rfl, by decide +kernel, rfl, by decide +kernel, by decide +kernel⟩
noncomputable def b_is_poly (F : Nat) : XS := (xsSeq (xsIf (xOr (xNot (xIsi (xVar 1) [.tup])) (xNot (xFC cAll (xComp F (xSeq (xVar 1)) (.nm 2) [2] none (xAnd (xIsi (xVar 2) [.int]) (xNot (xIsi (xVar 2) [.bl]))))))) (xsRet (xLit (.bl false))) xsNil) (xsRet (xAnd (xFC cAll (xComp F (xSeq (xVar 1)) (.nm 2) [2] none (xChain gLe gLt (xLit (.int 0)) (xVar 2) (xVar 0)))) (xOr (xBin gEq (xVar 1) (xTup xNil)) (xBin gNe (xBin gIx (xVar 1) (xNeg (xLit (.int 1)))) (xLit (.int 0)))))))
noncomputable def p_is_poly (F : Nat) : XP := fnP 2 3 (b_is_poly F)
theorem ok_is_poly (A : Fx P w K mg base) (hF : F ≤ 16777216) : Fn P w K mg base [] "is_poly" s_is_poly ["p", "value"] 1 (lsp (lp (p_is_poly F))) := by
  obtain ⟨f, fd, hm, D⟩ := A.d_is_poly
  exact Fn.pure (fnX_ok hm D sc_is_poly (by decide) (fun _ _ _ _ _ _ us hl => match us, hl with | [_, _], _ => rfl) fun cdv A' outer s H E hr => (yss_cons (ys_if (yw_t (yw_or (yt_not (yt_val (y_isi rfl A.g_isinstance (yr 1) (ty_name .tup rfl (by decide +kernel) rfl A.g_tuple)))) (yw_one (yt_not (yt_val (y_bic rfl .all cAll rfl rfl rfl A.g_all (y_lc (own := [("own", 2)]) hF rfl sc_is_poly.nd (yi_seq (yr 1)) (blkOk_by rfl) (by decide) (fun s H C cl fp => (tg 2 sc_is_poly.nd)) .none (fun s H C cl fp => (y_and (y_isi rfl A.g_isinstance (yr 2) (ty_name .int rfl (by decide +kernel) rfl A.g_int)) (y_one (y_not (y_isi rfl A.g_isinstance (yr 2) (ty_name .bl rfl (by decide +kernel) rfl A.g_bool))))))))))))) (yss_one (ys_ret y_bl)) yss_nil) (yss_one (ys_ret (y_and (y_bic rfl .all cAll rfl rfl rfl A.g_all (y_lc (own := [("own", 2)]) hF rfl sc_is_poly.nd (yi_seq (yr 1)) (blkOk_by rfl) (by decide) (fun s H C cl fp => (tg 2 sc_is_poly.nd)) .none (fun s H C cl fp => (y_chain (room64 hr) .le .lt y_int (yr 2) (yr 0))))) (y_one (y_or (y_cmp (room64 hr) .eq (yr 1) (y_tup ya_nil)) (y_one (y_cmp (room64 hr) .ne (y_ix (yr 1) (y_neg y_int)) y_int)))))))))
abbrev s_check_prime : Stmt := top 22
theorem sc_check_prime : FnScope ["k"] ["k"] (defScope s_check_prime) := ⟨rfl, rfl, rfl, by decide +kernel, rfl, by decide +kernel, by decide +kernel⟩
noncomputable def b_check_prime (F : Nat) : XS := (xsIf (xOr (xNot (xCall (lp (p_is_integer F)) (xCons (xVar 0) xNil))) (xBin gNin (xVar 0) (xTup (xCons (xLit (.int 2)) (xCons (xLit (.int 3)) (xCons (xLit (.int 5)) xNil)))))) (xsRaise "InvalidInteger" (xVar 0)) xsNil)
noncomputable def p_check_prime (F : Nat) : XP := fnP 1 1 (b_check_prime F)
theorem ok_check_prime (A : Fx P w K mg base) (hF : F ≤ 16777216) : Fn P w K mg base [] "check_prime" s_check_prime ["k"] 3 (lsp (lp (p_check_prime F))) := by
  obtain ⟨f, fd, hm, D⟩ := A.d_check_prime
  exact Fn.pure (fnX_ok hm D sc_check_prime (by decide) (fun _ _ _ _ _ _ us hl => match us, hl with | [_], _ => rfl) fun cdv A' outer s H E hr => (yss_one (ys_if (yw_t (yw_or (yt_not (yt_val (y_call (ok_is_integer A hF) (by decide) hr bcx_takes rfl (ya_cons (yr 0) ya_nil)))) (yw_one (yt_cmp (room64 hr) .nin (yr 0) (y_tup (ya_cons y_int (ya_cons y_int (ya_cons y_int ya_nil)))))))) (yss_one (ys_raise A.x_InvalidInteger rfl bcx_takes hr (by decide) rfl (yr 0))) yss_nil)))
abbrev s_is_equation_of : Stmt := top 24
theorem sc_is_equation_of : FnScope ["k", "value", "own"] ["k", "value"] (defScope s_is_equation_of) := ⟨rfl, rfl, rfl, by decide +kernel, rfl, by decide +kernel, by decide +kernel⟩
noncomputable def b_is_equation_of (F : Nat) : XS := (xsSeq (xsIf (xOr (xNot (xIsi (xVar 1) [.tup])) (xOr (xBin gEq (xVar 1) (xTup xNil)) (xNot (xFC cAll (xComp F (xSeq (xVar 1)) (.nm 2) [2] none (xCall (lp (p_is_poly F)) (xCons (xVar 0) (xCons (xVar 2) xNil)))))))) (xsRet (xLit (.bl false))) xsNil) (xsRet (xBin gNe (xBin gIx (xVar 1) (xNeg (xLit (.int 1)))) (xTup xNil))))
noncomputable def p_is_equation_of (F : Nat) : XP := fnP 2 3 (b_is_equation_of F)
theorem ok_is_equation_of (A : Fx P w K mg base) (hF : F ≤ 16777216) : Fn P w K mg base [] "is_equation_of" s_is_equation_of ["k", "value"] 2 (lsp (lp (p_is_equation_of F))) := by
  obtain ⟨f, fd, hm, D⟩ := A.d_is_equation_of
  exact Fn.pure (fnX_ok hm D sc_is_equation_of (by decide) (fun _ _ _ _ _ _ us hl => match us, hl with | [_, _], _ => rfl) fun cdv A' outer s H E hr => (yss_cons (ys_if (yw_t (yw_or (yt_not (yt_val (y_isi rfl A.g_isinstance (yr 1) (ty_name .tup rfl (by decide +kernel) rfl A.g_tuple)))) (yw_or (yt_cmp (room64 hr) .eq (yr 1) (y_tup ya_nil)) (yw_one (yt_not (yt_val (y_bic rfl .all cAll rfl rfl rfl A.g_all (y_lc (own := [("own", 2)]) hF rfl sc_is_equation_of.nd (yi_seq (yr 1)) (blkOk_by rfl) (by decide) (fun s H C cl fp => (tg 2 sc_is_equation_of.nd)) .none (fun s H C cl fp => (y_call (ok_is_poly A hF) (by decide) hr takes0 rfl (ya_cons (yr 0) (ya_cons (yr 2) ya_nil)))))))))))) (yss_one (ys_ret y_bl)) yss_nil) (yss_one (ys_ret (y_cmp (room64 hr) .ne (y_ix (yr 1) (y_neg y_int)) (y_tup ya_nil))))))
abbrev s_is_morphism_value : Stmt := top 26
theorem sc_is_morphism_value : FnScope ["value", "k", "images", "coding", "own"] ["value"] (defScope s_is_morphism_value) := ⟨rfl, rfl, rfl, by decide +kernel, rfl, by decide +kernel, by decide +kernel⟩
noncomputable def b_is_morphism_value (F : Nat) : XS := (xsSeq (xsIf (xOr (xNot (xIsi (xVar 0) [.tup])) (xOr (xBin gNe (xFN gLen (xCons (xVar 0) xNil)) (xLit (.int 3))) (xNot (xCall (lp (p_is_base F)) (xCons (xBin gIx (xVar 0) (xLit (.int 0))) xNil))))) (xsRet (xLit (.bl false))) xsNil) (xsSeq (xsAsg (xVar 0) (.tp (.cons (.nm 1) (.cons (.nm 2) (.cons (.nm 3) .nil))))) (xsSeq (xsIf (xOr (xNot (xIsi (xVar 2) [.tup])) (xOr (xBin gEq (xVar 2) (xTup xNil)) (xOr (xNot (xCall (lp (p_is_word F)) (xCons (xVar 3) xNil))) (xBin gNe (xFN gLen (xCons (xVar 3) xNil)) (xFN gLen (xCons (xVar 2) xNil)))))) (xsRet (xLit (.bl false))) xsNil) (xsRet (xAnd (xFC cAll (xComp F (xSeq (xVar 2)) (.nm 4) [4] none (xAnd (xCall (lp (p_are_below F)) (xCons (xVar 4) (xCons (xFN gLen (xCons (xVar 2) xNil)) xNil))) (xBin gEq (xFN gLen (xCons (xVar 4) xNil)) (xVar 1))))) (xBin gEq (xBin gIx (xBin gIx (xVar 2) (xLit (.int 0))) (xLit (.int 0))) (xLit (.int 0))))))))
noncomputable def p_is_morphism_value (F : Nat) : XP := fnP 1 5 (b_is_morphism_value F)
theorem ok_is_morphism_value (A : Fx P w K mg base) (hF : F ≤ 16777216) : Fn P w K mg base [] "is_morphism_value" s_is_morphism_value ["value"] 5 (lsp (lp (p_is_morphism_value F))) := by
  obtain ⟨f, fd, hm, D⟩ := A.d_is_morphism_value
  exact Fn.pure (fnX_ok hm D sc_is_morphism_value (by decide) (fun _ _ _ _ _ _ us hl => match us, hl with | [_], _ => rfl) fun cdv A' outer s H E hr => (yss_cons (ys_if (yw_t (yw_or (yt_not (yt_val (y_isi rfl A.g_isinstance (yr 0) (ty_name .tup rfl (by decide +kernel) rfl A.g_tuple)))) (yw_or (yt_cmp (room64 hr) .ne (y_bi rfl .len rfl rfl A.g_len (ya_cons (yr 0) ya_nil)) y_int) (yw_one (yt_not (yt_val (y_call (ok_is_base A hF) (by decide) hr bcx_takes rfl (ya_cons (y_ix (yr 0) y_int) ya_nil)))))))) (yss_one (ys_ret y_bl)) yss_nil) (yss_cons (ys_asg (yr 0) (g_tp rfl (gs_cons (tg 1 sc_is_morphism_value.nd) (gs_cons (tg 2 sc_is_morphism_value.nd) (gs_cons (tg 3 sc_is_morphism_value.nd) gs_nil))))) (yss_cons (ys_if (yw_t (yw_or (yt_not (yt_val (y_isi rfl A.g_isinstance (yr 2) (ty_name .tup rfl (by decide +kernel) rfl A.g_tuple)))) (yw_or (yt_cmp (room64 hr) .eq (yr 2) (y_tup ya_nil)) (yw_or (yt_not (yt_val (y_call (ok_is_word A hF) (by decide) hr bcx_takes rfl (ya_cons (yr 3) ya_nil)))) (yw_one (yt_cmp (room64 hr) .ne (y_bi rfl .len rfl rfl A.g_len (ya_cons (yr 3) ya_nil)) (y_bi rfl .len rfl rfl A.g_len (ya_cons (yr 2) ya_nil)))))))) (yss_one (ys_ret y_bl)) yss_nil) (yss_one (ys_ret (y_and (y_bic rfl .all cAll rfl rfl rfl A.g_all (y_lc (own := [("own", 4)]) hF rfl sc_is_morphism_value.nd (yi_seq (yr 2)) (blkOk_by rfl) (by decide) (fun s H C cl fp => (tg 4 sc_is_morphism_value.nd)) .none (fun s H C cl fp => (y_and (y_call (ok_are_below A hF) (by decide) hr takes0 rfl (ya_cons (yr 4) (ya_cons (y_bi rfl .len rfl rfl A.g_len (ya_cons (yr 2) ya_nil)) ya_nil))) (y_one (y_cmp (room64 hr) .eq (y_bi rfl .len rfl rfl A.g_len (ya_cons (yr 4) ya_nil)) (yr 1))))))) (y_one (y_cmp (room64 hr) .eq (y_ix (y_ix (yr 2) y_int) y_int) y_int)))))))))
abbrev s_made : Stmt := top 29
theorem sc_made : FnScope ["a", "b", "by"] ["a", "b"] (defScope s_made) := ⟨rfl, rfl, rfl, by decide +kernel, rfl, by decide +kernel, by decide +kernel⟩
noncomputable def b_made (F : Nat) : XS := (xsSeq (xsAsg (xFN gGcd (xCons (xVar 0) (xCons (xVar 1) xNil))) (.nm 2)) (xsSeq (xsIf (xBin gLt (xVar 1) (xLit (.int 0))) (xsAsg (xNeg (xVar 2)) (.nm 2)) xsNil) (xsRet (xTup (xCons (xBin gDiv (xVar 0) (xVar 2)) (xCons (xBin gDiv (xVar 1) (xVar 2)) xNil))))))
noncomputable def p_made (F : Nat) : XP := fnP 2 3 (b_made F)
theorem ok_made (A : Fx P w K mg base) (hF : F ≤ 16777216) : Fn P w K mg base [] "made" s_made ["a", "b"] 1 (lsp (lp (p_made F))) := by
  obtain ⟨f, fd, hm, D⟩ := A.d_made
  exact Fn.pure (fnX_ok hm D sc_made (by decide) (fun _ _ _ _ _ _ us hl => match us, hl with | [_, _], _ => rfl) fun cdv A' outer s H E hr => (yss_cons (ys_set (j := 2) sc_made.nd rfl (by first | exact Or.inl rfl | exact Or.inr rfl) (y_gcd rfl A.f_gcd (ya_cons (yr 0) (ya_cons (yr 1) ya_nil)))) (yss_cons (ys_if (yt_cmp (room64 hr) .lt (yr 1) y_int) (yss_one (ys_set (j := 2) sc_made.nd rfl (by first | exact Or.inl rfl | exact Or.inr rfl) (y_neg (yr 2)))) yss_nil) (yss_one (ys_ret (y_tup (ya_cons (y_bin .div (yr 0) (yr 2)) (ya_cons (y_bin .div (yr 1) (yr 2)) ya_nil))))))))
abbrev s_plus_of : Stmt := top 30
theorem sc_plus_of : FnScope ["x", "y"] ["x", "y"] (defScope s_plus_of) := ⟨rfl, rfl, rfl, by decide +kernel, rfl, by decide +kernel, by decide +kernel⟩
noncomputable def b_plus_of (F : Nat) : XS := (xsRet (xCall (lp (p_made F)) (xCons (xBin gAdd (xBin gMul (xBin gIx (xVar 0) (xLit (.int 0))) (xBin gIx (xVar 1) (xLit (.int 1)))) (xBin gMul (xBin gIx (xVar 1) (xLit (.int 0))) (xBin gIx (xVar 0) (xLit (.int 1))))) (xCons (xBin gMul (xBin gIx (xVar 0) (xLit (.int 1))) (xBin gIx (xVar 1) (xLit (.int 1)))) xNil))))
noncomputable def p_plus_of (F : Nat) : XP := fnP 2 2 (b_plus_of F)
theorem ok_plus_of (A : Fx P w K mg base) (hF : F ≤ 16777216) : Fn P w K mg base [] "plus_of" s_plus_of ["x", "y"] 2 (lsp (lp (p_plus_of F))) := by
  obtain ⟨f, fd, hm, D⟩ := A.d_plus_of
  exact Fn.pure (fnX_ok hm D sc_plus_of (by decide) (fun _ _ _ _ _ _ us hl => match us, hl with | [_, _], _ => rfl) fun cdv A' outer s H E hr => (yss_one (ys_ret (y_call (ok_made A hF) (by decide) hr bcx_takes rfl (ya_cons (y_bin .add (y_bin .mul (y_ix (yr 0) y_int) (y_ix (yr 1) y_int)) (y_bin .mul (y_ix (yr 1) y_int) (y_ix (yr 0) y_int))) (ya_cons (y_bin .mul (y_ix (yr 0) y_int) (y_ix (yr 1) y_int)) ya_nil))))))
abbrev s_times_of : Stmt := top 31
theorem sc_times_of : FnScope ["x", "y"] ["x", "y"] (defScope s_times_of) := ⟨rfl, rfl, rfl, by decide +kernel, rfl, by decide +kernel, by decide +kernel⟩
noncomputable def b_times_of (F : Nat) : XS := (xsRet (xCall (lp (p_made F)) (xCons (xBin gMul (xBin gIx (xVar 0) (xLit (.int 0))) (xBin gIx (xVar 1) (xLit (.int 0)))) (xCons (xBin gMul (xBin gIx (xVar 0) (xLit (.int 1))) (xBin gIx (xVar 1) (xLit (.int 1)))) xNil))))
noncomputable def p_times_of (F : Nat) : XP := fnP 2 2 (b_times_of F)
theorem ok_times_of (A : Fx P w K mg base) (hF : F ≤ 16777216) : Fn P w K mg base [] "times_of" s_times_of ["x", "y"] 2 (lsp (lp (p_times_of F))) := by
  obtain ⟨f, fd, hm, D⟩ := A.d_times_of
  exact Fn.pure (fnX_ok hm D sc_times_of (by decide) (fun _ _ _ _ _ _ us hl => match us, hl with | [_, _], _ => rfl) fun cdv A' outer s H E hr => (yss_one (ys_ret (y_call (ok_made A hF) (by decide) hr bcx_takes rfl (ya_cons (y_bin .mul (y_ix (yr 0) y_int) (y_ix (yr 1) y_int)) (ya_cons (y_bin .mul (y_ix (yr 0) y_int) (y_ix (yr 1) y_int)) ya_nil))))))
abbrev s_sum_of : Stmt := top 32
theorem sc_sum_of : FnScope ["some", "total", "own"] ["some"] (defScope s_sum_of) := ⟨rfl, rfl, rfl, by decide +kernel, rfl, by decide +kernel, by decide +kernel⟩
noncomputable def b_sum_of (F : Nat) : XS := (xsSeq (xsAsg (xLit (.tup [(.int 0), (.int 1)])) (.nm 1)) (xsSeq (xsFor F (xSeq (xVar 0)) (.nm 2) (xsAsg (xCall (lp (p_plus_of F)) (xCons (xVar 1) (xCons (xVar 2) xNil))) (.nm 1))) (xsRet (xVar 1))))
noncomputable def x_sum_of (F : Nat) : XSp := fnA 1 3 (b_sum_of F)
theorem ok_sum_of (A : Fx P w K mg base) (hF : F ≤ 16777216) : Fn P w K mg base [] "sum_of" s_sum_of ["some"] 3 (lsp (x_sum_of F)) := by
  obtain ⟨f, fd, hm, D⟩ := A.d_sum_of
  exact Fn.auto (fnX_ok hm D sc_sum_of (by decide) (fun _ _ _ _ _ _ us hl => match us, hl with | [_], _ => rfl) fun cdv A' outer s H E hr => (yss_cons (ys_set (j := 1) sc_sum_of.nd rfl (by first | exact Or.inl rfl | exact Or.inr rfl) (y_con rfl A.c_NOTHING)) (yss_cons (ys_for hF bcx_owns rfl (yi_seq (yr 0)) (tg 2 sc_sum_of.nd) (yss_one (ys_set (j := 1) sc_sum_of.nd rfl (by first | exact Or.inl rfl | exact Or.inr rfl) (y_call (ok_plus_of A hF) (by decide) hr bcx_takes rfl (ya_cons (yr 1) (ya_cons (yr 2) ya_nil)))))) (yss_one (ys_ret (yr 1))))))
abbrev s_is_fraction : Stmt := top 34
theorem sc_is_fraction : FnScope ["value", "own"] ["value"] (defScope s_is_fraction) := ⟨rfl, rfl, rfl, by decide +kernel, rfl, by decide +kernel, by decide +kernel⟩
noncomputable def b_is_fraction (F : Nat) : XS := (xsSeq (xsIf (xOr (xNot (xIsi (xVar 0) [.tup])) (xOr (xBin gNe (xFN gLen (xCons (xVar 0) xNil)) (xLit (.int 2))) (xNot (xFC cAll (xComp F (xSeq (xVar 0)) (.nm 1) [1] none (xCall (lp (p_is_integer F)) (xCons (xVar 1) xNil))))))) (xsRet (xLit (.bl false))) xsNil) (xsRet (xAnd (xBin gGt (xBin gIx (xVar 0) (xLit (.int 1))) (xLit (.int 0))) (xBin gEq (xFN gGcd (xCons (xBin gIx (xVar 0) (xLit (.int 0))) (xCons (xBin gIx (xVar 0) (xLit (.int 1))) xNil))) (xLit (.int 1))))))
noncomputable def p_is_fraction (F : Nat) : XP := fnP 1 2 (b_is_fraction F)
theorem ok_is_fraction (A : Fx P w K mg base) (hF : F ≤ 16777216) : Fn P w K mg base [] "is_fraction" s_is_fraction ["value"] 2 (lsp (lp (p_is_fraction F))) := by
  obtain ⟨f, fd, hm, D⟩ := A.d_is_fraction
  exact Fn.pure (fnX_ok hm D sc_is_fraction (by decide) (fun _ _ _ _ _ _ us hl => match us, hl with | [_], _ => rfl) fun cdv A' outer s H E hr => (yss_cons (ys_if (yw_t (yw_or (yt_not (yt_val (y_isi rfl A.g_isinstance (yr 0) (ty_name .tup rfl (by decide +kernel) rfl A.g_tuple)))) (yw_or (yt_cmp (room64 hr) .ne (y_bi rfl .len rfl rfl A.g_len (ya_cons (yr 0) ya_nil)) y_int) (yw_one (yt_not (yt_val (y_bic rfl .all cAll rfl rfl rfl A.g_all (y_lc (own := [("own", 1)]) hF rfl sc_is_fraction.nd (yi_seq (yr 0)) (blkOk_by rfl) (by decide) (fun s H C cl fp => (tg 1 sc_is_fraction.nd)) .none (fun s H C cl fp => (y_call (ok_is_integer A hF) (by decide) hr takes0 rfl (ya_cons (yr 1) ya_nil))))))))))) (yss_one (ys_ret y_bl)) yss_nil) (yss_one (ys_ret (y_and (y_cmp (room64 hr) .gt (y_ix (yr 0) y_int) y_int) (y_one (y_cmp (room64 hr) .eq (y_gcd rfl A.f_gcd (ya_cons (y_ix (yr 0) y_int) (ya_cons (y_ix (yr 0) y_int) ya_nil))) y_int)))))))
abbrev s_are_fractions : Stmt := top 35
theorem sc_are_fractions : FnScope ["value", "many", "own"] ["value", "many"] (defScope s_are_fractions) := ⟨rfl, rfl, rfl, by decide +kernel, rfl, by decide +kernel, by decide +kernel⟩
noncomputable def b_are_fractions (F : Nat) : XS := (xsRet (xAnd (xIsi (xVar 0) [.tup]) (xAnd (xBin gEq (xFN gLen (xCons (xVar 0) xNil)) (xVar 1)) (xFC cAll (xComp F (xSeq (xVar 0)) (.nm 2) [2] none (xCall (lp (p_is_fraction F)) (xCons (xVar 2) xNil)))))))
noncomputable def p_are_fractions (F : Nat) : XP := fnP 2 3 (b_are_fractions F)
theorem ok_are_fractions (A : Fx P w K mg base) (hF : F ≤ 16777216) : Fn P w K mg base [] "are_fractions" s_are_fractions ["value", "many"] 3 (lsp (lp (p_are_fractions F))) := by
  obtain ⟨f, fd, hm, D⟩ := A.d_are_fractions
  exact Fn.pure (fnX_ok hm D sc_are_fractions (by decide) (fun _ _ _ _ _ _ us hl => match us, hl with | [_, _], _ => rfl) fun cdv A' outer s H E hr => (yss_one (ys_ret (y_and (y_isi rfl A.g_isinstance (yr 0) (ty_name .tup rfl (by decide +kernel) rfl A.g_tuple)) (y_and (y_cmp (room64 hr) .eq (y_bi rfl .len rfl rfl A.g_len (ya_cons (yr 0) ya_nil)) (yr 1)) (y_one (y_bic rfl .all cAll rfl rfl rfl A.g_all (y_lc (own := [("own", 2)]) hF rfl sc_are_fractions.nd (yi_seq (yr 0)) (blkOk_by rfl) (by decide) (fun s H C cl fp => (tg 2 sc_are_fractions.nd)) .none (fun s H C cl fp => (y_call (ok_is_fraction A hF) (by decide) hr takes0 rfl (ya_cons (yr 2) ya_nil)))))))))))
abbrev s_is_square : Stmt := top 36
theorem sc_is_square : FnScope ["value", "many", "row"] ["value", "many"] (defScope s_is_square) := ⟨rfl, rfl, rfl, by decide +kernel, rfl, by decide +kernel, by decide +kernel⟩
noncomputable def b_is_square (F : Nat) : XS := (xsRet (xAnd (xIsi (xVar 0) [.tup]) (xAnd (xBin gEq (xFN gLen (xCons (xVar 0) xNil)) (xVar 1)) (xFC cAll (xComp F (xSeq (xVar 0)) (.nm 2) [2] none (xCall (lp (p_are_fractions F)) (xCons (xVar 2) (xCons (xVar 1) xNil))))))))
noncomputable def p_is_square (F : Nat) : XP := fnP 2 3 (b_is_square F)
theorem ok_is_square (A : Fx P w K mg base) (hF : F ≤ 16777216) : Fn P w K mg base [] "is_square" s_is_square ["value", "many"] 4 (lsp (lp (p_is_square F))) := by
  obtain ⟨f, fd, hm, D⟩ := A.d_is_square
  exact Fn.pure (fnX_ok hm D sc_is_square (by decide) (fun _ _ _ _ _ _ us hl => match us, hl with | [_, _], _ => rfl) fun cdv A' outer s H E hr => (yss_one (ys_ret (y_and (y_isi rfl A.g_isinstance (yr 0) (ty_name .tup rfl (by decide +kernel) rfl A.g_tuple)) (y_and (y_cmp (room64 hr) .eq (y_bi rfl .len rfl rfl A.g_len (ya_cons (yr 0) ya_nil)) (yr 1)) (y_one (y_bic rfl .all cAll rfl rfl rfl A.g_all (y_lc (own := [("row", 2)]) hF rfl sc_is_square.nd (yi_seq (yr 0)) (blkOk_by rfl) (by decide) (fun s H C cl fp => (tg 2 sc_is_square.nd)) .none (fun s H C cl fp => (y_call (ok_are_fractions A hF) (by decide) hr takes0 rfl (ya_cons (yr 2) (ya_cons (yr 1) ya_nil))))))))))))
abbrev s_product_with : Stmt := top 37
theorem sc_product_with : FnScope ["row", "column", "x", "y"] ["row", "column"] (defScope s_product_with) := ⟨rfl, rfl, rfl, by decide +kernel, rfl, by decide +kernel, by decide +kernel⟩
noncomputable def b_product_with (F : Nat) : XS := (xsRet (xCall (x_sum_of F) (xCons (xNewL (xComp F (xIt gZip (xCons (xVar 0) (xCons (xVar 1) xNil))) (.tp (.cons (.nm 2) (.cons (.nm 3) .nil))) [2, 3] (some (xAnd (xBin gNe (xBin gIx (xVar 2) (xLit (.int 0))) (xLit (.int 0))) (xBin gNe (xBin gIx (xVar 3) (xLit (.int 0))) (xLit (.int 0))))) (xCall (lp (p_times_of F)) (xCons (xVar 2) (xCons (xVar 3) xNil))))) xNil)))
noncomputable def p_product_with (F : Nat) : XP := fnP 2 4 (b_product_with F)
theorem ok_product_with (A : Fx P w K mg base) (hF : F ≤ 16777216) : Fn P w K mg base [] "product_with" s_product_with ["row", "column"] 4 (lsp (lp (p_product_with F))) := by
  obtain ⟨f, fd, hm, D⟩ := A.d_product_with
  exact Fn.pure (fnX_ok hm D sc_product_with (by decide) (fun _ _ _ _ _ _ us hl => match us, hl with | [_, _], _ => rfl) fun cdv A' outer s H E hr => (yss_one (ys_ret (y_call (ok_sum_of A hF) (by decide) hr bcx_takes rfl (ya_cons (y_newL (y_lc (own := [("x", 2), ("y", 3)]) hF rfl sc_product_with.nd (yi_zip rfl A.g_zip (ya_cons (yr 0) (ya_cons (yr 1) ya_nil))) (blkOk_by rfl) (by decide) (fun s H C cl fp => (g_tp rfl (gs_cons (tg 2 sc_product_with.nd) (gs_cons (tg 3 sc_product_with.nd) gs_nil)))) (.one fun s H C cl fp => (yw_t (yw_and (yt_cmp (room64 hr) .ne (y_ix (yr 2) y_int) y_int) (yw_one (yt_cmp (room64 hr) .ne (y_ix (yr 3) y_int) y_int))))) (fun s H C cl fp => (y_call (ok_times_of A hF) (by decide) hr takes0 rfl (ya_cons (yr 2) (ya_cons (yr 3) ya_nil)))))) ya_nil)))))
abbrev s_by_column : Stmt := top 38
theorem sc_by_column : FnScope ["table", "column", "line"] ["table", "column"] (defScope s_by_column) := ⟨rfl, rfl, rfl, by decide +kernel, rfl, by decide +kernel, by decide +kernel⟩
noncomputable def b_by_column (F : Nat) : XS := (xsRet (xNewL (xComp F (xSeq (xVar 0)) (.nm 2) [2] none (xCall (lp (p_product_with F)) (xCons (xVar 2) (xCons (xVar 1) xNil))))))
noncomputable def x_by_column (F : Nat) : XSp := fnA 2 3 (b_by_column F)
theorem ok_by_column (A : Fx P w K mg base) (hF : F ≤ 16777216) : Fn P w K mg base [] "by_column" s_by_column ["table", "column"] 5 (lsp (x_by_column F)) := by
  obtain ⟨f, fd, hm, D⟩ := A.d_by_column
  exact Fn.auto (fnX_ok hm D sc_by_column (by decide) (fun _ _ _ _ _ _ us hl => match us, hl with | [_, _], _ => rfl) fun cdv A' outer s H E hr => (yss_one (ys_ret (y_newL (y_lc (own := [("line", 2)]) hF rfl sc_by_column.nd (yi_seq (yr 0)) (blkOk_by rfl) (by decide) (fun s H C cl fp => (tg 2 sc_by_column.nd)) .none (fun s H C cl fp => (y_call (ok_product_with A hF) (by decide) hr takes0 rfl (ya_cons (yr 2) (ya_cons (yr 1) ya_nil)))))))))
abbrev s_have_tables : Stmt := top 40
theorem sc_have_tables : FnScope ["value", "k", "start", "tables", "end", "many", "table"] ["value"] (defScope s_have_tables) := ⟨rfl, rfl, rfl, by decide +kernel, rfl, by decide +kernel, by decide +kernel⟩
noncomputable def b_have_tables (F : Nat) : XS := (xsSeq (xsIf (xOr (xNot (xIsi (xVar 0) [.tup])) (xOr (xBin gNe (xFN gLen (xCons (xVar 0) xNil)) (xLit (.int 4))) (xOr (xNot (xCall (lp (p_is_base F)) (xCons (xBin gIx (xVar 0) (xLit (.int 0))) xNil))) (xNot (xIsi (xBin gIx (xVar 0) (xLit (.int 1))) [.tup]))))) (xsRet (xLit (.bl false))) xsNil) (xsSeq (xsAsg (xVar 0) (.tp (.cons (.nm 1) (.cons (.nm 2) (.cons (.nm 3) (.cons (.nm 4) .nil)))))) (xsSeq (xsAsg (xFN gLen (xCons (xVar 2) xNil)) (.nm 5)) (xsSeq (xsIf (xOr (xNot (xCall (lp (p_are_fractions F)) (xCons (xVar 2) (xCons (xVar 5) xNil)))) (xNot (xCall (lp (p_are_fractions F)) (xCons (xVar 4) (xCons (xVar 5) xNil))))) (xsRet (xLit (.bl false))) xsNil) (xsRet (xAnd (xIsi (xVar 3) [.tup]) (xAnd (xBin gEq (xFN gLen (xCons (xVar 3) xNil)) (xVar 1)) (xFC cAll (xComp F (xSeq (xVar 3)) (.nm 6) [6] none (xCall (lp (p_is_square F)) (xCons (xVar 6) (xCons (xVar 5) xNil))))))))))))
noncomputable def p_have_tables (F : Nat) : XP := fnP 1 7 (b_have_tables F)
theorem ok_have_tables (A : Fx P w K mg base) (hF : F ≤ 16777216) : Fn P w K mg base [] "have_tables" s_have_tables ["value"] 5 (lsp (lp (p_have_tables F))) := by
  obtain ⟨f, fd, hm, D⟩ := A.d_have_tables
  exact Fn.pure (fnX_ok hm D sc_have_tables (by decide) (fun _ _ _ _ _ _ us hl => match us, hl with | [_], _ => rfl) fun cdv A' outer s H E hr => (yss_cons (ys_if (yw_t (yw_or (yt_not (yt_val (y_isi rfl A.g_isinstance (yr 0) (ty_name .tup rfl (by decide +kernel) rfl A.g_tuple)))) (yw_or (yt_cmp (room64 hr) .ne (y_bi rfl .len rfl rfl A.g_len (ya_cons (yr 0) ya_nil)) y_int) (yw_or (yt_not (yt_val (y_call (ok_is_base A hF) (by decide) hr bcx_takes rfl (ya_cons (y_ix (yr 0) y_int) ya_nil)))) (yw_one (yt_not (yt_val (y_isi rfl A.g_isinstance (y_ix (yr 0) y_int) (ty_name .tup rfl (by decide +kernel) rfl A.g_tuple))))))))) (yss_one (ys_ret y_bl)) yss_nil) (yss_cons (ys_asg (yr 0) (g_tp rfl (gs_cons (tg 1 sc_have_tables.nd) (gs_cons (tg 2 sc_have_tables.nd) (gs_cons (tg 3 sc_have_tables.nd) (gs_cons (tg 4 sc_have_tables.nd) gs_nil)))))) (yss_cons (ys_set (j := 5) sc_have_tables.nd rfl (by first | exact Or.inl rfl | exact Or.inr rfl) (y_bi rfl .len rfl rfl A.g_len (ya_cons (yr 2) ya_nil))) (yss_cons (ys_if (yw_t (yw_or (yt_not (yt_val (y_call (ok_are_fractions A hF) (by decide) hr bcx_takes rfl (ya_cons (yr 2) (ya_cons (yr 5) ya_nil))))) (yw_one (yt_not (yt_val (y_call (ok_are_fractions A hF) (by decide) hr bcx_takes rfl (ya_cons (yr 4) (ya_cons (yr 5) ya_nil)))))))) (yss_one (ys_ret y_bl)) yss_nil) (yss_one (ys_ret (y_and (y_isi rfl A.g_isinstance (yr 3) (ty_name .tup rfl (by decide +kernel) rfl A.g_tuple)) (y_and (y_cmp (room64 hr) .eq (y_bi rfl .len rfl rfl A.g_len (ya_cons (yr 3) ya_nil)) (yr 1)) (y_one (y_bic rfl .all cAll rfl rfl rfl A.g_all (y_lc (own := [("table", 6)]) hF rfl sc_have_tables.nd (yi_seq (yr 3)) (blkOk_by rfl) (by decide) (fun s H C cl fp => (tg 6 sc_have_tables.nd)) .none (fun s H C cl fp => (y_call (ok_is_square A hF) (by decide) hr takes0 rfl (ya_cons (yr 6) (ya_cons (yr 5) ya_nil))))))))))))))))
abbrev s_is_regular_value : Stmt := top 41
theorem sc_is_regular_value : FnScope ["value"] ["value"] (defScope s_is_regular_value) := ⟨rfl, rfl, rfl, by decide +kernel, rfl, by decide +kernel, by decide +kernel⟩
noncomputable def b_is_regular_value (F : Nat) : XS := (xsRet (xAnd (xCall (lp (p_have_tables F)) (xCons (xVar 0) xNil)) (xBin gEq (xFN gTuple (xCons (xCall (x_by_column F) (xCons (xBin gIx (xBin gIx (xVar 0) (xLit (.int 2))) (xLit (.int 0))) (xCons (xBin gIx (xVar 0) (xLit (.int 3))) xNil))) xNil)) (xBin gIx (xVar 0) (xLit (.int 3))))))
noncomputable def p_is_regular_value (F : Nat) : XP := fnP 1 1 (b_is_regular_value F)
theorem ok_is_regular_value (A : Fx P w K mg base) (hF : F ≤ 16777216) : Fn P w K mg base [] "is_regular_value" s_is_regular_value ["value"] 6 (lsp (lp (p_is_regular_value F))) := by
  obtain ⟨f, fd, hm, D⟩ := A.d_is_regular_value
  exact Fn.pure (fnX_ok hm D sc_is_regular_value (by decide) (fun _ _ _ _ _ _ us hl => match us, hl with | [_], _ => rfl) fun cdv A' outer s H E hr => (yss_one (ys_ret (y_and (y_call (ok_have_tables A hF) (by decide) hr bcx_takes rfl (ya_cons (yr 0) ya_nil)) (y_one (y_cmp (room64 hr) .eq (y_bi rfl .tuple rfl rfl A.g_tuple (ya_cons (y_call (ok_by_column A hF) (by decide) hr bcx_takes rfl (ya_cons (y_ix (y_ix (yr 0) y_int) y_int) (ya_cons (y_ix (yr 0) y_int) ya_nil))) ya_nil)) (y_ix (yr 0) y_int)))))))
abbrev s_fraction_text : Stmt := top 43
theorem sc_fraction_text : FnScope ["x"] ["x"] (defScope s_fraction_text) := ⟨rfl, rfl, rfl, by decide +kernel, rfl, by decide +kernel, by decide +kernel⟩
noncomputable def b_fraction_text (F : Nat) : XS := (xsRet (xIte (xBin gEq (xBin gIx (xVar 0) (xLit (.int 1))) (xLit (.int 1))) (xFN gStr (xCons (xBin gIx (xVar 0) (xLit (.int 0))) xNil)) (xBin gAdd (xBin gAdd (xFN gStr (xCons (xBin gIx (xVar 0) (xLit (.int 0))) xNil)) (xLit (.str "/"))) (xFN gStr (xCons (xBin gIx (xVar 0) (xLit (.int 1))) xNil)))))
noncomputable def p_fraction_text (F : Nat) : XP := fnP 1 1 (b_fraction_text F)
theorem ok_fraction_text (A : Fx P w K mg base) (hF : F ≤ 16777216) : Fn P w K mg base [] "fraction_text" s_fraction_text ["x"] 1 (lsp (lp (p_fraction_text F))) := by
  obtain ⟨f, fd, hm, D⟩ := A.d_fraction_text
  exact Fn.pure (fnX_ok hm D sc_fraction_text (by decide) (fun _ _ _ _ _ _ us hl => match us, hl with | [_], _ => rfl) fun cdv A' outer s H E hr => (yss_one (ys_ret (y_ite (yt_cmp (room64 hr) .eq (y_ix (yr 0) y_int) y_int) (y_bi rfl .str rfl rfl A.g_str (ya_cons (y_ix (yr 0) y_int) ya_nil)) (y_bin .add (y_bin .add (y_bi rfl .str rfl rfl A.g_str (ya_cons (y_ix (yr 0) y_int) ya_nil)) y_str) (y_bi rfl .str rfl rfl A.g_str (ya_cons (y_ix (yr 0) y_int) ya_nil)))))))
abbrev s_word_text : Stmt := top 44
theorem sc_word_text : FnScope ["word", "own"] ["word"] (defScope s_word_text) := ⟨rfl, rfl, rfl, by decide +kernel, rfl, by decide +kernel, by decide +kernel⟩
noncomputable def b_word_text (F : Nat) : XS := (xsRet (xIte (xBin gNe (xVar 0) (xTup xNil)) (xMt .join (xLit (.str "")) (xCons (xNewL (xComp F (xSeq (xVar 0)) (.nm 1) [1] none (xFN gStr (xCons (xVar 1) xNil)))) xNil)) (xLit (.str "-"))))
noncomputable def p_word_text (F : Nat) : XP := fnP 1 2 (b_word_text F)
theorem ok_word_text (A : Fx P w K mg base) (hF : F ≤ 16777216) : Fn P w K mg base [] "word_text" s_word_text ["word"] 1 (lsp (lp (p_word_text F))) := by
  obtain ⟨f, fd, hm, D⟩ := A.d_word_text
  exact Fn.pure (fnX_ok hm D sc_word_text (by decide) (fun _ _ _ _ _ _ us hl => match us, hl with | [_], _ => rfl) fun cdv A' outer s H E hr => (yss_one (ys_ret (y_ite (yt_cmp (room64 hr) .ne (yr 0) (y_tup ya_nil)) (y_mt .join rfl y_str (ya_cons (y_newL (y_lc (own := [("own", 1)]) hF rfl sc_word_text.nd (yi_seq (yr 0)) (blkOk_by rfl) (by decide) (fun s H C cl fp => (tg 1 sc_word_text.nd)) .none (fun s H C cl fp => (y_bi rfl .str rfl rfl A.g_str (ya_cons (yr 1) ya_nil))))) ya_nil)) y_str))))
abbrev s_joined_text : Stmt := top 45
theorem sc_joined_text : FnScope ["some", "between", "own"] ["some", "between"] (defScope s_joined_text) := ⟨rfl, rfl, rfl, by decide +kernel, rfl, by decide +kernel, by decide +kernel⟩
noncomputable def b_joined_text (F : Nat) : XS := (xsRet (xMt .join (xVar 1) (xCons (xNewL (xComp F (xSeq (xVar 0)) (.nm 2) [2] none (xFN gStr (xCons (xVar 2) xNil)))) xNil)))
noncomputable def p_joined_text (F : Nat) : XP := fnP 2 3 (b_joined_text F)
theorem ok_joined_text (A : Fx P w K mg base) (hF : F ≤ 16777216) : Fn P w K mg base [] "joined_text" s_joined_text ["some", "between"] 1 (lsp (lp (p_joined_text F))) := by
  obtain ⟨f, fd, hm, D⟩ := A.d_joined_text
  exact Fn.pure (fnX_ok hm D sc_joined_text (by decide) (fun _ _ _ _ _ _ us hl => match us, hl with | [_, _], _ => rfl) fun cdv A' outer s H E hr => (yss_one (ys_ret (y_mt .join rfl (yr 1) (ya_cons (y_newL (y_lc (own := [("own", 2)]) hF rfl sc_joined_text.nd (yi_seq (yr 0)) (blkOk_by rfl) (by decide) (fun s H C cl fp => (tg 2 sc_joined_text.nd)) .none (fun s H C cl fp => (y_bi rfl .str rfl rfl A.g_str (ya_cons (yr 2) ya_nil))))) ya_nil)))))
abbrev s_row_text : Stmt := top 46
theorem sc_row_text : FnScope ["row", "parts", "steps", "letter"] ["row"] (defScope s_row_text) := ⟨rfl, rfl, rfl, by decide +kernel, rfl, by decide +kernel, by decide +kernel⟩
noncomputable def b_row_text (F : Nat) : XS := (xsSeq (xsAsg (xNewL (xComp F (xSeq (xBin gIx (xVar 0) (xLit (.int 1)))) (.tp (.cons (.nm 2) (.cons (.nm 3) .nil))) [2, 3] none (xBin gAdd (xBin gAdd (xCall (lp (p_joined_text F)) (xCons (xVar 2) (xCons (xLit (.str ",")) xNil))) (xLit (.str "="))) (xFN gStr (xCons (xVar 3) xNil))))) (.nm 1)) (xsRet (xBin gAdd (xBin gAdd (xFN gStr (xCons (xBin gIx (xVar 0) (xLit (.int 0))) xNil)) (xLit (.str ": "))) (xMt .join (xLit (.str " ")) (xCons (xVar 1) xNil)))))
noncomputable def p_row_text (F : Nat) : XP := fnP 1 4 (b_row_text F)
theorem ok_row_text (A : Fx P w K mg base) (hF : F ≤ 16777216) : Fn P w K mg base [] "row_text" s_row_text ["row"] 2 (lsp (lp (p_row_text F))) := by
  obtain ⟨f, fd, hm, D⟩ := A.d_row_text
  exact Fn.pure (fnX_ok hm D sc_row_text (by decide) (fun _ _ _ _ _ _ us hl => match us, hl with | [_], _ => rfl) fun cdv A' outer s H E hr => (yss_cons (ys_setLc (own := [("steps", 2), ("letter", 3)]) (j := 1) hF rfl sc_row_text.nd rfl rfl (yi_seq (y_ix (yr 0) y_int)) (blkOk_by rfl) (by decide) (fun s H C cl fp => (g_tp rfl (gs_cons (tg 2 sc_row_text.nd) (gs_cons (tg 3 sc_row_text.nd) gs_nil)))) .none (fun s H C cl fp => (y_bin .add (y_bin .add (y_call (ok_joined_text A hF) (by decide) hr takes0 rfl (ya_cons (yr 2) (ya_cons y_str ya_nil))) y_str) (y_bi rfl .str rfl rfl A.g_str (ya_cons (yr 3) ya_nil))))) (yss_one (ys_ret (y_bin .add (y_bin .add (y_bi rfl .str rfl rfl A.g_str (ya_cons (y_ix (yr 0) y_int) ya_nil)) y_str) (y_mt .join rfl y_str (ya_cons (yr 1) ya_nil)))))))
abbrev s_morphism_text : Stmt := top 47
theorem sc_morphism_text : FnScope ["morphism", "k", "images", "coding", "own"] ["morphism"] (defScope s_morphism_text) := ⟨rfl, rfl, rfl, by decide +kernel, rfl, by decide +kernel, by decide +kernel⟩
noncomputable def b_morphism_text (F : Nat) : XS := (xsSeq (xsAsg (xVar 0) (.tp (.cons (.nm 1) (.cons (.nm 2) (.cons (.nm 3) .nil))))) (xsRet (xBin gAdd (xBin gAdd (xBin gAdd (xBin gAdd (xFN gStr (xCons (xVar 1) xNil)) (xLit (.str ": "))) (xMt .join (xLit (.str " ")) (xCons (xNewL (xComp F (xSeq (xVar 2)) (.nm 4) [4] none (xCall (lp (p_joined_text F)) (xCons (xVar 4) (xCons (xLit (.str ".")) xNil))))) xNil))) (xLit (.str " | "))) (xCall (lp (p_word_text F)) (xCons (xVar 3) xNil)))))
noncomputable def p_morphism_text (F : Nat) : XP := fnP 1 5 (b_morphism_text F)
theorem ok_morphism_text (A : Fx P w K mg base) (hF : F ≤ 16777216) : Fn P w K mg base [] "morphism_text" s_morphism_text ["morphism"] 2 (lsp (lp (p_morphism_text F))) := by
  obtain ⟨f, fd, hm, D⟩ := A.d_morphism_text
  exact Fn.pure (fnX_ok hm D sc_morphism_text (by decide) (fun _ _ _ _ _ _ us hl => match us, hl with | [_], _ => rfl) fun cdv A' outer s H E hr => (yss_cons (ys_asg (yr 0) (g_tp rfl (gs_cons (tg 1 sc_morphism_text.nd) (gs_cons (tg 2 sc_morphism_text.nd) (gs_cons (tg 3 sc_morphism_text.nd) gs_nil))))) (yss_one (ys_ret (y_bin .add (y_bin .add (y_bin .add (y_bin .add (y_bi rfl .str rfl rfl A.g_str (ya_cons (yr 1) ya_nil)) y_str) (y_mt .join rfl y_str (ya_cons (y_newL (y_lc (own := [("own", 4)]) hF rfl sc_morphism_text.nd (yi_seq (yr 2)) (blkOk_by rfl) (by decide) (fun s H C cl fp => (tg 4 sc_morphism_text.nd)) .none (fun s H C cl fp => (y_call (ok_joined_text A hF) (by decide) hr takes0 rfl (ya_cons (yr 4) (ya_cons y_str ya_nil)))))) ya_nil))) y_str) (y_call (ok_word_text A hF) (by decide) hr bcx_takes rfl (ya_cons (yr 3) ya_nil)))))))
abbrev s_term_text : Stmt := top 48
theorem sc_term_text : FnScope ["at", "own", "size"] ["at", "own"] (defScope s_term_text) := ⟨rfl, rfl, rfl, by decide +kernel, rfl, by decide +kernel, by decide +kernel⟩
noncomputable def b_term_text (F : Nat) : XS := (xsSeq (xsIf (xBin gEq (xVar 0) (xLit (.int 0))) (xsRet (xFN gStr (xCons (xVar 1) xNil))) xsNil) (xsSeq (xsAsg (xIte (xBin gEq (xVar 1) (xLit (.int 1))) (xLit (.str "")) (xFN gStr (xCons (xVar 1) xNil))) (.nm 2)) (xsRet (xBin gAdd (xVar 2) (xIte (xBin gEq (xVar 0) (xLit (.int 1))) (xLit (.str "x")) (xBin gAdd (xLit (.str "x^")) (xFN gStr (xCons (xVar 0) xNil))))))))
noncomputable def p_term_text (F : Nat) : XP := fnP 2 3 (b_term_text F)
theorem ok_term_text (A : Fx P w K mg base) (hF : F ≤ 16777216) : Fn P w K mg base [] "term_text" s_term_text ["at", "own"] 1 (lsp (lp (p_term_text F))) := by
  obtain ⟨f, fd, hm, D⟩ := A.d_term_text
  exact Fn.pure (fnX_ok hm D sc_term_text (by decide) (fun _ _ _ _ _ _ us hl => match us, hl with | [_, _], _ => rfl) fun cdv A' outer s H E hr => (yss_cons (ys_if (yt_cmp (room64 hr) .eq (yr 0) y_int) (yss_one (ys_ret (y_bi rfl .str rfl rfl A.g_str (ya_cons (yr 1) ya_nil)))) yss_nil) (yss_cons (ys_set (j := 2) sc_term_text.nd rfl (by first | exact Or.inl rfl | exact Or.inr rfl) (y_ite (yt_cmp (room64 hr) .eq (yr 1) y_int) y_str (y_bi rfl .str rfl rfl A.g_str (ya_cons (yr 1) ya_nil)))) (yss_one (ys_ret (y_bin .add (yr 2) (y_ite (yt_cmp (room64 hr) .eq (yr 0) y_int) y_str (y_bin .add y_str (y_bi rfl .str rfl rfl A.g_str (ya_cons (yr 0) ya_nil))))))))))
abbrev s_polynomial_text : Stmt := top 49
theorem sc_polynomial_text : FnScope ["rows", "at", "own"] ["rows"] (defScope s_polynomial_text) := ⟨rfl, rfl, rfl, by decide +kernel, rfl, by decide +kernel, by decide +kernel⟩
noncomputable def b_polynomial_text (F : Nat) : XS := (xsRet (xIte (xBin gNe (xVar 0) (xTup xNil)) (xMt .join (xLit (.str "+")) (xCons (xNewL (xComp F (xIt gEnum (xCons (xVar 0) xNil)) (.tp (.cons (.nm 1) (.cons (.nm 2) .nil))) [1, 2] (some (xBin gNe (xVar 2) (xLit (.int 0)))) (xCall (lp (p_term_text F)) (xCons (xVar 1) (xCons (xVar 2) xNil))))) xNil)) (xLit (.str "0"))))
noncomputable def p_polynomial_text (F : Nat) : XP := fnP 1 3 (b_polynomial_text F)
theorem ok_polynomial_text (A : Fx P w K mg base) (hF : F ≤ 16777216) : Fn P w K mg base [] "polynomial_text" s_polynomial_text ["rows"] 2 (lsp (lp (p_polynomial_text F))) := by
  obtain ⟨f, fd, hm, D⟩ := A.d_polynomial_text
  exact Fn.pure (fnX_ok hm D sc_polynomial_text (by decide) (fun _ _ _ _ _ _ us hl => match us, hl with | [_], _ => rfl) fun cdv A' outer s H E hr => (yss_one (ys_ret (y_ite (yt_cmp (room64 hr) .ne (yr 0) (y_tup ya_nil)) (y_mt .join rfl y_str (ya_cons (y_newL (y_lc (own := [("at", 1), ("own", 2)]) hF rfl sc_polynomial_text.nd (yi_enum rfl A.g_enumerate (ya_cons (yr 0) ya_nil)) (blkOk_by rfl) (by decide) (fun s H C cl fp => (g_tp rfl (gs_cons (tg 1 sc_polynomial_text.nd) (gs_cons (tg 2 sc_polynomial_text.nd) gs_nil)))) (.one fun s H C cl fp => (yt_cmp (room64 hr) .ne (yr 2) y_int)) (fun s H C cl fp => (y_call (ok_term_text A hF) (by decide) hr takes0 rfl (ya_cons (yr 1) (ya_cons (yr 2) ya_nil)))))) ya_nil)) y_str))))
abbrev s_equation_text : Stmt := top 50
theorem sc_equation_text : FnScope ["k", "equation", "parts", "i", "own"] ["k", "equation"] (defScope s_equation_text) := ⟨rfl, rfl, rfl, by decide +kernel, rfl, by decide +kernel, by decide +kernel⟩
noncomputable def b_equation_text (F : Nat) : XS := (xsSeq (xsAsg (xLst xNil) (.nm 2)) (xsSeq (xsFor F (xIt gEnum (xCons (xVar 1) xNil)) (.tp (.cons (.nm 3) (.cons (.nm 4) .nil))) (xsIf (xBin gNe (xVar 4) (xTup xNil)) (xsExp (xMt .append (xVar 2) (xCons (xBin gAdd (xBin gAdd (xBin gAdd (xLit (.str "(")) (xCall (lp (p_polynomial_text F)) (xCons (xVar 4) xNil))) (xLit (.str ")F"))) (xIte (xBin gEq (xVar 3) (xLit (.int 0))) (xLit (.str "")) (xBin gAdd (xLit (.str "^")) (xFN gStr (xCons (xCall (lp (p_power F)) (xCons (xVar 0) (xCons (xVar 3) xNil))) xNil))))) xNil))) xsNil)) (xsRet (xMt .join (xLit (.str " + ")) (xCons (xVar 2) xNil)))))
noncomputable def p_equation_text (F : Nat) : XP := fnP 2 5 (b_equation_text F)
theorem ok_equation_text (A : Fx P w K mg base) (hF : F ≤ 16777216) : Fn P w K mg base [] "equation_text" s_equation_text ["k", "equation"] 3 (lsp (lp (p_equation_text F))) := by
  obtain ⟨f, fd, hm, D⟩ := A.d_equation_text
  exact Fn.pure (fnX_ok hm D sc_equation_text (by decide) (fun _ _ _ _ _ _ us hl => match us, hl with | [_, _], _ => rfl) fun cdv A' outer s H E hr => (yss_cons (ys_set (j := 2) sc_equation_text.nd rfl (by first | exact Or.inl rfl | exact Or.inr rfl) (y_lst ya_nil)) (yss_cons (ys_for hF bcx_owns rfl (yi_enum rfl A.g_enumerate (ya_cons (yr 1) ya_nil)) (g_tp rfl (gs_cons (tg 3 sc_equation_text.nd) (gs_cons (tg 4 sc_equation_text.nd) gs_nil))) (yss_one (ys_if (yt_cmp (room64 hr) .ne (yr 4) (y_tup ya_nil)) (yss_one (ys_exp (y_mt .append rfl (yr 2) (ya_cons (y_bin .add (y_bin .add (y_bin .add y_str (y_call (ok_polynomial_text A hF) (by decide) hr bcx_takes rfl (ya_cons (yr 4) ya_nil))) y_str) (y_ite (yt_cmp (room64 hr) .eq (yr 3) y_int) y_str (y_bin .add y_str (y_bi rfl .str rfl rfl A.g_str (ya_cons (y_call (ok_power A hF) (by decide) hr bcx_takes rfl (ya_cons (yr 0) (ya_cons (yr 3) ya_nil))) ya_nil))))) ya_nil)))) yss_nil))) (yss_one (ys_ret (y_mt .join rfl y_str (ya_cons (yr 2) ya_nil)))))))
abbrev s_fractions_text : Stmt := top 51
theorem sc_fractions_text : FnScope ["some", "own"] ["some"] (defScope s_fractions_text) := ⟨rfl, rfl, rfl, by decide +kernel, rfl, by decide +kernel, by decide +kernel⟩
noncomputable def b_fractions_text (F : Nat) : XS := (xsRet (xIte (xBin gNe (xVar 0) (xTup xNil)) (xMt .join (xLit (.str " ")) (xCons (xNewL (xComp F (xSeq (xVar 0)) (.nm 1) [1] none (xCall (lp (p_fraction_text F)) (xCons (xVar 1) xNil)))) xNil)) (xLit (.str "-"))))
noncomputable def p_fractions_text (F : Nat) : XP := fnP 1 2 (b_fractions_text F)
theorem ok_fractions_text (A : Fx P w K mg base) (hF : F ≤ 16777216) : Fn P w K mg base [] "fractions_text" s_fractions_text ["some"] 2 (lsp (lp (p_fractions_text F))) := by
  obtain ⟨f, fd, hm, D⟩ := A.d_fractions_text
  exact Fn.pure (fnX_ok hm D sc_fractions_text (by decide) (fun _ _ _ _ _ _ us hl => match us, hl with | [_], _ => rfl) fun cdv A' outer s H E hr => (yss_one (ys_ret (y_ite (yt_cmp (room64 hr) .ne (yr 0) (y_tup ya_nil)) (y_mt .join rfl y_str (ya_cons (y_newL (y_lc (own := [("own", 1)]) hF rfl sc_fractions_text.nd (yi_seq (yr 0)) (blkOk_by rfl) (by decide) (fun s H C cl fp => (tg 1 sc_fractions_text.nd)) .none (fun s H C cl fp => (y_call (ok_fraction_text A hF) (by decide) hr takes0 rfl (ya_cons (yr 1) ya_nil))))) ya_nil)) y_str))))
abbrev s_table_text : Stmt := top 52
theorem sc_table_text : FnScope ["table", "own"] ["table"] (defScope s_table_text) := ⟨rfl, rfl, rfl, by decide +kernel, rfl, by decide +kernel, by decide +kernel⟩
noncomputable def b_table_text (F : Nat) : XS := (xsRet (xIte (xBin gNe (xVar 0) (xTup xNil)) (xMt .join (xLit (.str ", ")) (xCons (xNewL (xComp F (xSeq (xVar 0)) (.nm 1) [1] none (xCall (lp (p_fractions_text F)) (xCons (xVar 1) xNil)))) xNil)) (xLit (.str "-"))))
noncomputable def p_table_text (F : Nat) : XP := fnP 1 2 (b_table_text F)
theorem ok_table_text (A : Fx P w K mg base) (hF : F ≤ 16777216) : Fn P w K mg base [] "table_text" s_table_text ["table"] 3 (lsp (lp (p_table_text F))) := by
  obtain ⟨f, fd, hm, D⟩ := A.d_table_text
  exact Fn.pure (fnX_ok hm D sc_table_text (by decide) (fun _ _ _ _ _ _ us hl => match us, hl with | [_], _ => rfl) fun cdv A' outer s H E hr => (yss_one (ys_ret (y_ite (yt_cmp (room64 hr) .ne (yr 0) (y_tup ya_nil)) (y_mt .join rfl y_str (ya_cons (y_newL (y_lc (own := [("own", 1)]) hF rfl sc_table_text.nd (yi_seq (yr 0)) (blkOk_by rfl) (by decide) (fun s H C cl fp => (tg 1 sc_table_text.nd)) .none (fun s H C cl fp => (y_call (ok_fractions_text A hF) (by decide) hr takes0 rfl (ya_cons (yr 1) ya_nil))))) ya_nil)) y_str))))
abbrev s_regular_text : Stmt := top 53
theorem sc_regular_text : FnScope ["regular", "k", "start", "tables", "end", "middle", "own"] ["regular"] (defScope s_regular_text) := ⟨rfl, rfl, rfl, by decide +kernel, rfl, by decide +kernel, by decide +kernel⟩
noncomputable def b_regular_text (F : Nat) : XS := (xsSeq (xsAsg (xVar 0) (.tp (.cons (.nm 1) (.cons (.nm 2) (.cons (.nm 3) (.cons (.nm 4) .nil)))))) (xsSeq (xsAsg (xMt .join (xLit (.str "; ")) (xCons (xNewL (xComp F (xSeq (xVar 3)) (.nm 6) [6] none (xCall (lp (p_table_text F)) (xCons (xVar 6) xNil)))) xNil)) (.nm 5)) (xsRet (xBin gAdd (xBin gAdd (xBin gAdd (xBin gAdd (xBin gAdd (xBin gAdd (xFN gStr (xCons (xVar 1) xNil)) (xLit (.str ": "))) (xCall (lp (p_fractions_text F)) (xCons (xVar 2) xNil))) (xLit (.str " | "))) (xVar 5)) (xLit (.str " | "))) (xCall (lp (p_fractions_text F)) (xCons (xVar 4) xNil))))))
noncomputable def p_regular_text (F : Nat) : XP := fnP 1 7 (b_regular_text F)
theorem ok_regular_text (A : Fx P w K mg base) (hF : F ≤ 16777216) : Fn P w K mg base [] "regular_text" s_regular_text ["regular"] 4 (lsp (lp (p_regular_text F))) := by
  obtain ⟨f, fd, hm, D⟩ := A.d_regular_text
  exact Fn.pure (fnX_ok hm D sc_regular_text (by decide) (fun _ _ _ _ _ _ us hl => match us, hl with | [_], _ => rfl) fun cdv A' outer s H E hr => (yss_cons (ys_asg (yr 0) (g_tp rfl (gs_cons (tg 1 sc_regular_text.nd) (gs_cons (tg 2 sc_regular_text.nd) (gs_cons (tg 3 sc_regular_text.nd) (gs_cons (tg 4 sc_regular_text.nd) gs_nil)))))) (yss_cons (ys_set (j := 5) sc_regular_text.nd rfl (by first | exact Or.inl rfl | exact Or.inr rfl) (y_mt .join rfl y_str (ya_cons (y_newL (y_lc (own := [("own", 6)]) hF rfl sc_regular_text.nd (yi_seq (yr 3)) (blkOk_by rfl) (by decide) (fun s H C cl fp => (tg 6 sc_regular_text.nd)) .none (fun s H C cl fp => (y_call (ok_table_text A hF) (by decide) hr takes0 rfl (ya_cons (yr 6) ya_nil))))) ya_nil))) (yss_one (ys_ret (y_bin .add (y_bin .add (y_bin .add (y_bin .add (y_bin .add (y_bin .add (y_bi rfl .str rfl rfl A.g_str (ya_cons (yr 1) ya_nil)) y_str) (y_call (ok_fractions_text A hF) (by decide) hr bcx_takes rfl (ya_cons (yr 2) ya_nil))) y_str) (yr 5)) y_str) (y_call (ok_fractions_text A hF) (by decide) hr bcx_takes rfl (ya_cons (yr 4) ya_nil))))))))
abbrev s_natural_of : Stmt := top 56
theorem sc_natural_of : FnScope ["text", "sign"] ["text"] (defScope s_natural_of) := ⟨rfl, rfl, rfl, by decide +kernel, rfl, by decide +kernel, by decide +kernel⟩
noncomputable def b_natural_of (F : Nat) : XS := (xsSeq (xsIf (xOr (xBin gEq (xVar 0) (xLit (.str ""))) (xFC cAny (xComp F (xSeq (xVar 0)) (.nm 1) [1] none (xBin gNin (xVar 1) (xLit (.str "0123456789")))))) (xsRet (xNeg (xLit (.int 1)))) xsNil) (xsRet (xIte (xOr (xBin gEq (xVar 0) (xLit (.str "0"))) (xBin gNe (xBin gIx (xVar 0) (xLit (.int 0))) (xLit (.str "0")))) (xFN gInt (xCons (xVar 0) xNil)) (xNeg (xLit (.int 1))))))
noncomputable def p_natural_of (F : Nat) : XP := fnP 1 2 (b_natural_of F)
theorem ok_natural_of (A : Fx P w K mg base) (hF : F ≤ 16777216) : Fn P w K mg base [] "natural_of" s_natural_of ["text"] 1 (lsp (lp (p_natural_of F))) := by
  obtain ⟨f, fd, hm, D⟩ := A.d_natural_of
  exact Fn.pure (fnX_ok hm D sc_natural_of (by decide) (fun _ _ _ _ _ _ us hl => match us, hl with | [_], _ => rfl) fun cdv A' outer s H E hr => (yss_cons (ys_if (yw_t (yw_or (yt_cmp (room64 hr) .eq (yr 0) y_str) (yw_one (yt_val (y_bic rfl .any cAny rfl rfl rfl A.g_any (y_lc (own := [("sign", 1)]) hF rfl sc_natural_of.nd (yi_seq (yr 0)) (blkOk_by rfl) (by decide) (fun s H C cl fp => (tg 1 sc_natural_of.nd)) .none (fun s H C cl fp => (y_cmp (room64 hr) .nin (yr 1) (y_con rfl A.c_FIGURES))))))))) (yss_one (ys_ret (y_neg y_int))) yss_nil) (yss_one (ys_ret (y_ite (yw_t (yw_or (yt_cmp (room64 hr) .eq (yr 0) y_str) (yw_one (yt_cmp (room64 hr) .ne (y_ix (yr 0) y_int) y_str)))) (y_bi rfl .int rfl rfl A.g_int (ya_cons (yr 0) ya_nil)) (y_neg y_int))))))
abbrev s_integer_of : Stmt := top 57
theorem sc_integer_of : FnScope ["text", "less", "found"] ["text"] (defScope s_integer_of) := ⟨rfl, rfl, rfl, by decide +kernel, rfl, by decide +kernel, by decide +kernel⟩
noncomputable def b_integer_of (F : Nat) : XS := (xsSeq (xsAsg (xMt .starts (xVar 0) (xCons (xLit (.str "-")) xNil)) (.nm 1)) (xsSeq (xsAsg (xCall (lp (p_natural_of F)) (xCons (xIte (xVar 1) (xSl1 (xVar 0) (some (xLit (.int 1))) none) (xVar 0)) xNil)) (.nm 2)) (xsSeq (xsIf (xOr (xBin gLt (xVar 2) (xLit (.int 0))) (xAnd (xVar 1) (xBin gEq (xVar 2) (xLit (.int 0))))) (xsRet (xLit .non)) xsNil) (xsRet (xIte (xVar 1) (xNeg (xVar 2)) (xVar 2))))))
noncomputable def p_integer_of (F : Nat) : XP := fnP 1 3 (b_integer_of F)
theorem ok_integer_of (A : Fx P w K mg base) (hF : F ≤ 16777216) : Fn P w K mg base [] "integer_of" s_integer_of ["text"] 2 (lsp (lp (p_integer_of F))) := by
  obtain ⟨f, fd, hm, D⟩ := A.d_integer_of
  exact Fn.pure (fnX_ok hm D sc_integer_of (by decide) (fun _ _ _ _ _ _ us hl => match us, hl with | [_], _ => rfl) fun cdv A' outer s H E hr => (yss_cons (ys_set (j := 1) sc_integer_of.nd rfl (by first | exact Or.inl rfl | exact Or.inr rfl) (y_mt .starts rfl (yr 0) (ya_cons y_str ya_nil))) (yss_cons (ys_set (j := 2) sc_integer_of.nd rfl (by first | exact Or.inl rfl | exact Or.inr rfl) (y_call (ok_natural_of A hF) (by decide) hr bcx_takes rfl (ya_cons (y_ite (yt_val (yr 1)) (y_sl (yr 0) (.some y_int) .none) (yr 0)) ya_nil))) (yss_cons (ys_if (yw_t (yw_or (yt_cmp (room64 hr) .lt (yr 2) y_int) (yw_one (yw_t (yw_and (yt_val (yr 1)) (yw_one (yt_cmp (room64 hr) .eq (yr 2) y_int))))))) (yss_one (ys_ret y_non)) yss_nil) (yss_one (ys_ret (y_ite (yt_val (yr 1)) (y_neg (yr 2)) (yr 2))))))))
abbrev s_naturals_of : Stmt := top 58
theorem sc_naturals_of : FnScope ["text", "between", "own"] ["text", "between"] (defScope s_naturals_of) := ⟨rfl, rfl, rfl, by decide +kernel, rfl, by decide +kernel, by decide +kernel⟩
noncomputable def b_naturals_of (F : Nat) : XS := (xsRet (xFC cTuple (xComp F (xSeq (xMt .split (xVar 0) (xCons (xVar 1) xNil))) (.nm 2) [2] none (xCall (lp (p_natural_of F)) (xCons (xVar 2) xNil)))))
noncomputable def p_naturals_of (F : Nat) : XP := fnP 2 3 (b_naturals_of F)
theorem ok_naturals_of (A : Fx P w K mg base) (hF : F ≤ 16777216) : Fn P w K mg base [] "naturals_of" s_naturals_of ["text", "between"] 2 (lsp (lp (p_naturals_of F))) := by
  obtain ⟨f, fd, hm, D⟩ := A.d_naturals_of
  exact Fn.pure (fnX_ok hm D sc_naturals_of (by decide) (fun _ _ _ _ _ _ us hl => match us, hl with | [_, _], _ => rfl) fun cdv A' outer s H E hr => (yss_one (ys_ret (y_bic rfl .tuple cTuple rfl rfl rfl A.g_tuple (y_lc (own := [("own", 2)]) hF rfl sc_naturals_of.nd (yi_seq (y_mt .split rfl (yr 0) (ya_cons (yr 1) ya_nil))) (blkOk_by rfl) (by decide) (fun s H C cl fp => (tg 2 sc_naturals_of.nd)) .none (fun s H C cl fp => (y_call (ok_natural_of A hF) (by decide) hr takes0 rfl (ya_cons (yr 2) ya_nil))))))))
abbrev s_fraction_from : Stmt := top 59
theorem sc_fraction_from : FnScope ["text", "above", "slash", "below", "n", "d"] ["text"] (defScope s_fraction_from) := ⟨rfl, rfl, rfl, by decide +kernel, rfl, by decide +kernel, by decide +kernel⟩
noncomputable def b_fraction_from (F : Nat) : XS := (xsSeq (xsAsg (xMt .part (xVar 0) (xCons (xLit (.str "/")) xNil)) (.tp (.cons (.nm 1) (.cons (.nm 2) (.cons (.nm 3) .nil))))) (xsSeq (xsPar (xCons (xCall (lp (p_integer_of F)) (xCons (xVar 1) xNil)) (xCons (xIte (xBin gNe (xVar 2) (xLit (.str ""))) (xCall (lp (p_natural_of F)) (xCons (xVar 3) xNil)) (xLit (.int 1))) xNil)) (.cons (.nm 4) (.cons (.nm 5) .nil))) (xsRet (xIte (xAnd (xIsN true (xVar 4)) (xAnd (xCall (lp (p_is_fraction F)) (xCons (xTup (xCons (xVar 4) (xCons (xVar 5) xNil))) xNil)) (xBin gEq (xCall (lp (p_fraction_text F)) (xCons (xTup (xCons (xVar 4) (xCons (xVar 5) xNil))) xNil)) (xVar 0)))) (xTup (xCons (xVar 4) (xCons (xVar 5) xNil))) (xLit .non)))))
noncomputable def p_fraction_from (F : Nat) : XP := fnP 1 6 (b_fraction_from F)
theorem ok_fraction_from (A : Fx P w K mg base) (hF : F ≤ 16777216) : Fn P w K mg base [] "fraction_from" s_fraction_from ["text"] 3 (lsp (lp (p_fraction_from F))) := by
  obtain ⟨f, fd, hm, D⟩ := A.d_fraction_from
  exact Fn.pure (fnX_ok hm D sc_fraction_from (by decide) (fun _ _ _ _ _ _ us hl => match us, hl with | [_], _ => rfl) fun cdv A' outer s H E hr => (yss_cons (ys_asg (y_mt .part rfl (yr 0) (ya_cons y_str ya_nil)) (g_tp rfl (gs_cons (tg 1 sc_fraction_from.nd) (gs_cons (tg 2 sc_fraction_from.nd) (gs_cons (tg 3 sc_fraction_from.nd) gs_nil))))) (yss_cons (ys_par (i1 := 4) (j1 := 5) rfl sc_fraction_from.nd rfl rfl (by decide) rfl rfl (ya_cons (y_call (ok_integer_of A hF) (by decide) hr bcx_takes rfl (ya_cons (yr 1) ya_nil)) (ya_cons (y_ite (yt_cmp (room64 hr) .ne (yr 2) y_str) (y_call (ok_natural_of A hF) (by decide) hr bcx_takes rfl (ya_cons (yr 3) ya_nil)) y_int) ya_nil))) (yss_one (ys_ret (y_ite (yw_t (yw_and (yt_notN (yr 4)) (yw_and (yt_val (y_call (ok_is_fraction A hF) (by decide) hr bcx_takes rfl (ya_cons (y_tup (ya_cons (yr 4) (ya_cons (yr 5) ya_nil))) ya_nil))) (yw_one (yt_cmp (room64 hr) .eq (y_call (ok_fraction_text A hF) (by decide) hr bcx_takes rfl (ya_cons (y_tup (ya_cons (yr 4) (ya_cons (yr 5) ya_nil))) ya_nil)) (yr 0)))))) (y_tup (ya_cons (yr 4) (ya_cons (yr 5) ya_nil))) y_non))))))
abbrev s_word_from : Stmt := top 60
theorem sc_word_from : FnScope ["text", "value", "sign"] ["text"] (defScope s_word_from) := ⟨rfl, rfl, rfl, by decide +kernel, rfl, by decide +kernel, by decide +kernel⟩
noncomputable def b_word_from (F : Nat) : XS := (xsSeq (xsAsg (xIte (xBin gEq (xVar 0) (xLit (.str "-"))) (xTup xNil) (xFC cTuple (xComp F (xSeq (xVar 0)) (.nm 2) [2] none (xCall (lp (p_natural_of F)) (xCons (xVar 2) xNil))))) (.nm 1)) (xsRet (xIte (xAnd (xCall (lp (p_is_word F)) (xCons (xVar 1) xNil)) (xBin gEq (xCall (lp (p_word_text F)) (xCons (xVar 1) xNil)) (xVar 0))) (xVar 1) (xLit .non))))
noncomputable def p_word_from (F : Nat) : XP := fnP 1 3 (b_word_from F)
theorem ok_word_from (A : Fx P w K mg base) (hF : F ≤ 16777216) : Fn P w K mg base [] "word_from" s_word_from ["text"] 5 (lsp (lp (p_word_from F))) := by
  obtain ⟨f, fd, hm, D⟩ := A.d_word_from
  exact Fn.pure (fnX_ok hm D sc_word_from (by decide) (fun _ _ _ _ _ _ us hl => match us, hl with | [_], _ => rfl) fun cdv A' outer s H E hr => (yss_cons (ys_set (j := 1) sc_word_from.nd rfl (by first | exact Or.inl rfl | exact Or.inr rfl) (y_ite (yt_cmp (room64 hr) .eq (yr 0) y_str) (y_tup ya_nil) (y_bic rfl .tuple cTuple rfl rfl rfl A.g_tuple (y_lc (own := [("sign", 2)]) hF rfl sc_word_from.nd (yi_seq (yr 0)) (blkOk_by rfl) (by decide) (fun s H C cl fp => (tg 2 sc_word_from.nd)) .none (fun s H C cl fp => (y_call (ok_natural_of A hF) (by decide) hr takes0 rfl (ya_cons (yr 2) ya_nil))))))) (yss_one (ys_ret (y_ite (yw_t (yw_and (yt_val (y_call (ok_is_word A hF) (by decide) hr bcx_takes rfl (ya_cons (yr 1) ya_nil))) (yw_one (yt_cmp (room64 hr) .eq (y_call (ok_word_text A hF) (by decide) hr bcx_takes rfl (ya_cons (yr 1) ya_nil)) (yr 0))))) (yr 1) y_non)))))
abbrev s_row_from_text : Stmt := top 61
theorem sc_row_from_text : FnScope ["text", "head", "sign", "rest", "states", "own", "steps", "equal", "letter", "value"] ["text"] (defScope s_row_from_text) := ⟨rfl, rfl, rfl, by decide +kernel, rfl, by decide +kernel, by decide +kernel⟩
noncomputable def b_row_from_text (F : Nat) : XS := (xsSeq (xsAsg (xMt .part (xVar 0) (xCons (xLit (.str ": ")) xNil)) (.tp (.cons (.nm 1) (.cons (.nm 2) (.cons (.nm 3) .nil))))) (xsSeq (xsAsg (xLst xNil) (.nm 4)) (xsSeq (xsFor F (xSeq (xMt .split (xVar 3) (xCons (xLit (.str " ")) xNil))) (.nm 5) (xsSeq (xsAsg (xMt .part (xVar 5) (xCons (xLit (.str "=")) xNil)) (.tp (.cons (.nm 6) (.cons (.nm 7) (.cons (.nm 8) .nil))))) (xsExp (xMt .append (xVar 4) (xCons (xTup (xCons (xCall (lp (p_naturals_of F)) (xCons (xVar 6) (xCons (xLit (.str ",")) xNil))) (xCons (xCall (lp (p_natural_of F)) (xCons (xVar 8) xNil)) xNil))) xNil))))) (xsSeq (xsAsg (xTup (xCons (xCall (lp (p_natural_of F)) (xCons (xVar 1) xNil)) (xCons (xFN gTuple (xCons (xVar 4) xNil)) xNil))) (.nm 9)) (xsRet (xIte (xAnd (xCall (lp (p_is_row_value F)) (xCons (xVar 9) xNil)) (xBin gEq (xCall (lp (p_row_text F)) (xCons (xVar 9) xNil)) (xVar 0))) (xVar 9) (xLit .non)))))))
noncomputable def p_row_from_text (F : Nat) : XP := fnP 1 10 (b_row_from_text F)
theorem ok_row_from_text (A : Fx P w K mg base) (hF : F ≤ 16777216) : Fn P w K mg base [] "row_from_text" s_row_from_text ["text"] 6 (lsp (lp (p_row_from_text F))) := by
  obtain ⟨f, fd, hm, D⟩ := A.d_row_from_text
  exact Fn.pure (fnX_ok hm D sc_row_from_text (by decide) (fun _ _ _ _ _ _ us hl => match us, hl with | [_], _ => rfl) fun cdv A' outer s H E hr => (yss_cons (ys_asg (y_mt .part rfl (yr 0) (ya_cons y_str ya_nil)) (g_tp rfl (gs_cons (tg 1 sc_row_from_text.nd) (gs_cons (tg 2 sc_row_from_text.nd) (gs_cons (tg 3 sc_row_from_text.nd) gs_nil))))) (yss_cons (ys_set (j := 4) sc_row_from_text.nd rfl (by first | exact Or.inl rfl | exact Or.inr rfl) (y_lst ya_nil)) (yss_cons (ys_for hF bcx_owns rfl (yi_seq (y_mt .split rfl (yr 3) (ya_cons y_str ya_nil))) (tg 5 sc_row_from_text.nd) (yss_cons (ys_asg (y_mt .part rfl (yr 5) (ya_cons y_str ya_nil)) (g_tp rfl (gs_cons (tg 6 sc_row_from_text.nd) (gs_cons (tg 7 sc_row_from_text.nd) (gs_cons (tg 8 sc_row_from_text.nd) gs_nil))))) (yss_one (ys_exp (y_mt .append rfl (yr 4) (ya_cons (y_tup (ya_cons (y_call (ok_naturals_of A hF) (by decide) hr bcx_takes rfl (ya_cons (yr 6) (ya_cons y_str ya_nil))) (ya_cons (y_call (ok_natural_of A hF) (by decide) hr bcx_takes rfl (ya_cons (yr 8) ya_nil)) ya_nil))) ya_nil)))))) (yss_cons (ys_set (j := 9) sc_row_from_text.nd rfl (by first | exact Or.inl rfl | exact Or.inr rfl) (y_tup (ya_cons (y_call (ok_natural_of A hF) (by decide) hr bcx_takes rfl (ya_cons (yr 1) ya_nil)) (ya_cons (y_bi rfl .tuple rfl rfl A.g_tuple (ya_cons (yr 4) ya_nil)) ya_nil)))) (yss_one (ys_ret (y_ite (yw_t (yw_and (yt_val (y_call (ok_is_row_value A hF) (by decide) hr bcx_takes rfl (ya_cons (yr 9) ya_nil))) (yw_one (yt_cmp (room64 hr) .eq (y_call (ok_row_text A hF) (by decide) hr bcx_takes rfl (ya_cons (yr 9) ya_nil)) (yr 0))))) (yr 9) y_non))))))))
abbrev s_morphism_from : Stmt := top 62
theorem sc_morphism_from : FnScope ["text", "head", "sign", "rest", "middle", "line", "last", "value", "own"] ["text"] (defScope s_morphism_from) := ⟨rfl, rfl, rfl, by decide +kernel, rfl, by decide +kernel, by decide +kernel⟩
noncomputable def b_morphism_from (F : Nat) : XS := (xsSeq (xsAsg (xMt .part (xVar 0) (xCons (xLit (.str ": ")) xNil)) (.tp (.cons (.nm 1) (.cons (.nm 2) (.cons (.nm 3) .nil))))) (xsSeq (xsAsg (xMt .part (xVar 3) (xCons (xLit (.str " | ")) xNil)) (.tp (.cons (.nm 4) (.cons (.nm 5) (.cons (.nm 6) .nil))))) (xsSeq (xsAsg (xTup (xCons (xCall (lp (p_natural_of F)) (xCons (xVar 1) xNil)) (xCons (xFC cTuple (xComp F (xSeq (xMt .split (xVar 4) (xCons (xLit (.str " ")) xNil))) (.nm 8) [8] none (xCall (lp (p_naturals_of F)) (xCons (xVar 8) (xCons (xLit (.str ".")) xNil))))) (xCons (xCall (lp (p_word_from F)) (xCons (xVar 6) xNil)) xNil)))) (.nm 7)) (xsRet (xIte (xAnd (xCall (lp (p_is_morphism_value F)) (xCons (xVar 7) xNil)) (xBin gEq (xCall (lp (p_morphism_text F)) (xCons (xVar 7) xNil)) (xVar 0))) (xVar 7) (xLit .non))))))
noncomputable def p_morphism_from (F : Nat) : XP := fnP 1 9 (b_morphism_from F)
theorem ok_morphism_from (A : Fx P w K mg base) (hF : F ≤ 16777216) : Fn P w K mg base [] "morphism_from" s_morphism_from ["text"] 6 (lsp (lp (p_morphism_from F))) := by
  obtain ⟨f, fd, hm, D⟩ := A.d_morphism_from
  exact Fn.pure (fnX_ok hm D sc_morphism_from (by decide) (fun _ _ _ _ _ _ us hl => match us, hl with | [_], _ => rfl) fun cdv A' outer s H E hr => (yss_cons (ys_asg (y_mt .part rfl (yr 0) (ya_cons y_str ya_nil)) (g_tp rfl (gs_cons (tg 1 sc_morphism_from.nd) (gs_cons (tg 2 sc_morphism_from.nd) (gs_cons (tg 3 sc_morphism_from.nd) gs_nil))))) (yss_cons (ys_asg (y_mt .part rfl (yr 3) (ya_cons y_str ya_nil)) (g_tp rfl (gs_cons (tg 4 sc_morphism_from.nd) (gs_cons (tg 5 sc_morphism_from.nd) (gs_cons (tg 6 sc_morphism_from.nd) gs_nil))))) (yss_cons (ys_set (j := 7) sc_morphism_from.nd rfl (by first | exact Or.inl rfl | exact Or.inr rfl) (y_tup (ya_cons (y_call (ok_natural_of A hF) (by decide) hr bcx_takes rfl (ya_cons (yr 1) ya_nil)) (ya_cons (y_bic rfl .tuple cTuple rfl rfl rfl A.g_tuple (y_lc (own := [("own", 8)]) hF rfl sc_morphism_from.nd (yi_seq (y_mt .split rfl (yr 4) (ya_cons y_str ya_nil))) (blkOk_by rfl) (by decide) (fun s H C cl fp => (tg 8 sc_morphism_from.nd)) .none (fun s H C cl fp => (y_call (ok_naturals_of A hF) (by decide) hr takes0 rfl (ya_cons (yr 8) (ya_cons y_str ya_nil)))))) (ya_cons (y_call (ok_word_from A hF) (by decide) hr bcx_takes rfl (ya_cons (yr 6) ya_nil)) ya_nil))))) (yss_one (ys_ret (y_ite (yw_t (yw_and (yt_val (y_call (ok_is_morphism_value A hF) (by decide) hr bcx_takes rfl (ya_cons (yr 7) ya_nil))) (yw_one (yt_cmp (room64 hr) .eq (y_call (ok_morphism_text A hF) (by decide) hr bcx_takes rfl (ya_cons (yr 7) ya_nil)) (yr 0))))) (yr 7) y_non)))))))
abbrev s_term_from : Stmt := top 63
theorem sc_term_from : FnScope ["text", "size", "letter", "tail", "own", "many"] ["text"] (defScope s_term_from) := ⟨rfl, rfl, rfl, by decide +kernel, rfl, by decide +kernel, by decide +kernel⟩
noncomputable def b_term_from (F : Nat) : XS := (xsSeq (xsAsg (xMt .part (xVar 0) (xCons (xLit (.str "x")) xNil)) (.tp (.cons (.nm 1) (.cons (.nm 2) (.cons (.nm 3) .nil))))) (xsSeq (xsIf (xBin gEq (xVar 2) (xLit (.str ""))) (xsRet (xTup (xCons (xLit (.int 0)) (xCons (xCall (lp (p_natural_of F)) (xCons (xVar 1) xNil)) xNil)))) xsNil) (xsSeq (xsAsg (xIte (xBin gEq (xVar 1) (xLit (.str ""))) (xLit (.int 1)) (xCall (lp (p_natural_of F)) (xCons (xVar 1) xNil))) (.nm 4)) (xsSeq (xsAsg (xIte (xBin gEq (xVar 3) (xLit (.str ""))) (xLit (.int 1)) (xIte (xMt .starts (xVar 3) (xCons (xLit (.str "^")) xNil)) (xCall (lp (p_natural_of F)) (xCons (xSl1 (xVar 3) (some (xLit (.int 1))) none) xNil)) (xNeg (xLit (.int 1))))) (.nm 5)) (xsRet (xIte (xBin gGt (xVar 5) (xLit (.int 0))) (xTup (xCons (xVar 5) (xCons (xVar 4) xNil))) (xLit .non)))))))
noncomputable def p_term_from (F : Nat) : XP := fnP 1 6 (b_term_from F)
theorem ok_term_from (A : Fx P w K mg base) (hF : F ≤ 16777216) : Fn P w K mg base [] "term_from" s_term_from ["text"] 2 (lsp (lp (p_term_from F))) := by
  obtain ⟨f, fd, hm, D⟩ := A.d_term_from
  exact Fn.pure (fnX_ok hm D sc_term_from (by decide) (fun _ _ _ _ _ _ us hl => match us, hl with | [_], _ => rfl) fun cdv A' outer s H E hr => (yss_cons (ys_asg (y_mt .part rfl (yr 0) (ya_cons y_str ya_nil)) (g_tp rfl (gs_cons (tg 1 sc_term_from.nd) (gs_cons (tg 2 sc_term_from.nd) (gs_cons (tg 3 sc_term_from.nd) gs_nil))))) (yss_cons (ys_if (yt_cmp (room64 hr) .eq (yr 2) y_str) (yss_one (ys_ret (y_tup (ya_cons y_int (ya_cons (y_call (ok_natural_of A hF) (by decide) hr bcx_takes rfl (ya_cons (yr 1) ya_nil)) ya_nil))))) yss_nil) (yss_cons (ys_set (j := 4) sc_term_from.nd rfl (by first | exact Or.inl rfl | exact Or.inr rfl) (y_ite (yt_cmp (room64 hr) .eq (yr 1) y_str) y_int (y_call (ok_natural_of A hF) (by decide) hr bcx_takes rfl (ya_cons (yr 1) ya_nil)))) (yss_cons (ys_set (j := 5) sc_term_from.nd rfl (by first | exact Or.inl rfl | exact Or.inr rfl) (y_ite (yt_cmp (room64 hr) .eq (yr 3) y_str) y_int (y_ite (yt_val (y_mt .starts rfl (yr 3) (ya_cons y_str ya_nil))) (y_call (ok_natural_of A hF) (by decide) hr bcx_takes rfl (ya_cons (y_sl (yr 3) (.some y_int) .none) ya_nil)) (y_neg y_int)))) (yss_one (ys_ret (y_ite (yt_cmp (room64 hr) .gt (yr 5) y_int) (y_tup (ya_cons (yr 5) (ya_cons (yr 4) ya_nil))) y_non))))))))
abbrev s_polynomial_from : Stmt := top 64
theorem sc_polynomial_from : FnScope ["k", "text", "terms", "rows", "many", "own", "value"] ["k", "text"] (defScope s_polynomial_from) := ⟨rfl, rfl, rfl, by decide +kernel, rfl, by decide +kernel, by decide +kernel⟩
noncomputable def b_polynomial_from (F : Nat) : XS := (xsSeq (xsIf (xBin gEq (xVar 1) (xLit (.str "0"))) (xsRet (xTup xNil)) xsNil) (xsSeq (xsAsg (xNewL (xComp F (xSeq (xMt .split (xVar 1) (xCons (xLit (.str "+")) xNil))) (.nm 5) [5] none (xCall (lp (p_term_from F)) (xCons (xVar 5) xNil)))) (.nm 2)) (xsSeq (xsIf (xFC cAny (xComp F (xSeq (xVar 2)) (.nm 5) [5] none (xOr (xIsN false (xVar 5)) (xNot (xChain gLt gLt (xLit (.int 0)) (xBin gIx (xVar 5) (xLit (.int 1))) (xVar 0)))))) (xsRet (xLit .non)) xsNil) (xsSeq (xsAsg (xBin gMul (xLst (xCons (xLit (.int 0)) xNil)) (xBin gAdd (xFC cMax (xComp F (xSeq (xVar 2)) (.tp (.cons (.nm 4) (.cons (.nm 5) .nil))) [4, 5] none (xVar 4))) (xLit (.int 1)))) (.nm 3)) (xsSeq (xsFor F (xSeq (xVar 2)) (.tp (.cons (.nm 4) (.cons (.nm 5) .nil))) (xsSet (xVar 3) (xVar 4) (xVar 5))) (xsSeq (xsAsg (xFN gTuple (xCons (xVar 3) xNil)) (.nm 6)) (xsRet (xIte (xAnd (xCall (lp (p_is_poly F)) (xCons (xVar 0) (xCons (xVar 6) xNil))) (xBin gEq (xCall (lp (p_polynomial_text F)) (xCons (xVar 6) xNil)) (xVar 1))) (xVar 6) (xLit .non)))))))))
noncomputable def p_polynomial_from (F : Nat) : XP := fnP 2 7 (b_polynomial_from F)
theorem ok_polynomial_from (A : Fx P w K mg base) (hF : F ≤ 16777216) : Fn P w K mg base [] "polynomial_from" s_polynomial_from ["k", "text"] 3 (lsp (lp (p_polynomial_from F))) := by
  obtain ⟨f, fd, hm, D⟩ := A.d_polynomial_from
  exact Fn.pure (fnX_ok hm D sc_polynomial_from (by decide) (fun _ _ _ _ _ _ us hl => match us, hl with | [_, _], _ => rfl) fun cdv A' outer s H E hr => (yss_cons (ys_if (yt_cmp (room64 hr) .eq (yr 1) y_str) (yss_one (ys_ret (y_tup ya_nil))) yss_nil) (yss_cons (ys_setLc (own := [("own", 5)]) (j := 2) hF rfl sc_polynomial_from.nd rfl rfl (yi_seq (y_mt .split rfl (yr 1) (ya_cons y_str ya_nil))) (blkOk_by rfl) (by decide) (fun s H C cl fp => (tg 5 sc_polynomial_from.nd)) .none (fun s H C cl fp => (y_call (ok_term_from A hF) (by decide) hr takes0 rfl (ya_cons (yr 5) ya_nil)))) (yss_cons (ys_if (yt_val (y_bic rfl .any cAny rfl rfl rfl A.g_any (y_lc (own := [("own", 5)]) hF rfl sc_polynomial_from.nd (yi_seq (yr 2)) (blkOk_by rfl) (by decide) (fun s H C cl fp => (tg 5 sc_polynomial_from.nd)) .none (fun s H C cl fp => (y_or (y_isN (yr 5)) (y_one (y_not (y_chain (room64 hr) .lt .lt y_int (y_ix (yr 5) y_int) (yr 0))))))))) (yss_one (ys_ret y_non)) yss_nil) (yss_cons (ys_set (j := 3) sc_polynomial_from.nd rfl (by first | exact Or.inl rfl | exact Or.inr rfl) (y_bin .mul (y_lst (ya_cons y_int ya_nil)) (y_bin .add (y_bic rfl .max cMax rfl rfl rfl A.g_max (y_lc (own := [("many", 4), ("own", 5)]) hF rfl sc_polynomial_from.nd (yi_seq (yr 2)) (blkOk_by rfl) (by decide) (fun s H C cl fp => (g_tp rfl (gs_cons (tg 4 sc_polynomial_from.nd) (gs_cons (tg 5 sc_polynomial_from.nd) gs_nil)))) .none (fun s H C cl fp => (yr 4)))) y_int))) (yss_cons (ys_for hF bcx_owns rfl (yi_seq (yr 2)) (g_tp rfl (gs_cons (tg 4 sc_polynomial_from.nd) (gs_cons (tg 5 sc_polynomial_from.nd) gs_nil))) (yss_one (ys_setix (yr 3) (yr 4) (yr 5)))) (yss_cons (ys_set (j := 6) sc_polynomial_from.nd rfl (by first | exact Or.inl rfl | exact Or.inr rfl) (y_bi rfl .tuple rfl rfl A.g_tuple (ya_cons (yr 3) ya_nil))) (yss_one (ys_ret (y_ite (yw_t (yw_and (yt_val (y_call (ok_is_poly A hF) (by decide) hr bcx_takes rfl (ya_cons (yr 0) (ya_cons (yr 6) ya_nil)))) (yw_one (yt_cmp (room64 hr) .eq (y_call (ok_polynomial_text A hF) (by decide) hr bcx_takes rfl (ya_cons (yr 6) ya_nil)) (yr 1))))) (yr 6) y_non))))))))))
abbrev s_part_from : Stmt := top 65
theorem sc_part_from : FnScope ["k", "text", "inner", "sign", "tail", "polynomial", "many", "at"] ["k", "text"] (defScope s_part_from) := ⟨rfl, rfl, rfl, by decide +kernel, rfl, by decide +kernel, by decide +kernel⟩
noncomputable def b_part_from (F : Nat) : XS := (xsSeq (xsAsg (xMt .part (xVar 1) (xCons (xLit (.str ")F")) xNil)) (.tp (.cons (.nm 2) (.cons (.nm 3) (.cons (.nm 4) .nil))))) (xsSeq (xsAsg (xIte (xMt .starts (xVar 2) (xCons (xLit (.str "(")) xNil)) (xCall (lp (p_polynomial_from F)) (xCons (xVar 0) (xCons (xSl1 (xVar 2) (some (xLit (.int 1))) none) xNil))) (xLit .non)) (.nm 5)) (xsSeq (xsIf (xOr (xBin gEq (xVar 3) (xLit (.str ""))) (xOr (xIsN false (xVar 5)) (xBin gEq (xVar 5) (xTup xNil)))) (xsRet (xLit .non)) xsNil) (xsSeq (xsIf (xBin gEq (xVar 4) (xLit (.str ""))) (xsRet (xTup (xCons (xLit (.int 0)) (xCons (xVar 5) xNil)))) xsNil) (xsSeq (xsPar (xCons (xIte (xMt .starts (xVar 4) (xCons (xLit (.str "^")) xNil)) (xCall (lp (p_natural_of F)) (xCons (xSl1 (xVar 4) (some (xLit (.int 1))) none) xNil)) (xNeg (xLit (.int 1)))) (xCons (xLit (.int 1)) xNil)) (.cons (.nm 6) (.cons (.nm 7) .nil))) (xsSeq (xsWhile F (xBin gLt (xCall (lp (p_power F)) (xCons (xVar 0) (xCons (xVar 7) xNil))) (xVar 6)) (xsAug 7 .add (xLit (.int 1)))) (xsRet (xIte (xBin gEq (xCall (lp (p_power F)) (xCons (xVar 0) (xCons (xVar 7) xNil))) (xVar 6)) (xTup (xCons (xVar 7) (xCons (xVar 5) xNil))) (xLit .non)))))))))
noncomputable def p_part_from (F : Nat) : XP := fnP 2 8 (b_part_from F)
theorem ok_part_from (A : Fx P w K mg base) (hF : F ≤ 16777216) : Fn P w K mg base [] "part_from" s_part_from ["k", "text"] 4 (lsp (lp (p_part_from F))) := by
  obtain ⟨f, fd, hm, D⟩ := A.d_part_from
  exact Fn.pure (fnX_ok hm D sc_part_from (by decide) (fun _ _ _ _ _ _ us hl => match us, hl with | [_, _], _ => rfl) fun cdv A' outer s H E hr => (yss_cons (ys_asg (y_mt .part rfl (yr 1) (ya_cons y_str ya_nil)) (g_tp rfl (gs_cons (tg 2 sc_part_from.nd) (gs_cons (tg 3 sc_part_from.nd) (gs_cons (tg 4 sc_part_from.nd) gs_nil))))) (yss_cons (ys_set (j := 5) sc_part_from.nd rfl (by first | exact Or.inl rfl | exact Or.inr rfl) (y_ite (yt_val (y_mt .starts rfl (yr 2) (ya_cons y_str ya_nil))) (y_call (ok_polynomial_from A hF) (by decide) hr bcx_takes rfl (ya_cons (yr 0) (ya_cons (y_sl (yr 2) (.some y_int) .none) ya_nil))) y_non)) (yss_cons (ys_if (yw_t (yw_or (yt_cmp (room64 hr) .eq (yr 3) y_str) (yw_or (yt_isN (yr 5)) (yw_one (yt_cmp (room64 hr) .eq (yr 5) (y_tup ya_nil)))))) (yss_one (ys_ret y_non)) yss_nil) (yss_cons (ys_if (yt_cmp (room64 hr) .eq (yr 4) y_str) (yss_one (ys_ret (y_tup (ya_cons y_int (ya_cons (yr 5) ya_nil))))) yss_nil) (yss_cons (ys_par (i1 := 6) (j1 := 7) rfl sc_part_from.nd rfl rfl (by decide) rfl rfl (ya_cons (y_ite (yt_val (y_mt .starts rfl (yr 4) (ya_cons y_str ya_nil))) (y_call (ok_natural_of A hF) (by decide) hr bcx_takes rfl (ya_cons (y_sl (yr 4) (.some y_int) .none) ya_nil)) (y_neg y_int)) (ya_cons y_int ya_nil))) (yss_cons (ys_while hF bcx_owns (yt_cmp (room64 hr) .lt (y_call (ok_power A hF) (by decide) hr bcx_takes rfl (ya_cons (yr 0) (ya_cons (yr 7) ya_nil))) (yr 6)) (yss_one (ys_aug (j := 7) .add sc_part_from.nd rfl (by first | exact Or.inl rfl | exact Or.inr rfl) y_int))) (yss_one (ys_ret (y_ite (yt_cmp (room64 hr) .eq (y_call (ok_power A hF) (by decide) hr bcx_takes rfl (ya_cons (yr 0) (ya_cons (yr 7) ya_nil))) (yr 6)) (y_tup (ya_cons (yr 7) (ya_cons (yr 5) ya_nil))) y_non))))))))))
abbrev s_equation_from : Stmt := top 66
theorem sc_equation_from : FnScope ["k", "text", "parts", "rows", "at", "own", "value"] ["k", "text"] (defScope s_equation_from) := ⟨rfl, rfl, rfl, by decide +kernel, rfl, by decide +kernel, by decide +kernel⟩
noncomputable def b_equation_from (F : Nat) : XS := (xsSeq (xsAsg (xNewL (xComp F (xSeq (xMt .split (xVar 1) (xCons (xLit (.str " + ")) xNil))) (.nm 5) [5] none (xCall (lp (p_part_from F)) (xCons (xVar 0) (xCons (xVar 5) xNil))))) (.nm 2)) (xsSeq (xsIf (xFC cAny (xComp F (xSeq (xVar 2)) (.nm 5) [5] none (xIsN false (xVar 5)))) (xsRet (xLit .non)) xsNil) (xsSeq (xsAsg (xBin gMul (xLst (xCons (xTup xNil) xNil)) (xBin gAdd (xFC cMax (xComp F (xSeq (xVar 2)) (.tp (.cons (.nm 4) (.cons (.nm 5) .nil))) [4, 5] none (xVar 4))) (xLit (.int 1)))) (.nm 3)) (xsSeq (xsFor F (xSeq (xVar 2)) (.tp (.cons (.nm 4) (.cons (.nm 5) .nil))) (xsSet (xVar 3) (xVar 4) (xVar 5))) (xsSeq (xsAsg (xFN gTuple (xCons (xVar 3) xNil)) (.nm 6)) (xsRet (xIte (xAnd (xCall (lp (p_is_equation_of F)) (xCons (xVar 0) (xCons (xVar 6) xNil))) (xBin gEq (xCall (lp (p_equation_text F)) (xCons (xVar 0) (xCons (xVar 6) xNil))) (xVar 1))) (xVar 6) (xLit .non))))))))
noncomputable def p_equation_from (F : Nat) : XP := fnP 2 7 (b_equation_from F)
theorem ok_equation_from (A : Fx P w K mg base) (hF : F ≤ 16777216) : Fn P w K mg base [] "equation_from" s_equation_from ["k", "text"] 5 (lsp (lp (p_equation_from F))) := by
  obtain ⟨f, fd, hm, D⟩ := A.d_equation_from
  exact Fn.pure (fnX_ok hm D sc_equation_from (by decide) (fun _ _ _ _ _ _ us hl => match us, hl with | [_, _], _ => rfl) fun cdv A' outer s H E hr => (yss_cons (ys_setLc (own := [("own", 5)]) (j := 2) hF rfl sc_equation_from.nd rfl rfl (yi_seq (y_mt .split rfl (yr 1) (ya_cons y_str ya_nil))) (blkOk_by rfl) (by decide) (fun s H C cl fp => (tg 5 sc_equation_from.nd)) .none (fun s H C cl fp => (y_call (ok_part_from A hF) (by decide) hr takes0 rfl (ya_cons (yr 0) (ya_cons (yr 5) ya_nil))))) (yss_cons (ys_if (yt_val (y_bic rfl .any cAny rfl rfl rfl A.g_any (y_lc (own := [("own", 5)]) hF rfl sc_equation_from.nd (yi_seq (yr 2)) (blkOk_by rfl) (by decide) (fun s H C cl fp => (tg 5 sc_equation_from.nd)) .none (fun s H C cl fp => (y_isN (yr 5)))))) (yss_one (ys_ret y_non)) yss_nil) (yss_cons (ys_set (j := 3) sc_equation_from.nd rfl (by first | exact Or.inl rfl | exact Or.inr rfl) (y_bin .mul (y_lst (ya_cons (y_tup ya_nil) ya_nil)) (y_bin .add (y_bic rfl .max cMax rfl rfl rfl A.g_max (y_lc (own := [("at", 4), ("own", 5)]) hF rfl sc_equation_from.nd (yi_seq (yr 2)) (blkOk_by rfl) (by decide) (fun s H C cl fp => (g_tp rfl (gs_cons (tg 4 sc_equation_from.nd) (gs_cons (tg 5 sc_equation_from.nd) gs_nil)))) .none (fun s H C cl fp => (yr 4)))) y_int))) (yss_cons (ys_for hF bcx_owns rfl (yi_seq (yr 2)) (g_tp rfl (gs_cons (tg 4 sc_equation_from.nd) (gs_cons (tg 5 sc_equation_from.nd) gs_nil))) (yss_one (ys_setix (yr 3) (yr 4) (yr 5)))) (yss_cons (ys_set (j := 6) sc_equation_from.nd rfl (by first | exact Or.inl rfl | exact Or.inr rfl) (y_bi rfl .tuple rfl rfl A.g_tuple (ya_cons (yr 3) ya_nil))) (yss_one (ys_ret (y_ite (yw_t (yw_and (yt_val (y_call (ok_is_equation_of A hF) (by decide) hr bcx_takes rfl (ya_cons (yr 0) (ya_cons (yr 6) ya_nil)))) (yw_one (yt_cmp (room64 hr) .eq (y_call (ok_equation_text A hF) (by decide) hr bcx_takes rfl (ya_cons (yr 0) (ya_cons (yr 6) ya_nil))) (yr 1))))) (yr 6) y_non)))))))))
abbrev s_fractions_from : Stmt := top 67
theorem sc_fractions_from : FnScope ["text", "own"] ["text"] (defScope s_fractions_from) := ⟨rfl, rfl, rfl, by decide +kernel, rfl, by decide +kernel, by decide +kernel⟩
noncomputable def b_fractions_from (F : Nat) : XS := (xsRet (xIte (xBin gNe (xVar 0) (xLit (.str "-"))) (xFC cTuple (xComp F (xSeq (xMt .split (xVar 0) (xCons (xLit (.str " ")) xNil))) (.nm 1) [1] none (xCall (lp (p_fraction_from F)) (xCons (xVar 1) xNil)))) (xTup xNil)))
noncomputable def p_fractions_from (F : Nat) : XP := fnP 1 2 (b_fractions_from F)
theorem ok_fractions_from (A : Fx P w K mg base) (hF : F ≤ 16777216) : Fn P w K mg base [] "fractions_from" s_fractions_from ["text"] 4 (lsp (lp (p_fractions_from F))) := by
  obtain ⟨f, fd, hm, D⟩ := A.d_fractions_from
  exact Fn.pure (fnX_ok hm D sc_fractions_from (by decide) (fun _ _ _ _ _ _ us hl => match us, hl with | [_], _ => rfl) fun cdv A' outer s H E hr => (yss_one (ys_ret (y_ite (yt_cmp (room64 hr) .ne (yr 0) y_str) (y_bic rfl .tuple cTuple rfl rfl rfl A.g_tuple (y_lc (own := [("own", 1)]) hF rfl sc_fractions_from.nd (yi_seq (y_mt .split rfl (yr 0) (ya_cons y_str ya_nil))) (blkOk_by rfl) (by decide) (fun s H C cl fp => (tg 1 sc_fractions_from.nd)) .none (fun s H C cl fp => (y_call (ok_fraction_from A hF) (by decide) hr takes0 rfl (ya_cons (yr 1) ya_nil))))) (y_tup ya_nil)))))
abbrev s_table_from : Stmt := top 68
theorem sc_table_from : FnScope ["text", "own"] ["text"] (defScope s_table_from) := ⟨rfl, rfl, rfl, by decide +kernel, rfl, by decide +kernel, by decide +kernel⟩
noncomputable def b_table_from (F : Nat) : XS := (xsRet (xIte (xBin gNe (xVar 0) (xLit (.str "-"))) (xFC cTuple (xComp F (xSeq (xMt .split (xVar 0) (xCons (xLit (.str ", ")) xNil))) (.nm 1) [1] none (xCall (lp (p_fractions_from F)) (xCons (xVar 1) xNil)))) (xTup xNil)))
noncomputable def p_table_from (F : Nat) : XP := fnP 1 2 (b_table_from F)
theorem ok_table_from (A : Fx P w K mg base) (hF : F ≤ 16777216) : Fn P w K mg base [] "table_from" s_table_from ["text"] 5 (lsp (lp (p_table_from F))) := by
  obtain ⟨f, fd, hm, D⟩ := A.d_table_from
  exact Fn.pure (fnX_ok hm D sc_table_from (by decide) (fun _ _ _ _ _ _ us hl => match us, hl with | [_], _ => rfl) fun cdv A' outer s H E hr => (yss_one (ys_ret (y_ite (yt_cmp (room64 hr) .ne (yr 0) y_str) (y_bic rfl .tuple cTuple rfl rfl rfl A.g_tuple (y_lc (own := [("own", 1)]) hF rfl sc_table_from.nd (yi_seq (y_mt .split rfl (yr 0) (ya_cons y_str ya_nil))) (blkOk_by rfl) (by decide) (fun s H C cl fp => (tg 1 sc_table_from.nd)) .none (fun s H C cl fp => (y_call (ok_fractions_from A hF) (by decide) hr takes0 rfl (ya_cons (yr 1) ya_nil))))) (y_tup ya_nil)))))
abbrev s_regular_from : Stmt := top 69
theorem sc_regular_from : FnScope ["text", "head", "sign", "rest", "parts", "tables", "value", "own"] ["text"] (defScope s_regular_from) := ⟨rfl, rfl, rfl, by decide +kernel, rfl, by decide +kernel, by decide +kernel⟩
noncomputable def b_regular_from (F : Nat) : XS := (xsSeq (xsAsg (xMt .part (xVar 0) (xCons (xLit (.str ": ")) xNil)) (.tp (.cons (.nm 1) (.cons (.nm 2) (.cons (.nm 3) .nil))))) (xsSeq (xsAsg (xMt .split (xVar 3) (xCons (xLit (.str " | ")) xNil)) (.nm 4)) (xsSeq (xsIf (xBin gNe (xFN gLen (xCons (xVar 4) xNil)) (xLit (.int 3))) (xsRet (xLit .non)) xsNil) (xsSeq (xsAsg (xFC cTuple (xComp F (xSeq (xMt .split (xBin gIx (xVar 4) (xLit (.int 1))) (xCons (xLit (.str "; ")) xNil))) (.nm 7) [7] none (xCall (lp (p_table_from F)) (xCons (xVar 7) xNil)))) (.nm 5)) (xsSeq (xsAsg (xTup (xCons (xCall (lp (p_natural_of F)) (xCons (xVar 1) xNil)) (xCons (xCall (lp (p_fractions_from F)) (xCons (xBin gIx (xVar 4) (xLit (.int 0))) xNil)) (xCons (xVar 5) (xCons (xCall (lp (p_fractions_from F)) (xCons (xBin gIx (xVar 4) (xLit (.int 2))) xNil)) xNil))))) (.nm 6)) (xsRet (xIte (xAnd (xCall (lp (p_is_regular_value F)) (xCons (xVar 6) xNil)) (xBin gEq (xCall (lp (p_regular_text F)) (xCons (xVar 6) xNil)) (xVar 0))) (xVar 6) (xLit .non))))))))
noncomputable def p_regular_from (F : Nat) : XP := fnP 1 8 (b_regular_from F)
theorem ok_regular_from (A : Fx P w K mg base) (hF : F ≤ 16777216) : Fn P w K mg base [] "regular_from" s_regular_from ["text"] 7 (lsp (lp (p_regular_from F))) := by
  obtain ⟨f, fd, hm, D⟩ := A.d_regular_from
  exact Fn.pure (fnX_ok hm D sc_regular_from (by decide) (fun _ _ _ _ _ _ us hl => match us, hl with | [_], _ => rfl) fun cdv A' outer s H E hr => (yss_cons (ys_asg (y_mt .part rfl (yr 0) (ya_cons y_str ya_nil)) (g_tp rfl (gs_cons (tg 1 sc_regular_from.nd) (gs_cons (tg 2 sc_regular_from.nd) (gs_cons (tg 3 sc_regular_from.nd) gs_nil))))) (yss_cons (ys_set (j := 4) sc_regular_from.nd rfl (by first | exact Or.inl rfl | exact Or.inr rfl) (y_mt .split rfl (yr 3) (ya_cons y_str ya_nil))) (yss_cons (ys_if (yt_cmp (room64 hr) .ne (y_bi rfl .len rfl rfl A.g_len (ya_cons (yr 4) ya_nil)) y_int) (yss_one (ys_ret y_non)) yss_nil) (yss_cons (ys_set (j := 5) sc_regular_from.nd rfl (by first | exact Or.inl rfl | exact Or.inr rfl) (y_bic rfl .tuple cTuple rfl rfl rfl A.g_tuple (y_lc (own := [("own", 7)]) hF rfl sc_regular_from.nd (yi_seq (y_mt .split rfl (y_ix (yr 4) y_int) (ya_cons y_str ya_nil))) (blkOk_by rfl) (by decide) (fun s H C cl fp => (tg 7 sc_regular_from.nd)) .none (fun s H C cl fp => (y_call (ok_table_from A hF) (by decide) hr takes0 rfl (ya_cons (yr 7) ya_nil)))))) (yss_cons (ys_set (j := 6) sc_regular_from.nd rfl (by first | exact Or.inl rfl | exact Or.inr rfl) (y_tup (ya_cons (y_call (ok_natural_of A hF) (by decide) hr bcx_takes rfl (ya_cons (yr 1) ya_nil)) (ya_cons (y_call (ok_fractions_from A hF) (by decide) hr bcx_takes rfl (ya_cons (y_ix (yr 4) y_int) ya_nil)) (ya_cons (yr 5) (ya_cons (y_call (ok_fractions_from A hF) (by decide) hr bcx_takes rfl (ya_cons (y_ix (yr 4) y_int) ya_nil)) ya_nil)))))) (yss_one (ys_ret (y_ite (yw_t (yw_and (yt_val (y_call (ok_is_regular_value A hF) (by decide) hr bcx_takes rfl (ya_cons (yr 6) ya_nil))) (yw_one (yt_cmp (room64 hr) .eq (y_call (ok_regular_text A hF) (by decide) hr bcx_takes rfl (ya_cons (yr 6) ya_nil)) (yr 0))))) (yr 6) y_non)))))))))
abbrev s_given : Stmt := top 70
theorem sc_given : FnScope ["text", "value"] ["text", "value"] (defScope s_given) := ⟨rfl, rfl, rfl, by decide +kernel, rfl, by decide +kernel, by decide +kernel⟩
noncomputable def b_given (F : Nat) : XS := (xsSeq (xsIf (xIsN false (xVar 1)) (xsRaise "Unreadable" (xVar 0)) xsNil) (xsRet (xVar 1)))
noncomputable def x_given (F : Nat) : XSp := fnA 2 2 (b_given F)
theorem ok_given (A : Fx P w K mg base) (hF : F ≤ 16777216) : Fn P w K mg base [] "given" s_given ["text", "value"] 3 (lsp (x_given F)) := by
  obtain ⟨f, fd, hm, D⟩ := A.d_given
  exact Fn.auto (fnX_ok hm D sc_given (by decide) (fun _ _ _ _ _ _ us hl => match us, hl with | [_, _], _ => rfl) fun cdv A' outer s H E hr => (yss_cons (ys_if (yt_isN (yr 1)) (yss_one (ys_raise A.x_Unreadable rfl bcx_takes hr (by decide) rfl (yr 0))) yss_nil) (yss_one (ys_ret (yr 1)))))
abbrev s_read_fraction : Stmt := top 71
theorem sc_read_fraction : FnScope ["text"] ["text"] (defScope s_read_fraction) := ⟨rfl, rfl, rfl, by decide +kernel, rfl, by decide +kernel, by decide +kernel⟩
noncomputable def b_read_fraction (F : Nat) : XS := (xsRet (xCall (x_given F) (xCons (xVar 0) (xCons (xIte (xIsi (xVar 0) [.str]) (xCall (lp (p_fraction_from F)) (xCons (xVar 0) xNil)) (xLit .non)) xNil))))
noncomputable def x_read_fraction (F : Nat) : XSp := fnA 1 1 (b_read_fraction F)
theorem ok_read_fraction (A : Fx P w K mg base) (hF : F ≤ 16777216) : Fn P w K mg base [] "read_fraction" s_read_fraction ["text"] 4 (lsp (x_read_fraction F)) := by
  obtain ⟨f, fd, hm, D⟩ := A.d_read_fraction
  exact Fn.auto (fnX_ok hm D sc_read_fraction (by decide) (fun _ _ _ _ _ _ us hl => match us, hl with | [_], _ => rfl) fun cdv A' outer s H E hr => (yss_one (ys_ret (y_call (ok_given A hF) (by decide) hr bcx_takes rfl (ya_cons (yr 0) (ya_cons (y_ite (yt_val (y_isi rfl A.g_isinstance (yr 0) (ty_name .str rfl (by decide +kernel) rfl A.g_str))) (y_call (ok_fraction_from A hF) (by decide) hr bcx_takes rfl (ya_cons (yr 0) ya_nil)) y_non) ya_nil))))))
abbrev s_read_word : Stmt := top 72
theorem sc_read_word : FnScope ["text"] ["text"] (defScope s_read_word) := ⟨rfl, rfl, rfl, by decide +kernel, rfl, by decide +kernel, by decide +kernel⟩
noncomputable def b_read_word (F : Nat) : XS := (xsRet (xCall (x_given F) (xCons (xVar 0) (xCons (xIte (xIsi (xVar 0) [.str]) (xCall (lp (p_word_from F)) (xCons (xVar 0) xNil)) (xLit .non)) xNil))))
noncomputable def x_read_word (F : Nat) : XSp := fnA 1 1 (b_read_word F)
theorem ok_read_word (A : Fx P w K mg base) (hF : F ≤ 16777216) : Fn P w K mg base [] "read_word" s_read_word ["text"] 6 (lsp (x_read_word F)) := by
  obtain ⟨f, fd, hm, D⟩ := A.d_read_word
  exact Fn.auto (fnX_ok hm D sc_read_word (by decide) (fun _ _ _ _ _ _ us hl => match us, hl with | [_], _ => rfl) fun cdv A' outer s H E hr => (yss_one (ys_ret (y_call (ok_given A hF) (by decide) hr bcx_takes rfl (ya_cons (yr 0) (ya_cons (y_ite (yt_val (y_isi rfl A.g_isinstance (yr 0) (ty_name .str rfl (by decide +kernel) rfl A.g_str))) (y_call (ok_word_from A hF) (by decide) hr bcx_takes rfl (ya_cons (yr 0) ya_nil)) y_non) ya_nil))))))
abbrev s_read_row : Stmt := top 73
theorem sc_read_row : FnScope ["text"] ["text"] (defScope s_read_row) := ⟨rfl, rfl, rfl, by decide +kernel, rfl, by decide +kernel, by decide +kernel⟩
noncomputable def b_read_row (F : Nat) : XS := (xsRet (xCall (x_given F) (xCons (xVar 0) (xCons (xIte (xIsi (xVar 0) [.str]) (xCall (lp (p_row_from_text F)) (xCons (xVar 0) xNil)) (xLit .non)) xNil))))
noncomputable def x_read_row (F : Nat) : XSp := fnA 1 1 (b_read_row F)
theorem ok_read_row (A : Fx P w K mg base) (hF : F ≤ 16777216) : Fn P w K mg base [] "read_row" s_read_row ["text"] 7 (lsp (x_read_row F)) := by
  obtain ⟨f, fd, hm, D⟩ := A.d_read_row
  exact Fn.auto (fnX_ok hm D sc_read_row (by decide) (fun _ _ _ _ _ _ us hl => match us, hl with | [_], _ => rfl) fun cdv A' outer s H E hr => (yss_one (ys_ret (y_call (ok_given A hF) (by decide) hr bcx_takes rfl (ya_cons (yr 0) (ya_cons (y_ite (yt_val (y_isi rfl A.g_isinstance (yr 0) (ty_name .str rfl (by decide +kernel) rfl A.g_str))) (y_call (ok_row_from_text A hF) (by decide) hr bcx_takes rfl (ya_cons (yr 0) ya_nil)) y_non) ya_nil))))))
abbrev s_read_morphism : Stmt := top 74
theorem sc_read_morphism : FnScope ["text"] ["text"] (defScope s_read_morphism) := ⟨rfl, rfl, rfl, by decide +kernel, rfl, by decide +kernel, by decide +kernel⟩
noncomputable def b_read_morphism (F : Nat) : XS := (xsRet (xCall (x_given F) (xCons (xVar 0) (xCons (xIte (xIsi (xVar 0) [.str]) (xCall (lp (p_morphism_from F)) (xCons (xVar 0) xNil)) (xLit .non)) xNil))))
noncomputable def x_read_morphism (F : Nat) : XSp := fnA 1 1 (b_read_morphism F)
theorem ok_read_morphism (A : Fx P w K mg base) (hF : F ≤ 16777216) : Fn P w K mg base [] "read_morphism" s_read_morphism ["text"] 7 (lsp (x_read_morphism F)) := by
  obtain ⟨f, fd, hm, D⟩ := A.d_read_morphism
  exact Fn.auto (fnX_ok hm D sc_read_morphism (by decide) (fun _ _ _ _ _ _ us hl => match us, hl with | [_], _ => rfl) fun cdv A' outer s H E hr => (yss_one (ys_ret (y_call (ok_given A hF) (by decide) hr bcx_takes rfl (ya_cons (yr 0) (ya_cons (y_ite (yt_val (y_isi rfl A.g_isinstance (yr 0) (ty_name .str rfl (by decide +kernel) rfl A.g_str))) (y_call (ok_morphism_from A hF) (by decide) hr bcx_takes rfl (ya_cons (yr 0) ya_nil)) y_non) ya_nil))))))
abbrev s_read_polynomial : Stmt := top 75
theorem sc_read_polynomial : FnScope ["k", "text"] ["k", "text"] (defScope s_read_polynomial) := ⟨rfl, rfl, rfl, by decide +kernel, rfl, by decide +kernel, by decide +kernel⟩
noncomputable def b_read_polynomial (F : Nat) : XS := (xsSeq (xsExp (xCall (lp (p_check_prime F)) (xCons (xVar 0) xNil))) (xsRet (xCall (x_given F) (xCons (xVar 1) (xCons (xIte (xIsi (xVar 1) [.str]) (xCall (lp (p_polynomial_from F)) (xCons (xVar 0) (xCons (xVar 1) xNil))) (xLit .non)) xNil)))))
noncomputable def x_read_polynomial (F : Nat) : XSp := fnA 2 2 (b_read_polynomial F)
theorem ok_read_polynomial (A : Fx P w K mg base) (hF : F ≤ 16777216) : Fn P w K mg base [] "read_polynomial" s_read_polynomial ["k", "text"] 4 (lsp (x_read_polynomial F)) := by
  obtain ⟨f, fd, hm, D⟩ := A.d_read_polynomial
  exact Fn.auto (fnX_ok hm D sc_read_polynomial (by decide) (fun _ _ _ _ _ _ us hl => match us, hl with | [_, _], _ => rfl) fun cdv A' outer s H E hr => (yss_cons (ys_exp (y_call (ok_check_prime A hF) (by decide) hr bcx_takes rfl (ya_cons (yr 0) ya_nil))) (yss_one (ys_ret (y_call (ok_given A hF) (by decide) hr bcx_takes rfl (ya_cons (yr 1) (ya_cons (y_ite (yt_val (y_isi rfl A.g_isinstance (yr 1) (ty_name .str rfl (by decide +kernel) rfl A.g_str))) (y_call (ok_polynomial_from A hF) (by decide) hr bcx_takes rfl (ya_cons (yr 0) (ya_cons (yr 1) ya_nil))) y_non) ya_nil)))))))
abbrev s_read_equation : Stmt := top 76
theorem sc_read_equation : FnScope ["k", "text"] ["k", "text"] (defScope s_read_equation) := ⟨rfl, rfl, rfl, by decide +kernel, rfl, by decide +kernel, by decide +kernel⟩
noncomputable def b_read_equation (F : Nat) : XS := (xsSeq (xsExp (xCall (lp (p_check_prime F)) (xCons (xVar 0) xNil))) (xsRet (xCall (x_given F) (xCons (xVar 1) (xCons (xIte (xIsi (xVar 1) [.str]) (xCall (lp (p_equation_from F)) (xCons (xVar 0) (xCons (xVar 1) xNil))) (xLit .non)) xNil)))))
noncomputable def x_read_equation (F : Nat) : XSp := fnA 2 2 (b_read_equation F)
theorem ok_read_equation (A : Fx P w K mg base) (hF : F ≤ 16777216) : Fn P w K mg base [] "read_equation" s_read_equation ["k", "text"] 6 (lsp (x_read_equation F)) := by
  obtain ⟨f, fd, hm, D⟩ := A.d_read_equation
  exact Fn.auto (fnX_ok hm D sc_read_equation (by decide) (fun _ _ _ _ _ _ us hl => match us, hl with | [_, _], _ => rfl) fun cdv A' outer s H E hr => (yss_cons (ys_exp (y_call (ok_check_prime A hF) (by decide) hr bcx_takes rfl (ya_cons (yr 0) ya_nil))) (yss_one (ys_ret (y_call (ok_given A hF) (by decide) hr bcx_takes rfl (ya_cons (yr 1) (ya_cons (y_ite (yt_val (y_isi rfl A.g_isinstance (yr 1) (ty_name .str rfl (by decide +kernel) rfl A.g_str))) (y_call (ok_equation_from A hF) (by decide) hr bcx_takes rfl (ya_cons (yr 0) (ya_cons (yr 1) ya_nil))) y_non) ya_nil)))))))
abbrev s_read_regular : Stmt := top 77
theorem sc_read_regular : FnScope ["text"] ["text"] (defScope s_read_regular) := ⟨rfl, rfl, rfl, by decide +kernel, rfl, by decide +kernel, by decide +kernel⟩
noncomputable def b_read_regular (F : Nat) : XS := (xsRet (xCall (x_given F) (xCons (xVar 0) (xCons (xIte (xIsi (xVar 0) [.str]) (xCall (lp (p_regular_from F)) (xCons (xVar 0) xNil)) (xLit .non)) xNil))))
noncomputable def x_read_regular (F : Nat) : XSp := fnA 1 1 (b_read_regular F)
theorem ok_read_regular (A : Fx P w K mg base) (hF : F ≤ 16777216) : Fn P w K mg base [] "read_regular" s_read_regular ["text"] 8 (lsp (x_read_regular F)) := by
  obtain ⟨f, fd, hm, D⟩ := A.d_read_regular
  exact Fn.auto (fnX_ok hm D sc_read_regular (by decide) (fun _ _ _ _ _ _ us hl => match us, hl with | [_], _ => rfl) fun cdv A' outer s H E hr => (yss_one (ys_ret (y_call (ok_given A hF) (by decide) hr bcx_takes rfl (ya_cons (yr 0) (ya_cons (y_ite (yt_val (y_isi rfl A.g_isinstance (yr 0) (ty_name .str rfl (by decide +kernel) rfl A.g_str))) (y_call (ok_regular_from A hF) (by decide) hr bcx_takes rfl (ya_cons (yr 0) ya_nil)) y_non) ya_nil))))))
abbrev s__law_pot : Stmt := top 79
theorem sc__law_pot : FnScope ["script"] ["script"] (defScope s__law_pot) := ⟨rfl, rfl, rfl, by decide +kernel, rfl, by decide +kernel, by decide +kernel⟩
noncomputable def b__law_pot (F : Nat) : XS := (xsRet (xBin gAdd (xLst (xCons (xLit (.int 0)) (xCons (xLit (.int 12582917)) (xCons (xLit (.int 0)) (xCons (xLit (.int 4)) xNil))))) (xFN gList (xCons (xVar 0) xNil))))
noncomputable def x__law_pot (F : Nat) : XSp := fnX 1 1 (b__law_pot F)
theorem ok__law_pot (A : Fx P w K mg base) (hF : F ≤ 16777216) : Fn P w K mg base [] "_law_pot" s__law_pot ["script"] 1 (lsp (x__law_pot F)) := by
  obtain ⟨f, fd, hm, D⟩ := A.d__law_pot
  exact (fnX_ok hm D sc__law_pot (by decide) (fun _ _ _ _ _ _ us hl => match us, hl with | [_], _ => rfl) fun cdv A' outer s H E hr => (yss_one (ys_ret (y_bin .add (y_lst (ya_cons y_int (ya_cons y_int (ya_cons y_int (ya_cons y_int ya_nil))))) (y_bi rfl .list rfl rfl A.g_list (ya_cons (yr 0) ya_nil))))))
abbrev s__law_take : Stmt := top 80
theorem sc__law_take : FnScope ["pot", "many", "cell", "drawn", "mixed"] ["pot", "many"] (defScope s__law_take) := ⟨rfl, rfl, rfl, by decide +kernel, rfl, by decide +kernel, by decide +kernel⟩
noncomputable def b__law_take (F : Nat) : XS := (xsSeq (xsIf (xAnd (xBin gEq (xBin gIx (xVar 0) (xLit (.int 0))) (xLit (.int 0))) (xBin gLt (xBin gIx (xVar 0) (xLit (.int 3))) (xFN gLen (xCons (xVar 0) xNil)))) (xsSeq (xsAsg (xBin gIx (xVar 0) (xBin gIx (xVar 0) (xLit (.int 3)))) (.nm 2)) (xsSeq (xsAugS (xVar 0) (xLit (.int 3)) .add (xLit (.int 1))) (xsIf (xBin gGe (xVar 2) (xBin gPow (xLit (.int 10)) (xLit (.int 18)))) (xsSet (xVar 0) (xLit (.int 0)) (xBin gSub (xVar 2) (xBin gPow (xLit (.int 10)) (xLit (.int 18))))) (xsSet (xVar 0) (xLit (.int 1)) (xBin gMod (xFN gInt (xCons (xBin gAdd (xBin gMul (xBin gAdd (xBin gIx (xVar 0) (xLit (.int 1))) (xBin gMul (xLit (.int 7)) (xVar 2))) (xLit (.int 3145739))) (xBin gMul (xLit (.int 769)) (xBin gIx (xVar 0) (xLit (.int 3))))) xNil)) (xLit (.int 2305843009213693907))))))) xsNil) (xsSeq (xsIf (xBin gGt (xBin gIx (xVar 0) (xLit (.int 0))) (xLit (.int 0))) (xsSeq (xsAsg (xBin gMod (xFN gInt (xCons (xBin gIx (xVar 0) (xLit (.int 0))) xNil)) (xVar 1)) (.nm 3)) (xsSeq (xsSet (xVar 0) (xLit (.int 0)) (xBin gDiv (xBin gIx (xVar 0) (xLit (.int 0))) (xVar 1))) (xsRet (xVar 3)))) xsNil) (xsSeq (xsAugS (xVar 0) (xLit (.int 2)) .add (xLit (.int 1))) (xsSeq (xsAsg (xBin gMod (xFN gInt (xCons (xBin gPow (xBin gAdd (xBin gIx (xVar 0) (xLit (.int 1))) (xBin gMul (xLit (.int 1572869)) (xBin gIx (xVar 0) (xLit (.int 2))))) (xLit (.int 3))) xNil)) (xLit (.int 2305843009213693907))) (.nm 4)) (xsSeq (xsAsg (xBin gMod (xFN gInt (xCons (xBin gPow (xBin gAdd (xVar 4) (xBin gMul (xLit (.int 389)) (xBin gIx (xVar 0) (xLit (.int 2))))) (xLit (.int 2))) xNil)) (xLit (.int 999999999999999877))) (.nm 4)) (xsRet (xBin gMod (xFN gInt (xCons (xBin gDiv (xVar 4) (xLit (.int 16))) xNil)) (xVar 1))))))))
noncomputable def x__law_take (F : Nat) : XSp := fnX 2 5 (b__law_take F)
theorem ok__law_take (A : Fx P w K mg base) (hF : F ≤ 16777216) : Fn P w K mg base [] "_law_take" s__law_take ["pot", "many"] 1 (lsp (x__law_take F)) := by
  obtain ⟨f, fd, hm, D⟩ := A.d__law_take
  exact (fnX_ok hm D sc__law_take (by decide) (fun _ _ _ _ _ _ us hl => match us, hl with | [_, _], _ => rfl) fun cdv A' outer s H E hr => (yss_cons (ys_if (yw_t (yw_and (yt_cmp (room64 hr) .eq (y_ix (yr 0) y_int) y_int) (yw_one (yt_cmp (room64 hr) .lt (y_ix (yr 0) y_int) (y_bi rfl .len rfl rfl A.g_len (ya_cons (yr 0) ya_nil)))))) (yss_cons (ys_set (j := 2) sc__law_take.nd rfl (by first | exact Or.inl rfl | exact Or.inr rfl) (y_ix (yr 0) (y_ix (yr 0) y_int))) (yss_cons (ys_augS .add (yr 0) y_int y_int) (yss_one (ys_if (yt_cmp (room64 hr) .ge (yr 2) (y_bin .pow y_int y_int)) (yss_one (ys_setix (yr 0) y_int (y_bin .sub (yr 2) (y_bin .pow y_int y_int)))) (yss_one (ys_setix (yr 0) y_int (y_bin .mod (y_bi rfl .int rfl rfl A.g_int (ya_cons (y_bin .add (y_bin .mul (y_bin .add (y_ix (yr 0) y_int) (y_bin .mul y_int (yr 2))) y_int) (y_bin .mul y_int (y_ix (yr 0) y_int))) ya_nil)) y_int))))))) yss_nil) (yss_cons (ys_if (yt_cmp (room64 hr) .gt (y_ix (yr 0) y_int) y_int) (yss_cons (ys_set (j := 3) sc__law_take.nd rfl (by first | exact Or.inl rfl | exact Or.inr rfl) (y_bin .mod (y_bi rfl .int rfl rfl A.g_int (ya_cons (y_ix (yr 0) y_int) ya_nil)) (yr 1))) (yss_cons (ys_setix (yr 0) y_int (y_bin .div (y_ix (yr 0) y_int) (yr 1))) (yss_one (ys_ret (yr 3))))) yss_nil) (yss_cons (ys_augS .add (yr 0) y_int y_int) (yss_cons (ys_set (j := 4) sc__law_take.nd rfl (by first | exact Or.inl rfl | exact Or.inr rfl) (y_bin .mod (y_bi rfl .int rfl rfl A.g_int (ya_cons (y_bin .pow (y_bin .add (y_ix (yr 0) y_int) (y_bin .mul y_int (y_ix (yr 0) y_int))) y_int) ya_nil)) y_int)) (yss_cons (ys_set (j := 4) sc__law_take.nd rfl (by first | exact Or.inl rfl | exact Or.inr rfl) (y_bin .mod (y_bi rfl .int rfl rfl A.g_int (ya_cons (y_bin .pow (y_bin .add (yr 4) (y_bin .mul y_int (y_ix (yr 0) y_int))) y_int) ya_nil)) y_int)) (yss_one (ys_ret (y_bin .mod (y_bi rfl .int rfl rfl A.g_int (ya_cons (y_bin .div (yr 4) y_int) ya_nil)) (yr 1))))))))))
abbrev s__law_same : Stmt := top 81
theorem sc__law_same : FnScope ["got", "due", "at"] ["got", "due"] (defScope s__law_same) := ⟨rfl, rfl, rfl, by decide +kernel, rfl, by decide +kernel, by decide +kernel⟩
noncomputable def b__law_same (F : Nat) (sp : XSp) : XS := (xsSeq (xsIf (xIsN false (xVar 1)) (xsRet (xIsN false (xVar 0))) xsNil) (xsSeq (xsIf (xIsi (xVar 1) [.bl, .str]) (xsRet (xAnd (xBin gEq (xIsi (xVar 0) [.bl]) (xIsi (xVar 1) [.bl])) (xAnd (xIsi (xVar 0) [.bl, .str]) (xBin gEq (xVar 0) (xVar 1))))) xsNil) (xsSeq (xsIf (xIsi (xVar 1) [.int]) (xsRet (xAnd (xIsi (xVar 0) [.int]) (xAnd (xNot (xIsi (xVar 0) [.bl])) (xBin gEq (xVar 0) (xVar 1))))) xsNil) (xsSeq (xsIf (xOr (xBin gNe (xIsi (xVar 1) [.lst]) (xIsi (xVar 0) [.lst])) (xBin gNe (xIsi (xVar 1) [.tup]) (xIsi (xVar 0) [.tup]))) (xsRet (xLit (.bl false))) xsNil) (xsRet (xAnd (xBin gEq (xFN gLen (xCons (xVar 0) xNil)) (xFN gLen (xCons (xVar 1) xNil))) (xFC cAll (xComp F (xIt gRange1 (xCons (xFN gLen (xCons (xVar 1) xNil)) xNil)) (.nm 2) [2] none (xCall sp (xCons (xBin gIx (xVar 0) (xVar 2)) (xCons (xBin gIx (xVar 1) (xVar 2)) xNil)))))))))))
noncomputable def x__law_same (F : Nat) : Nat → XSp
  | 0 => xpNo
  | n + 1 => fnX 2 3 (b__law_same F (x__law_same F n))
theorem st__law_same (A : Fx P w K mg base) (hF : F ≤ 16777216) {j : Nat} {sp : XSp} (hj : 0 ≤ j) (ih : Fn P w K mg base [] "_law_same" s__law_same ["got", "due"] j (lsp sp)) : Fn P w K mg base [] "_law_same" s__law_same ["got", "due"] (j + 1) (lsp (fnX 2 3 (b__law_same F sp))) := by
  obtain ⟨f, fd, hm, D⟩ := A.d__law_same
  exact (fnX_ok hm D sc__law_same (by decide) (fun _ _ _ _ _ _ us hl => match us, hl with | [_, _], _ => rfl) fun cdv A' outer s H E hr => (yss_cons (ys_if (yt_isN (yr 1)) (yss_one (ys_ret (y_isN (yr 0)))) yss_nil) (yss_cons (ys_if (yt_val (y_isiT rfl A.g_isinstance (yr 1) (ty_cons (ty_name .bl rfl (by decide +kernel) rfl A.g_bool) (ty_cons (ty_name .str rfl (by decide +kernel) rfl A.g_str) ty_nil)) (Nat.le_of_ble_eq_true rfl))) (yss_one (ys_ret (y_and (y_cmp (room64 hr) .eq (y_isi rfl A.g_isinstance (yr 0) (ty_name .bl rfl (by decide +kernel) rfl A.g_bool)) (y_isi rfl A.g_isinstance (yr 1) (ty_name .bl rfl (by decide +kernel) rfl A.g_bool))) (y_and (y_isiT rfl A.g_isinstance (yr 0) (ty_cons (ty_name .bl rfl (by decide +kernel) rfl A.g_bool) (ty_cons (ty_name .str rfl (by decide +kernel) rfl A.g_str) ty_nil)) (Nat.le_of_ble_eq_true rfl)) (y_one (y_cmp (room64 hr) .eq (yr 0) (yr 1))))))) yss_nil) (yss_cons (ys_if (yt_val (y_isi rfl A.g_isinstance (yr 1) (ty_name .int rfl (by decide +kernel) rfl A.g_int))) (yss_one (ys_ret (y_and (y_isi rfl A.g_isinstance (yr 0) (ty_name .int rfl (by decide +kernel) rfl A.g_int)) (y_and (y_not (y_isi rfl A.g_isinstance (yr 0) (ty_name .bl rfl (by decide +kernel) rfl A.g_bool))) (y_one (y_cmp (room64 hr) .eq (yr 0) (yr 1))))))) yss_nil) (yss_cons (ys_if (yw_t (yw_or (yt_cmp (room64 hr) .ne (y_isi rfl A.g_isinstance (yr 1) (ty_name .lst rfl (by decide +kernel) rfl A.g_list)) (y_isi rfl A.g_isinstance (yr 0) (ty_name .lst rfl (by decide +kernel) rfl A.g_list))) (yw_one (yt_cmp (room64 hr) .ne (y_isi rfl A.g_isinstance (yr 1) (ty_name .tup rfl (by decide +kernel) rfl A.g_tuple)) (y_isi rfl A.g_isinstance (yr 0) (ty_name .tup rfl (by decide +kernel) rfl A.g_tuple)))))) (yss_one (ys_ret y_bl)) yss_nil) (yss_one (ys_ret (y_and (y_cmp (room64 hr) .eq (y_bi rfl .len rfl rfl A.g_len (ya_cons (yr 0) ya_nil)) (y_bi rfl .len rfl rfl A.g_len (ya_cons (yr 1) ya_nil))) (y_one (y_bic rfl .all cAll rfl rfl rfl A.g_all (y_lc (own := [("at", 2)]) hF rfl sc__law_same.nd (yi_range1 rfl A.g_range (ya_cons (y_bi rfl .len rfl rfl A.g_len (ya_cons (yr 1) ya_nil)) ya_nil)) (blkOk_by rfl) (by decide) (fun s H C cl fp => (tg 2 sc__law_same.nd)) .none (fun s H C cl fp => (y_call ih (Nat.le_refl _) hr takes0 rfl (ya_cons (y_ix (yr 0) (yr 2)) (ya_cons (y_ix (yr 1) (yr 2)) ya_nil)))))))))))))))
theorem ok__law_same (A : Fx P w K mg base) (hF : F ≤ 16777216) (n : Nat) : Fn P w K mg base [] "_law_same" s__law_same ["got", "due"] (0 + n) (lsp (x__law_same F n)) := by
  induction n with
  | zero =>
    obtain ⟨f, fd, hm, D⟩ := A.d__law_same
    exact (fn_noX (fun _ _ => rfl) hm D (fun _ _ _ _ _ _ us hl => match us, hl with | [_, _], _ => rfl)).up (Nat.zero_le _)
  | succ n ih => exact st__law_same A hF (by omega) ih
abbrev s__law_read : Stmt := top 82
theorem sc__law_read : FnScope ["way", "text", "caught", "found", "e"] ["way", "text"] (defScope s__law_read) := ⟨rfl, rfl, rfl, by decide +kernel, rfl, by decide +kernel, by decide +kernel⟩
noncomputable def b__law_read (F : Nat) : XS := (xsSeq (xsAsg (xTup (xCons (xLit .non) (xCons (xLit .non) xNil))) (.tp (.cons (.nm 2) (.cons (.nm 3) .nil)))) (xsSeq (xsTry (xsIf (xBin gLt (xVar 0) (xLit (.int 4))) (xsAsg (xIte (xBin gEq (xVar 0) (xLit (.int 0))) (xCall (x_read_fraction F) (xCons (xVar 1) xNil)) (xIte (xBin gEq (xVar 0) (xLit (.int 1))) (xCall (x_read_word F) (xCons (xVar 1) xNil)) (xIte (xBin gEq (xVar 0) (xLit (.int 2))) (xCall (x_read_row F) (xCons (xVar 1) xNil)) (xCall (x_read_morphism F) (xCons (xVar 1) xNil))))) (.nm 3)) (xsIf (xBin gLt (xVar 0) (xLit (.int 7))) (xsAsg (xIte (xBin gEq (xVar 0) (xLit (.int 4))) (xCall (x_read_polynomial F) (xCons (xLit (.int 3)) (xCons (xVar 1) xNil))) (xIte (xBin gEq (xVar 0) (xLit (.int 5))) (xCall (x_read_equation F) (xCons (xLit (.int 2)) (xCons (xVar 1) xNil))) (xCall (x_read_equation F) (xCons (xLit (.int 3)) (xCons (xVar 1) xNil))))) (.nm 3)) (xsAsg (xCall (x_read_regular F) (xCons (xVar 1) xNil)) (.nm 3)))) sub_DigitsError 4 (xsAsg (xVar 4) (.nm 2))) (xsRet (xIte (xIsN false (xVar 2)) (xLst (xCons (xLst (xCons (xVar 3) xNil)) xNil)) (xLst (xCons (xIsx isi_Unreadable (xVar 2)) (xCons (xXv xcs (xVar 2)) xNil)))))))
noncomputable def x__law_read (F : Nat) : XSp := fnA 2 5 (b__law_read F)
theorem ok__law_read (A : Fx P w K mg base) (hF : F ≤ 16777216) : Fn P w K mg base [] "_law_read" s__law_read ["way", "text"] 9 (lsp (x__law_read F)) := by
  obtain ⟨f, fd, hm, D⟩ := A.d__law_read
  exact Fn.auto (fnX_ok hm D sc__law_read (by decide) (fun _ _ _ _ _ _ us hl => match us, hl with | [_, _], _ => rfl) fun cdv A' outer s H E hr => (yss_cons (ys_asg (y_tup (ya_cons y_non (ya_cons y_non ya_nil))) (g_tp rfl (gs_cons (tg 2 sc__law_read.nd) (gs_cons (tg 3 sc__law_read.nd) gs_nil)))) (yss_cons (ys_try (i := 4) rfl rfl rfl sc__law_read.nd rfl rfl ⟨rfl, by decide, .inl A.k_DigitsError.1⟩ bcx_takes A.k_DigitsError.2 (fun W pn xe tk hp => (yss_one (ys_if (yt_cmp (room64 hr) .lt (yr 0) y_int) (yss_one (ys_set (j := 3) sc__law_read.nd rfl (by first | exact Or.inl rfl | exact Or.inr rfl) (y_ite (yt_cmp (room64 hr) .eq (yr 0) y_int) (y_call (ok_read_fraction A hF) (by decide) hr tk rfl (ya_cons (yr 1) ya_nil)) (y_ite (yt_cmp (room64 hr) .eq (yr 0) y_int) (y_call (ok_read_word A hF) (by decide) hr tk rfl (ya_cons (yr 1) ya_nil)) (y_ite (yt_cmp (room64 hr) .eq (yr 0) y_int) (y_call (ok_read_row A hF) (by decide) hr tk rfl (ya_cons (yr 1) ya_nil)) (y_call (ok_read_morphism A hF) (by decide) hr tk rfl (ya_cons (yr 1) ya_nil))))))) (yss_one (ys_if (yt_cmp (room64 hr) .lt (yr 0) y_int) (yss_one (ys_set (j := 3) sc__law_read.nd rfl (by first | exact Or.inl rfl | exact Or.inr rfl) (y_ite (yt_cmp (room64 hr) .eq (yr 0) y_int) (y_call (ok_read_polynomial A hF) (by decide) hr tk rfl (ya_cons y_int (ya_cons (yr 1) ya_nil))) (y_ite (yt_cmp (room64 hr) .eq (yr 0) y_int) (y_call (ok_read_equation A hF) (by decide) hr tk rfl (ya_cons y_int (ya_cons (yr 1) ya_nil))) (y_callK0 (ks := ["k", "text"]) (ok_read_equation A hF) (by decide) hr tk rfl (yk_cons y_int (yk_cons (yr 1) yk_nil)) (fun _ _ _ _ _ _ us hl => match us, hl with | [_, _], _ => rfl)))))) (yss_one (ys_set (j := 3) sc__law_read.nd rfl (by first | exact Or.inl rfl | exact Or.inr rfl) (y_call (ok_read_regular A hF) (by decide) hr tk rfl (ya_cons (yr 1) ya_nil))))))))) (fun a pn => (yss_one (ys_set (j := 2) sc__law_read.nd rfl (by first | exact Or.inl rfl | exact Or.inr rfl) (yr 4))))) (yss_one (ys_ret (y_ite (yt_isN (yr 2)) (y_lst (ya_cons (y_lst (ya_cons (yr 3) ya_nil)) ya_nil)) (y_lst (ya_cons (y_isx rfl A.g_isinstance A.i_Unreadable (yr 2) (cl_own rfl A.ia_Unreadable)) (ya_cons (y_xv A.xv (yr 2)) ya_nil)))))))))
abbrev s__law_lots : Stmt := top 83
theorem sc__law_lots : FnScope ["rows", "morphisms", "polynomials", "equations", "others", "regulars", "fractions"] [] (defScope s__law_lots) := ⟨rfl, rfl, rfl, by decide +kernel, rfl, by decide +kernel, by decide +kernel⟩
noncomputable def b__law_lots (F : Nat) : XS := (xsSeq (xsAsg (xLst (xCons (xLit (.str "")) (xCons (xLit (.str "2:")) (xCons (xLit (.str "2: ")) (xCons (xLit (.str "2: 0,1")) (xCons (xLit (.str "2: 0,1=")) (xCons (xLit (.str "2: 0,1=0")) (xCons (xLit (.str "2: 0,0=10")) xNil)))))))) (.nm 0)) (xsSeq (xsAsg (xBin gAdd (xVar 0) (xLst (xCons (xLit (.str "2: 0,0=0 ")) (xCons (xLit (.str "2:0,0=0")) (xCons (xLit (.str "2: 0,0,0=0")) (xCons (xLit (.str "3: 0,0=0")) (xCons (xLit (.str "2: 0;0=0")) (xCons (xLit (.str "2: 00,0=0")) (xCons (xLit (.str "02: 0,0=0")) (xCons (xLit (.str "6: 0,0,0,0,0,0=0")) (xCons (xLit (.str "1: 0=0")) xNil))))))))))) (.nm 0)) (xsSeq (xsAsg (xBin gAdd (xVar 0) (xLst (xCons (xLit (.str "2: 0,1=0 0,1=1 ")) (xCons (xLit (.str "2: 1,0=0 1,0=1")) (xCons (xLit (.str "2: 0,0=0  0,0=0")) (xCons (xLit (.str "2: -0,0=0")) (xCons (xLit (.str "2: 0,0=-1")) (xCons (xLit (.str "2: 0,0=a")) (xCons (xLit (.str "2 : 0,0=0")) (xCons (xLit (.str "2; 0,0=0")) xNil)))))))))) (.nm 0)) (xsSeq (xsAsg (xLst (xCons (xLit (.str "2: 0.1 1.0")) (xCons (xLit (.str "2: 0.1 1.0 | 0")) (xCons (xLit (.str "2: 0.1 1.0 | 012")) (xCons (xLit (.str "2: 1.0 0.1 | 01")) (xCons (xLit (.str "2: 0.2 1.0 | 01")) xNil)))))) (.nm 1)) (xsSeq (xsAsg (xBin gAdd (xVar 1) (xLst (xCons (xLit (.str "2: 0,1 1,0 | 01")) (xCons (xLit (.str "2: 0.1 1.0 |01")) (xCons (xLit (.str "3: 0.1 1.0 | 01")) (xCons (xLit (.str "2: 0.1  1.0 | 01")) (xCons (xLit (.str "2: 0.1 1.0 | -")) (xCons (xLit (.str "2: | -")) (xCons (xLit (.str "")) xNil))))))))) (.nm 1)) (xsSeq (xsAsg (xLst (xCons (xLit (.str "")) (xCons (xLit (.str "3")) (xCons (xLit (.str "3x")) (xCons (xLit (.str "0x")) (xCons (xLit (.str "1x")) (xCons (xLit (.str "x^1")) (xCons (xLit (.str "x^0")) (xCons (xLit (.str "x+1")) (xCons (xLit (.str "1+x+x")) xNil)))))))))) (.nm 2)) (xsSeq (xsAsg (xBin gAdd (xVar 2) (xLst (xCons (xLit (.str "x+x^3+x^2")) (xCons (xLit (.str "1+")) (xCons (xLit (.str "+1")) (xCons (xLit (.str "-1")) (xCons (xLit (.str "1-x")) (xCons (xLit (.str "2*x")) (xCons (xLit (.str "x2")) (xCons (xLit (.str "x^02")) (xCons (xLit (.str "01")) (xCons (xLit (.str "1+0x")) (xCons (xLit (.str "0+x")) (xCons (xLit (.str "1 + x")) (xCons (xLit (.str "X")) xNil))))))))))))))) (.nm 2)) (xsSeq (xsAsg (xLst (xCons (xLit (.str "")) (xCons (xLit (.str "(1)")) (xCons (xLit (.str "1F")) (xCons (xLit (.str "(1)F^1")) (xCons (xLit (.str "(1)F^3")) (xCons (xLit (.str "(1)F^02")) (xCons (xLit (.str "(0)F")) (xCons (xLit (.str "()F")) (xCons (xLit (.str "(1)F + (1)F")) (xCons (xLit (.str "(1)F^2 + (1)F")) (xCons (xLit (.str "(1)F+(1)F^2")) (xCons (xLit (.str "(1)f")) (xCons (xLit (.str "(1) F")) (xCons (xLit (.str "(2)F")) (xCons (xLit (.str "(1)F + ")) (xCons (xLit (.str "(x+1)F")) (xCons (xLit (.str "((1)F")) (xCons (xLit (.str "(1)F^2x")) xNil))))))))))))))))))) (.nm 3)) (xsSeq (xsAsg (xLst (xCons (xLit (.str "(1)F^2")) (xCons (xLit (.str "(3)F")) (xCons (xLit (.str "(1)F^6")) (xCons (xLit (.str "(1)F^3 + (1)F")) (xCons (xLit (.str "(0)F^3")) (xCons (xLit (.str "1")) (xCons (xLit (.str "(1)F^27^3")) (xCons (xLit (.str "(1)F + (0)F^3")) xNil))))))))) (.nm 4)) (xsSeq (xsAsg (xLst (xCons (xLit (.str "")) (xCons (xLit (.str "2: 1 | 1; 1")) (xCons (xLit (.str "2: 1 | 1 | 1")) (xCons (xLit (.str "2: 1 | 1; 1; 1 | 1")) xNil))))) (.nm 5)) (xsSeq (xsAsg (xBin gAdd (xVar 5) (xLst (xCons (xLit (.str "2: 1 | 2; 1 | 1")) (xCons (xLit (.str "2: 1 2 | 1; 1 | 1")) (xCons (xLit (.str "2: - | -; - | 1")) (xCons (xLit (.str "2: - | - | -")) (xCons (xLit (.str "2: 2/4 | 1; 1 | 1")) (xCons (xLit (.str "2: 1 | 1; 1 | 1 ")) (xCons (xLit (.str "2:1 | 1; 1 | 1")) xNil))))))))) (.nm 5)) (xsSeq (xsAsg (xBin gAdd (xVar 5) (xLst (xCons (xLit (.str "2: 1 | 1, 1; 1 | 1")) (xCons (xLit (.str "2: 1 |1; 1 | 1")) (xCons (xLit (.str "6: - | -; -; -; -; -; - | -")) (xCons (xLit (.str "2: 1 | 1 ;1 | 1")) (xCons (xLit (.str "2: 01 | 1; 1 | 1")) (xCons (xLit (.str "2:  | ;  | ")) xNil)))))))) (.nm 5)) (xsSeq (xsAsg (xLst (xCons (xLit (.str "2/4")) (xCons (xLit (.str "1/0")) (xCons (xLit (.str "0/1")) (xCons (xLit (.str "3/1")) (xCons (xLit (.str "1/-2")) (xCons (xLit (.str "+1")) (xCons (xLit (.str "-0")) (xCons (xLit (.str "01")) (xCons (xLit (.str "1/02")) (xCons (xLit (.str "1 /2")) (xCons (xLit (.str "/2")) (xCons (xLit (.str "")) (xCons (xLit (.str "x")) (xCons (xLit (.str "1.5")) (xCons (xLit (.str "--1")) xNil)))))))))))))))) (.nm 6)) (xsRet (xLst (xCons (xVar 6) (xCons (xLst (xCons (xLit (.str "")) (xCons (xLit (.str "1a")) (xCons (xLit (.str "-1")) (xCons (xLit (.str "--")) (xCons (xLit (.str "1 2")) (xCons (xLit (.str "0.1")) (xCons (xLit (.str " ")) xNil)))))))) (xCons (xVar 0) (xCons (xVar 1) (xCons (xVar 2) (xCons (xVar 3) (xCons (xVar 4) (xCons (xVar 5) xNil)))))))))))))))))))))))
noncomputable def x__law_lots (F : Nat) : XSp := fnA 0 7 (b__law_lots F)
theorem ok__law_lots (A : Fx P w K mg base) (hF : F ≤ 16777216) : Fn P w K mg base [] "_law_lots" s__law_lots [] 1 (lsp (x__law_lots F)) := by
  obtain ⟨f, fd, hm, D⟩ := A.d__law_lots
  exact Fn.auto (fnX_ok hm D sc__law_lots (by decide) (fun _ _ _ _ _ _ us hl => match us, hl with | [], _ => rfl) fun cdv A' outer s H E hr => (yss_cons (ys_set (j := 0) sc__law_lots.nd rfl (by first | exact Or.inl rfl | exact Or.inr rfl) (y_lst (ya_cons y_str (ya_cons y_str (ya_cons y_str (ya_cons y_str (ya_cons y_str (ya_cons y_str (ya_cons y_str ya_nil))))))))) (yss_cons (ys_set (j := 0) sc__law_lots.nd rfl (by first | exact Or.inl rfl | exact Or.inr rfl) (y_bin .add (yr 0) (y_lst (ya_cons y_str (ya_cons y_str (ya_cons y_str (ya_cons y_str (ya_cons y_str (ya_cons y_str (ya_cons y_str (ya_cons y_str (ya_cons y_str ya_nil)))))))))))) (yss_cons (ys_set (j := 0) sc__law_lots.nd rfl (by first | exact Or.inl rfl | exact Or.inr rfl) (y_bin .add (yr 0) (y_lst (ya_cons y_str (ya_cons y_str (ya_cons y_str (ya_cons y_str (ya_cons y_str (ya_cons y_str (ya_cons y_str (ya_cons y_str ya_nil))))))))))) (yss_cons (ys_set (j := 1) sc__law_lots.nd rfl (by first | exact Or.inl rfl | exact Or.inr rfl) (y_lst (ya_cons y_str (ya_cons y_str (ya_cons y_str (ya_cons y_str (ya_cons y_str ya_nil))))))) (yss_cons (ys_set (j := 1) sc__law_lots.nd rfl (by first | exact Or.inl rfl | exact Or.inr rfl) (y_bin .add (yr 1) (y_lst (ya_cons y_str (ya_cons y_str (ya_cons y_str (ya_cons y_str (ya_cons y_str (ya_cons y_str (ya_cons y_str ya_nil)))))))))) (yss_cons (ys_set (j := 2) sc__law_lots.nd rfl (by first | exact Or.inl rfl | exact Or.inr rfl) (y_lst (ya_cons y_str (ya_cons y_str (ya_cons y_str (ya_cons y_str (ya_cons y_str (ya_cons y_str (ya_cons y_str (ya_cons y_str (ya_cons y_str ya_nil))))))))))) (yss_cons (ys_set (j := 2) sc__law_lots.nd rfl (by first | exact Or.inl rfl | exact Or.inr rfl) (y_bin .add (yr 2) (y_lst (ya_cons y_str (ya_cons y_str (ya_cons y_str (ya_cons y_str (ya_cons y_str (ya_cons y_str (ya_cons y_str (ya_cons y_str (ya_cons y_str (ya_cons y_str (ya_cons y_str (ya_cons y_str (ya_cons y_str ya_nil)))))))))))))))) (yss_cons (ys_set (j := 3) sc__law_lots.nd rfl (by first | exact Or.inl rfl | exact Or.inr rfl) (y_lst (ya_cons y_str (ya_cons y_str (ya_cons y_str (ya_cons y_str (ya_cons y_str (ya_cons y_str (ya_cons y_str (ya_cons y_str (ya_cons y_str (ya_cons y_str (ya_cons y_str (ya_cons y_str (ya_cons y_str (ya_cons y_str (ya_cons y_str (ya_cons y_str (ya_cons y_str (ya_cons y_str ya_nil)))))))))))))))))))) (yss_cons (ys_set (j := 4) sc__law_lots.nd rfl (by first | exact Or.inl rfl | exact Or.inr rfl) (y_lst (ya_cons y_str (ya_cons y_str (ya_cons y_str (ya_cons y_str (ya_cons y_str (ya_cons y_str (ya_cons y_str (ya_cons y_str ya_nil)))))))))) (yss_cons (ys_set (j := 5) sc__law_lots.nd rfl (by first | exact Or.inl rfl | exact Or.inr rfl) (y_lst (ya_cons y_str (ya_cons y_str (ya_cons y_str (ya_cons y_str ya_nil)))))) (yss_cons (ys_set (j := 5) sc__law_lots.nd rfl (by first | exact Or.inl rfl | exact Or.inr rfl) (y_bin .add (yr 5) (y_lst (ya_cons y_str (ya_cons y_str (ya_cons y_str (ya_cons y_str (ya_cons y_str (ya_cons y_str (ya_cons y_str ya_nil)))))))))) (yss_cons (ys_set (j := 5) sc__law_lots.nd rfl (by first | exact Or.inl rfl | exact Or.inr rfl) (y_bin .add (yr 5) (y_lst (ya_cons y_str (ya_cons y_str (ya_cons y_str (ya_cons y_str (ya_cons y_str (ya_cons y_str ya_nil))))))))) (yss_cons (ys_set (j := 6) sc__law_lots.nd rfl (by first | exact Or.inl rfl | exact Or.inr rfl) (y_lst (ya_cons y_str (ya_cons y_str (ya_cons y_str (ya_cons y_str (ya_cons y_str (ya_cons y_str (ya_cons y_str (ya_cons y_str (ya_cons y_str (ya_cons y_str (ya_cons y_str (ya_cons y_str (ya_cons y_str (ya_cons y_str (ya_cons y_str ya_nil))))))))))))))))) (yss_one (ys_ret (y_lst (ya_cons (yr 6) (ya_cons (y_lst (ya_cons y_str (ya_cons y_str (ya_cons y_str (ya_cons y_str (ya_cons y_str (ya_cons y_str (ya_cons y_str ya_nil)))))))) (ya_cons (yr 0) (ya_cons (yr 1) (ya_cons (yr 2) (ya_cons (yr 3) (ya_cons (yr 4) (ya_cons (yr 5) ya_nil)))))))))))))))))))))))))
abbrev s__law_refused : Stmt := top 84
theorem sc__law_refused : FnScope ["k", "text", "found", "e"] ["k", "text"] (defScope s__law_refused) := ⟨rfl, rfl, rfl, by decide +kernel, rfl, by decide +kernel, by decide +kernel⟩
noncomputable def b__law_refused (F : Nat) : XS := (xsSeq (xsAsg (xLst xNil) (.nm 2)) (xsSeq (xsTry (xsExp (xCall (x_read_polynomial F) (xCons (xVar 0) (xCons (xVar 1) xNil)))) sub_InvalidInteger 3 (xsExp (xMt .append (xVar 2) (xCons (xXv xcs (xVar 3)) xNil)))) (xsSeq (xsTry (xsExp (xCall (x_read_equation F) (xCons (xVar 0) (xCons (xVar 1) xNil)))) sub_InvalidInteger 3 (xsExp (xMt .append (xVar 2) (xCons (xXv xcs (xVar 3)) xNil)))) (xsRet (xVar 2)))))
noncomputable def x__law_refused (F : Nat) : XSp := fnA 2 4 (b__law_refused F)
theorem ok__law_refused (A : Fx P w K mg base) (hF : F ≤ 16777216) : Fn P w K mg base [] "_law_refused" s__law_refused ["k", "text"] 7 (lsp (x__law_refused F)) := by
  obtain ⟨f, fd, hm, D⟩ := A.d__law_refused
  exact Fn.auto (fnX_ok hm D sc__law_refused (by decide) (fun _ _ _ _ _ _ us hl => match us, hl with | [_, _], _ => rfl) fun cdv A' outer s H E hr => (yss_cons (ys_set (j := 2) sc__law_refused.nd rfl (by first | exact Or.inl rfl | exact Or.inr rfl) (y_lst ya_nil)) (yss_cons (ys_try (i := 3) rfl rfl rfl sc__law_refused.nd rfl rfl ⟨rfl, by decide, .inl A.k_InvalidInteger.1⟩ bcx_takes A.k_InvalidInteger.2 (fun W pn xe tk hp => (yss_one (ys_exp (y_call (ok_read_polynomial A hF) (by decide) hr tk rfl (ya_cons (yr 0) (ya_cons (yr 1) ya_nil)))))) (fun a pn => (yss_one (ys_exp (y_mt .append rfl (yr 2) (ya_cons (y_xv A.xv (yr 3)) ya_nil)))))) (yss_cons (ys_try (i := 3) rfl rfl rfl sc__law_refused.nd rfl rfl ⟨rfl, by decide, .inl A.k_InvalidInteger.1⟩ bcx_takes A.k_InvalidInteger.2 (fun W pn xe tk hp => (yss_one (ys_exp (y_call (ok_read_equation A hF) (by decide) hr tk rfl (ya_cons (yr 0) (ya_cons (yr 1) ya_nil)))))) (fun a pn => (yss_one (ys_exp (y_mt .append rfl (yr 2) (ya_cons (y_xv A.xv (yr 3)) ya_nil)))))) (yss_one (ys_ret (yr 2)))))))
abbrev s_law : Stmt := top 85
theorem sc_law : FnScope ["script", "pot", "lots", "right", "way", "again", "text", "other", "odd", "wrong"] ["script"] (defScope s_law) := ⟨rfl, rfl, rfl, by decide +kernel, rfl, by decide +kernel, by decide +kernel⟩
noncomputable def b_law (F : Nat) : XS := (xsSeq (xsAsg (xCall (x__law_pot F) (xCons (xVar 0) xNil)) (.nm 1)) (xsSeq (xsAsg (xCall (x__law_lots F) xNil) (.nm 2)) (xsSeq (xsAsg (xLst (xCons (xLit (.str "1/2")) (xCons (xLit (.str "-")) (xCons (xLit (.str "2: 0,0=0")) (xCons (xLit (.str "2: 0.0 | 5")) (xCons (xLit (.str "1+x")) (xCons (xLit (.str "(1)F")) (xCons (xLit (.str "(2)F^3")) (xCons (xLit (.str "2: - | -; - | -")) xNil))))))))) (.nm 3)) (xsSeq (xsFor F (xIt gRange1 (xCons (xLit (.int 8)) xNil)) (.nm 4) (xsSeq (xsFor F (xIt gRange1 (xCons (xLit (.int 7)) xNil)) (.nm 5) (xsSeq (xsAsg (xBin gIx (xBin gIx (xVar 2) (xVar 4)) (xCall (x__law_take F) (xCons (xVar 1) (xCons (xFN gLen (xCons (xBin gIx (xVar 2) (xVar 4)) xNil)) xNil)))) (.nm 6)) (xsIf (xNot (xCall (x__law_same F 8) (xCons (xCall (x__law_read F) (xCons (xVar 4) (xCons (xVar 6) xNil))) (xCons (xLst (xCons (xLit (.bl true)) (xCons (xVar 6) xNil))) xNil)))) (xsRet (xLit (.bl false))) xsNil))) (xsSeq (xsAsg (xBin gIx (xVar 3) (xBin gMod (xFN gInt (xCons (xBin gAdd (xBin gAdd (xVar 4) (xLit (.int 2))) (xCall (x__law_take F) (xCons (xVar 1) (xCons (xLit (.int 3)) xNil)))) xNil)) (xLit (.int 8)))) (.nm 7)) (xsSeq (xsIf (xNot (xCall (x__law_same F 8) (xCons (xCall (x__law_read F) (xCons (xVar 4) (xCons (xVar 7) xNil))) (xCons (xLst (xCons (xLit (.bl true)) (xCons (xVar 7) xNil))) xNil)))) (xsRet (xLit (.bl false))) xsNil) (xsSeq (xsAsg (xBin gIx (xLst (xCons (xLit .non) (xCons (xLit (.int 3)) (xCons (xLit (.bl false)) (xCons (xTup (xCons (xLit (.str "0")) xNil)) (xCons (xLst (xCons (xLit (.str "x")) xNil)) (xCons (xTup (xCons (xLit (.int 1)) (xCons (xLit (.int 2)) xNil))) xNil))))))) (xCall (x__law_take F) (xCons (xVar 1) (xCons (xLit (.int 6)) xNil)))) (.nm 8)) (xsIf (xOr (xNot (xCall (x__law_same F 8) (xCons (xCall (x__law_read F) (xCons (xVar 4) (xCons (xVar 8) xNil))) (xCons (xLst (xCons (xLit (.bl true)) (xCons (xVar 8) xNil))) xNil)))) (xBin (gIsB false) (xBin gIx (xCall (x__law_read F) (xCons (xVar 4) (xCons (xBin gIx (xVar 3) (xVar 4)) xNil))) (xLit (.int 0))) (xLit (.bl true)))) (xsRet (xLit (.bl false))) xsNil)))))) (xsSeq (xsAsg (xBin gIx (xLst (xCons (xLit (.int 4)) (xCons (xLit (.int 1)) (xCons (xLit (.int 0)) (xCons (xLit .non) (xCons (xLit (.bl true)) (xCons (xLit (.str "2")) (xCons (xLit (.int 7)) (xCons (xTup (xCons (xLit (.int 2)) xNil)) xNil))))))))) (xCall (x__law_take F) (xCons (xVar 1) (xCons (xLit (.int 8)) xNil)))) (.nm 9)) (xsRet (xCall (x__law_same F 8) (xCons (xCall (x__law_refused F) (xCons (xVar 9) (xCons (xBin gIx (xBin gIx (xVar 2) (xLit (.int 4))) (xCall (x__law_take F) (xCons (xVar 1) (xCons (xFN gLen (xCons (xBin gIx (xVar 2) (xLit (.int 4))) xNil)) xNil)))) xNil))) (xCons (xLst (xCons (xVar 9) (xCons (xVar 9) xNil))) xNil)))))))))
noncomputable def x_law (F : Nat) : XSp := fnX 1 10 (b_law F)
theorem ok_law (A : Fx P w K mg base) (hF : F ≤ 16777216) : Fn P w K mg base [] "law" s_law ["script"] 10 (lsp (x_law F)) := by
  obtain ⟨f, fd, hm, D⟩ := A.d_law
  exact (fnX_ok hm D sc_law (by decide) (fun _ _ _ _ _ _ us hl => match us, hl with | [_], _ => rfl) fun cdv A' outer s H E hr => (yss_cons (ys_set (j := 1) sc_law.nd rfl (by first | exact Or.inl rfl | exact Or.inr rfl) (y_call (ok__law_pot A hF) (by decide) hr bcx_takes rfl (ya_cons (yr 0) ya_nil))) (yss_cons (ys_set (j := 2) sc_law.nd rfl (by first | exact Or.inl rfl | exact Or.inr rfl) (y_call0 (ok__law_lots A hF) (by decide) hr bcx_takes rfl)) (yss_cons (ys_set (j := 3) sc_law.nd rfl (by first | exact Or.inl rfl | exact Or.inr rfl) (y_lst (ya_cons y_str (ya_cons y_str (ya_cons y_str (ya_cons y_str (ya_cons y_str (ya_cons y_str (ya_cons y_str (ya_cons y_str ya_nil)))))))))) (yss_cons (ys_for hF bcx_owns rfl (yi_range1 rfl A.g_range (ya_cons y_int ya_nil)) (tg 4 sc_law.nd) (yss_cons (ys_for hF bcx_owns rfl (yi_range1 rfl A.g_range (ya_cons y_int ya_nil)) (tg 5 sc_law.nd) (yss_cons (ys_set (j := 6) sc_law.nd rfl (by first | exact Or.inl rfl | exact Or.inr rfl) (y_ix (y_ix (yr 2) (yr 4)) (y_call (ok__law_take A hF) (by decide) hr bcx_takes rfl (ya_cons (yr 1) (ya_cons (y_bi rfl .len rfl rfl A.g_len (ya_cons (y_ix (yr 2) (yr 4)) ya_nil)) ya_nil))))) (yss_one (ys_if (yt_not (yt_val (y_call (ok__law_same A hF 8) (by decide) hr bcx_takes rfl (ya_cons (y_call (ok__law_read A hF) (by decide) hr bcx_takes rfl (ya_cons (yr 4) (ya_cons (yr 6) ya_nil))) (ya_cons (y_lst (ya_cons y_bl (ya_cons (yr 6) ya_nil))) ya_nil))))) (yss_one (ys_ret y_bl)) yss_nil)))) (yss_cons (ys_set (j := 7) sc_law.nd rfl (by first | exact Or.inl rfl | exact Or.inr rfl) (y_ix (yr 3) (y_bin .mod (y_bi rfl .int rfl rfl A.g_int (ya_cons (y_bin .add (y_bin .add (yr 4) y_int) (y_call (ok__law_take A hF) (by decide) hr bcx_takes rfl (ya_cons (yr 1) (ya_cons y_int ya_nil)))) ya_nil)) y_int))) (yss_cons (ys_if (yt_not (yt_val (y_call (ok__law_same A hF 8) (by decide) hr bcx_takes rfl (ya_cons (y_call (ok__law_read A hF) (by decide) hr bcx_takes rfl (ya_cons (yr 4) (ya_cons (yr 7) ya_nil))) (ya_cons (y_lst (ya_cons y_bl (ya_cons (yr 7) ya_nil))) ya_nil))))) (yss_one (ys_ret y_bl)) yss_nil) (yss_cons (ys_set (j := 8) sc_law.nd rfl (by first | exact Or.inl rfl | exact Or.inr rfl) (y_ix (y_lst (ya_cons y_non (ya_cons y_int (ya_cons y_bl (ya_cons (y_tup (ya_cons y_str ya_nil)) (ya_cons (y_lst (ya_cons y_str ya_nil)) (ya_cons (y_tup (ya_cons y_int (ya_cons y_int ya_nil))) ya_nil))))))) (y_call (ok__law_take A hF) (by decide) hr bcx_takes rfl (ya_cons (yr 1) (ya_cons y_int ya_nil))))) (yss_one (ys_if (yw_t (yw_or (yt_not (yt_val (y_call (ok__law_same A hF 8) (by decide) hr bcx_takes rfl (ya_cons (y_call (ok__law_read A hF) (by decide) hr bcx_takes rfl (ya_cons (yr 4) (ya_cons (yr 8) ya_nil))) (ya_cons (y_lst (ya_cons y_bl (ya_cons (yr 8) ya_nil))) ya_nil))))) (yw_one (yt_isB (y_ix (y_call (ok__law_read A hF) (by decide) hr bcx_takes rfl (ya_cons (yr 4) (ya_cons (y_ix (yr 3) (yr 4)) ya_nil))) y_int))))) (yss_one (ys_ret y_bl)) yss_nil))))))) (yss_cons (ys_set (j := 9) sc_law.nd rfl (by first | exact Or.inl rfl | exact Or.inr rfl) (y_ix (y_lst (ya_cons y_int (ya_cons y_int (ya_cons y_int (ya_cons y_non (ya_cons y_bl (ya_cons y_str (ya_cons y_int (ya_cons (y_tup (ya_cons y_int ya_nil)) ya_nil))))))))) (y_call (ok__law_take A hF) (by decide) hr bcx_takes rfl (ya_cons (yr 1) (ya_cons y_int ya_nil))))) (yss_one (ys_ret (y_call (ok__law_same A hF 8) (by decide) hr bcx_takes rfl (ya_cons (y_call (ok__law_refused A hF) (by decide) hr bcx_takes rfl (ya_cons (yr 9) (ya_cons (y_ix (y_ix (yr 2) y_int) (y_call (ok__law_take A hF) (by decide) hr bcx_takes rfl (ya_cons (yr 1) (ya_cons (y_bi rfl .len rfl rfl A.g_len (ya_cons (y_ix (yr 2) y_int) ya_nil)) ya_nil)))) ya_nil))) (ya_cons (y_lst (ya_cons (yr 9) (ya_cons (yr 9) ya_nil))) ya_nil)))))))))))
end
end K85

set_option Elab.async false
set_option linter.all false
set_option maxRecDepth 100000
set_option maxHeartbeats 0
/-! K85b: what the readers answer at the fixed texts, worked out by the kernel. -/
namespace K85
open PySem PySem.Spec PyProof.Rows L2 NdefX Ev
def FF : Nat := 2000000
noncomputable def lotsR : R D := (b__law_lots FF (envOf 7 []) []).fn
noncomputable def lotsG : VH := match lotsR with
  | .ok _ g => g
  | _ => []
noncomputable def lotsK : Nat := match lotsR with
  | .ok (.ref k) _ => k
  | _ => 0
noncomputable def lotIx (w : Nat) : Nat := match lstAt lotsG lotsK with
  | some rs => (match rs[w]? with
    | some (.ref j) => j
    | _ => 0)
  | none => 0
noncomputable def lotTx (w : Nat) : List D := (lstAt lotsG (lotIx w)).getD []
def isRef : R D → Bool
  | .ok (.ref _) _ => true
  | _ => false
def optIs (o : Option (List D)) (ds : List D) : Bool := match o with
  | some es => eqDA es ds
  | none => false
theorem optIs_ok {o : Option (List D)} {ds : List D} (h : optIs o ds = true) : o = some ds := by
  cases o with
  | none => cases h
  | some es => rw [eqDA_ok (show eqDA es ds = true from h)]
def isStr : D → Bool
  | .str _ => true
  | _ => false
theorem lots1 : isRef lotsR = true := by decide +kernel
theorem lots2 : optIs (lstAt lotsG lotsK) ((List.range 8).map fun w => .ref (lotIx w)) = true := by decide +kernel
theorem lots3 : ((List.range 8).all fun w => (lstAt lotsG (lotIx w)).isSome && (decide (0 < (lotTx w).length ∧ (lotTx w).length ≤ 100) && (lotTx w).all isStr)) = true := by decide +kernel
/-- what a reading gives: [True, the text] -/
noncomputable def readOk (w : Nat) (x : D) : Bool := match (b__law_read FF [some (.int w), some x, none, none, none] []).fn with
  | .ok (.ref r) g => optIs (lstAt g r) [.bl true, x]
  | _ => false
theorem read0 : ((lotTx 0).all (readOk 0)) = true := by decide +kernel
theorem read1 : ((lotTx 1).all (readOk 1)) = true := by decide +kernel
theorem read2 : ((lotTx 2).all (readOk 2)) = true := by decide +kernel
theorem read3 : ((lotTx 3).all (readOk 3)) = true := by decide +kernel
theorem read4 : ((lotTx 4).all (readOk 4)) = true := by decide +kernel
theorem read5 : ((lotTx 5).all (readOk 5)) = true := by decide +kernel
theorem read6 : ((lotTx 6).all (readOk 6)) = true := by decide +kernel
theorem read7 : ((lotTx 7).all (readOk 7)) = true := by decide +kernel
def rights : List D := [.str "1/2", .str "-", .str "2: 0,0=0", .str "2: 0.0 | 5", .str "1+x", .str "(1)F", .str "(2)F^3", .str "2: - | -; - | -"]
theorem others : ((List.range 8).all fun w => [0, 1, 2].all fun v => readOk w (rights.getD ((w + 2 + v) % 8) .non)) = true := by decide +kernel
/-- what a right reading gives: [[..]] -/
noncomputable def rightOk (w : Nat) (x : D) : Bool := match (b__law_read FF [some (.int w), some x, none, none, none] []).fn with
  | .ok (.ref r) g => (match lstAt g r with
    | some [.ref _] => true
    | _ => false)
  | _ => false
theorem right8 : ((List.range 8).all fun w => rightOk w (rights.getD w .non)) = true := by decide +kernel
def odds : List D := [.non, .int 3, .bl false, .tup [.str "0"], .tup [.int 1, .int 2]]
theorem odd8 : ((List.range 8).all fun w => odds.all (readOk w)) = true := by decide +kernel
def wrongs : List D := [.int 4, .int 1, .int 0, .non, .bl true, .str "2", .int 7, .tup [.int 2]]
noncomputable def refOk (x y : D) : Bool := match (b__law_refused FF [some x, some y, none, none] []).fn with
  | .ok (.ref r) g => optIs (lstAt g r) [x, x]
  | _ => false
theorem refs : (wrongs.all fun x => (lotTx 4).all (refOk x)) = true := by decide +kernel
end K85

set_option Elab.async false
set_option linter.all false
set_option maxRecDepth 100000
set_option maxHeartbeats 0
/-! K85c: the law. -/
namespace K85
open PySem PySem.Spec PyProof.Rows L2 NdefX Ev
theorem same_is (F : Nat) : ∀ n, x__law_same F n = xp_same F n
  | 0 => rfl
  | n + 1 => by
    show fnX 2 3 (b__law_same F (x__law_same F n)) = fnX 2 3 (xb_same F (xp_same F n))
    rw [same_is F n]
    rfl
theorem take_is (F : Nat) : x__law_take F = xp_take := rfl
theorem pot_is (F : Nat) : x__law_pot F = xp_pot := rfl
theorem FF_ge : 1000000 ≤ FF := by decide
theorem same_ok {got due : D} {h : VH} (s : SameD h 8 got due) : x__law_same FF 8 [got, due] h = .ok (.bl true) h := by
  rw [same_is]
  exact xsame_ok FF_ge 8 s
theorem lots_eq (h : VH) : x__law_lots FF [] h = .ok (.ref (h.length + lotsK)) (catV h lotsG) := by
  have e : x__law_lots FF [] h = lotsR.au h := rfl
  rw [e]
  have q := lots1
  unfold lotsK lotsG
  cases z : lotsR with
  | ok d g =>
    rw [z] at q
    cases d with
    | ref k =>
      show (R.ok (.ref k) g).sh h = _
      show (frcL (catV h g) fun h' => (.ok (shf h.length (.ref k)) h' : R D)) = _
      rw [frcL_eq]
      rfl
    | _ => cases q
  | ex c d g => rw [z] at q; cases q
  | no => rw [z] at q; cases q
theorem all_lots {w : Nat} (hw : w < 8) : lstAt lotsG (lotIx w) = some (lotTx w) ∧ 0 < (lotTx w).length ∧ (lotTx w).length ≤ 100 ∧ ∀ x ∈ lotTx w, isStr x = true := by
  have q := List.all_eq_true.mp lots3 w (List.mem_range.mpr hw)
  simp only [Bool.and_eq_true, decide_eq_true_eq, List.all_eq_true] at q
  obtain ⟨q1, ⟨q2, q3⟩, q4⟩ := q
  refine ⟨?_, q2, q3, q4⟩
  obtain ⟨ds, e⟩ := Option.isSome_iff_exists.mp q1
  unfold lotTx
  rw [e] <;> rfl
theorem all_read {w : Nat} (hw : w < 8) : ∀ x ∈ lotTx w, readOk w x = true := by
  intro x hx
  match w, hw with
  | 0, _ => exact List.all_eq_true.mp read0 x hx
  | 1, _ => exact List.all_eq_true.mp read1 x hx
  | 2, _ => exact List.all_eq_true.mp read2 x hx
  | 3, _ => exact List.all_eq_true.mp read3 x hx
  | 4, _ => exact List.all_eq_true.mp read4 x hx
  | 5, _ => exact List.all_eq_true.mp read5 x hx
  | 6, _ => exact List.all_eq_true.mp read6 x hx
  | 7, _ => exact List.all_eq_true.mp read7 x hx
theorem free_str {x : D} (h : isStr x = true) : free x = true ∧ ∀ n, plainD (n + 1) x = true := by
  cases x with
  | str s => exact ⟨rfl, fun n => by unfold plainD; rfl⟩
  | _ => cases h
/-- a reading of a value without lists -/
theorem read_eq {w : Nat} {x : D} (hx : readOk w x = true) (fx : free x = true) (h : VH) : ∃ r g, x__law_read FF [.int w, x] h = .ok (.ref (h.length + r)) (catV h g) ∧ lstAt (catV h g) (h.length + r) = some [.bl true, x] := by
  have e : x__law_read FF [.int w, x] h = (b__law_read FF [some (.int w), some x, none, none, none] []).fn.au h := by
    show (match freeA [.int w, x] with | true => (b__law_read FF (envOf 5 [.int w, x]) []).fn.au h | false => (b__law_read FF (envOf 5 [.int w, x]) h).fn) = _
    rw [show freeA [.int w, x] = true from freeA_cons rfl (freeA_cons fx rfl)] <;> rfl
  rw [e]
  unfold readOk at hx
  cases z : (b__law_read FF [some (.int w), some x, none, none, none] []).fn with
  | ok d g =>
    rw [z] at hx
    cases d with
    | ref r =>
      have q := optIs_ok (show optIs (lstAt g r) [.bl true, x] = true from hx)
      refine ⟨r, g, ?_, ?_⟩
      · show (frcL (catV h g) fun h' => (.ok (shf h.length (.ref r)) h' : R D)) = _
        rw [frcL_eq] <;> rfl
      · rw [lstAt_cat q]
        show some [.bl true, shf h.length x] = _
        rw [shf_free fx]
    | _ => cases hx
  | ex c d g => rw [z] at hx; cases hx
  | no => rw [z] at hx; cases hx
theorem right_eq {w : Nat} {x : D} (hx : rightOk w x = true) (fx : free x = true) (h : VH) : ∃ r g k, x__law_read FF [.int w, x] h = .ok (.ref (h.length + r)) (catV h g) ∧ lstAt (catV h g) (h.length + r) = some [.ref k] := by
  have e : x__law_read FF [.int w, x] h = (b__law_read FF [some (.int w), some x, none, none, none] []).fn.au h := by
    show (match freeA [.int w, x] with | true => (b__law_read FF (envOf 5 [.int w, x]) []).fn.au h | false => (b__law_read FF (envOf 5 [.int w, x]) h).fn) = _
    rw [show freeA [.int w, x] = true from freeA_cons rfl (freeA_cons fx rfl)] <;> rfl
  rw [e]
  unfold rightOk at hx
  cases z : (b__law_read FF [some (.int w), some x, none, none, none] []).fn with
  | ok d g =>
    rw [z] at hx
    cases d with
    | ref r =>
      have q : (match lstAt g r with | some [.ref _] => true | _ => false) = true := hx
      split at q
      · rename_i k e2
        refine ⟨r, g, h.length + k, ?_, ?_⟩
        · show (frcL (catV h g) fun h' => (.ok (shf h.length (.ref r)) h' : R D)) = _
          rw [frcL_eq] <;> rfl
        · rw [lstAt_cat e2] <;> rfl
      · cases q
    | _ => cases hx
  | ex c d g => rw [z] at hx; cases hx
  | no => rw [z] at hx; cases hx
theorem refused_eq {x y : D} (hx : refOk x y = true) (fx : free x = true) (fy : free y = true) (h : VH) : ∃ r g, x__law_refused FF [x, y] h = .ok (.ref (h.length + r)) (catV h g) ∧ lstAt (catV h g) (h.length + r) = some [x, x] := by
  have e : x__law_refused FF [x, y] h = (b__law_refused FF [some x, some y, none, none] []).fn.au h := by
    show (match freeA [x, y] with | true => (b__law_refused FF (envOf 4 [x, y]) []).fn.au h | false => (b__law_refused FF (envOf 4 [x, y]) h).fn) = _
    rw [show freeA [x, y] = true from freeA_cons fx (freeA_cons fy rfl)] <;> rfl
  rw [e]
  unfold refOk at hx
  cases z : (b__law_refused FF [some x, some y, none, none] []).fn with
  | ok d g =>
    rw [z] at hx
    cases d with
    | ref r =>
      have q := optIs_ok (show optIs (lstAt g r) [x, x] = true from hx)
      refine ⟨r, g, ?_, ?_⟩
      · show (frcL (catV h g) fun h' => (.ok (shf h.length (.ref r)) h' : R D)) = _
        rw [frcL_eq] <;> rfl
      · rw [lstAt_cat q]
        show some [shf h.length x, shf h.length x] = _
        rw [shf_free fx]
    | _ => cases hx
  | ex c d g => rw [z] at hx; cases hx
  | no => rw [z] at hx; cases hx
section
variable {h : VH} {k : Nat} {ds : List D}
theorem given_l : x_given FF [.ref k, .non] h = .ex "Unreadable" (.ref k) h := rfl
theorem fr_l (e : lstAt h k = some ds) : x_read_fraction FF [.ref k] h = .ex "Unreadable" (.ref k) h := by
  show ((xsRet (xCall (x_given FF) (xCons (xVar 0) (xCons (xIte (xIsi (xVar 0) [.str]) (xCall (lp (p_fraction_from FF)) (xCons (xVar 0) xNil)) (xLit .non)) xNil)))) [some (.ref k)] h).fn = _
  simp only [xsAsg, xsPar, xsIf, xsRet, xsRetN, xsExp, xsSet, xsAug, xsAugS, xsBrk, xsCnt, xsRaise, xsNil, exE, xVar, xLit, xNeg, xIsN, xBin, xChain, xAnd, xOr, xNot, xIte, xNil, xCons, xTup, xLst, xFN, xMt, xIsi, xIsx, xCall, xSl1, xRev, xNewL, xFC, xXv, xIt, xSeq, nth, R.bd, R.sb, RS.to, R.to, xto, xtoH, xfin, xfinE, xck, frcD_eq, frcD1_eq, frcN_eq, frcI_eq, frcL_eq, frcDs_eq, lay_eq, put_eq, gAdd_i, gAdd_s, gSub_i, gEq_i, gEq_b, gNe_i, gNe_b, gLt_i, gLe_i, gGt_i, gGe_i, gInt_i, gInt_b, gInp_a, gInp_s, gLen_t, gTuple_t, gList_t, asgT, asgL, tyD, Ev.isNon, gRange1_i, Ty.isa, List.getElem?_cons_zero, List.getElem?_cons_succ, List.set_cons_zero, List.set_cons_succ, List.map_cons, List.map_nil, List.cons_append, List.nil_append, List.any_cons, List.any_nil, Option.map_some, Option.map_none, Bool.or_false, Bool.false_or, Bool.or_true, Bool.true_or, Bool.and_true, Bool.true_and, Bool.and_false, Bool.false_and, Bool.not_true, Bool.not_false, Bool.false_eq_true, if_false, if_true, e, given_l]
  rfl
theorem wd_l (e : lstAt h k = some ds) : x_read_word FF [.ref k] h = .ex "Unreadable" (.ref k) h := by
  show ((xsRet (xCall (x_given FF) (xCons (xVar 0) (xCons (xIte (xIsi (xVar 0) [.str]) (xCall (lp (p_word_from FF)) (xCons (xVar 0) xNil)) (xLit .non)) xNil)))) [some (.ref k)] h).fn = _
  simp only [xsAsg, xsPar, xsIf, xsRet, xsRetN, xsExp, xsSet, xsAug, xsAugS, xsBrk, xsCnt, xsRaise, xsNil, exE, xVar, xLit, xNeg, xIsN, xBin, xChain, xAnd, xOr, xNot, xIte, xNil, xCons, xTup, xLst, xFN, xMt, xIsi, xIsx, xCall, xSl1, xRev, xNewL, xFC, xXv, xIt, xSeq, nth, R.bd, R.sb, RS.to, R.to, xto, xtoH, xfin, xfinE, xck, frcD_eq, frcD1_eq, frcN_eq, frcI_eq, frcL_eq, frcDs_eq, lay_eq, put_eq, gAdd_i, gAdd_s, gSub_i, gEq_i, gEq_b, gNe_i, gNe_b, gLt_i, gLe_i, gGt_i, gGe_i, gInt_i, gInt_b, gInp_a, gInp_s, gLen_t, gTuple_t, gList_t, asgT, asgL, tyD, Ev.isNon, gRange1_i, Ty.isa, List.getElem?_cons_zero, List.getElem?_cons_succ, List.set_cons_zero, List.set_cons_succ, List.map_cons, List.map_nil, List.cons_append, List.nil_append, List.any_cons, List.any_nil, Option.map_some, Option.map_none, Bool.or_false, Bool.false_or, Bool.or_true, Bool.true_or, Bool.and_true, Bool.true_and, Bool.and_false, Bool.false_and, Bool.not_true, Bool.not_false, Bool.false_eq_true, if_false, if_true, e, given_l]
  rfl
theorem rw_l (e : lstAt h k = some ds) : x_read_row FF [.ref k] h = .ex "Unreadable" (.ref k) h := by
  show ((xsRet (xCall (x_given FF) (xCons (xVar 0) (xCons (xIte (xIsi (xVar 0) [.str]) (xCall (lp (p_row_from_text FF)) (xCons (xVar 0) xNil)) (xLit .non)) xNil)))) [some (.ref k)] h).fn = _
  simp only [xsAsg, xsPar, xsIf, xsRet, xsRetN, xsExp, xsSet, xsAug, xsAugS, xsBrk, xsCnt, xsRaise, xsNil, exE, xVar, xLit, xNeg, xIsN, xBin, xChain, xAnd, xOr, xNot, xIte, xNil, xCons, xTup, xLst, xFN, xMt, xIsi, xIsx, xCall, xSl1, xRev, xNewL, xFC, xXv, xIt, xSeq, nth, R.bd, R.sb, RS.to, R.to, xto, xtoH, xfin, xfinE, xck, frcD_eq, frcD1_eq, frcN_eq, frcI_eq, frcL_eq, frcDs_eq, lay_eq, put_eq, gAdd_i, gAdd_s, gSub_i, gEq_i, gEq_b, gNe_i, gNe_b, gLt_i, gLe_i, gGt_i, gGe_i, gInt_i, gInt_b, gInp_a, gInp_s, gLen_t, gTuple_t, gList_t, asgT, asgL, tyD, Ev.isNon, gRange1_i, Ty.isa, List.getElem?_cons_zero, List.getElem?_cons_succ, List.set_cons_zero, List.set_cons_succ, List.map_cons, List.map_nil, List.cons_append, List.nil_append, List.any_cons, List.any_nil, Option.map_some, Option.map_none, Bool.or_false, Bool.false_or, Bool.or_true, Bool.true_or, Bool.and_true, Bool.true_and, Bool.and_false, Bool.false_and, Bool.not_true, Bool.not_false, Bool.false_eq_true, if_false, if_true, e, given_l]
  rfl
theorem mo_l (e : lstAt h k = some ds) : x_read_morphism FF [.ref k] h = .ex "Unreadable" (.ref k) h := by
  show ((xsRet (xCall (x_given FF) (xCons (xVar 0) (xCons (xIte (xIsi (xVar 0) [.str]) (xCall (lp (p_morphism_from FF)) (xCons (xVar 0) xNil)) (xLit .non)) xNil)))) [some (.ref k)] h).fn = _
  simp only [xsAsg, xsPar, xsIf, xsRet, xsRetN, xsExp, xsSet, xsAug, xsAugS, xsBrk, xsCnt, xsRaise, xsNil, exE, xVar, xLit, xNeg, xIsN, xBin, xChain, xAnd, xOr, xNot, xIte, xNil, xCons, xTup, xLst, xFN, xMt, xIsi, xIsx, xCall, xSl1, xRev, xNewL, xFC, xXv, xIt, xSeq, nth, R.bd, R.sb, RS.to, R.to, xto, xtoH, xfin, xfinE, xck, frcD_eq, frcD1_eq, frcN_eq, frcI_eq, frcL_eq, frcDs_eq, lay_eq, put_eq, gAdd_i, gAdd_s, gSub_i, gEq_i, gEq_b, gNe_i, gNe_b, gLt_i, gLe_i, gGt_i, gGe_i, gInt_i, gInt_b, gInp_a, gInp_s, gLen_t, gTuple_t, gList_t, asgT, asgL, tyD, Ev.isNon, gRange1_i, Ty.isa, List.getElem?_cons_zero, List.getElem?_cons_succ, List.set_cons_zero, List.set_cons_succ, List.map_cons, List.map_nil, List.cons_append, List.nil_append, List.any_cons, List.any_nil, Option.map_some, Option.map_none, Bool.or_false, Bool.false_or, Bool.or_true, Bool.true_or, Bool.and_true, Bool.true_and, Bool.and_false, Bool.false_and, Bool.not_true, Bool.not_false, Bool.false_eq_true, if_false, if_true, e, given_l]
  rfl
theorem rg_l (e : lstAt h k = some ds) : x_read_regular FF [.ref k] h = .ex "Unreadable" (.ref k) h := by
  show ((xsRet (xCall (x_given FF) (xCons (xVar 0) (xCons (xIte (xIsi (xVar 0) [.str]) (xCall (lp (p_regular_from FF)) (xCons (xVar 0) xNil)) (xLit .non)) xNil)))) [some (.ref k)] h).fn = _
  simp only [xsAsg, xsPar, xsIf, xsRet, xsRetN, xsExp, xsSet, xsAug, xsAugS, xsBrk, xsCnt, xsRaise, xsNil, exE, xVar, xLit, xNeg, xIsN, xBin, xChain, xAnd, xOr, xNot, xIte, xNil, xCons, xTup, xLst, xFN, xMt, xIsi, xIsx, xCall, xSl1, xRev, xNewL, xFC, xXv, xIt, xSeq, nth, R.bd, R.sb, RS.to, R.to, xto, xtoH, xfin, xfinE, xck, frcD_eq, frcD1_eq, frcN_eq, frcI_eq, frcL_eq, frcDs_eq, lay_eq, put_eq, gAdd_i, gAdd_s, gSub_i, gEq_i, gEq_b, gNe_i, gNe_b, gLt_i, gLe_i, gGt_i, gGe_i, gInt_i, gInt_b, gInp_a, gInp_s, gLen_t, gTuple_t, gList_t, asgT, asgL, tyD, Ev.isNon, gRange1_i, Ty.isa, List.getElem?_cons_zero, List.getElem?_cons_succ, List.set_cons_zero, List.set_cons_succ, List.map_cons, List.map_nil, List.cons_append, List.nil_append, List.any_cons, List.any_nil, Option.map_some, Option.map_none, Bool.or_false, Bool.false_or, Bool.or_true, Bool.true_or, Bool.and_true, Bool.true_and, Bool.and_false, Bool.false_and, Bool.not_true, Bool.not_false, Bool.false_eq_true, if_false, if_true, e, given_l]
  rfl
theorem prime_23 : p_check_prime FF [.int 2] = .val .non ∧ p_check_prime FF [.int 3] = .val .non := ⟨by kernel_rfl, by kernel_rfl⟩
theorem po_l (e : lstAt h k = some ds) : x_read_polynomial FF [.int 3, .ref k] h = .ex "Unreadable" (.ref k) h := by
  show ((xsSeq (xsExp (xCall (lp (p_check_prime FF)) (xCons (xVar 0) xNil))) (xsRet (xCall (x_given FF) (xCons (xVar 1) (xCons (xIte (xIsi (xVar 1) [.str]) (xCall (lp (p_polynomial_from FF)) (xCons (xVar 0) (xCons (xVar 1) xNil))) (xLit .non)) xNil))))) [some (.int 3), some (.ref k)] h).fn = _
  rw [xseq_nx (e1 := [some (.int 3), some (.ref k)]) (h1 := h) (by simp only [xsAsg, xsPar, xsIf, xsRet, xsRetN, xsExp, xsSet, xsAug, xsAugS, xsBrk, xsCnt, xsRaise, xsNil, exE, xVar, xLit, xNeg, xIsN, xBin, xChain, xAnd, xOr, xNot, xIte, xNil, xCons, xTup, xLst, xFN, xMt, xIsi, xIsx, xCall, xSl1, xRev, xNewL, xFC, xXv, xIt, xSeq, nth, R.bd, R.sb, RS.to, R.to, xto, xtoH, xfin, xfinE, xck, frcD_eq, frcD1_eq, frcN_eq, frcI_eq, frcL_eq, frcDs_eq, lay_eq, put_eq, gAdd_i, gAdd_s, gSub_i, gEq_i, gEq_b, gNe_i, gNe_b, gLt_i, gLe_i, gGt_i, gGe_i, gInt_i, gInt_b, gInp_a, gInp_s, gLen_t, gTuple_t, gList_t, asgT, asgL, tyD, Ev.isNon, gRange1_i, Ty.isa, List.getElem?_cons_zero, List.getElem?_cons_succ, List.set_cons_zero, List.set_cons_succ, List.map_cons, List.map_nil, List.cons_append, List.nil_append, List.any_cons, List.any_nil, Option.map_some, Option.map_none, Bool.or_false, Bool.false_or, Bool.or_true, Bool.true_or, Bool.and_true, Bool.true_and, Bool.and_false, Bool.false_and, Bool.not_true, Bool.not_false, Bool.false_eq_true, if_false, if_true, lp, prime_23, RP.up])]
  simp only [xsAsg, xsPar, xsIf, xsRet, xsRetN, xsExp, xsSet, xsAug, xsAugS, xsBrk, xsCnt, xsRaise, xsNil, exE, xVar, xLit, xNeg, xIsN, xBin, xChain, xAnd, xOr, xNot, xIte, xNil, xCons, xTup, xLst, xFN, xMt, xIsi, xIsx, xCall, xSl1, xRev, xNewL, xFC, xXv, xIt, xSeq, nth, R.bd, R.sb, RS.to, R.to, xto, xtoH, xfin, xfinE, xck, frcD_eq, frcD1_eq, frcN_eq, frcI_eq, frcL_eq, frcDs_eq, lay_eq, put_eq, gAdd_i, gAdd_s, gSub_i, gEq_i, gEq_b, gNe_i, gNe_b, gLt_i, gLe_i, gGt_i, gGe_i, gInt_i, gInt_b, gInp_a, gInp_s, gLen_t, gTuple_t, gList_t, asgT, asgL, tyD, Ev.isNon, gRange1_i, Ty.isa, List.getElem?_cons_zero, List.getElem?_cons_succ, List.set_cons_zero, List.set_cons_succ, List.map_cons, List.map_nil, List.cons_append, List.nil_append, List.any_cons, List.any_nil, Option.map_some, Option.map_none, Bool.or_false, Bool.false_or, Bool.or_true, Bool.true_or, Bool.and_true, Bool.true_and, Bool.and_false, Bool.false_and, Bool.not_true, Bool.not_false, Bool.false_eq_true, if_false, if_true, e, given_l]
  rfl
theorem eq_l {p : Int} (hp : p_check_prime FF [.int p] = .val .non) (e : lstAt h k = some ds) : x_read_equation FF [.int p, .ref k] h = .ex "Unreadable" (.ref k) h := by
  show ((xsSeq (xsExp (xCall (lp (p_check_prime FF)) (xCons (xVar 0) xNil))) (xsRet (xCall (x_given FF) (xCons (xVar 1) (xCons (xIte (xIsi (xVar 1) [.str]) (xCall (lp (p_equation_from FF)) (xCons (xVar 0) (xCons (xVar 1) xNil))) (xLit .non)) xNil))))) [some (.int p), some (.ref k)] h).fn = _
  rw [xseq_nx (e1 := [some (.int p), some (.ref k)]) (h1 := h) (by simp only [xsAsg, xsPar, xsIf, xsRet, xsRetN, xsExp, xsSet, xsAug, xsAugS, xsBrk, xsCnt, xsRaise, xsNil, exE, xVar, xLit, xNeg, xIsN, xBin, xChain, xAnd, xOr, xNot, xIte, xNil, xCons, xTup, xLst, xFN, xMt, xIsi, xIsx, xCall, xSl1, xRev, xNewL, xFC, xXv, xIt, xSeq, nth, R.bd, R.sb, RS.to, R.to, xto, xtoH, xfin, xfinE, xck, frcD_eq, frcD1_eq, frcN_eq, frcI_eq, frcL_eq, frcDs_eq, lay_eq, put_eq, gAdd_i, gAdd_s, gSub_i, gEq_i, gEq_b, gNe_i, gNe_b, gLt_i, gLe_i, gGt_i, gGe_i, gInt_i, gInt_b, gInp_a, gInp_s, gLen_t, gTuple_t, gList_t, asgT, asgL, tyD, Ev.isNon, gRange1_i, Ty.isa, List.getElem?_cons_zero, List.getElem?_cons_succ, List.set_cons_zero, List.set_cons_succ, List.map_cons, List.map_nil, List.cons_append, List.nil_append, List.any_cons, List.any_nil, Option.map_some, Option.map_none, Bool.or_false, Bool.false_or, Bool.or_true, Bool.true_or, Bool.and_true, Bool.true_and, Bool.and_false, Bool.false_and, Bool.not_true, Bool.not_false, Bool.false_eq_true, if_false, if_true, lp, hp, RP.up])]
  simp only [xsAsg, xsPar, xsIf, xsRet, xsRetN, xsExp, xsSet, xsAug, xsAugS, xsBrk, xsCnt, xsRaise, xsNil, exE, xVar, xLit, xNeg, xIsN, xBin, xChain, xAnd, xOr, xNot, xIte, xNil, xCons, xTup, xLst, xFN, xMt, xIsi, xIsx, xCall, xSl1, xRev, xNewL, xFC, xXv, xIt, xSeq, nth, R.bd, R.sb, RS.to, R.to, xto, xtoH, xfin, xfinE, xck, frcD_eq, frcD1_eq, frcN_eq, frcI_eq, frcL_eq, frcDs_eq, lay_eq, put_eq, gAdd_i, gAdd_s, gSub_i, gEq_i, gEq_b, gNe_i, gNe_b, gLt_i, gLe_i, gGt_i, gGe_i, gInt_i, gInt_b, gInp_a, gInp_s, gLen_t, gTuple_t, gList_t, asgT, asgL, tyD, Ev.isNon, gRange1_i, Ty.isa, List.getElem?_cons_zero, List.getElem?_cons_succ, List.set_cons_zero, List.set_cons_succ, List.map_cons, List.map_nil, List.cons_append, List.nil_append, List.any_cons, List.any_nil, Option.map_some, Option.map_none, Bool.or_false, Bool.false_or, Bool.or_true, Bool.true_or, Bool.and_true, Bool.true_and, Bool.and_false, Bool.false_and, Bool.not_true, Bool.not_false, Bool.false_eq_true, if_false, if_true, e, given_l]
  rfl
end
end K85

set_option Elab.async false
set_option linter.all false
set_option maxRecDepth 100000
set_option maxHeartbeats 0
/-! K85d: the law. -/
namespace K85
open PySem PySem.Spec PyProof.Rows L2 NdefX Ev
theorem suite_l {h : VH} {k : Nat} {w : Nat} {b : XS} {x1 : Ev.Env} (hx : b [some (.int w), some (.ref k), some .non, some .non, none] h = .ex "Unreadable" (.ref k) x1 h) (hl : x1 = [some (.int w), some (.ref k), some .non, some .non, none]) :
    xsTry b sub_DigitsError 4 (xsAsg (xVar 4) (.nm 2)) [some (.int w), some (.ref k), some .non, some .non, none] h = .nx [some (.int w), some (.ref k), some (.exn "Unreadable" (.ref k)), some .non, none] h := by
  unfold xsTry
  rw [hx, hl]
  have e : sub_DigitsError "Unreadable" = some true := by decide +kernel
  simp only [e, xsAsg, xsPar, xsIf, xsRet, xsRetN, xsExp, xsSet, xsAug, xsAugS, xsBrk, xsCnt, xsRaise, xsNil, exE, xVar, xLit, xNeg, xIsN, xBin, xChain, xAnd, xOr, xNot, xIte, xNil, xCons, xTup, xLst, xFN, xMt, xIsi, xIsx, xCall, xSl1, xRev, xNewL, xFC, xXv, xIt, xSeq, nth, R.bd, R.sb, RS.to, R.to, xto, xtoH, xfin, xfinE, xck, frcD_eq, frcD1_eq, frcN_eq, frcI_eq, frcL_eq, frcDs_eq, lay_eq, put_eq, gAdd_i, gAdd_s, gSub_i, gEq_i, gEq_b, gNe_i, gNe_b, gLt_i, gLe_i, gGt_i, gGe_i, gInt_i, gInt_b, gInp_a, gInp_s, gLen_t, gTuple_t, gList_t, asgT, asgL, tyD, Ev.isNon, gRange1_i, Ty.isa, List.getElem?_cons_zero, List.getElem?_cons_succ, List.set_cons_zero, List.set_cons_succ, List.map_cons, List.map_nil, List.cons_append, List.nil_append, List.any_cons, List.any_nil, Option.map_some, Option.map_none, Bool.or_false, Bool.false_or, Bool.or_true, Bool.true_or, Bool.and_true, Bool.true_and, Bool.and_false, Bool.false_and, Bool.not_true, Bool.not_false, Bool.false_eq_true, if_false, if_true, decide_true, decide_false]
theorem body_l {h : VH} {k w : Nat} {rf rw' rr rm rp re rg : XSp} (hw : w < 8) (h0 : rf [.ref k] h = .ex "Unreadable" (.ref k) h) (h1 : rw' [.ref k] h = .ex "Unreadable" (.ref k) h) (h2 : rr [.ref k] h = .ex "Unreadable" (.ref k) h) (h3 : rm [.ref k] h = .ex "Unreadable" (.ref k) h)
    (h4 : rp [.int 3, .ref k] h = .ex "Unreadable" (.ref k) h) (h5 : re [.int 2, .ref k] h = .ex "Unreadable" (.ref k) h) (h6 : re [.int 3, .ref k] h = .ex "Unreadable" (.ref k) h) (h7 : rg [.ref k] h = .ex "Unreadable" (.ref k) h) :
    (xsIf (xBin gLt (xVar 0) (xLit (.int 4))) (xsAsg (xIte (xBin gEq (xVar 0) (xLit (.int 0))) (xCall rf (xCons (xVar 1) xNil)) (xIte (xBin gEq (xVar 0) (xLit (.int 1))) (xCall rw' (xCons (xVar 1) xNil)) (xIte (xBin gEq (xVar 0) (xLit (.int 2))) (xCall rr (xCons (xVar 1) xNil)) (xCall rm (xCons (xVar 1) xNil))))) (.nm 3)) (xsIf (xBin gLt (xVar 0) (xLit (.int 7))) (xsAsg (xIte (xBin gEq (xVar 0) (xLit (.int 4))) (xCall rp (xCons (xLit (.int 3)) (xCons (xVar 1) xNil))) (xIte (xBin gEq (xVar 0) (xLit (.int 5))) (xCall re (xCons (xLit (.int 2)) (xCons (xVar 1) xNil))) (xCall re (xCons (xLit (.int 3)) (xCons (xVar 1) xNil))))) (.nm 3)) (xsAsg (xCall rg (xCons (xVar 1) xNil)) (.nm 3)))) [some (.int w), some (.ref k), some .non, some .non, none] h = .ex "Unreadable" (.ref k) [some (.int w), some (.ref k), some .non, some .non, none] h := by
  match w, hw with
  | 0, _ =>
    show (xsIf (xBin gLt (xVar 0) (xLit (.int 4))) (xsAsg (xIte (xBin gEq (xVar 0) (xLit (.int 0))) (xCall rf (xCons (xVar 1) xNil)) (xIte (xBin gEq (xVar 0) (xLit (.int 1))) (xCall rw' (xCons (xVar 1) xNil)) (xIte (xBin gEq (xVar 0) (xLit (.int 2))) (xCall rr (xCons (xVar 1) xNil)) (xCall rm (xCons (xVar 1) xNil))))) (.nm 3)) (xsIf (xBin gLt (xVar 0) (xLit (.int 7))) (xsAsg (xIte (xBin gEq (xVar 0) (xLit (.int 4))) (xCall rp (xCons (xLit (.int 3)) (xCons (xVar 1) xNil))) (xIte (xBin gEq (xVar 0) (xLit (.int 5))) (xCall re (xCons (xLit (.int 2)) (xCons (xVar 1) xNil))) (xCall re (xCons (xLit (.int 3)) (xCons (xVar 1) xNil))))) (.nm 3)) (xsAsg (xCall rg (xCons (xVar 1) xNil)) (.nm 3)))) [some (.int 0), some (.ref k), some .non, some .non, none] h = .ex "Unreadable" (.ref k) [some (.int 0), some (.ref k), some .non, some .non, none] h
    simp only [xsAsg, xsPar, xsIf, xsRet, xsRetN, xsExp, xsSet, xsAug, xsAugS, xsBrk, xsCnt, xsRaise, xsNil, exE, xVar, xLit, xNeg, xIsN, xBin, xChain, xAnd, xOr, xNot, xIte, xNil, xCons, xTup, xLst, xFN, xMt, xIsi, xIsx, xCall, xSl1, xRev, xNewL, xFC, xXv, xIt, xSeq, nth, R.bd, R.sb, RS.to, R.to, xto, xtoH, xfin, xfinE, xck, frcD_eq, frcD1_eq, frcN_eq, frcI_eq, frcL_eq, frcDs_eq, lay_eq, put_eq, gAdd_i, gAdd_s, gSub_i, gEq_i, gEq_b, gNe_i, gNe_b, gLt_i, gLe_i, gGt_i, gGe_i, gInt_i, gInt_b, gInp_a, gInp_s, gLen_t, gTuple_t, gList_t, asgT, asgL, tyD, Ev.isNon, gRange1_i, Ty.isa, List.getElem?_cons_zero, List.getElem?_cons_succ, List.set_cons_zero, List.set_cons_succ, List.map_cons, List.map_nil, List.cons_append, List.nil_append, List.any_cons, List.any_nil, Option.map_some, Option.map_none, Bool.or_false, Bool.false_or, Bool.or_true, Bool.true_or, Bool.and_true, Bool.true_and, Bool.and_false, Bool.false_and, Bool.not_true, Bool.not_false, Bool.false_eq_true, if_false, if_true, decide_true, decide_false, Int.reduceLT, Int.reduceEq, h0]
  | 1, _ =>
    show (xsIf (xBin gLt (xVar 0) (xLit (.int 4))) (xsAsg (xIte (xBin gEq (xVar 0) (xLit (.int 0))) (xCall rf (xCons (xVar 1) xNil)) (xIte (xBin gEq (xVar 0) (xLit (.int 1))) (xCall rw' (xCons (xVar 1) xNil)) (xIte (xBin gEq (xVar 0) (xLit (.int 2))) (xCall rr (xCons (xVar 1) xNil)) (xCall rm (xCons (xVar 1) xNil))))) (.nm 3)) (xsIf (xBin gLt (xVar 0) (xLit (.int 7))) (xsAsg (xIte (xBin gEq (xVar 0) (xLit (.int 4))) (xCall rp (xCons (xLit (.int 3)) (xCons (xVar 1) xNil))) (xIte (xBin gEq (xVar 0) (xLit (.int 5))) (xCall re (xCons (xLit (.int 2)) (xCons (xVar 1) xNil))) (xCall re (xCons (xLit (.int 3)) (xCons (xVar 1) xNil))))) (.nm 3)) (xsAsg (xCall rg (xCons (xVar 1) xNil)) (.nm 3)))) [some (.int 1), some (.ref k), some .non, some .non, none] h = .ex "Unreadable" (.ref k) [some (.int 1), some (.ref k), some .non, some .non, none] h
    simp only [xsAsg, xsPar, xsIf, xsRet, xsRetN, xsExp, xsSet, xsAug, xsAugS, xsBrk, xsCnt, xsRaise, xsNil, exE, xVar, xLit, xNeg, xIsN, xBin, xChain, xAnd, xOr, xNot, xIte, xNil, xCons, xTup, xLst, xFN, xMt, xIsi, xIsx, xCall, xSl1, xRev, xNewL, xFC, xXv, xIt, xSeq, nth, R.bd, R.sb, RS.to, R.to, xto, xtoH, xfin, xfinE, xck, frcD_eq, frcD1_eq, frcN_eq, frcI_eq, frcL_eq, frcDs_eq, lay_eq, put_eq, gAdd_i, gAdd_s, gSub_i, gEq_i, gEq_b, gNe_i, gNe_b, gLt_i, gLe_i, gGt_i, gGe_i, gInt_i, gInt_b, gInp_a, gInp_s, gLen_t, gTuple_t, gList_t, asgT, asgL, tyD, Ev.isNon, gRange1_i, Ty.isa, List.getElem?_cons_zero, List.getElem?_cons_succ, List.set_cons_zero, List.set_cons_succ, List.map_cons, List.map_nil, List.cons_append, List.nil_append, List.any_cons, List.any_nil, Option.map_some, Option.map_none, Bool.or_false, Bool.false_or, Bool.or_true, Bool.true_or, Bool.and_true, Bool.true_and, Bool.and_false, Bool.false_and, Bool.not_true, Bool.not_false, Bool.false_eq_true, if_false, if_true, decide_true, decide_false, Int.reduceLT, Int.reduceEq, h1]
  | 2, _ =>
    show (xsIf (xBin gLt (xVar 0) (xLit (.int 4))) (xsAsg (xIte (xBin gEq (xVar 0) (xLit (.int 0))) (xCall rf (xCons (xVar 1) xNil)) (xIte (xBin gEq (xVar 0) (xLit (.int 1))) (xCall rw' (xCons (xVar 1) xNil)) (xIte (xBin gEq (xVar 0) (xLit (.int 2))) (xCall rr (xCons (xVar 1) xNil)) (xCall rm (xCons (xVar 1) xNil))))) (.nm 3)) (xsIf (xBin gLt (xVar 0) (xLit (.int 7))) (xsAsg (xIte (xBin gEq (xVar 0) (xLit (.int 4))) (xCall rp (xCons (xLit (.int 3)) (xCons (xVar 1) xNil))) (xIte (xBin gEq (xVar 0) (xLit (.int 5))) (xCall re (xCons (xLit (.int 2)) (xCons (xVar 1) xNil))) (xCall re (xCons (xLit (.int 3)) (xCons (xVar 1) xNil))))) (.nm 3)) (xsAsg (xCall rg (xCons (xVar 1) xNil)) (.nm 3)))) [some (.int 2), some (.ref k), some .non, some .non, none] h = .ex "Unreadable" (.ref k) [some (.int 2), some (.ref k), some .non, some .non, none] h
    simp only [xsAsg, xsPar, xsIf, xsRet, xsRetN, xsExp, xsSet, xsAug, xsAugS, xsBrk, xsCnt, xsRaise, xsNil, exE, xVar, xLit, xNeg, xIsN, xBin, xChain, xAnd, xOr, xNot, xIte, xNil, xCons, xTup, xLst, xFN, xMt, xIsi, xIsx, xCall, xSl1, xRev, xNewL, xFC, xXv, xIt, xSeq, nth, R.bd, R.sb, RS.to, R.to, xto, xtoH, xfin, xfinE, xck, frcD_eq, frcD1_eq, frcN_eq, frcI_eq, frcL_eq, frcDs_eq, lay_eq, put_eq, gAdd_i, gAdd_s, gSub_i, gEq_i, gEq_b, gNe_i, gNe_b, gLt_i, gLe_i, gGt_i, gGe_i, gInt_i, gInt_b, gInp_a, gInp_s, gLen_t, gTuple_t, gList_t, asgT, asgL, tyD, Ev.isNon, gRange1_i, Ty.isa, List.getElem?_cons_zero, List.getElem?_cons_succ, List.set_cons_zero, List.set_cons_succ, List.map_cons, List.map_nil, List.cons_append, List.nil_append, List.any_cons, List.any_nil, Option.map_some, Option.map_none, Bool.or_false, Bool.false_or, Bool.or_true, Bool.true_or, Bool.and_true, Bool.true_and, Bool.and_false, Bool.false_and, Bool.not_true, Bool.not_false, Bool.false_eq_true, if_false, if_true, decide_true, decide_false, Int.reduceLT, Int.reduceEq, h2]
  | 3, _ =>
    show (xsIf (xBin gLt (xVar 0) (xLit (.int 4))) (xsAsg (xIte (xBin gEq (xVar 0) (xLit (.int 0))) (xCall rf (xCons (xVar 1) xNil)) (xIte (xBin gEq (xVar 0) (xLit (.int 1))) (xCall rw' (xCons (xVar 1) xNil)) (xIte (xBin gEq (xVar 0) (xLit (.int 2))) (xCall rr (xCons (xVar 1) xNil)) (xCall rm (xCons (xVar 1) xNil))))) (.nm 3)) (xsIf (xBin gLt (xVar 0) (xLit (.int 7))) (xsAsg (xIte (xBin gEq (xVar 0) (xLit (.int 4))) (xCall rp (xCons (xLit (.int 3)) (xCons (xVar 1) xNil))) (xIte (xBin gEq (xVar 0) (xLit (.int 5))) (xCall re (xCons (xLit (.int 2)) (xCons (xVar 1) xNil))) (xCall re (xCons (xLit (.int 3)) (xCons (xVar 1) xNil))))) (.nm 3)) (xsAsg (xCall rg (xCons (xVar 1) xNil)) (.nm 3)))) [some (.int 3), some (.ref k), some .non, some .non, none] h = .ex "Unreadable" (.ref k) [some (.int 3), some (.ref k), some .non, some .non, none] h
    simp only [xsAsg, xsPar, xsIf, xsRet, xsRetN, xsExp, xsSet, xsAug, xsAugS, xsBrk, xsCnt, xsRaise, xsNil, exE, xVar, xLit, xNeg, xIsN, xBin, xChain, xAnd, xOr, xNot, xIte, xNil, xCons, xTup, xLst, xFN, xMt, xIsi, xIsx, xCall, xSl1, xRev, xNewL, xFC, xXv, xIt, xSeq, nth, R.bd, R.sb, RS.to, R.to, xto, xtoH, xfin, xfinE, xck, frcD_eq, frcD1_eq, frcN_eq, frcI_eq, frcL_eq, frcDs_eq, lay_eq, put_eq, gAdd_i, gAdd_s, gSub_i, gEq_i, gEq_b, gNe_i, gNe_b, gLt_i, gLe_i, gGt_i, gGe_i, gInt_i, gInt_b, gInp_a, gInp_s, gLen_t, gTuple_t, gList_t, asgT, asgL, tyD, Ev.isNon, gRange1_i, Ty.isa, List.getElem?_cons_zero, List.getElem?_cons_succ, List.set_cons_zero, List.set_cons_succ, List.map_cons, List.map_nil, List.cons_append, List.nil_append, List.any_cons, List.any_nil, Option.map_some, Option.map_none, Bool.or_false, Bool.false_or, Bool.or_true, Bool.true_or, Bool.and_true, Bool.true_and, Bool.and_false, Bool.false_and, Bool.not_true, Bool.not_false, Bool.false_eq_true, if_false, if_true, decide_true, decide_false, Int.reduceLT, Int.reduceEq, h3]
  | 4, _ =>
    show (xsIf (xBin gLt (xVar 0) (xLit (.int 4))) (xsAsg (xIte (xBin gEq (xVar 0) (xLit (.int 0))) (xCall rf (xCons (xVar 1) xNil)) (xIte (xBin gEq (xVar 0) (xLit (.int 1))) (xCall rw' (xCons (xVar 1) xNil)) (xIte (xBin gEq (xVar 0) (xLit (.int 2))) (xCall rr (xCons (xVar 1) xNil)) (xCall rm (xCons (xVar 1) xNil))))) (.nm 3)) (xsIf (xBin gLt (xVar 0) (xLit (.int 7))) (xsAsg (xIte (xBin gEq (xVar 0) (xLit (.int 4))) (xCall rp (xCons (xLit (.int 3)) (xCons (xVar 1) xNil))) (xIte (xBin gEq (xVar 0) (xLit (.int 5))) (xCall re (xCons (xLit (.int 2)) (xCons (xVar 1) xNil))) (xCall re (xCons (xLit (.int 3)) (xCons (xVar 1) xNil))))) (.nm 3)) (xsAsg (xCall rg (xCons (xVar 1) xNil)) (.nm 3)))) [some (.int 4), some (.ref k), some .non, some .non, none] h = .ex "Unreadable" (.ref k) [some (.int 4), some (.ref k), some .non, some .non, none] h
    simp only [xsAsg, xsPar, xsIf, xsRet, xsRetN, xsExp, xsSet, xsAug, xsAugS, xsBrk, xsCnt, xsRaise, xsNil, exE, xVar, xLit, xNeg, xIsN, xBin, xChain, xAnd, xOr, xNot, xIte, xNil, xCons, xTup, xLst, xFN, xMt, xIsi, xIsx, xCall, xSl1, xRev, xNewL, xFC, xXv, xIt, xSeq, nth, R.bd, R.sb, RS.to, R.to, xto, xtoH, xfin, xfinE, xck, frcD_eq, frcD1_eq, frcN_eq, frcI_eq, frcL_eq, frcDs_eq, lay_eq, put_eq, gAdd_i, gAdd_s, gSub_i, gEq_i, gEq_b, gNe_i, gNe_b, gLt_i, gLe_i, gGt_i, gGe_i, gInt_i, gInt_b, gInp_a, gInp_s, gLen_t, gTuple_t, gList_t, asgT, asgL, tyD, Ev.isNon, gRange1_i, Ty.isa, List.getElem?_cons_zero, List.getElem?_cons_succ, List.set_cons_zero, List.set_cons_succ, List.map_cons, List.map_nil, List.cons_append, List.nil_append, List.any_cons, List.any_nil, Option.map_some, Option.map_none, Bool.or_false, Bool.false_or, Bool.or_true, Bool.true_or, Bool.and_true, Bool.true_and, Bool.and_false, Bool.false_and, Bool.not_true, Bool.not_false, Bool.false_eq_true, if_false, if_true, decide_true, decide_false, Int.reduceLT, Int.reduceEq, h4]
  | 5, _ =>
    show (xsIf (xBin gLt (xVar 0) (xLit (.int 4))) (xsAsg (xIte (xBin gEq (xVar 0) (xLit (.int 0))) (xCall rf (xCons (xVar 1) xNil)) (xIte (xBin gEq (xVar 0) (xLit (.int 1))) (xCall rw' (xCons (xVar 1) xNil)) (xIte (xBin gEq (xVar 0) (xLit (.int 2))) (xCall rr (xCons (xVar 1) xNil)) (xCall rm (xCons (xVar 1) xNil))))) (.nm 3)) (xsIf (xBin gLt (xVar 0) (xLit (.int 7))) (xsAsg (xIte (xBin gEq (xVar 0) (xLit (.int 4))) (xCall rp (xCons (xLit (.int 3)) (xCons (xVar 1) xNil))) (xIte (xBin gEq (xVar 0) (xLit (.int 5))) (xCall re (xCons (xLit (.int 2)) (xCons (xVar 1) xNil))) (xCall re (xCons (xLit (.int 3)) (xCons (xVar 1) xNil))))) (.nm 3)) (xsAsg (xCall rg (xCons (xVar 1) xNil)) (.nm 3)))) [some (.int 5), some (.ref k), some .non, some .non, none] h = .ex "Unreadable" (.ref k) [some (.int 5), some (.ref k), some .non, some .non, none] h
    simp only [xsAsg, xsPar, xsIf, xsRet, xsRetN, xsExp, xsSet, xsAug, xsAugS, xsBrk, xsCnt, xsRaise, xsNil, exE, xVar, xLit, xNeg, xIsN, xBin, xChain, xAnd, xOr, xNot, xIte, xNil, xCons, xTup, xLst, xFN, xMt, xIsi, xIsx, xCall, xSl1, xRev, xNewL, xFC, xXv, xIt, xSeq, nth, R.bd, R.sb, RS.to, R.to, xto, xtoH, xfin, xfinE, xck, frcD_eq, frcD1_eq, frcN_eq, frcI_eq, frcL_eq, frcDs_eq, lay_eq, put_eq, gAdd_i, gAdd_s, gSub_i, gEq_i, gEq_b, gNe_i, gNe_b, gLt_i, gLe_i, gGt_i, gGe_i, gInt_i, gInt_b, gInp_a, gInp_s, gLen_t, gTuple_t, gList_t, asgT, asgL, tyD, Ev.isNon, gRange1_i, Ty.isa, List.getElem?_cons_zero, List.getElem?_cons_succ, List.set_cons_zero, List.set_cons_succ, List.map_cons, List.map_nil, List.cons_append, List.nil_append, List.any_cons, List.any_nil, Option.map_some, Option.map_none, Bool.or_false, Bool.false_or, Bool.or_true, Bool.true_or, Bool.and_true, Bool.true_and, Bool.and_false, Bool.false_and, Bool.not_true, Bool.not_false, Bool.false_eq_true, if_false, if_true, decide_true, decide_false, Int.reduceLT, Int.reduceEq, h5]
  | 6, _ =>
    show (xsIf (xBin gLt (xVar 0) (xLit (.int 4))) (xsAsg (xIte (xBin gEq (xVar 0) (xLit (.int 0))) (xCall rf (xCons (xVar 1) xNil)) (xIte (xBin gEq (xVar 0) (xLit (.int 1))) (xCall rw' (xCons (xVar 1) xNil)) (xIte (xBin gEq (xVar 0) (xLit (.int 2))) (xCall rr (xCons (xVar 1) xNil)) (xCall rm (xCons (xVar 1) xNil))))) (.nm 3)) (xsIf (xBin gLt (xVar 0) (xLit (.int 7))) (xsAsg (xIte (xBin gEq (xVar 0) (xLit (.int 4))) (xCall rp (xCons (xLit (.int 3)) (xCons (xVar 1) xNil))) (xIte (xBin gEq (xVar 0) (xLit (.int 5))) (xCall re (xCons (xLit (.int 2)) (xCons (xVar 1) xNil))) (xCall re (xCons (xLit (.int 3)) (xCons (xVar 1) xNil))))) (.nm 3)) (xsAsg (xCall rg (xCons (xVar 1) xNil)) (.nm 3)))) [some (.int 6), some (.ref k), some .non, some .non, none] h = .ex "Unreadable" (.ref k) [some (.int 6), some (.ref k), some .non, some .non, none] h
    simp only [xsAsg, xsPar, xsIf, xsRet, xsRetN, xsExp, xsSet, xsAug, xsAugS, xsBrk, xsCnt, xsRaise, xsNil, exE, xVar, xLit, xNeg, xIsN, xBin, xChain, xAnd, xOr, xNot, xIte, xNil, xCons, xTup, xLst, xFN, xMt, xIsi, xIsx, xCall, xSl1, xRev, xNewL, xFC, xXv, xIt, xSeq, nth, R.bd, R.sb, RS.to, R.to, xto, xtoH, xfin, xfinE, xck, frcD_eq, frcD1_eq, frcN_eq, frcI_eq, frcL_eq, frcDs_eq, lay_eq, put_eq, gAdd_i, gAdd_s, gSub_i, gEq_i, gEq_b, gNe_i, gNe_b, gLt_i, gLe_i, gGt_i, gGe_i, gInt_i, gInt_b, gInp_a, gInp_s, gLen_t, gTuple_t, gList_t, asgT, asgL, tyD, Ev.isNon, gRange1_i, Ty.isa, List.getElem?_cons_zero, List.getElem?_cons_succ, List.set_cons_zero, List.set_cons_succ, List.map_cons, List.map_nil, List.cons_append, List.nil_append, List.any_cons, List.any_nil, Option.map_some, Option.map_none, Bool.or_false, Bool.false_or, Bool.or_true, Bool.true_or, Bool.and_true, Bool.true_and, Bool.and_false, Bool.false_and, Bool.not_true, Bool.not_false, Bool.false_eq_true, if_false, if_true, decide_true, decide_false, Int.reduceLT, Int.reduceEq, h6]
  | 7, _ =>
    show (xsIf (xBin gLt (xVar 0) (xLit (.int 4))) (xsAsg (xIte (xBin gEq (xVar 0) (xLit (.int 0))) (xCall rf (xCons (xVar 1) xNil)) (xIte (xBin gEq (xVar 0) (xLit (.int 1))) (xCall rw' (xCons (xVar 1) xNil)) (xIte (xBin gEq (xVar 0) (xLit (.int 2))) (xCall rr (xCons (xVar 1) xNil)) (xCall rm (xCons (xVar 1) xNil))))) (.nm 3)) (xsIf (xBin gLt (xVar 0) (xLit (.int 7))) (xsAsg (xIte (xBin gEq (xVar 0) (xLit (.int 4))) (xCall rp (xCons (xLit (.int 3)) (xCons (xVar 1) xNil))) (xIte (xBin gEq (xVar 0) (xLit (.int 5))) (xCall re (xCons (xLit (.int 2)) (xCons (xVar 1) xNil))) (xCall re (xCons (xLit (.int 3)) (xCons (xVar 1) xNil))))) (.nm 3)) (xsAsg (xCall rg (xCons (xVar 1) xNil)) (.nm 3)))) [some (.int 7), some (.ref k), some .non, some .non, none] h = .ex "Unreadable" (.ref k) [some (.int 7), some (.ref k), some .non, some .non, none] h
    simp only [xsAsg, xsPar, xsIf, xsRet, xsRetN, xsExp, xsSet, xsAug, xsAugS, xsBrk, xsCnt, xsRaise, xsNil, exE, xVar, xLit, xNeg, xIsN, xBin, xChain, xAnd, xOr, xNot, xIte, xNil, xCons, xTup, xLst, xFN, xMt, xIsi, xIsx, xCall, xSl1, xRev, xNewL, xFC, xXv, xIt, xSeq, nth, R.bd, R.sb, RS.to, R.to, xto, xtoH, xfin, xfinE, xck, frcD_eq, frcD1_eq, frcN_eq, frcI_eq, frcL_eq, frcDs_eq, lay_eq, put_eq, gAdd_i, gAdd_s, gSub_i, gEq_i, gEq_b, gNe_i, gNe_b, gLt_i, gLe_i, gGt_i, gGe_i, gInt_i, gInt_b, gInp_a, gInp_s, gLen_t, gTuple_t, gList_t, asgT, asgL, tyD, Ev.isNon, gRange1_i, Ty.isa, List.getElem?_cons_zero, List.getElem?_cons_succ, List.set_cons_zero, List.set_cons_succ, List.map_cons, List.map_nil, List.cons_append, List.nil_append, List.any_cons, List.any_nil, Option.map_some, Option.map_none, Bool.or_false, Bool.false_or, Bool.or_true, Bool.true_or, Bool.and_true, Bool.true_and, Bool.and_false, Bool.false_and, Bool.not_true, Bool.not_false, Bool.false_eq_true, if_false, if_true, decide_true, decide_false, Int.reduceLT, Int.reduceEq, h7]
theorem read_l {h : VH} {k w : Nat} {ds : List D} (hw : w < 8) (e : lstAt h k = some ds) : x__law_read FF [.int w, .ref k] h = .ok (.ref h.length) (h ++ [.lst [.bl true, .ref k]]) := by
  show ((xsSeq (xsAsg (xTup (xCons (xLit .non) (xCons (xLit .non) xNil))) (.tp (.cons (.nm 2) (.cons (.nm 3) .nil)))) (xsSeq (xsTry (xsIf (xBin gLt (xVar 0) (xLit (.int 4))) (xsAsg (xIte (xBin gEq (xVar 0) (xLit (.int 0))) (xCall (x_read_fraction FF) (xCons (xVar 1) xNil)) (xIte (xBin gEq (xVar 0) (xLit (.int 1))) (xCall (x_read_word FF) (xCons (xVar 1) xNil)) (xIte (xBin gEq (xVar 0) (xLit (.int 2))) (xCall (x_read_row FF) (xCons (xVar 1) xNil)) (xCall (x_read_morphism FF) (xCons (xVar 1) xNil))))) (.nm 3)) (xsIf (xBin gLt (xVar 0) (xLit (.int 7))) (xsAsg (xIte (xBin gEq (xVar 0) (xLit (.int 4))) (xCall (x_read_polynomial FF) (xCons (xLit (.int 3)) (xCons (xVar 1) xNil))) (xIte (xBin gEq (xVar 0) (xLit (.int 5))) (xCall (x_read_equation FF) (xCons (xLit (.int 2)) (xCons (xVar 1) xNil))) (xCall (x_read_equation FF) (xCons (xLit (.int 3)) (xCons (xVar 1) xNil))))) (.nm 3)) (xsAsg (xCall (x_read_regular FF) (xCons (xVar 1) xNil)) (.nm 3)))) sub_DigitsError 4 (xsAsg (xVar 4) (.nm 2))) (xsRet (xIte (xIsN false (xVar 2)) (xLst (xCons (xLst (xCons (xVar 3) xNil)) xNil)) (xLst (xCons (xIsx isi_Unreadable (xVar 2)) (xCons (xXv xcs (xVar 2)) xNil))))))) [some (.int w), some (.ref k), none, none, none] h).fn = _
  rw [xseq_nx (e1 := [some (.int w), some (.ref k), some .non, some .non, none]) (h1 := h) (by simp only [xsAsg, xsPar, xsIf, xsRet, xsRetN, xsExp, xsSet, xsAug, xsAugS, xsBrk, xsCnt, xsRaise, xsNil, exE, xVar, xLit, xNeg, xIsN, xBin, xChain, xAnd, xOr, xNot, xIte, xNil, xCons, xTup, xLst, xFN, xMt, xIsi, xIsx, xCall, xSl1, xRev, xNewL, xFC, xXv, xIt, xSeq, nth, R.bd, R.sb, RS.to, R.to, xto, xtoH, xfin, xfinE, xck, frcD_eq, frcD1_eq, frcN_eq, frcI_eq, frcL_eq, frcDs_eq, lay_eq, put_eq, gAdd_i, gAdd_s, gSub_i, gEq_i, gEq_b, gNe_i, gNe_b, gLt_i, gLe_i, gGt_i, gGe_i, gInt_i, gInt_b, gInp_a, gInp_s, gLen_t, gTuple_t, gList_t, asgT, asgL, tyD, Ev.isNon, gRange1_i, Ty.isa, List.getElem?_cons_zero, List.getElem?_cons_succ, List.set_cons_zero, List.set_cons_succ, List.map_cons, List.map_nil, List.cons_append, List.nil_append, List.any_cons, List.any_nil, Option.map_some, Option.map_none, Bool.or_false, Bool.false_or, Bool.or_true, Bool.true_or, Bool.and_true, Bool.true_and, Bool.and_false, Bool.false_and, Bool.not_true, Bool.not_false, Bool.false_eq_true, if_false, if_true, decide_true, decide_false]; rfl)]
  have i1 : isi_Unreadable "Unreadable" = some true := by decide +kernel
  have i2 : xcs.contains "Unreadable" = true := by decide +kernel
  have l2 : decide (([D.bl true, D.ref k]).length ≤ line) = true := decide_eq_true (by show 2 ≤ 16777216; omega)
  rw [xseq_nx (e1 := [some (.int w), some (.ref k), some (.exn "Unreadable" (.ref k)), some .non, none]) (h1 := h) (suite_l (body_l hw (fr_l e) (wd_l e) (rw_l e) (mo_l e) (po_l e) (eq_l prime_23.1 e) (eq_l prime_23.2 e) (rg_l e)) rfl)]
  simp only [xsAsg, xsPar, xsIf, xsRet, xsRetN, xsExp, xsSet, xsAug, xsAugS, xsBrk, xsCnt, xsRaise, xsNil, exE, xVar, xLit, xNeg, xIsN, xBin, xChain, xAnd, xOr, xNot, xIte, xNil, xCons, xTup, xLst, xFN, xMt, xIsi, xIsx, xCall, xSl1, xRev, xNewL, xFC, xXv, xIt, xSeq, nth, R.bd, R.sb, RS.to, R.to, xto, xtoH, xfin, xfinE, xck, frcD_eq, frcD1_eq, frcN_eq, frcI_eq, frcL_eq, frcDs_eq, lay_eq, put_eq, gAdd_i, gAdd_s, gSub_i, gEq_i, gEq_b, gNe_i, gNe_b, gLt_i, gLe_i, gGt_i, gGe_i, gInt_i, gInt_b, gInp_a, gInp_s, gLen_t, gTuple_t, gList_t, asgT, asgL, tyD, Ev.isNon, gRange1_i, Ty.isa, List.getElem?_cons_zero, List.getElem?_cons_succ, List.set_cons_zero, List.set_cons_succ, List.map_cons, List.map_nil, List.cons_append, List.nil_append, List.any_cons, List.any_nil, Option.map_some, Option.map_none, Bool.or_false, Bool.false_or, Bool.or_true, Bool.true_or, Bool.and_true, Bool.true_and, Bool.and_false, Bool.false_and, Bool.not_true, Bool.not_false, Bool.false_eq_true, if_false, if_true, decide_true, decide_false, i1, i2, l2]
  rfl
end K85

set_option Elab.async false
set_option linter.all false
set_option maxRecDepth 100000
set_option maxHeartbeats 0
set_option profiler true
set_option profiler.threshold 1000
/-! K85e: the law's statements. -/
namespace K85
open PySem PySem.Spec PyProof.Rows L2 NdefX Ev
structure Par where
  ix : Nat → Nat
  tx : Nat → List D
  rok : Nat → D → Prop
  gok : Nat → D → Prop
  fok : D → D → Prop
structure Hs (P : Par) (st sm rd rf : XSp) : Prop where
  txs : ∀ w, w < 8 → 0 < (P.tx w).length ∧ (P.tx w).length ≤ 100 ∧ ∀ x ∈ P.tx w, isStr x = true ∧ P.rok w x
  take : ∀ {h : VH} {kk c : Nat} {many : Int}, PotAt h kk c → c ≤ 1000000 → 0 < many → many.natAbs.log2 < 8000 → ∃ v h', st [.ref kk, .int many] h = .ok (.int v) h' ∧ 0 ≤ v ∧ v < many ∧ Gr kk h h' ∧ PotAt h' kk (c + 1)
  same : ∀ {got due : D} {h : VH}, SameD h 8 got due → sm [got, due] h = .ok (.bl true) h
  read : ∀ {w : Nat} {x : D}, P.rok w x → free x = true → ∀ h, ∃ r g, rd [.int w, x] h = .ok (.ref (h.length + r)) (catV h g) ∧ lstAt (catV h g) (h.length + r) = some [.bl true, x]
  right : ∀ {w : Nat} {x : D}, P.gok w x → free x = true → ∀ h, ∃ r g k, rd [.int w, x] h = .ok (.ref (h.length + r)) (catV h g) ∧ lstAt (catV h g) (h.length + r) = some [.ref k]
  readl : ∀ {h : VH} {k w : Nat} {ds : List D}, w < 8 → lstAt h k = some ds → rd [.int w, .ref k] h = .ok (.ref h.length) (h ++ [Ob.lst [.bl true, .ref k]])
  refused : ∀ {x y : D}, P.fok x y → free x = true → free y = true → ∀ h, ∃ r g, rf [x, y] h = .ok (.ref (h.length + r)) (catV h g) ∧ lstAt (catV h g) (h.length + r) = some [x, x]
section
variable {c d : XE} {a b : XS} {env : Ev.Env} {h h' h'' : VH}
theorem if_nt (e : c env h = .ok (.bl true) h') : xsIf (xNot c) a b env h = b env h' := by
  simp only [xsIf, xNot, e, R.bd, R.sb, frcD1_eq, Bool.not_true]
theorem if_nt_or (e : c env h = .ok (.bl true) h') (e2 : d env h' = .ok (.bl false) h'') : xsIf (xOr (xNot c) d) a b env h = b env h'' := by
  simp only [xsIf, xOr, xNot, e, e2, R.bd, R.sb, frcD1_eq, Bool.not_true]
end
section
variable {P : Par} {st sm rd rf : XSp} (H : Hs P st sm rd rf)
include H
/-- two lists with the same things in them -/
theorem same2 {h : VH} {i j : Nat} {x y x' y' : D} (h1 : lstAt h i = some [x, y]) (h2 : lstAt h j = some [x', y']) (s1 : SameD h 7 x x') (s2 : SameD h 7 y y') : SameD h 8 (.ref i) (.ref j) := by
  refine ⟨i, _, _, rfl, h1, h2, rfl, (by show 2 < 1000000; omega), fun k g d e1 e2 => ?_⟩
  match k with
  | 0 => simp at e1 e2; subst e1 e2; exact s1
  | 1 => simp at e1 e2; subst e1 e2; exact s2
  | k + 2 => simp at e1
theorem l2 {x y : D} : decide ([x, y].length ≤ line) = true := decide_eq_true (by show 2 ≤ 16777216; omega)
/-- a reading of slot s is asked, and is as is due -/
theorem ask {env : Ev.Env} {h : VH} {w s : Nat} {x : D} (h4 : nth env 4 = some (some (.int w))) (hs : nth env s = some (some x)) (hr : P.rok w x) (fx : free x = true) (px : plainD 7 x = true) :
    ∃ h', xCall sm (xCons (xCall rd (xCons (xVar 4) (xCons (xVar s) xNil))) (xCons (xLst (xCons (xLit (.bl true)) (xCons (xVar s) xNil))) xNil)) env h = .ok (.bl true) h' ∧ Up h h' := by
  obtain ⟨r, g, e1, e2⟩ := H.read hr fx h
  refine ⟨catV h g ++ [.lst [.bl true, x]], ?_, Up.trans (Up.cat (g := g)) Up.app⟩
  have q := H.same (same2 H (h := catV h g ++ [.lst [.bl true, x]]) (i := h.length + r) (j := (catV h g).length) (Up.app.lst e2) lstAt_new (same_self (by unfold plainD; rfl)) (same_self px))
  simp only [xCall, xCons, xVar, h4, hs, xNil, R.bd, e1, xLst, xLit, l2 H, xck, lay_eq, frcN_eq, q]
/-- a list with one text, that is no text -/
theorem askl {env : Ev.Env} {h : VH} {w s k : Nat} {z : Str} (hw : w < 8) (h4 : nth env 4 = some (some (.int w))) (hs : nth env s = some (some (.ref k))) (hk : lstAt h k = some [.str z]) :
    ∃ h', xCall sm (xCons (xCall rd (xCons (xVar 4) (xCons (xVar s) xNil))) (xCons (xLst (xCons (xLit (.bl true)) (xCons (xVar s) xNil))) xNil)) env h = .ok (.bl true) h' ∧ Up h h' := by
  have e1 := H.readl hw hk
  refine ⟨(h ++ [Ob.lst [.bl true, .ref k]]) ++ [Ob.lst [.bl true, .ref k]], ?_, Up.trans Up.app Up.app⟩
  have hk2 := (Up.trans (Up.app (g := [Ob.lst [.bl true, .ref k]])) (Up.app (g := [Ob.lst [.bl true, .ref k]]))).lst hk
  have s2 : SameD ((h ++ [Ob.lst [.bl true, .ref k]]) ++ [Ob.lst [.bl true, .ref k]]) 7 (.ref k) (.ref k) := ⟨k, _, _, rfl, hk2, hk2, rfl, (by show 1 < 1000000; omega), fun i g d a1 a2 => by
    match i with
    | 0 => simp at a1 a2; subst a1 a2; exact same_self (by unfold plainD; rfl)
    | i + 1 => simp at a1⟩
  have q := H.same (same2 H (h := (h ++ [Ob.lst [.bl true, .ref k]]) ++ [Ob.lst [.bl true, .ref k]]) (i := h.length) (j := (h ++ [Ob.lst [.bl true, .ref k]]).length) (Up.app.lst lstAt_new) lstAt_new (same_self (by unfold plainD; rfl)) s2)
  simp only [xCall, xCons, xVar, h4, hs, xNil, R.bd, e1, xLst, xLit, l2 H, xck, lay_eq, frcN_eq, q]
end
/-- the heap of the law -/
structure HV (P : Par) (kp kl kr lo : Nat) (h : VH) (c : Nat) : Prop where
  pot : PotAt h kp c
  lots : lstAt h kl = some ((List.range 8).map fun w => .ref (lo + P.ix w))
  txt : ∀ w, w < 8 → lstAt h (lo + P.ix w) = some (P.tx w)
  right : lstAt h kr = some rights
  n1 : kl ≠ kp
  n2 : kr ≠ kp
  n3 : kp < lo
section
variable {P : Par} {kp kl kr lo c c' : Nat} {h h' : VH}
theorem HV.gr (v : HV P kp kl kr lo h c) (g : Gr kp h h') (p : PotAt h' kp c') : HV P kp kl kr lo h' c' := by
  have n := v.n3
  exact ⟨p, g.lst v.lots v.n1, fun w hw => g.lst (v.txt w hw) (by omega), g.lst v.right v.n2, v.n1, v.n2, v.n3⟩
theorem HV.up (v : HV P kp kl kr lo h c) (g : Up h h') : HV P kp kl kr lo h' c := v.gr g.gr (g.pot v.pot)
theorem rng_at {w : Nat} (hw : w < 8) : ((List.range 8).map fun w => D.ref (lo + P.ix w))[w]? = some (.ref (lo + P.ix w)) := by
  rw [List.getElem?_map, List.getElem?_range hw] <;> rfl
end
theorem log_small {i : Int} (h0 : 0 ≤ i) (h : i ≤ 100) : i.natAbs.log2 < 8000 := by
  have : i.natAbs.log2 ≤ i.natAbs := Nat.log2_le_self _
  omega
section
variable {P : Par} {st sm rd rf : XSp} (H : Hs P st sm rd rf)
include H
variable {kp kl kr lo c w : Nat} {h : VH}
/-- text = lots[way][..] -/
theorem text_ok {d a x6 x7 x8 x9 : Option D} (v : HV P kp kl kr lo h c) (hw : w < 8) (hc : c ≤ 1000) : ∃ x h', x ∈ P.tx w ∧ HV P kp kl kr lo h' (c + 1) ∧
    (xsAsg (xBin gIx (xBin gIx (xVar 2) (xVar 4)) (xCall st (xCons (xVar 1) (xCons (xFN gLen (xCons (xBin gIx (xVar 2) (xVar 4)) xNil)) xNil)))) (.nm 6)) [d, some (.ref kp), some (.ref kl), some (.ref kr), some (.int w), a, x6, x7, x8, x9] h = .nx [d, some (.ref kp), some (.ref kl), some (.ref kr), some (.int w), a, some x, x7, x8, x9] h' := by
  obtain ⟨t2, t3, t4⟩ := H.txs w hw
  obtain ⟨z, h', e, z0, z1, g, p⟩ := H.take (many := ((P.tx w).length : Int)) v.pot (by omega) (by omega) (log_small (by omega) (by omega))
  obtain ⟨n, rfl⟩ : ∃ n : Nat, z = n := ⟨z.toNat, by omega⟩
  have hn : n < (P.tx w).length := by omega
  refine ⟨(P.tx w)[n], h', List.getElem_mem hn, v.gr g p, ?_⟩
  have i1 := gIx_l v.lots (atI_nat (rng_at (P := P) (lo := lo) hw))
  have i2 := gLen_l (v.txt w hw)
  have i3 := gIx_l ((v.gr g p).txt w hw) (atI_nat (List.getElem?_eq_getElem hn))
  simp only [xsAsg, xsPar, xsIf, xsRet, xsRetN, xsExp, xsSet, xsAug, xsAugS, xsBrk, xsCnt, xsRaise, xsNil, exE, xVar, xLit, xNeg, xIsN, xBin, xChain, xAnd, xOr, xNot, xIte, xNil, xCons, xTup, xLst, xFN, xMt, xIsi, xIsx, xCall, xSl1, xRev, xNewL, xFC, xXv, xIt, xSeq, nth, R.bd, R.sb, RS.to, R.to, xto, xtoH, xfin, xfinE, xck, frcD_eq, frcD1_eq, frcN_eq, frcI_eq, frcL_eq, frcDs_eq, lay_eq, put_eq, gAdd_i, gAdd_s, gSub_i, gEq_i, gEq_b, gNe_i, gNe_b, gLt_i, gLe_i, gGt_i, gGe_i, gInt_i, gInt_b, gInp_a, gInp_s, gLen_t, gTuple_t, gList_t, asgT, asgL, tyD, Ev.isNon, gRange1_i, Ty.isa, List.getElem?_cons_zero, List.getElem?_cons_succ, List.set_cons_zero, List.set_cons_succ, List.map_cons, List.map_nil, List.cons_append, List.nil_append, List.any_cons, List.any_nil, Option.map_some, Option.map_none, Bool.or_false, Bool.false_or, Bool.or_true, Bool.true_or, Bool.and_true, Bool.true_and, Bool.and_false, Bool.false_and, Bool.not_true, Bool.not_false, Bool.false_eq_true, if_false, if_true, decide_true, decide_false, i1, i2, e, i3]
/-- a turn of the inner loop -/
theorem inner_ok {d a x6 x7 x8 x9 : Option D} (v : HV P kp kl kr lo h c) (hw : w < 8) (hc : c ≤ 1000) : ∃ x h', HV P kp kl kr lo h' (c + 1) ∧
    (xsSeq (xsAsg (xBin gIx (xBin gIx (xVar 2) (xVar 4)) (xCall st (xCons (xVar 1) (xCons (xFN gLen (xCons (xBin gIx (xVar 2) (xVar 4)) xNil)) xNil)))) (.nm 6)) (xsIf (xNot (xCall sm (xCons (xCall rd (xCons (xVar 4) (xCons (xVar 6) xNil))) (xCons (xLst (xCons (xLit (.bl true)) (xCons (xVar 6) xNil))) xNil)))) (xsRet (xLit (.bl false))) xsNil)) [d, some (.ref kp), some (.ref kl), some (.ref kr), some (.int w), a, x6, x7, x8, x9] h = .nx [d, some (.ref kp), some (.ref kl), some (.ref kr), some (.int w), a, some x, x7, x8, x9] h' := by
  obtain ⟨x, h1, hx, v1, e1⟩ := text_ok H (d := d) (a := a) (x6 := x6) (x7 := x7) (x8 := x8) (x9 := x9) v hw hc
  obtain ⟨t2, t3, t4⟩ := H.txs w hw
  obtain ⟨f1, f2⟩ := free_str (t4 x hx).1
  obtain ⟨h2, e2, u⟩ := ask H (env := [d, some (.ref kp), some (.ref kl), some (.ref kr), some (.int w), a, some x, x7, x8, x9]) (h := h1) (w := w) (s := 6) rfl rfl (t4 x hx).2 f1 (f2 6)
  exact ⟨x, h2, v1.up u, by rw [xseq_nx e1, if_nt e2]; rfl⟩
theorem loop_ok {d x5 x6 x7 x8 x9 : Option D} {Dn : ED} (v : HV P kp kl kr lo h c) (hw : w < 8) (hc : c ≤ 9 * w) (hn : ∀ x5 x6 h' c', HV P kp kl kr lo h' c' → c' ≤ 9 * w + 7 → Dn.nx [d, some (.ref kp), some (.ref kl), some (.ref kr), some (.int w), x5, x6, x7, x8, x9] h') :
    ((xsFor FF (xIt gRange1 (xCons (xLit (.int 7)) xNil)) (.nm 5) (xsSeq (xsAsg (xBin gIx (xBin gIx (xVar 2) (xVar 4)) (xCall st (xCons (xVar 1) (xCons (xFN gLen (xCons (xBin gIx (xVar 2) (xVar 4)) xNil)) xNil)))) (.nm 6)) (xsIf (xNot (xCall sm (xCons (xCall rd (xCons (xVar 4) (xCons (xVar 6) xNil))) (xCons (xLst (xCons (xLit (.bl true)) (xCons (xVar 6) xNil))) xNil)))) (xsRet (xLit (.bl false))) xsNil))) [d, some (.ref kp), some (.ref kl), some (.ref kr), some (.int w), x5, x6, x7, x8, x9] h).to Dn := by
  rw [xfor_lit (by decide)]
  generalize hF : FF = F
  have hF : 7 < F := by rw [← hF]; decide
  refine xfor_rng (fun a e h => ∃ x5 x6 c, e = [d, some (.ref kp), some (.ref kl), some (.ref kr), some (.int w), x5, x6, x7, x8, x9] ∧ HV P kp kl kr lo h c ∧ c ≤ 9 * w + a) hF (fun a e h ha hi => ?_) (fun e h hi => ?_) ⟨x5, x6, c, rfl, v, hc⟩
  · obtain ⟨x5, x6, c, rfl, v, hc⟩ := hi
    obtain ⟨x, h', v', e'⟩ := inner_ok H (d := d) (a := some (.int (a : Nat))) (x6 := x6) (x7 := x7) (x8 := x8) (x9 := x9) v hw (by omega)
    refine (congrArg (fun r : RS => r.to _) e').mpr ?_
    exact ⟨_, _, c + 1, rfl, v', by omega⟩
  · obtain ⟨x5, x6, c, rfl, v, hc⟩ := hi
    exact hn _ _ _ _ v hc
end
end K85

set_option Elab.async false
set_option linter.all false
set_option maxRecDepth 100000
set_option maxHeartbeats 0
/-! K85f: the law's statements. -/
namespace K85
open PySem PySem.Spec PyProof.Rows L2 NdefX Ev
/-- what the other texts, the odd values, the right ones, the wrong bases are good for -/
structure H2 (P : Par) : Prop where
  oth : ∀ w v, w < 8 → v < 3 → ∃ s, rights[(w + 2 + v) % 8]? = some (.str s) ∧ P.rok w (.str s)
  odd : ∀ w x, w < 8 → x ∈ odds → P.rok w x
  rig : ∀ w, w < 8 → ∃ s, rights[w]? = some (.str s) ∧ P.gok w (.str s)
  wro : ∀ x y, x ∈ wrongs → y ∈ P.tx 4 → P.fok x y
section
variable {P : Par} {st sm rd rf : XSp} (H : Hs P st sm rd rf) (G : H2 P)
include H G
variable {kp kl kr lo c w : Nat} {h : VH}
theorem other_ok {d x5 x6 x7 x8 x9 : Option D} (v : HV P kp kl kr lo h c) (hw : w < 8) (hc : c ≤ 1000) : ∃ s h', P.rok w (.str s) ∧ HV P kp kl kr lo h' (c + 1) ∧
    (xsAsg (xBin gIx (xVar 3) (xBin gMod (xFN gInt (xCons (xBin gAdd (xBin gAdd (xVar 4) (xLit (.int 2))) (xCall st (xCons (xVar 1) (xCons (xLit (.int 3)) xNil)))) xNil)) (xLit (.int 8)))) (.nm 7)) [d, some (.ref kp), some (.ref kl), some (.ref kr), some (.int w), x5, x6, x7, x8, x9] h = .nx [d, some (.ref kp), some (.ref kl), some (.ref kr), some (.int w), x5, x6, some (.str s), x8, x9] h' := by
  obtain ⟨z, h', e, z0, z1, g, p⟩ := H.take (many := 3) v.pot (by omega) (by omega) (log_small (by omega) (by omega))
  obtain ⟨n, rfl⟩ : ∃ n : Nat, z = n := ⟨z.toNat, by omega⟩
  obtain ⟨s, q1, q2⟩ := G.oth w n hw (by omega)
  have i1 : gIx (.ref kr) (.int (((w : Int) + 2 + (n : Int)) % 8)) h' = some (.val (.str s)) := by
    have : ((w : Int) + 2 + (n : Int)) % 8 = (((w + 2 + n) % 8 : Nat) : Int) := by omega
    rw [this]
    exact gIx_l (v.gr g p).right (atI_nat q1)
  refine ⟨s, h', q2, v.gr g p, ?_⟩
  simp only [xsAsg, xsPar, xsIf, xsRet, xsRetN, xsExp, xsSet, xsAug, xsAugS, xsBrk, xsCnt, xsRaise, xsNil, exE, xVar, xLit, xNeg, xIsN, xBin, xChain, xAnd, xOr, xNot, xIte, xNil, xCons, xTup, xLst, xFN, xMt, xIsi, xIsx, xCall, xSl1, xRev, xNewL, xFC, xXv, xIt, xSeq, nth, R.bd, R.sb, RS.to, R.to, xto, xtoH, xfin, xfinE, xck, frcD_eq, frcD1_eq, frcN_eq, frcI_eq, frcL_eq, frcDs_eq, lay_eq, put_eq, gAdd_i, gAdd_s, gSub_i, gEq_i, gEq_b, gNe_i, gNe_b, gLt_i, gLe_i, gGt_i, gGe_i, gInt_i, gInt_b, gInp_a, gInp_s, gLen_t, gTuple_t, gList_t, asgT, asgL, tyD, Ev.isNon, gRange1_i, Ty.isa, List.getElem?_cons_zero, List.getElem?_cons_succ, List.set_cons_zero, List.set_cons_succ, List.map_cons, List.map_nil, List.cons_append, List.nil_append, List.any_cons, List.any_nil, Option.map_some, Option.map_none, Bool.or_false, Bool.false_or, Bool.or_true, Bool.true_or, Bool.and_true, Bool.true_and, Bool.and_false, Bool.false_and, Bool.not_true, Bool.not_false, Bool.false_eq_true, if_false, if_true, decide_true, decide_false, e, gMod_i (show (0:Int) < 8 by decide), i1]
theorem odd_ok {d x5 x6 x7 x8 x9 : Option D} (v : HV P kp kl kr lo h c) (hw : w < 8) (hc : c ≤ 1000) : ∃ x h', ((x ∈ odds) ∨ ∃ k, x = .ref k ∧ lstAt h' k = some [.str "x"]) ∧ HV P kp kl kr lo h' (c + 1) ∧
    (xsAsg (xBin gIx (xLst (xCons (xLit .non) (xCons (xLit (.int 3)) (xCons (xLit (.bl false)) (xCons (xTup (xCons (xLit (.str "0")) xNil)) (xCons (xLst (xCons (xLit (.str "x")) xNil)) (xCons (xTup (xCons (xLit (.int 1)) (xCons (xLit (.int 2)) xNil))) xNil))))))) (xCall st (xCons (xVar 1) (xCons (xLit (.int 6)) xNil)))) (.nm 8)) [d, some (.ref kp), some (.ref kl), some (.ref kr), some (.int w), x5, x6, x7, x8, x9] h = .nx [d, some (.ref kp), some (.ref kl), some (.ref kr), some (.int w), x5, x6, x7, some x, x9] h' := by
  generalize hos : ([.non, .int 3, .bl false, .tup [.str "0"], .ref h.length, .tup [.int 1, .int 2]] : List D) = os
  have l1 : decide (([D.str "0"]).length ≤ line) = true := decide_eq_true (by show 1 ≤ 16777216; omega)
  have l1' : decide (([D.str "x"]).length ≤ line) = true := decide_eq_true (by show 1 ≤ 16777216; omega)
  have l2' : decide (([D.int 1, D.int 2]).length ≤ line) = true := decide_eq_true (by show 2 ≤ 16777216; omega)
  have l6 : decide (os.length ≤ line) = true := decide_eq_true (by rw [← hos]; show 6 ≤ 16777216; omega)
  have u : Up h ((h ++ [Ob.lst [.str "x"]]) ++ [Ob.lst os]) := Up.trans Up.app Up.app
  have hk : lstAt ((h ++ [Ob.lst [.str "x"]]) ++ [Ob.lst os]) h.length = some [.str "x"] := Up.app.lst lstAt_new
  have ho : lstAt ((h ++ [Ob.lst [.str "x"]]) ++ [Ob.lst os]) (h ++ [Ob.lst [.str "x"]]).length = some os := lstAt_new
  obtain ⟨z, h', e, z0, z1, g, p⟩ := H.take (many := 6) (v.up u).pot (by omega) (by omega) (log_small (by omega) (by omega))
  obtain ⟨n, rfl⟩ : ∃ n : Nat, z = n := ⟨z.toNat, by omega⟩
  have pl : kp < h.length := by
    obtain ⟨_, _, _, _, _, q, _⟩ := v.pot
    exact lstAt_len q
  have ho' := g.lst ho (by rw [List.length_append]; omega)
  have hk' := g.lst hk (by omega)
  have hn : n < os.length := by rw [← hos]; show n < 6; omega
  have i1 := gIx_l ho' (atI_nat (List.getElem?_eq_getElem hn))
  have E1 : (xLst (xCons (xLit .non) (xCons (xLit (.int 3)) (xCons (xLit (.bl false)) (xCons (xTup (xCons (xLit (.str "0")) xNil)) (xCons (xLst (xCons (xLit (.str "x")) xNil)) (xCons (xTup (xCons (xLit (.int 1)) (xCons (xLit (.int 2)) xNil))) xNil))))))) [d, some (.ref kp), some (.ref kl), some (.ref kr), some (.int w), x5, x6, x7, x8, x9] h = .ok (.ref (h ++ [Ob.lst [.str "x"]]).length) ((h ++ [Ob.lst [.str "x"]]) ++ [Ob.lst os]) := by
    simp only [xsAsg, xsPar, xsIf, xsRet, xsRetN, xsExp, xsSet, xsAug, xsAugS, xsBrk, xsCnt, xsRaise, xsNil, exE, xVar, xLit, xNeg, xIsN, xBin, xChain, xAnd, xOr, xNot, xIte, xNil, xCons, xTup, xLst, xFN, xMt, xIsi, xIsx, xCall, xSl1, xRev, xNewL, xFC, xXv, xIt, xSeq, nth, R.bd, R.sb, RS.to, R.to, xto, xtoH, xfin, xfinE, xck, frcD_eq, frcD1_eq, frcN_eq, frcI_eq, frcL_eq, frcDs_eq, lay_eq, put_eq, gAdd_i, gAdd_s, gSub_i, gEq_i, gEq_b, gNe_i, gNe_b, gLt_i, gLe_i, gGt_i, gGe_i, gInt_i, gInt_b, gInp_a, gInp_s, gLen_t, gTuple_t, gList_t, asgT, asgL, tyD, Ev.isNon, gRange1_i, Ty.isa, List.getElem?_cons_zero, List.getElem?_cons_succ, List.set_cons_zero, List.set_cons_succ, List.map_cons, List.map_nil, List.cons_append, List.nil_append, List.any_cons, List.any_nil, Option.map_some, Option.map_none, Bool.or_false, Bool.false_or, Bool.or_true, Bool.true_or, Bool.and_true, Bool.true_and, Bool.and_false, Bool.false_and, Bool.not_true, Bool.not_false, Bool.false_eq_true, if_false, if_true, decide_true, decide_false, l1, l1', l2', hos, l6]
  refine ⟨os[n], h', ?_, (v.up u).gr g p, ?_⟩
  · refine (fun (all : ∀ y, y ∈ os → (y ∈ odds) ∨ ∃ k, y = .ref k ∧ lstAt h' k = some [.str "x"]) => all _ (List.getElem_mem hn)) fun y hm => ?_
    rw [← hos] at hm
    simp only [List.mem_cons, List.not_mem_nil, or_false] at hm
    unfold odds
    rcases hm with q | q | q | q | q | q
    · exact .inl (by rw [q]; simp)
    · exact .inl (by rw [q]; simp)
    · exact .inl (by rw [q]; simp)
    · exact .inl (by rw [q]; simp)
    · exact .inr ⟨_, q, hk'⟩
    · exact .inl (by rw [q]; simp)
  · revert E1
    generalize (xLst (xCons (xLit .non) (xCons (xLit (.int 3)) (xCons (xLit (.bl false)) (xCons (xTup (xCons (xLit (.str "0")) xNil)) (xCons (xLst (xCons (xLit (.str "x")) xNil)) (xCons (xTup (xCons (xLit (.int 1)) (xCons (xLit (.int 2)) xNil))) xNil))))))) = X
    intro E1
    simp only [xsAsg, xsPar, xsIf, xsRet, xsRetN, xsExp, xsSet, xsAug, xsAugS, xsBrk, xsCnt, xsRaise, xsNil, exE, xVar, xLit, xNeg, xIsN, xBin, xChain, xAnd, xOr, xNot, xIte, xNil, xCons, xTup, xLst, xFN, xMt, xIsi, xIsx, xCall, xSl1, xRev, xNewL, xFC, xXv, xIt, xSeq, nth, R.bd, R.sb, RS.to, R.to, xto, xtoH, xfin, xfinE, xck, frcD_eq, frcD1_eq, frcN_eq, frcI_eq, frcL_eq, frcDs_eq, lay_eq, put_eq, gAdd_i, gAdd_s, gSub_i, gEq_i, gEq_b, gNe_i, gNe_b, gLt_i, gLe_i, gGt_i, gGe_i, gInt_i, gInt_b, gInp_a, gInp_s, gLen_t, gTuple_t, gList_t, asgT, asgL, tyD, Ev.isNon, gRange1_i, Ty.isa, List.getElem?_cons_zero, List.getElem?_cons_succ, List.set_cons_zero, List.set_cons_succ, List.map_cons, List.map_nil, List.cons_append, List.nil_append, List.any_cons, List.any_nil, Option.map_some, Option.map_none, Bool.or_false, Bool.false_or, Bool.or_true, Bool.true_or, Bool.and_true, Bool.true_and, Bool.and_false, Bool.false_and, Bool.not_true, Bool.not_false, Bool.false_eq_true, if_false, if_true, decide_true, decide_false, E1, e, i1]
/-- the reading of a right text gives a list of a list -/
theorem rigt_ok {env : Ev.Env} (v : HV P kp kl kr lo h c) (hw : w < 8) (h3 : nth env 3 = some (some (.ref kr))) (h4 : nth env 4 = some (some (.int w))) : ∃ h', Up h h' ∧ (xBin (gIsB false) (xBin gIx (xCall rd (xCons (xVar 4) (xCons (xBin gIx (xVar 3) (xVar 4)) xNil))) (xLit (.int 0))) (xLit (.bl true))) env h = .ok (.bl false) h' := by
  obtain ⟨s, q1, q2⟩ := G.rig w hw
  obtain ⟨r, g, k, e1, e2⟩ := H.right q2 rfl h
  have i1 := gIx_l v.right (atI_nat q1)
  have i2 := gIx_l (i := 0) e2 (by rfl)
  refine ⟨catV h g, Up.cat, ?_⟩
  simp only [xBin, xCall, xCons, xNil, xVar, xLit, xfin, h3, h4, i1, e1, i2, R.bd, frcD_eq, gIsB, Bool.false_eq_true, if_false]
theorem last_ok {d x5 x6 x7 x9 : Option D} {x : D} (v : HV P kp kl kr lo h c) (hw : w < 8) (hx : (x ∈ odds) ∨ ∃ k, x = .ref k ∧ lstAt h k = some [.str "x"]) : ∃ h', Up h h' ∧
    (xsIf (xOr (xNot (xCall sm (xCons (xCall rd (xCons (xVar 4) (xCons (xVar 8) xNil))) (xCons (xLst (xCons (xLit (.bl true)) (xCons (xVar 8) xNil))) xNil)))) (xBin (gIsB false) (xBin gIx (xCall rd (xCons (xVar 4) (xCons (xBin gIx (xVar 3) (xVar 4)) xNil))) (xLit (.int 0))) (xLit (.bl true)))) (xsRet (xLit (.bl false))) xsNil) [d, some (.ref kp), some (.ref kl), some (.ref kr), some (.int w), x5, x6, x7, some x, x9] h = .nx [d, some (.ref kp), some (.ref kl), some (.ref kr), some (.int w), x5, x6, x7, some x, x9] h' := by
  have A : ∃ h', xCall sm (xCons (xCall rd (xCons (xVar 4) (xCons (xVar 8) xNil))) (xCons (xLst (xCons (xLit (.bl true)) (xCons (xVar 8) xNil))) xNil)) [d, some (.ref kp), some (.ref kl), some (.ref kr), some (.int w), x5, x6, x7, some x, x9] h = .ok (.bl true) h' ∧ Up h h' := by
    rcases hx with hx | ⟨k, rfl, hk⟩
    · refine ask H (s := 8) rfl rfl (G.odd w x hw hx) ?_ ?_
      · unfold odds at hx
        simp only [List.mem_cons, List.not_mem_nil, or_false] at hx
        rcases hx with rfl | rfl | rfl | rfl | rfl <;> rfl
      · unfold odds at hx
        simp only [List.mem_cons, List.not_mem_nil, or_false] at hx
        rcases hx with rfl | rfl | rfl | rfl | rfl <;> simp [plainD, plainA]
    · exact askl H (s := 8) hw rfl rfl hk
  obtain ⟨h1, e1, u1⟩ := A
  obtain ⟨h2, u2, e2⟩ := rigt_ok H G (env := [d, some (.ref kp), some (.ref kl), some (.ref kr), some (.int w), x5, x6, x7, some x, x9]) (v.up u1) hw rfl rfl
  exact ⟨h2, u1.trans u2, by rw [if_nt_or e1 e2]; rfl⟩
/-- a turn of the outer loop -/
theorem outer_ok {d x5 x6 x7 x8 x9 : Option D} {Dn : ED} (v : HV P kp kl kr lo h c) (hw : w < 8) (hc : c ≤ 9 * w) (hn : ∀ x5 x6 x7 x8 h' c', HV P kp kl kr lo h' c' → c' ≤ 9 * (w + 1) → Dn.nx [d, some (.ref kp), some (.ref kl), some (.ref kr), some (.int w), x5, x6, x7, x8, x9] h') :
    ((xsSeq (xsFor FF (xIt gRange1 (xCons (xLit (.int 7)) xNil)) (.nm 5) (xsSeq (xsAsg (xBin gIx (xBin gIx (xVar 2) (xVar 4)) (xCall st (xCons (xVar 1) (xCons (xFN gLen (xCons (xBin gIx (xVar 2) (xVar 4)) xNil)) xNil)))) (.nm 6)) (xsIf (xNot (xCall sm (xCons (xCall rd (xCons (xVar 4) (xCons (xVar 6) xNil))) (xCons (xLst (xCons (xLit (.bl true)) (xCons (xVar 6) xNil))) xNil)))) (xsRet (xLit (.bl false))) xsNil))) (xsSeq (xsAsg (xBin gIx (xVar 3) (xBin gMod (xFN gInt (xCons (xBin gAdd (xBin gAdd (xVar 4) (xLit (.int 2))) (xCall st (xCons (xVar 1) (xCons (xLit (.int 3)) xNil)))) xNil)) (xLit (.int 8)))) (.nm 7)) (xsSeq (xsIf (xNot (xCall sm (xCons (xCall rd (xCons (xVar 4) (xCons (xVar 7) xNil))) (xCons (xLst (xCons (xLit (.bl true)) (xCons (xVar 7) xNil))) xNil)))) (xsRet (xLit (.bl false))) xsNil) (xsSeq (xsAsg (xBin gIx (xLst (xCons (xLit .non) (xCons (xLit (.int 3)) (xCons (xLit (.bl false)) (xCons (xTup (xCons (xLit (.str "0")) xNil)) (xCons (xLst (xCons (xLit (.str "x")) xNil)) (xCons (xTup (xCons (xLit (.int 1)) (xCons (xLit (.int 2)) xNil))) xNil))))))) (xCall st (xCons (xVar 1) (xCons (xLit (.int 6)) xNil)))) (.nm 8)) (xsIf (xOr (xNot (xCall sm (xCons (xCall rd (xCons (xVar 4) (xCons (xVar 8) xNil))) (xCons (xLst (xCons (xLit (.bl true)) (xCons (xVar 8) xNil))) xNil)))) (xBin (gIsB false) (xBin gIx (xCall rd (xCons (xVar 4) (xCons (xBin gIx (xVar 3) (xVar 4)) xNil))) (xLit (.int 0))) (xLit (.bl true)))) (xsRet (xLit (.bl false))) xsNil))))) [d, some (.ref kp), some (.ref kl), some (.ref kr), some (.int w), x5, x6, x7, x8, x9] h).to Dn := by
  refine xseq_ fun D' n1 n2 n3 n4 n5 => ?_
  refine loop_ok H v hw hc fun x5 x6 h c v hc => ?_
  rw [n1]
  obtain ⟨s, h1, q1, v1, e1⟩ := other_ok H G (d := d) (x5 := x5) (x6 := x6) (x7 := x7) (x8 := x8) (x9 := x9) v hw (by omega)
  obtain ⟨h2, e2, u2⟩ := ask H (env := [d, some (.ref kp), some (.ref kl), some (.ref kr), some (.int w), x5, x6, some (.str s), x8, x9]) (h := h1) (w := w) (s := 7) rfl rfl q1 rfl (by unfold plainD; rfl)
  obtain ⟨x, h3, q3, v3, e3⟩ := odd_ok H G (d := d) (x5 := x5) (x6 := x6) (x7 := some (.str s)) (x8 := x8) (x9 := x9) (v1.up u2) hw (by omega)
  obtain ⟨h4, u4, e4⟩ := last_ok H G (d := d) (x5 := x5) (x6 := x6) (x7 := some (.str s)) (x9 := x9) v3 hw q3
  rw [xseq_nx e1, xseq_nx (show (xsIf (xNot (xCall sm (xCons (xCall rd (xCons (xVar 4) (xCons (xVar 7) xNil))) (xCons (xLst (xCons (xLit (.bl true)) (xCons (xVar 7) xNil))) xNil)))) (xsRet (xLit (.bl false))) xsNil) _ _ = .nx _ h2 from if_nt e2), xseq_nx e3, e4]
  exact hn _ _ _ _ _ _ (v3.up u4) (by omega)
theorem loops_ok {d x4 x5 x6 x7 x8 x9 : Option D} {Dn : ED} (v : HV P kp kl kr lo h 0) (hn : ∀ x4 x5 x6 x7 x8 h' c', HV P kp kl kr lo h' c' → c' ≤ 72 → Dn.nx [d, some (.ref kp), some (.ref kl), some (.ref kr), x4, x5, x6, x7, x8, x9] h') :
    ((xsFor FF (xIt gRange1 (xCons (xLit (.int 8)) xNil)) (.nm 4) (xsSeq (xsFor FF (xIt gRange1 (xCons (xLit (.int 7)) xNil)) (.nm 5) (xsSeq (xsAsg (xBin gIx (xBin gIx (xVar 2) (xVar 4)) (xCall st (xCons (xVar 1) (xCons (xFN gLen (xCons (xBin gIx (xVar 2) (xVar 4)) xNil)) xNil)))) (.nm 6)) (xsIf (xNot (xCall sm (xCons (xCall rd (xCons (xVar 4) (xCons (xVar 6) xNil))) (xCons (xLst (xCons (xLit (.bl true)) (xCons (xVar 6) xNil))) xNil)))) (xsRet (xLit (.bl false))) xsNil))) (xsSeq (xsAsg (xBin gIx (xVar 3) (xBin gMod (xFN gInt (xCons (xBin gAdd (xBin gAdd (xVar 4) (xLit (.int 2))) (xCall st (xCons (xVar 1) (xCons (xLit (.int 3)) xNil)))) xNil)) (xLit (.int 8)))) (.nm 7)) (xsSeq (xsIf (xNot (xCall sm (xCons (xCall rd (xCons (xVar 4) (xCons (xVar 7) xNil))) (xCons (xLst (xCons (xLit (.bl true)) (xCons (xVar 7) xNil))) xNil)))) (xsRet (xLit (.bl false))) xsNil) (xsSeq (xsAsg (xBin gIx (xLst (xCons (xLit .non) (xCons (xLit (.int 3)) (xCons (xLit (.bl false)) (xCons (xTup (xCons (xLit (.str "0")) xNil)) (xCons (xLst (xCons (xLit (.str "x")) xNil)) (xCons (xTup (xCons (xLit (.int 1)) (xCons (xLit (.int 2)) xNil))) xNil))))))) (xCall st (xCons (xVar 1) (xCons (xLit (.int 6)) xNil)))) (.nm 8)) (xsIf (xOr (xNot (xCall sm (xCons (xCall rd (xCons (xVar 4) (xCons (xVar 8) xNil))) (xCons (xLst (xCons (xLit (.bl true)) (xCons (xVar 8) xNil))) xNil)))) (xBin (gIsB false) (xBin gIx (xCall rd (xCons (xVar 4) (xCons (xBin gIx (xVar 3) (xVar 4)) xNil))) (xLit (.int 0))) (xLit (.bl true)))) (xsRet (xLit (.bl false))) xsNil)))))) [d, some (.ref kp), some (.ref kl), some (.ref kr), x4, x5, x6, x7, x8, x9] h).to Dn := by
  rw [xfor_lit (by decide)]
  have hF : 8 < FF := by decide
  refine xfor_rng (fun a e h => ∃ x4 x5 x6 x7 x8 c, e = [d, some (.ref kp), some (.ref kl), some (.ref kr), x4, x5, x6, x7, x8, x9] ∧ HV P kp kl kr lo h c ∧ c ≤ 9 * a) hF (fun a e h ha hi => ?_) (fun e h hi => ?_) ⟨x4, x5, x6, x7, x8, 0, rfl, v, by omega⟩
  · obtain ⟨x4, x5, x6, x7, x8, c, rfl, v, hc⟩ := hi
    exact outer_ok H G v ha hc fun x5 x6 x7 x8 h' c' v' hc' => ⟨_, _, _, _, _, c', rfl, v', hc'⟩
  · obtain ⟨x4, x5, x6, x7, x8, c, rfl, v, hc⟩ := hi
    exact hn _ _ _ _ _ _ _ v hc
/-- the end -/
theorem wrong_ok {d x4 x5 x6 x7 x8 x9 : Option D} (v : HV P kp kl kr lo h c) (hc : c ≤ 1000) : ∃ x h', x ∈ wrongs ∧ HV P kp kl kr lo h' (c + 1) ∧
    (xsAsg (xBin gIx (xLst (xCons (xLit (.int 4)) (xCons (xLit (.int 1)) (xCons (xLit (.int 0)) (xCons (xLit .non) (xCons (xLit (.bl true)) (xCons (xLit (.str "2")) (xCons (xLit (.int 7)) (xCons (xTup (xCons (xLit (.int 2)) xNil)) xNil))))))))) (xCall st (xCons (xVar 1) (xCons (xLit (.int 8)) xNil)))) (.nm 9)) [d, some (.ref kp), some (.ref kl), some (.ref kr), x4, x5, x6, x7, x8, x9] h = .nx [d, some (.ref kp), some (.ref kl), some (.ref kr), x4, x5, x6, x7, x8, some x] h' := by
  have l1 : decide (([D.int 2]).length ≤ line) = true := decide_eq_true (by show 1 ≤ 16777216; omega)
  have l8 : decide (wrongs.length ≤ line) = true := decide_eq_true (by show 8 ≤ 16777216; omega)
  have u : Up h (h ++ [Ob.lst wrongs]) := Up.app
  obtain ⟨z, h', e, z0, z1, g, p⟩ := H.take (many := 8) (v.up u).pot (by omega) (by omega) (log_small (by omega) (by omega))
  obtain ⟨n, rfl⟩ : ∃ n : Nat, z = n := ⟨z.toNat, by omega⟩
  have pl : kp < h.length := by
    obtain ⟨_, _, _, _, _, q, _⟩ := v.pot
    exact lstAt_len q
  have hn : n < wrongs.length := by show n < 8; omega
  have i1 := gIx_l (g.lst (lstAt_new (h := h) (ds := wrongs) (g := [])) (by omega)) (atI_nat (List.getElem?_eq_getElem hn))
  have E1 : (xLst (xCons (xLit (.int 4)) (xCons (xLit (.int 1)) (xCons (xLit (.int 0)) (xCons (xLit .non) (xCons (xLit (.bl true)) (xCons (xLit (.str "2")) (xCons (xLit (.int 7)) (xCons (xTup (xCons (xLit (.int 2)) xNil)) xNil))))))))) [d, some (.ref kp), some (.ref kl), some (.ref kr), x4, x5, x6, x7, x8, x9] h = .ok (.ref h.length) (h ++ [Ob.lst wrongs]) := by
    have l8' : decide (([.int 4, .int 1, .int 0, .non, .bl true, .str "2", .int 7, .tup [.int 2]] : List D).length ≤ line) = true := l8
    simp only [xsAsg, xsPar, xsIf, xsRet, xsRetN, xsExp, xsSet, xsAug, xsAugS, xsBrk, xsCnt, xsRaise, xsNil, exE, xVar, xLit, xNeg, xIsN, xBin, xChain, xAnd, xOr, xNot, xIte, xNil, xCons, xTup, xLst, xFN, xMt, xIsi, xIsx, xCall, xSl1, xRev, xNewL, xFC, xXv, xIt, xSeq, nth, R.bd, R.sb, RS.to, R.to, xto, xtoH, xfin, xfinE, xck, frcD_eq, frcD1_eq, frcN_eq, frcI_eq, frcL_eq, frcDs_eq, lay_eq, put_eq, gAdd_i, gAdd_s, gSub_i, gEq_i, gEq_b, gNe_i, gNe_b, gLt_i, gLe_i, gGt_i, gGe_i, gInt_i, gInt_b, gInp_a, gInp_s, gLen_t, gTuple_t, gList_t, asgT, asgL, tyD, Ev.isNon, gRange1_i, Ty.isa, List.getElem?_cons_zero, List.getElem?_cons_succ, List.set_cons_zero, List.set_cons_succ, List.map_cons, List.map_nil, List.cons_append, List.nil_append, List.any_cons, List.any_nil, Option.map_some, Option.map_none, Bool.or_false, Bool.false_or, Bool.or_true, Bool.true_or, Bool.and_true, Bool.true_and, Bool.and_false, Bool.false_and, Bool.not_true, Bool.not_false, Bool.false_eq_true, if_false, if_true, decide_true, decide_false, l1, l8']
    rfl
  refine ⟨wrongs[n], h', List.getElem_mem hn, (v.up u).gr g p, ?_⟩
  revert E1
  generalize (xLst (xCons (xLit (.int 4)) (xCons (xLit (.int 1)) (xCons (xLit (.int 0)) (xCons (xLit .non) (xCons (xLit (.bl true)) (xCons (xLit (.str "2")) (xCons (xLit (.int 7)) (xCons (xTup (xCons (xLit (.int 2)) xNil)) xNil))))))))) = X
  intro E1
  simp only [xsAsg, xsPar, xsIf, xsRet, xsRetN, xsExp, xsSet, xsAug, xsAugS, xsBrk, xsCnt, xsRaise, xsNil, exE, xVar, xLit, xNeg, xIsN, xBin, xChain, xAnd, xOr, xNot, xIte, xNil, xCons, xTup, xLst, xFN, xMt, xIsi, xIsx, xCall, xSl1, xRev, xNewL, xFC, xXv, xIt, xSeq, nth, R.bd, R.sb, RS.to, R.to, xto, xtoH, xfin, xfinE, xck, frcD_eq, frcD1_eq, frcN_eq, frcI_eq, frcL_eq, frcDs_eq, lay_eq, put_eq, gAdd_i, gAdd_s, gSub_i, gEq_i, gEq_b, gNe_i, gNe_b, gLt_i, gLe_i, gGt_i, gGe_i, gInt_i, gInt_b, gInp_a, gInp_s, gLen_t, gTuple_t, gList_t, asgT, asgL, tyD, Ev.isNon, gRange1_i, Ty.isa, List.getElem?_cons_zero, List.getElem?_cons_succ, List.set_cons_zero, List.set_cons_succ, List.map_cons, List.map_nil, List.cons_append, List.nil_append, List.any_cons, List.any_nil, Option.map_some, Option.map_none, Bool.or_false, Bool.false_or, Bool.or_true, Bool.true_or, Bool.and_true, Bool.true_and, Bool.and_false, Bool.false_and, Bool.not_true, Bool.not_false, Bool.false_eq_true, if_false, if_true, decide_true, decide_false, E1, e, i1]
theorem end_ok {d x4 x5 x6 x7 x8 : Option D} {x : D} (hx : x ∈ wrongs) (v : HV P kp kl kr lo h c) (hc : c ≤ 1000) : ∃ h', (xsRet (xCall sm (xCons (xCall rf (xCons (xVar 9) (xCons (xBin gIx (xBin gIx (xVar 2) (xLit (.int 4))) (xCall st (xCons (xVar 1) (xCons (xFN gLen (xCons (xBin gIx (xVar 2) (xLit (.int 4))) xNil)) xNil)))) xNil))) (xCons (xLst (xCons (xVar 9) (xCons (xVar 9) xNil))) xNil)))) [d, some (.ref kp), some (.ref kl), some (.ref kr), x4, x5, x6, x7, x8, some x] h = .rt (.bl true) h' := by
  obtain ⟨t2, t3, t4⟩ := H.txs 4 (by omega)
  obtain ⟨z, h1, e, z0, z1, g, p⟩ := H.take (many := ((P.tx 4).length : Int)) v.pot (by omega) (by omega) (log_small (by omega) (by omega))
  obtain ⟨n, rfl⟩ : ∃ n : Nat, z = n := ⟨z.toNat, by omega⟩
  have hn : n < (P.tx 4).length := by omega
  have i1 := gIx_l v.lots (atI_nat (rng_at (P := P) (lo := lo) (w := 4) (by omega)))
  have i2 := gLen_l (v.txt 4 (by omega))
  have i3 := gIx_l ((v.gr g p).txt 4 (by omega)) (atI_nat (List.getElem?_eq_getElem hn))
  have hm : (P.tx 4)[n] ∈ P.tx 4 := List.getElem_mem hn
  have fx : free x = true ∧ plainD 7 x = true := by
    unfold wrongs at hx
    simp only [List.mem_cons, List.not_mem_nil, or_false] at hx
    rcases hx with rfl | rfl | rfl | rfl | rfl | rfl | rfl | rfl <;> exact ⟨rfl, by simp [plainD, plainA]⟩
  obtain ⟨r, g', e1, e2⟩ := H.refused (G.wro x _ hx hm) fx.1 (free_str (t4 _ hm).1).1 h1
  have q := H.same (same2 H (h := catV h1 g' ++ [Ob.lst [x, x]]) (i := h1.length + r) (j := (catV h1 g').length) (Up.app.lst e2) lstAt_new (same_self fx.2) (same_self fx.2))
  have i1' : gIx (.ref kl) (.int 4) h = some (.val (.ref (lo + P.ix 4))) := i1
  refine ⟨catV h1 g' ++ [Ob.lst [x, x]], ?_⟩
  simp only [xsAsg, xsPar, xsIf, xsRet, xsRetN, xsExp, xsSet, xsAug, xsAugS, xsBrk, xsCnt, xsRaise, xsNil, exE, xVar, xLit, xNeg, xIsN, xBin, xChain, xAnd, xOr, xNot, xIte, xNil, xCons, xTup, xLst, xFN, xMt, xIsi, xIsx, xCall, xSl1, xRev, xNewL, xFC, xXv, xIt, xSeq, nth, R.bd, R.sb, RS.to, R.to, xto, xtoH, xfin, xfinE, xck, frcD_eq, frcD1_eq, frcN_eq, frcI_eq, frcL_eq, frcDs_eq, lay_eq, put_eq, gAdd_i, gAdd_s, gSub_i, gEq_i, gEq_b, gNe_i, gNe_b, gLt_i, gLe_i, gGt_i, gGe_i, gInt_i, gInt_b, gInp_a, gInp_s, gLen_t, gTuple_t, gList_t, asgT, asgL, tyD, Ev.isNon, gRange1_i, Ty.isa, List.getElem?_cons_zero, List.getElem?_cons_succ, List.set_cons_zero, List.set_cons_succ, List.map_cons, List.map_nil, List.cons_append, List.nil_append, List.any_cons, List.any_nil, Option.map_some, Option.map_none, Bool.or_false, Bool.false_or, Bool.or_true, Bool.true_or, Bool.and_true, Bool.true_and, Bool.and_false, Bool.false_and, Bool.not_true, Bool.not_false, Bool.false_eq_true, if_false, if_true, decide_true, decide_false, i1', i2, e, i3, e1, l2 H, q]
end
end K85

set_option Elab.async false
set_option linter.all false
set_option maxRecDepth 100000
set_option maxHeartbeats 0
/-! K85g: the law answers True. -/
namespace K85
open PySem PySem.Spec PyProof.Rows L2 NdefX Ev
noncomputable def par : Par := ⟨lotIx, lotTx, fun w x => readOk w x = true, fun w x => rightOk w x = true, fun x y => refOk x y = true⟩
theorem hs : Hs par (x__law_take FF) (x__law_same FF 8) (x__law_read FF) (x__law_refused FF) where
  txs := fun w hw => ⟨(all_lots hw).2.1, (all_lots hw).2.2.1, fun x hx => ⟨(all_lots hw).2.2.2 x hx, all_read hw x hx⟩⟩
  take := fun a b c d => xtake_eq a b c d
  same := fun s => same_ok s
  read := fun a b h => read_eq a b h
  right := fun a b h => right_eq a b h
  readl := fun a b => read_l a b
  refused := fun a b c h => refused_eq a b c h
theorem rights_str : ∀ n, n < 8 → ∃ s, rights[n]? = some (.str s)
  | 0, _ => ⟨_, rfl⟩
  | 1, _ => ⟨_, rfl⟩
  | 2, _ => ⟨_, rfl⟩
  | 3, _ => ⟨_, rfl⟩
  | 4, _ => ⟨_, rfl⟩
  | 5, _ => ⟨_, rfl⟩
  | 6, _ => ⟨_, rfl⟩
  | 7, _ => ⟨_, rfl⟩
  | n + 8, h => absurd h (by omega)
theorem getD_of {n : Nat} {d : D} (e : rights[n]? = some d) : rights.getD n .non = d := by
  rw [List.getD_eq_getElem?_getD, e] <;> rfl
theorem h2 : H2 par where
  oth := fun w v hw hv => by
    obtain ⟨s, e⟩ := rights_str ((w + 2 + v) % 8) (by omega)
    refine ⟨s, e, ?_⟩
    have q := List.all_eq_true.mp (List.all_eq_true.mp others w (List.mem_range.mpr hw)) v (by simp only [List.mem_cons, List.not_mem_nil, or_false]; omega)
    rw [getD_of e] at q
    exact q
  odd := fun w x hw hx => List.all_eq_true.mp (List.all_eq_true.mp odd8 w (List.mem_range.mpr hw)) x hx
  rig := fun w hw => by
    obtain ⟨s, e⟩ := rights_str w hw
    refine ⟨s, e, ?_⟩
    have q := List.all_eq_true.mp right8 w (List.mem_range.mpr hw)
    rw [getD_of e] at q
    exact q
  wro := fun x y hx hy => List.all_eq_true.mp (List.all_eq_true.mp refs x hx) y hy
theorem lots_len {w : Nat} (hw : w < 8) : lotIx w < lotsG.length := lstAt_len (all_lots hw).1
theorem shfA_refs {n : Nat} {f : Nat → Nat} : ∀ l : List Nat, shfA n (l.map fun w => D.ref (f w)) = l.map fun w => .ref (n + f w)
  | [] => rfl
  | a :: l => by
    show D.ref (n + f a) :: shfA n (l.map fun w => D.ref (f w)) = _
    rw [shfA_refs l] <;> rfl
theorem freeA_strs : ∀ {l : List D}, (∀ x ∈ l, isStr x = true) → freeA l = true
  | [], _ => rfl
  | a :: l, h => freeA_cons (free_str (h a (by simp))).1 (freeA_strs fun x hx => h x (by simp [hx]))
/-- the heap behind the first three statements -/
theorem start_ok {kp : Nat} {h1 : VH} (hp : PotAt h1 kp 0) : HV par kp (h1.length + lotsK) (catV h1 lotsG).length h1.length (catV h1 lotsG ++ [Ob.lst rights]) 0 := by
  have hk : kp < h1.length := by
    obtain ⟨_, _, _, _, _, q, _⟩ := hp
    exact lstAt_len q
  have u : Up h1 (catV h1 lotsG ++ [Ob.lst rights]) := Up.trans (Up.cat (g := lotsG)) Up.app
  have ll : h1.length ≤ (catV h1 lotsG).length := (Up.cat (h := h1) (g := lotsG)).len
  refine ⟨u.pot hp, ?_, fun w hw => ?_, lstAt_new, by omega, by omega, hk⟩
  · have e := lstAt_cat (h := h1) (optIs_ok lots2)
    rw [shfA_refs] at e
    exact Up.app.lst e
  · have e := lstAt_cat (h := h1) (all_lots hw).1
    rw [shfA_free (freeA_strs (all_lots hw).2.2.2)] at e
    exact Up.app.lst e
theorem law_s {st sm rd rf po lo' : XSp} (H : Hs par st sm rd rf) {d : D} {h : VH} {Q : PQ} {E : PX} {kp : Nat} {h1 : VH} (hpo : po [d] h = .ok (.ref kp) h1) (hp : PotAt h1 kp 0) (hlo : lo' [] h1 = .ok (.ref (h1.length + lotsK)) (catV h1 lotsG)) (hQ : ∀ h', Q (.bl true) h') :
    ((xsSeq (xsAsg (xCall po (xCons (xVar 0) xNil)) (.nm 1)) (xsSeq (xsAsg (xCall lo' xNil) (.nm 2)) (xsSeq (xsAsg (xLst (xCons (xLit (.str "1/2")) (xCons (xLit (.str "-")) (xCons (xLit (.str "2: 0,0=0")) (xCons (xLit (.str "2: 0.0 | 5")) (xCons (xLit (.str "1+x")) (xCons (xLit (.str "(1)F")) (xCons (xLit (.str "(2)F^3")) (xCons (xLit (.str "2: - | -; - | -")) xNil))))))))) (.nm 3)) (xsSeq (xsFor FF (xIt gRange1 (xCons (xLit (.int 8)) xNil)) (.nm 4) (xsSeq (xsFor FF (xIt gRange1 (xCons (xLit (.int 7)) xNil)) (.nm 5) (xsSeq (xsAsg (xBin gIx (xBin gIx (xVar 2) (xVar 4)) (xCall st (xCons (xVar 1) (xCons (xFN gLen (xCons (xBin gIx (xVar 2) (xVar 4)) xNil)) xNil)))) (.nm 6)) (xsIf (xNot (xCall sm (xCons (xCall rd (xCons (xVar 4) (xCons (xVar 6) xNil))) (xCons (xLst (xCons (xLit (.bl true)) (xCons (xVar 6) xNil))) xNil)))) (xsRet (xLit (.bl false))) xsNil))) (xsSeq (xsAsg (xBin gIx (xVar 3) (xBin gMod (xFN gInt (xCons (xBin gAdd (xBin gAdd (xVar 4) (xLit (.int 2))) (xCall st (xCons (xVar 1) (xCons (xLit (.int 3)) xNil)))) xNil)) (xLit (.int 8)))) (.nm 7)) (xsSeq (xsIf (xNot (xCall sm (xCons (xCall rd (xCons (xVar 4) (xCons (xVar 7) xNil))) (xCons (xLst (xCons (xLit (.bl true)) (xCons (xVar 7) xNil))) xNil)))) (xsRet (xLit (.bl false))) xsNil) (xsSeq (xsAsg (xBin gIx (xLst (xCons (xLit .non) (xCons (xLit (.int 3)) (xCons (xLit (.bl false)) (xCons (xTup (xCons (xLit (.str "0")) xNil)) (xCons (xLst (xCons (xLit (.str "x")) xNil)) (xCons (xTup (xCons (xLit (.int 1)) (xCons (xLit (.int 2)) xNil))) xNil))))))) (xCall st (xCons (xVar 1) (xCons (xLit (.int 6)) xNil)))) (.nm 8)) (xsIf (xOr (xNot (xCall sm (xCons (xCall rd (xCons (xVar 4) (xCons (xVar 8) xNil))) (xCons (xLst (xCons (xLit (.bl true)) (xCons (xVar 8) xNil))) xNil)))) (xBin (gIsB false) (xBin gIx (xCall rd (xCons (xVar 4) (xCons (xBin gIx (xVar 3) (xVar 4)) xNil))) (xLit (.int 0))) (xLit (.bl true)))) (xsRet (xLit (.bl false))) xsNil)))))) (xsSeq (xsAsg (xBin gIx (xLst (xCons (xLit (.int 4)) (xCons (xLit (.int 1)) (xCons (xLit (.int 0)) (xCons (xLit .non) (xCons (xLit (.bl true)) (xCons (xLit (.str "2")) (xCons (xLit (.int 7)) (xCons (xTup (xCons (xLit (.int 2)) xNil)) xNil))))))))) (xCall st (xCons (xVar 1) (xCons (xLit (.int 8)) xNil)))) (.nm 9)) (xsRet (xCall sm (xCons (xCall rf (xCons (xVar 9) (xCons (xBin gIx (xBin gIx (xVar 2) (xLit (.int 4))) (xCall st (xCons (xVar 1) (xCons (xFN gLen (xCons (xBin gIx (xVar 2) (xLit (.int 4))) xNil)) xNil)))) xNil))) (xCons (xLst (xCons (xVar 9) (xCons (xVar 9) xNil))) xNil))))))))) [some d, none, none, none, none, none, none, none, none, none] h).to (fnD Q E) := by
  have l8 : decide (rights.length ≤ line) = true := decide_eq_true (by show 8 ≤ 16777216; omega)
  rw [xseq_nx (e1 := [some d, some (.ref kp), none, none, none, none, none, none, none, none]) (h1 := h1) (by simp only [xsAsg, xsPar, xsIf, xsRet, xsRetN, xsExp, xsSet, xsAug, xsAugS, xsBrk, xsCnt, xsRaise, xsNil, exE, xVar, xLit, xNeg, xIsN, xBin, xChain, xAnd, xOr, xNot, xIte, xNil, xCons, xTup, xLst, xFN, xMt, xIsi, xIsx, xCall, xSl1, xRev, xNewL, xFC, xXv, xIt, xSeq, nth, R.bd, R.sb, RS.to, R.to, xto, xtoH, xfin, xfinE, xck, frcD_eq, frcD1_eq, frcN_eq, frcI_eq, frcL_eq, frcDs_eq, lay_eq, put_eq, gAdd_i, gAdd_s, gSub_i, gEq_i, gEq_b, gNe_i, gNe_b, gLt_i, gLe_i, gGt_i, gGe_i, gInt_i, gInt_b, gInp_a, gInp_s, gLen_t, gTuple_t, gList_t, asgT, asgL, tyD, Ev.isNon, gRange1_i, Ty.isa, List.getElem?_cons_zero, List.getElem?_cons_succ, List.set_cons_zero, List.set_cons_succ, List.map_cons, List.map_nil, List.cons_append, List.nil_append, List.any_cons, List.any_nil, Option.map_some, Option.map_none, Bool.or_false, Bool.false_or, Bool.or_true, Bool.true_or, Bool.and_true, Bool.true_and, Bool.and_false, Bool.false_and, Bool.not_true, Bool.not_false, Bool.false_eq_true, if_false, if_true, decide_true, decide_false, hpo])]
  rw [xseq_nx (e1 := [some d, some (.ref kp), some (.ref (h1.length + lotsK)), none, none, none, none, none, none, none]) (h1 := catV h1 lotsG) (by simp only [xsAsg, xsPar, xsIf, xsRet, xsRetN, xsExp, xsSet, xsAug, xsAugS, xsBrk, xsCnt, xsRaise, xsNil, exE, xVar, xLit, xNeg, xIsN, xBin, xChain, xAnd, xOr, xNot, xIte, xNil, xCons, xTup, xLst, xFN, xMt, xIsi, xIsx, xCall, xSl1, xRev, xNewL, xFC, xXv, xIt, xSeq, nth, R.bd, R.sb, RS.to, R.to, xto, xtoH, xfin, xfinE, xck, frcD_eq, frcD1_eq, frcN_eq, frcI_eq, frcL_eq, frcDs_eq, lay_eq, put_eq, gAdd_i, gAdd_s, gSub_i, gEq_i, gEq_b, gNe_i, gNe_b, gLt_i, gLe_i, gGt_i, gGe_i, gInt_i, gInt_b, gInp_a, gInp_s, gLen_t, gTuple_t, gList_t, asgT, asgL, tyD, Ev.isNon, gRange1_i, Ty.isa, List.getElem?_cons_zero, List.getElem?_cons_succ, List.set_cons_zero, List.set_cons_succ, List.map_cons, List.map_nil, List.cons_append, List.nil_append, List.any_cons, List.any_nil, Option.map_some, Option.map_none, Bool.or_false, Bool.false_or, Bool.or_true, Bool.true_or, Bool.and_true, Bool.true_and, Bool.and_false, Bool.false_and, Bool.not_true, Bool.not_false, Bool.false_eq_true, if_false, if_true, decide_true, decide_false, hlo])]
  have E3 : (xsAsg (xLst (xCons (xLit (.str "1/2")) (xCons (xLit (.str "-")) (xCons (xLit (.str "2: 0,0=0")) (xCons (xLit (.str "2: 0.0 | 5")) (xCons (xLit (.str "1+x")) (xCons (xLit (.str "(1)F")) (xCons (xLit (.str "(2)F^3")) (xCons (xLit (.str "2: - | -; - | -")) xNil))))))))) (.nm 3)) [some d, some (.ref kp), some (.ref (h1.length + lotsK)), none, none, none, none, none, none, none] (catV h1 lotsG) = .nx [some d, some (.ref kp), some (.ref (h1.length + lotsK)), some (.ref (catV h1 lotsG).length), none, none, none, none, none, none] (catV h1 lotsG ++ [Ob.lst rights]) := by
    have l8' : decide (([.str "1/2", .str "-", .str "2: 0,0=0", .str "2: 0.0 | 5", .str "1+x", .str "(1)F", .str "(2)F^3", .str "2: - | -; - | -"] : List D).length ≤ line) = true := l8
    generalize catV h1 lotsG = g
    simp only [xsAsg, xsPar, xsIf, xsRet, xsRetN, xsExp, xsSet, xsAug, xsAugS, xsBrk, xsCnt, xsRaise, xsNil, exE, xVar, xLit, xNeg, xIsN, xBin, xChain, xAnd, xOr, xNot, xIte, xNil, xCons, xTup, xLst, xFN, xMt, xIsi, xIsx, xCall, xSl1, xRev, xNewL, xFC, xXv, xIt, xSeq, nth, R.bd, R.sb, RS.to, R.to, xto, xtoH, xfin, xfinE, xck, frcD_eq, frcD1_eq, frcN_eq, frcI_eq, frcL_eq, frcDs_eq, lay_eq, put_eq, gAdd_i, gAdd_s, gSub_i, gEq_i, gEq_b, gNe_i, gNe_b, gLt_i, gLe_i, gGt_i, gGe_i, gInt_i, gInt_b, gInp_a, gInp_s, gLen_t, gTuple_t, gList_t, asgT, asgL, tyD, Ev.isNon, gRange1_i, Ty.isa, List.getElem?_cons_zero, List.getElem?_cons_succ, List.set_cons_zero, List.set_cons_succ, List.map_cons, List.map_nil, List.cons_append, List.nil_append, List.any_cons, List.any_nil, Option.map_some, Option.map_none, Bool.or_false, Bool.false_or, Bool.or_true, Bool.true_or, Bool.and_true, Bool.true_and, Bool.and_false, Bool.false_and, Bool.not_true, Bool.not_false, Bool.false_eq_true, if_false, if_true, decide_true, decide_false, l8']
    rfl
  rw [xseq_nx E3]
  refine xseq_ fun D' n1 n2 n3 n4 n5 => ?_
  refine loops_ok H h2 (start_ok hp) fun x4 x5 x6 x7 x8 h' c' v hc => ?_
  rw [n1]
  obtain ⟨x, h4, hx, v4, e4⟩ := wrong_ok H h2 (d := some d) (x4 := x4) (x5 := x5) (x6 := x6) (x7 := x7) (x8 := x8) (x9 := none) v (by omega)
  obtain ⟨h5, e5⟩ := end_ok H h2 (d := some d) (x4 := x4) (x5 := x5) (x6 := x6) (x7 := x7) (x8 := x8) hx v4 (by omega)
  rw [xseq_nx e4, e5]
  exact hQ _
theorem pot_eq {h : VH} {d : D} {ns : List Int} (hd : ∀ g, gList [d] (h ++ g) = some (.new (ns.map D.int))) (hl : ns.length ≤ 1000) : ∃ kk h', xp_pot [d] h = .ok (.ref kk) h' ∧ PotAt h' kk 0 := by
  have q : (xp_pot [d] h).to (fun d h' => ∃ kk, d = .ref kk ∧ PotAt h' kk 0) noX := xpot_ok hd hl fun h' kk _ hp _ => ⟨kk, rfl, hp⟩
  revert q
  cases xp_pot [d] h with
  | ok d h' =>
    intro q
    obtain ⟨kk, rfl, p⟩ := q
    exact ⟨kk, h', rfl, p⟩
  | ex c d h' => exact fun q => q.elim
  | no => exact fun q => q.elim
theorem law_ok {d : D} {h : VH} {ns : List Int} {Q : PQ} {E : PX} (hd : ∀ g, gList [d] (h ++ g) = some (.new (ns.map D.int))) (hl : ns.length ≤ 1000) (hQ : ∀ h', Q (.bl true) h') : lsp (x_law FF) [d] h Q E := by
  obtain ⟨kk, h', e, p⟩ := pot_eq hd hl
  exact fnX_of rfl (law_s hs e p (lots_eq h') hQ)
theorem FF_le : FF ≤ 16777216 := by decide
end K85

set_option Elab.async false
set_option linter.all false
set_option maxRecDepth 100000
set_option maxHeartbeats 0
/-! K85z: the head. -/
namespace K85
open PySem PySem.Spec PyProof.Rows L2 NdefX Ev
def dd (x : Str) (i : Nat) : He.DefD := ⟨(x, none), x, x, defArgs (top i), defBody (top i), defScope (top i), [], []⟩
def fn : List He.DefD := [dd "is_integer" 9, dd "is_natural" 10, dd "is_base" 11, dd "is_letter" 12, dd "is_word" 13, dd "are_below" 14, dd "power" 15, dd "is_state" 17, dd "is_row_value" 18, dd "is_poly" 20, dd "check_prime" 22, dd "is_equation_of" 24, dd "is_morphism_value" 26, dd "made" 29, dd "plus_of" 30, dd "times_of" 31, dd "sum_of" 32, dd "is_fraction" 34, dd "are_fractions" 35, dd "is_square" 36, dd "product_with" 37, dd "by_column" 38, dd "have_tables" 40, dd "is_regular_value" 41, dd "fraction_text" 43, dd "word_text" 44, dd "joined_text" 45, dd "row_text" 46, dd "morphism_text" 47, dd "term_text" 48, dd "polynomial_text" 49, dd "equation_text" 50, dd "fractions_text" 51, dd "table_text" 52, dd "regular_text" 53, dd "natural_of" 56, dd "integer_of" 57, dd "naturals_of" 58, dd "fraction_from" 59, dd "word_from" 60, dd "row_from_text" 61, dd "morphism_from" 62, dd "term_from" 63, dd "polynomial_from" 64, dd "part_from" 65, dd "equation_from" 66, dd "fractions_from" 67, dd "table_from" 68, dd "regular_from" 69, dd "given" 70, dd "read_fraction" 71, dd "read_word" 72, dd "read_row" 73, dd "read_morphism" 74, dd "read_polynomial" 75, dd "read_equation" 76, dd "read_regular" 77, dd "_law_pot" 79, dd "_law_take" 80, dd "_law_same" 81, dd "_law_read" 82, dd "_law_lots" 83, dd "_law_refused" 84, dd "law" 85]
def fa : List He.Fa := [.glo "is_integer", .glo "is_natural", .glo "is_base", .glo "is_letter", .glo "is_word", .glo "are_below", .glo "power", .glo "is_state", .glo "is_row_value", .glo "is_poly", .glo "check_prime", .glo "is_equation_of", .glo "is_morphism_value", .glo "made", .glo "plus_of", .glo "times_of", .glo "sum_of", .glo "is_fraction", .glo "are_fractions", .glo "is_square", .glo "product_with", .glo "by_column", .glo "have_tables", .glo "is_regular_value", .glo "fraction_text", .glo "word_text", .glo "joined_text", .glo "row_text", .glo "morphism_text", .glo "term_text", .glo "polynomial_text", .glo "equation_text", .glo "fractions_text", .glo "table_text", .glo "regular_text", .glo "natural_of", .glo "integer_of", .glo "naturals_of", .glo "fraction_from", .glo "word_from", .glo "row_from_text", .glo "morphism_from", .glo "term_from", .glo "polynomial_from", .glo "part_from", .glo "equation_from", .glo "fractions_from", .glo "table_from", .glo "regular_from", .glo "given", .glo "read_fraction", .glo "read_word", .glo "read_row", .glo "read_morphism", .glo "read_polynomial", .glo "read_equation", .glo "read_regular", .glo "_law_pot", .glo "_law_take", .glo "_law_same", .glo "_law_read", .glo "_law_lots", .glo "_law_refused", .glo "law", .free "all", .free "any", .free "bool", .free "enumerate", .free "int", .free "isinstance", .free "len", .free "list", .free "max", .free "range", .free "str", .free "tuple", .free "zip", .free "super", .glo "InvalidInteger", .glo "Unreadable", .glo "DigitsError", .exm "InvalidInteger" "DigitsError" true, .exm "Unreadable" "DigitsError" true, .exm "InvalidInteger" "InvalidInteger" true, .exm "Unreadable" "InvalidInteger" false]
def stI : Stmt := match top 2 with
  | .ClassDef _ _ _ b .. => b.getD 0 (.Pass ⟨0, 0, 0, 0⟩)
  | s => s
def inD : InD := ⟨"DigitsError", "DigitsError.__init__", stI⟩
def ins : List InD := [inD]
abbrev R : PySem.W.OpenRow := PySem.W.OpenLaw.row PySem.Challenge.rw_wholedigits_k85_texts_that_are_none
def clsB (K : PySem.W.Frag) (x : Str) : Bool := inicB K (He.ga K "DigitsError") (He.ga K x) && (He.eqO (PySem.W.findIn K (.ref (He.ga K x)) "__init__") (some (some (.ref (inAd K inD)))) && xfB K (He.ga K x))
def conB (K : PySem.W.Frag) (x : Str) (d : D) : Bool := match PySem.W.nsIn K mainGlobals x with
  | some (some v) => datB K 6 v d
  | _ => false
theorem conB_ok {K : PySem.W.Frag} {x : Str} {d : D} {h : Heap} {mg : Str → Option Value} (X : K.In h) (G : h.Ns mainGlobals mg) (c : conB K x d = true) : ∃ v, mg x = some v ∧ DatK K v d := by
  unfold conB at c
  split at c
  · rename_i v e
    exact ⟨v, PySem.W.mg_of X G e, datB_ok _ _ _ c⟩
  · cases c
def ex (K : PySem.W.Frag) : Bool := ((iniB K (PySem.Challenge.rw_wholedigits_k85_texts_that_are_none).prog.main.file "DigitsError.__init__" (He.ga K "DigitsError") (inAd K inD)) && ((xcs.all (clsB K)) && ((conB K "FIGURES" (.str "0123456789")) && ((conB K "LEAST_BASE" (.int 2)) && ((conB K "MOST_BASE" (.int 5)) && ((conB K "MOST_LETTER" (.int 9)) && ((conB K "NOTHING" (.tup [(.int 0), (.int 1)])) && ((He.eqO (PySem.W.nsIn K mainGlobals "gcd") (some (some (.builtin "math.gcd")))) && (([(("InvalidInteger" : Str), false), (("Unreadable" : Str), true)] : List (Str × Bool)).all fun p => exkB K (He.ga K p.1) && decide (PySem.W.kitOne K (.ref (He.ga K p.1)) (.ref (He.ga K "Unreadable")) = some p.2))))))))))
abbrev hk : PySem.W.Hook := hookY 5 fa fn ins ex
def ob (s : PySem.W.SharedT) : AlY := obsY 5 fa fn ins ex (HandSHeadRun.getT s)
theorem ob_eq (s : PySem.W.SharedT) : ob s = hk.obs s.abs := obsY_eq (HandSHeadRun.getT_eq s)

def loose : List Str := (["__name__", "DigitsError", "InvalidInteger", "Unreadable", "LEAST_BASE", "MOST_BASE", "MOST_LETTER", "is_integer", "is_natural", "is_base", "is_letter", "is_word"] : List Str) ++ (["are_below", "power", "is_state", "is_row_value", "is_poly", "check_prime", "is_equation_of", "is_morphism_value", "NOTHING", "made", "plus_of", "times_of"] : List Str) ++ (["sum_of", "is_fraction", "are_fractions", "is_square", "product_with", "by_column", "have_tables", "is_regular_value", "fraction_text", "word_text", "joined_text", "row_text"] : List Str) ++ (["morphism_text", "term_text", "polynomial_text", "equation_text", "fractions_text", "table_text", "regular_text", "FIGURES", "natural_of", "integer_of", "naturals_of", "fraction_from"] : List Str) ++ (["word_from", "row_from_text", "morphism_from", "term_from", "polynomial_from", "part_from", "equation_from", "fractions_from", "table_from", "regular_from", "given", "read_fraction"] : List Str) ++ (["read_word", "read_row", "read_morphism", "read_polynomial", "read_equation", "read_regular", "_law_pot", "_law_take", "_law_same", "_law_read", "_law_lots", "_law_refused"] : List Str)
theorem run (w : World) : HandSHeadRun.RunEqI R (PySem.W.view R.prog [0, 85]) hk ob 20000 loose w := by
  unfold HandSHeadRun.RunEqI
  kernel_rfl
theorem iniT : ∃ p0 p1 p2 p3 p4 p5 p6 p7 p8 p9, IniT stI p0 p1 p2 p3 p4 p5 p6 p7 p8 p9 := ⟨_, _, _, _, _, _, _, _, _, _, rfl, nscope_by (by decide +kernel), rfl, ⟨_, _, rfl, rfl⟩, fun env => ⟨_, rfl⟩, fun env => rfl, fun _ _ _ _ _ _ _ _ us hl => match us, hl with | [_, _], _ => rfl⟩
section
variable {w : World} {K : PySem.W.Frag} {h base : Heap} {mg : Str → Option Value}
theorem ex_0 (c : SaysY fa fn ins ex K) : (iniB K (PySem.Challenge.rw_wholedigits_k85_texts_that_are_none).prog.main.file "DigitsError.__init__" (He.ga K "DigitsError") (inAd K inD)) = true := by
  have q0 := c.more
  unfold ex at q0
  exact (He.ba q0).1
theorem ex_1 (c : SaysY fa fn ins ex K) : (xcs.all (clsB K)) = true := by
  have q0 := c.more
  unfold ex at q0
  have q1 := (He.ba q0).2
  exact (He.ba q1).1
theorem ex_2 (c : SaysY fa fn ins ex K) : (conB K "FIGURES" (.str "0123456789")) = true := by
  have q0 := c.more
  unfold ex at q0
  have q1 := (He.ba q0).2
  have q2 := (He.ba q1).2
  exact (He.ba q2).1
theorem ex_3 (c : SaysY fa fn ins ex K) : (conB K "LEAST_BASE" (.int 2)) = true := by
  have q0 := c.more
  unfold ex at q0
  have q1 := (He.ba q0).2
  have q2 := (He.ba q1).2
  have q3 := (He.ba q2).2
  exact (He.ba q3).1
theorem ex_4 (c : SaysY fa fn ins ex K) : (conB K "MOST_BASE" (.int 5)) = true := by
  have q0 := c.more
  unfold ex at q0
  have q1 := (He.ba q0).2
  have q2 := (He.ba q1).2
  have q3 := (He.ba q2).2
  have q4 := (He.ba q3).2
  exact (He.ba q4).1
theorem ex_5 (c : SaysY fa fn ins ex K) : (conB K "MOST_LETTER" (.int 9)) = true := by
  have q0 := c.more
  unfold ex at q0
  have q1 := (He.ba q0).2
  have q2 := (He.ba q1).2
  have q3 := (He.ba q2).2
  have q4 := (He.ba q3).2
  have q5 := (He.ba q4).2
  exact (He.ba q5).1
theorem ex_6 (c : SaysY fa fn ins ex K) : (conB K "NOTHING" (.tup [(.int 0), (.int 1)])) = true := by
  have q0 := c.more
  unfold ex at q0
  have q1 := (He.ba q0).2
  have q2 := (He.ba q1).2
  have q3 := (He.ba q2).2
  have q4 := (He.ba q3).2
  have q5 := (He.ba q4).2
  have q6 := (He.ba q5).2
  exact (He.ba q6).1
theorem ex_7 (c : SaysY fa fn ins ex K) : (He.eqO (PySem.W.nsIn K mainGlobals "gcd") (some (some (.builtin "math.gcd")))) = true := by
  have q0 := c.more
  unfold ex at q0
  have q1 := (He.ba q0).2
  have q2 := (He.ba q1).2
  have q3 := (He.ba q2).2
  have q4 := (He.ba q3).2
  have q5 := (He.ba q4).2
  have q6 := (He.ba q5).2
  have q7 := (He.ba q6).2
  exact (He.ba q7).1
theorem ex_8 (c : SaysY fa fn ins ex K) : (([(("InvalidInteger" : Str), false), (("Unreadable" : Str), true)] : List (Str × Bool)).all fun p => exkB K (He.ga K p.1) && decide (PySem.W.kitOne K (.ref (He.ga K p.1)) (.ref (He.ga K "Unreadable")) = some p.2)) = true := by
  have q0 := c.more
  unfold ex at q0
  have q1 := (He.ba q0).2
  have q2 := (He.ba q1).2
  have q3 := (He.ba q2).2
  have q4 := (He.ba q3).2
  have q5 := (He.ba q4).2
  have q6 := (He.ba q5).2
  have q7 := (He.ba q6).2
  have q8 := (He.ba q7).2
  exact q8
theorem xc (X : K.In h) (G : h.Ns mainGlobals mg) (c : SaysY fa fn ins ex K) {x : Str} (hx : mg x = some (.ref (He.ga K x))) (hm : x ∈ xcs) : Xc (PySem.Challenge.rw_wholedigits_k85_texts_that_are_none).prog w K mg base x := by
  obtain ⟨p0, p1, p2, p3, p4, p5, p6, p7, p8, p9, T⟩ := iniT
  have e3 := List.all_eq_true.mp (ex_1 c) x hm
  obtain ⟨k1, k2⟩ := He.ba e3
  obtain ⟨k3, k4⟩ := He.ba k2
  exact xc_of T (c.ini inD (List.mem_singleton.mpr rfl)) (ex_0 c) (He.free_ok X G (c.d.fact 77 (f := .free "super") rfl)) (by decide +kernel) hx k1 (He.eqO_ok k3)
theorem xvf (X : K.In h) (G : h.Ns mainGlobals mg) (c : SaysY fa fn ins ex K) (hx : ∀ x ∈ xcs, mg x = some (.ref (He.ga K x))) : ∀ c C, c ∈ xcs → mg c = some (.ref C) → XfC K C ∧ PySem.W.findIn K (.ref C) "value" = some none := fun x C hm hc => by
  have e3 := List.all_eq_true.mp (ex_1 c) x hm
  obtain ⟨k1, k2⟩ := He.ba e3
  obtain ⟨k3, k4⟩ := He.ba k2
  have := hc.symm.trans (hx x hm)
  cases this
  exact ⟨xfB_ok k4, (inicB_ok k1).no⟩
theorem hxs (X : K.In h) (G : h.Ns mainGlobals mg) (c : SaysY fa fn ins ex K) : ∀ x ∈ xcs, mg x = some (.ref (He.ga K x)) := fun x hm => by
  simp only [xcs, List.mem_cons, List.not_mem_nil, or_false] at hm
  rcases hm with rfl | rfl
  · exact He.glo_ok X G (c.d.fact 78 (f := .glo "InvalidInteger") rfl)
  · exact He.glo_ok X G (c.d.fact 79 (f := .glo "Unreadable") rfl)
theorem isf_Unreadable (X : K.In h) (G : h.Ns mainGlobals mg) (c : SaysY fa fn ins ex K) : ∀ x b, isi_Unreadable x = some b → ∀ C, mg x = some (.ref C) → ExK K C ∧ PySem.W.kitOne K (.ref C) (.ref (He.ga K "Unreadable")) = some b := fun x b hs C hC => by
  have q := List.all_eq_true.mp (ex_8 c)
  unfold isi_Unreadable at hs
  split at hs
  · rename_i e
    subst e
    cases hs
    have q1 := q (("InvalidInteger" : Str), false) (by simp)
    obtain ⟨q2, q3⟩ := He.ba q1
    have e1 := hxs X G c "InvalidInteger" (by decide)
    have := hC.symm.trans e1
    cases this
    exact ⟨exkB_ok q2, of_decide_eq_true q3⟩
  split at hs
  · rename_i e
    subst e
    cases hs
    have q1 := q (("Unreadable" : Str), true) (by simp)
    obtain ⟨q2, q3⟩ := He.ba q1
    have e1 := hxs X G c "Unreadable" (by decide)
    have := hC.symm.trans e1
    cases this
    exact ⟨exkB_ok q2, of_decide_eq_true q3⟩
  cases hs
noncomputable def facts (X : K.In h) (G : h.Ns mainGlobals mg) (c : SaysY fa fn ins ex K) : Fx (PySem.Challenge.rw_wholedigits_k85_texts_that_are_none).prog w K mg base where
  d_is_integer := (c.d.def_ 0 (d := dd "is_integer" 9) rfl).elim fun fd F => ⟨_, fd, He.glo_ok X G (c.d.fact 0 (f := .glo "is_integer") rfl), F⟩
  d_is_natural := (c.d.def_ 1 (d := dd "is_natural" 10) rfl).elim fun fd F => ⟨_, fd, He.glo_ok X G (c.d.fact 1 (f := .glo "is_natural") rfl), F⟩
  d_is_base := (c.d.def_ 2 (d := dd "is_base" 11) rfl).elim fun fd F => ⟨_, fd, He.glo_ok X G (c.d.fact 2 (f := .glo "is_base") rfl), F⟩
  d_is_letter := (c.d.def_ 3 (d := dd "is_letter" 12) rfl).elim fun fd F => ⟨_, fd, He.glo_ok X G (c.d.fact 3 (f := .glo "is_letter") rfl), F⟩
  d_is_word := (c.d.def_ 4 (d := dd "is_word" 13) rfl).elim fun fd F => ⟨_, fd, He.glo_ok X G (c.d.fact 4 (f := .glo "is_word") rfl), F⟩
  d_are_below := (c.d.def_ 5 (d := dd "are_below" 14) rfl).elim fun fd F => ⟨_, fd, He.glo_ok X G (c.d.fact 5 (f := .glo "are_below") rfl), F⟩
  d_power := (c.d.def_ 6 (d := dd "power" 15) rfl).elim fun fd F => ⟨_, fd, He.glo_ok X G (c.d.fact 6 (f := .glo "power") rfl), F⟩
  d_is_state := (c.d.def_ 7 (d := dd "is_state" 17) rfl).elim fun fd F => ⟨_, fd, He.glo_ok X G (c.d.fact 7 (f := .glo "is_state") rfl), F⟩
  d_is_row_value := (c.d.def_ 8 (d := dd "is_row_value" 18) rfl).elim fun fd F => ⟨_, fd, He.glo_ok X G (c.d.fact 8 (f := .glo "is_row_value") rfl), F⟩
  d_is_poly := (c.d.def_ 9 (d := dd "is_poly" 20) rfl).elim fun fd F => ⟨_, fd, He.glo_ok X G (c.d.fact 9 (f := .glo "is_poly") rfl), F⟩
  d_check_prime := (c.d.def_ 10 (d := dd "check_prime" 22) rfl).elim fun fd F => ⟨_, fd, He.glo_ok X G (c.d.fact 10 (f := .glo "check_prime") rfl), F⟩
  d_is_equation_of := (c.d.def_ 11 (d := dd "is_equation_of" 24) rfl).elim fun fd F => ⟨_, fd, He.glo_ok X G (c.d.fact 11 (f := .glo "is_equation_of") rfl), F⟩
  d_is_morphism_value := (c.d.def_ 12 (d := dd "is_morphism_value" 26) rfl).elim fun fd F => ⟨_, fd, He.glo_ok X G (c.d.fact 12 (f := .glo "is_morphism_value") rfl), F⟩
  d_made := (c.d.def_ 13 (d := dd "made" 29) rfl).elim fun fd F => ⟨_, fd, He.glo_ok X G (c.d.fact 13 (f := .glo "made") rfl), F⟩
  d_plus_of := (c.d.def_ 14 (d := dd "plus_of" 30) rfl).elim fun fd F => ⟨_, fd, He.glo_ok X G (c.d.fact 14 (f := .glo "plus_of") rfl), F⟩
  d_times_of := (c.d.def_ 15 (d := dd "times_of" 31) rfl).elim fun fd F => ⟨_, fd, He.glo_ok X G (c.d.fact 15 (f := .glo "times_of") rfl), F⟩
  d_sum_of := (c.d.def_ 16 (d := dd "sum_of" 32) rfl).elim fun fd F => ⟨_, fd, He.glo_ok X G (c.d.fact 16 (f := .glo "sum_of") rfl), F⟩
  d_is_fraction := (c.d.def_ 17 (d := dd "is_fraction" 34) rfl).elim fun fd F => ⟨_, fd, He.glo_ok X G (c.d.fact 17 (f := .glo "is_fraction") rfl), F⟩
  d_are_fractions := (c.d.def_ 18 (d := dd "are_fractions" 35) rfl).elim fun fd F => ⟨_, fd, He.glo_ok X G (c.d.fact 18 (f := .glo "are_fractions") rfl), F⟩
  d_is_square := (c.d.def_ 19 (d := dd "is_square" 36) rfl).elim fun fd F => ⟨_, fd, He.glo_ok X G (c.d.fact 19 (f := .glo "is_square") rfl), F⟩
  d_product_with := (c.d.def_ 20 (d := dd "product_with" 37) rfl).elim fun fd F => ⟨_, fd, He.glo_ok X G (c.d.fact 20 (f := .glo "product_with") rfl), F⟩
  d_by_column := (c.d.def_ 21 (d := dd "by_column" 38) rfl).elim fun fd F => ⟨_, fd, He.glo_ok X G (c.d.fact 21 (f := .glo "by_column") rfl), F⟩
  d_have_tables := (c.d.def_ 22 (d := dd "have_tables" 40) rfl).elim fun fd F => ⟨_, fd, He.glo_ok X G (c.d.fact 22 (f := .glo "have_tables") rfl), F⟩
  d_is_regular_value := (c.d.def_ 23 (d := dd "is_regular_value" 41) rfl).elim fun fd F => ⟨_, fd, He.glo_ok X G (c.d.fact 23 (f := .glo "is_regular_value") rfl), F⟩
  d_fraction_text := (c.d.def_ 24 (d := dd "fraction_text" 43) rfl).elim fun fd F => ⟨_, fd, He.glo_ok X G (c.d.fact 24 (f := .glo "fraction_text") rfl), F⟩
  d_word_text := (c.d.def_ 25 (d := dd "word_text" 44) rfl).elim fun fd F => ⟨_, fd, He.glo_ok X G (c.d.fact 25 (f := .glo "word_text") rfl), F⟩
  d_joined_text := (c.d.def_ 26 (d := dd "joined_text" 45) rfl).elim fun fd F => ⟨_, fd, He.glo_ok X G (c.d.fact 26 (f := .glo "joined_text") rfl), F⟩
  d_row_text := (c.d.def_ 27 (d := dd "row_text" 46) rfl).elim fun fd F => ⟨_, fd, He.glo_ok X G (c.d.fact 27 (f := .glo "row_text") rfl), F⟩
  d_morphism_text := (c.d.def_ 28 (d := dd "morphism_text" 47) rfl).elim fun fd F => ⟨_, fd, He.glo_ok X G (c.d.fact 28 (f := .glo "morphism_text") rfl), F⟩
  d_term_text := (c.d.def_ 29 (d := dd "term_text" 48) rfl).elim fun fd F => ⟨_, fd, He.glo_ok X G (c.d.fact 29 (f := .glo "term_text") rfl), F⟩
  d_polynomial_text := (c.d.def_ 30 (d := dd "polynomial_text" 49) rfl).elim fun fd F => ⟨_, fd, He.glo_ok X G (c.d.fact 30 (f := .glo "polynomial_text") rfl), F⟩
  d_equation_text := (c.d.def_ 31 (d := dd "equation_text" 50) rfl).elim fun fd F => ⟨_, fd, He.glo_ok X G (c.d.fact 31 (f := .glo "equation_text") rfl), F⟩
  d_fractions_text := (c.d.def_ 32 (d := dd "fractions_text" 51) rfl).elim fun fd F => ⟨_, fd, He.glo_ok X G (c.d.fact 32 (f := .glo "fractions_text") rfl), F⟩
  d_table_text := (c.d.def_ 33 (d := dd "table_text" 52) rfl).elim fun fd F => ⟨_, fd, He.glo_ok X G (c.d.fact 33 (f := .glo "table_text") rfl), F⟩
  d_regular_text := (c.d.def_ 34 (d := dd "regular_text" 53) rfl).elim fun fd F => ⟨_, fd, He.glo_ok X G (c.d.fact 34 (f := .glo "regular_text") rfl), F⟩
  d_natural_of := (c.d.def_ 35 (d := dd "natural_of" 56) rfl).elim fun fd F => ⟨_, fd, He.glo_ok X G (c.d.fact 35 (f := .glo "natural_of") rfl), F⟩
  d_integer_of := (c.d.def_ 36 (d := dd "integer_of" 57) rfl).elim fun fd F => ⟨_, fd, He.glo_ok X G (c.d.fact 36 (f := .glo "integer_of") rfl), F⟩
  d_naturals_of := (c.d.def_ 37 (d := dd "naturals_of" 58) rfl).elim fun fd F => ⟨_, fd, He.glo_ok X G (c.d.fact 37 (f := .glo "naturals_of") rfl), F⟩
  d_fraction_from := (c.d.def_ 38 (d := dd "fraction_from" 59) rfl).elim fun fd F => ⟨_, fd, He.glo_ok X G (c.d.fact 38 (f := .glo "fraction_from") rfl), F⟩
  d_word_from := (c.d.def_ 39 (d := dd "word_from" 60) rfl).elim fun fd F => ⟨_, fd, He.glo_ok X G (c.d.fact 39 (f := .glo "word_from") rfl), F⟩
  d_row_from_text := (c.d.def_ 40 (d := dd "row_from_text" 61) rfl).elim fun fd F => ⟨_, fd, He.glo_ok X G (c.d.fact 40 (f := .glo "row_from_text") rfl), F⟩
  d_morphism_from := (c.d.def_ 41 (d := dd "morphism_from" 62) rfl).elim fun fd F => ⟨_, fd, He.glo_ok X G (c.d.fact 41 (f := .glo "morphism_from") rfl), F⟩
  d_term_from := (c.d.def_ 42 (d := dd "term_from" 63) rfl).elim fun fd F => ⟨_, fd, He.glo_ok X G (c.d.fact 42 (f := .glo "term_from") rfl), F⟩
  d_polynomial_from := (c.d.def_ 43 (d := dd "polynomial_from" 64) rfl).elim fun fd F => ⟨_, fd, He.glo_ok X G (c.d.fact 43 (f := .glo "polynomial_from") rfl), F⟩
  d_part_from := (c.d.def_ 44 (d := dd "part_from" 65) rfl).elim fun fd F => ⟨_, fd, He.glo_ok X G (c.d.fact 44 (f := .glo "part_from") rfl), F⟩
  d_equation_from := (c.d.def_ 45 (d := dd "equation_from" 66) rfl).elim fun fd F => ⟨_, fd, He.glo_ok X G (c.d.fact 45 (f := .glo "equation_from") rfl), F⟩
  d_fractions_from := (c.d.def_ 46 (d := dd "fractions_from" 67) rfl).elim fun fd F => ⟨_, fd, He.glo_ok X G (c.d.fact 46 (f := .glo "fractions_from") rfl), F⟩
  d_table_from := (c.d.def_ 47 (d := dd "table_from" 68) rfl).elim fun fd F => ⟨_, fd, He.glo_ok X G (c.d.fact 47 (f := .glo "table_from") rfl), F⟩
  d_regular_from := (c.d.def_ 48 (d := dd "regular_from" 69) rfl).elim fun fd F => ⟨_, fd, He.glo_ok X G (c.d.fact 48 (f := .glo "regular_from") rfl), F⟩
  d_given := (c.d.def_ 49 (d := dd "given" 70) rfl).elim fun fd F => ⟨_, fd, He.glo_ok X G (c.d.fact 49 (f := .glo "given") rfl), F⟩
  d_read_fraction := (c.d.def_ 50 (d := dd "read_fraction" 71) rfl).elim fun fd F => ⟨_, fd, He.glo_ok X G (c.d.fact 50 (f := .glo "read_fraction") rfl), F⟩
  d_read_word := (c.d.def_ 51 (d := dd "read_word" 72) rfl).elim fun fd F => ⟨_, fd, He.glo_ok X G (c.d.fact 51 (f := .glo "read_word") rfl), F⟩
  d_read_row := (c.d.def_ 52 (d := dd "read_row" 73) rfl).elim fun fd F => ⟨_, fd, He.glo_ok X G (c.d.fact 52 (f := .glo "read_row") rfl), F⟩
  d_read_morphism := (c.d.def_ 53 (d := dd "read_morphism" 74) rfl).elim fun fd F => ⟨_, fd, He.glo_ok X G (c.d.fact 53 (f := .glo "read_morphism") rfl), F⟩
  d_read_polynomial := (c.d.def_ 54 (d := dd "read_polynomial" 75) rfl).elim fun fd F => ⟨_, fd, He.glo_ok X G (c.d.fact 54 (f := .glo "read_polynomial") rfl), F⟩
  d_read_equation := (c.d.def_ 55 (d := dd "read_equation" 76) rfl).elim fun fd F => ⟨_, fd, He.glo_ok X G (c.d.fact 55 (f := .glo "read_equation") rfl), F⟩
  d_read_regular := (c.d.def_ 56 (d := dd "read_regular" 77) rfl).elim fun fd F => ⟨_, fd, He.glo_ok X G (c.d.fact 56 (f := .glo "read_regular") rfl), F⟩
  d__law_pot := (c.d.def_ 57 (d := dd "_law_pot" 79) rfl).elim fun fd F => ⟨_, fd, He.glo_ok X G (c.d.fact 57 (f := .glo "_law_pot") rfl), F⟩
  d__law_take := (c.d.def_ 58 (d := dd "_law_take" 80) rfl).elim fun fd F => ⟨_, fd, He.glo_ok X G (c.d.fact 58 (f := .glo "_law_take") rfl), F⟩
  d__law_same := (c.d.def_ 59 (d := dd "_law_same" 81) rfl).elim fun fd F => ⟨_, fd, He.glo_ok X G (c.d.fact 59 (f := .glo "_law_same") rfl), F⟩
  d__law_read := (c.d.def_ 60 (d := dd "_law_read" 82) rfl).elim fun fd F => ⟨_, fd, He.glo_ok X G (c.d.fact 60 (f := .glo "_law_read") rfl), F⟩
  d__law_lots := (c.d.def_ 61 (d := dd "_law_lots" 83) rfl).elim fun fd F => ⟨_, fd, He.glo_ok X G (c.d.fact 61 (f := .glo "_law_lots") rfl), F⟩
  d__law_refused := (c.d.def_ 62 (d := dd "_law_refused" 84) rfl).elim fun fd F => ⟨_, fd, He.glo_ok X G (c.d.fact 62 (f := .glo "_law_refused") rfl), F⟩
  d_law := (c.d.def_ 63 (d := dd "law" 85) rfl).elim fun fd F => ⟨_, fd, He.glo_ok X G (c.d.fact 63 (f := .glo "law") rfl), F⟩
  g_all := He.free_ok X G (c.d.fact 64 (f := .free "all") rfl)
  g_any := He.free_ok X G (c.d.fact 65 (f := .free "any") rfl)
  g_bool := He.free_ok X G (c.d.fact 66 (f := .free "bool") rfl)
  g_enumerate := He.free_ok X G (c.d.fact 67 (f := .free "enumerate") rfl)
  g_int := He.free_ok X G (c.d.fact 68 (f := .free "int") rfl)
  g_isinstance := He.free_ok X G (c.d.fact 69 (f := .free "isinstance") rfl)
  g_len := He.free_ok X G (c.d.fact 70 (f := .free "len") rfl)
  g_list := He.free_ok X G (c.d.fact 71 (f := .free "list") rfl)
  g_max := He.free_ok X G (c.d.fact 72 (f := .free "max") rfl)
  g_range := He.free_ok X G (c.d.fact 73 (f := .free "range") rfl)
  g_str := He.free_ok X G (c.d.fact 74 (f := .free "str") rfl)
  g_tuple := He.free_ok X G (c.d.fact 75 (f := .free "tuple") rfl)
  g_zip := He.free_ok X G (c.d.fact 76 (f := .free "zip") rfl)
  f_gcd := PySem.W.mg_of X G (He.eqO_ok (ex_7 c))
  c_FIGURES := conB_ok X G (ex_2 c)
  c_LEAST_BASE := conB_ok X G (ex_3 c)
  c_MOST_BASE := conB_ok X G (ex_4 c)
  c_MOST_LETTER := conB_ok X G (ex_5 c)
  c_NOTHING := conB_ok X G (ex_6 c)
  x_InvalidInteger := xc X G c (hxs X G c _ (by decide)) (by decide)
  x_Unreadable := xc X G c (hxs X G c _ (by decide)) (by decide)
  xv := xvf X G c (hxs X G c)
  ka_DigitsError := He.ga K "DigitsError"
  k_DigitsError := ⟨He.glo_ok X G (c.d.fact 80 (f := .glo "DigitsError") rfl), fun y C q hs hy => by
    unfold sub_DigitsError at hs
    split at hs
    · rename_i e
      subst e
      cases hs
      have := hy.symm.trans (He.glo_ok X G (c.d.fact 78 (f := .glo "InvalidInteger") rfl))
      cases this
      exact He.exm_ok (c.d.fact 81 (f := .exm "InvalidInteger" "DigitsError" true) rfl)
    split at hs
    · rename_i e
      subst e
      cases hs
      have := hy.symm.trans (He.glo_ok X G (c.d.fact 79 (f := .glo "Unreadable") rfl))
      cases this
      exact He.exm_ok (c.d.fact 82 (f := .exm "Unreadable" "DigitsError" true) rfl)
    cases hs⟩
  ka_InvalidInteger := He.ga K "InvalidInteger"
  k_InvalidInteger := ⟨He.glo_ok X G (c.d.fact 78 (f := .glo "InvalidInteger") rfl), fun y C q hs hy => by
    unfold sub_InvalidInteger at hs
    split at hs
    · rename_i e
      subst e
      cases hs
      have := hy.symm.trans (He.glo_ok X G (c.d.fact 78 (f := .glo "InvalidInteger") rfl))
      cases this
      exact He.exm_ok (c.d.fact 83 (f := .exm "InvalidInteger" "InvalidInteger" true) rfl)
    split at hs
    · rename_i e
      subst e
      cases hs
      have := hy.symm.trans (He.glo_ok X G (c.d.fact 79 (f := .glo "Unreadable") rfl))
      cases this
      exact He.exm_ok (c.d.fact 84 (f := .exm "Unreadable" "InvalidInteger" false) rfl)
    cases hs⟩
  iv_Unreadable := He.ga K "Unreadable"
  ia_Unreadable := He.glo_ok X G (c.d.fact 79 (f := .glo "Unreadable") rfl)
  i_Unreadable := isf_Unreadable X G c
end
end K85

set_option Elab.async false
set_option linter.all false
set_option maxRecDepth 100000
set_option maxHeartbeats 0
/-! K85zz: the claim. -/
open PySem PySem.W PySem.Calls PyProof.Rows
theorem PySem.Challenge.cw_wholedigits_k85_texts_that_are_none_holds : PySem.Challenge.rw_wholedigits_k85_texts_that_are_none.Holds := by
  w_on; o_law
  refine HandSHeadRun.head_imp (r := OpenLaw.row PySem.Challenge.rw_wholedigits_k85_texts_that_are_none) (q := view (OpenLaw.row PySem.Challenge.rw_wholedigits_k85_texts_that_are_none).prog [0, 85]) (H := K85.hk) (ob := K85.ob) (M := 20000) (loose := K85.loose) (d := HandSHeadRun.topDef (OpenLaw.row PySem.Challenge.rw_wholedigits_k85_texts_that_are_none).prog 85) (kwd := []) K85.ob_eq
    K85.run (by kernel_rfl) (by kernel_rfl) (by kernel_rfl) (by rfl) (by first | assumption | decide +kernel) (by decide +kernel) ⟨rfl, rfl, rfl, rfl, rfl, by decide +kernel⟩ ?hw ?hc
  case hw => w_witness2
  case hc =>
    refine LamX.walk_ofTsE (l := PySem.Challenge.rw_wholedigits_k85_texts_that_are_none) (n := 63) (k := 10) (x := "script") (CX := fun w => L2.CX (PySem.Challenge.rw_wholedigits_k85_texts_that_are_none).prog w) rfl (by decide) (by kernel_rfl) ⟨rfl, by decide, by decide⟩ ?F (fun w H s e s' z => Ev.cx_no z)
    intro w mg fa h Y G hmg0
    obtain ⟨K, KX, c⟩ := Y
    have hmg : mg ("law" : PySem.Str) = some (.ref fa) := by
      have e : (HandSHeadRun.topDef (OpenLaw.row PySem.Challenge.rw_wholedigits_k85_texts_that_are_none).prog 85).name = ("law" : PySem.Str) := by kernel_rfl
      rw [← e]
      exact hmg0
    obtain ⟨fd, F⟩ := c.d.def_ 63 (d := K85.dd "law" 85) rfl
    exact ⟨K, KX, Ev.law_at (l := PySem.Challenge.rw_wholedigits_k85_texts_that_are_none) (st := K85.top 85) hmg (He.glo_ok KX G (c.d.fact 63 (f := .glo "law") rfl)) F (fun base hb hg => K85.ok_law (K85.facts KX G c) (F := K85.FF) K85.FF_le) (fun _ _ _ _ _ _ us hl => match us, hl with | [_], _ => rfl) fun ns d h Q E hl hd hQ => K85.law_ok hd (Nat.le_trans hl (by decide)) hQ⟩

