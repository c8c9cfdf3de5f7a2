import PyProof.Rows.All
import Wide.All
import OpenK.AllK
import Wide.FinOn
import HandS.ForMost
import HandS.ForExc
import HandS.Nested
import HandS.TryMany
import HandS.Wide
import HandS.WideBits
import HandS.Zip
import HandS.TupAny
import HandS.TupMul
import HandS.TupLe
import HandS.IsInst
import HandS.Conv
import HandS.Style
import HandS.Flow
import HandS.Defaults
import HandS.HeadWalk
import HandS.HeadHook4
import HandS.Deep
import HandS.StrMore
import HandS.Iter
import HandS.Rev
import HandS.ExcInit
import HandS.ExcSuper
import KE.KSuper
import KE.KExcSuper
import HandS.ExcField
import PySem.Challenge.RW_wholedigits_k78_whole_golden_digits
import HandS.Head0
import HandS.Head1
import HandS.Head2
import HandS.HeadEnd
import HandS.HeadHook1
import HandS.HeadHook2
import KE.KStateDown
set_option Elab.async false
set_option linter.all false
set_option maxRecDepth 100000
/-! Ev1: data, the relation to the layer's values, steps. -/
namespace Ev
open PySem PySem.Spec PyProof.Rows L2 NdefX

inductive D where
  | non | bl (b : Bool) | int (i : Int) | str (x : Str) | tup (ds : List D) | ref (n : Nat) | ty (n : String) | own (c : Str) | exn (c : Str) (v : D) | fn (f : Str) | cl (ds : List D)
  deriving Inhabited
/-- an object of the small heap -/
inductive Ob where
  | lst (ds : List D)
  deriving Inhabited
abbrev VH := List Ob
structure Gd where
  K : PySem.W.Frag
  mg : Str → Option Value
  T : List NTab

/-- a list that nobody writes -/
def SqC (K : PySem.W.Frag) (H : Hp) (a : Addr) (xs : List V) : Prop :=
  (∃ o, H a = some (.frz o (.lst xs))) ∨
    ∃ (o : Obj) (its : Array Value) (n : Nat), K.lookup a = some o ∧ o.cls = .type "list" ∧ o.dict = none ∧ o.data = .seq its n ∧ its.size ≤ sizeLine ∧ Vals xs its.toList
theorem SqC.l {K : PySem.W.Frag} {H : Hp} {a : Addr} {xs : List V} (h : SqC K H a xs) : SqL K H a xs := by
  rcases h with ⟨o, h⟩ | h
  · exact .inl (.inr ⟨o, h⟩)
  · exact .inr h
mutual
inductive Rp (G : Gd) (H : Hp) (ρ : Nat → Addr) (n : Nat) : D → V → Prop
  | non : Rp G H ρ n .non .non
  | bl (b : Bool) : Rp G H ρ n (.bl b) (.bl b)
  | int (i : Int) : Rp G H ρ n (.int i) (.int i)
  | str (x : Str) : Rp G H ρ n (.str x) (.str x)
  | tup {a : Addr} {xs : List V} {ds : List D} : SqT G.K H a xs → RpA G H ρ n ds xs → Rp G H ρ n (.tup ds) (.ref a)
  | ref {k : Nat} : k < n → Rp G H ρ n (.ref k) (.ref (ρ k))
  | ty (t : String) : Rp G H ρ n (.ty t) (.ty t)
  | own {c : Str} {a : Addr} : G.mg c = some (.ref a) → Rp G H ρ n (.own c) (.ref a)
  | exn {c : Str} {d : D} {a C dx : Addr} {oe : Obj} {u : HO} {w : V} : G.mg c = some (.ref C) → H a = some (.frz oe u) → oe.cls = .ref C → oe.dict = some dx → (∃ vs, oe.data = .fields vs) → H dx = some (.xd [("value", w)]) →
      Rp G H ρ n d w → Rp G H ρ n (.exn c d) (.ref a)
  | fn {f : Str} {a : Addr} : G.mg f = some (.ref a) → Rp G H ρ n (.fn f) (.ref a)
  | cl {a : Addr} {xs : List V} {ds : List D} : SqC G.K H a xs → RpA G H ρ n ds xs → Rp G H ρ n (.cl ds) (.ref a)
inductive RpA (G : Gd) (H : Hp) (ρ : Nat → Addr) (n : Nat) : List D → List V → Prop
  | nil : RpA G H ρ n [] []
  | cons {d : D} {ds : List D} {v : V} {vs : List V} : Rp G H ρ n d v → RpA G H ρ n ds vs → RpA G H ρ n (d :: ds) (v :: vs)
end

/-- what never changes is kept -/
structure Kp (H H' : Hp) : Prop where
  tup : ∀ b xs, H b = some (.tup xs) → H' b = some (.tup xs)
  frz : ∀ b o u, H b = some (.frz o u) → H' b = some (.frz o u)
  xd : ∀ b fs, H b = some (.xd fs) → H' b = some (.xd fs)
theorem Kp.refl (H : Hp) : Kp H H := ⟨fun _ _ h => h, fun _ _ _ h => h, fun _ _ h => h⟩
theorem Kp.trans {H H1 H2 : Hp} (a : Kp H H1) (b : Kp H1 H2) : Kp H H2 := ⟨fun c x h => b.tup c x (a.tup c x h), fun c o u h => b.frz c o u (a.frz c o u h), fun c o h => b.xd c o (a.xd c o h)⟩
theorem Kp.sqT {K : PySem.W.Frag} {H H' : Hp} (k : Kp H H') {a : Addr} {xs : List V} (h : SqT K H a xs) : SqT K H' a xs := by
  rcases h with (h | ⟨o, h⟩) | h
  · exact .inl (.inl (k.tup _ _ h))
  · exact .inl (.inr ⟨o, k.frz _ _ _ h⟩)
  · exact .inr h

theorem Kp.sqC {K : PySem.W.Frag} {H H' : Hp} (k : Kp H H') {a : Addr} {xs : List V} (h : SqC K H a xs) : SqC K H' a xs := by
  rcases h with ⟨o, h⟩ | h
  · exact .inl ⟨o, k.frz _ _ _ h⟩
  · exact .inr h
section
variable {G : Gd} {H H' : Hp} {ρ ρ' : Nat → Addr} {n n' : Nat}
mutual
theorem Rp.mono (k : Kp H H') (ha : ∀ i, i < n → ρ' i = ρ i) (hn : n ≤ n') : ∀ {d : D} {v : V}, Rp G H ρ n d v → Rp G H' ρ' n' d v
  | _, _, .non => .non
  | _, _, .bl b => .bl b
  | _, _, .int i => .int i
  | _, _, .str x => .str x
  | _, _, .tup h r => .tup (k.sqT h) (RpA.mono k ha hn r)
  | _, _, .ref h => by
    rw [← ha _ h]
    exact .ref (Nat.lt_of_lt_of_le h hn)
  | _, _, .ty t => .ty t
  | _, _, .own h => .own h
  | _, _, .exn h1 h2 h3 h4 h5 h6 r => .exn h1 (k.frz _ _ _ h2) h3 h4 h5 (k.xd _ _ h6) (Rp.mono k ha hn r)
  | _, _, .fn h => .fn h
  | _, _, .cl h r => .cl (k.sqC h) (RpA.mono k ha hn r)
theorem RpA.mono (k : Kp H H') (ha : ∀ i, i < n → ρ' i = ρ i) (hn : n ≤ n') : ∀ {ds : List D} {vs : List V}, RpA G H ρ n ds vs → RpA G H' ρ' n' ds vs
  | _, _, .nil => .nil
  | _, _, .cons r t => .cons (Rp.mono k ha hn r) (RpA.mono k ha hn t)
end
theorem RpA.length : ∀ {ds : List D} {vs : List V}, RpA G H ρ n ds vs → ds.length = vs.length
  | _, _, .nil => rfl
  | _, _, .cons _ t => congrArg Nat.succ (RpA.length t)
theorem RpA.get : ∀ {ds : List D} {vs : List V} {i : Nat} {d : D}, RpA G H ρ n ds vs → ds[i]? = some d → ∃ v, vs[i]? = some v ∧ Rp G H ρ n d v
  | _, _, _, _, .nil, e => by simp at e
  | _, _, 0, _, .cons r _, e => by simp at e; subst e; exact ⟨_, rfl, r⟩
  | _, _, i + 1, d, .cons _ t, e => by
    obtain ⟨v, h1, h2⟩ := RpA.get (i := i) (d := d) t (by simpa using e)
    exact ⟨v, by simpa using h1, h2⟩
theorem RpA.append : ∀ {ds es : List D} {vs ws : List V}, RpA G H ρ n ds vs → RpA G H ρ n es ws → RpA G H ρ n (ds ++ es) (vs ++ ws)
  | _, _, _, _, .nil, s => s
  | _, _, _, _, .cons r t, s => .cons r (RpA.append t s)
theorem RpA.drop : ∀ {ds : List D} {vs : List V} (k : Nat), RpA G H ρ n ds vs → RpA G H ρ n (ds.drop k) (vs.drop k)
  | _, _, 0, r => r
  | _, _, _ + 1, .nil => .nil
  | _, _, k + 1, .cons _ t => RpA.drop k t
theorem RpA.take : ∀ {ds : List D} {vs : List V} (k : Nat), RpA G H ρ n ds vs → RpA G H ρ n (ds.take k) (vs.take k)
  | _, _, 0, _ => .nil
  | _, _, _ + 1, .nil => .nil
  | _, _, k + 1, .cons r t => .cons r (RpA.take k t)
theorem RpA.reverse {ds : List D} {vs : List V} (r : RpA G H ρ n ds vs) : RpA G H ρ n ds.reverse vs.reverse := by
  induction ds generalizing vs with
  | nil => cases r; exact .nil
  | cons d ds ih =>
    cases r with
    | cons r t =>
      rw [List.reverse_cons, List.reverse_cons]
      exact (ih t).append (.cons r .nil)
theorem RpA.set {d : D} {v : V} (r : Rp G H ρ n d v) : ∀ {ds : List D} {vs : List V} (i : Nat), RpA G H ρ n ds vs → RpA G H ρ n (ds.set i d) (vs.set i v)
  | _, _, _, .nil => .nil
  | _, _, 0, .cons _ t => .cons r t
  | _, _, i + 1, .cons q t => .cons q (RpA.set r i t)
theorem RpA.none_of {ds : List D} {vs : List V} {i : Nat} (r : RpA G H ρ n ds vs) (h : vs[i]? = none) : ds[i]? = none := by
  rw [List.getElem?_eq_none_iff] at h ⊢
  rw [r.length]; exact h
end

def ObR (G : Gd) (H : Hp) (ρ : Nat → Addr) (n : Nat) : Ob → Addr → Prop
  | .lst ds, a => ∃ xs, H a = some (.lst xs) ∧ RpA G H ρ n ds xs
structure VOk (G : Gd) (H : Hp) (ρ : Nat → Addr) (h : VH) : Prop where
  ob : ∀ k o, h[k]? = some o → ObR G H ρ h.length o (ρ k)
  inj : ∀ i j, i < h.length → j < h.length → ρ i = ρ j → i = j

/-- one step: all that was tracked is kept but the small heap's own objects (and tables grow) -/
structure Stp (G : Gd) (ρ : Nat → Addr) (h : VH) (H : Hp) (ρ' : Nat → Addr) (h' : VH) (H' : Hp) : Prop where
  len : h.length ≤ h'.length
  agr : ∀ k, k < h.length → ρ' k = ρ k
  keep : ∀ b o, H b = some o → (∀ k, k < h.length → ρ k ≠ b) → (∀ ps, o ≠ .tbl ps) → H' b = some o
  fresh : ∀ k, h.length ≤ k → k < h'.length → H (ρ' k) = none
  dom : ∀ b, H' b = none → H b = none
  ok : VOk G H' ρ' h'
  tb : TabsN G.T H → TabsN G.T H'
section
variable {G : Gd} {H H1 H2 : Hp} {ρ ρ1 ρ2 : Nat → Addr} {h h1 h2 : VH}
theorem VOk.isLst (ok : VOk G H ρ h) {k : Nat} (hk : k < h.length) : ∃ xs, H (ρ k) = some (.lst xs) := by
  have e : h[k]? = some h[k] := List.getElem?_eq_getElem hk
  have q := ok.ob k _ e
  cases hz : h[k] with
  | lst ds =>
    rw [hz] at q
    obtain ⟨xs, e1, _⟩ := q
    exact ⟨xs, e1⟩
theorem VOk.ne (ok : VOk G H ρ h) {b : Addr} {o : HO} (e : H b = some o) (hn : ∀ xs, o ≠ .lst xs) : ∀ k, k < h.length → ρ k ≠ b := fun k hk z => by
  obtain ⟨xs, e1⟩ := ok.isLst hk
  rw [z, e] at e1
  exact hn xs (Option.some.inj e1)
theorem Stp.kp (ok : VOk G H ρ h) (s : Stp G ρ h H ρ1 h1 H1) : Kp H H1 :=
  ⟨fun b xs e => s.keep b _ e (ok.ne e (by intro _ z; cases z)) (by intro _ z; cases z), fun b o u e => s.keep b _ e (ok.ne e (by intro _ z; cases z)) (by intro _ z; cases z),
   fun b xs e => s.keep b _ e (ok.ne e (by intro _ z; cases z)) (by intro _ z; cases z)⟩
theorem Stp.refl (ok : VOk G H ρ h) : Stp G ρ h H ρ h H :=
  ⟨Nat.le_refl _, fun _ _ => rfl, fun _ _ e _ _ => e, fun k h1 h2 => absurd h2 (Nat.not_lt.mpr h1), fun _ e => e, ok, fun t => t⟩
theorem Stp.trans (a : Stp G ρ h H ρ1 h1 H1) (b : Stp G ρ1 h1 H1 ρ2 h2 H2) : Stp G ρ h H ρ2 h2 H2 where
  len := Nat.le_trans a.len b.len
  agr := fun k hk => (b.agr k (Nat.lt_of_lt_of_le hk a.len)).trans (a.agr k hk)
  keep := fun c o e n t => b.keep c o (a.keep c o e n t) (fun k hk => by
    by_cases hh : k < h.length
    · rw [a.agr k hh]; exact n k hh
    · intro z
      have := a.fresh k (Nat.not_lt.mp hh) hk
      rw [z, e] at this
      cases this) t
  fresh := fun k h1' h2' => by
    by_cases hh : k < h1.length
    · rw [b.agr k hh]; exact a.fresh k h1' hh
    · exact a.dom _ (b.fresh k (Nat.not_lt.mp hh) h2')
  dom := fun c e => a.dom c (b.dom c e)
  ok := b.ok
  tb := fun t => b.tb (a.tb t)
theorem Stp.rp (ok : VOk G H ρ h) (s : Stp G ρ h H ρ1 h1 H1) {d : D} {v : V} (r : Rp G H ρ h.length d v) : Rp G H1 ρ1 h1.length d v := r.mono (s.kp ok) s.agr s.len
theorem Stp.rpA (ok : VOk G H ρ h) (s : Stp G ρ h H ρ1 h1 H1) {d : List D} {v : List V} (r : RpA G H ρ h.length d v) : RpA G H1 ρ1 h1.length d v := r.mono (s.kp ok) s.agr s.len

theorem upd_dom {H : Hp} {a b : Addr} {o : HO} (e : upd H a o b = none) : H b = none := by
  unfold upd at e
  split at e
  · cases e
  · exact e
theorem TabsN.upd {T : List NTab} {H : Hp} {a : Addr} {o : HO} (hn : H a = none ∨ ∃ xs, H a = some (.lst xs)) (t : TabsN T H) : TabsN T (upd H a o) := fun p hp => by
  obtain ⟨ps, h1, h2, h3⟩ := t p hp
  have ne1 : ∀ {b : Addr} {u : HO}, H b = some u → (∀ xs, u ≠ .lst xs) → b ≠ a := fun {b u} e q z => by
    subst z
    rcases hn with hn | ⟨xs, hn⟩
    · rw [e] at hn; cases hn
    · rw [e] at hn; exact q xs (Option.some.inj hn)
  refine ⟨ps, by rw [upd_ne (ne1 h1 (by intro _ z; cases z))]; exact h1, h2, fun pos cv hc => ?_⟩
  obtain ⟨c, e1, e2⟩ := h3 pos cv hc
  have ne2 : c ≠ a := ne1 e2 (fun xs z => by
    have z' : HO.ext _ = HO.lst xs := z
    cases z')
  exact ⟨c, e1, by rw [upd_ne ne2]; exact e2⟩
/-- a new object that the small heap does not know (a tuple, a list that goes) -/
theorem Stp.new {p : Addr} {o : HO} (ok : VOk G H ρ h) (hp : H p = none) : Stp G ρ h H ρ h (upd H p o) := by
  have k : Kp H (L2.upd H p o) := ⟨fun b xs e => by rw [upd_ne (ne_of_none e hp)]; exact e, fun b xs u e => by rw [upd_ne (ne_of_none e hp)]; exact e, fun b xs e => by rw [upd_ne (ne_of_none e hp)]; exact e⟩
  refine ⟨Nat.le_refl _, fun _ _ => rfl, fun b u e _ _ => by rw [upd_ne (ne_of_none e hp)]; exact e, fun k h1 h2 => absurd h2 (Nat.not_lt.mpr h1), fun _ e => upd_dom e, ⟨fun i ob e => ?_, ok.inj⟩, TabsN.upd (.inl hp)⟩
  have q := ok.ob i ob e
  cases ob with
  | lst ds =>
    obtain ⟨xs, e1, r⟩ := q
    exact ⟨xs, by rw [upd_ne (ne_of_none e1 hp)]; exact e1, r.mono k (fun _ _ => rfl) (Nat.le_refl _)⟩
/-- the map with one place more -/
def ext (ρ : Nat → Addr) (n : Nat) (p : Addr) : Nat → Addr := fun k => if k = n then p else ρ k
theorem ext_lt {ρ : Nat → Addr} {n : Nat} {p : Addr} {k : Nat} (h : k < n) : ext ρ n p k = ρ k := if_neg (Nat.ne_of_lt h)
theorem ext_self {ρ : Nat → Addr} {n : Nat} {p : Addr} : ext ρ n p n = p := if_pos rfl
/-- a new list that the small heap knows -/
theorem Stp.alloc {p : Addr} {ds : List D} {xs : List V} (ok : VOk G H ρ h) (hp : H p = none) (r : RpA G H ρ h.length ds xs) : Stp G ρ h H (ext ρ h.length p) (h ++ [.lst ds]) (upd H p (.lst xs)) := by
  have kp : Kp H (L2.upd H p (.lst xs)) := ⟨fun b xs e => by rw [upd_ne (ne_of_none e hp)]; exact e, fun b xs u e => by rw [upd_ne (ne_of_none e hp)]; exact e, fun b xs e => by rw [upd_ne (ne_of_none e hp)]; exact e⟩
  have lenE : (h ++ [Ob.lst ds]).length = h.length + 1 := by simp
  refine ⟨by rw [lenE]; exact Nat.le_succ _, fun _ hk => ext_lt hk, fun b u e _ _ => by rw [upd_ne (ne_of_none e hp)]; exact e, fun k h1 h2 => ?_, fun _ e => upd_dom e, ⟨fun i ob e => ?_, fun i j hi hj e => ?_⟩, TabsN.upd (.inl hp)⟩
  · have : k = h.length := by rw [lenE] at h2; omega
    subst this
    rw [ext_self]; exact hp
  · by_cases hi : i < h.length
    · rw [List.getElem?_append_left hi] at e
      rw [ext_lt hi]
      have q := ok.ob i ob e
      cases ob with
      | lst es =>
        obtain ⟨ys, e1, r1⟩ := q
        refine ⟨ys, by rw [upd_ne (ne_of_none e1 hp)]; exact e1, ?_⟩
        rw [lenE]
        exact r1.mono kp (fun _ hk => ext_lt hk) (Nat.le_succ _)
    · have hl := (List.getElem?_eq_some_iff.mp e).1
      have : i = h.length := by rw [lenE] at hl; omega
      subst this
      rw [List.getElem?_append_right (Nat.le_refl _)] at e
      simp at e
      subst e
      rw [ext_self]
      refine ⟨xs, upd_same, ?_⟩
      rw [lenE]
      exact r.mono kp (fun _ hk => ext_lt hk) (Nat.le_succ _)
  · rw [lenE] at hi hj
    have np : ∀ k, k < h.length → ρ k ≠ p := fun k hk z => by
      obtain ⟨ys, e1⟩ := ok.isLst hk
      rw [z, hp] at e1; cases e1
    by_cases h1 : i < h.length <;> by_cases h2 : j < h.length
    · rw [ext_lt h1, ext_lt h2] at e
      exact ok.inj i j h1 h2 e
    · have : j = h.length := by omega
      subst this
      rw [ext_lt h1, ext_self] at e
      exact absurd e (np i h1)
    · have : i = h.length := by omega
      subst this
      rw [ext_lt h2, ext_self] at e
      exact absurd e.symm (np j h2)
    · omega
/-- a list of the small heap is written -/
theorem Stp.write {k : Nat} {ds : List D} {xs : List V} (ok : VOk G H ρ h) (hk : k < h.length) (r : RpA G H ρ h.length ds xs) : Stp G ρ h H ρ (h.set k (.lst ds)) (upd H (ρ k) (.lst xs)) := by
  obtain ⟨ys, e0⟩ := ok.isLst hk
  have ne1 : ∀ {b : Addr} {u : HO}, H b = some u → (∀ xs, u ≠ .lst xs) → b ≠ ρ k := fun {b u} e q z => by
    subst z
    rw [e] at e0; exact q ys (Option.some.inj e0)
  have kp : Kp H (L2.upd H (ρ k) (.lst xs)) := ⟨fun b xs e => by rw [upd_ne (ne1 e (by intro _ z; cases z))]; exact e, fun b xs u e => by rw [upd_ne (ne1 e (by intro _ z; cases z))]; exact e, fun b xs e => by rw [upd_ne (ne1 e (by intro _ z; cases z))]; exact e⟩
  have lenE : (h.set k (Ob.lst ds)).length = h.length := List.length_set
  refine ⟨by rw [lenE]; exact Nat.le_refl _, fun _ _ => rfl, fun b u e n _ => by rw [upd_ne (fun z => n k hk z.symm)]; exact e, fun j h1 h2 => by rw [lenE] at h2; omega, fun _ e => upd_dom e, ⟨fun i ob e => ?_, fun i j hi hj e => ?_⟩, TabsN.upd (.inr ⟨ys, e0⟩)⟩
  · rw [lenE]
    by_cases hi : k = i
    · subst hi
      rw [List.getElem?_set_self hk] at e
      cases e
      exact ⟨xs, upd_same, r.mono kp (fun _ _ => rfl) (Nat.le_refl _)⟩
    · rw [List.getElem?_set_ne hi] at e
      have q := ok.ob i ob e
      have hi2 := (List.getElem?_eq_some_iff.mp e).1
      cases ob with
      | lst es =>
        obtain ⟨zs, e1, r1⟩ := q
        exact ⟨zs, by rw [upd_ne (fun z => hi (ok.inj k i hk hi2 z.symm))]; exact e1, r1.mono kp (fun _ _ => rfl) (Nat.le_refl _)⟩
  · rw [lenE] at hi hj
    exact ok.inj i j hi hj e
end
end Ev

set_option Elab.async false
set_option linter.all false
set_option maxRecDepth 100000
/-! Ev2: the lifted readings; operators by data. -/
namespace Ev
open PySem PySem.Spec PyProof.Rows L2 NdefX

abbrev Env := List (Option D)
abbrev PQ := D → VH → Prop
abbrev PB := Bool → VH → Prop
abbrev PL := List D → VH → Prop
abbrev PX := Str → D → VH → Prop
abbrev FE := Env → VH → PQ → PX → Prop
abbrev FA := Env → VH → PL → PX → Prop
abbrev FT := Env → VH → PB → PX → Prop

def gd (X : Cx) (T : List NTab) : Gd := ⟨X.K, X.mg, T⟩

structure M (G : Gd) (ρ : Nat → Addr) (env : Env) (h : VH) (σ : L2.St) (H : Hp) : Prop where
  ok : VOk G H ρ h
  tabs : TabsN G.T H
  len : env.length = σ.length
  env : ∀ (i : Nat) (d : D), env[i]? = some (some d) → ∃ v : V, σ[i]? = some (some v) ∧ Rp G H ρ h.length d v
section
variable {G : Gd} {H H1 H2 : Hp} {ρ ρ1 ρ2 : Nat → Addr} {env : Env} {h h1 h2 : VH} {σ : L2.St}
theorem M.step (m : M G ρ env h σ H) (s : Stp G ρ h H ρ1 h1 H1) : M G ρ1 env h1 σ H1 :=
  ⟨s.ok, s.tb m.tabs, m.len, fun i d e => by
    obtain ⟨v, e1, r⟩ := m.env i d e
    exact ⟨v, e1, s.rp m.ok r⟩⟩
theorem M.set {d : D} {v : V} (m : M G ρ env h σ H) (i : Nat) (r : Rp G H ρ h.length d v) : M G ρ (env.set i (some d)) h (σ.set i (some v)) H :=
  ⟨m.ok, m.tabs, by rw [List.length_set, List.length_set]; exact m.len, fun j e q => by
    by_cases hj : i = j
    · subst hj
      by_cases hl : i < env.length
      · rw [List.getElem?_set_self hl] at q
        cases q
        exact ⟨v, by rw [List.getElem?_set_self (by rw [← m.len]; exact hl)], r⟩
      · rw [List.getElem?_eq_none (by rw [List.length_set]; exact Nat.not_lt.mp hl)] at q
        cases q
    · rw [List.getElem?_set_ne hj] at q ⊢
      exact m.env j e q⟩
theorem M.clear (m : M G ρ env h σ H) (i : Nat) : M G ρ (env.set i none) h (σ.set i none) H :=
  ⟨m.ok, m.tabs, by rw [List.length_set, List.length_set]; exact m.len, fun j e q => by
    by_cases hj : i = j
    · subst hj
      by_cases hl : i < env.length
      · rw [List.getElem?_set_self hl] at q
        cases q
      · rw [List.getElem?_eq_none (by rw [List.length_set]; exact Nat.not_lt.mp hl)] at q
        cases q
    · rw [List.getElem?_set_ne hj] at q ⊢
      exact m.env j e q⟩
/-- the environment with places forgotten -/
def wipeD (env : Env) : List Nat → Env
  | [] => env
  | v :: vs => (wipeD env vs).set v none
theorem M.wipe (m : M G ρ env h σ H) : ∀ vs : List Nat, M G ρ (wipeD env vs) h (wipe σ vs) H
  | [] => m
  | v :: vs => (M.wipe m vs).clear v
end

def QV (G : Gd) (ρ : Nat → Addr) (h : VH) (H : Hp) (Q : VK) : PQ := fun d h' => ∀ ρ' v H', Stp G ρ h H ρ' h' H' → Rp G H' ρ' h'.length d v → Q v H'
def QB (G : Gd) (ρ : Nat → Addr) (h : VH) (H : Hp) (Q : Bool → Hp → Prop) : PB := fun b h' => ∀ ρ' H', Stp G ρ h H ρ' h' H' → Q b H'
def QL (G : Gd) (ρ : Nat → Addr) (h : VH) (H : Hp) (Q : List V → Hp → Prop) : PL := fun ds h' => ∀ ρ' vs H', Stp G ρ h H ρ' h' H' → RpA G H' ρ' h'.length ds vs → Q vs H'
def QX (G : Gd) (ρ : Nat → Addr) (h : VH) (H : Hp) (W : WX) (σ : L2.St) : PX := fun c d h' => ∀ ρ' H' C dx w, Stp G ρ h H ρ' h' H' → G.mg c = some (.ref C) → H' dx = some (.xd [("value", w)]) → Rp G H' ρ' h'.length d w →
  W (.ref C) (some dx) σ H'
section
variable {G : Gd} {H H1 : Hp} {ρ ρ1 : Nat → Addr} {h h1 : VH} {W : WX} {σ : L2.St}
theorem QV.step {Q : VK} (s : Stp G ρ h H ρ1 h1 H1) {d : D} {h' : VH} (q : QV G ρ h H Q d h') : QV G ρ1 h1 H1 Q d h' := fun ρ' v H' s' r => q ρ' v H' (s.trans s') r
theorem QB.step {Q : Bool → Hp → Prop} (s : Stp G ρ h H ρ1 h1 H1) {d : Bool} {h' : VH} (q : QB G ρ h H Q d h') : QB G ρ1 h1 H1 Q d h' := fun ρ' H' s' => q ρ' H' (s.trans s')
theorem QL.step {Q : List V → Hp → Prop} (s : Stp G ρ h H ρ1 h1 H1) {d : List D} {h' : VH} (q : QL G ρ h H Q d h') : QL G ρ1 h1 H1 Q d h' := fun ρ' v H' s' r => q ρ' v H' (s.trans s') r
theorem QX.step (s : Stp G ρ h H ρ1 h1 H1) {c : Str} {d : D} {h' : VH} (q : QX G ρ h H W σ c d h') : QX G ρ1 h1 H1 W σ c d h' := fun ρ' H' C dx w s' a b r => q ρ' H' C dx w (s.trans s') a b r
end

def lE (G : Gd) (W : WX) (f : FE) : TE := fun σ H Q => ∃ ρ env h, M G ρ env h σ H ∧ f env h (QV G ρ h H Q) (QX G ρ h H W σ)
def lA (G : Gd) (W : WX) (f : FA) : TA := fun σ H Q => ∃ ρ env h, M G ρ env h σ H ∧ f env h (QL G ρ h H Q) (QX G ρ h H W σ)
def lT (G : Gd) (W : WX) (f : FT) : TT := fun σ H Q => ∃ ρ env h, M G ρ env h σ H ∧ f env h (QB G ρ h H Q) (QX G ρ h H W σ)
structure MonE (f : FE) : Prop where
  mo : ∀ {env : Env} {h : VH} {Q Q' : PQ} {E E' : PX}, (∀ d h, Q d h → Q' d h) → (∀ c d h, E c d h → E' c d h) → f env h Q E → f env h Q' E'
structure MonA (f : FA) : Prop where
  mo : ∀ {env : Env} {h : VH} {Q Q' : PL} {E E' : PX}, (∀ d h, Q d h → Q' d h) → (∀ c d h, E c d h → E' c d h) → f env h Q E → f env h Q' E'
structure MonT (f : FT) : Prop where
  mo : ∀ {env : Env} {h : VH} {Q Q' : PB} {E E' : PX}, (∀ d h, Q d h → Q' d h) → (∀ c d h, E c d h → E' c d h) → f env h Q E → f env h Q' E'

theorem PE.imp {X : Cx} {e : Expr} {t t' : TE} (h : PE X e t) (k : ∀ σ H Q, t' σ H Q → t σ H Q) : PE X e t' := ⟨fun pins s σ H Q I q => h.run pins s σ H Q I (k σ H Q q)⟩
theorem PT.imp {X : Cx} {e : Expr} {t t' : TT} (h : PT X e t) (k : ∀ σ H Q, t' σ H Q → t σ H Q) : PT X e t' := ⟨fun pins s σ H Q I q => h.run pins s σ H Q I (k σ H Q q)⟩
theorem PW.imp {X : Cx} {e : Expr} {t t' : TT} (h : PW X e t) (k : ∀ σ H Q, t' σ H Q → t σ H Q) : PW X e t' := ⟨fun w pins s σ H Q I q => h.run w pins s σ H Q I (k σ H Q q)⟩
theorem PA.imp {X : Cx} {e : List Expr} {t t' : TA} (h : PA X e t) (k : ∀ σ H Q, t' σ H Q → t σ H Q) : PA X e t' := ⟨fun p pins s σ H Q I q => h.run p pins s σ H Q I (k σ H Q q)⟩
theorem PS.imp {X : Cx} {e : Stmt} {t t' : TS} (h : PS X e t) (k : ∀ D σ H, t' D σ H → t D σ H) : PS X e t' := ⟨fun pins s σ H D I q => h.run pins s σ H D I (k D σ H q)⟩
theorem PSs.imp {X : Cx} {e : List Stmt} {t t' : TS} (h : PSs X e t) (k : ∀ D σ H, t' D σ H → t D σ H) : PSs X e t' := ⟨fun pins s σ H D I q => h.run pins s σ H D I (k D σ H q)⟩

/-! ### what an operation on data gives -/
inductive Res where
  | val (d : D) | new (ds : List D)
def Res.run (r : Res) (h : VH) (Q : PQ) : Prop := match r with
  | .val d => Q d h
  | .new ds => Q (.ref h.length) (h ++ [.lst ds])
def fin (o : Option Res) (h : VH) (Q : PQ) : Prop := match o with
  | none => False
  | some r => r.run h Q
theorem fin_mono {o : Option Res} {h : VH} {Q Q' : PQ} (k : ∀ d h, Q d h → Q' d h) (q : fin o h Q) : fin o h Q' := by
  cases o with
  | none => exact q.elim
  | some r => cases r <;> exact k _ _ q

abbrev F2 := D → D → VH → Option Res
def rOf (G : Gd) (g : F2) : R2 := fun x y H Q => ∃ ρ h dx dy, VOk G H ρ h ∧ Rp G H ρ h.length dx x ∧ Rp G H ρ h.length dy y ∧ fin (g dx dy h) h (QV G ρ h H Q)
abbrev F1 := D → VH → Option Res
def rOf1 (G : Gd) (g : F1) : V → Hp → VK → Prop := fun x H Q => ∃ ρ h dx, VOk G H ρ h ∧ Rp G H ρ h.length dx x ∧ fin (g dx h) h (QV G ρ h H Q)
abbrev FN := List D → VH → Option Res
def rOfN (G : Gd) (g : FN) : List V → Hp → VK → Prop := fun xs H Q => ∃ ρ h ds, VOk G H ρ h ∧ RpA G H ρ h.length ds xs ∧ fin (g ds h) h (QV G ρ h H Q)

section
variable {G : Gd} {H : Hp} {ρ : Nat → Addr} {h : VH} {Q : VK}
/-- a value at once -/
theorem fin_val {d : D} {v : V} (ok : VOk G H ρ h) (r : Rp G H ρ h.length d v) (q : QV G ρ h H Q d h) : Q v H := q ρ v H (Stp.refl ok) r
/-- a new tuple -/
theorem fin_tup {ds : List D} {xs : List V} (ok : VOk G H ρ h) (r : RpA G H ρ h.length ds xs) (q : QV G ρ h H Q (.tup ds) h) : ∀ p, H p = none → Q (.ref p) (upd H p (.tup xs)) := fun p hp => by
  have s := Stp.new (o := .tup xs) ok hp
  exact q ρ _ _ s (.tup (.of upd_same) (s.rpA ok r))
/-- a new list -/
theorem fin_new {ds : List D} {xs : List V} (ok : VOk G H ρ h) (r : RpA G H ρ h.length ds xs) (q : QV G ρ h H Q (.ref h.length) (h ++ [.lst ds])) : ∀ p, H p = none → Q (.ref p) (upd H p (.lst xs)) := fun p hp => by
  have s := Stp.alloc ok hp r
  have e : V.ref p = V.ref (ext ρ h.length p h.length) := by rw [ext_self]
  rw [e]
  exact q _ _ _ s (.ref (by simp))
end

/-! ### operators -/
def line : Nat := 16777216
theorem fuel_ex : ∃ n : Nat, n = 16777216 := ⟨_, rfl⟩
/-- the turns that a loop may take; the kernel is not to count them -/
noncomputable def fuel : Nat := Classical.choose fuel_ex
theorem fuel_eq : fuel = 16777216 := Classical.choose_spec fuel_ex
theorem line_eq : line = sizeLine := by rw [sizeLine_eq]; rfl
def lstAt (h : VH) (k : Nat) : Option (List D) := match h[k]? with
  | some (.lst ds) => some ds
  | _ => none
theorem VOk.lst {G : Gd} {H : Hp} {ρ : Nat → Addr} {h : VH} (ok : VOk G H ρ h) {k : Nat} {ds : List D} (e : lstAt h k = some ds) : ∃ xs, H (ρ k) = some (.lst xs) ∧ RpA G H ρ h.length ds xs ∧ k < h.length := by
  unfold lstAt at e
  cases q : h[k]? with
  | none => rw [q] at e; cases e
  | some o =>
    rw [q] at e
    cases o with
    | lst es =>
      cases e
      obtain ⟨xs, e1, r⟩ := ok.ob k _ q
      exact ⟨xs, e1, r, (List.getElem?_eq_some_iff.mp q).1⟩
def gAdd : F2 := fun x y h => match x, y with
  | .int i, .int j => some (.val (.int (i + j)))
  | .str a, .str b => if a.length + b.length ≤ line then some (.val (.str (a ++ b))) else none
  | .tup a, .tup b => if a.length + b.length ≤ line then some (.val (.tup (a ++ b))) else none
  | .ref k, .ref l => match lstAt h k, lstAt h l with
    | some a, some b => if a.length + b.length ≤ line then some (.new (a ++ b)) else none
    | _, _ => none
  | _, _ => none
def gSub : F2 := fun x y _ => match x, y with
  | .int i, .int j => some (.val (.int (i - j)))
  | _, _ => none
/-- the size of a product of ints -/
def mulOk (i j : Int) : Bool := decide (i.natAbs < 18446744073709551616) || (decide (j.natAbs < 18446744073709551616) || (decide (i.natAbs.log2 < 400000) && decide (j.natAbs.log2 < 400000)))
def gMul : F2 := fun x y h => match x, y with
  | .int i, .int j => if mulOk i j then some (.val (.int (i * j))) else none
  | .tup a, .int k => if a ≠ [] ∧ 2 ≤ k ∧ k ≤ 1000 ∧ a.length ≤ 1000 then some (.val (.tup (List.replicate k.toNat a).flatten)) else none
  | .ref l, .int k => match lstAt h l with
    | some a => if -9223372036854775808 ≤ k ∧ k < 9223372036854775808 ∧ a.length * k.toNat ≤ line then some (.new (List.replicate k.toNat a).flatten) else none
    | none => none
  | _, _ => none
def gDiv : F2 := fun x y _ => match x, y with
  | .int i, .int j => if 0 < j ∧ j.natAbs.log2 < 8000 then some (.val (.int (i / j))) else none
  | _, _ => none
def gMod : F2 := fun x y _ => match x, y with
  | .int i, .int j => if 0 < j then some (.val (.int (i % j))) else none
  | _, _ => none
def gPow : F2 := fun x y _ => match x, y with
  | .int i, .int j => if 0 ≤ j ∧ j ≤ 1000 ∧ i.natAbs < 18446744073709551616 then some (.val (.int (i ^ j.toNat))) else none
  | _, _ => none
end Ev
namespace Ev
open PySem PySem.Spec PyProof.Rows L2 NdefX
section
variable {X : Cx} {T : List NTab}
theorem or_add : OpR X (binaryOp .Add) (rOf (gd X T) gAdd) := by
  intro pins s σ H x y v u Q I rx ry ⟨ρ, h, dx, dy, ok, r1, r2, hf⟩
  cases r1 with
  | int i => cases r2 with
    | int j => exact op_add pins s σ H _ _ v u Q I rx ry ⟨i, j, rfl, rfl, fin_val ok (.int _) hf⟩
    | _ => exact hf.elim
  | str i => cases r2 with
    | str j =>
      simp only [gAdd] at hf
      split at hf
      · rename_i hl
        exact op_add_str pins s σ H _ _ v u Q I rx ry ⟨i, j, rfl, rfl, by rw [← line_eq]; exact hl, fin_val ok (.str _) hf⟩
      · exact hf.elim
    | _ => exact hf.elim
  | tup q1 t1 => cases r2 with
    | tup q2 t2 =>
      simp only [gAdd] at hf
      split at hf
      · rename_i hl
        rw [t1.length, t2.length] at hl
        refine op_catA pins s σ H _ _ v u Q I rx ry ⟨_, _, _, _, rfl, rfl, q1, q2, by rw [← line_eq]; exact hl, fun e => ?_, fun _ e => ?_, fun _ _ => fin_tup ok (t1.append t2) hf⟩
        · subst e
          cases t1
          exact fin_val ok (.tup q2 t2) hf
        · subst e
          cases t2
          rw [List.append_nil] at hf
          exact fin_val ok (.tup q1 t1) hf
      · exact hf.elim
    | _ => exact hf.elim
  | ref k => cases r2 with
    | ref l =>
      simp only [gAdd] at hf
      split at hf
      · rename_i a b ea eb
        split at hf
        · rename_i hl
          obtain ⟨xs, e1, t1, _⟩ := ok.lst ea
          obtain ⟨ys, e2, t2, _⟩ := ok.lst eb
          rw [t1.length, t2.length] at hl
          exact op_cat pins s σ H _ _ v u Q I rx ry ⟨_, _, _, _, rfl, rfl, e1, e2, by rw [← line_eq]; exact hl, fin_new ok (t1.append t2) hf⟩
        · exact hf.elim
      · exact hf.elim
    | _ => exact hf.elim
  | _ => exact hf.elim
theorem or_sub : OpR X (binaryOp .Sub) (rOf (gd X T) gSub) := by
  intro pins s σ H x y v u Q I rx ry ⟨ρ, h, dx, dy, ok, r1, r2, hf⟩
  cases r1 with
  | int i => cases r2 with
    | int j => exact op_sub pins s σ H _ _ v u Q I rx ry ⟨i, j, rfl, rfl, fin_val ok (.int _) hf⟩
    | _ => exact hf.elim
  | _ => exact hf.elim
theorem mulOk_ok {i j : Int} (h : mulOk i j = true) : CMul i j ∨ CMulW i j := by
  unfold mulOk at h
  simp only [Bool.or_eq_true, Bool.and_eq_true, decide_eq_true_eq] at h
  rcases h with h | h | ⟨h1, h2⟩
  · exact .inl (.inl ⟨by omega, by omega⟩)
  · exact .inl (.inr ⟨by omega, by omega⟩)
  · exact .inr (by unfold CMulW; omega)
theorem rpA_rep {G : Gd} {H : Hp} {ρ : Nat → Addr} {n : Nat} {ds : List D} {xs : List V} (r : RpA G H ρ n ds xs) : ∀ k : Nat, RpA G H ρ n (List.replicate k ds).flatten (List.replicate k xs).flatten
  | 0 => .nil
  | k + 1 => by
    rw [List.replicate_succ, List.replicate_succ, List.flatten_cons, List.flatten_cons]
    exact r.append (rpA_rep r k)
theorem or_mul : OpR X (binaryOp .Mult) (rOf (gd X T) gMul) := by
  intro pins s σ H x y v u Q I rx ry ⟨ρ, h, dx, dy, ok, r1, r2, hf⟩
  cases r1 with
  | int i => cases r2 with
    | int j =>
      simp only [gMul] at hf
      split at hf
      · rename_i hl
        rcases mulOk_ok hl with c | c
        · exact op_mul pins s σ H _ _ v u Q I rx ry ⟨i, j, rfl, rfl, c, fin_val ok (.int _) hf⟩
        · exact op_mulW pins s σ H _ _ v u Q I rx ry ⟨i, j, rfl, rfl, c, fin_val ok (.int _) hf⟩
      · exact hf.elim
    | _ => exact hf.elim
  | tup q1 t1 => cases r2 with
    | int k =>
      simp only [gMul] at hf
      split at hf
      · rename_i hl
        obtain ⟨h0, h1, h2, h3⟩ := hl
        rw [t1.length] at h3
        refine op_repT pins s σ H _ _ v u Q I rx ry ⟨_, _, _, rfl, rfl, q1, fun e => ?_, h1, h2, h3, fin_tup ok (rpA_rep t1 _) hf⟩
        subst e
        cases t1
        exact h0 rfl
      · exact hf.elim
    | _ => exact hf.elim
  | ref k => cases r2 with
    | int j =>
      simp only [gMul] at hf
      split at hf
      · rename_i a ea
        split at hf
        · rename_i hl
          obtain ⟨h0, h1, h2⟩ := hl
          obtain ⟨xs, e1, t1, _⟩ := ok.lst ea
          rw [t1.length] at h2
          exact op_rep pins s σ H _ _ v u Q I rx ry ⟨_, _, _, rfl, rfl, e1, by omega, by omega, by rw [← line_eq]; exact h2, fin_new ok (rpA_rep t1 _) hf⟩
        · exact hf.elim
      · exact hf.elim
    | _ => exact hf.elim
  | _ => exact hf.elim
theorem or_div : OpR X (binaryOp .FloorDiv) (rOf (gd X T) gDiv) := by
  intro pins s σ H x y v u Q I rx ry ⟨ρ, h, dx, dy, ok, r1, r2, hf⟩
  cases r1 with
  | int i => cases r2 with
    | int j =>
      simp only [gDiv] at hf
      split at hf
      · rename_i hl
        exact op_fdivW pins s σ H _ _ v u Q I rx ry ⟨i, j, rfl, rfl, ⟨hl.1, by omega⟩, fin_val ok (.int _) hf⟩
      · exact hf.elim
    | _ => exact hf.elim
  | _ => exact hf.elim
theorem or_mod : OpR X (binaryOp .Mod) (rOf (gd X T) gMod) := by
  intro pins s σ H x y v u Q I rx ry ⟨ρ, h, dx, dy, ok, r1, r2, hf⟩
  cases r1 with
  | int i => cases r2 with
    | int j =>
      simp only [gMod] at hf
      split at hf
      · rename_i hl
        exact op_mod pins s σ H _ _ v u Q I rx ry ⟨i, j, rfl, rfl, hl, fin_val ok (.int _) hf⟩
      · exact hf.elim
    | _ => exact hf.elim
  | _ => exact hf.elim
theorem or_pow : OpR X (binaryOp .Pow) (rOf (gd X T) gPow) := by
  intro pins s σ H x y v u Q I rx ry ⟨ρ, h, dx, dy, ok, r1, r2, hf⟩
  cases r1 with
  | int i => cases r2 with
    | int j =>
      simp only [gPow] at hf
      split at hf
      · rename_i hl
        exact op_pow pins s σ H _ _ v u Q I rx ry ⟨i, j, rfl, rfl, ⟨hl.1, by omega, by omega⟩, fin_val ok (.int _) hf⟩
      · exact hf.elim
    | _ => exact hf.elim
  | _ => exact hf.elim
end
inductive Bop where
  | add | sub | mul | div | mod | pow
def Bop.g : Bop → F2
  | .add => gAdd | .sub => gSub | .mul => gMul | .div => gDiv | .mod => gMod | .pow => gPow
def Bop.op : Bop → Operator
  | .add => .Add | .sub => .Sub | .mul => .Mult | .div => .FloorDiv | .mod => .Mod | .pow => .Pow
theorem or_bin {X : Cx} {T : List NTab} : ∀ b : Bop, OpR X (binaryOp b.op) (rOf (gd X T) b.g)
  | .add => or_add | .sub => or_sub | .mul => or_mul | .div => or_div | .mod => or_mod | .pow => or_pow
/-! ### a op b -/
def fBin (g : F2) (fa fb : FE) : FE := fun env h Q E => fa env h (fun x h1 => fb env h1 (fun y h2 => fin (g x y h2) h2 Q) E) E
theorem fBin_mono {g : F2} {fa fb : FE} (ma : MonE fa) (mb : MonE fb) : MonE (fBin g fa fb) := ⟨fun kQ kE q => ma.mo (fun _ _ q1 => mb.mo (fun _ _ q2 => fin_mono kQ q2) kE q1) kE q⟩
section
variable {X : Cx} {T : List NTab} {W : WX} {a b : Expr} {fa fb : FE} {pos : Pos}
theorem lE_bin {G : Gd} {g : F2} (ma : MonE fa) (mb : MonE fb) {σ : L2.St} {H : Hp} {Q : VK} (q : lE G W (fBin g fa fb) σ H Q) : tOp (rOf G g) (lE G W fa) (lE G W fb) σ H Q := by
  obtain ⟨ρ, env, h, m, hf⟩ := q
  refine ⟨ρ, env, h, m, ma.mo (fun x h1 q1 => ?_) (fun _ _ _ e => e) hf⟩
  intro ρ1 v H1 s1 r1
  refine ⟨ρ1, env, h1, m.step s1, mb.mo (fun y h2 q2 => ?_) (fun _ _ _ e => e.step s1) q1⟩
  intro ρ2 u H2 s2 r2
  exact ⟨ρ2, h2, x, y, s2.ok, s2.rp s1.ok r1, r2, fin_mono (fun _ _ z => z.step (s1.trans s2)) q2⟩
theorem se_bin (o : Bop) (ma : MonE fa) (mb : MonE fb) (ha : PE X a (lE (gd X T) W fa)) (hb : PE X b (lE (gd X T) W fb)) : PE X (.BinOp a o.op b pos) (lE (gd X T) W (fBin o.g fa fb)) :=
  PE.imp (pe_op (or_bin o) ha hb) fun _ _ _ q => lE_bin ma mb q
end
end Ev

set_option Elab.async false
set_option linter.all false
set_option maxRecDepth 100000
/-! Ev3: comparisons and built-ins by data. -/
namespace Ev
open PySem PySem.Spec PyProof.Rows L2 NdefX

/-! ### data as the library has it -/
def allSome {α β : Type} (f : α → Option β) : List α → Option (List β)
  | [] => some []
  | x :: xs => match f x with
    | none => none
    | some y => match allSome f xs with
      | none => none
      | some ys => some (y :: ys)
def toPy (h : VH) : Nat → D → Option PyData
  | 0, _ => none
  | n + 1, d => match d with
    | .non => some .none
    | .bl b => some (.bool b)
    | .int i => some (.int i)
    | .str x => if PyData.strOk x then some (.str x) else none
    | .tup ds => match allSome (toPy h n) ds with
      | some ps => some (.tuple ps)
      | none => none
    | .ref k => match lstAt h k with
      | some ds => match allSome (toPy h n) ds with
        | some ps => some (.list ps)
        | none => none
      | none => none
    | _ => none
section
variable {G : Gd} {H : Hp} {ρ : Nat → Addr} {h : VH}
theorem allSome_dp (f : D → Option PyData) {m : Nat} : ∀ {ds : List D} {vs : List V} {ps : List PyData}, (∀ d v p, f d = some p → Rp G H ρ h.length d v → Dp G.K H v p ∧ p.canLay0 = true ∧ p.depth ≤ m) →
    allSome f ds = some ps → RpA G H ρ h.length ds vs → DpAll G.K H vs ps ∧ PyData.canLayAll0 ps = true ∧ PyData.depthAll ps ≤ m
  | [], _, ps, _, e, r => by
    cases r
    cases e
    exact ⟨.nil, rfl, Nat.zero_le _⟩
  | d :: ds, _, ps, k, e, r => by
    cases r with
    | cons r t =>
      unfold allSome at e
      cases e1 : f d with
      | none => rw [e1] at e; cases e
      | some p =>
        rw [e1] at e
        simp only at e
        cases e2 : allSome f ds with
        | none => rw [e2] at e; cases e
        | some qs =>
          rw [e2] at e
          cases e
          obtain ⟨a1, a2, a3⟩ := k d _ p e1 r
          obtain ⟨b1, b2, b3⟩ := allSome_dp f k e2 t
          refine ⟨.cons a1 b1, by simp only [PyData.canLayAll0, a2, b2, Bool.and_self], ?_⟩
          simp only [PyData.depthAll]
          omega
theorem toPy_dp (ok : VOk G H ρ h) : ∀ (n : Nat) (d : D) (v : V) (p : PyData), toPy h n d = some p → Rp G H ρ h.length d v → Dp G.K H v p ∧ p.canLay0 = true ∧ p.depth ≤ n
  | 0, _, _, _, e, _ => by cases e
  | n + 1, d, v, p, e, r => by
    have ih := toPy_dp ok n
    cases r with
    | non => cases e; exact ⟨.non, rfl, Nat.zero_le _⟩
    | bl b => cases e; exact ⟨.bl b, rfl, Nat.zero_le _⟩
    | int i => cases e; exact ⟨.int i, rfl, Nat.zero_le _⟩
    | str x =>
      simp only [toPy] at e
      split at e
      · rename_i hs
        cases e
        exact ⟨.str x, hs, Nat.zero_le _⟩
      · cases e
    | tup q t =>
      simp only [toPy] at e
      split at e
      · rename_i ps e1
        cases e
        obtain ⟨a1, a2, a3⟩ := allSome_dp (toPy h n) ih e1 t
        exact ⟨.tup q a1, a2, by simp only [PyData.depth]; omega⟩
      · cases e
    | ref k =>
      simp only [toPy] at e
      split at e
      · rename_i ds e1
        split at e
        · rename_i ps e2
          cases e
          obtain ⟨xs, e3, t, _⟩ := ok.lst e1
          obtain ⟨a1, a2, a3⟩ := allSome_dp (toPy h n) ih e2 t
          exact ⟨.lst (.of e3) a1, a2, by simp only [PyData.depth]; omega⟩
        · cases e
      · cases e
    | _ => cases e
theorem toPy_shaped (ok : VOk G H ρ h) {d : D} {v : V} {p : PyData} (e : toPy h 60 d = some p) (r : Rp G H ρ h.length d v) : Dp G.K H v p ∧ SeqAt.shaped p = true := by
  obtain ⟨a1, a2, a3⟩ := toPy_dp ok 60 d v p e r
  refine ⟨a1, ?_⟩
  unfold SeqAt.shaped
  rw [a2, Bool.true_and]
  exact decide_eq_true (by omega)
end
/-! ### order of tuples -/
def lexB (le : D → D → Option Bool) (py : D → Option PyData) : List D → List D → Option Bool
  | [], _ => some true
  | _ :: _, [] => some false
  | a :: as, b :: bs => match py a, py b, lexB le py as bs with
    | some p, some q, some t => if PyData.eqv p q = true then some t else le a b
    | _, _, _ => none
def leD (h : VH) : Nat → D → D → Option Bool
  | 0, _, _ => none
  | n + 1, x, y => match x, y with
    | .int i, .int j => some (decide (i ≤ j))
    | .tup as, .tup bs => lexB (leD h n) (toPy h 50) as bs
    | _, _ => none
theorem lexAt_shift {e r : Nat → Bool} {z : Bool} : ∀ (k i : Nat), Ob.lexAt e r z (i + 1) k = Ob.lexAt (fun j => e (j + 1)) (fun j => r (j + 1)) z i k
  | 0, _ => rfl
  | k + 1, i => by
    rw [Ob.lexAt_succ, Ob.lexAt_succ, lexAt_shift k (i + 1)]
theorem lexB_at {le : D → D → Option Bool} {py : D → Option PyData} : ∀ {as bs : List D} {k : Bool}, lexB le py as bs = some k →
    ∃ e r : Nat → Bool, (∀ j a b, as[j]? = some a → bs[j]? = some b → ∃ p q, py a = some p ∧ py b = some q ∧ e j = PyData.eqv p q ∧ (e j = false → le a b = some (r j))) ∧
      Ob.lexAt e r (decide (as.length ≤ bs.length)) 0 (min as.length bs.length) = k
  | [], bs, k, h => by
    cases h
    refine ⟨fun _ => true, fun _ => true, fun j a b ha => by simp at ha, ?_⟩
    simp [Ob.lexAt_zero]
  | a :: as, [], k, h => by
    cases h
    refine ⟨fun _ => true, fun _ => true, fun j a b _ hb => by simp at hb, ?_⟩
    simp [Ob.lexAt_zero]
  | a :: as, b :: bs, k, h => by
    unfold lexB at h
    split at h
    · rename_i p q t h1 h2 h3
      obtain ⟨e, r, hh, hl⟩ := lexB_at h3
      cases hk : PyData.eqv p q with
      | true =>
        rw [hk, if_pos rfl] at h
        cases h
        refine ⟨fun j => match j with | 0 => true | j + 1 => e j, fun j => match j with | 0 => true | j + 1 => r j, fun j x y hx hy => ?_, ?_⟩
        · cases j with
          | zero =>
            simp at hx hy
            subst hx hy
            exact ⟨p, q, h1, h2, hk.symm, fun z => absurd z (by simp)⟩
          | succ j => exact hh j x y (by simpa using hx) (by simpa using hy)
        · have e1 : min (a :: as).length (b :: bs).length = min as.length bs.length + 1 := by simp only [List.length_cons]; omega
          have e2 : decide ((a :: as).length ≤ (b :: bs).length) = decide (as.length ≤ bs.length) := by simp
          rw [e1, e2, Ob.lexAt_succ, if_pos rfl, lexAt_shift]
          exact hl
      | false =>
        rw [hk, if_neg Bool.false_ne_true] at h
        refine ⟨fun j => match j with | 0 => false | j + 1 => e j, fun j => match j with | 0 => k | j + 1 => r j, fun j x y hx hy => ?_, ?_⟩
        · cases j with
          | zero =>
            simp at hx hy
            subst hx hy
            exact ⟨p, q, h1, h2, hk.symm, fun _ => h⟩
          | succ j => exact hh j x y (by simpa using hx) (by simpa using hy)
        · have e1 : min (a :: as).length (b :: bs).length = min as.length bs.length + 1 := by simp only [List.length_cons]; omega
          rw [e1, Ob.lexAt_succ, if_neg Bool.false_ne_true]
    · cases h
theorem leD_rc {X : Cx} {pins : List (Addr × Obj)} {σ : L2.St} {T : List NTab} {H : Hp} {ρ : Nat → Addr} {h : VH} {s : Shared} (I : Inv X pins σ H s) (ok : VOk (gd X T) H ρ h) : ∀ (n : Nat) (x y : D) (v w : V) (a b : Value) (k : Bool) (A : Around),
    leD h n x y = some k → Rp (gd X T) H ρ h.length x v → Rp (gd X T) H ρ h.length y w → RelV v a → RelV w b → A.units + 52 + n < cLine → Ob.RcOp .LtE A s a b k
  | 0, _, _, _, _, _, _, _, _, e, _, _, _, _, _ => by cases e
  | n + 1, x, y, v, w, a, b, k, A, e, r1, r2, q1, q2, hu => by
    unfold leD at e
    split at e
    · cases r1
      cases r2
      obtain ⟨t, rfl⟩ := q1
      obtain ⟨t', rfl⟩ := q2
      cases e
      exact Ob.RcOp.le_int _ _ _ _
    · rename_i as bs
      cases r1 with
      | tup s1 t1 =>
        cases r2 with
        | tup s2 t2 =>
          cases q1
          cases q2
          obtain ⟨e', r', hh, hl⟩ := lexB_at e
          obtain ⟨its, p1, m1, _⟩ := I.tuple s1
          obtain ⟨its2, p2, m2, _⟩ := I.tuple s2
          have l1 : its.toArray.size = as.length := by rw [List.size_toArray, t1.length]; exact p1.length.symm
          have l2 : its2.toArray.size = bs.length := by rw [List.size_toArray, t2.length]; exact p2.length.symm
          have at1 : ∀ j (h1 : j < its.toArray.size), ∃ d v, as[j]? = some d ∧ Rp (gd X T) H ρ h.length d v ∧ RelV v its.toArray[j] := fun j h1 => by
            rw [l1] at h1
            obtain ⟨v, e1, r⟩ := t1.get (List.getElem?_eq_getElem h1)
            obtain ⟨u, e2, rv⟩ := p1.get e1
            refine ⟨_, v, List.getElem?_eq_getElem h1, r, ?_⟩
            have : its.toArray[j] = u := by
              have := (List.getElem?_eq_some_iff.mp e2).2
              simpa using this
            rw [this]
            exact rv
          have at2 : ∀ j (h1 : j < its2.toArray.size), ∃ d v, bs[j]? = some d ∧ Rp (gd X T) H ρ h.length d v ∧ RelV v its2.toArray[j] := fun j h1 => by
            rw [l2] at h1
            obtain ⟨v, e1, r⟩ := t2.get (List.getElem?_eq_getElem h1)
            obtain ⟨u, e2, rv⟩ := p2.get e1
            refine ⟨_, v, List.getElem?_eq_getElem h1, r, ?_⟩
            have : its2.toArray[j] = u := by
              have := (List.getElem?_eq_some_iff.mp e2).2
              simpa using this
            rw [this]
            exact rv
          have R := Ob.RcOp.tuples_le (A := A) (s := s) (e := e') (r := r') m1 m2 (by omega) (fun j h1 h2 => ?_) (fun j h1 h2 hj => ?_)
          · rw [l1, l2, hl] at R
            exact R
          · obtain ⟨d1, v1, g1, rr1, rv1⟩ := at1 j h1
            obtain ⟨d2, v2, g2, rr2, rv2⟩ := at2 j h2
            obtain ⟨p, q, c1, c2, c3, _⟩ := hh j d1 d2 g1 g2
            rw [c3]
            obtain ⟨a1, a2, a3⟩ := toPy_dp ok 50 d1 v1 p c1 rr1
            obtain ⟨b1, b2, b3⟩ := toPy_dp ok 50 d2 v2 q c2 rr2
            obtain ⟨as', z1⟩ := Dp.reads I p _ _ a1 rv1
            obtain ⟨bs', z2⟩ := Dp.reads I q _ _ b1 rv2
            exact SeqAt.eqAt_reads p q A.in1 s _ _ as' bs' z1 z2 a2 b2 (by
              have : A.in1.units ≤ A.units + 1 := Nat.le_refl _
              omega)
          · obtain ⟨d1, v1, g1, rr1, rv1⟩ := at1 j h1
            obtain ⟨d2, v2, g2, rr2, rv2⟩ := at2 j h2
            obtain ⟨p, q, _, _, _, c4⟩ := hh j d1 d2 g1 g2
            exact leD_rc I ok n d1 d2 v1 v2 _ _ _ A.in1 (c4 hj) rr1 rr2 rv1 rv2 (by
              have : A.in1.units ≤ A.units + 1 := Nat.le_refl _
              omega)
    · cases e
/-- ==, as a Bool -/
def eqD (x y : D) (h : VH) : Option Bool := match x, y with
  | .int i, .int j => some (decide (i = j))
  | .str a, .str b => some (decide (a = b))
  | .bl a, .bl b => some (decide (a = b))
  | x, y => match toPy h 60 x, toPy h 60 y with
    | some p, some q => some (PyData.eqv p q)
    | _, _ => none
def resB (o : Option Bool) : Option Res := match o with
  | some b => some (.val (.bl b))
  | none => none
def gEq : F2 := fun x y h => resB (eqD x y h)
def gNe : F2 := fun x y h => resB ((eqD x y h).map (!·))
def gLt : F2 := fun x y _ => match x, y with
  | .int i, .int j => some (.val (.bl (decide (i < j))))
  | _, _ => none
def gLe : F2 := fun x y h => match x, y with
  | .int i, .int j => some (.val (.bl (decide (i ≤ j))))
  | .tup as, .tup bs => resB (leD h 8 (.tup as) (.tup bs))
  | _, _ => none
def gGt : F2 := fun x y _ => match x, y with
  | .int i, .int j => some (.val (.bl (decide (j < i))))
  | _, _ => none
def gGe : F2 := fun x y _ => match x, y with
  | .int i, .int j => some (.val (.bl (decide (j ≤ i))))
  | _, _ => none
/-- a flat value -/
def scD : D → Option V
  | .non => some .non
  | .bl b => some (.bl b)
  | .int i => some (.int i)
  | .str x => some (.str x)
  | _ => none
def inSeq (x : D) (ds : List D) : Option Bool := match scD x, allSome scD ds with
  | some v, some vs => some (inV v vs)
  | _, _ => none
def inD (x y : D) (h : VH) : Option Bool := match y with
  | .tup ds => inSeq x ds
  | .ref k => match lstAt h k with
    | some ds => inSeq x ds
    | none => none
  | .str z => match x with
    | .str c => if c.cps.size = 1 then some (decide (c.cps.getD 0 0 ∈ z.cps.toList)) else none
    | _ => none
  | _ => none
def gIn : F2 := fun x y h => resB (inD x y h)
def gNin : F2 := fun x y h => resB ((inD x y h).map (!·))
section
variable {X : Cx} {T : List NTab}
theorem room64 {k : Nat} {A : Around} (hr : Room k A) : A.units + 64 < cLine := hr.units
theorem or_eq (hu : X.A.units + 64 < cLine) : OpR X (compareOp .Eq) (rOf (gd X T) gEq) := by
  intro pins s σ H x y v u Q I rx ry ⟨ρ, h, dx, dy, ok, r1, r2, hf⟩
  have gen : (∀ i, dx = .int i → ∀ j, dy ≠ .int j) → (∀ i, dx = .str i → ∀ j, dy ≠ .str j) → (∀ i, dx = .bl i → ∀ j, dy ≠ .bl j) → wpAny (model X.prog X.w) X.A (compareOp .Eq v u) (EP X pins σ Q) X.xe s := fun n1 n2 n3 => by
    have e : eqD dx dy h = (match toPy h 60 dx, toPy h 60 dy with
      | some p, some q => some (PyData.eqv p q)
      | _, _ => none) := by
      unfold eqD
      split
      · exact absurd rfl (n1 _ rfl _)
      · exact absurd rfl (n2 _ rfl _)
      · exact absurd rfl (n3 _ rfl _)
      · rfl
    unfold gEq at hf
    rw [e] at hf
    cases e1 : toPy h 60 dx with
    | none => rw [e1] at hf; exact hf.elim
    | some p =>
      cases e2 : toPy h 60 dy with
      | none => rw [e1, e2] at hf; exact hf.elim
      | some q =>
        rw [e1, e2] at hf
        obtain ⟨a1, a2⟩ := toPy_shaped ok e1 r1
        obtain ⟨b1, b2⟩ := toPy_shaped ok e2 r2
        exact op_eqD hu pins s σ H x y v u Q I rx ry ⟨p, q, a1, b1, a2, b2, fin_val ok (.bl _) hf⟩
  cases dx with
  | int i =>
    cases dy with
    | int j => cases r1; cases r2; exact op_eq pins s σ H _ _ v u Q I rx ry ⟨rfl, fin_val ok (.bl _) (by rw [dec_int]; exact hf)⟩
    | _ => exact gen (fun _ _ _ z => by cases z) (fun _ z => by cases z) (fun _ z => by cases z)
  | str i =>
    cases dy with
    | str j => cases r1; cases r2; exact op_eq pins s σ H _ _ v u Q I rx ry ⟨rfl, fin_val ok (.bl _) (by rw [dec_str]; exact hf)⟩
    | _ => exact gen (fun _ z => by cases z) (fun _ _ _ z => by cases z) (fun _ z => by cases z)
  | bl i =>
    cases dy with
    | bl j => cases r1; cases r2; exact op_eq pins s σ H _ _ v u Q I rx ry ⟨rfl, fin_val ok (.bl _) (by rw [dec_bl]; exact hf)⟩
    | _ => exact gen (fun _ z => by cases z) (fun _ z => by cases z) (fun _ _ _ z => by cases z)
  | _ => exact gen (fun _ z => by cases z) (fun _ z => by cases z) (fun _ z => by cases z)
theorem or_ne (hu : X.A.units + 64 < cLine) : OpR X (compareOp .NotEq) (rOf (gd X T) gNe) := by
  intro pins s σ H x y v u Q I rx ry ⟨ρ, h, dx, dy, ok, r1, r2, hf⟩
  have gen : (∀ i, dx = .int i → ∀ j, dy ≠ .int j) → (∀ i, dx = .str i → ∀ j, dy ≠ .str j) → (∀ i, dx = .bl i → ∀ j, dy ≠ .bl j) → wpAny (model X.prog X.w) X.A (compareOp .NotEq v u) (EP X pins σ Q) X.xe s := fun n1 n2 n3 => by
    have e : eqD dx dy h = (match toPy h 60 dx, toPy h 60 dy with
      | some p, some q => some (PyData.eqv p q)
      | _, _ => none) := by
      unfold eqD
      split
      · exact absurd rfl (n1 _ rfl _)
      · exact absurd rfl (n2 _ rfl _)
      · exact absurd rfl (n3 _ rfl _)
      · rfl
    unfold gNe at hf
    rw [e] at hf
    cases e1 : toPy h 60 dx with
    | none => rw [e1] at hf; exact hf.elim
    | some p =>
      cases e2 : toPy h 60 dy with
      | none => rw [e1, e2] at hf; exact hf.elim
      | some q =>
        rw [e1, e2] at hf
        obtain ⟨a1, a2⟩ := toPy_shaped ok e1 r1
        obtain ⟨b1, b2⟩ := toPy_shaped ok e2 r2
        exact op_neD hu pins s σ H x y v u Q I rx ry ⟨p, q, a1, b1, a2, b2, fin_val ok (.bl _) hf⟩
  cases dx with
  | int i =>
    cases dy with
    | int j => cases r1; cases r2; exact op_ne pins s σ H _ _ v u Q I rx ry ⟨rfl, fin_val ok (.bl _) (by rw [dec_int]; exact hf)⟩
    | _ => exact gen (fun _ _ _ z => by cases z) (fun _ z => by cases z) (fun _ z => by cases z)
  | str i =>
    cases dy with
    | str j => cases r1; cases r2; exact op_ne pins s σ H _ _ v u Q I rx ry ⟨rfl, fin_val ok (.bl _) (by rw [dec_str]; exact hf)⟩
    | _ => exact gen (fun _ z => by cases z) (fun _ _ _ z => by cases z) (fun _ z => by cases z)
  | bl i =>
    cases dy with
    | bl j => cases r1; cases r2; exact op_ne pins s σ H _ _ v u Q I rx ry ⟨rfl, fin_val ok (.bl _) (by rw [dec_bl]; exact hf)⟩
    | _ => exact gen (fun _ z => by cases z) (fun _ z => by cases z) (fun _ _ _ z => by cases z)
  | _ => exact gen (fun _ z => by cases z) (fun _ z => by cases z) (fun _ z => by cases z)

theorem or_lt : OpR X (compareOp .Lt) (rOf (gd X T) gLt) := by
  intro pins s σ H x y v u Q I rx ry ⟨ρ, h, dx, dy, ok, r1, r2, hf⟩
  cases r1 with
  | int i => cases r2 with
    | int j => exact op_lt pins s σ H _ _ v u Q I rx ry ⟨i, j, rfl, rfl, fin_val ok (.bl _) hf⟩
    | _ => exact hf.elim
  | _ => exact hf.elim
theorem or_le (hu : X.A.units + 64 < cLine) : OpR X (compareOp .LtE) (rOf (gd X T) gLe) := by
  intro pins s σ H x y v u Q I rx ry ⟨ρ, h, dx, dy, ok, r1, r2, hf⟩
  cases r1 with
  | int i => cases r2 with
    | int j => exact op_le pins s σ H _ _ v u Q I rx ry ⟨i, j, rfl, rfl, fin_val ok (.bl _) hf⟩
    | _ => exact hf.elim
  | tup s1 t1 => cases r2 with
    | tup s2 t2 =>
      rename_i as a2 ys bs
      simp only [gLe] at hf
      cases e : leD h 8 (.tup _) (.tup _) with
      | none => rw [e] at hf; exact hf.elim
      | some k =>
        rw [e] at hf
        have R := leD_rc I ok 8 _ _ _ _ v u k X.A e (.tup s1 t1) (.tup s2 t2) rx ry (by omega)
        exact R X.prog X.w X.xe (EP X pins σ Q) ⟨.bl k, H, I, rfl, fin_val ok (.bl _) hf⟩
    | _ => exact hf.elim
  | _ => exact hf.elim
theorem or_gt : OpR X (compareOp .Gt) (rOf (gd X T) gGt) := by
  intro pins s σ H x y v u Q I rx ry ⟨ρ, h, dx, dy, ok, r1, r2, hf⟩
  cases r1 with
  | int i => cases r2 with
    | int j => exact op_gt pins s σ H _ _ v u Q I rx ry ⟨i, j, rfl, rfl, fin_val ok (.bl _) hf⟩
    | _ => exact hf.elim
  | _ => exact hf.elim
theorem or_ge : OpR X (compareOp .GtE) (rOf (gd X T) gGe) := by
  intro pins s σ H x y v u Q I rx ry ⟨ρ, h, dx, dy, ok, r1, r2, hf⟩
  cases r1 with
  | int i => cases r2 with
    | int j => exact op_ge pins s σ H _ _ v u Q I rx ry ⟨i, j, rfl, rfl, fin_val ok (.bl _) hf⟩
    | _ => exact hf.elim
  | _ => exact hf.elim
theorem scD_v {G : Gd} {H : Hp} {ρ : Nat → Addr} {n : Nat} {d : D} {v w : V} (e : scD d = some w) (r : Rp G H ρ n d v) : v = w ∧ flatV w = true := by
  cases r <;> first | (cases e; exact ⟨rfl, rfl⟩) | cases e
theorem allSc_v {G : Gd} {H : Hp} {ρ : Nat → Addr} {n : Nat} : ∀ {ds : List D} {vs ws : List V}, allSome scD ds = some ws → RpA G H ρ n ds vs → vs = ws ∧ ws.all flatV = true
  | [], _, ws, e, r => by
    cases r
    cases e
    exact ⟨rfl, rfl⟩
  | d :: ds, _, ws, e, r => by
    cases r with
    | cons r t =>
      unfold allSome at e
      cases e1 : scD d with
      | none => rw [e1] at e; cases e
      | some p =>
        rw [e1] at e
        simp only at e
        cases e2 : allSome scD ds with
        | none => rw [e2] at e; cases e
        | some qs =>
          rw [e2] at e
          cases e
          obtain ⟨a1, a2⟩ := scD_v e1 r
          obtain ⟨b1, b2⟩ := allSc_v e2 t
          subst a1 b1
          exact ⟨rfl, by rw [List.all_cons, a2, b2]; rfl⟩
theorem inSeq_v {G : Gd} {H : Hp} {ρ : Nat → Addr} {n : Nat} {d : D} {ds : List D} {v : V} {vs : List V} {b : Bool} (e : inSeq d ds = some b) (r : Rp G H ρ n d v) (t : RpA G H ρ n ds vs) : flatV v = true ∧ vs.all flatV = true ∧ inV v vs = b := by
  unfold inSeq at e
  cases e1 : scD d with
  | none => rw [e1] at e; cases e
  | some p =>
    cases e2 : allSome scD ds with
    | none => rw [e1, e2] at e; cases e
    | some qs =>
      rw [e1, e2] at e
      cases e
      obtain ⟨a1, a2⟩ := scD_v e1 r
      obtain ⟨b1, b2⟩ := allSc_v e2 t
      subst a1 b1
      exact ⟨a2, b2, rfl⟩
theorem str_one {c : Str} (h : c.cps.size = 1) : c = ⟨#[c.cps.getD 0 0]⟩ := by
  obtain ⟨⟨l⟩⟩ := c
  have h' : l.length = 1 := h
  match l, h' with
  | [x], _ => rfl
theorem or_in : OpR X (compareOp .In) (rOf (gd X T) gIn) := by
  intro pins s σ H x y v u Q I rx ry ⟨ρ, h, dx, dy, ok, r1, r2, hf⟩
  cases e : inD dx dy h with
  | none => unfold gIn at hf; rw [e] at hf; exact hf.elim
  | some b =>
    unfold gIn at hf
    rw [e] at hf
    have hq := fin_val ok (.bl b) hf
    cases r2 with
    | tup q t =>
      obtain ⟨a1, a2, a3⟩ := inSeq_v e r1 t
      exact op_in_seq pins s σ H _ _ v u Q I rx ry ⟨_, _, rfl, .inr q, a1, a2, by rw [a3]; exact hq⟩
    | ref k =>
      simp only [inD] at e
      split at e
      · rename_i ds e1
        obtain ⟨xs, e3, t, _⟩ := ok.lst e1
        obtain ⟨a1, a2, a3⟩ := inSeq_v e r1 t
        exact op_in_seq pins s σ H _ _ v u Q I rx ry ⟨_, _, rfl, .inl (.of e3), a1, a2, by rw [a3]; exact hq⟩
      · cases e
    | str z =>
      simp only [inD] at e
      split at e
      · rename_i c
        split at e
        · rename_i hc
          cases e
          cases r1
          exact op_in_sign pins s σ H _ _ v u Q I rx ry ⟨c.cps.getD 0 0, z, congrArg V.str (str_one hc), rfl, hq⟩
        · cases e
      · cases e
    | _ => cases e
theorem or_nin : OpR X (compareOp .NotIn) (rOf (gd X T) gNin) := by
  intro pins s σ H x y v u Q I rx ry ⟨ρ, h, dx, dy, ok, r1, r2, hf⟩
  cases e : inD dx dy h with
  | none => unfold gNin at hf; rw [e] at hf; exact hf.elim
  | some b =>
    unfold gNin at hf
    rw [e] at hf
    have hq := fin_val ok (.bl (!b)) hf
    cases r2 with
    | tup q t =>
      obtain ⟨a1, a2, a3⟩ := inSeq_v e r1 t
      exact op_notIn_seq pins s σ H _ _ v u Q I rx ry ⟨_, _, rfl, .inr q, a1, a2, by rw [a3]; exact hq⟩
    | ref k =>
      simp only [inD] at e
      split at e
      · rename_i ds e1
        obtain ⟨xs, e3, t, _⟩ := ok.lst e1
        obtain ⟨a1, a2, a3⟩ := inSeq_v e r1 t
        exact op_notIn_seq pins s σ H _ _ v u Q I rx ry ⟨_, _, rfl, .inl (.of e3), a1, a2, by rw [a3]; exact hq⟩
      · cases e
    | str z =>
      simp only [inD] at e
      split at e
      · rename_i c
        split at e
        · rename_i hc
          cases e
          cases r1
          exact op_notIn_sign pins s σ H _ _ v u Q I rx ry ⟨c.cps.getD 0 0, z, congrArg V.str (str_one hc), rfl, hq⟩
        · cases e
      · cases e
    | _ => cases e
end
inductive Cop where
  | eq | ne | lt | le | gt | ge | in_ | nin
def Cop.g : Cop → F2
  | .eq => gEq | .ne => gNe | .lt => gLt | .le => gLe | .gt => gGt | .ge => gGe | .in_ => gIn | .nin => gNin
def Cop.op : Cop → CmpOp
  | .eq => .Eq | .ne => .NotEq | .lt => .Lt | .le => .LtE | .gt => .Gt | .ge => .GtE | .in_ => .In | .nin => .NotIn
theorem or_cmp {X : Cx} {T : List NTab} (hu : X.A.units + 64 < cLine) : ∀ b : Cop, OpR X (compareOp b.op) (rOf (gd X T) b.g)
  | .eq => or_eq hu | .ne => or_ne hu | .lt => or_lt | .le => or_le hu | .gt => or_gt | .ge => or_ge | .in_ => or_in | .nin => or_nin

/-! ### subscripts -/
def gIx : F2 := fun x y h => match x, y with
  | .tup ds, .int i => (atI ds i).map .val
  | .ref k, .int i => match lstAt h k with
    | some ds => (atI ds i).map .val
    | none => none
  | .str z, .int i => if z.length ≤ line then (atI z.cps.toList i).map fun c => .val (.str ⟨#[c]⟩) else none
  | _, _ => none
theorem atI_rp {G : Gd} {H : Hp} {ρ : Nat → Addr} {n : Nat} {ds : List D} {vs : List V} {i : Int} {d : D} (r : RpA G H ρ n ds vs) (e : atI ds i = some d) : ∃ v, atI vs i = some v ∧ Rp G H ρ n d v := by
  unfold atI at e ⊢
  rw [← r.length]
  cases q : ixN ds.length i with
  | none => rw [q] at e; cases e
  | some j =>
    rw [q] at e
    exact r.get e
theorem ix_all {X : Cx} {T : List NTab} : IxR X (rOf (gd X T) gIx) := by
  intro va sl pins s σ H x y v u Q I rx ry ⟨ρ, h, dx, dy, ok, r1, r2, hf⟩ hsub
  refine ix_seq va sl pins s σ H x y v u Q I rx ry ?_ hsub
  cases r1 with
  | tup q t =>
    cases r2 with
    | int i =>
      simp only [gIx] at hf
      rename_i ds
      cases e : atI ds i with
      | none => rw [e] at hf; exact hf.elim
      | some d =>
        rw [e] at hf
        obtain ⟨w, e1, r⟩ := atI_rp t e
        exact .inr (.inl ⟨_, _, i, w, rfl, rfl, q, e1, fin_val ok r hf⟩)
    | _ => exact hf.elim
  | ref k =>
    cases r2 with
    | int i =>
      simp only [gIx] at hf
      split at hf
      · rename_i ds e0
        obtain ⟨xs, e3, t, _⟩ := ok.lst e0
        cases e : atI ds i with
        | none => rw [e] at hf; exact hf.elim
        | some d =>
          rw [e] at hf
          obtain ⟨w, e1, r⟩ := atI_rp t e
          exact .inl ⟨_, _, i, w, rfl, rfl, .of e3, e1, fin_val ok r hf⟩
      · exact hf.elim
    | _ => exact hf.elim
  | str z =>
    cases r2 with
    | int i =>
      simp only [gIx] at hf
      split at hf
      · rename_i hz
        cases e : atI z.cps.toList i with
        | none => rw [e] at hf; exact hf.elim
        | some c =>
          rw [e] at hf
          exact .inr (.inr ⟨z, i, c, rfl, rfl, by rw [← line_eq]; exact hz, e, fin_val ok (.str _) hf⟩)
      · exact hf.elim
    | _ => exact hf.elim
  | _ => exact hf.elim
def cutD (ds : List D) (lo hi : Option Int) : List D := (ds.drop (HT.sIx ds.length 0 lo)).take (HT.sIx ds.length ds.length hi - HT.sIx ds.length 0 lo)
def gSl (x : D) (lo hi : Option Int) (h : VH) : Option Res := match x with
  | .tup ds => some (.val (.tup (cutD ds lo hi)))
  | .ref k => match lstAt h k with
    | some ds => some (.new (cutD ds lo hi))
    | none => none
  | .str z => if z.length ≤ line then some (.val (.str (cutS z lo hi))) else none
  | _ => none
theorem cut_rp {G : Gd} {H : Hp} {ρ : Nat → Addr} {n : Nat} {ds : List D} {vs : List V} {lo hi : Option Int} (r : RpA G H ρ n ds vs) : RpA G H ρ n (cutD ds lo hi) (cutV vs lo hi) := by
  unfold cutD cutV
  rw [← r.length]
  exact (r.drop _).take _
def rSl (G : Gd) : V → Option Int → Option Int → Hp → VK → Prop := fun x lo hi H Q => ∃ ρ h dx, VOk G H ρ h ∧ Rp G H ρ h.length dx x ∧ fin (gSl dx lo hi h) h (QV G ρ h H Q)
theorem sl_all {X : Cx} {T : List NTab} : SlR X (rSl (gd X T)) := by
  intro pins s σ H x v vl vu lo hi sl Q I rx hs pl pu hh
  obtain ⟨ρ, h, dx, ok, r1, hf⟩ := hh
  cases r1 with
  | tup q t =>
    refine sl_tupA pins s σ H _ v vl vu lo hi sl Q I rx hs pl pu ⟨_, _, rfl, q, fun hw => ?_, fun _ => fin_tup ok (cut_rp t) hf⟩
    rename_i a xs ds
    have e : cutD ds lo hi = ds := by
      unfold cutD
      rw [t.length, hw.1, hw.2, ← t.length]
      simp
    simp only [gSl, e] at hf
    exact fin_val ok (.tup q t) hf
  | ref k =>
    simp only [gSl] at hf
    split at hf
    · rename_i ds e0
      obtain ⟨xs, e3, t, _⟩ := ok.lst e0
      exact sl_list pins s σ H _ v vl vu lo hi sl Q I rx hs pl pu ⟨_, _, rfl, .of e3, fin_new ok (cut_rp t) hf⟩
    · exact hf.elim
  | str z =>
    simp only [gSl] at hf
    split at hf
    · rename_i hz
      exact sl_str pins s σ H _ v vl vu lo hi sl Q I rx hs pl pu ⟨z, rfl, by rw [← line_eq]; exact hz, fin_val ok (.str _) hf⟩
    · exact hf.elim
  | _ => exact hf.elim
end Ev

set_option Elab.async false
set_option linter.all false
set_option maxRecDepth 100000
/-! Ev3b: built-in calls by data. -/
namespace Ev
open PySem PySem.Spec PyProof.Rows L2 NdefX

abbrev FC := List D → Option Res
/-- a call with one list that is read -/
def rC (G : Gd) (g : FC) : List V → Hp → VK → Prop := fun xs H Q => ∃ ρ h p vs ds, xs = [.ref p] ∧ VOk G H ρ h ∧ SqL G.K H p vs ∧ RpA G H ρ h.length ds vs ∧ fin (g ds) h (QV G ρ h H Q)
def boolsD : List D → Option (List Bool)
  | [] => some []
  | .bl b :: ds => (boolsD ds).map (b :: ·)
  | _ :: _ => none
def intsD : List D → Option (List Int)
  | [] => some []
  | .int b :: ds => (intsD ds).map (b :: ·)
  | _ :: _ => none
def cAll : FC := fun ds => (boolsD ds).map fun bs => .val (.bl (bs.all id))
def cAny : FC := fun ds => (boolsD ds).map fun bs => .val (.bl (bs.any id))
def cTuple : FC := fun ds => some (.val (.tup ds))
def cList : FC := fun ds => some (.new ds)
def cLen : FC := fun ds => some (.val (.int ds.length))
def cSum : FC := fun ds => (intsD ds).map fun ns => .val (.int ns.sum)
def maxOf : Int → List Int → Int
  | m, [] => m
  | m, n :: ns => maxOf (if m < n then n else m) ns
def minOf : Int → List Int → Int
  | m, [] => m
  | m, n :: ns => minOf (if n < m then n else m) ns
def cMax : FC := fun ds => match intsD ds with
  | some (n :: ns) => some (.val (.int (maxOf n ns)))
  | _ => none
def cMin : FC := fun ds => match intsD ds with
  | some (n :: ns) => some (.val (.int (minOf n ns)))
  | _ => none
theorem maxOf_spec : ∀ (ns : List Int) (m : Int), m ≤ maxOf m ns ∧ (∀ y ∈ ns, y ≤ maxOf m ns) ∧ (maxOf m ns = m ∨ maxOf m ns ∈ ns)
  | [], m => ⟨Int.le_refl _, (fun _ h => by cases h), .inl rfl⟩
  | n :: ns, m => by
    unfold maxOf
    obtain ⟨h1, h2, h3⟩ := maxOf_spec ns (if m < n then n else m)
    have a1 : m ≤ (if m < n then n else m) := by split <;> omega
    have a2 : n ≤ (if m < n then n else m) := by split <;> omega
    refine ⟨Int.le_trans a1 h1, fun y hy => ?_, ?_⟩
    · rcases List.mem_cons.mp hy with e | hy
      · rw [e]; exact Int.le_trans a2 h1
      · exact h2 y hy
    · rcases h3 with h3 | h3
      · rw [h3]
        split
        · exact .inr List.mem_cons_self
        · exact .inl rfl
      · exact .inr (List.mem_cons_of_mem _ h3)
theorem minOf_spec : ∀ (ns : List Int) (m : Int), minOf m ns ≤ m ∧ (∀ y ∈ ns, minOf m ns ≤ y) ∧ (minOf m ns = m ∨ minOf m ns ∈ ns)
  | [], m => ⟨Int.le_refl _, (fun _ h => by cases h), .inl rfl⟩
  | n :: ns, m => by
    unfold minOf
    obtain ⟨h1, h2, h3⟩ := minOf_spec ns (if n < m then n else m)
    have a1 : (if n < m then n else m) ≤ m := by split <;> omega
    have a2 : (if n < m then n else m) ≤ n := by split <;> omega
    refine ⟨Int.le_trans h1 a1, fun y hy => ?_, ?_⟩
    · rcases List.mem_cons.mp hy with e | hy
      · rw [e]; exact Int.le_trans h1 a2
      · exact h2 y hy
    · rcases h3 with h3 | h3
      · rw [h3]
        split
        · exact .inr List.mem_cons_self
        · exact .inl rfl
      · exact .inr (List.mem_cons_of_mem _ h3)
section
variable {G : Gd} {H : Hp} {ρ : Nat → Addr} {n : Nat}
theorem bools_v : ∀ {ds : List D} {vs : List V} {bs : List Bool}, boolsD ds = some bs → RpA G H ρ n ds vs → vs = bs.map V.bl
  | [], _, bs, e, r => by
    cases r; cases e; rfl
  | d :: ds, _, bs, e, r => by
    cases r with
    | cons r t =>
      cases r with
      | bl b =>
        simp only [boolsD] at e
        cases e1 : boolsD ds with
        | none => rw [e1] at e; cases e
        | some cs =>
          rw [e1] at e
          cases e
          rw [bools_v e1 t]; rfl
      | _ => cases e
theorem ints_v : ∀ {ds : List D} {vs : List V} {bs : List Int}, intsD ds = some bs → RpA G H ρ n ds vs → vs = bs.map V.int
  | [], _, bs, e, r => by
    cases r; cases e; rfl
  | d :: ds, _, bs, e, r => by
    cases r with
    | cons r t =>
      cases r with
      | int b =>
        simp only [intsD] at e
        cases e1 : intsD ds with
        | none => rw [e1] at e; cases e
        | some cs =>
          rw [e1] at e
          cases e
          rw [ints_v e1 t]; rfl
      | _ => cases e
end
section
variable {X : Cx} {T : List NTab}
theorem cr_cAll (hc : X.calm = true) : CallR X (.builtin "all") (rC (gd X T) cAll) := by
  intro pins s σ H xs us Q I r hh
  obtain ⟨ρ, h, p, vs, ds, rfl, ok, q, t, hf⟩ := hh
  unfold cAll at hf
  cases e : boolsD ds with
  | none => rw [e] at hf; exact hf.elim
  | some bs =>
    rw [e] at hf
    have ev := bools_v e t
    subst ev
    exact cr_all hc pins s σ H _ us Q I r ⟨p, bs, rfl, q, fin_val ok (.bl _) hf⟩
theorem cr_cAny (hc : X.calm = true) : CallR X (.builtin "any") (rC (gd X T) cAny) := by
  intro pins s σ H xs us Q I r hh
  obtain ⟨ρ, h, p, vs, ds, rfl, ok, q, t, hf⟩ := hh
  unfold cAny at hf
  cases e : boolsD ds with
  | none => rw [e] at hf; exact hf.elim
  | some bs =>
    rw [e] at hf
    have ev := bools_v e t
    subst ev
    exact cr_any hc pins s σ H _ us Q I r ⟨p, bs, rfl, q, fin_val ok (.bl _) hf⟩
theorem cr_cSum (hc : X.calm = true) : CallR X (.builtin "sum") (rC (gd X T) cSum) := by
  intro pins s σ H xs us Q I r hh
  obtain ⟨ρ, h, p, vs, ds, rfl, ok, q, t, hf⟩ := hh
  unfold cSum at hf
  cases e : intsD ds with
  | none => rw [e] at hf; exact hf.elim
  | some bs =>
    rw [e] at hf
    have ev := ints_v e t
    subst ev
    exact cr_sum hc pins s σ H _ us Q I r ⟨p, bs, rfl, q, fin_val ok (.int _) hf⟩
theorem cr_cMax (hc : X.calm = true) : CallR X (.builtin "max") (rC (gd X T) cMax) := by
  intro pins s σ H xs us Q I r hh
  obtain ⟨ρ, h, p, vs, ds, rfl, ok, q, t, hf⟩ := hh
  unfold cMax at hf
  cases e : intsD ds with
  | none => rw [e] at hf; exact hf.elim
  | some bs =>
    rw [e] at hf
    have ev := ints_v e t
    subst ev
    cases bs with
    | nil => exact hf.elim
    | cons n ns =>
      obtain ⟨h1, h2, h3⟩ := maxOf_spec ns n
      refine cr_max hc pins s σ H _ us Q I r ⟨p, _, rfl, q, Nat.succ_pos _, fun m hm hx => ?_⟩
      have e : m = maxOf n ns := by
        have b1 : m ≤ maxOf n ns := by
          rcases List.mem_cons.mp hm with z | z
          · rw [z]; exact h1
          · exact h2 _ z
        have b2 : maxOf n ns ≤ m := by
          rcases h3 with z | z
          · rw [z]; exact hx _ List.mem_cons_self
          · exact hx _ (List.mem_cons_of_mem _ z)
        omega
      rw [e]
      exact fin_val ok (.int _) hf
theorem cr_cMin (hc : X.calm = true) : CallR X (.builtin "min") (rC (gd X T) cMin) := by
  intro pins s σ H xs us Q I r hh
  obtain ⟨ρ, h, p, vs, ds, rfl, ok, q, t, hf⟩ := hh
  unfold cMin at hf
  cases e : intsD ds with
  | none => rw [e] at hf; exact hf.elim
  | some bs =>
    rw [e] at hf
    have ev := ints_v e t
    subst ev
    cases bs with
    | nil => exact hf.elim
    | cons n ns =>
      obtain ⟨h1, h2, h3⟩ := minOf_spec ns n
      refine cr_min hc pins s σ H _ us Q I r ⟨p, _, rfl, q, Nat.succ_pos _, fun m hm hx => ?_⟩
      have e : m = minOf n ns := by
        have b1 : minOf n ns ≤ m := by
          rcases List.mem_cons.mp hm with z | z
          · rw [z]; exact h1
          · exact h2 _ z
        have b2 : m ≤ minOf n ns := by
          rcases h3 with z | z
          · rw [z]; exact hx _ List.mem_cons_self
          · exact hx _ (List.mem_cons_of_mem _ z)
        omega
      rw [e]
      exact fin_val ok (.int _) hf
theorem cr_cTuple : CallR X (.type "tuple") (rC (gd X T) cTuple) := by
  intro pins s σ H xs us Q I r hh
  obtain ⟨ρ, h, p, vs, ds, rfl, ok, q, t, hf⟩ := hh
  exact call_tuple_of pins s σ H _ us Q I r ⟨p, vs, rfl, .inl ⟨q, fin_tup ok t hf⟩⟩
theorem cr_cList : CallR X (.type "list") (rC (gd X T) cList) := by
  intro pins s σ H xs us Q I r hh
  obtain ⟨ρ, h, p, vs, ds, rfl, ok, q, t, hf⟩ := hh
  exact call_list_of pins s σ H _ us Q I r ⟨p, vs, rfl, .inl q, fin_new ok t hf⟩
theorem cr_cLen : CallR X (.builtin "len") (rC (gd X T) cLen) := by
  intro pins s σ H xs us Q I r hh
  obtain ⟨ρ, h, p, vs, ds, rfl, ok, q, t, hf⟩ := hh
  refine call_len_seq pins s σ H _ us Q I r ⟨p, vs, rfl, .inl q, ?_⟩
  rw [← t.length]
  exact fin_val ok (.int _) hf
end
/-! ### calls with any values -/
def onList (c : FC) : FN := fun ds h => match ds with
  | [.ref k] => match lstAt h k with
    | some xs => c xs
    | none => none
  | _ => none
def gLen : FN := fun ds h => match ds with
  | [.tup xs] => some (.val (.int xs.length))
  | [.str z] => if z.length ≤ line then some (.val (.int z.length)) else none
  | [.ref k] => match lstAt h k with
    | some xs => some (.val (.int xs.length))
    | none => none
  | _ => none
def gTuple : FN := fun ds h => match ds with
  | [.tup xs] => some (.val (.tup xs))
  | [.ref k] => match lstAt h k with
    | some xs => some (.val (.tup xs))
    | none => none
  | _ => none
def gList : FN := fun ds h => match ds with
  | [.tup xs] => some (.new xs)
  | [.cl xs] => some (.new xs)
  | [.ref k] => match lstAt h k with
    | some xs => some (.new xs)
    | none => none
  | _ => none
def gInt : FN := fun ds _ => match ds with
  | [.int i] => some (.val (.int i))
  | [.bl k] => some (.val (.int (if k then 1 else 0)))
  | [.str a] => if a.length ≤ 640 then (PySem.intText? a).map fun n => .val (.int n) else none
  | _ => none
def gStr : FN := fun ds _ => match ds with
  | [.int i] => if i.natAbs.log2 < 1920 then some (.val (.str (toString i))) else none
  | _ => none
def gAbs : FN := fun ds _ => match ds with
  | [.int i] => some (.val (.int (if i < 0 then -i else i)))
  | _ => none
def gMax : FN := fun ds h => match ds with
  | [.int i, .int j] => some (.val (.int (if j > i then j else i)))
  | ds => onList cMax ds h
def gMin : FN := fun ds h => match ds with
  | [.int i, .int j] => some (.val (.int (if j < i then j else i)))
  | ds => onList cMin ds h
section
variable {X : Cx} {T : List NTab}
theorem cr_on {f : Value} {c : FC} (hc : CallR X f (rC (gd X T) c)) : CallR X f (rOfN (gd X T) (onList c)) := by
  intro pins s σ H xs us Q I r hh
  obtain ⟨ρ, h, ds, ok, t, hf⟩ := hh
  unfold onList at hf
  split at hf
  · split at hf
    · rename_i k ys e
      cases t with
      | cons r1 t =>
        cases t
        cases r1
        obtain ⟨zs, e1, t1, _⟩ := ok.lst e
        exact hc pins s σ H _ us Q I r ⟨ρ, h, _, zs, ys, rfl, ok, .of e1, t1, hf⟩
    · exact hf.elim
  · exact hf.elim
theorem cr_len : CallR X (.builtin "len") (rOfN (gd X T) gLen) := by
  intro pins s σ H xs us Q I r hh
  obtain ⟨ρ, h, ds, ok, t, hf⟩ := hh
  unfold gLen at hf
  split at hf
  · cases t with
    | cons r1 t =>
      cases t
      cases r1 with
      | tup q t1 =>
        refine call_len_seq pins s σ H _ us Q I r ⟨_, _, rfl, .inr q, ?_⟩
        rw [← t1.length]
        exact fin_val ok (.int _) hf
  · cases t with
    | cons r1 t =>
      cases t
      cases r1
      split at hf
      · rename_i hz
        exact call_len_str pins s σ H _ us Q I r ⟨_, rfl, by rw [← line_eq]; exact hz, fin_val ok (.int _) hf⟩
      · exact hf.elim
  · split at hf
    · rename_i k ys e
      cases t with
      | cons r1 t =>
        cases t
        cases r1
        obtain ⟨zs, e1, t1, _⟩ := ok.lst e
        refine call_len_seq pins s σ H _ us Q I r ⟨_, _, rfl, .inl (.of e1), ?_⟩
        rw [← t1.length]
        exact fin_val ok (.int _) hf
    · exact hf.elim
  · exact hf.elim
theorem cr_tuple : CallR X (.type "tuple") (rOfN (gd X T) gTuple) := by
  intro pins s σ H xs us Q I r hh
  obtain ⟨ρ, h, ds, ok, t, hf⟩ := hh
  unfold gTuple at hf
  split at hf
  · cases t with
    | cons r1 t =>
      cases t
      cases r1 with
      | tup q t1 => exact call_tuple_of pins s σ H _ us Q I r ⟨_, _, rfl, .inr ⟨q, fin_val ok (.tup q t1) hf⟩⟩
  · split at hf
    · rename_i k ys e
      cases t with
      | cons r1 t =>
        cases t
        cases r1
        obtain ⟨zs, e1, t1, _⟩ := ok.lst e
        exact call_tuple_of pins s σ H _ us Q I r ⟨_, _, rfl, .inl ⟨.of e1, fin_tup ok t1 hf⟩⟩
    · exact hf.elim
  · exact hf.elim
theorem cr_list : CallR X (.type "list") (rOfN (gd X T) gList) := by
  intro pins s σ H xs us Q I r hh
  obtain ⟨ρ, h, ds, ok, t, hf⟩ := hh
  unfold gList at hf
  split at hf
  · cases t with
    | cons r1 t =>
      cases t
      cases r1 with
      | tup q t1 => exact call_list_of pins s σ H _ us Q I r ⟨_, _, rfl, .inr q, fin_new ok t1 hf⟩
  · cases t with
    | cons r1 t =>
      cases t
      cases r1 with
      | cl q t1 => exact call_list_of pins s σ H _ us Q I r ⟨_, _, rfl, .inl q.l, fin_new ok t1 hf⟩
  · split at hf
    · rename_i k ys e
      cases t with
      | cons r1 t =>
        cases t
        cases r1
        obtain ⟨zs, e1, t1, _⟩ := ok.lst e
        exact call_list_of pins s σ H _ us Q I r ⟨_, _, rfl, .inl (.of e1), fin_new ok t1 hf⟩
    · exact hf.elim
  · exact hf.elim
theorem cr_int : CallR X (.type "int") (rOfN (gd X T) gInt) := by
  intro pins s σ H xs us Q I r hh
  obtain ⟨ρ, h, ds, ok, t, hf⟩ := hh
  unfold gInt at hf
  split at hf
  · cases t with
    | cons r1 t =>
      cases t
      cases r1
      exact call_int1 pins s σ H _ us Q I r (.inl ⟨_, rfl, fin_val ok (.int _) hf⟩)
  · cases t with
    | cons r1 t =>
      cases t
      cases r1
      exact call_int1 pins s σ H _ us Q I r (.inr ⟨_, rfl, fin_val ok (.int _) hf⟩)
  · cases t with
    | cons r1 t =>
      cases t
      cases r1
      rename_i a
      split at hf
      · rename_i hl
        cases e : PySem.intText? a with
        | none => rw [e] at hf; exact hf.elim
        | some n =>
          rw [e] at hf
          exact call_int_str pins s σ H _ us Q I r ⟨a, n, rfl, e, hl, fin_val ok (.int _) hf⟩
      · exact hf.elim
  · exact hf.elim
theorem cr_str : CallR X (.type "str") (rOfN (gd X T) gStr) := by
  intro pins s σ H xs us Q I r hh
  obtain ⟨ρ, h, ds, ok, t, hf⟩ := hh
  unfold gStr at hf
  split at hf
  · cases t with
    | cons r1 t =>
      cases t
      cases r1
      split at hf
      · rename_i hl
        exact call_str_int pins s σ H _ us Q I r ⟨_, rfl, hl, fin_val ok (.str _) hf⟩
      · exact hf.elim
  · exact hf.elim
theorem cr_abs : CallR X (.builtin "abs") (rOfN (gd X T) gAbs) := by
  intro pins s σ H xs us Q I r hh
  obtain ⟨ρ, h, ds, ok, t, hf⟩ := hh
  unfold gAbs at hf
  split at hf
  · cases t with
    | cons r1 t =>
      cases t
      cases r1
      exact call_abs pins s σ H _ us Q I r ⟨_, rfl, fin_val ok (.int _) hf⟩
  · exact hf.elim
theorem cr_max (hc : X.calm = true) : CallR X (.builtin "max") (rOfN (gd X T) gMax) := by
  intro pins s σ H xs us Q I r hh
  obtain ⟨ρ, h, ds, ok, t, hf⟩ := hh
  unfold gMax at hf
  split at hf
  · cases t with
    | cons r1 t =>
      cases t with
      | cons r2 t =>
        cases t
        cases r1
        cases r2
        exact call_max2 hc pins s σ H _ us Q I r ⟨_, _, rfl, fin_val ok (.int _) hf⟩
  · exact cr_on (cr_cMax hc) pins s σ H _ us Q I r ⟨ρ, h, _, ok, t, hf⟩
theorem cr_min (hc : X.calm = true) : CallR X (.builtin "min") (rOfN (gd X T) gMin) := by
  intro pins s σ H xs us Q I r hh
  obtain ⟨ρ, h, ds, ok, t, hf⟩ := hh
  unfold gMin at hf
  split at hf
  · cases t with
    | cons r1 t =>
      cases t with
      | cons r2 t =>
        cases t
        cases r1
        cases r2
        exact call_min2 hc pins s σ H _ us Q I r ⟨_, _, rfl, fin_val ok (.int _) hf⟩
  · exact cr_on (cr_cMin hc) pins s σ H _ us Q I r ⟨ρ, h, _, ok, t, hf⟩
end
/-! ### the built-ins by names -/
inductive Bi where
  | len | tuple | list | int | str | abs | max | min | all | any | sum
  deriving DecidableEq
def Bi.g : Bi → FN
  | .len => gLen | .tuple => gTuple | .list => gList | .int => gInt | .str => gStr | .abs => gAbs | .max => gMax | .min => gMin | .all => onList cAll | .any => onList cAny | .sum => onList cSum
/-- of a list's content -/
def Bi.c : Bi → Option FC
  | .len => some cLen | .tuple => some cTuple | .list => some cList | .max => some cMax | .min => some cMin | .all => some cAll | .any => some cAny | .sum => some cSum | _ => none
def Bi.name : Bi → String
  | .len => "len" | .tuple => "tuple" | .list => "list" | .int => "int" | .str => "str" | .abs => "abs" | .max => "max" | .min => "min" | .all => "all" | .any => "any" | .sum => "sum"
def Bi.val : Bi → Value
  | .tuple => .type "tuple" | .list => .type "list" | .int => .type "int" | .str => .type "str" | b => .builtin b.name
theorem Bi.boot : ∀ b : Bi, bootBuiltins (Str.ofString b.name) = some b.val
  | .len => by decide +kernel
  | .tuple => by decide +kernel
  | .list => by decide +kernel
  | .int => by decide +kernel
  | .str => by decide +kernel
  | .abs => by decide +kernel
  | .max => by decide +kernel
  | .min => by decide +kernel
  | .all => by decide +kernel
  | .any => by decide +kernel
  | .sum => by decide +kernel
theorem Bi.call {X : Cx} {T : List NTab} (hc : X.calm = true) : ∀ b : Bi, CallR X b.val (rOfN (gd X T) b.g)
  | .len => cr_len | .tuple => cr_tuple | .list => cr_list | .int => cr_int | .str => cr_str | .abs => cr_abs | .max => cr_max hc | .min => cr_min hc
  | .all => cr_on (cr_cAll hc) | .any => cr_on (cr_cAny hc) | .sum => cr_on (cr_cSum hc)
theorem Bi.callC {X : Cx} {T : List NTab} (hc : X.calm = true) : ∀ (b : Bi) (c : FC), b.c = some c → CallR X b.val (rC (gd X T) c)
  | .len, _, rfl => cr_cLen | .tuple, _, rfl => cr_cTuple | .list, _, rfl => cr_cList | .max, _, rfl => cr_cMax hc | .min, _, rfl => cr_cMin hc
  | .all, _, rfl => cr_cAll hc | .any, _, rfl => cr_cAny hc | .sum, _, rfl => cr_cSum hc
end Ev

set_option Elab.async false
set_option linter.all false
set_option maxRecDepth 100000
/-! Ev3c: isinstance of built-in types, methods. -/
namespace Ev
open PySem PySem.Spec PyProof.Rows L2 NdefX

inductive Ty where
  | non | bl | int | str | tup | lst
  deriving DecidableEq
def Ty.name : Ty → String
  | .non => "NoneType" | .bl => "bool" | .int => "int" | .str => "str" | .tup => "tuple" | .lst => "list"
def Ty.isa : Ty → Ty → Bool
  | .non, .non => true | .bl, .bl => true | .bl, .int => true | .int, .int => true | .str, .str => true | .tup, .tup => true | .lst, .lst => true | _, _ => false
theorem kit_isa : ∀ a b : Ty, kitB a.name b.name = some (a.isa b)
  | .non, .non => by decide +kernel
  | .non, .bl => by decide +kernel
  | .non, .int => by decide +kernel
  | .non, .str => by decide +kernel
  | .non, .tup => by decide +kernel
  | .non, .lst => by decide +kernel
  | .bl, .non => by decide +kernel
  | .bl, .bl => by decide +kernel
  | .bl, .int => by decide +kernel
  | .bl, .str => by decide +kernel
  | .bl, .tup => by decide +kernel
  | .bl, .lst => by decide +kernel
  | .int, .non => by decide +kernel
  | .int, .bl => by decide +kernel
  | .int, .int => by decide +kernel
  | .int, .str => by decide +kernel
  | .int, .tup => by decide +kernel
  | .int, .lst => by decide +kernel
  | .str, .non => by decide +kernel
  | .str, .bl => by decide +kernel
  | .str, .int => by decide +kernel
  | .str, .str => by decide +kernel
  | .str, .tup => by decide +kernel
  | .str, .lst => by decide +kernel
  | .tup, .non => by decide +kernel
  | .tup, .bl => by decide +kernel
  | .tup, .int => by decide +kernel
  | .tup, .str => by decide +kernel
  | .tup, .tup => by decide +kernel
  | .tup, .lst => by decide +kernel
  | .lst, .non => by decide +kernel
  | .lst, .bl => by decide +kernel
  | .lst, .int => by decide +kernel
  | .lst, .str => by decide +kernel
  | .lst, .tup => by decide +kernel
  | .lst, .lst => by decide +kernel
theorem kitAny_isa {K : PySem.W.Frag} (a : Ty) : ∀ ts : List Ty, PySem.W.kitAny K (.type a.name) (ts.map fun t => .type t.name) = some (ts.any a.isa)
  | [] => rfl
  | t :: ts => by
    refine kitAny_cons (K := K) (b := a.isa t) (kit_ty (kit_isa a t)) (fun hb => ?_) fun hb => ?_
    · rw [List.any_cons, hb, Bool.false_or]
      exact kitAny_isa a ts
    · rw [List.any_cons, hb, Bool.true_or]
def tyD (d : D) (h : VH) : Option Ty := match d with
  | .non => some .non
  | .bl _ => some .bl
  | .int _ => some .int
  | .str _ => some .str
  | .tup _ => some .tup
  | .ref k => match lstAt h k with
    | some _ => some .lst
    | none => none
  | _ => none
theorem tyD_x {G : Gd} {H : Hp} {ρ : Nat → Addr} {h : VH} {d : D} {v : V} {t : Ty} (ok : VOk G H ρ h) (r : Rp G H ρ h.length d v) (e : tyD d h = some t) : TyX G.K H v (.type t.name) := by
  cases r with
  | non => cases e; exact .base .non
  | bl b => cases e; exact .base (.bl b)
  | int b => cases e; exact .base (.int b)
  | str b => cases e; exact .base (.str b)
  | tup q t =>
    cases e
    rcases q with (q | ⟨o, q⟩) | ⟨o, its, n, q, c, _⟩
    · exact .base (.tup q)
    · exact .fTuple q
    · exact .kTuple q c
  | ref k =>
    simp only [tyD] at e
    split at e
    · rename_i ds e1
      cases e
      obtain ⟨xs, e2, _⟩ := ok.lst e1
      exact .base (.lst e2)
    · cases e
  | _ => cases e

/-! ### methods -/
inductive Eff where
  | pure (r : Res) | wr (k : Nat) (ds : List D) (d : D)
def finE (o : Option Eff) (h : VH) (Q : PQ) : Prop := match o with
  | none => False
  | some (.pure r) => r.run h Q
  | some (.wr k ds d) => Q d (h.set k (.lst ds))
theorem finE_mono {o : Option Eff} {h : VH} {Q Q' : PQ} (k : ∀ d h, Q d h → Q' d h) (q : finE o h Q) : finE o h Q' := by
  cases o with
  | none => exact q.elim
  | some r => cases r with
    | pure r => exact fin_mono (o := some r) k q
    | wr _ _ _ => exact k _ _ q
abbrev FM := D → List D → VH → Option Eff
def rOfM (G : Gd) (g : FM) : V → List V → Hp → VK → Prop := fun x xs H Q => ∃ ρ h dx ds, VOk G H ρ h ∧ Rp G H ρ h.length dx x ∧ RpA G H ρ h.length ds xs ∧ finE (g dx ds h) h (QV G ρ h H Q)
theorem fin_wr {G : Gd} {H : Hp} {ρ : Nat → Addr} {h : VH} {Q : VK} {k : Nat} {ds : List D} {xs : List V} {d : D} {v : V} (ok : VOk G H ρ h) (hk : k < h.length) (r : RpA G H ρ h.length ds xs) (rd : Rp G H ρ h.length d v)
    (q : QV G ρ h H Q d (h.set k (.lst ds))) : Q v (upd H (ρ k) (.lst xs)) := by
  have s := Stp.write ok hk r
  exact q ρ v _ s (s.rp ok rd)
def gAppend : FM := fun x ds h => match x, ds with
  | .ref k, [d] => match lstAt h k with
    | some xs => if xs.length < line then some (.wr k (xs ++ [d]) .non) else none
    | none => none
  | _, _ => none
def gExtend : FM := fun x ds h => match x, ds with
  | .ref k, [.ref l] => match lstAt h k, lstAt h l with
    | some xs, some ys => if xs.length + ys.length ≤ line then some (.wr k (xs ++ ys) .non) else none
    | _, _ => none
  | _, _ => none
def gPop : FM := fun x ds h => match x, ds with
  | .ref k, [] => match lstAt h k with
    | some xs => match xs[xs.length - 1]? with
      | some d => some (.wr k xs.dropLast d)
      | none => none
    | none => none
  | .ref k, [.int i] => match lstAt h k with
    | some xs => match ixN xs.length i with
      | some j => match xs[j]? with
        | some d => if -9223372036854775808 ≤ i ∧ i < 9223372036854775808 then some (.wr k (xs.eraseIdx j) d) else none
        | none => none
      | none => none
    | none => none
  | _, _ => none
def gStarts : FM := fun x ds _ => match x, ds with
  | .str a, [.str b] => some (.pure (.val (.bl (Txt.startswith a b))))
  | _, _ => none
def gSplit : FM := fun x ds _ => match x, ds with
  | .str a, [.str b] => if (b.length == 0) = false ∧ a.length + 2 ≤ line then some (.pure (.new ((Txt.split a b).map .str))) else none
  | _, _ => none
def gPart : FM := fun x ds _ => match x, ds with
  | .str a, [.str b] => if (b.length == 0) = false ∧ a.length ≤ line then some (.pure (.val (.tup [.str (Txt.partition a b).1, .str (Txt.partition a b).2.1, .str (Txt.partition a b).2.2]))) else none
  | _, _ => none
def strsD : List D → Option (List Str)
  | [] => some []
  | .str b :: ds => (strsD ds).map (b :: ·)
  | _ :: _ => none
def joinRes (a : Str) (ds : List D) : Option Eff := match strsD ds with
  | some ys => if (ys.map (·.length)).sum + ys.length * a.length ≤ 16777216 then some (.pure (.val (.str (Txt.join a ys)))) else none
  | none => none
def gJoin : FM := fun x ds h => match x, ds with
  | .str a, [.tup xs] => joinRes a xs
  | .str a, [.ref k] => match lstAt h k with
    | some xs => joinRes a xs
    | none => none
  | _, _ => none
def gLstrip : FM := fun x ds _ => match x, ds with
  | .str a, [.str b] => if a.length ≤ line then some (.pure (.val (.str (Txt.lstripChars a b)))) else none
  | _, _ => none
theorem strs_rp {G : Gd} {H : Hp} {ρ : Nat → Addr} {n : Nat} : ∀ ys : List Str, RpA G H ρ n (ys.map D.str) (ys.map V.str)
  | [] => .nil
  | y :: ys => .cons (.str y) (strs_rp ys)
theorem strs_v {G : Gd} {H : Hp} {ρ : Nat → Addr} {n : Nat} : ∀ {ds : List D} {vs : List V} {bs : List Str}, strsD ds = some bs → RpA G H ρ n ds vs → vs = bs.map V.str
  | [], _, bs, e, r => by
    cases r; cases e; rfl
  | d :: ds, _, bs, e, r => by
    cases r with
    | cons r t =>
      cases r with
      | str b =>
        simp only [strsD] at e
        cases e1 : strsD ds with
        | none => rw [e1] at e; cases e
        | some cs =>
          rw [e1] at e
          cases e
          rw [strs_v e1 t]; rfl
      | _ => cases e
section
variable {X : Cx} {T : List NTab}
theorem mr_append : MtR X "list.append" (rOfM (gd X T) gAppend) := by
  intro pins s σ H x xs v us Q I rx r hh
  obtain ⟨ρ, h, dx, ds, ok, r1, t, hf⟩ := hh
  unfold gAppend at hf
  split at hf
  · split at hf
    · rename_i k d ys e
      split at hf
      · rename_i hl
        cases r1
        cases t with
        | cons r2 t =>
          cases t
          obtain ⟨zs, e1, t1, hk⟩ := ok.lst e
          rw [t1.length] at hl
          exact mt_append pins s σ H _ _ v us Q I rx r ⟨_, zs, _, rfl, rfl, e1, by rw [← line_eq]; exact hl, fin_wr ok hk (t1.append (.cons r2 .nil)) .non hf⟩
      · exact hf.elim
    · exact hf.elim
  · exact hf.elim
theorem mr_extend : MtR X "list.extend" (rOfM (gd X T) gExtend) := by
  intro pins s σ H x xs v us Q I rx r hh
  obtain ⟨ρ, h, dx, ds, ok, r1, t, hf⟩ := hh
  unfold gExtend at hf
  split at hf
  · split at hf
    · rename_i k l ys zs e e'
      split at hf
      · rename_i hl
        cases r1
        cases t with
        | cons r2 t =>
          cases t
          cases r2
          obtain ⟨ws, e1, t1, hk⟩ := ok.lst e
          obtain ⟨us', e2, t2, _⟩ := ok.lst e'
          rw [t1.length, t2.length] at hl
          exact mt_extend pins s σ H _ _ v us Q I rx r ⟨_, _, ws, us', rfl, rfl, e1, e2, by rw [← line_eq]; exact hl, fin_wr ok hk (t1.append t2) .non hf⟩
      · exact hf.elim
    · exact hf.elim
  · exact hf.elim
theorem dropLast_rp {G : Gd} {H : Hp} {ρ : Nat → Addr} {n : Nat} {ds : List D} {vs : List V} (r : RpA G H ρ n ds vs) : RpA G H ρ n ds.dropLast vs.dropLast := by
  rw [List.dropLast_eq_take, List.dropLast_eq_take, ← r.length]
  exact r.take _
theorem eraseIdx_rp {G : Gd} {H : Hp} {ρ : Nat → Addr} {n : Nat} {ds : List D} {vs : List V} (r : RpA G H ρ n ds vs) (k : Nat) : RpA G H ρ n (ds.eraseIdx k) (vs.eraseIdx k) := by
  rw [List.eraseIdx_eq_take_drop_succ, List.eraseIdx_eq_take_drop_succ]
  exact (r.take _).append (r.drop _)
theorem mr_pop : MtR X "list.pop" (rOfM (gd X T) gPop) := by
  intro pins s σ H x xs v us Q I rx r hh
  obtain ⟨ρ, h, dx, ds, ok, r1, t, hf⟩ := hh
  unfold gPop at hf
  split at hf
  · split at hf
    · rename_i k ys e
      split at hf
      · rename_i d ed
        cases r1
        cases t
        obtain ⟨zs, e1, t1, hk⟩ := ok.lst e
        obtain ⟨w, e2, rd⟩ := t1.get ed
        rw [t1.length] at e2
        exact mt_pop pins s σ H _ _ v us Q I rx r ⟨_, zs, w, rfl, rfl, e1, e2, fin_wr ok hk (dropLast_rp t1) rd hf⟩
      · exact hf.elim
    · exact hf.elim
  · split at hf
    · rename_i k i ys e
      split at hf
      · rename_i j ej
        split at hf
        · rename_i d ed
          split at hf
          · rename_i hb
            cases r1
            cases t with
            | cons r2 t =>
              cases t
              cases r2
              obtain ⟨zs, e1, t1, hk⟩ := ok.lst e
              obtain ⟨w, e2, rd⟩ := t1.get ed
              obtain ⟨es, _⟩ := ixN_seq ej
              rw [t1.length] at es
              exact mt_popAt pins s σ H _ _ v us Q I rx r ⟨_, zs, _, _, w, rfl, rfl, e1, by omega, by omega, es, e2, fin_wr ok hk (eraseIdx_rp t1 _) rd hf⟩
          · exact hf.elim
        · exact hf.elim
      · exact hf.elim
    · exact hf.elim
  · exact hf.elim
theorem mr_starts : MtR X "str.startswith" (rOfM (gd X T) gStarts) := by
  intro pins s σ H x xs v us Q I rx r hh
  obtain ⟨ρ, h, dx, ds, ok, r1, t, hf⟩ := hh
  unfold gStarts at hf
  split at hf
  · cases r1
    cases t with
    | cons r2 t =>
      cases t
      cases r2
      exact mt_startswith pins s σ H _ _ v us Q I rx r ⟨_, _, rfl, rfl, fin_val ok (.bl _) hf⟩
  · exact hf.elim
theorem mr_split : MtR X "str.split" (rOfM (gd X T) gSplit) := by
  intro pins s σ H x xs v us Q I rx r hh
  obtain ⟨ρ, h, dx, ds, ok, r1, t, hf⟩ := hh
  unfold gSplit at hf
  split at hf
  · split at hf
    · rename_i hl
      cases r1
      cases t with
      | cons r2 t =>
        cases t
        cases r2
        exact mt_split pins s σ H _ _ v us Q I rx r ⟨_, _, rfl, rfl, hl.1, by rw [← line_eq]; exact hl.2, fin_new ok (strs_rp _) hf⟩
    · exact hf.elim
  · exact hf.elim
theorem mr_part : MtR X "str.partition" (rOfM (gd X T) gPart) := by
  intro pins s σ H x xs v us Q I rx r hh
  obtain ⟨ρ, h, dx, ds, ok, r1, t, hf⟩ := hh
  unfold gPart at hf
  split at hf
  · split at hf
    · rename_i hl
      cases r1
      cases t with
      | cons r2 t =>
        cases t
        cases r2
        exact mt_partition pins s σ H _ _ v us Q I rx r ⟨_, _, rfl, rfl, hl.1, by rw [← line_eq]; exact hl.2, fin_tup ok (.cons (.str _) (.cons (.str _) (.cons (.str _) .nil))) hf⟩
    · exact hf.elim
  · exact hf.elim
theorem mr_join : MtR X "str.join" (rOfM (gd X T) gJoin) := by
  intro pins s σ H x xs v us Q I rx r hh
  obtain ⟨ρ, h, dx, ds, ok, r1, t, hf⟩ := hh
  have fin : ∀ {a : Str} {es : List D} {vs : List V} {p : Addr}, x = .str a → xs = [.ref p] → (SqL X.K H p vs ∨ SqT X.K H p vs) → RpA (gd X T) H ρ h.length es vs → finE (joinRes a es) h (QV (gd X T) ρ h H Q) → wpAny (model X.prog X.w) X.A (call (.builtin "str.join") (v :: us)) (EP X pins σ Q) X.xe s := by
    intro a es vs p hx hxs hq ht hf
    unfold joinRes at hf
    split at hf
    · rename_i ys e
      split at hf
      · rename_i hl
        have ev := strs_v e ht
        subst ev hx hxs
        exact mt_join pins s σ H _ _ v us Q I rx r ⟨a, p, ys, rfl, rfl, hq, hl, fin_val ok (.str _) hf⟩
      · exact hf.elim
    · exact hf.elim
  unfold gJoin at hf
  split at hf
  · cases r1
    cases t with
    | cons r2 t =>
      cases t
      cases r2 with
      | tup q t1 => exact fin rfl rfl (.inr q) t1 hf
  · split at hf
    · rename_i k ys e
      cases r1
      cases t with
      | cons r2 t =>
        cases t
        cases r2
        obtain ⟨zs, e1, t1, _⟩ := ok.lst e
        exact fin rfl rfl (.inl (.of e1)) t1 hf
    · exact hf.elim
  · exact hf.elim
theorem mr_lstrip : MtR X "str.lstrip" (rOfM (gd X T) gLstrip) := by
  intro pins s σ H x xs v us Q I rx r hh
  obtain ⟨ρ, h, dx, ds, ok, r1, t, hf⟩ := hh
  unfold gLstrip at hf
  split at hf
  · split at hf
    · rename_i hl
      cases r1
      cases t with
      | cons r2 t =>
        cases t
        cases r2
        exact mt_lstripChars pins s σ H _ _ v us Q I rx r ⟨_, _, rfl, rfl, by rw [← line_eq]; exact hl, fin_val ok (.str _) hf⟩
    · exact hf.elim
  · exact hf.elim
end
inductive Mt where
  | append | extend | pop | starts | split | part | join | lstrip
  deriving DecidableEq
def Mt.g : Mt → FM
  | .append => gAppend | .extend => gExtend | .pop => gPop | .starts => gStarts | .split => gSplit | .part => gPart | .join => gJoin | .lstrip => gLstrip
def Mt.ty : Mt → String
  | .append => "list" | .extend => "list" | .pop => "list" | _ => "str"
def Mt.name : Mt → String
  | .append => "append" | .extend => "extend" | .pop => "pop" | .starts => "startswith" | .split => "split" | .part => "partition" | .join => "join" | .lstrip => "lstrip"
def Mt.id : Mt → String
  | .append => "list.append" | .extend => "list.extend" | .pop => "list.pop" | .starts => "str.startswith" | .split => "str.split" | .part => "str.partition" | .join => "str.join" | .lstrip => "str.lstrip"
theorem Mt.pa : ∀ m : Mt, PlainAttrs m.ty
  | .append => PySem.F.plainAttrs_list | .extend => PySem.F.plainAttrs_list | .pop => PySem.F.plainAttrs_list | .starts => PySem.F.plainAttrs_str | .split => PySem.F.plainAttrs_str | .part => PySem.F.plainAttrs_str | .join => PySem.F.plainAttrs_str | .lstrip => PySem.F.plainAttrs_str
theorem Mt.slot : ∀ m : Mt, Slot m.ty (Str.ofString m.name) m.id
  | .append => PySem.F.slot_list_append | .extend => PySem.F.slot_list_extend | .pop => PySem.F.slot_list_pop | .starts => PySem.F.slot_str_startswith | .split => PySem.F.slot_str_split | .part => PySem.F.slot_str_partition | .join => PySem.F.slot_str_join | .lstrip => PySem.F.slot_str_lstrip
theorem Mt.tyo : ∀ m : Mt, typeOf (.builtin m.id) = pure (.type "method_descriptor")
  | .append => PySem.F.type_list_append | .extend => PySem.F.type_list_extend | .pop => PySem.F.type_list_pop | .starts => PySem.F.type_str_startswith | .split => PySem.F.type_str_split | .part => PySem.F.type_str_partition | .join => PySem.F.type_str_join | .lstrip => PySem.F.type_str_lstrip
theorem Mt.mr {X : Cx} {T : List NTab} : ∀ m : Mt, MtR X m.id (rOfM (gd X T) m.g)
  | .append => mr_append | .extend => mr_extend | .pop => mr_pop | .starts => mr_starts | .split => mr_split | .part => mr_part | .join => mr_join | .lstrip => mr_lstrip
/-- the receiver is of the method's type -/
theorem Mt.tyV {G : Gd} {H : Hp} {ρ : Nat → Addr} {h : VH} {d : D} {v : V} (ok : VOk G H ρ h) (r : Rp G H ρ h.length d v) (m : Mt) (hd : (match d with | .str _ => m.ty = "str" | .ref k => m.ty = "list" | _ => False)) : L2.tyV G.K m.ty v H := by
  cases r with
  | str x => exact hd
  | ref hk =>
    obtain ⟨xs, e⟩ := ok.isLst hk
    exact .inl ⟨hd, xs, .of e⟩
  | _ => exact hd.elim
end Ev

set_option Elab.async false
set_option linter.all false
set_option maxRecDepth 100000
/-! Ev4: expressions: what each construct does on data, and that it is sound. -/
namespace Ev
open PySem PySem.Spec PyProof.Rows L2 NdefX

def noX : PX := fun _ _ _ => False
def one (Q : PQ) : PL := fun ds h => match ds with
  | [d] => Q d h
  | _ => False
def eOf (f : FA) : FE := fun env h Q E => f env h (one Q) E
def aOf (f : FE) : FA := fun env h Q E => f env h (fun d h => Q [d] h) E
def tOf (f : FE) : FT := fun env h Q E => f env h (fun d h => match d with
  | .bl b => Q b h
  | _ => False) E
theorem one_mono {Q Q' : PQ} (k : ∀ d h, Q d h → Q' d h) : ∀ ds h, one Q ds h → one Q' ds h
  | [], _, q => q
  | [_], _, q => k _ _ q
  | _ :: _ :: _, _, q => q
theorem MonA.e {f : FA} (m : MonA f) : MonE (eOf f) := ⟨fun kQ kE q => m.mo (one_mono kQ) kE q⟩
theorem MonE.a {f : FE} (m : MonE f) : MonA (aOf f) := ⟨fun kQ kE q => m.mo (fun _ _ z => kQ _ _ z) kE q⟩
theorem MonE.t {f : FE} (m : MonE f) : MonT (tOf f) := ⟨fun kQ kE q => m.mo (fun d _ z => by
  cases d <;> first | exact kQ _ _ z | exact z) kE q⟩

section
variable {G : Gd} {W : WX} {f : FE} {σ : L2.St} {H : Hp}
/-- a reading used as a test -/
theorem lT_of (m : MonE f) {Q : Bool → Hp → Prop} (q : lT G W (tOf f) σ H Q) : lE G W f σ H fun x H1 => ∃ c, x = .bl c ∧ Q c H1 := by
  obtain ⟨ρ, env, h, mm, hf⟩ := q
  refine ⟨ρ, env, h, mm, m.mo (fun d h1 q1 => ?_) (fun _ _ _ e => e) hf⟩
  intro ρ1 v H1 s1 r1
  cases r1 with
  | bl b => exact ⟨b, rfl, q1 ρ1 H1 s1⟩
  | _ => exact q1.elim
/-- the general step behind an expression -/
theorem lE_then (m : MonE f) {env : Env} {h : VH} {ρ : Nat → Addr} (mm : M G ρ env h σ H) {Q : PQ} {E : PX} {R : VK} (hf : f env h Q E) (kQ : ∀ d h', Q d h' → QV G ρ h H R d h') (kE : ∀ c d h', E c d h' → QX G ρ h H W σ c d h') : lE G W f σ H R :=
  ⟨ρ, env, h, mm, m.mo kQ kE hf⟩
end

/-! ### names, constants -/
def fVar (i : Nat) : FE := fun env h Q _ => match env[i]? with
  | some (some d) => Q d h
  | _ => False
def fLit (d : D) : FE := fun _ h Q _ => Q d h
theorem fVar_mono {i : Nat} : MonE (fVar i) := ⟨fun {env h Q Q' E E'} kQ _ q => by
  unfold fVar at q ⊢
  split at q
  · exact kQ _ _ q
  · exact q.elim⟩
theorem fLit_mono {d : D} : MonE (fLit d) := ⟨fun kQ _ q => kQ _ _ q⟩
section
variable {X : Cx} {T : List NTab} {W : WX} {a b c : Expr} {fa fb fc : FE} {pos : Pos}
theorem se_var {i : Nat} {x : Str} (hN : X.N[i]? = some x) (hv : Vis X.env.scope x) (hd : (x == ("__debug__" : Str)) = false) (hcd : (x == ("__classdict__" : Str)) = false) : PE X (.Name x pos) (lE (gd X T) W (fVar i)) :=
  PE.imp (pe_var hN hv hd hcd) fun σ H Q q => by
    obtain ⟨ρ, env, h, m, hf⟩ := q
    unfold fVar at hf
    split at hf
    · rename_i d e
      obtain ⟨v, e1, r⟩ := m.env i d e
      exact ⟨v, e1, hf ρ v H (Stp.refl m.ok) r⟩
    · exact hf.elim
/-- a value that stands: v is d in every heap -/
theorem se_const {e : Expr} {d : D} {v : V} (h : PE X e (tC v)) (hr : ∀ H ρ n, Rp (gd X T) H ρ n d v) : PE X e (lE (gd X T) W (fLit d)) :=
  PE.imp h fun σ H Q q => by
    obtain ⟨ρ, env, h, m, hf⟩ := q
    exact hf ρ v H (Stp.refl m.ok) (hr _ _ _)

/-! ### unary, is None -/
def fNeg (fa : FE) : FE := fun env h Q E => fa env h (fun x h1 => match x with
  | .int i => Q (.int (-i)) h1
  | _ => False) E
theorem fNeg_mono (ma : MonE fa) : MonE (fNeg fa) := ⟨fun kQ kE q => ma.mo (fun d _ q1 => by cases d <;> first | exact kQ _ _ q1 | exact q1) kE q⟩
theorem se_neg (ma : MonE fa) (ha : PE X a (lE (gd X T) W fa)) : PE X (.UnaryOp .USub a pos) (lE (gd X T) W (fNeg fa)) :=
  PE.imp (pe_un un_neg ha) fun σ H Q q => by
    obtain ⟨ρ, env, h, m, hf⟩ := q
    refine ⟨ρ, env, h, m, ma.mo (fun x h1 q1 => ?_) (fun _ _ _ e => e) hf⟩
    intro ρ1 v H1 s1 r1
    cases r1 with
    | int i => exact ⟨i, rfl, q1 ρ1 _ H1 s1 (.int _)⟩
    | _ => exact q1.elim
def isNon : D → Bool
  | .non => true
  | _ => false
theorem isNon_v {G : Gd} {H : Hp} {ρ : Nat → Addr} {n : Nat} {d : D} {v : V} (r : Rp G H ρ n d v) : decide (v = .non) = isNon d := by
  cases r <;> rfl
def fIsN (neg : Bool) (fa : FE) : FE := fun env h Q E => fa env h (fun x h1 => Q (.bl (if neg then !isNon x else isNon x)) h1) E
theorem fIsN_mono {n : Bool} (ma : MonE fa) : MonE (fIsN n fa) := ⟨fun kQ kE q => ma.mo (fun _ _ q1 => kQ _ _ q1) kE q⟩
theorem lE_isN {G : Gd} {n : Bool} (ma : MonE fa) {σ : L2.St} {H : Hp} {Q : VK} (q : lE G W (fIsN n fa) σ H Q) : lE G W fa σ H fun x H1 => Q (.bl (if n then !decide (x = .non) else decide (x = .non))) H1 := by
  obtain ⟨ρ, env, h, m, hf⟩ := q
  refine ⟨ρ, env, h, m, ma.mo (fun x h1 q1 => ?_) (fun _ _ _ e => e) hf⟩
  intro ρ1 v H1 s1 r1
  rw [isNon_v r1]
  exact q1 ρ1 _ H1 s1 (.bl _)
theorem se_isN {j pos'} (ma : MonE fa) (ha : PE X a (lE (gd X T) W fa)) : PE X (.Compare a [.Is] [.Constant .none j pos'] pos) (lE (gd X T) W (fIsN false fa)) :=
  PE.imp (pe_cmp (pc_isN ha)) fun _ _ _ q => lE_isN (n := false) ma q
theorem se_notN {j pos'} (ma : MonE fa) (ha : PE X a (lE (gd X T) W fa)) : PE X (.Compare a [.IsNot] [.Constant .none j pos'] pos) (lE (gd X T) W (fIsN true fa)) :=
  PE.imp (pe_cmp (pc_notN ha)) fun _ _ _ q => lE_isN (n := true) ma q
theorem st_isN {j pos'} (ma : MonE fa) (ha : PE X a (lE (gd X T) W fa)) : PT X (.Compare a [.Is] [.Constant .none j pos'] pos) (lT (gd X T) W (tOf (fIsN false fa))) :=
  PT.imp (pt_cmp (pc_isN ha)) fun _ _ _ q => lE_isN (n := false) ma (lT_of (fIsN_mono ma) q)
theorem st_notN {j pos'} (ma : MonE fa) (ha : PE X a (lE (gd X T) W fa)) : PT X (.Compare a [.IsNot] [.Constant .none j pos'] pos) (lT (gd X T) W (tOf (fIsN true fa))) :=
  PT.imp (pt_cmp (pc_notN ha)) fun _ _ _ q => lE_isN (n := true) ma (lT_of (fIsN_mono ma) q)

/-! ### comparisons -/
theorem se_cmp (hu : X.A.units + 64 < cLine) (o : Cop) (ma : MonE fa) (mb : MonE fb) (ha : PE X a (lE (gd X T) W fa)) (hb : PE X b (lE (gd X T) W fb)) (hm : behindInMarks o.op b = false) : PE X (.Compare a [o.op] [b] pos) (lE (gd X T) W (fBin o.g fa fb)) :=
  PE.imp (pe_cmpR (or_cmp hu o) ha hb hm) fun _ _ _ q => lE_bin ma mb q
theorem st_cmp (hu : X.A.units + 64 < cLine) (o : Cop) (ma : MonE fa) (mb : MonE fb) (ha : PE X a (lE (gd X T) W fa)) (hb : PE X b (lE (gd X T) W fb)) (hm : behindInMarks o.op b = false) : PT X (.Compare a [o.op] [b] pos) (lT (gd X T) W (tOf (fBin o.g fa fb))) :=
  PT.imp (pt_cmpR (or_cmp hu o) ha hb hm) fun _ _ _ q => lE_bin ma mb (lT_of (fBin_mono ma mb) q)
def fChain (g g' : F2) (fa fb fc : FE) : FE := fun env h Q E => fa env h (fun x h1 => fb env h1 (fun y h2 => fin (g x y h2) h2 (fun k h3 => match k with
  | .bl true => fc env h3 (fun z h4 => fin (g' y z h4) h4 Q) E
  | .bl false => Q (.bl false) h3
  | _ => False)) E) E
theorem fChain_mono {g g' : F2} (ma : MonE fa) (mb : MonE fb) (mc : MonE fc) : MonE (fChain g g' fa fb fc) := ⟨fun {env h Q Q' E E'} kQ kE q => by
  refine ma.mo (fun x h1 q1 => mb.mo (fun y h2 q2 => fin_mono (fun k h3 q3 => ?_) q2) kE q1) kE q
  cases k with
  | bl b =>
    cases b with
    | true => exact mc.mo (fun _ _ q4 => fin_mono kQ q4) kE q3
    | false => exact kQ _ _ q3
  | _ => exact q3⟩
theorem lE_chain {G : Gd} {g g' : F2} (ma : MonE fa) (mb : MonE fb) (mc : MonE fc) {σ : L2.St} {H : Hp} {Q : VK} (q : lE G W (fChain g g' fa fb fc) σ H Q) : tChain (rOf G g) (rOf G g') (lE G W fa) (lE G W fb) (lE G W fc) σ H Q := by
  obtain ⟨ρ, env, h, m, hf⟩ := q
  refine ⟨ρ, env, h, m, ma.mo (fun x h1 q1 => ?_) (fun _ _ _ e => e) hf⟩
  intro ρ1 v H1 s1 r1
  refine ⟨ρ1, env, h1, m.step s1, mb.mo (fun y h2 q2 => ?_) (fun _ _ _ e => e.step s1) q1⟩
  intro ρ2 u H2 s2 r2
  refine ⟨ρ2, h2, x, y, s2.ok, s2.rp s1.ok r1, r2, fin_mono (fun k h3 q3 => ?_) q2⟩
  intro ρ3 z H3 s3 r3
  cases r3 with
  | bl b =>
    refine ⟨b, rfl, ?_⟩
    have s12 := s1.trans s2
    have s13 := s12.trans s3
    cases b with
    | true =>
      rw [if_pos rfl]
      refine ⟨ρ3, env, h3, m.step s13, mc.mo (fun z h4 q4 => ?_) (fun _ _ _ e => e.step s13) q3⟩
      intro ρ4 w H4 s4 r4
      exact ⟨ρ4, h4, y, z, s4.ok, s4.rp s3.ok (s3.rp s2.ok r2), r4, fin_mono (fun _ _ e => e.step (s13.trans s4)) q4⟩
    | false =>
      rw [if_neg Bool.false_ne_true]
      exact q3 ρ3 _ H3 s13 (.bl _)
  | _ => exact q3.elim
theorem se_chain (hu : X.A.units + 64 < cLine) (o o' : Cop) (ma : MonE fa) (mb : MonE fb) (mc : MonE fc) (ha : PE X a (lE (gd X T) W fa)) (hb : PE X b (lE (gd X T) W fb)) (hc : PE X c (lE (gd X T) W fc)) (hm : lastMarks [o.op, o'.op] [b, c] = false) :
    PE X (.Compare a [o.op, o'.op] [b, c] pos) (lE (gd X T) W (fChain o.g o'.g fa fb fc)) := PE.imp (pe_chain (or_cmp hu o) (or_cmp hu o') ha hb hc hm) fun _ _ _ q => lE_chain ma mb mc q
theorem st_chain (hu : X.A.units + 64 < cLine) (o o' : Cop) (ma : MonE fa) (mb : MonE fb) (mc : MonE fc) (ha : PE X a (lE (gd X T) W fa)) (hb : PE X b (lE (gd X T) W fb)) (hc : PE X c (lE (gd X T) W fc)) (hm : lastMarks [o.op, o'.op] [b, c] = false) :
    PT X (.Compare a [o.op, o'.op] [b, c] pos) (lT (gd X T) W (tOf (fChain o.g o'.g fa fb fc))) := PT.imp (pt_chain (or_cmp hu o) (or_cmp hu o') ha hb hc hm) fun _ _ _ q => lE_chain ma mb mc (lT_of (fChain_mono ma mb mc) q)

/-! ### and, or, not, if -/
def fAnd (fa fb : FE) : FE := fun env h Q E => fa env h (fun x h1 => match x with
  | .bl true => fb env h1 Q E
  | .bl false => Q (.bl false) h1
  | _ => False) E
def fOr (fa fb : FE) : FE := fun env h Q E => fa env h (fun x h1 => match x with
  | .bl true => Q (.bl true) h1
  | .bl false => fb env h1 Q E
  | _ => False) E
def fNot (fa : FE) : FE := fun env h Q E => fa env h (fun x h1 => match x with
  | .bl b => Q (.bl (!b)) h1
  | _ => False) E
def fIte (fc fa fb : FE) : FE := fun env h Q E => fc env h (fun x h1 => match x with
  | .bl true => fa env h1 Q E
  | .bl false => fb env h1 Q E
  | _ => False) E
theorem fAnd_mono (ma : MonE fa) (mb : MonE fb) : MonE (fAnd fa fb) := ⟨fun kQ kE q => ma.mo (fun d _ q1 => by
  cases d with
  | bl b => cases b with
    | true => exact mb.mo kQ kE q1
    | false => exact kQ _ _ q1
  | _ => exact q1) kE q⟩
theorem fOr_mono (ma : MonE fa) (mb : MonE fb) : MonE (fOr fa fb) := ⟨fun kQ kE q => ma.mo (fun d _ q1 => by
  cases d with
  | bl b => cases b with
    | false => exact mb.mo kQ kE q1
    | true => exact kQ _ _ q1
  | _ => exact q1) kE q⟩
theorem fNot_mono (ma : MonE fa) : MonE (fNot fa) := ⟨fun kQ kE q => ma.mo (fun d _ q1 => by cases d <;> first | exact kQ _ _ q1 | exact q1) kE q⟩
theorem fIte_mono (mc : MonE fc) (ma : MonE fa) (mb : MonE fb) : MonE (fIte fc fa fb) := ⟨fun kQ kE q => mc.mo (fun d _ q1 => by
  cases d with
  | bl b => cases b with
    | true => exact ma.mo kQ kE q1
    | false => exact mb.mo kQ kE q1
  | _ => exact q1) kE q⟩
variable {rest : List Expr}
theorem se_and (ma : MonE fa) (mb : MonE fb) (ha : PE X a (lE (gd X T) W fa)) (hb : PE X (.BoolOp .And (b :: rest) pos) (lE (gd X T) W fb)) : PE X (.BoolOp .And (a :: b :: rest) pos) (lE (gd X T) W (fAnd fa fb)) :=
  PE.imp (pe_and ha hb) fun σ H Q q => by
    obtain ⟨ρ, env, h, m, hf⟩ := q
    refine ⟨ρ, env, h, m, ma.mo (fun x h1 q1 => ?_) (fun _ _ _ e => e) hf⟩
    intro ρ1 v H1 s1 r1
    cases r1 with
    | bl k =>
      refine ⟨k, rfl, ?_⟩
      cases k with
      | true =>
        rw [if_pos rfl]
        exact ⟨ρ1, env, h1, m.step s1, mb.mo (fun _ _ e => e.step s1) (fun _ _ _ e => e.step s1) q1⟩
      | false =>
        rw [if_neg Bool.false_ne_true]
        exact q1 ρ1 _ H1 s1 (.bl _)
    | _ => exact q1.elim
theorem se_or (ma : MonE fa) (mb : MonE fb) (ha : PE X a (lE (gd X T) W fa)) (hb : PE X (.BoolOp .Or (b :: rest) pos) (lE (gd X T) W fb)) : PE X (.BoolOp .Or (a :: b :: rest) pos) (lE (gd X T) W (fOr fa fb)) :=
  PE.imp (pe_or ha hb) fun σ H Q q => by
    obtain ⟨ρ, env, h, m, hf⟩ := q
    refine ⟨ρ, env, h, m, ma.mo (fun x h1 q1 => ?_) (fun _ _ _ e => e) hf⟩
    intro ρ1 v H1 s1 r1
    cases r1 with
    | bl k =>
      refine ⟨k, rfl, ?_⟩
      cases k with
      | false =>
        rw [if_neg Bool.false_ne_true]
        exact ⟨ρ1, env, h1, m.step s1, mb.mo (fun _ _ e => e.step s1) (fun _ _ _ e => e.step s1) q1⟩
      | true =>
        rw [if_pos rfl]
        exact q1 ρ1 _ H1 s1 (.bl _)
    | _ => exact q1.elim
theorem se_not (ma : MonE fa) (ha : PE X a (lE (gd X T) W fa)) : PE X (.UnaryOp .Not a pos) (lE (gd X T) W (fNot fa)) :=
  PE.imp (pe_not ha) fun σ H Q q => by
    obtain ⟨ρ, env, h, m, hf⟩ := q
    refine ⟨ρ, env, h, m, ma.mo (fun x h1 q1 => ?_) (fun _ _ _ e => e) hf⟩
    intro ρ1 v H1 s1 r1
    cases r1 with
    | bl k => exact ⟨k, rfl, q1 ρ1 _ H1 s1 (.bl _)⟩
    | _ => exact q1.elim
/-- tests -/
theorem sw_and (ma : MonE fa) (mb : MonE fb) (ha : PT X a (lT (gd X T) W (tOf fa))) (hb : PW X (.BoolOp .And (b :: rest) pos) (lT (gd X T) W (tOf fb))) : PW X (.BoolOp .And (a :: b :: rest) pos) (lT (gd X T) W (tOf (fAnd fa fb))) :=
  PW.imp (pw_and ha hb) fun σ H Q q => by
    obtain ⟨ρ, env, h, m, hf⟩ := q
    refine ⟨ρ, env, h, m, ma.mo (fun x h1 q1 => ?_) (fun _ _ _ e => e) hf⟩
    cases x with
    | bl k =>
      intro ρ1 H1 s1
      cases k with
      | true =>
        rw [if_pos rfl]
        exact ⟨ρ1, env, h1, m.step s1, mb.mo (fun d _ e => by cases d <;> first | exact e.step s1 | exact e) (fun _ _ _ e => e.step s1) q1⟩
      | false =>
        rw [if_neg Bool.false_ne_true]
        exact q1 ρ1 H1 s1
    | _ => exact q1
theorem sw_or (ma : MonE fa) (mb : MonE fb) (ha : PT X a (lT (gd X T) W (tOf fa))) (hb : PW X (.BoolOp .Or (b :: rest) pos) (lT (gd X T) W (tOf fb))) : PW X (.BoolOp .Or (a :: b :: rest) pos) (lT (gd X T) W (tOf (fOr fa fb))) :=
  PW.imp (pw_or ha hb) fun σ H Q q => by
    obtain ⟨ρ, env, h, m, hf⟩ := q
    refine ⟨ρ, env, h, m, ma.mo (fun x h1 q1 => ?_) (fun _ _ _ e => e) hf⟩
    cases x with
    | bl k =>
      intro ρ1 H1 s1
      cases k with
      | false =>
        rw [if_neg Bool.false_ne_true]
        exact ⟨ρ1, env, h1, m.step s1, mb.mo (fun d _ e => by cases d <;> first | exact e.step s1 | exact e) (fun _ _ _ e => e.step s1) q1⟩
      | true =>
        rw [if_pos rfl]
        exact q1 ρ1 H1 s1
    | _ => exact q1
theorem st_not (ma : MonE fa) (ha : PT X a (lT (gd X T) W (tOf fa))) : PT X (.UnaryOp .Not a pos) (lT (gd X T) W (tOf (fNot fa))) :=
  PT.imp (pt_not ha) fun σ H Q q => by
    obtain ⟨ρ, env, h, m, hf⟩ := q
    refine ⟨ρ, env, h, m, ma.mo (fun x h1 q1 => ?_) (fun _ _ _ e => e) hf⟩
    cases x with
    | bl k => exact fun ρ1 H1 s1 => q1 ρ1 H1 s1
    | _ => exact q1
theorem lT_ite {G : Gd} (mc : MonE fc) (ma : MonE fa) (mb : MonE fb) {σ : L2.St} {H : Hp} {Q : VK} (q : lE G W (fIte fc fa fb) σ H Q) : tIf (lT G W (tOf fc)) (lE G W fa) (lE G W fb) σ H Q := by
  obtain ⟨ρ, env, h, m, hf⟩ := q
  refine ⟨ρ, env, h, m, mc.mo (fun x h1 q1 => ?_) (fun _ _ _ e => e) hf⟩
  cases x with
  | bl k =>
    intro ρ1 H1 s1
    cases k with
    | true =>
      rw [if_pos rfl]
      exact ⟨ρ1, env, h1, m.step s1, ma.mo (fun _ _ e => e.step s1) (fun _ _ _ e => e.step s1) q1⟩
    | false =>
      rw [if_neg Bool.false_ne_true]
      exact ⟨ρ1, env, h1, m.step s1, mb.mo (fun _ _ e => e.step s1) (fun _ _ _ e => e.step s1) q1⟩
  | _ => exact q1
theorem se_ite (mc : MonE fc) (ma : MonE fa) (mb : MonE fb) (hc : PT X c (lT (gd X T) W (tOf fc))) (ha : PE X a (lE (gd X T) W fa)) (hb : PE X b (lE (gd X T) W fb)) : PE X (.IfExp c a b pos) (lE (gd X T) W (fIte fc fa fb)) :=
  PE.imp (pe_ifExp hc ha hb) fun _ _ _ q => lT_ite mc ma mb q
theorem st_ite (mc : MonE fc) (ma : MonE fa) (mb : MonE fb) (hc : PT X c (lT (gd X T) W (tOf fc))) (ha : PT X a (lT (gd X T) W (tOf fa))) (hb : PT X b (lT (gd X T) W (tOf fb))) : PT X (.IfExp c a b pos) (lT (gd X T) W (tOf (fIte fc fa fb))) := by
  refine ⟨fun pins s σ H Q I q => ?_⟩
  obtain ⟨ρ, env, h, m, hf⟩ := q
  refine isTrue_IfExp (thn (hc.run pins s σ H (fun k H1 => if k = true then lT (gd X T) W (tOf fa) σ H1 Q else lT (gd X T) W (tOf fb) σ H1 Q) I ⟨ρ, env, h, m, mc.mo (fun x h1 q1 => ?_) (fun _ _ _ e => e) hf⟩) fun k s1 hk => ?_)
  · cases x with
    | bl k =>
      intro ρ1 H1 s1
      cases k with
      | true =>
        rw [if_pos rfl]
        exact ⟨ρ1, env, h1, m.step s1, ma.mo (fun d _ e => by cases d <;> first | exact e.step s1 | exact e) (fun _ _ _ e => e.step s1) q1⟩
      | false =>
        rw [if_neg Bool.false_ne_true]
        exact ⟨ρ1, env, h1, m.step s1, mb.mo (fun d _ e => by cases d <;> first | exact e.step s1 | exact e) (fun _ _ _ e => e.step s1) q1⟩
    | _ => exact q1
  · obtain ⟨H1, I1, q1⟩ := hk
    cases k with
    | true => exact ha.run pins s1 σ H1 Q I1 q1
    | false => exact hb.run pins s1 σ H1 Q I1 q1
/-- a plain expression as a test -/
theorem st_val {e : Expr} {f : FE} (m : MonE f) (h : PE X e (lE (gd X T) W f)) (he : ∀ whole, isTrue e X.env whole = (do let v ← whole; standAt e.pos; holding [v] (truthy v))) : PT X e (lT (gd X T) W (tOf f)) :=
  PT.imp (pt_val h he) fun _ _ _ q => lT_of m q
end
end Ev

set_option Elab.async false
set_option linter.all false
set_option maxRecDepth 100000
/-! Ev4b: displays, subscripts, calls of built-ins, methods, isinstance, calls of defs. -/
namespace Ev
open PySem PySem.Spec PyProof.Rows L2 NdefX

/-- a check on the way -/
def chk (b : Bool) (p : Prop) : Prop := match b with
  | true => p
  | false => False
theorem chk_of {b : Bool} {p : Prop} (hb : b = true) (h : p) : chk b p := by subst hb; exact h
theorem chk_iff {b : Bool} {p : Prop} : chk b p ↔ b = true ∧ p := by cases b <;> simp [chk]
/-! ### a term of this kit: the step's own meaning keeps implications, and it is sound -/
structure SE (X : Cx) (T : List NTab) (W : WX) (e : Expr) (f : FE) : Prop where
  m : MonE f
  p : PE X e (lE (gd X T) W f)
structure SA (X : Cx) (T : List NTab) (W : WX) (e : List Expr) (f : FA) : Prop where
  m : MonA f
  p : PA X e (lA (gd X T) W f)
structure ST (X : Cx) (T : List NTab) (W : WX) (e : Expr) (f : FE) : Prop where
  m : MonE f
  p : PT X e (lT (gd X T) W (tOf f))
structure SW (X : Cx) (T : List NTab) (W : WX) (e : Expr) (f : FE) : Prop where
  m : MonE f
  p : PW X e (lT (gd X T) W (tOf f))
def fNil : FA := fun _ h Q _ => Q [] h
def fCons (fa : FE) (ft : FA) : FA := fun env h Q E => fa env h (fun d h1 => ft env h1 (fun ds h2 => Q (d :: ds) h2) E) E
def fTup (ft : FA) : FE := fun env h Q E => ft env h (fun ds h1 => chk (decide (ds.length ≤ line)) (Q (.tup ds) h1)) E
def fLst (ft : FA) : FE := fun env h Q E => ft env h (fun ds h1 => chk (decide (ds.length ≤ line)) (Q (.ref h1.length) (h1 ++ [.lst ds]))) E
def fFN (g : FN) (ft : FA) : FE := fun env h Q E => ft env h (fun ds h1 => fin (g ds h1) h1 Q) E
def fMt (m : Mt) (fo : FE) (ft : FA) : FE := fun env h Q E => fo env h (fun x h1 => chk (match x with
  | .str _ => decide (m.ty = "str")
  | .ref _ => decide (m.ty = "list")
  | _ => false) (ft env h1 (fun ds h2 => finE (m.g x ds h2) h2 Q) E)) E
def fIsi (fa : FE) (ts : List Ty) : FE := fun env h Q E => fa env h (fun x h1 => match tyD x h1 with
  | some t => Q (.bl (ts.any t.isa)) h1
  | none => False) E
abbrev Spec := List D → VH → PQ → PX → Prop
structure MonSp (sp : Spec) : Prop where
  mo : ∀ {ds : List D} {h : VH} {Q Q' : PQ} {E E' : PX}, (∀ d h, Q d h → Q' d h) → (∀ c d h, E c d h → E' c d h) → sp ds h Q E → sp ds h Q' E'
def fCall (sp : Spec) (ft : FA) : FE := fun env h Q E => ft env h (fun ds h1 => sp ds h1 Q E) E
def fSl1 (fx : FE) (lo hi : Option FE) : FE := fun env h Q E => fx env h (fun x h1 => match lo, hi with
  | none, none => fin (gSl x none none h1) h1 Q
  | some fl, none => fl env h1 (fun y h2 => match y with
    | .int i => fin (gSl x (some i) none h2) h2 Q
    | _ => False) E
  | none, some fu => fu env h1 (fun y h2 => match y with
    | .int i => fin (gSl x none (some i) h2) h2 Q
    | _ => False) E
  | some fl, some fu => fl env h1 (fun y h2 => match y with
    | .int i => fu env h2 (fun z h3 => match z with
      | .int j => fin (gSl x (some i) (some j) h3) h3 Q
      | _ => False) E
    | _ => False) E) E
section
variable {ft : FA} {fa fo fx : FE} {g : FN}
theorem chk_mono {b : Bool} {p q : Prop} (h : p → q) (c : chk b p) : chk b q := by
  cases b with
  | true => exact h c
  | false => exact c
theorem fNil_mono : MonA fNil := ⟨fun kQ _ q => kQ _ _ q⟩
theorem fCons_mono (ma : MonE fa) (mt : MonA ft) : MonA (fCons fa ft) := ⟨fun kQ kE q => ma.mo (fun _ _ q1 => mt.mo (fun _ _ q2 => kQ _ _ q2) kE q1) kE q⟩
theorem fTup_mono (mt : MonA ft) : MonE (fTup ft) := ⟨fun kQ kE q => mt.mo (fun _ _ q1 => chk_mono (kQ _ _) q1) kE q⟩
theorem fLst_mono (mt : MonA ft) : MonE (fLst ft) := ⟨fun kQ kE q => mt.mo (fun _ _ q1 => chk_mono (kQ _ _) q1) kE q⟩
theorem fFN_mono (mt : MonA ft) : MonE (fFN g ft) := ⟨fun kQ kE q => mt.mo (fun _ _ q1 => fin_mono kQ q1) kE q⟩
theorem fMt_mono {m : Mt} (mo : MonE fo) (mt : MonA ft) : MonE (fMt m fo ft) := ⟨fun kQ kE q => mo.mo (fun x h1 q1 => chk_mono (fun q2 => mt.mo (fun _ _ q3 => finE_mono kQ q3) kE q2) q1) kE q⟩
theorem fIsi_mono {ts : List Ty} (ma : MonE fa) : MonE (fIsi fa ts) := ⟨fun kQ kE q => ma.mo (fun x h1 q1 => by
  revert q1
  cases tyD x h1 with
  | none => exact id
  | some t => exact kQ _ _) kE q⟩
theorem fCall_mono {sp : Spec} (ms : MonSp sp) (mt : MonA ft) : MonE (fCall sp ft) := ⟨fun kQ kE q => mt.mo (fun _ _ q1 => ms.mo kQ kE q1) kE q⟩
end
section
variable {X : Cx} {T : List NTab} {W : WX} {e a b c o : Expr} {es rest : List Expr} {fa fb fc fo : FE} {ft : FA} {pos p p2 apos : Pos} {x : Str}
/-! #### as in Ev4 -/
theorem e_var {i : Nat} (hN : X.N[i]? = some x) (hv : Vis X.env.scope x) (hd : (x == ("__debug__" : Str)) = false := by decide) (hcd : (x == ("__classdict__" : Str)) = false := by decide) : SE X T W (.Name x p) (fVar i) := ⟨fVar_mono, se_var hN hv hd hcd⟩
theorem e_int {i : Int} {j : Nat} : SE X T W (.Constant (.int i) j p) (fLit (.int i)) := ⟨fLit_mono, se_const pe_int fun _ _ _ => .int _⟩
theorem e_bl {i : Bool} {j : Nat} : SE X T W (.Constant (.bool i) j p) (fLit (.bl i)) := ⟨fLit_mono, se_const pe_bl fun _ _ _ => .bl _⟩
theorem e_str {i : Str} {j : Nat} : SE X T W (.Constant (.str i) j p) (fLit (.str i)) := ⟨fLit_mono, se_const pe_str fun _ _ _ => .str _⟩
theorem e_non {j : Nat} : SE X T W (.Constant .none j p) (fLit .non) := ⟨fLit_mono, se_const pe_non fun _ _ _ => .non⟩
theorem e_neg (ha : SE X T W a fa) : SE X T W (.UnaryOp .USub a p) (fNeg fa) := ⟨fNeg_mono ha.m, se_neg ha.m ha.p⟩
theorem e_bin (o : Bop) (ha : SE X T W a fa) (hb : SE X T W b fb) : SE X T W (.BinOp a o.op b p) (fBin o.g fa fb) := ⟨fBin_mono ha.m hb.m, se_bin o ha.m hb.m ha.p hb.p⟩
theorem e_isN {j pos'} (ha : SE X T W a fa) : SE X T W (.Compare a [.Is] [.Constant .none j pos'] p) (fIsN false fa) := ⟨fIsN_mono ha.m, se_isN ha.m ha.p⟩
theorem e_notN {j pos'} (ha : SE X T W a fa) : SE X T W (.Compare a [.IsNot] [.Constant .none j pos'] p) (fIsN true fa) := ⟨fIsN_mono ha.m, se_notN ha.m ha.p⟩
theorem t_isN {j pos'} (ha : SE X T W a fa) : ST X T W (.Compare a [.Is] [.Constant .none j pos'] p) (fIsN false fa) := ⟨fIsN_mono ha.m, st_isN ha.m ha.p⟩
theorem t_notN {j pos'} (ha : SE X T W a fa) : ST X T W (.Compare a [.IsNot] [.Constant .none j pos'] p) (fIsN true fa) := ⟨fIsN_mono ha.m, st_notN ha.m ha.p⟩
theorem e_cmp (hu : X.A.units + 64 < cLine) (o : Cop) (ha : SE X T W a fa) (hb : SE X T W b fb) (hm : behindInMarks o.op b = false := by rfl) : SE X T W (.Compare a [o.op] [b] p) (fBin o.g fa fb) := ⟨fBin_mono ha.m hb.m, se_cmp hu o ha.m hb.m ha.p hb.p hm⟩
theorem t_cmp (hu : X.A.units + 64 < cLine) (o : Cop) (ha : SE X T W a fa) (hb : SE X T W b fb) (hm : behindInMarks o.op b = false := by rfl) : ST X T W (.Compare a [o.op] [b] p) (fBin o.g fa fb) := ⟨fBin_mono ha.m hb.m, st_cmp hu o ha.m hb.m ha.p hb.p hm⟩
theorem e_chain (hu : X.A.units + 64 < cLine) (o o' : Cop) (ha : SE X T W a fa) (hb : SE X T W b fb) (hc : SE X T W c fc) (hm : lastMarks [o.op, o'.op] [b, c] = false := by rfl) : SE X T W (.Compare a [o.op, o'.op] [b, c] p) (fChain o.g o'.g fa fb fc) := ⟨fChain_mono ha.m hb.m hc.m, se_chain hu o o' ha.m hb.m hc.m ha.p hb.p hc.p hm⟩
theorem t_chain (hu : X.A.units + 64 < cLine) (o o' : Cop) (ha : SE X T W a fa) (hb : SE X T W b fb) (hc : SE X T W c fc) (hm : lastMarks [o.op, o'.op] [b, c] = false := by rfl) : ST X T W (.Compare a [o.op, o'.op] [b, c] p) (fChain o.g o'.g fa fb fc) := ⟨fChain_mono ha.m hb.m hc.m, st_chain hu o o' ha.m hb.m hc.m ha.p hb.p hc.p hm⟩
theorem e_one {op : BoolOp} (ha : SE X T W a fa) : SE X T W (.BoolOp op [a] p) fa := ⟨ha.m, pe_one ha.p⟩
theorem e_and (ha : SE X T W a fa) (hb : SE X T W (.BoolOp .And (b :: rest) p) fb) : SE X T W (.BoolOp .And (a :: b :: rest) p) (fAnd fa fb) := ⟨fAnd_mono ha.m hb.m, se_and ha.m hb.m ha.p hb.p⟩
theorem e_or (ha : SE X T W a fa) (hb : SE X T W (.BoolOp .Or (b :: rest) p) fb) : SE X T W (.BoolOp .Or (a :: b :: rest) p) (fOr fa fb) := ⟨fOr_mono ha.m hb.m, se_or ha.m hb.m ha.p hb.p⟩
theorem e_not (ha : SE X T W a fa) : SE X T W (.UnaryOp .Not a p) (fNot fa) := ⟨fNot_mono ha.m, se_not ha.m ha.p⟩
theorem w_one {op : BoolOp} (ha : ST X T W a fa) : SW X T W (.BoolOp op [a] p) fa := ⟨ha.m, by
  cases op
  · exact pw_and1 ha.p
  · exact pw_or1 ha.p⟩
theorem w_and (ha : ST X T W a fa) (hb : SW X T W (.BoolOp .And (b :: rest) p) fb) : SW X T W (.BoolOp .And (a :: b :: rest) p) (fAnd fa fb) := ⟨fAnd_mono ha.m hb.m, sw_and ha.m hb.m ha.p hb.p⟩
theorem w_or (ha : ST X T W a fa) (hb : SW X T W (.BoolOp .Or (b :: rest) p) fb) : SW X T W (.BoolOp .Or (a :: b :: rest) p) (fOr fa fb) := ⟨fOr_mono ha.m hb.m, sw_or ha.m hb.m ha.p hb.p⟩
theorem SW.t (h : SW X T W e fa) : ST X T W e fa := ⟨h.m, h.p.pt⟩
theorem t_not (ha : ST X T W a fa) : ST X T W (.UnaryOp .Not a p) (fNot fa) := ⟨fNot_mono ha.m, st_not ha.m ha.p⟩
theorem e_ite (hc : ST X T W c fc) (ha : SE X T W a fa) (hb : SE X T W b fb) : SE X T W (.IfExp c a b p) (fIte fc fa fb) := ⟨fIte_mono hc.m ha.m hb.m, se_ite hc.m ha.m hb.m hc.p ha.p hb.p⟩
theorem t_ite (hc : ST X T W c fc) (ha : ST X T W a fa) (hb : ST X T W b fb) : ST X T W (.IfExp c a b p) (fIte fc fa fb) := ⟨fIte_mono hc.m ha.m hb.m, st_ite hc.m ha.m hb.m hc.p ha.p hb.p⟩
theorem t_val (ha : SE X T W a fa) (he : ∀ whole, isTrue a X.env whole = (do let v ← whole; standAt a.pos; holding [v] (truthy v)) := by exact fun _ => rfl) : ST X T W a fa := ⟨ha.m, st_val ha.m ha.p he⟩
/-! #### argument lists, displays -/
theorem a_nil : SA X T W [] fNil := ⟨fNil_mono, PA.imp pa_nil fun σ H Q q => by
  obtain ⟨ρ, env, h, m, hf⟩ := q
  exact hf ρ [] H (Stp.refl m.ok) .nil⟩
theorem a_cons (ha : SE X T W a fa) (ht : SA X T W es ft) (hs : starEach (a :: es) X.env = (false, eval a X.env) :: starEach es X.env := by rfl) : SA X T W (a :: es) (fCons fa ft) :=
  ⟨fCons_mono ha.m ht.m, PA.imp (pa_cons ha.p ht.p hs) fun σ H Q q => by
    obtain ⟨ρ, env, h, m, hf⟩ := q
    refine ⟨ρ, env, h, m, ha.m.mo (fun d h1 q1 => ?_) (fun _ _ _ z => z) hf⟩
    intro ρ1 v H1 s1 r1
    refine ⟨ρ1, env, h1, m.step s1, ht.m.mo (fun ds h2 q2 => ?_) (fun _ _ _ z => z.step s1) q1⟩
    intro ρ2 vs H2 s2 r2
    exact q2 ρ2 _ H2 (s1.trans s2) (.cons (s2.rp s1.ok r1) r2)⟩
theorem e_tup {x1} (ht : SA X T W es ft) : SE X T W (.Tuple es x1 p) (fTup ft) :=
  ⟨fTup_mono ht.m, PE.imp (pe_tup ht.p) fun σ H Q q => by
    obtain ⟨ρ, env, h, m, hf⟩ := q
    refine ⟨ρ, env, h, m, ht.m.mo (fun ds h1 q1 => ?_) (fun _ _ _ z => z) hf⟩
    intro ρ1 vs H1 s1 r1
    obtain ⟨hl, q2⟩ := chk_iff.mp q1
    have hl := of_decide_eq_true hl
    rw [r1.length] at hl
    exact ⟨by rw [← line_eq]; exact hl, fin_tup s1.ok r1 (q2.step s1)⟩⟩
theorem e_lst (ht : SA X T W es ft) : SE X T W (.List es p) (fLst ft) :=
  ⟨fLst_mono ht.m, PE.imp (pe_lst ht.p) fun σ H Q q => by
    obtain ⟨ρ, env, h, m, hf⟩ := q
    refine ⟨ρ, env, h, m, ht.m.mo (fun ds h1 q1 => ?_) (fun _ _ _ z => z) hf⟩
    intro ρ1 vs H1 s1 r1
    obtain ⟨hl, q2⟩ := chk_iff.mp q1
    have hl := of_decide_eq_true hl
    rw [r1.length] at hl
    exact ⟨by rw [← line_eq]; exact hl, fin_new s1.ok r1 (q2.step s1)⟩⟩
/-! #### subscripts -/
theorem e_ix (ha : SE X T W a fa) (hb : SE X T W b fb) (hs : PlainIx b := by exact fun _ _ => rfl) : SE X T W (.Subscript a b p) (fBin gIx fa fb) := ⟨fBin_mono ha.m hb.m, PE.imp (pe_ix ix_all ha.p hb.p hs) fun _ _ _ q => lE_bin ha.m hb.m q⟩
/-- a slice's part -/
inductive SO (X : Cx) (T : List NTab) (W : WX) : Option Expr → Option FE → Prop
  | none : SO X T W Option.none Option.none
  | some {e : Expr} {f : FE} (h : SE X T W e f) : SO X T W (Option.some e) (Option.some f)
theorem fSl1_mono {lo hi : Option FE} {fx : FE} (mx : MonE fx) (ml : ∀ f, lo = some f → MonE f) (mh : ∀ f, hi = some f → MonE f) : MonE (fSl1 fx lo hi) := ⟨fun kQ kE q => mx.mo (fun x h1 q1 => by
  cases lo with
  | none =>
    cases hi with
    | none => exact fin_mono kQ q1
    | some f => exact (mh f rfl).mo (fun y h2 q2 => by cases y <;> first | exact q2.elim | exact fin_mono kQ q2) kE q1
  | some l =>
    cases hi with
    | none => exact (ml l rfl).mo (fun y h2 q2 => by cases y <;> first | exact q2.elim | exact fin_mono kQ q2) kE q1
    | some f => exact (ml l rfl).mo (fun y h2 q2 => by cases y <;> first | exact q2.elim | exact (mh f rfl).mo (fun z h3 q3 => by cases z <;> first | exact q3.elim | exact fin_mono kQ q3) kE q2) kE q1) kE q⟩
theorem SO.mono {eo : Option Expr} {fo : Option FE} (h : SO X T W eo fo) : ∀ f, fo = Option.some f → MonE f := by
  intro f e
  cases h with
  | none => cases e
  | some h => cases e; exact h.m
theorem e_sl {lo hi : Option Expr} {flo fhi : Option FE} (ha : SE X T W a fa) (hl : SO X T W lo flo) (hh : SO X T W hi fhi) : SE X T W (.Subscript a (.Slice lo hi none p2) p) (fSl1 fa flo fhi) := by
  refine ⟨fSl1_mono ha.m hl.mono hh.mono, ?_⟩
  cases hl with
  | none =>
    cases hh with
    | none =>
      refine PE.imp (pe_slice (sl_all (T := T)) ha.p po_none po_none) fun σ H Q q => ?_
      obtain ⟨ρ, env, h, m, hf⟩ := q
      refine ⟨ρ, env, h, m, ha.m.mo (fun x h1 q1 => ?_) (fun _ _ _ z => z) hf⟩
      intro ρ1 v H1 s1 r1
      exact ⟨ρ1, h1, x, s1.ok, r1, fin_mono (fun _ _ z => z.step s1) q1⟩
    | some hh =>
      refine PE.imp (pe_slice (sl_all (T := T)) ha.p po_none (po_some hh.p)) fun σ H Q q => ?_
      obtain ⟨ρ, env, h, m, hf⟩ := q
      refine ⟨ρ, env, h, m, ha.m.mo (fun x h1 q1 => ?_) (fun _ _ _ z => z) hf⟩
      intro ρ1 v H1 s1 r1
      refine ⟨ρ1, env, h1, m.step s1, hh.m.mo (fun y h2 q2 => ?_) (fun _ _ _ z => z.step s1) q1⟩
      intro ρ2 w H2 s2 r2
      cases r2 with
      | int i => exact ⟨i, rfl, ρ2, h2, x, s2.ok, s2.rp s1.ok r1, fin_mono (fun _ _ z => z.step (s1.trans s2)) q2⟩
      | _ => exact q2.elim
  | some hl =>
    cases hh with
    | none =>
      refine PE.imp (pe_slice (sl_all (T := T)) ha.p (po_some hl.p) po_none) fun σ H Q q => ?_
      obtain ⟨ρ, env, h, m, hf⟩ := q
      refine ⟨ρ, env, h, m, ha.m.mo (fun x h1 q1 => ?_) (fun _ _ _ z => z) hf⟩
      intro ρ1 v H1 s1 r1
      refine ⟨ρ1, env, h1, m.step s1, hl.m.mo (fun y h2 q2 => ?_) (fun _ _ _ z => z.step s1) q1⟩
      intro ρ2 w H2 s2 r2
      cases r2 with
      | int i => exact ⟨i, rfl, ρ2, h2, x, s2.ok, s2.rp s1.ok r1, fin_mono (fun _ _ z => z.step (s1.trans s2)) q2⟩
      | _ => exact q2.elim
    | some hh =>
      refine PE.imp (pe_slice (sl_all (T := T)) ha.p (po_some hl.p) (po_some hh.p)) fun σ H Q q => ?_
      obtain ⟨ρ, env, h, m, hf⟩ := q
      refine ⟨ρ, env, h, m, ha.m.mo (fun x h1 q1 => ?_) (fun _ _ _ z => z) hf⟩
      intro ρ1 v H1 s1 r1
      refine ⟨ρ1, env, h1, m.step s1, hl.m.mo (fun y h2 q2 => ?_) (fun _ _ _ z => z.step s1) q1⟩
      intro ρ2 w H2 s2 r2
      cases r2 with
      | int i =>
        refine ⟨i, rfl, ρ2, env, h2, (m.step s1).step s2, hh.m.mo (fun y h3 q3 => ?_) (fun _ _ _ z => (z.step s1).step s2) q2⟩
        intro ρ3 w H3 s3 r3
        cases r3 with
        | int j => exact ⟨j, rfl, ρ3, h3, x, s3.ok, s3.rp s2.ok (s2.rp s1.ok r1), fin_mono (fun _ _ z => z.step ((s1.trans s2).trans s3)) q3⟩
        | _ => exact q3.elim
      | _ => exact q2.elim
/-! #### built-ins -/
theorem lE_fn {G : Gd} {g : FN} (mt : MonA ft) {σ : L2.St} {H : Hp} {Q : VK} (q : lE G W (fFN g ft) σ H Q) : tCB (rOfN G g) (lA G W ft) σ H Q := by
  obtain ⟨ρ, env, h, m, hf⟩ := q
  refine ⟨ρ, env, h, m, mt.mo (fun ds h1 q1 => ?_) (fun _ _ _ z => z) hf⟩
  intro ρ1 vs H1 s1 r1
  exact ⟨ρ1, h1, ds, s1.ok, r1, fin_mono (fun _ _ z => z.step s1) q1⟩
theorem e_bi (hc : X.calm = true) (bi : Bi) (hx : Str.ofString bi.name = x) (hg : Gl X x) (hm : X.mg x = none) (ha : SA X T W (e :: es) ft) (hn : x ≠ "__name__" := by decide) (hdb : (x == ("__debug__" : Str)) = false := by decide)
    (he : starEach (e :: es) X.env = (false, eval e X.env) :: starEach es X.env := by rfl) (hpl : (backTo pos (starEach es X.env)).any (·.1) = false := by rfl) : SE X T W (.Call (.Name x p) (e :: es) [] pos) (fFN bi.g ft) := by
  refine ⟨fFN_mono ha.m, ?_⟩
  have hb := Bi.boot bi
  rw [hx] at hb
  have hcc := Bi.call (T := T) hc bi
  cases bi <;> first
    | exact PE.imp (pe_callB hcc hg hm hb ha.p hn hdb he hpl) fun _ _ _ q => lE_fn ha.m q
    | exact PE.imp (pe_callTy hcc hg hm hb ha.p hn hdb he hpl) fun _ _ _ q => lE_fn ha.m q
theorem e_mt (mt : Mt) (hx : Str.ofString mt.name = x) (ho : SE X T W o fo) (ha : SA X T W (e :: es) ft)
    (hbase : attributeBase o x X.env (eval o X.env) = eval o X.env := by rfl)
    (hfew : ((backTo pos (starEach (e :: es) X.env)).all (fun x => !x.1) && (backToKw pos (keywordEach [] X.env)).all (fun x => x.1.isSome)
      && decide ((e :: es).length + ([] : List Keyword).length + (if ([] : List Keyword).isEmpty then 0 else 1) < 30)) = true := by rfl)
    (hline : (apos.endLine == pos.line) = true := by rfl) (hs : starEach (e :: es) X.env = (false, eval e X.env) :: starEach es X.env := by rfl) (hplain : (backTo pos (starEach es X.env)).any (·.1) = false := by rfl) :
    SE X T W (.Call (.Attribute o x apos) (e :: es) [] pos) (fMt mt fo ft) := by
  subst hx
  refine ⟨fMt_mono ho.m ha.m, PE.imp (pe_bm mt.pa mt.slot mt.tyo (Mt.mr (T := T) mt) ho.p ha.p hbase hfew hline hs hplain) fun σ H Q q => ?_⟩
  obtain ⟨ρ, env, h, m, hf⟩ := q
  refine ⟨ρ, env, h, m, ho.m.mo (fun x h1 q1 => ?_) (fun _ _ _ z => z) hf⟩
  intro ρ1 v H1 s1 r1
  obtain ⟨hd, q2⟩ := chk_iff.mp q1
  refine ⟨Mt.tyV s1.ok r1 mt ?_, ρ1, env, h1, m.step s1, ha.m.mo (fun ds h2 q3 => ?_) (fun _ _ _ z => z.step s1) q2⟩
  · cases x <;> first | exact of_decide_eq_true hd | exact absurd hd Bool.false_ne_true
  · intro ρ2 vs H2 s2 r2
    exact ⟨ρ2, h2, x, ds, s2.ok, s2.rp s1.ok r1, r2, finE_mono (fun _ _ z => z.step (s1.trans s2)) q3⟩
theorem e_mt0 (mt : Mt) (hx : Str.ofString mt.name = x) (ho : SE X T W o fo)
    (hbase : attributeBase o x X.env (eval o X.env) = eval o X.env := by rfl) (hline : (apos.endLine == pos.line) = true := by rfl) :
    SE X T W (.Call (.Attribute o x apos) [] [] pos) (fMt mt fo fNil) := by
  subst hx
  refine ⟨fMt_mono ho.m fNil_mono, PE.imp (pe_bm0 mt.pa mt.slot mt.tyo (Mt.mr (T := T) mt) ho.p hbase hline) fun σ H Q q => ?_⟩
  obtain ⟨ρ, env, h, m, hf⟩ := q
  refine ⟨ρ, env, h, m, ho.m.mo (fun x h1 q1 => ?_) (fun _ _ _ z => z) hf⟩
  intro ρ1 v H1 s1 r1
  obtain ⟨hd, q2⟩ := chk_iff.mp q1
  refine ⟨Mt.tyV s1.ok r1 mt ?_, ρ1, h1, x, [], s1.ok, r1, .nil, finE_mono (fun _ _ z => z.step s1) q2⟩
  cases x <;> first | exact of_decide_eq_true hd | exact absurd hd Bool.false_ne_true
/-! #### isinstance -/
/-- names of built-in types -/
structure TyN (X : Cx) (e : Expr) (t : Ty) : Prop where
  p : PE X e (tC (.ty t.name))
theorem ty_name (t : Ty) (hx : Str.ofString t.name = x) (hb : bootBuiltins x = some (.type t.name)) (hg : Gl X x) (hm : X.mg x = none) (hn : x ≠ "__name__" := by decide) (hdb : (x == ("__debug__" : Str)) = false := by decide) : TyN X (.Name x p) t := ⟨pe_bltn hg hm hb rfl hn hdb⟩
structure TyA (X : Cx) (es : List Expr) (ts : List Ty) : Prop where
  p : PA X es (fun _ H Q => Q (ts.map fun t => V.ty t.name) H)
theorem ty_nil : TyA X [] [] := ⟨pa_nil⟩
theorem ty_cons {t : Ty} {ts : List Ty} (ha : TyN X a t) (hr : TyA X es ts) (hs : starEach (a :: es) X.env = (false, eval a X.env) :: starEach es X.env := by rfl) : TyA X (a :: es) (t :: ts) := ⟨pa_cons ha.p hr.p hs⟩
theorem e_isi {t : Ty} (hg : Gl X "isinstance") (hm : X.mg "isinstance" = none) (ha : SE X T W a fa) (hb : TyN X b t)
    (he : starEach [a, b] X.env = (false, eval a X.env) :: starEach [b] X.env := by rfl) (hb' : starEach [b] X.env = (false, eval b X.env) :: starEach [] X.env := by rfl) (hpl : (backTo pos (starEach [b] X.env)).any (·.1) = false := by rfl) : SE X T W (.Call (.Name "isinstance" p) [a, b] [] pos) (fIsi fa [t]) :=
  ⟨fIsi_mono ha.m, PE.imp (pe_callB call_isi hg hm (by decide +kernel) (pa_cons ha.p (pa_cons hb.p pa_nil hb') he) (by decide) (by decide) he hpl) fun σ H Q q => by
    obtain ⟨ρ, env, h, m, hf⟩ := q
    refine ⟨ρ, env, h, m, ha.m.mo (fun x h1 q1 => ?_) (fun _ _ _ z => z) hf⟩
    intro ρ1 v H1 s1 r1
    cases e : tyD x h1 with
    | none => rw [e] at q1; exact q1.elim
    | some u =>
      rw [e] at q1
      refine ⟨v, _, _, _, u.isa t, rfl, .ty t.name, tyD_x s1.ok r1 e, kit_ty (kit_isa u t), ?_⟩
      have : [t].any u.isa = u.isa t := by simp
      rw [← this]
      exact q1 ρ1 _ H1 s1 (.bl _)⟩
theorem paired_ty : ∀ ts : List Ty, Paired ClsV (ts.map fun t => V.ty t.name) (ts.map fun t => Value.type t.name)
  | [] => .nil
  | t :: ts => .cons (.ty t.name) (paired_ty ts)
theorem e_isiT {ts : List Ty} {x1} (hg : Gl X "isinstance") (hm : X.mg "isinstance" = none) (ha : SE X T W a fa) (hb : TyA X es ts) (hl : ts.length ≤ line)
    (he : starEach [a, .Tuple es x1 p2] X.env = (false, eval a X.env) :: starEach [.Tuple es x1 p2] X.env := by rfl) (hb' : starEach [.Tuple es x1 p2] X.env = (false, eval (.Tuple es x1 p2) X.env) :: starEach [] X.env := by rfl) (hpl : (backTo pos (starEach [.Tuple es x1 p2] X.env)).any (·.1) = false := by rfl) : SE X T W (.Call (.Name "isinstance" p) [a, .Tuple es x1 p2] [] pos) (fIsi fa ts) :=
  ⟨fIsi_mono ha.m, PE.imp (pe_callB call_isiT hg hm (by decide +kernel) (pa_cons ha.p (pa_cons (pe_tup hb.p) pa_nil hb') he) (by decide) (by decide) he hpl) fun σ H Q q => by
    obtain ⟨ρ, env, h, m, hf⟩ := q
    refine ⟨ρ, env, h, m, ha.m.mo (fun x h1 q1 => ?_) (fun _ _ _ z => z) hf⟩
    intro ρ1 v H1 s1 r1
    refine ⟨by rw [List.length_map, ← line_eq]; exact hl, fun tp htp => ?_⟩
    have s2 := Stp.new (o := .tup (ts.map fun t => V.ty t.name)) s1.ok htp
    cases e : tyD x h1 with
    | none => rw [e] at q1; exact q1.elim
    | some u =>
      rw [e] at q1
      exact ⟨v, tp, _, _, _, ts.any u.isa, rfl, upd_same, paired_ty ts, tyD_x s2.ok (s2.rp s1.ok r1) e, kitAny_isa u ts, q1 ρ1 _ _ (s1.trans s2) (.bl _)⟩⟩
end
end Ev

set_option Elab.async false
set_option linter.all false
set_option maxRecDepth 100000
/-! Ev4c: calls of defs. -/
namespace Ev
open PySem PySem.Spec PyProof.Rows L2 NdefX

def QXE (G : Gd) (ρ : Nat → Addr) (h : VH) (H : Hp) (E : XK) : PX := fun c d h' => ∀ ρ' H' C dx w, Stp G ρ h H ρ' h' H' → G.mg c = some (.ref C) → H' dx = some (.xd [("value", w)]) → Rp G H' ρ' h'.length d w → E (.ref C) (some dx) H'
/-- a promise by data, as the layer's promise -/
def spOf (G : Gd) (sp : Spec) : Sp := fun vs H Q E => ∃ ρ h ds, VOk G H ρ h ∧ TabsN G.T H ∧ RpA G H ρ h.length ds vs ∧ sp ds h (QV G ρ h H Q) (QXE G ρ h H E)
/-- the def x (its statement st, its parameters ps) keeps the promise sp, at level k -/
structure Fn (P : Program) (w : World) (K : PySem.W.Frag) (mg : Str → Option Value) (base : Heap) (T : List NTab) (x : Str) (st : Stmt) (ps : List Str) (k : Nat) (sp : Spec) : Prop where
  mo : MonSp sp
  len : ∀ ds h Q E, sp ds h Q E → ds.length = ps.length
  ex : ∃ f fd, mg x = some (.ref f) ∧ FunD K x x (defArgs st) (defBody st) (defScope st) [] [] f fd ∧ Binds K fd ps [] ∧ FnOk P w K mg base (L2.CX P w) k f fd ps (spOf ⟨K, mg, T⟩ sp)
theorem Fn.up {P : Program} {w : World} {K : PySem.W.Frag} {mg : Str → Option Value} {base : Heap} {T : List NTab} {x : Str} {st : Stmt} {ps : List Str} {j k : Nat} {sp : Spec} (F : Fn P w K mg base T x st ps j sp) (h : j ≤ k) : Fn P w K mg base T x st ps k sp :=
  ⟨F.mo, F.len, by
    obtain ⟨f, fd, h1, h2, h3, h4⟩ := F.ex
    exact ⟨f, fd, h1, h2, h3, h4.mono h⟩⟩
section
variable {X : Cx} {T : List NTab} {W : WX} {e : Expr} {es : List Expr} {ft : FA} {pos p : Pos} {x : Str} {st : Stmt} {ps : List Str} {j k : Nat} {sp : Spec}
theorem lE_call {σ : L2.St} {H : Hp} {Q : VK} (mt : MonA ft) (ms : MonSp sp) (q : lE (gd X T) W (fCall sp ft) σ H Q) : tCallS (spOf (gd X T) sp) (WE W) (lA (gd X T) W ft) σ H Q := by
  obtain ⟨ρ, env, h, m, hf⟩ := q
  refine ⟨ρ, env, h, m, mt.mo (fun ds h1 q1 => ?_) (fun _ _ _ z => z) hf⟩
  intro ρ1 vs H1 s1 r1
  exact ⟨ρ1, h1, ds, s1.ok, s1.tb m.tabs, r1, ms.mo (fun _ _ z => z.step s1) (fun _ _ _ z => QX.step (σ := σ) (W := W) s1 z) q1⟩
theorem e_call (F : Fn X.prog X.w X.K X.mg X.base T x st ps j sp) (hk : j ≤ k) (hr : Room k X.A) (tk : Takes X W) (hg : Gl X x) (ha : SA X T W (e :: es) ft) (hdb : (x == ("__debug__" : Str)) = false := by decide)
    (he : starEach (e :: es) X.env = (false, eval e X.env) :: starEach es X.env := by rfl) (hpl : (backTo pos (starEach es X.env)).any (·.1) = false := by rfl) : SE X T W (.Call (.Name x p) (e :: es) [] pos) (fCall sp ft) := by
  refine ⟨fCall_mono F.mo ha.m, ?_⟩
  obtain ⟨f, fd, hm, D, hb, ok⟩ := F.ex
  exact PE.imp (pe_callS ok (hr.mono hk) hg hm D.kp hb (fun σ => passAt tk σ) ha.p hdb he hpl) fun σ H Q q => lE_call ha.m F.mo q
theorem e_call0 (F : Fn X.prog X.w X.K X.mg X.base T x st ps j sp) (hk : j ≤ k) (hr : Room k X.A) (tk : Takes X W) (hg : Gl X x) (hdb : (x == ("__debug__" : Str)) = false := by decide) : SE X T W (.Call (.Name x p) [] [] pos) (fCall sp fNil) := by
  refine ⟨fCall_mono F.mo fNil_mono, ?_⟩
  obtain ⟨f, fd, hm, D, hb, ok⟩ := F.ex
  refine ⟨fun pins s σ H Q I h => ?_⟩
  refine wpAny_Call_Name_kw (ld_glob I hg hm ?_ hdb)
  obtain ⟨ρ, env, hh, m, hf⟩ := h
  exact PySem.W.callWith_K0 I.kIn D.kp (run_fnS (us := []) ok (hr.mono hk) hb (E := WE W) (passAt tk σ) I .nil ⟨ρ, hh, [], m.ok, m.tabs, .nil, hf⟩)
/-- keywords: as a list of expressions -/
structure SK (X : Cx) (T : List NTab) (W : WX) (kws : List Keyword) (f : FA) : Prop where
  m : MonA f
  p : PK X kws (lA (gd X T) W f)
theorem k_nil : SK X T W [] fNil := ⟨fNil_mono, ⟨fun pos pins s σ H Q I h => pk_nil.run pos pins s σ H Q I (by
  obtain ⟨ρ, env, h, m, hf⟩ := h
  exact hf ρ [] H (Stp.refl m.ok) .nil)⟩⟩
theorem k_cons {kws : List Keyword} {nm : Option Str} {kpos : Pos} {fa : FE} (ha : SE X T W e fa) (ht : SK X T W kws ft) : SK X T W (⟨nm, e, kpos⟩ :: kws) (fCons fa ft) :=
  ⟨fCons_mono ha.m ht.m, ⟨fun pos pins s σ H Q I q => (pk_cons ha.p ht.p).run pos pins s σ H Q I (by
    obtain ⟨ρ, env, h, m, hf⟩ := q
    refine ⟨ρ, env, h, m, ha.m.mo (fun d h1 q1 => ?_) (fun _ _ _ z => z) hf⟩
    intro ρ1 v H1 s1 r1
    refine ⟨ρ1, env, h1, m.step s1, ht.m.mo (fun ds h2 q2 => ?_) (fun _ _ _ z => z.step s1) q1⟩
    intro ρ2 vs H2 s2 r2
    exact q2 ρ2 _ H2 (s1.trans s2) (.cons (s2.rp s1.ok r1) r2))⟩⟩
/-- f(k = v, ..) -/
theorem e_callK0 {kws : List Keyword} {ks : List Str} (F : Fn X.prog X.w X.K X.mg X.base T x st ps j sp) (hk : j ≤ k) (hr : Room k X.A) (tk : Takes X W) (hg : Gl X x) (ha : SK X T W kws ft)
    (hb : ∀ (kV doc pm : Value) (an : Option Addr) (cdv ct : Value) (ws : List Value), ws.length = ps.length → bindArgs (PySem.W.fnOf x x (defArgs st) (defBody st) (defScope st) .none kV doc pm an cdv ct) ⟨[], ks.zip ws⟩ = pure (ps.zip ws))
    (hall : (backToKw pos (keywordEach kws X.env)).all (·.1.isSome) = true := by rfl) (hks : (backToKw pos (keywordEach kws X.env)).filterMap (·.1) = ks := by rfl)
    (hdb : (x == ("__debug__" : Str)) = false := by decide) (hpl : ((backTo pos (starEach [] X.env)).any (·.1) || (backToKw pos (keywordEach kws X.env)).any (·.1.isNone)) = false := by rfl) :
    SE X T W (.Call (.Name x p) [] kws pos) (fCall sp ft) := by
  refine ⟨fCall_mono F.mo ha.m, ?_⟩
  obtain ⟨f, fd, hm, D, _, ok⟩ := F.ex
  refine ⟨fun pins s σ H Q I h => ?_⟩
  refine wpAny_Call_Name_kw (ld_glob I hg hm ?_ hdb)
  obtain ⟨oc, od, dV, kV, doc, pm, an, cdv, ct, osl, rfl, lk, hcd, hD, hK⟩ := D.ex
  rcases hD with ⟨_, rfl⟩ | ⟨z, _⟩
  · obtain ⟨ρ, env, hh, m, hf⟩ := h
    refine PySem.W.callWith_KW0 (h₀ := X.base) I.ok.mod.kin D.kp hall (thn (ha.p.run pos pins s σ H (fun zs H1 => spOf (gd X T) sp zs H1 Q (WE W σ)) I ⟨ρ, env, hh, m, ha.m.mo (fun ds h1 q1 => ?_) (fun _ _ _ z => z) hf⟩) fun ws s1 ⟨zs, H1, I1, rz, q1⟩ => ⟨I1.kIn, ?_⟩) hpl
    · intro ρ1 vs H1 s1 r1
      exact ⟨ρ1, h1, ds, s1.ok, s1.tb m.tabs, r1, F.mo.mo (fun _ _ z => z.step s1) (fun _ _ _ z => QX.step (σ := σ) (W := W) s1 z) q1⟩
    · rw [hks]
      have hl : ws.length = ps.length := by rw [← rz.length]; exact ok.len _ _ _ _ q1
      refine wpAny_call (codeAny_mono (ok.run X.A X.stack s1 H1 ⟨[], ks.zip ws⟩ ws zs Q (WE W σ) (hr.mono hk) I1.env0 (.of_eq (hb kV doc pm an cdv ct ws hl)) rz q1) fun r s' hq => ?_)
      cases r with
      | error e => exact passAt tk σ pins H1 s1 e s' I1 hq
      | ok fl =>
        cases fl with
        | ret u => exact I1.after hq
        | next => exact False.elim hq
        | brk => exact False.elim hq
        | cont => exact False.elim hq
  · exact absurd rfl z
end
end Ev

set_option Elab.async false
set_option linter.all false
set_option maxRecDepth 100000
/-! Ev4d: x[::-1] of lists and tuples; order of tuples of ints. -/
namespace HT
open PySem PySem.Spec PyProof.Rows
section
variable {prog : Program} {w : World} {A : Around} {E : Value → Shared → Prop} {s : Shared}
theorem sliceApplied_rev {sl : Addr} {vl vu vs : Value} {n : Nat} {Q : Int × Int × Nat → Shared → Prop} (hs : s.heap.IsSliceOf sl vl vu vs) (pl : IsPart vl none) (pu : IsPart vu none) (ps : IsPart vs (some (-1)))
    (h : Q ((n : Int) - 1, -1, n) s) : wpAny (model prog w) A (Builtin.Slice.sliceApplied (.ref sl) (pure (n : Int))) Q E s := by
  obtain ⟨os, hos, hcs, hds⟩ := id hs
  unfold Builtin.Slice.sliceApplied Builtin.Slice.sliceFields
  refine wpAny_bind (wpAny_bind (wpAny_field hos hds (x := vl) rfl (wpAny_bind (wpAny_field hos hds (x := vu) rfl (wpAny_bind (wpAny_field hos hds (x := vs) rfl (wpAny_pure ?_)))))))
  refine wpAny_bind (slicePart_ ps ?_)
  show wpAny _ _ (if ((-1 : Int) == 0) = true then _ else _) _ _ s
  rw [if_neg (by decide)]
  refine wpAny_bind (slicePart_ pl (wpAny_bind (slicePart_ pu (wpAny_bind (wpAny_pure ?_)))))
  show wpAny _ _ (match Builtin.Slice.sliceAdjust none none (-1) (n : Int) with | (lo, hi) => pure (lo, (-1 : Int), Builtin.Slice.slicePlaces lo hi (-1))) _ _ s
  have e1 : Builtin.Slice.sliceAdjust none none (-1) (n : Int) = ((n : Int) - 1, -1) := by
    unfold Builtin.Slice.sliceAdjust
    simp
  rw [e1]
  show wpAny _ _ (pure ((n : Int) - 1, (-1 : Int), Builtin.Slice.slicePlaces ((n : Int) - 1) (-1) (-1))) _ _ s
  have e2 : Builtin.Slice.slicePlaces ((n : Int) - 1) (-1) (-1) = n := by
    unfold Builtin.Slice.slicePlaces
    have h1 : ¬ ((-1 : Int) > 0) := by decide
    simp only [h1, if_false, Int.neg_neg, Int.ediv_one]
    split <;> omega
  rw [e2]
  exact wpAny_pure h
theorem fm_congr {α β : Type} {f g : α → Option β} : ∀ {l : List α}, (∀ a ∈ l, f a = g a) → l.filterMap f = l.filterMap g
  | [], _ => rfl
  | a :: l, h => by
    rw [List.filterMap_cons, List.filterMap_cons, h a (List.mem_cons_self ..), fm_congr fun b hb => h b (List.mem_cons_of_mem _ hb)]
theorem pick_revL (l : List Value) : ((List.range l.length).filterMap fun (m : Nat) => l[((l.length : Int) - 1 + (m : Int) * (-1)).toNat]?) = l.reverse := by
  have e : ((List.range l.length).filterMap fun (m : Nat) => l[((l.length : Int) - 1 + (m : Int) * (-1)).toNat]?) = (List.range l.length).filterMap (some ∘ fun m => l.getD (l.length - 1 - m) .none) := by
    apply fm_congr
    intro m hm
    have := List.mem_range.mp hm
    have q : ((l.length : Int) - 1 + (m : Int) * (-1)).toNat = l.length - 1 - m := by omega
    simp only [Function.comp]
    rw [q, List.getD_eq_getElem?_getD, List.getElem?_eq_getElem (by omega)]
    rfl
  rw [e, List.filterMap_eq_map]
  apply List.ext_getElem
  · simp
  · intro i h1 h2
    have h1 : i < l.length := by simpa using h1
    simp only [List.getElem_map, List.getElem_range, List.getElem_reverse]
    rw [List.getD_eq_getElem?_getD, List.getElem?_eq_getElem (by omega)]
    rfl
theorem pick_rev (xs : Array Value) : ((List.range xs.size).filterMap fun (m : Nat) => xs[((xs.size : Int) - 1 + (m : Int) * (-1)).toNat]?).toArray = xs.toList.reverse.toArray := by
  have := pick_revL xs.toList
  congr 1
  simpa using this
theorem getItem_tuple_rev {t sl : Addr} {items : Array Value} {vl vu vs : Value} {Q : Value → Shared → Prop} (ht : IsTup s.heap t items) (hs : s.heap.IsSliceOf sl vl vu vs) (pl : IsPart vl none) (pu : IsPart vu none) (ps : IsPart vs (some (-1)))
    (h : Q (.ref s.heap.objs.size) { s with heap := s.heap.push { cls := .type "tuple", data := .seq items.toList.reverse.toArray } })
    (hsz : items.size ≤ sizeLine) : wpAny (model prog w) A (getItem (.ref t) (.ref sl)) Q E s := by
  have htake : sizeOk (.seq items.toList.reverse.toArray) := by
    show items.toList.reverse.toArray.size ≤ sizeLine
    simpa using hsz
  obtain ⟨os, hos, hcs, hds⟩ := id hs
  have hTs : s.TypeIs (.ref sl) "slice" := ⟨os, hos, hcs⟩
  unfold getItem
  try with_reducible refine wpAny_holding ?_
  first | refine wpAny_bind (wpAny_pure ?_) | skip
  refine wpAny_bind (wpAny_sequenceKey ht.typeIs (by decide) ?_)
  refine wpAny_bind (wpAny_callSpecial?_slot (name := Str.ofString "__getitem__") ht.typeIs PyProof.Rows.slot_tuple_getitem
    (wpAny_call_entry PyProof.Rows.slot_tuple_getitem ht.typeIs entry_tuple_getitem ?_ (args_tuple_getitem _ _)))
  show wpAny _ _ (Builtin.Tuple.tupleItemsOf (.ref t) >>= _) _ _ s
  refine wpAny_bind (tupleItemsOf_ ht ?_)
  refine wpAny_bind (wpAny_typeOf hTs ?_)
  rw [if_pos (by decide)]
  refine wpAny_bind (sliceApplied_rev hs pl pu ps ?_)
  have hno : ¬ (((((items.size : Nat) : Int) - 1) == 0 && (-1 : Int) == 1 && items.size == items.size) = true) := by
    rw [Bool.and_eq_true, Bool.and_eq_true]
    intro q
    exact absurd q.1.2 (by decide)
  show wpAny _ _ (if ((((items.size : Nat) : Int) - 1) == 0 && (-1 : Int) == 1 && items.size == items.size) = true then _ else _) _ _ s
  rw [if_neg hno, pick_rev]
  first
    | exact wpAny_bind (m := Builtin.Tuple.tupleExact _) (wpAny_newObj_type (wpAny_pure ⟨_, rfl, wpAny_pure h⟩) htake)
    | exact wpAny_bind (m := Builtin.Tuple.tupleExact _) (wpAny_newObj_type (wpAny_bind (wpAny_pure (wpAny_pure ⟨_, rfl, wpAny_pure h⟩))) htake)
    | exact wpAny_bind (wpAny_bind (m := Builtin.Tuple.tupleExact _) (wpAny_newObj_type (wpAny_pure (wpAny_pure ⟨_, rfl, wpAny_pure h⟩)) htake))
    | exact wpAny_bind (wpAny_bind (m := Builtin.Tuple.tupleExact _) (wpAny_newObj_type (wpAny_pure ⟨_, rfl, wpAny_pure h⟩) htake))
end
end HT

namespace Ev
open PySem PySem.Spec PyProof.Rows L2 NdefX
def fRev (fx : FE) : FE := fun env h Q E => fx env h (fun x h1 => match x with
  | .tup ds => Q (.tup ds.reverse) h1
  | .ref k => match lstAt h1 k with
    | some ds => Q (.ref h1.length) (h1 ++ [.lst ds.reverse])
    | none => False
  | _ => False) E
theorem fRev_mono {fx : FE} (mx : MonE fx) : MonE (fRev fx) := ⟨fun kQ kE q => mx.mo (fun x h1 q1 => by
  cases x with
  | tup ds => exact kQ _ _ q1
  | ref k =>
    revert q1
    show (match lstAt h1 k with | some ds => _ | none => False) → (match lstAt h1 k with | some ds => _ | none => False)
    cases lstAt h1 k with
    | none => exact id
    | some ds => exact kQ _ _
  | _ => exact q1) kE q⟩
section
variable {X : Cx} {T : List NTab} {W : WX} {a : Expr} {fa : FE}
theorem e_rev {k : Nat} {p1 p2 p3 pos : Pos} (ha : SE X T W a fa) : SE X T W (.Subscript a (.Slice none none (some (.UnaryOp .USub (.Constant (.int 1) k p1) p2)) p3) pos) (fRev fa) := by
  refine ⟨fRev_mono ha.m, ⟨fun pins s σ H Q I hh => ?_⟩⟩
  obtain ⟨ρ, env, h, m, hf⟩ := hh
  refine Subscript_ (thn (ha.p.run pins s σ H (fun v H1 => ∃ ρ1 x h1, VOk (gd X T) H1 ρ1 h1 ∧ Rp (gd X T) H1 ρ1 h1.length x v ∧ (match x with
    | .tup ds => QV (gd X T) ρ1 h1 H1 Q (.tup ds.reverse) h1
    | .ref k => match lstAt h1 k with
      | some ds => QV (gd X T) ρ1 h1 H1 Q (.ref h1.length) (h1 ++ [.lst ds.reverse])
      | none => False
    | _ => False)) I ⟨ρ, env, h, m, ha.m.mo (fun x h1 q1 => ?_) (fun _ _ _ z => z) hf⟩) fun v s1 ⟨x, H1, I1, r1, ρ1, d, h1, ok, rd, q1⟩ => ?_)
  · intro ρ1 v H1 s1 r1
    refine ⟨ρ1, x, h1, s1.ok, r1, ?_⟩
    cases x with
    | tup ds => exact QV.step s1 q1
    | ref k =>
      revert q1
      show (match lstAt h1 k with | some ds => _ | none => False) → (match lstAt h1 k with | some ds => _ | none => False)
      cases lstAt h1 k with
      | none => exact id
      | some ds => exact QV.step s1
    | _ => exact q1
  have hst : PO X (some (.UnaryOp .USub (.Constant (.int 1) k p1) p2)) (tPart (tUn (rU fun i => .int (-i)) (tC (.int 1)))) := po_some (pe_un un_neg pe_int)
  refine wpAny_Slice (thn (po_none.run pins s1 σ H1 (fun o H2 => o = none ∧ H2 = H1) I1 ⟨rfl, rfl⟩) fun vl s2 ⟨l, H2, I2, pl, el, e2⟩ => ?_)
  subst el e2
  refine thn (po_none.run pins s2 σ H2 (fun o H3 => o = none ∧ H3 = H2) I2 ⟨rfl, rfl⟩) fun vu s3 ⟨u, H3, I3, pu, eu, e3⟩ => ?_
  subst eu e3
  refine thn (hst.run pins s3 σ H3 (fun o H4 => o = some (-1) ∧ H4 = H3) I3 ⟨1, rfl, -1, rfl, rfl, rfl⟩) fun vs s4 ⟨o, H4, I4, ps, eo, e4⟩ => ?_
  subst eo e4
  have I5 : Inv X pins σ H4 { s4 with heap := s4.heap.push { cls := .type "slice", data := .fields #[vl, vu, vs] } } := I4.kept (t' := s4.toks) fun b ob q => Heap.get?_push_of_some _ q
  cases rd with
  | @tup a xs ds hx t =>
    cases r1
    obtain ⟨its, r, ht, hz⟩ := I5.tuple hx
    have hlen := r.length
    show wpAny (model X.prog X.w) X.A (subscriptTail _ (.Slice none none (some (.UnaryOp .USub (.Constant (.int 1) k p1) p2)) p3) (.ref a) (.ref s4.heap.objs.size)) (EP X pins σ Q) X.xe { s4 with heap := s4.heap.push { cls := .type "slice", data := .fields #[vl, vu, vs] } }
    refine tail_any (ops := [.ref a, .ref s4.heap.objs.size]) ht.typeIs PyProof.Rows.slot_tuple_getitem.lookup ?_ (by with_unfolding_all rfl)
    refine HT.getItem_tuple_rev ht (Heap.IsSliceOf.new _ vl vu vs) pl pu ps ?_ (by rw [List.size_toArray]; omega)
    refine ⟨.ref _, _, I5.laid (t' := s4.toks) (o := .tup xs.reverse) (fun b ob q => Heap.get?_push_of_some _ q) (Nat.le_refl _) ?_, rfl, fin_tup ok t.reverse q1 _ (I5.hok.fresh (Nat.le_refl _))⟩
    exact ⟨by rw [List.length_reverse]; exact hz, _, r.reverse, ⟨_, Heap.get?_push_size _ rfl, rfl, 0, rfl⟩⟩
  | @ref n hk =>
    cases r1
    cases e : lstAt h1 n with
    | none => simp only [e] at q1
    | some ds =>
      simp only [e] at q1
      obtain ⟨xs, e1, t, _⟩ := ok.lst e
      obtain ⟨its, r, ht, hz⟩ := I5.list (SqL.of e1)
      have hlen := r.length
      show wpAny (model X.prog X.w) X.A (subscriptTail _ (.Slice none none (some (.UnaryOp .USub (.Constant (.int 1) k p1) p2)) p3) (.ref (ρ1 n)) (.ref s4.heap.objs.size)) (EP X pins σ Q) X.xe { s4 with heap := s4.heap.push { cls := .type "slice", data := .fields #[vl, vu, vs] } }
      refine tail_any (ops := [.ref (ρ1 n), .ref s4.heap.objs.size]) ht.isList.typeIs (PySem.slot_list_getitem.lookup) ?_ (by with_unfolding_all rfl)
      refine wpAny_getItem_list_slice ht.isList (Heap.IsSliceOf.new _ vl vu vs) pl pu ps (by decide) ?_ (by rw [List.size_toArray]; omega)
      rw [PySem.W.krv_pick]
      refine ⟨.ref _, _, I5.laid (t' := s4.toks) (o := .lst xs.reverse) (fun b ob q => Heap.get?_push_of_some _ q) (Nat.le_refl _) ?_, rfl, fin_new ok t.reverse q1 _ (I5.hok.fresh (Nat.le_refl _))⟩
      exact ⟨by rw [List.length_reverse]; exact hz, _, 0, r.reverse, Heap.get?_push_size _ rfl⟩
  | _ => exact q1.elim
end
end Ev

set_option Elab.async false
set_option linter.all false
set_option maxRecDepth 100000
/-! Ev4e: targets, iterators, comprehensions. -/
namespace Ev
open PySem PySem.Spec PyProof.Rows L2 NdefX RZ RT

mutual
inductive Tg where
  | nm (i : Nat)
  | tp (ts : TgL)
inductive TgL where
  | nil
  | cons (t : Tg) (ts : TgL)
end
mutual
def Tg.slots : Tg → List Nat
  | .nm i => [i]
  | .tp ts => ts.slots
def TgL.slots : TgL → List Nat
  | .nil => []
  | .cons t ts => t.slots ++ ts.slots
end
def TgL.len : TgL → Nat
  | .nil => 0
  | .cons _ ts => ts.len + 1
mutual
def asgT : Tg → D → VH → Env → Option Env
  | .nm i, d, _, env => some (env.set i (some d))
  | .tp ts, d, h, env => match d with
    | .tup ds => asgL ts ds h env
    | .ref k => match lstAt h k with
      | some ds => asgL ts ds h env
      | none => none
    | _ => none
def asgL : TgL → List D → VH → Env → Option Env
  | .nil, ds, _, env => match ds with
    | [] => some env
    | _ => none
  | .cons t ts, ds, h, env => match ds with
    | [] => none
    | d :: ds => match asgT t d h env with
      | some e => asgL ts ds h e
      | none => none
end
theorem asgL_len : ∀ {ts : TgL} {ds : List D} {h : VH} {env env' : Env}, asgL ts ds h env = some env' → ds.length = ts.len
  | .nil, ds, h, env, env', e => by
    cases ds with
    | nil => rfl
    | cons d ds => simp [asgL] at e
  | .cons t ts, [], h, env, env', e => by simp [asgL] at e
  | .cons t ts, d :: ds, h, env, env', e => by
    simp only [asgL] at e
    cases q : asgT t d h env with
    | none => rw [q] at e; cases e
    | some e1 =>
      rw [q] at e
      simp only [TgL.len, List.length_cons, asgL_len e]
def WipeOk (sl : List Nat) (σ σ' : L2.St) : Prop := ∀ vs : List Nat, (∀ i ∈ sl, i ∈ vs) → wipe σ' vs = wipe σ vs
def lG (G : Gd) (t : Tg) : TG := fun v σ H Q => ∃ ρ env h d env', M G ρ env h σ H ∧ Rp G H ρ h.length d v ∧ asgT t d h env = some env' ∧ ∀ σ', M G ρ env' h σ' H → WipeOk t.slots σ σ' → Q σ' H
def lGs (G : Gd) (ts : TgL) : TGs := fun vs σ H Q => ∃ ρ env h ds env', M G ρ env h σ H ∧ RpA G H ρ h.length ds vs ∧ asgL ts ds h env = some env' ∧ ∀ σ', M G ρ env' h σ' H → WipeOk ts.slots σ σ' → Q σ' H
structure SG (X : Cx) (T : List NTab) (tg : Expr) (t : Tg) : Prop where
  p : PG X tg (lG (gd X T) t)
structure SGs (X : Cx) (T : List NTab) (tg : List Expr) (t : TgL) : Prop where
  p : PGs X tg (lGs (gd X T) t)
theorem PG.imp {X : Cx} {e : Expr} {t t' : TG} (h : PG X e t) (k : ∀ v σ H Q, t' v σ H Q → t v σ H Q) : PG X e t' := ⟨fun pins s σ H v u Q I r q => h.run pins s σ H v u Q I r (k v σ H Q q)⟩
theorem PG.or {X : Cx} {e : Expr} {t t' : TG} (h : PG X e t) (h' : PG X e t') : PG X e (fun v σ H Q => t v σ H Q ∨ t' v σ H Q) := ⟨fun pins s σ H v u Q I r q => by
  rcases q with q | q
  · exact h.run pins s σ H v u Q I r q
  · exact h'.run pins s σ H v u Q I r q⟩
theorem PGs.imp {X : Cx} {e : List Expr} {t t' : TGs} (h : PGs X e t) (k : ∀ v σ H Q, t' v σ H Q → t v σ H Q) : PGs X e t' := ⟨fun pins s σ H v u Q I r q => h.run pins s σ H v u Q I r (k v σ H Q q)⟩
theorem set_wipe {σ : L2.St} {i : Nat} {v : Option V} : ∀ {vs : List Nat}, i ∈ vs → wipe (σ.set i v) vs = wipe σ vs
  | [], h => by simp at h
  | w :: vs, h => by
    show (wipe (σ.set i v) vs).set w none = (wipe σ vs).set w none
    by_cases hi : i ∈ vs
    · rw [set_wipe hi]
    · have e : i = w := by
        rcases List.mem_cons.mp h with h | h
        · exact h
        · exact absurd h hi
      subst e
      have comm : ∀ vs : List Nat, i ∉ vs → wipe (σ.set i v) vs = (wipe σ vs).set i v := by
        intro vs
        induction vs with
        | nil => intro _; rfl
        | cons w vs ih =>
          intro hn
          have h1 : i ≠ w := fun z => hn (z ▸ List.mem_cons_self ..)
          have h2 : i ∉ vs := fun z => hn (List.mem_cons_of_mem _ z)
          show (wipe (σ.set i v) vs).set w none = ((wipe σ vs).set w none).set i v
          rw [ih h2, List.set_comm _ _ h1]
      rw [comm vs hi, List.set_set]
theorem WipeOk.set {i : Nat} {σ : L2.St} {v : Option V} : WipeOk [i] σ (σ.set i v) := fun vs h => set_wipe (h i (by simp))
theorem WipeOk.trans {a b : List Nat} {σ σ1 σ2 : L2.St} (h1 : WipeOk a σ σ1) (h2 : WipeOk b σ1 σ2) : WipeOk (a ++ b) σ σ2 := fun vs h => (h2 vs fun i hi => h i (by simp [hi])).trans (h1 vs fun i hi => h i (by simp [hi]))
section
variable {X : Cx} {T : List NTab} {W : WX} {e a b : Expr} {es : List Expr} {fa fb fe : FE} {ft : FA} {pos p : Pos} {x : Str} {t : Tg} {ts : TgL}
theorem g_nm {i : Nat} (hN : X.N.Nodup) (hi : X.N[i]? = some x) (hx : Loc X.env.scope x) (hf : X.fn x = true ∨ X.env.scope.names.lookup x = some .local := by first | exact .inl rfl | exact .inr rfl | assumption) : SG X T (.Name x p) (.nm i) :=
  ⟨PG.imp (pg_name hN hi hx hf) fun v σ H Q q => by
    obtain ⟨ρ, env, h, d, env', m, r, ea, k⟩ := q
    cases ea
    exact k _ (m.set i r) WipeOk.set⟩
theorem gs_nil : SGs X T [] .nil := ⟨PGs.imp pgs_nil fun vs σ H Q q => by
  obtain ⟨ρ, env, h, ds, env', m, r, ea, k⟩ := q
  cases ds with
  | nil =>
    cases r
    cases ea
    exact ⟨rfl, k σ m fun _ _ => rfl⟩
  | cons d ds => simp [asgL] at ea⟩
theorem gs_cons (h1 : SG X T e t) (h2 : SGs X T es ts) (hs : (assignEach (e :: es) X.env).map (·.2) = assign e X.env :: (assignEach es X.env).map (·.2) := by rfl) : SGs X T (e :: es) (.cons t ts) :=
  ⟨PGs.imp (pgs_cons h1.p h2.p hs) fun vs σ H Q q => by
    obtain ⟨ρ, env, h, ds, env', m, r, ea, k⟩ := q
    cases ds with
    | nil => simp [asgL] at ea
    | cons d ds =>
      simp only [asgL] at ea
      cases q : asgT t d h env with
      | none => rw [q] at ea; cases ea
      | some e1 =>
        rw [q] at ea
        cases r with
        | cons r1 r2 =>
          refine ⟨_, _, rfl, ρ, env, h, d, e1, m, r1, q, fun σ1 m1 w1 => ?_⟩
          exact ⟨ρ, e1, h, ds, env', m1, r2, ea, fun σ2 m2 w2 => k σ2 m2 (w1.trans w2)⟩⟩
theorem g_tp {k : Nat} (hc : X.calm = true) (h : SGs X T es ts) (hn : (assignEach es X.env).length = ts.len := by rfl) (hst : (assignEach es X.env).findIdx? (·.1) = none := by rfl) : SG X T (.Tuple es k p) (.tp ts) :=
  ⟨PG.imp (PG.or (pg_tup hc h.p hn hst) (pg_lst hc h.p hn hst)) fun v σ H Q q => by
    obtain ⟨ρ, env, h, d, env', m, r, ea, k⟩ := q
    cases r with
    | @tup a xs ds hq t1 =>
      have hl := asgL_len (ts := ts) (ds := ds) (env := env) (env' := env') (h := h) ea
      exact .inl ⟨a, xs, rfl, hq, by rw [← t1.length]; exact hl, ρ, env, h, ds, env', m, t1, ea, k⟩
    | @ref n hk =>
      simp only [asgT] at ea
      cases q : lstAt h n with
      | none => rw [q] at ea; cases ea
      | some ds =>
        rw [q] at ea
        obtain ⟨xs, e1, t1, _⟩ := m.ok.lst q
        have hl := asgL_len ea
        exact .inr ⟨ρ n, xs, rfl, .of e1, by rw [← t1.length]; exact hl, ρ, env, h, ds, env', m, t1, ea, k⟩
    | _ => simp [asgT] at ea⟩

/-! ### iterators -/
abbrev ItF := Nat → VH → Option (Option D)
structure ItR (G : Gd) (ρ : Nat → Addr) (h : VH) (H : Hp) (J : It) (f : ItF) : Prop where
  stop : ∀ i ρ' h' H', Stp G ρ h H ρ' h' H' → f i h' = some none → J.stop i H'
  go : ∀ i ρ' h' H' d, Stp G ρ h H ρ' h' H' → f i h' = some (some d) → J.go i H'
  yld : ∀ i ρ' h' H' d x H'', Stp G ρ h H ρ' h' H' → f i h' = some (some d) → J.yld i H' x H'' → ∃ ρ'', Stp G ρ' h' H' ρ'' h' H'' ∧ Rp G H'' ρ'' h'.length d x
theorem ItR.step {G : Gd} {ρ ρ1 : Nat → Addr} {h h1 : VH} {H H1 : Hp} {J : It} {f : ItF} (r : ItR G ρ h H J f) (s : Stp G ρ h H ρ1 h1 H1) : ItR G ρ1 h1 H1 J f :=
  ⟨fun i ρ' h' H' s' => r.stop i ρ' h' H' (s.trans s'), fun i ρ' h' H' d s' => r.go i ρ' h' H' d (s.trans s'), fun i ρ' h' H' d x H'' s' => r.yld i ρ' h' H' d x H'' (s.trans s')⟩
abbrev FI := Env → VH → (ItF → VH → Prop) → PX → Prop
structure MonI (f : FI) : Prop where
  mo : ∀ {env : Env} {h : VH} {Q Q' : ItF → VH → Prop} {E E' : PX}, (∀ d h, Q d h → Q' d h) → (∀ c d h, E c d h → E' c d h) → f env h Q E → f env h Q' E'
def QI (G : Gd) (ρ : Nat → Addr) (h : VH) (H : Hp) (R : It → Hp → Prop) : ItF → VH → Prop := fun f h1 => ∀ ρ1 J H1, Stp G ρ h H ρ1 h1 H1 → ItR G ρ1 h1 H1 J f → R J H1
def lI (G : Gd) (W : WX) (f : FI) : TI := fun σ H R => ∃ ρ env h, M G ρ env h σ H ∧ f env h (QI G ρ h H R) (QX G ρ h H W σ)
structure SI (X : Cx) (T : List NTab) (W : WX) (tg it : Expr) (f : FI) : Prop where
  m : MonI f
  p : PI X tg it (lI (gd X T) W f)
theorem PI.imp {X : Cx} {tg e : Expr} {t t' : TI} (h : PI X tg e t) (k : ∀ σ H R, t' σ H R → t σ H R) : PI X tg e t' := ⟨fun pins s σ H R I q => h.run pins s σ H R I (k σ H R q)⟩
def itTup (ds : List D) : ItF := fun i _ => some ds[i]?
def itLst (k : Nat) : ItF := fun i h => (lstAt h k).map (·[i]?)
def itStr (s : Str) : ItF := fun i _ => some (s.cps[i]?.map fun c => .str ⟨#[c]⟩)
def itRng (lo : Int) (n : Nat) (c : Int) : ItF := fun i _ => if i < n then some (some (.int (lo + (i : Nat) * c))) else some none
def itZip (f g : ItF) : ItF := fun i h => match f i h, g i h with
  | some none, some _ => some none
  | some _, some none => some none
  | some (some a), some (some b) => some (some (.tup [a, b]))
  | _, _ => none
def fSeq (fe : FE) : FI := fun env h R E => fe env h (fun x h1 => match x with
  | .tup ds => R (itTup ds) h1
  | .ref k => chk (lstAt h1 k).isSome (R (itLst k) h1)
  | .str s => R (itStr s) h1
  | _ => False) E
theorem fSeq_mono {fe : FE} (m : MonE fe) : MonI (fSeq fe) := ⟨fun kQ kE q => m.mo (fun x h1 q1 => by
  cases x with
  | tup ds => exact kQ _ _ q1
  | ref k => exact chk_mono (kQ _ _) q1
  | str s => exact kQ _ _ q1
  | _ => exact q1) kE q⟩
section
variable {G : Gd} {ρ : Nat → Addr} {h : VH} {H : Hp}
theorem lstAt_len {h : VH} {k : Nat} {ds : List D} (e : lstAt h k = some ds) : k < h.length := by
  unfold lstAt at e
  cases q : h[k]? with
  | none => rw [q] at e; cases e
  | some o => exact (List.getElem?_eq_some_iff.mp q).1
theorem itr_tup {a : Addr} {xs : List V} {ds : List D} (ok : VOk G H ρ h) (hq : SqT G.K H a xs) (t : RpA G H ρ h.length ds xs) : ItR G ρ h H (Itt G.K a) (itTup ds) where
  stop := fun i ρ' h' H' s e => ⟨xs, (s.kp ok).sqT hq, by
    have e : ds[i]? = none := Option.some.inj e
    rw [← t.length]; exact List.getElem?_eq_none_iff.mp e⟩
  go := fun i ρ' h' H' d s e => by
    obtain ⟨v, e1, r⟩ := t.get (Option.some.inj e)
    exact ⟨xs, v, (s.kp ok).sqT hq, e1⟩
  yld := fun i ρ' h' H' d x H'' s e hy => by
    obtain ⟨v, e1, r⟩ := t.get (Option.some.inj e)
    obtain ⟨rfl, hx⟩ := hy
    have e2 := hx xs ((s.kp ok).sqT hq)
    rw [e1] at e2
    cases e2
    exact ⟨ρ', Stp.refl s.ok, s.rp ok r⟩
theorem itr_lst {k : Nat} (ok : VOk G H ρ h) (hk : k < h.length) : ItR G ρ h H (Itl G.K (ρ k)) (itLst k) where
  stop := fun i ρ' h' H' s e => by
    unfold itLst at e
    cases q : lstAt h' k with
    | none => rw [q] at e; cases e
    | some ds =>
      rw [q] at e
      obtain ⟨xs, e1, t, _⟩ := s.ok.lst q
      rw [s.agr k hk] at e1
      refine ⟨xs, .of e1, ?_⟩
      have e : ds[i]? = none := Option.some.inj e
      rw [← t.length]; exact List.getElem?_eq_none_iff.mp e
  go := fun i ρ' h' H' d s e => by
    unfold itLst at e
    cases q : lstAt h' k with
    | none => rw [q] at e; cases e
    | some ds =>
      rw [q] at e
      obtain ⟨xs, e1, t, _⟩ := s.ok.lst q
      rw [s.agr k hk] at e1
      obtain ⟨v, e2, r⟩ := t.get (Option.some.inj e)
      exact ⟨xs, v, .of e1, e2⟩
  yld := fun i ρ' h' H' d x H'' s e hy => by
    unfold itLst at e
    cases q : lstAt h' k with
    | none => rw [q] at e; cases e
    | some ds =>
      rw [q] at e
      obtain ⟨xs, e1, t, _⟩ := s.ok.lst q
      rw [s.agr k hk] at e1
      obtain ⟨v, e2, r⟩ := t.get (Option.some.inj e)
      obtain ⟨rfl, hx⟩ := hy
      have e3 := hx xs (.of e1)
      rw [e2] at e3
      cases e3
      exact ⟨ρ', Stp.refl s.ok, r⟩
theorem itr_str {x : Str} : ItR G ρ h H (Its x) (itStr x) where
  stop := fun i ρ' h' H' s e => by
    have e : (x.cps[i]?.map fun c => D.str ⟨#[c]⟩) = none := Option.some.inj e
    rw [Option.map_eq_none_iff] at e
    show x.cps.size ≤ i
    simpa using e
  go := fun i ρ' h' H' d s e => by
    have e : (x.cps[i]?.map fun c => D.str ⟨#[c]⟩) = some d := Option.some.inj e
    rw [Option.map_eq_some_iff] at e
    obtain ⟨c, e, _⟩ := e
    exact (Array.getElem?_eq_some_iff.mp e).1
  yld := fun i ρ' h' H' d y H'' s e hy => by
    have e : (x.cps[i]?.map fun c => D.str ⟨#[c]⟩) = some d := Option.some.inj e
    rw [Option.map_eq_some_iff] at e
    obtain ⟨c, ec, rfl⟩ := e
    obtain ⟨rfl, c', e', rfl⟩ := hy
    rw [ec] at e'
    cases e'
    exact ⟨ρ', Stp.refl s.ok, .str _⟩
theorem itr_rng {lo c : Int} {n : Nat} : ItR G ρ h H (Itc lo c n) (itRng lo n c) where
  stop := fun i ρ' h' H' s e => by
    unfold itRng at e
    split at e
    · cases e
    · rename_i hn; exact Nat.not_lt.mp hn
  go := fun i ρ' h' H' d s e => by
    unfold itRng at e
    split at e
    · rename_i hn; exact hn
    · cases e
  yld := fun i ρ' h' H' d y H'' s e hy => by
    unfold itRng at e
    split at e
    · cases e
      obtain ⟨rfl, rfl⟩ := hy
      exact ⟨ρ', Stp.refl s.ok, .int _⟩
    · cases e
theorem itr_rng1 {lo : Int} {n : Nat} : ItR G ρ h H (Itr lo n) (itRng lo n 1) where
  stop := fun i ρ' h' H' s e => by
    unfold itRng at e
    split at e
    · cases e
    · rename_i hn; exact Nat.not_lt.mp hn
  go := fun i ρ' h' H' d s e => by
    unfold itRng at e
    split at e
    · rename_i hn; exact hn
    · cases e
  yld := fun i ρ' h' H' d y H'' s e hy => by
    unfold itRng at e
    split at e
    · cases e
      obtain ⟨rfl, rfl⟩ := hy
      rw [Int.mul_one]
      exact ⟨ρ', Stp.refl s.ok, .int _⟩
    · cases e
theorem itr_zipT {a b : Addr} {xs ys : List V} {ds es : List D} (ok : VOk G H ρ h) (hq : SqT G.K H a xs) (t : RpA G H ρ h.length ds xs) (hq2 : SqT G.K H b ys) (t2 : RpA G H ρ h.length es ys) : ItR G ρ h H (ItzT G.K a b) (itZip (itTup ds) (itTup es)) where
  stop := fun i ρ' h' H' s e => by
    refine ⟨xs, ys, (s.kp ok).sqT hq, (s.kp ok).sqT hq2, ?_⟩
    rw [← t.length, ← t2.length]
    unfold itZip itTup at e
    cases q1 : ds[i]? with
    | none => exact .inl (List.getElem?_eq_none_iff.mp q1)
    | some d =>
      cases q2 : es[i]? with
      | none => exact .inr (List.getElem?_eq_none_iff.mp q2)
      | some d => simp only [q1, q2] at e; cases e
  go := fun i ρ' h' H' d s e => by
    unfold itZip itTup at e
    cases q1 : ds[i]? with
    | none => cases q2 : es[i]? <;> simp only [q1, q2] at e <;> cases e
    | some d1 =>
      cases q2 : es[i]? with
      | none => simp only [q1, q2] at e; cases e
      | some d2 =>
        obtain ⟨v, e1, r⟩ := t.get q1
        obtain ⟨w, e2, r2⟩ := t2.get q2
        exact ⟨xs, ys, v, w, (s.kp ok).sqT hq, (s.kp ok).sqT hq2, e1, e2⟩
  yld := fun i ρ' h' H' d x H'' s e hy => by
    unfold itZip itTup at e
    cases q1 : ds[i]? with
    | none => cases q2 : es[i]? <;> simp only [q1, q2] at e <;> cases e
    | some d1 =>
      cases q2 : es[i]? with
      | none => simp only [q1, q2] at e; cases e
      | some d2 =>
        simp only [q1, q2] at e
        cases e
        obtain ⟨v, e1, r⟩ := t.get q1
        obtain ⟨w, e2, r2⟩ := t2.get q2
        obtain ⟨T, x1, y1, rfl, hT, rfl, hx, hy⟩ := hy
        have z1 := hx xs ((s.kp ok).sqT hq)
        have z2 := hy ys ((s.kp ok).sqT hq2)
        rw [e1] at z1
        rw [e2] at z2
        cases z1
        cases z2
        have s2 := Stp.new (o := .tup [v, w]) s.ok hT
        exact ⟨ρ', s2, .tup (.of upd_same) (.cons (s2.rp s.ok (s.rp ok r)) (.cons (s2.rp s.ok (s.rp ok r2)) .nil))⟩
theorem itr_zipL {k l : Nat} (ok : VOk G H ρ h) (hk : k < h.length) (hl : l < h.length) : ItR G ρ h H (Itz G.K (ρ k) (ρ l)) (itZip (itLst k) (itLst l)) where
  stop := fun i ρ' h' H' s e => by
    unfold itZip itLst at e
    cases q1 : lstAt h' k with
    | none => simp only [q1, Option.map_none] at e; cases e
    | some ds =>
      cases q2 : lstAt h' l with
      | none => simp only [q1, q2, Option.map_none, Option.map_some] at e; cases z : ds[i]? <;> simp only [z] at e <;> cases e
      | some es =>
        obtain ⟨xs, e1, t, _⟩ := s.ok.lst q1
        obtain ⟨ys, e2, t2, _⟩ := s.ok.lst q2
        rw [s.agr k hk] at e1
        rw [s.agr l hl] at e2
        refine ⟨xs, ys, .of e1, .of e2, ?_⟩
        rw [← t.length, ← t2.length]
        simp only [q1, q2, Option.map_some] at e
        cases z1 : ds[i]? with
        | none => exact .inl (List.getElem?_eq_none_iff.mp z1)
        | some d =>
          cases z2 : es[i]? with
          | none => exact .inr (List.getElem?_eq_none_iff.mp z2)
          | some d => simp only [z1, z2] at e; cases e
  go := fun i ρ' h' H' d s e => by
    unfold itZip itLst at e
    cases q1 : lstAt h' k with
    | none => simp only [q1, Option.map_none] at e; cases e
    | some ds =>
      cases q2 : lstAt h' l with
      | none => simp only [q1, q2, Option.map_none, Option.map_some] at e; cases z : ds[i]? <;> simp only [z] at e <;> cases e
      | some es =>
        obtain ⟨xs, e1, t, _⟩ := s.ok.lst q1
        obtain ⟨ys, e2, t2, _⟩ := s.ok.lst q2
        rw [s.agr k hk] at e1
        rw [s.agr l hl] at e2
        simp only [q1, q2, Option.map_some] at e
        cases z1 : ds[i]? with
        | none => cases z2 : es[i]? <;> simp only [z1, z2] at e <;> cases e
        | some d1 =>
          cases z2 : es[i]? with
          | none => simp only [z1, z2] at e; cases e
          | some d2 =>
            obtain ⟨v, w1, r⟩ := t.get z1
            obtain ⟨w, w2, r2⟩ := t2.get z2
            exact ⟨xs, ys, v, w, .of e1, .of e2, w1, w2⟩
  yld := fun i ρ' h' H' d x H'' s e hy => by
    unfold itZip itLst at e
    cases q1 : lstAt h' k with
    | none => simp only [q1, Option.map_none] at e; cases e
    | some ds =>
      cases q2 : lstAt h' l with
      | none => simp only [q1, q2, Option.map_none, Option.map_some] at e; cases z : ds[i]? <;> simp only [z] at e <;> cases e
      | some es =>
        obtain ⟨xs, e1, t, _⟩ := s.ok.lst q1
        obtain ⟨ys, e2, t2, _⟩ := s.ok.lst q2
        rw [s.agr k hk] at e1
        rw [s.agr l hl] at e2
        simp only [q1, q2, Option.map_some] at e
        cases z1 : ds[i]? with
        | none => cases z2 : es[i]? <;> simp only [z1, z2] at e <;> cases e
        | some d1 =>
          cases z2 : es[i]? with
          | none => simp only [z1, z2] at e; cases e
          | some d2 =>
            simp only [z1, z2] at e
            cases e
            obtain ⟨v, w1, r⟩ := t.get z1
            obtain ⟨w, w2, r2⟩ := t2.get z2
            obtain ⟨T, x1, y1, rfl, hT, rfl, hx, hy⟩ := hy
            have y1 := hx xs (.of e1)
            have y2 := hy ys (.of e2)
            rw [w1] at y1
            rw [w2] at y2
            cases y1
            cases y2
            have s2 := Stp.new (o := .tup [v, w]) s.ok hT
            exact ⟨ρ', s2, .tup (.of upd_same) (.cons (s2.rp s.ok r) (.cons (s2.rp s.ok r2) .nil))⟩
end
theorem i_seq {tg : Expr} (ha : SE X T W a fa) : SI X T W tg a (fSeq fa) := by
  refine ⟨fSeq_mono ha.m, ⟨fun pins s σ H R I hh => ?_⟩⟩
  obtain ⟨ρ, env, h, m, hf⟩ := hh
  refine thn (ha.p.run pins s σ H (fun v H1 => (∃ a xs, v = .ref a ∧ SqL X.K H1 a xs ∧ R (Itl X.K a) H1) ∨ (∃ a xs, v = .ref a ∧ SqT X.K H1 a xs ∧ R (Itt X.K a) H1) ∨ ∃ x, v = .str x ∧ R (Its x) H1) I ⟨ρ, env, h, m, ha.m.mo (fun x h1 q1 => ?_) (fun _ _ _ z => z) hf⟩) fun v s1 ⟨y, H1, I1, r1, q⟩ => ?_
  · intro ρ1 v H1 s1 r1
    cases r1 with
    | tup hq t => exact .inr (.inl ⟨_, _, rfl, hq, q1 ρ1 _ H1 s1 (itr_tup s1.ok hq t)⟩)
    | @ref k hk =>
      obtain ⟨q2, q3⟩ := chk_iff.mp q1
      obtain ⟨ds, e⟩ := Option.isSome_iff_exists.mp q2
      obtain ⟨xs, e1, _, _⟩ := s1.ok.lst e
      exact .inl ⟨_, xs, rfl, .of e1, q3 ρ1 _ H1 s1 (itr_lst s1.ok hk)⟩
    | str x => exact .inr (.inr ⟨x, rfl, q1 ρ1 _ H1 s1 itr_str⟩)
    | _ => exact q1.elim
  · rcases q with ⟨a, xs, e, hq, q⟩ | ⟨a, xs, e, hq, q⟩ | ⟨x, ex, q⟩
    · subst e
      cases r1
      obtain ⟨its, rv, p, hz⟩ := I1.list hq
      refine wpAny_pyIter_list p.isList ?_
      refine ⟨s1.heap.objs.size, [s1.heap.objs.size], _, _, H1, rfl, I1.kept (t' := s1.toks) fun b o e => Heap.get?_push_of_some _ e, turn_list a _, ⟨_, Heap.get?_push_size _ rfl, rfl, rfl⟩, fun b hb => ?_, q⟩
      have e : b = s1.heap.objs.size := by simpa using hb
      subst e
      exact I1.fpOk (Nat.le_refl _) (I1.hok.fresh (Nat.le_refl _))
    · subst e
      cases r1
      obtain ⟨its, rv, p, hz⟩ := I1.tuple hq
      refine wpAny_pyIter_tuple (show s1.heap.IsTuple a its.toArray from p) ?_
      refine ⟨s1.heap.objs.size, [s1.heap.objs.size], _, _, H1, rfl, I1.kept (t' := s1.toks) fun b o e => Heap.get?_push_of_some _ e, turn_tuple a _, ⟨_, Heap.get?_push_size _ rfl, rfl, rfl⟩, fun b hb => ?_, q⟩
      have e : b = s1.heap.objs.size := by simpa using hb
      subst e
      exact I1.fpOk (Nat.le_refl _) (I1.hok.fresh (Nat.le_refl _))
    · subst ex
      obtain ⟨t, rfl⟩ := r1
      cases ha : x.cps.all (· < 128)
      · exact wpAny_pyIter_wide ha (pi_one (tk := s1.toks) I1 _ (turn_str _ x t "str_iterator" (.inr rfl)) ⟨_, Heap.get?_push_size _ rfl, rfl, rfl⟩ q)
      · exact wpAny_pyIter_ascii ha (pi_one (tk := s1.toks) I1 _ (turn_str _ x t "str_ascii_iterator" (.inl rfl)) ⟨_, Heap.get?_push_size _ rfl, rfl, rfl⟩ q)
/-- iterators from argument values -/
def fIt (g : List D → VH → Option ItF) (ft : FA) : FI := fun env h R E => ft env h (fun ds h1 => match g ds h1 with
  | some f => R f h1
  | none => False) E
theorem fIt_mono {g : List D → VH → Option ItF} {ft : FA} (m : MonA ft) : MonI (fIt g ft) := ⟨fun kQ kE q => m.mo (fun ds h1 q1 => by
  revert q1
  show (match g ds h1 with | some f => _ | none => False) → (match g ds h1 with | some f => _ | none => False)
  cases g ds h1 with
  | none => exact id
  | some f => exact kQ _ _) kE q⟩
def big62 (i : Int) : Bool := decide (i.natAbs < 4611686018427387904)
theorem big62_ok {i : Int} (h : big62 i = true) : -(2 ^ 62) ≤ i ∧ i < 2 ^ 62 := by
  unfold big62 at h
  simp only [decide_eq_true_eq] at h
  omega
def gRange1 : List D → VH → Option ItF := fun ds _ => match ds with
  | [.int j] => if big62 j = true then some (itRng 0 j.toNat 1) else none
  | _ => none
def gRange2 : List D → VH → Option ItF := fun ds _ => match ds with
  | [.int i, .int j] => if big62 i = true ∧ big62 j = true then some (itRng i (j - i).toNat 1) else none
  | _ => none
def gZip : List D → VH → Option ItF := fun ds h => match ds with
  | [.tup xs, .tup ys] => some (itZip (itTup xs) (itTup ys))
  | [.ref k, .ref l] => if (lstAt h k).isSome = true ∧ (lstAt h l).isSome = true then some (itZip (itLst k) (itLst l)) else none
  | _ => none
theorem i_range1 {tg : Expr} (hg : Gl X "range") (hm : X.mg "range" = none) (ha : SA X T W [a] ft) (hs : starEach [a] X.env = (false, eval a X.env) :: starEach [] X.env := by rfl) : SI X T W tg (.Call (.Name "range" p) [a] [] pos) (fIt gRange1 ft) :=
  ⟨fIt_mono ha.m, PI.imp (pi_range1 hg hm ha.p hs) fun σ H R q => by
    obtain ⟨ρ, env, h, m, hf⟩ := q
    refine ⟨ρ, env, h, m, ha.m.mo (fun ds h1 q1 => ?_) (fun _ _ _ z => z) hf⟩
    intro ρ1 vs H1 s1 r1
    unfold gRange1 at q1
    split at q1
    · rename_i f e
      split at e
      · split at e
        · rename_i j hj
          cases e
          cases r1 with
          | cons r t =>
            cases t
            cases r
            have := big62_ok hj
            exact ⟨j, rfl, this.1, this.2, q1 ρ1 _ H1 s1 itr_rng1⟩
        · cases e
      · cases e
    · exact q1.elim⟩
theorem i_range2 {tg : Expr} (hg : Gl X "range") (hm : X.mg "range" = none) (ha : SA X T W [a, b] ft) (hs : starEach [a, b] X.env = [(false, eval a X.env), (false, eval b X.env)] := by rfl) (hs2 : starEach [b] X.env = [(false, eval b X.env)] := by rfl) : SI X T W tg (.Call (.Name "range" p) [a, b] [] pos) (fIt gRange2 ft) :=
  ⟨fIt_mono ha.m, PI.imp (pi_range2 hg hm ha.p hs hs2) fun σ H R q => by
    obtain ⟨ρ, env, h, m, hf⟩ := q
    refine ⟨ρ, env, h, m, ha.m.mo (fun ds h1 q1 => ?_) (fun _ _ _ z => z) hf⟩
    intro ρ1 vs H1 s1 r1
    unfold gRange2 at q1
    split at q1
    · rename_i f e
      split at e
      · split at e
        · rename_i i j hj
          cases e
          cases r1 with
          | cons r t =>
            cases t with
            | cons r2 t =>
              cases t
              cases r
              cases r2
              have h1 := big62_ok hj.1
              have h2 := big62_ok hj.2
              exact ⟨i, j, rfl, ⟨h1.1, h1.2, h2.1, h2.2⟩, q1 ρ1 _ H1 s1 itr_rng1⟩
        · cases e
      · cases e
    · exact q1.elim⟩
theorem i_zip {elts : List Expr} {kk : Nat} {tpos : Pos} (hg : Gl X "zip") (hm : X.mg "zip" = none) (ha : SA X T W [a, b] ft)
    (hs : starEach [a, b] X.env = (false, eval a X.env) :: starEach [b] X.env := by rfl) (hpl : (backTo pos (starEach [b] X.env)).any (·.1) = false := by rfl) : SI X T W (.Tuple elts kk tpos) (.Call (.Name "zip" p) [a, b] [] pos) (fIt gZip ft) :=
  ⟨fIt_mono ha.m, PI.imp (pi_zipA hg hm ha.p hs hpl) fun σ H R q => by
    obtain ⟨ρ, env, h, m, hf⟩ := q
    refine ⟨ρ, env, h, m, ha.m.mo (fun ds h1 q1 => ?_) (fun _ _ _ z => z) hf⟩
    intro ρ1 vs H1 s1 r1
    unfold gZip at q1
    split at q1
    · rename_i f e
      split at e
      · cases e
        cases r1 with
        | cons r t =>
          cases t with
          | cons r2 t =>
            cases t
            cases r with
            | tup hq t1 =>
              cases r2 with
              | tup hq2 t2 => exact ⟨_, _, _, _, rfl, .inr ⟨hq, hq2, q1 ρ1 _ H1 s1 (itr_zipT s1.ok hq t1 hq2 t2)⟩⟩
      · split at e
        · rename_i k l hkl
          cases e
          cases r1 with
          | cons r t =>
            cases t with
            | cons r2 t =>
              cases t
              cases r with
              | ref hk =>
                cases r2 with
                | ref hl =>
                  obtain ⟨ds, e1⟩ := Option.isSome_iff_exists.mp hkl.1
                  obtain ⟨es, e2⟩ := Option.isSome_iff_exists.mp hkl.2
                  obtain ⟨xs, w1, _, _⟩ := s1.ok.lst e1
                  obtain ⟨ys, w2, _, _⟩ := s1.ok.lst e2
                  exact ⟨_, _, xs, ys, rfl, .inl ⟨.of w1, .of w2, q1 ρ1 _ H1 s1 (itr_zipL s1.ok hk hl)⟩⟩
        · cases e
      · cases e
    · exact q1.elim⟩
end
end Ev

set_option Elab.async false
set_option linter.all false
set_option maxRecDepth 100000
/-! Ev4f: list comprehensions. -/
namespace Ev
open PySem PySem.Spec PyProof.Rows L2 NdefX

theorem wipe_in {σ : L2.St} {i : Nat} : ∀ {vs : List Nat}, i ∈ vs → (wipe σ vs)[i]? = if i < σ.length then some none else none
  | [], h => by simp at h
  | w :: vs, h => by
    show ((wipe σ vs).set w none)[i]? = _
    by_cases hw : w = i
    · subst hw
      by_cases hl : w < σ.length
      · rw [List.getElem?_set_self (by rw [wipe_length]; exact hl), if_pos hl]
      · rw [List.getElem?_eq_none (by rw [List.length_set, wipe_length]; omega), if_neg hl]
    · rw [List.getElem?_set_ne hw]
      have : i ∈ vs := by
        rcases List.mem_cons.mp h with h | h
        · exact absurd h.symm hw
        · exact h
      exact wipe_in this
theorem wipe_idem (σ : L2.St) (vs : List Nat) : wipe (wipe σ vs) vs = wipe σ vs := by
  apply List.ext_getElem?
  intro i
  by_cases h : i ∈ vs
  · rw [wipe_in h, wipe_in h, wipe_length]
  · rw [wipe_out h]
abbrev W0 : WX := fun _ _ _ _ => False
def compL (it : ItF) (tg : Tg) (fc : Option FE) (fe : FE) (env : Env) : Nat → Nat → List D → VH → PL → Prop
  | 0, _, _, _, _ => False
  | n + 1, i, acc, h, Q => match it i h with
    | none => False
    | some none => Q acc h
    | some (some d) => match asgT tg d h env with
      | none => False
      | some env2 => match fc with
        | none => fe env2 h (fun y h2 => chk (decide (acc.length < line)) (compL it tg fc fe env n (i + 1) (acc ++ [y]) h2 Q)) noX
        | some c => c env2 h (fun b h2 => match b with
          | .bl true => fe env2 h2 (fun y h3 => chk (decide (acc.length < line)) (compL it tg fc fe env n (i + 1) (acc ++ [y]) h3 Q)) noX
          | .bl false => compL it tg fc fe env n (i + 1) acc h2 Q
          | _ => False) noX
noncomputable def fComp (fi : FI) (tg : Tg) (vs : List Nat) (fc : Option FE) (fe : FE) : FA := fun env h Q E => fi env h (fun it h1 => compL it tg fc fe (wipeD env vs) fuel 0 [] h1 Q) E
theorem compL_mono {it : ItF} {tg : Tg} {fc : Option FE} {fe : FE} {env : Env} (mc : ∀ c, fc = some c → MonE c) (me : MonE fe) {Q Q' : PL} (k : ∀ d h, Q d h → Q' d h) : ∀ (n i : Nat) (acc : List D) (h : VH), compL it tg fc fe env n i acc h Q → compL it tg fc fe env n i acc h Q'
  | 0, _, _, _, q => q
  | n + 1, i, acc, h, q => by
    unfold compL at q ⊢
    cases e : it i h with
    | none => simp only [e] at q
    | some o =>
      cases o with
      | none => simp only [e] at q ⊢; exact k _ _ q
      | some d =>
        simp only [e] at q ⊢
        cases e2 : asgT tg d h env with
        | none => simp only [e2] at q
        | some env2 =>
          simp only [e2] at q ⊢
          cases fc with
          | none => exact me.mo (fun y h2 q2 => chk_mono (fun q3 => compL_mono mc me k n _ _ _ q3) q2) (fun _ _ _ z => z) q
          | some c =>
            refine (mc c rfl).mo (fun b h2 q2 => ?_) (fun _ _ _ z => z) q
            cases b with
            | bl b =>
              cases b with
              | true => exact me.mo (fun y h2 q2 => chk_mono (fun q3 => compL_mono mc me k n _ _ _ q3) q2) (fun _ _ _ z => z) q2
              | false => exact compL_mono mc me k n _ _ _ q2
            | _ => exact q2
theorem fComp_mono {fi : FI} {tg : Tg} {vs : List Nat} {fc : Option FE} {fe : FE} (mi : MonI fi) (mc : ∀ c, fc = some c → MonE c) (me : MonE fe) : MonA (fComp fi tg vs fc fe) := ⟨fun kQ kE q => mi.mo (fun _ _ q1 => compL_mono mc me kQ _ _ _ _ q1) kE q⟩
/-- a list object that the small heap does not know -/
def QLs (G : Gd) (ρ : Nat → Addr) (h : VH) (H : Hp) (Q : VK) : PL := fun ds h' => ∀ ρ' H' p vs, Stp G ρ h H ρ' h' H' → H' p = some (.lst vs) → (∀ k, k < h'.length → ρ' k ≠ p) → H p = none → RpA G H' ρ' h'.length ds vs → Q (.ref p) H'
def lLs (G : Gd) (W : WX) (f : FA) : TE := fun σ H Q => ∃ ρ env h, M G ρ env h σ H ∧ f env h (QLs G ρ h H Q) (QX G ρ h H W σ)
structure SL (X : Cx) (T : List NTab) (W : WX) (e : Expr) (f : FA) : Prop where
  m : MonA f
  p : PE X e (lLs (gd X T) W f)
section
variable {G : Gd} {H H1 Hc : Hp} {ρ ρ1 ρc : Nat → Addr} {h h1 hc : VH}
theorem kp_poke {a : Addr} {o : HO} (hn : H a = none ∨ ∃ xs, H a = some (.lst xs)) : Kp H (L2.upd H a o) := by
  have ne : ∀ {b : Addr} {u : HO}, H b = some u → (∀ xs, u ≠ .lst xs) → b ≠ a := fun {b u} e q z => by
    subst z
    rcases hn with hn | ⟨xs, hn⟩
    · rw [e] at hn; cases hn
    · rw [e] at hn; exact q xs (Option.some.inj hn)
  exact ⟨fun b xs e => by rw [upd_ne (ne e (by intro _ z; cases z))]; exact e, fun b xs u e => by rw [upd_ne (ne e (by intro _ z; cases z))]; exact e, fun b xs e => by rw [upd_ne (ne e (by intro _ z; cases z))]; exact e⟩
/-- an object outside is written -/
theorem Stp.poke {a : Addr} {xs : List V} (s : Stp G ρ1 h1 H1 ρc hc Hc) (h0 : H1 a = none) (hn : Hc a = none ∨ ∃ xs, Hc a = some (.lst xs)) (hf : ∀ k, k < hc.length → ρc k ≠ a) : Stp G ρ1 h1 H1 ρc hc (upd Hc a (.lst xs)) := by
  refine ⟨s.len, s.agr, fun b o e n t => ?_, s.fresh, fun b e => s.dom b (upd_dom e), ⟨fun k o e => ?_, s.ok.inj⟩, fun t => TabsN.upd hn (s.tb t)⟩
  · have ne : b ≠ a := fun z => by rw [z, h0] at e; cases e
    rw [upd_ne ne]
    exact s.keep b o e n t
  · have q := s.ok.ob k o e
    have hk := (List.getElem?_eq_some_iff.mp e).1
    cases o with
    | lst ds =>
      obtain ⟨ys, e1, r⟩ := q
      exact ⟨ys, by rw [upd_ne (hf k hk)]; exact e1, r.mono (kp_poke hn) (fun _ _ => rfl) (Nat.le_refl _)⟩
/-- such a list comes into the small heap -/
theorem Stp.adopt {a : Addr} {xs : List V} {ds : List D} (s : Stp G ρ h H ρc hc Hc) (h0 : H a = none) (e : Hc a = some (.lst xs)) (hf : ∀ k, k < hc.length → ρc k ≠ a) (r : RpA G Hc ρc hc.length ds xs) : Stp G ρ h H (ext ρc hc.length a) (hc ++ [.lst ds]) Hc := by
  have lenE : (hc ++ [Ob.lst ds]).length = hc.length + 1 := by simp
  refine ⟨by rw [lenE]; exact Nat.le_succ_of_le s.len, fun k hk => (ext_lt (Nat.lt_of_lt_of_le hk s.len)).trans (s.agr k hk), s.keep, fun k a1 a2 => ?_, s.dom, ⟨fun i ob q => ?_, fun i j hi hj e => ?_⟩, s.tb⟩
  · by_cases hk : k < hc.length
    · rw [ext_lt hk]; exact s.fresh k a1 hk
    · have : k = hc.length := by rw [lenE] at a2; omega
      subst this
      rw [ext_self]; exact h0
  · by_cases hi : i < hc.length
    · rw [List.getElem?_append_left hi] at q
      rw [ext_lt hi]
      have z := s.ok.ob i ob q
      cases ob with
      | lst es =>
        obtain ⟨ys, e1, r1⟩ := z
        refine ⟨ys, e1, ?_⟩
        rw [lenE]
        exact r1.mono (Kp.refl _) (fun _ hk => ext_lt hk) (Nat.le_succ _)
    · have hl := (List.getElem?_eq_some_iff.mp q).1
      have : i = hc.length := by rw [lenE] at hl; omega
      subst this
      rw [List.getElem?_append_right (Nat.le_refl _)] at q
      simp at q
      subst q
      rw [ext_self]
      refine ⟨xs, e, ?_⟩
      rw [lenE]
      exact r.mono (Kp.refl _) (fun _ hk => ext_lt hk) (Nat.le_succ _)
  · rw [lenE] at hi hj
    by_cases h1 : i < hc.length <;> by_cases h2 : j < hc.length
    · rw [ext_lt h1, ext_lt h2] at e
      exact s.ok.inj i j h1 h2 e
    · have : j = hc.length := by omega
      subst this
      rw [ext_lt h1, ext_self] at e
      exact absurd e (hf i h1)
    · have : i = hc.length := by omega
      subst this
      rw [ext_lt h2, ext_self] at e
      exact absurd e.symm (hf j h2)
    · omega
/-- a step keeps an object outside outside -/
theorem Stp.out {a : Addr} {o : HO} (s : Stp G ρ h H ρ1 h1 H1) (e : H a = some o) (hf : ∀ k, k < h.length → ρ k ≠ a) : ∀ k, k < h1.length → ρ1 k ≠ a := fun k hk z => by
  by_cases hh : k < h.length
  · rw [s.agr k hh] at z; exact hf k hh z
  · have := s.fresh k (Nat.not_lt.mp hh) hk
    rw [z, e] at this; cases this
end
def fNewL (f : FA) : FE := fun env h Q E => f env h (fun ds h1 => Q (.ref h1.length) (h1 ++ [.lst ds])) E
def fFC (c : FC) (f : FA) : FE := fun env h Q E => f env h (fun ds h1 => fin (c ds) h1 Q) E
section
variable {X : Cx} {T : List NTab} {W : WX} {e elt tg iter : Expr} {fe : FE} {f : FA} {fi : FI} {pos p : Pos} {x : Str} {t : Tg}
theorem e_newL (h : SL X T W e f) : SE X T W e (fNewL f) :=
  ⟨⟨fun kQ kE q => h.m.mo (fun _ _ q1 => kQ _ _ q1) kE q⟩, PE.imp h.p fun σ H Q q => by
    obtain ⟨ρ, env, hh, m, hf⟩ := q
    refine ⟨ρ, env, hh, m, h.m.mo (fun ds h1 q1 => ?_) (fun _ _ _ z => z) hf⟩
    intro ρ1 H1 p vs s1 hp hf h0 r
    have s2 := s1.adopt h0 hp hf r
    have e : V.ref p = V.ref (ext ρ1 h1.length p h1.length) := by rw [ext_self]
    rw [e]
    exact q1 _ _ _ s2 (.ref (by simp))⟩
theorem e_bic (hc : X.calm = true) (bi : Bi) (c : FC) (hbc : bi.c = some c) (hx : Str.ofString bi.name = x) (hg : Gl X x) (hm : X.mg x = none) (h : SL X T W e f) (hn : x ≠ "__name__" := by decide) (hdb : (x == ("__debug__" : Str)) = false := by decide)
    (he : starEach [e] X.env = (false, eval e X.env) :: starEach [] X.env := by rfl) (hpl : (backTo pos (starEach [] X.env)).any (·.1) = false := by rfl) : SE X T W (.Call (.Name x p) [e] [] pos) (fFC c f) := by
  refine ⟨⟨fun kQ kE q => h.m.mo (fun _ _ q1 => fin_mono kQ q1) kE q⟩, ?_⟩
  have hb := Bi.boot bi
  rw [hx] at hb
  have hcc := Bi.callC (T := T) hc bi c hbc
  have key : ∀ σ H Q, lE (gd X T) W (fFC c f) σ H Q → tCB (rC (gd X T) c) (tCons (lLs (gd X T) W f) tNil) σ H Q := fun σ H Q q => by
    obtain ⟨ρ, env, hh, m, hf⟩ := q
    refine ⟨ρ, env, hh, m, h.m.mo (fun ds h1 q1 => ?_) (fun _ _ _ z => z) hf⟩
    intro ρ1 H1 p vs s1 hp hf h0 r
    exact ⟨ρ1, h1, p, vs, ds, rfl, s1.ok, .of hp, r, fin_mono (fun _ _ z => z.step s1) q1⟩
  cases bi <;> first
    | exact PE.imp (pe_callB hcc hg hm hb (pa_cons h.p pa_nil he) hn hdb he hpl) key
    | exact PE.imp (pe_callTy hcc hg hm hb (pa_cons h.p pa_nil he) hn hdb he hpl) key
/-- the conditions of a comprehension: none or one -/
inductive SC (B : Shared → Hp → Addr → List (Str × Addr) → List Addr → Cx) (T : List NTab) : List Expr → Option FE → Prop
  | none : SC B T [] Option.none
  | one {c : Expr} {f : FE} (h : ∀ s H C cl fp, ST (B s H C cl fp) T W0 c f) : SC B T [c] (Option.some f)
def rdC (G : Gd) (fc : Option FE) : TT := match fc with
  | none => tYes
  | some c => lT G W0 (tOf c)
theorem lc_key {vs0 : List Nat} {fc : Option FE} (mi : MonI fi) (mc : ∀ c, fc = some c → MonE c) (me : MonE fe) (hsl : ∀ i ∈ t.slots, i ∈ vs0) {σ : L2.St} {H : Hp} {Q : VK} (q : lLs (gd X T) W (fComp fi t vs0 fc fe) σ H Q) :
    tLc (lI (gd X T) W fi) (lG (gd X T) t) (rdC (gd X T) fc) (lE (gd X T) W0 fe) vs0 σ H Q := by
  obtain ⟨ρ, env, h, m, hf⟩ := q
  refine ⟨ρ, env, h, m, mi.mo (fun it h1 q1 => ?_) (fun _ _ _ z => z) hf⟩
  intro ρ1 J H1 s1 ir D hD
  have m1 := (m.step s1).wipe vs0
  have nD1 : ∀ k, k < h1.length → ρ1 k ≠ D := fun k hk z => by
    obtain ⟨xs, e⟩ := s1.ok.isLst hk
    rw [z, hD] at e; cases e
  refine ⟨fun i m Hc => ∃ ρc hcc acc vs, Stp (gd X T) ρ1 h1 H1 ρc hcc Hc ∧ Hc D = some (.lst vs) ∧ (∀ k, k < hcc.length → ρc k ≠ D) ∧ RpA (gd X T) Hc ρc hcc.length acc vs ∧ compL it t fc fe (wipeD env vs0) m i acc hcc (QLs (gd X T) ρ h H Q),
    ⟨fuel, ρ1, h1, [], [], (Stp.refl s1.ok).poke hD (.inl hD) nD1, upd_same, nD1, .nil, q1⟩, ?_⟩
  intro i m' Hc hW
  obtain ⟨ρc, hcc, acc, vs, sc, eD, nD, rA, hl⟩ := hW
  cases m' with
  | zero => exact hl.elim
  | succ n =>
    unfold compL at hl
    cases e : it i hcc with
    | none => simp only [e] at hl
    | some o =>
      cases o with
      | none =>
        simp only [e] at hl
        exact .inl ⟨ir.stop i ρc hcc Hc sc e, hl ρc Hc D vs (s1.trans sc) eD nD (s1.dom D hD) rA⟩
      | some d =>
        simp only [e] at hl
        refine .inr ⟨ir.go i ρc hcc Hc d sc e, (fun Hn => ∃ ρc hcc ac vs, Stp (gd X T) ρ1 h1 H1 ρc hcc Hn ∧ Hn D = some (.lst vs) ∧ (∀ k, k < hcc.length → ρc k ≠ D) ∧ RpA (gd X T) Hn ρc hcc.length ac vs ∧ compL it t fc fe (wipeD env vs0) n (i + 1) ac hcc (QLs (gd X T) ρ h H Q)), fun H' z => ⟨n, Nat.lt_succ_self _, z⟩, fun x H' hy => ?_⟩
        obtain ⟨ρ2, s2, r2⟩ := ir.yld i ρc hcc Hc d x H' sc e hy
        have m2 := (m1.step sc).step s2
        cases e2 : asgT t d hcc (wipeD env vs0) with
        | none => simp only [e2] at hl
        | some env2 =>
          simp only [e2] at hl
          refine ⟨ρ2, _, hcc, d, env2, m2, r2, e2, fun σ2 m3 w3 => ⟨?_, ?_⟩⟩
          · have q := w3 vs0 hsl
            rw [q]
            exact wipe_idem _ _
          · have elem : ∀ {ρ3 h3 H3}, Stp (gd X T) ρ2 hcc H' ρ3 h3 H3 → fe env2 h3 (fun y h4 => chk (decide (acc.length < line)) (compL it t fc fe (wipeD env vs0) n (i + 1) (acc ++ [y]) h4 (QLs (gd X T) ρ h H Q))) noX →
                lE (gd X T) W0 fe σ2 H3 fun y H4 => ∃ acc, H4 D = some (.lst acc) ∧ acc.length < sizeLine ∧ ∃ ρc hcc ac vs, Stp (gd X T) ρ1 h1 H1 ρc hcc (upd H4 D (.lst (acc ++ [y]))) ∧ (upd H4 D (.lst (acc ++ [y]))) D = some (.lst vs) ∧ (∀ k, k < hcc.length → ρc k ≠ D) ∧ RpA (gd X T) (upd H4 D (.lst (acc ++ [y]))) ρc hcc.length ac vs ∧ compL it t fc fe (wipeD env vs0) n (i + 1) ac hcc (QLs (gd X T) ρ h H Q) := fun {ρ3 h3 H3} s3 q3 => by
              refine ⟨ρ3, env2, h3, m3.step s3, me.mo (fun y h4 q4 => ?_) (fun _ _ _ z => z.elim) q3⟩
              intro ρ4 v H4 s4 r4
              obtain ⟨hl4, q5⟩ := chk_iff.mp q4
              have hl4 := of_decide_eq_true hl4
              have s24 := s2.trans (s3.trans s4)
              have eD4 : H4 D = some (.lst vs) := s24.keep D _ eD (fun k hk => nD k hk) (by intro _ z; cases z)
              have nD4 := s24.out eD nD
              have rA4 := s24.rpA sc.ok rA
              have kp := kp_poke (o := .lst (vs ++ [v])) (.inr ⟨_, eD4⟩)
              refine ⟨vs, eD4, by rw [← line_eq, ← rA.length]; exact hl4, ρ4, h4, acc ++ [y], vs ++ [v], (sc.trans s24).poke hD (.inr ⟨_, eD4⟩) nD4, upd_same, nD4, ?_, q5⟩
              exact (rA4.append (.cons r4 .nil)).mono kp (fun _ _ => rfl) (Nat.le_refl _)
            cases fc with
            | none =>
              simp only at hl
              exact L2.iteT (B := (fun Hn => ∃ ρc hcc ac vs, Stp (gd X T) ρ1 h1 H1 ρc hcc Hn ∧ Hn D = some (.lst vs) ∧ (∀ k, k < hcc.length → ρc k ≠ D) ∧ RpA (gd X T) Hn ρc hcc.length ac vs ∧ compL it t none fe (wipeD env vs0) n (i + 1) ac hcc (QLs (gd X T) ρ h H Q)) H') (elem (Stp.refl s2.ok) hl)
            | some c =>
              simp only at hl
              refine ⟨ρ2, env2, hcc, m3, (mc c rfl).mo (fun b h3 q3 => ?_) (fun _ _ _ z => z.elim) hl⟩
              cases b with
              | bl b =>
                intro ρ3 H3 s3
                cases b with
                | true =>
                  rw [if_pos rfl]
                  exact elem s3 q3
                | false =>
                  rw [if_neg Bool.false_ne_true]
                  have s23 := s2.trans s3
                  exact ⟨ρ3, h3, acc, vs, sc.trans s23, s23.keep D _ eD (fun k hk => nD k hk) (by intro _ z; cases z), s23.out eD nD, s23.rpA sc.ok rA, q3⟩
              | _ => exact q3
theorem e_lc {scope : Scope} {own : List (Str × Nat)} {ifs : List Expr} {fc : Option FE} (hc : X.calm = true) (hN : X.N.Nodup) (hi : SI X T W tg iter fi) (ok : BlkOk X.N X.env.scope scope own) (hsl : ∀ i ∈ t.slots, i ∈ own.map (·.2))
    (hg : ∀ (s : Shared) (H : Hp) (C : Addr) (cl : List (Str × Addr)) (fp : List Addr), SG (X.blk s H scope (compEnvC scope cl C X.env) fp) T tg t) (ht : SC (fun s H C cl fp => X.blk s H scope (compEnvC scope cl C X.env) fp) T ifs fc)
    (he : ∀ (s : Shared) (H : Hp) (C : Addr) (cl : List (Str × Addr)) (fp : List Addr), SE (X.blk s H scope (compEnvC scope cl C X.env) fp) T W0 elt fe) (hs : ∀ x, foldedSetIterable iter X.env x = pure x := by intro _; rfl) :
    SL X T W (.ListComp elt [⟨tg, iter, ifs, 0⟩] scope pos) (fComp fi t (own.map (·.2)) fc fe) := by
  have mc : ∀ c, fc = some c → MonE c := by
    intro c ec
    cases ht with
    | none => cases ec
    | one h => cases ec; exact (h X.s_0 X.H_0 0 [] []).m
  have me : MonE fe := (he X.s_0 X.H_0 0 [] []).m
  refine ⟨fComp_mono hi.m mc me, ?_⟩
  have htt : ∀ (s : Shared) (H : Hp) (C : Addr) (cl : List (Str × Addr)) (fp : List Addr), PTs (X.blk s H scope (compEnvC scope cl C X.env) fp) ifs (rdC (gd X T) fc) := by
    intro s H C cl fp
    cases ht with
    | none => exact pts_nil
    | one h => exact pts_one (h s H C cl fp).p
  exact PE.imp (pe_lc (g := lG (gd X T) t) (te := lE (gd X T) W0 fe) hc hN hi.p ok (fun s H C cl fp => (hg s H C cl fp).p) htt (fun s H C cl fp => (he s H C cl fp).p) hs) fun σ H Q q => lc_key hi.m mc me hsl q
theorem SC.mc {B : Shared → Hp → Addr → List (Str × Addr) → List Addr → Cx} {ifs : List Expr} {fc : Option FE} (s : Shared) (H : Hp) (ht : SC B T ifs fc) : ∀ c, fc = Option.some c → MonE c := by
  intro c ec
  cases ht with
  | none => cases ec
  | one h => cases ec; exact (h s H 0 [] []).m
theorem SC.pts {scope : Scope} {ifs : List Expr} {fc : Option FE} (ht : SC (fun s H C cl fp => X.blk s H scope (compEnvC scope cl C X.env) fp) T ifs fc) (s : Shared) (H : Hp) (C : Addr) (cl : List (Str × Addr)) (fp : List Addr) : PTs (X.blk s H scope (compEnvC scope cl C X.env) fp) ifs (rdC (gd X T) fc) := by
  cases ht with
  | none => exact pts_nil
  | one h => exact pts_one (h s H C cl fp).p
end
end Ev

set_option Elab.async false
set_option linter.all false
set_option maxRecDepth 100000
/-! Ev5: statements. -/
namespace Ev
open PySem PySem.Spec PyProof.Rows L2 NdefX

abbrev PN := Env → VH → Prop
structure ED where
  nx : PN
  rt : PQ
  bk : PN
  ct : PN
  ex : Str → D → Env → VH → Prop
abbrev FS := Env → VH → ED → Prop
structure EDle (a b : ED) : Prop where
  nx : ∀ e h, a.nx e h → b.nx e h
  rt : ∀ d h, a.rt d h → b.rt d h
  bk : ∀ e h, a.bk e h → b.bk e h
  ct : ∀ e h, a.ct e h → b.ct e h
  ex : ∀ c d e h, a.ex c d e h → b.ex c d e h
structure MonS (f : FS) : Prop where
  mo : ∀ {env : Env} {h : VH} {a b : ED}, EDle a b → f env h a → f env h b
def exE (a : ED) (env : Env) : PX := fun c d h => a.ex c d env h
def QN (G : Gd) (ρ : Nat → Addr) (h : VH) (H : Hp) (Q : L2.St → Hp → Prop) : PN := fun env' h' => ∀ ρ' σ' H', Stp G ρ h H ρ' h' H' → M G ρ' env' h' σ' H' → Q σ' H'
def QXs (G : Gd) (ρ : Nat → Addr) (h : VH) (H : Hp) (W : WX) : Str → D → Env → VH → Prop := fun c d env' h' => ∀ ρ' σ' H' C dx w, Stp G ρ h H ρ' h' H' → M G ρ' env' h' σ' H' → G.mg c = some (.ref C) → H' dx = some (.xd [("value", w)]) → Rp G H' ρ' h'.length d w → W (.ref C) (some dx) σ' H'
def QD (G : Gd) (ρ : Nat → Addr) (h : VH) (H : Hp) (W : WX) (D : Ends) : ED := ⟨QN G ρ h H D.nx, QV G ρ h H D.rt, QN G ρ h H D.bk, QN G ρ h H D.ct, QXs G ρ h H W⟩
section
variable {G : Gd} {ρ ρ1 : Nat → Addr} {h h1 : VH} {H H1 : Hp} {W : WX}
theorem QN.step {Q : L2.St → Hp → Prop} (s : Stp G ρ h H ρ1 h1 H1) {env : Env} {h' : VH} (q : QN G ρ h H Q env h') : QN G ρ1 h1 H1 Q env h' := fun ρ' σ' H' s' m => q ρ' σ' H' (s.trans s') m
theorem QXs.step (s : Stp G ρ h H ρ1 h1 H1) {c : Str} {d : D} {env : Env} {h' : VH} (q : QXs G ρ h H W c d env h') : QXs G ρ1 h1 H1 W c d env h' := fun ρ' σ' H' C dx w s' => q ρ' σ' H' C dx w (s.trans s')
theorem QD.step {D : Ends} (s : Stp G ρ h H ρ1 h1 H1) : EDle (QD G ρ h H W D) (QD G ρ1 h1 H1 W D) :=
  ⟨fun _ _ q => QN.step s q, fun _ _ q => QV.step s q, fun _ _ q => QN.step s q, fun _ _ q => QN.step s q, fun _ _ _ _ q => QXs.step s q⟩
theorem QD.x {D : Ends} {env : Env} {σ : L2.St} (m : M G ρ env h σ H) : ∀ c d h', exE (QD G ρ h H W D) env c d h' → QX G ρ h H W σ c d h' := fun c d h' q ρ' H' C dx w s a b r => q ρ' σ H' C dx w s (m.step s) a b r
end
def lS (G : Gd) (W : WX) (f : FS) : TS := fun Dn σ H => ∃ ρ env h, M G ρ env h σ H ∧ f env h (QD G ρ h H W Dn)
structure SS (X : Cx) (T : List NTab) (W : WX) (st : Stmt) (f : FS) : Prop where
  m : MonS f
  p : PS X st (lS (gd X T) W f)
structure SSs (X : Cx) (T : List NTab) (W : WX) (st : List Stmt) (f : FS) : Prop where
  m : MonS f
  p : PSs X st (lS (gd X T) W f)
theorem EDle.refl (a : ED) : EDle a a := ⟨fun _ _ q => q, fun _ _ q => q, fun _ _ q => q, fun _ _ q => q, fun _ _ _ _ q => q⟩
theorem EDle.trans {a b c : ED} (x : EDle a b) (y : EDle b c) : EDle a c := ⟨fun _ _ q => y.nx _ _ (x.nx _ _ q), fun _ _ q => y.rt _ _ (x.rt _ _ q), fun _ _ q => y.bk _ _ (x.bk _ _ q), fun _ _ q => y.ct _ _ (x.ct _ _ q), fun _ _ _ _ q => y.ex _ _ _ _ (x.ex _ _ _ _ q)⟩

/-! ### the meanings -/
def sNil : FS := fun env h D => D.nx env h
def sSeq (a b : FS) : FS := fun env h D => a env h { D with nx := fun e h1 => b e h1 D }
def sBrk : FS := fun env h D => D.bk env h
def sCnt : FS := fun env h D => D.ct env h
def sExp (f : FE) : FS := fun env h D => f env h (fun _ h1 => D.nx env h1) (exE D env)
def sRet (f : FE) : FS := fun env h D => f env h D.rt (exE D env)
def sRetN : FS := fun env h D => D.rt .non h
def sIf (c : FE) (a b : FS) : FS := fun env h D => c env h (fun x h1 => match x with
  | .bl true => a env h1 D
  | .bl false => b env h1 D
  | _ => False) (exE D env)
def sAsg (f : FE) (t : Tg) : FS := fun env h D => f env h (fun x h1 => match asgT t x h1 env with
  | some e => D.nx e h1
  | none => False) (exE D env)
def sPar (f : FA) (ts : TgL) : FS := fun env h D => f env h (fun xs h1 => match asgL ts xs h1 env with
  | some e => D.nx e h1
  | none => False) (exE D env)
/-- o[i] = x in data -/
def gSet (o i x : D) (h : VH) : Option VH := match o, i with
  | .ref k, .int n => match lstAt h k with
    | some ds => match ixN ds.length n with
      | some j => some (h.set k (.lst (ds.set j x)))
      | none => none
    | none => none
  | _, _ => none
def sSet (fo fi fe : FE) : FS := fun env h D => fe env h (fun x h1 => fo env h1 (fun o h2 => fi env h2 (fun i h3 => match gSet o i x h3 with
  | some h4 => D.nx env h4
  | none => False) (exE D env)) (exE D env)) (exE D env)
/-- a op= b of ints, texts -/
def gInp (op : Bop) : F2 := match op with
  | .add => fun x y _ => match x, y with
    | .int i, .int j => some (.val (.int (i + j)))
    | .str i, .str j => if i.length + j.length ≤ line then some (.val (.str (i ++ j))) else none
    | _, _ => none
  | .sub => gSub
  | _ => fun _ _ _ => none
def sAug (i : Nat) (op : Bop) (f : FE) : FS := fun env h D => match env[i]? with
  | some (some x) => f env h (fun y h1 => fin (gInp op x y h1) h1 (fun z h2 => D.nx (env.set i (some z)) h2)) (exE D env)
  | _ => False
def gIxL : F2 := fun x y h => match x with
  | .ref _ => gIx x y h
  | _ => none
def sAugS (fo fi : FE) (op : Bop) (f : FE) : FS := fun env h D => fo env h (fun o h1 => fi env h1 (fun i h2 => fin (gIxL o i h2) h2 (fun x h3 => f env h3 (fun y h4 => fin (gInp op x y h4) h4 (fun z h5 => match gSet o i z h5 with
  | some h6 => D.nx env h6
  | none => False)) (exE D env))) (exE D env)) (exE D env)
def whL (c : FE) (b : FS) : Nat → Env → VH → ED → Prop
  | 0, _, _, _ => False
  | n + 1, env, h, D => c env h (fun x h1 => match x with
    | .bl true => b env h1 { D with nx := fun e h2 => whL c b n e h2 D, ct := fun e h2 => whL c b n e h2 D, bk := D.nx }
    | .bl false => D.nx env h1
    | _ => False) (exE D env)
noncomputable def sWhile (c : FE) (b : FS) : FS := fun env h D => whL c b fuel env h D
def foL (it : ItF) (t : Tg) (b : FS) : Nat → Nat → Env → VH → ED → Prop
  | 0, _, _, _, _ => False
  | n + 1, i, env, h, D => match it i h with
    | none => False
    | some none => D.nx env h
    | some (some d) => match asgT t d h env with
      | none => False
      | some e => b e h { D with nx := fun e h2 => foL it t b n (i + 1) e h2 D, ct := fun e h2 => foL it t b n (i + 1) e h2 D, bk := D.nx }
noncomputable def sFor (fi : FI) (t : Tg) (b : FS) : FS := fun env h D => fi env h (fun it h1 => foL it t b fuel 0 env h1 D) (exE D env)
/-! ### they keep implications -/
theorem exE_mono {a b : ED} {env : Env} (k : EDle a b) : ∀ c d h, exE a env c d h → exE b env c d h := fun c d h q => k.ex c d env h q
theorem sNil_mono : MonS sNil := ⟨fun k q => k.nx _ _ q⟩
theorem sSeq_mono {a b : FS} (ma : MonS a) (mb : MonS b) : MonS (sSeq a b) := ⟨fun {env h x y} k q => ma.mo (a := { x with nx := fun e h1 => b e h1 x }) (b := { y with nx := fun e h1 => b e h1 y }) ⟨fun _ _ z => mb.mo k z, k.rt, k.bk, k.ct, k.ex⟩ q⟩
theorem sBrk_mono : MonS sBrk := ⟨fun k q => k.bk _ _ q⟩
theorem sCnt_mono : MonS sCnt := ⟨fun k q => k.ct _ _ q⟩
theorem sExp_mono {f : FE} (m : MonE f) : MonS (sExp f) := ⟨fun k q => m.mo (fun _ _ z => k.nx _ _ z) (exE_mono k) q⟩
theorem sRet_mono {f : FE} (m : MonE f) : MonS (sRet f) := ⟨fun k q => m.mo (fun _ _ z => k.rt _ _ z) (exE_mono k) q⟩
theorem sRetN_mono : MonS sRetN := ⟨fun k q => k.rt _ _ q⟩
theorem sIf_mono {c : FE} {a b : FS} (mc : MonE c) (ma : MonS a) (mb : MonS b) : MonS (sIf c a b) := ⟨fun k q => mc.mo (fun x _ z => by
  cases x with
  | bl x =>
    cases x with
    | true => exact ma.mo k z
    | false => exact mb.mo k z
  | _ => exact z) (exE_mono k) q⟩
theorem sAsg_mono {f : FE} {t : Tg} (m : MonE f) : MonS (sAsg f t) := ⟨fun {env h a b} k q => m.mo (fun x h1 z => by
  cases e : asgT t x h1 env with
  | none => rw [e] at z; exact z.elim
  | some e1 => rw [e] at z; exact k.nx _ _ z) (exE_mono k) q⟩
theorem sPar_mono {f : FA} {t : TgL} (m : MonA f) : MonS (sPar f t) := ⟨fun {env h a b} k q => m.mo (fun x h1 z => by
  cases e : asgL t x h1 env with
  | none => rw [e] at z; exact z.elim
  | some e1 => rw [e] at z; exact k.nx _ _ z) (exE_mono k) q⟩
theorem sSet_mono {fo fi fe : FE} (mo : MonE fo) (mi : MonE fi) (me : MonE fe) : MonS (sSet fo fi fe) := ⟨fun {env h a b} k q => me.mo (fun x h1 z => mo.mo (fun o h2 z => mi.mo (fun i h3 z => by
  cases e : gSet o i x h3 with
  | none => rw [e] at z; exact z.elim
  | some h4 => rw [e] at z; exact k.nx _ _ z) (exE_mono k) z) (exE_mono k) z) (exE_mono k) q⟩
theorem sAug_mono {i : Nat} {op : Bop} {f : FE} (m : MonE f) : MonS (sAug i op f) := ⟨fun {env h a b} k q => by
  unfold sAug at q ⊢
  split at q
  · exact m.mo (fun y h1 z => fin_mono (fun _ _ z => k.nx _ _ z) z) (exE_mono k) q
  · exact q.elim⟩
theorem sAugS_mono {fo fi f : FE} {op : Bop} (mo : MonE fo) (mi : MonE fi) (me : MonE f) : MonS (sAugS fo fi op f) := ⟨fun {env h a b} k q => mo.mo (fun o h1 z => mi.mo (fun i h2 z => fin_mono (fun x h3 z => me.mo (fun y h4 z => fin_mono (fun z' h5 z => by
  cases e : gSet o i z' h5 with
  | none => rw [e] at z; exact z.elim
  | some h4 => rw [e] at z; exact k.nx _ _ z) z) (exE_mono k) z) z) (exE_mono k) z) (exE_mono k) q⟩
theorem whL_mono {c : FE} {b : FS} (mc : MonE c) (mb : MonS b) : ∀ (n : Nat) {env : Env} {h : VH} {x y : ED}, EDle x y → whL c b n env h x → whL c b n env h y
  | 0, _, _, _, _, _, q => q
  | n + 1, env, h, x, y, k, q => mc.mo (fun v h1 z => by
    cases v with
    | bl v =>
      cases v with
      | true => exact mb.mo (a := { x with nx := fun e h2 => whL c b n e h2 x, ct := fun e h2 => whL c b n e h2 x, bk := x.nx }) (b := { y with nx := fun e h2 => whL c b n e h2 y, ct := fun e h2 => whL c b n e h2 y, bk := y.nx }) ⟨fun _ _ z => whL_mono mc mb n k z, k.rt, fun _ _ z => k.nx _ _ z, fun _ _ z => whL_mono mc mb n k z, k.ex⟩ z
      | false => exact k.nx _ _ z
    | _ => exact z) (exE_mono k) q
theorem sWhile_mono {c : FE} {b : FS} (mc : MonE c) (mb : MonS b) : MonS (sWhile c b) := ⟨fun k q => whL_mono mc mb _ k q⟩
theorem foL_mono {it : ItF} {t : Tg} {b : FS} (mb : MonS b) : ∀ (n i : Nat) {env : Env} {h : VH} {x y : ED}, EDle x y → foL it t b n i env h x → foL it t b n i env h y
  | 0, _, _, _, _, _, _, q => q
  | n + 1, i, env, h, x, y, k, q => by
    unfold foL at q ⊢
    cases e : it i h with
    | none => simp only [e] at q
    | some o =>
      cases o with
      | none => simp only [e] at q ⊢; exact k.nx _ _ q
      | some d =>
        simp only [e] at q ⊢
        cases e2 : asgT t d h env with
        | none => simp only [e2] at q
        | some e3 =>
          simp only [e2] at q ⊢
          exact mb.mo (a := { x with nx := fun e h2 => foL it t b n (i + 1) e h2 x, ct := fun e h2 => foL it t b n (i + 1) e h2 x, bk := x.nx }) (b := { y with nx := fun e h2 => foL it t b n (i + 1) e h2 y, ct := fun e h2 => foL it t b n (i + 1) e h2 y, bk := y.nx }) ⟨fun _ _ z => foL_mono mb n _ k z, k.rt, fun _ _ z => k.nx _ _ z, fun _ _ z => foL_mono mb n _ k z, k.ex⟩ q
theorem sFor_mono {fi : FI} {t : Tg} {b : FS} (mi : MonI fi) (mb : MonS b) : MonS (sFor fi t b) := ⟨fun k q => mi.mo (fun _ _ z => foL_mono mb _ _ k z) (exE_mono k) q⟩

/-! ### they are sound -/
section
variable {X : Cx} {T : List NTab} {W : WX} {st : Stmt} {rest body : List Stmt} {e c a b o i tg iter : Expr} {es : List Expr} {f fc fo fi fe : FE} {ft : FA} {it : FI} {s1 s2 : FS} {t : Tg} {ts : TgL} {pos p px py pt : Pos} {x y : Str}
theorem ss_nil : SSs X T W [] sNil := ⟨sNil_mono, PSs.imp pss_nil fun Dn σ H q => by
  obtain ⟨ρ, env, h, m, hf⟩ := q
  exact hf ρ σ H (Stp.refl m.ok) m⟩
theorem ss_cons (h1 : SS X T W st s1) (h2 : SSs X T W rest s2) : SSs X T W (st :: rest) (sSeq s1 s2) :=
  ⟨sSeq_mono h1.m h2.m, PSs.imp (pss_cons h1.p h2.p) fun Dn σ H q => by
    obtain ⟨ρ, env, h, m, hf⟩ := q
    refine ⟨ρ, env, h, m, h1.m.mo (a := { QD (gd X T) ρ h H W Dn with nx := fun e h1 => s2 e h1 (QD (gd X T) ρ h H W Dn) }) (b := QD (gd X T) ρ h H W { Dn with nx := lS (gd X T) W s2 Dn }) ⟨fun e h' q => ?_, fun _ _ q => q, fun _ _ q => q, fun _ _ q => q, fun _ _ _ _ q => q⟩ hf⟩
    intro ρ' σ' H' s' m'
    exact ⟨ρ', e, h', m', h2.m.mo (QD.step s') q⟩⟩
theorem ss_one (h1 : SS X T W st s1) : SSs X T W [st] s1 := ⟨h1.m, pss_one h1.p⟩
theorem s_brk : SS X T W (.Break p) sBrk := ⟨sBrk_mono, PS.imp ps_break fun Dn σ H q => by
  obtain ⟨ρ, env, h, m, hf⟩ := q
  exact hf ρ σ H (Stp.refl m.ok) m⟩
theorem s_cnt : SS X T W (.Continue p) sCnt := ⟨sCnt_mono, PS.imp ps_continue fun Dn σ H q => by
  obtain ⟨ρ, env, h, m, hf⟩ := q
  exact hf ρ σ H (Stp.refl m.ok) m⟩
theorem s_pass : SS X T W (.Pass p) sNil := ⟨sNil_mono, PS.imp ps_pass fun Dn σ H q => by
  obtain ⟨ρ, env, h, m, hf⟩ := q
  exact hf ρ σ H (Stp.refl m.ok) m⟩
theorem s_exp (h : SE X T W e f) (hs : swapsWith e none pos.line X.env = pure false := by rfl) : SS X T W (.Expr e pos) (sExp f) :=
  ⟨sExp_mono h.m, PS.imp (ps_expr h.p hs) fun Dn σ H q => by
    obtain ⟨ρ, env, hh, m, hf⟩ := q
    refine ⟨ρ, env, hh, m, h.m.mo (fun d h1 q1 => ?_) (QD.x m) hf⟩
    intro ρ1 v H1 s1 r1
    exact q1 ρ1 σ H1 s1 (m.step s1)⟩
theorem s_ret (h : SE X T W e f) : SS X T W (.Return (some e) pos) (sRet f) :=
  ⟨sRet_mono h.m, PS.imp (ps_ret h.p) fun Dn σ H q => by
    obtain ⟨ρ, env, hh, m, hf⟩ := q
    exact ⟨ρ, env, hh, m, h.m.mo (fun d h1 q1 => q1) (QD.x m) hf⟩⟩
theorem s_retN : SS X T W (.Return none pos) sRetN := ⟨sRetN_mono, PS.imp ps_retN fun Dn σ H q => by
  obtain ⟨ρ, env, h, m, hf⟩ := q
  exact hf ρ .non H (Stp.refl m.ok) .non⟩
theorem s_if (hc : ST X T W c fc) (h1 : SSs X T W rest s1) (h2 : SSs X T W body s2) : SS X T W (.If c rest body pos) (sIf fc s1 s2) :=
  ⟨sIf_mono hc.m h1.m h2.m, PS.imp (ps_if hc.p h1.p h2.p) fun Dn σ H q => by
    obtain ⟨ρ, env, h, m, hf⟩ := q
    refine ⟨ρ, env, h, m, hc.m.mo (fun x h1' q1 => ?_) (QD.x m) hf⟩
    cases x with
    | bl k =>
      intro ρ1 H1 st1
      cases k with
      | true =>
        rw [if_pos rfl]
        exact ⟨ρ1, env, h1', m.step st1, h1.m.mo (QD.step st1) q1⟩
      | false =>
        rw [if_neg Bool.false_ne_true]
        exact ⟨ρ1, env, h1', m.step st1, h2.m.mo (QD.step st1) q1⟩
    | _ => exact q1⟩
theorem lS_asg {Dn : Ends} {σ : L2.St} {H : Hp} (m1 : MonE f) (q : lS (gd X T) W (sAsg f t) Dn σ H) : tAsg (lE (gd X T) W f) (lG (gd X T) t) Dn σ H := by
  obtain ⟨ρ, env, h, m, hf⟩ := q
  refine ⟨ρ, env, h, m, m1.mo (fun x h1 q1 => ?_) (QD.x m) hf⟩
  intro ρ1 v H1 st1 r1
  cases ea : asgT t x h1 env with
  | none => rw [ea] at q1; exact q1.elim
  | some e1 =>
    rw [ea] at q1
    exact ⟨ρ1, env, h1, x, e1, m.step st1, r1, ea, fun σ' m' _ => q1 ρ1 σ' H1 st1 m'⟩
theorem s_asg (h : SE X T W e f) (hg : SG X T tg t) (hs : swapsWithSole [tg] e pos.line X.env = pure false := by rfl) (hw : swappedStores [tg] e X.env = pure none := by rfl)
    (h1 : (assignEach [tg] X.env).map (·.2) = [assign tg X.env] := by rfl) : SS X T W (.Assign [tg] e pos) (sAsg f t) :=
  ⟨sAsg_mono h.m, PS.imp (ps_asg h.p hg.p hs hw h1) fun Dn σ H q => lS_asg h.m q⟩
/-- name = value -/
theorem s_set {j : Nat} (hN : X.N.Nodup) (hi : X.N[j]? = some x) (hx : Loc X.env.scope x) (h : SE X T W e f) (hs : swapsWith e (some (.Name x p)) pos.line X.env = pure false := by rfl) (hf : X.fn x = true ∨ X.env.scope.names.lookup x = some .local := by first | exact .inl rfl | exact .inr rfl | assumption) :
    SS X T W (.Assign [.Name x p] e pos) (sAsg f (.nm j)) :=
  ⟨sAsg_mono h.m, PS.imp (ps_set hN hi hx h.p hs hf) fun Dn σ H q => by
    obtain ⟨ρ, env, hh, m, hf⟩ := q
    refine ⟨ρ, env, hh, m, h.m.mo (fun x h1 q1 => ?_) (QD.x m) hf⟩
    intro ρ1 v H1 st1 r1
    exact q1 ρ1 _ H1 st1 ((m.step st1).set j r1)⟩
theorem s_par {i1 j1 k0 k2} {p2 : Pos} (hc : X.calm = true) (hN : X.N.Nodup) (hi : X.N[i1]? = some x) (hj : X.N[j1]? = some y) (hij : i1 ≠ j1)
    (hx : X.env.scope.names.lookup x = some .local) (hy : X.env.scope.names.lookup y = some .local) (ha : SA X T W [a, b] ft) (hw : swappedStores [.Tuple [.Name x px, .Name y py] k0 pt] (.Tuple [a, b] k2 p2) X.env = pure (some [x, y]) := by rfl)
    (hs : swapsWithSole [.Tuple [.Name x px, .Name y py] k0 pt] (.Tuple [a, b] k2 p2) pos.line X.env = pure false := by rfl) :
    SS X T W (.Assign [.Tuple [.Name x px, .Name y py] k0 pt] (.Tuple [a, b] k2 p2) pos) (sPar ft (.cons (.nm i1) (.cons (.nm j1) .nil))) :=
  ⟨sPar_mono ha.m, PS.imp (ps_par hc hN hi hj hij hx hy ha.p hw hs) fun Dn σ H q => by
    obtain ⟨ρ, env, h, m, hf⟩ := q
    refine ⟨ρ, env, h, m, ha.m.mo (fun xs h1 q1 => ?_) (QD.x m) hf⟩
    intro ρ1 vs H1 st1 r1
    cases ea : asgL (.cons (.nm i1) (.cons (.nm j1) .nil)) xs h1 env with
    | none => rw [ea] at q1; exact q1.elim
    | some e1 =>
      rw [ea] at q1
      have hl := asgL_len ea
      match xs, hl, r1, ea with
      | [d1, d2], _, .cons r1 (.cons r2 .nil), ea =>
        simp only [asgL, asgT] at ea
        cases ea
        exact ⟨_, _, rfl, q1 ρ1 _ H1 st1 (((m.step st1).set i1 r1).set j1 r2)⟩⟩
theorem s_par3 {z : Str} {i1 j1 l1 k0 k2} {p2 pz : Pos} (hc : X.calm = true) (hN : X.N.Nodup) (hi : X.N[i1]? = some x) (hj : X.N[j1]? = some y) (hl : X.N[l1]? = some z) (hij : i1 ≠ j1) (hil : i1 ≠ l1) (hjl : j1 ≠ l1)
    (hx : X.env.scope.names.lookup x = some .local) (hy : X.env.scope.names.lookup y = some .local) (hz : X.env.scope.names.lookup z = some .local) (ha : SA X T W [a, b, c] ft)
    (hw : swappedStores [.Tuple [.Name x px, .Name y py, .Name z pz] k0 pt] (.Tuple [a, b, c] k2 p2) X.env = pure (some [x, y, z]) := by rfl)
    (hs : swapsWithSole [.Tuple [.Name x px, .Name y py, .Name z pz] k0 pt] (.Tuple [a, b, c] k2 p2) pos.line X.env = pure false := by rfl) :
    SS X T W (.Assign [.Tuple [.Name x px, .Name y py, .Name z pz] k0 pt] (.Tuple [a, b, c] k2 p2) pos) (sPar ft (.cons (.nm i1) (.cons (.nm j1) (.cons (.nm l1) .nil)))) :=
  ⟨sPar_mono ha.m, PS.imp (ps_par3 hc hN hi hj hl hij hil hjl hx hy hz ha.p hw hs) fun Dn σ H q => by
    obtain ⟨ρ, env, h, m, hf⟩ := q
    refine ⟨ρ, env, h, m, ha.m.mo (fun xs h1 q1 => ?_) (QD.x m) hf⟩
    intro ρ1 vs H1 st1 r1
    cases ea : asgL (.cons (.nm i1) (.cons (.nm j1) (.cons (.nm l1) .nil))) xs h1 env with
    | none => rw [ea] at q1; exact q1.elim
    | some e1 =>
      rw [ea] at q1
      have hl := asgL_len ea
      match xs, hl, r1, ea with
      | [d1, d2, d3], _, .cons r1 (.cons r2 (.cons r3 .nil)), ea =>
        simp only [asgL, asgT] at ea
        cases ea
        exact ⟨_, _, _, rfl, q1 ρ1 _ H1 st1 ((((m.step st1).set i1 r1).set j1 r2).set l1 r3)⟩⟩
/-- name = [..] on one line -/
theorem s_setLc {j : Nat} {elt : Expr} {scope : Scope} {own : List (Str × Nat)} {ifs : List Expr} {fcc : Option FE} (hc : X.calm = true) (hN : X.N.Nodup) (hy : X.N[j]? = some y) (hyl : X.env.scope.names.lookup y = some .local)
    (hi : SI X T W tg iter it) (ok : BlkOk X.N X.env.scope scope own) (hsl : ∀ i ∈ t.slots, i ∈ own.map (·.2))
    (hg : ∀ (s : Shared) (H : Hp) (C : Addr) (cl : List (Str × Addr)) (fp : List Addr), SG (X.blk s H scope (compEnvC scope cl C X.env) fp) T tg t) (ht : SC (fun s H C cl fp => X.blk s H scope (compEnvC scope cl C X.env) fp) T ifs fcc)
    (he : ∀ (s : Shared) (H : Hp) (C : Addr) (cl : List (Str × Addr)) (fp : List Addr), SE (X.blk s H scope (compEnvC scope cl C X.env) fp) T W0 elt fe)
    (hsw : swapsWith (.ListComp elt [⟨tg, iter, ifs, 0⟩] scope p) (some (.Name y py)) pos.line X.env = pure true := by rfl) (hs : ∀ x, foldedSetIterable iter X.env x = pure x := by intro _; rfl) :
    SS X T W (.Assign [.Name y py] (.ListComp elt [⟨tg, iter, ifs, 0⟩] scope p) pos) (sAsg (fNewL (fComp it t (own.map (·.2)) fcc fe)) (.nm j)) := by
  have mc := ht.mc X.s_0 X.H_0
  have me : MonE fe := (he X.s_0 X.H_0 0 [] []).m
  have ml : MonA (fComp it t (own.map (·.2)) fcc fe) := fComp_mono hi.m mc me
  refine ⟨sAsg_mono ⟨fun kQ kE q => ml.mo (fun _ _ q1 => kQ _ _ q1) kE q⟩, PS.imp (ps_setLc (g := lG (gd X T) t) (te := lE (gd X T) W0 fe) hc hN hy hyl hsw hi.p ok (fun s H C cl fp => (hg s H C cl fp).p) ht.pts (fun s H C cl fp => (he s H C cl fp).p) hs) fun Dn σ H q => ?_⟩
  obtain ⟨ρ, env, h, m, hf⟩ := q
  refine lc_key hi.m mc me hsl ⟨ρ, env, h, m, ml.mo (fun ds h1 q1 => ?_) (QD.x m) hf⟩
  intro ρ1 H1 p vs st1 hp hfr h0 r
  have st2 := st1.adopt h0 hp hfr r
  have e : V.ref p = V.ref (ext ρ1 h1.length p h1.length) := by rw [ext_self]
  rw [e]
  exact q1 _ _ _ st2 ((m.step st2).set j (.ref (by simp)))
/-! #### stores by index -/
def rSet (G : Gd) : TSet := fun o i v H Q => ∃ ρ h od di dv h', VOk G H ρ h ∧ Rp G H ρ h.length od o ∧ Rp G H ρ h.length di i ∧ Rp G H ρ h.length dv v ∧ gSet od di dv h = some h' ∧ ∀ H', Stp G ρ h H ρ h' H' → Q H'
theorem set_all : PSet X (rSet (gd X T)) := by
  intro pins s σ H o i v ov iv u Q I ro ri rv hh
  obtain ⟨ρ, h, od, di, dv, h', ok, r1, r2, r3, e, k⟩ := hh
  unfold gSet at e
  split at e
  · rename_i kk n
    cases el : lstAt h kk with
    | none => simp only [el] at e; cases e
    | some ds =>
      simp only [el] at e
      cases ej : ixN ds.length n with
      | none => simp only [ej] at e; cases e
      | some j =>
        simp only [ej] at e
        cases e
        cases r1
        cases r2
        obtain ⟨xs, e1, t1, hk⟩ := ok.lst el
        exact set_list pins s σ H _ _ v ov iv u Q I ro ri rv ⟨_, xs, _, j, rfl, rfl, e1, by rw [← t1.length]; exact ej, k _ (Stp.write ok hk (RpA.set r3 j t1))⟩
  · cases e
theorem get_all : PGet X (rOf (gd X T) gIxL) := by
  intro pins s σ H o i ov iv Q I ro ri hh
  obtain ⟨ρ, h, dx, dy, ok, r1, r2, hf⟩ := hh
  unfold gIxL at hf
  split at hf
  · cases r1 with
    | ref hk =>
      rename_i kk
      cases r2 with
      | int n =>
        simp only [gIx] at hf
        cases el : lstAt h kk with
        | none => rw [el] at hf; exact hf.elim
        | some ds =>
          rw [el] at hf
          simp only at hf
          cases ea : atI ds n with
          | none => rw [ea] at hf; exact hf.elim
          | some d =>
            rw [ea] at hf
            obtain ⟨xs, e1, t1, _⟩ := ok.lst el
            obtain ⟨z, ez, rz⟩ := atI_rp t1 ea
            cases ro
            obtain ⟨t, rfl⟩ := ri
            obtain ⟨its, r, pl, hz⟩ := I.list (SqL.of e1)
            obtain ⟨j, h1, h2, h3, h4, h5⟩ := atI_get ez
            obtain ⟨w, ew, rw'⟩ := r.get h2
            have hl := r.length
            have hn := line63
            have fin : EP X pins σ Q w s := ⟨z, H, I, rw', fin_val ok rz hf⟩
            by_cases h0 : 0 ≤ n
            · have hj : n.toNat = j := by
                rw [seqIndex_of h0 h5] at h1
                exact Option.some.inj h1
              exact wpAny_getItem_list pl.isList h0 (by omega) (by rw [hj]; simpa using ew) fin
            · have hj : (n + (its.toArray.size : Int)).toNat = j := by
                rw [seqIndex_neg (by omega) h4] at h1
                rw [List.size_toArray, ← hl]
                exact Option.some.inj h1
              exact wpAny_getItem_list_neg pl.isList (by omega) (by rw [List.size_toArray] <;> omega) (by omega) (by rw [hj]; simpa using ew) fin
      | _ => exact hf.elim
  · exact hf.elim
theorem s_setix {tpos : Pos} (ho : SE X T W o fo) (hi : SE X T W i fi) (he : SE X T W e fe) (hs : swapsWithSole [.Subscript o i tpos] e pos.line X.env = pure false := by rfl) (hw : swappedStores [.Subscript o i tpos] e X.env = pure none := by rfl)
    (h1 : (assignEach [.Subscript o i tpos] X.env).map (·.2) = [assign (.Subscript o i tpos) X.env] := by rfl)
    (ha : ∀ v, assign (.Subscript o i tpos) X.env v = (do
      let ov ← holding [v] (eval o X.env)
      let iv ← holding [v, ov] (eval i X.env)
      standAt tpos
      holding [v, ov, iv] (setItem ov iv v)
      release [v, ov, iv] []) := by intro _; rfl) : SS X T W (.Assign [.Subscript o i tpos] e pos) (sSet fo fi fe) :=
  ⟨sSet_mono ho.m hi.m he.m, PS.imp (ps_asg he.p (pg_sub ho.p hi.p (set_all (T := T)) ha) hs hw h1) fun Dn σ H q => by
    obtain ⟨ρ, env, h, m, hf⟩ := q
    refine ⟨ρ, env, h, m, he.m.mo (fun x h1 q1 => ?_) (QD.x m) hf⟩
    intro ρ1 v H1 st1 r1
    refine ⟨ρ1, env, h1, m.step st1, ho.m.mo (fun y h2 q2 => ?_) (fun c d h' z => (QD.x m c d h' z).step st1) q1⟩
    intro ρ2 w H2 st2 r2
    have st12 := st1.trans st2
    refine ⟨ρ2, env, h2, m.step st12, hi.m.mo (fun y3 h3 q3 => ?_) (fun c d h' z => (QD.x m c d h' z).step st12) q2⟩
    intro ρ3 w3 H3 st3 r3
    have st13 := st12.trans st3
    cases eg : gSet y y3 x h3 with
    | none => rw [eg] at q3; exact q3.elim
    | some h4 =>
      rw [eg] at q3
      exact ⟨ρ3, h3, y, y3, x, h4, st3.ok, st3.rp st2.ok r2, r3, (st2.trans st3).rp st1.ok r1, eg, fun H' st4 => q3 ρ3 σ H' (st13.trans st4) (m.step (st13.trans st4))⟩⟩
/-! #### in place -/
theorem ip_all (op : Bop) : PIp X op.op (rOf (gd X T) (gInp op)) := by
  intro pins s σ H x y v u Q I rx ry hh
  obtain ⟨ρ, h, dx, dy, ok, r1, r2, hf⟩ := hh
  cases op with
  | add =>
    simp only [gInp] at hf
    split at hf
    · cases r1
      cases r2
      exact ip_add pins s σ H _ _ v u Q I rx ry ⟨_, _, rfl, rfl, fin_val ok (.int _) hf⟩
    · split at hf
      · rename_i hl
        cases r1
        cases r2
        exact iop_add_str pins s σ H _ _ v u Q I rx ry ⟨_, _, rfl, rfl, by rw [← line_eq]; exact hl, fin_val ok (.str _) hf⟩
      · exact hf.elim
    · exact hf.elim
  | sub =>
    simp only [gInp] at hf
    cases r1 with
    | int i => cases r2 with
      | int j => exact ip_sub pins s σ H _ _ v u Q I rx ry ⟨i, j, rfl, rfl, fin_val ok (.int _) hf⟩
      | _ => exact hf.elim
    | _ => exact hf.elim
  | _ => exact hf.elim
theorem s_aug {j : Nat} (op : Bop) (hN : X.N.Nodup) (hi : X.N[j]? = some x) (hx : Loc X.env.scope x) (he : SE X T W e f) (hf : X.fn x = true ∨ X.env.scope.names.lookup x = some .local := by first | exact .inl rfl | exact .inr rfl | assumption) : SS X T W (.AugAssign (.Name x p) op.op e pos) (sAug j op f) :=
  ⟨sAug_mono he.m, PS.imp (ps_aug hN hi hx he.p (ip_all (T := T) op) hf) fun Dn σ H q => by
    obtain ⟨ρ, env, h, m, hff⟩ := q
    unfold sAug at hff
    split at hff
    · rename_i d e1
      obtain ⟨v, ev, rv⟩ := m.env j d e1
      refine ⟨v, ev, ρ, env, h, m, he.m.mo (fun y h1 q1 => ?_) (QD.x m) hff⟩
      intro ρ1 w H1 st1 r1
      refine ⟨ρ1, h1, d, y, st1.ok, st1.rp m.ok rv, r1, fin_mono (fun z h2 q2 => ?_) q1⟩
      intro ρ2 z' H2 st2 r2
      exact q2 ρ2 _ H2 (st1.trans st2) ((m.step (st1.trans st2)).set j r2)
    · exact hff.elim⟩
theorem s_augS {tpos : Pos} (op : Bop) (ho : SE X T W o fo) (hi : SE X T W i fi) (he : SE X T W e fe) (ha : ∀ ov iv new, augStore i ov iv new = (do holding [new, ov, iv] (setItem ov iv new); release [new, ov, iv] []; pure .next) := by intros; rfl) :
    SS X T W (.AugAssign (.Subscript o i tpos) op.op e pos) (sAugS fo fi op fe) :=
  ⟨sAugS_mono ho.m hi.m he.m, PS.imp (ps_augS ho.p hi.p (get_all (T := T)) he.p (ip_all (T := T) op) (set_all (T := T)) ha) fun Dn σ H q => by
    obtain ⟨ρ, env, h, m, hf⟩ := q
    refine ⟨ρ, env, h, m, ho.m.mo (fun x h1 q1 => ?_) (QD.x m) hf⟩
    intro ρ1 v H1 st1 r1
    refine ⟨ρ1, env, h1, m.step st1, hi.m.mo (fun y h2 q2 => ?_) (fun c d h' z => (QD.x m c d h' z).step st1) q1⟩
    intro ρ2 w H2 st2 r2
    have st12 := st1.trans st2
    refine ⟨ρ2, h2, x, y, st2.ok, st2.rp st1.ok r1, r2, fin_mono (fun old h3 q3 => ?_) q2⟩
    intro ρ3 w3 H3 st3 r3
    have st13 := st12.trans st3
    refine ⟨ρ3, env, h3, m.step st13, he.m.mo (fun y4 h4 q4 => ?_) (fun c d h' z => (QD.x m c d h' z).step st13) q3⟩
    intro ρ4 w4 H4 st4 r4
    have st14 := st13.trans st4
    refine ⟨ρ4, h4, old, y4, st4.ok, st4.rp st3.ok r3, r4, fin_mono (fun z h5 q5 => ?_) q4⟩
    intro ρ5 w5 H5 st5 r5
    have st15 := st14.trans st5
    cases eg : gSet x y z h5 with
    | none => rw [eg] at q5; exact q5.elim
    | some h6 =>
      rw [eg] at q5
      exact ⟨ρ5, h5, x, y, z, h6, st5.ok, ((st2.trans st3).trans (st4.trans st5)).rp st1.ok r1, (st3.trans (st4.trans st5)).rp st2.ok r2, r5, eg, fun H' st6 => q5 ρ5 σ H' (st15.trans st6) (m.step (st15.trans st6))⟩⟩
/-! #### loops -/
theorem s_while (hp : PassesOwn (model X.prog X.w) X.A X.env X.xe) (hc : ST X T W c fc) (hb : SSs X T W body s1) : SS X T W (.While c body [] pos) (sWhile fc s1) :=
  ⟨sWhile_mono hc.m hb.m, PS.imp (ps_while hp hc.p hb.p) fun Dn σ H q => by
    obtain ⟨ρ, env, h, m, hf⟩ := q
    refine ⟨fun n σ1 H1 => ∃ ρ1 env1 h1, Stp (gd X T) ρ h H ρ1 h1 H1 ∧ M (gd X T) ρ1 env1 h1 σ1 H1 ∧ whL fc s1 n env1 h1 (QD (gd X T) ρ h H W Dn), ⟨fuel, ρ, env, h, Stp.refl m.ok, m, hf⟩, ?_⟩
    rintro n σ1 H1 ⟨ρ1, env1, h1, st1, m1, q1⟩
    cases n with
    | zero => exact q1.elim
    | succ n =>
      refine ⟨ρ1, env1, h1, m1, hc.m.mo (fun x h2 q2 => ?_) (fun c d h' z => QD.x (D := Dn) m1 c d h' ((QD.step st1).ex c d env1 h' z)) q1⟩
      cases x with
      | bl k =>
        intro ρ2 H2 st2
        cases k with
        | true =>
          rw [if_pos rfl]
          refine ⟨fun σ3 H3 => ∃ ρ1 env1 h1, Stp (gd X T) ρ h H ρ1 h1 H3 ∧ M (gd X T) ρ1 env1 h1 σ3 H3 ∧ whL fc s1 n env1 h1 (QD (gd X T) ρ h H W Dn), fun σ3 H3 z => ⟨n, Nat.lt_succ_self _, z⟩, ?_⟩
          have st12 := st1.trans st2
          refine ⟨ρ2, env1, h2, m1.step st2, hb.m.mo (b := QD (gd X T) ρ2 h2 H2 W { Dn with nx := fun σ3 H3 => ∃ ρ1 env1 h1, Stp (gd X T) ρ h H ρ1 h1 H3 ∧ M (gd X T) ρ1 env1 h1 σ3 H3 ∧ whL fc s1 n env1 h1 (QD (gd X T) ρ h H W Dn), ct := fun σ3 H3 => ∃ ρ1 env1 h1, Stp (gd X T) ρ h H ρ1 h1 H3 ∧ M (gd X T) ρ1 env1 h1 σ3 H3 ∧ whL fc s1 n env1 h1 (QD (gd X T) ρ h H W Dn), bk := Dn.nx }) ⟨fun e h' z => ?_, fun d h' z => QV.step st12 z, fun e h' z => QN.step st12 z, fun e h' z => ?_, fun c d e h' z => QXs.step st12 z⟩ q2⟩
          · intro ρ' σ' H' st' m'
            exact ⟨ρ', e, h', st12.trans st', m', z⟩
          · intro ρ' σ' H' st' m'
            exact ⟨ρ', e, h', st12.trans st', m', z⟩
        | false =>
          rw [if_neg Bool.false_ne_true]
          exact q2 ρ2 σ1 H2 (st1.trans st2) (m1.step st2)
      | _ => exact q2⟩
theorem s_for (hp : PassesOwn (model X.prog X.w) X.A X.env X.xe) (hcalm : X.calm = true) (hi : SI X T W tg iter it) (hg : SG X T tg t) (hb : SSs X T W body s1) (hs : ∀ x, foldedSetIterable iter X.env x = pure x := by intro _; rfl) : SS X T W (.For tg iter body [] pos) (sFor it t s1) :=
  ⟨sFor_mono hi.m hb.m, PS.imp (ps_for hp hcalm hi.p hg.p hb.p hs) fun Dn σ H q => by
    obtain ⟨ρ, env, h, m, hf⟩ := q
    refine ⟨ρ, env, h, m, hi.m.mo (fun itf h1 q1 => ?_) (QD.x m) hf⟩
    intro ρ1 J H1 st1 ir
    refine ⟨fun i n σ2 H2 => ∃ ρ2 env2 h2, Stp (gd X T) ρ h H ρ2 h2 H2 ∧ Stp (gd X T) ρ1 h1 H1 ρ2 h2 H2 ∧ M (gd X T) ρ2 env2 h2 σ2 H2 ∧ foL itf t s1 n i env2 h2 (QD (gd X T) ρ h H W Dn), ⟨fuel, ρ1, env, h1, st1, Stp.refl st1.ok, m.step st1, q1⟩, ?_⟩
    rintro i n σ2 H2 ⟨ρ2, env2, h2, st2, st12, m2, q2⟩
    cases n with
    | zero => exact q2.elim
    | succ n =>
      unfold foL at q2
      cases e : itf i h2 with
      | none => simp only [e] at q2
      | some o =>
        cases o with
        | none =>
          simp only [e] at q2
          exact .inl ⟨ir.stop i ρ2 h2 H2 st12 e, q2 ρ2 σ2 H2 st2 m2⟩
        | some d =>
          simp only [e] at q2
          refine .inr ⟨ir.go i ρ2 h2 H2 d st12 e, (fun σ3 H3 => ∃ ρ2 env2 h2, Stp (gd X T) ρ h H ρ2 h2 H3 ∧ Stp (gd X T) ρ1 h1 H1 ρ2 h2 H3 ∧ M (gd X T) ρ2 env2 h2 σ3 H3 ∧ foL itf t s1 n (i + 1) env2 h2 (QD (gd X T) ρ h H W Dn)), fun σ' H' z => ⟨n, Nat.lt_succ_self _, z⟩, fun x H' hy => ?_⟩
          obtain ⟨ρ3, st3, r3⟩ := ir.yld i ρ2 h2 H2 d x H' st12 e hy
          cases ea : asgT t d h2 env2 with
          | none => simp only [ea] at q2
          | some env3 =>
            simp only [ea] at q2
            refine ⟨ρ3, env2, h2, d, env3, m2.step st3, r3, ea, fun σ3 m3 _ => ?_⟩
            have st23 := st2.trans st3
            refine ⟨ρ3, env3, h2, m3, hb.m.mo (b := QD (gd X T) ρ3 h2 H' W { Dn with nx := fun σ3 H3 => ∃ ρ2 env2 h2, Stp (gd X T) ρ h H ρ2 h2 H3 ∧ Stp (gd X T) ρ1 h1 H1 ρ2 h2 H3 ∧ M (gd X T) ρ2 env2 h2 σ3 H3 ∧ foL itf t s1 n (i + 1) env2 h2 (QD (gd X T) ρ h H W Dn), ct := fun σ3 H3 => ∃ ρ2 env2 h2, Stp (gd X T) ρ h H ρ2 h2 H3 ∧ Stp (gd X T) ρ1 h1 H1 ρ2 h2 H3 ∧ M (gd X T) ρ2 env2 h2 σ3 H3 ∧ foL itf t s1 n (i + 1) env2 h2 (QD (gd X T) ρ h H W Dn), bk := Dn.nx }) ⟨fun e h' z => ?_, fun d h' z => QV.step st23 z, fun e h' z => QN.step st23 z, fun e h' z => ?_, fun c d e h' z => QXs.step st23 z⟩ q2⟩
            · intro ρ' σ' H' st' m'
              exact ⟨ρ', e, h', st23.trans st', (st12.trans st3).trans st', m', z⟩
            · intro ρ' σ' H' st' m'
              exact ⟨ρ', e, h', st23.trans st', (st12.trans st3).trans st', m', z⟩⟩
end
end Ev

set_option Elab.async false
set_option linter.all false
set_option maxRecDepth 100000
/-! Ev6a: an own exception (below ValueError) whose __init__ says super().__init__(value); self.value = value. -/
namespace Ev
open PySem PySem.Spec PyProof.Rows L2 NdefX

/-- what the written part says of the __init__ at f, of the class at D -/
structure IniK (P : Program) (K : PySem.W.Frag) (mg : Str → Option Value) (D f : Addr) (qual : Str) (params : Arguments) (body : List Stmt) (scope : Scope) (oc : Value) (od : Option Addr) (osl : Array (Option Value)) (kV doc pm ct : Value) (an : Option Addr) (cc cD : Addr) : Prop where
  lk : K.lookup f = some ⟨oc, od, .func (PySem.W.fnX "__init__" qual params body scope [("__class__", cc)] .none kV doc pm an (.ref cD) ct), osl⟩
  code : PySem.W.codeIn K (.ref cD) qual = true
  cell : ∃ c1 c2 c3, K.lookup cc = some ⟨c1, c2, .cell (some (.ref D)), c3⟩
  cls : ∃ cd, PySem.W.clsIn K D = some cd
  file : ∃ c1 c2 vs c3 fl tf, K.lookup cD = some ⟨c1, c2, .fields vs, c3⟩ ∧ vs[2]? = some (.str fl tf) ∧ ((P.main.file : Str) == fl) = true
  sup : mg "super" = none
  top : (P.main.scope.names.lookup ("super" : Str)).isSome = false
  stat : PySem.W.nsIn K cStatics "thirdparty.any" = some none
/-- of a class below D -/
structure IniC (K : PySem.W.Frag) (D C : Addr) : Prop where
  o : OexC K C
  sup : PySem.W.ks_superIn K C D "__init__" = some (some (.builtin "ValueError.__init__"))
  ve : PySem.W.subIn K (.ref C) (.type "ValueError") = some true
  mro : PySem.W.mroIn K C (.ref D) = some true
  no : PySem.W.findIn K (.ref C) "value" = some none
def spIni (K : PySem.W.Frag) (D : Addr) : Sp := fun vs H Q _ => ∃ a C v, vs = [.ref a, v] ∧ IniC K D C ∧ H a = some (exo a C none) ∧ ∀ dx, H dx = none → dx ≠ a → Q .non (upd (upd H dx (exd dx [("value", v)])) a (exo a C (some dx)))
section
variable {prog : Program} {w : World} {A : Around} {E : Value → Shared → Prop} {h : Heap} {g : Array GenState} {d : Drawn} {t : Nat} {os : OsState}
open PySem.W in
/-- the bound ValueError.__init__ is called -/
theorem call_mwV {X : Cx} {pins : List (Addr × Obj)} {σ : L2.St} {H : Hp} {s : Shared} {u a C : Addr} {us : List Value} {Q : Value → Shared → Prop} {E : Value → Shared → Prop} (T : OexC X.K C) (I : Inv X pins σ H s) (e : H a = some (exo a C none)) (hu : s.heap.get? u = some (kxs_mw "ValueError.__init__" a)) (hz : us.length ≤ sizeLine)
    (hq : ∀ s', Inv X pins σ H s' → Q .none s') : wpAny (model X.prog X.w) X.A (call (.ref u) us) Q E s := by
  obtain ⟨nm, q, N, bs, bm, sn, sub, ab, col, dd, k0, k1, k2, k3, k5, hC, hbm⟩ := T.cls
  obtain ⟨t1, ho⟩ := exo_at I.hok e
  obtain ⟨hp, g, d, tk, os⟩ := s
  refine wpAny_call (codeAny_of_tree ?_)
  show wpAny _ X.A.in1 (callAny (.ref u) ⟨us, []⟩) _ _ _
  simp only [callAny]
  refine wpAny_bind (wpAny_load hu ?_)
  simp only [kxs_mw, show (Value.type "method-wrapper" == Value.type "method" || Value.type "method-wrapper" == Value.type "builtin_function_or_method" || Value.type "method-wrapper" == Value.type "method-wrapper") = true by decide, if_true]
  refine KFB.if_so (by decide) ?_
  refine wpAny_bind (check_bound_init F.excBase_ValueError.toExcCallFacts (I.kIn _ _ hC) ho rfl ?_)
  refine wpAny_bind (wpAny_pure (wpAny_pure ?_))
  refine ⟨plainId_quiet F.excBase_ValueError.init.plain _, codeAny_builtin F.excBase_ValueError.initEntry ?_⟩
  refine exc_init_tree (cls := .ref C) (t0 := t1) (dv := none) (c2 := .none) (c3 := .none) (b4 := .bool false) ho hz fun h' k hx hy => ?_
  have J := I.write (t' := tk) (x := a) (e := a) (o := exo a C none) (by rw [e]; exact True.intro) (.inl rfl) k ⟨_, hx⟩ (exo_ok hx)
  have eu : upd H a (exo a C none) = H := by
    funext b
    by_cases hb : b = a
    · rw [hb, upd_same, e]
    · rw [upd_ne hb]
  rw [eu] at J
  exact hq _ J
end
section
variable {P : Program} {w : World} {K : PySem.W.Frag} {mg : Str → Option Value} {base : Heap} {D f : Addr} {qual : Str} {params : Arguments} {scope : Scope} {oc : Value} {od : Option Addr} {osl : Array (Option Value)} {kV doc pm ct : Value} {an : Option Addr} {cc cD : Addr} {k : Nat}
  {p0 p1 p2 p3 p4 p5 p6 p7 p8 p9 : Pos}
/-- the body -/
abbrev iniBody (p0 p1 p2 p3 p4 p5 p6 p7 p8 p9 : Pos) : List Stmt := [.Expr (.Call (.Attribute (.Call (.Name "super" p0) [] [] p1) "__init__" p2) [.Name "value" p3] [] p4) p5, .Assign [.Attribute (.Name "self" p6) "value" p7] (.Name "value" p8) p9]
open PySem.W in
theorem ini_ok {body : List Stmt} (eb : body = iniBody p0 p1 p2 p3 p4 p5 p6 p7 p8 p9) (F : IniK P K mg D f qual params body scope oc od osl kV doc pm ct an cc cD)
    (S : NScope ["self", "value", "__class__"] ["self", "value"] ["__class__"] scope) (hsup : scope.names.lookup ("super" : Str) = some .globalImplicit) (har : ∃ ar r, params.posonlyargs ++ params.args = ar :: r ∧ ar.arg = ("self" : Str))
    (hev : ∀ env, ∃ pl, eval (.Call (.Attribute (.Call (.Name "super" p0) [] [] p1) "__init__" p2) [.Name "value" p3] [] p4) env = (do
      let ov ← attributeBase (.Call (.Name "super" p0) [] [] p1) "__init__" env (eval (.Call (.Name "super" p0) [] [] p1) env)
      standAt p2.atName
      let (f, first) ← holding [ov] (getMethod ov "__init__" pl)
      callWith p4 f first (backTo p4 (starEach [.Name "value" p3] env)) [])) (hsw1 : ∀ env, swapsWith (.Call (.Attribute (.Call (.Name "super" p0) [] [] p1) "__init__" p2) [.Name "value" p3] [] p4) none p5.line env = pure false) :
    FnOk P w K mg base (L2.CX P w) (k + 1) f (fnX "__init__" qual params body scope [("__class__", cc)] .none kV doc pm an (.ref cD) ct) ["self", "value"] (spIni K D) := by
  subst eb
  refine ⟨fun vs H Q E ⟨a, C, v, e, _⟩ => by rw [e]; rfl, fun A outer s H args us vs Q E hr e0 hb r hsp => ?_⟩
  obtain ⟨a, C, v, rfl, IC, ea, hq⟩ := hsp
  have KX : K.In s.heap := e0.mod.kin.keeps fun b o e => (e0.bs b o e).1
  have lim : s.heap.NoLimit := e0.mod.nolimit.keeps fun b o e => (e0.bs b o e).1
  obtain ⟨c1, c2, c3, hcell⟩ := F.cell
  obtain ⟨cdD, hcls⟩ := F.cls
  obtain ⟨f1, f2, fvs, f3, fl, tf, hcode, hfl, hfile⟩ := F.file
  obtain ⟨ar, arr, harq, hself⟩ := har
  refine ks_codeAny_call_defAt hr.depth (KX _ _ F.lk) rfl lim (codeRec_of KX F.code) rfl hb S.nocell (fun ⟨n, _⟩ hy => S.par n (List.of_mem_zip hy).1) (fun h₀ hns kp => ?_) S.co S.gen S.kind
  have hl : us.length = 2 := by rw [← r.length]; rfl
  let NFf : NF := ⟨"__init__", qual, params, iniBody p0 p1 p2 p3 p4 p5 p6 p7 p8 p9, scope, [("__class__", cc)], cD⟩
  have CA : CellsAt NFf.cl ["__class__"] [some (.ref D)] s.heap H := by
    have look : ∀ y c, NFf.cl.lookup y = some c → y = ("__class__" : Str) ∧ c = cc := fun y c e => by
      have e : ([("__class__", cc)] : List (Str × Addr)).lookup y = some c := e
      rw [List.lookup_cons] at e
      cases q : (y == ("__class__" : Str)) with
      | true => rw [q] at e; exact ⟨beq_iff_eq.mp q, (Option.some.inj e).symm⟩
      | false => rw [q] at e; cases e
    have hcc : s.heap.get? cc = some ⟨c1, c2, .cell (some (.ref D)), c3⟩ := KX _ _ hcell
    refine ⟨rfl, fun y c e => ?_, fun x y c e1 e2 => ?_, fun i y e => ?_⟩
    · obtain ⟨_, rfl⟩ := look y c e
      exact ⟨(e0.bs _ _ (e0.mod.kin _ _ hcell)).2, _, ⟨_, hcc, rfl⟩⟩
    · rw [(look x c e1).1, (look y c e2).1]
    · cases i with
      | zero =>
        cases e
        refine ⟨cc, by rfl, fun v hv => ?_⟩
        have hv : some (some (V.ref D)) = some (some v) := hv
        cases hv
        exact ⟨.ref D, rfl, ⟨_, hcc, rfl⟩⟩
      | succ i => simp at e
  have I : Inv (ncx (L2.CX P w) P w K mg base ["self", "value", "__class__"] NFf f A outer s H E) [] (startF ["self", "value", "__class__"] [.ref a, v] [some (.ref D)]) H { s with heap := h₀, toks := s.toks + ((["self", "value"] : List Str).zip us).length } :=
    inv_startN (F := NFf) S hr.hd e0 rfl r CA hns kp
  generalize hs1 : ({ s with heap := h₀, toks := s.toks + ((["self", "value"] : List Str).zip us).length } : Shared) = s1 at I ⊢
  have fin : ∀ {σ' : L2.St} {H' : Hp} {v : V} {u : Value} {s' : Shared}, Inv (ncx (L2.CX P w) P w K mg base ["self", "value", "__class__"] NFf f A outer s H E) [] σ' H' s' → L2.RelV v u → Q v H' → CE outer P w H s Q u s' :=
    fun {σ' H' v u s'} J rv q => ⟨v, H', J.os, J.bare, J.base, J.hok, rv, q⟩
  show _root_.PySem.wpAt (model P w) (A.deeper (envF NFf f s.heap.objs.size)) (.func NFf.body (envF NFf f s.heap.objs.size)) (execs (iniBody p0 p1 p2 p3 p4 p5 p6 p7 p8 p9) (envF NFf f s.heap.objs.size)) _ _ s1
  -- the second statement
  have two : ∀ s2, Inv (ncx (L2.CX P w) P w K mg base ["self", "value", "__class__"] NFf f A outer s H E) [] (startF ["self", "value", "__class__"] [.ref a, v] [some (.ref D)]) H s2 → wpAny (model P w) (A.deeper (envF NFf f s.heap.objs.size)) (execs [.Assign [.Attribute (.Name "self" p6) "value" p7] (.Name "value" p8) p9] (envF NFf f s.heap.objs.size))
      (fun fl s' => CR (L2.CX P w) outer P w H s Q E (.ok (.ret (match fl with | .ret v => v | _ => .none))) s') (fun e s' => wpAny (model P w) (A.deeper (envF NFf f s.heap.objs.size)) (leaving (envF NFf f s.heap.objs.size) e) (fun _ s'' => CR (L2.CX P w) outer P w H s Q E (.error e) s'') (fun e' s'' => CR (L2.CX P w) outer P w H s Q E (.error e') s'') s') s2 := fun s2 I2 => by
    have hp : PSs (ncx (L2.CX P w) P w K mg base ["self", "value", "__class__"] NFf f A outer s H E) [.Assign [.Attribute (.Name "self" p6) "value" p7] (.Name "value" p8) p9] (tOst K "value" (tVar 0) (tVar 1)) :=
      pss_one (ps_ost (pe_var (i := 0) rfl (.inl (S.par "self" (by simp))) (by decide) (by decide)) (pe_var (i := 1) rfl (.inl (S.par "value" (by simp))) (by decide) (by decide)))
    refine wpAny_mono (hp.run [] s2 _ H { nx := fun _ H' => Q .non H', rt := Q } I2 ⟨v, rfl, .ref a, rfl, a, C, rfl, IC.o, IC.no, .inl ⟨ea, fun dx h1 h2 => hq dx h1 h2⟩⟩) (fun fl s' hs => ?_) fun e s' hs => hs
    cases fl with
    | next =>
      obtain ⟨σ', H', J, q⟩ := hs
      exact fin (v := V.non) (u := Value.none) J rfl q
    | ret u =>
      obtain ⟨v, σ', H', J, rv, q⟩ := hs
      exact fin J rv q
    | brk =>
      obtain ⟨_, _, _, q⟩ := hs
      exact False.elim q
    | cont =>
      obtain ⟨_, _, _, q⟩ := hs
      exact False.elim q
  have hHa : s1.heap.get? f = some ⟨oc, od, .func (fnX "__init__" qual params (iniBody p0 p1 p2 p3 p4 p5 p6 p7 p8 p9) scope [("__class__", cc)] .none kV doc pm an (.ref cD) ct), osl⟩ := I.kIn _ _ F.lk
  obtain ⟨oD, hD1, hD2⟩ : ∃ oD, s1.heap.get? D = some oD ∧ oD.data = .cls cdD := by
    unfold clsIn at hcls
    split at hcls
    · rename_i c d cd' sl ho
      cases hcls
      exact ⟨_, I.kIn _ _ ho, rfl⟩
    · cases hcls
  obtain ⟨mL, hnL, lookL⟩ := I.loc
  have hselfV : mL "self" = some (.ref a) := by
    obtain ⟨u, ru, lu⟩ := lookL 0 "self" (.ref a) rfl rfl (.inl (S.par "self" (by simp)))
    cases ru
    rcases lu with ⟨_, lu⟩ | ⟨lu, _⟩
    · exact lu
    · have := S.par "self" (by simp)
      rcases lu with lu | lu <;> (have lu : scope.names.lookup ("self" : Str) = _ := lu; rw [this] at lu; cases lu)
  obtain ⟨t1, hobj⟩ := exo_at I.hok ea
  obtain ⟨mb, hmb1, hmb2⟩ := I.mod.blt
  have hint : interactive (envF NFf f s.heap.objs.size) = false := by
    have e : (envF NFf f s.heap.objs.size).scope.kind = .function := S.kind
    unfold interactive
    rw [e]
    rfl
  obtain ⟨pl, hevp⟩ := hev (envF NFf f s.heap.objs.size)
  refine ks_wpAt_execs_cons (ks_wpAt_Expr_any (ks_wpAt_MethodCall (pl := pl) (ks_wpAt_super_base (env := envF NFf f s.heap.objs.size) hsup (S.frk "__class__" (by simp)) (by decide) rfl hHa rfl (by show (params.posonlyargs ++ params.args).head? = some ar; rw [harq]; rfl) rfl (I.kIn _ _ hcode) rfl hfl hfile F.top ?_) hevp) hint (hsw1 _))
  refine ks_loadName_global (env := envF NFf f s.heap.objs.size) S.kind hsup (Calls.loadGlobal_builtin (env := envF NFf f s.heap.objs.size) (I.mod.glob.keeps I.bk) F.sup (hmb1.keeps I.bk) ((hmb2 "super" (by decide)).trans (by decide +kernel)) ⟨rfl, ?_⟩)
  refine wpAny_loadName_free S.kind (S.frk "__class__" (by simp)) (c := cc) rfl ⟨_, I.kIn _ _ hcell, rfl⟩ ?_
  rw [hself]
  refine wpAny_loadName_local S.kind (S.par "self" (by simp)) hnL hselfV ?_
  refine ks_wpAny_isType_cls hD1 hD2 ⟨rfl, ?_⟩
  obtain ⟨hp, g, dr, tk, os⟩ := s1
  refine ks_wpAny_call_super hD1 hD2 hobj rfl (fun c e => by cases e) (looks_mroIn I.kIn IC.mro) (fun h' e k => ?_)
  have I2 : Inv (ncx (L2.CX P w) P w K mg base ["self", "value", "__class__"] NFf f A outer s H E) [] (startF ["self", "value", "__class__"] [.ref a, v] [some (.ref D)]) H ⟨h', g, dr, tk, os⟩ := I.kept (t' := tk) k
  have I2 := I2
  have hobj2 := k _ _ hobj
  have IA : InstAt h' a { cls := .ref C, dict := none, data := .fields #[.ref t1, .none, .none, .none, .bool false, .none] } C none := ⟨hobj2, rfl, rfl, trivial⟩
  have hI : Looks (model P w) h' (isInstance (.ref a) (.type "ValueError")) true := IA.type.andThen (looks_subIn I2.kIn IC.ve)
  have hsupA := IC.sup
  unfold ks_superIn at hsupA
  cases hcC : clsIn K C with
  | none => rw [hcC] at hsupA; cases hsupA
  | some cdC =>
    rw [hcC] at hsupA
    refine kxs_getMethod kxs_ValueError e (looks_opaque I2.kIn F.stat) (l₀ := cdC.mro) (fun A Q E s k q => wpAny_bind ((looks_clsIn I2.kIn hcC) A _ E s k (wpAny_pure q))) rfl I2.kIn hsupA hI (ks_ne I2.kIn IA hcC) (by decide) ?_
    have I3 : Inv (ncx (L2.CX P w) P w K mg base ["self", "value", "__class__"] NFf f A outer s H E) [] (startF ["self", "value", "__class__"] [.ref a, v] [some (.ref D)]) H ⟨h'.push (kxs_mw "ValueError.__init__" a), g, dr, tk + 1, os⟩ := I2.kept (t' := tk + 1) fun b o e => Heap.get?_push_of_some _ e
    have I4 : Inv (ncx (L2.CX P w) P w K mg base ["self", "value", "__class__"] NFf f A outer s H E) [(h'.objs.size, kxs_mw "ValueError.__init__" a)] (startF ["self", "value", "__class__"] [.ref a, v] [some (.ref D)]) H ⟨h'.push (kxs_mw "ValueError.__init__" a), g, dr, tk + 1, os⟩ := I3.pins_of fun p hp => by
      have e : p = (h'.objs.size, kxs_mw "ValueError.__init__" a) := by simpa using hp
      subst e
      exact ⟨Heap.get?_push_size _ rfl, I2.hok.fresh (Nat.le_refl _), Nat.ne_of_gt I2.lt, I2.nofs (Nat.le_refl _), fun v z => by cases z⟩
    have ha : PA (ncx (L2.CX P w) P w K mg base ["self", "value", "__class__"] NFf f A outer s H E) [.Name "value" p3] (tCons (tVar 1) tNil) := pa_cons (pe_var (i := 1) rfl (.inl (S.par "value" (by simp))) (by decide) (by decide)) pa_nil
    refine kxs_callWith (i := "ValueError.__init__") (x := a) rfl (PySem.Calls.evalArgs_plain (thn (ha.run p4 _ _ _ H (fun vs H1 => vs = [v] ∧ H1 = H) I4 ⟨v, rfl, rfl, rfl⟩) fun us2 s5 ⟨vs2, H5, I5, r5, ev5, eH5⟩ => ?_))
    subst ev5 eH5
    obtain ⟨hu5, _⟩ := I5.pin (h'.objs.size, kxs_mw "ValueError.__init__" a) (by simp)
    have I6 := I5.pins_of (pins' := []) (fun p hp => absurd hp (by simp))
    refine ⟨hu5, call_mwV IC.o I6 ea hu5 (by show us2.length ≤ sizeLine; rw [← r5.length]; show 1 ≤ sizeLine; rw [sizeLine_eq]; omega) fun s7 I7 => ?_⟩
    exact wpAt_of_wpAny (two s7 I7)
end
end Ev

set_option Elab.async false
set_option linter.all false
set_option maxRecDepth 100000
/-! Ev6b: raise, try, e.value. -/
namespace Ev
open PySem PySem.Spec PyProof.Rows L2 NdefX

/-- the exception class x: made by one value -/
structure Xc (P : Program) (w : World) (K : PySem.W.Frag) (mg : Str → Option Value) (base : Heap) (x : Str) : Prop where
  ex : ∃ C D fI fd, mg x = some (.ref C) ∧ IniC K D C ∧ PySem.W.findIn K (.ref C) "__init__" = some (some (.ref fI)) ∧ PySem.W.typeIn K (.ref fI) = some (.type "function") ∧ FnOk P w K mg base (L2.CX P w) 1 fI fd ["self", "value"] (spIni K D) ∧ Binds K fd ["self", "value"] []
def sRaise (c : Str) (f : FE) : FS := fun env h D => f env h (fun d h1 => D.ex c d env h1) (exE D env)
theorem sRaise_mono {c : Str} {f : FE} (m : MonE f) : MonS (sRaise c f) := ⟨fun k q => m.mo (fun _ _ z => k.ex _ _ _ _ z) (exE_mono k) q⟩
section
variable {X : Cx} {T : List NTab} {W : WX} {st : Stmt} {rest body : List Stmt} {e c a b o i tg iter : Expr} {es : List Expr} {f fc fo fi fe fa : FE} {ft : FA} {pos pos' p : Pos} {x y : Str} {k : Nat}
theorem s_raise (Ec : Xc X.prog X.w X.K X.mg X.base x) (hcalm : X.calm = true) (tk : Takes X W) (hr : Room k X.A) (hk : 2 ≤ k) (hg : Gl X x) (ha : SE X T W a fa)
    (hdb : (x == ("__debug__" : Str)) = false := by decide) (he : starEach [a] X.env = (false, eval a X.env) :: starEach [] X.env := by rfl) (hpl : (backTo pos (starEach [] X.env)).any (·.1) = false := by rfl) :
    SS X T W (.Raise (some (.Call (.Name x p) [a] [] pos)) none pos') (sRaise x fa) := by
  refine ⟨sRaise_mono ha.m, ?_⟩
  obtain ⟨C, D, fI, fd, hm, IC, iC, tI, F1, hb⟩ := Ec.ex
  refine PS.imp (ps_raise hcalm tk (pmk_oex IC.o iC tI F1 (hr.mono hk) hb .nil passL hg hm (pa_cons ha.p pa_nil he) hdb he hpl)) fun Dn σ H q => ?_
  obtain ⟨ρ, env, h, m, hf⟩ := q
  refine ⟨ρ, env, h, m, ha.m.mo (fun d h1 q1 => ?_) (QD.x m) hf⟩
  intro ρ1 v H1 s1 r1
  refine ⟨by show 1 ≤ 1000; decide, fun b hb' => ⟨b, C, v, by rw [List.append_nil], IC, upd_same, fun dx hdx hne => ⟨rfl, dx, [("value", v)], upd_same, by rw [upd_ne hne, upd_same], by rw [upd_ne hne] at hdx; exact hdx, ?_⟩⟩⟩
  rw [upd_ne hne] at hdx
  have e : upd (del (upd (upd (upd H1 b (exo b C none)) dx (exd dx [("value", v)])) b (exo b C (some dx))) b) dx (.xd [("value", v)]) = upd H1 dx (.xd [("value", v)]) := by
    funext z
    by_cases h1 : z = dx
    · rw [h1, upd_same, upd_same]
    · rw [upd_ne h1, upd_ne h1]
      by_cases h2 : z = b
      · rw [h2, del_same, hb']
      · rw [del_ne h2, upd_ne h2, upd_ne h1, upd_ne h2]
  rw [e]
  have s2 := Stp.new (o := .xd [("value", v)]) s1.ok hdx
  have s12 := s1.trans s2
  exact q1 ρ1 σ _ C dx v s12 (m.step s12) hm upd_same (s2.rp s1.ok r1)
end
/-! ### try -/
section
variable {X : Cx} {pins : List (Addr × Obj)} {σ : L2.St} {H : Hp} {s : Shared}
theorem inv_frz {a : Addr} {oe : Obj} {vs : Array Value} (I : Inv X pins σ H s) (h0 : X.s_0.heap.get? a = none) (ha : s.heap.get? a = some oe) (hd : oe.data = .fields vs) (na : H a = none) (nL : a ≠ X.env.locals) (np : ∀ p ∈ X.pn ++ pins, p.1 ≠ a) :
    Inv X pins σ (upd H a (.frz oe (.own a))) s := by
  refine ⟨I.ok, I.os, I.bare, ⟨I.base.keep, I.base.slot, fun b o e n hx => ?_, I.base.there, fun b xs e => ?_, fun b o u e => ?_, fun b ps e => ?_⟩, I.loc, I.cell, ?_, fun y c e => ?_, fun p hp => ?_, fun b u e => ?_, I.len⟩
  · rw [upd_ne (fun z => by rw [z, h0] at e; cases e)]
    exact I.base.free b o e n hx
  · have := I.base.tups b xs e
    rw [upd_ne (ne_of_none this na)]; exact this
  · have := I.base.frzs b o u e
    rw [upd_ne (ne_of_none this na)]; exact this
  · obtain ⟨more, q⟩ := I.base.tbls b ps e
    exact ⟨more, by rw [upd_ne (ne_of_none q na)]; exact q⟩
  · rw [upd_ne nL.symm]; exact I.free
  · have : c ≠ a := fun z => by
      obtain ⟨v, o, ho, hd'⟩ := I.cell y c e
      rw [z, ha] at ho
      cases ho
      rw [hd] at hd'
      cases hd'
    rw [upd_ne this]
    exact I.freeC y c e
  · obtain ⟨p1, p2, p3⟩ := I.pin p hp
    exact ⟨p1, by rw [upd_ne (np p hp)]; exact p2, p3⟩
  · by_cases hb : b = a
    · subst hb
      rw [upd_same] at e
      cases e
      exact ⟨ha, ⟨oe, ha⟩⟩
    · rw [upd_ne hb] at e
      exact (I.hok b u e).stay (fun c v _ q => q) (fun c q => by rw [upd_ne (ne_of_none q na)]; exact q) fun c xs q => by rw [upd_ne (ne_of_none q na)]; exact q
theorem inv_suite {a : Addr} (I : Inv X pins σ H s) : Inv (X.suite a (X.pn ++ pins)) [] σ H s :=
  ⟨I.ok.suite _ _, I.os, I.bare, I.base, I.loc, I.cell, I.free, I.freeC, fun p hp => I.pin p (by rw [List.append_nil] at hp; exact hp), I.hok, I.len⟩
theorem inv_unsuite {a : Addr} {pn' : List (Addr × Obj)} (I : Inv (X.suite a (X.pn ++ pins)) pn' σ H s) (ok : X.Ok) : Inv X pins σ H s :=
  ⟨ok, I.os, I.bare, I.base, I.loc, I.cell, I.free, I.freeC, fun p hp => I.pin p (List.mem_append_left _ hp), I.hok, I.len⟩
end
def wFz (K : PySem.W.Frag) (c : Value) (i : Nat) (ts : TS) (Wout : WX) (D : Ends) : WX := fun cls d σ H =>
  ∃ b, PySem.W.exmOne K cls c = some b ∧ (b = true → ∀ a oe, H a = none → oe.cls = cls → oe.dict = d → (∃ vs, oe.data = .fields vs) →
    ts { nx := fun σ' H' => D.nx (σ'.set i none) H', rt := D.rt, bk := fun σ' H' => D.bk (σ'.set i none) H', ct := fun σ' H' => D.ct (σ'.set i none) H' } (σ.set i (some (.ref a))) (upd H a (.frz oe (.own a)))) ∧
    (b = false → Wout cls d σ H)
section
variable {X : Cx} {x n : Str} {c : Value} {i : Nat} {body suite : List Stmt} {b₀ : Stmt} {np pos pos' : Pos} {tb : WX → TS} {ts : TS} {Wout : WX}
theorem ps_try_fz (hs : X.stack = X.env :: X.outer) (hf : X.env.frame = some X.env.locals) (hex : X.ex = []) (hN : X.N.Nodup) (hi : X.N[i]? = some n) (hln : X.env.kindOf n = some .local) (hc : Names X x c) (tk : Takes X Wout)
    (hb : ∀ (W : WX) (pn : List (Addr × Obj)) (xe : Value → Shared → Prop), Takes (X.tr pn xe) W → PassesOwn (model X.prog X.w) X.A X.env xe → PSs (X.tr pn xe) body (tb W))
    (hsu : ∀ (a : Addr) (pn : List (Addr × Obj)), PSs (X.suite a pn) (b₀ :: suite) ts) :
    PS X (.Try body [.ExceptHandler (some (.Name x np)) (some n) (b₀ :: suite) pos'] [] [] pos) (fun D σ H => tb (wFz X.K c i ts Wout D) D σ H) := by
  refine ⟨fun pins s σ H D I h => ?_⟩
  have ok := I.ok
  have hfr : X.A.frames = some (X.env :: X.outer) := by rw [ok.frames, hs]
  have hloc : Loc X.env.scope n := .inl hln
  refine wpAny_Try_except ?_
  refine wpAny_mono ((hb (wFz X.K c i ts Wout D) (X.pn ++ pins) (fun e s₁ => wpAny (model X.prog X.w) X.A (noteFrame e X.env) (fun _ s₂ => wpAny (model X.prog X.w) X.A (setFlight e none) (fun _ s₃ =>
    wpAny (model X.prog X.w) X.A (handleBy e X.env [.ExceptHandler (some (.Name x np)) (some n) (b₀ :: suite) pos']) (SP X pins D) X.xe s₃) X.xe s₂) X.xe s₁) (fun u s' xx => ?_) PassesOwn.looking).run [] s σ H D (I.toTry _) h) (fun f s1 hsp => ?_) (fun e s1 he => he)
  · -- the catch
    obtain ⟨a, B, sI, pins', σ', H', cls, d, rfl, J', nb, up, sky, na, os, ag, b, hb1, hyes, hno⟩ := xx
    have J : Inv X pins σ' H' sI := J'.ofTry ok
    have sky' : Sky B (X.env :: X.outer) a (Zc cls d) X.env.locals s'.heap := by rw [← hs]; exact sky
    show wpAny (model X.prog X.w) X.A (noteFrame (.ref a) X.env) _ _ _
    refine Sky.land Zc.steady hfr hf sky' fun h3 fl3 up3 => ?_
    have J3 : Inv X pins σ' H' { s' with heap := h3 } := J.landed nb fl3.1 (up.trans up3) os ag
    obtain ⟨oe3, vs3, he3, hz3, hd3⟩ := fl3.there
    have notFr : ∀ {h : Heap} {o : Obj} {vs : Array Value}, h.FunFrames B (X.env :: X.outer) → h.get? a = some o → o.data = .fields vs → a ∉ frs (X.env :: X.outer) := fun {h o vs} ff e dd hm => by
      obtain ⟨_, o', e', hnf⟩ := ff.mem hm
      rw [e] at e'; cases e'
      exact hnf _ dd
    have nfr := notFr fl3.2.2.1 he3 hd3
    have nL : a ≠ X.env.locals := fun z => nfr (List.mem_filterMap.mpr ⟨X.env, List.mem_cons_self, by rw [hf, z]⟩)
    have nF : a ∉ X.fs := fun hm => by
      obtain ⟨e, he, q⟩ := List.mem_filterMap.mp hm
      exact nfr (List.mem_filterMap.mpr ⟨e, List.mem_cons_of_mem _ he, q⟩)
    have S3 := J3.suite he3 hd3 na nL nF
    have hBa : B.get? a = none := fl3.2.1
    have hIa : sI.heap.get? a = none := by
      cases q : sI.heap.get? a with
      | none => rfl
      | some o =>
        have := nb a o q (by rw [hs]; exact nfr)
        rw [hBa] at this; cases this
    have h0a : X.s_0.heap.get? a = none := by
      cases q : X.s_0.heap.get? a with
      | none => rfl
      | some o =>
        obtain ⟨o', e⟩ := J.base.there a o q (by rw [hex]; simp)
        rw [hIa] at e; cases e
    have npa : ∀ p ∈ X.pn ++ pins, p.1 ≠ a := fun p hp z => by
      have := (J.pin p hp).1
      rw [z, hIa] at this; cases this
    refine wpAny_handleBy_cons (codeAny_handlers_test ?_) (by intro q; cases q)
    have LT : PySem.W.Looks (model X.prog X.w) h3 (typeOf (.ref a)) cls := fun A Q E s k q => wpAny_typeOf_ref (k _ _ he3) (by rw [hz3.1]; exact q)
    have LM := PySem.W.exm_one (M := model X.prog X.w) (J3.kIn) LT hb1
    have test : ∀ {Q : Value → Shared → Prop} {E : Value → Shared → Prop}, Q c { s' with heap := h3 } → wpAny (model X.prog X.w) (X.A.mark (some (.ref a))) (eval (.Name x np) X.env) Q E { s' with heap := h3 } := fun {Q E} q => by
      obtain ⟨hg, hdbg, hm | ⟨hm, hv, hnn⟩⟩ := hc
      · exact ld_glob (X := X.suite a ((a, oe3) :: (X.pn ++ pins))) S3 hg hm q hdbg
      · exact ld_blt (X := X.suite a ((a, oe3) :: (X.pn ++ pins))) S3 hg hm hv q hnn hdbg
    refine test (LM.here ?_)
    cases b with
    | true =>
      refine codeAny_handlers_suite_as ?_
      refine HandSPX.lands_againZ fl3 fun h4 fl4 up4 => ?_
      have J4 : Inv X pins σ' H' { s' with heap := h4 } := J.landed nb fl4.1 ((up.trans up3).trans up4) os ag
      obtain ⟨oe4, vs4, he4, hz4, hd4⟩ := fl4.there
      have J5 := inv_frz J4 h0a he4 hd4 na nL npa
      have S4 := inv_suite (a := a) J5
      refine store_ok (X := X.suite a (X.pn ++ pins)) (v := .ref a) S4 hN hi hloc rfl (fun s5 S5 => ?_) (.inr hln)
      refine wpAny_mono ((hsu a (X.pn ++ pins)).run [] s5 _ _ _ S5 (hyes rfl a oe4 na hz4.1 hz4.2 ⟨_, hd4⟩)) (fun f s6 hsp => ?_) (fun _ _ z => False.elim z)
      have end_ : ∀ {σ6 : L2.St} {H6 : Hp} {Q : Shared → Prop}, Inv (X.suite a (X.pn ++ pins)) [] σ6 H6 s6 → (∀ s7, Inv X pins (σ6.set i none) H6 s7 → Q s7) →
          wpAny (model X.prog X.w) X.A (do bindName X.env n .none; unbindBehindTheSuite X.env n pos') (fun _ s7 => Q s7) X.xe s6 := fun {σ6 H6 Q} S6 hq => gone_ok (inv_unsuite S6 ok) hN hi hln hq
      cases f with
      | next =>
        obtain ⟨σ6, H6, S6, q6⟩ := hsp
        exact end_ S6 fun s7 J7 => ⟨_, _, J7, q6⟩
      | brk =>
        obtain ⟨σ6, H6, S6, q6⟩ := hsp
        exact end_ S6 fun s7 J7 => ⟨_, _, J7, q6⟩
      | cont =>
        obtain ⟨σ6, H6, S6, q6⟩ := hsp
        exact end_ S6 fun s7 J7 => ⟨_, _, J7, q6⟩
      | ret u =>
        obtain ⟨v6, σ6, H6, S6, r6, q6⟩ := hsp
        exact end_ S6 fun s7 J7 => ⟨_, _, _, J7, r6, q6⟩
    | false =>
      show wpAny _ X.A (handleBy (.ref a) X.env []) _ _ _
      refine wpAny_handleBy_nil ?_
      obtain ⟨k1, k2, k3, oe, vs, T, oT, ts', he, hz, hd, h1, hr⟩ := id fl3
      unfold PySem.passOn
      refine wpAny_bind (wpAny_field he hd h1 ?_)
      rw [if_neg (show ¬ ((Value.ref T == Value.none) = true) from by simp)]
      have fin : wpAny (model X.prog X.w) X.A (setFlight (.ref a) X.env.frame) (fun _ s4 => wpAny (model X.prog X.w) X.A (throw (.ref a) : Sem Flow) (SP X pins D) X.xe s4) X.xe { s' with heap := h3 } := by
        rw [hf]
        refine HandSPX.setFlight_upZ fl3 fun h4 hh4 up4 => wpAny_throw (tk _ _ ?_)
        exact ⟨a, B, sI, pins, σ', H', cls, d, rfl, J, nb, (up.trans up3).trans up4, .inr (.inr (by rw [hs]; exact hh4)), na, os, ag, hno rfl⟩
      first
        | exact wpAny_bind (wpAny_pure (wpAny_bind fin))
        | exact wpAny_bind fin
  · cases f with
    | next =>
      obtain ⟨σ', H', J', q⟩ := hsp
      exact wpAny_execs_nil ⟨σ', H', J'.ofTry ok, q⟩
    | brk =>
      obtain ⟨σ', H', J', q⟩ := hsp
      exact ⟨σ', H', J'.ofTry ok, q⟩
    | cont =>
      obtain ⟨σ', H', J', q⟩ := hsp
      exact ⟨σ', H', J'.ofTry ok, q⟩
    | ret u =>
      obtain ⟨v, σ', H', J', r, q⟩ := hsp
      exact ⟨v, σ', H', J'.ofTry ok, r, q⟩
end
/-- which classes the clause takes, by names -/
abbrev SubF := Str → Option Bool
def suD (D : ED) (i : Nat) : ED := { nx := fun e h => D.nx (e.set i none) h, rt := D.rt, bk := fun e h => D.bk (e.set i none) h, ct := fun e h => D.ct (e.set i none) h, ex := fun _ _ _ _ => False }
def trD (D : ED) (sub : SubF) (i : Nat) (su : FS) : ED := { D with ex := fun c d env' h' => match sub c with
  | some true => su (env'.set i (some (.exn c d))) h' (suD D i)
  | some false => D.ex c d env' h'
  | none => False }
def sTry (b : FS) (sub : SubF) (i : Nat) (su : FS) : FS := fun env h D => b env h (trD D sub i su)
theorem suD_le {a b : ED} (k : EDle a b) (i : Nat) : EDle (suD a i) (suD b i) := ⟨fun _ _ z => k.nx _ _ z, k.rt, fun _ _ z => k.bk _ _ z, fun _ _ z => k.ct _ _ z, fun _ _ _ _ z => z⟩
theorem trD_le {a b : ED} (k : EDle a b) {sub : SubF} {i : Nat} {su : FS} (m : MonS su) : EDle (trD a sub i su) (trD b sub i su) := ⟨k.nx, k.rt, k.bk, k.ct, fun c d e h z => by
  revert z
  show (match sub c with | some true => _ | some false => _ | none => False) → (match sub c with | some true => _ | some false => _ | none => False)
  cases sub c with
  | none => exact id
  | some q =>
    cases q with
    | true => exact m.mo (suD_le k i)
    | false => exact k.ex _ _ _ _⟩
theorem sTry_mono {b su : FS} {sub : SubF} {i : Nat} (mb : MonS b) (ms : MonS su) : MonS (sTry b sub i su) := ⟨fun k q => mb.mo (trD_le k ms) q⟩
section
variable {X : Cx} {T : List NTab} {W : WX} {x n : Str} {c : Value} {i : Nat} {body suite : List Stmt} {b₀ : Stmt} {np pos pos' : Pos} {fb fs : FS} {sub : SubF}
theorem s_try (hs : X.stack = X.env :: X.outer) (hf : X.env.frame = some X.env.locals) (hex : X.ex = []) (hN : X.N.Nodup) (hi : X.N[i]? = some n) (hln : X.env.kindOf n = some .local) (hc : Names X x c) (tk : Takes X W)
    (hsub : ∀ y C q, sub y = some q → X.mg y = some (.ref C) → PySem.W.exmOne X.K (.ref C) c = some q)
    (hb : ∀ (W : WX) (pn : List (Addr × Obj)) (xe : Value → Shared → Prop), Takes (X.tr pn xe) W → PassesOwn (model X.prog X.w) X.A X.env xe → SSs (X.tr pn xe) T W body fb)
    (hsu : ∀ (a : Addr) (pn : List (Addr × Obj)), SSs (X.suite a pn) T W0 (b₀ :: suite) fs) :
    SS X T W (.Try body [.ExceptHandler (some (.Name x np)) (some n) (b₀ :: suite) pos'] [] [] pos) (sTry fb sub i fs) := by
  have ms : MonS fs := (hsu 0 []).m
  have mb : MonS fb := (hb W0 [] (fun _ _ => False) takes0 PassesOwn.never).m
  refine ⟨sTry_mono mb ms, PS.imp (ps_try_fz (tb := fun W => lS (gd X T) W fb) (ts := lS (gd X T) W0 fs) hs hf hex hN hi hln hc tk (fun W pn xe t hp => (hb W pn xe t hp).p) (fun a pn => (hsu a pn).p)) fun Dn σ H q => ?_⟩
  obtain ⟨ρ, env, h, m, hff⟩ := q
  refine ⟨ρ, env, h, m, mb.mo (a := trD (QD (gd X T) ρ h H W Dn) sub i fs) ⟨fun _ _ z => z, fun _ _ z => z, fun _ _ z => z, fun _ _ z => z, fun y d env' h' z => ?_⟩ hff⟩
  intro ρ' σ' H' C dx w s' m' hm hx r
  have z : (match sub y with | some true => fs (env'.set i (some (.exn y d))) h' (suD (QD (gd X T) ρ h H W Dn) i) | some false => (QD (gd X T) ρ h H W Dn).ex y d env' h' | none => False) := z
  cases eq : sub y with
  | none => rw [eq] at z; exact z.elim
  | some q =>
    rw [eq] at z
    refine ⟨q, hsub y C q eq hm, fun hq a oe na e1 e2 e3 => ?_, fun hq => ?_⟩
    · subst hq
      have s2 := Stp.new (o := .frz oe (.own a)) s'.ok na
      have hne : dx ≠ a := ne_of_none hx na
      have rr : Rp (gd X T) (upd H' a (.frz oe (.own a))) ρ' h'.length (.exn y d) (.ref a) := .exn hm upd_same e1 e2 e3 (by rw [upd_ne hne]; exact hx) (s2.rp s'.ok r)
      refine ⟨ρ', _, h', (m'.step s2).set i rr, ms.mo (a := suD (QD (gd X T) ρ h H W Dn) i) ⟨fun e h2 z2 => ?_, fun d2 h2 z2 => QV.step (s'.trans s2) z2, fun e h2 z2 => ?_, fun e h2 z2 => ?_, fun _ _ _ _ z2 => z2.elim⟩ z⟩
      · intro ρ3 σ3 H3 s3 m3
        exact z2 ρ3 _ H3 ((s'.trans s2).trans s3) (m3.clear i)
      · intro ρ3 σ3 H3 s3 m3
        exact z2 ρ3 _ H3 ((s'.trans s2).trans s3) (m3.clear i)
      · intro ρ3 σ3 H3 s3 m3
        exact z2 ρ3 _ H3 ((s'.trans s2).trans s3) (m3.clear i)
    · subst hq
      exact z ρ' σ' H' C dx w s' m' hm hx r
end
/-! ### e.value -/
def fXv (cs : List Str) (f : FE) : FE := fun env h Q E => f env h (fun x h1 => match x with
  | .exn c d => chk (cs.contains c) (Q d h1)
  | _ => False) E
theorem fXv_mono {cs : List Str} {f : FE} (m : MonE f) : MonE (fXv cs f) := ⟨fun kQ kE q => m.mo (fun x h1 z => by
  cases x with
  | exn c d => exact chk_mono (kQ _ _) z
  | _ => exact z) kE q⟩
section
variable {X : Cx} {T : List NTab} {W : WX} {e : Expr} {f : FE} {pos : Pos}
theorem e_xv {cs : List Str} (hcs : ∀ c C, c ∈ cs → X.mg c = some (.ref C) → XfC X.K C ∧ PySem.W.findIn X.K (.ref C) "value" = some none) (he : SE X T W e f) (hb : attributeBase e "value" X.env (eval e X.env) = eval e X.env := by rfl) : SE X T W (.Attribute e "value" pos) (fXv cs f) := by
  refine ⟨fXv_mono he.m, ⟨fun pins s σ H Q I q => ?_⟩⟩
  obtain ⟨ρ, env, h, m, hf⟩ := q
  refine attr_of hb (thn (he.p.run pins s σ H (fun x H1 => ∃ a oe u C dx w, x = .ref a ∧ H1 a = some (.frz oe u) ∧ oe.cls = .ref C ∧ oe.dict = some dx ∧ (∃ vs, oe.data = .fields vs) ∧ H1 dx = some (.xd [("value", w)]) ∧ XfC X.K C ∧ PySem.W.findIn X.K (.ref C) "value" = some none ∧ Q w H1) I ⟨ρ, env, h, m, he.m.mo (fun x h1 q1 => ?_) (fun _ _ _ z => z) hf⟩) fun u s1 hh => ?_)
  · intro ρ1 v H1 s1 r1
    cases r1 with
    | exn h1 h2 h3 h4 h5 h6 r =>
      obtain ⟨c1, c2⟩ := chk_iff.mp q1
      obtain ⟨t1, t2⟩ := hcs _ _ (List.contains_iff_mem.mp c1) h1
      exact ⟨_, _, _, _, _, _, rfl, h2, h3, h4, h5, h6, t1, t2, c2 ρ1 _ H1 s1 r⟩
    | _ => exact q1.elim
  · obtain ⟨x, H1, I1, rx, a, oe, u0, C, dx, w, ex, ha, hc, hdx, ⟨vs, hd⟩, ea, Tc, hno, q⟩ := hh
    subst ex
    obtain rfl : u = Value.ref a := rx
    obtain ⟨hga, _⟩ := (show ObjOk X.prog X.w H1 s1.heap a (.frz oe u0) from I1.hok a _ ha)
    have hx : ObjOk X.prog X.w H1 s1.heap dx (.xd [("value", w)]) := I1.hok dx _ ea
    obtain ⟨mA, hns, hr⟩ := hx
    obtain ⟨od, ho, hl⟩ := lookIn_ns hns
    obtain ⟨u, hu, ru⟩ := RelO.some_of (v := w) (o := mA "value") (hr "value")
    have J : PySem.W.InstAt s1.heap a oe C (some od) := ⟨hga, hc, by unfold PySem.W.notCls; rw [hd] <;> rfl, by rw [hdx]; exact ho⟩
    exact HandSPX.exc_get I1.kIn J Tc.ga Tc.gg Tc.exC (PySem.W.findObj_own Tc.hdC hno rfl (by rw [hl, hu])) (handed_of ru) ⟨w, H1, I1.tok _, ru, q⟩
end
end Ev

set_option Elab.async false
set_option linter.all false
set_option maxRecDepth 100000
/-! Ev6c: defs. -/
namespace Ev
open PySem PySem.Spec PyProof.Rows L2 NdefX

def fnD (Q : PQ) (E : PX) : ED := ⟨fun _ h => Q .non h, Q, fun _ _ => False, fun _ _ => False, fun c d _ h => E c d h⟩
/-- a def of n parameters, k names in all -/
def fnSp (n k : Nat) (b : FS) : Spec := fun ds h Q E => chk (decide (ds.length = n)) (b (ds.map some ++ List.replicate (k - n) none) h (fnD Q E))
theorem fnD_le {Q Q' : PQ} {E E' : PX} (kQ : ∀ d h, Q d h → Q' d h) (kE : ∀ c d h, E c d h → E' c d h) : EDle (fnD Q E) (fnD Q' E') := ⟨fun _ _ z => kQ _ _ z, kQ, fun _ _ z => z, fun _ _ z => z, fun _ _ _ _ z => kE _ _ _ z⟩
theorem fnSp_mono {n k : Nat} {b : FS} (m : MonS b) : MonSp (fnSp n k b) := ⟨fun kQ kE q => chk_mono (fun z => m.mo (fnD_le kQ kE) z) q⟩
section
variable {P : Program} {w : World} {K : PySem.W.Frag} {mg : Str → Option Value} {base : Heap} {T : List NTab} {x : Str} {st : Stmt} {N ps : List Str} {k : Nat} {b : FS}
/-- the context of the def's body -/
abbrev bcx (P : Program) (w : World) (K : PySem.W.Frag) (mg : Str → Option Value) (base : Heap) (N : List Str) (x : Str) (st : Stmt) (f : Addr) (cdv : Value) (A : Around) (outer : List PySem.Env) (s : Shared) (H : Hp) (E : XK) : Cx := cxOf (L2.CX P w) P w K mg base N x (defScope st) f cdv A outer s H E
theorem bcx_takes {f : Addr} {cdv : Value} {A : Around} {outer : List PySem.Env} {s : Shared} {H : Hp} {E : XK} : Takes (bcx P w K mg base N x st f cdv A outer s H E) (fun cls d _ H' => E cls d H') :=
  takes_of (X := bcx P w K mg base N x st f cdv A outer s H E) rfl rfl rfl rfl
theorem bcx_owns {f : Addr} {cdv : Value} {A : Around} {outer : List PySem.Env} {s : Shared} {H : Hp} {E : XK} : PassesOwn (model P w) (bcx P w K mg base N x st f cdv A outer s H E).A (bcx P w K mg base N x st f cdv A outer s H E).env (bcx P w K mg base N x st f cdv A outer s H E).xe :=
  passes_of (X := bcx P w K mg base N x st f cdv A outer s H E) rfl
theorem fn_ok {f : Addr} {fd : FuncData} (hm : mg x = some (.ref f)) (D : FunD K x x (defArgs st) (defBody st) (defScope st) [] [] f fd) (S : FnScope N ps (defScope st)) (hlen : ps.length ≤ N.length)
    (hbind : ∀ (kV doc pm : Value) (an : Option Addr) (cdv ct : Value) (us : List Value), us.length = ps.length → bindArgs (PySem.W.fnOf x x (defArgs st) (defBody st) (defScope st) .none kV doc pm an cdv ct) ⟨us, []⟩ = pure (ps.zip us)) (mb : MonS b)
    (hb : ∀ (cdv : Value) (A : Around) (outer : List PySem.Env) (s : Shared) (H : Hp) (E : XK), Room k (A.deeper (envOfC x (defScope st) s.heap.objs.size f cdv)) → SSs (bcx P w K mg base N x st f cdv A outer s H E) T (fun cls d _ H' => E cls d H') (defBody st) b) :
    Fn P w K mg base T x st ps (k + 1) (fnSp ps.length N.length b) := by
  refine ⟨fnSp_mono mb, fun ds h Q E q => of_decide_eq_true (chk_iff.mp q).1, f, fd, hm, D, D.bindsN hbind, ?_⟩
  refine FunD.ok D S (fun vs H Q E q => ?_) fun cdv A outer s H vs Q E hr q => ?_
  · obtain ⟨ρ, h, ds, ok, tb, r, q⟩ := q
    rw [← r.length]
    exact of_decide_eq_true (chk_iff.mp q).1
  · obtain ⟨ρ, h, ds, ok, tb, r, q⟩ := q
    obtain ⟨hl, q⟩ := chk_iff.mp q
    have hl := of_decide_eq_true hl
    have B := hb cdv A outer s H E hr
    refine ⟨_, B.p, ρ, _, h, ⟨ok, tb, ?_, fun i d e => ?_⟩, mb.mo (a := fnD (QV ⟨K, mg, T⟩ ρ h H Q) (QXE ⟨K, mg, T⟩ ρ h H E)) ⟨fun _ _ z => ?_, fun _ _ z => z, fun _ _ z => z.elim, fun _ _ z => z.elim, fun c d e h' z => ?_⟩ q⟩
    · unfold L2.start
      rw [List.length_append, List.length_append, List.length_map, List.length_map, List.length_replicate, List.length_replicate, ← r.length, hl]
    · by_cases hi : i < ds.length
      · rw [List.getElem?_append_left (by rw [List.length_map]; exact hi), List.getElem?_map] at e
        cases z : ds[i]? with
        | none => rw [z] at e; cases e
        | some d' =>
          rw [z] at e
          cases e
          obtain ⟨v, e1, rv⟩ := r.get z
          refine ⟨v, ?_, rv⟩
          unfold L2.start
          rw [List.getElem?_append_left (by rw [List.length_map, ← r.length]; exact hi), List.getElem?_map, e1] <;> rfl
      · rw [List.getElem?_append_right (by rw [List.length_map]; omega), List.getElem?_replicate] at e
        split at e <;> cases e
    · intro ρ' σ' H' s' m'
      exact z ρ' .non H' s' .non
    · intro ρ' σ' H' C dx w' s' m' hm' hx rw'
      exact z ρ' H' C dx w' s' hm' hx rw'
end
end Ev

set_option Elab.async false
set_option linter.all false
set_option maxRecDepth 100000
/-! Ev7: what the printed walks use. -/
namespace Ev
open PySem PySem.Spec PyProof.Rows L2 NdefX

theorem fNewL_mono {f : FA} (m : MonA f) : MonE (fNewL f) := ⟨fun kQ kE q => m.mo (fun _ _ q1 => kQ _ _ q1) kE q⟩
theorem fFC_mono {c : FC} {f : FA} (m : MonA f) : MonE (fFC c f) := ⟨fun kQ kE q => m.mo (fun _ _ q1 => fin_mono kQ q1) kE q⟩
theorem mo_no : ∀ c : FE, (none : Option FE) = some c → MonE c := fun _ h => nomatch h
theorem mo_so {f : FE} (m : MonE f) : ∀ c : FE, some f = some c → MonE c := fun c h => by cases h; exact m
section
variable {X : Cx} {T : List NTab} {W : WX} {x : Str} {p : Pos}
theorem vr (i : Nat) (hN : X.N[i]? = some x := by rfl) (hv : Vis X.env.scope x := by first | exact Or.inl rfl | exact Or.inr (Or.inl rfl) | exact Or.inr (Or.inr rfl)) (hd : (x == ("__debug__" : Str)) = false := by decide) (hcd : (x == ("__classdict__" : Str)) = false := by decide) : SE X T W (.Name x p) (fVar i) := e_var hN hv hd hcd
theorem tg (i : Nat) (hN : X.N.Nodup) (hi : X.N[i]? = some x := by rfl) (hx : Loc X.env.scope x := by first | exact Or.inl rfl | exact Or.inr rfl) (hf : X.fn x = true ∨ X.env.scope.names.lookup x = some .local := by first | exact .inl rfl | exact .inr rfl) : SG X T (.Name x p) (.nm i) := g_nm hN hi hx hf
/-- an int constant of the module -/
theorem e_gint {i : Int} (hg : Gl X x) (hm : ∃ t, X.mg x = some (.int i t)) (hd : (x == ("__debug__" : Str)) = false := by decide) : SE X T W (.Name x p) (fLit (.int i)) := by
  obtain ⟨t, hm⟩ := hm
  exact ⟨fLit_mono, se_const (pe_glob (v := .int i) hg hm ⟨t, rfl⟩ hd) fun _ _ _ => .int _⟩
end
/-- the promise of nothing -/
def spNo : Spec := fun _ _ _ _ => False
theorem fn_no {P : Program} {w : World} {K : PySem.W.Frag} {mg : Str → Option Value} {base : Heap} {T : List NTab} {x : Str} {st : Stmt} {ps : List Str} {f : Addr} {fd : FuncData} (hm : mg x = some (.ref f)) (D : FunD K x x (defArgs st) (defBody st) (defScope st) [] [] f fd)
    (hbind : ∀ (kV doc pm : Value) (an : Option Addr) (cdv ct : Value) (us : List Value), us.length = ps.length → bindArgs (PySem.W.fnOf x x (defArgs st) (defBody st) (defScope st) .none kV doc pm an cdv ct) ⟨us, []⟩ = pure (ps.zip us)) : Fn P w K mg base T x st ps 0 spNo :=
  ⟨⟨fun _ _ q => q⟩, fun _ _ _ _ q => q.elim, f, fd, hm, D, D.bindsN hbind, ⟨fun _ _ _ _ ⟨_, _, _, _, _, _, q⟩ => q.elim, fun _ _ _ _ _ _ _ _ _ _ _ _ _ ⟨_, _, _, _, _, _, q⟩ => q.elim⟩⟩
end Ev

set_option Elab.async false
set_option linter.all false
set_option maxRecDepth 100000
/-! Ev8: the draws and the comparison that all laws share. -/
namespace Ev
open PySem PySem.Spec PyProof.Rows L2 NdefX
def b_pot : FS := (sRet (fBin gAdd (fLst (fCons (fLit (.int 0)) (fCons (fLit (.int 12582917)) (fCons (fLit (.int 0)) (fCons (fLit (.int 4)) fNil))))) (fFN gList (fCons (fVar 0) fNil))))
def b_take : FS := (sSeq (sIf (fAnd (fBin gEq (fBin gIx (fVar 0) (fLit (.int 0))) (fLit (.int 0))) (fBin gLt (fBin gIx (fVar 0) (fLit (.int 3))) (fFN gLen (fCons (fVar 0) fNil)))) (sSeq (sAsg (fBin gIx (fVar 0) (fBin gIx (fVar 0) (fLit (.int 3)))) (.nm 2)) (sSeq (sAugS (fVar 0) (fLit (.int 3)) .add (fLit (.int 1))) (sIf (fBin gGe (fVar 2) (fBin gPow (fLit (.int 10)) (fLit (.int 18)))) (sSet (fVar 0) (fLit (.int 0)) (fBin gSub (fVar 2) (fBin gPow (fLit (.int 10)) (fLit (.int 18))))) (sSet (fVar 0) (fLit (.int 1)) (fBin gMod (fFN gInt (fCons (fBin gAdd (fBin gMul (fBin gAdd (fBin gIx (fVar 0) (fLit (.int 1))) (fBin gMul (fLit (.int 7)) (fVar 2))) (fLit (.int 3145739))) (fBin gMul (fLit (.int 769)) (fBin gIx (fVar 0) (fLit (.int 3))))) fNil)) (fLit (.int 2305843009213693907))))))) sNil) (sSeq (sIf (fBin gGt (fBin gIx (fVar 0) (fLit (.int 0))) (fLit (.int 0))) (sSeq (sAsg (fBin gMod (fFN gInt (fCons (fBin gIx (fVar 0) (fLit (.int 0))) fNil)) (fVar 1)) (.nm 3)) (sSeq (sSet (fVar 0) (fLit (.int 0)) (fBin gDiv (fBin gIx (fVar 0) (fLit (.int 0))) (fVar 1))) (sRet (fVar 3)))) sNil) (sSeq (sAugS (fVar 0) (fLit (.int 2)) .add (fLit (.int 1))) (sSeq (sAsg (fBin gMod (fFN gInt (fCons (fBin gPow (fBin gAdd (fBin gIx (fVar 0) (fLit (.int 1))) (fBin gMul (fLit (.int 1572869)) (fBin gIx (fVar 0) (fLit (.int 2))))) (fLit (.int 3))) fNil)) (fLit (.int 2305843009213693907))) (.nm 4)) (sSeq (sAsg (fBin gMod (fFN gInt (fCons (fBin gPow (fBin gAdd (fVar 4) (fBin gMul (fLit (.int 389)) (fBin gIx (fVar 0) (fLit (.int 2))))) (fLit (.int 2))) fNil)) (fLit (.int 999999999999999877))) (.nm 4)) (sRet (fBin gMod (fFN gInt (fCons (fBin gDiv (fVar 4) (fLit (.int 16))) fNil)) (fVar 1))))))))
noncomputable def b_same (sp : Ev.Spec) : FS := (sSeq (sIf (fIsN false (fVar 1)) (sRet (fIsN false (fVar 0))) sNil) (sSeq (sIf (fIsi (fVar 1) [.bl, .str]) (sRet (fAnd (fBin gEq (fIsi (fVar 0) [.bl]) (fIsi (fVar 1) [.bl])) (fAnd (fIsi (fVar 0) [.bl, .str]) (fBin gEq (fVar 0) (fVar 1))))) sNil) (sSeq (sIf (fIsi (fVar 1) [.int]) (sRet (fAnd (fIsi (fVar 0) [.int]) (fAnd (fNot (fIsi (fVar 0) [.bl])) (fBin gEq (fVar 0) (fVar 1))))) sNil) (sSeq (sIf (fOr (fBin gNe (fIsi (fVar 1) [.lst]) (fIsi (fVar 0) [.lst])) (fBin gNe (fIsi (fVar 1) [.tup]) (fIsi (fVar 0) [.tup]))) (sRet (fLit (.bl false))) sNil) (sRet (fAnd (fBin gEq (fFN gLen (fCons (fVar 0) fNil)) (fFN gLen (fCons (fVar 1) fNil))) (fFC cAll (fComp (fIt gRange1 (fCons (fFN gLen (fCons (fVar 1) fNil)) fNil)) (.nm 2) [2] none (fCall sp (fCons (fBin gIx (fVar 0) (fVar 2)) (fCons (fBin gIx (fVar 1) (fVar 2)) fNil)))))))))))
def sp_pot : Ev.Spec := fnSp 1 1 b_pot
def sp_take : Ev.Spec := fnSp 2 5 b_take
noncomputable def sp_same : Nat → Ev.Spec
  | 0 => spNo
  | n + 1 => fnSp 2 3 (b_same (sp_same n))
/-! ### steps -/
theorem seq_ {a b : FS} {env : Env} {h : VH} {D : ED} (H : ∀ D' : ED, (∀ e h1, D'.nx e h1 = b e h1 D) → D'.rt = D.rt → D'.bk = D.bk → D'.ct = D.ct → D'.ex = D.ex → a env h D') : sSeq a b env h D := H _ (fun _ _ => rfl) rfl rfl rfl rfl
theorem fnSp_of {n k : Nat} {b : FS} {ds : List D} {h : VH} {Q : PQ} {E : PX} (hl : ds.length = n) (H : b (ds.map some ++ List.replicate (k - n) none) h (fnD Q E)) : fnSp n k b ds h Q E := chk_of (decide_eq_true hl) H
section
variable {d : D} {h : VH} {Q : PQ} {ds : List D} {i j : Int} {a b : Str} {x y : Bool} {k : Nat}
theorem fin_v : fin (some (.val d)) h Q = Q d h := rfl
theorem fin_n : fin (some (.new ds)) h Q = Q (.ref h.length) (h ++ [.lst ds]) := rfl
theorem finE_v : finE (some (.pure (.val d))) h Q = Q d h := rfl
theorem finE_n : finE (some (.pure (.new ds))) h Q = Q (.ref h.length) (h ++ [.lst ds]) := rfl
theorem finE_w : finE (some (.wr k ds d)) h Q = Q d (h.set k (.lst ds)) := rfl
theorem chk_t {p : Prop} : chk true p = p := rfl
theorem gAdd_i : gAdd (.int i) (.int j) h = some (.val (.int (i + j))) := rfl
theorem gAdd_s (hl : a.length + b.length ≤ line) : gAdd (.str a) (.str b) h = some (.val (.str (a ++ b))) := if_pos hl
theorem gAdd_t {xs ys : List D} (hl : xs.length + ys.length ≤ line) : gAdd (.tup xs) (.tup ys) h = some (.val (.tup (xs ++ ys))) := if_pos hl
theorem gAdd_l {xs ys : List D} {l : Nat} (e1 : lstAt h k = some xs) (e2 : lstAt h l = some ys) (hl : xs.length + ys.length ≤ line) : gAdd (.ref k) (.ref l) h = some (.new (xs ++ ys)) := by
  unfold gAdd
  simp only [e1, e2, if_pos hl]
theorem gSub_i : gSub (.int i) (.int j) h = some (.val (.int (i - j))) := rfl
theorem gMul_i (hm : mulOk i j = true) : gMul (.int i) (.int j) h = some (.val (.int (i * j))) := if_pos hm
theorem gDiv_i (h0 : 0 < j) (h1 : j.natAbs.log2 < 8000) : gDiv (.int i) (.int j) h = some (.val (.int (i / j))) := if_pos ⟨h0, h1⟩
theorem gMod_i (h0 : 0 < j) : gMod (.int i) (.int j) h = some (.val (.int (i % j))) := if_pos h0
theorem gPow_i (h0 : 0 ≤ j ∧ j ≤ 1000 ∧ i.natAbs < 18446744073709551616) : gPow (.int i) (.int j) h = some (.val (.int (i ^ j.toNat))) := if_pos h0
theorem gEq_i : gEq (.int i) (.int j) h = some (.val (.bl (decide (i = j)))) := rfl
theorem gEq_b : gEq (.bl x) (.bl y) h = some (.val (.bl (decide (x = y)))) := rfl
theorem gEq_s : gEq (.str a) (.str b) h = some (.val (.bl (decide (a = b)))) := rfl
theorem gNe_i : gNe (.int i) (.int j) h = some (.val (.bl (!decide (i = j)))) := rfl
theorem gNe_b : gNe (.bl x) (.bl y) h = some (.val (.bl (!decide (x = y)))) := rfl
theorem gLt_i : gLt (.int i) (.int j) h = some (.val (.bl (decide (i < j)))) := rfl
theorem gLe_i : gLe (.int i) (.int j) h = some (.val (.bl (decide (i ≤ j)))) := rfl
theorem gGt_i : gGt (.int i) (.int j) h = some (.val (.bl (decide (j < i)))) := rfl
theorem gGe_i : gGe (.int i) (.int j) h = some (.val (.bl (decide (j ≤ i)))) := rfl
theorem gInt_i : gInt [.int i] h = some (.val (.int i)) := rfl
theorem gInt_b : gInt [.bl x] h = some (.val (.int (if x = true then 1 else 0))) := rfl
theorem gInp_a : gInp .add (.int i) (.int j) h = some (.val (.int (i + j))) := rfl
theorem gInp_s : gInp .sub (.int i) (.int j) h = some (.val (.int (i - j))) := rfl
theorem gLen_t : gLen [.tup ds] h = some (.val (.int ds.length)) := rfl
theorem gLen_l (e : lstAt h k = some ds) : gLen [.ref k] h = some (.val (.int ds.length)) := by unfold gLen; simp only [e]
theorem gTuple_t : gTuple [.tup ds] h = some (.val (.tup ds)) := rfl
theorem gTuple_l (e : lstAt h k = some ds) : gTuple [.ref k] h = some (.val (.tup ds)) := by unfold gTuple; simp only [e]
theorem gList_t : gList [.tup ds] h = some (.new ds) := rfl
theorem gIx_l (e : lstAt h k = some ds) (ea : atI ds i = some d) : gIx (.ref k) (.int i) h = some (.val d) := by unfold gIx; simp only [e, ea]; rfl
theorem gIx_t (ea : atI ds i = some d) : gIx (.tup ds) (.int i) h = some (.val d) := by unfold gIx; simp only [ea]; rfl
theorem gIxL_l (e : lstAt h k = some ds) (ea : atI ds i = some d) : gIxL (.ref k) (.int i) h = some (.val d) := gIx_l e ea
theorem gSet_l {n : Nat} (e : lstAt h k = some ds) (ej : ixN ds.length i = some n) : gSet (.ref k) (.int i) d h = some (h.set k (.lst (ds.set n d))) := by unfold gSet; simp only [e, ej]
theorem gRange1_i (hb : big62 i = true) : gRange1 [.int i] h = some (itRng 0 i.toNat 1) := if_pos hb
theorem gAppend_l (e : lstAt h k = some ds) (hl : ds.length < line) : gAppend (.ref k) [d] h = some (.wr k (ds ++ [d]) .non) := by
  unfold gAppend
  simp only [e, if_pos hl]
theorem gPop_l {xs : List D} (e : lstAt h k = some (xs ++ [d])) : gPop (.ref k) [] h = some (.wr k xs d) := by
  unfold gPop
  simp only [e]
  have e1 : (xs ++ [d])[(xs ++ [d]).length - 1]? = some d := by
    rw [List.length_append, List.length_singleton, Nat.add_sub_cancel, List.getElem?_append_right (Nat.le_refl _), Nat.sub_self] <;> rfl
  rw [e1]
  simp
end
/-! ### the small heap -/
theorem lstAt_set {h : VH} {k : Nat} {ds : List D} (hk : k < h.length) : lstAt (h.set k (.lst ds)) k = some ds := by
  unfold lstAt
  rw [List.getElem?_set_self hk]
theorem lstAt_ne {h : VH} {k l : Nat} {o : Ob} (hk : k ≠ l) : lstAt (h.set k o) l = lstAt h l := by
  unfold lstAt
  rw [List.getElem?_set_ne hk]
theorem lstAt_app {h g : VH} {k : Nat} {ds : List D} (e : lstAt h k = some ds) : lstAt (h ++ g) k = some ds := by
  have hk := lstAt_len e
  unfold lstAt at e ⊢
  rw [List.getElem?_append_left hk]
  exact e
theorem lstAt_new {h : VH} {ds : List D} {g : VH} : lstAt (h ++ Ob.lst ds :: g) h.length = some ds := by
  unfold lstAt
  rw [List.getElem?_append_right (Nat.le_refl _), Nat.sub_self] <;> rfl
theorem set_set {h : VH} {k : Nat} {a b : Ob} : (h.set k a).set k b = h.set k b := List.set_set ..
/-! ### the pot -/
def potL (i j k p : Int) (cells : List Int) : List D := .int i :: .int j :: .int k :: .int p :: cells.map .int
structure PotC (c : Nat) (i j k p : Int) : Prop where
  i0 : 0 ≤ i
  j0 : 0 ≤ j
  j1 : j < 2305843009213693907
  k0 : 0 ≤ k
  k1 : k ≤ c
  p0 : 4 ≤ p
/-- the object k is a pot, c draws were made at most -/
def PotAt (h : VH) (kk c : Nat) : Prop := ∃ i j k p cells, lstAt h kk = some (potL i j k p cells) ∧ PotC c i j k p ∧ cells.length ≤ 1000
section
variable {α : Type} {a b c d : α} {l : List α}
theorem atI_0 : atI (a :: l) 0 = some a := by
  unfold atI ixN
  rw [if_pos (by omega), if_pos (by simp only [List.length_cons]; omega)] <;> rfl
theorem atI_1 : atI (a :: b :: l) 1 = some b := by
  unfold atI ixN
  rw [if_pos (by omega), if_pos (by simp only [List.length_cons]; omega)] <;> rfl
theorem atI_2 : atI (a :: b :: c :: l) 2 = some c := by
  unfold atI ixN
  rw [if_pos (by omega), if_pos (by simp only [List.length_cons]; omega)] <;> rfl
theorem atI_3 : atI (a :: b :: c :: d :: l) 3 = some d := by
  unfold atI ixN
  rw [if_pos (by omega), if_pos (by simp only [List.length_cons]; omega)] <;> rfl
theorem ixN_lit {n j : Nat} (h : j < n) : ixN n (j : Int) = some j := by
  unfold ixN
  rw [if_pos (by omega), if_pos (by omega)] <;> rfl
end
theorem ixN_0 {n : Nat} : ixN (n + 1) 0 = some 0 := ixN_lit (j := 0) (by omega)
theorem ixN_1 {n : Nat} : ixN (n + 1 + 1) 1 = some 1 := ixN_lit (j := 1) (by omega)
theorem ixN_2 {n : Nat} : ixN (n + 1 + 1 + 1) 2 = some 2 := ixN_lit (j := 2) (by omega)
theorem ixN_3 {n : Nat} : ixN (n + 1 + 1 + 1 + 1) 3 = some 3 := ixN_lit (j := 3) (by omega)
theorem pot_cell {i j k p : Int} {cells : List Int} (h4 : 4 ≤ p) (hl : p < (cells.length : Int) + 4) : ∃ c, atI (.int i :: .int j :: .int k :: .int p :: cells.map D.int) p = some (.int c) := by
  obtain ⟨n, rfl⟩ : ∃ n : Nat, p = ((n + 4 : Nat) : Int) := ⟨(p - 4).toNat, by omega⟩
  have hn : n < cells.length := by omega
  refine ⟨cells[n], ?_⟩
  unfold atI
  rw [ixN_lit (by simp only [List.length_cons, List.length_map]; omega)]
  show (cells.map D.int)[n]? = _
  rw [List.getElem?_map, List.getElem?_eq_getElem hn] <;> rfl
theorem mul_l {i j : Int} (h : i.natAbs < 18446744073709551616) : mulOk i j = true := by unfold mulOk; rw [decide_eq_true h] <;> rfl
theorem mul_r {i j : Int} (h : j.natAbs < 18446744073709551616) : mulOk i j = true := by unfold mulOk; rw [decide_eq_true h]; simp
theorem pot_set0 {i i' j k p : Int} {cells : List Int} : (potL i j k p cells).set 0 (.int i') = potL i' j k p cells := rfl
theorem pot_set1 {i j' j k p : Int} {cells : List Int} : (potL i j k p cells).set 1 (.int j') = potL i j' k p cells := rfl
theorem pot_set2 {i k' j k p : Int} {cells : List Int} : (potL i j k p cells).set 2 (.int k') = potL i j k' p cells := rfl
theorem pot_set3 {i p' j k p : Int} {cells : List Int} : (potL i j k p cells).set 3 (.int p') = potL i j k p' cells := rfl
theorem pot_0 {i j k p : Int} {cells : List Int} : atI (potL i j k p cells) 0 = some (.int i) := atI_0
theorem pot_1 {i j k p : Int} {cells : List Int} : atI (potL i j k p cells) 1 = some (.int j) := atI_1
theorem pot_2 {i j k p : Int} {cells : List Int} : atI (potL i j k p cells) 2 = some (.int k) := atI_2
theorem pot_3 {i j k p : Int} {cells : List Int} : atI (potL i j k p cells) 3 = some (.int p) := atI_3
theorem pot_len {i j k p : Int} {cells : List Int} : (potL i j k p cells).length = cells.length + 4 := by unfold potL; simp
section
variable {h : VH} {kk : Nat} {i j k p v : Int} {cells : List Int}
theorem ps0 (e : lstAt h kk = some (potL i j k p cells)) : gSet (.ref kk) (.int 0) (.int v) h = some (h.set kk (.lst (potL v j k p cells))) := gSet_l e (ixN_lit (j := 0) (by rw [pot_len]; omega))
theorem ps1 (e : lstAt h kk = some (potL i j k p cells)) : gSet (.ref kk) (.int 1) (.int v) h = some (h.set kk (.lst (potL i v k p cells))) := gSet_l e (ixN_lit (j := 1) (by rw [pot_len]; omega))
theorem ps2 (e : lstAt h kk = some (potL i j k p cells)) : gSet (.ref kk) (.int 2) (.int v) h = some (h.set kk (.lst (potL i j v p cells))) := gSet_l e (ixN_lit (j := 2) (by rw [pot_len]; omega))
theorem ps3 (e : lstAt h kk = some (potL i j k p cells)) : gSet (.ref kk) (.int 3) (.int v) h = some (h.set kk (.lst (potL i j k v cells))) := gSet_l e (ixN_lit (j := 3) (by rw [pot_len]; omega))
end
/-- what a draw from a pot without a number in hand gives -/
theorem take_tail {h : VH} {kk c : Nat} {many i j k p : Int} {cells : List Int} {Q : PQ} {E : PX} {z : Option D} (hk : kk < h.length) (C : PotC c i j k p) (hc : c ≤ 1000000) (hl : cells.length ≤ 1000) (hm : 0 < many) (hm2 : many.natAbs.log2 < 8000)
    (hQ : ∀ v h', 0 ≤ v → v < many → h'.length = h.length → (∀ l, l ≠ kk → lstAt h' l = lstAt h l) → PotAt h' kk (c + 1) → Q (.int v) h') :
    sSeq (sIf (fBin gGt (fBin gIx (fVar 0) (fLit (.int 0))) (fLit (.int 0))) (sSeq (sAsg (fBin gMod (fFN gInt (fCons (fBin gIx (fVar 0) (fLit (.int 0))) fNil)) (fVar 1)) (.nm 3)) (sSeq (sSet (fVar 0) (fLit (.int 0)) (fBin gDiv (fBin gIx (fVar 0) (fLit (.int 0))) (fVar 1))) (sRet (fVar 3)))) sNil) (sSeq (sAugS (fVar 0) (fLit (.int 2)) .add (fLit (.int 1))) (sSeq (sAsg (fBin gMod (fFN gInt (fCons (fBin gPow (fBin gAdd (fBin gIx (fVar 0) (fLit (.int 1))) (fBin gMul (fLit (.int 1572869)) (fBin gIx (fVar 0) (fLit (.int 2))))) (fLit (.int 3))) fNil)) (fLit (.int 2305843009213693907))) (.nm 4)) (sSeq (sAsg (fBin gMod (fFN gInt (fCons (fBin gPow (fBin gAdd (fVar 4) (fBin gMul (fLit (.int 389)) (fBin gIx (fVar 0) (fLit (.int 2))))) (fLit (.int 2))) fNil)) (fLit (.int 999999999999999877))) (.nm 4)) (sRet (fBin gMod (fFN gInt (fCons (fBin gDiv (fVar 4) (fLit (.int 16))) fNil)) (fVar 1))))))
      [some (.ref kk), some (.int many), z, none, none] (h.set kk (.lst (potL i j k p cells))) (fnD Q E) := by
  obtain ⟨i0, j0, j1, k0, k1, p0⟩ := C
  have L : ∀ ds : List D, lstAt (h.set kk (.lst ds)) kk = some ds := fun ds => lstAt_set hk
  have I0 := fun i j k p => gIx_l (i := 0) (L (potL i j k p cells)) pot_0
  have I1 := fun i j k p => gIx_l (i := 1) (L (potL i j k p cells)) pot_1
  have I2 := fun i j k p => gIx_l (i := 2) (L (potL i j k p cells)) pot_2
  have J2 := fun i j k p => gIxL_l (i := 2) (L (potL i j k p cells)) pot_2
  have S0 := fun i j k p v => ps0 (v := v) (L (potL i j k p cells))
  have S2 := fun i j k p v => ps2 (v := v) (L (potL i j k p cells))
  have fin : ∀ i' k' v, 0 ≤ i' → 0 ≤ k' → k' ≤ (c : Int) + 1 → 0 ≤ v → v < many → Q (.int v) (h.set kk (.lst (potL i' j k' p cells))) := fun i' k' v a1 a2 a3 a4 a5 =>
    hQ v _ a4 a5 List.length_set (fun l hl => lstAt_ne hl.symm) ⟨i', j, k', p, cells, L _, ⟨a1, j0, j1, a2, by omega, p0⟩, hl⟩
  refine seq_ fun D hn hr hb hc' hx => ?_
  by_cases hi : 0 < i
  · simp only [sAsg, sPar, sIf, sRet, sRetN, sExp, sSet, sAug, sAugS, sBrk, sCnt, sRaise, sNil, exE, fVar, fLit, fNeg, fIsN, fBin, fChain, fAnd, fOr, fNot, fIte, fNil, fCons, fTup, fLst, fFN, fMt, fIsi, fCall, fSl1, fRev, fNewL, fFC, fXv, fIt, fSeq, fin_v, fin_n, finE_v, finE_n, gAdd_i, gAdd_s, gSub_i, gEq_i, gEq_b, gNe_i, gNe_b, gLt_i, gLe_i, gGt_i, gGe_i, gInt_i, gInt_b, gInp_a, gInp_s, gLen_t, gTuple_t, gList_t, chk_t, asgT, asgL, tyD, isNon, gRange1_i, Ty.isa, List.getElem?_cons_zero, List.getElem?_cons_succ, List.set_cons_zero, List.set_cons_succ, List.map_cons, List.map_nil, List.cons_append, List.nil_append, List.any_cons, List.any_nil, Option.map_some, Option.map_none, Bool.or_false, Bool.false_or, Bool.or_true, Bool.true_or, Bool.and_true, Bool.true_and, Bool.and_false, Bool.false_and, Bool.not_true, Bool.not_false, I0, decide_eq_true hi]
    refine seq_ fun D' hn' hr' hb' hc2 hx' => ?_
    simp only [sAsg, sPar, sIf, sRet, sRetN, sExp, sSet, sAug, sAugS, sBrk, sCnt, sRaise, sNil, exE, fVar, fLit, fNeg, fIsN, fBin, fChain, fAnd, fOr, fNot, fIte, fNil, fCons, fTup, fLst, fFN, fMt, fIsi, fCall, fSl1, fRev, fNewL, fFC, fXv, fIt, fSeq, fin_v, fin_n, finE_v, finE_n, gAdd_i, gAdd_s, gSub_i, gEq_i, gEq_b, gNe_i, gNe_b, gLt_i, gLe_i, gGt_i, gGe_i, gInt_i, gInt_b, gInp_a, gInp_s, gLen_t, gTuple_t, gList_t, chk_t, asgT, asgL, tyD, isNon, gRange1_i, Ty.isa, List.getElem?_cons_zero, List.getElem?_cons_succ, List.set_cons_zero, List.set_cons_succ, List.map_cons, List.map_nil, List.cons_append, List.nil_append, List.any_cons, List.any_nil, Option.map_some, Option.map_none, Bool.or_false, Bool.false_or, Bool.or_true, Bool.true_or, Bool.and_true, Bool.true_and, Bool.and_false, Bool.false_and, Bool.not_true, Bool.not_false, I0, gMod_i hm]
    rw [hn']
    refine seq_ fun D' hn' hr' hb' hc2 hx' => ?_
    simp only [sAsg, sPar, sIf, sRet, sRetN, sExp, sSet, sAug, sAugS, sBrk, sCnt, sRaise, sNil, exE, fVar, fLit, fNeg, fIsN, fBin, fChain, fAnd, fOr, fNot, fIte, fNil, fCons, fTup, fLst, fFN, fMt, fIsi, fCall, fSl1, fRev, fNewL, fFC, fXv, fIt, fSeq, fin_v, fin_n, finE_v, finE_n, gAdd_i, gAdd_s, gSub_i, gEq_i, gEq_b, gNe_i, gNe_b, gLt_i, gLe_i, gGt_i, gGe_i, gInt_i, gInt_b, gInp_a, gInp_s, gLen_t, gTuple_t, gList_t, chk_t, asgT, asgL, tyD, isNon, gRange1_i, Ty.isa, List.getElem?_cons_zero, List.getElem?_cons_succ, List.set_cons_zero, List.set_cons_succ, List.map_cons, List.map_nil, List.cons_append, List.nil_append, List.any_cons, List.any_nil, Option.map_some, Option.map_none, Bool.or_false, Bool.false_or, Bool.or_true, Bool.true_or, Bool.and_true, Bool.true_and, Bool.and_false, Bool.false_and, Bool.not_true, Bool.not_false, I0, gDiv_i hm hm2, S0, set_set]
    rw [hn']
    simp only [sAsg, sPar, sIf, sRet, sRetN, sExp, sSet, sAug, sAugS, sBrk, sCnt, sRaise, sNil, exE, fVar, fLit, fNeg, fIsN, fBin, fChain, fAnd, fOr, fNot, fIte, fNil, fCons, fTup, fLst, fFN, fMt, fIsi, fCall, fSl1, fRev, fNewL, fFC, fXv, fIt, fSeq, fin_v, fin_n, finE_v, finE_n, gAdd_i, gAdd_s, gSub_i, gEq_i, gEq_b, gNe_i, gNe_b, gLt_i, gLe_i, gGt_i, gGe_i, gInt_i, gInt_b, gInp_a, gInp_s, gLen_t, gTuple_t, gList_t, chk_t, asgT, asgL, tyD, isNon, gRange1_i, Ty.isa, List.getElem?_cons_zero, List.getElem?_cons_succ, List.set_cons_zero, List.set_cons_succ, List.map_cons, List.map_nil, List.cons_append, List.nil_append, List.any_cons, List.any_nil, Option.map_some, Option.map_none, Bool.or_false, Bool.false_or, Bool.or_true, Bool.true_or, Bool.and_true, Bool.true_and, Bool.and_false, Bool.false_and, Bool.not_true, Bool.not_false]
    rw [hr]
    exact fin _ _ _ (Int.ediv_nonneg i0 (by omega)) k0 (by omega) (Int.emod_nonneg _ (by omega)) (Int.emod_lt_of_pos _ hm)
  · simp only [sAsg, sPar, sIf, sRet, sRetN, sExp, sSet, sAug, sAugS, sBrk, sCnt, sRaise, sNil, exE, fVar, fLit, fNeg, fIsN, fBin, fChain, fAnd, fOr, fNot, fIte, fNil, fCons, fTup, fLst, fFN, fMt, fIsi, fCall, fSl1, fRev, fNewL, fFC, fXv, fIt, fSeq, fin_v, fin_n, finE_v, finE_n, gAdd_i, gAdd_s, gSub_i, gEq_i, gEq_b, gNe_i, gNe_b, gLt_i, gLe_i, gGt_i, gGe_i, gInt_i, gInt_b, gInp_a, gInp_s, gLen_t, gTuple_t, gList_t, chk_t, asgT, asgL, tyD, isNon, gRange1_i, Ty.isa, List.getElem?_cons_zero, List.getElem?_cons_succ, List.set_cons_zero, List.set_cons_succ, List.map_cons, List.map_nil, List.cons_append, List.nil_append, List.any_cons, List.any_nil, Option.map_some, Option.map_none, Bool.or_false, Bool.false_or, Bool.or_true, Bool.true_or, Bool.and_true, Bool.true_and, Bool.and_false, Bool.false_and, Bool.not_true, Bool.not_false, I0, decide_eq_false hi]
    rw [hn]
    refine seq_ fun D' hn' hr' hb' hc2 hx' => ?_
    simp only [sAsg, sPar, sIf, sRet, sRetN, sExp, sSet, sAug, sAugS, sBrk, sCnt, sRaise, sNil, exE, fVar, fLit, fNeg, fIsN, fBin, fChain, fAnd, fOr, fNot, fIte, fNil, fCons, fTup, fLst, fFN, fMt, fIsi, fCall, fSl1, fRev, fNewL, fFC, fXv, fIt, fSeq, fin_v, fin_n, finE_v, finE_n, gAdd_i, gAdd_s, gSub_i, gEq_i, gEq_b, gNe_i, gNe_b, gLt_i, gLe_i, gGt_i, gGe_i, gInt_i, gInt_b, gInp_a, gInp_s, gLen_t, gTuple_t, gList_t, chk_t, asgT, asgL, tyD, isNon, gRange1_i, Ty.isa, List.getElem?_cons_zero, List.getElem?_cons_succ, List.set_cons_zero, List.set_cons_succ, List.map_cons, List.map_nil, List.cons_append, List.nil_append, List.any_cons, List.any_nil, Option.map_some, Option.map_none, Bool.or_false, Bool.false_or, Bool.or_true, Bool.true_or, Bool.and_true, Bool.true_and, Bool.and_false, Bool.false_and, Bool.not_true, Bool.not_false, I2, J2, S2, set_set]
    rw [hn']
    refine seq_ fun D' hn' hr' hb' hc2 hx' => ?_
    have g1 : (0:Int) ≤ 3 ∧ (3:Int) ≤ 1000 ∧ (j + 1572869 * (k + 1)).natAbs < 18446744073709551616 := by omega
    simp only [sAsg, sPar, sIf, sRet, sRetN, sExp, sSet, sAug, sAugS, sBrk, sCnt, sRaise, sNil, exE, fVar, fLit, fNeg, fIsN, fBin, fChain, fAnd, fOr, fNot, fIte, fNil, fCons, fTup, fLst, fFN, fMt, fIsi, fCall, fSl1, fRev, fNewL, fFC, fXv, fIt, fSeq, fin_v, fin_n, finE_v, finE_n, gAdd_i, gAdd_s, gSub_i, gEq_i, gEq_b, gNe_i, gNe_b, gLt_i, gLe_i, gGt_i, gGe_i, gInt_i, gInt_b, gInp_a, gInp_s, gLen_t, gTuple_t, gList_t, chk_t, asgT, asgL, tyD, isNon, gRange1_i, Ty.isa, List.getElem?_cons_zero, List.getElem?_cons_succ, List.set_cons_zero, List.set_cons_succ, List.map_cons, List.map_nil, List.cons_append, List.nil_append, List.any_cons, List.any_nil, Option.map_some, Option.map_none, Bool.or_false, Bool.false_or, Bool.or_true, Bool.true_or, Bool.and_true, Bool.true_and, Bool.and_false, Bool.false_and, Bool.not_true, Bool.not_false, I1, I2, gMul_i (mul_l (i := 1572869) (by decide)), gPow_i g1, gMod_i (show (0:Int) < 2305843009213693907 by decide)]
    rw [hn']
    refine seq_ fun D' hn' hr' hb' hc2 hx' => ?_
    have b1 := Int.emod_nonneg ((j + 1572869 * (k + 1)) ^ (3:Int).toNat) (show (2305843009213693907:Int) ≠ 0 by decide)
    have b2 := Int.emod_lt_of_pos ((j + 1572869 * (k + 1)) ^ (3:Int).toNat) (show (0:Int) < 2305843009213693907 by decide)
    generalize (j + 1572869 * (k + 1)) ^ (3:Int).toNat % 2305843009213693907 = m1 at b1 b2
    have g2 : (0:Int) ≤ 2 ∧ (2:Int) ≤ 1000 ∧ (m1 + 389 * (k + 1)).natAbs < 18446744073709551616 := by omega
    simp only [sAsg, sPar, sIf, sRet, sRetN, sExp, sSet, sAug, sAugS, sBrk, sCnt, sRaise, sNil, exE, fVar, fLit, fNeg, fIsN, fBin, fChain, fAnd, fOr, fNot, fIte, fNil, fCons, fTup, fLst, fFN, fMt, fIsi, fCall, fSl1, fRev, fNewL, fFC, fXv, fIt, fSeq, fin_v, fin_n, finE_v, finE_n, gAdd_i, gAdd_s, gSub_i, gEq_i, gEq_b, gNe_i, gNe_b, gLt_i, gLe_i, gGt_i, gGe_i, gInt_i, gInt_b, gInp_a, gInp_s, gLen_t, gTuple_t, gList_t, chk_t, asgT, asgL, tyD, isNon, gRange1_i, Ty.isa, List.getElem?_cons_zero, List.getElem?_cons_succ, List.set_cons_zero, List.set_cons_succ, List.map_cons, List.map_nil, List.cons_append, List.nil_append, List.any_cons, List.any_nil, Option.map_some, Option.map_none, Bool.or_false, Bool.false_or, Bool.or_true, Bool.true_or, Bool.and_true, Bool.true_and, Bool.and_false, Bool.false_and, Bool.not_true, Bool.not_false, I1, I2, gMul_i (mul_l (i := 389) (by decide)), gPow_i g2, gMod_i (show (0:Int) < 999999999999999877 by decide)]
    rw [hn']
    simp only [sAsg, sPar, sIf, sRet, sRetN, sExp, sSet, sAug, sAugS, sBrk, sCnt, sRaise, sNil, exE, fVar, fLit, fNeg, fIsN, fBin, fChain, fAnd, fOr, fNot, fIte, fNil, fCons, fTup, fLst, fFN, fMt, fIsi, fCall, fSl1, fRev, fNewL, fFC, fXv, fIt, fSeq, fin_v, fin_n, finE_v, finE_n, gAdd_i, gAdd_s, gSub_i, gEq_i, gEq_b, gNe_i, gNe_b, gLt_i, gLe_i, gGt_i, gGe_i, gInt_i, gInt_b, gInp_a, gInp_s, gLen_t, gTuple_t, gList_t, chk_t, asgT, asgL, tyD, isNon, gRange1_i, Ty.isa, List.getElem?_cons_zero, List.getElem?_cons_succ, List.set_cons_zero, List.set_cons_succ, List.map_cons, List.map_nil, List.cons_append, List.nil_append, List.any_cons, List.any_nil, Option.map_some, Option.map_none, Bool.or_false, Bool.false_or, Bool.or_true, Bool.true_or, Bool.and_true, Bool.true_and, Bool.and_false, Bool.false_and, Bool.not_true, Bool.not_false, gDiv_i (show (0:Int) < 16 by decide) (show (16:Int).natAbs.log2 < 8000 by decide), gMod_i hm]
    exact fin _ _ _ i0 (by omega) (by omega) (Int.emod_nonneg _ (by omega)) (Int.emod_lt_of_pos _ hm)
/-- a draw: 0 ≤ v < many -/
theorem take_ok {h : VH} {kk c : Nat} {many : Int} {Q : PQ} {E : PX} (hp : PotAt h kk c) (hc : c ≤ 1000000) (hm : 0 < many) (hm2 : many.natAbs.log2 < 8000)
    (hQ : ∀ v h', 0 ≤ v → v < many → h'.length = h.length → (∀ l, l ≠ kk → lstAt h' l = lstAt h l) → PotAt h' kk (c + 1) → Q (.int v) h') : sp_take [.ref kk, .int many] h Q E := by
  obtain ⟨i, j, k, p, cells, e, C, hl⟩ := hp
  have hk := lstAt_len e
  have L : ∀ ds : List D, lstAt (h.set kk (.lst ds)) kk = some ds := fun ds => lstAt_set hk
  have eself : h.set kk (.lst (potL i j k p cells)) = h := by
    apply List.ext_getElem?
    intro n
    by_cases hn : kk = n
    · subst hn
      rw [List.getElem?_set_self hk]
      unfold lstAt at e
      cases q : h[kk]? with
      | none => rw [q] at e; cases e
      | some o =>
        rw [q] at e
        cases o with
        | lst ds => cases e; rfl
    · rw [List.getElem?_set_ne hn]
  have I0 := gIx_l (i := 0) e pot_0
  have I3 := gIx_l (i := 3) e pot_3
  have len := gLen_l e
  refine fnSp_of rfl ?_
  show b_take [some (.ref kk), some (.int many), none, none, none] h (fnD Q E)
  refine seq_ fun D hn hr hb hc' hx => ?_
  have tail : ∀ (z : Option Ev.D) i' j' p', PotC c i' j' k p' → D.nx [some (.ref kk), some (.int many), z, none, none] (h.set kk (.lst (potL i' j' k p' cells))) := fun z i' j' p' C' => by
    rw [hn]
    exact take_tail hk C' hc hl hm hm2 hQ
  have stay : D.nx [some (.ref kk), some (.int many), none, none, none] h := by
    have := tail none i j p C
    rw [eself] at this
    exact this
  obtain ⟨i0, j0, j1, k0, k1, p0⟩ := C
  by_cases h1 : i = 0
  · by_cases h2 : p < (potL i j k p cells).length
    · simp only [sAsg, sPar, sIf, sRet, sRetN, sExp, sSet, sAug, sAugS, sBrk, sCnt, sRaise, sNil, exE, fVar, fLit, fNeg, fIsN, fBin, fChain, fAnd, fOr, fNot, fIte, fNil, fCons, fTup, fLst, fFN, fMt, fIsi, fCall, fSl1, fRev, fNewL, fFC, fXv, fIt, fSeq, fin_v, fin_n, finE_v, finE_n, gAdd_i, gAdd_s, gSub_i, gEq_i, gEq_b, gNe_i, gNe_b, gLt_i, gLe_i, gGt_i, gGe_i, gInt_i, gInt_b, gInp_a, gInp_s, gLen_t, gTuple_t, gList_t, chk_t, asgT, asgL, tyD, isNon, gRange1_i, Ty.isa, List.getElem?_cons_zero, List.getElem?_cons_succ, List.set_cons_zero, List.set_cons_succ, List.map_cons, List.map_nil, List.cons_append, List.nil_append, List.any_cons, List.any_nil, Option.map_some, Option.map_none, Bool.or_false, Bool.false_or, Bool.or_true, Bool.true_or, Bool.and_true, Bool.true_and, Bool.and_false, Bool.false_and, Bool.not_true, Bool.not_false, I0, I3, len, decide_eq_true h1, decide_eq_true h2]
      rw [pot_len] at h2
      obtain ⟨cell, ec⟩ := pot_cell (i := i) (j := j) (k := k) (cells := cells) p0 (by omega)
      have Ic := gIx_l e ec
      have J3 := gIxL_l (i := 3) e pot_3
      have S3 := ps3 (v := p + 1) e
      refine seq_ fun D1 hn1 hr1 hb1 hc1 hx1 => ?_
      simp only [sAsg, sPar, sIf, sRet, sRetN, sExp, sSet, sAug, sAugS, sBrk, sCnt, sRaise, sNil, exE, fVar, fLit, fNeg, fIsN, fBin, fChain, fAnd, fOr, fNot, fIte, fNil, fCons, fTup, fLst, fFN, fMt, fIsi, fCall, fSl1, fRev, fNewL, fFC, fXv, fIt, fSeq, fin_v, fin_n, finE_v, finE_n, gAdd_i, gAdd_s, gSub_i, gEq_i, gEq_b, gNe_i, gNe_b, gLt_i, gLe_i, gGt_i, gGe_i, gInt_i, gInt_b, gInp_a, gInp_s, gLen_t, gTuple_t, gList_t, chk_t, asgT, asgL, tyD, isNon, gRange1_i, Ty.isa, List.getElem?_cons_zero, List.getElem?_cons_succ, List.set_cons_zero, List.set_cons_succ, List.map_cons, List.map_nil, List.cons_append, List.nil_append, List.any_cons, List.any_nil, Option.map_some, Option.map_none, Bool.or_false, Bool.false_or, Bool.or_true, Bool.true_or, Bool.and_true, Bool.true_and, Bool.and_false, Bool.false_and, Bool.not_true, Bool.not_false, I3, Ic]
      rw [hn1]
      refine seq_ fun D2 hn2 hr2 hb2 hc2 hx2 => ?_
      simp only [sAsg, sPar, sIf, sRet, sRetN, sExp, sSet, sAug, sAugS, sBrk, sCnt, sRaise, sNil, exE, fVar, fLit, fNeg, fIsN, fBin, fChain, fAnd, fOr, fNot, fIte, fNil, fCons, fTup, fLst, fFN, fMt, fIsi, fCall, fSl1, fRev, fNewL, fFC, fXv, fIt, fSeq, fin_v, fin_n, finE_v, finE_n, gAdd_i, gAdd_s, gSub_i, gEq_i, gEq_b, gNe_i, gNe_b, gLt_i, gLe_i, gGt_i, gGe_i, gInt_i, gInt_b, gInp_a, gInp_s, gLen_t, gTuple_t, gList_t, chk_t, asgT, asgL, tyD, isNon, gRange1_i, Ty.isa, List.getElem?_cons_zero, List.getElem?_cons_succ, List.set_cons_zero, List.set_cons_succ, List.map_cons, List.map_nil, List.cons_append, List.nil_append, List.any_cons, List.any_nil, Option.map_some, Option.map_none, Bool.or_false, Bool.false_or, Bool.or_true, Bool.true_or, Bool.and_true, Bool.true_and, Bool.and_false, Bool.false_and, Bool.not_true, Bool.not_false, J3, S3]
      rw [hn2]
      have I1 := gIx_l (i := 1) (L (potL i j k (p + 1) cells)) pot_1
      have I3' := gIx_l (i := 3) (L (potL i j k (p + 1) cells)) pot_3
      have S0 := ps0 (v := cell - 10 ^ (18 : Int).toNat) (L (potL i j k (p + 1) cells))
      have S1 := ps1 (v := ((j + 7 * cell) * 3145739 + 769 * (p + 1)) % 2305843009213693907) (L (potL i j k (p + 1) cells))
      have gp : (0:Int) ≤ 18 ∧ (18:Int) ≤ 1000 ∧ (10:Int).natAbs < 18446744073709551616 := by decide
      by_cases h3 : (10:Int) ^ (18 : Int).toNat ≤ cell
      · simp only [sAsg, sPar, sIf, sRet, sRetN, sExp, sSet, sAug, sAugS, sBrk, sCnt, sRaise, sNil, exE, fVar, fLit, fNeg, fIsN, fBin, fChain, fAnd, fOr, fNot, fIte, fNil, fCons, fTup, fLst, fFN, fMt, fIsi, fCall, fSl1, fRev, fNewL, fFC, fXv, fIt, fSeq, fin_v, fin_n, finE_v, finE_n, gAdd_i, gAdd_s, gSub_i, gEq_i, gEq_b, gNe_i, gNe_b, gLt_i, gLe_i, gGt_i, gGe_i, gInt_i, gInt_b, gInp_a, gInp_s, gLen_t, gTuple_t, gList_t, chk_t, asgT, asgL, tyD, isNon, gRange1_i, Ty.isa, List.getElem?_cons_zero, List.getElem?_cons_succ, List.set_cons_zero, List.set_cons_succ, List.map_cons, List.map_nil, List.cons_append, List.nil_append, List.any_cons, List.any_nil, Option.map_some, Option.map_none, Bool.or_false, Bool.false_or, Bool.or_true, Bool.true_or, Bool.and_true, Bool.true_and, Bool.and_false, Bool.false_and, Bool.not_true, Bool.not_false, gPow_i gp, decide_eq_true h3, S0, set_set]
        exact tail _ _ _ _ ⟨by omega, j0, j1, k0, k1, by omega⟩
      · simp only [sAsg, sPar, sIf, sRet, sRetN, sExp, sSet, sAug, sAugS, sBrk, sCnt, sRaise, sNil, exE, fVar, fLit, fNeg, fIsN, fBin, fChain, fAnd, fOr, fNot, fIte, fNil, fCons, fTup, fLst, fFN, fMt, fIsi, fCall, fSl1, fRev, fNewL, fFC, fXv, fIt, fSeq, fin_v, fin_n, finE_v, finE_n, gAdd_i, gAdd_s, gSub_i, gEq_i, gEq_b, gNe_i, gNe_b, gLt_i, gLe_i, gGt_i, gGe_i, gInt_i, gInt_b, gInp_a, gInp_s, gLen_t, gTuple_t, gList_t, chk_t, asgT, asgL, tyD, isNon, gRange1_i, Ty.isa, List.getElem?_cons_zero, List.getElem?_cons_succ, List.set_cons_zero, List.set_cons_succ, List.map_cons, List.map_nil, List.cons_append, List.nil_append, List.any_cons, List.any_nil, Option.map_some, Option.map_none, Bool.or_false, Bool.false_or, Bool.or_true, Bool.true_or, Bool.and_true, Bool.true_and, Bool.and_false, Bool.false_and, Bool.not_true, Bool.not_false, gPow_i gp, decide_eq_false h3, I1, I3', gMul_i (mul_l (i := 7) (by decide)), gMul_i (mul_l (i := 769) (by decide)), gMul_i (mul_r (i := j + 7 * cell) (j := 3145739) (by decide)), gMod_i (show (0:Int) < 2305843009213693907 by decide), S1, set_set]
        exact tail _ _ _ _ ⟨i0, Int.emod_nonneg _ (by decide), Int.emod_lt_of_pos _ (by decide), k0, k1, by omega⟩
    · simp only [sAsg, sPar, sIf, sRet, sRetN, sExp, sSet, sAug, sAugS, sBrk, sCnt, sRaise, sNil, exE, fVar, fLit, fNeg, fIsN, fBin, fChain, fAnd, fOr, fNot, fIte, fNil, fCons, fTup, fLst, fFN, fMt, fIsi, fCall, fSl1, fRev, fNewL, fFC, fXv, fIt, fSeq, fin_v, fin_n, finE_v, finE_n, gAdd_i, gAdd_s, gSub_i, gEq_i, gEq_b, gNe_i, gNe_b, gLt_i, gLe_i, gGt_i, gGe_i, gInt_i, gInt_b, gInp_a, gInp_s, gLen_t, gTuple_t, gList_t, chk_t, asgT, asgL, tyD, isNon, gRange1_i, Ty.isa, List.getElem?_cons_zero, List.getElem?_cons_succ, List.set_cons_zero, List.set_cons_succ, List.map_cons, List.map_nil, List.cons_append, List.nil_append, List.any_cons, List.any_nil, Option.map_some, Option.map_none, Bool.or_false, Bool.false_or, Bool.or_true, Bool.true_or, Bool.and_true, Bool.true_and, Bool.and_false, Bool.false_and, Bool.not_true, Bool.not_false, I0, I3, len, decide_eq_true h1, decide_eq_false h2]
      exact stay
  · simp only [sAsg, sPar, sIf, sRet, sRetN, sExp, sSet, sAug, sAugS, sBrk, sCnt, sRaise, sNil, exE, fVar, fLit, fNeg, fIsN, fBin, fChain, fAnd, fOr, fNot, fIte, fNil, fCons, fTup, fLst, fFN, fMt, fIsi, fCall, fSl1, fRev, fNewL, fFC, fXv, fIt, fSeq, fin_v, fin_n, finE_v, finE_n, gAdd_i, gAdd_s, gSub_i, gEq_i, gEq_b, gNe_i, gNe_b, gLt_i, gLe_i, gGt_i, gGe_i, gInt_i, gInt_b, gInp_a, gInp_s, gLen_t, gTuple_t, gList_t, chk_t, asgT, asgL, tyD, isNon, gRange1_i, Ty.isa, List.getElem?_cons_zero, List.getElem?_cons_succ, List.set_cons_zero, List.set_cons_succ, List.map_cons, List.map_nil, List.cons_append, List.nil_append, List.any_cons, List.any_nil, Option.map_some, Option.map_none, Bool.or_false, Bool.false_or, Bool.or_true, Bool.true_or, Bool.and_true, Bool.true_and, Bool.and_false, Bool.false_and, Bool.not_true, Bool.not_false, I0, decide_eq_false h1]
    exact stay
/-- the pot at the start -/
theorem pot_ok {h : VH} {d : D} {ns : List Int} {Q : PQ} {E : PX} (hd : ∀ g, gList [d] (h ++ g) = some (.new (ns.map D.int))) (hl : ns.length ≤ 1000) (hQ : ∀ h' kk, h.length ≤ kk → PotAt h' kk 0 → (∀ l, l < h.length → lstAt h' l = lstAt h l) → Q (.ref kk) h') : sp_pot [d] h Q E := by
  refine fnSp_of rfl ?_
  show b_pot [some d] h (fnD Q E)
  have e0 := hd []
  rw [List.append_nil] at e0
  have e1 := hd [Ob.lst [.int 0, .int 12582917, .int 0, .int 4]]
  have c1 : decide ([D.int 0, .int 12582917, .int 0, .int 4].length ≤ line) = true := by decide
  have A := gAdd_l (h := h ++ [Ob.lst [.int 0, .int 12582917, .int 0, .int 4]] ++ [Ob.lst (ns.map D.int)]) (k := h.length) (l := (h ++ [Ob.lst [.int 0, .int 12582917, .int 0, .int 4]]).length) (xs := [.int 0, .int 12582917, .int 0, .int 4]) (ys := ns.map D.int)
    (by rw [List.append_assoc]; exact lstAt_new) lstAt_new (by rw [List.length_map]; show 4 + ns.length ≤ 16777216; omega)
  simp only [sAsg, sPar, sIf, sRet, sRetN, sExp, sSet, sAug, sAugS, sBrk, sCnt, sRaise, sNil, exE, fVar, fLit, fNeg, fIsN, fBin, fChain, fAnd, fOr, fNot, fIte, fNil, fCons, fTup, fLst, fFN, fMt, fIsi, fCall, fSl1, fRev, fNewL, fFC, fXv, fIt, fSeq, fin_v, fin_n, finE_v, finE_n, gAdd_i, gAdd_s, gSub_i, gEq_i, gEq_b, gNe_i, gNe_b, gLt_i, gLe_i, gGt_i, gGe_i, gInt_i, gInt_b, gInp_a, gInp_s, gLen_t, gTuple_t, gList_t, chk_t, asgT, asgL, tyD, isNon, gRange1_i, Ty.isa, List.getElem?_cons_zero, List.getElem?_cons_succ, List.set_cons_zero, List.set_cons_succ, List.map_cons, List.map_nil, List.cons_append, List.nil_append, List.any_cons, List.any_nil, Option.map_some, Option.map_none, Bool.or_false, Bool.false_or, Bool.or_true, Bool.true_or, Bool.and_true, Bool.true_and, Bool.and_false, Bool.false_and, Bool.not_true, Bool.not_false, b_pot, c1, e1, A]
  refine hQ _ _ ?_ ⟨0, 12582917, 0, 4, ns, ?_, ⟨by decide, by decide, by decide, by decide, by decide, by decide⟩, hl⟩ fun l hl => ?_
  · simp only [List.length_append]; omega
  · exact lstAt_new
  · unfold lstAt
    rw [List.append_assoc, List.append_assoc, List.getElem?_append_left hl]
/-! ### comprehensions whose items leave the heap alone -/
theorem compL_pure {it : ItF} {tg : Tg} {fe : FE} {env : Env} {h : VH} {Q : PL} {xs ys : List D} (hit : ∀ i, it i h = some xs[i]?)
    (hb : ∀ (i : Nat) (x : D), xs[i]? = some x → ∃ (env2 : Env) (y : D), asgT tg x h env = some env2 ∧ ys[i]? = some y ∧ ∀ Q' : PQ, Q' y h → fe env2 h Q' noX) (hlen : ys.length = xs.length) (hl : xs.length < line) (hQ : Q ys h) : compL it tg none fe env fuel 0 [] h Q := by
  have key : ∀ n i, i ≤ xs.length → xs.length < n + i → compL it tg none fe env n i (ys.take i) h Q := by
    intro n
    induction n with
    | zero => intro i h1 h2; omega
    | succ n ih =>
      intro i h1 h2
      unfold compL
      rw [hit i]
      cases e : xs[i]? with
      | none =>
        have : xs.length ≤ i := List.getElem?_eq_none_iff.mp e
        rw [List.take_of_length_le (by omega)]
        exact hQ
      | some x =>
        obtain ⟨env2, y, e1, e2, e3⟩ := hb i x e
        have hi : i < xs.length := (List.getElem?_eq_some_iff.mp e).1
        simp only [e1]
        refine e3 _ ?_
        refine chk_of (decide_eq_true (by rw [List.length_take]; omega)) ?_
        have := ih (i + 1) hi (by omega)
        rw [List.take_add_one, e2] at this
        exact this
  exact key fuel 0 (Nat.zero_le _) (by rw [fuel_eq]; have : line = 16777216 := rfl; omega)
theorem bools_map (bs : List Bool) : boolsD (bs.map D.bl) = some bs := by
  induction bs with
  | nil => rfl
  | cons b bs ih =>
    show (boolsD (bs.map D.bl)).map (b :: ·) = some (b :: bs)
    rw [ih] <;> rfl
theorem cAll_true {n : Nat} : cAll (List.replicate n (D.bl true)) = some (.val (.bl true)) := by
  unfold cAll
  have e : List.replicate n (D.bl true) = (List.replicate n true).map D.bl := by simp
  rw [e, bools_map]
  simp
/-! ### the comparison -/
def SameD (h : VH) : Nat → D → D → Prop
  | 0, _, _ => False
  | n + 1, got, due => match due with
    | .non => got = .non
    | .bl b => got = .bl b
    | .str s => got = .str s
    | .int i => got = .int i
    | .tup ds => ∃ gs, got = .tup gs ∧ gs.length = ds.length ∧ ds.length < 1000000 ∧ ∀ (i : Nat) (g d : D), gs[i]? = some g → ds[i]? = some d → SameD h n g d
    | .ref k => ∃ l gs ds, got = .ref l ∧ lstAt h l = some gs ∧ lstAt h k = some ds ∧ gs.length = ds.length ∧ ds.length < 1000000 ∧ ∀ (i : Nat) (g d : D), gs[i]? = some g → ds[i]? = some d → SameD h n g d
    | _ => False
theorem atI_nat' {xs : List D} {j : Nat} {v : D} (h : xs[j]? = some v) : atI xs (j : Int) = some v := atI_nat h
theorem same_seq {h : VH} {sp : Ev.Spec} {got due : D} {gs ds : List D} {Q : PQ} (hl : gs.length = ds.length) (hs : ds.length < 1000000) (g2 : gLen [due] h = some (.val (.int ds.length)))
    (i1 : ∀ (i : Nat) (g : D), gs[i]? = some g → gIx got (.int i) h = some (.val g)) (i2 : ∀ (i : Nat) (g : D), ds[i]? = some g → gIx due (.int i) h = some (.val g))
    (hsp : ∀ (i : Nat) (g d : D), gs[i]? = some g → ds[i]? = some d → ∀ Q' : PQ, Q' (.bl true) h → sp [g, d] h Q' noX) (hQ : Q (.bl true) h) {E : PX} (g1 : gLen [got] h = some (.val (.int gs.length))) :
    sRet (fAnd (fBin gEq (fFN gLen (fCons (fVar 0) fNil)) (fFN gLen (fCons (fVar 1) fNil))) (fFC cAll (fComp (fIt gRange1 (fCons (fFN gLen (fCons (fVar 1) fNil)) fNil)) (.nm 2) [2] none (fCall sp (fCons (fBin gIx (fVar 0) (fVar 2)) (fCons (fBin gIx (fVar 1) (fVar 2)) fNil)))))) [some got, some due, none] h (fnD Q E) := by
  have hb : big62 (ds.length : Int) = true := by
    unfold big62
    exact decide_eq_true (by omega)
  have hd : decide ((gs.length : Int) = (ds.length : Int)) = true := decide_eq_true (by omega)
  simp only [sAsg, sPar, sIf, sRet, sRetN, sExp, sSet, sAug, sAugS, sBrk, sCnt, sRaise, sNil, exE, fVar, fLit, fNeg, fIsN, fBin, fChain, fAnd, fOr, fNot, fIte, fNil, fCons, fTup, fLst, fFN, fMt, fIsi, fCall, fSl1, fRev, fNewL, fFC, fXv, fIt, fSeq, fin_v, fin_n, finE_v, finE_n, gAdd_i, gAdd_s, gSub_i, gEq_i, gEq_b, gNe_i, gNe_b, gLt_i, gLe_i, gGt_i, gGe_i, gInt_i, gInt_b, gInp_a, gInp_s, gLen_t, gTuple_t, gList_t, chk_t, asgT, asgL, tyD, isNon, gRange1_i, Ty.isa, List.getElem?_cons_zero, List.getElem?_cons_succ, List.set_cons_zero, List.set_cons_succ, List.map_cons, List.map_nil, List.cons_append, List.nil_append, List.any_cons, List.any_nil, Option.map_some, Option.map_none, Bool.or_false, Bool.false_or, Bool.or_true, Bool.true_or, Bool.and_true, Bool.true_and, Bool.and_false, Bool.false_and, Bool.not_true, Bool.not_false, g1, g2, hd, fComp, gRange1_i hb, Int.toNat_natCast]
  refine compL_pure (xs := (List.range ds.length).map fun i => .int (i : Nat)) (ys := List.replicate ds.length (.bl true)) (fun i => ?_) (fun i x e => ?_) (by simp) (by rw [List.length_map, List.length_range]; show ds.length < 16777216; omega) ?_
  · unfold itRng
    by_cases hi : i < ds.length
    · rw [if_pos hi, List.getElem?_map, List.getElem?_range hi]
      simp
    · rw [if_neg hi, List.getElem?_eq_none (by simpa using hi)]
  · have hi : i < ds.length := by
      have := (List.getElem?_eq_some_iff.mp e).1
      simpa using this
    rw [List.getElem?_map, List.getElem?_range hi] at e
    cases e
    have hi2 : i < gs.length := by omega
    refine ⟨_, _, rfl, by rw [List.getElem?_replicate, if_pos hi], fun Q' q => ?_⟩
    have a1 := i1 i _ (List.getElem?_eq_getElem hi2)
    have a2 := i2 i _ (List.getElem?_eq_getElem hi)
    simp only [sAsg, sPar, sIf, sRet, sRetN, sExp, sSet, sAug, sAugS, sBrk, sCnt, sRaise, sNil, exE, fVar, fLit, fNeg, fIsN, fBin, fChain, fAnd, fOr, fNot, fIte, fNil, fCons, fTup, fLst, fFN, fMt, fIsi, fCall, fSl1, fRev, fNewL, fFC, fXv, fIt, fSeq, fin_v, fin_n, finE_v, finE_n, gAdd_i, gAdd_s, gSub_i, gEq_i, gEq_b, gNe_i, gNe_b, gLt_i, gLe_i, gGt_i, gGe_i, gInt_i, gInt_b, gInp_a, gInp_s, gLen_t, gTuple_t, gList_t, chk_t, asgT, asgL, tyD, isNon, gRange1_i, Ty.isa, List.getElem?_cons_zero, List.getElem?_cons_succ, List.set_cons_zero, List.set_cons_succ, List.map_cons, List.map_nil, List.cons_append, List.nil_append, List.any_cons, List.any_nil, Option.map_some, Option.map_none, Bool.or_false, Bool.false_or, Bool.or_true, Bool.true_or, Bool.and_true, Bool.true_and, Bool.and_false, Bool.false_and, Bool.not_true, Bool.not_false, wipeD, a1, a2]
    exact hsp i _ _ (List.getElem?_eq_getElem hi2) (List.getElem?_eq_getElem hi) Q' q
  · simp only [cAll_true, fin_v]
    exact hQ
theorem same_ok : ∀ (n : Nat) {got due : D} {h : VH} {Q : PQ} {E : PX}, SameD h n got due → Q (.bl true) h → sp_same n [got, due] h Q E
  | 0, _, _, _, _, _, s, _ => s.elim
  | n + 1, got, due, h, Q, E, s, hQ => by
    refine fnSp_of rfl ?_
    show b_same (sp_same n) [some got, some due, none] h (fnD Q E)
    have ih : ∀ {g d : D} {Q' : PQ}, SameD h n g d → Q' (.bl true) h → sp_same n [g, d] h Q' noX := fun s q => same_ok n s q
    generalize sp_same n = sp at ih
    unfold SameD at s
    refine seq_ fun D hn hr hb hc' hx => ?_
    cases due with
    | non =>
      subst s
      simp only [sAsg, sPar, sIf, sRet, sRetN, sExp, sSet, sAug, sAugS, sBrk, sCnt, sRaise, sNil, exE, fVar, fLit, fNeg, fIsN, fBin, fChain, fAnd, fOr, fNot, fIte, fNil, fCons, fTup, fLst, fFN, fMt, fIsi, fCall, fSl1, fRev, fNewL, fFC, fXv, fIt, fSeq, fin_v, fin_n, finE_v, finE_n, gAdd_i, gAdd_s, gSub_i, gEq_i, gEq_b, gNe_i, gNe_b, gLt_i, gLe_i, gGt_i, gGe_i, gInt_i, gInt_b, gInp_a, gInp_s, gLen_t, gTuple_t, gList_t, chk_t, asgT, asgL, tyD, isNon, gRange1_i, Ty.isa, List.getElem?_cons_zero, List.getElem?_cons_succ, List.set_cons_zero, List.set_cons_succ, List.map_cons, List.map_nil, List.cons_append, List.nil_append, List.any_cons, List.any_nil, Option.map_some, Option.map_none, Bool.or_false, Bool.false_or, Bool.or_true, Bool.true_or, Bool.and_true, Bool.true_and, Bool.and_false, Bool.false_and, Bool.not_true, Bool.not_false]
      rw [hr]
      exact hQ
    | bl b =>
      subst s
      simp only [sAsg, sPar, sIf, sRet, sRetN, sExp, sSet, sAug, sAugS, sBrk, sCnt, sRaise, sNil, exE, fVar, fLit, fNeg, fIsN, fBin, fChain, fAnd, fOr, fNot, fIte, fNil, fCons, fTup, fLst, fFN, fMt, fIsi, fCall, fSl1, fRev, fNewL, fFC, fXv, fIt, fSeq, fin_v, fin_n, finE_v, finE_n, gAdd_i, gAdd_s, gSub_i, gEq_i, gEq_b, gNe_i, gNe_b, gLt_i, gLe_i, gGt_i, gGe_i, gInt_i, gInt_b, gInp_a, gInp_s, gLen_t, gTuple_t, gList_t, chk_t, asgT, asgL, tyD, isNon, gRange1_i, Ty.isa, List.getElem?_cons_zero, List.getElem?_cons_succ, List.set_cons_zero, List.set_cons_succ, List.map_cons, List.map_nil, List.cons_append, List.nil_append, List.any_cons, List.any_nil, Option.map_some, Option.map_none, Bool.or_false, Bool.false_or, Bool.or_true, Bool.true_or, Bool.and_true, Bool.true_and, Bool.and_false, Bool.false_and, Bool.not_true, Bool.not_false]
      rw [hn]
      refine seq_ fun D2 hn2 hr2 hb2 hc2 hx2 => ?_
      simp only [sAsg, sPar, sIf, sRet, sRetN, sExp, sSet, sAug, sAugS, sBrk, sCnt, sRaise, sNil, exE, fVar, fLit, fNeg, fIsN, fBin, fChain, fAnd, fOr, fNot, fIte, fNil, fCons, fTup, fLst, fFN, fMt, fIsi, fCall, fSl1, fRev, fNewL, fFC, fXv, fIt, fSeq, fin_v, fin_n, finE_v, finE_n, gAdd_i, gAdd_s, gSub_i, gEq_i, gEq_b, gNe_i, gNe_b, gLt_i, gLe_i, gGt_i, gGe_i, gInt_i, gInt_b, gInp_a, gInp_s, gLen_t, gTuple_t, gList_t, chk_t, asgT, asgL, tyD, isNon, gRange1_i, Ty.isa, List.getElem?_cons_zero, List.getElem?_cons_succ, List.set_cons_zero, List.set_cons_succ, List.map_cons, List.map_nil, List.cons_append, List.nil_append, List.any_cons, List.any_nil, Option.map_some, Option.map_none, Bool.or_false, Bool.false_or, Bool.or_true, Bool.true_or, Bool.and_true, Bool.true_and, Bool.and_false, Bool.false_and, Bool.not_true, Bool.not_false, decide_true]
      rw [hr2]
      exact hQ
    | str b =>
      subst s
      simp only [sAsg, sPar, sIf, sRet, sRetN, sExp, sSet, sAug, sAugS, sBrk, sCnt, sRaise, sNil, exE, fVar, fLit, fNeg, fIsN, fBin, fChain, fAnd, fOr, fNot, fIte, fNil, fCons, fTup, fLst, fFN, fMt, fIsi, fCall, fSl1, fRev, fNewL, fFC, fXv, fIt, fSeq, fin_v, fin_n, finE_v, finE_n, gAdd_i, gAdd_s, gSub_i, gEq_i, gEq_b, gNe_i, gNe_b, gLt_i, gLe_i, gGt_i, gGe_i, gInt_i, gInt_b, gInp_a, gInp_s, gLen_t, gTuple_t, gList_t, chk_t, asgT, asgL, tyD, isNon, gRange1_i, Ty.isa, List.getElem?_cons_zero, List.getElem?_cons_succ, List.set_cons_zero, List.set_cons_succ, List.map_cons, List.map_nil, List.cons_append, List.nil_append, List.any_cons, List.any_nil, Option.map_some, Option.map_none, Bool.or_false, Bool.false_or, Bool.or_true, Bool.true_or, Bool.and_true, Bool.true_and, Bool.and_false, Bool.false_and, Bool.not_true, Bool.not_false]
      rw [hn]
      refine seq_ fun D2 hn2 hr2 hb2 hc2 hx2 => ?_
      simp only [sAsg, sPar, sIf, sRet, sRetN, sExp, sSet, sAug, sAugS, sBrk, sCnt, sRaise, sNil, exE, fVar, fLit, fNeg, fIsN, fBin, fChain, fAnd, fOr, fNot, fIte, fNil, fCons, fTup, fLst, fFN, fMt, fIsi, fCall, fSl1, fRev, fNewL, fFC, fXv, fIt, fSeq, fin_v, fin_n, finE_v, finE_n, gAdd_i, gAdd_s, gSub_i, gEq_i, gEq_b, gNe_i, gNe_b, gLt_i, gLe_i, gGt_i, gGe_i, gInt_i, gInt_b, gInp_a, gInp_s, gLen_t, gTuple_t, gList_t, chk_t, asgT, asgL, tyD, isNon, gRange1_i, Ty.isa, List.getElem?_cons_zero, List.getElem?_cons_succ, List.set_cons_zero, List.set_cons_succ, List.map_cons, List.map_nil, List.cons_append, List.nil_append, List.any_cons, List.any_nil, Option.map_some, Option.map_none, Bool.or_false, Bool.false_or, Bool.or_true, Bool.true_or, Bool.and_true, Bool.true_and, Bool.and_false, Bool.false_and, Bool.not_true, Bool.not_false, decide_true, gEq_s]
      rw [hr2]
      exact hQ
    | int b =>
      subst s
      simp only [sAsg, sPar, sIf, sRet, sRetN, sExp, sSet, sAug, sAugS, sBrk, sCnt, sRaise, sNil, exE, fVar, fLit, fNeg, fIsN, fBin, fChain, fAnd, fOr, fNot, fIte, fNil, fCons, fTup, fLst, fFN, fMt, fIsi, fCall, fSl1, fRev, fNewL, fFC, fXv, fIt, fSeq, fin_v, fin_n, finE_v, finE_n, gAdd_i, gAdd_s, gSub_i, gEq_i, gEq_b, gNe_i, gNe_b, gLt_i, gLe_i, gGt_i, gGe_i, gInt_i, gInt_b, gInp_a, gInp_s, gLen_t, gTuple_t, gList_t, chk_t, asgT, asgL, tyD, isNon, gRange1_i, Ty.isa, List.getElem?_cons_zero, List.getElem?_cons_succ, List.set_cons_zero, List.set_cons_succ, List.map_cons, List.map_nil, List.cons_append, List.nil_append, List.any_cons, List.any_nil, Option.map_some, Option.map_none, Bool.or_false, Bool.false_or, Bool.or_true, Bool.true_or, Bool.and_true, Bool.true_and, Bool.and_false, Bool.false_and, Bool.not_true, Bool.not_false]
      rw [hn]
      refine seq_ fun D2 hn2 hr2 hb2 hc2 hx2 => ?_
      simp only [sAsg, sPar, sIf, sRet, sRetN, sExp, sSet, sAug, sAugS, sBrk, sCnt, sRaise, sNil, exE, fVar, fLit, fNeg, fIsN, fBin, fChain, fAnd, fOr, fNot, fIte, fNil, fCons, fTup, fLst, fFN, fMt, fIsi, fCall, fSl1, fRev, fNewL, fFC, fXv, fIt, fSeq, fin_v, fin_n, finE_v, finE_n, gAdd_i, gAdd_s, gSub_i, gEq_i, gEq_b, gNe_i, gNe_b, gLt_i, gLe_i, gGt_i, gGe_i, gInt_i, gInt_b, gInp_a, gInp_s, gLen_t, gTuple_t, gList_t, chk_t, asgT, asgL, tyD, isNon, gRange1_i, Ty.isa, List.getElem?_cons_zero, List.getElem?_cons_succ, List.set_cons_zero, List.set_cons_succ, List.map_cons, List.map_nil, List.cons_append, List.nil_append, List.any_cons, List.any_nil, Option.map_some, Option.map_none, Bool.or_false, Bool.false_or, Bool.or_true, Bool.true_or, Bool.and_true, Bool.true_and, Bool.and_false, Bool.false_and, Bool.not_true, Bool.not_false, decide_true]
      rw [hn2]
      refine seq_ fun D3 hn3 hr3 hb3 hc3 hx3 => ?_
      simp only [sAsg, sPar, sIf, sRet, sRetN, sExp, sSet, sAug, sAugS, sBrk, sCnt, sRaise, sNil, exE, fVar, fLit, fNeg, fIsN, fBin, fChain, fAnd, fOr, fNot, fIte, fNil, fCons, fTup, fLst, fFN, fMt, fIsi, fCall, fSl1, fRev, fNewL, fFC, fXv, fIt, fSeq, fin_v, fin_n, finE_v, finE_n, gAdd_i, gAdd_s, gSub_i, gEq_i, gEq_b, gNe_i, gNe_b, gLt_i, gLe_i, gGt_i, gGe_i, gInt_i, gInt_b, gInp_a, gInp_s, gLen_t, gTuple_t, gList_t, chk_t, asgT, asgL, tyD, isNon, gRange1_i, Ty.isa, List.getElem?_cons_zero, List.getElem?_cons_succ, List.set_cons_zero, List.set_cons_succ, List.map_cons, List.map_nil, List.cons_append, List.nil_append, List.any_cons, List.any_nil, Option.map_some, Option.map_none, Bool.or_false, Bool.false_or, Bool.or_true, Bool.true_or, Bool.and_true, Bool.true_and, Bool.and_false, Bool.false_and, Bool.not_true, Bool.not_false, decide_true]
      rw [hr3]
      exact hQ
    | tup ds =>
      obtain ⟨gs, rfl, hl, hs, hh⟩ := s
      simp only [sAsg, sPar, sIf, sRet, sRetN, sExp, sSet, sAug, sAugS, sBrk, sCnt, sRaise, sNil, exE, fVar, fLit, fNeg, fIsN, fBin, fChain, fAnd, fOr, fNot, fIte, fNil, fCons, fTup, fLst, fFN, fMt, fIsi, fCall, fSl1, fRev, fNewL, fFC, fXv, fIt, fSeq, fin_v, fin_n, finE_v, finE_n, gAdd_i, gAdd_s, gSub_i, gEq_i, gEq_b, gNe_i, gNe_b, gLt_i, gLe_i, gGt_i, gGe_i, gInt_i, gInt_b, gInp_a, gInp_s, gLen_t, gTuple_t, gList_t, chk_t, asgT, asgL, tyD, isNon, gRange1_i, Ty.isa, List.getElem?_cons_zero, List.getElem?_cons_succ, List.set_cons_zero, List.set_cons_succ, List.map_cons, List.map_nil, List.cons_append, List.nil_append, List.any_cons, List.any_nil, Option.map_some, Option.map_none, Bool.or_false, Bool.false_or, Bool.or_true, Bool.true_or, Bool.and_true, Bool.true_and, Bool.and_false, Bool.false_and, Bool.not_true, Bool.not_false]
      rw [hn]
      refine seq_ fun D2 hn2 hr2 hb2 hc2 hx2 => ?_
      simp only [sAsg, sPar, sIf, sRet, sRetN, sExp, sSet, sAug, sAugS, sBrk, sCnt, sRaise, sNil, exE, fVar, fLit, fNeg, fIsN, fBin, fChain, fAnd, fOr, fNot, fIte, fNil, fCons, fTup, fLst, fFN, fMt, fIsi, fCall, fSl1, fRev, fNewL, fFC, fXv, fIt, fSeq, fin_v, fin_n, finE_v, finE_n, gAdd_i, gAdd_s, gSub_i, gEq_i, gEq_b, gNe_i, gNe_b, gLt_i, gLe_i, gGt_i, gGe_i, gInt_i, gInt_b, gInp_a, gInp_s, gLen_t, gTuple_t, gList_t, chk_t, asgT, asgL, tyD, isNon, gRange1_i, Ty.isa, List.getElem?_cons_zero, List.getElem?_cons_succ, List.set_cons_zero, List.set_cons_succ, List.map_cons, List.map_nil, List.cons_append, List.nil_append, List.any_cons, List.any_nil, Option.map_some, Option.map_none, Bool.or_false, Bool.false_or, Bool.or_true, Bool.true_or, Bool.and_true, Bool.true_and, Bool.and_false, Bool.false_and, Bool.not_true, Bool.not_false, decide_true]
      rw [hn2]
      refine seq_ fun D3 hn3 hr3 hb3 hc3 hx3 => ?_
      simp only [sAsg, sPar, sIf, sRet, sRetN, sExp, sSet, sAug, sAugS, sBrk, sCnt, sRaise, sNil, exE, fVar, fLit, fNeg, fIsN, fBin, fChain, fAnd, fOr, fNot, fIte, fNil, fCons, fTup, fLst, fFN, fMt, fIsi, fCall, fSl1, fRev, fNewL, fFC, fXv, fIt, fSeq, fin_v, fin_n, finE_v, finE_n, gAdd_i, gAdd_s, gSub_i, gEq_i, gEq_b, gNe_i, gNe_b, gLt_i, gLe_i, gGt_i, gGe_i, gInt_i, gInt_b, gInp_a, gInp_s, gLen_t, gTuple_t, gList_t, chk_t, asgT, asgL, tyD, isNon, gRange1_i, Ty.isa, List.getElem?_cons_zero, List.getElem?_cons_succ, List.set_cons_zero, List.set_cons_succ, List.map_cons, List.map_nil, List.cons_append, List.nil_append, List.any_cons, List.any_nil, Option.map_some, Option.map_none, Bool.or_false, Bool.false_or, Bool.or_true, Bool.true_or, Bool.and_true, Bool.true_and, Bool.and_false, Bool.false_and, Bool.not_true, Bool.not_false, decide_true]
      rw [hn3]
      refine seq_ fun D4 hn4 hr4 hb4 hc4 hx4 => ?_
      simp only [sAsg, sPar, sIf, sRet, sRetN, sExp, sSet, sAug, sAugS, sBrk, sCnt, sRaise, sNil, exE, fVar, fLit, fNeg, fIsN, fBin, fChain, fAnd, fOr, fNot, fIte, fNil, fCons, fTup, fLst, fFN, fMt, fIsi, fCall, fSl1, fRev, fNewL, fFC, fXv, fIt, fSeq, fin_v, fin_n, finE_v, finE_n, gAdd_i, gAdd_s, gSub_i, gEq_i, gEq_b, gNe_i, gNe_b, gLt_i, gLe_i, gGt_i, gGe_i, gInt_i, gInt_b, gInp_a, gInp_s, gLen_t, gTuple_t, gList_t, chk_t, asgT, asgL, tyD, isNon, gRange1_i, Ty.isa, List.getElem?_cons_zero, List.getElem?_cons_succ, List.set_cons_zero, List.set_cons_succ, List.map_cons, List.map_nil, List.cons_append, List.nil_append, List.any_cons, List.any_nil, Option.map_some, Option.map_none, Bool.or_false, Bool.false_or, Bool.or_true, Bool.true_or, Bool.and_true, Bool.true_and, Bool.and_false, Bool.false_and, Bool.not_true, Bool.not_false, decide_true]
      rw [hn4]
      exact same_seq hl hs rfl (fun i g e => gIx_t (atI_nat e)) (fun i g e => gIx_t (atI_nat e)) (fun i g d e1 e2 Q' q => ih (hh i g d e1 e2) q) hQ rfl
    | ref k =>
      obtain ⟨l, gs, ds, rfl, e1, e2, hl, hs, hh⟩ := s
      simp only [sAsg, sPar, sIf, sRet, sRetN, sExp, sSet, sAug, sAugS, sBrk, sCnt, sRaise, sNil, exE, fVar, fLit, fNeg, fIsN, fBin, fChain, fAnd, fOr, fNot, fIte, fNil, fCons, fTup, fLst, fFN, fMt, fIsi, fCall, fSl1, fRev, fNewL, fFC, fXv, fIt, fSeq, fin_v, fin_n, finE_v, finE_n, gAdd_i, gAdd_s, gSub_i, gEq_i, gEq_b, gNe_i, gNe_b, gLt_i, gLe_i, gGt_i, gGe_i, gInt_i, gInt_b, gInp_a, gInp_s, gLen_t, gTuple_t, gList_t, chk_t, asgT, asgL, tyD, isNon, gRange1_i, Ty.isa, List.getElem?_cons_zero, List.getElem?_cons_succ, List.set_cons_zero, List.set_cons_succ, List.map_cons, List.map_nil, List.cons_append, List.nil_append, List.any_cons, List.any_nil, Option.map_some, Option.map_none, Bool.or_false, Bool.false_or, Bool.or_true, Bool.true_or, Bool.and_true, Bool.true_and, Bool.and_false, Bool.false_and, Bool.not_true, Bool.not_false]
      rw [hn]
      refine seq_ fun D2 hn2 hr2 hb2 hc2 hx2 => ?_
      simp only [sAsg, sPar, sIf, sRet, sRetN, sExp, sSet, sAug, sAugS, sBrk, sCnt, sRaise, sNil, exE, fVar, fLit, fNeg, fIsN, fBin, fChain, fAnd, fOr, fNot, fIte, fNil, fCons, fTup, fLst, fFN, fMt, fIsi, fCall, fSl1, fRev, fNewL, fFC, fXv, fIt, fSeq, fin_v, fin_n, finE_v, finE_n, gAdd_i, gAdd_s, gSub_i, gEq_i, gEq_b, gNe_i, gNe_b, gLt_i, gLe_i, gGt_i, gGe_i, gInt_i, gInt_b, gInp_a, gInp_s, gLen_t, gTuple_t, gList_t, chk_t, asgT, asgL, tyD, isNon, gRange1_i, Ty.isa, List.getElem?_cons_zero, List.getElem?_cons_succ, List.set_cons_zero, List.set_cons_succ, List.map_cons, List.map_nil, List.cons_append, List.nil_append, List.any_cons, List.any_nil, Option.map_some, Option.map_none, Bool.or_false, Bool.false_or, Bool.or_true, Bool.true_or, Bool.and_true, Bool.true_and, Bool.and_false, Bool.false_and, Bool.not_true, Bool.not_false, decide_true, e1, e2]
      rw [hn2]
      refine seq_ fun D3 hn3 hr3 hb3 hc3 hx3 => ?_
      simp only [sAsg, sPar, sIf, sRet, sRetN, sExp, sSet, sAug, sAugS, sBrk, sCnt, sRaise, sNil, exE, fVar, fLit, fNeg, fIsN, fBin, fChain, fAnd, fOr, fNot, fIte, fNil, fCons, fTup, fLst, fFN, fMt, fIsi, fCall, fSl1, fRev, fNewL, fFC, fXv, fIt, fSeq, fin_v, fin_n, finE_v, finE_n, gAdd_i, gAdd_s, gSub_i, gEq_i, gEq_b, gNe_i, gNe_b, gLt_i, gLe_i, gGt_i, gGe_i, gInt_i, gInt_b, gInp_a, gInp_s, gLen_t, gTuple_t, gList_t, chk_t, asgT, asgL, tyD, isNon, gRange1_i, Ty.isa, List.getElem?_cons_zero, List.getElem?_cons_succ, List.set_cons_zero, List.set_cons_succ, List.map_cons, List.map_nil, List.cons_append, List.nil_append, List.any_cons, List.any_nil, Option.map_some, Option.map_none, Bool.or_false, Bool.false_or, Bool.or_true, Bool.true_or, Bool.and_true, Bool.true_and, Bool.and_false, Bool.false_and, Bool.not_true, Bool.not_false, decide_true, e1, e2]
      rw [hn3]
      refine seq_ fun D4 hn4 hr4 hb4 hc4 hx4 => ?_
      simp only [sAsg, sPar, sIf, sRet, sRetN, sExp, sSet, sAug, sAugS, sBrk, sCnt, sRaise, sNil, exE, fVar, fLit, fNeg, fIsN, fBin, fChain, fAnd, fOr, fNot, fIte, fNil, fCons, fTup, fLst, fFN, fMt, fIsi, fCall, fSl1, fRev, fNewL, fFC, fXv, fIt, fSeq, fin_v, fin_n, finE_v, finE_n, gAdd_i, gAdd_s, gSub_i, gEq_i, gEq_b, gNe_i, gNe_b, gLt_i, gLe_i, gGt_i, gGe_i, gInt_i, gInt_b, gInp_a, gInp_s, gLen_t, gTuple_t, gList_t, chk_t, asgT, asgL, tyD, isNon, gRange1_i, Ty.isa, List.getElem?_cons_zero, List.getElem?_cons_succ, List.set_cons_zero, List.set_cons_succ, List.map_cons, List.map_nil, List.cons_append, List.nil_append, List.any_cons, List.any_nil, Option.map_some, Option.map_none, Bool.or_false, Bool.false_or, Bool.or_true, Bool.true_or, Bool.and_true, Bool.true_and, Bool.and_false, Bool.false_and, Bool.not_true, Bool.not_false, decide_true, e1, e2]
      rw [hn4]
      exact same_seq hl hs (gLen_l e2) (fun i g e => gIx_l e1 (atI_nat e)) (fun i g e => gIx_l e2 (atI_nat e)) (fun i g d e1 e2 Q' q => ih (hh i g d e1 e2) q) hQ (gLen_l e1)
    | _ => exact s.elim
end Ev

set_option Elab.async false
set_option linter.all false
set_option maxRecDepth 100000
set_option maxHeartbeats 0
/-! Ev9: the head's facts of own exceptions below ValueError that keep a value. -/
namespace Ev
open PySem PySem.Spec PyProof.Rows L2 NdefX
/-! ### a class -/
def oexB (K : PySem.W.Frag) (C : Addr) : Bool := (match K.lookup C with
  | some ⟨.type "type", _, .cls cd, sl⟩ => (match cd.mro, sl.toList with
    | .ref C' :: bm, [_, _, _, _, some (.builtin n), _] => C' == C && n == "ValueError.__new__" && !cd.hasDel && cd.hasDict && PySem.HandSPX.refsVE bm
    | _, _ => false)
  | _ => false)
def oexB2 (K : PySem.W.Frag) (C : Addr) : Bool := oexB K C && (He.eqO (PySem.W.findIn K (.ref C) "__setattr__") (some (some (.builtin "object.__setattr__"))) && (decide (PySem.W.subIn K (.ref C) (.type "BaseException") = some true) && (decide (PySem.W.typeIn K (.ref C) = some (.type "type")) && PySem.W.keepIn K (.ref C))))
theorem oexB_ok {K : PySem.W.Frag} {C : Addr} (h : oexB2 K C = true) : OexC K C := by
  obtain ⟨q, h⟩ := He.ba h
  obtain ⟨h2, h⟩ := He.ba h
  obtain ⟨h3, h⟩ := He.ba h
  obtain ⟨h4, h5⟩ := He.ba h
  refine ⟨?_, He.eqO_ok h2, of_decide_eq_true h3, of_decide_eq_true h4, h5⟩
  unfold oexB at q
  split at q
  · rename_i dd cd sl ho
    split at q
    · rename_i C' bm k0 k1 k2 k3 n k5 hm hs
      simp only [Bool.and_eq_true, beq_iff_eq, Bool.not_eq_true'] at q
      obtain ⟨⟨⟨⟨rfl, rfl⟩, hdel⟩, hhd⟩, hr⟩ := q
      obtain ⟨nm, bs, mro, ns, qn, hd, sn, sub, ab, col, del⟩ := cd
      dsimp only at hm hdel hhd
      subst hm hdel hhd
      have hsl : sl = #[k0, k1, k2, k3, some (.builtin "ValueError.__new__"), k5] := by
        obtain ⟨l⟩ := sl
        simp only at hs
        rw [hs]
      subst hsl
      exact ⟨nm, qn, ns, bs, bm, sn, sub, ab, col, dd, k0, k1, k2, k3, k5, ho, hr⟩
    · cases q
  · cases q
def inicB (K : PySem.W.Frag) (D C : Addr) : Bool := oexB2 K C && (He.eqO (PySem.W.ks_superIn K C D "__init__") (some (some (.builtin "ValueError.__init__"))) && (decide (PySem.W.subIn K (.ref C) (.type "ValueError") = some true) && (decide (PySem.W.mroIn K C (.ref D) = some true) && He.eqO (PySem.W.findIn K (.ref C) "value") (some none))))
theorem inicB_ok {K : PySem.W.Frag} {D C : Addr} (h : inicB K D C = true) : IniC K D C := by
  obtain ⟨h1, h⟩ := He.ba h
  obtain ⟨h2, h⟩ := He.ba h
  obtain ⟨h3, h⟩ := He.ba h
  obtain ⟨h4, h5⟩ := He.ba h
  exact ⟨oexB_ok h1, He.eqO_ok h2, of_decide_eq_true h3, of_decide_eq_true h4, He.eqO_ok h5⟩
/-! ### the __init__ -/
abbrev IniV : Type := Option (Str × Str × Arguments × FuncBody × Scope × Addr × List Str × Value × Addr)
def iniObs (K : PySem.W.Frag) (a : Addr) : IniV := match K.lookup a with
  | some ⟨_, _, .func fd, _⟩ => some (fd.name, fd.qualname, fd.params, fd.body, fd.scope, fd.globals, fd.closure.map (·.1), fd.defaults, fd.builtins)
  | _ => none
def iniVal (qual : Str) (st : Stmt) : IniV := some ("__init__", qual, defArgs st, .stmts (defBody st), defScope st, mainGlobals, ["__class__"], .none, builtinsNs)
def clsSome (K : PySem.W.Frag) (D : Addr) : Bool := (PySem.W.clsIn K D).isSome
def fileB (K : PySem.W.Frag) (file : Str) (c : Value) : Bool := match c with
  | .ref c => (match K.lookup c with
    | some ⟨_, _, .fields vs, _⟩ => (match (vs[2]? : Option Value) with
      | some (.str fl _) => file == fl
      | _ => false)
    | _ => false)
  | _ => false
def cellB (K : PySem.W.Frag) (D : Addr) (cl : List (Str × Addr)) : Bool := match cl with
  | [(_, cc)] => (match K.lookup cc with
    | some ⟨_, _, .cell (some (.ref D')), _⟩ => D' == D
    | _ => false)
  | _ => false
/-- the class D, its __init__ at a -/
def iniB (K : PySem.W.Frag) (file qual : Str) (D a : Addr) : Bool := (match K.lookup a with
  | some ⟨_, _, .func fd, _⟩ => PySem.W.codeIn K fd.code qual && (fileB K file fd.code && cellB K D fd.closure)
  | _ => false) && (clsSome K D && (He.eqO (PySem.W.nsIn K cStatics "thirdparty.any") (some none) && decide (PySem.W.typeIn K (.ref a) = some (.type "function"))))
section
variable {P : Program} {w : World} {K : PySem.W.Frag} {mg : Str → Option Value} {base : Heap} {D a : Addr} {file qual : Str} {st : Stmt}
theorem iniK_of (e : iniObs K a = iniVal qual st) (h : iniB K P.main.file qual D a = true) (sup : mg "super" = none) (top : (P.main.scope.names.lookup ("super" : Str)).isSome = false) :
    (∃ oc od osl kV doc pm ct an cc cD, IniK P K mg D a qual (defArgs st) (defBody st) (defScope st) oc od osl kV doc pm ct an cc cD) ∧ PySem.W.typeIn K (.ref a) = some (.type "function") := by
  obtain ⟨h1, h⟩ := He.ba h
  obtain ⟨h2, h⟩ := He.ba h
  obtain ⟨h3, h4⟩ := He.ba h
  refine ⟨?_, of_decide_eq_true h4⟩
  unfold iniObs at e
  cases q : K.lookup a with
  | none => rw [q] at e; cases e
  | some o =>
    obtain ⟨oc, od, dt, osl⟩ := o
    rw [q] at e h1
    cases dt with
    | func fd =>
      obtain ⟨n1, n2, n3, n4, n5, n6, n7, n8, n9, n10, n11, n12, n13, n14, n15⟩ := fd
      have e2 : (some (n1, n2, n3, n4, n5, n6, n7.map (·.1), n8, n15) : IniV) = iniVal qual st := e
      unfold iniVal at e2
      simp only [Option.some.injEq, Prod.mk.injEq] at e2
      obtain ⟨z1, z2, z3, z4, z5, z6, z7, z8, z9⟩ := e2
      subst z1 z2 z3 z4 z5 z6 z8 z9
      have h1 : (PySem.W.codeIn K n13 n2 && (fileB K P.main.file n13 && cellB K D n7)) = true := h1
      obtain ⟨k1, k2⟩ := He.ba h1
      obtain ⟨k4, k3⟩ := He.ba k2
      obtain ⟨cD, rfl⟩ := He.codeIn_ref k1
      obtain ⟨cc, rfl, hcc⟩ : ∃ cc, n7 = [(("__class__" : Str), cc)] ∧ ∃ c1 c2 c3, K.lookup cc = some ⟨c1, c2, .cell (some (.ref D)), c3⟩ := by
        clear q e h1
        unfold cellB at k3
        split at k3
        · rename_i o3 nm cc
          split at k3
          · rename_i c1 c2 D' c3 hl
            have : D' = D := beq_iff_eq.mp k3
            subst this
            have z7 : ([nm] : List Str) = [("__class__" : Str)] := z7
            cases z7
            exact ⟨cc, rfl, _, _, _, hl⟩
          · cases k3
        · cases k3
      refine ⟨oc, od, osl, n9, n10, n11, n14, n12, cc, cD, q, k1, hcc, ?_, ?_, sup, top, He.eqO_ok h3⟩
      · cases z : PySem.W.clsIn K D with
        | none => unfold clsSome at h2; rw [z] at h2; cases h2
        | some cd => exact ⟨cd, rfl⟩
      · have k2 : (match K.lookup cD with
          | some ⟨_, _, .fields vs, _⟩ => (match (vs[2]? : Option Value) with
            | some (.str fl _) => P.main.file == fl
            | _ => false)
          | _ => false) = true := k4
        split at k2
        · rename_i c1 c2 vs c3 hl
          split at k2
          · rename_i fl tf hv
            exact ⟨c1, c2, vs, c3, fl, tf, hl, hv, k2⟩
          · cases k2
        · cases k2
    | _ => cases e
variable {p0 p1 p2 p3 p4 p5 p6 p7 p8 p9 : Pos}
/-- what the text of the __init__ gives -/
structure IniT (st : Stmt) (p0 p1 p2 p3 p4 p5 p6 p7 p8 p9 : Pos) : Prop where
  eb : defBody st = iniBody p0 p1 p2 p3 p4 p5 p6 p7 p8 p9
  S : NScope ["self", "value", "__class__"] ["self", "value"] ["__class__"] (defScope st)
  hsup : (defScope st).names.lookup ("super" : Str) = some .globalImplicit
  har : ∃ ar r, (defArgs st).posonlyargs ++ (defArgs st).args = ar :: r ∧ ar.arg = ("self" : Str)
  hev : ∀ env, ∃ pl, eval (.Call (.Attribute (.Call (.Name "super" p0) [] [] p1) "__init__" p2) [.Name "value" p3] [] p4) env = (do
      let ov ← attributeBase (.Call (.Name "super" p0) [] [] p1) "__init__" env (eval (.Call (.Name "super" p0) [] [] p1) env)
      standAt p2.atName
      let (f, first) ← holding [ov] (getMethod ov "__init__" pl)
      callWith p4 f first (backTo p4 (starEach [.Name "value" p3] env)) [])
  hsw1 : ∀ env, swapsWith (.Call (.Attribute (.Call (.Name "super" p0) [] [] p1) "__init__" p2) [.Name "value" p3] [] p4) none p5.line env = pure false
  bind : ∀ (qual : Str) (cl : List (Str × Addr)) (kV doc pm : Value) (an : Option Addr) (cdv ct : Value) (us : List Value), us.length = 2 → bindArgs (PySem.W.fnX "__init__" qual (defArgs st) (defBody st) (defScope st) cl .none kV doc pm an cdv ct) ⟨us, []⟩ = pure ((["self", "value"] : List Str).zip us)
theorem xc_of {x : Str} {C : Addr} (T : IniT st p0 p1 p2 p3 p4 p5 p6 p7 p8 p9) (e : iniObs K a = iniVal qual st) (h : iniB K P.main.file qual D a = true) (sup : mg "super" = none) (top : (P.main.scope.names.lookup ("super" : Str)).isSome = false)
    (hx : mg x = some (.ref C)) (hc : inicB K D C = true) (hf : PySem.W.findIn K (.ref C) "__init__" = some (some (.ref a))) : Xc P w K mg base x := by
  obtain ⟨⟨oc, od, osl, kV, doc, pm, ct, an, cc, cD, IK⟩, ht⟩ := iniK_of (P := P) e h sup top
  exact ⟨C, D, a, _, hx, inicB_ok hc, hf, ht, ini_ok (k := 0) T.eb IK T.S T.hsup T.har T.hev T.hsw1, Binds.all fun us hl => T.bind _ _ _ _ _ _ _ _ us hl⟩
end
/-! ### the Hook -/
/-- an __init__: the class, its qualified name, its text -/
structure InD where
  cls : Str
  qual : Str
  st : Stmt
def inAd (K : PySem.W.Frag) (d : InD) : Addr := He.ma K (He.ga K d.cls) "__init__"
abbrev AlY : Type := He.AlD × Bool × List IniV
def obsY (n : Nat) (fa : List He.Fa) (fn : List He.DefD) (ins : List InD) (ex : PySem.W.Frag → Bool) (g : Addr → Option Obj) : AlY := (fun K : PySem.W.Frag => (He.obsD fa fn K, ex K, ins.map fun d => iniObs K (inAd K d))) (He.frG g (cStatics :: He.asD g n))
def valY (fn : List He.DefD) (ins : List InD) : AlY := (He.valD fn, true, ins.map fun d => iniVal d.qual d.st)
structure SaysY (fa : List He.Fa) (fn : List He.DefD) (ins : List InD) (ex : PySem.W.Frag → Bool) (K : PySem.W.Frag) : Prop where
  d : He.SaysD fa fn K
  more : ex K = true
  ini : ∀ d ∈ ins, iniObs K (inAd K d) = iniVal d.qual d.st
theorem saysY_of {n : Nat} {fa : List He.Fa} {fn : List He.DefD} {ins : List InD} {ex : PySem.W.Frag → Bool} {g : Addr → Option Obj} (e : obsY n fa fn ins ex g = valY fn ins) : SaysY fa fn ins ex (He.frG g (cStatics :: He.asD g n)) := by
  refine ⟨congrArg (fun z : AlY => z.1) e, congrArg (fun z : AlY => z.2.1) e, ?_⟩
  have e3 : (ins.map fun d => iniObs (He.frG g (cStatics :: He.asD g n)) (inAd (He.frG g (cStatics :: He.asD g n)) d)) = ins.map fun d => iniVal d.qual d.st := congrArg (fun z : AlY => z.2.2) e
  intro d hd
  exact List.map_inj_left.mp e3 d hd
def hookY (n : Nat) (fa : List He.Fa) (fn : List He.DefD) (ins : List InD) (ex : PySem.W.Frag → Bool) : PySem.W.Hook where
  α := AlY
  obs := fun s => obsY n fa fn ins ex s.heap.get?
  val := fun _ => valY fn ins
  says := fun _ h => ∃ K : PySem.W.Frag, K.In h ∧ SaysY fa fn ins ex K
  of := fun _ _ e => ⟨_, He.frG_in, saysY_of e⟩
  keeps := fun _ _ _ ⟨K, hK, c⟩ k => ⟨K, PySem.W.Frag.In.keeps hK k, c⟩
theorem obsY_eq {n : Nat} {fa : List He.Fa} {fn : List He.DefD} {ins : List InD} {ex : PySem.W.Frag → Bool} {g : Addr → Option Obj} {s : Shared} (h : ∀ a, g a = s.heap.get? a) : obsY n fa fn ins ex g = (hookY n fa fn ins ex).obs s := by
  have e : g = s.heap.get? := funext h
  rw [e] <;> rfl
end Ev

set_option Elab.async false
set_option linter.all false
set_option maxRecDepth 100000
set_option maxHeartbeats 0
/-! Ev10: a law's end. -/
namespace Ev
open PySem PySem.Spec PyProof.Rows L2 NdefX
theorem funD_uniq {K : PySem.W.Frag} {x qual x' qual' : Str} {params params' : Arguments} {body body' : List Stmt} {scope scope' : Scope} {f : Addr} {fd fd' : FuncData} (F : FunD K x qual params body scope [] [] f fd) (F' : FunD K x' qual' params' body' scope' [] [] f fd') : fd = fd' := by
  obtain ⟨oc, od, dV, kV, doc, pm, an, cdv, ct, osl, e, lk, _⟩ := F.ex
  obtain ⟨oc', od', dV', kV', doc', pm', an', cdv', ct', osl', e', lk', _⟩ := F'.ex
  rw [lk] at lk'
  injection lk' with z
  injection z with z1 z2 z3 z4
  injection z3
theorem rpa_ints {G : Gd} {H : Hp} {ρ : Nat → Addr} {n : Nat} : ∀ ns : List Int, RpA G H ρ n (ns.map D.int) (ns.map V.int)
  | [] => .nil
  | i :: r => .cons (.int i) (rpa_ints r)
theorem spOf_law {K : PySem.W.Frag} {mg : Str → Option Value} {sp : Spec} {H : Hp} {a : Addr} {ns : List Int} (hS : SqL K H a (ns.map V.int))
    (hl : ∀ d h Q E, (∀ g, gList [d] (h ++ g) = some (.new (ns.map D.int))) → (∀ h', Q (.bl true) h') → sp [d] h Q E) : spOf ⟨K, mg, []⟩ sp [.ref a] H (fun v _ => v = .bl true) fun _ _ _ => False := by
  have q : ∀ ρ h h', QV ⟨K, mg, []⟩ ρ h H (fun v _ => v = .bl true) (.bl true) h' := fun ρ h h' ρ' v H' _ r => by
    cases r
    rfl
  have cc : SqC K H a (ns.map V.int) → spOf ⟨K, mg, []⟩ sp [.ref a] H (fun v _ => v = .bl true) fun _ _ _ => False := fun z =>
    ⟨fun _ => a, [], [.cl (ns.map D.int)], ⟨fun k o e => by simp at e, fun i j h => absurd h (Nat.not_lt_zero _)⟩, (fun p hp => nomatch hp), .cons (.cl z (rpa_ints ns)) .nil, hl _ _ _ _ (fun g => rfl) (q _ _)⟩
  rcases hS with (h | ⟨o, h⟩) | h
  · refine ⟨fun _ => a, [.lst (ns.map D.int)], [.ref 0], ⟨fun k o e => ?_, fun i j hi hj _ => ?_⟩, (fun p hp => nomatch hp), .cons (.ref (Nat.zero_lt_one)) .nil, hl _ _ _ _ (fun g => rfl) (q _ _)⟩
    · rcases k with _ | k
      · cases e
        exact ⟨_, h, rpa_ints ns⟩
      · simp at e
    · simp only [List.length_cons, List.length_nil] at hi hj
      omega
  · exact cc (.inl ⟨o, h⟩)
  · exact cc (.inr h)
theorem law_at {l : PySem.W.OpenLaw} {w : World} {K : PySem.W.Frag} {mg : Str → Option Value} {fa fa' : Addr} {fd : FuncData} {h : Heap} {n k : Nat} {st : Stmt} {sp : Spec} (hm : mg "law" = some (.ref fa)) (hm' : mg "law" = some (.ref fa'))
    (DF : FunD K "law" "law" (defArgs st) (defBody st) (defScope st) [] [] fa' fd) (F : ∀ base : Heap, K.In base → base.Ns mainGlobals mg → Fn l.prog w K mg base [] "law" st ["script"] k sp)
    (hbind : ∀ (kV doc pm : Value) (an : Option Addr) (cdv ct : Value) (us : List Value), us.length = 1 → bindArgs (PySem.W.fnOf "law" "law" (defArgs st) (defBody st) (defScope st) .none kV doc pm an cdv ct) ⟨us, []⟩ = pure ((["script"] : List Str).zip us))
    (hl : ∀ (ns : List Int) d h Q E, ns.length ≤ n → (∀ g, gList [d] (h ++ g) = some (.new (ns.map D.int))) → (∀ h', Q (.bl true) h') → sp [d] h Q E) : LamX.LawAtS l w K (L2.CX l.prog w) k n "script" mg fa h := by
  have e := hm.symm.trans hm'
  cases e
  refine ⟨fd, [], spOf ⟨K, mg, []⟩ sp, fun p hp => by simp at hp, fun p hp => by simp at hp, fun p hp => by simp at hp, fun s u => DF.bindsA (ps := ["script"]) hbind s [u] rfl, fun H a ns hlen _ _ hS => spOf_law hS fun d h Q E => hl ns d h Q E hlen, fun base hb hg _ => ?_⟩
  obtain ⟨f2, fd2, m2, D2, _, ok⟩ := (F base hb hg).ex
  have e := hm.symm.trans m2
  cases e
  rw [funD_uniq DF D2]
  exact ok
theorem cx_no {P : Program} {w : World} {H : Hp} {s : Shared} {e : Value} {s' : Shared} (h : L2.CX P w [] H s (fun _ _ _ => False) e s') : False := by
  obtain ⟨_, _, _, _, _, _, _, _, _, _, _, _, z⟩ := h
  exact z
end Ev

set_option Elab.async false
set_option linter.all false
set_option maxRecDepth 100000
set_option maxHeartbeats 0
namespace K78
open PySem PySem.Spec PyProof.Rows L2 NdefX Ev
def top (i : Nat) : Stmt := PySem.Challenge.pw_wholedigits_k78_whole_golden_digits.main.body.getD i (.Pass ⟨0, 0, 0, 0⟩)
def xcs : List Str := ["InvalidInteger", "InvalidRows"]
def sub_InvalidInteger : SubF := fun c => if c = "InvalidInteger" then some true else if c = "InvalidRows" then some false else none
def sub_InvalidRows : SubF := fun c => if c = "InvalidInteger" then some false else if c = "InvalidRows" then some true else none
structure Fx (P : Program) (w : World) (K : PySem.W.Frag) (mg : Str → Option Value) (base : Heap) where
  d_is_integer : ∃ f fd, mg "is_integer" = some (.ref f) ∧ FunD K "is_integer" "is_integer" (defArgs (top 5)) (defBody (top 5)) (defScope (top 5)) [] [] f fd
  d_check_from : ∃ f fd, mg "check_from" = some (.ref f) ∧ FunD K "check_from" "check_from" (defArgs (top 6)) (defBody (top 6)) (defScope (top 6)) [] [] f fd
  d_golden_sizes : ∃ f fd, mg "golden_sizes" = some (.ref f) ∧ FunD K "golden_sizes" "golden_sizes" (defArgs (top 8)) (defBody (top 8)) (defScope (top 8)) [] [] f fd
  d_golden_digits_of : ∃ f fd, mg "golden_digits_of" = some (.ref f) ∧ FunD K "golden_digits_of" "golden_digits_of" (defArgs (top 9)) (defBody (top 9)) (defScope (top 9)) [] [] f fd
  d_is_digits : ∃ f fd, mg "is_digits" = some (.ref f) ∧ FunD K "is_digits" "is_digits" (defArgs (top 10)) (defBody (top 10)) (defScope (top 10)) [] [] f fd
  d_golden_digits : ∃ f fd, mg "golden_digits" = some (.ref f) ∧ FunD K "golden_digits" "golden_digits" (defArgs (top 11)) (defBody (top 11)) (defScope (top 11)) [] [] f fd
  d_golden_number : ∃ f fd, mg "golden_number" = some (.ref f) ∧ FunD K "golden_number" "golden_number" (defArgs (top 12)) (defBody (top 12)) (defScope (top 12)) [] [] f fd
  d__law_pot : ∃ f fd, mg "_law_pot" = some (.ref f) ∧ FunD K "_law_pot" "_law_pot" (defArgs (top 14)) (defBody (top 14)) (defScope (top 14)) [] [] f fd
  d__law_take : ∃ f fd, mg "_law_take" = some (.ref f) ∧ FunD K "_law_take" "_law_take" (defArgs (top 15)) (defBody (top 15)) (defScope (top 15)) [] [] f fd
  d__law_same : ∃ f fd, mg "_law_same" = some (.ref f) ∧ FunD K "_law_same" "_law_same" (defArgs (top 16)) (defBody (top 16)) (defScope (top 16)) [] [] f fd
  d__law_gold : ∃ f fd, mg "_law_gold" = some (.ref f) ∧ FunD K "_law_gold" "_law_gold" (defArgs (top 17)) (defBody (top 17)) (defScope (top 17)) [] [] f fd
  d__law_sum : ∃ f fd, mg "_law_sum" = some (.ref f) ∧ FunD K "_law_sum" "_law_sum" (defArgs (top 18)) (defBody (top 18)) (defScope (top 18)) [] [] f fd
  d__law_refused : ∃ f fd, mg "_law_refused" = some (.ref f) ∧ FunD K "_law_refused" "_law_refused" (defArgs (top 19)) (defBody (top 19)) (defScope (top 19)) [] [] f fd
  d_law : ∃ f fd, mg "law" = some (.ref f) ∧ FunD K "law" "law" (defArgs (top 20)) (defBody (top 20)) (defScope (top 20)) [] [] f fd
  g_all : mg "all" = none
  g_any : mg "any" = none
  g_bool : mg "bool" = none
  g_int : mg "int" = none
  g_isinstance : mg "isinstance" = none
  g_len : mg "len" = none
  g_list : mg "list" = none
  g_range : mg "range" = none
  g_str : mg "str" = none
  g_tuple : mg "tuple" = none
  g_zip : mg "zip" = none
  x_InvalidInteger : Xc P w K mg base "InvalidInteger"
  x_InvalidRows : Xc P w K mg base "InvalidRows"
  xv : ∀ c C, c ∈ xcs → mg c = some (.ref C) → XfC K C ∧ PySem.W.findIn K (.ref C) "value" = some none
  ka_InvalidInteger : Addr
  k_InvalidInteger : mg "InvalidInteger" = some (.ref ka_InvalidInteger) ∧ ∀ y C q, sub_InvalidInteger y = some q → mg y = some (.ref C) → PySem.W.exmOne K (.ref C) (.ref ka_InvalidInteger) = some q
  ka_InvalidRows : Addr
  k_InvalidRows : mg "InvalidRows" = some (.ref ka_InvalidRows) ∧ ∀ y C q, sub_InvalidRows y = some q → mg y = some (.ref C) → PySem.W.exmOne K (.ref C) (.ref ka_InvalidRows) = some q
section
variable {P : Program} {w : World} {K : PySem.W.Frag} {mg : Str → Option Value} {base : Heap}
abbrev s_is_integer : Stmt := top 5
theorem sc_is_integer : FnScope ["value"] ["value"] (defScope s_is_integer) := ⟨rfl, rfl, rfl, by decide +kernel, rfl, by decide +kernel, by decide +kernel⟩
noncomputable def b_is_integer : FS := (sRet (fAnd (fIsi (fVar 0) [.int]) (fNot (fIsi (fVar 0) [.bl]))))
noncomputable def sp_is_integer : Ev.Spec := fnSp 1 1 b_is_integer
theorem ok_is_integer (A : Fx P w K mg base) : Fn P w K mg base [] "is_integer" s_is_integer ["value"] 1 sp_is_integer := by
  obtain ⟨f, fd, hm, D⟩ := A.d_is_integer
  have mb : MonS b_is_integer := (sRet_mono (fAnd_mono (fIsi_mono fVar_mono) (fNot_mono (fIsi_mono fVar_mono))))
  exact fn_ok hm D sc_is_integer (by decide) (fun _ _ _ _ _ _ us hl => match us, hl with | [_], _ => rfl) mb fun cdv A' outer s H E hr => (ss_one (s_ret (e_and (e_isi rfl A.g_isinstance (vr 0) (ty_name .int rfl (by decide +kernel) rfl A.g_int)) (e_one (e_not (e_isi rfl A.g_isinstance (vr 0) (ty_name .bl rfl (by decide +kernel) rfl A.g_bool)))))))
abbrev s_check_from : Stmt := top 6
theorem sc_check_from : FnScope ["value", "least"] ["value", "least"] (defScope s_check_from) := ⟨rfl, rfl, rfl, by decide +kernel, rfl, by decide +kernel, by decide +kernel⟩
noncomputable def b_check_from : FS := (sIf (fOr (fNot (fCall sp_is_integer (fCons (fVar 0) fNil))) (fBin gLt (fVar 0) (fVar 1))) (sRaise "InvalidInteger" (fVar 0)) sNil)
noncomputable def sp_check_from : Ev.Spec := fnSp 2 2 b_check_from
theorem ok_check_from (A : Fx P w K mg base) : Fn P w K mg base [] "check_from" s_check_from ["value", "least"] 3 sp_check_from := by
  obtain ⟨f, fd, hm, D⟩ := A.d_check_from
  have mb : MonS b_check_from := (sIf_mono (fOr_mono (fNot_mono (fCall_mono (ok_is_integer A).mo (fCons_mono fVar_mono fNil_mono))) (fBin_mono fVar_mono fVar_mono)) (sRaise_mono fVar_mono) sNil_mono)
  exact fn_ok hm D sc_check_from (by decide) (fun _ _ _ _ _ _ us hl => match us, hl with | [_, _], _ => rfl) mb fun cdv A' outer s H E hr => (ss_one (s_if (SW.t (w_or (t_not (t_val (e_call (ok_is_integer A) (by decide) hr bcx_takes rfl (a_cons (vr 0) a_nil)))) (w_one (t_cmp (room64 hr) .lt (vr 0) (vr 1))))) (ss_one (s_raise A.x_InvalidInteger rfl bcx_takes hr (by decide) rfl (vr 0))) ss_nil))
abbrev s_golden_sizes : Stmt := top 8
theorem sc_golden_sizes : FnScope ["n", "found", "more"] ["n"] (defScope s_golden_sizes) := ⟨rfl, rfl, rfl, by decide +kernel, rfl, by decide +kernel, by decide +kernel⟩
noncomputable def b_golden_sizes : FS := (sSeq (sPar (fCons (fLst fNil) (fCons (fTup (fCons (fLit (.int 1)) (fCons (fLit (.int 2)) fNil))) fNil)) (.cons (.nm 1) (.cons (.nm 2) .nil))) (sSeq (sWhile (fBin gLe (fBin gIx (fVar 2) (fLit (.int 0))) (fVar 0)) (sSeq (sExp (fMt .append (fVar 1) (fCons (fBin gIx (fVar 2) (fLit (.int 0))) fNil))) (sAsg (fTup (fCons (fBin gIx (fVar 2) (fLit (.int 1))) (fCons (fBin gAdd (fBin gIx (fVar 2) (fLit (.int 0))) (fBin gIx (fVar 2) (fLit (.int 1)))) fNil))) (.nm 2)))) (sRet (fVar 1))))
noncomputable def sp_golden_sizes : Ev.Spec := fnSp 1 3 b_golden_sizes
theorem ok_golden_sizes (A : Fx P w K mg base) : Fn P w K mg base [] "golden_sizes" s_golden_sizes ["n"] 1 sp_golden_sizes := by
  obtain ⟨f, fd, hm, D⟩ := A.d_golden_sizes
  have mb : MonS b_golden_sizes := (sSeq_mono (sPar_mono (fCons_mono (fLst_mono fNil_mono) (fCons_mono (fTup_mono (fCons_mono fLit_mono (fCons_mono fLit_mono fNil_mono))) fNil_mono))) (sSeq_mono (sWhile_mono (fBin_mono (fBin_mono fVar_mono fLit_mono) fVar_mono) (sSeq_mono (sExp_mono (fMt_mono fVar_mono (fCons_mono (fBin_mono fVar_mono fLit_mono) fNil_mono))) (sAsg_mono (fTup_mono (fCons_mono (fBin_mono fVar_mono fLit_mono) (fCons_mono (fBin_mono (fBin_mono fVar_mono fLit_mono) (fBin_mono fVar_mono fLit_mono)) fNil_mono)))))) (sRet_mono fVar_mono)))
  exact fn_ok hm D sc_golden_sizes (by decide) (fun _ _ _ _ _ _ us hl => match us, hl with | [_], _ => rfl) mb fun cdv A' outer s H E hr => (ss_cons (s_par (i1 := 1) (j1 := 2) rfl sc_golden_sizes.nd rfl rfl (by decide) rfl rfl (a_cons (e_lst a_nil) (a_cons (e_tup (a_cons e_int (a_cons e_int a_nil))) a_nil))) (ss_cons (s_while bcx_owns (t_cmp (room64 hr) .le (e_ix (vr 2) e_int) (vr 0)) (ss_cons (s_exp (e_mt .append rfl (vr 1) (a_cons (e_ix (vr 2) e_int) a_nil))) (ss_one (s_set (j := 2) sc_golden_sizes.nd rfl (by first | exact Or.inl rfl | exact Or.inr rfl) (e_tup (a_cons (e_ix (vr 2) e_int) (a_cons (e_bin .add (e_ix (vr 2) e_int) (e_ix (vr 2) e_int)) a_nil))))))) (ss_one (s_ret (vr 1)))))
abbrev s_golden_digits_of : Stmt := top 9
theorem sc_golden_digits_of : FnScope ["n", "found", "own"] ["n"] (defScope s_golden_digits_of) := ⟨rfl, rfl, rfl, by decide +kernel, rfl, by decide +kernel, by decide +kernel⟩
noncomputable def b_golden_digits_of : FS := (sSeq (sAsg (fLst fNil) (.nm 1)) (sSeq (sFor (fSeq (fRev (fCall sp_golden_sizes (fCons (fVar 0) fNil)))) (.nm 2) (sSeq (sExp (fMt .append (fVar 1) (fCons (fFN gInt (fCons (fBin gLe (fVar 2) (fVar 0)) fNil)) fNil))) (sAsg (fIte (fBin gLe (fVar 2) (fVar 0)) (fBin gSub (fVar 0) (fVar 2)) (fVar 0)) (.nm 0)))) (sRet (fFN gTuple (fCons (fRev (fVar 1)) fNil)))))
noncomputable def sp_golden_digits_of : Ev.Spec := fnSp 1 3 b_golden_digits_of
theorem ok_golden_digits_of (A : Fx P w K mg base) : Fn P w K mg base [] "golden_digits_of" s_golden_digits_of ["n"] 2 sp_golden_digits_of := by
  obtain ⟨f, fd, hm, D⟩ := A.d_golden_digits_of
  have mb : MonS b_golden_digits_of := (sSeq_mono (sAsg_mono (fLst_mono fNil_mono)) (sSeq_mono (sFor_mono (fSeq_mono (fRev_mono (fCall_mono (ok_golden_sizes A).mo (fCons_mono fVar_mono fNil_mono)))) (sSeq_mono (sExp_mono (fMt_mono fVar_mono (fCons_mono (fFN_mono (fCons_mono (fBin_mono fVar_mono fVar_mono) fNil_mono)) fNil_mono))) (sAsg_mono (fIte_mono (fBin_mono fVar_mono fVar_mono) (fBin_mono fVar_mono fVar_mono) fVar_mono)))) (sRet_mono (fFN_mono (fCons_mono (fRev_mono fVar_mono) fNil_mono)))))
  exact fn_ok hm D sc_golden_digits_of (by decide) (fun _ _ _ _ _ _ us hl => match us, hl with | [_], _ => rfl) mb fun cdv A' outer s H E hr => (ss_cons (s_set (j := 1) sc_golden_digits_of.nd rfl (by first | exact Or.inl rfl | exact Or.inr rfl) (e_lst a_nil)) (ss_cons (s_for bcx_owns rfl (i_seq (e_rev (e_call (ok_golden_sizes A) (by decide) hr bcx_takes rfl (a_cons (vr 0) a_nil)))) (tg 2 sc_golden_digits_of.nd) (ss_cons (s_exp (e_mt .append rfl (vr 1) (a_cons (e_bi rfl .int rfl rfl A.g_int (a_cons (e_cmp (room64 hr) .le (vr 2) (vr 0)) a_nil)) a_nil))) (ss_one (s_set (j := 0) sc_golden_digits_of.nd rfl (by first | exact Or.inl rfl | exact Or.inr rfl) (e_ite (t_cmp (room64 hr) .le (vr 2) (vr 0)) (e_bin .sub (vr 0) (vr 2)) (vr 0)))))) (ss_one (s_ret (e_bi rfl .tuple rfl rfl A.g_tuple (a_cons (e_rev (vr 1)) a_nil))))))
abbrev s_is_digits : Stmt := top 10
theorem sc_is_digits : FnScope ["value", "own", "one", "other"] ["value"] (defScope s_is_digits) := ⟨rfl, rfl, rfl, by decide +kernel, rfl, by decide +kernel, by decide +kernel⟩
noncomputable def b_is_digits : FS := (sSeq (sIf (fOr (fNot (fIsi (fVar 0) [.tup])) (fNot (fFC cAll (fComp (fSeq (fVar 0)) (.nm 1) [1] none (fAnd (fCall sp_is_integer (fCons (fVar 1) fNil)) (fBin gIn (fVar 1) (fTup (fCons (fLit (.int 0)) (fCons (fLit (.int 1)) fNil))))))))) (sRet (fLit (.bl false))) sNil) (sRet (fNot (fFC cAny (fComp (fIt gZip (fCons (fVar 0) (fCons (fSl1 (fVar 0) (some (fLit (.int 1))) none) fNil))) (.tp (.cons (.nm 2) (.cons (.nm 3) .nil))) [2, 3] none (fAnd (fBin gEq (fVar 2) (fLit (.int 1))) (fBin gEq (fVar 3) (fLit (.int 1)))))))))
noncomputable def sp_is_digits : Ev.Spec := fnSp 1 4 b_is_digits
theorem ok_is_digits (A : Fx P w K mg base) : Fn P w K mg base [] "is_digits" s_is_digits ["value"] 2 sp_is_digits := by
  obtain ⟨f, fd, hm, D⟩ := A.d_is_digits
  have mb : MonS b_is_digits := (sSeq_mono (sIf_mono (fOr_mono (fNot_mono (fIsi_mono fVar_mono)) (fNot_mono (fFC_mono (fComp_mono (fSeq_mono fVar_mono) mo_no (fAnd_mono (fCall_mono (ok_is_integer A).mo (fCons_mono fVar_mono fNil_mono)) (fBin_mono fVar_mono (fTup_mono (fCons_mono fLit_mono (fCons_mono fLit_mono fNil_mono))))))))) (sRet_mono fLit_mono) sNil_mono) (sRet_mono (fNot_mono (fFC_mono (fComp_mono (fIt_mono (fCons_mono fVar_mono (fCons_mono (fSl1_mono fVar_mono (mo_so fLit_mono) mo_no) fNil_mono))) mo_no (fAnd_mono (fBin_mono fVar_mono fLit_mono) (fBin_mono fVar_mono fLit_mono)))))))
  exact fn_ok hm D sc_is_digits (by decide) (fun _ _ _ _ _ _ us hl => match us, hl with | [_], _ => rfl) mb fun cdv A' outer s H E hr => (ss_cons (s_if (SW.t (w_or (t_not (t_val (e_isi rfl A.g_isinstance (vr 0) (ty_name .tup rfl (by decide +kernel) rfl A.g_tuple)))) (w_one (t_not (t_val (e_bic rfl .all cAll rfl rfl rfl A.g_all (e_lc (own := [("own", 1)]) rfl sc_is_digits.nd (i_seq (vr 0)) (blkOk_by rfl) (by decide) (fun s H C cl fp => (tg 1 sc_is_digits.nd)) .none (fun s H C cl fp => (e_and (e_call (ok_is_integer A) (by decide) hr takes0 rfl (a_cons (vr 1) a_nil)) (e_one (e_cmp (room64 hr) .in_ (vr 1) (e_tup (a_cons e_int (a_cons e_int a_nil)))))))))))))) (ss_one (s_ret e_bl)) ss_nil) (ss_one (s_ret (e_not (e_bic rfl .any cAny rfl rfl rfl A.g_any (e_lc (own := [("one", 2), ("other", 3)]) rfl sc_is_digits.nd (i_zip rfl A.g_zip (a_cons (vr 0) (a_cons (e_sl (vr 0) (.some e_int) .none) a_nil))) (blkOk_by rfl) (by decide) (fun s H C cl fp => (g_tp rfl (gs_cons (tg 2 sc_is_digits.nd) (gs_cons (tg 3 sc_is_digits.nd) gs_nil)))) .none (fun s H C cl fp => (e_and (e_cmp (room64 hr) .eq (vr 2) e_int) (e_one (e_cmp (room64 hr) .eq (vr 3) e_int))))))))))
abbrev s_golden_digits : Stmt := top 11
theorem sc_golden_digits : FnScope ["n"] ["n"] (defScope s_golden_digits) := ⟨rfl, rfl, rfl, by decide +kernel, rfl, by decide +kernel, by decide +kernel⟩
noncomputable def b_golden_digits : FS := (sSeq (sExp (fCall sp_check_from (fCons (fVar 0) (fCons (fLit (.int 0)) fNil)))) (sRet (fCall sp_golden_digits_of (fCons (fVar 0) fNil))))
noncomputable def sp_golden_digits : Ev.Spec := fnSp 1 1 b_golden_digits
theorem ok_golden_digits (A : Fx P w K mg base) : Fn P w K mg base [] "golden_digits" s_golden_digits ["n"] 4 sp_golden_digits := by
  obtain ⟨f, fd, hm, D⟩ := A.d_golden_digits
  have mb : MonS b_golden_digits := (sSeq_mono (sExp_mono (fCall_mono (ok_check_from A).mo (fCons_mono fVar_mono (fCons_mono fLit_mono fNil_mono)))) (sRet_mono (fCall_mono (ok_golden_digits_of A).mo (fCons_mono fVar_mono fNil_mono))))
  exact fn_ok hm D sc_golden_digits (by decide) (fun _ _ _ _ _ _ us hl => match us, hl with | [_], _ => rfl) mb fun cdv A' outer s H E hr => (ss_cons (s_exp (e_call (ok_check_from A) (by decide) hr bcx_takes rfl (a_cons (vr 0) (a_cons e_int a_nil)))) (ss_one (s_ret (e_call (ok_golden_digits_of A) (by decide) hr bcx_takes rfl (a_cons (vr 0) a_nil)))))
abbrev s_golden_number : Stmt := top 12
theorem sc_golden_number : FnScope ["rows", "found", "more", "own"] ["rows"] (defScope s_golden_number) := ⟨rfl, rfl, rfl, by decide +kernel, rfl, by decide +kernel, by decide +kernel⟩
noncomputable def b_golden_number : FS := (sSeq (sIf (fNot (fCall sp_is_digits (fCons (fVar 0) fNil))) (sRaise "InvalidRows" (fVar 0)) sNil) (sSeq (sAsg (fTup (fCons (fLit (.int 0)) (fCons (fTup (fCons (fLit (.int 1)) (fCons (fLit (.int 2)) fNil))) fNil))) (.tp (.cons (.nm 1) (.cons (.nm 2) .nil)))) (sSeq (sFor (fSeq (fVar 0)) (.nm 3) (sSeq (sAug 1 .add (fBin gMul (fVar 3) (fBin gIx (fVar 2) (fLit (.int 0))))) (sAsg (fTup (fCons (fBin gIx (fVar 2) (fLit (.int 1))) (fCons (fBin gAdd (fBin gIx (fVar 2) (fLit (.int 0))) (fBin gIx (fVar 2) (fLit (.int 1)))) fNil))) (.nm 2)))) (sRet (fVar 1)))))
noncomputable def sp_golden_number : Ev.Spec := fnSp 1 4 b_golden_number
theorem ok_golden_number (A : Fx P w K mg base) : Fn P w K mg base [] "golden_number" s_golden_number ["rows"] 3 sp_golden_number := by
  obtain ⟨f, fd, hm, D⟩ := A.d_golden_number
  have mb : MonS b_golden_number := (sSeq_mono (sIf_mono (fNot_mono (fCall_mono (ok_is_digits A).mo (fCons_mono fVar_mono fNil_mono))) (sRaise_mono fVar_mono) sNil_mono) (sSeq_mono (sAsg_mono (fTup_mono (fCons_mono fLit_mono (fCons_mono (fTup_mono (fCons_mono fLit_mono (fCons_mono fLit_mono fNil_mono))) fNil_mono)))) (sSeq_mono (sFor_mono (fSeq_mono fVar_mono) (sSeq_mono (sAug_mono (fBin_mono fVar_mono (fBin_mono fVar_mono fLit_mono))) (sAsg_mono (fTup_mono (fCons_mono (fBin_mono fVar_mono fLit_mono) (fCons_mono (fBin_mono (fBin_mono fVar_mono fLit_mono) (fBin_mono fVar_mono fLit_mono)) fNil_mono)))))) (sRet_mono fVar_mono))))
  exact fn_ok hm D sc_golden_number (by decide) (fun _ _ _ _ _ _ us hl => match us, hl with | [_], _ => rfl) mb fun cdv A' outer s H E hr => (ss_cons (s_if (t_not (t_val (e_call (ok_is_digits A) (by decide) hr bcx_takes rfl (a_cons (vr 0) a_nil)))) (ss_one (s_raise A.x_InvalidRows rfl bcx_takes hr (by decide) rfl (vr 0))) ss_nil) (ss_cons (s_asg (e_tup (a_cons e_int (a_cons (e_tup (a_cons e_int (a_cons e_int a_nil))) a_nil))) (g_tp rfl (gs_cons (tg 1 sc_golden_number.nd) (gs_cons (tg 2 sc_golden_number.nd) gs_nil)))) (ss_cons (s_for bcx_owns rfl (i_seq (vr 0)) (tg 3 sc_golden_number.nd) (ss_cons (s_aug (j := 1) .add sc_golden_number.nd rfl (by first | exact Or.inl rfl | exact Or.inr rfl) (e_bin .mul (vr 3) (e_ix (vr 2) e_int))) (ss_one (s_set (j := 2) sc_golden_number.nd rfl (by first | exact Or.inl rfl | exact Or.inr rfl) (e_tup (a_cons (e_ix (vr 2) e_int) (a_cons (e_bin .add (e_ix (vr 2) e_int) (e_ix (vr 2) e_int)) a_nil))))))) (ss_one (s_ret (vr 1))))))
abbrev s__law_pot : Stmt := top 14
theorem sc__law_pot : FnScope ["script"] ["script"] (defScope s__law_pot) := ⟨rfl, rfl, rfl, by decide +kernel, rfl, by decide +kernel, by decide +kernel⟩
noncomputable def b__law_pot : FS := (sRet (fBin gAdd (fLst (fCons (fLit (.int 0)) (fCons (fLit (.int 12582917)) (fCons (fLit (.int 0)) (fCons (fLit (.int 4)) fNil))))) (fFN gList (fCons (fVar 0) fNil))))
noncomputable def sp__law_pot : Ev.Spec := fnSp 1 1 b__law_pot
theorem ok__law_pot (A : Fx P w K mg base) : Fn P w K mg base [] "_law_pot" s__law_pot ["script"] 1 sp__law_pot := by
  obtain ⟨f, fd, hm, D⟩ := A.d__law_pot
  have mb : MonS b__law_pot := (sRet_mono (fBin_mono (fLst_mono (fCons_mono fLit_mono (fCons_mono fLit_mono (fCons_mono fLit_mono (fCons_mono fLit_mono fNil_mono))))) (fFN_mono (fCons_mono fVar_mono fNil_mono))))
  exact fn_ok hm D sc__law_pot (by decide) (fun _ _ _ _ _ _ us hl => match us, hl with | [_], _ => rfl) mb fun cdv A' outer s H E hr => (ss_one (s_ret (e_bin .add (e_lst (a_cons e_int (a_cons e_int (a_cons e_int (a_cons e_int a_nil))))) (e_bi rfl .list rfl rfl A.g_list (a_cons (vr 0) a_nil)))))
abbrev s__law_take : Stmt := top 15
theorem sc__law_take : FnScope ["pot", "many", "cell", "drawn", "mixed"] ["pot", "many"] (defScope s__law_take) := ⟨rfl, rfl, rfl, by decide +kernel, rfl, by decide +kernel, by decide +kernel⟩
noncomputable def b__law_take : FS := (sSeq (sIf (fAnd (fBin gEq (fBin gIx (fVar 0) (fLit (.int 0))) (fLit (.int 0))) (fBin gLt (fBin gIx (fVar 0) (fLit (.int 3))) (fFN gLen (fCons (fVar 0) fNil)))) (sSeq (sAsg (fBin gIx (fVar 0) (fBin gIx (fVar 0) (fLit (.int 3)))) (.nm 2)) (sSeq (sAugS (fVar 0) (fLit (.int 3)) .add (fLit (.int 1))) (sIf (fBin gGe (fVar 2) (fBin gPow (fLit (.int 10)) (fLit (.int 18)))) (sSet (fVar 0) (fLit (.int 0)) (fBin gSub (fVar 2) (fBin gPow (fLit (.int 10)) (fLit (.int 18))))) (sSet (fVar 0) (fLit (.int 1)) (fBin gMod (fFN gInt (fCons (fBin gAdd (fBin gMul (fBin gAdd (fBin gIx (fVar 0) (fLit (.int 1))) (fBin gMul (fLit (.int 7)) (fVar 2))) (fLit (.int 3145739))) (fBin gMul (fLit (.int 769)) (fBin gIx (fVar 0) (fLit (.int 3))))) fNil)) (fLit (.int 2305843009213693907))))))) sNil) (sSeq (sIf (fBin gGt (fBin gIx (fVar 0) (fLit (.int 0))) (fLit (.int 0))) (sSeq (sAsg (fBin gMod (fFN gInt (fCons (fBin gIx (fVar 0) (fLit (.int 0))) fNil)) (fVar 1)) (.nm 3)) (sSeq (sSet (fVar 0) (fLit (.int 0)) (fBin gDiv (fBin gIx (fVar 0) (fLit (.int 0))) (fVar 1))) (sRet (fVar 3)))) sNil) (sSeq (sAugS (fVar 0) (fLit (.int 2)) .add (fLit (.int 1))) (sSeq (sAsg (fBin gMod (fFN gInt (fCons (fBin gPow (fBin gAdd (fBin gIx (fVar 0) (fLit (.int 1))) (fBin gMul (fLit (.int 1572869)) (fBin gIx (fVar 0) (fLit (.int 2))))) (fLit (.int 3))) fNil)) (fLit (.int 2305843009213693907))) (.nm 4)) (sSeq (sAsg (fBin gMod (fFN gInt (fCons (fBin gPow (fBin gAdd (fVar 4) (fBin gMul (fLit (.int 389)) (fBin gIx (fVar 0) (fLit (.int 2))))) (fLit (.int 2))) fNil)) (fLit (.int 999999999999999877))) (.nm 4)) (sRet (fBin gMod (fFN gInt (fCons (fBin gDiv (fVar 4) (fLit (.int 16))) fNil)) (fVar 1))))))))
noncomputable def sp__law_take : Ev.Spec := fnSp 2 5 b__law_take
theorem ok__law_take (A : Fx P w K mg base) : Fn P w K mg base [] "_law_take" s__law_take ["pot", "many"] 1 sp__law_take := by
  obtain ⟨f, fd, hm, D⟩ := A.d__law_take
  have mb : MonS b__law_take := (sSeq_mono (sIf_mono (fAnd_mono (fBin_mono (fBin_mono fVar_mono fLit_mono) fLit_mono) (fBin_mono (fBin_mono fVar_mono fLit_mono) (fFN_mono (fCons_mono fVar_mono fNil_mono)))) (sSeq_mono (sAsg_mono (fBin_mono fVar_mono (fBin_mono fVar_mono fLit_mono))) (sSeq_mono (sAugS_mono fVar_mono fLit_mono fLit_mono) (sIf_mono (fBin_mono fVar_mono (fBin_mono fLit_mono fLit_mono)) (sSet_mono fVar_mono fLit_mono (fBin_mono fVar_mono (fBin_mono fLit_mono fLit_mono))) (sSet_mono fVar_mono fLit_mono (fBin_mono (fFN_mono (fCons_mono (fBin_mono (fBin_mono (fBin_mono (fBin_mono fVar_mono fLit_mono) (fBin_mono fLit_mono fVar_mono)) fLit_mono) (fBin_mono fLit_mono (fBin_mono fVar_mono fLit_mono))) fNil_mono)) fLit_mono))))) sNil_mono) (sSeq_mono (sIf_mono (fBin_mono (fBin_mono fVar_mono fLit_mono) fLit_mono) (sSeq_mono (sAsg_mono (fBin_mono (fFN_mono (fCons_mono (fBin_mono fVar_mono fLit_mono) fNil_mono)) fVar_mono)) (sSeq_mono (sSet_mono fVar_mono fLit_mono (fBin_mono (fBin_mono fVar_mono fLit_mono) fVar_mono)) (sRet_mono fVar_mono))) sNil_mono) (sSeq_mono (sAugS_mono fVar_mono fLit_mono fLit_mono) (sSeq_mono (sAsg_mono (fBin_mono (fFN_mono (fCons_mono (fBin_mono (fBin_mono (fBin_mono fVar_mono fLit_mono) (fBin_mono fLit_mono (fBin_mono fVar_mono fLit_mono))) fLit_mono) fNil_mono)) fLit_mono)) (sSeq_mono (sAsg_mono (fBin_mono (fFN_mono (fCons_mono (fBin_mono (fBin_mono fVar_mono (fBin_mono fLit_mono (fBin_mono fVar_mono fLit_mono))) fLit_mono) fNil_mono)) fLit_mono)) (sRet_mono (fBin_mono (fFN_mono (fCons_mono (fBin_mono fVar_mono fLit_mono) fNil_mono)) fVar_mono)))))))
  exact fn_ok hm D sc__law_take (by decide) (fun _ _ _ _ _ _ us hl => match us, hl with | [_, _], _ => rfl) mb fun cdv A' outer s H E hr => (ss_cons (s_if (SW.t (w_and (t_cmp (room64 hr) .eq (e_ix (vr 0) e_int) e_int) (w_one (t_cmp (room64 hr) .lt (e_ix (vr 0) e_int) (e_bi rfl .len rfl rfl A.g_len (a_cons (vr 0) a_nil)))))) (ss_cons (s_set (j := 2) sc__law_take.nd rfl (by first | exact Or.inl rfl | exact Or.inr rfl) (e_ix (vr 0) (e_ix (vr 0) e_int))) (ss_cons (s_augS .add (vr 0) e_int e_int) (ss_one (s_if (t_cmp (room64 hr) .ge (vr 2) (e_bin .pow e_int e_int)) (ss_one (s_setix (vr 0) e_int (e_bin .sub (vr 2) (e_bin .pow e_int e_int)))) (ss_one (s_setix (vr 0) e_int (e_bin .mod (e_bi rfl .int rfl rfl A.g_int (a_cons (e_bin .add (e_bin .mul (e_bin .add (e_ix (vr 0) e_int) (e_bin .mul e_int (vr 2))) e_int) (e_bin .mul e_int (e_ix (vr 0) e_int))) a_nil)) e_int))))))) ss_nil) (ss_cons (s_if (t_cmp (room64 hr) .gt (e_ix (vr 0) e_int) e_int) (ss_cons (s_set (j := 3) sc__law_take.nd rfl (by first | exact Or.inl rfl | exact Or.inr rfl) (e_bin .mod (e_bi rfl .int rfl rfl A.g_int (a_cons (e_ix (vr 0) e_int) a_nil)) (vr 1))) (ss_cons (s_setix (vr 0) e_int (e_bin .div (e_ix (vr 0) e_int) (vr 1))) (ss_one (s_ret (vr 3))))) ss_nil) (ss_cons (s_augS .add (vr 0) e_int e_int) (ss_cons (s_set (j := 4) sc__law_take.nd rfl (by first | exact Or.inl rfl | exact Or.inr rfl) (e_bin .mod (e_bi rfl .int rfl rfl A.g_int (a_cons (e_bin .pow (e_bin .add (e_ix (vr 0) e_int) (e_bin .mul e_int (e_ix (vr 0) e_int))) e_int) a_nil)) e_int)) (ss_cons (s_set (j := 4) sc__law_take.nd rfl (by first | exact Or.inl rfl | exact Or.inr rfl) (e_bin .mod (e_bi rfl .int rfl rfl A.g_int (a_cons (e_bin .pow (e_bin .add (vr 4) (e_bin .mul e_int (e_ix (vr 0) e_int))) e_int) a_nil)) e_int)) (ss_one (s_ret (e_bin .mod (e_bi rfl .int rfl rfl A.g_int (a_cons (e_bin .div (vr 4) e_int) a_nil)) (vr 1)))))))))
abbrev s__law_same : Stmt := top 16
theorem sc__law_same : FnScope ["got", "due", "at"] ["got", "due"] (defScope s__law_same) := ⟨rfl, rfl, rfl, by decide +kernel, rfl, by decide +kernel, by decide +kernel⟩
noncomputable def b__law_same (sp : Ev.Spec) : FS := (sSeq (sIf (fIsN false (fVar 1)) (sRet (fIsN false (fVar 0))) sNil) (sSeq (sIf (fIsi (fVar 1) [.bl, .str]) (sRet (fAnd (fBin gEq (fIsi (fVar 0) [.bl]) (fIsi (fVar 1) [.bl])) (fAnd (fIsi (fVar 0) [.bl, .str]) (fBin gEq (fVar 0) (fVar 1))))) sNil) (sSeq (sIf (fIsi (fVar 1) [.int]) (sRet (fAnd (fIsi (fVar 0) [.int]) (fAnd (fNot (fIsi (fVar 0) [.bl])) (fBin gEq (fVar 0) (fVar 1))))) sNil) (sSeq (sIf (fOr (fBin gNe (fIsi (fVar 1) [.lst]) (fIsi (fVar 0) [.lst])) (fBin gNe (fIsi (fVar 1) [.tup]) (fIsi (fVar 0) [.tup]))) (sRet (fLit (.bl false))) sNil) (sRet (fAnd (fBin gEq (fFN gLen (fCons (fVar 0) fNil)) (fFN gLen (fCons (fVar 1) fNil))) (fFC cAll (fComp (fIt gRange1 (fCons (fFN gLen (fCons (fVar 1) fNil)) fNil)) (.nm 2) [2] none (fCall sp (fCons (fBin gIx (fVar 0) (fVar 2)) (fCons (fBin gIx (fVar 1) (fVar 2)) fNil)))))))))))
noncomputable def sp__law_same : Nat → Ev.Spec
  | 0 => spNo
  | n + 1 => fnSp 2 3 (b__law_same (sp__law_same n))
theorem st__law_same (A : Fx P w K mg base) {j : Nat} {sp : Ev.Spec} (hj : 0 ≤ j) (ih : Fn P w K mg base [] "_law_same" s__law_same ["got", "due"] j sp) : Fn P w K mg base [] "_law_same" s__law_same ["got", "due"] (j + 1) (fnSp 2 3 (b__law_same sp)) := by
  obtain ⟨f, fd, hm, D⟩ := A.d__law_same
  have mb : MonS (b__law_same sp) := (sSeq_mono (sIf_mono (fIsN_mono fVar_mono) (sRet_mono (fIsN_mono fVar_mono)) sNil_mono) (sSeq_mono (sIf_mono (fIsi_mono fVar_mono) (sRet_mono (fAnd_mono (fBin_mono (fIsi_mono fVar_mono) (fIsi_mono fVar_mono)) (fAnd_mono (fIsi_mono fVar_mono) (fBin_mono fVar_mono fVar_mono)))) sNil_mono) (sSeq_mono (sIf_mono (fIsi_mono fVar_mono) (sRet_mono (fAnd_mono (fIsi_mono fVar_mono) (fAnd_mono (fNot_mono (fIsi_mono fVar_mono)) (fBin_mono fVar_mono fVar_mono)))) sNil_mono) (sSeq_mono (sIf_mono (fOr_mono (fBin_mono (fIsi_mono fVar_mono) (fIsi_mono fVar_mono)) (fBin_mono (fIsi_mono fVar_mono) (fIsi_mono fVar_mono))) (sRet_mono fLit_mono) sNil_mono) (sRet_mono (fAnd_mono (fBin_mono (fFN_mono (fCons_mono fVar_mono fNil_mono)) (fFN_mono (fCons_mono fVar_mono fNil_mono))) (fFC_mono (fComp_mono (fIt_mono (fCons_mono (fFN_mono (fCons_mono fVar_mono fNil_mono)) fNil_mono)) mo_no (fCall_mono ih.mo (fCons_mono (fBin_mono fVar_mono fVar_mono) (fCons_mono (fBin_mono fVar_mono fVar_mono) fNil_mono)))))))))))
  exact fn_ok hm D sc__law_same (by decide) (fun _ _ _ _ _ _ us hl => match us, hl with | [_, _], _ => rfl) mb fun cdv A' outer s H E hr => (ss_cons (s_if (t_isN (vr 1)) (ss_one (s_ret (e_isN (vr 0)))) ss_nil) (ss_cons (s_if (t_val (e_isiT rfl A.g_isinstance (vr 1) (ty_cons (ty_name .bl rfl (by decide +kernel) rfl A.g_bool) (ty_cons (ty_name .str rfl (by decide +kernel) rfl A.g_str) ty_nil)) (Nat.le_of_ble_eq_true rfl))) (ss_one (s_ret (e_and (e_cmp (room64 hr) .eq (e_isi rfl A.g_isinstance (vr 0) (ty_name .bl rfl (by decide +kernel) rfl A.g_bool)) (e_isi rfl A.g_isinstance (vr 1) (ty_name .bl rfl (by decide +kernel) rfl A.g_bool))) (e_and (e_isiT rfl A.g_isinstance (vr 0) (ty_cons (ty_name .bl rfl (by decide +kernel) rfl A.g_bool) (ty_cons (ty_name .str rfl (by decide +kernel) rfl A.g_str) ty_nil)) (Nat.le_of_ble_eq_true rfl)) (e_one (e_cmp (room64 hr) .eq (vr 0) (vr 1))))))) ss_nil) (ss_cons (s_if (t_val (e_isi rfl A.g_isinstance (vr 1) (ty_name .int rfl (by decide +kernel) rfl A.g_int))) (ss_one (s_ret (e_and (e_isi rfl A.g_isinstance (vr 0) (ty_name .int rfl (by decide +kernel) rfl A.g_int)) (e_and (e_not (e_isi rfl A.g_isinstance (vr 0) (ty_name .bl rfl (by decide +kernel) rfl A.g_bool))) (e_one (e_cmp (room64 hr) .eq (vr 0) (vr 1))))))) ss_nil) (ss_cons (s_if (SW.t (w_or (t_cmp (room64 hr) .ne (e_isi rfl A.g_isinstance (vr 1) (ty_name .lst rfl (by decide +kernel) rfl A.g_list)) (e_isi rfl A.g_isinstance (vr 0) (ty_name .lst rfl (by decide +kernel) rfl A.g_list))) (w_one (t_cmp (room64 hr) .ne (e_isi rfl A.g_isinstance (vr 1) (ty_name .tup rfl (by decide +kernel) rfl A.g_tuple)) (e_isi rfl A.g_isinstance (vr 0) (ty_name .tup rfl (by decide +kernel) rfl A.g_tuple)))))) (ss_one (s_ret e_bl)) ss_nil) (ss_one (s_ret (e_and (e_cmp (room64 hr) .eq (e_bi rfl .len rfl rfl A.g_len (a_cons (vr 0) a_nil)) (e_bi rfl .len rfl rfl A.g_len (a_cons (vr 1) a_nil))) (e_one (e_bic rfl .all cAll rfl rfl rfl A.g_all (e_lc (own := [("at", 2)]) rfl sc__law_same.nd (i_range1 rfl A.g_range (a_cons (e_bi rfl .len rfl rfl A.g_len (a_cons (vr 1) a_nil)) a_nil)) (blkOk_by rfl) (by decide) (fun s H C cl fp => (tg 2 sc__law_same.nd)) .none (fun s H C cl fp => (e_call ih (Nat.le_refl _) hr takes0 rfl (a_cons (e_ix (vr 0) (vr 2)) (a_cons (e_ix (vr 1) (vr 2)) a_nil))))))))))))))
theorem ok__law_same (A : Fx P w K mg base) (n : Nat) : Fn P w K mg base [] "_law_same" s__law_same ["got", "due"] (0 + n) (sp__law_same n) := by
  induction n with
  | zero =>
    obtain ⟨f, fd, hm, D⟩ := A.d__law_same
    exact (fn_no hm D (fun _ _ _ _ _ _ us hl => match us, hl with | [_, _], _ => rfl)).up (Nat.zero_le _)
  | succ n ih => exact st__law_same A (by omega) ih
abbrev s__law_gold : Stmt := top 17
theorem sc__law_gold : FnScope ["n", "sizes", "turn", "found", "own"] ["n"] (defScope s__law_gold) := ⟨rfl, rfl, rfl, by decide +kernel, rfl, by decide +kernel, by decide +kernel⟩
noncomputable def b__law_gold : FS := (sSeq (sAsg (fLst (fCons (fLit (.int 1)) (fCons (fLit (.int 2)) fNil))) (.nm 1)) (sSeq (sFor (fIt gRange1 (fCons (fLit (.int 160)) fNil)) (.nm 2) (sSeq (sIf (fBin gGt (fBin gIx (fVar 1) (fNeg (fLit (.int 1)))) (fVar 0)) sBrk sNil) (sExp (fMt .append (fVar 1) (fCons (fBin gAdd (fBin gIx (fVar 1) (fNeg (fLit (.int 1)))) (fBin gIx (fVar 1) (fNeg (fLit (.int 2))))) fNil))))) (sSeq (sAsg (fLst fNil) (.nm 3)) (sSeq (sFor (fSeq (fRev (fVar 1))) (.nm 4) (sIf (fBin gLe (fVar 4) (fVar 0)) (sSeq (sAsg (fBin gSub (fVar 0) (fVar 4)) (.nm 0)) (sExp (fMt .append (fVar 3) (fCons (fLit (.int 1)) fNil)))) (sIf (fBin gNe (fVar 3) (fLst fNil)) (sExp (fMt .append (fVar 3) (fCons (fLit (.int 0)) fNil))) sNil))) (sRet (fFN gTuple (fCons (fRev (fVar 3)) fNil)))))))
noncomputable def sp__law_gold : Ev.Spec := fnSp 1 5 b__law_gold
theorem ok__law_gold (A : Fx P w K mg base) : Fn P w K mg base [] "_law_gold" s__law_gold ["n"] 1 sp__law_gold := by
  obtain ⟨f, fd, hm, D⟩ := A.d__law_gold
  have mb : MonS b__law_gold := (sSeq_mono (sAsg_mono (fLst_mono (fCons_mono fLit_mono (fCons_mono fLit_mono fNil_mono)))) (sSeq_mono (sFor_mono (fIt_mono (fCons_mono fLit_mono fNil_mono)) (sSeq_mono (sIf_mono (fBin_mono (fBin_mono fVar_mono (fNeg_mono fLit_mono)) fVar_mono) sBrk_mono sNil_mono) (sExp_mono (fMt_mono fVar_mono (fCons_mono (fBin_mono (fBin_mono fVar_mono (fNeg_mono fLit_mono)) (fBin_mono fVar_mono (fNeg_mono fLit_mono))) fNil_mono))))) (sSeq_mono (sAsg_mono (fLst_mono fNil_mono)) (sSeq_mono (sFor_mono (fSeq_mono (fRev_mono fVar_mono)) (sIf_mono (fBin_mono fVar_mono fVar_mono) (sSeq_mono (sAsg_mono (fBin_mono fVar_mono fVar_mono)) (sExp_mono (fMt_mono fVar_mono (fCons_mono fLit_mono fNil_mono)))) (sIf_mono (fBin_mono fVar_mono (fLst_mono fNil_mono)) (sExp_mono (fMt_mono fVar_mono (fCons_mono fLit_mono fNil_mono))) sNil_mono))) (sRet_mono (fFN_mono (fCons_mono (fRev_mono fVar_mono) fNil_mono)))))))
  exact fn_ok hm D sc__law_gold (by decide) (fun _ _ _ _ _ _ us hl => match us, hl with | [_], _ => rfl) mb fun cdv A' outer s H E hr => (ss_cons (s_set (j := 1) sc__law_gold.nd rfl (by first | exact Or.inl rfl | exact Or.inr rfl) (e_lst (a_cons e_int (a_cons e_int a_nil)))) (ss_cons (s_for bcx_owns rfl (i_range1 rfl A.g_range (a_cons e_int a_nil)) (tg 2 sc__law_gold.nd) (ss_cons (s_if (t_cmp (room64 hr) .gt (e_ix (vr 1) (e_neg e_int)) (vr 0)) (ss_one s_brk) ss_nil) (ss_one (s_exp (e_mt .append rfl (vr 1) (a_cons (e_bin .add (e_ix (vr 1) (e_neg e_int)) (e_ix (vr 1) (e_neg e_int))) a_nil)))))) (ss_cons (s_set (j := 3) sc__law_gold.nd rfl (by first | exact Or.inl rfl | exact Or.inr rfl) (e_lst a_nil)) (ss_cons (s_for bcx_owns rfl (i_seq (e_rev (vr 1))) (tg 4 sc__law_gold.nd) (ss_one (s_if (t_cmp (room64 hr) .le (vr 4) (vr 0)) (ss_cons (s_set (j := 0) sc__law_gold.nd rfl (by first | exact Or.inl rfl | exact Or.inr rfl) (e_bin .sub (vr 0) (vr 4))) (ss_one (s_exp (e_mt .append rfl (vr 3) (a_cons e_int a_nil))))) (ss_one (s_if (t_cmp (room64 hr) .ne (vr 3) (e_lst a_nil)) (ss_one (s_exp (e_mt .append rfl (vr 3) (a_cons e_int a_nil)))) ss_nil))))) (ss_one (s_ret (e_bi rfl .tuple rfl rfl A.g_tuple (a_cons (e_rev (vr 3)) a_nil))))))))
abbrev s__law_sum : Stmt := top 18
theorem sc__law_sum : FnScope ["rows", "one", "other", "total", "own"] ["rows"] (defScope s__law_sum) := ⟨rfl, rfl, rfl, by decide +kernel, rfl, by decide +kernel, by decide +kernel⟩
noncomputable def b__law_sum : FS := (sSeq (sAsg (fTup (fCons (fLit (.int 1)) (fCons (fLit (.int 2)) (fCons (fLit (.int 0)) fNil)))) (.tp (.cons (.nm 1) (.cons (.nm 2) (.cons (.nm 3) .nil))))) (sSeq (sFor (fSeq (fVar 0)) (.nm 4) (sSeq (sAug 3 .add (fBin gMul (fVar 4) (fVar 1))) (sPar (fCons (fVar 2) (fCons (fBin gAdd (fVar 1) (fVar 2)) fNil)) (.cons (.nm 1) (.cons (.nm 2) .nil))))) (sRet (fVar 3))))
noncomputable def sp__law_sum : Ev.Spec := fnSp 1 5 b__law_sum
theorem ok__law_sum (A : Fx P w K mg base) : Fn P w K mg base [] "_law_sum" s__law_sum ["rows"] 1 sp__law_sum := by
  obtain ⟨f, fd, hm, D⟩ := A.d__law_sum
  have mb : MonS b__law_sum := (sSeq_mono (sAsg_mono (fTup_mono (fCons_mono fLit_mono (fCons_mono fLit_mono (fCons_mono fLit_mono fNil_mono))))) (sSeq_mono (sFor_mono (fSeq_mono fVar_mono) (sSeq_mono (sAug_mono (fBin_mono fVar_mono fVar_mono)) (sPar_mono (fCons_mono fVar_mono (fCons_mono (fBin_mono fVar_mono fVar_mono) fNil_mono))))) (sRet_mono fVar_mono)))
  exact fn_ok hm D sc__law_sum (by decide) (fun _ _ _ _ _ _ us hl => match us, hl with | [_], _ => rfl) mb fun cdv A' outer s H E hr => (ss_cons (s_asg (e_tup (a_cons e_int (a_cons e_int (a_cons e_int a_nil)))) (g_tp rfl (gs_cons (tg 1 sc__law_sum.nd) (gs_cons (tg 2 sc__law_sum.nd) (gs_cons (tg 3 sc__law_sum.nd) gs_nil))))) (ss_cons (s_for bcx_owns rfl (i_seq (vr 0)) (tg 4 sc__law_sum.nd) (ss_cons (s_aug (j := 3) .add sc__law_sum.nd rfl (by first | exact Or.inl rfl | exact Or.inr rfl) (e_bin .mul (vr 4) (vr 1))) (ss_one (s_par (i1 := 1) (j1 := 2) rfl sc__law_sum.nd rfl rfl (by decide) rfl rfl (a_cons (vr 2) (a_cons (e_bin .add (vr 1) (vr 2)) a_nil)))))) (ss_one (s_ret (vr 3)))))
abbrev s__law_refused : Stmt := top 19
theorem sc__law_refused : FnScope ["n", "rows", "found", "e"] ["n", "rows"] (defScope s__law_refused) := ⟨rfl, rfl, rfl, by decide +kernel, rfl, by decide +kernel, by decide +kernel⟩
noncomputable def b__law_refused : FS := (sSeq (sAsg (fLst (fCons (fLit .non) (fCons (fLit .non) fNil))) (.nm 2)) (sSeq (sTry (sExp (fCall sp_golden_digits (fCons (fVar 0) fNil))) sub_InvalidInteger 3 (sSet (fVar 2) (fLit (.int 0)) (fLst (fCons (fXv xcs (fVar 3)) fNil)))) (sSeq (sTry (sExp (fCall sp_golden_number (fCons (fVar 1) fNil))) sub_InvalidRows 3 (sSet (fVar 2) (fLit (.int 1)) (fLst (fCons (fXv xcs (fVar 3)) fNil)))) (sRet (fVar 2)))))
noncomputable def sp__law_refused : Ev.Spec := fnSp 2 4 b__law_refused
theorem ok__law_refused (A : Fx P w K mg base) : Fn P w K mg base [] "_law_refused" s__law_refused ["n", "rows"] 5 sp__law_refused := by
  obtain ⟨f, fd, hm, D⟩ := A.d__law_refused
  have mb : MonS b__law_refused := (sSeq_mono (sAsg_mono (fLst_mono (fCons_mono fLit_mono (fCons_mono fLit_mono fNil_mono)))) (sSeq_mono (sTry_mono (sExp_mono (fCall_mono (ok_golden_digits A).mo (fCons_mono fVar_mono fNil_mono))) (sSet_mono fVar_mono fLit_mono (fLst_mono (fCons_mono (fXv_mono fVar_mono) fNil_mono)))) (sSeq_mono (sTry_mono (sExp_mono (fCall_mono (ok_golden_number A).mo (fCons_mono fVar_mono fNil_mono))) (sSet_mono fVar_mono fLit_mono (fLst_mono (fCons_mono (fXv_mono fVar_mono) fNil_mono)))) (sRet_mono fVar_mono))))
  exact fn_ok hm D sc__law_refused (by decide) (fun _ _ _ _ _ _ us hl => match us, hl with | [_, _], _ => rfl) mb fun cdv A' outer s H E hr => (ss_cons (s_set (j := 2) sc__law_refused.nd rfl (by first | exact Or.inl rfl | exact Or.inr rfl) (e_lst (a_cons e_non (a_cons e_non a_nil)))) (ss_cons (s_try (i := 3) rfl rfl rfl sc__law_refused.nd rfl rfl ⟨rfl, by decide, .inl A.k_InvalidInteger.1⟩ bcx_takes A.k_InvalidInteger.2 (fun W pn xe tk hp => (ss_one (s_exp (e_call (ok_golden_digits A) (by decide) hr tk rfl (a_cons (vr 0) a_nil))))) (fun a pn => (ss_one (s_setix (vr 2) e_int (e_lst (a_cons (e_xv A.xv (vr 3)) a_nil)))))) (ss_cons (s_try (i := 3) rfl rfl rfl sc__law_refused.nd rfl rfl ⟨rfl, by decide, .inl A.k_InvalidRows.1⟩ bcx_takes A.k_InvalidRows.2 (fun W pn xe tk hp => (ss_one (s_exp (e_call (ok_golden_number A) (by decide) hr tk rfl (a_cons (vr 1) a_nil))))) (fun a pn => (ss_one (s_setix (vr 2) e_int (e_lst (a_cons (e_xv A.xv (vr 3)) a_nil)))))) (ss_one (s_ret (vr 2))))))
abbrev s_law : Stmt := top 20
theorem sc_law : FnScope ["script", "pot", "turn", "n", "due", "drawn", "last", "at", "rows", "told", "turn_back", "first", "second", "wrong", "odd"] ["script"] (defScope s_law) := ⟨rfl, rfl, rfl, by decide +kernel, rfl, by decide +kernel, by decide +kernel⟩
noncomputable def b_law : FS := (sSeq (sAsg (fCall sp__law_pot (fCons (fVar 0) fNil)) (.nm 1)) (sSeq (sFor (fIt gRange1 (fCons (fLit (.int 8)) fNil)) (.nm 2) (sSeq (sAsg (fCall sp__law_take (fCons (fVar 1) (fCons (fBin gIx (fLst (fCons (fLit (.int 12)) (fCons (fLit (.int 300)) (fCons (fBin gPow (fLit (.int 10)) (fLit (.int 9))) (fCons (fBin gPow (fLit (.int 10)) (fLit (.int 30))) fNil))))) (fCall sp__law_take (fCons (fVar 1) (fCons (fLit (.int 4)) fNil)))) fNil))) (.nm 3)) (sSeq (sAsg (fCall sp__law_gold (fCons (fVar 3) fNil)) (.nm 4)) (sSeq (sIf (fOr (fNot (fCall (sp__law_same 8) (fCons (fLst (fCons (fCall sp_golden_digits (fCons (fVar 3) fNil)) (fCons (fCall sp_golden_digits (fCons (fVar 3) fNil)) (fCons (fCall sp_golden_number (fCons (fVar 4) fNil)) (fCons (fCall sp_golden_number (fCons (fBin gAdd (fVar 4) (fTup (fCons (fLit (.int 0)) (fCons (fLit (.int 0)) fNil)))) fNil)) fNil))))) (fCons (fLst (fCons (fVar 4) (fCons (fVar 4) (fCons (fVar 3) (fCons (fVar 3) fNil))))) fNil)))) (fBin gNe (fCall sp__law_sum (fCons (fVar 4) fNil)) (fVar 3))) (sRet (fLit (.bl false))) sNil) (sSeq (sPar (fCons (fLst fNil) (fCons (fLit (.int 0)) fNil)) (.cons (.nm 5) (.cons (.nm 6) .nil))) (sSeq (sFor (fIt gRange1 (fCons (fCall sp__law_take (fCons (fVar 1) (fCons (fLit (.int 40)) fNil))) fNil)) (.nm 7) (sSeq (sAsg (fIte (fBin gEq (fVar 6) (fLit (.int 1))) (fLit (.int 0)) (fCall sp__law_take (fCons (fVar 1) (fCons (fLit (.int 2)) fNil)))) (.nm 6)) (sExp (fMt .append (fVar 5) (fCons (fVar 6) fNil))))) (sSeq (sAsg (fFN gTuple (fCons (fVar 5) fNil)) (.nm 8)) (sSeq (sAsg (fCall sp_golden_number (fCons (fVar 8) fNil)) (.nm 9)) (sSeq (sFor (fIt gRange1 (fCons (fLit (.int 40)) fNil)) (.nm 10) (sIf (fAnd (fBin gNe (fVar 5) (fLst fNil)) (fBin gEq (fBin gIx (fVar 5) (fNeg (fLit (.int 1)))) (fLit (.int 0)))) (sExp (fMt .pop (fVar 5) fNil)) sNil)) (sSeq (sIf (fNot (fCall (sp__law_same 8) (fCons (fLst (fCons (fVar 9) (fCons (fCall sp_golden_digits (fCons (fVar 9) fNil)) fNil))) (fCons (fLst (fCons (fCall sp__law_sum (fCons (fVar 8) fNil)) (fCons (fFN gTuple (fCons (fVar 5) fNil)) fNil))) fNil)))) (sRet (fLit (.bl false))) sNil) (sSeq (sPar (fCons (fCall sp_golden_digits (fCons (fVar 3) fNil)) (fCons (fCall sp_golden_digits (fCons (fBin gAdd (fVar 3) (fLit (.int 1))) fNil)) fNil)) (.cons (.nm 11) (.cons (.nm 12) .nil))) (sSeq (sIf (fBin gLe (fTup (fCons (fFN gLen (fCons (fVar 12) fNil)) (fCons (fRev (fVar 12)) fNil))) (fTup (fCons (fFN gLen (fCons (fVar 11) fNil)) (fCons (fRev (fVar 11)) fNil)))) (sRet (fLit (.bl false))) sNil) (sSeq (sAsg (fBin gIx (fLst (fCons (fTup (fCons (fLit (.int 1)) (fCons (fLit (.int 1)) fNil))) (fCons (fTup (fCons (fLit (.int 0)) (fCons (fLit (.int 1)) (fCons (fLit (.int 1)) (fCons (fLit (.int 0)) fNil))))) (fCons (fLst (fCons (fLit (.int 0)) (fCons (fLit (.int 1)) fNil))) (fCons (fTup (fCons (fLit (.int 2)) fNil)) (fCons (fTup (fCons (fLit (.int 0)) (fCons (fNeg (fLit (.int 1))) fNil))) (fCons (fLit .non) (fCons (fTup (fCons (fLit (.bl true)) fNil)) (fCons (fTup (fCons (fLit (.str "1")) fNil)) (fCons (fLit (.int 5)) (fCons (fTup (fCons (fLit (.int 1)) (fCons (fLit (.int 0)) (fCons (fLit (.int 1)) (fCons (fLit (.int 1)) fNil))))) fNil))))))))))) (fCall sp__law_take (fCons (fVar 1) (fCons (fLit (.int 10)) fNil)))) (.nm 13)) (sSeq (sAsg (fBin gIx (fLst (fCons (fNeg (fLit (.int 1))) (fCons (fLit .non) (fCons (fLit (.bl true)) (fCons (fLit (.str "3")) (fCons (fTup (fCons (fLit (.int 2)) fNil)) (fCons (fNeg (fBin gPow (fLit (.int 10)) (fLit (.int 20)))) fNil))))))) (fCall sp__law_take (fCons (fVar 1) (fCons (fLit (.int 6)) fNil)))) (.nm 14)) (sIf (fNot (fCall (sp__law_same 8) (fCons (fCall sp__law_refused (fCons (fVar 14) (fCons (fVar 13) fNil))) (fCons (fLst (fCons (fLst (fCons (fVar 14) fNil)) (fCons (fLst (fCons (fVar 13) fNil)) fNil))) fNil)))) (sRet (fLit (.bl false))) sNil))))))))))))))) (sRet (fLit (.bl true)))))
noncomputable def sp_law : Ev.Spec := fnSp 1 15 b_law
theorem ok_law (A : Fx P w K mg base) : Fn P w K mg base [] "law" s_law ["script"] 9 sp_law := by
  obtain ⟨f, fd, hm, D⟩ := A.d_law
  have mb : MonS b_law := (sSeq_mono (sAsg_mono (fCall_mono (ok__law_pot A).mo (fCons_mono fVar_mono fNil_mono))) (sSeq_mono (sFor_mono (fIt_mono (fCons_mono fLit_mono fNil_mono)) (sSeq_mono (sAsg_mono (fCall_mono (ok__law_take A).mo (fCons_mono fVar_mono (fCons_mono (fBin_mono (fLst_mono (fCons_mono fLit_mono (fCons_mono fLit_mono (fCons_mono (fBin_mono fLit_mono fLit_mono) (fCons_mono (fBin_mono fLit_mono fLit_mono) fNil_mono))))) (fCall_mono (ok__law_take A).mo (fCons_mono fVar_mono (fCons_mono fLit_mono fNil_mono)))) fNil_mono)))) (sSeq_mono (sAsg_mono (fCall_mono (ok__law_gold A).mo (fCons_mono fVar_mono fNil_mono))) (sSeq_mono (sIf_mono (fOr_mono (fNot_mono (fCall_mono (ok__law_same A 8).mo (fCons_mono (fLst_mono (fCons_mono (fCall_mono (ok_golden_digits A).mo (fCons_mono fVar_mono fNil_mono)) (fCons_mono (fCall_mono (ok_golden_digits A).mo (fCons_mono fVar_mono fNil_mono)) (fCons_mono (fCall_mono (ok_golden_number A).mo (fCons_mono fVar_mono fNil_mono)) (fCons_mono (fCall_mono (ok_golden_number A).mo (fCons_mono (fBin_mono fVar_mono (fTup_mono (fCons_mono fLit_mono (fCons_mono fLit_mono fNil_mono)))) fNil_mono)) fNil_mono))))) (fCons_mono (fLst_mono (fCons_mono fVar_mono (fCons_mono fVar_mono (fCons_mono fVar_mono (fCons_mono fVar_mono fNil_mono))))) fNil_mono)))) (fBin_mono (fCall_mono (ok__law_sum A).mo (fCons_mono fVar_mono fNil_mono)) fVar_mono)) (sRet_mono fLit_mono) sNil_mono) (sSeq_mono (sPar_mono (fCons_mono (fLst_mono fNil_mono) (fCons_mono fLit_mono fNil_mono))) (sSeq_mono (sFor_mono (fIt_mono (fCons_mono (fCall_mono (ok__law_take A).mo (fCons_mono fVar_mono (fCons_mono fLit_mono fNil_mono))) fNil_mono)) (sSeq_mono (sAsg_mono (fIte_mono (fBin_mono fVar_mono fLit_mono) fLit_mono (fCall_mono (ok__law_take A).mo (fCons_mono fVar_mono (fCons_mono fLit_mono fNil_mono))))) (sExp_mono (fMt_mono fVar_mono (fCons_mono fVar_mono fNil_mono))))) (sSeq_mono (sAsg_mono (fFN_mono (fCons_mono fVar_mono fNil_mono))) (sSeq_mono (sAsg_mono (fCall_mono (ok_golden_number A).mo (fCons_mono fVar_mono fNil_mono))) (sSeq_mono (sFor_mono (fIt_mono (fCons_mono fLit_mono fNil_mono)) (sIf_mono (fAnd_mono (fBin_mono fVar_mono (fLst_mono fNil_mono)) (fBin_mono (fBin_mono fVar_mono (fNeg_mono fLit_mono)) fLit_mono)) (sExp_mono (fMt_mono fVar_mono fNil_mono)) sNil_mono)) (sSeq_mono (sIf_mono (fNot_mono (fCall_mono (ok__law_same A 8).mo (fCons_mono (fLst_mono (fCons_mono fVar_mono (fCons_mono (fCall_mono (ok_golden_digits A).mo (fCons_mono fVar_mono fNil_mono)) fNil_mono))) (fCons_mono (fLst_mono (fCons_mono (fCall_mono (ok__law_sum A).mo (fCons_mono fVar_mono fNil_mono)) (fCons_mono (fFN_mono (fCons_mono fVar_mono fNil_mono)) fNil_mono))) fNil_mono)))) (sRet_mono fLit_mono) sNil_mono) (sSeq_mono (sPar_mono (fCons_mono (fCall_mono (ok_golden_digits A).mo (fCons_mono fVar_mono fNil_mono)) (fCons_mono (fCall_mono (ok_golden_digits A).mo (fCons_mono (fBin_mono fVar_mono fLit_mono) fNil_mono)) fNil_mono))) (sSeq_mono (sIf_mono (fBin_mono (fTup_mono (fCons_mono (fFN_mono (fCons_mono fVar_mono fNil_mono)) (fCons_mono (fRev_mono fVar_mono) fNil_mono))) (fTup_mono (fCons_mono (fFN_mono (fCons_mono fVar_mono fNil_mono)) (fCons_mono (fRev_mono fVar_mono) fNil_mono)))) (sRet_mono fLit_mono) sNil_mono) (sSeq_mono (sAsg_mono (fBin_mono (fLst_mono (fCons_mono (fTup_mono (fCons_mono fLit_mono (fCons_mono fLit_mono fNil_mono))) (fCons_mono (fTup_mono (fCons_mono fLit_mono (fCons_mono fLit_mono (fCons_mono fLit_mono (fCons_mono fLit_mono fNil_mono))))) (fCons_mono (fLst_mono (fCons_mono fLit_mono (fCons_mono fLit_mono fNil_mono))) (fCons_mono (fTup_mono (fCons_mono fLit_mono fNil_mono)) (fCons_mono (fTup_mono (fCons_mono fLit_mono (fCons_mono (fNeg_mono fLit_mono) fNil_mono))) (fCons_mono fLit_mono (fCons_mono (fTup_mono (fCons_mono fLit_mono fNil_mono)) (fCons_mono (fTup_mono (fCons_mono fLit_mono fNil_mono)) (fCons_mono fLit_mono (fCons_mono (fTup_mono (fCons_mono fLit_mono (fCons_mono fLit_mono (fCons_mono fLit_mono (fCons_mono fLit_mono fNil_mono))))) fNil_mono))))))))))) (fCall_mono (ok__law_take A).mo (fCons_mono fVar_mono (fCons_mono fLit_mono fNil_mono))))) (sSeq_mono (sAsg_mono (fBin_mono (fLst_mono (fCons_mono (fNeg_mono fLit_mono) (fCons_mono fLit_mono (fCons_mono fLit_mono (fCons_mono fLit_mono (fCons_mono (fTup_mono (fCons_mono fLit_mono fNil_mono)) (fCons_mono (fNeg_mono (fBin_mono fLit_mono fLit_mono)) fNil_mono))))))) (fCall_mono (ok__law_take A).mo (fCons_mono fVar_mono (fCons_mono fLit_mono fNil_mono))))) (sIf_mono (fNot_mono (fCall_mono (ok__law_same A 8).mo (fCons_mono (fCall_mono (ok__law_refused A).mo (fCons_mono fVar_mono (fCons_mono fVar_mono fNil_mono))) (fCons_mono (fLst_mono (fCons_mono (fLst_mono (fCons_mono fVar_mono fNil_mono)) (fCons_mono (fLst_mono (fCons_mono fVar_mono fNil_mono)) fNil_mono))) fNil_mono)))) (sRet_mono fLit_mono) sNil_mono))))))))))))))) (sRet_mono fLit_mono)))
  exact fn_ok hm D sc_law (by decide) (fun _ _ _ _ _ _ us hl => match us, hl with | [_], _ => rfl) mb fun cdv A' outer s H E hr => (ss_cons (s_set (j := 1) sc_law.nd rfl (by first | exact Or.inl rfl | exact Or.inr rfl) (e_call (ok__law_pot A) (by decide) hr bcx_takes rfl (a_cons (vr 0) a_nil))) (ss_cons (s_for bcx_owns rfl (i_range1 rfl A.g_range (a_cons e_int a_nil)) (tg 2 sc_law.nd) (ss_cons (s_set (j := 3) sc_law.nd rfl (by first | exact Or.inl rfl | exact Or.inr rfl) (e_call (ok__law_take A) (by decide) hr bcx_takes rfl (a_cons (vr 1) (a_cons (e_ix (e_lst (a_cons e_int (a_cons e_int (a_cons (e_bin .pow e_int e_int) (a_cons (e_bin .pow e_int e_int) a_nil))))) (e_call (ok__law_take A) (by decide) hr bcx_takes rfl (a_cons (vr 1) (a_cons e_int a_nil)))) a_nil)))) (ss_cons (s_set (j := 4) sc_law.nd rfl (by first | exact Or.inl rfl | exact Or.inr rfl) (e_call (ok__law_gold A) (by decide) hr bcx_takes rfl (a_cons (vr 3) a_nil))) (ss_cons (s_if (SW.t (w_or (t_not (t_val (e_call (ok__law_same A 8) (by decide) hr bcx_takes rfl (a_cons (e_lst (a_cons (e_call (ok_golden_digits A) (by decide) hr bcx_takes rfl (a_cons (vr 3) a_nil)) (a_cons (e_callK0 (ks := ["n"]) (ok_golden_digits A) (by decide) hr bcx_takes rfl (k_cons (vr 3) k_nil) (fun _ _ _ _ _ _ us hl => match us, hl with | [_], _ => rfl)) (a_cons (e_call (ok_golden_number A) (by decide) hr bcx_takes rfl (a_cons (vr 4) a_nil)) (a_cons (e_callK0 (ks := ["rows"]) (ok_golden_number A) (by decide) hr bcx_takes rfl (k_cons (e_bin .add (vr 4) (e_tup (a_cons e_int (a_cons e_int a_nil)))) k_nil) (fun _ _ _ _ _ _ us hl => match us, hl with | [_], _ => rfl)) a_nil))))) (a_cons (e_lst (a_cons (vr 4) (a_cons (vr 4) (a_cons (vr 3) (a_cons (vr 3) a_nil))))) a_nil))))) (w_one (t_cmp (room64 hr) .ne (e_call (ok__law_sum A) (by decide) hr bcx_takes rfl (a_cons (vr 4) a_nil)) (vr 3))))) (ss_one (s_ret e_bl)) ss_nil) (ss_cons (s_par (i1 := 5) (j1 := 6) rfl sc_law.nd rfl rfl (by decide) rfl rfl (a_cons (e_lst a_nil) (a_cons e_int a_nil))) (ss_cons (s_for bcx_owns rfl (i_range1 rfl A.g_range (a_cons (e_call (ok__law_take A) (by decide) hr bcx_takes rfl (a_cons (vr 1) (a_cons e_int a_nil))) a_nil)) (tg 7 sc_law.nd) (ss_cons (s_set (j := 6) sc_law.nd rfl (by first | exact Or.inl rfl | exact Or.inr rfl) (e_ite (t_cmp (room64 hr) .eq (vr 6) e_int) e_int (e_call (ok__law_take A) (by decide) hr bcx_takes rfl (a_cons (vr 1) (a_cons e_int a_nil))))) (ss_one (s_exp (e_mt .append rfl (vr 5) (a_cons (vr 6) a_nil)))))) (ss_cons (s_set (j := 8) sc_law.nd rfl (by first | exact Or.inl rfl | exact Or.inr rfl) (e_bi rfl .tuple rfl rfl A.g_tuple (a_cons (vr 5) a_nil))) (ss_cons (s_set (j := 9) sc_law.nd rfl (by first | exact Or.inl rfl | exact Or.inr rfl) (e_call (ok_golden_number A) (by decide) hr bcx_takes rfl (a_cons (vr 8) a_nil))) (ss_cons (s_for bcx_owns rfl (i_range1 rfl A.g_range (a_cons e_int a_nil)) (tg 10 sc_law.nd) (ss_one (s_if (SW.t (w_and (t_cmp (room64 hr) .ne (vr 5) (e_lst a_nil)) (w_one (t_cmp (room64 hr) .eq (e_ix (vr 5) (e_neg e_int)) e_int)))) (ss_one (s_exp (e_mt0 .pop rfl (vr 5)))) ss_nil))) (ss_cons (s_if (t_not (t_val (e_call (ok__law_same A 8) (by decide) hr bcx_takes rfl (a_cons (e_lst (a_cons (vr 9) (a_cons (e_call (ok_golden_digits A) (by decide) hr bcx_takes rfl (a_cons (vr 9) a_nil)) a_nil))) (a_cons (e_lst (a_cons (e_call (ok__law_sum A) (by decide) hr bcx_takes rfl (a_cons (vr 8) a_nil)) (a_cons (e_bi rfl .tuple rfl rfl A.g_tuple (a_cons (vr 5) a_nil)) a_nil))) a_nil))))) (ss_one (s_ret e_bl)) ss_nil) (ss_cons (s_par (i1 := 11) (j1 := 12) rfl sc_law.nd rfl rfl (by decide) rfl rfl (a_cons (e_call (ok_golden_digits A) (by decide) hr bcx_takes rfl (a_cons (vr 3) a_nil)) (a_cons (e_call (ok_golden_digits A) (by decide) hr bcx_takes rfl (a_cons (e_bin .add (vr 3) e_int) a_nil)) a_nil))) (ss_cons (s_if (t_cmp (room64 hr) .le (e_tup (a_cons (e_bi rfl .len rfl rfl A.g_len (a_cons (vr 12) a_nil)) (a_cons (e_rev (vr 12)) a_nil))) (e_tup (a_cons (e_bi rfl .len rfl rfl A.g_len (a_cons (vr 11) a_nil)) (a_cons (e_rev (vr 11)) a_nil)))) (ss_one (s_ret e_bl)) ss_nil) (ss_cons (s_set (j := 13) sc_law.nd rfl (by first | exact Or.inl rfl | exact Or.inr rfl) (e_ix (e_lst (a_cons (e_tup (a_cons e_int (a_cons e_int a_nil))) (a_cons (e_tup (a_cons e_int (a_cons e_int (a_cons e_int (a_cons e_int a_nil))))) (a_cons (e_lst (a_cons e_int (a_cons e_int a_nil))) (a_cons (e_tup (a_cons e_int a_nil)) (a_cons (e_tup (a_cons e_int (a_cons (e_neg e_int) a_nil))) (a_cons e_non (a_cons (e_tup (a_cons e_bl a_nil)) (a_cons (e_tup (a_cons e_str a_nil)) (a_cons e_int (a_cons (e_tup (a_cons e_int (a_cons e_int (a_cons e_int (a_cons e_int a_nil))))) a_nil))))))))))) (e_call (ok__law_take A) (by decide) hr bcx_takes rfl (a_cons (vr 1) (a_cons e_int a_nil))))) (ss_cons (s_set (j := 14) sc_law.nd rfl (by first | exact Or.inl rfl | exact Or.inr rfl) (e_ix (e_lst (a_cons (e_neg e_int) (a_cons e_non (a_cons e_bl (a_cons e_str (a_cons (e_tup (a_cons e_int a_nil)) (a_cons (e_neg (e_bin .pow e_int e_int)) a_nil))))))) (e_call (ok__law_take A) (by decide) hr bcx_takes rfl (a_cons (vr 1) (a_cons e_int a_nil))))) (ss_one (s_if (t_not (t_val (e_call (ok__law_same A 8) (by decide) hr bcx_takes rfl (a_cons (e_call (ok__law_refused A) (by decide) hr bcx_takes rfl (a_cons (vr 14) (a_cons (vr 13) a_nil))) (a_cons (e_lst (a_cons (e_lst (a_cons (vr 14) a_nil)) (a_cons (e_lst (a_cons (vr 13) a_nil)) a_nil))) a_nil))))) (ss_one (s_ret e_bl)) ss_nil)))))))))))))))) (ss_one (s_ret e_bl))))
end
end K78

set_option Elab.async false
set_option linter.all false
set_option maxRecDepth 100000
/-! K78m: golden digits in plain Lean. -/
namespace K78
def fb : Nat → Int
  | 0 => 1
  | 1 => 2
  | n + 2 => fb n + fb (n + 1)
theorem fb_pos : ∀ n, 0 < fb n
  | 0 => by decide
  | 1 => by decide
  | n + 2 => by
    have h1 := fb_pos n
    have h2 := fb_pos (n + 1)
    show 0 < fb n + fb (n + 1)
    omega
theorem fb_ss (n : Nat) : fb (n + 2) = fb n + fb (n + 1) := rfl
theorem fb_lt (n : Nat) : fb n < fb (n + 1) := by
  cases n with
  | zero => decide
  | succ n => rw [fb_ss]; have := fb_pos n; omega
theorem fb_le {m n : Nat} (h : m ≤ n) : fb m ≤ fb n := by
  induction n with
  | zero => have : m = 0 := by omega
            subst this; omega
  | succ n ih =>
    rcases Nat.lt_or_ge n m with h1 | h1
    · have : m = n + 1 := by omega
      subst this; omega
    · have := ih h1
      have := fb_lt n
      omega
theorem fb_dbl (n : Nat) : fb (n + 1) ≤ fb n + fb n := by
  cases n with
  | zero => decide
  | succ n => rw [fb_ss]; have := fb_lt n; omega
theorem fb_grow (n : Nat) : (n : Int) < fb n := by
  induction n with
  | zero => decide
  | succ n ih => have := fb_lt n; omega
/-- the sum of digits from place k on -/
def va (k : Nat) : List Int → Int
  | [] => 0
  | d :: ds => d * fb k + va (k + 1) ds
theorem va_app : ∀ (k : Nat) (ds es : List Int), va k (ds ++ es) = va k ds + va (k + ds.length) es
  | k, [], es => by simp [va]
  | k, d :: ds, es => by
    show d * fb k + va (k + 1) (ds ++ es) = d * fb k + va (k + 1) ds + va (k + (ds.length + 1)) es
    rw [va_app (k + 1) ds es, show k + 1 + ds.length = k + (ds.length + 1) by omega]
    omega
theorem va_snoc (ds : List Int) (d : Int) : va 0 (ds ++ [d]) = va 0 ds + d * fb ds.length := by
  rw [va_app]
  simp [va]
theorem va_zeros (k n : Nat) : va k (List.replicate n 0) = 0 := by
  induction n generalizing k with
  | zero => rfl
  | succ n ih => rw [List.replicate_succ]; show 0 * fb k + _ = 0; rw [ih]; omega
/-- greedy digits at the places below m -/
def gr : Nat → Int → List Int
  | 0, _ => []
  | m + 1, n => if fb m ≤ n then gr m (n - fb m) ++ [1] else gr m n ++ [0]
theorem gr_len : ∀ (m : Nat) (n : Int), (gr m n).length = m
  | 0, _ => rfl
  | m + 1, n => by
    unfold gr
    split <;> rw [List.length_append, gr_len m] <;> rfl
theorem gr_val : ∀ (m : Nat) (n : Int), 0 ≤ n → n < fb m → va 0 (gr m n) = n
  | 0, n, h0, h1 => by
    have h1 : n < 1 := h1
    show (0 : Int) = n
    omega
  | m + 1, n, h0, h1 => by
    unfold gr
    have hd := fb_dbl m
    split
    · rename_i h
      rw [va_snoc, gr_len, gr_val m (n - fb m) (by omega) (by omega)]
      omega
    · rename_i h
      rw [va_snoc, gr_len, gr_val m n h0 (by omega)]
      omega
/-- digits 0 and 1, no two ones side by side, from the top: b says that the place above holds a one -/
inductive Okd : Bool → List Int → Prop
  | nil (b : Bool) : Okd b []
  | zero {b : Bool} {ds : List Int} : Okd false ds → Okd b (ds ++ [0])
  | one {ds : List Int} : Okd true ds → Okd false (ds ++ [1])
theorem Okd.weak {b : Bool} {ds : List Int} (h : Okd b ds) : Okd false ds := by
  cases h with
  | nil => exact .nil _
  | zero h => exact .zero h
  | one h => exact .one h
theorem gr_ok : ∀ (m : Nat) (n : Int), 0 ≤ n → n < fb m → Okd false (gr m n) ∧ (∀ k, m = k + 1 → n < fb k → Okd true (gr m n))
  | 0, n, _, _ => ⟨.nil _, fun k h => by omega⟩
  | m + 1, n, h0, h1 => by
    have hd := fb_dbl m
    unfold gr
    split
    · rename_i h
      refine ⟨.one ?_, fun k hk hn => ?_⟩
      · cases m with
        | zero => exact .nil _
        | succ k =>
          have : fb (k + 1 + 1) = fb k + fb (k + 1) := rfl
          exact (gr_ok (k + 1) (n - fb (k + 1)) (by omega) (by omega)).2 k rfl (by omega)
      · have : k = m := by omega
        subst this; omega
    · rename_i h
      have := (gr_ok m n h0 (by omega)).1
      exact ⟨.zero this, fun _ _ _ => .zero this⟩
theorem Okd.bound : ∀ {b : Bool} {ds : List Int}, Okd b ds → 0 ≤ va 0 ds ∧ va 0 ds < fb ds.length ∧ (b = true → ∀ k, ds.length = k + 1 → va 0 ds < fb k) := by
  intro b ds h
  induction h with
  | nil b => exact ⟨by decide, by decide, fun _ k h => by simp at h⟩
  | @zero b ds h ih =>
    obtain ⟨i1, i2, _⟩ := ih
    rw [va_snoc]
    have hl : (ds ++ [0]).length = ds.length + 1 := by simp
    rw [hl]
    have := fb_lt ds.length
    refine ⟨by omega, by omega, fun _ k hk => ?_⟩
    have : k = ds.length := by omega
    subst this
    omega
  | @one ds h ih =>
    obtain ⟨i1, i2, i3⟩ := ih
    rw [va_snoc]
    have hl : (ds ++ [1]).length = ds.length + 1 := by simp
    rw [hl]
    have hp := fb_pos ds.length
    refine ⟨by omega, ?_, fun h => by cases h⟩
    cases e : ds.length with
    | zero =>
      rw [e] at i2
      have i2 : va 0 ds < 1 := i2
      show va 0 ds + 1 * 1 < 2
      omega
    | succ k =>
      have := i3 rfl k e
      rw [fb_ss]
      omega
theorem gr_uniq : ∀ {b : Bool} {ds : List Int}, Okd b ds → gr ds.length (va 0 ds) = ds := by
  intro b ds h
  induction h with
  | nil b => rfl
  | @zero b ds h ih =>
    have hl : (ds ++ [0]).length = ds.length + 1 := by simp
    rw [hl, va_snoc]
    have := h.bound.2.1
    unfold gr
    rw [if_neg (by omega), show va 0 ds + 0 * fb ds.length = va 0 ds by omega, ih]
  | @one ds h ih =>
    have hl : (ds ++ [1]).length = ds.length + 1 := by simp
    rw [hl, va_snoc]
    have := h.bound.1
    unfold gr
    rw [if_pos (by omega), show va 0 ds + 1 * fb ds.length - fb ds.length = va 0 ds by omega, ih]
/-- the number of places -/
def Cnt (n : Int) (m : Nat) : Prop := n < fb m ∧ ∀ k, m = k + 1 → fb k ≤ n
theorem cnt_uniq {n : Int} {m l : Nat} (h1 : Cnt n m) (h2 : Cnt n l) : m = l := by
  rcases Nat.lt_trichotomy m l with h | h | h
  · obtain ⟨k, rfl⟩ : ∃ k, l = k + 1 := ⟨l - 1, by omega⟩
    have a := h2.2 k rfl
    have b := fb_le (show m ≤ k by omega)
    have := h1.1
    omega
  · exact h
  · obtain ⟨k, rfl⟩ : ∃ k, m = k + 1 := ⟨m - 1, by omega⟩
    have a := h1.2 k rfl
    have b := fb_le (show l ≤ k by omega)
    have := h2.1
    omega
theorem gr_pad {n : Int} {m : Nat} (h : n < fb m) : ∀ k, gr (m + k) n = gr m n ++ List.replicate k 0
  | 0 => by simp
  | k + 1 => by
    show (if fb (m + k) ≤ n then gr (m + k) (n - fb (m + k)) ++ [1] else gr (m + k) n ++ [0]) = _
    have := fb_le (show m ≤ m + k by omega)
    rw [if_neg (by omega), gr_pad h k, List.append_assoc, ← List.replicate_succ']
/-- the top digit is a one -/
theorem gr_top {n : Int} {k : Nat} (h : Cnt n (k + 1)) : ∃ ds, gr (k + 1) n = ds ++ [1] := ⟨_, if_pos (h.2 k rfl)⟩
/-- of valid digits with a one at the top: the number of places -/
theorem cnt_of {b : Bool} {ds : List Int} (h : Okd b ds) (ht : ∀ es, ds ≠ es ++ [0]) : Cnt (va 0 ds) ds.length := by
  refine ⟨h.bound.2.1, fun k hk => ?_⟩
  cases h with
  | nil => simp at hk
  | zero h => exact absurd rfl (ht _)
  | @one ds h =>
    have : k = ds.length := by simp at hk; omega
    subst this
    rw [va_snoc]
    have := h.bound.1
    omega
theorem Okd.mem : ∀ {b : Bool} {ds : List Int}, Okd b ds → ∀ d ∈ ds, d = 0 ∨ d = 1 := by
  intro b ds h
  induction h with
  | nil => intro d hd; simp at hd
  | zero h ih =>
    intro d hd
    rcases List.mem_append.mp hd with h1 | h1
    · exact ih d h1
    · left; simpa using h1
  | one h ih =>
    intro d hd
    rcases List.mem_append.mp hd with h1 | h1
    · exact ih d h1
    · right; simpa using h1
/-- no two ones side by side, from the bottom -/
theorem Okd.adj : ∀ {b : Bool} {ds : List Int}, Okd b ds → (∀ (i : Nat) (x y : Int), ds[i]? = some x → ds[i + 1]? = some y → ¬ (x = 1 ∧ y = 1)) ∧ (b = true → ∀ es x, ds = es ++ [x] → x = 0) := by
  intro b ds h
  induction h with
  | nil => exact ⟨fun i x y h => by simp at h, fun _ es x e => by simp at e⟩
  | @zero b ds h ih =>
    refine ⟨fun i x y hx hy => ?_, fun _ es x e => ?_⟩
    · by_cases hi : i + 1 < ds.length
      · rw [List.getElem?_append_left (by omega)] at hx
        rw [List.getElem?_append_left hi] at hy
        exact ih.1 i x y hx hy
      · have hl := (List.getElem?_eq_some_iff.mp hy).1
        rw [List.length_append, List.length_singleton] at hl
        have : i + 1 = ds.length := by omega
        rw [this, List.getElem?_append_right (Nat.le_refl _), Nat.sub_self] at hy
        simp at hy
        omega
    · have := List.append_inj_right' e rfl
      simp at this
      omega
  | @one ds h ih =>
    refine ⟨fun i x y hx hy => ?_, fun h => by cases h⟩
    by_cases hi : i + 1 < ds.length
    · rw [List.getElem?_append_left (by omega)] at hx
      rw [List.getElem?_append_left hi] at hy
      exact ih.1 i x y hx hy
    · have hl := (List.getElem?_eq_some_iff.mp hy).1
      rw [List.length_append, List.length_singleton] at hl
      have hi2 : i + 1 = ds.length := by omega
      rw [List.getElem?_append_left (by omega)] at hx
      have e : ds = ds.dropLast ++ [x] := by
        have hne : ds ≠ [] := fun z => by rw [z] at hi2; simp at hi2
        have e1 := List.dropLast_concat_getLast hne
        have e2 : ds.getLast hne = x := by
          rw [List.getLast_eq_getElem]
          have := (List.getElem?_eq_some_iff.mp hx).2
          have e3 : ds.length - 1 = i := by omega
          simp only [e3]
          exact this
        rw [e2] at e1
        exact e1.symm
      have := ih.2 rfl _ _ e
      omega
/-- a digit list is a tuple's content -/
theorem lex_le : ∀ {b c : Bool} {xs ys : List Int}, Okd b xs → Okd c ys → xs.length = ys.length → (∀ (i : Nat) (x y : Int), xs[i]? = some x → ys[i]? = some y → (∀ j x' y', i < j → xs[j]? = some x' → ys[j]? = some y' → x' = y') → x ≠ y → x ≤ y) → va 0 xs ≤ va 0 ys := by
  intro b c xs ys hx
  induction hx generalizing c ys with
  | nil => intro hy hl _; exact hy.bound.1
  | @zero b xs hx ih =>
    intro hy hl hh
    cases hy with
    | nil => simp at hl
    | @zero _ ys hy =>
      rw [va_snoc, va_snoc]
      have hl : xs.length = ys.length := by simpa using hl
      have := ih hy hl fun i x y e1 e2 e3 => hh i x y (by rw [List.getElem?_append_left (List.getElem?_eq_some_iff.mp e1).1]; exact e1) (by rw [List.getElem?_append_left (List.getElem?_eq_some_iff.mp e2).1]; exact e2) fun j x' y' hj e4 e5 => by
        by_cases hjl : j < xs.length
        · rw [List.getElem?_append_left hjl] at e4
          rw [List.getElem?_append_left (by omega)] at e5
          exact e3 j x' y' hj e4 e5
        · have h1 := (List.getElem?_eq_some_iff.mp e4).1
          rw [List.length_append, List.length_singleton] at h1
          have : j = xs.length := by omega
          subst this
          rw [List.getElem?_append_right (Nat.le_refl _), Nat.sub_self] at e4
          rw [hl, List.getElem?_append_right (Nat.le_refl _), Nat.sub_self] at e5
          simp at e4 e5
          omega
      omega
    | @one ys hy =>
      rw [va_snoc, va_snoc]
      have hl : xs.length = ys.length := by simpa using hl
      have := hx.bound.2.1
      have := hy.bound.1
      rw [hl] at *
      omega
  | @one xs hx ih =>
    intro hy hl hh
    cases hy with
    | nil => simp at hl
    | @zero _ ys hy =>
      have hl : xs.length = ys.length := by simpa using hl
      have := hh xs.length 1 0 (by rw [List.getElem?_append_right (Nat.le_refl _), Nat.sub_self] <;> rfl) (by rw [hl, List.getElem?_append_right (Nat.le_refl _), Nat.sub_self] <;> rfl) (fun j x' y' hj e4 _ => by
        have h1 := (List.getElem?_eq_some_iff.mp e4).1
        rw [List.length_append, List.length_singleton] at h1
        omega) (by decide)
      omega
    | @one ys hy =>
      rw [va_snoc, va_snoc]
      have hl : xs.length = ys.length := by simpa using hl
      have := ih hy hl fun i x y e1 e2 e3 => hh i x y (by rw [List.getElem?_append_left (List.getElem?_eq_some_iff.mp e1).1]; exact e1) (by rw [List.getElem?_append_left (List.getElem?_eq_some_iff.mp e2).1]; exact e2) fun j x' y' hj e4 e5 => by
        by_cases hjl : j < xs.length
        · rw [List.getElem?_append_left hjl] at e4
          rw [List.getElem?_append_left (by omega)] at e5
          exact e3 j x' y' hj e4 e5
        · have h1 := (List.getElem?_eq_some_iff.mp e4).1
          rw [List.length_append, List.length_singleton] at h1
          have : j = xs.length := by omega
          subst this
          rw [List.getElem?_append_right (Nat.le_refl _), Nat.sub_self] at e4
          rw [hl, List.getElem?_append_right (Nat.le_refl _), Nat.sub_self] at e5
          simp at e4 e5
          omega
      rw [hl]
      omega
end K78

set_option Elab.async false
set_option linter.all false
set_option maxRecDepth 100000
set_option maxHeartbeats 0
/-! K78b: what the program's defs give. -/
namespace K78
open PySem PySem.Spec PyProof.Rows L2 NdefX Ev
abbrev I (ds : List Int) : List D := ds.map D.int
theorem isint_ok {d : D} {t : Ty} {h : VH} {Q : PQ} {E : PX} (ht : tyD d h = some t) (hQ : Q (.bl (t.isa .int && !t.isa .bl)) h) : sp_is_integer [d] h Q E := by
  refine fnSp_of rfl ?_
  show b_is_integer [some d] h (fnD Q E)
  unfold b_is_integer
  simp only [sRet, fAnd, fIsi, fVar, fNot, fnD, exE, List.getElem?_cons_zero, ht, List.any_cons, List.any_nil, Bool.or_false]
  cases e : t.isa .int with
  | true =>
    rw [e] at hQ
    simp only [Bool.true_and] at hQ
    exact hQ
  | false =>
    rw [e] at hQ
    exact hQ
theorem isint_i {i : Int} {h : VH} {Q : PQ} {E : PX} (hQ : Q (.bl true) h) : sp_is_integer [.int i] h Q E := isint_ok (t := .int) rfl hQ
theorem check_ok {n : Int} {h : VH} {Q : PQ} {E : PX} (h0 : 0 ≤ n) (hQ : Q .non h) : sp_check_from [.int n, .int 0] h Q E := by
  refine fnSp_of rfl ?_
  show b_check_from [some (.int n), some (.int 0)] h (fnD Q E)
  unfold b_check_from
  have hi : ∀ {Q : PQ} {E : PX}, Q (.bl true) h → sp_is_integer [.int n] h Q E := isint_i
  generalize sp_is_integer = sp at hi
  have hd : decide (n < 0) = false := decide_eq_false (by omega)
  simp only [sAsg, sPar, sIf, sRet, sRetN, sExp, sSet, sAug, sAugS, sBrk, sCnt, sRaise, sNil, exE, fVar, fLit, fNeg, fIsN, fBin, fChain, fAnd, fOr, fNot, fIte, fNil, fCons, fTup, fLst, fFN, fMt, fIsi, fCall, fSl1, fRev, fNewL, fFC, fXv, fIt, fSeq, fin_v, fin_n, finE_v, finE_n, gAdd_i, gAdd_s, gSub_i, gEq_i, gEq_b, gNe_i, gNe_b, gLt_i, gLe_i, gGt_i, gGe_i, gInt_i, gInt_b, gInp_a, gInp_s, gLen_t, gTuple_t, gList_t, chk_t, asgT, asgL, tyD, Ev.isNon, gRange1_i, Ty.isa, List.getElem?_cons_zero, List.getElem?_cons_succ, List.set_cons_zero, List.set_cons_succ, List.map_cons, List.map_nil, List.cons_append, List.nil_append, List.any_cons, List.any_nil, Option.map_some, Option.map_none, Bool.or_false, Bool.false_or, Bool.or_true, Bool.true_or, Bool.and_true, Bool.true_and, Bool.and_false, Bool.false_and, Bool.not_true, Bool.not_false]
  refine hi ?_
  simp only [sAsg, sPar, sIf, sRet, sRetN, sExp, sSet, sAug, sAugS, sBrk, sCnt, sRaise, sNil, exE, fVar, fLit, fNeg, fIsN, fBin, fChain, fAnd, fOr, fNot, fIte, fNil, fCons, fTup, fLst, fFN, fMt, fIsi, fCall, fSl1, fRev, fNewL, fFC, fXv, fIt, fSeq, fin_v, fin_n, finE_v, finE_n, gAdd_i, gAdd_s, gSub_i, gEq_i, gEq_b, gNe_i, gNe_b, gLt_i, gLe_i, gGt_i, gGe_i, gInt_i, gInt_b, gInp_a, gInp_s, gLen_t, gTuple_t, gList_t, chk_t, asgT, asgL, tyD, Ev.isNon, gRange1_i, Ty.isa, List.getElem?_cons_zero, List.getElem?_cons_succ, List.set_cons_zero, List.set_cons_succ, List.map_cons, List.map_nil, List.cons_append, List.nil_append, List.any_cons, List.any_nil, Option.map_some, Option.map_none, Bool.or_false, Bool.false_or, Bool.or_true, Bool.true_or, Bool.and_true, Bool.true_and, Bool.and_false, Bool.false_and, Bool.not_true, Bool.not_false, hd]
  exact hQ
theorem check_no {d : D} {h : VH} {Q : PQ} {E : PX} {t : Ty} (ht : tyD d h = some t) (hd : (∃ n : Int, d = .int n ∧ n < 0) ∨ (t.isa .int && !t.isa .bl) = false) (hE : E "InvalidInteger" d h) : sp_check_from [d, .int 0] h Q E := by
  refine fnSp_of rfl ?_
  show b_check_from [some d, some (.int 0)] h (fnD Q E)
  unfold b_check_from
  have hi : ∀ {Q : PQ} {E : PX}, Q (.bl (t.isa .int && !t.isa .bl)) h → sp_is_integer [d] h Q E := isint_ok ht
  generalize sp_is_integer = sp at hi
  rcases hd with ⟨n, rfl, hn⟩ | hd
  · have : t = .int := by
      have ht : some Ty.int = some t := ht
      cases ht; rfl
    subst this
    have hd : decide (n < 0) = true := decide_eq_true hn
    simp only [sAsg, sPar, sIf, sRet, sRetN, sExp, sSet, sAug, sAugS, sBrk, sCnt, sRaise, sNil, exE, fVar, fLit, fNeg, fIsN, fBin, fChain, fAnd, fOr, fNot, fIte, fNil, fCons, fTup, fLst, fFN, fMt, fIsi, fCall, fSl1, fRev, fNewL, fFC, fXv, fIt, fSeq, fin_v, fin_n, finE_v, finE_n, gAdd_i, gAdd_s, gSub_i, gEq_i, gEq_b, gNe_i, gNe_b, gLt_i, gLe_i, gGt_i, gGe_i, gInt_i, gInt_b, gInp_a, gInp_s, gLen_t, gTuple_t, gList_t, chk_t, asgT, asgL, tyD, Ev.isNon, gRange1_i, Ty.isa, List.getElem?_cons_zero, List.getElem?_cons_succ, List.set_cons_zero, List.set_cons_succ, List.map_cons, List.map_nil, List.cons_append, List.nil_append, List.any_cons, List.any_nil, Option.map_some, Option.map_none, Bool.or_false, Bool.false_or, Bool.or_true, Bool.true_or, Bool.and_true, Bool.true_and, Bool.and_false, Bool.false_and, Bool.not_true, Bool.not_false]
    refine hi ?_
    simp only [sAsg, sPar, sIf, sRet, sRetN, sExp, sSet, sAug, sAugS, sBrk, sCnt, sRaise, sNil, exE, fVar, fLit, fNeg, fIsN, fBin, fChain, fAnd, fOr, fNot, fIte, fNil, fCons, fTup, fLst, fFN, fMt, fIsi, fCall, fSl1, fRev, fNewL, fFC, fXv, fIt, fSeq, fin_v, fin_n, finE_v, finE_n, gAdd_i, gAdd_s, gSub_i, gEq_i, gEq_b, gNe_i, gNe_b, gLt_i, gLe_i, gGt_i, gGe_i, gInt_i, gInt_b, gInp_a, gInp_s, gLen_t, gTuple_t, gList_t, chk_t, asgT, asgL, tyD, Ev.isNon, gRange1_i, Ty.isa, List.getElem?_cons_zero, List.getElem?_cons_succ, List.set_cons_zero, List.set_cons_succ, List.map_cons, List.map_nil, List.cons_append, List.nil_append, List.any_cons, List.any_nil, Option.map_some, Option.map_none, Bool.or_false, Bool.false_or, Bool.or_true, Bool.true_or, Bool.and_true, Bool.true_and, Bool.and_false, Bool.false_and, Bool.not_true, Bool.not_false, hd]
    exact hE
  · rw [hd] at hi
    simp only [sAsg, sPar, sIf, sRet, sRetN, sExp, sSet, sAug, sAugS, sBrk, sCnt, sRaise, sNil, exE, fVar, fLit, fNeg, fIsN, fBin, fChain, fAnd, fOr, fNot, fIte, fNil, fCons, fTup, fLst, fFN, fMt, fIsi, fCall, fSl1, fRev, fNewL, fFC, fXv, fIt, fSeq, fin_v, fin_n, finE_v, finE_n, gAdd_i, gAdd_s, gSub_i, gEq_i, gEq_b, gNe_i, gNe_b, gLt_i, gLe_i, gGt_i, gGe_i, gInt_i, gInt_b, gInp_a, gInp_s, gLen_t, gTuple_t, gList_t, chk_t, asgT, asgL, tyD, Ev.isNon, gRange1_i, Ty.isa, List.getElem?_cons_zero, List.getElem?_cons_succ, List.set_cons_zero, List.set_cons_succ, List.map_cons, List.map_nil, List.cons_append, List.nil_append, List.any_cons, List.any_nil, Option.map_some, Option.map_none, Bool.or_false, Bool.false_or, Bool.or_true, Bool.true_or, Bool.and_true, Bool.true_and, Bool.and_false, Bool.false_and, Bool.not_true, Bool.not_false]
    refine hi ?_
    simp only [sAsg, sPar, sIf, sRet, sRetN, sExp, sSet, sAug, sAugS, sBrk, sCnt, sRaise, sNil, exE, fVar, fLit, fNeg, fIsN, fBin, fChain, fAnd, fOr, fNot, fIte, fNil, fCons, fTup, fLst, fFN, fMt, fIsi, fCall, fSl1, fRev, fNewL, fFC, fXv, fIt, fSeq, fin_v, fin_n, finE_v, finE_n, gAdd_i, gAdd_s, gSub_i, gEq_i, gEq_b, gNe_i, gNe_b, gLt_i, gLe_i, gGt_i, gGe_i, gInt_i, gInt_b, gInp_a, gInp_s, gLen_t, gTuple_t, gList_t, chk_t, asgT, asgL, tyD, Ev.isNon, gRange1_i, Ty.isa, List.getElem?_cons_zero, List.getElem?_cons_succ, List.set_cons_zero, List.set_cons_succ, List.map_cons, List.map_nil, List.cons_append, List.nil_append, List.any_cons, List.any_nil, Option.map_some, Option.map_none, Bool.or_false, Bool.false_or, Bool.or_true, Bool.true_or, Bool.and_true, Bool.true_and, Bool.and_false, Bool.false_and, Bool.not_true, Bool.not_false]
    exact hE
def sz (m : Nat) : List Int := (List.range m).map fb
theorem sz_succ (m : Nat) : sz (m + 1) = sz m ++ [fb m] := by unfold sz; rw [List.range_succ, List.map_append] <;> rfl
theorem sz_len (m : Nat) : (sz m).length = m := by unfold sz; simp
theorem set_last {h : VH} {a b : Ob} : (h ++ [a]).set h.length b = h ++ [b] := by simp
theorem lst_last {h : VH} {ds : List D} : lstAt (h ++ [.lst ds]) h.length = some ds := lstAt_new
theorem sizes_ok {n : Int} {m : Nat} {h : VH} {Q : PQ} {E : PX} (hc : Cnt n m) (hm : m ≤ 1000) (hQ : Q (.ref h.length) (h ++ [.lst (I (sz m))])) : sp_golden_sizes [.int n] h Q E := by
  refine fnSp_of rfl ?_
  show b_golden_sizes [some (.int n), none, none] h (fnD Q E)
  have c0 : decide (([] : List D).length ≤ line) = true := by decide
  have c2 : ∀ a b : Int, decide ([Ev.D.int a, Ev.D.int b].length ≤ line) = true := fun a b => decide_eq_true (Nat.le_of_ble_eq_true rfl)
  refine seq_ fun Z hn hr hb hc' hx => ?_
  simp only [sAsg, sPar, sIf, sRet, sRetN, sExp, sSet, sAug, sAugS, sBrk, sCnt, sRaise, sNil, exE, fVar, fLit, fNeg, fIsN, fBin, fChain, fAnd, fOr, fNot, fIte, fNil, fCons, fTup, fLst, fFN, fMt, fIsi, fCall, fSl1, fRev, fNewL, fFC, fXv, fIt, fSeq, fin_v, fin_n, finE_v, finE_n, gAdd_i, gAdd_s, gSub_i, gEq_i, gEq_b, gNe_i, gNe_b, gLt_i, gLe_i, gGt_i, gGe_i, gInt_i, gInt_b, gInp_a, gInp_s, gLen_t, gTuple_t, gList_t, chk_t, asgT, asgL, tyD, Ev.isNon, gRange1_i, Ty.isa, List.getElem?_cons_zero, List.getElem?_cons_succ, List.set_cons_zero, List.set_cons_succ, List.map_cons, List.map_nil, List.cons_append, List.nil_append, List.any_cons, List.any_nil, Option.map_some, Option.map_none, Bool.or_false, Bool.false_or, Bool.or_true, Bool.true_or, Bool.and_true, Bool.true_and, Bool.and_false, Bool.false_and, Bool.not_true, Bool.not_false, c0, c2]
  rw [hn]
  refine seq_ fun Z hn hr hb hc' hx => ?_
  have key : ∀ k i f, i + k = m → k < f → ∀ env0 : Ev.Env, env0 = [some (.int n), some (.ref h.length), some (.tup [.int (fb i), .int (fb (i + 1))])] → whL (fBin gLe (fBin gIx (fVar 2) (fLit (.int 0))) (fVar 0)) (sSeq (sExp (fMt .append (fVar 1) (fCons (fBin gIx (fVar 2) (fLit (.int 0))) fNil))) (sAsg (fTup (fCons (fBin gIx (fVar 2) (fLit (.int 1))) (fCons (fBin gAdd (fBin gIx (fVar 2) (fLit (.int 0))) (fBin gIx (fVar 2) (fLit (.int 1)))) fNil))) (.nm 2))) f env0 (h ++ [.lst (I (sz i))]) Z := by
    intro k
    induction k with
    | zero =>
      intro i f hi hf env0 he
      subst he
      obtain ⟨f, rfl⟩ : ∃ g, f = g + 1 := ⟨f - 1, by omega⟩
      have hd : decide (fb i ≤ n) = false := decide_eq_false (by have := hc.1; rw [← hi] at this; simpa using this)
      have a0 : gIx (.tup [.int (fb i), .int (fb (i + 1))]) (.int 0) (h ++ [.lst (I (sz i))]) = some (.val (.int (fb i))) := gIx_t atI_0
      simp only [whL, sAsg, sPar, sIf, sRet, sRetN, sExp, sSet, sAug, sAugS, sBrk, sCnt, sRaise, sNil, exE, fVar, fLit, fNeg, fIsN, fBin, fChain, fAnd, fOr, fNot, fIte, fNil, fCons, fTup, fLst, fFN, fMt, fIsi, fCall, fSl1, fRev, fNewL, fFC, fXv, fIt, fSeq, fin_v, fin_n, finE_v, finE_n, gAdd_i, gAdd_s, gSub_i, gEq_i, gEq_b, gNe_i, gNe_b, gLt_i, gLe_i, gGt_i, gGe_i, gInt_i, gInt_b, gInp_a, gInp_s, gLen_t, gTuple_t, gList_t, chk_t, asgT, asgL, tyD, Ev.isNon, gRange1_i, Ty.isa, List.getElem?_cons_zero, List.getElem?_cons_succ, List.set_cons_zero, List.set_cons_succ, List.map_cons, List.map_nil, List.cons_append, List.nil_append, List.any_cons, List.any_nil, Option.map_some, Option.map_none, Bool.or_false, Bool.false_or, Bool.or_true, Bool.true_or, Bool.and_true, Bool.true_and, Bool.and_false, Bool.false_and, Bool.not_true, Bool.not_false, a0, hd]
      rw [hn]
      simp only [sAsg, sPar, sIf, sRet, sRetN, sExp, sSet, sAug, sAugS, sBrk, sCnt, sRaise, sNil, exE, fVar, fLit, fNeg, fIsN, fBin, fChain, fAnd, fOr, fNot, fIte, fNil, fCons, fTup, fLst, fFN, fMt, fIsi, fCall, fSl1, fRev, fNewL, fFC, fXv, fIt, fSeq, fin_v, fin_n, finE_v, finE_n, gAdd_i, gAdd_s, gSub_i, gEq_i, gEq_b, gNe_i, gNe_b, gLt_i, gLe_i, gGt_i, gGe_i, gInt_i, gInt_b, gInp_a, gInp_s, gLen_t, gTuple_t, gList_t, chk_t, asgT, asgL, tyD, Ev.isNon, gRange1_i, Ty.isa, List.getElem?_cons_zero, List.getElem?_cons_succ, List.set_cons_zero, List.set_cons_succ, List.map_cons, List.map_nil, List.cons_append, List.nil_append, List.any_cons, List.any_nil, Option.map_some, Option.map_none, Bool.or_false, Bool.false_or, Bool.or_true, Bool.true_or, Bool.and_true, Bool.true_and, Bool.and_false, Bool.false_and, Bool.not_true, Bool.not_false]
      have : i = m := by omega
      subst this
      exact hQ
    | succ k ih =>
      intro i f hi hf env0 he
      subst he
      obtain ⟨f, rfl⟩ : ∃ g, f = g + 1 := ⟨f - 1, by omega⟩
      have hd : decide (fb i ≤ n) = true := decide_eq_true (by
        have := hc.2 (m - 1) (by omega)
        have := fb_le (show i ≤ m - 1 by omega)
        omega)
      have a0 : ∀ h', gIx (.tup [.int (fb i), .int (fb (i + 1))]) (.int 0) h' = some (.val (.int (fb i))) := fun h' => gIx_t atI_0
      have a1 : ∀ h', gIx (.tup [.int (fb i), .int (fb (i + 1))]) (.int 1) h' = some (.val (.int (fb (i + 1)))) := fun h' => gIx_t atI_1
      simp only [whL, sAsg, sPar, sIf, sRet, sRetN, sExp, sSet, sAug, sAugS, sBrk, sCnt, sRaise, sNil, exE, fVar, fLit, fNeg, fIsN, fBin, fChain, fAnd, fOr, fNot, fIte, fNil, fCons, fTup, fLst, fFN, fMt, fIsi, fCall, fSl1, fRev, fNewL, fFC, fXv, fIt, fSeq, fin_v, fin_n, finE_v, finE_n, gAdd_i, gAdd_s, gSub_i, gEq_i, gEq_b, gNe_i, gNe_b, gLt_i, gLe_i, gGt_i, gGe_i, gInt_i, gInt_b, gInp_a, gInp_s, gLen_t, gTuple_t, gList_t, chk_t, asgT, asgL, tyD, Ev.isNon, gRange1_i, Ty.isa, List.getElem?_cons_zero, List.getElem?_cons_succ, List.set_cons_zero, List.set_cons_succ, List.map_cons, List.map_nil, List.cons_append, List.nil_append, List.any_cons, List.any_nil, Option.map_some, Option.map_none, Bool.or_false, Bool.false_or, Bool.or_true, Bool.true_or, Bool.and_true, Bool.true_and, Bool.and_false, Bool.false_and, Bool.not_true, Bool.not_false, a0, hd]
      refine seq_ fun Z2 hn2 hr2 hb2 hc2 hx2 => ?_
      have ap := gAppend_l (d := .int (fb i)) (lst_last (h := h) (ds := I (sz i))) (by rw [List.length_map, sz_len]; show i < 16777216; omega)
      simp only [sAsg, sPar, sIf, sRet, sRetN, sExp, sSet, sAug, sAugS, sBrk, sCnt, sRaise, sNil, exE, fVar, fLit, fNeg, fIsN, fBin, fChain, fAnd, fOr, fNot, fIte, fNil, fCons, fTup, fLst, fFN, fMt, fIsi, fCall, fSl1, fRev, fNewL, fFC, fXv, fIt, fSeq, fin_v, fin_n, finE_v, finE_n, gAdd_i, gAdd_s, gSub_i, gEq_i, gEq_b, gNe_i, gNe_b, gLt_i, gLe_i, gGt_i, gGe_i, gInt_i, gInt_b, gInp_a, gInp_s, gLen_t, gTuple_t, gList_t, chk_t, asgT, asgL, tyD, Ev.isNon, gRange1_i, Ty.isa, List.getElem?_cons_zero, List.getElem?_cons_succ, List.set_cons_zero, List.set_cons_succ, List.map_cons, List.map_nil, List.cons_append, List.nil_append, List.any_cons, List.any_nil, Option.map_some, Option.map_none, Bool.or_false, Bool.false_or, Bool.or_true, Bool.true_or, Bool.and_true, Bool.true_and, Bool.and_false, Bool.false_and, Bool.not_true, Bool.not_false, a0, Mt.g, Mt.ty, decide_true, ap, finE_w, set_last]
      rw [hn2]
      simp only [sAsg, sPar, sIf, sRet, sRetN, sExp, sSet, sAug, sAugS, sBrk, sCnt, sRaise, sNil, exE, fVar, fLit, fNeg, fIsN, fBin, fChain, fAnd, fOr, fNot, fIte, fNil, fCons, fTup, fLst, fFN, fMt, fIsi, fCall, fSl1, fRev, fNewL, fFC, fXv, fIt, fSeq, fin_v, fin_n, finE_v, finE_n, gAdd_i, gAdd_s, gSub_i, gEq_i, gEq_b, gNe_i, gNe_b, gLt_i, gLe_i, gGt_i, gGe_i, gInt_i, gInt_b, gInp_a, gInp_s, gLen_t, gTuple_t, gList_t, chk_t, asgT, asgL, tyD, Ev.isNon, gRange1_i, Ty.isa, List.getElem?_cons_zero, List.getElem?_cons_succ, List.set_cons_zero, List.set_cons_succ, List.map_cons, List.map_nil, List.cons_append, List.nil_append, List.any_cons, List.any_nil, Option.map_some, Option.map_none, Bool.or_false, Bool.false_or, Bool.or_true, Bool.true_or, Bool.and_true, Bool.true_and, Bool.and_false, Bool.false_and, Bool.not_true, Bool.not_false, a0, a1, c2]
      have z := ih (i + 1) f (by omega) (by omega) [some (.int n), some (.ref h.length), some (.tup [.int (fb (i + 1)), .int (fb (i + 1 + 1))])] rfl
      rw [sz_succ] at z
      have e : I (sz i ++ [fb i]) = I (sz i) ++ [D.int (fb i)] := by simp
      rw [e] at z
      exact z
  exact key m 0 fuel (by omega) (by rw [fuel_eq]; omega) _ rfl
/-- the loop over a list object that stands still, its items x -/
theorem foL_ref {k : Nat} {t : Tg} {b : FS} {Z : ED} (P : Nat → Ev.Env → VH → Prop) {xs : List Ev.D} (hk : ∀ i env h, P i env h → lstAt h k = some xs)
    (turn : ∀ i x env h, P i env h → xs[i]? = some x → ∃ env2, asgT t x h env = some env2 ∧ ∀ Z' : ED, (∀ e h', P (i + 1) e h' → Z'.nx e h') → (∀ e h', P (i + 1) e h' → Z'.ct e h') → Z'.rt = Z.rt → Z'.bk = Z.nx → Z'.ex = Z.ex → b env2 h Z')
    (fin : ∀ env h, P xs.length env h → Z.nx env h) : ∀ (f i : Nat) (env : Ev.Env) (h : VH), P i env h → i ≤ xs.length → xs.length < f + i → foL (itLst k) t b f i env h Z := by
  intro f
  induction f with
  | zero => intro i env h _ h1 h2; omega
  | succ f ih =>
    intro i env h p h1 h2
    have e := hk i env h p
    unfold foL itLst
    simp only [e, Option.map_some]
    cases ex : xs[i]? with
    | none =>
      have : xs.length ≤ i := List.getElem?_eq_none_iff.mp ex
      have : i = xs.length := by omega
      subst this
      exact fin env h p
    | some x =>
      obtain ⟨env2, ea, hb⟩ := turn i x env h p ex
      have hi : i < xs.length := (List.getElem?_eq_some_iff.mp ex).1
      simp only [ea]
      exact hb _ (fun e h' p' => ih (i + 1) e h' p' (by omega) (by omega)) (fun e h' p' => ih (i + 1) e h' p' (by omega) (by omega)) rfl rfl rfl
theorem foL_tup {t : Tg} {b : FS} {Z : ED} (P : Nat → Ev.Env → VH → Prop) {xs : List Ev.D}
    (turn : ∀ i x env h, P i env h → xs[i]? = some x → ∃ env2, asgT t x h env = some env2 ∧ ∀ Z' : ED, (∀ e h', P (i + 1) e h' → Z'.nx e h') → (∀ e h', P (i + 1) e h' → Z'.ct e h') → Z'.rt = Z.rt → Z'.bk = Z.nx → Z'.ex = Z.ex → b env2 h Z')
    (fin : ∀ env h, P xs.length env h → Z.nx env h) : ∀ (f i : Nat) (env : Ev.Env) (h : VH), P i env h → i ≤ xs.length → xs.length < f + i → foL (itTup xs) t b f i env h Z := by
  intro f
  induction f with
  | zero => intro i env h _ h1 h2; omega
  | succ f ih =>
    intro i env h p h1 h2
    unfold foL itTup
    cases ex : xs[i]? with
    | none =>
      have : xs.length ≤ i := List.getElem?_eq_none_iff.mp ex
      have : i = xs.length := by omega
      subst this
      exact fin env h p
    | some x =>
      obtain ⟨env2, ea, hb⟩ := turn i x env h p ex
      have hi : i < xs.length := (List.getElem?_eq_some_iff.mp ex).1
      simp only [ea]
      exact hb _ (fun e h' p' => ih (i + 1) e h' p' (by omega) (by omega)) (fun e h' p' => ih (i + 1) e h' p' (by omega) (by omega)) rfl rfl rfl
theorem foL_rng {lo : Int} {n : Nat} {t : Tg} {b : FS} {Z : ED} (P : Nat → Ev.Env → VH → Prop)
    (turn : ∀ i env h, P i env h → i < n → ∃ env2, asgT t (.int (lo + (i : Nat) * 1)) h env = some env2 ∧ ∀ Z' : ED, (∀ e h', P (i + 1) e h' → Z'.nx e h') → (∀ e h', P (i + 1) e h' → Z'.ct e h') → Z'.rt = Z.rt → Z'.bk = Z.nx → Z'.ex = Z.ex → b env2 h Z')
    (fin : ∀ env h, P n env h → Z.nx env h) : ∀ (f i : Nat) (env : Ev.Env) (h : VH), P i env h → i ≤ n → n < f + i → foL (itRng lo n 1) t b f i env h Z := by
  intro f
  induction f with
  | zero => intro i env h _ h1 h2; omega
  | succ f ih =>
    intro i env h p h1 h2
    unfold foL itRng
    by_cases hi : i < n
    · obtain ⟨env2, ea, hb⟩ := turn i env h p hi
      simp only [if_pos hi, ea]
      exact hb _ (fun e h' p' => ih (i + 1) e h' p' (by omega) (by omega)) (fun e h' p' => ih (i + 1) e h' p' (by omega) (by omega)) rfl rfl rfl
    · have : i = n := by omega
      subst this
      simp only [if_neg hi]
      exact fin env h p
/-- what is left of n below place m -/
def rest : Nat → Int → Nat → Int
  | _, n, 0 => n
  | m, n, i + 1 => if fb (m - 1 - i) ≤ rest m n i then rest m n i - fb (m - 1 - i) else rest m n i
theorem gr_rest (n : Int) : ∀ (m i : Nat), i ≤ m → gr m n = gr (m - i) (rest m n i) ++ (gr m n).drop (m - i) := by
  intro m i
  induction i with
  | zero => intro _; simp [rest, gr_len]
  | succ i ih =>
    intro hi
    have e := ih (by omega)
    obtain ⟨k, hk⟩ : ∃ k, m - i = k + 1 := ⟨m - i - 1, by omega⟩
    have hk2 : m - (i + 1) = k := by omega
    have hk3 : m - 1 - i = k := by omega
    have hl : (gr m n).length = m := gr_len m n
    rw [hk2]
    have t : gr m n = (gr m n).take k ++ (gr m n).drop k := (List.take_append_drop k _).symm
    have e2 : (gr m n).take k = gr k (rest m n (i + 1)) := by
      have : (gr m n).take k = (gr (k + 1) (rest m n i)).take k := by
        rw [e, hk, List.take_append_of_le_length (by rw [gr_len]; omega)]
      rw [this]
      show ((if fb k ≤ rest m n i then gr k (rest m n i - fb k) ++ [1] else gr k (rest m n i) ++ [0]) : List Int).take k = gr k (if fb (m - 1 - i) ≤ rest m n i then rest m n i - fb (m - 1 - i) else rest m n i)
      rw [hk3]
      split
      · rw [List.take_append_of_le_length (by rw [gr_len]; omega), List.take_of_length_le (by rw [gr_len]; omega)]
      · rw [List.take_append_of_le_length (by rw [gr_len]; omega), List.take_of_length_le (by rw [gr_len]; omega)]
    rw [← e2]
    exact t
theorem gr_digit (n : Int) {m i : Nat} (hi : i < m) : (gr m n).drop (m - (i + 1)) = (if fb (m - 1 - i) ≤ rest m n i then 1 else 0) :: (gr m n).drop (m - i) := by
  obtain ⟨k, hk⟩ : ∃ k, m - i = k + 1 := ⟨m - i - 1, by omega⟩
  have hk2 : m - (i + 1) = k := by omega
  have hk3 : m - 1 - i = k := by omega
  rw [hk2, hk3]
  have e := gr_rest n m i (by omega)
  rw [hk] at e ⊢
  have : (gr m n).drop k = (gr (k + 1) (rest m n i) ++ (gr m n).drop (k + 1)).drop k := congrArg (List.drop k) e
  rw [this, List.drop_append_of_le_length (by rw [gr_len]; omega)]
  show ((if fb k ≤ rest m n i then gr k (rest m n i - fb k) ++ [1] else gr k (rest m n i) ++ [0]) : List Int).drop k ++ _ = _
  split
  · rw [List.drop_append_of_le_length (by rw [gr_len]; omega), List.drop_of_length_le (by rw [gr_len]; omega)] <;> rfl
  · rw [List.drop_append_of_le_length (by rw [gr_len]; omega), List.drop_of_length_le (by rw [gr_len]; omega)] <;> rfl
theorem sz_rev {m i : Nat} {x : Ev.D} (h : (I (sz m)).reverse[i]? = some x) : i < m ∧ x = .int (fb (m - 1 - i)) := by
  have hi := (List.getElem?_eq_some_iff.mp h).1
  rw [List.length_reverse, List.length_map, sz_len] at hi
  rw [List.getElem?_reverse (by rw [List.length_map, sz_len]; exact hi), List.length_map, sz_len, List.getElem?_map] at h
  unfold sz at h
  rw [List.getElem?_map, List.getElem?_range (by omega)] at h
  cases h
  exact ⟨hi, rfl⟩
theorem digits_ok {n : Int} {m : Nat} {h : VH} {Q : PQ} {E : PX} (hc : Cnt n m) (hm : m ≤ 1000) (hQ : ∀ g, Q (.tup (I (gr m n))) (h ++ g)) : sp_golden_digits_of [.int n] h Q E := by
  refine fnSp_of rfl ?_
  show b_golden_digits_of [some (.int n), none, none] h (fnD Q E)
  have hs : ∀ {h : VH} {Q : PQ} {E : PX}, Q (.ref h.length) (h ++ [.lst (I (sz m))]) → sp_golden_sizes [.int n] h Q E := sizes_ok hc hm
  unfold b_golden_digits_of
  generalize sp_golden_sizes = sp at hs
  have c0 : decide (([] : List Ev.D).length ≤ line) = true := by decide
  refine seq_ fun Z hn hr hb hc' hx => ?_
  simp only [sAsg, sPar, sIf, sRet, sRetN, sExp, sSet, sAug, sAugS, sBrk, sCnt, sRaise, sNil, exE, fVar, fLit, fNeg, fIsN, fBin, fChain, fAnd, fOr, fNot, fIte, fNil, fCons, fTup, fLst, fFN, fMt, fIsi, fCall, fSl1, fRev, fNewL, fFC, fXv, fIt, fSeq, fin_v, fin_n, finE_v, finE_n, gAdd_i, gAdd_s, gSub_i, gEq_i, gEq_b, gNe_i, gNe_b, gLt_i, gLe_i, gGt_i, gGe_i, gInt_i, gInt_b, gInp_a, gInp_s, gLen_t, gTuple_t, gList_t, chk_t, asgT, asgL, tyD, Ev.isNon, gRange1_i, Ty.isa, List.getElem?_cons_zero, List.getElem?_cons_succ, List.set_cons_zero, List.set_cons_succ, List.map_cons, List.map_nil, List.cons_append, List.nil_append, List.any_cons, List.any_nil, Option.map_some, Option.map_none, Bool.or_false, Bool.false_or, Bool.or_true, Bool.true_or, Bool.and_true, Bool.true_and, Bool.and_false, Bool.false_and, Bool.not_true, Bool.not_false, c0]
  rw [hn]
  refine seq_ fun Z hn hr hb hc' hx => ?_
  simp only [sAsg, sPar, sIf, sRet, sRetN, sExp, sSet, sAug, sAugS, sBrk, sCnt, sRaise, sNil, exE, fVar, fLit, fNeg, fIsN, fBin, fChain, fAnd, fOr, fNot, fIte, fNil, fCons, fTup, fLst, fFN, fMt, fIsi, fCall, fSl1, fRev, fNewL, fFC, fXv, fIt, fSeq, fin_v, fin_n, finE_v, finE_n, gAdd_i, gAdd_s, gSub_i, gEq_i, gEq_b, gNe_i, gNe_b, gLt_i, gLe_i, gGt_i, gGe_i, gInt_i, gInt_b, gInp_a, gInp_s, gLen_t, gTuple_t, gList_t, chk_t, asgT, asgL, tyD, Ev.isNon, gRange1_i, Ty.isa, List.getElem?_cons_zero, List.getElem?_cons_succ, List.set_cons_zero, List.set_cons_succ, List.map_cons, List.map_nil, List.cons_append, List.nil_append, List.any_cons, List.any_nil, Option.map_some, Option.map_none, Bool.or_false, Bool.false_or, Bool.or_true, Bool.true_or, Bool.and_true, Bool.true_and, Bool.and_false, Bool.false_and, Bool.not_true, Bool.not_false, sFor]
  refine hs ?_
  have e1 : lstAt (h ++ [Ob.lst []] ++ [Ob.lst (I (sz m))]) (h ++ [Ob.lst []]).length = some (I (sz m)) := lst_last
  simp only [sAsg, sPar, sIf, sRet, sRetN, sExp, sSet, sAug, sAugS, sBrk, sCnt, sRaise, sNil, exE, fVar, fLit, fNeg, fIsN, fBin, fChain, fAnd, fOr, fNot, fIte, fNil, fCons, fTup, fLst, fFN, fMt, fIsi, fCall, fSl1, fRev, fNewL, fFC, fXv, fIt, fSeq, fin_v, fin_n, finE_v, finE_n, gAdd_i, gAdd_s, gSub_i, gEq_i, gEq_b, gNe_i, gNe_b, gLt_i, gLe_i, gGt_i, gGe_i, gInt_i, gInt_b, gInp_a, gInp_s, gLen_t, gTuple_t, gList_t, chk_t, asgT, asgL, tyD, Ev.isNon, gRange1_i, Ty.isa, List.getElem?_cons_zero, List.getElem?_cons_succ, List.set_cons_zero, List.set_cons_succ, List.map_cons, List.map_nil, List.cons_append, List.nil_append, List.any_cons, List.any_nil, Option.map_some, Option.map_none, Bool.or_false, Bool.false_or, Bool.or_true, Bool.true_or, Bool.and_true, Bool.true_and, Bool.and_false, Bool.false_and, Bool.not_true, Bool.not_false, e1]
  have e2 : lstAt (h ++ [Ob.lst []] ++ [Ob.lst (I (sz m))] ++ [Ob.lst (I (sz m)).reverse]) (h ++ [Ob.lst []] ++ [Ob.lst (I (sz m))]).length = some (I (sz m)).reverse := lst_last
  simp only [sAsg, sPar, sIf, sRet, sRetN, sExp, sSet, sAug, sAugS, sBrk, sCnt, sRaise, sNil, exE, fVar, fLit, fNeg, fIsN, fBin, fChain, fAnd, fOr, fNot, fIte, fNil, fCons, fTup, fLst, fFN, fMt, fIsi, fCall, fSl1, fRev, fNewL, fFC, fXv, fIt, fSeq, fin_v, fin_n, finE_v, finE_n, gAdd_i, gAdd_s, gSub_i, gEq_i, gEq_b, gNe_i, gNe_b, gLt_i, gLe_i, gGt_i, gGe_i, gInt_i, gInt_b, gInp_a, gInp_s, gLen_t, gTuple_t, gList_t, chk_t, asgT, asgL, tyD, Ev.isNon, gRange1_i, Ty.isa, List.getElem?_cons_zero, List.getElem?_cons_succ, List.set_cons_zero, List.set_cons_succ, List.map_cons, List.map_nil, List.cons_append, List.nil_append, List.any_cons, List.any_nil, Option.map_some, Option.map_none, Bool.or_false, Bool.false_or, Bool.or_true, Bool.true_or, Bool.and_true, Bool.true_and, Bool.and_false, Bool.false_and, Bool.not_true, Bool.not_false, e2, Option.isSome_some]
  -- the loop
  have hlen : (I (sz m)).reverse.length = m := by rw [List.length_reverse, List.length_map, sz_len]
  refine foL_ref (fun i env h' => ∃ z, env = [some (.int (rest m n i)), some (.ref h.length), z] ∧ h' = h ++ [Ob.lst (I ((gr m n).drop (m - i)).reverse), Ob.lst (I (sz m)), Ob.lst (I (sz m)).reverse]) (xs := (I (sz m)).reverse) (fun i env h' ⟨z, _, e⟩ => ?_) (fun i x env h' ⟨z, e, eh⟩ hx' => ?_) (fun env h' ⟨z, e, eh⟩ => ?_) fuel 0 _ _ ⟨none, rfl, ?_⟩ (Nat.zero_le _) (by rw [hlen, fuel_eq]; omega)
  · subst e
    unfold lstAt
    rw [List.getElem?_append_right (by simp)]
    simp
  · obtain ⟨hi, rfl⟩ := sz_rev hx'
    subst e
    subst eh
    refine ⟨_, rfl, fun Z' zn _ _ _ _ => ?_⟩
    refine seq_ fun Z2 hn2 hr2 hb2 hc2 hx2 => ?_
    have ea : lstAt (h ++ [Ob.lst (I ((gr m n).drop (m - i)).reverse), Ob.lst (I (sz m)), Ob.lst (I (sz m)).reverse]) h.length = some (I ((gr m n).drop (m - i)).reverse) := lstAt_new
    have ap : ∀ d, gAppend (.ref h.length) [d] (h ++ [Ob.lst (I ((gr m n).drop (m - i)).reverse), Ob.lst (I (sz m)), Ob.lst (I (sz m)).reverse]) = _ := fun d => gAppend_l (d := d) ea (by rw [List.length_map, List.length_reverse, List.length_drop, gr_len]; show _ < 16777216; omega)
    have dg := gr_digit n hi
    simp only [sAsg, sPar, sIf, sRet, sRetN, sExp, sSet, sAug, sAugS, sBrk, sCnt, sRaise, sNil, exE, fVar, fLit, fNeg, fIsN, fBin, fChain, fAnd, fOr, fNot, fIte, fNil, fCons, fTup, fLst, fFN, fMt, fIsi, fCall, fSl1, fRev, fNewL, fFC, fXv, fIt, fSeq, fin_v, fin_n, finE_v, finE_n, gAdd_i, gAdd_s, gSub_i, gEq_i, gEq_b, gNe_i, gNe_b, gLt_i, gLe_i, gGt_i, gGe_i, gInt_i, gInt_b, gInp_a, gInp_s, gLen_t, gTuple_t, gList_t, chk_t, asgT, asgL, tyD, Ev.isNon, gRange1_i, Ty.isa, List.getElem?_cons_zero, List.getElem?_cons_succ, List.set_cons_zero, List.set_cons_succ, List.map_cons, List.map_nil, List.cons_append, List.nil_append, List.any_cons, List.any_nil, Option.map_some, Option.map_none, Bool.or_false, Bool.false_or, Bool.or_true, Bool.true_or, Bool.and_true, Bool.true_and, Bool.and_false, Bool.false_and, Bool.not_true, Bool.not_false, Mt.g, Mt.ty, decide_true, ap, finE_w]
    rw [hn2]
    by_cases hf : fb (m - 1 - i) ≤ rest m n i
    · have hd : decide (fb (m - 1 - i) ≤ rest m n i) = true := decide_eq_true hf
      simp only [sAsg, sPar, sIf, sRet, sRetN, sExp, sSet, sAug, sAugS, sBrk, sCnt, sRaise, sNil, exE, fVar, fLit, fNeg, fIsN, fBin, fChain, fAnd, fOr, fNot, fIte, fNil, fCons, fTup, fLst, fFN, fMt, fIsi, fCall, fSl1, fRev, fNewL, fFC, fXv, fIt, fSeq, fin_v, fin_n, finE_v, finE_n, gAdd_i, gAdd_s, gSub_i, gEq_i, gEq_b, gNe_i, gNe_b, gLt_i, gLe_i, gGt_i, gGe_i, gInt_i, gInt_b, gInp_a, gInp_s, gLen_t, gTuple_t, gList_t, chk_t, asgT, asgL, tyD, Ev.isNon, gRange1_i, Ty.isa, List.getElem?_cons_zero, List.getElem?_cons_succ, List.set_cons_zero, List.set_cons_succ, List.map_cons, List.map_nil, List.cons_append, List.nil_append, List.any_cons, List.any_nil, Option.map_some, Option.map_none, Bool.or_false, Bool.false_or, Bool.or_true, Bool.true_or, Bool.and_true, Bool.true_and, Bool.and_false, Bool.false_and, Bool.not_true, Bool.not_false, hd]
      refine zn _ _ ⟨some (.int (fb (m - 1 - i))), ?_, ?_⟩
      · have : rest m n (i + 1) = rest m n i - fb (m - 1 - i) := if_pos hf
        rw [this]
      · rw [dg, if_pos hf]
        simp
    · have hd : decide (fb (m - 1 - i) ≤ rest m n i) = false := decide_eq_false hf
      simp only [sAsg, sPar, sIf, sRet, sRetN, sExp, sSet, sAug, sAugS, sBrk, sCnt, sRaise, sNil, exE, fVar, fLit, fNeg, fIsN, fBin, fChain, fAnd, fOr, fNot, fIte, fNil, fCons, fTup, fLst, fFN, fMt, fIsi, fCall, fSl1, fRev, fNewL, fFC, fXv, fIt, fSeq, fin_v, fin_n, finE_v, finE_n, gAdd_i, gAdd_s, gSub_i, gEq_i, gEq_b, gNe_i, gNe_b, gLt_i, gLe_i, gGt_i, gGe_i, gInt_i, gInt_b, gInp_a, gInp_s, gLen_t, gTuple_t, gList_t, chk_t, asgT, asgL, tyD, Ev.isNon, gRange1_i, Ty.isa, List.getElem?_cons_zero, List.getElem?_cons_succ, List.set_cons_zero, List.set_cons_succ, List.map_cons, List.map_nil, List.cons_append, List.nil_append, List.any_cons, List.any_nil, Option.map_some, Option.map_none, Bool.or_false, Bool.false_or, Bool.or_true, Bool.true_or, Bool.and_true, Bool.true_and, Bool.and_false, Bool.false_and, Bool.not_true, Bool.not_false, hd]
      refine zn _ _ ⟨some (.int (fb (m - 1 - i))), ?_, ?_⟩
      · have : rest m n (i + 1) = rest m n i := if_neg hf
        rw [this]
      · rw [dg, if_neg hf]
        simp
  · rw [hlen] at eh
    subst e
    subst eh
    rw [hn]
    have e3 : lstAt (h ++ [Ob.lst (I ((gr m n).drop (m - m)).reverse), Ob.lst (I (sz m)), Ob.lst (I (sz m)).reverse]) h.length = some (I ((gr m n).drop (m - m)).reverse) := lstAt_new
    simp only [sAsg, sPar, sIf, sRet, sRetN, sExp, sSet, sAug, sAugS, sBrk, sCnt, sRaise, sNil, exE, fVar, fLit, fNeg, fIsN, fBin, fChain, fAnd, fOr, fNot, fIte, fNil, fCons, fTup, fLst, fFN, fMt, fIsi, fCall, fSl1, fRev, fNewL, fFC, fXv, fIt, fSeq, fin_v, fin_n, finE_v, finE_n, gAdd_i, gAdd_s, gSub_i, gEq_i, gEq_b, gNe_i, gNe_b, gLt_i, gLe_i, gGt_i, gGe_i, gInt_i, gInt_b, gInp_a, gInp_s, gLen_t, gTuple_t, gList_t, chk_t, asgT, asgL, tyD, Ev.isNon, gRange1_i, Ty.isa, List.getElem?_cons_zero, List.getElem?_cons_succ, List.set_cons_zero, List.set_cons_succ, List.map_cons, List.map_nil, List.cons_append, List.nil_append, List.any_cons, List.any_nil, Option.map_some, Option.map_none, Bool.or_false, Bool.false_or, Bool.or_true, Bool.true_or, Bool.and_true, Bool.true_and, Bool.and_false, Bool.false_and, Bool.not_true, Bool.not_false, e3]
    have e4 : lstAt (h ++ [Ob.lst (I ((gr m n).drop (m - m)).reverse), Ob.lst (I (sz m)), Ob.lst (I (sz m)).reverse] ++ [Ob.lst (I ((gr m n).drop (m - m)).reverse).reverse]) (h ++ [Ob.lst (I ((gr m n).drop (m - m)).reverse), Ob.lst (I (sz m)), Ob.lst (I (sz m)).reverse]).length = some (I ((gr m n).drop (m - m)).reverse).reverse := lst_last
    simp only [gTuple_l e4, sAsg, sPar, sIf, sRet, sRetN, sExp, sSet, sAug, sAugS, sBrk, sCnt, sRaise, sNil, exE, fVar, fLit, fNeg, fIsN, fBin, fChain, fAnd, fOr, fNot, fIte, fNil, fCons, fTup, fLst, fFN, fMt, fIsi, fCall, fSl1, fRev, fNewL, fFC, fXv, fIt, fSeq, fin_v, fin_n, finE_v, finE_n, gAdd_i, gAdd_s, gSub_i, gEq_i, gEq_b, gNe_i, gNe_b, gLt_i, gLe_i, gGt_i, gGe_i, gInt_i, gInt_b, gInp_a, gInp_s, gLen_t, gTuple_t, gList_t, chk_t, asgT, asgL, tyD, Ev.isNon, gRange1_i, Ty.isa, List.getElem?_cons_zero, List.getElem?_cons_succ, List.set_cons_zero, List.set_cons_succ, List.map_cons, List.map_nil, List.cons_append, List.nil_append, List.any_cons, List.any_nil, Option.map_some, Option.map_none, Bool.or_false, Bool.false_or, Bool.or_true, Bool.true_or, Bool.and_true, Bool.true_and, Bool.and_false, Bool.false_and, Bool.not_true, Bool.not_false]
    have e5 : (I ((gr m n).drop (m - m)).reverse).reverse = I (gr m n) := by
      rw [Nat.sub_self, List.drop_zero]
      unfold I
      rw [← List.map_reverse, List.reverse_reverse]
    rw [e5, List.append_assoc]
    exact hQ _
  · simp only [Nat.sub_zero]
    rw [List.drop_of_length_le (by rw [gr_len]; omega)]
    simp
/-! ### is_digits, golden_number -/
def digB : D → Bool
  | .int d => decide (d = 0) || decide (d = 1)
  | _ => false
theorem in01 (d : Int) (h : VH) : gIn (.int d) (.tup [.int 0, .int 1]) h = some (.val (.bl (decide (d = 0) || decide (d = 1)))) := by
  show Ev.resB (some (inV (.int d) [.int 0, .int 1])) = _
  have e : inV (.int d) [.int 0, .int 1] = (decide (d = 0) || decide (d = 1)) := by
    simp only [inV, List.any_cons, List.any_nil, Bool.or_false]
    show (decide ((0 : Int) = d) || decide ((1 : Int) = d)) = _
    have c : ∀ a b : Int, decide (a = b) = decide (b = a) := fun a b => decide_eq_decide.mpr eq_comm
    rw [c 0 d, c 1 d]
  rw [e] <;> rfl
def simple : D → Prop
  | .int _ => True
  | .bl _ => True
  | .str _ => True
  | _ => False
theorem anyB {bs : List Bool} : cAny (bs.map D.bl) = some (.val (.bl (bs.any id))) := by unfold cAny; rw [bools_map]; rfl
theorem allB {bs : List Bool} : cAll (bs.map D.bl) = some (.val (.bl (bs.all id))) := by unfold cAll; rw [bools_map]; rfl
theorem zip_it {xs ys : List D} {h : VH} (i : Nat) : itZip (itTup xs) (itTup ys) i h = some ((xs.zip ys).map fun p => D.tup [p.1, p.2])[i]? := by
  unfold itZip itTup
  rw [List.getElem?_map]
  simp only [List.zip, List.getElem?_zipWith]
  cases xs[i]? <;> cases ys[i]? <;> rfl
def adj (ds : List Int) : Bool := (ds.zip (ds.drop 1)).any fun p => decide (p.1 = 1) && decide (p.2 = 1)
theorem isdig_tup {xs : List D} {h : VH} {Q : PQ} {E : PX} (hs : ∀ x ∈ xs, simple x) (hl : xs.length ≤ 100000)
    (h1 : xs.all digB = false → Q (.bl false) h) (h2 : ∀ ds, xs = I ds → (∀ d ∈ ds, d = 0 ∨ d = 1) → Q (.bl (!adj ds)) h) : sp_is_digits [.tup xs] h Q E := by
  refine fnSp_of rfl ?_
  show b_is_digits [some (.tup xs), none, none, none] h (fnD Q E)
  unfold b_is_digits
  have hi : ∀ {d : D} {t : Ty} {h : VH} {Q : PQ} {E : PX}, tyD d h = some t → Q (.bl (t.isa .int && !t.isa .bl)) h → sp_is_integer [d] h Q E := isint_ok
  generalize sp_is_integer = sp at hi
  have c01 : decide ([D.int 0, D.int 1].length ≤ line) = true := by decide
  refine seq_ fun Z hn hr hb hc' hx => ?_
  simp only [sIf, fOr, fNot, fIsi, fVar, fFC, fComp, fSeq, exE, List.getElem?_cons_zero, tyD, List.any_cons, List.any_nil, Bool.or_false]
  refine compL_pure (xs := xs) (ys := (xs.map digB).map D.bl) (fun i => rfl) (fun i x e => ?_) (by simp) (by show xs.length < 16777216; omega) ?_
  · have hx := hs x (List.mem_of_getElem? e)
    refine ⟨_, .bl (digB x), rfl, by rw [List.getElem?_map, List.getElem?_map, e] <;> rfl, fun Q' q => ?_⟩
    cases x with
    | int d =>
      simp only [sAsg, sPar, sIf, sRet, sRetN, sExp, sSet, sAug, sAugS, sBrk, sCnt, sRaise, sNil, exE, fVar, fLit, fNeg, fIsN, fBin, fChain, fAnd, fOr, fNot, fIte, fNil, fCons, fTup, fLst, fFN, fMt, fIsi, fCall, fSl1, fRev, fNewL, fFC, fXv, fIt, fSeq, fin_v, fin_n, finE_v, finE_n, gAdd_i, gAdd_s, gSub_i, gEq_i, gEq_b, gNe_i, gNe_b, gLt_i, gLe_i, gGt_i, gGe_i, gInt_i, gInt_b, gInp_a, gInp_s, gLen_t, gTuple_t, gList_t, chk_t, asgT, asgL, tyD, Ev.isNon, gRange1_i, Ty.isa, List.getElem?_cons_zero, List.getElem?_cons_succ, List.set_cons_zero, List.set_cons_succ, List.map_cons, List.map_nil, List.cons_append, List.nil_append, List.any_cons, List.any_nil, Option.map_some, Option.map_none, Bool.or_false, Bool.false_or, Bool.or_true, Bool.true_or, Bool.and_true, Bool.true_and, Bool.and_false, Bool.false_and, Bool.not_true, Bool.not_false, wipeD]
      refine hi (t := .int) rfl ?_
      simp only [sAsg, sPar, sIf, sRet, sRetN, sExp, sSet, sAug, sAugS, sBrk, sCnt, sRaise, sNil, exE, fVar, fLit, fNeg, fIsN, fBin, fChain, fAnd, fOr, fNot, fIte, fNil, fCons, fTup, fLst, fFN, fMt, fIsi, fCall, fSl1, fRev, fNewL, fFC, fXv, fIt, fSeq, fin_v, fin_n, finE_v, finE_n, gAdd_i, gAdd_s, gSub_i, gEq_i, gEq_b, gNe_i, gNe_b, gLt_i, gLe_i, gGt_i, gGe_i, gInt_i, gInt_b, gInp_a, gInp_s, gLen_t, gTuple_t, gList_t, chk_t, asgT, asgL, tyD, Ev.isNon, gRange1_i, Ty.isa, List.getElem?_cons_zero, List.getElem?_cons_succ, List.set_cons_zero, List.set_cons_succ, List.map_cons, List.map_nil, List.cons_append, List.nil_append, List.any_cons, List.any_nil, Option.map_some, Option.map_none, Bool.or_false, Bool.false_or, Bool.or_true, Bool.true_or, Bool.and_true, Bool.true_and, Bool.and_false, Bool.false_and, Bool.not_true, Bool.not_false, c01, in01]
      exact q
    | bl b =>
      simp only [sAsg, sPar, sIf, sRet, sRetN, sExp, sSet, sAug, sAugS, sBrk, sCnt, sRaise, sNil, exE, fVar, fLit, fNeg, fIsN, fBin, fChain, fAnd, fOr, fNot, fIte, fNil, fCons, fTup, fLst, fFN, fMt, fIsi, fCall, fSl1, fRev, fNewL, fFC, fXv, fIt, fSeq, fin_v, fin_n, finE_v, finE_n, gAdd_i, gAdd_s, gSub_i, gEq_i, gEq_b, gNe_i, gNe_b, gLt_i, gLe_i, gGt_i, gGe_i, gInt_i, gInt_b, gInp_a, gInp_s, gLen_t, gTuple_t, gList_t, chk_t, asgT, asgL, tyD, Ev.isNon, gRange1_i, Ty.isa, List.getElem?_cons_zero, List.getElem?_cons_succ, List.set_cons_zero, List.set_cons_succ, List.map_cons, List.map_nil, List.cons_append, List.nil_append, List.any_cons, List.any_nil, Option.map_some, Option.map_none, Bool.or_false, Bool.false_or, Bool.or_true, Bool.true_or, Bool.and_true, Bool.true_and, Bool.and_false, Bool.false_and, Bool.not_true, Bool.not_false, wipeD]
      refine hi (t := .bl) rfl ?_
      simp only [sAsg, sPar, sIf, sRet, sRetN, sExp, sSet, sAug, sAugS, sBrk, sCnt, sRaise, sNil, exE, fVar, fLit, fNeg, fIsN, fBin, fChain, fAnd, fOr, fNot, fIte, fNil, fCons, fTup, fLst, fFN, fMt, fIsi, fCall, fSl1, fRev, fNewL, fFC, fXv, fIt, fSeq, fin_v, fin_n, finE_v, finE_n, gAdd_i, gAdd_s, gSub_i, gEq_i, gEq_b, gNe_i, gNe_b, gLt_i, gLe_i, gGt_i, gGe_i, gInt_i, gInt_b, gInp_a, gInp_s, gLen_t, gTuple_t, gList_t, chk_t, asgT, asgL, tyD, Ev.isNon, gRange1_i, Ty.isa, List.getElem?_cons_zero, List.getElem?_cons_succ, List.set_cons_zero, List.set_cons_succ, List.map_cons, List.map_nil, List.cons_append, List.nil_append, List.any_cons, List.any_nil, Option.map_some, Option.map_none, Bool.or_false, Bool.false_or, Bool.or_true, Bool.true_or, Bool.and_true, Bool.true_and, Bool.and_false, Bool.false_and, Bool.not_true, Bool.not_false]
      exact q
    | str b =>
      simp only [sAsg, sPar, sIf, sRet, sRetN, sExp, sSet, sAug, sAugS, sBrk, sCnt, sRaise, sNil, exE, fVar, fLit, fNeg, fIsN, fBin, fChain, fAnd, fOr, fNot, fIte, fNil, fCons, fTup, fLst, fFN, fMt, fIsi, fCall, fSl1, fRev, fNewL, fFC, fXv, fIt, fSeq, fin_v, fin_n, finE_v, finE_n, gAdd_i, gAdd_s, gSub_i, gEq_i, gEq_b, gNe_i, gNe_b, gLt_i, gLe_i, gGt_i, gGe_i, gInt_i, gInt_b, gInp_a, gInp_s, gLen_t, gTuple_t, gList_t, chk_t, asgT, asgL, tyD, Ev.isNon, gRange1_i, Ty.isa, List.getElem?_cons_zero, List.getElem?_cons_succ, List.set_cons_zero, List.set_cons_succ, List.map_cons, List.map_nil, List.cons_append, List.nil_append, List.any_cons, List.any_nil, Option.map_some, Option.map_none, Bool.or_false, Bool.false_or, Bool.or_true, Bool.true_or, Bool.and_true, Bool.true_and, Bool.and_false, Bool.false_and, Bool.not_true, Bool.not_false, wipeD]
      refine hi (t := .str) rfl ?_
      simp only [sAsg, sPar, sIf, sRet, sRetN, sExp, sSet, sAug, sAugS, sBrk, sCnt, sRaise, sNil, exE, fVar, fLit, fNeg, fIsN, fBin, fChain, fAnd, fOr, fNot, fIte, fNil, fCons, fTup, fLst, fFN, fMt, fIsi, fCall, fSl1, fRev, fNewL, fFC, fXv, fIt, fSeq, fin_v, fin_n, finE_v, finE_n, gAdd_i, gAdd_s, gSub_i, gEq_i, gEq_b, gNe_i, gNe_b, gLt_i, gLe_i, gGt_i, gGe_i, gInt_i, gInt_b, gInp_a, gInp_s, gLen_t, gTuple_t, gList_t, chk_t, asgT, asgL, tyD, Ev.isNon, gRange1_i, Ty.isa, List.getElem?_cons_zero, List.getElem?_cons_succ, List.set_cons_zero, List.set_cons_succ, List.map_cons, List.map_nil, List.cons_append, List.nil_append, List.any_cons, List.any_nil, Option.map_some, Option.map_none, Bool.or_false, Bool.false_or, Bool.or_true, Bool.true_or, Bool.and_true, Bool.true_and, Bool.and_false, Bool.false_and, Bool.not_true, Bool.not_false]
      exact q
    | _ => exact hx.elim
  · simp only [allB, fin_v]
    cases ea : xs.all digB with
    | false =>
      have : (xs.map digB).all id = false := by rw [List.all_map]; exact ea
      rw [this]
      simp only [sAsg, sPar, sIf, sRet, sRetN, sExp, sSet, sAug, sAugS, sBrk, sCnt, sRaise, sNil, exE, fVar, fLit, fNeg, fIsN, fBin, fChain, fAnd, fOr, fNot, fIte, fNil, fCons, fTup, fLst, fFN, fMt, fIsi, fCall, fSl1, fRev, fNewL, fFC, fXv, fIt, fSeq, fin_v, fin_n, finE_v, finE_n, gAdd_i, gAdd_s, gSub_i, gEq_i, gEq_b, gNe_i, gNe_b, gLt_i, gLe_i, gGt_i, gGe_i, gInt_i, gInt_b, gInp_a, gInp_s, gLen_t, gTuple_t, gList_t, chk_t, asgT, asgL, tyD, Ev.isNon, gRange1_i, Ty.isa, List.getElem?_cons_zero, List.getElem?_cons_succ, List.set_cons_zero, List.set_cons_succ, List.map_cons, List.map_nil, List.cons_append, List.nil_append, List.any_cons, List.any_nil, Option.map_some, Option.map_none, Bool.or_false, Bool.false_or, Bool.or_true, Bool.true_or, Bool.and_true, Bool.true_and, Bool.and_false, Bool.false_and, Bool.not_true, Bool.not_false]
      rw [hr]
      exact h1 ea
    | true =>
      have : (xs.map digB).all id = true := by rw [List.all_map]; exact ea
      rw [this]
      simp only [sAsg, sPar, sIf, sRet, sRetN, sExp, sSet, sAug, sAugS, sBrk, sCnt, sRaise, sNil, exE, fVar, fLit, fNeg, fIsN, fBin, fChain, fAnd, fOr, fNot, fIte, fNil, fCons, fTup, fLst, fFN, fMt, fIsi, fCall, fSl1, fRev, fNewL, fFC, fXv, fIt, fSeq, fin_v, fin_n, finE_v, finE_n, gAdd_i, gAdd_s, gSub_i, gEq_i, gEq_b, gNe_i, gNe_b, gLt_i, gLe_i, gGt_i, gGe_i, gInt_i, gInt_b, gInp_a, gInp_s, gLen_t, gTuple_t, gList_t, chk_t, asgT, asgL, tyD, Ev.isNon, gRange1_i, Ty.isa, List.getElem?_cons_zero, List.getElem?_cons_succ, List.set_cons_zero, List.set_cons_succ, List.map_cons, List.map_nil, List.cons_append, List.nil_append, List.any_cons, List.any_nil, Option.map_some, Option.map_none, Bool.or_false, Bool.false_or, Bool.or_true, Bool.true_or, Bool.and_true, Bool.true_and, Bool.and_false, Bool.false_and, Bool.not_true, Bool.not_false]
      rw [hn]
      have hex : ∃ ds, xs = I ds ∧ ∀ d ∈ ds, d = 0 ∨ d = 1 := by
        clear hs hl h1 h2 hn this
        induction xs with
        | nil => exact ⟨[], rfl, fun d hd => by simp at hd⟩
        | cons x xs ih =>
          rw [List.all_cons, Bool.and_eq_true] at ea
          obtain ⟨ds, e, hd⟩ := ih ea.2
          cases x with
          | int d =>
            have h0 := ea.1
            simp only [digB, Bool.or_eq_true, decide_eq_true_eq] at h0
            refine ⟨d :: ds, by rw [e] <;> rfl, fun z hz => ?_⟩
            rcases List.mem_cons.mp hz with hz | hz
            · subst hz; exact h0
            · exact hd z hz
          | _ => exact absurd ea.1 Bool.false_ne_true
      obtain ⟨ds, rfl, hd⟩ := hex
      have hcut : Ev.gSl (.tup (I ds)) (some 1) none h = some (.val (.tup ((I ds).drop 1))) := by
        have e : Ev.cutD (I ds) (some 1) none = (I ds).drop 1 := by
          unfold Ev.cutD
          have e1 : HT.sIx (I ds).length 0 (some 1) = min 1 (I ds).length := HT.sIx_nat _ _ 1
          have e2 : HT.sIx (I ds).length (I ds).length none = (I ds).length := rfl
          rw [e1, e2]
          cases hx0 : I ds with
          | nil => rfl
          | cons x xs =>
            have : min 1 (x :: xs).length = 1 := by simp only [List.length_cons]; omega
            rw [this, List.take_of_length_le (by rw [List.length_drop]; omega)]
        show some (Res.val (Ev.D.tup (Ev.cutD (I ds) (some 1) none))) = _
        rw [e]
      simp only [sAsg, sPar, sIf, sRet, sRetN, sExp, sSet, sAug, sAugS, sBrk, sCnt, sRaise, sNil, exE, fVar, fLit, fNeg, fIsN, fBin, fChain, fAnd, fOr, fNot, fIte, fNil, fCons, fTup, fLst, fFN, fMt, fIsi, fCall, fSl1, fRev, fNewL, fFC, fXv, fIt, fSeq, fin_v, fin_n, finE_v, finE_n, gAdd_i, gAdd_s, gSub_i, gEq_i, gEq_b, gNe_i, gNe_b, gLt_i, gLe_i, gGt_i, gGe_i, gInt_i, gInt_b, gInp_a, gInp_s, gLen_t, gTuple_t, gList_t, chk_t, asgT, asgL, tyD, Ev.isNon, gRange1_i, Ty.isa, List.getElem?_cons_zero, List.getElem?_cons_succ, List.set_cons_zero, List.set_cons_succ, List.map_cons, List.map_nil, List.cons_append, List.nil_append, List.any_cons, List.any_nil, Option.map_some, Option.map_none, Bool.or_false, Bool.false_or, Bool.or_true, Bool.true_or, Bool.and_true, Bool.true_and, Bool.and_false, Bool.false_and, Bool.not_true, Bool.not_false, fComp, hcut, gZip]
      refine compL_pure (xs := ((I ds).zip ((I ds).drop 1)).map fun p => D.tup [p.1, p.2]) (ys := ((ds.zip (ds.drop 1)).map fun p => decide (p.1 = 1) && decide (p.2 = 1)).map D.bl) zip_it (fun i x e => ?_) (by simp) (by rw [List.length_map, List.length_zip, List.length_map] ; rw [List.length_map] at hl; show _ < 16777216; omega) ?_
      · rw [List.getElem?_map, Option.map_eq_some_iff] at e
        obtain ⟨⟨p, q⟩, e1, rfl⟩ := e
        have e2 : (ds.zip (ds.drop 1))[i]?.map (fun z : Int × Int => (D.int z.1, D.int z.2)) = some (p, q) := by
          rw [← e1, ← List.getElem?_map]
          congr 1
          rw [← List.map_drop, List.zip_map]
          rfl
        rw [Option.map_eq_some_iff] at e2
        obtain ⟨⟨a, b⟩, e3, e4⟩ := e2
        cases e4
        refine ⟨_, .bl (decide (a = 1) && decide (b = 1)), rfl, by rw [List.getElem?_map, List.getElem?_map, e3] <;> rfl, fun Q' q => ?_⟩
        simp only [sAsg, sPar, sIf, sRet, sRetN, sExp, sSet, sAug, sAugS, sBrk, sCnt, sRaise, sNil, exE, fVar, fLit, fNeg, fIsN, fBin, fChain, fAnd, fOr, fNot, fIte, fNil, fCons, fTup, fLst, fFN, fMt, fIsi, fCall, fSl1, fRev, fNewL, fFC, fXv, fIt, fSeq, fin_v, fin_n, finE_v, finE_n, gAdd_i, gAdd_s, gSub_i, gEq_i, gEq_b, gNe_i, gNe_b, gLt_i, gLe_i, gGt_i, gGe_i, gInt_i, gInt_b, gInp_a, gInp_s, gLen_t, gTuple_t, gList_t, chk_t, asgT, asgL, tyD, Ev.isNon, gRange1_i, Ty.isa, List.getElem?_cons_zero, List.getElem?_cons_succ, List.set_cons_zero, List.set_cons_succ, List.map_cons, List.map_nil, List.cons_append, List.nil_append, List.any_cons, List.any_nil, Option.map_some, Option.map_none, Bool.or_false, Bool.false_or, Bool.or_true, Bool.true_or, Bool.and_true, Bool.true_and, Bool.and_false, Bool.false_and, Bool.not_true, Bool.not_false, wipeD]
        by_cases ha : a = 1
        · have h1 : decide (a = 1) = true := decide_eq_true ha
          rw [h1] at q
          simp only [sAsg, sPar, sIf, sRet, sRetN, sExp, sSet, sAug, sAugS, sBrk, sCnt, sRaise, sNil, exE, fVar, fLit, fNeg, fIsN, fBin, fChain, fAnd, fOr, fNot, fIte, fNil, fCons, fTup, fLst, fFN, fMt, fIsi, fCall, fSl1, fRev, fNewL, fFC, fXv, fIt, fSeq, fin_v, fin_n, finE_v, finE_n, gAdd_i, gAdd_s, gSub_i, gEq_i, gEq_b, gNe_i, gNe_b, gLt_i, gLe_i, gGt_i, gGe_i, gInt_i, gInt_b, gInp_a, gInp_s, gLen_t, gTuple_t, gList_t, chk_t, asgT, asgL, tyD, Ev.isNon, gRange1_i, Ty.isa, List.getElem?_cons_zero, List.getElem?_cons_succ, List.set_cons_zero, List.set_cons_succ, List.map_cons, List.map_nil, List.cons_append, List.nil_append, List.any_cons, List.any_nil, Option.map_some, Option.map_none, Bool.or_false, Bool.false_or, Bool.or_true, Bool.true_or, Bool.and_true, Bool.true_and, Bool.and_false, Bool.false_and, Bool.not_true, Bool.not_false, h1]
          exact q
        · have h1 : decide (a = 1) = false := decide_eq_false ha
          rw [h1] at q
          simp only [sAsg, sPar, sIf, sRet, sRetN, sExp, sSet, sAug, sAugS, sBrk, sCnt, sRaise, sNil, exE, fVar, fLit, fNeg, fIsN, fBin, fChain, fAnd, fOr, fNot, fIte, fNil, fCons, fTup, fLst, fFN, fMt, fIsi, fCall, fSl1, fRev, fNewL, fFC, fXv, fIt, fSeq, fin_v, fin_n, finE_v, finE_n, gAdd_i, gAdd_s, gSub_i, gEq_i, gEq_b, gNe_i, gNe_b, gLt_i, gLe_i, gGt_i, gGe_i, gInt_i, gInt_b, gInp_a, gInp_s, gLen_t, gTuple_t, gList_t, chk_t, asgT, asgL, tyD, Ev.isNon, gRange1_i, Ty.isa, List.getElem?_cons_zero, List.getElem?_cons_succ, List.set_cons_zero, List.set_cons_succ, List.map_cons, List.map_nil, List.cons_append, List.nil_append, List.any_cons, List.any_nil, Option.map_some, Option.map_none, Bool.or_false, Bool.false_or, Bool.or_true, Bool.true_or, Bool.and_true, Bool.true_and, Bool.and_false, Bool.false_and, Bool.not_true, Bool.not_false, h1]
          exact q
      · simp only [anyB, fin_v]
        have e : ((ds.zip (ds.drop 1)).map fun p => decide (p.1 = 1) && decide (p.2 = 1)).any id = adj ds := by rw [List.any_map]; rfl
        rw [e]
        exact h2 ds rfl hd
end K78

set_option Elab.async false
set_option linter.all false
set_option maxRecDepth 100000
set_option maxHeartbeats 0
/-! K78c: golden numbers, the law's own defs. -/
namespace K78
open PySem PySem.Spec PyProof.Rows L2 NdefX Ev
theorem isdig_nt {d : D} {t : Ev.Ty} {h : VH} {Q : PQ} {E : PX} (ht : tyD d h = some t) (hn : t.isa .tup = false) (hQ : Q (.bl false) h) : sp_is_digits [d] h Q E := by
  refine fnSp_of rfl ?_
  show b_is_digits [some d, none, none, none] h (fnD Q E)
  unfold b_is_digits
  refine seq_ fun Z hn' hr hb hc' hx => ?_
  simp only [sIf, fOr, fNot, fIsi, fVar, exE, List.getElem?_cons_zero, ht, List.any_cons, List.any_nil, Bool.or_false, hn, Bool.not_false]
  simp only [sAsg, sPar, sIf, sRet, sRetN, sExp, sSet, sAug, sAugS, sBrk, sCnt, sRaise, sNil, exE, fVar, fLit, fNeg, fIsN, fBin, fChain, fAnd, fOr, fNot, fIte, fNil, fCons, fTup, fLst, fFN, fMt, fIsi, fCall, fSl1, fRev, fNewL, fFC, fXv, fIt, fSeq, fin_v, fin_n, finE_v, finE_n, gAdd_i, gAdd_s, gSub_i, gEq_i, gEq_b, gNe_i, gNe_b, gLt_i, gLe_i, gGt_i, gGe_i, gInt_i, gInt_b, gInp_a, gInp_s, gLen_t, gTuple_t, gList_t, chk_t, asgT, asgL, tyD, Ev.isNon, gRange1_i, Ty.isa, List.getElem?_cons_zero, List.getElem?_cons_succ, List.set_cons_zero, List.set_cons_succ, List.map_cons, List.map_nil, List.cons_append, List.nil_append, List.any_cons, List.any_nil, Option.map_some, Option.map_none, Bool.or_false, Bool.false_or, Bool.or_true, Bool.true_or, Bool.and_true, Bool.true_and, Bool.and_false, Bool.false_and, Bool.not_true, Bool.not_false]
  rw [hr]
  exact hQ
theorem adj_ok {b : Bool} {ds : List Int} (h : Okd b ds) : adj ds = false := by
  unfold adj
  rw [List.any_eq_false]
  intro p hp
  obtain ⟨i, e⟩ := List.mem_iff_getElem?.mp hp
  simp only [List.zip, List.getElem?_zipWith] at e
  cases e1 : ds[i]? with
  | none => rw [e1] at e; cases e
  | some x =>
    cases e2 : (ds.drop 1)[i]? with
    | none => rw [e1, e2] at e; cases e
    | some y =>
      rw [e1, e2] at e
      cases e
      rw [List.getElem?_drop, show 1 + i = i + 1 by omega] at e2
      have := h.adj.1 i x y e1 e2
      simp only [Bool.and_eq_true, decide_eq_true_eq]
      exact this
theorem simple_I (ds : List Int) : ∀ x ∈ I ds, simple x := fun x hx => by
  obtain ⟨d, _, rfl⟩ := List.mem_map.mp hx
  trivial
theorem digB_I {b : Bool} {ds : List Int} (h : Okd b ds) : (I ds).all digB = true := by
  rw [List.all_eq_true]
  intro x hx
  obtain ⟨d, hd, rfl⟩ := List.mem_map.mp hx
  rcases h.mem d hd with h | h <;> subst h <;> rfl
theorem I_inj : ∀ {a b : List Int}, I a = I b → a = b := fun {a b} h => List.map_inj_right (f := D.int) (fun x y e => by cases e; rfl) |>.mp h
theorem take_va {ds : List Int} {i : Nat} {d : Int} (h : ds[i]? = some d) : va 0 (ds.take (i + 1)) = va 0 (ds.take i) + d * fb i := by
  have hi := (List.getElem?_eq_some_iff.mp h).1
  rw [List.take_add_one, h]
  show va 0 (ds.take i ++ [d]) = _
  rw [va_snoc, List.length_take, Nat.min_eq_left (by omega)]
theorem number_ok {b : Bool} {ds : List Int} {h : VH} {Q : PQ} {E : PX} (ho : Okd b ds) (hl : ds.length ≤ 1000) (hQ : Q (.int (va 0 ds)) h) : sp_golden_number [.tup (I ds)] h Q E := by
  refine fnSp_of rfl ?_
  show b_golden_number [some (.tup (I ds)), none, none, none] h (fnD Q E)
  have hs : ∀ {Q : PQ} {E : PX}, Q (.bl true) h → sp_is_digits [.tup (I ds)] h Q E := fun q => isdig_tup (simple_I ds) (by rw [List.length_map]; omega) (fun e => by rw [digB_I ho] at e; cases e) (fun es e _ => by
    have := I_inj e
    subst this
    rw [adj_ok ho]
    exact q)
  unfold b_golden_number
  generalize sp_is_digits = sp at hs
  have c2 : ∀ a b : D, decide ([a, b].length ≤ line) = true := fun a b => decide_eq_true (Nat.le_of_ble_eq_true rfl)
  refine seq_ fun Z hn hr hb hc' hx => ?_
  simp only [sAsg, sPar, sIf, sRet, sRetN, sExp, sSet, sAug, sAugS, sBrk, sCnt, sRaise, sNil, exE, fVar, fLit, fNeg, fIsN, fBin, fChain, fAnd, fOr, fNot, fIte, fNil, fCons, fTup, fLst, fFN, fMt, fIsi, fCall, fSl1, fRev, fNewL, fFC, fXv, fIt, fSeq, fin_v, fin_n, finE_v, finE_n, gAdd_i, gAdd_s, gSub_i, gEq_i, gEq_b, gNe_i, gNe_b, gLt_i, gLe_i, gGt_i, gGe_i, gInt_i, gInt_b, gInp_a, gInp_s, gLen_t, gTuple_t, gList_t, chk_t, asgT, asgL, tyD, Ev.isNon, gRange1_i, Ty.isa, List.getElem?_cons_zero, List.getElem?_cons_succ, List.set_cons_zero, List.set_cons_succ, List.map_cons, List.map_nil, List.cons_append, List.nil_append, List.any_cons, List.any_nil, Option.map_some, Option.map_none, Bool.or_false, Bool.false_or, Bool.or_true, Bool.true_or, Bool.and_true, Bool.true_and, Bool.and_false, Bool.false_and, Bool.not_true, Bool.not_false]
  refine hs ?_
  simp only [sAsg, sPar, sIf, sRet, sRetN, sExp, sSet, sAug, sAugS, sBrk, sCnt, sRaise, sNil, exE, fVar, fLit, fNeg, fIsN, fBin, fChain, fAnd, fOr, fNot, fIte, fNil, fCons, fTup, fLst, fFN, fMt, fIsi, fCall, fSl1, fRev, fNewL, fFC, fXv, fIt, fSeq, fin_v, fin_n, finE_v, finE_n, gAdd_i, gAdd_s, gSub_i, gEq_i, gEq_b, gNe_i, gNe_b, gLt_i, gLe_i, gGt_i, gGe_i, gInt_i, gInt_b, gInp_a, gInp_s, gLen_t, gTuple_t, gList_t, chk_t, asgT, asgL, tyD, Ev.isNon, gRange1_i, Ty.isa, List.getElem?_cons_zero, List.getElem?_cons_succ, List.set_cons_zero, List.set_cons_succ, List.map_cons, List.map_nil, List.cons_append, List.nil_append, List.any_cons, List.any_nil, Option.map_some, Option.map_none, Bool.or_false, Bool.false_or, Bool.or_true, Bool.true_or, Bool.and_true, Bool.true_and, Bool.and_false, Bool.false_and, Bool.not_true, Bool.not_false]
  rw [hn]
  refine seq_ fun Z hn hr hb hc' hx => ?_
  simp only [sAsg, sPar, sIf, sRet, sRetN, sExp, sSet, sAug, sAugS, sBrk, sCnt, sRaise, sNil, exE, fVar, fLit, fNeg, fIsN, fBin, fChain, fAnd, fOr, fNot, fIte, fNil, fCons, fTup, fLst, fFN, fMt, fIsi, fCall, fSl1, fRev, fNewL, fFC, fXv, fIt, fSeq, fin_v, fin_n, finE_v, finE_n, gAdd_i, gAdd_s, gSub_i, gEq_i, gEq_b, gNe_i, gNe_b, gLt_i, gLe_i, gGt_i, gGe_i, gInt_i, gInt_b, gInp_a, gInp_s, gLen_t, gTuple_t, gList_t, chk_t, asgT, asgL, tyD, Ev.isNon, gRange1_i, Ty.isa, List.getElem?_cons_zero, List.getElem?_cons_succ, List.set_cons_zero, List.set_cons_succ, List.map_cons, List.map_nil, List.cons_append, List.nil_append, List.any_cons, List.any_nil, Option.map_some, Option.map_none, Bool.or_false, Bool.false_or, Bool.or_true, Bool.true_or, Bool.and_true, Bool.true_and, Bool.and_false, Bool.false_and, Bool.not_true, Bool.not_false, c2]
  rw [hn]
  refine seq_ fun Z hn hr hb hc' hx => ?_
  simp only [sAsg, sPar, sIf, sRet, sRetN, sExp, sSet, sAug, sAugS, sBrk, sCnt, sRaise, sNil, exE, fVar, fLit, fNeg, fIsN, fBin, fChain, fAnd, fOr, fNot, fIte, fNil, fCons, fTup, fLst, fFN, fMt, fIsi, fCall, fSl1, fRev, fNewL, fFC, fXv, fIt, fSeq, fin_v, fin_n, finE_v, finE_n, gAdd_i, gAdd_s, gSub_i, gEq_i, gEq_b, gNe_i, gNe_b, gLt_i, gLe_i, gGt_i, gGe_i, gInt_i, gInt_b, gInp_a, gInp_s, gLen_t, gTuple_t, gList_t, chk_t, asgT, asgL, tyD, Ev.isNon, gRange1_i, Ty.isa, List.getElem?_cons_zero, List.getElem?_cons_succ, List.set_cons_zero, List.set_cons_succ, List.map_cons, List.map_nil, List.cons_append, List.nil_append, List.any_cons, List.any_nil, Option.map_some, Option.map_none, Bool.or_false, Bool.false_or, Bool.or_true, Bool.true_or, Bool.and_true, Bool.true_and, Bool.and_false, Bool.false_and, Bool.not_true, Bool.not_false, sFor]
  refine foL_tup (fun i env h' => h' = h ∧ ∃ z, env = [some (.tup (I ds)), some (.int (va 0 (ds.take i))), some (.tup [.int (fb i), .int (fb (i + 1))]), z]) (xs := I ds) (fun i x env h' ⟨eh, z, e⟩ hx' => ?_) (fun env h' ⟨eh, z, e⟩ => ?_) fuel 0 _ _ ⟨rfl, none, rfl⟩ (Nat.zero_le _) (by rw [List.length_map, fuel_eq]; omega)
  · subst e
    subst eh
    rw [List.getElem?_map, Option.map_eq_some_iff] at hx'
    obtain ⟨d, e1, rfl⟩ := hx'
    have hd := ho.mem d (List.mem_of_getElem? e1)
    refine ⟨_, rfl, fun Z' zn _ _ _ _ => ?_⟩
    refine seq_ fun Z2 hn2 hr2 hb2 hc2 hx2 => ?_
    have a0 : gIx (.tup [.int (fb i), .int (fb (i + 1))]) (.int 0) h' = some (.val (.int (fb i))) := gIx_t atI_0
    have a1 : gIx (.tup [.int (fb i), .int (fb (i + 1))]) (.int 1) h' = some (.val (.int (fb (i + 1)))) := gIx_t atI_1
    have am : gMul (.int d) (.int (fb i)) h' = some (.val (.int (d * fb i))) := gMul_i (mul_l (by rcases hd with e | e <;> subst e <;> decide))
    simp only [sAsg, sPar, sIf, sRet, sRetN, sExp, sSet, sAug, sAugS, sBrk, sCnt, sRaise, sNil, exE, fVar, fLit, fNeg, fIsN, fBin, fChain, fAnd, fOr, fNot, fIte, fNil, fCons, fTup, fLst, fFN, fMt, fIsi, fCall, fSl1, fRev, fNewL, fFC, fXv, fIt, fSeq, fin_v, fin_n, finE_v, finE_n, gAdd_i, gAdd_s, gSub_i, gEq_i, gEq_b, gNe_i, gNe_b, gLt_i, gLe_i, gGt_i, gGe_i, gInt_i, gInt_b, gInp_a, gInp_s, gLen_t, gTuple_t, gList_t, chk_t, asgT, asgL, tyD, Ev.isNon, gRange1_i, Ty.isa, List.getElem?_cons_zero, List.getElem?_cons_succ, List.set_cons_zero, List.set_cons_succ, List.map_cons, List.map_nil, List.cons_append, List.nil_append, List.any_cons, List.any_nil, Option.map_some, Option.map_none, Bool.or_false, Bool.false_or, Bool.or_true, Bool.true_or, Bool.and_true, Bool.true_and, Bool.and_false, Bool.false_and, Bool.not_true, Bool.not_false, a0, am]
    rw [hn2]
    simp only [sAsg, sPar, sIf, sRet, sRetN, sExp, sSet, sAug, sAugS, sBrk, sCnt, sRaise, sNil, exE, fVar, fLit, fNeg, fIsN, fBin, fChain, fAnd, fOr, fNot, fIte, fNil, fCons, fTup, fLst, fFN, fMt, fIsi, fCall, fSl1, fRev, fNewL, fFC, fXv, fIt, fSeq, fin_v, fin_n, finE_v, finE_n, gAdd_i, gAdd_s, gSub_i, gEq_i, gEq_b, gNe_i, gNe_b, gLt_i, gLe_i, gGt_i, gGe_i, gInt_i, gInt_b, gInp_a, gInp_s, gLen_t, gTuple_t, gList_t, chk_t, asgT, asgL, tyD, Ev.isNon, gRange1_i, Ty.isa, List.getElem?_cons_zero, List.getElem?_cons_succ, List.set_cons_zero, List.set_cons_succ, List.map_cons, List.map_nil, List.cons_append, List.nil_append, List.any_cons, List.any_nil, Option.map_some, Option.map_none, Bool.or_false, Bool.false_or, Bool.or_true, Bool.true_or, Bool.and_true, Bool.true_and, Bool.and_false, Bool.false_and, Bool.not_true, Bool.not_false, a0, a1, c2]
    refine zn _ _ ⟨rfl, some (.int d), ?_⟩
    rw [take_va e1]
    rfl
  · subst e
    subst eh
    rw [hn]
    simp only [sAsg, sPar, sIf, sRet, sRetN, sExp, sSet, sAug, sAugS, sBrk, sCnt, sRaise, sNil, exE, fVar, fLit, fNeg, fIsN, fBin, fChain, fAnd, fOr, fNot, fIte, fNil, fCons, fTup, fLst, fFN, fMt, fIsi, fCall, fSl1, fRev, fNewL, fFC, fXv, fIt, fSeq, fin_v, fin_n, finE_v, finE_n, gAdd_i, gAdd_s, gSub_i, gEq_i, gEq_b, gNe_i, gNe_b, gLt_i, gLe_i, gGt_i, gGe_i, gInt_i, gInt_b, gInp_a, gInp_s, gLen_t, gTuple_t, gList_t, chk_t, asgT, asgL, tyD, Ev.isNon, gRange1_i, Ty.isa, List.getElem?_cons_zero, List.getElem?_cons_succ, List.set_cons_zero, List.set_cons_succ, List.map_cons, List.map_nil, List.cons_append, List.nil_append, List.any_cons, List.any_nil, Option.map_some, Option.map_none, Bool.or_false, Bool.false_or, Bool.or_true, Bool.true_or, Bool.and_true, Bool.true_and, Bool.and_false, Bool.false_and, Bool.not_true, Bool.not_false]
    have : (I ds).length = ds.length := List.length_map ..
    rw [this, List.take_of_length_le (Nat.le_refl _)]
    exact hQ
theorem number_no {d : D} {h : VH} {Q : PQ} {E : PX} (hd : ∀ {Q : PQ} {E : PX}, Q (.bl false) h → sp_is_digits [d] h Q E) (hE : E "InvalidRows" d h) : sp_golden_number [d] h Q E := by
  refine fnSp_of rfl ?_
  show b_golden_number [some d, none, none, none] h (fnD Q E)
  unfold b_golden_number
  generalize sp_is_digits = sp at hd
  refine seq_ fun Z hn hr hb hc' hx => ?_
  simp only [sAsg, sPar, sIf, sRet, sRetN, sExp, sSet, sAug, sAugS, sBrk, sCnt, sRaise, sNil, exE, fVar, fLit, fNeg, fIsN, fBin, fChain, fAnd, fOr, fNot, fIte, fNil, fCons, fTup, fLst, fFN, fMt, fIsi, fCall, fSl1, fRev, fNewL, fFC, fXv, fIt, fSeq, fin_v, fin_n, finE_v, finE_n, gAdd_i, gAdd_s, gSub_i, gEq_i, gEq_b, gNe_i, gNe_b, gLt_i, gLe_i, gGt_i, gGe_i, gInt_i, gInt_b, gInp_a, gInp_s, gLen_t, gTuple_t, gList_t, chk_t, asgT, asgL, tyD, Ev.isNon, gRange1_i, Ty.isa, List.getElem?_cons_zero, List.getElem?_cons_succ, List.set_cons_zero, List.set_cons_succ, List.map_cons, List.map_nil, List.cons_append, List.nil_append, List.any_cons, List.any_nil, Option.map_some, Option.map_none, Bool.or_false, Bool.false_or, Bool.or_true, Bool.true_or, Bool.and_true, Bool.true_and, Bool.and_false, Bool.false_and, Bool.not_true, Bool.not_false]
  refine hd ?_
  simp only [sAsg, sPar, sIf, sRet, sRetN, sExp, sSet, sAug, sAugS, sBrk, sCnt, sRaise, sNil, exE, fVar, fLit, fNeg, fIsN, fBin, fChain, fAnd, fOr, fNot, fIte, fNil, fCons, fTup, fLst, fFN, fMt, fIsi, fCall, fSl1, fRev, fNewL, fFC, fXv, fIt, fSeq, fin_v, fin_n, finE_v, finE_n, gAdd_i, gAdd_s, gSub_i, gEq_i, gEq_b, gNe_i, gNe_b, gLt_i, gLe_i, gGt_i, gGe_i, gInt_i, gInt_b, gInp_a, gInp_s, gLen_t, gTuple_t, gList_t, chk_t, asgT, asgL, tyD, Ev.isNon, gRange1_i, Ty.isa, List.getElem?_cons_zero, List.getElem?_cons_succ, List.set_cons_zero, List.set_cons_succ, List.map_cons, List.map_nil, List.cons_append, List.nil_append, List.any_cons, List.any_nil, Option.map_some, Option.map_none, Bool.or_false, Bool.false_or, Bool.or_true, Bool.true_or, Bool.and_true, Bool.true_and, Bool.and_false, Bool.false_and, Bool.not_true, Bool.not_false]
  rw [hx]
  exact hE
theorem golden_ok {n : Int} {m : Nat} {h : VH} {Q : PQ} {E : PX} (h0 : 0 ≤ n) (hc : Cnt n m) (hm : m ≤ 1000) (hQ : ∀ g, Q (.tup (I (gr m n))) (h ++ g)) : sp_golden_digits [.int n] h Q E := by
  refine fnSp_of rfl ?_
  show b_golden_digits [some (.int n)] h (fnD Q E)
  have h1 : ∀ {Q : PQ} {E : PX}, Q .non h → sp_check_from [.int n, .int 0] h Q E := check_ok h0
  have h2 : ∀ {Q : PQ} {E : PX}, (∀ g, Q (.tup (I (gr m n))) (h ++ g)) → sp_golden_digits_of [.int n] h Q E := digits_ok hc hm
  unfold b_golden_digits
  generalize sp_check_from = sp at h1
  generalize sp_golden_digits_of = sp' at h2
  refine seq_ fun Z hn hr hb hc' hx => ?_
  simp only [sAsg, sPar, sIf, sRet, sRetN, sExp, sSet, sAug, sAugS, sBrk, sCnt, sRaise, sNil, exE, fVar, fLit, fNeg, fIsN, fBin, fChain, fAnd, fOr, fNot, fIte, fNil, fCons, fTup, fLst, fFN, fMt, fIsi, fCall, fSl1, fRev, fNewL, fFC, fXv, fIt, fSeq, fin_v, fin_n, finE_v, finE_n, gAdd_i, gAdd_s, gSub_i, gEq_i, gEq_b, gNe_i, gNe_b, gLt_i, gLe_i, gGt_i, gGe_i, gInt_i, gInt_b, gInp_a, gInp_s, gLen_t, gTuple_t, gList_t, chk_t, asgT, asgL, tyD, Ev.isNon, gRange1_i, Ty.isa, List.getElem?_cons_zero, List.getElem?_cons_succ, List.set_cons_zero, List.set_cons_succ, List.map_cons, List.map_nil, List.cons_append, List.nil_append, List.any_cons, List.any_nil, Option.map_some, Option.map_none, Bool.or_false, Bool.false_or, Bool.or_true, Bool.true_or, Bool.and_true, Bool.true_and, Bool.and_false, Bool.false_and, Bool.not_true, Bool.not_false]
  refine h1 ?_
  rw [hn]
  simp only [sAsg, sPar, sIf, sRet, sRetN, sExp, sSet, sAug, sAugS, sBrk, sCnt, sRaise, sNil, exE, fVar, fLit, fNeg, fIsN, fBin, fChain, fAnd, fOr, fNot, fIte, fNil, fCons, fTup, fLst, fFN, fMt, fIsi, fCall, fSl1, fRev, fNewL, fFC, fXv, fIt, fSeq, fin_v, fin_n, finE_v, finE_n, gAdd_i, gAdd_s, gSub_i, gEq_i, gEq_b, gNe_i, gNe_b, gLt_i, gLe_i, gGt_i, gGe_i, gInt_i, gInt_b, gInp_a, gInp_s, gLen_t, gTuple_t, gList_t, chk_t, asgT, asgL, tyD, Ev.isNon, gRange1_i, Ty.isa, List.getElem?_cons_zero, List.getElem?_cons_succ, List.set_cons_zero, List.set_cons_succ, List.map_cons, List.map_nil, List.cons_append, List.nil_append, List.any_cons, List.any_nil, Option.map_some, Option.map_none, Bool.or_false, Bool.false_or, Bool.or_true, Bool.true_or, Bool.and_true, Bool.true_and, Bool.and_false, Bool.false_and, Bool.not_true, Bool.not_false]
  exact h2 hQ
theorem golden_no {d : D} {h : VH} {Q : PQ} {E : PX} {t : Ev.Ty} (ht : tyD d h = some t) (hd : (∃ n : Int, d = .int n ∧ n < 0) ∨ (t.isa .int && !t.isa .bl) = false) (hE : E "InvalidInteger" d h) : sp_golden_digits [d] h Q E := by
  refine fnSp_of rfl ?_
  show b_golden_digits [some d] h (fnD Q E)
  have h1 : ∀ {Q : PQ} {E : PX}, E "InvalidInteger" d h → sp_check_from [d, .int 0] h Q E := check_no ht hd
  unfold b_golden_digits
  generalize sp_check_from = sp at h1
  refine seq_ fun Z hn hr hb hc' hx => ?_
  simp only [sAsg, sPar, sIf, sRet, sRetN, sExp, sSet, sAug, sAugS, sBrk, sCnt, sRaise, sNil, exE, fVar, fLit, fNeg, fIsN, fBin, fChain, fAnd, fOr, fNot, fIte, fNil, fCons, fTup, fLst, fFN, fMt, fIsi, fCall, fSl1, fRev, fNewL, fFC, fXv, fIt, fSeq, fin_v, fin_n, finE_v, finE_n, gAdd_i, gAdd_s, gSub_i, gEq_i, gEq_b, gNe_i, gNe_b, gLt_i, gLe_i, gGt_i, gGe_i, gInt_i, gInt_b, gInp_a, gInp_s, gLen_t, gTuple_t, gList_t, chk_t, asgT, asgL, tyD, Ev.isNon, gRange1_i, Ty.isa, List.getElem?_cons_zero, List.getElem?_cons_succ, List.set_cons_zero, List.set_cons_succ, List.map_cons, List.map_nil, List.cons_append, List.nil_append, List.any_cons, List.any_nil, Option.map_some, Option.map_none, Bool.or_false, Bool.false_or, Bool.or_true, Bool.true_or, Bool.and_true, Bool.true_and, Bool.and_false, Bool.false_and, Bool.not_true, Bool.not_false]
  refine h1 ?_
  unfold exE
  rw [hx]
  exact hE
theorem sum_ok {b : Bool} {ds : List Int} {h : VH} {Q : PQ} {E : PX} (ho : Okd b ds) (hl : ds.length ≤ 1000) (hQ : Q (.int (va 0 ds)) h) : sp__law_sum [.tup (I ds)] h Q E := by
  refine fnSp_of rfl ?_
  show b__law_sum [some (.tup (I ds)), none, none, none, none] h (fnD Q E)
  unfold b__law_sum
  have c3 : ∀ a b c : D, decide ([a, b, c].length ≤ line) = true := fun a b c => decide_eq_true (Nat.le_of_ble_eq_true rfl)
  refine seq_ fun Z hn hr hb hc' hx => ?_
  simp only [sAsg, sPar, sIf, sRet, sRetN, sExp, sSet, sAug, sAugS, sBrk, sCnt, sRaise, sNil, exE, fVar, fLit, fNeg, fIsN, fBin, fChain, fAnd, fOr, fNot, fIte, fNil, fCons, fTup, fLst, fFN, fMt, fIsi, fCall, fSl1, fRev, fNewL, fFC, fXv, fIt, fSeq, fin_v, fin_n, finE_v, finE_n, gAdd_i, gAdd_s, gSub_i, gEq_i, gEq_b, gNe_i, gNe_b, gLt_i, gLe_i, gGt_i, gGe_i, gInt_i, gInt_b, gInp_a, gInp_s, gLen_t, gTuple_t, gList_t, chk_t, asgT, asgL, tyD, Ev.isNon, gRange1_i, Ty.isa, List.getElem?_cons_zero, List.getElem?_cons_succ, List.set_cons_zero, List.set_cons_succ, List.map_cons, List.map_nil, List.cons_append, List.nil_append, List.any_cons, List.any_nil, Option.map_some, Option.map_none, Bool.or_false, Bool.false_or, Bool.or_true, Bool.true_or, Bool.and_true, Bool.true_and, Bool.and_false, Bool.false_and, Bool.not_true, Bool.not_false, c3]
  rw [hn]
  refine seq_ fun Z hn hr hb hc' hx => ?_
  simp only [sAsg, sPar, sIf, sRet, sRetN, sExp, sSet, sAug, sAugS, sBrk, sCnt, sRaise, sNil, exE, fVar, fLit, fNeg, fIsN, fBin, fChain, fAnd, fOr, fNot, fIte, fNil, fCons, fTup, fLst, fFN, fMt, fIsi, fCall, fSl1, fRev, fNewL, fFC, fXv, fIt, fSeq, fin_v, fin_n, finE_v, finE_n, gAdd_i, gAdd_s, gSub_i, gEq_i, gEq_b, gNe_i, gNe_b, gLt_i, gLe_i, gGt_i, gGe_i, gInt_i, gInt_b, gInp_a, gInp_s, gLen_t, gTuple_t, gList_t, chk_t, asgT, asgL, tyD, Ev.isNon, gRange1_i, Ty.isa, List.getElem?_cons_zero, List.getElem?_cons_succ, List.set_cons_zero, List.set_cons_succ, List.map_cons, List.map_nil, List.cons_append, List.nil_append, List.any_cons, List.any_nil, Option.map_some, Option.map_none, Bool.or_false, Bool.false_or, Bool.or_true, Bool.true_or, Bool.and_true, Bool.true_and, Bool.and_false, Bool.false_and, Bool.not_true, Bool.not_false, sFor]
  refine foL_tup (fun i env h' => h' = h ∧ ∃ z, env = [some (.tup (I ds)), some (.int (fb i)), some (.int (fb (i + 1))), some (.int (va 0 (ds.take i))), z]) (xs := I ds) (fun i x env h' ⟨eh, z, e⟩ hx' => ?_) (fun env h' ⟨eh, z, e⟩ => ?_) fuel 0 _ _ ⟨rfl, none, rfl⟩ (Nat.zero_le _) (by rw [List.length_map, fuel_eq]; omega)
  · subst e
    subst eh
    rw [List.getElem?_map, Option.map_eq_some_iff] at hx'
    obtain ⟨d, e1, rfl⟩ := hx'
    have hd := ho.mem d (List.mem_of_getElem? e1)
    refine ⟨_, rfl, fun Z' zn _ _ _ _ => ?_⟩
    refine seq_ fun Z2 hn2 hr2 hb2 hc2 hx2 => ?_
    have am : gMul (.int d) (.int (fb i)) h' = some (.val (.int (d * fb i))) := gMul_i (mul_l (by rcases hd with e | e <;> subst e <;> decide))
    simp only [sAsg, sPar, sIf, sRet, sRetN, sExp, sSet, sAug, sAugS, sBrk, sCnt, sRaise, sNil, exE, fVar, fLit, fNeg, fIsN, fBin, fChain, fAnd, fOr, fNot, fIte, fNil, fCons, fTup, fLst, fFN, fMt, fIsi, fCall, fSl1, fRev, fNewL, fFC, fXv, fIt, fSeq, fin_v, fin_n, finE_v, finE_n, gAdd_i, gAdd_s, gSub_i, gEq_i, gEq_b, gNe_i, gNe_b, gLt_i, gLe_i, gGt_i, gGe_i, gInt_i, gInt_b, gInp_a, gInp_s, gLen_t, gTuple_t, gList_t, chk_t, asgT, asgL, tyD, Ev.isNon, gRange1_i, Ty.isa, List.getElem?_cons_zero, List.getElem?_cons_succ, List.set_cons_zero, List.set_cons_succ, List.map_cons, List.map_nil, List.cons_append, List.nil_append, List.any_cons, List.any_nil, Option.map_some, Option.map_none, Bool.or_false, Bool.false_or, Bool.or_true, Bool.true_or, Bool.and_true, Bool.true_and, Bool.and_false, Bool.false_and, Bool.not_true, Bool.not_false, am]
    rw [hn2]
    simp only [sAsg, sPar, sIf, sRet, sRetN, sExp, sSet, sAug, sAugS, sBrk, sCnt, sRaise, sNil, exE, fVar, fLit, fNeg, fIsN, fBin, fChain, fAnd, fOr, fNot, fIte, fNil, fCons, fTup, fLst, fFN, fMt, fIsi, fCall, fSl1, fRev, fNewL, fFC, fXv, fIt, fSeq, fin_v, fin_n, finE_v, finE_n, gAdd_i, gAdd_s, gSub_i, gEq_i, gEq_b, gNe_i, gNe_b, gLt_i, gLe_i, gGt_i, gGe_i, gInt_i, gInt_b, gInp_a, gInp_s, gLen_t, gTuple_t, gList_t, chk_t, asgT, asgL, tyD, Ev.isNon, gRange1_i, Ty.isa, List.getElem?_cons_zero, List.getElem?_cons_succ, List.set_cons_zero, List.set_cons_succ, List.map_cons, List.map_nil, List.cons_append, List.nil_append, List.any_cons, List.any_nil, Option.map_some, Option.map_none, Bool.or_false, Bool.false_or, Bool.or_true, Bool.true_or, Bool.and_true, Bool.true_and, Bool.and_false, Bool.false_and, Bool.not_true, Bool.not_false]
    refine zn _ _ ⟨rfl, some (.int d), ?_⟩
    rw [take_va e1]
    rfl
  · subst e
    subst eh
    rw [hn]
    simp only [sAsg, sPar, sIf, sRet, sRetN, sExp, sSet, sAug, sAugS, sBrk, sCnt, sRaise, sNil, exE, fVar, fLit, fNeg, fIsN, fBin, fChain, fAnd, fOr, fNot, fIte, fNil, fCons, fTup, fLst, fFN, fMt, fIsi, fCall, fSl1, fRev, fNewL, fFC, fXv, fIt, fSeq, fin_v, fin_n, finE_v, finE_n, gAdd_i, gAdd_s, gSub_i, gEq_i, gEq_b, gNe_i, gNe_b, gLt_i, gLe_i, gGt_i, gGe_i, gInt_i, gInt_b, gInp_a, gInp_s, gLen_t, gTuple_t, gList_t, chk_t, asgT, asgL, tyD, Ev.isNon, gRange1_i, Ty.isa, List.getElem?_cons_zero, List.getElem?_cons_succ, List.set_cons_zero, List.set_cons_succ, List.map_cons, List.map_nil, List.cons_append, List.nil_append, List.any_cons, List.any_nil, Option.map_some, Option.map_none, Bool.or_false, Bool.false_or, Bool.or_true, Bool.true_or, Bool.and_true, Bool.true_and, Bool.and_false, Bool.false_and, Bool.not_true, Bool.not_false]
    have : (I ds).length = ds.length := List.length_map ..
    rw [this, List.take_of_length_le (Nat.le_refl _)]
    exact hQ
/-! ### the law's greedy digits -/
theorem allS_int (h : VH) (n : Nat) (ds : List Int) : allSome (toPy h (n + 1)) (I ds) = some (ds.map PyData.int) := by
  induction ds with
  | nil => rfl
  | cons d ds ih =>
    have e : toPy h (n + 1) (.int d) = some (.int d) := rfl
    show allSome (toPy h (n + 1)) (D.int d :: I ds) = _
    simp only [allSome, e, ih]
    rfl
theorem ne_nil {h : VH} {a b : Nat} {ds : List Int} (e1 : lstAt h a = some (I ds)) (e2 : lstAt h b = some []) : gNe (.ref a) (.ref b) h = some (.val (.bl (!ds.isEmpty))) := by
  have p1 : toPy h 60 (.ref a) = some (.list (ds.map PyData.int)) := by
    show (match lstAt h a with | some ds => (match allSome (toPy h 59) ds with | some ps => some (PyData.list ps) | none => none) | none => none) = _
    rw [e1]
    show (match allSome (toPy h 59) (I ds) with | some ps => some (PyData.list ps) | none => none) = _
    rw [allS_int h 58 ds]
  have p2 : toPy h 60 (.ref b) = some (.list []) := by
    show (match lstAt h b with | some ds => (match allSome (toPy h 59) ds with | some ps => some (PyData.list ps) | none => none) | none => none) = _
    rw [e2]
    rfl
  have e : eqD (.ref a) (.ref b) h = some ds.isEmpty := by
    show (match toPy h 60 (.ref a), toPy h 60 (.ref b) with | some p, some q => some (PyData.eqv p q) | _, _ => none) = _
    rw [p1, p2]
    cases ds <;> rfl
  unfold gNe
  rw [e] <;> rfl
theorem atI_m1 {xs : List D} {u : D} : atI (xs ++ [u]) (-1) = some u := atI_last xs u
theorem atI_m2 {xs : List D} {u v : D} : atI (xs ++ [u, v]) (-2) = some u := by
  unfold atI ixN
  rw [if_neg (by omega), if_pos (by simp only [List.length_append, List.length_cons, List.length_nil]; omega)]
  have e : ((-2 : Int) + ((xs ++ [u, v]).length : Nat)).toNat = xs.length := by
    simp only [List.length_append, List.length_cons, List.length_nil]; omega
  show (xs ++ [u, v])[((-2 : Int) + ((xs ++ [u, v]).length : Nat)).toNat]? = some u
  rw [e, List.getElem?_append_right (Nat.le_refl _), Nat.sub_self] <;> rfl
theorem sz2 (k : Nat) : I (sz (k + 2)) = I (sz k) ++ [.int (fb k), .int (fb (k + 1))] := by rw [sz_succ, sz_succ]; simp
theorem sz1 (k : Nat) : I (sz (k + 1)) = I (sz k) ++ [.int (fb k)] := by rw [sz_succ]; simp
theorem rest_skip {n : Int} {m M : Nat} (hc : n < fb m) (hmM : m ≤ M) : ∀ i, i ≤ M - m → rest M n i = n
  | 0, _ => rfl
  | i + 1, hi => by
    have e := rest_skip hc hmM i (by omega)
    have : n < fb (M - 1 - i) := by have := fb_le (show m ≤ M - 1 - i by omega); omega
    show (if fb (M - 1 - i) ≤ rest M n i then _ else _) = n
    rw [e, if_neg (by omega)]
theorem rest_eq {n : Int} {m M : Nat} (hc : n < fb m) (hmM : m ≤ M) : ∀ j, j ≤ m → rest M n (M - m + j) = rest m n j
  | 0, _ => rest_skip hc hmM _ (Nat.le_refl _)
  | j + 1, hj => by
    have e := rest_eq hc hmM j (by omega)
    show (if fb (M - 1 - (M - m + j)) ≤ rest M n (M - m + j) then rest M n (M - m + j) - fb (M - 1 - (M - m + j)) else rest M n (M - m + j)) = (if fb (m - 1 - j) ≤ rest m n j then rest m n j - fb (m - 1 - j) else rest m n j)
    rw [e, show M - 1 - (M - m + j) = m - 1 - j by omega]
theorem gold_ok {n : Int} {m : Nat} {h : VH} {Q : PQ} {E : PX} (h0 : 0 ≤ n) (hc : Cnt n m) (hm : m ≤ 150) (hQ : ∀ g, Q (.tup (I (gr m n))) (h ++ g)) : sp__law_gold [.int n] h Q E := by
  refine fnSp_of rfl ?_
  show b__law_gold [some (.int n), none, none, none, none] h (fnD Q E)
  unfold b__law_gold
  have c2 : ∀ a b : D, decide ([a, b].length ≤ line) = true := fun a b => decide_eq_true (Nat.le_of_ble_eq_true rfl)
  have c0 : decide (([] : List D).length ≤ line) = true := by decide
  refine seq_ fun Z hn hr hb hc' hx => ?_
  simp only [sAsg, sPar, sIf, sRet, sRetN, sExp, sSet, sAug, sAugS, sBrk, sCnt, sRaise, sNil, exE, fVar, fLit, fNeg, fIsN, fBin, fChain, fAnd, fOr, fNot, fIte, fNil, fCons, fTup, fLst, fFN, fMt, fIsi, fCall, fSl1, fRev, fNewL, fFC, fXv, fIt, fSeq, fin_v, fin_n, finE_v, finE_n, gAdd_i, gAdd_s, gSub_i, gEq_i, gEq_b, gNe_i, gNe_b, gLt_i, gLe_i, gGt_i, gGe_i, gInt_i, gInt_b, gInp_a, gInp_s, gLen_t, gTuple_t, gList_t, chk_t, asgT, asgL, tyD, Ev.isNon, gRange1_i, Ty.isa, List.getElem?_cons_zero, List.getElem?_cons_succ, List.set_cons_zero, List.set_cons_succ, List.map_cons, List.map_nil, List.cons_append, List.nil_append, List.any_cons, List.any_nil, Option.map_some, Option.map_none, Bool.or_false, Bool.false_or, Bool.or_true, Bool.true_or, Bool.and_true, Bool.true_and, Bool.and_false, Bool.false_and, Bool.not_true, Bool.not_false, c2]
  rw [hn]
  refine seq_ fun Z1 hn1 hr1 hb1 hc1 hx1 => ?_
  simp only [sAsg, sPar, sIf, sRet, sRetN, sExp, sSet, sAug, sAugS, sBrk, sCnt, sRaise, sNil, exE, fVar, fLit, fNeg, fIsN, fBin, fChain, fAnd, fOr, fNot, fIte, fNil, fCons, fTup, fLst, fFN, fMt, fIsi, fCall, fSl1, fRev, fNewL, fFC, fXv, fIt, fSeq, fin_v, fin_n, finE_v, finE_n, gAdd_i, gAdd_s, gSub_i, gEq_i, gEq_b, gNe_i, gNe_b, gLt_i, gLe_i, gGt_i, gGe_i, gInt_i, gInt_b, gInp_a, gInp_s, gLen_t, gTuple_t, gList_t, chk_t, asgT, asgL, tyD, Ev.isNon, gRange1_i, Ty.isa, List.getElem?_cons_zero, List.getElem?_cons_succ, List.set_cons_zero, List.set_cons_succ, List.map_cons, List.map_nil, List.cons_append, List.nil_append, List.any_cons, List.any_nil, Option.map_some, Option.map_none, Bool.or_false, Bool.false_or, Bool.or_true, Bool.true_or, Bool.and_true, Bool.true_and, Bool.and_false, Bool.false_and, Bool.not_true, Bool.not_false, sFor, gRange1_i (show big62 160 = true by decide)]
  -- behind the first loop
  have next : ∀ M z, m ≤ M → M ≤ 1000 → Z1.nx [some (.int n), some (.ref h.length), z, none, none] (h ++ [.lst (I (sz M))]) := by
    intro M z hM hM2
    rw [hn1]
    refine seq_ fun Z hn hr hb hc' hx => ?_
    simp only [sAsg, sPar, sIf, sRet, sRetN, sExp, sSet, sAug, sAugS, sBrk, sCnt, sRaise, sNil, exE, fVar, fLit, fNeg, fIsN, fBin, fChain, fAnd, fOr, fNot, fIte, fNil, fCons, fTup, fLst, fFN, fMt, fIsi, fCall, fSl1, fRev, fNewL, fFC, fXv, fIt, fSeq, fin_v, fin_n, finE_v, finE_n, gAdd_i, gAdd_s, gSub_i, gEq_i, gEq_b, gNe_i, gNe_b, gLt_i, gLe_i, gGt_i, gGe_i, gInt_i, gInt_b, gInp_a, gInp_s, gLen_t, gTuple_t, gList_t, chk_t, asgT, asgL, tyD, Ev.isNon, gRange1_i, Ty.isa, List.getElem?_cons_zero, List.getElem?_cons_succ, List.set_cons_zero, List.set_cons_succ, List.map_cons, List.map_nil, List.cons_append, List.nil_append, List.any_cons, List.any_nil, Option.map_some, Option.map_none, Bool.or_false, Bool.false_or, Bool.or_true, Bool.true_or, Bool.and_true, Bool.true_and, Bool.and_false, Bool.false_and, Bool.not_true, Bool.not_false, c0]
    rw [hn]
    refine seq_ fun Z hn hr hb hc' hx => ?_
    have e1 : lstAt (h ++ [Ob.lst (I (sz M))] ++ [Ob.lst []]) h.length = some (I (sz M)) := lstAt_app lst_last
    simp only [sAsg, sPar, sIf, sRet, sRetN, sExp, sSet, sAug, sAugS, sBrk, sCnt, sRaise, sNil, exE, fVar, fLit, fNeg, fIsN, fBin, fChain, fAnd, fOr, fNot, fIte, fNil, fCons, fTup, fLst, fFN, fMt, fIsi, fCall, fSl1, fRev, fNewL, fFC, fXv, fIt, fSeq, fin_v, fin_n, finE_v, finE_n, gAdd_i, gAdd_s, gSub_i, gEq_i, gEq_b, gNe_i, gNe_b, gLt_i, gLe_i, gGt_i, gGe_i, gInt_i, gInt_b, gInp_a, gInp_s, gLen_t, gTuple_t, gList_t, chk_t, asgT, asgL, tyD, Ev.isNon, gRange1_i, Ty.isa, List.getElem?_cons_zero, List.getElem?_cons_succ, List.set_cons_zero, List.set_cons_succ, List.map_cons, List.map_nil, List.cons_append, List.nil_append, List.any_cons, List.any_nil, Option.map_some, Option.map_none, Bool.or_false, Bool.false_or, Bool.or_true, Bool.true_or, Bool.and_true, Bool.true_and, Bool.and_false, Bool.false_and, Bool.not_true, Bool.not_false, sFor, e1]
    have e2 : lstAt (h ++ [Ob.lst (I (sz M))] ++ [Ob.lst []] ++ [Ob.lst (I (sz M)).reverse]) (h ++ [Ob.lst (I (sz M))] ++ [Ob.lst []]).length = some (I (sz M)).reverse := lst_last
    simp only [sAsg, sPar, sIf, sRet, sRetN, sExp, sSet, sAug, sAugS, sBrk, sCnt, sRaise, sNil, exE, fVar, fLit, fNeg, fIsN, fBin, fChain, fAnd, fOr, fNot, fIte, fNil, fCons, fTup, fLst, fFN, fMt, fIsi, fCall, fSl1, fRev, fNewL, fFC, fXv, fIt, fSeq, fin_v, fin_n, finE_v, finE_n, gAdd_i, gAdd_s, gSub_i, gEq_i, gEq_b, gNe_i, gNe_b, gLt_i, gLe_i, gGt_i, gGe_i, gInt_i, gInt_b, gInp_a, gInp_s, gLen_t, gTuple_t, gList_t, chk_t, asgT, asgL, tyD, Ev.isNon, gRange1_i, Ty.isa, List.getElem?_cons_zero, List.getElem?_cons_succ, List.set_cons_zero, List.set_cons_succ, List.map_cons, List.map_nil, List.cons_append, List.nil_append, List.any_cons, List.any_nil, Option.map_some, Option.map_none, Bool.or_false, Bool.false_or, Bool.or_true, Bool.true_or, Bool.and_true, Bool.true_and, Bool.and_false, Bool.false_and, Bool.not_true, Bool.not_false, e2, Option.isSome_some]
    have hlen : (I (sz M)).reverse.length = M := by rw [List.length_reverse, List.length_map, sz_len]
    have glen := gr_len m n
    refine foL_ref (fun i env h' => ∃ zz g, env = [some (.int (rest M n i)), some (.ref h.length), z, some (.ref (h ++ [Ob.lst (I (sz M))]).length), zz] ∧ h' = (h ++ [Ob.lst (I (sz M))]) ++ Ob.lst (I ((gr m n).drop (M - i)).reverse) :: Ob.lst (I (sz M)).reverse :: g) (xs := (I (sz M)).reverse) (fun i env h' ⟨zz, g, _, e⟩ => ?_) (fun i x env h' ⟨zz, g, e, eh⟩ hx' => ?_) (fun env h' ⟨zz, g, e, eh⟩ => ?_) fuel 0 _ _ ⟨none, [], rfl, ?_⟩ (Nat.zero_le _) (by rw [hlen, fuel_eq]; omega)
    · subst e
      unfold lstAt
      rw [List.getElem?_append_right (by simp)]
      simp
    · obtain ⟨hi, rfl⟩ := sz_rev hx'
      subst e
      subst eh
      refine ⟨_, rfl, fun Z' zn _ _ _ _ => ?_⟩
      have ea : ∀ g', lstAt ((h ++ [Ob.lst (I (sz M))]) ++ Ob.lst (I ((gr m n).drop (M - i)).reverse) :: g') (h ++ [Ob.lst (I (sz M))]).length = some (I ((gr m n).drop (M - i)).reverse) := fun g' => lstAt_new
      have ap : ∀ d g', gAppend (.ref (h ++ [Ob.lst (I (sz M))]).length) [d] ((h ++ [Ob.lst (I (sz M))]) ++ Ob.lst (I ((gr m n).drop (M - i)).reverse) :: g') = _ := fun d g' => gAppend_l (d := d) (ea g') (by rw [List.length_map, List.length_reverse, List.length_drop, gr_len]; show _ < 16777216; omega)
      by_cases hskip : m ≤ M - 1 - i
      · -- above the digits
        have er : rest M n i = n := rest_skip hc.1 hM i (by omega)
        have hf : ¬ fb (M - 1 - i) ≤ rest M n i := by rw [er]; have := fb_le hskip; have := hc.1; omega
        have er2 : rest M n (i + 1) = rest M n i := if_neg hf
        have hd : decide (fb (M - 1 - i) ≤ rest M n i) = false := decide_eq_false hf
        have ed : (gr m n).drop (M - i) = [] := List.drop_of_length_le (by omega)
        have ed2 : (gr m n).drop (M - (i + 1)) = [] := List.drop_of_length_le (by omega)
        have e3 := ea (Ob.lst (I (sz M)).reverse :: (g ++ [Ob.lst []]))
        have nn := ne_nil (b := ((h ++ [Ob.lst (I (sz M))]) ++ Ob.lst (I ((gr m n).drop (M - i)).reverse) :: Ob.lst (I (sz M)).reverse :: g).length) (h := ((h ++ [Ob.lst (I (sz M))]) ++ Ob.lst (I ((gr m n).drop (M - i)).reverse) :: Ob.lst (I (sz M)).reverse :: g) ++ [Ob.lst []]) (lstAt_app (ea _)) lst_last
        have emp : ((gr m n).drop (M - i)).reverse.isEmpty = true := by rw [ed]; rfl
        rw [emp] at nn
        simp only [sAsg, sPar, sIf, sRet, sRetN, sExp, sSet, sAug, sAugS, sBrk, sCnt, sRaise, sNil, exE, fVar, fLit, fNeg, fIsN, fBin, fChain, fAnd, fOr, fNot, fIte, fNil, fCons, fTup, fLst, fFN, fMt, fIsi, fCall, fSl1, fRev, fNewL, fFC, fXv, fIt, fSeq, fin_v, fin_n, finE_v, finE_n, gAdd_i, gAdd_s, gSub_i, gEq_i, gEq_b, gNe_i, gNe_b, gLt_i, gLe_i, gGt_i, gGe_i, gInt_i, gInt_b, gInp_a, gInp_s, gLen_t, gTuple_t, gList_t, chk_t, asgT, asgL, tyD, Ev.isNon, gRange1_i, Ty.isa, List.getElem?_cons_zero, List.getElem?_cons_succ, List.set_cons_zero, List.set_cons_succ, List.map_cons, List.map_nil, List.cons_append, List.nil_append, List.any_cons, List.any_nil, Option.map_some, Option.map_none, Bool.or_false, Bool.false_or, Bool.or_true, Bool.true_or, Bool.and_true, Bool.true_and, Bool.and_false, Bool.false_and, Bool.not_true, Bool.not_false, hd, c0, nn]
        refine zn _ _ ⟨some (.int (fb (M - 1 - i))), g ++ [Ob.lst []], by rw [er2], ?_⟩
        rw [ed, ed2]
        simp
      · obtain ⟨j, rfl⟩ : ∃ j, i = M - m + j := ⟨i - (M - m), by omega⟩
        have hj : j < m := by omega
        have er := rest_eq hc.1 hM j (by omega)
        have er2 := rest_eq hc.1 hM (j + 1) (by omega)
        have ei : M - 1 - (M - m + j) = m - 1 - j := by omega
        have ei2 : M - (M - m + j) = m - j := by omega
        have ei3 : M - (M - m + j + 1) = m - (j + 1) := by omega
        have dg := gr_digit n hj
        rw [show M - m + j + 1 = M - m + (j + 1) by omega] at zn
        rw [show M - (M - m + (j + 1)) = m - (j + 1) by omega, er2] at zn
        rw [ei2] at ea ap
        rw [ei, ei2, er]
        by_cases hf : fb (m - 1 - j) ≤ rest m n j
        · have hd : decide (fb (m - 1 - j) ≤ rest m n j) = true := decide_eq_true hf
          simp only [sAsg, sPar, sIf, sRet, sRetN, sExp, sSet, sAug, sAugS, sBrk, sCnt, sRaise, sNil, exE, fVar, fLit, fNeg, fIsN, fBin, fChain, fAnd, fOr, fNot, fIte, fNil, fCons, fTup, fLst, fFN, fMt, fIsi, fCall, fSl1, fRev, fNewL, fFC, fXv, fIt, fSeq, fin_v, fin_n, finE_v, finE_n, gAdd_i, gAdd_s, gSub_i, gEq_i, gEq_b, gNe_i, gNe_b, gLt_i, gLe_i, gGt_i, gGe_i, gInt_i, gInt_b, gInp_a, gInp_s, gLen_t, gTuple_t, gList_t, chk_t, asgT, asgL, tyD, Ev.isNon, gRange1_i, Ty.isa, List.getElem?_cons_zero, List.getElem?_cons_succ, List.set_cons_zero, List.set_cons_succ, List.map_cons, List.map_nil, List.cons_append, List.nil_append, List.any_cons, List.any_nil, Option.map_some, Option.map_none, Bool.or_false, Bool.false_or, Bool.or_true, Bool.true_or, Bool.and_true, Bool.true_and, Bool.and_false, Bool.false_and, Bool.not_true, Bool.not_false, hd]
          refine seq_ fun Z2 hn2 hr2 hb2 hc2 hx2 => ?_
          simp only [sAsg, sPar, sIf, sRet, sRetN, sExp, sSet, sAug, sAugS, sBrk, sCnt, sRaise, sNil, exE, fVar, fLit, fNeg, fIsN, fBin, fChain, fAnd, fOr, fNot, fIte, fNil, fCons, fTup, fLst, fFN, fMt, fIsi, fCall, fSl1, fRev, fNewL, fFC, fXv, fIt, fSeq, fin_v, fin_n, finE_v, finE_n, gAdd_i, gAdd_s, gSub_i, gEq_i, gEq_b, gNe_i, gNe_b, gLt_i, gLe_i, gGt_i, gGe_i, gInt_i, gInt_b, gInp_a, gInp_s, gLen_t, gTuple_t, gList_t, chk_t, asgT, asgL, tyD, Ev.isNon, gRange1_i, Ty.isa, List.getElem?_cons_zero, List.getElem?_cons_succ, List.set_cons_zero, List.set_cons_succ, List.map_cons, List.map_nil, List.cons_append, List.nil_append, List.any_cons, List.any_nil, Option.map_some, Option.map_none, Bool.or_false, Bool.false_or, Bool.or_true, Bool.true_or, Bool.and_true, Bool.true_and, Bool.and_false, Bool.false_and, Bool.not_true, Bool.not_false]
          rw [hn2]
          simp only [sAsg, sPar, sIf, sRet, sRetN, sExp, sSet, sAug, sAugS, sBrk, sCnt, sRaise, sNil, exE, fVar, fLit, fNeg, fIsN, fBin, fChain, fAnd, fOr, fNot, fIte, fNil, fCons, fTup, fLst, fFN, fMt, fIsi, fCall, fSl1, fRev, fNewL, fFC, fXv, fIt, fSeq, fin_v, fin_n, finE_v, finE_n, gAdd_i, gAdd_s, gSub_i, gEq_i, gEq_b, gNe_i, gNe_b, gLt_i, gLe_i, gGt_i, gGe_i, gInt_i, gInt_b, gInp_a, gInp_s, gLen_t, gTuple_t, gList_t, chk_t, asgT, asgL, tyD, Ev.isNon, gRange1_i, Ty.isa, List.getElem?_cons_zero, List.getElem?_cons_succ, List.set_cons_zero, List.set_cons_succ, List.map_cons, List.map_nil, List.cons_append, List.nil_append, List.any_cons, List.any_nil, Option.map_some, Option.map_none, Bool.or_false, Bool.false_or, Bool.or_true, Bool.true_or, Bool.and_true, Bool.true_and, Bool.and_false, Bool.false_and, Bool.not_true, Bool.not_false, Mt.g, Mt.ty, decide_true, ap, finE_w]
          refine zn _ _ ⟨some (.int (fb (m - 1 - j))), g, ?_, ?_⟩
          · have : rest m n (j + 1) = rest m n j - fb (m - 1 - j) := if_pos hf
            rw [this]
          · rw [dg, if_pos hf]
            simp
        · have hd : decide (fb (m - 1 - j) ≤ rest m n j) = false := decide_eq_false hf
          have hj0 : j ≠ 0 := fun z0 => by
            subst z0
            exact hf (hc.2 (m - 1 - 0) (by omega))
          have nn := ne_nil (b := ((h ++ [Ob.lst (I (sz M))]) ++ Ob.lst (I ((gr m n).drop (m - j)).reverse) :: Ob.lst (I (sz M)).reverse :: g).length) (h := ((h ++ [Ob.lst (I (sz M))]) ++ Ob.lst (I ((gr m n).drop (m - j)).reverse) :: Ob.lst (I (sz M)).reverse :: g) ++ [Ob.lst []]) (lstAt_app (ea _)) lst_last
          have emp : ((gr m n).drop (m - j)).reverse.isEmpty = false := by
            cases e0 : ((gr m n).drop (m - j)).reverse with
            | nil =>
              have := congrArg List.length e0
              rw [List.length_reverse, List.length_drop, glen] at this
              simp at this
              omega
            | cons a b => rfl
          rw [emp] at nn
          have ap2 := fun d => ap d (Ob.lst (I (sz M)).reverse :: (g ++ [Ob.lst []]))
          have eh2 : ((h ++ [Ob.lst (I (sz M))]) ++ Ob.lst (I ((gr m n).drop (m - j)).reverse) :: Ob.lst (I (sz M)).reverse :: g) ++ [Ob.lst []] = (h ++ [Ob.lst (I (sz M))]) ++ Ob.lst (I ((gr m n).drop (m - j)).reverse) :: (Ob.lst (I (sz M)).reverse :: (g ++ [Ob.lst []])) := by simp
          simp only [sAsg, sPar, sIf, sRet, sRetN, sExp, sSet, sAug, sAugS, sBrk, sCnt, sRaise, sNil, exE, fVar, fLit, fNeg, fIsN, fBin, fChain, fAnd, fOr, fNot, fIte, fNil, fCons, fTup, fLst, fFN, fMt, fIsi, fCall, fSl1, fRev, fNewL, fFC, fXv, fIt, fSeq, fin_v, fin_n, finE_v, finE_n, gAdd_i, gAdd_s, gSub_i, gEq_i, gEq_b, gNe_i, gNe_b, gLt_i, gLe_i, gGt_i, gGe_i, gInt_i, gInt_b, gInp_a, gInp_s, gLen_t, gTuple_t, gList_t, chk_t, asgT, asgL, tyD, Ev.isNon, gRange1_i, Ty.isa, List.getElem?_cons_zero, List.getElem?_cons_succ, List.set_cons_zero, List.set_cons_succ, List.map_cons, List.map_nil, List.cons_append, List.nil_append, List.any_cons, List.any_nil, Option.map_some, Option.map_none, Bool.or_false, Bool.false_or, Bool.or_true, Bool.true_or, Bool.and_true, Bool.true_and, Bool.and_false, Bool.false_and, Bool.not_true, Bool.not_false, hd, c0, nn]
          rw [eh2]
          simp only [sAsg, sPar, sIf, sRet, sRetN, sExp, sSet, sAug, sAugS, sBrk, sCnt, sRaise, sNil, exE, fVar, fLit, fNeg, fIsN, fBin, fChain, fAnd, fOr, fNot, fIte, fNil, fCons, fTup, fLst, fFN, fMt, fIsi, fCall, fSl1, fRev, fNewL, fFC, fXv, fIt, fSeq, fin_v, fin_n, finE_v, finE_n, gAdd_i, gAdd_s, gSub_i, gEq_i, gEq_b, gNe_i, gNe_b, gLt_i, gLe_i, gGt_i, gGe_i, gInt_i, gInt_b, gInp_a, gInp_s, gLen_t, gTuple_t, gList_t, chk_t, asgT, asgL, tyD, Ev.isNon, gRange1_i, Ty.isa, List.getElem?_cons_zero, List.getElem?_cons_succ, List.set_cons_zero, List.set_cons_succ, List.map_cons, List.map_nil, List.cons_append, List.nil_append, List.any_cons, List.any_nil, Option.map_some, Option.map_none, Bool.or_false, Bool.false_or, Bool.or_true, Bool.true_or, Bool.and_true, Bool.true_and, Bool.and_false, Bool.false_and, Bool.not_true, Bool.not_false, Mt.g, Mt.ty, decide_true, ap2, finE_w]
          refine zn _ _ ⟨some (.int (fb (m - 1 - j))), g ++ [Ob.lst []], ?_, ?_⟩
          · have : rest m n (j + 1) = rest m n j := if_neg hf
            rw [this]
          · rw [dg, if_neg hf]
            simp
    · rw [hlen] at eh e
      subst e
      subst eh
      rw [hn]
      have e3 : lstAt ((h ++ [Ob.lst (I (sz M))]) ++ Ob.lst (I ((gr m n).drop (M - M)).reverse) :: Ob.lst (I (sz M)).reverse :: g) (h ++ [Ob.lst (I (sz M))]).length = some (I ((gr m n).drop (M - M)).reverse) := lstAt_new
      simp only [sAsg, sPar, sIf, sRet, sRetN, sExp, sSet, sAug, sAugS, sBrk, sCnt, sRaise, sNil, exE, fVar, fLit, fNeg, fIsN, fBin, fChain, fAnd, fOr, fNot, fIte, fNil, fCons, fTup, fLst, fFN, fMt, fIsi, fCall, fSl1, fRev, fNewL, fFC, fXv, fIt, fSeq, fin_v, fin_n, finE_v, finE_n, gAdd_i, gAdd_s, gSub_i, gEq_i, gEq_b, gNe_i, gNe_b, gLt_i, gLe_i, gGt_i, gGe_i, gInt_i, gInt_b, gInp_a, gInp_s, gLen_t, gTuple_t, gList_t, chk_t, asgT, asgL, tyD, Ev.isNon, gRange1_i, Ty.isa, List.getElem?_cons_zero, List.getElem?_cons_succ, List.set_cons_zero, List.set_cons_succ, List.map_cons, List.map_nil, List.cons_append, List.nil_append, List.any_cons, List.any_nil, Option.map_some, Option.map_none, Bool.or_false, Bool.false_or, Bool.or_true, Bool.true_or, Bool.and_true, Bool.true_and, Bool.and_false, Bool.false_and, Bool.not_true, Bool.not_false, e3]
      have e4 : lstAt (((h ++ [Ob.lst (I (sz M))]) ++ Ob.lst (I ((gr m n).drop (M - M)).reverse) :: Ob.lst (I (sz M)).reverse :: g) ++ [Ob.lst (I ((gr m n).drop (M - M)).reverse).reverse]) ((h ++ [Ob.lst (I (sz M))]) ++ Ob.lst (I ((gr m n).drop (M - M)).reverse) :: Ob.lst (I (sz M)).reverse :: g).length = some (I ((gr m n).drop (M - M)).reverse).reverse := lst_last
      simp only [gTuple_l e4, sAsg, sPar, sIf, sRet, sRetN, sExp, sSet, sAug, sAugS, sBrk, sCnt, sRaise, sNil, exE, fVar, fLit, fNeg, fIsN, fBin, fChain, fAnd, fOr, fNot, fIte, fNil, fCons, fTup, fLst, fFN, fMt, fIsi, fCall, fSl1, fRev, fNewL, fFC, fXv, fIt, fSeq, fin_v, fin_n, finE_v, finE_n, gAdd_i, gAdd_s, gSub_i, gEq_i, gEq_b, gNe_i, gNe_b, gLt_i, gLe_i, gGt_i, gGe_i, gInt_i, gInt_b, gInp_a, gInp_s, gLen_t, gTuple_t, gList_t, chk_t, asgT, asgL, tyD, Ev.isNon, gRange1_i, Ty.isa, List.getElem?_cons_zero, List.getElem?_cons_succ, List.set_cons_zero, List.set_cons_succ, List.map_cons, List.map_nil, List.cons_append, List.nil_append, List.any_cons, List.any_nil, Option.map_some, Option.map_none, Bool.or_false, Bool.false_or, Bool.or_true, Bool.true_or, Bool.and_true, Bool.true_and, Bool.and_false, Bool.false_and, Bool.not_true, Bool.not_false]
      have e5 : (I ((gr m n).drop (M - M)).reverse).reverse = I (gr m n) := by
        rw [Nat.sub_self, List.drop_zero]
        unfold I
        rw [← List.map_reverse, List.reverse_reverse]
      rw [e5, List.append_assoc, List.append_assoc]
      exact hQ _
    · simp only [Nat.sub_zero]
      rw [List.drop_of_length_le (by omega)]
      simp
  -- the first loop
  refine foL_rng (fun i env h' => ∃ z, env = [some (.int n), some (.ref h.length), z, none, none] ∧ h' = h ++ [.lst (I (sz (i + 2)))]) (fun i env h' ⟨z, e, eh⟩ hi => ?_) (fun env h' ⟨z, e, eh⟩ => ?_) fuel 0 _ _ ⟨none, rfl, rfl⟩ (by omega) (by rw [fuel_eq]; decide)
  · subst e
    subst eh
    refine ⟨_, rfl, fun Z' zn _ _ zb _ => ?_⟩
    refine seq_ fun Z2 hn2 hr2 hb2 hc2 hx2 => ?_
    have el : lstAt (h ++ [Ob.lst (I (sz (i + 2)))]) h.length = some (I (sz (i + 2))) := lst_last
    have a1 : gIx (.ref h.length) (.int (-1)) (h ++ [Ob.lst (I (sz (i + 2)))]) = some (.val (.int (fb (i + 1)))) := gIx_l el (by rw [sz1]; exact atI_m1)
    have a2 : gIx (.ref h.length) (.int (-2)) (h ++ [Ob.lst (I (sz (i + 2)))]) = some (.val (.int (fb i))) := gIx_l el (by rw [sz2]; exact atI_m2)
    have ap := gAppend_l (d := .int (fb (i + 1) + fb i)) el (by rw [List.length_map, sz_len]; show i + 2 < 16777216; have : i < 160 := hi; omega)
    by_cases hb1 : n < fb (i + 1)
    · have hd : decide (n < fb (i + 1)) = true := decide_eq_true hb1
      simp only [sAsg, sPar, sIf, sRet, sRetN, sExp, sSet, sAug, sAugS, sBrk, sCnt, sRaise, sNil, exE, fVar, fLit, fNeg, fIsN, fBin, fChain, fAnd, fOr, fNot, fIte, fNil, fCons, fTup, fLst, fFN, fMt, fIsi, fCall, fSl1, fRev, fNewL, fFC, fXv, fIt, fSeq, fin_v, fin_n, finE_v, finE_n, gAdd_i, gAdd_s, gSub_i, gEq_i, gEq_b, gNe_i, gNe_b, gLt_i, gLe_i, gGt_i, gGe_i, gInt_i, gInt_b, gInp_a, gInp_s, gLen_t, gTuple_t, gList_t, chk_t, asgT, asgL, tyD, Ev.isNon, gRange1_i, Ty.isa, List.getElem?_cons_zero, List.getElem?_cons_succ, List.set_cons_zero, List.set_cons_succ, List.map_cons, List.map_nil, List.cons_append, List.nil_append, List.any_cons, List.any_nil, Option.map_some, Option.map_none, Bool.or_false, Bool.false_or, Bool.or_true, Bool.true_or, Bool.and_true, Bool.true_and, Bool.and_false, Bool.false_and, Bool.not_true, Bool.not_false, a1, hd]
      rw [hb2, zb]
      refine next _ _ ?_ (by have : i < 160 := hi; omega)
      rcases Nat.lt_or_ge (i + 2) m with hlt | hge
      · have := hc.2 (m - 1) (by omega)
        have := fb_le (show i + 1 ≤ m - 1 by omega)
        omega
      · exact hge
    · have hd : decide (n < fb (i + 1)) = false := decide_eq_false hb1
      simp only [sAsg, sPar, sIf, sRet, sRetN, sExp, sSet, sAug, sAugS, sBrk, sCnt, sRaise, sNil, exE, fVar, fLit, fNeg, fIsN, fBin, fChain, fAnd, fOr, fNot, fIte, fNil, fCons, fTup, fLst, fFN, fMt, fIsi, fCall, fSl1, fRev, fNewL, fFC, fXv, fIt, fSeq, fin_v, fin_n, finE_v, finE_n, gAdd_i, gAdd_s, gSub_i, gEq_i, gEq_b, gNe_i, gNe_b, gLt_i, gLe_i, gGt_i, gGe_i, gInt_i, gInt_b, gInp_a, gInp_s, gLen_t, gTuple_t, gList_t, chk_t, asgT, asgL, tyD, Ev.isNon, gRange1_i, Ty.isa, List.getElem?_cons_zero, List.getElem?_cons_succ, List.set_cons_zero, List.set_cons_succ, List.map_cons, List.map_nil, List.cons_append, List.nil_append, List.any_cons, List.any_nil, Option.map_some, Option.map_none, Bool.or_false, Bool.false_or, Bool.or_true, Bool.true_or, Bool.and_true, Bool.true_and, Bool.and_false, Bool.false_and, Bool.not_true, Bool.not_false, a1, hd]
      rw [hn2]
      simp only [sAsg, sPar, sIf, sRet, sRetN, sExp, sSet, sAug, sAugS, sBrk, sCnt, sRaise, sNil, exE, fVar, fLit, fNeg, fIsN, fBin, fChain, fAnd, fOr, fNot, fIte, fNil, fCons, fTup, fLst, fFN, fMt, fIsi, fCall, fSl1, fRev, fNewL, fFC, fXv, fIt, fSeq, fin_v, fin_n, finE_v, finE_n, gAdd_i, gAdd_s, gSub_i, gEq_i, gEq_b, gNe_i, gNe_b, gLt_i, gLe_i, gGt_i, gGe_i, gInt_i, gInt_b, gInp_a, gInp_s, gLen_t, gTuple_t, gList_t, chk_t, asgT, asgL, tyD, Ev.isNon, gRange1_i, Ty.isa, List.getElem?_cons_zero, List.getElem?_cons_succ, List.set_cons_zero, List.set_cons_succ, List.map_cons, List.map_nil, List.cons_append, List.nil_append, List.any_cons, List.any_nil, Option.map_some, Option.map_none, Bool.or_false, Bool.false_or, Bool.or_true, Bool.true_or, Bool.and_true, Bool.true_and, Bool.and_false, Bool.false_and, Bool.not_true, Bool.not_false, a1, a2, Mt.g, Mt.ty, decide_true, ap, finE_w, set_last]
      refine zn _ _ ⟨_, rfl, ?_⟩
      rw [show i + 1 + 2 = (i + 2) + 1 by omega, sz1 (i + 2), fb_ss, Int.add_comm]
  · subst e
    subst eh
    exact next _ _ (by have : (160 : Int).toNat = 160 := rfl; omega) (by have : (160 : Int).toNat = 160 := rfl; omega)
end K78

set_option Elab.async false
set_option linter.all false
set_option maxRecDepth 100000
set_option maxHeartbeats 0
/-! K78d: the refusals. -/
namespace K78
open PySem PySem.Spec PyProof.Rows L2 NdefX Ev
theorem trD_yes {Z : ED} {sub : SubF} {i : Nat} {su : FS} {c : Str} {d : D} {env : Ev.Env} {h : VH} (e : sub c = some true) (q : su (env.set i (some (.exn c d))) h (suD Z i)) : (trD Z sub i su).ex c d env h := by
  show (match sub c with | some true => su (env.set i (some (.exn c d))) h (suD Z i) | some false => Z.ex c d env h | none => False)
  rw [e]
  exact q
theorem refused_ok {odd wrong : D} {h : VH} {Q : PQ} {E : PX} {t : Ev.Ty} (ht : tyD odd h = some t) (hd : (∃ n : Int, odd = .int n ∧ n < 0) ∨ (t.isa .int && !t.isa .bl) = false)
    (ht' : ∀ g, tyD odd (h ++ g) = some t) (hw : ∀ (g : VH) {Q : PQ} {E : PX}, Q (.bl false) (h ++ g) → sp_is_digits [wrong] (h ++ g) Q E)
    (hQ : Q (.ref h.length) (h ++ [.lst [.ref (h.length + 1), .ref (h.length + 2)], .lst [odd], .lst [wrong]])) : sp__law_refused [odd, wrong] h Q E := by
  refine fnSp_of rfl ?_
  show b__law_refused [some odd, some wrong, none, none] h (fnD Q E)
  have h1 : ∀ (g : VH) {Q : PQ} {E : PX}, E "InvalidInteger" odd (h ++ g) → sp_golden_digits [odd] (h ++ g) Q E := fun g _ _ q => golden_no (ht' g) hd q
  have h2 : ∀ (g : VH) {Q : PQ} {E : PX}, E "InvalidRows" wrong (h ++ g) → sp_golden_number [wrong] (h ++ g) Q E := fun g _ _ q => number_no (fun q => hw g q) q
  unfold b__law_refused
  generalize sp_golden_digits = s1 at h1
  generalize sp_golden_number = s2 at h2
  have c1 : ∀ a : D, decide ([a].length ≤ line) = true := fun a => decide_eq_true (Nat.le_of_ble_eq_true rfl)
  have c2 : ∀ a b : D, decide ([a, b].length ≤ line) = true := fun a b => decide_eq_true (Nat.le_of_ble_eq_true rfl)
  have x1 : xcs.contains ("InvalidInteger" : Str) = true := by decide
  have x2 : xcs.contains ("InvalidRows" : Str) = true := by decide
  have y1 : sub_InvalidInteger "InvalidInteger" = some true := by decide
  have y2 : sub_InvalidRows "InvalidRows" = some true := by decide
  refine seq_ fun Z hn hr hb hc' hx => ?_
  simp only [sAsg, sPar, sIf, sRet, sRetN, sExp, sSet, sAug, sAugS, sBrk, sCnt, sRaise, sNil, exE, fVar, fLit, fNeg, fIsN, fBin, fChain, fAnd, fOr, fNot, fIte, fNil, fCons, fTup, fLst, fFN, fMt, fIsi, fCall, fSl1, fRev, fNewL, fFC, fXv, fIt, fSeq, fin_v, fin_n, finE_v, finE_n, gAdd_i, gAdd_s, gSub_i, gEq_i, gEq_b, gNe_i, gNe_b, gLt_i, gLe_i, gGt_i, gGe_i, gInt_i, gInt_b, gInp_a, gInp_s, gLen_t, gTuple_t, gList_t, chk_t, asgT, asgL, tyD, Ev.isNon, gRange1_i, Ty.isa, List.getElem?_cons_zero, List.getElem?_cons_succ, List.set_cons_zero, List.set_cons_succ, List.map_cons, List.map_nil, List.cons_append, List.nil_append, List.any_cons, List.any_nil, Option.map_some, Option.map_none, Bool.or_false, Bool.false_or, Bool.or_true, Bool.true_or, Bool.and_true, Bool.true_and, Bool.and_false, Bool.false_and, Bool.not_true, Bool.not_false, c2]
  rw [hn]
  refine seq_ fun Z hn hr hb hc' hx => ?_
  simp only [sAsg, sPar, sIf, sRet, sRetN, sExp, sSet, sAug, sAugS, sBrk, sCnt, sRaise, sNil, exE, fVar, fLit, fNeg, fIsN, fBin, fChain, fAnd, fOr, fNot, fIte, fNil, fCons, fTup, fLst, fFN, fMt, fIsi, fCall, fSl1, fRev, fNewL, fFC, fXv, fIt, fSeq, fin_v, fin_n, finE_v, finE_n, gAdd_i, gAdd_s, gSub_i, gEq_i, gEq_b, gNe_i, gNe_b, gLt_i, gLe_i, gGt_i, gGe_i, gInt_i, gInt_b, gInp_a, gInp_s, gLen_t, gTuple_t, gList_t, chk_t, asgT, asgL, tyD, Ev.isNon, gRange1_i, Ty.isa, List.getElem?_cons_zero, List.getElem?_cons_succ, List.set_cons_zero, List.set_cons_succ, List.map_cons, List.map_nil, List.cons_append, List.nil_append, List.any_cons, List.any_nil, Option.map_some, Option.map_none, Bool.or_false, Bool.false_or, Bool.or_true, Bool.true_or, Bool.and_true, Bool.true_and, Bool.and_false, Bool.false_and, Bool.not_true, Bool.not_false, sTry]
  refine h1 _ ?_
  refine trD_yes y1 ?_
  have l1 : lstAt (h ++ [Ob.lst [.non, .non]] ++ [Ob.lst [odd]]) h.length = some [.non, .non] := lstAt_app lst_last
  have g1 : gSet (.ref h.length) (.int 0) (.ref (h ++ [Ob.lst [.non, .non]]).length) (h ++ [Ob.lst [.non, .non]] ++ [Ob.lst [odd]]) = some (h ++ [Ob.lst [.ref (h.length + 1), .non], Ob.lst [odd]]) := by
    rw [gSet_l (i := 0) (n := 0) l1 ixN_0]
    simp
  simp only [sAsg, sPar, sIf, sRet, sRetN, sExp, sSet, sAug, sAugS, sBrk, sCnt, sRaise, sNil, exE, fVar, fLit, fNeg, fIsN, fBin, fChain, fAnd, fOr, fNot, fIte, fNil, fCons, fTup, fLst, fFN, fMt, fIsi, fCall, fSl1, fRev, fNewL, fFC, fXv, fIt, fSeq, fin_v, fin_n, finE_v, finE_n, gAdd_i, gAdd_s, gSub_i, gEq_i, gEq_b, gNe_i, gNe_b, gLt_i, gLe_i, gGt_i, gGe_i, gInt_i, gInt_b, gInp_a, gInp_s, gLen_t, gTuple_t, gList_t, chk_t, asgT, asgL, tyD, Ev.isNon, gRange1_i, Ty.isa, List.getElem?_cons_zero, List.getElem?_cons_succ, List.set_cons_zero, List.set_cons_succ, List.map_cons, List.map_nil, List.cons_append, List.nil_append, List.any_cons, List.any_nil, Option.map_some, Option.map_none, Bool.or_false, Bool.false_or, Bool.or_true, Bool.true_or, Bool.and_true, Bool.true_and, Bool.and_false, Bool.false_and, Bool.not_true, Bool.not_false, x1, c1, g1, suD]
  rw [hn]
  refine seq_ fun Z hn hr hb hc' hx => ?_
  simp only [sAsg, sPar, sIf, sRet, sRetN, sExp, sSet, sAug, sAugS, sBrk, sCnt, sRaise, sNil, exE, fVar, fLit, fNeg, fIsN, fBin, fChain, fAnd, fOr, fNot, fIte, fNil, fCons, fTup, fLst, fFN, fMt, fIsi, fCall, fSl1, fRev, fNewL, fFC, fXv, fIt, fSeq, fin_v, fin_n, finE_v, finE_n, gAdd_i, gAdd_s, gSub_i, gEq_i, gEq_b, gNe_i, gNe_b, gLt_i, gLe_i, gGt_i, gGe_i, gInt_i, gInt_b, gInp_a, gInp_s, gLen_t, gTuple_t, gList_t, chk_t, asgT, asgL, tyD, Ev.isNon, gRange1_i, Ty.isa, List.getElem?_cons_zero, List.getElem?_cons_succ, List.set_cons_zero, List.set_cons_succ, List.map_cons, List.map_nil, List.cons_append, List.nil_append, List.any_cons, List.any_nil, Option.map_some, Option.map_none, Bool.or_false, Bool.false_or, Bool.or_true, Bool.true_or, Bool.and_true, Bool.true_and, Bool.and_false, Bool.false_and, Bool.not_true, Bool.not_false, sTry]
  refine h2 _ ?_
  refine trD_yes y2 ?_
  have l2 : lstAt (h ++ [Ob.lst [.ref (h.length + 1), .non], Ob.lst [odd]] ++ [Ob.lst [wrong]]) h.length = some [.ref (h.length + 1), .non] := by
    rw [List.append_assoc]; exact lstAt_new
  have g2 : gSet (.ref h.length) (.int 1) (.ref (h ++ [Ob.lst [.ref (h.length + 1), .non], Ob.lst [odd]]).length) (h ++ [Ob.lst [.ref (h.length + 1), .non], Ob.lst [odd]] ++ [Ob.lst [wrong]]) = some (h ++ [Ob.lst [.ref (h.length + 1), .ref (h.length + 2)], Ob.lst [odd], Ob.lst [wrong]]) := by
    rw [gSet_l (i := 1) (n := 1) l2 ixN_1]
    simp
  simp only [sAsg, sPar, sIf, sRet, sRetN, sExp, sSet, sAug, sAugS, sBrk, sCnt, sRaise, sNil, exE, fVar, fLit, fNeg, fIsN, fBin, fChain, fAnd, fOr, fNot, fIte, fNil, fCons, fTup, fLst, fFN, fMt, fIsi, fCall, fSl1, fRev, fNewL, fFC, fXv, fIt, fSeq, fin_v, fin_n, finE_v, finE_n, gAdd_i, gAdd_s, gSub_i, gEq_i, gEq_b, gNe_i, gNe_b, gLt_i, gLe_i, gGt_i, gGe_i, gInt_i, gInt_b, gInp_a, gInp_s, gLen_t, gTuple_t, gList_t, chk_t, asgT, asgL, tyD, Ev.isNon, gRange1_i, Ty.isa, List.getElem?_cons_zero, List.getElem?_cons_succ, List.set_cons_zero, List.set_cons_succ, List.map_cons, List.map_nil, List.cons_append, List.nil_append, List.any_cons, List.any_nil, Option.map_some, Option.map_none, Bool.or_false, Bool.false_or, Bool.or_true, Bool.true_or, Bool.and_true, Bool.true_and, Bool.and_false, Bool.false_and, Bool.not_true, Bool.not_false, x2, c1, g2, suD]
  rw [hn]
  simp only [sAsg, sPar, sIf, sRet, sRetN, sExp, sSet, sAug, sAugS, sBrk, sCnt, sRaise, sNil, exE, fVar, fLit, fNeg, fIsN, fBin, fChain, fAnd, fOr, fNot, fIte, fNil, fCons, fTup, fLst, fFN, fMt, fIsi, fCall, fSl1, fRev, fNewL, fFC, fXv, fIt, fSeq, fin_v, fin_n, finE_v, finE_n, gAdd_i, gAdd_s, gSub_i, gEq_i, gEq_b, gNe_i, gNe_b, gLt_i, gLe_i, gGt_i, gGe_i, gInt_i, gInt_b, gInp_a, gInp_s, gLen_t, gTuple_t, gList_t, chk_t, asgT, asgL, tyD, Ev.isNon, gRange1_i, Ty.isa, List.getElem?_cons_zero, List.getElem?_cons_succ, List.set_cons_zero, List.set_cons_succ, List.map_cons, List.map_nil, List.cons_append, List.nil_append, List.any_cons, List.any_nil, Option.map_some, Option.map_none, Bool.or_false, Bool.false_or, Bool.or_true, Bool.true_or, Bool.and_true, Bool.true_and, Bool.and_false, Bool.false_and, Bool.not_true, Bool.not_false]
  exact hQ
end K78

set_option Elab.async false
set_option linter.all false
set_option maxRecDepth 100000
set_option maxHeartbeats 0
/-! K78e: small things for the law's turn. -/
namespace K78
open PySem PySem.Spec PyProof.Rows L2 NdefX Ev
theorem pot_app {h g : VH} {k c : Nat} (p : PotAt h k c) : PotAt (h ++ g) k c := by
  obtain ⟨i, j, k', p', cells, e, C, hl⟩ := p
  exact ⟨i, j, k', p', cells, lstAt_app e, C, hl⟩
theorem pot_up {h : VH} {k c d : Nat} (p : PotAt h k c) (hc : c ≤ d) : PotAt h k d := by
  obtain ⟨i, j, k', p', cells, e, C, hl⟩ := p
  exact ⟨i, j, k', p', cells, e, ⟨C.i0, C.j0, C.j1, C.k0, by have := C.k1; omega, C.p0⟩, hl⟩
theorem pot_lt {h : VH} {k c : Nat} (p : PotAt h k c) : k < h.length := by
  obtain ⟨i, j, k', p', cells, e, C, hl⟩ := p
  exact lstAt_len e
theorem fb_32 : ∀ n : Nat, 3 * fb n ≤ 2 * fb (n + 1)
  | 0 => by decide
  | 1 => by decide
  | n + 2 => by
    have a := fb_32 n
    have b := fb_32 (n + 1)
    have e1 := fb_ss n
    have e2 := fb_ss (n + 1)
    rw [show n + 1 + 2 = n + 2 + 1 by omega, show n + 1 + 1 = n + 2 by omega] at e2
    rw [show n + 1 + 1 = n + 2 by omega] at b
    omega
theorem fb_five (n : Nat) : 10 * fb n ≤ fb (n + 5) := by
  have e1 := fb_ss n
  have e2 := fb_ss (n + 1)
  have e3 := fb_ss (n + 2)
  have e4 := fb_ss (n + 3)
  have e5 := fb_lt n
  have e6 := fb_pos n
  have e7 := fb_32 n
  rw [show n + 1 + 2 = n + 3 by omega, show n + 1 + 1 = n + 2 by omega] at e2
  rw [show n + 2 + 2 = n + 4 by omega, show n + 2 + 1 = n + 3 by omega] at e3
  rw [show n + 3 + 2 = n + 5 by omega, show n + 3 + 1 = n + 4 by omega] at e4
  omega
theorem fb_big : ∀ k : Nat, (10 : Int) ^ k ≤ fb (5 * k)
  | 0 => by decide
  | k + 1 => by
    have := fb_big k
    have h5 := fb_five (5 * k)
    rw [show 5 * (k + 1) = 5 * k + 5 by omega, Int.pow_succ]
    omega
theorem cnt_ex {n : Int} (h0 : 0 ≤ n) : ∀ M, n < fb M → ∃ m, m ≤ M ∧ Cnt n m
  | 0, h => ⟨0, Nat.le_refl _, h, fun k hk => by omega⟩
  | M + 1, h => by
    by_cases h1 : n < fb M
    · obtain ⟨m, a, b⟩ := cnt_ex h0 M h1
      exact ⟨m, by omega, b⟩
    · exact ⟨M + 1, Nat.le_refl _, h, fun k hk => by
        have : k = M := by omega
        subst this; omega⟩
theorem cnt_ex30 {n : Int} (h0 : 0 ≤ n) (h1 : n ≤ (10 : Int) ^ 30) : ∃ m, m ≤ 151 ∧ Cnt n m := cnt_ex h0 151 (by
  have := fb_big 30
  have := fb_lt 150
  rw [show 5 * 30 = 150 by rfl] at *
  rw [show 150 + 1 = 151 by rfl] at *
  omega)
theorem Okd.pre {es : List Int} : ∀ {k : Nat} {b : Bool}, Okd b (es ++ List.replicate k 0) → Okd false es
  | 0, b, h => by
    have h : Okd b (es ++ []) := h
    rw [List.append_nil] at h
    exact h.weak
  | k + 1, b, h => by
    rw [List.replicate_succ', ← List.append_assoc] at h
    generalize hz : es ++ List.replicate k 0 ++ [0] = zs at h
    cases h with
    | nil => simp at hz
    | zero h =>
      have := List.append_inj_left' hz rfl
      subst this
      exact Okd.pre h
    | one h =>
      have := List.append_inj_right' hz rfl
      simp at this
theorem va_strip (es : List Int) (k : Nat) : va 0 (es ++ List.replicate k 0) = va 0 es := by
  rw [va_app, va_zeros]; omega
/-! ### the order of pairs -/
def lexI : List Int → List Int → Bool
  | [], _ => true
  | _ :: _, [] => false
  | x :: xs, y :: ys => if x = y then lexI xs ys else decide (x ≤ y)
theorem lexB_I (h : VH) (k : Nat) : ∀ xs ys : List Int, lexB (leD h (k + 1)) (toPy h 50) (I xs) (I ys) = some (lexI xs ys)
  | [], _ => rfl
  | _ :: _, [] => rfl
  | x :: xs, y :: ys => by
    have e := lexB_I h k xs ys
    have p : ∀ z : Int, toPy h 50 (.int z) = some (.int z) := fun z => rfl
    have l : leD h (k + 1) (.int x) (.int y) = some (decide (x ≤ y)) := rfl
    show lexB (leD h (k + 1)) (toPy h 50) (D.int x :: I xs) (D.int y :: I ys) = _
    simp only [lexB, e, p, l, lexI]
    have q : PyData.eqv (.int x) (.int y) = decide (x = y) := by
      show (x == y) = decide (x = y)
      exact Bool.beq_eq_decide_eq x y
    rw [q]
    by_cases hxy : x = y
    · simp [hxy]
    · simp [hxy]
theorem toPy_I (h : VH) (ds : List Int) : toPy h 50 (.tup (I ds)) = some (.tuple (ds.map PyData.int)) := by
  show (match allSome (toPy h 49) (I ds) with | some ps => some (PyData.tuple ps) | none => none) = _
  rw [allS_int h 48 ds]
theorem eqv_I : ∀ xs ys : List Int, PyData.eqvAll (xs.map PyData.int) (ys.map PyData.int) = decide (xs = ys)
  | [], [] => rfl
  | [], _ :: _ => rfl
  | _ :: _, [] => rfl
  | x :: xs, y :: ys => by
    have q : PyData.eqv (.int x) (.int y) = decide (x = y) := by
      show (x == y) = decide (x = y)
      exact Bool.beq_eq_decide_eq x y
    show (PyData.eqv (.int x) (.int y) && PyData.eqvAll (xs.map PyData.int) (ys.map PyData.int)) = _
    rw [q, eqv_I xs ys]
    by_cases h1 : x = y <;> by_cases h2 : xs = ys <;> simp [h1, h2]
theorem gLe_pair {h : VH} {a b : Int} {xs ys : List Int} : gLe (.tup [.int a, .tup (I xs)]) (.tup [.int b, .tup (I ys)]) h = some (.val (.bl (if a = b then (if xs = ys then true else lexI xs ys) else decide (a ≤ b)))) := by
  have p : ∀ z : Int, toPy h 50 (.int z) = some (.int z) := fun z => rfl
  have l : leD h 7 (.int a) (.int b) = some (decide (a ≤ b)) := rfl
  have l2 : leD h 7 (.tup (I xs)) (.tup (I ys)) = some (lexI xs ys) := lexB_I h 5 xs ys
  have q : ∀ a b : Int, PyData.eqv (.int a) (.int b) = decide (a = b) := fun a b => by
    show (a == b) = decide (a = b)
    exact Bool.beq_eq_decide_eq a b
  have q2 : PyData.eqv (.tuple (xs.map PyData.int)) (.tuple (ys.map PyData.int)) = decide (xs = ys) := eqv_I xs ys
  show Ev.resB (lexB (leD h 7) (toPy h 50) [.int a, .tup (I xs)] [.int b, .tup (I ys)]) = _
  simp only [lexB, toPy_I, p, l, l2, q, q2]
  by_cases h1 : a = b
  · by_cases h2 : xs = ys
    · simp [h1, h2, q]; rfl
    · simp [h1, h2, q]; rfl
  · by_cases h2 : xs = ys
    · simp [h1, h2, q]; rfl
    · simp [h1, h2, q]; rfl
theorem lexI_le : ∀ {xs ys : List Int}, lexI xs ys = true → ∀ (i : Nat) (x y : Int), xs[i]? = some x → ys[i]? = some y → (∀ j x' y', j < i → xs[j]? = some x' → ys[j]? = some y' → x' = y') → x ≠ y → x ≤ y
  | [], _, _, i, x, y, h1, _, _, _ => by simp at h1
  | _ :: _, [], h, _, _, _, _, _, _, _ => by cases h
  | a :: xs, b :: ys, h, 0, x, y, h1, h2, _, hne => by
    simp at h1 h2
    subst h1 h2
    unfold lexI at h
    rw [if_neg hne] at h
    exact of_decide_eq_true h
  | a :: xs, b :: ys, h, i + 1, x, y, h1, h2, hj, hne => by
    have e := hj 0 a b (by omega) rfl rfl
    subst e
    unfold lexI at h
    rw [if_pos rfl] at h
    exact lexI_le h i x y (by simpa using h1) (by simpa using h2) (fun j x' y' hlt e1 e2 => hj (j + 1) x' y' (by omega) (by simpa using e1) (by simpa using e2)) hne
theorem order_ok {n : Int} {m l : Nat} (h0 : 0 ≤ n) (h1 : Cnt n m) (h2 : Cnt (n + 1) l) :
    (if ((l : Nat) : Int) = ((m : Nat) : Int) then (if (gr l (n + 1)).reverse = (gr m n).reverse then true else lexI (gr l (n + 1)).reverse (gr m n).reverse) else decide (((l : Nat) : Int) ≤ ((m : Nat) : Int))) = false := by
  have v1 := gr_val m n h0 h1.1
  have v2 := gr_val l (n + 1) (by omega) h2.1
  have o1 := (gr_ok m n h0 h1.1).1
  have o2 := (gr_ok l (n + 1) (by omega) h2.1).1
  by_cases hlm : ((l : Nat) : Int) = ((m : Nat) : Int)
  · rw [if_pos hlm]
    have hlm : l = m := by omega
    by_cases hr : (gr l (n + 1)).reverse = (gr m n).reverse
    · have := List.reverse_inj.mp hr
      rw [this] at v2
      omega
    · rw [if_neg hr]
      cases hlx : lexI (gr l (n + 1)).reverse (gr m n).reverse with
      | false => rfl
      | true =>
        have ll1 := gr_len l (n + 1)
        have ll2 := gr_len m n
        have := lex_le o2 o1 (by omega) (fun i x y e1 e2 e3 hne => by
          have hi1 := (List.getElem?_eq_some_iff.mp e1).1
          have hi2 := (List.getElem?_eq_some_iff.mp e2).1
          refine lexI_le hlx (l - 1 - i) x y ?_ ?_ (fun j x' y' hj e4 e5 => ?_) hne
          · rw [List.getElem?_reverse (by omega), ll1, show l - 1 - (l - 1 - i) = i by omega]; exact e1
          · rw [List.getElem?_reverse (by omega), ll2, show m - 1 - (l - 1 - i) = i by omega]; exact e2
          · rw [List.getElem?_reverse (by omega), ll1] at e4
            rw [List.getElem?_reverse (by omega), ll2] at e5
            exact e3 (l - 1 - j) x' y' (by omega) e4 (by rw [show l - 1 - j = m - 1 - j by omega]; exact e5))
        omega
  · rw [if_neg hlm]
    refine decide_eq_false fun hle => ?_
    have hlt : l < m := by omega
    obtain ⟨k, rfl⟩ : ∃ k, m = k + 1 := ⟨m - 1, by omega⟩
    have := h1.2 k rfl
    have := fb_le (show l ≤ k by omega)
    have := h2.1
    omega
end K78

set_option Elab.async false
set_option linter.all false
set_option maxRecDepth 100000
set_option maxHeartbeats 0
/-! K78f: the written cases. -/
namespace K78
open PySem PySem.Spec PyProof.Rows L2 NdefX Ev
theorem pick {xs : List D} {v : Int} (h0 : 0 ≤ v) (h1 : v < xs.length) : ∃ x, x ∈ xs ∧ atI xs v = some x := by
  obtain ⟨n, rfl⟩ : ∃ n : Nat, v = (n : Int) := ⟨v.toNat, by omega⟩
  have hn : n < xs.length := by omega
  exact ⟨xs[n], List.getElem_mem hn, atI_nat (List.getElem?_eq_getElem hn)⟩
theorem same_simple {h : VH} {n : Nat} {x : D} (hx : simple x) : SameD h (n + 1) x x := by
  cases x <;> first | rfl | exact hx.elim
theorem same_tup {h : VH} {n : Nat} {xs : List D} (hs : ∀ x ∈ xs, simple x) (hl : xs.length < 1000000) : SameD h (n + 2) (.tup xs) (.tup xs) :=
  ⟨xs, rfl, rfl, hl, fun i g d e1 e2 => by
    rw [e1] at e2
    cases e2
    exact same_simple (hs g (List.mem_of_getElem? e1))⟩
theorem same_ref {h : VH} {n k l : Nat} {xs ys : List D} (e1 : lstAt h l = some xs) (e2 : lstAt h k = some ys) (hl : xs.length = ys.length) (hl2 : ys.length < 1000000) (hs : ∀ (i : Nat) (x y : D), xs[i]? = some x → ys[i]? = some y → SameD h n x y) : SameD h (n + 1) (.ref l) (.ref k) :=
  ⟨l, xs, ys, rfl, e1, e2, hl, hl2, hs⟩
/-- the rows that are refused -/
def WOk (h : VH) (d : D) : Prop := d = .tup [.int 1, .int 1] ∨ d = .tup [.int 0, .int 1, .int 1, .int 0] ∨ (∃ k, d = .ref k ∧ lstAt h k = some [.int 0, .int 1]) ∨ d = .tup [.int 2] ∨ d = .tup [.int 0, .int (-1)] ∨ d = .non ∨ d = .tup [.bl true] ∨ d = .tup [.str "1"] ∨ d = .int 5 ∨ d = .tup [.int 1, .int 0, .int 1, .int 1]
theorem bad_adj {xs : List D} {es : List Int} {h : VH} {Q : PQ} {E : PX} (e : xs = I es) (ha : adj es = true) (hb : xs.all digB = true) (hl : xs.length ≤ 100000) (q : Q (.bl false) h) : sp_is_digits [.tup xs] h Q E := by
  refine isdig_tup (by rw [e]; exact simple_I es) hl (fun h => by rw [hb] at h; cases h) fun ds e2 _ => ?_
  have := I_inj (e.symm.trans e2)
  subst this
  rw [ha]
  exact q
theorem bad_el {xs : List D} {h : VH} {Q : PQ} {E : PX} (hs : ∀ x ∈ xs, simple x) (hb : xs.all digB = false) (hl : xs.length ≤ 100000) (q : Q (.bl false) h) : sp_is_digits [.tup xs] h Q E := by
  refine isdig_tup hs hl (fun _ => q) fun ds e hd => ?_
  have : xs.all digB = true := by
    rw [e, List.all_eq_true]
    intro x hx
    obtain ⟨d, hd1, rfl⟩ := List.mem_map.mp hx
    rcases hd d hd1 with h | h <;> subst h <;> rfl
  rw [this] at hb
  cases hb
theorem simp1 {x : D} (h : simple x) : ∀ y ∈ [x], simple y := fun y hy => by
  have : y = x := by simpa using hy
  rw [this]; exact h
theorem wok_dig {h : VH} {d : D} (w : WOk h d) (g : VH) {Q : PQ} {E : PX} (q : Q (.bl false) (h ++ g)) : sp_is_digits [d] (h ++ g) Q E := by
  rcases w with rfl | rfl | ⟨k, rfl, e⟩ | rfl | rfl | rfl | rfl | rfl | rfl | rfl
  · exact bad_adj (es := [1, 1]) rfl rfl rfl (by decide) q
  · exact bad_adj (es := [0, 1, 1, 0]) rfl rfl rfl (by decide) q
  · exact isdig_nt (t := .lst) (by have := lstAt_app (g := g) e; simp only [tyD, this]) rfl q
  · exact bad_el (simple_I [2]) rfl (by decide) q
  · exact bad_el (simple_I [0, -1]) rfl (by decide) q
  · exact isdig_nt (t := .non) rfl rfl q
  · exact bad_el (simp1 trivial) rfl (by decide) q
  · exact bad_el (simp1 trivial) rfl (by decide) q
  · exact isdig_nt (t := .int) rfl rfl q
  · exact bad_adj (es := [1, 0, 1, 1]) rfl rfl rfl (by decide) q
theorem wok_same {h : VH} {d : D} (w : WOk h d) {n : Nat} (g : VH) : SameD (h ++ g) (n + 2) d d := by
  rcases w with rfl | rfl | ⟨k, rfl, e⟩ | rfl | rfl | rfl | rfl | rfl | rfl | rfl
  · exact same_tup (simple_I [1, 1]) (by decide)
  · exact same_tup (simple_I [0, 1, 1, 0]) (by decide)
  · exact same_ref (lstAt_app e) (lstAt_app e) rfl (by decide) fun i x y e1 e2 => by
      rw [e1] at e2
      cases e2
      exact same_simple (simple_I [0, 1] x (List.mem_of_getElem? e1))
  · exact same_tup (simple_I [2]) (by decide)
  · exact same_tup (simple_I [0, -1]) (by decide)
  · rfl
  · exact same_tup (simp1 trivial) (by decide)
  · exact same_tup (simp1 trivial) (by decide)
  · rfl
  · exact same_tup (simple_I [1, 0, 1, 1]) (by decide)
/-- the numbers that are refused -/
def OOk (d : D) : Prop := ∃ t : Ev.Ty, (∀ h, tyD d h = some t) ∧ ((∃ n : Int, d = .int n ∧ n < 0) ∨ (t.isa .int && !t.isa .bl) = false) ∧ ∀ h n, SameD h (n + 2) d d
theorem ook {z : Int} (hz : z < 0) {d : D} (h : d ∈ [D.int (-1), .non, .bl true, .str "3", .tup [.int 2], .int z]) : OOk d := by
  simp only [List.mem_cons, List.not_mem_nil, or_false] at h
  rcases h with rfl | rfl | rfl | rfl | rfl | rfl
  · exact ⟨.int, fun _ => rfl, .inl ⟨_, rfl, by decide⟩, fun _ _ => rfl⟩
  · exact ⟨.non, fun _ => rfl, .inr rfl, fun _ _ => rfl⟩
  · exact ⟨.bl, fun _ => rfl, .inr rfl, fun _ _ => rfl⟩
  · exact ⟨.str, fun _ => rfl, .inr rfl, fun _ _ => rfl⟩
  · exact ⟨.tup, fun _ => rfl, .inr rfl, fun _ _ => same_tup (simple_I [2]) (by decide)⟩
  · exact ⟨.int, fun _ => rfl, .inl ⟨_, rfl, hz⟩, fun _ _ => rfl⟩
/-! ### the last steps of a turn -/
theorem take' {h : VH} {kk c : Nat} {many : Int} {Q : PQ} {E : PX} (hp : PotAt h kk c) (hc : c ≤ 1000000) (hm : 0 < many) (hm2 : many.natAbs.log2 < 8000)
    (hQ : ∀ v h', 0 ≤ v → v < many → h'.length = h.length → (∀ l, l ≠ kk → lstAt h' l = lstAt h l) → PotAt h' kk (c + 1) → Q (.int v) h') : sp__law_take [.ref kk, .int many] h Q E := take_ok hp hc hm hm2 hQ
theorem pot' {h : VH} {d : D} {ns : List Int} {Q : PQ} {E : PX} (hd : ∀ g, gList [d] (h ++ g) = some (.new (ns.map D.int))) (hl : ns.length ≤ 1000) (hQ : ∀ h' kk, h.length ≤ kk → PotAt h' kk 0 → (∀ l, l < h.length → lstAt h' l = lstAt h l) → Q (.ref kk) h') : sp__law_pot [d] h Q E := pot_ok hd hl hQ
theorem same' {n : Nat} {got due : D} {h : VH} {Q : PQ} {E : PX} (s : SameD h n got due) (q : Q (.bl true) h) : sp__law_same n [got, due] h Q E := by
  have e : ∀ n, sp__law_same n = sp_same n := by
    intro n
    induction n with
    | zero => rfl
    | succ n ih =>
      show fnSp 2 3 (b__law_same (sp__law_same n)) = fnSp 2 3 (b_same (sp_same n))
      rw [ih]
      rfl
  rw [e]
  exact same_ok n s q
end K78

set_option Elab.async false
set_option linter.all false
set_option maxRecDepth 100000
set_option maxHeartbeats 0
/-! K78q: the law's turn, statement by statement. -/
namespace K78
open PySem PySem.Spec PyProof.Rows L2 NdefX Ev
theorem c0 : decide (([] : List D).length ≤ line) = true := by decide
theorem c1 (a : D) : decide ([a].length ≤ line) = true := decide_eq_true (Nat.le_of_ble_eq_true rfl)
theorem c2 (a b : D) : decide ([a, b].length ≤ line) = true := decide_eq_true (Nat.le_of_ble_eq_true rfl)
theorem c4 (a b c d : D) : decide ([a, b, c, d].length ≤ line) = true := decide_eq_true (Nat.le_of_ble_eq_true rfl)
theorem c6 (a b c d e f : D) : decide ([a, b, c, d, e, f].length ≤ line) = true := decide_eq_true (Nat.le_of_ble_eq_true rfl)
/-- digits drawn so far, the last of them -/
def Drawn (ds : List Int) (l : Int) : Prop := (l = 0 ∧ Okd true ds) ∨ (l = 1 ∧ Okd false ds)
theorem Drawn.ok {ds : List Int} {l : Int} (h : Drawn ds l) : Okd false ds := by
  rcases h with ⟨_, h⟩ | ⟨_, h⟩
  · exact h.weak
  · exact h
theorem c10 (a b c d e f g h i j : D) : decide ([a, b, c, d, e, f, g, h, i, j].length ≤ line) = true := decide_eq_true (Nat.le_of_ble_eq_true rfl)
theorem g9 : (0:Int) ≤ 9 ∧ (9:Int) ≤ 1000 ∧ (10:Int).natAbs < 18446744073709551616 := by decide
theorem g30 : (0:Int) ≤ 30 ∧ (30:Int) ≤ 1000 ∧ (10:Int).natAbs < 18446744073709551616 := by decide
theorem g20 : (0:Int) ≤ 20 ∧ (20:Int) ≤ 1000 ∧ (10:Int).natAbs < 18446744073709551616 := by decide
structure Hs (st sg sd sn su ss sr : Ev.Spec) : Prop where
  take : ∀ {h : VH} {kk c : Nat} {many : Int} {Q : PQ} {E : PX}, PotAt h kk c → c ≤ 1000000 → 0 < many → many.natAbs.log2 < 8000 →
    (∀ v h', 0 ≤ v → v < many → h'.length = h.length → (∀ l, l ≠ kk → lstAt h' l = lstAt h l) → PotAt h' kk (c + 1) → Q (.int v) h') → st [.ref kk, .int many] h Q E
  gold : ∀ {n : Int} {m : Nat} {h : VH} {Q : PQ} {E : PX}, 0 ≤ n → Cnt n m → m ≤ 150 → (∀ g, Q (.tup (I (gr m n))) (h ++ g)) → sg [.int n] h Q E
  golden : ∀ {n : Int} {m : Nat} {h : VH} {Q : PQ} {E : PX}, 0 ≤ n → Cnt n m → m ≤ 1000 → (∀ g, Q (.tup (I (gr m n))) (h ++ g)) → sd [.int n] h Q E
  number : ∀ {ds : List Int} {h : VH} {Q : PQ} {E : PX}, Okd false ds → ds.length ≤ 1000 → Q (.int (va 0 ds)) h → sn [.tup (I ds)] h Q E
  sum : ∀ {ds : List Int} {h : VH} {Q : PQ} {E : PX}, Okd false ds → ds.length ≤ 1000 → Q (.int (va 0 ds)) h → su [.tup (I ds)] h Q E
  same : ∀ {got due : D} {h : VH} {Q : PQ} {E : PX}, SameD h 8 got due → Q (.bl true) h → ss [got, due] h Q E
  refused : ∀ {odd wrong : D} {h : VH} {Q : PQ} {E : PX}, OOk odd → WOk h wrong → Q (.ref h.length) (h ++ [.lst [.ref (h.length + 1), .ref (h.length + 2)], .lst [odd], .lst [wrong]]) → sr [odd, wrong] h Q E
section
variable {st sg sd sn su ss sr : Ev.Spec} (H : Hs st sg sd sn su ss sr) {kp c : Nat} {d : D} {e2 e3 e4 e5 e6 e7 e8 e9 e10 e11 e12 e13 e14 : Option D} {h' : VH} {Y : ED} {n : Int} {m l : Nat} {ds : List Int} {es : List Int}
include H
theorem s0 (hp : PotAt h' kp c) (hc : c ≤ 1000) (k : ∀ n h2, 0 ≤ n → n < (10:Int) ^ 30 → PotAt h2 kp (c + 2) → Y.nx [some d, some (.ref kp), e2, some (.int n), e4, e5, e6, e7, e8, e9, e10, e11, e12, e13, e14] h2) :
    (sAsg (fCall st (fCons (fVar 1) (fCons (fBin gIx (fLst (fCons (fLit (.int 12)) (fCons (fLit (.int 300)) (fCons (fBin gPow (fLit (.int 10)) (fLit (.int 9))) (fCons (fBin gPow (fLit (.int 10)) (fLit (.int 30))) fNil))))) (fCall st (fCons (fVar 1) (fCons (fLit (.int 4)) fNil)))) fNil))) (.nm 3)) [some d, some (.ref kp), e2, e3, e4, e5, e6, e7, e8, e9, e10, e11, e12, e13, e14] h' Y := by
  simp only [sAsg, sPar, sIf, sRet, sRetN, sExp, sSet, sAug, sAugS, sBrk, sCnt, sRaise, sNil, exE, fVar, fLit, fNeg, fIsN, fBin, fChain, fAnd, fOr, fNot, fIte, fNil, fCons, fTup, fLst, fFN, fMt, fIsi, fCall, fSl1, fRev, fNewL, fFC, fXv, fIt, fSeq, fin_v, fin_n, finE_v, finE_n, gAdd_i, gAdd_s, gSub_i, gEq_i, gEq_b, gNe_i, gNe_b, gLt_i, gLe_i, gGt_i, gGe_i, gInt_i, gInt_b, gInp_a, gInp_s, gLen_t, gTuple_t, gList_t, chk_t, asgT, asgL, tyD, Ev.isNon, gRange1_i, Ty.isa, List.getElem?_cons_zero, List.getElem?_cons_succ, List.set_cons_zero, List.set_cons_succ, List.map_cons, List.map_nil, List.cons_append, List.nil_append, List.any_cons, List.any_nil, Option.map_some, Option.map_none, Bool.or_false, Bool.false_or, Bool.or_true, Bool.true_or, Bool.and_true, Bool.true_and, Bool.and_false, Bool.false_and, Bool.not_true, Bool.not_false, c4, gPow_i g9, gPow_i g30]
  refine H.take (pot_app hp) (by omega) (by decide) (by decide) fun v h1 v0 v1 hl1 hk1 hp1 => ?_
  obtain ⟨many, hmem, eat⟩ := pick (xs := [.int 12, .int 300, .int ((10:Int) ^ (9:Int).toNat), .int ((10:Int) ^ (30:Int).toNat)]) v0 v1
  have hkp := pot_lt hp
  have el := hk1 h'.length (by omega)
  rw [lst_last] at el
  rw [gIx_l el eat]
  have hmany : ∃ z : Int, many = .int z ∧ 0 < z ∧ z ≤ (10:Int) ^ 30 ∧ z.natAbs.log2 < 8000 := by
    simp only [List.mem_cons, List.not_mem_nil, or_false] at hmem
    rcases hmem with rfl | rfl | rfl | rfl
    · exact ⟨_, rfl, by decide +kernel, by decide +kernel, by decide +kernel⟩
    · exact ⟨_, rfl, by decide +kernel, by decide +kernel, by decide +kernel⟩
    · exact ⟨_, rfl, by decide +kernel, by decide +kernel, by decide +kernel⟩
    · exact ⟨_, rfl, by decide +kernel, by decide +kernel, by decide +kernel⟩
  obtain ⟨many, rfl, m0, m1, m2⟩ := hmany
  simp only [sAsg, sPar, sIf, sRet, sRetN, sExp, sSet, sAug, sAugS, sBrk, sCnt, sRaise, sNil, exE, fVar, fLit, fNeg, fIsN, fBin, fChain, fAnd, fOr, fNot, fIte, fNil, fCons, fTup, fLst, fFN, fMt, fIsi, fCall, fSl1, fRev, fNewL, fFC, fXv, fIt, fSeq, fin_v, fin_n, finE_v, finE_n, gAdd_i, gAdd_s, gSub_i, gEq_i, gEq_b, gNe_i, gNe_b, gLt_i, gLe_i, gGt_i, gGe_i, gInt_i, gInt_b, gInp_a, gInp_s, gLen_t, gTuple_t, gList_t, chk_t, asgT, asgL, tyD, Ev.isNon, gRange1_i, Ty.isa, List.getElem?_cons_zero, List.getElem?_cons_succ, List.set_cons_zero, List.set_cons_succ, List.map_cons, List.map_nil, List.cons_append, List.nil_append, List.any_cons, List.any_nil, Option.map_some, Option.map_none, Bool.or_false, Bool.false_or, Bool.or_true, Bool.true_or, Bool.and_true, Bool.true_and, Bool.and_false, Bool.false_and, Bool.not_true, Bool.not_false]
  refine H.take hp1 (by omega) m0 m2 fun n h2 n0 n1 hl2 hk2 hp2 => ?_
  exact k n h2 n0 (Int.lt_of_lt_of_le n1 m1) hp2
theorem s1 (n0 : 0 ≤ n) (hcm : Cnt n m) (hm : m ≤ 150) (hp : PotAt h' kp c) (k : ∀ h2, PotAt h2 kp c → Y.nx [some d, some (.ref kp), e2, some (.int n), some (.tup (I (gr m n))), e5, e6, e7, e8, e9, e10, e11, e12, e13, e14] h2) :
    (sAsg (fCall sg (fCons (fVar 3) fNil)) (.nm 4)) [some d, some (.ref kp), e2, some (.int n), e4, e5, e6, e7, e8, e9, e10, e11, e12, e13, e14] h' Y := by
  simp only [sAsg, sPar, sIf, sRet, sRetN, sExp, sSet, sAug, sAugS, sBrk, sCnt, sRaise, sNil, exE, fVar, fLit, fNeg, fIsN, fBin, fChain, fAnd, fOr, fNot, fIte, fNil, fCons, fTup, fLst, fFN, fMt, fIsi, fCall, fSl1, fRev, fNewL, fFC, fXv, fIt, fSeq, fin_v, fin_n, finE_v, finE_n, gAdd_i, gAdd_s, gSub_i, gEq_i, gEq_b, gNe_i, gNe_b, gLt_i, gLe_i, gGt_i, gGe_i, gInt_i, gInt_b, gInp_a, gInp_s, gLen_t, gTuple_t, gList_t, chk_t, asgT, asgL, tyD, Ev.isNon, gRange1_i, Ty.isa, List.getElem?_cons_zero, List.getElem?_cons_succ, List.set_cons_zero, List.set_cons_succ, List.map_cons, List.map_nil, List.cons_append, List.nil_append, List.any_cons, List.any_nil, Option.map_some, Option.map_none, Bool.or_false, Bool.false_or, Bool.or_true, Bool.true_or, Bool.and_true, Bool.true_and, Bool.and_false, Bool.false_and, Bool.not_true, Bool.not_false]
  exact H.gold n0 hcm hm fun g => k _ (pot_app hp)
theorem s2 (n0 : 0 ≤ n) (hcm : Cnt n m) (hm : m ≤ 150) (hp : PotAt h' kp c) (k : ∀ h2, PotAt h2 kp c → Y.nx [some d, some (.ref kp), e2, some (.int n), some (.tup (I (gr m n))), e5, e6, e7, e8, e9, e10, e11, e12, e13, e14] h2) :
    (sIf (fOr (fNot (fCall ss (fCons (fLst (fCons (fCall sd (fCons (fVar 3) fNil)) (fCons (fCall sd (fCons (fVar 3) fNil)) (fCons (fCall sn (fCons (fVar 4) fNil)) (fCons (fCall sn (fCons (fBin gAdd (fVar 4) (fTup (fCons (fLit (.int 0)) (fCons (fLit (.int 0)) fNil)))) fNil)) fNil))))) (fCons (fLst (fCons (fVar 4) (fCons (fVar 4) (fCons (fVar 3) (fCons (fVar 3) fNil))))) fNil)))) (fBin gNe (fCall su (fCons (fVar 4) fNil)) (fVar 3))) (sRet (fLit (.bl false))) sNil) [some d, some (.ref kp), e2, some (.int n), some (.tup (I (gr m n))), e5, e6, e7, e8, e9, e10, e11, e12, e13, e14] h' Y := by
  have hok := (gr_ok m n n0 hcm.1).1
  have hval := gr_val m n n0 hcm.1
  have hlen := gr_len m n
  simp only [sAsg, sPar, sIf, sRet, sRetN, sExp, sSet, sAug, sAugS, sBrk, sCnt, sRaise, sNil, exE, fVar, fLit, fNeg, fIsN, fBin, fChain, fAnd, fOr, fNot, fIte, fNil, fCons, fTup, fLst, fFN, fMt, fIsi, fCall, fSl1, fRev, fNewL, fFC, fXv, fIt, fSeq, fin_v, fin_n, finE_v, finE_n, gAdd_i, gAdd_s, gSub_i, gEq_i, gEq_b, gNe_i, gNe_b, gLt_i, gLe_i, gGt_i, gGe_i, gInt_i, gInt_b, gInp_a, gInp_s, gLen_t, gTuple_t, gList_t, chk_t, asgT, asgL, tyD, Ev.isNon, gRange1_i, Ty.isa, List.getElem?_cons_zero, List.getElem?_cons_succ, List.set_cons_zero, List.set_cons_succ, List.map_cons, List.map_nil, List.cons_append, List.nil_append, List.any_cons, List.any_nil, Option.map_some, Option.map_none, Bool.or_false, Bool.false_or, Bool.or_true, Bool.true_or, Bool.and_true, Bool.true_and, Bool.and_false, Bool.false_and, Bool.not_true, Bool.not_false]
  refine H.golden n0 hcm (by omega) fun g1 => ?_
  refine H.golden n0 hcm (by omega) fun g2 => ?_
  refine H.number hok (by omega) ?_
  have et : gAdd (.tup (I (gr m n))) (.tup [.int 0, .int 0]) (h' ++ g1 ++ g2) = some (.val (.tup (I (gr m n ++ [0] ++ [0])))) := by
    rw [gAdd_t (by rw [List.length_map, hlen]; show m + 2 ≤ 16777216; omega)]
    simp
  simp only [sAsg, sPar, sIf, sRet, sRetN, sExp, sSet, sAug, sAugS, sBrk, sCnt, sRaise, sNil, exE, fVar, fLit, fNeg, fIsN, fBin, fChain, fAnd, fOr, fNot, fIte, fNil, fCons, fTup, fLst, fFN, fMt, fIsi, fCall, fSl1, fRev, fNewL, fFC, fXv, fIt, fSeq, fin_v, fin_n, finE_v, finE_n, gAdd_i, gAdd_s, gSub_i, gEq_i, gEq_b, gNe_i, gNe_b, gLt_i, gLe_i, gGt_i, gGe_i, gInt_i, gInt_b, gInp_a, gInp_s, gLen_t, gTuple_t, gList_t, chk_t, asgT, asgL, tyD, Ev.isNon, gRange1_i, Ty.isa, List.getElem?_cons_zero, List.getElem?_cons_succ, List.set_cons_zero, List.set_cons_succ, List.map_cons, List.map_nil, List.cons_append, List.nil_append, List.any_cons, List.any_nil, Option.map_some, Option.map_none, Bool.or_false, Bool.false_or, Bool.or_true, Bool.true_or, Bool.and_true, Bool.true_and, Bool.and_false, Bool.false_and, Bool.not_true, Bool.not_false, c2, et]
  refine H.number (Okd.zero (Okd.zero hok)) (by simp; omega) ?_
  have v2 : va 0 (gr m n ++ [0] ++ [0]) = n := by rw [va_snoc, va_snoc, hval]; omega
  rw [v2, hval]
  simp only [sAsg, sPar, sIf, sRet, sRetN, sExp, sSet, sAug, sAugS, sBrk, sCnt, sRaise, sNil, exE, fVar, fLit, fNeg, fIsN, fBin, fChain, fAnd, fOr, fNot, fIte, fNil, fCons, fTup, fLst, fFN, fMt, fIsi, fCall, fSl1, fRev, fNewL, fFC, fXv, fIt, fSeq, fin_v, fin_n, finE_v, finE_n, gAdd_i, gAdd_s, gSub_i, gEq_i, gEq_b, gNe_i, gNe_b, gLt_i, gLe_i, gGt_i, gGe_i, gInt_i, gInt_b, gInp_a, gInp_s, gLen_t, gTuple_t, gList_t, chk_t, asgT, asgL, tyD, Ev.isNon, gRange1_i, Ty.isa, List.getElem?_cons_zero, List.getElem?_cons_succ, List.set_cons_zero, List.set_cons_succ, List.map_cons, List.map_nil, List.cons_append, List.nil_append, List.any_cons, List.any_nil, Option.map_some, Option.map_none, Bool.or_false, Bool.false_or, Bool.or_true, Bool.true_or, Bool.and_true, Bool.true_and, Bool.and_false, Bool.false_and, Bool.not_true, Bool.not_false, c4]
  refine H.same ?_ ?_
  · refine same_ref (xs := [.tup (I (gr m n)), .tup (I (gr m n)), .int n, .int n]) (ys := [.tup (I (gr m n)), .tup (I (gr m n)), .int n, .int n]) (lstAt_app lst_last) lst_last rfl (by show 4 < 1000000; decide) fun i x y a1 a2 => ?_
    rw [a1] at a2
    cases a2
    have := List.mem_of_getElem? a1
    simp only [List.mem_cons, List.not_mem_nil, or_false] at this
    rcases this with rfl | rfl | rfl | rfl
    · exact same_tup (simple_I _) (by rw [List.length_map, hlen]; omega)
    · exact same_tup (simple_I _) (by rw [List.length_map, hlen]; omega)
    · rfl
    · rfl
  simp only [sAsg, sPar, sIf, sRet, sRetN, sExp, sSet, sAug, sAugS, sBrk, sCnt, sRaise, sNil, exE, fVar, fLit, fNeg, fIsN, fBin, fChain, fAnd, fOr, fNot, fIte, fNil, fCons, fTup, fLst, fFN, fMt, fIsi, fCall, fSl1, fRev, fNewL, fFC, fXv, fIt, fSeq, fin_v, fin_n, finE_v, finE_n, gAdd_i, gAdd_s, gSub_i, gEq_i, gEq_b, gNe_i, gNe_b, gLt_i, gLe_i, gGt_i, gGe_i, gInt_i, gInt_b, gInp_a, gInp_s, gLen_t, gTuple_t, gList_t, chk_t, asgT, asgL, tyD, Ev.isNon, gRange1_i, Ty.isa, List.getElem?_cons_zero, List.getElem?_cons_succ, List.set_cons_zero, List.set_cons_succ, List.map_cons, List.map_nil, List.cons_append, List.nil_append, List.any_cons, List.any_nil, Option.map_some, Option.map_none, Bool.or_false, Bool.false_or, Bool.or_true, Bool.true_or, Bool.and_true, Bool.true_and, Bool.and_false, Bool.false_and, Bool.not_true, Bool.not_false]
  refine H.sum hok (by omega) ?_
  rw [hval]
  simp only [sAsg, sPar, sIf, sRet, sRetN, sExp, sSet, sAug, sAugS, sBrk, sCnt, sRaise, sNil, exE, fVar, fLit, fNeg, fIsN, fBin, fChain, fAnd, fOr, fNot, fIte, fNil, fCons, fTup, fLst, fFN, fMt, fIsi, fCall, fSl1, fRev, fNewL, fFC, fXv, fIt, fSeq, fin_v, fin_n, finE_v, finE_n, gAdd_i, gAdd_s, gSub_i, gEq_i, gEq_b, gNe_i, gNe_b, gLt_i, gLe_i, gGt_i, gGe_i, gInt_i, gInt_b, gInp_a, gInp_s, gLen_t, gTuple_t, gList_t, chk_t, asgT, asgL, tyD, Ev.isNon, gRange1_i, Ty.isa, List.getElem?_cons_zero, List.getElem?_cons_succ, List.set_cons_zero, List.set_cons_succ, List.map_cons, List.map_nil, List.cons_append, List.nil_append, List.any_cons, List.any_nil, Option.map_some, Option.map_none, Bool.or_false, Bool.false_or, Bool.or_true, Bool.true_or, Bool.and_true, Bool.true_and, Bool.and_false, Bool.false_and, Bool.not_true, Bool.not_false, decide_true]
  exact k _ (pot_app (pot_app (pot_app (pot_app hp))))
theorem s3 (hp : PotAt h' kp c) (k : ∀ kd, kd ≠ kp → lstAt (h' ++ [.lst []]) kd = some (I []) → PotAt (h' ++ [.lst []]) kp c → Y.nx [some d, some (.ref kp), e2, e3, e4, some (.ref kd), some (.int 0), e7, e8, e9, e10, e11, e12, e13, e14] (h' ++ [.lst []])) :
    (sPar (fCons (fLst fNil) (fCons (fLit (.int 0)) fNil)) (.cons (.nm 5) (.cons (.nm 6) .nil))) [some d, some (.ref kp), e2, e3, e4, e5, e6, e7, e8, e9, e10, e11, e12, e13, e14] h' Y := by
  simp only [sAsg, sPar, sIf, sRet, sRetN, sExp, sSet, sAug, sAugS, sBrk, sCnt, sRaise, sNil, exE, fVar, fLit, fNeg, fIsN, fBin, fChain, fAnd, fOr, fNot, fIte, fNil, fCons, fTup, fLst, fFN, fMt, fIsi, fCall, fSl1, fRev, fNewL, fFC, fXv, fIt, fSeq, fin_v, fin_n, finE_v, finE_n, gAdd_i, gAdd_s, gSub_i, gEq_i, gEq_b, gNe_i, gNe_b, gLt_i, gLe_i, gGt_i, gGe_i, gInt_i, gInt_b, gInp_a, gInp_s, gLen_t, gTuple_t, gList_t, chk_t, asgT, asgL, tyD, Ev.isNon, gRange1_i, Ty.isa, List.getElem?_cons_zero, List.getElem?_cons_succ, List.set_cons_zero, List.set_cons_succ, List.map_cons, List.map_nil, List.cons_append, List.nil_append, List.any_cons, List.any_nil, Option.map_some, Option.map_none, Bool.or_false, Bool.false_or, Bool.or_true, Bool.true_or, Bool.and_true, Bool.true_and, Bool.and_false, Bool.false_and, Bool.not_true, Bool.not_false, c0]
  have := pot_lt hp
  exact k h'.length (by omega) lst_last (pot_app hp)
omit H in
theorem pot_set {h : VH} {kd : Nat} {o : Ob} (hne : kd ≠ kp) (hp : PotAt h kp c) : PotAt (h.set kd o) kp c := by
  obtain ⟨i, j, k', p', cells, e, C, hl⟩ := hp
  exact ⟨i, j, k', p', cells, by rw [lstAt_ne hne]; exact e, C, hl⟩
theorem s4 {kd : Nat} (hne : kd ≠ kp) (hd : lstAt h' kd = some (I [])) (hp : PotAt h' kp c) (hc : c ≤ 1000) (k : ∀ ds l z h2, Drawn ds l → ds.length ≤ 39 → lstAt h2 kd = some (I ds) → PotAt h2 kp (c + 50) → Y.nx [some d, some (.ref kp), e2, e3, e4, some (.ref kd), some (.int l), z, e8, e9, e10, e11, e12, e13, e14] h2) :
    (sFor (fIt gRange1 (fCons (fCall st (fCons (fVar 1) (fCons (fLit (.int 40)) fNil))) fNil)) (.nm 7) (sSeq (sAsg (fIte (fBin gEq (fVar 6) (fLit (.int 1))) (fLit (.int 0)) (fCall st (fCons (fVar 1) (fCons (fLit (.int 2)) fNil)))) (.nm 6)) (sExp (fMt .append (fVar 5) (fCons (fVar 6) fNil))))) [some d, some (.ref kp), e2, e3, e4, some (.ref kd), some (.int 0), e7, e8, e9, e10, e11, e12, e13, e14] h' Y := by
  simp only [sAsg, sPar, sIf, sRet, sRetN, sExp, sSet, sAug, sAugS, sBrk, sCnt, sRaise, sNil, exE, fVar, fLit, fNeg, fIsN, fBin, fChain, fAnd, fOr, fNot, fIte, fNil, fCons, fTup, fLst, fFN, fMt, fIsi, fCall, fSl1, fRev, fNewL, fFC, fXv, fIt, fSeq, fin_v, fin_n, finE_v, finE_n, gAdd_i, gAdd_s, gSub_i, gEq_i, gEq_b, gNe_i, gNe_b, gLt_i, gLe_i, gGt_i, gGe_i, gInt_i, gInt_b, gInp_a, gInp_s, gLen_t, gTuple_t, gList_t, chk_t, asgT, asgL, tyD, Ev.isNon, gRange1_i, Ty.isa, List.getElem?_cons_zero, List.getElem?_cons_succ, List.set_cons_zero, List.set_cons_succ, List.map_cons, List.map_nil, List.cons_append, List.nil_append, List.any_cons, List.any_nil, Option.map_some, Option.map_none, Bool.or_false, Bool.false_or, Bool.or_true, Bool.true_or, Bool.and_true, Bool.true_and, Bool.and_false, Bool.false_and, Bool.not_true, Bool.not_false, sFor]
  refine H.take hp (by omega) (by decide) (by decide) fun v h1 v0 v1 hl1 hk1 hp1 => ?_
  have hb : big62 v = true := decide_eq_true (by omega)
  simp only [gRange1_i hb]
  have hd1 : lstAt h1 kd = some (I []) := by rw [hk1 kd hne]; exact hd
  refine foL_rng (fun i env h => ∃ ds l z, env = [some d, some (.ref kp), e2, e3, e4, some (.ref kd), some (.int l), z, e8, e9, e10, e11, e12, e13, e14] ∧ Drawn ds l ∧ ds.length = i ∧ lstAt h kd = some (I ds) ∧ PotAt h kp (c + 1 + i)) (fun i env h ⟨ds, l, z, e, dr, dl, ld, pp⟩ hi => ?_) (fun env h ⟨ds, l, z, e, dr, dl, ld, pp⟩ => ?_) fuel 0 _ _ ⟨[], 0, e7, rfl, .inl ⟨rfl, .nil _⟩, rfl, hd1, hp1⟩ (Nat.zero_le _) (by rw [fuel_eq]; omega)
  · subst e
    refine ⟨_, rfl, fun Z' zn _ _ _ _ => ?_⟩
    refine seq_ fun Y2 hn2 hr2 hb2 hc2 hx2 => ?_
    have ap : ∀ (h2 : VH) (x : Int), lstAt h2 kd = some (I ds) → gAppend (.ref kd) [.int x] h2 = some (.wr kd (I ds ++ [.int x]) .non) := fun h2 x e => gAppend_l e (by rw [List.length_map, dl]; show i < 16777216; omega)
    have eI : ∀ x : Int, I ds ++ [D.int x] = I (ds ++ [x]) := fun x => by simp
    rcases dr with ⟨rfl, ok⟩ | ⟨rfl, ok⟩
    · simp only [sAsg, sPar, sIf, sRet, sRetN, sExp, sSet, sAug, sAugS, sBrk, sCnt, sRaise, sNil, exE, fVar, fLit, fNeg, fIsN, fBin, fChain, fAnd, fOr, fNot, fIte, fNil, fCons, fTup, fLst, fFN, fMt, fIsi, fCall, fSl1, fRev, fNewL, fFC, fXv, fIt, fSeq, fin_v, fin_n, finE_v, finE_n, gAdd_i, gAdd_s, gSub_i, gEq_i, gEq_b, gNe_i, gNe_b, gLt_i, gLe_i, gGt_i, gGe_i, gInt_i, gInt_b, gInp_a, gInp_s, gLen_t, gTuple_t, gList_t, chk_t, asgT, asgL, tyD, Ev.isNon, gRange1_i, Ty.isa, List.getElem?_cons_zero, List.getElem?_cons_succ, List.set_cons_zero, List.set_cons_succ, List.map_cons, List.map_nil, List.cons_append, List.nil_append, List.any_cons, List.any_nil, Option.map_some, Option.map_none, Bool.or_false, Bool.false_or, Bool.or_true, Bool.true_or, Bool.and_true, Bool.true_and, Bool.and_false, Bool.false_and, Bool.not_true, Bool.not_false, show decide ((0:Int) = 1) = false from rfl]
      refine H.take pp (by omega) (by decide) (by decide) fun w h2 w0 w1 hl2 hk2 hp2 => ?_
      have ld2 : lstAt h2 kd = some (I ds) := by rw [hk2 kd hne]; exact ld
      rw [hn2]
      simp only [sAsg, sPar, sIf, sRet, sRetN, sExp, sSet, sAug, sAugS, sBrk, sCnt, sRaise, sNil, exE, fVar, fLit, fNeg, fIsN, fBin, fChain, fAnd, fOr, fNot, fIte, fNil, fCons, fTup, fLst, fFN, fMt, fIsi, fCall, fSl1, fRev, fNewL, fFC, fXv, fIt, fSeq, fin_v, fin_n, finE_v, finE_n, gAdd_i, gAdd_s, gSub_i, gEq_i, gEq_b, gNe_i, gNe_b, gLt_i, gLe_i, gGt_i, gGe_i, gInt_i, gInt_b, gInp_a, gInp_s, gLen_t, gTuple_t, gList_t, chk_t, asgT, asgL, tyD, Ev.isNon, gRange1_i, Ty.isa, List.getElem?_cons_zero, List.getElem?_cons_succ, List.set_cons_zero, List.set_cons_succ, List.map_cons, List.map_nil, List.cons_append, List.nil_append, List.any_cons, List.any_nil, Option.map_some, Option.map_none, Bool.or_false, Bool.false_or, Bool.or_true, Bool.true_or, Bool.and_true, Bool.true_and, Bool.and_false, Bool.false_and, Bool.not_true, Bool.not_false, Mt.g, Mt.ty, decide_true, ap h2 w ld2, finE_w]
      refine zn _ _ ⟨ds ++ [w], w, _, rfl, ?_, by simp [dl], by rw [eI]; exact lstAt_set (lstAt_len ld2), pot_set hne hp2⟩
      have : w = 0 ∨ w = 1 := by omega
      rcases this with rfl | rfl
      · exact .inl ⟨rfl, .zero ok.weak⟩
      · exact .inr ⟨rfl, .one ok⟩
    · simp only [sAsg, sPar, sIf, sRet, sRetN, sExp, sSet, sAug, sAugS, sBrk, sCnt, sRaise, sNil, exE, fVar, fLit, fNeg, fIsN, fBin, fChain, fAnd, fOr, fNot, fIte, fNil, fCons, fTup, fLst, fFN, fMt, fIsi, fCall, fSl1, fRev, fNewL, fFC, fXv, fIt, fSeq, fin_v, fin_n, finE_v, finE_n, gAdd_i, gAdd_s, gSub_i, gEq_i, gEq_b, gNe_i, gNe_b, gLt_i, gLe_i, gGt_i, gGe_i, gInt_i, gInt_b, gInp_a, gInp_s, gLen_t, gTuple_t, gList_t, chk_t, asgT, asgL, tyD, Ev.isNon, gRange1_i, Ty.isa, List.getElem?_cons_zero, List.getElem?_cons_succ, List.set_cons_zero, List.set_cons_succ, List.map_cons, List.map_nil, List.cons_append, List.nil_append, List.any_cons, List.any_nil, Option.map_some, Option.map_none, Bool.or_false, Bool.false_or, Bool.or_true, Bool.true_or, Bool.and_true, Bool.true_and, Bool.and_false, Bool.false_and, Bool.not_true, Bool.not_false, show decide ((1:Int) = 1) = true from rfl]
      rw [hn2]
      simp only [sAsg, sPar, sIf, sRet, sRetN, sExp, sSet, sAug, sAugS, sBrk, sCnt, sRaise, sNil, exE, fVar, fLit, fNeg, fIsN, fBin, fChain, fAnd, fOr, fNot, fIte, fNil, fCons, fTup, fLst, fFN, fMt, fIsi, fCall, fSl1, fRev, fNewL, fFC, fXv, fIt, fSeq, fin_v, fin_n, finE_v, finE_n, gAdd_i, gAdd_s, gSub_i, gEq_i, gEq_b, gNe_i, gNe_b, gLt_i, gLe_i, gGt_i, gGe_i, gInt_i, gInt_b, gInp_a, gInp_s, gLen_t, gTuple_t, gList_t, chk_t, asgT, asgL, tyD, Ev.isNon, gRange1_i, Ty.isa, List.getElem?_cons_zero, List.getElem?_cons_succ, List.set_cons_zero, List.set_cons_succ, List.map_cons, List.map_nil, List.cons_append, List.nil_append, List.any_cons, List.any_nil, Option.map_some, Option.map_none, Bool.or_false, Bool.false_or, Bool.or_true, Bool.true_or, Bool.and_true, Bool.true_and, Bool.and_false, Bool.false_and, Bool.not_true, Bool.not_false, Mt.g, Mt.ty, decide_true, ap h 0 ld, finE_w]
      exact zn _ _ ⟨ds ++ [0], 0, _, rfl, .inl ⟨rfl, .zero ok⟩, by simp [dl], by rw [eI]; exact lstAt_set (lstAt_len ld), pot_set hne (pot_up pp (by omega))⟩
  · subst e
    exact k ds l z h dr (by omega) ld (pot_up pp (by omega))
theorem s5 {kd : Nat} (hd : lstAt h' kd = some (I ds)) (k : Y.nx [some d, some (.ref kp), e2, e3, e4, some (.ref kd), e6, e7, some (.tup (I ds)), e9, e10, e11, e12, e13, e14] h') :
    (sAsg (fFN gTuple (fCons (fVar 5) fNil)) (.nm 8)) [some d, some (.ref kp), e2, e3, e4, some (.ref kd), e6, e7, e8, e9, e10, e11, e12, e13, e14] h' Y := by
  simp only [sAsg, sPar, sIf, sRet, sRetN, sExp, sSet, sAug, sAugS, sBrk, sCnt, sRaise, sNil, exE, fVar, fLit, fNeg, fIsN, fBin, fChain, fAnd, fOr, fNot, fIte, fNil, fCons, fTup, fLst, fFN, fMt, fIsi, fCall, fSl1, fRev, fNewL, fFC, fXv, fIt, fSeq, fin_v, fin_n, finE_v, finE_n, gAdd_i, gAdd_s, gSub_i, gEq_i, gEq_b, gNe_i, gNe_b, gLt_i, gLe_i, gGt_i, gGe_i, gInt_i, gInt_b, gInp_a, gInp_s, gLen_t, gTuple_t, gList_t, chk_t, asgT, asgL, tyD, Ev.isNon, gRange1_i, Ty.isa, List.getElem?_cons_zero, List.getElem?_cons_succ, List.set_cons_zero, List.set_cons_succ, List.map_cons, List.map_nil, List.cons_append, List.nil_append, List.any_cons, List.any_nil, Option.map_some, Option.map_none, Bool.or_false, Bool.false_or, Bool.or_true, Bool.true_or, Bool.and_true, Bool.true_and, Bool.and_false, Bool.false_and, Bool.not_true, Bool.not_false, gTuple_l hd]
  exact k
theorem s6 (ok : Okd false ds) (hl : ds.length ≤ 1000) (k : Y.nx [some d, some (.ref kp), e2, e3, e4, e5, e6, e7, some (.tup (I ds)), some (.int (va 0 ds)), e10, e11, e12, e13, e14] h') :
    (sAsg (fCall sn (fCons (fVar 8) fNil)) (.nm 9)) [some d, some (.ref kp), e2, e3, e4, e5, e6, e7, some (.tup (I ds)), e9, e10, e11, e12, e13, e14] h' Y := by
  simp only [sAsg, sPar, sIf, sRet, sRetN, sExp, sSet, sAug, sAugS, sBrk, sCnt, sRaise, sNil, exE, fVar, fLit, fNeg, fIsN, fBin, fChain, fAnd, fOr, fNot, fIte, fNil, fCons, fTup, fLst, fFN, fMt, fIsi, fCall, fSl1, fRev, fNewL, fFC, fXv, fIt, fSeq, fin_v, fin_n, finE_v, finE_n, gAdd_i, gAdd_s, gSub_i, gEq_i, gEq_b, gNe_i, gNe_b, gLt_i, gLe_i, gGt_i, gGe_i, gInt_i, gInt_b, gInp_a, gInp_s, gLen_t, gTuple_t, gList_t, chk_t, asgT, asgL, tyD, Ev.isNon, gRange1_i, Ty.isa, List.getElem?_cons_zero, List.getElem?_cons_succ, List.set_cons_zero, List.set_cons_succ, List.map_cons, List.map_nil, List.cons_append, List.nil_append, List.any_cons, List.any_nil, Option.map_some, Option.map_none, Bool.or_false, Bool.false_or, Bool.or_true, Bool.true_or, Bool.and_true, Bool.true_and, Bool.and_false, Bool.false_and, Bool.not_true, Bool.not_false]
  exact H.number ok hl k
theorem s7 {kd : Nat} (hne : kd ≠ kp) (hd : lstAt h' kd = some (I ds)) (hl : ds.length ≤ 39) (hp : PotAt h' kp c) (k : ∀ es j z h2, ds = es ++ List.replicate j 0 → (∀ fs, es ≠ fs ++ [0]) → lstAt h2 kd = some (I es) → PotAt h2 kp c → Y.nx [some d, some (.ref kp), e2, e3, e4, some (.ref kd), e6, e7, e8, e9, z, e11, e12, e13, e14] h2) :
    (sFor (fIt gRange1 (fCons (fLit (.int 40)) fNil)) (.nm 10) (sIf (fAnd (fBin gNe (fVar 5) (fLst fNil)) (fBin gEq (fBin gIx (fVar 5) (fNeg (fLit (.int 1)))) (fLit (.int 0)))) (sExp (fMt .pop (fVar 5) fNil)) sNil)) [some d, some (.ref kp), e2, e3, e4, some (.ref kd), e6, e7, e8, e9, e10, e11, e12, e13, e14] h' Y := by
  simp only [sAsg, sPar, sIf, sRet, sRetN, sExp, sSet, sAug, sAugS, sBrk, sCnt, sRaise, sNil, exE, fVar, fLit, fNeg, fIsN, fBin, fChain, fAnd, fOr, fNot, fIte, fNil, fCons, fTup, fLst, fFN, fMt, fIsi, fCall, fSl1, fRev, fNewL, fFC, fXv, fIt, fSeq, fin_v, fin_n, finE_v, finE_n, gAdd_i, gAdd_s, gSub_i, gEq_i, gEq_b, gNe_i, gNe_b, gLt_i, gLe_i, gGt_i, gGe_i, gInt_i, gInt_b, gInp_a, gInp_s, gLen_t, gTuple_t, gList_t, chk_t, asgT, asgL, tyD, Ev.isNon, gRange1_i, Ty.isa, List.getElem?_cons_zero, List.getElem?_cons_succ, List.set_cons_zero, List.set_cons_succ, List.map_cons, List.map_nil, List.cons_append, List.nil_append, List.any_cons, List.any_nil, Option.map_some, Option.map_none, Bool.or_false, Bool.false_or, Bool.or_true, Bool.true_or, Bool.and_true, Bool.true_and, Bool.and_false, Bool.false_and, Bool.not_true, Bool.not_false, sFor, gRange1_i (show big62 40 = true by decide)]
  refine foL_rng (fun i env h => ∃ es j z, env = [some d, some (.ref kp), e2, e3, e4, some (.ref kd), e6, e7, e8, e9, z, e11, e12, e13, e14] ∧ ds = es ++ List.replicate j 0 ∧ ((∀ fs, es ≠ fs ++ [0]) ∨ j = i) ∧ lstAt h kd = some (I es) ∧ PotAt h kp c) (fun i env h ⟨es, j, z, e, ed, ez, le, pp⟩ hi => ?_) (fun env h ⟨es, j, z, e, ed, ez, le, pp⟩ => ?_) fuel 0 _ _ ⟨ds, 0, e10, rfl, by simp, .inr rfl, hd, hp⟩ (Nat.zero_le _) (by rw [fuel_eq]; decide)
  · subst e
    refine ⟨_, rfl, fun Z' zn _ _ _ _ => ?_⟩
    have nn := ne_nil (a := kd) (b := h.length) (h := h ++ [Ob.lst []]) (lstAt_app le) lst_last
    have le2 : lstAt (h ++ [Ob.lst []]) kd = some (I es) := lstAt_app le
    rcases List.eq_nil_or_concat es with rfl | ⟨fs, x, rfl⟩
    · have nn : gNe (.ref kd) (.ref h.length) (h ++ [Ob.lst []]) = some (.val (.bl false)) := nn
      simp only [sAsg, sPar, sIf, sRet, sRetN, sExp, sSet, sAug, sAugS, sBrk, sCnt, sRaise, sNil, exE, fVar, fLit, fNeg, fIsN, fBin, fChain, fAnd, fOr, fNot, fIte, fNil, fCons, fTup, fLst, fFN, fMt, fIsi, fCall, fSl1, fRev, fNewL, fFC, fXv, fIt, fSeq, fin_v, fin_n, finE_v, finE_n, gAdd_i, gAdd_s, gSub_i, gEq_i, gEq_b, gNe_i, gNe_b, gLt_i, gLe_i, gGt_i, gGe_i, gInt_i, gInt_b, gInp_a, gInp_s, gLen_t, gTuple_t, gList_t, chk_t, asgT, asgL, tyD, Ev.isNon, gRange1_i, Ty.isa, List.getElem?_cons_zero, List.getElem?_cons_succ, List.set_cons_zero, List.set_cons_succ, List.map_cons, List.map_nil, List.cons_append, List.nil_append, List.any_cons, List.any_nil, Option.map_some, Option.map_none, Bool.or_false, Bool.false_or, Bool.or_true, Bool.true_or, Bool.and_true, Bool.true_and, Bool.and_false, Bool.false_and, Bool.not_true, Bool.not_false, c0, nn]
      exact zn _ _ ⟨[], j, _, rfl, ed, .inl (fun fs z => by simp at z), le2, pot_app pp⟩
    · have emp : (fs.concat x).isEmpty = false := by rw [List.concat_eq_append]; cases fs <;> rfl
      rw [emp] at nn
      rw [List.concat_eq_append] at le2 ed ez
      have eI : I (fs ++ [x]) = I fs ++ [D.int x] := by simp
      rw [eI] at le2
      have ix : gIx (.ref kd) (.int (-1)) (h ++ [Ob.lst []]) = some (.val (.int x)) := gIx_l le2 atI_m1
      by_cases hx : x = 0
      · subst hx
        have po := gPop_l le2
        simp only [sAsg, sPar, sIf, sRet, sRetN, sExp, sSet, sAug, sAugS, sBrk, sCnt, sRaise, sNil, exE, fVar, fLit, fNeg, fIsN, fBin, fChain, fAnd, fOr, fNot, fIte, fNil, fCons, fTup, fLst, fFN, fMt, fIsi, fCall, fSl1, fRev, fNewL, fFC, fXv, fIt, fSeq, fin_v, fin_n, finE_v, finE_n, gAdd_i, gAdd_s, gSub_i, gEq_i, gEq_b, gNe_i, gNe_b, gLt_i, gLe_i, gGt_i, gGe_i, gInt_i, gInt_b, gInp_a, gInp_s, gLen_t, gTuple_t, gList_t, chk_t, asgT, asgL, tyD, Ev.isNon, gRange1_i, Ty.isa, List.getElem?_cons_zero, List.getElem?_cons_succ, List.set_cons_zero, List.set_cons_succ, List.map_cons, List.map_nil, List.cons_append, List.nil_append, List.any_cons, List.any_nil, Option.map_some, Option.map_none, Bool.or_false, Bool.false_or, Bool.or_true, Bool.true_or, Bool.and_true, Bool.true_and, Bool.and_false, Bool.false_and, Bool.not_true, Bool.not_false, c0, nn, ix, decide_true, Mt.g, Mt.ty, po, finE_w]
        refine zn _ _ ⟨fs, j + 1, _, rfl, ?_, ?_, lstAt_set (lstAt_len le2), pot_set hne (pot_app pp)⟩
        · rw [ed, List.append_assoc]
          rfl
        · rcases ez with ez | ez
          · exact absurd rfl (ez fs)
          · exact .inr (by omega)
      · have hd0 : decide (x = 0) = false := decide_eq_false hx
        simp only [sAsg, sPar, sIf, sRet, sRetN, sExp, sSet, sAug, sAugS, sBrk, sCnt, sRaise, sNil, exE, fVar, fLit, fNeg, fIsN, fBin, fChain, fAnd, fOr, fNot, fIte, fNil, fCons, fTup, fLst, fFN, fMt, fIsi, fCall, fSl1, fRev, fNewL, fFC, fXv, fIt, fSeq, fin_v, fin_n, finE_v, finE_n, gAdd_i, gAdd_s, gSub_i, gEq_i, gEq_b, gNe_i, gNe_b, gLt_i, gLe_i, gGt_i, gGe_i, gInt_i, gInt_b, gInp_a, gInp_s, gLen_t, gTuple_t, gList_t, chk_t, asgT, asgL, tyD, Ev.isNon, gRange1_i, Ty.isa, List.getElem?_cons_zero, List.getElem?_cons_succ, List.set_cons_zero, List.set_cons_succ, List.map_cons, List.map_nil, List.cons_append, List.nil_append, List.any_cons, List.any_nil, Option.map_some, Option.map_none, Bool.or_false, Bool.false_or, Bool.or_true, Bool.true_or, Bool.and_true, Bool.true_and, Bool.and_false, Bool.false_and, Bool.not_true, Bool.not_false, c0, nn, ix, hd0]
        exact zn _ _ ⟨fs ++ [x], j, _, rfl, ed, .inl (fun gs z => by
          have := List.append_inj_right' z rfl
          simp at this
          exact hx this), by rw [eI]; exact le2, pot_app pp⟩
  · subst e
    refine k es j z h ed ?_ le pp
    rcases ez with ez | ez
    · exact ez
    · have := congrArg List.length ed
      rw [List.length_append, List.length_replicate, ez] at this
      have : (40 : Int).toNat = 40 := rfl
      omega
theorem s8 {kd j : Nat} (hd : lstAt h' kd = some (I es)) (ok : Okd false ds) (hl : ds.length ≤ 39) (ed : ds = es ++ List.replicate j 0) (hz : ∀ fs, es ≠ fs ++ [0]) (hp : PotAt h' kp c) (k : ∀ h2, PotAt h2 kp c → Y.nx [some d, some (.ref kp), e2, e3, e4, some (.ref kd), e6, e7, some (.tup (I ds)), some (.int (va 0 ds)), e10, e11, e12, e13, e14] h2) :
    (sIf (fNot (fCall ss (fCons (fLst (fCons (fVar 9) (fCons (fCall sd (fCons (fVar 9) fNil)) fNil))) (fCons (fLst (fCons (fCall su (fCons (fVar 8) fNil)) (fCons (fFN gTuple (fCons (fVar 5) fNil)) fNil))) fNil)))) (sRet (fLit (.bl false))) sNil) [some d, some (.ref kp), e2, e3, e4, some (.ref kd), e6, e7, some (.tup (I ds)), some (.int (va 0 ds)), e10, e11, e12, e13, e14] h' Y := by
  have okE : Okd false es := by rw [ed] at ok; exact ok.pre
  have hv : va 0 ds = va 0 es := by rw [ed, va_strip]
  have hle : es.length ≤ 39 := by
    have := congrArg List.length ed
    rw [List.length_append] at this
    omega
  have hcn := cnt_of okE hz
  have hu := gr_uniq okE
  simp only [sAsg, sPar, sIf, sRet, sRetN, sExp, sSet, sAug, sAugS, sBrk, sCnt, sRaise, sNil, exE, fVar, fLit, fNeg, fIsN, fBin, fChain, fAnd, fOr, fNot, fIte, fNil, fCons, fTup, fLst, fFN, fMt, fIsi, fCall, fSl1, fRev, fNewL, fFC, fXv, fIt, fSeq, fin_v, fin_n, finE_v, finE_n, gAdd_i, gAdd_s, gSub_i, gEq_i, gEq_b, gNe_i, gNe_b, gLt_i, gLe_i, gGt_i, gGe_i, gInt_i, gInt_b, gInp_a, gInp_s, gLen_t, gTuple_t, gList_t, chk_t, asgT, asgL, tyD, Ev.isNon, gRange1_i, Ty.isa, List.getElem?_cons_zero, List.getElem?_cons_succ, List.set_cons_zero, List.set_cons_succ, List.map_cons, List.map_nil, List.cons_append, List.nil_append, List.any_cons, List.any_nil, Option.map_some, Option.map_none, Bool.or_false, Bool.false_or, Bool.or_true, Bool.true_or, Bool.and_true, Bool.true_and, Bool.and_false, Bool.false_and, Bool.not_true, Bool.not_false]
  refine H.golden (by rw [hv]; exact okE.bound.1) (by rw [hv]; exact hcn) (by omega) fun g => ?_
  simp only [sAsg, sPar, sIf, sRet, sRetN, sExp, sSet, sAug, sAugS, sBrk, sCnt, sRaise, sNil, exE, fVar, fLit, fNeg, fIsN, fBin, fChain, fAnd, fOr, fNot, fIte, fNil, fCons, fTup, fLst, fFN, fMt, fIsi, fCall, fSl1, fRev, fNewL, fFC, fXv, fIt, fSeq, fin_v, fin_n, finE_v, finE_n, gAdd_i, gAdd_s, gSub_i, gEq_i, gEq_b, gNe_i, gNe_b, gLt_i, gLe_i, gGt_i, gGe_i, gInt_i, gInt_b, gInp_a, gInp_s, gLen_t, gTuple_t, gList_t, chk_t, asgT, asgL, tyD, Ev.isNon, gRange1_i, Ty.isa, List.getElem?_cons_zero, List.getElem?_cons_succ, List.set_cons_zero, List.set_cons_succ, List.map_cons, List.map_nil, List.cons_append, List.nil_append, List.any_cons, List.any_nil, Option.map_some, Option.map_none, Bool.or_false, Bool.false_or, Bool.or_true, Bool.true_or, Bool.and_true, Bool.true_and, Bool.and_false, Bool.false_and, Bool.not_true, Bool.not_false, c2]
  refine H.sum ok (by omega) ?_
  rw [hv, hu]
  have e1 : lstAt (h' ++ g ++ [Ob.lst [.int (va 0 es), .tup (I es)]]) kd = some (I es) := lstAt_app (lstAt_app hd)
  simp only [sAsg, sPar, sIf, sRet, sRetN, sExp, sSet, sAug, sAugS, sBrk, sCnt, sRaise, sNil, exE, fVar, fLit, fNeg, fIsN, fBin, fChain, fAnd, fOr, fNot, fIte, fNil, fCons, fTup, fLst, fFN, fMt, fIsi, fCall, fSl1, fRev, fNewL, fFC, fXv, fIt, fSeq, fin_v, fin_n, finE_v, finE_n, gAdd_i, gAdd_s, gSub_i, gEq_i, gEq_b, gNe_i, gNe_b, gLt_i, gLe_i, gGt_i, gGe_i, gInt_i, gInt_b, gInp_a, gInp_s, gLen_t, gTuple_t, gList_t, chk_t, asgT, asgL, tyD, Ev.isNon, gRange1_i, Ty.isa, List.getElem?_cons_zero, List.getElem?_cons_succ, List.set_cons_zero, List.set_cons_succ, List.map_cons, List.map_nil, List.cons_append, List.nil_append, List.any_cons, List.any_nil, Option.map_some, Option.map_none, Bool.or_false, Bool.false_or, Bool.or_true, Bool.true_or, Bool.and_true, Bool.true_and, Bool.and_false, Bool.false_and, Bool.not_true, Bool.not_false, c2, gTuple_l e1]
  refine H.same ?_ ?_
  · refine same_ref (xs := [.int (va 0 es), .tup (I es)]) (ys := [.int (va 0 es), .tup (I es)]) (lstAt_app lst_last) lst_last rfl (by show 2 < 1000000; decide) fun i x y a1 a2 => ?_
    rw [a1] at a2
    cases a2
    have := List.mem_of_getElem? a1
    simp only [List.mem_cons, List.not_mem_nil, or_false] at this
    rcases this with rfl | rfl
    · rfl
    · exact same_tup (simple_I _) (by rw [List.length_map]; omega)
  simp only [sAsg, sPar, sIf, sRet, sRetN, sExp, sSet, sAug, sAugS, sBrk, sCnt, sRaise, sNil, exE, fVar, fLit, fNeg, fIsN, fBin, fChain, fAnd, fOr, fNot, fIte, fNil, fCons, fTup, fLst, fFN, fMt, fIsi, fCall, fSl1, fRev, fNewL, fFC, fXv, fIt, fSeq, fin_v, fin_n, finE_v, finE_n, gAdd_i, gAdd_s, gSub_i, gEq_i, gEq_b, gNe_i, gNe_b, gLt_i, gLe_i, gGt_i, gGe_i, gInt_i, gInt_b, gInp_a, gInp_s, gLen_t, gTuple_t, gList_t, chk_t, asgT, asgL, tyD, Ev.isNon, gRange1_i, Ty.isa, List.getElem?_cons_zero, List.getElem?_cons_succ, List.set_cons_zero, List.set_cons_succ, List.map_cons, List.map_nil, List.cons_append, List.nil_append, List.any_cons, List.any_nil, Option.map_some, Option.map_none, Bool.or_false, Bool.false_or, Bool.or_true, Bool.true_or, Bool.and_true, Bool.true_and, Bool.and_false, Bool.false_and, Bool.not_true, Bool.not_false]
  rw [← hv]
  exact k _ (pot_app (pot_app (pot_app hp)))
end
end K78

set_option Elab.async false
set_option linter.all false
set_option maxRecDepth 100000
set_option maxHeartbeats 0
namespace K78
open PySem PySem.Spec PyProof.Rows L2 NdefX Ev
section
variable {st sg sd sn su ss sr : Ev.Spec} (H : Hs st sg sd sn su ss sr) {kp c : Nat} {d : D} {e2 e3 e4 e5 e6 e7 e8 e9 e10 e11 e12 e13 e14 : Option D} {h' : VH} {Y : ED} {n : Int} {m l : Nat} {ds : List Int} {es : List Int}
include H
theorem s9 (n0 : 0 ≤ n) (h1 : Cnt n m) (hm : m ≤ 150) (h2 : Cnt (n + 1) l) (hl : l ≤ 151) (hp : PotAt h' kp c) (k : ∀ h2, PotAt h2 kp c → Y.nx [some d, some (.ref kp), e2, some (.int n), e4, e5, e6, e7, e8, e9, e10, some (.tup (I (gr m n))), some (.tup (I (gr l (n + 1)))), e13, e14] h2) :
    (sPar (fCons (fCall sd (fCons (fVar 3) fNil)) (fCons (fCall sd (fCons (fBin gAdd (fVar 3) (fLit (.int 1))) fNil)) fNil)) (.cons (.nm 11) (.cons (.nm 12) .nil))) [some d, some (.ref kp), e2, some (.int n), e4, e5, e6, e7, e8, e9, e10, e11, e12, e13, e14] h' Y := by
  simp only [sAsg, sPar, sIf, sRet, sRetN, sExp, sSet, sAug, sAugS, sBrk, sCnt, sRaise, sNil, exE, fVar, fLit, fNeg, fIsN, fBin, fChain, fAnd, fOr, fNot, fIte, fNil, fCons, fTup, fLst, fFN, fMt, fIsi, fCall, fSl1, fRev, fNewL, fFC, fXv, fIt, fSeq, fin_v, fin_n, finE_v, finE_n, gAdd_i, gAdd_s, gSub_i, gEq_i, gEq_b, gNe_i, gNe_b, gLt_i, gLe_i, gGt_i, gGe_i, gInt_i, gInt_b, gInp_a, gInp_s, gLen_t, gTuple_t, gList_t, chk_t, asgT, asgL, tyD, Ev.isNon, gRange1_i, Ty.isa, List.getElem?_cons_zero, List.getElem?_cons_succ, List.set_cons_zero, List.set_cons_succ, List.map_cons, List.map_nil, List.cons_append, List.nil_append, List.any_cons, List.any_nil, Option.map_some, Option.map_none, Bool.or_false, Bool.false_or, Bool.or_true, Bool.true_or, Bool.and_true, Bool.true_and, Bool.and_false, Bool.false_and, Bool.not_true, Bool.not_false]
  refine H.golden n0 h1 (by omega) fun g1 => ?_
  refine H.golden (by omega) h2 (by omega) fun g2 => ?_
  exact k _ (pot_app (pot_app hp))
end
end K78

set_option Elab.async false
set_option linter.all false
set_option maxRecDepth 100000
set_option maxHeartbeats 0
namespace K78
open PySem PySem.Spec PyProof.Rows L2 NdefX Ev
section
variable {st sg sd sn su ss sr : Ev.Spec} (H : Hs st sg sd sn su ss sr) {kp c : Nat} {d : D} {e2 e3 e4 e5 e6 e7 e8 e9 e10 e11 e12 e13 e14 : Option D} {h' : VH} {Y : ED} {n : Int} {m l : Nat} {ds : List Int} {es : List Int}
include H
theorem s10 (n0 : 0 ≤ n) (h1 : Cnt n m) (h2 : Cnt (n + 1) l) (k : Y.nx [some d, some (.ref kp), e2, e3, e4, e5, e6, e7, e8, e9, e10, some (.tup (I (gr m n))), some (.tup (I (gr l (n + 1)))), e13, e14] h') :
    (sIf (fBin gLe (fTup (fCons (fFN gLen (fCons (fVar 12) fNil)) (fCons (fRev (fVar 12)) fNil))) (fTup (fCons (fFN gLen (fCons (fVar 11) fNil)) (fCons (fRev (fVar 11)) fNil)))) (sRet (fLit (.bl false))) sNil) [some d, some (.ref kp), e2, e3, e4, e5, e6, e7, e8, e9, e10, some (.tup (I (gr m n))), some (.tup (I (gr l (n + 1)))), e13, e14] h' Y := by
  have r : ∀ xs : List Int, (I xs).reverse = I xs.reverse := fun xs => by unfold I; rw [List.map_reverse]
  have ln : ∀ xs : List Int, (I xs).length = xs.length := fun xs => List.length_map ..
  have o := order_ok n0 h1 h2
  simp only [sAsg, sPar, sIf, sRet, sRetN, sExp, sSet, sAug, sAugS, sBrk, sCnt, sRaise, sNil, exE, fVar, fLit, fNeg, fIsN, fBin, fChain, fAnd, fOr, fNot, fIte, fNil, fCons, fTup, fLst, fFN, fMt, fIsi, fCall, fSl1, fRev, fNewL, fFC, fXv, fIt, fSeq, fin_v, fin_n, finE_v, finE_n, gAdd_i, gAdd_s, gSub_i, gEq_i, gEq_b, gNe_i, gNe_b, gLt_i, gLe_i, gGt_i, gGe_i, gInt_i, gInt_b, gInp_a, gInp_s, gLen_t, gTuple_t, gList_t, chk_t, asgT, asgL, tyD, Ev.isNon, gRange1_i, Ty.isa, List.getElem?_cons_zero, List.getElem?_cons_succ, List.set_cons_zero, List.set_cons_succ, List.map_cons, List.map_nil, List.cons_append, List.nil_append, List.any_cons, List.any_nil, Option.map_some, Option.map_none, Bool.or_false, Bool.false_or, Bool.or_true, Bool.true_or, Bool.and_true, Bool.true_and, Bool.and_false, Bool.false_and, Bool.not_true, Bool.not_false, c2, r, ln, gr_len, gLe_pair, o]
  exact k
end
end K78

set_option Elab.async false
set_option linter.all false
set_option maxRecDepth 100000
set_option maxHeartbeats 0
namespace K78
open PySem PySem.Spec PyProof.Rows L2 NdefX Ev
theorem tp1 (a : D) : fTup (fCons (fLit a) fNil) = fLit (.tup [a]) := by
  funext env h Q E
  show chk (decide (([a] : List D).length ≤ line)) _ = _
  rw [c1]; rfl
theorem tp2 (a b : D) : fTup (fCons (fLit a) (fCons (fLit b) fNil)) = fLit (.tup [a, b]) := by
  funext env h Q E
  show chk (decide (([a, b] : List D).length ≤ line)) _ = _
  rw [c2]; rfl
theorem tp4 (a b c d : D) : fTup (fCons (fLit a) (fCons (fLit b) (fCons (fLit c) (fCons (fLit d) fNil)))) = fLit (.tup [a, b, c, d]) := by
  funext env h Q E
  show chk (decide (([a, b, c, d] : List D).length ≤ line)) _ = _
  rw [c4]; rfl
theorem ng1 (i : Int) : fNeg (fLit (.int i)) = fLit (.int (-i)) := rfl
theorem ls2 (a b : D) : fLst (fCons (fLit a) (fCons (fLit b) fNil)) = fun _ h Q _ => Q (.ref h.length) (h ++ [.lst [a, b]]) := by
  funext env h Q E
  show chk (decide (([a, b] : List D).length ≤ line)) _ = _
  rw [c2]; rfl
theorem ls10 (a b c d e f g i j : D) (fx : FE) : fLst (fCons (fLit a) (fCons (fLit b) (fCons fx (fCons (fLit c) (fCons (fLit d) (fCons (fLit e) (fCons (fLit f) (fCons (fLit g) (fCons (fLit i) (fCons (fLit j) fNil)))))))))) = fun env h Q E => fx env h (fun x h1 => Q (.ref h1.length) (h1 ++ [.lst [a, b, x, c, d, e, f, g, i, j]])) E := by
  funext env h Q E
  show fx env h (fun x h1 => chk (decide (([a, b, x, c, d, e, f, g, i, j] : List D).length ≤ line)) _) E = _
  simp only [c10]
  rfl
section
variable {st sg sd sn su ss sr : Ev.Spec} (H : Hs st sg sd sn su ss sr) {kp c : Nat} {d : D} {e2 e3 e4 e5 e6 e7 e8 e9 e10 e11 e12 e13 e14 : Option D} {h' : VH} {Y : ED} {n : Int} {m l : Nat} {ds : List Int} {es : List Int}
include H
theorem s11 (hp : PotAt h' kp c) (hc : c ≤ 1000) (k : ∀ w h2, WOk h2 w → PotAt h2 kp (c + 1) → Y.nx [some d, some (.ref kp), e2, e3, e4, e5, e6, e7, e8, e9, e10, e11, e12, some w, e14] h2) :
    (sAsg (fBin gIx (fLst (fCons (fTup (fCons (fLit (.int 1)) (fCons (fLit (.int 1)) fNil))) (fCons (fTup (fCons (fLit (.int 0)) (fCons (fLit (.int 1)) (fCons (fLit (.int 1)) (fCons (fLit (.int 0)) fNil))))) (fCons (fLst (fCons (fLit (.int 0)) (fCons (fLit (.int 1)) fNil))) (fCons (fTup (fCons (fLit (.int 2)) fNil)) (fCons (fTup (fCons (fLit (.int 0)) (fCons (fNeg (fLit (.int 1))) fNil))) (fCons (fLit .non) (fCons (fTup (fCons (fLit (.bl true)) fNil)) (fCons (fTup (fCons (fLit (.str "1")) fNil)) (fCons (fLit (.int 5)) (fCons (fTup (fCons (fLit (.int 1)) (fCons (fLit (.int 0)) (fCons (fLit (.int 1)) (fCons (fLit (.int 1)) fNil))))) fNil))))))))))) (fCall st (fCons (fVar 1) (fCons (fLit (.int 10)) fNil)))) (.nm 13)) [some d, some (.ref kp), e2, e3, e4, e5, e6, e7, e8, e9, e10, e11, e12, e13, e14] h' Y := by
  rw [ng1, tp1, tp1, tp1, tp2, tp2, tp4, tp4, ls2, ls10]
  show st [.ref kp, .int 10] _ _ _
  refine H.take (pot_app (pot_app hp)) (by omega) (by decide) (by decide) fun v h1 v0 v1 hl1 hk1 hp1 => ?_
  have hkp := pot_lt hp
  obtain ⟨w, hmem, eat⟩ := pick (xs := [.tup [.int 1, .int 1], .tup [.int 0, .int 1, .int 1, .int 0], .ref h'.length, .tup [.int 2], .tup [.int 0, .int (-1)], .non, .tup [.bl true], .tup [.str "1"], .int 5, .tup [.int 1, .int 0, .int 1, .int 1]]) v0 v1
  have el := hk1 (h' ++ [Ob.lst [.int 0, .int 1]]).length (by rw [List.length_append]; omega)
  rw [lst_last] at el
  have e01 := hk1 h'.length (by omega)
  rw [lstAt_app lst_last] at e01
  rw [gIx_l el eat]
  simp only [sAsg, sPar, sIf, sRet, sRetN, sExp, sSet, sAug, sAugS, sBrk, sCnt, sRaise, sNil, exE, fVar, fLit, fNeg, fIsN, fBin, fChain, fAnd, fOr, fNot, fIte, fNil, fCons, fTup, fLst, fFN, fMt, fIsi, fCall, fSl1, fRev, fNewL, fFC, fXv, fIt, fSeq, fin_v, fin_n, finE_v, finE_n, gAdd_i, gAdd_s, gSub_i, gEq_i, gEq_b, gNe_i, gNe_b, gLt_i, gLe_i, gGt_i, gGe_i, gInt_i, gInt_b, gInp_a, gInp_s, gLen_t, gTuple_t, gList_t, chk_t, asgT, asgL, tyD, Ev.isNon, gRange1_i, Ty.isa, List.getElem?_cons_zero, List.getElem?_cons_succ, List.set_cons_zero, List.set_cons_succ, List.map_cons, List.map_nil, List.cons_append, List.nil_append, List.any_cons, List.any_nil, Option.map_some, Option.map_none, Bool.or_false, Bool.false_or, Bool.or_true, Bool.true_or, Bool.and_true, Bool.true_and, Bool.and_false, Bool.false_and, Bool.not_true, Bool.not_false]
  refine k w h1 ?_ hp1
  simp only [List.mem_cons, List.not_mem_nil, or_false] at hmem
  unfold WOk
  rcases hmem with h | h | h | h | h | h | h | h | h | h
  · exact .inl h
  · exact .inr (.inl h)
  · exact .inr (.inr (.inl ⟨_, h, e01⟩))
  · exact .inr (.inr (.inr (.inl h)))
  · exact .inr (.inr (.inr (.inr (.inl h))))
  · exact .inr (.inr (.inr (.inr (.inr (.inl h)))))
  · exact .inr (.inr (.inr (.inr (.inr (.inr (.inl h))))))
  · exact .inr (.inr (.inr (.inr (.inr (.inr (.inr (.inl h)))))))
  · exact .inr (.inr (.inr (.inr (.inr (.inr (.inr (.inr (.inl h))))))))
  · exact .inr (.inr (.inr (.inr (.inr (.inr (.inr (.inr (.inr h))))))))
end
end K78

set_option Elab.async false
set_option linter.all false
set_option maxRecDepth 100000
set_option maxHeartbeats 0
namespace K78
open PySem PySem.Spec PyProof.Rows L2 NdefX Ev
section
variable {st sg sd sn su ss sr : Ev.Spec} (H : Hs st sg sd sn su ss sr) {kp c : Nat} {d : D} {e2 e3 e4 e5 e6 e7 e8 e9 e10 e11 e12 e13 e14 : Option D} {h' : VH} {Y : ED} {n : Int} {m l : Nat} {ds : List Int} {es : List Int}
theorem wok_move {h h2 : VH} {w : D} (hw : WOk h w) (hp : PotAt h kp c) (hk : ∀ l, l ≠ kp → lstAt h2 l = lstAt h l) : WOk h2 w := by
  unfold WOk at hw ⊢
  rcases hw with h | h | ⟨k, e, el⟩ | h
  · exact .inl h
  · exact .inr (.inl h)
  · refine .inr (.inr (.inl ⟨k, e, ?_⟩))
    have : k ≠ kp := fun z => by
      subst z
      obtain ⟨i, j, k', p', cells, e, C, hl⟩ := hp
      rw [el] at e
      have := congrArg (Option.map List.length) e
      simp [potL] at this
    rw [hk k this]
    exact el
  · exact .inr (.inr (.inr h))
include H
theorem s12 {w : D} (hw : WOk h' w) (hp : PotAt h' kp c) (hc : c ≤ 1000) (k : ∀ o h2, OOk o → WOk h2 w → PotAt h2 kp (c + 1) → Y.nx [some d, some (.ref kp), e2, e3, e4, e5, e6, e7, e8, e9, e10, e11, e12, some w, some o] h2) :
    (sAsg (fBin gIx (fLst (fCons (fNeg (fLit (.int 1))) (fCons (fLit .non) (fCons (fLit (.bl true)) (fCons (fLit (.str "3")) (fCons (fTup (fCons (fLit (.int 2)) fNil)) (fCons (fNeg (fBin gPow (fLit (.int 10)) (fLit (.int 20)))) fNil))))))) (fCall st (fCons (fVar 1) (fCons (fLit (.int 6)) fNil)))) (.nm 14)) [some d, some (.ref kp), e2, e3, e4, e5, e6, e7, e8, e9, e10, e11, e12, some w, e14] h' Y := by
  simp only [sAsg, sPar, sIf, sRet, sRetN, sExp, sSet, sAug, sAugS, sBrk, sCnt, sRaise, sNil, exE, fVar, fLit, fNeg, fIsN, fBin, fChain, fAnd, fOr, fNot, fIte, fNil, fCons, fTup, fLst, fFN, fMt, fIsi, fCall, fSl1, fRev, fNewL, fFC, fXv, fIt, fSeq, fin_v, fin_n, finE_v, finE_n, gAdd_i, gAdd_s, gSub_i, gEq_i, gEq_b, gNe_i, gNe_b, gLt_i, gLe_i, gGt_i, gGe_i, gInt_i, gInt_b, gInp_a, gInp_s, gLen_t, gTuple_t, gList_t, chk_t, asgT, asgL, tyD, Ev.isNon, gRange1_i, Ty.isa, List.getElem?_cons_zero, List.getElem?_cons_succ, List.set_cons_zero, List.set_cons_succ, List.map_cons, List.map_nil, List.cons_append, List.nil_append, List.any_cons, List.any_nil, Option.map_some, Option.map_none, Bool.or_false, Bool.false_or, Bool.or_true, Bool.true_or, Bool.and_true, Bool.true_and, Bool.and_false, Bool.false_and, Bool.not_true, Bool.not_false, c1, c6, gPow_i g20]
  refine H.take (pot_app hp) (by omega) (by decide) (by decide) fun v h1 v0 v1 hl1 hk1 hp1 => ?_
  have hkp := pot_lt hp
  obtain ⟨o, hmem, eat⟩ := pick (xs := [.int (-1), .non, .bl true, .str "3", .tup [.int 2], .int (-(10 : Int) ^ (20 : Int).toNat)]) v0 v1
  have el := hk1 h'.length (by omega)
  rw [lst_last] at el
  rw [gIx_l el eat]
  simp only [sAsg, sPar, sIf, sRet, sRetN, sExp, sSet, sAug, sAugS, sBrk, sCnt, sRaise, sNil, exE, fVar, fLit, fNeg, fIsN, fBin, fChain, fAnd, fOr, fNot, fIte, fNil, fCons, fTup, fLst, fFN, fMt, fIsi, fCall, fSl1, fRev, fNewL, fFC, fXv, fIt, fSeq, fin_v, fin_n, finE_v, finE_n, gAdd_i, gAdd_s, gSub_i, gEq_i, gEq_b, gNe_i, gNe_b, gLt_i, gLe_i, gGt_i, gGe_i, gInt_i, gInt_b, gInp_a, gInp_s, gLen_t, gTuple_t, gList_t, chk_t, asgT, asgL, tyD, Ev.isNon, gRange1_i, Ty.isa, List.getElem?_cons_zero, List.getElem?_cons_succ, List.set_cons_zero, List.set_cons_succ, List.map_cons, List.map_nil, List.cons_append, List.nil_append, List.any_cons, List.any_nil, Option.map_some, Option.map_none, Bool.or_false, Bool.false_or, Bool.or_true, Bool.true_or, Bool.and_true, Bool.true_and, Bool.and_false, Bool.false_and, Bool.not_true, Bool.not_false]
  refine k o h1 (ook (by decide +kernel) hmem) (wok_move ?_ (pot_app hp) hk1) hp1
  unfold WOk at hw ⊢
  rcases hw with h | h | ⟨k, e, el⟩ | h
  · exact .inl h
  · exact .inr (.inl h)
  · exact .inr (.inr (.inl ⟨k, e, lstAt_app el⟩))
  · exact .inr (.inr (.inr h))
end
end K78

set_option Elab.async false
set_option linter.all false
set_option maxRecDepth 100000
set_option maxHeartbeats 0
namespace K78
open PySem PySem.Spec PyProof.Rows L2 NdefX Ev
section
variable {st sg sd sn su ss sr : Ev.Spec} (H : Hs st sg sd sn su ss sr) {kp c : Nat} {d : D} {e2 e3 e4 e5 e6 e7 e8 e9 e10 e11 e12 e13 e14 : Option D} {h' : VH} {Y : ED} {n : Int} {m l : Nat} {ds : List Int} {es : List Int}
include H
theorem s13 {w o : D} (ho : OOk o) (hw : WOk h' w) (hp : PotAt h' kp c) (k : ∀ h2, PotAt h2 kp c → Y.nx [some d, some (.ref kp), e2, e3, e4, e5, e6, e7, e8, e9, e10, e11, e12, some w, some o] h2) :
    (sIf (fNot (fCall ss (fCons (fCall sr (fCons (fVar 14) (fCons (fVar 13) fNil))) (fCons (fLst (fCons (fLst (fCons (fVar 14) fNil)) (fCons (fLst (fCons (fVar 13) fNil)) fNil))) fNil)))) (sRet (fLit (.bl false))) sNil) [some d, some (.ref kp), e2, e3, e4, e5, e6, e7, e8, e9, e10, e11, e12, some w, some o] h' Y := by
  simp only [sAsg, sPar, sIf, sRet, sRetN, sExp, sSet, sAug, sAugS, sBrk, sCnt, sRaise, sNil, exE, fVar, fLit, fNeg, fIsN, fBin, fChain, fAnd, fOr, fNot, fIte, fNil, fCons, fTup, fLst, fFN, fMt, fIsi, fCall, fSl1, fRev, fNewL, fFC, fXv, fIt, fSeq, fin_v, fin_n, finE_v, finE_n, gAdd_i, gAdd_s, gSub_i, gEq_i, gEq_b, gNe_i, gNe_b, gLt_i, gLe_i, gGt_i, gGe_i, gInt_i, gInt_b, gInp_a, gInp_s, gLen_t, gTuple_t, gList_t, chk_t, asgT, asgL, tyD, Ev.isNon, gRange1_i, Ty.isa, List.getElem?_cons_zero, List.getElem?_cons_succ, List.set_cons_zero, List.set_cons_succ, List.map_cons, List.map_nil, List.cons_append, List.nil_append, List.any_cons, List.any_nil, Option.map_some, Option.map_none, Bool.or_false, Bool.false_or, Bool.or_true, Bool.true_or, Bool.and_true, Bool.true_and, Bool.and_false, Bool.false_and, Bool.not_true, Bool.not_false]
  refine H.refused ho hw ?_
  simp only [sAsg, sPar, sIf, sRet, sRetN, sExp, sSet, sAug, sAugS, sBrk, sCnt, sRaise, sNil, exE, fVar, fLit, fNeg, fIsN, fBin, fChain, fAnd, fOr, fNot, fIte, fNil, fCons, fTup, fLst, fFN, fMt, fIsi, fCall, fSl1, fRev, fNewL, fFC, fXv, fIt, fSeq, fin_v, fin_n, finE_v, finE_n, gAdd_i, gAdd_s, gSub_i, gEq_i, gEq_b, gNe_i, gNe_b, gLt_i, gLe_i, gGt_i, gGe_i, gInt_i, gInt_b, gInp_a, gInp_s, gLen_t, gTuple_t, gList_t, chk_t, asgT, asgL, tyD, Ev.isNon, gRange1_i, Ty.isa, List.getElem?_cons_zero, List.getElem?_cons_succ, List.set_cons_zero, List.set_cons_succ, List.map_cons, List.map_nil, List.cons_append, List.nil_append, List.any_cons, List.any_nil, Option.map_some, Option.map_none, Bool.or_false, Bool.false_or, Bool.or_true, Bool.true_or, Bool.and_true, Bool.true_and, Bool.and_false, Bool.false_and, Bool.not_true, Bool.not_false, c1, c2]
  obtain ⟨t, ht, _, hso⟩ := ho
  refine H.same ?_ ?_
  · have A : ∀ g, lstAt (h' ++ Ob.lst [.ref (h'.length + 1), .ref (h'.length + 2)] :: Ob.lst [o] :: Ob.lst [w] :: g) h'.length = some [.ref (h'.length + 1), .ref (h'.length + 2)] := fun g => lstAt_new
    have B : ∀ g, lstAt (h' ++ Ob.lst [.ref (h'.length + 1), .ref (h'.length + 2)] :: Ob.lst [o] :: Ob.lst [w] :: g) (h'.length + 1) = some [o] := fun g => by
      unfold lstAt
      rw [List.getElem?_append_right (by omega)]
      simp
    have C : ∀ g, lstAt (h' ++ Ob.lst [.ref (h'.length + 1), .ref (h'.length + 2)] :: Ob.lst [o] :: Ob.lst [w] :: g) (h'.length + 2) = some [w] := fun g => by
      unfold lstAt
      rw [List.getElem?_append_right (by omega)]
      simp
    have eh : h' ++ [Ob.lst [.ref (h'.length + 1), .ref (h'.length + 2)], Ob.lst [o], Ob.lst [w]] ++ [Ob.lst [o]] ++ [Ob.lst [w]] ++ [Ob.lst [.ref (h' ++ [Ob.lst [.ref (h'.length + 1), .ref (h'.length + 2)], Ob.lst [o], Ob.lst [w]]).length, .ref (h' ++ [Ob.lst [.ref (h'.length + 1), .ref (h'.length + 2)], Ob.lst [o], Ob.lst [w]] ++ [Ob.lst [o]]).length]] = h' ++ Ob.lst [.ref (h'.length + 1), .ref (h'.length + 2)] :: Ob.lst [o] :: Ob.lst [w] :: [Ob.lst [o], Ob.lst [w], Ob.lst [.ref (h' ++ [Ob.lst [.ref (h'.length + 1), .ref (h'.length + 2)], Ob.lst [o], Ob.lst [w]]).length, .ref (h' ++ [Ob.lst [.ref (h'.length + 1), .ref (h'.length + 2)], Ob.lst [o], Ob.lst [w]] ++ [Ob.lst [o]]).length]] := by simp
    have l1 : (h' ++ [Ob.lst [.ref (h'.length + 1), .ref (h'.length + 2)], Ob.lst [o], Ob.lst [w]]).length = h'.length + 3 := by simp
    have l2 : (h' ++ [Ob.lst [.ref (h'.length + 1), .ref (h'.length + 2)], Ob.lst [o], Ob.lst [w]] ++ [Ob.lst [o]]).length = h'.length + 4 := by simp
    refine same_ref (xs := [.ref (h'.length + 1), .ref (h'.length + 2)]) (ys := [.ref (h' ++ [Ob.lst [.ref (h'.length + 1), .ref (h'.length + 2)], Ob.lst [o], Ob.lst [w]]).length, .ref (h' ++ [Ob.lst [.ref (h'.length + 1), .ref (h'.length + 2)], Ob.lst [o], Ob.lst [w]] ++ [Ob.lst [o]]).length]) (by rw [eh]; exact A _) lst_last rfl (by show 2 < 1000000; decide) fun i x y a1 a2 => ?_
    rcases i with _ | _ | i
    · simp only [List.getElem?_cons_zero, Option.some.injEq] at a1 a2
      subst a1 a2
      refine same_ref (xs := [o]) (ys := [o]) (by rw [eh]; exact B _) (lstAt_app (lstAt_app lst_last)) rfl (by show 1 < 1000000; decide) fun i x y a1 a2 => ?_
      rw [a1] at a2
      cases a2
      have := List.mem_of_getElem? a1
      have : x = o := by simpa using this
      subst this
      exact hso _ _
    · simp only [List.getElem?_cons_succ, List.getElem?_cons_zero, Option.some.injEq] at a1 a2
      subst a1 a2
      refine same_ref (xs := [w]) (ys := [w]) (by rw [eh]; exact C _) (lstAt_app lst_last) rfl (by show 1 < 1000000; decide) fun i x y a1 a2 => ?_
      rw [a1] at a2
      cases a2
      have := List.mem_of_getElem? a1
      have : x = w := by simpa using this
      subst this
      rw [eh]
      exact wok_same hw _
    · simp at a1
  simp only [sAsg, sPar, sIf, sRet, sRetN, sExp, sSet, sAug, sAugS, sBrk, sCnt, sRaise, sNil, exE, fVar, fLit, fNeg, fIsN, fBin, fChain, fAnd, fOr, fNot, fIte, fNil, fCons, fTup, fLst, fFN, fMt, fIsi, fCall, fSl1, fRev, fNewL, fFC, fXv, fIt, fSeq, fin_v, fin_n, finE_v, finE_n, gAdd_i, gAdd_s, gSub_i, gEq_i, gEq_b, gNe_i, gNe_b, gLt_i, gLe_i, gGt_i, gGe_i, gInt_i, gInt_b, gInp_a, gInp_s, gLen_t, gTuple_t, gList_t, chk_t, asgT, asgL, tyD, Ev.isNon, gRange1_i, Ty.isa, List.getElem?_cons_zero, List.getElem?_cons_succ, List.set_cons_zero, List.set_cons_succ, List.map_cons, List.map_nil, List.cons_append, List.nil_append, List.any_cons, List.any_nil, Option.map_some, Option.map_none, Bool.or_false, Bool.false_or, Bool.or_true, Bool.true_or, Bool.and_true, Bool.true_and, Bool.and_false, Bool.false_and, Bool.not_true, Bool.not_false]
  exact k _ (pot_app (pot_app (pot_app (pot_app hp))))
end
end K78

set_option Elab.async false
set_option linter.all false
set_option maxRecDepth 100000
set_option maxHeartbeats 0
/-! K78g: the law. -/
namespace K78
open PySem PySem.Spec PyProof.Rows L2 NdefX Ev
theorem pot_le {h : VH} {kp c c' : Nat} (hp : PotAt h kp c) (e : c = c') : PotAt h kp c' := e ▸ hp
section
variable {st sg sd sn su ss sr : Ev.Spec} (H : Hs st sg sd sn su ss sr)
include H
theorem turn {kp c : Nat} {d : D} {e2 e3 e4 e5 e6 e7 e8 e9 e10 e11 e12 e13 e14 : Option D} {h' : VH} {Y : ED} (hp : PotAt h' kp c) (hc : c ≤ 900) (k : ∀ e2 e3 e4 e5 e6 e7 e8 e9 e10 e11 e12 e13 e14 h2, PotAt h2 kp (c + 54) → Y.nx [some d, some (.ref kp), e2, e3, e4, e5, e6, e7, e8, e9, e10, e11, e12, e13, e14] h2) :
    (sSeq (sAsg (fCall st (fCons (fVar 1) (fCons (fBin gIx (fLst (fCons (fLit (.int 12)) (fCons (fLit (.int 300)) (fCons (fBin gPow (fLit (.int 10)) (fLit (.int 9))) (fCons (fBin gPow (fLit (.int 10)) (fLit (.int 30))) fNil))))) (fCall st (fCons (fVar 1) (fCons (fLit (.int 4)) fNil)))) fNil))) (.nm 3)) (sSeq (sAsg (fCall sg (fCons (fVar 3) fNil)) (.nm 4)) (sSeq (sIf (fOr (fNot (fCall ss (fCons (fLst (fCons (fCall sd (fCons (fVar 3) fNil)) (fCons (fCall sd (fCons (fVar 3) fNil)) (fCons (fCall sn (fCons (fVar 4) fNil)) (fCons (fCall sn (fCons (fBin gAdd (fVar 4) (fTup (fCons (fLit (.int 0)) (fCons (fLit (.int 0)) fNil)))) fNil)) fNil))))) (fCons (fLst (fCons (fVar 4) (fCons (fVar 4) (fCons (fVar 3) (fCons (fVar 3) fNil))))) fNil)))) (fBin gNe (fCall su (fCons (fVar 4) fNil)) (fVar 3))) (sRet (fLit (.bl false))) sNil) (sSeq (sPar (fCons (fLst fNil) (fCons (fLit (.int 0)) fNil)) (.cons (.nm 5) (.cons (.nm 6) .nil))) (sSeq (sFor (fIt gRange1 (fCons (fCall st (fCons (fVar 1) (fCons (fLit (.int 40)) fNil))) fNil)) (.nm 7) (sSeq (sAsg (fIte (fBin gEq (fVar 6) (fLit (.int 1))) (fLit (.int 0)) (fCall st (fCons (fVar 1) (fCons (fLit (.int 2)) fNil)))) (.nm 6)) (sExp (fMt .append (fVar 5) (fCons (fVar 6) fNil))))) (sSeq (sAsg (fFN gTuple (fCons (fVar 5) fNil)) (.nm 8)) (sSeq (sAsg (fCall sn (fCons (fVar 8) fNil)) (.nm 9)) (sSeq (sFor (fIt gRange1 (fCons (fLit (.int 40)) fNil)) (.nm 10) (sIf (fAnd (fBin gNe (fVar 5) (fLst fNil)) (fBin gEq (fBin gIx (fVar 5) (fNeg (fLit (.int 1)))) (fLit (.int 0)))) (sExp (fMt .pop (fVar 5) fNil)) sNil)) (sSeq (sIf (fNot (fCall ss (fCons (fLst (fCons (fVar 9) (fCons (fCall sd (fCons (fVar 9) fNil)) fNil))) (fCons (fLst (fCons (fCall su (fCons (fVar 8) fNil)) (fCons (fFN gTuple (fCons (fVar 5) fNil)) fNil))) fNil)))) (sRet (fLit (.bl false))) sNil) (sSeq (sPar (fCons (fCall sd (fCons (fVar 3) fNil)) (fCons (fCall sd (fCons (fBin gAdd (fVar 3) (fLit (.int 1))) fNil)) fNil)) (.cons (.nm 11) (.cons (.nm 12) .nil))) (sSeq (sIf (fBin gLe (fTup (fCons (fFN gLen (fCons (fVar 12) fNil)) (fCons (fRev (fVar 12)) fNil))) (fTup (fCons (fFN gLen (fCons (fVar 11) fNil)) (fCons (fRev (fVar 11)) fNil)))) (sRet (fLit (.bl false))) sNil) (sSeq (sAsg (fBin gIx (fLst (fCons (fTup (fCons (fLit (.int 1)) (fCons (fLit (.int 1)) fNil))) (fCons (fTup (fCons (fLit (.int 0)) (fCons (fLit (.int 1)) (fCons (fLit (.int 1)) (fCons (fLit (.int 0)) fNil))))) (fCons (fLst (fCons (fLit (.int 0)) (fCons (fLit (.int 1)) fNil))) (fCons (fTup (fCons (fLit (.int 2)) fNil)) (fCons (fTup (fCons (fLit (.int 0)) (fCons (fNeg (fLit (.int 1))) fNil))) (fCons (fLit .non) (fCons (fTup (fCons (fLit (.bl true)) fNil)) (fCons (fTup (fCons (fLit (.str "1")) fNil)) (fCons (fLit (.int 5)) (fCons (fTup (fCons (fLit (.int 1)) (fCons (fLit (.int 0)) (fCons (fLit (.int 1)) (fCons (fLit (.int 1)) fNil))))) fNil))))))))))) (fCall st (fCons (fVar 1) (fCons (fLit (.int 10)) fNil)))) (.nm 13)) (sSeq (sAsg (fBin gIx (fLst (fCons (fNeg (fLit (.int 1))) (fCons (fLit .non) (fCons (fLit (.bl true)) (fCons (fLit (.str "3")) (fCons (fTup (fCons (fLit (.int 2)) fNil)) (fCons (fNeg (fBin gPow (fLit (.int 10)) (fLit (.int 20)))) fNil))))))) (fCall st (fCons (fVar 1) (fCons (fLit (.int 6)) fNil)))) (.nm 14)) (sIf (fNot (fCall ss (fCons (fCall sr (fCons (fVar 14) (fCons (fVar 13) fNil))) (fCons (fLst (fCons (fLst (fCons (fVar 14) fNil)) (fCons (fLst (fCons (fVar 13) fNil)) fNil))) fNil)))) (sRet (fLit (.bl false))) sNil)))))))))))))) [some d, some (.ref kp), e2, e3, e4, e5, e6, e7, e8, e9, e10, e11, e12, e13, e14] h' Y := by
  refine seq_ fun Y1 hn _ _ _ _ => ?_
  refine s0 H hp (by omega) fun n h1 n0 n1 hp => ?_
  rw [hn]
  obtain ⟨m, hm151, hcm⟩ := cnt_ex30 n0 (Int.le_of_lt n1)
  have hm150 : m ≤ 150 := by
    rcases Nat.lt_or_ge m 151 with h | h
    · omega
    · have := hcm.2 150 (by omega)
      have := fb_big 30
      rw [show 5 * 30 = 150 by rfl] at this
      omega
  obtain ⟨l, hl151, hcl⟩ := cnt_ex30 (n := n + 1) (by omega) (Int.add_one_le_of_lt n1)
  refine seq_ fun Y1 hn _ _ _ _ => ?_
  refine s1 H n0 hcm hm150 hp fun h2 hp => ?_
  rw [hn]
  refine seq_ fun Y1 hn _ _ _ _ => ?_
  refine s2 H n0 hcm hm150 hp fun h2 hp => ?_
  rw [hn]
  refine seq_ fun Y1 hn _ _ _ _ => ?_
  refine s3 H hp fun kd hne hd hp => ?_
  rw [hn]
  refine seq_ fun Y1 hn _ _ _ _ => ?_
  refine s4 H hne hd hp (by omega) fun ds l z h2 dr hl hd hp => ?_
  rw [hn]
  refine seq_ fun Y1 hn _ _ _ _ => ?_
  refine s5 H hd ?_
  rw [hn]
  refine seq_ fun Y1 hn _ _ _ _ => ?_
  refine s6 H dr.ok (by omega) ?_
  rw [hn]
  refine seq_ fun Y1 hn _ _ _ _ => ?_
  refine s7 H hne hd hl hp fun es j z h2 ed hz hd hp => ?_
  rw [hn]
  refine seq_ fun Y1 hn _ _ _ _ => ?_
  refine s8 H hd dr.ok hl ed hz hp fun h2 hp => ?_
  rw [hn]
  refine seq_ fun Y1 hn _ _ _ _ => ?_
  refine s9 H n0 hcm hm150 hcl hl151 hp fun h2 hp => ?_
  rw [hn]
  refine seq_ fun Y1 hn _ _ _ _ => ?_
  refine s10 H n0 hcm hcl ?_
  rw [hn]
  refine seq_ fun Y1 hn _ _ _ _ => ?_
  refine s11 H hp (by omega) fun w h2 hw hp => ?_
  rw [hn]
  refine seq_ fun Y1 hn _ _ _ _ => ?_
  refine s12 H hw hp (by omega) fun o h2 ho hw hp => ?_
  rw [hn]
  refine s13 H ho hw hp fun h2 hp => ?_
  exact k _ _ _ _ _ _ _ _ _ _ _ _ _ h2 (pot_le hp (by omega))
theorem law_s {spp : Ev.Spec} {d : D} {h : VH} {Q : PQ} {E : PX}
    (pot : ∀ {Q : PQ} {E : PX}, (∀ h' kk, PotAt h' kk 0 → Q (.ref kk) h') → spp [d] h Q E) (hQ : ∀ h', Q (.bl true) h') :
    (sSeq (sAsg (fCall spp (fCons (fVar 0) fNil)) (.nm 1)) (sSeq (sFor (fIt gRange1 (fCons (fLit (.int 8)) fNil)) (.nm 2) (sSeq (sAsg (fCall st (fCons (fVar 1) (fCons (fBin gIx (fLst (fCons (fLit (.int 12)) (fCons (fLit (.int 300)) (fCons (fBin gPow (fLit (.int 10)) (fLit (.int 9))) (fCons (fBin gPow (fLit (.int 10)) (fLit (.int 30))) fNil))))) (fCall st (fCons (fVar 1) (fCons (fLit (.int 4)) fNil)))) fNil))) (.nm 3)) (sSeq (sAsg (fCall sg (fCons (fVar 3) fNil)) (.nm 4)) (sSeq (sIf (fOr (fNot (fCall ss (fCons (fLst (fCons (fCall sd (fCons (fVar 3) fNil)) (fCons (fCall sd (fCons (fVar 3) fNil)) (fCons (fCall sn (fCons (fVar 4) fNil)) (fCons (fCall sn (fCons (fBin gAdd (fVar 4) (fTup (fCons (fLit (.int 0)) (fCons (fLit (.int 0)) fNil)))) fNil)) fNil))))) (fCons (fLst (fCons (fVar 4) (fCons (fVar 4) (fCons (fVar 3) (fCons (fVar 3) fNil))))) fNil)))) (fBin gNe (fCall su (fCons (fVar 4) fNil)) (fVar 3))) (sRet (fLit (.bl false))) sNil) (sSeq (sPar (fCons (fLst fNil) (fCons (fLit (.int 0)) fNil)) (.cons (.nm 5) (.cons (.nm 6) .nil))) (sSeq (sFor (fIt gRange1 (fCons (fCall st (fCons (fVar 1) (fCons (fLit (.int 40)) fNil))) fNil)) (.nm 7) (sSeq (sAsg (fIte (fBin gEq (fVar 6) (fLit (.int 1))) (fLit (.int 0)) (fCall st (fCons (fVar 1) (fCons (fLit (.int 2)) fNil)))) (.nm 6)) (sExp (fMt .append (fVar 5) (fCons (fVar 6) fNil))))) (sSeq (sAsg (fFN gTuple (fCons (fVar 5) fNil)) (.nm 8)) (sSeq (sAsg (fCall sn (fCons (fVar 8) fNil)) (.nm 9)) (sSeq (sFor (fIt gRange1 (fCons (fLit (.int 40)) fNil)) (.nm 10) (sIf (fAnd (fBin gNe (fVar 5) (fLst fNil)) (fBin gEq (fBin gIx (fVar 5) (fNeg (fLit (.int 1)))) (fLit (.int 0)))) (sExp (fMt .pop (fVar 5) fNil)) sNil)) (sSeq (sIf (fNot (fCall ss (fCons (fLst (fCons (fVar 9) (fCons (fCall sd (fCons (fVar 9) fNil)) fNil))) (fCons (fLst (fCons (fCall su (fCons (fVar 8) fNil)) (fCons (fFN gTuple (fCons (fVar 5) fNil)) fNil))) fNil)))) (sRet (fLit (.bl false))) sNil) (sSeq (sPar (fCons (fCall sd (fCons (fVar 3) fNil)) (fCons (fCall sd (fCons (fBin gAdd (fVar 3) (fLit (.int 1))) fNil)) fNil)) (.cons (.nm 11) (.cons (.nm 12) .nil))) (sSeq (sIf (fBin gLe (fTup (fCons (fFN gLen (fCons (fVar 12) fNil)) (fCons (fRev (fVar 12)) fNil))) (fTup (fCons (fFN gLen (fCons (fVar 11) fNil)) (fCons (fRev (fVar 11)) fNil)))) (sRet (fLit (.bl false))) sNil) (sSeq (sAsg (fBin gIx (fLst (fCons (fTup (fCons (fLit (.int 1)) (fCons (fLit (.int 1)) fNil))) (fCons (fTup (fCons (fLit (.int 0)) (fCons (fLit (.int 1)) (fCons (fLit (.int 1)) (fCons (fLit (.int 0)) fNil))))) (fCons (fLst (fCons (fLit (.int 0)) (fCons (fLit (.int 1)) fNil))) (fCons (fTup (fCons (fLit (.int 2)) fNil)) (fCons (fTup (fCons (fLit (.int 0)) (fCons (fNeg (fLit (.int 1))) fNil))) (fCons (fLit .non) (fCons (fTup (fCons (fLit (.bl true)) fNil)) (fCons (fTup (fCons (fLit (.str "1")) fNil)) (fCons (fLit (.int 5)) (fCons (fTup (fCons (fLit (.int 1)) (fCons (fLit (.int 0)) (fCons (fLit (.int 1)) (fCons (fLit (.int 1)) fNil))))) fNil))))))))))) (fCall st (fCons (fVar 1) (fCons (fLit (.int 10)) fNil)))) (.nm 13)) (sSeq (sAsg (fBin gIx (fLst (fCons (fNeg (fLit (.int 1))) (fCons (fLit .non) (fCons (fLit (.bl true)) (fCons (fLit (.str "3")) (fCons (fTup (fCons (fLit (.int 2)) fNil)) (fCons (fNeg (fBin gPow (fLit (.int 10)) (fLit (.int 20)))) fNil))))))) (fCall st (fCons (fVar 1) (fCons (fLit (.int 6)) fNil)))) (.nm 14)) (sIf (fNot (fCall ss (fCons (fCall sr (fCons (fVar 14) (fCons (fVar 13) fNil))) (fCons (fLst (fCons (fLst (fCons (fVar 14) fNil)) (fCons (fLst (fCons (fVar 13) fNil)) fNil))) fNil)))) (sRet (fLit (.bl false))) sNil))))))))))))))) (sRet (fLit (.bl true))))) [some d, none, none, none, none, none, none, none, none, none, none, none, none, none, none] h (fnD Q E) := by
  refine seq_ fun Z hn _ _ _ _ => ?_
  simp only [sAsg, sPar, sIf, sRet, sRetN, sExp, sSet, sAug, sAugS, sBrk, sCnt, sRaise, sNil, exE, fVar, fLit, fNeg, fIsN, fBin, fChain, fAnd, fOr, fNot, fIte, fNil, fCons, fTup, fLst, fFN, fMt, fIsi, fCall, fSl1, fRev, fNewL, fFC, fXv, fIt, fSeq, fin_v, fin_n, finE_v, finE_n, gAdd_i, gAdd_s, gSub_i, gEq_i, gEq_b, gNe_i, gNe_b, gLt_i, gLe_i, gGt_i, gGe_i, gInt_i, gInt_b, gInp_a, gInp_s, gLen_t, gTuple_t, gList_t, chk_t, asgT, asgL, tyD, Ev.isNon, gRange1_i, Ty.isa, List.getElem?_cons_zero, List.getElem?_cons_succ, List.set_cons_zero, List.set_cons_succ, List.map_cons, List.map_nil, List.cons_append, List.nil_append, List.any_cons, List.any_nil, Option.map_some, Option.map_none, Bool.or_false, Bool.false_or, Bool.or_true, Bool.true_or, Bool.and_true, Bool.true_and, Bool.and_false, Bool.false_and, Bool.not_true, Bool.not_false]
  refine pot fun h0 kp hp0 => ?_
  rw [hn]
  refine seq_ fun Z hn _ _ _ _ => ?_
  simp only [sFor, fIt, fCons, fLit, fNil, gRange1_i (show big62 8 = true by decide)]
  refine foL_rng (fun i env h' => ∃ e2 e3 e4 e5 e6 e7 e8 e9 e10 e11 e12 e13 e14, env = [some d, some (.ref kp), e2, e3, e4, e5, e6, e7, e8, e9, e10, e11, e12, e13, e14] ∧ PotAt h' kp (i * 100)) (fun i env h' ⟨e2, e3, e4, e5, e6, e7, e8, e9, e10, e11, e12, e13, e14, e, hp⟩ hi => ?_) (fun env h' _ => ?_) fuel 0 _ _ ⟨none, none, none, none, none, none, none, none, none, none, none, none, none, rfl, hp0⟩ (Nat.zero_le _) (by rw [fuel_eq]; decide)
  · have hi : i < 8 := hi
    subst e
    refine ⟨_, rfl, fun Z' zn _ zr _ _ => ?_⟩
    exact turn H hp (by omega) fun e2 e3 e4 e5 e6 e7 e8 e9 e10 e11 e12 e13 e14 h2 hp2 => zn _ _ ⟨e2, e3, e4, e5, e6, e7, e8, e9, e10, e11, e12, e13, e14, rfl, pot_up hp2 (by omega)⟩
  · rw [hn]
    simp only [sAsg, sPar, sIf, sRet, sRetN, sExp, sSet, sAug, sAugS, sBrk, sCnt, sRaise, sNil, exE, fVar, fLit, fNeg, fIsN, fBin, fChain, fAnd, fOr, fNot, fIte, fNil, fCons, fTup, fLst, fFN, fMt, fIsi, fCall, fSl1, fRev, fNewL, fFC, fXv, fIt, fSeq, fin_v, fin_n, finE_v, finE_n, gAdd_i, gAdd_s, gSub_i, gEq_i, gEq_b, gNe_i, gNe_b, gLt_i, gLe_i, gGt_i, gGe_i, gInt_i, gInt_b, gInp_a, gInp_s, gLen_t, gTuple_t, gList_t, chk_t, asgT, asgL, tyD, Ev.isNon, gRange1_i, Ty.isa, List.getElem?_cons_zero, List.getElem?_cons_succ, List.set_cons_zero, List.set_cons_succ, List.map_cons, List.map_nil, List.cons_append, List.nil_append, List.any_cons, List.any_nil, Option.map_some, Option.map_none, Bool.or_false, Bool.false_or, Bool.or_true, Bool.true_or, Bool.and_true, Bool.true_and, Bool.and_false, Bool.false_and, Bool.not_true, Bool.not_false]
    exact hQ _
end
theorem law_ok {d : D} {h : VH} {ns : List Int} {Q : PQ} {E : PX} (hd : ∀ g, gList [d] (h ++ g) = some (.new (ns.map D.int))) (hl : ns.length ≤ 1000) (hQ : ∀ h', Q (.bl true) h') : sp_law [d] h Q E := by
  refine fnSp_of rfl ?_
  exact law_s ⟨fun a b c d e => take' a b c d e, fun a b c d => gold_ok a b c d, fun a b c d => golden_ok a b c d, fun a b c => number_ok a b c, fun a b c => sum_ok a b c, fun a b => same' a b, fun ⟨t, a, b, _⟩ w q => refused_ok (a _) b (fun g => a _) (fun g {Q} {E} q => wok_dig w g q) q⟩ (fun q => pot' hd hl fun h' kk _ hp _ => q h' kk hp) hQ
end K78

set_option Elab.async false
set_option linter.all false
set_option maxRecDepth 100000
set_option maxHeartbeats 0
/-! K78z: the head. -/
namespace K78
open PySem PySem.Spec PyProof.Rows L2 NdefX Ev
def dd (x : Str) (i : Nat) : He.DefD := ⟨(x, none), x, x, defArgs (top i), defBody (top i), defScope (top i), [], []⟩
def fn : List He.DefD := [dd "is_integer" 5, dd "check_from" 6, dd "golden_sizes" 8, dd "golden_digits_of" 9, dd "is_digits" 10, dd "golden_digits" 11, dd "golden_number" 12, dd "_law_pot" 14, dd "_law_take" 15, dd "_law_same" 16, dd "_law_gold" 17, dd "_law_sum" 18, dd "_law_refused" 19, dd "law" 20]
def fa : List He.Fa := [.glo "is_integer", .glo "check_from", .glo "golden_sizes", .glo "golden_digits_of", .glo "is_digits", .glo "golden_digits", .glo "golden_number", .glo "_law_pot", .glo "_law_take", .glo "_law_same", .glo "_law_gold", .glo "_law_sum", .glo "_law_refused", .glo "law", .free "all", .free "any", .free "bool", .free "int", .free "isinstance", .free "len", .free "list", .free "range", .free "str", .free "tuple", .free "zip", .free "super", .glo "InvalidInteger", .glo "InvalidRows", .glo "DigitsError", .exm "InvalidInteger" "InvalidInteger" true, .exm "InvalidRows" "InvalidInteger" false, .exm "InvalidInteger" "InvalidRows" false, .exm "InvalidRows" "InvalidRows" true]
def stI : Stmt := match top 1 with
  | .ClassDef _ _ _ b .. => b.getD 0 (.Pass ⟨0, 0, 0, 0⟩)
  | s => s
def inD : InD := ⟨"DigitsError", "DigitsError.__init__", stI⟩
def ins : List InD := [inD]
abbrev R : PySem.W.OpenRow := PySem.W.OpenLaw.row PySem.Challenge.rw_wholedigits_k78_whole_golden_digits
def clsB (K : PySem.W.Frag) (x : Str) : Bool := inicB K (He.ga K "DigitsError") (He.ga K x) && (He.eqO (PySem.W.findIn K (.ref (He.ga K x)) "__init__") (some (some (.ref (inAd K inD)))) && xfB K (He.ga K x))
def ex (K : PySem.W.Frag) : Bool := iniB K (PySem.Challenge.rw_wholedigits_k78_whole_golden_digits).prog.main.file "DigitsError.__init__" (He.ga K "DigitsError") (inAd K inD) && xcs.all (clsB K)
abbrev hk : PySem.W.Hook := hookY 5 fa fn ins ex
def ob (s : PySem.W.SharedT) : AlY := obsY 5 fa fn ins ex (HandSHeadRun.getT s)
theorem ob_eq (s : PySem.W.SharedT) : ob s = hk.obs s.abs := obsY_eq (HandSHeadRun.getT_eq s)

def loose : List Str := ["__name__", "DigitsError", "InvalidInteger", "InvalidRows", "is_integer", "check_from", "golden_sizes", "golden_digits_of", "is_digits", "golden_digits", "golden_number", "_law_pot", "_law_take", "_law_same", "_law_gold", "_law_sum", "_law_refused"]
theorem run (w : World) : HandSHeadRun.RunEq R (PySem.W.view R.prog [20]) hk ob 4000 loose w := by
  intro os
  kernel_rfl
theorem iniT : ∃ p0 p1 p2 p3 p4 p5 p6 p7 p8 p9, IniT stI p0 p1 p2 p3 p4 p5 p6 p7 p8 p9 := ⟨_, _, _, _, _, _, _, _, _, _, rfl, nscope_by (by decide +kernel), rfl, ⟨_, _, rfl, rfl⟩, fun env => ⟨_, rfl⟩, fun env => rfl, fun _ _ _ _ _ _ _ _ us hl => match us, hl with | [_, _], _ => rfl⟩
section
variable {w : World} {K : PySem.W.Frag} {h base : Heap} {mg : Str → Option Value}
theorem xc (X : K.In h) (G : h.Ns mainGlobals mg) (c : SaysY fa fn ins ex K) {x : Str} (hx : mg x = some (.ref (He.ga K x))) (hm : x ∈ xcs) : Xc (PySem.Challenge.rw_wholedigits_k78_whole_golden_digits).prog w K mg base x := by
  obtain ⟨p0, p1, p2, p3, p4, p5, p6, p7, p8, p9, T⟩ := iniT
  obtain ⟨e1, e2⟩ := He.ba c.more
  have e3 := List.all_eq_true.mp e2 x hm
  obtain ⟨k1, k2⟩ := He.ba e3
  obtain ⟨k3, k4⟩ := He.ba k2
  exact xc_of T (c.ini inD (List.mem_singleton.mpr rfl)) e1 (He.free_ok X G (c.d.fact 25 (f := .free "super") rfl)) (by decide +kernel) hx k1 (He.eqO_ok k3)
theorem xvf (X : K.In h) (G : h.Ns mainGlobals mg) (c : SaysY fa fn ins ex K) (hx : ∀ x ∈ xcs, mg x = some (.ref (He.ga K x))) : ∀ c C, c ∈ xcs → mg c = some (.ref C) → XfC K C ∧ PySem.W.findIn K (.ref C) "value" = some none := fun x C hm hc => by
  obtain ⟨e1, e2⟩ := He.ba c.more
  have e3 := List.all_eq_true.mp e2 x hm
  obtain ⟨k1, k2⟩ := He.ba e3
  obtain ⟨k3, k4⟩ := He.ba k2
  have := hc.symm.trans (hx x hm)
  cases this
  exact ⟨xfB_ok k4, (inicB_ok k1).no⟩
theorem hxs (X : K.In h) (G : h.Ns mainGlobals mg) (c : SaysY fa fn ins ex K) : ∀ x ∈ xcs, mg x = some (.ref (He.ga K x)) := fun x hm => by
  simp only [xcs, List.mem_cons, List.not_mem_nil, or_false] at hm
  rcases hm with rfl | rfl
  · exact He.glo_ok X G (c.d.fact 26 (f := .glo "InvalidInteger") rfl)
  · exact He.glo_ok X G (c.d.fact 27 (f := .glo "InvalidRows") rfl)
noncomputable def facts (X : K.In h) (G : h.Ns mainGlobals mg) (c : SaysY fa fn ins ex K) : Fx (PySem.Challenge.rw_wholedigits_k78_whole_golden_digits).prog w K mg base where
  d_is_integer := (c.d.def_ 0 (d := dd "is_integer" 5) rfl).elim fun fd F => ⟨_, fd, He.glo_ok X G (c.d.fact 0 (f := .glo "is_integer") rfl), F⟩
  d_check_from := (c.d.def_ 1 (d := dd "check_from" 6) rfl).elim fun fd F => ⟨_, fd, He.glo_ok X G (c.d.fact 1 (f := .glo "check_from") rfl), F⟩
  d_golden_sizes := (c.d.def_ 2 (d := dd "golden_sizes" 8) rfl).elim fun fd F => ⟨_, fd, He.glo_ok X G (c.d.fact 2 (f := .glo "golden_sizes") rfl), F⟩
  d_golden_digits_of := (c.d.def_ 3 (d := dd "golden_digits_of" 9) rfl).elim fun fd F => ⟨_, fd, He.glo_ok X G (c.d.fact 3 (f := .glo "golden_digits_of") rfl), F⟩
  d_is_digits := (c.d.def_ 4 (d := dd "is_digits" 10) rfl).elim fun fd F => ⟨_, fd, He.glo_ok X G (c.d.fact 4 (f := .glo "is_digits") rfl), F⟩
  d_golden_digits := (c.d.def_ 5 (d := dd "golden_digits" 11) rfl).elim fun fd F => ⟨_, fd, He.glo_ok X G (c.d.fact 5 (f := .glo "golden_digits") rfl), F⟩
  d_golden_number := (c.d.def_ 6 (d := dd "golden_number" 12) rfl).elim fun fd F => ⟨_, fd, He.glo_ok X G (c.d.fact 6 (f := .glo "golden_number") rfl), F⟩
  d__law_pot := (c.d.def_ 7 (d := dd "_law_pot" 14) rfl).elim fun fd F => ⟨_, fd, He.glo_ok X G (c.d.fact 7 (f := .glo "_law_pot") rfl), F⟩
  d__law_take := (c.d.def_ 8 (d := dd "_law_take" 15) rfl).elim fun fd F => ⟨_, fd, He.glo_ok X G (c.d.fact 8 (f := .glo "_law_take") rfl), F⟩
  d__law_same := (c.d.def_ 9 (d := dd "_law_same" 16) rfl).elim fun fd F => ⟨_, fd, He.glo_ok X G (c.d.fact 9 (f := .glo "_law_same") rfl), F⟩
  d__law_gold := (c.d.def_ 10 (d := dd "_law_gold" 17) rfl).elim fun fd F => ⟨_, fd, He.glo_ok X G (c.d.fact 10 (f := .glo "_law_gold") rfl), F⟩
  d__law_sum := (c.d.def_ 11 (d := dd "_law_sum" 18) rfl).elim fun fd F => ⟨_, fd, He.glo_ok X G (c.d.fact 11 (f := .glo "_law_sum") rfl), F⟩
  d__law_refused := (c.d.def_ 12 (d := dd "_law_refused" 19) rfl).elim fun fd F => ⟨_, fd, He.glo_ok X G (c.d.fact 12 (f := .glo "_law_refused") rfl), F⟩
  d_law := (c.d.def_ 13 (d := dd "law" 20) rfl).elim fun fd F => ⟨_, fd, He.glo_ok X G (c.d.fact 13 (f := .glo "law") rfl), F⟩
  g_all := He.free_ok X G (c.d.fact 14 (f := .free "all") rfl)
  g_any := He.free_ok X G (c.d.fact 15 (f := .free "any") rfl)
  g_bool := He.free_ok X G (c.d.fact 16 (f := .free "bool") rfl)
  g_int := He.free_ok X G (c.d.fact 17 (f := .free "int") rfl)
  g_isinstance := He.free_ok X G (c.d.fact 18 (f := .free "isinstance") rfl)
  g_len := He.free_ok X G (c.d.fact 19 (f := .free "len") rfl)
  g_list := He.free_ok X G (c.d.fact 20 (f := .free "list") rfl)
  g_range := He.free_ok X G (c.d.fact 21 (f := .free "range") rfl)
  g_str := He.free_ok X G (c.d.fact 22 (f := .free "str") rfl)
  g_tuple := He.free_ok X G (c.d.fact 23 (f := .free "tuple") rfl)
  g_zip := He.free_ok X G (c.d.fact 24 (f := .free "zip") rfl)
  x_InvalidInteger := xc X G c (hxs X G c _ (by decide)) (by decide)
  x_InvalidRows := xc X G c (hxs X G c _ (by decide)) (by decide)
  xv := xvf X G c (hxs X G c)
  ka_InvalidInteger := He.ga K "InvalidInteger"
  k_InvalidInteger := ⟨He.glo_ok X G (c.d.fact 26 (f := .glo "InvalidInteger") rfl), fun y C q hs hy => by
    unfold sub_InvalidInteger at hs
    split at hs
    · rename_i e
      subst e
      cases hs
      have := hy.symm.trans (He.glo_ok X G (c.d.fact 26 (f := .glo "InvalidInteger") rfl))
      cases this
      exact He.exm_ok (c.d.fact 29 (f := .exm "InvalidInteger" "InvalidInteger" true) rfl)
    split at hs
    · rename_i e
      subst e
      cases hs
      have := hy.symm.trans (He.glo_ok X G (c.d.fact 27 (f := .glo "InvalidRows") rfl))
      cases this
      exact He.exm_ok (c.d.fact 30 (f := .exm "InvalidRows" "InvalidInteger" false) rfl)
    cases hs⟩
  ka_InvalidRows := He.ga K "InvalidRows"
  k_InvalidRows := ⟨He.glo_ok X G (c.d.fact 27 (f := .glo "InvalidRows") rfl), fun y C q hs hy => by
    unfold sub_InvalidRows at hs
    split at hs
    · rename_i e
      subst e
      cases hs
      have := hy.symm.trans (He.glo_ok X G (c.d.fact 26 (f := .glo "InvalidInteger") rfl))
      cases this
      exact He.exm_ok (c.d.fact 31 (f := .exm "InvalidInteger" "InvalidRows" false) rfl)
    split at hs
    · rename_i e
      subst e
      cases hs
      have := hy.symm.trans (He.glo_ok X G (c.d.fact 27 (f := .glo "InvalidRows") rfl))
      cases this
      exact He.exm_ok (c.d.fact 32 (f := .exm "InvalidRows" "InvalidRows" true) rfl)
    cases hs⟩
end
end K78

set_option Elab.async false
set_option linter.all false
set_option maxRecDepth 100000
set_option maxHeartbeats 0
/-! K78zz: the claim. -/
open PySem PySem.W PySem.Calls PyProof.Rows
theorem PySem.Challenge.cw_wholedigits_k78_whole_golden_digits_holds : PySem.Challenge.rw_wholedigits_k78_whole_golden_digits.Holds := by
  w_on; o_law
  refine HandSHeadRun.head_any (r := OpenLaw.row PySem.Challenge.rw_wholedigits_k78_whole_golden_digits) (q := view (OpenLaw.row PySem.Challenge.rw_wholedigits_k78_whole_golden_digits).prog [20]) (H := K78.hk) (ob := K78.ob) (M := 4000) (loose := K78.loose) (d := HandSHeadRun.topDef (OpenLaw.row PySem.Challenge.rw_wholedigits_k78_whole_golden_digits).prog 20) (kwd := []) K78.ob_eq
    (by kernel_rfl) (fun s => by kernel_rfl) K78.run (by kernel_rfl) (by kernel_rfl) (by kernel_rfl) (by rfl) (by first | assumption | decide +kernel) (by decide +kernel) ⟨rfl, rfl, rfl, rfl, rfl, by decide +kernel⟩ ?hw ?hc
  case hw => w_witness2
  case hc =>
    refine LamX.walk_ofTsE (l := PySem.Challenge.rw_wholedigits_k78_whole_golden_digits) (n := 63) (k := 9) (x := "script") (CX := fun w => L2.CX (PySem.Challenge.rw_wholedigits_k78_whole_golden_digits).prog w) rfl (by decide) (by kernel_rfl) ⟨rfl, by decide, by decide⟩ ?F (fun w H s e s' z => Ev.cx_no z)
    intro w mg fa h Y G hmg0
    obtain ⟨K, KX, c⟩ := Y
    have hmg : mg ("law" : PySem.Str) = some (.ref fa) := by
      have e : (HandSHeadRun.topDef (OpenLaw.row PySem.Challenge.rw_wholedigits_k78_whole_golden_digits).prog 20).name = ("law" : PySem.Str) := by kernel_rfl
      rw [← e]
      exact hmg0
    obtain ⟨fd, F⟩ := c.d.def_ 13 (d := K78.dd "law" 20) rfl
    exact ⟨K, KX, Ev.law_at (l := PySem.Challenge.rw_wholedigits_k78_whole_golden_digits) (st := K78.top 20) hmg (He.glo_ok KX G (c.d.fact 13 (f := .glo "law") rfl)) F (fun base hb hg => K78.ok_law (K78.facts KX G c)) (fun _ _ _ _ _ _ us hl => match us, hl with | [_], _ => rfl) fun ns d h Q E hl hd hQ => K78.law_ok hd (Nat.le_trans hl (by decide)) hQ⟩

